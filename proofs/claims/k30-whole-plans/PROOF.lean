import PyProof.Rows.All
import Wide.All
import OpenK.AllK
import Wide.FinOn
import HandS.ForMost
import HandS.ReplaceList
import HandS.ForExc
import HandS.Evl
import HandS.IsInst
import HandS.Deep
import HandS.Style
import HandS.TupAny
import HandS.Conv
import HandS.Flow
import HandS.ReplaceLit
import HandS.ExcInit
import HandS.ExcField
import HandS.ExcIs
import HandS.RaiseMore
import HandS.CallSlots
import PySem.Challenge.RW_streetpapers_k30_whole_plans_as_text
import HandS.Nested
import KE.KExcSuper
import KE.KExcIs
import HandS.ExcOwn
import HandS.More
set_option Elab.async false
set_option maxRecDepth 100000
set_option maxHeartbeats 8000000
namespace Pk
open PySem
/-! ### plans in plain Lean -/
inductive Pt where
  | step
  | stop
  | paint (c : Int)
  | turn (k : Int)
  | iff (c : Int) (a b : List Pt)
  | whl (c : Int) (a : List Pt)
  | rep (n : Int) (a : List Pt)
  | fvr (a : List Pt)
def num (c : Int) : Str := Str.ofString (toString c)
def dirT (k : Int) : Str := if k = 1 then "right" else if k = 2 then "back" else "left"
mutual
def Pt.data : Pt → PyData
  | .step => .tuple [.str "step"]
  | .stop => .tuple [.str "stop"]
  | .paint c => .tuple [.str "paint", .int c]
  | .turn k => .tuple [.str "turn", .int k]
  | .iff c a b => .tuple [.str "if", .int c, .tuple (Pt.datas a), .tuple (Pt.datas b)]
  | .whl c a => .tuple [.str "while", .int c, .tuple (Pt.datas a)]
  | .rep n a => .tuple [.str "repeat", .int n, .tuple (Pt.datas a)]
  | .fvr a => .tuple [.str "forever", .tuple (Pt.datas a)]
def Pt.datas : List Pt → List PyData
  | [] => []
  | p :: r => p.data :: Pt.datas r
end
mutual
/-- the lines of a part, each its words -/
def Pt.lines : Pt → List (List Str)
  | .step => [["step"]]
  | .stop => [["stop"]]
  | .paint c => [["paint", num c]]
  | .turn k => [["turn", dirT k]]
  | .iff c a b => ["if", num c] :: (Pt.liness a ++ ((match b with | [] => [] | _ :: _ => [("else" : Str)] :: Pt.liness b) ++ [[("end" : Str)]]))
  | .whl c a => ["while", num c] :: (Pt.liness a ++ [[("end" : Str)]])
  | .rep n a => ["repeat", num n] :: (Pt.liness a ++ [[("end" : Str)]])
  | .fvr a => ["forever"] :: (Pt.liness a ++ [[("end" : Str)]])
def Pt.liness : List Pt → List (List Str)
  | [] => []
  | p :: r => p.lines ++ Pt.liness r
end
mutual
/-- how deep blocks stand within a part; how many parts it has -/
def Pt.dep : Pt → Nat
  | .iff _ a b => 1 + max (Pt.deps a) (Pt.deps b)
  | .whl _ a => 1 + Pt.deps a
  | .rep _ a => 1 + Pt.deps a
  | .fvr a => 1 + Pt.deps a
  | .step => 0 | .stop => 0 | .paint _ => 0 | .turn _ => 0
def Pt.deps : List Pt → Nat
  | [] => 0
  | p :: r => max p.dep (Pt.deps r)
end
mutual
def Pt.cnt : Pt → Nat
  | .iff _ a b => 1 + (Pt.cnts a + Pt.cnts b)
  | .whl _ a => 1 + Pt.cnts a
  | .rep _ a => 1 + Pt.cnts a
  | .fvr a => 1 + Pt.cnts a
  | .step => 1 | .stop => 1 | .paint _ => 1 | .turn _ => 1
def Pt.cnts : List Pt → Nat
  | [] => 0
  | p :: r => p.cnt + Pt.cnts r
end
mutual
/-- the numbers lie in their bounds, n colours -/
def Pt.ok (n : Int) : Pt → Prop
  | .step => True | .stop => True
  | .paint c => 0 ≤ c ∧ c < n
  | .turn k => 1 ≤ k ∧ k ≤ 3
  | .iff c a b => (0 ≤ c ∧ c < n) ∧ Pt.oks n a ∧ Pt.oks n b
  | .whl c a => (0 ≤ c ∧ c < n) ∧ Pt.oks n a
  | .rep m a => (0 ≤ m ∧ m ≤ 8) ∧ Pt.oks n a
  | .fvr a => Pt.oks n a
def Pt.oks (n : Int) : List Pt → Prop
  | [] => True
  | p :: r => p.ok n ∧ Pt.oks n r
end
/-! ### the reader, a total function -/
/-- a part whose end is still to come: its word, its number, the block ahead of an else, the block that grows -/
structure Op where
  word : Str
  amt : Int
  b0 : Option (List PyData)
  cur : List PyData
def Op.first (o : Op) : List PyData := match o.b0 with | some b => b | none => o.cur
def Op.second (o : Op) : List PyData := match o.b0 with | some _ => o.cur | none => []
def Op.part (o : Op) : PyData :=
  if o.word = "forever" then .tuple [.str "forever", .tuple o.first]
  else if o.word = "if" then .tuple [.str "if", .int o.amt, .tuple o.first, .tuple o.second]
  else .tuple [.str o.word, .int o.amt, .tuple o.first]
/-- the reader: the colours, the parts that are open (the innermost first), how many parts there were -/
structure Pl where
  col : Option Int
  tow : List Op
  parts : Nat
def figs : List Nat := [48, 49, 50, 51, 52, 53, 54, 55, 56, 57]
/-- the number that the second word tells, within bounds -/
def numb (ws : List Str) (lo hi : Int) : Option Int :=
  match ws with
  | _ :: w :: _ => match TL.tl w with
    | [c] => if c ∈ figs ∧ lo ≤ (c : Int) - 48 ∧ (c : Int) - 48 ≤ hi then some ((c : Int) - 48) else none
    | _ => none
  | _ => none
def sizes : List (Str × Int) := [("paint", 2), ("turn", 2), ("if", 2), ("while", 2), ("repeat", 2), ("step", 1), ("stop", 1), ("forever", 1), ("else", 1), ("end", 1)]
def turns : List (Str × Int) := [("right", 1), ("back", 2), ("left", 3)]
def openers : List Str := ["if", "while", "repeat", "forever"]
/-- just so many words, else the place of the first that lacks or is too many -/
def size {α : Type} (ws : List Str) (n : Nat) (x : α) : Except Nat α := if ws.length = n then .ok x else .error (min ws.length n + 1)
def takeTurn (p : Pl) (first : Str) (ws : List Str) : Except Nat Pl :=
  match p.tow with
  | top :: o :: r =>
    if first = "else" ∧ (top.word ≠ "if" ∨ top.b0.isSome = true) then .error 1
    else size ws 1 (if first = "else" then { p with tow := { top with b0 := some top.cur, cur := [] } :: o :: r } else { p with tow := { o with cur := o.cur ++ [top.part] } :: r })
  | _ => .error 1
/-- the part's number: its place is 2 where it is no such word -/
def partNum (c : Int) (first : Str) (ws : List Str) : Except Nat Int :=
  if first = "turn" then (match ws with | _ :: w :: _ => (match turns.lookup w with | some k => .ok k | none => .error 2) | _ => .error 2)
  else if first = "repeat" then (match numb ws 0 8 with | some k => .ok k | none => .error 2)
  else if sizes.lookup first = some 2 then (match numb ws 0 (c - 1) with | some k => .ok k | none => .error 2)
  else .ok 0
def takePart (p : Pl) (c : Int) (first : Str) (ws : List Str) : Except Nat Pl :=
  if p.parts = 60 ∨ (first ∈ openers ∧ p.tow.length = 6) then .error 1
  else match partNum c first ws with
    | .error k => .error k
    | .ok k => size ws ((sizes.lookup first).getD 0).toNat (match p.tow with
        | [] => p
        | top :: r => if first ∈ openers then { p with tow := ⟨first, k, none, []⟩ :: top :: r, parts := p.parts + 1 }
            else { p with tow := { top with cur := top.cur ++ [if sizes.lookup first = some 2 then .tuple [.str first, .int k] else .tuple [.str first]] } :: r, parts := p.parts + 1 })
/-- a line with words taken in: the new state, or the place of the word that cannot stand -/
def take (p : Pl) (ws : List Str) : Except Nat Pl :=
  match ws with
  | [] => .ok p
  | first :: _ => match p.col with
    | none => if first ≠ "colours" then .error 1 else match numb ws 2 6 with
      | none => .error 2
      | some c => size ws 2 { p with col := some c }
    | some c => if (sizes.lookup first).isNone = true then .error 1 else if first = "else" ∨ first = "end" then takeTurn p first ws else takePart p c first ws
def wordsOf (l : Str) : List Str := (((TL.spl [32] 0 [] (TL.tl l)).filter fun w => !w.isEmpty).map fun w => (⟨w.toArray⟩ : Str))
def rdLines (l : List Nat) : List Str := (TL.spl [10] 0 [] l).map fun w => (⟨w.toArray⟩ : Str)
/-- line by line, the number of those before -/
def readGo : Nat → List Str → Pl → Except (Nat × Nat) Pl
  | _, [], p => .ok p
  | i, l :: r, p => match wordsOf l with
    | [] => readGo (i + 1) r p
    | w :: ws => match take p (w :: ws) with
      | .error k => .error (i + 1, k)
      | .ok q => readGo (i + 1) r q
def pl0 : Pl := ⟨none, [⟨"plan", 0, none, []⟩], 0⟩
/-- the text read, from its signs: (line, word) of the first word that cannot stand, or the plan -/
def readL (l : List Nat) : Except (Nat × Nat) (Int × List PyData) :=
  match readGo 0 (rdLines l) pl0 with
  | .error e => .error e
  | .ok p => match p.col, p.tow with
    | some c, [o] => .ok (c, o.first)
    | _, _ => .error ((rdLines l).length + 1, 1)
def readM (x : Str) : Except (Nat × Nat) (Int × List PyData) := readL (TL.tl x)
def toldL (l : List Nat) : Option (Nat × Nat) := match readL l with | .error e => some e | .ok _ => none
def told (x : Str) : Option (Nat × Nat) := toldL (TL.tl x)
def catL (l : List Nat) : Nat → List Nat
  | 0 => []
  | n + 1 => l ++ catL l n
def cat (x : Str) : Nat → Str
  | 0 => ""
  | n + 1 => x ++ cat x n
def rows : List (Str × Option (Nat × Nat)) :=
  [("", some (2, 1)), ("step", some (1, 1)), ("colours", some (1, 2)), ("colours 1", some (1, 2)), ("colours 7", some (1, 2)),
   ("colours 02", some (1, 2)), ("colours 2 2", some (1, 3)), ("colours 3\n" ++ "colours 3", some (2, 1)),
   ("colours 3\n" ++ "paint", some (2, 2)), ("colours 3\n" ++ "paint 3", some (2, 2)), ("colours 3\n" ++ "paint 1 1", some (2, 3)),
   ("colours 3\n" ++ "turn", some (2, 2)), ("colours 3\n" ++ "turn up", some (2, 2)), ("colours 3\n" ++ "turn left left", some (2, 3)),
   ("colours 3\n" ++ "step 1", some (2, 2)), ("colours 3\n" ++ "go", some (2, 1)), ("colours 3\n" ++ "if 3\nend", some (2, 2)), ("colours 3\n" ++ "if 1", some (3, 1)),
   ("colours 3\n" ++ "else", some (2, 1)), ("colours 3\n" ++ "end", some (2, 1)), ("colours 3\n" ++ "forever 1", some (2, 2)),
   ("colours 3\n" ++ "if 0\nelse\nelse", some (4, 1)), ("colours 3\n" ++ "while 1\nelse", some (3, 1)),
   ("colours 3\n" ++ "repeat 9\nend", some (2, 2)), ("colours 3\n" ++ "repeat 8\nend", none), ("colours 3\n" ++ "end 1", some (2, 1)),
   ("colours 3\n" ++ "if 0\nend 1", some (3, 2)), ("colours 3\n" ++ cat "step\n" 60, none), ("colours 3\n" ++ cat "step\n" 61, some (62, 1)),
   ("colours 3\n" ++ cat "forever\n" 6, some (7, 1)), ("colours 3\n" ++ cat "forever\n" 5 ++ cat "end\n" 5, none)]
theorem tl_cat (x : Str) : ∀ n, TL.tl (cat x n) = catL (TL.tl x) n
  | 0 => (by decide +kernel : TL.tl ("" : Str) = [])
  | n + 1 => by rw [cat, TL.tl_append, tl_cat x n, catL]
theorem rows_told : ∀ r ∈ rows, told r.1 = r.2 := by
  unfold rows told
  simp only [List.forall_mem_cons, TL.tl_append, tl_cat]
  refine ⟨?_, ?_, ?_, ?_, ?_, ?_, ?_, ?_, ?_, ?_, ?_, ?_, ?_, ?_, ?_, ?_, ?_, ?_, ?_, ?_, ?_, ?_, ?_, ?_, ?_, ?_, ?_, ?_, ?_, ?_, ?_, ?_⟩
  all_goals first | decide +kernel | (intro r h; cases h)
end Pk

namespace Pk
open PySem
/-! ### reading what was written -/
theorem tl_numc {c : Int} (h0 : 0 ≤ c) (h : c < 10) : TL.tl (num c) = [48 + c.toNat] := by
  obtain ⟨k, rfl⟩ := Int.eq_ofNat_of_zero_le h0
  show TL.tl (Str.ofString (toString ((k : Nat) : Int))) = _
  rw [TL.tl_num, TL.numL_lt (by omega)]
  rfl
theorem figs_has {k : Nat} (h : k < 10) : 48 + k ∈ figs := by
  have : ∀ k : Fin 10, 48 + k.val ∈ figs := by decide
  exact this ⟨k, h⟩
theorem numb_num {f : Str} {c lo hi : Int} (h0 : 0 ≤ c) (h : c < 10) (h1 : lo ≤ c) (h2 : c ≤ hi) : numb [f, num c] lo hi = some c := by
  unfold numb
  simp only [tl_numc h0 h]
  rw [if_pos ⟨figs_has (by omega), by omega, by omega⟩]
  congr 1
  omega
def feeds : List (List Str) → Pl → Option Pl
  | [], p => some p
  | ws :: r, p => match take p ws with
    | .ok q => feeds r q
    | .error _ => none
theorem feeds_cons {ws : List Str} {r : List (List Str)} {p q : Pl} (h : take p ws = .ok q) : feeds (ws :: r) p = feeds r q := by
  rw [feeds, h]
theorem readGo_feeds : ∀ (ls : List Str) (i : Nat) (p q : Pl), feeds ((ls.map wordsOf).filter fun w => !w.isEmpty) p = some q → readGo i ls p = .ok q
  | [], _, p, q, h => by
    have e : p = q := Option.some.inj h
    rw [e]; rfl
  | l :: r, i, p, q, h => by
    rw [List.map_cons] at h
    cases e : wordsOf l with
    | nil =>
      rw [e, List.filter_cons_of_neg (by simp)] at h
      rw [readGo, e]
      exact readGo_feeds r (i + 1) p q h
    | cons w ws =>
      rw [e, List.filter_cons_of_pos (by simp), feeds] at h
      rw [readGo, e]
      dsimp only
      cases t : take p (w :: ws) with
      | error k => rw [t] at h; cases h
      | ok p' =>
        rw [t] at h
        exact readGo_feeds r (i + 1) p' q h
theorem take_some {c : Int} {tow : List Op} {k : Nat} {f : Str} {ws : List Str} : take ⟨some c, tow, k⟩ (f :: ws) = if (sizes.lookup f).isNone = true then .error 1 else if f = "else" ∨ f = "end" then takeTurn ⟨some c, tow, k⟩ f (f :: ws) else takePart ⟨some c, tow, k⟩ c f (f :: ws) := rfl
/-- a part's line that opens nothing -/
theorem take_leaf {c : Int} {top : Op} {r : List Op} {k : Nat} {f : Str} {ws : List Str} {m : Int} {d : PyData} (h1 : (sizes.lookup f).isNone = false) (h2 : ¬ (f = "else" ∨ f = "end")) (h3 : f ∉ openers) (hk : k < 60)
    (hn : partNum c f (f :: ws) = .ok m) (hl : (f :: ws).length = ((sizes.lookup f).getD 0).toNat) (hd : (if sizes.lookup f = some 2 then PyData.tuple [.str f, .int m] else .tuple [.str f]) = d) :
    take ⟨some c, top :: r, k⟩ (f :: ws) = .ok ⟨some c, { top with cur := top.cur ++ [d] } :: r, k + 1⟩ := by
  rw [take_some, if_neg (by rw [h1]; decide), if_neg h2, takePart, if_neg (by
    rintro (e | e)
    · have : k = 60 := e
      omega
    · exact h3 e.1), hn]
  dsimp only
  rw [size, if_pos hl, if_neg h3, hd]
/-- a line that opens a part -/
theorem take_open {c : Int} {top : Op} {r : List Op} {k : Nat} {f : Str} {ws : List Str} {m : Int} (h1 : (sizes.lookup f).isNone = false) (h2 : ¬ (f = "else" ∨ f = "end")) (h3 : f ∈ openers) (hk : k < 60) (hr : r.length + 1 < 6)
    (hn : partNum c f (f :: ws) = .ok m) (hl : (f :: ws).length = ((sizes.lookup f).getD 0).toNat) :
    take ⟨some c, top :: r, k⟩ (f :: ws) = .ok ⟨some c, ⟨f, m, none, []⟩ :: top :: r, k + 1⟩ := by
  rw [take_some, if_neg (by rw [h1]; decide), if_neg h2, takePart, if_neg (by
    rintro (e | e)
    · have : k = 60 := e
      omega
    · have := e.2
      simp only [List.length_cons] at this
      omega), hn]
  dsimp only
  rw [size, if_pos hl, if_pos h3]
theorem take_end {c : Int} {top o : Op} {r : List Op} {k : Nat} : take ⟨some c, top :: o :: r, k⟩ ["end"] = .ok ⟨some c, { o with cur := o.cur ++ [top.part] } :: r, k⟩ := by
  rw [take_some, if_neg (by decide +kernel), if_pos (by decide +kernel), takeTurn]
  dsimp only
  rw [if_neg (fun h => absurd h.1 (by decide +kernel)), if_neg (by decide +kernel)]
  rfl
theorem take_else {c m : Int} {o : Op} {r : List Op} {k : Nat} {cur : List PyData} : take ⟨some c, ⟨"if", m, none, cur⟩ :: o :: r, k⟩ ["else"] = .ok ⟨some c, ⟨"if", m, some cur, []⟩ :: o :: r, k⟩ := by
  rw [take_some, if_neg (by decide +kernel), if_pos (by decide +kernel), takeTurn]
  dsimp only
  rw [if_neg (fun h => h.2.elim (fun e => e rfl) (fun e => Bool.noConfusion e)), if_pos rfl]
  rfl
theorem pn_turn {c k : Int} (h1 : 1 ≤ k) (h3 : k ≤ 3) : partNum c "turn" ["turn", dirT k] = .ok k := by
  have : k = 1 ∨ k = 2 ∨ k = 3 := by omega
  rcases this with rfl | rfl | rfl <;> rfl
theorem pn_two {c m : Int} {f : Str} (h1 : f ≠ "turn") (h2 : f ≠ "repeat") (h3 : sizes.lookup f = some 2) (h : numb [f, num m] 0 (c - 1) = some m) : partNum c f [f, num m] = .ok m := by
  rw [partNum, if_neg h1, if_neg h2, if_pos h3, h]
theorem pn_rep {c m : Int} (h : numb ["repeat", num m] 0 8 = some m) : partNum c "repeat" ["repeat", num m] = .ok m := by
  rw [partNum, if_neg (by decide +kernel), if_pos rfl, h]
theorem pn_none {c : Int} {f : Str} {ws : List Str} (h1 : f ≠ "turn") (h2 : f ≠ "repeat") (h3 : sizes.lookup f ≠ some 2) : partNum c f ws = .ok 0 := by
  unfold partNum
  rw [if_neg h1, if_neg h2, if_neg h3]
theorem part_fvr {m : Int} {ds : List PyData} : Op.part ⟨"forever", m, none, ds⟩ = .tuple [.str "forever", .tuple ds] := by rw [Op.part, if_pos rfl]; rfl
theorem part_if1 {m : Int} {ds : List PyData} : Op.part ⟨"if", m, none, ds⟩ = .tuple [.str "if", .int m, .tuple ds, .tuple []] := by rw [Op.part, if_neg (show ¬ (("if" : Str) = "forever") by decide +kernel), if_pos rfl]; rfl
theorem part_if2 {m : Int} {a b : List PyData} : Op.part ⟨"if", m, some a, b⟩ = .tuple [.str "if", .int m, .tuple a, .tuple b] := by rw [Op.part, if_neg (show ¬ (("if" : Str) = "forever") by decide +kernel), if_pos rfl]; rfl
theorem part_other {f : Str} {m : Int} {ds : List PyData} (h1 : f ≠ "forever") (h2 : f ≠ "if") : Op.part ⟨f, m, none, ds⟩ = .tuple [.str f, .int m, .tuple ds] := by rw [Op.part, if_neg h1, if_neg h2]; rfl
mutual
theorem feeds_pt {n : Int} (hn : n ≤ 6) : ∀ (p : Pt) (top : Op) (r : List Op) (k : Nat) (rest : List (List Str)), p.ok n → k + p.cnt ≤ 60 → r.length + 1 + p.dep ≤ 6 →
    feeds (p.lines ++ rest) ⟨some n, top :: r, k⟩ = feeds rest ⟨some n, { top with cur := top.cur ++ [p.data] } :: r, k + p.cnt⟩
  | .step, top, r, k, rest, _, hc, _ => feeds_cons (take_leaf (m := 0) (by decide +kernel) (by decide +kernel) (by decide +kernel) (by simp only [Pt.cnt] at hc; omega) (pn_none (by decide +kernel) (by decide +kernel) (by decide +kernel)) (by decide +kernel) (if_neg (by decide +kernel)))
  | .stop, top, r, k, rest, _, hc, _ => feeds_cons (take_leaf (m := 0) (by decide +kernel) (by decide +kernel) (by decide +kernel) (by simp only [Pt.cnt] at hc; omega) (pn_none (by decide +kernel) (by decide +kernel) (by decide +kernel)) (by decide +kernel) (if_neg (by decide +kernel)))
  | .paint c, top, r, k, rest, ho, hc, _ => by
    obtain ⟨h0, h1⟩ : 0 ≤ c ∧ c < n := ho
    exact feeds_cons (take_leaf (m := c) (by decide +kernel) (by decide +kernel) (by decide +kernel) (by simp only [Pt.cnt] at hc; omega) (pn_two (by decide +kernel) (by decide +kernel) (by decide +kernel) (numb_num h0 (by omega) h0 (by omega))) rfl (if_pos (by decide +kernel)))
  | .turn c, top, r, k, rest, ho, hc, _ => by
    obtain ⟨h0, h1⟩ : 1 ≤ c ∧ c ≤ 3 := ho
    exact feeds_cons (take_leaf (m := c) (by decide +kernel) (by decide +kernel) (by decide +kernel) (by simp only [Pt.cnt] at hc; omega) (pn_turn h0 h1) rfl (if_pos (by decide +kernel)))
  | .fvr a, top, r, k, rest, ho, hc, hd => by
    have ho' : Pt.oks n a := ho
    simp only [Pt.cnt] at hc
    simp only [Pt.dep] at hd
    have e : (Pt.fvr a).lines ++ rest = (["forever"] : List Str) :: (Pt.liness a ++ ((["end"] : List Str) :: rest)) := by simp [Pt.lines]
    rw [e, feeds_cons (take_open (m := 0) (by decide +kernel) (by decide +kernel) (by decide +kernel) (by omega) (by omega) (pn_none (by decide +kernel) (by decide +kernel) (by decide +kernel)) rfl),
      feeds_pts hn a _ _ _ _ ho' (by omega) (by simp only [List.length_cons]; omega), feeds_cons take_end]
    simp only [List.nil_append, part_fvr, Pt.data, Pt.cnt, Nat.add_assoc]
  | .whl c a, top, r, k, rest, ho, hc, hd => by
    obtain ⟨⟨h0, h1⟩, ho'⟩ : (0 ≤ c ∧ c < n) ∧ Pt.oks n a := ho
    simp only [Pt.cnt] at hc
    simp only [Pt.dep] at hd
    have e : (Pt.whl c a).lines ++ rest = (["while", num c] : List Str) :: (Pt.liness a ++ ((["end"] : List Str) :: rest)) := by simp [Pt.lines]
    rw [e, feeds_cons (take_open (m := c) (by decide +kernel) (by decide +kernel) (by decide +kernel) (by omega) (by omega) (pn_two (by decide +kernel) (by decide +kernel) (by decide +kernel) (numb_num h0 (by omega) h0 (by omega))) rfl),
      feeds_pts hn a _ _ _ _ ho' (by omega) (by simp only [List.length_cons]; omega), feeds_cons take_end]
    simp only [List.nil_append, part_other (show ("while" : Str) ≠ "forever" by decide +kernel) (show ("while" : Str) ≠ "if" by decide +kernel), Pt.data, Pt.cnt, Nat.add_assoc]
  | .rep c a, top, r, k, rest, ho, hc, hd => by
    obtain ⟨⟨h0, h1⟩, ho'⟩ : (0 ≤ c ∧ c ≤ 8) ∧ Pt.oks n a := ho
    simp only [Pt.cnt] at hc
    simp only [Pt.dep] at hd
    have e : (Pt.rep c a).lines ++ rest = (["repeat", num c] : List Str) :: (Pt.liness a ++ ((["end"] : List Str) :: rest)) := by simp [Pt.lines]
    rw [e, feeds_cons (take_open (m := c) (by decide +kernel) (by decide +kernel) (by decide +kernel) (by omega) (by omega) (pn_rep (numb_num h0 (by omega) h0 (by omega))) rfl),
      feeds_pts hn a _ _ _ _ ho' (by omega) (by simp only [List.length_cons]; omega), feeds_cons take_end]
    simp only [List.nil_append, part_other (show ("repeat" : Str) ≠ "forever" by decide +kernel) (show ("repeat" : Str) ≠ "if" by decide +kernel), Pt.data, Pt.cnt, Nat.add_assoc]
  | .iff c a [], top, r, k, rest, ho, hc, hd => by
    obtain ⟨⟨h0, h1⟩, ho', _⟩ : (0 ≤ c ∧ c < n) ∧ Pt.oks n a ∧ Pt.oks n [] := ho
    simp only [Pt.cnt, Pt.cnts] at hc
    simp only [Pt.dep, Pt.deps] at hd
    have e : (Pt.iff c a []).lines ++ rest = (["if", num c] : List Str) :: (Pt.liness a ++ ((["end"] : List Str) :: rest)) := by simp [Pt.lines]
    rw [e, feeds_cons (take_open (m := c) (by decide +kernel) (by decide +kernel) (by decide +kernel) (by omega) (by omega) (pn_two (by decide +kernel) (by decide +kernel) (by decide +kernel) (numb_num h0 (by omega) h0 (by omega))) rfl),
      feeds_pts hn a _ _ _ _ ho' (by omega) (by simp only [List.length_cons]; omega), feeds_cons take_end]
    simp only [List.nil_append, part_if1, Pt.data, Pt.datas, Pt.cnt, Pt.cnts, Nat.add_assoc, Nat.add_zero]
  | .iff c a (b :: bs), top, r, k, rest, ho, hc, hd => by
    obtain ⟨⟨h0, h1⟩, ho', ho2⟩ : (0 ≤ c ∧ c < n) ∧ Pt.oks n a ∧ Pt.oks n (b :: bs) := ho
    simp only [Pt.cnt] at hc
    simp only [Pt.dep] at hd
    have e : (Pt.iff c a (b :: bs)).lines ++ rest = (["if", num c] : List Str) :: (Pt.liness a ++ ((["else"] : List Str) :: (Pt.liness (b :: bs) ++ ((["end"] : List Str) :: rest)))) := by simp [Pt.lines]
    rw [e, feeds_cons (take_open (m := c) (by decide +kernel) (by decide +kernel) (by decide +kernel) (by omega) (by omega) (pn_two (by decide +kernel) (by decide +kernel) (by decide +kernel) (numb_num h0 (by omega) h0 (by omega))) rfl),
      feeds_pts hn a _ _ _ _ ho' (by omega) (by simp only [List.length_cons]; omega)]
    dsimp only
    rw [feeds_cons take_else, feeds_pts hn (b :: bs) _ _ _ _ ho2 (by omega) (by simp only [List.length_cons]; omega), feeds_cons take_end]
    simp only [List.nil_append, part_if2, Pt.data, Pt.cnt, Nat.add_assoc]
theorem feeds_pts {n : Int} (hn : n ≤ 6) : ∀ (ps : List Pt) (top : Op) (r : List Op) (k : Nat) (rest : List (List Str)), Pt.oks n ps → k + Pt.cnts ps ≤ 60 → r.length + 1 + Pt.deps ps ≤ 6 →
    feeds (Pt.liness ps ++ rest) ⟨some n, top :: r, k⟩ = feeds rest ⟨some n, { top with cur := top.cur ++ Pt.datas ps } :: r, k + Pt.cnts ps⟩
  | [], top, r, k, rest, _, _, _ => by simp only [Pt.liness, Pt.datas, Pt.cnts, List.nil_append, List.append_nil, Nat.add_zero]
  | p :: ps, top, r, k, rest, ho, hc, hd => by
    obtain ⟨h1, h2⟩ : p.ok n ∧ Pt.oks n ps := ho
    simp only [Pt.cnts] at hc
    simp only [Pt.deps] at hd
    rw [Pt.liness, List.append_assoc, feeds_pt hn p _ _ _ _ h1 (by omega) (by omega), feeds_pts hn ps _ _ _ _ h2 (by omega) (by omega)]
    simp only [Pt.datas, Pt.cnts, List.append_assoc, List.singleton_append, Nat.add_assoc]
end
/-- all lines of a plan -/
def planLines (n : Int) (ps : List Pt) : List (List Str) := ["colours", num n] :: Pt.liness ps
theorem feeds_plan {n : Int} {ps : List Pt} (h2 : 2 ≤ n) (h6 : n ≤ 6) (ho : Pt.oks n ps) (hc : Pt.cnts ps ≤ 60) (hd : 1 + Pt.deps ps ≤ 6) :
    feeds (planLines n ps) pl0 = some ⟨some n, [⟨"plan", 0, none, Pt.datas ps⟩], Pt.cnts ps⟩ := by
  have e : take pl0 ["colours", num n] = .ok ⟨some n, pl0.tow, 0⟩ := by
    have e1 : numb ["colours", num n] 2 6 = some n := numb_num (by omega) (by omega) h2 h6
    unfold take
    dsimp only [pl0]
    rw [if_neg (fun h => h rfl), e1]
    rfl
  rw [planLines, feeds_cons e, ← List.append_nil (Pt.liness ps)]
  show feeds _ ⟨some n, [⟨"plan", 0, none, []⟩], 0⟩ = _
  rw [feeds_pts h6 ps _ _ _ _ ho (by omega) (by simp only [List.length_nil]; omega)]
  simp only [feeds, List.nil_append, Nat.zero_add]
theorem readL_plan {l : List Nat} {n : Int} {ps : List Pt} (h2 : 2 ≤ n) (h6 : n ≤ 6) (ho : Pt.oks n ps) (hc : Pt.cnts ps ≤ 60) (hd : 1 + Pt.deps ps ≤ 6)
    (hl : (((rdLines l).map wordsOf).filter fun w => !w.isEmpty) = planLines n ps) : readL l = .ok (n, Pt.datas ps) := by
  have h := readGo_feeds (rdLines l) 0 pl0 _ (by rw [hl]; exact feeds_plan h2 h6 ho hc hd)
  rw [readL, h]
  rfl
end Pk

namespace Pk
open PySem
/-! ### the words of a text's lines, sign by sign -/
def ne (w : List Nat) : Bool := !w.isEmpty
def flushW (ws : List (List Nat)) (w : List Nat) : List (List Nat) := if w = [] then ws else ws ++ [w]
def flushL (ls : List (List (List Nat))) (ws : List (List Nat)) : List (List (List Nat)) := if ws = [] then ls else ls ++ [ws]
def st32 (s : List (List Nat) × List Nat) (c : Nat) : List (List Nat) × List Nat := if c = 32 then (flushW s.1 s.2, []) else (s.1, s.2 ++ [c])
abbrev MSt := List (List (List Nat)) × List (List Nat) × List Nat
def stepM (s : MSt) (c : Nat) : MSt := if c = 10 then (flushL s.1 (flushW s.2.1 s.2.2), [], []) else (s.1, st32 s.2 c)
def finM (s : MSt) : List (List (List Nat)) := flushL s.1 (flushW s.2.1 s.2.2)
theorem pre1 (s c : Nat) (r : List Nat) : TL.pre [s] (c :: r) = (c == s) := by
  simp [TL.pre]
theorem spl1 (s : Nat) (acc r : List Nat) (c : Nat) : TL.spl [s] 0 acc (c :: r) = if c = s then acc :: TL.spl [s] 0 [] r else TL.spl [s] 0 (acc ++ [c]) r := by
  by_cases h : c = s
  · rw [if_pos h, TL.spl_hit (by rw [pre1, h]; exact beq_self_eq_true s)]
    rfl
  · rw [if_neg h, TL.spl_miss (by rw [pre1]; exact beq_eq_false_iff_ne.mpr h)]
def f32 (l : List Nat) : List (List Nat) := (TL.spl [32] 0 [] l).filter ne
theorem flush_filter (ws : List (List Nat)) (w : List Nat) (r : List (List Nat)) : ws ++ (w :: r).filter ne = flushW ws w ++ r.filter ne := by
  cases w with
  | nil => rw [List.filter_cons_of_neg (by decide), flushW, if_pos rfl]
  | cons c w => rw [List.filter_cons_of_pos (by simp [ne]), flushW, if_neg (by simp)]; simp
theorem f32_run : ∀ (l : List Nat) (ws : List (List Nat)) (w : List Nat), ws ++ (TL.spl [32] 0 w l).filter ne = flushW (l.foldl st32 (ws, w)).1 (l.foldl st32 (ws, w)).2
  | [], ws, w => by
    rw [TL.spl_nil, flush_filter]
    simp
  | c :: r, ws, w => by
    rw [spl1, List.foldl_cons, st32]
    by_cases h : c = 32
    · rw [if_pos h, if_pos h, flush_filter]
      exact f32_run r _ _
    · rw [if_neg h, if_neg h]
      exact f32_run r _ _
theorem f32_eq (l : List Nat) : f32 l = flushW (l.foldl st32 ([], [])).1 (l.foldl st32 ([], [])).2 := by
  have h := f32_run l [] []
  rw [List.nil_append] at h
  exact h
def neW (ws : List (List Nat)) : Bool := !ws.isEmpty
def nwL (l : List Nat) : List (List (List Nat)) := ((TL.spl [10] 0 [] l).map f32).filter neW
theorem flushL_filter (ls : List (List (List Nat))) (ws : List (List Nat)) (r : List (List (List Nat))) : ls ++ (ws :: r).filter neW = flushL ls ws ++ r.filter neW := by
  cases ws with
  | nil => rw [List.filter_cons_of_neg (by decide), flushL, if_pos rfl]
  | cons c w => rw [List.filter_cons_of_pos (by simp [neW]), flushL, if_neg (by simp)]; simp
theorem nw_run : ∀ (l : List Nat) (ls : List (List (List Nat))) (a : List Nat), ls ++ ((TL.spl [10] 0 a l).map f32).filter neW = finM (l.foldl stepM (ls, a.foldl st32 ([], [])))
  | [], ls, a => by
    rw [TL.spl_nil, List.map_cons, flushL_filter, List.map_nil, List.foldl_nil, finM, f32_eq]
    simp
  | c :: r, ls, a => by
    rw [spl1, List.foldl_cons, stepM]
    by_cases h : c = 10
    · rw [if_pos h, if_pos h, List.map_cons, flushL_filter, f32_eq]
      exact nw_run r _ []
    · rw [if_neg h, if_neg h, nw_run r ls (a ++ [c]), List.foldl_append]
      rfl
theorem nwL_eq (l : List Nat) : nwL l = finM (l.foldl stepM ([], [], [])) := by
  have h := nw_run l [] []
  rw [List.nil_append] at h
  exact h
/-! ### doubled blanks, doubled newlines: the same words -/
theorem flushW_nil (ws : List (List Nat)) : flushW ws [] = ws := if_pos rfl
theorem flushL_nil (ls : List (List (List Nat))) : flushL ls [] = ls := if_pos rfl
theorem step_10 (s : MSt) : stepM (stepM s 10) 10 = stepM s 10 := by
  simp only [stepM, if_true, flushW_nil, flushL_nil]
theorem step_32 (s : MSt) : stepM (stepM s 32) 32 = stepM s 32 := by
  have e : ¬ (32 : Nat) = 10 := by decide
  simp only [stepM, if_neg e, st32, if_true, flushW_nil]
theorem fin_10 (s : MSt) : finM (stepM s 10) = finM s := by
  simp only [stepM, if_true, finM, flushW_nil, flushL_nil]
theorem repl1 (c : Nat) (z r : List Nat) (d : Nat) : StrLaws.replL [c] z (d :: r) = (if d = c then z else [d]) ++ StrLaws.replL [c] z r := by
  by_cases h : d = c
  · rw [if_pos h, StrLaws.replL_hit (by simp) (by simp [h])]
    rfl
  · rw [if_neg h, StrLaws.replL_miss (by simp [h])]
    rfl
theorem fold_twice {c : Nat} (hs : ∀ s : MSt, stepM (stepM s c) c = stepM s c) : ∀ (l : List Nat) (s : MSt), (StrLaws.replL [c] [c, c] l).foldl stepM s = l.foldl stepM s
  | [], s => by rw [StrLaws.replL_nil]
  | d :: r, s => by
    rw [repl1, List.foldl_append, fold_twice hs r, List.foldl_cons]
    by_cases h : d = c
    · rw [if_pos h, h]
      show r.foldl stepM (stepM (stepM s c) c) = _
      rw [hs]
    · rw [if_neg h]
      rfl
theorem nw_wide (l : List Nat) : nwL ([10, 32] ++ StrLaws.replL [10] [10, 10] (StrLaws.replL [32] [32, 32] l) ++ [10]) = nwL l := by
  rw [nwL_eq, nwL_eq, List.foldl_append, List.foldl_append, fold_twice step_10, fold_twice step_32]
  show finM (stepM _ 10) = _
  rw [fin_10]
  rfl
/-! ### in texts -/
theorem wordsOf_eq (l : List Nat) : wordsOf ⟨l.toArray⟩ = (f32 l).map fun w => (⟨w.toArray⟩ : Str) := by
  unfold wordsOf
  rw [TL.tl_mk]
  rfl
def nw (l : List Nat) : List (List Str) := ((rdLines l).map wordsOf).filter fun w => !w.isEmpty
theorem nw_nwL (l : List Nat) : nw l = (nwL l).map fun ws => ws.map fun w => (⟨w.toArray⟩ : Str) := by
  unfold nw nwL rdLines
  rw [List.map_map, List.filter_map, List.filter_map, List.map_map]
  have e : (wordsOf ∘ fun (w : List Nat) => (⟨w.toArray⟩ : Str)) = fun l => (f32 l).map fun w => (⟨w.toArray⟩ : Str) := by
    funext l
    exact wordsOf_eq l
  rw [e]
  have e2 : ((fun w : List Str => !w.isEmpty) ∘ fun l => (f32 l).map fun w => (⟨w.toArray⟩ : Str)) = (neW ∘ f32) := by
    funext l
    simp [neW]
  rw [e2]
  rfl
/-- a word as the texts here have them -/
def wordOk (w : Str) : Prop := TL.tl w ≠ [] ∧ 32 ∉ TL.tl w ∧ 10 ∉ TL.tl w
def lineOk (ws : List Str) : Prop := ws ≠ [] ∧ ∀ w ∈ ws, wordOk w
def codes (W : List (List Str)) : List Nat := TL.joinL [10] (W.map fun ws => TL.joinL [32] (ws.map TL.tl))
theorem joinL_free {s c : Nat} (hc : s ≠ c) : ∀ (ps : List (List Nat)), (∀ p ∈ ps, s ∉ p) → s ∉ TL.joinL [c] ps
  | [], _ => by simp [TL.joinL]
  | [p], h => by simpa [TL.joinL] using h p (by simp)
  | p :: q :: r, h => by
    have ih := joinL_free hc (q :: r) (fun x hx => h x (by simp [hx]))
    have hp := h p (by simp)
    simp only [TL.joinL, List.mem_append, List.mem_singleton, not_or]
    exact ⟨hp, hc, ih⟩
theorem nwL_codes {W : List (List Str)} (h0 : W ≠ []) (h : ∀ ws ∈ W, lineOk ws) : nwL (codes W) = W.map fun ws => ws.map TL.tl := by
  unfold nwL codes
  rw [TL.spl_join (by simpa using h0) (by
    intro p hp
    obtain ⟨ws, hw, rfl⟩ := List.mem_map.mp hp
    refine joinL_free (by decide) _ fun q hq => ?_
    obtain ⟨w, hw', rfl⟩ := List.mem_map.mp hq
    exact ((h ws hw).2 w hw').2.2)]
  rw [List.map_map]
  have e : ∀ ws ∈ W, (f32 ∘ fun ws => TL.joinL [32] (List.map TL.tl ws)) ws = ws.map TL.tl := by
    intro ws hw
    show f32 (TL.joinL [32] (ws.map TL.tl)) = _
    unfold f32
    rw [TL.spl_join (by simpa using (h ws hw).1) (by
      intro p hp
      obtain ⟨w, hw', rfl⟩ := List.mem_map.mp hp
      exact ((h ws hw).2 w hw').2.1)]
    refine List.filter_eq_self.mpr fun p hp => ?_
    obtain ⟨w, hw', rfl⟩ := List.mem_map.mp hp
    have := ((h ws hw).2 w hw').1
    cases e : TL.tl w with
    | nil => exact absurd e this
    | cons a b => rfl
  rw [List.map_congr_left e]
  refine List.filter_eq_self.mpr fun p hp => ?_
  obtain ⟨ws, hw, rfl⟩ := List.mem_map.mp hp
  have := (h ws hw).1
  cases ws with
  | nil => exact absurd rfl this
  | cons a b => rfl
theorem map_back (W : List (List Str)) : ((W.map fun ws => ws.map TL.tl).map fun ws => ws.map fun w => (⟨w.toArray⟩ : Str)) = W := by
  rw [List.map_map]
  have : ((fun ws => List.map (fun w => (⟨w.toArray⟩ : Str)) ws) ∘ fun ws => List.map TL.tl ws) = id := by
    funext ws
    show List.map _ (List.map TL.tl ws) = ws
    rw [List.map_map]
    have : ((fun w : List Nat => (⟨w.toArray⟩ : Str)) ∘ TL.tl) = id := by
      funext x
      exact TL.mk_tl x
    rw [this, List.map_id]
  rw [this, List.map_id]
theorem nw_codes {W : List (List Str)} (h0 : W ≠ []) (h : ∀ ws ∈ W, lineOk ws) : nw (codes W) = W := by
  rw [nw_nwL, nwL_codes h0 h, map_back]
theorem nw_codes_wide {W : List (List Str)} (h0 : W ≠ []) (h : ∀ ws ∈ W, lineOk ws) :
    nw ([10, 32] ++ StrLaws.replL [10] [10, 10] (StrLaws.replL [32] [32, 32] (codes W)) ++ [10]) = W := by
  rw [nw_nwL, nw_wide, nwL_codes h0 h, map_back]
/-! ### the lines of a plan are such -/
theorem word_num {c : Int} (h0 : 0 ≤ c) (h : c < 10) : wordOk (num c) := by
  unfold wordOk
  rw [tl_numc h0 h]
  refine ⟨by simp, ?_, ?_⟩ <;> simp <;> omega
theorem word_dir (k : Int) : wordOk (dirT k) := by
  unfold dirT
  by_cases h : k = 1
  · rw [if_pos h]; unfold wordOk; decide +kernel
  · rw [if_neg h]
    by_cases h : k = 2
    · rw [if_pos h]; unfold wordOk; decide +kernel
    · rw [if_neg h]; unfold wordOk; decide +kernel
theorem line1 {a : Str} (h : wordOk a) : lineOk [a] := ⟨by simp, fun w hw => by rw [List.mem_singleton.mp hw]; exact h⟩
theorem line2 {a b : Str} (h : wordOk a) (h' : wordOk b) : lineOk [a, b] := ⟨by simp, fun w hw => by
  rcases List.mem_cons.mp hw with rfl | hw
  · exact h
  · rw [List.mem_singleton.mp hw]; exact h'⟩
mutual
theorem lines_ok {n : Int} (hn : n ≤ 6) : ∀ p : Pt, p.ok n → ∀ ws ∈ p.lines, lineOk ws
  | .step, _, ws, h => by rw [List.mem_singleton.mp h]; exact line1 (by unfold wordOk; decide +kernel)
  | .stop, _, ws, h => by rw [List.mem_singleton.mp h]; exact line1 (by unfold wordOk; decide +kernel)
  | .paint c, ho, ws, h => by
    obtain ⟨h0, h1⟩ : 0 ≤ c ∧ c < n := ho
    rw [List.mem_singleton.mp h]; exact line2 (by unfold wordOk; decide +kernel) (word_num h0 (by omega))
  | .turn c, ho, ws, h => by
    rw [List.mem_singleton.mp h]; exact line2 (by unfold wordOk; decide +kernel) (word_dir c)
  | .iff c a b, ho, ws, h => by
    obtain ⟨⟨h0, h1⟩, ha, hb⟩ : (0 ≤ c ∧ c < n) ∧ Pt.oks n a ∧ Pt.oks n b := ho
    have ia := liness_ok hn a ha
    have ib := liness_ok hn b hb
    cases b with
    | nil =>
      have e : (Pt.iff c a []).lines = (["if", num c] : List Str) :: (Pt.liness a ++ [[("end" : Str)]]) := by simp [Pt.lines]
      rw [e] at h
      rcases List.mem_cons.mp h with rfl | h
      · exact line2 (by unfold wordOk; decide +kernel) (word_num h0 (by omega))
      rcases List.mem_append.mp h with h | h
      · exact ia ws h
      · rw [List.mem_singleton.mp h]; exact line1 (by unfold wordOk; decide +kernel)
    | cons x y =>
      have e : (Pt.iff c a (x :: y)).lines = (["if", num c] : List Str) :: (Pt.liness a ++ (([("else" : Str)] :: Pt.liness (x :: y)) ++ [[("end" : Str)]])) := by simp [Pt.lines]
      rw [e] at h
      rcases List.mem_cons.mp h with rfl | h
      · exact line2 (by unfold wordOk; decide +kernel) (word_num h0 (by omega))
      rcases List.mem_append.mp h with h | h
      · exact ia ws h
      rcases List.mem_append.mp h with h | h
      · rcases List.mem_cons.mp h with rfl | h
        · exact line1 (by unfold wordOk; decide +kernel)
        · exact ib ws h
      · rw [List.mem_singleton.mp h]; exact line1 (by unfold wordOk; decide +kernel)
  | .whl c a, ho, ws, h => by
    obtain ⟨⟨h0, h1⟩, ha⟩ : (0 ≤ c ∧ c < n) ∧ Pt.oks n a := ho
    have ia := liness_ok hn a ha
    rw [Pt.lines] at h
    rcases List.mem_cons.mp h with rfl | h
    · exact line2 (by unfold wordOk; decide +kernel) (word_num h0 (by omega))
    rcases List.mem_append.mp h with h | h
    · exact ia ws h
    · rw [List.mem_singleton.mp h]; exact line1 (by unfold wordOk; decide +kernel)
  | .rep c a, ho, ws, h => by
    obtain ⟨⟨h0, h1⟩, ha⟩ : (0 ≤ c ∧ c ≤ 8) ∧ Pt.oks n a := ho
    have ia := liness_ok hn a ha
    rw [Pt.lines] at h
    rcases List.mem_cons.mp h with rfl | h
    · exact line2 (by unfold wordOk; decide +kernel) (word_num h0 (by omega))
    rcases List.mem_append.mp h with h | h
    · exact ia ws h
    · rw [List.mem_singleton.mp h]; exact line1 (by unfold wordOk; decide +kernel)
  | .fvr a, ho, ws, h => by
    have ha : Pt.oks n a := ho
    have ia := liness_ok hn a ha
    rw [Pt.lines] at h
    rcases List.mem_cons.mp h with rfl | h
    · exact line1 (by unfold wordOk; decide +kernel)
    rcases List.mem_append.mp h with h | h
    · exact ia ws h
    · rw [List.mem_singleton.mp h]; exact line1 (by unfold wordOk; decide +kernel)
theorem liness_ok {n : Int} (hn : n ≤ 6) : ∀ ps : List Pt, Pt.oks n ps → ∀ ws ∈ Pt.liness ps, lineOk ws
  | [], _, ws, h => by cases h
  | p :: r, ho, ws, h => by
    obtain ⟨h1, h2⟩ : p.ok n ∧ Pt.oks n r := ho
    rw [Pt.liness] at h
    rcases List.mem_append.mp h with h | h
    · exact lines_ok hn p h1 ws h
    · exact liness_ok hn r h2 ws h
end
theorem plan_ok {n : Int} {ps : List Pt} (h2 : 2 ≤ n) (h6 : n ≤ 6) (ho : Pt.oks n ps) : ∀ ws ∈ planLines n ps, lineOk ws := by
  intro ws h
  rcases List.mem_cons.mp h with rfl | h
  · exact line2 (by unfold wordOk; decide +kernel) (word_num (by omega) (by omega))
  · exact liness_ok h6 ps ho ws h
/-- the text of a plan: words by blanks, lines by newlines -/
def planText (n : Int) (ps : List Pt) : Str := Txt.join "\n" ((planLines n ps).map (Txt.join " "))
theorem tl_planText (n : Int) (ps : List Pt) : TL.tl (planText n ps) = codes (planLines n ps) := by
  unfold planText codes
  rw [TL.join_eq, TL.tl_join, List.map_map]
  have e1 : TL.tl ("\n" : Str) = [10] := by decide +kernel
  have e2 : TL.tl (" " : Str) = [32] := by decide +kernel
  rw [e1]
  congr 1
  refine List.map_congr_left fun ws _ => ?_
  show TL.tl (Txt.join " " ws) = _
  rw [TL.join_eq, TL.tl_join, e2]
theorem read_back {n : Int} {ps : List Pt} (h2 : 2 ≤ n) (h6 : n ≤ 6) (ho : Pt.oks n ps) (hc : Pt.cnts ps ≤ 60) (hd : 1 + Pt.deps ps ≤ 6) : readM (planText n ps) = .ok (n, Pt.datas ps) := by
  unfold readM
  rw [tl_planText]
  exact readL_plan h2 h6 ho hc hd (nw_codes (by simp [planLines]) (plan_ok h2 h6 ho))
/-- the same text, its blanks and newlines doubled, more of them around -/
def wideText (x : Str) : Str := ("\n " ++ Txt.replace (Txt.replace x " " "  ") "\n" "\n\n") ++ "\n"
theorem read_wide {n : Int} {ps : List Pt} (h2 : 2 ≤ n) (h6 : n ≤ 6) (ho : Pt.oks n ps) (hc : Pt.cnts ps ≤ 60) (hd : 1 + Pt.deps ps ≤ 6) : readM (wideText (planText n ps)) = .ok (n, Pt.datas ps) := by
  unfold readM wideText
  have e1 : TL.tl ("\n" : Str) = [10] := by decide +kernel
  have e2 : TL.tl (" " : Str) = [32] := by decide +kernel
  have e3 : TL.tl ("\n " : Str) = [10, 32] := by decide +kernel
  have e4 : TL.tl ("  " : Str) = [32, 32] := by decide +kernel
  have e5 : TL.tl ("\n\n" : Str) = [10, 10] := by decide +kernel
  have r2 : TL.tl (Txt.replace (planText n ps) " " "  ") = StrLaws.replL [32] [32, 32] (codes (planLines n ps)) := by
    refine (StrLaws.replace_list (by decide +kernel)).trans ?_
    show StrLaws.replL (TL.tl " ") (TL.tl "  ") (TL.tl (planText n ps)) = _
    rw [e2, e4, tl_planText]
  have r1 : TL.tl (Txt.replace (Txt.replace (planText n ps) " " "  ") "\n" "\n\n") = StrLaws.replL [10] [10, 10] (StrLaws.replL [32] [32, 32] (codes (planLines n ps))) := by
    refine (StrLaws.replace_list (by decide +kernel)).trans ?_
    show StrLaws.replL (TL.tl "\n") (TL.tl "\n\n") (TL.tl (Txt.replace (planText n ps) " " "  ")) = _
    rw [e1, e5, r2]
  rw [TL.tl_append, TL.tl_append, r1, e1, e3]
  exact readL_plan h2 h6 ho hc hd (nw_codes_wide (by simp [planLines]) (plan_ok h2 h6 ho))
end Pk

namespace Pk
open PySem PySem.Spec PyProof.Rows L2 Evl
/-! ### data made of tuples, in the abstract heap -/
mutual
def Tp (H : Hp) : PyData → V → Prop
  | .none, v => v = .non
  | .bool _, _ => False
  | .int i, v => v = .int i
  | .str s, v => v = .str s
  | .list _, _ => False
  | .tuple ds, v => ∃ a xs, v = .ref a ∧ H a = some (.tup xs) ∧ TpL H ds xs
  | .dict _, _ => False
def TpL (H : Hp) : List PyData → List V → Prop
  | [], xs => xs = []
  | d :: ds, xs => ∃ v vs, xs = v :: vs ∧ Tp H d v ∧ TpL H ds vs
end
/-- the tuples stand -/
def TK (H H' : Hp) : Prop := ∀ a xs, H a = some (.tup xs) → H' a = some (.tup xs)
theorem TK.of {H H' : Hp} (e : Ex H H') : TK H H' := fun a _ h => e a _ h
theorem TK.refl (H : Hp) : TK H H := fun _ _ h => h
theorem TK.trans {H H1 H2 : Hp} (a : TK H H1) (b : TK H1 H2) : TK H H2 := fun x xs h => b x xs (a x xs h)
theorem TK.lst {H : Hp} {a : Addr} {ys : List V} {o : HO} (h : H a = some (.lst ys)) : TK H (upd H a o) := fun b _ e => by
  rw [upd_ne (ne_of e h (by intro z; cases z))]
  exact e
theorem TK.ins {H : Hp} {a C dx : Addr} {fs : List (Str × V)} {o : HO} (h : H a = some (.ins C dx fs)) : TK H (upd H a o) := fun b _ e => by
  rw [upd_ne (ne_of e h (by intro z; cases z))]
  exact e
theorem TK.new {H : Hp} {a : Addr} {o : HO} (h : H a = none) : TK H (upd H a o) := fun b _ e => by
  rw [upd_ne (ne_of_none e h)]
  exact e
mutual
theorem Tp.mono {H H' : Hp} (k : TK H H') : ∀ (d : PyData) (v : V), Tp H d v → Tp H' d v
  | .none, _, h => h
  | .bool _, _, h => h
  | .int _, _, h => h
  | .str _, _, h => h
  | .list _, _, h => h
  | .tuple ds, _, ⟨a, xs, e, ha, r⟩ => ⟨a, xs, e, k a xs ha, TpL.mono k ds xs r⟩
  | .dict _, _, h => h
theorem TpL.mono {H H' : Hp} (k : TK H H') : ∀ (ds : List PyData) (xs : List V), TpL H ds xs → TpL H' ds xs
  | [], _, h => h
  | d :: ds, _, ⟨v, vs, e, h, r⟩ => ⟨v, vs, e, Tp.mono k d v h, TpL.mono k ds vs r⟩
end
theorem TpL.length {H : Hp} : ∀ {ds : List PyData} {xs : List V}, TpL H ds xs → xs.length = ds.length
  | [], _, h => by
    have e : _ = _ := h
    rw [e]
    rfl
  | d :: ds, _, ⟨v, vs, e, _, r⟩ => by rw [e, List.length_cons, List.length_cons, TpL.length r]
theorem TpL.get {H : Hp} : ∀ {ds : List PyData} {xs : List V} {i : Nat} {d : PyData}, TpL H ds xs → ds[i]? = some d → ∃ v, xs[i]? = some v ∧ Tp H d v
  | [], _, _, _, _, h => by simp at h
  | d :: ds, _, 0, e, ⟨v, vs, ex, h, _⟩, hi => by
    have : d = e := Option.some.inj hi
    subst this
    exact ⟨v, by rw [ex]; rfl, h⟩
  | d :: ds, _, i + 1, e, ⟨v, vs, ex, _, r⟩, hi => by
    obtain ⟨u, hu, hv⟩ := TpL.get r (i := i) (d := e) hi
    exact ⟨u, by rw [ex]; exact hu, hv⟩
theorem TpL.getV {H : Hp} : ∀ {ds : List PyData} {xs : List V} {i : Nat} {v : V}, TpL H ds xs → xs[i]? = some v → ∃ d, ds[i]? = some d ∧ Tp H d v
  | [], _, _, _, h, hi => by
    have e : _ = _ := h
    rw [e] at hi
    simp at hi
  | d :: ds, _, 0, u, ⟨v, vs, ex, h, _⟩, hi => by
    rw [ex] at hi
    have : v = u := Option.some.inj hi
    subst this
    exact ⟨d, rfl, h⟩
  | d :: ds, _, i + 1, u, ⟨v, vs, ex, _, r⟩, hi => by
    rw [ex] at hi
    exact TpL.getV r (i := i) hi
theorem TpL.append {H : Hp} : ∀ {ds es : List PyData} {xs ys : List V}, TpL H ds xs → TpL H es ys → TpL H (ds ++ es) (xs ++ ys)
  | [], _, _, _, h, h' => by
    have e : _ = _ := h
    rw [e]
    exact h'
  | d :: ds, _, _, _, ⟨v, vs, ex, h, r⟩, h' => by
    rw [ex]
    exact ⟨v, _, rfl, h, TpL.append r h'⟩
theorem TpL.one {H : Hp} {d : PyData} {v : V} (h : Tp H d v) : TpL H [d] [v] := ⟨v, [], rfl, h, rfl⟩
mutual
theorem Tp.dp {K : PySem.W.Frag} {H : Hp} : ∀ (d : PyData) (v : V), Tp H d v → Dp K H v d
  | .none, _, h => by cases (show _ = _ from h); exact .non
  | .bool _, _, h => h.elim
  | .int i, _, h => by cases (show _ = _ from h); exact .int i
  | .str s, _, h => by cases (show _ = _ from h); exact .str s
  | .list _, _, h => h.elim
  | .tuple ds, _, ⟨a, xs, e, ha, r⟩ => by cases e; exact .tup (SqT.of ha) (TpL.dp ds xs r)
  | .dict _, _, h => h.elim
theorem TpL.dp {K : PySem.W.Frag} {H : Hp} : ∀ (ds : List PyData) (xs : List V), TpL H ds xs → DpAll K H xs ds
  | [], _, h => by cases (show _ = _ from h); exact .nil
  | d :: ds, _, ⟨v, vs, e, h, r⟩ => by cases e; exact .cons (Tp.dp d v h) (TpL.dp ds vs r)
end
mutual
theorem Pt.lay : ∀ p : Pt, p.data.canLay0 = true
  | .step => by decide +kernel
  | .stop => by decide +kernel
  | .paint c => by
    have e : PyData.canLay0 (.str "paint") = true := by decide +kernel
    simp only [Pt.data, PyData.canLay0, PyData.canLayAll0] at e ⊢
    rw [e]; rfl
  | .turn c => by
    have e : PyData.canLay0 (.str "turn") = true := by decide +kernel
    simp only [Pt.data, PyData.canLay0, PyData.canLayAll0] at e ⊢
    rw [e]; rfl
  | .iff c a b => by
    have e : PyData.canLay0 (.str "if") = true := by decide +kernel
    simp only [Pt.data, PyData.canLay0, PyData.canLayAll0, Pt.lays a, Pt.lays b] at e ⊢
    rw [e]; rfl
  | .whl c a => by
    have e : PyData.canLay0 (.str "while") = true := by decide +kernel
    simp only [Pt.data, PyData.canLay0, PyData.canLayAll0, Pt.lays a] at e ⊢
    rw [e]; rfl
  | .rep c a => by
    have e : PyData.canLay0 (.str "repeat") = true := by decide +kernel
    simp only [Pt.data, PyData.canLay0, PyData.canLayAll0, Pt.lays a] at e ⊢
    rw [e]; rfl
  | .fvr a => by
    have e : PyData.canLay0 (.str "forever") = true := by decide +kernel
    simp only [Pt.data, PyData.canLay0, PyData.canLayAll0, Pt.lays a] at e ⊢
    rw [e]; rfl
theorem Pt.lays : ∀ ps : List Pt, PyData.canLayAll0 (Pt.datas ps) = true
  | [] => by simp only [Pt.datas, PyData.canLayAll0]
  | p :: r => by simp only [Pt.datas, PyData.canLayAll0, Pt.lay p, Pt.lays r, Bool.and_self]
end
mutual
theorem Pt.depth_le : ∀ p : Pt, p.data.depth ≤ 2 * p.dep + 1
  | .step => by decide +kernel
  | .stop => by decide +kernel
  | .paint c => by simp [Pt.data, PyData.depth, PyData.depthAll]
  | .turn c => by simp [Pt.data, PyData.depth, PyData.depthAll]
  | .iff c a b => by
    have h1 := Pt.depths_le a
    have h2 := Pt.depths_le b
    simp only [Pt.data, PyData.depth, PyData.depthAll, Pt.dep]
    omega
  | .whl c a => by
    have h1 := Pt.depths_le a
    simp only [Pt.data, PyData.depth, PyData.depthAll, Pt.dep]
    omega
  | .rep c a => by
    have h1 := Pt.depths_le a
    simp only [Pt.data, PyData.depth, PyData.depthAll, Pt.dep]
    omega
  | .fvr a => by
    have h1 := Pt.depths_le a
    simp only [Pt.data, PyData.depth, PyData.depthAll, Pt.dep]
    omega
theorem Pt.depths_le : ∀ ps : List Pt, PyData.depthAll (Pt.datas ps) ≤ 2 * Pt.deps ps + 1
  | [] => by simp [Pt.datas, PyData.depthAll]
  | p :: r => by
    have h1 := Pt.depth_le p
    have h2 := Pt.depths_le r
    simp only [Pt.datas, PyData.depthAll, Pt.deps]
    omega
end
theorem shaped_pt {p : Pt} (h : p.dep ≤ 20) : SeqAt.shaped p.data = true := by
  unfold SeqAt.shaped
  rw [Pt.lay p, decide_eq_true (by have := Pt.depth_le p; omega)]
  rfl
theorem shaped_tup {d : List PyData} (h : PyData.canLayAll0 d = true) (hd : PyData.depthAll d ≤ 60) : SeqAt.shaped (.tuple d) = true := by
  have e : (PyData.tuple d).depth ≤ 64 := by
    simp only [PyData.depth]
    omega
  have e2 : (PyData.tuple d).canLay0 = true := by
    simp only [PyData.canLay0]
    exact h
  unfold SeqAt.shaped
  rw [e2, decide_eq_true e]
  rfl
theorem shaped_block {ps : List Pt} (h : Pt.deps ps ≤ 20) : SeqAt.shaped (.tuple (Pt.datas ps)) = true := shaped_tup (Pt.lays ps) (by have := Pt.depths_le ps; omega)
/-! ### a part in the heap -/
theorem tpl2 {H : Hp} {d e : PyData} {xs : List V} (h : TpL H [d, e] xs) : ∃ v u, xs = [v, u] ∧ Tp H d v ∧ Tp H e u := by
  obtain ⟨v, r, e1, h1, u, s, e2, h2, e3⟩ := h
  have e3' : s = [] := e3
  subst e3' e2 e1
  exact ⟨v, u, rfl, h1, h2⟩
theorem tpl3 {H : Hp} {d e f : PyData} {xs : List V} (h : TpL H [d, e, f] xs) : ∃ v u y, xs = [v, u, y] ∧ Tp H d v ∧ Tp H e u ∧ Tp H f y := by
  obtain ⟨v, r, e1, h1, h2⟩ := h
  obtain ⟨u, y, e2, h3⟩ := tpl2 h2
  subst e2 e1
  exact ⟨v, u, y, rfl, h1, h3⟩
theorem tpl4 {H : Hp} {d e f g : PyData} {xs : List V} (h : TpL H [d, e, f, g] xs) : ∃ v u y z, xs = [v, u, y, z] ∧ Tp H d v ∧ Tp H e u ∧ Tp H f y ∧ Tp H g z := by
  obtain ⟨v, r, e1, h1, h2⟩ := h
  obtain ⟨u, y, z, e2, h3⟩ := tpl3 h2
  subst e2 e1
  exact ⟨v, u, y, z, rfl, h1, h3⟩
theorem tpl1 {H : Hp} {d : PyData} {xs : List V} (h : TpL H [d] xs) : ∃ v, xs = [v] ∧ Tp H d v := by
  obtain ⟨v, r, e1, h1, e2⟩ := h
  have e2' : r = [] := e2
  subst e2' e1
  exact ⟨v, rfl, h1⟩
theorem tp_one {H : Hp} {f : Str} {v : V} (h : Tp H (.tuple [.str f]) v) : ∃ p, v = .ref p ∧ H p = some (.tup [.str f]) := by
  obtain ⟨p, xs, e, ha, r⟩ := h
  obtain ⟨u, e2, h1⟩ := tpl1 r
  have h1' : u = .str f := h1
  subst h1' e2
  exact ⟨p, e, ha⟩
theorem tp_int {H : Hp} {f : Str} {c : Int} {v : V} (h : Tp H (.tuple [.str f, .int c]) v) : ∃ p, v = .ref p ∧ H p = some (.tup [.str f, .int c]) := by
  obtain ⟨p, xs, e, ha, r⟩ := h
  obtain ⟨u, y, e2, h1, h2⟩ := tpl2 r
  have h1' : u = .str f := h1
  have h2' : y = .int c := h2
  subst h1' h2' e2
  exact ⟨p, e, ha⟩
theorem tp_blk {H : Hp} {f : Str} {ds : List PyData} {v : V} (h : Tp H (.tuple [.str f, .tuple ds]) v) : ∃ p q xs, v = .ref p ∧ H p = some (.tup [.str f, .ref q]) ∧ H q = some (.tup xs) ∧ TpL H ds xs := by
  obtain ⟨p, xs, e, ha, r⟩ := h
  obtain ⟨u, y, e2, h1, q, ys, h2, h3, h4⟩ := tpl2 r
  have h1' : u = .str f := h1
  subst h1' h2 e2
  exact ⟨p, q, ys, e, ha, h3, h4⟩
theorem tp_iblk {H : Hp} {f : Str} {c : Int} {ds : List PyData} {v : V} (h : Tp H (.tuple [.str f, .int c, .tuple ds]) v) : ∃ p q xs, v = .ref p ∧ H p = some (.tup [.str f, .int c, .ref q]) ∧ H q = some (.tup xs) ∧ TpL H ds xs := by
  obtain ⟨p, xs, e, ha, r⟩ := h
  obtain ⟨u, i, y, e2, h1, hi, q, ys, h2, h3, h4⟩ := tpl3 r
  have h1' : u = .str f := h1
  have hi' : i = .int c := hi
  subst h1' hi' h2 e2
  exact ⟨p, q, ys, e, ha, h3, h4⟩
theorem tp_two {H : Hp} {f : Str} {c : Int} {ds es : List PyData} {v : V} (h : Tp H (.tuple [.str f, .int c, .tuple ds, .tuple es]) v) : ∃ p q xs r ys, v = .ref p ∧ H p = some (.tup [.str f, .int c, .ref q, .ref r]) ∧ (H q = some (.tup xs) ∧ TpL H ds xs) ∧ H r = some (.tup ys) ∧ TpL H es ys := by
  obtain ⟨p, xs, e, ha, r⟩ := h
  obtain ⟨u, i, y, z, e2, h1, hi, ⟨q, ys, h2, h3, h4⟩, t, zs, h5, h6, h7⟩ := tpl4 r
  have h1' : u = .str f := h1
  have hi' : i = .int c := hi
  subst h1' hi' h2 h5 e2
  exact ⟨p, q, ys, t, zs, e, ha, ⟨h3, h4⟩, h6, h7⟩
theorem tp_head {H : Hp} {p : Pt} {v : V} (h : Tp H p.data v) : ∃ a f r, v = .ref a ∧ H a = some (.tup (.str f :: r)) ∧ PyData.eqv p.data (.tuple []) = false := by
  cases p with
  | step => obtain ⟨a, e, h⟩ := tp_one h; exact ⟨a, _, _, e, h, by simp [Pt.data, PyData.eqv, PyData.eqvAll]⟩
  | stop => obtain ⟨a, e, h⟩ := tp_one h; exact ⟨a, _, _, e, h, by simp [Pt.data, PyData.eqv, PyData.eqvAll]⟩
  | paint c => obtain ⟨a, e, h⟩ := tp_int h; exact ⟨a, _, _, e, h, by simp [Pt.data, PyData.eqv, PyData.eqvAll]⟩
  | turn c => obtain ⟨a, e, h⟩ := tp_int h; exact ⟨a, _, _, e, h, by simp [Pt.data, PyData.eqv, PyData.eqvAll]⟩
  | iff c x y => obtain ⟨a, _, _, _, _, e, h, _⟩ := tp_two h; exact ⟨a, _, _, e, h, by simp [Pt.data, PyData.eqv, PyData.eqvAll]⟩
  | whl c x => obtain ⟨a, _, _, e, h, _⟩ := tp_iblk h; exact ⟨a, _, _, e, h, by simp [Pt.data, PyData.eqv, PyData.eqvAll]⟩
  | rep c x => obtain ⟨a, _, _, e, h, _⟩ := tp_iblk h; exact ⟨a, _, _, e, h, by simp [Pt.data, PyData.eqv, PyData.eqvAll]⟩
  | fvr x => obtain ⟨a, _, _, e, h, _⟩ := tp_blk h; exact ⟨a, _, _, e, h, by simp [Pt.data, PyData.eqv, PyData.eqvAll]⟩
theorem datas_get : ∀ {ps : List Pt} {i : Nat} {d : PyData}, (Pt.datas ps)[i]? = some d → ∃ p, ps[i]? = some p ∧ d = p.data
  | [], _, _, h => by simp [Pt.datas] at h
  | p :: _, 0, d, h => ⟨p, rfl, (Option.some.inj (show some p.data = some d from h)).symm⟩
  | _ :: ps, i + 1, d, h => datas_get (ps := ps) (i := i) h
theorem oks_get {n : Int} : ∀ {ps : List Pt} {i : Nat} {p : Pt}, Pt.oks n ps → ps[i]? = some p → p.ok n
  | [], _, _, _, h => by simp at h
  | q :: _, 0, p, ho, h => by
    have e : q = p := Option.some.inj h
    rw [← e]
    exact ho.1
  | _ :: ps, i + 1, _, ho, h => oks_get (ps := ps) (i := i) ho.2 h
theorem deps_get : ∀ {ps : List Pt} {i : Nat} {p : Pt}, ps[i]? = some p → p.dep ≤ Pt.deps ps
  | [], _, _, h => by simp at h
  | q :: ps, 0, p, h => by
    have e : q = p := Option.some.inj h
    rw [← e, Pt.deps]
    omega
  | _ :: ps, i + 1, _, h => by
    have ih := deps_get (ps := ps) (i := i) h
    rw [Pt.deps]
    omega
theorem ndec {a b : V} (h : a = b) : (!decide (a = b)) = false := by
  rw [decide_eq_true h]
  rfl
/-! ### tests of texts -/
theorem iteF' {b : Bool} {A B : Prop} (h : b = false) (hB : B) : if b = true then A else B := by
  rw [h, if_neg Bool.false_ne_true]
  exact hB
theorem iteT' {b : Bool} {A B : Prop} (h : b = true) (hA : A) : if b = true then A else B := by
  rw [h, if_pos rfl]
  exact hA
theorem eq_miss {a b : Str} {A B : Prop} (h : (a == b) = false) (hB : B) : if decide (V.str a = V.str b) = true then A else B := by
  rw [dec_str, h, if_neg Bool.false_ne_true]
  exact hB
theorem eq_hit {a : Str} {A B : Prop} (hA : A) : if decide (V.str a = V.str a) = true then A else B := by
  rw [decide_eq_true rfl, if_pos rfl]
  exact hA
theorem eqi_hit {a : Int} {A B : Prop} (hA : A) : if decide (V.int a = V.int a) = true then A else B := by
  rw [decide_eq_true rfl, if_pos rfl]
  exact hA
/-- x in a tuple of data -/
def rInT (K : PySem.W.Frag) : R2 := fun x y H Q => ∃ d ds, Dp K H x d ∧ Dp K H y (.tuple ds) ∧ SeqAt.shaped d = true ∧ SeqAt.shaped (.tuple ds) = true ∧ Q (.bl (ds.any fun z => PyData.eqv z d)) H
theorem op_inT {X : Cx} (hu : X.A.units + 65 < cLine) : OpR X (compareOp .In) (rInT X.K) := by
  intro pins s σ H x y v u Q I rx ry h
  obtain ⟨d, ds, hd, he, sd, se, q⟩ := h
  obtain ⟨as, r1⟩ := Dp.reads I d x v hd rx
  obtain ⟨bs, r2⟩ := Dp.reads I (.tuple ds) y u he ry
  have hc : PyData.canLayAll0 ds = true := by
    have z := SeqAt.canLay_of_shaped se
    simp only [PyData.canLay0] at z
    exact z
  have hdd := SeqAt.depth_of_shaped sd
  have hm : min (PyData.depthAll ds) d.depth ≤ d.depth := Nat.min_le_right _ _
  exact SeqAt.in_tuple_reads r2 r1 hc (SeqAt.canLay_of_shaped sd) (by omega) ⟨.bl _, H, I, rfl, q⟩
/-! ### a def of the module: where it stands, what it promises -/
structure Has (P : Program) (w : World) (K : PySem.W.Frag) (mg : Str → Option Value) (base : Heap) (C : CXT) (k : Nat) (x : Str) (ps : List Str) (sp : Sp) : Prop where
  ex : ∃ (f : Addr) (fd : FuncData), FnOk P w K mg base C k f fd ps sp ∧ mg x = some (.ref f) ∧ PySem.W.keepIn K (.ref f) = true ∧ Binds K fd ps []
theorem Has.mono {P : Program} {w : World} {K : PySem.W.Frag} {mg : Str → Option Value} {base : Heap} {C : CXT} {j k : Nat} {x : Str} {ps : List Str} {sp : Sp} (h : Has P w K mg base C j x ps sp) (l : j ≤ k) : Has P w K mg base C k x ps sp := by
  obtain ⟨f, fd, a, b, c, d⟩ := h.ex
  exact ⟨f, fd, a.mono l, b, c, d⟩
theorem Has.imp {P : Program} {w : World} {K : PySem.W.Frag} {mg : Str → Option Value} {base : Heap} {C : CXT} {k : Nat} {x : Str} {ps : List Str} {sp sp' : Sp} (h : Has P w K mg base C k x ps sp) (l : ∀ vs H Q E, sp' vs H Q E → sp vs H Q E) : Has P w K mg base C k x ps sp' := by
  obtain ⟨f, fd, a, b, c, d⟩ := h.ex
  exact ⟨f, fd, a.imp l, b, c, d⟩
section
variable {X : Cx} {C : CXT} {k : Nat} {ps : List Str} {sp : Sp} {E : XK} {x : Str} {p pos : Pos} {e : Expr} {es : List Expr} {t : TA}
theorem pe_h (h : Has X.prog X.w X.K X.mg X.base C k x ps sp) (hr : Room k X.A) (hg : Gl X x) (hx : Passes C X E) (ha : PA X (e :: es) t) (hdb : (x == ("__debug__" : Str)) = false := by decide)
    (he : starEach (e :: es) X.env = (false, eval e X.env) :: starEach es X.env := by rfl) (hpl : (backTo pos (starEach es X.env)).any (·.1) = false := by rfl) :
    PE X (.Call (.Name x p) (e :: es) [] pos) (tCall sp [] E t) := by
  obtain ⟨f, fd, a, b, c, d⟩ := h.ex
  exact pe_call a hr hg b c d .nil hx ha hdb he hpl
/-- within a try, what is raised wished for at the slots -/
theorem pe_hS {E : L2.St → XK} (h : Has X.prog X.w X.K X.mg X.base C k x ps sp) (hr : Room k X.A) (hg : Gl X x) (hx : ∀ σ, PassesAt C X σ (E σ)) (ha : PA X (e :: es) t) (hdb : (x == ("__debug__" : Str)) = false := by decide)
    (he : starEach (e :: es) X.env = (false, eval e X.env) :: starEach es X.env := by rfl) (hpl : (backTo pos (starEach es X.env)).any (·.1) = false := by rfl) :
    PE X (.Call (.Name x p) (e :: es) [] pos) (tCallSD sp [] E t) := by
  obtain ⟨f, fd, a, b, c, d⟩ := h.ex
  exact pe_callSD a hr hg b c d .nil hx ha hdb he hpl
end
theorem units65 {k : Nat} {A : Around} (r : Room k A) : A.units + 65 < cLine := by
  have := r.un
  omega
/-! ### the program's text by places -/
def top (i : Nat) : Stmt := PySem.Challenge.pw_streetpapers_k30_whole_plans_as_text.main.body.getD i (.Pass ⟨0, 0, 0, 0⟩)
abbrev sIsIn : Stmt := top 7
abbrev sIsPart : Stmt := top 13
abbrev sIsBlock : Stmt := top 14
abbrev sBlocksIn : Stmt := top 15
abbrev sPartsIn : Stmt := top 16
abbrev sNeed : Stmt := top 17
abbrev sLines : Stmt := top 18
abbrev sWrite : Stmt := top 19
abbrev sRead : Stmt := top 27
abbrev sTaken : Stmt := top 29
abbrev sPick : Stmt := top 30
abbrev sBlock : Stmt := top 31
abbrev sParts : Stmt := top 32
abbrev sPlan : Stmt := top 33
abbrev sPlines : Stmt := top 34
abbrev sAlike : Stmt := top 35
abbrev sLaw : Stmt := top 36
end Pk

namespace Pk
open PySem PySem.Spec PyProof.Rows L2 Evl
section
variable {P : Program} {w : World} {K : PySem.W.Frag} {mg : Str → Option Value} {base : Heap}
/-! ### is_in -/
def spIsIn : Sp := fun vs H Q _ => ∃ v lo hi : Int, vs = [.int v, .int lo, .int hi] ∧ Q (.bl (decide (lo ≤ v) && decide (v ≤ hi))) H
theorem scIsIn : FnScope ["value", "least", "most"] ["value", "least", "most"] (defScope sIsIn) := ⟨rfl, rfl, rfl, by decide +kernel, rfl, by decide +kernel, by decide +kernel⟩
theorem ok_isin {f : Addr} {fd : FuncData} (F : Fun K "is_in" "is_in" sIsIn f fd) (zI : mg "isinstance" = none) (zi : mg "int" = none) (zb : mg "bool" = none) :
    FnOk P w K mg base CX0 1 f fd ["value", "least", "most"] spIsIn := by
  refine F.ok scIsIn (fun vs H Q E h => ?_) (fun cdv A outer s H vs Q E hr h => ?_)
  · obtain ⟨v, lo, hi, rfl, _⟩ := h
    rfl
  obtain ⟨v, lo, hi, rfl, q⟩ := h
  refine ⟨_, pss_one (ps_ret (pe_and (pe_callB call_isi rfl zI (by decide +kernel) (pa_cons (pv 0) (pa_cons (pe_bltn (v := .ty "int") (by rfl) zi (by decide +kernel) rfl) pa_nil)))
    (pe_and (pe_not (pe_callB call_isi rfl zI (by decide +kernel) (pa_cons (pv 0) (pa_cons (pe_bltn (v := .ty "bool") (by rfl) zb (by decide +kernel) rfl) pa_nil))))
    (pe_one (pe_chain op_le op_le (pv 1) (pv 0) (pv 2)))))), ?_⟩
  refine ⟨_, rfl, _, _, _, _, _, rfl, .ty "int", .base (.int v), kit_ty (r := true) (by decide +kernel), _, rfl, iteT ?_⟩
  refine ⟨_, rfl, _, _, _, _, _, rfl, .ty "bool", .base (.int v), kit_ty (r := false) (by decide +kernel), _, rfl, _, rfl, iteT ?_⟩
  refine ⟨_, rfl, _, rfl, _, _, rfl, rfl, _, rfl, ite2 (fun c => ?_) (fun c => ?_)⟩
  · refine ⟨_, rfl, _, _, rfl, rfl, ?_⟩
    rw [c, Bool.true_and] at q
    exact q
  · rw [Bool.eq_false_iff.mpr c, Bool.false_and] at q
    exact q
/-! ### is_part, is_block: a drawn plan's parts are parts. m: how deep blocks may still stand -/
def spPart (m : Nat) : Sp := fun vs H Q _ => ∃ (n d : Int) (p : Pt) (v : V), vs = [.int n, v, .int d] ∧ Tp H p.data v ∧ p.ok n ∧ p.dep ≤ m ∧ m ≤ 20 ∧ d + (m : Int) ≤ 6 ∧ ∀ H', Ex H H' → Q (.bl true) H'
def spBlk (m : Nat) : Sp := fun vs H Q _ => ∃ (n d : Int) (ps : List Pt) (v : V), vs = [.int n, v, .int d] ∧ Tp H (.tuple (Pt.datas ps)) v ∧ Pt.oks n ps ∧ Pt.deps ps + 1 ≤ m ∧ m ≤ 20 ∧ d + (m : Int) ≤ 7 ∧ ∀ H', Ex H H' → Q (.bl true) H'
abbrev nsPart : List Str := ["colours", "part", "depth", "word", "many"]
theorem scIsPart : FnScope nsPart ["colours", "part", "depth"] (defScope sIsPart) := ⟨rfl, rfl, rfl, by decide +kernel, rfl, by decide +kernel, by decide +kernel⟩
structure Blt (mg : Str → Option Value) : Prop where
  isi : mg "isinstance" = none
  int : mg "int" = none
  bool : mg "bool" = none
  tup : mg "tuple" = none
  str : mg "str" = none
  len : mg "len" = none
  sum : mg "sum" = none
  list : mg "list" = none
  range : mg "range" = none
  min : mg "min" = none
  enum : mg "enumerate" = none
theorem ok_ispart {m : Nat} {f : Addr} {fd : FuncData} (F : Fun K "is_part" "is_part" sIsPart f fd) (B : Blt mg) {t8 : Tok} (g8 : mg "MOST_TIMES" = some (.int 8 t8))
    (G : Has P w K mg base CX0 1 "is_in" ["value", "least", "most"] spIsIn) (GB : Has P w K mg base CX0 (2 * m + 1) "is_block" ["colours", "block", "depth"] (spBlk m)) :
    FnOk P w K mg base CX0 (2 * m + 2) f fd ["colours", "part", "depth"] (spPart m) := by
  refine F.ok scIsPart (fun vs H Q E h => ?_) (fun cdv A outer s H vs Q E hr h => ?_)
  · obtain ⟨n, d, p, v, rfl, _⟩ := h
    rfl
  obtain ⟨n, d, p, v, rfl, ht, ho, hd, hm20, hm, q⟩ := h
  have hr1 : Room 1 (A.deeper (envOfC "is_part" (defScope sIsPart) s.heap.objs.size f cdv)) := hr.mono (by omega)
  refine ⟨_, (pss_cons (ps_if (PW.pt (pw_or (pt_not (pt_val (pe_callB call_isi (by rfl) B.isi (by decide +kernel) (pa_cons (pv 1) (pa_cons (pe_bltn (v := .ty "tuple") (u := .type "tuple") (by rfl) B.tup (by decide +kernel) rfl) pa_nil))))) (pw_or (pt_cmpR (op_eqD hr.units) (pv 1) (pe_tup pa_nil) (nomark _)) (pw_or1 (pt_not (pt_val (pe_callB call_isi (by rfl) B.isi (by decide +kernel) (pa_cons (pe_ix ix_tup (pv 1) pe_int (fun _ _ => rfl)) (pa_cons (pe_bltn (v := .ty "str") (u := .type "str") (by rfl) B.str (by decide +kernel) rfl) pa_nil))))))))) (pss_one (ps_ret pe_bl)) pss_nil)
    (pss_cons (ps_par (i := 3) (j := 4) (by rfl) scIsPart.nd (by rfl) (by rfl) (by decide) (by rfl) (by rfl) (pa_cons (pe_ix ix_tup (pv 1) pe_int (fun _ _ => rfl)) (pa_cons (pe_callB call_len_seq (by rfl) B.len (by decide +kernel) (pa_cons (pv 1) pa_nil)) pa_nil)) (by rfl))
    (pss_cons (ps_if (pt_cmpR op_eq (pv 3) pe_str (nomark _)) (pss_one (ps_ret (pe_and (pe_cmpR op_eq (pv 4) pe_int (nomark _)) (pe_one (pe_h G hr1 (by rfl) pass0 (pa_cons (pe_ix ix_tup (pv 1) pe_int (fun _ _ => rfl)) (pa_cons pe_int (pa_cons (pe_op op_sub (pv 0) pe_int) pa_nil)))))))) pss_nil)
    (pss_cons (ps_if (pt_cmpR op_eq (pv 3) pe_str (nomark _)) (pss_one (ps_ret (pe_and (pe_cmpR op_eq (pv 4) pe_int (nomark _)) (pe_one (pe_h G hr1 (by rfl) pass0 (pa_cons (pe_ix ix_tup (pv 1) pe_int (fun _ _ => rfl)) (pa_cons pe_int (pa_cons pe_int pa_nil)))))))) pss_nil)
    (pss_cons (ps_if (pt_cmpR op_eq (pv 3) pe_str (nomark _)) (pss_one (ps_ret (pe_and (pe_cmpR op_eq (pv 4) pe_int (nomark _)) (pe_one (pe_h GB hr (by rfl) pass0 (pa_cons (pv 0) (pa_cons (pe_ix ix_tup (pv 1) pe_int (fun _ _ => rfl)) (pa_cons (pe_op op_add (pv 2) pe_int) pa_nil)))))))) pss_nil)
    (pss_cons (ps_if (pt_cmpR op_eq (pv 3) pe_str (nomark _)) (pss_one (ps_ret (pe_and (pe_cmpR op_eq (pv 4) pe_int (nomark _)) (pe_and (pe_h G hr1 (by rfl) pass0 (pa_cons (pe_ix ix_tup (pv 1) pe_int (fun _ _ => rfl)) (pa_cons pe_int (pa_cons (pe_glob (v := .int 8) (by rfl) g8 ⟨_, rfl⟩) pa_nil)))) (pe_one (pe_h GB hr (by rfl) pass0 (pa_cons (pv 0) (pa_cons (pe_ix ix_tup (pv 1) pe_int (fun _ _ => rfl)) (pa_cons (pe_op op_add (pv 2) pe_int) pa_nil))))))))) pss_nil)
    (pss_cons (ps_if (pt_cmpR op_eq (pv 3) pe_str (nomark _)) (pss_one (ps_ret (pe_and (pe_cmpR op_eq (pv 4) pe_int (nomark _)) (pe_and (pe_h G hr1 (by rfl) pass0 (pa_cons (pe_ix ix_tup (pv 1) pe_int (fun _ _ => rfl)) (pa_cons pe_int (pa_cons (pe_op op_sub (pv 0) pe_int) pa_nil)))) (pe_one (pe_h GB hr (by rfl) pass0 (pa_cons (pv 0) (pa_cons (pe_ix ix_tup (pv 1) pe_int (fun _ _ => rfl)) (pa_cons (pe_op op_add (pv 2) pe_int) pa_nil))))))))) pss_nil)
    (pss_cons (ps_if (pt_cmpR op_eq (pv 3) pe_str (nomark _)) (pss_cons (ps_if (PW.pt (pw_or (pt_cmpR op_ne (pv 4) pe_int (nomark _)) (pw_or1 (pt_not (pt_val (pe_h G hr1 (by rfl) pass0 (pa_cons (pe_ix ix_tup (pv 1) pe_int (fun _ _ => rfl)) (pa_cons pe_int (pa_cons (pe_op op_sub (pv 0) pe_int) pa_nil))))))))) (pss_one (ps_ret pe_bl)) pss_nil)
    (pss_one (ps_ret (pe_and (pe_h GB hr (by rfl) pass0 (pa_cons (pv 0) (pa_cons (pe_ix ix_tup (pv 1) pe_int (fun _ _ => rfl)) (pa_cons (pe_op op_add (pv 2) pe_int) pa_nil)))) (pe_one (pe_h GB hr (by rfl) pass0 (pa_cons (pv 0) (pa_cons (pe_ix ix_tup (pv 1) pe_int (fun _ _ => rfl)) (pa_cons (pe_op op_add (pv 2) pe_int) pa_nil))))))))) pss_nil)
    (pss_one (ps_ret (pe_cmpR (op_inT (units65 hr)) (pv 1) (pe_tup (pa_cons (pe_tup (pa_cons pe_str pa_nil)) (pa_cons (pe_tup (pa_cons pe_str pa_nil)) pa_nil))) (by rfl)))))))))))), ?_⟩
  -- the first test: a tuple, not empty, its first item a text
  obtain ⟨a, f0, r0, rfl, ha, hne⟩ := tp_head ht
  have sh := shaped_pt (p := p) (by omega)
  refine ⟨_, rfl, _, _, _, _, _, rfl, .ty "tuple", .base (.tup ha), kit_ty (r := true) (by decide +kernel), _, rfl, iteF ?_⟩
  refine ⟨_, rfl, (by show 0 ≤ sizeLine; decide), fun t0 ht0 => ⟨p.data, .tuple [], Tp.dp _ _ (Tp.mono (TK.new ht0) _ _ ht), .tup (SqT.of upd_same) .nil, sh, by decide +kernel, _, rfl, iteF' hne ?_⟩⟩
  have e1 : Ex H (upd H t0 (.tup [])) := Ex.new ht0
  have ht1 := Tp.mono (TK.of e1) _ _ ht
  have ha1 := e1 _ _ ha
  generalize upd H t0 (.tup []) = H1 at e1 ht1 ha1 ⊢
  have hT := SqT.of (K := K) ha1
  refine ⟨_, rfl, _, _, 0, .str f0, rfl, rfl, hT, atI_nat (j := 0) rfl, _, _, _, _, _, rfl, .ty "str", .base (.str f0), kit_ty (r := true) (by decide +kernel), _, rfl, iteF ?_⟩
  refine ⟨_, rfl, _, _, 0, .str f0, rfl, rfl, hT, atI_nat (j := 0) rfl, _, rfl, _, _, rfl, .inr hT, _, _, rfl, ?_⟩
  clear ht0
  have q1 : ∀ H', Ex H1 H' → Q (.bl true) H' := fun H' e => q H' (e1.trans e)
  cases p with
  | step =>
    obtain ⟨b, e, h⟩ := tp_one ht1
    cases e
    cases (ha1.symm.trans h)
    refine ⟨_, rfl, rfl, _, rfl, eq_miss (by decide +kernel) ?_⟩
    refine ⟨_, rfl, rfl, _, rfl, eq_miss (by decide +kernel) ?_⟩
    refine ⟨_, rfl, rfl, _, rfl, eq_miss (by decide +kernel) ?_⟩
    refine ⟨_, rfl, rfl, _, rfl, eq_miss (by decide +kernel) ?_⟩
    refine ⟨_, rfl, rfl, _, rfl, eq_miss (by decide +kernel) ?_⟩
    refine ⟨_, rfl, rfl, _, rfl, eq_miss (by decide +kernel) ?_⟩
    refine ⟨_, rfl, (by show 1 ≤ sizeLine; decide), fun p1 h1 => ⟨(by show 1 ≤ sizeLine; decide), fun p2 h2 => ⟨(by show 2 ≤ sizeLine; decide), fun p3 h3 => ?_⟩⟩⟩
    have k1 : Ex H1 (upd H1 p1 (.tup [.str "step"])) := Ex.new h1
    have k2 := k1.trans (Ex.new h2 (o := .tup [.str "stop"]))
    have k3 := k2.trans (Ex.new h3 (o := .tup [.ref p1, .ref p2]))
    have a1 : (upd (upd (upd H1 p1 (.tup [.str "step"])) p2 (.tup [.str "stop"])) p3 (.tup [.ref p1, .ref p2])) p1 = some (.tup [.str "step"]) := (Ex.new h3) _ _ ((Ex.new h2) _ _ upd_same)
    have a2 : (upd (upd (upd H1 p1 (.tup [.str "step"])) p2 (.tup [.str "stop"])) p3 (.tup [.ref p1, .ref p2])) p2 = some (.tup [.str "stop"]) := (Ex.new h3) _ _ upd_same
    refine ⟨Pt.data .step, [Pt.data .step, Pt.data .stop], Tp.dp _ _ (Tp.mono (TK.of k3) _ _ ht1), Tp.dp (.tuple [Pt.data .step, Pt.data .stop]) _ ⟨p3, _, rfl, upd_same, _, _, rfl, ⟨p1, _, rfl, a1, _, _, rfl, rfl, rfl⟩, _, _, rfl, ⟨p2, _, rfl, a2, _, _, rfl, rfl, rfl⟩, rfl⟩, sh, by decide +kernel, ?_⟩
    have e : ([Pt.data .step, Pt.data .stop].any fun z => PyData.eqv z (Pt.data .step)) = true := by decide +kernel
    rw [e]
    exact q1 _ k3
  | stop =>
    obtain ⟨b, e, h⟩ := tp_one ht1
    cases e
    cases (ha1.symm.trans h)
    refine ⟨_, rfl, rfl, _, rfl, eq_miss (by decide +kernel) ?_⟩
    refine ⟨_, rfl, rfl, _, rfl, eq_miss (by decide +kernel) ?_⟩
    refine ⟨_, rfl, rfl, _, rfl, eq_miss (by decide +kernel) ?_⟩
    refine ⟨_, rfl, rfl, _, rfl, eq_miss (by decide +kernel) ?_⟩
    refine ⟨_, rfl, rfl, _, rfl, eq_miss (by decide +kernel) ?_⟩
    refine ⟨_, rfl, rfl, _, rfl, eq_miss (by decide +kernel) ?_⟩
    refine ⟨_, rfl, (by show 1 ≤ sizeLine; decide), fun p1 h1 => ⟨(by show 1 ≤ sizeLine; decide), fun p2 h2 => ⟨(by show 2 ≤ sizeLine; decide), fun p3 h3 => ?_⟩⟩⟩
    have k1 : Ex H1 (upd H1 p1 (.tup [.str "step"])) := Ex.new h1
    have k2 := k1.trans (Ex.new h2 (o := .tup [.str "stop"]))
    have k3 := k2.trans (Ex.new h3 (o := .tup [.ref p1, .ref p2]))
    have a1 : (upd (upd (upd H1 p1 (.tup [.str "step"])) p2 (.tup [.str "stop"])) p3 (.tup [.ref p1, .ref p2])) p1 = some (.tup [.str "step"]) := (Ex.new h3) _ _ ((Ex.new h2) _ _ upd_same)
    have a2 : (upd (upd (upd H1 p1 (.tup [.str "step"])) p2 (.tup [.str "stop"])) p3 (.tup [.ref p1, .ref p2])) p2 = some (.tup [.str "stop"]) := (Ex.new h3) _ _ upd_same
    refine ⟨Pt.data .stop, [Pt.data .step, Pt.data .stop], Tp.dp _ _ (Tp.mono (TK.of k3) _ _ ht1), Tp.dp (.tuple [Pt.data .step, Pt.data .stop]) _ ⟨p3, _, rfl, upd_same, _, _, rfl, ⟨p1, _, rfl, a1, _, _, rfl, rfl, rfl⟩, _, _, rfl, ⟨p2, _, rfl, a2, _, _, rfl, rfl, rfl⟩, rfl⟩, sh, by decide +kernel, ?_⟩
    have e : ([Pt.data .step, Pt.data .stop].any fun z => PyData.eqv z (Pt.data .stop)) = true := by decide +kernel
    rw [e]
    exact q1 _ k3
  | paint c =>
    obtain ⟨b, e, h⟩ := tp_int ht1
    cases e
    cases (ha1.symm.trans h)
    obtain ⟨h0, h1⟩ : 0 ≤ c ∧ c < n := ho
    refine ⟨_, rfl, rfl, _, rfl, eq_hit ?_⟩
    refine ⟨_, rfl, rfl, _, rfl, iteT' (decide_eq_true rfl) ?_⟩
    refine ⟨_, rfl, _, _, 1, .int c, rfl, rfl, hT, atI_nat (j := 1) rfl, _, rfl, _, _, rfl, rfl, c, 0, n - 1, rfl, ?_⟩
    rw [decide_eq_true h0, decide_eq_true (show c ≤ n - 1 by omega)]
    exact q1 _ (Ex.refl _)
  | turn c =>
    obtain ⟨b, e, h⟩ := tp_int ht1
    cases e
    cases (ha1.symm.trans h)
    obtain ⟨h0, h1⟩ : 1 ≤ c ∧ c ≤ 3 := ho
    refine ⟨_, rfl, rfl, _, rfl, eq_miss (by decide +kernel) ?_⟩
    refine ⟨_, rfl, rfl, _, rfl, eq_hit ?_⟩
    refine ⟨_, rfl, rfl, _, rfl, iteT' (decide_eq_true rfl) ?_⟩
    refine ⟨_, rfl, _, _, 1, .int c, rfl, rfl, hT, atI_nat (j := 1) rfl, c, 1, 3, rfl, ?_⟩
    rw [decide_eq_true h0, decide_eq_true h1]
    exact q1 _ (Ex.refl _)
  | iff c x y =>
    obtain ⟨b, r1, xs1, r2, xs2, e, h, ⟨hx, hx'⟩, hy, hy'⟩ := tp_two ht1
    cases e
    cases (ha1.symm.trans h)
    obtain ⟨⟨h0, h1⟩, ox, oy⟩ : (0 ≤ c ∧ c < n) ∧ Pt.oks n x ∧ Pt.oks n y := ho
    simp only [Pt.dep] at hd
    refine ⟨_, rfl, rfl, _, rfl, eq_miss (by decide +kernel) ?_⟩
    refine ⟨_, rfl, rfl, _, rfl, eq_miss (by decide +kernel) ?_⟩
    refine ⟨_, rfl, rfl, _, rfl, eq_miss (by decide +kernel) ?_⟩
    refine ⟨_, rfl, rfl, _, rfl, eq_miss (by decide +kernel) ?_⟩
    refine ⟨_, rfl, rfl, _, rfl, eq_miss (by decide +kernel) ?_⟩
    refine ⟨_, rfl, rfl, _, rfl, eq_hit ?_⟩
    refine ⟨_, rfl, rfl, _, rfl, iteF' (ndec rfl) ?_⟩
    refine ⟨_, rfl, _, _, 1, .int c, rfl, rfl, hT, atI_nat (j := 1) rfl, _, rfl, _, _, rfl, rfl, c, 0, n - 1, rfl, _, rfl, ?_⟩
    rw [decide_eq_true h0, decide_eq_true (show c ≤ n - 1 by omega)]
    refine iteF ?_
    refine ⟨_, rfl, _, rfl, _, _, 2, .ref r1, rfl, rfl, hT, atI_nat (j := 2) rfl, _, rfl, _, _, rfl, rfl, n, d + 1, x, .ref r1, rfl, ⟨r1, xs1, rfl, hx, hx'⟩, ox, by omega, hm20, by omega, fun H2 e2 => ?_⟩
    have hT2 := SqT.of (K := K) (e2 _ _ ha1)
    refine ⟨_, rfl, iteT ?_⟩
    refine ⟨_, rfl, _, rfl, _, _, 3, .ref r2, rfl, rfl, hT2, atI_nat (j := 3) rfl, _, rfl, _, _, rfl, rfl, n, d + 1, y, .ref r2, rfl, ⟨r2, xs2, rfl, e2 _ _ hy, TpL.mono (TK.of e2) _ _ hy'⟩, oy, by omega, hm20, by omega, fun H3 e3 => ?_⟩
    exact q1 _ (e2.trans e3)
  | whl c x =>
    obtain ⟨b, r1, xs1, e, h, hx, hx'⟩ := tp_iblk ht1
    cases e
    cases (ha1.symm.trans h)
    obtain ⟨⟨h0, h1⟩, ox⟩ : (0 ≤ c ∧ c < n) ∧ Pt.oks n x := ho
    simp only [Pt.dep] at hd
    refine ⟨_, rfl, rfl, _, rfl, eq_miss (by decide +kernel) ?_⟩
    refine ⟨_, rfl, rfl, _, rfl, eq_miss (by decide +kernel) ?_⟩
    refine ⟨_, rfl, rfl, _, rfl, eq_miss (by decide +kernel) ?_⟩
    refine ⟨_, rfl, rfl, _, rfl, eq_miss (by decide +kernel) ?_⟩
    refine ⟨_, rfl, rfl, _, rfl, eq_hit ?_⟩
    refine ⟨_, rfl, rfl, _, rfl, iteT' (decide_eq_true rfl) ?_⟩
    refine ⟨_, rfl, _, _, 1, .int c, rfl, rfl, hT, atI_nat (j := 1) rfl, _, rfl, _, _, rfl, rfl, c, 0, n - 1, rfl, _, rfl, ?_⟩
    rw [decide_eq_true h0, decide_eq_true (show c ≤ n - 1 by omega)]
    refine iteT ?_
    refine ⟨_, rfl, _, rfl, _, _, 2, .ref r1, rfl, rfl, hT, atI_nat (j := 2) rfl, _, rfl, _, _, rfl, rfl, n, d + 1, x, .ref r1, rfl, ⟨r1, xs1, rfl, hx, hx'⟩, ox, by omega, hm20, by omega, fun H2 e2 => ?_⟩
    exact q1 _ e2
  | rep c x =>
    obtain ⟨b, r1, xs1, e, h, hx, hx'⟩ := tp_iblk ht1
    cases e
    cases (ha1.symm.trans h)
    obtain ⟨⟨h0, h1⟩, ox⟩ : (0 ≤ c ∧ c ≤ 8) ∧ Pt.oks n x := ho
    simp only [Pt.dep] at hd
    refine ⟨_, rfl, rfl, _, rfl, eq_miss (by decide +kernel) ?_⟩
    refine ⟨_, rfl, rfl, _, rfl, eq_miss (by decide +kernel) ?_⟩
    refine ⟨_, rfl, rfl, _, rfl, eq_miss (by decide +kernel) ?_⟩
    refine ⟨_, rfl, rfl, _, rfl, eq_hit ?_⟩
    refine ⟨_, rfl, rfl, _, rfl, iteT' (decide_eq_true rfl) ?_⟩
    refine ⟨_, rfl, _, _, 1, .int c, rfl, rfl, hT, atI_nat (j := 1) rfl, c, 0, 8, rfl, _, rfl, ?_⟩
    rw [decide_eq_true h0, decide_eq_true h1]
    refine iteT ?_
    refine ⟨_, rfl, _, rfl, _, _, 2, .ref r1, rfl, rfl, hT, atI_nat (j := 2) rfl, _, rfl, _, _, rfl, rfl, n, d + 1, x, .ref r1, rfl, ⟨r1, xs1, rfl, hx, hx'⟩, ox, by omega, hm20, by omega, fun H2 e2 => ?_⟩
    exact q1 _ e2
  | fvr x =>
    obtain ⟨b, r1, xs1, e, h, hx, hx'⟩ := tp_blk ht1
    cases e
    cases (ha1.symm.trans h)
    have ox : Pt.oks n x := ho
    simp only [Pt.dep] at hd
    refine ⟨_, rfl, rfl, _, rfl, eq_miss (by decide +kernel) ?_⟩
    refine ⟨_, rfl, rfl, _, rfl, eq_miss (by decide +kernel) ?_⟩
    refine ⟨_, rfl, rfl, _, rfl, eq_hit ?_⟩
    refine ⟨_, rfl, rfl, _, rfl, iteT' (decide_eq_true rfl) ?_⟩
    refine ⟨_, rfl, _, rfl, _, _, 1, .ref r1, rfl, rfl, hT, atI_nat (j := 1) rfl, _, rfl, _, _, rfl, rfl, n, d + 1, x, .ref r1, rfl, ⟨r1, xs1, rfl, hx, hx'⟩, ox, by omega, hm20, by omega, fun H2 e2 => ?_⟩
    exact q1 _ e2
abbrev nsBlk : List Str := ["colours", "block", "depth", "part"]
theorem scIsBlock : FnScope nsBlk ["colours", "block", "depth"] (defScope sIsBlock) := ⟨rfl, rfl, rfl, by decide +kernel, rfl, by decide +kernel, by decide +kernel⟩
theorem ok_isblock {m : Nat} {f : Addr} {fd : FuncData} (F : Fun K "is_block" "is_block" sIsBlock f fd) (B : Blt mg) {t6 : Tok} (g6 : mg "MOST_DEPTH" = some (.int 6 t6))
    (GP : Has P w K mg base CX0 (2 * m + 2) "is_part" ["colours", "part", "depth"] (spPart m)) :
    FnOk P w K mg base CX0 (2 * (m + 1) + 1) f fd ["colours", "block", "depth"] (spBlk (m + 1)) := by
  refine F.ok scIsBlock (fun vs H Q E h => ?_) (fun cdv A outer s H vs Q E hr h => ?_)
  · obtain ⟨n, d, p, v, rfl, _⟩ := h
    rfl
  obtain ⟨n, d, ps, v, rfl, ⟨a, xs, rfl, ha, hx⟩, ho, hd, hm20, hm, q⟩ := h
  refine ⟨_, (pss_cons (ps_if (PW.pt (pw_or (pt_not (pt_val (pe_callB call_isi (by rfl) B.isi (by decide +kernel) (pa_cons (pv 1) (pa_cons (pe_bltn (v := .ty "tuple") (u := .type "tuple") (by rfl) B.tup (by decide +kernel) rfl) pa_nil))))) (pw_or1 (pt_cmpR op_gt (pv 2) (pe_glob (v := .int 6) (by rfl) g6 ⟨_, rfl⟩) (nomark _))))) (pss_one (ps_ret pe_bl)) pss_nil)
    (pss_one (ps_ret (pe_cmpR (op_eqD hr.units) (pe_lc (own := [("part", 3)]) (g := gName 3) (by rfl) scIsBlock.nd (pi_tup (pv 1)) (blkOk_by (own := [("part", 3)]) (N := nsBlk) (sc := defScope sIsBlock) (by decide +kernel)) (fun _ _ _ _ _ => pg_name (i := 3) scIsBlock.nd (by rfl) (Or.inl (by rfl))) (fun _ _ _ _ _ => (pts_one (pt_not (pt_val (pe_h GP hr (by rfl) pass0 (pa_cons (pv 0) (pa_cons (pv 3) (pa_cons (pv 2) pa_nil)))))))) (fun _ _ _ _ _ => (pv 3))) (pe_lst pa_nil) (nomark _))))), ?_⟩
  refine ⟨_, rfl, _, _, _, _, _, rfl, .ty "tuple", .base (.tup ha), kit_ty (r := true) (by decide +kernel), _, rfl, iteF ?_⟩
  refine ⟨_, rfl, _, _, rfl, rfl, _, rfl, iteF' (decide_eq_false (by omega)) ?_⟩
  refine ⟨_, rfl, a, rfl, ⟨_, SqT.of ha⟩, fun D hD => lc_tup (K := K) (a := a) (xs := xs) (fun _ H' => Ex H H' ∧ H' D = some (.lst [])) ⟨Ex.new hD, upd_same⟩ (fun i H' _ hP => SqT.of (hP.1 _ _ ha)) ?_ ?_⟩
  · intro i x H' hi hP
    obtain ⟨dd, hdi, hxd⟩ := TpL.getV hx hi
    obtain ⟨p, hp, rfl⟩ := datas_get hdi
    refine ⟨rfl, _, rfl, _, rfl, _, rfl, n, d, p, x, rfl, Tp.mono (TK.of hP.1) _ _ hxd, oks_get ho hp, Nat.le_trans (deps_get hp) (by omega), by omega, by omega, fun H2 e2 => ⟨_, rfl, iteF ⟨hP.1.trans e2, e2 _ _ hP.2⟩⟩⟩
  · intro H' hP
    refine ⟨(by show 0 ≤ sizeLine; decide), fun p hp => ?_⟩
    refine ⟨.list [], .list [], .lst (SqL.of (Ex.new hp _ _ hP.2)) .nil, .lst (SqL.of upd_same) .nil, by decide +kernel, by decide +kernel, ?_⟩
    have e : PyData.eqv (.list []) (.list []) = true := by decide +kernel
    rw [e]
    exact q _ (hP.1.trans (Ex.new hp))
/-- both, m blocks deep -/
theorem none_blk {f : Addr} {fd : FuncData} : FnOk P w K mg base CX0 1 f fd ["colours", "block", "depth"] (spBlk 0) := by
  have no : ∀ vs H Q E, ¬ spBlk 0 vs H Q E := fun vs H Q E h => by
    obtain ⟨n, d, ps, v, _, _, _, h1, _⟩ := h
    omega
  exact ⟨fun vs H Q E h => absurd h (no vs H Q E), fun A outer s H args us vs Q E _ _ _ _ h => absurd h (no vs H Q E)⟩
theorem both_is {fp fb : Addr} {fpd fbd : FuncData} (FP : Fun K "is_part" "is_part" sIsPart fp fpd) (FB : Fun K "is_block" "is_block" sIsBlock fb fbd) (B : Blt mg) {t8 t6 : Tok} (g8 : mg "MOST_TIMES" = some (.int 8 t8)) (g6 : mg "MOST_DEPTH" = some (.int 6 t6))
    (G : Has P w K mg base CX0 1 "is_in" ["value", "least", "most"] spIsIn) (mp : mg "is_part" = some (.ref fp)) (mb : mg "is_block" = some (.ref fb)) (bp : Binds K fpd ["colours", "part", "depth"] []) (bb : Binds K fbd ["colours", "block", "depth"] []) :
    ∀ m, Has P w K mg base CX0 (2 * m + 1) "is_block" ["colours", "block", "depth"] (spBlk m)
  | 0 => ⟨fb, fbd, none_blk, mb, FB.kp, bb⟩
  | m + 1 => by
    have ih := both_is FP FB B g8 g6 G mp mb bp bb m
    exact ⟨fb, fbd, ok_isblock FB B g6 ⟨fp, fpd, ok_ispart FP B g8 G ih, mp, FP.kp, bp⟩, mb, FB.kp, bb⟩
end
end Pk

namespace Pk
open PySem PySem.Spec PyProof.Rows L2 Evl
def Pt.blocks : Pt → List (List Pt)
  | .iff _ a b => [a, b]
  | .whl _ a => [a]
  | .rep _ a => [a]
  | .fvr a => [a]
  | _ => []
theorem cnt_blocks (p : Pt) : (p.cnt : Int) = 1 + (p.blocks.map fun b => (Pt.cnts b : Int)).sum := by
  cases p <;> simp [Pt.blocks, Pt.cnt] <;> omega
theorem dep_blocks {p : Pt} {b : List Pt} (h : b ∈ p.blocks) : Pt.deps b + 1 ≤ p.dep := by
  cases p with
  | iff c x y =>
    simp only [Pt.blocks, List.mem_cons, List.not_mem_nil, or_false] at h
    rcases h with rfl | rfl <;> simp only [Pt.dep] <;> omega
  | whl c x =>
    simp only [Pt.blocks, List.mem_cons, List.not_mem_nil, or_false] at h
    subst h; simp only [Pt.dep]; omega
  | rep c x =>
    simp only [Pt.blocks, List.mem_cons, List.not_mem_nil, or_false] at h
    subst h; simp only [Pt.dep]; omega
  | fvr x =>
    simp only [Pt.blocks, List.mem_cons, List.not_mem_nil, or_false] at h
    subst h; simp only [Pt.dep]; omega
  | step => simp [Pt.blocks] at h
  | stop => simp [Pt.blocks] at h
  | paint c => simp [Pt.blocks] at h
  | turn c => simp [Pt.blocks] at h
theorem take_more {α : Type} : ∀ {l : List α} {i : Nat} {x : α}, l[i]? = some x → l.take (i + 1) = l.take i ++ [x]
  | [], i, x, h => by simp at h
  | a :: l, 0, x, h => by
    have e : a = x := Option.some.inj h
    subst e
    rfl
  | a :: l, i + 1, x, h => by
    have ih := take_more (l := l) (i := i) (x := x) h
    show a :: l.take (i + 1) = a :: l.take i ++ [x]
    rw [ih]
    rfl
theorem cnts_append : ∀ a b : List Pt, Pt.cnts (a ++ b) = Pt.cnts a + Pt.cnts b
  | [], b => by simp [Pt.cnts]
  | p :: a, b => by
    rw [List.cons_append, Pt.cnts, Pt.cnts, cnts_append a b]
    omega
theorem cnts_take {ps : List Pt} {i : Nat} {p : Pt} (h : ps[i]? = some p) : Pt.cnts (ps.take (i + 1)) = Pt.cnts (ps.take i) + p.cnt := by
  rw [take_more h, cnts_append]
  simp [Pt.cnts]
theorem liness_append : ∀ a b : List Pt, Pt.liness (a ++ b) = Pt.liness a ++ Pt.liness b
  | [], b => by simp [Pt.liness]
  | p :: a, b => by rw [List.cons_append, Pt.liness, Pt.liness, liness_append a b, List.append_assoc]
theorem liness_take {ps : List Pt} {i : Nat} {p : Pt} (h : ps[i]? = some p) : Pt.liness (ps.take (i + 1)) = Pt.liness (ps.take i) ++ p.lines := by
  rw [take_more h, liness_append]
  simp [Pt.liness]
theorem datas_len : ∀ ps : List Pt, (Pt.datas ps).length = ps.length
  | [] => rfl
  | p :: r => by rw [Pt.datas, List.length_cons, List.length_cons, datas_len r]
section
variable {P : Program} {w : World} {K : PySem.W.Frag} {mg : Str → Option Value} {base : Heap}
/-! ### blocks_in -/
def spBlocks : Sp := fun vs H Q _ => ∃ (p : Pt) (v : V), vs = [v] ∧ Tp H p.data v ∧ ∀ q xs H', Ex H H' → H q = none → H' q = some (.lst xs) → TpL H' (p.blocks.map fun b => .tuple (Pt.datas b)) xs → Q (.ref q) H'
theorem scBlocks : FnScope ["part"] ["part"] (defScope sBlocksIn) := ⟨rfl, rfl, rfl, by decide +kernel, rfl, by decide +kernel, by decide +kernel⟩
theorem atI_m1 {xs : List V} {v : V} (h : xs[xs.length - 1]? = some v) : atI xs (-1) = some v := by
  have hl : xs.length ≠ 0 := by
    intro e
    rw [List.length_eq_zero_iff.mp e] at h
    simp at h
  have e : ixN xs.length (-1) = some (xs.length - 1) := by
    unfold ixN
    rw [if_neg (by omega), if_pos (by omega)]
    congr 1
    omega
  rw [atI, e]
  exact h
theorem ok_blocks {f : Addr} {fd : FuncData} (F : Fun K "blocks_in" "blocks_in" sBlocksIn f fd) : FnOk P w K mg base CX0 1 f fd ["part"] spBlocks := by
  refine F.ok scBlocks (fun vs H Q E h => ?_) (fun cdv A outer s H vs Q E hr h => ?_)
  · obtain ⟨p, v, rfl, _⟩ := h
    rfl
  obtain ⟨p, v, rfl, ht, q⟩ := h
  refine ⟨_, (pss_cons (ps_if (pt_cmpR op_eq (pe_ix ix_tup (pv 0) pe_int (fun _ _ => rfl)) pe_str (nomark _)) (pss_one (ps_ret (pe_lst (pa_cons (pe_ix ix_tup (pv 0) pe_int (fun _ _ => rfl)) (pa_cons (pe_ix ix_tup (pv 0) pe_int (fun _ _ => rfl)) pa_nil))))) pss_nil)
    (pss_one (ps_ret (pe_ifExp (pt_cmpR op_in_seq (pe_ix ix_tup (pv 0) pe_int (fun _ _ => rfl)) (pe_tup (pa_cons pe_str (pa_cons pe_str (pa_cons pe_str pa_nil)))) (by rfl)) (pe_lst (pa_cons (pe_ix ix_tup (pv 0) (pe_un un_neg pe_int) (fun _ _ => rfl)) pa_nil)) (pe_lst pa_nil))))), ?_⟩
  obtain ⟨a, f0, r0, rfl, ha, _⟩ := tp_head ht
  have hT := SqT.of (K := K) ha
  refine ⟨_, rfl, _, _, 0, .str f0, rfl, rfl, hT, atI_nat (j := 0) rfl, rfl, _, rfl, ?_⟩
  cases p with
  | step =>
    obtain ⟨b, e, h⟩ := tp_one ht
    cases e
    cases (ha.symm.trans h)
    refine eq_miss (by decide +kernel) ?_
    refine ⟨_, rfl, _, _, 0, _, rfl, rfl, hT, atI_nat (j := 0) rfl, (by show 3 ≤ sizeLine; decide), fun t ht => ⟨t, _, rfl, .inr (SqT.of upd_same), rfl, rfl, _, rfl, iteF' (by decide +kernel) ⟨(by show 0 ≤ sizeLine; decide), fun l hl => ?_⟩⟩⟩
    exact q l [] _ ((Ex.new ht).trans (Ex.new hl)) (fresh_back (Ex.new ht) hl) upd_same rfl
  | stop =>
    obtain ⟨b, e, h⟩ := tp_one ht
    cases e
    cases (ha.symm.trans h)
    refine eq_miss (by decide +kernel) ?_
    refine ⟨_, rfl, _, _, 0, _, rfl, rfl, hT, atI_nat (j := 0) rfl, (by show 3 ≤ sizeLine; decide), fun t ht => ⟨t, _, rfl, .inr (SqT.of upd_same), rfl, rfl, _, rfl, iteF' (by decide +kernel) ⟨(by show 0 ≤ sizeLine; decide), fun l hl => ?_⟩⟩⟩
    exact q l [] _ ((Ex.new ht).trans (Ex.new hl)) (fresh_back (Ex.new ht) hl) upd_same rfl
  | paint c =>
    obtain ⟨b, e, h⟩ := tp_int ht
    cases e
    cases (ha.symm.trans h)
    refine eq_miss (by decide +kernel) ?_
    refine ⟨_, rfl, _, _, 0, _, rfl, rfl, hT, atI_nat (j := 0) rfl, (by show 3 ≤ sizeLine; decide), fun t ht => ⟨t, _, rfl, .inr (SqT.of upd_same), rfl, rfl, _, rfl, iteF' (by decide +kernel) ⟨(by show 0 ≤ sizeLine; decide), fun l hl => ?_⟩⟩⟩
    exact q l [] _ ((Ex.new ht).trans (Ex.new hl)) (fresh_back (Ex.new ht) hl) upd_same rfl
  | turn c =>
    obtain ⟨b, e, h⟩ := tp_int ht
    cases e
    cases (ha.symm.trans h)
    refine eq_miss (by decide +kernel) ?_
    refine ⟨_, rfl, _, _, 0, _, rfl, rfl, hT, atI_nat (j := 0) rfl, (by show 3 ≤ sizeLine; decide), fun t ht => ⟨t, _, rfl, .inr (SqT.of upd_same), rfl, rfl, _, rfl, iteF' (by decide +kernel) ⟨(by show 0 ≤ sizeLine; decide), fun l hl => ?_⟩⟩⟩
    exact q l [] _ ((Ex.new ht).trans (Ex.new hl)) (fresh_back (Ex.new ht) hl) upd_same rfl
  | whl c x =>
    obtain ⟨b, r1, xs1, e, h, hx, hx'⟩ := tp_iblk ht
    cases e
    cases (ha.symm.trans h)
    refine eq_miss (by decide +kernel) ?_
    refine ⟨_, rfl, _, _, 0, _, rfl, rfl, hT, atI_nat (j := 0) rfl, (by show 3 ≤ sizeLine; decide), fun t ht => ⟨t, _, rfl, .inr (SqT.of upd_same), rfl, rfl, _, rfl, iteT' (by decide +kernel) ⟨_, rfl, _, rfl, _, _, -1, .ref r1, rfl, rfl, SqT.of (Ex.new ht _ _ ha), atI_m1 rfl, (by show 1 ≤ sizeLine; decide), fun l hl => ?_⟩⟩⟩
    have k := TK.of ((Ex.new ht (o := .tup [.str "while", .str "repeat", .str "forever"])).trans (Ex.new hl (o := .lst [.ref r1])))
    exact q l _ _ ((Ex.new ht).trans (Ex.new hl)) (fresh_back (Ex.new ht) hl) upd_same ⟨.ref r1, [], rfl, ⟨r1, xs1, rfl, k _ _ hx, TpL.mono k _ _ hx'⟩, rfl⟩
  | rep c x =>
    obtain ⟨b, r1, xs1, e, h, hx, hx'⟩ := tp_iblk ht
    cases e
    cases (ha.symm.trans h)
    refine eq_miss (by decide +kernel) ?_
    refine ⟨_, rfl, _, _, 0, _, rfl, rfl, hT, atI_nat (j := 0) rfl, (by show 3 ≤ sizeLine; decide), fun t ht => ⟨t, _, rfl, .inr (SqT.of upd_same), rfl, rfl, _, rfl, iteT' (by decide +kernel) ⟨_, rfl, _, rfl, _, _, -1, .ref r1, rfl, rfl, SqT.of (Ex.new ht _ _ ha), atI_m1 rfl, (by show 1 ≤ sizeLine; decide), fun l hl => ?_⟩⟩⟩
    have k := TK.of ((Ex.new ht (o := .tup [.str "while", .str "repeat", .str "forever"])).trans (Ex.new hl (o := .lst [.ref r1])))
    exact q l _ _ ((Ex.new ht).trans (Ex.new hl)) (fresh_back (Ex.new ht) hl) upd_same ⟨.ref r1, [], rfl, ⟨r1, xs1, rfl, k _ _ hx, TpL.mono k _ _ hx'⟩, rfl⟩
  | fvr x =>
    obtain ⟨b, r1, xs1, e, h, hx, hx'⟩ := tp_blk ht
    cases e
    cases (ha.symm.trans h)
    refine eq_miss (by decide +kernel) ?_
    refine ⟨_, rfl, _, _, 0, _, rfl, rfl, hT, atI_nat (j := 0) rfl, (by show 3 ≤ sizeLine; decide), fun t ht => ⟨t, _, rfl, .inr (SqT.of upd_same), rfl, rfl, _, rfl, iteT' (by decide +kernel) ⟨_, rfl, _, rfl, _, _, -1, .ref r1, rfl, rfl, SqT.of (Ex.new ht _ _ ha), atI_m1 rfl, (by show 1 ≤ sizeLine; decide), fun l hl => ?_⟩⟩⟩
    have k := TK.of ((Ex.new ht (o := .tup [.str "while", .str "repeat", .str "forever"])).trans (Ex.new hl (o := .lst [.ref r1])))
    exact q l _ _ ((Ex.new ht).trans (Ex.new hl)) (fresh_back (Ex.new ht) hl) upd_same ⟨.ref r1, [], rfl, ⟨r1, xs1, rfl, k _ _ hx, TpL.mono k _ _ hx'⟩, rfl⟩
  | iff c x y =>
    obtain ⟨b, r1, xs1, r2, xs2, e, h, ⟨hx, hx'⟩, hy, hy'⟩ := tp_two ht
    cases e
    cases (ha.symm.trans h)
    refine eq_hit ?_
    refine ⟨_, rfl, _, _, 2, .ref r1, rfl, rfl, hT, atI_nat (j := 2) rfl, _, rfl, _, _, 3, .ref r2, rfl, rfl, hT, atI_nat (j := 3) rfl, (by show 2 ≤ sizeLine; decide), fun l hl => ?_⟩
    have k := TK.of (Ex.new hl (o := .lst [.ref r1, .ref r2]))
    exact q l _ _ (Ex.new hl) hl upd_same ⟨.ref r1, _, rfl, ⟨r1, xs1, rfl, k _ _ hx, TpL.mono k _ _ hx'⟩, .ref r2, _, rfl, ⟨r2, xs2, rfl, k _ _ hy, TpL.mono k _ _ hy'⟩, rfl⟩
/-! ### parts_in -/
def spParts (m : Nat) : Sp := fun vs H Q _ => ∃ (ps : List Pt) (v : V), vs = [v] ∧ Tp H (.tuple (Pt.datas ps)) v ∧ Pt.deps ps + 1 ≤ m ∧ ∀ H', Ex H H' → Q (.int (Pt.cnts ps)) H'
abbrev nsParts : List Str := ["block", "found", "part", "inner"]
theorem scParts : FnScope nsParts ["block"] (defScope sPartsIn) := ⟨rfl, rfl, rfl, by decide +kernel, rfl, by decide +kernel, by decide +kernel⟩
theorem ok_parts {m : Nat} {f : Addr} {fd : FuncData} (F : Fun K "parts_in" "parts_in" sPartsIn f fd) (B : Blt mg) (GB : Has P w K mg base CX0 1 "blocks_in" ["part"] spBlocks)
    (GP : Has P w K mg base CX0 (m + 1) "parts_in" ["block"] (spParts m)) : FnOk P w K mg base CX0 (m + 1 + 1) f fd ["block"] (spParts (m + 1)) := by
  refine F.ok scParts (fun vs H Q E h => ?_) (fun cdv A outer s H vs Q E hr h => ?_)
  · obtain ⟨ps, v, rfl, _⟩ := h
    rfl
  obtain ⟨ps, v, rfl, ⟨a, xs, rfl, ha, hx⟩, hd, q⟩ := h
  have hr1 : Room 1 (A.deeper (envOfC "parts_in" (defScope sPartsIn) s.heap.objs.size f cdv)) := hr.mono (by omega)
  refine ⟨_, (pss_cons (ps_set (i := 1) scParts.nd (by rfl) (.inl rfl) pe_int)
    (pss_cons (ps_for PassesOwn.never (by rfl) (pi_tup (pv 0)) (pg_name (i := 2) scParts.nd (by rfl) (.inl rfl)) (pss_one (ps_aug (i := 1) scParts.nd (by rfl) (.inl rfl) (pe_op op_add pe_int (pe_callB (cr_sum rfl) (by rfl) B.sum (by decide +kernel) (pa_cons (pe_lc (own := [("inner", 3)]) (g := gName 3) (by rfl) scParts.nd (pi_list (pe_h GB hr1 (by rfl) pass0 (pa_cons (pv 2) pa_nil))) (blkOk_by (own := [("inner", 3)]) (N := nsParts) (sc := defScope sPartsIn) (by decide +kernel)) (fun _ _ _ _ _ => pg_name (i := 3) scParts.nd (by rfl) (Or.inl (by rfl))) (fun _ _ _ _ _ => pts_nil) (fun _ _ _ _ _ => (pe_h GP hr (by rfl) pass0 (pa_cons (pv 3) pa_nil)))) pa_nil))) ip_add)))
    (pss_one (ps_ret (pv 1))))), ?_⟩
  refine ⟨_, rfl, a, rfl, ⟨_, SqT.of ha⟩, for_tup (K := K) (a := a) (xs := xs) (fun i σ H' => ∃ u, σ = [some (.ref a), some (.int (Pt.cnts (ps.take i))), u, none] ∧ Ex H H') ⟨none, rfl, Ex.refl H⟩ (fun i σ H' _ ⟨_, _, e⟩ => SqT.of (e _ _ ha)) ?_ ?_⟩
  · rintro i x σ H' hi ⟨u, rfl, e1⟩
    obtain ⟨dd, hdi, hxd⟩ := TpL.getV hx hi
    obtain ⟨p, hp, rfl⟩ := datas_get hdi
    refine ⟨_, rfl, ?_⟩
    refine ⟨_, rfl, p, x, rfl, Tp.mono (TK.of e1) _ _ hxd, fun l bs H2 e2 hl hl2 hb => ⟨l, rfl, ⟨_, SqL.of hl2⟩, fun D hD => lc_list (K := K) (a := l) (xs := bs) (fun j H3 => Ex H2 H3 ∧ H3 D = some (.lst ((p.blocks.take j).map fun b => V.int (Pt.cnts b)))) ⟨Ex.new hD, upd_same⟩ (fun j H3 _ hP => SqL.of (hP.1 _ _ hl2)) ?_ ?_⟩⟩
    · intro j y H3 hj hP
      obtain ⟨d2, hd2, hy⟩ := TpL.getV hb hj
      rw [List.getElem?_map] at hd2
      cases hbj : p.blocks[j]? with
      | none => rw [hbj] at hd2; cases hd2
      | some b =>
        rw [hbj] at hd2
        cases hd2
        have hm : b ∈ p.blocks := List.mem_of_getElem? hbj
        have h1 := dep_blocks hm
        have h2 := deps_get hp
        refine ⟨rfl, ?_⟩
        refine ⟨_, rfl, b, y, rfl, Tp.mono (TK.of hP.1) _ _ hy, by omega, fun H4 e4 => ⟨_, e4 _ _ hP.2, ?_, ?_⟩⟩
        · rw [List.length_map]
          have : (p.blocks.take j).length ≤ 2 := by
            rw [List.length_take]
            have : p.blocks.length ≤ 2 := by cases p <;> simp [Pt.blocks]
            omega
          exact Nat.lt_of_le_of_lt this (by decide)
        · refine ⟨?_, ?_⟩
          · exact (hP.1.trans e4).mut hD
          · rw [upd_same, take_more hbj, List.map_append]
            rfl
    · intro H3 hP
      refine ⟨D, p.blocks.map fun b => (Pt.cnts b : Int), rfl, SqL.of ?_, _, _, rfl, rfl, ?_⟩
      · have hlen : bs.length = p.blocks.length := by rw [TpL.length hb, List.length_map]
        rw [hP.2, hlen, List.take_length, List.map_map]
        rfl
      · refine ⟨_, _, rfl, rfl, ?_⟩
        refine ⟨some x, ?_, (e1.trans e2).trans hP.1⟩
        have e := cnt_blocks p
        show [_, some (V.int ((Pt.cnts (ps.take i) : Int) + (1 + _))), _, _] = _
        rw [← e, cnts_take hp]
        rfl
  · rintro σ H' ⟨u, rfl, e1⟩
    refine ⟨_, rfl, ?_⟩
    have : xs.length = ps.length := by rw [TpL.length hx, datas_len]
    rw [this, List.take_length]
    exact q H' e1
theorem none_parts {f : Addr} {fd : FuncData} : FnOk P w K mg base CX0 1 f fd ["block"] (spParts 0) := by
  have no : ∀ vs H Q E, ¬ spParts 0 vs H Q E := fun vs H Q E h => by
    obtain ⟨ps, v, _, _, h1, _⟩ := h
    omega
  exact ⟨fun vs H Q E h => absurd h (no vs H Q E), fun A outer s H args us vs Q E _ _ _ _ h => absurd h (no vs H Q E)⟩
theorem all_parts {f : Addr} {fd : FuncData} (F : Fun K "parts_in" "parts_in" sPartsIn f fd) (B : Blt mg) (GB : Has P w K mg base CX0 1 "blocks_in" ["part"] spBlocks) (mp : mg "parts_in" = some (.ref f)) (bp : Binds K fd ["block"] []) :
    ∀ m, Has P w K mg base CX0 (m + 1) "parts_in" ["block"] (spParts m)
  | 0 => ⟨f, fd, none_parts, mp, F.kp, bp⟩
  | m + 1 => ⟨f, fd, ok_parts F B GB (all_parts F B GB mp bp m), mp, F.kp, bp⟩
/-! ### need_plan: a drawn plan is one -/
def spNeed : Sp := fun vs H Q _ => ∃ (n : Int) (ps : List Pt) (a : Addr) (v : V), vs = [.ref a] ∧ H a = some (.tup [.int n, v]) ∧ Tp H (.tuple (Pt.datas ps)) v ∧ 2 ≤ n ∧ n ≤ 6 ∧ Pt.oks n ps ∧ Pt.deps ps ≤ 4 ∧ Pt.cnts ps ≤ 60 ∧ ∀ H', Ex H H' → Q .non H'
theorem scNeed : FnScope ["plan"] ["plan"] (defScope sNeed) := ⟨rfl, rfl, rfl, by decide +kernel, rfl, by decide +kernel, by decide +kernel⟩
theorem ok_need {f : Addr} {fd : FuncData} (F : Fun K "need_plan" "need_plan" sNeed f fd) (B : Blt mg) {t2 t6 t60 : Tok} (g2 : mg "LEAST_COLOURS" = some (.int 2 t2)) (g6 : mg "MOST_COLOURS" = some (.int 6 t6)) (g60 : mg "MOST_PARTS" = some (.int 60 t60))
    (G : Has P w K mg base CX0 1 "is_in" ["value", "least", "most"] spIsIn) (GB : Has P w K mg base CX0 11 "is_block" ["colours", "block", "depth"] (spBlk 5)) (GP : Has P w K mg base CX0 6 "parts_in" ["block"] (spParts 5)) :
    FnOk P w K mg base CX0 12 f fd ["plan"] spNeed := by
  refine F.ok scNeed (fun vs H Q E h => ?_) (fun cdv A outer s H vs Q E hr h => ?_)
  · obtain ⟨n, ps, a, v, rfl, _⟩ := h
    rfl
  obtain ⟨n, ps, a, v, rfl, ha, ht, h2, h6, ho, hd, hc, q⟩ := h
  refine ⟨_, (pss_cons (ps_if (PW.pt (pw_or (pt_not (pt_val (pe_callB call_isi (by rfl) B.isi (by decide +kernel) (pa_cons (pv 0) (pa_cons (pe_bltn (v := .ty "tuple") (u := .type "tuple") (by rfl) B.tup (by decide +kernel) rfl) pa_nil))))) (pw_or (pt_cmpR op_ne (pe_callB call_len_seq (by rfl) B.len (by decide +kernel) (pa_cons (pv 0) pa_nil)) pe_int (nomark _)) (pw_or1 (pt_not (pt_val (pe_h G (hr.mono (by decide)) (by rfl) pass0 (pa_cons (pe_ix ix_tup (pv 0) pe_int (fun _ _ => rfl)) (pa_cons (pe_glob (v := .int 2) (by rfl) g2 ⟨_, rfl⟩) (pa_cons (pe_glob (v := .int 6) (by rfl) g6 ⟨_, rfl⟩) pa_nil)))))))))) (pss_one ps_never) pss_nil)
    (pss_one (ps_if (PW.pt (pw_or (pt_not (pt_val (pe_h GB hr (by rfl) pass0 (pa_cons (pe_ix ix_tup (pv 0) pe_int (fun _ _ => rfl)) (pa_cons (pe_ix ix_tup (pv 0) pe_int (fun _ _ => rfl)) (pa_cons pe_int pa_nil)))))) (pw_or1 (pt_cmpR op_gt (pe_h GP (hr.mono (by decide)) (by rfl) pass0 (pa_cons (pe_ix ix_tup (pv 0) pe_int (fun _ _ => rfl)) pa_nil)) (pe_glob (v := .int 60) (by rfl) g60 ⟨_, rfl⟩) (nomark _))))) (pss_one ps_never) pss_nil))), ?_⟩
  have hT := SqT.of (K := K) ha
  refine ⟨_, rfl, _, _, _, _, _, rfl, .ty "tuple", .base (.tup ha), kit_ty (r := true) (by decide +kernel), _, rfl, iteF ?_⟩
  refine ⟨_, rfl, _, _, rfl, .inr hT, rfl, _, rfl, iteF' (ndec rfl) ?_⟩
  refine ⟨_, rfl, _, _, 0, .int n, rfl, rfl, hT, atI_nat (j := 0) rfl, n, 2, 6, rfl, ?_⟩
  rw [decide_eq_true h2, decide_eq_true h6]
  refine ⟨_, rfl, iteF ?_⟩
  refine ⟨_, rfl, _, _, 0, .int n, rfl, rfl, hT, atI_nat (j := 0) rfl, _, rfl, _, _, 1, v, rfl, rfl, hT, atI_nat (j := 1) rfl, n, 1, ps, v, rfl, ht, ho, by omega, by omega, by omega, fun H2 e2 => ⟨_, rfl, iteF ?_⟩⟩
  refine ⟨_, rfl, _, _, 1, v, rfl, rfl, SqT.of (e2 _ _ ha), atI_nat (j := 1) rfl, ps, v, rfl, Tp.mono (TK.of e2) _ _ ht, by omega, fun H3 e3 => ⟨_, _, rfl, rfl, _, rfl, iteF' (decide_eq_false (by omega)) ?_⟩⟩
  exact q _ (e2.trans e3)
end
end Pk

namespace Pk
open PySem PySem.Spec PyProof.Rows L2 Evl
/-! ### lists of lines in the heap -/
/-- xs are new lists (not of H0), the lines ls -/
def LsF (H0 H : Hp) : List (List Str) → List V → Prop
  | [], xs => xs = []
  | ws :: r, xs => ∃ l ys, xs = .ref l :: ys ∧ H0 l = none ∧ H l = some (.lst (ws.map V.str)) ∧ LsF H0 H r ys
theorem LsF.mono {H0 H H' : Hp} (k : ∀ l o, H0 l = none → H l = some o → H' l = some o) : ∀ {ls : List (List Str)} {xs : List V}, LsF H0 H ls xs → LsF H0 H' ls xs
  | [], _, h => h
  | _ :: _, _, ⟨l, ys, e, h0, h1, r⟩ => ⟨l, ys, e, h0, k l _ h0 h1, LsF.mono k r⟩
theorem LsF.low {H0 H00 H : Hp} (k : ∀ l, H0 l = none → H00 l = none) : ∀ {ls : List (List Str)} {xs : List V}, LsF H0 H ls xs → LsF H00 H ls xs
  | [], _, h => h
  | _ :: _, _, ⟨l, ys, e, h0, h1, r⟩ => ⟨l, ys, e, k l h0, h1, LsF.low k r⟩
theorem LsF.append {H0 H : Hp} : ∀ {ls ms : List (List Str)} {xs ys : List V}, LsF H0 H ls xs → LsF H0 H ms ys → LsF H0 H (ls ++ ms) (xs ++ ys)
  | [], _, _, _, h, h' => by
    have e : _ = _ := h
    rw [e]
    exact h'
  | _ :: _, _, _, _, ⟨l, ys, e, h0, h1, r⟩, h' => by
    rw [e]
    exact ⟨l, _, rfl, h0, h1, LsF.append r h'⟩
theorem LsF.length {H0 H : Hp} : ∀ {ls : List (List Str)} {xs : List V}, LsF H0 H ls xs → xs.length = ls.length
  | [], _, h => by
    have e : _ = _ := h
    rw [e]
    rfl
  | _ :: _, _, ⟨l, ys, e, _, _, r⟩ => by rw [e, List.length_cons, List.length_cons, LsF.length r]
theorem LsF.get {H0 H : Hp} : ∀ {ls : List (List Str)} {xs : List V} {i : Nat} {x : V}, LsF H0 H ls xs → xs[i]? = some x → ∃ ws l, ls[i]? = some ws ∧ x = .ref l ∧ H l = some (.lst (ws.map V.str))
  | [], _, _, _, h, hi => by
    have e : _ = _ := h
    rw [e] at hi
    simp at hi
  | ws :: r, _, 0, x, ⟨l, ys, e, _, h1, _⟩, hi => by
    rw [e] at hi
    exact ⟨ws, l, rfl, (Option.some.inj hi).symm, h1⟩
  | ws :: r, _, i + 1, x, ⟨l, ys, e, _, _, h2⟩, hi => by
    rw [e] at hi
    exact LsF.get h2 (i := i) hi
theorem LsF.one {H0 H : Hp} {l : Addr} {ws : List Str} (h0 : H0 l = none) (h : H l = some (.lst (ws.map V.str))) : LsF H0 H [ws] [.ref l] := ⟨l, [], rfl, h0, h, rfl⟩
mutual
theorem lines_len : ∀ p : Pt, p.lines.length ≤ 3 * p.cnt
  | .step => by decide
  | .stop => by decide
  | .paint c => by simp [Pt.lines, Pt.cnt]
  | .turn c => by simp [Pt.lines, Pt.cnt]
  | .iff c a [] => by
    have h1 := liness_len a
    simp only [Pt.lines, Pt.cnt, Pt.cnts, List.length_cons, List.length_append, List.length_nil]
    omega
  | .iff c a (b :: bs) => by
    have h1 := liness_len a
    have h2 := liness_len (b :: bs)
    simp only [Pt.lines, Pt.cnt, List.length_cons, List.length_append, List.length_nil]
    omega
  | .whl c a => by
    have h1 := liness_len a
    simp only [Pt.lines, Pt.cnt, List.length_cons, List.length_append, List.length_nil]
    omega
  | .rep c a => by
    have h1 := liness_len a
    simp only [Pt.lines, Pt.cnt, List.length_cons, List.length_append, List.length_nil]
    omega
  | .fvr a => by
    have h1 := liness_len a
    simp only [Pt.lines, Pt.cnt, List.length_cons, List.length_append, List.length_nil]
    omega
theorem liness_len : ∀ ps : List Pt, (Pt.liness ps).length ≤ 3 * Pt.cnts ps
  | [] => by simp [Pt.liness]
  | p :: r => by
    have h1 := lines_len p
    have h2 := liness_len r
    simp only [Pt.liness, Pt.cnts, List.length_append]
    omega
end
/-- the lines of a second block -/
def elseL : List Pt → List (List Str)
  | [] => []
  | y :: r => [("else" : Str)] :: Pt.liness (y :: r)
theorem cnts_take_le (ps : List Pt) (i : Nat) : Pt.cnts (ps.take i) ≤ Pt.cnts ps := by
  have h := cnts_append (ps.take i) (ps.drop i)
  rw [List.take_append_drop] at h
  omega
theorem cnt_get {ps : List Pt} {i : Nat} {p : Pt} (h : ps[i]? = some p) : p.cnt ≤ Pt.cnts ps := by
  have h1 := cnts_take h
  have h2 := cnts_take_le ps (i + 1)
  omega
theorem line180 {n : Nat} (h : n ≤ 1000) : n ≤ sizeLine := Nat.le_of_lt (small1000 h)
theorem dir_at {c : Int} (h1 : 1 ≤ c) (h3 : c ≤ 3) : atI [V.str "right", V.str "back", V.str "left"] (c - 1) = some (.str (dirT c)) := by
  have : c = 1 ∨ c = 2 ∨ c = 3 := by omega
  rcases this with rfl | rfl | rfl <;> rfl
/-- what str says of a word or a small number -/
def strV : V → Str → Prop
  | .str s, w => w = s
  | .int c, w => w = num c ∧ c.natAbs.log2 < 1920
  | _, _ => False
theorem log_small {c : Int} (h0 : 0 ≤ c) (h : c < 10) : c.natAbs.log2 < 1920 := by
  have : ∀ k : Fin 10, Nat.log2 k.val < 1920 := by decide
  have hk := this ⟨c.natAbs, by omega⟩
  exact hk
def rStr : List V → Hp → VK → Prop := fun xs H Q => (∃ i, xs = [.int i] ∧ i.natAbs.log2 < 1920 ∧ Q (.str (toString i)) H) ∨ (∃ a, xs = [.str a] ∧ Q (.str a) H)
theorem call_str {X : Cx} : CallR X (.type "str") rStr := CallR.or call_str_int SkE.call_str_str
/-- [str(x) for x in t], t a tuple of words and numbers -/
theorem rd_strs {K : PySem.W.Frag} {te : TE} {σ : L2.St} {H : Hp} {Q : VK} {j : Nat} {xs : List V} {ws : List Str} (hj : j < σ.length) (hte : ∀ R : V → Hp → Prop, (∀ a H1, Ex H H1 → H1 a = some (.tup xs) → R (.ref a) H1) → te σ H R)
    (hw : ∀ (i : Nat) (x : V), xs[i]? = some x → ∃ w, ws[i]? = some w ∧ strV x w) (hl : xs.length = ws.length) (hs : ws.length ≤ 1000)
    (q : ∀ D H2, H D = none → Ex H H2 → H2 D = some (.lst (ws.map V.str)) → Q (.ref D) H2) : tLc (iTup K te) (gName j) tYes (tCB rStr (tCons (tVar j) tNil)) [j] σ H Q := by
  refine hte _ fun a H1 e1 ha => ⟨a, rfl, ⟨_, SqT.of ha⟩, fun D hD => lc_tup (K := K) (a := a) (xs := xs) (fun i H3 => Ex H1 H3 ∧ H3 D = some (.lst ((ws.take i).map V.str))) ⟨Ex.new hD, upd_same⟩ (fun i H3 _ hP => SqT.of (hP.1 _ _ ha)) ?_ ?_⟩
  · intro i x H3 hi hP
    obtain ⟨w, hwi, hx⟩ := hw i x hi
    have hN : (σ.set j none).length = σ.length := List.length_set
    refine ⟨?_, ?_⟩
    · show ((σ.set j none).set j (some x)).set j none = σ.set j none
      rw [List.set_set, List.set_set]
    · refine ⟨x, ?_, ?_⟩
      · show ((σ.set j none).set j (some x))[j]? = some (some x)
        rw [List.getElem?_set_self (by rw [hN]; exact hj)]
      · have fin : ∃ acc, H3 D = some (.lst acc) ∧ acc.length < sizeLine ∧ Ex H1 (upd H3 D (.lst (acc ++ [V.str w]))) ∧ (upd H3 D (.lst (acc ++ [V.str w]))) D = some (.lst ((ws.take (i + 1)).map V.str)) := by
          refine ⟨_, hP.2, ?_, hP.1.mut hD, ?_⟩
          · rw [List.length_map, List.length_take]
            exact small1000 (by omega)
          · rw [upd_same, take_more hwi, List.map_append]
            rfl
        cases x with
        | str s =>
          have e : w = s := hx
          rw [← e]
          exact .inr ⟨w, rfl, fin⟩
        | int c =>
          have e : w = num c ∧ c.natAbs.log2 < 1920 := hx
          rw [e.1] at fin
          exact .inl ⟨c, rfl, e.2, fin⟩
        | non => exact hx.elim
        | bl b => exact hx.elim
        | byt b => exact hx.elim
        | flt b => exact hx.elim
        | ref b => exact hx.elim
        | ty b => exact hx.elim
  · intro H3 hP
    refine q D H3 (fresh_back e1 hD) (e1.trans hP.1) ?_
    rw [hP.2, hl, List.take_length]
section
variable {P : Program} {w : World} {K : PySem.W.Frag} {mg : Str → Option Value} {base : Heap}
/-! ### lines_of -/
def spLines (m : Nat) : Sp := fun vs H Q _ => ∃ (n : Int) (ps : List Pt) (v : V), vs = [v] ∧ Tp H (.tuple (Pt.datas ps)) v ∧ n ≤ 6 ∧ Pt.oks n ps ∧ Pt.deps ps + 1 ≤ m ∧ m ≤ 20 ∧ Pt.cnts ps ≤ 60 ∧
  ∀ q xs H', Ex H H' → H q = none → H' q = some (.lst xs) → LsF H H' (Pt.liness ps) xs → Q (.ref q) H'
abbrev nsLines : List Str := ["block", "found", "part", "other", "number", "word"]
theorem scLines : FnScope nsLines ["block"] (defScope sLines) := ⟨rfl, rfl, rfl, by decide +kernel, rfl, by decide +kernel, by decide +kernel⟩
theorem ok_lines {m : Nat} {f : Addr} {fd : FuncData} (F : Fun K "lines_of" "lines_of" sLines f fd) (B : Blt mg)
    (GL : Has P w K mg base CX0 (m + 1) "lines_of" ["block"] (spLines m)) : FnOk P w K mg base CX0 (m + 1 + 1) f fd ["block"] (spLines (m + 1)) := by
  refine F.ok scLines (fun vs H Q E h => ?_) (fun cdv A outer s H vs Q E hr h => ?_)
  · obtain ⟨n, ps, v, rfl, _⟩ := h
    rfl
  obtain ⟨n, ps, v, rfl, ⟨a, xs, rfl, ha, hx⟩, hn, ho, hd, hm20, hc, q⟩ := h
  refine ⟨_, (pss_cons (ps_set (i := 1) scLines.nd (by rfl) (.inl rfl) (pe_lst pa_nil))
    (pss_cons (ps_for PassesOwn.never (by rfl) (pi_tup (pv 0)) (pg_name (i := 2) scLines.nd (by rfl) (.inl rfl)) (pss_one (ps_if (pt_cmpR op_eq (pe_ix ix_tup (pv 2) pe_int (fun _ _ => rfl)) pe_str (nomark _)) (pss_one (ps_expr (pe_bm PySem.F.plainAttrs_list PySem.F.slot_list_append PySem.F.type_list_append mt_append (pv 1) (pa_cons (pe_lst (pa_cons pe_str (pa_cons (pe_ix ix_tup (pe_tup (pa_cons pe_str (pa_cons pe_str (pa_cons pe_str pa_nil)))) (pe_op op_sub (pe_ix ix_tup (pv 2) pe_int (fun _ _ => rfl)) pe_int) (fun _ _ => rfl)) pa_nil))) pa_nil)))) (pss_one (ps_if (pt_cmpR op_in_seq (pe_ix ix_tup (pv 2) pe_int (fun _ _ => rfl)) (pe_tup (pa_cons pe_str (pa_cons pe_str (pa_cons pe_str pa_nil)))) (by rfl)) (pss_one (ps_aug (i := 1) scLines.nd (by rfl) (.inl rfl) (pe_op op_cat (pe_op op_cat (pe_lst (pa_cons (pe_op op_cat (pe_lst (pa_cons (pe_ix ix_tup (pv 2) pe_int (fun _ _ => rfl)) pa_nil)) (pe_lc (own := [("number", 4)]) (g := gName 4) (by rfl) scLines.nd (pi_tup (pe_slice sl_tup (pv 2) (po_some pe_int) (po_some (pe_un un_neg pe_int)))) (blkOk_by (own := [("number", 4)]) (N := nsLines) (sc := defScope sLines) (by decide +kernel)) (fun _ _ _ _ _ => pg_name (i := 4) scLines.nd (by rfl) (Or.inl (by rfl))) (fun _ _ _ _ _ => by exact pts_nil) (fun _ _ _ _ _ => by exact (pe_callTy call_str (by rfl) B.str (by decide +kernel) (pa_cons (pv 4) pa_nil))))) pa_nil)) (pe_h GL hr (by rfl) pass0 (pa_cons (pe_ix ix_tup (pv 2) (pe_un un_neg pe_int) (fun _ _ => rfl)) pa_nil))) (pe_lst (pa_cons (pe_lst (pa_cons pe_str pa_nil)) pa_nil))) iop_ext)) (pss_one (ps_if (pt_cmpR op_eq (pe_ix ix_tup (pv 2) pe_int (fun _ _ => rfl)) pe_str (nomark _)) (pss_cons (ps_set (i := 3) scLines.nd (by rfl) (.inl rfl) (pe_ifExp (pt_cmpR (op_neD hr.units) (pe_ix ix_tup (pv 2) pe_int (fun _ _ => rfl)) (pe_tup pa_nil) (nomark _)) (pe_op op_cat (pe_lst (pa_cons (pe_lst (pa_cons pe_str pa_nil)) pa_nil)) (pe_h GL hr (by rfl) pass0 (pa_cons (pe_ix ix_tup (pv 2) pe_int (fun _ _ => rfl)) pa_nil))) (pe_lst pa_nil)))
    (pss_one (ps_aug (i := 1) scLines.nd (by rfl) (.inl rfl) (pe_op op_cat (pe_op op_cat (pe_op op_cat (pe_lst (pa_cons (pe_lst (pa_cons pe_str (pa_cons (pe_callTy call_str (by rfl) B.str (by decide +kernel) (pa_cons (pe_ix ix_tup (pv 2) pe_int (fun _ _ => rfl)) pa_nil)) pa_nil))) pa_nil)) (pe_h GL hr (by rfl) pass0 (pa_cons (pe_ix ix_tup (pv 2) pe_int (fun _ _ => rfl)) pa_nil))) (pv 3)) (pe_lst (pa_cons (pe_lst (pa_cons pe_str pa_nil)) pa_nil))) iop_ext))) (pss_one (ps_expr (pe_bm PySem.F.plainAttrs_list PySem.F.slot_list_append PySem.F.type_list_append mt_append (pv 1) (pa_cons (pe_lc (own := [("word", 5)]) (g := gName 5) (by rfl) scLines.nd (pi_tup (pv 2)) (blkOk_by (own := [("word", 5)]) (N := nsLines) (sc := defScope sLines) (by decide +kernel)) (fun _ _ _ _ _ => pg_name (i := 5) scLines.nd (by rfl) (Or.inl (by rfl))) (fun _ _ _ _ _ => by exact pts_nil) (fun _ _ _ _ _ => by exact (pe_callTy call_str (by rfl) B.str (by decide +kernel) (pa_cons (pv 5) pa_nil)))) pa_nil)))))))))))
    (pss_one (ps_ret (pv 1))))), ?_⟩
  refine ⟨(by show 0 ≤ sizeLine; decide), fun L hL => ?_⟩
  refine ⟨_, rfl, a, rfl, ⟨_, SqT.of (Ex.new hL _ _ ha)⟩, for_tup (K := K) (a := a) (xs := xs) (fun i σ H' => ∃ u o ys, σ = [some (.ref a), some (.ref L), u, o, none, none] ∧ Ex H H' ∧ H' L = some (.lst ys) ∧ LsF (upd H L (.lst [])) H' (Pt.liness (ps.take i)) ys)
    ⟨none, none, [], rfl, Ex.new hL, upd_same, rfl⟩ (fun i σ H' _ ⟨_, _, _, _, e, _⟩ => SqT.of (e _ _ ha)) ?_ ?_⟩
  · rintro i x σ H' hi ⟨u, o, ys, rfl, e1, hl, hls⟩
    obtain ⟨dd, hdi, hxd⟩ := TpL.getV hx hi
    obtain ⟨p, hp, rfl⟩ := datas_get hdi
    have hxt := Tp.mono (TK.of e1) _ _ hxd
    have hop := oks_get ho hp
    have hdp := deps_get hp
    have hcp := cnt_get hp
    have hlen : ys.length ≤ 180 := by
      have h1 := liness_len (ps.take i)
      have h2 := cnts_take_le ps i
      rw [hls.length]
      omega
    obtain ⟨b, f0, r0, rfl, hb, _⟩ := tp_head hxt
    have hT := SqT.of (K := K) hb
    -- the end of a turn: found holds the part's lines too
    have fin : ∀ (o' : Option V) (zs : List V) (H2 : Hp), Ex H' H2 → LsF H' H2 p.lines zs → ∃ u o ys', ([some (.ref a), some (.ref L), some (.ref b), o', none, none] : L2.St) = [some (V.ref a), some (.ref L), u, o, none, none] ∧ Ex H (upd H2 L (.lst (ys ++ zs))) ∧
        (upd H2 L (.lst (ys ++ zs))) L = some (.lst ys') ∧ LsF (upd H L (.lst [])) (upd H2 L (.lst (ys ++ zs))) (Pt.liness (ps.take (i + 1))) ys' := by
      intro o' zs H2 e2 hz
      refine ⟨_, o', ys ++ zs, rfl, (e1.trans e2).mut hL, upd_same, ?_⟩
      rw [liness_take hp]
      have ne : ∀ l, (upd H L (.lst [])) l = none → l ≠ L := fun l h c => by
        rw [c, upd_same] at h
        cases h
      refine LsF.append (hls.mono fun l o h0 h1 => ?_) ((hz.low fun l h => ?_).mono fun l o h0 h1 => ?_)
      · rw [upd_ne (ne l h0)]
        exact e2 _ _ h1
      · have hne : l ≠ L := fun c => by
          rw [c, hl] at h
          cases h
        rw [upd_ne hne]
        exact fresh_back e1 h
      · rw [upd_ne (ne l h0)]
        exact h1
    refine ⟨_, rfl, _, _, 0, .str f0, rfl, rfl, hT, atI_nat (j := 0) rfl, rfl, _, rfl, ?_⟩
    cases p with
  | step =>
    obtain ⟨b', e, h⟩ := tp_one hxt
    cases e
    cases (hb.symm.trans h)
    refine eq_miss (by decide +kernel) ?_
    refine ⟨_, rfl, _, _, 0, _, rfl, rfl, hT, atI_nat (j := 0) rfl, (by show 3 ≤ sizeLine; decide), fun t ht => ⟨t, _, rfl, .inr (SqT.of upd_same), rfl, rfl, _, rfl, iteF' (by decide +kernel) ?_⟩⟩
    have k1 : Ex H' (upd H' t (.tup [.str "forever", .str "repeat", .str "while"])) := Ex.new ht
    have hb1 := k1 _ _ hb
    have hl1 := k1 _ _ hl
    generalize upd H' t (.tup [.str "forever", .str "repeat", .str "while"]) = H1 at k1 hb1 hl1 ⊢
    refine ⟨_, rfl, _, _, 0, _, rfl, rfl, SqT.of hb1, atI_nat (j := 0) rfl, rfl, _, rfl, eq_miss (by decide +kernel) ?_⟩
    refine ⟨_, rfl, .inl ⟨rfl, _, SqL.of hl1⟩, ?_⟩
    refine rd_strs (K := K) (xs := [.str "step"]) (ws := ["step"]) (by show 5 < 6; decide) (fun R h => ⟨_, rfl, h b H1 (Ex.refl _) hb1⟩) ?_ rfl (by decide) (fun D H2 hD e2 hD2 => ?_)
    · intro i x hi
      match i, hi with
      | 0, hi => cases hi; exact ⟨_, rfl, rfl⟩
    · exact ⟨L, ys, .ref D, rfl, rfl, e2 _ _ hl1, small1000 (by omega), fin o [.ref D] H2 (k1.trans e2) (LsF.one (fresh_back k1 hD) hD2)⟩
  | stop =>
    obtain ⟨b', e, h⟩ := tp_one hxt
    cases e
    cases (hb.symm.trans h)
    refine eq_miss (by decide +kernel) ?_
    refine ⟨_, rfl, _, _, 0, _, rfl, rfl, hT, atI_nat (j := 0) rfl, (by show 3 ≤ sizeLine; decide), fun t ht => ⟨t, _, rfl, .inr (SqT.of upd_same), rfl, rfl, _, rfl, iteF' (by decide +kernel) ?_⟩⟩
    have k1 : Ex H' (upd H' t (.tup [.str "forever", .str "repeat", .str "while"])) := Ex.new ht
    have hb1 := k1 _ _ hb
    have hl1 := k1 _ _ hl
    generalize upd H' t (.tup [.str "forever", .str "repeat", .str "while"]) = H1 at k1 hb1 hl1 ⊢
    refine ⟨_, rfl, _, _, 0, _, rfl, rfl, SqT.of hb1, atI_nat (j := 0) rfl, rfl, _, rfl, eq_miss (by decide +kernel) ?_⟩
    refine ⟨_, rfl, .inl ⟨rfl, _, SqL.of hl1⟩, ?_⟩
    refine rd_strs (K := K) (xs := [.str "stop"]) (ws := ["stop"]) (by show 5 < 6; decide) (fun R h => ⟨_, rfl, h b H1 (Ex.refl _) hb1⟩) ?_ rfl (by decide) (fun D H2 hD e2 hD2 => ?_)
    · intro i x hi
      match i, hi with
      | 0, hi => cases hi; exact ⟨_, rfl, rfl⟩
    · exact ⟨L, ys, .ref D, rfl, rfl, e2 _ _ hl1, small1000 (by omega), fin o [.ref D] H2 (k1.trans e2) (LsF.one (fresh_back k1 hD) hD2)⟩
  | paint c =>
    obtain ⟨b', e, h⟩ := tp_int hxt
    cases e
    cases (hb.symm.trans h)
    obtain ⟨h0, h1⟩ : 0 ≤ c ∧ c < n := hop
    refine eq_miss (by decide +kernel) ?_
    refine ⟨_, rfl, _, _, 0, _, rfl, rfl, hT, atI_nat (j := 0) rfl, (by show 3 ≤ sizeLine; decide), fun t ht => ⟨t, _, rfl, .inr (SqT.of upd_same), rfl, rfl, _, rfl, iteF' (by decide +kernel) ?_⟩⟩
    have k1 : Ex H' (upd H' t (.tup [.str "forever", .str "repeat", .str "while"])) := Ex.new ht
    have hb1 := k1 _ _ hb
    have hl1 := k1 _ _ hl
    generalize upd H' t (.tup [.str "forever", .str "repeat", .str "while"]) = H1 at k1 hb1 hl1 ⊢
    refine ⟨_, rfl, _, _, 0, _, rfl, rfl, SqT.of hb1, atI_nat (j := 0) rfl, rfl, _, rfl, eq_miss (by decide +kernel) ?_⟩
    refine ⟨_, rfl, .inl ⟨rfl, _, SqL.of hl1⟩, ?_⟩
    refine rd_strs (K := K) (xs := [.str "paint", .int c]) (ws := ["paint", num c]) (by show 5 < 6; decide) (fun R h => ⟨_, rfl, h b H1 (Ex.refl _) hb1⟩) ?_ rfl (by show 2 ≤ 1000; decide) (fun D H2 hD e2 hD2 => ?_)
    · intro i x hi
      match i, hi with
      | 0, hi => cases hi; exact ⟨_, rfl, rfl⟩
      | 1, hi => cases hi; exact ⟨_, rfl, rfl, log_small h0 (by omega)⟩
    · exact ⟨L, ys, .ref D, rfl, rfl, e2 _ _ hl1, small1000 (by omega), fin o [.ref D] H2 (k1.trans e2) (LsF.one (fresh_back k1 hD) hD2)⟩
  | turn c =>
    obtain ⟨b', e, h⟩ := tp_int hxt
    cases e
    cases (hb.symm.trans h)
    obtain ⟨h1, h3⟩ : 1 ≤ c ∧ c ≤ 3 := hop
    refine eq_hit ?_
    refine ⟨_, rfl, .inl ⟨rfl, _, SqL.of hl⟩, ?_⟩
    refine ⟨(by show 3 ≤ sizeLine; decide), fun t ht => ⟨_, rfl, _, _, 1, .int c, rfl, rfl, SqT.of (Ex.new ht _ _ hb), atI_nat (j := 1) rfl, _, _, rfl, rfl, t, _, c - 1, _, rfl, rfl, SqT.of upd_same, dir_at h1 h3, (by show 2 ≤ sizeLine; decide), fun D hD => ?_⟩⟩
    have k1 := (Ex.new ht (o := .tup [.str "right", .str "back", .str "left"])).trans (Ex.new hD (o := .lst [.str "turn", .str (dirT c)]))
    exact ⟨L, ys, .ref D, rfl, rfl, k1 _ _ hl, small1000 (by omega), fin o [.ref D] _ k1 (LsF.one (fresh_back (Ex.new ht) hD) upd_same)⟩
  | iff c x y =>
    obtain ⟨b', r1, xs1, r2, xs2, e, h, ⟨hx1, hx1'⟩, hy1, hy1'⟩ := tp_two hxt
    cases e
    cases (hb.symm.trans h)
    obtain ⟨⟨h0, h1⟩, ox, oy⟩ : (0 ≤ c ∧ c < n) ∧ Pt.oks n x ∧ Pt.oks n y := hop
    simp only [Pt.dep] at hdp
    simp only [Pt.cnt] at hcp
    refine eq_miss (by decide +kernel) ?_
    refine ⟨_, rfl, _, _, 0, _, rfl, rfl, hT, atI_nat (j := 0) rfl, (by show 3 ≤ sizeLine; decide), fun t ht => ⟨t, _, rfl, .inr (SqT.of upd_same), rfl, rfl, _, rfl, iteF' (by decide +kernel) ?_⟩⟩
    have k1 : Ex H' (upd H' t (.tup [.str "forever", .str "repeat", .str "while"])) := Ex.new ht
    have hb1 := k1 _ _ hb
    have hl1 := k1 _ _ hl
    generalize upd H' t (.tup [.str "forever", .str "repeat", .str "while"]) = H1 at k1 hb1 hl1 ⊢
    refine ⟨_, rfl, _, _, 0, _, rfl, rfl, SqT.of hb1, atI_nat (j := 0) rfl, rfl, _, rfl, eq_hit ?_⟩
    -- other: new lines, those of the second block
    have tail : ∀ (lo : Addr) (zo : List V) (H2 : Hp), Ex H1 H2 → H2 lo = some (.lst zo) → LsF H1 H2 (elseL y) zo → zo.length ≤ 1 + 3 * Pt.cnts y →
        tAug 1 (tOp rCat (tOp rCat (tOp rCat (tLst (tCons (tLst (tCons (tC (.str "if")) (tCons (tCB rStr (tCons (tOp (rIxT K) (tVar 2) (tC (.int 1))) tNil)) tNil))) tNil)) (tCall (spLines m) [] E0 (tCons (tOp (rIxT K) (tVar 2) (tC (.int 2))) tNil))) (tVar 3)) (tLst (tCons (tLst (tCons (tC (.str "end")) tNil)) tNil))) rExt2
          { nx := fun σ H' => ∃ u o ys, σ = [some (V.ref a), some (.ref L), u, o, none, none] ∧ Ex H H' ∧ H' L = some (.lst ys) ∧ LsF (upd H L (.lst [])) H' (Pt.liness (ps.take (i + 1))) ys, rt := Q } [some (V.ref a), some (.ref L), some (.ref b), some (.ref lo), none, none] H2 := by
      intro lo zo H2 k2 hlo hzo hzl
      have hb2 := k2 _ _ hb1
      refine ⟨_, rfl, _, rfl, _, _, 1, .int c, rfl, rfl, SqT.of hb2, atI_nat (j := 1) rfl, .inl ⟨c, rfl, log_small h0 (by omega), (by show 2 ≤ sizeLine; decide), fun l1 h1 => ?_⟩⟩
      have k3 : Ex H2 (upd H2 l1 (.lst [.str "if", .str (Str.ofString (toString c))])) := Ex.new h1
      have q1 : (upd H2 l1 (.lst [.str "if", .str (Str.ofString (toString c))])) l1 = some (.lst ((["if", num c] : List Str).map V.str)) := upd_same
      generalize upd H2 l1 (.lst [.str "if", .str (Str.ofString (toString c))]) = H3 at k3 q1 ⊢
      refine ⟨(by show 1 ≤ sizeLine; decide), fun l2 h2 => ?_⟩
      have k4 : Ex H3 (upd H3 l2 (.lst [.ref l1])) := Ex.new h2
      have q2 : (upd H3 l2 (.lst [.ref l1])) l2 = some (.lst [.ref l1]) := upd_same
      generalize upd H3 l2 (.lst [.ref l1]) = H4 at k4 q2 ⊢
      have k14 : Ex H1 H4 := k2.trans (k3.trans k4)
      have hf1 : H' l1 = none := fresh_back k1 (fresh_back k2 h1)
      refine ⟨_, rfl, _, _, 2, .ref r1, rfl, rfl, SqT.of (k14 _ _ hb1), atI_nat (j := 2) rfl, n, x, .ref r1, rfl, ⟨r1, xs1, rfl, k14 _ _ (k1 _ _ hx1), TpL.mono (TK.of (k1.trans k14)) _ _ hx1'⟩, hn, ox, by omega, by omega, by omega, fun l3 zs H5 e5 h3 q3 hz => ?_⟩
      have hzl1 := hz.length
      have hzl2 := liness_len x
      refine ⟨l2, l3, _, _, rfl, rfl, e5 _ _ q2, q3, line180 (by simp; omega), fun l4 h4 => ?_⟩
      have k6 : Ex H5 (upd H5 l4 (.lst ([.ref l1] ++ zs))) := Ex.new h4
      have q4 : (upd H5 l4 (.lst ([.ref l1] ++ zs))) l4 = some (.lst ([.ref l1] ++ zs)) := upd_same
      generalize upd H5 l4 (.lst ([.ref l1] ++ zs)) = H6 at k6 q4 ⊢
      have k26 : Ex H2 H6 := k3.trans (k4.trans (e5.trans k6))
      refine ⟨_, rfl, l4, lo, _, _, rfl, rfl, q4, k26 _ _ hlo, line180 (by simp; omega), fun l5 h5 => ?_⟩
      have k7 : Ex H6 (upd H6 l5 (.lst ([.ref l1] ++ zs ++ zo))) := Ex.new h5
      have q5 : (upd H6 l5 (.lst ([.ref l1] ++ zs ++ zo))) l5 = some (.lst ([.ref l1] ++ zs ++ zo)) := upd_same
      generalize upd H6 l5 (.lst ([.ref l1] ++ zs ++ zo)) = H7 at k7 q5 ⊢
      refine ⟨(by show 1 ≤ sizeLine; decide), fun l6 h6 => ?_⟩
      have k8 : Ex H7 (upd H7 l6 (.lst [.str "end"])) := Ex.new h6
      have q6 : (upd H7 l6 (.lst [.str "end"])) l6 = some (.lst [.str "end"]) := upd_same
      generalize upd H7 l6 (.lst [.str "end"]) = H8 at k8 q6 ⊢
      refine ⟨(by show 1 ≤ sizeLine; decide), fun l7 h7 => ?_⟩
      have k9 : Ex H8 (upd H8 l7 (.lst [.ref l6])) := Ex.new h7
      have q7 : (upd H8 l7 (.lst [.ref l6])) l7 = some (.lst [.ref l6]) := upd_same
      generalize upd H8 l7 (.lst [.ref l6]) = H9 at k9 q7 ⊢
      refine ⟨l5, l7, _, _, rfl, rfl, k9 _ _ (k8 _ _ q5), q7, line180 (by simp; omega), fun l8 h8 => ?_⟩
      have k10 : Ex H9 (upd H9 l8 (.lst ([.ref l1] ++ zs ++ zo ++ [.ref l6]))) := Ex.new h8
      have q8 : (upd H9 l8 (.lst ([.ref l1] ++ zs ++ zo ++ [.ref l6]))) l8 = some (.lst ([.ref l1] ++ zs ++ zo ++ [.ref l6])) := upd_same
      generalize upd H9 l8 (.lst ([.ref l1] ++ zs ++ zo ++ [.ref l6])) = H10 at k10 q8 ⊢
      have k510 : Ex H5 H10 := k6.trans (k7.trans (k8.trans (k9.trans k10)))
      have k210 : Ex H2 H10 := k3.trans (k4.trans (e5.trans k510))
      have k010 : Ex H' H10 := k1.trans (k2.trans k210)
      refine ⟨L, l8, ys, _, rfl, rfl, k010 _ _ hl, q8, line180 (by simp; omega), ?_⟩
      refine fin (some (.ref lo)) ([.ref l1] ++ zs ++ zo ++ [.ref l6]) H10 k010 ?_
      have e0 : (Pt.iff c x y).lines = (([(["if", num c] : List Str)] ++ Pt.liness x) ++ (elseL y)) ++ [[("end" : Str)]] := by
        cases y <;> simp [Pt.lines, elseL]
      rw [e0]
      have k04 : Ex H' H4 := k1.trans k14
      exact (((LsF.one hf1 (k510 _ _ (e5 _ _ (k4 _ _ q1)))).append ((hz.low fun l h => fresh_back k04 h).mono fun l o _ h => k510 _ _ h)).append
        ((hzo.low fun l h => fresh_back k1 h).mono fun l o _ h => k210 _ _ h)).append
        (LsF.one (ws := ["end"]) (fresh_back (k04.trans (e5.trans (k6.trans k7))) h6) (k10 _ _ (k9 _ _ q6)))
    refine ⟨_, rfl, _, _, 3, .ref r2, rfl, rfl, SqT.of hb1, atI_nat (j := 3) rfl, (by show 0 ≤ sizeLine; decide), fun t2 ht2 => ?_⟩
    have k2 : Ex H1 (upd H1 t2 (.tup [])) := Ex.new ht2
    have q2 : (upd H1 t2 (.tup [])) t2 = some (.tup []) := upd_same
    generalize upd H1 t2 (.tup []) = H2 at k2 q2 ⊢
    have hy2 := k2 _ _ (k1 _ _ hy1)
    have hy2' := TpL.mono (TK.of (k1.trans k2)) _ _ hy1'
    refine ⟨.tuple (Pt.datas y), .tuple [], Tp.dp (.tuple (Pt.datas y)) _ ⟨r2, xs2, rfl, hy2, hy2'⟩, .tup (SqT.of q2) .nil, shaped_block (by omega), by decide +kernel, _, rfl, ?_⟩
    cases y with
    | nil =>
      refine iteF' (by decide +kernel) ⟨(by show 0 ≤ sizeLine; decide), fun lo hlo => ?_⟩
      exact tail lo [] _ (k2.trans (Ex.new hlo)) upd_same rfl (by simp)
    | cons y0 yr =>
      refine iteT' (by simp [Pt.datas, PyData.eqv, PyData.eqvAll]) ?_
      refine ⟨(by show 1 ≤ sizeLine; decide), fun l1 h1 => ?_⟩
      have k3 : Ex H2 (upd H2 l1 (.lst [.str "else"])) := Ex.new h1
      have q1 : (upd H2 l1 (.lst [.str "else"])) l1 = some (.lst [.str "else"]) := upd_same
      generalize upd H2 l1 (.lst [.str "else"]) = H3 at k3 q1 ⊢
      refine ⟨(by show 1 ≤ sizeLine; decide), fun l2 h2 => ?_⟩
      have k4 : Ex H3 (upd H3 l2 (.lst [.ref l1])) := Ex.new h2
      have q3 : (upd H3 l2 (.lst [.ref l1])) l2 = some (.lst [.ref l1]) := upd_same
      generalize upd H3 l2 (.lst [.ref l1]) = H4 at k4 q3 ⊢
      have k14 : Ex H1 H4 := k2.trans (k3.trans k4)
      refine ⟨_, rfl, _, _, 3, .ref r2, rfl, rfl, SqT.of (k14 _ _ hb1), atI_nat (j := 3) rfl, n, y0 :: yr, .ref r2, rfl, ⟨r2, xs2, rfl, k3.trans k4 _ _ hy2, TpL.mono (TK.of (k3.trans k4)) _ _ hy2'⟩, hn, oy, by omega, by omega, by omega, fun l3 zs H5 e5 h3 q4 hz => ?_⟩
      have hzl1 := hz.length
      have hzl2 := liness_len (y0 :: yr)
      refine ⟨l2, l3, _, _, rfl, rfl, e5 _ _ q3, q4, line180 (by simp; omega), fun lo hlo => ?_⟩
      have k6 : Ex H5 (upd H5 lo (.lst ([.ref l1] ++ zs))) := Ex.new hlo
      refine tail lo ([.ref l1] ++ zs) _ (k14.trans (e5.trans k6)) upd_same ?_ (by simp; omega)
      exact (LsF.one (ws := ["else"]) (fresh_back k2 h1) (k6 _ _ (e5 _ _ (k4 _ _ q1)))).append ((hz.low fun l h => fresh_back k14 h).mono fun l o _ h => k6 _ _ h)
  | whl c x =>
    obtain ⟨b', r1, xs1, e, h, hx1, hx1'⟩ := tp_iblk hxt
    cases e
    cases (hb.symm.trans h)
    obtain ⟨⟨h0, h1⟩, ox⟩ : (0 ≤ c ∧ c < n) ∧ Pt.oks n x := hop
    simp only [Pt.dep] at hdp
    simp only [Pt.cnt] at hcp
    refine eq_miss (by decide +kernel) ?_
    refine ⟨_, rfl, _, _, 0, _, rfl, rfl, hT, atI_nat (j := 0) rfl, (by show 3 ≤ sizeLine; decide), fun t ht => ⟨t, _, rfl, .inr (SqT.of upd_same), rfl, rfl, _, rfl, iteT' (by decide +kernel) ?_⟩⟩
    have k1 : Ex H' (upd H' t (.tup [.str "forever", .str "repeat", .str "while"])) := Ex.new ht
    have hb1 := k1 _ _ hb
    have hl1 := k1 _ _ hl
    generalize upd H' t (.tup [.str "forever", .str "repeat", .str "while"]) = H1 at k1 hb1 hl1 ⊢
    refine ⟨_, rfl, _, rfl, _, _, 0, _, rfl, rfl, SqT.of hb1, atI_nat (j := 0) rfl, (by show 1 ≤ sizeLine; decide), fun l1 h1 => ?_⟩
    have k2 : Ex H1 (upd H1 l1 (.lst [.str "while"])) := Ex.new h1
    have q1 : (upd H1 l1 (.lst [.str "while"])) l1 = some (.lst [.str "while"]) := upd_same
    generalize upd H1 l1 (.lst [.str "while"]) = H2 at k2 q1 ⊢
    refine rd_strs (K := K) (xs := [.int c]) (ws := [num c]) (by show 4 < 6; decide) (fun R h => ⟨_, rfl, _, rfl, _, rfl, _, rfl, b, _, rfl, SqT.of (k2 _ _ hb1), (by show ¬ (HT.sIx 3 0 (some 1) = 0 ∧ HT.sIx 3 3 (some (-1)) = 3); decide), fun p hp => h p _ (Ex.new hp) upd_same⟩) ?_ rfl (by show _ ≤ 1000; simp) (fun D H3 hD e3 hD3 => ?_)
    · intro i x hi
      match i, hi with
      | 0, hi => cases hi; exact ⟨_, rfl, rfl, log_small h0 (by omega)⟩
    -- [word] + [numbers], in a list of one
    refine ⟨l1, D, _, _, rfl, rfl, e3 _ _ q1, hD3, (by show _ ≤ sizeLine; exact line180 (by simp)), fun l2 h2 => ?_⟩
    have k4 : Ex H3 (upd H3 l2 (.lst ([.str "while"] ++ ([num c] : List Str).map V.str))) := Ex.new h2
    have q2 : (upd H3 l2 (.lst ([.str "while"] ++ ([num c] : List Str).map V.str))) l2 = some (.lst ((["while", num c] : List Str).map V.str)) := upd_same
    generalize upd H3 l2 (.lst ([.str "while"] ++ ([num c] : List Str).map V.str)) = H4 at k4 q2 ⊢
    refine ⟨(by show 1 ≤ sizeLine; decide), fun l3 h3 => ?_⟩
    have k5 : Ex H4 (upd H4 l3 (.lst [.ref l2])) := Ex.new h3
    have q3 : (upd H4 l3 (.lst [.ref l2])) l3 = some (.lst [.ref l2]) := upd_same
    generalize upd H4 l3 (.lst [.ref l2]) = H5 at k5 q3 ⊢
    have k15 : Ex H1 H5 := k2.trans (e3.trans (k4.trans k5))
    have hf2 : H' l2 = none := fresh_back k1 (fresh_back k2 (fresh_back e3 h2))
    -- the block's lines
    refine ⟨_, rfl, _, rfl, _, _, -1, .ref r1, rfl, rfl, SqT.of (k15 _ _ hb1), atI_m1 rfl, n, x, .ref r1, rfl, ⟨r1, xs1, rfl, k15 _ _ (k1 _ _ hx1), TpL.mono (TK.of (k1.trans k15)) _ _ hx1'⟩, hn, ox, by omega, by omega, by omega, fun l4 zs H6 e6 h4 q4 hz => ?_⟩
    have hzl := hz.length
    have hzl2 := liness_len x
    refine ⟨l3, l4, _, _, rfl, rfl, e6 _ _ q3, q4, line180 (by simp; omega), fun l5 h5 => ?_⟩
    have k7 : Ex H6 (upd H6 l5 (.lst ([.ref l2] ++ zs))) := Ex.new h5
    have q5 : (upd H6 l5 (.lst ([.ref l2] ++ zs))) l5 = some (.lst ([.ref l2] ++ zs)) := upd_same
    generalize upd H6 l5 (.lst ([.ref l2] ++ zs)) = H7 at k7 q5 ⊢
    -- [["end"]]
    refine ⟨(by show 1 ≤ sizeLine; decide), fun l6 h6 => ?_⟩
    have k8 : Ex H7 (upd H7 l6 (.lst [.str "end"])) := Ex.new h6
    have q6 : (upd H7 l6 (.lst [.str "end"])) l6 = some (.lst [.str "end"]) := upd_same
    generalize upd H7 l6 (.lst [.str "end"]) = H8 at k8 q6 ⊢
    refine ⟨(by show 1 ≤ sizeLine; decide), fun l7 h7 => ?_⟩
    have k9 : Ex H8 (upd H8 l7 (.lst [.ref l6])) := Ex.new h7
    have q7 : (upd H8 l7 (.lst [.ref l6])) l7 = some (.lst [.ref l6]) := upd_same
    generalize upd H8 l7 (.lst [.ref l6]) = H9 at k9 q7 ⊢
    refine ⟨l5, l7, _, _, rfl, rfl, k9 _ _ (k8 _ _ q5), q7, line180 (by simp; omega), fun l8 h8 => ?_⟩
    have k10 : Ex H9 (upd H9 l8 (.lst ([.ref l2] ++ zs ++ [.ref l6]))) := Ex.new h8
    have q8 : (upd H9 l8 (.lst ([.ref l2] ++ zs ++ [.ref l6]))) l8 = some (.lst ([.ref l2] ++ zs ++ [.ref l6])) := upd_same
    generalize upd H9 l8 (.lst ([.ref l2] ++ zs ++ [.ref l6])) = H10 at k10 q8 ⊢
    have k610 : Ex H6 H10 := k7.trans (k8.trans (k9.trans k10))
    have k010 : Ex H' H10 := k1.trans (k15.trans (e6.trans k610))
    refine ⟨L, l8, ys, _, rfl, rfl, k010 _ _ hl, q8, line180 (by simp; omega), ?_⟩
    refine fin o ([.ref l2] ++ zs ++ [.ref l6]) H10 k010 ?_
    have e0 : (Pt.whl c x).lines = ([(["while", num c] : List Str)] ++ Pt.liness x) ++ [[("end" : Str)]] := by simp [Pt.lines]
    rw [e0]
    have k5' : Ex H' H5 := k1.trans k15
    exact ((LsF.one hf2 (k610 _ _ (e6 _ _ (k5 _ _ q2)))).append ((hz.low fun l h => fresh_back k5' h).mono fun l o _ h => k610 _ _ h)).append
      (LsF.one (fresh_back (k5'.trans (e6.trans k7)) h6) (k10 _ _ (k9 _ _ q6)))
  | rep c x =>
    obtain ⟨b', r1, xs1, e, h, hx1, hx1'⟩ := tp_iblk hxt
    cases e
    cases (hb.symm.trans h)
    obtain ⟨⟨h0, h1⟩, ox⟩ : (0 ≤ c ∧ c ≤ 8) ∧ Pt.oks n x := hop
    simp only [Pt.dep] at hdp
    simp only [Pt.cnt] at hcp
    refine eq_miss (by decide +kernel) ?_
    refine ⟨_, rfl, _, _, 0, _, rfl, rfl, hT, atI_nat (j := 0) rfl, (by show 3 ≤ sizeLine; decide), fun t ht => ⟨t, _, rfl, .inr (SqT.of upd_same), rfl, rfl, _, rfl, iteT' (by decide +kernel) ?_⟩⟩
    have k1 : Ex H' (upd H' t (.tup [.str "forever", .str "repeat", .str "while"])) := Ex.new ht
    have hb1 := k1 _ _ hb
    have hl1 := k1 _ _ hl
    generalize upd H' t (.tup [.str "forever", .str "repeat", .str "while"]) = H1 at k1 hb1 hl1 ⊢
    refine ⟨_, rfl, _, rfl, _, _, 0, _, rfl, rfl, SqT.of hb1, atI_nat (j := 0) rfl, (by show 1 ≤ sizeLine; decide), fun l1 h1 => ?_⟩
    have k2 : Ex H1 (upd H1 l1 (.lst [.str "repeat"])) := Ex.new h1
    have q1 : (upd H1 l1 (.lst [.str "repeat"])) l1 = some (.lst [.str "repeat"]) := upd_same
    generalize upd H1 l1 (.lst [.str "repeat"]) = H2 at k2 q1 ⊢
    refine rd_strs (K := K) (xs := [.int c]) (ws := [num c]) (by show 4 < 6; decide) (fun R h => ⟨_, rfl, _, rfl, _, rfl, _, rfl, b, _, rfl, SqT.of (k2 _ _ hb1), (by show ¬ (HT.sIx 3 0 (some 1) = 0 ∧ HT.sIx 3 3 (some (-1)) = 3); decide), fun p hp => h p _ (Ex.new hp) upd_same⟩) ?_ rfl (by show _ ≤ 1000; simp) (fun D H3 hD e3 hD3 => ?_)
    · intro i x hi
      match i, hi with
      | 0, hi => cases hi; exact ⟨_, rfl, rfl, log_small h0 (by omega)⟩
    -- [word] + [numbers], in a list of one
    refine ⟨l1, D, _, _, rfl, rfl, e3 _ _ q1, hD3, (by show _ ≤ sizeLine; exact line180 (by simp)), fun l2 h2 => ?_⟩
    have k4 : Ex H3 (upd H3 l2 (.lst ([.str "repeat"] ++ ([num c] : List Str).map V.str))) := Ex.new h2
    have q2 : (upd H3 l2 (.lst ([.str "repeat"] ++ ([num c] : List Str).map V.str))) l2 = some (.lst ((["repeat", num c] : List Str).map V.str)) := upd_same
    generalize upd H3 l2 (.lst ([.str "repeat"] ++ ([num c] : List Str).map V.str)) = H4 at k4 q2 ⊢
    refine ⟨(by show 1 ≤ sizeLine; decide), fun l3 h3 => ?_⟩
    have k5 : Ex H4 (upd H4 l3 (.lst [.ref l2])) := Ex.new h3
    have q3 : (upd H4 l3 (.lst [.ref l2])) l3 = some (.lst [.ref l2]) := upd_same
    generalize upd H4 l3 (.lst [.ref l2]) = H5 at k5 q3 ⊢
    have k15 : Ex H1 H5 := k2.trans (e3.trans (k4.trans k5))
    have hf2 : H' l2 = none := fresh_back k1 (fresh_back k2 (fresh_back e3 h2))
    -- the block's lines
    refine ⟨_, rfl, _, rfl, _, _, -1, .ref r1, rfl, rfl, SqT.of (k15 _ _ hb1), atI_m1 rfl, n, x, .ref r1, rfl, ⟨r1, xs1, rfl, k15 _ _ (k1 _ _ hx1), TpL.mono (TK.of (k1.trans k15)) _ _ hx1'⟩, hn, ox, by omega, by omega, by omega, fun l4 zs H6 e6 h4 q4 hz => ?_⟩
    have hzl := hz.length
    have hzl2 := liness_len x
    refine ⟨l3, l4, _, _, rfl, rfl, e6 _ _ q3, q4, line180 (by simp; omega), fun l5 h5 => ?_⟩
    have k7 : Ex H6 (upd H6 l5 (.lst ([.ref l2] ++ zs))) := Ex.new h5
    have q5 : (upd H6 l5 (.lst ([.ref l2] ++ zs))) l5 = some (.lst ([.ref l2] ++ zs)) := upd_same
    generalize upd H6 l5 (.lst ([.ref l2] ++ zs)) = H7 at k7 q5 ⊢
    -- [["end"]]
    refine ⟨(by show 1 ≤ sizeLine; decide), fun l6 h6 => ?_⟩
    have k8 : Ex H7 (upd H7 l6 (.lst [.str "end"])) := Ex.new h6
    have q6 : (upd H7 l6 (.lst [.str "end"])) l6 = some (.lst [.str "end"]) := upd_same
    generalize upd H7 l6 (.lst [.str "end"]) = H8 at k8 q6 ⊢
    refine ⟨(by show 1 ≤ sizeLine; decide), fun l7 h7 => ?_⟩
    have k9 : Ex H8 (upd H8 l7 (.lst [.ref l6])) := Ex.new h7
    have q7 : (upd H8 l7 (.lst [.ref l6])) l7 = some (.lst [.ref l6]) := upd_same
    generalize upd H8 l7 (.lst [.ref l6]) = H9 at k9 q7 ⊢
    refine ⟨l5, l7, _, _, rfl, rfl, k9 _ _ (k8 _ _ q5), q7, line180 (by simp; omega), fun l8 h8 => ?_⟩
    have k10 : Ex H9 (upd H9 l8 (.lst ([.ref l2] ++ zs ++ [.ref l6]))) := Ex.new h8
    have q8 : (upd H9 l8 (.lst ([.ref l2] ++ zs ++ [.ref l6]))) l8 = some (.lst ([.ref l2] ++ zs ++ [.ref l6])) := upd_same
    generalize upd H9 l8 (.lst ([.ref l2] ++ zs ++ [.ref l6])) = H10 at k10 q8 ⊢
    have k610 : Ex H6 H10 := k7.trans (k8.trans (k9.trans k10))
    have k010 : Ex H' H10 := k1.trans (k15.trans (e6.trans k610))
    refine ⟨L, l8, ys, _, rfl, rfl, k010 _ _ hl, q8, line180 (by simp; omega), ?_⟩
    refine fin o ([.ref l2] ++ zs ++ [.ref l6]) H10 k010 ?_
    have e0 : (Pt.rep c x).lines = ([(["repeat", num c] : List Str)] ++ Pt.liness x) ++ [[("end" : Str)]] := by simp [Pt.lines]
    rw [e0]
    have k5' : Ex H' H5 := k1.trans k15
    exact ((LsF.one hf2 (k610 _ _ (e6 _ _ (k5 _ _ q2)))).append ((hz.low fun l h => fresh_back k5' h).mono fun l o _ h => k610 _ _ h)).append
      (LsF.one (fresh_back (k5'.trans (e6.trans k7)) h6) (k10 _ _ (k9 _ _ q6)))
  | fvr x =>
    obtain ⟨b', r1, xs1, e, h, hx1, hx1'⟩ := tp_blk hxt
    cases e
    cases (hb.symm.trans h)
    have ox : Pt.oks n x := hop
    simp only [Pt.dep] at hdp
    simp only [Pt.cnt] at hcp
    refine eq_miss (by decide +kernel) ?_
    refine ⟨_, rfl, _, _, 0, _, rfl, rfl, hT, atI_nat (j := 0) rfl, (by show 3 ≤ sizeLine; decide), fun t ht => ⟨t, _, rfl, .inr (SqT.of upd_same), rfl, rfl, _, rfl, iteT' (by decide +kernel) ?_⟩⟩
    have k1 : Ex H' (upd H' t (.tup [.str "forever", .str "repeat", .str "while"])) := Ex.new ht
    have hb1 := k1 _ _ hb
    have hl1 := k1 _ _ hl
    generalize upd H' t (.tup [.str "forever", .str "repeat", .str "while"]) = H1 at k1 hb1 hl1 ⊢
    refine ⟨_, rfl, _, rfl, _, _, 0, _, rfl, rfl, SqT.of hb1, atI_nat (j := 0) rfl, (by show 1 ≤ sizeLine; decide), fun l1 h1 => ?_⟩
    have k2 : Ex H1 (upd H1 l1 (.lst [.str "forever"])) := Ex.new h1
    have q1 : (upd H1 l1 (.lst [.str "forever"])) l1 = some (.lst [.str "forever"]) := upd_same
    generalize upd H1 l1 (.lst [.str "forever"]) = H2 at k2 q1 ⊢
    refine rd_strs (K := K) (xs := []) (ws := []) (by show 4 < 6; decide) (fun R h => ⟨_, rfl, _, rfl, _, rfl, _, rfl, b, _, rfl, SqT.of (k2 _ _ hb1), (by show ¬ (HT.sIx 2 0 (some 1) = 0 ∧ HT.sIx 2 2 (some (-1)) = 2); decide), fun p hp => h p _ (Ex.new hp) upd_same⟩) ?_ rfl (by show _ ≤ 1000; simp) (fun D H3 hD e3 hD3 => ?_)
    · intro i x hi
      simp at hi
    -- [word] + [numbers], in a list of one
    refine ⟨l1, D, _, _, rfl, rfl, e3 _ _ q1, hD3, (by show _ ≤ sizeLine; exact line180 (by simp)), fun l2 h2 => ?_⟩
    have k4 : Ex H3 (upd H3 l2 (.lst ([.str "forever"] ++ ([] : List Str).map V.str))) := Ex.new h2
    have q2 : (upd H3 l2 (.lst ([.str "forever"] ++ ([] : List Str).map V.str))) l2 = some (.lst ((["forever"] : List Str).map V.str)) := upd_same
    generalize upd H3 l2 (.lst ([.str "forever"] ++ ([] : List Str).map V.str)) = H4 at k4 q2 ⊢
    refine ⟨(by show 1 ≤ sizeLine; decide), fun l3 h3 => ?_⟩
    have k5 : Ex H4 (upd H4 l3 (.lst [.ref l2])) := Ex.new h3
    have q3 : (upd H4 l3 (.lst [.ref l2])) l3 = some (.lst [.ref l2]) := upd_same
    generalize upd H4 l3 (.lst [.ref l2]) = H5 at k5 q3 ⊢
    have k15 : Ex H1 H5 := k2.trans (e3.trans (k4.trans k5))
    have hf2 : H' l2 = none := fresh_back k1 (fresh_back k2 (fresh_back e3 h2))
    -- the block's lines
    refine ⟨_, rfl, _, rfl, _, _, -1, .ref r1, rfl, rfl, SqT.of (k15 _ _ hb1), atI_m1 rfl, n, x, .ref r1, rfl, ⟨r1, xs1, rfl, k15 _ _ (k1 _ _ hx1), TpL.mono (TK.of (k1.trans k15)) _ _ hx1'⟩, hn, ox, by omega, by omega, by omega, fun l4 zs H6 e6 h4 q4 hz => ?_⟩
    have hzl := hz.length
    have hzl2 := liness_len x
    refine ⟨l3, l4, _, _, rfl, rfl, e6 _ _ q3, q4, line180 (by simp; omega), fun l5 h5 => ?_⟩
    have k7 : Ex H6 (upd H6 l5 (.lst ([.ref l2] ++ zs))) := Ex.new h5
    have q5 : (upd H6 l5 (.lst ([.ref l2] ++ zs))) l5 = some (.lst ([.ref l2] ++ zs)) := upd_same
    generalize upd H6 l5 (.lst ([.ref l2] ++ zs)) = H7 at k7 q5 ⊢
    -- [["end"]]
    refine ⟨(by show 1 ≤ sizeLine; decide), fun l6 h6 => ?_⟩
    have k8 : Ex H7 (upd H7 l6 (.lst [.str "end"])) := Ex.new h6
    have q6 : (upd H7 l6 (.lst [.str "end"])) l6 = some (.lst [.str "end"]) := upd_same
    generalize upd H7 l6 (.lst [.str "end"]) = H8 at k8 q6 ⊢
    refine ⟨(by show 1 ≤ sizeLine; decide), fun l7 h7 => ?_⟩
    have k9 : Ex H8 (upd H8 l7 (.lst [.ref l6])) := Ex.new h7
    have q7 : (upd H8 l7 (.lst [.ref l6])) l7 = some (.lst [.ref l6]) := upd_same
    generalize upd H8 l7 (.lst [.ref l6]) = H9 at k9 q7 ⊢
    refine ⟨l5, l7, _, _, rfl, rfl, k9 _ _ (k8 _ _ q5), q7, line180 (by simp; omega), fun l8 h8 => ?_⟩
    have k10 : Ex H9 (upd H9 l8 (.lst ([.ref l2] ++ zs ++ [.ref l6]))) := Ex.new h8
    have q8 : (upd H9 l8 (.lst ([.ref l2] ++ zs ++ [.ref l6]))) l8 = some (.lst ([.ref l2] ++ zs ++ [.ref l6])) := upd_same
    generalize upd H9 l8 (.lst ([.ref l2] ++ zs ++ [.ref l6])) = H10 at k10 q8 ⊢
    have k610 : Ex H6 H10 := k7.trans (k8.trans (k9.trans k10))
    have k010 : Ex H' H10 := k1.trans (k15.trans (e6.trans k610))
    refine ⟨L, l8, ys, _, rfl, rfl, k010 _ _ hl, q8, line180 (by simp; omega), ?_⟩
    refine fin o ([.ref l2] ++ zs ++ [.ref l6]) H10 k010 ?_
    have e0 : (Pt.fvr x).lines = ([(["forever"] : List Str)] ++ Pt.liness x) ++ [[("end" : Str)]] := by simp [Pt.lines]
    rw [e0]
    have k5' : Ex H' H5 := k1.trans k15
    exact ((LsF.one hf2 (k610 _ _ (e6 _ _ (k5 _ _ q2)))).append ((hz.low fun l h => fresh_back k5' h).mono fun l o _ h => k610 _ _ h)).append
      (LsF.one (fresh_back (k5'.trans (e6.trans k7)) h6) (k10 _ _ (k9 _ _ q6)))
  · rintro σ H' ⟨u, o, ys, rfl, e1, hl, hls⟩
    refine ⟨_, rfl, ?_⟩
    have : xs.length = ps.length := by rw [TpL.length hx, datas_len]
    rw [this, List.take_length] at hls
    exact q L ys H' e1 hL hl (hls.low fun l h => by
      by_cases c : l = L
      · rw [c]; exact hL
      · rw [upd_ne c] at h; exact h)
theorem none_lines {f : Addr} {fd : FuncData} : FnOk P w K mg base CX0 1 f fd ["block"] (spLines 0) := by
  have no : ∀ vs H Q E, ¬ spLines 0 vs H Q E := fun vs H Q E h => by
    obtain ⟨n, ps, v, _, _, _, _, h1, _⟩ := h
    omega
  exact ⟨fun vs H Q E h => absurd h (no vs H Q E), fun A outer s H args us vs Q E _ _ _ _ h => absurd h (no vs H Q E)⟩
theorem all_lines {f : Addr} {fd : FuncData} (F : Fun K "lines_of" "lines_of" sLines f fd) (B : Blt mg) (mp : mg "lines_of" = some (.ref f)) (bp : Binds K fd ["block"] []) :
    ∀ m, Has P w K mg base CX0 (m + 1) "lines_of" ["block"] (spLines m)
  | 0 => ⟨f, fd, none_lines, mp, F.kp, bp⟩
  | m + 1 => ⟨f, fd, ok_lines F B (all_lines F B mp bp m), mp, F.kp, bp⟩
end
end Pk

namespace Pk
open PySem PySem.Spec PyProof.Rows L2 Evl
/-! ### how long the texts are -/
section
variable {R : List Str → Prop}
structure LnR (R : List Str → Prop) : Prop where
  h1 : ∀ f ∈ (["step", "stop", "forever", "else", "end"] : List Str), R [f]
  h2 : ∀ f ∈ (["paint", "if", "while", "repeat"] : List Str), ∀ c : Int, 0 ≤ c → c < 10 → R [f, num c]
  h3 : ∀ k, R ["turn", dirT k]
mutual
theorem lines_all (L : LnR R) {n : Int} (hn : n ≤ 6) : ∀ p : Pt, p.ok n → ∀ ws ∈ p.lines, R ws
  | .step, _, ws, h => by rw [List.mem_singleton.mp h]; exact L.h1 _ (by decide +kernel)
  | .stop, _, ws, h => by rw [List.mem_singleton.mp h]; exact L.h1 _ (by decide +kernel)
  | .paint c, ho, ws, h => by
    obtain ⟨h0, h1⟩ : 0 ≤ c ∧ c < n := ho
    rw [List.mem_singleton.mp h]; exact L.h2 _ (by decide +kernel) c h0 (by omega)
  | .turn c, ho, ws, h => by rw [List.mem_singleton.mp h]; exact L.h3 c
  | .iff c a b, ho, ws, h => by
    obtain ⟨⟨h0, h1⟩, ha, hb⟩ : (0 ≤ c ∧ c < n) ∧ Pt.oks n a ∧ Pt.oks n b := ho
    have ia := liness_all L hn a ha
    have ib := liness_all L hn b hb
    have e : (Pt.iff c a b).lines = (([(["if", num c] : List Str)] ++ Pt.liness a) ++ elseL b) ++ [[("end" : Str)]] := by
      cases b <;> simp [Pt.lines, elseL]
    rw [e] at h
    simp only [List.mem_append, List.mem_singleton] at h
    rcases h with ((rfl | h) | h) | rfl
    · exact L.h2 _ (by decide +kernel) c h0 (by omega)
    · exact ia ws h
    · cases b with
      | nil => cases h
      | cons x y =>
        rcases List.mem_cons.mp h with rfl | h
        · exact L.h1 _ (by decide +kernel)
        · exact ib ws h
    · exact L.h1 _ (by decide +kernel)
  | .whl c a, ho, ws, h => by
    obtain ⟨⟨h0, h1⟩, ha⟩ : (0 ≤ c ∧ c < n) ∧ Pt.oks n a := ho
    have ia := liness_all L hn a ha
    rw [Pt.lines] at h
    rcases List.mem_cons.mp h with rfl | h
    · exact L.h2 _ (by decide +kernel) c h0 (by omega)
    rcases List.mem_append.mp h with h | h
    · exact ia ws h
    · rw [List.mem_singleton.mp h]; exact L.h1 _ (by decide +kernel)
  | .rep c a, ho, ws, h => by
    obtain ⟨⟨h0, h1⟩, ha⟩ : (0 ≤ c ∧ c ≤ 8) ∧ Pt.oks n a := ho
    have ia := liness_all L hn a ha
    rw [Pt.lines] at h
    rcases List.mem_cons.mp h with rfl | h
    · exact L.h2 _ (by decide +kernel) c h0 (by omega)
    rcases List.mem_append.mp h with h | h
    · exact ia ws h
    · rw [List.mem_singleton.mp h]; exact L.h1 _ (by decide +kernel)
  | .fvr a, ho, ws, h => by
    have ha : Pt.oks n a := ho
    have ia := liness_all L hn a ha
    rw [Pt.lines] at h
    rcases List.mem_cons.mp h with rfl | h
    · exact L.h1 _ (by decide +kernel)
    rcases List.mem_append.mp h with h | h
    · exact ia ws h
    · rw [List.mem_singleton.mp h]; exact L.h1 _ (by decide +kernel)
theorem liness_all (L : LnR R) {n : Int} (hn : n ≤ 6) : ∀ ps : List Pt, Pt.oks n ps → ∀ ws ∈ Pt.liness ps, R ws
  | [], _, ws, h => by cases h
  | p :: r, ho, ws, h => by
    obtain ⟨h1, h2⟩ : p.ok n ∧ Pt.oks n r := ho
    rw [Pt.liness] at h
    rcases List.mem_append.mp h with h | h
    · exact lines_all L hn p h1 ws h
    · exact liness_all L hn r h2 ws h
end
end
/-- a line's words are short -/
def small (ws : List Str) : Prop := (ws.map (·.length)).sum + ws.length ≤ 20 ∧ (Txt.join " " ws).length ≤ 20
theorem len_num {c : Int} (h0 : 0 ≤ c) (h : c < 10) : (num c).length = 1 := by
  rw [TL.len_tl, tl_numc h0 h]
  rfl
theorem join_len1 (a : Str) : (Txt.join " " [a]).length = a.length := by
  rw [TL.join_eq, TL.len_tl, TL.tl_join]
  rfl
theorem join_len2 (a b : Str) : (Txt.join " " [a, b]).length = a.length + 1 + b.length := by
  rw [TL.join_eq, TL.len_tl, TL.tl_join, TL.len_tl a, TL.len_tl b]
  have e : TL.tl (" " : Str) = [32] := by decide +kernel
  simp only [List.map_cons, List.map_nil, TL.joinL, e, List.length_append, List.length_cons, List.length_nil]
  omega
theorem small1 {a : Str} (h : a.length ≤ 8) : small [a] := by
  refine ⟨?_, ?_⟩
  · simp; omega
  · rw [join_len1]; omega
theorem small2 {a b : Str} (h : a.length ≤ 8) (h' : b.length ≤ 8) : small [a, b] := by
  refine ⟨?_, ?_⟩
  · simp; omega
  · rw [join_len2]; omega
theorem dir_len (k : Int) : (dirT k).length ≤ 8 := by
  unfold dirT
  by_cases h : k = 1
  · rw [if_pos h]; decide +kernel
  · rw [if_neg h]
    by_cases h : k = 2
    · rw [if_pos h]; decide +kernel
    · rw [if_neg h]; decide +kernel
theorem smallR : LnR small where
  h1 := by
    intro f hf
    refine small1 ?_
    have : ∀ f ∈ (["step", "stop", "forever", "else", "end"] : List Str), f.length ≤ 8 := by decide +kernel
    exact this f hf
  h2 := by
    intro f hf c h0 h
    refine small2 ?_ (by rw [len_num h0 h]; decide)
    have : ∀ f ∈ (["paint", "if", "while", "repeat"] : List Str), f.length ≤ 8 := by decide +kernel
    exact this f hf
  h3 k := small2 (by decide +kernel) (dir_len k)
theorem plan_small {n : Int} {ps : List Pt} (h2 : 2 ≤ n) (h6 : n ≤ 6) (ho : Pt.oks n ps) : ∀ ws ∈ planLines n ps, small ws := by
  intro ws h
  rcases List.mem_cons.mp h with rfl | h
  · exact small2 (by decide +kernel) (by rw [len_num (by omega) (by omega)]; decide)
  · exact liness_all smallR h6 ps ho ws h
theorem plan_lines_len {n : Int} {ps : List Pt} (hc : Pt.cnts ps ≤ 60) : (planLines n ps).length ≤ 181 := by
  have := liness_len ps
  rw [planLines, List.length_cons]
  omega
theorem sum_small {k : Nat} : ∀ {l : List Nat}, (∀ x ∈ l, x ≤ k) → l.sum ≤ k * l.length
  | [], _ => by simp
  | x :: l, h => by
    have h1 := h x (by simp)
    have h2 := sum_small (l := l) (k := k) fun y hy => h y (by simp [hy])
    rw [List.sum_cons, List.length_cons, Nat.mul_succ]
    omega
/-- the lines of a plan, each one text -/
def lineTexts (n : Int) (ps : List Pt) : List Str := (planLines n ps).map (Txt.join " ")
theorem lt_sum {n : Int} {ps : List Pt} (h2 : 2 ≤ n) (h6 : n ≤ 6) (ho : Pt.oks n ps) (hc : Pt.cnts ps ≤ 60) : ((lineTexts n ps).map (·.length)).sum ≤ 3620 := by
  have h := sum_small (k := 20) (l := (lineTexts n ps).map (·.length)) (by
    intro x hx
    obtain ⟨t, ht, rfl⟩ := List.mem_map.mp hx
    obtain ⟨ws, hw, rfl⟩ := List.mem_map.mp ht
    exact (plan_small h2 h6 ho ws hw).2)
  have hl := plan_lines_len (n := n) hc
  rw [List.length_map, lineTexts, List.length_map] at h
  have : 20 * (planLines n ps).length ≤ 20 * 181 := Nat.mul_le_mul_left _ hl
  unfold lineTexts
  omega
theorem joinL_len (c : Nat) : ∀ ps : List (List Nat), (TL.joinL [c] ps).length ≤ (ps.map (·.length)).sum + ps.length
  | [] => by simp [TL.joinL]
  | [p] => by simp [TL.joinL]
  | p :: q :: r => by
    have ih := joinL_len c (q :: r)
    simp only [TL.joinL, List.length_append, List.map_cons, List.sum_cons, List.length_cons, List.length_nil] at ih ⊢
    omega
theorem text_len {n : Int} {ps : List Pt} (h2 : 2 ≤ n) (h6 : n ≤ 6) (ho : Pt.oks n ps) (hc : Pt.cnts ps ≤ 60) : (planText n ps).length ≤ 4000 := by
  have hs := lt_sum h2 h6 ho hc
  have hl := plan_lines_len (n := n) hc
  have e : TL.tl ("\n" : Str) = [10] := by decide +kernel
  unfold planText
  rw [TL.join_eq, TL.len_tl, TL.tl_join, e]
  have h := joinL_len 10 ((lineTexts n ps).map TL.tl)
  rw [List.map_map, List.length_map] at h
  have e2 : (List.map ((fun x => x.length) ∘ TL.tl) (lineTexts n ps)) = (lineTexts n ps).map (·.length) := by
    refine List.map_congr_left fun t _ => ?_
    exact (TL.len_tl t).symm
  rw [e2] at h
  have hl2 : (lineTexts n ps).length = (planLines n ps).length := by rw [lineTexts, List.length_map]
  show (TL.joinL [10] ((lineTexts n ps).map TL.tl)).length ≤ 4000
  omega
section
variable {P : Program} {w : World} {K : PySem.W.Frag} {mg : Str → Option Value} {base : Heap}
/-- sep.join(a list or a tuple of texts), by values -/
abbrev rJoin (K : PySem.W.Frag) : V → List V → Hp → VK → Prop := fun x xs H Q => ∃ a p, ∃ ys : List Str, x = .str a ∧ xs = [.ref p] ∧ (SqL K H p (ys.map V.str) ∨ SqT K H p (ys.map V.str)) ∧
  (ys.map (·.length)).sum + ys.length * a.length ≤ 16777216 ∧ Q (.str (Txt.join a ys)) H
/-! ### write_plan -/
def spWrite : Sp := fun vs H Q _ => ∃ (n : Int) (ps : List Pt) (a : Addr) (v : V), vs = [.ref a] ∧ H a = some (.tup [.int n, v]) ∧ Tp H (.tuple (Pt.datas ps)) v ∧ 2 ≤ n ∧ n ≤ 6 ∧ Pt.oks n ps ∧ Pt.deps ps ≤ 4 ∧ Pt.cnts ps ≤ 60 ∧ ∀ H', Ex H H' → Q (.str (planText n ps)) H'
abbrev nsWrite : List Str := ["plan", "words"]
theorem scWrite : FnScope nsWrite ["plan"] (defScope sWrite) := ⟨rfl, rfl, rfl, by decide +kernel, rfl, by decide +kernel, by decide +kernel⟩
theorem ok_write {f : Addr} {fd : FuncData} (F : Fun K "write_plan" "write_plan" sWrite f fd) (B : Blt mg) (GN : Has P w K mg base CX0 12 "need_plan" ["plan"] spNeed) (GL : Has P w K mg base CX0 6 "lines_of" ["block"] (spLines 5)) :
    FnOk P w K mg base CX0 13 f fd ["plan"] spWrite := by
  refine F.ok scWrite (fun vs H Q E h => ?_) (fun cdv A outer s H vs Q E hr h => ?_)
  · obtain ⟨n, ps, a, v, rfl, _⟩ := h
    rfl
  obtain ⟨n, ps, a, v, rfl, ha, ht, h2, h6, ho, hd, hc, q⟩ := h
  refine ⟨_, (pss_cons (ps_expr (pe_h GN hr (by rfl) pass0 (pa_cons (pv 0) pa_nil)))
    (pss_one (ps_ret (pe_join pe_str (pe_lc (own := [("words", 1)]) (g := gName 1) (te := (tM1 (rJoin K) (tC (.str " ")) (tVar 1))) (by rfl) scWrite.nd (pi_list (pe_op op_cat (pe_lst (pa_cons (pe_lst (pa_cons pe_str (pa_cons (pe_callTy call_str_int (by rfl) B.str (by decide +kernel) (pa_cons (pe_ix ix_tup (pv 0) pe_int (fun _ _ => rfl)) pa_nil)) pa_nil))) pa_nil)) (pe_h GL (hr.mono (by decide)) (by rfl) pass0 (pa_cons (pe_ix ix_tup (pv 0) pe_int (fun _ _ => rfl)) pa_nil)))) (blkOk_by (own := [("words", 1)]) (N := nsWrite) (sc := defScope sWrite) (by decide +kernel)) (fun _ _ _ _ _ => pg_name (i := 1) scWrite.nd (by rfl) (Or.inl (by rfl))) (fun _ _ _ _ _ => by exact pts_nil) (fun _ _ _ _ _ => by exact (pe_join pe_str (pv 1)))))))), ?_⟩
  refine ⟨_, rfl, n, ps, a, v, rfl, ha, ht, h2, h6, ho, hd, hc, fun H1 e1 => ?_⟩
  have ha1 := e1 _ _ ha
  refine ⟨⟨_, rfl⟩, ?_⟩
  refine ⟨_, rfl, _, _, 0, .int n, rfl, rfl, SqT.of ha1, atI_nat (j := 0) rfl, n, rfl, log_small (by omega) (by omega), (by show 2 ≤ sizeLine; decide), fun l1 h1 => ?_⟩
  have k2 : Ex H1 (upd H1 l1 (.lst [.str "colours", .str (Str.ofString (toString n))])) := Ex.new h1
  have q1 : (upd H1 l1 (.lst [.str "colours", .str (Str.ofString (toString n))])) l1 = some (.lst (([("colours" : Str), num n]).map V.str)) := upd_same
  generalize upd H1 l1 (.lst [.str "colours", .str (Str.ofString (toString n))]) = H2 at k2 q1 ⊢
  refine ⟨(by show 1 ≤ sizeLine; decide), fun l2 h2' => ?_⟩
  have k3 : Ex H2 (upd H2 l2 (.lst [.ref l1])) := Ex.new h2'
  have q2 : (upd H2 l2 (.lst [.ref l1])) l2 = some (.lst [.ref l1]) := upd_same
  generalize upd H2 l2 (.lst [.ref l1]) = H3 at k3 q2 ⊢
  have k13 := k2.trans k3
  refine ⟨_, rfl, _, _, 1, v, rfl, rfl, SqT.of (k13 _ _ ha1), atI_nat (j := 1) rfl, n, ps, v, rfl, Tp.mono (TK.of (e1.trans k13)) _ _ ht, h6, ho, by omega, by omega, hc, fun l3 zs H4 e4 h3 q3 hz => ?_⟩
  have hzl := hz.length
  have hzl2 := liness_len ps
  refine ⟨l2, l3, _, _, rfl, rfl, e4 _ _ q2, q3, line180 (by simp; omega), fun l4 h4 => ?_⟩
  have k5 : Ex H4 (upd H4 l4 (.lst ([.ref l1] ++ zs))) := Ex.new h4
  have q4 : (upd H4 l4 (.lst ([.ref l1] ++ zs))) l4 = some (.lst ([.ref l1] ++ zs)) := upd_same
  generalize upd H4 l4 (.lst ([.ref l1] ++ zs)) = H5 at k5 q4 ⊢
  -- the lines, as lists in the heap
  have hls : LsF H1 H5 (planLines n ps) ([.ref l1] ++ zs) := by
    have k25 : Ex H2 H5 := k3.trans (e4.trans k5)
    exact (LsF.one (ws := ["colours", num n]) h1 (k25 _ _ q1)).append ((hz.low fun l h => fresh_back k13 h).mono fun l o _ h => k5 _ _ h)
  have hll := plan_lines_len (n := n) hc
  have hlz := hls.length
  refine ⟨l4, rfl, ⟨_, SqL.of q4⟩, fun D hD => lc_list (K := K) (a := l4) (xs := [.ref l1] ++ zs) (fun i H6 => Ex H5 H6 ∧ H6 D = some (.lst (((lineTexts n ps).take i).map V.str))) ⟨Ex.new hD, upd_same⟩ (fun i H6 _ hP => SqL.of (hP.1 _ _ q4)) ?_ ?_⟩
  · intro i x H6 hi hP
    obtain ⟨ws, l, hwi, rfl, hl⟩ := hls.get hi
    have hsm := plan_small h2 h6 ho ws (List.mem_of_getElem? hwi)
    refine ⟨rfl, ⟨_, rfl⟩, _, rfl, " ", l, ws, rfl, rfl, .inl (SqL.of (hP.1 _ _ hl)), ?_, _, hP.2, ?_, hP.1.mut hD, ?_⟩
    · have e : (" " : Str).length = 1 := by decide +kernel
      rw [e]
      have := hsm.1
      omega
    · rw [List.length_map, List.length_take]
      refine small1000 ?_
      rw [lineTexts, List.length_map]
      omega
    · have e : (lineTexts n ps)[i]? = some (Txt.join " " ws) := by
        rw [lineTexts, List.getElem?_map, hwi]
        rfl
      rw [upd_same, take_more e, List.map_append]
      rfl
  · intro H6 hP
    refine ⟨"\n", D, lineTexts n ps, rfl, rfl, .inl (SqL.of ?_), ?_, ?_⟩
    · rw [hP.2, hlz]
      have e : (planLines n ps).length = (lineTexts n ps).length := by rw [lineTexts, List.length_map]
      rw [e, List.take_length]
    · have e : ("\n" : Str).length = 1 := by decide +kernel
      have h1 := lt_sum h2 h6 ho hc
      have e2 : (lineTexts n ps).length = (planLines n ps).length := by rw [lineTexts, List.length_map]
      rw [e, e2]
      omega
    · exact q H6 (e1.trans (k13.trans (e4.trans (k5.trans hP.1))))
end
end Pk

namespace Pk
open PySem PySem.Spec PyProof.Rows L2 Evl
/-! ### the row of draws -/
/-- the script: known to its object, or the module's own -/
def Scr (K : PySem.W.Frag) (H : Hp) (s : Addr) (ns : List Int) : Prop :=
  (∃ o, H s = some (.frz o (.lst (ns.map V.int)))) ∨ ∃ (o : Obj) (its : Array Value) (n : Nat), K.lookup s = some o ∧ o.cls = .type "list" ∧ o.dict = none ∧ o.data = .seq its n ∧ its.size ≤ sizeLine ∧ Vals (ns.map V.int) its.toList
theorem Scr.seq {K : PySem.W.Frag} {H : Hp} {s : Addr} {ns : List Int} (h : Scr K H s ns) : SqL K H s (ns.map V.int) := by
  rcases h with ⟨o, h⟩ | h
  · exact .inl (.inr ⟨o, h⟩)
  · exact .inr h
/-- all but r stands -/
def Kp (r : Addr) (H H' : Hp) : Prop := ∀ b o, H b = some o → b ≠ r → H' b = some o
theorem Kp.refl (r : Addr) (H : Hp) : Kp r H H := fun _ _ h _ => h
theorem Kp.trans {r : Addr} {H H1 H2 : Hp} (a : Kp r H H1) (b : Kp r H1 H2) : Kp r H H2 := fun x o h n => b x o (a x o h n) n
theorem Kp.of {r : Addr} {H H' : Hp} (e : Ex H H') : Kp r H H' := fun x o h _ => e x o h
theorem Kp.upd {r : Addr} {H : Hp} {o : HO} : Kp r H (upd H r o) := fun x u h n => by
  rw [upd_ne n]
  exact h
theorem Scr.keep {K : PySem.W.Frag} {H H' : Hp} {s r : Addr} {ns : List Int} {ys : List V} (h : Scr K H s ns) (hr : H r = some (.lst ys)) (k : Kp r H H') : Scr K H' s ns := by
  rcases h with ⟨o, h⟩ | h
  · exact .inl ⟨o, k _ _ h (ne_of h hr (by intro z; cases z))⟩
  · exact .inr h
theorem Scr.ex {K : PySem.W.Frag} {H H' : Hp} {s : Addr} {ns : List Int} (h : Scr K H s ns) (k : Ex H H') : Scr K H' s ns := by
  rcases h with ⟨o, h⟩ | h
  · exact .inl ⟨o, k _ _ h⟩
  · exact .inr h
theorem Kp.tk {H H' : Hp} {r : Addr} {ys : List V} (hr : H r = some (.lst ys)) (k : Kp r H H') : TK H H' := fun b xs h => k b _ h (ne_of h hr (by intro z; cases z))
/-- the row at r: the script, the place, the seed, the rest of a great cell -/
structure Row4 (K : PySem.W.Frag) (H : Hp) (r s : Addr) (ns : List Int) : Prop where
  at_ : ∃ i sd rs : Int, 0 ≤ i ∧ H r = some (.lst [.ref s, .int i, .int sd, .int rs])
  scr : Scr K H s ns
theorem Row4.ex {K : PySem.W.Frag} {H H' : Hp} {r s : Addr} {ns : List Int} (h : Row4 K H r s ns) (k : Ex H H') : Row4 K H' r s ns := by
  obtain ⟨⟨i, sd, rs, h0, h1⟩, h2⟩ := h
  exact ⟨⟨i, sd, rs, h0, k _ _ h1⟩, h2.ex k⟩
theorem Row4.tk {K : PySem.W.Frag} {H H' : Hp} {r s : Addr} {ns : List Int} (h : Row4 K H r s ns) (k : Kp r H H') : TK H H' := by
  obtain ⟨⟨i, sd, rs, h0, h1⟩, h2⟩ := h
  exact k.tk h1
/-- another list is written -/
theorem Row4.lst {K : PySem.W.Frag} {H : Hp} {r s l : Addr} {ns : List Int} {ys : List V} {o : HO} (h : Row4 K H r s ns) (hl : H l = some (.lst ys)) (hn : l ≠ r) : Row4 K (upd H l o) r s ns := by
  obtain ⟨⟨i, sd, rs, h0, h1⟩, h2⟩ := h
  refine ⟨⟨i, sd, rs, h0, ?_⟩, h2.keep hl Kp.upd⟩
  rw [upd_ne (Ne.symm hn)]
  exact h1
theorem Row4.ne {K : PySem.W.Frag} {H : Hp} {r s p : Addr} {ns : List Int} (h : Row4 K H r s ns) (hp : H p = none) : p ≠ r := by
  obtain ⟨⟨i, sd, rs, h0, h1⟩, h2⟩ := h
  exact (ne_of_none h1 hp).symm
section
variable {P : Program} {w : World} {K : PySem.W.Frag} {mg : Str → Option Value} {base : Heap}
/-! ### _law_taken -/
def spTaken (K : PySem.W.Frag) : Sp := fun vs H Q _ => ∃ (r s : Addr) (ns : List Int) (m : Int), vs = [.ref r, .int m] ∧ Row4 K H r s ns ∧ 0 < m ∧ m ≤ 1000 ∧ ns.length ≤ 63 ∧
  ∀ (k : Int) (H' : Hp), 0 ≤ k → k < m → Row4 K H' r s ns → Kp r H H' → Q (.int k) H'
abbrev nsTaken : List Str := ["_law_row", "_law_many", "_law_found", "_law_cell"]
theorem scTaken : FnScope nsTaken ["_law_row", "_law_many"] (defScope sTaken) := ⟨rfl, rfl, rfl, by decide +kernel, rfl, by decide +kernel, by decide +kernel⟩
theorem atI_of {xs : List V} {i : Int} {v : V} (h0 : 0 ≤ i) (h : xs[i.toNat]? = some v) : atI xs i = some v := by
  have e : i = ((i.toNat : Nat) : Int) := by omega
  rw [e]
  exact atI_nat h
theorem ok_taken {f : Addr} {fd : FuncData} (F : Fun K "_law_taken" "_law_taken" sTaken f fd) (B : Blt mg) : FnOk P w K mg base CX0 1 f fd ["_law_row", "_law_many"] (spTaken K) := by
  refine F.ok scTaken (fun vs H Q E h => ?_) (fun cdv A outer s H vs Q E hr h => ?_)
  · obtain ⟨r, s, ns, m, rfl, _⟩ := h
    rfl
  obtain ⟨r, s, ns, m, rfl, ⟨⟨i, sd, rs, hi0, hrow⟩, hsc⟩, hm0, hm1, hns, q⟩ := h
  refine ⟨_, (pss_cons (ps_if (pt_cmpR op_gt (pe_ix ix_list (pv 0) pe_int (fun _ _ => rfl)) pe_int (nomark _)) (pss_cons (ps_set (i := 2) scTaken.nd (by rfl) (.inl rfl) (pe_op op_mod (pe_callTy call_int1 (by rfl) B.int (by decide +kernel) (pa_cons (pe_ix ix_list (pv 0) pe_int (fun _ _ => rfl)) pa_nil)) (pv 1)))
    (pss_cons (ps_asg (pe_op op_fdiv (pe_ix ix_list (pv 0) pe_int (fun _ _ => rfl)) (pv 1)) (pg_sub (pv 0) pe_int set_list))
    (pss_one (ps_ret (pv 2))))) pss_nil)
    (pss_cons (ps_asg (pe_op op_add (pe_ix ix_list (pv 0) pe_int (fun _ _ => rfl)) pe_int) (pg_sub (pv 0) pe_int set_list))
    (pss_cons (ps_if (pt_cmpR op_gt (pe_ix ix_list (pv 0) pe_int (fun _ _ => rfl)) (pe_callB call_len_seq (by rfl) B.len (by decide +kernel) (pa_cons (pe_ix ix_list (pv 0) pe_int (fun _ _ => rfl)) pa_nil)) (nomark _)) (pss_cons (ps_asg (pe_op op_mod (pe_callTy call_int1 (by rfl) B.int (by decide +kernel) (pa_cons (pe_op op_add (pe_op op_mul (pe_ix ix_list (pv 0) pe_int (fun _ _ => rfl)) pe_int) pe_int) pa_nil)) pe_int) (pg_sub (pv 0) pe_int set_list))
    (pss_one (ps_ret (pe_op op_mod (pe_callTy call_int1 (by rfl) B.int (by decide +kernel) (pa_cons (pe_op op_fdiv (pe_ix ix_list (pv 0) pe_int (fun _ _ => rfl)) pe_int) pa_nil)) (pv 1))))) pss_nil)
    (pss_cons (ps_set (i := 3) scTaken.nd (by rfl) (.inl rfl) (pe_ix ix_list (pe_ix ix_list (pv 0) pe_int (fun _ _ => rfl)) (pe_op op_sub (pe_ix ix_list (pv 0) pe_int (fun _ _ => rfl)) pe_int) (fun _ _ => rfl)))
    (pss_cons (ps_asg (pe_op op_mod (pe_callTy call_int1 (by rfl) B.int (by decide +kernel) (pa_cons (pe_op op_add (pe_op op_add (pe_op op_mul (pe_ix ix_list (pv 0) pe_int (fun _ _ => rfl)) pe_int) (pv 3)) pe_int) pa_nil)) pe_int) (pg_sub (pv 0) pe_int set_list))
    (pss_cons (ps_if (pt_cmpR op_ge (pv 3) (pe_op op_pow pe_int pe_int) (nomark _)) (pss_one (ps_asg (pe_op op_fdiv (pv 3) (pv 1)) (pg_sub (pv 0) pe_int set_list))) pss_nil)
    (pss_one (ps_ret (pe_op op_mod (pe_callTy call_int1 (by rfl) B.int (by decide +kernel) (pa_cons (pv 3) pa_nil)) (pv 1)))))))))), ?_⟩
  have hS := SqL.of (K := K) hrow
  refine ⟨_, rfl, _, _, 3, .int rs, rfl, rfl, hS, atI_nat (j := 3) rfl, _, _, rfl, rfl, _, rfl, ?_⟩
  refine ite2 (fun c => ?_) (fun c => ?_)
  · -- a cell's rest
    refine ⟨_, rfl, _, _, 3, .int rs, rfl, rfl, hS, atI_nat (j := 3) rfl, .inl ⟨rs, rfl, _, rfl, _, _, rfl, rfl, hm0, ?_⟩⟩
    refine ⟨_, rfl, _, _, 3, .int rs, rfl, rfl, hS, atI_nat (j := 3) rfl, _, rfl, _, _, rfl, rfl, ⟨hm0, by omega⟩, ?_⟩
    refine ⟨_, rfl, r, _, 3, 3, rfl, rfl, hrow, rfl, ?_⟩
    refine ⟨_, rfl, ?_⟩
    exact q _ _ (Int.emod_nonneg _ (by omega)) (Int.emod_lt_of_pos _ hm0) ⟨⟨i, sd, rs / m, hi0, upd_same⟩, hsc.keep hrow Kp.upd⟩ Kp.upd
  · refine ⟨_, rfl, _, _, 1, .int i, rfl, rfl, hS, atI_nat (j := 1) rfl, _, _, rfl, rfl, ?_⟩
    refine ⟨_, rfl, r, _, 1, 1, rfl, rfl, hrow, rfl, ?_⟩
    have k1 : Kp r H (upd H r (.lst [.ref s, .int (i + 1), .int sd, .int rs])) := Kp.upd
    have hrow1 : (upd H r (.lst [.ref s, .int (i + 1), .int sd, .int rs])) r = some (.lst [.ref s, .int (i + 1), .int sd, .int rs]) := upd_same
    have hsc1 := hsc.keep hrow k1
    have e0 : ([V.ref s, .int i, .int sd, .int rs] : List V).set 1 (.int (i + 1)) = [.ref s, .int (i + 1), .int sd, .int rs] := rfl
    rw [e0]
    generalize upd H r (.lst [.ref s, .int (i + 1), .int sd, .int rs]) = H1 at k1 hrow1 hsc1 ⊢
    have hS1 := SqL.of (K := K) hrow1
    refine ⟨_, rfl, _, _, 1, .int (i + 1), rfl, rfl, hS1, atI_nat (j := 1) rfl, _, rfl, _, _, 0, .ref s, rfl, rfl, hS1, atI_nat (j := 0) rfl, s, _, rfl, .inl hsc1.seq, _, _, rfl, rfl, _, rfl, ?_⟩
    refine ite2 (fun c2 => ?_) (fun c2 => ?_)
    · -- the script is at its end
      refine ⟨_, rfl, _, _, 2, .int sd, rfl, rfl, hS1, atI_nat (j := 2) rfl, _, _, rfl, rfl, .inr ⟨by decide, by decide⟩, _, _, rfl, rfl, .inl ⟨_, rfl, _, _, rfl, rfl, (by show (0 : Int) < 2147483647; decide), ?_⟩⟩
      refine ⟨_, rfl, r, _, 2, 2, rfl, rfl, hrow1, rfl, ?_⟩
      have k2 : Kp r H1 (upd H1 r (.lst [.ref s, .int (i + 1), .int ((sd * 48271 + 11) % 2147483647), .int rs])) := Kp.upd
      have hrow2 : (upd H1 r (.lst [.ref s, .int (i + 1), .int ((sd * 48271 + 11) % 2147483647), .int rs])) r = some (.lst [.ref s, .int (i + 1), .int ((sd * 48271 + 11) % 2147483647), .int rs]) := upd_same
      refine ⟨_, rfl, _, _, 2, .int ((sd * 48271 + 11) % 2147483647), rfl, rfl, SqL.of hrow2, atI_nat (j := 2) rfl, _, _, rfl, rfl, ⟨by decide, by decide⟩, .inl ⟨_, rfl, _, rfl, _, _, rfl, rfl, hm0, ?_⟩⟩
      exact q _ _ (Int.emod_nonneg _ (by omega)) (Int.emod_lt_of_pos _ hm0) ⟨⟨i + 1, _, rs, by omega, hrow2⟩, hsc1.keep hrow1 k2⟩ (k1.trans k2)
    · -- the next cell
      have c2' : ¬ ((((ns.map V.int).length : Nat) : Int) < i + 1) := of_decide_eq_false (Bool.eq_false_iff.mpr c2)
      rw [List.length_map] at c2'
      have hlt : i.toNat < ns.length := by omega
      have hcell : atI (ns.map V.int) (i + 1 - 1) = some (.int ns[i.toNat]) := by
        refine atI_of (by omega) ?_
        have e : (i + 1 - 1).toNat = i.toNat := by omega
        rw [e, List.getElem?_map, List.getElem?_eq_getElem hlt]
        rfl
      generalize ns[i.toNat] = cell at hcell
      refine ⟨_, rfl, _, _, 0, .ref s, rfl, rfl, hS1, atI_nat (j := 0) rfl, _, rfl, _, _, 1, .int (i + 1), rfl, rfl, hS1, atI_nat (j := 1) rfl, _, _, rfl, rfl, s, _, i + 1 - 1, .int cell, rfl, rfl, hsc1.seq, hcell, ?_⟩
      refine ⟨_, rfl, _, _, 2, .int sd, rfl, rfl, hS1, atI_nat (j := 2) rfl, _, _, rfl, rfl, .inr ⟨by decide, by decide⟩, _, rfl, _, _, rfl, rfl, _, _, rfl, rfl, .inl ⟨_, rfl, _, _, rfl, rfl, (by show (0 : Int) < 2147483647; decide), ?_⟩⟩
      refine ⟨_, rfl, r, _, 2, 2, rfl, rfl, hrow1, rfl, ?_⟩
      have k2 : Kp r H1 (upd H1 r (.lst [.ref s, .int (i + 1), .int ((sd * 48271 + cell + 11) % 2147483647), .int rs])) := Kp.upd
      have hrow2 : (upd H1 r (.lst [.ref s, .int (i + 1), .int ((sd * 48271 + cell + 11) % 2147483647), .int rs])) r = some (.lst [.ref s, .int (i + 1), .int ((sd * 48271 + cell + 11) % 2147483647), .int rs]) := upd_same
      have hsc2 := hsc1.keep hrow1 k2
      have e1 : ([V.ref s, .int (i + 1), .int sd, .int rs] : List V).set 2 (.int ((sd * 48271 + cell + 11) % 2147483647)) = [.ref s, .int (i + 1), .int ((sd * 48271 + cell + 11) % 2147483647), .int rs] := rfl
      rw [e1]
      generalize upd H1 r (.lst [.ref s, .int (i + 1), .int ((sd * 48271 + cell + 11) % 2147483647), .int rs]) = H2 at k2 hrow2 hsc2 ⊢
      generalize (sd * 48271 + cell + 11) % 2147483647 = sd' at hrow2
      refine ⟨_, rfl, _, _, rfl, rfl, ⟨by decide, by decide, by decide⟩, _, _, rfl, rfl, _, rfl, ?_⟩
      refine ite2 (fun c3 => ?_) (fun c3 => ?_)
      · refine ⟨_, rfl, _, rfl, _, _, rfl, rfl, ⟨hm0, by omega⟩, ?_⟩
        refine ⟨_, rfl, r, _, 3, 3, rfl, rfl, hrow2, rfl, ?_⟩
        refine ⟨_, rfl, .inl ⟨_, rfl, _, rfl, _, _, rfl, rfl, hm0, ?_⟩⟩
        exact q _ _ (Int.emod_nonneg _ (by omega)) (Int.emod_lt_of_pos _ hm0) ⟨⟨i + 1, sd', cell / m, by omega, upd_same⟩, hsc2.keep hrow2 Kp.upd⟩ ((k1.trans k2).trans Kp.upd)
      · refine ⟨_, rfl, .inl ⟨_, rfl, _, rfl, _, _, rfl, rfl, hm0, ?_⟩⟩
        exact q _ _ (Int.emod_nonneg _ (by omega)) (Int.emod_lt_of_pos _ hm0) ⟨⟨i + 1, sd', rs, by omega, hrow2⟩, hsc2⟩ (k1.trans k2)
/-! ### _law_pick -/
def spPick (K : PySem.W.Frag) : Sp := fun vs H Q _ => ∃ (r s t : Addr) (ns : List Int) (ps : List Pt) (xs : List V), vs = [.ref r, .ref t] ∧ Row4 K H r s ns ∧ ns.length ≤ 63 ∧ H t = some (.lst xs) ∧ t ≠ r ∧ TpL H (Pt.datas ps) xs ∧ 0 < ps.length ∧ ps.length ≤ 1000 ∧
  ∀ (p : Pt) (x : V) (H' : Hp), p ∈ ps → Tp H' p.data x → Row4 K H' r s ns → Kp r H H' → Q x H'
abbrev nsPick : List Str := ["_law_row", "_law_things"]
theorem scPick : FnScope nsPick ["_law_row", "_law_things"] (defScope sPick) := ⟨rfl, rfl, rfl, by decide +kernel, rfl, by decide +kernel, by decide +kernel⟩
theorem ok_pick {f : Addr} {fd : FuncData} (F : Fun K "_law_pick" "_law_pick" sPick f fd) (B : Blt mg) (GT : Has P w K mg base CX0 1 "_law_taken" ["_law_row", "_law_many"] (spTaken K)) : FnOk P w K mg base CX0 2 f fd ["_law_row", "_law_things"] (spPick K) := by
  refine F.ok scPick (fun vs H Q E h => ?_) (fun cdv A outer s H vs Q E hr h => ?_)
  · obtain ⟨r, s, t, ns, ps, xs, rfl, _⟩ := h
    rfl
  obtain ⟨r, s, t, ns, ps, xs, rfl, hrow, hns, ht, hne, hx, h0, h1, q⟩ := h
  refine ⟨_, (pss_one (ps_ret (pe_ix ix_list (pv 1) (pe_h GT hr (by rfl) pass0 (pa_cons (pv 0) (pa_cons (pe_callB call_len_seq (by rfl) B.len (by decide +kernel) (pa_cons (pv 1) pa_nil)) pa_nil))) (fun _ _ => rfl)))), ?_⟩
  have hl : xs.length = ps.length := by rw [TpL.length hx, datas_len]
  refine ⟨_, rfl, _, rfl, _, rfl, t, xs, rfl, .inl (SqL.of ht), r, s, ns, _, rfl, hrow, by omega, by omega, hns, fun k H' hk0 hk hrow' kp => ?_⟩
  have ht' := kp _ _ ht hne
  have hkl : k.toNat < xs.length := by omega
  obtain ⟨d, hd, hxd⟩ := TpL.getV hx (List.getElem?_eq_getElem hkl)
  obtain ⟨p, hp, rfl⟩ := datas_get hd
  refine ⟨t, xs, k, _, rfl, rfl, SqL.of ht', atI_of hk0 (List.getElem?_eq_getElem hkl), ?_⟩
  exact q p _ H' (List.mem_of_getElem? hp) (Tp.mono (hrow.tk kp) _ _ hxd) hrow' kp
end
end Pk

namespace Pk
open PySem PySem.Spec PyProof.Rows L2 Evl
theorem datas_append : ∀ a b : List Pt, Pt.datas (a ++ b) = Pt.datas a ++ Pt.datas b
  | [], b => by simp [Pt.datas]
  | p :: a, b => by rw [List.cons_append, Pt.datas, Pt.datas, datas_append a b, List.cons_append]
theorem oks_append {n : Int} : ∀ {a b : List Pt}, Pt.oks n a → Pt.oks n b → Pt.oks n (a ++ b)
  | [], _, _, h => h
  | _ :: a, _, h, h' => ⟨h.1, oks_append (a := a) h.2 h'⟩
theorem deps_append : ∀ a b : List Pt, Pt.deps (a ++ b) = max (Pt.deps a) (Pt.deps b)
  | [], b => by simp [Pt.deps]
  | p :: a, b => by
    rw [List.cons_append, Pt.deps, Pt.deps, deps_append a b]
    omega
section
variable {P : Program} {w : World} {K : PySem.W.Frag} {mg : Str → Option Value} {base : Heap}
/-! ### _law_plan_block; m - 1: how deep blocks may still stand within -/
def spPb (K : PySem.W.Frag) (m : Nat) : Sp := fun vs H Q _ => ∃ (r s : Addr) (ns : List Int) (n d : Int), vs = [.ref r, .int n, .int d] ∧ Row4 K H r s ns ∧ ns.length ≤ 63 ∧ 2 ≤ n ∧ n ≤ 3 ∧ 1 ≤ m ∧ 4 ≤ d + (m : Int) ∧
  ∀ (ps : List Pt) (v : V) (H' : Hp), Pt.oks n ps → Pt.deps ps + 1 ≤ m → Tp H' (.tuple (Pt.datas ps)) v → Row4 K H' r s ns → Kp r H H' → Q v H'
abbrev nsPb : List Str := ["_law_row", "_law_colours", "_law_deep", "_law_found", "_law_turn", "_law_way", "_law_colour", "_law_inner", "_law_other", "_law_ways"]
theorem scPb : FnScope nsPb ["_law_row", "_law_colours", "_law_deep"] (defScope sBlock) := ⟨rfl, rfl, rfl, by decide +kernel, rfl, by decide +kernel, by decide +kernel⟩
/-- behind i turns: the parts drawn lie in the list at L -/
def PbInv (K : PySem.W.Frag) (n d : Int) (r s L : Addr) (ns : List Int) (m : Nat) (H : Hp) (i : Nat) (σ : L2.St) (H' : Hp) : Prop :=
  ∃ (ps : List Pt) (vs : List V) (o4 o5 o6 o7 o8 o9 : Option V), σ = [some (.ref r), some (.int n), some (.int d), some (.ref L), o4, o5, o6, o7, o8, o9] ∧ H' L = some (.lst vs) ∧ TpL H' (Pt.datas ps) vs ∧ Pt.oks n ps ∧ Pt.deps ps ≤ m ∧ ps.length = i ∧ Row4 K H' r s ns ∧ Kp r H H'
theorem ok_pb {m : Nat} {f : Addr} {fd : FuncData} (F : Fun K "_law_plan_block" "_law_plan_block" sBlock f fd) (B : Blt mg) (GT : Has P w K mg base CX0 1 "_law_taken" ["_law_row", "_law_many"] (spTaken K))
    (GK : Has P w K mg base CX0 2 "_law_pick" ["_law_row", "_law_things"] (spPick K)) (GB : Has P w K mg base CX0 (m + 2) "_law_plan_block" ["_law_row", "_law_colours", "_law_deep"] (spPb K m)) :
    FnOk P w K mg base CX0 (m + 2 + 1) f fd ["_law_row", "_law_colours", "_law_deep"] (spPb K (m + 1)) := by
  refine F.ok scPb (fun vs H Q E h => ?_) (fun cdv A outer s0 H vs Q E hr h => ?_)
  · obtain ⟨r, s, ns, n, d, rfl, _⟩ := h
    rfl
  obtain ⟨r, s, ns, n, d, rfl, hrow, hns, hn2, hn3, hm1, hdm, q⟩ := h
  have hr1 : Room 1 (A.deeper (envOfC "_law_plan_block" (defScope sBlock) s0.heap.objs.size f cdv)) := hr.mono (by omega)
  have hr2 : Room 2 (A.deeper (envOfC "_law_plan_block" (defScope sBlock) s0.heap.objs.size f cdv)) := hr.mono (by omega)
  refine ⟨_, (pss_cons (ps_set (i := 3) scPb.nd (by rfl) (.inl rfl) (pe_lst pa_nil))
    (pss_cons (ps_for PassesOwn.never (by rfl) (pi_range1 (by rfl) B.range (pa_cons (pe_op op_add pe_int (pe_h GT hr1 (by rfl) pass0 (pa_cons (pv 0) (pa_cons pe_int pa_nil)))) pa_nil)) (pg_name (i := 4) scPb.nd (by rfl) (.inl rfl)) (pss_cons (ps_par (i := 5) (j := 6) (by rfl) scPb.nd (by rfl) (by rfl) (by decide) (by rfl) (by rfl) (pa_cons (pe_h GT hr1 (by rfl) pass0 (pa_cons (pv 0) (pa_cons pe_int pa_nil))) (pa_cons (pe_h GT hr1 (by rfl) pass0 (pa_cons (pv 0) (pa_cons (pv 1) pa_nil))) pa_nil)) (by rfl))
    (pss_one (ps_if (PW.pt (pw_or (pt_cmpR op_lt (pv 5) pe_int (nomark _)) (pw_or1 (pt_cmpR op_gt (pv 2) pe_int (nomark _))))) (pss_one (ps_expr (pe_bm PySem.F.plainAttrs_list PySem.F.slot_list_append PySem.F.type_list_append mt_append (pv 3) (pa_cons (pe_h GK hr2 (by rfl) pass0 (pa_cons (pv 0) (pa_cons (pe_lst (pa_cons (pe_tup (pa_cons pe_str pa_nil)) (pa_cons (pe_tup (pa_cons pe_str pa_nil)) (pa_cons (pe_tup (pa_cons pe_str (pa_cons (pv 6) pa_nil))) (pa_cons (pe_tup (pa_cons pe_str (pa_cons (pe_op op_add pe_int (pe_h GT hr1 (by rfl) pass0 (pa_cons (pv 0) (pa_cons pe_int pa_nil)))) pa_nil))) pa_nil))))) pa_nil))) pa_nil)))) (pss_one (ps_if (pt_cmpR op_eq (pv 5) pe_int (nomark _)) (pss_one (ps_expr (pe_bm PySem.F.plainAttrs_list PySem.F.slot_list_append PySem.F.type_list_append mt_append (pv 3) (pa_cons (pe_tup (pa_cons pe_str pa_nil)) pa_nil)))) (pss_cons (ps_set (i := 7) scPb.nd (by rfl) (.inl rfl) (pe_h GB hr (by rfl) pass0 (pa_cons (pv 0) (pa_cons (pv 1) (pa_cons (pe_op op_add (pv 2) pe_int) pa_nil)))))
    (pss_cons (ps_set (i := 8) scPb.nd (by rfl) (.inl rfl) (pe_ifExp (pt_cmpR op_eq (pe_h GT hr1 (by rfl) pass0 (pa_cons (pv 0) (pa_cons pe_int pa_nil))) pe_int (nomark _)) (pe_h GB hr (by rfl) pass0 (pa_cons (pv 0) (pa_cons (pv 1) (pa_cons (pe_op op_add (pv 2) pe_int) pa_nil)))) (pe_tup pa_nil)))
    (pss_cons (ps_set (i := 9) scPb.nd (by rfl) (.inl rfl) (pe_lst (pa_cons (pe_tup (pa_cons pe_str (pa_cons (pv 6) (pa_cons (pv 7) (pa_cons (pv 8) pa_nil))))) (pa_cons (pe_tup (pa_cons pe_str (pa_cons (pv 6) (pa_cons (pv 7) pa_nil)))) pa_nil))))
    (pss_cons (ps_set (i := 9) scPb.nd (by rfl) (.inl rfl) (pe_op op_cat (pv 9) (pe_lst (pa_cons (pe_tup (pa_cons pe_str (pa_cons (pe_h GT hr1 (by rfl) pass0 (pa_cons (pv 0) (pa_cons pe_int pa_nil))) (pa_cons (pv 7) pa_nil)))) (pa_cons (pe_tup (pa_cons pe_str (pa_cons (pv 7) pa_nil))) pa_nil)))))
    (pss_one (ps_expr (pe_bm PySem.F.plainAttrs_list PySem.F.slot_list_append PySem.F.type_list_append mt_append (pv 3) (pa_cons (pe_h GK hr2 (by rfl) pass0 (pa_cons (pv 0) (pa_cons (pv 9) pa_nil))) pa_nil))))))))))))))
    (pss_one (ps_ret (pe_callTy call_tuple_of (by rfl) B.tup (by decide +kernel) (pa_cons (pv 3) pa_nil)))))), ?_⟩
  refine ⟨(by show 0 ≤ sizeLine; decide), fun L hL => ?_⟩
  have hLr := hrow.ne hL
  have k1 : Ex H (upd H L (.lst [])) := Ex.new hL
  have hL1 : (upd H L (.lst [])) L = some (.lst []) := upd_same
  generalize upd H L (.lst []) = H1 at k1 hL1 ⊢
  refine ⟨_, rfl, r, s, ns, 3, rfl, hrow.ex k1, by omega, by omega, hns, fun k H2 hk0 hk3 hrow2 kp2 => ?_⟩
  refine ⟨_, _, rfl, rfl, 1 + k, rfl, by omega, by omega, for_range (lo := 0) (n := (1 + k).toNat) (PbInv K n d r s L ns m H) ⟨[], [], none, none, none, none, none, none, rfl, kp2 _ _ hL1 hLr, rfl, trivial, Nat.zero_le _, rfl, hrow2, (Kp.of k1).trans kp2⟩ ?_ ?_⟩
  · rintro i σ H3 hi ⟨ps, vs, o4, o5, o6, o7, o8, o9, rfl, hL3, hx, ho, hd, hlen, hrow3, kp3⟩
    have hvl : vs.length ≤ 3 := by
      rw [TpL.length hx, datas_len]
      omega
    -- the end of a turn
    have fin : ∀ (p : Pt) (x : V) (H4 : Hp) (u4 u5 u6 u7 u8 u9 : Option V), p.ok n → p.dep ≤ m → Tp H4 p.data x → Row4 K H4 r s ns → Kp r H3 H4 →
        PbInv K n d r s L ns m H (i + 1) [some (.ref r), some (.int n), some (.int d), some (.ref L), u4, u5, u6, u7, u8, u9] (upd H4 L (.lst (vs ++ [x]))) := by
      intro p x H4 u4 u5 u6 u7 u8 u9 hp hpd hxp hrow4 kp4
      have hL4 := kp4 _ _ hL3 hLr
      have t4 : TK H4 (upd H4 L (.lst (vs ++ [x]))) := TK.lst hL4
      refine ⟨ps ++ [p], _, u4, u5, u6, u7, u8, u9, rfl, upd_same, ?_, oks_append ho ⟨hp, trivial⟩, ?_, by rw [List.length_append, hlen]; rfl, hrow4.lst hL4 hLr, ?_⟩
      · rw [datas_append]
        exact (TpL.mono ((hrow3.tk kp4).trans t4) _ _ hx).append (TpL.one (Tp.mono t4 _ _ hxp))
      · rw [deps_append]
        simp only [Pt.deps]
        omega
      · intro b o hb hbr
        have hbL : b ≠ L := fun c => by
          rw [c, hL] at hb
          cases hb
        rw [upd_ne hbL]
        exact kp4 _ _ (kp3 _ _ hb hbr) hbr
    -- way, colour
    refine ⟨_, rfl, r, s, ns, 10, rfl, hrow3, by omega, by omega, hns, fun way H4 hw0 hw hrow4 kp4 => ?_⟩
    refine ⟨_, rfl, _, rfl, r, s, ns, n, rfl, hrow4, by omega, by omega, hns, fun col H5 hc0 hc hrow5 kp5 => ?_⟩
    refine ⟨_, _, rfl, ?_⟩
    have kp35 := kp4.trans kp5
    have hL5 := kp35 _ _ hL3 hLr
    -- a leaf, drawn
    have leafA : tDrop (tBM K "list" rAppend (tVar 3) (tCons (tCall (spPick K) [] E0 (tCons (tVar 0) (tCons (tLst (tCons (tTup (tCons (tC (.str "step")) tNil)) (tCons (tTup (tCons (tC (.str "step")) tNil)) (tCons (tTup (tCons (tC (.str "paint")) (tCons (tVar 6) tNil)))
        (tCons (tTup (tCons (tC (.str "turn")) (tCons (tOp (rI0 fun i j => .int (i + j)) (tC (.int 1)) (tCall (spTaken K) [] E0 (tCons (tVar 0) (tCons (tC (.int 3)) tNil)))) tNil))) tNil))))) tNil))) tNil))
        { nx := PbInv K n d r s L ns m H (i + 1), rt := Q } [some (.ref r), some (.int n), some (.int d), some (.ref L), some (.int (0 + i)), some (.int way), some (.int col), o7, o8, o9] H5 := by
      refine ⟨_, rfl, .inl ⟨rfl, _, SqL.of hL5⟩, ?_⟩
      refine ⟨_, rfl, (by show 1 ≤ sizeLine; decide), fun p1 h1 => ?_⟩
      have e1 : Ex H5 (upd H5 p1 (.tup [.str "step"])) := Ex.new h1
      have q1 : (upd H5 p1 (.tup [.str "step"])) p1 = some (.tup [.str "step"]) := upd_same
      generalize upd H5 p1 (.tup [.str "step"]) = H6 at e1 q1 ⊢
      refine ⟨(by show 1 ≤ sizeLine; decide), fun p2 h2 => ?_⟩
      have e2 : Ex H6 (upd H6 p2 (.tup [.str "step"])) := Ex.new h2
      have q2 : (upd H6 p2 (.tup [.str "step"])) p2 = some (.tup [.str "step"]) := upd_same
      generalize upd H6 p2 (.tup [.str "step"]) = H7 at e2 q2 ⊢
      refine ⟨_, rfl, (by show 2 ≤ sizeLine; decide), fun p3 h3 => ?_⟩
      have e3 : Ex H7 (upd H7 p3 (.tup [.str "paint", .int col])) := Ex.new h3
      have q3 : (upd H7 p3 (.tup [.str "paint", .int col])) p3 = some (.tup [.str "paint", .int col]) := upd_same
      generalize upd H7 p3 (.tup [.str "paint", .int col]) = H8 at e3 q3 ⊢
      refine ⟨_, rfl, r, s, ns, 3, rfl, hrow5.ex (e1.trans (e2.trans e3)), by omega, by omega, hns, fun k3 H9 hk30 hk33 hrow9 kp9 => ⟨_, _, rfl, rfl, (by show 2 ≤ sizeLine; decide), fun p4 h4 => ?_⟩⟩
      have e4 : Ex H9 (upd H9 p4 (.tup [.str "turn", .int (1 + k3)])) := Ex.new h4
      have q4 : (upd H9 p4 (.tup [.str "turn", .int (1 + k3)])) p4 = some (.tup [.str "turn", .int (1 + k3)]) := upd_same
      generalize upd H9 p4 (.tup [.str "turn", .int (1 + k3)]) = H10 at e4 q4 ⊢
      refine ⟨(by show 4 ≤ sizeLine; decide), fun l hl => ?_⟩
      have e5 : Ex H10 (upd H10 l (.lst [.ref p1, .ref p2, .ref p3, .ref p4])) := Ex.new hl
      have q5 : (upd H10 l (.lst [.ref p1, .ref p2, .ref p3, .ref p4])) l = some (.lst [.ref p1, .ref p2, .ref p3, .ref p4]) := upd_same
      have hlr := (hrow9.ex e4).ne hl
      generalize upd H10 l (.lst [.ref p1, .ref p2, .ref p3, .ref p4]) = H11 at e5 q5 ⊢
      have t1 : TK H6 H11 := (TK.of (e2.trans e3)).trans (((hrow5.ex (e1.trans (e2.trans e3))).tk kp9).trans (TK.of (e4.trans e5)))
      have t2 : TK H7 H11 := (TK.of e3).trans (((hrow5.ex (e1.trans (e2.trans e3))).tk kp9).trans (TK.of (e4.trans e5)))
      have t3 : TK H8 H11 := ((hrow5.ex (e1.trans (e2.trans e3))).tk kp9).trans (TK.of (e4.trans e5))
      have kp511 : Kp r H5 H11 := (Kp.of (e1.trans (e2.trans e3))).trans (kp9.trans (Kp.of (e4.trans e5)))
      refine ⟨r, s, l, ns, [.step, .step, .paint col, .turn (1 + k3)], _, rfl, (hrow9.ex e4).ex e5, hns, q5, hlr, ?_, (by show 0 < 4; decide), (by show 4 ≤ 1000; decide), fun p x H12 hp hx12 hrow12 kp12 => ?_⟩
      · exact ⟨_, _, rfl, ⟨p1, _, rfl, t1 _ _ q1, _, _, rfl, rfl, rfl⟩, _, _, rfl, ⟨p2, _, rfl, t2 _ _ q2, _, _, rfl, rfl, rfl⟩, _, _, rfl, ⟨p3, _, rfl, t3 _ _ q3, _, _, rfl, rfl, _, _, rfl, rfl, rfl⟩, _, _, rfl, ⟨p4, _, rfl, e5 _ _ q4, _, _, rfl, rfl, _, _, rfl, rfl, rfl⟩, rfl⟩
      · have hpo : p.ok n ∧ p.dep ≤ m := by
          simp only [List.mem_cons, List.not_mem_nil, or_false] at hp
          rcases hp with rfl | rfl | rfl | rfl
          · exact ⟨trivial, Nat.zero_le _⟩
          · exact ⟨trivial, Nat.zero_le _⟩
          · exact ⟨⟨hc0, hc⟩, Nat.zero_le _⟩
          · exact ⟨⟨by omega, by omega⟩, Nat.zero_le _⟩
        have kp512 := kp511.trans kp12
        exact ⟨L, vs, x, rfl, rfl, kp512 _ _ hL5 hLr, small1000 (by omega), fin p x H12 _ _ _ _ _ _ hpo.1 hpo.2 hx12 hrow12 (kp35.trans kp512)⟩
    refine ⟨_, rfl, _, _, rfl, rfl, _, rfl, ite2 (fun _ => ?_) (fun c1 => ?_)⟩
    · exact leafA
    refine ⟨_, rfl, _, _, rfl, rfl, _, rfl, ite2 (fun _ => ?_) (fun c2 => ?_)⟩
    · exact leafA
    have hd2 : d ≤ 2 := by
      have := of_decide_eq_false (Bool.eq_false_iff.mpr c2)
      omega
    refine ⟨_, rfl, rfl, _, rfl, ite2 (fun _ => ?_) (fun c3 => ?_)⟩
    · -- a stop
      refine ⟨_, rfl, .inl ⟨rfl, _, SqL.of hL5⟩, (by show 1 ≤ sizeLine; decide), fun p1 h1 => ?_⟩
      have e1 : Ex H5 (upd H5 p1 (.tup [.str "stop"])) := Ex.new h1
      exact ⟨L, vs, .ref p1, rfl, rfl, e1 _ _ hL5, small1000 (by omega), fin .stop (.ref p1) _ _ _ _ _ _ _ trivial (Nat.zero_le _) ⟨p1, _, rfl, upd_same, _, _, rfl, rfl, rfl⟩ (hrow5.ex e1) (kp35.trans (Kp.of e1))⟩
    -- a part with blocks
    refine ⟨_, rfl, _, rfl, _, rfl, _, _, rfl, rfl, r, s, ns, n, d + 1, rfl, hrow5, hns, hn2, hn3, by omega, by omega, fun xs1 v1 H6 ho1 hd1 hv1 hrow6 kp6 => ?_⟩
    -- the second block: drawn, or none
    have oth : ∀ R : V → Hp → Prop, (∀ (ys : List Pt) (y : V) (H7 : Hp), Tp H7 (.tuple (Pt.datas ys)) y → Pt.oks n ys → Pt.deps ys + 1 ≤ m → Row4 K H7 r s ns → Kp r H6 H7 → R y H7) →
        tIf (tTest (tOp rEq (tCall (spTaken K) [] E0 (tCons (tVar 0) (tCons (tC (.int 2)) tNil))) (tC (.int 0)))) (tCall (spPb K m) [] E0 (tCons (tVar 0) (tCons (tVar 1) (tCons (tOp (rI0 fun i j => .int (i + j)) (tVar 2) (tC (.int 1))) tNil)))) (tTup tNil)
          [some (.ref r), some (.int n), some (.int d), some (.ref L), some (.int (0 + i)), some (.int way), some (.int col), some v1, o8, o9] H6 R := by
      intro R hR
      refine ⟨_, rfl, r, s, ns, 2, rfl, hrow6, by omega, by omega, hns, fun k2 H7 _ _ hrow7 kp7 => ⟨rfl, _, rfl, ite2 (fun _ => ?_) (fun _ => ?_)⟩⟩
      · exact ⟨_, rfl, _, rfl, _, rfl, _, _, rfl, rfl, r, s, ns, n, d + 1, rfl, hrow7, hns, hn2, hn3, by omega, by omega, fun ys y H8 ho2 hd2' hy hrow8 kp8 => hR ys y H8 hy ho2 hd2' hrow8 (kp7.trans kp8)⟩
      · exact ⟨(by show 0 ≤ sizeLine; decide), fun p hp => hR [] (.ref p) _ ⟨p, [], rfl, upd_same, rfl⟩ trivial (by simp only [Pt.deps]; omega) (hrow7.ex (Ex.new hp)) (kp7.trans (Kp.of (Ex.new hp)))⟩
    refine oth _ fun ys y H7 hy ho2 hdy hrow7 kp7 => ?_
    have hv7 := Tp.mono (hrow6.tk kp7) _ _ hv1
    have hL7 := kp7 _ _ (kp6 _ _ hL5 hLr) hLr
    have kp37 := kp35.trans (kp6.trans kp7)
    -- the ways
    refine ⟨_, rfl, _, rfl, _, rfl, (by show 4 ≤ sizeLine; decide), fun p1 h1 => ?_⟩
    have e1 : Ex H7 (upd H7 p1 (.tup [.str "if", .int col, v1, y])) := Ex.new h1
    have q1 : (upd H7 p1 (.tup [.str "if", .int col, v1, y])) p1 = some (.tup [.str "if", .int col, v1, y]) := upd_same
    generalize upd H7 p1 (.tup [.str "if", .int col, v1, y]) = H8 at e1 q1 ⊢
    refine ⟨_, rfl, _, rfl, (by show 3 ≤ sizeLine; decide), fun p2 h2 => ?_⟩
    have e2 : Ex H8 (upd H8 p2 (.tup [.str "while", .int col, v1])) := Ex.new h2
    have q2 : (upd H8 p2 (.tup [.str "while", .int col, v1])) p2 = some (.tup [.str "while", .int col, v1]) := upd_same
    generalize upd H8 p2 (.tup [.str "while", .int col, v1]) = H9 at e2 q2 ⊢
    refine ⟨(by show 2 ≤ sizeLine; decide), fun l1 hl1 => ?_⟩
    have e3 : Ex H9 (upd H9 l1 (.lst [.ref p1, .ref p2])) := Ex.new hl1
    have q3 : (upd H9 l1 (.lst [.ref p1, .ref p2])) l1 = some (.lst [.ref p1, .ref p2]) := upd_same
    have hrow9 : Row4 K H9 r s ns := hrow7.ex (e1.trans e2)
    have hl1r := hrow9.ne hl1
    generalize upd H9 l1 (.lst [.ref p1, .ref p2]) = H10 at e3 q3 ⊢
    have hrow10 := hrow9.ex e3
    refine ⟨_, rfl, ?_⟩
    refine ⟨_, rfl, r, s, ns, 4, rfl, hrow10, by omega, by omega, hns, fun k4 H11 hk0' hk4 hrow11 kp11 => ⟨_, rfl, (by show 3 ≤ sizeLine; decide), fun p3 h3 => ?_⟩⟩
    have e4 : Ex H11 (upd H11 p3 (.tup [.str "repeat", .int k4, v1])) := Ex.new h3
    have q4 : (upd H11 p3 (.tup [.str "repeat", .int k4, v1])) p3 = some (.tup [.str "repeat", .int k4, v1]) := upd_same
    generalize upd H11 p3 (.tup [.str "repeat", .int k4, v1]) = H12 at e4 q4 ⊢
    refine ⟨_, rfl, (by show 2 ≤ sizeLine; decide), fun p4 h4 => ?_⟩
    have e5 : Ex H12 (upd H12 p4 (.tup [.str "forever", v1])) := Ex.new h4
    have q5 : (upd H12 p4 (.tup [.str "forever", v1])) p4 = some (.tup [.str "forever", v1]) := upd_same
    generalize upd H12 p4 (.tup [.str "forever", v1]) = H13 at e5 q5 ⊢
    refine ⟨(by show 2 ≤ sizeLine; decide), fun l2 hl2 => ?_⟩
    have e6 : Ex H13 (upd H13 l2 (.lst [.ref p3, .ref p4])) := Ex.new hl2
    have q6 : (upd H13 l2 (.lst [.ref p3, .ref p4])) l2 = some (.lst [.ref p3, .ref p4]) := upd_same
    generalize upd H13 l2 (.lst [.ref p3, .ref p4]) = H14 at e6 q6 ⊢
    have e46 := e4.trans (e5.trans e6)
    refine ⟨l1, l2, _, _, rfl, rfl, e46 _ _ (kp11 _ _ q3 hl1r), q6, (by show 4 ≤ sizeLine; decide), fun l3 hl3 => ?_⟩
    have e7 : Ex H14 (upd H14 l3 (.lst ([.ref p1, .ref p2] ++ [.ref p3, .ref p4]))) := Ex.new hl3
    have q7 : (upd H14 l3 (.lst ([.ref p1, .ref p2] ++ [.ref p3, .ref p4]))) l3 = some (.lst [.ref p1, .ref p2, .ref p3, .ref p4]) := upd_same
    have hrow14 : Row4 K H14 r s ns := hrow11.ex e46
    have hl3r := hrow14.ne hl3
    generalize upd H14 l3 (.lst ([.ref p1, .ref p2] ++ [.ref p3, .ref p4])) = H15 at e7 q7 ⊢
    have hrow15 := hrow14.ex e7
    have e47 := e46.trans e7
    have t11 : TK H10 H15 := (hrow10.tk kp11).trans (TK.of e47)
    have t9 : TK H9 H15 := (TK.of e3).trans t11
    have t8 : TK H8 H15 := (TK.of e2).trans t9
    have t7 : TK H7 H15 := (TK.of e1).trans t8
    have hv15 := Tp.mono t7 _ _ hv7
    have hy15 := Tp.mono t7 _ _ hy
    have kp715 : Kp r H7 H15 := (Kp.of (e1.trans (e2.trans e3))).trans (kp11.trans (Kp.of e47))
    have hL15 := kp715 _ _ hL7 hLr
    refine ⟨_, rfl, .inl ⟨rfl, _, SqL.of hL15⟩, ?_⟩
    refine ⟨_, rfl, _, rfl, r, s, l3, ns, [.iff col xs1 ys, .whl col xs1, .rep k4 xs1, .fvr xs1], _, rfl, hrow15, hns, q7, hl3r, ?_, (by show 0 < 4; decide), (by show 4 ≤ 1000; decide), fun p x H16 hp hx16 hrow16 kp16 => ?_⟩
    · exact ⟨_, _, rfl, ⟨p1, _, rfl, t8 _ _ q1, _, _, rfl, rfl, _, _, rfl, rfl, _, _, rfl, hv15, _, _, rfl, hy15, rfl⟩, _, _, rfl, ⟨p2, _, rfl, t9 _ _ q2, _, _, rfl, rfl, _, _, rfl, rfl, _, _, rfl, hv15, rfl⟩,
        _, _, rfl, ⟨p3, _, rfl, (e5.trans (e6.trans e7)) _ _ q4, _, _, rfl, rfl, _, _, rfl, rfl, _, _, rfl, hv15, rfl⟩, _, _, rfl, ⟨p4, _, rfl, (e6.trans e7) _ _ q5, _, _, rfl, rfl, _, _, rfl, hv15, rfl⟩, rfl⟩
    · have hpo : p.ok n ∧ p.dep ≤ m := by
        simp only [List.mem_cons, List.not_mem_nil, or_false] at hp
        rcases hp with rfl | rfl | rfl | rfl
        · exact ⟨⟨⟨hc0, hc⟩, ho1, ho2⟩, by simp only [Pt.dep]; omega⟩
        · exact ⟨⟨⟨hc0, hc⟩, ho1⟩, by simp only [Pt.dep]; omega⟩
        · exact ⟨⟨⟨hk0', by omega⟩, ho1⟩, by simp only [Pt.dep]; omega⟩
        · exact ⟨ho1, by simp only [Pt.dep]; omega⟩
      have kp716 := kp715.trans kp16
      exact ⟨L, vs, x, rfl, rfl, kp716 _ _ hL7 hLr, small1000 (by omega), fin p x H16 _ _ _ _ _ _ hpo.1 hpo.2 hx16 hrow16 (kp37.trans kp716)⟩
  · rintro σ H3 ⟨ps, vs, o4, o5, o6, o7, o8, o9, rfl, hL3, hx, ho, hd, hlen, hrow3, kp3⟩
    refine ⟨_, rfl, L, vs, rfl, .inl ⟨SqL.of hL3, fun l hl => ?_⟩⟩
    exact q ps (.ref l) _ ho (by omega) ⟨l, vs, rfl, upd_same, TpL.mono (TK.new hl) _ _ hx⟩ (hrow3.ex (Ex.new hl)) (kp3.trans (Kp.of (Ex.new hl)))
theorem none_pb {f : Addr} {fd : FuncData} : FnOk P w K mg base CX0 2 f fd ["_law_row", "_law_colours", "_law_deep"] (spPb K 0) := by
  have no : ∀ vs H Q E, ¬ spPb K 0 vs H Q E := fun vs H Q E h => by
    obtain ⟨r, s, ns, n, d, _, _, _, _, _, h1, _⟩ := h
    omega
  exact ⟨fun vs H Q E h => absurd h (no vs H Q E), fun A outer s H args us vs Q E _ _ _ _ h => absurd h (no vs H Q E)⟩
theorem all_pb {f : Addr} {fd : FuncData} (F : Fun K "_law_plan_block" "_law_plan_block" sBlock f fd) (B : Blt mg) (GT : Has P w K mg base CX0 1 "_law_taken" ["_law_row", "_law_many"] (spTaken K))
    (GK : Has P w K mg base CX0 2 "_law_pick" ["_law_row", "_law_things"] (spPick K)) (mb : mg "_law_plan_block" = some (.ref f)) (bb : Binds K fd ["_law_row", "_law_colours", "_law_deep"] []) :
    ∀ m, Has P w K mg base CX0 (m + 2) "_law_plan_block" ["_law_row", "_law_colours", "_law_deep"] (spPb K m)
  | 0 => ⟨f, fd, none_pb, mb, F.kp, bb⟩
  | m + 1 => ⟨f, fd, ok_pb F B GT GK (all_pb F B GT GK mb bb m), mb, F.kp, bb⟩
end
end Pk

namespace Pk
open PySem PySem.Spec PyProof.Rows L2 Evl
/-! ### what stands behind a part's word -/
def tails : Pt → List (Option (List Pt))
  | .step => []
  | .stop => []
  | .paint _ => [none]
  | .turn _ => [none]
  | .iff _ a b => [none, some a, some b]
  | .whl _ a => [none, some a]
  | .rep _ a => [none, some a]
  | .fvr a => [some a]
def tcnt : Option (List Pt) → Int
  | none => 0
  | some a => (Pt.cnts a : Int)
theorem cnt_tails (p : Pt) : (p.cnt : Int) = 1 + ((tails p).map tcnt).sum := by
  cases p <;> simp [tails, tcnt, Pt.cnt]
def TlR (H : Hp) : Option (List Pt) → V → Prop
  | none, x => ∃ c, x = .int c
  | some a, x => Tp H (.tuple (Pt.datas a)) x
theorem TlR.mono {H H' : Hp} (k : TK H H') : ∀ {o : Option (List Pt)} {x : V}, TlR H o x → TlR H' o x
  | none, _, h => h
  | some _, _, h => Tp.mono k _ _ h
theorem tails_at {H : Hp} {p : Pt} {b : Addr} (h : Tp H p.data (.ref b)) : ∃ f ts, H b = some (.tup (.str f :: ts)) ∧ ts.length = (tails p).length ∧ ∀ (j : Nat) (x : V), ts[j]? = some x → ∃ o, (tails p)[j]? = some o ∧ TlR H o x := by
  cases p with
  | step =>
    obtain ⟨b', e, h⟩ := tp_one h
    cases e
    exact ⟨_, _, h, rfl, fun j x hj => by simp at hj⟩
  | stop =>
    obtain ⟨b', e, h⟩ := tp_one h
    cases e
    exact ⟨_, _, h, rfl, fun j x hj => by simp at hj⟩
  | paint c =>
    obtain ⟨b', e, h⟩ := tp_int h
    cases e
    exact ⟨_, _, h, rfl, fun j x hj => match j, hj with
      | 0, hj => by cases hj; exact ⟨_, rfl, _, rfl⟩⟩
  | turn c =>
    obtain ⟨b', e, h⟩ := tp_int h
    cases e
    exact ⟨_, _, h, rfl, fun j x hj => match j, hj with
      | 0, hj => by cases hj; exact ⟨_, rfl, _, rfl⟩⟩
  | iff c a d =>
    obtain ⟨b', r1, xs1, r2, xs2, e, h, h1, h2⟩ := tp_two h
    cases e
    exact ⟨_, _, h, rfl, fun j x hj => match j, hj with
      | 0, hj => by cases hj; exact ⟨_, rfl, _, rfl⟩
      | 1, hj => by cases hj; exact ⟨_, rfl, r1, xs1, rfl, h1⟩
      | 2, hj => by cases hj; exact ⟨_, rfl, r2, xs2, rfl, h2⟩⟩
  | whl c a =>
    obtain ⟨b', r1, xs1, e, h, h1⟩ := tp_iblk h
    cases e
    exact ⟨_, _, h, rfl, fun j x hj => match j, hj with
      | 0, hj => by cases hj; exact ⟨_, rfl, _, rfl⟩
      | 1, hj => by cases hj; exact ⟨_, rfl, r1, xs1, rfl, h1⟩⟩
  | rep c a =>
    obtain ⟨b', r1, xs1, e, h, h1⟩ := tp_iblk h
    cases e
    exact ⟨_, _, h, rfl, fun j x hj => match j, hj with
      | 0, hj => by cases hj; exact ⟨_, rfl, _, rfl⟩
      | 1, hj => by cases hj; exact ⟨_, rfl, r1, xs1, rfl, h1⟩⟩
  | fvr a =>
    obtain ⟨b', r1, xs1, e, h, h1⟩ := tp_blk h
    cases e
    exact ⟨_, _, h, rfl, fun j x hj => match j, hj with
      | 0, hj => by cases hj; exact ⟨_, rfl, r1, xs1, rfl, h1⟩⟩
theorem dep_tails {p : Pt} {a : List Pt} {j : Nat} (h : (tails p)[j]? = some (some a)) : Pt.deps a + 1 ≤ p.dep := by
  have hm : some a ∈ tails p := List.mem_of_getElem? h
  cases p with
  | step => simp [tails] at hm
  | stop => simp [tails] at hm
  | paint c => simp [tails] at hm
  | turn c => simp [tails] at hm
  | iff c x y =>
    simp [tails] at hm
    rcases hm with rfl | rfl <;> simp only [Pt.dep] <;> omega
  | whl c x =>
    simp [tails] at hm
    subst hm; simp only [Pt.dep]; omega
  | rep c x =>
    simp [tails] at hm
    subst hm; simp only [Pt.dep]; omega
  | fvr x =>
    simp [tails] at hm
    subst hm; simp only [Pt.dep]; omega
theorem cut_tail (x : V) (ts : List V) : cutV (x :: ts) (some 1) none = ts := by
  have e1 : HT.sIx (x :: ts).length 0 (some 1) = 1 := by
    rw [show (some 1 : Option Int) = some ((1 : Nat) : Int) from rfl, HT.sIx_nat]
    simp
  unfold cutV
  rw [e1, HT.sIx_none]
  show (ts.take (ts.length + 1 - 1)) = ts
  rw [Nat.add_sub_cancel, List.take_length]
theorem cut_some (x : V) (ts : List V) : ¬ (HT.sIx (x :: ts).length 0 (some 1) = 0 ∧ HT.sIx (x :: ts).length (x :: ts).length none = (x :: ts).length) := by
  have e1 : HT.sIx (x :: ts).length 0 (some 1) = 1 := by
    rw [show (some 1 : Option Int) = some ((1 : Nat) : Int) from rfl, HT.sIx_nat]
    simp
  rw [e1]
  omega
section
variable {P : Program} {w : World} {K : PySem.W.Frag} {mg : Str → Option Value} {base : Heap}
/-! ### _law_plan_parts -/
abbrev nsPp : List Str := ["_law_block", "_law_found", "_law_part", "_law_inner"]
theorem scPp : FnScope nsPp ["_law_block"] (defScope sParts) := ⟨rfl, rfl, rfl, by decide +kernel, rfl, by decide +kernel, by decide +kernel⟩
theorem ok_pp {m : Nat} {f : Addr} {fd : FuncData} (F : Fun K "_law_plan_parts" "_law_plan_parts" sParts f fd) (B : Blt mg)
    (GP : Has P w K mg base CX0 (m + 1) "_law_plan_parts" ["_law_block"] (spParts m)) : FnOk P w K mg base CX0 (m + 1 + 1) f fd ["_law_block"] (spParts (m + 1)) := by
  refine F.ok scPp (fun vs H Q E h => ?_) (fun cdv A outer s H vs Q E hr h => ?_)
  · obtain ⟨ps, v, rfl, _⟩ := h
    rfl
  obtain ⟨ps, v, rfl, ⟨a, xs, rfl, ha, hx⟩, hd, q⟩ := h
  refine ⟨_, (pss_cons (ps_set (i := 1) scPp.nd (by rfl) (.inl rfl) pe_int)
    (pss_cons (ps_for PassesOwn.never (by rfl) (pi_tup (pv 0)) (pg_name (i := 2) scPp.nd (by rfl) (.inl rfl)) (pss_cons (ps_set (i := 1) scPp.nd (by rfl) (.inl rfl) (pe_op op_add (pv 1) pe_int))
    (pss_one (ps_for PassesOwn.never (by rfl) (pi_tup (pe_slice sl_tup (pv 2) (po_some pe_int) po_none)) (pg_name (i := 3) scPp.nd (by rfl) (.inl rfl)) (pss_one (ps_set (i := 1) scPp.nd (by rfl) (.inl rfl) (pe_op op_add (pv 1) (pe_ifExp (pt_val (pe_callB call_isi (by rfl) B.isi (by decide +kernel) (pa_cons (pv 3) (pa_cons (pe_bltn (v := .ty "tuple") (u := .type "tuple") (by rfl) B.tup (by decide +kernel) rfl) pa_nil)))) (pe_h GP hr (by rfl) pass0 (pa_cons (pv 3) pa_nil)) pe_int))))))))
    (pss_one (ps_ret (pv 1))))), ?_⟩
  refine ⟨_, rfl, a, rfl, ⟨_, SqT.of ha⟩, for_tup (K := K) (a := a) (xs := xs) (fun i σ H' => ∃ u u2, σ = [some (.ref a), some (.int (Pt.cnts (ps.take i))), u, u2] ∧ Ex H H') ⟨none, none, rfl, Ex.refl H⟩ (fun i σ H' _ ⟨_, _, _, e⟩ => SqT.of (e _ _ ha)) ?_ ?_⟩
  · rintro i x σ H' hi ⟨u, u2, rfl, e1⟩
    obtain ⟨dd, hdi, hxd⟩ := TpL.getV hx hi
    obtain ⟨p, hp, rfl⟩ := datas_get hdi
    have hxt := Tp.mono (TK.of e1) _ _ hxd
    have hdp := deps_get hp
    obtain ⟨b, f0, r0, rfl, _, _⟩ := tp_head hxt
    obtain ⟨f1, ts, hb, hlen, hts⟩ := tails_at hxt
    refine ⟨_, rfl, _, _, rfl, rfl, ?_⟩
    refine ⟨_, rfl, _, rfl, b, _, rfl, SqT.of hb, cut_some _ _, fun p1 hp1 => ?_⟩
    rw [cut_tail]
    have k1 : Ex H' (upd H' p1 (.tup ts)) := Ex.new hp1
    have q1 : (upd H' p1 (.tup ts)) p1 = some (.tup ts) := upd_same
    generalize upd H' p1 (.tup ts) = H1 at k1 q1 ⊢
    refine ⟨p1, rfl, ⟨_, SqT.of q1⟩, for_tup (K := K) (a := p1) (xs := ts) (fun j σ H2 => ∃ u2, σ = [some (.ref a), some (.int ((Pt.cnts (ps.take i) : Int) + 1 + (((tails p).take j).map tcnt).sum)), some (.ref b), u2] ∧ Ex H1 H2) ⟨u2, by simp, Ex.refl H1⟩ (fun j σ H2 _ ⟨_, _, e⟩ => SqT.of (e _ _ q1)) ?_ ?_⟩
    · rintro j y σ H2 hj ⟨u3, rfl, e2⟩
      obtain ⟨o, ho, hy⟩ := hts j y hj
      have hy2 := hy.mono (TK.of (k1.trans e2))
      have tk := take_more ho
      -- the turn's end
      have fin : ∀ (z : Int) (H3 : Hp), z = tcnt o → Ex H2 H3 → ∃ u2, ([some (.ref a), some (.int ((Pt.cnts (ps.take i) : Int) + 1 + (((tails p).take j).map tcnt).sum + z)), some (.ref b), some y] : L2.St) = [some (.ref a), some (.int ((Pt.cnts (ps.take i) : Int) + 1 + (((tails p).take (j + 1)).map tcnt).sum)), some (.ref b), u2] ∧ Ex H1 H3 := by
        intro z H3 hz e3
        refine ⟨some y, ?_, e2.trans e3⟩
        rw [tk, List.map_append, List.sum_append, hz]
        simp only [List.map_cons, List.map_nil, List.sum_cons, List.sum_nil, Int.add_zero, Int.add_assoc]
      cases o with
      | none =>
        obtain ⟨c, rfl⟩ := hy2
        refine ⟨_, rfl, _, rfl, _, _, _, _, _, rfl, .ty "tuple", .base (.int c), kit_ty (r := false) (by decide +kernel), _, rfl, iteF ⟨_, _, rfl, rfl, ?_⟩⟩
        exact fin 0 H2 rfl (Ex.refl _)
      | some bl =>
        have hdb := dep_tails ho
        obtain ⟨c, zs, rfl, hc, hz⟩ : ∃ a xs, y = .ref a ∧ H2 a = some (.tup xs) ∧ TpL H2 (Pt.datas bl) xs := hy2
        refine ⟨_, rfl, _, rfl, _, _, _, _, _, rfl, .ty "tuple", .base (.tup hc), kit_ty (r := true) (by decide +kernel), _, rfl, iteT ?_⟩
        refine ⟨_, rfl, bl, .ref c, rfl, ⟨c, zs, rfl, hc, hz⟩, by omega, fun H3 e3 => ⟨_, _, rfl, rfl, ?_⟩⟩
        exact fin _ H3 rfl e3
    · rintro σ H2 ⟨u3, rfl, e2⟩
      refine ⟨some (.ref b), u3, ?_, e1.trans (k1.trans e2)⟩
      rw [hlen, List.take_length]
      have e := cnt_tails p
      have e' := cnts_take hp
      have e3 : (Pt.cnts (ps.take i) : Int) + 1 + ((tails p).map tcnt).sum = (Pt.cnts (ps.take (i + 1)) : Int) := by
        rw [e']
        omega
      rw [e3]
  · rintro σ H' ⟨u, u2, rfl, e1⟩
    refine ⟨_, rfl, ?_⟩
    have : xs.length = ps.length := by rw [TpL.length hx, datas_len]
    rw [this, List.take_length]
    exact q H' e1
theorem none_pp {f : Addr} {fd : FuncData} : FnOk P w K mg base CX0 1 f fd ["_law_block"] (spParts 0) := by
  have no : ∀ vs H Q E, ¬ spParts 0 vs H Q E := fun vs H Q E h => by
    obtain ⟨ps, v, _, _, h1, _⟩ := h
    omega
  exact ⟨fun vs H Q E h => absurd h (no vs H Q E), fun A outer s H args us vs Q E _ _ _ _ h => absurd h (no vs H Q E)⟩
theorem all_pp {f : Addr} {fd : FuncData} (F : Fun K "_law_plan_parts" "_law_plan_parts" sParts f fd) (B : Blt mg) (mp : mg "_law_plan_parts" = some (.ref f)) (bp : Binds K fd ["_law_block"] []) :
    ∀ m, Has P w K mg base CX0 (m + 1) "_law_plan_parts" ["_law_block"] (spParts m)
  | 0 => ⟨f, fd, none_pp, mp, F.kp, bp⟩
  | m + 1 => ⟨f, fd, ok_pp F B (all_pp F B mp bp m), mp, F.kp, bp⟩
/-! ### _law_plan -/
def spPlan (K : PySem.W.Frag) : Sp := fun vs H Q _ => ∃ (r s : Addr) (ns : List Int), vs = [.ref r] ∧ Row4 K H r s ns ∧ ns.length ≤ 63 ∧
  ∀ (n : Int) (ps : List Pt) (a : Addr) (v : V) (H' : Hp), 2 ≤ n → n ≤ 3 → Pt.oks n ps → Pt.deps ps ≤ 2 → Pt.cnts ps ≤ 60 → H' a = some (.tup [.int n, v]) → Tp H' (.tuple (Pt.datas ps)) v → Kp r H H' → Q (.ref a) H'
abbrev nsPlan : List Str := ["_law_row", "_law_colours", "_law_block"]
theorem scPlan : FnScope nsPlan ["_law_row"] (defScope sPlan) := ⟨rfl, rfl, rfl, by decide +kernel, rfl, by decide +kernel, by decide +kernel⟩
theorem ok_plan {f : Addr} {fd : FuncData} (F : Fun K "_law_plan" "_law_plan" sPlan f fd) (B : Blt mg) (GT : Has P w K mg base CX0 1 "_law_taken" ["_law_row", "_law_many"] (spTaken K))
    (GB : Has P w K mg base CX0 5 "_law_plan_block" ["_law_row", "_law_colours", "_law_deep"] (spPb K 3)) (GP : Has P w K mg base CX0 4 "_law_plan_parts" ["_law_block"] (spParts 3)) :
    FnOk P w K mg base CX0 6 f fd ["_law_row"] (spPlan K) := by
  refine F.ok scPlan (fun vs H Q E h => ?_) (fun cdv A outer s0 H vs Q E hr h => ?_)
  · obtain ⟨r, s, ns, rfl, _⟩ := h
    rfl
  obtain ⟨r, s, ns, rfl, hrow, hns, q⟩ := h
  refine ⟨_, (pss_cons (ps_set (i := 1) scPlan.nd (by rfl) (.inl rfl) (pe_op op_add pe_int (pe_h GT (hr.mono (by decide)) (by rfl) pass0 (pa_cons (pv 0) (pa_cons pe_int pa_nil)))))
    (pss_cons (ps_set (i := 2) scPlan.nd (by rfl) (.inl rfl) (pe_h GB hr (by rfl) pass0 (pa_cons (pv 0) (pa_cons (pv 1) (pa_cons pe_int pa_nil)))))
    (pss_cons (ps_while PassesOwn.never (pt_cmpR op_gt (pe_h GP (hr.mono (by decide)) (by rfl) pass0 (pa_cons (pv 2) pa_nil)) pe_int (nomark _)) (pss_one (ps_set (i := 2) scPlan.nd (by rfl) (.inl rfl) (pe_slice sl_tup (pv 2) (po_some pe_int) po_none))))
    (pss_one (ps_ret (pe_tup (pa_cons (pv 1) (pa_cons (pv 2) pa_nil)))))))), ?_⟩
  refine ⟨_, rfl, r, s, ns, 2, rfl, hrow, by omega, by omega, hns, fun k H1 hk0 hk2 hrow1 kp1 => ⟨_, _, rfl, rfl, ?_⟩⟩
  refine ⟨_, rfl, _, rfl, r, s, ns, 2 + k, 1, rfl, hrow1, hns, by omega, by omega, by omega, by omega, fun ps v H2 ho hd hv hrow2 kp2 => ?_⟩
  refine ⟨fun m σ H' => ∃ (ps : List Pt) (v : V), σ = [some (.ref r), some (.int (2 + k)), some v] ∧ Tp H' (.tuple (Pt.datas ps)) v ∧ Pt.oks (2 + k) ps ∧ Pt.deps ps ≤ 2 ∧ ps.length = m ∧ Kp r H H', ⟨_, ps, v, rfl, hv, ho, by omega, rfl, kp1.trans kp2⟩, ?_⟩
  rintro m σ H3 ⟨ps, v, rfl, hv, ho, hd, hlen, kp3⟩
  refine ⟨_, rfl, ps, v, rfl, hv, by omega, fun H4 e4 => ⟨_, _, rfl, rfl, _, rfl, ite2 (fun c => ?_) (fun c => ?_)⟩⟩
  · have c' : (60 : Int) < (Pt.cnts ps : Int) := of_decide_eq_true c
    obtain ⟨a, xs, rfl, ha, hx⟩ := Tp.mono (TK.of e4) _ _ hv
    cases ps with
    | nil => simp [Pt.cnts] at c'
    | cons p ps =>
      obtain ⟨x, ts, rfl, hxp, hts⟩ : ∃ v vs, xs = v :: vs ∧ Tp H4 p.data v ∧ TpL H4 (Pt.datas ps) vs := hx
      refine ⟨fun σ H' => ∃ (qs : List Pt) (v : V), σ = [some (.ref r), some (.int (2 + k)), some v] ∧ Tp H' (.tuple (Pt.datas qs)) v ∧ Pt.oks (2 + k) qs ∧ Pt.deps qs ≤ 2 ∧ qs.length < m ∧ Kp r H H', fun σ' H' ⟨qs, v, h1, h2, h3, h4, h5, h6⟩ => ⟨qs.length, h5, qs, v, h1, h2, h3, h4, rfl, h6⟩, ?_⟩
      refine ⟨_, rfl, _, rfl, a, _, rfl, SqT.of ha, cut_some _ _, fun p1 hp1 => ?_⟩
      rw [cut_tail]
      simp only [Pt.deps] at hd
      simp only [List.length_cons] at hlen
      exact ⟨ps, .ref p1, rfl, ⟨p1, ts, rfl, upd_same, TpL.mono (TK.new hp1) _ _ hts⟩, ho.2, by omega, by omega, (kp3.trans (Kp.of e4)).trans (Kp.of (Ex.new hp1))⟩
  · have c' : ¬ (60 : Int) < (Pt.cnts ps : Int) := of_decide_eq_false (Bool.eq_false_iff.mpr c)
    refine ⟨_, rfl, _, rfl, (by show 2 ≤ sizeLine; decide), fun p1 hp1 => ?_⟩
    exact q (2 + k) ps p1 v _ (by omega) (by omega) ho hd (by omega) upd_same (Tp.mono (TK.of (e4.trans (Ex.new hp1))) _ _ hv) ((kp3.trans (Kp.of e4)).trans (Kp.of (Ex.new hp1)))
end
end Pk

namespace Pk
open PySem PySem.Spec PyProof.Rows L2 Evl
/-! ### the lines as texts -/
def txts (ls : List (List Str)) : List V := (ls.map (Txt.join " ")).map V.str
theorem txts_append (a b : List (List Str)) : txts (a ++ b) = txts a ++ txts b := by
  unfold txts
  rw [List.map_append, List.map_append]
theorem txts_len (a : List (List Str)) : (txts a).length = a.length := by
  unfold txts
  rw [List.length_map, List.length_map]
theorem join1 (a : Str) : Txt.join " " [a] = a := by
  refine TL.ext_tl ?_
  rw [TL.join_eq, TL.tl_join]
  rfl
theorem join2 (a b : Str) : Txt.join " " [a, b] = (a ++ " ") ++ b := by
  refine TL.ext_tl ?_
  rw [TL.join_eq, TL.tl_join, TL.tl_append, TL.tl_append]
  simp [TL.joinL]
theorem len_app (a b : Str) : (a ++ b).length = a.length + b.length := by
  rw [TL.len_tl, TL.len_tl, TL.len_tl, TL.tl_append, List.length_append]
theorem e_if : ("if " : Str) = "if" ++ " " := by decide +kernel
theorem e_turn : ("turn " : Str) = "turn" ++ " " := by decide +kernel
theorem e_col : ("colours " : Str) = "colours" ++ " " := by decide +kernel
section
variable {P : Program} {w : World} {K : PySem.W.Frag} {mg : Str → Option Value} {base : Heap}
/-! ### _law_plan_lines -/
def spPl (m : Nat) : Sp := fun vs H Q _ => ∃ (n : Int) (ps : List Pt) (v : V), vs = [v] ∧ Tp H (.tuple (Pt.datas ps)) v ∧ n ≤ 6 ∧ Pt.oks n ps ∧ Pt.deps ps + 1 ≤ m ∧ m ≤ 20 ∧ Pt.cnts ps ≤ 60 ∧
  ∀ q H', Ex H H' → H q = none → H' q = some (.lst (txts (Pt.liness ps))) → Q (.ref q) H'
abbrev nsPl : List Str := ["_law_block", "_law_found", "_law_part", "_law_other", "_law_head", "_law_word"]
theorem scPl : FnScope nsPl ["_law_block"] (defScope sPlines) := ⟨rfl, rfl, rfl, by decide +kernel, rfl, by decide +kernel, by decide +kernel⟩
/-- behind i turns the lines of the first i parts lie in a list of this call's own -/
def PlInv (a : Addr) (ps : List Pt) (H : Hp) (i : Nat) (σ : L2.St) (H' : Hp) : Prop :=
  ∃ (l : Addr) (u o g : Option V), σ = [some (.ref a), some (.ref l), u, o, g, none] ∧ Ex H H' ∧ H l = none ∧ H' l = some (.lst (txts (Pt.liness (ps.take i))))
theorem join_room {f : Str} {c : Int} (h0 : 0 ≤ c) (h : c < 10) (hf : f.length ≤ 10) : (([f, num c] : List Str).map (·.length)).sum + ([f, num c] : List Str).length * (" " : Str).length ≤ 16777216 := by
  have e1 := len_num h0 h
  have e3 : (" " : Str).length = 1 := by decide +kernel
  simp only [List.map_cons, List.map_nil, List.sum_cons, List.sum_nil, List.length_cons, List.length_nil, e1, e3]
  omega
theorem ok_pl {m : Nat} {f : Addr} {fd : FuncData} (F : Fun K "_law_plan_lines" "_law_plan_lines" sPlines f fd) (B : Blt mg)
    (GL : Has P w K mg base CX0 (m + 1) "_law_plan_lines" ["_law_block"] (spPl m)) : FnOk P w K mg base CX0 (m + 1 + 1) f fd ["_law_block"] (spPl (m + 1)) := by
  refine F.ok scPl (fun vs H Q E h => ?_) (fun cdv A outer s H vs Q E hr h => ?_)
  · obtain ⟨n, ps, v, rfl, _⟩ := h
    rfl
  obtain ⟨n, ps, v, rfl, ⟨a, xs, rfl, ha, hx⟩, hn, ho, hd, hm20, hc, q⟩ := h
  refine ⟨_, (pss_cons (ps_set (i := 1) scPl.nd (by rfl) (.inl rfl) (pe_lst pa_nil))
    (pss_cons (ps_for PassesOwn.never (by rfl) (pi_tup (pv 0)) (pg_name (i := 2) scPl.nd (by rfl) (.inl rfl)) (pss_one (ps_if (pt_cmpR op_eq (pe_ix ix_tup (pv 2) pe_int (fun _ _ => rfl)) pe_str (nomark _)) (pss_one (ps_expr (pe_bm PySem.F.plainAttrs_list PySem.F.slot_list_append PySem.F.type_list_append mt_append (pv 1) (pa_cons (pe_op op_add_str pe_str (pe_ix ix_list (pe_lst (pa_cons pe_str (pa_cons pe_str (pa_cons pe_str pa_nil)))) (pe_op op_sub (pe_ix ix_tup (pv 2) pe_int (fun _ _ => rfl)) pe_int) (fun _ _ => rfl))) pa_nil)))) (pss_one (ps_if (pt_cmpR op_eq (pe_ix ix_tup (pv 2) pe_int (fun _ _ => rfl)) pe_str (nomark _)) (pss_cons (ps_set (i := 3) scPl.nd (by rfl) (.inl rfl) (pe_ifExp (pt_cmpR (op_neD hr.units) (pe_ix ix_tup (pv 2) pe_int (fun _ _ => rfl)) (pe_tup pa_nil) (nomark _)) (pe_op op_cat (pe_lst (pa_cons pe_str pa_nil)) (pe_h GL hr (by rfl) pass0 (pa_cons (pe_ix ix_tup (pv 2) pe_int (fun _ _ => rfl)) pa_nil))) (pe_lst pa_nil)))
    (pss_one (ps_set (i := 1) scPl.nd (by rfl) (.inl rfl) (pe_op op_cat (pe_op op_cat (pe_op op_cat (pe_op op_cat (pv 1) (pe_lst (pa_cons (pe_op op_add_str pe_str (pe_callTy call_str (by rfl) B.str (by decide +kernel) (pa_cons (pe_ix ix_tup (pv 2) pe_int (fun _ _ => rfl)) pa_nil))) pa_nil))) (pe_h GL hr (by rfl) pass0 (pa_cons (pe_ix ix_tup (pv 2) pe_int (fun _ _ => rfl)) pa_nil))) (pv 3)) (pe_lst (pa_cons pe_str pa_nil)))))) (pss_one (ps_if (pt_cmpR op_in_seq (pe_ix ix_tup (pv 2) pe_int (fun _ _ => rfl)) (pe_lst (pa_cons pe_str (pa_cons pe_str (pa_cons pe_str pa_nil)))) (by rfl)) (pss_cons (ps_set (i := 4) scPl.nd (by rfl) (.inl rfl) (pe_ifExp (pt_cmpR op_eq (pe_ix ix_tup (pv 2) pe_int (fun _ _ => rfl)) pe_str (nomark _)) (pe_ix ix_tup (pv 2) pe_int (fun _ _ => rfl)) (pe_op op_add_str (pe_op op_add_str (pe_ix ix_tup (pv 2) pe_int (fun _ _ => rfl)) pe_str) (pe_callTy call_str (by rfl) B.str (by decide +kernel) (pa_cons (pe_ix ix_tup (pv 2) pe_int (fun _ _ => rfl)) pa_nil)))))
    (pss_one (ps_set (i := 1) scPl.nd (by rfl) (.inl rfl) (pe_op op_cat (pe_op op_cat (pe_op op_cat (pv 1) (pe_lst (pa_cons (pv 4) pa_nil))) (pe_h GL hr (by rfl) pass0 (pa_cons (pe_ix ix_tup (pv 2) (pe_op op_sub (pe_callB call_len_seq (by rfl) B.len (by decide +kernel) (pa_cons (pv 2) pa_nil)) pe_int) (fun _ _ => rfl)) pa_nil))) (pe_lst (pa_cons pe_str pa_nil)))))) (pss_one (ps_expr (pe_bm PySem.F.plainAttrs_list PySem.F.slot_list_append PySem.F.type_list_append mt_append (pv 1) (pa_cons (pe_join pe_str (pe_lc (own := [("_law_word", 5)]) (g := gName 5) (by rfl) scPl.nd (pi_tup (pv 2)) (blkOk_by (own := [("_law_word", 5)]) (N := nsPl) (sc := defScope sPlines) (by decide +kernel)) (fun _ _ _ _ _ => pg_name (i := 5) scPl.nd (by rfl) (Or.inl (by rfl))) (fun _ _ _ _ _ => by exact pts_nil) (fun _ _ _ _ _ => by exact (pe_callTy call_str (by rfl) B.str (by decide +kernel) (pa_cons (pv 5) pa_nil))))) pa_nil)))))))))))
    (pss_one (ps_ret (pv 1))))), ?_⟩
  refine ⟨(by show 0 ≤ sizeLine; decide), fun L hL => ?_⟩
  refine ⟨_, rfl, a, rfl, ⟨_, SqT.of (Ex.new hL _ _ ha)⟩, for_tup (K := K) (a := a) (xs := xs) (PlInv a ps H)
    ⟨L, none, none, none, rfl, Ex.new hL, hL, upd_same⟩ (fun i σ H' _ ⟨_, _, _, _, _, e, _⟩ => SqT.of (e _ _ ha)) ?_ ?_⟩
  · rintro i x σ H' hi ⟨l, u, o, g, rfl, e1, hl0, hl⟩
    obtain ⟨dd, hdi, hxd⟩ := TpL.getV hx hi
    obtain ⟨p, hp, rfl⟩ := datas_get hdi
    have hxt := Tp.mono (TK.of e1) _ _ hxd
    have hop := oks_get ho hp
    have hdp := deps_get hp
    have hcp := cnt_get hp
    have hlen : (txts (Pt.liness (ps.take i))).length ≤ 180 := by
      have h1 := liness_len (ps.take i)
      have h2 := cnts_take_le ps i
      rw [txts_len]
      omega
    obtain ⟨b, f0, r0, rfl, hb, _⟩ := tp_head hxt
    have hT := SqT.of (K := K) hb
    have hln : txts (Pt.liness (ps.take (i + 1))) = txts (Pt.liness (ps.take i)) ++ txts p.lines := by rw [liness_take hp, txts_append]
    -- the end of a turn that appends
    have finA : ∀ (o' g' : Option V) (H2 : Hp), Ex H' H2 → PlInv a ps H (i + 1) [some (.ref a), some (.ref l), some (.ref b), o', g', none] (upd H2 l (.lst (txts (Pt.liness (ps.take i)) ++ txts p.lines))) := by
      intro o' g' H2 e2
      refine ⟨l, _, o', g', rfl, (e1.trans e2).mut hl0, hl0, ?_⟩
      rw [upd_same, hln]
    -- .. that makes a new list
    have finN : ∀ (o' g' : Option V) (l2 : Addr) (H2 : Hp), Ex H' H2 → H' l2 = none → H2 l2 = some (.lst (txts (Pt.liness (ps.take i)) ++ txts p.lines)) →
        PlInv a ps H (i + 1) [some (.ref a), some (.ref l2), some (.ref b), o', g', none] H2 := by
      intro o' g' l2 H2 e2 h0 h1
      refine ⟨l2, _, o', g', rfl, e1.trans e2, fresh_back e1 h0, ?_⟩
      rw [h1, hln]
    -- found = found + [head] + the block's lines + ["end"]
    have loopT : ∀ (hd : Str) (x : List Pt) (r1 : Addr) (zs ts : List V) (H1 : Hp) (o' : Option V), Ex H' H1 → H' b = some (.tup ts) → ts[ts.length - 1]? = some (.ref r1) → H' r1 = some (.tup zs) → TpL H' (Pt.datas x) zs → Pt.oks n x → Pt.deps x + 1 ≤ m → Pt.cnts x ≤ 60 →
        txts p.lines = ([V.str hd] ++ txts (Pt.liness x)) ++ [.str "end"] →
        tAsg (tOp rCat (tOp rCat (tOp rCat (tVar 1) (tLst (tCons (tVar 4) tNil))) (tCall (spPl m) [] E0 (tCons (tOp (rIxT K) (tVar 2) (tOp (rI0 fun i j => .int (i - j)) (tCB (fun xs H Q => ∃ p ys, xs = [.ref p] ∧ (SqL K H p ys ∨ SqT K H p ys) ∧ Q (.int ys.length) H) (tCons (tVar 2) tNil)) (tC (.int 1)))) tNil))) (tLst (tCons (tC (.str "end")) tNil))) (gName 1)
          { nx := PlInv a ps H (i + 1), rt := Q } [some (V.ref a), some (.ref l), some (.ref b), o', some (.str hd), none] H1 := by
      intro hd x r1 zs ts H1 o' k1 hbt hlast hr1 hz ox hdx hcx hpl
      have hpos : ts.length ≠ 0 := by
        intro e
        rw [List.length_eq_zero_iff.mp e] at hlast
        simp at hlast
      have hl1 := k1 _ _ hl
      refine ⟨_, rfl, _, rfl, (by show 1 ≤ sizeLine; decide), fun l1 h1 => ?_⟩
      have k2 : Ex H1 (upd H1 l1 (.lst [.str hd])) := Ex.new h1
      have q1 : (upd H1 l1 (.lst [.str hd])) l1 = some (.lst [.str hd]) := upd_same
      generalize upd H1 l1 (.lst [.str hd]) = H2 at k2 q1 ⊢
      refine ⟨l, l1, _, _, rfl, rfl, k2 _ _ hl1, q1, line180 (by simp; omega), fun l2 h2 => ?_⟩
      have k3 : Ex H2 (upd H2 l2 (.lst (txts (Pt.liness (ps.take i)) ++ [.str hd]))) := Ex.new h2
      have q2 : (upd H2 l2 (.lst (txts (Pt.liness (ps.take i)) ++ [.str hd]))) l2 = some (.lst (txts (Pt.liness (ps.take i)) ++ [.str hd])) := upd_same
      generalize upd H2 l2 (.lst (txts (Pt.liness (ps.take i)) ++ [.str hd])) = H3 at k3 q2 ⊢
      have k03 : Ex H' H3 := k1.trans (k2.trans k3)
      have hT3 := SqT.of (K := K) (k03 _ _ hbt)
      refine ⟨_, rfl, _, rfl, b, ts, rfl, .inr hT3, _, _, rfl, rfl, b, ts, _, .ref r1, rfl, rfl, hT3, atI_of (by omega) ?_, n, x, .ref r1, rfl, ⟨r1, zs, rfl, k03 _ _ hr1, TpL.mono (TK.of k03) _ _ hz⟩, hn, ox, hdx, by omega, hcx, fun l3 H4 e4 h3 q3 => ?_⟩
      · have e : ((ts.length : Int) - 1).toNat = ts.length - 1 := by omega
        rw [e]
        exact hlast
      have hzl := liness_len x
      have hzt := txts_len (Pt.liness x)
      refine ⟨l2, l3, _, _, rfl, rfl, e4 _ _ q2, q3, line180 (by simp; omega), fun l4 h4 => ?_⟩
      have k5 : Ex H4 (upd H4 l4 (.lst (txts (Pt.liness (ps.take i)) ++ [.str hd] ++ txts (Pt.liness x)))) := Ex.new h4
      have q4 : (upd H4 l4 (.lst (txts (Pt.liness (ps.take i)) ++ [.str hd] ++ txts (Pt.liness x)))) l4 = some (.lst (txts (Pt.liness (ps.take i)) ++ [.str hd] ++ txts (Pt.liness x))) := upd_same
      generalize upd H4 l4 (.lst (txts (Pt.liness (ps.take i)) ++ [.str hd] ++ txts (Pt.liness x))) = H5 at k5 q4 ⊢
      refine ⟨(by show 1 ≤ sizeLine; decide), fun l5 h5 => ?_⟩
      have k6 : Ex H5 (upd H5 l5 (.lst [.str "end"])) := Ex.new h5
      refine ⟨l4, l5, _, _, rfl, rfl, k6 _ _ q4, upd_same, line180 (by simp; omega), fun l6 h6 => ?_⟩
      refine finN _ _ l6 _ (k03.trans (e4.trans (k5.trans (k6.trans (Ex.new h6))))) (fresh_back (k03.trans (e4.trans (k5.trans k6))) h6) ?_
      rw [upd_same, hpl]
      simp only [List.append_assoc]
    refine ⟨_, rfl, _, _, 0, .str f0, rfl, rfl, hT, atI_nat (j := 0) rfl, rfl, _, rfl, ?_⟩
    cases p with
  | step =>
    obtain ⟨b', e, h⟩ := tp_one hxt
    cases e
    cases (hb.symm.trans h)
    refine eq_miss (by decide +kernel) ?_
    refine ⟨_, rfl, _, _, 0, _, rfl, rfl, hT, atI_nat (j := 0) rfl, rfl, _, rfl, eq_miss (by decide +kernel) ?_⟩
    refine ⟨_, rfl, _, _, 0, _, rfl, rfl, hT, atI_nat (j := 0) rfl, (by show 3 ≤ sizeLine; decide), fun t ht => ⟨t, _, rfl, .inl (SqL.of upd_same), rfl, rfl, _, rfl, iteF' (by decide +kernel) ?_⟩⟩
    have k1 : Ex H' (upd H' t (.lst [.str "while", .str "repeat", .str "forever"])) := Ex.new ht
    have hb1 := k1 _ _ hb
    have hl1 := k1 _ _ hl
    generalize upd H' t (.lst [.str "while", .str "repeat", .str "forever"]) = H1 at k1 hb1 hl1 ⊢
    refine ⟨_, rfl, .inl ⟨rfl, _, SqL.of hl1⟩, ⟨_, rfl⟩, ?_⟩
    refine rd_strs (K := K) (xs := [.str "step"]) (ws := ["step"]) (by show 5 < 6; decide) (fun R h => ⟨_, rfl, h b H1 (Ex.refl _) hb1⟩) ?_ rfl (by show _ ≤ 1000; decide) (fun D H2 hD e2 hD2 => ?_)
    · intro i x hi
      match i, hi with
      | 0, hi => cases hi; exact ⟨_, rfl, rfl⟩
    · have e := finA o g H2 (k1.trans e2)
      exact ⟨" ", D, ["step"], rfl, rfl, .inl (SqL.of hD2), (by decide +kernel), l, _, _, rfl, rfl, e2 _ _ hl1, small1000 (by omega), e⟩
  | stop =>
    obtain ⟨b', e, h⟩ := tp_one hxt
    cases e
    cases (hb.symm.trans h)
    refine eq_miss (by decide +kernel) ?_
    refine ⟨_, rfl, _, _, 0, _, rfl, rfl, hT, atI_nat (j := 0) rfl, rfl, _, rfl, eq_miss (by decide +kernel) ?_⟩
    refine ⟨_, rfl, _, _, 0, _, rfl, rfl, hT, atI_nat (j := 0) rfl, (by show 3 ≤ sizeLine; decide), fun t ht => ⟨t, _, rfl, .inl (SqL.of upd_same), rfl, rfl, _, rfl, iteF' (by decide +kernel) ?_⟩⟩
    have k1 : Ex H' (upd H' t (.lst [.str "while", .str "repeat", .str "forever"])) := Ex.new ht
    have hb1 := k1 _ _ hb
    have hl1 := k1 _ _ hl
    generalize upd H' t (.lst [.str "while", .str "repeat", .str "forever"]) = H1 at k1 hb1 hl1 ⊢
    refine ⟨_, rfl, .inl ⟨rfl, _, SqL.of hl1⟩, ⟨_, rfl⟩, ?_⟩
    refine rd_strs (K := K) (xs := [.str "stop"]) (ws := ["stop"]) (by show 5 < 6; decide) (fun R h => ⟨_, rfl, h b H1 (Ex.refl _) hb1⟩) ?_ rfl (by show _ ≤ 1000; decide) (fun D H2 hD e2 hD2 => ?_)
    · intro i x hi
      match i, hi with
      | 0, hi => cases hi; exact ⟨_, rfl, rfl⟩
    · have e := finA o g H2 (k1.trans e2)
      exact ⟨" ", D, ["stop"], rfl, rfl, .inl (SqL.of hD2), (by decide +kernel), l, _, _, rfl, rfl, e2 _ _ hl1, small1000 (by omega), e⟩
  | paint c =>
    obtain ⟨b', e, h⟩ := tp_int hxt
    cases e
    cases (hb.symm.trans h)
    obtain ⟨h0, h1⟩ : 0 ≤ c ∧ c < n := hop
    refine eq_miss (by decide +kernel) ?_
    refine ⟨_, rfl, _, _, 0, _, rfl, rfl, hT, atI_nat (j := 0) rfl, rfl, _, rfl, eq_miss (by decide +kernel) ?_⟩
    refine ⟨_, rfl, _, _, 0, _, rfl, rfl, hT, atI_nat (j := 0) rfl, (by show 3 ≤ sizeLine; decide), fun t ht => ⟨t, _, rfl, .inl (SqL.of upd_same), rfl, rfl, _, rfl, iteF' (by decide +kernel) ?_⟩⟩
    have k1 : Ex H' (upd H' t (.lst [.str "while", .str "repeat", .str "forever"])) := Ex.new ht
    have hb1 := k1 _ _ hb
    have hl1 := k1 _ _ hl
    generalize upd H' t (.lst [.str "while", .str "repeat", .str "forever"]) = H1 at k1 hb1 hl1 ⊢
    refine ⟨_, rfl, .inl ⟨rfl, _, SqL.of hl1⟩, ⟨_, rfl⟩, ?_⟩
    refine rd_strs (K := K) (xs := [.str "paint", .int c]) (ws := ["paint", num c]) (by show 5 < 6; decide) (fun R h => ⟨_, rfl, h b H1 (Ex.refl _) hb1⟩) ?_ rfl (by show 2 ≤ 1000; decide) (fun D H2 hD e2 hD2 => ?_)
    · intro i x hi
      match i, hi with
      | 0, hi => cases hi; exact ⟨_, rfl, rfl⟩
      | 1, hi => cases hi; exact ⟨_, rfl, rfl, log_small h0 (by omega)⟩
    · have e := finA o g H2 (k1.trans e2)
      exact ⟨" ", D, ["paint", num c], rfl, rfl, .inl (SqL.of hD2), join_room h0 (by omega) (by decide +kernel), l, _, _, rfl, rfl, e2 _ _ hl1, small1000 (by omega), e⟩
  | turn c =>
    obtain ⟨b', e, h⟩ := tp_int hxt
    cases e
    cases (hb.symm.trans h)
    obtain ⟨h1, h3⟩ : 1 ≤ c ∧ c ≤ 3 := hop
    refine eq_hit ?_
    refine ⟨_, rfl, .inl ⟨rfl, _, SqL.of hl⟩, ?_⟩
    refine ⟨(by show 3 ≤ sizeLine; decide), fun t ht => ⟨_, rfl, _, _, 1, .int c, rfl, rfl, SqT.of (Ex.new ht _ _ hb), atI_nat (j := 1) rfl, _, _, rfl, rfl, t, _, c - 1, _, rfl, rfl, SqL.of upd_same, dir_at h1 h3, _, _, rfl, rfl, ?_, ?_⟩⟩
    · have e1 := dir_len c
      have e2 : ("turn " : Str).length = 5 := by decide +kernel
      exact line180 (by omega)
    · have e := finA o g _ (Ex.new ht (o := .lst [.str "right", .str "back", .str "left"]))
      rw [show txts (Pt.turn c).lines = [V.str ("turn " ++ dirT c)] by simp only [Pt.lines, txts, List.map_cons, List.map_nil, join2]; rw [e_turn]] at e
      exact ⟨l, _, _, rfl, rfl, Ex.new ht _ _ hl, small1000 (by omega), e⟩
  | iff c x y =>
    obtain ⟨b', r1, xs1, r2, xs2, e, h, ⟨hx1, hx1'⟩, hy1, hy1'⟩ := tp_two hxt
    cases e
    cases (hb.symm.trans h)
    obtain ⟨⟨h0, h1⟩, ox, oy⟩ : (0 ≤ c ∧ c < n) ∧ Pt.oks n x ∧ Pt.oks n y := hop
    simp only [Pt.dep] at hdp
    simp only [Pt.cnt] at hcp
    refine eq_miss (by decide +kernel) ?_
    refine ⟨_, rfl, _, _, 0, _, rfl, rfl, hT, atI_nat (j := 0) rfl, rfl, _, rfl, eq_hit ?_⟩
    have tail : ∀ (lo : Addr) (H1 : Hp), Ex H' H1 → H1 lo = some (.lst (txts (elseL y))) → (elseL y).length ≤ 1 + 3 * Pt.cnts y →
        tAsg (tOp rCat (tOp rCat (tOp rCat (tOp rCat (tVar 1) (tLst (tCons (tOp (fun x y H Q => ∃ i j, x = .str i ∧ y = .str j ∧ i.length + j.length ≤ sizeLine ∧ Q (.str (i ++ j)) H) (tC (.str "if ")) (tCB rStr (tCons (tOp (rIxT K) (tVar 2) (tC (.int 1))) tNil))) tNil)))
          (tCall (spPl m) [] E0 (tCons (tOp (rIxT K) (tVar 2) (tC (.int 2))) tNil))) (tVar 3)) (tLst (tCons (tC (.str "end")) tNil))) (gName 1)
          { nx := PlInv a ps H (i + 1), rt := Q } [some (V.ref a), some (.ref l), some (.ref b), some (.ref lo), g, none] H1 := by
      intro lo H1 k1 hlo hlol
      have hl1 := k1 _ _ hl
      have hb1 := k1 _ _ hb
      have el := txts_len (elseL y)
      refine ⟨_, rfl, _, rfl, _, _, 1, .int c, rfl, rfl, SqT.of hb1, atI_nat (j := 1) rfl, .inl ⟨c, rfl, log_small h0 (by omega), _, _, rfl, rfl, ?_, (by show 1 ≤ sizeLine; decide), fun l1 h1 => ?_⟩⟩
      · have e1 := len_num h0 (show c < 10 by omega)
        have e2 : ("if " : Str).length ≤ 10 := by decide +kernel
        exact line180 (Nat.le_trans (Nat.add_le_add e2 (Nat.le_of_eq e1)) (by decide))
      have k2 : Ex H1 (upd H1 l1 (.lst [.str ("if " ++ Str.ofString (toString c))])) := Ex.new h1
      have q1 : (upd H1 l1 (.lst [.str ("if " ++ Str.ofString (toString c))])) l1 = some (.lst [.str ("if " ++ num c)]) := upd_same
      generalize upd H1 l1 (.lst [.str ("if " ++ Str.ofString (toString c))]) = H2 at k2 q1 ⊢
      refine ⟨l, l1, _, _, rfl, rfl, k2 _ _ hl1, q1, line180 (by simp; omega), fun l2 h2 => ?_⟩
      have k3 : Ex H2 (upd H2 l2 (.lst (txts (Pt.liness (ps.take i)) ++ [.str ("if " ++ num c)]))) := Ex.new h2
      have q2 : (upd H2 l2 (.lst (txts (Pt.liness (ps.take i)) ++ [.str ("if " ++ num c)]))) l2 = some (.lst (txts (Pt.liness (ps.take i)) ++ [.str ("if " ++ num c)])) := upd_same
      generalize upd H2 l2 (.lst (txts (Pt.liness (ps.take i)) ++ [.str ("if " ++ num c)])) = H3 at k3 q2 ⊢
      have k03 : Ex H' H3 := k1.trans (k2.trans k3)
      refine ⟨_, rfl, _, _, 2, .ref r1, rfl, rfl, SqT.of (k03 _ _ hb), atI_nat (j := 2) rfl, n, x, .ref r1, rfl, ⟨r1, xs1, rfl, k03 _ _ hx1, TpL.mono (TK.of k03) _ _ hx1'⟩, hn, ox, by omega, by omega, by omega, fun l3 H4 e4 h3 q3 => ?_⟩
      have hzl := liness_len x
      have hzt := txts_len (Pt.liness x)
      refine ⟨l2, l3, _, _, rfl, rfl, e4 _ _ q2, q3, line180 (by simp; omega), fun l4 h4 => ?_⟩
      have k5 : Ex H4 (upd H4 l4 (.lst (txts (Pt.liness (ps.take i)) ++ [.str ("if " ++ num c)] ++ txts (Pt.liness x)))) := Ex.new h4
      have q4 : (upd H4 l4 (.lst (txts (Pt.liness (ps.take i)) ++ [.str ("if " ++ num c)] ++ txts (Pt.liness x)))) l4 = some (.lst (txts (Pt.liness (ps.take i)) ++ [.str ("if " ++ num c)] ++ txts (Pt.liness x))) := upd_same
      generalize upd H4 l4 (.lst (txts (Pt.liness (ps.take i)) ++ [.str ("if " ++ num c)] ++ txts (Pt.liness x))) = H5 at k5 q4 ⊢
      have k15 : Ex H1 H5 := k2.trans (k3.trans (e4.trans k5))
      refine ⟨_, rfl, l4, lo, _, _, rfl, rfl, q4, k15 _ _ hlo, line180 (by simp; omega), fun l5 h5 => ?_⟩
      have k6 : Ex H5 (upd H5 l5 (.lst (txts (Pt.liness (ps.take i)) ++ [.str ("if " ++ num c)] ++ txts (Pt.liness x) ++ txts (elseL y)))) := Ex.new h5
      have q5 : (upd H5 l5 (.lst (txts (Pt.liness (ps.take i)) ++ [.str ("if " ++ num c)] ++ txts (Pt.liness x) ++ txts (elseL y)))) l5 = some (.lst (txts (Pt.liness (ps.take i)) ++ [.str ("if " ++ num c)] ++ txts (Pt.liness x) ++ txts (elseL y))) := upd_same
      generalize upd H5 l5 (.lst (txts (Pt.liness (ps.take i)) ++ [.str ("if " ++ num c)] ++ txts (Pt.liness x) ++ txts (elseL y))) = H6 at k6 q5 ⊢
      refine ⟨(by show 1 ≤ sizeLine; decide), fun l6 h6 => ?_⟩
      have k7 : Ex H6 (upd H6 l6 (.lst [.str "end"])) := Ex.new h6
      refine ⟨l5, l6, _, _, rfl, rfl, k7 _ _ q5, upd_same, line180 (by simp; omega), fun l7 h7 => ?_⟩
      have k06 := (k1.trans k15).trans (k6.trans k7)
      refine finN _ _ l7 _ (k06.trans (Ex.new h7)) (fresh_back k06 h7) ?_
      have e0 : (Pt.iff c x y).lines = (([(["if", num c] : List Str)] ++ Pt.liness x) ++ elseL y) ++ [[("end" : Str)]] := by
        cases y <;> simp [Pt.lines, elseL]
      have e1 : txts [(["if", num c] : List Str)] = [.str ("if " ++ num c)] := by
        simp only [txts, List.map_cons, List.map_nil, join2]
        rw [e_if]
      have e2 : txts [[("end" : Str)]] = [.str "end"] := by simp only [txts, List.map_cons, List.map_nil, join1]
      rw [upd_same, e0, txts_append, txts_append, txts_append, e1, e2]
      simp only [List.append_assoc]
    refine ⟨_, rfl, _, _, 3, .ref r2, rfl, rfl, hT, atI_nat (j := 3) rfl, (by show 0 ≤ sizeLine; decide), fun t2 ht2 => ?_⟩
    have k2 : Ex H' (upd H' t2 (.tup [])) := Ex.new ht2
    have q2 : (upd H' t2 (.tup [])) t2 = some (.tup []) := upd_same
    generalize upd H' t2 (.tup []) = H2 at k2 q2 ⊢
    have hy2 := k2 _ _ hy1
    have hy2' := TpL.mono (TK.of k2) _ _ hy1'
    refine ⟨.tuple (Pt.datas y), .tuple [], Tp.dp (.tuple (Pt.datas y)) _ ⟨r2, xs2, rfl, hy2, hy2'⟩, .tup (SqT.of q2) .nil, shaped_block (by omega), by decide +kernel, _, rfl, ?_⟩
    cases y with
    | nil =>
      refine iteF' (by decide +kernel) ⟨(by show 0 ≤ sizeLine; decide), fun lo hlo => ?_⟩
      exact tail lo _ (k2.trans (Ex.new hlo)) upd_same (by simp [elseL])
    | cons y0 yr =>
      refine iteT' (by simp [Pt.datas, PyData.eqv, PyData.eqvAll]) ?_
      refine ⟨(by show 1 ≤ sizeLine; decide), fun l1 h1 => ?_⟩
      have k3 : Ex H2 (upd H2 l1 (.lst [.str "else"])) := Ex.new h1
      have q1 : (upd H2 l1 (.lst [.str "else"])) l1 = some (.lst [.str "else"]) := upd_same
      generalize upd H2 l1 (.lst [.str "else"]) = H3 at k3 q1 ⊢
      have k03 : Ex H' H3 := k2.trans k3
      refine ⟨_, rfl, _, _, 3, .ref r2, rfl, rfl, SqT.of (k03 _ _ hb), atI_nat (j := 3) rfl, n, y0 :: yr, .ref r2, rfl, ⟨r2, xs2, rfl, k03 _ _ hy1, TpL.mono (TK.of k03) _ _ hy1'⟩, hn, oy, by omega, by omega, by omega, fun l3 H5 e5 h3 q4 => ?_⟩
      have hzl2 := liness_len (y0 :: yr)
      have hzt := txts_len (Pt.liness (y0 :: yr))
      refine ⟨l1, l3, _, _, rfl, rfl, e5 _ _ q1, q4, line180 (by simp; omega), fun lo hlo => ?_⟩
      refine tail lo _ (k03.trans (e5.trans (Ex.new hlo))) ?_ (by simp only [elseL, List.length_cons]; omega)
      have e1 : txts (elseL (y0 :: yr)) = [.str "else"] ++ txts (Pt.liness (y0 :: yr)) := by
        simp only [elseL, txts, List.map_cons, join1]
        rfl
      rw [upd_same, e1]
  | whl c x =>
    obtain ⟨b', r1, xs1, e, h, hx1, hx1'⟩ := tp_iblk hxt
    cases e
    cases (hb.symm.trans h)
    obtain ⟨⟨h0, h1⟩, ox⟩ : (0 ≤ c ∧ c < n) ∧ Pt.oks n x := hop
    simp only [Pt.dep] at hdp
    simp only [Pt.cnt] at hcp
    refine eq_miss (by decide +kernel) ?_
    refine ⟨_, rfl, _, _, 0, _, rfl, rfl, hT, atI_nat (j := 0) rfl, rfl, _, rfl, eq_miss (by decide +kernel) ?_⟩
    refine ⟨_, rfl, _, _, 0, _, rfl, rfl, hT, atI_nat (j := 0) rfl, (by show 3 ≤ sizeLine; decide), fun t ht => ⟨t, _, rfl, .inl (SqL.of upd_same), rfl, rfl, _, rfl, iteT' (by decide +kernel) ?_⟩⟩
    have k1 : Ex H' (upd H' t (.lst [.str "while", .str "repeat", .str "forever"])) := Ex.new ht
    have hb1 := k1 _ _ hb
    have hl1 := k1 _ _ hl
    generalize upd H' t (.lst [.str "while", .str "repeat", .str "forever"]) = H1 at k1 hb1 hl1 ⊢
    refine ⟨_, rfl, _, _, 0, _, rfl, rfl, SqT.of hb1, atI_nat (j := 0) rfl, rfl, _, rfl, eq_miss (by decide +kernel) ?_⟩
    refine ⟨_, rfl, _, _, 0, _, rfl, rfl, SqT.of hb1, atI_nat (j := 0) rfl, _, _, rfl, rfl, (by decide +kernel), _, rfl, _, _, 1, .int c, rfl, rfl, SqT.of hb1, atI_nat (j := 1) rfl, .inl ⟨c, rfl, log_small h0 (by omega), _, _, rfl, rfl, ?_, ?_⟩⟩
    · have e1 := len_num h0 (show c < 10 by omega)
      have e2 : ("while" ++ " " : Str).length ≤ 10 := by decide +kernel
      exact line180 (Nat.le_trans (Nat.add_le_add e2 (Nat.le_of_eq e1)) (by decide))
    · exact loopT (("while" ++ " ") ++ num c) x r1 xs1 _ H1 o k1 hb rfl hx1 hx1' ox (by omega) (by omega) (by simp only [Pt.lines, txts, List.map_cons, List.map_append, List.map_nil, join1, join2]; rfl)
  | rep c x =>
    obtain ⟨b', r1, xs1, e, h, hx1, hx1'⟩ := tp_iblk hxt
    cases e
    cases (hb.symm.trans h)
    obtain ⟨⟨h0, h1⟩, ox⟩ : (0 ≤ c ∧ c ≤ 8) ∧ Pt.oks n x := hop
    simp only [Pt.dep] at hdp
    simp only [Pt.cnt] at hcp
    refine eq_miss (by decide +kernel) ?_
    refine ⟨_, rfl, _, _, 0, _, rfl, rfl, hT, atI_nat (j := 0) rfl, rfl, _, rfl, eq_miss (by decide +kernel) ?_⟩
    refine ⟨_, rfl, _, _, 0, _, rfl, rfl, hT, atI_nat (j := 0) rfl, (by show 3 ≤ sizeLine; decide), fun t ht => ⟨t, _, rfl, .inl (SqL.of upd_same), rfl, rfl, _, rfl, iteT' (by decide +kernel) ?_⟩⟩
    have k1 : Ex H' (upd H' t (.lst [.str "while", .str "repeat", .str "forever"])) := Ex.new ht
    have hb1 := k1 _ _ hb
    have hl1 := k1 _ _ hl
    generalize upd H' t (.lst [.str "while", .str "repeat", .str "forever"]) = H1 at k1 hb1 hl1 ⊢
    refine ⟨_, rfl, _, _, 0, _, rfl, rfl, SqT.of hb1, atI_nat (j := 0) rfl, rfl, _, rfl, eq_miss (by decide +kernel) ?_⟩
    refine ⟨_, rfl, _, _, 0, _, rfl, rfl, SqT.of hb1, atI_nat (j := 0) rfl, _, _, rfl, rfl, (by decide +kernel), _, rfl, _, _, 1, .int c, rfl, rfl, SqT.of hb1, atI_nat (j := 1) rfl, .inl ⟨c, rfl, log_small h0 (by omega), _, _, rfl, rfl, ?_, ?_⟩⟩
    · have e1 := len_num h0 (show c < 10 by omega)
      have e2 : ("repeat" ++ " " : Str).length ≤ 10 := by decide +kernel
      exact line180 (Nat.le_trans (Nat.add_le_add e2 (Nat.le_of_eq e1)) (by decide))
    · exact loopT (("repeat" ++ " ") ++ num c) x r1 xs1 _ H1 o k1 hb rfl hx1 hx1' ox (by omega) (by omega) (by simp only [Pt.lines, txts, List.map_cons, List.map_append, List.map_nil, join1, join2]; rfl)
  | fvr x =>
    obtain ⟨b', r1, xs1, e, h, hx1, hx1'⟩ := tp_blk hxt
    cases e
    cases (hb.symm.trans h)
    have ox : Pt.oks n x := hop
    simp only [Pt.dep] at hdp
    simp only [Pt.cnt] at hcp
    refine eq_miss (by decide +kernel) ?_
    refine ⟨_, rfl, _, _, 0, _, rfl, rfl, hT, atI_nat (j := 0) rfl, rfl, _, rfl, eq_miss (by decide +kernel) ?_⟩
    refine ⟨_, rfl, _, _, 0, _, rfl, rfl, hT, atI_nat (j := 0) rfl, (by show 3 ≤ sizeLine; decide), fun t ht => ⟨t, _, rfl, .inl (SqL.of upd_same), rfl, rfl, _, rfl, iteT' (by decide +kernel) ?_⟩⟩
    have k1 : Ex H' (upd H' t (.lst [.str "while", .str "repeat", .str "forever"])) := Ex.new ht
    have hb1 := k1 _ _ hb
    have hl1 := k1 _ _ hl
    generalize upd H' t (.lst [.str "while", .str "repeat", .str "forever"]) = H1 at k1 hb1 hl1 ⊢
    refine ⟨_, rfl, _, _, 0, _, rfl, rfl, SqT.of hb1, atI_nat (j := 0) rfl, rfl, _, rfl, eq_hit ?_⟩
    refine ⟨_, rfl, _, _, 0, _, rfl, rfl, SqT.of hb1, atI_nat (j := 0) rfl, ?_⟩
    exact loopT "forever" x r1 xs1 _ H1 o k1 hb rfl hx1 hx1' ox (by omega) (by omega) (by simp only [Pt.lines, txts, List.map_cons, List.map_append, List.map_nil, join1]; rfl)
  · rintro σ H' ⟨l, u, o, g, rfl, e1, hl0, hl⟩
    refine ⟨_, rfl, ?_⟩
    have : xs.length = ps.length := by rw [TpL.length hx, datas_len]
    rw [this, List.take_length] at hl
    exact q l H' e1 hl0 hl
theorem none_pl {f : Addr} {fd : FuncData} : FnOk P w K mg base CX0 1 f fd ["_law_block"] (spPl 0) := by
  have no : ∀ vs H Q E, ¬ spPl 0 vs H Q E := fun vs H Q E h => by
    obtain ⟨n, ps, v, _, _, _, _, h1, _⟩ := h
    omega
  exact ⟨fun vs H Q E h => absurd h (no vs H Q E), fun A outer s H args us vs Q E _ _ _ _ h => absurd h (no vs H Q E)⟩
theorem all_pl {f : Addr} {fd : FuncData} (F : Fun K "_law_plan_lines" "_law_plan_lines" sPlines f fd) (B : Blt mg) (mp : mg "_law_plan_lines" = some (.ref f)) (bp : Binds K fd ["_law_block"] []) :
    ∀ m, Has P w K mg base CX0 (m + 1) "_law_plan_lines" ["_law_block"] (spPl m)
  | 0 => ⟨f, fd, none_pl, mp, F.kp, bp⟩
  | m + 1 => ⟨f, fd, ok_pl F B (all_pl F B mp bp m), mp, F.kp, bp⟩
end
end Pk

namespace Pk
open PySem PySem.Spec PyProof.Rows L2 Evl
mutual
/-- no tuple within is long -/
def fits : PyData → Prop
  | .tuple ds => ds.length ≤ 1000 ∧ fitsL ds
  | .none => True
  | .bool _ => True
  | .int _ => True
  | .str _ => True
  | .list _ => True
  | .dict _ => True
def fitsL : List PyData → Prop
  | [] => True
  | d :: ds => fits d ∧ fitsL ds
end
theorem fits_get : ∀ {ds : List PyData} {i : Nat} {d : PyData}, fitsL ds → ds[i]? = some d → fits d
  | [], _, _, _, h => by simp at h
  | e :: ds, 0, d, hf, h => by
    have q : e = d := Option.some.inj h
    rw [← q]
    exact hf.1
  | e :: ds, i + 1, d, hf, h => fits_get (ds := ds) (i := i) hf.2 h
theorem cnt_pos (p : Pt) : 1 ≤ p.cnt := by cases p <;> simp [Pt.cnt]
theorem len_le_cnts : ∀ ps : List Pt, ps.length ≤ Pt.cnts ps
  | [] => Nat.zero_le _
  | p :: r => by
    have h1 := cnt_pos p
    have h2 := len_le_cnts r
    rw [Pt.cnts, List.length_cons]
    omega
mutual
theorem fits_pt : ∀ p : Pt, p.cnt ≤ 1000 → fits p.data
  | .step, _ => ⟨by decide, trivial, trivial⟩
  | .stop, _ => ⟨by decide, trivial, trivial⟩
  | .paint c, _ => ⟨by show 2 ≤ 1000; decide, trivial, trivial, trivial⟩
  | .turn c, _ => ⟨by show 2 ≤ 1000; decide, trivial, trivial, trivial⟩
  | .iff c a b, h => by
    simp only [Pt.cnt] at h
    have h1 := len_le_cnts a
    have h2 := len_le_cnts b
    exact ⟨by show 4 ≤ 1000; decide, trivial, trivial, ⟨by rw [datas_len]; omega, fits_pts a (by omega)⟩, ⟨by rw [datas_len]; omega, fits_pts b (by omega)⟩, trivial⟩
  | .whl c a, h => by
    simp only [Pt.cnt] at h
    have h1 := len_le_cnts a
    exact ⟨by show 3 ≤ 1000; decide, trivial, trivial, ⟨by rw [datas_len]; omega, fits_pts a (by omega)⟩, trivial⟩
  | .rep c a, h => by
    simp only [Pt.cnt] at h
    have h1 := len_le_cnts a
    exact ⟨by show 3 ≤ 1000; decide, trivial, trivial, ⟨by rw [datas_len]; omega, fits_pts a (by omega)⟩, trivial⟩
  | .fvr a, h => by
    simp only [Pt.cnt] at h
    have h1 := len_le_cnts a
    exact ⟨by show 2 ≤ 1000; decide, trivial, ⟨by rw [datas_len]; omega, fits_pts a (by omega)⟩, trivial⟩
theorem fits_pts : ∀ ps : List Pt, Pt.cnts ps ≤ 1000 → fitsL (Pt.datas ps)
  | [], _ => trivial
  | p :: r, h => by
    rw [Pt.cnts] at h
    exact ⟨fits_pt p (by omega), fits_pts r (by omega)⟩
end
section
variable {P : Program} {w : World} {K : PySem.W.Frag} {mg : Str → Option Value} {base : Heap}
/-! ### _law_alike: two values of the same data -/
def spAl (m : Nat) : Sp := fun vs H Q _ => ∃ (d : PyData) (v u : V), vs = [v, u] ∧ Tp H d v ∧ Tp H d u ∧ d.depth + 1 ≤ m ∧ fits d ∧ ∀ H', Ex H H' → Q (.bl true) H'
abbrev nsAl : List Str := ["_law_found", "_law_due", "_law_k"]
theorem scAl : FnScope nsAl ["_law_found", "_law_due"] (defScope sAlike) := ⟨rfl, rfl, rfl, by decide +kernel, rfl, by decide +kernel, by decide +kernel⟩
theorem depth_get : ∀ {ds : List PyData} {i : Nat} {d : PyData}, ds[i]? = some d → d.depth ≤ PyData.depthAll ds
  | [], _, _, h => by simp at h
  | e :: ds, 0, d, h => by
    have q : e = d := Option.some.inj h
    rw [← q, PyData.depthAll]
    omega
  | e :: ds, i + 1, d, h => by
    have ih := depth_get (ds := ds) (i := i) h
    rw [PyData.depthAll]
    omega
theorem kit2 {K : PySem.W.Frag} {a : String} {b c r : Bool} (h1 : kitB a "tuple" = some b) (h2 : kitB a "list" = some c) (hr : r = (b || c)) : PySem.W.kitAny K (.type a) [.type "tuple", .type "list"] = some r := by
  subst hr
  refine kitAny_cons (kit_ty h1) (fun hb => ?_) (fun hb => by rw [hb]; rfl)
  rw [hb, Bool.false_or]
  refine kitAny_cons (kit_ty h2) (fun hc => ?_) (fun hc => hc)
  rw [hc]
  exact kitAny_nil
theorem prd : Paired ClsV [.ty "tuple", .ty "list"] [.type "tuple", .type "list"] := .cons (.ty "tuple") (.cons (.ty "list") .nil)
theorem ok_alike {m : Nat} {f : Addr} {fd : FuncData} (F : Fun K "_law_alike" "_law_alike" sAlike f fd) (B : Blt mg)
    (GA : Has P w K mg base CX0 (m + 1) "_law_alike" ["_law_found", "_law_due"] (spAl m)) : FnOk P w K mg base CX0 (m + 1 + 1) f fd ["_law_found", "_law_due"] (spAl (m + 1)) := by
  refine F.ok scAl (fun vs H Q E h => ?_) (fun cdv A outer s H vs Q E hr h => ?_)
  · obtain ⟨d, v, u, rfl, _⟩ := h
    rfl
  obtain ⟨d, v, u, rfl, hv, hu, hd, hfit, q⟩ := h
  refine ⟨_, (pss_cons (ps_if (pt_val (pe_callB call_isiT (by rfl) B.isi (by decide +kernel) (pa_cons (pv 1) (pa_cons (pe_tup (pa_cons (pe_bltn (v := .ty "tuple") (u := .type "tuple") (by rfl) B.tup (by decide +kernel) rfl) (pa_cons (pe_bltn (v := .ty "list") (u := .type "list") (by rfl) B.list (by decide +kernel) rfl) pa_nil))) pa_nil)))) (pss_cons (ps_if (PW.pt (pw_or (pt_not (pt_val (pe_callB call_isiT (by rfl) B.isi (by decide +kernel) (pa_cons (pv 0) (pa_cons (pe_tup (pa_cons (pe_bltn (v := .ty "tuple") (u := .type "tuple") (by rfl) B.tup (by decide +kernel) rfl) (pa_cons (pe_bltn (v := .ty "list") (u := .type "list") (by rfl) B.list (by decide +kernel) rfl) pa_nil))) pa_nil))))) (pw_or1 (pt_cmpR op_ne (pe_callB call_isi (by rfl) B.isi (by decide +kernel) (pa_cons (pv 0) (pa_cons (pe_bltn (v := .ty "list") (u := .type "list") (by rfl) B.list (by decide +kernel) rfl) pa_nil))) (pe_callB call_isi (by rfl) B.isi (by decide +kernel) (pa_cons (pv 1) (pa_cons (pe_bltn (v := .ty "list") (u := .type "list") (by rfl) B.list (by decide +kernel) rfl) pa_nil))) (nomark _))))) (pss_one (ps_ret pe_bl)) pss_nil)
    (pss_cons (ps_if (pt_cmpR op_ne (pe_callB call_len_seq (by rfl) B.len (by decide +kernel) (pa_cons (pv 0) pa_nil)) (pe_callB call_len_seq (by rfl) B.len (by decide +kernel) (pa_cons (pv 1) pa_nil)) (nomark _)) (pss_one (ps_ret pe_bl)) pss_nil)
    (pss_one (ps_ret (pe_cmpR (op_eqD hr.units) (pe_lc (own := [("_law_k", 2)]) (g := gName 2) (tt := (tNot (tB (tCall (spAl m) [] E0 (tCons (tOp (rIxT K) (tVar 0) (tVar 2)) (tCons (tOp (rIxT K) (tVar 1) (tVar 2)) tNil)))))) (by rfl) scAl.nd (pi_range1 (by rfl) B.range (pa_cons (pe_callB call_len_seq (by rfl) B.len (by decide +kernel) (pa_cons (pv 1) pa_nil)) pa_nil)) (blkOk_by (own := [("_law_k", 2)]) (N := nsAl) (sc := defScope sAlike) (by decide +kernel)) (fun _ _ _ _ _ => pg_name (i := 2) scAl.nd (by rfl) (Or.inl (by rfl))) (fun _ _ _ _ _ => by exact (pts_one (pt_not (pt_val (pe_h GA hr (by rfl) pass0 (pa_cons (pe_ix ix_tup (pv 0) (pv 2) (fun _ _ => rfl)) (pa_cons (pe_ix ix_tup (pv 1) (pv 2) (fun _ _ => rfl)) pa_nil))))))) (fun _ _ _ _ _ => by exact (pv 2))) (pe_lst pa_nil) (nomark _)))))) pss_nil)
    (pss_cons (ps_if (PW.pt (pw_or (pt_cmpR op_isN (pv 1) pe_non (nomark _)) (pw_or1 (pt_val (pe_callB call_isi (by rfl) B.isi (by decide +kernel) (pa_cons (pv 1) (pa_cons (pe_bltn (v := .ty "str") (u := .type "str") (by rfl) B.str (by decide +kernel) rfl) pa_nil))))))) (pss_one (ps_ret (pe_and (pe_cmpR op_eq (pv 0) (pv 1) (nomark _)) (pe_one (pe_cmpR op_eq (pe_callB call_isi (by rfl) B.isi (by decide +kernel) (pa_cons (pv 0) (pa_cons (pe_bltn (v := .ty "str") (u := .type "str") (by rfl) B.str (by decide +kernel) rfl) pa_nil))) (pe_callB call_isi (by rfl) B.isi (by decide +kernel) (pa_cons (pv 1) (pa_cons (pe_bltn (v := .ty "str") (u := .type "str") (by rfl) B.str (by decide +kernel) rfl) pa_nil))) (nomark _)))))) pss_nil)
    (pss_one (ps_ret (pe_and (pe_callB call_isi (by rfl) B.isi (by decide +kernel) (pa_cons (pv 0) (pa_cons (pe_bltn (v := .ty "int") (u := .type "int") (by rfl) B.int (by decide +kernel) rfl) pa_nil))) (pe_and (pe_cmpR op_eq (pe_callB call_isi (by rfl) B.isi (by decide +kernel) (pa_cons (pv 0) (pa_cons (pe_bltn (v := .ty "bool") (u := .type "bool") (by rfl) B.bool (by decide +kernel) rfl) pa_nil))) (pe_callB call_isi (by rfl) B.isi (by decide +kernel) (pa_cons (pv 1) (pa_cons (pe_bltn (v := .ty "bool") (u := .type "bool") (by rfl) B.bool (by decide +kernel) rfl) pa_nil))) (nomark _)) (pe_one (pe_cmpR op_eq (pv 0) (pv 1) (nomark _))))))))), ?_⟩
  cases d with
  | bool b => exact hv.elim
  | list ds => exact hv.elim
  | dict kvs => exact hv.elim
  | none =>
    cases (show v = .non from hv)
    cases (show u = .non from hu)
    refine ⟨_, rfl, (by show 2 ≤ sizeLine; decide), fun p hp => ⟨_, p, _, _, _, _, rfl, upd_same, prd, .base .non, kit2 (b := false) (c := false) (by decide +kernel) (by decide +kernel) rfl, _, rfl, iteF ?_⟩⟩
    have e1 : Ex H (upd H p (.tup [.ty "tuple", .ty "list"])) := Ex.new hp
    generalize upd H p (.tup [.ty "tuple", .ty "list"]) = H1 at e1 ⊢
    refine ⟨_, rfl, rfl, _, rfl, iteT' (decide_eq_true rfl) ?_⟩
    refine ⟨_, rfl, _, rfl, rfl, _, rfl, iteT' (decide_eq_true rfl) ?_⟩
    refine ⟨_, rfl, _, _, _, _, _, rfl, .ty "str", .base .non, kit_ty (r := false) (by decide +kernel), _, rfl, _, _, _, _, _, rfl, .ty "str", .base .non, kit_ty (r := false) (by decide +kernel), rfl, ?_⟩
    rw [decide_eq_true rfl]
    exact q _ e1
  | str x =>
    cases (show v = .str x from hv)
    cases (show u = .str x from hu)
    refine ⟨_, rfl, (by show 2 ≤ sizeLine; decide), fun p hp => ⟨_, p, _, _, _, _, rfl, upd_same, prd, .base (.str x), kit2 (b := false) (c := false) (by decide +kernel) (by decide +kernel) rfl, _, rfl, iteF ?_⟩⟩
    have e1 : Ex H (upd H p (.tup [.ty "tuple", .ty "list"])) := Ex.new hp
    generalize upd H p (.tup [.ty "tuple", .ty "list"]) = H1 at e1 ⊢
    refine ⟨_, rfl, rfl, _, rfl, iteF' (decide_eq_false (by intro z; cases z)) ?_⟩
    refine ⟨_, rfl, _, _, _, _, _, rfl, .ty "str", .base (.str x), kit_ty (r := true) (by decide +kernel), _, rfl, iteT ?_⟩
    refine ⟨_, rfl, _, rfl, rfl, _, rfl, iteT' (decide_eq_true rfl) ?_⟩
    refine ⟨_, rfl, _, _, _, _, _, rfl, .ty "str", .base (.str x), kit_ty (r := true) (by decide +kernel), _, rfl, _, _, _, _, _, rfl, .ty "str", .base (.str x), kit_ty (r := true) (by decide +kernel), rfl, ?_⟩
    rw [decide_eq_true rfl]
    exact q _ e1
  | int i =>
    cases (show v = .int i from hv)
    cases (show u = .int i from hu)
    refine ⟨_, rfl, (by show 2 ≤ sizeLine; decide), fun p hp => ⟨_, p, _, _, _, _, rfl, upd_same, prd, .base (.int i), kit2 (b := false) (c := false) (by decide +kernel) (by decide +kernel) rfl, _, rfl, iteF ?_⟩⟩
    have e1 : Ex H (upd H p (.tup [.ty "tuple", .ty "list"])) := Ex.new hp
    generalize upd H p (.tup [.ty "tuple", .ty "list"]) = H1 at e1 ⊢
    refine ⟨_, rfl, rfl, _, rfl, iteF' (decide_eq_false (by intro z; cases z)) ?_⟩
    refine ⟨_, rfl, _, _, _, _, _, rfl, .ty "str", .base (.int i), kit_ty (r := false) (by decide +kernel), _, rfl, iteF ?_⟩
    refine ⟨_, rfl, _, _, _, _, _, rfl, .ty "int", .base (.int i), kit_ty (r := true) (by decide +kernel), _, rfl, iteT ?_⟩
    refine ⟨_, rfl, _, _, _, _, _, rfl, .ty "bool", .base (.int i), kit_ty (r := false) (by decide +kernel), _, rfl, _, _, _, _, _, rfl, .ty "bool", .base (.int i), kit_ty (r := false) (by decide +kernel), rfl, _, rfl, iteT' (decide_eq_true rfl) ?_⟩
    refine ⟨_, rfl, _, rfl, rfl, ?_⟩
    rw [decide_eq_true rfl]
    exact q _ e1
  | tuple ds =>
    obtain ⟨a, xs, rfl, ha, hx⟩ := hv
    obtain ⟨b, ys, rfl, hb, hy⟩ := hu
    refine ⟨_, rfl, (by show 2 ≤ sizeLine; decide), fun p hp => ⟨_, p, _, _, _, _, rfl, upd_same, prd, .base (.tup (Ex.new hp _ _ hb)), kit2 (b := true) (c := false) (by decide +kernel) (by decide +kernel) rfl, _, rfl, iteT ?_⟩⟩
    have e1 : Ex H (upd H p (.tup [.ty "tuple", .ty "list"])) := Ex.new hp
    generalize upd H p (.tup [.ty "tuple", .ty "list"]) = H1 at e1 ⊢
    refine ⟨_, rfl, (by show 2 ≤ sizeLine; decide), fun p2 hp2 => ⟨_, p2, _, _, _, _, rfl, upd_same, prd, .base (.tup (Ex.new hp2 _ _ (e1 _ _ ha))), kit2 (b := true) (c := false) (by decide +kernel) (by decide +kernel) rfl, _, rfl, iteF ?_⟩⟩
    have e2 : Ex H1 (upd H1 p2 (.tup [.ty "tuple", .ty "list"])) := Ex.new hp2
    generalize upd H1 p2 (.tup [.ty "tuple", .ty "list"]) = H2 at e2 ⊢
    have e12 := e1.trans e2
    have ha2 := e12 _ _ ha
    have hb2 := e12 _ _ hb
    refine ⟨_, rfl, _, _, _, _, _, rfl, .ty "list", .base (.tup ha2), kit_ty (r := false) (by decide +kernel), _, rfl, _, _, _, _, _, rfl, .ty "list", .base (.tup hb2), kit_ty (r := false) (by decide +kernel), rfl, _, rfl, iteF' (ndec rfl) ?_⟩
    refine ⟨_, rfl, a, xs, rfl, .inr (SqT.of ha2), _, rfl, b, ys, rfl, .inr (SqT.of hb2), rfl, _, rfl, iteF' (ndec ?_) ?_⟩
    · rw [TpL.length hx, TpL.length hy]
    have hlen : ys.length = ds.length := TpL.length hy
    have hlen2 : xs.length = ds.length := TpL.length hx
    have hdl : PyData.depthAll ds + 1 ≤ m := by
      simp only [PyData.depth] at hd
      omega
    refine ⟨_, rfl, b, ys, rfl, .inr (SqT.of hb2), (ys.length : Int), rfl, ?_, ?_, fun D hD => lc_range (lo := 0) (n := (ys.length : Int).toNat) (fun _ H3 => Ex H2 H3 ∧ H3 D = some (.lst [])) ⟨Ex.new hD, upd_same⟩ ?_ ?_⟩
    · omega
    · have h1 : ds.length ≤ 1000 := hfit.1
      omega
    · intro i H3 hi hP
      have hi' : i < ds.length := by omega
      obtain ⟨v, hv, hvd⟩ := TpL.get hx (List.getElem?_eq_getElem hi')
      obtain ⟨u, hu, hud⟩ := TpL.get hy (List.getElem?_eq_getElem hi')
      have e03 := e12.trans hP.1
      have hdi := depth_get (List.getElem?_eq_getElem hi')
      have hz : (0 : Int) + (i : Int) = ((i : Nat) : Int) := by omega
      refine ⟨rfl, _, rfl, _, rfl, a, xs, _, v, rfl, rfl, SqT.of (e03 _ _ ha), ?_, _, rfl, _, rfl, b, ys, _, u, rfl, rfl, SqT.of (e03 _ _ hb), ?_, ds[i], v, u, rfl, Tp.mono (TK.of e03) _ _ hvd, Tp.mono (TK.of e03) _ _ hud, by omega, fits_get hfit.2 (List.getElem?_eq_getElem hi'), fun H4 e4 => ⟨_, rfl, iteF ⟨hP.1.trans e4, e4 _ _ hP.2⟩⟩⟩
      · rw [hz]
        exact atI_nat hv
      · rw [hz]
        exact atI_nat hu
    · intro H3 hP
      refine ⟨(by show 0 ≤ sizeLine; decide), fun l hl => ?_⟩
      refine ⟨.list [], .list [], .lst (SqL.of (Ex.new hl _ _ hP.2)) .nil, .lst (SqL.of upd_same) .nil, by decide +kernel, by decide +kernel, ?_⟩
      have e : PyData.eqv (.list []) (.list []) = true := by decide +kernel
      rw [e]
      exact q _ (e12.trans (hP.1.trans (Ex.new hl)))
theorem none_al {f : Addr} {fd : FuncData} : FnOk P w K mg base CX0 1 f fd ["_law_found", "_law_due"] (spAl 0) := by
  have no : ∀ vs H Q E, ¬ spAl 0 vs H Q E := fun vs H Q E h => by
    obtain ⟨d, v, u, _, _, _, h1, _⟩ := h
    omega
  exact ⟨fun vs H Q E h => absurd h (no vs H Q E), fun A outer s H args us vs Q E _ _ _ _ h => absurd h (no vs H Q E)⟩
theorem all_al {f : Addr} {fd : FuncData} (F : Fun K "_law_alike" "_law_alike" sAlike f fd) (B : Blt mg) (mp : mg "_law_alike" = some (.ref f)) (bp : Binds K fd ["_law_found", "_law_due"] []) :
    ∀ m, Has P w K mg base CX0 (m + 1) "_law_alike" ["_law_found", "_law_due"] (spAl m)
  | 0 => ⟨f, fd, none_al, mp, F.kp, bp⟩
  | m + 1 => ⟨f, fd, ok_alike F B (all_al F B mp bp m), mp, F.kp, bp⟩
end
end Pk

namespace Pk
open PySem PySem.Spec PyProof.Rows L2 Evl
/-! ### BadLine.__init__: super().__init__(line, word), then its two fields -/
abbrev sBl : Stmt := inClass (top 4) 0
/-- what the top has written of BadLine -/
structure BlT (P : Program) (K : PySem.W.Frag) (mg : Str → Option Value) (C fI cc cda : Addr) (fd : FuncData) : Prop where
  oex : OexC K C
  ini : PySem.W.findIn K (.ref C) "__init__" = some (some (.ref fI))
  typ : PySem.W.typeIn K (.ref fI) = some (.type "function")
  lk : ∃ (oc : Value) (od : Option Addr) (osl : Array (Option Value)), K.lookup fI = some ⟨oc, od, .func fd, osl⟩
  fdE : ∃ (kV doc pm ct : Value) (an : Option Addr), fd = PySem.W.fnX "__init__" "BadLine.__init__" (defArgs sBl) (defBody sBl) (defScope sBl) [("__class__", cc)] .none kV doc pm an (.ref cda) ct
  cd : PySem.W.codeIn K (.ref cda) "BadLine.__init__" = true
  code : ∃ (ccl : Value) (cdd : Option Addr) (vs : Array Value) (ccs : Array (Option Value)) (file : Str) (tf : Tok), K.lookup cda = some ⟨ccl, cdd, .fields vs, ccs⟩ ∧ vs[2]? = some (.str file tf) ∧ ((P.main.file : Str) == file) = true
  cell : ∃ (cl : Value) (cld : Option Addr) (csl : Array (Option Value)), K.lookup cc = some ⟨cl, cld, .cell (some (.ref C)), csl⟩
  cls : ∃ cdC : ClassData, PySem.W.clsIn K C = some cdC ∧ PySem.W.alongIn K "__init__" ((cdC.mro.dropWhile (· != .ref C)).drop 1) = some (some (.builtin "ValueError.__init__"))
  sub : PySem.W.mroIn K C (.ref C) = some true
  subV : PySem.W.subIn K (.ref C) (.type "ValueError") = some true
  any : PySem.W.nsIn K cStatics "thirdparty.any" = some none
  sup : mg "super" = none
  nl : PySem.W.findIn K (.ref C) "line" = some none
  nw : PySem.W.findIn K (.ref C) "word" = some none
  htop : (P.main.scope.names.lookup ("super" : Str)).isSome = false
  gC : mg "BadLine" = some (.ref C)
section
open PySem.W PySem.Calls PyProof.Rows
variable {X : Cx} {pins : List (Addr × Obj)} {σ : L2.St} {H : Hp} {s : Shared} {a C u : Addr} {A : Around} {E : Value → Shared → Prop}
/-- the built-in __init__ bound to the exception, called -/
theorem mw_call {us : List Value} {Q : Value → Shared → Prop} (T : OexC X.K C) (I : Inv X pins σ H s) (e : H a = some (exo a C none)) (hu : s.heap.get? u = some (kxs_mw "ValueError.__init__" a)) (hl : us.length ≤ sizeLine) (h : ∀ s', Inv X pins σ H s' → Q .none s') :
    wpAny (model X.prog X.w) A (call (.ref u) us) Q E s := by
  obtain ⟨nm, q, N, bs, bm, sn, sub, ab, col, dd, k0, k1, k2, k3, k5, hC, hbm⟩ := T.cls
  obtain ⟨t1, ho⟩ := exo_at I.hok e
  obtain ⟨hp, g, d, t, os⟩ := s
  have hCh := I.kIn _ _ hC
  have fin : ∀ h' t2, (∀ b o, b ≠ a → hp.get? b = some o → h'.get? b = some o) → h'.get? a = some (HandSPX.excO C t2) → Q .none ⟨h', g, d, t, os⟩ := fun h' t2 k hx => by
    have J := I.write (t' := t) (x := a) (e := a) (o := exo a C none) (by rw [e]; exact True.intro) (.inl rfl) k ⟨_, hx⟩ (exo_ok hx)
    have eu : upd H a (exo a C none) = H := by
      funext b
      by_cases hb : b = a
      · rw [hb, upd_same, e]
      · rw [upd_ne hb]
    rw [eu] at J
    exact h _ J
  refine wpAny_call (codeAny_of_tree ?_)
  show wpAny _ A.in1 (callAny (.ref u) ⟨us, []⟩) _ _ _
  simp only [callAny]
  refine wpAny_bind (wpAny_load hu ?_)
  simp only [kxs_mw, show (Value.type "method-wrapper" == Value.type "method" || Value.type "method-wrapper" == Value.type "builtin_function_or_method" || Value.type "method-wrapper" == Value.type "method-wrapper") = true by decide, if_true]
  refine KFB.if_so (by decide) ?_
  refine wpAny_bind (check_bound_init F.excBase_ValueError.toExcCallFacts hCh ho rfl ?_)
  refine wpAny_bind (wpAny_pure (wpAny_pure ?_))
  refine ⟨Code.quiet_builtin _ (by decide +kernel), codeAny_builtin F.excBase_ValueError.initEntry ?_⟩
  rw [Around.under_plainId F.excBase_ValueError.init.plain _]
  wp_walk
  refine fin _ hp.objs.size (fun b o hb ho => ?_) ?_
  · rw [Heap.get?_update_other _ _ (Ne.symm hb)]
    exact Heap.get?_push_of_some _ ho
  · rw [Heap.get?_update_self _ (Heap.get?_push_of_some _ ho) rfl]
    rfl
/-- o.f(e, ..) of the wrapper: its arguments, then the call -/
theorem mw_with {M : Model} {pos : Pos} {x : Addr} {env : Env} {e : Expr} {rest : List Expr} {Q : Value → Shared → Prop}
    (h : wpAny M A (spliced (backTo pos (starEach (e :: rest) env))) (fun vs s₁ => KxsAt "ValueError.__init__" u x s₁.heap ∧ wpAny M A (call (.ref u) vs) Q E s₁) E s)
    (he : starEach (e :: rest) env = (false, eval e env) :: starEach rest env := by rfl) (hplain : (backTo pos (starEach rest env)).any (·.1) = false := by rfl) :
    wpAny M A (callWith pos (.ref u) [] (backTo pos (starEach (e :: rest) env)) []) Q E s := by
  rw [he] at h ⊢
  refine kxs_callWith (i := "ValueError.__init__") (x := x) (by show (false || (backTo pos (starEach rest env)).any (·.1)) = false; rw [hplain]; rfl) ?_
  exact evalArgs_plain h
end
section
variable {P : Program} {w : World} {K : PySem.W.Frag} {mg : Str → Option Value} {base : Heap}
def spBl (C : Addr) : Sp := fun vs H Q _ => ∃ (a : Addr) (l k : V), vs = [.ref a, l, k] ∧ H a = some (exo a C none) ∧
  ∀ dx, H dx = none → dx ≠ a → Q .non (upd (upd (upd H dx (exd dx [("line", l)])) a (exo a C (some dx))) dx (exd dx [("word", k), ("line", l)]))
abbrev nsBl : List Str := ["self", "line", "word", "__class__"]
abbrev nfBl (cc cda : Addr) : NdefX.NF := ⟨"__init__", "BadLine.__init__", defArgs sBl, defBody sBl, defScope sBl, [("__class__", cc)], cda⟩
theorem scBl : NdefX.NScope nsBl ["self", "line", "word"] ["__class__"] (defScope sBl) := NdefX.nscope_by (by decide +kernel)
open NdefX PySem.W in
theorem ok_blinit {C fI cc cda : Addr} {fd : FuncData} (T : BlT P K mg C fI cc cda fd) : FnOk P w K mg base CX0 1 fI fd ["self", "line", "word"] (spBl C) := by
  refine ⟨fun vs H Q E h => ?_, fun A outer s H args us vs Q E hr e0 hb r h => ?_⟩
  · obtain ⟨a, l, k, rfl, _⟩ := h
    rfl
  obtain ⟨a, l, k, rfl, ha, q⟩ := h
  obtain ⟨kV, doc, pm, ct, an, hfd⟩ := T.fdE
  obtain ⟨oc, od, osl, hlk⟩ := T.lk
  obtain ⟨cl, cld, csl, hcell⟩ := T.cell
  obtain ⟨ccl, cdd, vs2, ccs, file, tf, hcode, hvs, hfile⟩ := T.code
  obtain ⟨cdC, hcls, hal⟩ := T.cls
  have kb : ∀ b o, base.get? b = some o → s.heap.get? b = some o := fun b o e => (e0.bs b o e).1
  have KX : K.In s.heap := e0.mod.kin.keeps kb
  have lim : s.heap.NoLimit := e0.mod.nolimit.keeps kb
  have hcdr : s.heap.CodeRec (.ref cda) "BadLine.__init__" := codeRec_of KX T.cd
  subst hfd
  refine ks_codeAny_call_defAt (body := defBody sBl) (binds := (["self", "line", "word"] : List Str).zip us) hr.depth (KX _ _ hlk) rfl lim hcdr rfl hb (show ∀ x ∈ (defScope sBl).names, x.2 ≠ .cell by decide +kernel) (fun y hy => scBl.par y.1 (List.of_mem_zip hy).1) (fun h₁ hns hk₁ => ?_) (by rfl) (by rfl) (by rfl)
  have CA : CellsAt [("__class__", cc)] ["__class__"] [none] s.heap H := by
    refine ⟨rfl, fun y c e => ?_, fun x y c e1 e2 => ?_, fun i y e => ?_⟩
    · by_cases hy : y = "__class__"
      · subst hy
        have e' : cc = c := Option.some.inj e
        subst e'
        have z := e0.mod.kin _ _ hcell
        exact ⟨(e0.bs _ _ z).2, _, _, KX _ _ hcell, rfl⟩
      · rw [show List.lookup y [(("__class__" : Str), cc)] = none by simp [List.lookup, beq_eq_false_iff_ne.mpr hy]] at e
        cases e
    · have one : ∀ z d, List.lookup z [(("__class__" : Str), cc)] = some d → z = "__class__" := fun z d h => by
        by_cases hz : z = "__class__"
        · exact hz
        · rw [show List.lookup z [(("__class__" : Str), cc)] = none by simp [List.lookup, beq_eq_false_iff_ne.mpr hz]] at h
          cases h
      rw [one x c e1, one y c e2]
    · match i, e with
      | 0, e =>
        cases e
        exact ⟨cc, rfl, fun v hv => by cases hv⟩
  have I : Inv (ncx CX0 P w K mg base nsBl (nfBl cc cda) fI A outer s H E) [] (startF nsBl [.ref a, l, k] [none]) H { s with heap := h₁, toks := s.toks + ((["self", "line", "word"] : List Str).zip us).length } :=
    inv_startN scBl hr.hd e0 rfl r CA hns hk₁
  refine ks_wpAt_execs_cons (ks_wpAt_Expr_any (ks_wpAt_MethodCall (pl := ?pl) ?_ (by rfl)) (by rfl) (by rfl))
  refine ks_wpAt_super_base (by rfl) (by rfl) (by decide +kernel) (by rfl) (hk₁ _ _ (KX _ _ hlk)) rfl (by rfl) (by rfl) (hk₁ _ _ (KX _ _ hcode)) rfl hvs hfile T.htop ?_
  have kb1 : ∀ b o, base.get? b = some o → h₁.get? b = some o := fun b o e => hk₁ b o (kb b o e)
  have KX1 : K.In h₁ := e0.mod.kin.keeps kb1
  obtain ⟨mb, hblt, hmb⟩ := e0.mod.blt
  obtain ⟨u0, u1, u2, rfl, hu0, hu1, hu2⟩ : ∃ u0 u1 u2, us = [u0, u1, u2] ∧ RelV (.ref a) u0 ∧ RelV l u1 ∧ RelV k u2 := by
    cases r with
    | cons h0 r =>
      cases r with
      | cons h1 r =>
        cases r with
        | cons h2 r =>
          cases r
          exact ⟨_, _, _, rfl, h0, h1, h2⟩
  cases (show u0 = Value.ref a from hu0)
  refine ks_loadName_global (by rfl) (by rfl) (PySem.Calls.loadGlobal_builtin (e0.mod.glob.keeps kb1) T.sup (hblt.keeps kb1) ((hmb _ (by decide +kernel)).trans (by first | boot_by_name | rfl | kernel_rfl | decide +kernel)) ⟨rfl, ?_⟩)
  refine wpAny_loadName_free (by rfl) (by rfl) (by rfl) ⟨_, KX1 _ _ hcell, rfl⟩ ?_
  refine wpAny_loadName_local (by rfl) (by rfl) hns (by rfl) ?_
  obtain ⟨oD, hD1, hD2⟩ : ∃ oD, h₁.get? C = some oD ∧ oD.data = .cls cdC := by
    unfold clsIn at hcls
    split at hcls
    · rename_i c d cd' sl ho
      cases hcls
      exact ⟨_, KX1 _ _ ho, rfl⟩
    · cases hcls
  obtain ⟨t1, hx1⟩ := exo_at I.hok ha
  have IA : InstAt h₁ a _ C none := ⟨hx1, rfl, rfl, trivial⟩
  refine ks_wpAny_isType_cls hD1 hD2 ⟨rfl, ?_⟩
  refine ks_wpAny_call_super hD1 hD2 IA.at_ IA.cls (fun c e => ?_) (looks_mroIn KX1 T.sub) (fun h2 hso hk2 => ?_)
  · cases e
  have I2 := I.kept (t' := s.toks + (([("self" : Str), "line", "word"]).zip [Value.ref a, u1, u2]).length) hk2
  have KX2 : K.In h2 := KX1.keeps hk2
  have IA2 : InstAt h2 a _ C none := ⟨hk2 _ _ hx1, rfl, rfl, trivial⟩
  have hI : Looks (model P w) h2 (isInstance (.ref a) (.type "ValueError")) true := IA2.type.andThen (looks_subIn KX2 T.subV)
  refine kxs_getMethod kxs_ValueError hso (looks_opaque KX2 T.any) (l₀ := cdC.mro) (fun A Q E s k q => wpAny_bind ((looks_clsIn KX2 hcls) A _ E s k (wpAny_pure q))) rfl KX2 hal hI (ks_ne KX2 IA2 hcls) (by decide +kernel) ?_
  have hk3 : ∀ b o, h2.get? b = some o → (h2.push (kxs_mw "ValueError.__init__" a)).get? b = some o := fun b o e => Heap.get?_push_of_some _ e
  have I3 := I2.kept (t' := s.toks + (([("self" : Str), "line", "word"]).zip [Value.ref a, u1, u2]).length + 1) hk3
  have hmw : (h2.push (kxs_mw "ValueError.__init__" a)).get? h2.objs.size = some (kxs_mw "ValueError.__init__" a) := Heap.get?_push_at rfl rfl
  have I4 := I3.pins_of (pins' := [(h2.objs.size, kxs_mw "ValueError.__init__" a)]) (fun p hp => by
    rw [List.mem_singleton] at hp
    subst hp
    refine ⟨hmw, I2.hok.fresh (Nat.le_refl _), ?_, I2.nofs (Nat.le_refl _), fun v e => by cases e⟩
    exact fun e => absurd I2.lt (by rw [← e]; exact Nat.lt_irrefl _))
  refine mw_with (x := a) ?_ (by rfl) (by rfl)
  have pa : PA (ncx CX0 P w K mg base nsBl (nfBl cc cda) fI A outer s H E) [.Name "line" ⟨11, 25, 11, 29⟩, .Name "word" ⟨11, 31, 11, 35⟩] (tCons (tVar 1) (tCons (tVar 2) tNil)) := pa_cons (pv 1) (pa_cons (pv 2) pa_nil)
  refine thn (pa.run _ _ _ _ _ (fun vs H2 => vs = [l, k] ∧ H2 = H) I4 ⟨_, rfl, _, rfl, rfl, rfl⟩) fun vs s5 ⟨vv, H5, I5, r5, hvv, hH5⟩ => ?_
  subst hH5 hvv
  refine ⟨(I5.pin (h2.objs.size, _) (by simp)).1, mw_call (X := ncx CX0 P w K mg base nsBl (nfBl cc cda) fI A outer s H5 E) T.oex I5 ha (I5.pin (h2.objs.size, _) (by simp)).1 (by rw [← Vals.length r5]; show 2 ≤ sizeLine; decide) fun s6 I6 => ?_⟩
  refine wpAt_of_any ?_
  have ps : PSs (ncx CX0 P w K mg base nsBl (nfBl cc cda) fI A outer s H5 E) ((defBody sBl).drop 1) (tSeq (tOst K "line" (tVar 0) (tVar 1)) (tOst K "word" (tVar 0) (tVar 2))) :=
    pss_cons (ps_ost (pv 0) (pv 1)) (pss_one (ps_ost (pv 0) (pv 2)))
  refine wpAny_mono (ps.run _ _ _ _ { nx := fun _ H' => Q .non H', rt := Q } I6 ?_) (fun fl s' hs => ?_) fun e s' hs => hs
  · exact ⟨l, rfl, .ref a, rfl, a, C, rfl, T.oex, T.nl, .inl ⟨ha, fun dx n ne => ⟨k, rfl, .ref a, rfl, a, C, rfl, T.oex, T.nw, .inr ⟨dx, [("line", l)], upd_same, by rw [upd_ne ne, upd_same], (by show 1 ≤ 900; decide), q dx n ne⟩⟩⟩⟩
  · have fin : ∀ {σ' : L2.St} {H' : Hp} {v : V} {u : Value} {pn}, Inv (ncx CX0 P w K mg base nsBl (nfBl cc cda) fI A outer s H5 E) pn σ' H' s' → L2.RelV v u → Q v H' → CE outer P w H5 s Q u s' :=
      fun {σ' H' v u pn} J rv q => ⟨v, H', J.os, J.bare, J.base, J.hok, rv, q⟩
    cases fl with
    | ret u =>
      obtain ⟨v, σ', H', J, rv, q⟩ := hs
      exact fin J rv q
    | next =>
      obtain ⟨σ', H', J, q⟩ := hs
      exact fin (v := V.non) (u := Value.none) J rfl q
    | brk =>
      obtain ⟨_, _, _, q⟩ := hs
      exact False.elim q
    | cont =>
      obtain ⟨_, _, _, q⟩ := hs
      exact False.elim q
end
section
open PySem.W
variable {X : Cx} {C : Addr} {bmB : List Value} {B newId initId : String}
/-- X(), X an own exception class without an own __init__ -/
theorem pmk_own0 {x : Str} {p pos : Pos} (F : ExcBaseFacts B newId initId bmB) (q : PySem.W.excIn X.K C bmB newId = true) (gC : X.mg x = some (.ref C)) (kC : PySem.W.keepIn X.K (.ref C) = true) (r : Raises X (.ref C)) (hg : Gl X x)
    (hdb : (x == ("__debug__" : Str)) = false := by decide) : PMk X (.Call (.Name x p) [] [] pos) (fun _ H Q => Q (.ref C) none H) := by
  intro pins s σ H Q I h
  refine wpAny_Call_Name_kw (ld_glob I hg gC ?_ hdb)
  refine PySem.W.callWith_K0 I.kIn kC ?_
  obtain ⟨bm, N, nm, qn, bs, hdct, sn, sub, ab, col, dd, k0, k1, k2, k3, k5, mN, hC, hN, hni, T⟩ := exc_obj I.kIn q
  refine wpAny_call_exc_subT F T hC hN hni (fun h' e hm => ?_) (Nat.zero_le _)
  exact mk_of I hm r h (I.hok.gone hm.new)
/-- isinstance(e, c) of the caught exception e, its dict there or not -/
def rIsX (K : PySem.W.Frag) (cls : Value) (d : Option Addr) (a D : Addr) : List V → Hp → VK → Prop := fun xs H Q =>
  ∃ (c : V) (cv : Value) (b : Bool), xs = [.ref a, c] ∧ cls = .ref D ∧ (∀ u, RelV c u → u = cv) ∧ PySem.W.kitOne K (.ref D) cv = some b ∧ (∀ dd, d = some dd → ∃ fs, H dd = some (.xd fs)) ∧ Q (.bl b) H
theorem call_isX {a D : Addr} {cls : Value} {d : Option Addr} {oe : Obj} {pn : List (Addr × Obj)} (T : ExcC X.K D) (hz : Zc cls d oe) (hf : ∃ vs, oe.data = .fields vs) : CallR (X.suite a ((a, oe) :: pn)) (.builtin "isinstance") (rIsX X.K cls d a D) := by
  intro pins s σ H xs us Q I r h
  obtain ⟨c, cv, b, rfl, ec, hcv, e, hd, q⟩ := h
  cases r with
  | cons rx rr =>
    cases rr with
    | cons rt rr =>
      cases rr
      cases rx
      have ec2 := hcv _ rt
      subst ec2
      obtain ⟨hget, _⟩ := I.pin (a, oe) (List.mem_append.mpr (.inl List.mem_cons_self))
      obtain ⟨vs, hv⟩ := hf
      have J : ∃ od, PySem.W.InstAt s.heap a oe D od := by
        cases d with
        | none => exact ⟨none, hget, hz.1.trans ec, by unfold PySem.W.notCls; rw [hv] <;> rfl, by rw [hz.2]; trivial⟩
        | some dd =>
          obtain ⟨fs, ea⟩ := hd dd rfl
          obtain ⟨mA, hns, hr⟩ : ObjOk X.prog X.w H s.heap dd (.xd fs) := I.hok dd _ ea
          obtain ⟨od, ho, hl⟩ := lookIn_ns hns
          exact ⟨some od, hget, hz.1.trans ec, by unfold PySem.W.notCls; rw [hv] <;> rfl, by rw [hz.2]; exact ho⟩
      obtain ⟨od, J⟩ := J
      have hcl : (clsIn X.K D).isSome = true := by
        have := T.hd
        unfold PySem.W.hasDictIn at this
        cases hh : clsIn X.K D with
        | none => rw [hh] at this; cases this
        | some c => rfl
      exact PySem.W.kia_one (PySem.W.kitx_exc hcl T.hg T.hk T.hs T.ha T.hn T.ht T.hm) I.kIn J e (fun z => nomatch z) fun tk => ⟨.bl b, H, I.kept (t' := tk) fun _ _ z => z, rfl, q⟩
end
/-- a BadLine raised: where it tells the line l and the word k -/
def isBad (C : Addr) (Q : Hp → Prop) (l k : Int) : XK := fun cls d H => cls = .ref C ∧ ∃ dd, d = some dd ∧ H dd = some (.xd [("word", .int k), ("line", .int l)]) ∧ Q H
end Pk

namespace Pk
open PySem PySem.Spec PyProof.Rows L2 Evl
/-! ### the reader's state in the heap -/
def BlkH (H : Hp) (ds : List PyData) (c : Addr) : Prop := ∃ xs, H c = some (.lst xs) ∧ TpL H ds xs
/-- the blocks of an open part -/
def BlsH (H : Hp) (o : Op) (bl : List Addr) : Prop := ∃ (pre : List Addr) (c : Addr), bl = pre ++ [c] ∧ BlkH H o.cur c ∧ ((o.b0 = none ∧ pre = []) ∨ ∃ (b : List PyData) (p : Addr), o.b0 = some b ∧ pre = [p] ∧ BlkH H b p)
abbrev fsO (o : Op) (B : Addr) : List (Str × V) := [("word", .str o.word), ("amount", .int o.amt), ("blocks", .ref B)]
/-- an open part at x; own: the addresses that are its own -/
def OpH (CO : Addr) (H : Hp) (o : Op) (x : Addr) (own : List Addr) : Prop :=
  ∃ (dx B : Addr) (bl : List Addr), H x = some (.ins CO dx (fsO o B)) ∧ H B = some (.lst (bl.map V.ref)) ∧ BlsH H o bl ∧ own = x :: B :: bl
def TowH (CO : Addr) (H : Hp) : List Op → List Addr → List Addr → Prop
  | [], vs, own => vs = [] ∧ own = []
  | o :: r, vs, own => ∃ (x : Addr) (vr ow owr : List Addr), vs = x :: vr ∧ own = ow ++ owr ∧ OpH CO H o x ow ∧ TowH CO H r vr owr
/-- what is the owner's stands as it stood, the tuples stand -/
def Same (own : List Addr) (H H' : Hp) : Prop := (∀ b ∈ own, H' b = H b) ∧ TK H H'
theorem Same.sub {o1 o2 : List Addr} {H H' : Hp} (h : Same o1 H H') (s : ∀ b ∈ o2, b ∈ o1) : Same o2 H H' := ⟨fun b hb => h.1 b (s b hb), h.2⟩
theorem BlkH.same {H H' : Hp} {ds : List PyData} {c : Addr} (h : BlkH H ds c) (e : H' c = H c) (k : TK H H') : BlkH H' ds c := by
  obtain ⟨xs, h1, h2⟩ := h
  exact ⟨xs, by rw [e]; exact h1, TpL.mono k _ _ h2⟩
theorem BlsH.same {H H' : Hp} {o : Op} {bl : List Addr} (h : BlsH H o bl) (s : Same bl H H') : BlsH H' o bl := by
  obtain ⟨pre, c, rfl, hc, h2⟩ := h
  refine ⟨pre, c, rfl, hc.same (s.1 c (by simp)) s.2, ?_⟩
  rcases h2 with h2 | ⟨b, p, h3, rfl, h4⟩
  · exact .inl h2
  · exact .inr ⟨b, p, h3, rfl, h4.same (s.1 p (by simp)) s.2⟩
theorem OpH.same {CO : Addr} {H H' : Hp} {o : Op} {x : Addr} {own : List Addr} (h : OpH CO H o x own) (s : Same own H H') : OpH CO H' o x own := by
  obtain ⟨dx, B, bl, h1, h2, h3, rfl⟩ := h
  exact ⟨dx, B, bl, by rw [s.1 x (by simp)]; exact h1, by rw [s.1 B (by simp)]; exact h2, h3.same (s.sub fun b hb => by simp [hb]), rfl⟩
theorem TowH.same {CO : Addr} {H H' : Hp} : ∀ {ops : List Op} {vs own : List Addr}, TowH CO H ops vs own → Same own H H' → TowH CO H' ops vs own
  | [], _, _, h, _ => h
  | o :: r, _, _, ⟨x, vr, ow, owr, e1, e2, h1, h2⟩, s => by
    subst e2
    exact ⟨x, vr, ow, owr, e1, rfl, h1.same (s.sub fun b hb => by simp [hb]), TowH.same h2 (s.sub fun b hb => by simp [hb])⟩
theorem BlsH.live {H : Hp} {o : Op} {bl : List Addr} (h : BlsH H o bl) : ∀ b ∈ bl, H b ≠ none := by
  obtain ⟨pre, c, rfl, ⟨xs, hc, _⟩, h2⟩ := h
  intro b hb
  rcases h2 with ⟨_, rfl⟩ | ⟨_, p, _, rfl, ⟨ys, hp, _⟩⟩
  · simp at hb
    rw [hb, hc]
    simp
  · simp at hb
    rcases hb with hb | hb
    · rw [hb, hp]; simp
    · rw [hb, hc]; simp
theorem OpH.live {CO : Addr} {H : Hp} {o : Op} {x : Addr} {own : List Addr} (h : OpH CO H o x own) : ∀ b ∈ own, H b ≠ none := by
  obtain ⟨dx, B, bl, h1, h2, h3, rfl⟩ := h
  intro b hb
  rcases List.mem_cons.mp hb with rfl | hb
  · rw [h1]; simp
  rcases List.mem_cons.mp hb with rfl | hb
  · rw [h2]; simp
  exact h3.live b hb
theorem TowH.live {CO : Addr} {H : Hp} : ∀ {ops : List Op} {vs own : List Addr}, TowH CO H ops vs own → ∀ b ∈ own, H b ≠ none
  | [], _, _, ⟨_, e⟩, b, hb => by rw [e] at hb; cases hb
  | o :: r, _, _, ⟨x, vr, ow, owr, e1, e2, h1, h2⟩, b, hb => by
    subst e2
    rcases List.mem_append.mp hb with hb | hb
    · exact h1.live b hb
    · exact TowH.live h2 b hb
theorem TowH.length {CO : Addr} {H : Hp} : ∀ {ops : List Op} {vs own : List Addr}, TowH CO H ops vs own → vs.length = ops.length
  | [], _, _, ⟨e, _⟩ => by rw [e]; rfl
  | o :: r, _, _, ⟨x, vr, ow, owr, e1, e2, h1, h2⟩ => by
    subst e1
    rw [List.length_cons, List.length_cons, TowH.length h2]
theorem Same.ex {own : List Addr} {H H' : Hp} (e : Ex H H') (hs : ∀ b ∈ own, H b ≠ none) : Same own H H' := ⟨fun b hb => by
  cases q : H b with
  | none => exact absurd q (hs b hb)
  | some o => exact e b o q, TK.of e⟩
theorem Same.upd {own : List Addr} {H : Hp} {a : Addr} {o : HO} (hn : a ∉ own) (k : TK H (upd H a o)) : Same own H (upd H a o) := ⟨fun b hb => upd_ne fun e => hn (e ▸ hb), k⟩
theorem Same.trans {own : List Addr} {H H1 H2 : Hp} (a : Same own H H1) (b : Same own H1 H2) : Same own H H2 := ⟨fun x hx => (b.1 x hx).trans (a.1 x hx), a.2.trans b.2⟩
def colV : Option Int → V
  | none => .non
  | some i => .int i
abbrev fsP (p : Pl) (T : Addr) : List (Str × V) := [("colours", colV p.col), ("tower", .ref T), ("parts", .int (p.parts : Int))]
/-- the planner at a: all that is its own is new against H0 -/
structure PlH (CP CO : Addr) (H0 H : Hp) (a : Addr) (p : Pl) : Prop where
  ex : Ex H0 H
  at_ : ∃ (dx T : Addr) (vs own : List Addr), H a = some (.ins CP dx (fsP p T)) ∧ H T = some (.lst (vs.reverse.map V.ref)) ∧ TowH CO H p.tow vs own ∧ (a :: T :: own).Nodup ∧ ∀ b ∈ a :: T :: own, H0 b = none
theorem ex_new {H0 H : Hp} {a : Addr} {o : HO} (e : Ex H0 H) (hn : H0 a = none) : Ex H0 (upd H a o) := fun b u h => by
  rw [upd_ne (ne_of_none h hn)]
  exact e b u h
theorem PlH.grow {CP CO : Addr} {H0 H H' : Hp} {a : Addr} {p : Pl} (h : PlH CP CO H0 H a p) (e : Ex H H') : PlH CP CO H0 H' a p := by
  obtain ⟨dx, T, vs, own, h1, h2, h3, h4, h5⟩ := h.at_
  exact ⟨h.ex.trans e, dx, T, vs, own, e _ _ h1, e _ _ h2, h3.same (Same.ex e h3.live), h4, h5⟩
/-- a new object joins what stands -/
theorem PlH.base {CP CO : Addr} {H0 H : Hp} {a x : Addr} {o : HO} {p : Pl} (h : PlH CP CO H0 H a p) (hx : H x = none) : PlH CP CO (upd H0 x o) (upd H x o) a p := by
  have g := h.grow (H' := upd H x o) (ex_new (Ex.refl _) hx)
  obtain ⟨dx, T, vs, own, h1, h2, h3, h4, h5⟩ := g.at_
  obtain ⟨dx', T', vs', own', k1, k2, k3, k4, k5⟩ := h.at_
  refine ⟨fun b u e => ?_, dx', T', vs', own', ?_, ?_, k3.same (Same.ex (ex_new (Ex.refl _) hx) k3.live), k4, fun b hb => ?_⟩
  · by_cases hb : b = x
    · rw [hb, upd_same] at e ⊢
      exact e
    · rw [upd_ne hb] at e ⊢
      exact h.ex b u e
  · rw [upd_ne (ne_of_none k1 hx)]
    exact k1
  · rw [upd_ne (ne_of_none k2 hx)]
    exact k2
  · have hne : H b ≠ none := by
      rcases List.mem_cons.mp hb with rfl | hb
      · rw [k1]; simp
      rcases List.mem_cons.mp hb with rfl | hb
      · rw [k2]; simp
      exact k3.live b hb
    rw [upd_ne (fun e => hne (by rw [e]; exact hx))]
    exact k5 b hb
theorem PlH.less {CP CO : Addr} {H0 H1 H : Hp} {a : Addr} {p : Pl} (h : PlH CP CO H1 H a p) (e : Ex H0 H1) : PlH CP CO H0 H a p := by
  obtain ⟨dx, T, vs, own, h1, h2, h3, h4, h5⟩ := h.at_
  refine ⟨e.trans h.ex, dx, T, vs, own, h1, h2, h3, h4, fun b hb => ?_⟩
  cases q : H0 b with
  | none => rfl
  | some o =>
    have z := e b o q
    rw [h5 b hb] at z
    cases z
/-! ### bounds of the reader's state -/
def Op.len0 (o : Op) : Nat := match o.b0 with | some b => b.length | none => 0
def Op.wt (o : Op) : Nat := o.cur.length + o.len0
def wts : List Op → Nat
  | [] => 0
  | o :: r => o.wt + wts r
structure Good (p : Pl) : Prop where
  ne : 1 ≤ p.tow.length
  six : p.tow.length ≤ 6
  sixty : p.parts ≤ 60
  sum : wts p.tow + p.tow.length ≤ p.parts + 1
theorem size_ok {α : Type} {ws : List Str} {n : Nat} {x y : α} (h : size ws n x = .ok y) : ws.length = n ∧ x = y := by
  unfold size at h
  by_cases e : ws.length = n
  · rw [if_pos e] at h
    exact ⟨e, Except.ok.inj h⟩
  · rw [if_neg e] at h
    cases h
theorem size_no {α : Type} {ws : List Str} {n k : Nat} {x : α} (h : size ws n x = .error k) : ws.length ≠ n ∧ k = min ws.length n + 1 := by
  unfold size at h
  by_cases e : ws.length = n
  · rw [if_pos e] at h
    cases h
  · rw [if_neg e] at h
    exact ⟨e, (Except.error.inj h).symm⟩
theorem turn_good {p q : Pl} {f : Str} {ws : List Str} (g : Good p) (h : takeTurn p f ws = .ok q) : Good q := by
  obtain ⟨g1, g2, g3, g4⟩ := g
  unfold takeTurn at h
  split at h
  · rename_i top o r ht
    split at h
    · cases h
    · have hq := (size_ok h).2
      subst hq
      rw [ht] at g1 g2 g4
      simp only [wts, Op.wt, List.length_cons] at g1 g2 g4
      split
      · refine ⟨?_, ?_, g3, ?_⟩ <;> simp only [wts, Op.wt, Op.len0, List.length_cons, List.length_nil] at * <;> (try omega)
      · refine ⟨?_, ?_, g3, ?_⟩ <;> simp only [wts, Op.wt, Op.len0, List.length_cons, List.length_nil, List.length_append] at * <;> omega
  · cases h
theorem part_good {p q : Pl} {c : Int} {f : Str} {ws : List Str} (g : Good p) (h : takePart p c f ws = .ok q) : Good q := by
  obtain ⟨g1, g2, g3, g4⟩ := g
  unfold takePart at h
  split at h
  · cases h
  · rename_i hc
    have hp : p.parts ≠ 60 := fun e => hc (.inl e)
    split at h
    · cases h
    · cases ht : p.tow with
      | nil => rw [ht] at g1; simp at g1
      | cons top r =>
        rw [ht] at g1 g2 g4 h hc
        simp only at h
        have hq := (size_ok h).2
        subst hq
        simp only [wts, Op.wt, List.length_cons] at g1 g2 g4 hc
        by_cases ho : f ∈ openers
        · rw [if_pos ho]
          have h6 : r.length + 1 ≠ 6 := fun e => hc (.inr ⟨ho, e⟩)
          refine ⟨?_, ?_, ?_, ?_⟩ <;> simp only [wts, Op.wt, Op.len0, List.length_cons, List.length_nil] at * <;> omega
        · rw [if_neg ho]
          refine ⟨?_, ?_, ?_, ?_⟩ <;> simp only [wts, Op.wt, Op.len0, List.length_cons, List.length_nil, List.length_append] at * <;> omega
theorem take_good {p q : Pl} {ws : List Str} (g : Good p) (h : take p ws = .ok q) : Good q := by
  unfold take at h
  split at h
  · cases h
    exact g
  · split at h
    · split at h
      · cases h
      · split at h
        · cases h
        · have hq := (size_ok h).2
          subst hq
          exact ⟨g.ne, g.six, g.sixty, g.sum⟩
    · split at h
      · cases h
      · split at h
        · exact turn_good g h
        · exact part_good g h
theorem good0 : Good pl0 := ⟨by decide, by decide, by decide, by decide⟩
theorem TowH.top {CO : Addr} {H : Hp} {ops : List Op} {vs own : List Addr} (h : TowH CO H ops vs own) (n : 1 ≤ ops.length) : ∃ o r x vr ow owr, ops = o :: r ∧ vs = x :: vr ∧ own = ow ++ owr ∧ OpH CO H o x ow ∧ TowH CO H r vr owr := by
  cases ops with
  | nil => simp at n
  | cons o r =>
    obtain ⟨x, vr, ow, owr, h1, h2, h3, h4⟩ := h
    exact ⟨o, r, x, vr, ow, owr, rfl, h1, h2, h3, h4⟩
/-- the growing block gets a part -/
theorem OpH.put {CO : Addr} {H : Hp} {o : Op} {x : Addr} {own : List Addr} (h : OpH CO H o x own) (nd : own.Nodup) : ∃ (dx B : Addr) (bl : List Addr) (c : Addr) (xs : List V), H x = some (.ins CO dx (fsO o B)) ∧ H B = some (.lst ((bl ++ [c]).map V.ref)) ∧ H c = some (.lst xs) ∧ xs.length = o.cur.length ∧ c ∈ own ∧
    (∀ (d : PyData) (v : V) (H1 : Hp), Same own H H1 → Tp H1 d v → OpH CO (upd H1 c (.lst (xs ++ [v]))) { o with cur := o.cur ++ [d] } x own) := by
  obtain ⟨dx, B, bl, h1, h2, h3, rfl⟩ := h
  obtain ⟨pre, c, rfl, ⟨xs, hc, ht⟩, h4⟩ := h3
  refine ⟨dx, B, pre, c, xs, h1, h2, hc, TpL.length ht, by simp, fun d v H1 s hv => ?_⟩
  have hx1 : H1 x = some (.ins CO dx (fsO o B)) := by rw [s.1 x (by simp)]; exact h1
  have hB1 : H1 B = some (.lst ((pre ++ [c]).map V.ref)) := by rw [s.1 B (by simp)]; exact h2
  have hc1 : H1 c = some (.lst xs) := by rw [s.1 c (by simp)]; exact hc
  have k : TK H1 (upd H1 c (.lst (xs ++ [v]))) := TK.lst hc1
  simp only [List.nodup_cons, List.mem_cons, List.mem_append, List.nodup_append, List.mem_singleton, not_or] at nd
  obtain ⟨⟨nxB, nxp, nxc⟩, ⟨nBp, nBc⟩, ndp, _, npc⟩ := nd
  refine ⟨dx, B, pre ++ [c], ?_, ?_, ⟨pre, c, rfl, ⟨xs ++ [v], upd_same, TpL.append (TpL.mono (s.2.trans k) _ _ ht) (TpL.one (Tp.mono k _ _ hv))⟩, ?_⟩, rfl⟩
  · rw [upd_ne (fun e => nxc.1 e)]
    exact hx1
  · rw [upd_ne (fun e => nBc.1 e)]
    exact hB1
  · rcases h4 with h4 | ⟨b, p, h5, rfl, ys, hp, hy⟩
    · exact .inl h4
    · refine .inr ⟨b, p, h5, rfl, ys, ?_, TpL.mono (s.2.trans k) _ _ hy⟩
      have npe : p ≠ c := fun e => npc p (by simp) c (.inl rfl) e
      rw [upd_ne npe, s.1 p (by simp)]
      exact hp
end Pk

namespace Pk
open PySem PySem.Spec PyProof.Rows L2 Evl
abbrev sOi : Stmt := inClass (top 25) 0
abbrev sOp : Stmt := inClass (top 25) 1
section
variable {P : Program} {w : World} {K : PySem.W.Frag} {mg : Str → Option Value} {base : Heap}
/-- what the top has written of the class Opened -/
structure OpT (K : PySem.W.Frag) (CO : Addr) : Prop where
  cls : Cls K CO
  nw : NoAttr K CO "word"
  na : NoAttr K CO "amount"
  nb : NoAttr K CO "blocks"
def spOi (CO : Addr) : Sp := fun vs H Q _ => ∃ (x dx : Addr) (f : Str) (n : Int), vs = [.ref x, .str f, .int n] ∧ H x = some (.ins CO dx []) ∧
  ∀ (own : List Addr) (H' : Hp), (∀ b o, H b = some o → b ≠ x → H' b = some o) → own.Nodup → (∀ b ∈ own, b = x ∨ H b = none) → OpH CO H' ⟨f, n, none, []⟩ x own → Q .non H'
theorem scOi : FnScope ["self", "word", "number"] ["self", "word", "number"] (defScope sOi) := ⟨rfl, rfl, rfl, by decide +kernel, rfl, by decide +kernel, by decide +kernel⟩
theorem ok_oi {CO f : Addr} {fd : FuncData} (F : Fun K "__init__" "Opened.__init__" sOi f fd) (T : OpT K CO) : FnOk P w K mg base CX0 1 f fd ["self", "word", "number"] (spOi CO) := by
  refine F.ok scOi (fun vs H Q E h => ?_) (fun cdv A outer s H vs Q E hr h => ?_)
  · obtain ⟨x, dx, f, n, rfl, _⟩ := h
    rfl
  obtain ⟨x, dx, f, n, rfl, hx, q⟩ := h
  refine ⟨_, (pss_cons (ps_fld (pv 0) (pv 1) (by rfl))
    (pss_cons (ps_fld (pv 0) (pv 2) (by rfl))
    (pss_one (ps_fld (pv 0) (pe_lst (pa_cons (pe_lst pa_nil) pa_nil)) (by rfl))))), ?_⟩
  refine ⟨_, rfl, _, rfl, x, CO, dx, _, rfl, hx, T.cls, T.nw, by decide, ?_⟩
  refine ⟨_, rfl, _, rfl, x, CO, dx, _, rfl, upd_same, T.cls, T.na, (by show 1 < 1000; decide), ?_⟩
  refine ⟨(by show 0 ≤ sizeLine; decide), fun c hc => ⟨(by show 1 ≤ sizeLine; decide), fun B hB => ?_⟩⟩
  have hc0 : c ≠ x ∧ H c = none := by
    by_cases e : c = x
    · rw [e, upd_same] at hc
      cases hc
    · rw [upd_ne e, upd_ne e] at hc
      exact ⟨e, hc⟩
  have hB0 : B ≠ c ∧ B ≠ x ∧ H B = none := by
    by_cases e : B = c
    · rw [e, upd_same] at hB
      cases hB
    · rw [upd_ne e] at hB
      by_cases e2 : B = x
      · rw [e2, upd_same] at hB
        cases hB
      · rw [upd_ne e2, upd_ne e2] at hB
        exact ⟨e, e2, hB⟩
  refine ⟨_, rfl, x, CO, dx, putF "amount" (.int n) (putF "word" (.str f) []), rfl, ?_, T.cls, T.nb, ?_, ?_⟩
  · rw [upd_ne (Ne.symm hB0.2.1), upd_ne (Ne.symm hc0.1), upd_same]
  · show 2 < 1000
    decide
  · refine q [x, B, c] _ (fun b o e hb => ?_) ?_ (fun b hb => ?_) ?_
    · have h1 : b ≠ B := fun z => by rw [z, hB0.2.2] at e; cases e
      have h2 : b ≠ c := fun z => by rw [z, hc0.2] at e; cases e
      rw [upd_ne hb, upd_ne h1, upd_ne h2, upd_ne hb, upd_ne hb]
      exact e
    · simp only [List.nodup_cons, List.mem_cons, List.not_mem_nil, not_or, not_false_eq_true, and_true, List.nodup_nil]
      exact ⟨⟨Ne.symm hB0.2.1, Ne.symm hc0.1⟩, hB0.1⟩
    · simp only [List.mem_cons, List.not_mem_nil, or_false] at hb
      rcases hb with rfl | rfl | rfl
      · exact .inl rfl
      · exact .inr hB0.2.2
      · exact .inr hc0.2
    · refine ⟨dx, B, [c], ?_, ?_, ⟨[], c, rfl, ⟨[], ?_, rfl⟩, .inl ⟨rfl, rfl⟩⟩, rfl⟩
      · rw [upd_same]
        rfl
      · rw [upd_ne hB0.2.1, upd_same]
        rfl
      · rw [upd_ne hc0.1, upd_ne (Ne.symm hB0.1), upd_same]
/-! ### Opened.part -/
def Op.bd (o : Op) : List (List PyData) := match o.b0 with | some b => [b, o.cur] | none => [o.cur]
theorem BlsH.bd {H : Hp} {o : Op} {bl : List Addr} (h : BlsH H o bl) : bl.length = o.bd.length ∧ ∀ (i : Nat) (c : Addr), bl[i]? = some c → ∃ ds, o.bd[i]? = some ds ∧ BlkH H ds c := by
  obtain ⟨pre, c, rfl, hc, h2⟩ := h
  rcases h2 with ⟨h3, rfl⟩ | ⟨b, p, h3, rfl, h4⟩
  · unfold Op.bd
    rw [h3]
    refine ⟨rfl, fun i x e => ?_⟩
    match i, e with
    | 0, e => cases e; exact ⟨_, rfl, hc⟩
  · unfold Op.bd
    rw [h3]
    refine ⟨rfl, fun i x e => ?_⟩
    match i, e with
    | 0, e => cases e; exact ⟨_, rfl, h4⟩
    | 1, e => cases e; exact ⟨_, rfl, hc⟩
theorem Op.bd_len (o : Op) : o.bd.length ≤ 2 := by
  unfold Op.bd
  split
  · exact Nat.le_refl 2
  · exact Nat.le_succ 1
def rTup (K : PySem.W.Frag) : List V → Hp → VK → Prop := fun xs H Q => ∃ p ys, xs = [.ref p] ∧ ((SqL K H p ys ∧ ∀ l, H l = none → Q (.ref l) (upd H l (.tup ys))) ∨ (SqT K H p ys ∧ Q (.ref p) H))
def spOp (CO : Addr) : Sp := fun vs H Q _ => ∃ (x : Addr) (o : Op) (own : List Addr), vs = [.ref x] ∧ OpH CO H o x own ∧ ∀ (H' : Hp) (v : V), Ex H H' → Tp H' o.part v → Q v H'
abbrev nsOp : List Str := ["self", "blocks", "block"]
theorem scOp : FnScope nsOp ["self"] (defScope sOp) := ⟨rfl, rfl, rfl, by decide +kernel, rfl, by decide +kernel, by decide +kernel⟩
theorem ok_op {CO f : Addr} {fd : FuncData} (F : Fun K "part" "Opened.part" sOp f fd) (T : OpT K CO) (B : Blt mg) : FnOk P w K mg base CX0 1 f fd ["self"] (spOp CO) := by
  refine F.ok scOp (fun vs H Q E h => ?_) (fun cdv A outer s H vs Q E hr h => ?_)
  · obtain ⟨x, o, own, rfl, _⟩ := h
    rfl
  obtain ⟨x, o, own, rfl, ho, q⟩ := h
  refine ⟨_, (pss_cons (ps_setLc (i := 1) (own := [("block", 2)]) (g := gName 2) (te := (tCB (rTup K) (tCons (tVar 2) tNil))) (by rfl) scOp.nd (by rfl) (by rfl) (sw_true (by rfl) (by rfl) (by rfl) (by decide +kernel)) (pi_list (pe_fld (pv 0) (by rfl))) (blkOk_by (own := [("block", 2)]) (N := nsOp) (sc := defScope sOp) (by decide +kernel)) (fun _ _ _ _ _ => pg_name (i := 2) scOp.nd (by rfl) (Or.inl (by rfl))) (fun _ _ _ _ _ => by exact pts_nil) (fun _ _ _ _ _ => by exact (pe_callTy call_tuple_of (by rfl) B.tup (by decide +kernel) (pa_cons (pv 2) pa_nil))))
    (pss_cons (ps_if (pt_cmpR op_eq (pe_fld (pv 0) (by rfl)) pe_str (nomark _)) (pss_one (ps_ret (pe_tup (pa_cons pe_str (pa_cons (pe_ix ix_list (pv 1) pe_int (fun _ _ => rfl)) pa_nil))))) pss_nil)
    (pss_cons (ps_if (pt_cmpR op_eq (pe_fld (pv 0) (by rfl)) pe_str (nomark _)) (pss_one (ps_ret (pe_tup (pa_cons pe_str (pa_cons (pe_fld (pv 0) (by rfl)) (pa_cons (pe_ix ix_list (pv 1) pe_int (fun _ _ => rfl)) (pa_cons (pe_ifExp (pt_cmpR op_gt (pe_callB call_len_seq (by rfl) B.len (by decide +kernel) (pa_cons (pv 1) pa_nil)) pe_int (nomark _)) (pe_ix ix_list (pv 1) pe_int (fun _ _ => rfl)) (pe_tup pa_nil)) pa_nil))))))) pss_nil)
    (pss_one (ps_ret (pe_tup (pa_cons (pe_fld (pv 0) (by rfl)) (pa_cons (pe_fld (pv 0) (by rfl)) (pa_cons (pe_ix ix_list (pv 1) pe_int (fun _ _ => rfl)) pa_nil))))))))), ?_⟩
  obtain ⟨dx, Ba, bl, h1, h2, h3, _⟩ := ho
  obtain ⟨hl, hbd⟩ := h3.bd
  refine ⟨_, rfl, x, CO, dx, _, _, rfl, h1, T.cls, T.nb, rfl, Ba, rfl, ⟨_, SqL.of h2⟩, fun D hD => lc_list (K := K) (a := Ba) (xs := bl.map V.ref) (fun i H3 => Ex H H3 ∧ ∃ ts, H3 D = some (.lst ts) ∧ TpL H3 ((o.bd.take i).map PyData.tuple) ts) ⟨Ex.new hD, _, upd_same, rfl⟩ (fun i H3 _ hP => SqL.of (hP.1 _ _ h2)) ?_ ?_⟩
  · intro i v H3 hi hP
    obtain ⟨e3, ts, h3D, hts⟩ := hP
    rw [List.getElem?_map] at hi
    cases hbi : bl[i]? with
    | none => rw [hbi] at hi; cases hi
    | some c =>
      rw [hbi] at hi
      cases hi
      obtain ⟨ds, hds, xs, hc, hxs⟩ := hbd i c hbi
      have hi2 : i < o.bd.length := (List.getElem?_eq_some_iff.mp hds).1
      have hts2 := hts.length
      have hb2 := o.bd_len
      refine ⟨rfl, _, rfl, c, xs, rfl, .inl ⟨SqL.of (e3 _ _ hc), fun l hl => ⟨ts, ?_, ?_, ?_, _, upd_same, ?_⟩⟩⟩
      · rw [upd_ne (ne_of_none h3D hl)]
        exact h3D
      · rw [hts2, List.length_map, List.length_take]
        exact small1000 (by omega)
      · exact (e3.trans (Ex.new hl)).mut hD
      · have k1 : TK H3 (upd H3 l (.tup xs)) := TK.new hl
        have h4 : (upd H3 l (.tup xs)) D = some (.lst ts) := by
          rw [upd_ne (ne_of_none h3D hl)]
          exact h3D
        have k2 : TK (upd H3 l (.tup xs)) (upd (upd H3 l (.tup xs)) D (.lst (ts ++ [.ref l]))) := TK.lst h4
        rw [take_more hds, List.map_append]
        refine TpL.append (TpL.mono (k1.trans k2) _ _ hts) (TpL.one ⟨l, xs, rfl, ?_, TpL.mono ((TK.of e3).trans (k1.trans k2)) _ _ hxs⟩)
        exact k2 _ _ upd_same
  · intro H3 hP
    obtain ⟨e3, ts, h3D, hts⟩ := hP
    rw [List.length_map, hl, List.take_length] at hts
    have hx3 := e3 _ _ h1
    have hF := SqL.of (K := K) h3D
    obtain ⟨t0, ht0, hT0⟩ : ∃ t, ts[0]? = some t ∧ Tp H3 (.tuple o.first) t := by
      have e : (o.bd.map PyData.tuple)[0]? = some (.tuple o.first) := by
        unfold Op.bd Op.first
        cases o.b0 <;> rfl
      exact hts.get e
    refine ⟨_, rfl, x, CO, dx, _, _, rfl, hx3, T.cls, T.nw, rfl, rfl, _, rfl, ?_⟩
    by_cases hf : o.word = "forever"
    · refine iteT' (decide_eq_true (by rw [hf])) ?_
      refine ⟨_, rfl, D, ts, 0, t0, rfl, rfl, hF, atI_nat (j := 0) ht0, (by show 2 ≤ sizeLine; decide), fun p hp => q _ _ (e3.trans (Ex.new hp)) ?_⟩
      unfold Op.part
      rw [if_pos hf]
      exact ⟨p, _, rfl, upd_same, _, _, rfl, rfl, _, _, rfl, Tp.mono (TK.new hp) _ _ hT0, rfl⟩
    refine iteF' (decide_eq_false (by intro z; exact hf (V.str.inj z))) ?_
    refine ⟨_, rfl, x, CO, dx, _, _, rfl, hx3, T.cls, T.nw, rfl, rfl, _, rfl, ?_⟩
    by_cases hi : o.word = "if"
    · refine iteT' (decide_eq_true (by rw [hi])) ?_
      refine ⟨_, rfl, x, CO, dx, _, _, rfl, hx3, T.cls, T.na, rfl, _, rfl, D, ts, 0, t0, rfl, rfl, hF, atI_nat (j := 0) ht0, ?_⟩
      have fin : ∀ (H4 : Hp) (t1 : V), Ex H3 H4 → Tp H4 (.tuple o.second) t1 → ([V.str "if", .int o.amt, t0, t1] : List V).length ≤ sizeLine ∧ ∀ p, H4 p = none → Q (.ref p) (upd H4 p (.tup [V.str "if", .int o.amt, t0, t1])) := fun H4 t1 e4 hT1 => by
        refine ⟨(by show 4 ≤ sizeLine; decide), fun p hp => q _ _ (e3.trans (e4.trans (Ex.new hp))) ?_⟩
        unfold Op.part
        rw [if_neg hf, if_pos hi]
        exact ⟨p, _, rfl, upd_same, _, _, rfl, rfl, _, _, rfl, rfl, _, _, rfl, Tp.mono ((TK.of e4).trans (TK.new hp)) _ _ hT0, _, _, rfl, Tp.mono (TK.new hp) _ _ hT1, rfl⟩
      refine ⟨_, rfl, D, ts, rfl, .inl hF, _, _, rfl, rfl, _, rfl, ?_⟩
      have htl := hts.length
      rw [List.length_map] at htl
      cases hb : o.b0 with
      | none =>
        have e : o.bd.length = 1 := by unfold Op.bd; rw [hb]; rfl
        refine iteF' (decide_eq_false (by rw [htl, e]; decide)) ?_
        refine ⟨Nat.zero_le _, fun p hp => fin _ _ (Ex.new hp) ?_⟩
        have e2 : o.second = [] := by unfold Op.second; rw [hb]
        rw [e2]
        exact ⟨p, _, rfl, upd_same, rfl⟩
      | some b =>
        have e : o.bd.length = 2 := by unfold Op.bd; rw [hb]; rfl
        refine iteT' (decide_eq_true (by rw [htl, e]; decide)) ?_
        obtain ⟨t1, ht1, hT1⟩ : ∃ t, ts[1]? = some t ∧ Tp H3 (.tuple o.second) t := by
          have e : (o.bd.map PyData.tuple)[1]? = some (.tuple o.second) := by
            unfold Op.bd Op.second
            rw [hb]
            rfl
          exact hts.get e
        exact ⟨_, rfl, D, ts, 1, t1, rfl, rfl, hF, atI_nat (j := 1) ht1, fin _ _ (Ex.refl _) hT1⟩
    refine iteF' (decide_eq_false (by intro z; exact hi (V.str.inj z))) ?_
    refine ⟨_, rfl, x, CO, dx, _, _, rfl, hx3, T.cls, T.nw, rfl, _, rfl, x, CO, dx, _, _, rfl, hx3, T.cls, T.na, rfl, _, rfl, D, ts, 0, t0, rfl, rfl, hF, atI_nat (j := 0) ht0, (by show 3 ≤ sizeLine; decide), fun p hp => q _ _ (e3.trans (Ex.new hp)) ?_⟩
    unfold Op.part
    rw [if_neg hf, if_neg hi]
    exact ⟨p, _, rfl, upd_same, _, _, rfl, rfl, _, _, rfl, rfl, _, _, rfl, Tp.mono (TK.new hp) _ _ hT0, rfl⟩
end
end Pk

namespace Pk
open PySem PySem.Spec PyProof.Rows L2 Evl
abbrev sPi : Stmt := inClass (top 26) 0
abbrev sNum : Stmt := inClass (top 26) 1
abbrev sSize : Stmt := inClass (top 26) 2
abbrev sTake : Stmt := inClass (top 26) 3
abbrev sTurn : Stmt := inClass (top 26) 4
abbrev sPart : Stmt := inClass (top 26) 5
/-! ### raise BadLine(l, k) -/
structure BadK (P : Program) (w : World) (K : PySem.W.Frag) (mg : Str → Option Value) (base : Heap) (C : Addr) : Prop where
  ex : ∃ (fI cc cda : Addr) (fd : FuncData), BlT P K mg C fI cc cda fd ∧ FnOk P w K mg base CX0 1 fI fd ["self", "line", "word"] (spBl C) ∧ Binds K fd ["self", "line", "word"] []
/-- what is wished where BadLine(l, k) leaves: H is what stood -/
def Err (C : Addr) (E : XK) (H : Hp) (l k : Int) : Prop := ∀ (d : Addr) (H' : Hp), Ex H H' → H' d = some (.xd [("word", .int k), ("line", .int l)]) → E (.ref C) (some d) H'
theorem Err.of {C : Addr} {E : XK} {H H1 : Hp} {l k : Int} (h : Err C E H l k) (e : Ex H H1) : Err C E H1 l k := fun d H' e1 => h d H' (e.trans e1)
def tBad (C : Addr) (W : WX) (ta : TA) : TS := fun _ σ H => ta σ H fun vs H1 => ∃ l k : Int, vs = [.int l, .int k] ∧ Err C (fun cls d H' => W cls d σ H') H1 l k
theorem pa_up {X : Cx} {es : List Expr} {t : TA} (ha : PA X es t) : PA X es (fun σ H Q => ∃ R : List V → Hp → Prop, t σ H R ∧ ∀ vs H1, R vs H1 → Q vs H1) := by
  refine ⟨fun pos pins s σ H Q I h => ?_⟩
  obtain ⟨R, h1, h2⟩ := h
  refine thn (ha.run pos pins s σ H R I h1) fun us s1 hh => ?_
  obtain ⟨vs, H1, I1, r1, q⟩ := hh
  exact ⟨vs, H1, I1, r1, h2 vs H1 q⟩
theorem ps_bad {X : Cx} {W : WX} {C : Addr} {p pos pos' : Pos} {e1 e2 : Expr} {ta : TA} (T : BadK X.prog X.w X.K X.mg X.base C) (hr : Room 2 X.A) (hc : X.calm = true) (tk : Takes X W) (hg : Gl X "BadLine") (ha : PA X [e1, e2] ta)
    (he : starEach [e1, e2] X.env = (false, eval e1 X.env) :: starEach [e2] X.env := by rfl) (hpl : (backTo pos (starEach [e2] X.env)).any (·.1) = false := by rfl) :
    PS X (.Raise (some (.Call (.Name "BadLine" p) [e1, e2] [] pos)) none pos') (tBad C W ta) := by
  obtain ⟨fI, cc, cda, fd, t, f, b⟩ := T.ex
  have g : PS X (.Raise (some (.Call (.Name "BadLine" p) [e1, e2] [] pos)) none pos') _ := ps_raise hc tk (pmk_oex t.oex t.ini t.typ f hr b .nil pass0 hg t.gC (pa_up ha) (by decide) he hpl)
  refine ⟨fun pins s σ H D I h => g.run pins s σ H D I ⟨_, h, fun vs H1 hh => ?_⟩⟩
  obtain ⟨l, k, rfl, er⟩ := hh
  refine ⟨(by show 2 ≤ 1000; decide), fun a ha => ⟨a, .int l, .int k, rfl, upd_same, fun dx hdx hne => ⟨rfl, dx, _, ?_, upd_same, ?_, ?_⟩⟩⟩
  · rw [upd_ne (Ne.symm hne), upd_same]
  · rw [upd_ne hne] at hdx
    exact hdx
  · refine er dx _ (fun b o e => ?_) upd_same
    rw [upd_ne hne] at hdx
    have h1 : b ≠ dx := ne_of_none e hdx
    have h2 : b ≠ a := ne_of_none e ha
    rw [upd_ne h1, del_ne h2, upd_ne h1, upd_ne h2, upd_ne h1, upd_ne h2]
    exact e
theorem nne {a b : V} (h : a ≠ b) : (!decide (a = b)) = true := by
  rw [decide_eq_false h]
  rfl
theorem int_fig : ∀ c ∈ figs, PySem.intText? ⟨#[c]⟩ = some ((c : Int) - 48) := by decide +kernel
theorem tl_one {x : Str} {c : Nat} (h : TL.tl x = [c]) : x = ⟨#[c]⟩ := by
  obtain ⟨a⟩ := x
  obtain ⟨l⟩ := a
  have e : l = [c] := h
  rw [e]
section
variable {P : Program} {w : World} {K : PySem.W.Frag} {mg : Str → Option Value} {base : Heap}
/-! ### Planner.number -/
def spNum (C : Addr) : Sp := fun vs H Q E => ∃ (a wl : Addr) (l lo hi : Int) (ws : List Str), vs = [.ref a, .int l, .ref wl, .int lo, .int hi] ∧ H wl = some (.lst (ws.map V.str)) ∧ (∀ x ∈ ws, x.length ≤ sizeLine) ∧
  (∀ k, numb ws lo hi = some k → Q (.int k) H) ∧ (numb ws lo hi = none → Err C E H l 2)
theorem scNum : FnScope ["self", "line", "words", "least", "most", "word"] ["self", "line", "words", "least", "most"] (defScope sNum) := ⟨rfl, rfl, rfl, by decide +kernel, rfl, by decide +kernel, by decide +kernel⟩
theorem ok_num {C f : Addr} {fd : FuncData} (F : Fun K "number" "Planner.number" sNum f fd) (T : BadK P w K mg base C) (B : Blt mg) {tF : Tok} (gF : mg "FIGURES" = some (.str "0123456789" tF)) :
    FnOk P w K mg base (L2.CX P w) 3 f fd ["self", "line", "words", "least", "most"] (spNum C) := by
  refine F.okX scNum (fun vs H Q E h => ?_) (fun cdv A outer s H vs Q E hr h => ?_)
  · obtain ⟨a, wl, l, lo, hi, ws, rfl, _⟩ := h
    rfl
  obtain ⟨a, wl, l, lo, hi, ws, rfl, hw, hz, q1, q2⟩ := h
  have hrB := hr
  have tk : Takes (cxOf (L2.CX P w) P w K mg base ["self", "line", "words", "least", "most", "word"] "Planner.number" (defScope sNum) f cdv A outer s H E) (fun cls d _ H => E cls d H) := takes_of rfl rfl rfl rfl
  refine ⟨_, (pss_cons (ps_set (i := 5) scNum.nd (by rfl) (.inl rfl) (pe_ifExp (pt_cmpR op_gt (pe_callB call_len_seq (by rfl) B.len (by decide +kernel) (pa_cons (pv 2) pa_nil)) pe_int (nomark _)) (pe_ix ix_list (pv 2) pe_int (fun _ _ => rfl)) pe_str))
    (pss_cons (ps_if (PW.pt (pw_or (pt_cmpR op_ne (pe_callB call_len_str (by rfl) B.len (by decide +kernel) (pa_cons (pv 5) pa_nil)) pe_int (nomark _)) (pw_or (pt_cmpR op_notIn_sign (pv 5) (pe_glob (v := .str "0123456789") (by rfl) gF ⟨_, rfl⟩) (by rfl)) (pw_or1 (pt_not (pt_chain op_le op_le (pv 3) (pe_callTy call_int_str (by rfl) B.int (by decide +kernel) (pa_cons (pv 5) pa_nil)) (pv 4))))))) (pss_one (ps_bad T hrB (by rfl) tk (by rfl) (pa_cons (pv 1) (pa_cons pe_int pa_nil)))) pss_nil)
    (pss_one (ps_ret (pe_callTy call_int_str (by rfl) B.int (by decide +kernel) (pa_cons (pv 5) pa_nil)))))), ?_⟩
  have hq := SqL.of (K := K) hw
  refine ⟨_, rfl, wl, _, rfl, .inl hq, _, _, rfl, rfl, _, rfl, ?_⟩
  have miss : ∀ wd : Str, wd.length ≠ 1 → (!decide (V.int (wd.length : Int) = V.int 1)) = true := fun wd h => nne fun z => h (by have := V.int.inj z; omega)
  rcases ws with _ | ⟨w0, _ | ⟨w1, r⟩⟩
  · refine iteF' rfl ?_
    refine ⟨_, rfl, "", rfl, Nat.zero_le _, rfl, _, rfl, iteT' (miss _ (by decide)) (iteT' rfl ⟨_, rfl, l, 2, rfl, q2 rfl⟩)⟩
  · refine iteF' rfl ?_
    refine ⟨_, rfl, "", rfl, Nat.zero_le _, rfl, _, rfl, iteT' (miss _ (by decide)) (iteT' rfl ⟨_, rfl, l, 2, rfl, q2 rfl⟩)⟩
  · refine iteT' (decide_eq_true (by simp; omega)) ?_
    refine ⟨_, rfl, wl, _, 1, .str w1, rfl, rfl, hq, atI_nat (j := 1) rfl, ?_⟩
    have hz1 := hz w1 (by simp)
    refine ⟨_, rfl, w1, rfl, hz1, rfl, _, rfl, ?_⟩
    have hlt : w1.length = (TL.tl w1).length := rfl
    have hnu : numb (w0 :: w1 :: r) lo hi = match TL.tl w1 with
      | [c] => if c ∈ figs ∧ lo ≤ (c : Int) - 48 ∧ (c : Int) - 48 ≤ hi then some ((c : Int) - 48) else none
      | _ => none := rfl
    rcases ht : TL.tl w1 with _ | ⟨c, _ | ⟨c2, t⟩⟩
    · rw [ht] at hnu hlt
      exact iteT' (miss _ (by rw [hlt]; decide)) (iteT' rfl ⟨_, rfl, l, 2, rfl, q2 hnu⟩)
    · rw [ht] at hnu hlt
      have ew := tl_one ht
      refine iteF' (ndec (by rw [hlt]; rfl)) ?_
      have ef : ("0123456789" : Str).cps.toList = figs := by decide +kernel
      refine ⟨_, rfl, c, "0123456789", by rw [ew], rfl, _, rfl, ?_⟩
      rw [ef]
      by_cases hc : c ∈ figs
      · refine iteF' (by rw [decide_eq_true hc]; rfl) ?_
        have hi1 := int_fig c hc
        refine ⟨_, rfl, _, rfl, w1, _, rfl, (by rw [ew]; exact hi1), (by rw [hlt]; show 1 ≤ 640; decide), _, _, rfl, rfl, _, rfl, ?_⟩
        by_cases h1 : lo ≤ (c : Int) - 48
        · refine iteT' (decide_eq_true h1) ?_
          refine ⟨_, rfl, _, _, rfl, rfl, _, rfl, ?_⟩
          by_cases h2 : (c : Int) - 48 ≤ hi
          · refine iteF' (by rw [decide_eq_true h2]; rfl) ?_
            refine ⟨_, rfl, w1, _, rfl, (by rw [ew]; exact hi1), (by rw [hlt]; show 1 ≤ 640; decide), ?_⟩
            exact q1 _ (by rw [hnu]; exact if_pos ⟨hc, h1, h2⟩)
          · refine iteT' (by rw [decide_eq_false h2]; rfl) ?_
            exact ⟨_, rfl, l, 2, rfl, q2 (by rw [hnu]; exact if_neg fun z => h2 z.2.2)⟩
        · refine iteF' (decide_eq_false h1) ?_
          exact ⟨_, rfl, iteT' rfl ⟨_, rfl, l, 2, rfl, q2 (by rw [hnu]; exact if_neg fun z => h1 z.2.1)⟩⟩
      · refine iteT' (by rw [decide_eq_false hc]; rfl) (iteT' rfl ⟨_, rfl, l, 2, rfl, q2 (by rw [hnu]; exact if_neg fun z => hc z.1)⟩)
    · rw [ht] at hnu hlt
      exact iteT' (miss _ (by rw [hlt]; simp)) (iteT' rfl ⟨_, rfl, l, 2, rfl, q2 hnu⟩)
/-! ### Planner.need_size -/
def spSize (C : Addr) : Sp := fun vs H Q E => ∃ (a wl : Addr) (l : Int) (n : Nat) (ws : List Str), vs = [.ref a, .int l, .ref wl, .int n] ∧ H wl = some (.lst (ws.map V.str)) ∧
  (ws.length = n → Q .non H) ∧ (ws.length ≠ n → Err C E H l ((min ws.length n + 1 : Nat) : Int))
theorem scSize : FnScope ["self", "line", "words", "size"] ["self", "line", "words", "size"] (defScope sSize) := ⟨rfl, rfl, rfl, by decide +kernel, rfl, by decide +kernel, by decide +kernel⟩
theorem ok_size {C f : Addr} {fd : FuncData} (F : Fun K "need_size" "Planner.need_size" sSize f fd) (T : BadK P w K mg base C) (B : Blt mg) :
    FnOk P w K mg base (L2.CX P w) 3 f fd ["self", "line", "words", "size"] (spSize C) := by
  refine F.okX scSize (fun vs H Q E h => ?_) (fun cdv A outer s H vs Q E hr h => ?_)
  · obtain ⟨a, wl, l, n, ws, rfl, _⟩ := h
    rfl
  obtain ⟨a, wl, l, n, ws, rfl, hw, q1, q2⟩ := h
  have hrB := hr
  have tk : Takes (cxOf (L2.CX P w) P w K mg base ["self", "line", "words", "size"] "Planner.need_size" (defScope sSize) f cdv A outer s H E) (fun cls d _ H => E cls d H) := takes_of rfl rfl rfl rfl
  refine ⟨_, (pss_one (ps_if (pt_cmpR op_ne (pe_callB call_len_seq (by rfl) B.len (by decide +kernel) (pa_cons (pv 2) pa_nil)) (pv 3) (nomark _)) (pss_one (ps_bad T hrB (by rfl) tk (by rfl) (pa_cons (pv 1) (pa_cons (pe_op op_add (pe_callB (call_min2 rfl) (by rfl) B.min (by decide +kernel) (pa_cons (pe_callB call_len_seq (by rfl) B.len (by decide +kernel) (pa_cons (pv 2) pa_nil)) (pa_cons (pv 3) pa_nil))) pe_int) pa_nil)))) pss_nil)), ?_⟩
  have hq := SqL.of (K := K) hw
  refine ⟨_, rfl, wl, _, rfl, .inl hq, _, rfl, rfl, _, rfl, ?_⟩
  by_cases e : ws.length = n
  · refine iteF' (ndec (by rw [List.length_map, e])) ?_
    exact q1 e
  · refine iteT' (nne fun z => e (by have := V.int.inj z; rw [List.length_map] at this; omega)) ?_
    refine ⟨_, rfl, _, rfl, wl, _, rfl, .inl hq, _, rfl, _, _, rfl, _, _, rfl, rfl, l, _, rfl, ?_⟩
    have h := q2 e
    have e2 : ((min ws.length n + 1 : Nat) : Int) = (if (n : Int) < ((ws.map V.str).length : Int) then (n : Int) else ((ws.map V.str).length : Int)) + 1 := by
      rw [List.length_map]
      split <;> omega
    rw [e2] at h
    exact h
end
end Pk

namespace Pk
open PySem PySem.Spec PyProof.Rows L2 Evl
structure HasM (P : Program) (w : World) (K : PySem.W.Frag) (mg : Str → Option Value) (base : Heap) (T : CXT) (k : Nat) (C : Addr) (m : Str) (ps : List Str) (sp : Sp) : Prop where
  ex : ∃ (g : Addr) (fd : FuncData), FnOk P w K mg base T k g fd ps sp ∧ Meth K C m g ∧ Binds K fd ps []
section
variable {X : Cx} {CT : CXT} {k : Nat} {C : Addr} {ps : List Str} {sp : Sp} {E : XK} {m : Str} {apos pos : Pos} {o e : Expr} {es : List Expr} {t : TA} {ta : TE}
theorem pe_mh {pl : Sem Bool} (h : HasM X.prog X.w X.K X.mg X.base CT k C m ps sp) (c : Cls X.K C) (hr : Room k X.A) (hx : Passes CT X E) (he : PE X o ta) (ha : PA X (e :: es) t)
    (hst : starEach (e :: es) X.env = (false, eval e X.env) :: starEach es X.env := by rfl) (hpl : (backTo pos (starEach es X.env)).any (·.1) = false := by rfl)
    (ht : eval (.Call (.Attribute o m apos) (e :: es) [] pos) X.env = (do
      let ov ← eval o X.env
      standAt apos.atName
      let (f, first) ← holding [ov] (getMethod ov m pl)
      callWith pos f first (backTo pos (starEach (e :: es) X.env)) (backToKw pos (keywordEach [] X.env))) := by rfl) :
    PE X (.Call (.Attribute o m apos) (e :: es) [] pos) (tMeth C m sp [] E ta t) := by
  obtain ⟨g, fd, f, mm, b⟩ := h.ex
  exact pe_meth he c mm f hr b .nil hx ha hst hpl ht
theorem pe_mh0 {pl : Sem Bool} (h : HasM X.prog X.w X.K X.mg X.base CT k C m ps sp) (c : Cls X.K C) (hr : Room k X.A) (hx : Passes CT X E) (he : PE X o ta)
    (ht : eval (.Call (.Attribute o m apos) [] [] pos) X.env = (do
      let ov ← eval o X.env
      standAt apos.atName
      let (f, first) ← holding [ov] (getMethod ov m pl)
      callWith pos f first (backTo pos (starEach [] X.env)) (backToKw pos (keywordEach [] X.env))) := by rfl) :
    PE X (.Call (.Attribute o m apos) [] [] pos) (tMeth C m sp [] E ta tNil) := by
  obtain ⟨g, fd, f, mm, b⟩ := h.ex
  exact pe_meth0 he c mm f hr b .nil hx ht
end
/-- what the top has written of the class Planner -/
structure PlT (K : PySem.W.Frag) (CP : Addr) : Prop where
  cls : Cls K CP
  nc : NoAttr K CP "colours"
  nt : NoAttr K CP "tower"
  np : NoAttr K CP "parts"
theorem rev_last {x : Addr} {vr : List Addr} : atI ((x :: vr).reverse.map V.ref) (-1) = some (.ref x) := by
  refine atI_m1 ?_
  rw [List.reverse_cons, List.map_append]
  simp
theorem live_ne {H : Hp} {b n : Addr} {o : HO} (h : H b = some o) (hn : H n = none) : b ≠ n := fun e => by
  rw [e, hn] at h
  cases h
/-- else: a second block -/
theorem pl_else {CP CO : Addr} {H0 H : Hp} {a dx T x Bo n dxo : Addr} {vr bl owr : List Addr} {p : Pl} {o : Op} {r : List Op} (ex : Ex H0 H) (h1 : H a = some (.ins CP dx (fsP p T))) (h2 : H T = some (.lst ((x :: vr).reverse.map V.ref)))
    (k1 : H x = some (.ins CO dxo (fsO o Bo))) (k2 : H Bo = some (.lst (bl.map V.ref))) (k3 : BlsH H o bl) (hr : TowH CO H r vr owr) (h4 : (a :: T :: (x :: Bo :: bl ++ owr)).Nodup) (h5 : ∀ b ∈ a :: T :: (x :: Bo :: bl ++ owr), H0 b = none)
    (hb : o.b0 = none) (hn : H n = none) : PlH CP CO H0 (upd (upd H n (.lst [])) Bo (.lst (bl.map V.ref ++ [.ref n]))) a { p with tow := { o with b0 := some o.cur, cur := [] } :: r } := by
  have hB : H0 Bo = none := h5 Bo (by simp)
  have hn0 : H0 n = none := by
    cases e : H0 n with
    | none => rfl
    | some u => rw [ex n u e] at hn; cases hn
  have lv : ∀ b ∈ x :: Bo :: bl ++ owr, b ≠ n := fun b hb e => by
    have z : TowH CO H (o :: r) (x :: vr) (x :: Bo :: bl ++ owr) := ⟨x, vr, x :: Bo :: bl, owr, rfl, rfl, ⟨dxo, Bo, bl, k1, k2, k3, rfl⟩, hr⟩
    exact z.live b hb (e ▸ hn)
  have hBn := lv Bo (by simp)
  have k : TK (upd H n (.lst [])) (upd (upd H n (.lst [])) Bo (.lst (bl.map V.ref ++ [.ref n]))) := by
    refine TK.lst (ys := bl.map V.ref) ?_
    rw [upd_ne hBn]
    exact k2
  have kk : TK H (upd (upd H n (.lst [])) Bo (.lst (bl.map V.ref ++ [.ref n]))) := (TK.new hn).trans k
  have st : ∀ b, b ≠ Bo → b ≠ n → (upd (upd H n (.lst [])) Bo (.lst (bl.map V.ref ++ [.ref n]))) b = H b := fun b e1 e2 => by rw [upd_ne e1, upd_ne e2]
  have nd := h4
  simp only [List.nodup_cons, List.mem_cons, List.cons_append, List.mem_append, not_or, List.nodup_append] at nd
  obtain ⟨⟨na1, na2, na3, na4, na5⟩, ⟨nt1, nt2, nt3, nt4⟩, ⟨nx1, nx2, nx3⟩, ⟨nb1, nb2⟩, nbl, no, nbo⟩ := nd
  refine ⟨ex_new (ex.trans (Ex.new hn)) hB, dx, T, x :: vr, (x :: Bo :: (bl ++ [n])) ++ owr, ?_, ?_, ⟨x, vr, _, owr, rfl, rfl, ⟨dxo, Bo, bl ++ [n], ?_, ?_, ?_, rfl⟩, hr.same ⟨fun b hb => st b (fun e => nb2 (e ▸ hb)) (lv b (by simp [hb])), kk⟩⟩, ?_, ?_⟩
  · rw [st a na3 (live_ne h1 hn)]
    exact h1
  · rw [st T nt2 (live_ne h2 hn)]
    exact h2
  · rw [st x nx1 (lv x (by simp))]
    exact k1
  · rw [upd_same, List.map_append]
    rfl
  · obtain ⟨pre, c, e, hc, hh⟩ := k3
    rcases hh with ⟨_, e2⟩ | ⟨b, p, e2, _⟩
    · subst e2
      subst e
      exact ⟨[c], n, rfl, ⟨[], by rw [upd_ne (Ne.symm hBn), upd_same], rfl⟩, .inr ⟨o.cur, c, rfl, rfl, hc.same (st c (fun e => nb1 (by rw [← e]; simp)) (lv c (by simp))) kk⟩⟩
    · rw [hb] at e2
      cases e2
  · have e : (a :: T :: ((x :: Bo :: (bl ++ [n])) ++ owr)).Perm (n :: (a :: T :: (x :: Bo :: bl ++ owr))) := by
      have e1 : (a :: T :: ((x :: Bo :: (bl ++ [n])) ++ owr)) = (a :: T :: x :: Bo :: bl) ++ (n :: owr) := by simp
      have e2 : (a :: T :: (x :: Bo :: bl ++ owr)) = (a :: T :: x :: Bo :: bl) ++ owr := by simp
      rw [e1, e2]
      exact List.perm_middle
    refine e.nodup_iff.mpr (List.nodup_cons.mpr ⟨fun hm => ?_, h4⟩)
    rcases List.mem_cons.mp hm with e | hm
    · exact live_ne h1 hn e.symm
    rcases List.mem_cons.mp hm with e | hm
    · exact live_ne h2 hn e.symm
    exact lv n hm rfl
  · intro b hm
    have : b = n ∨ b ∈ a :: T :: (x :: Bo :: bl ++ owr) := by
      simp only [List.mem_cons, List.mem_append, List.cons_append, List.mem_singleton] at hm ⊢
      simp only [List.not_mem_nil, or_false] at hm
      rcases hm with h | h | h | h | (h | h) | h <;> simp [h]
    rcases this with e | hm
    · rw [e]
      exact hn0
    · exact h5 b hm
/-- the innermost block gets a part -/
theorem pl_put {CP CO : Addr} {H0 H1 : Hp} {a dx T y : Addr} {vr ow owr : List Addr} {p : Pl} {o : Op} {r : List Op} (ex : Ex H0 H1) (h1 : H1 a = some (.ins CP dx (fsP p T))) (h2 : H1 T = some (.lst ((y :: vr).reverse.map V.ref)))
    (ho : OpH CO H1 o y ow) (hr : TowH CO H1 r vr owr) (h4 : (a :: T :: (ow ++ owr)).Nodup) (h5 : ∀ b ∈ a :: T :: (ow ++ owr), H0 b = none) :
    ∃ (dxo B : Addr) (bl : List Addr) (c : Addr) (xs : List V), H1 y = some (.ins CO dxo (fsO o B)) ∧ H1 B = some (.lst ((bl ++ [c]).map V.ref)) ∧ H1 c = some (.lst xs) ∧ xs.length = o.cur.length ∧
      ∀ (H2 : Hp) (d : PyData) (v : V), Ex H1 H2 → Tp H2 d v → PlH CP CO H0 (upd H2 c (.lst (xs ++ [v]))) a { p with tow := { o with cur := o.cur ++ [d] } :: r } := by
  have nd := h4
  simp only [List.nodup_cons, List.mem_cons, List.mem_append, not_or, List.nodup_append] at nd
  obtain ⟨⟨na1, na2, na3⟩, ⟨nt1, nt2⟩, no1, no2, no3⟩ := nd
  obtain ⟨dxo, B, bl, c, xs, k1, k2, k3, k4, k5, k6⟩ := ho.put no1
  refine ⟨dxo, B, bl, c, xs, k1, k2, k3, k4, fun H2 d v e hv => ?_⟩
  have hc2 := e _ _ k3
  have k : TK H2 (upd H2 c (.lst (xs ++ [v]))) := TK.lst hc2
  refine ⟨ex_new (ex.trans e) (h5 c (by simp [k5])), dx, T, y :: vr, ow ++ owr, ?_, ?_, ⟨y, vr, ow, owr, rfl, rfl, k6 d v H2 (Same.ex e ho.live) hv, hr.same ⟨fun b hb => ?_, (TK.of e).trans k⟩⟩, h4, h5⟩
  · rw [upd_ne (fun z => na2 (by rw [z]; exact k5))]
    exact e _ _ h1
  · rw [upd_ne (fun z => nt1 (by rw [z]; exact k5))]
    exact e _ _ h2
  · rw [upd_ne (fun z => no3 c k5 b hb z.symm)]
    exact (Same.ex e hr.live).1 b hb
section
variable {P : Program} {w : World} {K : PySem.W.Frag} {mg : Str → Option Value} {base : Heap}
/-! ### Planner.take_turn -/
def spTurn (CP CO C : Addr) : Sp := fun vs H Q E => ∃ (a wl : Addr) (l : Int) (H0 : Hp) (p : Pl) (first : Str) (rest : List Str), vs = [.ref a, .int l, .ref wl] ∧ PlH CP CO H0 H a p ∧ Good p ∧ H0 wl = some (.lst ((first :: rest).map V.str)) ∧
  (∀ q, takeTurn p first (first :: rest) = .ok q → ∀ H', PlH CP CO H0 H' a q → Q .non H') ∧ (∀ k : Nat, takeTurn p first (first :: rest) = .error k → Err C E H0 l k)
theorem scTurn : FnScope ["self", "line", "words", "top"] ["self", "line", "words"] (defScope sTurn) := ⟨rfl, rfl, rfl, by decide +kernel, rfl, by decide +kernel, by decide +kernel⟩
theorem ok_turn {CP CO C f : Addr} {fd : FuncData} (F : Fun K "take_turn" "Planner.take_turn" sTurn f fd) (T : BadK P w K mg base C) (B : Blt mg) (TP : PlT K CP) (TO : OpT K CO)
    (MS : HasM P w K mg base (L2.CX P w) 3 CP "need_size" ["self", "line", "words", "size"] (spSize C)) (MO : HasM P w K mg base CX0 1 CO "part" ["self"] (spOp CO)) :
    FnOk P w K mg base (L2.CX P w) 4 f fd ["self", "line", "words"] (spTurn CP CO C) := by
  refine F.okX scTurn (fun vs H Q E h => ?_) (fun cdv A outer s H vs Q E hr h => ?_)
  · obtain ⟨a, wl, l, H0, p, first, rest, rfl, _⟩ := h
    rfl
  obtain ⟨a, wl, l, H0, p, first, rest, rfl, hp, g, hw, q1, q2⟩ := h
  have hrS := hr
  have hrB := hr.mono (show 2 ≤ 3 by decide)
  have hrO := hr.mono (show 1 ≤ 3 by decide)
  have tk : Takes (cxOf (L2.CX P w) P w K mg base ["self", "line", "words", "top"] "Planner.take_turn" (defScope sTurn) f cdv A outer s H E) (fun cls d _ H => E cls d H) := takes_of rfl rfl rfl rfl
  refine ⟨_, (pss_cons (ps_set (i := 3) scTurn.nd (by rfl) (.inl rfl) (pe_ix ix_list (pe_fld (pv 0) (by rfl)) (pe_un un_neg pe_int) (fun _ _ => rfl)))
    (pss_cons (ps_if (PW.pt (pw_or (pt_cmpR op_eq (pe_callB call_len_seq (by rfl) B.len (by decide +kernel) (pa_cons (pe_fld (pv 0) (by rfl)) pa_nil)) pe_int (nomark _)) (pw_or1 (PW.pt (pw_and (pt_cmpR op_eq (pe_ix ix_list (pv 2) pe_int (fun _ _ => rfl)) pe_str (nomark _)) (pw_and1 (PW.pt (pw_or (pt_cmpR op_ne (pe_fld (pv 3) (by rfl)) pe_str (nomark _)) (pw_or1 (pt_cmpR op_gt (pe_callB call_len_seq (by rfl) B.len (by decide +kernel) (pa_cons (pe_fld (pv 3) (by rfl)) pa_nil)) pe_int (nomark _))))))))))) (pss_one (ps_bad T hrB (by rfl) tk (by rfl) (pa_cons (pv 1) (pa_cons pe_int pa_nil)))) pss_nil)
    (pss_cons (ps_expr (pe_mh MS TP.cls hrS (passes_call (E := E) tk fun _ _ _ _ h => h) (pv 0) (pa_cons (pv 1) (pa_cons (pv 2) (pa_cons pe_int pa_nil)))))
    (pss_one (ps_if (pt_cmpR op_eq (pe_ix ix_list (pv 2) pe_int (fun _ _ => rfl)) pe_str (nomark _)) (pss_one (ps_expr (pe_bm PySem.F.plainAttrs_list PySem.F.slot_list_append PySem.F.type_list_append mt_append (pe_fld (pv 3) (by rfl)) (pa_cons (pe_lst pa_nil) pa_nil)))) (pss_cons (ps_expr (pe_bm0 PySem.F.plainAttrs_list PySem.F.slot_list_pop PySem.F.type_list_pop mt_pop (pe_fld (pv 0) (by rfl))))
    (pss_one (ps_expr (pe_bm PySem.F.plainAttrs_list PySem.F.slot_list_append PySem.F.type_list_append mt_append (pe_ix ix_list (pe_fld (pe_ix ix_list (pe_fld (pv 0) (by rfl)) (pe_un un_neg pe_int) (fun _ _ => rfl)) (by rfl)) (pe_un un_neg pe_int) (fun _ _ => rfl)) (pa_cons (pe_mh0 MO TO.cls hrO pass0 (pv 3)) pa_nil)))))))))), ?_⟩
  have hw1 := SqL.of (K := K) (hp.ex _ _ hw)
  obtain ⟨dx, Ta, vs, own, h1, h2, h3, h4, h5⟩ := hp.at_
  obtain ⟨o, r, x, vr, ow, owr, eo, rfl, rfl, ho, hr2⟩ := h3.top g.ne
  obtain ⟨dxo, Bo, bl, k1, k2, k3, rfl⟩ := ho
  have hT := SqL.of (K := K) h2
  refine ⟨_, rfl, a, CP, dx, _, _, rfl, h1, TP.cls, TP.nt, rfl, 1, rfl, Ta, _, -1, .ref x, rfl, rfl, hT, rev_last, ?_⟩
  refine ⟨_, rfl, a, CP, dx, _, _, rfl, h1, TP.cls, TP.nt, rfl, Ta, _, rfl, .inl hT, rfl, _, rfl, ?_⟩
  have hlen := h3.length
  rcases r with _ | ⟨o2, r⟩
  · have hv : vr = [] := by
      have : (x :: vr).length = 1 := by rw [hlen, eo]; rfl
      simpa using this
    subst hv
    refine iteT' rfl (iteT' rfl ⟨_, rfl, l, 1, rfl, (q2 1 ?_).of hp.ex⟩)
    unfold takeTurn
    rw [eo]
  have hv1 : vr ≠ [] := by
    intro e
    subst e
    rw [eo] at hlen
    simp at hlen
  refine iteF' (decide_eq_false (fun z => hv1 ?_)) ?_
  · have := V.int.inj z
    rw [List.length_map, List.length_reverse, List.length_cons] at this
    exact List.length_eq_zero_iff.mp (by omega)
  have hTT : takeTurn p first (first :: rest) = if first = "else" ∧ (o.word ≠ "if" ∨ o.b0.isSome = true) then .error 1
      else size (first :: rest) 1 (if first = "else" then { p with tow := { o with b0 := some o.cur, cur := [] } :: o2 :: r } else { p with tow := { o2 with cur := o2.cur ++ [o.part] } :: r }) := by
    unfold takeTurn
    rw [eo]
  refine ⟨_, rfl, wl, _, 0, .str first, rfl, rfl, hw1, atI_nat (j := 0) rfl, rfl, _, rfl, ?_⟩
  by_cases hel : first = "else"
  · refine iteT' (decide_eq_true (by rw [hel])) ?_
    refine ⟨_, rfl, x, CO, dxo, _, _, rfl, k1, TO.cls, TO.nw, rfl, rfl, _, rfl, ?_⟩
    by_cases hif : o.word = "if"
    · refine iteF' (ndec (by rw [hif])) ?_
      refine ⟨_, rfl, x, CO, dxo, _, _, rfl, k1, TO.cls, TO.nb, rfl, Bo, _, rfl, .inl (SqL.of k2), _, _, rfl, rfl, _, rfl, ?_⟩
      have hbl := k3.bd.1
      cases hb : o.b0 with
      | some b =>
        have e2 : o.bd.length = 2 := by unfold Op.bd; rw [hb]; rfl
        refine iteT' (decide_eq_true (by rw [List.length_map, hbl, e2]; decide)) ⟨_, rfl, l, 1, rfl, (q2 1 ?_).of hp.ex⟩
        rw [hTT, if_pos ⟨hel, .inr (by rw [hb]; rfl)⟩]
      | none =>
        have e2 : o.bd.length = 1 := by unfold Op.bd; rw [hb]; rfl
        refine iteF' (decide_eq_false (by rw [List.length_map, hbl, e2]; decide)) ?_
        rw [if_neg (fun z => by
          rcases z.2 with z | z
          · exact z hif
          · rw [hb] at z; cases z), if_pos hel] at hTT
        refine ⟨_, rfl, a, dx, _, rfl, h1, rfl, _, rfl, _, rfl, a, wl, l, 1, first :: rest, rfl, hp.ex _ _ hw, fun e => ?_, fun e => (q2 _ (by rw [hTT]; exact if_neg e)).of hp.ex⟩
        have hq := q1 _ (hTT.trans (if_pos e))
        refine ⟨_, rfl, wl, _, 0, .str first, rfl, rfl, hw1, atI_nat (j := 0) rfl, rfl, _, rfl, iteT' (decide_eq_true (by rw [hel])) ?_⟩
        refine ⟨_, rfl, x, CO, dxo, _, _, rfl, k1, TO.cls, TO.nb, rfl, .inl ⟨rfl, _, SqL.of k2⟩, Nat.zero_le _, fun n hn => ⟨Bo, bl.map V.ref, .ref n, rfl, rfl, ?_, ?_, ?_⟩⟩
        · rw [upd_ne (live_ne k2 hn)]
          exact k2
        · rw [List.length_map, hbl, e2]
          decide
        · exact hq _ (pl_else hp.ex h1 h2 k1 k2 k3 hr2 h4 h5 hb hn)
    · refine iteT' (nne fun z => hif (V.str.inj z)) (iteT' rfl ⟨_, rfl, l, 1, rfl, (q2 1 ?_).of hp.ex⟩)
      rw [hTT, if_pos ⟨hel, .inl hif⟩]
  · refine iteF' (decide_eq_false fun z => hel (V.str.inj z)) ?_
    rw [if_neg (fun z => hel z.1), if_neg hel] at hTT
    refine iteF' rfl ?_
    refine ⟨_, rfl, a, dx, _, rfl, h1, rfl, _, rfl, _, rfl, a, wl, l, 1, first :: rest, rfl, hp.ex _ _ hw, fun e => ?_, fun e => (q2 _ (by rw [hTT]; exact if_neg e)).of hp.ex⟩
    have hq := q1 _ (hTT.trans (if_pos e))
    refine ⟨_, rfl, wl, _, 0, .str first, rfl, rfl, hw1, atI_nat (j := 0) rfl, rfl, _, rfl, iteF' (decide_eq_false fun z => hel (V.str.inj z)) ?_⟩
    refine ⟨_, rfl, a, CP, dx, _, _, rfl, h1, TP.cls, TP.nt, rfl, .inl ⟨rfl, _, hT⟩, Ta, _, .ref x, rfl, rfl, h2, ?_, ?_⟩
    · rw [List.reverse_cons, List.map_append]
      simp
    rw [List.reverse_cons, List.map_append, List.map_cons, List.map_nil, List.dropLast_concat]
    have na : a ≠ Ta := fun e => by
      rw [e] at h4
      simp at h4
    have nt : Ta ∉ (x :: Bo :: bl ++ owr) := fun e => by
      rw [List.nodup_cons, List.nodup_cons] at h4
      exact h4.2.1 e
    have kT : TK H (upd H Ta (.lst (vr.reverse.map V.ref))) := TK.lst h2
    have sT : Same (x :: Bo :: bl ++ owr) H (upd H Ta (.lst (vr.reverse.map V.ref))) := Same.upd nt kT
    have hox := (show OpH CO H o x (x :: Bo :: bl) from ⟨dxo, Bo, bl, k1, k2, k3, rfl⟩).same (sT.sub fun b hb => List.mem_append_left _ hb)
    have hr3 := hr2.same (sT.sub fun b hb => List.mem_append_right _ hb)
    have ex3 : Ex H0 (upd H Ta (.lst (vr.reverse.map V.ref))) := ex_new hp.ex (h5 Ta (by simp))
    have hT3 : (upd H Ta (.lst (vr.reverse.map V.ref))) Ta = some (.lst (vr.reverse.map V.ref)) := upd_same
    have ha3 : (upd H Ta (.lst (vr.reverse.map V.ref))) a = some (.ins CP dx (fsP p Ta)) := by
      rw [upd_ne na]
      exact h1
    generalize upd H Ta (.lst (vr.reverse.map V.ref)) = H3 at hox hr3 ex3 hT3 ha3 ⊢
    obtain ⟨y, vr2, ow2, owr2, rfl, rfl, ho2, hr4⟩ := hr3
    have h4' : (a :: Ta :: (ow2 ++ owr2)).Nodup := h4.sublist (.cons₂ _ (.cons₂ _ (List.sublist_append_right _ _)))
    have h5' : ∀ b ∈ a :: Ta :: (ow2 ++ owr2), H0 b = none := fun b hb => h5 b (by
      simp only [List.mem_cons, List.mem_append] at hb ⊢
      rcases hb with hb | hb | hb | hb <;> simp [hb])
    obtain ⟨dy, By, by_, cy, xs, m1, m2, m3, m4, m5⟩ := pl_put ex3 ha3 hT3 ho2 hr4 h4' h5'
    refine ⟨_, rfl, a, CP, dx, _, _, rfl, ha3, TP.cls, TP.nt, rfl, 1, rfl, Ta, _, -1, .ref y, rfl, rfl, SqL.of hT3, rev_last, ?_⟩
    refine ⟨y, CO, dy, _, _, rfl, m1, TO.cls, TO.nb, rfl, 1, rfl, By, _, -1, .ref cy, rfl, rfl, SqL.of m2, ?_, .inl ⟨rfl, _, SqL.of m3⟩, ?_⟩
    · refine atI_m1 ?_
      rw [List.map_append]
      simp
    obtain ⟨dxo', Bo', bl', k1', _⟩ := id hox
    refine ⟨_, rfl, x, dxo', _, rfl, k1', rfl, x, o, _, rfl, hox, fun H4 v e4 hv => ⟨cy, xs, v, rfl, rfl, e4 _ _ m3, ?_, ?_⟩⟩
    · rw [m4]
      have := g.sum
      have h60 := g.sixty
      rw [eo] at this
      simp only [wts, Op.wt] at this
      exact small1000 (by omega)
    · exact hq _ (m5 H4 o.part v e4 hv)
end
end Pk

namespace Pk
open PySem PySem.Spec PyProof.Rows L2 Evl
/-- a class of the module, called -/
structure HasC (P : Program) (w : World) (K : PySem.W.Frag) (mg : Str → Option Value) (base : Heap) (k : Nat) (x : Str) (C : Addr) (ps : List Str) (sp : Sp) : Prop where
  ex : ∃ (f : Addr) (fd : FuncData), FnOk P w K mg base CX0 k f fd ps sp ∧ Mk K C f ∧ mg x = some (.ref C) ∧ Binds K fd ps []
section
variable {X : Cx} {k : Nat} {C : Addr} {ps : List Str} {sp : Sp} {x : Str} {p pos : Pos} {e : Expr} {es : List Expr} {t : TA}
theorem pe_hc (h : HasC X.prog X.w X.K X.mg X.base k x C ps sp) (hr : Room (k + 1) X.A) (hg : Gl X x) (ha : PA X (e :: es) t) (hdb : (x == ("__debug__" : Str)) = false := by decide)
    (he : starEach (e :: es) X.env = (false, eval e X.env) :: starEach es X.env := by rfl) (hpl : (backTo pos (starEach es X.env)).any (·.1) = false := by rfl) :
    PE X (.Call (.Name x p) (e :: es) [] pos) (tMake C sp [] E0 t) := by
  obtain ⟨f, fd, a, b, c, d⟩ := h.ex
  exact pe_make b a hr hg c d .nil pass0 ha hdb he hpl
theorem pe_hc0 (h : HasC X.prog X.w X.K X.mg X.base k x C ps sp) (hr : Room (k + 1) X.A) (hg : Gl X x) (hdb : (x == ("__debug__" : Str)) = false := by decide) :
    PE X (.Call (.Name x p) [] [] pos) (tMake C sp [] E0 tNil) := by
  obtain ⟨f, fd, a, b, c, d⟩ := h.ex
  exact pe_make0 b a hr hg c d .nil pass0 hdb
end
/-- a written dict of numbers at d: what it tells -/
structure DctT (K : PySem.W.Frag) (w : World) (d : Addr) (l : List (Str × Int)) : Prop where
  ex : ∃ (es : Array DictEntry) (n : Nat), KDict K w d es n
  get : ∀ z i, l.lookup z = some i → ∃ t, PySem.W.nsIn K d z = some (some (.int i t))
  miss : ∀ z, l.lookup z = none → PySem.W.nsIn K d z = some none
theorem DctT.kd {K : PySem.W.Frag} {w : World} {d : Addr} {l : List (Str × Int)} (h : DctT K w d l) {z : Str} {i : Int} (e : l.lookup z = some i) : KDct K w d z (.int i) := by
  obtain ⟨es, n, D⟩ := h.ex
  obtain ⟨t, g⟩ := h.get z i e
  exact ⟨es, n, _, D.at_, D.lit, g, ⟨t, rfl⟩⟩
theorem inV_str (f : Str) (l : List Str) : inV (.str f) (l.map V.str) = decide (f ∈ l) := by
  unfold inV
  rw [Bool.eq_iff_iff, decide_eq_true_iff, List.any_eq_true]
  constructor
  · rintro ⟨v, hv, e⟩
    obtain ⟨g, hg, rfl⟩ := List.mem_map.mp hv
    have e2 : g = f := by simpa [eqV] using e
    exact e2 ▸ hg
  · intro h
    exact ⟨.str f, List.mem_map.mpr ⟨f, h, rfl⟩, by simp [eqV]⟩
theorem seq_split {t u : TS} {D : Ends} {σ : L2.St} {H : Hp} (Pn : L2.St → Hp → Prop) (h : ∀ R : L2.St → Hp → Prop, (∀ σ' H', Pn σ' H' → R σ' H') → t { D with nx := R } σ H) (h2 : ∀ σ' H', Pn σ' H' → u D σ' H') : tSeq t u D σ H := h (u D) h2
theorem sizes_get {f : Str} {i : Int} (h : sizes.lookup f = some i) : i = 1 ∨ i = 2 := by
  have m := PySem.mem_of_lookup h
  simp only [sizes, List.mem_cons, Prod.mk.injEq, List.not_mem_nil, or_false] at m
  rcases m with m | m | m | m | m | m | m | m | m | m <;> simp [m.2]
/-- a field of the planner is written -/
theorem pl_fld {CP CO : Addr} {H0 H : Hp} {a dx T : Addr} {p : Pl} (h : PlH CP CO H0 H a p) (h1 : H a = some (.ins CP dx (fsP p T))) (q : Pl) (e : q.tow = p.tow) : PlH CP CO H0 (upd H a (.ins CP dx (fsP q T))) a q := by
  obtain ⟨dx', T', vs, own, k1, k2, k3, k4, k5⟩ := h.at_
  rw [h1] at k1
  injection k1 with k1
  injection k1 with e1 e2 e3
  subst e2
  have eT : T = T' := by
    have := congrArg (fun l : List (Str × V) => l[1]?) e3
    simp at this
    exact this
  subst eT
  have k : TK H (upd H a (.ins CP dx (fsP q T))) := TK.ins h1
  have nd := k4
  simp only [List.nodup_cons, List.mem_cons, not_or] at nd
  refine ⟨ex_new h.ex (k5 a (by simp)), dx, T, vs, own, upd_same, ?_, ?_, k4, k5⟩
  · rw [upd_ne (Ne.symm nd.1.1)]
    exact k2
  · rw [e]
    exact k3.same (Same.upd nd.1.2 k)
/-- a part opens -/
theorem pl_open {CP CO : Addr} {H0 H1 H' : Hp} {a dx T x : Addr} {vs own own2 : List Addr} {p : Pl} {o : Op} (ex : Ex H0 H1) (h1 : H1 a = some (.ins CP dx (fsP p T))) (h2 : H1 T = some (.lst (vs.reverse.map V.ref))) (h3 : TowH CO H1 p.tow vs own)
    (h4 : (a :: T :: own).Nodup) (h5 : ∀ b ∈ a :: T :: own, H0 b = none) (e : Ex H1 H') (ho : OpH CO H' o x own2) (nd : own2.Nodup) (fr : ∀ b ∈ own2, H1 b = none) :
    PlH CP CO H0 (upd H' T (.lst (vs.reverse.map V.ref ++ [.ref x]))) a { p with tow := o :: p.tow } := by
  have hT' := e _ _ h2
  have k : TK H' (upd H' T (.lst (vs.reverse.map V.ref ++ [.ref x]))) := TK.lst hT'
  have n1 : ∀ b ∈ own2, b ≠ a := fun b hb => Ne.symm (live_ne h1 (fr b hb))
  have n2 : ∀ b ∈ own2, b ≠ T := fun b hb => Ne.symm (live_ne h2 (fr b hb))
  have n3 : ∀ b ∈ own2, b ∉ own := fun b hb hm => h3.live b hm (fr b hb)
  have nd4 := h4
  simp only [List.nodup_cons, List.mem_cons, not_or] at nd4
  refine ⟨ex_new (ex.trans e) (h5 T (by simp)), dx, T, x :: vs, own2 ++ own, ?_, ?_, ⟨x, vs, own2, own, rfl, rfl, ho.same (Same.upd (fun hm => n2 T hm rfl) k), (h3.same (Same.ex e h3.live)).same (Same.upd nd4.2.1 k)⟩, ?_, ?_⟩
  · rw [upd_ne nd4.1.1]
    exact e _ _ h1
  · rw [upd_same, List.reverse_cons, List.map_append]
    rfl
  · rw [List.nodup_cons, List.nodup_cons, List.nodup_append]
    refine ⟨?_, ?_, nd, nd4.2.2, fun b hb c hc hbc => n3 b hb (hbc ▸ hc)⟩
    · simp only [List.mem_cons, List.mem_append, not_or]
      exact ⟨nd4.1.1, fun hm => n1 a hm rfl, nd4.1.2⟩
    · simp only [List.mem_append, not_or]
      exact ⟨fun hm => n2 T hm rfl, nd4.2.1⟩
  · intro b hb
    simp only [List.mem_cons, List.mem_append] at hb
    rcases hb with hb | hb | hb | hb
    · exact h5 b (by simp [hb])
    · exact h5 b (by simp [hb])
    · cases q : H0 b with
      | none => rfl
      | some u =>
        have := ex b u q
        rw [fr b hb] at this
        cases this
    · exact h5 b (by simp [hb])
section
variable {P : Program} {w : World} {K : PySem.W.Frag} {mg : Str → Option Value} {base : Heap}
/-! ### Planner.take_part -/
def spTkp (CP CO C : Addr) : Sp := fun vs H Q E => ∃ (a wl : Addr) (l : Int) (H0 : Hp) (p : Pl) (c : Int) (first : Str) (rest : List Str), vs = [.ref a, .int l, .ref wl] ∧ PlH CP CO H0 H a p ∧ Good p ∧ p.col = some c ∧ (sizes.lookup first).isNone = false ∧ H0 wl = some (.lst ((first :: rest).map V.str)) ∧
  (∀ x ∈ first :: rest, x.length ≤ sizeLine) ∧ (∀ q, takePart p c first (first :: rest) = .ok q → ∀ H', PlH CP CO H0 H' a q → Q .non H') ∧ (∀ k : Nat, takePart p c first (first :: rest) = .error k → Err C E H0 l k)
theorem scTkp : FnScope ["self", "line", "words", "first", "number"] ["self", "line", "words"] (defScope sPart) := ⟨rfl, rfl, rfl, by decide +kernel, rfl, by decide +kernel, by decide +kernel⟩
theorem ok_part {CP CO C f aO aS aT : Addr} {fd : FuncData} {t6 t8 t60 : Tok} (F : Fun K "take_part" "Planner.take_part" sPart f fd) (T : BadK P w K mg base C) (B : Blt mg) (TP : PlT K CP) (TO : OpT K CO)
    (gO : mg "OPENERS" = some (.ref aO)) (hO : ∀ H, SqT K H aO (openers.map V.str)) (gS : mg "SIZES" = some (.ref aS)) (S : DctT K w aS sizes) (gT : mg "TURNS" = some (.ref aT)) (U : DctT K w aT turns)
    (g6 : mg "MOST_DEPTH" = some (.int 6 t6)) (g8 : mg "MOST_TIMES" = some (.int 8 t8)) (g60 : mg "MOST_PARTS" = some (.int 60 t60)) (HC : HasC P w K mg base 1 "Opened" CO ["self", "word", "number"] (spOi CO))
    (MN : HasM P w K mg base (L2.CX P w) 3 CP "number" ["self", "line", "words", "least", "most"] (spNum C)) (MS : HasM P w K mg base (L2.CX P w) 3 CP "need_size" ["self", "line", "words", "size"] (spSize C)) :
    FnOk P w K mg base (L2.CX P w) 4 f fd ["self", "line", "words"] (spTkp CP CO C) := by
  refine F.okX scTkp (fun vs H Q E h => ?_) (fun cdv A outer s H vs Q E hr h => ?_)
  · obtain ⟨a, wl, l, H0, p, c, first, rest, rfl, _⟩ := h
    rfl
  obtain ⟨a, wl, l, H0, p, c, first, rest, rfl, hp, g, hcol, hsz, hw, hwz, q1, q2⟩ := h
  obtain ⟨esS, nS, kdS⟩ := S.ex
  obtain ⟨esU, nU, kdU⟩ := U.ex
  have hrS := hr
  have hrO := hr.mono (show 2 ≤ 3 by decide)
  have hrB := hr.mono (show 2 ≤ 3 by decide)
  have tk : Takes (cxOf (L2.CX P w) P w K mg base ["self", "line", "words", "first", "number"] "Planner.take_part" (defScope sPart) f cdv A outer s H E) (fun cls d _ H => E cls d H) := takes_of rfl rfl rfl rfl
  refine ⟨_, (pss_cons (ps_par (i := 3) (j := 4) (by rfl) scTkp.nd (by rfl) (by rfl) (by decide) (by rfl) (by rfl) (pa_cons (pe_ix ix_list (pv 2) pe_int (fun _ _ => rfl)) (pa_cons pe_int pa_nil)) (by rfl))
    (pss_cons (ps_if (PW.pt (pw_or (pt_cmpR op_eq (pe_fld (pv 0) (by rfl)) (pe_glob (v := .int 60) (by rfl) g60 ⟨_, rfl⟩) (nomark _)) (pw_or1 (PW.pt (pw_and (pt_cmpR op_in_seq (pv 3) (pe_glob (v := .ref aO) (by rfl) gO rfl) (by rfl)) (pw_and1 (pt_cmpR op_eq (pe_callB call_len_seq (by rfl) B.len (by decide +kernel) (pa_cons (pe_fld (pv 0) (by rfl)) pa_nil)) (pe_glob (v := .int 6) (by rfl) g6 ⟨_, rfl⟩) (nomark _)))))))) (pss_one (ps_bad T hrB (by rfl) tk (by rfl) (pa_cons (pv 1) (pa_cons pe_int pa_nil)))) pss_nil)
    (pss_cons (ps_fldaug (pv 0) pe_int in_add)
    (pss_cons (ps_if (pt_cmpR op_eq (pv 3) pe_str (nomark _)) (pss_cons (ps_if (PW.pt (pw_or (pt_cmpR op_lt (pe_callB call_len_seq (by rfl) B.len (by decide +kernel) (pa_cons (pv 2) pa_nil)) pe_int (nomark _)) (pw_or1 (pt_cmpR (op_notIn_kd kdU) (pe_ix ix_list (pv 2) pe_int (fun _ _ => rfl)) (pe_glob (v := .ref aT) (by rfl) gT rfl) (by rfl))))) (pss_one (ps_bad T hrB (by rfl) tk (by rfl) (pa_cons (pv 1) (pa_cons pe_int pa_nil)))) pss_nil)
    (pss_one (ps_set (i := 4) scTkp.nd (by rfl) (.inl rfl) (pe_ix ix_kdict (pe_glob (v := .ref aT) (by rfl) gT rfl) (pe_ix ix_list (pv 2) pe_int (fun _ _ => rfl)) (fun _ _ => rfl))))) (pss_one (ps_if (pt_cmpR op_eq (pv 3) pe_str (nomark _)) (pss_one (ps_set (i := 4) scTkp.nd (by rfl) (.inl rfl) (pe_mh MN TP.cls hrS (passes_call (E := E) tk fun _ _ _ _ h => h) (pv 0) (pa_cons (pv 1) (pa_cons (pv 2) (pa_cons pe_int (pa_cons (pe_glob (v := .int 8) (by rfl) g8 ⟨_, rfl⟩) pa_nil))))))) (pss_one (ps_if (pt_cmpR op_eq (pe_ix ix_kdict (pe_glob (v := .ref aS) (by rfl) gS rfl) (pv 3) (fun _ _ => rfl)) pe_int (nomark _)) (pss_one (ps_set (i := 4) scTkp.nd (by rfl) (.inl rfl) (pe_mh MN TP.cls hrS (passes_call (E := E) tk fun _ _ _ _ h => h) (pv 0) (pa_cons (pv 1) (pa_cons (pv 2) (pa_cons pe_int (pa_cons (pe_op op_sub (pe_fld (pv 0) (by rfl)) pe_int) pa_nil))))))) pss_nil)))))
    (pss_cons (ps_expr (pe_mh MS TP.cls hrS (passes_call (E := E) tk fun _ _ _ _ h => h) (pv 0) (pa_cons (pv 1) (pa_cons (pv 2) (pa_cons (pe_ix ix_kdict (pe_glob (v := .ref aS) (by rfl) gS rfl) (pv 3) (fun _ _ => rfl)) pa_nil)))))
    (pss_one (ps_if (pt_cmpR op_in_seq (pv 3) (pe_glob (v := .ref aO) (by rfl) gO rfl) (by rfl)) (pss_one (ps_expr (pe_bm PySem.F.plainAttrs_list PySem.F.slot_list_append PySem.F.type_list_append mt_append (pe_fld (pv 0) (by rfl)) (pa_cons (pe_hc HC hrO (by rfl) (pa_cons (pv 3) (pa_cons (pv 4) pa_nil))) pa_nil)))) (pss_one (ps_expr (pe_bm PySem.F.plainAttrs_list PySem.F.slot_list_append PySem.F.type_list_append mt_append (pe_ix ix_list (pe_fld (pe_ix ix_list (pe_fld (pv 0) (by rfl)) (pe_un un_neg pe_int) (fun _ _ => rfl)) (by rfl)) (pe_un un_neg pe_int) (fun _ _ => rfl)) (pa_cons (pe_ifExp (pt_cmpR op_eq (pe_ix ix_kdict (pe_glob (v := .ref aS) (by rfl) gS rfl) (pv 3) (fun _ _ => rfl)) pe_int (nomark _)) (pe_tup (pa_cons (pv 3) (pa_cons (pv 4) pa_nil))) (pe_tup (pa_cons (pv 3) pa_nil))) pa_nil))))))))))), ?_⟩
  have hw1 := SqL.of (K := K) (hp.ex _ _ hw)
  obtain ⟨dx, Ta, vs, own, h1, h2, h3, h4, h5⟩ := hp.at_
  have hT := SqL.of (K := K) h2
  have hlen := h3.length
  obtain ⟨sz, hsz⟩ : ∃ i, sizes.lookup first = some i := by
    cases e : sizes.lookup first with
    | none => rw [e] at hsz; cases hsz
    | some i => exact ⟨i, rfl⟩
  refine ⟨_, rfl, wl, _, 0, .str first, rfl, rfl, hw1, atI_nat (j := 0) rfl, _, _, rfl, ?_⟩
  obtain ⟨n, rfl⟩ : ∃ n : Nat, sz = (n : Int) := by
    rcases sizes_get hsz with e | e
    · exact ⟨1, e⟩
    · exact ⟨2, e⟩
  have hTP : takePart p c first (first :: rest) = if p.parts = 60 ∨ (first ∈ openers ∧ p.tow.length = 6) then .error 1 else match partNum c first (first :: rest) with
    | .error k => .error k
    | .ok k => size (first :: rest) n (match p.tow with
        | [] => p
        | top :: r => if first ∈ openers then { p with tow := ⟨first, k, none, []⟩ :: top :: r, parts := p.parts + 1 }
            else { p with tow := { top with cur := top.cur ++ [if sizes.lookup first = some 2 then .tuple [.str first, .int k] else .tuple [.str first]] } :: r, parts := p.parts + 1 }) := by
    unfold takePart
    rw [hsz]
    rfl
  dsimp only
  refine seq_split (fun σ' H' => ¬ (p.parts = 60 ∨ (first ∈ openers ∧ p.tow.length = 6)) ∧ σ' = [some (.ref a), some (.int l), some (.ref wl), some (.str first), some (.int 0)] ∧ H' = H) (fun R hR => ?_) ?_
  · refine ⟨_, rfl, a, CP, dx, _, _, rfl, h1, TP.cls, TP.np, rfl, rfl, _, rfl, ?_⟩
    by_cases b1 : p.parts = 60
    · exact iteT' (decide_eq_true (by rw [b1]; rfl)) (iteT' rfl ⟨_, rfl, l, 1, rfl, (q2 1 (by rw [hTP, if_pos (.inl b1)])).of hp.ex⟩)
    refine iteF' (decide_eq_false fun z => b1 (by have := V.int.inj z; omega)) ?_
    refine ⟨_, rfl, aO, _, rfl, .inr (hO _), rfl, rfl, _, rfl, ?_⟩
    rw [if_neg Bool.false_ne_true, inV_str]
    by_cases b2 : first ∈ openers
    · refine iteT' (decide_eq_true b2) ?_
      refine ⟨_, rfl, a, CP, dx, _, _, rfl, h1, TP.cls, TP.nt, rfl, Ta, _, rfl, .inl hT, rfl, _, rfl, ?_⟩
      by_cases b3 : p.tow.length = 6
      · refine iteT' (decide_eq_true (by rw [List.length_map, List.length_reverse, hlen, b3]; rfl)) ⟨_, rfl, l, 1, rfl, (q2 1 (by rw [hTP, if_pos (.inr ⟨b2, b3⟩)])).of hp.ex⟩
      · refine iteF' (decide_eq_false fun z => b3 (by have := V.int.inj z; rw [List.length_map, List.length_reverse, hlen] at this; omega)) ?_
        exact hR _ _ ⟨fun z => z.elim b1 fun z => b3 z.2, rfl, rfl⟩
    · refine iteF' (decide_eq_false b2) (iteF' rfl ?_)
      exact hR _ _ ⟨fun z => z.elim b1 fun z => b2 z.1, rfl, rfl⟩
  · rintro σ' H' ⟨nb, rfl, rfl⟩
    rw [if_neg nb] at hTP
    refine ⟨_, rfl, a, CP, dx, _, _, rfl, h1, TP.cls, TP.np, rfl, _, _, rfl, rfl, dx, _, h1, (by show 3 < 1000; decide), ?_⟩
    have hp2 : PlH CP CO H0 (upd H' a (.ins CP dx (fsP { p with parts := p.parts + 1 } Ta))) a { p with parts := p.parts + 1 } := pl_fld hp h1 _ rfl
    obtain ⟨H1, eH⟩ : ∃ H1, H1 = upd H' a (.ins CP dx (putF "parts" (.int ((p.parts : Int) + 1)) (fsP p Ta))) := ⟨_, rfl⟩
    have eH2 : H1 = upd H' a (.ins CP dx (fsP { p with parts := p.parts + 1 } Ta)) := eH
    rw [← eH2] at hp2
    rw [← eH]
    clear eH eH2 hw1 hT h1 h2 h3 h4 h5 hlen
    have hw1 := SqL.of (K := K) (hp2.ex _ _ hw)
    obtain ⟨dx, Ta, vs, own, h1, h2, h3, h4, h5⟩ := hp2.at_
    have hT := SqL.of (K := K) h2
    have hlen := h3.length
    dsimp only
    refine seq_split (fun σ' H' => ∃ k, partNum c first (first :: rest) = .ok k ∧ σ' = [some (.ref a), some (.int l), some (.ref wl), some (.str first), some (.int k)] ∧ H' = H1) (fun R hR => ?_) ?_
    · have hER : partNum c first (first :: rest) = .error 2 → Err C E H1 l 2 := fun e => (q2 2 (by rw [hTP, e])).of hp2.ex
      refine ⟨_, rfl, rfl, _, rfl, ?_⟩
      by_cases c1 : first = "turn"
      · refine iteT' (decide_eq_true (by rw [c1])) ?_
        have hpn : partNum c first (first :: rest) = match first :: rest with | _ :: w :: _ => (match turns.lookup w with | some k => .ok k | none => .error 2) | _ => .error 2 := if_pos c1
        rcases rest with _ | ⟨w1, r⟩
        · exact ⟨_, rfl, wl, _, rfl, .inl hw1, _, _, rfl, rfl, _, rfl, iteT' rfl (iteT' rfl ⟨_, rfl, l, 2, rfl, hER hpn⟩)⟩
        · refine ⟨_, rfl, wl, _, rfl, .inl hw1, _, _, rfl, rfl, _, rfl, iteF' (decide_eq_false (by simp; omega)) ?_⟩
          have hpn : partNum c first (first :: w1 :: r) = (match turns.lookup w1 with | some k => .ok k | none => .error 2) := hpn
          cases e : turns.lookup w1 with
          | none =>
            rw [e] at hpn
            exact ⟨_, rfl, wl, _, 1, .str w1, rfl, rfl, hw1, atI_nat (j := 1) rfl, w1, none, rfl, rfl, U.miss w1 e, _, rfl, iteT' rfl ⟨_, rfl, l, 2, rfl, hER hpn⟩⟩
          | some k =>
            rw [e] at hpn
            obtain ⟨t, hg⟩ := U.get w1 k e
            refine ⟨_, rfl, wl, _, 1, .str w1, rfl, rfl, hw1, atI_nat (j := 1) rfl, w1, _, rfl, rfl, hg, _, rfl, iteF' rfl ?_⟩
            exact ⟨_, rfl, wl, _, 1, .str w1, rfl, rfl, hw1, atI_nat (j := 1) rfl, aT, w1, .int k, rfl, rfl, U.kd e, hR _ _ ⟨k, hpn, rfl, rfl⟩⟩
      refine iteF' (decide_eq_false fun z => c1 (V.str.inj z)) ?_
      refine ⟨_, rfl, rfl, _, rfl, ?_⟩
      have hpn0 : partNum c first (first :: rest) = if first = "repeat" then (match numb (first :: rest) 0 8 with | some k => .ok k | none => .error 2)
          else if sizes.lookup first = some 2 then (match numb (first :: rest) 0 (c - 1) with | some k => .ok k | none => .error 2) else .ok 0 := if_neg c1
      by_cases c2 : first = "repeat"
      · refine iteT' (decide_eq_true (by rw [c2])) ?_
        rw [if_pos c2] at hpn0
        refine ⟨_, rfl, a, dx, _, rfl, h1, rfl, _, rfl, _, rfl, a, wl, l, 0, 8, first :: rest, rfl, hp2.ex _ _ hw, hwz, fun k hk => hR _ _ ⟨k, by rw [hpn0, hk], rfl, rfl⟩, fun e => hER (by rw [hpn0, e])⟩
      refine iteF' (decide_eq_false fun z => c2 (V.str.inj z)) ?_
      rw [if_neg c2] at hpn0
      refine ⟨_, rfl, aS, first, .int n, rfl, rfl, S.kd hsz, rfl, _, rfl, ?_⟩
      by_cases c3 : (n : Int) = 2
      · refine iteT' (decide_eq_true (by rw [c3])) ?_
        rw [if_pos (by rw [hsz, c3])] at hpn0
        refine ⟨_, rfl, a, dx, _, rfl, h1, rfl, _, rfl, _, rfl, _, rfl, a, CP, dx, _, _, rfl, h1, TP.cls, TP.nc, rfl, c, 1, by rw [hcol]; rfl, rfl, a, wl, l, 0, c - 1, first :: rest, rfl, hp2.ex _ _ hw, hwz, fun k hk => hR _ _ ⟨k, by rw [hpn0, hk], rfl, rfl⟩, fun e => hER (by rw [hpn0, e])⟩
      · refine iteF' (decide_eq_false fun z => c3 (V.int.inj z)) ?_
        rw [if_neg (fun z => c3 (by rw [hsz] at z; exact Option.some.inj z))] at hpn0
        exact hR _ _ ⟨0, hpn0, rfl, rfl⟩
    · rintro σ' H' ⟨k, hk, rfl, rfl⟩
      rw [hk] at hTP
      dsimp only at hTP
      have hlw := (show (first :: rest).length ≠ n → Err C E H' l ((min (first :: rest).length n + 1 : Nat) : Int) from fun e => (q2 _ (by rw [hTP]; exact if_neg e)).of hp2.ex)
      refine ⟨_, rfl, a, dx, _, rfl, h1, rfl, _, rfl, _, rfl, _, rfl, aS, first, .int n, rfl, rfl, S.kd hsz, a, wl, l, n, first :: rest, rfl, hp2.ex _ _ hw, fun e => ?_, hlw⟩
      have hq := q1 _ (hTP.trans (if_pos e))
      obtain ⟨o, r, x, vr, ow, owr, eo, rfl, rfl, ho, hr2⟩ := h3.top g.ne
      have eo : p.tow = o :: r := eo
      rw [eo] at hq
      dsimp only at hq
      refine ⟨_, rfl, aO, _, rfl, .inr (hO _), rfl, rfl, _, rfl, ?_⟩
      rw [if_neg Bool.false_ne_true, inV_str]
      by_cases b2 : first ∈ openers
      · refine iteT' (decide_eq_true b2) ?_
        rw [if_pos b2] at hq
        refine ⟨_, rfl, a, CP, dx, _, _, rfl, h1, TP.cls, TP.nt, rfl, .inl ⟨rfl, _, hT⟩, _, rfl, _, rfl, fun y dy hy hdy hne => ⟨y, dy, first, k, rfl, upd_same, fun own2 H'' ho1 nd2 fr2 hop => ⟨rfl, Ta, (x :: vr).reverse.map V.ref, .ref y, rfl, rfl, ?_, ?_, ?_⟩⟩⟩
        · have z : y ≠ Ta := Ne.symm (live_ne h2 hy)
          refine ho1 _ _ ?_ (Ne.symm z)
          rw [upd_ne (Ne.symm z), upd_ne (live_ne h2 hdy)]
          exact h2
        · rw [List.length_map, List.length_reverse, hlen]
          have := g.six
          exact small1000 (Nat.le_trans this (by decide))
        · have eX : Ex H' H'' := fun b u e => by
            refine ho1 b u ?_ (live_ne e hy)
            rw [upd_ne (live_ne e hy), upd_ne (live_ne e hdy)]
            exact e
          have hf : ∀ b ∈ own2, H' b = none := fun b hb => by
            rcases fr2 b hb with e | e
            · rw [e]; exact hy
            · by_cases e1 : b = y
              · rw [e1]; exact hy
              · rw [upd_ne e1] at e
                by_cases e2 : b = dy
                · rw [e2]; exact hdy
                · rw [upd_ne e2] at e
                  exact e
          have hfin := pl_open (CP := CP) (CO := CO) hp2.ex h1 h2 h3 h4 h5 eX hop nd2 hf
          have e2 : ({ p with tow := ⟨first, k, none, []⟩ :: p.tow, parts := p.parts + 1 } : Pl) = { p with tow := ⟨first, k, none, []⟩ :: o :: r, parts := p.parts + 1 } := by rw [eo]
          exact hq _ (e2 ▸ hfin)
      · refine iteF' (decide_eq_false b2) ?_
        rw [if_neg b2] at hq
        obtain ⟨dy, By, by_, cy, xs, m1, m2, m3, m4, m5⟩ := pl_put hp2.ex h1 h2 ho hr2 h4 h5
        have hxl : xs.length < sizeLine := by
          rw [m4]
          have := g.sum
          have h60 := g.sixty
          rw [eo] at this
          simp only [wts, Op.wt] at this
          exact small1000 (by omega)
        refine ⟨_, rfl, a, CP, dx, _, _, rfl, h1, TP.cls, TP.nt, rfl, 1, rfl, Ta, _, -1, .ref x, rfl, rfl, hT, rev_last, ?_⟩
        refine ⟨x, CO, dy, _, _, rfl, m1, TO.cls, TO.nb, rfl, 1, rfl, By, _, -1, .ref cy, rfl, rfl, SqL.of m2, ?_, .inl ⟨rfl, _, SqL.of m3⟩, ?_⟩
        · refine atI_m1 ?_
          rw [List.map_append]
          simp
        refine ⟨_, rfl, aS, first, .int n, rfl, rfl, S.kd hsz, rfl, _, rfl, ?_⟩
        by_cases c3 : (n : Int) = 2
        · refine iteT' (decide_eq_true (by rw [c3])) ?_
          rw [if_pos (by rw [hsz, c3])] at hq
          refine ⟨_, rfl, _, rfl, (by show 2 ≤ sizeLine; decide), fun t ht => ⟨cy, xs, .ref t, rfl, rfl, ?_, hxl, hq _ (m5 _ _ _ (Ex.new ht) ⟨t, _, rfl, upd_same, _, _, rfl, rfl, _, _, rfl, rfl, rfl⟩)⟩⟩
          rw [upd_ne (live_ne m3 ht)]
          exact m3
        · refine iteF' (decide_eq_false fun z => c3 (V.int.inj z)) ?_
          rw [if_neg (fun z => c3 (by rw [hsz] at z; exact Option.some.inj z))] at hq
          refine ⟨_, rfl, (by show 1 ≤ sizeLine; decide), fun t ht => ⟨cy, xs, .ref t, rfl, rfl, ?_, hxl, hq _ (m5 _ _ _ (Ex.new ht) ⟨t, _, rfl, upd_same, _, _, rfl, rfl, rfl⟩)⟩⟩
          rw [upd_ne (live_ne m3 ht)]
          exact m3
end
end Pk

namespace Pk
open PySem PySem.Spec PyProof.Rows L2 Evl
section
variable {P : Program} {w : World} {K : PySem.W.Frag} {mg : Str → Option Value} {base : Heap}
/-! ### Planner.take -/
def spTake (CP CO C : Addr) : Sp := fun vs H Q E => ∃ (a wl : Addr) (l : Int) (H0 : Hp) (p : Pl) (first : Str) (rest : List Str), vs = [.ref a, .int l, .ref wl] ∧ PlH CP CO H0 H a p ∧ Good p ∧ H0 wl = some (.lst ((first :: rest).map V.str)) ∧
  (∀ x ∈ first :: rest, x.length ≤ sizeLine) ∧ (∀ q, take p (first :: rest) = .ok q → ∀ H', PlH CP CO H0 H' a q → Q .non H') ∧ (∀ k : Nat, take p (first :: rest) = .error k → Err C E H0 l k)
theorem scTake : FnScope ["self", "line", "words", "first"] ["self", "line", "words"] (defScope sTake) := ⟨rfl, rfl, rfl, by decide +kernel, rfl, by decide +kernel, by decide +kernel⟩
theorem ok_take {CP CO C f aS : Addr} {fd : FuncData} {t2 t6 : Tok} (F : Fun K "take" "Planner.take" sTake f fd) (T : BadK P w K mg base C) (B : Blt mg) (TP : PlT K CP)
    (gS : mg "SIZES" = some (.ref aS)) (S : DctT K w aS sizes) (g2 : mg "LEAST_COLOURS" = some (.int 2 t2)) (g6c : mg "MOST_COLOURS" = some (.int 6 t6))
    (MN : HasM P w K mg base (L2.CX P w) 3 CP "number" ["self", "line", "words", "least", "most"] (spNum C)) (MS : HasM P w K mg base (L2.CX P w) 3 CP "need_size" ["self", "line", "words", "size"] (spSize C))
    (MU : HasM P w K mg base (L2.CX P w) 4 CP "take_turn" ["self", "line", "words"] (spTurn CP CO C)) (MP : HasM P w K mg base (L2.CX P w) 4 CP "take_part" ["self", "line", "words"] (spTkp CP CO C)) :
    FnOk P w K mg base (L2.CX P w) 5 f fd ["self", "line", "words"] (spTake CP CO C) := by
  refine F.okX scTake (fun vs H Q E h => ?_) (fun cdv A outer s H vs Q E hr h => ?_)
  · obtain ⟨a, wl, l, H0, p, first, rest, rfl, _⟩ := h
    rfl
  obtain ⟨a, wl, l, H0, p, first, rest, rfl, hp, g, hw, hwz, q1, q2⟩ := h
  obtain ⟨esS, nS, kdS⟩ := S.ex
  have hrU := hr
  have hrS := hr.mono (show 3 ≤ 4 by decide)
  have hrB := hr.mono (show 2 ≤ 4 by decide)
  have tk : Takes (cxOf (L2.CX P w) P w K mg base ["self", "line", "words", "first"] "Planner.take" (defScope sTake) f cdv A outer s H E) (fun cls d _ H => E cls d H) := takes_of rfl rfl rfl rfl
  refine ⟨_, (pss_cons (ps_set (i := 3) scTake.nd (by rfl) (.inl rfl) (pe_ix ix_list (pv 2) pe_int (fun _ _ => rfl)))
    (pss_one (ps_if (pt_cmpR op_isN (pe_fld (pv 0) (by rfl)) pe_non (nomark _)) (pss_cons (ps_if (pt_cmpR op_ne (pv 3) pe_str (nomark _)) (pss_one (ps_bad T hrB (by rfl) tk (by rfl) (pa_cons (pv 1) (pa_cons pe_int pa_nil)))) pss_nil)
    (pss_cons (ps_fld (pv 0) (pe_mh MN TP.cls hrS (passes_call (E := E) tk fun _ _ _ _ h => h) (pv 0) (pa_cons (pv 1) (pa_cons (pv 2) (pa_cons (pe_glob (v := .int 2) (by rfl) g2 ⟨_, rfl⟩) (pa_cons (pe_glob (v := .int 6) (by rfl) g6c ⟨_, rfl⟩) pa_nil))))) (by rfl))
    (pss_one (ps_expr (pe_mh MS TP.cls hrS (passes_call (E := E) tk fun _ _ _ _ h => h) (pv 0) (pa_cons (pv 1) (pa_cons (pv 2) (pa_cons pe_int pa_nil)))))))) (pss_one (ps_if (pt_cmpR (op_notIn_kd kdS) (pv 3) (pe_glob (v := .ref aS) (by rfl) gS rfl) (by rfl)) (pss_one (ps_bad T hrB (by rfl) tk (by rfl) (pa_cons (pv 1) (pa_cons pe_int pa_nil)))) (pss_one (ps_if (pt_cmpR op_in_seq (pv 3) (pe_tup (pa_cons pe_str (pa_cons pe_str pa_nil))) (by rfl)) (pss_one (ps_expr (pe_mh MU TP.cls hrU (passes_call (E := E) tk fun _ _ _ _ h => h) (pv 0) (pa_cons (pv 1) (pa_cons (pv 2) pa_nil))))) (pss_one (ps_expr (pe_mh MP TP.cls hrU (passes_call (E := E) tk fun _ _ _ _ h => h) (pv 0) (pa_cons (pv 1) (pa_cons (pv 2) pa_nil)))))))))))), ?_⟩
  have hw1 := SqL.of (K := K) (hp.ex _ _ hw)
  obtain ⟨dx, Ta, vs, own, h1, h2, h3, h4, h5⟩ := hp.at_
  refine ⟨_, rfl, wl, _, 0, .str first, rfl, rfl, hw1, atI_nat (j := 0) rfl, ?_⟩
  refine ⟨_, rfl, a, CP, dx, _, _, rfl, h1, TP.cls, TP.nc, rfl, rfl, _, rfl, ?_⟩
  cases hc : p.col with
  | none =>
    refine iteT' (decide_eq_true rfl) ?_
    have hT : take p (first :: rest) = if first ≠ "colours" then .error 1 else match numb (first :: rest) 2 6 with | none => .error 2 | some c => size (first :: rest) 2 { p with col := some c } := by
      unfold take
      rw [hc] <;> rfl
    refine ⟨_, rfl, rfl, _, rfl, ?_⟩
    by_cases c1 : first = "colours"
    · refine iteF' (ndec (by rw [c1])) ?_
      rw [if_neg (fun z => z c1)] at hT
      refine ⟨_, rfl, a, dx, _, rfl, h1, rfl, _, rfl, _, rfl, a, wl, l, 2, 6, first :: rest, rfl, hp.ex _ _ hw, hwz, fun k hk => ?_, fun e => (q2 2 (by rw [hT, e])).of hp.ex⟩
      rw [hk] at hT
      dsimp only at hT
      refine ⟨_, rfl, a, CP, dx, _, rfl, h1, TP.cls, TP.nc, (by show 3 < 1000; decide), ?_⟩
      have hp2 : PlH CP CO H0 (upd H a (.ins CP dx (fsP { p with col := some k } Ta))) a { p with col := some k } := pl_fld hp h1 _ rfl
      obtain ⟨H1, eH⟩ : ∃ H1, H1 = upd H a (.ins CP dx (putF "colours" (.int k) (fsP p Ta))) := ⟨_, rfl⟩
      have eH2 : H1 = upd H a (.ins CP dx (fsP { p with col := some k } Ta)) := eH
      rw [← eH2] at hp2
      rw [← eH]
      clear eH eH2
      obtain ⟨dx', T', vs', own', k1, _⟩ := id hp2.at_
      exact ⟨_, rfl, a, dx', _, rfl, k1, rfl, _, rfl, _, rfl, a, wl, l, 2, first :: rest, rfl, hp2.ex _ _ hw, fun e => q1 _ (hT.trans (if_pos e)) _ hp2, fun e => (q2 _ (by rw [hT]; exact if_neg e)).of hp2.ex⟩
    · refine iteT' (nne fun z => c1 (V.str.inj z)) ⟨_, rfl, l, 1, rfl, (q2 1 (by rw [hT, if_pos c1])).of hp.ex⟩
  | some c =>
    refine iteF' (decide_eq_false (by intro z; cases z)) ?_
    have hT : take p (first :: rest) = if (sizes.lookup first).isNone = true then .error 1 else if first = "else" ∨ first = "end" then takeTurn p first (first :: rest) else takePart p c first (first :: rest) := by
      unfold take
      rw [hc] <;> rfl
    cases e : sizes.lookup first with
    | none =>
      rw [e] at hT
      exact ⟨_, rfl, first, none, rfl, rfl, S.miss first e, _, rfl, iteT' rfl ⟨_, rfl, l, 1, rfl, (q2 1 hT).of hp.ex⟩⟩
    | some i =>
      rw [e] at hT
      have hT : take p (first :: rest) = if first = "else" ∨ first = "end" then takeTurn p first (first :: rest) else takePart p c first (first :: rest) := hT
      obtain ⟨t, hg⟩ := S.get first i e
      refine ⟨_, rfl, first, _, rfl, rfl, hg, _, rfl, iteF' rfl ?_⟩
      refine ⟨_, rfl, (by show 2 ≤ sizeLine; decide), fun tu htu => ⟨tu, [.str "else", .str "end"], rfl, .inr (SqT.of upd_same), rfl, rfl, _, rfl, ?_⟩⟩
      have e1 : Ex H (upd H tu (.tup [.str "else", .str "end"])) := Ex.new htu
      have hp1 := hp.grow e1
      rw [if_neg Bool.false_ne_true, show ([.str "else", .str "end"] : List V) = (["else", "end"] : List Str).map V.str from rfl, inV_str]
      by_cases c1 : first = "else" ∨ first = "end"
      · refine iteT' (decide_eq_true (by rcases c1 with c1 | c1 <;> simp [c1])) ?_
        rw [if_pos c1] at hT
        exact ⟨_, rfl, a, dx, _, rfl, e1 _ _ h1, rfl, _, rfl, _, rfl, a, wl, l, H0, p, first, rest, rfl, hp1, g, hw, fun q hq => q1 q (hT.trans hq), fun k hk => q2 k (hT.trans hk)⟩
      · refine iteF' (decide_eq_false (by simpa using c1)) ?_
        rw [if_neg c1] at hT
        exact ⟨_, rfl, a, dx, _, rfl, e1 _ _ h1, rfl, _, rfl, _, rfl, a, wl, l, H0, p, c, first, rest, rfl, hp1, g, hc, by rw [e]; rfl, hw, hwz, fun q hq => q1 q (hT.trans hq), fun k hk => q2 k (hT.trans hk)⟩
/-! ### Planner.__init__ -/
def spPi (CP CO : Addr) : Sp := fun vs H Q _ => ∃ (a dx : Addr) (H0 : Hp), vs = [.ref a] ∧ H a = some (.ins CP dx []) ∧ Ex H0 H ∧ H0 a = none ∧ ∀ H', PlH CP CO H0 H' a pl0 → Q .non H'
theorem scPi : FnScope ["self"] ["self"] (defScope sPi) := ⟨rfl, rfl, rfl, by decide +kernel, rfl, by decide +kernel, by decide +kernel⟩
theorem ok_pi {CP CO f : Addr} {fd : FuncData} (F : Fun K "__init__" "Planner.__init__" sPi f fd) (TP : PlT K CP) (HC : HasC P w K mg base 1 "Opened" CO ["self", "word", "number"] (spOi CO)) : FnOk P w K mg base CX0 3 f fd ["self"] (spPi CP CO) := by
  refine F.ok scPi (fun vs H Q E h => ?_) (fun cdv A outer s H vs Q E hr h => ?_)
  · obtain ⟨a, dx, H0, rfl, _⟩ := h
    rfl
  obtain ⟨a, dx, H0, rfl, ha, ex, h0, q⟩ := h
  have hrO := hr
  refine ⟨_, (pss_cons (ps_fld (pv 0) pe_non (by rfl))
    (pss_cons (ps_fld (pv 0) (pe_lst (pa_cons (pe_hc HC hrO (by rfl) (pa_cons pe_str (pa_cons pe_int pa_nil))) pa_nil)) (by rfl))
    (pss_one (ps_fld (pv 0) pe_int (by rfl))))), ?_⟩
  refine ⟨_, rfl, a, CP, dx, _, rfl, ha, TP.cls, TP.nc, by decide, ?_⟩
  have h1a : (upd H a (.ins CP dx (putF "colours" .non []))) a = some (.ins CP dx (putF "colours" .non [])) := upd_same
  have h1b : ∀ b, b ≠ a → (upd H a (.ins CP dx (putF "colours" .non []))) b = H b := fun b hb => upd_ne hb
  obtain ⟨H1, eH⟩ : ∃ H1, H1 = upd H a (.ins CP dx (putF "colours" .non [])) := ⟨_, rfl⟩
  rw [← eH] at h1a h1b ⊢
  clear eH
  refine fun y dy hy hdy hne => ⟨y, dy, "plan", 0, rfl, upd_same, fun own2 H2 ho1 nd2 fr2 hop => ⟨rfl, (by show 1 ≤ sizeLine; decide), fun Ta hTa => ?_⟩⟩
  have e12 : Ex H1 H2 := fun b u e => by
    refine ho1 b u ?_ (live_ne e hy)
    rw [upd_ne (live_ne e hy), upd_ne (live_ne e hdy)]
    exact e
  have hf : ∀ b ∈ own2, H1 b = none := fun b hb => by
    rcases fr2 b hb with e | e
    · rw [e]; exact hy
    · by_cases e1 : b = y
      · rw [e1]; exact hy
      · rw [upd_ne e1] at e
        by_cases e2 : b = dy
        · rw [e2]; exact hdy
        · rw [upd_ne e2] at e
          exact e
  have h2a := e12 _ _ h1a
  have naT : a ≠ Ta := live_ne h2a hTa
  have nao : ∀ b ∈ own2, b ≠ a := fun b hb => Ne.symm (live_ne h1a (hf b hb))
  have nTo : ∀ b ∈ own2, b ≠ Ta := fun b hb e => hop.live b hb (e ▸ hTa)
  have h0o : ∀ b, H1 b = none → b ≠ a → H0 b = none := fun b e ne => by
    cases z : H0 b with
    | none => rfl
    | some u =>
      have := ex b u z
      rw [← h1b b ne, e] at this
      cases this
  refine ⟨_, rfl, a, CP, dx, putF "colours" .non [], rfl, ?_, TP.cls, TP.nt, (by show 1 < 1000; decide), ?_⟩
  · rw [upd_ne naT]
    exact h2a
  refine ⟨_, rfl, a, CP, dx, _, rfl, upd_same, TP.cls, TP.np, (by show 2 < 1000; decide), q _ ⟨fun b u e => ?_, dx, Ta, [y], own2, upd_same, ?_, ⟨y, [], own2, [], rfl, (List.append_nil _).symm, ?_, rfl, rfl⟩, ?_, fun b hb => ?_⟩⟩
  · have nb : b ≠ a := live_ne e h0
    have hb := ex b u e
    rw [← h1b b nb] at hb
    have hb2 := e12 _ _ hb
    rw [upd_ne nb, upd_ne nb, upd_ne (live_ne hb2 hTa)]
    exact hb2
  · rw [upd_ne (Ne.symm naT), upd_ne (Ne.symm naT), upd_same]
    rfl
  · refine hop.same ⟨fun b hb => ?_, fun b xs e => ?_⟩
    · rw [upd_ne (nao b hb), upd_ne (nao b hb), upd_ne (nTo b hb)]
    · have nb : b ≠ a := ne_of e h2a (by intro z; cases z)
      rw [upd_ne nb, upd_ne nb, upd_ne (live_ne e hTa)]
      exact e
  · rw [List.nodup_cons, List.nodup_cons]
    refine ⟨?_, fun hm => nTo Ta hm rfl, nd2⟩
    simp only [List.mem_cons, not_or]
    exact ⟨naT, fun hm => nao a hm rfl⟩
  · simp only [List.mem_cons] at hb
    rcases hb with hb | hb | hb
    · rw [hb]
      exact h0
    · rw [hb]
      refine h0o Ta ?_ (Ne.symm naT)
      cases z : H1 Ta with
      | none => rfl
      | some u =>
        have := e12 _ _ z
        rw [hTa] at this
        cases this
    · exact h0o b (hf b hb) (nao b hb)
end
end Pk

namespace Pk
open PySem PySem.Spec PyProof.Rows L2 Evl
/-! ### the lines and the words of a text -/
theorem spl_sub (s : Nat) : ∀ (l acc : List Nat) (y : List Nat), y ∈ TL.spl [s] 0 acc l → (∀ c ∈ y, c ∈ acc ∨ c ∈ l) ∧ y.length ≤ acc.length + l.length
  | [], acc, y, h => by
    rw [TL.spl_nil, List.mem_singleton] at h
    rw [h]
    exact ⟨fun c hc => .inl hc, Nat.le_refl _⟩
  | c :: r, acc, y, h => by
    cases hp : TL.pre [s] (c :: r) with
    | true =>
      rw [TL.spl_hit hp] at h
      rcases List.mem_cons.mp h with h | h
      · rw [h]
        exact ⟨fun c hc => .inl hc, Nat.le_add_right _ _⟩
      · obtain ⟨h1, h2⟩ := spl_sub s r [] y h
        refine ⟨fun d hd => .inr ?_, ?_⟩
        · rcases h1 d hd with z | z
          · cases z
          · exact List.mem_cons_of_mem _ z
        · simp only [List.length_nil, List.length_cons] at h2 ⊢
          omega
    | false =>
      rw [TL.spl_miss hp] at h
      obtain ⟨h1, h2⟩ := spl_sub s r (acc ++ [c]) y h
      refine ⟨fun d hd => ?_, ?_⟩
      · rcases h1 d hd with z | z
        · rcases List.mem_append.mp z with z | z
          · exact .inl z
          · rw [List.mem_singleton] at z
            exact .inr (z ▸ List.mem_cons_self)
        · exact .inr (List.mem_cons_of_mem _ z)
      · simp only [List.length_append, List.length_cons, List.length_nil] at h2 ⊢
        omega
theorem kind1 (x : Str) {y : Str} (h : Builtin.Str.strKind y = 1) : ¬ Builtin.Str.strKind x < Builtin.Str.strKind y := by
  rw [h]
  unfold Builtin.Str.strKind
  split
  · decide
  · split <;> decide
def toS (w : List Nat) : Str := ⟨w.toArray⟩
theorem tl_toS (w : List Nat) : TL.tl (toS w) = w := rfl
theorem split_eq (x y : Str) (hy : TL.tl y ≠ []) (h : Builtin.Str.strKind y = 1) : Txt.split x y = (TL.spl (TL.tl y) 0 [] (TL.tl x)).map toS := by
  have e := TL.split_spl x y hy (kind1 x h)
  refine (List.map_inj_right (f := TL.tl) fun a b hab => TL.ext_tl hab).mp ?_
  rw [e, List.map_map]
  exact (List.map_id _).symm
theorem split_lines (x : Str) : Txt.split x "\n" = rdLines (TL.tl x) := split_eq x "\n" (by decide +kernel) (by decide +kernel)
def pieces (x : Str) : List Str := (TL.spl [32] 0 [] (TL.tl x)).map toS
theorem split_words (x : Str) : Txt.split x " " = pieces x := split_eq x " " (by decide +kernel) (by decide +kernel)
theorem toS_ne (w : List Nat) : (!w.isEmpty) = !decide (V.str (toS w) = V.str "") := by
  cases w with
  | nil => exact (ndec rfl).symm
  | cons a r =>
    refine (nne fun z => ?_).symm
    have := congrArg TL.tl (V.str.inj z)
    cases this
theorem words_pieces (x : Str) : wordsOf x = (pieces x).filter fun w : Str => !decide (V.str w = V.str "") := by
  unfold wordsOf pieces
  rw [List.filter_map]
  exact congrArg (List.map _) (List.filter_congr fun w _ => toS_ne w)
theorem line_small {x l : Str} (h : l ∈ rdLines (TL.tl x)) : (∀ c ∈ TL.tl l, c ∈ TL.tl x) ∧ l.length ≤ x.length := by
  obtain ⟨w, hw, rfl⟩ := List.mem_map.mp h
  obtain ⟨h1, h2⟩ := spl_sub 10 _ _ _ hw
  refine ⟨fun c hc => (h1 c hc).resolve_left (fun z => by cases z), ?_⟩
  rw [TL.len_tl, TL.len_tl x]
  simpa using h2
theorem word_small {l w : Str} (h : w ∈ wordsOf l) : (∀ c ∈ TL.tl w, c ∈ TL.tl l) ∧ w.length ≤ l.length := by
  rw [words_pieces] at h
  obtain ⟨h, _⟩ := List.mem_filter.mp h
  obtain ⟨v, hv, rfl⟩ := List.mem_map.mp h
  obtain ⟨h1, h2⟩ := spl_sub 32 _ _ _ hv
  refine ⟨fun c hc => (h1 c hc).resolve_left (fun z => by cases z), ?_⟩
  rw [TL.len_tl, TL.len_tl l]
  rw [List.length_nil, Nat.zero_add] at h2
  exact h2
theorem strOk_of {x : Str} (h : ∀ c ∈ TL.tl x, c < 1114112) : PyData.canLay0 (.str x) = true := by
  simp only [PyData.canLay0]
  show (x.cps.all fun c => decide (c < 1114112)) = true
  rw [← Array.all_toList, List.all_eq_true]
  exact fun c hc => decide_eq_true (h c hc)
theorem words_shaped {ws : List Str} (h : ∀ w ∈ ws, ∀ c ∈ TL.tl w, c < 1114112) : SeqAt.shaped (.list (ws.map PyData.str)) = true := by
  have h1 : PyData.canLayAll0 (ws.map PyData.str) = true := by
    induction ws with
    | nil => rfl
    | cons w ws ih =>
      rw [List.map_cons, PyData.canLayAll0, strOk_of (h w List.mem_cons_self), ih fun v hv => h v (List.mem_cons_of_mem _ hv)]
      rfl
  have h2 : ∀ ws : List Str, PyData.depthAll (ws.map PyData.str) = 0 := fun ws => by
    induction ws with
    | nil => rfl
    | cons w ws ih => rw [List.map_cons, PyData.depthAll, ih, PyData.depth]
                      rfl
  unfold SeqAt.shaped
  rw [decide_eq_true (by rw [PyData.depth, h2]; decide)]
  rw [PyData.canLay0, h1]
  rfl
theorem words_dp {K : PySem.W.Frag} {H : Hp} : ∀ ws : List Str, DpAll K H (ws.map V.str) (ws.map PyData.str)
  | [] => .nil
  | w :: ws => .cons (.str w) (words_dp ws)
theorem spl_len (s : Nat) : ∀ (l acc : List Nat), (TL.spl [s] 0 acc l).length ≤ l.length + 1
  | [], acc => by
    rw [TL.spl_nil]
    simp
  | c :: r, acc => by
    cases hp : TL.pre [s] (c :: r) with
    | true =>
      rw [TL.spl_hit hp]
      have := spl_len s r []
      simp only [List.length_cons] at *
      exact Nat.succ_le_succ this
    | false =>
      rw [TL.spl_miss hp]
      have := spl_len s r (acc ++ [c])
      simp only [List.length_cons] at *
      omega
theorem PlH.base2 {CP CO : Addr} {H0 H2 H3 : Hp} {a D : Addr} {o : HO} {p : Pl} (h : PlH CP CO H0 H2 a p) (hD : H2 D = none) (e : Ex H2 H3) (h3 : H3 D = some o) : PlH CP CO (upd H0 D o) H3 a p := by
  obtain ⟨dx, T, vs, own, k1, k2, k3, k4, k5⟩ := h.at_
  refine ⟨fun b u z => ?_, dx, T, vs, own, e _ _ k1, e _ _ k2, k3.same (Same.ex e k3.live), k4, fun b hb => ?_⟩
  · by_cases hb : b = D
    · rw [hb, upd_same] at z
      rw [hb, h3]
      exact z
    · rw [upd_ne hb] at z
      exact e b u (h.ex b u z)
  · have hne : b ≠ D := by
      rcases List.mem_cons.mp hb with hb | hb
      · rw [hb]; exact live_ne k1 hD
      rcases List.mem_cons.mp hb with hb | hb
      · rw [hb]; exact live_ne k2 hD
      exact fun z => k3.live b hb (z ▸ hD)
    rw [upd_ne hne]
    exact k5 b hb
theorem none_back {H0 H : Hp} {a : Addr} (e : Ex H0 H) (h : H a = none) : H0 a = none := by
  cases z : H0 a with
  | none => rfl
  | some u =>
    have := e a u z
    rw [h] at this
    cases this
section
variable {P : Program} {w : World} {K : PySem.W.Frag} {mg : Str → Option Value} {base : Heap}
/-! ### read_plan -/
def spRead (K : PySem.W.Frag) (C CN : Addr) : Sp := fun vs H Q E => (∃ x : Str, vs = [.str x] ∧ x.length + 2 ≤ sizeLine ∧ (∀ c ∈ TL.tl x, c < 1114112) ∧ (∀ (n : Int) (ds : List PyData), readM x = .ok (n, ds) → ∀ (H' : Hp) (u : V), Ex H H' → Tp H' (.tuple [.int n, .tuple ds]) u → Q u H') ∧
    (∀ l k : Nat, readM x = .error (l, k) → Err C E H l k)) ∨
  ∃ (v : V) (t : Value), vs = [v] ∧ TyX K H v t ∧ PySem.W.kitOne K t (.type "str") = some false ∧ E (.ref CN) none H
abbrev nsRead : List Str := ["text", "planner", "lines", "at", "line", "words", "word"]
theorem scRead : FnScope nsRead ["text"] (defScope sRead) := ⟨rfl, rfl, rfl, by decide +kernel, rfl, by decide +kernel, by decide +kernel⟩
theorem ok_read {CP CO C CN f : Addr} {fd : FuncData} (F : Fun K "read_plan" "read_plan" sRead f fd) (T : BadK P w K mg base C) (B : Blt mg) (TP : PlT K CP) (TO : OpT K CO)
    (HC : HasC P w K mg base 3 "Planner" CP ["self"] (spPi CP CO)) (MT : HasM P w K mg base (L2.CX P w) 5 CP "take" ["self", "line", "words"] (spTake CP CO C)) (xT : PySem.W.excIn K CN [.type "ValueError", .type "Exception", .type "BaseException", .type "object"] "ValueError.__new__" = true)
    (gT : mg "NotText" = some (.ref CN)) (kT : PySem.W.keepIn K (.ref CN) = true) (bT : PySem.W.subIn K (.ref CN) (.type "BaseException") = some true) (tT : PySem.W.typeIn K (.ref CN) = some (.type "type")) :
    FnOk P w K mg base (L2.CX P w) 6 f fd ["text"] (spRead K C CN) := by
  refine F.okX scRead (fun vs H Q E h => ?_) (fun cdv A outer s H vs Q E hr h => ?_)
  · rcases h with ⟨x, rfl, _⟩ | ⟨v, t, rfl, _⟩ <;> rfl
  have hrT := hr
  have hrP := hr.mono (show 4 ≤ 5 by decide)
  have hrB := hr.mono (show 2 ≤ 5 by decide)
  have tk : Takes (cxOf (L2.CX P w) P w K mg base nsRead "read_plan" (defScope sRead) f cdv A outer s H E) (fun cls d _ H => E cls d H) := takes_of rfl rfl rfl rfl
  refine ⟨_, (pss_cons (ps_if (pt_not (pt_val (pe_callB call_isi (by rfl) B.isi (by decide +kernel) (pa_cons (pv 0) (pa_cons (pe_bltn (v := .ty "str") (u := .type "str") (by rfl) B.str (by decide +kernel) rfl) pa_nil))))) (pss_one (ps_raise (by rfl) tk (pmk_own0 PySem.F.excBase_ValueError xT gT kT (raises_own bT tT) (by rfl)))) pss_nil)
    (pss_cons (ps_par (i := 1) (j := 2) (by rfl) scRead.nd (by rfl) (by rfl) (by decide) (by rfl) (by rfl) (pa_cons (pe_hc0 HC hrP (by rfl)) (pa_cons (pe_split (pv 0) pe_str) pa_nil)) (by rfl))
    (pss_cons (ps_for (passes_of rfl) (by rfl) (pi_enum (by rfl) B.enum (pa_cons (pv 2) pa_nil)) (pg_tup (by rfl) (pgs_cons (pg_name (i := 3) scRead.nd (by rfl) (.inl rfl)) (pgs_cons (pg_name (i := 4) scRead.nd (by rfl) (.inl rfl)) pgs_nil))) (pss_cons (ps_setLc (i := 5) (own := [("word", 6)]) (g := gName 6) (te := (tVar 6)) (by rfl) scRead.nd (by rfl) (by rfl) (sw_true (by rfl) (by rfl) (by rfl) (by decide +kernel)) (pi_list (pe_split (pv 4) pe_str)) (blkOk_by (own := [("word", 6)]) (N := nsRead) (sc := defScope sRead) (by decide +kernel)) (fun _ _ _ _ _ => pg_name (i := 6) scRead.nd (by rfl) (Or.inl (by rfl))) (fun _ _ _ _ _ => by exact (pts_one (pt_cmpR op_ne (pv 6) pe_str (nomark _)))) (fun _ _ _ _ _ => by exact (pv 6)))
    (pss_one (ps_if (pt_cmpR (op_neD hr.units) (pv 5) (pe_lst pa_nil) (nomark _)) (pss_one (ps_expr (pe_mh MT TP.cls hrT (passes_call (E := E) tk fun _ _ _ _ h => h) (pv 1) (pa_cons (pe_op op_add (pv 3) pe_int) (pa_cons (pv 5) pa_nil))))) pss_nil))))
    (pss_cons (ps_if (PW.pt (pw_or (pt_cmpR op_isN (pe_fld (pv 1) (by rfl)) pe_non (nomark _)) (pw_or1 (pt_cmpR op_gt (pe_callB call_len_seq (by rfl) B.len (by decide +kernel) (pa_cons (pe_fld (pv 1) (by rfl)) pa_nil)) pe_int (nomark _))))) (pss_one (ps_bad T hrB (by rfl) tk (by rfl) (pa_cons (pe_op op_add (pe_callB call_len_seq (by rfl) B.len (by decide +kernel) (pa_cons (pv 2) pa_nil)) pe_int) (pa_cons pe_int pa_nil)))) pss_nil)
    (pss_one (ps_ret (pe_tup (pa_cons (pe_fld (pv 1) (by rfl)) (pa_cons (pe_callTy call_tuple_of (by rfl) B.tup (by decide +kernel) (pa_cons (pe_ix ix_list (pe_fld (pe_ix ix_list (pe_fld (pv 1) (by rfl)) pe_int (fun _ _ => rfl)) (by rfl)) pe_int (fun _ _ => rfl)) pa_nil)) pa_nil))))))))), ?_⟩
  rcases h with ⟨x, rfl, hx, hc, q1, q2⟩ | ⟨v, t, rfl, hv, hk, q⟩
  · refine ⟨_, rfl, _, _, _, _, _, rfl, .ty "str", .base (.str x), kit_ty (r := true) (by decide +kernel), _, rfl, iteF' rfl ?_⟩
    refine fun a dxa ha hdxa hnea => ⟨a, dxa, H, rfl, upd_same, ?_, ha, fun H1 hp1 => ⟨rfl, ?_⟩⟩
    · exact (Ex.new hdxa).trans (Ex.new (by rw [upd_ne (Ne.symm hnea)]; exact ha))
    refine ⟨_, rfl, ⟨_, rfl⟩, x, "\n", rfl, rfl, by decide +kernel, hx, fun ll hll => ⟨_, _, rfl, ?_⟩⟩
    rw [split_lines]
    have hp2 := hp1.base (o := .lst ((rdLines (TL.tl x)).map V.str)) hll
    have hl2 : (upd H1 ll (.lst ((rdLines (TL.tl x)).map V.str))) ll = some (.lst ((rdLines (TL.tl x)).map V.str)) := upd_same
    have hl0 : (upd H ll (.lst ((rdLines (TL.tl x)).map V.str))) ll = some (.lst ((rdLines (TL.tl x)).map V.str)) := upd_same
    have e0 : Ex H (upd H ll (.lst ((rdLines (TL.tl x)).map V.str))) := Ex.new (none_back hp1.ex hll)
    generalize upd H1 ll (.lst ((rdLines (TL.tl x)).map V.str)) = H2 at hp2 hl2 ⊢
    generalize upd H ll (.lst ((rdLines (TL.tl x)).map V.str)) = H0 at hp2 hl0 e0
    have hrd : readM x = match readGo 0 (rdLines (TL.tl x)) pl0 with
      | .error e => .error e
      | .ok p => match p.col, p.tow with
        | some c, [o] => .ok (c, o.first)
        | _, _ => .error ((rdLines (TL.tl x)).length + 1, 1) := rfl
    have hsm : ∀ l ∈ rdLines (TL.tl x), (∀ c ∈ TL.tl l, c ∈ TL.tl x) ∧ l.length ≤ x.length := fun l hl => line_small hl
    generalize rdLines (TL.tl x) = ls at *
    refine ⟨_, rfl, ll, _, rfl, SqL.of hl2, fun i m σ' H' => m = ls.length - i ∧ i ≤ ls.length ∧ ∃ (p : Pl) (x3 x4 x5 x6 : Option V), Good p ∧ PlH CP CO H0 H' a p ∧ readGo i (ls.drop i) p = readGo 0 ls pl0 ∧ σ' = [some (.str x), some (.ref a), some (.ref ll), x3, x4, x5, x6],
      ⟨ls.length, rfl, Nat.zero_le _, pl0, none, none, none, none, good0, hp2, rfl, rfl⟩, ?_⟩
    rintro i m σ' H' ⟨rfl, hi, p, x3, x4, x5, x6, g, hp, hgo, rfl⟩
    have hl' := hp.ex _ _ hl0
    by_cases hlt : i < ls.length
    · refine .inr ⟨⟨_, .str ls[i], SqL.of hl', by simp [hlt]⟩, fun σ3 H3 => i + 1 ≤ ls.length ∧ ∃ (p : Pl) (x3 x4 x5 x6 : Option V), Good p ∧ PlH CP CO H0 H3 a p ∧ readGo (i + 1) (ls.drop (i + 1)) p = readGo 0 ls pl0 ∧ σ3 = [some (.str x), some (.ref a), some (.ref ll), x3, x4, x5, x6],
        fun σ3 H3 hN => ⟨ls.length - (i + 1), by omega, rfl, hN⟩, ?_⟩
      rintro y H3 ⟨tt, yv, rfl, htt, rfl, hy⟩
      have hyv : yv = .str ls[i] := by
        have := hy _ (SqL.of hl')
        rw [List.getElem?_map, List.getElem?_eq_getElem hlt] at this
        exact (Option.some.inj this).symm
      subst hyv
      have e3 : Ex H' (upd H' tt (.tup [.int (i : Nat), .str ls[i]])) := Ex.new htt
      refine ⟨tt, _, rfl, SqT.of upd_same, rfl, _, _, rfl, _, _, rfl, rfl, ?_⟩
      have hp3 := hp.grow e3
      generalize upd H' tt (.tup [.int (i : Nat), .str ls[i]]) = H3 at e3 hp3 ⊢
      have hmem : ls[i] ∈ ls := List.getElem_mem hlt
      have hgo2 : readGo i (ls.drop i) p = readGo i (ls[i] :: ls.drop (i + 1)) p := by rw [List.drop_eq_getElem_cons hlt]
      obtain ⟨hs1, hs2⟩ := hsm _ hmem
      generalize ls[i] = ln at *
      refine ⟨_, rfl, ⟨_, rfl⟩, ln, " ", rfl, rfl, by decide +kernel, by omega, fun pl hpl => ⟨pl, rfl, ⟨_, SqL.of upd_same⟩, fun D hD => ?_⟩⟩
      rw [split_words] at hD ⊢
      have e4 : Ex H3 (upd H3 pl (.lst ((pieces ln).map V.str))) := Ex.new hpl
      have hq4 : (upd H3 pl (.lst ((pieces ln).map V.str))) pl = some (.lst ((pieces ln).map V.str)) := upd_same
      generalize upd H3 pl (.lst ((pieces ln).map V.str)) = H4 at e4 hq4 hD ⊢
      refine lc_list (K := K) (a := pl) (xs := (pieces ln).map V.str) (fun j H5 => Ex H4 H5 ∧ H5 D = some (.lst ((((pieces ln).take j).filter fun w : Str => !decide (V.str w = V.str "")).map V.str))) ⟨Ex.new hD, upd_same⟩ (fun j H5 _ hP => SqL.of (hP.1 _ _ hq4)) ?_ ?_
      · intro j v H5 hj hP
        rw [List.getElem?_map] at hj
        cases hpj : (pieces ln)[j]? with
        | none => rw [hpj] at hj; cases hj
        | some wd =>
          rw [hpj] at hj
          cases hj
          refine ⟨rfl, _, rfl, rfl, _, rfl, ?_⟩
          have hfl : ((pieces ln).take (j + 1)).filter (fun w : Str => !decide (V.str w = V.str "")) = ((pieces ln).take j).filter (fun w : Str => !decide (V.str w = V.str "")) ++ [wd].filter (fun w : Str => !decide (V.str w = V.str "")) := by
            rw [take_more hpj, List.filter_append]
          cases hb : (!decide (V.str wd = V.str "")) with
          | true =>
            refine iteT' rfl ⟨_, rfl, _, hP.2, ?_, hP.1.mut hD, ?_⟩
            · have h1 : (pieces ln).length ≤ (TL.tl ln).length + 1 := by
                unfold pieces
                rw [List.length_map]
                exact spl_len 32 _ _
              have h2 : j < (pieces ln).length := (List.getElem?_eq_some_iff.mp hpj).1
              have h3 : (((pieces ln).take j).filter fun w : Str => !decide (V.str w = V.str "")).length ≤ j := Nat.le_trans (List.length_filter_le _ _) (by rw [List.length_take]; omega)
              rw [TL.len_tl] at hs2
              rw [List.length_map]
              omega
            · rw [upd_same, hfl, List.filter_cons_of_pos (p := fun w : Str => !decide (V.str w = V.str "")) hb, List.filter_nil, List.map_append]
              rfl
          | false =>
            refine iteF' rfl ⟨hP.1, ?_⟩
            rw [hP.2, hfl, List.filter_cons_of_neg (p := fun w : Str => !decide (V.str w = V.str "")) (by rw [hb]; exact Bool.false_ne_true), List.filter_nil, List.append_nil]
      · intro H5 hP
        obtain ⟨e5, h5D⟩ := hP
        rw [List.length_map, List.take_length, ← words_pieces] at h5D
        have hwc : ∀ w ∈ wordsOf ln, ∀ c ∈ TL.tl w, c < 1114112 := fun w hw c hcw => hc c (hs1 c ((word_small hw).1 c hcw))
        have hwl : ∀ w ∈ wordsOf ln, w.length ≤ sizeLine := fun w hw => by
          have := (word_small hw).2
          omega
        refine ⟨_, rfl, Nat.zero_le _, fun e he => ⟨.list ((wordsOf ln).map PyData.str), .list [], .lst (SqL.of (Ex.new he _ _ h5D)) (words_dp _), .lst (SqL.of upd_same) .nil, words_shaped hwc, by decide +kernel, _, rfl, ?_⟩⟩
        have e56 : Ex H5 (upd H5 e (.lst [])) := Ex.new he
        have h6D := e56 _ _ h5D
        generalize upd H5 e (.lst []) = H6 at e56 h6D ⊢
        have e46 := e5.trans e56
        have hp6 := hp3.grow (e4.trans e46)
        cases hwo : wordsOf ln with
        | nil =>
          refine iteF' (by decide +kernel) ⟨hlt, p, _, _, _, _, g, hp6, ?_, rfl⟩
          rw [← hgo, hgo2, readGo, hwo]
        | cons wd r =>
          rw [hwo] at h6D hwl
          have hne : (!PyData.eqv (.list ((wd :: r).map PyData.str)) (.list [])) = true := by
            rw [List.map_cons]
            simp [PyData.eqv, PyData.eqvAll]
          refine iteT' hne ?_
          have hp7 := (hp3.grow e4).base2 hD e46 h6D
          have hD0 : H0 D = none := none_back (hp3.grow e4).ex hD
          obtain ⟨dx6, T6, vs6, own6, k6, _⟩ := hp6.at_
          refine ⟨_, rfl, a, dx6, _, rfl, k6, rfl, _, rfl, _, _, rfl, rfl, _, rfl, a, D, (i : Int) + 1, _, p, wd, r, rfl, hp7, g, upd_same, hwl, fun q hq H7 hp8 => ?_, fun k hk => ?_⟩
          · refine ⟨hlt, q, _, _, _, _, take_good g hq, hp8.less (Ex.new hD0), ?_, rfl⟩
            rw [← hgo, hgo2, readGo, hwo]
            dsimp only
            rw [hq]
          · have h1 : readGo 0 ls pl0 = .error (i + 1, k) := by
              rw [← hgo, hgo2, readGo, hwo]
              dsimp only
              rw [hk]
            rw [h1] at hrd
            exact (q2 (i + 1) k hrd).of (e0.trans (Ex.new hD0))
    · refine .inl ⟨⟨_, SqL.of hl', by rw [List.length_map]; omega⟩, ?_⟩
      have hge : ls.drop i = [] := List.drop_eq_nil_of_le (by omega)
      rw [hge, readGo] at hgo
      rw [← hgo] at hrd
      dsimp only at hrd
      obtain ⟨dx, Ta, vs, own, h1, h2, h3, h4, h5⟩ := hp.at_
      have bad : readM x = .error (ls.length + 1, 1) → Err C E H' ((ls.length : Int) + 1) 1 := fun e => (q2 (ls.length + 1) 1 e).of (e0.trans hp.ex)
      have hll2 : ((ls.map V.str).length : Int) = (ls.length : Int) := by rw [List.length_map]
      refine ⟨_, rfl, a, CP, dx, _, _, rfl, h1, TP.cls, TP.nc, rfl, rfl, _, rfl, ?_⟩
      cases hcol : p.col with
      | none =>
        rw [hcol] at hrd
        refine iteT' (decide_eq_true rfl) (iteT' rfl ⟨_, rfl, ll, _, rfl, .inl (SqL.of hl'), _, _, rfl, rfl, _, _, rfl, ?_⟩)
        rw [hll2]
        exact bad hrd
      | some c =>
        rw [hcol] at hrd
        refine iteF' (decide_eq_false (by intro z; cases z)) ?_
        refine ⟨_, rfl, a, CP, dx, _, _, rfl, h1, TP.cls, TP.nt, rfl, Ta, _, rfl, .inl (SqL.of h2), _, _, rfl, rfl, _, rfl, ?_⟩
        obtain ⟨o, r, y, vr, ow, owr, eo, rfl, rfl, ho, hr2⟩ := h3.top g.ne
        rcases r with _ | ⟨o2, r⟩
        · obtain ⟨rfl, rfl⟩ := hr2
          rw [eo] at hrd
          refine iteF' rfl ?_
          obtain ⟨dxo, Bo, bl, k1, k2, k3, _⟩ := ho
          obtain ⟨hbl, hbd⟩ := k3.bd
          obtain ⟨b0, hb0⟩ : ∃ b0, bl[0]? = some b0 := by
            have : 0 < bl.length := by
              rw [hbl]
              unfold Op.bd
              split <;> simp
            exact ⟨_, List.getElem?_eq_getElem this⟩
          obtain ⟨ds, hds, xs, hxs, hts⟩ := hbd 0 b0 hb0
          have hfst : o.bd[0]? = some o.first := by
            unfold Op.bd Op.first
            cases o.b0 <;> rfl
          rw [hfst] at hds
          cases hds
          refine ⟨_, rfl, a, CP, dx, _, _, rfl, h1, TP.cls, TP.nc, rfl, _, rfl, a, CP, dx, _, _, rfl, h1, TP.cls, TP.nt, rfl, Ta, _, 0, .ref y, rfl, rfl, SqL.of h2, atI_nat (j := 0) rfl, ?_⟩
          refine ⟨y, CO, dxo, _, _, rfl, k1, TO.cls, TO.nb, rfl, Bo, _, 0, .ref b0, rfl, rfl, SqL.of k2, atI_nat (j := 0) (by rw [List.getElem?_map, hb0]; rfl), b0, xs, rfl, .inl ⟨SqL.of hxs, fun t ht => ⟨(by show 2 ≤ sizeLine; decide), fun u hu => ?_⟩⟩⟩
          have k := (TK.new (o := .tup xs) ht).trans (TK.new (o := .tup [colV p.col, .ref t]) hu)
          refine q1 c o.first hrd _ _ ((e0.trans hp.ex).trans ((Ex.new ht).trans (Ex.new hu))) ⟨u, _, rfl, upd_same, _, _, rfl, by rw [hcol]; rfl, _, _, rfl, ⟨t, xs, rfl, ?_, TpL.mono k _ _ hts⟩, rfl⟩
          exact TK.new hu _ _ upd_same
        · rw [eo] at hrd
          have hv1 : (y :: vr).length = r.length + 2 := by rw [h3.length, eo]; rfl
          refine iteT' (decide_eq_true (by rw [List.length_map, List.length_reverse, hv1]; omega)) ⟨_, rfl, ll, _, rfl, .inl (SqL.of hl'), _, _, rfl, rfl, _, _, rfl, ?_⟩
          rw [hll2]
          exact bad hrd
  · refine ⟨_, rfl, v, .ty "str", t, _, false, rfl, .ty "str", hv, hk, _, rfl, iteT' rfl ?_⟩
    exact q
end
end Pk

namespace Pk
open PySem PySem.Spec PyProof.Rows L2 Evl
/-! ### a text repeated -/
theorem mul_cat {x : Str} {n : Nat} (h2 : 2 ≤ n) (hx : x.length ≠ 0) : Txt.mul x (n : Int) = cat x n := by
  have key : ∀ (k : Nat) (b : Array Nat), ((List.replicate k x.cps).foldl (· ++ ·) b).toList = b.toList ++ catL (TL.tl x) k := by
    intro k
    induction k with
    | zero => intro b; simp [catL]
    | succ k ih =>
      intro b
      rw [List.replicate_succ, List.foldl_cons, ih, Array.toList_append, List.append_assoc]
      rfl
  unfold Txt.mul
  rw [if_neg (by omega), if_neg (by
    simp only [Bool.or_eq_true, beq_iff_eq, not_or]
    exact ⟨by omega, hx⟩)]
  refine TL.ext_tl ?_
  rw [tl_cat]
  have := key (n : Int).toNat #[]
  rw [Int.toNat_natCast] at this
  rw [Int.toNat_natCast]
  exact this
theorem len_cat (x : Str) : ∀ n, (cat x n).length = n * x.length
  | 0 => by
    rw [Nat.zero_mul]
    show ("" : Str).length = 0
    decide +kernel
  | n + 1 => by
    rw [cat, len_app, len_cat x n, Nat.succ_mul, Nat.add_comm]
def rMulS : R2 := fun x y H Q => ∃ (z : Str) (n : Nat), x = .str z ∧ y = .int n ∧ 2 ≤ n ∧ z.length ≠ 0 ∧ MulOk z n ∧ Q (.str (cat z n)) H
theorem op_mulS {X : Cx} : OpR X (binaryOp .Mult) rMulS := by
  intro pins s σ H x y v u Q I rx ry h
  obtain ⟨z, n, rfl, rfl, h2, hz, hok, q⟩ := h
  obtain ⟨t, rfl⟩ := rx
  obtain ⟨t', rfl⟩ := ry
  refine PySem.SB.mul hok fun t2 k => ⟨.str (cat z n), H, I.tok k, ⟨t2, by rw [mul_cat h2 hz]⟩, q⟩
theorem mul_small {z : Str} {n : Nat} (h1 : 2 ≤ n) (h2 : n ≤ 100) (h3 : z.length ≤ 100) : MulOk z n := by
  refine ⟨?_, fun _ _ => ?_, fun _ _ => ?_⟩
  · rw [decide_eq_false (by omega), decide_eq_false (by omega)]
    rfl
  · have h5 : z.length * n ≤ 100 * 100 := Nat.mul_le_mul h3 h2
    have h6 : (z.length : Int) * (n : Int) ≤ 2 ^ 63 - 1 := by
      rw [← Int.natCast_mul]
      omega
    have := Int.le_ediv_of_mul_le (show (0 : Int) < (n : Int) by omega) h6
    omega
  · rw [Int.toNat_natCast]
    have : z.length * n ≤ 100 * 100 := Nat.mul_le_mul h3 h2
    unfold Builtin.Str.tooLong
    exact decide_eq_false (by rw [sizeLine_eq]; omega)
/-! ### 'm' + e, where e wants a token out -/
theorem pe_catT {X : Cx} {x : Str} {j : Nat} {p pos : Pos} {e : Expr} {te : TE} {op : Operator} {r : R2} (ho : OpR X (binaryOp op) r) (he : PET X e te) : PE X (.BinOp (.Constant (.str x) j p) op e pos) (tOp r (tC (.str x)) te) := by
  refine ⟨fun pins s σ H Q I h => ?_⟩
  refine wpAny_BinOp (Calls.Constant_str ?_)
  exact thn (he pins _ σ H _ (Nat.le_add_left 1 _) (I.tok _) h) fun u s2 ⟨y, H2, I2, r2, q2⟩ => ho pins s2 σ H2 (.str x) y _ u Q I2 ⟨_, rfl⟩ r2 q2
/-! ### the rows, laid -/
def StrE (σ : L2.St) (t : TE) (x : Str) : Prop := ∀ (H : Hp) (Q : VK), Q (.str x) H → t σ H Q
def rAddS : R2 := fun x y H Q => ∃ i j, x = .str i ∧ y = .str j ∧ i.length + j.length ≤ sizeLine ∧ Q (.str (i ++ j)) H
theorem se_c {σ : L2.St} {x : Str} : StrE σ (tC (.str x)) x := fun _ _ q => q
theorem se_v {σ : L2.St} {i : Nat} {x : Str} (h : σ[i]? = some (some (.str x))) : StrE σ (tVar i) x := fun _ _ q => ⟨_, h, q⟩
theorem se_add {σ : L2.St} {a b : TE} {x y : Str} (ha : StrE σ a x) (hb : StrE σ b y) (h : x.length + y.length ≤ sizeLine) : StrE σ (tOp rAddS a b) (x ++ y) := fun H Q q => ha H _ (hb H _ ⟨x, y, rfl, rfl, h, q⟩)
theorem se_mul {σ : L2.St} {z : Str} {n : Nat} (h1 : 2 ≤ n) (h2 : n ≤ 100) (h3 : z.length ≤ 100) (h4 : z.length ≠ 0) : StrE σ (tOp rMulS (tC (.str z)) (tC (.int n))) (cat z n) := fun H Q q => ⟨z, n, rfl, rfl, h1, h4, mul_small h1 h2 h3, q⟩
def Rows (H : Hp) : List (List V) → List V → Prop
  | [], vs => vs = []
  | r :: rs, vs => ∃ (p : Addr) (vr : List V), vs = .ref p :: vr ∧ H p = some (.tup r) ∧ Rows H rs vr
theorem Rows.ex {H H' : Hp} (e : Ex H H') : ∀ {rs : List (List V)} {vs : List V}, Rows H rs vs → Rows H' rs vs
  | [], _, h => h
  | _ :: _, _, ⟨p, vr, h1, h2, h3⟩ => ⟨p, vr, h1, e _ _ h2, Rows.ex e h3⟩
theorem Rows.length {H : Hp} : ∀ {rs : List (List V)} {vs : List V}, Rows H rs vs → vs.length = rs.length
  | [], _, h => by
    rw [show _ = _ from h]
    rfl
  | _ :: _, _, ⟨p, vr, h1, h2, h3⟩ => by rw [h1, List.length_cons, List.length_cons, Rows.length h3]
theorem Rows.append {H : Hp} : ∀ {rs rs2 : List (List V)} {vs vs2 : List V}, Rows H rs vs → Rows H rs2 vs2 → Rows H (rs ++ rs2) (vs ++ vs2)
  | [], _, _, _, h, h2 => by
    rw [show _ = _ from h]
    exact h2
  | _ :: _, _, _, _, ⟨p, vr, h1, h3, h4⟩, h2 => by
    rw [h1]
    exact ⟨p, _, rfl, h3, Rows.append h4 h2⟩
theorem Rows.get {H : Hp} : ∀ {rs : List (List V)} {vs : List V} {i : Nat} {v : V}, Rows H rs vs → vs[i]? = some v → ∃ r p, rs[i]? = some r ∧ v = .ref p ∧ H p = some (.tup r)
  | [], _, _, _, h, hi => by
    rw [show _ = _ from h] at hi
    simp at hi
  | r :: rs, _, 0, v, ⟨p, vr, h1, h2, h3⟩, hi => by
    rw [h1] at hi
    exact ⟨r, p, rfl, (Option.some.inj hi).symm, h2⟩
  | r :: rs, _, i + 1, v, ⟨p, vr, h1, h2, h3⟩, hi => by
    rw [h1] at hi
    exact Rows.get (rs := rs) (i := i) h3 hi
def RowsA (σ : L2.St) (ta : TA) (rs : List (List V)) : Prop := ∀ (H : Hp) (Q : List V → Hp → Prop), (∀ vs H', Ex H H' → Rows H' rs vs → Q vs H') → ta σ H Q
theorem rows_nil {σ : L2.St} : RowsA σ tNil [] := fun H Q q => q [] H (Ex.refl H) rfl
theorem rows_cons {σ : L2.St} {s : TE} {x : Str} {a b : V} {ta : TA} {rs : List (List V)} (h : StrE σ s x) (hr : RowsA σ ta rs) : RowsA σ (tCons (tTup (tCons s (tCons (tC a) (tCons (tC b) tNil)))) ta) ([.str x, a, b] :: rs) := fun H Q q =>
  h H _ ⟨(by show 3 ≤ sizeLine; decide), fun p hp => hr _ _ fun vs H' e hv => q (.ref p :: vs) H' ((Ex.new hp).trans e) ⟨p, vs, rfl, e _ _ upd_same, hv⟩⟩
def RowL (H : Hp) (rs : List (List V)) (l : Addr) : Prop := ∃ vs, H l = some (.lst vs) ∧ Rows H rs vs
theorem rows_set {σ : L2.St} {ta : TA} {rs : List (List V)} {i : Nat} {D : Ends} {H : Hp} (h : RowsA σ ta rs) (hl : rs.length ≤ 100) (q : ∀ l H', Ex H H' → RowL H' rs l → D.nx (σ.set i (some (.ref l))) H') : tAsg (tLst ta) (gName i) D σ H :=
  h H _ fun vs H' e hv => ⟨by rw [hv.length]; exact Nat.le_of_lt (small1000 (by omega)), fun l hn => q l _ (e.trans (Ex.new hn)) ⟨vs, upd_same, hv.ex (Ex.new hn)⟩⟩
theorem rows_more {σ : L2.St} {ta : TA} {rs rs0 : List (List V)} {i : Nat} {l : Addr} {D : Ends} {H : Hp} (hi : σ[i]? = some (some (.ref l))) (h0 : RowL H rs0 l) (h : RowsA σ ta rs) (hl : rs.length ≤ 100) (hl0 : rs0.length ≤ 100)
    (q : ∀ l H', Ex H H' → RowL H' (rs0 ++ rs) l → D.nx (σ.set i (some (.ref l))) H') : tAsg (tOp rCat (tVar i) (tLst ta)) (gName i) D σ H := by
  obtain ⟨vs0, h1, h2⟩ := h0
  refine ⟨_, hi, h H _ fun vs H' e hv => ⟨by rw [hv.length]; exact Nat.le_of_lt (small1000 (by omega)), fun b hb => ?_⟩⟩
  have e2 := e.trans (Ex.new (o := .lst vs) hb)
  refine ⟨l, b, vs0, vs, rfl, rfl, e2 _ _ h1, upd_same, ?_, fun n hn => q n _ (e2.trans (Ex.new hn)) ⟨vs0 ++ vs, upd_same, ((h2.ex e2).append (hv.ex (Ex.new hb))).ex (Ex.new hn)⟩⟩
  rw [h2.length, hv.length]
  exact Nat.le_of_lt (small1000 (by omega))
theorem rows_setS {σ : L2.St} {ta : TA} {rs : List (List V)} {i : Nat} {u : TS} {D : Ends} {H : Hp} (h : RowsA σ ta rs) (hl : rs.length ≤ 100) (q : ∀ l H', Ex H H' → RowL H' rs l → u D (σ.set i (some (.ref l))) H') : tSeq (tAsg (tLst ta) (gName i)) u D σ H :=
  rows_set (D := { D with nx := u D }) h hl q
theorem rows_moreS {σ : L2.St} {ta : TA} {rs rs0 : List (List V)} {i : Nat} {l : Addr} {u : TS} {D : Ends} {H : Hp} (hi : σ[i]? = some (some (.ref l))) (h0 : RowL H rs0 l) (h : RowsA σ ta rs) (hl : rs.length ≤ 100) (hl0 : rs0.length ≤ 100)
    (q : ∀ l H', Ex H H' → RowL H' (rs0 ++ rs) l → u D (σ.set i (some (.ref l))) H') : tSeq (tAsg (tOp rCat (tVar i) (tLst ta)) (gName i)) u D σ H := rows_more (D := { D with nx := u D }) hi h0 h hl hl0 q
theorem setS {σ : L2.St} {v : V} {i : Nat} {u : TS} {D : Ends} {H : Hp} (q : u D (σ.set i (some v)) H) : tSeq (tAsg (tC v) (gName i)) u D σ H := q
/-- the reading of a try, its name kept -/
def tTry (tb : WX → TS) (wd : Ends → WX) : TS := fun D σ H => tb (wd D) D σ H
theorem ps_try_asT {X : Cx} {x n : Str} {c : Value} {i : Nat} {body suite : List Stmt} {b₀ : Stmt} {np pos pos' : Pos} {tb : WX → TS} {ts : Addr → Value → Option Addr → TS} {Wout : WX} (hs : X.stack = X.env :: X.outer) (hf : X.env.frame = some X.env.locals) (hN : X.N.Nodup) (hi : X.N[i]? = some n) (hln : X.env.kindOf n = some .local) (hc : Names X x c) (tk : Takes X Wout)
    (hb : ∀ (W : WX) (pn : List (Addr × Obj)) (xe : Value → Shared → Prop), Takes (X.tr pn xe) W → PassesOwn (model X.prog X.w) X.A X.env xe → PSs (X.tr pn xe) body (tb W))
    (hsu : ∀ (a : Addr) (oe : Obj) (cls : Value) (d : Option Addr) (pn : List (Addr × Obj)), Zc cls d oe → (∃ vs, oe.data = .fields vs) → PSs (X.suite a ((a, oe) :: pn)) (b₀ :: suite) (ts a cls d)) :
    PS X (.Try body [.ExceptHandler (some (.Name x np)) (some n) (b₀ :: suite) pos'] [] [] pos) (tTry tb fun D => wAs X.K c i ts Wout D) := ps_try_as hs hf hN hi hln hc tk hb hsu
def lineV : Option (Nat × Nat) → V
  | none => .non
  | some (l, _) => .int l
def wordV : Option (Nat × Nat) → V
  | none => .non
  | some (_, k) => .int k
def rowV (r : Str × Option (Nat × Nat)) : List V := [.str r.1, lineV r.2, wordV r.2]
end Pk

namespace Pk
open PySem PySem.Spec PyProof.Rows L2 Evl
/-! ### the signs of the texts are plain -/
theorem repl_in (s : Nat) : ∀ (l : List Nat), (∀ c ∈ StrLaws.replL [s] [s, s] l, c ∈ l) ∧ (StrLaws.replL [s] [s, s] l).length ≤ 2 * l.length
  | [] => by
    rw [StrLaws.replL_nil]
    exact ⟨fun c h => h, Nat.le_refl _⟩
  | d :: r => by
    obtain ⟨h1, h2⟩ := repl_in s r
    rw [repl1]
    by_cases h : d = s
    · rw [if_pos h, h]
      refine ⟨fun c hc => ?_, ?_⟩
      · simp only [List.mem_append, List.mem_cons, List.not_mem_nil, or_false] at hc ⊢
        rcases hc with (hc | hc) | hc
        · exact .inl hc
        · exact .inl hc
        · exact .inr (h1 c hc)
      · simp only [List.length_append, List.length_cons, List.length_nil]
        omega
    · rw [if_neg h]
      refine ⟨fun c hc => ?_, ?_⟩
      · simp only [List.mem_append, List.mem_cons, List.not_mem_nil, or_false] at hc ⊢
        rcases hc with hc | hc
        · exact .inl hc
        · exact .inr (h1 c hc)
      · simp only [List.length_append, List.length_cons, List.length_nil]
        omega
def asc (ws : List Str) : Prop := ∀ w ∈ ws, ∀ c ∈ TL.tl w, c < 256
theorem asc_lit {f : Str} (h : (TL.tl f).all (fun c => decide (c < 256)) = true) : ∀ c ∈ TL.tl f, c < 256 := fun c hc => of_decide_eq_true (List.all_eq_true.mp h c hc)
theorem asc1 {f : Str} (h : ∀ c ∈ TL.tl f, c < 256) : asc [f] := fun w hw => by
  rw [List.mem_singleton] at hw
  rw [hw]
  exact h
theorem asc2 {f g : Str} (h : ∀ c ∈ TL.tl f, c < 256) (h2 : ∀ c ∈ TL.tl g, c < 256) : asc [f, g] := fun w hw => by
  rcases List.mem_cons.mp hw with hw | hw
  · rw [hw]
    exact h
  · rw [List.mem_singleton] at hw
    rw [hw]
    exact h2
theorem asc_num {c : Int} (h0 : 0 ≤ c) (h : c < 10) : ∀ d ∈ TL.tl (num c), d < 256 := by
  rw [tl_numc h0 h]
  intro d hd
  rw [List.mem_singleton] at hd
  omega
theorem ascR : LnR asc where
  h1 := by
    intro f hf
    have : ∀ f ∈ (["step", "stop", "forever", "else", "end"] : List Str), (TL.tl f).all (fun c => decide (c < 256)) = true := by decide +kernel
    exact asc1 (asc_lit (this f hf))
  h2 := by
    intro f hf c h0 h
    have : ∀ f ∈ (["paint", "if", "while", "repeat"] : List Str), (TL.tl f).all (fun c => decide (c < 256)) = true := by decide +kernel
    exact asc2 (asc_lit (this f hf)) (asc_num h0 h)
  h3 k := by
    refine asc2 (asc_lit (by decide +kernel)) ?_
    unfold dirT
    by_cases h : k = 1
    · rw [if_pos h]; exact asc_lit (by decide +kernel)
    · rw [if_neg h]
      by_cases h : k = 2
      · rw [if_pos h]; exact asc_lit (by decide +kernel)
      · rw [if_neg h]; exact asc_lit (by decide +kernel)
theorem join_asc {S : List Nat} (hS : ∀ c ∈ S, c < 256) : ∀ ps : List (List Nat), (∀ p ∈ ps, ∀ c ∈ p, c < 256) → ∀ c ∈ TL.joinL S ps, c < 256
  | [], _, c, h => by simp [TL.joinL] at h
  | [p], hp, c, h => hp p (by simp) c (by simpa [TL.joinL] using h)
  | p :: q :: r, hp, c, h => by
    rw [TL.joinL] at h
    rcases List.mem_append.mp h with h | h
    · exact hp p (by simp) c h
    · rcases List.mem_append.mp h with h | h
      · exact hS c h
      · exact join_asc hS (q :: r) (fun x hx => hp x (by simp [hx])) c h
theorem plan_asc {n : Int} {ps : List Pt} (h2 : 2 ≤ n) (h6 : n ≤ 6) (ho : Pt.oks n ps) : ∀ c ∈ TL.tl (planText n ps), c < 256 := by
  rw [tl_planText]
  refine join_asc (by simp) _ fun p hp => ?_
  obtain ⟨ws, hw, rfl⟩ := List.mem_map.mp hp
  have ha : asc ws := by
    rcases List.mem_cons.mp hw with rfl | hw
    · exact asc2 (asc_lit (by decide +kernel)) (asc_num (by omega) (by omega))
    · exact liness_all ascR h6 ps ho ws hw
  refine join_asc (by simp) _ fun p hp => ?_
  obtain ⟨w, hw, rfl⟩ := List.mem_map.mp hp
  exact ha w hw
theorem wide_asc {x : Str} (h : ∀ c ∈ TL.tl x, c < 256) : (∀ c ∈ TL.tl (wideText x), c < 256) ∧ (Txt.replace x " " "  ").length ≤ 2 * x.length ∧ (Txt.replace (Txt.replace x " " "  ") "\n" "\n\n").length ≤ 4 * x.length := by
  have e1 : TL.tl ("\n" : Str) = [10] := by decide +kernel
  have e2 : TL.tl (" " : Str) = [32] := by decide +kernel
  have e3 : TL.tl ("\n " : Str) = [10, 32] := by decide +kernel
  have e4 : TL.tl ("  " : Str) = [32, 32] := by decide +kernel
  have e5 : TL.tl ("\n\n" : Str) = [10, 10] := by decide +kernel
  have r2 : TL.tl (Txt.replace x " " "  ") = StrLaws.replL [32] [32, 32] (TL.tl x) := by
    refine (StrLaws.replace_list (by decide +kernel)).trans ?_
    show StrLaws.replL (TL.tl " ") (TL.tl "  ") (TL.tl x) = _
    rw [e2, e4]
  have r1 : TL.tl (Txt.replace (Txt.replace x " " "  ") "\n" "\n\n") = StrLaws.replL [10] [10, 10] (StrLaws.replL [32] [32, 32] (TL.tl x)) := by
    refine (StrLaws.replace_list (by decide +kernel)).trans ?_
    show StrLaws.replL (TL.tl "\n") (TL.tl "\n\n") (TL.tl (Txt.replace x " " "  ")) = _
    rw [e1, e5, r2]
  obtain ⟨a1, a2⟩ := repl_in 32 (TL.tl x)
  obtain ⟨b1, b2⟩ := repl_in 10 (StrLaws.replL [32] [32, 32] (TL.tl x))
  refine ⟨fun c hc => ?_, ?_, ?_⟩
  · unfold wideText at hc
    rw [TL.tl_append, TL.tl_append, r1, e1, e3] at hc
    simp only [List.mem_append, List.mem_cons, List.not_mem_nil, or_false] at hc
    rcases hc with ((hc | hc) | hc) | hc
    · omega
    · omega
    · exact h c (a1 c (b1 c hc))
    · omega
  · rw [TL.len_tl, r2, TL.len_tl x]
    exact a2
  · rw [TL.len_tl, r1, TL.len_tl x]
    omega
theorem rows_plain : ∀ r ∈ rows, (TL.tl r.1).length ≤ 1000 ∧ (TL.tl r.1).all (fun c => decide (c < 256)) = true := by
  unfold rows
  simp only [List.forall_mem_cons, TL.tl_append, tl_cat]
  refine ⟨?_, ?_, ?_, ?_, ?_, ?_, ?_, ?_, ?_, ?_, ?_, ?_, ?_, ?_, ?_, ?_, ?_, ?_, ?_, ?_, ?_, ?_, ?_, ?_, ?_, ?_, ?_, ?_, ?_, ?_, ?_, ?_⟩
  all_goals first | decide +kernel | (intro r h; cases h)
theorem passNo {X : Cx} : Passes (L2.CX X.prog X.w) X E0 := fun _ _ _ _ _ _ _ h => by
  obtain ⟨_, _, _, _, _, _, _, _, _, _, _, _, z⟩ := h
  exact z.elim
theorem op_addS {X : Cx} : OpR X (binaryOp .Add) rAddS := op_add_str
section
variable {P : Program} {w : World} {K : PySem.W.Frag} {mg : Str → Option Value} {base : Heap}
theorem alike_depth {n : Int} {ps : List Pt} (hd : Pt.deps ps ≤ 4) : (PyData.tuple [.int n, .tuple (Pt.datas ps)]).depth + 1 ≤ 12 := by
  have := Pt.depths_le ps
  simp only [PyData.depth, PyData.depthAll]
  omega
theorem alike_fits {n : Int} {ps : List Pt} (hc : Pt.cnts ps ≤ 60) : fits (.tuple [.int n, .tuple (Pt.datas ps)]) := by
  have h1 := len_le_cnts ps
  exact ⟨by show 2 ≤ 1000; decide, trivial, ⟨by rw [datas_len]; omega, fits_pts ps (by omega)⟩, trivial⟩
theorem alike_tp {H : Hp} {n : Int} {ps : List Pt} {a : Addr} {v : V} (ha : H a = some (.tup [.int n, v])) (ht : Tp H (.tuple (Pt.datas ps)) v) : Tp H (.tuple [.int n, .tuple (Pt.datas ps)]) (.ref a) := ⟨a, _, rfl, ha, _, _, rfl, rfl, v, [], rfl, ht, rfl⟩
/-! ### law -/
def spLaw (K : PySem.W.Frag) : Sp := fun vs H Q _ => ∃ (s : Addr) (ns : List Int), vs = [.ref s] ∧ Scr K H s ns ∧ ns.length ≤ 63 ∧ ∀ H', Q (.bl true) H'
abbrev nsLaw : List Str := ["_law_script", "_law_row", "_law_plan_here", "_law_text", "_law_one", "_law_rows", "_law_some", "_law_line", "_law_word", "_law_told", "error", "_law_wrong", "_law_value"]
theorem scLaw : FnScope nsLaw ["_law_script"] (defScope sLaw) := ⟨rfl, rfl, rfl, by decide +kernel, rfl, by decide +kernel, by decide +kernel⟩
theorem ok_law {CB CN CE f : Addr} {fd : FuncData} (F : Fun K "law" "law" sLaw f fd) (B : Blt mg) (gB : mg "BadLine" = some (.ref CB)) (gN : mg "NotText" = some (.ref CN)) (gE : mg "WalkError" = some (.ref CE))
    (xB : XfC K CB ∧ PySem.W.findIn K (.ref CB) "line" = some none ∧ PySem.W.findIn K (.ref CB) "word" = some none) (eB : ExcC K CB) (eN : ExcC K CN)
    (mB : PySem.W.exmOne K (.ref CB) (.ref CE) = some true) (mN : PySem.W.exmOne K (.ref CN) (.ref CE) = some true) (kB : PySem.W.kitOne K (.ref CB) (.ref CB) = some true) (kN : PySem.W.kitOne K (.ref CN) (.ref CN) = some true)
    (GPl : Has P w K mg base CX0 6 "_law_plan" ["_law_row"] (spPlan K)) (GPL : Has P w K mg base CX0 4 "_law_plan_lines" ["_law_block"] (spPl 3)) (GA : Has P w K mg base CX0 13 "_law_alike" ["_law_found", "_law_due"] (spAl 12))
    (GW : Has P w K mg base CX0 13 "write_plan" ["plan"] spWrite) (GR : Has P w K mg base (L2.CX P w) 6 "read_plan" ["text"] (spRead K CB CN)) :
    FnOk P w K mg base CX0 14 f fd ["_law_script"] (spLaw K) := by
  refine F.ok scLaw (fun vs H Q E h => ?_) (fun cdv A outer s H vs Q E hr h => ?_)
  · obtain ⟨s, ns, rfl, _⟩ := h
    rfl
  obtain ⟨sc, ns, rfl, hs, hn, q⟩ := h
  have hrA := hr
  have hr6 := hr.mono (show 6 ≤ 13 by decide)
  refine ⟨_, (pss_cons (ps_set (i := 1) scLaw.nd (by rfl) (.inl rfl) (pe_lst (pa_cons (pv 0) (pa_cons pe_int (pa_cons pe_int (pa_cons pe_int pa_nil))))))
    (pss_cons (ps_set (i := 2) scLaw.nd (by rfl) (.inl rfl) (pe_h GPl hr6 (by rfl) pass0 (pa_cons (pv 1) pa_nil)))
    (pss_cons (ps_set (i := 3) scLaw.nd (by rfl) (.inl rfl) (pe_join pe_str (pe_op op_cat (pe_lst (pa_cons (pe_op op_addS pe_str (pe_callTy call_str_int (by rfl) B.str (by decide +kernel) (pa_cons (pe_ix ix_tup (pv 2) pe_int (fun _ _ => rfl)) pa_nil))) pa_nil)) (pe_h GPL (hr.mono (show 4 ≤ 13 by decide)) (by rfl) pass0 (pa_cons (pe_ix ix_tup (pv 2) pe_int (fun _ _ => rfl)) pa_nil)))))
    (pss_cons (ps_if (PW.pt (pw_or (pt_not (pt_val (pe_h GA hrA (by rfl) pass0 (pa_cons (pe_h GW hrA (by rfl) pass0 (pa_cons (pv 2) pa_nil)) (pa_cons (pv 3) pa_nil))))) (pw_or1 (pt_not (pt_val (pe_h GA hrA (by rfl) pass0 (pa_cons (pe_h GR hr6 (by rfl) passNo (pa_cons (pv 3) pa_nil)) (pa_cons (pv 2) pa_nil)))))))) (pss_one (ps_ret pe_bl)) pss_nil)
    (pss_cons (ps_if (pt_not (pt_val (pe_h GA hrA (by rfl) pass0 (pa_cons (pe_h GR hr6 (by rfl) passNo (pa_cons (pe_op op_addS (pe_catT op_addS (CwR.pet_replT (CwR.pet_replC (pv 3)))) pe_str) pa_nil)) (pa_cons (pv 2) pa_nil))))) (pss_one (ps_ret pe_bl)) pss_nil)
    (pss_cons (ps_set (i := 4) scLaw.nd (by rfl) (.inl rfl) pe_str)
    (pss_cons (ps_set (i := 5) scLaw.nd (by rfl) (.inl rfl) (pe_lst (pa_cons (pe_tup (pa_cons pe_str (pa_cons pe_int (pa_cons pe_int pa_nil)))) (pa_cons (pe_tup (pa_cons pe_str (pa_cons pe_int (pa_cons pe_int pa_nil)))) (pa_cons (pe_tup (pa_cons pe_str (pa_cons pe_int (pa_cons pe_int pa_nil)))) (pa_cons (pe_tup (pa_cons pe_str (pa_cons pe_int (pa_cons pe_int pa_nil)))) (pa_cons (pe_tup (pa_cons pe_str (pa_cons pe_int (pa_cons pe_int pa_nil)))) pa_nil)))))))
    (pss_cons (ps_set (i := 5) scLaw.nd (by rfl) (.inl rfl) (pe_op op_cat (pv 5) (pe_lst (pa_cons (pe_tup (pa_cons pe_str (pa_cons pe_int (pa_cons pe_int pa_nil)))) (pa_cons (pe_tup (pa_cons pe_str (pa_cons pe_int (pa_cons pe_int pa_nil)))) (pa_cons (pe_tup (pa_cons (pe_op op_addS (pv 4) pe_str) (pa_cons pe_int (pa_cons pe_int pa_nil)))) pa_nil))))))
    (pss_cons (ps_set (i := 5) scLaw.nd (by rfl) (.inl rfl) (pe_op op_cat (pv 5) (pe_lst (pa_cons (pe_tup (pa_cons (pe_op op_addS (pv 4) pe_str) (pa_cons pe_int (pa_cons pe_int pa_nil)))) (pa_cons (pe_tup (pa_cons (pe_op op_addS (pv 4) pe_str) (pa_cons pe_int (pa_cons pe_int pa_nil)))) (pa_cons (pe_tup (pa_cons (pe_op op_addS (pv 4) pe_str) (pa_cons pe_int (pa_cons pe_int pa_nil)))) pa_nil))))))
    (pss_cons (ps_set (i := 5) scLaw.nd (by rfl) (.inl rfl) (pe_op op_cat (pv 5) (pe_lst (pa_cons (pe_tup (pa_cons (pe_op op_addS (pv 4) pe_str) (pa_cons pe_int (pa_cons pe_int pa_nil)))) (pa_cons (pe_tup (pa_cons (pe_op op_addS (pv 4) pe_str) (pa_cons pe_int (pa_cons pe_int pa_nil)))) (pa_cons (pe_tup (pa_cons (pe_op op_addS (pv 4) pe_str) (pa_cons pe_int (pa_cons pe_int pa_nil)))) pa_nil))))))
    (pss_cons (ps_set (i := 5) scLaw.nd (by rfl) (.inl rfl) (pe_op op_cat (pv 5) (pe_lst (pa_cons (pe_tup (pa_cons (pe_op op_addS (pv 4) pe_str) (pa_cons pe_int (pa_cons pe_int pa_nil)))) (pa_cons (pe_tup (pa_cons (pe_op op_addS (pv 4) pe_str) (pa_cons pe_int (pa_cons pe_int pa_nil)))) (pa_cons (pe_tup (pa_cons (pe_op op_addS (pv 4) pe_str) (pa_cons pe_int (pa_cons pe_int pa_nil)))) (pa_cons (pe_tup (pa_cons (pe_op op_addS (pv 4) pe_str) (pa_cons pe_int (pa_cons pe_int pa_nil)))) pa_nil)))))))
    (pss_cons (ps_set (i := 5) scLaw.nd (by rfl) (.inl rfl) (pe_op op_cat (pv 5) (pe_lst (pa_cons (pe_tup (pa_cons (pe_op op_addS (pv 4) pe_str) (pa_cons pe_int (pa_cons pe_int pa_nil)))) (pa_cons (pe_tup (pa_cons (pe_op op_addS (pv 4) pe_str) (pa_cons pe_int (pa_cons pe_int pa_nil)))) (pa_cons (pe_tup (pa_cons (pe_op op_addS (pv 4) pe_str) (pa_cons pe_int (pa_cons pe_int pa_nil)))) pa_nil))))))
    (pss_cons (ps_set (i := 5) scLaw.nd (by rfl) (.inl rfl) (pe_op op_cat (pv 5) (pe_lst (pa_cons (pe_tup (pa_cons (pe_op op_addS (pv 4) pe_str) (pa_cons pe_int (pa_cons pe_int pa_nil)))) (pa_cons (pe_tup (pa_cons (pe_op op_addS (pv 4) pe_str) (pa_cons pe_int (pa_cons pe_int pa_nil)))) pa_nil)))))
    (pss_cons (ps_set (i := 5) scLaw.nd (by rfl) (.inl rfl) (pe_op op_cat (pv 5) (pe_lst (pa_cons (pe_tup (pa_cons (pe_op op_addS (pv 4) pe_str) (pa_cons pe_int (pa_cons pe_int pa_nil)))) (pa_cons (pe_tup (pa_cons (pe_op op_addS (pv 4) pe_str) (pa_cons pe_non (pa_cons pe_non pa_nil)))) (pa_cons (pe_tup (pa_cons (pe_op op_addS (pv 4) pe_str) (pa_cons pe_int (pa_cons pe_int pa_nil)))) pa_nil))))))
    (pss_cons (ps_set (i := 5) scLaw.nd (by rfl) (.inl rfl) (pe_op op_cat (pv 5) (pe_lst (pa_cons (pe_tup (pa_cons (pe_op op_addS (pv 4) pe_str) (pa_cons pe_int (pa_cons pe_int pa_nil)))) (pa_cons (pe_tup (pa_cons (pe_op op_addS (pv 4) (pe_op op_mulS pe_str pe_int)) (pa_cons pe_non (pa_cons pe_non pa_nil)))) (pa_cons (pe_tup (pa_cons (pe_op op_addS (pv 4) (pe_op op_mulS pe_str pe_int)) (pa_cons pe_int (pa_cons pe_int pa_nil)))) pa_nil))))))
    (pss_cons (ps_set (i := 5) scLaw.nd (by rfl) (.inl rfl) (pe_op op_cat (pv 5) (pe_lst (pa_cons (pe_tup (pa_cons (pe_op op_addS (pv 4) (pe_op op_mulS pe_str pe_int)) (pa_cons pe_int (pa_cons pe_int pa_nil)))) (pa_cons (pe_tup (pa_cons (pe_op op_addS (pe_op op_addS (pv 4) (pe_op op_mulS pe_str pe_int)) (pe_op op_mulS pe_str pe_int)) (pa_cons pe_non (pa_cons pe_non pa_nil)))) pa_nil)))))
    (pss_cons (ps_for PassesOwn.never (by rfl) (pi_list (pv 5)) (pg_tup (by rfl) (pgs_cons (pg_name (i := 6) scLaw.nd (by rfl) (.inl rfl)) (pgs_cons (pg_name (i := 7) scLaw.nd (by rfl) (.inl rfl)) (pgs_cons (pg_name (i := 8) scLaw.nd (by rfl) (.inl rfl)) pgs_nil)))) (pss_cons (ps_set (i := 9) scLaw.nd (by rfl) (.inl rfl) (pe_tup (pa_cons pe_non (pa_cons pe_non pa_nil))))
    (pss_cons (ps_try_asT (i := 10) rfl rfl scLaw.nd (by rfl) (by rfl) ⟨by rfl, by decide, .inl gE⟩ takes0 (fun W pn xe tk _ => (pss_one (ps_expr (pe_hS GR hr6 (by rfl) (fun σ => passAt tk σ) (pa_cons (pv 6) pa_nil))))) (fun a oe cls d pn hz hf => (pss_one (ps_set (i := 9) scLaw.nd (by rfl) (.inl rfl) (pe_ifExp (pt_val (pe_callB (call_isX eB hz hf) (by rfl) B.isi (by decide +kernel) (pa_cons (pv 10) (pa_cons (pe_glob (v := .ref CB) (by rfl) gB rfl) pa_nil)))) (pe_tup (pa_cons (pe_xf xB.1 xB.2.1 hz hf (pv 10) (by rfl)) (pa_cons (pe_xf xB.1 xB.2.2 hz hf (pv 10) (by rfl)) pa_nil))) pe_str)))))
    (pss_one (ps_if (pt_not (pt_val (pe_h GA hrA (by rfl) pass0 (pa_cons (pv 9) (pa_cons (pe_tup (pa_cons (pv 7) (pa_cons (pv 8) pa_nil))) pa_nil))))) (pss_one (ps_ret pe_bl)) pss_nil)))))
    (pss_cons (ps_set (i := 11) scLaw.nd (by rfl) (.inl rfl) pe_int)
    (pss_cons (ps_for PassesOwn.never (by rfl) (pi_list (pe_lst (pa_cons pe_non (pa_cons pe_int (pa_cons (pe_tup pa_nil) (pa_cons (pe_lst (pa_cons pe_str pa_nil)) pa_nil)))))) (pg_name (i := 12) scLaw.nd (by rfl) (.inl rfl)) (pss_one (ps_try_asT (i := 10) rfl rfl scLaw.nd (by rfl) (by rfl) ⟨by rfl, by decide, .inl gE⟩ takes0 (fun W pn xe tk _ => (pss_one (ps_expr (pe_hS GR hr6 (by rfl) (fun σ => passAt tk σ) (pa_cons (pv 12) pa_nil))))) (fun a oe cls d pn hz hf => (pss_one (ps_set (i := 11) scLaw.nd (by rfl) (.inl rfl) (pe_op op_add (pv 11) (pe_callTy call_int1 (by rfl) B.int (by decide +kernel) (pa_cons (pe_callB (call_isX eN hz hf) (by rfl) B.isi (by decide +kernel) (pa_cons (pv 10) (pa_cons (pe_glob (v := .ref CN) (by rfl) gN rfl) pa_nil))) pa_nil)))))))))
    (pss_one (ps_ret (pe_cmpR op_eq (pv 11) pe_int (nomark _))))))))))))))))))))))), ?_⟩
  refine ⟨_, rfl, (by show 4 ≤ sizeLine; decide), fun r hrn => ?_⟩
  have hrow : Row4 K (upd H r (.lst [.ref sc, .int 0, .int 11130, .int 0])) r sc ns := ⟨⟨0, 11130, 0, by decide, upd_same⟩, hs.ex (Ex.new hrn)⟩
  refine ⟨_, rfl, r, sc, ns, rfl, hrow, hn, fun n ps a v H2 h2 h3 ho hd hc ha ht _ => ?_⟩
  clear hrow
  refine ⟨⟨_, rfl⟩, ?_⟩
  refine ⟨_, rfl, a, _, 0, .int n, rfl, rfl, SqT.of ha, atI_nat (j := 0) rfl, n, rfl, log_small (by omega) (by omega), ?_⟩
  refine ⟨"colours ", num n, rfl, rfl, ?_, (by show 1 ≤ sizeLine; decide), fun l1 hl1 => ?_⟩
  · rw [len_num (by omega) (by omega)]
    exact Nat.le_trans (by decide +kernel : ("colours " : Str).length + 1 ≤ 1000) (by rw [sizeLine_eq]; decide)
  have e2 : Ex H2 (upd H2 l1 (.lst [.str ("colours " ++ num n)])) := Ex.new hl1
  have q2 : (upd H2 l1 (.lst [.str ("colours " ++ num n)])) l1 = some (.lst [.str ("colours " ++ num n)]) := upd_same
  generalize upd H2 l1 (.lst [.str ("colours " ++ num n)]) = H3 at e2 q2 ⊢
  have ha3 := e2 _ _ ha
  have ht3 := Tp.mono (TK.of e2) _ _ ht
  refine ⟨_, rfl, a, _, 1, v, rfl, rfl, SqT.of ha3, atI_nat (j := 1) rfl, n, ps, v, rfl, ht3, by omega, ho, by omega, by omega, hc, fun l2 H4 e3 hl2 q3 => ?_⟩
  have hlen : (txts (Pt.liness ps)).length ≤ 181 := by
    rw [txts_len]
    have := plan_lines_len (n := n) hc
    rw [planLines, List.length_cons] at this
    omega
  refine ⟨l1, l2, _, _, rfl, rfl, e3 _ _ q2, q3, ?_, fun l3 hl3 => ?_⟩
  · rw [List.length_cons, List.length_nil, sizeLine_eq]
    omega
  have hys : ([.str ("colours " ++ num n)] ++ txts (Pt.liness ps) : List V) = (lineTexts n ps).map V.str := by
    unfold lineTexts planLines txts
    rw [List.map_cons, List.map_cons, join2, ← e_col]
    rfl
  rw [hys]
  have e4 : Ex H4 (upd H4 l3 (.lst ((lineTexts n ps).map V.str))) := Ex.new hl3
  have q4 : (upd H4 l3 (.lst ((lineTexts n ps).map V.str))) l3 = some (.lst ((lineTexts n ps).map V.str)) := upd_same
  generalize upd H4 l3 (.lst ((lineTexts n ps).map V.str)) = H5 at e4 q4 ⊢
  refine ⟨"\n", l3, lineTexts n ps, rfl, rfl, .inl (SqL.of q4), ?_, ?_⟩
  · have e : ("\n" : Str).length = 1 := by decide +kernel
    have h1 := lt_sum h2 (by omega) ho hc
    have e2 : (lineTexts n ps).length = (planLines n ps).length := by rw [lineTexts, List.length_map]
    have h3 := plan_lines_len (n := n) hc
    rw [e, e2]
    omega
  rw [show Txt.join "\n" (lineTexts n ps) = planText n ps from rfl]
  have e25 := e3.trans e4
  have ha5 := e25 _ _ ha3
  have ht5 := Tp.mono (TK.of e25) _ _ ht3
  clear hys ha3 ht3 e2 e3 e4 e25
  have tl := text_len h2 (show n ≤ 6 by omega) ho hc
  have ta := plan_asc h2 (show n ≤ 6 by omega) ho
  have rb := read_back h2 (show n ≤ 6 by omega) ho hc (by omega)
  have rw' := read_wide h2 (show n ≤ 6 by omega) ho hc (by omega)
  refine ⟨_, rfl, n, ps, a, v, rfl, ha5, ht5, h2, by omega, ho, by omega, hc, fun H6 e6 => ?_⟩
  have ha6 := e6 _ _ ha5
  have ht6 := Tp.mono (TK.of e6) _ _ ht5
  refine ⟨_, rfl, .str (planText n ps), _, _, rfl, rfl, rfl, (by show 0 + 1 ≤ 12; decide), trivial, fun H7 e7 => ⟨true, rfl, iteF' rfl ?_⟩⟩
  have ha7 := e7 _ _ ha6
  have ht7 := Tp.mono (TK.of e7) _ _ ht6
  refine ⟨_, rfl, .inl ⟨planText n ps, rfl, by rw [sizeLine_eq]; omega, fun c h => Nat.lt_trans (ta c h) (by decide), fun n' ds he H8 u e8 hu => ?_, fun l k he => ?_⟩⟩
  rotate_left
  · rw [rb] at he
    cases he
  rw [rb] at he
  cases he
  have ha8 := e8 _ _ ha7
  have ht8 := Tp.mono (TK.of e8) _ _ ht7
  refine ⟨_, rfl, .tuple [.int n, .tuple (Pt.datas ps)], u, .ref a, rfl, hu, alike_tp ha8 ht8, alike_depth (by omega), alike_fits hc, fun H9 e9 => ⟨true, rfl, iteF' rfl ?_⟩⟩
  have ha9 := e9 _ _ ha8
  have ht9 := Tp.mono (TK.of e9) _ _ ht8
  clear ha8 ht8 ha7 ht7 ha6 ht6 ha5 ht5 hu rb
  obtain ⟨wa, wl1, wl2⟩ := wide_asc ta
  have hsz : sizeLine = 16777216 := sizeLine_eq
  have hn2 : ("\n " : Str).length = 2 := by decide +kernel
  have hn1 : ("\n" : Str).length = 1 := by decide +kernel
  have hb2 : ("  " : Str).length = 2 := by decide +kernel
  have hnn : ("\n\n" : Str).length = 2 := by decide +kernel
  have hwl : (wideText (planText n ps)).length ≤ 17000 := by
    unfold wideText
    rw [len_app, len_app]
    omega
  refine ⟨_, rfl, planText n ps, rfl, by rw [hb2]; omega, _, rfl, by rw [hnn]; omega, "\n ", _, rfl, rfl, by omega, _, "\n", rfl, rfl, by rw [len_app]; omega, .inl ⟨wideText (planText n ps), rfl, by omega, fun c h => Nat.lt_trans (wa c h) (by decide), fun n' ds he H8 u e8 hu => ?_, fun l k he => ?_⟩⟩
  rotate_left
  · rw [rw'] at he
    cases he
  rw [rw'] at he
  cases he
  have ha8 := e8 _ _ ha9
  have ht8 := Tp.mono (TK.of e8) _ _ ht9
  refine ⟨_, rfl, .tuple [.int n, .tuple (Pt.datas ps)], u, .ref a, rfl, hu, alike_tp ha8 ht8, alike_depth (by omega), alike_fits hc, fun HA eA => ⟨true, rfl, iteF' rfl ?_⟩⟩
  clear ha8 ht8 ha9 ht9 hu rw' ha ht wa wl1 wl2 hwl tl ta
  dsimp only [tNext]
  refine setS ?_
  refine rows_setS (rows_cons se_c (rows_cons se_c (rows_cons se_c (rows_cons se_c (rows_cons se_c rows_nil))))) (by decide) fun l0 J0 i0 r0 => ?_
  refine rows_moreS rfl r0 (rows_cons se_c (rows_cons se_c (rows_cons (se_add (se_v rfl) se_c (by decide +kernel)) rows_nil))) (by decide) (by decide) fun l1 J1 i1 r1 => ?_
  refine rows_moreS rfl r1 (rows_cons (se_add (se_v rfl) se_c (by decide +kernel)) (rows_cons (se_add (se_v rfl) se_c (by decide +kernel)) (rows_cons (se_add (se_v rfl) se_c (by decide +kernel)) rows_nil))) (by decide) (by decide) fun l2 J2 i2 r2 => ?_
  refine rows_moreS rfl r2 (rows_cons (se_add (se_v rfl) se_c (by decide +kernel)) (rows_cons (se_add (se_v rfl) se_c (by decide +kernel)) (rows_cons (se_add (se_v rfl) se_c (by decide +kernel)) rows_nil))) (by decide) (by decide) fun l3 J3 i3 r3 => ?_
  refine rows_moreS rfl r3 (rows_cons (se_add (se_v rfl) se_c (by decide +kernel)) (rows_cons (se_add (se_v rfl) se_c (by decide +kernel)) (rows_cons (se_add (se_v rfl) se_c (by decide +kernel)) (rows_cons (se_add (se_v rfl) se_c (by decide +kernel)) rows_nil)))) (by decide) (by decide) fun l4 J4 i4 r4 => ?_
  refine rows_moreS rfl r4 (rows_cons (se_add (se_v rfl) se_c (by decide +kernel)) (rows_cons (se_add (se_v rfl) se_c (by decide +kernel)) (rows_cons (se_add (se_v rfl) se_c (by decide +kernel)) rows_nil))) (by decide) (by decide) fun l5 J5 i5 r5 => ?_
  refine rows_moreS rfl r5 (rows_cons (se_add (se_v rfl) se_c (by decide +kernel)) (rows_cons (se_add (se_v rfl) se_c (by decide +kernel)) rows_nil)) (by decide) (by decide) fun l6 J6 i6 r6 => ?_
  refine rows_moreS rfl r6 (rows_cons (se_add (se_v rfl) se_c (by decide +kernel)) (rows_cons (se_add (se_v rfl) se_c (by decide +kernel)) (rows_cons (se_add (se_v rfl) se_c (by decide +kernel)) rows_nil))) (by decide) (by decide) fun l7 J7 i7 r7 => ?_
  refine rows_moreS rfl r7 (rows_cons (se_add (se_v rfl) se_c (by decide +kernel)) (rows_cons (se_add (se_v rfl) (se_mul (n := 60) (by decide) (by decide) (by decide +kernel) (by decide +kernel)) (by rw [len_cat]; decide +kernel)) (rows_cons (se_add (se_v rfl) (se_mul (n := 61) (by decide) (by decide) (by decide +kernel) (by decide +kernel)) (by rw [len_cat]; decide +kernel)) rows_nil))) (by decide) (by decide) fun l8 J8 i8 r8 => ?_
  refine rows_moreS rfl r8 (rows_cons (se_add (se_v rfl) (se_mul (n := 6) (by decide) (by decide) (by decide +kernel) (by decide +kernel)) (by rw [len_cat]; decide +kernel)) (rows_cons (se_add (se_add (se_v rfl) (se_mul (n := 5) (by decide) (by decide) (by decide +kernel) (by decide +kernel)) (by rw [len_cat]; decide +kernel)) (se_mul (n := 5) (by decide) (by decide) (by decide +kernel) (by decide +kernel)) (by rw [len_app, len_cat, len_cat]; decide +kernel)) rows_nil)) (by decide) (by decide) fun l9 J9 i9 r9 => ?_
  have hrows : RowL J9 (rows.map rowV) l9 := r9
  clear r9
  obtain ⟨vs, hl, hvs⟩ := hrows
  have hvl := hvs.length
  refine ⟨_, rfl, l9, rfl, ⟨_, SqL.of hl⟩, for_list (K := K) (a := l9) (xs := vs) (fun i σ' H' => Ex J9 H' ∧ ∃ x6 x7 x8 x9, σ' = [some (.ref sc), some (.ref r), some (.ref a), some (.str (planText n ps)), some (.str "colours 3\n"), some (.ref l9), x6, x7, x8, x9, none, none, none])
    ⟨Ex.refl _, none, none, none, none, rfl⟩ (fun i σ' H' _ hP => SqL.of (hP.1 _ _ hl)) ?_ ?_⟩
  · rintro i x σ' H' hi ⟨e1, x6, x7, x8, x9, rfl⟩
    obtain ⟨rv, p, hrv, rfl, hp⟩ := hvs.get hi
    rw [List.getElem?_map] at hrv
    cases hri : rows[i]? with
    | none => rw [hri] at hrv; cases hrv
    | some row =>
      rw [hri] at hrv
      have erv : rv = rowV row := (Option.some.inj hrv).symm
      subst erv
      have hmem := List.mem_of_getElem? hri
      obtain ⟨hp1, hp2⟩ := rows_plain row hmem
      have htold := rows_told row hmem
      obtain ⟨x, o⟩ := row
      have htold : told x = o := htold
      refine ⟨p, _, rfl, SqT.of (e1 _ _ hp), rfl, _, _, rfl, _, _, rfl, _, _, rfl, rfl, ?_⟩
      refine ⟨(by show 2 ≤ sizeLine; decide), fun t0 ht0 => ?_⟩
      have e2 : Ex H' (upd H' t0 (.tup [.non, .non])) := Ex.new ht0
      have q2 : (upd H' t0 (.tup [.non, .non])) t0 = some (.tup [.non, .non]) := upd_same
      generalize upd H' t0 (.tup [.non, .non]) = H2 at e2 q2 ⊢
      have hxl : x.length ≤ 1000 := hp1
      refine ⟨_, rfl, .inl ⟨x, rfl, by omega, fun c h => Nat.lt_trans (asc_lit hp2 c h) (by decide), fun n' ds he H3 u e3 hu => ?_, fun l k he d H3 e3 hd => ?_⟩⟩
      · have ho : o = none := by
          rw [← htold]
          show toldL (TL.tl x) = none
          unfold toldL
          have he' : readL (TL.tl x) = .ok (n', ds) := he
          rw [he']
        subst ho
        have q3 := e3 _ _ q2
        refine ⟨_, rfl, _, rfl, _, rfl, (by show 2 ≤ sizeLine; decide), fun t1 ht1 => ⟨.tuple [.none, .none], .ref t0, .ref t1, rfl, ⟨t0, _, rfl, Ex.new ht1 _ _ q3, _, _, rfl, rfl, _, _, rfl, rfl, rfl⟩, ⟨t1, _, rfl, upd_same, _, _, rfl, rfl, _, _, rfl, rfl, rfl⟩, by decide +kernel, ⟨by show 2 ≤ 1000; decide, trivial, trivial, trivial⟩, fun H4 e4 => ⟨true, rfl, iteF' rfl ⟨?_, _, _, _, _, rfl⟩⟩⟩⟩
        exact e1.trans (e2.trans (e3.trans ((Ex.new ht1).trans e4)))
      · have ho : o = some (l, k) := by
          rw [← htold]
          show toldL (TL.tl x) = some (l, k)
          unfold toldL
          have he' : readL (TL.tl x) = .error (l, k) := he
          rw [he']
        subst ho
        refine ⟨true, mB, fun _ ae hae => ?_, fun z => by cases z⟩
        refine ⟨_, rfl, .ref CB, .ref CB, true, rfl, rfl, fun u hu => hu, kB, fun dd h => by cases h; exact ⟨_, hd⟩, true, rfl, iteT' rfl ?_⟩
        refine ⟨_, rfl, rfl, rfl, d, _, .int l, rfl, hd, rfl, _, rfl, rfl, rfl, d, _, .int k, rfl, hd, rfl, (by show 2 ≤ sizeLine; decide), fun t2 ht2 => ?_⟩
        refine ⟨_, rfl, _, rfl, _, rfl, (by show 2 ≤ sizeLine; decide), fun t1 ht1 => ⟨.tuple [.int l, .int k], .ref t2, .ref t1, rfl, ⟨t2, _, rfl, Ex.new ht1 _ _ upd_same, _, _, rfl, rfl, _, _, rfl, rfl, rfl⟩, ⟨t1, _, rfl, upd_same, _, _, rfl, rfl, _, _, rfl, rfl, rfl⟩, by simp [PyData.depth, PyData.depthAll], ⟨by show 2 ≤ 1000; decide, trivial, trivial, trivial⟩, fun H4 e4 => ⟨true, rfl, iteF' rfl ⟨?_, _, _, _, _, rfl⟩⟩⟩⟩
        exact e1.trans (e2.trans (e3.trans ((Ex.new ht2).trans ((Ex.new ht1).trans e4))))
  · rintro σ' H' ⟨e1, x6, x7, x8, x9, rfl⟩
    clear hl hvs hvl e1 F
    refine setS ?_
    refine ⟨Nat.zero_le _, fun tu htu => ⟨(by show 1 ≤ sizeLine; decide), fun li hli => ⟨(by show 4 ≤ sizeLine; decide), fun lv hlv => ?_⟩⟩⟩
    have qu : (upd (upd H' tu (.tup [])) li (.lst [.str "colours 2"])) tu = some (.tup []) := Ex.new hli _ _ upd_same
    have ql : (upd (upd H' tu (.tup [])) li (.lst [.str "colours 2"])) li = some (.lst [.str "colours 2"]) := upd_same
    generalize upd (upd H' tu (.tup [])) li (.lst [.str "colours 2"]) = H2 at qu ql hlv ⊢
    have qv : (upd H2 lv (.lst [.non, .int 5, .ref tu, .ref li])) lv = some (.lst [.non, .int 5, .ref tu, .ref li]) := upd_same
    have qu := Ex.new (o := .lst [.non, .int 5, .ref tu, .ref li]) hlv _ _ qu
    have ql := Ex.new (o := .lst [.non, .int 5, .ref tu, .ref li]) hlv _ _ ql
    generalize upd H2 lv (.lst [.non, .int 5, .ref tu, .ref li]) = H3 at qu ql qv ⊢
    refine ⟨lv, rfl, ⟨_, SqL.of qv⟩, for_list (K := K) (a := lv) (xs := [.non, .int 5, .ref tu, .ref li]) (fun i σ4 H4 => H4 = H3 ∧ ∃ x12, σ4 = [some (.ref sc), some (.ref r), some (.ref a), some (.str (planText n ps)), some (.str "colours 3\n"), some (.ref l9), x6, x7, x8, x9, none, some (.int (i : Nat)), x12])
      ?_ (fun i σ' H' _ hP => SqL.of (by rw [hP.1]; exact qv)) ?_ ?_⟩
    · exact ⟨rfl, none, rfl⟩
    · rintro i x σ4 H4 hi ⟨rfl, x12, rfl⟩
      have hty : ∃ t, TyX K H4 x t ∧ PySem.W.kitOne K t (.type "str") = some false := by
        match i, hi with
        | 0, hi =>
          cases hi
          exact ⟨_, .base .non, kit_ty (r := false) (by decide +kernel)⟩
        | 1, hi =>
          cases hi
          exact ⟨_, .base (.int 5), kit_ty (r := false) (by decide +kernel)⟩
        | 2, hi =>
          cases hi
          exact ⟨_, .base (.tup qu), kit_ty (r := false) (by decide +kernel)⟩
        | 3, hi =>
          cases hi
          exact ⟨_, .base (.lst ql), kit_ty (r := false) (by decide +kernel)⟩
        | k + 4, hi => simp at hi
      obtain ⟨t, h1, h2⟩ := hty
      refine ⟨_, rfl, .inr ⟨x, t, rfl, h1, h2, true, mN, fun _ ae hae => ?_, fun z => by cases z⟩⟩
      refine ⟨_, rfl, _, rfl, .ref CN, .ref CN, true, rfl, rfl, fun u hu => hu, kN, (fun dd h => by cases h), .inr ⟨true, rfl, i, 1, rfl, rfl, ?_⟩⟩
      exact ⟨rfl, _, rfl⟩
    · rintro σ4 H4 ⟨rfl, x12, rfl⟩
      refine ⟨_, rfl, rfl, ?_⟩
      exact q _
end
end Pk

namespace Pk
open PySem PySem.Spec PyProof.Rows L2 Evl
/-- what a written dict's rows say -/
def Ents : List DictEntry → List (Str × Int) → Prop
  | [], [] => True
  | e :: r, (k, i) :: l => ((∃ t, e.key = .str k t) ∧ ∃ t, e.val = .int i t) ∧ Ents r l
  | _, _ => False
theorem ents_find : ∀ {r : List DictEntry} {l : List (Str × Int)}, Ents r l → (∀ z i, l.lookup z = some i → ∃ e t, r.find? (·.key.isStr z) = some e ∧ e.val = .int i t) ∧ (∀ z, l.lookup z = none → r.find? (·.key.isStr z) = none) ∧ r.any (·.refKey) = false
  | [], [], _ => ⟨fun z i h => (by cases h), fun z _ => rfl, rfl⟩
  | e :: r, (k, i) :: l, ⟨⟨⟨t, hk⟩, t', hv⟩, h⟩ => by
    obtain ⟨h1, h2, h3⟩ := ents_find h
    obtain ⟨eh, ek, ev⟩ := e
    have hk : ek = .str k t := hk
    have hv : ev = .int i t' := hv
    subst hk hv
    have his : ∀ z : Str, (Value.str k t).isStr z = (k == z) := fun z => rfl
    refine ⟨fun z j hz => ?_, fun z hz => ?_, ?_⟩
    · rw [List.lookup_cons] at hz
      by_cases hzk : z = k
      · rw [hzk] at hz ⊢
        rw [beq_self_eq_true] at hz
        cases hz
        exact ⟨_, t', by rw [List.find?_cons_of_pos (by rw [his]; exact beq_self_eq_true k)], rfl⟩
      · rw [beq_eq_false_iff_ne.mpr hzk] at hz
        obtain ⟨e', t2, h4, h5⟩ := h1 z j hz
        exact ⟨e', t2, by rw [List.find?_cons_of_neg (by rw [his, beq_eq_false_iff_ne.mpr (Ne.symm hzk)]; exact Bool.false_ne_true)]; exact h4, h5⟩
    · rw [List.lookup_cons] at hz
      by_cases hzk : z = k
      · rw [hzk, beq_self_eq_true] at hz
        cases hz
      · rw [beq_eq_false_iff_ne.mpr hzk] at hz
        rw [List.find?_cons_of_neg (by rw [his, beq_eq_false_iff_ne.mpr (Ne.symm hzk)]; exact Bool.false_ne_true)]
        exact h2 z hz
    · rw [List.any_cons, h3]
      rfl
theorem ents_get {K : PySem.W.Frag} {a : Addr} {c : Value} {d : Option Addr} {es : Array DictEntry} {n : Nat} {sl : Array (Option Value)} {l : List (Str × Int)} (hl : K.lookup a = some ⟨c, d, .dict es n, sl⟩) (h : Ents es.toList l) :
    (∀ z i, l.lookup z = some i → ∃ t, PySem.W.nsIn K a z = some (some (.int i t))) ∧ (∀ z, l.lookup z = none → PySem.W.nsIn K a z = some none) := by
  obtain ⟨h1, h2, h3⟩ := ents_find h
  refine ⟨fun z i hz => ?_, fun z hz => ?_⟩
  · obtain ⟨e, t, h4, h5⟩ := h1 z i hz
    refine ⟨t, ?_⟩
    unfold PySem.W.nsIn
    rw [hl]
    dsimp only
    rw [h4]
    dsimp only
    rw [h5]
  · unfold PySem.W.nsIn
    rw [hl]
    dsimp only
    rw [h2 z hz]
    dsimp only
    rw [h3]
    rfl
theorem all_mk {P : Program} {w : World} {K : PySem.W.Frag} {h : Heap} {mg : Str → Option Value} {fa CB CN CE CO CP fI cc cda aO aS aT f1 f2 f3 f4 f5 f6 f7 f8 f9 f10 f11 f12 f13 f14 f15 f16 f17 f31 f32 f33 f34 f35 f36 f37 f38 : Addr} {q0 q1 q2 q3 q4 q5 : Tok} (X : K.In h) (G : h.Ns mainGlobals mg) (hfa : mg "law" = some (.ref fa))
    {od1 an1 : Option Addr} {sl1 : Array (Option Value)} {oc1 kV1 dc1 pm1 cd1 ct1 : Value}
    {od2 an2 : Option Addr} {sl2 : Array (Option Value)} {oc2 kV2 dc2 pm2 cd2 ct2 : Value}
    {od3 an3 : Option Addr} {sl3 : Array (Option Value)} {oc3 kV3 dc3 pm3 cd3 ct3 : Value}
    {od4 an4 : Option Addr} {sl4 : Array (Option Value)} {oc4 kV4 dc4 pm4 cd4 ct4 : Value}
    {od5 an5 : Option Addr} {sl5 : Array (Option Value)} {oc5 kV5 dc5 pm5 cd5 ct5 : Value}
    {od6 an6 : Option Addr} {sl6 : Array (Option Value)} {oc6 kV6 dc6 pm6 cd6 ct6 : Value}
    {od7 an7 : Option Addr} {sl7 : Array (Option Value)} {oc7 kV7 dc7 pm7 cd7 ct7 : Value}
    {od8 an8 : Option Addr} {sl8 : Array (Option Value)} {oc8 kV8 dc8 pm8 cd8 ct8 : Value}
    {od9 an9 : Option Addr} {sl9 : Array (Option Value)} {oc9 kV9 dc9 pm9 cd9 ct9 : Value}
    {od10 an10 : Option Addr} {sl10 : Array (Option Value)} {oc10 kV10 dc10 pm10 cd10 ct10 : Value}
    {od11 an11 : Option Addr} {sl11 : Array (Option Value)} {oc11 kV11 dc11 pm11 cd11 ct11 : Value}
    {od12 an12 : Option Addr} {sl12 : Array (Option Value)} {oc12 kV12 dc12 pm12 cd12 ct12 : Value}
    {od13 an13 : Option Addr} {sl13 : Array (Option Value)} {oc13 kV13 dc13 pm13 cd13 ct13 : Value}
    {od14 an14 : Option Addr} {sl14 : Array (Option Value)} {oc14 kV14 dc14 pm14 cd14 ct14 : Value}
    {od15 an15 : Option Addr} {sl15 : Array (Option Value)} {oc15 kV15 dc15 pm15 cd15 ct15 : Value}
    {od16 an16 : Option Addr} {sl16 : Array (Option Value)} {oc16 kV16 dc16 pm16 cd16 ct16 : Value}
    {od17 an17 : Option Addr} {sl17 : Array (Option Value)} {oc17 kV17 dc17 pm17 cd17 ct17 : Value}
    {od31 an31 : Option Addr} {sl31 : Array (Option Value)} {oc31 kV31 dc31 pm31 cd31 ct31 : Value}
    {od32 an32 : Option Addr} {sl32 : Array (Option Value)} {oc32 kV32 dc32 pm32 cd32 ct32 : Value}
    {od33 an33 : Option Addr} {sl33 : Array (Option Value)} {oc33 kV33 dc33 pm33 cd33 ct33 : Value}
    {od34 an34 : Option Addr} {sl34 : Array (Option Value)} {oc34 kV34 dc34 pm34 cd34 ct34 : Value}
    {od35 an35 : Option Addr} {sl35 : Array (Option Value)} {oc35 kV35 dc35 pm35 cd35 ct35 : Value}
    {od36 an36 : Option Addr} {sl36 : Array (Option Value)} {oc36 kV36 dc36 pm36 cd36 ct36 : Value}
    {od37 an37 : Option Addr} {sl37 : Array (Option Value)} {oc37 kV37 dc37 pm37 cd37 ct37 : Value}
    {od38 an38 : Option Addr} {sl38 : Array (Option Value)} {oc38 kV38 dc38 pm38 cd38 ct38 : Value}
    {nmB qB : Str} {NB : Addr} {bsB bmB : List Value} {snB : List Str} {subB : List Value} {abB : Bool} {colB : Option Bool} {ddB : Option Addr} {m0B m1B m2B m3B m5B : Option Value}
    {odI anI : Option Addr} {slI : Array (Option Value)} {ocI kVI dcI pmI ctI : Value}
    {cclB : Value} {cddB : Option Addr} {vsB : Array Value} {ccsB : Array (Option Value)} {fileB : Str} {tfB : Tok}
    {clB : Value} {cldB : Option Addr} {cslB : Array (Option Value)}
    {cdB : ClassData}
    {oO : Obj} {itO : Array Value} {nuO : Nat}
    {esS : Array DictEntry} {nuS : Nat}
    {esT : Array DictEntry} {nuT : Nat}
    (aCB : PySem.W.nsIn K mainGlobals "BadLine" = some (some (.ref CB)))
    (aCN : PySem.W.nsIn K mainGlobals "NotText" = some (some (.ref CN)))
    (aCE : PySem.W.nsIn K mainGlobals "WalkError" = some (some (.ref CE)))
    (aCO : PySem.W.nsIn K mainGlobals "Opened" = some (some (.ref CO)))
    (aCP : PySem.W.nsIn K mainGlobals "Planner" = some (some (.ref CP)))
    (n0 : PySem.W.nsIn K mainGlobals "MOST_TIMES" = some (some (.int 8 q0)))
    (n1 : PySem.W.nsIn K mainGlobals "MOST_DEPTH" = some (some (.int 6 q1)))
    (n2 : PySem.W.nsIn K mainGlobals "LEAST_COLOURS" = some (some (.int 2 q2)))
    (n3 : PySem.W.nsIn K mainGlobals "MOST_COLOURS" = some (some (.int 6 q3)))
    (n4 : PySem.W.nsIn K mainGlobals "MOST_PARTS" = some (some (.int 60 q4)))
    (nF : PySem.W.nsIn K mainGlobals "FIGURES" = some (some (.str "0123456789" q5)))
    (nO : PySem.W.nsIn K mainGlobals "OPENERS" = some (some (.ref aO)))
    (nS : PySem.W.nsIn K mainGlobals "SIZES" = some (some (.ref aS)))
    (nT : PySem.W.nsIn K mainGlobals "TURNS" = some (some (.ref aT)))
    (z0 : PySem.W.nsIn K mainGlobals "isinstance" = some none)
    (z1 : PySem.W.nsIn K mainGlobals "int" = some none)
    (z2 : PySem.W.nsIn K mainGlobals "bool" = some none)
    (z3 : PySem.W.nsIn K mainGlobals "tuple" = some none)
    (z4 : PySem.W.nsIn K mainGlobals "str" = some none)
    (z5 : PySem.W.nsIn K mainGlobals "len" = some none)
    (z6 : PySem.W.nsIn K mainGlobals "sum" = some none)
    (z7 : PySem.W.nsIn K mainGlobals "list" = some none)
    (z8 : PySem.W.nsIn K mainGlobals "range" = some none)
    (z9 : PySem.W.nsIn K mainGlobals "min" = some none)
    (z10 : PySem.W.nsIn K mainGlobals "enumerate" = some none)
    (zs : PySem.W.nsIn K mainGlobals "super" = some none)
    (a1 : PySem.W.nsIn K mainGlobals "is_in" = some (some (.ref f1)))
    (l1 : K.lookup f1 = some ⟨oc1, od1, .func (PySem.W.fnOf "is_in" "is_in" (defArgs sIsIn) (defBody sIsIn) (defScope sIsIn) .none kV1 dc1 pm1 an1 cd1 ct1), sl1⟩)
    (c1 : PySem.W.codeIn K cd1 "is_in" = true)
    (k1 : PySem.W.keepIn K (.ref f1) = true)
    (a2 : PySem.W.nsIn K mainGlobals "is_part" = some (some (.ref f2)))
    (l2 : K.lookup f2 = some ⟨oc2, od2, .func (PySem.W.fnOf "is_part" "is_part" (defArgs sIsPart) (defBody sIsPart) (defScope sIsPart) .none kV2 dc2 pm2 an2 cd2 ct2), sl2⟩)
    (c2 : PySem.W.codeIn K cd2 "is_part" = true)
    (k2 : PySem.W.keepIn K (.ref f2) = true)
    (a3 : PySem.W.nsIn K mainGlobals "is_block" = some (some (.ref f3)))
    (l3 : K.lookup f3 = some ⟨oc3, od3, .func (PySem.W.fnOf "is_block" "is_block" (defArgs sIsBlock) (defBody sIsBlock) (defScope sIsBlock) .none kV3 dc3 pm3 an3 cd3 ct3), sl3⟩)
    (c3 : PySem.W.codeIn K cd3 "is_block" = true)
    (k3 : PySem.W.keepIn K (.ref f3) = true)
    (a4 : PySem.W.nsIn K mainGlobals "blocks_in" = some (some (.ref f4)))
    (l4 : K.lookup f4 = some ⟨oc4, od4, .func (PySem.W.fnOf "blocks_in" "blocks_in" (defArgs sBlocksIn) (defBody sBlocksIn) (defScope sBlocksIn) .none kV4 dc4 pm4 an4 cd4 ct4), sl4⟩)
    (c4 : PySem.W.codeIn K cd4 "blocks_in" = true)
    (k4 : PySem.W.keepIn K (.ref f4) = true)
    (a5 : PySem.W.nsIn K mainGlobals "parts_in" = some (some (.ref f5)))
    (l5 : K.lookup f5 = some ⟨oc5, od5, .func (PySem.W.fnOf "parts_in" "parts_in" (defArgs sPartsIn) (defBody sPartsIn) (defScope sPartsIn) .none kV5 dc5 pm5 an5 cd5 ct5), sl5⟩)
    (c5 : PySem.W.codeIn K cd5 "parts_in" = true)
    (k5 : PySem.W.keepIn K (.ref f5) = true)
    (a6 : PySem.W.nsIn K mainGlobals "need_plan" = some (some (.ref f6)))
    (l6 : K.lookup f6 = some ⟨oc6, od6, .func (PySem.W.fnOf "need_plan" "need_plan" (defArgs sNeed) (defBody sNeed) (defScope sNeed) .none kV6 dc6 pm6 an6 cd6 ct6), sl6⟩)
    (c6 : PySem.W.codeIn K cd6 "need_plan" = true)
    (k6 : PySem.W.keepIn K (.ref f6) = true)
    (a7 : PySem.W.nsIn K mainGlobals "lines_of" = some (some (.ref f7)))
    (l7 : K.lookup f7 = some ⟨oc7, od7, .func (PySem.W.fnOf "lines_of" "lines_of" (defArgs sLines) (defBody sLines) (defScope sLines) .none kV7 dc7 pm7 an7 cd7 ct7), sl7⟩)
    (c7 : PySem.W.codeIn K cd7 "lines_of" = true)
    (k7 : PySem.W.keepIn K (.ref f7) = true)
    (a8 : PySem.W.nsIn K mainGlobals "write_plan" = some (some (.ref f8)))
    (l8 : K.lookup f8 = some ⟨oc8, od8, .func (PySem.W.fnOf "write_plan" "write_plan" (defArgs sWrite) (defBody sWrite) (defScope sWrite) .none kV8 dc8 pm8 an8 cd8 ct8), sl8⟩)
    (c8 : PySem.W.codeIn K cd8 "write_plan" = true)
    (k8 : PySem.W.keepIn K (.ref f8) = true)
    (a9 : PySem.W.nsIn K mainGlobals "read_plan" = some (some (.ref f9)))
    (l9 : K.lookup f9 = some ⟨oc9, od9, .func (PySem.W.fnOf "read_plan" "read_plan" (defArgs sRead) (defBody sRead) (defScope sRead) .none kV9 dc9 pm9 an9 cd9 ct9), sl9⟩)
    (c9 : PySem.W.codeIn K cd9 "read_plan" = true)
    (k9 : PySem.W.keepIn K (.ref f9) = true)
    (a10 : PySem.W.nsIn K mainGlobals "_law_taken" = some (some (.ref f10)))
    (l10 : K.lookup f10 = some ⟨oc10, od10, .func (PySem.W.fnOf "_law_taken" "_law_taken" (defArgs sTaken) (defBody sTaken) (defScope sTaken) .none kV10 dc10 pm10 an10 cd10 ct10), sl10⟩)
    (c10 : PySem.W.codeIn K cd10 "_law_taken" = true)
    (k10 : PySem.W.keepIn K (.ref f10) = true)
    (a11 : PySem.W.nsIn K mainGlobals "_law_pick" = some (some (.ref f11)))
    (l11 : K.lookup f11 = some ⟨oc11, od11, .func (PySem.W.fnOf "_law_pick" "_law_pick" (defArgs sPick) (defBody sPick) (defScope sPick) .none kV11 dc11 pm11 an11 cd11 ct11), sl11⟩)
    (c11 : PySem.W.codeIn K cd11 "_law_pick" = true)
    (k11 : PySem.W.keepIn K (.ref f11) = true)
    (a12 : PySem.W.nsIn K mainGlobals "_law_plan_block" = some (some (.ref f12)))
    (l12 : K.lookup f12 = some ⟨oc12, od12, .func (PySem.W.fnOf "_law_plan_block" "_law_plan_block" (defArgs sBlock) (defBody sBlock) (defScope sBlock) .none kV12 dc12 pm12 an12 cd12 ct12), sl12⟩)
    (c12 : PySem.W.codeIn K cd12 "_law_plan_block" = true)
    (k12 : PySem.W.keepIn K (.ref f12) = true)
    (a13 : PySem.W.nsIn K mainGlobals "_law_plan_parts" = some (some (.ref f13)))
    (l13 : K.lookup f13 = some ⟨oc13, od13, .func (PySem.W.fnOf "_law_plan_parts" "_law_plan_parts" (defArgs sParts) (defBody sParts) (defScope sParts) .none kV13 dc13 pm13 an13 cd13 ct13), sl13⟩)
    (c13 : PySem.W.codeIn K cd13 "_law_plan_parts" = true)
    (k13 : PySem.W.keepIn K (.ref f13) = true)
    (a14 : PySem.W.nsIn K mainGlobals "_law_plan" = some (some (.ref f14)))
    (l14 : K.lookup f14 = some ⟨oc14, od14, .func (PySem.W.fnOf "_law_plan" "_law_plan" (defArgs sPlan) (defBody sPlan) (defScope sPlan) .none kV14 dc14 pm14 an14 cd14 ct14), sl14⟩)
    (c14 : PySem.W.codeIn K cd14 "_law_plan" = true)
    (k14 : PySem.W.keepIn K (.ref f14) = true)
    (a15 : PySem.W.nsIn K mainGlobals "_law_plan_lines" = some (some (.ref f15)))
    (l15 : K.lookup f15 = some ⟨oc15, od15, .func (PySem.W.fnOf "_law_plan_lines" "_law_plan_lines" (defArgs sPlines) (defBody sPlines) (defScope sPlines) .none kV15 dc15 pm15 an15 cd15 ct15), sl15⟩)
    (c15 : PySem.W.codeIn K cd15 "_law_plan_lines" = true)
    (k15 : PySem.W.keepIn K (.ref f15) = true)
    (a16 : PySem.W.nsIn K mainGlobals "_law_alike" = some (some (.ref f16)))
    (l16 : K.lookup f16 = some ⟨oc16, od16, .func (PySem.W.fnOf "_law_alike" "_law_alike" (defArgs sAlike) (defBody sAlike) (defScope sAlike) .none kV16 dc16 pm16 an16 cd16 ct16), sl16⟩)
    (c16 : PySem.W.codeIn K cd16 "_law_alike" = true)
    (k16 : PySem.W.keepIn K (.ref f16) = true)
    (a17 : PySem.W.nsIn K mainGlobals "law" = some (some (.ref f17)))
    (l17 : K.lookup f17 = some ⟨oc17, od17, .func (PySem.W.fnOf "law" "law" (defArgs sLaw) (defBody sLaw) (defScope sLaw) .none kV17 dc17 pm17 an17 cd17 ct17), sl17⟩)
    (c17 : PySem.W.codeIn K cd17 "law" = true)
    (k17 : PySem.W.keepIn K (.ref f17) = true)
    (a31 : PySem.W.findIn K (.ref CO) "__init__" = some (some (.ref f31)))
    (i31 : PySem.W.isFn K (.ref f31) = true)
    (l31 : K.lookup f31 = some ⟨oc31, od31, .func (PySem.W.fnOf "__init__" "Opened.__init__" (defArgs sOi) (defBody sOi) (defScope sOi) .none kV31 dc31 pm31 an31 cd31 ct31), sl31⟩)
    (c31 : PySem.W.codeIn K cd31 "Opened.__init__" = true)
    (k31 : PySem.W.keepIn K (.ref f31) = true)
    (a32 : PySem.W.findIn K (.ref CO) "part" = some (some (.ref f32)))
    (i32 : PySem.W.isFn K (.ref f32) = true)
    (l32 : K.lookup f32 = some ⟨oc32, od32, .func (PySem.W.fnOf "part" "Opened.part" (defArgs sOp) (defBody sOp) (defScope sOp) .none kV32 dc32 pm32 an32 cd32 ct32), sl32⟩)
    (c32 : PySem.W.codeIn K cd32 "Opened.part" = true)
    (k32 : PySem.W.keepIn K (.ref f32) = true)
    (a33 : PySem.W.findIn K (.ref CP) "__init__" = some (some (.ref f33)))
    (i33 : PySem.W.isFn K (.ref f33) = true)
    (l33 : K.lookup f33 = some ⟨oc33, od33, .func (PySem.W.fnOf "__init__" "Planner.__init__" (defArgs sPi) (defBody sPi) (defScope sPi) .none kV33 dc33 pm33 an33 cd33 ct33), sl33⟩)
    (c33 : PySem.W.codeIn K cd33 "Planner.__init__" = true)
    (k33 : PySem.W.keepIn K (.ref f33) = true)
    (a34 : PySem.W.findIn K (.ref CP) "number" = some (some (.ref f34)))
    (i34 : PySem.W.isFn K (.ref f34) = true)
    (l34 : K.lookup f34 = some ⟨oc34, od34, .func (PySem.W.fnOf "number" "Planner.number" (defArgs sNum) (defBody sNum) (defScope sNum) .none kV34 dc34 pm34 an34 cd34 ct34), sl34⟩)
    (c34 : PySem.W.codeIn K cd34 "Planner.number" = true)
    (k34 : PySem.W.keepIn K (.ref f34) = true)
    (a35 : PySem.W.findIn K (.ref CP) "need_size" = some (some (.ref f35)))
    (i35 : PySem.W.isFn K (.ref f35) = true)
    (l35 : K.lookup f35 = some ⟨oc35, od35, .func (PySem.W.fnOf "need_size" "Planner.need_size" (defArgs sSize) (defBody sSize) (defScope sSize) .none kV35 dc35 pm35 an35 cd35 ct35), sl35⟩)
    (c35 : PySem.W.codeIn K cd35 "Planner.need_size" = true)
    (k35 : PySem.W.keepIn K (.ref f35) = true)
    (a36 : PySem.W.findIn K (.ref CP) "take" = some (some (.ref f36)))
    (i36 : PySem.W.isFn K (.ref f36) = true)
    (l36 : K.lookup f36 = some ⟨oc36, od36, .func (PySem.W.fnOf "take" "Planner.take" (defArgs sTake) (defBody sTake) (defScope sTake) .none kV36 dc36 pm36 an36 cd36 ct36), sl36⟩)
    (c36 : PySem.W.codeIn K cd36 "Planner.take" = true)
    (k36 : PySem.W.keepIn K (.ref f36) = true)
    (a37 : PySem.W.findIn K (.ref CP) "take_turn" = some (some (.ref f37)))
    (i37 : PySem.W.isFn K (.ref f37) = true)
    (l37 : K.lookup f37 = some ⟨oc37, od37, .func (PySem.W.fnOf "take_turn" "Planner.take_turn" (defArgs sTurn) (defBody sTurn) (defScope sTurn) .none kV37 dc37 pm37 an37 cd37 ct37), sl37⟩)
    (c37 : PySem.W.codeIn K cd37 "Planner.take_turn" = true)
    (k37 : PySem.W.keepIn K (.ref f37) = true)
    (a38 : PySem.W.findIn K (.ref CP) "take_part" = some (some (.ref f38)))
    (i38 : PySem.W.isFn K (.ref f38) = true)
    (l38 : K.lookup f38 = some ⟨oc38, od38, .func (PySem.W.fnOf "take_part" "Planner.take_part" (defArgs sPart) (defBody sPart) (defScope sPart) .none kV38 dc38 pm38 an38 cd38 ct38), sl38⟩)
    (c38 : PySem.W.codeIn K cd38 "Planner.take_part" = true)
    (k38 : PySem.W.keepIn K (.ref f38) = true)
    (pgCO : PySem.W.plainGet K CO Str.empty = true)
    (hdCO : PySem.W.hasDictIn K CO = true)
    (poCO : PySem.W.plainOver K CO = true)
    (saCO : PySem.W.findIn K (.ref CO) "__setattr__" = some (some (.builtin "object.__setattr__")))
    (mkCO : PySem.W.makesIn K CO = true)
    (kcCO : PySem.W.keepIn K (.ref CO) = true)
    (nCOword : PySem.W.findIn K (.ref CO) "word" = some none)
    (nCOamount : PySem.W.findIn K (.ref CO) "amount" = some none)
    (nCOblocks : PySem.W.findIn K (.ref CO) "blocks" = some none)
    (pgCP : PySem.W.plainGet K CP Str.empty = true)
    (hdCP : PySem.W.hasDictIn K CP = true)
    (poCP : PySem.W.plainOver K CP = true)
    (saCP : PySem.W.findIn K (.ref CP) "__setattr__" = some (some (.builtin "object.__setattr__")))
    (mkCP : PySem.W.makesIn K CP = true)
    (kcCP : PySem.W.keepIn K (.ref CP) = true)
    (nCPcolours : PySem.W.findIn K (.ref CP) "colours" = some none)
    (nCPtower : PySem.W.findIn K (.ref CP) "tower" = some none)
    (nCPparts : PySem.W.findIn K (.ref CP) "parts" = some none)
    (gaCB : PySem.W.findIn K (.ref CB) "__getattribute__" = some (some (.builtin "BaseException.__getattribute__")))
    (ggCB : PySem.W.findIn K (.ref CB) "__getattr__" = some none)
    (exCB : PySem.W.subIn K (.ref CB) (.type "BaseException") = some true)
    (hdCB : PySem.W.hasDictIn K CB = true)
    (clCB : PySem.W.findIn K (.ref CB) "__class__" = some (some (.builtin "object.__class__")))
    (moCB : PySem.W.mroIn K CB (.type "object") = some true)
    (tyCB : PySem.W.typeIn K (.ref CB) = some (.type "type"))
    (kpCB : PySem.W.keepIn K (.ref CB) = true)
    (sbCB : PySem.W.subIn K (.ref CB) (.ref CE) = some true)
    (ktCB : PySem.W.kitOne K (.ref CB) (.ref CB) = some true)
    (gaCN : PySem.W.findIn K (.ref CN) "__getattribute__" = some (some (.builtin "BaseException.__getattribute__")))
    (ggCN : PySem.W.findIn K (.ref CN) "__getattr__" = some none)
    (exCN : PySem.W.subIn K (.ref CN) (.type "BaseException") = some true)
    (hdCN : PySem.W.hasDictIn K CN = true)
    (clCN : PySem.W.findIn K (.ref CN) "__class__" = some (some (.builtin "object.__class__")))
    (moCN : PySem.W.mroIn K CN (.type "object") = some true)
    (tyCN : PySem.W.typeIn K (.ref CN) = some (.type "type"))
    (kpCN : PySem.W.keepIn K (.ref CN) = true)
    (sbCN : PySem.W.subIn K (.ref CN) (.ref CE) = some true)
    (ktCN : PySem.W.kitOne K (.ref CN) (.ref CN) = some true)
    (gs : PySem.W.specialIn K (.builtin "object.__class__") "__get__" = some (some (.builtin "getset_descriptor.__get__")))
    (tk : PySem.W.takesIn K (.builtin "object.__class__") = some true)
    (exCE : PySem.W.subIn K (.ref CE) (.type "BaseException") = some true)
    (hdCE : PySem.W.hasDictIn K CE = true)
    (tyCE : PySem.W.typeIn K (.ref CE) = some (.type "type"))
    (xN : PySem.W.excIn K CN [.type "ValueError", .type "Exception", .type "BaseException", .type "object"] "ValueError.__new__" = true)
    (xB : K.lookup CB = some (excClassObj nmB qB CB NB bsB bmB true snB subB abB colB ddB m0B m1B m2B m3B m5B "ValueError.__new__"))
    (xr : PySem.HandSPX.refsVE bmB = true)
    (saB : PySem.W.findIn K (.ref CB) "__setattr__" = some (some (.builtin "object.__setattr__")))
    (inB : PySem.W.findIn K (.ref CB) "__init__" = some (some (.ref fI)))
    (tyI : PySem.W.typeIn K (.ref fI) = some (.type "function"))
    (lI : K.lookup fI = some ⟨ocI, odI, .func (PySem.W.fnX "__init__" "BadLine.__init__" (defArgs sBl) (defBody sBl) (defScope sBl) [("__class__", cc)] .none kVI dcI pmI anI (.ref cda) ctI), slI⟩)
    (cI : PySem.W.codeIn K (.ref cda) "BadLine.__init__" = true)
    (kI : K.lookup cda = some ⟨cclB, cddB, .fields vsB, ccsB⟩)
    (kI2 : vsB[2]? = some (.str fileB tfB))
    (kI3 : ((P.main.file : Str) == fileB) = true)
    (kC : K.lookup cc = some ⟨clB, cldB, .cell (some (.ref CB)), cslB⟩)
    (cB : PySem.W.clsIn K CB = some cdB)
    (alB : PySem.W.alongIn K "__init__" ((cdB.mro.dropWhile (· != .ref CB)).drop 1) = some (some (.builtin "ValueError.__init__")))
    (mrB : PySem.W.mroIn K CB (.ref CB) = some true)
    (sVB : PySem.W.subIn K (.ref CB) (.type "ValueError") = some true)
    (anB : PySem.W.nsIn K cStatics "thirdparty.any" = some none)
    (nlB : PySem.W.findIn K (.ref CB) "line" = some none)
    (nwB : PySem.W.findIn K (.ref CB) "word" = some none)
    (htB : (P.main.scope.names.lookup ("super" : Str)).isSome = false)
    (lO : K.lookup aO = some oO)
    (lO1 : oO.cls = .type "tuple")
    (lO2 : oO.data = .seq itO nuO)
    (lO3 : itO.size ≤ sizeLine)
    (lO4 : Vals (openers.map V.str) itO.toList)
    (dS : K.lookup aS = some ⟨.type "dict", none, .dict esS nuS, #[]⟩)
    (dS1 : PySem.W.KeysLit w.params esS.toList)
    (dS2 : Ents esS.toList sizes)
    (dS3 : (aS == sysModules) = false)
    (dT : K.lookup aT = some ⟨.type "dict", none, .dict esT nuT, #[]⟩)
    (dT1 : PySem.W.KeysLit w.params esT.toList)
    (dT2 : Ents esT.toList turns)
    (dT3 : (aT == sysModules) = false) :
    ∃ fd : FuncData, (∀ (s : Shared) (u : Value), BindsTo s fd ⟨[u], []⟩ [("_law_script", u)]) ∧ ∀ base : Heap, K.In base → base.Ns mainGlobals mg → FnOk P w K mg base CX0 14 fa fd ["_law_script"] (spLaw K) := by
  have e := hfa.symm.trans (PySem.W.mg_of X G a17)
  cases e
  have B : Blt mg := ⟨PySem.W.mg_none_of X G z0, PySem.W.mg_none_of X G z1, PySem.W.mg_none_of X G z2, PySem.W.mg_none_of X G z3, PySem.W.mg_none_of X G z4, PySem.W.mg_none_of X G z5, PySem.W.mg_none_of X G z6, PySem.W.mg_none_of X G z7, PySem.W.mg_none_of X G z8, PySem.W.mg_none_of X G z9, PySem.W.mg_none_of X G z10⟩
  have TO : OpT K CO := ⟨⟨pgCO, hdCO, poCO, saCO⟩, nCOword, nCOamount, nCOblocks⟩
  have TP : PlT K CP := ⟨⟨pgCP, hdCP, poCP, saCP⟩, nCPcolours, nCPtower, nCPparts⟩
  have TB : BlT P K mg CB fI cc cda _ := ⟨⟨⟨nmB, qB, NB, bsB, bmB, snB, subB, abB, colB, ddB, m0B, m1B, m2B, m3B, m5B, xB, xr⟩, saB, exCB, tyCB, kpCB⟩, inB, tyI, ⟨_, _, _, lI⟩, ⟨_, _, _, _, _, rfl⟩, cI, ⟨_, _, _, _, _, _, kI, kI2, kI3⟩, ⟨_, _, _, kC⟩, ⟨_, cB, alB⟩, mrB, sVB, anB, PySem.W.mg_none_of X G zs, nlB, nwB, htB, PySem.W.mg_of X G aCB⟩
  have bB := Binds.all (K := K) (fd := PySem.W.fnX "__init__" "BadLine.__init__" (defArgs sBl) (defBody sBl) (defScope sBl) [("__class__", cc)] .none kVI dcI pmI anI (.ref cda) ctI) (ps := ["self", "line", "word"]) fun us hl => match us, hl with | [_, _, _], _ => rfl
  have hO : ∀ H, SqT K H aO (openers.map V.str) := fun H => .inr ⟨oO, itO, nuO, lO, lO1, lO2, lO3, lO4⟩
  have S : DctT K w aS sizes := ⟨⟨_, _, dS, dS1, dS3⟩, (ents_get dS dS2).1, (ents_get dS dS2).2⟩
  have U : DctT K w aT turns := ⟨⟨_, _, dT, dT1, dT3⟩, (ents_get dT dT2).1, (ents_get dT dT2).2⟩
  have F1 := fun_mk (st := sIsIn) l1 c1 k1
  have b1 := F1.binds (ps := ["value", "least", "most"]) fun _ _ _ _ _ _ us hl => match us, hl with | [_, _, _], _ => rfl
  have g1 := PySem.W.mg_of X G a1
  have F2 := fun_mk (st := sIsPart) l2 c2 k2
  have b2 := F2.binds (ps := ["colours", "part", "depth"]) fun _ _ _ _ _ _ us hl => match us, hl with | [_, _, _], _ => rfl
  have g2 := PySem.W.mg_of X G a2
  have F3 := fun_mk (st := sIsBlock) l3 c3 k3
  have b3 := F3.binds (ps := ["colours", "block", "depth"]) fun _ _ _ _ _ _ us hl => match us, hl with | [_, _, _], _ => rfl
  have g3 := PySem.W.mg_of X G a3
  have F4 := fun_mk (st := sBlocksIn) l4 c4 k4
  have b4 := F4.binds (ps := ["part"]) fun _ _ _ _ _ _ us hl => match us, hl with | [_], _ => rfl
  have g4 := PySem.W.mg_of X G a4
  have F5 := fun_mk (st := sPartsIn) l5 c5 k5
  have b5 := F5.binds (ps := ["block"]) fun _ _ _ _ _ _ us hl => match us, hl with | [_], _ => rfl
  have g5 := PySem.W.mg_of X G a5
  have F6 := fun_mk (st := sNeed) l6 c6 k6
  have b6 := F6.binds (ps := ["plan"]) fun _ _ _ _ _ _ us hl => match us, hl with | [_], _ => rfl
  have g6 := PySem.W.mg_of X G a6
  have F7 := fun_mk (st := sLines) l7 c7 k7
  have b7 := F7.binds (ps := ["block"]) fun _ _ _ _ _ _ us hl => match us, hl with | [_], _ => rfl
  have g7 := PySem.W.mg_of X G a7
  have F8 := fun_mk (st := sWrite) l8 c8 k8
  have b8 := F8.binds (ps := ["plan"]) fun _ _ _ _ _ _ us hl => match us, hl with | [_], _ => rfl
  have g8 := PySem.W.mg_of X G a8
  have F9 := fun_mk (st := sRead) l9 c9 k9
  have b9 := F9.binds (ps := ["text"]) fun _ _ _ _ _ _ us hl => match us, hl with | [_], _ => rfl
  have g9 := PySem.W.mg_of X G a9
  have F10 := fun_mk (st := sTaken) l10 c10 k10
  have b10 := F10.binds (ps := ["_law_row", "_law_many"]) fun _ _ _ _ _ _ us hl => match us, hl with | [_, _], _ => rfl
  have g10 := PySem.W.mg_of X G a10
  have F11 := fun_mk (st := sPick) l11 c11 k11
  have b11 := F11.binds (ps := ["_law_row", "_law_things"]) fun _ _ _ _ _ _ us hl => match us, hl with | [_, _], _ => rfl
  have g11 := PySem.W.mg_of X G a11
  have F12 := fun_mk (st := sBlock) l12 c12 k12
  have b12 := F12.binds (ps := ["_law_row", "_law_colours", "_law_deep"]) fun _ _ _ _ _ _ us hl => match us, hl with | [_, _, _], _ => rfl
  have g12 := PySem.W.mg_of X G a12
  have F13 := fun_mk (st := sParts) l13 c13 k13
  have b13 := F13.binds (ps := ["_law_block"]) fun _ _ _ _ _ _ us hl => match us, hl with | [_], _ => rfl
  have g13 := PySem.W.mg_of X G a13
  have F14 := fun_mk (st := sPlan) l14 c14 k14
  have b14 := F14.binds (ps := ["_law_row"]) fun _ _ _ _ _ _ us hl => match us, hl with | [_], _ => rfl
  have g14 := PySem.W.mg_of X G a14
  have F15 := fun_mk (st := sPlines) l15 c15 k15
  have b15 := F15.binds (ps := ["_law_block"]) fun _ _ _ _ _ _ us hl => match us, hl with | [_], _ => rfl
  have g15 := PySem.W.mg_of X G a15
  have F16 := fun_mk (st := sAlike) l16 c16 k16
  have b16 := F16.binds (ps := ["_law_found", "_law_due"]) fun _ _ _ _ _ _ us hl => match us, hl with | [_, _], _ => rfl
  have g16 := PySem.W.mg_of X G a16
  have F17 := fun_mk (st := sLaw) l17 c17 k17
  have b17 := F17.binds (ps := ["_law_script"]) fun _ _ _ _ _ _ us hl => match us, hl with | [_], _ => rfl
  have g17 := PySem.W.mg_of X G a17
  have F31 := fun_mk (st := sOi) l31 c31 k31
  have b31 := F31.binds (ps := ["self", "word", "number"]) fun _ _ _ _ _ _ us hl => match us, hl with | [_, _, _], _ => rfl
  have m31 : Meth K CO "__init__" f31 := ⟨a31, i31, k31⟩
  have F32 := fun_mk (st := sOp) l32 c32 k32
  have b32 := F32.binds (ps := ["self"]) fun _ _ _ _ _ _ us hl => match us, hl with | [_], _ => rfl
  have m32 : Meth K CO "part" f32 := ⟨a32, i32, k32⟩
  have F33 := fun_mk (st := sPi) l33 c33 k33
  have b33 := F33.binds (ps := ["self"]) fun _ _ _ _ _ _ us hl => match us, hl with | [_], _ => rfl
  have m33 : Meth K CP "__init__" f33 := ⟨a33, i33, k33⟩
  have F34 := fun_mk (st := sNum) l34 c34 k34
  have b34 := F34.binds (ps := ["self", "line", "words", "least", "most"]) fun _ _ _ _ _ _ us hl => match us, hl with | [_, _, _, _, _], _ => rfl
  have m34 : Meth K CP "number" f34 := ⟨a34, i34, k34⟩
  have F35 := fun_mk (st := sSize) l35 c35 k35
  have b35 := F35.binds (ps := ["self", "line", "words", "size"]) fun _ _ _ _ _ _ us hl => match us, hl with | [_, _, _, _], _ => rfl
  have m35 : Meth K CP "need_size" f35 := ⟨a35, i35, k35⟩
  have F36 := fun_mk (st := sTake) l36 c36 k36
  have b36 := F36.binds (ps := ["self", "line", "words"]) fun _ _ _ _ _ _ us hl => match us, hl with | [_, _, _], _ => rfl
  have m36 : Meth K CP "take" f36 := ⟨a36, i36, k36⟩
  have F37 := fun_mk (st := sTurn) l37 c37 k37
  have b37 := F37.binds (ps := ["self", "line", "words"]) fun _ _ _ _ _ _ us hl => match us, hl with | [_, _, _], _ => rfl
  have m37 : Meth K CP "take_turn" f37 := ⟨a37, i37, k37⟩
  have F38 := fun_mk (st := sPart) l38 c38 k38
  have b38 := F38.binds (ps := ["self", "line", "words"]) fun _ _ _ _ _ _ us hl => match us, hl with | [_, _, _], _ => rfl
  have m38 : Meth K CP "take_part" f38 := ⟨a38, i38, k38⟩
  refine ⟨_, fun s u => .of_eq rfl, fun base _ _ => ok_law F17 B (PySem.W.mg_of X G aCB) (PySem.W.mg_of X G aCN) (PySem.W.mg_of X G aCE) ⟨⟨gaCB, ggCB, exCB, hdCB⟩, nlB, nwB⟩ ⟨gaCB, ggCB, exCB, hdCB, clCB, gs, tk, moCB⟩ ⟨gaCN, ggCN, exCN, hdCN, clCN, gs, tk, moCN⟩ (PySem.W.exm_ref exCE hdCE tyCE sbCB) (PySem.W.exm_ref exCE hdCE tyCE sbCN) ktCB ktCN ?_ ?_ ?_ ?_ ?_⟩
  · have G10 : Has P w K mg base CX0 1 "_law_taken" ["_law_row", "_law_many"] (spTaken K) := ⟨f10, _, ok_taken F10 B, g10, k10, b10⟩
    have G11 : Has P w K mg base CX0 2 "_law_pick" ["_law_row", "_law_things"] (spPick K) := ⟨f11, _, ok_pick F11 B G10, g11, k11, b11⟩
    exact ⟨f14, _, ok_plan F14 B G10 (all_pb F12 B G10 G11 g12 b12 3) (all_pp F13 B g13 b13 3), g14, k14, b14⟩
  · exact all_pl F15 B g15 b15 3
  · exact all_al F16 B g16 b16 12
  · have G1 : Has P w K mg base CX0 1 "is_in" ["value", "least", "most"] spIsIn := ⟨f1, _, ok_isin F1 B.isi B.int B.bool, g1, k1, b1⟩
    have G4 : Has P w K mg base CX0 1 "blocks_in" ["part"] spBlocks := ⟨f4, _, ok_blocks F4, g4, k4, b4⟩
    have G6 : Has P w K mg base CX0 12 "need_plan" ["plan"] spNeed := ⟨f6, _, ok_need F6 B (PySem.W.mg_of X G n2) (PySem.W.mg_of X G n3) (PySem.W.mg_of X G n4) G1 (both_is F2 F3 B (PySem.W.mg_of X G n0) (PySem.W.mg_of X G n1) G1 g2 g3 b2 b3 5) (all_parts F5 B G4 g5 b5 5), g6, k6, b6⟩
    exact ⟨f8, _, ok_write F8 B G6 (all_lines F7 B g7 b7 5), g8, k8, b8⟩
  · have KB : BadK P w K mg base CB := ⟨fI, cc, cda, _, TB, ok_blinit TB, bB⟩
    have HCO : HasC P w K mg base 1 "Opened" CO ["self", "word", "number"] (spOi CO) := ⟨f31, _, ok_oi F31 TO, ⟨mkCO, a31, i31, kcCO⟩, PySem.W.mg_of X G aCO, b31⟩
    have MO : HasM P w K mg base CX0 1 CO "part" ["self"] (spOp CO) := ⟨f32, _, ok_op F32 TO B, m32, b32⟩
    have HCP : HasC P w K mg base 3 "Planner" CP ["self"] (spPi CP CO) := ⟨f33, _, ok_pi F33 TP HCO, ⟨mkCP, a33, i33, kcCP⟩, PySem.W.mg_of X G aCP, b33⟩
    have MN : HasM P w K mg base (L2.CX P w) 3 CP "number" ["self", "line", "words", "least", "most"] (spNum CB) := ⟨f34, _, ok_num F34 KB B (PySem.W.mg_of X G nF), m34, b34⟩
    have MS : HasM P w K mg base (L2.CX P w) 3 CP "need_size" ["self", "line", "words", "size"] (spSize CB) := ⟨f35, _, ok_size F35 KB B, m35, b35⟩
    have MU : HasM P w K mg base (L2.CX P w) 4 CP "take_turn" ["self", "line", "words"] (spTurn CP CO CB) := ⟨f37, _, ok_turn F37 KB B TP TO MS MO, m37, b37⟩
    have MP : HasM P w K mg base (L2.CX P w) 4 CP "take_part" ["self", "line", "words"] (spTkp CP CO CB) := ⟨f38, _, ok_part F38 KB B TP TO (PySem.W.mg_of X G nO) hO (PySem.W.mg_of X G nS) S (PySem.W.mg_of X G nT) U (PySem.W.mg_of X G n1) (PySem.W.mg_of X G n0) (PySem.W.mg_of X G n4) HCO MN MS, m38, b38⟩
    have MT : HasM P w K mg base (L2.CX P w) 5 CP "take" ["self", "line", "words"] (spTake CP CO CB) := ⟨f36, _, ok_take F36 KB B TP (PySem.W.mg_of X G nS) S (PySem.W.mg_of X G n2) (PySem.W.mg_of X G n3) MN MS MU MP, m36, b36⟩
    exact ⟨f9, _, ok_read F9 KB B TP TO HCP MT xN (PySem.W.mg_of X G aCN) kpCN exCN tyCN, g9, k9, b9⟩

theorem walk {l : PySem.W.OpenLaw} {q : Program} {loose : List Str} {XP : (Str → Option Value) → Heap → Prop} {YP : World → Heap → Prop} {d : DefRec} {K : Params → PySem.W.Frag} (hn : l.most = some 63) (hdf : d.params.defaults = [])
    (hY : ∀ (w : World) (h : Heap), YP w h → (K w.params).In h)
    (F : ∀ (w : World) (mg : Str → Option Value) (fa : Addr) (h : Heap), (K w.params).In h → h.Ns mainGlobals mg → mg d.name = some (.ref fa) →
      ∃ fd : FuncData, (∀ (s : Shared) (u : Value), BindsTo s fd ⟨[u], []⟩ [("_law_script", u)]) ∧ ∀ base : Heap, (K w.params).In base → base.Ns mainGlobals mg → FnOk l.prog w (K w.params) mg base CX0 14 fa fd ["_law_script"] (spLaw (K w.params))) :
    PySem.W.WalkO q loose XP YP l.row.toRowW d [] (fun f vs => PySem.call f vs) :=
  L2.walk_of (n := 63) (k := 14) (x := "_law_script") (CX := fun _ => CX0) (sp := fun w => spLaw (K w.params)) hn (by decide) hdf ⟨rfl, by decide, by decide⟩ hY F
    (fun _ H a ns hl hO hS => ⟨a, ns, rfl, (by
      rcases hS with (hS | ⟨o, hS⟩) | hS
      · rcases hO a with z | ⟨o, xs, z⟩
        · rw [hS] at z; cases z
        · rw [hS] at z; cases z
      · exact .inl ⟨o, hS⟩
      · exact .inr hS), hl, fun _ => rfl⟩) fun _ _ _ _ _ z => z
end Pk

open PySem PySem.W PyProof.Rows
set_option maxRecDepth 100000 in
set_option maxHeartbeats 0 in
theorem PySem.Challenge.cw_streetpapers_k30_whole_plans_as_text_holds : PySem.Challenge.rw_streetpapers_k30_whole_plans_as_text.Holds := by
  w_on; o_law; k_head; (case hw => w_witness2)
  k_fill
  refine Pk.walk (l := PySem.Challenge.rw_streetpapers_k30_whole_plans_as_text) rfl rfl (fun w h Y => PySem.W.kIn_of Y) ?F
  case F =>
    intro w mg fa h KX G hmg
    refine' Pk.all_mk KX G hmg ?aCB ?aCN ?aCE ?aCO ?aCP ?n0 ?n1 ?n2 ?n3 ?n4 ?nF ?nO ?nS ?nT ?z0 ?z1 ?z2 ?z3 ?z4 ?z5 ?z6 ?z7 ?z8 ?z9 ?z10 ?zs ?a1 ?l1 ?c1 ?k1 ?a2 ?l2 ?c2 ?k2 ?a3 ?l3 ?c3 ?k3 ?a4 ?l4 ?c4 ?k4 ?a5 ?l5 ?c5 ?k5 ?a6 ?l6 ?c6 ?k6 ?a7 ?l7 ?c7 ?k7 ?a8 ?l8 ?c8 ?k8 ?a9 ?l9 ?c9 ?k9 ?a10 ?l10 ?c10 ?k10 ?a11 ?l11 ?c11 ?k11 ?a12 ?l12 ?c12 ?k12 ?a13 ?l13 ?c13 ?k13 ?a14 ?l14 ?c14 ?k14 ?a15 ?l15 ?c15 ?k15 ?a16 ?l16 ?c16 ?k16 ?a17 ?l17 ?c17 ?k17 ?a31 ?i31 ?l31 ?c31 ?k31 ?a32 ?i32 ?l32 ?c32 ?k32 ?a33 ?i33 ?l33 ?c33 ?k33 ?a34 ?i34 ?l34 ?c34 ?k34 ?a35 ?i35 ?l35 ?c35 ?k35 ?a36 ?i36 ?l36 ?c36 ?k36 ?a37 ?i37 ?l37 ?c37 ?k37 ?a38 ?i38 ?l38 ?c38 ?k38 ?pgCO ?hdCO ?poCO ?saCO ?mkCO ?kcCO ?nCOword ?nCOamount ?nCOblocks ?pgCP ?hdCP ?poCP ?saCP ?mkCP ?kcCP ?nCPcolours ?nCPtower ?nCPparts ?gaCB ?ggCB ?exCB ?hdCB ?clCB ?moCB ?tyCB ?kpCB ?sbCB ?ktCB ?gaCN ?ggCN ?exCN ?hdCN ?clCN ?moCN ?tyCN ?kpCN ?sbCN ?ktCN ?gs ?tk ?exCE ?hdCE ?tyCE ?xN ?xB ?xr ?saB ?inB ?tyI ?lI ?cI ?kI ?kI2 ?kI3 ?kC ?cB ?alB ?mrB ?sVB ?anB ?nlB ?nwB ?htB ?lO ?lO1 ?lO2 ?lO3 ?lO4 ?dS ?dS1 ?dS2 ?dS3 ?dT ?dT1 ?dT2 ?dT3
    (case aCB => k_is)
    (case aCN => k_is)
    (case aCE => k_is)
    (case aCO => k_is)
    (case aCP => k_is)
    (case n0 => k_is)
    (case n1 => k_is)
    (case n2 => k_is)
    (case n3 => k_is)
    (case n4 => k_is)
    (case nF => k_is)
    (case nO => k_is)
    (case nS => k_is)
    (case nT => k_is)
    (case z0 => k_is)
    (case z1 => k_is)
    (case z2 => k_is)
    (case z3 => k_is)
    (case z4 => k_is)
    (case z5 => k_is)
    (case z6 => k_is)
    (case z7 => k_is)
    (case z8 => k_is)
    (case z9 => k_is)
    (case z10 => k_is)
    (case zs => k_is)
    (case a1 => k_is)
    (case l1 => k_is)
    (case c1 => k_is)
    (case k1 => k_is)
    (case a2 => k_is)
    (case l2 => k_is)
    (case c2 => k_is)
    (case k2 => k_is)
    (case a3 => k_is)
    (case l3 => k_is)
    (case c3 => k_is)
    (case k3 => k_is)
    (case a4 => k_is)
    (case l4 => k_is)
    (case c4 => k_is)
    (case k4 => k_is)
    (case a5 => k_is)
    (case l5 => k_is)
    (case c5 => k_is)
    (case k5 => k_is)
    (case a6 => k_is)
    (case l6 => k_is)
    (case c6 => k_is)
    (case k6 => k_is)
    (case a7 => k_is)
    (case l7 => k_is)
    (case c7 => k_is)
    (case k7 => k_is)
    (case a8 => k_is)
    (case l8 => k_is)
    (case c8 => k_is)
    (case k8 => k_is)
    (case a9 => k_is)
    (case l9 => k_is)
    (case c9 => k_is)
    (case k9 => k_is)
    (case a10 => k_is)
    (case l10 => k_is)
    (case c10 => k_is)
    (case k10 => k_is)
    (case a11 => k_is)
    (case l11 => k_is)
    (case c11 => k_is)
    (case k11 => k_is)
    (case a12 => k_is)
    (case l12 => k_is)
    (case c12 => k_is)
    (case k12 => k_is)
    (case a13 => k_is)
    (case l13 => k_is)
    (case c13 => k_is)
    (case k13 => k_is)
    (case a14 => k_is)
    (case l14 => k_is)
    (case c14 => k_is)
    (case k14 => k_is)
    (case a15 => k_is)
    (case l15 => k_is)
    (case c15 => k_is)
    (case k15 => k_is)
    (case a16 => k_is)
    (case l16 => k_is)
    (case c16 => k_is)
    (case k16 => k_is)
    (case a17 => k_is)
    (case l17 => k_is)
    (case c17 => k_is)
    (case k17 => k_is)
    (case a31 => k_is)
    (case i31 => k_is)
    (case l31 => k_is)
    (case c31 => k_is)
    (case k31 => k_is)
    (case a32 => k_is)
    (case i32 => k_is)
    (case l32 => k_is)
    (case c32 => k_is)
    (case k32 => k_is)
    (case a33 => k_is)
    (case i33 => k_is)
    (case l33 => k_is)
    (case c33 => k_is)
    (case k33 => k_is)
    (case a34 => k_is)
    (case i34 => k_is)
    (case l34 => k_is)
    (case c34 => k_is)
    (case k34 => k_is)
    (case a35 => k_is)
    (case i35 => k_is)
    (case l35 => k_is)
    (case c35 => k_is)
    (case k35 => k_is)
    (case a36 => k_is)
    (case i36 => k_is)
    (case l36 => k_is)
    (case c36 => k_is)
    (case k36 => k_is)
    (case a37 => k_is)
    (case i37 => k_is)
    (case l37 => k_is)
    (case c37 => k_is)
    (case k37 => k_is)
    (case a38 => k_is)
    (case i38 => k_is)
    (case l38 => k_is)
    (case c38 => k_is)
    (case k38 => k_is)
    (case pgCO => k_is)
    (case hdCO => k_is)
    (case poCO => k_is)
    (case saCO => k_is)
    (case mkCO => k_is)
    (case kcCO => k_is)
    (case nCOword => k_is)
    (case nCOamount => k_is)
    (case nCOblocks => k_is)
    (case pgCP => k_is)
    (case hdCP => k_is)
    (case poCP => k_is)
    (case saCP => k_is)
    (case mkCP => k_is)
    (case kcCP => k_is)
    (case nCPcolours => k_is)
    (case nCPtower => k_is)
    (case nCPparts => k_is)
    (case gaCB => k_is)
    (case ggCB => k_is)
    (case exCB => k_is)
    (case hdCB => k_is)
    (case clCB => k_is)
    (case moCB => k_is)
    (case tyCB => k_is)
    (case kpCB => k_is)
    (case sbCB => k_is)
    (case ktCB => first | k_is | kit_is)
    (case gaCN => k_is)
    (case ggCN => k_is)
    (case exCN => k_is)
    (case hdCN => k_is)
    (case clCN => k_is)
    (case moCN => k_is)
    (case tyCN => k_is)
    (case kpCN => k_is)
    (case sbCN => k_is)
    (case ktCN => first | k_is | kit_is)
    (case gs => k_is)
    (case tk => k_is)
    (case exCE => k_is)
    (case hdCE => k_is)
    (case tyCE => k_is)
    (case xN => k_exc)
    (case xB => k_is)
    (case xr => first | rfl | decide +kernel)
    (case saB => k_is)
    (case inB => k_is)
    (case tyI => k_is)
    (case lI => k_is)
    (case cI => k_is)
    (case kI => k_is)
    (case kI2 => rfl)
    (case kI3 => first | rfl | decide +kernel)
    (case kC => k_is)
    (case cB => k_is)
    (case alB => first | k_is | rfl | decide +kernel)
    (case mrB => k_is)
    (case sVB => k_is)
    (case anB => k_is)
    (case nlB => k_is)
    (case nwB => k_is)
    (case htB => first | rfl | decide +kernel)
    (case lO => k_is)
    (case lO1 => rfl)
    (case lO2 => rfl)
    (case lO3 => first | rfl | decide +kernel)
    (case lO4 => exact .cons ⟨_, rfl⟩ (.cons ⟨_, rfl⟩ (.cons ⟨_, rfl⟩ (.cons ⟨_, rfl⟩ .nil))))
    (case dS => k_is)
    (case dS1 => k_keys)
    (case dS2 => repeat (first | exact True.intro | refine And.intro ⟨⟨_, rfl⟩, _, rfl⟩ ?_))
    (case dS3 => first | rfl | decide +kernel)
    (case dT => k_is)
    (case dT1 => k_keys)
    (case dT2 => repeat (first | exact True.intro | refine And.intro ⟨⟨_, rfl⟩, _, rfl⟩ ?_))
    (case dT3 => first | rfl | decide +kernel)
