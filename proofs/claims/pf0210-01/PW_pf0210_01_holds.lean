import PyProof.Rows.All
import Wide.All
import OpenK.AllK
import Wide.FinOn
import Lean
import PySem.Challenge.RW_pf0210_01
set_option Elab.async false
set_option compiler.extract_closed false
set_option maxRecDepth 100000
set_option linter.unusedVariables false
set_option linter.unusedSimpArgs false
namespace Mine
open PySem
inductive All2 {α β : Type} (R : α → β → Prop) : List α → List β → Prop
  | nil : All2 R [] []
  | cons {a b l m} : R a b → All2 R l m → All2 R (a :: l) (b :: m)

/-! the line as plain data: what each function of the program makes of it -/
structure LS where
  vals : List (Option Int)
  nexts : List Int
  prevs : List Int
  head : Int
  tail : Int
  count : Int
  free : List Int
  flags : Int
  cursor : Int
  place : Int

def back (f : Int) : Bool := Builtin.bitAnd f 2 != 0
def dele (f : Int) : Bool := Builtin.bitAnd f 1 != 0

structure WF (S : LS) : Prop where
  nx : S.nexts.length = S.vals.length
  pv : S.prevs.length = S.vals.length
  len : S.vals.length ≤ 100
  head : -1 ≤ S.head ∧ S.head < S.vals.length
  tail : -1 ≤ S.tail ∧ S.tail < S.vals.length
  cursor : -1 ≤ S.cursor ∧ S.cursor < S.vals.length
  free : S.free.length ≤ 100
  frees : ∀ x ∈ S.free, 0 ≤ x ∧ x < S.vals.length
  nexts : ∀ x ∈ S.nexts, -1 ≤ x ∧ x < S.vals.length
  prevs : ∀ x ∈ S.prevs, -1 ≤ x ∧ x < S.vals.length

def LS.newNode (S : LS) (x : Int) : Int × LS := match S.free.reverse with
  | [] => (S.vals.length, { S with vals := S.vals ++ [some x], nexts := S.nexts ++ [-1], prevs := S.prevs ++ [-1] })
  | n :: r => (n, { S with vals := S.vals.set n.toNat (some x), free := r.reverse })
theorem newNode_nil {S : LS} {x : Int} (h : S.free = []) : S.newNode x = ((S.vals.length : Int), { S with vals := S.vals ++ [some x], nexts := S.nexts ++ [-1], prevs := S.prevs ++ [-1] }) := by
  simp [LS.newNode, h]
theorem newNode_snoc {S : LS} {f : List Int} {n x : Int} (h : S.free = f ++ [n]) : S.newNode x = (n, { S with vals := S.vals.set n.toNat (some x), free := f }) := by
  simp [LS.newNode, h]

def LS.push (S : LS) (x : Int) : LS :=
  let n := (S.newNode x).1
  let S1 := (S.newNode x).2
  let S2 : LS := { S1 with prevs := S1.prevs.set n.toNat S1.tail }
  let S3 : LS := if S2.tail < 0 then { S2 with head := n } else { S2 with nexts := S2.nexts.set S2.tail.toNat n }
  { S3 with tail := n, count := S3.count + 1 }
def LS.unshift (S : LS) (x : Int) : LS :=
  let n := (S.newNode x).1
  let S1 := (S.newNode x).2
  let S2 : LS := { S1 with nexts := S1.nexts.set n.toNat S1.head }
  let S3 : LS := if S2.head < 0 then { S2 with tail := n } else { S2 with prevs := S2.prevs.set S2.head.toNat n }
  { S3 with head := n, count := S3.count + 1 }
def LS.unlink (S : LS) (n : Int) : LS :=
  let ahead := S.prevs.getD n.toNat (-1)
  let behind := S.nexts.getD n.toNat (-1)
  let S1 : LS := if ahead < 0 then { S with head := behind } else { S with nexts := S.nexts.set ahead.toNat behind }
  let S2 : LS := if behind < 0 then { S1 with tail := ahead } else { S1 with prevs := S1.prevs.set behind.toNat ahead }
  let S3 : LS := { S2 with vals := S2.vals.set n.toNat none, nexts := S2.nexts.set n.toNat (-1), prevs := S2.prevs.set n.toNat (-1), count := S2.count - 1 }
  if n = S3.cursor then S3 else { S3 with free := S3.free ++ [n] }
def LS.valAt (S : LS) (n : Int) : Option Int := S.vals.getD n.toNat none
def LS.pop (S : LS) : LS := if S.tail < 0 then S else S.unlink S.tail
def LS.popV (S : LS) : Option Int := if S.tail < 0 then none else S.valAt S.tail
def LS.shift (S : LS) : LS := if S.head < 0 then S else S.unlink S.head
def LS.shiftV (S : LS) : Option Int := if S.head < 0 then none else S.valAt S.head
def walkN (ways : List Int) : Nat → Int → Int
  | 0, n => n
  | k + 1, n => if 0 ≤ n then walkN ways k (ways.getD n.toNat (-1)) else n
def LS.at (S : LS) (index flags : Int) : Int :=
  if back flags then walkN S.prevs index.toNat S.tail else walkN S.nexts index.toNat S.head
def LS.insert (S : LS) (ahead behind x : Int) : LS :=
  let n := (S.newNode x).1
  let S1 := (S.newNode x).2
  { S1 with prevs := (S1.prevs.set n.toNat ahead).set behind.toNat n, nexts := (S1.nexts.set n.toNat behind).set ahead.toNat n, count := S1.count + 1 }
def LS.add (S : LS) (index x : Int) : LS :=
  if S.count ≤ index then S.push x else
    let behind := S.at index S.flags
    let ahead := S.prevs.getD behind.toNat (-1)
    if ahead < 0 then S.unshift x else S.insert ahead behind x
def LS.drop (S : LS) (index : Int) : LS :=
  let n := S.at index S.flags
  if n = S.cursor then { S with cursor := -1 }.unlink n else S.unlink n
def LS.standOn (S : LS) (n : Int) : LS :=
  let old := S.cursor
  if 0 ≤ old ∧ old ≠ n ∧ S.valAt old = none then { S with cursor := n, free := S.free ++ [old] } else { S with cursor := n }
def LS.rewind (S : LS) : LS :=
  if back S.flags then { S with place := S.count - 1 }.standOn S.tail else { S with place := 0 }.standOn S.head
def LS.step (S : LS) (flags : Int) : LS :=
  let old := S.cursor
  if old < 0 then S else
    if back flags then
      let S1 : LS := { S with place := S.place - 1 }
      (if dele flags then S1.pop else S1).standOn (S.prevs.getD old.toNat (-1))
    else (if dele flags then S.shift else { S with place := S.place + 1 }).standOn (S.nexts.getD old.toNat (-1))
def LS.current (S : LS) : Option Int := if S.cursor < 0 then none else S.valAt S.cursor
def LS.empty : LS := ⟨[], [], [], -1, -1, 0, [], 0, -1, 0⟩
/-- the nodes from one on, along the ways -/
inductive Chain (w : List Int) : Int → List Int → Prop
  | nil {a : Int} : a < 0 → Chain w a []
  | cons {a : Int} {l : List Int} : 0 ≤ a → Chain w (w.getD a.toNat (-1)) l → Chain w a (a :: l)
def LS.copy (S : LS) (vs : List Int) : LS :=
  let S1 := vs.foldl LS.push { LS.empty with flags := S.flags }
  { S1 with cursor := S1.head }

/-! sizes stay -/
theorem getD_bound {l : List Int} {n : Int} (h : ∀ x ∈ l, -1 ≤ x ∧ x < n) (hn : 0 ≤ n) (k : Nat) : -1 ≤ l.getD k (-1) ∧ l.getD k (-1) < n := by
  rw [List.getD_eq_getElem?_getD]
  cases e : l[k]? with
  | none => simp; omega
  | some x => exact h x (List.mem_of_getElem? e)
theorem set_bound {l : List Int} {n y : Int} (h : ∀ x ∈ l, -1 ≤ x ∧ x < n) (hy : -1 ≤ y ∧ y < n) (k : Nat) : ∀ x ∈ l.set k y, -1 ≤ x ∧ x < n := by
  intro x hx
  rcases List.mem_or_eq_of_mem_set hx with q | q
  · exact h x q
  · subst q; exact hy
theorem bound_mono {l : List Int} {n m : Int} (h : ∀ x ∈ l, -1 ≤ x ∧ x < n) (hm : n ≤ m) : ∀ x ∈ l, -1 ≤ x ∧ x < m := fun x hx => ⟨(h x hx).1, Int.lt_of_lt_of_le (h x hx).2 hm⟩

theorem snoc_cases (l : List Int) : l = [] ∨ ∃ f n, l = f ++ [n] := by
  rcases List.eq_nil_or_concat l with h | ⟨f, n, h⟩
  · exact .inl h
  · exact .inr ⟨f, n, by rw [h, List.concat_eq_append]⟩
theorem newNode_len {S : LS} {x : Int} (wf : WF S) : S.vals.length ≤ (S.newNode x).2.vals.length ∧ (S.newNode x).2.vals.length ≤ S.vals.length + 1 ∧ 0 ≤ (S.newNode x).1 ∧ (S.newNode x).1 < (S.newNode x).2.vals.length := by
  rcases snoc_cases S.free with hf | ⟨f, n, hf⟩
  · rw [newNode_nil hf]; simp; omega
  · rw [newNode_snoc hf]
    have := wf.frees n (by rw [hf]; simp)
    simp; omega
theorem newNode_wf {S : LS} {x : Int} (wf : WF S) (hz : S.vals.length < 100) : WF (S.newNode x).2 := by
  obtain ⟨nx, pv, len, head, tail, cursor, free, frees, nexts, prevs⟩ := wf
  rcases snoc_cases S.free with hf | ⟨f, n, hf⟩
  · rw [newNode_nil hf]
    have up : ∀ {l : List Int}, (∀ x ∈ l, -1 ≤ x ∧ x < (S.vals.length : Int)) → ∀ x ∈ l ++ [-1], -1 ≤ x ∧ x < ((S.vals ++ [some x]).length : Int) := by
      intro l h y hy
      rcases List.mem_append.mp hy with q | q
      · have := h y q; simp; omega
      · simp at q; subst q; simp; omega
    exact { nx := by simp; omega, pv := by simp; omega, len := by simp; omega, head := by simp; omega, tail := by simp; omega, cursor := by simp; omega, free := free,
            frees := fun y hy => by have := frees y hy; simp; omega, nexts := by simpa using up nexts, prevs := by simpa using up prevs }
  · rw [newNode_snoc hf]
    exact { nx := by simp; omega, pv := by simp; omega, len := by simp; omega, head := by simp; omega, tail := by simp; omega, cursor := by simp; omega,
            free := by simp [hf] at free; show f.length ≤ 100; omega,
            frees := fun y hy => by have := frees y (by rw [hf]; exact List.mem_append_left _ hy); simpa using this, nexts := by simpa using nexts, prevs := by simpa using prevs }
end Mine

namespace Mine
open PySem
/-- from a along the ways over l to b -/
inductive Seg (w : List Int) : Int → List Int → Int → Prop
  | nil {a : Int} : Seg w a [] a
  | cons {a b : Int} {l : List Int} : 0 ≤ a → Seg w (w.getD a.toNat (-1)) l b → Seg w a (a :: l) b

/-! sizes -/
theorem unlink_wf {S : LS} {n : Int} (wf : WF S) (h0 : 0 ≤ n) (hn : n < S.vals.length) (hf : S.free.length < 100) : WF (S.unlink n) := by
  have hb := getD_bound wf.nexts (by omega) n.toNat
  have ha := getD_bound wf.prevs (by omega) n.toNat
  obtain ⟨nx, pv, len, head, tail, cursor, free, frees, nexts, prevs⟩ := wf
  unfold LS.unlink
  generalize S.prevs.getD n.toNat (-1) = ahead at *
  generalize S.nexts.getD n.toNat (-1) = behind at *
  have st : ∀ S2 : LS, S2.vals = S.vals → S2.nexts.length = S.vals.length → S2.prevs.length = S.vals.length → (-1 ≤ S2.head ∧ S2.head < S.vals.length) → (-1 ≤ S2.tail ∧ S2.tail < S.vals.length) → S2.cursor = S.cursor → S2.free = S.free →
      (∀ x ∈ S2.nexts, -1 ≤ x ∧ x < (S.vals.length : Int)) → (∀ x ∈ S2.prevs, -1 ≤ x ∧ x < (S.vals.length : Int)) →
      WF (let S3 : LS := { S2 with vals := S2.vals.set n.toNat none, nexts := S2.nexts.set n.toNat (-1), prevs := S2.prevs.set n.toNat (-1), count := S2.count - 1 }
          if n = S3.cursor then S3 else { S3 with free := S3.free ++ [n] }) := by
    intro S2 e1 e2 e3 e4 e5 e6 e7 e8 e9
    have b1 : ∀ x ∈ S2.nexts.set n.toNat (-1), -1 ≤ x ∧ x < (S.vals.length : Int) := set_bound e8 (by omega) _
    have b2 : ∀ x ∈ S2.prevs.set n.toNat (-1), -1 ≤ x ∧ x < (S.vals.length : Int) := set_bound e9 (by omega) _
    by_cases q : n = S2.cursor
    · simp only [if_pos q]
      exact { nx := by simp [e1, e2], pv := by simp [e1, e3], len := by simpa [e1] using len, head := by simpa [e1] using e4, tail := by simpa [e1] using e5, cursor := by simpa [e1, e6] using cursor, free := by simpa [e7] using free,
              frees := by simpa [e1, e7] using frees, nexts := by simpa [e1] using b1, prevs := by simpa [e1] using b2 }
    · simp only [if_neg q]
      exact { nx := by simp [e1, e2], pv := by simp [e1, e3], len := by simpa [e1] using len, head := by simpa [e1] using e4, tail := by simpa [e1] using e5, cursor := by simpa [e1, e6] using cursor, free := by simp [e7]; omega,
              frees := by
                intro x hx
                simp only [e7] at hx
                rcases List.mem_append.mp hx with h | h
                · simpa [e1] using frees x h
                · simp at h; subst h; simp [e1]; omega
              nexts := by simpa [e1] using b1, prevs := by simpa [e1] using b2 }
  by_cases h1 : ahead < 0
  · simp only [if_pos h1]
    by_cases h2 : behind < 0
    · simp only [if_pos h2]
      exact st { S with head := behind, tail := ahead } rfl nx pv hb ha rfl rfl nexts prevs
    · simp only [if_neg h2]
      exact st { S with head := behind, prevs := S.prevs.set behind.toNat ahead } rfl nx (by simpa using pv) hb tail rfl rfl nexts (set_bound prevs ha _)
  · simp only [if_neg h1]
    by_cases h2 : behind < 0
    · simp only [if_pos h2]
      exact st { S with nexts := S.nexts.set ahead.toNat behind, tail := ahead } rfl (by simpa using nx) pv head ha rfl rfl (set_bound nexts hb _) prevs
    · simp only [if_neg h2]
      exact st { S with nexts := S.nexts.set ahead.toNat behind, prevs := S.prevs.set behind.toNat ahead } rfl (by simpa using nx) (by simpa using pv) head tail rfl rfl (set_bound nexts hb _) (set_bound prevs ha _)
theorem walkN_bound {ways : List Int} {n : Int} (h : ∀ x ∈ ways, -1 ≤ x ∧ x < n) (hn : 0 ≤ n) : ∀ (k : Nat) (a : Int), -1 ≤ a ∧ a < n → -1 ≤ walkN ways k a ∧ walkN ways k a < n
  | 0, a, ha => ha
  | k + 1, a, ha => by
    unfold walkN
    split
    · exact walkN_bound h hn k _ (getD_bound h hn _)
    · exact ha
theorem at_bound {S : LS} (wf : WF S) (i f : Int) : -1 ≤ S.at i f ∧ S.at i f < S.vals.length := by
  unfold LS.at
  split
  · exact walkN_bound wf.prevs (by omega) _ _ wf.tail
  · exact walkN_bound wf.nexts (by omega) _ _ wf.head
theorem push_wf {S : LS} {x : Int} (wf : WF S) (hz : S.vals.length < 100) : WF (S.push x) := by
  have wf1 := newNode_wf (x := x) wf hz
  have hn := newNode_len (x := x) wf
  unfold LS.push
  generalize (S.newNode x).1 = n at *
  generalize (S.newNode x).2 = S1 at *
  obtain ⟨nx, pv, len, head, tail, cursor, free, frees, nexts, prevs⟩ := wf1
  have b1 : ∀ y ∈ S1.prevs.set n.toNat S1.tail, -1 ≤ y ∧ y < (S1.vals.length : Int) := set_bound prevs tail _
  by_cases h : S1.tail < 0
  · simp only [if_pos h]
    exact { nx := nx, pv := by simpa using pv, len := len, head := ⟨by show -1 ≤ n; omega, by show n < (S1.vals.length : Int); omega⟩, tail := ⟨by show -1 ≤ n; omega, by show n < (S1.vals.length : Int); omega⟩, cursor := cursor, free := free, frees := frees, nexts := nexts, prevs := b1 }
  · simp only [if_neg h]
    exact { nx := by simpa using nx, pv := by simpa using pv, len := len, head := head, tail := ⟨by show -1 ≤ n; omega, by show n < (S1.vals.length : Int); omega⟩, cursor := cursor, free := free, frees := frees, nexts := set_bound nexts (by omega) _, prevs := b1 }
theorem push_len {S : LS} {x : Int} : (S.push x).vals = (S.newNode x).2.vals := by
  unfold LS.push
  simp only
  split <;> rfl
theorem empty_wf (f : Int) : WF { LS.empty with flags := f } :=
  { nx := rfl, pv := rfl, len := Nat.zero_le _, head := ⟨by show (-1 : Int) ≤ -1; omega, by show (-1 : Int) < 0; omega⟩, tail := ⟨by show (-1 : Int) ≤ -1; omega, by show (-1 : Int) < 0; omega⟩, cursor := ⟨by show (-1 : Int) ≤ -1; omega, by show (-1 : Int) < 0; omega⟩,
    free := Nat.zero_le _, frees := fun _ h => (by cases h), nexts := fun _ h => (by cases h), prevs := fun _ h => (by cases h) }
theorem fold_wf' : ∀ (l : List Int) {S : LS}, WF S → S.vals.length + l.length ≤ 100 → WF (l.foldl LS.push S) ∧ (l.foldl LS.push S).vals.length ≤ S.vals.length + l.length
  | [], S, wf, h => ⟨wf, by simp⟩
  | x :: l, S, wf, h => by
    rw [List.length_cons] at h
    have h1 := newNode_len (x := x) wf
    have h2 : (S.push x).vals.length ≤ S.vals.length + 1 := by rw [push_len]; exact h1.2.1
    obtain ⟨a, b⟩ := fold_wf' l (push_wf (x := x) wf (by omega)) (by omega)
    refine ⟨a, ?_⟩
    rw [List.foldl_cons, List.length_cons]
    omega
theorem fold_wf (f : Int) (l : List Int) (h : l.length ≤ 100) : WF (l.foldl LS.push { LS.empty with flags := f }) ∧ (l.foldl LS.push { LS.empty with flags := f }).vals.length ≤ l.length := by
  obtain ⟨a, b⟩ := fold_wf' l (empty_wf f) (by show 0 + _ ≤ _; omega)
  refine ⟨a, ?_⟩
  have : ({ LS.empty with flags := f } : LS).vals.length = 0 := rfl
  omega
end Mine

namespace Mine
open PySem
/-- the law's own record -/
structure Mn where
  rows : List Int
  at_ : Option Int
  place : Int
  flags : Int
  most : Int

abbrev ValsAre (S : LS) (ns rows : List Int) : Prop := All2 (fun n r => S.valAt n = some r) ns rows
def gone (S : LS) (ns : List Int) : List Int := if 0 ≤ S.cursor ∧ S.cursor ∉ ns then [S.cursor] else []
def upto (n : Nat) : List Int := (List.range n).map fun i : Nat => (i : Int)

/-- the line S holds the rows in the nodes ns -/
structure Rep (S : LS) (ns rows : List Int) : Prop where
  wf : WF S
  fwd : Seg S.nexts S.head ns (-1)
  bwd : Seg S.prevs S.tail ns.reverse (-1)
  off : ∀ x, 0 ≤ x → x ∉ ns → S.nexts.getD x.toNat (-1) = -1 ∧ S.prevs.getD x.toNat (-1) = -1
  all : (ns ++ (S.free ++ gone S ns)).Perm (upto S.vals.length)
  vals : ValsAre S ns rows
  none : ∀ x, 0 ≤ x → x ∉ ns → S.valAt x = none
  count : S.count = rows.length

structure Inv (S : LS) (M : Mn) (ns : List Int) (t : Nat) : Prop where
  rep : Rep S ns M.rows
  nd : M.rows.Nodup
  low : ∀ r ∈ M.rows, 100 ≤ r ∧ r < 100 + (t : Int)
  cur : (S.cursor = -1 ∧ M.at_ = none) ∨ (0 ≤ S.cursor ∧ ∃ a, M.at_ = some a ∧ a < 100 + (t : Int) ∧ ((S.cursor ∈ ns ∧ S.valAt S.cursor = some a) ∨ (S.cursor ∉ ns ∧ a ∉ M.rows)))
  place : S.place = M.place
  flags : S.flags = M.flags
  fl : 0 ≤ M.flags ∧ M.flags ≤ 3
  size : S.vals.length ≤ t
  most : M.most ≤ S.vals.length
  most' : (S.vals.length : Int) ≤ max M.most ((ns.length : Int) + (gone S ns).length)

theorem all2_length {α β : Type} {R : α → β → Prop} {l : List α} {m : List β} (h : All2 R l m) : l.length = m.length := by
  induction h with
  | nil => rfl
  | cons _ _ ih => rw [List.length_cons, List.length_cons, ih]
end Mine

namespace Mine
open PySem
def insAt (k : Nat) (x : Int) (rows : List Int) : List Int := rows.take k ++ x :: rows.drop k
def addK (M : Mn) (j : Int) : Int := if 1 < M.flags then (M.rows.length : Int) - 1 - j else j
def Mn.added (M : Mn) (j x : Int) : Mn := { M with rows := if j = M.rows.length then M.rows ++ [x] else insAt (addK M j).toNat x M.rows }
def Mn.dropped (M : Mn) (j : Int) : Mn := { M with at_ := if M.at_ = M.rows[(addK M j).toNat]? then none else M.at_, rows := M.rows.eraseIdx (addK M j).toNat }
def Mn.rewound (M : Mn) : Mn :=
  { M with place := if 1 < M.flags then (M.rows.length : Int) - 1 else 0, at_ := if M.rows = [] then none else M.rows[(if 1 < M.flags then (M.rows.length : Int) - 1 else 0).toNat]? }
def stepOf (f : Int) : Int := if 1 < f then -1 else 1
def Mn.stepAt (M : Mn) (a st : Int) : Option Int :=
  if a ∈ M.rows ∧ 0 ≤ (M.rows.idxOf a : Int) + st ∧ (M.rows.idxOf a : Int) + st < M.rows.length then M.rows[((M.rows.idxOf a : Int) + st).toNat]? else none
def Mn.stepRows (M : Mn) (f : Int) : List Int := if f.fmod 2 = 1 ∧ M.rows ≠ [] then (if stepOf f = 1 then M.rows.tail else M.rows.dropLast) else M.rows
def Mn.stepped (M : Mn) (f : Int) : Mn := match M.at_ with
  | none => M
  | some a => { M with at_ := M.stepAt a (stepOf f), place := if stepOf f = -1 ∨ f.fmod 2 = 0 then M.place + stepOf f else M.place, rows := M.stepRows f }
def endsS (deed : Int) (S : LS) (x : Int) : LS := if deed = 0 then S.push x else if deed = 1 then S.unshift x else if deed = 2 then S.pop else S.shift
def endsR (deed : Int) (rows : List Int) (x : Int) : List Int := if deed = 0 then rows ++ [x] else if deed = 1 then x :: rows else if deed = 2 then rows.dropLast else rows.tail
end Mine

namespace Mine
open PySem
theorem get_set {α : Type} {l : List α} {k j : Nat} {v d : α} (h : k < l.length) : (l.set k v).getD j d = if j = k then v else l.getD j d := by
  rw [List.getD_eq_getElem?_getD, List.getD_eq_getElem?_getD, List.getElem?_set]
  by_cases q : k = j
  · subst q; simp [h]
  · have : ¬ j = k := fun e => q e.symm
    simp [q, this]
theorem lk_set {α : Type} {l : List α} {k x : Int} {v d : α} (h0 : 0 ≤ k) (h : k < l.length) (hx : 0 ≤ x) : (l.set k.toNat v).getD x.toNat d = if x = k then v else l.getD x.toNat d := by
  rw [get_set (by omega)]
  by_cases q : x = k
  · subst q; simp
  · have : ¬ x.toNat = k.toNat := by omega
    simp [q, this]
theorem lk_app {α : Type} {l : List α} {x : Int} {v d : α} (hx : 0 ≤ x) : (l ++ [v]).getD x.toNat d = if x = l.length then v else l.getD x.toNat d := by
  simp only [List.getD_eq_getElem?_getD]
  by_cases q : x = l.length
  · subst q; simp
  · rcases Int.lt_or_le x l.length with p | p
    · rw [List.getElem?_append_left (by omega)]; simp [q]
    · rw [List.getElem?_append_right (by omega)]
      have : x.toNat - l.length = (x.toNat - l.length - 1) + 1 := by omega
      rw [this, List.getElem?_eq_none (l := l) (by omega)]; simp [q]
section
variable {w w2 : List Int} {a b c : Int} {l m : List Int}
theorem Seg.nn (s : Seg w a l b) : ∀ x ∈ l, 0 ≤ x := by
  induction s with
  | nil => intro x hx; cases hx
  | cons h _ ih => intro x hx; rcases List.mem_cons.mp hx with e | e; · omega
                   · exact ih x e
theorem Seg.app (s : Seg w a l b) (s2 : Seg w b m c) : Seg w a (l ++ m) c := by
  induction s with
  | nil => exact s2
  | cons h _ ih => exact .cons h (ih s2)
theorem Seg.spl : ∀ {l : List Int} {a : Int}, Seg w a (l ++ m) c → ∃ b, Seg w a l b ∧ Seg w b m c
  | [], a, s => ⟨a, .nil, s⟩
  | x :: l, a, s => by
    cases s with
    | cons h s =>
      obtain ⟨b, s1, s2⟩ := Seg.spl s
      exact ⟨b, .cons h s1, s2⟩
theorem Seg.hdD (s : Seg w a l b) : a = l.headD b := by
  cases s <;> rfl
theorem Seg.fr (s : Seg w a l b) (h : ∀ x ∈ l, w2.getD x.toNat (-1) = w.getD x.toNat (-1)) : Seg w2 a l b := by
  induction s with
  | nil => exact .nil
  | cons h0 _ ih =>
    refine .cons h0 ?_
    rw [h _ (List.mem_cons_self ..)]
    exact ih fun x hx => h x (List.mem_cons_of_mem _ hx)
theorem Seg.nxt {n : Int} (s : Seg w a (l ++ n :: m) b) : w.getD n.toNat (-1) = m.headD b := by
  obtain ⟨c, _, s2⟩ := Seg.spl s
  cases s2 with
  | cons h s3 => exact s3.hdD
/-- the end of a list turned to another -/
theorem Seg.rel {v d : Int} : ∀ {l : List Int} {a : Int}, Seg w a l b → l.Nodup → (∀ x ∈ l, w2.getD x.toNat (-1) = if x = l.reverse.headD d then v else w.getD x.toNat (-1)) → Seg w2 (if l = [] then v else a) l v
  | [], a, s, _, _ => by simp; exact .nil
  | [x], a, s, _, h => by
    cases s with
    | cons h0 s =>
      rw [if_neg (by simp)]
      refine .cons h0 ?_
      rw [h x (by simp)]
      simp; exact .nil
  | x :: y :: l, a, s, nd, h => by
    cases s with
    | cons h0 s =>
      rw [if_neg (by simp)]
      refine .cons h0 ?_
      have e : ∀ d', (x :: y :: l).reverse.headD d' = (y :: l).reverse.headD d := by
        intro d'
        rcases List.eq_nil_or_concat (y :: l) with q | ⟨f, n, q⟩
        · cases q
        · rw [List.reverse_cons, q]; simp
      have hm : (y :: l).reverse.headD d ∈ y :: l := by
        rcases List.eq_nil_or_concat (y :: l) with q | ⟨f, n, q⟩
        · cases q
        · rw [q]; simp
      have nd' := List.nodup_cons.mp nd
      have hx := h x (by simp)
      rw [e, if_neg (by intro q; rw [← q] at hm; exact nd'.1 hm)] at hx
      rw [hx]
      have := Seg.rel (v := v) (d := d) s nd'.2 (fun z hz => by rw [h z (List.mem_cons_of_mem _ hz), e])
      simpa using this
theorem Seg.ins {n : Int} (s : Seg w a (l ++ m) (-1)) (nd : (l ++ m).Nodup) (hn : n ∉ l ++ m) (h0 : 0 ≤ n) (hm : m.headD (-1) ≠ n)
    (h : ∀ x, 0 ≤ x → w2.getD x.toNat (-1) = if x = n then m.headD (-1) else if x = l.reverse.headD (-1) then n else w.getD x.toNat (-1)) : Seg w2 (if l = [] then n else a) (l ++ n :: m) (-1) := by
  obtain ⟨b, s1, s2⟩ := Seg.spl s
  have nn := s.nn
  have nd' := List.nodup_append.mp nd
  have hl : ∀ x ∈ l, x ≠ n := fun x hx e => hn (by subst e; exact List.mem_append_left _ hx)
  have hr : ∀ x ∈ m, x ≠ n := fun x hx e => hn (by subst e; exact List.mem_append_right _ hx)
  refine (Seg.rel (v := n) (d := -1) s1 nd'.1 fun x hx => ?_).app (.cons h0 ?_)
  · rw [h x (nn x (List.mem_append_left _ hx)), if_neg (hl x hx)]
  · rw [h n h0, if_pos rfl, ← s2.hdD]
    refine s2.fr fun x hx => ?_
    rw [h x (nn x (List.mem_append_right _ hx)), if_neg (hr x hx), if_neg]
    intro e
    have x0 := nn x (List.mem_append_right _ hx)
    rcases List.eq_nil_or_concat l with q | ⟨f, z, q⟩
    · rw [q] at e; simp at e; omega
    · rw [q] at e; simp at e
      exact nd'.2.2 x (by rw [q, e]; simp) x hx rfl
theorem Seg.del {n : Int} (s : Seg w a (l ++ n :: m) (-1)) (nd : (l ++ n :: m).Nodup)
    (h : ∀ x, 0 ≤ x → w2.getD x.toNat (-1) = if x = n then -1 else if x = l.reverse.headD (-1) then m.headD (-1) else w.getD x.toNat (-1)) : Seg w2 (if l = [] then m.headD (-1) else a) (l ++ m) (-1) := by
  obtain ⟨b, s1, s2⟩ := Seg.spl s
  have nn := s.nn
  have nd' := List.nodup_append.mp nd
  have nd2 := List.nodup_cons.mp nd'.2.1
  have hl : ∀ x ∈ l, x ≠ n := fun x hx e => nd'.2.2 x hx n (by simp) e
  cases s2 with
  | cons h0 s3 =>
    refine (Seg.rel (v := m.headD (-1)) (d := -1) s1 nd'.1 fun x hx => ?_).app ?_
    · rw [h x (nn x (List.mem_append_left _ hx)), if_neg (hl x hx)]
    · rw [← s3.hdD]
      refine s3.fr fun x hx => ?_
      have x0 := nn x (List.mem_append_right _ (List.mem_cons_of_mem _ hx))
      rw [h x x0, if_neg (by intro e; subst e; exact nd2.1 hx), if_neg]
      intro e
      rcases List.eq_nil_or_concat l with q | ⟨f, z, q⟩
      · rw [q] at e; simp at e; omega
      · rw [q] at e; simp at e
        exact nd'.2.2 x (by rw [q, e]; simp) x (List.mem_cons_of_mem _ hx) rfl
theorem Seg.walk : ∀ {l : List Int} {a : Int}, Seg w a l (-1) → ∀ k : Nat, walkN w k a = l.getD k (-1)
  | [], _, s, k => by
    cases s
    cases k <;> simp [walkN]
  | x :: l, _, s, 0 => by cases s; simp [walkN]
  | x :: l, _, s, k + 1 => by
    cases s with
    | cons h0 s => simp only [walkN, if_pos h0, List.getD_cons_succ]; exact Seg.walk s k
end
theorem valsAre_iff {S : LS} : ∀ {ns rows : List Int}, ValsAre S ns rows ↔ ns.map S.valAt = rows.map some
  | [], [] => ⟨fun _ => rfl, fun _ => .nil⟩
  | [], y :: m => Iff.intro (fun h => nomatch h) (fun h => nomatch h)
  | x :: l, [] => Iff.intro (fun h => nomatch h) (fun h => nomatch h)
  | x :: l, y :: m => by
    rw [List.map_cons, List.map_cons, List.cons.injEq]
    exact ⟨fun h => by cases h with | cons a b => exact ⟨a, valsAre_iff.mp b⟩, fun h => .cons h.1 (valsAre_iff.mpr h.2)⟩
end Mine

namespace Mine
open PySem
theorem mem_upto {n : Nat} {x : Int} : x ∈ upto n ↔ 0 ≤ x ∧ x < n := by
  unfold upto
  rw [List.mem_map]
  constructor
  · rintro ⟨i, hi, e⟩
    have := List.mem_range.mp hi
    omega
  · rintro ⟨h, k⟩
    exact ⟨x.toNat, List.mem_range.mpr (by omega), by omega⟩
theorem upto_nodup (n : Nat) : (upto n).Nodup := by
  unfold upto
  refine List.pairwise_map.mpr ?_
  exact (List.nodup_range (n := n)).imp fun h e => h (by omega)
theorem upto_len (n : Nat) : (upto n).length = n := by simp [upto]
theorem upto_succ (n : Nat) : upto (n + 1) = upto n ++ [(n : Int)] := by
  simp [upto, List.range_succ]
section
variable {S : LS} {ns rows : List Int}
theorem Rep.nds (r : Rep S ns rows) : (ns ++ (S.free ++ gone S ns)).Nodup := r.all.nodup_iff.mpr (upto_nodup _)
theorem Rep.nd (r : Rep S ns rows) : ns.Nodup := (List.nodup_append.mp r.nds).1
theorem Rep.inn (r : Rep S ns rows) (x : Int) : (x ∈ ns ∨ x ∈ S.free ∨ x ∈ gone S ns) ↔ 0 ≤ x ∧ x < S.vals.length := by
  rw [← mem_upto, ← r.all.mem_iff, List.mem_append, List.mem_append]
theorem Rep.lens (r : Rep S ns rows) : ns.length + S.free.length + (gone S ns).length = S.vals.length := by
  have := r.all.length_eq
  rw [upto_len, List.length_append, List.length_append] at this
  omega
theorem Rep.rl (r : Rep S ns rows) : ns.length = rows.length := all2_length r.vals
theorem Rep.vs (r : Rep S ns rows) : ns.map S.valAt = rows.map some := valsAre_iff.mp r.vals
theorem Rep.bd (r : Rep S ns rows) : ∀ x ∈ ns, 0 ≤ x ∧ x < S.vals.length := fun x hx => (r.inn x).mp (.inl hx)
theorem Rep.nofree (r : Rep S ns rows) {x : Int} (h : x ∈ ns) : x ∉ S.free := fun q => (List.nodup_append.mp r.nds).2.2 x h x (List.mem_append_left _ q) rfl
theorem headD_neg {l : List Int} (h : ∀ x ∈ l, 0 ≤ x) : l.headD (-1) < 0 ↔ l = [] := by
  cases l with
  | nil => simp
  | cons a l => have := h a (by simp); simp; omega
theorem headD_mem {l : List Int} : l.headD (-1) = -1 ∨ l.headD (-1) ∈ l := by
  cases l <;> simp
theorem wf_of {S1 S' : LS} (w : WF S1) (ev : S'.vals.length = S1.vals.length) (ec : S'.cursor = S1.cursor) (ef : S'.free = S1.free) (hh : -1 ≤ S'.head ∧ S'.head < S1.vals.length) (ht : -1 ≤ S'.tail ∧ S'.tail < S1.vals.length)
    (ln : S'.nexts.length = S1.nexts.length) (lp : S'.prevs.length = S1.prevs.length) (bn : ∀ x ∈ S'.nexts, -1 ≤ x ∧ x < (S1.vals.length : Int)) (bp : ∀ x ∈ S'.prevs, -1 ≤ x ∧ x < (S1.vals.length : Int)) : WF S' :=
  { nx := by rw [ln, ev]; exact w.nx, pv := by rw [lp, ev]; exact w.pv, len := by rw [ev]; exact w.len, head := by rw [ev]; exact hh, tail := by rw [ev]; exact ht, cursor := by rw [ev, ec]; exact w.cursor,
    free := by rw [ef]; exact w.free, frees := by rw [ef, ev]; exact w.frees, nexts := by rw [ev]; exact bn, prevs := by rw [ev]; exact bp }
/-- the parts of a line with one node gone -/
theorem unlink_eqs (S : LS) (n : Int) : (S.unlink n).vals = S.vals.set n.toNat none ∧
    (S.unlink n).nexts = (if S.prevs.getD n.toNat (-1) < 0 then S.nexts else S.nexts.set (S.prevs.getD n.toNat (-1)).toNat (S.nexts.getD n.toNat (-1))).set n.toNat (-1) ∧
    (S.unlink n).prevs = (if S.nexts.getD n.toNat (-1) < 0 then S.prevs else S.prevs.set (S.nexts.getD n.toNat (-1)).toNat (S.prevs.getD n.toNat (-1))).set n.toNat (-1) ∧
    (S.unlink n).head = (if S.prevs.getD n.toNat (-1) < 0 then S.nexts.getD n.toNat (-1) else S.head) ∧
    (S.unlink n).tail = (if S.nexts.getD n.toNat (-1) < 0 then S.prevs.getD n.toNat (-1) else S.tail) ∧
    (S.unlink n).count = S.count - 1 ∧ (S.unlink n).cursor = S.cursor ∧ (S.unlink n).place = S.place ∧ (S.unlink n).flags = S.flags ∧
    (S.unlink n).free = if n = S.cursor then S.free else S.free ++ [n] := by
  unfold LS.unlink
  generalize S.prevs.getD n.toNat (-1) = ahead
  generalize S.nexts.getD n.toNat (-1) = behind
  by_cases h1 : ahead < 0 <;> by_cases h2 : behind < 0 <;> by_cases h3 : n = S.cursor <;> simp [h1, h2, h3]
theorem unl_lk {w : List Int} {n a b x : Int} (h0 : 0 ≤ n) (hn : n < w.length) (ha : a < w.length) (hx : 0 ≤ x) :
    ((if a < 0 then w else w.set a.toNat b).set n.toNat (-1)).getD x.toNat (-1) = if x = n then -1 else if x = a then b else w.getD x.toNat (-1) := by
  have hl : (if a < 0 then w else w.set a.toNat b).length = w.length := by split <;> simp
  rw [lk_set h0 (by rw [hl]; exact hn) hx]
  by_cases q : x = n
  · rw [if_pos q, if_pos q]
  · rw [if_neg q, if_neg q]
    by_cases p : a < 0
    · rw [if_pos p, if_neg (by omega)]
    · rw [if_neg p, lk_set (by omega) ha hx]
theorem gone_nil {c : LS} {l : List Int} (h : c.cursor < 0 ∨ c.cursor ∈ l) : gone c l = [] := by
  unfold gone
  rw [if_neg]
  rintro ⟨a, b⟩
  rcases h with h | h
  · omega
  · exact b h
theorem Rep.del {pre post rp rq : List Int} {n v : Int} (r : Rep S (pre ++ n :: post) (rp ++ v :: rq)) (hl : pre.length = rp.length) : Rep (S.unlink n) (pre ++ post) (rp ++ rq) := by
  have hn := r.bd n (by simp)
  have nn : ∀ x ∈ pre ++ n :: post, 0 ≤ x := fun x hx => (r.bd x hx).1
  have nd := r.nd
  have hr : (pre ++ n :: post).reverse = post.reverse ++ n :: pre.reverse := by simp
  have bw := r.bwd
  rw [hr] at bw
  have ndr : (post.reverse ++ n :: pre.reverse).Nodup := by rw [← hr]; exact (List.reverse_perm _).nodup_iff.mpr nd
  have eb := r.fwd.nxt
  have ea := bw.nxt
  obtain ⟨u1, u2, u3, u4, u5, u6, u7, u8, u9, u10⟩ := unlink_eqs S n
  rw [ea, eb] at u2 u3 u4 u5
  have npre : ∀ x ∈ pre.reverse, 0 ≤ x := fun x hx => nn x (List.mem_append_left _ (List.mem_reverse.mp hx))
  have npost : ∀ x ∈ post, 0 ≤ x := fun x hx => nn x (List.mem_append_right _ (List.mem_cons_of_mem _ hx))
  have ba := getD_bound r.wf.prevs (by omega) n.toNat
  have bb := getD_bound r.wf.nexts (by omega) n.toNat
  rw [ea] at ba
  rw [eb] at bb
  have lnx := r.wf.nx
  have lpv := r.wf.pv
  have pn : ∀ x, 0 ≤ x → (S.unlink n).nexts.getD x.toNat (-1) = if x = n then -1 else if x = pre.reverse.headD (-1) then post.headD (-1) else S.nexts.getD x.toNat (-1) := by
    intro x hx
    rw [u2]
    exact unl_lk hn.1 (by omega) (by omega) hx
  have pp : ∀ x, 0 ≤ x → (S.unlink n).prevs.getD x.toNat (-1) = if x = n then -1 else if x = post.headD (-1) then pre.reverse.headD (-1) else S.prevs.getD x.toNat (-1) := by
    intro x hx
    rw [u3]
    exact unl_lk hn.1 (by omega) (by omega) hx
  have nd' := List.nodup_append.mp nd
  have nd2 := List.nodup_cons.mp nd'.2.1
  have nin : n ∉ pre ++ post := by
    intro q
    rcases List.mem_append.mp q with q | q
    · exact nd'.2.2 n q n (by simp) rfl
    · exact nd2.1 q
  have free100 : S.free.length < 100 := by
    have := r.lens
    have := r.wf.len
    simp at *
    omega
  have vv : ∀ x, 0 ≤ x → (S.unlink n).valAt x = if x = n then Option.none else S.valAt x := by
    intro x hx
    unfold LS.valAt
    rw [u1, lk_set hn.1 (by omega) hx]
  have vs := r.vs
  rw [List.map_append, List.map_append, List.map_cons, List.map_cons] at vs
  obtain ⟨v1, v2⟩ := List.append_inj vs (by simpa using hl)
  obtain ⟨v3, v4⟩ := List.cons.inj v2
  exact {
    wf := unlink_wf r.wf hn.1 hn.2 free100
    fwd := by
      have := Seg.del (w2 := (S.unlink n).nexts) r.fwd nd pn
      rw [u4]
      have e : (pre.reverse.headD (-1) < 0) = (pre = []) := by rw [headD_neg npre]; simp
      rw [show (if pre.reverse.headD (-1) < 0 then post.headD (-1) else S.head) = if pre = [] then post.headD (-1) else S.head by simp only [e]]
      exact this
    bwd := by
      have := Seg.del (w2 := (S.unlink n).prevs) bw ndr (by rw [List.reverse_reverse]; exact pp)
      rw [u5, List.reverse_append]
      have e : (post.headD (-1) < 0) = (post.reverse = []) := by rw [headD_neg npost]; simp
      rw [show (if post.headD (-1) < 0 then pre.reverse.headD (-1) else S.tail) = if post.reverse = [] then pre.reverse.headD (-1) else S.tail by simp only [e]]
      exact this
    off := by
      intro x hx hni
      by_cases q : x = n
      · rw [pn x hx, pp x hx, if_pos q, if_pos q]; exact ⟨rfl, rfl⟩
      · have hni2 : x ∉ pre ++ n :: post := by
          intro p
          rcases List.mem_append.mp p with p | p
          · exact hni (List.mem_append_left _ p)
          · rcases List.mem_cons.mp p with p | p
            · exact q p
            · exact hni (List.mem_append_right _ p)
        have o := r.off x hx hni2
        rw [pn x hx, pp x hx, if_neg q, if_neg q, if_neg, if_neg]
        · exact o
        · intro e
          rcases headD_mem (l := post) with p | p
          · omega
          · rw [← e] at p; exact hni (List.mem_append_right _ p)
        · intro e
          rcases headD_mem (l := pre.reverse) with p | p
          · omega
          · rw [← e] at p; exact hni (List.mem_append_left _ (List.mem_reverse.mp p))
    all := by
      have hlen : (S.unlink n).vals.length = S.vals.length := by rw [u1]; simp
      rw [hlen]
      refine List.Perm.trans ?_ r.all
      rw [u10]
      by_cases q : n = S.cursor
      · rw [if_pos q]
        have g1 : gone S (pre ++ n :: post) = [] := gone_nil (.inr (by rw [← q]; simp))
        have g2 : gone (S.unlink n) (pre ++ post) = [n] := by
          unfold gone
          rw [u7, ← q, if_pos ⟨hn.1, nin⟩]
        rw [g1, g2, List.append_nil, List.append_assoc, List.append_assoc]
        refine List.Perm.append_left _ ?_
        rw [← List.append_assoc]
        exact List.perm_append_singleton _ _
      · rw [if_neg q]
        have g : gone (S.unlink n) (pre ++ post) = gone S (pre ++ n :: post) := by
          unfold gone
          rw [u7]
          have : (S.cursor ∉ pre ++ post) = (S.cursor ∉ pre ++ n :: post) := by
            have q' : ¬ S.cursor = n := fun e => q e.symm
            simp [q']
          simp only [this]
        rw [g, List.append_assoc, List.append_assoc pre, List.append_assoc S.free]
        refine List.Perm.append_left _ ?_
        show (post ++ (S.free ++ ([n] ++ gone S (pre ++ n :: post)))).Perm ([n] ++ (post ++ (S.free ++ gone S (pre ++ n :: post))))
        rw [← List.append_assoc post, ← List.append_assoc (post ++ S.free), ← List.append_assoc post, ← List.append_assoc [n]]
        exact List.Perm.append_right _ (List.perm_append_singleton _ _)
    vals := by
      refine valsAre_iff.mpr ?_
      have e : ∀ l : List Int, (∀ x ∈ l, x ∈ pre ++ post) → l.map (S.unlink n).valAt = l.map S.valAt := by
        intro l h
        refine List.map_congr_left fun x hx => ?_
        have hx2 := h x hx
        rw [vv x, if_neg]
        · intro e; subst e; exact nin hx2
        · rcases List.mem_append.mp hx2 with p | p
          · exact nn x (List.mem_append_left _ p)
          · exact npost x p
      rw [List.map_append, List.map_append, e pre (fun x hx => List.mem_append_left _ hx), e post (fun x hx => List.mem_append_right _ hx), v1, v4]
    none := by
      intro x hx hni
      rw [vv x hx]
      by_cases q : x = n
      · rw [if_pos q]
      · rw [if_neg q]
        refine r.none x hx ?_
        intro p
        rcases List.mem_append.mp p with p | p
        · exact hni (List.mem_append_left _ p)
        · rcases List.mem_cons.mp p with p | p
          · exact q p
          · exact hni (List.mem_append_right _ p)
    count := by
      have := r.count
      rw [u6, this]
      simp
      omega }
end
end Mine

namespace Mine
open PySem
section
variable {S S' : LS} {ns rows : List Int}
/-- what a new node is -/
structure New (S : LS) (ns : List Int) (x n : Int) (S1 : LS) : Prop where
  eq : S.newNode x = (n, S1)
  wf : WF S1
  out : n ∉ ns
  nn : 0 ≤ n
  cur : n ≠ S.cursor
  bd : n < S1.vals.length
  nx : ∀ y : Int, 0 ≤ y → S1.nexts.getD y.toNat (-1) = S.nexts.getD y.toNat (-1)
  pv : ∀ y : Int, 0 ≤ y → S1.prevs.getD y.toNat (-1) = S.prevs.getD y.toNat (-1)
  head : S1.head = S.head
  tail : S1.tail = S.tail
  count : S1.count = S.count
  flags : S1.flags = S.flags
  cursor : S1.cursor = S.cursor
  place : S1.place = S.place
  vals : ∀ y : Int, 0 ≤ y → S1.valAt y = if y = n then some x else S.valAt y
  all : (n :: (ns ++ (S1.free ++ gone S ns))).Perm (upto S1.vals.length)
  len : S1.vals.length = S.vals.length ∨ (S1.vals.length = S.vals.length + 1 ∧ S.free = [])
theorem Rep.new (r : Rep S ns rows) (hz : S.vals.length < 100) (x : Int) : ∃ n S1, New S ns x n S1 := by
  have w := newNode_wf (x := x) r.wf hz
  rcases snoc_cases S.free with hf | ⟨f, n, hf⟩
  · rw [newNode_nil hf] at w
    refine ⟨_, _, newNode_nil hf, w, ?_, Int.natCast_nonneg _, ?_, ?_, ?_, ?_, rfl, rfl, rfl, rfl, rfl, rfl, ?_, ?_, ?_⟩
    · intro q; have := r.bd _ q; omega
    · intro q; have := r.wf.cursor; omega
    · simp; omega
    · intro y hy
      show (S.nexts ++ [-1]).getD _ _ = _
      rw [lk_app hy]
      split
      · rename_i q
        rw [q, List.getD_eq_getElem?_getD, List.getElem?_eq_none]
        · rfl
        · have := r.wf.nx; omega
      · rfl
    · intro y hy
      show (S.prevs ++ [-1]).getD _ _ = _
      rw [lk_app hy]
      split
      · rename_i q
        rw [q, List.getD_eq_getElem?_getD, List.getElem?_eq_none]
        · rfl
        · have := r.wf.nx; omega
      · rfl
    · intro y hy
      show (S.vals ++ [some x]).getD _ _ = _
      rw [lk_app hy]
      rfl
    · have a := r.all
      rw [hf] at a
      show (_ :: (ns ++ (S.free ++ gone S ns))).Perm (upto (S.vals ++ [some x]).length)
      rw [hf, List.length_append, List.length_singleton, upto_succ]
      exact (List.Perm.cons _ a).trans (List.perm_append_singleton _ _).symm
    · right
      exact ⟨by simp, hf⟩
  · rw [newNode_snoc hf] at w
    have hn := r.wf.frees n (by rw [hf]; simp)
    refine ⟨_, _, newNode_snoc hf, w, ?_, hn.1, ?_, ?_, fun _ _ => rfl, fun _ _ => rfl, rfl, rfl, rfl, rfl, rfl, rfl, ?_, ?_, ?_⟩
    · intro q; exact r.nofree q (by rw [hf]; simp)
    · intro q
      have nd := r.nds
      by_cases p : S.cursor ∈ ns
      · exact r.nofree (q ▸ p) (by rw [hf]; simp)
      · have : n ∈ gone S ns := by
          unfold gone
          rw [if_pos ⟨by omega, p⟩, q]
          simp
        exact (List.nodup_append.mp (List.nodup_append.mp nd).2.1).2.2 n (by rw [hf]; simp) n this rfl
    · simp; exact hn.2
    · intro y hy
      show (S.vals.set n.toNat (some x)).getD _ _ = _
      rw [lk_set hn.1 hn.2 hy]
      rfl
    · have a := r.all
      rw [hf] at a
      show (_ :: (ns ++ (f ++ gone S ns))).Perm (upto (S.vals.set n.toNat (some x)).length)
      rw [List.length_set]
      refine List.Perm.trans ?_ a
      rw [← List.append_assoc ns, ← List.append_assoc ns, ← List.append_assoc ns]
      exact List.Perm.append_right _ (List.perm_append_singleton _ _).symm
    · left; simp
/-- a node put between two parts of a line -/
structure Insd (S S' : LS) (pre post rp rq : List Int) (n v : Int) : Prop where
  rep : Rep S' (pre ++ n :: post) (rp ++ v :: rq)
  nn : 0 ≤ n
  out : n ∉ pre ++ post
  cur : n ≠ S.cursor
  cursor : S'.cursor = S.cursor
  place : S'.place = S.place
  flags : S'.flags = S.flags
  vals : ∀ y : Int, 0 ≤ y → S'.valAt y = if y = n then some v else S.valAt y
  len : S'.vals.length = S.vals.length ∨ (S'.vals.length = S.vals.length + 1 ∧ S.free = [])
theorem Rep.ins {pre post rp rq : List Int} {n v : Int} {S1 : LS} (r : Rep S (pre ++ post) (rp ++ rq)) (hl : pre.length = rp.length) (w : New S (pre ++ post) v n S1) (wf : WF S')
    (en : ∀ x, 0 ≤ x → S'.nexts.getD x.toNat (-1) = if x = n then post.headD (-1) else if x = pre.reverse.headD (-1) then n else S.nexts.getD x.toNat (-1))
    (ep : ∀ x, 0 ≤ x → S'.prevs.getD x.toNat (-1) = if x = n then pre.reverse.headD (-1) else if x = post.headD (-1) then n else S.prevs.getD x.toNat (-1))
    (eh : S'.head = if pre = [] then n else S.head) (et : S'.tail = if post = [] then n else S.tail)
    (ev : S'.vals = S1.vals) (ef : S'.free = S1.free) (ec : S'.count = S.count + 1) (eu : S'.cursor = S.cursor) (epl : S'.place = S.place) (efl : S'.flags = S.flags) : Insd S S' pre post rp rq n v := by
  have nd := r.nd
  have nn : ∀ x ∈ pre ++ post, 0 ≤ x := fun x hx => (r.bd x hx).1
  have hr : (pre ++ post).reverse = post.reverse ++ pre.reverse := by simp
  have bw := r.bwd
  rw [hr] at bw
  have ndr : (post.reverse ++ pre.reverse).Nodup := by rw [← hr]; exact (List.reverse_perm _).nodup_iff.mpr nd
  have vv : ∀ y, 0 ≤ y → S'.valAt y = if y = n then some v else S.valAt y := by
    intro y hy
    rw [← w.vals y hy]
    unfold LS.valAt
    rw [ev]
  have vs := r.vs
  rw [List.map_append, List.map_append] at vs
  obtain ⟨v1, v2⟩ := List.append_inj vs (by simpa using hl)
  have npost : post.headD (-1) ≠ n := by
    intro e
    rcases headD_mem (l := post) with p | p
    · have := w.nn; omega
    · rw [e] at p; exact w.out (List.mem_append_right _ p)
  have npre : pre.reverse.headD (-1) ≠ n := by
    intro e
    rcases headD_mem (l := pre.reverse) with p | p
    · have := w.nn; omega
    · rw [e] at p; exact w.out (List.mem_append_left _ (List.mem_reverse.mp p))
  have mem3 : ∀ x, x ∈ pre ++ n :: post ↔ x = n ∨ x ∈ pre ++ post := by
    intro x
    simp only [List.mem_append, List.mem_cons]
    constructor
    · rintro (h | h | h)
      · exact .inr (.inl h)
      · exact .inl h
      · exact .inr (.inr h)
    · rintro (h | h | h)
      · exact .inr (.inl h)
      · exact .inl h
      · exact .inr (.inr h)
  refine ⟨?_, w.nn, w.out, w.cur, eu, epl, efl, vv, by rw [ev]; exact w.len⟩
  exact {
    wf := wf
    fwd := by
      rw [eh]
      exact Seg.ins r.fwd nd w.out w.nn npost en
    bwd := by
      rw [et, show (pre ++ n :: post).reverse = post.reverse ++ n :: pre.reverse by simp]
      have := Seg.ins bw ndr (by intro q; exact w.out (by rw [← hr] at q; exact List.mem_reverse.mp q)) w.nn npre (w2 := S'.prevs) (by rw [List.reverse_reverse]; exact ep)
      simpa using this
    off := by
      intro x hx hni
      rw [mem3] at hni
      have q : x ≠ n := fun e => hni (.inl e)
      have o := r.off x hx fun e => hni (.inr e)
      rw [en x hx, ep x hx, if_neg q, if_neg q, if_neg, if_neg]
      · exact o
      · intro e
        rcases headD_mem (l := post) with p | p
        · omega
        · rw [← e] at p; exact hni (.inr (List.mem_append_right _ p))
      · intro e
        rcases headD_mem (l := pre.reverse) with p | p
        · omega
        · rw [← e] at p; exact hni (.inr (List.mem_append_left _ (List.mem_reverse.mp p)))
    all := by
      rw [ev, ef]
      refine List.Perm.trans ?_ w.all
      have g : gone S' (pre ++ n :: post) = gone S (pre ++ post) := by
        unfold gone
        rw [eu]
        have : (S.cursor ∉ pre ++ n :: post) = (S.cursor ∉ pre ++ post) := by
          rw [mem3]
          simp [w.cur.symm]
        simp only [this]
      rw [g, List.append_assoc, List.append_assoc]
      show (pre ++ n :: (post ++ _)).Perm (n :: (pre ++ _))
      exact List.perm_middle
    vals := by
      refine valsAre_iff.mpr ?_
      have e : ∀ l : List Int, (∀ x ∈ l, x ∈ pre ++ post) → l.map S'.valAt = l.map S.valAt := by
        intro l h
        refine List.map_congr_left fun x hx => ?_
        have hx2 := h x hx
        rw [vv x (nn x hx2), if_neg]
        intro e; subst e; exact w.out hx2
      rw [List.map_append, List.map_append, List.map_cons, List.map_cons, e pre (fun x hx => List.mem_append_left _ hx), e post (fun x hx => List.mem_append_right _ hx), v1, v2, vv n w.nn, if_pos rfl]
    none := by
      intro x hx hni
      rw [mem3] at hni
      rw [vv x hx, if_neg fun e => hni (.inl e)]
      exact r.none x hx fun e => hni (.inr e)
    count := by
      rw [ec, r.count]
      simp
      omega }
theorem Rep.hdE (r : Rep S ns rows) : S.head = ns.headD (-1) := r.fwd.hdD
theorem Rep.tlE (r : Rep S ns rows) : S.tail = ns.reverse.headD (-1) := r.bwd.hdD
theorem Rep.tl_neg (r : Rep S ns rows) : S.tail < 0 ↔ ns = [] := by
  rw [r.tlE, headD_neg fun x hx => (r.bd x (List.mem_reverse.mp hx)).1]
  simp
theorem Rep.hd_neg (r : Rep S ns rows) : S.head < 0 ↔ ns = [] := by
  rw [r.hdE, headD_neg fun x hx => (r.bd x hx).1]
theorem Rep.pushed (r : Rep S ns rows) (hz : S.vals.length < 100) (x : Int) : ∃ n, Insd S (S.push x) ns [] rows [] n x := by
  obtain ⟨n, S1, w⟩ := r.new hz x
  refine ⟨n, ?_⟩
  have w' : New S (ns ++ []) x n S1 := by simpa using w
  refine Rep.ins (S1 := S1) (by simpa using r) r.rl w' (push_wf r.wf hz) ?_ ?_ ?_ ?_ ?_ ?_ ?_ ?_ ?_ ?_
  · intro y hy
    have ep : (S.push x).nexts = if S.tail < 0 then S1.nexts else S1.nexts.set S.tail.toNat n := by
      unfold LS.push
      rw [w.eq]
      simp only [w.tail]
      split <;> rfl
    rw [ep, ← r.tlE]
    have o := r.off n w.nn w.out
    have hb := r.wf.tail
    have hx := w.wf.nx
    have hlen : S.vals.length ≤ S1.vals.length := by rcases w.len with h | h <;> omega
    have key : (if S.tail < 0 then S1.nexts else S1.nexts.set S.tail.toNat n).getD y.toNat (-1) = if y = S.tail then n else S.nexts.getD y.toNat (-1) := by
      by_cases q : S.tail < 0
      · rw [if_pos q, if_neg (by omega)]; exact w.nx y hy
      · rw [if_neg q, lk_set (by omega) (by omega) hy, w.nx y hy]
    rw [key]
    by_cases p : y = n
    · rw [if_pos p, if_neg, p, o.1]
      · rfl
      · rw [p, r.tlE]
        intro e
        rcases headD_mem (l := ns.reverse) with p | p
        · have := w.nn; omega
        · rw [← e] at p; exact w.out (List.mem_reverse.mp p)
    · rw [if_neg p]
  · intro y hy
    have ep : (S.push x).prevs = S1.prevs.set n.toNat S.tail := by
      unfold LS.push
      rw [w.eq]
      simp only [w.tail]
      split <;> rfl
    rw [ep, lk_set w.nn (by have := w.wf.pv; have := w.bd; omega) hy, ← r.tlE, w.pv y hy]
    by_cases p : y = n
    · rw [if_pos p, if_pos p]
    · rw [if_neg p, if_neg p, if_neg]
      simp; omega
  · have := r.tl_neg
    unfold LS.push
    rw [w.eq]
    simp only [w.tail]
    by_cases q : ns = []
    · rw [if_pos q, if_pos (this.mpr q)]
    · rw [if_neg q, if_neg (fun e => q (this.mp e))]; exact w.head
  · unfold LS.push
    rw [w.eq]
    simp
  · rw [push_len, w.eq]
  · unfold LS.push
    rw [w.eq]
    simp only [w.tail]
    split <;> rfl
  · unfold LS.push
    rw [w.eq]
    simp only [w.tail]
    rw [← w.count]
    split <;> rfl
  · unfold LS.push
    rw [w.eq]
    simp only [w.tail]
    rw [← w.cursor]
    split <;> rfl
  · unfold LS.push
    rw [w.eq]
    simp only [w.tail]
    rw [← w.place]
    split <;> rfl
  · unfold LS.push
    rw [w.eq]
    simp only [w.tail]
    rw [← w.flags]
    split <;> rfl
theorem Rep.unshifted (r : Rep S ns rows) (hz : S.vals.length < 100) (x : Int) : ∃ n, Insd S (S.unshift x) [] ns [] rows n x := by
  obtain ⟨n, S1, w⟩ := r.new hz x
  refine ⟨n, ?_⟩
  have hlen : S.vals.length ≤ S1.vals.length := by rcases w.len with h | h <;> omega
  have hx := w.wf.nx
  have hp := w.wf.pv
  have hb := r.wf.head
  have hb1 := w.bd
  have hb0 := w.nn
  have e1 : (S.unshift x).nexts = S1.nexts.set n.toNat S.head := by
    unfold LS.unshift
    rw [w.eq]
    simp only [w.head]
    split <;> rfl
  have e2 : (S.unshift x).prevs = if S.head < 0 then S1.prevs else S1.prevs.set S.head.toNat n := by
    unfold LS.unshift
    rw [w.eq]
    simp only [w.head]
    split <;> rfl
  have e3 : (S.unshift x).vals = S1.vals := by
    unfold LS.unshift
    rw [w.eq]
    simp only
    split <;> rfl
  have e4 : (S.unshift x).tail = if S.head < 0 then n else S.tail := by
    unfold LS.unshift
    rw [w.eq]
    simp only [w.head]
    rw [← w.tail]
    split <;> rfl
  have e5 : (S.unshift x).head = n := by
    unfold LS.unshift
    rw [w.eq]
  have e6 : (S.unshift x).cursor = S1.cursor := by
    unfold LS.unshift
    rw [w.eq]
    simp only
    split <;> rfl
  have e7 : (S.unshift x).free = S1.free := by
    unfold LS.unshift
    rw [w.eq]
    simp only
    split <;> rfl
  have wf : WF (S.unshift x) := by
    refine wf_of w.wf (by rw [e3]) e6 e7 (by rw [e5]; omega) ?_ (by rw [e1]; simp) (by rw [e2]; split <;> simp) ?_ ?_
    · rw [e4]
      split
      · omega
      · have := r.wf.tail; omega
    · rw [e1]; exact set_bound w.wf.nexts (by omega) _
    · rw [e2]
      split
      · exact w.wf.prevs
      · exact set_bound w.wf.prevs (by omega) _
  refine Rep.ins (pre := []) (rp := []) (S1 := S1) (by simpa using r) rfl w wf ?_ ?_ ?_ ?_ ?_ ?_ ?_ ?_ ?_ ?_
  · intro y hy
    rw [e1, lk_set w.nn (by omega) hy, ← r.hdE, w.nx y hy]
    by_cases p : y = n
    · rw [if_pos p, if_pos p]
    · rw [if_neg p, if_neg p, if_neg]
      simp; omega
  · intro y hy
    rw [e2, ← r.hdE]
    have o := r.off n w.nn w.out
    have key : (if S.head < 0 then S1.prevs else S1.prevs.set S.head.toNat n).getD y.toNat (-1) = if y = S.head then n else S.prevs.getD y.toNat (-1) := by
      by_cases q : S.head < 0
      · rw [if_pos q, if_neg (by omega)]; exact w.pv y hy
      · rw [if_neg q, lk_set (by omega) (by omega) hy, w.pv y hy]
    rw [key]
    by_cases p : y = n
    · rw [if_pos p, if_neg, p, o.2]
      · rfl
      · rw [p, r.hdE]
        intro e
        rcases headD_mem (l := ns) with p | p
        · have := w.nn; omega
        · rw [← e] at p; exact w.out p
    · rw [if_neg p]
  · rw [e5]; simp
  · rw [e4]
    have := r.hd_neg
    by_cases q : ns = []
    · rw [if_pos q, if_pos (this.mpr q)]
    · rw [if_neg q, if_neg (fun e => q (this.mp e))]
  · exact e3
  · exact e7
  · unfold LS.unshift
    rw [w.eq]
    simp only
    rw [← w.count]
    split <;> rfl
  · rw [e6]; exact w.cursor
  · unfold LS.unshift
    rw [w.eq]
    simp only
    rw [← w.place]
    split <;> rfl
  · unfold LS.unshift
    rw [w.eq]
    simp only
    rw [← w.flags]
    split <;> rfl
theorem Rep.inserted {pre post rp rq : List Int} (r : Rep S (pre ++ post) (rp ++ rq)) (hl : pre.length = rp.length) (h1 : pre ≠ []) (h2 : post ≠ []) (hz : S.vals.length < 100) (x : Int) :
    ∃ n, Insd S (S.insert (pre.reverse.headD (-1)) (post.headD (-1)) x) pre post rp rq n x := by
  obtain ⟨n, S1, w⟩ := r.new hz x
  refine ⟨n, ?_⟩
  have hlen : S.vals.length ≤ S1.vals.length := by rcases w.len with h | h <;> omega
  have hx := w.wf.nx
  have hp := w.wf.pv
  have hb1 := w.bd
  have hb0 := w.nn
  have ma : pre.reverse.headD (-1) ∈ pre := by
    rcases List.eq_nil_or_concat pre with q | ⟨f, z, q⟩
    · exact absurd q h1
    · rw [q]; simp
  have mb : post.headD (-1) ∈ post := by
    cases post with
    | nil => exact absurd rfl h2
    | cons a l => simp
  have ba := r.bd _ (List.mem_append_left _ ma)
  have bb := r.bd _ (List.mem_append_right _ mb)
  have na : pre.reverse.headD (-1) ≠ n := fun e => w.out (List.mem_append_left _ (e ▸ ma))
  have nb : post.headD (-1) ≠ n := fun e => w.out (List.mem_append_right _ (e ▸ mb))
  have o := r.off n w.nn w.out
  refine Rep.ins (S1 := S1) r hl w ?_ ?_ ?_ ?_ ?_ ?_ ?_ ?_ ?_ ?_ ?_
  all_goals
    unfold LS.insert
    rw [w.eq]
  · generalize pre.reverse.headD (-1) = a at *
    generalize post.headD (-1) = b at *
    have h1 := w.wf.head
    have h2 := w.wf.tail
    exact wf_of w.wf rfl rfl rfl h1 h2 (by simp) (by simp) (set_bound (set_bound w.wf.nexts (by omega) _) (by omega) _) (set_bound (set_bound w.wf.prevs (by omega) _) (by omega) _)
  · intro y hy
    generalize pre.reverse.headD (-1) = a at *
    generalize post.headD (-1) = b at *
    show ((S1.nexts.set n.toNat b).set a.toNat n).getD _ _ = _
    rw [lk_set ba.1 (by simp; omega) hy, lk_set hb0 (by omega) hy, w.nx y hy]
    by_cases p : y = n
    · rw [if_pos p, if_neg (by omega), if_pos p]
    · rw [if_neg p, if_neg p]
  · intro y hy
    generalize pre.reverse.headD (-1) = a at *
    generalize post.headD (-1) = b at *
    show ((S1.prevs.set n.toNat a).set b.toNat n).getD _ _ = _
    rw [lk_set bb.1 (by simp; omega) hy, lk_set hb0 (by omega) hy, w.pv y hy]
    by_cases p : y = n
    · rw [if_pos p, if_neg (by omega), if_pos p]
    · rw [if_neg p, if_neg p]
  · rw [if_neg h1]; exact w.head
  · rw [if_neg h2]; exact w.tail
  · show S1.count + 1 = _
    rw [w.count]
  · exact w.cursor
  · exact w.place
  · exact w.flags
end
end Mine

namespace Mine
open PySem
section
variable {S S' : LS} {ns rows : List Int} {M : Mn} {t : Nat}
theorem Rep.re (r : Rep S ns rows) (wf : WF S') (e1 : S'.vals = S.vals) (e2 : S'.nexts = S.nexts) (e3 : S'.prevs = S.prevs) (e4 : S'.head = S.head) (e5 : S'.tail = S.tail) (e6 : S'.count = S.count)
    (ea : (S'.free ++ gone S' ns).Perm (S.free ++ gone S ns)) : Rep S' ns rows := by
  have ev : S'.valAt = S.valAt := by funext x; unfold LS.valAt; rw [e1]
  exact { wf := wf, fwd := by rw [e2, e4]; exact r.fwd, bwd := by rw [e3, e5]; exact r.bwd, off := by rw [e2, e3]; exact r.off, all := by rw [e1]; exact (List.Perm.append_left _ ea).trans r.all,
          vals := by unfold ValsAre; rw [ev]; exact r.vals, none := by rw [ev]; exact r.none, count := by rw [e6]; exact r.count }
theorem Rep.valIn (r : Rep S ns rows) {n : Int} (h : n ∈ ns) : ∃ x, x ∈ rows ∧ S.valAt n = some x := by
  have : S.valAt n ∈ ns.map S.valAt := List.mem_map.mpr ⟨n, h, rfl⟩
  rw [r.vs] at this
  obtain ⟨x, hx, e⟩ := List.mem_map.mp this
  exact ⟨x, hx, e.symm⟩
theorem stand_eqs (S : LS) (n : Int) : (S.standOn n).vals = S.vals ∧ (S.standOn n).nexts = S.nexts ∧ (S.standOn n).prevs = S.prevs ∧ (S.standOn n).head = S.head ∧ (S.standOn n).tail = S.tail ∧ (S.standOn n).count = S.count ∧
    (S.standOn n).cursor = n ∧ (S.standOn n).place = S.place ∧ (S.standOn n).flags = S.flags := by
  unfold LS.standOn
  simp only
  split <;> exact ⟨rfl, rfl, rfl, rfl, rfl, rfl, rfl, rfl, rfl⟩
theorem Rep.standFree (r : Rep S ns rows) {n : Int} (h : n = -1 ∨ n ∈ ns) : (S.standOn n).free = S.free ++ gone S ns ∧ gone (S.standOn n) ns = [] := by
  constructor
  · unfold LS.standOn gone
    simp only
    by_cases c : 0 ≤ S.cursor ∧ S.cursor ≠ n ∧ S.valAt S.cursor = Option.none
    · rw [if_pos c, if_pos]
      refine ⟨c.1, fun q => ?_⟩
      obtain ⟨x, _, e⟩ := r.valIn q
      rw [e] at c
      exact absurd c.2.2 (by simp)
    · rw [if_neg c, if_neg]
      · simp
      · rintro ⟨c0, c1⟩
        refine c ⟨c0, ?_, r.none _ c0 c1⟩
        intro e
        rcases h with h | h
        · omega
        · exact c1 (e ▸ h)
  · refine gone_nil ?_
    rw [(stand_eqs S n).2.2.2.2.2.2.1]
    rcases h with h | h
    · left; omega
    · exact .inr h
theorem Rep.stood (r : Rep S ns rows) {n : Int} (h : n = -1 ∨ n ∈ ns) : Rep (S.standOn n) ns rows := by
  obtain ⟨e1, e2, e3, e4, e5, e6, e7, e8, e9⟩ := stand_eqs S n
  obtain ⟨f1, f2⟩ := r.standFree h
  have w := r.wf
  have hl := r.lens
  refine r.re ?_ e1 e2 e3 e4 e5 e6 (by rw [f1, f2, List.append_nil])
  exact { nx := by rw [e1, e2]; exact w.nx, pv := by rw [e1, e3]; exact w.pv, len := by rw [e1]; exact w.len, head := by rw [e1, e4]; exact w.head, tail := by rw [e1, e5]; exact w.tail,
          cursor := by
            rw [e1, e7]
            rcases h with h | h
            · omega
            · have := r.bd n h; omega
          free := by rw [f1, List.length_append]; have := w.len; omega
          frees := by
            rw [f1, e1]
            intro x hx
            refine (r.inn x).mp ?_
            rcases List.mem_append.mp hx with q | q
            · exact .inr (.inl q)
            · exact .inr (.inr q)
          nexts := by rw [e1, e2]; exact w.nexts, prevs := by rw [e1, e3]; exact w.prevs }
theorem inj_of {α β : Type} {f : α → β} : ∀ {l : List α}, (l.map f).Nodup → ∀ x ∈ l, ∀ y ∈ l, f x = f y → x = y
  | [], _, x, hx, _, _, _ => by cases hx
  | a :: l, nd, x, hx, y, hy, e => by
    rw [List.map_cons, List.nodup_cons] at nd
    rcases List.mem_cons.mp hx with p | p <;> rcases List.mem_cons.mp hy with q | q
    · rw [p, q]
    · subst p; exact absurd (List.mem_map.mpr ⟨y, q, e.symm⟩) nd.1
    · subst q; exact absurd (List.mem_map.mpr ⟨x, p, e⟩) nd.1
    · exact inj_of nd.2 x p y q e
theorem Inv.inj (i : Inv S M ns t) {x y : Int} (hx : x ∈ ns) (hy : y ∈ ns) (e : S.valAt x = S.valAt y) : x = y := by
  refine inj_of (f := S.valAt) ?_ x hx y hy e
  rw [i.rep.vs]
  exact List.pairwise_map.mpr (i.nd.imp fun h q => h (Option.some.inj q))
theorem Inv.up' (i : Inv S M ns t) : Inv S M ns (t + 1) where
  rep := i.rep
  nd := i.nd
  low := fun r hr => by have := i.low r hr; omega
  cur := by
    rcases i.cur with h | ⟨h0, a, h1, h2, h3⟩
    · exact .inl h
    · exact .inr ⟨h0, a, h1, by omega, h3⟩
  place := i.place
  flags := i.flags
  fl := i.fl
  size := by have := i.size; omega
  most := i.most
  most' := i.most'
theorem Inv.placed (i : Inv S M ns t) (p : Int) : Inv { S with place := p } { M with place := p } ns t where
  rep := i.rep.re (wf_of i.rep.wf rfl rfl rfl i.rep.wf.head i.rep.wf.tail rfl rfl i.rep.wf.nexts i.rep.wf.prevs) rfl rfl rfl rfl rfl rfl (List.Perm.refl _)
  nd := i.nd
  low := i.low
  cur := i.cur
  place := rfl
  flags := i.flags
  fl := i.fl
  size := i.size
  most := i.most
  most' := i.most'
theorem Inv.flag (i : Inv S M ns t) {f : Int} (h0 : 0 ≤ f) (h1 : f ≤ 3) : Inv { S with flags := f } { M with flags := f } ns t where
  rep := i.rep.re (wf_of i.rep.wf rfl rfl rfl i.rep.wf.head i.rep.wf.tail rfl rfl i.rep.wf.nexts i.rep.wf.prevs) rfl rfl rfl rfl rfl rfl (List.Perm.refl _)
  nd := i.nd
  low := i.low
  cur := i.cur
  place := i.place
  flags := rfl
  fl := ⟨h0, h1⟩
  size := i.size
  most := i.most
  most' := i.most'
theorem Inv.stood (i : Inv S M ns t) (hm : M.most = S.vals.length) {n : Int} {a : Option Int} (h : (n = -1 ∧ a = none) ∨ (n ∈ ns ∧ S.valAt n = a)) : Inv (S.standOn n) { M with at_ := a } ns t := by
  obtain ⟨e1, e2, e3, e4, e5, e6, e7, e8, e9⟩ := stand_eqs S n
  exact {
    rep := i.rep.stood (h.imp And.left And.left)
    nd := i.nd
    low := i.low
    cur := by
      rw [e7]
      rcases h with h | h
      · exact .inl h
      · right
        obtain ⟨x, hx, e⟩ := i.rep.valIn h.1
        refine ⟨(i.rep.bd n h.1).1, x, by rw [← h.2, e], (i.low x hx).2, .inl ⟨h.1, ?_⟩⟩
        show (S.standOn n).vals.getD _ _ = _
        rw [e1]
        exact e
    place := by rw [e8]; exact i.place
    flags := by rw [e9]; exact i.flags
    fl := i.fl
    size := by rw [e1]; exact i.size
    most := by rw [e1]; exact i.most
    most' := by
      rw [e1]
      show (_ : Int) ≤ max M.most _
      omega }
theorem Inv.left (i : Inv S M ns t) (h : S.cursor ∈ ns) : Inv { S with cursor := -1 } { M with at_ := none } ns t := by
  have g1 : gone S ns = [] := gone_nil (.inr h)
  have g2 : gone { S with cursor := -1 } ns = [] := gone_nil (.inl (by show (-1 : Int) < 0; omega))
  have w := i.rep.wf
  exact {
    rep := i.rep.re { nx := w.nx, pv := w.pv, len := w.len, head := w.head, tail := w.tail, cursor := ⟨by show (-1 : Int) ≤ -1; omega, by show (-1 : Int) < (S.vals.length : Int); omega⟩, free := w.free, frees := w.frees, nexts := w.nexts, prevs := w.prevs } rfl rfl rfl rfl rfl rfl
      (by rw [g1, g2])
    nd := i.nd
    low := i.low
    cur := .inl ⟨rfl, rfl⟩
    place := i.place
    flags := i.flags
    fl := i.fl
    size := i.size
    most := i.most
    most' := by
      have := i.most'
      rw [g1] at this
      rw [g2]
      exact this }
theorem unlink_len (S : LS) (n : Int) : (S.unlink n).vals.length = S.vals.length := by rw [(unlink_eqs S n).1]; simp
theorem nodup_mid {l m : List Int} {v : Int} (h : (l ++ v :: m).Nodup) : (l ++ m).Nodup ∧ v ∉ l ++ m := by
  have h2 := (List.perm_middle (l₁ := l) (a := v) (l₂ := m)).nodup_iff.mp h
  exact ⟨(List.nodup_cons.mp h2).2, (List.nodup_cons.mp h2).1⟩
theorem Inv.cut {pre post rp rq : List Int} {n v : Int} (i : Inv S M (pre ++ n :: post) t) (hm : M.most = S.vals.length) (hr : M.rows = rp ++ v :: rq) (hl : pre.length = rp.length) :
    Inv (S.unlink n) { M with rows := rp ++ rq } (pre ++ post) t := by
  obtain ⟨u1, u2, u3, u4, u5, u6, u7, u8, u9, u10⟩ := unlink_eqs S n
  have r := i.rep
  rw [hr] at r
  have r' := r.del hl
  have hnd := i.nd
  rw [hr] at hnd
  obtain ⟨nd1, nd2⟩ := nodup_mid hnd
  have nns := nodup_mid r.nd
  have hlow := i.low
  rw [hr] at hlow
  have vs := r.vs
  rw [List.map_append, List.map_append, List.map_cons, List.map_cons] at vs
  obtain ⟨v1, v2⟩ := List.append_inj vs (by simpa using hl)
  obtain ⟨v3, v4⟩ := List.cons.inj v2
  have hn := r.bd n (by simp)
  have sub : ∀ x, x ∈ rp ++ rq → x ∈ rp ++ v :: rq := by
    intro x hx
    rcases List.mem_append.mp hx with q | q
    · exact List.mem_append_left _ q
    · exact List.mem_append_right _ (List.mem_cons_of_mem _ q)
  exact {
    rep := r'
    nd := nd1
    low := fun x hx => hlow x (sub x hx)
    cur := by
      rw [u7]
      rcases i.cur with h | ⟨h0, a, h1, h2, h3⟩
      · exact .inl h
      · refine .inr ⟨h0, a, h1, h2, ?_⟩
        by_cases q : S.cursor = n
        · right
          rw [q]
          refine ⟨nns.2, ?_⟩
          rcases h3 with ⟨_, h4⟩ | ⟨h4, _⟩
          · rw [q, v3] at h4
            have := Option.some.inj h4
            subst this
            exact nd2
          · rw [q] at h4; exact absurd (by simp) h4
        · rcases h3 with ⟨h4, h5⟩ | ⟨h4, h5⟩
          · left
            constructor
            · rcases List.mem_append.mp h4 with p | p
              · exact List.mem_append_left _ p
              · rcases List.mem_cons.mp p with p | p
                · exact absurd p q
                · exact List.mem_append_right _ p
            · unfold LS.valAt
              rw [u1, lk_set hn.1 (by omega) h0, if_neg q]
              exact h5
          · right
            rw [hr] at h5
            refine ⟨fun p => h4 ?_, fun p => h5 (sub a p)⟩
            rcases List.mem_append.mp p with q | q
            · exact List.mem_append_left _ q
            · exact List.mem_append_right _ (List.mem_cons_of_mem _ q)
    place := by rw [u8]; exact i.place
    flags := by rw [u9]; exact i.flags
    fl := i.fl
    size := by rw [unlink_len]; exact i.size
    most := by rw [unlink_len]; exact i.most
    most' := by
      rw [unlink_len]
      show (_ : Int) ≤ max M.most _
      omega }
theorem Inv.put {pre post rp rq : List Int} {n : Int} (i : Inv S M (pre ++ post) t) (hm : M.most = S.vals.length) (hr : M.rows = rp ++ rq) (d : Insd S S' pre post rp rq n (100 + t)) :
    Inv S' { M with rows := rp ++ (100 + (t : Int)) :: rq } (pre ++ n :: post) (t + 1) := by
  have hlow := i.low
  rw [hr] at hlow
  have hnd := i.nd
  rw [hr] at hnd
  have hx : (100 + (t : Int)) ∉ rp ++ rq := fun q => by have := hlow _ q; omega
  have r := i.rep
  exact {
    rep := d.rep
    nd := (List.perm_middle (l₁ := rp) (a := (100 + (t : Int))) (l₂ := rq)).nodup_iff.mpr (List.nodup_cons.mpr ⟨hx, hnd⟩)
    low := by
      intro x h
      have h2 := (List.perm_middle (l₁ := rp) (a := (100 + (t : Int))) (l₂ := rq)).mem_iff.mp h
      rcases List.mem_cons.mp h2 with q | q
      · omega
      · have := hlow x q; omega
    cur := by
      rw [d.cursor]
      rcases i.cur with h | ⟨h0, a, h1, h2, h3⟩
      · exact .inl h
      · refine .inr ⟨h0, a, h1, by omega, ?_⟩
        rw [(List.perm_middle (l₁ := pre) (a := n) (l₂ := post)).mem_iff, List.mem_cons]
        show (_ ∧ _) ∨ (_ ∧ a ∉ rp ++ (100 + (t : Int)) :: rq)
        rw [(List.perm_middle (l₁ := rp) (a := (100 + (t : Int))) (l₂ := rq)).mem_iff, List.mem_cons, d.vals _ h0, if_neg d.cur.symm]
        rcases h3 with ⟨h4, h5⟩ | ⟨h4, h5⟩
        · exact .inl ⟨.inr h4, h5⟩
        · rw [hr] at h5
          refine .inr ⟨?_, ?_⟩
          · rintro (q | q)
            · exact d.cur q.symm
            · exact h4 q
          · rintro (q | q)
            · omega
            · exact h5 q
    place := by rw [d.place]; exact i.place
    flags := by rw [d.flags]; exact i.flags
    fl := i.fl
    size := by
      have := i.size
      rcases d.len with h | h <;> omega
    most := by
      show M.most ≤ _
      rcases d.len with h | h <;> omega
    most' := by
      show _ ≤ max M.most _
      rcases d.len with h | ⟨h, h2⟩
      · omega
      · have hl := r.lens
        have g : gone S' (pre ++ n :: post) = gone S (pre ++ post) := by
          unfold gone
          rw [d.cursor]
          have : (S.cursor ∉ pre ++ n :: post) = (S.cursor ∉ pre ++ post) := by
            rw [(List.perm_middle (l₁ := pre) (a := n) (l₂ := post)).mem_iff, List.mem_cons]
            simp [d.cur.symm]
          simp only [this]
        rw [g]
        simp [h2] at hl
        simp
        omega }
end
end Mine

namespace Mine
open PySem
section
variable {S S' : LS} {ns rows : List Int} {M : Mn} {t : Nat}
theorem back_f {f : Int} (h0 : 0 ≤ f) (h1 : f ≤ 3) : back f = decide (1 < f) := by
  obtain h | h | h | h : f = 0 ∨ f = 1 ∨ f = 2 ∨ f = 3 := by omega
  all_goals subst h; decide
theorem dele_f {f : Int} (h0 : 0 ≤ f) (h1 : f ≤ 3) : dele f = decide (f.fmod 2 = 1) := by
  obtain h | h | h | h : f = 0 ∨ f = 1 ∨ f = 2 ∨ f = 3 := by omega
  all_goals subst h; decide
theorem Rep.atW (r : Rep S ns rows) (j f : Int) : S.at j f = if back f then ns.reverse.getD j.toNat (-1) else ns.getD j.toNat (-1) := by
  unfold LS.at
  rw [r.fwd.walk, r.bwd.walk]
theorem Rep.nth (r : Rep S ns rows) {k : Nat} (hk : k < ns.length) : ∃ x, rows[k]? = some x ∧ S.valAt (ns.getD k (-1)) = some x := by
  have vs := r.vs
  have h : (ns.map S.valAt)[k]? = (rows.map some)[k]? := by rw [vs]
  rw [List.getElem?_map, List.getElem?_map, List.getElem?_eq_getElem hk, List.getElem?_eq_getElem (by rw [← r.rl]; exact hk)] at h
  refine ⟨rows[k]'(by rw [← r.rl]; exact hk), List.getElem?_eq_getElem _, ?_⟩
  rw [List.getD_eq_getElem?_getD, List.getElem?_eq_getElem hk]
  exact Option.some.inj h
theorem getD_rev {l : List Int} {k : Nat} (hk : k < l.length) : l.reverse.getD k (-1) = l.getD (l.length - 1 - k) (-1) := by
  rw [List.getD_eq_getElem?_getD, List.getD_eq_getElem?_getD, List.getElem?_reverse hk]
theorem addK_lt {j : Int} (h0 : 0 ≤ j) (h1 : j < M.rows.length) : 0 ≤ addK M j ∧ addK M j < M.rows.length := by
  unfold addK
  split <;> omega
theorem Inv.atK (i : Inv S M ns t) {j : Int} (h0 : 0 ≤ j) (h1 : j < M.rows.length) : S.at j S.flags = ns.getD (addK M j).toNat (-1) := by
  have hl := i.rep.rl
  rw [i.rep.atW, i.flags, back_f i.fl.1 i.fl.2]
  unfold addK
  by_cases q : 1 < M.flags
  · rw [if_pos (by simpa using q), if_pos q, getD_rev (by omega)]
    congr 1
    omega
  · rw [if_neg (by simpa using q), if_neg q]
theorem split_at {α : Type} {l : List α} {k : Nat} (hk : k < l.length) : l = l.take k ++ l[k] :: l.drop (k + 1) := by
  rw [← List.drop_eq_getElem_cons hk, List.take_append_drop]
end
end Mine

namespace Mine
open PySem
section
variable {S S' : LS} {ns rows : List Int} {M : Mn} {t : Nat}
theorem Inv.pushI (i : Inv S M ns t) (hm : M.most = S.vals.length) (ht : t < 50) : ∃ ns', Inv (S.push (100 + t)) { M with rows := M.rows ++ [100 + (t : Int)] } ns' (t + 1) := by
  have hs := i.size
  obtain ⟨n, d⟩ := i.rep.pushed (by omega) (100 + (t : Int))
  have i' : Inv S M (ns ++ []) t := by simpa using i
  exact ⟨_, i'.put hm (List.append_nil _).symm d⟩
theorem Inv.unshiftI (i : Inv S M ns t) (hm : M.most = S.vals.length) (ht : t < 50) : ∃ ns', Inv (S.unshift (100 + t)) { M with rows := (100 + (t : Int)) :: M.rows } ns' (t + 1) := by
  have hs := i.size
  obtain ⟨n, d⟩ := i.rep.unshifted (by omega) (100 + (t : Int))
  have i' : Inv S M ([] ++ ns) t := by simpa using i
  exact ⟨_, i'.put (rp := []) hm (List.nil_append _).symm d⟩
theorem snoc_of {α : Type} {l : List α} (h : l ≠ []) : ∃ f z, l = f ++ [z] := by
  rcases List.eq_nil_or_concat l with q | ⟨f, z, q⟩
  · exact absurd q h
  · exact ⟨f, z, by rw [q, List.concat_eq_append]⟩
theorem Rep.nil_iff (r : Rep S ns rows) : ns = [] ↔ rows = [] := by
  rw [← List.length_eq_zero_iff, r.rl, List.length_eq_zero_iff]
theorem Inv.popI (i : Inv S M ns t) (hm : M.most = S.vals.length) : Inv S.pop { M with rows := M.rows.dropLast } ns.dropLast t := by
  unfold LS.pop
  by_cases h : S.tail < 0
  · rw [if_pos h]
    have e := i.rep.tl_neg.mp h
    have e2 := i.rep.nil_iff.mp e
    subst e
    rw [e2]
    have : M = { M with rows := [] } := by rw [← e2]
    simp only [List.dropLast_nil]
    rw [← this]
    exact i
  · rw [if_neg h]
    have e : ns ≠ [] := fun q => h (i.rep.tl_neg.mpr q)
    obtain ⟨f, z, q⟩ := snoc_of e
    obtain ⟨g, v, q2⟩ := snoc_of (l := M.rows) fun p => e (i.rep.nil_iff.mpr p)
    have hz : S.tail = z := by rw [i.rep.tlE, q]; simp
    have hl := i.rep.rl
    rw [q, q2] at hl
    subst q
    have := i.cut (pre := f) (post := []) (rp := g) (rq := []) hm q2 (by simpa using hl)
    rw [hz, q2, List.dropLast_concat, List.dropLast_concat]
    simpa using this
theorem Inv.shiftI (i : Inv S M ns t) (hm : M.most = S.vals.length) : Inv S.shift { M with rows := M.rows.tail } ns.tail t := by
  unfold LS.shift
  by_cases h : S.head < 0
  · rw [if_pos h]
    have e := i.rep.hd_neg.mp h
    have e2 := i.rep.nil_iff.mp e
    subst e
    rw [e2]
    have : M = { M with rows := [] } := by rw [← e2]
    simp only [List.tail_nil]
    rw [← this]
    exact i
  · rw [if_neg h]
    have e : ns ≠ [] := fun q => h (i.rep.hd_neg.mpr q)
    have e2 : M.rows ≠ [] := fun p => e (i.rep.nil_iff.mpr p)
    cases hn : ns with
    | nil => exact absurd hn e
    | cons z f =>
      cases hr : M.rows with
      | nil => exact absurd hr e2
      | cons v g =>
        have hz : S.head = z := by rw [i.rep.hdE, hn]; rfl
        subst hn
        have := i.cut (pre := []) (post := f) (rp := []) (rq := g) hm hr rfl
        rw [hz]
        exact this
theorem Inv.nthI (i : Inv S M ns t) {j : Int} (h0 : 0 ≤ j) (h1 : j < M.rows.length) : ∃ (pre post rp rq : List Int) (n v : Int), ns = pre ++ n :: post ∧ M.rows = rp ++ v :: rq ∧ pre.length = rp.length ∧ (addK M j).toNat = rp.length ∧ S.at j S.flags = n ∧ S.valAt n = some v := by
  have hk := addK_lt h0 h1
  have hl := i.rep.rl
  have k1 : (addK M j).toNat < ns.length := by omega
  have k2 : (addK M j).toNat < M.rows.length := by omega
  obtain ⟨x, e1, e2⟩ := i.rep.nth k1
  have e3 := i.atK h0 h1
  refine ⟨_, _, _, _, _, _, split_at k1, split_at k2, ?_, ?_, ?_, ?_⟩
  · rw [List.length_take, List.length_take]; omega
  · rw [List.length_take]; omega
  · rw [e3, List.getD_eq_getElem?_getD, List.getElem?_eq_getElem k1]; rfl
  · rw [List.getD_eq_getElem?_getD, List.getElem?_eq_getElem k1] at e2
    rw [List.getElem?_eq_getElem k2] at e1
    rw [e1]
    exact e2
theorem Inv.addedI (i : Inv S M ns t) (hm : M.most = S.vals.length) (ht : t < 50) {j : Int} (h0 : 0 ≤ j) (h1 : j ≤ M.rows.length) : ∃ ns', Inv (S.add j (100 + t)) (M.added j (100 + t)) ns' (t + 1) := by
  have hs := i.size
  unfold LS.add Mn.added
  rw [i.rep.count]
  by_cases h : (M.rows.length : Int) ≤ j
  · rw [if_pos h, if_pos (by omega)]
    exact i.pushI hm ht
  · have hj : ¬ j = (M.rows.length : Int) := by omega
    rw [if_neg h, if_neg hj]
    obtain ⟨pre, post, rp, rq, n, v, e1, e2, e3, e4, e5, e6⟩ := i.nthI h0 (by omega)
    simp only
    rw [e5, e4]
    have bw := i.rep.bwd
    rw [e1, List.reverse_append, List.reverse_cons, List.append_assoc] at bw
    have en : S.prevs.getD n.toNat (-1) = pre.reverse.headD (-1) := Seg.nxt (l := post.reverse) bw
    rw [en]
    have npre : ∀ x ∈ pre.reverse, 0 ≤ x := fun x hx => (i.rep.bd x (by rw [e1]; exact List.mem_append_left _ (List.mem_reverse.mp hx))).1
    have ei : insAt rp.length (100 + (t : Int)) M.rows = rp ++ (100 + (t : Int)) :: (v :: rq) := by
      unfold insAt
      rw [e2, List.take_left, List.drop_left]
    rw [ei]
    by_cases q : pre.reverse.headD (-1) < 0
    · rw [if_pos q]
      have p : pre = [] := by simpa using (headD_neg npre).mp q
      have p2 : rp = [] := by rw [p] at e3; exact List.length_eq_zero_iff.mp e3.symm
      rw [p2, List.nil_append]
      rw [p2, List.nil_append] at e2
      rw [← e2]
      exact i.unshiftI hm ht
    · rw [if_neg q]
      have p : pre ≠ [] := fun e => q (by rw [e]; decide)
      have r := i.rep
      rw [e1, e2] at r
      obtain ⟨k, d⟩ := r.inserted e3 p (by simp) (by omega) (100 + (t : Int))
      subst e1
      exact ⟨_, i.put hm e2 d⟩
theorem Inv.onIt (i : Inv S M ns t) {n v : Int} (hn : n ∈ ns) (hv : S.valAt n = some v) : n = S.cursor ↔ M.at_ = some v := by
  have hb := i.rep.bd n hn
  obtain ⟨w, hw, e⟩ := i.rep.valIn hn
  rw [hv] at e
  have := Option.some.inj e
  subst this
  rcases i.cur with ⟨c1, c2⟩ | ⟨c0, a, c1, c2, c3⟩
  · rw [c1, c2]
    constructor
    · intro h; omega
    · intro h; cases h
  · rw [c1]
    constructor
    · intro h
      rw [← h] at c3
      rcases c3 with ⟨_, h2⟩ | ⟨h2, _⟩
      · rw [← h2, hv]
      · exact absurd hn h2
    · intro h
      have := Option.some.inj h
      subst this
      rcases c3 with ⟨h1, h2⟩ | ⟨_, h2⟩
      · exact i.inj hn h1 (by rw [hv, h2])
      · exact absurd hw h2
theorem Inv.droppedI (i : Inv S M ns t) (hm : M.most = S.vals.length) {j : Int} (h0 : 0 ≤ j) (h1 : j < M.rows.length) : ∃ ns', Inv (S.drop j) (M.dropped j) ns' (t + 1) := by
  obtain ⟨pre, post, rp, rq, n, v, e1, e2, e3, e4, e5, e6⟩ := i.nthI h0 h1
  unfold LS.drop Mn.dropped
  simp only
  rw [e5, e4]
  have hn : n ∈ ns := by rw [e1]; simp
  have ee : M.rows.eraseIdx rp.length = rp ++ rq := by
    rw [e2, List.eraseIdx_append_of_length_le (Nat.le_refl _), Nat.sub_self]; rfl
  have ev : M.rows[rp.length]? = some v := by
    rw [e2, List.getElem?_append_right (Nat.le_refl _), Nat.sub_self]; rfl
  rw [ee, ev]
  have io := i.onIt hn e6
  subst e1
  by_cases q : n = S.cursor
  · rw [if_pos q, if_pos (io.mp q)]
    have il := i.left (by rw [← q]; exact hn)
    exact ⟨_, (il.cut (n := n) hm e2 e3).up'⟩
  · rw [if_neg q, if_neg fun p => q (io.mpr p)]
    exact ⟨_, (i.cut (n := n) hm e2 e3).up'⟩
end
end Mine

namespace Mine
open PySem
section
variable {S S' : LS} {ns rows : List Int} {M : Mn} {t : Nat}
theorem getD_in {l : List Int} {k : Nat} (hk : k < l.length) : l.getD k (-1) ∈ l := by
  rw [List.getD_eq_getElem?_getD, List.getElem?_eq_getElem hk]
  exact List.getElem_mem hk
theorem Rep.tlS (r : Rep S ns rows) (h : ns ≠ []) : S.tail = ns.getD (ns.length - 1) (-1) := by
  have hl : 0 < ns.length := List.length_pos_iff.mpr h
  rw [r.tlE]
  have := getD_rev (l := ns) (k := 0) hl
  rw [Nat.sub_zero] at this
  rw [← this]
  cases ns.reverse <;> rfl
theorem Rep.hdS (r : Rep S ns rows) : S.head = ns.getD 0 (-1) := by
  rw [r.hdE]
  cases ns <;> rfl
theorem Rep.fitK (r : Rep S ns rows) {k : Nat} (hk : k < ns.length) : ns.getD k (-1) ∈ ns ∧ S.valAt (ns.getD k (-1)) = rows[k]? := by
  obtain ⟨x, e1, e2⟩ := r.nth hk
  exact ⟨getD_in hk, by rw [e2, e1]⟩
theorem Inv.rewoundI (i : Inv S M ns t) (hm : M.most = S.vals.length) : Inv S.rewind M.rewound ns t := by
  have hl := i.rep.rl
  unfold LS.rewind Mn.rewound
  have hc := i.rep.count
  have eb : back S.flags = decide (1 < M.flags) := by rw [i.flags, back_f i.fl.1 i.fl.2]
  rw [eb, ← hc]
  have key : ∀ p : Int, 0 ≤ p → ∀ n : Int, (ns = [] → n = -1) → (ns ≠ [] → p < ns.length ∧ n = ns.getD p.toNat (-1)) → ∀ q : Int, (ns ≠ [] → q = p) →
      (n = -1 ∧ (if M.rows = [] then none else M.rows[q.toNat]?) = none) ∨ (n ∈ ns ∧ S.valAt n = (if M.rows = [] then none else M.rows[q.toNat]?)) := by
    intro p hp n h1 h2 q hq
    by_cases e : ns = []
    · left
      exact ⟨h1 e, by rw [if_pos (i.rep.nil_iff.mp e)]⟩
    · right
      obtain ⟨h3, h4⟩ := h2 e
      have := i.rep.fitK (k := p.toNat) (by omega)
      rw [if_neg fun c => e (i.rep.nil_iff.mpr c), hq e, h4]
      exact this
  by_cases q : 1 < M.flags
  · rw [if_pos (by simpa using q), if_pos q]
    refine (i.placed (S.count - 1)).stood hm (key (((ns.length - 1 : Nat)) : Int) (by omega) _ ?_ ?_ _ ?_)
    · intro e
      show S.tail = _
      rw [i.rep.tlE, e]; rfl
    · intro e
      have := List.length_pos_iff.mpr e
      refine ⟨by omega, ?_⟩
      show S.tail = _
      rw [i.rep.tlS e]
      rfl
    · intro e
      have := List.length_pos_iff.mpr e
      omega
  · rw [if_neg (by simpa using q), if_neg q]
    refine (i.placed 0).stood hm (key 0 (by omega) _ ?_ ?_ _ ?_)
    · intro e
      show S.head = _
      rw [i.rep.hdE, e]; rfl
    · intro e
      have := List.length_pos_iff.mpr e
      refine ⟨by omega, ?_⟩
      show S.head = _
      rw [i.rep.hdS]
      rfl
    · intro e
      rfl
theorem idx_mid {rp rq : List Int} {a : Int} (nd : (rp ++ a :: rq).Nodup) : (rp ++ a :: rq).idxOf a = rp.length := by
  have : a ∉ rp := fun h => (List.nodup_append.mp nd).2.2 a h a (by simp) rfl
  rw [List.idxOf_append, if_neg this, List.idxOf_cons_self]
  omega
theorem stepAt_up {rp rq : List Int} {a : Int} (nd : M.rows.Nodup) (e : M.rows = rp ++ a :: rq) : M.stepAt a 1 = rq.head? := by
  unfold Mn.stepAt
  rw [e] at nd ⊢
  rw [idx_mid nd]
  cases rq with
  | nil => rw [if_neg]; · rfl
           · rintro ⟨_, _, h⟩; simp at h
  | cons b l =>
    rw [if_pos]
    · have : ((rp.length : Int) + 1).toNat = rp.length + 1 := by omega
      rw [this, List.getElem?_append_right (by omega)]
      simp
    · refine ⟨by simp, by omega, by simp; omega⟩
theorem stepAt_dn {rp rq : List Int} {a : Int} (nd : M.rows.Nodup) (e : M.rows = rp ++ a :: rq) : M.stepAt a (-1) = rp.reverse.head? := by
  unfold Mn.stepAt
  rw [e] at nd ⊢
  rw [idx_mid nd]
  rcases snoc_cases rp with q | ⟨f, z, q⟩
  · subst q
    rw [if_neg]
    · rfl
    · rintro ⟨_, h, _⟩; simp at h
  · subst q
    rw [if_pos]
    · have : (((f ++ [z]).length : Int) + -1).toNat = f.length := by simp; omega
      rw [this, List.append_assoc, List.getElem?_append_right (by omega)]
      simp
    · refine ⟨by simp, by simp; omega, by simp; omega⟩
theorem stepAt_no {a st : Int} (h : a ∉ M.rows) : M.stepAt a st = none := by
  unfold Mn.stepAt
  rw [if_neg fun c => h c.1]
end
end Mine

namespace Mine
open PySem
section
variable {S S' : LS} {ns rows : List Int} {M : Mn} {t : Nat}
theorem unlink_val {h x y : Int} (h0 : 0 ≤ h) (h1 : h < S.vals.length) (hx : 0 ≤ x) (e : (S.unlink h).valAt x = some y) : S.valAt x = some y := by
  unfold LS.valAt at e ⊢
  rw [(unlink_eqs S h).1, lk_set h0 h1 hx] at e
  split at e
  · cases e
  · exact e
theorem Rep.popVal (r : Rep S ns rows) {x y : Int} (hx : 0 ≤ x) (e : S.pop.valAt x = some y) : S.valAt x = some y := by
  unfold LS.pop at e
  by_cases h : S.tail < 0
  · rw [if_pos h] at e; exact e
  · rw [if_neg h] at e; exact unlink_val (by omega) r.wf.tail.2 hx e
theorem Rep.shiftVal (r : Rep S ns rows) {x y : Int} (hx : 0 ≤ x) (e : S.shift.valAt x = some y) : S.valAt x = some y := by
  unfold LS.shift at e
  by_cases h : S.head < 0
  · rw [if_pos h] at e; exact e
  · rw [if_neg h] at e; exact unlink_val (by omega) r.wf.head.2 hx e
theorem pop_len (S : LS) : S.pop.vals.length = S.vals.length := by
  unfold LS.pop
  split
  · rfl
  · exact unlink_len ..
theorem shift_len (S : LS) : S.shift.vals.length = S.vals.length := by
  unfold LS.shift
  split
  · rfl
  · exact unlink_len ..
/-- the list cut at a node of it -/
theorem Rep.cutAt (r : Rep S ns rows) {n : Int} (hn : n ∈ ns) : ∃ (pre post rp rq : List Int) (v : Int), ns = pre ++ n :: post ∧ rows = rp ++ v :: rq ∧ pre.length = rp.length ∧ S.valAt n = some v ∧ pre.map S.valAt = rp.map some ∧ post.map S.valAt = rq.map some := by
  obtain ⟨pre, post, e⟩ := List.append_of_mem hn
  have vs := r.vs
  have hl := r.rl
  have hk : pre.length < rows.length := by rw [← hl, e, List.length_append, List.length_cons]; omega
  have sp := split_at hk
  have hp : pre.length = (rows.take pre.length).length := by rw [List.length_take]; omega
  rw [sp, e, List.map_append, List.map_append, List.map_cons, List.map_cons] at vs
  obtain ⟨v1, v2⟩ := List.append_inj vs (by rw [List.length_map, List.length_map]; exact hp)
  obtain ⟨v3, v4⟩ := List.cons.inj v2
  exact ⟨pre, post, _, _, _, e, sp, hp, v3, v1, v4⟩
theorem hd_fit {l m : List Int} (h : l.map S.valAt = m.map some) : (l.headD (-1) = -1 ∧ m.head? = none) ∨ (l.headD (-1) ∈ l ∧ S.valAt (l.headD (-1)) = m.head?) := by
  cases l with
  | nil =>
    cases m with
    | nil => exact .inl ⟨rfl, rfl⟩
    | cons y m => cases h
  | cons x l =>
    cases m with
    | nil => cases h
    | cons y m =>
      rw [List.map_cons, List.map_cons] at h
      exact .inr ⟨by simp, (List.cons.inj h).1⟩
theorem Inv.fitUp (i : Inv S M ns t) {a : Int} (hc : 0 ≤ S.cursor) (ha : M.at_ = some a) :
    (S.nexts.getD S.cursor.toNat (-1) = -1 ∧ M.stepAt a 1 = none) ∨ (S.nexts.getD S.cursor.toNat (-1) ∈ ns.tail ∧ S.valAt (S.nexts.getD S.cursor.toNat (-1)) = M.stepAt a 1) := by
  rcases i.cur with ⟨c1, _⟩ | ⟨_, b, c2, _, c3⟩
  · omega
  · rw [ha] at c2
    have := Option.some.inj c2
    subst this
    rcases c3 with ⟨h1, h2⟩ | ⟨h1, h2⟩
    · obtain ⟨pre, post, rp, rq, v, e1, e2, e3, e4, e5, e6⟩ := i.rep.cutAt h1
      rw [h2] at e4
      have := Option.some.inj e4
      subst this
      rw [stepAt_up i.nd e2, Seg.nxt (e1 ▸ i.rep.fwd)]
      refine (hd_fit e6).imp id fun h => ⟨?_, h.2⟩
      rw [e1]
      cases pre with
      | nil => exact h.1
      | cons p l => exact List.mem_append_right _ (List.mem_cons_of_mem _ h.1)
    · exact .inl ⟨(i.rep.off _ hc h1).1, stepAt_no h2⟩
theorem Inv.fitDn (i : Inv S M ns t) {a : Int} (hc : 0 ≤ S.cursor) (ha : M.at_ = some a) :
    (S.prevs.getD S.cursor.toNat (-1) = -1 ∧ M.stepAt a (-1) = none) ∨ (S.prevs.getD S.cursor.toNat (-1) ∈ ns.dropLast ∧ S.valAt (S.prevs.getD S.cursor.toNat (-1)) = M.stepAt a (-1)) := by
  rcases i.cur with ⟨c1, _⟩ | ⟨_, b, c2, _, c3⟩
  · omega
  · rw [ha] at c2
    have := Option.some.inj c2
    subst this
    rcases c3 with ⟨h1, h2⟩ | ⟨h1, h2⟩
    · obtain ⟨pre, post, rp, rq, v, e1, e2, e3, e4, e5, e6⟩ := i.rep.cutAt h1
      rw [h2] at e4
      have := Option.some.inj e4
      subst this
      have bw := i.rep.bwd
      rw [e1, List.reverse_append, List.reverse_cons, List.append_assoc] at bw
      have en := Seg.nxt (l := post.reverse) (n := S.cursor) (m := pre.reverse) bw
      rw [stepAt_dn i.nd e2, en]
      refine (hd_fit (l := pre.reverse) (m := rp.reverse) (by rw [List.map_reverse, List.map_reverse, e5])).imp id fun h => ⟨?_, h.2⟩
      rw [e1, List.dropLast_append_of_ne_nil (by simp)]
      exact List.mem_append_left _ (List.mem_reverse.mp h.1)
    · exact .inl ⟨(i.rep.off _ hc h1).2, stepAt_no h2⟩
theorem Inv.steppedI (i : Inv S M ns t) (hm : M.most = S.vals.length) {f : Int} (h0 : 0 ≤ f) (h1 : f ≤ 3) : ∃ ns', Inv (S.step f) (M.stepped f) ns' t := by
  unfold LS.step Mn.stepped
  simp only
  by_cases hc : S.cursor < 0
  · rw [if_pos hc]
    rcases i.cur with ⟨_, c2⟩ | ⟨c1, _⟩
    · rw [c2]; exact ⟨ns, i⟩
    · omega
  · rw [if_neg hc]
    rcases i.cur with ⟨c1, _⟩ | ⟨_, a, ha, _, _⟩
    · omega
    · have up := i.fitUp (by omega) ha
      have dn := i.fitDn (by omega) ha
      rw [back_f h0 h1, dele_f h0 h1, ha]
      simp only
      have st : M.rows ≠ [] ∨ M.rows = [] := (Classical.em _).symm
      obtain h | h | h | h : f = 0 ∨ f = 1 ∨ f = 2 ∨ f = 3 := by omega
      all_goals subst h
      · show ∃ ns', Inv ({ S with place := S.place + 1 }.standOn (S.nexts.getD S.cursor.toNat (-1))) { M with at_ := M.stepAt a 1, place := M.place + 1 } ns' t
        rw [← i.place]
        exact ⟨_, (i.placed (S.place + 1)).stood hm (up.imp id fun h => ⟨List.mem_of_mem_tail h.1, h.2⟩)⟩
      · have e : M.stepRows 1 = M.rows.tail := by
          unfold Mn.stepRows
          rcases st with q | q
          · rw [if_pos ⟨by decide, q⟩, if_pos (by decide)]
          · rw [if_neg (by simp [q]), q]; rfl
        rw [e]
        show ∃ ns', Inv (S.shift.standOn (S.nexts.getD S.cursor.toNat (-1))) { M with rows := M.rows.tail, at_ := M.stepAt a 1 } ns' t
        have ip := i.shiftI hm
        refine ⟨_, ip.stood (by rw [shift_len]; exact hm) (up.imp id fun h => ⟨h.1, ?_⟩)⟩
        obtain ⟨y, _, hy⟩ := ip.rep.valIn h.1
        rw [hy, ← h.2]
        exact (i.rep.shiftVal (ip.rep.bd _ h.1).1 hy).symm
      · show ∃ ns', Inv ({ S with place := S.place - 1 }.standOn (S.prevs.getD S.cursor.toNat (-1))) { M with at_ := M.stepAt a (-1), place := M.place - 1 } ns' t
        rw [← i.place]
        exact ⟨_, (i.placed (S.place - 1)).stood hm (dn.imp id fun h => ⟨List.dropLast_subset _ h.1, h.2⟩)⟩
      · have e : M.stepRows 3 = M.rows.dropLast := by
          unfold Mn.stepRows
          rcases st with q | q
          · rw [if_pos ⟨by decide, q⟩, if_neg (by decide)]
          · rw [if_neg (by simp [q]), q]; rfl
        rw [e]
        show ∃ ns', Inv ({ S with place := S.place - 1 }.pop.standOn (S.prevs.getD S.cursor.toNat (-1))) { M with rows := M.rows.dropLast, at_ := M.stepAt a (-1), place := M.place - 1 } ns' t
        rw [← i.place]
        have i1 := i.placed (S.place - 1)
        have ip := i1.popI hm
        refine ⟨_, ip.stood (by rw [pop_len]; exact hm) (dn.imp id fun h => ⟨h.1, ?_⟩)⟩
        obtain ⟨y, _, hy⟩ := ip.rep.valIn h.1
        rw [hy, ← h.2]
        exact (i1.rep.popVal (ip.rep.bd _ h.1).1 hy).symm
end
end Mine

namespace Mine
open PySem
section
variable {S : LS} {M : Mn} {ns : List Int} {t : Nat}
theorem Inv.up (i : Inv S M ns t) : Inv S M ns (t + 1) := i.up'
theorem Inv.tailVal (i : Inv S M ns t) : 0 ≤ S.tail → ∃ x, S.valAt S.tail = some x := by
  intro h
  have e : ns ≠ [] := fun q => by have := i.rep.tl_neg.mpr q; omega
  have hl := List.length_pos_iff.mpr e
  obtain ⟨x, _, e2⟩ := i.rep.nth (k := ns.length - 1) (by omega)
  exact ⟨x, by rw [i.rep.tlS e]; exact e2⟩
theorem Inv.headVal (i : Inv S M ns t) : 0 ≤ S.head → ∃ x, S.valAt S.head = some x := by
  intro h
  have e : ns ≠ [] := fun q => by have := i.rep.hd_neg.mpr q; omega
  have hl := List.length_pos_iff.mpr e
  obtain ⟨x, _, e2⟩ := i.rep.nth (k := 0) hl
  exact ⟨x, by rw [i.rep.hdS]; exact e2⟩
theorem Inv.popV (i : Inv S M ns t) : S.popV = M.rows.getLast? := by
  unfold LS.popV
  by_cases h : S.tail < 0
  · rw [if_pos h, i.rep.nil_iff.mp (i.rep.tl_neg.mp h)]; rfl
  · rw [if_neg h]
    have e : ns ≠ [] := fun q => h (i.rep.tl_neg.mpr q)
    have hl := List.length_pos_iff.mpr e
    have := i.rep.fitK (k := ns.length - 1) (by omega)
    rw [i.rep.tlS e, this.2, List.getLast?_eq_getElem?, i.rep.rl]
theorem Inv.shiftV (i : Inv S M ns t) : S.shiftV = M.rows.head? := by
  unfold LS.shiftV
  by_cases h : S.head < 0
  · rw [if_pos h, i.rep.nil_iff.mp (i.rep.hd_neg.mp h)]; rfl
  · rw [if_neg h]
    have e : ns ≠ [] := fun q => h (i.rep.hd_neg.mpr q)
    have hl := List.length_pos_iff.mpr e
    have := i.rep.fitK (k := 0) hl
    rw [i.rep.hdS, this.2, List.head?_eq_getElem?]
theorem Inv.freeLen (i : Inv S M ns t) : S.free.length ≤ t := by
  have h1 := i.rep.lens
  have h2 := i.size
  omega
theorem Inv.rowsLen (i : Inv S M ns t) : M.rows.length ≤ t := by
  have h1 := i.rep.lens
  have h2 := i.size
  have h3 := i.rep.rl
  omega
theorem Inv.ends (i : Inv S M ns t) (hm : M.most = S.vals.length) (ht : t < 50) (deed : Int) : ∃ ns', Inv (endsS deed S (100 + t)) { M with rows := endsR deed M.rows (100 + t) } ns' (t + 1) := by
  unfold endsS endsR
  by_cases h0 : deed = 0
  · rw [if_pos h0, if_pos h0]; exact i.pushI hm ht
  · rw [if_neg h0, if_neg h0]
    by_cases h1 : deed = 1
    · rw [if_pos h1, if_pos h1]; exact i.unshiftI hm ht
    · rw [if_neg h1, if_neg h1]
      by_cases h2 : deed = 2
      · rw [if_pos h2, if_pos h2]; exact ⟨_, (i.popI hm).up'⟩
      · rw [if_neg h2, if_neg h2]; exact ⟨_, (i.shiftI hm).up'⟩
theorem Inv.at (i : Inv S M ns t) {j : Int} (h0 : 0 ≤ j) (h1 : j < M.rows.length) : 0 ≤ S.at j S.flags ∧ ∃ r, S.valAt (S.at j S.flags) = some r ∧ M.rows[(addK M j).toNat]? = some r := by
  obtain ⟨pre, post, rp, rq, n, v, e1, e2, e3, e4, e5, e6⟩ := i.nthI h0 h1
  rw [e5, e4]
  refine ⟨(i.rep.bd n (by rw [e1]; simp)).1, v, e6, ?_⟩
  rw [e2, List.getElem?_append_right (Nat.le_refl _), Nat.sub_self]; rfl
theorem Inv.added (i : Inv S M ns t) (hm : M.most = S.vals.length) (ht : t < 50) {j : Int} (h0 : 0 ≤ j) (h1 : j ≤ M.rows.length) : ∃ ns', Inv (S.add j (100 + t)) (M.added j (100 + t)) ns' (t + 1) := i.addedI hm ht h0 h1
theorem Inv.dropped (i : Inv S M ns t) (hm : M.most = S.vals.length) (ht : t < 50) {j : Int} (h0 : 0 ≤ j) (h1 : j < M.rows.length) : ∃ ns', Inv (S.drop j) (M.dropped j) ns' (t + 1) := i.droppedI hm h0 h1
theorem Inv.rewound (i : Inv S M ns t) (hm : M.most = S.vals.length) (ht : t < 50) : ∃ ns', Inv S.rewind M.rewound ns' (t + 1) := ⟨_, (i.rewoundI hm).up'⟩
theorem Inv.stepped (i : Inv S M ns t) (hm : M.most = S.vals.length) (ht : t < 50) {f : Int} (h0 : 0 ≤ f) (h1 : f ≤ 3) : ∃ ns', Inv (S.step f) (M.stepped f) ns' (t + 1) := by
  obtain ⟨ns', h⟩ := i.steppedI hm h0 h1
  exact ⟨ns', h.up'⟩
theorem Inv.flagged (i : Inv S M ns t) {f : Int} (h0 : 0 ≤ f) (h1 : f ≤ 3) : Inv { S with flags := f } { M with flags := f } ns (t + 1) := (i.flag h0 h1).up'
theorem Inv.current (i : Inv S M ns t) : S.current = M.at_.bind fun a => if a ∈ M.rows then some a else none := by
  unfold LS.current
  rcases i.cur with ⟨c1, c2⟩ | ⟨c0, a, c1, c2, c3⟩
  · rw [c2, if_pos (by omega)]; rfl
  · rw [c1, if_neg (by omega)]
    show _ = if a ∈ M.rows then some a else none
    rcases c3 with ⟨h1, h2⟩ | ⟨h1, h2⟩
    · obtain ⟨x, hx, e⟩ := i.rep.valIn h1
      rw [h2] at e
      have := Option.some.inj e
      subst this
      rw [if_pos hx, h2]
    · rw [if_neg h2, i.rep.none _ c0 h1]
theorem Inv.curNone (i : Inv S M ns t) : S.cursor < 0 ↔ M.at_ = none := by
  rcases i.cur with ⟨c1, c2⟩ | ⟨c0, a, c1, c2, c3⟩
  · rw [c2, c1]; simp
  · rw [c1]
    constructor
    · intro h; omega
    · intro h; cases h
theorem Inv.curGone (i : Inv S M ns t) : gone S ns = match M.at_ with | none => [] | some a => if a ∈ M.rows then [] else [S.cursor] := by
  rcases i.cur with ⟨c1, c2⟩ | ⟨c0, a, c1, c2, c3⟩
  · rw [c2]; exact gone_nil (.inl (by omega))
  · rw [c1]
    show _ = if a ∈ M.rows then [] else [S.cursor]
    rcases c3 with ⟨h1, h2⟩ | ⟨h1, h2⟩
    · obtain ⟨x, hx, e⟩ := i.rep.valIn h1
      rw [h2] at e
      have := Option.some.inj e
      subst this
      rw [if_pos hx]
      exact gone_nil (.inr h1)
    · rw [if_neg h2]
      unfold gone
      rw [if_pos ⟨c0, h1⟩]
/-- the lists of the law's own looks -/
theorem Rep.atF {rows : List Int} (r : Rep S ns rows) {k : Nat} (hk : k ≤ rows.length) : S.at k 0 = ns.getD k (-1) := by
  rw [r.atW, if_neg (by decide)]; rfl
theorem Rep.atB {rows : List Int} (r : Rep S ns rows) {k : Nat} (hk : k ≤ rows.length) : S.at k 2 = ns.reverse.getD k (-1) := by
  rw [r.atW, if_pos (by decide)]; rfl
theorem push_insd {rows : List Int} {x : Int} (r : Rep S ns rows) (hz : S.vals.length < 100) : ∃ n, Insd S (S.push x) ns [] rows [] n x := r.pushed hz x
theorem push_rep {rows : List Int} {x : Int} (r : Rep S ns rows) (hz : S.vals.length < 100) : ∃ ns', Rep (S.push x) ns' (rows ++ [x]) := by
  obtain ⟨n, d⟩ := r.pushed hz x
  exact ⟨_, d.rep⟩
theorem empty_rep (f : Int) : Rep { LS.empty with flags := f } [] [] where
  wf := empty_wf f
  fwd := .nil
  bwd := .nil
  off := fun x _ _ => ⟨rfl, rfl⟩
  all := List.Perm.refl _
  vals := .nil
  none := fun x _ _ => rfl
  count := rfl
theorem copy_fold : ∀ (l : List Int) {S : LS} {ns rows : List Int}, Rep S ns rows → S.vals.length + l.length < 100 →
    (∃ ns', Rep (l.foldl LS.push S) ns' (rows ++ l)) ∧ (l.foldl LS.push S).flags = S.flags ∧ (l.foldl LS.push S).cursor = S.cursor ∧ (l.foldl LS.push S).vals.length ≤ S.vals.length + l.length
  | [], S, ns, rows, r, h => ⟨⟨ns, by rw [List.append_nil]; exact r⟩, rfl, rfl, by simp⟩
  | x :: l, S, ns, rows, r, h => by
    rw [List.length_cons] at h
    obtain ⟨n, d⟩ := r.pushed (by omega) x
    have hl : (S.push x).vals.length ≤ S.vals.length + 1 := by rcases d.len with q | q <;> omega
    obtain ⟨⟨ns', a⟩, b, c, e⟩ := copy_fold l d.rep (by omega)
    rw [List.foldl_cons, List.length_cons]
    refine ⟨⟨ns', ?_⟩, by rw [b, d.flags], by rw [c, d.cursor], by omega⟩
    rw [List.append_assoc] at a
    exact a
theorem copy_rep {rows : List Int} (S : LS) (hz : rows.length < 90) : (∃ ns', Rep (S.copy rows) ns' rows) ∧ (S.copy rows).flags = S.flags ∧ (S.copy rows).vals.length ≤ rows.length := by
  obtain ⟨⟨ns', r⟩, b, c, e⟩ := copy_fold rows (empty_rep S.flags) (by show 0 + rows.length < 100; omega)
  rw [List.nil_append] at r
  have e' : (S.copy rows).vals.length ≤ 0 + rows.length := e
  refine ⟨⟨ns', ?_⟩, b, by omega⟩
  have c' : (rows.foldl LS.push { LS.empty with flags := S.flags }).cursor = -1 := c
  unfold LS.copy
  simp only
  generalize rows.foldl LS.push { LS.empty with flags := S.flags } = S1 at *
  have w := r.wf
  have hh : S1.head = -1 ∨ S1.head ∈ ns' := by rw [r.hdE]; exact headD_mem
  refine r.re { nx := w.nx, pv := w.pv, len := w.len, head := w.head, tail := w.tail, cursor := w.head, free := w.free, frees := w.frees, nexts := w.nexts, prevs := w.prevs } rfl rfl rfl rfl rfl rfl ?_
  rw [gone_nil (c := S1) (.inl (by omega)), gone_nil]
  exact hh.imp (fun h => by show S1.head < 0; omega) id
/-- sorted, and a permutation of the first numbers -/
theorem sorted_upto {l : List Int} {n : Nat} (hp : l.Perm (upto n)) (hs : l.Pairwise (· ≤ ·)) : l = upto n := by
  refine List.Perm.eq_of_pairwise (le := (· ≤ ·)) ?_ hs ?_ hp
  · intro a b _ _ h1 h2; omega
  · unfold upto
    refine List.pairwise_map.mpr ?_
    exact (List.pairwise_lt_range (n := n)).imp fun h => by omega
end
end Mine

open PySem PySem.W PySem.Calls PyProof.Rows
namespace Mine
/-! the part of the state behind the top that the walk knows: each def's parts are the program's own, by unification -/
@[reducible] noncomputable def fnAt {n bd : Str} {ps : Arguments} {b : List Stmt} {ds : List Expr} {rt : Option Expr} {tp : List TypeParam} {sc : Scope} {ts : Option Scope} {pos : Pos} (i : Nat) (dV md : Value) (cd : Addr)
    (h : PySem.Challenge.pw_pf0210_01.main.body[i]? = some (Stmt.FunctionDef n ps b ds rt tp sc ts bd pos)) : Obj :=
  Obj.mk (Value.type "function") none (Data.func (FuncData.mk n n ps (FuncBody.stmts b) sc 3 [] dV Value.none Value.none md none (Value.ref cd) Value.none 0)) (List.toArray [])
@[reducible] noncomputable def methAt {n bd cn cbd : Str} {ps : Arguments} {b cb : List Stmt} {ds cds bs : List Expr} {kw : List Keyword} {sa : List Str} {rt : Option Expr} {tp ctp : List TypeParam} {sc csc : Scope} {ts cts : Option Scope} {pos cpos : Pos}
    (i j : Nat) (q : Str) (dV md : Value) (cd : Addr) (hc : PySem.Challenge.pw_pf0210_01.main.body[i]? = some (Stmt.ClassDef cn bs kw cb cds ctp csc cts cbd sa cpos)) (h : cb[j]? = some (Stmt.FunctionDef n ps b ds rt tp sc ts bd pos)) : Obj :=
  Obj.mk (Value.type "function") none (Data.func (FuncData.mk n q ps (FuncBody.stmts b) sc 3 [] dV Value.none Value.none md none (Value.ref cd) Value.none 0)) (List.toArray [])
@[reducible] noncomputable def cdAt {n bd : Str} {ps : Arguments} {b : List Stmt} {ds : List Expr} {rt : Option Expr} {tp : List TypeParam} {sc : Scope} {ts : Option Scope} {pos : Pos} (i : Nat)
    (h : PySem.Challenge.pw_pf0210_01.main.body[i]? = some (Stmt.FunctionDef n ps b ds rt tp sc ts bd pos)) : Obj :=
  Obj.mk Value.none none (Data.func (FuncData.mk n n ps (FuncBody.stmts b) sc 0 [] Value.none Value.none Value.none Value.none none Value.none Value.none 0)) (List.toArray [])
@[reducible] noncomputable def cmethAt {n bd cn cbd : Str} {ps : Arguments} {b cb : List Stmt} {ds cds bs : List Expr} {kw : List Keyword} {sa : List Str} {rt : Option Expr} {tp ctp : List TypeParam} {sc csc : Scope} {ts cts : Option Scope} {pos cpos : Pos}
    (i j : Nat) (q : Str) (hc : PySem.Challenge.pw_pf0210_01.main.body[i]? = some (Stmt.ClassDef cn bs kw cb cds ctp csc cts cbd sa cpos)) (h : cb[j]? = some (Stmt.FunctionDef n ps b ds rt tp sc ts bd pos)) : Obj :=
  Obj.mk Value.none none (Data.func (FuncData.mk n q ps (FuncBody.stmts b) sc 0 [] Value.none Value.none Value.none Value.none none Value.none Value.none 0)) (List.toArray [])
@[reducible] noncomputable def hd.o2 (P : Params) : Obj := (Obj.mk Value.none none (Data.dict (List.toArray [(DictEntry.mk (PyData.keyHash P (Str.ofString "type.__subclasses__.Exception.0")) (Value.str (Str.ofString "type.__subclasses__.Exception.0") 298) (Value.int 90 0)), (DictEntry.mk (PyData.keyHash P (Str.ofString "type.__subclasses__.Exception.n")) (Value.str (Str.ofString "type.__subclasses__.Exception.n") 299) (Value.int 1 0))]) 2) (List.toArray []))
@[reducible] noncomputable def hd.o3 (P : Params) : Obj := (Obj.mk (Value.type "dict") none (Data.dict (List.toArray [(DictEntry.mk (PyData.keyHash P (Str.ofString "__name__")) (Value.str (Str.ofString "__name__") 165) (Value.str (Str.ofString "law_pf0210_01") 719)), (DictEntry.mk (PyData.keyHash P (Str.ofString "__doc__")) (Value.str (Str.ofString "__doc__") 166) Value.none), (DictEntry.mk (PyData.keyHash P (Str.ofString "__package__")) (Value.str (Str.ofString "__package__") 167) Value.none), (DictEntry.mk (PyData.keyHash P (Str.ofString "__loader__")) (Value.str (Str.ofString "__loader__") 168) (Value.builtin "__main__.__loader__#opaque")), (DictEntry.mk (PyData.keyHash P (Str.ofString "__spec__")) (Value.str (Str.ofString "__spec__") 169) Value.none), (DictEntry.mk (PyData.keyHash P (Str.ofString "__annotations__")) (Value.str (Str.ofString "__annotations__") 170) (Value.ref 6)), (DictEntry.mk (PyData.keyHash P (Str.ofString "__builtins__")) (Value.str (Str.ofString "__builtins__") 171) (Value.ref 4)), (DictEntry.mk (PyData.keyHash P (Str.ofString "__file__")) (Value.str (Str.ofString "__file__") 173) (Value.str (Str.ofString "/claim/cut.py") 172)), (DictEntry.mk (PyData.keyHash P (Str.ofString "__cached__")) (Value.str (Str.ofString "__cached__") 174) Value.none), (DictEntry.mk (PyData.keyHash P (Str.ofString "_wall")) (Value.str (Str.ofString "_wall") 193) (Value.ref 21)), (DictEntry.mk (PyData.keyHash P (Str.ofString "Ref")) (Value.str (Str.ofString "Ref") 226) (Value.ref 39)), (DictEntry.mk (PyData.keyHash P (Str.ofString "Absent")) (Value.str (Str.ofString "Absent") 255) (Value.ref 61)), (DictEntry.mk (PyData.keyHash P (Str.ofString "deref")) (Value.str (Str.ofString "deref") 262) (Value.ref 72)), (DictEntry.mk (PyData.keyHash P (Str.ofString "Thrown")) (Value.str (Str.ofString "Thrown") 301) (Value.ref 90)), (DictEntry.mk (PyData.keyHash P (Str.ofString "error")) (Value.str (Str.ofString "error") 308) (Value.ref 100)), (DictEntry.mk (PyData.keyHash P (Str.ofString "least")) (Value.str (Str.ofString "least") 314) (Value.ref 107)), (DictEntry.mk (PyData.keyHash P (Str.ofString "greatest")) (Value.str (Str.ofString "greatest") 320) (Value.ref 114)), (DictEntry.mk (PyData.keyHash P (Str.ofString "Arr")) (Value.str (Str.ofString "Arr") 430) (Value.ref 188)), (DictEntry.mk (PyData.keyHash P (Str.ofString "is_living")) (Value.str (Str.ofString "is_living") 438) (Value.ref 199)), (DictEntry.mk (PyData.keyHash P (Str.ofString "hash_of")) (Value.str (Str.ofString "hash_of") 447) (Value.ref 206)), (DictEntry.mk (PyData.keyHash P (Str.ofString "link")) (Value.str (Str.ofString "link") 456) (Value.ref 213)), (DictEntry.mk (PyData.keyHash P (Str.ofString "chains")) (Value.str (Str.ofString "chains") 464) (Value.ref 220)), (DictEntry.mk (PyData.keyHash P (Str.ofString "many_ahead")) (Value.str (Str.ofString "many_ahead") 470) (Value.ref 225)), (DictEntry.mk (PyData.keyHash P (Str.ofString "rehash")) (Value.str (Str.ofString "rehash") 476) (Value.ref 230)), (DictEntry.mk (PyData.keyHash P (Str.ofString "to_hash")) (Value.str (Str.ofString "to_hash") 483) (Value.ref 237)), (DictEntry.mk (PyData.keyHash P (Str.ofString "takes_packed")) (Value.str (Str.ofString "takes_packed") 491) (Value.ref 244)), (DictEntry.mk (PyData.keyHash P (Str.ofString "add_packed")) (Value.str (Str.ofString "add_packed") 500) (Value.ref 251)), (DictEntry.mk (PyData.keyHash P (Str.ofString "add_hashed")) (Value.str (Str.ofString "add_hashed") 510) (Value.ref 258)), (DictEntry.mk (PyData.keyHash P (Str.ofString "add")) (Value.str (Str.ofString "add") 519) (Value.ref 265)), (DictEntry.mk (PyData.keyHash P (Str.ofString "marked")) (Value.str (Str.ofString "marked") 526) (Value.ref 272)), (DictEntry.mk (PyData.keyHash P (Str.ofString "taken")) (Value.str (Str.ofString "taken") 535) (Value.ref 279)), (DictEntry.mk (PyData.keyHash P (Str.ofString "LinkList")) (Value.str (Str.ofString "LinkList") 574) (Value.ref 296)), (DictEntry.mk (PyData.keyHash P (Str.ofString "new_node")) (Value.str (Str.ofString "new_node") 583) (Value.ref 307)), (DictEntry.mk (PyData.keyHash P (Str.ofString "unlink")) (Value.str (Str.ofString "unlink") 594) (Value.ref 314)), (DictEntry.mk (PyData.keyHash P (Str.ofString "is_gone")) (Value.str (Str.ofString "is_gone") 602) (Value.ref 321)), (DictEntry.mk (PyData.keyHash P (Str.ofString "link_push")) (Value.str (Str.ofString "link_push") 611) (Value.ref 328)), (DictEntry.mk (PyData.keyHash P (Str.ofString "link_unshift")) (Value.str (Str.ofString "link_unshift") 620) (Value.ref 335)), (DictEntry.mk (PyData.keyHash P (Str.ofString "link_pop")) (Value.str (Str.ofString "link_pop") 627) (Value.ref 342)), (DictEntry.mk (PyData.keyHash P (Str.ofString "link_shift")) (Value.str (Str.ofString "link_shift") 634) (Value.ref 349)), (DictEntry.mk (PyData.keyHash P (Str.ofString "link_at")) (Value.str (Str.ofString "link_at") 645) (Value.ref 356)), (DictEntry.mk (PyData.keyHash P (Str.ofString "link_add")) (Value.str (Str.ofString "link_add") 657) (Value.ref 363)), (DictEntry.mk (PyData.keyHash P (Str.ofString "link_drop")) (Value.str (Str.ofString "link_drop") 666) (Value.ref 370)), (DictEntry.mk (PyData.keyHash P (Str.ofString "link_values")) (Value.str (Str.ofString "link_values") 675) (Value.ref 377)), (DictEntry.mk (PyData.keyHash P (Str.ofString "stand_on")) (Value.str (Str.ofString "stand_on") 684) (Value.ref 384)), (DictEntry.mk (PyData.keyHash P (Str.ofString "link_rewind")) (Value.str (Str.ofString "link_rewind") 692) (Value.ref 391)), (DictEntry.mk (PyData.keyHash P (Str.ofString "link_step")) (Value.str (Str.ofString "link_step") 702) (Value.ref 398)), (DictEntry.mk (PyData.keyHash P (Str.ofString "link_current")) (Value.str (Str.ofString "link_current") 709) (Value.ref 405)), (DictEntry.mk (PyData.keyHash P (Str.ofString "link_copy")) (Value.str (Str.ofString "link_copy") 718) (Value.ref 412)), (DictEntry.mk (PyData.keyHash P (Str.ofString "_law_told")) (Value.str (Str.ofString "_law_told") 726) (Value.ref 419)), (DictEntry.mk (PyData.keyHash P (Str.ofString "_law_draw")) (Value.str (Str.ofString "_law_draw") 736) (Value.ref 426)), (DictEntry.mk (PyData.keyHash P (Str.ofString "_law_at_ends")) (Value.str (Str.ofString "_law_at_ends") 746) (Value.ref 433)), (DictEntry.mk (PyData.keyHash P (Str.ofString "_law_added")) (Value.str (Str.ofString "_law_added") 757) (Value.ref 440)), (DictEntry.mk (PyData.keyHash P (Str.ofString "_law_dropped")) (Value.str (Str.ofString "_law_dropped") 768) (Value.ref 447)), (DictEntry.mk (PyData.keyHash P (Str.ofString "_law_rewound")) (Value.str (Str.ofString "_law_rewound") 777) (Value.ref 454)), (DictEntry.mk (PyData.keyHash P (Str.ofString "_law_stepped")) (Value.str (Str.ofString "_law_stepped") 789) (Value.ref 461)), (DictEntry.mk (PyData.keyHash P (Str.ofString "_law_deed")) (Value.str (Str.ofString "_law_deed") 800) (Value.ref 468)), (DictEntry.mk (PyData.keyHash P (Str.ofString "_law_nodes")) (Value.str (Str.ofString "_law_nodes") 810) (Value.ref 475)), (DictEntry.mk (PyData.keyHash P (Str.ofString "_law_linked")) (Value.str (Str.ofString "_law_linked") 816) (Value.ref 480)), (DictEntry.mk (PyData.keyHash P (Str.ofString "_law_marked")) (Value.str (Str.ofString "_law_marked") 825) (Value.ref 487)), (DictEntry.mk (PyData.keyHash P (Str.ofString "_law_thrifty")) (Value.str (Str.ofString "_law_thrifty") 838) (Value.ref 494)), (DictEntry.mk (PyData.keyHash P (Str.ofString "_law_copied")) (Value.str (Str.ofString "_law_copied") 847) (Value.ref 501)), (DictEntry.mk (PyData.keyHash P (Str.ofString "_law_kept")) (Value.str (Str.ofString "_law_kept") 860) (Value.ref 508)), (DictEntry.mk (PyData.keyHash P (Str.ofString "law")) (Value.str (Str.ofString "law") 869) (Value.ref 515))]) 63) (List.toArray []))
@[reducible] noncomputable def hd.o11 (P : Params) : Obj := (Obj.mk (Value.type "tuple") none (Data.seq (List.toArray []) 0) (List.toArray []))
@[reducible] noncomputable def hd.o12 (P : Params) : Obj := (Obj.mk Value.none none (Data.fields (List.toArray [(Value.int 1 0), (Value.int 0 0), (Value.ref 20), (Value.int 5 0), (Value.int 0 0), (Value.ref 27), (Value.int 11 0), (Value.int 0 0), (Value.ref 49), (Value.int 15 0), (Value.int 0 0), (Value.ref 71), (Value.int 22 0), (Value.int 0 0), (Value.ref 78), (Value.int 31 0), (Value.int 0 0), (Value.ref 99), (Value.int 33 0), (Value.int 0 0), (Value.ref 106), (Value.int 35 0), (Value.int 0 0), (Value.ref 113), (Value.int 38 0), (Value.int 0 0), (Value.ref 120), (Value.int 86 0), (Value.int 0 0), (Value.ref 198), (Value.int 88 0), (Value.int 0 0), (Value.ref 205), (Value.int 95 0), (Value.int 0 0), (Value.ref 212), (Value.int 99 0), (Value.int 0 0), (Value.ref 219), (Value.int 105 0), (Value.int 0 0), (Value.ref 224), (Value.int 107 0), (Value.int 0 0), (Value.ref 229), (Value.int 115 0), (Value.int 0 0), (Value.ref 236), (Value.int 119 0), (Value.int 0 0), (Value.ref 243), (Value.int 125 0), (Value.int 0 0), (Value.ref 250), (Value.int 129 0), (Value.int 0 0), (Value.ref 257), (Value.int 141 0), (Value.int 0 0), (Value.ref 264), (Value.int 153 0), (Value.int 0 0), (Value.ref 271), (Value.int 158 0), (Value.int 0 0), (Value.ref 278), (Value.int 163 0), (Value.int 0 0), (Value.ref 285), (Value.int 171 0), (Value.int 0 0), (Value.ref 306), (Value.int 180 0), (Value.int 0 0), (Value.ref 313), (Value.int 198 0), (Value.int 0 0), (Value.ref 320), (Value.int 200 0), (Value.int 0 0), (Value.ref 327), (Value.int 209 0), (Value.int 0 0), (Value.ref 334), (Value.int 218 0), (Value.int 0 0), (Value.ref 341), (Value.int 220 0), (Value.int 0 0), (Value.ref 348), (Value.int 222 0), (Value.int 0 0), (Value.ref 355), (Value.int 229 0), (Value.int 0 0), (Value.ref 362), (Value.int 244 0), (Value.int 0 0), (Value.ref 369), (Value.int 249 0), (Value.int 0 0), (Value.ref 376), (Value.int 256 0), (Value.int 0 0), (Value.ref 383), (Value.int 261 0), (Value.int 0 0), (Value.ref 390), (Value.int 265 0), (Value.int 0 0), (Value.ref 397), (Value.int 281 0), (Value.int 0 0), (Value.ref 404), (Value.int 285 0), (Value.int 0 0), (Value.ref 411), (Value.int 293 0), (Value.int 0 0), (Value.ref 418), (Value.int 295 0), (Value.int 0 0), (Value.ref 425), (Value.int 299 0), (Value.int 0 0), (Value.ref 432), (Value.int 311 0), (Value.int 0 0), (Value.ref 439), (Value.int 320 0), (Value.int 0 0), (Value.ref 446), (Value.int 329 0), (Value.int 0 0), (Value.ref 453), (Value.int 334 0), (Value.int 0 0), (Value.ref 460), (Value.int 347 0), (Value.int 0 0), (Value.ref 467), (Value.int 364 0), (Value.int 0 0), (Value.ref 474), (Value.int 370 0), (Value.int 0 0), (Value.ref 479), (Value.int 380 0), (Value.int 0 0), (Value.ref 486), (Value.int 385 0), (Value.int 0 0), (Value.ref 493), (Value.int 397 0), (Value.int 0 0), (Value.ref 500), (Value.int 403 0), (Value.int 0 0), (Value.ref 507), (Value.int 413 0), (Value.int 0 0), (Value.ref 514)])) (List.toArray []))
@[reducible] noncomputable def hd.o13 (P : Params) : Obj := (Obj.mk (Value.type "code") none (Data.fields (List.toArray [(Value.str (Str.ofString "<module>") 182), (Value.str (Str.ofString "<module>") 183), (Value.str (Str.ofString "/claim/cut.py") 184), (Value.int 1 0), (Value.int 0 0), (Value.int 0 0), (Value.int 0 0), (Value.int 0 0), (Value.ref 11), (Value.bool Bool.false), (Value.int 181 0), (Value.ref 12), Value.none, Value.none, Value.none, Value.none, (Value.int 185 0), (Value.int 1 0), (Value.str (Str.ofString "/claim/cut.py") 186)])) (List.toArray []))
@[reducible] noncomputable def hd.o14 (P : Params) : Obj := (Obj.mk (Value.type "frame") none Data.plain (List.toArray [(some (Value.ref 13)), (some (Value.ref 3)), (some (Value.ref 3)), none, (some (Value.str (Str.ofString "__main__") 164)), none, (some (Value.ref 0))]))
@[reducible] noncomputable def hd.o15 (P : Params) : Obj := (Obj.mk (Value.type "tuple") none (Data.seq (List.toArray []) 0) (List.toArray []))
@[reducible] noncomputable def hd.o16 (P : Params) : Obj := (Obj.mk Value.none none (Data.fields (List.toArray [])) (List.toArray []))
@[reducible] noncomputable def hd.o17 (P : Params) : Obj := (Obj.mk (Value.type "tuple") none (Data.seq (List.toArray [(Value.str (Str.ofString "k") 190)]) 0) (List.toArray []))
@[reducible] noncomputable def hd.o18 (P : Params) : Obj := (Obj.mk (Value.type "tuple") none (Data.seq (List.toArray []) 0) (List.toArray []))
@[reducible] noncomputable def hd.o19 (P : Params) : Obj := cdAt 0 rfl
@[reducible] noncomputable def hd.o20 (P : Params) : Obj := (Obj.mk (Value.type "code") none (Data.fields (List.toArray [(Value.str (Str.ofString "_wall") 187), (Value.str (Str.ofString "_wall") 188), (Value.str (Str.ofString "/claim/cut.py") 189), (Value.int 1 0), (Value.int 1 0), (Value.int 0 0), (Value.int 0 0), (Value.int 3 0), (Value.ref 15), (Value.bool Bool.true), (Value.int 181 0), (Value.ref 16), Value.none, (Value.ref 17), (Value.ref 18), (Value.ref 19), (Value.int 191 0), (Value.int 1 0), (Value.str (Str.ofString "/claim/cut.py") 192)])) (List.toArray []))
@[reducible] noncomputable def hd.o21 (P : Params) : Obj := fnAt 0 Value.none (Value.str (Str.ofString "__main__") 164) 20 rfl
@[reducible] noncomputable def hd.o22 (P : Params) : Obj := (Obj.mk (Value.type "tuple") none (Data.seq (List.toArray []) 0) (List.toArray []))
@[reducible] noncomputable def hd.o23 (P : Params) : Obj := (Obj.mk (Value.type "builtin_function_or_method") none (Data.fields (List.toArray [(Value.builtin "type.__prepare__"), (Value.type "type")])) (List.toArray []))
@[reducible] noncomputable def hd.o24 (P : Params) : Obj := (Obj.mk (Value.type "dict") none (Data.dict (List.toArray [(DictEntry.mk (PyData.keyHash P (Str.ofString "__module__")) (Value.str (Str.ofString "__module__") 203) (Value.str (Str.ofString "phpcore.slots") 194)), (DictEntry.mk (PyData.keyHash P (Str.ofString "__qualname__")) (Value.str (Str.ofString "__qualname__") 205) (Value.str (Str.ofString "Ref") 204)), (DictEntry.mk (PyData.keyHash P (Str.ofString "__firstlineno__")) (Value.str (Str.ofString "__firstlineno__") 207) (Value.int 5 206)), (DictEntry.mk (PyData.keyHash P (Str.ofString "__init__")) (Value.str (Str.ofString "__init__") 215) (Value.ref 36)), (DictEntry.mk (PyData.keyHash P (Str.ofString "__static_attributes__")) (Value.str (Str.ofString "__static_attributes__") 219) (Value.ref 37))]) 5) (List.toArray []))
@[reducible] noncomputable def hd.o25 (P : Params) : Obj := (Obj.mk (Value.type "tuple") none (Data.seq (List.toArray []) 0) (List.toArray []))
@[reducible] noncomputable def hd.o26 (P : Params) : Obj := (Obj.mk Value.none none (Data.fields (List.toArray [(Value.int 7 0), (Value.int 4 0), (Value.ref 35)])) (List.toArray []))
@[reducible] noncomputable def hd.o27 (P : Params) : Obj := (Obj.mk (Value.type "code") none (Data.fields (List.toArray [(Value.str (Str.ofString "Ref") 198), (Value.str (Str.ofString "Ref") 199), (Value.str (Str.ofString "/claim/cut.py") 200), (Value.int 5 0), (Value.int 0 0), (Value.int 0 0), (Value.int 0 0), (Value.int 0 0), (Value.ref 25), (Value.bool Bool.false), (Value.int 181 0), (Value.ref 26), Value.none, Value.none, Value.none, Value.none, (Value.int 201 0), (Value.int 5 0), (Value.str (Str.ofString "/claim/cut.py") 202)])) (List.toArray []))
@[reducible] noncomputable def hd.o28 (P : Params) : Obj := (Obj.mk (Value.type "frame") none Data.plain (List.toArray [(some (Value.ref 27)), (some (Value.ref 3)), (some (Value.ref 24)), none, (some (Value.str (Str.ofString "phpcore.slots") 194)), none, (some (Value.ref 0))]))
@[reducible] noncomputable def hd.o29 (P : Params) : Obj := (Obj.mk (Value.type "tuple") none (Data.seq (List.toArray [Value.none]) 0) (List.toArray []))
@[reducible] noncomputable def hd.o30 (P : Params) : Obj := (Obj.mk (Value.type "tuple") none (Data.seq (List.toArray []) 0) (List.toArray []))
@[reducible] noncomputable def hd.o31 (P : Params) : Obj := (Obj.mk Value.none none (Data.fields (List.toArray [])) (List.toArray []))
@[reducible] noncomputable def hd.o32 (P : Params) : Obj := (Obj.mk (Value.type "tuple") none (Data.seq (List.toArray [(Value.str (Str.ofString "self") 211), (Value.str (Str.ofString "value") 212)]) 0) (List.toArray []))
@[reducible] noncomputable def hd.o33 (P : Params) : Obj := (Obj.mk (Value.type "tuple") none (Data.seq (List.toArray []) 0) (List.toArray []))
@[reducible] noncomputable def hd.o34 (P : Params) : Obj := cmethAt 2 0 (Str.ofString "Ref.__init__") rfl rfl
@[reducible] noncomputable def hd.o35 (P : Params) : Obj := (Obj.mk (Value.type "code") none (Data.fields (List.toArray [(Value.str (Str.ofString "__init__") 208), (Value.str (Str.ofString "Ref.__init__") 209), (Value.str (Str.ofString "/claim/cut.py") 210), (Value.int 7 0), (Value.int 2 0), (Value.int 0 0), (Value.int 0 0), (Value.int 3 0), (Value.ref 30), (Value.bool Bool.true), (Value.int 181 0), (Value.ref 31), Value.none, (Value.ref 32), (Value.ref 33), (Value.ref 34), (Value.int 213 0), (Value.int 7 0), (Value.str (Str.ofString "/claim/cut.py") 214)])) (List.toArray []))
@[reducible] noncomputable def hd.o36 (P : Params) : Obj := methAt 2 0 (Str.ofString "Ref.__init__") (Value.ref 29) (Value.str (Str.ofString "phpcore.slots") 194) 35 rfl rfl
@[reducible] noncomputable def hd.o37 (P : Params) : Obj := (Obj.mk (Value.type "tuple") none (Data.seq (List.toArray [(Value.str (Str.ofString "holders") 216), (Value.str (Str.ofString "types") 217), (Value.str (Str.ofString "value") 218)]) 0) (List.toArray []))
@[reducible] noncomputable def hd.o38 (P : Params) : Obj := (Obj.mk (Value.type "dict") none (Data.dict (List.toArray [(DictEntry.mk (PyData.keyHash P (Str.ofString "__module__")) (Value.str (Str.ofString "__module__") 203) (Value.str (Str.ofString "phpcore.slots") 194)), (DictEntry.mk (PyData.keyHash P (Str.ofString "__firstlineno__")) (Value.str (Str.ofString "__firstlineno__") 207) (Value.int 5 206)), (DictEntry.mk (PyData.keyHash P (Str.ofString "__init__")) (Value.str (Str.ofString "__init__") 215) (Value.ref 36)), (DictEntry.mk (PyData.keyHash P (Str.ofString "__static_attributes__")) (Value.str (Str.ofString "__static_attributes__") 219) (Value.ref 37)), (DictEntry.mk (PyData.keyHash P (Str.ofString "__dict__")) (Value.str (Str.ofString "__dict__") 221) (Value.ref 40)), (DictEntry.mk (PyData.keyHash P (Str.ofString "__weakref__")) (Value.str (Str.ofString "__weakref__") 223) (Value.ref 41)), (DictEntry.mk (PyData.keyHash P (Str.ofString "__doc__")) (Value.str (Str.ofString "__doc__") 224) Value.none)]) 4) (List.toArray []))
@[reducible] noncomputable def hd.o39 (P : Params) : Obj := (Obj.mk (Value.type "type") none (Data.cls (ClassData.mk (Str.ofString "Ref") [(Value.type "object")] [(Value.ref 39), (Value.type "object")] 38 (Str.ofString "Ref") Bool.true [] [] Bool.false none Bool.false)) (List.toArray [none, none, (some (Value.str (Str.ofString "Ref") 196)), (some (Value.str (Str.ofString "Ref") 204)), (some (Value.builtin "object.__new__")), (some (Value.bool Bool.true))]))
@[reducible] noncomputable def hd.o40 (P : Params) : Obj := (Obj.mk (Value.type "getset_descriptor") none (Data.fields (List.toArray [(Value.str (Str.ofString "__dict__") 220), (Value.ref 39), (Value.builtin "function.__dict__"), (Value.builtin "function.__dict__#set")])) (List.toArray []))
@[reducible] noncomputable def hd.o41 (P : Params) : Obj := (Obj.mk (Value.type "getset_descriptor") none (Data.fields (List.toArray [(Value.str (Str.ofString "__weakref__") 222), (Value.ref 39), (Value.builtin "ExceptionGroup.__weakref__"), Value.none])) (List.toArray []))
@[reducible] noncomputable def hd.o42 (P : Params) : Obj := (Obj.mk (Value.type "super") none (Data.fields (List.toArray [(Value.ref 39), (Value.ref 39), (Value.ref 39)])) (List.toArray []))
@[reducible] noncomputable def hd.o43 (P : Params) : Obj := (Obj.mk (Value.type "builtin_function_or_method") none (Data.fields (List.toArray [(Value.builtin "object.__init_subclass__"), (Value.ref 39)])) (List.toArray []))
@[reducible] noncomputable def hd.o44 (P : Params) : Obj := (Obj.mk (Value.type "tuple") none (Data.seq (List.toArray []) 0) (List.toArray []))
@[reducible] noncomputable def hd.o45 (P : Params) : Obj := (Obj.mk (Value.type "builtin_function_or_method") none (Data.fields (List.toArray [(Value.builtin "type.__prepare__"), (Value.type "type")])) (List.toArray []))
@[reducible] noncomputable def hd.o46 (P : Params) : Obj := (Obj.mk (Value.type "dict") none (Data.dict (List.toArray [(DictEntry.mk (PyData.keyHash P (Str.ofString "__module__")) (Value.str (Str.ofString "__module__") 234) (Value.str (Str.ofString "phpcore.slots") 194)), (DictEntry.mk (PyData.keyHash P (Str.ofString "__qualname__")) (Value.str (Str.ofString "__qualname__") 236) (Value.str (Str.ofString "Absent") 235)), (DictEntry.mk (PyData.keyHash P (Str.ofString "__firstlineno__")) (Value.str (Str.ofString "__firstlineno__") 238) (Value.int 11 237)), (DictEntry.mk (PyData.keyHash P (Str.ofString "__init__")) (Value.str (Str.ofString "__init__") 246) (Value.ref 58)), (DictEntry.mk (PyData.keyHash P (Str.ofString "__static_attributes__")) (Value.str (Str.ofString "__static_attributes__") 248) (Value.ref 59))]) 5) (List.toArray []))
@[reducible] noncomputable def hd.o47 (P : Params) : Obj := (Obj.mk (Value.type "tuple") none (Data.seq (List.toArray []) 0) (List.toArray []))
@[reducible] noncomputable def hd.o48 (P : Params) : Obj := (Obj.mk Value.none none (Data.fields (List.toArray [(Value.int 13 0), (Value.int 4 0), (Value.ref 57)])) (List.toArray []))
@[reducible] noncomputable def hd.o49 (P : Params) : Obj := (Obj.mk (Value.type "code") none (Data.fields (List.toArray [(Value.str (Str.ofString "Absent") 229), (Value.str (Str.ofString "Absent") 230), (Value.str (Str.ofString "/claim/cut.py") 231), (Value.int 11 0), (Value.int 0 0), (Value.int 0 0), (Value.int 0 0), (Value.int 0 0), (Value.ref 47), (Value.bool Bool.false), (Value.int 181 0), (Value.ref 48), Value.none, Value.none, Value.none, Value.none, (Value.int 232 0), (Value.int 11 0), (Value.str (Str.ofString "/claim/cut.py") 233)])) (List.toArray []))
@[reducible] noncomputable def hd.o50 (P : Params) : Obj := (Obj.mk (Value.type "frame") none Data.plain (List.toArray [(some (Value.ref 49)), (some (Value.ref 3)), (some (Value.ref 46)), none, (some (Value.str (Str.ofString "phpcore.slots") 194)), none, (some (Value.ref 0))]))
@[reducible] noncomputable def hd.o51 (P : Params) : Obj := (Obj.mk (Value.type "tuple") none (Data.seq (List.toArray [(Value.bool Bool.false)]) 0) (List.toArray []))
@[reducible] noncomputable def hd.o52 (P : Params) : Obj := (Obj.mk (Value.type "tuple") none (Data.seq (List.toArray []) 0) (List.toArray []))
@[reducible] noncomputable def hd.o53 (P : Params) : Obj := (Obj.mk Value.none none (Data.fields (List.toArray [])) (List.toArray []))
@[reducible] noncomputable def hd.o54 (P : Params) : Obj := (Obj.mk (Value.type "tuple") none (Data.seq (List.toArray [(Value.str (Str.ofString "self") 242), (Value.str (Str.ofString "was_unset") 243)]) 0) (List.toArray []))
@[reducible] noncomputable def hd.o55 (P : Params) : Obj := (Obj.mk (Value.type "tuple") none (Data.seq (List.toArray []) 0) (List.toArray []))
@[reducible] noncomputable def hd.o56 (P : Params) : Obj := cmethAt 3 0 (Str.ofString "Absent.__init__") rfl rfl
@[reducible] noncomputable def hd.o57 (P : Params) : Obj := (Obj.mk (Value.type "code") none (Data.fields (List.toArray [(Value.str (Str.ofString "__init__") 239), (Value.str (Str.ofString "Absent.__init__") 240), (Value.str (Str.ofString "/claim/cut.py") 241), (Value.int 13 0), (Value.int 2 0), (Value.int 0 0), (Value.int 0 0), (Value.int 3 0), (Value.ref 52), (Value.bool Bool.true), (Value.int 181 0), (Value.ref 53), Value.none, (Value.ref 54), (Value.ref 55), (Value.ref 56), (Value.int 244 0), (Value.int 13 0), (Value.str (Str.ofString "/claim/cut.py") 245)])) (List.toArray []))
@[reducible] noncomputable def hd.o58 (P : Params) : Obj := methAt 3 0 (Str.ofString "Absent.__init__") (Value.ref 51) (Value.str (Str.ofString "phpcore.slots") 194) 57 rfl rfl
@[reducible] noncomputable def hd.o59 (P : Params) : Obj := (Obj.mk (Value.type "tuple") none (Data.seq (List.toArray [(Value.str (Str.ofString "was_unset") 247)]) 0) (List.toArray []))
@[reducible] noncomputable def hd.o60 (P : Params) : Obj := (Obj.mk (Value.type "dict") none (Data.dict (List.toArray [(DictEntry.mk (PyData.keyHash P (Str.ofString "__module__")) (Value.str (Str.ofString "__module__") 234) (Value.str (Str.ofString "phpcore.slots") 194)), (DictEntry.mk (PyData.keyHash P (Str.ofString "__firstlineno__")) (Value.str (Str.ofString "__firstlineno__") 238) (Value.int 11 237)), (DictEntry.mk (PyData.keyHash P (Str.ofString "__init__")) (Value.str (Str.ofString "__init__") 246) (Value.ref 58)), (DictEntry.mk (PyData.keyHash P (Str.ofString "__static_attributes__")) (Value.str (Str.ofString "__static_attributes__") 248) (Value.ref 59)), (DictEntry.mk (PyData.keyHash P (Str.ofString "__dict__")) (Value.str (Str.ofString "__dict__") 250) (Value.ref 62)), (DictEntry.mk (PyData.keyHash P (Str.ofString "__weakref__")) (Value.str (Str.ofString "__weakref__") 252) (Value.ref 63)), (DictEntry.mk (PyData.keyHash P (Str.ofString "__doc__")) (Value.str (Str.ofString "__doc__") 253) Value.none)]) 4) (List.toArray []))
@[reducible] noncomputable def hd.o61 (P : Params) : Obj := (Obj.mk (Value.type "type") none (Data.cls (ClassData.mk (Str.ofString "Absent") [(Value.type "object")] [(Value.ref 61), (Value.type "object")] 60 (Str.ofString "Absent") Bool.true [] [] Bool.false none Bool.false)) (List.toArray [none, none, (some (Value.str (Str.ofString "Absent") 227)), (some (Value.str (Str.ofString "Absent") 235)), (some (Value.builtin "object.__new__")), (some (Value.bool Bool.true))]))
@[reducible] noncomputable def hd.o62 (P : Params) : Obj := (Obj.mk (Value.type "getset_descriptor") none (Data.fields (List.toArray [(Value.str (Str.ofString "__dict__") 249), (Value.ref 61), (Value.builtin "function.__dict__"), (Value.builtin "function.__dict__#set")])) (List.toArray []))
@[reducible] noncomputable def hd.o63 (P : Params) : Obj := (Obj.mk (Value.type "getset_descriptor") none (Data.fields (List.toArray [(Value.str (Str.ofString "__weakref__") 251), (Value.ref 61), (Value.builtin "ExceptionGroup.__weakref__"), Value.none])) (List.toArray []))
@[reducible] noncomputable def hd.o64 (P : Params) : Obj := (Obj.mk (Value.type "super") none (Data.fields (List.toArray [(Value.ref 61), (Value.ref 61), (Value.ref 61)])) (List.toArray []))
@[reducible] noncomputable def hd.o65 (P : Params) : Obj := (Obj.mk (Value.type "builtin_function_or_method") none (Data.fields (List.toArray [(Value.builtin "object.__init_subclass__"), (Value.ref 61)])) (List.toArray []))
@[reducible] noncomputable def hd.o66 (P : Params) : Obj := (Obj.mk (Value.type "tuple") none (Data.seq (List.toArray []) 0) (List.toArray []))
@[reducible] noncomputable def hd.o67 (P : Params) : Obj := (Obj.mk Value.none none (Data.fields (List.toArray [])) (List.toArray []))
@[reducible] noncomputable def hd.o68 (P : Params) : Obj := (Obj.mk (Value.type "tuple") none (Data.seq (List.toArray [(Value.str (Str.ofString "slot") 259)]) 0) (List.toArray []))
@[reducible] noncomputable def hd.o69 (P : Params) : Obj := (Obj.mk (Value.type "tuple") none (Data.seq (List.toArray []) 0) (List.toArray []))
@[reducible] noncomputable def hd.o70 (P : Params) : Obj := cdAt 4 rfl
@[reducible] noncomputable def hd.o71 (P : Params) : Obj := (Obj.mk (Value.type "code") none (Data.fields (List.toArray [(Value.str (Str.ofString "deref") 256), (Value.str (Str.ofString "deref") 257), (Value.str (Str.ofString "/claim/cut.py") 258), (Value.int 15 0), (Value.int 1 0), (Value.int 0 0), (Value.int 0 0), (Value.int 3 0), (Value.ref 66), (Value.bool Bool.true), (Value.int 181 0), (Value.ref 67), Value.none, (Value.ref 68), (Value.ref 69), (Value.ref 70), (Value.int 260 0), (Value.int 15 0), (Value.str (Str.ofString "/claim/cut.py") 261)])) (List.toArray []))
@[reducible] noncomputable def hd.o72 (P : Params) : Obj := fnAt 4 Value.none (Value.str (Str.ofString "phpcore.slots") 194) 71 rfl
@[reducible] noncomputable def hd.o73 (P : Params) : Obj := (Obj.mk (Value.type "tuple") none (Data.seq (List.toArray [(Value.type "Exception")]) 0) (List.toArray []))
@[reducible] noncomputable def hd.o74 (P : Params) : Obj := (Obj.mk (Value.type "builtin_function_or_method") none (Data.fields (List.toArray [(Value.builtin "type.__prepare__"), (Value.type "type")])) (List.toArray []))
@[reducible] noncomputable def hd.o75 (P : Params) : Obj := (Obj.mk (Value.type "dict") none (Data.dict (List.toArray [(DictEntry.mk (PyData.keyHash P (Str.ofString "__module__")) (Value.str (Str.ofString "__module__") 272) (Value.str (Str.ofString "phpcore.faults") 263)), (DictEntry.mk (PyData.keyHash P (Str.ofString "__qualname__")) (Value.str (Str.ofString "__qualname__") 274) (Value.str (Str.ofString "Thrown") 273)), (DictEntry.mk (PyData.keyHash P (Str.ofString "__firstlineno__")) (Value.str (Str.ofString "__firstlineno__") 276) (Value.int 22 275)), (DictEntry.mk (PyData.keyHash P (Str.ofString "__init__")) (Value.str (Str.ofString "__init__") 288) (Value.ref 87)), (DictEntry.mk (PyData.keyHash P (Str.ofString "__static_attributes__")) (Value.str (Str.ofString "__static_attributes__") 294) (Value.ref 88))]) 5) (List.toArray []))
@[reducible] noncomputable def hd.o76 (P : Params) : Obj := (Obj.mk (Value.type "tuple") none (Data.seq (List.toArray []) 0) (List.toArray []))
@[reducible] noncomputable def hd.o77 (P : Params) : Obj := (Obj.mk Value.none none (Data.fields (List.toArray [(Value.int 24 0), (Value.int 4 0), (Value.ref 86)])) (List.toArray []))
@[reducible] noncomputable def hd.o78 (P : Params) : Obj := (Obj.mk (Value.type "code") none (Data.fields (List.toArray [(Value.str (Str.ofString "Thrown") 267), (Value.str (Str.ofString "Thrown") 268), (Value.str (Str.ofString "/claim/cut.py") 269), (Value.int 22 0), (Value.int 0 0), (Value.int 0 0), (Value.int 0 0), (Value.int 0 0), (Value.ref 76), (Value.bool Bool.false), (Value.int 181 0), (Value.ref 77), Value.none, Value.none, Value.none, Value.none, (Value.int 270 0), (Value.int 22 0), (Value.str (Str.ofString "/claim/cut.py") 271)])) (List.toArray []))
@[reducible] noncomputable def hd.o79 (P : Params) : Obj := (Obj.mk (Value.type "frame") none Data.plain (List.toArray [(some (Value.ref 78)), (some (Value.ref 3)), (some (Value.ref 75)), none, (some (Value.str (Str.ofString "phpcore.faults") 263)), none, (some (Value.ref 0))]))
@[reducible] noncomputable def hd.o80 (P : Params) : Obj := (Obj.mk (Value.type "tuple") none (Data.seq (List.toArray [(Value.int 0 277), Value.none]) 0) (List.toArray []))
@[reducible] noncomputable def hd.o81 (P : Params) : Obj := (Obj.mk (Value.type "tuple") none (Data.seq (List.toArray []) 0) (List.toArray []))
@[reducible] noncomputable def hd.o82 (P : Params) : Obj := (Obj.mk Value.none none (Data.fields (List.toArray [])) (List.toArray []))
@[reducible] noncomputable def hd.o83 (P : Params) : Obj := (Obj.mk (Value.type "tuple") none (Data.seq (List.toArray [(Value.str (Str.ofString "self") 281), (Value.str (Str.ofString "name") 282), (Value.str (Str.ofString "text") 283), (Value.str (Str.ofString "code") 284), (Value.str (Str.ofString "value") 285)]) 0) (List.toArray []))
@[reducible] noncomputable def hd.o84 (P : Params) : Obj := (Obj.mk (Value.type "tuple") none (Data.seq (List.toArray []) 0) (List.toArray []))
@[reducible] noncomputable def hd.o85 (P : Params) : Obj := cmethAt 6 0 (Str.ofString "Thrown.__init__") rfl rfl
@[reducible] noncomputable def hd.o86 (P : Params) : Obj := (Obj.mk (Value.type "code") none (Data.fields (List.toArray [(Value.str (Str.ofString "__init__") 278), (Value.str (Str.ofString "Thrown.__init__") 279), (Value.str (Str.ofString "/claim/cut.py") 280), (Value.int 24 0), (Value.int 5 0), (Value.int 0 0), (Value.int 0 0), (Value.int 3 0), (Value.ref 81), (Value.bool Bool.true), (Value.int 181 0), (Value.ref 82), Value.none, (Value.ref 83), (Value.ref 84), (Value.ref 85), (Value.int 286 0), (Value.int 24 0), (Value.str (Str.ofString "/claim/cut.py") 287)])) (List.toArray []))
@[reducible] noncomputable def hd.o87 (P : Params) : Obj := methAt 6 0 (Str.ofString "Thrown.__init__") (Value.ref 80) (Value.str (Str.ofString "phpcore.faults") 263) 86 rfl rfl
@[reducible] noncomputable def hd.o88 (P : Params) : Obj := (Obj.mk (Value.type "tuple") none (Data.seq (List.toArray [(Value.str (Str.ofString "code") 289), (Value.str (Str.ofString "name") 290), (Value.str (Str.ofString "previous") 291), (Value.str (Str.ofString "text") 292), (Value.str (Str.ofString "value") 293)]) 0) (List.toArray []))
@[reducible] noncomputable def hd.o89 (P : Params) : Obj := (Obj.mk (Value.type "dict") none (Data.dict (List.toArray [(DictEntry.mk (PyData.keyHash P (Str.ofString "__module__")) (Value.str (Str.ofString "__module__") 272) (Value.str (Str.ofString "phpcore.faults") 263)), (DictEntry.mk (PyData.keyHash P (Str.ofString "__firstlineno__")) (Value.str (Str.ofString "__firstlineno__") 276) (Value.int 22 275)), (DictEntry.mk (PyData.keyHash P (Str.ofString "__init__")) (Value.str (Str.ofString "__init__") 288) (Value.ref 87)), (DictEntry.mk (PyData.keyHash P (Str.ofString "__static_attributes__")) (Value.str (Str.ofString "__static_attributes__") 294) (Value.ref 88)), (DictEntry.mk (PyData.keyHash P (Str.ofString "__weakref__")) (Value.str (Str.ofString "__weakref__") 296) (Value.ref 91)), (DictEntry.mk (PyData.keyHash P (Str.ofString "__doc__")) (Value.str (Str.ofString "__doc__") 297) Value.none)]) 3) (List.toArray []))
@[reducible] noncomputable def hd.o90 (P : Params) : Obj := (Obj.mk (Value.type "type") none (Data.cls (ClassData.mk (Str.ofString "Thrown") [(Value.type "Exception")] [(Value.ref 90), (Value.type "Exception"), (Value.type "BaseException"), (Value.type "object")] 89 (Str.ofString "Thrown") Bool.true [] [] Bool.false none Bool.false)) (List.toArray [(some (Value.ref 73)), none, (some (Value.str (Str.ofString "Thrown") 265)), (some (Value.str (Str.ofString "Thrown") 273)), (some (Value.builtin "Exception.__new__")), (some (Value.bool Bool.true))]))
@[reducible] noncomputable def hd.o91 (P : Params) : Obj := (Obj.mk (Value.type "getset_descriptor") none (Data.fields (List.toArray [(Value.str (Str.ofString "__weakref__") 295), (Value.ref 90), (Value.builtin "ExceptionGroup.__weakref__"), Value.none])) (List.toArray []))
@[reducible] noncomputable def hd.o92 (P : Params) : Obj := (Obj.mk (Value.type "super") none (Data.fields (List.toArray [(Value.ref 90), (Value.ref 90), (Value.ref 90)])) (List.toArray []))
@[reducible] noncomputable def hd.o93 (P : Params) : Obj := (Obj.mk (Value.type "builtin_function_or_method") none (Data.fields (List.toArray [(Value.builtin "object.__init_subclass__"), (Value.ref 90)])) (List.toArray []))
@[reducible] noncomputable def hd.o94 (P : Params) : Obj := (Obj.mk (Value.type "tuple") none (Data.seq (List.toArray []) 0) (List.toArray []))
@[reducible] noncomputable def hd.o95 (P : Params) : Obj := (Obj.mk Value.none none (Data.fields (List.toArray [])) (List.toArray []))
@[reducible] noncomputable def hd.o96 (P : Params) : Obj := (Obj.mk (Value.type "tuple") none (Data.seq (List.toArray [(Value.str (Str.ofString "text") 305)]) 0) (List.toArray []))
@[reducible] noncomputable def hd.o97 (P : Params) : Obj := (Obj.mk (Value.type "tuple") none (Data.seq (List.toArray []) 0) (List.toArray []))
@[reducible] noncomputable def hd.o98 (P : Params) : Obj := cdAt 7 rfl
@[reducible] noncomputable def hd.o99 (P : Params) : Obj := (Obj.mk (Value.type "code") none (Data.fields (List.toArray [(Value.str (Str.ofString "error") 302), (Value.str (Str.ofString "error") 303), (Value.str (Str.ofString "/claim/cut.py") 304), (Value.int 31 0), (Value.int 1 0), (Value.int 0 0), (Value.int 0 0), (Value.int 3 0), (Value.ref 94), (Value.bool Bool.true), (Value.int 181 0), (Value.ref 95), Value.none, (Value.ref 96), (Value.ref 97), (Value.ref 98), (Value.int 306 0), (Value.int 31 0), (Value.str (Str.ofString "/claim/cut.py") 307)])) (List.toArray []))
@[reducible] noncomputable def hd.o100 (P : Params) : Obj := fnAt 7 Value.none (Value.str (Str.ofString "phpcore.faults") 263) 99 rfl
@[reducible] noncomputable def hd.o101 (P : Params) : Obj := (Obj.mk (Value.type "tuple") none (Data.seq (List.toArray []) 0) (List.toArray []))
@[reducible] noncomputable def hd.o102 (P : Params) : Obj := (Obj.mk Value.none none (Data.fields (List.toArray [])) (List.toArray []))
@[reducible] noncomputable def hd.o103 (P : Params) : Obj := (Obj.mk (Value.type "tuple") none (Data.seq (List.toArray []) 0) (List.toArray []))
@[reducible] noncomputable def hd.o104 (P : Params) : Obj := (Obj.mk (Value.type "tuple") none (Data.seq (List.toArray []) 0) (List.toArray []))
@[reducible] noncomputable def hd.o105 (P : Params) : Obj := cdAt 8 rfl
@[reducible] noncomputable def hd.o106 (P : Params) : Obj := (Obj.mk (Value.type "code") none (Data.fields (List.toArray [(Value.str (Str.ofString "least") 309), (Value.str (Str.ofString "least") 310), (Value.str (Str.ofString "/claim/cut.py") 311), (Value.int 33 0), (Value.int 0 0), (Value.int 0 0), (Value.int 0 0), (Value.int 3 0), (Value.ref 101), (Value.bool Bool.true), (Value.int 181 0), (Value.ref 102), Value.none, (Value.ref 103), (Value.ref 104), (Value.ref 105), (Value.int 312 0), (Value.int 33 0), (Value.str (Str.ofString "/claim/cut.py") 313)])) (List.toArray []))
@[reducible] noncomputable def hd.o107 (P : Params) : Obj := fnAt 8 Value.none (Value.str (Str.ofString "phpcore.faults") 263) 106 rfl
@[reducible] noncomputable def hd.o108 (P : Params) : Obj := (Obj.mk (Value.type "tuple") none (Data.seq (List.toArray []) 0) (List.toArray []))
@[reducible] noncomputable def hd.o109 (P : Params) : Obj := (Obj.mk Value.none none (Data.fields (List.toArray [])) (List.toArray []))
@[reducible] noncomputable def hd.o110 (P : Params) : Obj := (Obj.mk (Value.type "tuple") none (Data.seq (List.toArray []) 0) (List.toArray []))
@[reducible] noncomputable def hd.o111 (P : Params) : Obj := (Obj.mk (Value.type "tuple") none (Data.seq (List.toArray []) 0) (List.toArray []))
@[reducible] noncomputable def hd.o112 (P : Params) : Obj := cdAt 9 rfl
@[reducible] noncomputable def hd.o113 (P : Params) : Obj := (Obj.mk (Value.type "code") none (Data.fields (List.toArray [(Value.str (Str.ofString "greatest") 315), (Value.str (Str.ofString "greatest") 316), (Value.str (Str.ofString "/claim/cut.py") 317), (Value.int 35 0), (Value.int 0 0), (Value.int 0 0), (Value.int 0 0), (Value.int 3 0), (Value.ref 108), (Value.bool Bool.true), (Value.int 181 0), (Value.ref 109), Value.none, (Value.ref 110), (Value.ref 111), (Value.ref 112), (Value.int 318 0), (Value.int 35 0), (Value.str (Str.ofString "/claim/cut.py") 319)])) (List.toArray []))
@[reducible] noncomputable def hd.o114 (P : Params) : Obj := fnAt 9 Value.none (Value.str (Str.ofString "phpcore.faults") 263) 113 rfl
@[reducible] noncomputable def hd.o115 (P : Params) : Obj := (Obj.mk (Value.type "tuple") none (Data.seq (List.toArray []) 0) (List.toArray []))
@[reducible] noncomputable def hd.o116 (P : Params) : Obj := (Obj.mk (Value.type "builtin_function_or_method") none (Data.fields (List.toArray [(Value.builtin "type.__prepare__"), (Value.type "type")])) (List.toArray []))
@[reducible] noncomputable def hd.o117 (P : Params) : Obj := (Obj.mk (Value.type "dict") none (Data.dict (List.toArray [(DictEntry.mk (PyData.keyHash P (Str.ofString "__module__")) (Value.str (Str.ofString "__module__") 330) (Value.str (Str.ofString "phpcore.table") 321)), (DictEntry.mk (PyData.keyHash P (Str.ofString "__qualname__")) (Value.str (Str.ofString "__qualname__") 332) (Value.str (Str.ofString "Arr") 331)), (DictEntry.mk (PyData.keyHash P (Str.ofString "__firstlineno__")) (Value.str (Str.ofString "__firstlineno__") 334) (Value.int 38 333)), (DictEntry.mk (PyData.keyHash P (Str.ofString "__init__")) (Value.str (Str.ofString "__init__") 343) (Value.ref 129)), (DictEntry.mk (PyData.keyHash P (Str.ofString "find")) (Value.str (Str.ofString "find") 352) (Value.ref 136)), (DictEntry.mk (PyData.keyHash P (Str.ofString "has")) (Value.str (Str.ofString "has") 360) (Value.ref 143)), (DictEntry.mk (PyData.keyHash P (Str.ofString "slot")) (Value.str (Str.ofString "slot") 369) (Value.ref 150)), (DictEntry.mk (PyData.keyHash P (Str.ofString "get")) (Value.str (Str.ofString "get") 377) (Value.ref 157)), (DictEntry.mk (PyData.keyHash P (Str.ofString "put")) (Value.str (Str.ofString "put") 386) (Value.ref 164)), (DictEntry.mk (PyData.keyHash P (Str.ofString "append")) (Value.str (Str.ofString "append") 395) (Value.ref 171)), (DictEntry.mk (PyData.keyHash P (Str.ofString "drop")) (Value.str (Str.ofString "drop") 403) (Value.ref 178)), (DictEntry.mk (PyData.keyHash P (Str.ofString "key_at")) (Value.str (Str.ofString "key_at") 411) (Value.ref 185)), (DictEntry.mk (PyData.keyHash P (Str.ofString "__static_attributes__")) (Value.str (Str.ofString "__static_attributes__") 423) (Value.ref 186))]) 13) (List.toArray []))
@[reducible] noncomputable def hd.o118 (P : Params) : Obj := (Obj.mk (Value.type "tuple") none (Data.seq (List.toArray []) 0) (List.toArray []))
@[reducible] noncomputable def hd.o119 (P : Params) : Obj := (Obj.mk Value.none none (Data.fields (List.toArray [(Value.int 40 0), (Value.int 4 0), (Value.ref 128), (Value.int 53 0), (Value.int 4 0), (Value.ref 135), (Value.int 61 0), (Value.int 4 0), (Value.ref 142), (Value.int 64 0), (Value.int 4 0), (Value.ref 149), (Value.int 68 0), (Value.int 4 0), (Value.ref 156), (Value.int 71 0), (Value.int 4 0), (Value.ref 163), (Value.int 74 0), (Value.int 4 0), (Value.ref 170), (Value.int 81 0), (Value.int 4 0), (Value.ref 177), (Value.int 84 0), (Value.int 4 0), (Value.ref 184)])) (List.toArray []))
@[reducible] noncomputable def hd.o120 (P : Params) : Obj := (Obj.mk (Value.type "code") none (Data.fields (List.toArray [(Value.str (Str.ofString "Arr") 325), (Value.str (Str.ofString "Arr") 326), (Value.str (Str.ofString "/claim/cut.py") 327), (Value.int 38 0), (Value.int 0 0), (Value.int 0 0), (Value.int 0 0), (Value.int 0 0), (Value.ref 118), (Value.bool Bool.false), (Value.int 181 0), (Value.ref 119), Value.none, Value.none, Value.none, Value.none, (Value.int 328 0), (Value.int 38 0), (Value.str (Str.ofString "/claim/cut.py") 329)])) (List.toArray []))
@[reducible] noncomputable def hd.o121 (P : Params) : Obj := (Obj.mk (Value.type "frame") none Data.plain (List.toArray [(some (Value.ref 120)), (some (Value.ref 3)), (some (Value.ref 117)), none, (some (Value.str (Str.ofString "phpcore.table") 321)), none, (some (Value.ref 0))]))
@[reducible] noncomputable def hd.o122 (P : Params) : Obj := (Obj.mk (Value.type "tuple") none (Data.seq (List.toArray [(Value.int 8 335)]) 0) (List.toArray []))
@[reducible] noncomputable def hd.o123 (P : Params) : Obj := (Obj.mk (Value.type "tuple") none (Data.seq (List.toArray []) 0) (List.toArray []))
@[reducible] noncomputable def hd.o124 (P : Params) : Obj := (Obj.mk Value.none none (Data.fields (List.toArray [])) (List.toArray []))
@[reducible] noncomputable def hd.o125 (P : Params) : Obj := (Obj.mk (Value.type "tuple") none (Data.seq (List.toArray [(Value.str (Str.ofString "self") 339), (Value.str (Str.ofString "size") 340)]) 0) (List.toArray []))
@[reducible] noncomputable def hd.o126 (P : Params) : Obj := (Obj.mk (Value.type "tuple") none (Data.seq (List.toArray []) 0) (List.toArray []))
@[reducible] noncomputable def hd.o127 (P : Params) : Obj := cmethAt 11 0 (Str.ofString "Arr.__init__") rfl rfl
@[reducible] noncomputable def hd.o128 (P : Params) : Obj := (Obj.mk (Value.type "code") none (Data.fields (List.toArray [(Value.str (Str.ofString "__init__") 336), (Value.str (Str.ofString "Arr.__init__") 337), (Value.str (Str.ofString "/claim/cut.py") 338), (Value.int 40 0), (Value.int 2 0), (Value.int 0 0), (Value.int 0 0), (Value.int 3 0), (Value.ref 123), (Value.bool Bool.true), (Value.int 181 0), (Value.ref 124), Value.none, (Value.ref 125), (Value.ref 126), (Value.ref 127), (Value.int 341 0), (Value.int 40 0), (Value.str (Str.ofString "/claim/cut.py") 342)])) (List.toArray []))
@[reducible] noncomputable def hd.o129 (P : Params) : Obj := methAt 11 0 (Str.ofString "Arr.__init__") (Value.ref 122) (Value.str (Str.ofString "phpcore.table") 321) 128 rfl rfl
@[reducible] noncomputable def hd.o130 (P : Params) : Obj := (Obj.mk (Value.type "tuple") none (Data.seq (List.toArray []) 0) (List.toArray []))
@[reducible] noncomputable def hd.o131 (P : Params) : Obj := (Obj.mk Value.none none (Data.fields (List.toArray [])) (List.toArray []))
@[reducible] noncomputable def hd.o132 (P : Params) : Obj := (Obj.mk (Value.type "tuple") none (Data.seq (List.toArray [(Value.str (Str.ofString "self") 347), (Value.str (Str.ofString "key") 348), (Value.str (Str.ofString "place") 349)]) 0) (List.toArray []))
@[reducible] noncomputable def hd.o133 (P : Params) : Obj := (Obj.mk (Value.type "tuple") none (Data.seq (List.toArray []) 0) (List.toArray []))
@[reducible] noncomputable def hd.o134 (P : Params) : Obj := cmethAt 11 1 (Str.ofString "Arr.find") rfl rfl
@[reducible] noncomputable def hd.o135 (P : Params) : Obj := (Obj.mk (Value.type "code") none (Data.fields (List.toArray [(Value.str (Str.ofString "find") 344), (Value.str (Str.ofString "Arr.find") 345), (Value.str (Str.ofString "/claim/cut.py") 346), (Value.int 53 0), (Value.int 2 0), (Value.int 0 0), (Value.int 0 0), (Value.int 3 0), (Value.ref 130), (Value.bool Bool.true), (Value.int 181 0), (Value.ref 131), Value.none, (Value.ref 132), (Value.ref 133), (Value.ref 134), (Value.int 350 0), (Value.int 53 0), (Value.str (Str.ofString "/claim/cut.py") 351)])) (List.toArray []))
@[reducible] noncomputable def hd.o136 (P : Params) : Obj := methAt 11 1 (Str.ofString "Arr.find") Value.none (Value.str (Str.ofString "phpcore.table") 321) 135 rfl rfl
@[reducible] noncomputable def hd.o137 (P : Params) : Obj := (Obj.mk (Value.type "tuple") none (Data.seq (List.toArray []) 0) (List.toArray []))
@[reducible] noncomputable def hd.o138 (P : Params) : Obj := (Obj.mk Value.none none (Data.fields (List.toArray [])) (List.toArray []))
@[reducible] noncomputable def hd.o139 (P : Params) : Obj := (Obj.mk (Value.type "tuple") none (Data.seq (List.toArray [(Value.str (Str.ofString "self") 356), (Value.str (Str.ofString "key") 357)]) 0) (List.toArray []))
@[reducible] noncomputable def hd.o140 (P : Params) : Obj := (Obj.mk (Value.type "tuple") none (Data.seq (List.toArray []) 0) (List.toArray []))
@[reducible] noncomputable def hd.o141 (P : Params) : Obj := cmethAt 11 2 (Str.ofString "Arr.has") rfl rfl
@[reducible] noncomputable def hd.o142 (P : Params) : Obj := (Obj.mk (Value.type "code") none (Data.fields (List.toArray [(Value.str (Str.ofString "has") 353), (Value.str (Str.ofString "Arr.has") 354), (Value.str (Str.ofString "/claim/cut.py") 355), (Value.int 61 0), (Value.int 2 0), (Value.int 0 0), (Value.int 0 0), (Value.int 3 0), (Value.ref 137), (Value.bool Bool.true), (Value.int 181 0), (Value.ref 138), Value.none, (Value.ref 139), (Value.ref 140), (Value.ref 141), (Value.int 358 0), (Value.int 61 0), (Value.str (Str.ofString "/claim/cut.py") 359)])) (List.toArray []))
@[reducible] noncomputable def hd.o143 (P : Params) : Obj := methAt 11 2 (Str.ofString "Arr.has") Value.none (Value.str (Str.ofString "phpcore.table") 321) 142 rfl rfl
@[reducible] noncomputable def hd.o144 (P : Params) : Obj := (Obj.mk (Value.type "tuple") none (Data.seq (List.toArray []) 0) (List.toArray []))
@[reducible] noncomputable def hd.o145 (P : Params) : Obj := (Obj.mk Value.none none (Data.fields (List.toArray [])) (List.toArray []))
@[reducible] noncomputable def hd.o146 (P : Params) : Obj := (Obj.mk (Value.type "tuple") none (Data.seq (List.toArray [(Value.str (Str.ofString "self") 364), (Value.str (Str.ofString "key") 365), (Value.str (Str.ofString "place") 366)]) 0) (List.toArray []))
@[reducible] noncomputable def hd.o147 (P : Params) : Obj := (Obj.mk (Value.type "tuple") none (Data.seq (List.toArray []) 0) (List.toArray []))
@[reducible] noncomputable def hd.o148 (P : Params) : Obj := cmethAt 11 3 (Str.ofString "Arr.slot") rfl rfl
@[reducible] noncomputable def hd.o149 (P : Params) : Obj := (Obj.mk (Value.type "code") none (Data.fields (List.toArray [(Value.str (Str.ofString "slot") 361), (Value.str (Str.ofString "Arr.slot") 362), (Value.str (Str.ofString "/claim/cut.py") 363), (Value.int 64 0), (Value.int 2 0), (Value.int 0 0), (Value.int 0 0), (Value.int 3 0), (Value.ref 144), (Value.bool Bool.true), (Value.int 181 0), (Value.ref 145), Value.none, (Value.ref 146), (Value.ref 147), (Value.ref 148), (Value.int 367 0), (Value.int 64 0), (Value.str (Str.ofString "/claim/cut.py") 368)])) (List.toArray []))
@[reducible] noncomputable def hd.o150 (P : Params) : Obj := methAt 11 3 (Str.ofString "Arr.slot") Value.none (Value.str (Str.ofString "phpcore.table") 321) 149 rfl rfl
@[reducible] noncomputable def hd.o151 (P : Params) : Obj := (Obj.mk (Value.type "tuple") none (Data.seq (List.toArray []) 0) (List.toArray []))
@[reducible] noncomputable def hd.o152 (P : Params) : Obj := (Obj.mk Value.none none (Data.fields (List.toArray [])) (List.toArray []))
@[reducible] noncomputable def hd.o153 (P : Params) : Obj := (Obj.mk (Value.type "tuple") none (Data.seq (List.toArray [(Value.str (Str.ofString "self") 373), (Value.str (Str.ofString "key") 374)]) 0) (List.toArray []))
@[reducible] noncomputable def hd.o154 (P : Params) : Obj := (Obj.mk (Value.type "tuple") none (Data.seq (List.toArray []) 0) (List.toArray []))
@[reducible] noncomputable def hd.o155 (P : Params) : Obj := cmethAt 11 4 (Str.ofString "Arr.get") rfl rfl
@[reducible] noncomputable def hd.o156 (P : Params) : Obj := (Obj.mk (Value.type "code") none (Data.fields (List.toArray [(Value.str (Str.ofString "get") 370), (Value.str (Str.ofString "Arr.get") 371), (Value.str (Str.ofString "/claim/cut.py") 372), (Value.int 68 0), (Value.int 2 0), (Value.int 0 0), (Value.int 0 0), (Value.int 3 0), (Value.ref 151), (Value.bool Bool.true), (Value.int 181 0), (Value.ref 152), Value.none, (Value.ref 153), (Value.ref 154), (Value.ref 155), (Value.int 375 0), (Value.int 68 0), (Value.str (Str.ofString "/claim/cut.py") 376)])) (List.toArray []))
@[reducible] noncomputable def hd.o157 (P : Params) : Obj := methAt 11 4 (Str.ofString "Arr.get") Value.none (Value.str (Str.ofString "phpcore.table") 321) 156 rfl rfl
@[reducible] noncomputable def hd.o158 (P : Params) : Obj := (Obj.mk (Value.type "tuple") none (Data.seq (List.toArray []) 0) (List.toArray []))
@[reducible] noncomputable def hd.o159 (P : Params) : Obj := (Obj.mk Value.none none (Data.fields (List.toArray [])) (List.toArray []))
@[reducible] noncomputable def hd.o160 (P : Params) : Obj := (Obj.mk (Value.type "tuple") none (Data.seq (List.toArray [(Value.str (Str.ofString "self") 381), (Value.str (Str.ofString "key") 382), (Value.str (Str.ofString "slot") 383)]) 0) (List.toArray []))
@[reducible] noncomputable def hd.o161 (P : Params) : Obj := (Obj.mk (Value.type "tuple") none (Data.seq (List.toArray []) 0) (List.toArray []))
@[reducible] noncomputable def hd.o162 (P : Params) : Obj := cmethAt 11 5 (Str.ofString "Arr.put") rfl rfl
@[reducible] noncomputable def hd.o163 (P : Params) : Obj := (Obj.mk (Value.type "code") none (Data.fields (List.toArray [(Value.str (Str.ofString "put") 378), (Value.str (Str.ofString "Arr.put") 379), (Value.str (Str.ofString "/claim/cut.py") 380), (Value.int 71 0), (Value.int 3 0), (Value.int 0 0), (Value.int 0 0), (Value.int 3 0), (Value.ref 158), (Value.bool Bool.true), (Value.int 181 0), (Value.ref 159), Value.none, (Value.ref 160), (Value.ref 161), (Value.ref 162), (Value.int 384 0), (Value.int 71 0), (Value.str (Str.ofString "/claim/cut.py") 385)])) (List.toArray []))
@[reducible] noncomputable def hd.o164 (P : Params) : Obj := methAt 11 5 (Str.ofString "Arr.put") Value.none (Value.str (Str.ofString "phpcore.table") 321) 163 rfl rfl
@[reducible] noncomputable def hd.o165 (P : Params) : Obj := (Obj.mk (Value.type "tuple") none (Data.seq (List.toArray []) 0) (List.toArray []))
@[reducible] noncomputable def hd.o166 (P : Params) : Obj := (Obj.mk Value.none none (Data.fields (List.toArray [])) (List.toArray []))
@[reducible] noncomputable def hd.o167 (P : Params) : Obj := (Obj.mk (Value.type "tuple") none (Data.seq (List.toArray [(Value.str (Str.ofString "self") 390), (Value.str (Str.ofString "slot") 391), (Value.str (Str.ofString "key") 392)]) 0) (List.toArray []))
@[reducible] noncomputable def hd.o168 (P : Params) : Obj := (Obj.mk (Value.type "tuple") none (Data.seq (List.toArray []) 0) (List.toArray []))
@[reducible] noncomputable def hd.o169 (P : Params) : Obj := cmethAt 11 6 (Str.ofString "Arr.append") rfl rfl
@[reducible] noncomputable def hd.o170 (P : Params) : Obj := (Obj.mk (Value.type "code") none (Data.fields (List.toArray [(Value.str (Str.ofString "append") 387), (Value.str (Str.ofString "Arr.append") 388), (Value.str (Str.ofString "/claim/cut.py") 389), (Value.int 74 0), (Value.int 2 0), (Value.int 0 0), (Value.int 0 0), (Value.int 3 0), (Value.ref 165), (Value.bool Bool.true), (Value.int 181 0), (Value.ref 166), Value.none, (Value.ref 167), (Value.ref 168), (Value.ref 169), (Value.int 393 0), (Value.int 74 0), (Value.str (Str.ofString "/claim/cut.py") 394)])) (List.toArray []))
@[reducible] noncomputable def hd.o171 (P : Params) : Obj := methAt 11 6 (Str.ofString "Arr.append") Value.none (Value.str (Str.ofString "phpcore.table") 321) 170 rfl rfl
@[reducible] noncomputable def hd.o172 (P : Params) : Obj := (Obj.mk (Value.type "tuple") none (Data.seq (List.toArray []) 0) (List.toArray []))
@[reducible] noncomputable def hd.o173 (P : Params) : Obj := (Obj.mk Value.none none (Data.fields (List.toArray [])) (List.toArray []))
@[reducible] noncomputable def hd.o174 (P : Params) : Obj := (Obj.mk (Value.type "tuple") none (Data.seq (List.toArray [(Value.str (Str.ofString "self") 399), (Value.str (Str.ofString "key") 400)]) 0) (List.toArray []))
@[reducible] noncomputable def hd.o175 (P : Params) : Obj := (Obj.mk (Value.type "tuple") none (Data.seq (List.toArray []) 0) (List.toArray []))
@[reducible] noncomputable def hd.o176 (P : Params) : Obj := cmethAt 11 7 (Str.ofString "Arr.drop") rfl rfl
@[reducible] noncomputable def hd.o177 (P : Params) : Obj := (Obj.mk (Value.type "code") none (Data.fields (List.toArray [(Value.str (Str.ofString "drop") 396), (Value.str (Str.ofString "Arr.drop") 397), (Value.str (Str.ofString "/claim/cut.py") 398), (Value.int 81 0), (Value.int 2 0), (Value.int 0 0), (Value.int 0 0), (Value.int 3 0), (Value.ref 172), (Value.bool Bool.true), (Value.int 181 0), (Value.ref 173), Value.none, (Value.ref 174), (Value.ref 175), (Value.ref 176), (Value.int 401 0), (Value.int 81 0), (Value.str (Str.ofString "/claim/cut.py") 402)])) (List.toArray []))
@[reducible] noncomputable def hd.o178 (P : Params) : Obj := methAt 11 7 (Str.ofString "Arr.drop") Value.none (Value.str (Str.ofString "phpcore.table") 321) 177 rfl rfl
@[reducible] noncomputable def hd.o179 (P : Params) : Obj := (Obj.mk (Value.type "tuple") none (Data.seq (List.toArray []) 0) (List.toArray []))
@[reducible] noncomputable def hd.o180 (P : Params) : Obj := (Obj.mk Value.none none (Data.fields (List.toArray [])) (List.toArray []))
@[reducible] noncomputable def hd.o181 (P : Params) : Obj := (Obj.mk (Value.type "tuple") none (Data.seq (List.toArray [(Value.str (Str.ofString "self") 407), (Value.str (Str.ofString "place") 408)]) 0) (List.toArray []))
@[reducible] noncomputable def hd.o182 (P : Params) : Obj := (Obj.mk (Value.type "tuple") none (Data.seq (List.toArray []) 0) (List.toArray []))
@[reducible] noncomputable def hd.o183 (P : Params) : Obj := cmethAt 11 8 (Str.ofString "Arr.key_at") rfl rfl
@[reducible] noncomputable def hd.o184 (P : Params) : Obj := (Obj.mk (Value.type "code") none (Data.fields (List.toArray [(Value.str (Str.ofString "key_at") 404), (Value.str (Str.ofString "Arr.key_at") 405), (Value.str (Str.ofString "/claim/cut.py") 406), (Value.int 84 0), (Value.int 2 0), (Value.int 0 0), (Value.int 0 0), (Value.int 3 0), (Value.ref 179), (Value.bool Bool.true), (Value.int 181 0), (Value.ref 180), Value.none, (Value.ref 181), (Value.ref 182), (Value.ref 183), (Value.int 409 0), (Value.int 84 0), (Value.str (Str.ofString "/claim/cut.py") 410)])) (List.toArray []))
@[reducible] noncomputable def hd.o185 (P : Params) : Obj := methAt 11 8 (Str.ofString "Arr.key_at") Value.none (Value.str (Str.ofString "phpcore.table") 321) 184 rfl rfl
@[reducible] noncomputable def hd.o186 (P : Params) : Obj := (Obj.mk (Value.type "tuple") none (Data.seq (List.toArray [(Value.str (Str.ofString "at") 412), (Value.str (Str.ofString "count") 413), (Value.str (Str.ofString "heads") 414), (Value.str (Str.ofString "is_packed") 415), (Value.str (Str.ofString "is_shared") 416), (Value.str (Str.ofString "keys") 417), (Value.str (Str.ofString "next") 418), (Value.str (Str.ofString "nexts") 419), (Value.str (Str.ofString "size") 420), (Value.str (Str.ofString "vals") 421), (Value.str (Str.ofString "walks") 422)]) 0) (List.toArray []))
@[reducible] noncomputable def hd.o187 (P : Params) : Obj := (Obj.mk (Value.type "dict") none (Data.dict (List.toArray [(DictEntry.mk (PyData.keyHash P (Str.ofString "__module__")) (Value.str (Str.ofString "__module__") 330) (Value.str (Str.ofString "phpcore.table") 321)), (DictEntry.mk (PyData.keyHash P (Str.ofString "__firstlineno__")) (Value.str (Str.ofString "__firstlineno__") 334) (Value.int 38 333)), (DictEntry.mk (PyData.keyHash P (Str.ofString "__init__")) (Value.str (Str.ofString "__init__") 343) (Value.ref 129)), (DictEntry.mk (PyData.keyHash P (Str.ofString "find")) (Value.str (Str.ofString "find") 352) (Value.ref 136)), (DictEntry.mk (PyData.keyHash P (Str.ofString "has")) (Value.str (Str.ofString "has") 360) (Value.ref 143)), (DictEntry.mk (PyData.keyHash P (Str.ofString "slot")) (Value.str (Str.ofString "slot") 369) (Value.ref 150)), (DictEntry.mk (PyData.keyHash P (Str.ofString "get")) (Value.str (Str.ofString "get") 377) (Value.ref 157)), (DictEntry.mk (PyData.keyHash P (Str.ofString "put")) (Value.str (Str.ofString "put") 386) (Value.ref 164)), (DictEntry.mk (PyData.keyHash P (Str.ofString "append")) (Value.str (Str.ofString "append") 395) (Value.ref 171)), (DictEntry.mk (PyData.keyHash P (Str.ofString "drop")) (Value.str (Str.ofString "drop") 403) (Value.ref 178)), (DictEntry.mk (PyData.keyHash P (Str.ofString "key_at")) (Value.str (Str.ofString "key_at") 411) (Value.ref 185)), (DictEntry.mk (PyData.keyHash P (Str.ofString "__static_attributes__")) (Value.str (Str.ofString "__static_attributes__") 423) (Value.ref 186)), (DictEntry.mk (PyData.keyHash P (Str.ofString "__dict__")) (Value.str (Str.ofString "__dict__") 425) (Value.ref 189)), (DictEntry.mk (PyData.keyHash P (Str.ofString "__weakref__")) (Value.str (Str.ofString "__weakref__") 427) (Value.ref 190)), (DictEntry.mk (PyData.keyHash P (Str.ofString "__doc__")) (Value.str (Str.ofString "__doc__") 428) Value.none)]) 4) (List.toArray []))
@[reducible] noncomputable def hd.o188 (P : Params) : Obj := (Obj.mk (Value.type "type") none (Data.cls (ClassData.mk (Str.ofString "Arr") [(Value.type "object")] [(Value.ref 188), (Value.type "object")] 187 (Str.ofString "Arr") Bool.true [] [] Bool.false none Bool.false)) (List.toArray [none, none, (some (Value.str (Str.ofString "Arr") 323)), (some (Value.str (Str.ofString "Arr") 331)), (some (Value.builtin "object.__new__")), (some (Value.bool Bool.true))]))
@[reducible] noncomputable def hd.o189 (P : Params) : Obj := (Obj.mk (Value.type "getset_descriptor") none (Data.fields (List.toArray [(Value.str (Str.ofString "__dict__") 424), (Value.ref 188), (Value.builtin "function.__dict__"), (Value.builtin "function.__dict__#set")])) (List.toArray []))
@[reducible] noncomputable def hd.o190 (P : Params) : Obj := (Obj.mk (Value.type "getset_descriptor") none (Data.fields (List.toArray [(Value.str (Str.ofString "__weakref__") 426), (Value.ref 188), (Value.builtin "ExceptionGroup.__weakref__"), Value.none])) (List.toArray []))
@[reducible] noncomputable def hd.o191 (P : Params) : Obj := (Obj.mk (Value.type "super") none (Data.fields (List.toArray [(Value.ref 188), (Value.ref 188), (Value.ref 188)])) (List.toArray []))
@[reducible] noncomputable def hd.o192 (P : Params) : Obj := (Obj.mk (Value.type "builtin_function_or_method") none (Data.fields (List.toArray [(Value.builtin "object.__init_subclass__"), (Value.ref 188)])) (List.toArray []))
@[reducible] noncomputable def hd.o193 (P : Params) : Obj := (Obj.mk (Value.type "tuple") none (Data.seq (List.toArray []) 0) (List.toArray []))
@[reducible] noncomputable def hd.o194 (P : Params) : Obj := (Obj.mk Value.none none (Data.fields (List.toArray [])) (List.toArray []))
@[reducible] noncomputable def hd.o195 (P : Params) : Obj := (Obj.mk (Value.type "tuple") none (Data.seq (List.toArray [(Value.str (Str.ofString "arr") 434), (Value.str (Str.ofString "place") 435)]) 0) (List.toArray []))
@[reducible] noncomputable def hd.o196 (P : Params) : Obj := (Obj.mk (Value.type "tuple") none (Data.seq (List.toArray []) 0) (List.toArray []))
@[reducible] noncomputable def hd.o197 (P : Params) : Obj := cdAt 12 rfl
@[reducible] noncomputable def hd.o198 (P : Params) : Obj := (Obj.mk (Value.type "code") none (Data.fields (List.toArray [(Value.str (Str.ofString "is_living") 431), (Value.str (Str.ofString "is_living") 432), (Value.str (Str.ofString "/claim/cut.py") 433), (Value.int 86 0), (Value.int 2 0), (Value.int 0 0), (Value.int 0 0), (Value.int 3 0), (Value.ref 193), (Value.bool Bool.true), (Value.int 181 0), (Value.ref 194), Value.none, (Value.ref 195), (Value.ref 196), (Value.ref 197), (Value.int 436 0), (Value.int 86 0), (Value.str (Str.ofString "/claim/cut.py") 437)])) (List.toArray []))
@[reducible] noncomputable def hd.o199 (P : Params) : Obj := fnAt 12 Value.none (Value.str (Str.ofString "phpcore.table") 321) 198 rfl
@[reducible] noncomputable def hd.o200 (P : Params) : Obj := (Obj.mk (Value.type "tuple") none (Data.seq (List.toArray []) 0) (List.toArray []))
@[reducible] noncomputable def hd.o201 (P : Params) : Obj := (Obj.mk Value.none none (Data.fields (List.toArray [])) (List.toArray []))
@[reducible] noncomputable def hd.o202 (P : Params) : Obj := (Obj.mk (Value.type "tuple") none (Data.seq (List.toArray [(Value.str (Str.ofString "key") 442), (Value.str (Str.ofString "found") 443), (Value.str (Str.ofString "sign") 444)]) 0) (List.toArray []))
@[reducible] noncomputable def hd.o203 (P : Params) : Obj := (Obj.mk (Value.type "tuple") none (Data.seq (List.toArray []) 0) (List.toArray []))
@[reducible] noncomputable def hd.o204 (P : Params) : Obj := cdAt 13 rfl
@[reducible] noncomputable def hd.o205 (P : Params) : Obj := (Obj.mk (Value.type "code") none (Data.fields (List.toArray [(Value.str (Str.ofString "hash_of") 439), (Value.str (Str.ofString "hash_of") 440), (Value.str (Str.ofString "/claim/cut.py") 441), (Value.int 88 0), (Value.int 1 0), (Value.int 0 0), (Value.int 0 0), (Value.int 3 0), (Value.ref 200), (Value.bool Bool.true), (Value.int 181 0), (Value.ref 201), Value.none, (Value.ref 202), (Value.ref 203), (Value.ref 204), (Value.int 445 0), (Value.int 88 0), (Value.str (Str.ofString "/claim/cut.py") 446)])) (List.toArray []))
@[reducible] noncomputable def hd.o206 (P : Params) : Obj := fnAt 13 Value.none (Value.str (Str.ofString "phpcore.table") 321) 205 rfl
@[reducible] noncomputable def hd.o207 (P : Params) : Obj := (Obj.mk (Value.type "tuple") none (Data.seq (List.toArray []) 0) (List.toArray []))
@[reducible] noncomputable def hd.o208 (P : Params) : Obj := (Obj.mk Value.none none (Data.fields (List.toArray [])) (List.toArray []))
@[reducible] noncomputable def hd.o209 (P : Params) : Obj := (Obj.mk (Value.type "tuple") none (Data.seq (List.toArray [(Value.str (Str.ofString "arr") 451), (Value.str (Str.ofString "place") 452), (Value.str (Str.ofString "chain") 453)]) 0) (List.toArray []))
@[reducible] noncomputable def hd.o210 (P : Params) : Obj := (Obj.mk (Value.type "tuple") none (Data.seq (List.toArray []) 0) (List.toArray []))
@[reducible] noncomputable def hd.o211 (P : Params) : Obj := cdAt 14 rfl
@[reducible] noncomputable def hd.o212 (P : Params) : Obj := (Obj.mk (Value.type "code") none (Data.fields (List.toArray [(Value.str (Str.ofString "link") 448), (Value.str (Str.ofString "link") 449), (Value.str (Str.ofString "/claim/cut.py") 450), (Value.int 95 0), (Value.int 2 0), (Value.int 0 0), (Value.int 0 0), (Value.int 3 0), (Value.ref 207), (Value.bool Bool.true), (Value.int 181 0), (Value.ref 208), Value.none, (Value.ref 209), (Value.ref 210), (Value.ref 211), (Value.int 454 0), (Value.int 95 0), (Value.str (Str.ofString "/claim/cut.py") 455)])) (List.toArray []))
@[reducible] noncomputable def hd.o213 (P : Params) : Obj := fnAt 14 Value.none (Value.str (Str.ofString "phpcore.table") 321) 212 rfl
@[reducible] noncomputable def hd.o214 (P : Params) : Obj := (Obj.mk (Value.type "tuple") none (Data.seq (List.toArray []) 0) (List.toArray []))
@[reducible] noncomputable def hd.o215 (P : Params) : Obj := (Obj.mk Value.none none (Data.fields (List.toArray [])) (List.toArray []))
@[reducible] noncomputable def hd.o216 (P : Params) : Obj := (Obj.mk (Value.type "tuple") none (Data.seq (List.toArray [(Value.str (Str.ofString "arr") 460), (Value.str (Str.ofString "place") 461)]) 0) (List.toArray []))
@[reducible] noncomputable def hd.o217 (P : Params) : Obj := (Obj.mk (Value.type "tuple") none (Data.seq (List.toArray []) 0) (List.toArray []))
@[reducible] noncomputable def hd.o218 (P : Params) : Obj := cdAt 15 rfl
@[reducible] noncomputable def hd.o219 (P : Params) : Obj := (Obj.mk (Value.type "code") none (Data.fields (List.toArray [(Value.str (Str.ofString "chains") 457), (Value.str (Str.ofString "chains") 458), (Value.str (Str.ofString "/claim/cut.py") 459), (Value.int 99 0), (Value.int 1 0), (Value.int 0 0), (Value.int 0 0), (Value.int 3 0), (Value.ref 214), (Value.bool Bool.true), (Value.int 181 0), (Value.ref 215), Value.none, (Value.ref 216), (Value.ref 217), (Value.ref 218), (Value.int 462 0), (Value.int 99 0), (Value.str (Str.ofString "/claim/cut.py") 463)])) (List.toArray []))
@[reducible] noncomputable def hd.o220 (P : Params) : Obj := fnAt 15 Value.none (Value.str (Str.ofString "phpcore.table") 321) 219 rfl
@[reducible] noncomputable def hd.o221 (P : Params) : Obj := (Obj.mk (Value.type "tuple") none (Data.seq (List.toArray []) 0) (List.toArray []))
@[reducible] noncomputable def hd.o222 (P : Params) : Obj := (Obj.mk Value.none none (Data.fields (List.toArray [])) (List.toArray []))
@[reducible] noncomputable def hd.o223 (P : Params) : Obj := cdAt 16 rfl
@[reducible] noncomputable def hd.o224 (P : Params) : Obj := (Obj.mk (Value.type "code") none (Data.fields (List.toArray [(Value.str (Str.ofString "many_ahead") 465), (Value.str (Str.ofString "many_ahead") 466), (Value.str (Str.ofString "/claim/cut.py") 467), (Value.int 105 0), (Value.int 2 0), (Value.int 0 0), (Value.int 0 0), (Value.int 3 0), (Value.ref 221), (Value.bool Bool.true), (Value.int 181 0), (Value.ref 222), Value.none, Value.none, Value.none, (Value.ref 223), (Value.int 468 0), (Value.int 105 0), (Value.str (Str.ofString "/claim/cut.py") 469)])) (List.toArray []))
@[reducible] noncomputable def hd.o225 (P : Params) : Obj := fnAt 16 Value.none (Value.str (Str.ofString "phpcore.table") 321) 224 rfl
@[reducible] noncomputable def hd.o226 (P : Params) : Obj := (Obj.mk (Value.type "tuple") none (Data.seq (List.toArray []) 0) (List.toArray []))
@[reducible] noncomputable def hd.o227 (P : Params) : Obj := (Obj.mk Value.none none (Data.fields (List.toArray [])) (List.toArray []))
@[reducible] noncomputable def hd.o228 (P : Params) : Obj := cdAt 17 rfl
@[reducible] noncomputable def hd.o229 (P : Params) : Obj := (Obj.mk (Value.type "code") none (Data.fields (List.toArray [(Value.str (Str.ofString "rehash") 471), (Value.str (Str.ofString "rehash") 472), (Value.str (Str.ofString "/claim/cut.py") 473), (Value.int 107 0), (Value.int 1 0), (Value.int 0 0), (Value.int 0 0), (Value.int 3 0), (Value.ref 226), (Value.bool Bool.true), (Value.int 181 0), (Value.ref 227), Value.none, Value.none, Value.none, (Value.ref 228), (Value.int 474 0), (Value.int 107 0), (Value.str (Str.ofString "/claim/cut.py") 475)])) (List.toArray []))
@[reducible] noncomputable def hd.o230 (P : Params) : Obj := fnAt 17 Value.none (Value.str (Str.ofString "phpcore.table") 321) 229 rfl
@[reducible] noncomputable def hd.o231 (P : Params) : Obj := (Obj.mk (Value.type "tuple") none (Data.seq (List.toArray []) 0) (List.toArray []))
@[reducible] noncomputable def hd.o232 (P : Params) : Obj := (Obj.mk Value.none none (Data.fields (List.toArray [])) (List.toArray []))
@[reducible] noncomputable def hd.o233 (P : Params) : Obj := (Obj.mk (Value.type "tuple") none (Data.seq (List.toArray [(Value.str (Str.ofString "arr") 480)]) 0) (List.toArray []))
@[reducible] noncomputable def hd.o234 (P : Params) : Obj := (Obj.mk (Value.type "tuple") none (Data.seq (List.toArray []) 0) (List.toArray []))
@[reducible] noncomputable def hd.o235 (P : Params) : Obj := cdAt 18 rfl
@[reducible] noncomputable def hd.o236 (P : Params) : Obj := (Obj.mk (Value.type "code") none (Data.fields (List.toArray [(Value.str (Str.ofString "to_hash") 477), (Value.str (Str.ofString "to_hash") 478), (Value.str (Str.ofString "/claim/cut.py") 479), (Value.int 115 0), (Value.int 1 0), (Value.int 0 0), (Value.int 0 0), (Value.int 3 0), (Value.ref 231), (Value.bool Bool.true), (Value.int 181 0), (Value.ref 232), Value.none, (Value.ref 233), (Value.ref 234), (Value.ref 235), (Value.int 481 0), (Value.int 115 0), (Value.str (Str.ofString "/claim/cut.py") 482)])) (List.toArray []))
@[reducible] noncomputable def hd.o237 (P : Params) : Obj := fnAt 18 Value.none (Value.str (Str.ofString "phpcore.table") 321) 236 rfl
@[reducible] noncomputable def hd.o238 (P : Params) : Obj := (Obj.mk (Value.type "tuple") none (Data.seq (List.toArray []) 0) (List.toArray []))
@[reducible] noncomputable def hd.o239 (P : Params) : Obj := (Obj.mk Value.none none (Data.fields (List.toArray [])) (List.toArray []))
@[reducible] noncomputable def hd.o240 (P : Params) : Obj := (Obj.mk (Value.type "tuple") none (Data.seq (List.toArray [(Value.str (Str.ofString "arr") 487), (Value.str (Str.ofString "key") 488)]) 0) (List.toArray []))
@[reducible] noncomputable def hd.o241 (P : Params) : Obj := (Obj.mk (Value.type "tuple") none (Data.seq (List.toArray []) 0) (List.toArray []))
@[reducible] noncomputable def hd.o242 (P : Params) : Obj := cdAt 19 rfl
@[reducible] noncomputable def hd.o243 (P : Params) : Obj := (Obj.mk (Value.type "code") none (Data.fields (List.toArray [(Value.str (Str.ofString "takes_packed") 484), (Value.str (Str.ofString "takes_packed") 485), (Value.str (Str.ofString "/claim/cut.py") 486), (Value.int 119 0), (Value.int 2 0), (Value.int 0 0), (Value.int 0 0), (Value.int 3 0), (Value.ref 238), (Value.bool Bool.true), (Value.int 181 0), (Value.ref 239), Value.none, (Value.ref 240), (Value.ref 241), (Value.ref 242), (Value.int 489 0), (Value.int 119 0), (Value.str (Str.ofString "/claim/cut.py") 490)])) (List.toArray []))
@[reducible] noncomputable def hd.o244 (P : Params) : Obj := fnAt 19 Value.none (Value.str (Str.ofString "phpcore.table") 321) 243 rfl
@[reducible] noncomputable def hd.o245 (P : Params) : Obj := (Obj.mk (Value.type "tuple") none (Data.seq (List.toArray []) 0) (List.toArray []))
@[reducible] noncomputable def hd.o246 (P : Params) : Obj := (Obj.mk Value.none none (Data.fields (List.toArray [])) (List.toArray []))
@[reducible] noncomputable def hd.o247 (P : Params) : Obj := (Obj.mk (Value.type "tuple") none (Data.seq (List.toArray [(Value.str (Str.ofString "arr") 495), (Value.str (Str.ofString "key") 496), (Value.str (Str.ofString "slot") 497)]) 0) (List.toArray []))
@[reducible] noncomputable def hd.o248 (P : Params) : Obj := (Obj.mk (Value.type "tuple") none (Data.seq (List.toArray []) 0) (List.toArray []))
@[reducible] noncomputable def hd.o249 (P : Params) : Obj := cdAt 20 rfl
@[reducible] noncomputable def hd.o250 (P : Params) : Obj := (Obj.mk (Value.type "code") none (Data.fields (List.toArray [(Value.str (Str.ofString "add_packed") 492), (Value.str (Str.ofString "add_packed") 493), (Value.str (Str.ofString "/claim/cut.py") 494), (Value.int 125 0), (Value.int 3 0), (Value.int 0 0), (Value.int 0 0), (Value.int 3 0), (Value.ref 245), (Value.bool Bool.true), (Value.int 181 0), (Value.ref 246), Value.none, (Value.ref 247), (Value.ref 248), (Value.ref 249), (Value.int 498 0), (Value.int 125 0), (Value.str (Str.ofString "/claim/cut.py") 499)])) (List.toArray []))
@[reducible] noncomputable def hd.o251 (P : Params) : Obj := fnAt 20 Value.none (Value.str (Str.ofString "phpcore.table") 321) 250 rfl
@[reducible] noncomputable def hd.o252 (P : Params) : Obj := (Obj.mk (Value.type "tuple") none (Data.seq (List.toArray []) 0) (List.toArray []))
@[reducible] noncomputable def hd.o253 (P : Params) : Obj := (Obj.mk Value.none none (Data.fields (List.toArray [])) (List.toArray []))
@[reducible] noncomputable def hd.o254 (P : Params) : Obj := (Obj.mk (Value.type "tuple") none (Data.seq (List.toArray [(Value.str (Str.ofString "arr") 504), (Value.str (Str.ofString "key") 505), (Value.str (Str.ofString "slot") 506), (Value.str (Str.ofString "used") 507)]) 0) (List.toArray []))
@[reducible] noncomputable def hd.o255 (P : Params) : Obj := (Obj.mk (Value.type "tuple") none (Data.seq (List.toArray []) 0) (List.toArray []))
@[reducible] noncomputable def hd.o256 (P : Params) : Obj := cdAt 21 rfl
@[reducible] noncomputable def hd.o257 (P : Params) : Obj := (Obj.mk (Value.type "code") none (Data.fields (List.toArray [(Value.str (Str.ofString "add_hashed") 501), (Value.str (Str.ofString "add_hashed") 502), (Value.str (Str.ofString "/claim/cut.py") 503), (Value.int 129 0), (Value.int 3 0), (Value.int 0 0), (Value.int 0 0), (Value.int 3 0), (Value.ref 252), (Value.bool Bool.true), (Value.int 181 0), (Value.ref 253), Value.none, (Value.ref 254), (Value.ref 255), (Value.ref 256), (Value.int 508 0), (Value.int 129 0), (Value.str (Str.ofString "/claim/cut.py") 509)])) (List.toArray []))
@[reducible] noncomputable def hd.o258 (P : Params) : Obj := fnAt 21 Value.none (Value.str (Str.ofString "phpcore.table") 321) 257 rfl
@[reducible] noncomputable def hd.o259 (P : Params) : Obj := (Obj.mk (Value.type "tuple") none (Data.seq (List.toArray []) 0) (List.toArray []))
@[reducible] noncomputable def hd.o260 (P : Params) : Obj := (Obj.mk Value.none none (Data.fields (List.toArray [])) (List.toArray []))
@[reducible] noncomputable def hd.o261 (P : Params) : Obj := (Obj.mk (Value.type "tuple") none (Data.seq (List.toArray [(Value.str (Str.ofString "arr") 514), (Value.str (Str.ofString "key") 515), (Value.str (Str.ofString "slot") 516)]) 0) (List.toArray []))
@[reducible] noncomputable def hd.o262 (P : Params) : Obj := (Obj.mk (Value.type "tuple") none (Data.seq (List.toArray []) 0) (List.toArray []))
@[reducible] noncomputable def hd.o263 (P : Params) : Obj := cdAt 22 rfl
@[reducible] noncomputable def hd.o264 (P : Params) : Obj := (Obj.mk (Value.type "code") none (Data.fields (List.toArray [(Value.str (Str.ofString "add") 511), (Value.str (Str.ofString "add") 512), (Value.str (Str.ofString "/claim/cut.py") 513), (Value.int 141 0), (Value.int 3 0), (Value.int 0 0), (Value.int 0 0), (Value.int 3 0), (Value.ref 259), (Value.bool Bool.true), (Value.int 181 0), (Value.ref 260), Value.none, (Value.ref 261), (Value.ref 262), (Value.ref 263), (Value.int 517 0), (Value.int 141 0), (Value.str (Str.ofString "/claim/cut.py") 518)])) (List.toArray []))
@[reducible] noncomputable def hd.o265 (P : Params) : Obj := fnAt 22 Value.none (Value.str (Str.ofString "phpcore.table") 321) 264 rfl
@[reducible] noncomputable def hd.o266 (P : Params) : Obj := (Obj.mk (Value.type "tuple") none (Data.seq (List.toArray []) 0) (List.toArray []))
@[reducible] noncomputable def hd.o267 (P : Params) : Obj := (Obj.mk Value.none none (Data.fields (List.toArray [])) (List.toArray []))
@[reducible] noncomputable def hd.o268 (P : Params) : Obj := (Obj.mk (Value.type "tuple") none (Data.seq (List.toArray [(Value.str (Str.ofString "value") 523)]) 0) (List.toArray []))
@[reducible] noncomputable def hd.o269 (P : Params) : Obj := (Obj.mk (Value.type "tuple") none (Data.seq (List.toArray []) 0) (List.toArray []))
@[reducible] noncomputable def hd.o270 (P : Params) : Obj := cdAt 23 rfl
@[reducible] noncomputable def hd.o271 (P : Params) : Obj := (Obj.mk (Value.type "code") none (Data.fields (List.toArray [(Value.str (Str.ofString "marked") 520), (Value.str (Str.ofString "marked") 521), (Value.str (Str.ofString "/claim/cut.py") 522), (Value.int 153 0), (Value.int 1 0), (Value.int 0 0), (Value.int 0 0), (Value.int 3 0), (Value.ref 266), (Value.bool Bool.true), (Value.int 181 0), (Value.ref 267), Value.none, (Value.ref 268), (Value.ref 269), (Value.ref 270), (Value.int 524 0), (Value.int 153 0), (Value.str (Str.ofString "/claim/cut.py") 525)])) (List.toArray []))
@[reducible] noncomputable def hd.o272 (P : Params) : Obj := fnAt 23 Value.none (Value.str (Str.ofString "phpcore.table") 321) 271 rfl
@[reducible] noncomputable def hd.o273 (P : Params) : Obj := (Obj.mk (Value.type "tuple") none (Data.seq (List.toArray []) 0) (List.toArray []))
@[reducible] noncomputable def hd.o274 (P : Params) : Obj := (Obj.mk Value.none none (Data.fields (List.toArray [])) (List.toArray []))
@[reducible] noncomputable def hd.o275 (P : Params) : Obj := (Obj.mk (Value.type "tuple") none (Data.seq (List.toArray [(Value.str (Str.ofString "value") 532)]) 0) (List.toArray []))
@[reducible] noncomputable def hd.o276 (P : Params) : Obj := (Obj.mk (Value.type "tuple") none (Data.seq (List.toArray []) 0) (List.toArray []))
@[reducible] noncomputable def hd.o277 (P : Params) : Obj := cdAt 25 rfl
@[reducible] noncomputable def hd.o278 (P : Params) : Obj := (Obj.mk (Value.type "code") none (Data.fields (List.toArray [(Value.str (Str.ofString "taken") 529), (Value.str (Str.ofString "taken") 530), (Value.str (Str.ofString "/claim/cut.py") 531), (Value.int 158 0), (Value.int 1 0), (Value.int 0 0), (Value.int 0 0), (Value.int 3 0), (Value.ref 273), (Value.bool Bool.true), (Value.int 181 0), (Value.ref 274), Value.none, (Value.ref 275), (Value.ref 276), (Value.ref 277), (Value.int 533 0), (Value.int 158 0), (Value.str (Str.ofString "/claim/cut.py") 534)])) (List.toArray []))
@[reducible] noncomputable def hd.o279 (P : Params) : Obj := fnAt 25 Value.none (Value.str (Str.ofString "phpcore.values") 527) 278 rfl
@[reducible] noncomputable def hd.o280 (P : Params) : Obj := (Obj.mk (Value.type "tuple") none (Data.seq (List.toArray []) 0) (List.toArray []))
@[reducible] noncomputable def hd.o281 (P : Params) : Obj := (Obj.mk (Value.type "builtin_function_or_method") none (Data.fields (List.toArray [(Value.builtin "type.__prepare__"), (Value.type "type")])) (List.toArray []))
@[reducible] noncomputable def hd.o282 (P : Params) : Obj := (Obj.mk (Value.type "dict") none (Data.dict (List.toArray [(DictEntry.mk (PyData.keyHash P (Str.ofString "__module__")) (Value.str (Str.ofString "__module__") 545) (Value.str (Str.ofString "phpcore.spllists") 536)), (DictEntry.mk (PyData.keyHash P (Str.ofString "__qualname__")) (Value.str (Str.ofString "__qualname__") 547) (Value.str (Str.ofString "LinkList") 546)), (DictEntry.mk (PyData.keyHash P (Str.ofString "__firstlineno__")) (Value.str (Str.ofString "__firstlineno__") 549) (Value.int 163 548)), (DictEntry.mk (PyData.keyHash P (Str.ofString "__init__")) (Value.str (Str.ofString "__init__") 556) (Value.ref 293)), (DictEntry.mk (PyData.keyHash P (Str.ofString "__static_attributes__")) (Value.str (Str.ofString "__static_attributes__") 567) (Value.ref 294))]) 5) (List.toArray []))
@[reducible] noncomputable def hd.o283 (P : Params) : Obj := (Obj.mk (Value.type "tuple") none (Data.seq (List.toArray []) 0) (List.toArray []))
@[reducible] noncomputable def hd.o284 (P : Params) : Obj := (Obj.mk Value.none none (Data.fields (List.toArray [(Value.int 165 0), (Value.int 4 0), (Value.ref 292)])) (List.toArray []))
@[reducible] noncomputable def hd.o285 (P : Params) : Obj := (Obj.mk (Value.type "code") none (Data.fields (List.toArray [(Value.str (Str.ofString "LinkList") 540), (Value.str (Str.ofString "LinkList") 541), (Value.str (Str.ofString "/claim/cut.py") 542), (Value.int 163 0), (Value.int 0 0), (Value.int 0 0), (Value.int 0 0), (Value.int 0 0), (Value.ref 283), (Value.bool Bool.false), (Value.int 181 0), (Value.ref 284), Value.none, Value.none, Value.none, Value.none, (Value.int 543 0), (Value.int 163 0), (Value.str (Str.ofString "/claim/cut.py") 544)])) (List.toArray []))
@[reducible] noncomputable def hd.o286 (P : Params) : Obj := (Obj.mk (Value.type "frame") none Data.plain (List.toArray [(some (Value.ref 285)), (some (Value.ref 3)), (some (Value.ref 282)), none, (some (Value.str (Str.ofString "phpcore.spllists") 536)), none, (some (Value.ref 0))]))
@[reducible] noncomputable def hd.o287 (P : Params) : Obj := (Obj.mk (Value.type "tuple") none (Data.seq (List.toArray []) 0) (List.toArray []))
@[reducible] noncomputable def hd.o288 (P : Params) : Obj := (Obj.mk Value.none none (Data.fields (List.toArray [])) (List.toArray []))
@[reducible] noncomputable def hd.o289 (P : Params) : Obj := (Obj.mk (Value.type "tuple") none (Data.seq (List.toArray [(Value.str (Str.ofString "self") 553)]) 0) (List.toArray []))
@[reducible] noncomputable def hd.o290 (P : Params) : Obj := (Obj.mk (Value.type "tuple") none (Data.seq (List.toArray []) 0) (List.toArray []))
@[reducible] noncomputable def hd.o291 (P : Params) : Obj := cmethAt 27 0 (Str.ofString "LinkList.__init__") rfl rfl
@[reducible] noncomputable def hd.o292 (P : Params) : Obj := (Obj.mk (Value.type "code") none (Data.fields (List.toArray [(Value.str (Str.ofString "__init__") 550), (Value.str (Str.ofString "LinkList.__init__") 551), (Value.str (Str.ofString "/claim/cut.py") 552), (Value.int 165 0), (Value.int 1 0), (Value.int 0 0), (Value.int 0 0), (Value.int 3 0), (Value.ref 287), (Value.bool Bool.true), (Value.int 181 0), (Value.ref 288), Value.none, (Value.ref 289), (Value.ref 290), (Value.ref 291), (Value.int 554 0), (Value.int 165 0), (Value.str (Str.ofString "/claim/cut.py") 555)])) (List.toArray []))
@[reducible] noncomputable def hd.o293 (P : Params) : Obj := methAt 27 0 (Str.ofString "LinkList.__init__") Value.none (Value.str (Str.ofString "phpcore.spllists") 536) 292 rfl rfl
@[reducible] noncomputable def hd.o294 (P : Params) : Obj := (Obj.mk (Value.type "tuple") none (Data.seq (List.toArray [(Value.str (Str.ofString "count") 557), (Value.str (Str.ofString "cursor") 558), (Value.str (Str.ofString "flags") 559), (Value.str (Str.ofString "free") 560), (Value.str (Str.ofString "head") 561), (Value.str (Str.ofString "nexts") 562), (Value.str (Str.ofString "place") 563), (Value.str (Str.ofString "prevs") 564), (Value.str (Str.ofString "tail") 565), (Value.str (Str.ofString "values") 566)]) 0) (List.toArray []))
@[reducible] noncomputable def hd.o295 (P : Params) : Obj := (Obj.mk (Value.type "dict") none (Data.dict (List.toArray [(DictEntry.mk (PyData.keyHash P (Str.ofString "__module__")) (Value.str (Str.ofString "__module__") 545) (Value.str (Str.ofString "phpcore.spllists") 536)), (DictEntry.mk (PyData.keyHash P (Str.ofString "__firstlineno__")) (Value.str (Str.ofString "__firstlineno__") 549) (Value.int 163 548)), (DictEntry.mk (PyData.keyHash P (Str.ofString "__init__")) (Value.str (Str.ofString "__init__") 556) (Value.ref 293)), (DictEntry.mk (PyData.keyHash P (Str.ofString "__static_attributes__")) (Value.str (Str.ofString "__static_attributes__") 567) (Value.ref 294)), (DictEntry.mk (PyData.keyHash P (Str.ofString "__dict__")) (Value.str (Str.ofString "__dict__") 569) (Value.ref 297)), (DictEntry.mk (PyData.keyHash P (Str.ofString "__weakref__")) (Value.str (Str.ofString "__weakref__") 571) (Value.ref 298)), (DictEntry.mk (PyData.keyHash P (Str.ofString "__doc__")) (Value.str (Str.ofString "__doc__") 572) Value.none)]) 4) (List.toArray []))
@[reducible] noncomputable def hd.o296 (P : Params) : Obj := (Obj.mk (Value.type "type") none (Data.cls (ClassData.mk (Str.ofString "LinkList") [(Value.type "object")] [(Value.ref 296), (Value.type "object")] 295 (Str.ofString "LinkList") Bool.true [] [] Bool.false none Bool.false)) (List.toArray [none, none, (some (Value.str (Str.ofString "LinkList") 538)), (some (Value.str (Str.ofString "LinkList") 546)), (some (Value.builtin "object.__new__")), (some (Value.bool Bool.true))]))
@[reducible] noncomputable def hd.o297 (P : Params) : Obj := (Obj.mk (Value.type "getset_descriptor") none (Data.fields (List.toArray [(Value.str (Str.ofString "__dict__") 568), (Value.ref 296), (Value.builtin "function.__dict__"), (Value.builtin "function.__dict__#set")])) (List.toArray []))
@[reducible] noncomputable def hd.o298 (P : Params) : Obj := (Obj.mk (Value.type "getset_descriptor") none (Data.fields (List.toArray [(Value.str (Str.ofString "__weakref__") 570), (Value.ref 296), (Value.builtin "ExceptionGroup.__weakref__"), Value.none])) (List.toArray []))
@[reducible] noncomputable def hd.o299 (P : Params) : Obj := (Obj.mk (Value.type "super") none (Data.fields (List.toArray [(Value.ref 296), (Value.ref 296), (Value.ref 296)])) (List.toArray []))
@[reducible] noncomputable def hd.o300 (P : Params) : Obj := (Obj.mk (Value.type "builtin_function_or_method") none (Data.fields (List.toArray [(Value.builtin "object.__init_subclass__"), (Value.ref 296)])) (List.toArray []))
@[reducible] noncomputable def hd.o301 (P : Params) : Obj := (Obj.mk (Value.type "tuple") none (Data.seq (List.toArray []) 0) (List.toArray []))
@[reducible] noncomputable def hd.o302 (P : Params) : Obj := (Obj.mk Value.none none (Data.fields (List.toArray [])) (List.toArray []))
@[reducible] noncomputable def hd.o303 (P : Params) : Obj := (Obj.mk (Value.type "tuple") none (Data.seq (List.toArray [(Value.str (Str.ofString "line") 578), (Value.str (Str.ofString "value") 579), (Value.str (Str.ofString "node") 580)]) 0) (List.toArray []))
@[reducible] noncomputable def hd.o304 (P : Params) : Obj := (Obj.mk (Value.type "tuple") none (Data.seq (List.toArray []) 0) (List.toArray []))
@[reducible] noncomputable def hd.o305 (P : Params) : Obj := cdAt 28 rfl
@[reducible] noncomputable def hd.o306 (P : Params) : Obj := (Obj.mk (Value.type "code") none (Data.fields (List.toArray [(Value.str (Str.ofString "new_node") 575), (Value.str (Str.ofString "new_node") 576), (Value.str (Str.ofString "/claim/cut.py") 577), (Value.int 171 0), (Value.int 2 0), (Value.int 0 0), (Value.int 0 0), (Value.int 3 0), (Value.ref 301), (Value.bool Bool.true), (Value.int 181 0), (Value.ref 302), Value.none, (Value.ref 303), (Value.ref 304), (Value.ref 305), (Value.int 581 0), (Value.int 171 0), (Value.str (Str.ofString "/claim/cut.py") 582)])) (List.toArray []))
@[reducible] noncomputable def hd.o307 (P : Params) : Obj := fnAt 28 Value.none (Value.str (Str.ofString "phpcore.spllists") 536) 306 rfl
@[reducible] noncomputable def hd.o308 (P : Params) : Obj := (Obj.mk (Value.type "tuple") none (Data.seq (List.toArray []) 0) (List.toArray []))
@[reducible] noncomputable def hd.o309 (P : Params) : Obj := (Obj.mk Value.none none (Data.fields (List.toArray [])) (List.toArray []))
@[reducible] noncomputable def hd.o310 (P : Params) : Obj := (Obj.mk (Value.type "tuple") none (Data.seq (List.toArray [(Value.str (Str.ofString "line") 587), (Value.str (Str.ofString "node") 588), (Value.str (Str.ofString "ahead") 589), (Value.str (Str.ofString "behind") 590), (Value.str (Str.ofString "value") 591)]) 0) (List.toArray []))
@[reducible] noncomputable def hd.o311 (P : Params) : Obj := (Obj.mk (Value.type "tuple") none (Data.seq (List.toArray []) 0) (List.toArray []))
@[reducible] noncomputable def hd.o312 (P : Params) : Obj := cdAt 29 rfl
@[reducible] noncomputable def hd.o313 (P : Params) : Obj := (Obj.mk (Value.type "code") none (Data.fields (List.toArray [(Value.str (Str.ofString "unlink") 584), (Value.str (Str.ofString "unlink") 585), (Value.str (Str.ofString "/claim/cut.py") 586), (Value.int 180 0), (Value.int 2 0), (Value.int 0 0), (Value.int 0 0), (Value.int 3 0), (Value.ref 308), (Value.bool Bool.true), (Value.int 181 0), (Value.ref 309), Value.none, (Value.ref 310), (Value.ref 311), (Value.ref 312), (Value.int 592 0), (Value.int 180 0), (Value.str (Str.ofString "/claim/cut.py") 593)])) (List.toArray []))
@[reducible] noncomputable def hd.o314 (P : Params) : Obj := fnAt 29 Value.none (Value.str (Str.ofString "phpcore.spllists") 536) 313 rfl
@[reducible] noncomputable def hd.o315 (P : Params) : Obj := (Obj.mk (Value.type "tuple") none (Data.seq (List.toArray []) 0) (List.toArray []))
@[reducible] noncomputable def hd.o316 (P : Params) : Obj := (Obj.mk Value.none none (Data.fields (List.toArray [])) (List.toArray []))
@[reducible] noncomputable def hd.o317 (P : Params) : Obj := (Obj.mk (Value.type "tuple") none (Data.seq (List.toArray [(Value.str (Str.ofString "line") 598), (Value.str (Str.ofString "node") 599)]) 0) (List.toArray []))
@[reducible] noncomputable def hd.o318 (P : Params) : Obj := (Obj.mk (Value.type "tuple") none (Data.seq (List.toArray []) 0) (List.toArray []))
@[reducible] noncomputable def hd.o319 (P : Params) : Obj := cdAt 30 rfl
@[reducible] noncomputable def hd.o320 (P : Params) : Obj := (Obj.mk (Value.type "code") none (Data.fields (List.toArray [(Value.str (Str.ofString "is_gone") 595), (Value.str (Str.ofString "is_gone") 596), (Value.str (Str.ofString "/claim/cut.py") 597), (Value.int 198 0), (Value.int 2 0), (Value.int 0 0), (Value.int 0 0), (Value.int 3 0), (Value.ref 315), (Value.bool Bool.true), (Value.int 181 0), (Value.ref 316), Value.none, (Value.ref 317), (Value.ref 318), (Value.ref 319), (Value.int 600 0), (Value.int 198 0), (Value.str (Str.ofString "/claim/cut.py") 601)])) (List.toArray []))
@[reducible] noncomputable def hd.o321 (P : Params) : Obj := fnAt 30 Value.none (Value.str (Str.ofString "phpcore.spllists") 536) 320 rfl
@[reducible] noncomputable def hd.o322 (P : Params) : Obj := (Obj.mk (Value.type "tuple") none (Data.seq (List.toArray []) 0) (List.toArray []))
@[reducible] noncomputable def hd.o323 (P : Params) : Obj := (Obj.mk Value.none none (Data.fields (List.toArray [])) (List.toArray []))
@[reducible] noncomputable def hd.o324 (P : Params) : Obj := (Obj.mk (Value.type "tuple") none (Data.seq (List.toArray [(Value.str (Str.ofString "line") 606), (Value.str (Str.ofString "value") 607), (Value.str (Str.ofString "node") 608)]) 0) (List.toArray []))
@[reducible] noncomputable def hd.o325 (P : Params) : Obj := (Obj.mk (Value.type "tuple") none (Data.seq (List.toArray []) 0) (List.toArray []))
@[reducible] noncomputable def hd.o326 (P : Params) : Obj := cdAt 31 rfl
@[reducible] noncomputable def hd.o327 (P : Params) : Obj := (Obj.mk (Value.type "code") none (Data.fields (List.toArray [(Value.str (Str.ofString "link_push") 603), (Value.str (Str.ofString "link_push") 604), (Value.str (Str.ofString "/claim/cut.py") 605), (Value.int 200 0), (Value.int 2 0), (Value.int 0 0), (Value.int 0 0), (Value.int 3 0), (Value.ref 322), (Value.bool Bool.true), (Value.int 181 0), (Value.ref 323), Value.none, (Value.ref 324), (Value.ref 325), (Value.ref 326), (Value.int 609 0), (Value.int 200 0), (Value.str (Str.ofString "/claim/cut.py") 610)])) (List.toArray []))
@[reducible] noncomputable def hd.o328 (P : Params) : Obj := fnAt 31 Value.none (Value.str (Str.ofString "phpcore.spllists") 536) 327 rfl
@[reducible] noncomputable def hd.o329 (P : Params) : Obj := (Obj.mk (Value.type "tuple") none (Data.seq (List.toArray []) 0) (List.toArray []))
@[reducible] noncomputable def hd.o330 (P : Params) : Obj := (Obj.mk Value.none none (Data.fields (List.toArray [])) (List.toArray []))
@[reducible] noncomputable def hd.o331 (P : Params) : Obj := (Obj.mk (Value.type "tuple") none (Data.seq (List.toArray [(Value.str (Str.ofString "line") 615), (Value.str (Str.ofString "value") 616), (Value.str (Str.ofString "node") 617)]) 0) (List.toArray []))
@[reducible] noncomputable def hd.o332 (P : Params) : Obj := (Obj.mk (Value.type "tuple") none (Data.seq (List.toArray []) 0) (List.toArray []))
@[reducible] noncomputable def hd.o333 (P : Params) : Obj := cdAt 32 rfl
@[reducible] noncomputable def hd.o334 (P : Params) : Obj := (Obj.mk (Value.type "code") none (Data.fields (List.toArray [(Value.str (Str.ofString "link_unshift") 612), (Value.str (Str.ofString "link_unshift") 613), (Value.str (Str.ofString "/claim/cut.py") 614), (Value.int 209 0), (Value.int 2 0), (Value.int 0 0), (Value.int 0 0), (Value.int 3 0), (Value.ref 329), (Value.bool Bool.true), (Value.int 181 0), (Value.ref 330), Value.none, (Value.ref 331), (Value.ref 332), (Value.ref 333), (Value.int 618 0), (Value.int 209 0), (Value.str (Str.ofString "/claim/cut.py") 619)])) (List.toArray []))
@[reducible] noncomputable def hd.o335 (P : Params) : Obj := fnAt 32 Value.none (Value.str (Str.ofString "phpcore.spllists") 536) 334 rfl
@[reducible] noncomputable def hd.o336 (P : Params) : Obj := (Obj.mk (Value.type "tuple") none (Data.seq (List.toArray []) 0) (List.toArray []))
@[reducible] noncomputable def hd.o337 (P : Params) : Obj := (Obj.mk Value.none none (Data.fields (List.toArray [])) (List.toArray []))
@[reducible] noncomputable def hd.o338 (P : Params) : Obj := (Obj.mk (Value.type "tuple") none (Data.seq (List.toArray [(Value.str (Str.ofString "line") 624)]) 0) (List.toArray []))
@[reducible] noncomputable def hd.o339 (P : Params) : Obj := (Obj.mk (Value.type "tuple") none (Data.seq (List.toArray []) 0) (List.toArray []))
@[reducible] noncomputable def hd.o340 (P : Params) : Obj := cdAt 33 rfl
@[reducible] noncomputable def hd.o341 (P : Params) : Obj := (Obj.mk (Value.type "code") none (Data.fields (List.toArray [(Value.str (Str.ofString "link_pop") 621), (Value.str (Str.ofString "link_pop") 622), (Value.str (Str.ofString "/claim/cut.py") 623), (Value.int 218 0), (Value.int 1 0), (Value.int 0 0), (Value.int 0 0), (Value.int 3 0), (Value.ref 336), (Value.bool Bool.true), (Value.int 181 0), (Value.ref 337), Value.none, (Value.ref 338), (Value.ref 339), (Value.ref 340), (Value.int 625 0), (Value.int 218 0), (Value.str (Str.ofString "/claim/cut.py") 626)])) (List.toArray []))
@[reducible] noncomputable def hd.o342 (P : Params) : Obj := fnAt 33 Value.none (Value.str (Str.ofString "phpcore.spllists") 536) 341 rfl
@[reducible] noncomputable def hd.o343 (P : Params) : Obj := (Obj.mk (Value.type "tuple") none (Data.seq (List.toArray []) 0) (List.toArray []))
@[reducible] noncomputable def hd.o344 (P : Params) : Obj := (Obj.mk Value.none none (Data.fields (List.toArray [])) (List.toArray []))
@[reducible] noncomputable def hd.o345 (P : Params) : Obj := (Obj.mk (Value.type "tuple") none (Data.seq (List.toArray [(Value.str (Str.ofString "line") 631)]) 0) (List.toArray []))
@[reducible] noncomputable def hd.o346 (P : Params) : Obj := (Obj.mk (Value.type "tuple") none (Data.seq (List.toArray []) 0) (List.toArray []))
@[reducible] noncomputable def hd.o347 (P : Params) : Obj := cdAt 34 rfl
@[reducible] noncomputable def hd.o348 (P : Params) : Obj := (Obj.mk (Value.type "code") none (Data.fields (List.toArray [(Value.str (Str.ofString "link_shift") 628), (Value.str (Str.ofString "link_shift") 629), (Value.str (Str.ofString "/claim/cut.py") 630), (Value.int 220 0), (Value.int 1 0), (Value.int 0 0), (Value.int 0 0), (Value.int 3 0), (Value.ref 343), (Value.bool Bool.true), (Value.int 181 0), (Value.ref 344), Value.none, (Value.ref 345), (Value.ref 346), (Value.ref 347), (Value.int 632 0), (Value.int 220 0), (Value.str (Str.ofString "/claim/cut.py") 633)])) (List.toArray []))
@[reducible] noncomputable def hd.o349 (P : Params) : Obj := fnAt 34 Value.none (Value.str (Str.ofString "phpcore.spllists") 536) 348 rfl
@[reducible] noncomputable def hd.o350 (P : Params) : Obj := (Obj.mk (Value.type "tuple") none (Data.seq (List.toArray []) 0) (List.toArray []))
@[reducible] noncomputable def hd.o351 (P : Params) : Obj := (Obj.mk Value.none none (Data.fields (List.toArray [])) (List.toArray []))
@[reducible] noncomputable def hd.o352 (P : Params) : Obj := (Obj.mk (Value.type "tuple") none (Data.seq (List.toArray [(Value.str (Str.ofString "line") 638), (Value.str (Str.ofString "index") 639), (Value.str (Str.ofString "flags") 640), (Value.str (Str.ofString "is_back") 641), (Value.str (Str.ofString "node") 642)]) 0) (List.toArray []))
@[reducible] noncomputable def hd.o353 (P : Params) : Obj := (Obj.mk (Value.type "tuple") none (Data.seq (List.toArray []) 0) (List.toArray []))
@[reducible] noncomputable def hd.o354 (P : Params) : Obj := cdAt 35 rfl
@[reducible] noncomputable def hd.o355 (P : Params) : Obj := (Obj.mk (Value.type "code") none (Data.fields (List.toArray [(Value.str (Str.ofString "link_at") 635), (Value.str (Str.ofString "link_at") 636), (Value.str (Str.ofString "/claim/cut.py") 637), (Value.int 222 0), (Value.int 3 0), (Value.int 0 0), (Value.int 0 0), (Value.int 3 0), (Value.ref 350), (Value.bool Bool.true), (Value.int 181 0), (Value.ref 351), Value.none, (Value.ref 352), (Value.ref 353), (Value.ref 354), (Value.int 643 0), (Value.int 222 0), (Value.str (Str.ofString "/claim/cut.py") 644)])) (List.toArray []))
@[reducible] noncomputable def hd.o356 (P : Params) : Obj := fnAt 35 Value.none (Value.str (Str.ofString "phpcore.spllists") 536) 355 rfl
@[reducible] noncomputable def hd.o357 (P : Params) : Obj := (Obj.mk (Value.type "tuple") none (Data.seq (List.toArray []) 0) (List.toArray []))
@[reducible] noncomputable def hd.o358 (P : Params) : Obj := (Obj.mk Value.none none (Data.fields (List.toArray [])) (List.toArray []))
@[reducible] noncomputable def hd.o359 (P : Params) : Obj := (Obj.mk (Value.type "tuple") none (Data.seq (List.toArray [(Value.str (Str.ofString "line") 649), (Value.str (Str.ofString "index") 650), (Value.str (Str.ofString "value") 651), (Value.str (Str.ofString "behind") 652), (Value.str (Str.ofString "ahead") 653), (Value.str (Str.ofString "node") 654)]) 0) (List.toArray []))
@[reducible] noncomputable def hd.o360 (P : Params) : Obj := (Obj.mk (Value.type "tuple") none (Data.seq (List.toArray []) 0) (List.toArray []))
@[reducible] noncomputable def hd.o361 (P : Params) : Obj := cdAt 36 rfl
@[reducible] noncomputable def hd.o362 (P : Params) : Obj := (Obj.mk (Value.type "code") none (Data.fields (List.toArray [(Value.str (Str.ofString "link_add") 646), (Value.str (Str.ofString "link_add") 647), (Value.str (Str.ofString "/claim/cut.py") 648), (Value.int 229 0), (Value.int 3 0), (Value.int 0 0), (Value.int 0 0), (Value.int 3 0), (Value.ref 357), (Value.bool Bool.true), (Value.int 181 0), (Value.ref 358), Value.none, (Value.ref 359), (Value.ref 360), (Value.ref 361), (Value.int 655 0), (Value.int 229 0), (Value.str (Str.ofString "/claim/cut.py") 656)])) (List.toArray []))
@[reducible] noncomputable def hd.o363 (P : Params) : Obj := fnAt 36 Value.none (Value.str (Str.ofString "phpcore.spllists") 536) 362 rfl
@[reducible] noncomputable def hd.o364 (P : Params) : Obj := (Obj.mk (Value.type "tuple") none (Data.seq (List.toArray []) 0) (List.toArray []))
@[reducible] noncomputable def hd.o365 (P : Params) : Obj := (Obj.mk Value.none none (Data.fields (List.toArray [])) (List.toArray []))
@[reducible] noncomputable def hd.o366 (P : Params) : Obj := (Obj.mk (Value.type "tuple") none (Data.seq (List.toArray [(Value.str (Str.ofString "line") 661), (Value.str (Str.ofString "index") 662), (Value.str (Str.ofString "node") 663)]) 0) (List.toArray []))
@[reducible] noncomputable def hd.o367 (P : Params) : Obj := (Obj.mk (Value.type "tuple") none (Data.seq (List.toArray []) 0) (List.toArray []))
@[reducible] noncomputable def hd.o368 (P : Params) : Obj := cdAt 37 rfl
@[reducible] noncomputable def hd.o369 (P : Params) : Obj := (Obj.mk (Value.type "code") none (Data.fields (List.toArray [(Value.str (Str.ofString "link_drop") 658), (Value.str (Str.ofString "link_drop") 659), (Value.str (Str.ofString "/claim/cut.py") 660), (Value.int 244 0), (Value.int 2 0), (Value.int 0 0), (Value.int 0 0), (Value.int 3 0), (Value.ref 364), (Value.bool Bool.true), (Value.int 181 0), (Value.ref 365), Value.none, (Value.ref 366), (Value.ref 367), (Value.ref 368), (Value.int 664 0), (Value.int 244 0), (Value.str (Str.ofString "/claim/cut.py") 665)])) (List.toArray []))
@[reducible] noncomputable def hd.o370 (P : Params) : Obj := fnAt 37 Value.none (Value.str (Str.ofString "phpcore.spllists") 536) 369 rfl
@[reducible] noncomputable def hd.o371 (P : Params) : Obj := (Obj.mk (Value.type "tuple") none (Data.seq (List.toArray []) 0) (List.toArray []))
@[reducible] noncomputable def hd.o372 (P : Params) : Obj := (Obj.mk Value.none none (Data.fields (List.toArray [])) (List.toArray []))
@[reducible] noncomputable def hd.o373 (P : Params) : Obj := (Obj.mk (Value.type "tuple") none (Data.seq (List.toArray [(Value.str (Str.ofString "line") 670), (Value.str (Str.ofString "found") 671), (Value.str (Str.ofString "node") 672)]) 0) (List.toArray []))
@[reducible] noncomputable def hd.o374 (P : Params) : Obj := (Obj.mk (Value.type "tuple") none (Data.seq (List.toArray []) 0) (List.toArray []))
@[reducible] noncomputable def hd.o375 (P : Params) : Obj := cdAt 38 rfl
@[reducible] noncomputable def hd.o376 (P : Params) : Obj := (Obj.mk (Value.type "code") none (Data.fields (List.toArray [(Value.str (Str.ofString "link_values") 667), (Value.str (Str.ofString "link_values") 668), (Value.str (Str.ofString "/claim/cut.py") 669), (Value.int 249 0), (Value.int 1 0), (Value.int 0 0), (Value.int 0 0), (Value.int 3 0), (Value.ref 371), (Value.bool Bool.true), (Value.int 181 0), (Value.ref 372), Value.none, (Value.ref 373), (Value.ref 374), (Value.ref 375), (Value.int 673 0), (Value.int 249 0), (Value.str (Str.ofString "/claim/cut.py") 674)])) (List.toArray []))
@[reducible] noncomputable def hd.o377 (P : Params) : Obj := fnAt 38 Value.none (Value.str (Str.ofString "phpcore.spllists") 536) 376 rfl
@[reducible] noncomputable def hd.o378 (P : Params) : Obj := (Obj.mk (Value.type "tuple") none (Data.seq (List.toArray []) 0) (List.toArray []))
@[reducible] noncomputable def hd.o379 (P : Params) : Obj := (Obj.mk Value.none none (Data.fields (List.toArray [])) (List.toArray []))
@[reducible] noncomputable def hd.o380 (P : Params) : Obj := (Obj.mk (Value.type "tuple") none (Data.seq (List.toArray [(Value.str (Str.ofString "line") 679), (Value.str (Str.ofString "node") 680), (Value.str (Str.ofString "old") 681)]) 0) (List.toArray []))
@[reducible] noncomputable def hd.o381 (P : Params) : Obj := (Obj.mk (Value.type "tuple") none (Data.seq (List.toArray []) 0) (List.toArray []))
@[reducible] noncomputable def hd.o382 (P : Params) : Obj := cdAt 39 rfl
@[reducible] noncomputable def hd.o383 (P : Params) : Obj := (Obj.mk (Value.type "code") none (Data.fields (List.toArray [(Value.str (Str.ofString "stand_on") 676), (Value.str (Str.ofString "stand_on") 677), (Value.str (Str.ofString "/claim/cut.py") 678), (Value.int 256 0), (Value.int 2 0), (Value.int 0 0), (Value.int 0 0), (Value.int 3 0), (Value.ref 378), (Value.bool Bool.true), (Value.int 181 0), (Value.ref 379), Value.none, (Value.ref 380), (Value.ref 381), (Value.ref 382), (Value.int 682 0), (Value.int 256 0), (Value.str (Str.ofString "/claim/cut.py") 683)])) (List.toArray []))
@[reducible] noncomputable def hd.o384 (P : Params) : Obj := fnAt 39 Value.none (Value.str (Str.ofString "phpcore.spllists") 536) 383 rfl
@[reducible] noncomputable def hd.o385 (P : Params) : Obj := (Obj.mk (Value.type "tuple") none (Data.seq (List.toArray []) 0) (List.toArray []))
@[reducible] noncomputable def hd.o386 (P : Params) : Obj := (Obj.mk Value.none none (Data.fields (List.toArray [])) (List.toArray []))
@[reducible] noncomputable def hd.o387 (P : Params) : Obj := (Obj.mk (Value.type "tuple") none (Data.seq (List.toArray [(Value.str (Str.ofString "line") 688), (Value.str (Str.ofString "is_back") 689)]) 0) (List.toArray []))
@[reducible] noncomputable def hd.o388 (P : Params) : Obj := (Obj.mk (Value.type "tuple") none (Data.seq (List.toArray []) 0) (List.toArray []))
@[reducible] noncomputable def hd.o389 (P : Params) : Obj := cdAt 40 rfl
@[reducible] noncomputable def hd.o390 (P : Params) : Obj := (Obj.mk (Value.type "code") none (Data.fields (List.toArray [(Value.str (Str.ofString "link_rewind") 685), (Value.str (Str.ofString "link_rewind") 686), (Value.str (Str.ofString "/claim/cut.py") 687), (Value.int 261 0), (Value.int 1 0), (Value.int 0 0), (Value.int 0 0), (Value.int 3 0), (Value.ref 385), (Value.bool Bool.true), (Value.int 181 0), (Value.ref 386), Value.none, (Value.ref 387), (Value.ref 388), (Value.ref 389), (Value.int 690 0), (Value.int 261 0), (Value.str (Str.ofString "/claim/cut.py") 691)])) (List.toArray []))
@[reducible] noncomputable def hd.o391 (P : Params) : Obj := fnAt 40 Value.none (Value.str (Str.ofString "phpcore.spllists") 536) 390 rfl
@[reducible] noncomputable def hd.o392 (P : Params) : Obj := (Obj.mk (Value.type "tuple") none (Data.seq (List.toArray []) 0) (List.toArray []))
@[reducible] noncomputable def hd.o393 (P : Params) : Obj := (Obj.mk Value.none none (Data.fields (List.toArray [])) (List.toArray []))
@[reducible] noncomputable def hd.o394 (P : Params) : Obj := (Obj.mk (Value.type "tuple") none (Data.seq (List.toArray [(Value.str (Str.ofString "line") 696), (Value.str (Str.ofString "flags") 697), (Value.str (Str.ofString "old") 698), (Value.str (Str.ofString "ahead") 699)]) 0) (List.toArray []))
@[reducible] noncomputable def hd.o395 (P : Params) : Obj := (Obj.mk (Value.type "tuple") none (Data.seq (List.toArray []) 0) (List.toArray []))
@[reducible] noncomputable def hd.o396 (P : Params) : Obj := cdAt 41 rfl
@[reducible] noncomputable def hd.o397 (P : Params) : Obj := (Obj.mk (Value.type "code") none (Data.fields (List.toArray [(Value.str (Str.ofString "link_step") 693), (Value.str (Str.ofString "link_step") 694), (Value.str (Str.ofString "/claim/cut.py") 695), (Value.int 265 0), (Value.int 2 0), (Value.int 0 0), (Value.int 0 0), (Value.int 3 0), (Value.ref 392), (Value.bool Bool.true), (Value.int 181 0), (Value.ref 393), Value.none, (Value.ref 394), (Value.ref 395), (Value.ref 396), (Value.int 700 0), (Value.int 265 0), (Value.str (Str.ofString "/claim/cut.py") 701)])) (List.toArray []))
@[reducible] noncomputable def hd.o398 (P : Params) : Obj := fnAt 41 Value.none (Value.str (Str.ofString "phpcore.spllists") 536) 397 rfl
@[reducible] noncomputable def hd.o399 (P : Params) : Obj := (Obj.mk (Value.type "tuple") none (Data.seq (List.toArray []) 0) (List.toArray []))
@[reducible] noncomputable def hd.o400 (P : Params) : Obj := (Obj.mk Value.none none (Data.fields (List.toArray [])) (List.toArray []))
@[reducible] noncomputable def hd.o401 (P : Params) : Obj := (Obj.mk (Value.type "tuple") none (Data.seq (List.toArray [(Value.str (Str.ofString "line") 706)]) 0) (List.toArray []))
@[reducible] noncomputable def hd.o402 (P : Params) : Obj := (Obj.mk (Value.type "tuple") none (Data.seq (List.toArray []) 0) (List.toArray []))
@[reducible] noncomputable def hd.o403 (P : Params) : Obj := cdAt 42 rfl
@[reducible] noncomputable def hd.o404 (P : Params) : Obj := (Obj.mk (Value.type "code") none (Data.fields (List.toArray [(Value.str (Str.ofString "link_current") 703), (Value.str (Str.ofString "link_current") 704), (Value.str (Str.ofString "/claim/cut.py") 705), (Value.int 281 0), (Value.int 1 0), (Value.int 0 0), (Value.int 0 0), (Value.int 3 0), (Value.ref 399), (Value.bool Bool.true), (Value.int 181 0), (Value.ref 400), Value.none, (Value.ref 401), (Value.ref 402), (Value.ref 403), (Value.int 707 0), (Value.int 281 0), (Value.str (Str.ofString "/claim/cut.py") 708)])) (List.toArray []))
@[reducible] noncomputable def hd.o405 (P : Params) : Obj := fnAt 42 Value.none (Value.str (Str.ofString "phpcore.spllists") 536) 404 rfl
@[reducible] noncomputable def hd.o406 (P : Params) : Obj := (Obj.mk (Value.type "tuple") none (Data.seq (List.toArray []) 0) (List.toArray []))
@[reducible] noncomputable def hd.o407 (P : Params) : Obj := (Obj.mk Value.none none (Data.fields (List.toArray [])) (List.toArray []))
@[reducible] noncomputable def hd.o408 (P : Params) : Obj := (Obj.mk (Value.type "tuple") none (Data.seq (List.toArray [(Value.str (Str.ofString "line") 713), (Value.str (Str.ofString "made") 714), (Value.str (Str.ofString "value") 715)]) 0) (List.toArray []))
@[reducible] noncomputable def hd.o409 (P : Params) : Obj := (Obj.mk (Value.type "tuple") none (Data.seq (List.toArray []) 0) (List.toArray []))
@[reducible] noncomputable def hd.o410 (P : Params) : Obj := cdAt 43 rfl
@[reducible] noncomputable def hd.o411 (P : Params) : Obj := (Obj.mk (Value.type "code") none (Data.fields (List.toArray [(Value.str (Str.ofString "link_copy") 710), (Value.str (Str.ofString "link_copy") 711), (Value.str (Str.ofString "/claim/cut.py") 712), (Value.int 285 0), (Value.int 1 0), (Value.int 0 0), (Value.int 0 0), (Value.int 3 0), (Value.ref 406), (Value.bool Bool.true), (Value.int 181 0), (Value.ref 407), Value.none, (Value.ref 408), (Value.ref 409), (Value.ref 410), (Value.int 716 0), (Value.int 285 0), (Value.str (Str.ofString "/claim/cut.py") 717)])) (List.toArray []))
@[reducible] noncomputable def hd.o412 (P : Params) : Obj := fnAt 43 Value.none (Value.str (Str.ofString "phpcore.spllists") 536) 411 rfl
@[reducible] noncomputable def hd.o413 (P : Params) : Obj := (Obj.mk (Value.type "tuple") none (Data.seq (List.toArray []) 0) (List.toArray []))
@[reducible] noncomputable def hd.o414 (P : Params) : Obj := (Obj.mk Value.none none (Data.fields (List.toArray [])) (List.toArray []))
@[reducible] noncomputable def hd.o415 (P : Params) : Obj := (Obj.mk (Value.type "tuple") none (Data.seq (List.toArray []) 0) (List.toArray []))
@[reducible] noncomputable def hd.o416 (P : Params) : Obj := (Obj.mk (Value.type "tuple") none (Data.seq (List.toArray []) 0) (List.toArray []))
@[reducible] noncomputable def hd.o417 (P : Params) : Obj := cdAt 45 rfl
@[reducible] noncomputable def hd.o418 (P : Params) : Obj := (Obj.mk (Value.type "code") none (Data.fields (List.toArray [(Value.str (Str.ofString "_law_told") 721), (Value.str (Str.ofString "_law_told") 722), (Value.str (Str.ofString "/claim/cut.py") 723), (Value.int 293 0), (Value.int 0 0), (Value.int 0 0), (Value.int 0 0), (Value.int 3 0), (Value.ref 413), (Value.bool Bool.true), (Value.int 181 0), (Value.ref 414), Value.none, (Value.ref 415), (Value.ref 416), (Value.ref 417), (Value.int 724 0), (Value.int 293 0), (Value.str (Str.ofString "/claim/cut.py") 725)])) (List.toArray []))
@[reducible] noncomputable def hd.o419 (P : Params) : Obj := fnAt 45 Value.none (Value.str (Str.ofString "law_pf0210_01") 719) 418 rfl
@[reducible] noncomputable def hd.o420 (P : Params) : Obj := (Obj.mk (Value.type "tuple") none (Data.seq (List.toArray []) 0) (List.toArray []))
@[reducible] noncomputable def hd.o421 (P : Params) : Obj := (Obj.mk Value.none none (Data.fields (List.toArray [])) (List.toArray []))
@[reducible] noncomputable def hd.o422 (P : Params) : Obj := (Obj.mk (Value.type "tuple") none (Data.seq (List.toArray [(Value.str (Str.ofString "pen") 730), (Value.str (Str.ofString "told") 731), (Value.str (Str.ofString "many") 732), (Value.str (Str.ofString "drawn") 733)]) 0) (List.toArray []))
@[reducible] noncomputable def hd.o423 (P : Params) : Obj := (Obj.mk (Value.type "tuple") none (Data.seq (List.toArray []) 0) (List.toArray []))
@[reducible] noncomputable def hd.o424 (P : Params) : Obj := cdAt 46 rfl
@[reducible] noncomputable def hd.o425 (P : Params) : Obj := (Obj.mk (Value.type "code") none (Data.fields (List.toArray [(Value.str (Str.ofString "_law_draw") 727), (Value.str (Str.ofString "_law_draw") 728), (Value.str (Str.ofString "/claim/cut.py") 729), (Value.int 295 0), (Value.int 3 0), (Value.int 0 0), (Value.int 0 0), (Value.int 3 0), (Value.ref 420), (Value.bool Bool.true), (Value.int 181 0), (Value.ref 421), Value.none, (Value.ref 422), (Value.ref 423), (Value.ref 424), (Value.int 734 0), (Value.int 295 0), (Value.str (Str.ofString "/claim/cut.py") 735)])) (List.toArray []))
@[reducible] noncomputable def hd.o426 (P : Params) : Obj := fnAt 46 Value.none (Value.str (Str.ofString "law_pf0210_01") 719) 425 rfl
@[reducible] noncomputable def hd.o427 (P : Params) : Obj := (Obj.mk (Value.type "tuple") none (Data.seq (List.toArray []) 0) (List.toArray []))
@[reducible] noncomputable def hd.o428 (P : Params) : Obj := (Obj.mk Value.none none (Data.fields (List.toArray [])) (List.toArray []))
@[reducible] noncomputable def hd.o429 (P : Params) : Obj := (Obj.mk (Value.type "tuple") none (Data.seq (List.toArray [(Value.str (Str.ofString "line") 740), (Value.str (Str.ofString "rows") 741), (Value.str (Str.ofString "deed") 742), (Value.str (Str.ofString "value") 743)]) 0) (List.toArray []))
@[reducible] noncomputable def hd.o430 (P : Params) : Obj := (Obj.mk (Value.type "tuple") none (Data.seq (List.toArray []) 0) (List.toArray []))
@[reducible] noncomputable def hd.o431 (P : Params) : Obj := cdAt 47 rfl
@[reducible] noncomputable def hd.o432 (P : Params) : Obj := (Obj.mk (Value.type "code") none (Data.fields (List.toArray [(Value.str (Str.ofString "_law_at_ends") 737), (Value.str (Str.ofString "_law_at_ends") 738), (Value.str (Str.ofString "/claim/cut.py") 739), (Value.int 299 0), (Value.int 4 0), (Value.int 0 0), (Value.int 0 0), (Value.int 3 0), (Value.ref 427), (Value.bool Bool.true), (Value.int 181 0), (Value.ref 428), Value.none, (Value.ref 429), (Value.ref 430), (Value.ref 431), (Value.int 744 0), (Value.int 299 0), (Value.str (Str.ofString "/claim/cut.py") 745)])) (List.toArray []))
@[reducible] noncomputable def hd.o433 (P : Params) : Obj := fnAt 47 Value.none (Value.str (Str.ofString "law_pf0210_01") 719) 432 rfl
@[reducible] noncomputable def hd.o434 (P : Params) : Obj := (Obj.mk (Value.type "tuple") none (Data.seq (List.toArray []) 0) (List.toArray []))
@[reducible] noncomputable def hd.o435 (P : Params) : Obj := (Obj.mk Value.none none (Data.fields (List.toArray [])) (List.toArray []))
@[reducible] noncomputable def hd.o436 (P : Params) : Obj := (Obj.mk (Value.type "tuple") none (Data.seq (List.toArray [(Value.str (Str.ofString "line") 750), (Value.str (Str.ofString "mine") 751), (Value.str (Str.ofString "index") 752), (Value.str (Str.ofString "value") 753), (Value.str (Str.ofString "rows") 754)]) 0) (List.toArray []))
@[reducible] noncomputable def hd.o437 (P : Params) : Obj := (Obj.mk (Value.type "tuple") none (Data.seq (List.toArray []) 0) (List.toArray []))
@[reducible] noncomputable def hd.o438 (P : Params) : Obj := cdAt 48 rfl
@[reducible] noncomputable def hd.o439 (P : Params) : Obj := (Obj.mk (Value.type "code") none (Data.fields (List.toArray [(Value.str (Str.ofString "_law_added") 747), (Value.str (Str.ofString "_law_added") 748), (Value.str (Str.ofString "/claim/cut.py") 749), (Value.int 311 0), (Value.int 4 0), (Value.int 0 0), (Value.int 0 0), (Value.int 3 0), (Value.ref 434), (Value.bool Bool.true), (Value.int 181 0), (Value.ref 435), Value.none, (Value.ref 436), (Value.ref 437), (Value.ref 438), (Value.int 755 0), (Value.int 311 0), (Value.str (Str.ofString "/claim/cut.py") 756)])) (List.toArray []))
@[reducible] noncomputable def hd.o440 (P : Params) : Obj := fnAt 48 Value.none (Value.str (Str.ofString "law_pf0210_01") 719) 439 rfl
@[reducible] noncomputable def hd.o441 (P : Params) : Obj := (Obj.mk (Value.type "tuple") none (Data.seq (List.toArray []) 0) (List.toArray []))
@[reducible] noncomputable def hd.o442 (P : Params) : Obj := (Obj.mk Value.none none (Data.fields (List.toArray [])) (List.toArray []))
@[reducible] noncomputable def hd.o443 (P : Params) : Obj := (Obj.mk (Value.type "tuple") none (Data.seq (List.toArray [(Value.str (Str.ofString "line") 761), (Value.str (Str.ofString "mine") 762), (Value.str (Str.ofString "index") 763), (Value.str (Str.ofString "rows") 764), (Value.str (Str.ofString "place") 765)]) 0) (List.toArray []))
@[reducible] noncomputable def hd.o444 (P : Params) : Obj := (Obj.mk (Value.type "tuple") none (Data.seq (List.toArray []) 0) (List.toArray []))
@[reducible] noncomputable def hd.o445 (P : Params) : Obj := cdAt 49 rfl
@[reducible] noncomputable def hd.o446 (P : Params) : Obj := (Obj.mk (Value.type "code") none (Data.fields (List.toArray [(Value.str (Str.ofString "_law_dropped") 758), (Value.str (Str.ofString "_law_dropped") 759), (Value.str (Str.ofString "/claim/cut.py") 760), (Value.int 320 0), (Value.int 3 0), (Value.int 0 0), (Value.int 0 0), (Value.int 3 0), (Value.ref 441), (Value.bool Bool.true), (Value.int 181 0), (Value.ref 442), Value.none, (Value.ref 443), (Value.ref 444), (Value.ref 445), (Value.int 766 0), (Value.int 320 0), (Value.str (Str.ofString "/claim/cut.py") 767)])) (List.toArray []))
@[reducible] noncomputable def hd.o447 (P : Params) : Obj := fnAt 49 Value.none (Value.str (Str.ofString "law_pf0210_01") 719) 446 rfl
@[reducible] noncomputable def hd.o448 (P : Params) : Obj := (Obj.mk (Value.type "tuple") none (Data.seq (List.toArray []) 0) (List.toArray []))
@[reducible] noncomputable def hd.o449 (P : Params) : Obj := (Obj.mk Value.none none (Data.fields (List.toArray [])) (List.toArray []))
@[reducible] noncomputable def hd.o450 (P : Params) : Obj := (Obj.mk (Value.type "tuple") none (Data.seq (List.toArray [(Value.str (Str.ofString "line") 772), (Value.str (Str.ofString "mine") 773), (Value.str (Str.ofString "rows") 774)]) 0) (List.toArray []))
@[reducible] noncomputable def hd.o451 (P : Params) : Obj := (Obj.mk (Value.type "tuple") none (Data.seq (List.toArray []) 0) (List.toArray []))
@[reducible] noncomputable def hd.o452 (P : Params) : Obj := cdAt 50 rfl
@[reducible] noncomputable def hd.o453 (P : Params) : Obj := (Obj.mk (Value.type "code") none (Data.fields (List.toArray [(Value.str (Str.ofString "_law_rewound") 769), (Value.str (Str.ofString "_law_rewound") 770), (Value.str (Str.ofString "/claim/cut.py") 771), (Value.int 329 0), (Value.int 2 0), (Value.int 0 0), (Value.int 0 0), (Value.int 3 0), (Value.ref 448), (Value.bool Bool.true), (Value.int 181 0), (Value.ref 449), Value.none, (Value.ref 450), (Value.ref 451), (Value.ref 452), (Value.int 775 0), (Value.int 329 0), (Value.str (Str.ofString "/claim/cut.py") 776)])) (List.toArray []))
@[reducible] noncomputable def hd.o454 (P : Params) : Obj := fnAt 50 Value.none (Value.str (Str.ofString "law_pf0210_01") 719) 453 rfl
@[reducible] noncomputable def hd.o455 (P : Params) : Obj := (Obj.mk (Value.type "tuple") none (Data.seq (List.toArray []) 0) (List.toArray []))
@[reducible] noncomputable def hd.o456 (P : Params) : Obj := (Obj.mk Value.none none (Data.fields (List.toArray [])) (List.toArray []))
@[reducible] noncomputable def hd.o457 (P : Params) : Obj := (Obj.mk (Value.type "tuple") none (Data.seq (List.toArray [(Value.str (Str.ofString "line") 781), (Value.str (Str.ofString "mine") 782), (Value.str (Str.ofString "flags") 783), (Value.str (Str.ofString "rows") 784), (Value.str (Str.ofString "at") 785), (Value.str (Str.ofString "step") 786)]) 0) (List.toArray []))
@[reducible] noncomputable def hd.o458 (P : Params) : Obj := (Obj.mk (Value.type "tuple") none (Data.seq (List.toArray []) 0) (List.toArray []))
@[reducible] noncomputable def hd.o459 (P : Params) : Obj := cdAt 51 rfl
@[reducible] noncomputable def hd.o460 (P : Params) : Obj := (Obj.mk (Value.type "code") none (Data.fields (List.toArray [(Value.str (Str.ofString "_law_stepped") 778), (Value.str (Str.ofString "_law_stepped") 779), (Value.str (Str.ofString "/claim/cut.py") 780), (Value.int 334 0), (Value.int 3 0), (Value.int 0 0), (Value.int 0 0), (Value.int 3 0), (Value.ref 455), (Value.bool Bool.true), (Value.int 181 0), (Value.ref 456), Value.none, (Value.ref 457), (Value.ref 458), (Value.ref 459), (Value.int 787 0), (Value.int 334 0), (Value.str (Str.ofString "/claim/cut.py") 788)])) (List.toArray []))
@[reducible] noncomputable def hd.o461 (P : Params) : Obj := fnAt 51 Value.none (Value.str (Str.ofString "law_pf0210_01") 719) 460 rfl
@[reducible] noncomputable def hd.o462 (P : Params) : Obj := (Obj.mk (Value.type "tuple") none (Data.seq (List.toArray []) 0) (List.toArray []))
@[reducible] noncomputable def hd.o463 (P : Params) : Obj := (Obj.mk Value.none none (Data.fields (List.toArray [])) (List.toArray []))
@[reducible] noncomputable def hd.o464 (P : Params) : Obj := (Obj.mk (Value.type "tuple") none (Data.seq (List.toArray [(Value.str (Str.ofString "line") 793), (Value.str (Str.ofString "mine") 794), (Value.str (Str.ofString "deed") 795), (Value.str (Str.ofString "index") 796), (Value.str (Str.ofString "value") 797)]) 0) (List.toArray []))
@[reducible] noncomputable def hd.o465 (P : Params) : Obj := (Obj.mk (Value.type "tuple") none (Data.seq (List.toArray []) 0) (List.toArray []))
@[reducible] noncomputable def hd.o466 (P : Params) : Obj := cdAt 52 rfl
@[reducible] noncomputable def hd.o467 (P : Params) : Obj := (Obj.mk (Value.type "code") none (Data.fields (List.toArray [(Value.str (Str.ofString "_law_deed") 790), (Value.str (Str.ofString "_law_deed") 791), (Value.str (Str.ofString "/claim/cut.py") 792), (Value.int 347 0), (Value.int 5 0), (Value.int 0 0), (Value.int 0 0), (Value.int 3 0), (Value.ref 462), (Value.bool Bool.true), (Value.int 181 0), (Value.ref 463), Value.none, (Value.ref 464), (Value.ref 465), (Value.ref 466), (Value.int 798 0), (Value.int 347 0), (Value.str (Str.ofString "/claim/cut.py") 799)])) (List.toArray []))
@[reducible] noncomputable def hd.o468 (P : Params) : Obj := fnAt 52 Value.none (Value.str (Str.ofString "law_pf0210_01") 719) 467 rfl
@[reducible] noncomputable def hd.o469 (P : Params) : Obj := (Obj.mk (Value.type "tuple") none (Data.seq (List.toArray []) 0) (List.toArray []))
@[reducible] noncomputable def hd.o470 (P : Params) : Obj := (Obj.mk Value.none none (Data.fields (List.toArray [])) (List.toArray []))
@[reducible] noncomputable def hd.o471 (P : Params) : Obj := (Obj.mk (Value.type "tuple") none (Data.seq (List.toArray [(Value.str (Str.ofString "first") 804), (Value.str (Str.ofString "ways") 805), (Value.str (Str.ofString "most") 806), (Value.str (Str.ofString "nodes") 807)]) 0) (List.toArray []))
@[reducible] noncomputable def hd.o472 (P : Params) : Obj := (Obj.mk (Value.type "tuple") none (Data.seq (List.toArray []) 0) (List.toArray []))
@[reducible] noncomputable def hd.o473 (P : Params) : Obj := cdAt 53 rfl
@[reducible] noncomputable def hd.o474 (P : Params) : Obj := (Obj.mk (Value.type "code") none (Data.fields (List.toArray [(Value.str (Str.ofString "_law_nodes") 801), (Value.str (Str.ofString "_law_nodes") 802), (Value.str (Str.ofString "/claim/cut.py") 803), (Value.int 364 0), (Value.int 3 0), (Value.int 0 0), (Value.int 0 0), (Value.int 3 0), (Value.ref 469), (Value.bool Bool.true), (Value.int 181 0), (Value.ref 470), Value.none, (Value.ref 471), (Value.ref 472), (Value.ref 473), (Value.int 808 0), (Value.int 364 0), (Value.str (Str.ofString "/claim/cut.py") 809)])) (List.toArray []))
@[reducible] noncomputable def hd.o475 (P : Params) : Obj := fnAt 53 Value.none (Value.str (Str.ofString "law_pf0210_01") 719) 474 rfl
@[reducible] noncomputable def hd.o476 (P : Params) : Obj := (Obj.mk (Value.type "tuple") none (Data.seq (List.toArray []) 0) (List.toArray []))
@[reducible] noncomputable def hd.o477 (P : Params) : Obj := (Obj.mk Value.none none (Data.fields (List.toArray [])) (List.toArray []))
@[reducible] noncomputable def hd.o478 (P : Params) : Obj := cdAt 54 rfl
@[reducible] noncomputable def hd.o479 (P : Params) : Obj := (Obj.mk (Value.type "code") none (Data.fields (List.toArray [(Value.str (Str.ofString "_law_linked") 811), (Value.str (Str.ofString "_law_linked") 812), (Value.str (Str.ofString "/claim/cut.py") 813), (Value.int 370 0), (Value.int 2 0), (Value.int 0 0), (Value.int 0 0), (Value.int 3 0), (Value.ref 476), (Value.bool Bool.true), (Value.int 181 0), (Value.ref 477), Value.none, Value.none, Value.none, (Value.ref 478), (Value.int 814 0), (Value.int 370 0), (Value.str (Str.ofString "/claim/cut.py") 815)])) (List.toArray []))
@[reducible] noncomputable def hd.o480 (P : Params) : Obj := fnAt 54 Value.none (Value.str (Str.ofString "law_pf0210_01") 719) 479 rfl
@[reducible] noncomputable def hd.o481 (P : Params) : Obj := (Obj.mk (Value.type "tuple") none (Data.seq (List.toArray []) 0) (List.toArray []))
@[reducible] noncomputable def hd.o482 (P : Params) : Obj := (Obj.mk Value.none none (Data.fields (List.toArray [])) (List.toArray []))
@[reducible] noncomputable def hd.o483 (P : Params) : Obj := (Obj.mk (Value.type "tuple") none (Data.seq (List.toArray [(Value.str (Str.ofString "line") 820), (Value.str (Str.ofString "mine") 821), (Value.str (Str.ofString "at") 822)]) 0) (List.toArray []))
@[reducible] noncomputable def hd.o484 (P : Params) : Obj := (Obj.mk (Value.type "tuple") none (Data.seq (List.toArray []) 0) (List.toArray []))
@[reducible] noncomputable def hd.o485 (P : Params) : Obj := cdAt 55 rfl
@[reducible] noncomputable def hd.o486 (P : Params) : Obj := (Obj.mk (Value.type "code") none (Data.fields (List.toArray [(Value.str (Str.ofString "_law_marked") 817), (Value.str (Str.ofString "_law_marked") 818), (Value.str (Str.ofString "/claim/cut.py") 819), (Value.int 380 0), (Value.int 2 0), (Value.int 0 0), (Value.int 0 0), (Value.int 3 0), (Value.ref 481), (Value.bool Bool.true), (Value.int 181 0), (Value.ref 482), Value.none, (Value.ref 483), (Value.ref 484), (Value.ref 485), (Value.int 823 0), (Value.int 380 0), (Value.str (Str.ofString "/claim/cut.py") 824)])) (List.toArray []))
@[reducible] noncomputable def hd.o487 (P : Params) : Obj := fnAt 55 Value.none (Value.str (Str.ofString "law_pf0210_01") 719) 486 rfl
@[reducible] noncomputable def hd.o488 (P : Params) : Obj := (Obj.mk (Value.type "tuple") none (Data.seq (List.toArray []) 0) (List.toArray []))
@[reducible] noncomputable def hd.o489 (P : Params) : Obj := (Obj.mk Value.none none (Data.fields (List.toArray [])) (List.toArray []))
@[reducible] noncomputable def hd.o490 (P : Params) : Obj := (Obj.mk (Value.type "tuple") none (Data.seq (List.toArray [(Value.str (Str.ofString "line") 829), (Value.str (Str.ofString "mine") 830), (Value.str (Str.ofString "rows") 831), (Value.str (Str.ofString "at") 832), (Value.str (Str.ofString "gone") 833), (Value.str (Str.ofString "node") 834), (Value.str (Str.ofString "nodes") 835)]) 0) (List.toArray []))
@[reducible] noncomputable def hd.o491 (P : Params) : Obj := (Obj.mk (Value.type "tuple") none (Data.seq (List.toArray []) 0) (List.toArray []))
@[reducible] noncomputable def hd.o492 (P : Params) : Obj := cdAt 56 rfl
@[reducible] noncomputable def hd.o493 (P : Params) : Obj := (Obj.mk (Value.type "code") none (Data.fields (List.toArray [(Value.str (Str.ofString "_law_thrifty") 826), (Value.str (Str.ofString "_law_thrifty") 827), (Value.str (Str.ofString "/claim/cut.py") 828), (Value.int 385 0), (Value.int 2 0), (Value.int 0 0), (Value.int 0 0), (Value.int 3 0), (Value.ref 488), (Value.bool Bool.true), (Value.int 181 0), (Value.ref 489), Value.none, (Value.ref 490), (Value.ref 491), (Value.ref 492), (Value.int 836 0), (Value.int 385 0), (Value.str (Str.ofString "/claim/cut.py") 837)])) (List.toArray []))
@[reducible] noncomputable def hd.o494 (P : Params) : Obj := fnAt 56 Value.none (Value.str (Str.ofString "law_pf0210_01") 719) 493 rfl
@[reducible] noncomputable def hd.o495 (P : Params) : Obj := (Obj.mk (Value.type "tuple") none (Data.seq (List.toArray []) 0) (List.toArray []))
@[reducible] noncomputable def hd.o496 (P : Params) : Obj := (Obj.mk Value.none none (Data.fields (List.toArray [])) (List.toArray []))
@[reducible] noncomputable def hd.o497 (P : Params) : Obj := (Obj.mk (Value.type "tuple") none (Data.seq (List.toArray [(Value.str (Str.ofString "line") 842), (Value.str (Str.ofString "rows") 843), (Value.str (Str.ofString "made") 844)]) 0) (List.toArray []))
@[reducible] noncomputable def hd.o498 (P : Params) : Obj := (Obj.mk (Value.type "tuple") none (Data.seq (List.toArray []) 0) (List.toArray []))
@[reducible] noncomputable def hd.o499 (P : Params) : Obj := cdAt 57 rfl
@[reducible] noncomputable def hd.o500 (P : Params) : Obj := (Obj.mk (Value.type "code") none (Data.fields (List.toArray [(Value.str (Str.ofString "_law_copied") 839), (Value.str (Str.ofString "_law_copied") 840), (Value.str (Str.ofString "/claim/cut.py") 841), (Value.int 397 0), (Value.int 2 0), (Value.int 0 0), (Value.int 0 0), (Value.int 3 0), (Value.ref 495), (Value.bool Bool.true), (Value.int 181 0), (Value.ref 496), Value.none, (Value.ref 497), (Value.ref 498), (Value.ref 499), (Value.int 845 0), (Value.int 397 0), (Value.str (Str.ofString "/claim/cut.py") 846)])) (List.toArray []))
@[reducible] noncomputable def hd.o501 (P : Params) : Obj := fnAt 57 Value.none (Value.str (Str.ofString "law_pf0210_01") 719) 500 rfl
@[reducible] noncomputable def hd.o502 (P : Params) : Obj := (Obj.mk (Value.type "tuple") none (Data.seq (List.toArray []) 0) (List.toArray []))
@[reducible] noncomputable def hd.o503 (P : Params) : Obj := (Obj.mk Value.none none (Data.fields (List.toArray [])) (List.toArray []))
@[reducible] noncomputable def hd.o504 (P : Params) : Obj := (Obj.mk (Value.type "tuple") none (Data.seq (List.toArray [(Value.str (Str.ofString "told") 851), (Value.str (Str.ofString "pen") 852), (Value.str (Str.ofString "line") 853), (Value.str (Str.ofString "mine") 854), (Value.str (Str.ofString "turn") 855), (Value.str (Str.ofString "deed") 856), (Value.str (Str.ofString "index") 857)]) 0) (List.toArray []))
@[reducible] noncomputable def hd.o505 (P : Params) : Obj := (Obj.mk (Value.type "tuple") none (Data.seq (List.toArray []) 0) (List.toArray []))
@[reducible] noncomputable def hd.o506 (P : Params) : Obj := cdAt 58 rfl
@[reducible] noncomputable def hd.o507 (P : Params) : Obj := (Obj.mk (Value.type "code") none (Data.fields (List.toArray [(Value.str (Str.ofString "_law_kept") 848), (Value.str (Str.ofString "_law_kept") 849), (Value.str (Str.ofString "/claim/cut.py") 850), (Value.int 403 0), (Value.int 2 0), (Value.int 0 0), (Value.int 0 0), (Value.int 3 0), (Value.ref 502), (Value.bool Bool.true), (Value.int 181 0), (Value.ref 503), Value.none, (Value.ref 504), (Value.ref 505), (Value.ref 506), (Value.int 858 0), (Value.int 403 0), (Value.str (Str.ofString "/claim/cut.py") 859)])) (List.toArray []))
@[reducible] noncomputable def hd.o508 (P : Params) : Obj := fnAt 58 Value.none (Value.str (Str.ofString "law_pf0210_01") 719) 507 rfl
@[reducible] noncomputable def hd.o509 (P : Params) : Obj := (Obj.mk (Value.type "tuple") none (Data.seq (List.toArray []) 0) (List.toArray []))
@[reducible] noncomputable def hd.o510 (P : Params) : Obj := (Obj.mk Value.none none (Data.fields (List.toArray [])) (List.toArray []))
@[reducible] noncomputable def hd.o511 (P : Params) : Obj := (Obj.mk (Value.type "tuple") none (Data.seq (List.toArray [(Value.str (Str.ofString "script") 864), (Value.str (Str.ofString "nth") 865), (Value.str (Str.ofString "told") 866)]) 0) (List.toArray []))
@[reducible] noncomputable def hd.o512 (P : Params) : Obj := (Obj.mk (Value.type "tuple") none (Data.seq (List.toArray []) 0) (List.toArray []))
@[reducible] noncomputable def hd.o513 (P : Params) : Obj := cdAt 59 rfl
@[reducible] noncomputable def hd.o514 (P : Params) : Obj := (Obj.mk (Value.type "code") none (Data.fields (List.toArray [(Value.str (Str.ofString "law") 861), (Value.str (Str.ofString "law") 862), (Value.str (Str.ofString "/claim/cut.py") 863), (Value.int 413 0), (Value.int 1 0), (Value.int 0 0), (Value.int 0 0), (Value.int 3 0), (Value.ref 509), (Value.bool Bool.true), (Value.int 181 0), (Value.ref 510), Value.none, (Value.ref 511), (Value.ref 512), (Value.ref 513), (Value.int 867 0), (Value.int 413 0), (Value.str (Str.ofString "/claim/cut.py") 868)])) (List.toArray []))
@[reducible] noncomputable def hd.o515 (P : Params) : Obj := fnAt 59 Value.none (Value.str (Str.ofString "law_pf0210_01") 719) 514 rfl
noncomputable def hd.heap (P : Params) : Heap := Heap.mk (Array.mk [W.boot_o_0 P, W.boot_o_1 P, hd.o2 P, hd.o3 P, W.boot_o_4 P, W.boot_o_5 P, W.boot_o_6 P, W.boot_o_7 P, W.boot_o_8 P, W.boot_o_9 P, W.boot_o_10 P, hd.o11 P, hd.o12 P, hd.o13 P, hd.o14 P, hd.o15 P, hd.o16 P, hd.o17 P, hd.o18 P, hd.o19 P, hd.o20 P, hd.o21 P, hd.o22 P, hd.o23 P, hd.o24 P, hd.o25 P, hd.o26 P, hd.o27 P, hd.o28 P, hd.o29 P, hd.o30 P, hd.o31 P, hd.o32 P, hd.o33 P, hd.o34 P, hd.o35 P, hd.o36 P, hd.o37 P, hd.o38 P, hd.o39 P, hd.o40 P, hd.o41 P, hd.o42 P, hd.o43 P, hd.o44 P, hd.o45 P, hd.o46 P, hd.o47 P, hd.o48 P, hd.o49 P, hd.o50 P, hd.o51 P, hd.o52 P, hd.o53 P, hd.o54 P, hd.o55 P, hd.o56 P, hd.o57 P, hd.o58 P, hd.o59 P, hd.o60 P, hd.o61 P, hd.o62 P, hd.o63 P, hd.o64 P, hd.o65 P, hd.o66 P, hd.o67 P, hd.o68 P, hd.o69 P, hd.o70 P, hd.o71 P, hd.o72 P, hd.o73 P, hd.o74 P, hd.o75 P, hd.o76 P, hd.o77 P, hd.o78 P, hd.o79 P, hd.o80 P, hd.o81 P, hd.o82 P, hd.o83 P, hd.o84 P, hd.o85 P, hd.o86 P, hd.o87 P, hd.o88 P, hd.o89 P, hd.o90 P, hd.o91 P, hd.o92 P, hd.o93 P, hd.o94 P, hd.o95 P, hd.o96 P, hd.o97 P, hd.o98 P, hd.o99 P, hd.o100 P, hd.o101 P, hd.o102 P, hd.o103 P, hd.o104 P, hd.o105 P, hd.o106 P, hd.o107 P, hd.o108 P, hd.o109 P, hd.o110 P, hd.o111 P, hd.o112 P, hd.o113 P, hd.o114 P, hd.o115 P, hd.o116 P, hd.o117 P, hd.o118 P, hd.o119 P, hd.o120 P, hd.o121 P, hd.o122 P, hd.o123 P, hd.o124 P, hd.o125 P, hd.o126 P, hd.o127 P, hd.o128 P, hd.o129 P, hd.o130 P, hd.o131 P, hd.o132 P, hd.o133 P, hd.o134 P, hd.o135 P, hd.o136 P, hd.o137 P, hd.o138 P, hd.o139 P, hd.o140 P, hd.o141 P, hd.o142 P, hd.o143 P, hd.o144 P, hd.o145 P, hd.o146 P, hd.o147 P, hd.o148 P, hd.o149 P, hd.o150 P, hd.o151 P, hd.o152 P, hd.o153 P, hd.o154 P, hd.o155 P, hd.o156 P, hd.o157 P, hd.o158 P, hd.o159 P, hd.o160 P, hd.o161 P, hd.o162 P, hd.o163 P, hd.o164 P, hd.o165 P, hd.o166 P, hd.o167 P, hd.o168 P, hd.o169 P, hd.o170 P, hd.o171 P, hd.o172 P, hd.o173 P, hd.o174 P, hd.o175 P, hd.o176 P, hd.o177 P, hd.o178 P, hd.o179 P, hd.o180 P, hd.o181 P, hd.o182 P, hd.o183 P, hd.o184 P, hd.o185 P, hd.o186 P, hd.o187 P, hd.o188 P, hd.o189 P, hd.o190 P, hd.o191 P, hd.o192 P, hd.o193 P, hd.o194 P, hd.o195 P, hd.o196 P, hd.o197 P, hd.o198 P, hd.o199 P, hd.o200 P, hd.o201 P, hd.o202 P, hd.o203 P, hd.o204 P, hd.o205 P, hd.o206 P, hd.o207 P, hd.o208 P, hd.o209 P, hd.o210 P, hd.o211 P, hd.o212 P, hd.o213 P, hd.o214 P, hd.o215 P, hd.o216 P, hd.o217 P, hd.o218 P, hd.o219 P, hd.o220 P, hd.o221 P, hd.o222 P, hd.o223 P, hd.o224 P, hd.o225 P, hd.o226 P, hd.o227 P, hd.o228 P, hd.o229 P, hd.o230 P, hd.o231 P, hd.o232 P, hd.o233 P, hd.o234 P, hd.o235 P, hd.o236 P, hd.o237 P, hd.o238 P, hd.o239 P, hd.o240 P, hd.o241 P, hd.o242 P, hd.o243 P, hd.o244 P, hd.o245 P, hd.o246 P, hd.o247 P, hd.o248 P, hd.o249 P, hd.o250 P, hd.o251 P, hd.o252 P, hd.o253 P, hd.o254 P, hd.o255 P, hd.o256 P, hd.o257 P, hd.o258 P, hd.o259 P, hd.o260 P, hd.o261 P, hd.o262 P, hd.o263 P, hd.o264 P, hd.o265 P, hd.o266 P, hd.o267 P, hd.o268 P, hd.o269 P, hd.o270 P, hd.o271 P, hd.o272 P, hd.o273 P, hd.o274 P, hd.o275 P, hd.o276 P, hd.o277 P, hd.o278 P, hd.o279 P, hd.o280 P, hd.o281 P, hd.o282 P, hd.o283 P, hd.o284 P, hd.o285 P, hd.o286 P, hd.o287 P, hd.o288 P, hd.o289 P, hd.o290 P, hd.o291 P, hd.o292 P, hd.o293 P, hd.o294 P, hd.o295 P, hd.o296 P, hd.o297 P, hd.o298 P, hd.o299 P, hd.o300 P, hd.o301 P, hd.o302 P, hd.o303 P, hd.o304 P, hd.o305 P, hd.o306 P, hd.o307 P, hd.o308 P, hd.o309 P, hd.o310 P, hd.o311 P, hd.o312 P, hd.o313 P, hd.o314 P, hd.o315 P, hd.o316 P, hd.o317 P, hd.o318 P, hd.o319 P, hd.o320 P, hd.o321 P, hd.o322 P, hd.o323 P, hd.o324 P, hd.o325 P, hd.o326 P, hd.o327 P, hd.o328 P, hd.o329 P, hd.o330 P, hd.o331 P, hd.o332 P, hd.o333 P, hd.o334 P, hd.o335 P, hd.o336 P, hd.o337 P, hd.o338 P, hd.o339 P, hd.o340 P, hd.o341 P, hd.o342 P, hd.o343 P, hd.o344 P, hd.o345 P, hd.o346 P, hd.o347 P, hd.o348 P, hd.o349 P, hd.o350 P, hd.o351 P, hd.o352 P, hd.o353 P, hd.o354 P, hd.o355 P, hd.o356 P, hd.o357 P, hd.o358 P, hd.o359 P, hd.o360 P, hd.o361 P, hd.o362 P, hd.o363 P, hd.o364 P, hd.o365 P, hd.o366 P, hd.o367 P, hd.o368 P, hd.o369 P, hd.o370 P, hd.o371 P, hd.o372 P, hd.o373 P, hd.o374 P, hd.o375 P, hd.o376 P, hd.o377 P, hd.o378 P, hd.o379 P, hd.o380 P, hd.o381 P, hd.o382 P, hd.o383 P, hd.o384 P, hd.o385 P, hd.o386 P, hd.o387 P, hd.o388 P, hd.o389 P, hd.o390 P, hd.o391 P, hd.o392 P, hd.o393 P, hd.o394 P, hd.o395 P, hd.o396 P, hd.o397 P, hd.o398 P, hd.o399 P, hd.o400 P, hd.o401 P, hd.o402 P, hd.o403 P, hd.o404 P, hd.o405 P, hd.o406 P, hd.o407 P, hd.o408 P, hd.o409 P, hd.o410 P, hd.o411 P, hd.o412 P, hd.o413 P, hd.o414 P, hd.o415 P, hd.o416 P, hd.o417 P, hd.o418 P, hd.o419 P, hd.o420 P, hd.o421 P, hd.o422 P, hd.o423 P, hd.o424 P, hd.o425 P, hd.o426 P, hd.o427 P, hd.o428 P, hd.o429 P, hd.o430 P, hd.o431 P, hd.o432 P, hd.o433 P, hd.o434 P, hd.o435 P, hd.o436 P, hd.o437 P, hd.o438 P, hd.o439 P, hd.o440 P, hd.o441 P, hd.o442 P, hd.o443 P, hd.o444 P, hd.o445 P, hd.o446 P, hd.o447 P, hd.o448 P, hd.o449 P, hd.o450 P, hd.o451 P, hd.o452 P, hd.o453 P, hd.o454 P, hd.o455 P, hd.o456 P, hd.o457 P, hd.o458 P, hd.o459 P, hd.o460 P, hd.o461 P, hd.o462 P, hd.o463 P, hd.o464 P, hd.o465 P, hd.o466 P, hd.o467 P, hd.o468 P, hd.o469 P, hd.o470 P, hd.o471 P, hd.o472 P, hd.o473 P, hd.o474 P, hd.o475 P, hd.o476 P, hd.o477 P, hd.o478 P, hd.o479 P, hd.o480 P, hd.o481 P, hd.o482 P, hd.o483 P, hd.o484 P, hd.o485 P, hd.o486 P, hd.o487 P, hd.o488 P, hd.o489 P, hd.o490 P, hd.o491 P, hd.o492 P, hd.o493 P, hd.o494 P, hd.o495 P, hd.o496 P, hd.o497 P, hd.o498 P, hd.o499 P, hd.o500 P, hd.o501 P, hd.o502 P, hd.o503 P, hd.o504 P, hd.o505 P, hd.o506 P, hd.o507 P, hd.o508 P, hd.o509 P, hd.o510 P, hd.o511 P, hd.o512 P, hd.o513 P, hd.o514 P, hd.o515 P]) (Life.mk [] [] [] 0 [] [] Bool.false (List.toArray []) [] 0 Bool.false Bool.false Bool.false 0 [2000, 10, 10] Bool.false 0 Bool.true [] [] 0 Bool.false)
noncomputable def hd.heap_39 : Params → Frag := fun P => [((nat_lit 2), hd.o2 P), ((nat_lit 3), hd.o3 P), ((nat_lit 15), hd.o15 P), ((nat_lit 17), hd.o17 P), ((nat_lit 18), hd.o18 P), ((nat_lit 20), hd.o20 P), ((nat_lit 21), hd.o21 P), ((nat_lit 29), hd.o29 P), ((nat_lit 30), hd.o30 P), ((nat_lit 32), hd.o32 P), ((nat_lit 33), hd.o33 P), ((nat_lit 35), hd.o35 P), ((nat_lit 36), hd.o36 P), ((nat_lit 37), hd.o37 P), ((nat_lit 38), hd.o38 P), ((nat_lit 39), hd.o39 P), ((nat_lit 40), hd.o40 P), ((nat_lit 41), hd.o41 P), ((nat_lit 51), hd.o51 P), ((nat_lit 52), hd.o52 P), ((nat_lit 54), hd.o54 P), ((nat_lit 55), hd.o55 P), ((nat_lit 57), hd.o57 P), ((nat_lit 58), hd.o58 P), ((nat_lit 59), hd.o59 P), ((nat_lit 60), hd.o60 P), ((nat_lit 61), hd.o61 P), ((nat_lit 62), hd.o62 P), ((nat_lit 63), hd.o63 P), ((nat_lit 66), hd.o66 P), ((nat_lit 68), hd.o68 P), ((nat_lit 69), hd.o69 P), ((nat_lit 71), hd.o71 P), ((nat_lit 72), hd.o72 P), ((nat_lit 73), hd.o73 P), ((nat_lit 80), hd.o80 P), ((nat_lit 81), hd.o81 P), ((nat_lit 83), hd.o83 P), ((nat_lit 84), hd.o84 P), ((nat_lit 86), hd.o86 P), ((nat_lit 87), hd.o87 P), ((nat_lit 88), hd.o88 P), ((nat_lit 89), hd.o89 P), ((nat_lit 90), hd.o90 P), ((nat_lit 91), hd.o91 P), ((nat_lit 94), hd.o94 P), ((nat_lit 96), hd.o96 P), ((nat_lit 97), hd.o97 P), ((nat_lit 99), hd.o99 P), ((nat_lit 100), hd.o100 P), ((nat_lit 101), hd.o101 P), ((nat_lit 103), hd.o103 P), ((nat_lit 104), hd.o104 P), ((nat_lit 106), hd.o106 P), ((nat_lit 107), hd.o107 P), ((nat_lit 108), hd.o108 P), ((nat_lit 110), hd.o110 P), ((nat_lit 111), hd.o111 P), ((nat_lit 113), hd.o113 P), ((nat_lit 114), hd.o114 P), ((nat_lit 122), hd.o122 P), ((nat_lit 123), hd.o123 P), ((nat_lit 125), hd.o125 P), ((nat_lit 126), hd.o126 P), ((nat_lit 128), hd.o128 P), ((nat_lit 129), hd.o129 P), ((nat_lit 130), hd.o130 P), ((nat_lit 132), hd.o132 P), ((nat_lit 133), hd.o133 P), ((nat_lit 135), hd.o135 P), ((nat_lit 136), hd.o136 P), ((nat_lit 137), hd.o137 P), ((nat_lit 139), hd.o139 P), ((nat_lit 140), hd.o140 P), ((nat_lit 142), hd.o142 P), ((nat_lit 143), hd.o143 P), ((nat_lit 144), hd.o144 P), ((nat_lit 146), hd.o146 P), ((nat_lit 147), hd.o147 P), ((nat_lit 149), hd.o149 P), ((nat_lit 150), hd.o150 P), ((nat_lit 151), hd.o151 P), ((nat_lit 153), hd.o153 P), ((nat_lit 154), hd.o154 P), ((nat_lit 156), hd.o156 P), ((nat_lit 157), hd.o157 P), ((nat_lit 158), hd.o158 P), ((nat_lit 160), hd.o160 P), ((nat_lit 161), hd.o161 P), ((nat_lit 163), hd.o163 P), ((nat_lit 164), hd.o164 P), ((nat_lit 165), hd.o165 P), ((nat_lit 167), hd.o167 P), ((nat_lit 168), hd.o168 P), ((nat_lit 170), hd.o170 P), ((nat_lit 171), hd.o171 P), ((nat_lit 172), hd.o172 P), ((nat_lit 174), hd.o174 P), ((nat_lit 175), hd.o175 P), ((nat_lit 177), hd.o177 P), ((nat_lit 178), hd.o178 P), ((nat_lit 179), hd.o179 P), ((nat_lit 181), hd.o181 P), ((nat_lit 182), hd.o182 P), ((nat_lit 184), hd.o184 P), ((nat_lit 185), hd.o185 P), ((nat_lit 186), hd.o186 P), ((nat_lit 187), hd.o187 P), ((nat_lit 188), hd.o188 P), ((nat_lit 189), hd.o189 P), ((nat_lit 190), hd.o190 P), ((nat_lit 193), hd.o193 P), ((nat_lit 195), hd.o195 P), ((nat_lit 196), hd.o196 P), ((nat_lit 198), hd.o198 P), ((nat_lit 199), hd.o199 P), ((nat_lit 200), hd.o200 P), ((nat_lit 202), hd.o202 P), ((nat_lit 203), hd.o203 P), ((nat_lit 205), hd.o205 P), ((nat_lit 206), hd.o206 P), ((nat_lit 207), hd.o207 P), ((nat_lit 209), hd.o209 P), ((nat_lit 210), hd.o210 P), ((nat_lit 212), hd.o212 P), ((nat_lit 213), hd.o213 P), ((nat_lit 214), hd.o214 P), ((nat_lit 216), hd.o216 P), ((nat_lit 217), hd.o217 P), ((nat_lit 219), hd.o219 P), ((nat_lit 220), hd.o220 P), ((nat_lit 221), hd.o221 P), ((nat_lit 224), hd.o224 P), ((nat_lit 225), hd.o225 P), ((nat_lit 226), hd.o226 P), ((nat_lit 229), hd.o229 P), ((nat_lit 230), hd.o230 P), ((nat_lit 231), hd.o231 P), ((nat_lit 233), hd.o233 P), ((nat_lit 234), hd.o234 P), ((nat_lit 236), hd.o236 P), ((nat_lit 237), hd.o237 P), ((nat_lit 238), hd.o238 P), ((nat_lit 240), hd.o240 P), ((nat_lit 241), hd.o241 P), ((nat_lit 243), hd.o243 P), ((nat_lit 244), hd.o244 P), ((nat_lit 245), hd.o245 P), ((nat_lit 247), hd.o247 P), ((nat_lit 248), hd.o248 P), ((nat_lit 250), hd.o250 P), ((nat_lit 251), hd.o251 P), ((nat_lit 252), hd.o252 P), ((nat_lit 254), hd.o254 P), ((nat_lit 255), hd.o255 P), ((nat_lit 257), hd.o257 P), ((nat_lit 258), hd.o258 P), ((nat_lit 259), hd.o259 P), ((nat_lit 261), hd.o261 P), ((nat_lit 262), hd.o262 P), ((nat_lit 264), hd.o264 P), ((nat_lit 265), hd.o265 P), ((nat_lit 266), hd.o266 P), ((nat_lit 268), hd.o268 P), ((nat_lit 269), hd.o269 P), ((nat_lit 271), hd.o271 P), ((nat_lit 272), hd.o272 P), ((nat_lit 273), hd.o273 P), ((nat_lit 275), hd.o275 P), ((nat_lit 276), hd.o276 P), ((nat_lit 278), hd.o278 P), ((nat_lit 279), hd.o279 P), ((nat_lit 287), hd.o287 P), ((nat_lit 289), hd.o289 P), ((nat_lit 290), hd.o290 P), ((nat_lit 292), hd.o292 P), ((nat_lit 293), hd.o293 P), ((nat_lit 294), hd.o294 P), ((nat_lit 295), hd.o295 P), ((nat_lit 296), hd.o296 P), ((nat_lit 297), hd.o297 P), ((nat_lit 298), hd.o298 P), ((nat_lit 301), hd.o301 P), ((nat_lit 303), hd.o303 P), ((nat_lit 304), hd.o304 P), ((nat_lit 306), hd.o306 P), ((nat_lit 307), hd.o307 P), ((nat_lit 308), hd.o308 P), ((nat_lit 310), hd.o310 P), ((nat_lit 311), hd.o311 P), ((nat_lit 313), hd.o313 P), ((nat_lit 314), hd.o314 P), ((nat_lit 315), hd.o315 P), ((nat_lit 317), hd.o317 P), ((nat_lit 318), hd.o318 P), ((nat_lit 320), hd.o320 P), ((nat_lit 321), hd.o321 P), ((nat_lit 322), hd.o322 P), ((nat_lit 324), hd.o324 P), ((nat_lit 325), hd.o325 P), ((nat_lit 327), hd.o327 P), ((nat_lit 328), hd.o328 P), ((nat_lit 329), hd.o329 P), ((nat_lit 331), hd.o331 P), ((nat_lit 332), hd.o332 P), ((nat_lit 334), hd.o334 P), ((nat_lit 335), hd.o335 P), ((nat_lit 336), hd.o336 P), ((nat_lit 338), hd.o338 P), ((nat_lit 339), hd.o339 P), ((nat_lit 341), hd.o341 P), ((nat_lit 342), hd.o342 P), ((nat_lit 343), hd.o343 P), ((nat_lit 345), hd.o345 P), ((nat_lit 346), hd.o346 P), ((nat_lit 348), hd.o348 P), ((nat_lit 349), hd.o349 P), ((nat_lit 350), hd.o350 P), ((nat_lit 352), hd.o352 P), ((nat_lit 353), hd.o353 P), ((nat_lit 355), hd.o355 P), ((nat_lit 356), hd.o356 P), ((nat_lit 357), hd.o357 P), ((nat_lit 359), hd.o359 P), ((nat_lit 360), hd.o360 P), ((nat_lit 362), hd.o362 P), ((nat_lit 363), hd.o363 P), ((nat_lit 364), hd.o364 P), ((nat_lit 366), hd.o366 P), ((nat_lit 367), hd.o367 P), ((nat_lit 369), hd.o369 P), ((nat_lit 370), hd.o370 P), ((nat_lit 371), hd.o371 P), ((nat_lit 373), hd.o373 P), ((nat_lit 374), hd.o374 P), ((nat_lit 376), hd.o376 P), ((nat_lit 377), hd.o377 P), ((nat_lit 378), hd.o378 P), ((nat_lit 380), hd.o380 P), ((nat_lit 381), hd.o381 P), ((nat_lit 383), hd.o383 P), ((nat_lit 384), hd.o384 P), ((nat_lit 385), hd.o385 P), ((nat_lit 387), hd.o387 P), ((nat_lit 388), hd.o388 P), ((nat_lit 390), hd.o390 P), ((nat_lit 391), hd.o391 P), ((nat_lit 392), hd.o392 P), ((nat_lit 394), hd.o394 P), ((nat_lit 395), hd.o395 P), ((nat_lit 397), hd.o397 P), ((nat_lit 398), hd.o398 P), ((nat_lit 399), hd.o399 P), ((nat_lit 401), hd.o401 P), ((nat_lit 402), hd.o402 P), ((nat_lit 404), hd.o404 P), ((nat_lit 405), hd.o405 P), ((nat_lit 406), hd.o406 P), ((nat_lit 408), hd.o408 P), ((nat_lit 409), hd.o409 P), ((nat_lit 411), hd.o411 P), ((nat_lit 412), hd.o412 P), ((nat_lit 413), hd.o413 P), ((nat_lit 415), hd.o415 P), ((nat_lit 416), hd.o416 P), ((nat_lit 418), hd.o418 P), ((nat_lit 419), hd.o419 P), ((nat_lit 420), hd.o420 P), ((nat_lit 422), hd.o422 P), ((nat_lit 423), hd.o423 P), ((nat_lit 425), hd.o425 P), ((nat_lit 426), hd.o426 P), ((nat_lit 427), hd.o427 P), ((nat_lit 429), hd.o429 P), ((nat_lit 430), hd.o430 P), ((nat_lit 432), hd.o432 P), ((nat_lit 433), hd.o433 P), ((nat_lit 434), hd.o434 P), ((nat_lit 436), hd.o436 P), ((nat_lit 437), hd.o437 P), ((nat_lit 439), hd.o439 P), ((nat_lit 440), hd.o440 P), ((nat_lit 441), hd.o441 P), ((nat_lit 443), hd.o443 P), ((nat_lit 444), hd.o444 P), ((nat_lit 446), hd.o446 P), ((nat_lit 447), hd.o447 P), ((nat_lit 448), hd.o448 P), ((nat_lit 450), hd.o450 P), ((nat_lit 451), hd.o451 P), ((nat_lit 453), hd.o453 P), ((nat_lit 454), hd.o454 P), ((nat_lit 455), hd.o455 P), ((nat_lit 457), hd.o457 P), ((nat_lit 458), hd.o458 P), ((nat_lit 460), hd.o460 P), ((nat_lit 461), hd.o461 P), ((nat_lit 462), hd.o462 P), ((nat_lit 464), hd.o464 P), ((nat_lit 465), hd.o465 P), ((nat_lit 467), hd.o467 P), ((nat_lit 468), hd.o468 P), ((nat_lit 469), hd.o469 P), ((nat_lit 471), hd.o471 P), ((nat_lit 472), hd.o472 P), ((nat_lit 474), hd.o474 P), ((nat_lit 475), hd.o475 P), ((nat_lit 476), hd.o476 P), ((nat_lit 479), hd.o479 P), ((nat_lit 480), hd.o480 P), ((nat_lit 481), hd.o481 P), ((nat_lit 483), hd.o483 P), ((nat_lit 484), hd.o484 P), ((nat_lit 486), hd.o486 P), ((nat_lit 487), hd.o487 P), ((nat_lit 488), hd.o488 P), ((nat_lit 490), hd.o490 P), ((nat_lit 491), hd.o491 P), ((nat_lit 493), hd.o493 P), ((nat_lit 494), hd.o494 P), ((nat_lit 495), hd.o495 P), ((nat_lit 497), hd.o497 P), ((nat_lit 498), hd.o498 P), ((nat_lit 500), hd.o500 P), ((nat_lit 501), hd.o501 P), ((nat_lit 502), hd.o502 P), ((nat_lit 504), hd.o504 P), ((nat_lit 505), hd.o505 P), ((nat_lit 507), hd.o507 P), ((nat_lit 508), hd.o508 P), ((nat_lit 509), hd.o509 P), ((nat_lit 511), hd.o511 P), ((nat_lit 512), hd.o512 P), ((nat_lit 514), hd.o514 P), ((nat_lit 515), hd.o515 P)]
abbrev hd.as : List Addr := [(nat_lit 2), (nat_lit 3), (nat_lit 15), (nat_lit 17), (nat_lit 18), (nat_lit 20), (nat_lit 21), (nat_lit 29), (nat_lit 30), (nat_lit 32), (nat_lit 33), (nat_lit 35), (nat_lit 36), (nat_lit 37), (nat_lit 38), (nat_lit 39), (nat_lit 40), (nat_lit 41), (nat_lit 51), (nat_lit 52), (nat_lit 54), (nat_lit 55), (nat_lit 57), (nat_lit 58), (nat_lit 59), (nat_lit 60), (nat_lit 61), (nat_lit 62), (nat_lit 63), (nat_lit 66), (nat_lit 68), (nat_lit 69), (nat_lit 71), (nat_lit 72), (nat_lit 73), (nat_lit 80), (nat_lit 81), (nat_lit 83), (nat_lit 84), (nat_lit 86), (nat_lit 87), (nat_lit 88), (nat_lit 89), (nat_lit 90), (nat_lit 91), (nat_lit 94), (nat_lit 96), (nat_lit 97), (nat_lit 99), (nat_lit 100), (nat_lit 101), (nat_lit 103), (nat_lit 104), (nat_lit 106), (nat_lit 107), (nat_lit 108), (nat_lit 110), (nat_lit 111), (nat_lit 113), (nat_lit 114), (nat_lit 122), (nat_lit 123), (nat_lit 125), (nat_lit 126), (nat_lit 128), (nat_lit 129), (nat_lit 130), (nat_lit 132), (nat_lit 133), (nat_lit 135), (nat_lit 136), (nat_lit 137), (nat_lit 139), (nat_lit 140), (nat_lit 142), (nat_lit 143), (nat_lit 144), (nat_lit 146), (nat_lit 147), (nat_lit 149), (nat_lit 150), (nat_lit 151), (nat_lit 153), (nat_lit 154), (nat_lit 156), (nat_lit 157), (nat_lit 158), (nat_lit 160), (nat_lit 161), (nat_lit 163), (nat_lit 164), (nat_lit 165), (nat_lit 167), (nat_lit 168), (nat_lit 170), (nat_lit 171), (nat_lit 172), (nat_lit 174), (nat_lit 175), (nat_lit 177), (nat_lit 178), (nat_lit 179), (nat_lit 181), (nat_lit 182), (nat_lit 184), (nat_lit 185), (nat_lit 186), (nat_lit 187), (nat_lit 188), (nat_lit 189), (nat_lit 190), (nat_lit 193), (nat_lit 195), (nat_lit 196), (nat_lit 198), (nat_lit 199), (nat_lit 200), (nat_lit 202), (nat_lit 203), (nat_lit 205), (nat_lit 206), (nat_lit 207), (nat_lit 209), (nat_lit 210), (nat_lit 212), (nat_lit 213), (nat_lit 214), (nat_lit 216), (nat_lit 217), (nat_lit 219), (nat_lit 220), (nat_lit 221), (nat_lit 224), (nat_lit 225), (nat_lit 226), (nat_lit 229), (nat_lit 230), (nat_lit 231), (nat_lit 233), (nat_lit 234), (nat_lit 236), (nat_lit 237), (nat_lit 238), (nat_lit 240), (nat_lit 241), (nat_lit 243), (nat_lit 244), (nat_lit 245), (nat_lit 247), (nat_lit 248), (nat_lit 250), (nat_lit 251), (nat_lit 252), (nat_lit 254), (nat_lit 255), (nat_lit 257), (nat_lit 258), (nat_lit 259), (nat_lit 261), (nat_lit 262), (nat_lit 264), (nat_lit 265), (nat_lit 266), (nat_lit 268), (nat_lit 269), (nat_lit 271), (nat_lit 272), (nat_lit 273), (nat_lit 275), (nat_lit 276), (nat_lit 278), (nat_lit 279), (nat_lit 287), (nat_lit 289), (nat_lit 290), (nat_lit 292), (nat_lit 293), (nat_lit 294), (nat_lit 295), (nat_lit 296), (nat_lit 297), (nat_lit 298), (nat_lit 301), (nat_lit 303), (nat_lit 304), (nat_lit 306), (nat_lit 307), (nat_lit 308), (nat_lit 310), (nat_lit 311), (nat_lit 313), (nat_lit 314), (nat_lit 315), (nat_lit 317), (nat_lit 318), (nat_lit 320), (nat_lit 321), (nat_lit 322), (nat_lit 324), (nat_lit 325), (nat_lit 327), (nat_lit 328), (nat_lit 329), (nat_lit 331), (nat_lit 332), (nat_lit 334), (nat_lit 335), (nat_lit 336), (nat_lit 338), (nat_lit 339), (nat_lit 341), (nat_lit 342), (nat_lit 343), (nat_lit 345), (nat_lit 346), (nat_lit 348), (nat_lit 349), (nat_lit 350), (nat_lit 352), (nat_lit 353), (nat_lit 355), (nat_lit 356), (nat_lit 357), (nat_lit 359), (nat_lit 360), (nat_lit 362), (nat_lit 363), (nat_lit 364), (nat_lit 366), (nat_lit 367), (nat_lit 369), (nat_lit 370), (nat_lit 371), (nat_lit 373), (nat_lit 374), (nat_lit 376), (nat_lit 377), (nat_lit 378), (nat_lit 380), (nat_lit 381), (nat_lit 383), (nat_lit 384), (nat_lit 385), (nat_lit 387), (nat_lit 388), (nat_lit 390), (nat_lit 391), (nat_lit 392), (nat_lit 394), (nat_lit 395), (nat_lit 397), (nat_lit 398), (nat_lit 399), (nat_lit 401), (nat_lit 402), (nat_lit 404), (nat_lit 405), (nat_lit 406), (nat_lit 408), (nat_lit 409), (nat_lit 411), (nat_lit 412), (nat_lit 413), (nat_lit 415), (nat_lit 416), (nat_lit 418), (nat_lit 419), (nat_lit 420), (nat_lit 422), (nat_lit 423), (nat_lit 425), (nat_lit 426), (nat_lit 427), (nat_lit 429), (nat_lit 430), (nat_lit 432), (nat_lit 433), (nat_lit 434), (nat_lit 436), (nat_lit 437), (nat_lit 439), (nat_lit 440), (nat_lit 441), (nat_lit 443), (nat_lit 444), (nat_lit 446), (nat_lit 447), (nat_lit 448), (nat_lit 450), (nat_lit 451), (nat_lit 453), (nat_lit 454), (nat_lit 455), (nat_lit 457), (nat_lit 458), (nat_lit 460), (nat_lit 461), (nat_lit 462), (nat_lit 464), (nat_lit 465), (nat_lit 467), (nat_lit 468), (nat_lit 469), (nat_lit 471), (nat_lit 472), (nat_lit 474), (nat_lit 475), (nat_lit 476), (nat_lit 479), (nat_lit 480), (nat_lit 481), (nat_lit 483), (nat_lit 484), (nat_lit 486), (nat_lit 487), (nat_lit 488), (nat_lit 490), (nat_lit 491), (nat_lit 493), (nat_lit 494), (nat_lit 495), (nat_lit 497), (nat_lit 498), (nat_lit 500), (nat_lit 501), (nat_lit 502), (nat_lit 504), (nat_lit 505), (nat_lit 507), (nat_lit 508), (nat_lit 509), (nat_lit 511), (nat_lit 512), (nat_lit 514), (nat_lit 515)]
noncomputable def hd.view_39 : Program := view PySem.Challenge.pw_pf0210_01 [0, 2, 3, 4, 6, 7, 8, 9, 11, 12, 13, 14, 15, 16, 17, 18, 19, 20, 21, 22, 23, 25, 27, 28, 29, 30, 31, 32, 33, 34, 35, 36, 37, 38, 39, 40, 41, 42, 43, 45, 46, 47, 48, 49, 50, 51, 52, 53, 54, 55, 56, 57, 58, 59]
@[reducible] noncomputable def hd.c80 (P : Params) : Obj := (Obj.mk (Value.type "dict") none (Data.dict (List.toArray [(DictEntry.mk (PyData.keyHash P (Str.ofString "__name__")) (Value.str (Str.ofString "__name__") 165) (Value.str (Str.ofString "phpcore.faults") 263)), (DictEntry.mk (PyData.keyHash P (Str.ofString "__doc__")) (Value.str (Str.ofString "__doc__") 166) Value.none), (DictEntry.mk (PyData.keyHash P (Str.ofString "__package__")) (Value.str (Str.ofString "__package__") 167) Value.none), (DictEntry.mk (PyData.keyHash P (Str.ofString "__loader__")) (Value.str (Str.ofString "__loader__") 168) (Value.builtin "__main__.__loader__#opaque")), (DictEntry.mk (PyData.keyHash P (Str.ofString "__spec__")) (Value.str (Str.ofString "__spec__") 169) Value.none), (DictEntry.mk (PyData.keyHash P (Str.ofString "__annotations__")) (Value.str (Str.ofString "__annotations__") 170) (Value.ref 6)), (DictEntry.mk (PyData.keyHash P (Str.ofString "__builtins__")) (Value.str (Str.ofString "__builtins__") 171) (Value.ref 4)), (DictEntry.mk (PyData.keyHash P (Str.ofString "__file__")) (Value.str (Str.ofString "__file__") 173) (Value.str (Str.ofString "/claim/cut.py") 172)), (DictEntry.mk (PyData.keyHash P (Str.ofString "__cached__")) (Value.str (Str.ofString "__cached__") 174) Value.none), (DictEntry.mk (PyData.keyHash P (Str.ofString "_wall")) (Value.str (Str.ofString "_wall") 193) (Value.ref 21)), (DictEntry.mk (PyData.keyHash P (Str.ofString "Ref")) (Value.str (Str.ofString "Ref") 226) (Value.ref 39)), (DictEntry.mk (PyData.keyHash P (Str.ofString "Absent")) (Value.str (Str.ofString "Absent") 255) (Value.ref 61)), (DictEntry.mk (PyData.keyHash P (Str.ofString "deref")) (Value.str (Str.ofString "deref") 262) (Value.ref 72))]) 13) (List.toArray []))
@[reducible] noncomputable def hd.c81 (P : Params) : Obj := (Obj.mk Value.none none (Data.fields (List.toArray [(Value.int 1 0), (Value.int 0 0), (Value.ref 20), (Value.int 5 0), (Value.int 0 0), (Value.ref 27), (Value.int 11 0), (Value.int 0 0), (Value.ref 49), (Value.int 15 0), (Value.int 0 0), (Value.ref 71)])) (List.toArray []))
noncomputable def hd.t1 (P : Params) : BT := .node (W.boot_o_0 P) (.node (W.boot_o_1 P) (.node (hd.c80 P) (.node (W.boot_o_7 P) (.node (hd.o15 P) (.node (hd.o31 P) (.node (hd.o63 P) (.nil) (.nil)) (.nil)) (.node (hd.o47 P) (.nil) (.nil))) (.node (hd.o23 P) (.node (hd.o39 P) (.node (hd.o71 P) (.nil) (.nil)) (.nil)) (.node (hd.o55 P) (.nil) (.nil)))) (.node (hd.o11 P) (.node (hd.o19 P) (.node (hd.o35 P) (.node (hd.o67 P) (.nil) (.nil)) (.nil)) (.node (hd.o51 P) (.nil) (.nil))) (.node (hd.o27 P) (.node (hd.o43 P) (.nil) (.nil)) (.node (hd.o59 P) (.nil) (.nil))))) (.node (W.boot_o_5 P) (.node (W.boot_o_9 P) (.node (hd.o17 P) (.node (hd.o33 P) (.node (hd.o65 P) (.nil) (.nil)) (.nil)) (.node (hd.o49 P) (.nil) (.nil))) (.node (hd.o25 P) (.node (hd.o41 P) (.nil) (.nil)) (.node (hd.o57 P) (.nil) (.nil)))) (.node (hd.o13 P) (.node (hd.o21 P) (.node (hd.o37 P) (.node (hd.o69 P) (.nil) (.nil)) (.nil)) (.node (hd.o53 P) (.nil) (.nil))) (.node (hd.o29 P) (.node (hd.o45 P) (.nil) (.nil)) (.node (hd.o61 P) (.nil) (.nil)))))) (.node (W.boot_o_2 P) (.node (W.boot_o_4 P) (.node (W.boot_o_8 P) (.node (hd.o16 P) (.node (hd.o32 P) (.node (hd.o64 P) (.nil) (.nil)) (.nil)) (.node (hd.o48 P) (.nil) (.nil))) (.node (hd.o24 P) (.node (hd.o40 P) (.node (hd.o72 P) (.nil) (.nil)) (.nil)) (.node (hd.o56 P) (.nil) (.nil)))) (.node (hd.c81 P) (.node (hd.o20 P) (.node (hd.o36 P) (.node (hd.o68 P) (.nil) (.nil)) (.nil)) (.node (hd.o52 P) (.nil) (.nil))) (.node (hd.o28 P) (.node (hd.o44 P) (.nil) (.nil)) (.node (hd.o60 P) (.nil) (.nil))))) (.node (W.boot_o_6 P) (.node (W.boot_o_10 P) (.node (hd.o18 P) (.node (hd.o34 P) (.node (hd.o66 P) (.nil) (.nil)) (.nil)) (.node (hd.o50 P) (.nil) (.nil))) (.node (hd.o26 P) (.node (hd.o42 P) (.nil) (.nil)) (.node (hd.o58 P) (.nil) (.nil)))) (.node (hd.o14 P) (.node (hd.o22 P) (.node (hd.o38 P) (.node (hd.o70 P) (.nil) (.nil)) (.nil)) (.node (hd.o54 P) (.nil) (.nil))) (.node (hd.o30 P) (.node (hd.o46 P) (.nil) (.nil)) (.node (hd.o62 P) (.nil) (.nil))))))
@[reducible] noncomputable def hd.c156 (P : Params) : Obj := (Obj.mk (Value.type "dict") none (Data.dict (List.toArray [(DictEntry.mk (PyData.keyHash P (Str.ofString "__name__")) (Value.str (Str.ofString "__name__") 165) (Value.str (Str.ofString "phpcore.table") 321)), (DictEntry.mk (PyData.keyHash P (Str.ofString "__doc__")) (Value.str (Str.ofString "__doc__") 166) Value.none), (DictEntry.mk (PyData.keyHash P (Str.ofString "__package__")) (Value.str (Str.ofString "__package__") 167) Value.none), (DictEntry.mk (PyData.keyHash P (Str.ofString "__loader__")) (Value.str (Str.ofString "__loader__") 168) (Value.builtin "__main__.__loader__#opaque")), (DictEntry.mk (PyData.keyHash P (Str.ofString "__spec__")) (Value.str (Str.ofString "__spec__") 169) Value.none), (DictEntry.mk (PyData.keyHash P (Str.ofString "__annotations__")) (Value.str (Str.ofString "__annotations__") 170) (Value.ref 6)), (DictEntry.mk (PyData.keyHash P (Str.ofString "__builtins__")) (Value.str (Str.ofString "__builtins__") 171) (Value.ref 4)), (DictEntry.mk (PyData.keyHash P (Str.ofString "__file__")) (Value.str (Str.ofString "__file__") 173) (Value.str (Str.ofString "/claim/cut.py") 172)), (DictEntry.mk (PyData.keyHash P (Str.ofString "__cached__")) (Value.str (Str.ofString "__cached__") 174) Value.none), (DictEntry.mk (PyData.keyHash P (Str.ofString "_wall")) (Value.str (Str.ofString "_wall") 193) (Value.ref 21)), (DictEntry.mk (PyData.keyHash P (Str.ofString "Ref")) (Value.str (Str.ofString "Ref") 226) (Value.ref 39)), (DictEntry.mk (PyData.keyHash P (Str.ofString "Absent")) (Value.str (Str.ofString "Absent") 255) (Value.ref 61)), (DictEntry.mk (PyData.keyHash P (Str.ofString "deref")) (Value.str (Str.ofString "deref") 262) (Value.ref 72)), (DictEntry.mk (PyData.keyHash P (Str.ofString "Thrown")) (Value.str (Str.ofString "Thrown") 301) (Value.ref 90)), (DictEntry.mk (PyData.keyHash P (Str.ofString "error")) (Value.str (Str.ofString "error") 308) (Value.ref 100)), (DictEntry.mk (PyData.keyHash P (Str.ofString "least")) (Value.str (Str.ofString "least") 314) (Value.ref 107)), (DictEntry.mk (PyData.keyHash P (Str.ofString "greatest")) (Value.str (Str.ofString "greatest") 320) (Value.ref 114)), (DictEntry.mk (PyData.keyHash P (Str.ofString "Arr")) (Value.str (Str.ofString "Arr") 430) (Value.ref 188))]) 18) (List.toArray []))
@[reducible] noncomputable def hd.c157 (P : Params) : Obj := (Obj.mk Value.none none (Data.fields (List.toArray [(Value.int 1 0), (Value.int 0 0), (Value.ref 20), (Value.int 5 0), (Value.int 0 0), (Value.ref 27), (Value.int 11 0), (Value.int 0 0), (Value.ref 49), (Value.int 15 0), (Value.int 0 0), (Value.ref 71), (Value.int 22 0), (Value.int 0 0), (Value.ref 78), (Value.int 31 0), (Value.int 0 0), (Value.ref 99), (Value.int 33 0), (Value.int 0 0), (Value.ref 106), (Value.int 35 0), (Value.int 0 0), (Value.ref 113), (Value.int 38 0), (Value.int 0 0), (Value.ref 120)])) (List.toArray []))
noncomputable def hd.t3 (P : Params) : BT := .node (W.boot_o_0 P) (.node (W.boot_o_1 P) (.node (hd.c156 P) (.node (W.boot_o_7 P) (.node (hd.o15 P) (.node (hd.o31 P) (.node (hd.o63 P) (.node (hd.o127 P) (.nil) (.nil)) (.node (hd.o191 P) (.nil) (.nil))) (.node (hd.o95 P) (.node (hd.o159 P) (.nil) (.nil)) (.nil))) (.node (hd.o47 P) (.node (hd.o79 P) (.node (hd.o143 P) (.nil) (.nil)) (.nil)) (.node (hd.o111 P) (.node (hd.o175 P) (.nil) (.nil)) (.nil)))) (.node (hd.o23 P) (.node (hd.o39 P) (.node (hd.o71 P) (.node (hd.o135 P) (.nil) (.nil)) (.nil)) (.node (hd.o103 P) (.node (hd.o167 P) (.nil) (.nil)) (.nil))) (.node (hd.o55 P) (.node (hd.o87 P) (.node (hd.o151 P) (.nil) (.nil)) (.nil)) (.node (hd.o119 P) (.node (hd.o183 P) (.nil) (.nil)) (.nil))))) (.node (hd.o11 P) (.node (hd.o19 P) (.node (hd.o35 P) (.node (hd.o67 P) (.node (hd.o131 P) (.nil) (.nil)) (.nil)) (.node (hd.o99 P) (.node (hd.o163 P) (.nil) (.nil)) (.nil))) (.node (hd.o51 P) (.node (hd.o83 P) (.node (hd.o147 P) (.nil) (.nil)) (.nil)) (.node (hd.o115 P) (.node (hd.o179 P) (.nil) (.nil)) (.nil)))) (.node (hd.o27 P) (.node (hd.o43 P) (.node (hd.o75 P) (.node (hd.o139 P) (.nil) (.nil)) (.nil)) (.node (hd.o107 P) (.node (hd.o171 P) (.nil) (.nil)) (.nil))) (.node (hd.o59 P) (.node (hd.o91 P) (.node (hd.o155 P) (.nil) (.nil)) (.nil)) (.node (hd.o123 P) (.node (hd.o187 P) (.nil) (.nil)) (.nil)))))) (.node (W.boot_o_5 P) (.node (W.boot_o_9 P) (.node (hd.o17 P) (.node (hd.o33 P) (.node (hd.o65 P) (.node (hd.o129 P) (.nil) (.nil)) (.nil)) (.node (hd.o97 P) (.node (hd.o161 P) (.nil) (.nil)) (.nil))) (.node (hd.o49 P) (.node (hd.o81 P) (.node (hd.o145 P) (.nil) (.nil)) (.nil)) (.node (hd.o113 P) (.node (hd.o177 P) (.nil) (.nil)) (.nil)))) (.node (hd.o25 P) (.node (hd.o41 P) (.node (hd.o73 P) (.node (hd.o137 P) (.nil) (.nil)) (.nil)) (.node (hd.o105 P) (.node (hd.o169 P) (.nil) (.nil)) (.nil))) (.node (hd.o57 P) (.node (hd.o89 P) (.node (hd.o153 P) (.nil) (.nil)) (.nil)) (.node (hd.o121 P) (.node (hd.o185 P) (.nil) (.nil)) (.nil))))) (.node (hd.o13 P) (.node (hd.o21 P) (.node (hd.o37 P) (.node (hd.o69 P) (.node (hd.o133 P) (.nil) (.nil)) (.nil)) (.node (hd.o101 P) (.node (hd.o165 P) (.nil) (.nil)) (.nil))) (.node (hd.o53 P) (.node (hd.o85 P) (.node (hd.o149 P) (.nil) (.nil)) (.nil)) (.node (hd.o117 P) (.node (hd.o181 P) (.nil) (.nil)) (.nil)))) (.node (hd.o29 P) (.node (hd.o45 P) (.node (hd.o77 P) (.node (hd.o141 P) (.nil) (.nil)) (.nil)) (.node (hd.o109 P) (.node (hd.o173 P) (.nil) (.nil)) (.nil))) (.node (hd.o61 P) (.node (hd.o93 P) (.node (hd.o157 P) (.nil) (.nil)) (.nil)) (.node (hd.o125 P) (.node (hd.o189 P) (.nil) (.nil)) (.nil))))))) (.node (hd.o2 P) (.node (W.boot_o_4 P) (.node (W.boot_o_8 P) (.node (hd.o16 P) (.node (hd.o32 P) (.node (hd.o64 P) (.node (hd.o128 P) (.nil) (.nil)) (.node (hd.o192 P) (.nil) (.nil))) (.node (hd.o96 P) (.node (hd.o160 P) (.nil) (.nil)) (.nil))) (.node (hd.o48 P) (.node (hd.o80 P) (.node (hd.o144 P) (.nil) (.nil)) (.nil)) (.node (hd.o112 P) (.node (hd.o176 P) (.nil) (.nil)) (.nil)))) (.node (hd.o24 P) (.node (hd.o40 P) (.node (hd.o72 P) (.node (hd.o136 P) (.nil) (.nil)) (.nil)) (.node (hd.o104 P) (.node (hd.o168 P) (.nil) (.nil)) (.nil))) (.node (hd.o56 P) (.node (hd.o88 P) (.node (hd.o152 P) (.nil) (.nil)) (.nil)) (.node (hd.o120 P) (.node (hd.o184 P) (.nil) (.nil)) (.nil))))) (.node (hd.c157 P) (.node (hd.o20 P) (.node (hd.o36 P) (.node (hd.o68 P) (.node (hd.o132 P) (.nil) (.nil)) (.nil)) (.node (hd.o100 P) (.node (hd.o164 P) (.nil) (.nil)) (.nil))) (.node (hd.o52 P) (.node (hd.o84 P) (.node (hd.o148 P) (.nil) (.nil)) (.nil)) (.node (hd.o116 P) (.node (hd.o180 P) (.nil) (.nil)) (.nil)))) (.node (hd.o28 P) (.node (hd.o44 P) (.node (hd.o76 P) (.node (hd.o140 P) (.nil) (.nil)) (.nil)) (.node (hd.o108 P) (.node (hd.o172 P) (.nil) (.nil)) (.nil))) (.node (hd.o60 P) (.node (hd.o92 P) (.node (hd.o156 P) (.nil) (.nil)) (.nil)) (.node (hd.o124 P) (.node (hd.o188 P) (.nil) (.nil)) (.nil)))))) (.node (W.boot_o_6 P) (.node (W.boot_o_10 P) (.node (hd.o18 P) (.node (hd.o34 P) (.node (hd.o66 P) (.node (hd.o130 P) (.nil) (.nil)) (.nil)) (.node (hd.o98 P) (.node (hd.o162 P) (.nil) (.nil)) (.nil))) (.node (hd.o50 P) (.node (hd.o82 P) (.node (hd.o146 P) (.nil) (.nil)) (.nil)) (.node (hd.o114 P) (.node (hd.o178 P) (.nil) (.nil)) (.nil)))) (.node (hd.o26 P) (.node (hd.o42 P) (.node (hd.o74 P) (.node (hd.o138 P) (.nil) (.nil)) (.nil)) (.node (hd.o106 P) (.node (hd.o170 P) (.nil) (.nil)) (.nil))) (.node (hd.o58 P) (.node (hd.o90 P) (.node (hd.o154 P) (.nil) (.nil)) (.nil)) (.node (hd.o122 P) (.node (hd.o186 P) (.nil) (.nil)) (.nil))))) (.node (hd.o14 P) (.node (hd.o22 P) (.node (hd.o38 P) (.node (hd.o70 P) (.node (hd.o134 P) (.nil) (.nil)) (.nil)) (.node (hd.o102 P) (.node (hd.o166 P) (.nil) (.nil)) (.nil))) (.node (hd.o54 P) (.node (hd.o86 P) (.node (hd.o150 P) (.nil) (.nil)) (.nil)) (.node (hd.o118 P) (.node (hd.o182 P) (.nil) (.nil)) (.nil)))) (.node (hd.o30 P) (.node (hd.o46 P) (.node (hd.o78 P) (.node (hd.o142 P) (.nil) (.nil)) (.nil)) (.node (hd.o110 P) (.node (hd.o174 P) (.nil) (.nil)) (.nil))) (.node (hd.o62 P) (.node (hd.o94 P) (.node (hd.o158 P) (.nil) (.nil)) (.nil)) (.node (hd.o126 P) (.node (hd.o190 P) (.nil) (.nil)) (.nil)))))))
@[reducible] noncomputable def hd.c325 (P : Params) : Obj := (Obj.mk (Value.type "dict") none (Data.dict (List.toArray [(DictEntry.mk (PyData.keyHash P (Str.ofString "__name__")) (Value.str (Str.ofString "__name__") 165) (Value.str (Str.ofString "phpcore.spllists") 536)), (DictEntry.mk (PyData.keyHash P (Str.ofString "__doc__")) (Value.str (Str.ofString "__doc__") 166) Value.none), (DictEntry.mk (PyData.keyHash P (Str.ofString "__package__")) (Value.str (Str.ofString "__package__") 167) Value.none), (DictEntry.mk (PyData.keyHash P (Str.ofString "__loader__")) (Value.str (Str.ofString "__loader__") 168) (Value.builtin "__main__.__loader__#opaque")), (DictEntry.mk (PyData.keyHash P (Str.ofString "__spec__")) (Value.str (Str.ofString "__spec__") 169) Value.none), (DictEntry.mk (PyData.keyHash P (Str.ofString "__annotations__")) (Value.str (Str.ofString "__annotations__") 170) (Value.ref 6)), (DictEntry.mk (PyData.keyHash P (Str.ofString "__builtins__")) (Value.str (Str.ofString "__builtins__") 171) (Value.ref 4)), (DictEntry.mk (PyData.keyHash P (Str.ofString "__file__")) (Value.str (Str.ofString "__file__") 173) (Value.str (Str.ofString "/claim/cut.py") 172)), (DictEntry.mk (PyData.keyHash P (Str.ofString "__cached__")) (Value.str (Str.ofString "__cached__") 174) Value.none), (DictEntry.mk (PyData.keyHash P (Str.ofString "_wall")) (Value.str (Str.ofString "_wall") 193) (Value.ref 21)), (DictEntry.mk (PyData.keyHash P (Str.ofString "Ref")) (Value.str (Str.ofString "Ref") 226) (Value.ref 39)), (DictEntry.mk (PyData.keyHash P (Str.ofString "Absent")) (Value.str (Str.ofString "Absent") 255) (Value.ref 61)), (DictEntry.mk (PyData.keyHash P (Str.ofString "deref")) (Value.str (Str.ofString "deref") 262) (Value.ref 72)), (DictEntry.mk (PyData.keyHash P (Str.ofString "Thrown")) (Value.str (Str.ofString "Thrown") 301) (Value.ref 90)), (DictEntry.mk (PyData.keyHash P (Str.ofString "error")) (Value.str (Str.ofString "error") 308) (Value.ref 100)), (DictEntry.mk (PyData.keyHash P (Str.ofString "least")) (Value.str (Str.ofString "least") 314) (Value.ref 107)), (DictEntry.mk (PyData.keyHash P (Str.ofString "greatest")) (Value.str (Str.ofString "greatest") 320) (Value.ref 114)), (DictEntry.mk (PyData.keyHash P (Str.ofString "Arr")) (Value.str (Str.ofString "Arr") 430) (Value.ref 188)), (DictEntry.mk (PyData.keyHash P (Str.ofString "is_living")) (Value.str (Str.ofString "is_living") 438) (Value.ref 199)), (DictEntry.mk (PyData.keyHash P (Str.ofString "hash_of")) (Value.str (Str.ofString "hash_of") 447) (Value.ref 206)), (DictEntry.mk (PyData.keyHash P (Str.ofString "link")) (Value.str (Str.ofString "link") 456) (Value.ref 213)), (DictEntry.mk (PyData.keyHash P (Str.ofString "chains")) (Value.str (Str.ofString "chains") 464) (Value.ref 220)), (DictEntry.mk (PyData.keyHash P (Str.ofString "many_ahead")) (Value.str (Str.ofString "many_ahead") 470) (Value.ref 225)), (DictEntry.mk (PyData.keyHash P (Str.ofString "rehash")) (Value.str (Str.ofString "rehash") 476) (Value.ref 230)), (DictEntry.mk (PyData.keyHash P (Str.ofString "to_hash")) (Value.str (Str.ofString "to_hash") 483) (Value.ref 237)), (DictEntry.mk (PyData.keyHash P (Str.ofString "takes_packed")) (Value.str (Str.ofString "takes_packed") 491) (Value.ref 244)), (DictEntry.mk (PyData.keyHash P (Str.ofString "add_packed")) (Value.str (Str.ofString "add_packed") 500) (Value.ref 251)), (DictEntry.mk (PyData.keyHash P (Str.ofString "add_hashed")) (Value.str (Str.ofString "add_hashed") 510) (Value.ref 258)), (DictEntry.mk (PyData.keyHash P (Str.ofString "add")) (Value.str (Str.ofString "add") 519) (Value.ref 265)), (DictEntry.mk (PyData.keyHash P (Str.ofString "marked")) (Value.str (Str.ofString "marked") 526) (Value.ref 272)), (DictEntry.mk (PyData.keyHash P (Str.ofString "taken")) (Value.str (Str.ofString "taken") 535) (Value.ref 279)), (DictEntry.mk (PyData.keyHash P (Str.ofString "LinkList")) (Value.str (Str.ofString "LinkList") 574) (Value.ref 296)), (DictEntry.mk (PyData.keyHash P (Str.ofString "new_node")) (Value.str (Str.ofString "new_node") 583) (Value.ref 307)), (DictEntry.mk (PyData.keyHash P (Str.ofString "unlink")) (Value.str (Str.ofString "unlink") 594) (Value.ref 314)), (DictEntry.mk (PyData.keyHash P (Str.ofString "is_gone")) (Value.str (Str.ofString "is_gone") 602) (Value.ref 321)), (DictEntry.mk (PyData.keyHash P (Str.ofString "link_push")) (Value.str (Str.ofString "link_push") 611) (Value.ref 328)), (DictEntry.mk (PyData.keyHash P (Str.ofString "link_unshift")) (Value.str (Str.ofString "link_unshift") 620) (Value.ref 335))]) 37) (List.toArray []))
@[reducible] noncomputable def hd.c326 (P : Params) : Obj := (Obj.mk Value.none none (Data.fields (List.toArray [(Value.int 1 0), (Value.int 0 0), (Value.ref 20), (Value.int 5 0), (Value.int 0 0), (Value.ref 27), (Value.int 11 0), (Value.int 0 0), (Value.ref 49), (Value.int 15 0), (Value.int 0 0), (Value.ref 71), (Value.int 22 0), (Value.int 0 0), (Value.ref 78), (Value.int 31 0), (Value.int 0 0), (Value.ref 99), (Value.int 33 0), (Value.int 0 0), (Value.ref 106), (Value.int 35 0), (Value.int 0 0), (Value.ref 113), (Value.int 38 0), (Value.int 0 0), (Value.ref 120), (Value.int 86 0), (Value.int 0 0), (Value.ref 198), (Value.int 88 0), (Value.int 0 0), (Value.ref 205), (Value.int 95 0), (Value.int 0 0), (Value.ref 212), (Value.int 99 0), (Value.int 0 0), (Value.ref 219), (Value.int 105 0), (Value.int 0 0), (Value.ref 224), (Value.int 107 0), (Value.int 0 0), (Value.ref 229), (Value.int 115 0), (Value.int 0 0), (Value.ref 236), (Value.int 119 0), (Value.int 0 0), (Value.ref 243), (Value.int 125 0), (Value.int 0 0), (Value.ref 250), (Value.int 129 0), (Value.int 0 0), (Value.ref 257), (Value.int 141 0), (Value.int 0 0), (Value.ref 264), (Value.int 153 0), (Value.int 0 0), (Value.ref 271), (Value.int 158 0), (Value.int 0 0), (Value.ref 278), (Value.int 163 0), (Value.int 0 0), (Value.ref 285), (Value.int 171 0), (Value.int 0 0), (Value.ref 306), (Value.int 180 0), (Value.int 0 0), (Value.ref 313), (Value.int 198 0), (Value.int 0 0), (Value.ref 320), (Value.int 200 0), (Value.int 0 0), (Value.ref 327), (Value.int 209 0), (Value.int 0 0), (Value.ref 334)])) (List.toArray []))
noncomputable def hd.t5 (P : Params) : BT := .node (W.boot_o_0 P) (.node (W.boot_o_1 P) (.node (hd.c325 P) (.node (W.boot_o_7 P) (.node (hd.o15 P) (.node (hd.o31 P) (.node (hd.o63 P) (.node (hd.o127 P) (.node (hd.o255 P) (.nil) (.nil)) (.nil)) (.node (hd.o191 P) (.node (hd.o319 P) (.nil) (.nil)) (.nil))) (.node (hd.o95 P) (.node (hd.o159 P) (.node (hd.o287 P) (.nil) (.nil)) (.nil)) (.node (hd.o223 P) (.nil) (.nil)))) (.node (hd.o47 P) (.node (hd.o79 P) (.node (hd.o143 P) (.node (hd.o271 P) (.nil) (.nil)) (.nil)) (.node (hd.o207 P) (.node (hd.o335 P) (.nil) (.nil)) (.nil))) (.node (hd.o111 P) (.node (hd.o175 P) (.node (hd.o303 P) (.nil) (.nil)) (.nil)) (.node (hd.o239 P) (.nil) (.nil))))) (.node (hd.o23 P) (.node (hd.o39 P) (.node (hd.o71 P) (.node (hd.o135 P) (.node (hd.o263 P) (.nil) (.nil)) (.nil)) (.node (hd.o199 P) (.node (hd.o327 P) (.nil) (.nil)) (.nil))) (.node (hd.o103 P) (.node (hd.o167 P) (.node (hd.o295 P) (.nil) (.nil)) (.nil)) (.node (hd.o231 P) (.nil) (.nil)))) (.node (hd.o55 P) (.node (hd.o87 P) (.node (hd.o151 P) (.node (hd.o279 P) (.nil) (.nil)) (.nil)) (.node (hd.o215 P) (.nil) (.nil))) (.node (hd.o119 P) (.node (hd.o183 P) (.node (hd.o311 P) (.nil) (.nil)) (.nil)) (.node (hd.o247 P) (.nil) (.nil)))))) (.node (hd.o11 P) (.node (hd.o19 P) (.node (hd.o35 P) (.node (hd.o67 P) (.node (hd.o131 P) (.node (hd.o259 P) (.nil) (.nil)) (.nil)) (.node (hd.o195 P) (.node (hd.o323 P) (.nil) (.nil)) (.nil))) (.node (hd.o99 P) (.node (hd.o163 P) (.node (hd.o291 P) (.nil) (.nil)) (.nil)) (.node (hd.o227 P) (.nil) (.nil)))) (.node (hd.o51 P) (.node (hd.o83 P) (.node (hd.o147 P) (.node (hd.o275 P) (.nil) (.nil)) (.nil)) (.node (hd.o211 P) (.nil) (.nil))) (.node (hd.o115 P) (.node (hd.o179 P) (.node (hd.o307 P) (.nil) (.nil)) (.nil)) (.node (hd.o243 P) (.nil) (.nil))))) (.node (hd.o27 P) (.node (hd.o43 P) (.node (hd.o75 P) (.node (hd.o139 P) (.node (hd.o267 P) (.nil) (.nil)) (.nil)) (.node (hd.o203 P) (.node (hd.o331 P) (.nil) (.nil)) (.nil))) (.node (hd.o107 P) (.node (hd.o171 P) (.node (hd.o299 P) (.nil) (.nil)) (.nil)) (.node (hd.o235 P) (.nil) (.nil)))) (.node (hd.o59 P) (.node (hd.o91 P) (.node (hd.o155 P) (.node (hd.o283 P) (.nil) (.nil)) (.nil)) (.node (hd.o219 P) (.nil) (.nil))) (.node (hd.o123 P) (.node (hd.o187 P) (.node (hd.o315 P) (.nil) (.nil)) (.nil)) (.node (hd.o251 P) (.nil) (.nil))))))) (.node (W.boot_o_5 P) (.node (W.boot_o_9 P) (.node (hd.o17 P) (.node (hd.o33 P) (.node (hd.o65 P) (.node (hd.o129 P) (.node (hd.o257 P) (.nil) (.nil)) (.nil)) (.node (hd.o193 P) (.node (hd.o321 P) (.nil) (.nil)) (.nil))) (.node (hd.o97 P) (.node (hd.o161 P) (.node (hd.o289 P) (.nil) (.nil)) (.nil)) (.node (hd.o225 P) (.nil) (.nil)))) (.node (hd.o49 P) (.node (hd.o81 P) (.node (hd.o145 P) (.node (hd.o273 P) (.nil) (.nil)) (.nil)) (.node (hd.o209 P) (.nil) (.nil))) (.node (hd.o113 P) (.node (hd.o177 P) (.node (hd.o305 P) (.nil) (.nil)) (.nil)) (.node (hd.o241 P) (.nil) (.nil))))) (.node (hd.o25 P) (.node (hd.o41 P) (.node (hd.o73 P) (.node (hd.o137 P) (.node (hd.o265 P) (.nil) (.nil)) (.nil)) (.node (hd.o201 P) (.node (hd.o329 P) (.nil) (.nil)) (.nil))) (.node (hd.o105 P) (.node (hd.o169 P) (.node (hd.o297 P) (.nil) (.nil)) (.nil)) (.node (hd.o233 P) (.nil) (.nil)))) (.node (hd.o57 P) (.node (hd.o89 P) (.node (hd.o153 P) (.node (hd.o281 P) (.nil) (.nil)) (.nil)) (.node (hd.o217 P) (.nil) (.nil))) (.node (hd.o121 P) (.node (hd.o185 P) (.node (hd.o313 P) (.nil) (.nil)) (.nil)) (.node (hd.o249 P) (.nil) (.nil)))))) (.node (hd.o13 P) (.node (hd.o21 P) (.node (hd.o37 P) (.node (hd.o69 P) (.node (hd.o133 P) (.node (hd.o261 P) (.nil) (.nil)) (.nil)) (.node (hd.o197 P) (.node (hd.o325 P) (.nil) (.nil)) (.nil))) (.node (hd.o101 P) (.node (hd.o165 P) (.node (hd.o293 P) (.nil) (.nil)) (.nil)) (.node (hd.o229 P) (.nil) (.nil)))) (.node (hd.o53 P) (.node (hd.o85 P) (.node (hd.o149 P) (.node (hd.o277 P) (.nil) (.nil)) (.nil)) (.node (hd.o213 P) (.nil) (.nil))) (.node (hd.o117 P) (.node (hd.o181 P) (.node (hd.o309 P) (.nil) (.nil)) (.nil)) (.node (hd.o245 P) (.nil) (.nil))))) (.node (hd.o29 P) (.node (hd.o45 P) (.node (hd.o77 P) (.node (hd.o141 P) (.node (hd.o269 P) (.nil) (.nil)) (.nil)) (.node (hd.o205 P) (.node (hd.o333 P) (.nil) (.nil)) (.nil))) (.node (hd.o109 P) (.node (hd.o173 P) (.node (hd.o301 P) (.nil) (.nil)) (.nil)) (.node (hd.o237 P) (.nil) (.nil)))) (.node (hd.o61 P) (.node (hd.o93 P) (.node (hd.o157 P) (.node (hd.o285 P) (.nil) (.nil)) (.nil)) (.node (hd.o221 P) (.nil) (.nil))) (.node (hd.o125 P) (.node (hd.o189 P) (.node (hd.o317 P) (.nil) (.nil)) (.nil)) (.node (hd.o253 P) (.nil) (.nil)))))))) (.node (hd.o2 P) (.node (W.boot_o_4 P) (.node (W.boot_o_8 P) (.node (hd.o16 P) (.node (hd.o32 P) (.node (hd.o64 P) (.node (hd.o128 P) (.node (hd.o256 P) (.nil) (.nil)) (.nil)) (.node (hd.o192 P) (.node (hd.o320 P) (.nil) (.nil)) (.nil))) (.node (hd.o96 P) (.node (hd.o160 P) (.node (hd.o288 P) (.nil) (.nil)) (.nil)) (.node (hd.o224 P) (.nil) (.nil)))) (.node (hd.o48 P) (.node (hd.o80 P) (.node (hd.o144 P) (.node (hd.o272 P) (.nil) (.nil)) (.nil)) (.node (hd.o208 P) (.nil) (.nil))) (.node (hd.o112 P) (.node (hd.o176 P) (.node (hd.o304 P) (.nil) (.nil)) (.nil)) (.node (hd.o240 P) (.nil) (.nil))))) (.node (hd.o24 P) (.node (hd.o40 P) (.node (hd.o72 P) (.node (hd.o136 P) (.node (hd.o264 P) (.nil) (.nil)) (.nil)) (.node (hd.o200 P) (.node (hd.o328 P) (.nil) (.nil)) (.nil))) (.node (hd.o104 P) (.node (hd.o168 P) (.node (hd.o296 P) (.nil) (.nil)) (.nil)) (.node (hd.o232 P) (.nil) (.nil)))) (.node (hd.o56 P) (.node (hd.o88 P) (.node (hd.o152 P) (.node (hd.o280 P) (.nil) (.nil)) (.nil)) (.node (hd.o216 P) (.nil) (.nil))) (.node (hd.o120 P) (.node (hd.o184 P) (.node (hd.o312 P) (.nil) (.nil)) (.nil)) (.node (hd.o248 P) (.nil) (.nil)))))) (.node (hd.c326 P) (.node (hd.o20 P) (.node (hd.o36 P) (.node (hd.o68 P) (.node (hd.o132 P) (.node (hd.o260 P) (.nil) (.nil)) (.nil)) (.node (hd.o196 P) (.node (hd.o324 P) (.nil) (.nil)) (.nil))) (.node (hd.o100 P) (.node (hd.o164 P) (.node (hd.o292 P) (.nil) (.nil)) (.nil)) (.node (hd.o228 P) (.nil) (.nil)))) (.node (hd.o52 P) (.node (hd.o84 P) (.node (hd.o148 P) (.node (hd.o276 P) (.nil) (.nil)) (.nil)) (.node (hd.o212 P) (.nil) (.nil))) (.node (hd.o116 P) (.node (hd.o180 P) (.node (hd.o308 P) (.nil) (.nil)) (.nil)) (.node (hd.o244 P) (.nil) (.nil))))) (.node (hd.o28 P) (.node (hd.o44 P) (.node (hd.o76 P) (.node (hd.o140 P) (.node (hd.o268 P) (.nil) (.nil)) (.nil)) (.node (hd.o204 P) (.node (hd.o332 P) (.nil) (.nil)) (.nil))) (.node (hd.o108 P) (.node (hd.o172 P) (.node (hd.o300 P) (.nil) (.nil)) (.nil)) (.node (hd.o236 P) (.nil) (.nil)))) (.node (hd.o60 P) (.node (hd.o92 P) (.node (hd.o156 P) (.node (hd.o284 P) (.nil) (.nil)) (.nil)) (.node (hd.o220 P) (.nil) (.nil))) (.node (hd.o124 P) (.node (hd.o188 P) (.node (hd.o316 P) (.nil) (.nil)) (.nil)) (.node (hd.o252 P) (.nil) (.nil))))))) (.node (W.boot_o_6 P) (.node (W.boot_o_10 P) (.node (hd.o18 P) (.node (hd.o34 P) (.node (hd.o66 P) (.node (hd.o130 P) (.node (hd.o258 P) (.nil) (.nil)) (.nil)) (.node (hd.o194 P) (.node (hd.o322 P) (.nil) (.nil)) (.nil))) (.node (hd.o98 P) (.node (hd.o162 P) (.node (hd.o290 P) (.nil) (.nil)) (.nil)) (.node (hd.o226 P) (.nil) (.nil)))) (.node (hd.o50 P) (.node (hd.o82 P) (.node (hd.o146 P) (.node (hd.o274 P) (.nil) (.nil)) (.nil)) (.node (hd.o210 P) (.nil) (.nil))) (.node (hd.o114 P) (.node (hd.o178 P) (.node (hd.o306 P) (.nil) (.nil)) (.nil)) (.node (hd.o242 P) (.nil) (.nil))))) (.node (hd.o26 P) (.node (hd.o42 P) (.node (hd.o74 P) (.node (hd.o138 P) (.node (hd.o266 P) (.nil) (.nil)) (.nil)) (.node (hd.o202 P) (.node (hd.o330 P) (.nil) (.nil)) (.nil))) (.node (hd.o106 P) (.node (hd.o170 P) (.node (hd.o298 P) (.nil) (.nil)) (.nil)) (.node (hd.o234 P) (.nil) (.nil)))) (.node (hd.o58 P) (.node (hd.o90 P) (.node (hd.o154 P) (.node (hd.o282 P) (.nil) (.nil)) (.nil)) (.node (hd.o218 P) (.nil) (.nil))) (.node (hd.o122 P) (.node (hd.o186 P) (.node (hd.o314 P) (.nil) (.nil)) (.nil)) (.node (hd.o250 P) (.nil) (.nil)))))) (.node (hd.o14 P) (.node (hd.o22 P) (.node (hd.o38 P) (.node (hd.o70 P) (.node (hd.o134 P) (.node (hd.o262 P) (.nil) (.nil)) (.nil)) (.node (hd.o198 P) (.node (hd.o326 P) (.nil) (.nil)) (.nil))) (.node (hd.o102 P) (.node (hd.o166 P) (.node (hd.o294 P) (.nil) (.nil)) (.nil)) (.node (hd.o230 P) (.nil) (.nil)))) (.node (hd.o54 P) (.node (hd.o86 P) (.node (hd.o150 P) (.node (hd.o278 P) (.nil) (.nil)) (.nil)) (.node (hd.o214 P) (.nil) (.nil))) (.node (hd.o118 P) (.node (hd.o182 P) (.node (hd.o310 P) (.nil) (.nil)) (.nil)) (.node (hd.o246 P) (.nil) (.nil))))) (.node (hd.o30 P) (.node (hd.o46 P) (.node (hd.o78 P) (.node (hd.o142 P) (.node (hd.o270 P) (.nil) (.nil)) (.nil)) (.node (hd.o206 P) (.node (hd.o334 P) (.nil) (.nil)) (.nil))) (.node (hd.o110 P) (.node (hd.o174 P) (.node (hd.o302 P) (.nil) (.nil)) (.nil)) (.node (hd.o238 P) (.nil) (.nil)))) (.node (hd.o62 P) (.node (hd.o94 P) (.node (hd.o158 P) (.node (hd.o286 P) (.nil) (.nil)) (.nil)) (.node (hd.o222 P) (.nil) (.nil))) (.node (hd.o126 P) (.node (hd.o190 P) (.node (hd.o318 P) (.nil) (.nil)) (.nil)) (.node (hd.o254 P) (.nil) (.nil))))))))

/-! the run of the top, in one look of the kernel -/
namespace hd
noncomputable abbrev p : Program := PySem.Challenge.rw_pf0210_01.row.prog
noncomputable def env : Env := { scope := PySem.Challenge.pw_pf0210_01.main.scope, locals := mainNs, globals := mainNs, cells := [], code := Value.ref 13, frame := some 14 }
noncomputable abbrev cE : Code := Code.body (behindTheImports p) env
abbrev p0 : Pos := ⟨0, 0, 0, 0⟩
abbrev pE : Pos := ⟨413, 0, 417, 15⟩
noncomputable def i11 : Obj := Obj.mk (Value.type "tuple") none (Data.seq (List.toArray []) 0) (List.toArray [])
noncomputable def i12 : Obj := Obj.mk Value.none none (Data.fields (List.toArray [])) (List.toArray [])
noncomputable def i13 : Obj := Obj.mk (Value.type "code") none (Data.fields (List.toArray [Value.str (Str.ofString "<module>") 182, Value.str (Str.ofString "<module>") 183, Value.str (Str.ofString "/claim/cut.py") 184, Value.int 1 0, Value.int 0 0,
  Value.int 0 0, Value.int 0 0, Value.int 0 0, Value.ref 11, Value.bool false, Value.int 181 0, Value.ref 12, Value.none, Value.none, Value.none, Value.none, Value.int 185 0, Value.int 1 0, Value.str (Str.ofString "/claim/cut.py") 186])) (List.toArray [])
noncomputable def i14 : Obj := Obj.mk (Value.type "frame") none Data.plain (List.toArray [some (Value.ref 13), some (Value.ref 3), some (Value.ref 3), none, some (Value.str (Str.ofString "__main__") 164), none, some (Value.ref 0)])
noncomputable def hA (P : Params) : Heap := ⟨⟨[boot_o_0 P, boot_o_1 P, boot_o_2 P, boot_o_3 P, boot_o_4 P, boot_o_5 P, boot_o_6 P, boot_o_7 P, boot_o_8 P, boot_o_9 P, boot_o_10 P, i11, i12, i13, i14]⟩, {}⟩
noncomputable def tA (P : Params) : BT :=
  .node (boot_o_0 P) (.node (boot_o_1 P) (.node (boot_o_3 P) (.node (boot_o_7 P) .nil .nil) (.node i11 .nil .nil)) (.node (boot_o_5 P) (.node (boot_o_9 P) .nil .nil) (.node i13 .nil .nil)))
    (.node (boot_o_2 P) (.node (boot_o_4 P) (.node (boot_o_8 P) .nil .nil) (.node i12 .nil .nil)) (.node (boot_o_6 P) (.node (boot_o_10 P) .nil .nil) (.node i14 .nil .nil)))
noncomputable def S0 (w : World) (os : OsState) : Shared := ⟨boot_heap w.params, ⟨[]⟩, boot_drawn, boot_toks, os⟩
noncomputable def SA (w : World) (os : OsState) : Shared := ⟨hA w.params, ⟨[]⟩, {}, 187, os⟩
noncomputable def SB (w : World) (os : OsState) : SharedT := ⟨tA w.params, 15, {}, ⟨[]⟩, {}, 187, os⟩
abbrev an : Option Value := some (.ref 6)
noncomputable abbrev bd : List Stmt := behindTheImports p
noncomputable abbrev l0 : List Stmt := bd.take 6
noncomputable abbrev l1 : List Stmt := (bd.drop 6).take 6
noncomputable abbrev l2 : List Stmt := ((bd.drop 6).drop 6).take 21
noncomputable abbrev l3 : List Stmt := ((bd.drop 6).drop 6).drop 21
abbrev q1 : Pos := ⟨21, 0, 21, 8⟩
abbrev q2 : Pos := ⟨38, 0, 85, 16⟩
abbrev q3 : Pos := ⟨209, 0, 217, 19⟩
noncomputable def T1 (w : World) (os : OsState) : SharedT := ⟨t1 w.params, 73, {}, ⟨[]⟩, {}, 265, os⟩
noncomputable def T2 (w : World) (os : OsState) : SharedT := ⟨t3 w.params, 193, {}, ⟨[]⟩, {}, 431, os⟩
noncomputable def T3 (w : World) (os : OsState) : SharedT := ⟨t5 w.params, 336, {}, ⟨[]⟩, {}, 621, os⟩
noncomputable abbrev thr (l : List Stmt) (q : Pos) : Thread := piecesOf l env cE q [topFrame p0]
theorem pre (w : World) (os : OsState) : topGo treeTable p w 11 an 12 (S0 w os) (topStub p) = some (SA w os, ⟨denote treeTable cE, cE, p0, [topFrame p0]⟩) := by kernel_rfl
theorem block (w : World) (os : OsState) : segRun treeTable p w 11 an 1 1 (SA w os) (blockOf (behindTheImports p) env cE p0 [topFrame p0]) = some (.next, (SB w os).abs, cE, p0) := by kernel_rfl
theorem fin2 (w : World) (s : Shared) (c : Code) (pos q : Pos) : topRun treeTable p w 11 an 2 s ⟨doneF .next, c, pos, [topFrame q]⟩ = some s := by kernel_rfl
noncomputable abbrev X : Shared → Bool := fun s => xlAt view_39 [] s && recOk PySem.Challenge.rw_pf0210_01.row.records s
noncomputable abbrev loose : List Str := [Str.ofString "Thrown"]
noncomputable abbrev S1 (w : World) (os : OsState) : Shared := ⟨heap w.params, ⟨[]⟩, {}, 870, os⟩
theorem run0 (w : World) : (fun os => Fast.tw10110043849684766642 Fast.tw14364793385576792824 p w 11 an 1 526 (SB w os) (thr l0 p0)) = fun os => some (Flow.next, T1 w os, cE, q1) := by kernel_rfl
theorem run1 (w : World) : (fun os => Fast.tw10110043849684766642 Fast.tw14364793385576792824 p w 11 an 1 827 (T1 w os) (thr l1 q1)) = fun os => some (Flow.next, T2 w os, cE, q2) := by kernel_rfl
theorem run2 (w : World) : (fun os => Fast.tw10110043849684766642 Fast.tw14364793385576792824 p w 11 an 1 791 (T2 w os) (thr l2 q2)) = fun os => some (Flow.next, T3 w os, cE, q3) := by kernel_rfl
theorem run3 (w : World) : (fun os => (Fast.tw10110043849684766642 Fast.tw14364793385576792824 p w 11 an 1 829 (T3 w os) (thr l3 q3)).map fun r => (r.1, r.2.2.1, r.2.2.2, r.2.1.abs))
    = fun os => some (Flow.next, cE, pE, S1 w os) := by kernel_rfl
theorem run (w : World) (os : OsState) : topRun treeTable p w 11 an (12 + (1 + (526 + (827 + (791 + (829 + 2)))))) (S0 w os) (topStub p) = some (S1 w os) := by
  have a := congrFun (run3 w) os
  have a0 := congrFun (run0 w) os
  have a1 := congrFun (run1 w) os
  have a2 := congrFun (run2 w) os
  rw [← Fast.te10110043849684766642, ← Fast.te14364793385576792824] at a a0 a1 a2
  obtain ⟨⟨f, s, c, q⟩, e, ea⟩ := Option.map_eq_some_iff.mp a
  obtain ⟨rfl, e2⟩ := Prod.mk.inj ea
  obtain ⟨rfl, e3⟩ := Prod.mk.inj e2
  obtain ⟨rfl, e4⟩ := Prod.mk.inj e3
  have k := piece_app (segRun_of a0) (piece_app (segRun_of a1) (piece_app (segRun_of a2) (piece_app (rest := []) (segRun_of e) (piece_nil (fin2 w s.abs _ _ _)))))
  rw [List.append_nil, List.take_append_drop, List.take_append_drop, List.take_append_drop] at k
  rw [go_top (pre w os) (piece_block (block w os) k), e4]
/-! the looks at what the run left -/
section
variable (w : World) (os : OsState)
theorem k_stat : (staticsOk (importedModules p.main.body) (boot_heap w.params) (S1 w os).heap && namesBound p (S1 w os).heap && gensDone (S1 w os) && laidKept (boot_heap w.params) (S1 w os).heap) = true := by kernel_rfl
theorem k_seen : PyProof.Rows.seen ((PyProof.Rows.recsOf view_39).map fun x => x.name) (PyProof.Rows.ownsOf view_39) [] ⟨(S1 w os).heap, #[], (S1 w os).drawn, (S1 w os).toks, (S1 w os).os⟩ = PyProof.Rows.expectedOf view_39 := by kernel_rfl
theorem k_blt : (S1 w os).heap.bltView = bltViewBooted := by kernel_rfl
theorem k_keys : (S1 w os).heap.keysOk (looseW view_39 loose) ((PyProof.Rows.recsOf view_39).map fun x => x.name) ((PyProof.Rows.litsOf view_39).map fun x => x.1) ((PyProof.Rows.clssOf view_39 (looseW view_39 loose)).map fun x => x.name) = true := by kernel_rfl
theorem k_rest : ((S1 w os).heap.accountedOkI (importedModules p.main.body) && ((S1 w os).heap.isNs mainGlobals && ((S1 w os).heap.isNs builtinsNs && (PyProof.Rows.tablesOk view_39 (S1 w os).heap && (X (S1 w os) && ((S1 w os).gens.size == 0)))))) = true := by kernel_rfl
theorem k_tabs : PyProof.Rows.tabsOk view_39 (S1 w os) = true := by kernel_rfl
theorem k_pin : pinSeenD view_39 (PyProof.Rows.drecsOf view_39) (S1 w os) = pinGoodD (PyProof.Rows.drecsOf view_39) := by kernel_rfl
theorem k_plE : PyProof.Rows.plainSeenE view_39 (looseW view_39 loose) (S1 w os) = PyProof.Rows.plainGoodE view_39 (looseW view_39 loose) := by kernel_rfl
theorem k_plD : PyProof.Rows.plainSeenD view_39 loose (S1 w os) = PyProof.Rows.plainGoodD view_39 loose := by kernel_rfl
theorem k_wide : wideSeen view_39 (S1 w os) = wideGood view_39 := by kernel_rfl
theorem k_cls : clsSeenW view_39 loose (S1 w os) = clsGoodW view_39 loose := by kernel_rfl
theorem k_all : openSeen view_39 loose (importedModules p.main.body) X true (S1 w os) = openGood view_39 loose := by
  have e : ((S1 w os).heap.keysOk (looseW view_39 loose) ((PyProof.Rows.recsOf view_39).map fun x => x.name) ((PyProof.Rows.litsOf view_39).map fun x => x.1) ((PyProof.Rows.clssOf view_39 (looseW view_39 loose)).map fun x => x.name) &&
      (S1 w os).heap.accountedOkI (importedModules p.main.body) && (S1 w os).heap.isNs mainGlobals && (S1 w os).heap.isNs builtinsNs && PyProof.Rows.tablesOk view_39 (S1 w os).heap && X (S1 w os) && ((S1 w os).gens.size == 0)) = true := by
    rw [Bool.and_assoc, Bool.and_assoc, Bool.and_assoc, Bool.and_assoc, Bool.and_assoc, k_keys, k_rest]; rfl
  exact looks_pair (k_seen w os) (looks_pair (k_blt w os) (looks_pair e (looks_pair (k_tabs w os) (looks_pair (k_pin w os) (looks_pair (k_plE w os) (looks_pair (k_plD w os) (looks_pair (k_wide w os) (k_cls w os))))))))
theorem k_hook : as.map (S1 w os).heap.get? = (heap_39 w.params).map fun p => some p.2 := by kernel_rfl
end
noncomputable abbrev hook : Hook := kHook heap_39 as (fun _ => by kernel_rfl)
end hd
theorem leftO_run {p q : Program} {loose : List Str} {Xt : Shared → Bool} {α : Type} {Yf : Shared → α} {Ya : World → α} {N : Nat} {g0 : Bool} {H₀ : Params → Heap} {gs₀ : Array GenState} {d₀ : Drawn} {k₀ m₀ : Nat} {ann : Option Value} {M : Nat}
    (open_ : ∀ w : World, (fencedOpening treeTable p w N).map (fun s => (s.heap, s.gens, s.drawn, s.toks)) = some (H₀ w.params, gs₀, d₀, k₀))
    (size : ∀ w : World, ((H₀ w.params).isNs mainGlobals && gs₀.size == 0, (H₀ w.params).objs.size, (H₀ w.params).nsMap mainGlobals "__annotations__") = (true, m₀, ann)) (le : M ≤ N)
    (run : ∀ (w : World) (os : OsState), ∃ s₁, topRun treeTable p w m₀ ann M ⟨H₀ w.params, gs₀, d₀, k₀, os⟩ (topStub p) = some s₁ ∧
      (staticsOk (importedModules p.main.body) (H₀ w.params) s₁.heap && namesBound p s₁.heap && gensDone s₁ && laidKept (H₀ w.params) s₁.heap) = true ∧
      openSeen q loose (importedModules p.main.body) Xt g0 s₁ = openGood q loose ∧ Yf s₁ = Ya w) : LeftO p q loose Xt Yf Ya N g0 := fun w => by
  obtain ⟨⟨h, gs, d, k, os⟩, e, e'⟩ := Option.map_eq_some_iff.mp (open_ w)
  obtain ⟨rfl, e2⟩ := Prod.mk.inj e'
  obtain ⟨rfl, e3⟩ := Prod.mk.inj e2
  obtain ⟨rfl, rfl⟩ := Prod.mk.inj e3
  obtain ⟨z1, z4⟩ := Prod.mk.inj (size w)
  obtain ⟨z2, z3⟩ := Prod.mk.inj z4
  obtain ⟨s₁, r, l1, l2, l3⟩ := run w os
  have r := topRun_mono (N - M) _ _ _ _ r
  rw [show M + (N - M) = N by omega] at r
  have t : topFrom treeTable p w N ⟨H₀ w.params, gs, d, k, os⟩ = some s₁ := by
    unfold topFrom
    dsimp only
    dsimp only at z1 z2 z3
    rw [z1, z2, z3, r]
    show (match staticsOk (importedModules p.main.body) (H₀ w.params) s₁.heap && namesBound p s₁.heap && gensDone s₁ && laidKept (H₀ w.params) s₁.heap with | true => _ | false => _) = _
    rw [l1]
  unfold openEnds
  rw [e]
  show (topFrom treeTable p w N _).map _ = _
  rw [t]
  exact congrArg some (Prod.ext l2 l3)
theorem hd.left : LeftO hd.p hd.view_39 hd.loose hd.X hd.hook.obs hd.hook.val 6054 :=
  leftO_run (M := 2988) (boot_open (by kernel_rfl) (by decide) (fun s => by kernel_rfl)) (fun w => by kernel_rfl) (by decide) fun w os => ⟨_, hd.run w os, hd.k_stat w os, hd.k_all w os, hd.k_hook w os⟩
set_option maxHeartbeats 8000000 in
theorem hd.said : PySem.Challenge.rw_pf0210_01.wellSaid = true := by
  rw [Fast.te9446332074065402090]
  delta Fast.tw9446332074065402090 Fast.tw17960256430627541270 Fast.tw2436336058641802641 Fast.tw12908688711261696721
  repeat' with_reducible refine look_both ?_ ?_
  all_goals as_aux_lemma => kernel_rfl
theorem hd {d : DefRec} {kwd : List (Str × Expr)} (hdef : defOf hd.view_39 PySem.Challenge.rw_pf0210_01.row.name = some (d, kwd)) (hp : hd.p.theDef PySem.Challenge.rw_pf0210_01.row.name = some (d.params, d.body, d.scope)) (hk : kwWritten? d.params.kwonlyargs d.params.kw_defaults = some kwd)
    (call : WalkO hd.view_39 hd.loose (XL hd.view_39 []) hd.hook.says PySem.Challenge.rw_pf0210_01.row.toRowW d kwd fun f vs => PySem.call f vs) : PySem.Challenge.rw_pf0210_01.Holds := by
  refine holds_law hd.said fun said => ?_
  exact holds_open (N := 6054) hd.left (Hook.of hd.hook) (Hook.keeps hd.hook) (fun s e => xl_of s (Bool.and_eq_true_iff.mp e).1) XL.keeps hdef hp hk (fun s e => recFacts_of (Bool.and_eq_true_iff.mp e).2) rfl said (by decide +kernel) ⟨rfl, rfl, rfl, rfl, rfl, by decide +kernel⟩ ⟨[WData.list []], by decide +kernel, by decide +kernel⟩ call
end Mine

open PySem PySem.W PySem.Calls PyProof.Rows
namespace Mine

/-! the abstract state -/
def er : Value → Value
  | .int i _ => .int i 0
  | .float b _ => .float b 0
  | .str s _ => .str s 0
  | .bytes b _ => .bytes b 0
  | v => v
abbrev I (i : Int) : Value := .int i 0
abbrev Lo := List (Str × Value)
inductive AO where
  | list (vs : List Value)
  | tup (vs : List Value)
  | inst (C dx : Addr)
  | dict (fs : List (Str × Value))
  | map (fs : List (Str × Value))
  | range (n : Int)
  | slice (a b d : Value)
  | cell (v : Value)
  | enumr (it : Addr)
  | litr (l : Addr)
abbrev Hp := List (Addr × AO)

theorem er_int {v : Value} {i : Int} (h : er v = I i) : ∃ t, v = .int i t := by
  cases v <;> simp only [er, Value.int.injEq, reduceCtorEq] at h
  exact ⟨_, by rw [h.1]⟩
theorem er_ref {v : Value} {a : Addr} (h : er v = .ref a) : v = .ref a := by
  cases v <;> simp only [er, Value.ref.injEq, reduceCtorEq] at h
  rw [h]
theorem er_none {v : Value} (h : er v = .none) : v = .none := by
  cases v <;> simp only [er, reduceCtorEq] at h
  rfl
theorem er_bool {v : Value} {b : Bool} (h : er v = .bool b) : v = .bool b := by
  cases v <;> simp only [er, Value.bool.injEq, reduceCtorEq] at h
  rw [h]
theorem er_str {v : Value} {x : Str} (h : er v = .str x 0) : ∃ t, v = .str x t := by
  cases v <;> simp only [er, Value.str.injEq, reduceCtorEq] at h
  exact ⟨_, by rw [h.1]⟩
theorem er_type {v : Value} {x : String} (h : er v = .type x) : v = .type x := by
  cases v <;> simp only [er, Value.type.injEq, reduceCtorEq] at h
  rw [h]
theorem er_builtin {v : Value} {x : String} (h : er v = .builtin x) : v = .builtin x := by
  cases v <;> simp only [er, Value.builtin.injEq, reduceCtorEq] at h
  rw [h]

structure Gd where
  prog : Program
  w : World
  K : Frag
  p : Program
  loose : List Str
  mg : Str → Option Value
  mb : Str → Option Value

def EntryIs (P : Params) (e : DictEntry) (f : Str × Value) : Prop :=
  (∃ t, e.key = .str f.1 t) ∧ e.hash = PyData.keyHash P f.1 ∧ er e.val = f.2
abbrev tupOf (its : Array Value) (n : Nat) : Obj := { cls := .type "tuple", data := .seq its n }
def AO.Is (g : Gd) : AO → Obj → Prop
  | .list vs, o => ∃ its n, o = listOf its n ∧ its.toList.map er = vs
  | .tup vs, o => ∃ its n, o = tupOf its n ∧ its.toList.map er = vs
  | .inst C dx, o => o = instObj C dx
  | .dict fs, o => ∃ es n, o = dictOf es n ∧ All2 (EntryIs g.w.params) es fs
  | .map fs, o => ∃ kvs, o.IsDictOf (strKind g.prog g.w) kvs ∧ kvs.map (fun p => (p.1, er p.2)) = fs
  | .range n, o => ∃ t u v, o = { cls := .type "range", data := .fields #[.int 0 t, .int n u, .int 1 v] }
  | .slice a b d, o => ∃ x y z, o = { cls := .type "slice", data := .fields #[x, y, z] } ∧ er x = a ∧ er y = b ∧ er z = d
  | .cell v, o => ∃ v', o.data = .cell (some v') ∧ er v' = v
  | .enumr it, o => o = { cls := .type "enumerate", dict := none, data := .fields #[.none, .bool false, .ref it, rawInt 0, .none, .none], slots := #[] }
  | .litr l, o => o.cls = .type "list_iterator" ∧ o.data = .fields #[.ref l, .int 0 0]

def RelO (g : Gd) (p : Addr × Obj) (q : Addr × AO) : Prop := p.1 = q.1 ∧ q.2.Is g p.2
abbrev RelH (g : Gd) (raw : List (Addr × Obj)) (H : Hp) : Prop := All2 (RelO g) raw H

structure Cx (g : Gd) (L : Addr) where
  base : Heap
  F : List (Addr × Obj)
  A : Around
  X : g.K.In base
  T : TopRead g.p g.loose g.mg g.mb base
  hh : A.handled = none
  hu : A.units < 9000
  hd : A.depth < 900

def Cx.wf {g : Gd} {L : Addr} (c : Cx g L) (F : List (Addr × Obj)) : Cx g L := { c with F := F }
def Cx.room {g : Gd} {L : Addr} (c : Cx g L) (n : Nat) : Prop := c.A.depth + 3 * n < 900 ∧ c.A.units + 20 * n < 9000
theorem room_le {g : Gd} {L : Addr} {c : Cx g L} {n m : Nat} (h : c.room n) (hm : m ≤ n) : c.room m := by
  unfold Cx.room at *; omega

def LoR (lo : Lo) (m : Str → Option Value) : Prop := ∀ x v, lo.lookup x = some v → ∃ v', m x = some v' ∧ er v' = v

variable {g : Gd} {L : Addr}

def St (c : Cx g L) (lo : Lo) (H : Hp) (s : Shared) : Prop :=
  ∃ m raw, Fr c.base L s.heap m ∧ LoR lo m ∧ RelH g raw H ∧ News c.base L s.heap (raw ++ c.F) ∧ ((raw ++ c.F).map (·.1)).Nodup

def Sm (s s' : Shared) : Prop := s'.gens = s.gens ∧ s'.drawn = s.drawn ∧ s'.os = s.os
theorem Sm.refl (s : Shared) : Sm s s := ⟨rfl, rfl, rfl⟩
theorem Sm.trans {a b c : Shared} (x : Sm a b) (y : Sm b c) : Sm a c := ⟨y.1.trans x.1, y.2.1.trans x.2.1, y.2.2.trans x.2.2⟩

abbrev Post (c : Cx g L) {α : Type} (s0 : Shared) (Q : α → Lo → Hp → Prop) : α → Shared → Prop :=
  fun a s' => ∃ lo H, St c lo H s' ∧ Sm s0 s' ∧ Q a lo H
abbrev NoE : Value → Shared → Prop := fun _ _ => False

def W (c : Cx g L) {α : Type} (t : Sem α) (lo : Lo) (H : Hp) (Q : α → Lo → Hp → Prop) : Prop :=
  ∀ s0 s, Sm s0 s → St c lo H s → wpAny (model g.prog g.w) c.A t (Post c s0 Q) NoE s
abbrev V (c : Cx g L) (t : Sem Value) (lo : Lo) (H : Hp) (Q : Value → Lo → Hp → Prop) : Prop := W c t lo H fun v => Q (er v)

theorem W.mono {c : Cx g L} {α : Type} {t : Sem α} {lo : Lo} {H : Hp} {Q Q' : α → Lo → Hp → Prop} (h : W c t lo H Q) (hQ : ∀ a lo H, Q a lo H → Q' a lo H) : W c t lo H Q' :=
  fun s0 s sm hs => wpAny_mono (h s0 s sm hs) (fun _ _ ⟨lo, H, a, b, q⟩ => ⟨lo, H, a, b, hQ _ _ _ q⟩) fun _ _ x => x
theorem W.app {c : Cx g L} {α β : Type} {t : Sem α} {k : α → Sem β} {lo : Lo} {H : Hp} {Q : β → Lo → Hp → Prop} (h : W c t lo H fun a lo H => W c (k a) lo H Q) {s0 s : Shared} (sm : Sm s0 s) (hs : St c lo H s) :
    wpAny (model g.prog g.w) c.A t (fun a s1 => wpAny (model g.prog g.w) c.A (k a) (Post c s0 Q) NoE s1) NoE s :=
  wpAny_mono (h s0 s sm hs) (fun _ _ ⟨_, _, a, b, q⟩ => q _ _ b a) fun _ _ x => x
theorem W.bind {c : Cx g L} {α β : Type} {t : Sem α} {k : α → Sem β} {lo : Lo} {H : Hp} {Q : β → Lo → Hp → Prop} (h : W c t lo H fun a lo H => W c (k a) lo H Q) : W c (t >>= k) lo H Q :=
  fun _ _ sm hs => wpAny_bind (h.app sm hs)
theorem W.pure {c : Cx g L} {α : Type} {a : α} {lo : Lo} {H : Hp} {Q : α → Lo → Hp → Prop} (h : Q a lo H) : W c (pure a) lo H Q :=
  fun _ _ sm hs => wpAny_pure ⟨lo, H, hs, sm, h⟩

/-! heap bookkeeping -/
theorem Sm.upd {s0 s : Shared} (sm : Sm s0 s) (h : Heap) (t : Nat) : Sm s0 { s with heap := h, toks := t } := sm
theorem St.toks {c : Cx g L} {lo : Lo} {H : Hp} {s : Shared} (h : St c lo H s) (t : Nat) : St c lo H { s with toks := t } := h

theorem relH_mem {g : Gd} : ∀ {raw : List (Addr × Obj)} {H : Hp} {a : Addr} {ao : AO}, RelH g raw H → (a, ao) ∈ H → ∃ o, (a, o) ∈ raw ∧ ao.Is g o := by
  intro raw H a ao h
  induction h with
  | nil => intro hm; cases hm
  | @cons p q r H' hp _ ih =>
    intro hm
    rcases List.mem_cons.mp hm with rfl | hm
    · obtain ⟨b, o⟩ := p; obtain ⟨rfl, hx⟩ := hp; exact ⟨o, .head _, hx⟩
    · obtain ⟨o, ho, hi⟩ := ih hm; exact ⟨o, .tail _ ho, hi⟩
theorem St.get {c : Cx g L} {lo : Lo} {H : Hp} {s : Shared} (hs : St c lo H s) {a : Addr} {ao : AO} (hm : (a, ao) ∈ H) : ∃ o, s.heap.get? a = some o ∧ ao.Is g o := by
  obtain ⟨m, raw, F, hl, hr, N, nd⟩ := hs
  obtain ⟨o, ho, hi⟩ := relH_mem hr hm
  exact ⟨o, (N _ (List.mem_append_left _ ho)).1, hi⟩
theorem St.list {c : Cx g L} {lo : Lo} {H : Hp} {s : Shared} (hs : St c lo H s) {a : Addr} {vs : List Value} (hm : (a, .list vs) ∈ H) : ∃ its n, s.heap.get? a = some (listOf its n) ∧ its.toList.map er = vs := by
  obtain ⟨o, ho, its, n, rfl, e⟩ := hs.get hm
  exact ⟨its, n, ho, e⟩
theorem St.tup {c : Cx g L} {lo : Lo} {H : Hp} {s : Shared} (hs : St c lo H s) {a : Addr} {vs : List Value} (hm : (a, .tup vs) ∈ H) : ∃ its n, s.heap.get? a = some (tupOf its n) ∧ its.toList.map er = vs := by
  obtain ⟨o, ho, its, n, rfl, e⟩ := hs.get hm
  exact ⟨its, n, ho, e⟩
theorem St.dict {c : Cx g L} {lo : Lo} {H : Hp} {s : Shared} (hs : St c lo H s) {a : Addr} {fs : List (Str × Value)} (hm : (a, .dict fs) ∈ H) : ∃ es n, s.heap.get? a = some (dictOf es n) ∧ All2 (EntryIs g.w.params) es fs := by
  obtain ⟨o, ho, es, n, rfl, e⟩ := hs.get hm
  exact ⟨es, n, ho, e⟩
theorem St.inst {c : Cx g L} {lo : Lo} {H : Hp} {s : Shared} (hs : St c lo H s) {a C dx : Addr} (hm : (a, .inst C dx) ∈ H) : s.heap.get? a = some (instObj C dx) := by
  obtain ⟨o, ho, rfl⟩ := hs.get hm
  exact ho
theorem St.fr {c : Cx g L} {lo : Lo} {H : Hp} {s : Shared} (hs : St c lo H s) : ∃ m, Fr c.base L s.heap m ∧ LoR lo m := let ⟨m, _, F, hl, _⟩ := hs; ⟨m, F, hl⟩
theorem St.keep {c : Cx g L} {lo : Lo} {H : Hp} {s : Shared} (hs : St c lo H s) : ∀ b o, c.base.get? b = some o → s.heap.get? b = some o := let ⟨_, _, F, _⟩ := hs; F.keep
theorem St.X {c : Cx g L} {lo : Lo} {H : Hp} {s : Shared} (hs : St c lo H s) : g.K.In s.heap := c.X.keeps hs.keep

/-- replacing the object at an address -/
inductive Put (a : Addr) (o o' : AO) : Hp → Hp → Prop
  | head {r} : Put a o o' ((a, o) :: r) ((a, o') :: r)
  | tail {p r r'} : Put a o o' r r' → Put a o o' (p :: r) (p :: r')
theorem Put.mem {a : Addr} {o o' : AO} {H H' : Hp} (h : Put a o o' H H') : (a, o) ∈ H := by
  induction h with
  | head => exact .head _
  | tail _ ih => exact .tail _ ih
theorem Put.raw {g : Gd} {a : Addr} {o o' : AO} {H H' : Hp} (h : Put a o o' H H') : ∀ {raw}, RelH g raw H → ∃ pre x post, raw = pre ++ (a, x) :: post ∧ o.Is g x ∧ ∀ x', o'.Is g x' → RelH g (pre ++ (a, x') :: post) H' := by
  induction h with
  | head =>
    intro raw hr
    cases hr with
    | @cons p _ r _ hp hr =>
      obtain ⟨b, x⟩ := p
      obtain ⟨rfl, hx⟩ := hp
      exact ⟨[], x, r, rfl, hx, fun x' hx' => .cons ⟨rfl, hx'⟩ hr⟩
  | tail _ ih =>
    intro raw hr
    cases hr with
    | @cons p _ r _ hp hr =>
      obtain ⟨pre, x, post, rfl, hx, k⟩ := ih hr
      exact ⟨p :: pre, x, post, rfl, hx, fun x' hx' => .cons hp (k x' hx')⟩

/-- the state, opened for an update of one object; `k` closes it again -/
theorem St.upd {c : Cx g L} {lo : Lo} {H H' : Hp} {s : Shared} {a : Addr} {ao ao' : AO} (hs : St c lo H s) (hp : Put a ao ao' H H') :
    ∃ m pre x post, Fr c.base L s.heap m ∧ LoR lo m ∧ News c.base L s.heap (pre ++ (a, x) :: post) ∧ ao.Is g x ∧ (∀ p ∈ pre, p.1 ≠ a) ∧ (∀ p ∈ post, p.1 ≠ a) ∧
      ∀ h' t' x', Fr c.base L h' m → News c.base L h' (pre ++ (a, x') :: post) → ao'.Is g x' → St c lo H' { s with heap := h', toks := t' } := by
  obtain ⟨m, raw, F, hl, hr, N, nd⟩ := hs
  obtain ⟨pre, x, post, rfl, hx, k⟩ := hp.raw hr
  have e : ∀ x, (pre ++ (a, x) :: post) ++ c.F = pre ++ (a, x) :: (post ++ c.F) := fun x => by simp
  rw [e] at N nd
  have nd' := nd
  rw [List.map_append, List.map_cons, List.nodup_append] at nd'
  obtain ⟨_, n2, n3⟩ := nd'
  refine ⟨m, pre, x, post ++ c.F, F, hl, N, hx, fun p hp e => ?_, fun p hp e => ?_, fun h' t' x' F' N' hx' => ⟨m, pre ++ (a, x') :: post, F', hl, k x' hx', (e x').symm ▸ N', ?_⟩⟩
  · exact n3 p.1 (List.mem_map_of_mem hp) a (.head _) e
  · exact (List.nodup_cons.mp n2).1 (List.mem_map.mpr ⟨p, hp, e⟩)
  · rw [e]; simpa using nd

/-- a new object at the ledger's head -/
theorem St.new {c : Cx g L} {lo : Lo} {H : Hp} {s : Shared} (hs : St c lo H s) :
    ∃ m raw, Fr c.base L s.heap m ∧ LoR lo m ∧ News c.base L s.heap raw ∧
      ∀ h' t' a x ao, Fr c.base L h' m → News c.base L h' ((a, x) :: raw) → s.heap.objs.size ≤ a → ao.Is g x → St c lo ((a, ao) :: H) { s with heap := h', toks := t' } := by
  obtain ⟨m, raw, F, hl, hr, N, nd⟩ := hs
  refine ⟨m, raw ++ c.F, F, hl, N, fun h' t' a x ao F' N' ha hx => ⟨m, (a, x) :: raw, F', hl, .cons ⟨rfl, hx⟩ hr, N', ?_⟩⟩
  refine List.nodup_cons.mpr ⟨fun hm => ?_, nd⟩
  obtain ⟨p, hp, e⟩ := List.mem_map.mp hm
  have e' : p.1 = a := e
  have := Heap.lt_size (N p hp).1
  rw [e'] at this
  exact absurd this (Nat.not_lt.mpr ha)
/-- the same ledger, another heap -/
theorem St.same {c : Cx g L} {lo : Lo} {H : Hp} {s : Shared} (hs : St c lo H s) :
    ∃ m news, Fr c.base L s.heap m ∧ LoR lo m ∧ News c.base L s.heap news ∧
      ∀ h' t', Fr c.base L h' m → News c.base L h' news → St c lo H { s with heap := h', toks := t' } := by
  obtain ⟨m, raw, F, hl, hr, N, nd⟩ := hs
  exact ⟨m, raw ++ c.F, F, hl, N, fun h' t' F' N' => ⟨m, raw, F', hl, hr, N', nd⟩⟩

/-- order, weakening -/
theorem St.perm {c : Cx g L} {lo : Lo} {H H' : Hp} {s : Shared} (hs : St c lo H s) (hp : H.Perm H') : St c lo H' s := by
  obtain ⟨m, raw, F, hl, hr, N, nd⟩ := hs
  have : ∃ raw', RelH g raw' H' ∧ raw.Perm raw' := by
    clear N nd
    induction hp generalizing raw with
    | nil => exact ⟨raw, hr, .refl _⟩
    | cons x _ ih =>
      cases hr with
      | cons h1 h2 => obtain ⟨r', a, b⟩ := ih _ h2; exact ⟨_ :: r', .cons h1 a, .cons _ b⟩
    | swap x y l =>
      cases hr with
      | cons h1 h2 => cases h2 with | cons h3 h4 => exact ⟨_, .cons h3 (.cons h1 h4), .swap _ _ _⟩
    | trans _ _ i1 i2 => obtain ⟨r1, a, b⟩ := i1 _ hr; obtain ⟨r2, a2, b2⟩ := i2 _ a; exact ⟨r2, a2, b.trans b2⟩
  obtain ⟨raw', hr', pp⟩ := this
  exact ⟨m, raw', F, hl, hr', fun p hp' => N p (by rcases List.mem_append.mp hp' with q | q; exact List.mem_append_left _ (pp.mem_iff.mpr q); exact List.mem_append_right _ q), ((pp.append_right c.F).map _).nodup_iff.mp nd⟩
theorem St.drop1 {c : Cx g L} {lo : Lo} {p : Addr × AO} {H : Hp} {s : Shared} (hs : St c lo (p :: H) s) : St c lo H s := by
  obtain ⟨m, raw, F, hl, hr, N, nd⟩ := hs
  cases hr with
  | cons h1 h2 => exact ⟨m, _, F, hl, h2, fun p hp => N p (.tail _ hp), (List.nodup_cons.mp nd).2⟩
theorem St.drops {c : Cx g L} {lo : Lo} {H : Hp} {s : Shared} : ∀ {G : Hp}, St c lo (G ++ H) s → St c lo H s
  | [], h => h
  | _ :: _, h => St.drops (St.drop1 h)
theorem St.sub {c : Cx g L} {lo : Lo} {G H H' : Hp} {s : Shared} (hs : St c lo H' s) (hp : H'.Perm (G ++ H)) : St c lo H s := St.drops (hs.perm hp)
theorem W.weak {c : Cx g L} {α : Type} {t : Sem α} {lo : Lo} {G H H' : Hp} {Q : α → Lo → Hp → Prop} (h : W c t lo H Q) (hp : H'.Perm (G ++ H)) : W c t lo H' Q :=
  fun s0 s sm hs => h s0 s sm (hs.sub hp)

end Mine

namespace Mine
variable {g : Gd} {L : Addr} {c : Cx g L} {lo : Lo} {H : Hp}

/-! value level: what is asked of an erased value holds for every value that it stands for -/
def L1 {α : Type} (c : Cx g L) (f : Value → Sem α) (a : Value) (lo : Lo) (H : Hp) (Q : α → Lo → Hp → Prop) : Prop := ∀ v, er v = a → W c (f v) lo H Q
def L2 {α : Type} (c : Cx g L) (f : Value → Value → Sem α) (a b : Value) (lo : Lo) (H : Hp) (Q : α → Lo → Hp → Prop) : Prop := ∀ v w, er v = a → er w = b → W c (f v w) lo H Q
def L3 {α : Type} (c : Cx g L) (f : Value → Value → Value → Sem α) (a b d : Value) (lo : Lo) (H : Hp) (Q : α → Lo → Hp → Prop) : Prop := ∀ v w u, er v = a → er w = b → er u = d → W c (f v w u) lo H Q
abbrev EQ (Q : Value → Lo → Hp → Prop) : Value → Lo → Hp → Prop := fun v => Q (er v)

abbrev FQ (N : Lo → Hp → Prop) (R : Value → Hp → Prop) : Flow → Lo → Hp → Prop := fun f lo H => match f with
  | .next => N lo H
  | .ret v => R (er v) H
  | _ => False
abbrev X (c : Cx g L) (env : Env) (ss : List Stmt) (lo : Lo) (H : Hp) (N : Lo → Hp → Prop) (R : Value → Hp → Prop) : Prop := W c (execs ss env) lo H (FQ N R)
abbrev X1 (c : Cx g L) (env : Env) (st : Stmt) (lo : Lo) (H : Hp) (N : Lo → Hp → Prop) (R : Value → Hp → Prop) : Prop := W c (exec st env) lo H (FQ N R)
abbrev Ev (c : Cx g L) (env : Env) (e : Expr) (lo : Lo) (H : Hp) (Q : Value → Lo → Hp → Prop) : Prop := W c (eval e env) lo H (EQ Q)
abbrev Te (c : Cx g L) (env : Env) (e : Expr) (lo : Lo) (H : Hp) (Q : Bool → Lo → Hp → Prop) : Prop := W c (isTrue e env (eval e env)) lo H Q
abbrev Ite (b : Bool) (P Q : Prop) : Prop := (b = true → P) ∧ (b = false → Q)

theorem app1 {α : Type} {f : Value → Sem α} {t : Sem Value} {Q : α → Lo → Hp → Prop} (h : W c t lo H (EQ fun a lo H => L1 c f a lo H Q)) : W c t lo H (fun v lo H => W c (f v) lo H Q) :=
  W.mono h fun v _ _ q => q v rfl
theorem app2 {α : Type} {f : Value → Value → Sem α} {t u : Sem Value} {Q : α → Lo → Hp → Prop} (h : W c t lo H (EQ fun a lo H => W c u lo H (EQ fun b lo H => L2 c f a b lo H Q))) :
    W c t lo H (fun v lo H => W c u lo H (fun w lo H => W c (f v w) lo H Q)) :=
  W.mono h fun v _ _ q => W.mono q fun w _ _ q => q v w rfl rfl

/-! names, constants -/
inductive GetF : List (Str × Value) → Str → Value → Prop
  | here {x v r} : GetF ((x, v) :: r) x v
  | there {x v y u r} : y ≠ x → GetF r x v → GetF ((y, u) :: r) x v
inductive PutF (x : Str) (v : Value) : List (Str × Value) → List (Str × Value) → Prop
  | nil : PutF x v [] [(x, v)]
  | here {u r} : PutF x v ((x, u) :: r) ((x, v) :: r)
  | there {y u r r'} : y ≠ x → PutF x v r r' → PutF x v ((y, u) :: r) ((y, u) :: r')
theorem GetF.lookup {l : List (Str × Value)} {x : Str} {v : Value} (h : GetF l x v) : l.lookup x = some v := by
  induction h with
  | here => simp
  | there hn _ ih => rw [List.lookup_cons, beq_eq_false_iff_ne.mpr (Ne.symm hn)]; exact ih
theorem PutF.lookup {x : Str} {v : Value} {l l' : List (Str × Value)} (h : PutF x v l l') : ∀ y, l'.lookup y = if y = x then some v else l.lookup y := by
  intro y
  induction h with
  | nil => rw [List.lookup_cons]; by_cases e : y = x
           · simp [e]
           · rw [beq_eq_false_iff_ne.mpr e, if_neg e]
  | here => rw [List.lookup_cons, List.lookup_cons]; by_cases e : y = x
            · simp [e]
            · rw [beq_eq_false_iff_ne.mpr e, if_neg e]
  | @there z u r r' hn _ ih =>
    rw [List.lookup_cons, List.lookup_cons, ih]
    by_cases e : y = z
    · subst e; simp only [beq_self_eq_true, if_neg hn]
    · rw [beq_eq_false_iff_ne.mpr e]

theorem e_int {env : Env} {i : Int} {k : Nat} {pos : Pos} {Q : Value → Lo → Hp → Prop} (h : Q (I i) lo H) : Ev c env (.Constant (.int i) k pos) lo H Q :=
  fun _ _ sm hs => wpAny_Constant_int ⟨lo, H, hs.toks _, sm, h⟩
theorem e_none {env : Env} {k : Nat} {pos : Pos} {Q : Value → Lo → Hp → Prop} (h : Q .none lo H) : Ev c env (.Constant .none k pos) lo H Q :=
  fun _ _ sm hs => Constant_none ⟨lo, H, hs, sm, h⟩
theorem e_bool {env : Env} {b : Bool} {k : Nat} {pos : Pos} {Q : Value → Lo → Hp → Prop} (h : Q (.bool b) lo H) : Ev c env (.Constant (.bool b) k pos) lo H Q :=
  fun _ _ sm hs => Constant_bool ⟨lo, H, hs, sm, h⟩
theorem e_str {env : Env} {x : Str} {k : Nat} {pos : Pos} {Q : Value → Lo → Hp → Prop} (h : Q (.str x 0) lo H) : Ev c env (.Constant (.str x) k pos) lo H Q :=
  fun _ _ sm hs => show wpAny _ _ (mkText x) _ _ _ from wpAny_mkText ⟨lo, H, hs.toks _, sm, h⟩

section
variable {nm : Str} {sc : Scope} {fa : Addr} {cd : Value} {cl : List (Str × Addr)} {x : Str} {pos : Pos}
theorem e_loc {v : Value} {Q : Value → Lo → Hp → Prop} (hv : GetF lo x v) (h : Q v lo H)
    (hk : sc.kind = .function := by rfl) (hl : (envX nm sc L fa cd cl).kindOf x = some .local := by rfl) (hd : (x == ("__debug__" : Str)) = false := by decide) : Ev c (envX nm sc L fa cd cl) (.Name x pos) lo H Q :=
  fun _ _ sm hs => by
    obtain ⟨m, F, hl'⟩ := hs.fr
    obtain ⟨v', a, b⟩ := hl' _ _ hv.lookup
    exact nameX_L F a ⟨lo, H, hs, sm, by show Q (er v') _ _; rw [b]; exact h⟩ hk hl hd
theorem e_glob {v : Value} {Q : Value → Lo → Hp → Prop} (e : nsIn g.K mainGlobals x = some (some v)) (h : Q (er v) lo H)
    (hk : sc.kind = .function := by rfl) (hx : (envX nm sc L fa cd cl).kindOf x = some .globalImplicit := by rfl) (hd : (x == ("__debug__" : Str)) = false := by decide) : Ev c (envX nm sc L fa cd cl) (.Name x pos) lo H Q :=
  fun _ _ sm hs => by
    obtain ⟨m, F, hl'⟩ := hs.fr
    exact nameX_K F c.X c.T e ⟨lo, H, hs, sm, h⟩ hk hx hd
theorem e_boot {v : Value} {Q : Value → Lo → Hp → Prop} (e : nsIn g.K mainGlobals x = some none) (hv : bootBuiltins x = some v) (hn : x ≠ "__name__") (h : Q (er v) lo H)
    (hk : sc.kind = .function := by rfl) (hx : (envX nm sc L fa cd cl).kindOf x = some .globalImplicit := by rfl) (hd : (x == ("__debug__" : Str)) = false := by decide) : Ev c (envX nm sc L fa cd cl) (.Name x pos) lo H Q :=
  fun _ _ sm hs => by
    obtain ⟨m, F, hl'⟩ := hs.fr
    exact nameX_B F c.X c.T e hv hn ⟨lo, H, hs, sm, h⟩ hk hx hd

theorem LoR.put {lo lo' : Lo} {m : Str → Option Value} {v : Value} (h : LoR lo m) (p : PutF x (er v) lo lo') : LoR lo' (fun y => if y = x then some v else m y) := by
  intro y u e
  rw [p.lookup] at e
  by_cases q : y = x
  · rw [if_pos q] at e; cases e; exact ⟨v, if_pos q, rfl⟩
  · rw [if_neg q] at e; obtain ⟨v', a, b⟩ := h _ _ e; exact ⟨v', (if_neg q).trans a, b⟩
theorem store_ {v : Value} {lo' : Lo} {Q : Unit → Lo → Hp → Prop} (p : PutF x (er v) lo lo') (h : Q () lo' H)
    (hk : sc.kind = .function := by rfl) (hl : (envX nm sc L fa cd cl).kindOf x = some .local := by rfl) : W c (storeName (envX nm sc L fa cd cl) x v) lo H Q :=
  fun s0 s sm hs => by
    obtain ⟨m, raw, F, hl', hr, N, nd⟩ := hs
    exact storeX_L F N (fun h' F' N' => ⟨lo', H, ⟨_, raw, F', hl'.put p, hr, N', nd⟩, sm, h⟩) hk hl
theorem loadName_ {v : Value} {Q : Value → Lo → Hp → Prop} (hv : GetF lo x v) (h : Q v lo H)
    (hk : sc.kind = .function := by rfl) (hl : (envX nm sc L fa cd cl).kindOf x = some .local := by rfl) : W c (loadName (envX nm sc L fa cd cl) x) lo H (EQ Q) :=
  fun _ _ sm hs => by
    obtain ⟨m, F, hl'⟩ := hs.fr
    obtain ⟨v', a, b⟩ := hl' _ _ hv.lookup
    exact wpAny_loadName_local hk hl F.ns a ⟨lo, H, hs, sm, by show Q (er v') _ _; rw [b]; exact h⟩
end

/-! statements -/
section
variable {env : Env} {N : Lo → Hp → Prop} {R : Value → Hp → Prop}
theorem x_nil (h : N lo H) : X c env [] lo H N R := fun _ _ sm hs => wpAny_execs_nil ⟨lo, H, hs, sm, h⟩
theorem x_cons {st : Stmt} {ss : List Stmt} (h : X1 c env st lo H (fun lo H => X c env ss lo H N R) R) : X c env (st :: ss) lo H N R :=
  fun s0 s sm hs => wpAny_execs_cons (wpAny_mono (h s0 s sm hs) (fun f s1 ⟨lo1, H1, a, b, q⟩ => by
    cases f with
    | next => exact q s0 s1 b a
    | ret v => exact ⟨lo1, H1, a, b, q⟩
    | brk => exact q.elim
    | cont => exact q.elim) fun _ _ x => x)
theorem x_ret {e : Expr} {pos : Pos} (h : Ev c env e lo H fun v _ H => R v H) : X1 c env (.Return (some e) pos) lo H N R :=
  fun s0 s sm hs => wpAny_Return_some (h s0 s sm hs)
theorem x_ret0 {pos : Pos} (h : R .none H) : X1 c env (.Return none pos) lo H N R :=
  fun _ _ sm hs => wpAny_Return_none ⟨lo, H, hs, sm, h⟩
theorem x_expr {e : Expr} {pos : Pos} (h : Ev c env e lo H fun _ lo H => N lo H) (hi : interactive env = false := by rfl) (hsw : swapsWith e none pos.line env = pure false := by rfl) : X1 c env (.Expr e pos) lo H N R :=
  fun s0 s sm hs => wpAny_Expr_any (h s0 s sm hs) hi hsw
theorem x_if {test : Expr} {body orelse : List Stmt} {pos : Pos} (h : Te c env test lo H fun b lo H => Ite b (X c env body lo H N R) (X c env orelse lo H N R)) : X1 c env (.If test body orelse pos) lo H N R :=
  fun s0 s sm hs => wpAny_If (wpAny_mono (h s0 s sm hs) (fun b s1 ⟨_, _, a, d, q⟩ => by
    cases b with
    | true => exact q.1 rfl s0 s1 d a
    | false => exact q.2 rfl s0 s1 d a) fun _ _ x => x)
theorem x_name {nm : Str} {sc : Scope} {fa : Addr} {cd : Value} {cl : List (Str × Addr)} {x : Str} {e : Expr} {p1 pos : Pos} (h : Ev c (envX nm sc L fa cd cl) e lo H fun v lo H => ∃ lo', PutF x v lo lo' ∧ N lo' H)
    (hk : sc.kind = .function := by rfl) (hl : (envX nm sc L fa cd cl).kindOf x = some .local := by rfl)
    (hsw : swapsWith e (some (.Name x p1)) pos.line (envX nm sc L fa cd cl) = pure false := by rfl) : X1 c (envX nm sc L fa cd cl) (.Assign [.Name x p1] e pos) lo H N R :=
  fun s0 s sm hs => wpAny_Assign_Name (W.app (Q := fun _ => N) (k := fun v => storeName (envX nm sc L fa cd cl) x v) (W.mono h fun v lo H ⟨lo', p, n⟩ => store_ p n hk hl) sm hs) hsw
theorem x_attr {o e : Expr} {attr : Str} {p1 pos : Pos} (h : Ev c env e lo H fun v lo H => Ev c env o lo H fun ov lo H => L2 c (fun ov v => setAttr ov attr v) ov v lo H fun _ => N)
    (hsw : swapsWith e (some (.Attribute o attr p1)) pos.line env = pure false := by rfl) : X1 c env (.Assign [.Attribute o attr p1] e pos) lo H N R :=
  fun s0 s sm hs => plainObj_wpAny_Assign_Attribute (wpAny_mono (h s0 s sm hs) (fun v s1 ⟨_, _, a, b, q⟩ => wpAny_mono (q s0 s1 b a) (fun ov s2 ⟨_, _, a, b, q⟩ => q ov v rfl rfl s0 s2 b a) fun _ _ x => x) fun _ _ x => x) hsw
theorem x_sub {o i e : Expr} {p1 pos : Pos} (h : Ev c env e lo H fun v lo H => Ev c env o lo H fun ov lo H => Ev c env i lo H fun iv lo H => L3 c setItem ov iv v lo H fun _ => N)
    (hsw : swapsWith e (some (.Subscript o i p1)) pos.line env = pure false := by rfl) : X1 c env (.Assign [.Subscript o i p1] e pos) lo H N R :=
  fun s0 s sm hs => wpAny_Assign_Subscript (wpAny_mono (h s0 s sm hs) (fun v s1 ⟨_, _, a, b, q⟩ => wpAny_mono (q s0 s1 b a) (fun ov s2 ⟨_, _, a, b, q⟩ => wpAny_mono (q s0 s2 b a) (fun iv s3 ⟨_, _, a, b, q⟩ =>
    q ov iv v rfl rfl rfl s0 s3 b a) fun _ _ x => x) fun _ _ x => x) fun _ _ x => x) hsw
theorem x_augname {nm : Str} {sc : Scope} {fa : Addr} {cd : Value} {cl : List (Str × Addr)} {x : Str} {op : Operator} {e : Expr} {p1 pos : Pos} {old : Value} (hv : GetF lo x old)
    (h : Ev c (envX nm sc L fa cd cl) e lo H fun v lo H => L2 c (inplaceOp op) old v lo H (EQ fun v lo H => ∃ lo', PutF x v lo lo' ∧ N lo' H))
    (hk : sc.kind = .function := by rfl) (hl : (envX nm sc L fa cd cl).kindOf x = some .local := by rfl) : X1 c (envX nm sc L fa cd cl) (.AugAssign (.Name x p1) op e pos) lo H N R :=
  fun s0 s sm hs => wpAny_AugAssign_Name (wpAny_mono (loadName_ (c := c) (Q := fun o lo' H' => o = old ∧ lo' = lo ∧ H' = H) hv ⟨rfl, rfl, rfl⟩ hk hl s0 s sm hs) (fun o s1 ⟨_, _, a, b, q⟩ => by
    obtain ⟨q, rfl, rfl⟩ := q
    exact wpAny_mono (h s0 s1 b a) (fun v s2 ⟨_, _, a, b, q2⟩ => wpAny_mono (q2 o v q rfl s0 s2 b a) (fun r s3 ⟨_, _, a, b, lo', p, n⟩ => store_ (c := c) (Q := fun _ => N) p n hk hl s0 s3 b a) fun _ _ x => x) fun _ _ x => x) fun _ _ x => x)
theorem x_augattr {o e : Expr} {attr : Str} {op : Operator} {p1 pos : Pos}
    (h : Ev c env o lo H fun ov lo H => L1 c (fun ov => getAttr ov attr true) ov lo H (EQ fun old lo H => Ev c env e lo H fun v lo H => L2 c (inplaceOp op) old v lo H (EQ fun new lo H =>
      L2 c (fun ov v => setAttr ov attr v) ov new lo H fun _ => N))) : X1 c env (.AugAssign (.Attribute o attr p1) op e pos) lo H N R :=
  fun s0 s sm hs => wpAny_AugAssign_AttributeAny (wpAny_mono (h s0 s sm hs) (fun ov s1 ⟨_, _, a, b, q⟩ => wpAny_mono (q ov rfl s0 s1 b a) (fun old s2 ⟨_, _, a, b, q⟩ => wpAny_mono (q s0 s2 b a) (fun v s3 ⟨_, _, a, b, q⟩ =>
    wpAny_mono (q old v rfl rfl s0 s3 b a) (fun new s4 ⟨_, _, a, b, q⟩ => q ov new rfl rfl s0 s4 b a) fun _ _ x => x) fun _ _ x => x) fun _ _ x => x) fun _ _ x => x)
theorem x_augsub {o i e : Expr} {op : Operator} {p1 pos : Pos}
    (h : Ev c env o lo H fun ov lo H => Ev c env i lo H fun iv lo H => L2 c getItem ov iv lo H (EQ fun old lo H => Ev c env e lo H fun v lo H => L2 c (inplaceOp op) old v lo H (EQ fun new lo H =>
      L3 c setItem ov iv new lo H fun _ => N)))
    (hi : ∀ ov iv new, augStore i ov iv new = (do holding [new, ov, iv] (setItem ov iv new); release [new, ov, iv] []; pure .next) := by intros; rfl) : X1 c env (.AugAssign (.Subscript o i p1) op e pos) lo H N R :=
  fun s0 s sm hs => wpAny_AugAssign_SubscriptAny (wpAny_mono (h s0 s sm hs) (fun ov s1 ⟨_, _, a, b, q⟩ => wpAny_mono (q s0 s1 b a) (fun iv s2 ⟨_, _, a, b, q⟩ => wpAny_mono (q ov iv rfl rfl s0 s2 b a) (fun old s3 ⟨_, _, a, b, q⟩ =>
    wpAny_mono (q s0 s3 b a) (fun v s4 ⟨_, _, a, b, q⟩ => wpAny_mono (q old v rfl rfl s0 s4 b a) (fun new s5 ⟨_, _, a, b, q⟩ => q ov iv new rfl rfl rfl s0 s5 b a) fun _ _ x => x) fun _ _ x => x) fun _ _ x => x) fun _ _ x => x) fun _ _ x => x) hi
end

/-! expressions -/
section
variable {env : Env} {Q : Value → Lo → Hp → Prop} {QB : Bool → Lo → Hp → Prop} {pos : Pos}
theorem e_bin {l r : Expr} {op : Operator} (h : Ev c env l lo H fun a lo H => Ev c env r lo H fun b lo H => L2 c (binaryOp op) a b lo H (EQ Q)) : Ev c env (.BinOp l op r pos) lo H Q :=
  fun s0 s sm hs => wpAny_BinOp (wpAny_mono (h s0 s sm hs) (fun v s1 ⟨_, _, a, b, q⟩ => wpAny_mono (q s0 s1 b a) (fun w s2 ⟨_, _, a, b, q⟩ => q v w rfl rfl s0 s2 b a) fun _ _ x => x) fun _ _ x => x)
theorem e_cmp {l r : Expr} {op : CmpOp} (h : Ev c env l lo H fun a lo H => Ev c env r lo H fun b lo H => L2 c (compareOp op) a b lo H (EQ Q)) (hm : behindInMarks op r = false := by with_unfolding_all rfl) :
    Ev c env (.Compare l [op] [r] pos) lo H Q :=
  fun s0 s sm hs => wpAny_Compare1 (wpAny_mono (h s0 s sm hs) (fun v s1 ⟨_, _, a, b, q⟩ => wpAny_mono (q s0 s1 b a) (fun w s2 ⟨_, _, a, b, q⟩ => q v w rfl rfl s0 s2 b a) fun _ _ x => x) fun _ _ x => x) hm
theorem t_cmp {l r : Expr} {op : CmpOp} (h : Ev c env l lo H fun a lo H => Ev c env r lo H fun b lo H => L2 c (compareOp op) a b lo H (EQ fun d lo H => L1 c truthy d lo H QB))
    (hm : behindInMarks op r = false := by with_unfolding_all rfl) : Te c env (.Compare l [op] [r] pos) lo H QB :=
  fun s0 s sm hs => wpAny_isTrue_Compare1 (wpAny_mono (h s0 s sm hs) (fun v s1 ⟨_, _, a, b, q⟩ => wpAny_mono (q s0 s1 b a) (fun w s2 ⟨_, _, a, b, q⟩ => wpAny_mono (q v w rfl rfl s0 s2 b a)
    (fun d s3 ⟨_, _, a, b, q⟩ => q d rfl s0 s3 b a) fun _ _ x => x) fun _ _ x => x) fun _ _ x => x) hm
theorem t_not {x : Expr} (h : Te c env x lo H fun b lo H => QB (!b) lo H) : Te c env (.UnaryOp .Not x pos) lo H QB :=
  fun s0 s sm hs => isTrue_not (h s0 s sm hs)
theorem t_and1 {x : Expr} (h : Te c env x lo H QB) : Te c env (.BoolOp .And [x] pos) lo H QB :=
  fun s0 s sm hs => isTrue_and (wpAny_mono (h s0 s sm hs) (fun b s1 q => by cases b with | true => exact isTrue_and_nil q | false => exact q) fun _ _ x => x)
theorem t_or1 {x : Expr} (h : Te c env x lo H QB) : Te c env (.BoolOp .Or [x] pos) lo H QB :=
  fun s0 s sm hs => isTrue_or (wpAny_mono (h s0 s sm hs) (fun b s1 q => by cases b with | false => exact isTrue_or_nil q | true => exact q) fun _ _ x => x)
theorem t_rest {op : BoolOp} {l : List Expr} {whole whole' : Sem Value} (h : W c (isTrue (.BoolOp op l pos) env whole) lo H QB) : W c (isTrue (.BoolOp op l pos) env whole') lo H QB := h
theorem t_and {x y : Expr} {rest : List Expr} (h : Te c env x lo H fun b lo H => Ite b (Te c env (.BoolOp .And (y :: rest) pos) lo H QB) (QB false lo H)) : Te c env (.BoolOp .And (x :: y :: rest) pos) lo H QB :=
  fun s0 s sm hs => isTrue_and (wpAny_mono (h s0 s sm hs) (fun b s1 ⟨_, _, a, d, q⟩ => by
    cases b with
    | true => exact t_rest (c := c) (q.1 rfl) s0 s1 d a
    | false => exact ⟨_, _, a, d, q.2 rfl⟩) fun _ _ x => x)
theorem t_or {x y : Expr} {rest : List Expr} (h : Te c env x lo H fun b lo H => Ite b (QB true lo H) (Te c env (.BoolOp .Or (y :: rest) pos) lo H QB)) : Te c env (.BoolOp .Or (x :: y :: rest) pos) lo H QB :=
  fun s0 s sm hs => isTrue_or (wpAny_mono (h s0 s sm hs) (fun b s1 ⟨_, _, a, d, q⟩ => by
    cases b with
    | false => exact t_rest (c := c) (q.2 rfl) s0 s1 d a
    | true => exact ⟨_, _, a, d, q.1 rfl⟩) fun _ _ x => x)
theorem t_plain {e : Expr} (h : Ev c env e lo H fun v lo H => L1 c truthy v lo H QB) (he : ∀ whole, isTrue e env whole = (do let v ← whole; standAt e.pos; holding [v] (truthy v)) := by intro _; rfl) : Te c env e lo H QB :=
  fun s0 s sm hs => isTrue_plain (W.app (app1 h) sm hs) (he _)
theorem e_and1 {x : Expr} {op : BoolOp} (h : Ev c env x lo H Q) : Ev c env (.BoolOp op [x] pos) lo H Q := fun s0 s sm hs => BoolOp_one (h s0 s sm hs)
theorem e_and {x y : Expr} {rest : List Expr} (h : Ev c env x lo H fun v lo H => L1 c truthy v lo H fun b lo H => Ite b (Ev c env (.BoolOp .And (y :: rest) pos) lo H Q) (Q v lo H)) : Ev c env (.BoolOp .And (x :: y :: rest) pos) lo H Q :=
  fun s0 s sm hs => BoolOp_and (wpAny_mono (h s0 s sm hs) (fun v s1 ⟨_, _, a, d, q⟩ => wpAny_mono (q v rfl s0 s1 d a) (fun b s2 ⟨_, _, a, d, q⟩ => by
    cases b with
    | true => exact q.1 rfl s0 s2 d a
    | false => exact ⟨_, _, a, d, q.2 rfl⟩) fun _ _ x => x) fun _ _ x => x)
theorem e_or {x y : Expr} {rest : List Expr} (h : Ev c env x lo H fun v lo H => L1 c truthy v lo H fun b lo H => Ite b (Q v lo H) (Ev c env (.BoolOp .Or (y :: rest) pos) lo H Q)) : Ev c env (.BoolOp .Or (x :: y :: rest) pos) lo H Q :=
  fun s0 s sm hs => BoolOp_or (wpAny_mono (h s0 s sm hs) (fun v s1 ⟨_, _, a, d, q⟩ => wpAny_mono (q v rfl s0 s1 d a) (fun b s2 ⟨_, _, a, d, q⟩ => by
    cases b with
    | false => exact q.2 rfl s0 s2 d a
    | true => exact ⟨_, _, a, d, q.1 rfl⟩) fun _ _ x => x) fun _ _ x => x)
theorem e_ife {test a b : Expr} (h : Te c env test lo H fun t lo H => Ite t (Ev c env a lo H Q) (Ev c env b lo H Q)) : Ev c env (.IfExp test a b pos) lo H Q :=
  fun s0 s sm hs => IfExp_ (wpAny_mono (h s0 s sm hs) (fun t s1 ⟨_, _, a, d, q⟩ => by
    cases t with
    | true => exact q.1 rfl s0 s1 d a
    | false => exact q.2 rfl s0 s1 d a) fun _ _ x => x)
theorem e_un {x : Expr} {op : UnaryOp} (h : Ev c env x lo H fun v lo H => L1 c (unaryOp op) v lo H (EQ Q)) : Ev c env (.UnaryOp op x pos) lo H Q :=
  fun s0 s sm hs => UnaryOp_ (W.app (app1 h) sm hs)
theorem t_link {l : Expr} {op op' : CmpOp} {r r' : Expr} (h : Ev c env l lo H fun a lo H => Ev c env r lo H fun b lo H => L2 c (compareOp op) a b lo H (EQ fun d lo H => L1 c truthy d lo H fun t lo H =>
      Ite t (Ev c env r' lo H fun b' lo H => L2 c (compareOp op') b b' lo H (EQ fun d lo H => L1 c truthy d lo H QB)) (QB false lo H)))
    (hm : lastMarks [op, op'] [r, r'] = false := by with_unfolding_all rfl) : Te c env (.Compare l [op, op'] [r, r'] pos) lo H QB :=
  fun s0 s sm hs => isTrue_chain (wpAny_mono (h s0 s sm hs) (fun v s1 ⟨_, _, a, d, q⟩ => by
    refine wpAny_bind (wpAny_holding (wpAny_mono (q s0 s1 d a) (fun w s2 ⟨_, _, a, d, q⟩ => ?_) fun _ _ x => x))
    refine wpAny_bind (wpAny_standAt (wpAny_bind (wpAny_holding (wpAny_mono (q v w rfl rfl s0 s2 d a) (fun x s3 ⟨_, _, a, d, q⟩ => ?_) fun _ _ x => x))))
    refine wpAny_bind (wpAny_release (wpAny_bind (wpAny_holding (wpAny_mono (q x rfl s0 s3 d a) (fun t s4 ⟨_, _, a, d, q⟩ => ?_) fun _ _ x => x))))
    cases t with
    | false => exact wpAny_pure ⟨_, _, a, d, q.2 rfl⟩
    | true =>
      refine wpAny_bind (wpAny_holding (wpAny_mono (q.1 rfl s0 s4 d a) (fun y s5 ⟨_, _, a, d, q⟩ => ?_) fun _ _ x => x))
      refine wpAny_bind (wpAny_standAt (wpAny_bind (wpAny_operateT (wpAny_mono (q w y rfl rfl s0 s5 d a) (fun z s6 ⟨_, _, a, d, q⟩ => ?_) fun _ _ x => x))))
      exact wpAny_holding (q z rfl s0 s6 d a)) fun _ _ x => x) hm
end

/-! ints, bools, None -/
section
variable {Q : Value → Lo → Hp → Prop} {QB : Bool → Lo → Hp → Prop} {i j : Int}
theorem o_add (h : Q (I (i + j)) lo H) : L2 c (binaryOp .Add) (I i) (I j) lo H (EQ Q) := fun v w ev ew s0 s sm hs => by
  obtain ⟨t, rfl⟩ := er_int ev; obtain ⟨u, rfl⟩ := er_int ew
  exact add_int ⟨lo, H, hs.toks _, sm, h⟩
theorem o_sub (h : Q (I (i - j)) lo H) : L2 c (binaryOp .Sub) (I i) (I j) lo H (EQ Q) := fun v w ev ew s0 s sm hs => by
  obtain ⟨t, rfl⟩ := er_int ev; obtain ⟨u, rfl⟩ := er_int ew
  exact sub_int ⟨lo, H, hs.toks _, sm, h⟩
theorem o_mod (hj : j ≠ 0) (h : Q (I (i.fmod j)) lo H) : L2 c (binaryOp .Mod) (I i) (I j) lo H (EQ Q) := fun v w ev ew s0 s sm hs => by
  obtain ⟨t, rfl⟩ := er_int ev; obtain ⟨u, rfl⟩ := er_int ew
  exact mod_int hj ⟨lo, H, hs.toks _, sm, h⟩
theorem o_div (hj : j ≠ 0) (hl : j.natAbs.log2 < 9000) (h : Q (I (i.fdiv j)) lo H) : L2 c (binaryOp .FloorDiv) (I i) (I j) lo H (EQ Q) := fun v w ev ew s0 s sm hs => by
  obtain ⟨t, rfl⟩ := er_int ev; obtain ⟨u, rfl⟩ := er_int ew
  exact floordiv_int hj ⟨lo, H, hs.toks _, sm, h⟩ (.inl (PyProof.noPylong_of_log2 hl))
theorem o_and (h : Q (I (Builtin.bitAnd i j)) lo H) : L2 c (binaryOp .BitAnd) (I i) (I j) lo H (EQ Q) := fun v w ev ew s0 s sm hs => by
  obtain ⟨t, rfl⟩ := er_int ev; obtain ⟨u, rfl⟩ := er_int ew
  exact and_int ⟨lo, H, hs.toks _, sm, h⟩
theorem o_pow (hn : 0 ≤ j) (hsz : (Builtin.Int.intBits i : Int) * j ≤ 2 ^ 27) (h : Q (I (i ^ j.toNat)) lo H) : L2 c (binaryOp .Pow) (I i) (I j) lo H (EQ Q) := fun v w ev ew s0 s sm hs => by
  obtain ⟨t, rfl⟩ := er_int ev; obtain ⟨u, rfl⟩ := er_int ew
  exact pow_int hn hsz ⟨lo, H, hs.toks _, sm, h⟩
theorem o_iadd (h : Q (I (i + j)) lo H) : L2 c (inplaceOp .Add) (I i) (I j) lo H (EQ Q) := fun v w ev ew s0 s sm hs => by
  obtain ⟨t, rfl⟩ := er_int ev; obtain ⟨u, rfl⟩ := er_int ew
  exact PyProof.Rows.iadd_int ⟨lo, H, hs.toks _, sm, h⟩
theorem o_isub (h : Q (I (i - j)) lo H) : L2 c (inplaceOp .Sub) (I i) (I j) lo H (EQ Q) := fun v w ev ew s0 s sm hs => by
  obtain ⟨t, rfl⟩ := er_int ev; obtain ⟨u, rfl⟩ := er_int ew
  exact PyProof.Rows.isub_int ⟨lo, H, hs.toks _, sm, h⟩
theorem o_neg (h : Q (I (-i)) lo H) : L1 c (unaryOp .USub) (I i) lo H (EQ Q) := fun v ev s0 s sm hs => by
  obtain ⟨t, rfl⟩ := er_int ev
  exact PyProof.Rows.neg_int ⟨lo, H, hs.toks _, sm, h⟩
theorem o_lt (h : Q (.bool (decide (i < j))) lo H) : L2 c (compareOp .Lt) (I i) (I j) lo H (EQ Q) := fun v w ev ew s0 s sm hs => by
  obtain ⟨t, rfl⟩ := er_int ev; obtain ⟨u, rfl⟩ := er_int ew
  exact lt_int ⟨lo, H, hs, sm, h⟩
theorem o_le (h : Q (.bool (decide (i ≤ j))) lo H) : L2 c (compareOp .LtE) (I i) (I j) lo H (EQ Q) := fun v w ev ew s0 s sm hs => by
  obtain ⟨t, rfl⟩ := er_int ev; obtain ⟨u, rfl⟩ := er_int ew
  exact le_int ⟨lo, H, hs, sm, h⟩
theorem o_gt (h : Q (.bool (decide (j < i))) lo H) : L2 c (compareOp .Gt) (I i) (I j) lo H (EQ Q) := fun v w ev ew s0 s sm hs => by
  obtain ⟨t, rfl⟩ := er_int ev; obtain ⟨u, rfl⟩ := er_int ew
  exact gt_int ⟨lo, H, hs, sm, h⟩
theorem o_ge (h : Q (.bool (decide (j ≤ i))) lo H) : L2 c (compareOp .GtE) (I i) (I j) lo H (EQ Q) := fun v w ev ew s0 s sm hs => by
  obtain ⟨t, rfl⟩ := er_int ev; obtain ⟨u, rfl⟩ := er_int ew
  exact ge_int ⟨lo, H, hs, sm, h⟩
theorem o_eq (h : Q (.bool (i == j)) lo H) : L2 c (compareOp .Eq) (I i) (I j) lo H (EQ Q) := fun v w ev ew s0 s sm hs => by
  obtain ⟨t, rfl⟩ := er_int ev; obtain ⟨u, rfl⟩ := er_int ew
  exact eq_int ⟨lo, H, hs, sm, h⟩
theorem o_ne (h : Q (.bool (i != j)) lo H) : L2 c (compareOp .NotEq) (I i) (I j) lo H (EQ Q) := fun v w ev ew s0 s sm hs => by
  obtain ⟨t, rfl⟩ := er_int ev; obtain ⟨u, rfl⟩ := er_int ew
  exact ne_int ⟨lo, H, hs, sm, h⟩
theorem o_eqni (h : Q (.bool false) lo H) : L2 c (compareOp .Eq) .none (I j) lo H (EQ Q) := fun v w ev ew s0 s sm hs => by
  obtain rfl := er_none ev; obtain ⟨u, rfl⟩ := er_int ew
  exact PySem.EqNone.eq_none_int ⟨lo, H, hs, sm, h⟩
theorem o_eqin (h : Q (.bool false) lo H) : L2 c (compareOp .Eq) (I i) .none lo H (EQ Q) := fun v w ev ew s0 s sm hs => by
  obtain ⟨t, rfl⟩ := er_int ev; obtain rfl := er_none ew
  exact PySem.EqNone.eq_int_none ⟨lo, H, hs, sm, h⟩
theorem o_eqnn (h : Q (.bool true) lo H) : L2 c (compareOp .Eq) .none .none lo H (EQ Q) := fun v w ev ew s0 s sm hs => by
  obtain rfl := er_none ev; obtain rfl := er_none ew
  exact PySem.EqNone.eq_none_none ⟨lo, H, hs, sm, h⟩
theorem o_nebb {a b : Bool} (h : Q (.bool (a != b)) lo H) : L2 c (compareOp .NotEq) (.bool a) (.bool b) lo H (EQ Q) := fun v w ev ew s0 s sm hs => by
  obtain rfl := er_bool ev; obtain rfl := er_bool ew
  exact ne_bool ⟨lo, H, hs, sm, h⟩
theorem o_isin (h : Q (.bool false) lo H) : L2 c (compareOp .Is) (I i) .none lo H (EQ Q) := fun v w ev ew s0 s sm hs => by
  obtain ⟨t, rfl⟩ := er_int ev; obtain rfl := er_none ew
  exact is_int_none ⟨lo, H, hs, sm, h⟩
theorem o_isnn (h : Q (.bool true) lo H) : L2 c (compareOp .Is) .none .none lo H (EQ Q) := fun v w ev ew s0 s sm hs => by
  obtain rfl := er_none ev; obtain rfl := er_none ew
  exact is_none_none ⟨lo, H, hs, sm, h⟩
theorem o_isnotin (h : Q (.bool true) lo H) : L2 c (compareOp .IsNot) (I i) .none lo H (EQ Q) := fun v w ev ew s0 s sm hs => by
  obtain ⟨t, rfl⟩ := er_int ev; obtain rfl := er_none ew
  exact isnot_int_none ⟨lo, H, hs, sm, h⟩
theorem o_isnotnn (h : Q (.bool false) lo H) : L2 c (compareOp .IsNot) .none .none lo H (EQ Q) := fun v w ev ew s0 s sm hs => by
  obtain rfl := er_none ev; obtain rfl := er_none ew
  exact isnot_none_none ⟨lo, H, hs, sm, h⟩
theorem o_tb {b : Bool} (h : QB b lo H) : L1 c truthy (.bool b) lo H QB := fun v ev s0 s sm hs => by
  obtain rfl := er_bool ev
  exact wpAny_truthy_bool ⟨lo, H, hs, sm, h⟩
end
end Mine

namespace Mine
variable {g : Gd} {L : Addr} {c : Cx g L} {lo : Lo} {H H' : Hp}

theorem Cx.u (c : Cx g L) : c.A.units + 64 < cLine := by have := c.hu; unfold cLine; omega
theorem Cx.u1 (c : Cx g L) : c.A.units < cLine := by have := c.hu; unfold cLine; omega

theorem St.put {s : Shared} {a : Addr} {ao ao' : AO} (hs : St c lo H s) (hp : Put a ao ao' H H') :
    ∃ x, s.heap.get? a = some x ∧ ao.Is g x ∧ ∀ h' t' x', Heap.SameBut a s.heap h' → h'.get? a = some x' → ao'.Is g x' → St c lo H' { s with heap := h', toks := t' } := by
  obtain ⟨m, pre, x, post, F, hl, N, hx, h1, h2, k⟩ := hs.upd hp
  have z := N (a, x) (List.mem_append.mpr (.inr (.head _)))
  exact ⟨x, z.1, hx, fun h' t' x' sb hg hx' => k h' t' x' (F.change sb z.2.1 z.2.2) (news_set N h1 h2 sb hg) hx'⟩
theorem St.add {s : Shared} (hs : St c lo H s) {x : Obj} {ao : AO} (hx : ao.Is g x) (hf : x.isFreed = false) (t' : Nat) : St c lo ((s.heap.objs.size, ao) :: H) { s with heap := s.heap.push x, toks := t' } := by
  obtain ⟨m, raw, F, hl, N, k⟩ := hs.new
  exact k _ t' _ x ao (F.push x) (N.push F x hf) (Nat.le_refl _) hx

/-! attribute dicts -/
theorem entry_isStr {P : Params} {e : DictEntry} {f : Str × Value} (h : EntryIs P e f) (x : Str) : e.key.isStr x = decide (f.1 = x) := by
  obtain ⟨⟨t, hk⟩, _⟩ := h
  rw [hk]; show (f.1 == x) = _
  by_cases q : f.1 = x
  · rw [q]; simp
  · rw [beq_eq_false_iff_ne.mpr q, decide_eq_false q]
theorem getL_of {P : Params} {x : Str} {v : Value} : ∀ {es : List DictEntry} {fs : List (Str × Value)}, All2 (EntryIs P) es fs → GetF fs x v → ∃ v', getL x es = some (some v') ∧ er v' = v := by
  intro es fs h q
  unfold getL
  induction h with
  | nil => cases q
  | @cons e f es fs he _ ih =>
    rw [List.find?_cons, entry_isStr he]
    cases q with
    | here => rw [decide_eq_true rfl]; exact ⟨e.val, rfl, he.2.2⟩
    | there hn q =>
      rw [decide_eq_false hn]
      obtain ⟨v', a, b⟩ := ih q
      refine ⟨v', ?_, b⟩
      dsimp only
      cases hf : es.find? (fun x_1 => x_1.key.isStr x) with
      | some y => rw [hf] at a; exact a
      | none => rw [hf] at a; dsimp only at a; split at a <;> cases a
theorem noRef_of {P : Params} {es : List DictEntry} {fs : List (Str × Value)} (h : All2 (EntryIs P) es fs) : es.any (·.refKey) = false := by
  induction h with
  | nil => rfl
  | @cons e f es fs he _ ih =>
    rw [List.any_cons, ih, Bool.or_false]
    obtain ⟨⟨t, hk⟩, _⟩ := he
    unfold DictEntry.refKey; rw [hk]
theorem getL_some {P : Params} {x : Str} {es : List DictEntry} {fs : List (Str × Value)} (h : All2 (EntryIs P) es fs) : (getL x es).isSome = true := by
  unfold getL
  cases es.find? (·.key.isStr x) with
  | some _ => rfl
  | none => dsimp only; rw [noRef_of h]; rfl
theorem putL_of {P : Params} {x : Str} {v : Value} {t : Tok} {fs' : List (Str × Value)} : ∀ {es : List DictEntry} {fs : List (Str × Value)}, All2 (EntryIs P) es fs → PutF x (er v) fs fs' →
    All2 (EntryIs P) (putL x (PyData.keyHash P x) (.str x t) v es) fs' := by
  intro es fs h
  induction h generalizing fs' with
  | nil => intro q; cases q with | nil => exact .cons ⟨⟨t, rfl⟩, rfl, rfl⟩ .nil
  | @cons e f es fs he hr ih =>
    intro q
    unfold putL
    rw [entry_isStr he]
    cases q with
    | here => rw [decide_eq_true rfl, if_pos rfl]; exact .cons ⟨he.1, he.2.1, rfl⟩ hr
    | there hn q => rw [decide_eq_false hn, if_neg (by decide)]; exact .cons he (ih q)
theorem all2_len {α β : Type} {R : α → β → Prop} {l : List α} {m : List β} (h : All2 R l m) : l.length = m.length := by
  induction h with
  | nil => rfl
  | cons _ _ ih => rw [List.length_cons, List.length_cons, ih]
theorem handed_er (v : Value) : handedIn (er v) = handedIn v := by cases v <;> rfl

structure FieldOk (K : Frag) (C : Addr) (x : Str) : Prop where
  get : plainGet K C x = true
  has : hasDictIn K C = true
  own : findIn K (.ref C) x = some none
structure StoreOk (K : Frag) (C : Addr) (x : Str) : Prop where
  set : findIn K (.ref C) "__setattr__" = some (some (.builtin "object.__setattr__"))
  over : plainOver K C = true
  has : hasDictIn K C = true
  own : takerIn K C x = some none

theorem o_attr {a C dx : Addr} {fs : List (Str × Value)} {x : Str} {v : Value} {ex : Bool} {Q : Value → Lo → Hp → Prop} (h1 : (a, .inst C dx) ∈ H) (h2 : (dx, .dict fs) ∈ H) (q : GetF fs x v) (ok : FieldOk g.K C x)
    (hv : handedIn v = true) (h : Q v lo H) : L1 c (fun o => getAttr o x ex) (.ref a) lo H (EQ Q) := fun o eo s0 s sm hs => by
  obtain rfl := er_ref eo
  obtain ⟨m, F, _⟩ := hs.fr
  obtain ⟨es, n, hd, hes⟩ := hs.dict h2
  obtain ⟨v', e1, rfl⟩ := getL_of hes q
  exact get_own F c.X ⟨hs.inst h1, rfl, rfl, hd⟩ ok.get ok.has ok.own rfl e1 (by rw [← handed_er]; exact hv) ⟨lo, H, hs.toks _, sm, h⟩
theorem e_attr {nm : Str} {sc : Scope} {fa : Addr} {cd : Value} {cl : List (Str × Addr)} {x : Str} {attr : Str} {p pos : Pos} {a C dx : Addr} {fs : List (Str × Value)} {v : Value} {Q : Value → Lo → Hp → Prop} (h0 : GetF lo x (.ref a)) (h1 : (a, .inst C dx) ∈ H) (h2 : (dx, .dict fs) ∈ H)
    (q : GetF fs attr v) (ok : FieldOk g.K C attr) (hv : handedIn v = true) (h : Q v lo H)
    (hk : sc.kind = .function := by rfl) (hl : (envX nm sc L fa cd cl).kindOf x = some .local := by rfl) (hd : (x == ("__debug__" : Str)) = false := by decide) : Ev c (envX nm sc L fa cd cl) (.Attribute (.Name x p) attr pos) lo H Q :=
  fun s0 s sm hs => Attribute_name (W.app (app1 (e_loc (Q := fun o lo H => L1 c (fun o => getAttr o attr true) o lo H (EQ Q)) h0 (o_attr h1 h2 q ok hv h) hk hl hd)) sm hs)
theorem o_setattr {a C dx : Addr} {fs fs' : List (Str × Value)} {x : Str} {v : Value} {N : Lo → Hp → Prop} (h1 : (a, .inst C dx) ∈ H) (q : PutF x v fs fs') (p : Put dx (.dict fs) (.dict fs') H H') (ok : StoreOk g.K C x)
    (hz : fs'.length ≤ 1000) (h : N lo H') : L2 c (fun o v => setAttr o x v) (.ref a) v lo H (fun _ => N) := fun o w eo ew s0 s sm hs => by
  obtain rfl := er_ref eo
  subst ew
  obtain ⟨m, pre, od, post, F, hl, N, ⟨es, n, rfl, hes⟩, i1, i2, k⟩ := hs.upd p
  have D := (N (dx, dictOf es n) (List.mem_append.mpr (.inr (.head _)))).1
  have p2 := putL_of (P := g.w.params) (x := x) (v := w) (t := s.toks + 1) hes q
  refine set_dict F c.X N ⟨hs.inst h1, rfl, rfl, D⟩ rfl ok.set ok.over ok.own ok.has (getL_some hes) rfl (Upd.of_split i1 i2) (by rw [all2_len p2]; exact hz) fun h' F' N' => ⟨lo, H', k h' _ _ F' N' ⟨_, _, rfl, p2⟩, sm, h⟩
where
  Upd.of_split {d : Addr} {o o' : Obj} : ∀ {pre post : List (Addr × Obj)}, (∀ p ∈ pre, p.1 ≠ d) → (∀ p ∈ post, p.1 ≠ d) → Upd d o o' (pre ++ (d, o) :: post) (pre ++ (d, o') :: post)
    | [], _, _, h => .head h
    | p :: _, _, h, h' => .tail (h p (.head _)) (Upd.of_split (fun q hq => h q (.tail _ hq)) h')

/-! list items -/
theorem map_get {its : Array Value} {vs : List Value} (e : its.toList.map er = vs) {k : Nat} {v : Value} (h : vs[k]? = some v) : ∃ y, its[k]? = some y ∧ er y = v := by
  subst e
  rw [List.getElem?_map] at h
  obtain ⟨y, h1, h2⟩ := Option.map_eq_some_iff.mp h
  exact ⟨y, by rw [← Array.getElem?_toList]; exact h1, h2⟩
theorem map_len {its : Array Value} {vs : List Value} (e : its.toList.map er = vs) : its.size = vs.length := by subst e; simp
theorem isl {h : Heap} {a : Addr} {its : Array Value} {n : Nat} (x : h.get? a = some (listOf its n)) : h.IsList a its := ⟨_, x, rfl, n, rfl⟩
theorem o_item {a : Addr} {vs : List Value} {k : Int} {v : Value} {Q : Value → Lo → Hp → Prop} (hm : (a, .list vs) ∈ H) (h0 : 0 ≤ k) (hf : k < 2 ^ 63) (hv : vs[k.toNat]? = some v) (h : Q v lo H) :
    L2 c getItem (.ref a) (I k) lo H (EQ Q) := fun o i eo ei s0 s sm hs => by
  obtain rfl := er_ref eo
  obtain ⟨t, rfl⟩ := er_int ei
  obtain ⟨its, n, hg, e⟩ := hs.list hm
  obtain ⟨y, h1, rfl⟩ := map_get e hv
  exact wpAny_getItem_list (isl hg) h0 hf h1 ⟨lo, H, hs, sm, h⟩
theorem o_tail {a : Addr} {vs : List Value} {k : Int} {v : Value} {ve se : Expr} {Q : Value → Lo → Hp → Prop} (hm : (a, .list vs) ∈ H) (h0 : 0 ≤ k) (hf : k < 2 ^ 63) (hv : vs[k.toNat]? = some v) (h : Q v lo H)
    (hsb : ∀ t, subscripted se false (.ref a) (.int k t) = operate [.ref a, .int k t] (getItem (.ref a) (.int k t)) := by intro _; with_unfolding_all rfl) :
    L2 c (subscriptTail ve se) (.ref a) (I k) lo H (EQ Q) := fun o i eo ei s0 s sm hs => by
  obtain rfl := er_ref eo
  obtain ⟨t, rfl⟩ := er_int ei
  obtain ⟨its, n, hg, e⟩ := hs.list hm
  exact tail_any (isl hg).typeIs slot_list_getitem.lookup (o_item (c := c) hm h0 hf hv h _ _ rfl rfl s0 s sm hs) (hsb t)
theorem e_sub {ve se : Expr} {env : Env} {pos : Pos} {Q : Value → Lo → Hp → Prop} (h : Ev c env ve lo H fun o lo H => Ev c env se lo H fun i lo H => L2 c (subscriptTail ve se) o i lo H (EQ Q)) : Ev c env (.Subscript ve se pos) lo H Q :=
  fun s0 s sm hs => Subscript_ (wpAny_mono (h s0 s sm hs) (fun v s1 ⟨_, _, a, b, q⟩ => wpAny_mono (q s0 s1 b a) (fun w s2 ⟨_, _, a, b, q⟩ => q v w rfl rfl s0 s2 b a) fun _ _ x => x) fun _ _ x => x)
theorem o_tailT {a : Addr} {vs : List Value} {k : Int} {v : Value} {ve se : Expr} {Q : Value → Lo → Hp → Prop} (hm : (a, .tup vs) ∈ H) (h0 : 0 ≤ k) (hf : k < 2 ^ 63) (hv : vs[k.toNat]? = some v) (h : Q v lo H)
    (hsb : ∀ t, subscripted se false (.ref a) (.int k t) = operate [.ref a, .int k t] (getItem (.ref a) (.int k t)) := by intro _; with_unfolding_all rfl) :
    L2 c (subscriptTail ve se) (.ref a) (I k) lo H (EQ Q) := fun o i eo ei s0 s sm hs => by
  obtain rfl := er_ref eo
  obtain ⟨t, rfl⟩ := er_int ei
  obtain ⟨its, n, hg, e⟩ := hs.tup hm
  obtain ⟨y, h1, rfl⟩ := map_get e hv
  have ht : IsTup s.heap a its := ⟨_, hg, rfl, n, rfl⟩
  have hlt : k.toNat < its.size := by
    false_or_by_contra
    rename_i q
    rw [Array.getElem?_eq_none (by omega)] at h1; cases h1
  refine tail_any (T := "tuple") (ht.typeIs) slot_tuple_getitem.lookup (getItem_tuple ht (by omega) hf (PySem.seqIndex_of h0 (by omega)) h1 ⟨lo, H, hs, sm, h⟩) (hsb t)
theorem set_map {its : Array Value} {vs : List Value} (e : its.toList.map er = vs) (k : Nat) (v : Value) : (its.setIfInBounds k v).toList.map er = vs.set k (er v) := by
  subst e; rw [Array.toList_setIfInBounds, List.map_set]
theorem o_setitem {a : Addr} {vs : List Value} {k : Int} {v : Value} {N : Lo → Hp → Prop} (p : Put a (.list vs) (.list (vs.set k.toNat v)) H H') (h0 : 0 ≤ k) (hf : k < 2 ^ 63) (hn : k < vs.length) (h : N lo H') :
    L3 c setItem (.ref a) (I k) v lo H (fun _ => N) := fun o i w eo ei ew s0 s sm hs => by
  obtain rfl := er_ref eo
  obtain ⟨t, rfl⟩ := er_int ei
  subst ew
  obtain ⟨x, hg, ⟨its, n, rfl, e⟩, kk⟩ := hs.put p
  refine ki_setAt hg h0 hf (by rw [map_len e]; exact hn) ⟨lo, H', kk _ _ (listOf (its.setIfInBounds k.toNat w) n) (Heap.SameBut.update ..) ?_ ⟨_, _, rfl, set_map e _ _⟩, sm, h⟩
  have q := PySem.IsL.update hg (·.setIfInBounds k.toNat w)
  simp only [Array.size_setIfInBounds, beq_self_eq_true, if_true] at q
  exact q

/-! python dicts with str keys -/
theorem valueAt_of {x : Str} {v : Value} : ∀ {kvs : List (Str × Value)}, GetF (kvs.map fun p => (p.1, er p.2)) x v → ∃ v', valueAt kvs x = some v' ∧ er v' = v
  | [], h => by cases h
  | (y, u) :: r, h => by
    unfold valueAt
    rw [List.find?_cons]
    rw [List.map_cons] at h
    by_cases q : y = x
    · subst q
      cases h with
      | here => exact ⟨u, by simp, rfl⟩
      | there hn _ => exact absurd rfl hn
    · cases h with
      | here => exact absurd rfl q
      | there hn h =>
        obtain ⟨v', a, b⟩ := valueAt_of h
        exact ⟨v', by rw [decide_eq_false q]; exact a, b⟩
theorem St.map {s : Shared} (hs : St c lo H s) {a : Addr} {fs : List (Str × Value)} (hm : (a, .map fs) ∈ H) : ∃ kvs, s.heap.DictOf (strKind g.prog g.w) a kvs ∧ kvs.map (fun p => (p.1, er p.2)) = fs := by
  obtain ⟨o, ho, kvs, h1, h2⟩ := hs.get hm
  exact ⟨kvs, Heap.dictOf_iff.mpr ⟨o, ho, h1⟩, h2⟩
theorem o_mapget {a : Addr} {fs : List (Str × Value)} {x : Str} {v : Value} {Q : Value → Lo → Hp → Prop} (hm : (a, .map fs) ∈ H) (q : GetF fs x v) (h : Q v lo H) :
    L2 c getItem (.ref a) (.str x 0) lo H (EQ Q) := fun o i eo ei s0 s sm hs => by
  obtain rfl := er_ref eo
  obtain ⟨t, rfl⟩ := er_str ei
  obtain ⟨kvs, hd, rfl⟩ := hs.map hm
  obtain ⟨v', e1, rfl⟩ := valueAt_of q
  exact wpAny_getItem_of (strKind_is g.prog g.w x t) hd.mapOf e1 ⟨lo, H, hs.toks _, sm, h⟩
theorem o_maptail {a : Addr} {fs : List (Str × Value)} {x : Str} {v : Value} {ve se : Expr} {Q : Value → Lo → Hp → Prop} (hm : (a, .map fs) ∈ H) (q : GetF fs x v) (h : Q v lo H)
    (hsb : ∀ t, subscripted se false (.ref a) (.str x t) = operate [.ref a, .str x t] (getItem (.ref a) (.str x t)) := by intro _; with_unfolding_all rfl) :
    L2 c (subscriptTail ve se) (.ref a) (.str x 0) lo H (EQ Q) := fun o i eo ei s0 s sm hs => by
  obtain rfl := er_ref eo
  obtain ⟨t, rfl⟩ := er_str ei
  obtain ⟨kvs, hd, e⟩ := hs.map hm
  exact tail_any hd.typeIs slot_dict_getitem.lookup (o_mapget (c := c) hm q h _ _ rfl rfl s0 s sm hs) (hsb t)
theorem stored_of {x : Str} {w : Value} {fs' : List (Str × Value)} : ∀ {kvs : List (Str × Value)}, (kvs.map (·.1)).Nodup → PutF x (er w) (kvs.map fun p => (p.1, er p.2)) fs' → (stored kvs x w).map (fun p => (p.1, er p.2)) = fs'
  | [], _, h => by cases h; rfl
  | (y, u) :: r, nd, h => by
    rw [List.map_cons, List.nodup_cons] at nd
    rw [List.map_cons] at h
    by_cases q : y = x
    · subst q
      cases h with
      | here =>
        unfold stored
        rw [if_pos (by simp)]
        have : r.map (fun kv => if kv.1 = y then (kv.1, w) else kv) = r := map_store_of_not_mem r y w nd.1
        simp [this]
      | there hn _ => exact absurd rfl hn
    · cases h with
      | here => exact absurd rfl q
      | there hn h =>
        have ih := stored_of nd.2 h
        unfold stored at ih ⊢
        rw [List.any_cons, decide_eq_false q, Bool.false_or]
        by_cases q2 : (r.any fun kv => decide (kv.1 = x)) = true
        · rw [if_pos q2] at ih ⊢; rw [← ih]; simp [q]
        · rw [if_neg q2] at ih ⊢; rw [← ih]; simp
theorem o_mapset {a : Addr} {fs fs' : List (Str × Value)} {x : Str} {v : Value} {N : Lo → Hp → Prop} (q : PutF x v fs fs') (p : Put a (.map fs) (.map fs') H H') (hz : fs.length ≤ 1000) (h : N lo H') :
    L3 c setItem (.ref a) (.str x 0) v lo H (fun _ => N) := fun o i w eo ei ew s0 s sm hs => by
  obtain rfl := er_ref eo
  obtain ⟨t, rfl⟩ := er_str ei
  subst ew
  obtain ⟨ob, hg, ⟨kvs, hd, rfl⟩, kk⟩ := hs.put p
  have nd : (kvs.map (·.1)).Nodup := by obtain ⟨_, _, _, _, _, _, nd⟩ := hd; exact nd
  refine wpAny_setItem_pairs (hsz := by rw [List.length_map] at hz; rw [sizeLine_eq]; omega) (strKind_is g.prog g.w x t) (Heap.dictOf_iff.mpr ⟨ob, hg, hd⟩) fun h' hd' sb => ?_
  obtain ⟨o', ho', hd''⟩ := Heap.dictOf_iff.mp hd'
  exact ⟨lo, H', kk h' _ o' sb ho' ⟨_, hd'', stored_of nd q⟩, sm, h⟩
end Mine

namespace Mine
variable {g : Gd} {L : Addr} {c : Cx g L} {lo : Lo} {H H' : Hp}

/-! arguments, calls -/
abbrev As (c : Cx g L) (env : Env) (pos : Pos) (es : List Expr) (lo : Lo) (H : Hp) (Q : List Value → Lo → Hp → Prop) : Prop := W c (spliced (backTo pos (starEach es env))) lo H fun vs => Q (vs.map er)
def Cl (c : Cx g L) (f : Value) (vs : List Value) (lo : Lo) (H : Hp) (Q : Value → Lo → Hp → Prop) : Prop := ∀ ws, ws.map er = vs → W c (call f ws) lo H (EQ Q)
def Kp (g : Gd) (f : Value) : Prop := ∀ h, g.K.In h → ∃ k, (k = Keeper.frame ∨ k = Keeper.machine ∨ k = Keeper.boundFrame) ∧ Looks (model g.prog g.w) h (keeperOf f) k
theorem kp_K {f : Value} (h : keepIn g.K f = true) : Kp g f := fun hp X => keeps_K h hp X
theorem kp_builtin {x : String} : Kp g (.builtin x) := fun _ _ => ⟨.machine, .inr (.inl rfl), Looks.of_pure rfl⟩
theorem kp_type {x : String} : Kp g (.type x) := fun _ _ => ⟨.machine, .inr (.inl rfl), Looks.of_pure rfl⟩

theorem a_nil {env : Env} {pos : Pos} {Q : List Value → Lo → Hp → Prop} (h : Q [] lo H) : As c env pos [] lo H Q := fun _ _ sm hs => spliced_nil ⟨lo, H, hs, sm, h⟩
theorem a_cons {env : Env} {pos : Pos} {e : Expr} {es : List Expr} {Q : List Value → Lo → Hp → Prop} (h : Ev c env e lo H fun v lo H => As c env pos es lo H fun vs => Q (v :: vs))
    (he : starEach (e :: es) env = (false, eval e env) :: starEach es env := by rfl) : As c env pos (e :: es) lo H Q := fun s0 s sm hs => by
  rw [he]
  exact spliced_cons (wpAny_mono (h s0 s sm hs) (fun v s1 ⟨_, _, a, b, q⟩ => q s0 s1 b a) fun _ _ x => x)
theorem callWith_any {env : Env} {pos : Pos} {f : Value} {first : List Value} {es : List Expr} {Q : Value → Lo → Hp → Prop} (hk : Kp g f)
    (h : As c env pos es lo H fun vs lo H => Cl c f (first.map er ++ vs) lo H Q)
    (hp : (backTo pos (starEach es env)).any (·.1) = false := by rfl) : W c (callWith pos f first (backTo pos (starEach es env)) []) lo H (EQ Q) := fun s0 s sm hs => by
  have fin : ∀ (a : List Value) (s1 : Shared) (lo : Lo) (H : Hp), St c lo H s1 → Sm s0 s1 → Cl c f (first.map er ++ a.map er) lo H Q →
      g.K.In s1.heap ∧ wpAny (model g.prog g.w) c.A (call f (first ++ a)) (Post c s0 (EQ Q)) NoE s1 :=
    fun a s1 lo H a1 b1 q => ⟨a1.X, q (first ++ a) (by rw [List.map_append]) s0 s1 b1 a1⟩
  refine callWith_of (P := g.K.In) (by rw [hp]; rfl) hk ?_
  cases es with
  | nil =>
    intro Γ p hΓ
    obtain ⟨lo', H', a, b, q⟩ := h s0 s sm hs Γ p hΓ
    exact evalArgs_nil3 (fin [] s lo' H' a b q) Γ p hΓ
  | cons e es =>
    have hs' : ∃ t r, backTo pos (starEach (e :: es) env) = (false, t) :: r := by
      cases hb : backTo pos (starEach (e :: es) env) with
      | nil => cases e <;> simp [backTo, starEach] at hb
      | cons x r =>
        obtain ⟨b, t⟩ := x
        rw [hb] at hp
        cases b with
        | false => exact ⟨t, r, rfl⟩
        | true => simp at hp
    obtain ⟨t, r, hb⟩ := hs'
    have h' := h s0 s sm hs
    rw [hb] at h' ⊢
    exact evalArgs_plain (wpAny_mono h' (fun a s1 ⟨lo, H, a1, b1, q⟩ => fin a s1 lo H a1 b1 q) fun _ _ x => x)

theorem e_call {env : Env} {pos : Pos} {func : Expr} {es : List Expr} {f : Value} {Q : Value → Lo → Hp → Prop} (hf : Ev c env func lo H fun v lo' H' => v = f ∧ As c env pos es lo' H' fun vs lo H => Cl c f vs lo H Q)
    (hv : ∀ v, er v = f → v = f) (hk : Kp g f)
    (hp : (backTo pos (starEach es env)).any (·.1) = false := by rfl) (he : eval (.Call func es [] pos) env = (do callWith pos (← eval func env) [] (backTo pos (starEach es env)) (backToKw pos (keywordEach [] env))) := by rfl) :
    Ev c env (.Call func es [] pos) lo H Q := fun s0 s sm hs => Call_ (wpAny_mono (hf s0 s sm hs) (fun v s1 ⟨_, _, a, b, e, q⟩ => by
      obtain rfl := hv v e
      exact callWith_any (c := c) (first := []) hk q hp s0 s1 b a) fun _ _ x => x) he
theorem er_fix_ref {a : Addr} : ∀ v, er v = .ref a → v = .ref a := fun _ h => er_ref h
theorem er_fix_builtin {a : String} : ∀ v, er v = .builtin a → v = .builtin a := fun _ h => er_builtin h
theorem er_fix_type {a : String} : ∀ v, er v = .type a → v = .type a := fun _ h => er_type h

/-! methods of lists -/
structure LM (name : Str) (id : String) : Prop where
  slot : Slot "list" name id
  typ : typeOf (.builtin id) = pure (.type "method_descriptor")
theorem lm_append : LM "append" "list.append" := ⟨PySem.F.slot_list_append, PySem.F.type_list_append⟩
theorem lm_pop : LM "pop" "list.pop" := ⟨PySem.F.slot_list_pop, PySem.F.type_list_pop⟩
theorem lm_insert : LM "insert" "list.insert" := ⟨PySem.F.slot_list_insert, PySem.F.type_list_insert⟩
theorem lm_index : LM "index" "list.index" := ⟨PySem.F.slot_list_index, PySem.F.type_list_index⟩
theorem e_meth {env : Env} {apos pos : Pos} {o : Expr} {name : Str} {id : String} {es : List Expr} {pl : Sem Bool} {Q : Value → Lo → Hp → Prop} (lm : LM name id)
    (h : Ev c env o lo H fun ov lo H => ∃ a vs, ov = .ref a ∧ (a, .list vs) ∈ H ∧ As c env pos es lo H fun ws lo H => Cl c (.builtin id) (.ref a :: ws) lo H Q)
    (hp : (backTo pos (starEach es env)).any (·.1) = false := by rfl)
    (he : eval (.Call (.Attribute o name apos) es [] pos) env = (do
      let ov ← eval o env
      standAt apos.atName
      let (f, first) ← holding [ov] (getMethod ov name pl)
      callWith pos f first (backTo pos (starEach es env)) []) := by rfl) : Ev c env (.Call (.Attribute o name apos) es [] pos) lo H Q :=
  fun s0 s sm hs => MethodCall_ (wpAny_mono (h s0 s sm hs) (fun ov s1 ⟨_, H1, a1, b1, a, vs, e, hm, q⟩ => by
    obtain rfl := er_ref e
    obtain ⟨its, n, hg, -⟩ := a1.list hm
    exact getMethod_builtin (isl hg).typeIs PySem.F.plainAttrs_list lm.slot lm.typ (fun b e => by cases e; exact ⟨_, hg, rfl⟩) (callWith_any (c := c) (first := [.ref a]) kp_builtin q hp s0 s1 b1 a1)) fun _ _ x => x) he

theorem cl1 {f : Value} {a : Value} {Q : Value → Lo → Hp → Prop} (h : ∀ v, er v = a → W c (call f [v]) lo H (EQ Q)) : Cl c f [a] lo H Q := fun ws e => by
  cases ws with
  | nil => cases e
  | cons v r => cases r with
    | nil => simp only [List.map_cons, List.map_nil, List.cons.injEq, and_true] at e; exact h v e
    | cons _ _ => simp at e
theorem cl2 {f : Value} {a b : Value} {Q : Value → Lo → Hp → Prop} (h : ∀ v w, er v = a → er w = b → W c (call f [v, w]) lo H (EQ Q)) : Cl c f [a, b] lo H Q := fun ws e => by
  match ws, e with
  | [v, w], e => simp only [List.map_cons, List.map_nil, List.cons.injEq, and_true] at e; exact h v w e.1 e.2
theorem cl3 {f : Value} {a b d : Value} {Q : Value → Lo → Hp → Prop} (h : ∀ v w u, er v = a → er w = b → er u = d → W c (call f [v, w, u]) lo H (EQ Q)) : Cl c f [a, b, d] lo H Q := fun ws e => by
  match ws, e with
  | [v, w, u], e => simp only [List.map_cons, List.map_nil, List.cons.injEq, and_true] at e; exact h v w u e.1 e.2.1 e.2.2

theorem c_append {a : Addr} {vs : List Value} {v : Value} {Q : Value → Lo → Hp → Prop} (p : Put a (.list vs) (.list (vs ++ [v])) H H') (hz : vs.length ≤ 1000) (h : Q .none lo H') : Cl c (.builtin "list.append") [.ref a, v] lo H Q :=
  cl2 fun o w eo ew s0 s sm hs => by
    obtain rfl := er_ref eo
    subst ew
    obtain ⟨x, hg, ⟨its, n, rfl, e⟩, kk⟩ := hs.put p
    refine append_at (hsz := by rw [map_len e, sizeLine_eq]; omega) hg fun h' sb hg' => ⟨lo, H', kk h' _ _ sb hg' ⟨_, _, rfl, ?_⟩, sm, h⟩
    rw [Array.toList_push, List.map_append, e]; rfl
theorem popped {its : Array Value} {n k : Nat} (hk : k < its.size) : Obj.mapSeq (fun xs => xs.eraseIdxIfInBounds k) (listOf its n) = listOf (its.eraseIdxIfInBounds k) (n + 1) := by
  have e : ((its.eraseIdxIfInBounds k).size == its.size) = false := by
    rw [Array.eraseIdxIfInBounds, dif_pos hk, Array.size_eraseIdx]; simp; omega
  simp [Obj.mapSeq, e]
theorem popped_map {its : Array Value} {vs : List Value} (e : its.toList.map er = vs) (k : Nat) : (its.eraseIdxIfInBounds k).toList.map er = vs.eraseIdx k := by
  subst e
  rw [Array.toList_eraseIdxIfInBounds, eraseIdx_map_]
where
  eraseIdx_map_ : ∀ {l : List Value} {k : Nat}, (l.eraseIdx k).map er = (l.map er).eraseIdx k
    | [], _ => rfl
    | _ :: _, 0 => rfl
    | a :: l, k + 1 => by simp only [List.eraseIdx_cons_succ, List.map_cons, eraseIdx_map_]
theorem c_popk {a : Addr} {vs : List Value} {i : Int} {k : Nat} {v : Value} {Q : Value → Lo → Hp → Prop} (p : Put a (.list vs) (.list (vs.eraseIdx k)) H H') (hf : Builtin.List.listFitsIndex i = true) (hk : seqIndex? i vs.length = some k) (hv : vs[k]? = some v)
    (hz : vs.length ≤ 1000) (h : Q v lo H') : Cl c (.builtin "list.pop") [.ref a, I i] lo H Q :=
  cl2 fun o w eo ew s0 s sm hs => by
    obtain rfl := er_ref eo
    obtain ⟨t, rfl⟩ := er_int ew
    obtain ⟨x, hg, ⟨its, n, rfl, e⟩, kk⟩ := hs.put p
    obtain ⟨y, h1, rfl⟩ := map_get e hv
    have hlt : k < its.size := by
      false_or_by_contra
      rename_i q
      rw [Array.getElem?_eq_none (by omega)] at h1; cases h1
    refine call_meets PySem.F.slot_list_pop ⟨_, hg, rfl⟩ PySem.F.entry_list_pop (PySem.F.args_list_pop_2 _ _) (PySem.MeetsSeq.list_pop_at a its n i t k y hf (by rw [map_len e]; exact hk) h1 (by rw [map_len e, sizeLine_eq]; omega)) ⟨hg, ?_⟩
    exact ⟨lo, H', kk _ _ (listOf (its.eraseIdxIfInBounds k) (n + 1)) (Heap.SameBut.update ..) (by rw [Heap.get?_update_self _ hg (by rw [popped hlt]; rfl), popped hlt]) ⟨_, _, rfl, popped_map e k⟩, sm, h⟩
theorem c_pop {a : Addr} {vs : List Value} {v : Value} {Q : Value → Lo → Hp → Prop} (p : Put a (.list (vs ++ [v])) (.list vs) H H') (hz : vs.length ≤ 1000) (h : Q v lo H') : Cl c (.builtin "list.pop") [.ref a] lo H Q :=
  cl1 fun o eo s0 s sm hs => by
    obtain rfl := er_ref eo
    obtain ⟨x, hg, ⟨its, n, rfl, e⟩, kk⟩ := hs.put p
    have hl : its.size = vs.length + 1 := by rw [map_len e]; simp
    obtain ⟨y, h1, rfl⟩ := map_get e (k := its.size - 1) (v := v) (by rw [hl]; simp)
    have hlt : its.size - 1 < its.size := by omega
    refine call_meets PySem.F.slot_list_pop ⟨_, hg, rfl⟩ PySem.F.entry_list_pop (PySem.F.args_list_pop_1 _) (PySem.MeetsSeq.list_pop_last a its n y h1 (by rw [hl, sizeLine_eq]; omega)) ⟨hg, ?_⟩
    refine ⟨lo, H', kk _ _ (listOf (its.eraseIdxIfInBounds (its.size - 1)) (n + 1)) (Heap.SameBut.update ..) (by rw [Heap.get?_update_self _ hg (by rw [popped hlt]; rfl), popped hlt]) ⟨_, _, rfl, ?_⟩, sm, h⟩
    rw [popped_map e, hl]
    simp [List.eraseIdx_append_of_length_le]
theorem c_insert {a : Addr} {vs : List Value} {i : Int} {v : Value} {Q : Value → Lo → Hp → Prop} (p : Put a (.list vs) (.list (vs.take i.toNat ++ v :: vs.drop i.toNat)) H H') (h0 : 0 ≤ i) (h1 : i ≤ vs.length)
    (hz : vs.length ≤ 1000) (h : Q .none lo H') : Cl c (.builtin "list.insert") [.ref a, I i, v] lo H Q :=
  cl3 fun o j w eo ej ew s0 s sm hs => by
    obtain rfl := er_ref eo
    obtain ⟨t, rfl⟩ := er_int ej
    subst ew
    obtain ⟨x, hg, ⟨its, n, rfl, e⟩, kk⟩ := hs.put p
    have hl := map_len e
    have hc : ¬(!Builtin.List.listFitsIndex i) = true := by
      have : Builtin.List.listFitsIndex i = true := PySem.fitsIndex_of h0 (by omega)
      rw [this]; decide
    refine call_meets PySem.F.slot_list_insert ⟨_, hg, rfl⟩ PySem.F.entry_list_insert (PySem.F.args_list_insert_3 _ _ _) (PySem.AutoSeq1.list_insert_list_int_val_1 a its n i t w hc (by rw [hl, sizeLine_eq]; omega)) ⟨hg, ?_⟩
    have hk : (if i < 0 then (i + (its.size : Int)).toNat else min i.toNat its.size) = i.toNat := by rw [if_neg (by omega)]; omega
    have hm : Obj.mapSeq (fun xs => have k := if i < 0 then (i + (xs.size : Int)).toNat else min i.toNat xs.size; (xs.extract 0 k).push w ++ xs.extract k) (listOf its n) = listOf ((its.extract 0 i.toNat).push w ++ its.extract i.toNat) (n + 1) := by
      have e2 : (((its.extract 0 i.toNat).push w ++ its.extract i.toNat).size == its.size) = false := by simp; omega
      simp only [Obj.mapSeq, hk, e2]; rfl
    refine ⟨lo, H', kk _ _ _ (Heap.SameBut.update ..) (by rw [Heap.get?_update_self _ hg (by rw [hm]; rfl), hm]) ⟨_, _, rfl, ?_⟩, sm, h⟩
    subst e
    simp [List.map_take, List.map_drop]
    rw [List.take_of_length_le]
    simp

theorem ints_of : ∀ {ws : List Value} {ns : List Int}, ws.map er = ns.map I → IntsAre ws ns
  | [], [], _ => .nil
  | [], _ :: _, h => by cases h
  | _ :: _, [], h => by cases h
  | w :: ws, k :: ns, h => by
    simp only [List.map_cons, List.cons.injEq] at h
    obtain ⟨t, rfl⟩ := er_int h.1
    exact .cons k t (ints_of h.2)
theorem isl' {h : Heap} {a : Addr} {its : Array Value} {n : Nat} (x : h.get? a = some (listOf its n)) : h.IsList a its.toList.toArray := by
  have := isl x
  rwa [Array.toArray_toList]
theorem c_index {a : Addr} {ns : List Int} {k : Int} {Q : Value → Lo → Hp → Prop} (hm : (a, .list (ns.map I)) ∈ H) (hk : k ∈ ns) (hz : ns.length ≤ 1000) (h : Q (I (ns.idxOf k : Nat)) lo H) :
    Cl c (.builtin "list.index") [.ref a, I k] lo H Q :=
  cl2 fun o w eo ew s0 s sm hs => by
    obtain rfl := er_ref eo
    obtain ⟨t, rfl⟩ := er_int ew
    obtain ⟨its, n, hg, e⟩ := hs.list hm
    have hi := ints_of e
    have hlen := hi.length
    have hj : ns.idxOf k < ns.length := List.idxOf_lt_length_iff.mpr hk
    have hl : its.size = ns.length := by rw [← hlen]; simp
    have hat : ∀ (j : Nat) (hj' : j < its.size), its[j] = its.toList[j]'(by simpa using hj') := fun j hj' => by simp
    refine call_meets PySem.F.slot_list_index ⟨_, hg, rfl⟩ PySem.F.entry_list_index (PySem.F.args_list_index_2 _ _)
      (PySem.SeqAt.list_indexAt a its n none #[] (.int k t) (isInt k) (ns.idxOf k) (by omega) (by omega) ?_ ?_) ⟨hg, fun y hy => (eq_isInt k t hi y (by simpa using hy)).at _ _, lo, H, hs.toks _, sm, h⟩
    · show isInt k its[ns.idxOf k] = true
      rw [hat, isInt_at k hi _ (by simp; omega) hj]
      simpa using List.getElem_idxOf hj
    · intro j hjs hlt
      show isInt k its[j] = false
      rw [hat, isInt_at k hi j (by simpa using hjs) (by omega)]
      exact ne_of_lt_idxOf hlt _
end Mine

namespace Mine
variable {g : Gd} {L : Addr} {c : Cx g L} {lo : Lo} {H H' : Hp}

/-! loops -/
section
variable {env : Env} {N : Lo → Hp → Prop} {R : Value → Hp → Prop}
theorem x_while {test : Expr} {body : List Stmt} {pos : Pos} (J : Nat → Lo → Hp → Prop) (n : Nat) (h0 : J n lo H)
    (step : ∀ n lo H, J n lo H → Te c env test lo H fun b lo H => Ite b (X c env body lo H (fun lo H => ∃ m, m < n ∧ J m lo H) R) (N lo H)) : X1 c env (.While test body [] pos) lo H N R :=
  fun s0 s sm hs => wpAny_While (codeAny_whileLoop (fun n s => ∃ lo H, St c lo H s ∧ Sm s0 s ∧ J n lo H) (fun n s ⟨lo, H, a, b, j⟩ => by
    refine wpAny_mono (step n lo H j s0 s b a) (fun t s1 ⟨lo, H, a, b, q⟩ => ?_) fun _ _ x => x.elim
    cases t with
    | true =>
      rw [if_pos rfl]
      refine wpAny_mono (q.1 rfl s0 s1 b a) (fun f s2 ⟨lo, H, a, b, q⟩ => ?_) fun _ _ x => x.elim
      cases f with
      | next => obtain ⟨m, hm, j⟩ := q; exact ⟨m, hm, lo, H, a, b, j⟩
      | ret v => exact ⟨lo, H, a, b, q⟩
      | brk => exact q.elim
      | cont => exact q.elim
    | false =>
      rw [if_neg (by decide)]
      exact wpAny_execs_nil ⟨lo, H, a, b, q.2 rfl⟩) n ⟨lo, H, hs, sm, h0⟩)

/-- an iterator object on the ledger's hidden part -/
theorem St.hide {s : Shared} {it : Addr} {o : Obj} {ao : AO} (hs : St c lo ((it, ao) :: H) s) (ho : s.heap.get? it = some o) : St (c.wf ((it, o) :: c.F)) lo H s := by
  obtain ⟨m, raw, F, hl, hr, N, nd⟩ := hs
  cases hr with
  | @cons p q r _ hp hr =>
    obtain ⟨b, x⟩ := p
    obtain ⟨rfl, hx⟩ := hp
    have e : x = o := by
      have := (N _ (.head _)).1
      dsimp only at this ho
      rw [ho] at this; exact (Option.some.inj this).symm
    subst e
    have pp : ((b, x) :: r ++ c.F).Perm (r ++ (b, x) :: c.F) := by simpa using List.perm_middle.symm
    exact ⟨m, r, F, hl, hr, fun p hp => N p (pp.mem_iff.mpr hp), (pp.map _).nodup_iff.mp nd⟩
theorem St.turn {s : Shared} {it : Addr} {o : Obj} {Fr0 : List (Addr × Obj)} (hs : St (c.wf ((it, o) :: Fr0)) lo H s) : s.heap.get? it = some o ∧
    ∀ h' t' o', Heap.SameBut it s.heap h' → h'.get? it = some o' → St (c.wf ((it, o') :: Fr0)) lo H { s with heap := h', toks := t' } := by
  obtain ⟨m, raw, F, hl, hr, N, nd⟩ := hs
  have z := N (it, o) (List.mem_append_right _ (.head _))
  refine ⟨z.1, fun h' t' o' sb hg => ⟨m, raw, F.change sb z.2.1 z.2.2, hl, hr, ?_, by simpa [Cx.wf] using nd⟩⟩
  have nd' := nd
  simp only [Cx.wf, List.map_append, List.map_cons] at nd'
  rw [List.nodup_append] at nd'
  obtain ⟨_, n2, n3⟩ := nd'
  exact news_set (pre := raw) (post := Fr0) (o := o) N (fun p hp e => n3 p.1 (List.mem_map_of_mem hp) it (.head _) e) (fun p hp e => (List.nodup_cons.mp n2).1 (List.mem_map.mpr ⟨p, hp, e⟩)) sb hg
theorem St.unhide {s : Shared} {F' : List (Addr × Obj)} {p : Addr × Obj} (hs : St (c.wf (p :: c.F)) lo H s) : St c lo H s := by
  obtain ⟨m, raw, F, hl, hr, N, nd⟩ := hs
  refine ⟨m, raw, F, hl, hr, fun q hq => N q ?_, ?_⟩
  · rcases List.mem_append.mp hq with q | q
    · exact List.mem_append_left _ q
    · exact List.mem_append_right _ (.tail _ q)
  · have pp : (p :: (raw ++ c.F)).Perm (raw ++ p :: c.F) := List.perm_middle.symm
    have nd2 := (pp.map (·.1)).nodup_iff.mpr nd
    exact (List.nodup_cons.mp nd2).2
theorem St.more {s : Shared} {p : Addr × Obj} (hs : St (c.wf (p :: c.F)) lo H s) {h' : Heap} (k : ∀ b o, b ≠ p.1 → s.heap.get? b = some o → h'.get? b = some o) (t' : Nat) : St c lo H { s with heap := h', toks := t' } := by
  obtain ⟨m, raw, F, hl, hr, N, nd⟩ := hs
  have pp : (p :: (raw ++ c.F)).Perm (raw ++ p :: c.F) := List.perm_middle.symm
  have nd2 := (pp.map (·.1)).nodup_iff.mpr nd
  have ne : ∀ q ∈ raw ++ c.F, q.1 ≠ p.1 := fun q hq e => (List.nodup_cons.mp nd2).1 (List.mem_map.mpr ⟨q, hq, e⟩)
  have np := N p (pp.mem_iff.mp (.head _))
  obtain ⟨⟨oL, es, ep, hL, hr'⟩, keep, ab⟩ := F
  refine ⟨m, raw, ⟨⟨oL, es, ep, k _ _ (Ne.symm np.2.1) hL, hr'⟩, fun b o e => k b o (fun q => ?_) (keep b o e), ab⟩, hl, hr, fun q hq => ⟨k _ _ (ne q hq) (N q (pp.mem_iff.mp (.tail _ hq))).1, (N q (pp.mem_iff.mp (.tail _ hq))).2⟩, (List.nodup_cons.mp nd2).2⟩
  have e' : c.base.get? b = some o := e
  have z : c.base.get? p.1 = none := np.2.2
  rw [← q, e'] at z; cases z

theorem St.addHidden {s : Shared} (hs : St c lo H s) (x : Obj) (hf : x.isFreed = false) (t' : Nat) : St (c.wf ((s.heap.objs.size, x) :: c.F)) lo H { s with heap := s.heap.push x, toks := t' } := by
  obtain ⟨m, raw, F, hl, hr, N, nd⟩ := hs
  have pp : ((s.heap.objs.size, x) :: (raw ++ c.F)).Perm (raw ++ (s.heap.objs.size, x) :: c.F) := List.perm_middle.symm
  refine ⟨m, raw, F.push x, hl, hr, fun p hp => (N.push F x hf) p (pp.mem_iff.mpr hp), (pp.map _).nodup_iff.mp (List.nodup_cons.mpr ⟨fun hm => ?_, nd⟩)⟩
  obtain ⟨p, hp, e⟩ := List.mem_map.mp hm
  have e' : p.1 = s.heap.objs.size := e
  have := Heap.lt_size (N p hp).1
  rw [e'] at this
  exact absurd this (Nat.lt_irrefl _)

theorem for_core {x : Str} {body : List Stmt} {px : Pos} {nm : Str} {sc : Scope} {fa : Addr} {cd : Value} {cl : List (Str × Addr)} {it : Addr} (Itr : Nat → Obj → Prop) (n : Nat) (val : Nat → Value) (J : Nat → Lo → Hp → Prop)
    (next : ∀ i lo H o s, i < n → St (c.wf ((it, o) :: c.F)) lo H s → Itr i o → J i lo H → ∀ Q : Option Value → Shared → Prop,
      (∀ h' t' o' v, Heap.SameBut it s.heap h' → h'.get? it = some o' → Itr (i + 1) o' → er v = val i → Q (some v) { s with heap := h', toks := t' }) → wpAny (model g.prog g.w) c.A (pyNext (.ref it)) Q NoE s)
    (done : ∀ lo H o s, St (c.wf ((it, o) :: c.F)) lo H s → Itr n o → J n lo H → ∀ Q : Option Value → Shared → Prop,
      (∀ h' t', Heap.ExtBut it s.heap h' → Q none { s with heap := h', toks := t' }) → wpAny (model g.prog g.w) c.A (pyNext (.ref it)) Q NoE s)
    (step : ∀ F i lo H, i < n → J i lo H → ∃ lo', PutF x (val i) lo lo' ∧ X (c.wf F) (envX nm sc L fa cd cl) body lo' H (J (i + 1)) R) (fin : ∀ lo H, J n lo H → N lo H)
    (hk : sc.kind = .function) (hl : (envX nm sc L fa cd cl).kindOf x = some .local)
    {s0 s : Shared} {o : Obj} (hs : St (c.wf ((it, o) :: c.F)) lo H s) (hi : Itr 0 o) (j0 : J 0 lo H) (sm : Sm s0 s) {R' : Result → Shared → Prop}
    (hR : ∀ f s', Post c s0 (FQ N R) f s' → R' (.ok f) s') :
    codeAny (model g.prog g.w) c.A (.forLoop (.Name x px) (.ref it) body [] (envX nm sc L fa cd cl)) R' s := by
  refine codeAny_forLoop (fun k s => ∃ i lo H o, k = n - i ∧ i ≤ n ∧ St (c.wf ((it, o) :: c.F)) lo H s ∧ Itr i o ∧ J i lo H ∧ Sm s0 s) (fun k s => ?_) n ⟨0, lo, H, o, rfl, Nat.zero_le _, hs, hi, j0, sm⟩
  rintro ⟨i, lo, H, o, rfl, hle, hs, hi, j, sm⟩
  by_cases hlt : i < n
  · refine wpAny_mono (next i lo H o s hlt hs hi j (fun r s1 => match r with
      | none => False
      | some v => ∃ o', St (c.wf ((it, o') :: c.F)) lo H s1 ∧ Itr (i + 1) o' ∧ er v = val i ∧ Sm s0 s1) fun h' t' o' v sb hg hi' ev => ⟨o', hs.turn.2 h' t' o' sb hg, hi', ev, sm⟩) (fun r s1 q => ?_) fun _ _ e => e.elim
    cases r with
    | none => exact q.elim
    | some v =>
      obtain ⟨o', hs1, hi', ev, sm1⟩ := q
      obtain ⟨lo', p, hx⟩ := step ((it, o') :: c.F) i lo H hlt j
      refine wpAny_assign_Name (wpAny_mono (store_ (c := c.wf ((it, o') :: c.F)) (Q := fun _ lo'' H'' => lo'' = lo' ∧ H'' = H) (ev.symm ▸ p) ⟨rfl, rfl⟩ hk hl s0 s1 sm1 hs1) (fun _ s2 ⟨lo2, H2, a, b, e1, e2⟩ => ?_) fun _ _ e => e.elim)
      subst e1; subst e2
      refine wpAny_mono (hx s0 s2 b a) (fun f s3 ⟨lo3, H3, a, b, q⟩ => ?_) fun _ _ e => e.elim
      cases f with
      | next => exact ⟨n - (i + 1), by omega, i + 1, lo3, H3, o', rfl, hlt, a, hi', q, b⟩
      | ret v => exact hR _ _ ⟨lo3, H3, St.more a (fun b o _ e => e) s3.toks, b, q⟩
      | brk => exact q.elim
      | cont => exact q.elim
  · have e : i = n := by omega
    subst e
    refine wpAny_mono (done lo H o s hs hi j (fun r s1 => r = none ∧ Post c s0 (FQ N R) .next s1) fun h' t' ex => ⟨rfl, lo, H, St.more hs ex t', sm, fin lo H j⟩) (fun r s1 q => ?_) fun _ _ e => e.elim
    obtain ⟨rfl, q⟩ := q
    exact wpAny_execs_nil (hR _ _ q)

theorem x_forlist {x : Str} {iter : Expr} {body : List Stmt} {px pos : Pos} {nm : Str} {sc : Scope} {fa : Addr} {cd : Value} {cl : List (Str × Addr)}
    (h : Ev c (envX nm sc L fa cd cl) iter lo H fun v lo H => ∃ l vs, ∃ J : Nat → Lo → Hp → Prop, v = .ref l ∧ (∀ i lo H, J i lo H → (l, .list vs) ∈ H) ∧ J 0 lo H ∧
      (∀ F i lo H v, vs[i]? = some v → J i lo H → ∃ lo', PutF x v lo lo' ∧ X (c.wf F) (envX nm sc L fa cd cl) body lo' H (J (i + 1)) R) ∧ (∀ lo H, J vs.length lo H → N lo H))
    (hk : sc.kind = .function := by rfl) (hl : (envX nm sc L fa cd cl).kindOf x = some .local := by rfl)
    (hf : ∀ x, foldedSetIterable iter (envX nm sc L fa cd cl) x = pure x := by intro _; rfl) : X1 c (envX nm sc L fa cd cl) (.For (.Name x px) iter body [] pos) lo H N R :=
  fun s0 s sm hs => wpAny_For (wpAny_mono (h s0 s sm hs) (fun v s1 ⟨lo1, H1, a1, b1, l, vs, J, ev, hJ, j0, step, fin⟩ => by
    obtain rfl := er_ref ev
    obtain ⟨its, n, hg, e⟩ := a1.list (hJ _ _ _ j0)
    refine wpAny_pyIter_list (isl hg) ?_
    have z := a1.addHidden { cls := .type "list_iterator", data := .fields #[.ref l, .int 0 0] } rfl s1.toks
    have conv : ∀ {i : Nat} {o : Obj} {h : Heap}, h.get? s1.heap.objs.size = some o → (o.cls = .type "list_iterator" ∧ o.data = .fields #[.ref l, .int i 0]) → h.IsListIter s1.heap.objs.size l i := fun hg q => ⟨_, hg, q.1, q.2⟩
    refine for_core (c := c) (fun i o => o.cls = .type "list_iterator" ∧ o.data = .fields #[.ref l, .int i 0]) vs.length (fun i => vs.getD i .none) J ?_ ?_ ?_ fin hk hl z ⟨rfl, rfl⟩ j0 b1 (fun f s' q => q)
    · intro i lo H o s hlt hs hi j Q hQ
      obtain ⟨its, n, hg, e⟩ := hs.list (hJ _ _ _ j)
      obtain ⟨y, hy, ey⟩ := map_get e (List.getElem?_eq_getElem hlt)
      refine wpAny_pyNext_list_item (conv hs.turn.1 hi) (isl hg) hy fun h' hit' sb => ?_
      obtain ⟨o', ho', hc', hd'⟩ := hit'
      refine hQ h' s.toks o' y sb ho' ⟨hc', hd'⟩ ?_
      rw [ey]; simp [hlt]
    · intro lo H o s hs hi j Q hQ
      obtain ⟨its, n, hg, e⟩ := hs.list (hJ _ _ _ j)
      exact wpAny_pyNext_list_end c.hh (conv hs.turn.1 hi) (isl hg) (Array.getElem?_eq_none (by rw [map_len e]; exact Nat.le_refl _)) fun h' ex => hQ h' s.toks ex
    · intro F i lo H hlt j
      refine step F i lo H _ ?_ j
      simp [hlt]) fun _ _ x => x) hf

theorem x_forrange {x : Str} {iter : Expr} {body : List Stmt} {px pos : Pos} {nm : Str} {sc : Scope} {fa : Addr} {cd : Value} {cl : List (Str × Addr)}
    (h : Ev c (envX nm sc L fa cd cl) iter lo H fun v lo H => ∃ r, ∃ n : Nat, ∃ J : Nat → Lo → Hp → Prop, v = .ref r ∧ n < 2 ^ 62 ∧ (r, .range n) ∈ H ∧ J 0 lo H ∧
      (∀ F i lo H, i < n → J i lo H → ∃ lo', PutF x (I i) lo lo' ∧ X (c.wf F) (envX nm sc L fa cd cl) body lo' H (J (i + 1)) R) ∧ (∀ lo H, J n lo H → N lo H))
    (hk : sc.kind = .function := by rfl) (hl : (envX nm sc L fa cd cl).kindOf x = some .local := by rfl)
    (hf : ∀ x, foldedSetIterable iter (envX nm sc L fa cd cl) x = pure x := by intro _; rfl) : X1 c (envX nm sc L fa cd cl) (.For (.Name x px) iter body [] pos) lo H N R :=
  fun s0 s sm hs => wpAny_For (wpAny_mono (h s0 s sm hs) (fun v s1 ⟨lo1, H1, a1, b1, r, n, J, ev, hn, hm, j0, step, fin⟩ => by
    obtain rfl := er_ref ev
    obtain ⟨o, hg, t, u, w, rfl⟩ := a1.get hm
    refine wpAny_pyIter_range (r := r) (a := 0) (b := n) (c := 1) (t := t) (u := u) (v := w) hg (small_one (by decide) (by decide) (by omega) (by omega)) ?_
    have z := a1.addHidden { cls := .type "range_iterator", data := .fields #[rawInt 0, rawInt (Builtin.Range.rangeSize 0 n 1), rawInt 1] } rfl s1.toks
    have hsz : Builtin.Range.rangeSize 0 n 1 = (n : Int) := by rw [rangeSize_one]; split <;> omega
    refine for_core (c := c) (fun i o => i ≤ n ∧ o = { cls := .type "range_iterator", data := .fields #[rawInt i, rawInt (n - i : Int), rawInt 1] }) n (fun i => I i) J ?_ ?_ step fin hk hl z ⟨Nat.zero_le _, by rw [hsz]; simp⟩ j0 b1 (fun f s' q => q)
    · intro i lo H o s hlt hs ⟨_, hi⟩ j Q hQ
      subst hi
      refine wpAny_pyNext_range_item hs.turn.1 (by omega) fun h' hit' sb => hQ h' _ _ _ sb hit' ⟨hlt, ?_⟩ rfl
      rw [show ((i : Nat) : Int) + 1 = ((i + 1 : Nat) : Int) by omega, show (n : Int) - i - 1 = n - ((i + 1 : Nat) : Int) by omega]
    · intro lo H o s hs ⟨_, hi⟩ j Q hQ
      subst hi
      refine wpAny_pyNext_range_end c.hh hs.turn.1 (by omega) fun h' ex => hQ h' s.toks ex) fun _ _ x => x) hf
end
end Mine

namespace Mine
variable {g : Gd} {L : Addr} {c : Cx g L} {lo : Lo} {H H' : Hp}

/-! entering a function -/
theorem lookup_rev {α : Type} : ∀ {l : List (Str × α)} (x : Str), (l.map (·.1)).Nodup → l.reverse.lookup x = l.lookup x
  | [], _, _ => rfl
  | (y, v) :: r, x, nd => by
    rw [List.map_cons, List.nodup_cons] at nd
    rw [List.reverse_cons, List.lookup_append, lookup_rev x nd.2, List.lookup_cons, List.lookup_cons]
    by_cases e : x = y
    · subst e
      have : r.lookup x = none := by
        rw [List.lookup_eq_none_iff]
        intro p hp
        rw [bne_iff_ne]
        exact fun q => nd.1 (List.mem_map.mpr ⟨p, hp, q.symm⟩)
      rw [this]; simp
    · rw [beq_eq_false_iff_ne.mpr e]; simp
theorem lookup_map {α β : Type} (f : α → β) (x : Str) : ∀ l : List (Str × α), (l.map fun p => (p.1, f p.2)).lookup x = (l.lookup x).map f
  | [] => rfl
  | (y, v) :: r => by
    rw [List.map_cons, List.lookup_cons, List.lookup_cons]
    by_cases e : x = y
    · subst e; simp
    · rw [beq_eq_false_iff_ne.mpr e]; exact lookup_map f x r

def BindsAs (g : Gd) (fd : FuncData) (vs : List Value) (lo0 : Lo) : Prop :=
  ∀ (ws : List Value) (s : Shared), ws.map er = vs → g.K.In s.heap → ∃ binds, BindsTo s fd ⟨ws, []⟩ binds ∧ binds.map (fun p => (p.1, er p.2)) = lo0

theorem cl_code {name qual : Str} {params : Arguments} {body : List Stmt} {scope : Scope} {dV kV doc pm cdv ct oc : Value} {an od : Option Addr} {osl : Array (Option Value)} {f : Addr} {ws vs : List Value} {lo0 : Lo} {A : Around}
    {Q : Value → Lo → Hp → Prop} (n : Nat)
    (ho : g.K.lookup f = some ⟨oc, od, .func (fnOf name qual params body scope dV kV doc pm an cdv ct), osl⟩) (hcd : codeIn g.K cdv qual = true) (hh : A.handled = none) (hr : A.depth + 3 * (n + 1) < 900 ∧ A.units + 20 * (n + 1) < 9000)
    (hb : BindsAs g (fnOf name qual params body scope dV kV doc pm an cdv ct) vs lo0) (hnd : (lo0.map (·.1)).Nodup) (hloc : ∀ x ∈ lo0.map (·.1), scope.names.lookup x = some .local)
    (h : ∀ L' (c' : Cx g L'), c'.room n → X c' (envX qual scope L' f cdv []) body lo0 H (fun _ H' => Q .none lo H') (fun v H' => Q v lo H'))
    (hco : scope.isCoroutine = false) (hgen : scope.isGenerator = false) (hk : scope.kind = .function) (hcell : ∀ x ∈ scope.names, x.2 ≠ .cell)
    (hw : ws.map er = vs) {s0 s : Shared} (sm : Sm s0 s) (hs : St c lo H s) {R : Result → Shared → Prop} (hR : ∀ v s', Post c s0 (EQ Q) v s' → R (.ok (.ret v)) s') :
    codeAny (model g.prog g.w) A (.call (.ref f) ⟨ws, []⟩) R s := by
  obtain ⟨binds, hbt, hlo⟩ := hb ws s hw hs.X
  obtain ⟨m, raw, F, hl, hrel, N, nd⟩ := hs
  have X0 : g.K.In s.heap := c.X.keeps F.keep
  have keys : binds.map (·.1) = lo0.map (·.1) := by rw [← hlo, List.map_map]; rfl
  refine codeAny_call_def (fd := fnOf name qual params body scope dV kV doc pm an cdv ct) (body := body) (binds := binds) (by unfold recursionLimit; omega) (X0 _ _ ho) rfl (c.T.nolimit.keeps F.keep) (codeRec_of X0 hcd) rfl hbt hcell
    (fun x hx => hloc x.1 (by rw [← keys]; exact List.mem_map_of_mem hx)) (fun h₁ hns hk₁ => ?_) hco hgen hk
  generalize hnews : raw ++ c.F = news at N nd
  have nm : ∀ b o, c.base.get? b = some o → b ∉ news.map (·.1) := fun b o e q => by
    obtain ⟨p, hp, rfl⟩ := List.mem_map.mp q
    rw [(N p hp).2.2] at e; cases e
  have st : c.base.StaysIn (hideAll s.heap (news.map (·.1))) := fun b o e => hideAll_get _ (F.keep b o e) (nm b o e)
  obtain ⟨oL, es, ep, hL, hLd, hLk, hLf⟩ := F.ns
  have nL : L ∉ news.map (·.1) := fun q => by
    obtain ⟨p, hp, e⟩ := List.mem_map.mp q
    exact (N p hp).2.1 e
  have hLg := hideAll_get (news.map (·.1)) hL nL
  let c' : Cx g s.heap.objs.size := Cx.mk (hideAll s.heap (news.map (·.1))) c.F (A.deeper (envX qual scope s.heap.objs.size f cdv [])) (c.X.keeps fun b o e => st b o e) (c.T.keeps fun b o e => st b o e) hh (by rw [Around.deeper_units]; omega) (by show A.depth + 1 < 900; omega)
  have s1 : St c' lo0 H { s with heap := h₁, toks := s.toks + binds.length } := by
    refine ⟨_, raw, ⟨hns, fun b o e => hk₁ b o (of_hideAll _ e), Nat.le_of_eq (hideAll_size _ _)⟩, fun x v e => ?_, hrel, fun p hp => ?_, by show ((raw ++ c.F).map (·.1)).Nodup; rw [hnews]; exact nd⟩
    · rw [← hlo, lookup_map] at e
      show ∃ v', List.lookup x binds.reverse = some v' ∧ er v' = v
      rw [lookup_rev x (by rw [keys]; exact hnd)]
      obtain ⟨v', a, b⟩ := Option.map_eq_some_iff.mp e
      exact ⟨v', a, b⟩
    · have hp : p ∈ news := hnews ▸ hp
      exact ⟨hk₁ _ _ (N p hp).1, Nat.ne_of_lt (Heap.lt_size (N p hp).1), hideAll_none _ (List.mem_map_of_mem hp)⟩
  refine wpAny_mono (h _ c' ⟨by show A.depth + 1 + 3 * n < 900; omega, by show A.units + 3 + 20 * n < 9000; omega⟩ s0 _ sm s1) (fun fl s' ⟨lo', H', a, b, q⟩ => ?_) fun _ _ e => e.elim
  have back : St c lo H' s' := by
    obtain ⟨m', raw', F', hl', hr', N', nd'⟩ := a
    refine ⟨m, raw', ⟨⟨oL, es, ep, F'.keep L oL hLg, hLd, hLk, hLf⟩, fun b o e => F'.keep b o (st b o e), F.above⟩, hl, hr', fun p hp => ⟨(N' p hp).1, fun q => ?_, ?_⟩, nd'⟩
    · have := (N' p hp).2.2; rw [q] at this; have e : (hideAll s.heap (news.map (·.1))).get? L = none := this; rw [hLg] at e; cases e
    · cases q : c.base.get? p.1 with
      | none => rfl
      | some o => have := (N' p hp).2.2; have e : (hideAll s.heap (news.map (·.1))).get? p.1 = none := this; rw [st _ _ q] at e; cases e
  cases fl with
  | next => exact hR _ _ ⟨lo, H', back, b, q⟩
  | ret v => exact hR _ _ ⟨lo, H', back, b, q⟩
  | brk => exact q.elim
  | cont => exact q.elim

theorem cl_fn {name qual : Str} {params : Arguments} {body : List Stmt} {scope : Scope} {dV kV doc pm cdv ct oc : Value} {an od : Option Addr} {osl : Array (Option Value)} {f : Addr} {vs : List Value} {lo0 : Lo}
    {Q : Value → Lo → Hp → Prop} (n : Nat)
    (ho : g.K.lookup f = some ⟨oc, od, .func (fnOf name qual params body scope dV kV doc pm an cdv ct), osl⟩) (hcd : codeIn g.K cdv qual = true) (hr : c.room (n + 1))
    (hb : BindsAs g (fnOf name qual params body scope dV kV doc pm an cdv ct) vs lo0) (hnd : (lo0.map (·.1)).Nodup) (hloc : ∀ x ∈ lo0.map (·.1), scope.names.lookup x = some .local)
    (hco : scope.isCoroutine = false) (hgen : scope.isGenerator = false) (hk : scope.kind = .function) (hcell : ∀ x ∈ scope.names, x.2 ≠ .cell)
    (h : ∀ L' (c' : Cx g L'), c'.room n → X c' (envX qual scope L' f cdv []) body lo0 H (fun _ H' => Q .none lo H') (fun v H' => Q v lo H')) : Cl c (.ref f) vs lo H Q :=
  fun ws hw s0 s sm hs => wpAny_call (cl_code n ho hcd c.hh hr hb hnd hloc h hco hgen hk hcell hw sm hs fun v s' p => p)

theorem bindsAs_eq {g : Gd} {fd : FuncData} {vs : List Value} {ps : List Str} (hl : ps.length = vs.length) (h : ∀ ws : List Value, ws.length = vs.length → bindArgs fd ⟨ws, []⟩ = pure (ps.zip ws)) : BindsAs g fd vs (ps.zip vs) := by
  intro ws s e X
  have hw : ws.length = vs.length := by rw [← e]; simp
  refine ⟨ps.zip ws, BindsTo.of_eq (h ws hw), ?_⟩
  subst e
  exact zmap ps ws
where
  zmap : ∀ (ps : List Str) (ws : List Value), (ps.zip ws).map (fun p => (p.1, er p.2)) = ps.zip (ws.map er)
    | [], _ => rfl
    | _ :: _, [] => rfl
    | p :: ps, w :: ws => by simp only [List.zip_cons_cons, List.map_cons, zmap ps ws]

/-- framing: what a call does not see stays -/
theorem Cl.frame {f : Value} {vs : List Value} {G K : Hp} {Q : Value → Lo → Hp → Prop} (hp : H.Perm (G ++ K)) (h : ∀ F, Cl (c.wf F) f vs lo G fun v lo' G' => Q v lo' (G' ++ K)) : Cl c f vs lo H Q :=
  fun ws hw s0 s sm hs => by
    obtain ⟨m, raw, F, hl, hr, N, nd⟩ := hs.perm hp
    obtain ⟨r1, r2, rfl, h1, h2⟩ := split2 hr
    have e : (r1 ++ r2) ++ c.F = r1 ++ (r2 ++ c.F) := List.append_assoc ..
    rw [e] at N nd
    refine wpAny_mono (h (r2 ++ c.F) ws hw s0 s sm ⟨m, r1, F, hl, h1, N, nd⟩) (fun v s' ⟨lo', G', a, b, q⟩ => ?_) fun _ _ x => x
    obtain ⟨m', raw', F', hl', hr', N', nd'⟩ := a
    refine ⟨lo', G' ++ K, ⟨m', raw' ++ r2, F', hl', app2_ hr' h2, ?_, ?_⟩, b, q⟩
    · rw [List.append_assoc]; exact N'
    · rw [List.append_assoc]; exact nd'
where
  split2 {raw : List (Addr × Obj)} : ∀ {G K : Hp}, RelH g raw (G ++ K) → ∃ r1 r2, raw = r1 ++ r2 ∧ RelH g r1 G ∧ RelH g r2 K := by
    intro G
    induction G generalizing raw with
    | nil => intro K h; exact ⟨[], raw, rfl, .nil, h⟩
    | cons x G ih =>
      intro K h
      cases h with
      | cons h1 h2 => obtain ⟨r1, r2, rfl, a, b⟩ := ih h2; exact ⟨_ :: r1, r2, rfl, .cons h1 a, b⟩
  app2_ {r1 r2 : List (Addr × Obj)} {G K : Hp} (h1 : RelH g r1 G) (h2 : RelH g r2 K) : RelH g (r1 ++ r2) (G ++ K) := by
    induction h1 with
    | nil => exact h2
    | cons a _ ih => exact .cons a ih

/-! an object of an own class is made -/
theorem cl_make {C fI : Addr} {vs : List Value} {Q : Value → Lo → Hp → Prop} (n : Nat) {name qual : Str} {params : Arguments} {body : List Stmt} {scope : Scope} {dV kV doc pm cdv ct oc : Value} {an od : Option Addr} {osl : Array (Option Value)} {lo0 : Addr → Lo}
    (hm : makesIn g.K C = true) (hi : findIn g.K (.ref C) "__init__" = some (some (.ref fI))) (hf : typeIn g.K (.ref fI) = some (.type "function")) (hr : c.room (n + 2))
    (ho : g.K.lookup fI = some ⟨oc, od, .func (fnOf name qual params body scope dV kV doc pm an cdv ct), osl⟩) (hcd : codeIn g.K cdv qual = true)
    (hb : ∀ x, BindsAs g (fnOf name qual params body scope dV kV doc pm an cdv ct) (.ref x :: vs) (lo0 x)) (hnd : ∀ x, ((lo0 x).map (·.1)).Nodup) (hloc : ∀ x, ∀ y ∈ (lo0 x).map (·.1), scope.names.lookup y = some .local)
    (hco : scope.isCoroutine = false) (hgen : scope.isGenerator = false) (hk : scope.kind = .function) (hcell : ∀ x ∈ scope.names, x.2 ≠ .cell)
    (h : ∀ x dx L' (c' : Cx g L'), c'.room n → X c' (envX qual scope L' fI cdv []) body (lo0 x) ((x, .inst C dx) :: (dx, .dict []) :: H) (fun _ H' => Q (.ref x) lo H') (fun v H' => v = .none ∧ Q (.ref x) lo H')) : Cl c (.ref C) vs lo H Q :=
  fun ws hw s0 s sm hs => wpAny_call (by
    have X0 := hs.X
    obtain ⟨m, raw, F, hl, hrel, N, nd⟩ := hs
    refine make_K F N X0 hm hi hf fun x dx h' F' N' l1 l2 => ?_
    have s1 : St c lo ((x, .inst C dx) :: (dx, .dict []) :: H) { s with heap := h' } := by
      refine ⟨m, (x, instObj C dx) :: (dx, emptyDict) :: raw, F', hl, .cons ⟨rfl, rfl⟩ (.cons ⟨rfl, [], 0, rfl, .nil⟩ hrel), N', ?_⟩
      refine List.nodup_cons.mpr ⟨fun hm => ?_, List.nodup_cons.mpr ⟨fun hm => ?_, nd⟩⟩
      · rcases List.mem_cons.mp hm with e | hm
        · exact absurd l2 (by have e' : x = dx := e; rw [e']; exact Nat.lt_irrefl _)
        · obtain ⟨p, hp, e⟩ := List.mem_map.mp hm
          have q := l1 p hp
          have e' : p.1 = x := e
          rw [e'] at q
          exact absurd (Nat.lt_trans q l2) (Nat.lt_irrefl _)
      · obtain ⟨p, hp, e⟩ := List.mem_map.mp hm
        have q := l1 p hp
        have e' : p.1 = dx := e
        rw [e'] at q; exact absurd q (Nat.lt_irrefl _)
    have hr' : (c.A.under (.builtin "type.__call__" ⟨.ref C :: ws, []⟩)).depth + 3 * (n + 1) < 900 ∧ (c.A.under (.builtin "type.__call__" ⟨.ref C :: ws, []⟩)).units + 20 * (n + 1) < 9000 := by
      have e1 : (c.A.under (.builtin "type.__call__" ⟨.ref C :: ws, []⟩)).depth = c.A.depth + 1 := rfl
      have e2 : (c.A.under (.builtin "type.__call__" ⟨.ref C :: ws, []⟩)).units ≤ c.A.units + 3 := by
        show c.A.units + _ ≤ _
        exact Nat.add_le_add_left (Nat.le_of_ble_eq_true rfl) _
      rw [e1]
      unfold Cx.room at hr
      omega
    exact cl_code (A := c.A.under (.builtin "type.__call__" ⟨.ref C :: ws, []⟩)) (lo := lo) (c := c) (ws := .ref x :: ws) (vs := .ref x :: vs) (Q := fun v lo H => v = .none ∧ Q (.ref x) lo H) n ho hcd c.hh hr' (hb x) (hnd x) (hloc x)
      (fun L' c' r => W.mono (h x dx L' c' r) fun f lo H q => by cases f <;> first | exact ⟨rfl, q⟩ | exact q) hco hgen hk hcell (by rw [List.map_cons, hw]; rfl) (show Sm s0 { s with heap := h' } from sm) s1
      fun v s' ⟨lo', H', a, b, q1, q2⟩ => ⟨er_none q1, lo', H', a, b, q2⟩)
end Mine

namespace Mine
variable {g : Gd} {L : Addr} {c : Cx g L} {lo : Lo} {H H' : Hp}

theorem St.ext {s : Shared} (hs : St c lo H s) {h' : Heap} (k : ∀ b o, s.heap.get? b = some o → h'.get? b = some o) (t' : Nat) : St c lo H { s with heap := h', toks := t' } := by
  obtain ⟨m, raw, F, hl, hr, N, nd⟩ := hs
  exact ⟨m, raw, F.keeps k, hl, hr, fun p hp => ⟨k _ _ (N p hp).1, (N p hp).2⟩, nd⟩
theorem St.addAt {s : Shared} (hs : St c lo H s) {h' : Heap} (k : ∀ b o, s.heap.get? b = some o → h'.get? b = some o) {a : Addr} (ha : s.heap.objs.size ≤ a) {x : Obj} (hg : h'.get? a = some x) {ao : AO} (hx : ao.Is g x) (t' : Nat) :
    St c lo ((a, ao) :: H) { s with heap := h', toks := t' } := by
  obtain ⟨m, raw, F, hl, hr, N, nd⟩ := hs
  refine ⟨m, (a, x) :: raw, F.keeps k, hl, .cons ⟨rfl, hx⟩ hr, fun p hp => ?_, List.nodup_cons.mpr ⟨fun hm => ?_, nd⟩⟩
  · rcases List.mem_cons.mp hp with rfl | hp
    · refine ⟨hg, fun e => ?_, ?_⟩
      · obtain ⟨oL, _, _, hL, _⟩ := F.ns
        have q := Heap.lt_size hL
        have e' : a = L := e
        rw [← e'] at q
        exact absurd q (Nat.not_lt.mpr ha)
      · cases q : c.base.get? a with
        | none => rfl
        | some o => exact absurd (Heap.lt_size (F.keep _ _ q)) (Nat.not_lt.mpr ha)
    · exact ⟨k _ _ (N p hp).1, (N p hp).2⟩
  · obtain ⟨p, hp, e⟩ := List.mem_map.mp hm
    have := Heap.lt_size (N p hp).1
    have e' : p.1 = a := e
    rw [e'] at this
    exact absurd this (Nat.not_lt.mpr ha)

/-! displays -/
theorem e_list {env : Env} {es : List Expr} {pos : Pos} {Q : Value → Lo → Hp → Prop} (h : As c env pos es lo H fun vs lo H => vs.length ≤ 1000 ∧ ∀ a, Q (.ref a) lo ((a, .list vs) :: H)) : Ev c env (.List es pos) lo H Q :=
  fun s0 s sm hs => List_ (wpAny_mono (h s0 s sm hs) (fun ws s1 ⟨lo, H, a, b, hz, q⟩ => by
    obtain ⟨m, raw, F, hl, N, k⟩ := a.new
    exact newList_N F N (fun h' F' N' => ⟨lo, _, k h' _ _ _ (.list (ws.map er)) F' N' (Nat.le_refl _) ⟨ws.toArray, 0, rfl, by simp⟩, b, q _⟩) (by rw [List.length_map] at hz; rw [sizeLine_eq]; omega)) fun _ _ x => x)
theorem e_tup {env : Env} {es : List Expr} {k : Nat} {pos : Pos} {Q : Value → Lo → Hp → Prop} (h : As c env pos es lo H fun vs lo H => vs.length ≤ 1000 ∧ ∀ a, Q (.ref a) lo ((a, .tup vs) :: H)) : Ev c env (.Tuple es k pos) lo H Q :=
  fun s0 s sm hs => Tuple_ (wpAny_mono (h s0 s sm hs) (fun ws s1 ⟨lo, H, a, b, hz, q⟩ => by
    obtain ⟨m, raw, F, hl, N, k⟩ := a.new
    exact newTuple_N F N (fun h' F' N' => ⟨lo, _, k h' _ _ _ (.tup (ws.map er)) F' N' (Nat.le_refl _) ⟨ws.toArray, 0, rfl, by simp⟩, b, q _⟩) (by rw [List.length_map] at hz; rw [sizeLine_eq]; omega)) fun _ _ x => x)

/-! tuple assignments -/
theorem tupI {h : Heap} {a : Addr} {its : Array Value} {n : Nat} (x : h.get? a = some (tupOf its n)) : IsTup h a its := ⟨_, x, rfl, n, rfl⟩
section
variable {N : Lo → Hp → Prop} {R : Value → Hp → Prop}
theorem x_swap2 {nm : Str} {sc : Scope} {fa : Addr} {cd : Value} {cl : List (Str × Addr)} {x y : Str} {k : Nat} {p1 p2 tpos pos : Pos} {e : Expr}
    (h : Ev c (envX nm sc L fa cd cl) e lo H fun v lo H => ∃ t a b, v = .ref t ∧ (t, .tup [a, b]) ∈ H ∧ ∃ lo1, PutF y b lo lo1 ∧ ∃ lo2, PutF x a lo1 lo2 ∧ N lo2 H)
    (hk : sc.kind = .function := by rfl) (hx : (envX nm sc L fa cd cl).kindOf x = some .local := by rfl) (hy : (envX nm sc L fa cd cl).kindOf y = some .local := by rfl)
    (hsw : swapsWithSole [.Tuple [.Name x p1, .Name y p2] k tpos] e pos.line (envX nm sc L fa cd cl) = pure false := by rfl) (hw : swappedStores [.Tuple [.Name x p1, .Name y p2] k tpos] e (envX nm sc L fa cd cl) = pure (some [x, y]) := by rfl) :
    X1 c (envX nm sc L fa cd cl) (.Assign [.Tuple [.Name x p1, .Name y p2] k tpos] e pos) lo H N R :=
  fun s0 s sm hs => Assign_Tuple_swapped (names := [x, y]) (wpAny_mono (h s0 s sm hs) (fun v s1 ⟨lo1, H1, a1, b1, t, a, b, ev, hm, lo2, q1, lo3, q2, q3⟩ => by
    obtain rfl := er_ref ev
    obtain ⟨its, n, hg, e⟩ := a1.tup hm
    obtain ⟨m, news, F, hl, N, kk⟩ := a1.same
    refine unpackItemsN_ F N (tupI hg) c.hh (by rw [map_len e]; rfl) fun h' F' N' => ?_
    have a2 := kk h' s1.toks F' N'
    have hit : ∃ v w, its.toList = [v, w] ∧ er v = a ∧ er w = b := by
      match hq : its.toList, e with
      | [v, w], e => simp only [hq, List.map_cons, List.map_nil, List.cons.injEq, and_true] at e; exact ⟨v, w, rfl, e.1, e.2⟩
    obtain ⟨v, w, hit, rfl, rfl⟩ := hit
    rw [hit]
    show wpAny _ _ (assignInOrder [bindName (envX nm sc L fa cd cl) y, bindName (envX nm sc L fa cd cl) x] [w, v]) _ _ _
    refine assignInOrder_cons (bindName_ (wpAny_mono (store_ (c := c) (Q := fun _ lo H => lo = lo2 ∧ H = H1) q1 ⟨rfl, rfl⟩ hk hy s0 _ b1 a2) (fun _ s2 ⟨lo4, H4, a3, b3, e1, e2⟩ => ?_) fun _ _ x => x))
    subst e1; subst e2
    exact assignInOrder_cons (bindName_ (wpAny_mono (store_ (c := c) (Q := fun _ => _) q2 q3 hk hx s0 _ b3 a3) (fun _ s3 q => assignInOrder_nil q) fun _ _ x => x))) fun _ _ x => x) hsw hw

abbrev Ain (c : Cx g L) (env : Env) (ts : List Expr) (vs : List Value) (lo : Lo) (H : Hp) (N : Lo → Hp → Prop) : Prop :=
  ∀ ws, ws.map er = vs → W c (assignInOrder ((assignEach ts env).map (·.2)) ws) lo H fun _ => N
theorem n_nil {env : Env} (h : N lo H) : Ain c env [] [] lo H N := fun ws e s0 s sm hs => by
  cases ws with
  | nil => exact assignInOrder_nil ⟨lo, H, hs, sm, h⟩
  | cons _ _ => cases e
theorem n_attr {env : Env} {o : Expr} {attr : Str} {p : Pos} {ts : List Expr} {v : Value} {vs : List Value}
    (h : Ev c env o lo H fun ov lo H => L2 c (fun ov v => setAttr ov attr v) ov v lo H fun _ lo H => Ain c env ts vs lo H N) : Ain c env (.Attribute o attr p :: ts) (v :: vs) lo H N := fun ws e s0 s sm hs => by
  cases ws with
  | nil => cases e
  | cons w ws =>
    simp only [List.map_cons, List.cons.injEq] at e
    show wpAny _ _ (assignInOrder (assign (.Attribute o attr p) env :: (assignEach ts env).map (·.2)) (w :: ws)) _ _ _
    refine assignInOrder_cons ?_
    show wpAny _ _ (do
      let ov ← holding [w] (eval o env)
      standAt p.atName
      holding [w, ov] (setAttr ov attr w)
      release [w, ov] []) _ _ _
    refine wpAny_bind (wpAny_holding (wpAny_mono (h s0 s sm hs) (fun ov s1 ⟨_, _, a, b, q⟩ => ?_) fun _ _ x => x))
    refine wpAny_bind (wpAny_standAt (wpAny_bind (wpAny_holding (wpAny_mono (q ov w rfl e.1 s0 s1 b a) (fun _ s2 ⟨_, _, a, b, q⟩ => wpAny_release (q ws e.2 s0 s2 b a)) fun _ _ x => x))))
theorem x_tup {nm : Str} {sc : Scope} {fa : Addr} {cd : Value} {cl : List (Str × Addr)} {ts : List Expr} {k : Nat} {tpos pos : Pos} {e : Expr}
    (h : Ev c (envX nm sc L fa cd cl) e lo H fun v lo H => ∃ t vs, v = .ref t ∧ (t, .tup vs) ∈ H ∧ (assignEach ts (envX nm sc L fa cd cl)).length = vs.length ∧ Ain c (envX nm sc L fa cd cl) ts vs lo H N)
    (hstar : (assignEach ts (envX nm sc L fa cd cl)).findIdx? (·.1) = none := by rfl)
    (hsw : swapsWithSole [.Tuple ts k tpos] e pos.line (envX nm sc L fa cd cl) = pure false := by rfl) (hw : swappedStores [.Tuple ts k tpos] e (envX nm sc L fa cd cl) = pure none := by rfl) :
    X1 c (envX nm sc L fa cd cl) (.Assign [.Tuple ts k tpos] e pos) lo H N R :=
  fun s0 s sm hs => Assign_Tuple (wpAny_mono (h s0 s sm hs) (fun v s1 ⟨lo1, H1, a1, b1, t, vs, ev, hm, hn, q⟩ => by
    obtain rfl := er_ref ev
    obtain ⟨its, n, hg, e⟩ := a1.tup hm
    obtain ⟨m, news, F, hl, N, kk⟩ := a1.same
    exact unpackN_ F N (tupI hg) c.hh (by rw [hn, map_len e]) hstar fun h' F' N' => q its.toList e s0 _ b1 (kk h' s1.toks F' N')) fun _ _ x => x) hsw hw
end

/-! builtins -/
theorem c_len {a : Addr} {vs : List Value} {Q : Value → Lo → Hp → Prop} (hm : (a, .list vs) ∈ H) (hz : vs.length ≤ 1000) (h : Q (I vs.length) lo H) : Cl c (.builtin "len") [.ref a] lo H Q :=
  cl1 fun o eo s0 s sm hs => by
    obtain rfl := er_ref eo
    obtain ⟨its, n, hg, e⟩ := hs.list hm
    exact PyProof.Rows.len_list (isl hg) (by rw [map_len e]; omega) ⟨lo, H, hs.toks _, sm, by show Q (I its.size) lo H; rw [map_len e]; exact h⟩
theorem c_isint {i : Int} {C : Addr} {Q : Value → Lo → Hp → Prop} (e : isNotIn g.K "int" C = true) (h : Q (.bool false) lo H) : Cl c (.builtin "isinstance") [I i, .ref C] lo H Q :=
  cl2 fun v o ev eo s0 s sm hs => by
    obtain ⟨t, rfl⟩ := er_int ev
    obtain rfl := er_ref eo
    exact isn_call (T := "int") (P := fun _ => True) hs.X (fun _ => Looks.of_pure rfl) e (by intro h; cases h) trivial int_cls ⟨lo, H, hs.toks _, sm, h⟩
theorem c_isinst {a C dx C' : Addr} {Q : Value → Lo → Hp → Prop} (hm : (a, .inst C dx) ∈ H) (e : isIn g.K (.ref C) C' = true) (h : Q (.bool true) lo H) : Cl c (.builtin "isinstance") [.ref a, .ref C'] lo H Q :=
  cl2 fun v o ev eo s0 s sm hs => by
    obtain rfl := er_ref ev
    obtain rfl := er_ref eo
    exact isi_call (t := .ref C) hs.X (fun _ => (Looks.ld (part := none) (hs.inst hm)).andThen .now) e (by intro h; cases h) ⟨lo, H, hs, sm, h⟩
theorem c_range {n : Int} {Q : Value → Lo → Hp → Prop} (h : ∀ a, Q (.ref a) lo ((a, .range n) :: H)) : Cl c (.type "range") [I n] lo H Q :=
  cl1 fun o eo s0 s sm hs => by
    obtain ⟨t, rfl⟩ := er_int eo
    exact call_range_1 ⟨lo, _, hs.add (ao := .range n) ⟨_, _, _, rfl⟩ rfl _, sm, h _⟩
theorem c_max {i j : Int} {Q : Value → Lo → Hp → Prop} (h : Q (I (max i j)) lo H) : Cl c (.builtin "max") [I i, I j] lo H Q :=
  cl2 fun o w eo ew s0 s sm hs => by
    obtain ⟨t, rfl⟩ := er_int eo
    obtain ⟨u, rfl⟩ := er_int ew
    obtain ⟨m, news, F, hl, N, kk⟩ := hs.same
    refine max_two_N c.hh F N fun h' tk F' N' => ⟨lo, H, kk h' tk F' N', sm, ?_⟩
    show Q (I (if j > i then j else i)) lo H
    rw [show (if j > i then j else i) = max i j by split <;> omega]; exact h
theorem c_listcopy {a : Addr} {vs : List Value} {Q : Value → Lo → Hp → Prop} (hm : (a, .list vs) ∈ H) (hz : vs.length ≤ 1000) (h : ∀ b, Q (.ref b) lo ((b, .list vs) :: H)) : Cl c (.type "list") [.ref a] lo H Q :=
  cl1 fun o eo s0 s sm hs => by
    obtain rfl := er_ref eo
    obtain ⟨its, n, hg, e⟩ := hs.list hm
    exact call_list_seq (hsz := by rw [map_len e, sizeLine_eq]; omega) a (.inl rfl) hg rfl rfl fun h' c' hk hD => ⟨lo, _, hs.addAt (ao := .list vs) hk (Nat.le_refl _) hD ⟨its, c', rfl, e⟩ _, sm, h _⟩
theorem c_listrange {r : Addr} {n : Nat} {Q : Value → Lo → Hp → Prop} (hm : (r, .range n) ∈ H) (hz : n ≤ 1000) (h : ∀ b, Q (.ref b) lo ((b, .list ((List.range n).map fun i : Nat => I (i : Int))) :: H)) : Cl c (.type "list") [.ref r] lo H Q :=
  cl1 fun o eo s0 s sm hs => by
    obtain rfl := er_ref eo
    obtain ⟨o, hg, t, u, w, rfl⟩ := hs.get hm
    refine call_list_range c.hh (r := r) (a := 0) (b := n) (c := 1) (n := n) hg (small_one (by decide) (by decide) (by omega) (by omega)) (by rw [rangeSize_one]; split <;> omega) (by omega) fun h' tk acc c' hk hS hacc => ?_
    refine ⟨lo, _, hs.addAt hk (Nat.le_refl _) hS (ao := .list ((List.range n).map fun i : Nat => I (i : Int))) ⟨acc, c', rfl, ?_⟩ _, sm, h _⟩
    apply List.ext_getElem
    · simp [hacc.1]
    · intro j h1 h2
      simp only [List.getElem_map, List.getElem_range]
      obtain ⟨tk', e⟩ := hacc.2 j (acc[j]'(by simpa using h1)) (by simp at h1; simp [h1])
      simp only [Array.getElem_toList, e]
      show Value.int _ 0 = _
      congr 1; omega
theorem c_sum {a : Addr} {ns : List Int} {Q : Value → Lo → Hp → Prop} (hm : (a, .list (ns.map I)) ∈ H) (h : Q (I ns.sum) lo H) : Cl c (.builtin "sum") [.ref a] lo H Q :=
  cl1 fun o eo s0 s sm hs => by
    obtain rfl := er_ref eo
    obtain ⟨its, n, hg, e⟩ := hs.list hm
    have hi := ints_of e
    obtain ⟨xs, hx⟩ := (hi.allInts).items
    have hl := isl' hg
    rw [hx] at hl
    refine PySem.sum_intListG c.hh hl fun h' tk t' hk => ⟨lo, H, hs.ext hk _, sm, ?_⟩
    show Q (I _) lo H
    have e2 := hi.numsOf
    have e3 : its.toList = (intItems xs).toList := by rw [← hx]
    rw [e3, nums_intItems] at e2
    rw [preSum_eq, List.take_of_length_le (by simp), e2]; exact h
theorem c_sorted {a : Addr} {ns : List Int} {Q : Value → Lo → Hp → Prop} (hm : (a, .list (ns.map I)) ∈ H) (hz : ns.length < 64) (h : ∀ b (ns' : List Int), ns'.Perm ns → ns'.Pairwise (· ≤ ·) → Q (.ref b) lo ((b, .list (ns'.map I)) :: H)) : Cl c (.builtin "sorted") [.ref a] lo H Q :=
  cl1 fun o eo s0 s sm hs => by
    obtain rfl := er_ref eo
    obtain ⟨its, n, hg, e⟩ := hs.list hm
    have hi := ints_of e
    obtain ⟨m, raw, F, hl, N, k⟩ := hs.new
    refine sorted_N F N (isl' hg) hi (by rw [hi.length]; exact hz) fun h' vs' ns' e F' N' hi' hp hs' => ⟨lo, _, k h' _ _ _ (.list (ns'.map I)) F' N' (by omega) ⟨vs'.toArray, e, rfl, ?_⟩, sm, h _ _ hp hs'⟩
    exact ers hi'
where
  ers : ∀ {vs : List Value} {ns : List Int}, IntsAre vs ns → vs.map er = ns.map I
    | _, _, .nil => rfl
    | _, _, .cons k t r => by rw [List.map_cons, List.map_cons, ers r]; rfl

/-! operators on lists -/
section
variable {Q : Value → Lo → Hp → Prop} {QB : Bool → Lo → Hp → Prop} {a b : Addr}
theorem o_lplus {vs us : List Value} (h1 : (a, .list vs) ∈ H) (h2 : (b, .list us) ∈ H) (hz : vs.length + us.length ≤ 1000) (h : ∀ d, Q (.ref d) lo ((d, .list (vs ++ us)) :: H)) : L2 c (binaryOp .Add) (.ref a) (.ref b) lo H (EQ Q) := fun v w ev ew s0 s sm hs => by
  obtain rfl := er_ref ev
  obtain rfl := er_ref ew
  obtain ⟨its, n, hg, e⟩ := hs.list h1
  obtain ⟨its2, n2, hg2, e2⟩ := hs.list h2
  obtain ⟨m, raw, F, hl, N, k⟩ := hs.new
  have l1 := map_len e
  have l2 := map_len e2
  refine add_arrays F N (isl hg) (isl hg2) (fun h' F' N' => ⟨lo, _, k h' _ _ _ (.list (vs ++ us)) F' N' (Nat.le_refl _) ⟨_, 0, rfl, by simp [e, e2]⟩, sm, h _⟩) ?_
  rw [sizeLine_eq]; omega
theorem o_leq {ns ms : List Int} (h1 : (a, .list (ns.map I)) ∈ H) (h2 : (b, .list (ms.map I)) ∈ H) (h : Q (.bool (decide (ns = ms))) lo H) : L2 c (compareOp .Eq) (.ref a) (.ref b) lo H (EQ Q) := fun v w ev ew s0 s sm hs => by
  obtain rfl := er_ref ev
  obtain rfl := er_ref ew
  obtain ⟨its, n, hg, e⟩ := hs.list h1
  obtain ⟨its2, n2, hg2, e2⟩ := hs.list h2
  exact eq_intsK (isl' hg) (ints_of e) (isl' hg2) (ints_of e2) c.u ⟨lo, H, hs, sm, h⟩
theorem o_lne {ns ms : List Int} (h1 : (a, .list (ns.map I)) ∈ H) (h2 : (b, .list (ms.map I)) ∈ H) (h : Q (.bool (!decide (ns = ms))) lo H) : L2 c (compareOp .NotEq) (.ref a) (.ref b) lo H (EQ Q) := fun v w ev ew s0 s sm hs => by
  obtain rfl := er_ref ev
  obtain rfl := er_ref ew
  obtain ⟨its, n, hg, e⟩ := hs.list h1
  obtain ⟨its2, n2, hg2, e2⟩ := hs.list h2
  exact ne_intsK (isl' hg) (ints_of e) (isl' hg2) (ints_of e2) c.u ⟨lo, H, hs, sm, h⟩
theorem any_mem (ns : List Int) (k : Int) : ns.any (· == k) = decide (k ∈ ns) := by
  induction ns with
  | nil => simp
  | cons a r ih => 
    rw [List.any_cons, ih]
    by_cases h : a = k
    · simp [h]
    · rw [beq_eq_false_iff_ne.mpr h, Bool.false_or]
      have h2 : k ≠ a := fun e => h e.symm
      simp [h2]
theorem o_in {ns : List Int} {k : Int} (h1 : (a, .list (ns.map I)) ∈ H) (h : Q (.bool (decide (k ∈ ns))) lo H) : L2 c (compareOp .In) (I k) (.ref a) lo H (EQ Q) := fun v w ev ew s0 s sm hs => by
  obtain ⟨t, rfl⟩ := er_int ev
  obtain rfl := er_ref ew
  obtain ⟨its, n, hg, e⟩ := hs.list h1
  exact in_list_ints (isl' hg) (ints_of e) ⟨lo, H, hs, sm, by rw [any_mem]; exact h⟩
theorem o_notin {ns : List Int} {k : Int} (h1 : (a, .list (ns.map I)) ∈ H) (h : Q (.bool (!decide (k ∈ ns))) lo H) : L2 c (compareOp .NotIn) (I k) (.ref a) lo H (EQ Q) := fun v w ev ew s0 s sm hs => by
  obtain ⟨t, rfl⟩ := er_int ev
  obtain rfl := er_ref ew
  obtain ⟨its, n, hg, e⟩ := hs.list h1
  exact notin_list_ints (isl' hg) (ints_of e) ⟨lo, H, hs, sm, by rw [any_mem]; exact h⟩
theorem o_tl {vs : List Value} (h1 : (a, .list vs) ∈ H) (hz : vs.length ≤ 1000) (h : QB (!vs.isEmpty) lo H) : L1 c truthy (.ref a) lo H QB := fun v ev s0 s sm hs => by
  obtain rfl := er_ref ev
  obtain ⟨its, n, hg, e⟩ := hs.list h1
  refine wpAny_truthy_list (isl hg) (by rw [map_len e]; omega) ⟨lo, H, hs.toks _, sm, ?_⟩
  have : its.isEmpty = vs.isEmpty := by subst e; simp [Array.isEmpty, List.isEmpty_iff, Array.size_eq_zero_iff]
  rw [this]; exact h
theorem e_slice3 {env : Env} {e : Expr} {pos : Pos} (h : Ev c env e lo H fun v lo H => ∀ t, Q (.ref t) lo ((t, .slice .none .none v) :: H)) : Ev c env (.Slice none none (some e) pos) lo H Q := fun s0 s sm hs => by
  show wpAny _ _ (do
    let l ← valueOrNone none
    let u ← holding [l] (valueOrNone none)
    let s ← holding [l, u] (eval e env)
    newFields "slice" [l, u, s]) _ _ _
  refine wpAny_bind (wpAny_pure (wpAny_bind (wpAny_holding (wpAny_pure (wpAny_bind (wpAny_holding (wpAny_mono (h s0 s sm hs) (fun v s1 ⟨lo, H, a, b, q⟩ => ?_) fun _ _ x => x)))))))
  exact wpAny_newObj_type ⟨lo, _, a.add (ao := .slice .none .none (er v)) ⟨_, _, _, rfl, rfl, rfl, rfl⟩ rfl _, b, q _⟩
theorem e_slice13 {env : Env} {e1 e : Expr} {pos : Pos} (h : Ev c env e1 lo H fun u lo H => Ev c env e lo H fun v lo H => ∀ t, Q (.ref t) lo ((t, .slice u .none v) :: H)) : Ev c env (.Slice (some e1) none (some e) pos) lo H Q := fun s0 s sm hs => by
  show wpAny _ _ (do
    let l ← eval e1 env
    let u ← holding [l] (valueOrNone none)
    let s ← holding [l, u] (eval e env)
    newFields "slice" [l, u, s]) _ _ _
  refine wpAny_bind (wpAny_mono (h s0 s sm hs) (fun l s1 ⟨lo, H, a, b, q⟩ => ?_) fun _ _ x => x)
  refine wpAny_bind (wpAny_holding (wpAny_pure (wpAny_bind (wpAny_holding (wpAny_mono (q s0 s1 b a) (fun v s1 ⟨lo, H, a, b, q⟩ => ?_) fun _ _ x => x)))))
  exact wpAny_newObj_type ⟨lo, _, a.add (ao := .slice (er l) .none (er v)) ⟨_, _, _, rfl, rfl, rfl, rfl⟩ rfl _, b, q _⟩
theorem part_none {v : Value} (h : er v = .none) : IsPart v none := by obtain rfl := er_none h; exact .none
theorem part_int {v : Value} {i : Int} (h : er v = I i) : IsPart v (some i) := by obtain ⟨t, rfl⟩ := er_int h; exact .int i t
theorem o_slicetail {vs : List Value} {x y z : Value} {p q r : Option Int} {ve se : Expr} {sl : Addr} (h1 : (a, .list vs) ∈ H) (h2 : (sl, .slice x y z) ∈ H) (hx : ∀ v, er v = x → IsPart v p) (hy : ∀ v, er v = y → IsPart v q) (hz' : ∀ v, er v = z → IsPart v r) (h0 : r ≠ some 0)
    (hz : vs.length ≤ 1000) (h : ∀ d its, its.toList.map er = vs → Q (.ref d) lo ((d, .list ((slicePick its p q r).toList.map er)) :: H))
    (ops : List Value := [.ref a, .ref sl]) (hsb : subscripted se false (.ref a) (.ref sl) = operate ops (getItem (.ref a) (.ref sl)) := by with_unfolding_all rfl) :
    L2 c (subscriptTail ve se) (.ref a) (.ref sl) lo H (EQ Q) := fun v w ev ew s0 s sm hs => by
  obtain rfl := er_ref ev
  obtain rfl := er_ref ew
  obtain ⟨its, n, hg, e⟩ := hs.list h1
  obtain ⟨o, ho, x', y', z', rfl, ex, ey, ez⟩ := hs.get h2
  refine tail_any (isl hg).typeIs slot_list_getitem.lookup (wpAny_getItem_list_slice (isl hg) ⟨_, ho, rfl, rfl⟩ (hx _ ex) (hy _ ey) (hz' _ ez) h0 ?_ (by rw [map_len e, sizeLine_eq]; omega)) hsb
  exact ⟨lo, _, hs.add (ao := .list ((slicePick its p q r).toList.map er)) ⟨_, 0, rfl, rfl⟩ rfl _, sm, h _ its e⟩
end
end Mine

namespace Mine
noncomputable abbrev gd (w : World) (mg mb : Str → Option Value) : Gd := ⟨PySem.Challenge.rw_pf0210_01.row.prog, w, hd.heap_39 w.params, hd.view_39, looseW hd.view_39 [Str.ofString "Thrown"], mg, mb⟩
section
variable {w : World} {mg mb : Str → Option Value}
theorem gl_Absent : nsIn (gd w mg mb).K mainGlobals "Absent" = some (some (.ref 61)) := by kernel_rfl
theorem kp_Absent : keepIn (gd w mg mb).K (.ref 61) = true := by kernel_rfl
theorem gl_Arr : nsIn (gd w mg mb).K mainGlobals "Arr" = some (some (.ref 188)) := by kernel_rfl
theorem kp_Arr : keepIn (gd w mg mb).K (.ref 188) = true := by kernel_rfl
theorem gl_taken : nsIn (gd w mg mb).K mainGlobals "taken" = some (some (.ref 279)) := by kernel_rfl
theorem kp_taken : keepIn (gd w mg mb).K (.ref 279) = true := by kernel_rfl
theorem gl_LinkList : nsIn (gd w mg mb).K mainGlobals "LinkList" = some (some (.ref 296)) := by kernel_rfl
theorem kp_LinkList : keepIn (gd w mg mb).K (.ref 296) = true := by kernel_rfl
theorem gl_new_node : nsIn (gd w mg mb).K mainGlobals "new_node" = some (some (.ref 307)) := by kernel_rfl
theorem kp_new_node : keepIn (gd w mg mb).K (.ref 307) = true := by kernel_rfl
theorem gl_unlink : nsIn (gd w mg mb).K mainGlobals "unlink" = some (some (.ref 314)) := by kernel_rfl
theorem kp_unlink : keepIn (gd w mg mb).K (.ref 314) = true := by kernel_rfl
theorem gl_is_gone : nsIn (gd w mg mb).K mainGlobals "is_gone" = some (some (.ref 321)) := by kernel_rfl
theorem kp_is_gone : keepIn (gd w mg mb).K (.ref 321) = true := by kernel_rfl
theorem gl_link_push : nsIn (gd w mg mb).K mainGlobals "link_push" = some (some (.ref 328)) := by kernel_rfl
theorem kp_link_push : keepIn (gd w mg mb).K (.ref 328) = true := by kernel_rfl
theorem gl_link_unshift : nsIn (gd w mg mb).K mainGlobals "link_unshift" = some (some (.ref 335)) := by kernel_rfl
theorem kp_link_unshift : keepIn (gd w mg mb).K (.ref 335) = true := by kernel_rfl
theorem gl_link_pop : nsIn (gd w mg mb).K mainGlobals "link_pop" = some (some (.ref 342)) := by kernel_rfl
theorem kp_link_pop : keepIn (gd w mg mb).K (.ref 342) = true := by kernel_rfl
theorem gl_link_shift : nsIn (gd w mg mb).K mainGlobals "link_shift" = some (some (.ref 349)) := by kernel_rfl
theorem kp_link_shift : keepIn (gd w mg mb).K (.ref 349) = true := by kernel_rfl
theorem gl_link_at : nsIn (gd w mg mb).K mainGlobals "link_at" = some (some (.ref 356)) := by kernel_rfl
theorem kp_link_at : keepIn (gd w mg mb).K (.ref 356) = true := by kernel_rfl
theorem gl_link_add : nsIn (gd w mg mb).K mainGlobals "link_add" = some (some (.ref 363)) := by kernel_rfl
theorem kp_link_add : keepIn (gd w mg mb).K (.ref 363) = true := by kernel_rfl
theorem gl_link_drop : nsIn (gd w mg mb).K mainGlobals "link_drop" = some (some (.ref 370)) := by kernel_rfl
theorem kp_link_drop : keepIn (gd w mg mb).K (.ref 370) = true := by kernel_rfl
theorem gl_link_values : nsIn (gd w mg mb).K mainGlobals "link_values" = some (some (.ref 377)) := by kernel_rfl
theorem kp_link_values : keepIn (gd w mg mb).K (.ref 377) = true := by kernel_rfl
theorem gl_stand_on : nsIn (gd w mg mb).K mainGlobals "stand_on" = some (some (.ref 384)) := by kernel_rfl
theorem kp_stand_on : keepIn (gd w mg mb).K (.ref 384) = true := by kernel_rfl
theorem gl_link_rewind : nsIn (gd w mg mb).K mainGlobals "link_rewind" = some (some (.ref 391)) := by kernel_rfl
theorem kp_link_rewind : keepIn (gd w mg mb).K (.ref 391) = true := by kernel_rfl
theorem gl_link_step : nsIn (gd w mg mb).K mainGlobals "link_step" = some (some (.ref 398)) := by kernel_rfl
theorem kp_link_step : keepIn (gd w mg mb).K (.ref 398) = true := by kernel_rfl
theorem gl_link_current : nsIn (gd w mg mb).K mainGlobals "link_current" = some (some (.ref 405)) := by kernel_rfl
theorem kp_link_current : keepIn (gd w mg mb).K (.ref 405) = true := by kernel_rfl
theorem gl_link_copy : nsIn (gd w mg mb).K mainGlobals "link_copy" = some (some (.ref 412)) := by kernel_rfl
theorem kp_link_copy : keepIn (gd w mg mb).K (.ref 412) = true := by kernel_rfl
theorem gl_law_told : nsIn (gd w mg mb).K mainGlobals "_law_told" = some (some (.ref 419)) := by kernel_rfl
theorem kp_law_told : keepIn (gd w mg mb).K (.ref 419) = true := by kernel_rfl
theorem gl_law_draw : nsIn (gd w mg mb).K mainGlobals "_law_draw" = some (some (.ref 426)) := by kernel_rfl
theorem kp_law_draw : keepIn (gd w mg mb).K (.ref 426) = true := by kernel_rfl
theorem gl_law_at_ends : nsIn (gd w mg mb).K mainGlobals "_law_at_ends" = some (some (.ref 433)) := by kernel_rfl
theorem kp_law_at_ends : keepIn (gd w mg mb).K (.ref 433) = true := by kernel_rfl
theorem gl_law_added : nsIn (gd w mg mb).K mainGlobals "_law_added" = some (some (.ref 440)) := by kernel_rfl
theorem kp_law_added : keepIn (gd w mg mb).K (.ref 440) = true := by kernel_rfl
theorem gl_law_dropped : nsIn (gd w mg mb).K mainGlobals "_law_dropped" = some (some (.ref 447)) := by kernel_rfl
theorem kp_law_dropped : keepIn (gd w mg mb).K (.ref 447) = true := by kernel_rfl
theorem gl_law_rewound : nsIn (gd w mg mb).K mainGlobals "_law_rewound" = some (some (.ref 454)) := by kernel_rfl
theorem kp_law_rewound : keepIn (gd w mg mb).K (.ref 454) = true := by kernel_rfl
theorem gl_law_stepped : nsIn (gd w mg mb).K mainGlobals "_law_stepped" = some (some (.ref 461)) := by kernel_rfl
theorem kp_law_stepped : keepIn (gd w mg mb).K (.ref 461) = true := by kernel_rfl
theorem gl_law_deed : nsIn (gd w mg mb).K mainGlobals "_law_deed" = some (some (.ref 468)) := by kernel_rfl
theorem kp_law_deed : keepIn (gd w mg mb).K (.ref 468) = true := by kernel_rfl
theorem gl_law_nodes : nsIn (gd w mg mb).K mainGlobals "_law_nodes" = some (some (.ref 475)) := by kernel_rfl
theorem kp_law_nodes : keepIn (gd w mg mb).K (.ref 475) = true := by kernel_rfl
theorem gl_law_linked : nsIn (gd w mg mb).K mainGlobals "_law_linked" = some (some (.ref 480)) := by kernel_rfl
theorem kp_law_linked : keepIn (gd w mg mb).K (.ref 480) = true := by kernel_rfl
theorem gl_law_marked : nsIn (gd w mg mb).K mainGlobals "_law_marked" = some (some (.ref 487)) := by kernel_rfl
theorem kp_law_marked : keepIn (gd w mg mb).K (.ref 487) = true := by kernel_rfl
theorem gl_law_thrifty : nsIn (gd w mg mb).K mainGlobals "_law_thrifty" = some (some (.ref 494)) := by kernel_rfl
theorem kp_law_thrifty : keepIn (gd w mg mb).K (.ref 494) = true := by kernel_rfl
theorem gl_law_copied : nsIn (gd w mg mb).K mainGlobals "_law_copied" = some (some (.ref 501)) := by kernel_rfl
theorem kp_law_copied : keepIn (gd w mg mb).K (.ref 501) = true := by kernel_rfl
theorem gl_law_kept : nsIn (gd w mg mb).K mainGlobals "_law_kept" = some (some (.ref 508)) := by kernel_rfl
theorem kp_law_kept : keepIn (gd w mg mb).K (.ref 508) = true := by kernel_rfl
theorem gb_isinstance : nsIn (gd w mg mb).K mainGlobals "isinstance" = some none := by kernel_rfl
theorem gb_len : nsIn (gd w mg mb).K mainGlobals "len" = some none := by kernel_rfl
theorem gb_max : nsIn (gd w mg mb).K mainGlobals "max" = some none := by kernel_rfl
theorem gb_sorted : nsIn (gd w mg mb).K mainGlobals "sorted" = some none := by kernel_rfl
theorem gb_list : nsIn (gd w mg mb).K mainGlobals "list" = some none := by kernel_rfl
theorem gb_range : nsIn (gd w mg mb).K mainGlobals "range" = some none := by kernel_rfl
theorem gb_enumerate : nsIn (gd w mg mb).K mainGlobals "enumerate" = some none := by kernel_rfl
theorem gb_sum : nsIn (gd w mg mb).K mainGlobals "sum" = some none := by kernel_rfl
theorem fo_values : FieldOk (gd w mg mb).K 296 "values" := ⟨by kernel_rfl, by kernel_rfl, by kernel_rfl⟩
theorem so_values : StoreOk (gd w mg mb).K 296 "values" := ⟨by kernel_rfl, by kernel_rfl, by kernel_rfl, by kernel_rfl⟩
theorem fo_nexts : FieldOk (gd w mg mb).K 296 "nexts" := ⟨by kernel_rfl, by kernel_rfl, by kernel_rfl⟩
theorem so_nexts : StoreOk (gd w mg mb).K 296 "nexts" := ⟨by kernel_rfl, by kernel_rfl, by kernel_rfl, by kernel_rfl⟩
theorem fo_prevs : FieldOk (gd w mg mb).K 296 "prevs" := ⟨by kernel_rfl, by kernel_rfl, by kernel_rfl⟩
theorem so_prevs : StoreOk (gd w mg mb).K 296 "prevs" := ⟨by kernel_rfl, by kernel_rfl, by kernel_rfl, by kernel_rfl⟩
theorem fo_head : FieldOk (gd w mg mb).K 296 "head" := ⟨by kernel_rfl, by kernel_rfl, by kernel_rfl⟩
theorem so_head : StoreOk (gd w mg mb).K 296 "head" := ⟨by kernel_rfl, by kernel_rfl, by kernel_rfl, by kernel_rfl⟩
theorem fo_tail : FieldOk (gd w mg mb).K 296 "tail" := ⟨by kernel_rfl, by kernel_rfl, by kernel_rfl⟩
theorem so_tail : StoreOk (gd w mg mb).K 296 "tail" := ⟨by kernel_rfl, by kernel_rfl, by kernel_rfl, by kernel_rfl⟩
theorem fo_count : FieldOk (gd w mg mb).K 296 "count" := ⟨by kernel_rfl, by kernel_rfl, by kernel_rfl⟩
theorem so_count : StoreOk (gd w mg mb).K 296 "count" := ⟨by kernel_rfl, by kernel_rfl, by kernel_rfl, by kernel_rfl⟩
theorem fo_free : FieldOk (gd w mg mb).K 296 "free" := ⟨by kernel_rfl, by kernel_rfl, by kernel_rfl⟩
theorem so_free : StoreOk (gd w mg mb).K 296 "free" := ⟨by kernel_rfl, by kernel_rfl, by kernel_rfl, by kernel_rfl⟩
theorem fo_flags : FieldOk (gd w mg mb).K 296 "flags" := ⟨by kernel_rfl, by kernel_rfl, by kernel_rfl⟩
theorem so_flags : StoreOk (gd w mg mb).K 296 "flags" := ⟨by kernel_rfl, by kernel_rfl, by kernel_rfl, by kernel_rfl⟩
theorem fo_cursor : FieldOk (gd w mg mb).K 296 "cursor" := ⟨by kernel_rfl, by kernel_rfl, by kernel_rfl⟩
theorem so_cursor : StoreOk (gd w mg mb).K 296 "cursor" := ⟨by kernel_rfl, by kernel_rfl, by kernel_rfl, by kernel_rfl⟩
theorem fo_place : FieldOk (gd w mg mb).K 296 "place" := ⟨by kernel_rfl, by kernel_rfl, by kernel_rfl⟩
theorem so_place : StoreOk (gd w mg mb).K 296 "place" := ⟨by kernel_rfl, by kernel_rfl, by kernel_rfl, by kernel_rfl⟩
theorem so_was_unset : StoreOk (gd w mg mb).K 61 "was_unset" := ⟨by kernel_rfl, by kernel_rfl, by kernel_rfl, by kernel_rfl⟩
theorem not_arr : isNotIn (gd w mg mb).K "int" 188 = true := by kernel_rfl
theorem not_absent : isNotIn (gd w mg mb).K "int" 61 = true := by kernel_rfl
theorem is_absent : isIn (gd w mg mb).K (.ref 61) 61 = true := by kernel_rfl
theorem mk_line : makesIn (gd w mg mb).K 296 = true := by kernel_rfl
theorem mk_absent : makesIn (gd w mg mb).K 61 = true := by kernel_rfl
end
end Mine

namespace Mine
section
variable {g : Gd} {L : Addr} {c : Cx g L} {lo : Lo} {H H' : Hp}
theorem e_callK {nm : Str} {sc : Scope} {fa : Addr} {cd : Value} {cl : List (Str × Addr)} {x : Str} {p pos : Pos} {es : List Expr} {f : Addr} {Q : Value → Lo → Hp → Prop} (hn : nsIn g.K mainGlobals x = some (some (.ref f))) (hk : keepIn g.K (.ref f) = true)
    (h : As c (envX nm sc L fa cd cl) pos es lo H fun vs lo H => Cl c (.ref f) vs lo H Q)
    (hs : sc.kind = .function := by rfl) (hx : (envX nm sc L fa cd cl).kindOf x = some .globalImplicit := by rfl) (hd : (x == ("__debug__" : Str)) = false := by decide)
    (hp : (backTo pos (starEach es (envX nm sc L fa cd cl))).any (·.1) = false := by rfl) : Ev c (envX nm sc L fa cd cl) (.Call (.Name x p) es [] pos) lo H Q :=
  e_call (f := .ref f) (e_glob hn ⟨rfl, h⟩ hs hx hd) er_fix_ref (kp_K hk) hp rfl
theorem e_callB {nm : Str} {sc : Scope} {fa : Addr} {cd : Value} {cl : List (Str × Addr)} {x : Str} {p pos : Pos} {es : List Expr} {f : String} {Q : Value → Lo → Hp → Prop} (hn : nsIn g.K mainGlobals x = some none) (hb : bootBuiltins x = some (.builtin f))
    (h : As c (envX nm sc L fa cd cl) pos es lo H fun vs lo H => Cl c (.builtin f) vs lo H Q)
    (hne : x ≠ "__name__" := by decide)
    (hs : sc.kind = .function := by rfl) (hx : (envX nm sc L fa cd cl).kindOf x = some .globalImplicit := by rfl) (hd : (x == ("__debug__" : Str)) = false := by decide)
    (hp : (backTo pos (starEach es (envX nm sc L fa cd cl))).any (·.1) = false := by rfl) : Ev c (envX nm sc L fa cd cl) (.Call (.Name x p) es [] pos) lo H Q :=
  e_call (f := .builtin f) (e_boot hn hb hne ⟨rfl, h⟩ hs hx hd) er_fix_builtin kp_builtin hp rfl
theorem e_callT {nm : Str} {sc : Scope} {fa : Addr} {cd : Value} {cl : List (Str × Addr)} {x : Str} {p pos : Pos} {es : List Expr} {f : String} {Q : Value → Lo → Hp → Prop} (hn : nsIn g.K mainGlobals x = some none) (hb : bootBuiltins x = some (.type f))
    (h : As c (envX nm sc L fa cd cl) pos es lo H fun vs lo H => Cl c (.type f) vs lo H Q)
    (hne : x ≠ "__name__" := by decide)
    (hs : sc.kind = .function := by rfl) (hx : (envX nm sc L fa cd cl).kindOf x = some .globalImplicit := by rfl) (hd : (x == ("__debug__" : Str)) = false := by decide)
    (hp : (backTo pos (starEach es (envX nm sc L fa cd cl))).any (·.1) = false := by rfl) : Ev c (envX nm sc L fa cd cl) (.Call (.Name x p) es [] pos) lo H Q :=
  e_call (f := .type f) (e_boot hn hb hne ⟨rfl, h⟩ hs hx hd) er_fix_type kp_type hp rfl
theorem x_name' {nm : Str} {sc : Scope} {fa : Addr} {cd : Value} {cl : List (Str × Addr)} {x : Str} {e : Expr} {p1 pos : Pos} {N : Lo → Hp → Prop} {R : Value → Hp → Prop} (h : Ev c (envX nm sc L fa cd cl) e lo H fun v lo H => ∃ lo', PutF x v lo lo' ∧ N lo' H)
    (hk : sc.kind = .function := by rfl) (hl : (envX nm sc L fa cd cl).kindOf x = some .local := by rfl)
    (hsw : swapsWith e (some (.Name x p1)) pos.line (envX nm sc L fa cd cl) = pure false := by rfl) : X1 c (envX nm sc L fa cd cl) (.Assign [.Name x p1] e pos) lo H N R := x_name h hk hl hsw

/-! int lists -/
section
variable {Q : Value → Lo → Hp → Prop} {N : Lo → Hp → Prop} {a : Addr} {ns : List Int} {k i : Int} {ve se : Expr}
theorem get_ints (h0 : 0 ≤ k) (h1 : k < ns.length) : (ns.map I)[k.toNat]? = some (I (ns.getD k.toNat (-1))) := by
  have : k.toNat < ns.length := by omega
  simp [this]
theorem o_tailI (hm : (a, .list (ns.map I)) ∈ H) (h0 : 0 ≤ k) (h1 : k < ns.length) (hz : ns.length ≤ 1000) (h : Q (I (ns.getD k.toNat (-1))) lo H)
    (hsb : ∀ t, subscripted se false (.ref a) (.int k t) = operate [.ref a, .int k t] (getItem (.ref a) (.int k t)) := by intro _; with_unfolding_all rfl) :
    L2 c (subscriptTail ve se) (.ref a) (I k) lo H (EQ Q) := o_tail hm h0 (by omega) (get_ints h0 h1) h hsb
theorem o_setI (p : Put a (.list (ns.map I)) (.list ((ns.set k.toNat i).map I)) H H') (h0 : 0 ≤ k) (h1 : k < ns.length) (hz : ns.length ≤ 1000) (h : N lo H') : L3 c setItem (.ref a) (I k) (I i) lo H (fun _ => N) :=
  o_setitem (v := I i) (by rw [List.map_set] at p; exact p) h0 (by omega) (by rw [List.length_map]; exact h1) h
theorem c_appendI (p : Put a (.list (ns.map I)) (.list ((ns ++ [i]).map I)) H H') (hz : ns.length ≤ 1000) (h : Q .none lo H') : Cl c (.builtin "list.append") [.ref a, I i] lo H Q :=
  c_append (v := I i) (by rw [List.map_append] at p; exact p) (by rw [List.length_map]; exact hz) h
theorem c_popI (p : Put a (.list ((ns ++ [i]).map I)) (.list (ns.map I)) H H') (hz : ns.length ≤ 1000) (h : Q (I i) lo H') : Cl c (.builtin "list.pop") [.ref a] lo H Q :=
  c_pop (v := I i) (by rw [List.map_append] at p; exact p) (by rw [List.length_map]; exact hz) h
theorem c_lenI (hm : (a, .list (ns.map I)) ∈ H) (hz : ns.length ≤ 1000) (h : Q (I ns.length) lo H) : Cl c (.builtin "len") [.ref a] lo H Q :=
  c_len hm (by rw [List.length_map]; exact hz) (by rw [List.length_map]; exact h)
theorem o_tlI {QB : Bool → Lo → Hp → Prop} (hm : (a, .list (ns.map I)) ∈ H) (hz : ns.length ≤ 1000) (h : QB (!ns.isEmpty) lo H) : L1 c truthy (.ref a) lo H QB :=
  o_tl hm (by rw [List.length_map]; exact hz) (by rw [List.isEmpty_map]; exact h)
end
end

theorem bb_isinstance : bootBuiltins "isinstance" = some (.builtin "isinstance") := by decide +kernel
theorem bb_len : bootBuiltins "len" = some (.builtin "len") := by decide +kernel
theorem bb_max : bootBuiltins "max" = some (.builtin "max") := by decide +kernel
theorem bb_sorted : bootBuiltins "sorted" = some (.builtin "sorted") := by decide +kernel
theorem bb_sum : bootBuiltins "sum" = some (.builtin "sum") := by decide +kernel
theorem bb_list : bootBuiltins "list" = some (.type "list") := by decide +kernel
theorem bb_range : bootBuiltins "range" = some (.type "range") := by decide +kernel
theorem bb_enumerate : bootBuiltins "enumerate" = some (.type "enumerate") := by decide +kernel
end Mine
namespace Mine
section
variable {g : Gd} {L : Addr} {c : Cx g L} {lo : Lo} {H H' : Hp}
/-- a function of plain positional parameters, over the part G of the ledger -/
theorem cl_fnP {name qual : Str} {params : Arguments} {body : List Stmt} {scope : Scope} {dV kV doc pm cdv ct oc : Value} {an od : Option Addr} {osl : Array (Option Value)} {f : Addr} {vs : List Value} {G K : Hp}
    {Q : Value → Lo → Hp → Prop} (n : Nat) (ps : List Str) (lo0 : Lo)
    (ho : g.K.lookup f = some ⟨oc, od, .func (fnOf name qual params body scope dV kV doc pm an cdv ct), osl⟩) (hcd : codeIn g.K cdv qual = true) (hr : c.room (n + 1))
    (hlo : ps.zip vs = lo0) (hl : ps.length = vs.length) (hb : ∀ ws : List Value, ws.length = vs.length → bindArgs (fnOf name qual params body scope dV kV doc pm an cdv ct) ⟨ws, []⟩ = pure (ps.zip ws))
    (hnd : ps.Nodup) (hloc : ∀ x ∈ ps, scope.names.lookup x = some .local)
    (hco : scope.isCoroutine = false) (hgen : scope.isGenerator = false) (hk : scope.kind = .function) (hcell : ∀ x ∈ scope.names, x.2 ≠ .cell)
    (hp : H.Perm (G ++ K))
    (h : ∀ L' (c' : Cx g L'), c'.room n → X c' (envX qual scope L' f cdv []) body lo0 G (fun _ G' => Q .none lo (G' ++ K)) (fun v G' => Q v lo (G' ++ K))) : Cl c (.ref f) vs lo H Q := by
  have e : lo0.map (·.1) = ps := by rw [← hlo]; exact zkeys ps vs hl
  exact Cl.frame hp fun F => cl_fn (c := c.wf F) n ho hcd hr (hlo ▸ bindsAs_eq hl hb) (by rw [e]; exact hnd) (by rw [e]; exact hloc) hco hgen hk hcell h
where
  zkeys : ∀ (ps : List Str) (vs : List Value), ps.length = vs.length → (ps.zip vs).map (·.1) = ps
    | [], [], _ => rfl
    | p :: ps, v :: vs, h => by rw [List.zip_cons_cons, List.map_cons, zkeys ps vs (Nat.succ.inj h)]
    | [], _ :: _, h => by cases h
    | _ :: _, [], h => by cases h
end
end Mine

theorem Mine.ex_put {x : Str} {v : Value} {lo lo' : Mine.Lo} {P : Mine.Lo → Prop} (h : Mine.PutF x v lo lo') (p : P lo') : ∃ lo', Mine.PutF x v lo lo' ∧ P lo' := ⟨_, h, p⟩
namespace Mine
theorem e_globR {g : Gd} {L : Addr} {c : Cx g L} {lo : Lo} {H : Hp} {nm : Str} {sc : Scope} {fa : Addr} {cd : Value} {cl : List (Str × Addr)} {x : Str} {pos : Pos} {f : Addr} {Q : Value → Lo → Hp → Prop} (e : nsIn g.K mainGlobals x = some (some (.ref f))) (h : Q (.ref f) lo H)
    (hk : sc.kind = .function := by rfl) (hx : (envX nm sc L fa cd cl).kindOf x = some .globalImplicit := by rfl) (hd : (x == ("__debug__" : Str)) = false := by decide) : Ev c (envX nm sc L fa cd cl) (.Name x pos) lo H Q := e_glob e h hk hx hd
end Mine
namespace Mine
theorem ite_t {P Q : Prop} (h : P) : Ite true P Q := ⟨fun _ => h, fun e => (nomatch e)⟩
theorem ite_f {P Q : Prop} (h : Q) : Ite false P Q := ⟨fun e => (nomatch e), fun _ => h⟩
theorem ite_dec {p : Prop} [Decidable p] {P Q : Prop} (h1 : p → P) (h2 : ¬ p → Q) : Ite (decide p) P Q := ⟨fun e => h1 (of_decide_eq_true e), fun e => h2 (of_decide_eq_false e)⟩
theorem ite_eq {i j : Int} {P Q : Prop} (h1 : i = j → P) (h2 : i ≠ j → Q) : Ite (i == j) P Q := ⟨fun e => h1 (by simpa using e), fun e => h2 (by simpa using e)⟩
theorem ite_ne {i j : Int} {P Q : Prop} (h1 : i ≠ j → P) (h2 : i = j → Q) : Ite (i != j) P Q := ⟨fun e => h1 (by simpa using e), fun e => h2 (by simpa using e)⟩
theorem ite_any {b : Bool} {P Q : Prop} (h1 : b = true → P) (h2 : b = false → Q) : Ite b P Q := ⟨h1, h2⟩
end Mine
namespace Mine
theorem mh {α : Type} {a : α} {l : List α} : a ∈ a :: l := List.mem_cons_self
theorem mt {α : Type} {a b : α} {l : List α} (h : a ∈ l) : a ∈ b :: l := List.mem_cons_of_mem _ h
end Mine
namespace Mine
section
variable {g : Gd} {L : Addr} {c : Cx g L} {lo : Lo} {H H' : Hp}
theorem o_setattr' {a C dx : Addr} {fs fs' : List (Str × Value)} {x : Str} {v : Value} {N : Lo → Hp → Prop} (h1 : (a, .inst C dx) ∈ H) (h2 : (dx, .dict fs) ∈ H) (q : PutF x v fs fs') (p : Put dx (.dict fs) (.dict fs') H H') (ok : StoreOk g.K C x)
    (hz : fs'.length ≤ 1000) (h : N lo H') : L2 c (fun o v => setAttr o x v) (.ref a) v lo H (fun _ => N) := o_setattr h1 q p ok hz h
theorem o_mapset' {a : Addr} {fs fs' : List (Str × Value)} {x : Str} {v : Value} {N : Lo → Hp → Prop} (h1 : (a, .map fs) ∈ H) (q : PutF x v fs fs') (p : Put a (.map fs) (.map fs') H H') (hz : fs.length ≤ 1000) (h : N lo H') :
    L3 c setItem (.ref a) (.str x 0) v lo H (fun _ => N) := o_mapset q p hz h
end
end Mine

namespace Mine

/-! parts of a ledger -/
section
variable {α : Type} {A B G K H r r' l : List α} {x y : α}
def Ins (A r' r : List α) : Prop := r.Perm (A ++ r')
theorem ins_hd : Ins [x] r (x :: r) := List.Perm.refl _
theorem ins_hdA : Ins A r (A ++ r) := List.Perm.refl _
theorem ins_all : Ins A [] A := by unfold Ins; rw [List.append_nil]
theorem ins_tl (h : Ins A r' r) : Ins A (y :: r') (y :: r) := (h.cons y).trans List.perm_middle.symm
theorem ins_app (h : Ins A r' r) : Ins A (B ++ r') (B ++ r) := by
  unfold Ins at *
  refine (h.append_left B).trans ?_
  rw [← List.append_assoc, ← List.append_assoc]
  exact List.perm_append_comm.append_right r'
/-- G is a part of H, K what is left -/
def Frm (G K H : List α) : Prop := H.Perm (G ++ K)
theorem fr_nil : Frm [] H H := List.Perm.refl _
theorem fr_cons (i : Ins [x] r' H) (h : Frm G K r') : Frm (x :: G) K H := i.trans (h.cons x)
theorem fr_app (i : Ins A r' H) (h : Frm G K r') : Frm (A ++ G) K H := by
  unfold Frm Ins at *
  rw [List.append_assoc]
  exact i.trans (h.append_left A)
theorem fr_last (i : Ins A r' H) : Frm A r' H := i
/-- H is a part of H' -/
def Sub (H H' : List α) : Prop := ∃ G, H'.Perm (G ++ H)
theorem su_nil : Sub [] H := ⟨H, by rw [List.append_nil]⟩
theorem su_cons (i : Ins [x] r' H) (h : Sub r r') : Sub (x :: r) H := by
  obtain ⟨G, h⟩ := h
  exact ⟨G, (Ins.trans' i h)⟩
where
  Ins.trans' {G : List α} (i : Ins [x] r' H) (h : r'.Perm (G ++ r)) : H.Perm (G ++ x :: r) := (i.trans (h.cons x)).trans List.perm_middle.symm
theorem su_app (i : Ins A r' H) (h : Sub r r') : Sub (A ++ r) H := by
  obtain ⟨G, h⟩ := h
  refine ⟨G, (i.trans (h.append_left A)).trans ?_⟩
  rw [← List.append_assoc, ← List.append_assoc]
  exact List.perm_append_comm.append_right r
theorem su_last (i : Ins A r' H) : Sub A H := ⟨r', i.trans List.perm_append_comm⟩
theorem su_refl : Sub H H := ⟨[], List.Perm.refl _⟩
theorem ma (h : x ∈ r) : x ∈ B ++ r := List.mem_append_right _ h
end
theorem Put.app {a : Addr} {o o' : AO} {B r r' : Hp} (h : Put a o o' r r') : Put a o o' (B ++ r) (B ++ r') := by
  induction B with
  | nil => exact h
  | cons b B ih => exact .tail ih
theorem Put.ex {a : Addr} {o : AO} : ∀ {H : Hp}, (a, o) ∈ H → ∀ o', ∃ H', Put a o o' H H'
  | p :: r, h, o' => by
    rcases List.mem_cons.mp h with e | h
    · subst e; exact ⟨_, .head⟩
    · obtain ⟨r', q⟩ := Put.ex h o'; exact ⟨_, .tail q⟩

section
variable {g : Gd} {L : Addr} {c : Cx g L} {lo : Lo} {H H' : Hp}
theorem W.part {α : Type} {t : Sem α} {H0 : Hp} {Q : α → Lo → Hp → Prop} (hp : Sub H0 H) (h : W c t lo H0 Q) : W c t lo H Q := by
  obtain ⟨G, hp⟩ := hp
  exact W.weak h hp
theorem W.postPart {α : Type} {t : Sem α} {Q Q' : α → Lo → Hp → Prop} (h : W c t lo H Q) (hQ : ∀ a lo H, Q a lo H → ∃ H0, Sub H0 H ∧ Q' a lo H0) : W c t lo H Q' :=
  fun s0 s sm hs => wpAny_mono (h s0 s sm hs) (fun a s1 ⟨lo, H1, st, s2, q⟩ => by
    obtain ⟨H0, ⟨G, hp⟩, q'⟩ := hQ _ _ _ q
    exact ⟨lo, H0, st.sub hp, s2, q'⟩) fun _ _ x => x
/-- a function of plain positional parameters; what it leaves may be weakened -/
theorem cl_fnW {name qual : Str} {params : Arguments} {body : List Stmt} {scope : Scope} {dV kV doc pm cdv ct oc : Value} {an od : Option Addr} {osl : Array (Option Value)} {f : Addr} {vs : List Value} {G K : Hp}
    {Q : Value → Lo → Hp → Prop} (n : Nat) (ps : List Str) (lo0 : Lo)
    (ho : g.K.lookup f = some ⟨oc, od, .func (fnOf name qual params body scope dV kV doc pm an cdv ct), osl⟩) (hcd : codeIn g.K cdv qual = true) (hr : c.room (n + 1))
    (hlo : ps.zip vs = lo0) (hl : ps.length = vs.length) (hb : ∀ ws : List Value, ws.length = vs.length → bindArgs (fnOf name qual params body scope dV kV doc pm an cdv ct) ⟨ws, []⟩ = pure (ps.zip ws))
    (hnd : ps.Nodup) (hloc : ∀ x ∈ ps, scope.names.lookup x = some .local)
    (hco : scope.isCoroutine = false) (hgen : scope.isGenerator = false) (hk : scope.kind = .function) (hcell : ∀ x ∈ scope.names, x.2 ≠ .cell)
    (hp : Frm G K H)
    (h : ∀ L' (c' : Cx g L'), c'.room n → X c' (envX qual scope L' f cdv []) body lo0 G (fun _ G' => ∃ G0, Sub G0 G' ∧ Q .none lo (G0 ++ K)) (fun v G' => ∃ G0, Sub G0 G' ∧ Q v lo (G0 ++ K))) : Cl c (.ref f) vs lo H Q := by
  refine fun ws hw => W.postPart (cl_fnP (Q := fun v lo' H1 => lo' = lo ∧ ∃ G0 G', H1 = G' ++ K ∧ Sub G0 G' ∧ Q v lo (G0 ++ K)) n ps lo0 ho hcd hr hlo hl hb hnd hloc hco hgen hk hcell hp (fun L' c' r => W.mono (h L' c' r) fun f lo H q => ?_) ws hw) fun a lo' H1 ⟨e, G0, G', e2, ⟨J, s⟩, q⟩ => ?_
  · cases f with
    | next => obtain ⟨G0, s, q⟩ := q; exact ⟨rfl, G0, _, rfl, s, q⟩
    | ret v => obtain ⟨G0, s, q⟩ := q; exact ⟨rfl, G0, _, rfl, s, q⟩
    | brk => exact q
    | cont => exact q
  · subst e; subst e2
    exact ⟨G0 ++ K, ⟨J, by rw [← List.append_assoc]; exact s.append_right K⟩, q⟩

/-- an if whose ways meet -/
theorem x_ifJ {env : Env} {N : Lo → Hp → Prop} {R : Value → Hp → Prop} {test : Expr} {body orelse : List Stmt} {pos : Pos} (P : Lo → Hp → Prop)
    (h : Te c env test lo H fun b lo H => Ite b (X c env body lo H P R) (X c env orelse lo H P R)) (k : ∀ lo H, P lo H → N lo H) : X1 c env (.If test body orelse pos) lo H N R :=
  W.mono (x_if h) fun f lo H q => by
    cases f with
    | next => exact k _ _ q
    | ret v => exact q
    | brk => exact q
    | cont => exact q

theorem t_name {env : Env} {QB : Bool → Lo → Hp → Prop} {x : Str} {p : Pos} (h : Ev c env (.Name x p) lo H fun v lo H => L1 c truthy v lo H QB) : Te c env (.Name x p) lo H QB := t_plain h
theorem t_call {env : Env} {QB : Bool → Lo → Hp → Prop} {f : Expr} {es : List Expr} {ks : List Keyword} {p : Pos} (h : Ev c env (.Call f es ks p) lo H fun v lo H => L1 c truthy v lo H QB) : Te c env (.Call f es ks p) lo H QB := t_plain h
theorem fr_all {α : Type} {H : List α} : Frm H [] H := by unfold Frm; rw [List.append_nil]

/-! None in a list of ints -/
theorem eqGives_int_none (n : Int) (u : Tok) : PySem.MeetsSeq.EqGives (.int n u) .none false := fun prog w A E s Q h => PySem.SeqAt.EqAt.int_none n u prog w E Q h
theorem o_inN {a : Addr} {ns : List Int} {Q : Value → Lo → Hp → Prop} (h1 : (a, .list (ns.map I)) ∈ H) (h : Q (.bool false) lo H) : L2 c (compareOp .In) .none (.ref a) lo H (EQ Q) := fun v w ev ew s0 s sm hs => by
  obtain rfl := er_none ev
  obtain rfl := er_ref ew
  obtain ⟨its, n, hg, e⟩ := hs.list h1
  have hi := ints_of e
  refine PySem.SeqInW.in_listW (fun _ => false) (fun y hy => ?_) (isl' hg) ⟨lo, H, hs, sm, ?_⟩
  · have hy' : y ∈ its.toList := by simpa using hy
    obtain ⟨n, u, e⟩ := mem_ints hi y hy'
    rw [e]; exact eqGives_int_none n u
  · show Q (er (.bool _)) lo H
    have : (its.toList.toArray.any fun _ => false) = false := by simp
    rw [this]; exact h
where
  mem_ints : ∀ {vs : List Value} {ns : List Int}, IntsAre vs ns → ∀ y ∈ vs, ∃ n u, y = .int n u
    | _, _, .nil, y, hy => by cases hy
    | _, _, .cons k t r, y, hy => by
      rcases List.mem_cons.mp hy with rfl | hy
      · exact ⟨k, t, rfl⟩
      · exact mem_ints r y hy

/-! a slice of a list that stands in the base -/
theorem o_sliceB {a : Addr} {vs : List Value} {ns : List Int} {i : Int} {k : Int} {sl : Addr} {ve se : Expr} {Q : Value → Lo → Hp → Prop} (hb : c.base.IsList a vs.toArray) (hi : IntsAre vs ns) (hz : ns.length ≤ 1000) (hm : (sl, .slice (I i) .none (I k)) ∈ H) (h0 : k ≠ 0)
    (h : ∀ d (ms : List Int), Q (.ref d) lo ((d, .list (ms.map I)) :: H))
    (ops : List Value := [.ref a, .ref sl]) (hsb : subscripted se false (.ref a) (.ref sl) = operate ops (getItem (.ref a) (.ref sl)) := by with_unfolding_all rfl) :
    L2 c (subscriptTail ve se) (.ref a) (.ref sl) lo H (EQ Q) := fun v w ev ew s0 s sm hs => by
  obtain rfl := er_ref ev
  obtain rfl := er_ref ew
  obtain ⟨ol, hg, hc, n, hd⟩ := hb
  have hl : s.heap.IsList a vs.toArray := ⟨ol, hs.keep _ _ hg, hc, n, hd⟩
  obtain ⟨o, ho, x', y', z', rfl, ex, ey, ez⟩ := hs.get hm
  refine tail_any hl.typeIs slot_list_getitem.lookup (wpAny_getItem_list_slice hl ⟨_, ho, rfl, rfl⟩ (part_int ex) (part_none ey) (part_int ez) (by intro q; cases q; exact h0 rfl) ?_ (by rw [List.size_toArray, hi.length, sizeLine_eq]; omega)) hsb
  obtain ⟨ms, hms⟩ : ∃ ms : List Int, (slicePick vs.toArray (some i) none (some k)).toList.map er = ms.map I  := ⟨_, c_sorted.ers (hi.pick (some i) none (some k))⟩
  exact ⟨lo, _, hs.add (ao := .list (ms.map I)) ⟨_, 0, rfl, hms⟩ rfl _, sm, h _ ms⟩

/-! a dict display of written keys -/
abbrev Pv (c : Cx g L) (env : Env) (pos : Pos) (ks : List (Option Expr)) (vs : List Expr) (lo : Lo) (H : Hp) (Q : List (Str × Value) → Lo → Hp → Prop) : Prop :=
  W c (evalPairs (pairTrees ks vs env pos)) lo H fun ps lo H => allStrKeys ps = true ∧ Q ((strPairs ps).map fun p => (p.1, er p.2)) lo H
theorem p_nil {env : Env} {pos : Pos} {Q : List (Str × Value) → Lo → Hp → Prop} (h : Q [] lo H) : Pv c env pos [] [] lo H Q :=
  fun s0 s sm hs => wpAny_pure ⟨lo, H, hs, sm, rfl, h⟩
theorem p_cons {env : Env} {pos p : Pos} {x : Str} {k : Nat} {v : Expr} {ks : List (Option Expr)} {vs : List Expr} {Q : List (Str × Value) → Lo → Hp → Prop}
    (h : Ev c env v lo H fun a lo H => Pv c env pos ks vs lo H fun fs => Q ((x, a) :: fs)) : Pv c env pos (some (.Constant (.str x) k p) :: ks) (v :: vs) lo H Q :=
  fun s0 s sm hs => by
    show wpAny _ _ (do
      let kv ← eval (.Constant (.str x) k p) env
      let vv ← holding [kv] (do let y ← eval v env; standAt pos; pure y)
      return (kv, vv) :: (← holding [kv, vv] (evalPairs (pairTrees ks vs env pos)))) _ _ _
    refine wpAny_bind (wpAny_mono (e_str (c := c) (lo := lo) (H := H) (env := env) (k := k) (pos := p) (Q := fun v lo' H' => v = .str x 0 ∧ lo' = lo ∧ H' = H) ⟨rfl, rfl, rfl⟩ s0 s sm hs) (fun kv s1 ⟨lo1, H1, a1, b1, e1, e2, e3⟩ => ?_) fun _ _ x => x)
    subst e2; subst e3
    obtain ⟨t, rfl⟩ := er_str e1
    refine wpAny_bind (wpAny_holding (wpAny_bind (wpAny_mono (h s0 s1 b1 a1) (fun y s2 ⟨lo2, H2, a2, b2, q⟩ => wpAny_bind (wpAny_standAt (wpAny_pure ?_))) fun _ _ x => x)))
    refine wpAny_bind (wpAny_holding (wpAny_mono (q s0 s2 b2 a2) (fun ps s3 ⟨lo3, H3, a3, b3, q1, q2⟩ => wpAny_pure ⟨lo3, H3, a3, b3, q1, q2⟩) fun _ _ x => x))
theorem e_dict {env : Env} {pos : Pos} {ks : List (Option Expr)} {vs : List Expr} {Q : Value → Lo → Hp → Prop}
    (h : ∀ d, Pv c env pos ks vs lo ((d, .map []) :: H) fun fs lo H' => (fs.map (·.1)).Nodup ∧ ∃ H'', Put d (.map []) (.map fs) H' H'' ∧ Q (.ref d) lo H'')
    (hall : ks.all (·.isSome) = true) (hl : ks.length = vs.length) (h0 : ks ≠ []) (hlen : ks.length ≤ 15) : Ev c env (.Dict ks vs pos) lo H Q :=
  fun s0 s sm hs => by
    refine wpAny_Dict_walk hall hl h0 hlen (knd := strKind g.prog g.w) ?_
    have z := hs.add (x := { cls := .type "dict", data := .dict #[] }) (ao := .map []) ⟨[], by
      obtain ⟨o, ho, hd⟩ := Heap.dictOf_iff.mp (Heap.DictOf.new (knd := strKind g.prog g.w) s.heap)
      rw [Heap.get?_push_size _ rfl] at ho
      cases ho; exact hd, rfl⟩ rfl s.toks
    refine wpAny_mono (h s.heap.objs.size s0 _ sm z) (fun ps s1 ⟨lo1, H1, a1, b1, q1, nd, H2, p, q⟩ => ?_) fun _ _ x => x
    obtain ⟨ob, hg, ⟨kvs, hd, e0⟩, kk⟩ := a1.put p
    cases kvs with
    | cons _ _ => cases e0
    | nil =>
      refine display_done_str q1 (by rw [List.map_map] at nd; exact nd) (Heap.dictOf_iff.mpr ⟨ob, hg, hd⟩) fun h' hd' sb => ?_
      obtain ⟨o', ho', hd''⟩ := Heap.dictOf_iff.mp hd'
      exact ⟨lo1, H2, kk h' _ o' sb ho' ⟨_, hd'', rfl⟩, b1, q⟩

/-! a for over enumerate of a list -/
theorem St.two {s : Shared} {it e : Addr} {o1 o2 : Obj} {F0 : List (Addr × Obj)} (hs : St (c.wf ((it, o1) :: (e, o2) :: F0)) lo H s) :
    s.heap.get? it = some o1 ∧ s.heap.get? e = some o2 ∧ it ≠ e ∧
    ∀ h' t' o1' o2', (∀ b o, b ≠ e → b ≠ it → s.heap.get? b = some o → h'.get? b = some o) → h'.get? it = some o1' → h'.get? e = some o2' → St (c.wf ((it, o1') :: (e, o2') :: F0)) lo H { s with heap := h', toks := t' } := by
  obtain ⟨m, raw, F, hl, hr, N, nd⟩ := hs
  have z1 := N (it, o1) (List.mem_append_right _ (.head _))
  have z2 := N (e, o2) (List.mem_append_right _ (.tail _ (.head _)))
  have nd' := nd
  simp only [Cx.wf, List.map_append, List.map_cons] at nd'
  rw [List.nodup_append] at nd'
  obtain ⟨_, n2, n3⟩ := nd'
  have n4 := (List.nodup_cons.mp n2).1
  have n5 := (List.nodup_cons.mp (List.nodup_cons.mp n2).2).1
  have ne : it ≠ e := fun q => n4 (by rw [q]; exact .head _)
  refine ⟨z1.1, z2.1, ne, fun h' t' o1' o2' k g1 g2 => ⟨m, raw, ?_, hl, hr, ?_, by simpa [Cx.wf] using nd⟩⟩
  · obtain ⟨⟨oL, es, ep, hL, hr'⟩, keep, ab⟩ := F
    refine ⟨⟨oL, es, ep, k _ _ (Ne.symm z2.2.1) (Ne.symm z1.2.1) hL, hr'⟩, fun b o q => k b o (fun x => ?_) (fun x => ?_) (keep b o q), ab⟩
    · have q' : c.base.get? b = some o := q
      have z : c.base.get? e = none := z2.2.2
      rw [← x, q'] at z; cases z
    · have q' : c.base.get? b = some o := q
      have z : c.base.get? it = none := z1.2.2
      rw [← x, q'] at z; cases z
  · intro p hp
    rcases List.mem_append.mp hp with hp | hp
    · have w := N p (List.mem_append_left _ hp)
      exact ⟨k _ _ (fun q => n3 p.1 (List.mem_map_of_mem hp) e (.tail _ (.head _)) q) (fun q => n3 p.1 (List.mem_map_of_mem hp) it (.head _) q) w.1, w.2⟩
    · rcases List.mem_cons.mp hp with rfl | hp
      · exact ⟨g1, z1.2⟩
      · rcases List.mem_cons.mp hp with rfl | hp
        · exact ⟨g2, z2.2⟩
        · have w := N p (List.mem_append_right _ (.tail _ (.tail _ hp)))
          exact ⟨k _ _ (fun q => n5 (by rw [← q]; exact List.mem_map_of_mem hp)) (fun q => n4 (.tail _ (by rw [← q]; exact List.mem_map_of_mem hp))) w.1, w.2⟩
theorem St.add2 {s : Shared} (hs : St c lo H s) {h' : Heap} (k : ∀ b o, s.heap.get? b = some o → h'.get? b = some o) {a b : Addr} (ha : s.heap.objs.size ≤ a) (hb : s.heap.objs.size ≤ b) (hne : a ≠ b) {x y : Obj} (hga : h'.get? a = some x) (hgb : h'.get? b = some y)
    {ao bo : AO} (hx : ao.Is g x) (hy : bo.Is g y) (t' : Nat) : St c lo ((a, ao) :: (b, bo) :: H) { s with heap := h', toks := t' } := by
  obtain ⟨m, raw, F, hl, hr, N, nd⟩ := hs
  have fresh : ∀ a, s.heap.objs.size ≤ a → a ≠ L ∧ c.base.get? a = none ∧ a ∉ (raw ++ c.F).map (·.1) := by
    intro a ha
    refine ⟨fun e => ?_, ?_, fun hm => ?_⟩
    · obtain ⟨oL, _, _, hL, _⟩ := F.ns
      have q := Heap.lt_size hL
      rw [← e] at q
      exact absurd q (Nat.not_lt.mpr ha)
    · cases q : c.base.get? a with
      | none => rfl
      | some o => exact absurd (Heap.lt_size (F.keep _ _ q)) (Nat.not_lt.mpr ha)
    · obtain ⟨p, hp, e⟩ := List.mem_map.mp hm
      have := Heap.lt_size (N p hp).1
      have e' : p.1 = a := e
      rw [e'] at this
      exact absurd this (Nat.not_lt.mpr ha)
  obtain ⟨f1, f2, f3⟩ := fresh a ha
  obtain ⟨f4, f5, f6⟩ := fresh b hb
  refine ⟨m, (a, x) :: (b, y) :: raw, F.keeps k, hl, .cons ⟨rfl, hx⟩ (.cons ⟨rfl, hy⟩ hr), fun p hp => ?_, List.nodup_cons.mpr ⟨fun hm => ?_, List.nodup_cons.mpr ⟨f6, nd⟩⟩⟩
  · rcases List.mem_cons.mp hp with rfl | hp
    · exact ⟨hga, f1, f2⟩
    · rcases List.mem_cons.mp hp with rfl | hp
      · exact ⟨hgb, f4, f5⟩
      · exact ⟨k _ _ (N p hp).1, (N p hp).2⟩
  · rcases List.mem_cons.mp hm with e | hm
    · exact hne e
    · exact f3 hm
theorem c_enum {l : Addr} {vs : List Value} {Q : Value → Lo → Hp → Prop} (hm : (l, .list vs) ∈ H) (h : ∀ e it, Q (.ref e) lo ((it, .litr l) :: (e, .enumr it) :: H)) : Cl c (.type "enumerate") [.ref l] lo H Q :=
  cl1 fun o eo s0 s sm hs => by
    obtain rfl := er_ref eo
    obtain ⟨its, n, hg, e⟩ := hs.list hm
    refine call_enumerate_list (isl hg) fun h' he hit hz hk => ?_
    obtain ⟨oi, go, c1, d1⟩ := hit
    exact ⟨lo, _, hs.add2 hk (Nat.le_refl _) (Nat.le_succ _) (Nat.ne_of_lt (Nat.lt_succ_self _)) go he (ao := .litr l) (bo := .enumr s.heap.objs.size) ⟨c1, d1⟩ rfl s.toks, sm, h _ _⟩
def enO (it : Addr) (i : Int) (y : Value) : Obj := { cls := .type "enumerate", dict := none, data := .fields #[.none, .bool false, .ref it, rawInt i, .none, y], slots := #[] }
section
variable {N : Lo → Hp → Prop} {R : Value → Hp → Prop}
theorem x_forenum {xi xv : Str} {k : Nat} {pi pv pt pos : Pos} {body : List Stmt} {iter : Expr} {nm : Str} {sc : Scope} {fa : Addr} {cd : Value} {cl : List (Str × Addr)}
    (h : Ev c (envX nm sc L fa cd cl) iter lo H fun v lo H => ∃ e it l vs H0, ∃ J : Nat → Lo → Hp → Prop, v = .ref e ∧ vs.length ≤ 1000 ∧ Sub ((it, .litr l) :: (e, .enumr it) :: H0) H ∧ (∀ i lo H, J i lo H → (l, .list vs) ∈ H) ∧ J 0 lo H0 ∧
      (∀ F i lo H v, vs[i]? = some v → J i lo H → ∃ lo1, PutF xi (I i) lo lo1 ∧ ∃ lo2, PutF xv v lo1 lo2 ∧ X (c.wf F) (envX nm sc L fa cd cl) body lo2 H (J (i + 1)) R) ∧ (∀ lo H, J vs.length lo H → N lo H))
    (hk : sc.kind = .function := by rfl) (hxi : (envX nm sc L fa cd cl).kindOf xi = some .local := by rfl) (hxv : (envX nm sc L fa cd cl).kindOf xv = some .local := by rfl)
    (hf : ∀ x, foldedSetIterable iter (envX nm sc L fa cd cl) x = pure x := by intro _; rfl) : X1 c (envX nm sc L fa cd cl) (.For (.Tuple [.Name xi pi, .Name xv pv] k pt) iter body [] pos) lo H N R :=
  fun s0 s sm hs => wpAny_For (wpAny_mono (h s0 s sm hs) (fun v s1 ⟨lo1, H1, a1, b1, e, it, l, vs, H0, J, ev, hz, sb, hJ, j0, step, fin⟩ => by
    obtain rfl := er_ref ev
    obtain ⟨G, hp⟩ := sb
    have a2 := a1.sub hp
    obtain ⟨oit, hoit, xit⟩ := a2.get (.head _)
    obtain ⟨oe, hoe, xe⟩ := a2.get (.tail _ (.head _))
    have xe' : oe = { cls := .type "enumerate", dict := none, data := .fields #[.none, .bool false, .ref it, rawInt 0, .none, .none], slots := #[] } := xe
    have a3 := (a2.perm (List.Perm.swap _ _ _)).hide hoe
    have a4 : St (c.wf ((it, oit) :: (e, oe) :: c.F)) lo1 H0 s1 := a3.hide (c := c.wf ((e, oe) :: c.F)) hoit
    refine wpAny_pyIter_enum (it := it) (i := 0) (old := .none) (hoe.trans (congrArg some xe')) ?_
    refine codeAny_forLoop_any (fun k s' => ∃ i lo H o1 o2 old, k = vs.length + 1 - i ∧ i ≤ vs.length ∧ St (c.wf ((it, o1) :: (e, o2) :: c.F)) lo H s' ∧ Sm s0 s' ∧ (o1.cls = .type "list_iterator" ∧ o1.data = .fields #[.ref l, .int i 0]) ∧
        o2 = { cls := .type "enumerate", dict := none, data := .fields #[.none, .bool false, .ref it, rawInt (i : Int), .none, old], slots := #[] } ∧ J i lo H) ?_ (vs.length + 1) ⟨0, lo1, H0, oit, oe, .none, rfl, Nat.zero_le _, a4, b1, xit, xe', j0⟩
    rintro n s' ⟨i, lo, H, o1, o2, old, rfl, hle, hs, sm, ho1, rfl, j⟩
    obtain ⟨g1, g2, ne, kk⟩ := hs.two
    obtain ⟨its, n, hgl, el⟩ := hs.list (hJ _ _ _ j)
    have hit : s'.heap.IsListIter it l i := ⟨_, g1, ho1.1, ho1.2⟩
    by_cases hlt : i < vs.length
    · obtain ⟨y, hy, ey⟩ := map_get el (List.getElem?_eq_getElem hlt)
      refine wpAny_pyNext_enum_item g2 hit (isl hgl) hy (Ne.symm ne) fun h₁ heo hit₁ ht₁ hz₁ hk₁ => ?_
      refine wpAny_letOwnedTupleGo_enum heo fun h₂ he₂ hs₂ => ?_
      replace hs₂ : Heap.SameBut e h₁ h₂ := hs₂
      have he₂' : h₂.get? e = some (enO it ((i : Int) + 1) y) := he₂
      have heH : e < s'.heap.objs.size := Heap.lt_size g2
      have hiH : it < s'.heap.objs.size := Heap.lt_size g1
      have ht₂ : h₂.IsTuple s'.heap.objs.size #[.int i s'.toks, y] := ⟨_, (hs₂.2 _ (Nat.ne_of_gt heH)).trans ht₁, rfl, _, rfl⟩
      have hz₂ : h₂.objs.size = s'.heap.objs.size + 1 := hs₂.1.trans hz₁
      refine wpAny_assign_Tuple c.hh ht₂ rfl rfl fun h₃ hx₃ => ?_
      replace hx₃ : Heap.ExtBut h₂.objs.size h₂ h₃ := hx₃
      have old₃ : ∀ b o, b < s'.heap.objs.size → h₂.get? b = some o → h₃.get? b = some o := fun b o hb x => hx₃ b o (by rw [hz₂]; exact Nat.ne_of_lt (Nat.lt_succ_of_lt hb)) x
      obtain ⟨o1', go1, c1, d1⟩ := hit₁
      have z := kk h₃ (s'.toks + 1) o1' _ (fun b o hbe hbi x => old₃ b o (Heap.lt_size x) ((hs₂.2 b hbe).trans (hk₁ b o hbe hbi x))) (old₃ _ _ hiH ((hs₂.2 it ne).trans go1)) (old₃ _ _ heH he₂')
      obtain ⟨lo1, p1, lo2, p2, hx⟩ := step ((it, o1') :: (e, enO it ((i : Int) + 1) y) :: c.F) i lo H _ (List.getElem?_eq_getElem hlt) j
      show wpAny _ c.A (do holding [y] (assign (.Name xi pi) (envX nm sc L fa cd cl) (.int i s'.toks)); do holding [] (assign (.Name xv pv) (envX nm sc L fa cd cl) y); pure ()) _ _ _
      refine wpAny_bind (wpAny_holding (wpAny_assign_Name (wpAny_mono (store_ (c := c.wf ((it, o1') :: (e, enO it ((i : Int) + 1) y) :: c.F)) (v := .int i s'.toks) (Q := fun _ lo'' H'' => lo'' = lo1 ∧ H'' = H) p1 ⟨rfl, rfl⟩ hk hxi s0 _ sm z) (fun _ s2 ⟨lo3, H3, a, b, e1, e2⟩ => ?_) fun _ _ x => x.elim)))
      subst e1; subst e2
      refine wpAny_bind (wpAny_holding (wpAny_assign_Name (wpAny_mono (store_ (c := c.wf ((it, o1') :: (e, enO it ((i : Int) + 1) y) :: c.F)) (v := y) (Q := fun _ lo'' H'' => lo'' = lo2 ∧ H'' = H3) (ey.symm ▸ p2) ⟨rfl, rfl⟩ hk hxv s0 s2 b a) (fun _ s3 ⟨lo4, H4, a, b, e1, e2⟩ => wpAny_pure ?_) fun _ _ x => x.elim)))
      rw [e1, e2] at a
      refine wpAny_mono (hx s0 s3 b a) (fun f s4 ⟨lo5, H5, a, b, q⟩ => ?_) fun _ _ x => x.elim
      cases f with
      | next => exact ⟨vs.length + 1 - (i + 1), by omega, i + 1, lo5, H5, o1', _, y, rfl, hlt, a, b, ⟨c1, d1⟩, by rw [show ((i + 1 : Nat) : Int) = (i : Int) + 1 by omega]; rfl, q⟩
      | ret v =>
        have a' : St (c.wf ((e, enO it ((i : Int) + 1) y) :: c.F)) lo5 H5 s4 := St.unhide (c := c.wf ((e, enO it ((i : Int) + 1) y) :: c.F)) (F' := []) a
        exact ⟨lo5, H5, St.unhide (F' := []) a', b, q⟩
      | brk => exact q.elim
      | cont => exact q.elim
    · have e0 : i = vs.length := by omega
      subst e0
      refine wpAny_pyNext_enum_end c.hh g2 hit (isl hgl) (Array.getElem?_eq_none (by rw [map_len el]; exact Nat.le_refl _)) fun h₁ he₁ => wpAny_execs_nil ?_
      have a5 := St.more (c := c.wf ((e, _) :: c.F)) hs he₁ s'.toks
      exact ⟨lo, H, St.unhide (F' := []) a5, sm, fin lo H j⟩) fun _ _ x => x) hf

end
end
end Mine

namespace Mine
section
variable {g : Gd} {L : Addr} {c : Cx g L} {lo : Lo} {H H' : Hp}

/-! a function of two parameters, the first of them in a cell -/
theorem cl_fnC0 {name qual : Str} {params : Arguments} {body : List Stmt} {scope : Scope} {dV kV doc pm cdv ct oc : Value} {an od : Option Addr} {osl : Array (Option Value)} {f : Addr} {x y : Str} {v w : Value}
    {Q : Value → Lo → Hp → Prop} (n : Nat)
    (ho : g.K.lookup f = some ⟨oc, od, .func (fnOf name qual params body scope dV kV doc pm an cdv ct), osl⟩) (hcd : codeIn g.K cdv qual = true) (hr : c.room (n + 1))
    (hb : ∀ ws : List Value, ws.length = 2 → bindArgs (fnOf name qual params body scope dV kV doc pm an cdv ct) ⟨ws, []⟩ = pure ([x, y].zip ws))
    (hx : scope.names.lookup x = some .cell) (hy : scope.names.lookup y = some .local) (hcs : ∀ n, cellsFrom n scope.names [] = [(x, n)])
    (hco : scope.isCoroutine = false) (hgen : scope.isGenerator = false) (hk : scope.kind = .function)
    (h : ∀ L' cx (c' : Cx g L'), c'.room n → X c' (envX qual scope L' f cdv [(x, cx)]) body [(y, w)] ((cx, .cell v) :: H) (fun _ H' => Q .none lo H') (fun u H' => Q u lo H')) : Cl c (.ref f) [v, w] lo H Q :=
  cl2 fun v' w' ev ew s0 s sm hs => wpAny_call (by
    have X0 := hs.X
    obtain ⟨m, raw, F, hl, hrel, N, nd⟩ := hs
    refine codeAny_call_function (body := body) (fd := fnOf name qual params body scope dV kV doc pm an cdv ct) (by unfold recursionLimit; unfold Cx.room at hr; omega) (X0 _ _ ho) rfl hco hgen rfl (codeRec_of X0 hcd) ((BindsTo.of_eq (s := s) (hb [v', w'] rfl)) _ _ _ _ ?_)
    refine wpAny_newFunctionEnv_cells hk (fun p hp => ?_) fun env' he s' x1 => ?_
    · simp only [List.zip_cons_cons, List.zip_nil_right, List.mem_cons, List.not_mem_nil, or_false] at hp
      rcases hp with rfl | rfl
      · exact .inr ⟨hx, by rw [hcs]; simp⟩
      · exact .inl hy
    rw [hcs] at he
    subst he
    refine ⟨(c.T.nolimit.keeps F.keep).keeps x1.toInCall.keep, codeAny_func ?_⟩
    obtain ⟨h₁, tk, rfl, _⟩ := x1.done
    have hk₁ := x1.toInCall.keep
    have hns := x1.toInCall.ns
    obtain ⟨ocl, hocl, hdcl⟩ := x1.cell x (s.heap.objs.size + 1) (by show List.lookup x [(x, s.heap.objs.size + 1)] = _; simp)
    generalize hnews : raw ++ c.F = news at N nd
    have nm : ∀ b o, c.base.get? b = some o → b ∉ news.map (·.1) := fun b o e q => by
      obtain ⟨p, hp, rfl⟩ := List.mem_map.mp q
      rw [(N p hp).2.2] at e; cases e
    have st : c.base.StaysIn (hideAll s.heap (news.map (·.1))) := fun b o e => hideAll_get _ (F.keep b o e) (nm b o e)
    obtain ⟨oL, es, ep, hL, hLd, hLk, hLf⟩ := F.ns
    have nL : L ∉ news.map (·.1) := fun q => by
      obtain ⟨p, hp, e⟩ := List.mem_map.mp q
      exact (N p hp).2.1 e
    have hLg := hideAll_get (news.map (·.1)) hL nL
    let c' : Cx g s.heap.objs.size := Cx.mk (hideAll s.heap (news.map (·.1))) c.F (c.A.deeper (envX qual scope s.heap.objs.size f cdv [(x, s.heap.objs.size + 1)])) (c.X.keeps fun b o e => st b o e) (c.T.keeps fun b o e => st b o e) c.hh (by rw [Around.deeper_units]; unfold Cx.room at hr; omega) (by show c.A.depth + 1 < 900; unfold Cx.room at hr; omega)
    have hkx : ¬ ((newEnv scope s.heap.objs.size mainGlobals [(x, s.heap.objs.size + 1)] (qual ++ ".<locals>.") (some f) cdv none builtinsNs).kindOf x = some .local) := by
      show ¬ (scope.names.lookup x = some .local)
      rw [hx]; decide
    have hky : (newEnv scope s.heap.objs.size mainGlobals [(x, s.heap.objs.size + 1)] (qual ++ ".<locals>.") (some f) cdv none builtinsNs).kindOf y = some .local := hy
    have hxy : x ≠ y := fun e => by rw [e, hy] at hx; cases hx
    have s1 : St c' [(y, w)] ((s.heap.objs.size + 1, .cell v) :: H) { s with heap := h₁, toks := tk } := by
      refine ⟨_, (s.heap.objs.size + 1, ocl) :: raw, ⟨hns, fun b o e => hk₁ b o (of_hideAll _ e), Nat.le_of_eq (hideAll_size _ _)⟩, fun z u e => ?_, .cons ⟨rfl, v', ?_, ev⟩ hrel, fun p hp => ?_, ?_⟩
      · rw [List.lookup_cons] at e
        by_cases q : z = y
        · subst q
          simp at e
          refine ⟨w', ?_, by rw [ew, e]⟩
          show bindL _ ([x, z].zip [v', w']) _ z = _
          simp only [List.zip_cons_cons, List.zip_nil_right, bindL, if_pos hky]
          simp
        · rw [beq_eq_false_iff_ne.mpr q] at e; simp at e
      · rw [hdcl]
        show Data.cell (bindC _ ([x, y].zip [v', w']) _ x) = _
        simp only [List.zip_cons_cons, List.zip_nil_right, bindC, if_pos hky, if_neg hkx]
        simp
      · have hp' : p = (s.heap.objs.size + 1, ocl) ∨ p ∈ news := by
          rw [← hnews]; exact List.mem_cons.mp hp
        rcases hp' with rfl | hp
        · refine ⟨hocl, Nat.succ_ne_self _, ?_⟩
          cases q : (hideAll s.heap (news.map (·.1))).get? (s.heap.objs.size + 1) with
          | none => rfl
          | some o => exact absurd (Heap.lt_size (of_hideAll _ q)) (Nat.not_lt.mpr (Nat.le_succ _))
        · exact ⟨hk₁ _ _ (N p hp).1, Nat.ne_of_lt (Heap.lt_size (N p hp).1), hideAll_none _ (List.mem_map_of_mem hp)⟩
      · show (((s.heap.objs.size + 1, ocl) :: (raw ++ c.F)).map (·.1)).Nodup
        rw [hnews]
        refine List.nodup_cons.mpr ⟨fun hm => ?_, nd⟩
        obtain ⟨p, hp, e⟩ := List.mem_map.mp hm
        have := Heap.lt_size (N p hp).1
        have e' : p.1 = s.heap.objs.size + 1 := e
        rw [e'] at this
        exact absurd this (Nat.not_lt.mpr (Nat.le_succ _))
    refine wpAny_mono (h _ _ c' ⟨by show c.A.depth + 1 + 3 * n < 900; unfold Cx.room at hr; omega, by show c.A.units + 3 + 20 * n < 9000; unfold Cx.room at hr; omega⟩ s0 _ sm s1) (fun fl s' ⟨lo', H', a, b, q⟩ => ?_) fun _ _ e => e.elim
    have back : St c lo H' s' := by
      obtain ⟨m', raw', F', hl', hr', N', nd'⟩ := a
      refine ⟨m, raw', ⟨⟨oL, es, ep, F'.keep L oL hLg, hLd, hLk, hLf⟩, fun b o e => F'.keep b o (st b o e), F.above⟩, hl, hr', fun p hp => ⟨(N' p hp).1, fun q => ?_, ?_⟩, nd'⟩
      · have := (N' p hp).2.2; rw [q] at this; have e : (hideAll s.heap (news.map (·.1))).get? L = none := this; rw [hLg] at e; cases e
      · cases q : c.base.get? p.1 with
        | none => rfl
        | some o => have := (N' p hp).2.2; have e : (hideAll s.heap (news.map (·.1))).get? p.1 = none := this; rw [st _ _ q] at e; cases e
    cases fl with
    | next => exact ⟨lo, H', back, b, q⟩
    | ret v => exact ⟨lo, H', back, b, q⟩
    | brk => exact q.elim
    | cont => exact q.elim)
theorem cl_fnC {name qual : Str} {params : Arguments} {body : List Stmt} {scope : Scope} {dV kV doc pm cdv ct oc : Value} {an od : Option Addr} {osl : Array (Option Value)} {f : Addr} {x y : Str} {v w : Value} {G K : Hp}
    {Q : Value → Lo → Hp → Prop} (n : Nat)
    (ho : g.K.lookup f = some ⟨oc, od, .func (fnOf name qual params body scope dV kV doc pm an cdv ct), osl⟩) (hcd : codeIn g.K cdv qual = true) (hr : c.room (n + 1))
    (hb : ∀ ws : List Value, ws.length = 2 → bindArgs (fnOf name qual params body scope dV kV doc pm an cdv ct) ⟨ws, []⟩ = pure ([x, y].zip ws))
    (hx : scope.names.lookup x = some .cell) (hy : scope.names.lookup y = some .local) (hcs : ∀ n, cellsFrom n scope.names [] = [(x, n)])
    (hco : scope.isCoroutine = false) (hgen : scope.isGenerator = false) (hk : scope.kind = .function) (hp : Frm G K H)
    (h : ∀ L' cx (c' : Cx g L'), c'.room n → X c' (envX qual scope L' f cdv [(x, cx)]) body [(y, w)] ((cx, .cell v) :: G) (fun _ G' => ∃ G0, Sub G0 G' ∧ Q .none lo (G0 ++ K)) (fun u G' => ∃ G0, Sub G0 G' ∧ Q u lo (G0 ++ K))) : Cl c (.ref f) [v, w] lo H Q := by
  refine fun ws hw => W.postPart (Cl.frame (Q := fun v lo' H1 => lo' = lo ∧ ∃ G0 G', H1 = G' ++ K ∧ Sub G0 G' ∧ Q v lo (G0 ++ K)) hp (fun F => cl_fnC0 (c := c.wf F) n ho hcd hr hb hx hy hcs hco hgen hk fun L' cx c' r => W.mono (h L' cx c' r) fun f lo H q => ?_) ws hw) fun a lo' H1 ⟨e, G0, G', e2, ⟨J, s⟩, q⟩ => ?_
  · cases f with
    | next => obtain ⟨G0, s, q⟩ := q; exact ⟨rfl, G0, _, rfl, s, q⟩
    | ret v => obtain ⟨G0, s, q⟩ := q; exact ⟨rfl, G0, _, rfl, s, q⟩
    | brk => exact q
    | cont => exact q
  · subst e; subst e2
    exact ⟨G0 ++ K, ⟨J, by rw [← List.append_assoc]; exact s.append_right K⟩, q⟩

theorem e_cell {nm : Str} {sc : Scope} {fa : Addr} {cd : Value} {cl : List (Str × Addr)} {x : Str} {pos : Pos} {cx : Addr} {v : Value} {Q : Value → Lo → Hp → Prop} (hc : cl.lookup x = some cx) (hm : (cx, .cell v) ∈ H) (h : Q v lo H)
    (hk : sc.kind = .function := by rfl) (hx : (envX nm sc L fa cd cl).kindOf x = some .cell := by rfl) (hd : (x == ("__debug__" : Str)) = false := by decide) : Ev c (envX nm sc L fa cd cl) (.Name x pos) lo H Q :=
  fun _ _ sm hs => by
    obtain ⟨o, ho, v', hd', rfl⟩ := hs.get hm
    exact wpAny_Name (wpAny_loadName_cell hk hx hc ⟨o, ho, hd'⟩ ⟨lo, H, hs, sm, h⟩) hd
theorem e_cellattr {nm : Str} {sc : Scope} {fa : Addr} {cd : Value} {cl : List (Str × Addr)} {x : Str} {attr : Str} {p pos : Pos} {cx : Addr} {a C dx : Addr} {fs : List (Str × Value)} {v : Value} {Q : Value → Lo → Hp → Prop} (hc : cl.lookup x = some cx) (hm : (cx, .cell (.ref a)) ∈ H) (h1 : (a, .inst C dx) ∈ H) (h2 : (dx, .dict fs) ∈ H)
    (q : GetF fs attr v) (ok : FieldOk g.K C attr) (hv : handedIn v = true) (h : Q v lo H)
    (hk : sc.kind = .function := by rfl) (hx : (envX nm sc L fa cd cl).kindOf x = some .cell := by rfl) (hd : (x == ("__debug__" : Str)) = false := by decide) : Ev c (envX nm sc L fa cd cl) (.Attribute (.Name x p) attr pos) lo H Q :=
  fun s0 s sm hs => Attribute_name (W.app (app1 (e_cell (Q := fun o lo H => L1 c (fun o => getAttr o attr true) o lo H (EQ Q)) hc hm (o_attr h1 h2 q ok hv h) hk hx hd)) sm hs)

/-! the comprehension [o.attr[x] for x in l], o in a cell -/
theorem e_comp {nm : Str} {sc : Scope} {fa : Addr} {cd : Value} {cl : List (Str × Addr)} {o x y attr : Str} {p1 p2 p3 p4 px py pos : Pos} {scope : Scope} {cx a C dx vl l : Addr} {fs : List (Str × Value)} {vs : List Value} {ns : List Int} {us : List Value} {Q : Value → Lo → Hp → Prop}
    (hy : GetF lo y (.ref l)) (hl : (l, .list (ns.map I)) ∈ H) (hz : ns.length ≤ 1000) (hc : cl.lookup o = some cx) (hm : (cx, .cell (.ref a)) ∈ H) (h1 : (a, .inst C dx) ∈ H) (h2 : (dx, .dict fs) ∈ H) (q : GetF fs attr (.ref vl)) (ok : FieldOk g.K C attr) (h3 : (vl, .list vs) ∈ H)
    (hat : All2 (fun n u => 0 ≤ n ∧ n < 2 ^ 62 ∧ vs[n.toNat]? = some u) ns us)
    (h : ∀ d, Q (.ref d) lo ((d, .list us) :: H))
    (hclos : closureFor scope (envX nm sc L fa cd cl) = pure [(o, cx)]) (hcell : ∀ y ∈ scope.names, y.2 ≠ .cell) (hkind : scope.kind = .function)
    (hnames : ∀ y ∈ scope.names, y.2 = .local → scope.names.lookup y.1 = some .local) (hx : scope.names.lookup x = some .local)
    (hke : ∀ C, (compEnvC scope [(o, cx)] C (envX nm sc L fa cd cl)).kindOf o = some .cell)
    (hod : (o == ("__debug__" : Str)) = false := by decide) (hxd : (x == ("__debug__" : Str)) = false := by decide)
    (hk : sc.kind = .function := by rfl) (hyl : (envX nm sc L fa cd cl).kindOf y = some .local := by rfl) (hd : (y == ("__debug__" : Str)) = false := by decide) :
    Ev c (envX nm sc L fa cd cl) (.ListComp (.Subscript (.Attribute (.Name o p1) attr p2) (.Name x p3) p4) [⟨.Name x px, .Name y py, [], 0⟩] scope pos) lo H Q :=
  fun s0 s sm hs => by
    obtain ⟨m, raw, F, hlo, hrel, N, nd⟩ := id hs
    obtain ⟨l', hyv, hle⟩ := hlo _ _ hy.lookup
    obtain rfl := er_ref hle
    refine LCg.ListComp_U (L := L) (m := m) F hclos hcell hkind hnames hx ?_ (by intro _; rfl)
    refine nameX_L F hyv ?_ hk hyl hd
    obtain ⟨ol, hol, its, nl, rfl, eits⟩ := relH_mem hrel hl
    refine LCg.CompSrc.ledger c.hh F N (its := its) (k := nl) (List.mem_append_left _ hol) (by rw [map_len eits, List.length_map, sizeLine_eq]; omega) fun hp0 => ?_
    obtain ⟨oc, hoc, v', hdc, ev⟩ := relH_mem hrel hm
    obtain rfl := er_ref ev
    have X0 := c.X
    obtain ⟨oa, hoa, hia⟩ := relH_mem hrel h1
    obtain ⟨od, hod', es, nn, hdd, hes⟩ := relH_mem hrel h2
    obtain ⟨ov, hov, vts, nv, hvv, evs⟩ := relH_mem hrel h3
    have hia' : oa = instObj C dx := hia
    subst hia' hdd hvv
    have inN : ∀ {p : Addr × Obj}, p ∈ raw → p ∈ raw ++ c.F := fun h => List.mem_append_left _ h
    have key : ∀ (k i : Nat) (ys : List Value) (hp1 : Heap), i + k = ns.length → ys.map er = us.take i →
        LCg.CompRest g.prog g.w c.A c.base L m (envX nm sc L fa cd cl) (.Subscript (.Attribute (.Name o p1) attr p2) (.Name x p3) p4) x scope [(o, cx)] { s with heap := hp1 } (LCg.SrcAt c.base l its) (fun i v => its[i]? = some v)
          (LCg.FinE c.base L m { s with heap := hp1 } (fun v s' => Post c s0 (EQ Q) v s')) k i ys (raw ++ c.F) := by
      intro k
      induction k with
      | zero =>
        intro i ys hp1 hik hys
        refine LCg.CompRest.zero fun D hh tk F' N' off => ?_
        refine ⟨lo, (D, .list us) :: H, ⟨m, (D, LCg.lst ys) :: raw, F', hlo, .cons ⟨rfl, ys.toArray, ys.length, rfl, ?_⟩ hrel, N', ?_⟩, sm, h D⟩
        · rw [show ys.toArray.toList = ys from rfl, hys, List.take_of_length_le]
          rw [← all2_len hat]; omega
        · show ((D, LCg.lst ys) :: (raw ++ c.F)).map (·.1) |>.Nodup
          refine List.nodup_cons.mpr ⟨fun hm => ?_, nd⟩
          obtain ⟨p, hp, e⟩ := List.mem_map.mp hm
          exact off1_mem off p hp e
      | succ k ih =>
        intro i ys hp1 hik hys
        refine LCg.CompRest.succ fun v I' oI C' oC D m₂ hh tk E' hv hC hmx F' N' off ne => ?_
        have up : ∀ {p : Addr × Obj}, p ∈ raw → p ∈ (I', oI) :: (C', oC) :: (D, LCg.lst ys) :: (raw ++ c.F) := fun h => List.mem_cons_of_mem _ (List.mem_cons_of_mem _ (List.mem_cons_of_mem _ (inN h)))
        have hi : i < ns.length := by omega
        obtain ⟨u, hu, h0, hbig, hvs⟩ : ∃ u, us[i]? = some u ∧ 0 ≤ ns[i] ∧ ns[i] < 2 ^ 62 ∧ vs[(ns[i]).toNat]? = some u := all2_at hat i hi
        have ev : er v = I ns[i] := by
          have : (its.toList.map er)[i]? = some (er v) := by simp [hv]
          rw [eits] at this
          simp [hi] at this
          exact this.symm
        obtain ⟨t, rfl⟩ := er_int ev
        obtain ⟨yv, hyv1, hyv2⟩ := map_get evs hvs
        refine Subscript_ (Attribute_name (lcf_cell N' (by simp) (up hoc) hdc ?_ hkind (hke C') hod))
        obtain ⟨v', e1, ev'⟩ := getL_of hes q
        obtain rfl := er_ref ev'
        refine get_own F' X0 ⟨(N' _ (up hoa)).1, rfl, rfl, (N' _ (up hod')).1⟩ ok.get ok.has ok.own rfl e1 rfl ?_
        refine LCgL.ld_own N' (.tail _ (.head _)) hC hmx ?_ hkind (lookup_relabel_local hx) hxd
        have hlist : hh.IsList vl vts := isl (N' _ (up hov)).1
        refine tail_any hlist.typeIs slot_list_getitem.lookup (wpAny_getItem_list hlist h0 (by omega) hyv1 ?_) (by with_unfolding_all rfl)
        refine ⟨hh, _, raw ++ c.F, rfl, F', N', off, ?_, ih (i + 1) (ys ++ [yv]) _ (by omega) ?_⟩
        · exact .inr ⟨_, inN hol, rfl, _, rfl⟩
        · rw [List.map_append, hys]
          have : us.take (i + 1) = us.take i ++ [u] := by rw [List.take_add_one, hu]; rfl
          rw [this]; simp [hyv2]
    have hsz : its.size = ns.length := by rw [map_len eits, List.length_map]
    rw [hsz]
    exact key ns.length 0 [] hp0 (by omega) rfl
where
  off1_mem {D : Addr} : ∀ {l : List (Addr × Obj)}, LCg.Off1 D l → ∀ p ∈ l, p.1 ≠ D
    | [], _, _, h => nomatch h
    | _ :: _, x, p, h => by
      rcases List.mem_cons.mp h with rfl | h
      · exact x.1
      · exact off1_mem x.2 p h
  all2_at : ∀ {ns : List Int} {us : List Value}, All2 (fun n u => 0 ≤ n ∧ n < 2 ^ 62 ∧ vs[n.toNat]? = some u) ns us → ∀ (i : Nat) (hi : i < ns.length), ∃ u, us[i]? = some u ∧ 0 ≤ ns[i] ∧ ns[i] < 2 ^ 62 ∧ vs[(ns[i]).toNat]? = some u
    | _, _, .nil, i, hi => by simp at hi
    | _, _, .cons h t, 0, hi => ⟨_, rfl, h⟩
    | _, _, .cons h t, i + 1, hi => by simpa using all2_at t i (by simpa using hi)
end
end Mine

namespace Mine
local macro_rules | `(tactic| walk_at "m:getf") => `(tactic| first | with_reducible exact GetF.here | ((with_reducible refine' GetF.there ?n ?t); (case n => decide); (case t => walk_at "m:getf")))
local macro_rules | `(tactic| walk_at "m:putf") => `(tactic| first | with_reducible exact PutF.here | with_reducible exact PutF.nil | ((with_reducible refine' PutF.there ?n ?t); (case n => decide); (case t => walk_at "m:putf")))
local macro_rules | `(tactic| walk_at "m:mem") => `(tactic| first | with_reducible exact mh | ((with_reducible refine' mt ?t); (case t => walk_at "m:mem")) | ((with_reducible refine' ma ?t); (case t => walk_at "m:mem")) | assumption | ((with_reducible refine' List.mem_append_left _ ?t); (case t => assumption)))
local macro_rules | `(tactic| walk_at "m:put") => `(tactic| first | with_reducible exact Put.head | ((with_reducible refine' Put.tail ?t); (case t => walk_at "m:put")) | ((with_reducible refine' Put.app ?t); (case t => walk_at "m:put")))
local macro_rules | `(tactic| walk_at "m:ins") => `(tactic| first | with_reducible exact ins_hd | with_reducible exact ins_hdA | with_reducible exact ins_all | ((with_reducible refine' ins_tl ?t); (case t => walk_at "m:ins")) | ((with_reducible refine' ins_app ?t); (case t => walk_at "m:ins")))
local macro_rules | `(tactic| walk_at "m:frm") => `(tactic| first | with_reducible exact fr_nil | ((with_reducible refine' fr_cons ?i ?t); (case i => walk_at "m:ins"); (case t => walk_at "m:frm")) | ((with_reducible refine' fr_app ?i ?t); (case i => walk_at "m:ins"); (case t => walk_at "m:frm")) | ((with_reducible refine' fr_last ?i); (case i => walk_at "m:ins")))
local macro_rules | `(tactic| walk_at "m:sub") => `(tactic| first | with_reducible exact su_refl | with_reducible exact su_nil | ((with_reducible refine' su_cons ?i ?t); (case i => walk_at "m:ins"); (case t => walk_at "m:sub")) | ((with_reducible refine' su_app ?i ?t); (case i => walk_at "m:ins"); (case t => walk_at "m:sub")) | ((with_reducible refine' su_last ?i); (case i => walk_at "m:ins")))
local macro_rules | `(tactic| walk_at "m:fo") => `(tactic| first
  | with_reducible exact fo_values
  | with_reducible exact fo_nexts
  | with_reducible exact fo_prevs
  | with_reducible exact fo_head
  | with_reducible exact fo_tail
  | with_reducible exact fo_count
  | with_reducible exact fo_free
  | with_reducible exact fo_flags
  | with_reducible exact fo_cursor
  | with_reducible exact fo_place)
local macro_rules | `(tactic| walk_at "m:so") => `(tactic| first
  | with_reducible exact so_values
  | with_reducible exact so_nexts
  | with_reducible exact so_prevs
  | with_reducible exact so_head
  | with_reducible exact so_tail
  | with_reducible exact so_count
  | with_reducible exact so_free
  | with_reducible exact so_flags
  | with_reducible exact so_cursor
  | with_reducible exact so_place
  | with_reducible exact so_was_unset)
local macro_rules | `(tactic| walk_at "m:gl") => `(tactic| first
  | with_reducible exact gl_Absent
  | with_reducible exact gl_taken
  | with_reducible exact gl_LinkList
  | with_reducible exact gl_new_node
  | with_reducible exact gl_unlink
  | with_reducible exact gl_is_gone
  | with_reducible exact gl_link_push
  | with_reducible exact gl_link_unshift
  | with_reducible exact gl_link_pop
  | with_reducible exact gl_link_shift
  | with_reducible exact gl_link_at
  | with_reducible exact gl_link_add
  | with_reducible exact gl_link_drop
  | with_reducible exact gl_link_values
  | with_reducible exact gl_stand_on
  | with_reducible exact gl_link_rewind
  | with_reducible exact gl_link_step
  | with_reducible exact gl_link_current
  | with_reducible exact gl_link_copy
  | with_reducible exact gl_law_told
  | with_reducible exact gl_law_draw
  | with_reducible exact gl_law_at_ends
  | with_reducible exact gl_law_added
  | with_reducible exact gl_law_dropped
  | with_reducible exact gl_law_rewound
  | with_reducible exact gl_law_stepped
  | with_reducible exact gl_law_deed
  | with_reducible exact gl_law_nodes
  | with_reducible exact gl_law_linked
  | with_reducible exact gl_law_marked
  | with_reducible exact gl_law_thrifty
  | with_reducible exact gl_law_copied
  | with_reducible exact gl_law_kept
  | with_reducible exact gl_Arr
  | fail "m:gl")
local macro_rules | `(tactic| walk_at "m:kp") => `(tactic| first
  | with_reducible exact kp_Absent
  | with_reducible exact kp_taken
  | with_reducible exact kp_LinkList
  | with_reducible exact kp_new_node
  | with_reducible exact kp_unlink
  | with_reducible exact kp_is_gone
  | with_reducible exact kp_link_push
  | with_reducible exact kp_link_unshift
  | with_reducible exact kp_link_pop
  | with_reducible exact kp_link_shift
  | with_reducible exact kp_link_at
  | with_reducible exact kp_link_add
  | with_reducible exact kp_link_drop
  | with_reducible exact kp_link_values
  | with_reducible exact kp_stand_on
  | with_reducible exact kp_link_rewind
  | with_reducible exact kp_link_step
  | with_reducible exact kp_link_current
  | with_reducible exact kp_link_copy
  | with_reducible exact kp_law_told
  | with_reducible exact kp_law_draw
  | with_reducible exact kp_law_at_ends
  | with_reducible exact kp_law_added
  | with_reducible exact kp_law_dropped
  | with_reducible exact kp_law_rewound
  | with_reducible exact kp_law_stepped
  | with_reducible exact kp_law_deed
  | with_reducible exact kp_law_nodes
  | with_reducible exact kp_law_linked
  | with_reducible exact kp_law_marked
  | with_reducible exact kp_law_thrifty
  | with_reducible exact kp_law_copied
  | with_reducible exact kp_law_kept
  | fail "m:kp")
local macro_rules | `(tactic| walk_at "m:gb") => `(tactic| first
  | with_reducible exact gb_isinstance
  | with_reducible exact gb_len
  | with_reducible exact gb_max
  | with_reducible exact gb_sorted
  | with_reducible exact gb_sum
  | with_reducible exact gb_list
  | with_reducible exact gb_range
  | with_reducible exact gb_enumerate
  | fail "m:gb")
local macro_rules | `(tactic| walk_at "m:bb") => `(tactic| first
  | with_reducible exact bb_isinstance
  | with_reducible exact bb_len
  | with_reducible exact bb_max
  | with_reducible exact bb_sorted
  | with_reducible exact bb_sum
  | fail "m:bb")
local macro_rules | `(tactic| walk_at "m:bt") => `(tactic| first
  | with_reducible exact bb_list
  | with_reducible exact bb_range
  | with_reducible exact bb_enumerate
  | fail "m:bt")
local macro_rules | `(tactic| walk_at "m:gx") => `(tactic| first
  | ((with_reducible refine' x_nil ?_))
  | ((with_reducible refine' x_cons ?_))
  | ((with_reducible refine' x_ret ?_))
  | ((with_reducible refine' x_ret0 ?_))
  | ((with_reducible refine' x_expr ?_ ?s1 ?s2); (case s1 => rfl); (case s2 => rfl))
  | ((with_reducible refine' x_name ?_ ?s1 ?s2 ?s3); (case s1 => rfl); (case s2 => rfl); (case s3 => rfl))
  | ((with_reducible refine' x_attr ?_ ?s1); (case s1 => rfl))
  | ((with_reducible refine' x_sub ?_ ?s1); (case s1 => rfl))
  | ((with_reducible refine' x_augname ?g ?_ ?s1 ?s2); (case g => walk_at "m:getf"); (case s1 => rfl); (case s2 => rfl))
  | ((with_reducible refine' x_augattr ?_))
  | ((with_reducible refine' x_augsub ?_ ?s1); (case s1 => (intros; rfl)))
  | ((with_reducible refine' x_swap2 ?_ ?s1 ?s2 ?s3 ?s4 ?s5); (case s1 => rfl); (case s2 => rfl); (case s3 => rfl); (case s4 => rfl); (case s5 => rfl))
  | ((with_reducible refine' x_tup ?_ ?s1 ?s2 ?s3); (case s1 => rfl); (case s2 => rfl); (case s3 => rfl))
  | ((with_reducible refine' e_loc ?g ?_ ?s1 ?s2 ?s3); (case g => walk_at "m:getf"); (case s1 => rfl); (case s2 => rfl); (case s3 => decide))
  | ((with_reducible refine' e_int ?_))
  | ((with_reducible refine' e_none ?_))
  | ((with_reducible refine' e_bool ?_))
  | ((with_reducible refine' e_str ?_))
  | ((with_reducible refine' e_attr ?g ?h1 ?h2 ?q ?ok ?hv ?_ ?s1 ?s2 ?s3); (case g => walk_at "m:getf"); (case h1 => walk_at "m:mem"); (case h2 => walk_at "m:mem"); (case q => walk_at "m:getf"); (case ok => walk_at "m:fo"); (case hv => rfl); (case s1 => rfl); (case s2 => rfl); (case s3 => decide))
  | ((with_reducible refine' e_cell ?hc ?hm ?_ ?s1 ?s2 ?s3); (case hc => rfl); (case hm => walk_at "m:mem"); (case s1 => rfl); (case s2 => rfl); (case s3 => decide))
  | ((with_reducible refine' e_cellattr ?hc ?hm ?h1 ?h2 ?q ?ok ?hv ?_ ?s1 ?s2 ?s3); (case hc => rfl); (case hm => walk_at "m:mem"); (case h1 => walk_at "m:mem"); (case h2 => walk_at "m:mem"); (case q => walk_at "m:getf"); (case ok => walk_at "m:fo"); (case hv => rfl); (case s1 => rfl); (case s2 => rfl); (case s3 => decide))
  | ((with_reducible refine' e_sub ?_))
  | ((with_reducible refine' e_bin ?_))
  | ((with_reducible refine' e_cmp ?_ ?s1); (case s1 => with_unfolding_all rfl))
  | ((with_reducible refine' t_cmp ?_ ?s1); (case s1 => with_unfolding_all rfl))
  | ((with_reducible refine' t_name ?_))
  | ((with_reducible refine' t_call ?_))
  | ((with_reducible refine' t_not ?_))
  | ((with_reducible refine' t_and1 ?_))
  | ((with_reducible refine' t_or1 ?_))
  | ((with_reducible refine' t_and ?_))
  | ((with_reducible refine' t_or ?_))
  | ((with_reducible refine' t_link ?_ ?s1); (case s1 => with_unfolding_all rfl))
  | ((with_reducible refine' e_un ?_))
  | ((with_reducible refine' e_and ?_))
  | ((with_reducible refine' e_or ?_))
  | ((with_reducible refine' e_and1 ?_))
  | ((with_reducible refine' e_list ?_))
  | ((with_reducible refine' e_tup ?_))
  | ((with_reducible refine' a_cons ?_ ?s1); (case s1 => rfl))
  | ((with_reducible refine' a_nil ?_))
  | ((with_reducible refine' n_nil ?_))
  | ((with_reducible refine' n_attr ?_))
  | ((with_reducible refine' e_meth lm_append ?_ ?s1 ?s2); (case s1 => rfl); (case s2 => rfl))
  | ((with_reducible refine' e_meth lm_pop ?_ ?s1 ?s2); (case s1 => rfl); (case s2 => rfl))
  | ((with_reducible refine' e_meth lm_insert ?_ ?s1 ?s2); (case s1 => rfl); (case s2 => rfl))
  | ((with_reducible refine' e_meth lm_index ?_ ?s1 ?s2); (case s1 => rfl); (case s2 => rfl))
  | ((with_reducible refine' e_callK ?gl ?kp ?_ ?s1 ?s2 ?s3 ?s4); (case gl => walk_at "m:gl"); (case kp => walk_at "m:kp"); (case s1 => rfl); (case s2 => rfl); (case s3 => decide); (case s4 => rfl))
  | ((with_reducible refine' e_callB ?gl ?bb ?_ ?s0 ?s1 ?s2 ?s3 ?s4); (case gl => walk_at "m:gb"); (case bb => walk_at "m:bb"); (case s0 => decide); (case s1 => rfl); (case s2 => rfl); (case s3 => decide); (case s4 => rfl))
  | ((with_reducible refine' e_callT ?gl ?bb ?_ ?s0 ?s1 ?s2 ?s3 ?s4); (case gl => walk_at "m:gb"); (case bb => walk_at "m:bt"); (case s0 => decide); (case s1 => rfl); (case s2 => rfl); (case s3 => decide); (case s4 => rfl))
  | ((with_reducible refine' e_globR ?gl ?_ ?s1 ?s2 ?s3); (case gl => walk_at "m:gl"); (case s1 => rfl); (case s2 => rfl); (case s3 => decide))
  | ((with_reducible refine' o_add ?_))
  | ((with_reducible refine' o_sub ?_))
  | ((with_reducible refine' o_iadd ?_))
  | ((with_reducible refine' o_isub ?_))
  | ((with_reducible refine' o_neg ?_))
  | ((with_reducible refine' o_lt ?_))
  | ((with_reducible refine' o_le ?_))
  | ((with_reducible refine' o_gt ?_))
  | ((with_reducible refine' o_ge ?_))
  | ((with_reducible refine' o_eq ?_))
  | ((with_reducible refine' o_ne ?_))
  | ((with_reducible refine' o_eqni ?_))
  | ((with_reducible refine' o_eqin ?_))
  | ((with_reducible refine' o_eqnn ?_))
  | ((with_reducible refine' o_nebb ?_))
  | ((with_reducible refine' o_isin ?_))
  | ((with_reducible refine' o_isnn ?_))
  | ((with_reducible refine' o_isnotin ?_))
  | ((with_reducible refine' o_isnotnn ?_))
  | ((with_reducible refine' o_and ?_))
  | ((with_reducible refine' o_tb ?_))
  | ((with_reducible refine' o_setattr' ?h1 ?h2 ?q ?p ?ok ?hz ?_); (case h1 => walk_at "m:mem"); (case h2 => walk_at "m:mem"); (case q => walk_at "m:putf"); (case p => walk_at "m:put"); (case ok => walk_at "m:so"); (case hz => exact Nat.le_of_ble_eq_true rfl))
  | ((with_reducible refine' o_attr ?h1 ?h2 ?q ?ok ?hv ?_); (case h1 => walk_at "m:mem"); (case h2 => walk_at "m:mem"); (case q => walk_at "m:getf"); (case ok => walk_at "m:fo"); (case hv => rfl))
  | ((with_reducible refine' o_maptail ?h1 ?q ?_ ?s1); (case h1 => walk_at "m:mem"); (case q => walk_at "m:getf"); (case s1 => (intro _; with_unfolding_all rfl)))
  | ((with_reducible refine' o_mapget ?h1 ?q ?_); (case h1 => walk_at "m:mem"); (case q => walk_at "m:getf"))
  | ((with_reducible refine' o_mapset' ?h1 ?q ?p ?hz ?_); (case h1 => walk_at "m:mem"); (case q => walk_at "m:putf"); (case p => walk_at "m:put"); (case hz => exact Nat.le_of_ble_eq_true rfl))
  | ((with_reducible refine' c_isint not_arr ?_))
  | ((with_reducible refine' c_isint not_absent ?_))
  | ((with_reducible refine' c_max ?_))
  | ((with_reducible refine' ite_t ?_))
  | ((with_reducible refine' ite_f ?_))
  | ((with_reducible refine' ex_put ?g ?_); (case g => walk_at "m:putf"))
  | fail "m:gx: no rule")
local macro_rules | `(tactic| walk_at "m:go") => `(tactic| first
  | walk_at "m:gx"
  | ((with_reducible refine' x_if ?_))
  | ((with_reducible refine' e_ife ?_))
  | fail "m:go: no rule")

section
variable {w : World} {mg mb : Str → Option Value} {L : Addr} {c : Cx (gd w mg mb) L} {lo : Lo} {H : Hp}

/-! the line: its ledger -/
structure LA where
  ln : Addr
  dx : Addr
  vl : Addr
  nx : Addr
  pv : Addr
  fr : Addr
abbrev lineD (p : LA) (S : LS) : List (Str × Value) :=
  [(Str.ofString "values", .ref p.vl), (Str.ofString "nexts", .ref p.nx), (Str.ofString "prevs", .ref p.pv), (Str.ofString "head", I S.head), (Str.ofString "tail", I S.tail), (Str.ofString "count", I S.count),
   (Str.ofString "free", .ref p.fr), (Str.ofString "flags", I S.flags), (Str.ofString "cursor", I S.cursor), (Str.ofString "place", I S.place)]
abbrev absH (ab : List (Addr × Addr)) : Hp := ab.map fun x => (x.1, .inst 61 x.2)
abbrev lineH (p : LA) (vs : List Value) (S : LS) : Hp :=
  [(p.ln, .inst 296 p.dx), (p.dx, .dict (lineD p S)), (p.vl, .list vs), (p.nx, .list (S.nexts.map I)), (p.pv, .list (S.prevs.map I)), (p.fr, .list (S.free.map I))]
/-- how the values list stands for the state's -/
def ValOk (ab : List (Addr × Addr)) : Value → Option Int → Prop
  | v, some x => v = I x
  | v, none => ∃ a d, v = .ref a ∧ (a, d) ∈ ab
abbrev OkV (ab : List (Addr × Addr)) (vs : List Value) (S : LS) : Prop := All2 (ValOk ab) vs S.vals

theorem all2_set {α β : Type} {R : α → β → Prop} {l : List α} {m : List β} (h : All2 R l m) : ∀ (k : Nat) {a : α} {b : β}, R a b → All2 R (l.set k a) (m.set k b) := by
  induction h with
  | nil => intro k a b _; exact .nil
  | @cons x y l m h1 h2 ih =>
    intro k a b r
    cases k with
    | zero => exact .cons r h2
    | succ k => exact .cons h1 (ih k r)
theorem all2_app {α β : Type} {R : α → β → Prop} {l l' : List α} {m m' : List β} (h : All2 R l m) (h' : All2 R l' m') : All2 R (l ++ l') (m ++ m') := by
  induction h with
  | nil => exact h'
  | cons a _ ih => exact .cons a ih
theorem all2_get {α β : Type} {R : α → β → Prop} {l : List α} {m : List β} (h : All2 R l m) : ∀ {k : Nat} {b : β}, m[k]? = some b → ∃ a, l[k]? = some a ∧ R a b := by
  induction h with
  | nil => intro k b e; cases k <;> simp at e
  | @cons x y l m h1 h2 ih =>
    intro k b e
    cases k with
    | zero => simp at e; subst e; exact ⟨x, by simp, h1⟩
    | succ k => simpa using ih (k := k) (b := b) (by simpa using e)
theorem valOk_mono {ab ab' : List (Addr × Addr)} (h : ∀ x ∈ ab, x ∈ ab') {vs : List Value} {m : List (Option Int)} (q : All2 (ValOk ab) vs m) : All2 (ValOk ab') vs m := by
  induction q with
  | nil => exact .nil
  | @cons v o _ _ h1 _ ih =>
    refine .cons ?_ ih
    cases o with
    | some x => exact h1
    | none => obtain ⟨a, d, e, hm⟩ := h1; exact ⟨a, d, e, h _ hm⟩
/-- a living value -/
theorem val_int {ab : List (Addr × Addr)} {vs : List Value} {S : LS} (ov : OkV ab vs S) {n x : Int} (hv : S.valAt n = some x) : vs[n.toNat]? = some (I x) := by
  unfold LS.valAt at hv
  rw [List.getD_eq_getElem?_getD] at hv
  have e : S.vals[n.toNat]? = some (some x) := by
    cases h : S.vals[n.toNat]? with
    | none => rw [h] at hv; simp at hv
    | some o => rw [h] at hv; simp at hv; rw [hv]
  obtain ⟨v, h1, h2⟩ := all2_get ov e
  rw [h1]; exact congrArg some h2
theorem val_gone {ab : List (Addr × Addr)} {vs : List Value} {S : LS} (ov : OkV ab vs S) {n : Int} (h0 : 0 ≤ n) (hn : n < S.vals.length) (hv : S.valAt n = none) : ∃ a d, vs[n.toNat]? = some (.ref a) ∧ (a, d) ∈ ab := by
  unfold LS.valAt at hv
  have hlt : n.toNat < S.vals.length := by omega
  have e : S.vals[n.toNat]? = some none := by
    rw [List.getD_eq_getElem?_getD, List.getElem?_eq_getElem hlt] at hv
    rw [List.getElem?_eq_getElem hlt]; simpa using hv
  obtain ⟨v, h1, a, d, h2, h3⟩ := all2_get ov e
  exact ⟨a, d, by rw [h1, h2], h3⟩
theorem abs_mem {ab : List (Addr × Addr)} {a d : Addr} (h : (a, d) ∈ ab) : (a, AO.inst 61 d) ∈ absH ab := List.mem_map.mpr ⟨(a, d), h, rfl⟩

theorem taken_c {i : Int} {Q : Value → Lo → Hp → Prop} (hr : c.room 1) (h : Q (I i) lo H) : Cl c (.ref 279) [I i] lo H Q := by
  refine cl_fnP (G := []) (K := H) 0 [Str.ofString "value"] [(Str.ofString "value", I i)] (by rfl) (by kernel_rfl) hr rfl rfl (fun ws h => by match ws, h with | [a], _ => rfl) (by decide) (by decide) rfl rfl rfl (by decide) (List.Perm.refl _) ?_
  intro L' c' hr'
  walk_at "m:go"
  walk_at "m:go"
  refine t_plain ?_
  repeat walk_at "m:go"
  exact h

theorem new_node_c {p : LA} {ab : List (Addr × Addr)} {vs : List Value} {S : LS} {K : Hp} {x : Int} {Q : Value → Lo → Hp → Prop} (hr : c.room 2) (hp : H.Perm (lineH p vs S ++ K)) (wf : WF S) (ov : OkV ab vs S)
    (h : ∀ vs', OkV ab vs' (S.newNode x).2 → Q (I (S.newNode x).1) lo (lineH p vs' (S.newNode x).2 ++ K)) : Cl c (.ref 307) [.ref p.ln, I x] lo H Q := by
  refine cl_fnP (G := lineH p vs S) (K := K) 1 [Str.ofString "line", Str.ofString "value"] [(Str.ofString "line", .ref p.ln), (Str.ofString "value", I x)] (by rfl) (by kernel_rfl) hr rfl rfl (fun ws h => by match ws, h with | [a, b], _ => rfl) (by decide) (by decide) rfl rfl rfl (by decide) hp ?_
  intro L' c' hr'
  have hlen := wf.len
  have hfree := wf.free
  have hnx := wf.nx
  have hpv := wf.pv
  have hvs := all2_len ov
  walk_at "m:go"
  walk_at "m:go"
  refine t_plain ?_
  walk_at "m:go"
  refine o_tlI (ns := S.free) (by walk_at "m:mem") (by omega) ?_
  rcases snoc_cases S.free with hf | ⟨f, n, hf⟩
  · rw [newNode_nil hf] at h
    rw [hf]
    refine ite_f ?_
    repeat walk_at "m:go"
    refine ⟨p.vl, vs, rfl, by walk_at "m:mem", ?_⟩
    repeat walk_at "m:go"
    refine taken_c hr' ?_
    walk_at "m:go"
    refine c_append (by walk_at "m:put") (by omega) ?_
    repeat walk_at "m:go"
    refine ⟨p.nx, _, rfl, by walk_at "m:mem", ?_⟩
    repeat walk_at "m:go"
    refine c_appendI (by walk_at "m:put") (by omega) ?_
    repeat walk_at "m:go"
    refine ⟨p.pv, _, rfl, by walk_at "m:mem", ?_⟩
    repeat walk_at "m:go"
    refine c_appendI (by walk_at "m:put") (by omega) ?_
    repeat walk_at "m:go"
    refine c_len (by walk_at "m:mem") (by rw [List.length_append]; simp only [List.length_cons, List.length_nil]; omega) ?_
    repeat walk_at "m:go"
    rw [show ((vs ++ [I x]).length : Int) - 1 = S.vals.length by simp; omega]
    exact h _ (all2_app ov (.cons rfl .nil))
  · have hn := wf.frees n (by rw [hf]; simp)
    rw [newNode_snoc hf] at h
    rw [show (!S.free.isEmpty) = true by rw [hf]; cases f <;> rfl]
    refine ite_t ?_
    repeat walk_at "m:go"
    refine ⟨p.fr, _, rfl, by walk_at "m:mem", ?_⟩
    repeat walk_at "m:go"
    unfold lineH
    rw [hf]
    rw [hf, List.length_append] at hfree
    refine c_popI (by walk_at "m:put") (by omega) ?_
    repeat walk_at "m:go"
    refine taken_c hr' ?_
    repeat walk_at "m:go"
    refine o_setitem (by walk_at "m:put") hn.1 (by omega) (by omega) ?_
    repeat walk_at "m:go"
    exact h _ (all2_set ov _ rfl)
end

section
variable {w : World} {mg mb : Str → Option Value} {L : Addr} {c : Cx (gd w mg mb) L} {lo : Lo} {H : Hp}

theorem push_c {p : LA} {ab : List (Addr × Addr)} {vs : List Value} {S : LS} {K : Hp} {x : Int} {Q : Value → Lo → Hp → Prop} (hr : c.room 3) (hp : H.Perm (lineH p vs S ++ K)) (wf : WF S) (hz : S.vals.length < 100) (ov : OkV ab vs S)
    (h : ∀ vs', OkV ab vs' (S.push x) → Q .none lo (lineH p vs' (S.push x) ++ K)) : Cl c (.ref 328) [.ref p.ln, I x] lo H Q := by
  refine cl_fnP (G := lineH p vs S) (K := K) 2 [Str.ofString "line", Str.ofString "value"] [(Str.ofString "line", .ref p.ln), (Str.ofString "value", I x)] (by rfl) (by kernel_rfl) hr rfl rfl (fun ws h => by match ws, h with | [a, b], _ => rfl) (by decide) (by decide) rfl rfl rfl (by decide) hp ?_
  intro L' c' hr'
  repeat walk_at "m:go"
  refine new_node_c (K := []) hr' (by rw [List.append_nil]) wf ov fun vs1 ov1 => ?_
  rw [List.append_nil]
  have wf1 := newNode_wf (x := x) wf hz
  have hn := newNode_len (x := x) wf
  generalize hN : (S.newNode x).1 = n at *
  generalize hS : (S.newNode x).2 = S1 at *
  have l1 := wf1.len
  have l2 := wf1.nx
  have l3 := wf1.pv
  have l4 := wf1.tail
  repeat walk_at "m:go"
  refine o_setI (by walk_at "m:put") (by omega) (by omega) (by omega) ?_
  repeat walk_at "m:go"
  refine ite_dec (fun ht => ?_) (fun ht => ?_)
  · have e : S.push x = { S1 with prevs := S1.prevs.set n.toNat S1.tail, head := n, tail := n, count := S1.count + 1 } := by simp only [LS.push, hN, hS]; rw [if_pos ht]
    rw [e] at h
    repeat walk_at "m:go"
    exact h _ ov1
  · have e : S.push x = { S1 with prevs := S1.prevs.set n.toNat S1.tail, nexts := S1.nexts.set S1.tail.toNat n, tail := n, count := S1.count + 1 } := by simp only [LS.push, hN, hS]; rw [if_neg ht]
    rw [e] at h
    repeat walk_at "m:go"
    refine o_setI (by walk_at "m:put") (by omega) (by omega) (by omega) ?_
    repeat walk_at "m:go"
    exact h _ ov1

theorem unshift_c {p : LA} {ab : List (Addr × Addr)} {vs : List Value} {S : LS} {K : Hp} {x : Int} {Q : Value → Lo → Hp → Prop} (hr : c.room 3) (hp : H.Perm (lineH p vs S ++ K)) (wf : WF S) (hz : S.vals.length < 100) (ov : OkV ab vs S)
    (h : ∀ vs', OkV ab vs' (S.unshift x) → Q .none lo (lineH p vs' (S.unshift x) ++ K)) : Cl c (.ref 335) [.ref p.ln, I x] lo H Q := by
  refine cl_fnP (G := lineH p vs S) (K := K) 2 [Str.ofString "line", Str.ofString "value"] [(Str.ofString "line", .ref p.ln), (Str.ofString "value", I x)] (by rfl) (by kernel_rfl) hr rfl rfl (fun ws h => by match ws, h with | [a, b], _ => rfl) (by decide) (by decide) rfl rfl rfl (by decide) hp ?_
  intro L' c' hr'
  repeat walk_at "m:go"
  refine new_node_c (K := []) hr' (by rw [List.append_nil]) wf ov fun vs1 ov1 => ?_
  rw [List.append_nil]
  have wf1 := newNode_wf (x := x) wf hz
  have hn := newNode_len (x := x) wf
  generalize hN : (S.newNode x).1 = n at *
  generalize hS : (S.newNode x).2 = S1 at *
  have l1 := wf1.len
  have l2 := wf1.nx
  have l3 := wf1.pv
  have l4 := wf1.head
  repeat walk_at "m:go"
  refine o_setI (by walk_at "m:put") (by omega) (by omega) (by omega) ?_
  repeat walk_at "m:go"
  refine ite_dec (fun ht => ?_) (fun ht => ?_)
  · have e : S.unshift x = { S1 with nexts := S1.nexts.set n.toNat S1.head, tail := n, head := n, count := S1.count + 1 } := by simp only [LS.unshift, hN, hS]; rw [if_pos ht]
    rw [e] at h
    repeat walk_at "m:go"
    exact h _ ov1
  · have e : S.unshift x = { S1 with nexts := S1.nexts.set n.toNat S1.head, prevs := S1.prevs.set S1.head.toNat n, head := n, count := S1.count + 1 } := by simp only [LS.unshift, hN, hS]; rw [if_neg ht]
    rw [e] at h
    repeat walk_at "m:go"
    refine o_setI (by walk_at "m:put") (by omega) (by omega) (by omega) ?_
    repeat walk_at "m:go"
    exact h _ ov1

theorem is_gone_c {p : LA} {ab : List (Addr × Addr)} {vs : List Value} {S : LS} {K : Hp} {n : Int} {Q : Value → Lo → Hp → Prop} (hr : c.room 1) (hp : H.Perm (lineH p vs S ++ absH ab ++ K)) (ov : OkV ab vs S) (h0 : 0 ≤ n) (hn : n < S.vals.length) (hz : S.vals.length ≤ 100)
    (h : Q (.bool (decide (S.valAt n = none))) lo (lineH p vs S ++ absH ab ++ K)) : Cl c (.ref 321) [.ref p.ln, I n] lo H Q := by
  refine cl_fnP (G := lineH p vs S ++ absH ab) (K := K) 0 [Str.ofString "line", Str.ofString "node"] [(Str.ofString "line", .ref p.ln), (Str.ofString "node", I n)] (by rfl) (by kernel_rfl) hr rfl rfl (fun ws h => by match ws, h with | [a, b], _ => rfl) (by decide) (by decide) rfl rfl rfl (by decide) hp ?_
  intro L' c' hr'
  unfold lineH at h ⊢
  simp only [List.cons_append, List.nil_append] at h ⊢
  repeat walk_at "m:go"
  cases hv : S.valAt n with
  | some x =>
    refine o_tail (by walk_at "m:mem") h0 (by omega) (val_int ov hv) ?_ (by intro _; with_unfolding_all rfl)
    repeat walk_at "m:go"
    rw [hv] at h
    exact h
  | none =>
    obtain ⟨a, d, e, hm⟩ := val_gone ov h0 hn hv
    refine o_tail (by walk_at "m:mem") h0 (by omega) e ?_ (by intro _; with_unfolding_all rfl)
    repeat walk_at "m:go"
    refine c_isinst (List.mem_cons_of_mem _ (List.mem_cons_of_mem _ (List.mem_cons_of_mem _ (List.mem_cons_of_mem _ (List.mem_cons_of_mem _ (List.mem_cons_of_mem _ (abs_mem hm))))))) is_absent ?_
    rw [hv] at h
    exact h
end

section
variable {w : World} {mg mb : Str → Option Value} {L : Addr} {c : Cx (gd w mg mb) L} {lo : Lo} {H : Hp}

/-- the ledger of the line -/
def LR (p : LA) (S : LS) (G : Hp) : Prop := ∃ vs ab, G = lineH p vs S ++ absH ab ∧ OkV ab vs S

theorem push_l {p : LA} {S : LS} {G K : Hp} {x : Int} {Q : Value → Lo → Hp → Prop} (hr : c.room 3) (hl : LR p S G) (hp : Frm G K H) (wf : WF S) (hz : S.vals.length < 100)
    (h : ∀ G', LR p (S.push x) G' → Q .none lo (G' ++ K)) : Cl c (.ref 328) [.ref p.ln, I x] lo H Q := by
  obtain ⟨vs, ab, rfl, ov⟩ := hl
  refine push_c (K := absH ab ++ K) hr (by rw [← List.append_assoc]; exact hp) wf hz ov fun vs' ov' => ?_
  rw [← List.append_assoc]
  exact h _ ⟨vs', ab, rfl, ov'⟩
theorem unshift_l {p : LA} {S : LS} {G K : Hp} {x : Int} {Q : Value → Lo → Hp → Prop} (hr : c.room 3) (hl : LR p S G) (hp : Frm G K H) (wf : WF S) (hz : S.vals.length < 100)
    (h : ∀ G', LR p (S.unshift x) G' → Q .none lo (G' ++ K)) : Cl c (.ref 335) [.ref p.ln, I x] lo H Q := by
  obtain ⟨vs, ab, rfl, ov⟩ := hl
  refine unshift_c (K := absH ab ++ K) hr (by rw [← List.append_assoc]; exact hp) wf hz ov fun vs' ov' => ?_
  rw [← List.append_assoc]
  exact h _ ⟨vs', ab, rfl, ov'⟩
theorem new_node_l {p : LA} {S : LS} {G K : Hp} {x : Int} {Q : Value → Lo → Hp → Prop} (hr : c.room 2) (hl : LR p S G) (hp : Frm G K H) (wf : WF S)
    (h : ∀ G', LR p (S.newNode x).2 G' → Q (I (S.newNode x).1) lo (G' ++ K)) : Cl c (.ref 307) [.ref p.ln, I x] lo H Q := by
  obtain ⟨vs, ab, rfl, ov⟩ := hl
  refine new_node_c (K := absH ab ++ K) hr (by rw [← List.append_assoc]; exact hp) wf ov fun vs' ov' => ?_
  rw [← List.append_assoc]
  exact h _ ⟨vs', ab, rfl, ov'⟩
theorem is_gone_l {p : LA} {S : LS} {G K : Hp} {n : Int} {Q : Value → Lo → Hp → Prop} (hr : c.room 1) (hl : LR p S G) (hp : Frm G K H) (h0 : 0 ≤ n) (hn : n < S.vals.length) (hz : S.vals.length ≤ 100)
    (h : Q (.bool (decide (S.valAt n = none))) lo (G ++ K)) : Cl c (.ref 321) [.ref p.ln, I n] lo H Q := by
  obtain ⟨vs, ab, rfl, ov⟩ := hl
  exact is_gone_c hr hp ov h0 hn hz h

theorem absent_c {Q : Value → Lo → Hp → Prop} (hr : c.room 2) (h : ∀ a d, Q (.ref a) lo ((a, .inst 61 d) :: (d, .dict [(Str.ofString "was_unset", .bool false)]) :: H)) : Cl c (.ref 61) [] lo H Q := by
  refine cl_make (lo0 := fun x => [(Str.ofString "self", .ref x), (Str.ofString "was_unset", .bool false)]) 0 mk_absent (fI := 58) (by kernel_rfl) (by kernel_rfl) hr (by rfl) (by kernel_rfl) (fun x => ?_) (fun x => by show ([Str.ofString "self", Str.ofString "was_unset"] : List Str).Nodup; decide) (fun x y hy => ?_) rfl rfl rfl (by decide) fun x dx L' c' hr' => ?_
  · intro ws s e X
    obtain ⟨v, rfl⟩ : ∃ v, ws = [v] := by cases ws with | nil => cases e | cons v r => cases r with | nil => exact ⟨v, rfl⟩ | cons _ _ => simp at e
    simp only [List.map_cons, List.map_nil, List.cons.injEq, and_true] at e
    obtain rfl := er_ref e
    exact ⟨[(Str.ofString "self", .ref x), (Str.ofString "was_unset", .bool false)], binds_K X rfl (by rfl) rfl rfl rfl, rfl⟩
  · rcases List.mem_cons.mp hy with rfl | hy
    · rfl
    · rcases List.mem_cons.mp hy with rfl | hy
      · rfl
      · cases hy
  · repeat walk_at "m:go"
    exact h _ _
end

section
variable {w : World} {mg mb : Str → Option Value} {L : Addr} {c : Cx (gd w mg mb) L} {lo : Lo} {H : Hp}
theorem unlink_l {p : LA} {S : LS} {G K : Hp} {n x : Int} {Q : Value → Lo → Hp → Prop} (hr : c.room 4) (hl : LR p S G) (hp : Frm G K H) (wf : WF S) (h0 : 0 ≤ n) (hn : n < S.vals.length) (hv : S.valAt n = some x)
    (h : ∀ G', LR p (S.unlink n) G' → Q (I x) lo (G' ++ K)) : Cl c (.ref 314) [.ref p.ln, I n] lo H Q := by
  obtain ⟨vs, ab, rfl, ov⟩ := hl
  refine cl_fnW (G := lineH p vs S ++ absH ab) (K := K) 3 [Str.ofString "line", Str.ofString "node"] [(Str.ofString "line", .ref p.ln), (Str.ofString "node", I n)] (by rfl) (by kernel_rfl) hr rfl rfl (fun ws h => by match ws, h with | [a, b], _ => rfl) (by decide) (by decide) rfl rfl rfl (by decide) hp ?_
  intro L' c' hr'
  have hr2 := room_le hr' (m := 2) (by omega)
  have hnx := wf.nx
  have hpv := wf.pv
  have hlen := wf.len
  have hfr := wf.free
  have hvs := all2_len ov
  have hb := getD_bound wf.nexts (by omega) n.toNat
  have ha := getD_bound wf.prevs (by omega) n.toNat
  simp only [lineH, List.cons_append, List.nil_append, List.append_assoc]
  repeat walk_at "m:go"
  refine o_tailI (by walk_at "m:mem") h0 (by omega) (by omega) ?_ (by intro _; with_unfolding_all rfl)
  repeat walk_at "m:go"
  refine o_tailI (by walk_at "m:mem") h0 (by omega) (by omega) ?_ (by intro _; with_unfolding_all rfl)
  generalize hA : S.prevs.getD n.toNat (-1) = ahead at *
  generalize hB : S.nexts.getD n.toNat (-1) = behind at *
  repeat walk_at "m:go"
  refine ⟨Nat.le_of_ble_eq_true rfl, fun t => ⟨t, _, _, rfl, mh, ?_⟩⟩
  walk_at "m:go"
  walk_at "m:go"
  walk_at "m:go"
  refine x_ifJ (fun lo' H' => ∃ S1 : LS, S1 = (if ahead < 0 then { S with head := behind } else { S with nexts := S.nexts.set ahead.toNat behind }) ∧
    lo' = [(Str.ofString "line", .ref p.ln), (Str.ofString "node", I n), (Str.ofString "behind", I behind), (Str.ofString "ahead", I ahead)] ∧ H' = (t, AO.tup [I ahead, I behind]) :: (lineH p vs S1 ++ absH ab)) ?_ ?_
  · repeat walk_at "m:go"
    refine ite_dec (fun h1 => ?_) (fun h1 => ?_)
    · repeat walk_at "m:go"
      exact ⟨_, (if_pos h1).symm, rfl, rfl⟩
    · repeat walk_at "m:go"
      refine o_setI (by walk_at "m:put") (by omega) (by omega) (by omega) ?_
      repeat walk_at "m:go"
      exact ⟨_, (if_neg h1).symm, rfl, rfl⟩
  rintro _ _ ⟨S1, e1, rfl, rfl⟩
  have l1 : S1.vals = S.vals ∧ S1.prevs = S.prevs ∧ S1.nexts.length = S.nexts.length ∧ S1.free = S.free ∧ S1.cursor = S.cursor := by subst e1; split <;> simp
  simp only [lineH, List.cons_append, List.nil_append]
  walk_at "m:go"
  refine x_ifJ (fun lo' H' => ∃ S2 : LS, S2 = (if behind < 0 then { S1 with tail := ahead } else { S1 with prevs := S1.prevs.set behind.toNat ahead }) ∧
    lo' = [(Str.ofString "line", .ref p.ln), (Str.ofString "node", I n), (Str.ofString "behind", I behind), (Str.ofString "ahead", I ahead)] ∧ H' = (t, AO.tup [I ahead, I behind]) :: (lineH p vs S2 ++ absH ab)) ?_ ?_
  · repeat walk_at "m:go"
    refine ite_dec (fun h1 => ?_) (fun h1 => ?_)
    · repeat walk_at "m:go"
      exact ⟨_, (if_pos h1).symm, rfl, rfl⟩
    · repeat walk_at "m:go"
      refine o_setI (by walk_at "m:put") (by omega) (by rw [l1.2.1]; omega) (by rw [l1.2.1]; omega) ?_
      repeat walk_at "m:go"
      exact ⟨_, (if_neg h1).symm, rfl, rfl⟩
  rintro _ _ ⟨S2, e2, rfl, rfl⟩
  have l2 : S2.vals = S.vals ∧ S2.prevs.length = S.prevs.length ∧ S2.nexts.length = S.nexts.length ∧ S2.free = S.free ∧ S2.cursor = S.cursor := by subst e2; split <;> simp [l1]
  obtain ⟨m1, m2, m3, m4, m5⟩ := l2
  simp only [lineH, List.cons_append, List.nil_append]
  repeat walk_at "m:go"
  refine o_tail (by walk_at "m:mem") h0 (by omega) (val_int ov hv) ?_ (by intro _; with_unfolding_all rfl)
  repeat walk_at "m:go"
  refine absent_c hr2 fun a d => ?_
  repeat walk_at "m:go"
  refine o_setitem (by walk_at "m:put") h0 (by omega) (by omega) ?_
  repeat walk_at "m:go"
  refine o_setI (by walk_at "m:put") h0 (by omega) (by omega) ?_
  repeat walk_at "m:go"
  refine o_setI (by walk_at "m:put") h0 (by omega) (by omega) ?_
  repeat walk_at "m:go"
  have e : S.unlink n = (if n = S2.cursor then { S2 with vals := S2.vals.set n.toNat none, nexts := S2.nexts.set n.toNat (-1), prevs := S2.prevs.set n.toNat (-1), count := S2.count - 1 } else
     { S2 with vals := S2.vals.set n.toNat none, nexts := S2.nexts.set n.toNat (-1), prevs := S2.prevs.set n.toNat (-1), count := S2.count - 1, free := S2.free ++ [n] }) := by
    simp only [LS.unlink, hA, hB]
    rw [← e1, ← e2]
  refine ite_ne (fun h3 => ?_) (fun h3 => ?_)
  · repeat walk_at "m:go"
    refine ⟨p.fr, _, rfl, by walk_at "m:mem", ?_⟩
    repeat walk_at "m:go"
    refine c_appendI (by walk_at "m:put") (by rw [m4]; omega) ?_
    repeat walk_at "m:go"
    rw [if_neg h3] at e
    rw [e] at h
    refine ⟨lineH p (vs.set n.toNat (.ref a)) _ ++ absH ((a, d) :: ab), ?_, h _ ⟨_, _, rfl, ?_⟩⟩
    · simp only [lineH, absH, List.cons_append, List.nil_append, List.map_cons]
      walk_at "m:sub"
    · show All2 _ _ (S2.vals.set n.toNat none)
      rw [m1]
      exact all2_set (valOk_mono (fun x hx => List.mem_cons_of_mem _ hx) ov) _ ⟨a, d, rfl, List.mem_cons_self⟩
  · repeat walk_at "m:go"
    rw [if_pos h3] at e
    rw [e] at h
    refine ⟨lineH p (vs.set n.toNat (.ref a)) _ ++ absH ((a, d) :: ab), ?_, h _ ⟨_, _, rfl, ?_⟩⟩
    · simp only [lineH, absH, List.cons_append, List.nil_append, List.map_cons]
      walk_at "m:sub"
    · show All2 _ _ (S2.vals.set n.toNat none)
      rw [m1]
      exact all2_set (valOk_mono (fun x hx => List.mem_cons_of_mem _ hx) ov) _ ⟨a, d, rfl, List.mem_cons_self⟩
end

section
variable {w : World} {mg mb : Str → Option Value} {L : Addr} {c : Cx (gd w mg mb) L} {lo : Lo} {H : Hp}
abbrev optV : Option Int → Value
  | none => .none
  | some x => I x

theorem pop_l {p : LA} {S : LS} {G K : Hp} {Q : Value → Lo → Hp → Prop} (hr : c.room 5) (hl : LR p S G) (hp : Frm G K H) (wf : WF S) (hv : 0 ≤ S.tail → ∃ x, S.valAt S.tail = some x)
    (h : ∀ G', LR p S.pop G' → Q (optV S.popV) lo (G' ++ K)) : Cl c (.ref 342) [.ref p.ln] lo H Q := by
  obtain ⟨vs, ab, rfl, ov⟩ := hl
  refine cl_fnW (G := lineH p vs S ++ absH ab) (K := K) 4 [Str.ofString "line"] [(Str.ofString "line", .ref p.ln)] (by rfl) (by kernel_rfl) hr rfl rfl (fun ws h => by match ws, h with | [a], _ => rfl) (by decide) (by decide) rfl rfl rfl (by decide) hp ?_
  intro L' c' hr'
  have ht := wf.tail
  simp only [lineH, List.cons_append, List.nil_append]
  repeat walk_at "m:go"
  refine ite_dec (fun h1 => ?_) (fun h1 => ?_)
  · repeat walk_at "m:go"
    have e1 : S.pop = S := if_pos h1
    have e2 : S.popV = none := if_pos h1
    rw [e1, e2] at h
    exact ⟨_, su_refl, h _ ⟨vs, ab, rfl, ov⟩⟩
  · have e1 : S.pop = S.unlink S.tail := if_neg h1
    have e2 : S.popV = S.valAt S.tail := if_neg h1
    obtain ⟨x, hx⟩ := hv (by omega)
    rw [e1, e2, hx] at h
    repeat walk_at "m:go"
    refine unlink_l (G := lineH p vs S ++ absH ab) hr' ⟨vs, ab, rfl, ov⟩ fr_all wf (by omega) (by omega) hx fun G' hG' => ?_
    rw [List.append_nil]
    exact ⟨_, su_refl, h _ hG'⟩
theorem shift_l {p : LA} {S : LS} {G K : Hp} {Q : Value → Lo → Hp → Prop} (hr : c.room 5) (hl : LR p S G) (hp : Frm G K H) (wf : WF S) (hv : 0 ≤ S.head → ∃ x, S.valAt S.head = some x)
    (h : ∀ G', LR p S.shift G' → Q (optV S.shiftV) lo (G' ++ K)) : Cl c (.ref 349) [.ref p.ln] lo H Q := by
  obtain ⟨vs, ab, rfl, ov⟩ := hl
  refine cl_fnW (G := lineH p vs S ++ absH ab) (K := K) 4 [Str.ofString "line"] [(Str.ofString "line", .ref p.ln)] (by rfl) (by kernel_rfl) hr rfl rfl (fun ws h => by match ws, h with | [a], _ => rfl) (by decide) (by decide) rfl rfl rfl (by decide) hp ?_
  intro L' c' hr'
  have ht := wf.head
  simp only [lineH, List.cons_append, List.nil_append]
  repeat walk_at "m:go"
  refine ite_dec (fun h1 => ?_) (fun h1 => ?_)
  · repeat walk_at "m:go"
    have e1 : S.shift = S := if_pos h1
    have e2 : S.shiftV = none := if_pos h1
    rw [e1, e2] at h
    exact ⟨_, su_refl, h _ ⟨vs, ab, rfl, ov⟩⟩
  · have e1 : S.shift = S.unlink S.head := if_neg h1
    have e2 : S.shiftV = S.valAt S.head := if_neg h1
    obtain ⟨x, hx⟩ := hv (by omega)
    rw [e1, e2, hx] at h
    repeat walk_at "m:go"
    refine unlink_l (G := lineH p vs S ++ absH ab) hr' ⟨vs, ab, rfl, ov⟩ fr_all wf (by omega) (by omega) hx fun G' hG' => ?_
    rw [List.append_nil]
    exact ⟨_, su_refl, h _ hG'⟩

theorem stand_on_l {p : LA} {S : LS} {G K : Hp} {n : Int} {Q : Value → Lo → Hp → Prop} (hr : c.room 2) (hl : LR p S G) (hp : Frm G K H) (wf : WF S)
    (h : ∀ G', LR p (S.standOn n) G' → Q .none lo (G' ++ K)) : Cl c (.ref 384) [.ref p.ln, I n] lo H Q := by
  obtain ⟨vs, ab, rfl, ov⟩ := hl
  refine cl_fnW (G := lineH p vs S ++ absH ab) (K := K) 1 [Str.ofString "line", Str.ofString "node"] [(Str.ofString "line", .ref p.ln), (Str.ofString "node", I n)] (by rfl) (by kernel_rfl) hr rfl rfl (fun ws h => by match ws, h with | [a, b], _ => rfl) (by decide) (by decide) rfl rfl rfl (by decide) hp ?_
  intro L' c' hr'
  have hc := wf.cursor
  have hlen := wf.len
  have hfr := wf.free
  simp only [lineH, List.cons_append, List.nil_append]
  repeat walk_at "m:go"
  refine ite_dec (fun h1 => ?_) (fun h1 => ?_)
  · repeat walk_at "m:go"
    refine ite_ne (fun h2 => ?_) (fun h2 => ?_)
    · repeat walk_at "m:go"
      refine is_gone_l (S := { S with cursor := n }) (G := lineH p vs { S with cursor := n } ++ absH ab) hr' ⟨vs, ab, rfl, ov⟩ fr_all h1 hc.2 hlen ?_
      simp only [lineH, List.cons_append, List.nil_append, List.append_nil]
      repeat walk_at "m:go"
      refine ite_dec (fun h3 => ?_) (fun h3 => ?_)
      · have e : S.standOn n = { S with cursor := n, free := S.free ++ [S.cursor] } := if_pos ⟨h1, h2, h3⟩
        rw [e] at h
        repeat walk_at "m:go"
        refine ⟨p.fr, _, rfl, by walk_at "m:mem", ?_⟩
        repeat walk_at "m:go"
        refine c_appendI (by walk_at "m:put") (by omega) ?_
        repeat walk_at "m:go"
        exact ⟨_, su_refl, h _ ⟨vs, ab, rfl, ov⟩⟩
      · have e : S.standOn n = { S with cursor := n } := if_neg fun q => h3 q.2.2
        rw [e] at h
        repeat walk_at "m:go"
        exact ⟨_, su_refl, h _ ⟨vs, ab, rfl, ov⟩⟩
    · have e : S.standOn n = { S with cursor := n } := if_neg fun q => q.2.1 h2
      rw [e] at h
      repeat walk_at "m:go"
      exact ⟨_, su_refl, h _ ⟨vs, ab, rfl, ov⟩⟩
  · have e : S.standOn n = { S with cursor := n } := if_neg fun q => h1 q.1
    rw [e] at h
    repeat walk_at "m:go"
    exact ⟨_, su_refl, h _ ⟨vs, ab, rfl, ov⟩⟩

theorem rewind_l {p : LA} {S : LS} {G K : Hp} {Q : Value → Lo → Hp → Prop} (hr : c.room 3) (hl : LR p S G) (hp : Frm G K H) (wf : WF S)
    (h : ∀ G', LR p S.rewind G' → Q .none lo (G' ++ K)) : Cl c (.ref 391) [.ref p.ln] lo H Q := by
  obtain ⟨vs, ab, rfl, ov⟩ := hl
  refine cl_fnW (G := lineH p vs S ++ absH ab) (K := K) 2 [Str.ofString "line"] [(Str.ofString "line", .ref p.ln)] (by rfl) (by kernel_rfl) hr rfl rfl (fun ws h => by match ws, h with | [a], _ => rfl) (by decide) (by decide) rfl rfl rfl (by decide) hp ?_
  intro L' c' hr'
  simp only [lineH, List.cons_append, List.nil_append]
  repeat walk_at "m:go"
  refine ite_any (fun hb => ?_) (fun hb => ?_)
  · have e : S.rewind = { S with place := S.count - 1 }.standOn S.tail := if_pos hb
    rw [e] at h
    rw [hb]
    repeat walk_at "m:go"
    have wf' : WF { S with place := S.count - 1 } := ⟨wf.nx, wf.pv, wf.len, wf.head, wf.tail, wf.cursor, wf.free, wf.frees, wf.nexts, wf.prevs⟩
    refine stand_on_l (S := { S with place := S.count - 1 }) (G := lineH p vs { S with place := S.count - 1 } ++ absH ab) hr' ⟨vs, ab, rfl, ov⟩ fr_all wf' fun G' hG' => ?_
    rw [List.append_nil]
    repeat walk_at "m:go"
    exact ⟨_, su_refl, h _ hG'⟩
  · have e : S.rewind = { S with place := 0 }.standOn S.head := if_neg (by show ¬ ((Builtin.bitAnd S.flags 2 != 0) = true); rw [hb]; decide)
    rw [e] at h
    rw [hb]
    repeat walk_at "m:go"
    have wf' : WF { S with place := 0 } := ⟨wf.nx, wf.pv, wf.len, wf.head, wf.tail, wf.cursor, wf.free, wf.frees, wf.nexts, wf.prevs⟩
    refine stand_on_l (S := { S with place := 0 }) (G := lineH p vs { S with place := 0 } ++ absH ab) hr' ⟨vs, ab, rfl, ov⟩ fr_all wf' fun G' hG' => ?_
    rw [List.append_nil]
    repeat walk_at "m:go"
    exact ⟨_, su_refl, h _ hG'⟩

theorem current_l {p : LA} {S : LS} {G K : Hp} {Q : Value → Lo → Hp → Prop} (hr : c.room 2) (hl : LR p S G) (hp : Frm G K H) (wf : WF S)
    (h : Q (optV S.current) lo (G ++ K)) : Cl c (.ref 405) [.ref p.ln] lo H Q := by
  obtain ⟨vs, ab, rfl, ov⟩ := hl
  refine cl_fnW (G := lineH p vs S ++ absH ab) (K := K) 1 [Str.ofString "line"] [(Str.ofString "line", .ref p.ln)] (by rfl) (by kernel_rfl) hr rfl rfl (fun ws h => by match ws, h with | [a], _ => rfl) (by decide) (by decide) rfl rfl rfl (by decide) hp ?_
  intro L' c' hr'
  have hc := wf.cursor
  have hlen := wf.len
  simp only [lineH, List.cons_append, List.nil_append]
  repeat walk_at "m:go"
  refine ite_dec (fun h1 => ?_) (fun h1 => ?_)
  · have e : S.current = none := if_pos h1
    rw [e] at h
    repeat walk_at "m:go"
    exact ⟨_, su_refl, h⟩
  · have e : S.current = S.valAt S.cursor := if_neg h1
    rw [e] at h
    repeat walk_at "m:go"
    refine is_gone_l (S := S) (G := lineH p vs S ++ absH ab) hr' ⟨vs, ab, rfl, ov⟩ fr_all (by omega) hc.2 hlen ?_
    simp only [lineH, List.cons_append, List.nil_append, List.append_nil]
    repeat walk_at "m:go"
    refine ite_dec (fun h3 => ?_) (fun h3 => ?_)
    · rw [h3] at h
      repeat walk_at "m:go"
      exact ⟨_, su_refl, h⟩
    · obtain ⟨x, hx⟩ := Option.ne_none_iff_exists'.mp h3
      rw [hx] at h
      repeat walk_at "m:go"
      refine o_tail (by walk_at "m:mem") (by omega) (by omega) (val_int ov hx) ?_ (by intro _; with_unfolding_all rfl)
      repeat walk_at "m:go"
      exact taken_c hr' ⟨_, su_refl, h⟩
end

section
variable {w : World} {mg mb : Str → Option Value} {L : Addr} {c : Cx (gd w mg mb) L} {lo : Lo} {H : Hp}
theorem at_l {p : LA} {S : LS} {G K : Hp} {i f : Int} {Q : Value → Lo → Hp → Prop} (hr : c.room 1) (hl : LR p S G) (hp : Frm G K H) (wf : WF S)
    (h : Q (I (S.at i f)) lo (G ++ K)) : Cl c (.ref 356) [.ref p.ln, I i, I f] lo H Q := by
  obtain ⟨vs, ab, rfl, ov⟩ := hl
  refine cl_fnW (G := lineH p vs S ++ absH ab) (K := K) 0 [Str.ofString "line", Str.ofString "index", Str.ofString "flags"] [(Str.ofString "line", .ref p.ln), (Str.ofString "index", I i), (Str.ofString "flags", I f)] (by rfl) (by kernel_rfl) hr rfl rfl (fun ws h => by match ws, h with | [a, b, c], _ => rfl) (by decide) (by decide) rfl rfl rfl (by decide) hp ?_
  intro L' c' hr'
  have hlen := wf.len
  have hnx := wf.nx
  have hpv := wf.pv
  simp only [lineH, List.cons_append, List.nil_append]
  repeat walk_at "m:go"
  refine ite_any (fun hb => ?_) (fun hb => ?_)
  · have e : S.at i f = walkN S.prevs i.toNat S.tail := if_pos hb
    rw [hb]
    repeat walk_at "m:go"
    refine x_while (fun k lo' H' => ∃ nd j : Int, k = j.toNat ∧ (-1 ≤ nd ∧ nd < S.vals.length) ∧ walkN S.prevs j.toNat nd = S.at i f ∧
      lo' = [(Str.ofString "line", .ref p.ln), (Str.ofString "index", I j), (Str.ofString "flags", I f), (Str.ofString "is_back", .bool true), (Str.ofString "node", I nd)] ∧ H' = lineH p vs S ++ absH ab) i.toNat ⟨S.tail, i, rfl, wf.tail, e.symm, rfl, rfl⟩ ?_
    rintro _ _ _ ⟨nd, j, rfl, hnd, hw, rfl, rfl⟩
    simp only [lineH, List.cons_append, List.nil_append]
    repeat walk_at "m:go"
    refine ite_dec (fun h1 => ?_) (fun h1 => ?_)
    · repeat walk_at "m:go"
      refine ite_dec (fun h2 => ?_) (fun h2 => ?_)
      · repeat walk_at "m:go"
        refine o_tailI (by walk_at "m:mem") h1 (by omega) (by omega) ?_ (by intro _; with_unfolding_all rfl)
        repeat walk_at "m:go"
        obtain ⟨k, hk⟩ : ∃ k : Nat, j.toNat = k + 1 := ⟨j.toNat - 1, by omega⟩
        refine ⟨(j - 1).toNat, by omega, _, j - 1, rfl, getD_bound wf.prevs (by omega) nd.toNat, ?_, rfl, rfl⟩
        rw [← hw, hk, walkN, if_pos h1, show (j - 1).toNat = k by omega]
      · repeat walk_at "m:go"
        refine ⟨_, su_refl, ?_⟩
        have : walkN S.prevs j.toNat nd = nd := by rw [show j.toNat = 0 by omega, walkN]
        rw [← hw, this] at h
        exact h
    · repeat walk_at "m:go"
      refine ⟨_, su_refl, ?_⟩
      have : walkN S.prevs j.toNat nd = nd := by cases j.toNat with
        | zero => rfl
        | succ k => rw [walkN, if_neg h1]
      rw [← hw, this] at h
      exact h
  · have e : S.at i f = walkN S.nexts i.toNat S.head := if_neg (by show ¬ ((Builtin.bitAnd f 2 != 0) = true); rw [hb]; decide)
    rw [hb]
    repeat walk_at "m:go"
    refine x_while (fun k lo' H' => ∃ nd j : Int, k = j.toNat ∧ (-1 ≤ nd ∧ nd < S.vals.length) ∧ walkN S.nexts j.toNat nd = S.at i f ∧
      lo' = [(Str.ofString "line", .ref p.ln), (Str.ofString "index", I j), (Str.ofString "flags", I f), (Str.ofString "is_back", .bool false), (Str.ofString "node", I nd)] ∧ H' = lineH p vs S ++ absH ab) i.toNat ⟨S.head, i, rfl, wf.head, e.symm, rfl, rfl⟩ ?_
    rintro _ _ _ ⟨nd, j, rfl, hnd, hw, rfl, rfl⟩
    simp only [lineH, List.cons_append, List.nil_append]
    repeat walk_at "m:go"
    refine ite_dec (fun h1 => ?_) (fun h1 => ?_)
    · repeat walk_at "m:go"
      refine ite_dec (fun h2 => ?_) (fun h2 => ?_)
      · repeat walk_at "m:go"
        refine o_tailI (by walk_at "m:mem") h1 (by omega) (by omega) ?_ (by intro _; with_unfolding_all rfl)
        repeat walk_at "m:go"
        obtain ⟨k, hk⟩ : ∃ k : Nat, j.toNat = k + 1 := ⟨j.toNat - 1, by omega⟩
        refine ⟨(j - 1).toNat, by omega, _, j - 1, rfl, getD_bound wf.nexts (by omega) nd.toNat, ?_, rfl, rfl⟩
        rw [← hw, hk, walkN, if_pos h1, show (j - 1).toNat = k by omega]
      · repeat walk_at "m:go"
        refine ⟨_, su_refl, ?_⟩
        have : walkN S.nexts j.toNat nd = nd := by rw [show j.toNat = 0 by omega, walkN]
        rw [← hw, this] at h
        exact h
    · repeat walk_at "m:go"
      refine ⟨_, su_refl, ?_⟩
      have : walkN S.nexts j.toNat nd = nd := by cases j.toNat with
        | zero => rfl
        | succ k => rw [walkN, if_neg h1]
      rw [← hw, this] at h
      exact h

theorem drop_l {p : LA} {S : LS} {G K : Hp} {i x : Int} {Q : Value → Lo → Hp → Prop} (hr : c.room 5) (hl : LR p S G) (hp : Frm G K H) (wf : WF S) (h0 : 0 ≤ S.at i S.flags) (hv : S.valAt (S.at i S.flags) = some x)
    (h : ∀ G', LR p (S.drop i) G' → Q (I x) lo (G' ++ K)) : Cl c (.ref 370) [.ref p.ln, I i] lo H Q := by
  obtain ⟨vs, ab, rfl, ov⟩ := hl
  refine cl_fnW (G := lineH p vs S ++ absH ab) (K := K) 4 [Str.ofString "line", Str.ofString "index"] [(Str.ofString "line", .ref p.ln), (Str.ofString "index", I i)] (by rfl) (by kernel_rfl) hr rfl rfl (fun ws h => by match ws, h with | [a, b], _ => rfl) (by decide) (by decide) rfl rfl rfl (by decide) hp ?_
  intro L' c' hr'
  have hlen := wf.len
  have hab := at_bound wf i S.flags
  simp only [lineH, List.cons_append, List.nil_append]
  repeat walk_at "m:go"
  refine at_l (S := S) (G := lineH p vs S ++ absH ab) (room_le hr' (by omega)) ⟨vs, ab, rfl, ov⟩ fr_all wf ?_
  simp only [lineH, List.cons_append, List.nil_append, List.append_nil]
  repeat walk_at "m:go"
  refine ite_eq (fun h1 => ?_) (fun h1 => ?_)
  · have e : S.drop i = { S with cursor := -1 }.unlink (S.at i S.flags) := if_pos h1
    rw [e] at h
    repeat walk_at "m:go"
    have wf' : WF { S with cursor := -1 } := ⟨wf.nx, wf.pv, wf.len, wf.head, wf.tail, ⟨by show (-1 : Int) ≤ -1; omega, by show (-1 : Int) < S.vals.length; omega⟩, wf.free, wf.frees, wf.nexts, wf.prevs⟩
    refine unlink_l (S := { S with cursor := -1 }) (G := lineH p vs { S with cursor := -1 } ++ absH ab) hr' ⟨vs, ab, rfl, ov⟩ fr_all wf' h0 hab.2 hv fun G' hG' => ?_
    rw [List.append_nil]
    exact ⟨_, su_refl, h _ hG'⟩
  · have e : S.drop i = S.unlink (S.at i S.flags) := if_neg h1
    rw [e] at h
    repeat walk_at "m:go"
    refine unlink_l (S := S) (G := lineH p vs S ++ absH ab) hr' ⟨vs, ab, rfl, ov⟩ fr_all wf h0 hab.2 hv fun G' hG' => ?_
    rw [List.append_nil]
    exact ⟨_, su_refl, h _ hG'⟩
theorem add_l {p : LA} {S : LS} {G K : Hp} {i x : Int} {Q : Value → Lo → Hp → Prop} (hr : c.room 4) (hl : LR p S G) (hp : Frm G K H) (wf : WF S) (hz : S.vals.length < 100) (h0 : i < S.count → 0 ≤ S.at i S.flags)
    (h : ∀ G', LR p (S.add i x) G' → Q .none lo (G' ++ K)) : Cl c (.ref 363) [.ref p.ln, I i, I x] lo H Q := by
  obtain ⟨vs, ab, rfl, ov⟩ := hl
  refine cl_fnW (G := lineH p vs S ++ absH ab) (K := K) 3 [Str.ofString "line", Str.ofString "index", Str.ofString "value"] [(Str.ofString "line", .ref p.ln), (Str.ofString "index", I i), (Str.ofString "value", I x)] (by rfl) (by kernel_rfl) hr rfl rfl (fun ws h => by match ws, h with | [a, b, c], _ => rfl) (by decide) (by decide) rfl rfl rfl (by decide) hp ?_
  intro L' c' hr'
  have hlen := wf.len
  have hpv := wf.pv
  have hab := at_bound wf i S.flags
  simp only [lineH, List.cons_append, List.nil_append]
  repeat walk_at "m:go"
  refine ite_dec (fun h1 => ?_) (fun h1 => ?_)
  · have e : S.add i x = S.push x := if_pos h1
    rw [e] at h
    repeat walk_at "m:go"
    refine push_l (S := S) (G := lineH p vs S ++ absH ab) hr' ⟨vs, ab, rfl, ov⟩ fr_all wf hz fun G' hG' => ?_
    rw [List.append_nil]
    repeat walk_at "m:go"
    exact ⟨_, su_refl, h _ hG'⟩
  · have e : S.add i x = if S.prevs.getD (S.at i S.flags).toNat (-1) < 0 then S.unshift x else S.insert (S.prevs.getD (S.at i S.flags).toNat (-1)) (S.at i S.flags) x := if_neg h1
    have h0' := h0 (by omega)
    repeat walk_at "m:go"
    refine at_l (S := S) (G := lineH p vs S ++ absH ab) (room_le hr' (by omega)) ⟨vs, ab, rfl, ov⟩ fr_all wf ?_
    simp only [lineH, List.cons_append, List.nil_append, List.append_nil]
    repeat walk_at "m:go"
    refine o_tailI (by walk_at "m:mem") h0' (by omega) (by omega) ?_ (by intro _; with_unfolding_all rfl)
    have hA := getD_bound wf.prevs (by omega) (S.at i S.flags).toNat
    generalize S.at i S.flags = behind at *
    generalize S.prevs.getD behind.toNat (-1) = ahead at *
    repeat walk_at "m:go"
    refine ite_dec (fun h2 => ?_) (fun h2 => ?_)
    · rw [e, if_pos h2] at h
      repeat walk_at "m:go"
      refine unshift_l (S := S) (G := lineH p vs S ++ absH ab) hr' ⟨vs, ab, rfl, ov⟩ fr_all wf hz fun G' hG' => ?_
      rw [List.append_nil]
      repeat walk_at "m:go"
      exact ⟨_, su_refl, h _ hG'⟩
    · rw [e, if_neg h2] at h
      repeat walk_at "m:go"
      refine new_node_l (S := S) (G := lineH p vs S ++ absH ab) (room_le hr' (by omega)) ⟨vs, ab, rfl, ov⟩ fr_all wf fun G' hG' => ?_
      have wf1 := newNode_wf (x := x) wf hz
      have hn := newNode_len (x := x) wf
      unfold LS.insert at h
      simp only at h
      generalize (S.newNode x).1 = n at *
      generalize (S.newNode x).2 = S1 at *
      obtain ⟨vs1, ab1, rfl, ov1⟩ := hG'
      have l1 := wf1.len
      have l2 := wf1.nx
      have l3 := wf1.pv
      simp only [lineH, List.cons_append, List.nil_append, List.append_nil]
      repeat walk_at "m:go"
      refine o_setI (by walk_at "m:put") (by omega) (by omega) (by omega) ?_
      repeat walk_at "m:go"
      refine o_setI (by walk_at "m:put") (by omega) (by omega) (by omega) ?_
      repeat walk_at "m:go"
      refine o_setI (by walk_at "m:put") (by omega) (by rw [List.length_set]; omega) (by rw [List.length_set]; omega) ?_
      repeat walk_at "m:go"
      refine o_setI (by walk_at "m:put") (by omega) (by rw [List.length_set]; omega) (by rw [List.length_set]; omega) ?_
      repeat walk_at "m:go"
      exact ⟨_, su_refl, h _ ⟨vs1, ab1, rfl, ov1⟩⟩
end

section
variable {w : World} {mg mb : Str → Option Value} {L : Addr} {c : Cx (gd w mg mb) L} {lo : Lo} {H : Hp}
theorem step_l {p : LA} {S : LS} {G K : Hp} {f : Int} {Q : Value → Lo → Hp → Prop} (hr : c.room 6) (hl : LR p S G) (hp : Frm G K H) (wf : WF S) (hf : S.free.length < 100) (hv : 0 ≤ S.tail → ∃ x, S.valAt S.tail = some x) (hv' : 0 ≤ S.head → ∃ x, S.valAt S.head = some x)
    (h : ∀ G', LR p (S.step f) G' → Q .none lo (G' ++ K)) : Cl c (.ref 398) [.ref p.ln, I f] lo H Q := by
  obtain ⟨vs, ab, rfl, ov⟩ := hl
  refine cl_fnW (G := lineH p vs S ++ absH ab) (K := K) 5 [Str.ofString "line", Str.ofString "flags"] [(Str.ofString "line", .ref p.ln), (Str.ofString "flags", I f)] (by rfl) (by kernel_rfl) hr rfl rfl (fun ws h => by match ws, h with | [a, b], _ => rfl) (by decide) (by decide) rfl rfl rfl (by decide) hp ?_
  intro L' c' hr'
  have hlen := wf.len
  have hnx := wf.nx
  have hpv := wf.pv
  have hcu := wf.cursor
  have htl := wf.tail
  have hhd := wf.head
  simp only [lineH, List.cons_append, List.nil_append]
  repeat walk_at "m:go"
  refine ite_dec (fun h1 => ?_) (fun h1 => ?_)
  · have e : S.step f = S := if_pos h1
    rw [e] at h
    repeat walk_at "m:go"
    exact ⟨_, su_refl, h _ ⟨vs, ab, rfl, ov⟩⟩
  · repeat walk_at "m:go"
    refine ite_any (fun hb => ?_) (fun hb => ?_)
    · have e : S.step f = (if dele f then { S with place := S.place - 1 }.pop else { S with place := S.place - 1 }).standOn (S.prevs.getD S.cursor.toNat (-1)) := (if_neg h1).trans (if_pos hb)
      rw [e] at h
      have wf' : WF { S with place := S.place - 1 } := ⟨wf.nx, wf.pv, wf.len, wf.head, wf.tail, wf.cursor, wf.free, wf.frees, wf.nexts, wf.prevs⟩
      repeat walk_at "m:go"
      refine o_tailI (by walk_at "m:mem") (by omega) (by omega) (by omega) ?_ (by intro _; with_unfolding_all rfl)
      repeat walk_at "m:go"
      refine ite_any (fun hd => ?_) (fun hd => ?_)
      · have hd' : dele f = true := hd
        rw [if_pos hd'] at h
        repeat walk_at "m:go"
        refine pop_l (S := { S with place := S.place - 1 }) (G := lineH p vs { S with place := S.place - 1 } ++ absH ab) hr' ⟨vs, ab, rfl, ov⟩ fr_all wf' hv fun G' hG' => ?_
        rw [List.append_nil]
        have wf2 : WF { S with place := S.place - 1 }.pop := by
          unfold LS.pop
          split
          · exact wf'
          · rename_i q
            have q' : ¬ S.tail < 0 := q
            exact unlink_wf wf' (by show 0 ≤ S.tail; omega) htl.2 hf
        repeat walk_at "m:go"
        refine stand_on_l (room_le hr' (by omega)) hG' fr_all wf2 fun G2 hG2 => ?_
        rw [List.append_nil]
        repeat walk_at "m:go"
        exact ⟨_, su_refl, h _ hG2⟩
      · have hd' : ¬ dele f = true := by show ¬ (Builtin.bitAnd f 1 != 0) = true; rw [hd]; decide
        rw [if_neg hd'] at h
        repeat walk_at "m:go"
        refine stand_on_l (S := { S with place := S.place - 1 }) (G := lineH p vs { S with place := S.place - 1 } ++ absH ab) (room_le hr' (by omega)) ⟨vs, ab, rfl, ov⟩ fr_all wf' fun G2 hG2 => ?_
        rw [List.append_nil]
        repeat walk_at "m:go"
        exact ⟨_, su_refl, h _ hG2⟩
    · have hb' : ¬ back f = true := by show ¬ (Builtin.bitAnd f 2 != 0) = true; rw [hb]; decide
      have e : S.step f = (if dele f then S.shift else { S with place := S.place + 1 }).standOn (S.nexts.getD S.cursor.toNat (-1)) := (if_neg h1).trans (if_neg hb')
      rw [e] at h
      have wf' : WF { S with place := S.place + 1 } := ⟨wf.nx, wf.pv, wf.len, wf.head, wf.tail, wf.cursor, wf.free, wf.frees, wf.nexts, wf.prevs⟩
      repeat walk_at "m:go"
      refine o_tailI (by walk_at "m:mem") (by omega) (by omega) (by omega) ?_ (by intro _; with_unfolding_all rfl)
      repeat walk_at "m:go"
      refine ite_any (fun hd => ?_) (fun hd => ?_)
      · have hd' : dele f = true := hd
        rw [if_pos hd'] at h
        repeat walk_at "m:go"
        refine shift_l (S := S) (G := lineH p vs S ++ absH ab) hr' ⟨vs, ab, rfl, ov⟩ fr_all wf hv' fun G' hG' => ?_
        rw [List.append_nil]
        have wf2 : WF S.shift := by
          unfold LS.shift
          split
          · exact wf
          · exact unlink_wf wf (by omega) (by omega) hf
        repeat walk_at "m:go"
        refine stand_on_l (room_le hr' (by omega)) hG' fr_all wf2 fun G2 hG2 => ?_
        rw [List.append_nil]
        repeat walk_at "m:go"
        exact ⟨_, su_refl, h _ hG2⟩
      · have hd' : ¬ dele f = true := by show ¬ (Builtin.bitAnd f 1 != 0) = true; rw [hd]; decide
        rw [if_neg hd'] at h
        repeat walk_at "m:go"
        refine stand_on_l (S := { S with place := S.place + 1 }) (G := lineH p vs { S with place := S.place + 1 } ++ absH ab) (room_le hr' (by omega)) ⟨vs, ab, rfl, ov⟩ fr_all wf' fun G2 hG2 => ?_
        rw [List.append_nil]
        repeat walk_at "m:go"
        exact ⟨_, su_refl, h _ hG2⟩

theorem values_l {p : LA} {S : LS} {G K : Hp} {ns rows : List Int} {Q : Value → Lo → Hp → Prop} (hr : c.room 2) (hl : LR p S G) (hp : Frm G K H) (wf : WF S) (sg : Seg S.nexts S.head ns (-1)) (va : ValsAre S ns rows) (hz : rows.length ≤ 900)
    (h : ∀ d, Q (.ref d) lo (((d, .list (rows.map I)) :: G) ++ K)) : Cl c (.ref 377) [.ref p.ln] lo H Q := by
  obtain ⟨vs, ab, rfl, ov⟩ := hl
  refine cl_fnW (G := lineH p vs S ++ absH ab) (K := K) 1 [Str.ofString "line"] [(Str.ofString "line", .ref p.ln)] (by rfl) (by kernel_rfl) hr rfl rfl (fun ws h => by match ws, h with | [a], _ => rfl) (by decide) (by decide) rfl rfl rfl (by decide) hp ?_
  intro L' c' hr'
  have hlen := wf.len
  have hnx := wf.nx
  have hvs := all2_len ov
  simp only [lineH, List.cons_append, List.nil_append]
  repeat walk_at "m:go"
  refine ⟨Nat.le_of_ble_eq_true rfl, fun d => ?_⟩
  repeat walk_at "m:go"
  refine x_while (fun k lo' H' => ∃ (nd : Int) (ns1 rd rt : List Int), k = ns1.length ∧ (-1 ≤ nd ∧ nd < S.vals.length) ∧ Seg S.nexts nd ns1 (-1) ∧ ValsAre S ns1 rt ∧ rows = rd ++ rt ∧
      lo' = [(Str.ofString "line", .ref p.ln), (Str.ofString "found", .ref d), (Str.ofString "node", I nd)] ∧ H' = (d, .list (rd.map I)) :: (lineH p vs S ++ absH ab)) ns.length ⟨S.head, ns, [], rows, rfl, wf.head, sg, va, rfl, rfl, rfl⟩ ?_
  rintro _ _ _ ⟨nd, ns1, rd, rt, rfl, hnd, sg1, va1, hrows, rfl, rfl⟩
  simp only [lineH, List.cons_append, List.nil_append]
  repeat walk_at "m:go"
  refine ite_dec (fun h1 => ?_) (fun h1 => ?_)
  · cases sg1 with
    | nil => omega
    | cons h0 sg2 =>
      cases va1 with
      | @cons _ r _ rt2 hv va2 =>
        rw [hrows] at hz
        simp only [List.length_append, List.length_cons] at hz
        repeat walk_at "m:go"
        refine ⟨d, _, rfl, by walk_at "m:mem", ?_⟩
        repeat walk_at "m:go"
        refine o_tail (by walk_at "m:mem") h0 (by omega) (val_int ov hv) ?_ (by intro _; with_unfolding_all rfl)
        repeat walk_at "m:go"
        refine taken_c hr' ?_
        repeat walk_at "m:go"
        refine c_appendI (by walk_at "m:put") (by omega) ?_
        repeat walk_at "m:go"
        refine o_tailI (by walk_at "m:mem") h0 (by omega) (by omega) ?_ (by intro _; with_unfolding_all rfl)
        repeat walk_at "m:go"
        exact ⟨_, Nat.lt_succ_self _, _, _, rd ++ [r], rt2, rfl, getD_bound wf.nexts (by omega) _, sg2, va2, by rw [hrows]; simp, rfl, rfl⟩
  · cases sg1 with
    | cons h0 sg2 => omega
    | nil =>
      cases va1
      rw [List.append_nil] at hrows
      subst hrows
      repeat walk_at "m:go"
      exact ⟨_, su_refl, h d⟩
end

section
variable {w : World} {mg mb : Str → Option Value} {L : Addr} {c : Cx (gd w mg mb) L} {lo : Lo} {H : Hp}
theorem make_l {Q : Value → Lo → Hp → Prop} (hr : c.room 2) (h : ∀ p : LA, ∀ G, LR p LS.empty G → Q (.ref p.ln) lo (G ++ H)) : Cl c (.ref 296) [] lo H Q := by
  have hm : Cl c (.ref 296) [] lo H (fun v lo' H' => lo' = lo ∧ ∃ p : LA, v = .ref p.ln ∧ ∃ G, LR p LS.empty G ∧ Sub (G ++ H) H') := by
    refine cl_make (lo0 := fun x => [(Str.ofString "self", .ref x)]) 0 mk_line (fI := 293) (by kernel_rfl) (by kernel_rfl) hr (by rfl) (by kernel_rfl) (fun x => ?_) (fun x => by show ([Str.ofString "self"] : List Str).Nodup; decide) (fun x y hy => ?_) rfl rfl rfl (by decide) fun x dx L' c' hr' => ?_
    · exact bindsAs_eq (ps := [Str.ofString "self"]) rfl (fun ws h => by match ws, h with | [a], _ => rfl)
    · rcases List.mem_cons.mp hy with rfl | hy
      · rfl
      · cases hy
    · repeat walk_at "m:go"
      refine ⟨Nat.le_of_ble_eq_true rfl, fun a1 => ?_⟩
      repeat walk_at "m:go"
      refine ⟨Nat.le_of_ble_eq_true rfl, fun a2 => ?_⟩
      repeat walk_at "m:go"
      refine ⟨Nat.le_of_ble_eq_true rfl, fun a3 => ?_⟩
      repeat walk_at "m:go"
      refine ⟨Nat.le_of_ble_eq_true rfl, fun t => ⟨t, _, rfl, mh, rfl, ?_⟩⟩
      repeat walk_at "m:go"
      refine ⟨Nat.le_of_ble_eq_true rfl, fun t => ⟨t, _, rfl, mh, rfl, ?_⟩⟩
      repeat walk_at "m:go"
      refine ⟨Nat.le_of_ble_eq_true rfl, fun a4 => ?_⟩
      repeat walk_at "m:go"
      refine ⟨Nat.le_of_ble_eq_true rfl, fun t => ⟨t, _, rfl, mh, rfl, ?_⟩⟩
      repeat walk_at "m:go"
      refine ⟨rfl, ⟨x, dx, a1, a2, a3, a4⟩, rfl, _, ⟨[], [], rfl, .nil⟩, ?_⟩
      simp only [lineH, absH, List.cons_append, List.nil_append, List.append_nil, List.map_nil, LS.empty]
      walk_at "m:sub"
  exact fun ws hw => W.postPart (hm ws hw) fun a lo' H' ⟨e, p, ev, G, hG, sb⟩ => ⟨_, sb, by subst e; show Q (er a) _ _; rw [ev]; exact h p G hG⟩

theorem copy_l {p : LA} {S : LS} {G K : Hp} {ns rows : List Int} {Q : Value → Lo → Hp → Prop} (hr : c.room 4) (hl : LR p S G) (hp : Frm G K H) (wf : WF S) (sg : Seg S.nexts S.head ns (-1)) (va : ValsAre S ns rows) (hz : rows.length < 90)
    (h : ∀ p' G', LR p' (S.copy rows) G' → Q (.ref p'.ln) lo ((G' ++ G) ++ K)) : Cl c (.ref 412) [.ref p.ln] lo H Q := by
  obtain ⟨vs, ab, rfl, ov⟩ := hl
  refine cl_fnW (G := lineH p vs S ++ absH ab) (K := K) 3 [Str.ofString "line"] [(Str.ofString "line", .ref p.ln)] (by rfl) (by kernel_rfl) hr rfl rfl (fun ws h => by match ws, h with | [a], _ => rfl) (by decide) (by decide) rfl rfl rfl (by decide) hp ?_
  intro L' c' hr'
  repeat walk_at "m:go"
  refine make_l (room_le hr' (by omega)) fun p' G' hG' => ?_
  obtain ⟨vs', ab', rfl, ov'⟩ := hG'
  simp only [lineH, List.cons_append, List.nil_append, List.append_assoc]
  repeat walk_at "m:go"
  refine x_forlist ?_
  repeat walk_at "m:go"
  refine values_l (S := S) (G := lineH p vs S ++ absH ab) (room_le hr' (by omega)) ⟨vs, ab, rfl, ov⟩ (by simp only [lineH, List.cons_append, List.nil_append]; walk_at "m:frm") wf sg va (by omega) fun d => ?_
  refine ⟨d, rows.map I, fun i lo' H' => i ≤ rows.length ∧ ∃ G', LR p' ((rows.take i).foldl LS.push { LS.empty with flags := S.flags }) G' ∧ H' = ((d, .list (rows.map I)) :: (lineH p vs S ++ absH ab)) ++ G' ∧
    (lo' = [(Str.ofString "line", .ref p.ln), (Str.ofString "made", .ref p'.ln)] ∨ ∃ v, lo' = [(Str.ofString "line", .ref p.ln), (Str.ofString "made", .ref p'.ln), (Str.ofString "value", v)]), rfl, ?_, ?_, ?_, ?_⟩
  · rintro i lo' H' ⟨_, G', _, rfl, _⟩
    exact List.mem_cons_self
  · refine ⟨Nat.zero_le _, lineH p' vs' { LS.empty with flags := S.flags } ++ absH ab', ⟨vs', ab', rfl, ov'⟩, ?_, .inl rfl⟩
    simp only [lineH, List.cons_append, List.nil_append, List.append_nil]
  · rintro F i lo' H' v hv ⟨hi, G', hG', rfl, hlo⟩
    have hlt : i < rows.length := by
      false_or_by_contra
      rw [List.getElem?_eq_none (by simp; omega)] at hv; cases hv
    have ev : v = I rows[i] := by simp [hlt] at hv; exact hv.symm
    subst ev
    refine ⟨[(Str.ofString "line", .ref p.ln), (Str.ofString "made", .ref p'.ln), (Str.ofString "value", I rows[i])], ?_, ?_⟩
    · rcases hlo with rfl | ⟨v, rfl⟩ <;> walk_at "m:putf"
    · obtain ⟨wfi, li⟩ := fold_wf (S.flags) (rows.take i) (by simp; omega)
      have li' : ((rows.take i).foldl LS.push { LS.empty with flags := S.flags }).vals.length < 100 := by
        refine Nat.lt_of_le_of_lt li ?_
        simp; omega
      simp only [lineH, List.cons_append, List.nil_append, List.append_assoc]
      repeat walk_at "m:go"
      refine push_l (room_le hr' (by omega)) hG' (by walk_at "m:frm") wfi li' fun G2 hG2 => ?_
      refine W.part (H0 := ((d, .list (rows.map I)) :: (lineH p vs S ++ absH ab)) ++ G2) (by simp only [lineH, List.cons_append, List.nil_append, List.append_assoc]; walk_at "m:sub") ?_
      repeat walk_at "m:go"
      refine ⟨hlt, G2, ?_, rfl, .inr ⟨_, rfl⟩⟩
      rw [List.take_add_one, List.getElem?_eq_getElem hlt, List.foldl_append]
      exact hG2
  · rintro lo' H' ⟨hi, G', hG', rfl, hlo⟩
    rw [List.length_map, List.take_length] at hG'
    have hlo' : ∃ tl, lo' = (Str.ofString "line", .ref p.ln) :: (Str.ofString "made", .ref p'.ln) :: tl := by
      rcases hlo with rfl | ⟨v, rfl⟩ <;> exact ⟨_, rfl⟩
    obtain ⟨tl, rfl⟩ := hlo'
    obtain ⟨vs2, ab2, rfl, ov2⟩ := hG'
    unfold LS.copy at h
    simp only at h
    generalize rows.foldl LS.push { LS.empty with flags := S.flags } = S2 at *
    simp only [lineH, List.cons_append, List.nil_append, List.append_assoc]
    repeat walk_at "m:go"
    refine ⟨_, ?_, h p' _ ⟨vs2, ab2, rfl, ov2⟩⟩
    simp only [lineH, List.cons_append, List.nil_append, List.append_assoc]
    walk_at "m:sub"
end

section
variable {w : World} {mg mb : Str → Option Value} {L : Addr} {c : Cx (gd w mg mb) L} {lo : Lo} {H : Hp}
theorem e_joinS {g : Gd} {L : Addr} {c : Cx g L} {lo : Lo} {H : Hp} {t : Sem Value} {Q : Value → Lo → Hp → Prop} (P : Value → Prop) (h : W c t lo H (EQ fun v lo' H' => P v ∧ lo' = lo ∧ H' = H)) (k : ∀ v, P v → Q v lo H) : W c t lo H (EQ Q) :=
  W.mono h fun v lo' H' ⟨p, e1, e2⟩ => by subst e1; subst e2; exact k _ p
theorem x_joinS {g : Gd} {L : Addr} {c : Cx g L} {lo : Lo} {H : Hp} {env : Env} {st : Stmt} {N : Lo → Hp → Prop} {R : Value → Hp → Prop} (P : Hp → Prop) (h : X1 c env st lo H (fun lo' H' => lo' = lo ∧ P H') R) (k : ∀ H', P H' → N lo H') : X1 c env st lo H N R :=
  W.mono h fun f lo' H' q => by
    cases f with
    | next => obtain ⟨e, q⟩ := q; subst e; exact k _ q
    | ret v => exact q
    | brk => exact q
    | cont => exact q

/-! more about int lists -/
theorem c_insertI {g : Gd} {L : Addr} {c : Cx g L} {lo : Lo} {H H' : Hp} {a : Addr} {ns : List Int} {i x : Int} {Q : Value → Lo → Hp → Prop} (p : Put a (.list (ns.map I)) (.list ((insAt i.toNat x ns).map I)) H H') (h0 : 0 ≤ i) (h1 : i ≤ ns.length) (hz : ns.length ≤ 1000) (h : Q .none lo H') :
    Cl c (.builtin "list.insert") [.ref a, I i, I x] lo H Q :=
  c_insert (v := I x) (by simpa [insAt, List.map_take, List.map_drop] using p) h0 (by simpa using h1) (by simpa using hz) h
theorem eraseIdx_map (f : Int → Value) : ∀ (l : List Int) (k : Nat), (l.eraseIdx k).map f = (l.map f).eraseIdx k
  | [], _ => rfl
  | _ :: _, 0 => rfl
  | a :: l, k + 1 => by simp only [List.eraseIdx_cons_succ, List.map_cons, eraseIdx_map f l k]
theorem c_popkI {g : Gd} {L : Addr} {c : Cx g L} {lo : Lo} {H H' : Hp} {a : Addr} {ns : List Int} {k x : Int} {Q : Value → Lo → Hp → Prop} (p : Put a (.list (ns.map I)) (.list ((ns.eraseIdx k.toNat).map I)) H H') (h0 : 0 ≤ k) (h1 : k < ns.length) (hv : ns[k.toNat]? = some x) (hz : ns.length ≤ 1000) (h : Q (I x) lo H') :
    Cl c (.builtin "list.pop") [.ref a, I k] lo H Q := by
  rw [eraseIdx_map] at p
  exact c_popk p (PySem.fitsIndex_of h0 (by omega)) (PySem.seqIndex_of h0 (by rw [List.length_map]; omega)) (by rw [List.getElem?_map, hv]; rfl) (by simpa using hz) h
theorem o_eqV {g : Gd} {L : Addr} {c : Cx g L} {lo : Lo} {H : Hp} {a b : Option Int} {Q : Value → Lo → Hp → Prop} (h : Q (.bool (decide (a = b))) lo H) : L2 c (compareOp .Eq) (optV a) (optV b) lo H (EQ Q) := by
  cases a with
  | none => cases b with
    | none => exact o_eqnn (by simpa using h)
    | some y => exact o_eqni (by simpa using h)
  | some x => cases b with
    | none => exact o_eqin (by simpa using h)
    | some y => exact o_eq (by
        have : (x == y) = decide (some x = some y) := by
          by_cases e : x = y
          · simp [e]
          · simp [e]
        rw [this]; exact h)

theorem draw_c {pa : Addr} {k told many : Int} {K : Hp} {Q : Value → Lo → Hp → Prop} (hr : c.room 1) (hp : Frm [(pa, .list ([k].map I))] K H) (hm : 0 < many) (hm2 : many < 100)
    (h : ∀ d k' : Int, 0 ≤ d → d < many → Q (I d) lo ([(pa, .list ([k'].map I))] ++ K)) : Cl c (.ref 426) [.ref pa, I told, I many] lo H Q := by
  refine cl_fnW (G := [(pa, .list ([k].map I))]) (K := K) 0 [Str.ofString "pen", Str.ofString "told", Str.ofString "many"] [(Str.ofString "pen", .ref pa), (Str.ofString "told", I told), (Str.ofString "many", I many)] (by rfl) (by kernel_rfl) hr rfl rfl (fun ws h => by match ws, h with | [a, b, c], _ => rfl) (by decide) (by decide) rfl rfl rfl (by decide) hp ?_
  intro L' c' hr'
  repeat walk_at "m:go"
  refine o_tailI (ns := [k]) (by walk_at "m:mem") (by omega) (by simp) (by simp) ?_ (by intro _; with_unfolding_all rfl)
  repeat walk_at "m:go"
  refine o_mod (by omega) ?_
  repeat walk_at "m:go"
  refine o_tailI (ns := [k]) (by walk_at "m:mem") (by omega) (by simp) (by simp) ?_ (by intro _; with_unfolding_all rfl)
  repeat walk_at "m:go"
  refine o_div (by omega) ?_ ?_
  · have : many.natAbs < 2 ^ 7 := by omega
    have := (Nat.log2_lt (n := many.natAbs) (k := 7) (by omega)).mpr this
    omega
  repeat walk_at "m:go"
  refine o_setI (ns := [k]) (by walk_at "m:put") (by omega) (by simp) (by simp) ?_
  repeat walk_at "m:go"
  exact ⟨_, su_refl, h _ _ (Int.fmod_nonneg_of_pos _ hm) (Int.fmod_lt_of_pos _ hm)⟩

theorem at_ends_c {p : LA} {S : LS} {ra : Addr} {rows : List Int} {deed x : Int} {G K : Hp} {Q : Value → Lo → Hp → Prop} (hr : c.room 6) (hl : LR p S G) (hp : Frm (G ++ [(ra, .list (rows.map I))]) K H) (wf : WF S) (hz : S.vals.length < 100) (hzr : rows.length ≤ 100)
    (hv : 0 ≤ S.tail → ∃ x, S.valAt S.tail = some x) (hv' : 0 ≤ S.head → ∃ x, S.valAt S.head = some x) (e1 : S.popV = rows.getLast?) (e2 : S.shiftV = rows.head?)
    (h : ∀ G', LR p (endsS deed S x) G' → Q (.bool true) lo ((G' ++ [(ra, .list ((endsR deed rows x).map I))]) ++ K)) : Cl c (.ref 433) [.ref p.ln, .ref ra, I deed, I x] lo H Q := by
  refine cl_fnW (G := G ++ [(ra, .list (rows.map I))]) (K := K) 5 [Str.ofString "line", Str.ofString "rows", Str.ofString "deed", Str.ofString "value"] [(Str.ofString "line", .ref p.ln), (Str.ofString "rows", .ref ra), (Str.ofString "deed", I deed), (Str.ofString "value", I x)] (by rfl) (by kernel_rfl) hr rfl rfl (fun ws h => by match ws, h with | [a, b, c, d], _ => rfl) (by decide) (by decide) rfl rfl rfl (by decide) hp ?_
  intro L' c' hr'
  repeat walk_at "m:go"
  refine ite_eq (fun h1 => ?_) (fun h1 => ?_)
  · unfold endsS endsR at h
    rw [if_pos h1, if_pos h1] at h
    repeat walk_at "m:go"
    refine push_l (room_le hr' (by omega)) hl (by walk_at "m:frm") wf hz fun G' hG' => ?_
    skip
    repeat walk_at "m:go"
    refine ⟨ra, _, rfl, by walk_at "m:mem", ?_⟩
    repeat walk_at "m:go"
    refine c_appendI (by walk_at "m:put") (by omega) ?_
    repeat walk_at "m:go"
    exact ⟨_, su_refl, h _ hG'⟩
  repeat walk_at "m:go"
  refine ite_eq (fun h2 => ?_) (fun h2 => ?_)
  · unfold endsS endsR at h
    rw [if_neg h1, if_neg h1, if_pos h2, if_pos h2] at h
    repeat walk_at "m:go"
    refine unshift_l (room_le hr' (by omega)) hl (by walk_at "m:frm") wf hz fun G' hG' => ?_
    skip
    repeat walk_at "m:go"
    refine ⟨ra, _, rfl, by walk_at "m:mem", ?_⟩
    repeat walk_at "m:go"
    refine c_insertI (by walk_at "m:put") (by omega) (by omega) (by omega) ?_
    repeat walk_at "m:go"
    exact ⟨_, su_refl, h _ hG'⟩
  repeat walk_at "m:go"
  refine ite_eq (fun h3 => ?_) (fun h3 => ?_)
  · unfold endsS endsR at h
    rw [if_neg h1, if_neg h1, if_neg h2, if_neg h2, if_pos h3, if_pos h3] at h
    repeat walk_at "m:go"
    refine pop_l (room_le hr' (by omega)) hl (by walk_at "m:frm") wf hv fun G' hG' => ?_
    skip
    repeat walk_at "m:go"
    refine o_tlI (ns := rows) (by walk_at "m:mem") (by omega) ?_
    rcases snoc_cases rows with hf | ⟨f, n, hf⟩
    · subst hf
      refine ite_f ?_
      repeat walk_at "m:go"
      refine o_eqV (a := S.popV) (b := none) ?_
      have : S.popV = none := e1
      rw [this]
      exact ⟨_, su_refl, h _ hG'⟩
    · subst hf
      rw [show (!(f ++ [n]).isEmpty) = true by cases f <;> rfl]
      refine ite_t ?_
      repeat walk_at "m:go"
      refine ⟨ra, _, rfl, by walk_at "m:mem", ?_⟩
      repeat walk_at "m:go"
      simp only [List.length_append] at hzr
      refine c_popI (ns := f) (by walk_at "m:put") (by omega) ?_
      repeat walk_at "m:go"
      refine o_eqV (a := S.popV) (b := some n) ?_
      have e3 : S.popV = some n := by rw [e1]; simp
      rw [e3, decide_eq_true rfl]
      rw [List.dropLast_concat] at h
      exact ⟨_, su_refl, h _ hG'⟩
  · unfold endsS endsR at h
    rw [if_neg h1, if_neg h1, if_neg h2, if_neg h2, if_neg h3, if_neg h3] at h
    repeat walk_at "m:go"
    refine shift_l (room_le hr' (by omega)) hl (by walk_at "m:frm") wf hv' fun G' hG' => ?_
    skip
    repeat walk_at "m:go"
    refine o_tlI (ns := rows) (by walk_at "m:mem") (by omega) ?_
    cases rows with
    | nil =>
      refine ite_f ?_
      repeat walk_at "m:go"
      refine o_eqV (a := S.shiftV) (b := none) ?_
      have : S.shiftV = none := e2
      rw [this]
      exact ⟨_, su_refl, h _ hG'⟩
    | cons n f =>
      refine ite_t ?_
      repeat walk_at "m:go"
      refine ⟨ra, _, rfl, by walk_at "m:mem", ?_⟩
      repeat walk_at "m:go"
      simp only [List.length_cons] at hzr
      refine c_popkI (x := n) (by walk_at "m:put") (by omega) (by simp only [List.length_cons]; omega) rfl (by simp only [List.length_cons]; omega) ?_
      repeat walk_at "m:go"
      refine o_eqV (a := S.shiftV) (b := some n) ?_
      have e3 : S.shiftV = some n := e2
      rw [e3, decide_eq_true rfl]
      exact ⟨_, su_refl, h _ hG'⟩
end

section
variable {w : World} {mg mb : Str → Option Value} {L : Addr} {c : Cx (gd w mg mb) L} {lo : Lo} {H : Hp}
abbrev mineD (ra : Addr) (M : Mn) : List (Str × Value) :=
  [(Str.ofString "rows", .ref ra), (Str.ofString "at", optV M.at_), (Str.ofString "place", I M.place), (Str.ofString "flags", I M.flags), (Str.ofString "most", I M.most)]
abbrev mineH (ma ra : Addr) (M : Mn) : Hp := [(ma, .map (mineD ra M)), (ra, .list (M.rows.map I))]

theorem added_c {p : LA} {S : LS} {ma ra : Addr} {M : Mn} {i x : Int} {G K : Hp} {Q : Value → Lo → Hp → Prop} (hr : c.room 5) (hl : LR p S G) (hp : Frm (G ++ mineH ma ra M) K H) (wf : WF S) (hz : S.vals.length < 100) (hzr : M.rows.length ≤ 100)
    (h0 : i.fmod (M.rows.length + 1) < S.count → 0 ≤ S.at (i.fmod (M.rows.length + 1)) S.flags)
    (h : ∀ G', LR p (S.add (i.fmod (M.rows.length + 1)) x) G' → Q (.bool true) lo ((G' ++ mineH ma ra (M.added (i.fmod (M.rows.length + 1)) x)) ++ K)) : Cl c (.ref 440) [.ref p.ln, .ref ma, I i, I x] lo H Q := by
  refine cl_fnW (G := G ++ mineH ma ra M) (K := K) 4 [Str.ofString "line", Str.ofString "mine", Str.ofString "index", Str.ofString "value"] [(Str.ofString "line", .ref p.ln), (Str.ofString "mine", .ref ma), (Str.ofString "index", I i), (Str.ofString "value", I x)] (by rfl) (by kernel_rfl) hr rfl rfl (fun ws h => by match ws, h with | [a, b, c, d], _ => rfl) (by decide) (by decide) rfl rfl rfl (by decide) hp ?_
  intro L' c' hr'
  simp only [mineH]
  repeat walk_at "m:go"
  refine c_lenI (ns := M.rows) (by walk_at "m:mem") (by omega) ?_
  repeat walk_at "m:go"
  refine o_mod (by omega) ?_
  have j0 : 0 ≤ i.fmod (M.rows.length + 1) := Int.fmod_nonneg_of_pos _ (by omega)
  have j1 : i.fmod (M.rows.length + 1) < M.rows.length + 1 := Int.fmod_lt_of_pos _ (by omega)
  generalize i.fmod (M.rows.length + 1) = j at *
  repeat walk_at "m:go"
  refine add_l hr' hl (by walk_at "m:frm") wf hz h0 fun G' hG' => ?_
  repeat walk_at "m:go"
  refine c_lenI (ns := M.rows) (by walk_at "m:mem") (by omega) ?_
  repeat walk_at "m:go"
  refine ite_eq (fun h1 => ?_) (fun h1 => ?_)
  · unfold Mn.added at h
    simp only [if_pos h1] at h
    repeat walk_at "m:go"
    refine ⟨ra, _, rfl, by walk_at "m:mem", ?_⟩
    repeat walk_at "m:go"
    refine c_appendI (by walk_at "m:put") (by omega) ?_
    repeat walk_at "m:go"
    exact ⟨_, su_refl, h _ hG'⟩
  · unfold Mn.added at h
    simp only [if_neg h1] at h
    repeat walk_at "m:go"
    refine ⟨ra, _, rfl, by walk_at "m:mem", ?_⟩
    repeat walk_at "m:go"
    refine ite_dec (fun h2 => ?_) (fun h2 => ?_)
    · have e : addK M j = M.rows.length - 1 - j := if_pos h2
      rw [e] at h
      repeat walk_at "m:go"
      refine c_lenI (ns := M.rows) (by walk_at "m:mem") (by omega) ?_
      repeat walk_at "m:go"
      refine c_insertI (by walk_at "m:put") (by omega) (by omega) (by omega) ?_
      repeat walk_at "m:go"
      exact ⟨_, su_refl, h _ hG'⟩
    · have e : addK M j = j := if_neg h2
      rw [e] at h
      repeat walk_at "m:go"
      refine c_insertI (by walk_at "m:put") (by omega) (by omega) (by omega) ?_
      repeat walk_at "m:go"
      exact ⟨_, su_refl, h _ hG'⟩

theorem dropped_c {p : LA} {S : LS} {ma ra : Addr} {M : Mn} {i : Int} {G K : Hp} {Q : Value → Lo → Hp → Prop} (hr : c.room 6) (hl : LR p S G) (hp : Frm (G ++ mineH ma ra M) K H) (wf : WF S) (hz : S.vals.length < 100) (hzr : M.rows.length ≤ 100)
    (h0 : ∀ j : Int, 0 ≤ j → j < M.rows.length → 0 ≤ S.at j S.flags ∧ ∃ r, S.valAt (S.at j S.flags) = some r ∧ M.rows[(addK M j).toNat]? = some r)
    (he : M.rows = [] → Q (.bool true) lo ((G ++ mineH ma ra M) ++ K))
    (h : ∀ (j : Int) G', 0 ≤ j → j < M.rows.length → LR p (S.drop j) G' → Q (.bool true) lo ((G' ++ mineH ma ra (M.dropped j)) ++ K)) : Cl c (.ref 447) [.ref p.ln, .ref ma, I i] lo H Q := by
  refine cl_fnW (G := G ++ mineH ma ra M) (K := K) 5 [Str.ofString "line", Str.ofString "mine", Str.ofString "index"] [(Str.ofString "line", .ref p.ln), (Str.ofString "mine", .ref ma), (Str.ofString "index", I i)] (by rfl) (by kernel_rfl) hr rfl rfl (fun ws h => by match ws, h with | [a, b, c], _ => rfl) (by decide) (by decide) rfl rfl rfl (by decide) hp ?_
  intro L' c' hr'
  simp only [mineH]
  repeat walk_at "m:go"
  refine ⟨Nat.le_of_ble_eq_true rfl, fun e1 => ?_⟩
  refine o_leq (ns := M.rows) (ms := []) (by walk_at "m:mem") (by exact mh) ?_
  repeat walk_at "m:go"
  refine ite_dec (fun h1 => ?_) (fun h1 => ?_)
  · repeat walk_at "m:go"
    exact ⟨_, by walk_at "m:sub", he h1⟩
  have hpos : 0 < M.rows.length := List.length_pos_iff.mpr h1
  repeat walk_at "m:go"
  refine c_lenI (ns := M.rows) (by walk_at "m:mem") (by omega) ?_
  repeat walk_at "m:go"
  refine o_mod (by omega) ?_
  have j0 : 0 ≤ i.fmod M.rows.length := Int.fmod_nonneg_of_pos _ (by omega)
  have j1 : i.fmod M.rows.length < M.rows.length := Int.fmod_lt_of_pos _ (by omega)
  generalize i.fmod M.rows.length = j at *
  obtain ⟨h2, r, hv, hrr⟩ := h0 j j0 j1
  have h' := fun G' => h j G' j0 j1
  have hk : 0 ≤ addK M j ∧ addK M j < M.rows.length := by unfold addK; split <;> omega
  walk_at "m:go"
  walk_at "m:go"
  walk_at "m:go"
  refine e_joinS (fun v => v = I (addK M j)) ?_ ?_
  · repeat walk_at "m:go"
    refine ite_dec (fun h2 => ?_) (fun h2 => ?_)
    · have e : addK M j = M.rows.length - 1 - j := if_pos h2
      rw [e]
      repeat walk_at "m:go"
      refine c_lenI (ns := M.rows) (by walk_at "m:mem") (by omega) ?_
      repeat walk_at "m:go"
      exact ⟨rfl, rfl, rfl⟩
    · have e : addK M j = j := if_neg h2
      rw [e]
      repeat walk_at "m:go"
      exact ⟨rfl, rfl, rfl⟩
  rintro _ rfl
  have er : M.rows.getD (addK M j).toNat (-1) = r := by rw [List.getD_eq_getElem?_getD, hrr]; rfl
  walk_at "m:go"
  walk_at "m:go"
  refine x_joinS (fun H' => H' = (e1, .list []) :: (G ++ [(ma, .map (mineD ra { M with at_ := if M.at_ = M.rows[(addK M j).toNat]? then none else M.at_ })), (ra, .list (M.rows.map I))])) ?_ ?_
  · repeat walk_at "m:go"
    refine o_tailI (by walk_at "m:mem") hk.1 hk.2 (by omega) ?_ (by intro _; with_unfolding_all rfl)
    rw [er]
    refine o_eqV (b := some r) ?_
    repeat walk_at "m:go"
    rw [hrr]
    refine ite_dec (fun h3 => ?_) (fun h3 => ?_)
    · repeat walk_at "m:go"
      exact ⟨rfl, by simp only [if_pos h3]⟩
    · repeat walk_at "m:go"
      exact ⟨rfl, by simp only [if_neg h3]⟩
  rintro _ rfl
  unfold Mn.dropped at h'
  generalize (if M.at_ = M.rows[(addK M j).toNat]? then none else M.at_) = at' at *
  repeat walk_at "m:go"
  refine drop_l hr' hl (by walk_at "m:frm") wf h2 hv fun G' hG' => ?_
  repeat walk_at "m:go"
  refine ⟨ra, _, rfl, by walk_at "m:mem", ?_⟩
  repeat walk_at "m:go"
  refine c_popkI (by walk_at "m:put") hk.1 hk.2 hrr (by omega) ?_
  repeat walk_at "m:go"
  rw [show (r == r) = true by simp]
  exact ⟨_, by walk_at "m:sub", h' _ hG'⟩

theorem rewound_c {p : LA} {S : LS} {ma ra : Addr} {M : Mn} {G K : Hp} {Q : Value → Lo → Hp → Prop} (hr : c.room 4) (hl : LR p S G) (hp : Frm (G ++ mineH ma ra M) K H) (wf : WF S) (hzr : M.rows.length ≤ 100)
    (h : ∀ G', LR p S.rewind G' → Q .none lo ((G' ++ mineH ma ra M.rewound) ++ K)) : Cl c (.ref 454) [.ref p.ln, .ref ma] lo H Q := by
  refine cl_fnW (G := G ++ mineH ma ra M) (K := K) 3 [Str.ofString "line", Str.ofString "mine"] [(Str.ofString "line", .ref p.ln), (Str.ofString "mine", .ref ma)] (by rfl) (by kernel_rfl) hr rfl rfl (fun ws h => by match ws, h with | [a, b], _ => rfl) (by decide) (by decide) rfl rfl rfl (by decide) hp ?_
  intro L' c' hr'
  simp only [mineH]
  repeat walk_at "m:go"
  refine rewind_l hr' hl (by walk_at "m:frm") wf fun G' hG' => ?_
  have h' := h _ hG'
  unfold Mn.rewound at h'
  repeat walk_at "m:gx"
  refine e_joinS (fun v => v = I (if 1 < M.flags then (M.rows.length : Int) - 1 else 0)) ?_ ?_
  · repeat walk_at "m:go"
    refine ite_dec (fun h2 => ?_) (fun h2 => ?_)
    · rw [if_pos h2]
      repeat walk_at "m:go"
      refine c_lenI (ns := M.rows) (by walk_at "m:mem") (by omega) ?_
      repeat walk_at "m:go"
      exact ⟨rfl, rfl, rfl⟩
    · rw [if_neg h2]
      repeat walk_at "m:go"
      exact ⟨rfl, rfl, rfl⟩
  rintro _ rfl
  have hk : M.rows ≠ [] → 0 ≤ (if 1 < M.flags then (M.rows.length : Int) - 1 else 0) ∧ (if 1 < M.flags then (M.rows.length : Int) - 1 else 0) < M.rows.length := fun q => by
    have := List.length_pos_iff.mpr q
    split <;> omega
  generalize (if 1 < M.flags then (M.rows.length : Int) - 1 else 0) = pl at *
  repeat walk_at "m:go"
  refine ⟨Nat.le_of_ble_eq_true rfl, fun e1 => ?_⟩
  refine o_leq (ns := M.rows) (ms := []) (by walk_at "m:mem") (by exact mh) ?_
  repeat walk_at "m:go"
  refine ite_dec (fun h1 => ?_) (fun h1 => ?_)
  · rw [if_pos h1] at h'
    repeat walk_at "m:go"
    exact ⟨_, by walk_at "m:sub", h'⟩
  · obtain ⟨k0, k1⟩ := hk h1
    have hlt : pl.toNat < M.rows.length := by omega
    rw [if_neg h1, List.getElem?_eq_getElem hlt] at h'
    have er : M.rows.getD pl.toNat (-1) = M.rows[pl.toNat] := by simp [hlt]
    repeat walk_at "m:go"
    refine o_tailI (by walk_at "m:mem") k0 k1 (by omega) ?_ (by intro _; with_unfolding_all rfl)
    rw [er]
    repeat walk_at "m:go"
    exact ⟨_, by walk_at "m:sub", h'⟩
end

section
variable {w : World} {mg mb : Str → Option Value} {L : Addr} {c : Cx (gd w mg mb) L} {lo : Lo} {H : Hp}
theorem c_popN {g : Gd} {L : Addr} {c : Cx g L} {lo : Lo} {H H' : Hp} {a : Addr} {ns : List Int} {x : Int} {Q : Value → Lo → Hp → Prop} (p : Put a (.list ((ns ++ [x]).map I)) (.list (ns.map I)) H H') (hz : ns.length ≤ 900) (h : Q (I x) lo H') :
    Cl c (.builtin "list.pop") [.ref a, I (-1)] lo H Q := by
  refine c_popk (vs := (ns ++ [x]).map I) (k := ns.length) (v := I x) ?_ (by decide) ?_ (by simp) (by simp; omega) h
  · have : ((ns ++ [x]).map I).eraseIdx ns.length = ns.map I := by
      rw [List.map_append, List.eraseIdx_append_of_length_le (by simp)]; simp
    rw [this]; exact p
  · simp only [List.length_map, List.length_append, List.length_cons, List.length_nil]
    unfold seqIndex?
    simp
    omega

theorem stepped_c {p : LA} {S : LS} {ma ra : Addr} {M : Mn} {f : Int} {G K : Hp} {Q : Value → Lo → Hp → Prop} (hr : c.room 7) (hl : LR p S G) (hp : Frm (G ++ mineH ma ra M) K H) (wf : WF S) (hzr : M.rows.length ≤ 100)
    (hf : S.free.length < 100) (hv : 0 ≤ S.tail → ∃ x, S.valAt S.tail = some x) (hv' : 0 ≤ S.head → ∃ x, S.valAt S.head = some x)
    (h : ∀ G', LR p (S.step f) G' → Q .none lo ((G' ++ mineH ma ra (M.stepped f)) ++ K)) : Cl c (.ref 461) [.ref p.ln, .ref ma, I f] lo H Q := by
  refine cl_fnW (G := G ++ mineH ma ra M) (K := K) 6 [Str.ofString "line", Str.ofString "mine", Str.ofString "flags"] [(Str.ofString "line", .ref p.ln), (Str.ofString "mine", .ref ma), (Str.ofString "flags", I f)] (by rfl) (by kernel_rfl) hr rfl rfl (fun ws h => by match ws, h with | [a, b, c], _ => rfl) (by decide) (by decide) rfl rfl rfl (by decide) hp ?_
  intro L' c' hr'
  simp only [mineH]
  repeat walk_at "m:go"
  refine step_l hr' hl (by walk_at "m:frm") wf hf hv hv' fun G' hG' => ?_
  have h' := h _ hG'
  clear h hl hG' hv hv' hf wf
  repeat walk_at "m:go"
  refine ⟨Nat.le_of_ble_eq_true rfl, fun t => ⟨t, _, _, rfl, mh, ?_⟩⟩
  walk_at "m:go"
  walk_at "m:go"
  refine W.part (H0 := G' ++ mineH ma ra M) (by simp only [mineH]; walk_at "m:sub") ?_
  simp only [mineH]
  cases hat : M.at_ with
  | none =>
    unfold Mn.stepped at h'
    rw [hat] at h'
    repeat walk_at "m:go"
    refine ⟨_, su_refl, ?_⟩
    simpa only [mineH, mineD, hat] using h'
  | some a =>
    unfold Mn.stepped at h'
    rw [hat] at h'
    simp only [Mn.stepRows] at h'
    simp only [mineD]
    walk_at "m:gx"
    refine x_joinS (fun H' => H' = G' ++ [(ma, .map (mineD ra M)), (ra, .list (M.rows.map I))]) ?_ ?_
    · repeat walk_at "m:go"
      exact ⟨rfl, by simp only [mineD, hat]⟩
    rintro _ rfl
    walk_at "m:gx"
    walk_at "m:gx"
    refine e_joinS (fun v => v = I (stepOf f)) ?_ ?_
    · repeat walk_at "m:go"
      refine ite_dec (fun h2 => ?_) (fun h2 => ?_)
      · have e : stepOf f = -1 := if_pos h2
        rw [e]
        repeat walk_at "m:go"
        exact ⟨rfl, rfl, rfl⟩
      · have e : stepOf f = 1 := if_neg h2
        rw [e]
        repeat walk_at "m:go"
        exact ⟨rfl, rfl, rfl⟩
    rintro _ rfl
    have hst : stepOf f = -1 ∨ stepOf f = 1 := by unfold stepOf; split <;> simp
    generalize stepOf f = st at *
    repeat walk_at "m:gx"
    refine x_joinS (fun H' => H' = G' ++ [(ma, .map (mineD ra { M with at_ := M.stepAt a st })), (ra, .list (M.rows.map I))]) ?_ ?_
    · unfold Mn.stepAt
      repeat walk_at "m:go"
      refine o_in (ns := M.rows) (by walk_at "m:mem") ?_
      repeat walk_at "m:go"
      refine ite_dec (fun h1 => ?_) (fun h1 => ?_)
      · repeat walk_at "m:go"
        refine ⟨ra, _, rfl, by walk_at "m:mem", ?_⟩
        repeat walk_at "m:go"
        refine c_index (ns := M.rows) (by walk_at "m:mem") h1 (by omega) ?_
        repeat walk_at "m:go"
        refine ite_dec (fun h2 => ?_) (fun h2 => ?_)
        · repeat walk_at "m:go"
          refine c_lenI (ns := M.rows) (by walk_at "m:mem") (by omega) ?_
          repeat walk_at "m:go"
          refine ite_dec (fun h3 => ?_) (fun h3 => ?_)
          · have hlt : ((M.rows.idxOf a : Int) + st).toNat < M.rows.length := by omega
            simp only [if_pos (And.intro h1 (And.intro h2 h3)), List.getElem?_eq_getElem hlt]
            have er : M.rows.getD ((M.rows.idxOf a : Int) + st).toNat (-1) = M.rows[((M.rows.idxOf a : Int) + st).toNat] := by simp [hlt]
            repeat walk_at "m:go"
            refine ⟨ra, _, rfl, by walk_at "m:mem", ?_⟩
            repeat walk_at "m:go"
            refine c_index (ns := M.rows) (by walk_at "m:mem") h1 (by omega) ?_
            repeat walk_at "m:go"
            refine o_tailI (by walk_at "m:mem") h2 h3 (by omega) ?_ (by intro _; with_unfolding_all rfl)
            rw [er]
            repeat walk_at "m:go"
            exact ⟨rfl, rfl⟩
          · simp only [if_neg (fun q : a ∈ M.rows ∧ 0 ≤ (M.rows.idxOf a : Int) + st ∧ (M.rows.idxOf a : Int) + st < M.rows.length => h3 q.2.2)]
            repeat walk_at "m:go"
            exact ⟨rfl, rfl⟩
        · simp only [if_neg (fun q : a ∈ M.rows ∧ 0 ≤ (M.rows.idxOf a : Int) + st ∧ (M.rows.idxOf a : Int) + st < M.rows.length => h2 q.2.1)]
          repeat walk_at "m:go"
          exact ⟨rfl, rfl⟩
      · simp only [if_neg (fun q : a ∈ M.rows ∧ 0 ≤ (M.rows.idxOf a : Int) + st ∧ (M.rows.idxOf a : Int) + st < M.rows.length => h1 q.1)]
        repeat walk_at "m:go"
        exact ⟨rfl, rfl⟩
    rintro _ rfl
    generalize M.stepAt a st = at' at *
    walk_at "m:gx"
    refine x_joinS (fun H' => H' = G' ++ [(ma, .map (mineD ra { M with at_ := at', place := if st = -1 ∨ f.fmod 2 = 0 then M.place + st else M.place })), (ra, .list (M.rows.map I))]) ?_ ?_
    · repeat walk_at "m:go"
      refine ite_eq (fun h1 => ?_) (fun h1 => ?_)
      · simp only [if_pos (Or.inl h1 : st = -1 ∨ f.fmod 2 = 0)]
        repeat walk_at "m:go"
        exact ⟨rfl, rfl⟩
      · repeat walk_at "m:go"
        refine o_mod (by omega) ?_
        repeat walk_at "m:go"
        refine ite_eq (fun h2 => ?_) (fun h2 => ?_)
        · simp only [if_pos (Or.inr h2 : st = -1 ∨ f.fmod 2 = 0)]
          repeat walk_at "m:go"
          exact ⟨rfl, rfl⟩
        · simp only [if_neg (fun q : st = -1 ∨ f.fmod 2 = 0 => q.elim h1 h2)]
          repeat walk_at "m:go"
          exact ⟨rfl, rfl⟩
    rintro _ rfl
    generalize (if st = -1 ∨ f.fmod 2 = 0 then M.place + st else M.place) = pl at *
    have fin : ∀ rows', rows' = (if f.fmod 2 = 1 ∧ M.rows ≠ [] then (if st = 1 then M.rows.tail else M.rows.dropLast) else M.rows) →
        Q .none lo ((G' ++ mineH ma ra { M with at_ := at', place := pl, rows := rows' }) ++ K) := fun rows' e => by
      rw [e]; exact h'
    clear h'
    repeat walk_at "m:go"
    refine o_mod (by omega) ?_
    repeat walk_at "m:go"
    refine ite_eq (fun h1 => ?_) (fun h1 => ?_)
    · repeat walk_at "m:go"
      refine o_tlI (ns := M.rows) (by walk_at "m:mem") (by omega) ?_
      by_cases h2 : M.rows = []
      · rw [show (!M.rows.isEmpty) = false by rw [h2]; rfl]
        refine ite_f ?_
        repeat walk_at "m:go"
        exact ⟨_, su_refl, fin _ (if_neg (fun q => q.2 h2)).symm⟩
      · rw [show (!M.rows.isEmpty) = true by simp [h2]]
        refine ite_t ?_
        repeat walk_at "m:go"
        refine ⟨ra, _, rfl, by walk_at "m:mem", ?_⟩
        repeat walk_at "m:go"
        refine ite_eq (fun h3 => ?_) (fun h3 => ?_)
        · obtain ⟨r, rs, e⟩ : ∃ r rs, M.rows = r :: rs := by cases hq : M.rows with
            | nil => exact absurd hq h2
            | cons r rs => exact ⟨r, rs, rfl⟩
          repeat walk_at "m:go"
          refine c_popkI (ns := M.rows) (x := r) (by walk_at "m:put") (by omega) (by rw [e]; simp only [List.length_cons]; omega) (by rw [e]; rfl) (by omega) ?_
          repeat walk_at "m:go"
          refine ⟨_, su_refl, fin (M.rows.eraseIdx (0 : Int).toNat) ?_⟩
          rw [if_pos ⟨h1, h2⟩, if_pos h3, e]; rfl
        · rcases snoc_cases M.rows with e | ⟨rs, r, e⟩
          · exact absurd e h2
          · have hl : rs.length ≤ 900 := by rw [e] at hzr; simp at hzr; omega
            simp only [e]
            repeat walk_at "m:go"
            refine c_popN (ns := rs) (x := r) (by walk_at "m:put") hl ?_
            repeat walk_at "m:go"
            refine ⟨_, su_refl, fin rs ?_⟩
            rw [if_pos ⟨h1, h2⟩, if_neg h3, e, List.dropLast_concat]
    · repeat walk_at "m:go"
      exact ⟨_, su_refl, fin _ (if_neg (fun q => h1 q.1)).symm⟩
end

section
variable {w : World} {mg mb : Str → Option Value} {L : Addr} {c : Cx (gd w mg mb) L} {lo : Lo} {H : Hp}
theorem deed_c {p : LA} {S : LS} {ma ra : Addr} {M : Mn} {ns : List Int} {t : Nat} {deed i : Int} {G K : Hp} {Q : Value → Lo → Hp → Prop} (hr : c.room 8) (hl : LR p S G) (hp : Frm (G ++ mineH ma ra M) K H) (inv : Inv S M ns t) (hm : M.most = S.vals.length) (ht : t < 50) (hd : 0 ≤ deed)
    (h : ∀ S' M' ns' G', Inv S' M' ns' (t + 1) → LR p S' G' → Q (.bool true) lo ((G' ++ mineH ma ra M') ++ K)) : Cl c (.ref 468) [.ref p.ln, .ref ma, I deed, I i, I (100 + t)] lo H Q := by
  refine cl_fnW (G := G ++ mineH ma ra M) (K := K) 7 [Str.ofString "line", Str.ofString "mine", Str.ofString "deed", Str.ofString "index", Str.ofString "value"] [(Str.ofString "line", .ref p.ln), (Str.ofString "mine", .ref ma), (Str.ofString "deed", I deed), (Str.ofString "index", I i), (Str.ofString "value", I (100 + t))] (by rfl) (by kernel_rfl) hr rfl rfl (fun ws h => by match ws, h with | [a, b, c, d, e], _ => rfl) (by decide) (by decide) rfl rfl rfl (by decide) hp ?_
  intro L' c' hr'
  have wf := inv.rep.wf
  have hz := inv.size
  have hzr := inv.rowsLen
  have hfl := inv.freeLen
  simp only [mineH]
  repeat walk_at "m:go"
  refine ite_dec (fun h1 => ?_) (fun h1 => ?_)
  · repeat walk_at "m:go"
    refine at_ends_c (p := p) (S := S) (G := G) (rows := M.rows) (room_le hr' (by omega)) hl (by walk_at "m:frm") wf (by omega) (by omega) inv.tailVal inv.headVal inv.popV inv.shiftV fun G' hG' => ?_
    obtain ⟨ns', inv'⟩ := inv.ends hm ht deed
    refine ⟨G' ++ mineH ma ra { M with rows := endsR deed M.rows (100 + t) }, ?_, h _ _ _ _ inv' hG'⟩
    simp only [mineH, List.append_assoc, List.cons_append, List.nil_append]
    walk_at "m:sub"
  repeat walk_at "m:go"
  refine ite_eq (fun h2 => ?_) (fun h2 => ?_)
  · repeat walk_at "m:go"
    have j0 : 0 ≤ i.fmod (M.rows.length + 1) := Int.fmod_nonneg_of_pos _ (by omega)
    have j1 : i.fmod (M.rows.length + 1) < M.rows.length + 1 := Int.fmod_lt_of_pos _ (by omega)
    refine added_c (p := p) (S := S) (G := G) (M := M) (K := []) (room_le hr' (by omega)) hl fr_all wf (by omega) (by omega) (fun q => (inv.at j0 (by rw [inv.rep.count] at q; exact q)).1) fun G' hG' => ?_
    obtain ⟨ns', inv'⟩ := inv.added hm ht j0 (by omega)
    rw [List.append_nil]
    exact ⟨_, su_refl, h _ _ _ _ inv' hG'⟩
  repeat walk_at "m:go"
  refine ite_eq (fun h3 => ?_) (fun h3 => ?_)
  · repeat walk_at "m:go"
    refine dropped_c (p := p) (S := S) (G := G) (M := M) (K := []) (room_le hr' (by omega)) hl fr_all wf (by omega) (by omega) (fun j a b => inv.at a b) (fun _ => ?_) fun j G' j0 j1 hG' => ?_
    · rw [List.append_nil]
      exact ⟨_, su_refl, h _ _ _ _ inv.up hl⟩
    · obtain ⟨ns', inv'⟩ := inv.dropped hm ht j0 j1
      rw [List.append_nil]
      exact ⟨_, su_refl, h _ _ _ _ inv' hG'⟩
  repeat walk_at "m:go"
  refine ite_eq (fun h4 => ?_) (fun h4 => ?_)
  · repeat walk_at "m:go"
    refine rewound_c (p := p) (S := S) (G := G) (M := M) (K := []) (room_le hr' (by omega)) hl fr_all wf (by omega) fun G' hG' => ?_
    obtain ⟨ns', inv'⟩ := inv.rewound hm ht
    rw [List.append_nil]
    repeat walk_at "m:go"
    exact ⟨_, su_refl, h _ _ _ _ inv' hG'⟩
  repeat walk_at "m:go"
  refine ite_eq (fun h5 => ?_) (fun h5 => ?_)
  · repeat walk_at "m:go"
    refine stepped_c (p := p) (S := S) (G := G) (M := M) (K := []) hr' hl fr_all wf (by omega) (by omega) inv.tailVal inv.headVal fun G' hG' => ?_
    obtain ⟨ns', inv'⟩ := inv.stepped hm ht inv.fl.1 inv.fl.2
    rw [List.append_nil]
    repeat walk_at "m:go"
    exact ⟨_, su_refl, h _ _ _ _ inv' hG'⟩
  repeat walk_at "m:go"
  refine ite_eq (fun h6 => ?_) (fun h6 => ?_)
  · repeat walk_at "m:gx"
    have hf := inv.fl
    refine e_joinS (fun v => ∃ f, v = I f ∧ 0 ≤ f ∧ f ≤ 3) ?_ ?_
    · repeat walk_at "m:go"
      refine ite_dec (fun h7 => ?_) (fun h7 => ?_)
      · repeat walk_at "m:go"
        exact ⟨⟨_, rfl, by omega, by omega⟩, rfl, rfl⟩
      · repeat walk_at "m:go"
        exact ⟨⟨_, rfl, by omega, by omega⟩, rfl, rfl⟩
    rintro _ ⟨f, rfl, f0, f1⟩
    repeat walk_at "m:go"
    refine stepped_c (p := p) (S := S) (G := G) (M := M) (K := []) hr' hl fr_all wf (by omega) (by omega) inv.tailVal inv.headVal fun G' hG' => ?_
    obtain ⟨ns', inv'⟩ := inv.stepped hm ht f0 f1
    rw [List.append_nil]
    repeat walk_at "m:go"
    exact ⟨_, su_refl, h _ _ _ _ inv' hG'⟩
  · have f0 : 0 ≤ i.fmod 4 := Int.fmod_nonneg_of_pos _ (by omega)
    have f1 : i.fmod 4 < 4 := Int.fmod_lt_of_pos _ (by omega)
    have inv' := inv.flagged f0 (by omega)
    obtain ⟨vs, ab, rfl, ov⟩ := hl
    simp only [lineH, List.cons_append, List.nil_append, List.append_assoc]
    repeat walk_at "m:go"
    refine o_mod (by omega) ?_
    repeat walk_at "m:go"
    refine ⟨_, ?_, h _ _ _ _ inv' ⟨vs, ab, rfl, ov⟩⟩
    simp only [lineH, mineH, List.cons_append, List.nil_append, List.append_assoc]
    walk_at "m:sub"

theorem nodes_c {wl : Addr} {ways l : List Int} {first most : Int} {K : Hp} {Q : Value → Lo → Hp → Prop} (hr : c.room 1) (hp : Frm [(wl, .list (ways.map I))] K H) (sg : Seg ways first l (-1)) (hlt : ∀ x ∈ l, x < ways.length) (hz : ways.length ≤ 900) (hl : (l.length : Int) ≤ most) (hl2 : l.length ≤ 900)
    (h : ∀ d, Q (.ref d) lo ([(d, .list (l.map I)), (wl, .list (ways.map I))] ++ K)) : Cl c (.ref 475) [I first, .ref wl, I most] lo H Q := by
  refine cl_fnW (G := [(wl, .list (ways.map I))]) (K := K) 0 [Str.ofString "first", Str.ofString "ways", Str.ofString "most"] [(Str.ofString "first", I first), (Str.ofString "ways", .ref wl), (Str.ofString "most", I most)] (by rfl) (by kernel_rfl) hr rfl rfl (fun ws h => by match ws, h with | [a, b, c], _ => rfl) (by decide) (by decide) rfl rfl rfl (by decide) hp ?_
  intro L' c' hr'
  repeat walk_at "m:go"
  refine ⟨Nat.le_of_ble_eq_true rfl, fun d => ?_⟩
  repeat walk_at "m:go"
  refine x_while (fun k lo' H' => ∃ (nd : Int) (l1 l2 : List Int), k = l2.length ∧ Seg ways nd l2 (-1) ∧ l = l1 ++ l2 ∧
      lo' = [(Str.ofString "first", I nd), (Str.ofString "ways", .ref wl), (Str.ofString "most", I most), (Str.ofString "nodes", .ref d)] ∧ H' = [(d, .list (l1.map I)), (wl, .list (ways.map I))]) l.length ⟨first, [], l, rfl, sg, rfl, rfl, rfl⟩ ?_
  rintro _ _ _ ⟨nd, l1, l2, rfl, sg2, rfl, rfl, rfl⟩
  rw [List.length_append] at hl hl2
  repeat walk_at "m:go"
  refine ite_dec (fun h1 => ?_) (fun h1 => ?_)
  · cases sg2 with
    | nil => omega
    | @cons _ _ l3 h0 sg3 =>
      rw [List.length_cons] at hl hl2
      have hlt' := hlt nd (by simp)
      repeat walk_at "m:go"
      refine c_lenI (ns := l1) (by walk_at "m:mem") (by omega) ?_
      repeat walk_at "m:go"
      refine ite_dec (fun h2 => ?_) (fun h2 => ?_)
      · repeat walk_at "m:go"
        refine ⟨d, _, rfl, by walk_at "m:mem", ?_⟩
        repeat walk_at "m:go"
        refine c_appendI (by walk_at "m:put") (by omega) ?_
        repeat walk_at "m:go"
        refine o_tailI (by walk_at "m:mem") h0 hlt' (by omega) ?_ (by intro _; with_unfolding_all rfl)
        repeat walk_at "m:go"
        exact ⟨_, Nat.lt_succ_self _, _, l1 ++ [nd], l3, rfl, sg3, by simp, rfl, rfl⟩
      · omega
  · cases sg2 with
    | cons h0 sg3 => omega
    | nil =>
      repeat walk_at "m:go"
      refine ⟨_, su_refl, ?_⟩
      rw [List.append_nil] at h
      exact h d
end

section
variable {w : World} {mg mb : Str → Option Value} {L : Addr} {c : Cx (gd w mg mb) L} {lo : Lo} {H : Hp}
theorem Seg.lt {w : List Int} {a : Int} {l : List Int} (s : Seg w a l (-1)) : ∀ x ∈ l, 0 ≤ x := by
  generalize hb : (-1 : Int) = b at s
  induction s with
  | nil => intro x hx; cases hx
  | cons h0 _ ih =>
    intro x hx
    rcases List.mem_cons.mp hx with rfl | hx
    · exact h0
    · exact ih hb x hx
theorem Rep.lt {S : LS} {ns rows : List Int} (r : Rep S ns rows) : ∀ x ∈ ns, 0 ≤ x ∧ x < S.vals.length := by
  intro x hx
  have : x ∈ upto S.vals.length := r.all.mem_iff.mp (List.mem_append_left _ hx)
  unfold upto at this
  obtain ⟨k, hk, rfl⟩ := List.mem_map.mp this
  have := List.mem_range.mp hk
  omega
theorem vals_at {ab : List (Addr × Addr)} {vs : List Value} {S : LS} (ov : OkV ab vs S) (hz : S.vals.length ≤ 100) : ∀ {ns rows : List Int}, (∀ x ∈ ns, 0 ≤ x ∧ x < S.vals.length) → ValsAre S ns rows → All2 (fun n u => 0 ≤ n ∧ n < 2 ^ 62 ∧ vs[n.toNat]? = some u) ns (rows.map I)
  | _, _, _, .nil => .nil
  | _, _, h, .cons hv va => by
    have h1 := h _ List.mem_cons_self
    exact .cons ⟨h1.1, by omega, val_int ov hv⟩ (vals_at ov hz (fun x hx => h x (List.mem_cons_of_mem _ hx)) va)

theorem linked_c {p : LA} {S : LS} {ra : Addr} {ns rows : List Int} {G K : Hp} {Q : Value → Lo → Hp → Prop} (hr : c.room 3) (hl : LR p S G) (hp : Frm (G ++ [(ra, .list (rows.map I))]) K H) (r : Rep S ns rows) (hz : S.vals.length ≤ 90)
    (h : Q (.bool true) lo ((G ++ [(ra, .list (rows.map I))]) ++ K)) : Cl c (.ref 480) [.ref p.ln, .ref ra] lo H Q := by
  refine cl_fnC (G := G ++ [(ra, .list (rows.map I))]) (K := K) 2 (x := Str.ofString "line") (y := Str.ofString "rows") (by rfl) (by kernel_rfl) hr (fun ws h => by match ws, h with | [a, b], _ => rfl) rfl rfl (fun n => rfl) rfl rfl rfl hp ?_
  intro L' cx c' hr'
  obtain ⟨vs, ab, rfl, ov⟩ := hl
  have wf := r.wf
  have hrl := r.lt
  have hnl : ns.length = rows.length := all2_length r.vals
  have hnn : ns.length ≤ S.vals.length := by
    have := r.all.length_eq
    simp [upto] at this
    omega
  have hnx := wf.nx
  have hpv := wf.pv
  simp only [lineH, List.cons_append, List.nil_append, List.append_assoc]
  repeat walk_at "m:go"
  refine c_lenI (ns := rows) (by walk_at "m:mem") (by omega) ?_
  repeat walk_at "m:go"
  refine nodes_c (l := ns) (ways := S.nexts) (room_le hr' (by omega)) (by walk_at "m:frm") r.fwd (fun x hx => by have := (hrl x hx).2; omega) (by omega) (by omega) (by omega) fun d => ?_
  simp only [List.cons_append, List.nil_append]
  repeat walk_at "m:go"
  refine e_comp (l := d) (cx := cx) (a := p.ln) (C := 296) (dx := p.dx) (vl := p.vl) (vs := vs) (ns := ns) (us := rows.map I) (by walk_at "m:getf") (by walk_at "m:mem") (by omega) (by rfl) (by walk_at "m:mem") (by walk_at "m:mem") (by walk_at "m:mem") (by walk_at "m:getf") fo_values (by walk_at "m:mem")
    (vals_at ov (by omega) hrl r.vals) (fun d2 => ?_) (by with_unfolding_all rfl) (by decide) rfl (by decide) rfl (fun _ => by rfl)
  repeat walk_at "m:go"
  refine o_lne (ns := rows) (ms := rows) (by walk_at "m:mem") (by walk_at "m:mem") ?_
  rw [decide_eq_true rfl, Bool.not_true]
  repeat walk_at "m:go"
  refine values_l (S := S) (G := lineH p vs S ++ absH ab) hr' ⟨vs, ab, rfl, ov⟩ (by simp only [lineH, List.cons_append, List.nil_append]; walk_at "m:frm") wf r.fwd r.vals (by omega) fun d3 => ?_
  simp only [lineH, List.cons_append, List.nil_append, List.append_assoc]
  repeat walk_at "m:go"
  refine o_lne (ns := rows) (ms := rows) (by walk_at "m:mem") (by walk_at "m:mem") ?_
  rw [decide_eq_true rfl, Bool.not_true]
  repeat walk_at "m:go"
  refine c_lenI (ns := rows) (by walk_at "m:mem") (by omega) ?_
  repeat walk_at "m:go"
  rw [r.count, show ((rows.length : Int) != rows.length) = false by simp]
  repeat walk_at "m:go"
  refine c_lenI (ns := rows) (by walk_at "m:mem") (by omega) ?_
  repeat walk_at "m:go"
  refine nodes_c (l := ns.reverse) (ways := S.prevs) (room_le hr' (by omega)) (by walk_at "m:frm") r.bwd (fun x hx => by have := (hrl x (List.mem_reverse.mp hx)).2; omega) (by omega) (by rw [List.length_reverse]; omega) (by rw [List.length_reverse]; omega) fun d4 => ?_
  simp only [List.cons_append, List.nil_append]
  repeat walk_at "m:go"
  refine e_slice3 ?_
  repeat walk_at "m:go"
  refine fun t => o_slicetail (vs := ns.map I) (p := none) (q := none) (r := some (-1)) (by walk_at "m:mem") mh (fun v e => part_none e) (fun v e => part_none e) (fun v e => part_int e) (by decide) (by rw [List.length_map]; omega) (fun d5 its e => ?_) (hsb := by with_unfolding_all rfl)
  have e5 : (slicePick its none none (some (-1))).toList.map er = ns.reverse.map I := by
    rw [krv_pick]
    show its.toList.reverse.map er = _
    rw [List.map_reverse, e, List.map_reverse]
  rw [e5]
  repeat walk_at "m:go"
  refine o_lne (ns := ns.reverse) (ms := ns.reverse) (by walk_at "m:mem") (by walk_at "m:mem") ?_
  rw [decide_eq_true rfl, Bool.not_true]
  repeat walk_at "m:go"
  refine W.part (H0 := (cx, .cell (.ref p.ln)) :: (d, .list (ns.map I)) :: (lineH p vs S ++ (absH ab ++ [(ra, .list (rows.map I))]))) (by simp only [lineH, List.cons_append, List.nil_append]; walk_at "m:sub") ?_
  refine x_forrange ?_
  simp only [lineH, List.cons_append, List.nil_append]
  repeat walk_at "m:go"
  refine c_lenI (ns := rows) (by walk_at "m:mem") (by omega) ?_
  repeat walk_at "m:go"
  refine c_range fun rg => ?_
  refine ⟨rg, rows.length, fun i lo' H' => H' = (rg, .range rows.length) :: (cx, .cell (.ref p.ln)) :: (d, .list (ns.map I)) :: (lineH p vs S ++ (absH ab ++ [(ra, .list (rows.map I))])) ∧
    (lo' = [(Str.ofString "rows", .ref ra), (Str.ofString "nodes", .ref d)] ∨ ∃ v, lo' = [(Str.ofString "rows", .ref ra), (Str.ofString "nodes", .ref d), (Str.ofString "index", v)]), rfl, by omega, mh, ⟨rfl, .inl rfl⟩, ?_, ?_⟩
  · rintro F i lo' _ hi ⟨rfl, hlo⟩
    refine ⟨[(Str.ofString "rows", .ref ra), (Str.ofString "nodes", .ref d), (Str.ofString "index", I i)], ?_, ?_⟩
    · rcases hlo with rfl | ⟨v, rfl⟩ <;> walk_at "m:putf"
    · simp only [lineH, List.cons_append, List.nil_append]
      have hget : S.at (i : Int) 0 = ns.getD (i : Int).toNat (-1) := by rw [r.atF (by omega)]; simp
      have hget2 : S.at ((rows.length : Int) - 1 - i) 2 = ns.getD (i : Int).toNat (-1) := by
        rw [show (rows.length : Int) - 1 - i = ((rows.length - 1 - i : Nat) : Int) by omega, r.atB (by omega)]
        have h1 : rows.length - 1 - i < ns.length := by omega
        have h2 : i < ns.length := by omega
        simp only [List.getD_eq_getElem?_getD, Int.toNat_natCast]
        rw [List.getElem?_reverse h1]
        congr 2
        omega
      repeat walk_at "m:go"
      refine at_l (S := S) (G := lineH p vs S ++ absH ab) (room_le hr' (by omega)) ⟨vs, ab, rfl, ov⟩ (by simp only [lineH, List.cons_append, List.nil_append]; walk_at "m:frm") wf ?_
      simp only [lineH, List.cons_append, List.nil_append, List.append_assoc]
      repeat walk_at "m:go"
      refine o_tailI (ns := ns) (by walk_at "m:mem") (by omega) (by omega) (by omega) ?_ (by intro _; with_unfolding_all rfl)
      repeat walk_at "m:go"
      rw [hget, show (ns.getD (i : Int).toNat (-1) != ns.getD (i : Int).toNat (-1)) = false by simp]
      repeat walk_at "m:go"
      refine c_lenI (ns := rows) (by walk_at "m:mem") (by omega) ?_
      repeat walk_at "m:go"
      refine at_l (S := S) (G := lineH p vs S ++ absH ab) (room_le hr' (by omega)) ⟨vs, ab, rfl, ov⟩ (by simp only [lineH, List.cons_append, List.nil_append]; walk_at "m:frm") wf ?_
      simp only [lineH, List.cons_append, List.nil_append, List.append_assoc]
      repeat walk_at "m:go"
      refine o_tailI (ns := ns) (by walk_at "m:mem") (by omega) (by omega) (by omega) ?_ (by intro _; with_unfolding_all rfl)
      repeat walk_at "m:go"
      rw [hget2, show (ns.getD (i : Int).toNat (-1) != ns.getD (i : Int).toNat (-1)) = false by simp]
      refine ite_f ?_
      refine W.part (H0 := (rg, .range rows.length) :: (cx, .cell (.ref p.ln)) :: (d, .list (ns.map I)) :: (lineH p vs S ++ (absH ab ++ [(ra, .list (rows.map I))]))) (by simp only [lineH, List.cons_append, List.nil_append]; walk_at "m:sub") ?_
      repeat walk_at "m:go"
      exact ⟨rfl, .inr ⟨_, rfl⟩⟩
  · rintro lo' _ ⟨rfl, hlo⟩
    have hget : S.at (rows.length : Int) 0 = -1 := by rw [r.atF (Nat.le_refl _)]; simp [hnl]
    have hget2 : S.at (rows.length : Int) 2 = -1 := by rw [r.atB (Nat.le_refl _)]; simp [hnl]
    have hlo' : ∃ tl, lo' = (Str.ofString "rows", .ref ra) :: tl := by
      rcases hlo with rfl | ⟨v, rfl⟩ <;> exact ⟨_, rfl⟩
    obtain ⟨tl, rfl⟩ := hlo'
    simp only [lineH, List.cons_append, List.nil_append]
    repeat walk_at "m:go"
    refine c_lenI (ns := rows) (by walk_at "m:mem") (by omega) ?_
    repeat walk_at "m:go"
    refine at_l (S := S) (G := lineH p vs S ++ absH ab) (room_le hr' (by omega)) ⟨vs, ab, rfl, ov⟩ (by simp only [lineH, List.cons_append, List.nil_append]; walk_at "m:frm") wf ?_
    rw [hget]
    simp only [lineH, List.cons_append, List.nil_append, List.append_assoc]
    repeat walk_at "m:go"
    rw [show ((-1 : Int) == -1) = true by decide]
    repeat walk_at "m:go"
    refine c_lenI (ns := rows) (by walk_at "m:mem") (by omega) ?_
    repeat walk_at "m:go"
    refine at_l (S := S) (G := lineH p vs S ++ absH ab) (room_le hr' (by omega)) ⟨vs, ab, rfl, ov⟩ (by simp only [lineH, List.cons_append, List.nil_append]; walk_at "m:frm") wf ?_
    rw [hget2]
    simp only [lineH, List.cons_append, List.nil_append, List.append_assoc]
    repeat walk_at "m:go"
    rw [show ((-1 : Int) == -1) = true by decide]
    refine ⟨_, ?_, h⟩
    simp only [lineH, List.cons_append, List.nil_append, List.append_assoc]
    walk_at "m:sub"
end

section
variable {w : World} {mg mb : Str → Option Value} {L : Addr} {c : Cx (gd w mg mb) L} {lo : Lo} {H : Hp}
theorem o_nebV {a b : Bool} {Q : Value → Lo → Hp → Prop} (e : a = b) (h : Q (.bool false) lo H) : L2 c (compareOp .NotEq) (.bool a) (.bool b) lo H (EQ Q) := o_nebb (by rw [e]; simpa using h)

theorem marked_c {p : LA} {S : LS} {ma ra : Addr} {M : Mn} {ns : List Int} {t : Nat} {G K : Hp} {Q : Value → Lo → Hp → Prop} (hr : c.room 3) (hl : LR p S G) (hp : Frm (G ++ mineH ma ra M) K H) (inv : Inv S M ns t) (ht : t < 50)
    (h : Q (.bool true) lo ((G ++ mineH ma ra M) ++ K)) : Cl c (.ref 487) [.ref p.ln, .ref ma] lo H Q := by
  refine cl_fnW (G := G ++ mineH ma ra M) (K := K) 2 [Str.ofString "line", Str.ofString "mine"] [(Str.ofString "line", .ref p.ln), (Str.ofString "mine", .ref ma)] (by rfl) (by kernel_rfl) hr rfl rfl (fun ws h => by match ws, h with | [a, b], _ => rfl) (by decide) (by decide) rfl rfl rfl (by decide) hp ?_
  intro L' c' hr'
  have wf := inv.rep.wf
  have hcur := inv.current
  have hcn := inv.curNone
  obtain ⟨vs, ab, rfl, ov⟩ := hl
  simp only [lineH, mineH, List.cons_append, List.nil_append, List.append_assoc]
  repeat walk_at "m:go"
  rw [inv.place, show (M.place != M.place) = false by simp]
  repeat walk_at "m:go"
  cases hat : M.at_ with
  | none =>
    rw [hat] at hcur
    have h1 : S.cursor < 0 := hcn.mpr hat
    repeat walk_at "m:go"
    rw [decide_eq_true h1, show (true != true) = false from rfl]
    repeat walk_at "m:go"
    refine current_l (S := S) (G := lineH p vs S ++ absH ab) hr' ⟨vs, ab, rfl, ov⟩ (by simp only [lineH, List.cons_append, List.nil_append]; walk_at "m:frm") wf ?_
    have : S.current = none := hcur
    rw [this]
    simp only [lineH, mineH, List.cons_append, List.nil_append, List.append_assoc]
    repeat walk_at "m:go"
    refine o_inN (ns := M.rows) (by walk_at "m:mem") ?_
    repeat walk_at "m:go"
    refine ⟨_, ?_, h⟩
    simp only [lineH, mineH, mineD, hat, List.cons_append, List.nil_append, List.append_assoc]
    walk_at "m:sub"
  | some a =>
    rw [hat] at hcur
    have h1 : ¬ S.cursor < 0 := fun q => by rw [hcn.mp q] at hat; cases hat
    repeat walk_at "m:go"
    rw [decide_eq_false h1, show (false != false) = false from rfl]
    repeat walk_at "m:go"
    refine current_l (S := S) (G := lineH p vs S ++ absH ab) hr' ⟨vs, ab, rfl, ov⟩ (by simp only [lineH, List.cons_append, List.nil_append]; walk_at "m:frm") wf ?_
    have : S.current = if a ∈ M.rows then some a else none := hcur
    rw [this]
    simp only [lineH, mineH, List.cons_append, List.nil_append, List.append_assoc]
    repeat walk_at "m:go"
    refine o_in (ns := M.rows) (by walk_at "m:mem") ?_
    repeat walk_at "m:go"
    refine ite_dec (fun h2 => ?_) (fun h2 => ?_)
    · rw [if_pos h2]
      repeat walk_at "m:go"
      rw [show (a == a) = true by simp]
      refine ⟨_, ?_, h⟩
      simp only [lineH, mineH, mineD, hat, List.cons_append, List.nil_append, List.append_assoc]
      walk_at "m:sub"
    · rw [if_neg h2]
      repeat walk_at "m:go"
      refine ⟨_, ?_, h⟩
      simp only [lineH, mineH, mineD, hat, List.cons_append, List.nil_append, List.append_assoc]
      walk_at "m:sub"

theorem copied_c {p : LA} {S : LS} {ra : Addr} {ns rows : List Int} {G K : Hp} {Q : Value → Lo → Hp → Prop} (hr : c.room 5) (hl : LR p S G) (hp : Frm (G ++ [(ra, .list (rows.map I))]) K H) (r : Rep S ns rows) (hz : S.vals.length ≤ 80)
    (h : Q (.bool true) lo ((G ++ [(ra, .list (rows.map I))]) ++ K)) : Cl c (.ref 501) [.ref p.ln, .ref ra] lo H Q := by
  refine cl_fnW (G := G ++ [(ra, .list (rows.map I))]) (K := K) 4 [Str.ofString "line", Str.ofString "rows"] [(Str.ofString "line", .ref p.ln), (Str.ofString "rows", .ref ra)] (by rfl) (by kernel_rfl) hr rfl rfl (fun ws h => by match ws, h with | [a, b], _ => rfl) (by decide) (by decide) rfl rfl rfl (by decide) hp ?_
  intro L' c' hr'
  have hnl : ns.length = rows.length := all2_length r.vals
  have hnn : ns.length ≤ S.vals.length := by
    have := r.all.length_eq
    simp [upto] at this
    omega
  obtain ⟨⟨ns1, r1⟩, e1, e2⟩ := copy_rep (rows := rows) S (by omega)
  have hl' := hl
  obtain ⟨vs, ab, rfl, ov⟩ := hl
  repeat walk_at "m:go"
  refine copy_l (S := S) (G := lineH p vs S ++ absH ab) hr' hl' (by walk_at "m:frm") r.wf r.fwd r.vals (by omega) fun p' G' hG' => ?_
  generalize S.copy rows = S2 at *
  obtain ⟨vs', ab', rfl, ov'⟩ := hG'
  simp only [lineH, List.cons_append, List.nil_append, List.append_assoc]
  repeat walk_at "m:go"
  rw [e1, show (S.flags != S.flags) = false by simp]
  repeat walk_at "m:go"
  refine values_l (p := p') (S := S2) (G := lineH p' vs' S2 ++ absH ab') (room_le hr' (by omega)) ⟨vs', ab', rfl, ov'⟩ (by simp only [lineH, List.cons_append, List.nil_append]; walk_at "m:frm") r1.wf r1.fwd r1.vals (by omega) fun d => ?_
  simp only [lineH, List.cons_append, List.nil_append, List.append_assoc]
  repeat walk_at "m:go"
  refine o_lne (ns := rows) (ms := rows) (by walk_at "m:mem") (by walk_at "m:mem") ?_
  rw [decide_eq_true rfl, Bool.not_true]
  repeat walk_at "m:go"
  refine push_l (p := p') (S := S2) (G := lineH p' vs' S2 ++ absH ab') (x := -1) (room_le hr' (by omega)) ⟨vs', ab', rfl, ov'⟩ (by simp only [lineH, List.cons_append, List.nil_append]; walk_at "m:frm") r1.wf (by omega) fun G3 hG3 => ?_
  obtain ⟨ns3, r3⟩ := push_rep (x := -1) r1 (by omega)
  repeat walk_at "m:go"
  refine values_l (p := p') (G := G3) (rows := rows ++ [-1]) (room_le hr' (by omega)) hG3 (by walk_at "m:frm") r3.wf r3.fwd r3.vals (by simp; omega) fun d2 => ?_
  simp only [lineH, List.cons_append, List.nil_append, List.append_assoc]
  repeat walk_at "m:go"
  refine ⟨Nat.le_of_ble_eq_true rfl, fun d3 => ?_⟩
  refine o_lplus (vs := rows.map I) (us := [I (-1)]) (by walk_at "m:mem") (by exact mh) (by simp; omega) fun d4 => ?_
  refine o_leq (ns := rows ++ [-1]) (ms := rows ++ [-1]) (by walk_at "m:mem") (by rw [List.map_append]; exact mh) ?_
  rw [decide_eq_true rfl]
  repeat walk_at "m:go"
  refine linked_c (S := S) (G := lineH p vs S ++ absH ab) (rows := rows) (room_le hr' (by omega)) hl' (by simp only [lineH, List.cons_append, List.nil_append, List.append_assoc]; walk_at "m:frm") r (by omega) ?_
  exact ⟨_, by simp only [lineH, List.cons_append, List.nil_append, List.append_assoc]; walk_at "m:sub", h⟩
end

section
variable {w : World} {mg mb : Str → Option Value} {L : Addr} {c : Cx (gd w mg mb) L} {lo : Lo} {H : Hp}
theorem Rep.gones {S : LS} {ns rows : List Int} (r : Rep S ns rows) : ∀ x ∈ S.free ++ gone S ns, 0 ≤ x ∧ x < S.vals.length ∧ S.valAt x = Option.none := by
  intro x hx
  have hm : x ∈ upto S.vals.length := r.all.mem_iff.mp (List.mem_append_right _ hx)
  unfold upto at hm
  obtain ⟨k, hk, rfl⟩ := List.mem_map.mp hm
  have hk' := List.mem_range.mp hk
  have nd : (ns ++ (S.free ++ gone S ns)).Nodup := r.all.nodup_iff.mpr (by
    unfold upto
    exact List.Pairwise.map _ (fun a b h e => h (by have e' : (a : Int) = b := e; omega)) List.nodup_range)
  refine ⟨by omega, by omega, r.none _ (by omega) fun hn => ?_⟩
  exact (List.nodup_append.mp nd).2.2 _ hn _ hx rfl
theorem upto_I (n : Nat) : (List.range n).map (fun i : Nat => I (i : Int)) = (upto n).map I := by
  unfold upto
  rw [List.map_map]; rfl

theorem thrifty_c {p : LA} {S : LS} {ma ra : Addr} {M : Mn} {ns : List Int} {t : Nat} {G K : Hp} {Q : Value → Lo → Hp → Prop} (hr : c.room 2) (hl : LR p S G) (hp : Frm (G ++ mineH ma ra M) K H) (inv : Inv S M ns t) (ht : t < 50)
    (h : Q (.bool true) lo ((G ++ mineH ma ra { M with most := S.vals.length }) ++ K)) : Cl c (.ref 494) [.ref p.ln, .ref ma] lo H Q := by
  refine cl_fnW (G := G ++ mineH ma ra M) (K := K) 1 [Str.ofString "line", Str.ofString "mine"] [(Str.ofString "line", .ref p.ln), (Str.ofString "mine", .ref ma)] (by rfl) (by kernel_rfl) hr rfl rfl (fun ws h => by match ws, h with | [a, b], _ => rfl) (by decide) (by decide) rfl rfl rfl (by decide) hp ?_
  intro L' c' hr'
  have r := inv.rep
  have wf := r.wf
  have hrl := r.lt
  have hnl : ns.length = M.rows.length := all2_length r.vals
  have hlen := r.all.length_eq
  simp only [upto, List.length_append, List.length_map, List.length_range] at hlen
  have hsz := inv.size
  have hnx := wf.nx
  have hcg := inv.curGone
  have hgl := r.gones
  have hm1 := inv.most
  have hm2 := inv.most'
  obtain ⟨vs, ab, rfl, ov⟩ := hl
  have hvs := all2_len ov
  simp only [lineH, mineH, List.cons_append, List.nil_append, List.append_assoc]
  repeat walk_at "m:go"
  refine ⟨Nat.le_of_ble_eq_true rfl, fun t => ⟨t, _, _, rfl, mh, ?_⟩⟩
  repeat walk_at "m:go"
  refine c_listcopy (vs := S.free.map I) (by walk_at "m:mem") (by rw [List.length_map]; omega) fun gl => ?_
  walk_at "m:go"
  walk_at "m:go"
  refine W.part (H0 := (gl, .list (S.free.map I)) :: (lineH p vs S ++ (absH ab ++ [(ma, .map (mineD ra M)), (ra, .list (M.rows.map I))]))) (by simp only [lineH, List.cons_append, List.nil_append]; walk_at "m:sub") ?_
  refine x_joinS (fun H' => ∃ m1 : Int, H' = (gl, .list ((S.free ++ gone S ns).map I)) :: (lineH p vs S ++ (absH ab ++ [(ma, .map (mineD ra { M with most := m1 })), (ra, .list (M.rows.map I))])) ∧ max m1 (M.rows.length : Int) = (S.vals.length : Int)) ?_ ?_
  · simp only [lineH, List.cons_append, List.nil_append]
    cases hat : M.at_ with
    | none =>
      rw [hat] at hcg
      have hcg' : gone S ns = [] := hcg
      rw [hcg'] at hm2
      repeat walk_at "m:go"
      refine ⟨rfl, M.most, ?_, ?_⟩
      · rw [hcg', List.append_nil]
        simp only [mineD, hat]
      · simp at hm2; omega
    | some a =>
      rw [hat] at hcg
      have hcg' : gone S ns = if a ∈ M.rows then [] else [S.cursor] := hcg
      repeat walk_at "m:go"
      refine o_notin (ns := M.rows) (by walk_at "m:mem") ?_
      repeat walk_at "m:go"
      by_cases ha : a ∈ M.rows
      · rw [if_pos ha] at hcg'
        rw [hcg'] at hm2
        rw [decide_eq_true ha, Bool.not_true]
        repeat walk_at "m:go"
        refine ⟨rfl, M.most, ?_, ?_⟩
        · rw [hcg', List.append_nil]
          simp only [mineD, hat]
        · simp at hm2; omega
      · rw [if_neg ha] at hcg'
        rw [hcg'] at hm2 hlen
        rw [decide_eq_false ha, Bool.not_false]
        repeat walk_at "m:go"
        refine ⟨gl, _, rfl, by walk_at "m:mem", ?_⟩
        repeat walk_at "m:go"
        refine c_appendI (by walk_at "m:put") (by omega) ?_
        repeat walk_at "m:go"
        refine c_lenI (ns := M.rows) (by walk_at "m:mem") (by omega) ?_
        repeat walk_at "m:go"
        refine ⟨rfl, max M.most (M.rows.length + 1), ?_, ?_⟩
        · rw [hcg']
          simp only [mineD, hat]
        · simp at hm2 hlen; omega
  rintro _ ⟨m1, rfl, hm⟩
  generalize hglE : S.free ++ gone S ns = gs at *
  have hgsl : ns.length + gs.length = S.vals.length := by rw [← hglE, List.length_append]; omega
  simp only [lineH, List.cons_append, List.nil_append]
  repeat walk_at "m:go"
  refine c_lenI (ns := M.rows) (by walk_at "m:mem") (by omega) ?_
  repeat walk_at "m:go"
  rw [hm]
  refine x_forlist ?_
  repeat walk_at "m:go"
  refine ⟨gl, gs.map I, fun i lo' H' => H' = (gl, .list (gs.map I)) :: (lineH p vs S ++ (absH ab ++ [(ma, .map (mineD ra { M with most := S.vals.length })), (ra, .list (M.rows.map I))])) ∧
    (lo' = [(Str.ofString "line", .ref p.ln), (Str.ofString "mine", .ref ma), (Str.ofString "at", optV M.at_), (Str.ofString "rows", .ref ra), (Str.ofString "gone", .ref gl)] ∨
     ∃ v, lo' = [(Str.ofString "line", .ref p.ln), (Str.ofString "mine", .ref ma), (Str.ofString "at", optV M.at_), (Str.ofString "rows", .ref ra), (Str.ofString "gone", .ref gl), (Str.ofString "node", v)]), rfl, ?_, ⟨rfl, .inl rfl⟩, ?_, ?_⟩
  · rintro i lo' _ ⟨rfl, _⟩
    exact mh
  · rintro F i lo' _ v hv ⟨rfl, hlo⟩
    have hlt : i < gs.length := by
      false_or_by_contra
      rw [List.getElem?_eq_none (by simp; omega)] at hv; cases hv
    have ev : v = I gs[i] := by simp [hlt] at hv; exact hv.symm
    subst ev
    obtain ⟨g0, g1, g2⟩ := hgl gs[i] (List.getElem_mem hlt)
    obtain ⟨a, d, e, hma⟩ := val_gone ov g0 g1 g2
    have hma' := abs_mem hma
    refine ⟨[(Str.ofString "line", .ref p.ln), (Str.ofString "mine", .ref ma), (Str.ofString "at", optV M.at_), (Str.ofString "rows", .ref ra), (Str.ofString "gone", .ref gl), (Str.ofString "node", I gs[i])], ?_, ?_⟩
    · rcases hlo with rfl | ⟨v, rfl⟩ <;> walk_at "m:putf"
    · simp only [lineH, List.cons_append, List.nil_append]
      repeat walk_at "m:go"
      refine o_tail (by walk_at "m:mem") g0 (by omega) e ?_ (by intro _; with_unfolding_all rfl)
      repeat walk_at "m:go"
      refine c_isinst (by walk_at "m:mem") is_absent ?_
      repeat walk_at "m:go"
      rw [Bool.not_true]
      repeat walk_at "m:go"
      exact ⟨rfl, .inr ⟨_, rfl⟩⟩
  · rintro lo' _ ⟨rfl, hlo⟩
    have hlo' : ∃ tl, lo' = (Str.ofString "line", .ref p.ln) :: (Str.ofString "mine", .ref ma) :: (Str.ofString "at", optV M.at_) :: (Str.ofString "rows", .ref ra) :: (Str.ofString "gone", .ref gl) :: tl ∧ (tl = [] ∨ ∃ v, tl = [(Str.ofString "node", v)]) := by
      rcases hlo with rfl | ⟨v, rfl⟩
      · exact ⟨_, rfl, .inl rfl⟩
      · exact ⟨_, rfl, .inr ⟨v, rfl⟩⟩
    obtain ⟨tl, rfl, htl⟩ := hlo'
    simp only [lineH, List.cons_append, List.nil_append]
    repeat walk_at "m:go"
    refine c_lenI (ns := M.rows) (by walk_at "m:mem") (by omega) ?_
    repeat walk_at "m:go"
    refine nodes_c (l := ns) (ways := S.nexts) (room_le hr' (by omega)) (by walk_at "m:frm") r.fwd (fun x hx => by have := (hrl x hx).2; omega) (by omega) (by omega) (by omega) fun d => ?_
    simp only [List.cons_append, List.nil_append]
    repeat walk_at "m:go"
    refine o_lplus (vs := ns.map I) (us := gs.map I) (by walk_at "m:mem") (by walk_at "m:mem") (by simp only [List.length_map]; omega) fun d2 => ?_
    rw [← List.map_append]
    have hput : ∃ lo2, PutF (Str.ofString "nodes") (.ref d2) ((Str.ofString "line", .ref p.ln) :: (Str.ofString "mine", .ref ma) :: (Str.ofString "at", optV M.at_) :: (Str.ofString "rows", .ref ra) :: (Str.ofString "gone", .ref gl) :: tl) ((Str.ofString "line", .ref p.ln) :: (Str.ofString "mine", .ref ma) :: (Str.ofString "at", optV M.at_) :: (Str.ofString "rows", .ref ra) :: (Str.ofString "gone", .ref gl) :: lo2) ∧ GetF lo2 (Str.ofString "nodes") (.ref d2) := by
      rcases htl with rfl | ⟨v, rfl⟩
      · exact ⟨[(Str.ofString "nodes", .ref d2)], by walk_at "m:putf", by walk_at "m:getf"⟩
      · exact ⟨[(Str.ofString "node", v), (Str.ofString "nodes", .ref d2)], by walk_at "m:putf", by walk_at "m:getf"⟩
    obtain ⟨lo2, hput, hget⟩ := hput
    refine ex_put hput ?_
    repeat walk_at "m:go"
    refine c_len (vs := vs) (by walk_at "m:mem") (by omega) ?_
    repeat walk_at "m:go"
    rw [hvs, show ((S.vals.length : Int) == S.vals.length) = true by simp]
    repeat walk_at "m:go"
    refine e_loc (.there (by decide) (.there (by decide) (.there (by decide) (.there (by decide) (.there (by decide) hget))))) ?_
    repeat walk_at "m:go"
    refine c_sorted (ns := ns ++ gs) (by walk_at "m:mem") (by rw [List.length_append]; omega) fun b ns' hpm hst => ?_
    have hall : (ns ++ gs).Perm (upto S.vals.length) := by rw [← hglE]; exact r.all
    have e1 : ns' = upto S.vals.length := sorted_upto (hpm.trans hall) hst
    subst e1
    repeat walk_at "m:go"
    refine c_range fun rg => ?_
    repeat walk_at "m:go"
    refine c_listrange (n := S.vals.length) (by walk_at "m:mem") (by omega) fun b2 => ?_
    rw [upto_I]
    refine o_leq (ns := upto S.vals.length) (ms := upto S.vals.length) (by walk_at "m:mem") (by walk_at "m:mem") ?_
    rw [decide_eq_true rfl]
    exact ⟨_, by simp only [lineH, mineH, List.cons_append, List.nil_append, List.append_assoc]; walk_at "m:sub", h⟩
end

section
variable {w : World} {mg mb : Str → Option Value} {L : Addr} {c : Cx (gd w mg mb) L} {lo : Lo} {H : Hp}
theorem W.loc {g : Gd} {L : Addr} {c : Cx g L} {α : Type} {t : Sem α} {lo lo0 : Lo} {H : Hp} {Q : α → Lo → Hp → Prop} (hs : ∀ x v, lo0.lookup x = some v → lo.lookup x = some v) (h : W c t lo0 H Q) : W c t lo H Q :=
  fun s0 s sm ⟨m, raw, F, hl, hr, N, nd⟩ => h s0 s sm ⟨m, raw, F, fun x v e => hl x v (hs x v e), hr, N, nd⟩
theorem lo_pre {l0 l1 : Lo} : ∀ x v, l0.lookup x = some v → (l0 ++ l1).lookup x = some v := by
  intro x v e
  rw [List.lookup_append, e]; rfl
/-- pairs of ints, each a tuple of the ledger -/
inductive TA (T : Hp) : List Value → Prop
  | nil : TA T []
  | cons {t : Addr} {i j : Int} {vs : List Value} : (t, AO.tup [I i, I j]) ∈ T → TA T vs → TA T (.ref t :: vs)
theorem TA.at {T : Hp} {vs : List Value} (h : TA T vs) : ∀ (k : Nat), k < vs.length → ∃ t i j, vs[k]? = some (.ref t) ∧ (t, AO.tup [I i, I j]) ∈ T := by
  induction h with
  | nil => intro k hk; simp at hk
  | @cons t i j vs hm _ ih =>
    intro k hk
    cases k with
    | zero => exact ⟨t, i, j, rfl, hm⟩
    | succ k => simpa using ih k (by simpa using hk)
theorem empty_inv : Inv LS.empty ⟨[], none, 0, 0, 0⟩ [] 0 :=
  { rep := empty_rep 0, nd := List.nodup_nil, low := fun r h => (by cases h), cur := .inl ⟨rfl, rfl⟩, place := rfl, flags := rfl, fl := ⟨Int.le_refl _, by decide⟩, size := Nat.le_refl _, most := Int.le_refl _, most' := by
      show (0 : Int) ≤ _
      omega }

set_option maxHeartbeats 4000000 in
theorem kept_c {pa ta : Addr} {k : Int} {vs : List Value} {T K : Hp} {Q : Value → Lo → Hp → Prop} (hr : c.room 9) (hp : Frm ([(pa, .list ([k].map I))] ++ T) K H) (hT : (ta, .list vs) ∈ T) (tas : TA T vs) (hz : vs.length ≤ 12)
    (h : Q (.bool true) lo (T ++ K)) : Cl c (.ref 508) [.ref ta, .ref pa] lo H Q := by
  refine cl_fnW (G := [(pa, .list ([k].map I))] ++ T) (K := K) 8 [Str.ofString "told", Str.ofString "pen"] [(Str.ofString "told", .ref ta), (Str.ofString "pen", .ref pa)] (by rfl) (by kernel_rfl) hr rfl rfl (fun ws h => by match ws, h with | [a, b], _ => rfl) (by decide) (by decide) rfl rfl rfl (by decide) hp ?_
  intro L' c' hr'
  simp only [List.cons_append, List.nil_append]
  repeat walk_at "m:go"
  refine make_l (room_le hr' (by omega)) fun p G hG => ?_
  repeat walk_at "m:go"
  refine e_dict (fun ma => ?_) rfl rfl (by decide) (by decide)
  refine p_cons ?_
  repeat walk_at "m:go"
  refine ⟨Nat.le_of_ble_eq_true rfl, fun ra => ?_⟩
  repeat (first | walk_at "m:go" | (with_reducible refine' p_cons ?_) | (with_reducible refine' p_nil ?_))
  refine ⟨by show ([Str.ofString "rows", Str.ofString "at", Str.ofString "place", Str.ofString "flags", Str.ofString "most"] : List Str).Nodup; decide, _, by walk_at "m:put", ?_⟩
  repeat walk_at "m:go"
  refine x_forrange ?_
  repeat walk_at "m:go"
  refine c_len (vs := vs) (by walk_at "m:mem") (by omega) ?_
  repeat walk_at "m:go"
  refine c_range fun rg => ?_
  refine ⟨rg, vs.length, fun i lo' H' => lo' = [(Str.ofString "told", .ref ta), (Str.ofString "pen", .ref pa), (Str.ofString "line", .ref p.ln), (Str.ofString "mine", .ref ma)] ∧
    ∃ S M ns G k, Inv S M ns i ∧ M.most = S.vals.length ∧ LR p S G ∧ H' = (rg, .range vs.length) :: ((ra, .list (M.rows.map I)) :: (ma, .map (mineD ra M)) :: (G ++ ((pa, .list ([k].map I)) :: T))), rfl, by omega, mh, ⟨rfl, _, _, _, G, k, empty_inv, rfl, hG, rfl⟩, ?_, ?_⟩
  · rintro F i _ _ hi ⟨rfl, S, M, ns, G, k, inv, hm, hG, rfl⟩
    refine ex_put (by walk_at "m:putf") ?_
    obtain ⟨t, x, y, hv, hmt⟩ := tas.at i hi
    repeat walk_at "m:go"
    refine o_tail (by walk_at "m:mem") (by omega) (by omega) (by rw [Int.toNat_natCast]; exact hv) ?_ (by intro _; with_unfolding_all rfl)
    repeat walk_at "m:go"
    refine o_tailT (vs := [I x, I y]) (by walk_at "m:mem") (by omega) (by omega) rfl ?_ (by intro _; with_unfolding_all rfl)
    repeat walk_at "m:go"
    refine draw_c (room_le hr' (by omega)) (by walk_at "m:frm") (by omega) (by omega) fun deed k1 d0 d1 => ?_
    simp only [List.cons_append, List.nil_append]
    repeat walk_at "m:go"
    refine o_tail (by walk_at "m:mem") (by omega) (by omega) (by rw [Int.toNat_natCast]; exact hv) ?_ (by intro _; with_unfolding_all rfl)
    repeat walk_at "m:go"
    refine o_tailT (vs := [I x, I y]) (by walk_at "m:mem") (by omega) (by omega) rfl ?_ (by intro _; with_unfolding_all rfl)
    repeat walk_at "m:go"
    refine draw_c (room_le hr' (by omega)) (by walk_at "m:frm") (by omega) (by omega) fun index k2 d2 d3 => ?_
    simp only [List.cons_append, List.nil_append]
    repeat walk_at "m:go"
    refine ⟨Nat.le_of_ble_eq_true rfl, fun tt => ⟨tt, _, _, rfl, mh, ?_⟩⟩
    repeat walk_at "m:go"
    rw [Int.add_comm]
    refine deed_c (p := p) (S := S) (G := G) (M := M) hr' hG (by simp only [mineH]; walk_at "m:frm") inv hm (by omega) d0 fun S2 M2 ns2 G2 inv2 hG2 => ?_
    simp only [mineH, List.cons_append, List.nil_append, List.append_assoc]
    have hsz2 := inv2.size
    repeat walk_at "m:go"
    rw [Bool.not_true]
    repeat walk_at "m:go"
    refine linked_c (p := p) (S := S2) (G := G2) (rows := M2.rows) (room_le hr' (by omega)) hG2 (by walk_at "m:frm") inv2.rep (by omega) ?_
    simp only [List.cons_append, List.nil_append, List.append_assoc]
    repeat walk_at "m:go"
    refine marked_c (p := p) (S := S2) (G := G2) (M := M2) (ra := ra) (room_le hr' (by omega)) hG2 (by simp only [mineH]; walk_at "m:frm") inv2 (by omega) ?_
    simp only [mineH, List.cons_append, List.nil_append, List.append_assoc]
    repeat walk_at "m:go"
    refine thrifty_c (p := p) (S := S2) (G := G2) (M := M2) (ra := ra) (room_le hr' (by omega)) hG2 (by simp only [mineH]; walk_at "m:frm") inv2 (by omega) ?_
    simp only [mineH, List.cons_append, List.nil_append, List.append_assoc]
    repeat walk_at "m:go"
    rw [Bool.not_true]
    refine ite_f ?_
    refine W.part (H0 := (rg, .range vs.length) :: ((ra, .list (M2.rows.map I)) :: (ma, .map (mineD ra { M2 with most := S2.vals.length })) :: (G2 ++ ((pa, .list ([k2].map I)) :: T)))) (by walk_at "m:sub") ?_
    refine W.loc (lo0 := [(Str.ofString "told", .ref ta), (Str.ofString "pen", .ref pa), (Str.ofString "line", .ref p.ln), (Str.ofString "mine", .ref ma)]) (lo_pre (l1 := [(Str.ofString "turn", I i), (Str.ofString "index", I index), (Str.ofString "deed", I deed)])) ?_
    repeat walk_at "m:go"
    refine ⟨rfl, S2, { M2 with most := S2.vals.length }, ns2, G2, k2, ?_, rfl, hG2, rfl⟩
    exact ⟨inv2.rep, inv2.nd, inv2.low, inv2.cur, inv2.place, inv2.flags, inv2.fl, inv2.size, Int.le_refl _, by show (S2.vals.length : Int) ≤ max (S2.vals.length : Int) _; omega⟩
  · rintro _ _ ⟨rfl, S, M, ns, G, k, inv, hm, hG, rfl⟩
    have hsz := inv.size
    repeat walk_at "m:go"
    refine copied_c (p := p) (S := S) (G := G) (rows := M.rows) (room_le hr' (by omega)) hG (by walk_at "m:frm") inv.rep (by omega) ?_
    simp only [List.cons_append, List.nil_append, List.append_assoc]
    exact ⟨_, by walk_at "m:sub", h⟩
end

section
variable {w : World} {mg mb : Str → Option Value} {L : Addr} {c : Cx (gd w mg mb) L} {lo : Lo} {H : Hp}
inductive TL (T : Hp) : List Value → Prop
  | nil : TL T []
  | cons {a : Addr} {us vs : List Value} : (a, AO.list us) ∈ T → us.length ≤ 12 → TA T us → TL T vs → TL T (.ref a :: vs)
theorem TL.at {T : Hp} {vs : List Value} (h : TL T vs) : ∀ (k : Nat) v, vs[k]? = some v → ∃ a us, v = .ref a ∧ (a, AO.list us) ∈ T ∧ us.length ≤ 12 ∧ TA T us := by
  induction h with
  | nil => intro k v hk; simp at hk
  | @cons a us vs hm hl ha _ ih =>
    intro k v hk
    cases k with
    | zero => simp at hk; subst hk; exact ⟨a, us, rfl, hm, hl, ha⟩
    | succ k => exact ih k v (by simpa using hk)
set_option maxHeartbeats 8000000 in
theorem told_c {Q : Value → Lo → Hp → Prop} (hr : c.room 1) (h : ∀ r vs T, (r, AO.list vs) ∈ T → vs.length ≤ 12 → TL T vs → Q (.ref r) lo (T ++ H)) : Cl c (.ref 419) [] lo H Q := by
  refine cl_fnW (G := []) (K := H) 0 [] [] (by rfl) (by kernel_rfl) hr rfl rfl (fun ws h => by cases ws with | nil => rfl | cons _ _ => cases h) (by decide) (by decide) rfl rfl rfl (by decide) fr_nil ?_
  intro L' c' hr'
  repeat (first | walk_at "m:go" | ((refine' And.intro ?b ?_); (case b => exact Nat.le_of_ble_eq_true rfl); intro _))
  refine ⟨_, su_refl, ?_⟩
  have key : ∀ (r : Addr) (vs : List Value) (T' : Hp), vs.length ≤ 12 → TL ((r, AO.list vs) :: T') vs → Q (.ref r) lo (((r, AO.list vs) :: T') ++ H) := fun r vs T' a b => h r vs _ mh a b
  refine key _ _ _ ?l ?t
  case l => exact Nat.le_of_ble_eq_true rfl
  case t =>
    repeat (first | exact TL.nil | ((refine' TL.cons ?m ?l ?a ?_); (case m => walk_at "m:mem"); (case l => exact Nat.le_of_ble_eq_true rfl); (case a => repeat (first | exact TA.nil | ((refine' TA.cons ?m2 ?_); (case m2 => walk_at "m:mem"))))))
end

section
variable {w : World} {mg mb : Str → Option Value} {L : Addr} {c : Cx (gd w mg mb) L} {lo : Lo} {H : Hp}
/-- from the walk over the law's body to the run -/
theorem law_top {g : Gd} {L : Addr} (c : Cx g L) {qual : Str} {scope : Scope} {fa : Addr} {cd : Value} {body : List Stmt} {sa : Addr} {m : Str → Option Value} {s : Shared} {x : Str}
    (F : Fr c.base L s.heap m) (hF : c.F = []) (hm : m x = some (.ref sa)) {Q : Flow → Shared → Prop} {E : Value → Shared → Prop}
    (h : X c (envX qual scope L fa cd []) body [(x, .ref sa)] [] (fun _ _ => False) (fun v _ => v = .bool true))
    (k : ∀ s', (∃ m', Fr c.base L s'.heap m') → s'.gens = s.gens → s'.os = s.os → Q (.ret (.bool true)) s') : wpAny (model g.prog g.w) c.A (execs body (envOf qual scope L fa cd)) Q E s := by
  have hs : St c [(x, .ref sa)] [] s := by
    refine ⟨m, [], F, fun y v e => ?_, .nil, fun p hp => ?_, ?_⟩
    · rw [List.lookup_cons] at e
      by_cases q : y = x
      · subst q; simp at e; subst e; exact ⟨_, hm, rfl⟩
      · rw [beq_eq_false_iff_ne.mpr q] at e; simp at e
    · rw [hF] at hp; simp at hp
    · rw [hF]; exact List.nodup_nil
  refine wpAny_mono (h s s (Sm.refl s) hs) (fun f s' ⟨lo', H', a, b, q⟩ => ?_) fun _ _ e => e.elim
  cases f with
  | next => exact q.elim
  | ret v =>
    have q' : er v = .bool true := q
    obtain rfl := er_bool q'
    obtain ⟨m', raw, F', _⟩ := a
    exact k s' ⟨m', F'⟩ b.1 b.2.2
  | brk => exact q.elim
  | cont => exact q.elim
theorem law_top' {g : Gd} {L : Addr} {base : Heap} {A : Around} (X0 : g.K.In base) (T0 : TopRead g.p g.loose g.mg g.mb base) (hh : A.handled = none) (hu : A.units + 20 * 12 < 9000) (hd : A.depth + 3 * 12 < 900) {qual : Str} {scope : Scope} {fa : Addr} {cd : Value} {body : List Stmt} {sa : Addr} {m : Str → Option Value} {s : Shared} {x : Str}
    (F : Fr base L s.heap m) (hm : m x = some (.ref sa)) {Q : Flow → Shared → Prop} {E : Value → Shared → Prop}
    (h : ∀ c : Cx g L, c.base = base → c.room 12 → X c (envX qual scope L fa cd []) body [(x, .ref sa)] [] (fun _ _ => False) (fun v _ => v = .bool true))
    (k : ∀ s', (∃ m', Fr base L s'.heap m') → s'.gens = s.gens → s'.os = s.os → Q (.ret (.bool true)) s') : wpAny (model g.prog g.w) A (execs body (envOf qual scope L fa cd)) Q E s :=
  law_top ⟨base, [], A, X0, T0, hh, by omega, by omega⟩ F rfl hm (h _ rfl ⟨hd, hu⟩) k
end

section
variable {w : World} {mg mb : Str → Option Value} {L : Addr} {c : Cx (gd w mg mb) L} {lo : Lo} {H : Hp}
set_option maxHeartbeats 8000000 in
theorem fin : PySem.Challenge.rw_pf0210_01.Holds := by
  refine Mine.hd (by rfl) (by rfl) (by rfl) ?_
  intro w s₀ s₁ mg mb G Y fa o pm cd doc dV kV ho hdd hcd hD hmg hg args vals as hpre hlay hrd hwl hlo
  have KX := kIn_of Y
  have X := (Ground.X G).1
  have V := (Ground.X G).2
  refine Ground.open G ?_
  intro T B D TE TW
  try (refine guard_noD D (by decide +kernel) ?_; clear D)
  obtain ⟨_, _, M⟩ := bmod_of_top T
  have TA := at_of_top T
  try (obtain ⟨_, _, he, B0⟩ := based_of_top T rfl hmg ho hdd; have he' : cd = _ := he; subst he'; clear he)
  clear hmg
  wrow_args hpre hlay hrd hwl hlo
  refine enter_call ?_
  w_top on
  try refine codeAny_mono ?_ (fun _ _ g => GoodW.toG g)
  have K0 := below_caller (Top.heap T)
  w_call any ho hdd hcd hD T F
  clear hdd TA
  rename (Frag.In _ _) => KX
  rename (Top _ _ _ _ _ _) => T
  rename (Fr _ _ _ _) => F
  rename (Heap.IsList _ _ _) => hL
  rename (IntsAre _ _) => hI
  rename (¬ ((63 : Nat) : Int) < _) => hcond
  rename (Shared.gens _ = #[]) => hg
  refine law_top' (g := gd _ _ _) (x := Str.ofString "script") KX (topRead_of T) rfl ?_ ?_ F rfl ?_ ?_
  · rw [Around.deeper_units]; decide
  · show callerA.depth + 1 + 3 * 12 < 900
    decide
  · intro c hb hr
    rw [← hb] at hL
    dsimp only
    walk_at "m:go"
    refine x_forenum ?_
    repeat walk_at "m:go"
    refine told_c (room_le hr (by omega)) fun r vs T hrT hvl tl => ?_
    repeat walk_at "m:go"
    refine c_enum (vs := vs) (List.mem_append_left _ hrT) fun e it => ?_
    refine ⟨e, it, r, vs, T ++ [], fun i lo' H' => lo' = [(Str.ofString "script", .ref _)] ∧ H' = T ++ [], rfl, by omega, su_refl, ?_, ⟨rfl, rfl⟩, ?_, ?_⟩
    · rintro i _ _ ⟨rfl, rfl⟩
      exact List.mem_append_left _ hrT
    · rintro F i _ _ v hv ⟨rfl, rfl⟩
      obtain ⟨a, us, rfl, hmT, hul, ta⟩ := tl.at i v hv
      refine ex_put (by walk_at "m:putf") ?_
      refine ex_put (by walk_at "m:putf") ?_
      rw [List.append_nil]
      repeat walk_at "m:go"
      refine e_slice13 ?_
      repeat walk_at "m:go"
      intro sl
      refine o_sliceB hL hI (by omega) (by walk_at "m:mem") (by omega) (fun d ms => ?_) (hsb := by with_unfolding_all rfl)
      repeat walk_at "m:go"
      refine c_sum (ns := ms) (by walk_at "m:mem") ?_
      repeat walk_at "m:go"
      refine o_pow (by omega) (by decide) ?_
      refine o_mod (by decide) ?_
      repeat walk_at "m:go"
      refine ⟨Nat.le_of_ble_eq_true rfl, fun pa => ?_⟩
      generalize (Int.fmod ms.sum (10 ^ (24 : Int).toNat)) = kk
      repeat walk_at "m:go"
      refine kept_c (k := kk) (T := T) (room_le hr (by omega)) (by simp only [List.cons_append, List.nil_append]; show Frm ((pa, AO.list [I kk]) :: T) _ _; walk_at "m:frm") hmT ta hul ?_
      repeat walk_at "m:go"
      rw [Bool.not_true]
      refine ite_f ?_
      refine W.part (H0 := T) (by walk_at "m:sub") ?_
      refine W.loc (lo0 := [(Str.ofString "script", .ref _)]) (lo_pre (l1 := [(Str.ofString "nth", I i), (Str.ofString "told", .ref a)])) ?_
      repeat walk_at "m:go"
      exact ⟨rfl, by simp⟩
    · rintro _ _ ⟨rfl, rfl⟩
      repeat walk_at "m:go"
      rfl
  · rintro s' ⟨m', F'⟩ e1 e2
    exact goodW_bool F' (e1.trans hg) (fun _ => rfl) (by wrow_post) e2
end

end Mine
theorem PySem.Challenge.cw_pf0210_01_holds : PySem.Challenge.rw_pf0210_01.Holds := by
  exact Mine.fin

