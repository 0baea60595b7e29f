import PyProof.Rows.All
import Wide.All
import OpenK.AllK
import Wide.FinOn
import HandS.ForMost
import HandS.Exc
import HandS.TryOnly
import HandS.ExcOwn
import HandS.WordsExc
import PySem.Challenge.RW_plugtree_k17_whole_endpoint_0
import PyProof.WalksEnum
import PyProof.Draws
import PyProof.TupleIter
import KE.KDictCopyH
import KE.SortData
import HandS.TupAny
import HandS.TupMul
import HandS.TupLe
import KE.GoesMore
import KE.KDictDisplayH
import KE.KDictSum
import PyProof.DictUpdate
import PyProof.Rows.TupDisplay
import HandS.More
import HandS.Conv
import HandS.Strs
import HandS.SetFor
import HandS.Finally
import HandS.Iter
import HandS.WideBits
import HandS.IsInst
import HandS.Small
import HandS.Codes
import PyProof.Rows.ChunkEnd
import KE.KStateDown
import HandS.Head0
import HandS.Head1
import HandS.Head2
import HandS.HeadHook4
import HandS.HeadEnd
section

/-! Mi: both machines in plain Lean, and the mathematics (no program, no library). -/
set_option autoImplicit false
set_option maxRecDepth 10000
namespace Mi

/-! ### plans -/
structure En where
  num : Int
  inn : Bool
  tim : Bool
  size : Int
  every : Int
structure Pl where
  maker : Int
  model : Int
  ports : Int
  ends : List En
def GoodEn (e : En) : Prop := (1 ≤ e.num ∧ e.num ≤ 7) ∧
  ((e.tim = false ∧ (e.size = 8 ∨ e.size = 16 ∨ e.size = 32 ∨ e.size = 64) ∧ e.every = 0) ∨
   (e.tim = true ∧ (1 ≤ e.size ∧ e.size ≤ 64) ∧ (e.every = 1 ∨ e.every = 2 ∨ e.every = 4 ∨ e.every = 8 ∨ e.every = 16 ∨ e.every = 32)))
def ltEn (a b : En) : Prop := a.num < b.num ∨ (a.num = b.num ∧ a.inn = true ∧ b.inn = false)
structure GoodPl (p : Pl) : Prop where
  maker : 0 ≤ p.maker ∧ p.maker ≤ 65535
  model : 0 ≤ p.model ∧ p.model ≤ 65535
  ports : 0 ≤ p.ports ∧ p.ports ≤ 4
  few : p.ends.length ≤ 4
  ends : ∀ e ∈ p.ends, GoodEn e
  up : p.ends.Pairwise ltEn
theorem GoodEn.size {e : En} (g : GoodEn e) : 1 ≤ e.size ∧ e.size ≤ 64 := by
  rcases g.2 with ⟨_, h, _⟩ | ⟨_, h, _⟩
  · omega
  · exact h
/-- two neighbours -/
theorem GoodPl.next {p : Pl} (g : GoodPl p) {i : Nat} {a b : En} (ha : p.ends[i]? = some a) (hb : p.ends[i + 1]? = some b) : ltEn a b := by
  obtain ⟨h1, e1⟩ := List.getElem?_eq_some_iff.mp ha
  obtain ⟨h2, e2⟩ := List.getElem?_eq_some_iff.mp hb
  have := List.pairwise_iff_getElem.mp g.up i (i + 1) h1 h2 (Nat.lt_succ_self _)
  rw [e1, e2] at this
  exact this
def keyE (e : En) : Int × Bool := (e.num, e.inn)
def keysL (p : Pl) (lv : Int) : List (Int × Bool) := if lv = 1 then p.ends.map keyE else []
theorem keys_nodup {p : Pl} (g : GoodPl p) : (p.ends.map keyE).Nodup := by
  unfold List.Nodup
  rw [List.pairwise_map]
  refine g.up.imp fun {a b} h e => ?_
  have e1 : a.num = b.num := congrArg Prod.fst e
  have e2 : a.inn = b.inn := congrArg Prod.snd e
  rcases h with h | ⟨_, h1, h2⟩
  · omega
  · rw [h1, h2] at e2; cases e2
theorem keysL_nodup {p : Pl} (g : GoodPl p) (lv : Int) : (keysL p lv).Nodup := by
  unfold keysL
  split
  · exact keys_nodup g
  · exact List.nodup_nil
theorem keysL_len {p : Pl} (g : GoodPl p) (lv : Int) : (keysL p lv).length ≤ 4 := by
  unfold keysL
  split
  · rw [List.length_map]; exact g.few
  · exact Nat.zero_le _
/-- the endpoint of a drawn spot -/
theorem spot_lt {s t : Int} (h : s < t) {a b : En} (ha : a.num = s / 2 + 1) (hb : b.num = t / 2 + 1) (ka : a.inn = decide (s % 2 = 0)) (kb : b.inn = decide (t % 2 = 0)) : ltEn a b := by
  by_cases e : s / 2 = t / 2
  · right
    refine ⟨by omega, ?_, ?_⟩
    · rw [ka]; exact decide_eq_true (by omega)
    · rw [kb]; exact decide_eq_false (by omega)
  · left; omega

/-! ### rows -/
def two (n : Int) : List Int := [n % 256, n / 256]
def deviceRow (p : Pl) : List Int := [18, 1, 16, 1, (if 0 < p.ports then 9 else 0), 0, 0, 8] ++ two p.maker ++ two p.model ++ [0, 1, p.ports, 0, 0, 1]
def b2 (b : Bool) : Int := if b then 1 else 0
def endRow (e : En) : List Int := [7, 5, e.num + 128 * b2 e.inn, 2 + b2 e.tim] ++ two e.size ++ [e.every]
def endsRow (es : List En) : List Int := (es.map endRow).flatten
def restRow (p : Pl) : List Int := [9, 4, 0, 0, (p.ends.length : Int), 255, 0, 0, 0] ++ endsRow p.ends
def settingsRow (p : Pl) : List Int := [9, 2] ++ two (9 + (restRow p).length) ++ [1, 1, 0, 128, 50] ++ restRow p
theorem endRow_len (e : En) : (endRow e).length = 7 := rfl
theorem endsRow_len : ∀ es : List En, (endsRow es).length = 7 * es.length
  | [] => rfl
  | e :: r => by
    show (endRow e ++ endsRow r).length = 7 * (r.length + 1)
    rw [List.length_append, endRow_len, endsRow_len r]
    omega
theorem restRow_len (p : Pl) : (restRow p).length = 9 + 7 * p.ends.length := by
  unfold restRow
  rw [List.length_append, endsRow_len]
  rfl
theorem deviceRow_len (p : Pl) : (deviceRow p).length = 18 := rfl
theorem settingsRow_len (p : Pl) : (settingsRow p).length = 18 + 7 * p.ends.length := by
  unfold settingsRow
  rw [List.length_append, restRow_len]
  show 9 + (9 + 7 * p.ends.length) = _
  omega
theorem endsRow_more {es : List En} {i : Nat} {e : En} (h : es[i]? = some e) : endsRow (es.take (i + 1)) = endsRow (es.take i) ++ endRow e := by
  unfold endsRow
  rw [List.take_add_one, h]
  simp

/-! ### pieces of eight -/
def cutL (xs : List Int) : List (List Int) := (List.range (xs.length / 8 + 1)).map fun k => (xs.drop (8 * k)).take 8
def cutTo (xs : List Int) (n : Nat) : List (List Int) := (List.range n).map fun k => (xs.drop (8 * k)).take 8
theorem cutTo_zero (xs : List Int) : cutTo xs 0 = [] := rfl
theorem cutTo_more (xs : List Int) (n : Nat) : cutTo xs (n + 1) = cutTo xs n ++ [(xs.drop (8 * n)).take 8] := by
  unfold cutTo
  rw [List.range_succ, List.map_append]
  rfl
theorem cutTo_all (xs : List Int) : cutTo xs (xs.length / 8 + 1) = cutL xs := rfl
theorem cutTo_len (xs : List Int) (n : Nat) : (cutTo xs n).length = n := by
  unfold cutTo
  rw [List.length_map, List.length_range]
theorem cutL_two : cutL [0, 0] = [[0, 0]] := by decide
theorem cutL_ne (xs : List Int) : cutL xs ≠ [] := by
  intro h
  have := congrArg List.length h
  unfold cutL at this
  simp at this

/-! ### requests -/
structure Rq where
  w : Nat
  v : Int
def most : Nat → Int
  | 2 => 15
  | 3 => 1
  | 4 => 255
  | 5 => 4
  | 6 => 4
  | 7 => 4
  | _ => 0
def okRq (r : Rq) : Prop := r.w < 8 ∧ 0 ≤ r.v ∧ r.v ≤ most r.w
def reqBytes (r : Rq) : List Int := match r.w with
  | 0 => [128, 6, 0, 1, 0, 0, 18, 0]
  | 1 => [128, 6, 0, 2, 0, 0, 255, 0]
  | 2 => [0, 5, r.v, 0, 0, 0, 0, 0]
  | 3 => [0, 9, r.v, 0, 0, 0, 0, 0]
  | 4 => [2, 1, 0, 0, r.v, 0, 0, 0]
  | 5 => [163, 0, 0, 0, r.v, 0, 2, 0]
  | 6 => [35, 3, 4, 0, r.v, 0, 0, 0]
  | _ => [35, 1, 1, 0, r.v, 0, 0, 0]
theorem reqBytes_len (r : Rq) : (reqBytes r).length = 8 := by
  unfold reqBytes
  split <;> rfl
/-- the row's request, or none -/
def IsReq (row : List Int) : Option Rq → Prop
  | some r => okRq r ∧ reqBytes r = row
  | none => ∀ r, okRq r → reqBytes r ≠ row
theorem w_cases {n : Nat} (h : n < 8) : n = 0 ∨ n = 1 ∨ n = 2 ∨ n = 3 ∨ n = 4 ∨ n = 5 ∨ n = 6 ∨ n = 7 := by omega
theorem reqBytes_inj {r r' : Rq} (h : okRq r) (h' : okRq r') (e : reqBytes r = reqBytes r') : r = r' := by
  obtain ⟨w, v⟩ := r
  obtain ⟨w', v'⟩ := r'
  obtain ⟨h1, h2, h3⟩ := h
  obtain ⟨g1, g2, g3⟩ := h'
  rcases w_cases h1 with rfl | rfl | rfl | rfl | rfl | rfl | rfl | rfl <;> rcases w_cases g1 with rfl | rfl | rfl | rfl | rfl | rfl | rfl | rfl <;>
    simp only [reqBytes, most, List.cons.injEq, Rq.mk.injEq, true_and, and_true, reduceCtorEq, false_and, and_false] at e h2 h3 g2 g3 ⊢ <;> omega
theorem IsReq.one {row : List Int} : ∀ {o o' : Option Rq}, IsReq row o → IsReq row o' → o = o'
  | none, none, _, _ => rfl
  | some r, none, h, h' => absurd h.2 (h' r h.1)
  | none, some r, h, h' => absurd h'.2 (h r h'.1)
  | some r, some r', h, h' => by rw [reqBytes_inj h.1 h'.1 (h.2.trans h'.2.symm)]

/-! ### the machine -/
inductive Sg where
  | idle | stalled | give | status | stated
  deriving DecidableEq
structure Ms where
  sg : Sg
  mark : Int
  pcs : List (List Int)
  rq : Option Rq
  num : Int
  lv : Int
def ms0 : Ms := ⟨.idle, 1, [], none, 0, 0⟩
/-- a request that asks for nothing can be met -/
def Meets (p : Pl) (lv : Int) (r : Rq) : Prop := r.w = 2 ∨ r.w = 3 ∨ (r.w = 4 ∧ (r.v % 128, decide (128 ≤ r.v)) ∈ keysL p lv) ∨ ((r.w = 6 ∨ r.w = 7) ∧ 1 ≤ r.v ∧ r.v ≤ p.ports)
instance (p : Pl) (lv : Int) (r : Rq) : Decidable (Meets p lv r) := by unfold Meets; infer_instance
/-- what a request asks for -/
def rowOf (p : Pl) (r : Rq) : Option (List Int) := if r.w = 0 then some (deviceRow p) else if r.w = 1 then some (settingsRow p) else if r.w = 5 ∧ 1 ≤ r.v ∧ r.v ≤ p.ports then some [0, 0] else none
def asksR (r : Rq) : Prop := r.w = 0 ∨ r.w = 1 ∨ r.w = 5
instance (r : Rq) : Decidable (asksR r) := by unfold asksR; infer_instance
def setupS (p : Pl) (o : Option Rq) (s : Ms) : Ms := match o with
  | none => ⟨.stalled, 1, [], none, s.num, s.lv⟩
  | some r => if asksR r then (match rowOf p r with
      | some row => ⟨.give, 1, cutL row, some r, s.num, s.lv⟩
      | none => ⟨.stalled, 1, [], some r, s.num, s.lv⟩)
    else if Meets p s.lv r then ⟨.status, 1, [], some r, s.num, s.lv⟩ else ⟨.stalled, 1, [], some r, s.num, s.lv⟩
def effS (s : Ms) (r : Rq) : Ms := ⟨s.sg, s.mark, s.pcs, s.rq, if r.w = 2 then r.v else s.num, if r.w = 3 then r.v else s.lv⟩
inductive An where
  | stall | nak | data (m : Int) (xs : List Int)
def inS (s : Ms) : An × Ms := match s.sg with
  | .stalled => (.stall, s)
  | .give => (match s.pcs with
    | x :: _ => (.data s.mark x, s)
    | [] => (.nak, s))
  | .status => (match s.rq with
    | some r => if r.w = 2 then (.data 1 [], s) else (.data 1 [], { effS s r with sg := .stated })
    | none => (.data 1 [], s))
  | .stated => (.data 1 [], s)
  | .idle => (.nak, s)
def wentS (s : Ms) : Ms := match s.sg with
  | .give => (match s.pcs with
    | _ :: t => ⟨.give, 1 - s.mark, t, s.rq, s.num, s.lv⟩
    | [] => s)
  | .status => (match s.rq with
    | some r => { effS s r with sg := .idle }
    | none => s)
  | .stated => { s with sg := .idle }
  | _ => s
def outS (s : Ms) (mark : Int) (data : List Int) : Bool × Ms := if (s.sg = .give ∨ s.sg = .idle) ∧ mark = 1 ∧ data = [] then (true, { s with sg := .idle }) else (false, s)
/-- what holds of every state -/
structure Wf (p : Pl) (s : Ms) : Prop where
  lv : s.lv = 0 ∨ s.lv = 1
  st : s.sg = .status → ∃ r, s.rq = some r ∧ okRq r ∧ ¬ asksR r ∧ Meets p s.lv r
theorem wf0 (p : Pl) : Wf p ms0 := ⟨.inl rfl, fun h => nomatch h⟩
theorem effS_lv {p : Pl} {s : Ms} {r : Rq} (h : Wf p s) (k : okRq r) : (effS s r).lv = 0 ∨ (effS s r).lv = 1 := by
  show (if r.w = 3 then r.v else s.lv) = 0 ∨ (if r.w = 3 then r.v else s.lv) = 1
  by_cases e : r.w = 3
  · rw [if_pos e]
    have h3 := k.2.2
    have h2 := k.2.1
    rw [e] at h3
    have : r.v ≤ 1 := h3
    omega
  · rw [if_neg e]; exact h.lv
theorem wf_setup {p : Pl} {s : Ms} {o : Option Rq} (h : Wf p s) (k : ∀ r, o = some r → okRq r) : Wf p (setupS p o s) := by
  unfold setupS
  split
  · exact ⟨h.lv, fun z => nomatch z⟩
  · rename_i r
    by_cases a : asksR r
    · rw [if_pos a]
      split
      · exact ⟨h.lv, fun z => nomatch z⟩
      · exact ⟨h.lv, fun z => nomatch z⟩
    · rw [if_neg a]
      by_cases m : Meets p s.lv r
      · rw [if_pos m]; exact ⟨h.lv, fun _ => ⟨r, rfl, k r rfl, a, m⟩⟩
      · rw [if_neg m]; exact ⟨h.lv, fun z => nomatch z⟩
theorem wf_in {p : Pl} {s : Ms} (h : Wf p s) : Wf p (inS s).2 := by
  unfold inS
  cases e : s.sg with
  | stalled => exact h
  | idle => exact h
  | stated => exact h
  | give => cases s.pcs <;> exact h
  | status =>
    obtain ⟨r, hr, k, _⟩ := h.st e
    simp only [hr]
    by_cases w : r.w = 2
    · rw [if_pos w]; exact h
    · rw [if_neg w]; exact ⟨effS_lv h k, fun z => nomatch z⟩
theorem wf_went {p : Pl} {s : Ms} (h : Wf p s) : Wf p (wentS s) := by
  unfold wentS
  cases e : s.sg with
  | stalled => exact h
  | idle => exact h
  | stated => exact ⟨h.lv, fun z => nomatch z⟩
  | give =>
    cases s.pcs with
    | nil => exact h
    | cons x t => exact ⟨h.lv, fun z => nomatch z⟩
  | status =>
    obtain ⟨r, hr, k, _⟩ := h.st e
    simp only [hr]
    exact ⟨effS_lv h k, fun z => nomatch z⟩
theorem wf_out {p : Pl} {s : Ms} (h : Wf p s) (m : Int) (d : List Int) : Wf p (outS s m d).2 := by
  unfold outS
  split
  · exact ⟨h.lv, fun z => nomatch z⟩
  · exact h
end Mi
end
section
set_option Elab.async false
set_option linter.all false
set_option maxRecDepth 100000
set_option maxHeartbeats 4000000
/-! T0: the text by places: each def that the law reaches, its names by slots. Printed by gen_t0.py. -/
namespace Plug
open PySem PySem.Spec PyProof.Rows L2
def top (i : Nat) : Stmt := PySem.Challenge.pw_plugtree_k17_whole_endpoint_0.main.body.getD i (.Pass ⟨0, 0, 0, 0⟩)
abbrev s_out_half : Stmt := top 9
abbrev s_in_half : Stmt := top 10
abbrev s_cut : Stmt := top 11
abbrev s_cleared : Stmt := top 15
abbrev s_good_end : Stmt := top 21
abbrev s_need_plan : Stmt := top 22
abbrev s_two : Stmt := top 23
abbrev s_device_row : Stmt := top 24
abbrev s_end_row : Stmt := top 25
abbrev s_settings_row : Stmt := top 26
abbrev s_need_request : Stmt := top 32
abbrev s_request_bytes : Stmt := top 33
abbrev s_read_request : Stmt := top 34
abbrev s_asks : Stmt := top 35
abbrev s_l_bag : Stmt := top 39
abbrev s_l_pull : Stmt := top 40
abbrev s_l_whole : Stmt := top 41
abbrev s_l_same : Stmt := top 42
abbrev s_l_one : Stmt := top 43
abbrev s_l_end : Stmt := top 44
abbrev s_l_ends : Stmt := top 45
abbrev s_l_plan : Stmt := top 46
abbrev s_l_two : Stmt := top 47
abbrev s_l_device : Stmt := top 48
abbrev s_l_settings : Stmt := top 49
abbrev s_l_cut : Stmt := top 50
abbrev s_l_setup : Stmt := top 51
abbrev s_l_key : Stmt := top 52
abbrev s_l_effect : Stmt := top 53
abbrev s_l_in : Stmt := top 54
abbrev s_l_went : Stmt := top 55
abbrev s_l_out : Stmt := top 56
abbrev s_l_forms : Stmt := top 57
abbrev s_l_drawn_row : Stmt := top 58
abbrev s_law : Stmt := top 59
abbrev m_init : Stmt := inClass (top 37) 0
abbrev m_restart : Stmt := inClass (top 37) 1
abbrev m_set_up : Stmt := inClass (top 37) 2
abbrev m_reply : Stmt := inClass (top 37) 3
abbrev m_lets : Stmt := inClass (top 37) 4
abbrev m_end_of : Stmt := inClass (top 37) 5
abbrev m_hear_setup : Stmt := inClass (top 37) 6
abbrev m_effect : Stmt := inClass (top 37) 7
abbrev m_hear_in0 : Stmt := inClass (top 37) 8
abbrev m_went0 : Stmt := inClass (top 37) 9
abbrev m_hear_out0 : Stmt := inClass (top 37) 10
abbrev m_hear_in : Stmt := inClass (top 37) 11
abbrev m_hear_went : Stmt := inClass (top 37) 12
abbrev m_hear_out : Stmt := inClass (top 37) 13
abbrev m_half : Stmt := inClass (top 37) 14
abbrev ns_out_half : List Str := []
theorem cs_out_half : FnScope ns_out_half [] (defScope s_out_half) := ⟨rfl, rfl, rfl, by decide +kernel, rfl, by decide +kernel, by decide +kernel⟩
abbrev ns_in_half : List Str := []
theorem cs_in_half : FnScope ns_in_half [] (defScope s_in_half) := ⟨rfl, rfl, rfl, by decide +kernel, rfl, by decide +kernel, by decide +kernel⟩
abbrev ns_cut : List Str := ["data", "size", "found", "at"]
theorem cs_cut : FnScope ns_cut ["data", "size"] (defScope s_cut) := ⟨rfl, rfl, rfl, by decide +kernel, rfl, by decide +kernel, by decide +kernel⟩
abbrev ns_cleared : List Str := ["half"]
theorem cs_cleared : FnScope ns_cleared ["half"] (defScope s_cleared) := ⟨rfl, rfl, rfl, by decide +kernel, rfl, by decide +kernel, by decide +kernel⟩
abbrev ns_good_end : List Str := ["end", "number", "way", "kind", "size", "every"]
theorem cs_good_end : FnScope ns_good_end ["end"] (defScope s_good_end) := ⟨rfl, rfl, rfl, by decide +kernel, rfl, by decide +kernel, by decide +kernel⟩
abbrev ns_need_plan : List Str := ["plan", "maker", "model", "ports", "ends", "at", "number", "end"]
theorem cs_need_plan : FnScope ns_need_plan ["plan"] (defScope s_need_plan) := ⟨rfl, rfl, rfl, by decide +kernel, rfl, by decide +kernel, by decide +kernel⟩
abbrev ns_two : List Str := ["number"]
theorem cs_two : FnScope ns_two ["number"] (defScope s_two) := ⟨rfl, rfl, rfl, by decide +kernel, rfl, by decide +kernel, by decide +kernel⟩
abbrev ns_device_row : List Str := ["plan", "kind"]
theorem cs_device_row : FnScope ns_device_row ["plan"] (defScope s_device_row) := ⟨rfl, rfl, rfl, by decide +kernel, rfl, by decide +kernel, by decide +kernel⟩
abbrev ns_end_row : List Str := ["end", "number", "way", "kind", "size", "every"]
theorem cs_end_row : FnScope ns_end_row ["end"] (defScope s_end_row) := ⟨rfl, rfl, rfl, by decide +kernel, rfl, by decide +kernel, by decide +kernel⟩
abbrev ns_settings_row : List Str := ["plan", "rest", "end"]
theorem cs_settings_row : FnScope ns_settings_row ["plan"] (defScope s_settings_row) := ⟨rfl, rfl, rfl, by decide +kernel, rfl, by decide +kernel, by decide +kernel⟩
abbrev ns_need_request : List Str := ["request", "word"]
theorem cs_need_request : FnScope ns_need_request ["request"] (defScope s_need_request) := ⟨rfl, rfl, rfl, by decide +kernel, rfl, by decide +kernel, by decide +kernel⟩
abbrev ns_request_bytes : List Str := ["request", "row"]
theorem cs_request_bytes : FnScope ns_request_bytes ["request"] (defScope s_request_bytes) := ⟨rfl, rfl, rfl, by decide +kernel, rfl, by decide +kernel, by decide +kernel⟩
abbrev ns_read_request : List Str := ["row", "word", "request"]
theorem cs_read_request : FnScope ns_read_request ["row"] (defScope s_read_request) := ⟨rfl, rfl, rfl, by decide +kernel, rfl, by decide +kernel, by decide +kernel⟩
abbrev ns_asks : List Str := ["request"]
theorem cs_asks : FnScope ns_asks ["request"] (defScope s_asks) := ⟨rfl, rfl, rfl, by decide +kernel, rfl, by decide +kernel, by decide +kernel⟩
abbrev ns_l_bag : List Str := ["_law_script", "_law_cells", "_law_knot", "_law_cell"]
theorem cs_l_bag : FnScope ns_l_bag ["_law_script"] (defScope s_l_bag) := ⟨rfl, rfl, rfl, by decide +kernel, rfl, by decide +kernel, by decide +kernel⟩
abbrev ns_l_pull : List Str := ["_law_bag_here", "_law_upto", "_law_seed", "_law_fold", "_law_twist", "_law_drawn"]
theorem cs_l_pull : FnScope ns_l_pull ["_law_bag_here", "_law_upto"] (defScope s_l_pull) := ⟨rfl, rfl, rfl, by decide +kernel, rfl, by decide +kernel, by decide +kernel⟩
abbrev ns_l_whole : List Str := ["_law_found"]
theorem cs_l_whole : FnScope ns_l_whole ["_law_found"] (defScope s_l_whole) := ⟨rfl, rfl, rfl, by decide +kernel, rfl, by decide +kernel, by decide +kernel⟩
abbrev ns_l_same : List Str := ["_law_found", "_law_due", "_law_spot"]
theorem cs_l_same : FnScope ns_l_same ["_law_found", "_law_due"] (defScope s_l_same) := ⟨rfl, rfl, rfl, by decide +kernel, rfl, by decide +kernel, by decide +kernel⟩
abbrev ns_l_one : List Str := ["_law_bag_here", "_law_row"]
theorem cs_l_one : FnScope ns_l_one ["_law_bag_here", "_law_row"] (defScope s_l_one) := ⟨rfl, rfl, rfl, by decide +kernel, rfl, by decide +kernel, by decide +kernel⟩
abbrev ns_l_end : List Str := ["_law_bag_here", "_law_spot", "_law_kind", "_law_size_drawn"]
theorem cs_l_end : FnScope ns_l_end ["_law_bag_here", "_law_spot"] (defScope s_l_end) := ⟨rfl, rfl, rfl, by decide +kernel, rfl, by decide +kernel, by decide +kernel⟩
abbrev ns_l_ends : List Str := ["_law_bag_here", "_law_most", "_law_spots", "_law_k", "_law_spot"]
theorem cs_l_ends : FnScope ns_l_ends ["_law_bag_here", "_law_most"] (defScope s_l_ends) := ⟨rfl, rfl, rfl, by decide +kernel, rfl, by decide +kernel, by decide +kernel⟩
abbrev ns_l_plan : List Str := ["_law_bag_here", "_law_most", "_law_hub", "_law_maker", "_law_model", "_law_holes"]
theorem cs_l_plan : FnScope ns_l_plan ["_law_bag_here", "_law_most", "_law_hub"] (defScope s_l_plan) := ⟨rfl, rfl, rfl, by decide +kernel, rfl, by decide +kernel, by decide +kernel⟩
abbrev ns_l_two : List Str := ["_law_number"]
theorem cs_l_two : FnScope ns_l_two ["_law_number"] (defScope s_l_two) := ⟨rfl, rfl, rfl, by decide +kernel, rfl, by decide +kernel, by decide +kernel⟩
abbrev ns_l_device : List Str := ["_law_plan_here", "_law_row"]
theorem cs_l_device : FnScope ns_l_device ["_law_plan_here"] (defScope s_l_device) := ⟨rfl, rfl, rfl, by decide +kernel, rfl, by decide +kernel, by decide +kernel⟩
abbrev ns_l_settings : List Str := ["_law_plan_here", "_law_rest", "_law_number", "_law_way", "_law_kind", "_law_piece_size", "_law_every", "_law_byte"]
theorem cs_l_settings : FnScope ns_l_settings ["_law_plan_here"] (defScope s_l_settings) := ⟨rfl, rfl, rfl, by decide +kernel, rfl, by decide +kernel, by decide +kernel⟩
abbrev ns_l_cut : List Str := ["_law_data", "_law_piece_size", "_law_found", "_law_rest", "_law_k"]
theorem cs_l_cut : FnScope ns_l_cut ["_law_data", "_law_piece_size"] (defScope s_l_cut) := ⟨rfl, rfl, rfl, by decide +kernel, rfl, by decide +kernel, by decide +kernel⟩
abbrev ns_l_setup : List Str := ["_law_m", "_law_row", "_law_word", "_law_plan_here"]
theorem cs_l_setup : FnScope ns_l_setup ["_law_m", "_law_row"] (defScope s_l_setup) := ⟨rfl, rfl, rfl, by decide +kernel, rfl, by decide +kernel, by decide +kernel⟩
abbrev ns_l_key : List Str := ["_law_byte"]
theorem cs_l_key : FnScope ns_l_key ["_law_byte"] (defScope s_l_key) := ⟨rfl, rfl, rfl, by decide +kernel, rfl, by decide +kernel, by decide +kernel⟩
abbrev ns_l_effect : List Str := ["_law_m", "_law_word", "_law_value", "_law_end_here", "_law_half"]
theorem cs_l_effect : FnScope ns_l_effect ["_law_m"] (defScope s_l_effect) := ⟨rfl, rfl, rfl, by decide +kernel, rfl, by decide +kernel, by decide +kernel⟩
abbrev ns_l_in : List Str := ["_law_m"]
theorem cs_l_in : FnScope ns_l_in ["_law_m"] (defScope s_l_in) := ⟨rfl, rfl, rfl, by decide +kernel, rfl, by decide +kernel, by decide +kernel⟩
abbrev ns_l_went : List Str := ["_law_m"]
theorem cs_l_went : FnScope ns_l_went ["_law_m"] (defScope s_l_went) := ⟨rfl, rfl, rfl, by decide +kernel, rfl, by decide +kernel, by decide +kernel⟩
abbrev ns_l_out : List Str := ["_law_m", "_law_mark", "_law_data"]
theorem cs_l_out : FnScope ns_l_out ["_law_m", "_law_mark", "_law_data"] (defScope s_l_out) := ⟨rfl, rfl, rfl, by decide +kernel, rfl, by decide +kernel, by decide +kernel⟩
abbrev ns_l_forms : List Str := ["_law_plan_here", "_law_found", "_law_value"]
theorem cs_l_forms : FnScope ns_l_forms ["_law_plan_here"] (defScope s_l_forms) := ⟨rfl, rfl, rfl, by decide +kernel, rfl, by decide +kernel, by decide +kernel⟩
abbrev ns_l_drawn_row : List Str := ["_law_bag_here", "_law_forms_here", "_law_row", "_law_word"]
theorem cs_l_drawn_row : FnScope ns_l_drawn_row ["_law_bag_here", "_law_forms_here"] (defScope s_l_drawn_row) := ⟨rfl, rfl, rfl, by decide +kernel, rfl, by decide +kernel, by decide +kernel⟩
abbrev ns_law : List Str := ["_law_script", "_law_bag_here", "_law_plan_here", "_law_forms_here", "_law_thing", "_law_m", "_law_gave", "_law_k", "_law_pick", "_law_row", "_law_due", "_law_mark", "_law_data", "_law_key_here"]
theorem cs_law : FnScope ns_law ["_law_script"] (defScope s_law) := ⟨rfl, rfl, rfl, by decide +kernel, rfl, by decide +kernel, by decide +kernel⟩
abbrev nm_init : List Str := ["self", "plan"]
theorem cm_init : FnScope nm_init ["self", "plan"] (defScope m_init) := ⟨rfl, rfl, rfl, by decide +kernel, rfl, by decide +kernel, by decide +kernel⟩
abbrev nm_restart : List Str := ["self"]
theorem cm_restart : FnScope nm_restart ["self"] (defScope m_restart) := ⟨rfl, rfl, rfl, by decide +kernel, rfl, by decide +kernel, by decide +kernel⟩
abbrev nm_set_up : List Str := ["self", "level", "number", "way", "kind", "size", "every"]
theorem cm_set_up : FnScope nm_set_up ["self", "level"] (defScope m_set_up) := ⟨rfl, rfl, rfl, by decide +kernel, rfl, by decide +kernel, by decide +kernel⟩
abbrev nm_reply : List Str := ["self", "request"]
theorem cm_reply : FnScope nm_reply ["self", "request"] (defScope m_reply) := ⟨rfl, rfl, rfl, by decide +kernel, rfl, by decide +kernel, by decide +kernel⟩
abbrev nm_lets : List Str := ["self", "request"]
theorem cm_lets : FnScope nm_lets ["self", "request"] (defScope m_lets) := ⟨rfl, rfl, rfl, by decide +kernel, rfl, by decide +kernel, by decide +kernel⟩
abbrev nm_end_of : List Str := ["self", "byte"]
theorem cm_end_of : FnScope nm_end_of ["self", "byte"] (defScope m_end_of) := ⟨rfl, rfl, rfl, by decide +kernel, rfl, by decide +kernel, by decide +kernel⟩
abbrev nm_hear_setup : List Str := ["self", "data", "row"]
theorem cm_hear_setup : FnScope nm_hear_setup ["self", "data"] (defScope m_hear_setup) := ⟨rfl, rfl, rfl, by decide +kernel, rfl, by decide +kernel, by decide +kernel⟩
abbrev nm_effect : List Str := ["self", "word", "value", "key"]
theorem cm_effect : FnScope nm_effect ["self"] (defScope m_effect) := ⟨rfl, rfl, rfl, by decide +kernel, rfl, by decide +kernel, by decide +kernel⟩
abbrev nm_hear_in0 : List Str := ["self"]
theorem cm_hear_in0 : FnScope nm_hear_in0 ["self"] (defScope m_hear_in0) := ⟨rfl, rfl, rfl, by decide +kernel, rfl, by decide +kernel, by decide +kernel⟩
abbrev nm_went0 : List Str := ["self"]
theorem cm_went0 : FnScope nm_went0 ["self"] (defScope m_went0) := ⟨rfl, rfl, rfl, by decide +kernel, rfl, by decide +kernel, by decide +kernel⟩
abbrev nm_hear_out0 : List Str := ["self", "mark", "data"]
theorem cm_hear_out0 : FnScope nm_hear_out0 ["self", "mark", "data"] (defScope m_hear_out0) := ⟨rfl, rfl, rfl, by decide +kernel, rfl, by decide +kernel, by decide +kernel⟩
abbrev nm_hear_in : List Str := ["self", "endpoint"]
theorem cm_hear_in : FnScope nm_hear_in ["self", "endpoint"] (defScope m_hear_in) := ⟨rfl, rfl, rfl, by decide +kernel, rfl, by decide +kernel, by decide +kernel⟩
abbrev nm_hear_went : List Str := ["self", "endpoint"]
theorem cm_hear_went : FnScope nm_hear_went ["self", "endpoint"] (defScope m_hear_went) := ⟨rfl, rfl, rfl, by decide +kernel, rfl, by decide +kernel, by decide +kernel⟩
abbrev nm_hear_out : List Str := ["self", "endpoint", "mark", "data", "half", "word"]
theorem cm_hear_out : FnScope nm_hear_out ["self", "endpoint", "mark", "data"] (defScope m_hear_out) := ⟨rfl, rfl, rfl, by decide +kernel, rfl, by decide +kernel, by decide +kernel⟩
abbrev nm_half : List Str := ["self", "endpoint", "way"]
theorem cm_half : FnScope nm_half ["self", "endpoint", "way"] (defScope m_half) := ⟨rfl, rfl, rfl, by decide +kernel, rfl, by decide +kernel, by decide +kernel⟩
end Plug
end
section
set_option Elab.async false
set_option linter.all false
set_option maxRecDepth 100000
set_option maxHeartbeats 4000000
/-! Ru1: more rules of the hand layer: e.f as a target within a tuple; enumerate of a tuple; >= of (int, text) pairs; tuple += tuple; tuple * 0, 1. -/
namespace L2
open PySem PySem.Spec PyProof.Rows

/-! ### e.f as a target -/
def gFld (K : PySem.W.Frag) (to : TE) (f : Str) : TG := fun v σ H Q => to σ H fun x H1 => ∃ a C dx fs, x = .ref a ∧ H1 a = some (.ins C dx fs) ∧ Cls K C ∧ NoAttr K C f ∧ fs.length < 1000 ∧ Q σ (upd H1 a (.ins C dx (putF f v fs)))
theorem pg_fld {X : Cx} {o : Expr} {to : TE} {f : Str} {pos : Pos} (ho : PE X o to) : PG X (.Attribute o f pos) (gFld X.K to f) := by
  refine ⟨fun pins s σ H v u Q I r h => ?_⟩
  rw [arm_assign_Attribute]
  refine wpAny_bind (wpAny_holding (thn (ho.run pins s σ H _ I h) fun ov s1 ⟨x, H1, I1, r1, q1⟩ => ?_))
  obtain ⟨a, C, dx, fs, ex, ea, c, n, l, q⟩ := q1
  subst ex
  obtain rfl : ov = Value.ref a := r1
  refine wpAny_bind (wpAny_standAt (wpAny_bind (wpAny_holding (setattr_ok I1 ea c n l r fun s2 I2 => ?_))))
  exact wpAny_release ⟨σ, _, I2, q⟩

/-! ### tuple += tuple -/
theorem no_tuple_iadd : typeLookup (.type "tuple") (dunderI "add") = pure none := by rw [typeLookup_type, builtinLookup_eq_fast]; kernel_rfl
theorem icat_tup {prog : Program} {w : World} {A : Around} {E : Value → Shared → Prop} {s : Shared} {t b : Addr} {vs ws : List Value} {Q : Value → Shared → Prop} (ht : IsTup s.heap t vs.toArray) (hb : IsTup s.heap b ws.toArray) (hv : vs ≠ [])
    (hw : ws ≠ []) (h2 : Q (.ref s.heap.objs.size) { s with heap := s.heap.push { cls := .type "tuple", data := .seq (vs ++ ws).toArray } })
    (hsz : vs.length + ws.length ≤ sizeLine) : wpAny (model prog w) A (inplaceOp .Add (.ref t) (.ref b)) Q E s := by
  obtain ⟨⟨cls, dd, data, sl⟩, ho, hc, n, hd⟩ := id ht
  obtain ⟨⟨cls2, dd2, data2, sl2⟩, ho2, hc2, n2, hd2⟩ := id hb
  simp only at hc hd hc2 hd2
  subst hc hd hc2 hd2
  have e : vs.toArray ++ ws.toArray = (vs ++ ws).toArray := by simp
  refine wpAny_inplaceOp_concat ⟨_, ho, rfl⟩ ⟨_, ho2, rfl⟩ no_tuple_iadd noFill_tuple_add seq_tuple_add (call_meets PySem.F.slot_tuple_add ⟨_, ho, rfl⟩ PySem.F.entry_tuple_add (PySem.F.args_tuple_add_2 _ _)
      (tuple_addW2 t b vs.toArray ws.toArray n n2 dd dd2 sl sl2 (by simpa using hv) (by simpa using hw) (by rw [List.size_toArray, List.size_toArray]; exact hsz)) ⟨ho, ho2, ?_⟩)
  rw [e]
  exact h2
def ipCatT (K : PySem.W.Frag) : TIp := fun x y H Q => ∃ a b xs ys, x = .ref a ∧ y = .ref b ∧ SqT K H a xs ∧ SqT K H b ys ∧ xs ≠ [] ∧ ys ≠ [] ∧ xs.length + ys.length ≤ sizeLine ∧ ∀ p, H p = none → Q (.ref p) (upd H p (.tup (xs ++ ys)))
theorem ip_catT {X : Cx} : PIp X .Add (ipCatT X.K) := by
  intro pins s σ H x y v u Q I rx ry h
  obtain ⟨a, b, xs, ys, rfl, rfl, ha, hb, hx, hy, hz, q⟩ := h
  cases rx
  cases ry
  obtain ⟨its, r1, p1, _⟩ := I.tuple ha
  obtain ⟨its2, r2, p2, _⟩ := I.tuple hb
  refine icat_tup p1 p2 (fun z => hx (r1.nil_iff.mp z)) (fun z => hy (r2.nil_iff.mp z)) ?_ (by rw [← r1.length, ← r2.length]; exact hz)
  refine ⟨.ref s.heap.objs.size, _, I.laid (t' := s.toks) (o := .tup (xs ++ ys)) (fun b ob q => Heap.get?_push_of_some _ q) (Nat.le_refl _) ?_, rfl, q _ (I.hok.fresh (Nat.le_refl _))⟩
  exact ⟨by rw [List.length_append]; exact hz, _, r1.append r2, IsTup.new _ _⟩

/-! ### (i, x) >= (j, y) -/
def geIS (i j : Int) (x y : Str) : Bool := if i = j then (if x = y then true else !decide (x.cps.toList < y.cps.toList)) else decide (j ≤ i)
def rGeIS (K : PySem.W.Frag) : R2 := fun v u H Q => ∃ (a b : Addr) (i j : Int) (x y : Str), v = .ref a ∧ u = .ref b ∧ SqT K H a [.int i, .str x] ∧ SqT K H b [.int j, .str y] ∧ Q (.bl (geIS i j x y)) H
theorem op_geIS {X : Cx} (hu : X.A.units < cLine) : OpR X (compareOp .GtE) (rGeIS X.K) := by
  intro pins s σ H v0 u0 v u Q I rx ry h
  obtain ⟨a, b, i, j, x, y, rfl, rfl, ha, hb, q⟩ := h
  cases rx
  cases ry
  obtain ⟨its, r1, p1, _⟩ := I.tuple ha
  obtain ⟨its2, r2, p2, _⟩ := I.tuple hb
  obtain ⟨u1, u2, rfl, ⟨t1, rfl⟩, ⟨t2, rfl⟩⟩ : ∃ u1 u2, its = [u1, u2] ∧ RelV (.int i) u1 ∧ RelV (.str x) u2 := by
    cases r1 with
    | cons p q => cases q with
      | cons p' q' => cases q'; exact ⟨_, _, rfl, p, p'⟩
  obtain ⟨w1, w2, rfl, ⟨k1, rfl⟩, ⟨k2, rfl⟩⟩ : ∃ u1 u2, its2 = [u1, u2] ∧ RelV (.int j) u1 ∧ RelV (.str y) u2 := by
    cases r2 with
    | cons p q => cases q with
      | cons p' q' => cases q'; exact ⟨_, _, rfl, p, p'⟩
  have R := Ob.RcOp.tuples_ge (A := X.A) (s := s) (e := fun n => if n = 0 then decide (i = j) else decide (x = y)) (r := fun n => if n = 0 then decide (j ≤ i) else !decide (x.cps.toList < y.cps.toList)) p1 p2 hu (fun n h1 h2 => by
    match n, h1, h2 with
    | 0, _, _ =>
      have z : (i == j) = decide (i = j) := by rw [Bool.beq_eq_decide_eq]
      show SeqAt.EqAt X.A.in1 s (.int i t1) (.int j k1) (decide (i = j))
      rw [← z]
      exact SeqAt.EqAt.int_int _ _ _ _
    | 1, _, _ =>
      show SeqAt.EqAt X.A.in1 s (.str x t2) (.str y k2) (decide (x = y))
      exact SeqAt.EqAt.str_str _ _ _ _
    | n + 2, h1, _ => exact absurd h1 (by simp)) (fun n h1 h2 _ => by
    match n, h1, h2 with
    | 0, _, _ => exact Ob.RcOp.ge_int _ _ _ _
    | 1, _, _ =>
      show Ob.RcOp .GtE X.A.in1 s (.str x t2) (.str y k2) (!decide (x.cps.toList < y.cps.toList))
      exact fun _ _ _ _ h => PySem.P.ge_str h
    | n + 2, h1, _ => exact absurd h1 (by simp))
  have z : wpAny (model X.prog X.w) X.A (compareOp .GtE (.ref a) (.ref b)) (EP X pins σ Q) X.xe s := R X.prog X.w X.xe (EP X pins σ Q) ⟨.bl _, H, I, rfl, ?_⟩
  · exact z
  · unfold geIS at q
    show Q (.bl (if decide (i = j) = true then (if decide (x = y) = true then true else !decide (x.cps.toList < y.cps.toList)) else decide (j ≤ i))) H
    simp only [decide_eq_true_eq]
    exact q
end L2
end
section
set_option Elab.async false
set_option linter.all false
set_option maxRecDepth 100000
set_option maxHeartbeats 4000000
/-! Ru2: enumerate of a tuple. -/
namespace L2
open PySem PySem.Spec PyProof.Rows
open AutoSeq1 (wpAny_loadPart')

theorem meets_enumerate_newT (l : Addr) (items : Array Value) (n : Nat) (dct : Option Addr) (sl : Array (Option Value)) :
    Meets (Builtin.«enumerate.__new__» ⟨[.type "enumerate", .ref l], []⟩) (fun _ R s => s.heap.get? l = some { cls := .type "tuple", dict := dct, data := .seq items n, slots := sl } ∧
      R (.ok (.ret (.ref (s.heap.push { cls := .type "tuple_iterator", data := .fields #[.ref l, .int 0 0] }).objs.size)))
        { s with heap := (s.heap.push { cls := .type "tuple_iterator", data := .fields #[.ref l, .int 0 0] }).push { cls := .type "enumerate", data := .fields #[.none, .bool false, .ref s.heap.objs.size, rawInt 0, .none, .none] } }) :=
  .of_wp fun prog w A R s h => by
    obtain ⟨hp, g, d, tk, os⟩ := s; obtain ⟨hl, h⟩ := h
    have hsub := sub_enumerate
    have hL : Heap.IsTuple (Shared.heap ⟨hp, g, d, tk, os⟩) l items := ⟨_, hl, rfl, n, rfl⟩
    wp_walk using wpAny_loadPart' hl
    refine wpAny_stack_any fun st => wpAny_pure ?_
    split
    · rename_i c _ _ _ _ _
      cases (c == Value.type "enumerate")
      · wp_walk using wpAny_loadPart' hl, wpAny_pyIter_tuple hL
        exact ⟨_, rfl, h⟩
      · wp_walk using wpAny_loadPart' hl, wpAny_pyIter_tuple hL
        exact ⟨_, rfl, h⟩
    · wp_walk using wpAny_loadPart' hl, wpAny_pyIter_tuple hL
      exact ⟨_, rfl, h⟩
theorem call_enumerate_tuple {prog : Program} {w : World} {A : Around} {E : Value → Shared → Prop} {s : Shared} {l : Addr} {items : Array Value} {Q : Value → Shared → Prop} (hL : s.heap.IsTuple l items)
    (h : ∀ h', IsEnum h' (s.heap.objs.size + 1) s.heap.objs.size 0 .none → h'.IsTupleIter s.heap.objs.size l 0 → h'.objs.size = s.heap.objs.size + 2 →
      (∀ b o, s.heap.get? b = some o → h'.get? b = some o) → Q (.ref (s.heap.objs.size + 1)) { s with heap := h' }) :
    wpAny (model prog w) A (call (.type "enumerate") [.ref l]) Q E s := by
  obtain ⟨⟨c, dct, dt, sl⟩, hl, hc, n, hd⟩ := hL
  replace hc : c = .type "tuple" := hc
  replace hd : dt = .seq items n := hd
  subst hc hd
  refine callType_new F.called_enumerate (by decide) (F.typeCall_enumerate_1 _) (F.newCall_enumerate_1 _) (fun obj => F.args_object_init_2 obj _) F.entry_enumerate_new
    (meets_enumerate_newT l items n dct sl) ⟨hl, ?_⟩
  have hz : (s.heap.push { cls := .type "tuple_iterator", data := .fields #[.ref l, .int 0 0] }).objs.size = s.heap.objs.size + 1 := Heap.size_push ..
  show _ ∧ _
  rw [hz]
  have he : IsEnum ((s.heap.push { cls := .type "tuple_iterator", data := .fields #[.ref l, .int 0 0] }).push
      { cls := .type "enumerate", data := .fields #[.none, .bool false, .ref s.heap.objs.size, rawInt 0, .none, .none] }) (s.heap.objs.size + 1) s.heap.objs.size 0 .none := by
    have := Heap.get?_push_size (s.heap.push { cls := .type "tuple_iterator", data := .fields #[.ref l, .int 0 0] })
      (o := { cls := .type "enumerate", data := .fields #[.none, .bool false, .ref s.heap.objs.size, rawInt 0, .none, .none] }) rfl
    rw [hz] at this; exact this
  refine ⟨⟨_, he, rfl⟩, h _ he ⟨_, Heap.get?_push_of_some _ (Heap.get?_push_size _ rfl), rfl, rfl⟩ (by rw [Heap.size_push, hz]) fun b o x => Heap.get?_push_of_some _ (Heap.get?_push_of_some _ x)⟩

/-- the tuple at a, each item in a new pair -/
def IteT (K : PySem.W.Frag) (a : Addr) : It :=
  ⟨fun i H => ∃ (xs : List V) (x : V), SqT K H a xs ∧ xs[i]? = some x, fun i H v H' => ∃ T x, v = .ref T ∧ H T = none ∧ H' = upd H T (.tup [.int (i : Nat), x]) ∧ ∀ xs, SqT K H a xs → xs[i]? = some x, fun i H => ∃ xs : List V, SqT K H a xs ∧ xs.length = i⟩
theorem tupIter_ne {h : Heap} {it a b : Addr} {i : Nat} {items : Array Value} (x : h.IsTupleIter it b i) (y : IsTup h a items) : a ≠ it := fun z => by
  obtain ⟨o, ho, hc, _⟩ := x
  obtain ⟨o', ho', hc', _⟩ := y
  rw [z, ho] at ho'
  cases ho'
  rw [hc] at hc'
  exact absurd (Value.type.inj hc') (by decide)
theorem enum_ne {h : Heap} {e it a : Addr} {i : Int} {old : Value} {items : Array Value} (x : IsEnum h e it i old) (y : IsTup h a items) : a ≠ e := fun z => by
  obtain ⟨o', ho', hc', _⟩ := y
  have ho : h.get? e = some _ := x
  rw [z, ho] at ho'
  cases ho'
  exact absurd (Value.type.inj hc') (by decide)
theorem turn_enumT {P : Program} {w : World} {K : PySem.W.Frag} {elts : List Expr} {kk : Nat} {tpos : Pos} (a e it : Addr) :
    Turn P w K (.Tuple elts kk tpos) (IteT K a) [e, it] e (fun i h => (∃ old, IsEnum h e it ((i : Nat) : Int) old) ∧ h.IsTupleIter it a i ∧ e ≠ it) where
  mem := by simp
  obj := fun i h st b hb => by
    obtain ⟨⟨old, he⟩, ⟨o, ho, hc, hd⟩, _⟩ := st
    have e' : b = e ∨ b = it := by simpa using hb
    rcases e' with z | z
    · rw [z]; exact ⟨_, he, fun v q => nomatch q⟩
    · rw [z]; exact ⟨o, ho, fun v q => by rw [hd] at q; cases q⟩
  keep := fun i h h' st k => let ⟨⟨old, he⟩, hi, hne⟩ := st; ⟨⟨old, k e (by simp) _ he⟩, hi.at fun o q => k it (by simp) o q, hne⟩
  item := by
    intro X hP hw hK hc i pins s σ H E I hf st hg
    subst hP hw hK
    obtain ⟨⟨old, he⟩, hit, hne⟩ := st
    obtain ⟨xs, x, hq, hx⟩ := hg
    obtain ⟨its, rv, p, hz⟩ := I.tuple hq
    obtain ⟨u, hu, ru⟩ := rv.get hx
    have hel : e < s.heap.objs.size := Heap.lt_size he
    have hil : it < s.heap.objs.size := by obtain ⟨_, q, _⟩ := hit; exact Heap.lt_size q
    have ha1 := tupIter_ne hit p
    have ha2 := enum_ne he p
    have hi : i < its.toArray.size := by rw [List.size_toArray]; exact (List.getElem?_eq_some_iff.mp hu).1
    refine wpAny_pyNext_enum_itemD (Draws.tuple (A := X.A.in1) (I.ok.hd hc) it a ha1 its.toArray) he ⟨hit, p⟩ hi hne (by simp only [List.mem_cons, List.not_mem_nil, or_false, not_or]; exact ⟨hne, ha2.symm⟩) fun x' h' tk hPx ho hst' hT hsz hk => ?_
    have ex : x' = u := by
      have h2 : its.toArray[i]? = some u := by simpa using hu
      rw [h2] at hPx
      exact (Option.some.inj hPx).symm
    subst ex
    refine ⟨_, rfl, wpAny_letOwnedTupleGo_enum (s := { s with heap := h', toks := tk + 1 }) ho fun h'' he' sb => ?_⟩
    have hT2 : h''.get? s.heap.objs.size = some { cls := .type "tuple", data := .seq #[.int i tk, x'] } := (sb.2 _ (Nat.ne_of_gt hel)).trans hT
    have new : ObjOk X.prog X.w (upd H s.heap.objs.size (.tup [.int (i : Nat), x])) h'' s.heap.objs.size (.tup [.int (i : Nat), x]) :=
      ⟨by show 2 ≤ sizeLine; decide, [.int i tk, x'], .cons ⟨_, rfl⟩ (.cons ru .nil), ⟨_, hT2, rfl, _, rfl⟩⟩
    have I1 : Inv X pins σ (upd H s.heap.objs.size (.tup [.int (i : Nat), x])) { s with heap := h'', toks := tk + 1 } :=
      I.turnedNew (ch := [e, it]) (fun b ob hb q => (sb.2 b (fun z => hb (by simp [z]))).trans (hk b ob (fun z => hb (by simp [z])) (fun z => hb (by simp [z])) q)) hf (Nat.le_refl _) new
    refine ⟨.ref s.heap.objs.size, _, I1, rfl, ⟨_, x, rfl, I.hok.fresh (Nat.le_refl _), rfl, fun ys hy => by rw [I.tuple_inj hy hq]; exact hx⟩, ⟨⟨x', ?_⟩, hst'.1.at fun o q => (sb.2 it (Ne.symm hne)).trans q, hne⟩, fun b hb => ?_⟩
    · have e1 : ((i + 1 : Nat) : Int) = (i : Int) + 1 := by omega
      rw [e1]; exact he'
    · have hb' : b < s.heap.objs.size := by
        have e' : b = e ∨ b = it := by simpa using hb
        rcases e' with z | z
        · rw [z]; exact hel
        · rw [z]; exact hil
      rw [upd_ne (Nat.ne_of_lt hb')]
      exact (hf b hb).1
  done := by
    intro X hP hw hK hc i pins s σ H E I hf st hg
    subst hP hw hK
    obtain ⟨⟨old, he⟩, hit, hne⟩ := st
    obtain ⟨xs, hq, hx⟩ := hg
    obtain ⟨its, rv, p, hz⟩ := I.tuple hq
    obtain ⟨f0, f1, f2, f3, f4, f5⟩ := hf it (by simp)
    have hl := rv.length
    have ha1 := tupIter_ne hit p
    have hi : its.toArray.size = i := by rw [List.size_toArray]; omega
    have D := Draws.tuple (prog := X.prog) (w := X.w) (A := X.A.in1) (I.ok.hd hc) it a ha1 its.toArray
    rw [hi] at D
    exact wpAny_pyNext_enum_endD D he ⟨hit, p⟩ fun h' eb => ⟨rfl, I.turned (t' := s.toks) (fun b o hb q => eb b o hb q) f0 f1 f3 f4 f5⟩
  self := fun A i s Q E st h => let ⟨⟨_, he⟩, _⟩ := st; wpAny_pyIter_enum he h
def iEnumT (K : PySem.W.Frag) (ta : TA) : TI := fun σ H R => ta σ H fun vs H1 => ∃ a xs, vs = [.ref a] ∧ SqT K H1 a xs ∧ R (IteT K a) H1
theorem pi_enumT {X : Cx} {e : Expr} {ta : TA} {p pos tpos : Pos} {elts : List Expr} {kk : Nat} (hg : Gl X "enumerate") (hm : X.mg "enumerate" = none) (ha : PA X [e] ta) (hs : starEach [e] X.env = [(false, eval e X.env)] := by rfl) :
    PI X (.Tuple elts kk tpos) (.Call (.Name "enumerate" p) [e] [] pos) (iEnumT X.K ta) := by
  refine ⟨fun pins s σ H R I h => ?_⟩
  refine Call_ (ld_blt I hg hm boot_enumerate (PyProof.Rows.callWith_type1 (thn (ha.run pos pins s σ H _ I h) fun us s1 ⟨vs, H1, I1, r1, q1⟩ => ?_) hs rfl))
  obtain ⟨a, xs, ex, hq, q⟩ := q1
  subst ex
  cases r1 with
  | cons r rr =>
    cases rr
    cases r
    obtain ⟨its, rv, p', hz⟩ := I1.tuple hq
    refine call_enumerate_tuple (show s1.heap.IsTuple a its.toArray from p') fun h' he hit hsz hk => wpAny_pyIter_enum he ?_
    have I2 : Inv X pins σ H1 { s1 with heap := h' } := I1.kept (t' := s1.toks) hk
    refine ⟨s1.heap.objs.size + 1, [s1.heap.objs.size + 1, s1.heap.objs.size], _, _, H1, rfl, I2, turn_enumT a (s1.heap.objs.size + 1) s1.heap.objs.size, ⟨⟨.none, he⟩, hit, Nat.succ_ne_self _⟩, fun b hb => ?_, q⟩
    have e' : b = s1.heap.objs.size + 1 ∨ b = s1.heap.objs.size := by simpa using hb
    have hle : s1.heap.objs.size ≤ b := by
      rcases e' with z | z
      · rw [z]; exact Nat.le_add_right _ _
      · rw [z]; exact Nat.le_refl _
    exact I1.fpOk hle (I1.hok.fresh hle)
/-- for i, x in enumerate(t), t stands still -/
theorem for_enumT {K : PySem.W.Frag} {a : Addr} {xs : List V} {g : TG} {tb : TS} {D : Ends} {σ : St} {H : Hp} (Pv : Nat → St → Hp → Prop) (h0 : Pv 0 σ H) (hl : ∀ i σ H, i ≤ xs.length → Pv i σ H → SqT K H a xs)
    (hs : ∀ (i : Nat) x (T : Addr) σ H, xs[i]? = some x → Pv i σ H → H T = none → g (.ref T) σ (upd H T (.tup [.int (i : Int), x])) fun σ2 H2 => tb { D with nx := Pv (i + 1), ct := Pv (i + 1), bk := D.nx } σ2 H2) (hd : ∀ σ H, Pv xs.length σ H → D.nx σ H) :
    ∃ W : Nat → Nat → St → Hp → Prop, (∃ m, W 0 m σ H) ∧ ∀ i m σ H, W i m σ H →
      ((IteT K a).stop i H ∧ D.nx σ H) ∨ ((IteT K a).go i H ∧ ∃ N : St → Hp → Prop, (∀ σ' H', N σ' H' → ∃ m', m' < m ∧ W (i + 1) m' σ' H') ∧ ∀ x H', (IteT K a).yld i H x H' → g x σ H' fun σ2 H2 => tb { D with nx := N, ct := N, bk := D.nx } σ2 H2) := by
  refine ⟨fun i m σ H => m = xs.length - i ∧ i ≤ xs.length ∧ Pv i σ H, ⟨xs.length, by simp, Nat.zero_le _, h0⟩, ?_⟩
  rintro i m σ H ⟨rfl, hi, p⟩
  have q := hl i σ H hi p
  by_cases hlt : i < xs.length
  · refine .inr ⟨⟨xs, xs[i], q, by simp [hlt]⟩, Pv (i + 1), fun σ' H' p' => ⟨xs.length - (i + 1), by omega, rfl, hlt, p'⟩, fun x H' y => ?_⟩
    obtain ⟨T, z, rfl, hT, rfl, y⟩ := y
    exact hs i z T σ H (y xs q) p hT
  · have e : i = xs.length := by omega
    subst e
    exact .inl ⟨⟨xs, q, rfl⟩, hd σ H p⟩
end L2
end
section
set_option Elab.async false
set_option linter.all false
set_option maxRecDepth 100000
set_option maxHeartbeats 4000000
/-! Ru3: tuples: slices, sums and products by 0 and 1, told by what they hold alone. -/
namespace L2
open PySem PySem.Spec PyProof.Rows
open AutoSeq1 (wpAny_loadPart')
theorem same_new {H : Hp} {p : Addr} {o : HO} (h : H p = none) : Same H (upd H p o) := fun a u e => by rw [upd_ne (ne_of_none e h)]; exact e
theorem cutV_whole {xs : List V} {lo hi : Option Int} (h : HT.sIx xs.length 0 lo = 0 ∧ HT.sIx xs.length xs.length hi = xs.length) : cutV xs lo hi = xs := by
  unfold cutV
  rw [h.1, h.2, List.drop_zero, Nat.sub_zero, List.take_length]
/-- t[lo:hi] -/
def rSlU : V → Option Int → Option Int → Hp → VK → Prop := fun x lo hi H Q => ∃ a xs, x = .ref a ∧ H a = some (.tup xs) ∧ ∀ b H', Same H H' → H' b = some (.tup (cutV xs lo hi)) → Q (.ref b) H'
theorem sl_tupU {X : Cx} : SlR X rSlU := by
  intro pins s σ H x v vl vu lo hi sl Q I rx hs pl pu h
  obtain ⟨a, xs, rfl, ha, q⟩ := h
  exact sl_tupA pins s σ H _ v vl vu lo hi sl Q I rx hs pl pu ⟨a, xs, rfl, SqT.of ha, fun w => q a H (Same.refl H) (by rw [cutV_whole w]; exact ha), fun _ p hp => q p _ (same_new hp) upd_same⟩
/-- t + u -/
def rCatU : R2 := fun x y H Q => ∃ a b xs ys, x = .ref a ∧ y = .ref b ∧ H a = some (.tup xs) ∧ H b = some (.tup ys) ∧ xs.length + ys.length ≤ sizeLine ∧ ∀ c H', Same H H' → H' c = some (.tup (xs ++ ys)) → Q (.ref c) H'
theorem op_catU {X : Cx} : OpR X (binaryOp .Add) rCatU := by
  intro pins s σ H x y v u Q I rx ry h
  obtain ⟨a, b, xs, ys, rfl, rfl, ha, hb, hz, q⟩ := h
  exact op_catA pins s σ H _ _ v u Q I rx ry ⟨a, b, xs, ys, rfl, rfl, SqT.of ha, SqT.of hb, hz, fun e => q b H (Same.refl H) (by rw [e]; exact hb), fun _ e => q a H (Same.refl H) (by rw [e, List.append_nil]; exact ha), fun _ _ p hp => q p _ (same_new hp) upd_same⟩
/-! ### t * k, k is 0 or 1 -/
theorem tuple_mulS (l : Addr) (items : Array Value) (n : Nat) (dd : Option Addr) (sl : Array (Option Value)) (x : Int) (u : Tok) (c0 : (decide (x < -(2 ^ 63)) || decide (x ≥ 2 ^ 63)) = false) (c1 : (items.isEmpty || x == 1) = true) :
    Meets (Builtin.«tuple.__mul__» ⟨[.ref l, .int x u], []⟩) (fun _ R s => s.heap.get? l = some { cls := .type "tuple", dict := dd, data := .seq items n, slots := sl } ∧ R (.ok (.ret (Value.ref l))) s) :=
  .of_wp fun prog w A R s h => by
    obtain ⟨hp, g, d, tk, os⟩ := s
    obtain ⟨hl, h⟩ := h
    have f1 := AutoSeq1.idx_int
    wp_walk using wpAny_loadPart' hl
    repeat (first
      | (refine wpAny_ite_false (decide_eq_false (by rw [c0]; exact Bool.false_ne_true)) ?_; wp_walk using wpAny_loadPart' hl)
      | (refine wpAny_ite_true (decide_eq_true c1) ?_; wp_walk using wpAny_loadPart' hl))
    exact ⟨_, rfl, h⟩
theorem tuple_mul0 (l : Addr) (items : Array Value) (n : Nat) (dd : Option Addr) (sl : Array (Option Value)) (x : Int) (u : Tok) (c0 : (decide (x < -(2 ^ 63)) || decide (x ≥ 2 ^ 63)) = false) (c1 : (items.isEmpty || x == 1) = false) (c2 : (decide (x ≤ 0) || items.isEmpty) = true) :
    Meets (Builtin.«tuple.__mul__» ⟨[.ref l, .int x u], []⟩) (fun _ R s => s.heap.get? l = some { cls := .type "tuple", dict := dd, data := .seq items n, slots := sl } ∧
      R (.ok (.ret (Value.ref s.heap.objs.size))) { s with heap := s.heap.push { cls := Value.type "tuple", data := Data.seq #[] }, toks := s.toks }) :=
  .of_wp fun prog w A R s h => by
    obtain ⟨hp, g, d, tk, os⟩ := s
    obtain ⟨hl, h⟩ := h
    have f1 := AutoSeq1.idx_int
    wp_walk using wpAny_loadPart' hl
    repeat (first
      | (refine wpAny_ite_false (decide_eq_false (by rw [c0]; exact Bool.false_ne_true)) ?_; wp_walk using wpAny_loadPart' hl)
      | (refine wpAny_ite_false (decide_eq_false (by rw [c1]; exact Bool.false_ne_true)) ?_; wp_walk using wpAny_loadPart' hl)
      | (refine wpAny_ite_true (decide_eq_true c2) ?_; wp_walk using wpAny_loadPart' hl))
    exact ⟨_, rfl, h⟩
def rRep01 : R2 := fun x y H Q => ∃ l k xs, x = .ref l ∧ y = .int k ∧ H l = some (.tup xs) ∧ (k = 0 ∨ k = 1) ∧ ∀ c H', Same H H' → H' c = some (.tup (if k = 1 then xs else [])) → Q (.ref c) H'
theorem op_rep01 {X : Cx} : OpR X (binaryOp .Mult) rRep01 := by
  intro pins s σ H x y v u Q I rx ry h
  obtain ⟨l, k, xs, rfl, rfl, hT, hk, q⟩ := h
  cases rx
  obtain ⟨t, rfl⟩ := ry
  obtain ⟨its, r, ⟨⟨cls, dd, data, sl⟩, ho, hc, n, hd⟩, hs⟩ := I.tuple (SqT.of hT)
  simp only at hc hd
  subst hc hd
  have c0 : (decide (k < -(2 ^ 63)) || decide (k ≥ 2 ^ 63)) = false := by
    rw [decide_eq_false (by omega), decide_eq_false (by omega)] <;> rfl
  refine wpAny_binaryOp_repeat_ref (T := "tuple") (U := "int") (by decide) ⟨_, ho, rfl⟩ (fun s' => typeIs_int s' k t) noFill_tuple_mul F.fills_int_mul F.slot_int_rmul repeat_tuple F.slot_int_index.lookup
    (call_meets F.slot_int_rmul (typeIs_int s k t) F.entry_int_rmul (F.args_int_rmul_2 _ _) (int_rmul_tuple k t l its.toArray n dd sl) ⟨ho, rfl, ⟨_, ho, rfl⟩, ?_⟩)
  cases c1 : (its.toArray.isEmpty || k == 1) with
  | true =>
    refine call_meets F.slot_tuple_mul ⟨_, ho, rfl⟩ F.entry_tuple_mul (F.args_tuple_mul_2 _ _) (tuple_mulS l its.toArray n dd sl k t c0 c1) ⟨ho, ⟨.ref l, H, I, rfl, q l H (Same.refl H) ?_⟩⟩
    rcases hk with rfl | rfl
    · have e : its = [] := by
        cases its with
        | nil => rfl
        | cons a b => simp at c1
      subst e
      cases r
      exact hT
    · exact hT
  | false =>
    have k0 : k = 0 := by
      rcases hk with z | z
      · exact z
      · rw [z] at c1; simp at c1
    subst k0
    refine call_meets F.slot_tuple_mul ⟨_, ho, rfl⟩ F.entry_tuple_mul (F.args_tuple_mul_2 _ _) (tuple_mul0 l its.toArray n dd sl 0 t c0 c1 (by simp)) ⟨ho, ?_⟩
    refine ⟨.ref s.heap.objs.size, _, I.laid (t' := s.toks) (o := .tup []) (fun b ob q => Heap.get?_push_of_some _ q) (Nat.le_refl _) ?_, rfl, q _ _ (same_new (I.hok.fresh (Nat.le_refl _))) upd_same⟩
    exact ⟨Nat.zero_le _, [], .nil, IsTup.new _ _⟩
end L2
end
section
set_option Elab.async false
set_option linter.all false
set_option maxRecDepth 100000
set_option maxHeartbeats 4000000
/-! Ru4: dicts with tuple keys: a display, sorted; d.update(e); set of a list of ints. -/
namespace L2
open PySem PySem.Spec PyProof.Rows
/-! ### {(..): v, ..} -/
def mergeT (kvs more : List (List Key × V)) : List (List Key × V) := more.foldl (fun acc kv => putK acc kv.1 kv.2) kvs
theorem length_mergeT : ∀ (more kvs : List (List Key × V)), (mergeT kvs more).length ≤ kvs.length + more.length
  | [], kvs => by show kvs.length ≤ kvs.length + 0; omega
  | p :: r, kvs => by
    have h1 := length_mergeT r (putK kvs p.1 p.2)
    have h2 := length_putK kvs p.1 p.2
    show (mergeT (putK kvs p.1 p.2) r).length ≤ _
    rw [List.length_cons]; omega
/-- the pairs of a display stand for kvs -/
abbrev PrK (H : Hp) : List (V × V) → List (List Key × V) → Prop := Paired fun p kv => (∃ b, p.1 = .ref b ∧ H b = some (.tup (kv.1.map kV))) ∧ p.2 = kv.2
theorem carriesT_of {P : Program} {w : World} {H : Hp} {h : Heap} (ok : HOk P w H h) : ∀ {ps : List (V × V)} {kvs : List (List Key × V)} {ws : List (Value × Value)}, PrK H ps kvs → VV ps ws → ∃ rs, CarriesH (tupleKind (mixKind P w)) h ws rs ∧ KT H kvs rs
  | _, _, _, .nil, r => by cases r; exact ⟨[], True.intro, .nil⟩
  | _, _, _, .cons (a := p) (b := kv) hp tp, r => by
    cases r with
    | @cons _ q _ qs hq tq =>
      obtain ⟨rs, c, t⟩ := carriesT_of ok tp tq
      obtain ⟨⟨b, e1, hb⟩, e2⟩ := hp
      obtain ⟨q1, q2⟩ := q
      obtain ⟨r1, r2⟩ := hq
      rw [e1] at r1
      rw [e2] at r2
      cases (show q1 = Value.ref b from r1)
      exact ⟨(kv.1, b, q2) :: rs, ⟨rfl, rfl, key_of ok hb, c⟩, .cons ⟨rfl, hb, r2⟩ t⟩
theorem KT.merge {H : Hp} : ∀ {more : List (List Key × V)} {rs : List (List Key × Addr × Value)} {kvs : List (List Key × V)} {xs : List (List Key × Addr × Value)}, KT H more rs → KT H kvs xs → KT H (mergeT kvs more) (storedAllH xs rs)
  | _, _, _, _, .nil, q => q
  | _, _, _, _, .cons (a := p) (b := q) h t, r0 => by
    have e := r0.put p.1 h.2.1 h.2.2
    have e2 := KT.merge t e
    unfold mergeT storedAllH at e2 ⊢
    rw [List.foldl_cons, List.foldl_cons, ← h.1]
    exact e2
def tDispT (trs : List (TE × TE)) : TE := fun σ H Q => ∀ p, H p = none → tPairs trs σ (upd H p (.dT [])) fun ps H2 => H2 p = some (.dT []) ∧ ∃ kvs : List (List Key × V), PrK H2 ps kvs ∧ kvs.length ≤ 15 ∧ Q (.ref p) (upd H2 p (.dT (mergeT [] kvs)))
theorem pe_dispT {X : Cx} {pos : Pos} {keys : List (Option Expr)} {values : List Expr} {trs : List (TE × TE)} (hu : X.A.units + 1 < cLine) (h : PPs X pos keys values trs) (hall : keys.all (·.isSome) = true) (hl : keys.length = values.length) (h0 : keys ≠ [])
    (h15 : keys.length ≤ 15) : PE X (.Dict keys values pos) (tDispT trs) := by
  refine ⟨fun pins s σ H Q I q => ?_⟩
  have hn := I.hok.fresh (Nat.le_refl s.heap.objs.size)
  have I1 := I.laid (a := s.heap.objs.size) (o := .dT []) (h' := s.heap.push { cls := .type "dict", data := .dict #[] }) (t' := s.toks) (fun _ _ q => Heap.get?_push_of_some _ q) (Nat.le_refl _) (dt_empty s.heap I.big)
  have hpl := pairTrees_length keys values X.env pos hall hl
  have hp0 : pairTrees keys values X.env pos ≠ [] := by
    intro he
    rw [he] at hpl
    exact h0 (List.length_eq_zero_iff.mp hpl.symm)
  rw [arm_eval_Dict, zip_pairTrees keys values X.env pos hall hl, dictDisplay_pairs _ hp0 (by omega)]
  refine wpAny_bind (wpAny_standAt (wpAny_bind (wpAny_subDictH (knd := tupleKind (mixKind X.prog X.w)) (show X.A.units < cLine from Nat.lt_of_succ_lt hu) (by rw [hpl]; exact h15) (thn (h.run pins _ σ _ _ I1 (q _ hn)) fun ws s2 ⟨ps, H2, I2, rel, e, kvs, pk, lk, q2⟩ => ?_))))
  obtain ⟨rs, c, rk⟩ := carriesT_of I2.hok pk rel
  obtain ⟨z, hd, xs0, r0, dd⟩ := dt_of I2.hok e
  cases r0
  refine ⟨rs, c, dd, fun h' tk dd' hs => wpAny_pure ⟨.ref s.heap.objs.size, _, ?_, rfl, q2⟩⟩
  have hz : (mergeT [] kvs).length ≤ sizeLine := by
    have h1 := length_mergeT kvs []
    rw [List.length_nil] at h1
    rw [sizeLine_eq]; omega
  have rel2 := KT.merge rk .nil
  obtain ⟨o, es, ep, hq, h2, h3, h4, _, h5⟩ := dd'
  refine d_write I2 (by rw [e]; exact True.intro) hs ⟨o, hq⟩ ⟨hz, hd, _, rel2.keeps fun c ys ec => ?_, o, es, ep, hq, h2, h3, h4, h5⟩
  rw [upd_ne (ne_of ec e (fun z => nomatch z))]
  exact ec

/-! ### d.update(e) -/
def rDUpdate : V → List V → Hp → VK → Prop := fun x vs H Q => ∃ (a b : Addr) (kvs more : List (Key × V)), x = .ref a ∧ vs = [.ref b] ∧ a ≠ b ∧ H a = some (.dK kvs) ∧ H b = some (.dK more) ∧ kvs.length + more.length ≤ sizeLine ∧ Q .non (upd H a (.dK (mergeK kvs more)))
theorem mtd_update {X : Cx} : MtR X "dict.update" rDUpdate := by
  intro pins s σ H x vs v us Q I rx rv h
  obtain ⟨a, b, kvs, more, rfl, rfl, hab, ha, hb, hz, q⟩ := h
  obtain rfl : v = Value.ref a := rx
  obtain ⟨u, rfl, ru⟩ := rv.one
  obtain rfl : u = Value.ref b := ru
  obtain ⟨z1, hd1, vs1, rel1, dd1⟩ := dk_of I.hok ha
  obtain ⟨z2, hd2, vs2, rel2, dd2⟩ := dk_of I.hok hb
  refine call_meetsIn PySem.F.slot_dict_update dd1.typeIs PySem.F.entry_dict_update (PySem.F.args_dict_update_2 _ _) (meets_dict_update (mixKind X.prog X.w) a b hab hd2)
    ⟨vs1, vs2, dd1, dd2, by rw [← rel1.length, ← rel2.length]; exact hz, fun h' dd' _ hs => ⟨.non, _, ?_, rfl, q⟩⟩
  have he : ∃ q, h'.get? a = some q := let ⟨q, _, _, hq, _⟩ := dd'; ⟨q, hq⟩
  exact d_write (t' := s.toks) I (by rw [ha]; exact True.intro) hs he (dk_new (Nat.le_trans (length_mergeK more kvs) hz) hd1 (rel2.merge rel1) dd')

/-! ### sorted(d), tuple keys -/
def kD : Key → PyData
  | .inl i => .int i
  | .inr x => .str x
def AlikeK (k k' : List Key) : Prop := PySem.W.alikeAll (k.map kD) (k'.map kD) = true
theorem depth_kD : ∀ k : List Key, PyData.depthAll (k.map kD) = 0
  | [] => by simp [PyData.depthAll]
  | .inl i :: r => by
    show PyData.depthAll (.int i :: r.map kD) = 0
    rw [PyData.depthAll, depth_kD r]
    simp [PyData.depth]
  | .inr i :: r => by
    show PyData.depthAll (.str i :: r.map kD) = 0
    rw [PyData.depthAll, depth_kD r]
    simp [PyData.depth]
theorem reads_kD {h : Heap} : ∀ {ks : List Key} {us : List Value}, Vals (ks.map kV) us → ReadsAll h us (ks.map kD) []
  | [], _, r => by rw [List.map_nil] at r; cases r; exact .nil
  | .inl i :: ks, _, r => by
    rw [List.map_cons] at r
    cases r with
    | cons h t =>
      obtain ⟨tk, rfl⟩ := (show ∃ t, _ = Value.int i t from h)
      exact .cons (as := []) (.int i tk) (reads_kD t)
  | .inr i :: ks, _, r => by
    rw [List.map_cons] at r
    cases r with
    | cons h t =>
      obtain ⟨tk, rfl⟩ := (show ∃ t, _ = Value.str i t from h)
      exact .cons (as := []) (.str i tk) (reads_kD t)
theorem reads_tup {P : Program} {w : World} {H : Hp} {h : Heap} {b : Addr} {ks : List Key} (ok : HOk P w H h) (e : H b = some (.tup (ks.map kV))) : Reads h (.ref b) (.tuple (ks.map kD)) [] := by
  obtain ⟨_, its, r, o, h1, h2, n, h3⟩ := (show ObjOk P w H h b (.tup (ks.map kV)) from ok b _ e)
  exact .tuple h1 h2 h3 (reads_kD (by simpa using r))
theorem each_map_of {α β : Type} {R : α → β → Prop} {f : β → α} : ∀ {bs : List β}, (∀ b ∈ bs, R (f b) b) → PySem.W.EachIs R (bs.map f) bs
  | [], _ => .nil
  | b :: bs, h => .cons (h b List.mem_cons_self) (each_map_of fun x hx => h x (List.mem_cons_of_mem _ hx))
theorem each_eq {α β : Type} {f : β → α} : ∀ {as : List α} {bs : List β}, PySem.W.EachIs (fun v b => v = f b) as bs → as = bs.map f
  | _, _, .nil => rfl
  | _, _, .cons h t => by rw [List.map_cons, ← each_eq t, h]
theorem kt_mem {H : Hp} : ∀ {kvs : List (List Key × V)} {xs : List (List Key × Addr × Value)}, KT H kvs xs → ∀ x ∈ xs, ∃ p ∈ kvs, p.1 = x.1 ∧ H x.2.1 = some (.tup (p.1.map kV))
  | _, _, .nil, _, h => absurd h (by simp)
  | _, _, .cons h t, x, hx => by
    rcases List.mem_cons.mp hx with rfl | hx
    · exact ⟨_, List.mem_cons_self, h.1, h.2.1⟩
    · obtain ⟨p, hp, e⟩ := kt_mem t x hx
      exact ⟨p, List.mem_cons_of_mem _ hp, e⟩
def rSortedDT : List V → Hp → VK → Prop := fun xs H Q => ∃ (a : Addr) (kvs : List (List Key × V)), xs = [V.ref a] ∧ Rd H a (.dT kvs) ∧ (∀ p ∈ kvs, ∀ q ∈ kvs, AlikeK p.1 q.1) ∧ (∀ p ∈ kvs, p.1 ≠ []) ∧
  ∀ (bs : List Addr) (p : Addr), bs.length = kvs.length → (∀ b ∈ bs, ∃ kv ∈ kvs, H b = some (.tup (kv.1.map kV))) → H p = none → Q (.ref p) (upd H p (.lst (bs.map V.ref)))
theorem cr_sortedDT {X : Cx} (hc : X.calm = true) (hu : X.A.units + 64 < cLine) : CallR X (.builtin "sorted") rSortedDT := by
  intro pins s σ H xs us Q I r q
  obtain ⟨a, kvs, rfl, hd, hal, hne, q⟩ := q
  rw [Vals.ref1 r]
  obtain ⟨z, lo, xs, rel, dd⟩ := dt_rd I.hok hd
  have hxl : kvs.length = xs.length := Paired.length rel
  obtain ⟨o, es, ep, ho, hx, hdat, hes, _, _⟩ := dd
  have hsz : es.size = xs.length := by
    have e := congrArg List.length hes
    rw [List.length_map, Array.length_toList] at e
    exact e
  refine Calls.call_function_entry PyProof.Rows.kind_sorted PyProof.Rows.plain_sorted PyProof.Rows.entry_sorted (PyProof.Rows.args_sorted1 _) ?_
  unfold Builtin.«sorted»
  refine wpAny_bind (m := checkCount "sorted" 1 1 _) (wpAny_pure ?_)
  refine wpAny_bind (PySem.W.kdu_collect (A := X.A.in1) (kdl_raw (prog := X.prog) (w := X.w) lo hx hdat) (I.ok.hd hc) ho (by rw [hsz, ← hxl]; exact z) fun h' tk acc hk hacc => ?_)
  have hacl : acc.toList = xs.map fun x => Value.ref x.2.1 := by
    refine List.ext_getElem? fun j => ?_
    rw [List.getElem?_map]
    by_cases hj : j < xs.length
    · have hj2 : j < acc.size := by rw [hacc.1, hsz]; exact hj
      have e1 : acc.toList[j]? = some acc[j] := by rw [Array.getElem?_toList]; exact Array.getElem?_eq_getElem hj2
      obtain ⟨en, e2, e3⟩ := hacc.2 j _ (Array.getElem?_eq_getElem hj2)
      have e4 : (xs.map (entryOfKey (tupleKind (mixKind X.prog X.w))))[j]? = some en := by rw [← hes, Array.getElem?_toList]; exact e2
      rw [List.getElem?_map, List.getElem?_eq_getElem hj] at e4
      rw [e1, e3, List.getElem?_eq_getElem hj, ← Option.some.inj e4]
      rfl
    · rw [List.getElem?_eq_none (by rw [Array.length_toList, hacc.1, hsz]; omega), List.getElem?_eq_none (Nat.le_of_not_lt hj)]
      rfl
  have I1 : Inv X pins σ H { s with heap := h', toks := tk } := I.kept hk
  have hz : (xs.map fun x => Value.ref x.2.1).length ≤ sizeLine := by rw [List.length_map, ← hxl]; exact z
  rw [hacl]
  refine wpAny_bind (wpAny_newList ?_ (by rw [List.length_map, ← hxl]; rw [sizeLine_eq] at z ⊢; omega))
  have hoL : (h'.push (seqObj "list" (xs.map fun x => Value.ref x.2.1).toArray 0)).get? h'.objs.size = some (seqObj "list" (xs.map fun x => Value.ref x.2.1).toArray 0) := Heap.get?_push_size _ rfl
  show wpAny _ _ _ _ _ { s with heap := h'.push (seqObj "list" (xs.map fun x => Value.ref x.2.1).toArray 0), toks := tk }
  refine wpAny_bind (wpAny_holding (PySem.W.list_sort_data (s := { s with heap := h'.push (seqObj "list" (xs.map fun x => Value.ref x.2.1).toArray 0), toks := tk }) (enc := fun x : List Key × Addr × Value => PyData.tuple (x.1.map kD)) (R := fun v x => v = Value.ref x.2.1) (bs := xs) hoL
    (each_map_of fun _ _ => rfl) (each_map_of fun x hx => ⟨[], ?_, by simp⟩) ?_ (.inl fun d hd => ?_) (by rw [← hxl]; exact z) (fun x hx => ?_) fun out hl ho => ?_))
  · obtain ⟨p, hp, e1, e2⟩ := kt_mem rel x hx
    rw [← e1]
    exact PyProof.Rows.Reads.keeps (fun b o e => Heap.get?_push_of_some _ e) (reads_tup I1.hok e2)
  · intro d hd d' hd'
    obtain ⟨x, hx, rfl⟩ := List.mem_map.mp hd
    obtain ⟨x', hx', rfl⟩ := List.mem_map.mp hd'
    obtain ⟨p, hp, e1, _⟩ := kt_mem rel x hx
    obtain ⟨p', hp', e1', _⟩ := kt_mem rel x' hx'
    have := hal p hp p' hp'
    rw [e1, e1'] at this
    unfold AlikeK at this
    simpa [PySem.W.alike] using this
  · obtain ⟨x, hx, rfl⟩ := List.mem_map.mp hd
    obtain ⟨p, hp, e1, _⟩ := kt_mem rel x hx
    have n := hne p hp
    rw [e1] at n
    cases e : x.1 with
    | nil => exact absurd e n
    | cons y ys => exact ⟨kD y, ys.map kD, rfl⟩
  · have e : (PyData.tuple (x.1.map kD)).depth = 1 + PyData.depthAll (x.1.map kD) := by simp [PyData.depth, Nat.add_comm]
    show X.A.in1.units + 1 + (PyData.tuple (x.1.map kD)).depth < cLine
    rw [e, depth_kD]
    have : X.A.in1.units ≤ X.A.units + 4 := by
      simp [Around.in1, Around.units]
    omega
  · have he := each_eq ho
    obtain ⟨e', he'⟩ := PyProof.Rows.sortedHeap_at (vs := xs.map fun x => Value.ref x.2.1) (out := out.toArray) hoL
    have hbl : ((xs.mergeSort (PySem.W.dataLe false fun x : List Key × Addr × Value => PyData.tuple (x.1.map kD))).map fun x => x.2.1).length = kvs.length := by
      rw [List.length_map, List.length_mergeSort, hxl]
    have hv : out = ((xs.mergeSort (PySem.W.dataLe false fun x : List Key × Addr × Value => PyData.tuple (x.1.map kD))).map fun x => x.2.1).map Value.ref := by rw [he, List.map_map]; rfl
    generalize hbs : ((xs.mergeSort (PySem.W.dataLe false fun x : List Key × Addr × Value => PyData.tuple (x.1.map kD))).map fun x => x.2.1) = bs at hbl hv
    refine wpAny_pure ⟨_, rfl, .ref h'.objs.size, upd H h'.objs.size (.lst (bs.map V.ref)), I1.laid (t' := tk) (fun b u e => ?_) (Nat.le_refl _)
      (show ObjOk X.prog X.w _ _ _ (.lst (bs.map V.ref)) from ⟨by rw [List.length_map, hbl]; exact z, bs.map Value.ref, e', vals_refs bs, by rw [← hv]; exact he'⟩), rfl, q bs _ hbl (fun b hb => ?_) (I1.hok.fresh (Nat.le_refl _))⟩
    · have hb : b < h'.objs.size := Heap.lt_size e
      rw [PyProof.Rows.sortedHeap_old (Nat.ne_of_lt hb) (by rw [size_push']; exact Nat.lt_succ_of_lt hb)]
      exact Heap.get?_push_of_some _ e
    · rw [← hbs] at hb
      obtain ⟨x, hx, rfl⟩ := List.mem_map.mp hb
      obtain ⟨p, hp, _, e2⟩ := kt_mem rel x ((List.mergeSort_perm _ _).mem_iff.mp hx)
      exact ⟨p, hp, e2⟩
end L2
end
section
set_option Elab.async false
set_option linter.all false
set_option maxRecDepth 100000
set_option maxHeartbeats 4000000
/-! Ru5: set(xs), xs a list of ints, as the set that sorted asks for. -/
namespace L2
open PySem PySem.Spec PyProof.Rows
section
variable {P : Program} {w : World} {A : Around} {E : Value → Shared → Prop} {s : Shared}
/-- a set as set() makes it -/
abbrev emptySet (w : World) : Obj := { cls := .type "set", dict := none, data := .set #[] 0 (.fresh 0 0 (!w.params.followText "set-order")) }
theorem item_int {its : Array Value} {ns : List Int} (h : IntsAre its.toList ns) {i : Nat} {v : Value} (e : its[i]? = some v) : ∃ k t, ns[i]? = some k ∧ v = .int k t := by
  rw [← Array.getElem?_toList] at e
  have hl : i < ns.length := by rw [← h.length]; exact (List.getElem?_eq_some_iff.mp e).1
  obtain ⟨t, ev⟩ := PyProof.Rows.IntsAre.int_at h i v e
  rw [List.getD_eq_getElem?_getD, List.getElem?_eq_getElem hl] at ev
  exact ⟨_, t, List.getElem?_eq_getElem hl, ev⟩
/-- the loop that fills the set at S from a list's iterator -/
theorem fill_set {S l : Addr} {its : Array Value} {ns : List Int} {R : Result → Shared → Prop} (hh : A.handled = none) (hS : s.heap.get? S = some (emptySet w)) (hL : s.heap.IsList l its) (ne : l ≠ S) (hi : IntsAre its.toList ns) (few : ns.length < 64)
    (k : ∀ (h' : Heap) (tk c : Nat), SetR w h' S (fun j => decide (j ∈ ns)) c → c ≤ ns.length → (∀ b o, b ≠ S → s.heap.get? b = some o → h'.get? b = some o) → R (.ok (.ret .none)) { s with heap := h', toks := tk }) :
    codeAny (model P w) A (.builtin "set.update.loop" ⟨[.ref S, .ref s.heap.objs.size], []⟩) R { s with heap := s.heap.push { cls := .type "list_iterator", data := .fields #[.ref l, .int 0 0] } } := by
  have big : ∀ {q : Addr} {o : Obj}, s.heap.get? q = some o → q ≠ s.heap.objs.size := fun e => Nat.ne_of_lt (Heap.lt_size e)
  obtain ⟨ol, el, _⟩ := id hL
  have W := (Walks.list (prog := P) (w := w) (A := A.in1) (show A.in1.handled = none from hh) s.heap.objs.size l (big el) its).toS
  have out : S ∉ [s.heap.objs.size, l] := fun m => by
    rcases List.mem_cons.mp m with e | m
    · exact big hS e
    · exact ne (List.mem_singleton.mp m).symm
  have len : its.size = ns.length := by rw [← hi.length, Array.length_toList]
  have zero : SetR w (s.heap.push { cls := .type "list_iterator", data := .fields #[.ref l, .int 0 0] }) S (fun j => decide (j ∈ ns.take 0)) 0 := setR_new_at (Heap.get?_push_of_some _ hS)
  refine set_update_ints W S out ns len (by unfold scanBound; omega) (fun i v e => item_int hi e) its.size 0 _ rfl (Nat.zero_le _) ⟨⟨_, Heap.get?_push_size _ rfl, rfl, rfl⟩, hL.push _⟩ ⟨0, Nat.le_refl 0, zero⟩ fun s' c mv hc hR => ?_
  have same : s' = { s with heap := s'.heap, toks := s'.toks } := by
    cases s'
    have g := mv.gens
    have d := mv.drawn
    have o := mv.os
    simp only at g d o
    subst g d o
    rfl
  rw [same]
  refine k s'.heap s'.toks c hR (by rw [← len]; exact hc) fun b o nb e => mv.heap b o (fun m => ?_) (Heap.get?_push_of_some _ e)
  rcases List.mem_cons.mp m with q | m
  · exact nb q
  · exact big e (List.mem_singleton.mp m)
/-- set.__init__ of such a set, with a list -/
theorem init_set {S l : Addr} {its : Array Value} {ns : List Int} {R : PySem.Fin → Shared → Prop} (hh : A.handled = none) (hS : s.heap.get? S = some (emptySet w)) (hL : s.heap.IsList l its) (ne : l ≠ S) (hi : IntsAre its.toList ns) (few : ns.length < 64)
    (k : ∀ (h' : Heap) (tk c : Nat), SetR w h' S (fun j => decide (j ∈ ns)) c → c ≤ ns.length → (∀ b o, b ≠ S → s.heap.get? b = some o → h'.get? b = some o) → R (.done (.ret .none)) { s with heap := h', toks := tk }) :
    wpAny (model P w) A (Builtin.«set.__init__» ⟨[.ref S, .ref l], []⟩) R E s := by
  obtain ⟨⟨oc, od, dt, sl⟩, el, ec, nl, ed⟩ := id hL
  simp only at ec ed
  subst ec ed
  have tS : s.TypeIs (.ref S) "set" := ⟨_, hS, rfl⟩
  have q1 := F.sub_list_set
  have q2 := F.sub_list_frozenset
  have q3 : (Value.type "list" == Value.type "dict") = false := by decide
  unfold Builtin.«set.__init__» noKeywords Builtin.Frozenset.updateFrom
  generalize hit : pyIter = it
  wp_walk
  subst hit
  refine wpAny_pyIter_list hL (wpAny_bind (wpAny_runValue (codeAny_mono (fill_set (P := P) (R := fun f s₂ => f = .ok (.ret .none) ∧ ∃ h' tk c, s₂ = { s with heap := h', toks := tk } ∧ SetR w h' S (fun j => decide (j ∈ ns)) c ∧ c ≤ ns.length ∧ ∀ b o, b ≠ S → s.heap.get? b = some o → h'.get? b = some o)
    hh hS hL ne hi few fun h' tk c r1 r2 r3 => ⟨rfl, h', tk, c, rfl, r1, r2, r3⟩) fun f s₂ hf => ?_)))
  obtain ⟨rfl, h', tk, c, rfl, r1, r2, r3⟩ := hf
  exact wpAny_pure (wpAny_pure (k h' tk c r1 r2 r3))
/-- set(xs) -/
theorem call_setL {l : Addr} {its : Array Value} {ns : List Int} {Q : Value → Shared → Prop} (hh : A.handled = none) (hL : s.heap.IsList l its) (hi : IntsAre its.toList ns) (few : ns.length < 64)
    (k : ∀ (h' : Heap) (tk c : Nat), SetR w h' s.heap.objs.size (fun j => decide (j ∈ ns)) c → c ≤ ns.length → (∀ b o, s.heap.get? b = some o → h'.get? b = some o) → Q (.ref s.heap.objs.size) { s with heap := h', toks := tk }) :
    wpAny (model P w) A (call (.type "set") [.ref l]) Q E s := by
  obtain ⟨cl, ms, a1⟩ := F.called_set.mro
  have a2 := F.called_set.made
  have a3 := F.called_set.sub
  have a4 := F.called_set.notType
  have a5 := F.called_set.canCreate
  have a6 := F.typeCall_set_1 (.ref l)
  refine wpAny_call (codeAny_of_tree (show wpAny _ _ (callAny (.type "set") _) _ _ _ from wpAny_pure ⟨Code.quiet_builtin _ (by decide +kernel), codeAny_builtin F.entry_type_call ?_⟩))
  rw [Around.under_plain (weight_type_call_type "set" [.ref l] []) rfl]
  repeat (any_goals (first | assumption | wp_step))
  -- set.__new__ gives the empty set
  refine codeAny_mono (code_set_led1 (.ref l) (E := E) (Q₁ := fun v s₂ => v = .ref s.heap.objs.size ∧ s₂ = { s with heap := s.heap.push (emptySet w) }) ⟨rfl, rfl⟩) ?_
  rintro (_ | fl) s₂ g
  · exact g
  cases fl with
  | ret v =>
    obtain ⟨rfl, rfl⟩ := g
    have at0 : (s.heap.push (emptySet w)).get? s.heap.objs.size = some (emptySet w) := Heap.get?_push_size _ rfl
    have b1 : Shared.TypeIs { s with heap := s.heap.push (emptySet w) } (.ref s.heap.objs.size) "set" := ⟨_, at0, rfl⟩
    have b2 := F.called_set.init.lookup
    have b3 := F.called_set.init.bind (.ref s.heap.objs.size)
    obtain ⟨ol, el, _⟩ := id hL
    have apart : l ≠ s.heap.objs.size := Nat.ne_of_lt (Heap.lt_size el)
    repeat (any_goals (first | assumption | wp_step))
    -- set.__init__ fills it
    refine codeAny_mono (codeAny_call_builtin (R := wants (fun v s₂ => v = .none ∧ ∃ h' tk c, s₂ = { s with heap := h', toks := tk } ∧ SetR w h' s.heap.objs.size (fun j => decide (j ∈ ns)) c ∧ c ≤ ns.length ∧ ∀ b o, s.heap.get? b = some o → h'.get? b = some o) E)
      F.called_set.init.plain F.entry_set_init (check_set_init_1 b1 (init_set (P := P) (by simp [hh]) at0 (hL.push _) apart hi few fun h' tk c r1 r2 r3 =>
        ⟨rfl, h', tk, c, rfl, r1, r2, fun b o e => r3 b o (Nat.ne_of_lt (Heap.lt_size e)) (Heap.get?_push_of_some _ e)⟩))) ?_
    rintro (_ | fl) s₂ g
    · exact g
    cases fl with
    | ret v =>
      obtain ⟨rfl, h', tk, c, rfl, r1, r2, r3⟩ := g
      repeat (any_goals (first | assumption | wp_step))
      exact k h' tk c r1 r2 r3
    | _ => exact g.elim
  | _ => exact g.elim
end
def rSetOfL (K : PySem.W.Frag) (w : World) : List V → Hp → VK → Prop := fun xs H Q => ∃ (a : Addr) (ns : List Int), xs = [V.ref a] ∧ SqL K H a (ns.map V.int) ∧ ns.length < 64 ∧
  ∀ (p : Addr) (c : Nat), c ≤ ns.length → H p = none → Q (.ref p) (upd H p (SetO w p (fun j => decide (j ∈ ns)) c))
theorem cr_setOfL {X : Cx} (hc : X.calm = true) : CallR X (.type "set") (rSetOfL X.K X.w) := by
  intro pins s σ H xs us Q I r h
  obtain ⟨l, ns, rfl, hl, hz, q⟩ := h
  rw [Vals.ref1 r]
  obtain ⟨its, rv, pl, _⟩ := I.list hl
  have hn : H s.heap.objs.size = none := I.hok.fresh (Nat.le_refl _)
  refine call_setL (P := X.prog) (w := X.w) (ns := ns) (I.ok.hd hc) pl.isList (by simpa using rv.ints) hz fun h' tk c R hcn kp => ?_
  exact ⟨.ref s.heap.objs.size, upd H s.heap.objs.size (SetO X.w s.heap.objs.size (fun j => decide (j ∈ ns)) c), I.laid (t' := tk) kp (Nat.le_refl _) (setO_new R), rfl, q _ c hcn hn⟩
end L2
end
section
set_option Elab.async false
set_option linter.all false
set_option maxRecDepth 100000
set_option maxHeartbeats 4000000
/-! Ru6: for k in d, d a written dict of the module, its keys texts. -/
namespace L2
open PySem PySem.Spec PyProof.Rows
/-- a written dict's keys, in order -/
structure KKeys (K : PySem.W.Frag) (d : Addr) (ks : List Str) : Prop where
  ex : ∃ es n, K.lookup d = some ⟨.type "dict", none, .dict es n, #[]⟩ ∧ (d == sysModules) = false ∧ es.size = ks.length ∧ ∀ (i : Nat) (z : Str), ks[i]? = some z → ∃ en t, es[i]? = some en ∧ en.key = .str z t
def Itw (ks : List Str) : It := ⟨fun i _ => i < ks.length, fun i H x H' => H' = H ∧ ∃ z, ks[i]? = some z ∧ x = .str z, fun i _ => ks.length ≤ i⟩
theorem turn_keysW {P : Program} {w : World} {K : PySem.W.Frag} {tg : Expr} {d : Addr} {es : Array DictEntry} {n : Nat} {ks : List Str} (it : Addr) (hl : K.lookup d = some ⟨.type "dict", none, .dict es n, #[]⟩) (hsz : es.size = ks.length)
    (he : ∀ (i : Nat) (z : Str), ks[i]? = some z → ∃ en t, es[i]? = some en ∧ en.key = .str z t) : Turn P w K tg (Itw ks) [it] it (fun i h => h.IsKeyIter it d i ks.length n) where
  mem := by simp
  obj := fun i h st b hb => by
    have e : b = it := by simpa using hb
    subst e
    obtain ⟨oi, e, c, dd⟩ := st
    exact ⟨oi, e, fun v z => by rw [dd] at z; cases z⟩
  keep := fun i h h' st k => st.at fun oi e => k it (by simp) oi e
  item := by
    intro X hP hw hK hc i pins s σ H E I hf st hg
    subst hP hw hK
    obtain ⟨f0, f1, f2, f3, f4, f5⟩ := hf it (by simp)
    have hgd := I.kIn _ _ hl
    obtain ⟨en, t, hen, hkey⟩ := he i (ks[i]'hg) (List.getElem?_eq_getElem hg)
    refine next_key_item st hgd rfl hsz hen fun h' st' sb => ?_
    have I1 : Inv X pins σ H { s with heap := h' } := I.turned (t' := s.toks) (fun b ob hb e => (sb.2 b hb).trans e) f0 f1 f3 f4 f5
    obtain ⟨oi, e, c, dd⟩ := id st'
    exact ⟨en.key, rfl, go_of (s := { s with heap := h' }) e c dd (by decide) ⟨.str (ks[i]'hg), H, I1, ⟨t, hkey⟩, ⟨rfl, _, List.getElem?_eq_getElem hg, rfl⟩, st', fun b hb => (hf b hb).1⟩⟩
  done := by
    intro X hP hw hK hc i pins s σ H E I hf st hg
    subst hP hw hK
    obtain ⟨f0, f1, f2, f3, f4, f5⟩ := hf it (by simp)
    have hgd := I.kIn _ _ hl
    exact next_key_end (I.ok.hd hc) st hgd rfl hsz hg fun h' eb => ⟨rfl, I.turned (t' := s.toks) (fun b ob hb e => eb b ob hb e) f0 f1 f3 f4 f5⟩
  self := fun A i s Q E st h => wpAny_pyIter_keyiter st h
def iKeysW (K : PySem.W.Frag) (td : TE) : TI := fun σ H R => td σ H fun x H1 => ∃ d ks, x = .ref d ∧ KKeys K d ks ∧ R (Itw ks) H1
theorem pi_keysW {X : Cx} {tg e : Expr} {td : TE} (he : PE X e td) : PI X tg e (iKeysW X.K td) := by
  refine ⟨fun pins s σ H R I h => ?_⟩
  refine thn (he.run pins s σ H _ I h) fun u s1 ⟨x, H1, I1, rx, d, ks, ex, kk, q⟩ => ?_
  subst ex
  obtain rfl : u = Value.ref d := rx
  obtain ⟨es, n, hl, lo, hsz, hk⟩ := kk.ex
  refine iter_keys lo (I1.kIn _ _ hl) ⟨rfl, rfl, rfl⟩ rfl (pi_one (tk := s1.toks) I1 _ (turn_keysW _ hl hsz hk) ⟨_, Heap.get?_push_size _ rfl, rfl, ?_⟩ q)
  rw [hsz] <;> rfl
theorem for_keysW {ks : List Str} {g : TG} {tb : TS} {D : Ends} {σ : St} {H : Hp} (Pv : Nat → St → Hp → Prop) (h0 : Pv 0 σ H)
    (hs : ∀ i z σ H, ks[i]? = some z → Pv i σ H → g (.str z) σ H fun σ2 H2 => tb { D with nx := Pv (i + 1), ct := Pv (i + 1), bk := D.nx } σ2 H2) (hd : ∀ σ H, Pv ks.length σ H → D.nx σ H) :
    ∃ W : Nat → Nat → St → Hp → Prop, (∃ m, W 0 m σ H) ∧ ∀ i m σ H, W i m σ H →
      ((Itw ks).stop i H ∧ D.nx σ H) ∨ ((Itw ks).go i H ∧ ∃ N : St → Hp → Prop, (∀ σ' H', N σ' H' → ∃ m', m' < m ∧ W (i + 1) m' σ' H') ∧ ∀ x H', (Itw ks).yld i H x H' → g x σ H' fun σ2 H2 => tb { D with nx := N, ct := N, bk := D.nx } σ2 H2) := by
  refine ⟨fun i m σ H => m = ks.length - i ∧ i ≤ ks.length ∧ Pv i σ H, ⟨ks.length, by simp, Nat.zero_le _, h0⟩, ?_⟩
  rintro i m σ H ⟨rfl, hi, p⟩
  by_cases hlt : i < ks.length
  · refine .inr ⟨hlt, Pv (i + 1), fun σ' H' p' => ⟨ks.length - (i + 1), by omega, rfl, hlt, p'⟩, fun x H' y => ?_⟩
    obtain ⟨e, z, hz, rfl⟩ := y
    subst e
    exact hs i z σ _ hz p
  · exact .inl ⟨Nat.le_of_not_lt hlt, hd σ H (by rw [show ks.length = i from by omega]; exact p)⟩
end L2
end
section
set_option Elab.async false
set_option linter.all false
set_option maxRecDepth 100000
set_option maxHeartbeats 4000000
/-! Tx: defs and methods as constants of the module; what the top has written; what the heap holds. -/
namespace Plug
open PySem PySem.Spec PyProof.Rows L2 Mi

/-! ### defs and methods -/
/-- a def of the text under its name; a method of the class at C -/
structure Dfn (K : PySem.W.Frag) (mg : Str → Option Value) (x : Str) (st : Stmt) (ps : List Str) : Prop where
  ex : ∃ f fd, Fun K x x st f fd ∧ mg x = some (.ref f) ∧ Binds K fd ps []
structure Mth (K : PySem.W.Frag) (C : Addr) (m qual : Str) (st : Stmt) (ps : List Str) : Prop where
  ex : ∃ f fd, Fun K m qual st f fd ∧ Meth K C m f ∧ Binds K fd ps []
/-- .. that keep a promise, at a level -/
structure Cl (P : Program) (w : World) (K : PySem.W.Frag) (mg : Str → Option Value) (base : Heap) (k : Nat) (x : Str) (sp : Sp) : Prop where
  ex : ∃ f fd ps, FnOk P w K mg base CX0 k f fd ps sp ∧ mg x = some (.ref f) ∧ PySem.W.keepIn K (.ref f) = true ∧ Binds K fd ps []
structure Mt (P : Program) (w : World) (K : PySem.W.Frag) (mg : Str → Option Value) (base : Heap) (k : Nat) (C : Addr) (m : Str) (sp : Sp) : Prop where
  ex : ∃ f fd ps, FnOk P w K mg base CX0 k f fd ps sp ∧ Meth K C m f ∧ Binds K fd ps []
section
variable {P : Program} {w : World} {K : PySem.W.Frag} {mg : Str → Option Value} {base : Heap}
theorem cl_of {x : Str} {st : Stmt} {N ps : List Str} {k : Nat} {sp : Sp} (D : Dfn K mg x st ps) (S : FnScope N ps (defScope st)) (len : ∀ vs H Q E, sp vs H Q E → vs.length = ps.length)
    (hbody : ∀ (f : Addr) (cdv : Value) (A : Around) (outer : List Env) (s : Shared) (H : Hp) (vs : List V) (Q : VK) (E : XK), Room k (A.deeper (envOfC x (defScope st) s.heap.objs.size f cdv)) → sp vs H Q E →
      ∃ t, PSs (cxOf CX0 P w K mg base N x (defScope st) f cdv A outer s H E).nox (defBody st) t ∧ t { nx := fun _ H' => Q .non H', rt := Q } (start N vs) H) : Cl P w K mg base (k + 1) x sp := by
  obtain ⟨f, fd, F, hm, hb⟩ := D.ex
  exact ⟨f, fd, ps, F.ok S len (hbody f), hm, F.kp, hb⟩
theorem mt_of {m qual : Str} {C : Addr} {st : Stmt} {N ps : List Str} {k : Nat} {sp : Sp} (D : Mth K C m qual st ps) (S : FnScope N ps (defScope st)) (len : ∀ vs H Q E, sp vs H Q E → vs.length = ps.length)
    (hbody : ∀ (f : Addr) (cdv : Value) (A : Around) (outer : List Env) (s : Shared) (H : Hp) (vs : List V) (Q : VK) (E : XK), Room k (A.deeper (envOfC qual (defScope st) s.heap.objs.size f cdv)) → sp vs H Q E →
      ∃ t, PSs (cxOf CX0 P w K mg base N qual (defScope st) f cdv A outer s H E).nox (defBody st) t ∧ t { nx := fun _ H' => Q .non H', rt := Q } (start N vs) H) : Mt P w K mg base (k + 1) C m sp := by
  obtain ⟨f, fd, F, hm, hb⟩ := D.ex
  exact ⟨f, fd, ps, F.ok S len (hbody f), hm, hb⟩
theorem Cl.mono {x : Str} {sp : Sp} {j k : Nat} (c : Cl P w K mg base j x sp) (h : j ≤ k) : Cl P w K mg base k x sp := by
  obtain ⟨f, fd, ps, F, a, b, d⟩ := c.ex
  exact ⟨f, fd, ps, F.mono h, a, b, d⟩
theorem Cl.imp {x : Str} {sp sp' : Sp} {k : Nat} (c : Cl P w K mg base k x sp) (h : ∀ vs H Q E, sp' vs H Q E → sp vs H Q E) : Cl P w K mg base k x sp' := by
  obtain ⟨f, fd, ps, F, a, b, d⟩ := c.ex
  exact ⟨f, fd, ps, F.imp h, a, b, d⟩
end
section
variable {X : Cx} {k j : Nat} {C : Addr} {x m : Str} {sp : Sp} {p pos apos : Pos} {e o : Expr} {es : List Expr} {ta : TE} {t : TA}
theorem pe_cl (c : Cl X.prog X.w X.K X.mg X.base k x sp) (hr : Room j X.A) (hk : k ≤ j) (hg : Gl X x) (ha : PA X (e :: es) t)
    (hdb : (x == ("__debug__" : Str)) = false := by decide) (he : starEach (e :: es) X.env = (false, eval e X.env) :: starEach es X.env := by rfl) (hpl : (backTo pos (starEach es X.env)).any (·.1) = false := by rfl) :
    PE X (.Call (.Name x p) (e :: es) [] pos) (tCall sp [] E0 t) := by
  obtain ⟨f, fd, ps, F, hm, kp, b⟩ := c.ex
  exact pe_call F (hr.mono hk) hg hm kp b .nil pass0 ha hdb he hpl
theorem pe_cl0 (c : Cl X.prog X.w X.K X.mg X.base k x sp) (hr : Room j X.A) (hk : k ≤ j) (hg : Gl X x)
    (hdb : (x == ("__debug__" : Str)) = false := by decide) : PE X (.Call (.Name x p) [] [] pos) (tCall sp [] E0 tNil) := by
  obtain ⟨f, fd, ps, F, hm, kp, b⟩ := c.ex
  exact pe_call0 F (hr.mono hk) hg hm kp b .nil pass0 hdb
theorem pe_mt {pl : Sem Bool} (c : Mt X.prog X.w X.K X.mg X.base k C m sp) (hc : Cls X.K C) (hr : Room j X.A) (hk : k ≤ j) (he : PE X o ta) (ha : PA X (e :: es) t)
    (hst : starEach (e :: es) X.env = (false, eval e X.env) :: starEach es X.env := by rfl) (hpl : (backTo pos (starEach es X.env)).any (·.1) = false := by rfl)
    (ht : eval (.Call (.Attribute o m apos) (e :: es) [] pos) X.env = (do
      let ov ← eval o X.env
      standAt apos.atName
      let (f, first) ← holding [ov] (getMethod ov m pl)
      callWith pos f first (backTo pos (starEach (e :: es) X.env)) (backToKw pos (keywordEach [] X.env))) := by rfl) :
    PE X (.Call (.Attribute o m apos) (e :: es) [] pos) (tMeth C m sp [] E0 ta t) := by
  obtain ⟨f, fd, ps, F, hm, b⟩ := c.ex
  exact pe_meth (pl := pl) he hc hm F (hr.mono hk) b .nil pass0 ha hst hpl ht
theorem pe_mt0 {pl : Sem Bool} (c : Mt X.prog X.w X.K X.mg X.base k C m sp) (hc : Cls X.K C) (hr : Room j X.A) (hk : k ≤ j) (he : PE X o ta)
    (ht : eval (.Call (.Attribute o m apos) [] [] pos) X.env = (do
      let ov ← eval o X.env
      standAt apos.atName
      let (f, first) ← holding [ov] (getMethod ov m pl)
      callWith pos f first (backTo pos (starEach [] X.env)) (backToKw pos (keywordEach [] X.env))) := by rfl) :
    PE X (.Call (.Attribute o m apos) [] [] pos) (tMeth C m sp [] E0 ta tNil) := by
  obtain ⟨f, fd, ps, F, hm, b⟩ := c.ex
  exact pe_meth0 (pl := pl) he hc hm F (hr.mono hk) b .nil pass0 ht
end

/-! ### tests whose answer is known -/
theorem bT {b : Bool} {A B : Prop} (hb : b = true) (h : A) : if b = true then A else B := by rw [if_pos hb]; exact h
theorem bF {b : Bool} {A B : Prop} (hb : b = false) (h : B) : if b = true then A else B := by rw [hb, if_neg Bool.false_ne_true]; exact h
theorem nd_eq {a b : V} (h : a = b) : (!decide (a = b)) = false := by rw [decide_eq_true h]; rfl
theorem nd_ne {a b : V} (h : a ≠ b) : (!decide (a = b)) = true := by rw [decide_eq_false h]; rfl

/-! ### what the top has written -/
def wordS : Nat → Str
  | 0 => "device"
  | 1 => "settings"
  | 2 => "number"
  | 3 => "set"
  | 4 => "clear"
  | 5 => "port"
  | 6 => "reset"
  | _ => "shut"
def placeN : Nat → Int
  | 2 => 2
  | 3 => 2
  | _ => 4
def wordsL : List Str := ["device", "settings", "number", "set", "clear", "port", "reset", "shut"]
def placed : Nat → Bool
  | 0 => false
  | 1 => false
  | _ => true
/-- a request's row with 0 at its place -/
def formRow (i : Nat) : List Int := reqBytes ⟨i, 0⟩
structure Bad (K : PySem.W.Frag) (mg : Str → Option Value) (Cb : Addr) : Prop where
  gP : mg "BadRequest" = some (.ref Cb)
  xP : PySem.W.excIn K Cb [.type "ValueError", .type "Exception", .type "BaseException", .type "object"] "ValueError.__new__" = true
  kP : PySem.W.keepIn K (.ref Cb) = true
  bP : PySem.W.subIn K (.ref Cb) (.type "BaseException") = some true
  tP : PySem.W.typeIn K (.ref Cb) = some (.type "type")
  eP : PySem.W.exmOne K (.ref Cb) (.ref Cb) = some true
/-- the three tables -/
structure Tabs (K : PySem.W.Frag) (w : World) (mg : Str → Option Value) (fo pl mo : Addr) : Prop where
  gF : mg "FORMS" = some (.ref fo)
  gP : mg "PLACES" = some (.ref pl)
  gM : mg "MOST" = some (.ref mo)
  dF : ∃ es n, KDict K w fo es n
  dP : ∃ es n, KDict K w pl es n
  dM : ∃ es n, KDict K w mo es n
  kF : KKeys K fo wordsL
  vF : ∀ i < 8, ∃ b, PySem.W.nsIn K fo (wordS i) = some (some (.ref b)) ∧ ∀ H, SqT K H b ((formRow i).map V.int)
  vP : ∀ i < 8, ∃ r, PySem.W.nsIn K pl (wordS i) = some r ∧ r.isSome = placed i ∧ ∀ u, r = some u → ∃ t, u = .int (placeN i) t
  vM : ∀ i < 8, placed i = true → ∃ t, PySem.W.nsIn K mo (wordS i) = some (some (.int (most i) t))
structure Txt (K : PySem.W.Frag) (w : World) (mg : Str → Option Value) (C : Addr) : Prop where
  cl : Cls K C
  nForm : NoAttr K C "form"
  nHub : NoAttr K C "hub_ports"
  nNum : NoAttr K C "number"
  nLev : NoAttr K C "level"
  nHal : NoAttr K C "halves"
  nStg : NoAttr K C "stage"
  nReq : NoAttr K C "request"
  nMrk : NoAttr K C "mark"
  nPcs : NoAttr K C "pieces"
  nWsh : NoAttr K C "wishes"
  len : mg "len" = none
  int : mg "int" = none
  tuple : mg "tuple" = none
  list : mg "list" = none
  range : mg "range" = none
  enumerate : mg "enumerate" = none
  isinstance : mg "isinstance" = none
  bool : mg "bool" = none
  str : mg "str" = none
  sorted : mg "sorted" = none
  set : mg "set" = none
  all : mg "all" = none
  any : mg "any" = none
  size0 : ∃ t, mg "SIZE0" = some (.int 8 t)
  mostE : ∃ t, mg "MOST_ENDS" = some (.int 8 t)
  mostP : ∃ t, mg "MOST_PORTS" = some (.int 4 t)
  sizes : ∃ a, mg "SIZES" = some (.ref a) ∧ ∀ H, SqT K H a [.int 8, .int 16, .int 32, .int 64]
  periods : ∃ a, mg "PERIODS" = some (.ref a) ∧ ∀ H, SqT K H a [.int 1, .int 2, .int 4, .int 8, .int 16, .int 32]
  asking : ∃ a, mg "ASKING" = some (.ref a) ∧ ∀ H, SqT K H a [.str "device", .str "settings", .str "port"]
  tabs : ∃ fo pl mo, Tabs K w mg fo pl mo
  bad : ∃ Cb, Bad K mg Cb

/-! ### what the heap holds -/
/-- all that was tracked is as it was, but at l -/
def Ke (l : List Addr) (H H' : Hp) : Prop := ∀ b o, H b = some o → b ∉ l → H' b = some o
theorem Ke.refl (l : List Addr) (H : Hp) : Ke l H H := fun _ _ h _ => h
theorem Ke.trans {l : List Addr} {H H1 H2 : Hp} (a : Ke l H H1) (b : Ke l H1 H2) : Ke l H H2 := fun c o h n => b c o (a c o h n) n
theorem Ke.mono {l l' : List Addr} {H H' : Hp} (a : Ke l H H') (h : ∀ b ∈ l, b ∈ l') : Ke l' H H' := fun c o e n => a c o e fun z => n (h c z)
theorem Ke.of {H H' : Hp} (s : Same H H') (l : List Addr) : Ke l H H' := fun b o h _ => s b o h
theorem Ke.same {H H' : Hp} (k : Ke [] H H') : Same H H' := fun b o h => k b o h (by simp)
theorem Ke.new {l : List Addr} {H : Hp} {p : Addr} {o : HO} (h : H p = none) : Ke l H (upd H p o) := fun a u e _ => by rw [upd_ne (ne_of_none e h)]; exact e
theorem Ke.put {l : List Addr} {H : Hp} {p : Addr} {o : HO} (h : p ∈ l) : Ke l H (upd H p o) := fun a u e n => by rw [upd_ne fun z => n (by rw [z]; exact h)]; exact e
/-- fresh behind, fresh before -/
theorem Ke.fresh {l : List Addr} {H H' : Hp} (k : Ke l H H') {p : Addr} (h : H' p = none) (n : p ∉ l) : H p = none := by
  cases q : H p with
  | none => rfl
  | some o => rw [k p o q n] at h; cases h
theorem Same.new {H : Hp} {p : Addr} {o : HO} (h : H p = none) : Same H (upd H p o) := fun a u e => by rw [upd_ne (ne_of_none e h)]; exact e
theorem Same.tup {K : PySem.W.Frag} {H H' : Hp} {a : Addr} {xs : List V} (e : Same H H') (h : SqT K H a xs) : SqT K H' a xs := by
  rcases h with (h | ⟨o, h⟩) | h
  · exact .inl (.inl (e _ _ h))
  · exact .inl (.inr ⟨o, e _ _ h⟩)
  · exact .inr h
/-- a tuple of ints -/
def TupI (H : Hp) (v : V) (xs : List Int) : Prop := ∃ a, v = .ref a ∧ H a = some (.tup (xs.map V.int))
def wayS (b : Bool) : Str := if b then "in" else "out"
def kindS (b : Bool) : Str := if b then "timed" else "bulk"
def enV (e : En) : List V := [.int e.num, .str (wayS e.inn), .str (kindS e.tim), .int e.size, .int e.every]
def EndAt (H : Hp) (b : V) (e : En) : Prop := ∃ a, b = .ref a ∧ H a = some (.tup (enV e))
/-- a plan: its tuple, the ends' tuple, the ends -/
structure PlanAt (H : Hp) (a : Addr) (p : Pl) : Prop where
  ex : ∃ e vs, H a = some (.tup [.int p.maker, .int p.model, .int p.ports, .ref e]) ∧ H e = some (.tup vs) ∧ Paired (EndAt H) vs p.ends
def rqV (r : Rq) : List V := if r.w < 2 then [.str (wordS r.w)] else [.str (wordS r.w), .int r.v]
def ReqAt (H : Hp) (v : V) (r : Rq) : Prop := ∃ a, v = .ref a ∧ H a = some (.tup (rqV r))
/-- what keeps the tuples -/
def KT0 (H H' : Hp) : Prop := ∀ b xs, H b = some (.tup xs) → H' b = some (.tup xs)
theorem Same.kt {H H' : Hp} (s : Same H H') : KT0 H H' := fun b xs h => s b _ h
theorem TupI.kt {H H' : Hp} {v : V} {xs : List Int} (k : KT0 H H') (h : TupI H v xs) : TupI H' v xs := let ⟨a, e, q⟩ := h; ⟨a, e, k _ _ q⟩
theorem EndAt.kt {H H' : Hp} {v : V} {e : En} (k : KT0 H H') (h : EndAt H v e) : EndAt H' v e := let ⟨a, z, q⟩ := h; ⟨a, z, k _ _ q⟩
theorem ReqAt.kt {H H' : Hp} {v : V} {r : Rq} (k : KT0 H H') (h : ReqAt H v r) : ReqAt H' v r := let ⟨a, z, q⟩ := h; ⟨a, z, k _ _ q⟩
theorem PlanAt.kt {H H' : Hp} {a : Addr} {p : Pl} (k : KT0 H H') (h : PlanAt H a p) : PlanAt H' a p := by
  obtain ⟨e, vs, h1, h2, h3⟩ := h.ex
  exact ⟨e, vs, k _ _ h1, k _ _ h2, Paired.mapP h3 fun _ _ z => z.kt k⟩
theorem Ke.kt {l : List Addr} {H H' : Hp} (k : Ke l H H') (h : ∀ b ∈ l, ∀ xs, H b ≠ some (.tup xs)) : KT0 H H' := fun b xs e => k b _ e fun z => h b z xs e
theorem pat {α β : Type} {F : α → β → Prop} : ∀ {l₁ : List α} {l₂ : List β} {i : Nat} {x : α}, Paired F l₁ l₂ → l₁[i]? = some x → ∃ y, l₂[i]? = some y ∧ F x y
  | _, _, _, _, .nil, e => by simp at e
  | _, _, 0, _, .cons r _, e => by simp at e; subst e; exact ⟨_, rfl, r⟩
  | _, _, i + 1, _, .cons _ t, e => by
    obtain ⟨u, h1, h2⟩ := pat (i := i) t (by simpa using e)
    exact ⟨u, by simpa using h1, h2⟩
theorem pat' {α β : Type} {F : α → β → Prop} : ∀ {l₁ : List α} {l₂ : List β} {i : Nat} {y : β}, Paired F l₁ l₂ → l₂[i]? = some y → ∃ x, l₁[i]? = some x ∧ F x y
  | _, _, _, _, .nil, e => by simp at e
  | _, _, 0, _, .cons r _, e => by simp at e; subst e; exact ⟨_, rfl, r⟩
  | _, _, i + 1, _, .cons _ t, e => by
    obtain ⟨u, h1, h2⟩ := pat' (i := i) t (by simpa using e)
    exact ⟨u, by simpa using h1, h2⟩
end Plug
end
section
set_option Elab.async false
set_option linter.all false
set_option maxRecDepth 100000
set_option maxHeartbeats 4000000
namespace Plug
open PySem PySem.Spec PyProof.Rows L2 Mi
section
variable {P : Program} {w : World} {K : PySem.W.Frag} {mg : Str → Option Value} {base : Heap} {C : Addr}
/-! ### two(number) -/
def spTwo : Sp := fun vs H Q _ => ∃ n : Int, vs = [.int n] ∧ ∀ p H', Same H H' → H' p = some (.tup ((two n).map V.int)) → Q (.ref p) H'
theorem ok_two (D : Dfn K mg "two" s_two ["number"]) : Cl P w K mg base 1 "two" spTwo := by
  refine cl_of D cs_two (fun vs H Q E h => ?_) (fun f cdv A outer s H vs Q E hr h => ?_)
  · obtain ⟨n, rfl, _⟩ := h
    rfl
  · obtain ⟨n, rfl, k⟩ := h
    refine ⟨_, pss_one (ps_ret (pe_tup (pa_cons (pe_op op_andM (pv 0) pe_int) (pa_cons (pe_op op_shrN (pv 0) pe_int) pa_nil)))), ?_⟩
    refine ⟨_, rfl, n, 8, rfl, rfl, _, rfl, n, 8, rfl, rfl, (by show 2 ≤ sizeLine; decide), fun p hp => ?_⟩
    exact k p _ (Same.new hp) upd_same
/-! ### in_half(), out_half() -/
def spInH : Sp := fun vs H Q _ => vs = [] ∧ ∀ p t H', Same H H' → H' t = some (.tup []) → H' p = some (.tup [.int 0, .bl false, .ref t]) → Q (.ref p) H'
def spOutH : Sp := fun vs H Q _ => vs = [] ∧ ∀ p t H', Same H H' → H' t = some (.tup []) → H' p = some (.tup [.int 0, .bl false, .int 0, .ref t]) → Q (.ref p) H'
theorem ok_in_half (D : Dfn K mg "in_half" s_in_half []) : Cl P w K mg base 1 "in_half" spInH := by
  refine cl_of D cs_in_half (fun vs H Q E h => ?_) (fun f cdv A outer s H vs Q E hr h => ?_)
  · obtain ⟨rfl, _⟩ := h
    rfl
  · obtain ⟨rfl, k⟩ := h
    refine ⟨_, pss_one (ps_ret (pe_tup (pa_cons pe_int (pa_cons pe_bl (pa_cons (pe_tup pa_nil) pa_nil))))), ?_⟩
    refine ⟨(by show 0 ≤ sizeLine; decide), fun t ht => ⟨(by show 3 ≤ sizeLine; decide), fun p hp => ?_⟩⟩
    have npt : t ≠ p := ne_of_none upd_same hp
    exact k p t _ (fun b o e => by rw [upd_ne (ne_of_none (Same.new ht b o e) hp)]; exact Same.new ht b o e) (by rw [upd_ne npt]; exact upd_same) upd_same
theorem ok_out_half (D : Dfn K mg "out_half" s_out_half []) : Cl P w K mg base 1 "out_half" spOutH := by
  refine cl_of D cs_out_half (fun vs H Q E h => ?_) (fun f cdv A outer s H vs Q E hr h => ?_)
  · obtain ⟨rfl, _⟩ := h
    rfl
  · obtain ⟨rfl, k⟩ := h
    refine ⟨_, pss_one (ps_ret (pe_tup (pa_cons pe_int (pa_cons pe_bl (pa_cons pe_int (pa_cons (pe_tup pa_nil) pa_nil)))))), ?_⟩
    refine ⟨(by show 0 ≤ sizeLine; decide), fun t ht => ⟨(by show 4 ≤ sizeLine; decide), fun p hp => ?_⟩⟩
    have npt : t ≠ p := ne_of_none upd_same hp
    exact k p t _ (fun b o e => by rw [upd_ne (ne_of_none (Same.new ht b o e) hp)]; exact Same.new ht b o e) (by rw [upd_ne npt]; exact upd_same) upd_same
end
end Plug
end
section
set_option Elab.async false
set_option linter.all false
set_option maxRecDepth 100000
set_option maxHeartbeats 4000000
namespace Plug
open PySem PySem.Spec PyProof.Rows L2 Mi
section
variable {P : Program} {w : World} {K : PySem.W.Frag} {mg : Str → Option Value} {base : Heap} {C : Addr}
theorem way_in (b : Bool) : (if true = true then !inV (V.str (wayS b)) [V.str "in", V.str "out"] else inV (V.str (wayS b)) [V.str "in", V.str "out"]) = false := by cases b <;> decide +kernel
theorem kind_bb : decide (V.str (kindS false) = V.str "bulk") = true := by decide +kernel
theorem kind_tb : decide (V.str (kindS true) = V.str "bulk") = false := by decide +kernel
theorem kind_tt : decide (V.str (kindS true) = V.str "timed") = true := by decide +kernel
/-! ### good_end(end) -/
def spGoodEnd : Sp := fun vs H Q _ => ∃ (b : V) (e : En), vs = [b] ∧ EndAt H b e ∧ GoodEn e ∧ ∀ H', Same H H' → Q (.bl true) H'
theorem ok_good_end (T : Txt K w mg C) (D : Dfn K mg "good_end" s_good_end ["end"]) : Cl P w K mg base 1 "good_end" spGoodEnd := by
  refine cl_of D cs_good_end (fun vs H Q E h => ?_) (fun f cdv A outer s H vs Q E hr h => ?_)
  · obtain ⟨b, e, rfl, _⟩ := h
    rfl
  · obtain ⟨b, ⟨num, inn, tim, size, every⟩, rfl, ⟨a, rfl, ha⟩, g, k⟩ := h
    obtain ⟨a1, m1, q1⟩ := T.sizes
    obtain ⟨a2, m2, q2⟩ := T.periods
    have nd := cs_good_end.nd
    refine ⟨_, pss_cons (ps_asg (pv 0) (pg_tup rfl (pgs_cons (pg_name (i := 1) nd rfl (.inl rfl)) (pgs_cons (pg_name (i := 2) nd rfl (.inl rfl)) (pgs_cons (pg_name (i := 3) nd rfl (.inl rfl)) (pgs_cons (pg_name (i := 4) nd rfl (.inl rfl)) (pgs_cons (pg_name (i := 5) nd rfl (.inl rfl)) pgs_nil)))))))
      (pss_cons (ps_if (PW.pt (pw_or (pt_not (pt_chain op_le op_le pe_int (pv 1) pe_int)) (pw_or1 (pt_cmpR op_notIn_seq (pv 2) (pe_tup (pa_cons pe_str (pa_cons pe_str pa_nil))) (by rfl))))) (pss_one (ps_ret pe_bl)) pss_nil)
      (pss_cons (ps_if (pt_cmpR op_eq (pv 3) pe_str (nomark _)) (pss_one (ps_ret (pe_and (pe_cmpR op_in_seq (pv 4) (pe_glob (v := .ref a1) rfl m1 rfl) (by rfl)) (pe_one (pe_cmpR op_eq (pv 5) pe_int (nomark _)))))) pss_nil)
      (pss_one (ps_ret (pe_and (pe_cmpR op_eq (pv 3) pe_str (nomark _)) (pe_and (pe_chain op_le op_le pe_int (pv 4) pe_int) (pe_one (pe_cmpR op_in_seq (pv 5) (pe_glob (v := .ref a2) rfl m2 rfl) (by rfl))))))))), ?_⟩
    obtain ⟨⟨g1, g2⟩, g3⟩ := g
    -- number, way, kind, size, every = end
    refine ⟨_, rfl, a, _, rfl, SqT.of ha, rfl, _, _, rfl, _, _, rfl, _, _, rfl, _, _, rfl, _, _, rfl, rfl, ?_⟩
    -- not 1 <= number <= 7 or way not in (..)
    refine ⟨_, rfl, _, _, rfl, rfl, _, rfl, bT (decide_eq_true g1) ⟨_, _, rfl, rfl, _, rfl, bF (by rw [decide_eq_true g2]; rfl) ⟨_, rfl, (by show 2 ≤ sizeLine; decide), fun t ht => ⟨t, _, rfl, .inr (SqT.of upd_same), rfl, rfl, _, rfl, bF ?_ ?_⟩⟩⟩⟩
    · exact way_in inn
    have s1 : Same H (upd H t (.tup [V.str "in", V.str "out"])) := Same.new ht
    rcases g3 with ⟨z1, z2, z3⟩ | ⟨z1, z2, z3⟩
    · -- bulk
      have z1 : tim = false := z1
      have z3 : every = 0 := z3
      subst z1 z3
      refine ⟨_, rfl, rfl, _, rfl, bT kind_bb ?_⟩
      refine ⟨_, rfl, a1, _, rfl, .inr (q1 _), rfl, rfl, _, rfl, bT ?_ ⟨_, rfl, rfl, ?_⟩⟩
      · have z2 : size = 8 ∨ size = 16 ∨ size = 32 ∨ size = 64 := z2
        rcases z2 with rfl | rfl | rfl | rfl <;> rfl
      · show Q (.bl (decide (V.int 0 = V.int 0))) _
        rw [decide_eq_true rfl]
        exact k _ s1
    · have z1 : tim = true := z1
      subst z1
      refine ⟨_, rfl, rfl, _, rfl, bF kind_tb ?_⟩
      refine ⟨_, rfl, rfl, _, rfl, bT kind_tt ?_⟩
      refine ⟨_, rfl, _, _, rfl, rfl, _, rfl, bT (decide_eq_true z2.1) ⟨_, _, rfl, rfl, _, rfl, bT (decide_eq_true z2.2) ?_⟩⟩
      refine ⟨_, rfl, a2, _, rfl, .inr (q2 _), rfl, rfl, ?_⟩
      have e : (if false = true then !inV (V.int every) [V.int 1, V.int 2, V.int 4, V.int 8, V.int 16, V.int 32] else inV (V.int every) [V.int 1, V.int 2, V.int 4, V.int 8, V.int 16, V.int 32]) = true := by
        have z3 : every = 1 ∨ every = 2 ∨ every = 4 ∨ every = 8 ∨ every = 16 ∨ every = 32 := z3
        rcases z3 with rfl | rfl | rfl | rfl | rfl | rfl <;> rfl
      show Q (.bl _) _
      rw [e]
      exact k _ s1
end
end Plug
end
section
set_option Elab.async false
set_option linter.all false
set_option maxRecDepth 100000
set_option maxHeartbeats 4000000
namespace Plug
open PySem PySem.Spec PyProof.Rows L2 Mi
theorem geIS_lt {a b : En} (h : ltEn a b) : geIS a.num b.num (wayS a.inn) (wayS b.inn) = false := by
  unfold geIS
  rcases h with h | ⟨h1, h2, h3⟩
  · rw [if_neg (by omega)]
    exact decide_eq_false (by omega)
  · rw [if_pos h1, h2, h3]
    decide +kernel
section
variable {P : Program} {w : World} {K : PySem.W.Frag} {mg : Str → Option Value} {base : Heap} {C : Addr}
/-! ### need_plan(plan) -/
def spNeed : Sp := fun vs H Q _ => ∃ (a : Addr) (p : Pl), vs = [.ref a] ∧ PlanAt H a p ∧ GoodPl p ∧ ∀ H', Same H H' → Q .non H'
theorem ok_need_plan (T : Txt K w mg C) (D : Dfn K mg "need_plan" s_need_plan ["plan"]) (G : Cl P w K mg base 1 "good_end" spGoodEnd) : Cl P w K mg base 2 "need_plan" spNeed := by
  refine cl_of D cs_need_plan (fun vs H Q E h => ?_) (fun f cdv A outer s H vs Q E hr h => ?_)
  · obtain ⟨a, p, rfl, _⟩ := h
    rfl
  · obtain ⟨a, p, rfl, ⟨e, ws, ha, he, hw⟩, g, k⟩ := h
    obtain ⟨tE, mE⟩ := T.mostE
    obtain ⟨tP, mP⟩ := T.mostP
    have nd := cs_need_plan.nd
    have hu := hu_of hr
    have hu0 : _ < cLine := hr.units0
    refine ⟨_, pss_cons (ps_asg (pv 0) (pg_tup rfl (pgs_cons (pg_name (i := 1) nd rfl (.inl rfl)) (pgs_cons (pg_name (i := 2) nd rfl (.inl rfl)) (pgs_cons (pg_name (i := 3) nd rfl (.inl rfl)) (pgs_cons (pg_name (i := 4) nd rfl (.inl rfl)) pgs_nil))))))
      (pss_cons (ps_for PassesOwn.never rfl (pi_enumT (by rfl) T.enumerate (pa_cons (pe_tup (pa_cons (pv 1) (pa_cons (pv 2) pa_nil))) pa_nil)) (pg_tup rfl (pgs_cons (pg_name (i := 5) nd rfl (.inl rfl)) (pgs_cons (pg_name (i := 6) nd rfl (.inl rfl)) pgs_nil)))
        (pss_one (ps_if (pt_not (pt_chain op_le op_le pe_int (pv 6) pe_int)) pss_never pss_nil)))
      (pss_cons (ps_if (pt_not (pt_chain op_le op_le pe_int (pv 3) (pe_glob (v := .int 4) rfl mP ⟨_, rfl⟩))) pss_never pss_nil)
      (pss_one (ps_for PassesOwn.never rfl (pi_enumT (by rfl) T.enumerate (pa_cons (pv 4) pa_nil)) (pg_tup rfl (pgs_cons (pg_name (i := 5) nd rfl (.inl rfl)) (pgs_cons (pg_name (i := 7) nd rfl (.inl rfl)) pgs_nil)))
        (pss_one (ps_if (PW.pt (pw_or (pt_cmpR op_ge (pv 5) (pe_glob (v := .int 8) rfl mE ⟨_, rfl⟩) (nomark _)) (pw_or (pt_not (pt_val (pe_cl G hr (by decide) rfl (pa_cons (pv 7) pa_nil))))
          (pw_or1 (PW.pt (pw_and (pt_cmpR op_gt (pv 5) pe_int (nomark _)) (pw_and1 (pt_cmpR (op_geIS hu0) (pe_slice sl_tup (pe_ix ix_tup (pv 4) (pe_op op_sub (pv 5) pe_int) (fun _ _ => rfl)) po_none (po_some pe_int)) (pe_slice sl_tup (pv 7) po_none (po_some pe_int)) (nomark _)))))))))
          pss_never pss_nil)))))), ?_⟩
    -- maker, model, ports, ends = plan
    refine ⟨_, rfl, a, _, rfl, SqT.of ha, rfl, _, _, rfl, _, _, rfl, _, _, rfl, _, _, rfl, rfl, ?_⟩
    -- for at, number in enumerate((maker, model))
    refine ⟨_, rfl, _, rfl, (by show 2 ≤ sizeLine; decide), fun t ht => ⟨t, _, rfl, SqT.of upd_same, ?_⟩⟩
    have s1 : Same H (upd H t (.tup [V.int p.maker, V.int p.model])) := Same.new ht
    refine for_enumT (K := K) (a := t) (xs := [V.int p.maker, V.int p.model]) (fun i σ H2 => (∃ v5 v6 : Option V, σ = [some (.ref a), some (.int p.maker), some (.int p.model), some (.int p.ports), some (.ref e), v5, v6, none]) ∧ Same (upd H t (.tup [V.int p.maker, V.int p.model])) H2)
      ⟨⟨none, none, rfl⟩, Same.refl _⟩ (fun i σ H2 _ ⟨_, s2⟩ => SqT.of (s2 _ _ upd_same)) ?_ ?_
    · rintro i x T' σ H2 hx ⟨⟨v5, v6, rfl⟩, s2⟩ hT
      obtain ⟨n, rfl, hn⟩ : ∃ n : Int, x = .int n ∧ 0 ≤ n ∧ n ≤ 65535 := by
        match i, hx with
        | 0, hx => exact ⟨_, (Option.some.inj hx).symm, g.maker⟩
        | 1, hx => exact ⟨_, (Option.some.inj hx).symm, g.model⟩
        | n + 2, hx => simp at hx
      refine ⟨T', _, rfl, SqT.of upd_same, rfl, _, _, rfl, _, _, rfl, rfl, ?_⟩
      refine ⟨_, rfl, _, _, rfl, rfl, _, rfl, bT (decide_eq_true hn.1) ⟨_, _, rfl, rfl, _, rfl, bF (by rw [decide_eq_true hn.2]; rfl) ?_⟩⟩
      exact ⟨⟨_, _, rfl⟩, s2.trans (Same.new hT)⟩
    · rintro σ H2 ⟨⟨v5, v6, rfl⟩, s2⟩
      have s3 : Same H H2 := s1.trans s2
      -- not 0 <= ports <= MOST_PORTS
      refine ⟨_, rfl, _, _, rfl, rfl, _, rfl, bT (decide_eq_true g.ports.1) ⟨_, _, rfl, rfl, _, rfl, bF (by rw [decide_eq_true g.ports.2]; rfl) ?_⟩⟩
      -- for at, end in enumerate(ends)
      refine ⟨_, rfl, e, ws, rfl, SqT.of (s3 _ _ he), ?_⟩
      refine for_enumT (K := K) (a := e) (xs := ws) (fun i σ H3 => (∃ v5 v6 v7 : Option V, σ = [some (.ref a), some (.int p.maker), some (.int p.model), some (.int p.ports), some (.ref e), v5, v6, v7]) ∧ Same H H3)
        ⟨⟨_, _, _, rfl⟩, s3⟩ (fun i σ H3 _ ⟨_, s4⟩ => SqT.of (s4 _ _ he)) ?_ ?_
      · rintro i x T' σ H3 hx ⟨⟨v5, v6, v7, rfl⟩, s4⟩ hT
        obtain ⟨en, hen, b, rfl, hb⟩ := pat hw hx
        have s5 : Same H (upd H3 T' (.tup [.int (i : Int), .ref b])) := s4.trans (Same.new hT)
        have hi : i < 8 := by
          have := (List.getElem?_eq_some_iff.mp hen).1
          have := g.few
          omega
        refine ⟨T', _, rfl, SqT.of upd_same, rfl, _, _, rfl, _, _, rfl, rfl, ?_⟩
        -- at >= MOST_ENDS
        refine ⟨_, rfl, _, _, rfl, rfl, _, rfl, bF (decide_eq_false (by omega)) ?_⟩
        -- not good_end(end)
        refine ⟨_, rfl, _, en, rfl, ⟨b, rfl, s5 _ _ hb⟩, g.ends en (List.mem_of_getElem? hen), fun H4 s6 => ⟨true, rfl, bF rfl ?_⟩⟩
        have s7 : Same H H4 := s5.trans s6
        -- at > 0 and ends[at - 1][:2] >= end[:2]
        refine ⟨_, rfl, _, _, rfl, rfl, _, rfl, ?_⟩
        match i, hx, hen with
        | 0, hx, hen => exact bF (by decide) (bF rfl ⟨⟨_, _, _, rfl⟩, s7⟩)
        | j + 1, hx, hen =>
          refine bT (decide_eq_true (by omega)) ?_
          obtain ⟨x', hx'⟩ : ∃ x', ws[j]? = some x' := ⟨ws[j]'(by have := (List.getElem?_eq_some_iff.mp hx).1; omega), List.getElem?_eq_getElem _⟩
          obtain ⟨en', hen', b', rfl, hb'⟩ := pat hw hx'
          refine ⟨_, rfl, _, rfl, _, _, rfl, rfl, e, ws, _, _, rfl, rfl, SqT.of (s7 _ _ he), at_of (j := j) (by omega) hx', ?_⟩
          refine ⟨2, rfl, b', _, rfl, SqT.of (s7 _ _ hb'), (by intro z; exact absurd z.2 (show ¬ HT.sIx 5 5 (some 2) = 5 by decide)), fun c1 hc1 => ?_⟩
          have s8 : Same H (upd H4 c1 (.tup (cutV (enV en') none (some 2)))) := s7.trans (Same.new hc1)
          refine ⟨_, rfl, 2, rfl, b, _, rfl, SqT.of (s8 _ _ hb), (by intro z; exact absurd z.2 (show ¬ HT.sIx 5 5 (some 2) = 5 by decide)), fun c2 hc2 => ?_⟩
          have n12 : c1 ≠ c2 := ne_of_none upd_same hc2
          refine ⟨c1, c2, en'.num, en.num, wayS en'.inn, wayS en.inn, rfl, rfl, SqT.of (by rw [upd_ne n12]; exact upd_same), SqT.of upd_same, ?_⟩
          rw [geIS_lt (g.next hen' hen)]
          exact ⟨_, rfl, bF rfl ⟨⟨_, _, _, rfl⟩, s8.trans (Same.new hc2)⟩⟩
      · rintro σ H3 ⟨⟨v5, v6, v7, rfl⟩, s4⟩
        exact k H3 s4
end
end Plug
end
section
set_option Elab.async false
set_option linter.all false
set_option maxRecDepth 100000
set_option maxHeartbeats 4000000
namespace Plug
open PySem PySem.Spec PyProof.Rows L2 Mi
theorem wide_le {n : Nat} (h : n ≤ 100000) : n ≤ sizeLine := Nat.le_trans h (by decide)
section
variable {P : Program} {w : World} {K : PySem.W.Frag} {mg : Str → Option Value} {base : Heap} {C : Addr}
/-! ### device_row(plan) -/
def spDev : Sp := fun vs H Q _ => ∃ (a : Addr) (p : Pl), vs = [.ref a] ∧ PlanAt H a p ∧ GoodPl p ∧ ∀ q H', Same H H' → H' q = some (.tup ((deviceRow p).map V.int)) → Q (.ref q) H'
theorem ok_device_row (D : Dfn K mg "device_row" s_device_row ["plan"]) (G : Cl P w K mg base 2 "need_plan" spNeed) (G2 : Cl P w K mg base 1 "two" spTwo) : Cl P w K mg base 3 "device_row" spDev := by
  refine cl_of D cs_device_row (fun vs H Q E h => ?_) (fun f cdv A outer s H vs Q E hr h => ?_)
  · obtain ⟨a, p, rfl, _⟩ := h
    rfl
  · obtain ⟨a, p, rfl, hp, g, k⟩ := h
    have nd := cs_device_row.nd
    refine ⟨_, pss_cons (ps_expr (pe_cl G hr (by decide) rfl (pa_cons (pv 0) pa_nil)))
      (C8.pss_cut (ps_set (i := 1) nd rfl (.inl rfl) (pe_ifExp (pt_cmpR op_gt (pe_ix ix_tup (pv 0) pe_int (fun _ _ => rfl)) pe_int (nomark _)) pe_int pe_int))
      (pss_one (ps_ret (pe_op op_catT (pe_op op_catT (pe_op op_catT
          (pe_tup (pa_cons pe_int (pa_cons pe_int (pa_cons pe_int (pa_cons pe_int (pa_cons (pv 1) (pa_cons pe_int (pa_cons pe_int (pa_cons pe_int pa_nil)))))))))
          (pe_cl G2 hr (by decide) rfl (pa_cons (pe_ix ix_tup (pv 0) pe_int (fun _ _ => rfl)) pa_nil)))
          (pe_cl G2 hr (by decide) rfl (pa_cons (pe_ix ix_tup (pv 0) pe_int (fun _ _ => rfl)) pa_nil)))
          (pe_tup (pa_cons pe_int (pa_cons pe_int (pa_cons (pe_ix ix_tup (pv 0) pe_int (fun _ _ => rfl)) (pa_cons pe_int (pa_cons pe_int (pa_cons pe_int pa_nil)))))))))) ), ?_⟩
    refine ⟨_, rfl, a, p, rfl, hp, g, fun H1 s1 => ?_⟩
    obtain ⟨e, ws, ha, he, hw⟩ := hp
    refine ⟨fun σ H' => σ = [some (.ref a), some (.int (if 0 < p.ports then 9 else 0))] ∧ H' = H1, ?_, ?_⟩
    · refine ⟨_, rfl, a, _, 2, _, rfl, rfl, SqT.of (s1 _ _ ha), rfl, _, _, rfl, rfl, _, rfl, ?_⟩
      by_cases c : 0 < p.ports
      · refine bT (decide_eq_true c) ⟨?_, rfl⟩
        rw [if_pos c]
        rfl
      · refine bF (decide_eq_false c) ⟨?_, rfl⟩
        rw [if_neg c]
        rfl
    · rintro σ H' ⟨rfl, rfl⟩
      refine ⟨_, rfl, (by show 8 ≤ sizeLine; decide), fun t1 h1 => ?_⟩
      refine ⟨_, rfl, a, _, 0, _, rfl, rfl, SqT.of (s1.trans (Same.new h1) _ _ ha), rfl, p.maker, rfl, fun q1 H2 s3 g1 => ?_⟩
      have s4 := (s1.trans (Same.new h1)).trans s3
      refine ⟨t1, q1, _, _, rfl, rfl, SqT.of (s3 _ _ upd_same), SqT.of g1, (by intro z; cases z), (by show 8 + 2 ≤ sizeLine; decide), (fun z => by cases z), fun _ t2 h2 => ?_⟩
      refine ⟨_, rfl, a, _, 1, _, rfl, rfl, SqT.of (s4.trans (Same.new h2) _ _ ha), rfl, p.model, rfl, fun q2 H3 s5 g2 => ?_⟩
      have s6 := (s4.trans (Same.new h2)).trans s5
      refine ⟨t2, q2, _, _, rfl, rfl, SqT.of (s5 _ _ upd_same), SqT.of g2, (by intro z; cases z), (by show 10 + 2 ≤ sizeLine; decide), (fun z => by cases z), fun _ t3 h3 => ?_⟩
      refine ⟨_, rfl, a, _, 2, _, rfl, rfl, SqT.of (s6.trans (Same.new h3) _ _ ha), rfl, (by show 6 ≤ sizeLine; decide), fun t4 h4 => ?_⟩
      refine ⟨t3, t4, _, _, rfl, rfl, SqT.of (Same.new h4 _ _ upd_same), SqT.of upd_same, (by intro z; cases z), (by show 12 + 6 ≤ sizeLine; decide), (fun z => by cases z), fun _ t5 h5 => ?_⟩
      exact k t5 _ (((s6.trans (Same.new h3)).trans (Same.new h4)).trans (Same.new h5)) upd_same
end
end Plug
end
section
set_option Elab.async false
set_option linter.all false
set_option maxRecDepth 100000
set_option maxHeartbeats 4000000
namespace Plug
open PySem PySem.Spec PyProof.Rows L2 Mi
theorem wide_le' {n : Nat} (h : n ≤ 100000) : n ≤ sizeLine := Nat.le_trans h (by decide)
theorem or128 {n : Int} (h : 1 ≤ n ∧ n ≤ 7) (b : Bool) : Builtin.bitOr n (128 * (if b = true then 1 else 0)) = n + 128 * b2 b := by
  have h7 : n = 1 ∨ n = 2 ∨ n = 3 ∨ n = 4 ∨ n = 5 ∨ n = 6 ∨ n = 7 := by omega
  rcases h7 with rfl | rfl | rfl | rfl | rfl | rfl | rfl <;> cases b <;> decide +kernel
theorem way_dec (b : Bool) : decide (V.str (wayS b) = V.str "in") = b := by cases b <;> decide +kernel
theorem kind_dec (b : Bool) : decide (V.str (kindS b) = V.str "timed") = b := by cases b <;> decide +kernel
section
variable {P : Program} {w : World} {K : PySem.W.Frag} {mg : Str → Option Value} {base : Heap} {C : Addr}
/-! ### end_row(end) -/
def spEndRow : Sp := fun vs H Q _ => ∃ (b : V) (e : En), vs = [b] ∧ EndAt H b e ∧ GoodEn e ∧ ∀ q H', Same H H' → H' q = some (.tup ((endRow e).map V.int)) → Q (.ref q) H'
theorem ok_end_row (T : Txt K w mg C) (D : Dfn K mg "end_row" s_end_row ["end"]) (G2 : Cl P w K mg base 1 "two" spTwo) : Cl P w K mg base 2 "end_row" spEndRow := by
  refine cl_of D cs_end_row (fun vs H Q E h => ?_) (fun f cdv A outer s H vs Q E hr h => ?_)
  · obtain ⟨a, p, rfl, _⟩ := h
    rfl
  · obtain ⟨b, e, rfl, ⟨a, rfl, ha⟩, g, k⟩ := h
    have nd := cs_end_row.nd
    refine ⟨_, pss_cons (ps_asg (pv 0) (pg_tup rfl (pgs_cons (pg_name (i := 1) nd rfl (.inl rfl)) (pgs_cons (pg_name (i := 2) nd rfl (.inl rfl)) (pgs_cons (pg_name (i := 3) nd rfl (.inl rfl)) (pgs_cons (pg_name (i := 4) nd rfl (.inl rfl)) (pgs_cons (pg_name (i := 5) nd rfl (.inl rfl)) pgs_nil)))))))
      (pss_one (ps_ret (pe_op op_catT (pe_op op_catT
        (pe_tup (pa_cons pe_int (pa_cons pe_int (pa_cons (pe_op op_or (pv 1) (pe_op op_mul pe_int (pe_callTy call_int1 (by rfl) T.int boot_int (pa_cons (pe_cmpR op_eq (pv 2) pe_str (nomark _)) pa_nil))))
          (pa_cons (pe_op op_add pe_int (pe_callTy call_int1 (by rfl) T.int boot_int (pa_cons (pe_cmpR op_eq (pv 3) pe_str (nomark _)) pa_nil))) pa_nil)))))
        (pe_cl G2 hr (by decide) rfl (pa_cons (pv 4) pa_nil)))
        (pe_tup (pa_cons (pv 5) pa_nil))))), ?_⟩
    refine ⟨_, rfl, a, _, rfl, SqT.of ha, rfl, _, _, rfl, _, _, rfl, _, _, rfl, _, _, rfl, _, _, rfl, rfl, ?_⟩
    refine ⟨_, rfl, _, rfl, rfl, .inr ⟨_, rfl, _, _, rfl, rfl, .inl ⟨by decide, by decide⟩, _, _, rfl, rfl, ?_⟩⟩
    refine ⟨_, rfl, rfl, .inr ⟨_, rfl, _, _, rfl, rfl, (by show 4 ≤ sizeLine; decide), fun t1 h1 => ?_⟩⟩
    refine ⟨_, rfl, e.size, rfl, fun q1 H2 s3 g1 => ?_⟩
    have s4 := (Same.new h1).trans s3
    refine ⟨t1, q1, _, _, rfl, rfl, SqT.of (s3 _ _ upd_same), SqT.of g1, (by intro z; cases z), (by show 4 + 2 ≤ sizeLine; decide), (fun z => by cases z), fun _ t2 h2 => ?_⟩
    refine ⟨_, rfl, (by show 1 ≤ sizeLine; decide), fun t3 h3 => ?_⟩
    refine ⟨t2, t3, _, _, rfl, rfl, SqT.of (Same.new h3 _ _ upd_same), SqT.of upd_same, (by intro z; cases z), (by show 6 + 1 ≤ sizeLine; decide), (fun z => by cases z), fun _ t4 h4 => ?_⟩
    refine k t4 _ (((s4.trans (Same.new h2)).trans (Same.new h3)).trans (Same.new h4)) (upd_same.trans ?_)
    show some (HO.tup [V.int 7, V.int 5, V.int (Builtin.bitOr e.num (128 * (if decide (V.str (wayS e.inn) = V.str "in") = true then 1 else 0))), V.int (2 + (if decide (V.str (kindS e.tim) = V.str "timed") = true then 1 else 0)), .int (e.size % 256), .int (e.size / 256), .int e.every]) = _
    rw [way_dec, kind_dec, or128 g.1]
    rfl
/-! ### settings_row(plan) -/
def spSet : Sp := fun vs H Q _ => ∃ (a : Addr) (p : Pl), vs = [.ref a] ∧ PlanAt H a p ∧ GoodPl p ∧ ∀ q H', Same H H' → H' q = some (.tup ((settingsRow p).map V.int)) → Q (.ref q) H'
def restTo (p : Pl) (i : Nat) : List Int := [9, 4, 0, 0, (p.ends.length : Int), 255, 0, 0, 0] ++ endsRow (p.ends.take i)
theorem restTo_len (p : Pl) (i : Nat) (h : i ≤ p.ends.length) : (restTo p i).length = 9 + 7 * i := by
  unfold restTo
  rw [List.length_append, endsRow_len, List.length_take, Nat.min_eq_left h]
  rfl
theorem restTo_more {p : Pl} {i : Nat} {e : En} (h : p.ends[i]? = some e) : restTo p (i + 1) = restTo p i ++ endRow e := by
  unfold restTo
  rw [endsRow_more h, List.append_assoc]
theorem restTo_all (p : Pl) : restTo p p.ends.length = restRow p := by
  unfold restTo restRow
  rw [List.take_length]
theorem ok_settings_row (T : Txt K w mg C) (D : Dfn K mg "settings_row" s_settings_row ["plan"]) (G : Cl P w K mg base 2 "need_plan" spNeed) (G1 : Cl P w K mg base 2 "end_row" spEndRow) (G2 : Cl P w K mg base 1 "two" spTwo) : Cl P w K mg base 3 "settings_row" spSet := by
  refine cl_of D cs_settings_row (fun vs H Q E h => ?_) (fun f cdv A outer s H vs Q E hr h => ?_)
  · obtain ⟨a, p, rfl, _⟩ := h
    rfl
  · obtain ⟨a, p, rfl, hp, g, k⟩ := h
    have nd := cs_settings_row.nd
    refine ⟨_, pss_cons (ps_expr (pe_cl G hr (by decide) rfl (pa_cons (pv 0) pa_nil)))
      (pss_cons (ps_set (i := 1) nd rfl (.inl rfl) (pe_tup (pa_cons pe_int (pa_cons pe_int (pa_cons pe_int (pa_cons pe_int (pa_cons (pe_callB call_len_seq (by rfl) T.len PySem.boot_len (pa_cons (pe_ix ix_tup (pv 0) pe_int (fun _ _ => rfl)) pa_nil)) (pa_cons pe_int (pa_cons pe_int (pa_cons pe_int (pa_cons pe_int pa_nil)))))))))))
      (pss_cons (ps_for PassesOwn.never rfl (pi_tup (pe_ix ix_tup (pv 0) pe_int (fun _ _ => rfl))) (pg_name (i := 2) nd rfl (.inl rfl))
        (pss_one (ps_aug (i := 1) nd rfl (.inl rfl) (pe_cl G1 hr (by decide) rfl (pa_cons (pv 2) pa_nil)) ip_catT)))
      (pss_one (ps_ret (pe_op op_catT (pe_op op_catT (pe_op op_catT (pe_tup (pa_cons pe_int (pa_cons pe_int pa_nil)))
        (pe_cl G2 hr (by decide) rfl (pa_cons (pe_op op_add pe_int (pe_callB call_len_seq (by rfl) T.len PySem.boot_len (pa_cons (pv 1) pa_nil))) pa_nil)))
        (pe_tup (pa_cons pe_int (pa_cons pe_int (pa_cons pe_int (pa_cons pe_int (pa_cons pe_int pa_nil))))))) (pv 1)))))), ?_⟩
    refine ⟨_, rfl, a, p, rfl, hp, g, fun H1 s1 => ?_⟩
    obtain ⟨e, ws, ha, he, hw⟩ := hp
    have hl : ws.length = p.ends.length := Paired.length hw
    have few := g.few
    -- rest = (9, 4, ..)
    refine ⟨_, rfl, a, _, 3, _, rfl, rfl, SqT.of (s1 _ _ ha), rfl, e, ws, rfl, .inr (SqT.of (s1 _ _ he)), (by show 9 ≤ sizeLine; decide), fun t1 h1 => ?_⟩
    have e0 : ([V.int 9, .int 4, .int 0, .int 0, .int (ws.length : Int), .int 255, .int 0, .int 0, .int 0] : List V) = (restTo p 0).map V.int := by rw [hl]; rfl
    have s2 : Same H (upd H1 t1 (.tup ((restTo p 0).map V.int))) := s1.trans (Same.new h1)
    show tSeq _ _ _ _ (upd H1 t1 (.tup [V.int 9, .int 4, .int 0, .int 0, .int (ws.length : Int), .int 255, .int 0, .int 0, .int 0]))
    rw [e0]
    refine ⟨_, rfl, a, _, 3, _, rfl, rfl, SqT.of (s2 _ _ ha), rfl, e, rfl, ⟨ws, SqT.of (s2 _ _ he)⟩, for_tup (K := K) (a := e) (xs := ws) (fun i σ H2 => ∃ (r : Addr) (v2 : Option V), σ = [some (.ref a), some (.ref r), v2] ∧ H2 r = some (.tup ((restTo p i).map V.int)) ∧ Same H H2)
      ⟨t1, none, rfl, upd_same, s2⟩ (fun i σ H2 _ ⟨_, _, _, _, s3⟩ => SqT.of (s3 _ _ he)) ?_ ?_⟩
    · rintro i x σ H2 hx ⟨r, v2, rfl, hr2, s3⟩
      obtain ⟨en, hen, b, rfl, hb⟩ := pat hw hx
      have hi : i < p.ends.length := (List.getElem?_eq_some_iff.mp hen).1
      refine ⟨_, rfl, _, rfl, _, en, rfl, ⟨b, rfl, s3 _ _ hb⟩, g.ends en (List.mem_of_getElem? hen), fun q H3 s4 g4 => ?_⟩
      refine ⟨r, q, _, _, rfl, rfl, SqT.of (s4 _ _ hr2), SqT.of g4, ?_, ?_, ?_, fun t h => ?_⟩
      · intro z
        have := congrArg List.length z
        rw [List.length_map, restTo_len p i (Nat.le_of_lt hi)] at this
        simp at this
      · intro z; cases z
      · rw [List.length_map, List.length_map, restTo_len p i (Nat.le_of_lt hi), endRow_len]
        exact wide_le' (by omega)
      · refine ⟨t, _, rfl, ?_, (s3.trans s4).trans (Same.new h)⟩
        rw [upd_same, restTo_more hen, List.map_append]
    · rintro σ H2 ⟨r, v2, rfl, hr2, s3⟩
      rw [hl, restTo_all] at hr2
      have hl2 : ((restRow p).map V.int).length = (restRow p).length := List.length_map ..
      have hl3 := restRow_len p
      refine ⟨(by show 2 ≤ sizeLine; decide), fun t2 h2 => ?_⟩
      refine ⟨_, rfl, r, _, rfl, .inr (SqT.of (Same.new h2 _ _ hr2)), _, _, rfl, rfl, _, rfl, fun q1 H3 s4 g1 => ?_⟩
      have s5 := (s3.trans (Same.new h2)).trans s4
      refine ⟨t2, q1, _, _, rfl, rfl, SqT.of (s4 _ _ upd_same), SqT.of g1, (by intro z; cases z), (by show 2 + 2 ≤ sizeLine; decide), (fun z => by cases z), fun _ t3 h3 => ?_⟩
      refine ⟨(by show 5 ≤ sizeLine; decide), fun t4 h4 => ?_⟩
      refine ⟨t3, t4, _, _, rfl, rfl, SqT.of (Same.new h4 _ _ upd_same), SqT.of upd_same, (by intro z; cases z), (by show 4 + 5 ≤ sizeLine; decide), (fun z => by cases z), fun _ t5 h5 => ?_⟩
      have hr3 := s4 _ _ (Same.new h2 _ _ hr2)
      refine ⟨_, rfl, t5, r, _, _, rfl, rfl, SqT.of upd_same, SqT.of (Same.new h5 _ _ (Same.new h4 _ _ (Same.new h3 _ _ hr3))), (by intro z; cases z), ?_, ?_, fun _ t6 h6 => ?_⟩
      · rw [hl2, hl3]
        show 9 + (9 + 7 * p.ends.length) ≤ sizeLine
        exact wide_le' (by omega)
      · intro z
        have := congrArg List.length z
        rw [hl2, hl3] at this
        simp at this
      · refine k t6 _ ((((s5.trans (Same.new h3)).trans (Same.new h4)).trans (Same.new h5)).trans (Same.new h6)) ?_
        rw [upd_same, hl2]
        unfold settingsRow
        rw [List.map_append]
        rfl
end
end Plug
end
section
set_option Elab.async false
set_option linter.all false
set_option maxRecDepth 100000
set_option maxHeartbeats 4000000
/-! Rel: halves, pieces, slices, by what the heap holds. -/
namespace Plug
open PySem PySem.Spec PyProof.Rows L2 Mi
def PcsL (H : Hp) (a : Addr) (ps : List (List Int)) : Prop := ∃ vs, H a = some (.lst vs) ∧ Paired (TupI H) vs ps
def PcsT (H : Hp) (a : Addr) (ps : List (List Int)) : Prop := ∃ vs, H a = some (.tup vs) ∧ Paired (TupI H) vs ps
theorem PcsT.kt {H H' : Hp} {a : Addr} {ps : List (List Int)} (k : KT0 H H') (h : PcsT H a ps) : PcsT H' a ps := let ⟨vs, e, q⟩ := h; ⟨vs, k _ _ e, Paired.mapP q fun _ _ z => z.kt k⟩
def halfV (inn : Bool) (e : Addr) : List V := if inn then [.int 0, .bl false, .ref e] else [.int 0, .bl false, .int 0, .ref e]
def HalfAt (H : Hp) (v : V) (inn : Bool) : Prop := ∃ a e, v = .ref a ∧ H e = some (.tup []) ∧ H a = some (.tup (halfV inn e))
theorem HalfAt.kt {H H' : Hp} {v : V} {b : Bool} (k : KT0 H H') (h : HalfAt H v b) : HalfAt H' v b := let ⟨a, e, z, q, r⟩ := h; ⟨a, e, z, k _ _ q, k _ _ r⟩
def keyK (k : Int × Bool) : List Key := [.inl k.1, .inr (wayS k.2)]
theorem wayS_inj {a b : Bool} (h : wayS a = wayS b) : a = b := by
  cases a <;> cases b <;> first | rfl | exact absurd h (by decide +kernel)
theorem keyK_inj {a b : Int × Bool} (h : keyK a = keyK b) : a = b := by
  obtain ⟨n, x⟩ := a
  obtain ⟨m, y⟩ := b
  unfold keyK at h
  simp only [List.cons.injEq, Sum.inl.injEq, Sum.inr.injEq, and_true] at h
  rw [h.1, wayS_inj h.2]
theorem keyK_V (k : Int × Bool) : (keyK k).map kV = [V.int k.1, V.str (wayS k.2)] := rfl
abbrev HalvesAt (H : Hp) : List (List Key × V) → List (Int × Bool) → Prop := Paired fun kv k => kv.1 = keyK k ∧ HalfAt H kv.2 k.2
theorem HalvesAt.kt {H H' : Hp} {kvs : List (List Key × V)} {ks : List (Int × Bool)} (k : KT0 H H') (h : HalvesAt H kvs ks) : HalvesAt H' kvs ks := Paired.mapP h fun _ _ z => ⟨z.1, z.2.kt k⟩
theorem HalvesAt.get {H : Hp} : ∀ {kvs : List (List Key × V)} {ks : List (Int × Bool)} {k : Int × Bool}, HalvesAt H kvs ks → k ∈ ks → ∃ v, valV kvs (keyK k) = some v ∧ HalfAt H v k.2
  | _, _, _, .nil, h => absurd h (by simp)
  | _, _, k, .cons (a := kv) (b := k0) r t, h => by
    by_cases e : k0 = k
    · subst e
      exact ⟨kv.2, valV_pos r.1, r.2⟩
    · have h' : k ∈ _ := (List.mem_cons.mp h).resolve_left fun z => e z.symm
      obtain ⟨v, e1, e2⟩ := HalvesAt.get t h'
      exact ⟨v, by rw [valV_neg (fun z => e (keyK_inj (r.1.symm.trans z)))]; exact e1, e2⟩
theorem HalvesAt.none {H : Hp} : ∀ {kvs : List (List Key × V)} {ks : List (Int × Bool)} {k : Int × Bool}, HalvesAt H kvs ks → k ∉ ks → valV kvs (keyK k) = none
  | _, _, _, .nil, _ => rfl
  | _, _, k, .cons (a := kv) (b := k0) r t, h => by
    rw [valV_neg (fun z => h (by rw [keyK_inj (r.1.symm.trans z)]; exact List.mem_cons_self))]
    exact HalvesAt.none t fun z => h (List.mem_cons_of_mem _ z)
theorem HalvesAt.is {H : Hp} {kvs : List (List Key × V)} {ks : List (Int × Bool)} (k : Int × Bool) (h : HalvesAt H kvs ks) : (valV kvs (keyK k)).isSome = decide (k ∈ ks) := by
  by_cases m : k ∈ ks
  · obtain ⟨v, e, _⟩ := h.get m
    rw [e, decide_eq_true m]
    rfl
  · rw [h.none m, decide_eq_false m]
    rfl
theorem HalvesAt.map {H : Hp} {v : V} {k : Int × Bool} (hv : HalfAt H v k.2) : ∀ {kvs : List (List Key × V)} {ks : List (Int × Bool)}, HalvesAt H kvs ks → HalvesAt H (kvs.map fun kv => if kv.1 = keyK k then (kv.1, v) else kv) ks
  | _, _, .nil => .nil
  | _, _, .cons (a := kv) (b := k0) r t => by
    rw [List.map_cons]
    refine .cons ?_ (HalvesAt.map hv t)
    by_cases e : kv.1 = keyK k
    · rw [if_pos e]
      have e2 : k0 = k := keyK_inj (r.1.symm.trans e)
      exact ⟨r.1, by rw [e2]; exact hv⟩
    · rw [if_neg e]; exact r
theorem HalvesAt.put {H : Hp} {v : V} {k : Int × Bool} {kvs : List (List Key × V)} {ks : List (Int × Bool)} (h : HalvesAt H kvs ks) (hv : HalfAt H v k.2) (m : k ∈ ks) : HalvesAt H (putK kvs (keyK k) v) ks := by
  unfold putK
  obtain ⟨u, e, _⟩ := h.get m
  rw [valV_any, e, if_pos (by rfl)]
  exact h.map hv
theorem paired_snoc {α β : Type} {F : α → β → Prop} : ∀ {l : List α} {r : List β} {x : α} {y : β}, Paired F l r → F x y → Paired F (l ++ [x]) (r ++ [y])
  | _, _, _, _, .nil, h => .cons h .nil
  | _, _, _, _, .cons a t, h => .cons a (paired_snoc t h)
theorem HalvesAt.snoc {H : Hp} {v : V} {k : Int × Bool} {kvs : List (List Key × V)} {ks : List (Int × Bool)} (h : HalvesAt H kvs ks) (hv : HalfAt H v k.2) (m : k ∉ ks) : HalvesAt H (putK kvs (keyK k) v) (ks ++ [k]) := by
  rw [putK_new v (h.none m)]
  exact paired_snoc h ⟨rfl, hv⟩
theorem HalvesAt.len {H : Hp} {kvs : List (List Key × V)} {ks : List (Int × Bool)} (h : HalvesAt H kvs ks) : kvs.length = ks.length := Paired.length h
def sgS : Sg → Str
  | .idle => "idle"
  | .stalled => "stalled"
  | .give => "give"
  | .status => "status"
  | .stated => "stated"
theorem sg_dec (a : Sg) (b : Sg) : decide (V.str (sgS a) = V.str (sgS b)) = decide (a = b) := by cases a <;> cases b <;> decide +kernel
/-! ### slices of mapped tuples -/
theorem cutV_map (xs : List Int) (k : Nat) : cutV (xs.map V.int) (some ((k : Nat) : Int)) (some ((k + 8 : Nat) : Int)) = ((xs.drop k).take 8).map V.int := by
  unfold cutV
  rw [HT.sIx_nat, HT.sIx_nat, List.length_map, ← List.map_drop, ← List.map_take]
  congr 1
  by_cases h : k ≤ xs.length
  · rw [Nat.min_eq_left h]
    by_cases h2 : k + 8 ≤ xs.length
    · rw [Nat.min_eq_left h2, Nat.add_sub_cancel_left]
    · rw [Nat.min_eq_right (by omega), List.take_of_length_le (by rw [List.length_drop]; omega), List.take_of_length_le (by rw [List.length_drop]; omega)]
  · rw [Nat.min_eq_right (by omega), List.drop_of_length_le (by omega), List.drop_of_length_le (by omega)]
    simp
theorem cutV_to (xs : List V) (k : Nat) : cutV xs none (some ((k : Nat) : Int)) = xs.take k := by
  unfold cutV
  rw [HT.sIx_nat, HT.sIx_none, List.drop_zero, Nat.sub_zero]
  by_cases h : k ≤ xs.length
  · rw [Nat.min_eq_left h]
  · rw [Nat.min_eq_right (by omega), List.take_of_length_le (by omega), List.take_of_length_le (by omega)]
theorem cutV_from (xs : List V) (k : Nat) : cutV xs (some ((k : Nat) : Int)) none = xs.drop k := by
  unfold cutV
  rw [HT.sIx_nat, HT.sIx_none]
  by_cases h : k ≤ xs.length
  · rw [Nat.min_eq_left h, List.take_of_length_le (by rw [List.length_drop]; exact Nat.le_refl _)]
  · rw [Nat.min_eq_right (by omega), List.drop_of_length_le (Nat.le_refl _), List.drop_of_length_le (by omega)]
    simp
theorem cutV_one (x : V) (xs : List V) : cutV (x :: xs) (some 1) none = xs := cutV_from (x :: xs) 1
end Plug
end
section
set_option Elab.async false
set_option linter.all false
set_option maxRecDepth 100000
set_option maxHeartbeats 4000000
namespace Plug
open PySem PySem.Spec PyProof.Rows L2 Mi
theorem rgC8 {n : Nat} (h : n ≤ 10000) : RgC 0 ((n : Int) + 1) 8 (n / 8 + 1) := by
  have e : Builtin.Range.rangeSize 0 ((n : Int) + 1) 8 = ((n / 8 + 1 : Nat) : Int) := by
    rw [PyProof.Rows.rangeSize_pos (by decide) (by omega)]
    omega
  refine ⟨by decide, by decide, ?_, e⟩
  unfold Builtin.Range.small
  rw [e]
  unfold Builtin.Range.rangeFitsLong
  rw [if_pos (by decide)]
  simp only [Bool.and_eq_true, Bool.or_eq_true, decide_eq_true_eq]
  refine ⟨⟨⟨⟨⟨?_, ?_⟩, ⟨?_, ?_⟩⟩, ⟨?_, ?_⟩⟩, ⟨?_, ?_⟩⟩, .inr ⟨?_, ?_⟩⟩ <;> omega
section
variable {P : Program} {w : World} {K : PySem.W.Frag} {mg : Str → Option Value} {base : Heap} {C : Addr}
/-! ### cut(data, 8) -/
def spCut : Sp := fun vs H Q _ => ∃ (a : Addr) (xs : List Int), vs = [.ref a, .int 8] ∧ H a = some (.tup (xs.map V.int)) ∧ xs.length ≤ 10000 ∧ ∀ l H', Same H H' → H l = none → PcsL H' l (cutL xs) → Q (.ref l) H'
theorem ok_cut (T : Txt K w mg C) (D : Dfn K mg "cut" s_cut ["data", "size"]) : Cl P w K mg base 1 "cut" spCut := by
  refine cl_of D cs_cut (fun vs H Q E h => ?_) (fun f cdv A outer s H vs Q E hr h => ?_)
  · obtain ⟨a, xs, rfl, _⟩ := h
    rfl
  · obtain ⟨a, xs, rfl, ha, hz, k⟩ := h
    have nd := cs_cut.nd
    refine ⟨_, pss_cons (ps_set (i := 2) nd rfl (.inl rfl) (pe_lst pa_nil))
      (pss_cons (ps_for PassesOwn.never rfl (pi_range3 rfl T.range (pa_cons pe_int (pa_cons (pe_op op_add (pe_callB call_len_seq (by rfl) T.len PySem.boot_len (pa_cons (pv 0) pa_nil)) pe_int) (pa_cons (pv 1) pa_nil)))) (pg_name (i := 3) nd rfl (.inl rfl))
        (pss_one (ps_expr (pe_bm PySem.F.plainAttrs_list PySem.F.slot_list_append PySem.F.type_list_append mt_append (pv 2) (pa_cons (pe_callTy call_tuple_of (by rfl) T.tuple (by decide +kernel) (pa_cons (pe_slice sl_tupU (pv 0) (po_some (pv 3)) (po_some (pe_op op_add (pv 3) (pv 1)))) pa_nil)) pa_nil)))))
      (pss_one (ps_ret (pv 2)))), ?_⟩
    refine ⟨(by show 0 ≤ sizeLine; decide), fun l hl => ?_⟩
    have s1 : Same H (upd H l (.lst [])) := Same.new hl
    refine ⟨_, rfl, a, _, rfl, .inr (SqT.of (s1 _ _ ha)), _, _, rfl, rfl, _, rfl, 0, (xs.length : Int) + 1, 8, xs.length / 8 + 1, ?_, rgC8 hz, ?_⟩
    · rw [List.length_map]
    refine for_rangeC (lo := 0) (c := 8) (n := xs.length / 8 + 1) (fun i σ H2 => ∃ (v3 : Option V) (vs : List V), σ = [some (.ref a), some (.int 8), some (.ref l), v3] ∧ Same H H2 ∧ H2 l = some (.lst vs) ∧ Paired (TupI H2) vs (cutTo xs i))
      ⟨none, [], rfl, s1, upd_same, .nil⟩ ?_ ?_
    · rintro i σ H2 hi ⟨v3, vs, rfl, s2, g2, p2⟩
      have e8 : (0 : Int) + (i : Nat) * 8 = ((8 * i : Nat) : Int) := by omega
      rw [e8]
      refine ⟨_, rfl, .inl ⟨rfl, _, SqL.of g2⟩, ?_⟩
      refine ⟨_, rfl, _, rfl, _, rfl, _, rfl, _, rfl, _, _, rfl, rfl, _, rfl, a, _, rfl, s2 _ _ ha, fun b H3 s3 g3 => ?_⟩
      refine ⟨b, _, rfl, .inr ⟨SqT.of g3, ?_⟩⟩
      have g2' := s3 _ _ g2
      have hvl : vs.length = i := (Paired.length p2).trans (cutTo_len xs i)
      refine ⟨l, vs, .ref b, rfl, rfl, g2', by rw [hvl]; exact Nat.lt_of_le_of_lt (show i ≤ 10000 by omega) (by decide), ?_⟩
      have s4 : Same H (upd H3 l (.lst (vs ++ [.ref b]))) := fun c o e => by rw [upd_ne (ne_of_none e hl)]; exact (s2.trans s3) _ _ e
      have kt : KT0 H3 (upd H3 l (.lst (vs ++ [.ref b]))) := fun c ys e => by rw [upd_ne (ne_of e g2' (by intro z; cases z))]; exact e
      refine ⟨_, vs ++ [.ref b], rfl, s4, upd_same, ?_⟩
      rw [cutTo_more]
      refine paired_snoc (Paired.mapP p2 fun _ _ z => (z.kt (Same.kt s3)).kt kt) ⟨b, rfl, kt _ _ ?_⟩
      rw [g3]
      exact congrArg (fun z => some (HO.tup z)) (cutV_map xs (8 * i))
    · rintro σ H2 ⟨v3, vs, rfl, s2, g2, p2⟩
      exact ⟨_, rfl, k l H2 s2 hl ⟨vs, g2, p2⟩⟩
/-! ### cleared(half) -/
def spCleared : Sp := fun vs H Q _ => ∃ (v : V) (inn : Bool), vs = [v] ∧ HalfAt H v inn ∧ ∀ v' H', Same H H' → HalfAt H' v' inn → Q v' H'
theorem ok_cleared (T : Txt K w mg C) (D : Dfn K mg "cleared" s_cleared ["half"]) (G : Cl P w K mg base 1 "in_half" spInH) : Cl P w K mg base 2 "cleared" spCleared := by
  refine cl_of D cs_cleared (fun vs H Q E h => ?_) (fun f cdv A outer s H vs Q E hr h => ?_)
  · obtain ⟨a, xs, rfl, _⟩ := h
    rfl
  · obtain ⟨v, inn, rfl, ⟨a, e, rfl, he, ha⟩, k⟩ := h
    have nd := cs_cleared.nd
    refine ⟨_, pss_cons (ps_if (pt_cmpR op_eq (pe_callB call_len_seq (by rfl) T.len PySem.boot_len (pa_cons (pv 0) pa_nil)) pe_int (nomark _))
        (pss_one (ps_ret (pe_op op_catU (pe_tup (pa_cons pe_int (pa_cons pe_bl pa_nil))) (pe_slice sl_tupU (pv 0) (po_some pe_int) po_none)))) pss_nil)
      (pss_one (ps_ret (pe_cl0 G hr (by decide) rfl))), ?_⟩
    cases inn with
    | true =>
      refine ⟨_, rfl, a, _, rfl, .inr (SqT.of ha), rfl, _, rfl, bF (show decide (V.int ((3 : Nat) : Int) = V.int 4) = false from by decide) ?_⟩
      exact ⟨rfl, fun p t H' s1 g1 g2 => k _ _ s1 ⟨p, t, rfl, g1, g2⟩⟩
    | false =>
      refine ⟨_, rfl, a, _, rfl, .inr (SqT.of ha), rfl, _, rfl, bT (show decide (V.int ((4 : Nat) : Int) = V.int 4) = true from by decide) ?_⟩
      refine ⟨(by show 2 ≤ sizeLine; decide), fun t ht => ?_⟩
      refine ⟨_, rfl, 2, rfl, a, _, rfl, Same.new ht _ _ ha, fun b H3 s3 g3 => ?_⟩
      have s4 := (Same.new ht).trans s3
      refine ⟨t, b, _, _, rfl, rfl, s3 _ _ upd_same, g3, (by show 2 + 2 ≤ sizeLine; decide), fun c H4 s5 g5 => ?_⟩
      exact k _ _ (s4.trans s5) ⟨c, e, rfl, (s4.trans s5) _ _ he, g5⟩
end
end Plug
end
section
set_option Elab.async false
set_option linter.all false
set_option maxRecDepth 100000
set_option maxHeartbeats 4000000
namespace Plug
open PySem PySem.Spec PyProof.Rows L2 Mi
theorem rq_at0 (r : Rq) : (rqV r)[0]? = some (.str (wordS r.w)) := by unfold rqV; split <;> rfl
theorem placed_lt {n : Nat} : placed n = true ↔ ¬ n < 2 := by
  match n with
  | 0 => decide
  | 1 => decide
  | k + 2 => exact ⟨fun _ => by omega, fun _ => rfl⟩
theorem rq_at1 {r : Rq} (h : placed r.w = true) : (rqV r)[1]? = some (.int r.v) := by unfold rqV; rw [if_neg (placed_lt.mp h)]; rfl
theorem rq_len (r : Rq) : ((rqV r).length : Int) = 1 + (if placed r.w = true then 1 else 0) := by
  unfold rqV
  by_cases h : r.w < 2
  · rw [if_pos h, if_neg (fun z => placed_lt.mp z h)]; rfl
  · rw [if_neg h, if_pos (placed_lt.mpr h)]; rfl
section
variable {P : Program} {w : World} {K : PySem.W.Frag} {mg : Str → Option Value} {base : Heap} {C : Addr}
theorem Tabs.form {fo pl mo : Addr} (t : Tabs K w mg fo pl mo) {i : Nat} (h : i < 8) : ∃ b, KDct K w fo (wordS i) (.ref b) ∧ ∀ H, SqT K H b ((formRow i).map V.int) := by
  obtain ⟨b, e, q⟩ := t.vF i h
  obtain ⟨es, n, d⟩ := t.dF
  exact ⟨b, ⟨es, n, _, d.at_, d.lit, e, rfl⟩, q⟩
theorem Tabs.place {fo pl mo : Addr} (t : Tabs K w mg fo pl mo) {i : Nat} (h : i < 8) (p : placed i = true) : KDct K w pl (wordS i) (.int (placeN i)) := by
  obtain ⟨r, e, q, u⟩ := t.vP i h
  obtain ⟨es, n, d⟩ := t.dP
  rw [p] at q
  obtain ⟨v, rfl⟩ := Option.isSome_iff_exists.mp q
  obtain ⟨t, rfl⟩ := u v rfl
  exact ⟨es, n, _, d.at_, d.lit, e, ⟨t, rfl⟩⟩
theorem Tabs.mostK {fo pl mo : Addr} (t : Tabs K w mg fo pl mo) {i : Nat} (h : i < 8) (p : placed i = true) : KDct K w mo (wordS i) (.int (most i)) := by
  obtain ⟨tk, e⟩ := t.vM i h p
  obtain ⟨es, n, d⟩ := t.dM
  exact ⟨es, n, _, d.at_, d.lit, e, ⟨tk, rfl⟩⟩
/-! ### need_request(request) -/
def spNeedR : Sp := fun vs H Q _ => ∃ (v : V) (r : Rq), vs = [v] ∧ ReqAt H v r ∧ okRq r ∧ ∀ H', Same H H' → Q .non H'
theorem ok_need_request (T : Txt K w mg C) (D : Dfn K mg "need_request" s_need_request ["request"]) : Cl P w K mg base 1 "need_request" spNeedR := by
  refine cl_of D cs_need_request (fun vs H Q E h => ?_) (fun f cdv A outer s H vs Q E hr h => ?_)
  · obtain ⟨v, r, rfl, _⟩ := h
    rfl
  · obtain ⟨v, r, rfl, ⟨a, rfl, ha⟩, ⟨h8, h0, hm⟩, k⟩ := h
    have nd := cs_need_request.nd
    obtain ⟨fo, pl, mo, t⟩ := T.tabs
    obtain ⟨fe, fn, dF⟩ := t.dF
    obtain ⟨pe, pn, dP⟩ := t.dP
    have gF := t.gF
    have gP := t.gP
    have gM := t.gM
    refine ⟨_, pss_cons (ps_set (i := 1) nd rfl (.inl rfl) (pe_ix ix_tup (pv 0) pe_int (fun _ _ => rfl)))
      (pss_cons (ps_if (PW.pt (pw_or (pt_cmpR (op_notIn_kd dF) (pv 1) (pe_glob (v := .ref fo) rfl gF rfl) (by rfl)) (pw_or1 (pt_cmpR op_ne (pe_callB call_len_seq (by rfl) T.len PySem.boot_len (pa_cons (pv 0) pa_nil))
          (pe_op op_add pe_int (pe_callTy call_int1 (by rfl) T.int boot_int (pa_cons (pe_cmpR (op_in_kd dP) (pv 1) (pe_glob (v := .ref pl) rfl gP rfl) (by rfl)) pa_nil))) (nomark _))))) pss_never pss_nil)
      (pss_one (ps_if (PW.pt (pw_and (pt_cmpR (op_in_kd dP) (pv 1) (pe_glob (v := .ref pl) rfl gP rfl) (by rfl)) (pw_and1 (pt_not (pt_chain op_le op_le pe_int (pe_ix ix_tup (pv 0) pe_int (fun _ _ => rfl)) (pe_ix ix_kdict (pe_glob (v := .ref mo) rfl gM rfl) (pv 1) (fun _ _ => rfl))))))) pss_never pss_nil))), ?_⟩
    obtain ⟨b, eF, _⟩ := t.vF r.w h8
    obtain ⟨rP, eP, qP, _⟩ := t.vP r.w h8
    refine ⟨_, rfl, a, _, 0, _, rfl, rfl, SqT.of ha, at_of (j := 0) rfl (rq_at0 r), ?_⟩
    refine ⟨_, rfl, _, _, rfl, rfl, eF, _, rfl, bF rfl ?_⟩
    refine ⟨_, rfl, a, _, rfl, .inr (SqT.of ha), _, rfl, _, _, rfl, rfl, eP, .inr ⟨_, rfl, _, _, rfl, rfl, rfl, _, rfl, bF ?_ ?_⟩⟩
    · refine nd_eq ?_
      rw [qP]
      exact congrArg V.int (rq_len r)
    refine ⟨_, rfl, _, _, rfl, rfl, eP, _, rfl, ?_⟩
    rw [qP]
    cases hp : placed r.w with
    | false => exact bF rfl (bF rfl (k H (Same.refl H)))
    | true =>
      refine bT rfl ⟨_, rfl, a, _, 1, _, rfl, rfl, SqT.of ha, at_of (j := 1) rfl (rq_at1 hp), ?_⟩
      refine ⟨_, _, rfl, rfl, _, rfl, bT (decide_eq_true h0) ?_⟩
      refine ⟨_, rfl, _, _, _, rfl, rfl, t.mostK h8 hp, _, _, rfl, rfl, _, rfl, bF (by rw [decide_eq_true hm]; rfl) ?_⟩
      exact k H (Same.refl H)
end
end Plug
end
section
set_option Elab.async false
set_option linter.all false
set_option maxRecDepth 100000
set_option maxHeartbeats 4000000
namespace Plug
open PySem PySem.Spec PyProof.Rows L2 Mi
theorem dpAll_ints {K : PySem.W.Frag} {H : Hp} : ∀ xs : List Int, DpAll K H (xs.map V.int) (xs.map PyData.int)
  | [] => .nil
  | _ :: r => .cons (.int _) (dpAll_ints r)
theorem dp_ints {K : PySem.W.Frag} {H : Hp} {a : Addr} {xs : List Int} (h : H a = some (.tup (xs.map V.int))) : Dp K H (.ref a) (.tuple (xs.map PyData.int)) := .tup (SqT.of h) (dpAll_ints xs)
theorem eqvAll_ints : ∀ xs ys : List Int, PyData.eqvAll (xs.map .int) (ys.map .int) = decide (xs = ys)
  | [], [] => by simp [PyData.eqvAll]
  | [], _ :: _ => by simp [PyData.eqvAll]
  | _ :: _, [] => by simp [PyData.eqvAll]
  | x :: xs, y :: ys => by
    show PyData.eqvAll (.int x :: xs.map .int) (.int y :: ys.map .int) = _
    rw [PyData.eqvAll, eqvAll_ints xs ys, PyData.eqv]
    by_cases h : x = y <;> by_cases h2 : xs = ys <;> simp [h, h2]
theorem eqv_ints (xs ys : List Int) : PyData.eqv (.tuple (xs.map .int)) (.tuple (ys.map .int)) = decide (xs = ys) := by rw [PyData.eqv, eqvAll_ints]
theorem canLay_ints : ∀ xs : List Int, PyData.canLayAll0 (xs.map .int) = true
  | [] => by simp [PyData.canLayAll0]
  | x :: xs => by
    show PyData.canLayAll0 (.int x :: xs.map .int) = true
    rw [PyData.canLayAll0, canLay_ints xs]
    simp [PyData.canLay0]
theorem shaped_intsT (xs : List Int) : SeqAt.shaped (.tuple (xs.map .int)) = true := by
  unfold SeqAt.shaped
  have e : (PyData.tuple (xs.map .int)).depth ≤ 64 := by
    rw [PyData.depth, PySem.W.depth_ints]
    omega
  rw [decide_eq_true e, PyData.canLay0, canLay_ints]
  rfl
def placeI : Nat → Nat
  | 2 => 2
  | 3 => 2
  | _ => 4
theorem placeN_I (i : Nat) : placeN i = ((placeI i : Nat) : Int) := by
  match i with
  | 0 => rfl
  | 1 => rfl
  | 2 => rfl
  | 3 => rfl
  | n + 4 => rfl
theorem formRow_len (i : Nat) : (formRow i).length = 8 := reqBytes_len _
theorem placeI_lt (i : Nat) : placeI i < 8 := by unfold placeI; split <;> decide
theorem bytes_set {i : Nat} (h : i < 8) (p : placed i = true) (v : Int) : reqBytes ⟨i, v⟩ = (formRow i).set (placeI i) v := by
  rcases w_cases h with rfl | rfl | rfl | rfl | rfl | rfl | rfl | rfl <;> first | rfl | cases p
theorem bytes_form {i : Nat} (h : i < 8) (p : placed i = false) (v : Int) : reqBytes ⟨i, v⟩ = formRow i := by
  rcases w_cases h with rfl | rfl | rfl | rfl | rfl | rfl | rfl | rfl <;> first | rfl | cases p
theorem bytes_at {i : Nat} (h : i < 8) (p : placed i = true) (v : Int) : (reqBytes ⟨i, v⟩)[placeI i]? = some v := by
  rcases w_cases h with rfl | rfl | rfl | rfl | rfl | rfl | rfl | rfl <;> first | rfl | cases p
theorem most_zero {i : Nat} (p : placed i = false) : most i = 0 := by
  match i, p with
  | 0, _ => rfl
  | 1, _ => rfl
theorem ask_in {r : Rq} (h : r.w < 8) : (if false = true then !inV (V.str (wordS r.w)) [V.str "device", V.str "settings", V.str "port"] else inV (V.str (wordS r.w)) [V.str "device", V.str "settings", V.str "port"]) = decide (asksR r) := by
  have e : decide (asksR r) = decide (r.w = 0 ∨ r.w = 1 ∨ r.w = 5) := decide_eq_decide.mpr Iff.rfl
  rw [e]
  obtain ⟨i, v⟩ := r
  have h : i < 8 := h
  show (if false = true then !inV (V.str (wordS i)) [V.str "device", V.str "settings", V.str "port"] else inV (V.str (wordS i)) [V.str "device", V.str "settings", V.str "port"]) = decide (i = 0 ∨ i = 1 ∨ i = 5)
  rcases w_cases h with rfl | rfl | rfl | rfl | rfl | rfl | rfl | rfl <;> decide +kernel
theorem nd8 {n : Nat} (h : n = 8) : decide (V.int (n : Int) = V.int 8) = true := by rw [h]; exact decide_eq_true rfl
theorem words_at {i : Nat} {z : Str} (h : wordsL[i]? = some z) : i < 8 ∧ z = wordS i := by
  have hi : i < 8 := (List.getElem?_eq_some_iff.mp h).1
  refine ⟨hi, ?_⟩
  rcases w_cases hi with rfl | rfl | rfl | rfl | rfl | rfl | rfl | rfl <;> exact (Option.some.inj h).symm
section
variable {P : Program} {w : World} {K : PySem.W.Frag} {mg : Str → Option Value} {base : Heap} {C : Addr}
/-! ### request_bytes(request) -/
def spBytes : Sp := fun vs H Q _ => ∃ (v : V) (r : Rq), vs = [v] ∧ ReqAt H v r ∧ okRq r ∧ ∀ q H', Same H H' → H' q = some (.tup ((reqBytes r).map V.int)) → Q (.ref q) H'
theorem ok_request_bytes (T : Txt K w mg C) (D : Dfn K mg "request_bytes" s_request_bytes ["request"]) (G : Cl P w K mg base 1 "need_request" spNeedR) : Cl P w K mg base 2 "request_bytes" spBytes := by
  refine cl_of D cs_request_bytes (fun vs H Q E h => ?_) (fun f cdv A outer s H vs Q E hr h => ?_)
  · obtain ⟨v, r, rfl, _⟩ := h
    rfl
  · obtain ⟨v, r, rfl, hq, hok, k⟩ := h
    have nd := cs_request_bytes.nd
    obtain ⟨fo, pl, mo, t⟩ := T.tabs
    obtain ⟨pe, pn, dP⟩ := t.dP
    have gF := t.gF
    have gP := t.gP
    refine ⟨_, pss_cons (ps_expr (pe_cl G hr (by decide) rfl (pa_cons (pv 0) pa_nil)))
      (pss_cons (ps_set (i := 1) nd rfl (.inl rfl) (pe_callTy call_list_of (by rfl) T.list (by decide +kernel) (pa_cons (pe_ix ix_kdict (pe_glob (v := .ref fo) rfl gF rfl) (pe_ix ix_tup (pv 0) pe_int (fun _ _ => rfl)) (fun _ _ => rfl)) pa_nil)))
      (pss_cons (ps_if (pt_cmpR (op_in_kd dP) (pe_ix ix_tup (pv 0) pe_int (fun _ _ => rfl)) (pe_glob (v := .ref pl) rfl gP rfl) (by rfl))
        (pss_one (ps_asg (pe_ix ix_tup (pv 0) pe_int (fun _ _ => rfl)) (pg_sub (pv 1) (pe_ix ix_kdict (pe_glob (v := .ref pl) rfl gP rfl) (pe_ix ix_tup (pv 0) pe_int (fun _ _ => rfl)) (fun _ _ => rfl)) set_list))) pss_nil)
      (pss_one (ps_ret (pe_callTy call_tuple_of (by rfl) T.tuple (by decide +kernel) (pa_cons (pv 1) pa_nil)))))), ?_⟩
    refine ⟨_, rfl, v, r, rfl, hq, hok, fun H1 s1 => ?_⟩
    obtain ⟨a, rfl, ha⟩ := hq
    have h8 := hok.1
    obtain ⟨b, hb, qb⟩ := t.form h8
    obtain ⟨rP, eP, qP, _⟩ := t.vP r.w h8
    refine ⟨_, rfl, a, _, 0, _, rfl, rfl, SqT.of (s1 _ _ ha), at_of (j := 0) rfl (rq_at0 r), _, _, _, rfl, rfl, hb, b, _, rfl, .inr (qb _), fun l hl => ?_⟩
    have s2 := s1.trans (Same.new (o := .lst ((formRow r.w).map V.int)) hl)
    refine ⟨_, rfl, a, _, 0, _, rfl, rfl, SqT.of (s2 _ _ ha), at_of (j := 0) rfl (rq_at0 r), _, _, rfl, rfl, eP, _, rfl, ?_⟩
    rw [qP]
    obtain ⟨rw_, rv⟩ := r
    cases hp : placed rw_ with
    | false =>
      refine bF rfl ?_
      refine ⟨_, rfl, l, _, rfl, .inl ⟨SqL.of upd_same, fun q hq => k q _ (s2.trans (Same.new hq)) ?_⟩⟩
      rw [upd_same, bytes_form h8 hp]
    | true =>
      refine bT rfl ?_
      refine ⟨_, rfl, a, _, 1, _, rfl, rfl, SqT.of (s2 _ _ ha), at_of (j := 1) rfl (rq_at1 (r := ⟨rw_, rv⟩) hp), ?_⟩
      refine ⟨_, rfl, _, rfl, a, _, 0, _, rfl, rfl, SqT.of (s2 _ _ ha), at_of (j := 0) rfl (rq_at0 ⟨rw_, rv⟩), _, _, _, rfl, rfl, t.place h8 hp, ?_⟩
      refine ⟨l, _, _, placeI rw_, rfl, rfl, upd_same, ?_, ?_⟩
      · rw [placeN_I, List.length_map, formRow_len]
        have := placeI_lt rw_
        revert this
        generalize placeI rw_ = j
        intro hj
        unfold ixN
        rw [if_pos (by omega), if_pos (by omega), Int.toNat_natCast]
      · refine ⟨_, rfl, l, _, rfl, .inl ⟨SqL.of upd_same, fun q hq => k q _ ?_ ?_⟩⟩
        · have nl : H1 l = none := hl
          exact fun c o e => by
            rw [upd_ne (ne_of_none (by rw [upd_ne (ne_of_none (s1 _ _ e) nl), upd_ne (ne_of_none (s1 _ _ e) nl)]; exact s1 _ _ e) hq), upd_ne (ne_of_none (s1 _ _ e) nl), upd_ne (ne_of_none (s1 _ _ e) nl)]
            exact s1 _ _ e
        · rw [upd_same, bytes_set h8 hp, List.map_set]
/-! ### asks(request) -/
def spAsks : Sp := fun vs H Q _ => ∃ (v : V) (r : Rq), vs = [v] ∧ ReqAt H v r ∧ okRq r ∧ ∀ H', Same H H' → Q (.bl (decide (asksR r))) H'
theorem ok_asks (T : Txt K w mg C) (D : Dfn K mg "asks" s_asks ["request"]) (G : Cl P w K mg base 1 "need_request" spNeedR) : Cl P w K mg base 2 "asks" spAsks := by
  refine cl_of D cs_asks (fun vs H Q E h => ?_) (fun f cdv A outer s H vs Q E hr h => ?_)
  · obtain ⟨v, r, rfl, _⟩ := h
    rfl
  · obtain ⟨v, r, rfl, hq, hok, k⟩ := h
    have nd := cs_asks.nd
    obtain ⟨aa, ma, qa⟩ := T.asking
    refine ⟨_, pss_cons (ps_expr (pe_cl G hr (by decide) rfl (pa_cons (pv 0) pa_nil)))
      (pss_one (ps_ret (pe_cmpR op_in_seq (pe_ix ix_tup (pv 0) pe_int (fun _ _ => rfl)) (pe_glob (v := .ref aa) rfl ma rfl) (by rfl)))), ?_⟩
    refine ⟨_, rfl, v, r, rfl, hq, hok, fun H1 s1 => ?_⟩
    obtain ⟨a, rfl, ha⟩ := hq
    refine ⟨_, rfl, a, _, 0, _, rfl, rfl, SqT.of (s1 _ _ ha), at_of (j := 0) rfl (rq_at0 r), aa, _, rfl, .inr (qa _), rfl, rfl, ?_⟩
    show Q (.bl _) _
    rw [ask_in hok.1]
    exact k _ s1
/-! ### read_request(row) -/
structure Clx (P : Program) (w : World) (K : PySem.W.Frag) (mg : Str → Option Value) (base : Heap) (k : Nat) (x : Str) (sp : Sp) : Prop where
  ex : ∃ f fd ps, FnOk P w K mg base (L2.CX P w) k f fd ps sp ∧ mg x = some (.ref f) ∧ PySem.W.keepIn K (.ref f) = true ∧ Binds K fd ps []
theorem clx_of {x : Str} {st : Stmt} {N ps : List Str} {k : Nat} {sp : Sp} (D : Dfn K mg x st ps) (S : FnScope N ps (defScope st)) (len : ∀ vs H Q E, sp vs H Q E → vs.length = ps.length)
    (hbody : ∀ (f : Addr) (cdv : Value) (A : Around) (outer : List Env) (s : Shared) (H : Hp) (vs : List V) (Q : VK) (E : XK), Room k (A.deeper (envOfC x (defScope st) s.heap.objs.size f cdv)) → sp vs H Q E →
      ∃ t, PSs (cxOf (L2.CX P w) P w K mg base N x (defScope st) f cdv A outer s H E) (defBody st) t ∧ t { nx := fun _ H' => Q .non H', rt := Q } (start N vs) H) : Clx P w K mg base (k + 1) x sp := by
  obtain ⟨f, fd, F, hm, hb⟩ := D.ex
  exact ⟨f, fd, ps, F.okX S len (hbody f), hm, F.kp, hb⟩
theorem ps_nox {X : Cx} {s : Stmt} {t : TS} (h : PS X.nox s t) : PS X s t := ⟨fun pins s σ H D I hw =>
  wpAny_mono (h.run pins s σ H D (I.wish _) hw) (fun _ _ q => q.unwish) fun _ _ z => False.elim z⟩
def spRead (Cb : Addr) : Sp := fun vs H Q E => ∃ (a : Addr) (row : List Int), vs = [.ref a] ∧ H a = some (.tup (row.map V.int)) ∧ row.length = 8 ∧
  (∀ r, IsReq row (some r) → ∀ v H', Same H H' → ReqAt H' v r → Q v H') ∧ (IsReq row none → ∀ H', Same H H' → E (.ref Cb) none H')
theorem ok_read_request {Cb : Addr} (T : Txt K w mg C) (B : Bad K mg Cb) (D : Dfn K mg "read_request" s_read_request ["row"]) (G : Cl P w K mg base 2 "request_bytes" spBytes) : Clx P w K mg base 3 "read_request" (spRead Cb) := by
  refine clx_of D cs_read_request (fun vs H Q E h => ?_) (fun f cdv A outer s H vs Q E hr h => ?_)
  · obtain ⟨v, r, rfl, _⟩ := h
    rfl
  · obtain ⟨a, row, rfl, ha, h8, kY, kN⟩ := h
    have nd := cs_read_request.nd
    obtain ⟨fo, pl, mo, t⟩ := T.tabs
    obtain ⟨pe, pn, dP⟩ := t.dP
    have gF := t.gF
    have gP := t.gP
    have gM := t.gM
    have hu : _ + 64 < cLine := hr.units
    refine ⟨_, pss_cons (ps_nox (ps_for PassesOwn.never rfl (pi_keysW (pe_glob (v := .ref fo) rfl gF rfl)) (pg_name (i := 1) nd rfl (.inl rfl))
        (pss_cons (ps_set (i := 2) nd rfl (.inl rfl) (pe_tup (pa_cons (pv 1) pa_nil)))
        (pss_cons (ps_if (pt_cmpR (op_in_kd dP) (pv 1) (pe_glob (v := .ref pl) rfl gP rfl) (by rfl))
          (pss_cons (ps_set (i := 2) nd rfl (.inl rfl) (pe_tup (pa_cons (pv 1) (pa_cons (pe_ifExp (pt_cmpR op_eq (pe_callB call_len_seq (by rfl) T.len PySem.boot_len (pa_cons (pv 0) pa_nil)) pe_int (nomark _))
              (pe_ix ix_tup (pv 0) (pe_ix ix_kdict (pe_glob (v := .ref pl) rfl gP rfl) (pv 1) (fun _ _ => rfl)) (fun _ _ => rfl)) (pe_op op_sub pe_int pe_int)) pa_nil))))
          (pss_one (ps_if (pt_not (pt_chain op_le op_le pe_int (pe_ix ix_tup (pv 2) pe_int (fun _ _ => rfl)) (pe_ix ix_kdict (pe_glob (v := .ref mo) rfl gM rfl) (pv 1) (fun _ _ => rfl)))) (pss_one ps_continue) pss_nil))) pss_nil)
        (pss_one (ps_if (pt_cmpR (op_eqD hu) (pe_cl G hr (by decide) rfl (pa_cons (pv 2) pa_nil)) (pv 0) (nomark _)) (pss_one (ps_ret (pv 2))) pss_nil))))))
      (pss_one (ps_raise rfl (takes_of rfl rfl rfl rfl) (pmk_own PySem.F.excBase_ValueError B.xP B.gP B.kP (raises_own B.bP B.tP) (by exact rfl)))), ?_⟩
    refine ⟨fo, wordsL, rfl, t.kF, for_keysW (fun i σ H2 => (∃ v1 v2 : Option V, σ = [some (.ref a), v1, v2]) ∧ Same H H2 ∧ ∀ r, r.w < i → okRq r → reqBytes r ≠ row)
      ⟨⟨none, none, rfl⟩, Same.refl H, fun r z => absurd z (Nat.not_lt_zero _)⟩ ?_ ?_⟩
    · rintro i z σ H2 hz ⟨⟨v1, v2, rfl⟩, s2, no⟩
      obtain ⟨hi, rfl⟩ := words_at hz
      obtain ⟨rP, eP, qP, _⟩ := t.vP i hi
      refine ⟨_, rfl, (by show 1 ≤ sizeLine; decide), fun p1 h1 => ?_⟩
      have s3 := s2.trans (Same.new (o := .tup [V.str (wordS i)]) h1)
      refine ⟨_, rfl, _, _, rfl, rfl, eP, _, rfl, ?_⟩
      rw [qP]
      cases hp : placed i with
      | false =>
        refine bF rfl ?_
        have hok : okRq ⟨i, 0⟩ := ⟨hi, Int.le_refl _, by show (0 : Int) ≤ most i; rw [most_zero hp]; exact Int.le_refl _⟩
        have hrv : rqV ⟨i, 0⟩ = [V.str (wordS i)] := if_pos (show i < 2 from by
          by_cases z : i < 2
          · exact z
          · rw [placed_lt.mpr z] at hp; cases hp)
        have hq : ReqAt (upd H2 p1 (.tup [V.str (wordS i)])) (.ref p1) ⟨i, 0⟩ := ⟨p1, rfl, by rw [hrv]; exact upd_same⟩
        refine ⟨_, rfl, .ref p1, ⟨i, 0⟩, rfl, hq, hok, fun q H4 s4 g4 => ?_⟩
        have s5 := s3.trans s4
        refine ⟨_, rfl, _, _, dp_ints g4, dp_ints (s5 _ _ ha), shaped_intsT _, shaped_intsT _, _, rfl, ?_⟩
        rw [eqv_ints]
        by_cases e : reqBytes ⟨i, 0⟩ = row
        · exact bT (decide_eq_true e) ⟨_, rfl, kY ⟨i, 0⟩ ⟨hok, e⟩ _ _ s5 (hq.kt (Same.kt s4))⟩
        · refine bF (decide_eq_false e) ⟨⟨_, _, rfl⟩, s5, fun r hr kr er => ?_⟩
          by_cases z : r.w < i
          · exact no r z kr er
          · obtain ⟨w', v'⟩ := r
            have e1 : w' = i := by have : w' < i + 1 := hr; have : ¬ w' < i := z; omega
            subst e1
            exact e (by rw [bytes_form hi hp 0, ← bytes_form hi hp v']; exact er)
      | true =>
        refine bT rfl ?_
        obtain ⟨x, hx⟩ : ∃ x, row[placeI i]? = some x := ⟨_, List.getElem?_eq_getElem (by rw [h8]; exact placeI_lt i)⟩
        have hxm : (row.map V.int)[placeI i]? = some (.int x) := by rw [List.getElem?_map, hx]; rfl
        have only : ∀ v', reqBytes ⟨i, v'⟩ = row → v' = x := fun v' e => by
          have := bytes_at hi hp v'
          rw [e, hx] at this
          exact (Option.some.inj this).symm
        refine ⟨_, rfl, _, rfl, a, _, rfl, .inr (SqT.of (s3 _ _ ha)), rfl, _, rfl, bT (nd8 (by rw [List.length_map, h8])) ?_⟩
        refine ⟨_, rfl, _, rfl, _, _, _, rfl, rfl, t.place hi hp, a, _, _, _, rfl, rfl, SqT.of (s3 _ _ ha), at_of (placeN_I i) hxm, (by show 2 ≤ sizeLine; decide), fun p2 h2 => ?_⟩
        have hrv : rqV ⟨i, x⟩ = [V.str (wordS i), .int x] := if_neg (placed_lt.mp hp)
        have s4 := s3.trans (Same.new (o := .tup [V.str (wordS i), .int x]) h2)
        refine ⟨_, rfl, p2, _, 1, _, rfl, rfl, SqT.of upd_same, rfl, ?_⟩
        refine ⟨_, _, rfl, rfl, _, rfl, ?_⟩
        have skip : ¬ okRq ⟨i, x⟩ → ∀ r, r.w < i + 1 → okRq r → reqBytes r ≠ row := fun nk r hr kr er => by
          by_cases z : r.w < i
          · exact no r z kr er
          · obtain ⟨w', v'⟩ := r
            have e1 : w' = i := by have : w' < i + 1 := hr; have : ¬ w' < i := z; omega
            subst e1
            rw [only v' er] at kr
            exact nk kr
        by_cases g0 : 0 ≤ x
        · refine bT (decide_eq_true g0) ?_
          refine ⟨_, rfl, _, _, _, rfl, rfl, t.mostK hi hp, _, _, rfl, rfl, _, rfl, ?_⟩
          by_cases g1 : x ≤ most i
          · refine bF (by rw [decide_eq_true g1]; rfl) ?_
            have hok : okRq ⟨i, x⟩ := ⟨hi, g0, g1⟩
            have hq : ReqAt (upd (upd H2 p1 (.tup [V.str (wordS i)])) p2 (.tup [V.str (wordS i), .int x])) (.ref p2) ⟨i, x⟩ := ⟨p2, rfl, by rw [hrv]; exact upd_same⟩
            refine ⟨_, rfl, .ref p2, ⟨i, x⟩, rfl, hq, hok, fun q H4 s5 g4 => ?_⟩
            have s6 := s4.trans s5
            refine ⟨_, rfl, _, _, dp_ints g4, dp_ints (s6 _ _ ha), shaped_intsT _, shaped_intsT _, _, rfl, ?_⟩
            rw [eqv_ints]
            by_cases e : reqBytes ⟨i, x⟩ = row
            · exact bT (decide_eq_true e) ⟨_, rfl, kY ⟨i, x⟩ ⟨hok, e⟩ _ _ s6 (hq.kt (Same.kt s5))⟩
            · refine bF (decide_eq_false e) ⟨⟨_, _, rfl⟩, s6, fun r hr kr er => ?_⟩
              by_cases z : r.w < i
              · exact no r z kr er
              · obtain ⟨w', v'⟩ := r
                have e1 : w' = i := by have : w' < i + 1 := hr; have : ¬ w' < i := z; omega
                subst e1
                exact e (by rw [← only v' er]; exact er)
          · exact bT (by rw [decide_eq_false g1]; rfl) ⟨⟨_, _, rfl⟩, s4, skip fun k => g1 k.2.2⟩
        · refine bF (decide_eq_false g0) ⟨_, rfl, bT rfl ?_⟩
          exact ⟨⟨_, _, rfl⟩, s4, skip fun k => g0 k.2.1⟩
    · rintro σ H2 ⟨_, s2, no⟩
      exact kN (fun r hr => no r hr.1 hr) H2 s2
end
end Plug
end
section
set_option Elab.async false
set_option linter.all false
set_option maxRecDepth 100000
set_option maxHeartbeats 4000000
/-! Th: the thing as it stands in the heap; frames. -/
namespace Plug
open PySem PySem.Spec PyProof.Rows L2 Mi
/-! ### frames that keep the tuples -/
structure Fr (l : List Addr) (H H' : Hp) : Prop where
  ke : Ke l H H'
  kt : KT0 H H'
theorem Fr.refl (l : List Addr) (H : Hp) : Fr l H H := ⟨Ke.refl l H, fun _ _ h => h⟩
theorem Fr.trans {l : List Addr} {H H1 H2 : Hp} (a : Fr l H H1) (b : Fr l H1 H2) : Fr l H H2 := ⟨a.ke.trans b.ke, fun c xs h => b.kt c xs (a.kt c xs h)⟩
theorem Fr.mono {l l' : List Addr} {H H' : Hp} (a : Fr l H H') (h : ∀ b ∈ l, b ∈ l') : Fr l' H H' := ⟨a.ke.mono h, a.kt⟩
theorem Fr.of {l : List Addr} {H H' : Hp} (s : Same H H') : Fr l H H' := ⟨Ke.of s l, Same.kt s⟩
theorem Fr.put {l : List Addr} {H : Hp} {p : Addr} {o o' : HO} (h : p ∈ l) (e : H p = some o) (n : ∀ xs, o ≠ .tup xs) : Fr l H (upd H p o') :=
  ⟨Ke.put h, fun c xs q => by rw [upd_ne (ne_of q e fun z => n xs z.symm)]; exact q⟩
theorem Fr.puts {l : List Addr} {H H1 : Hp} {p : Addr} {o o' : HO} (a : Fr l H H1) (h : p ∈ l) (e : H1 p = some o) (n : ∀ xs, o ≠ .tup xs) : Fr l H (upd H1 p o') := a.trans (Fr.put h e n)
theorem Fr.and {l : List Addr} {H H1 H2 : Hp} (a : Fr l H H1) (s : Same H1 H2) : Fr l H H2 := a.trans (Fr.of s)
theorem Fr.new {l : List Addr} {H H1 : Hp} {p : Addr} {o : HO} (a : Fr l H H1) (h : H1 p = none) : Fr l H (upd H1 p o) := a.trans (Fr.of (Same.new h))
theorem Fr.at {l : List Addr} {H H' : Hp} (a : Fr l H H') {b : Addr} {o : HO} (e : H b = some o) (n : b ∉ l) : H' b = some o := a.ke b o e n
theorem Fr.same {H H' : Hp} (k : Fr [] H H') : Same H H' := k.ke.same
theorem Fr.none {l : List Addr} {H H' : Hp} (a : Fr l H H') {p : Addr} (h : H' p = .none) (n : p ∉ l) : H p = .none := a.ke.fresh h n
theorem not1 {a b : Addr} (h : a ≠ b) : a ∉ [b] := by simpa using h
theorem not2 {a b c : Addr} (h : a ≠ b) (h' : a ≠ c) : a ∉ [b, c] := by simp [h, h']
theorem not3 {a b c d : Addr} (h : a ≠ b) (h' : a ≠ c) (h'' : a ≠ d) : a ∉ [b, c, d] := by simp [h, h', h'']
/-! ### the thing -/
def thF (fa hp : Addr) (n lv : Int) (hd : Addr) (sg : Str) (rq : V) (mk : Int) (pc wl : Addr) : List (Str × V) :=
  [("form", .ref fa), ("hub_ports", .ref hp), ("number", .int n), ("level", .int lv), ("halves", .ref hd), ("stage", .str sg), ("request", rq), ("mark", .int mk), ("pieces", .ref pc), ("wishes", .ref wl)]
section
variable {fa hp hd pc wl fa' hp' hd' pc' wl' : Addr} {n lv n' lv' mk mk' : Int} {sg sg' : Str} {rq rq' : V}
theorem th_number : putF "number" (.int n') (thF fa hp n lv hd sg rq mk pc wl) = thF fa hp n' lv hd sg rq mk pc wl := rfl
theorem th_level : putF "level" (.int lv') (thF fa hp n lv hd sg rq mk pc wl) = thF fa hp n lv' hd sg rq mk pc wl := rfl
theorem th_halves : putF "halves" (.ref hd') (thF fa hp n lv hd sg rq mk pc wl) = thF fa hp n lv hd' sg rq mk pc wl := rfl
theorem th_stage : putF "stage" (.str sg') (thF fa hp n lv hd sg rq mk pc wl) = thF fa hp n lv hd sg' rq mk pc wl := rfl
theorem th_request : putF "request" rq' (thF fa hp n lv hd sg rq mk pc wl) = thF fa hp n lv hd sg rq' mk pc wl := rfl
theorem th_mark : putF "mark" (.int mk') (thF fa hp n lv hd sg rq mk pc wl) = thF fa hp n lv hd sg rq mk' pc wl := rfl
theorem th_pieces : putF "pieces" (.ref pc') (thF fa hp n lv hd sg rq mk pc wl) = thF fa hp n lv hd sg rq mk pc' wl := rfl
theorem th_len : (thF fa hp n lv hd sg rq mk pc wl).length < 1000 := show 10 < 1000 from by decide
end
/-- the rest of the thing: what the instance's fields name -/
structure ThR (p : Pl) (H : Hp) (fa hp hd pc wl : Addr) (rq : V) (s : Ms) (n : Nat) : Prop where
  plan : PlanAt H fa p
  ports : ∃ vs, H hp = some (.lst vs) ∧ (vs.length : Int) = p.ports ∧ ∀ v ∈ vs, TupI H v [0, 0]
  halves : ∃ kvs, H hd = some (.dT kvs) ∧ HalvesAt H kvs (keysL p s.lv)
  pieces : PcsT H pc s.pcs
  wish : ∃ vs, H wl = some (.lst vs) ∧ vs.length ≤ n
  req : ∀ r, s.rq = some r → ReqAt H rq r
  apart : hp ≠ wl
def ThAt (C : Addr) (p : Pl) (H : Hp) (x hp hd wl : Addr) (s : Ms) (n : Nat) : Prop := ∃ dx fa pc rq, H x = some (.ins C dx (thF fa hp s.num s.lv hd (sgS s.sg) rq s.mark pc wl)) ∧ ThR p H fa hp hd pc wl rq s n
theorem ThR.fr {p : Pl} {H H' : Hp} {fa hp hd pc wl : Addr} {rq : V} {s : Ms} {n : Nat} {l : List Addr} (h : ThR p H fa hp hd pc wl rq s n) (f : Fr l H H') (n1 : hp ∉ l) (n2 : hd ∉ l) (n3 : wl ∉ l) : ThR p H' fa hp hd pc wl rq s n := by
  obtain ⟨h1, ⟨vs, e1, e2, e3⟩, ⟨kvs, e4, e5⟩, h4, ⟨ws, e6, e7⟩, h6, h7⟩ := h
  exact ⟨h1.kt f.kt, ⟨vs, f.at e1 n1, e2, fun v m => (e3 v m).kt f.kt⟩, ⟨kvs, f.at e4 n2, e5.kt f.kt⟩, h4.kt f.kt, ⟨ws, f.at e6 n3, e7⟩, fun r e => (h6 r e).kt f.kt, h7⟩
theorem ThAt.fr {C : Addr} {p : Pl} {H H' : Hp} {x hp hd wl : Addr} {s : Ms} {n : Nat} {l : List Addr} (h : ThAt C p H x hp hd wl s n) (f : Fr l H H') (n0 : x ∉ l) (n1 : hp ∉ l) (n2 : hd ∉ l) (n3 : wl ∉ l) : ThAt C p H' x hp hd wl s n := by
  obtain ⟨dx, fa, pc, rq, e, r⟩ := h
  exact ⟨dx, fa, pc, rq, f.at e n0, r.fr f n1 n2 n3⟩
theorem ThR.more {p : Pl} {H : Hp} {fa hp hd pc wl : Addr} {rq : V} {s : Ms} {n m : Nat} (h : ThR p H fa hp hd pc wl rq s n) (l : n ≤ m) : ThR p H fa hp hd pc wl rq s m := by
  obtain ⟨h1, h2, h3, h4, ⟨ws, e6, e7⟩, h6, h7⟩ := h
  exact ⟨h1, h2, h3, h4, ⟨ws, e6, Nat.le_trans e7 l⟩, h6, h7⟩
theorem ThAt.more {C : Addr} {p : Pl} {H : Hp} {x hp hd wl : Addr} {s : Ms} {n m : Nat} (h : ThAt C p H x hp hd wl s n) (l : n ≤ m) : ThAt C p H x hp hd wl s m := by
  obtain ⟨dx, fa, pc, rq, e, r⟩ := h
  exact ⟨dx, fa, pc, rq, e, r.more l⟩
end Plug
end
section
set_option Elab.async false
set_option linter.all false
set_option maxRecDepth 100000
set_option maxHeartbeats 4000000
namespace Plug
open PySem PySem.Spec PyProof.Rows L2 Mi
section
variable {P : Program} {w : World} {K : PySem.W.Frag} {mg : Str → Option Value} {base : Heap} {C : Addr}
/-! ### restart(self) -/
def spRestart (C : Addr) : Sp := fun vs H Q _ => ∃ (x dx fa hp : Addr), vs = [.ref x] ∧ H x = some (.ins C dx [("form", .ref fa), ("hub_ports", .ref hp)]) ∧
  ∀ hd pc wl H', H hd = none → H wl = none → H' x = some (.ins C dx (thF fa hp 0 0 hd (sgS .idle) .non 1 pc wl)) → H' hd = some (.dT []) → H' pc = some (.tup []) → H' wl = some (.lst []) → Fr [x] H H' → Q .non H'
theorem ok_restart (T : Txt K w mg C) (D : Mth K C "restart" "Thing.restart" m_restart ["self"]) : Mt P w K mg base 1 C "restart" (spRestart C) := by
  refine mt_of D cm_restart (fun vs H Q E h => ?_) (fun f cdv A outer s H vs Q E hr h => ?_)
  · obtain ⟨x, dx, fa, hp, rfl, _⟩ := h
    rfl
  · obtain ⟨x, dx, fa, hp, rfl, hx, k⟩ := h
    have nd := cm_restart.nd
    refine ⟨_, pss_cons (ps_fld (pv 0) pe_int rfl) (pss_cons (ps_fld (pv 0) pe_int rfl) (pss_cons (ps_fld (pv 0) pe_dnewT rfl) (pss_cons (ps_fld (pv 0) pe_str rfl) (pss_cons (ps_fld (pv 0) pe_non rfl)
      (pss_cons (ps_fld (pv 0) pe_int rfl) (pss_cons (ps_fld (pv 0) (pe_tup pa_nil) rfl) (pss_one (ps_fld (pv 0) (pe_lst pa_nil) rfl)))))))), ?_⟩
    have L : ∀ {n : Nat}, n ≤ 10 → n < 1000 := fun h => by omega
    have N : ∀ {C dx : Addr} {fs : List (Str × V)} (xs : List V), HO.ins C dx fs ≠ .tup xs := fun _ z => by cases z
    have m : x ∈ [x] := List.mem_singleton.mpr rfl
    -- number
    refine ⟨_, rfl, x, C, dx, _, rfl, hx, T.cl, T.nNum, L (show 2 ≤ 10 by decide), ?_⟩
    have f1 := (Fr.refl [x] H).puts (o' := .ins C dx (putF "number" (.int 0) [("form", .ref fa), ("hub_ports", .ref hp)])) m hx N
    have x1 : (upd H x (.ins C dx (putF "number" (.int 0) [("form", .ref fa), ("hub_ports", .ref hp)]))) x = _ := upd_same
    revert f1 x1
    generalize upd H x _ = H1
    intro f1 x1
    -- level
    refine ⟨_, rfl, x, C, dx, _, rfl, x1, T.cl, T.nLev, L (show 3 ≤ 10 by decide), ?_⟩
    have f2 := f1.puts (o' := .ins C dx (putF "level" (.int 0) (putF "number" (.int 0) [("form", .ref fa), ("hub_ports", .ref hp)]))) m x1 N
    have x2 : (upd H1 x (.ins C dx (putF "level" (.int 0) (putF "number" (.int 0) [("form", .ref fa), ("hub_ports", .ref hp)])))) x = _ := upd_same
    revert f2 x2
    generalize upd H1 x _ = H2
    intro f2 x2
    -- halves
    intro hd hhd
    have nhd : hd ≠ x := fun z => by rw [z, x2] at hhd; cases hhd
    have x3 := Same.new (o := HO.dT []) hhd _ _ x2
    have f3 := f2.new (o := .dT []) hhd
    refine ⟨_, rfl, x, C, dx, _, rfl, x3, T.cl, T.nHal, L (show 4 ≤ 10 by decide), ?_⟩
    have f4 := f3.puts (o' := .ins C dx (putF "halves" (.ref hd) (putF "level" (.int 0) (putF "number" (.int 0) [("form", .ref fa), ("hub_ports", .ref hp)])))) m x3 N
    have x4 : (upd (upd H2 hd (.dT [])) x (.ins C dx (putF "halves" (.ref hd) (putF "level" (.int 0) (putF "number" (.int 0) [("form", .ref fa), ("hub_ports", .ref hp)]))))) x = _ := upd_same
    have d4 : (upd (upd H2 hd (.dT [])) x (.ins C dx (putF "halves" (.ref hd) (putF "level" (.int 0) (putF "number" (.int 0) [("form", .ref fa), ("hub_ports", .ref hp)]))))) hd = some (.dT []) := by rw [upd_ne nhd]; exact upd_same
    revert f4 x4 d4
    generalize upd (upd H2 hd _) x _ = H4
    intro f4 x4 d4
    -- stage
    refine ⟨_, rfl, x, C, dx, _, rfl, x4, T.cl, T.nStg, L (show 5 ≤ 10 by decide), ?_⟩
    have f5 := f4.puts (o' := .ins C dx (putF "stage" (.str "idle") (putF "halves" (.ref hd) (putF "level" (.int 0) (putF "number" (.int 0) [("form", .ref fa), ("hub_ports", .ref hp)]))))) m x4 N
    refine ⟨_, rfl, x, C, dx, _, rfl, upd_same, T.cl, T.nReq, L (show 6 ≤ 10 by decide), ?_⟩
    rw [upd_upd]
    have f6 := f4.puts (o' := .ins C dx (putF "request" .non (putF "stage" (.str "idle") (putF "halves" (.ref hd) (putF "level" (.int 0) (putF "number" (.int 0) [("form", .ref fa), ("hub_ports", .ref hp)])))))) m x4 N
    refine ⟨_, rfl, x, C, dx, _, rfl, upd_same, T.cl, T.nMrk, L (show 7 ≤ 10 by decide), ?_⟩
    rw [upd_upd]
    have f7 := f4.puts (o' := .ins C dx (putF "mark" (.int 1) (putF "request" .non (putF "stage" (.str "idle") (putF "halves" (.ref hd) (putF "level" (.int 0) (putF "number" (.int 0) [("form", .ref fa), ("hub_ports", .ref hp)]))))))) m x4 N
    have x7 : (upd H4 x (.ins C dx (putF "mark" (.int 1) (putF "request" .non (putF "stage" (.str "idle") (putF "halves" (.ref hd) (putF "level" (.int 0) (putF "number" (.int 0) [("form", .ref fa), ("hub_ports", .ref hp)])))))))) x = _ := upd_same
    have d7 : (upd H4 x (.ins C dx (putF "mark" (.int 1) (putF "request" .non (putF "stage" (.str "idle") (putF "halves" (.ref hd) (putF "level" (.int 0) (putF "number" (.int 0) [("form", .ref fa), ("hub_ports", .ref hp)])))))))) hd = some (.dT []) := by rw [upd_ne nhd]; exact d4
    revert f7 x7 d7
    generalize upd H4 x (HO.ins C dx (putF "mark" _ _)) = H7
    intro f7 x7 d7
    -- pieces
    refine ⟨(by show 0 ≤ sizeLine; decide), fun pc hpc => ?_⟩
    have npc : pc ≠ x := fun z => by rw [z, x7] at hpc; cases hpc
    have x8 := Same.new (o := HO.tup []) hpc _ _ x7
    have d8 := Same.new (o := HO.tup []) hpc _ _ d7
    have f8 := f7.new (o := .tup []) hpc
    refine ⟨_, rfl, x, C, dx, _, rfl, x8, T.cl, T.nPcs, L (show 8 ≤ 10 by decide), ?_⟩
    have f9 := f8.puts (o' := .ins C dx (putF "pieces" (.ref pc) (putF "mark" (.int 1) (putF "request" .non (putF "stage" (.str "idle") (putF "halves" (.ref hd) (putF "level" (.int 0) (putF "number" (.int 0) [("form", .ref fa), ("hub_ports", .ref hp)])))))))) m x8 N
    have x9 : (upd (upd H7 pc (.tup [])) x (.ins C dx (putF "pieces" (.ref pc) (putF "mark" (.int 1) (putF "request" .non (putF "stage" (.str "idle") (putF "halves" (.ref hd) (putF "level" (.int 0) (putF "number" (.int 0) [("form", .ref fa), ("hub_ports", .ref hp)]))))))))) x = _ := upd_same
    have d9 : (upd (upd H7 pc (.tup [])) x (.ins C dx (putF "pieces" (.ref pc) (putF "mark" (.int 1) (putF "request" .non (putF "stage" (.str "idle") (putF "halves" (.ref hd) (putF "level" (.int 0) (putF "number" (.int 0) [("form", .ref fa), ("hub_ports", .ref hp)]))))))))) hd = some (.dT []) := by rw [upd_ne nhd]; exact d8
    have p9 : (upd (upd H7 pc (.tup [])) x (.ins C dx (putF "pieces" (.ref pc) (putF "mark" (.int 1) (putF "request" .non (putF "stage" (.str "idle") (putF "halves" (.ref hd) (putF "level" (.int 0) (putF "number" (.int 0) [("form", .ref fa), ("hub_ports", .ref hp)]))))))))) pc = some (.tup []) := by rw [upd_ne npc]; exact upd_same
    revert f9 x9 d9 p9
    generalize upd (upd H7 pc _) x _ = H9
    intro f9 x9 d9 p9
    -- wishes
    refine ⟨(by show 0 ≤ sizeLine; decide), fun wl hwl => ?_⟩
    have nwl : wl ≠ x := fun z => by rw [z, x9] at hwl; cases hwl
    have xa := Same.new (o := HO.lst []) hwl _ _ x9
    have da := Same.new (o := HO.lst []) hwl _ _ d9
    have pa := Same.new (o := HO.lst []) hwl _ _ p9
    have fA := f9.new (o := .lst []) hwl
    refine ⟨_, rfl, x, C, dx, _, rfl, xa, T.cl, T.nWsh, L (show 9 ≤ 10 by decide), ?_⟩
    refine k hd pc wl _ (f2.none hhd (not1 nhd)) (f9.none hwl (not1 nwl)) (upd_same.trans rfl) (by rw [upd_ne nhd]; exact da) (by rw [upd_ne npc]; exact pa) (by rw [upd_ne nwl]; exact upd_same) (fA.puts m xa N)
end
end Plug
end
section
set_option Elab.async false
set_option linter.all false
set_option maxRecDepth 100000
set_option maxHeartbeats 4000000
namespace Plug
open PySem PySem.Spec PyProof.Rows L2 Mi
theorem ins_nt {C dx : Addr} {fs : List (Str × V)} (xs : List V) : HO.ins C dx fs ≠ .tup xs := fun z => by cases z
theorem dT_nt {kvs : List (List Key × V)} (xs : List V) : HO.dT kvs ≠ .tup xs := fun z => by cases z
theorem dK_nt {kvs : List (Key × V)} (xs : List V) : HO.dK kvs ≠ .tup xs := fun z => by cases z
theorem lst_nt {vs : List V} (xs : List V) : HO.lst vs ≠ .tup xs := fun z => by cases z
theorem keysL0 (p : Pl) : keysL p 0 = [] := if_neg (by decide)
theorem keysL1 (p : Pl) : keysL p 1 = p.ends.map keyE := if_pos rfl
theorem rep_flat {x : V} : ∀ n : Nat, (List.replicate n [x]).flatten = List.replicate n x
  | 0 => rfl
  | n + 1 => by
    rw [List.replicate_succ, List.flatten_cons, rep_flat n, List.replicate_succ]
    rfl
section
variable {P : Program} {w : World} {K : PySem.W.Frag} {mg : Str → Option Value} {base : Heap} {C : Addr}
/-! ### Thing(plan) -/
def spInit (C : Addr) : Sp := fun vs H Q _ => ∃ (x dx a : Addr) (p : Pl), vs = [.ref x, .ref a] ∧ H x = some (.ins C dx []) ∧ PlanAt H a p ∧ GoodPl p ∧
  ∀ hp hd wl H', H hp = none → H hd = none → H wl = none → ThAt C p H' x hp hd wl ms0 0 → Fr [x] H H' → Q .non H'
theorem ok_init (T : Txt K w mg C) (D : Mth K C "__init__" "Thing.__init__" m_init ["self", "plan"]) (G : Cl P w K mg base 2 "need_plan" spNeed) (R : Mt P w K mg base 1 C "restart" (spRestart C)) : Mt P w K mg base 3 C "__init__" (spInit C) := by
  refine mt_of D cm_init (fun vs H Q E h => ?_) (fun f cdv A outer s H vs Q E hr h => ?_)
  · obtain ⟨x, dx, a, p, rfl, _⟩ := h
    rfl
  · obtain ⟨x, dx, a, p, rfl, hx, hp, g, k⟩ := h
    have nd := cm_init.nd
    refine ⟨_, pss_cons (ps_expr (pe_cl G hr (by decide) rfl (pa_cons (pv 1) pa_nil))) (pss_cons (ps_fld (pv 0) (pv 1) rfl)
      (pss_cons (ps_fld (pv 0) (pe_op op_rep (pe_lst (pa_cons (pe_tup (pa_cons pe_int (pa_cons pe_int pa_nil))) pa_nil)) (pe_ix ix_tup (pv 1) pe_int (fun _ _ => rfl))) rfl)
      (pss_one (ps_expr (pe_mt0 R T.cl hr (by decide) (pv 0)))))), ?_⟩
    have L : ∀ {n : Nat}, n ≤ 10 → n < 1000 := fun h => by omega
    have m : x ∈ [x] := List.mem_singleton.mpr rfl
    refine ⟨_, rfl, a, p, rfl, hp, g, fun H1 s1 => ?_⟩
    have x1 := s1 _ _ hx
    refine ⟨_, rfl, _, rfl, x, C, dx, _, rfl, x1, T.cl, T.nForm, L (show 0 ≤ 10 by decide), ?_⟩
    have f2 : Fr [x] H (upd H1 x (.ins C dx (putF "form" (.ref a) []))) := (Fr.of s1).puts m x1 ins_nt
    have x2 : (upd H1 x (.ins C dx (putF "form" (.ref a) []))) x = _ := upd_same
    revert f2 x2
    generalize upd H1 x _ = H2
    intro f2 x2
    obtain ⟨e, ws, ha, he, hw⟩ := hp.kt f2.kt
    refine ⟨(by show 2 ≤ sizeLine; decide), fun t ht => ⟨(by show 1 ≤ sizeLine; decide), fun l hl => ?_⟩⟩
    have s3 : Same H2 (upd (upd H2 t (.tup [V.int 0, .int 0])) l (.lst [.ref t])) := (Same.new ht).trans (Same.new hl)
    have t3 : (upd (upd H2 t (.tup [V.int 0, .int 0])) l (.lst [.ref t])) t = some (.tup [V.int 0, .int 0]) := Same.new hl _ _ upd_same
    have l3 : (upd (upd H2 t (.tup [V.int 0, .int 0])) l (.lst [.ref t])) l = some (.lst [.ref t]) := upd_same
    revert s3 t3 l3
    generalize upd (upd H2 t _) l _ = H3
    intro s3 t3 l3
    have gp := g.ports
    have hn : ∃ n : Nat, p.ports = (n : Int) ∧ n ≤ 4 := ⟨p.ports.toNat, by omega, by omega⟩
    obtain ⟨n, hn, n4⟩ := hn
    refine ⟨_, rfl, a, _, 2, _, rfl, rfl, SqT.of (s3 _ _ ha), rfl, l, p.ports, _, rfl, rfl, l3, by omega, by omega, ?_, fun q hq => ?_⟩
    · rw [hn, Int.toNat_natCast]
      show 1 * n ≤ sizeLine
      exact Nat.le_trans (show 1 * n ≤ 10 by omega) (by decide)
    rw [hn, Int.toNat_natCast, rep_flat]
    have x4 := Same.new (o := HO.lst (List.replicate n (.ref t))) hq _ _ (s3 _ _ x2)
    have f4 := (f2.and s3).new (o := .lst (List.replicate n (.ref t))) hq
    have nq : q ≠ x := fun z => by rw [z, s3 _ _ x2] at hq; cases hq
    have q0 : H q = none := (f2.and s3).none hq (not1 nq)
    have t4 := Same.new (o := HO.lst (List.replicate n (.ref t))) hq _ _ t3
    have q4 : (upd H3 q (.lst (List.replicate n (.ref t)))) q = _ := upd_same
    revert x4 f4 t4 q4
    generalize upd H3 q _ = H4
    intro x4 f4 t4 q4
    refine ⟨_, rfl, x, C, dx, _, rfl, x4, T.cl, T.nHub, L (show 1 ≤ 10 by decide), ?_⟩
    have f5 := f4.puts (o' := .ins C dx [("form", .ref a), ("hub_ports", .ref q)]) m x4 ins_nt
    have f45 : Fr [x] H4 (upd H4 x (.ins C dx [("form", .ref a), ("hub_ports", .ref q)])) := Fr.put m x4 ins_nt
    refine ⟨_, rfl, x, dx, _, rfl, upd_same, rfl, x, dx, a, q, rfl, upd_same, fun hd pc wl H6 n1 n2 x6 d6 p6 w6 f6 => ?_⟩
    have f46 : Fr [x] H4 H6 := f45.trans f6
    have nd1 : hd ≠ x := fun z => by rw [z] at n1; rw [show (upd H4 x (.ins C dx (putF "hub_ports" (.ref q) (putF "form" (.ref a) [])))) x = _ from upd_same] at n1; cases n1
    have nw1 : wl ≠ x := fun z => by rw [z] at n2; rw [show (upd H4 x (.ins C dx (putF "hub_ports" (.ref q) (putF "form" (.ref a) [])))) x = _ from upd_same] at n2; cases n2
    have nqw : q ≠ wl := fun z => by
      rw [← z] at n2
      have : (upd H4 x (.ins C dx (putF "hub_ports" (.ref q) (putF "form" (.ref a) [])))) q = some (.lst (List.replicate n (.ref t))) := by rw [upd_ne nq]; exact q4
      rw [this] at n2; cases n2
    refine k q hd wl H6 q0 (f5.none n1 (not1 nd1)) (f5.none n2 (not1 nw1)) ⟨dx, a, pc, .non, x6, ⟨hp.kt (f4.trans f46).kt, ⟨_, f46.at q4 (not1 nq), ?_, ?_⟩, ⟨[], d6, ?_⟩, ⟨[], p6, .nil⟩, ⟨[], w6, Nat.le_refl _⟩, (fun r z => by cases z), nqw⟩⟩ (f4.trans f46)
    · rw [List.length_replicate, hn]
    · intro v hv
      rw [List.eq_of_mem_replicate hv]
      exact ⟨t, rfl, f46.kt _ _ t4⟩
    · show HalvesAt H6 [] (keysL p 0)
      rw [keysL0]
      exact .nil
/-! ### end_of(byte) -/
def spEndOf : Sp := fun vs H Q _ => ∃ (x : V) (b : Int), vs = [x, .int b] ∧ 0 ≤ b ∧ b ≤ 255 ∧ ∀ q H', Same H H' → H' q = some (.tup ((keyK (b % 128, decide (128 ≤ b))).map kV)) → Q (.ref q) H'
theorem ok_end_of (T : Txt K w mg C) (D : Mth K C "end_of" "Thing.end_of" m_end_of ["self", "byte"]) : Mt P w K mg base 1 C "end_of" spEndOf := by
  refine mt_of D cm_end_of (fun vs H Q E h => ?_) (fun f cdv A outer s H vs Q E hr h => ?_)
  · obtain ⟨x, b, rfl, _⟩ := h
    rfl
  · obtain ⟨x, b, rfl, b0, b1, k⟩ := h
    refine ⟨_, pss_one (ps_ret (pe_tup (pa_cons (pe_op op_andM (pv 1) pe_int) (pa_cons (pe_ifExp (pt_cmpR op_ge (pv 1) pe_int (nomark _)) pe_str pe_str) pa_nil)))), ?_⟩
    refine ⟨_, rfl, b, 7, rfl, rfl, _, rfl, _, _, rfl, rfl, _, rfl, ?_⟩
    by_cases h : (128 : Int) ≤ b
    · refine bT (decide_eq_true h) ⟨(by show 2 ≤ sizeLine; decide), fun q hq => k q _ (Same.new hq) (upd_same.trans ?_)⟩
      rw [decide_eq_true h]
      rfl
    · refine bF (decide_eq_false h) ⟨(by show 2 ≤ sizeLine; decide), fun q hq => k q _ (Same.new hq) (upd_same.trans ?_)⟩
      rw [decide_eq_false h]
      rfl
end
end Plug
end
section
set_option Elab.async false
set_option linter.all false
set_option maxRecDepth 100000
set_option maxHeartbeats 4000000
namespace Plug
open PySem PySem.Spec PyProof.Rows L2 Mi
theorem Fr.fresh {l : List Addr} {H H1 : Hp} {p : Addr} {o : HO} (a : Fr l H H1) (h : H p = .none) : Fr l H (upd H1 p o) :=
  ⟨fun b u e n => by rw [upd_ne (ne_of_none e h)]; exact a.ke b u e n, fun b xs e => by rw [upd_ne (ne_of_none e h)]; exact a.kt b xs e⟩
theorem kt_put {H : Hp} {p : Addr} {o o' : HO} (e : H p = some o) (n : ∀ xs, o ≠ .tup xs) : KT0 H (upd H p o') := fun c xs q => by rw [upd_ne (ne_of q e fun z => n xs z.symm)]; exact q
theorem not_before {α : Type} {l : List α} {i : Nat} {a : α} (h : l.Nodup) (e : l[i]? = some a) : a ∉ l.take i := by
  intro m
  obtain ⟨j, hj, ej⟩ := List.mem_iff_getElem.mp m
  obtain ⟨hi, ei⟩ := List.getElem?_eq_some_iff.mp e
  rw [List.length_take] at hj
  rw [List.getElem_take] at ej
  exact List.pairwise_iff_getElem.mp h j i (by omega) hi (by omega) (ej.trans ei.symm)
theorem take_key {p : Pl} {i : Nat} {e : En} (h : p.ends[i]? = some e) : (p.ends.take (i + 1)).map keyE = (p.ends.take i).map keyE ++ [keyE e] := by
  rw [List.take_add_one, h, List.map_append]
  rfl
theorem new_key {p : Pl} (g : GoodPl p) {i : Nat} {e : En} (h : p.ends[i]? = some e) : keyE e ∉ (p.ends.take i).map keyE := by
  rw [List.map_take]
  exact not_before (keys_nodup g) (by rw [List.getElem?_map, h]; rfl)
section
variable {P : Program} {w : World} {K : PySem.W.Frag} {mg : Str → Option Value} {base : Heap} {C : Addr}
/-! ### set_up(self, level) -/
def spSetUp (C : Addr) : Sp := fun vs H Q _ => ∃ (x dx fa hp hd pc wl : Addr) (n lv0 lv mk : Int) (sg : Str) (rq : V) (p : Pl), vs = [.ref x, .int lv] ∧ (lv = 0 ∨ lv = 1) ∧ H x = some (.ins C dx (thF fa hp n lv0 hd sg rq mk pc wl)) ∧ PlanAt H fa p ∧ GoodPl p ∧
  ∀ hd' kvs H', H hd' = none → H' x = some (.ins C dx (thF fa hp n lv hd' sg rq mk pc wl)) → H' hd' = some (.dT kvs) → HalvesAt H' kvs (keysL p lv) → Fr [x] H H' → Q .non H'
theorem ok_set_up (T : Txt K w mg C) (D : Mth K C "set_up" "Thing.set_up" m_set_up ["self", "level"]) (GI : Cl P w K mg base 1 "in_half" spInH) (GO : Cl P w K mg base 1 "out_half" spOutH) : Mt P w K mg base 2 C "set_up" (spSetUp C) := by
  refine mt_of D cm_set_up (fun vs H Q E h => ?_) (fun f cdv A outer s H vs Q E hr h => ?_)
  · obtain ⟨x, dx, fa, hp, hd, pc, wl, n, lv0, lv, mk, sg, rq, p, rfl, _⟩ := h
    rfl
  · obtain ⟨x, dx, fa, hp, hd, pc, wl, n, lv0, lv, mk, sg, rq, p, rfl, hlv, hx, hpl, g, k⟩ := h
    have nd := cm_set_up.nd
    have hu := hu_of hr
    refine ⟨_, pss_cons (ps_fld (pv 0) (pv 1) rfl) (pss_cons (ps_fld (pv 0) pe_dnewT rfl) (pss_one (ps_if (pt_cmpR op_eq (pv 1) pe_int (nomark _))
      (pss_one (ps_for PassesOwn.never rfl (pi_tup (pe_ix ix_tup (pe_fld (pv 0) rfl) pe_int (fun _ _ => rfl)))
        (pg_tup rfl (pgs_cons (pg_name (i := 2) nd rfl (.inl rfl)) (pgs_cons (pg_name (i := 3) nd rfl (.inl rfl)) (pgs_cons (pg_name (i := 4) nd rfl (.inl rfl)) (pgs_cons (pg_name (i := 5) nd rfl (.inl rfl)) (pgs_cons (pg_name (i := 6) nd rfl (.inl rfl)) pgs_nil))))))
        (pss_one (ps_dput hu (pe_fld (pv 0) rfl) (pe_tup (pa_cons (pv 2) (pa_cons (pv 3) pa_nil))) (pe_ifExp (pt_cmpR op_eq (pv 3) pe_str (nomark _)) (pe_cl0 GI hr (by decide) rfl) (pe_cl0 GO hr (by decide) rfl)) rfl)))) pss_nil))), ?_⟩
    have m : x ∈ [x] := List.mem_singleton.mpr rfl
    refine ⟨_, rfl, _, rfl, x, C, dx, _, rfl, hx, T.cl, T.nLev, th_len, ?_⟩
    rw [th_level]
    have f1 : Fr [x] H (upd H x (.ins C dx (thF fa hp n lv hd sg rq mk pc wl))) := Fr.put m hx ins_nt
    have x1 : (upd H x (.ins C dx (thF fa hp n lv hd sg rq mk pc wl))) x = _ := upd_same
    revert f1 x1
    generalize upd H x _ = H1
    intro f1 x1 q hq
    have nq : q ≠ x := fun z => by rw [z, x1] at hq; cases hq
    have q0 : H q = none := f1.none hq (not1 nq)
    have x2 := Same.new (o := HO.dT []) hq _ _ x1
    have f2 := f1.new (o := .dT []) hq
    refine ⟨_, rfl, x, C, dx, _, rfl, x2, T.cl, T.nHal, th_len, ?_⟩
    rw [th_halves]
    have f3 : Fr [x] H (upd (upd H1 q (.dT [])) x (.ins C dx (thF fa hp n lv q sg rq mk pc wl))) := f2.puts m x2 ins_nt
    have x3 : (upd (upd H1 q (.dT [])) x (.ins C dx (thF fa hp n lv q sg rq mk pc wl))) x = _ := upd_same
    have d3 : (upd (upd H1 q (.dT [])) x (.ins C dx (thF fa hp n lv q sg rq mk pc wl))) q = some (.dT []) := by rw [upd_ne nq]; exact upd_same
    revert f3 x3 d3
    generalize upd (upd H1 q _) x _ = H3
    intro f3 x3 d3
    refine ⟨_, rfl, rfl, _, rfl, ?_⟩
    rcases hlv with rfl | rfl
    · exact bF (by decide) (k q [] H3 q0 x3 d3 (by rw [keysL0]; exact .nil) f3)
    refine bT (by decide) ?_
    obtain ⟨e, ws, ha, he, hw⟩ := hpl
    have hl : ws.length = p.ends.length := Paired.length hw
    refine ⟨_, rfl, x, C, dx, _, _, rfl, x3, T.cl, T.nForm, rfl, fa, _, 3, _, rfl, rfl, SqT.of (f3.kt _ _ ha), rfl, e, rfl, ⟨ws, SqT.of (f3.kt _ _ he)⟩,
      for_tup (K := K) (a := e) (xs := ws) (fun i σ H2 => (∃ v2 v3 v4 v5 v6 : Option V, σ = [some (.ref x), some (.int 1), v2, v3, v4, v5, v6]) ∧ Fr [x] H H2 ∧ H2 x = some (.ins C dx (thF fa hp n 1 q sg rq mk pc wl)) ∧ ∃ kvs, H2 q = some (.dT kvs) ∧ HalvesAt H2 kvs ((p.ends.take i).map keyE))
      ⟨⟨none, none, none, none, none, rfl⟩, f3, x3, [], d3, .nil⟩ (fun i σ H2 _ ⟨_, f4, _⟩ => SqT.of (f4.kt _ _ he)) ?_ ?_⟩
    · rintro i z σ H2 hz ⟨⟨v2, v3, v4, v5, v6, rfl⟩, f4, x4, kvs, d4, h4⟩
      obtain ⟨en, hen, b, rfl, hb⟩ := pat hw hz
      refine ⟨b, _, rfl, SqT.of (f4.kt _ _ hb), rfl, _, _, rfl, _, _, rfl, _, _, rfl, _, _, rfl, _, _, rfl, rfl, ?_⟩
      refine ⟨_, rfl, rfl, _, rfl, ?_⟩
      by_cases hin : en.inn = true
      · refine bT (by rw [hin]; decide +kernel) ⟨rfl, fun p5 t5 H5 s5 g5 g6 => ?_⟩
        have hv : HalfAt H5 (.ref p5) en.inn := by rw [hin]; exact ⟨p5, t5, rfl, g5, g6⟩
        have x5 := s5 _ _ x4
        refine ⟨_, rfl, x, C, dx, _, _, rfl, x5, T.cl, T.nHal, rfl, _, rfl, _, rfl, (by show 2 ≤ sizeLine; decide), fun ty hty => ?_⟩
        have s6 := s5.trans (Same.new (o := .tup [V.int en.num, .str (wayS en.inn)]) hty)
        have d6 := s6 _ _ d4
        have hz6 : kvs.length < sizeLine := by
          rw [h4.len, List.length_map, List.length_take]
          have := g.few
          exact Nat.lt_of_le_of_lt (show min i p.ends.length ≤ 10 by omega) (by decide)
        refine ⟨q, _, rfl, DPut.t (k := keyK (keyE en)) d6 upd_same hz6, ?_⟩
        have k6 := kt_put (o' := .dT (putK kvs (keyK (keyE en)) (.ref p5))) d6 dT_nt
        refine ⟨⟨_, _, _, _, _, rfl⟩, (f4.and s6).fresh q0, ?_, _, upd_same, ?_⟩
        · rw [upd_ne (Ne.symm nq)]; exact s6 _ _ x4
        · rw [take_key hen]
          exact ((h4.kt (Same.kt s6)).kt k6).snoc ((hv.kt (Same.kt (Same.new hty))).kt k6) (new_key g hen)
      · have hin : en.inn = false := by simpa using hin
        refine bF (by rw [hin]; decide +kernel) ⟨rfl, fun p5 t5 H5 s5 g5 g6 => ?_⟩
        have hv : HalfAt H5 (.ref p5) en.inn := by rw [hin]; exact ⟨p5, t5, rfl, g5, g6⟩
        have x5 := s5 _ _ x4
        refine ⟨_, rfl, x, C, dx, _, _, rfl, x5, T.cl, T.nHal, rfl, _, rfl, _, rfl, (by show 2 ≤ sizeLine; decide), fun ty hty => ?_⟩
        have s6 := s5.trans (Same.new (o := .tup [V.int en.num, .str (wayS en.inn)]) hty)
        have d6 := s6 _ _ d4
        have hz6 : kvs.length < sizeLine := by
          rw [h4.len, List.length_map, List.length_take]
          have := g.few
          exact Nat.lt_of_le_of_lt (show min i p.ends.length ≤ 10 by omega) (by decide)
        refine ⟨q, _, rfl, DPut.t (k := keyK (keyE en)) d6 upd_same hz6, ?_⟩
        have k6 := kt_put (o' := .dT (putK kvs (keyK (keyE en)) (.ref p5))) d6 dT_nt
        refine ⟨⟨_, _, _, _, _, rfl⟩, (f4.and s6).fresh q0, ?_, _, upd_same, ?_⟩
        · rw [upd_ne (Ne.symm nq)]; exact s6 _ _ x4
        · rw [take_key hen]
          exact ((h4.kt (Same.kt s6)).kt k6).snoc ((hv.kt (Same.kt (Same.new hty))).kt k6) (new_key g hen)
    · rintro σ H2 ⟨_, f4, x4, kvs, d4, h4⟩
      rw [hl, List.take_length] at h4
      exact k q kvs H2 q0 x4 d4 (by rw [keysL1]; exact h4) f4
end
end Plug
end
section
set_option Elab.async false
set_option linter.all false
set_option maxRecDepth 100000
set_option maxHeartbeats 4000000
namespace Plug
open PySem PySem.Spec PyProof.Rows L2 Mi
theorem word_dec {i : Nat} (hi : i < 8) (j : Nat) (hj : j < 8) : decide (V.str (wordS i) = V.str (wordS j)) = decide (i = j) := by
  rcases w_cases hi with rfl | rfl | rfl | rfl | rfl | rfl | rfl | rfl <;> rcases w_cases hj with rfl | rfl | rfl | rfl | rfl | rfl | rfl | rfl <;> decide +kernel
theorem in_rs {i : Nat} (hi : i < 8) : (if false = true then !inV (V.str (wordS i)) [V.str (wordS 6), V.str (wordS 7)] else inV (V.str (wordS i)) [V.str (wordS 6), V.str (wordS 7)]) = decide (i = 6 ∨ i = 7) := by
  rcases w_cases hi with rfl | rfl | rfl | rfl | rfl | rfl | rfl | rfl <;> decide +kernel
theorem in_ds {i : Nat} (hi : i < 8) : (if false = true then !inV (V.str (wordS i)) [V.str (wordS 0), V.str (wordS 1)] else inV (V.str (wordS i)) [V.str (wordS 0), V.str (wordS 1)]) = decide (i = 0 ∨ i = 1) := by
  rcases w_cases hi with rfl | rfl | rfl | rfl | rfl | rfl | rfl | rfl <;> decide +kernel
theorem in_ns {i : Nat} (hi : i < 8) : (if false = true then !inV (V.str (wordS i)) [V.str (wordS 2), V.str (wordS 3)] else inV (V.str (wordS i)) [V.str (wordS 2), V.str (wordS 3)]) = decide (i = 2 ∨ i = 3) := by
  rcases w_cases hi with rfl | rfl | rfl | rfl | rfl | rfl | rfl | rfl <;> decide +kernel
section
variable {P : Program} {w : World} {K : PySem.W.Frag} {mg : Str → Option Value} {base : Heap} {C : Addr}
/-! ### lets(self, request) -/
def spLets (C : Addr) : Sp := fun vs H Q _ => ∃ (x dx fa hp hd pc wl : Addr) (rq v : V) (s : Ms) (n : Nat) (p : Pl) (r : Rq), vs = [.ref x, v] ∧ H x = some (.ins C dx (thF fa hp s.num s.lv hd (sgS s.sg) rq s.mark pc wl)) ∧ PlanAt H fa p ∧ GoodPl p ∧
  (∃ kvs, H hd = some (.dT kvs) ∧ HalvesAt H kvs (keysL p s.lv)) ∧ ReqAt H v r ∧ okRq r ∧ ¬ asksR r ∧ ∀ H', Same H H' → Q (.bl (decide (Mi.Meets p s.lv r))) H'
theorem ok_lets (T : Txt K w mg C) (D : Mth K C "lets" "Thing.lets" m_lets ["self", "request"]) (G : Mt P w K mg base 1 C "end_of" spEndOf) : Mt P w K mg base 2 C "lets" (spLets C) := by
  refine mt_of D cm_lets (fun vs H Q E h => ?_) (fun f cdv A outer s H vs Q E hr h => ?_)
  · obtain ⟨x, dx, fa, hp, hd, pc, wl, rq, v, s, n, p, r, rfl, _⟩ := h
    rfl
  · obtain ⟨x, dx, fa, hp, hd, pc, wl, rq, v, ms, n, p, r, rfl, hx, hpl, g, ⟨kvs, hh, hks⟩, ⟨a, rfl, ha⟩, hok, na, k⟩ := h
    have nd := cm_lets.nd
    have hu := hu_of hr
    refine ⟨_, pss_cons (ps_if (pt_cmpR op_in_seq (pe_ix ix_tup (pv 1) pe_int (fun _ _ => rfl)) (pe_tup (pa_cons pe_str (pa_cons pe_str pa_nil))) (by rfl))
        (pss_one (ps_ret (pe_chain op_le op_le pe_int (pe_ix ix_tup (pv 1) pe_int (fun _ _ => rfl)) (pe_ix ix_tup (pe_fld (pv 0) rfl) pe_int (fun _ _ => rfl))))) pss_nil)
      (pss_cons (ps_if (pt_cmpR op_eq (pe_ix ix_tup (pv 1) pe_int (fun _ _ => rfl)) pe_str (nomark _))
        (pss_one (ps_ret (pe_cmp (pc_din hu (pe_mt G T.cl hr (by decide) (pv 0) (pa_cons (pe_ix ix_tup (pv 1) pe_int (fun _ _ => rfl)) pa_nil)) (pe_fld (pv 0) rfl))))) pss_nil)
      (pss_one (ps_ret pe_bl))), ?_⟩
    have h8 := hok.1
    obtain ⟨e, ws, hfa, he, hw⟩ := hpl
    refine ⟨_, rfl, a, _, 0, _, rfl, rfl, SqT.of ha, at_of (j := 0) rfl (rq_at0 r), (by show 2 ≤ sizeLine; decide), fun t ht => ?_⟩
    have s1 := Same.new (o := HO.tup [V.str "reset", V.str "shut"]) ht
    refine ⟨t, _, rfl, .inr (SqT.of upd_same), rfl, rfl, _, rfl, ?_⟩
    rw [show (if false = true then !inV (V.str (wordS r.w)) [V.str "reset", V.str "shut"] else inV (V.str (wordS r.w)) [V.str "reset", V.str "shut"]) = decide (r.w = 6 ∨ r.w = 7) from in_rs h8]
    have np : ¬ r.w = 0 ∧ ¬ r.w = 1 ∧ ¬ r.w = 5 := ⟨fun z => na (.inl z), fun z => na (.inr (.inl z)), fun z => na (.inr (.inr z))⟩
    have hp1 : placed r.w = true := placed_lt.mpr (by omega)
    by_cases c1 : r.w = 6 ∨ r.w = 7
    · refine bT (decide_eq_true c1) ?_
      have me : decide (Mi.Meets p ms.lv r) = (decide (1 ≤ r.v) && decide (r.v ≤ p.ports)) := by
        rw [← Bool.decide_and]
        refine decide_eq_decide.mpr ⟨fun h => ?_, fun h => .inr (.inr (.inr ⟨c1, h⟩))⟩
        rcases h with h | h | ⟨h, _⟩ | h
        · omega
        · omega
        · omega
        · exact h.2
      refine ⟨_, rfl, a, _, 1, _, rfl, rfl, SqT.of (s1 _ _ ha), at_of (j := 1) rfl (rq_at1 hp1), ?_⟩
      refine ⟨_, _, rfl, rfl, _, rfl, ?_⟩
      by_cases c2 : 1 ≤ r.v
      · refine bT (decide_eq_true c2) ?_
        refine ⟨_, rfl, x, C, dx, _, _, rfl, s1 _ _ hx, T.cl, T.nForm, rfl, fa, _, 2, _, rfl, rfl, SqT.of (s1 _ _ hfa), rfl, _, _, rfl, rfl, ?_⟩
        have := k _ s1
        rw [me, decide_eq_true c2, Bool.true_and] at this
        exact this
      · refine bF (decide_eq_false c2) ?_
        have := k _ s1
        rw [me, decide_eq_false c2, Bool.false_and] at this
        exact this
    · refine bF (decide_eq_false c1) ?_
      refine ⟨_, rfl, a, _, 0, _, rfl, rfl, SqT.of (s1 _ _ ha), at_of (j := 0) rfl (rq_at0 r), rfl, _, rfl, ?_⟩
      rw [show decide (V.str (wordS r.w) = V.str "clear") = decide (r.w = 4) from word_dec h8 4 (by decide)]
      by_cases c2 : r.w = 4
      · refine bT (decide_eq_true c2) ?_
        have hv := hok.2.1
        have hm := hok.2.2
        rw [c2] at hm
        have hm : r.v ≤ 255 := hm
        refine ⟨_, rfl, x, dx, _, rfl, s1 _ _ hx, rfl, _, rfl, a, _, 1, _, rfl, rfl, SqT.of (s1 _ _ ha), at_of (j := 1) rfl (rq_at1 hp1), _, r.v, rfl, hv, hm, fun q H2 s2 g2 => ?_⟩
        have s3 := s1.trans s2
        refine ⟨_, rfl, x, C, dx, _, _, rfl, s3 _ _ hx, T.cl, T.nHal, rfl, hd, _, rfl, DGet.t (k := keyK (r.v % 128, decide (128 ≤ r.v))) (s3 _ _ hh) g2, ?_⟩
        have := k _ s3
        rw [hks.is]
        have me : decide (Mi.Meets p ms.lv r) = decide ((r.v % 128, decide (128 ≤ r.v)) ∈ keysL p ms.lv) := by
          refine decide_eq_decide.mpr ⟨fun h => ?_, fun h => .inr (.inr (.inl ⟨c2, h⟩))⟩
          rcases h with h | h | ⟨_, h⟩ | ⟨h, _⟩
          · omega
          · omega
          · exact h
          · omega
        rw [me] at this
        exact this
      · refine bF (decide_eq_false c2) ?_
        have := k _ s1
        rw [decide_eq_true (show Mi.Meets p ms.lv r from by unfold Mi.Meets; omega)] at this
        exact this
/-! ### reply(self, request) -/
def spReply (C : Addr) : Sp := fun vs H Q _ => ∃ (x dx fa hp hd pc wl : Addr) (rq v : V) (s : Ms) (p : Pl) (r : Rq), vs = [.ref x, v] ∧ H x = some (.ins C dx (thF fa hp s.num s.lv hd (sgS s.sg) rq s.mark pc wl)) ∧ PlanAt H fa p ∧ GoodPl p ∧
  (∃ ps, H hp = some (.lst ps) ∧ (ps.length : Int) = p.ports ∧ ∀ v ∈ ps, TupI H v [0, 0]) ∧ ReqAt H v r ∧ okRq r ∧ asksR r ∧
  (∀ row, Mi.rowOf p r = some row → ∀ q H', Same H H' → H' q = some (.tup (row.map V.int)) → Q (.ref q) H') ∧ (Mi.rowOf p r = none → ∀ H', Same H H' → Q .non H')
theorem ok_reply (T : Txt K w mg C) (D : Mth K C "reply" "Thing.reply" m_reply ["self", "request"]) (GD : Cl P w K mg base 3 "device_row" spDev) (GS : Cl P w K mg base 3 "settings_row" spSet) : Mt P w K mg base 4 C "reply" (spReply C) := by
  refine mt_of D cm_reply (fun vs H Q E h => ?_) (fun f cdv A outer s H vs Q E hr h => ?_)
  · obtain ⟨x, dx, fa, hp, hd, pc, wl, rq, v, s, p, r, rfl, _⟩ := h
    rfl
  · obtain ⟨x, dx, fa, hp, hd, pc, wl, rq, v, ms, p, r, rfl, hx, hpl, g, ⟨ps, hps, hpn, hpz⟩, ⟨a, rfl, ha⟩, hok, has, kY, kN⟩ := h
    have nd := cm_reply.nd
    refine ⟨_, pss_cons (ps_if (pt_cmpR op_eq (pe_ix ix_tup (pv 1) pe_int (fun _ _ => rfl)) pe_str (nomark _)) (pss_one (ps_ret (pe_cl GD hr (by decide) rfl (pa_cons (pe_fld (pv 0) rfl) pa_nil)))) pss_nil)
      (pss_cons (ps_if (pt_cmpR op_eq (pe_ix ix_tup (pv 1) pe_int (fun _ _ => rfl)) pe_str (nomark _)) (pss_one (ps_ret (pe_cl GS hr (by decide) rfl (pa_cons (pe_fld (pv 0) rfl) pa_nil)))) pss_nil)
      (pss_cons (ps_if (pt_not (pt_chain op_le op_le pe_int (pe_ix ix_tup (pv 1) pe_int (fun _ _ => rfl)) (pe_ix ix_tup (pe_fld (pv 0) rfl) pe_int (fun _ _ => rfl)))) (pss_one (ps_ret pe_non)) pss_nil)
      (pss_one (ps_ret (pe_ix ix_list (pe_fld (pv 0) rfl) (pe_op op_sub (pe_ix ix_tup (pv 1) pe_int (fun _ _ => rfl)) pe_int) (fun _ _ => rfl)))))), ?_⟩
    have h8 := hok.1
    refine ⟨_, rfl, a, _, 0, _, rfl, rfl, SqT.of ha, at_of (j := 0) rfl (rq_at0 r), rfl, _, rfl, ?_⟩
    rw [show decide (V.str (wordS r.w) = V.str "device") = decide (r.w = 0) from word_dec h8 0 (by decide)]
    by_cases c1 : r.w = 0
    · refine bT (decide_eq_true c1) ?_
      refine ⟨_, rfl, x, C, dx, _, _, rfl, hx, T.cl, T.nForm, rfl, fa, p, rfl, hpl, g, fun q H' s1 g1 => kY (deviceRow p) (if_pos c1) q H' s1 g1⟩
    refine bF (decide_eq_false c1) ?_
    refine ⟨_, rfl, a, _, 0, _, rfl, rfl, SqT.of ha, at_of (j := 0) rfl (rq_at0 r), rfl, _, rfl, ?_⟩
    rw [show decide (V.str (wordS r.w) = V.str "settings") = decide (r.w = 1) from word_dec h8 1 (by decide)]
    by_cases c2 : r.w = 1
    · refine bT (decide_eq_true c2) ?_
      refine ⟨_, rfl, x, C, dx, _, _, rfl, hx, T.cl, T.nForm, rfl, fa, p, rfl, hpl, g, fun q H' s1 g1 => kY (settingsRow p) (by unfold Mi.rowOf; rw [if_neg c1, if_pos c2]) q H' s1 g1⟩
    refine bF (decide_eq_false c2) ?_
    have c5 : r.w = 5 := by unfold asksR at has; omega
    have hp1 : placed r.w = true := placed_lt.mpr (by omega)
    have ro : ∀ {b : Prop} [Decidable b], (1 ≤ r.v ∧ r.v ≤ p.ports ↔ b) → Mi.rowOf p r = if b then some [0, 0] else none := fun {b} _ h => by
      unfold Mi.rowOf
      rw [if_neg c1, if_neg c2]
      by_cases hb : b
      · rw [if_pos hb, if_pos ⟨c5, h.mpr hb⟩]
      · rw [if_neg hb, if_neg fun z => hb (h.mp z.2)]
    obtain ⟨e, ws, hfa, he, hw⟩ := hpl
    refine ⟨_, rfl, a, _, 1, _, rfl, rfl, SqT.of ha, at_of (j := 1) rfl (rq_at1 hp1), ?_⟩
    refine ⟨_, _, rfl, rfl, _, rfl, ?_⟩
    by_cases g1 : 1 ≤ r.v
    · refine bT (decide_eq_true g1) ?_
      refine ⟨_, rfl, x, C, dx, _, _, rfl, hx, T.cl, T.nForm, rfl, fa, _, 2, _, rfl, rfl, SqT.of hfa, rfl, _, _, rfl, rfl, _, rfl, ?_⟩
      by_cases g2 : r.v ≤ p.ports
      · refine bF (by rw [decide_eq_true g2]; rfl) ?_
        obtain ⟨j, hj⟩ : ∃ j : Nat, r.v - 1 = (j : Int) := ⟨(r.v - 1).toNat, by omega⟩
        obtain ⟨y, hy⟩ : ∃ y, ps[j]? = some y := ⟨_, List.getElem?_eq_getElem (by omega)⟩
        obtain ⟨b, rfl, hb⟩ := hpz y (List.mem_of_getElem? hy)
        refine ⟨_, rfl, x, C, dx, _, _, rfl, hx, T.cl, T.nHub, rfl, _, rfl, a, _, 1, _, rfl, rfl, SqT.of ha, at_of (j := 1) rfl (rq_at1 hp1), _, _, rfl, rfl, hp, ps, _, _, rfl, rfl, SqL.of hps, at_of hj hy, ?_⟩
        exact kY [0, 0] ((ro Iff.rfl).trans (if_pos ⟨g1, g2⟩)) b H (Same.refl H) hb
      · refine bT (by rw [decide_eq_false g2]; rfl) ?_
        exact kN ((ro Iff.rfl).trans (if_neg fun z => g2 z.2)) H (Same.refl H)
    · refine bF (decide_eq_false g1) ⟨_, rfl, bT rfl ?_⟩
      exact kN ((ro Iff.rfl).trans (if_neg fun z => g1 z.1)) H (Same.refl H)
end
end Plug
end
section
set_option Elab.async false
set_option linter.all false
set_option maxRecDepth 100000
set_option maxHeartbeats 4000000
namespace Plug
open PySem PySem.Spec PyProof.Rows L2 Mi
section
variable {P : Program} {w : World} {K : PySem.W.Frag} {mg : Str → Option Value} {base : Heap} {C : Addr}
/-! ### effect(self) -/
def spEffect (C : Addr) : Sp := fun vs H Q _ => ∃ (x hp hd wl : Addr) (s : Ms) (n : Nat) (p : Pl) (r : Rq), vs = [.ref x] ∧ ThAt C p H x hp hd wl s n ∧ n ≤ 10000 ∧ GoodPl p ∧ s.rq = some r ∧ okRq r ∧ ¬ asksR r ∧ Mi.Meets p s.lv r ∧
  ∀ hd' H', (hd' = hd ∨ H hd' = none) → ThAt C p H' x hp hd' wl (effS s r) (n + 1) → Fr [x, hd, wl] H H' → Q .non H'
theorem ok_effect (T : Txt K w mg C) (D : Mth K C "effect" "Thing.effect" m_effect ["self"]) (GU : Mt P w K mg base 2 C "set_up" (spSetUp C)) (GE : Mt P w K mg base 1 C "end_of" spEndOf) (GC : Cl P w K mg base 2 "cleared" spCleared) : Mt P w K mg base 3 C "effect" (spEffect C) := by
  refine mt_of D cm_effect (fun vs H Q E h => ?_) (fun f cdv A outer s H vs Q E hr h => ?_)
  · obtain ⟨x, hp, hd, wl, ms, n, p, r, rfl, _⟩ := h
    rfl
  · obtain ⟨x, hp, hd, wl, ms, n, p, ⟨rw_, rv⟩, rfl, ⟨dx, fa, pc, rq, hx, R⟩, hn, g, erq, hok, na, me, k⟩ := h
    have nd := cm_effect.nd
    have hu := hu_of hr
    refine ⟨_, pss_cons (ps_asg (pe_fld (pv 0) rfl) (pg_tup rfl (pgs_cons (pg_name (i := 1) nd rfl (.inl rfl)) (pgs_cons (pg_name (i := 2) nd rfl (.inl rfl)) pgs_nil))))
      (pss_cons (ps_if (pt_cmpR op_eq (pv 1) pe_str (nomark _)) (pss_one (ps_fld (pv 0) (pv 2) rfl)) pss_nil)
      (pss_cons (ps_if (pt_cmpR op_eq (pv 1) pe_str (nomark _)) (pss_one (ps_expr (pe_mt GU T.cl hr (by decide) (pv 0) (pa_cons (pv 2) pa_nil)))) pss_nil)
      (pss_cons (ps_if (pt_cmpR op_eq (pv 1) pe_str (nomark _)) (pss_cons (ps_set (i := 3) nd rfl (.inl rfl) (pe_mt GE T.cl hr (by decide) (pv 0) (pa_cons (pv 2) pa_nil)))
          (pss_one (ps_dput hu (pe_fld (pv 0) rfl) (pv 3) (pe_cl GC hr (by decide) rfl (pa_cons (pe_dget hu (pe_fld (pv 0) rfl) (pv 3) (fun _ _ => rfl)) pa_nil)) rfl))) pss_nil)
      (pss_one (ps_if (pt_cmpR op_in_seq (pv 1) (pe_tup (pa_cons pe_str (pa_cons pe_str pa_nil))) (by rfl))
        (pss_one (ps_expr (pe_bm PySem.F.plainAttrs_list PySem.F.slot_list_append PySem.F.type_list_append mt_append (pe_fld (pv 0) rfl) (pa_cons (pe_fld (pv 0) rfl) pa_nil)))) pss_nil))))), ?_⟩
    obtain ⟨ra, rfl, hra⟩ := R.req _ erq
    have hm1 : x ∈ [x, hd, wl] := by simp
    have hm2 : hd ∈ [x, hd, wl] := by simp
    have hm3 : wl ∈ [x, hd, wl] := by simp
    obtain ⟨ps, hps, hpn, hpz⟩ := R.ports
    obtain ⟨kvs, hh, hks⟩ := R.halves
    obtain ⟨ws, hw, hwn⟩ := R.wish
    have nxh : x ≠ hd := ne_of hx hh (fun z => by cases z)
    have nxw : x ≠ wl := ne_of hx hw (fun z => by cases z)
    have nhw : hd ≠ wl := ne_of hh hw (fun z => by cases z)
    have nxp : hp ≠ x := ne_of hps hx (fun z => by cases z)
    have nhp : hp ≠ hd := ne_of hps hh (fun z => by cases z)
    have npw := R.apart
    have h8 : rw_ < 8 := hok.1
    have cs : rw_ = 2 ∨ rw_ = 3 ∨ rw_ = 4 ∨ rw_ = 6 ∨ rw_ = 7 := by
      have : ¬ (rw_ = 0 ∨ rw_ = 1 ∨ rw_ = 5) := na
      omega
    have hq : H ra = some (.tup [V.str (wordS rw_), .int rv]) := by
      have e : rqV ⟨rw_, rv⟩ = [V.str (wordS rw_), .int rv] := if_neg (show ¬ rw_ < 2 by omega)
      rw [← e]; exact hra
    refine ⟨_, rfl, x, C, dx, _, _, rfl, hx, T.cl, T.nReq, rfl, ra, _, rfl, SqT.of hq, rfl, _, _, rfl, _, _, rfl, rfl, ?_⟩
    rcases cs with rfl | rfl | rfl | rfl | rfl
    · refine ⟨_, rfl, rfl, _, rfl, bT (by decide +kernel) ?_⟩
      refine ⟨_, rfl, _, rfl, x, C, dx, _, rfl, hx, T.cl, T.nNum, th_len, ?_⟩
      rw [th_number]
      refine ⟨_, rfl, rfl, _, rfl, bF (by decide +kernel) ?_⟩
      refine ⟨_, rfl, rfl, _, rfl, bF (by decide +kernel) ?_⟩
      have f1 : Fr [x, hd, wl] H (upd H x (.ins C dx (thF fa hp rv ms.lv hd (sgS ms.sg) (.ref ra) ms.mark pc wl))) := Fr.put hm1 hx ins_nt
      have f1' : Fr [x] H (upd H x (.ins C dx (thF fa hp rv ms.lv hd (sgS ms.sg) (.ref ra) ms.mark pc wl))) := Fr.put (List.mem_singleton.mpr rfl) hx ins_nt
      refine ⟨_, rfl, (by show 2 ≤ sizeLine; decide), fun t ht => ⟨t, _, rfl, .inr (SqT.of upd_same), rfl, rfl, _, rfl, bF (by decide +kernel) ?_⟩⟩
      have r1 : ThR p _ fa hp hd pc wl (.ref ra) ms n := (R.fr f1' (not1 nxp) (not1 (Ne.symm nxh)) (not1 (Ne.symm nxw))).fr (Fr.of (l := []) (Same.new (o := .tup [V.str "reset", V.str "shut"]) ht)) (by simp) (by simp) (by simp)
      refine k hd _ (.inl rfl) ⟨dx, fa, pc, .ref ra, Same.new ht _ _ upd_same, ?_⟩ (f1.new ht)
      exact ⟨r1.plan, r1.ports, r1.halves, r1.pieces, (r1.more (Nat.le_succ n)).wish, r1.req, r1.apart⟩
    · refine ⟨_, rfl, rfl, _, rfl, bF (by decide +kernel) ?_⟩
      refine ⟨_, rfl, rfl, _, rfl, bT (by decide +kernel) ?_⟩
      have hlv : rv = 0 ∨ rv = 1 := by
        have h1 : 0 ≤ rv := hok.2.1
        have h2 : rv ≤ 1 := hok.2.2
        omega
      refine ⟨_, rfl, x, dx, _, rfl, hx, rfl, _, rfl, x, dx, fa, hp, hd, pc, wl, ms.num, ms.lv, rv, ms.mark, sgS ms.sg, .ref ra, p, rfl, hlv, hx, R.plan, g, fun hd' kvs' H1 n0 x1 d1 h1 f1 => ?_⟩
      refine ⟨_, rfl, rfl, _, rfl, bF (by decide +kernel) ?_⟩
      refine ⟨_, rfl, (by show 2 ≤ sizeLine; decide), fun t ht => ⟨t, _, rfl, .inr (SqT.of upd_same), rfl, rfl, _, rfl, bF (by decide +kernel) ?_⟩⟩
      have s2 : Same H1 (upd H1 t (.tup [V.str "reset", V.str "shut"])) := Same.new ht
      have r1 : ThR p _ fa hp hd pc wl (.ref ra) ms n := (R.fr f1 (not1 nxp) (not1 (Ne.symm nxh)) (not1 (Ne.symm nxw))).fr (Fr.of (l := []) s2) (by simp) (by simp) (by simp)
      refine k hd' _ (.inr n0) ⟨dx, fa, pc, .ref ra, s2 _ _ x1, ?_⟩ ((f1.mono fun b hb => by rw [List.mem_singleton.mp hb]; exact hm1).and s2)
      exact ⟨r1.plan, r1.ports, ⟨kvs', s2 _ _ d1, h1.kt (Same.kt s2)⟩, r1.pieces, (r1.more (Nat.le_succ n)).wish, r1.req, r1.apart⟩
    · refine ⟨_, rfl, rfl, _, rfl, bF (by decide +kernel) ?_⟩
      refine ⟨_, rfl, rfl, _, rfl, bF (by decide +kernel) ?_⟩
      refine ⟨_, rfl, rfl, _, rfl, bT (by decide +kernel) ?_⟩
      have hmem : (rv % 128, decide (128 ≤ rv)) ∈ keysL p ms.lv := by
        rcases me with h | h | ⟨_, h⟩ | ⟨h, _⟩
        · cases h
        · cases h
        · exact h
        · rcases h with h | h <;> cases h
      obtain ⟨hv, ehv, hhv⟩ := hks.get hmem
      refine ⟨_, rfl, x, dx, _, rfl, hx, rfl, _, rfl, _, rv, rfl, hok.2.1, hok.2.2, fun q H1 s1 g1 => ?_⟩
      refine ⟨_, rfl, x, C, dx, _, _, rfl, s1 _ _ hx, T.cl, T.nHal, rfl, _, rfl, hd, hv, rfl, ?_, hv, _, rfl, hhv.kt (Same.kt s1), fun hv' H2 s2 hhv' => ?_⟩
      · rw [← ehv]
        exact DGet.t (k := keyK (rv % 128, decide (128 ≤ rv))) (s1 _ _ hh) g1
      have s3 := s1.trans s2
      have hz : kvs.length < sizeLine := by
        rw [hks.len]
        exact Nat.lt_of_le_of_lt (Nat.le_trans (keysL_len g ms.lv) (show 4 ≤ 10 by decide)) (by decide)
      refine ⟨_, rfl, x, C, dx, _, _, rfl, s3 _ _ hx, T.cl, T.nHal, rfl, _, rfl, hd, _, rfl, DPut.t (k := keyK (rv % 128, decide (128 ≤ rv))) (s3 _ _ hh) (s2 _ _ g1) hz, ?_⟩
      have f4 : Fr [x, hd, wl] H (upd H2 hd (.dT (putK kvs (keyK (rv % 128, decide (128 ≤ rv))) hv'))) := (Fr.of s3).puts hm2 (s3 _ _ hh) dT_nt
      have f4' : Fr [hd] H (upd H2 hd (.dT (putK kvs (keyK (rv % 128, decide (128 ≤ rv))) hv'))) := (Fr.of s3).puts (List.mem_singleton.mpr rfl) (s3 _ _ hh) dT_nt
      have k4 : KT0 H2 (upd H2 hd (.dT (putK kvs (keyK (rv % 128, decide (128 ≤ rv))) hv'))) := kt_put (s3 _ _ hh) dT_nt
      refine ⟨_, rfl, (by show 2 ≤ sizeLine; decide), fun t ht => ⟨t, _, rfl, .inr (SqT.of upd_same), rfl, rfl, _, rfl, bF (by decide +kernel) ?_⟩⟩
      have s5 := Same.new (o := HO.tup [V.str "reset", V.str "shut"]) ht
      refine k hd _ (.inl rfl) ⟨dx, fa, pc, .ref ra, s5 _ _ (f4'.at hx (not1 nxh)), ?_⟩ (f4.and s5)
      have kt5 : KT0 H _ := fun b xs e => s5 _ _ (f4.kt b xs e)
      exact ⟨R.plan.kt kt5, ⟨ps, s5 _ _ (f4'.at hps (not1 nhp)), hpn, fun v m => (hpz v m).kt kt5⟩, ⟨_, s5 _ _ upd_same, (((hks.kt (Same.kt s3)).kt k4).put (hhv'.kt k4) hmem).kt (Same.kt s5)⟩, R.pieces.kt kt5, ⟨ws, s5 _ _ (f4'.at hw (not1 (Ne.symm nhw))), Nat.le_succ_of_le hwn⟩, fun r e => (R.req r e).kt kt5, npw⟩
    · refine ⟨_, rfl, rfl, _, rfl, bF (by decide +kernel) ?_⟩
      refine ⟨_, rfl, rfl, _, rfl, bF (by decide +kernel) ?_⟩
      refine ⟨_, rfl, rfl, _, rfl, bF (by decide +kernel) ?_⟩
      refine ⟨_, rfl, (by show 2 ≤ sizeLine; decide), fun t ht => ⟨t, _, rfl, .inr (SqT.of upd_same), rfl, rfl, _, rfl, bT (by decide +kernel) ?_⟩⟩
      have s1 := Same.new (o := HO.tup [V.str "reset", V.str "shut"]) ht
      refine ⟨_, rfl, x, C, dx, _, _, rfl, s1 _ _ hx, T.cl, T.nWsh, rfl, .inl ⟨rfl, _, SqL.of (s1 _ _ hw)⟩, ?_⟩
      refine ⟨_, rfl, x, C, dx, _, _, rfl, s1 _ _ hx, T.cl, T.nReq, rfl, wl, ws, .ref ra, rfl, rfl, s1 _ _ hw, Nat.lt_of_le_of_lt (Nat.le_trans hwn hn) (by decide), ?_⟩
      have f2 : Fr [wl] H _ := (Fr.of s1).puts (o' := .lst (ws ++ [.ref ra])) (List.mem_singleton.mpr rfl) (s1 _ _ hw) lst_nt
      refine k hd _ (.inl rfl) ⟨dx, fa, pc, .ref ra, f2.at hx (not1 nxw), ?_⟩ ((Fr.of s1).puts hm3 (s1 _ _ hw) lst_nt)
      exact ⟨R.plan.kt f2.kt, ⟨ps, f2.at hps (not1 npw), hpn, fun v m => (hpz v m).kt f2.kt⟩, ⟨kvs, f2.at hh (not1 nhw), hks.kt f2.kt⟩, R.pieces.kt f2.kt, ⟨ws ++ [.ref ra], upd_same, by rw [List.length_append]; exact Nat.succ_le_succ hwn⟩, fun r e => (R.req r e).kt f2.kt, npw⟩
    · refine ⟨_, rfl, rfl, _, rfl, bF (by decide +kernel) ?_⟩
      refine ⟨_, rfl, rfl, _, rfl, bF (by decide +kernel) ?_⟩
      refine ⟨_, rfl, rfl, _, rfl, bF (by decide +kernel) ?_⟩
      refine ⟨_, rfl, (by show 2 ≤ sizeLine; decide), fun t ht => ⟨t, _, rfl, .inr (SqT.of upd_same), rfl, rfl, _, rfl, bT (by decide +kernel) ?_⟩⟩
      have s1 := Same.new (o := HO.tup [V.str "reset", V.str "shut"]) ht
      refine ⟨_, rfl, x, C, dx, _, _, rfl, s1 _ _ hx, T.cl, T.nWsh, rfl, .inl ⟨rfl, _, SqL.of (s1 _ _ hw)⟩, ?_⟩
      refine ⟨_, rfl, x, C, dx, _, _, rfl, s1 _ _ hx, T.cl, T.nReq, rfl, wl, ws, .ref ra, rfl, rfl, s1 _ _ hw, Nat.lt_of_le_of_lt (Nat.le_trans hwn hn) (by decide), ?_⟩
      have f2 : Fr [wl] H _ := (Fr.of s1).puts (o' := .lst (ws ++ [.ref ra])) (List.mem_singleton.mpr rfl) (s1 _ _ hw) lst_nt
      refine k hd _ (.inl rfl) ⟨dx, fa, pc, .ref ra, f2.at hx (not1 nxw), ?_⟩ ((Fr.of s1).puts hm3 (s1 _ _ hw) lst_nt)
      exact ⟨R.plan.kt f2.kt, ⟨ps, f2.at hps (not1 npw), hpn, fun v m => (hpz v m).kt f2.kt⟩, ⟨kvs, f2.at hh (not1 nhw), hks.kt f2.kt⟩, R.pieces.kt f2.kt, ⟨ws ++ [.ref ra], upd_same, by rw [List.length_append]; exact Nat.succ_le_succ hwn⟩, fun r e => (R.req r e).kt f2.kt, npw⟩
end
end Plug
end
section
set_option Elab.async false
set_option linter.all false
set_option maxRecDepth 100000
set_option maxHeartbeats 4000000
namespace Plug
open PySem PySem.Spec PyProof.Rows L2 Mi
theorem row_len {p : Pl} (g : GoodPl p) {r : Rq} {row : List Int} (h : Mi.rowOf p r = some row) : row.length ≤ 10000 := by
  unfold Mi.rowOf at h
  have few := g.few
  split at h
  · cases h
    rw [deviceRow_len]; omega
  · split at h
    · cases h
      rw [settingsRow_len]; omega
    · split at h
      · cases h
        show 2 ≤ 10000
        omega
      · cases h
section
variable {P : Program} {w : World} {K : PySem.W.Frag} {mg : Str → Option Value} {base : Heap} {C : Addr}
/-! ### hear_setup(self, data) -/
def spHearSetup (C : Addr) : Sp := fun vs H Q _ => ∃ (x hp hd wl a : Addr) (s : Ms) (n : Nat) (p : Pl) (row : List Int) (o : Option Rq), vs = [.ref x, .ref a] ∧ ThAt C p H x hp hd wl s n ∧ GoodPl p ∧ H a = some (.tup (row.map V.int)) ∧ row.length = 8 ∧ IsReq row o ∧
  ∀ H', ThAt C p H' x hp hd wl (setupS p o s) n → Fr [x] H H' → Q (.str "ack") H'
theorem ok_hear_setup {Cb : Addr} (T : Txt K w mg C) (B : Bad K mg Cb) (D : Mth K C "hear_setup" "Thing.hear_setup" m_hear_setup ["self", "data"]) (GR : Clx P w K mg base 3 "read_request" (spRead Cb)) (GA : Cl P w K mg base 2 "asks" spAsks)
    (GY : Mt P w K mg base 4 C "reply" (spReply C)) (GL : Mt P w K mg base 2 C "lets" (spLets C)) (GC : Cl P w K mg base 1 "cut" spCut) : Mt P w K mg base 5 C "hear_setup" (spHearSetup C) := by
  refine mt_of D cm_hear_setup (fun vs H Q E h => ?_) (fun f cdv A outer s H vs Q E hr h => ?_)
  · obtain ⟨x, hp, hd, wl, a, ms, n, p, row, o, rfl, _⟩ := h
    rfl
  · obtain ⟨x, hp, hd, wl, a, ms, n, p, row, o, rfl, ⟨dx, fa, pc, rq, hx, R⟩, g, ha, h8, hio, k⟩ := h
    have nd := cm_hear_setup.nd
    obtain ⟨t8, m8⟩ := T.size0
    obtain ⟨fr, fdr, psr, FR, mgr, kpr, br⟩ := GR.ex
    refine ⟨_, pss_cons (ps_asg (pe_tup (pa_cons pe_str (pa_cons pe_int (pa_cons (pe_tup pa_nil) pa_nil)))) (pg_tup rfl (pgs_cons (pg_fld (pv 0)) (pgs_cons (pg_fld (pv 0)) (pgs_cons (pg_fld (pv 0)) pgs_nil)))))
      (pss_cons (ps_try_only (tb := fun W => sFld K (tVar 0) (tCallS (spRead Cb) (WE W) (tCons (tVar 1) tNil)) "request") (ts := fun _ _ _ => tRet (tC (.str "ack"))) (Wout := fun _ _ _ _ => False) rfl rfl ⟨rfl, by decide, .inl B.gP⟩ takes0
        (fun W pn xe tk _ => pss_one (ps_fld (pv 0) (pe_callS FR (hr.mono (by decide)) rfl mgr kpr br (fun σ => passAt tk σ) (by exact (pa_cons (pv 1) pa_nil))) rfl))
        (fun _ _ _ _ _ _ _ => pss_one (ps_ret pe_str)))
      (pss_cons (ps_if (pt_val (pe_cl GA hr (by decide) rfl (pa_cons (pe_fld (pv 0) rfl) pa_nil)))
        (pss_cons (ps_set (i := 2) nd rfl (.inl rfl) (pe_mt GY T.cl hr (by decide) (pv 0) (pa_cons (pe_fld (pv 0) rfl) pa_nil)))
        (pss_one (ps_if (pt_cmp (pc_notN (pv 2)))
          (pss_one (ps_asg (pe_tup (pa_cons pe_str (pa_cons (pe_callTy call_tuple_of (by rfl) T.tuple (by decide +kernel) (pa_cons (pe_cl GC hr (by decide) rfl (pa_cons (pv 2) (pa_cons (pe_glob (v := .int 8) rfl m8 ⟨_, rfl⟩) pa_nil))) pa_nil)) pa_nil)))
            (pg_tup rfl (pgs_cons (pg_fld (pv 0)) (pgs_cons (pg_fld (pv 0)) pgs_nil))))) pss_nil)))
        (pss_one (ps_if (pt_val (pe_mt GL T.cl hr (by decide) (pv 0) (pa_cons (pe_fld (pv 0) rfl) pa_nil))) (pss_one (ps_fld (pv 0) pe_str rfl)) pss_nil)))
      (pss_one (ps_ret pe_str)))), ?_⟩
    have m : x ∈ [x] := List.mem_singleton.mpr rfl
    obtain ⟨ps, hps, hpn, hpz⟩ := R.ports
    obtain ⟨kvs, hh, hks⟩ := R.halves
    obtain ⟨ws, hw, hwn⟩ := R.wish
    have nxh : x ≠ hd := ne_of hx hh (fun z => by cases z)
    have nxw : x ≠ wl := ne_of hx hw (fun z => by cases z)
    have nxp : hp ≠ x := ne_of hps hx (fun z => by cases z)
    -- stage, mark, pieces = 'stalled', 1, ()
    refine ⟨(by show 0 ≤ sizeLine; decide), fun pc1 hpc1 => ⟨(by show 3 ≤ sizeLine; decide), fun t1 ht1 => ?_⟩⟩
    have s1 : Same H (upd (upd H pc1 (.tup [])) t1 (.tup [V.str "stalled", .int 1, .ref pc1])) := (Same.new hpc1).trans (Same.new ht1)
    have p1 : (upd (upd H pc1 (.tup [])) t1 (.tup [V.str "stalled", .int 1, .ref pc1])) pc1 = some (.tup []) := Same.new ht1 _ _ upd_same
    have e1 : (upd (upd H pc1 (.tup [])) t1 (.tup [V.str "stalled", .int 1, .ref pc1])) t1 = some (.tup [V.str "stalled", .int 1, .ref pc1]) := upd_same
    revert s1 p1 e1
    generalize upd (upd H pc1 _) t1 _ = H1
    intro s1 p1 e1
    have x1 := s1 _ _ hx
    refine ⟨t1, _, rfl, SqT.of e1, rfl, _, _, rfl, _, rfl, x, C, dx, _, rfl, x1, T.cl, T.nStg, th_len, ?_⟩
    rw [th_stage]
    refine ⟨_, _, rfl, _, rfl, x, C, dx, _, rfl, upd_same, T.cl, T.nMrk, th_len, ?_⟩
    rw [upd_upd, th_mark]
    refine ⟨_, _, rfl, _, rfl, x, C, dx, _, rfl, upd_same, T.cl, T.nPcs, th_len, ?_⟩
    rw [upd_upd, th_pieces]
    refine ⟨rfl, ?_⟩
    have f2 : Fr [x] H (upd H1 x (.ins C dx (thF fa hp ms.num ms.lv hd "stalled" rq 1 pc1 wl))) := (Fr.of s1).puts m x1 ins_nt
    have p2 : (upd H1 x (.ins C dx (thF fa hp ms.num ms.lv hd "stalled" rq 1 pc1 wl))) pc1 = some (.tup []) := kt_put x1 ins_nt _ _ p1
    have x2 : (upd H1 x (.ins C dx (thF fa hp ms.num ms.lv hd "stalled" rq 1 pc1 wl))) x = _ := upd_same
    revert f2 p2 x2
    show Fr [x] H (upd H1 x (.ins C dx (thF fa hp ms.num ms.lv hd "stalled" rq 1 pc1 wl))) → _
    generalize upd H1 x (.ins C dx (thF fa hp ms.num ms.lv hd "stalled" rq 1 pc1 wl)) = H2
    intro f2 p2 x2
    -- request = read_request(data)
    refine ⟨_, rfl, a, row, rfl, f2.kt _ _ ha, h8, fun r hr2 v H3 s3 hq3 => ?_, fun hno H3 s3 => ⟨true, B.eP, fun _ _ _ => ?_, fun q => nomatch q⟩⟩
    · cases hio.one hr2
      have hok := hr2.1
      have f3 := f2.and s3
      have x3 := s3 _ _ x2
      refine ⟨_, rfl, x, C, dx, _, rfl, x3, T.cl, T.nReq, th_len, ?_⟩
      rw [th_request]
      have f4 : Fr [x] H (upd H3 x (.ins C dx (thF fa hp ms.num ms.lv hd "stalled" v 1 pc1 wl))) := f3.puts m x3 ins_nt
      have k4 : KT0 H3 (upd H3 x (.ins C dx (thF fa hp ms.num ms.lv hd "stalled" v 1 pc1 wl))) := kt_put x3 ins_nt
      have hq4 := hq3.kt k4
      have p4 := k4 _ _ (s3 _ _ p2)
      have x4 : (upd H3 x (.ins C dx (thF fa hp ms.num ms.lv hd "stalled" v 1 pc1 wl))) x = _ := upd_same
      revert f4 hq4 p4 x4
      clear k4
      generalize upd H3 x (.ins C dx (thF fa hp ms.num ms.lv hd "stalled" v 1 pc1 wl)) = H4
      intro f4 hq4 p4 x4
      -- the thing where nothing is met
      have still : ∀ (H' : Hp) (s' : Ms), Fr [x] H4 H' → H' x = some (.ins C dx (thF fa hp ms.num ms.lv hd (sgS s'.sg) v s'.mark pc1 wl)) → s'.pcs = [] → s'.rq = some r → s'.num = ms.num → s'.lv = ms.lv → ThAt C p H' x hp hd wl s' n := fun H' s' f' x' e1 e2 e3 e4 => by
        have fA := f4.trans f'
        refine ⟨dx, fa, pc1, v, by rw [e3, e4]; exact x', R.plan.kt fA.kt, ⟨ps, fA.at hps (not1 nxp), hpn, fun v m => (hpz v m).kt fA.kt⟩, ⟨kvs, fA.at hh (not1 (Ne.symm nxh)), by rw [e4]; exact hks.kt fA.kt⟩, ⟨[], f'.kt _ _ p4, by rw [e1]; exact .nil⟩, ⟨ws, fA.at hw (not1 (Ne.symm nxw)), hwn⟩, fun r' e' => ?_, R.apart⟩
        rw [e2] at e'
        cases e'
        exact hq4.kt f'.kt
      -- asks(request)
      refine ⟨_, rfl, x, C, dx, _, _, rfl, x4, T.cl, T.nReq, rfl, v, r, rfl, hq4, hok, fun H5 s5 => ⟨_, rfl, ?_⟩⟩
      by_cases ha5 : asksR r
      · refine bT (decide_eq_true ha5) ?_
        have f5 := f4.and s5
        have hq5 := hq4.kt (Same.kt s5)
        refine ⟨_, rfl, x, dx, _, rfl, s5 _ _ x4, rfl, _, rfl, x, C, dx, _, _, rfl, s5 _ _ x4, T.cl, T.nReq, rfl, x, dx, fa, hp, hd, pc1, wl, v, v, ⟨.stalled, 1, [], some r, ms.num, ms.lv⟩, p, r, rfl, s5 _ _ x4, R.plan.kt f5.kt, g, ⟨ps, f5.at hps (not1 nxp), hpn, fun v m => (hpz v m).kt f5.kt⟩, hq5, hok, ha5, fun row' hrow q H6 s6 g6 => ?_, fun hrow H6 s6 => ?_⟩
        · refine ⟨_, rfl, _, rfl, bT (by rfl) ?_⟩
          refine ⟨_, rfl, q, row', rfl, g6, row_len g hrow, fun l H7 s7 hl7 ⟨vs7, g7, h7⟩ => ?_⟩
          refine ⟨l, vs7, rfl, .inl ⟨SqL.of g7, fun q8 hq8 => ⟨(by show 2 ≤ sizeLine; decide), fun t9 ht9 => ?_⟩⟩⟩
          have s9 := ((s6.trans s7).trans (Same.new (o := HO.tup vs7) hq8)).trans (Same.new (o := HO.tup [V.str "give", .ref q8]) ht9)
          have q9 : (upd (upd H7 q8 (.tup vs7)) t9 (.tup [V.str "give", .ref q8])) q8 = some (.tup vs7) := Same.new ht9 _ _ upd_same
          have t9' : (upd (upd H7 q8 (.tup vs7)) t9 (.tup [V.str "give", .ref q8])) t9 = some (.tup [V.str "give", .ref q8]) := upd_same
          have h9 : Paired (TupI (upd (upd H7 q8 (.tup vs7)) t9 (.tup [V.str "give", .ref q8]))) vs7 (cutL row') := Paired.mapP h7 fun _ _ z => z.kt (Same.kt ((Same.new hq8).trans (Same.new ht9)))
          revert s9 q9 t9' h9
          generalize upd (upd H7 q8 _) t9 _ = H9
          intro s9 q9 t9' h9
          have x9 := (s5.trans s9) _ _ x4
          refine ⟨t9, _, rfl, SqT.of t9', rfl, _, _, rfl, _, rfl, x, C, dx, _, rfl, x9, T.cl, T.nStg, th_len, ?_⟩
          rw [th_stage]
          refine ⟨_, _, rfl, _, rfl, x, C, dx, _, rfl, upd_same, T.cl, T.nPcs, th_len, ?_⟩
          rw [upd_upd, th_pieces]
          refine ⟨rfl, ?_⟩
          have fA : Fr [x] H (upd H9 x (.ins C dx (thF fa hp ms.num ms.lv hd "give" v 1 q8 wl))) := ((f4.and s5).and s9).puts m x9 ins_nt
          have kA : KT0 H9 (upd H9 x (.ins C dx (thF fa hp ms.num ms.lv hd "give" v 1 q8 wl))) := kt_put x9 ins_nt
          have es : setupS p (some r) ms = ⟨.give, 1, cutL row', some r, ms.num, ms.lv⟩ := by
            unfold setupS
            simp only [if_pos ha5, hrow]
          refine k _ ?_ fA
          rw [es]
          refine ⟨dx, fa, q8, v, upd_same, R.plan.kt fA.kt, ⟨ps, fA.at hps (not1 nxp), hpn, fun v m => (hpz v m).kt fA.kt⟩, ⟨kvs, fA.at hh (not1 (Ne.symm nxh)), hks.kt fA.kt⟩, ⟨vs7, kA _ _ q9, Paired.mapP h9 fun _ _ z => z.kt kA⟩, ⟨ws, fA.at hw (not1 (Ne.symm nxw)), hwn⟩, fun r' e' => ?_, R.apart⟩
          cases e'
          exact (hq5.kt (Same.kt s9)).kt kA
        · refine ⟨_, rfl, _, rfl, bF (by rfl) ?_⟩
          have es : setupS p (some r) ms = ⟨.stalled, 1, [], some r, ms.num, ms.lv⟩ := by
            unfold setupS
            simp only [if_pos ha5, hrow]
          refine k _ ?_ (f5.and s6)
          rw [es]
          exact still H6 _ (Fr.of (s5.trans s6)) ((s5.trans s6) _ _ x4) rfl rfl rfl rfl
      · refine bF (decide_eq_false ha5) ?_
        have f5 := f4.and s5
        have hq5 := hq4.kt (Same.kt s5)
        refine ⟨_, rfl, x, dx, _, rfl, s5 _ _ x4, rfl, _, rfl, x, C, dx, _, _, rfl, s5 _ _ x4, T.cl, T.nReq, rfl, x, dx, fa, hp, hd, pc1, wl, v, v, ⟨.stalled, 1, [], some r, ms.num, ms.lv⟩, n, p, r, rfl, s5 _ _ x4, R.plan.kt f5.kt, g, ⟨kvs, f5.at hh (not1 (Ne.symm nxh)), hks.kt f5.kt⟩, hq5, hok, ha5, fun H6 s6 => ⟨_, rfl, ?_⟩⟩
        by_cases hm : Mi.Meets p ms.lv r
        · refine bT (decide_eq_true hm) ?_
          have x6 := (s5.trans s6) _ _ x4
          refine ⟨_, rfl, x, C, dx, _, rfl, x6, T.cl, T.nStg, th_len, ?_⟩
          rw [th_stage]
          have es : setupS p (some r) ms = ⟨.status, 1, [], some r, ms.num, ms.lv⟩ := by
            unfold setupS
            simp only [if_neg ha5, if_pos hm]
          refine k _ ?_ ((f5.and s6).puts m x6 ins_nt)
          rw [es]
          exact still _ _ ((Fr.of (s5.trans s6)).puts m x6 ins_nt) upd_same rfl rfl rfl rfl
        · refine bF (decide_eq_false hm) ?_
          have es : setupS p (some r) ms = ⟨.stalled, 1, [], some r, ms.num, ms.lv⟩ := by
            unfold setupS
            simp only [if_neg ha5, if_neg hm]
          refine k _ ?_ (f5.and s6)
          rw [es]
          exact still H6 _ (Fr.of (s5.trans s6)) ((s5.trans s6) _ _ x4) rfl rfl rfl rfl
    · cases hio.one hno
      have f3 := f2.and s3
      refine k _ ?_ f3
      refine ⟨dx, fa, pc1, rq, s3 _ _ x2, R.plan.kt f3.kt, ⟨ps, f3.at hps (not1 nxp), hpn, fun v m => (hpz v m).kt f3.kt⟩, ⟨kvs, f3.at hh (not1 (Ne.symm nxh)), hks.kt f3.kt⟩, ⟨[], s3 _ _ p2, .nil⟩, ⟨ws, f3.at hw (not1 (Ne.symm nxw)), hwn⟩, (fun r e => by cases e), R.apart⟩
end
end Plug
end
section
set_option Elab.async false
set_option linter.all false
set_option maxRecDepth 100000
set_option maxHeartbeats 4000000
namespace Plug
open PySem PySem.Spec PyProof.Rows L2 Mi
def AnsAt (H : Hp) (v : V) : An → Prop
  | .stall => ∃ a, v = .ref a ∧ H a = some (.tup [.str "stall"])
  | .nak => ∃ a, v = .ref a ∧ H a = some (.tup [.str "nak"])
  | .data m xs => ∃ a b, v = .ref a ∧ H a = some (.tup [.str "data", .int m, .ref b]) ∧ H b = some (.tup (xs.map V.int))
theorem AnsAt.kt {H H' : Hp} {v : V} : ∀ {a : An}, KT0 H H' → AnsAt H v a → AnsAt H' v a
  | .stall, k, ⟨a, e, q⟩ => ⟨a, e, k _ _ q⟩
  | .nak, k, ⟨a, e, q⟩ => ⟨a, e, k _ _ q⟩
  | .data _ _, k, ⟨a, b, e, q, r⟩ => ⟨a, b, e, k _ _ q, k _ _ r⟩
theorem gt0 {n : Nat} (h : 0 < n) : decide ((0 : Int) < (n : Int)) = true := decide_eq_true (by omega)
section
variable {P : Program} {w : World} {K : PySem.W.Frag} {mg : Str → Option Value} {base : Heap} {C : Addr}
/-! ### hear_in0(self) -/
def spIn0 (C : Addr) : Sp := fun vs H Q _ => ∃ (x hp hd wl : Addr) (s : Ms) (n : Nat) (p : Pl), vs = [.ref x] ∧ ThAt C p H x hp hd wl s n ∧ n ≤ 10000 ∧ GoodPl p ∧ Wf p s ∧
  ∀ v hd' H', (hd' = hd ∨ H hd' = none) → ThAt C p H' x hp hd' wl (inS s).2 (n + 1) → AnsAt H' v (inS s).1 → Fr [x, hd, wl] H H' → Q v H'
theorem ok_hear_in0 (T : Txt K w mg C) (D : Mth K C "hear_in0" "Thing.hear_in0" m_hear_in0 ["self"]) (GE : Mt P w K mg base 3 C "effect" (spEffect C)) : Mt P w K mg base 4 C "hear_in0" (spIn0 C) := by
  refine mt_of D cm_hear_in0 (fun vs H Q E h => ?_) (fun f cdv A outer s H vs Q E hr h => ?_)
  · obtain ⟨x, hp, hd, wl, ms, n, p, rfl, _⟩ := h
    rfl
  · obtain ⟨x, hp, hd, wl, ⟨sg, mk, pcs, mrq, num, lv⟩, n, p, rfl, ⟨dx, fa, pc, rq, hx, R⟩, hn, g, wf, k⟩ := h
    have nd := cm_hear_in0.nd
    refine ⟨_, pss_cons (ps_if (pt_cmpR op_eq (pe_fld (pv 0) rfl) pe_str (nomark _)) (pss_one (ps_ret (pe_tup (pa_cons pe_str pa_nil)))) pss_nil)
      (pss_cons (ps_if (PW.pt (pw_and (pt_cmpR op_eq (pe_fld (pv 0) rfl) pe_str (nomark _)) (pw_and1 (pt_cmpR op_gt (pe_callB call_len_seq (by rfl) T.len PySem.boot_len (pa_cons (pe_fld (pv 0) rfl) pa_nil)) pe_int (nomark _))))) (pss_one (ps_ret (pe_tup (pa_cons pe_str (pa_cons (pe_fld (pv 0) rfl) (pa_cons (pe_ix ix_tup (pe_fld (pv 0) rfl) pe_int (fun _ _ => rfl)) pa_nil)))))) pss_nil)
      (pss_cons (ps_if (PW.pt (pw_and (pt_cmpR op_eq (pe_fld (pv 0) rfl) pe_str (nomark _)) (pw_and1 (pt_cmpR op_ne (pe_ix ix_tup (pe_fld (pv 0) rfl) pe_int (fun _ _ => rfl)) pe_str (nomark _))))) (pss_cons (ps_fld (pv 0) pe_str rfl) (pss_one (ps_expr (pe_mt0 GE T.cl hr (by decide) (pv 0))))) pss_nil)
      (pss_cons (ps_if (pt_cmpR op_in_seq (pe_fld (pv 0) rfl) (pe_tup (pa_cons pe_str (pa_cons pe_str pa_nil))) (by rfl)) (pss_one (ps_ret (pe_tup (pa_cons pe_str (pa_cons pe_int (pa_cons (pe_tup pa_nil) pa_nil)))))) pss_nil)
      (pss_one (ps_ret (pe_tup (pa_cons pe_str pa_nil))))))), ?_⟩
    have hm1 : x ∈ [x, hd, wl] := by simp
    obtain ⟨ps, hps, hpn, hpz⟩ := R.ports
    obtain ⟨kvs, hh, hks⟩ := R.halves
    obtain ⟨ws, hw, hwn⟩ := R.wish
    obtain ⟨vs, hpc, hvs⟩ := R.pieces
    have nxh : x ≠ hd := ne_of hx hh (fun z => by cases z)
    have nxw : x ≠ wl := ne_of hx hw (fun z => by cases z)
    have nxp : hp ≠ x := ne_of hps hx (fun z => by cases z)
    have fin0 : ∀ H', Same H H' → ThAt C p H' x hp hd wl ⟨sg, mk, pcs, mrq, num, lv⟩ (n + 1) := fun H' s' => by
      have TA : ThAt C p H x hp hd wl ⟨sg, mk, pcs, mrq, num, lv⟩ n := ⟨dx, fa, pc, rq, hx, R⟩
      exact (TA.fr (Fr.of (l := []) s') (by simp) (by simp) (by simp) (by simp)).more (Nat.le_succ n)
    cases sg with
    | stalled =>
      replace hx : H x = some (.ins C dx (thF fa hp num lv hd (sgS .stalled) rq mk pc wl)) := hx
      refine ⟨_, rfl, x, C, dx, _, _, rfl, hx, T.cl, T.nStg, rfl, rfl, _, rfl, bT (by decide +kernel) ?_⟩
      exact ⟨(by show 1 ≤ sizeLine; decide), fun t ht => k _ hd _ (.inl rfl) (fin0 _ (Same.new ht)) ⟨t, rfl, upd_same⟩ (Fr.of (Same.new ht))⟩
    | idle =>
      replace hx : H x = some (.ins C dx (thF fa hp num lv hd (sgS .idle) rq mk pc wl)) := hx
      refine ⟨_, rfl, x, C, dx, _, _, rfl, hx, T.cl, T.nStg, rfl, rfl, _, rfl, bF (by decide +kernel) ?_⟩
      refine ⟨_, rfl, x, C, dx, _, _, rfl, hx, T.cl, T.nStg, rfl, rfl, _, rfl, bF (by decide +kernel) ?_⟩
      refine ⟨_, rfl, x, C, dx, _, _, rfl, hx, T.cl, T.nStg, rfl, rfl, _, rfl, bF (by decide +kernel) ?_⟩
      refine ⟨_, rfl, x, C, dx, _, _, rfl, hx, T.cl, T.nStg, rfl, (by show 2 ≤ sizeLine; decide), fun t ht => ⟨t, _, rfl, .inr (SqT.of upd_same), rfl, rfl, _, rfl, bF (by decide +kernel) ⟨(by show 1 ≤ sizeLine; decide), fun t2 ht2 => ?_⟩⟩⟩
      have s2 := (Same.new (o := HO.tup [V.str "status", V.str "stated"]) ht).trans (Same.new (o := HO.tup [V.str "nak"]) ht2)
      exact k _ hd _ (.inl rfl) (fin0 _ s2) ⟨t2, rfl, upd_same⟩ (Fr.of s2)
    | give =>
      replace hx : H x = some (.ins C dx (thF fa hp num lv hd (sgS .give) rq mk pc wl)) := hx
      refine ⟨_, rfl, x, C, dx, _, _, rfl, hx, T.cl, T.nStg, rfl, rfl, _, rfl, bF (by decide +kernel) ?_⟩
      refine ⟨_, rfl, x, C, dx, _, _, rfl, hx, T.cl, T.nStg, rfl, rfl, _, rfl, bT (by decide +kernel) ?_⟩
      refine ⟨_, rfl, x, C, dx, _, _, rfl, hx, T.cl, T.nPcs, rfl, pc, vs, rfl, .inr (SqT.of hpc), _, _, rfl, rfl, _, rfl, ?_⟩
      cases hvs with
      | nil =>
        refine bF (by decide +kernel) ?_
        refine ⟨_, rfl, x, C, dx, _, _, rfl, hx, T.cl, T.nStg, rfl, rfl, _, rfl, bF (by decide +kernel) ?_⟩
        refine ⟨_, rfl, x, C, dx, _, _, rfl, hx, T.cl, T.nStg, rfl, (by show 2 ≤ sizeLine; decide), fun t ht => ⟨t, _, rfl, .inr (SqT.of upd_same), rfl, rfl, _, rfl, bF (by decide +kernel) ⟨(by show 1 ≤ sizeLine; decide), fun t2 ht2 => ?_⟩⟩⟩
        have s2 := (Same.new (o := HO.tup [V.str "status", V.str "stated"]) ht).trans (Same.new (o := HO.tup [V.str "nak"]) ht2)
        exact k _ hd _ (.inl rfl) (fin0 _ s2) ⟨t2, rfl, upd_same⟩ (Fr.of s2)
      | @cons v0 xs0 vt pt hv0 ht0 =>
        refine bT (gt0 (Nat.succ_pos _)) ?_
        obtain ⟨b, rfl, hb⟩ := hv0
        refine ⟨_, rfl, x, C, dx, _, _, rfl, hx, T.cl, T.nMrk, rfl, _, rfl, x, C, dx, _, _, rfl, hx, T.cl, T.nPcs, rfl, pc, _, 0, _, rfl, rfl, SqT.of hpc, at_of (j := 0) rfl rfl, (by show 3 ≤ sizeLine; decide), fun t ht => ?_⟩
        have s1 := Same.new (o := HO.tup [V.str "data", .int mk, .ref b]) ht
        exact k _ hd _ (.inl rfl) (fin0 _ s1) ⟨t, b, rfl, upd_same, s1 _ _ hb⟩ (Fr.of s1)
    | stated =>
      replace hx : H x = some (.ins C dx (thF fa hp num lv hd (sgS .stated) rq mk pc wl)) := hx
      refine ⟨_, rfl, x, C, dx, _, _, rfl, hx, T.cl, T.nStg, rfl, rfl, _, rfl, bF (by decide +kernel) ?_⟩
      refine ⟨_, rfl, x, C, dx, _, _, rfl, hx, T.cl, T.nStg, rfl, rfl, _, rfl, bF (by decide +kernel) ?_⟩
      refine ⟨_, rfl, x, C, dx, _, _, rfl, hx, T.cl, T.nStg, rfl, rfl, _, rfl, bF (by decide +kernel) ?_⟩
      refine ⟨_, rfl, x, C, dx, _, _, rfl, hx, T.cl, T.nStg, rfl, (by show 2 ≤ sizeLine; decide), fun t ht => ⟨t, _, rfl, .inr (SqT.of upd_same), rfl, rfl, _, rfl, bT (by decide +kernel) ?_⟩⟩
      refine ⟨(by show 0 ≤ sizeLine; decide), fun t1 ht1 => ⟨(by show 3 ≤ sizeLine; decide), fun t2 ht2 => ?_⟩⟩
      have s2 := ((Same.new (o := HO.tup [V.str "status", V.str "stated"]) ht).trans (Same.new (o := HO.tup []) ht1)).trans (Same.new (o := HO.tup [V.str "data", .int 1, .ref t1]) ht2)
      exact k _ hd _ (.inl rfl) (fin0 _ s2) ⟨t2, t1, rfl, upd_same, Same.new ht2 _ _ upd_same⟩ (Fr.of s2)
    | status =>
      replace hx : H x = some (.ins C dx (thF fa hp num lv hd (sgS .status) rq mk pc wl)) := hx
      obtain ⟨r, er, hok, na, me⟩ := wf.st rfl
      have er : mrq = some r := er
      subst er
      obtain ⟨ra, rfl, hra⟩ := R.req r rfl
      replace hx : H x = some (.ins C dx (thF fa hp num lv hd (sgS .status) (.ref ra) mk pc wl)) := hx
      have h8 := hok.1
      refine ⟨_, rfl, x, C, dx, _, _, rfl, hx, T.cl, T.nStg, rfl, rfl, _, rfl, bF (by decide +kernel) ?_⟩
      refine ⟨_, rfl, x, C, dx, _, _, rfl, hx, T.cl, T.nStg, rfl, rfl, _, rfl, bF (by decide +kernel) ?_⟩
      refine ⟨_, rfl, x, C, dx, _, _, rfl, hx, T.cl, T.nStg, rfl, rfl, _, rfl, bT (by decide +kernel) ?_⟩
      refine ⟨_, rfl, x, C, dx, _, _, rfl, hx, T.cl, T.nReq, rfl, ra, _, 0, _, rfl, rfl, SqT.of hra, at_of (j := 0) rfl (rq_at0 r), rfl, _, rfl, ?_⟩
      rw [show (!decide (V.str (wordS r.w) = V.str "number")) = !decide (r.w = 2) from congrArg not (word_dec h8 2 (by decide))]
      by_cases c : r.w = 2
      · refine bF (by rw [decide_eq_true c]; rfl) ?_
        refine ⟨_, rfl, x, C, dx, _, _, rfl, hx, T.cl, T.nStg, rfl, (by show 2 ≤ sizeLine; decide), fun t ht => ⟨t, _, rfl, .inr (SqT.of upd_same), rfl, rfl, _, rfl, bT (by decide +kernel) ?_⟩⟩
        refine ⟨(by show 0 ≤ sizeLine; decide), fun t1 ht1 => ⟨(by show 3 ≤ sizeLine; decide), fun t2 ht2 => ?_⟩⟩
        have s2 := ((Same.new (o := HO.tup [V.str "status", V.str "stated"]) ht).trans (Same.new (o := HO.tup []) ht1)).trans (Same.new (o := HO.tup [V.str "data", .int 1, .ref t1]) ht2)
        have ei : inS ⟨.status, mk, pcs, some r, num, lv⟩ = (.data 1 [], ⟨.status, mk, pcs, some r, num, lv⟩) := by
          unfold inS
          simp only [if_pos c]
        rw [ei] at k
        exact k _ hd _ (.inl rfl) (fin0 _ s2) ⟨t2, t1, rfl, upd_same, Same.new ht2 _ _ upd_same⟩ (Fr.of s2)
      · refine bT (by rw [decide_eq_false c]; rfl) ?_
        refine ⟨_, rfl, x, C, dx, _, rfl, hx, T.cl, T.nStg, th_len, ?_⟩
        rw [th_stage]
        have f1 : Fr [x] H (upd H x (.ins C dx (thF fa hp num lv hd "stated" (.ref ra) mk pc wl))) := Fr.put (List.mem_singleton.mpr rfl) hx ins_nt
        have f1' : Fr [x, hd, wl] H (upd H x (.ins C dx (thF fa hp num lv hd "stated" (.ref ra) mk pc wl))) := Fr.put hm1 hx ins_nt
        have x1 : (upd H x (.ins C dx (thF fa hp num lv hd "stated" (.ref ra) mk pc wl))) x = _ := upd_same
        have R1 := R.fr f1 (not1 nxp) (not1 (Ne.symm nxh)) (not1 (Ne.symm nxw))
        revert f1 f1' x1 R1
        generalize upd H x (.ins C dx (thF fa hp num lv hd "stated" (.ref ra) mk pc wl)) = H1
        intro f1 f1' x1 R1
        refine ⟨_, rfl, x, dx, _, rfl, x1, rfl, x, hp, hd, wl, ⟨.stated, mk, pcs, some r, num, lv⟩, n, p, r, rfl, ⟨dx, fa, pc, .ref ra, x1, ⟨R1.plan, R1.ports, R1.halves, R1.pieces, R1.wish, R1.req, R1.apart⟩⟩, hn, g, rfl, hok, na, me, fun hd' H2 hd2 T2 f2 => ?_⟩
        have n0 : hd' = hd ∨ H hd' = none := by
          rcases hd2 with h | h
          · exact .inl h
          · exact .inr (f1.none h (not1 fun z => by rw [z, x1] at h; cases h))
        have T2' := T2
        obtain ⟨dx2, fa2, pc2, rq2, x2, R2⟩ := T2
        have x2 : H2 x = some (.ins C dx2 (thF fa2 hp (effS ⟨.stated, mk, pcs, some r, num, lv⟩ r).num (effS ⟨.stated, mk, pcs, some r, num, lv⟩ r).lv hd' (sgS .stated) rq2 mk pc2 wl)) := x2
        refine ⟨_, rfl, x, C, dx2, _, _, rfl, x2, T.cl, T.nStg, rfl, (by show 2 ≤ sizeLine; decide), fun t ht => ⟨t, _, rfl, .inr (SqT.of upd_same), rfl, rfl, _, rfl, bT (by decide +kernel) ?_⟩⟩
        refine ⟨(by show 0 ≤ sizeLine; decide), fun t1 ht1 => ⟨(by show 3 ≤ sizeLine; decide), fun t2 ht2 => ?_⟩⟩
        have s2 := ((Same.new (o := HO.tup [V.str "status", V.str "stated"]) ht).trans (Same.new (o := HO.tup []) ht1)).trans (Same.new (o := HO.tup [V.str "data", .int 1, .ref t1]) ht2)
        have ei : inS ⟨.status, mk, pcs, some r, num, lv⟩ = (.data 1 [], effS ⟨.stated, mk, pcs, some r, num, lv⟩ r) := by
          unfold inS
          simp only [if_neg c]
          rfl
        rw [ei] at k
        exact k _ hd' _ n0 (T2'.fr (Fr.of (l := []) s2) (by simp) (by simp) (by simp) (by simp)) ⟨t2, t1, rfl, upd_same, Same.new ht2 _ _ upd_same⟩ ((f1'.trans f2).and s2)
/-! ### went0(self) -/
def spWent0 (C : Addr) : Sp := fun vs H Q _ => ∃ (x hp hd wl : Addr) (s : Ms) (n : Nat) (p : Pl), vs = [.ref x] ∧ ThAt C p H x hp hd wl s n ∧ n ≤ 10000 ∧ GoodPl p ∧ Wf p s ∧
  ∀ hd' H', (hd' = hd ∨ H hd' = none) → ThAt C p H' x hp hd' wl (wentS s) (n + 1) → Fr [x, hd, wl] H H' → Q .non H'
theorem ok_went0 (T : Txt K w mg C) (D : Mth K C "went0" "Thing.went0" m_went0 ["self"]) (GE : Mt P w K mg base 3 C "effect" (spEffect C)) : Mt P w K mg base 4 C "went0" (spWent0 C) := by
  refine mt_of D cm_went0 (fun vs H Q E h => ?_) (fun f cdv A outer s H vs Q E hr h => ?_)
  · obtain ⟨x, hp, hd, wl, ms, n, p, rfl, _⟩ := h
    rfl
  · obtain ⟨x, hp, hd, wl, ⟨sg, mk, pcs, mrq, num, lv⟩, n, p, rfl, ⟨dx, fa, pc, rq, hx, R⟩, hn, g, wf, k⟩ := h
    have nd := cm_went0.nd
    refine ⟨_, pss_cons (ps_if (PW.pt (pw_and (pt_cmpR op_eq (pe_fld (pv 0) rfl) pe_str (nomark _)) (pw_and1 (pt_cmpR op_gt (pe_callB call_len_seq (by rfl) T.len PySem.boot_len (pa_cons (pe_fld (pv 0) rfl) pa_nil)) pe_int (nomark _))))) (pss_cons (ps_fld (pv 0) (pe_slice sl_tupU (pe_fld (pv 0) rfl) (po_some pe_int) po_none) rfl) (pss_one (ps_fld (pv 0) (pe_op op_sub pe_int (pe_fld (pv 0) rfl)) rfl))) pss_nil)
      (pss_cons (ps_if (pt_cmpR op_eq (pe_fld (pv 0) rfl) pe_str (nomark _)) (pss_one (ps_expr (pe_mt0 GE T.cl hr (by decide) (pv 0)))) pss_nil)
      (pss_one (ps_if (pt_cmpR op_in_seq (pe_fld (pv 0) rfl) (pe_tup (pa_cons pe_str (pa_cons pe_str pa_nil))) (by rfl)) (pss_one (ps_fld (pv 0) pe_str rfl)) pss_nil))), ?_⟩
    have hm1 : x ∈ [x, hd, wl] := by simp
    obtain ⟨ps, hps, hpn, hpz⟩ := R.ports
    obtain ⟨kvs, hh, hks⟩ := R.halves
    obtain ⟨ws, hw, hwn⟩ := R.wish
    obtain ⟨vs, hpc, hvs⟩ := R.pieces
    have nxh : x ≠ hd := ne_of hx hh (fun z => by cases z)
    have nxw : x ≠ wl := ne_of hx hw (fun z => by cases z)
    have nxp : hp ≠ x := ne_of hps hx (fun z => by cases z)
    have fin0 : ∀ H', Same H H' → ThAt C p H' x hp hd wl ⟨sg, mk, pcs, mrq, num, lv⟩ (n + 1) := fun H' s' => by
      have TA : ThAt C p H x hp hd wl ⟨sg, mk, pcs, mrq, num, lv⟩ n := ⟨dx, fa, pc, rq, hx, R⟩
      exact (TA.fr (Fr.of (l := []) s') (by simp) (by simp) (by simp) (by simp)).more (Nat.le_succ n)
    cases sg with
    | stalled =>
      replace hx : H x = some (.ins C dx (thF fa hp num lv hd (sgS .stalled) rq mk pc wl)) := hx
      refine ⟨_, rfl, x, C, dx, _, _, rfl, hx, T.cl, T.nStg, rfl, rfl, _, rfl, bF (by decide +kernel) ?_⟩
      refine ⟨_, rfl, x, C, dx, _, _, rfl, hx, T.cl, T.nStg, rfl, rfl, _, rfl, bF (by decide +kernel) ?_⟩
      refine ⟨_, rfl, x, C, dx, _, _, rfl, hx, T.cl, T.nStg, rfl, (by show 2 ≤ sizeLine; decide), fun t ht => ⟨t, _, rfl, .inr (SqT.of upd_same), rfl, rfl, _, rfl, bF (by decide +kernel) ?_⟩⟩
      exact k hd _ (.inl rfl) (fin0 _ (Same.new ht)) (Fr.of (Same.new ht))
    | idle =>
      replace hx : H x = some (.ins C dx (thF fa hp num lv hd (sgS .idle) rq mk pc wl)) := hx
      refine ⟨_, rfl, x, C, dx, _, _, rfl, hx, T.cl, T.nStg, rfl, rfl, _, rfl, bF (by decide +kernel) ?_⟩
      refine ⟨_, rfl, x, C, dx, _, _, rfl, hx, T.cl, T.nStg, rfl, rfl, _, rfl, bF (by decide +kernel) ?_⟩
      refine ⟨_, rfl, x, C, dx, _, _, rfl, hx, T.cl, T.nStg, rfl, (by show 2 ≤ sizeLine; decide), fun t ht => ⟨t, _, rfl, .inr (SqT.of upd_same), rfl, rfl, _, rfl, bF (by decide +kernel) ?_⟩⟩
      exact k hd _ (.inl rfl) (fin0 _ (Same.new ht)) (Fr.of (Same.new ht))
    | give =>
      replace hx : H x = some (.ins C dx (thF fa hp num lv hd (sgS .give) rq mk pc wl)) := hx
      refine ⟨_, rfl, x, C, dx, _, _, rfl, hx, T.cl, T.nStg, rfl, rfl, _, rfl, bT (by decide +kernel) ?_⟩
      refine ⟨_, rfl, x, C, dx, _, _, rfl, hx, T.cl, T.nPcs, rfl, pc, vs, rfl, .inr (SqT.of hpc), _, _, rfl, rfl, _, rfl, ?_⟩
      cases hvs with
      | nil =>
        refine bF (by decide +kernel) ?_
        refine ⟨_, rfl, x, C, dx, _, _, rfl, hx, T.cl, T.nStg, rfl, rfl, _, rfl, bF (by decide +kernel) ?_⟩
        refine ⟨_, rfl, x, C, dx, _, _, rfl, hx, T.cl, T.nStg, rfl, (by show 2 ≤ sizeLine; decide), fun t ht => ⟨t, _, rfl, .inr (SqT.of upd_same), rfl, rfl, _, rfl, bF (by decide +kernel) ?_⟩⟩
        exact k hd _ (.inl rfl) (fin0 _ (Same.new ht)) (Fr.of (Same.new ht))
      | @cons v0 xs0 vt pt hv0 ht0 =>
        refine bT (gt0 (Nat.succ_pos _)) ?_
        refine ⟨_, rfl, x, C, dx, _, _, rfl, hx, T.cl, T.nPcs, rfl, _, rfl, pc, _, rfl, hpc, fun q H1 s1 g1 => ?_⟩
        rw [cutV_one] at g1
        refine ⟨_, rfl, x, C, dx, _, rfl, s1 _ _ hx, T.cl, T.nPcs, th_len, ?_⟩
        rw [th_pieces]
        refine ⟨_, rfl, x, C, dx, _, _, rfl, upd_same, T.cl, T.nMrk, rfl, _, _, rfl, rfl, ?_⟩
        refine ⟨_, rfl, x, C, dx, _, rfl, upd_same, T.cl, T.nMrk, th_len, ?_⟩
        rw [upd_upd, th_mark]
        have f1 : Fr [x] H (upd H1 x (.ins C dx (thF fa hp num lv hd (sgS .give) rq (1 - mk) q wl))) := (Fr.of s1).puts (List.mem_singleton.mpr rfl) (s1 _ _ hx) ins_nt
        have f1' : Fr [x, hd, wl] H (upd H1 x (.ins C dx (thF fa hp num lv hd (sgS .give) rq (1 - mk) q wl))) := (Fr.of s1).puts hm1 (s1 _ _ hx) ins_nt
        have x1 : (upd H1 x (.ins C dx (thF fa hp num lv hd (sgS .give) rq (1 - mk) q wl))) x = _ := upd_same
        have q1 : (upd H1 x (.ins C dx (thF fa hp num lv hd (sgS .give) rq (1 - mk) q wl))) q = some (.tup vt) := kt_put (s1 _ _ hx) ins_nt _ _ g1
        have R1 := R.fr f1 (not1 nxp) (not1 (Ne.symm nxh)) (not1 (Ne.symm nxw))
        revert f1 f1' x1 q1 R1
        show Fr [x] H (upd H1 x (.ins C dx (thF fa hp num lv hd (sgS .give) rq (1 - mk) q wl))) → _
        generalize upd H1 x (.ins C dx (thF fa hp num lv hd (sgS .give) rq (1 - mk) q wl)) = H2
        intro f1 f1' x1 q1 R1
        refine ⟨_, rfl, x, C, dx, _, _, rfl, x1, T.cl, T.nStg, rfl, rfl, _, rfl, bF (by decide +kernel) ?_⟩
        refine ⟨_, rfl, x, C, dx, _, _, rfl, x1, T.cl, T.nStg, rfl, (by show 2 ≤ sizeLine; decide), fun t ht => ⟨t, _, rfl, .inr (SqT.of upd_same), rfl, rfl, _, rfl, bF (by decide +kernel) ?_⟩⟩
        have s2 := Same.new (o := HO.tup [V.str "status", V.str "stated"]) ht
        have R2 := R1.fr (Fr.of (l := []) s2) (by simp) (by simp) (by simp)
        exact k hd _ (.inl rfl) ⟨dx, fa, q, rq, s2 _ _ x1, ⟨R2.plan, R2.ports, R2.halves, ⟨vt, s2 _ _ q1, Paired.mapP ht0 fun _ _ z => (z.kt f1.kt).kt (Same.kt s2)⟩, (R2.more (Nat.le_succ n)).wish, R2.req, R2.apart⟩⟩ (f1'.and s2)
    | stated =>
      replace hx : H x = some (.ins C dx (thF fa hp num lv hd (sgS .stated) rq mk pc wl)) := hx
      refine ⟨_, rfl, x, C, dx, _, _, rfl, hx, T.cl, T.nStg, rfl, rfl, _, rfl, bF (by decide +kernel) ?_⟩
      refine ⟨_, rfl, x, C, dx, _, _, rfl, hx, T.cl, T.nStg, rfl, rfl, _, rfl, bF (by decide +kernel) ?_⟩
      refine ⟨_, rfl, x, C, dx, _, _, rfl, hx, T.cl, T.nStg, rfl, (by show 2 ≤ sizeLine; decide), fun t ht => ⟨t, _, rfl, .inr (SqT.of upd_same), rfl, rfl, _, rfl, bT (by decide +kernel) ?_⟩⟩
      have s1 := Same.new (o := HO.tup [V.str "status", V.str "stated"]) ht
      refine ⟨_, rfl, x, C, dx, _, rfl, s1 _ _ hx, T.cl, T.nStg, th_len, ?_⟩
      rw [th_stage]
      have f1 : Fr [x] H _ := (Fr.of s1).puts (o' := .ins C dx (thF fa hp num lv hd "idle" rq mk pc wl)) (List.mem_singleton.mpr rfl) (s1 _ _ hx) ins_nt
      have R1 := (R.fr f1 (not1 nxp) (not1 (Ne.symm nxh)) (not1 (Ne.symm nxw))).more (Nat.le_succ n)
      exact k hd _ (.inl rfl) ⟨dx, fa, pc, rq, upd_same, ⟨R1.plan, R1.ports, R1.halves, R1.pieces, R1.wish, R1.req, R1.apart⟩⟩ ((Fr.of s1).puts hm1 (s1 _ _ hx) ins_nt)
    | status =>
      replace hx : H x = some (.ins C dx (thF fa hp num lv hd (sgS .status) rq mk pc wl)) := hx
      obtain ⟨r, er, hok, na, me⟩ := wf.st rfl
      have er : mrq = some r := er
      subst er
      replace hx : H x = some (.ins C dx (thF fa hp num lv hd (sgS .status) rq mk pc wl)) := hx
      refine ⟨_, rfl, x, C, dx, _, _, rfl, hx, T.cl, T.nStg, rfl, rfl, _, rfl, bF (by decide +kernel) ?_⟩
      refine ⟨_, rfl, x, C, dx, _, _, rfl, hx, T.cl, T.nStg, rfl, rfl, _, rfl, bT (by decide +kernel) ?_⟩
      refine ⟨_, rfl, x, dx, _, rfl, hx, rfl, x, hp, hd, wl, ⟨.status, mk, pcs, some r, num, lv⟩, n, p, r, rfl, ⟨dx, fa, pc, rq, hx, R⟩, hn, g, rfl, hok, na, me, fun hd' H2 hd2 T2 f2 => ?_⟩
      obtain ⟨dx2, fa2, pc2, rq2, x2, R2⟩ := T2
      have x2 : H2 x = some (.ins C dx2 (thF fa2 hp (effS ⟨.status, mk, pcs, some r, num, lv⟩ r).num (effS ⟨.status, mk, pcs, some r, num, lv⟩ r).lv hd' (sgS .status) rq2 mk pc2 wl)) := x2
      refine ⟨_, rfl, x, C, dx2, _, _, rfl, x2, T.cl, T.nStg, rfl, (by show 2 ≤ sizeLine; decide), fun t ht => ⟨t, _, rfl, .inr (SqT.of upd_same), rfl, rfl, _, rfl, bT (by decide +kernel) ?_⟩⟩
      have s3 := Same.new (o := HO.tup [V.str "status", V.str "stated"]) ht
      refine ⟨_, rfl, x, C, dx2, _, rfl, s3 _ _ x2, T.cl, T.nStg, th_len, ?_⟩
      rw [th_stage]
      have f3 : Fr [x] H2 _ := (Fr.of s3).puts (o' := .ins C dx2 (thF fa2 hp (effS ⟨.status, mk, pcs, some r, num, lv⟩ r).num (effS ⟨.status, mk, pcs, some r, num, lv⟩ r).lv hd' "idle" rq2 mk pc2 wl)) (List.mem_singleton.mpr rfl) (s3 _ _ x2) ins_nt
      have nh2 : hd' ≠ x := by
        rcases hd2 with rfl | h
        · exact Ne.symm nxh
        · exact fun z => by rw [z, hx] at h; cases h
      have R3 := R2.fr f3 (not1 nxp) (not1 nh2) (not1 (Ne.symm nxw))
      exact k hd' _ hd2 ⟨dx2, fa2, pc2, rq2, upd_same, ⟨R3.plan, R3.ports, R3.halves, R3.pieces, R3.wish, R3.req, R3.apart⟩⟩ (f2.trans (f3.mono fun b hb => by rw [List.mem_singleton.mp hb]; exact hm1))
/-! ### hear_out0(self, mark, data) -/
def spOut0 (C : Addr) : Sp := fun vs H Q _ => ∃ (x hp hd wl a : Addr) (s : Ms) (n : Nat) (p : Pl) (m : Int) (xs : List Int), vs = [.ref x, .int m, .ref a] ∧ ThAt C p H x hp hd wl s n ∧ H a = some (.tup (xs.map V.int)) ∧
  ∀ H', ThAt C p H' x hp hd wl (outS s m xs).2 n → Fr [x] H H' → Q (.str (if (outS s m xs).1 = true then "ack" else "stall")) H'
theorem ok_hear_out0 (T : Txt K w mg C) (D : Mth K C "hear_out0" "Thing.hear_out0" m_hear_out0 ["self", "mark", "data"]) : Mt P w K mg base 1 C "hear_out0" (spOut0 C) := by
  refine mt_of D cm_hear_out0 (fun vs H Q E h => ?_) (fun f cdv A outer s H vs Q E hr h => ?_)
  · obtain ⟨x, hp, hd, wl, a, ms, n, p, m, xs, rfl, _⟩ := h
    rfl
  · obtain ⟨x, hp, hd, wl, a, ⟨sg, mk, pcs, mrq, num, lv⟩, n, p, m, xs, rfl, ⟨dx, fa, pc, rq, hx, R⟩, ha, k⟩ := h
    have nd := cm_hear_out0.nd
    refine ⟨_, pss_cons (ps_if (PW.pt (pw_or (pt_cmpR op_notIn_seq (pe_fld (pv 0) rfl) (pe_tup (pa_cons pe_str (pa_cons pe_str pa_nil))) (by rfl)) (pw_or (pt_cmpR op_ne (pv 1) pe_int (nomark _)) (pw_or1 (pt_cmpR op_gt (pe_callB call_len_seq (by rfl) T.len PySem.boot_len (pa_cons (pv 2) pa_nil)) pe_int (nomark _)))))) (pss_one (ps_ret pe_str)) pss_nil)
      (pss_cons (ps_fld (pv 0) pe_str rfl) (pss_one (ps_ret pe_str))), ?_⟩
    obtain ⟨ps, hps, hpn, hpz⟩ := R.ports
    obtain ⟨kvs, hh, hks⟩ := R.halves
    obtain ⟨ws, hw, hwn⟩ := R.wish
    have nxh : x ≠ hd := ne_of hx hh (fun z => by cases z)
    have nxw : x ≠ wl := ne_of hx hw (fun z => by cases z)
    have nxp : hp ≠ x := ne_of hps hx (fun z => by cases z)
    refine ⟨_, rfl, x, C, dx, _, _, rfl, hx, T.cl, T.nStg, rfl, (by show 2 ≤ sizeLine; decide), fun t ht => ⟨t, _, rfl, .inr (SqT.of upd_same), rfl, rfl, _, rfl, ?_⟩⟩
    have s1 := Same.new (o := HO.tup [V.str "give", V.str "idle"]) ht
    have no : ¬ ((sg = .give ∨ sg = .idle) ∧ m = 1 ∧ xs = []) → Q (.str "stall") (upd H t (.tup [V.str "give", V.str "idle"])) := fun h => by
      have e : outS ⟨sg, mk, pcs, mrq, num, lv⟩ m xs = (false, ⟨sg, mk, pcs, mrq, num, lv⟩) := by unfold outS; rw [if_neg h]
      rw [e] at k
      have TA : ThAt C p H x hp hd wl ⟨sg, mk, pcs, mrq, num, lv⟩ n := ⟨dx, fa, pc, rq, hx, R⟩
      exact k _ (TA.fr (Fr.of (l := []) s1) (by simp) (by simp) (by simp) (by simp)) (Fr.of s1)
    cases sg with
    | stalled => exact bT (show (if true = true then !inV (V.str (sgS .stalled)) [V.str "give", V.str "idle"] else inV (V.str (sgS .stalled)) [V.str "give", V.str "idle"]) = true from (by decide +kernel)) (no fun z => by rcases z.1 with h | h <;> cases h)
    | status => exact bT (show (if true = true then !inV (V.str (sgS .status)) [V.str "give", V.str "idle"] else inV (V.str (sgS .status)) [V.str "give", V.str "idle"]) = true from (by decide +kernel)) (no fun z => by rcases z.1 with h | h <;> cases h)
    | stated => exact bT (show (if true = true then !inV (V.str (sgS .stated)) [V.str "give", V.str "idle"] else inV (V.str (sgS .stated)) [V.str "give", V.str "idle"]) = true from (by decide +kernel)) (no fun z => by rcases z.1 with h | h <;> cases h)
    | give =>
      replace hx : H x = some (.ins C dx (thF fa hp num lv hd (sgS .give) rq mk pc wl)) := hx
      refine bF (show (if true = true then !inV (V.str (sgS .give)) [V.str "give", V.str "idle"] else inV (V.str (sgS .give)) [V.str "give", V.str "idle"]) = false from (by decide +kernel)) ?_
      refine ⟨_, rfl, rfl, _, rfl, ?_⟩
      by_cases c1 : m = 1
      · refine bF (nd_eq (congrArg V.int c1)) ?_
        refine ⟨_, rfl, a, _, rfl, .inr (SqT.of (s1 _ _ ha)), _, _, rfl, rfl, _, rfl, ?_⟩
        cases xs with
        | cons y ys => exact bT (gt0 (by rw [List.length_map]; exact Nat.succ_pos _)) (no fun z => nomatch z.2.2)
        | nil =>
          refine bF (by decide +kernel) ?_
          have e : outS ⟨.give, mk, pcs, mrq, num, lv⟩ m [] = (true, ⟨.idle, mk, pcs, mrq, num, lv⟩) := by unfold outS; rw [if_pos ⟨.inl rfl, c1, rfl⟩]
          rw [e] at k
          have x1 := s1 _ _ hx
          refine ⟨_, rfl, x, C, dx, _, rfl, x1, T.cl, T.nStg, th_len, ?_⟩
          rw [th_stage]
          have f1 : Fr [x] H _ := (Fr.of s1).puts (o' := .ins C dx (thF fa hp num lv hd "idle" rq mk pc wl)) (List.mem_singleton.mpr rfl) x1 ins_nt
          have R1 := R.fr f1 (not1 nxp) (not1 (Ne.symm nxh)) (not1 (Ne.symm nxw))
          exact k _ ⟨dx, fa, pc, rq, upd_same, ⟨R1.plan, R1.ports, R1.halves, R1.pieces, R1.wish, R1.req, R1.apart⟩⟩ f1
      · exact bT (nd_ne fun z => c1 (by injection z)) (no fun z => c1 z.2.1)
    | idle =>
      replace hx : H x = some (.ins C dx (thF fa hp num lv hd (sgS .idle) rq mk pc wl)) := hx
      refine bF (show (if true = true then !inV (V.str (sgS .idle)) [V.str "give", V.str "idle"] else inV (V.str (sgS .idle)) [V.str "give", V.str "idle"]) = false from (by decide +kernel)) ?_
      refine ⟨_, rfl, rfl, _, rfl, ?_⟩
      by_cases c1 : m = 1
      · refine bF (nd_eq (congrArg V.int c1)) ?_
        refine ⟨_, rfl, a, _, rfl, .inr (SqT.of (s1 _ _ ha)), _, _, rfl, rfl, _, rfl, ?_⟩
        cases xs with
        | cons y ys => exact bT (gt0 (by rw [List.length_map]; exact Nat.succ_pos _)) (no fun z => nomatch z.2.2)
        | nil =>
          refine bF (by decide +kernel) ?_
          have e : outS ⟨.idle, mk, pcs, mrq, num, lv⟩ m [] = (true, ⟨.idle, mk, pcs, mrq, num, lv⟩) := by unfold outS; rw [if_pos ⟨.inr rfl, c1, rfl⟩]
          rw [e] at k
          have x1 := s1 _ _ hx
          refine ⟨_, rfl, x, C, dx, _, rfl, x1, T.cl, T.nStg, th_len, ?_⟩
          rw [th_stage]
          have f1 : Fr [x] H _ := (Fr.of s1).puts (o' := .ins C dx (thF fa hp num lv hd "idle" rq mk pc wl)) (List.mem_singleton.mpr rfl) x1 ins_nt
          have R1 := R.fr f1 (not1 nxp) (not1 (Ne.symm nxh)) (not1 (Ne.symm nxw))
          exact k _ ⟨dx, fa, pc, rq, upd_same, ⟨R1.plan, R1.ports, R1.halves, R1.pieces, R1.wish, R1.req, R1.apart⟩⟩ f1
      · exact bT (nd_ne fun z => c1 (by injection z)) (no fun z => c1 z.2.1)
end
end Plug
end
section
set_option Elab.async false
set_option linter.all false
set_option maxRecDepth 100000
set_option maxHeartbeats 4000000
namespace Plug
open PySem PySem.Spec PyProof.Rows L2 Mi
section
variable {P : Program} {w : World} {K : PySem.W.Frag} {mg : Str → Option Value} {base : Heap} {C : Addr}
/-! ### endpoint 0 alone -/
def spIn (C : Addr) : Sp := fun vs H Q E => ∃ x, vs = [x, .int 0] ∧ spIn0 C [x] H Q E
theorem ok_hear_in (T : Txt K w mg C) (D : Mth K C "hear_in" "Thing.hear_in" m_hear_in ["self", "endpoint"]) (G : Mt P w K mg base 4 C "hear_in0" (spIn0 C)) : Mt P w K mg base 5 C "hear_in" (spIn C) := by
  refine mt_of D cm_hear_in (fun vs H Q E h => ?_) (fun f cdv A outer s H vs Q E hr h => ?_)
  · obtain ⟨x, rfl, _⟩ := h
    rfl
  · obtain ⟨_, rfl, x, hp, hd, wl, ms, n, p, e, ⟨dx, fa, pc, rq, hx, R⟩, hn, g, wf, k⟩ := h
    cases e
    refine ⟨_, pss_cons (ps_if (pt_cmpR op_eq (pv 1) pe_int (nomark _)) (pss_one (ps_ret (pe_mt0 G T.cl hr (by decide) (pv 0)))) pss_nil) pss_never, ?_⟩
    refine ⟨_, rfl, rfl, _, rfl, bT (by decide) ?_⟩
    exact ⟨_, rfl, x, dx, _, rfl, hx, rfl, x, hp, hd, wl, ms, n, p, rfl, ⟨dx, fa, pc, rq, hx, R⟩, hn, g, wf, k⟩
def spWent (C : Addr) : Sp := fun vs H Q E => ∃ x, vs = [x, .int 0] ∧ spWent0 C [x] H Q E
theorem ok_hear_went (T : Txt K w mg C) (D : Mth K C "hear_went" "Thing.hear_went" m_hear_went ["self", "endpoint"]) (G : Mt P w K mg base 4 C "went0" (spWent0 C)) : Mt P w K mg base 5 C "hear_went" (spWent C) := by
  refine mt_of D cm_hear_went (fun vs H Q E h => ?_) (fun f cdv A outer s H vs Q E hr h => ?_)
  · obtain ⟨x, rfl, _⟩ := h
    rfl
  · obtain ⟨_, rfl, x, hp, hd, wl, ms, n, p, e, ⟨dx, fa, pc, rq, hx, R⟩, hn, g, wf, k⟩ := h
    cases e
    refine ⟨_, pss_one (ps_if (pt_cmpR op_eq (pv 1) pe_int (nomark _)) (pss_one (ps_expr (pe_mt0 G T.cl hr (by decide) (pv 0)))) pss_never), ?_⟩
    refine ⟨_, rfl, rfl, _, rfl, bT (by decide) ?_⟩
    exact ⟨_, rfl, x, dx, _, rfl, hx, rfl, x, hp, hd, wl, ms, n, p, rfl, ⟨dx, fa, pc, rq, hx, R⟩, hn, g, wf, k⟩
def spOut (C : Addr) : Sp := fun vs H Q E => ∃ x m d, vs = [x, .int 0, m, d] ∧ spOut0 C [x, m, d] H Q E
theorem ok_hear_out (T : Txt K w mg C) (D : Mth K C "hear_out" "Thing.hear_out" m_hear_out ["self", "endpoint", "mark", "data"]) (G : Mt P w K mg base 1 C "hear_out0" (spOut0 C)) : Mt P w K mg base 2 C "hear_out" (spOut C) := by
  refine mt_of D cm_hear_out (fun vs H Q E h => ?_) (fun f cdv A outer s H vs Q E hr h => ?_)
  · obtain ⟨x, m, d, rfl, _⟩ := h
    rfl
  · obtain ⟨_, _, _, rfl, x, hp, hd, wl, a, ms, n, p, m, xs, e, ⟨dx, fa, pc, rq, hx, R⟩, ha, k⟩ := h
    cases e
    refine ⟨_, pss_cons (ps_if (pt_cmpR op_eq (pv 1) pe_int (nomark _)) (pss_one (ps_ret (pe_mt G T.cl hr (by decide) (pv 0) (pa_cons (pv 2) (pa_cons (pv 3) pa_nil))))) pss_nil) pss_never, ?_⟩
    refine ⟨_, rfl, rfl, _, rfl, bT (by decide) ?_⟩
    exact ⟨_, rfl, x, dx, _, rfl, hx, rfl, _, rfl, _, rfl, x, hp, hd, wl, a, ms, n, p, m, xs, rfl, ⟨dx, fa, pc, rq, hx, R⟩, ha, k⟩
/-! ### half(self, endpoint, way) -/
def spHalf (C : Addr) : Sp := fun vs H Q _ => ∃ (x hp hd wl : Addr) (s : Ms) (n : Nat) (p : Pl) (b : Int × Bool), vs = [.ref x, .int b.1, .str (wayS b.2)] ∧ ThAt C p H x hp hd wl s n ∧ b ∈ keysL p s.lv ∧ ∀ v H', Same H H' → HalfAt H' v b.2 → Q v H'
theorem ok_half (T : Txt K w mg C) (D : Mth K C "half" "Thing.half" m_half ["self", "endpoint", "way"]) : Mt P w K mg base 1 C "half" (spHalf C) := by
  refine mt_of D cm_half (fun vs H Q E h => ?_) (fun f cdv A outer s H vs Q E hr h => ?_)
  · obtain ⟨x, hp, hd, wl, ms, n, p, b, rfl, _⟩ := h
    rfl
  · obtain ⟨x, hp, hd, wl, ms, n, p, b, rfl, ⟨dx, fa, pc, rq, hx, R⟩, hb, k⟩ := h
    have hu := hu_of hr
    refine ⟨_, pss_cons (ps_if (pt_cmp (pc_dnotin hu (pe_tup (pa_cons (pv 1) (pa_cons (pv 2) pa_nil))) (pe_fld (pv 0) rfl))) pss_never pss_nil)
      (pss_one (ps_ret (pe_dget hu (pe_fld (pv 0) rfl) (pe_tup (pa_cons (pv 1) (pa_cons (pv 2) pa_nil))) (fun _ _ => rfl)))), ?_⟩
    obtain ⟨kvs, hh, hks⟩ := R.halves
    obtain ⟨v, ev, hv⟩ := hks.get hb
    refine ⟨_, rfl, _, rfl, (by show 2 ≤ sizeLine; decide), fun t ht => ?_⟩
    have s1 := Same.new (o := HO.tup [V.int b.1, .str (wayS b.2)]) ht
    refine ⟨_, rfl, x, C, dx, _, _, rfl, s1 _ _ hx, T.cl, T.nHal, rfl, hd, _, rfl, DGet.t (k := keyK b) (s1 _ _ hh) upd_same, _, rfl, bF (by rw [ev]; rfl) ?_⟩
    refine ⟨_, rfl, x, C, dx, _, _, rfl, s1 _ _ hx, T.cl, T.nHal, rfl, _, rfl, _, rfl, (by show 2 ≤ sizeLine; decide), fun t2 ht2 => ?_⟩
    have s2 := s1.trans (Same.new (o := HO.tup [V.int b.1, .str (wayS b.2)]) ht2)
    refine ⟨hd, v, rfl, ?_, k v _ s2 (hv.kt (Same.kt s2))⟩
    rw [← ev]
    exact DGet.t (k := keyK b) (s2 _ _ hh) upd_same
end
end Plug
end
section
set_option Elab.async false
set_option linter.all false
set_option maxRecDepth 100000
set_option maxHeartbeats 4000000
namespace Plug
open PySem PySem.Spec PyProof.Rows L2 Mi
def BagAt (H : Hp) (b c : Addr) : Prop := ∃ (cs : List Int) (k z q : Int), H b = some (.lst [.ref c, .int k, .int z, .int q]) ∧ H c = some (.lst (cs.map V.int)) ∧ 0 ≤ k
theorem BagAt.ne {H : Hp} {b c : Addr} (h : BagAt H b c) : b ≠ c := by
  obtain ⟨cs, k, z, q, hb, hc, _⟩ := h
  intro e
  rw [e, hc] at hb
  cases cs with
  | nil => cases hb
  | cons x xs => cases hb
theorem BagAt.fr {H H' : Hp} {b c : Addr} {l : List Addr} (h : BagAt H b c) (f : Fr l H H') (n1 : b ∉ l) (n2 : c ∉ l) : BagAt H' b c := by
  obtain ⟨cs, k, z, q, hb, hc, e⟩ := h
  exact ⟨cs, k, z, q, f.at hb n1, f.at hc n2, e⟩
section
variable {P : Program} {w : World} {K : PySem.W.Frag} {mg : Str → Option Value} {base : Heap} {C : Addr}
/-! ### _law_bag(script) -/
def spBag (K : PySem.W.Frag) : Sp := fun vs H Q _ => ∃ (a : Addr) (ns : List Int), vs = [.ref a] ∧ SqL K H a (ns.map V.int) ∧ ∀ b c H', H b = none → H c = none → BagAt H' b c → Same H H' → Q (.ref b) H'
theorem ok_l_bag (T : Txt K w mg C) (D : Dfn K mg "_law_bag" s_l_bag ["_law_script"]) : Cl P w K mg base 1 "_law_bag" (spBag K) := by
  refine cl_of D cs_l_bag (fun vs H Q E h => ?_) (fun f cdv A outer s H vs Q E hr h => ?_)
  · obtain ⟨a, ns, rfl, _⟩ := h
    rfl
  · obtain ⟨a, ns, rfl, ha, k⟩ := h
    have nd := cs_l_bag.nd
    refine ⟨_, pss_cons (ps_set (i := 1) nd rfl (.inl rfl) (pe_callTy call_list_of (by rfl) T.list (by decide +kernel) (pa_cons (pe_slice sl_list (pv 0) po_none (po_some pe_int)) pa_nil)))
      (pss_cons (ps_set (i := 2) nd rfl (.inl rfl) (pe_op op_add pe_int (pe_callB call_len_seq (by rfl) T.len PySem.boot_len (pa_cons (pv 1) pa_nil))))
      (pss_cons (ps_for PassesOwn.never rfl (pi_list (pv 1)) (pg_name (i := 3) nd rfl (.inl rfl)) (pss_one (ps_set (i := 2) nd rfl (.inl rfl) (pe_op op_mod (pe_op op_add (pe_op op_mul (pv 2) pe_int) (pv 3)) pe_int))))
      (pss_one (ps_ret (pe_lst (pa_cons (pv 1) (pa_cons pe_int (pa_cons pe_int (pa_cons (pv 2) pa_nil))))))))), ?_⟩
    refine ⟨_, rfl, 63, rfl, a, _, rfl, ha, fun l0 hl0 => ?_⟩
    have e0 : cutV (ns.map V.int) none (some 63) = (ns.take 63).map V.int := (cutV_to _ 63).trans List.map_take.symm
    rw [e0]
    have s0 := Same.new (o := HO.lst ((ns.take 63).map V.int)) hl0
    refine ⟨l0, _, rfl, .inl (SqL.of upd_same), fun l hl => ?_⟩
    have s1 := s0.trans (Same.new (o := HO.lst ((ns.take 63).map V.int)) hl)
    have g1 : (upd (upd H l0 (.lst ((ns.take 63).map V.int))) l (.lst ((ns.take 63).map V.int))) l = some (.lst ((ns.take 63).map V.int)) := upd_same
    have hl' : H l = none := by
      cases q : H l with
      | none => rfl
      | some o => rw [s0 _ _ q] at hl; cases hl
    revert s1 g1
    generalize ns.take 63 = cs
    generalize upd (upd H l0 _) l _ = H1
    intro s1 g1
    refine ⟨_, rfl, l, _, rfl, .inl (SqL.of g1), _, _, rfl, rfl, ?_⟩
    refine ⟨_, rfl, l, rfl, ⟨_, SqL.of g1⟩, for_list (K := K) (a := l) (xs := cs.map V.int) (fun i σ H2 => H2 = H1 ∧ ∃ (q : Int) (v : Option V), σ = [some (.ref a), some (.ref l), some (.int q), v])
      ⟨rfl, _, none, rfl⟩ (fun i σ H2 _ ⟨e, _⟩ => by rw [e]; exact SqL.of g1) ?_ ?_⟩
    · rintro i x σ H2 hx ⟨rfl, q, v, rfl⟩
      rw [List.getElem?_map] at hx
      obtain ⟨y, hy, rfl⟩ := Option.map_eq_some_iff.mp hx
      refine ⟨_, rfl, _, _, rfl, rfl, .inr ⟨by decide, by decide⟩, _, rfl, _, _, rfl, rfl, _, _, rfl, rfl, (by show (0 : Int) < 2147483629; decide), rfl, _, _, rfl⟩
    · rintro σ H2 ⟨rfl, q, v, rfl⟩
      refine ⟨_, rfl, _, rfl, (by show 4 ≤ sizeLine; decide), fun b hb => ?_⟩
      have s2 := s1.trans (Same.new (o := HO.lst [.ref l, .int 0, .int 0, .int q]) hb)
      have hb' : H b = none := by
        cases z : H b with
        | none => rfl
        | some o => rw [s1 _ _ z] at hb; cases hb
      exact k b l _ hb' hl' ⟨cs, 0, 0, q, upd_same, by rw [upd_ne (ne_of_none g1 hb)]; exact g1, Int.le_refl _⟩ s2
/-! ### _law_pull(bag, upto) -/
def spPull : Sp := fun vs H Q _ => ∃ (b c : Addr) (u : Int), vs = [.ref b, .int u] ∧ BagAt H b c ∧ 0 < u ∧ u < 1073741824 ∧ ∀ (r : Int) H', 0 ≤ r → r < u → BagAt H' b c → Fr [b] H H' → Q (.int r) H'
theorem ok_l_pull (T : Txt K w mg C) (D : Dfn K mg "_law_pull" s_l_pull ["_law_bag_here", "_law_upto"]) : Cl P w K mg base 1 "_law_pull" spPull := by
  refine cl_of D cs_l_pull (fun vs H Q E h => ?_) (fun f cdv A outer s H vs Q E hr h => ?_)
  · obtain ⟨b, c, u, rfl, _⟩ := h
    rfl
  · obtain ⟨b, c, u, rfl, hbag, u0, u1, k⟩ := h
    have nbc := hbag.ne
    obtain ⟨cs, kk, z, q, hb, hc, hk⟩ := hbag
    have nd := cs_l_pull.nd
    have AT : ∀ i : Nat, True := fun _ => trivial
    refine ⟨_, pss_cons (ps_if (pt_cmpR op_lt (pe_ix ix_list (pv 0) pe_int (fun _ _ => rfl)) pe_int (nomark _))
        (pss_cons (ps_asg (pe_op op_add (pe_ix ix_list (pv 0) pe_int (fun _ _ => rfl)) pe_int) (pg_sub (pv 0) pe_int set_list))
        (pss_cons (ps_set (i := 2) nd rfl (.inl rfl) (pe_op op_add (pe_ix ix_list (pv 0) pe_int (fun _ _ => rfl)) (pe_op op_mul (pe_ix ix_list (pv 0) pe_int (fun _ _ => rfl)) pe_int)))
        (pss_cons (ps_if (pt_cmpR op_le (pe_ix ix_list (pv 0) pe_int (fun _ _ => rfl)) (pe_callB call_len_seq (by rfl) T.len PySem.boot_len (pa_cons (pe_ix ix_list (pv 0) pe_int (fun _ _ => rfl)) pa_nil)) (nomark _)) (pss_one (ps_set (i := 2) nd rfl (.inl rfl) (pe_ix ix_list (pe_ix ix_list (pv 0) pe_int (fun _ _ => rfl)) (pe_op op_sub (pe_ix ix_list (pv 0) pe_int (fun _ _ => rfl)) pe_int) (fun _ _ => rfl)))) pss_nil)
        (pss_cons (ps_if (PW.pt (pw_or (pt_cmpR op_gt (pe_ix ix_list (pv 0) pe_int (fun _ _ => rfl)) (pe_callB call_len_seq (by rfl) T.len PySem.boot_len (pa_cons (pe_ix ix_list (pv 0) pe_int (fun _ _ => rfl)) pa_nil)) (nomark _)) (pw_or1 (pt_cmpR op_lt (pv 2) (pe_op op_pow pe_int pe_int) (nomark _)))))
          (pss_cons (ps_set (i := 3) nd rfl (.inl rfl) (pe_op op_mod (pe_op op_add (pe_op op_add (pe_op op_mul (pv 2) pe_int) (pe_op op_mul (pe_ix ix_list (pv 0) pe_int (fun _ _ => rfl)) pe_int)) (pe_ix ix_list (pv 0) pe_int (fun _ _ => rfl))) pe_int))
          (pss_cons (ps_set (i := 4) nd rfl (.inl rfl) (pe_op op_mod (pe_op op_add (pe_op op_mul (pv 3) (pv 3)) (pe_ix ix_list (pv 0) pe_int (fun _ _ => rfl))) pe_int))
          (pss_one (ps_ret (pe_op op_mod (pe_op op_fdiv (pe_op op_mod (pe_op op_add (pe_op op_mul (pv 4) pe_int) (pv 3)) pe_int) pe_int) (pv 1)))))) pss_nil)
        (pss_one (ps_asg (pv 2) (pg_sub (pv 0) pe_int set_list))))))) pss_nil)
      (pss_cons (ps_set (i := 5) nd rfl (.inl rfl) (pe_op op_mod (pe_ix ix_list (pv 0) pe_int (fun _ _ => rfl)) (pv 1)))
      (pss_cons (ps_asg (pe_op op_fdiv (pe_ix ix_list (pv 0) pe_int (fun _ _ => rfl)) (pv 1)) (pg_sub (pv 0) pe_int set_list))
      (pss_one (ps_ret (pv 5))))), ?_⟩
    have m : b ∈ [b] := List.mem_singleton.mpr rfl
    -- the end: a drawn number of what is held
    have fin : ∀ (H2 : Hp) (k2 z2 q2 : Int), H2 b = some (.lst [.ref c, .int k2, .int z2, .int q2]) → H2 c = some (.lst (cs.map V.int)) → 0 ≤ k2 → Fr [b] H H2 →
        BagAt (upd H2 b (.lst [.ref c, .int k2, .int (z2 / u), .int q2])) b c ∧ Fr [b] H (upd H2 b (.lst [.ref c, .int k2, .int (z2 / u), .int q2])) ∧ 0 ≤ z2 % u ∧ z2 % u < u := fun H2 k2 z2 q2 b2 c2 h2 f2 =>
      ⟨⟨cs, k2, z2 / u, q2, upd_same, by rw [upd_ne (Ne.symm nbc)]; exact c2, h2⟩, f2.puts m b2 lst_nt, Int.emod_nonneg _ (Int.ne_of_gt u0), Int.emod_lt_of_pos _ u0⟩
    refine ⟨_, rfl, b, _, 2, _, rfl, rfl, SqL.of hb, rfl, _, _, rfl, rfl, _, rfl, ?_⟩
    by_cases c1 : z < 2
    · refine bT (decide_eq_true c1) ?_
      refine ⟨_, rfl, b, _, 1, _, rfl, rfl, SqL.of hb, rfl, _, _, rfl, rfl, _, rfl, b, _, 1, 1, rfl, rfl, hb, rfl, ?_⟩
      generalize hH1 : upd H b (.lst _) = H1
      have b1 : H1 b = some (.lst [.ref c, .int (kk + 1), .int z, .int q]) := by rw [← hH1]; exact upd_same
      have c1' : H1 c = some (.lst (cs.map V.int)) := by rw [← hH1, upd_ne (Ne.symm nbc)]; exact hc
      have f1 : Fr [b] H H1 := by rw [← hH1]; exact Fr.put m hb lst_nt
      clear hH1
      refine ⟨_, rfl, b, _, 3, _, rfl, rfl, SqL.of b1, rfl, _, rfl, b, _, 1, _, rfl, rfl, SqL.of b1, rfl, _, _, rfl, rfl, .inr ⟨by decide, by decide⟩, _, _, rfl, rfl, ?_⟩
      refine ⟨_, rfl, b, _, 1, _, rfl, rfl, SqL.of b1, rfl, _, rfl, b, _, 0, _, rfl, rfl, SqL.of b1, rfl, c, _, rfl, .inl (SqL.of c1'), _, _, rfl, rfl, _, rfl, ?_⟩
      rw [List.length_map]
      by_cases c2 : kk + 1 ≤ (cs.length : Int)
      · refine bT (decide_eq_true c2) ?_
        obtain ⟨j, hj⟩ : ∃ j : Nat, kk + 1 - 1 = (j : Int) := ⟨kk.toNat, by omega⟩
        obtain ⟨y, hy⟩ : ∃ y, cs[j]? = some y := ⟨_, List.getElem?_eq_getElem (by omega)⟩
        have hym : (cs.map V.int)[j]? = some (.int y) := by rw [List.getElem?_map, hy]; rfl
        refine ⟨_, rfl, b, _, 0, _, rfl, rfl, SqL.of b1, rfl, _, rfl, b, _, 1, _, rfl, rfl, SqL.of b1, rfl, _, _, rfl, rfl, c, _, _, _, rfl, rfl, SqL.of c1', at_of hj hym, ?_⟩
        refine ⟨_, rfl, b, _, 1, _, rfl, rfl, SqL.of b1, rfl, _, rfl, b, _, 0, _, rfl, rfl, SqL.of b1, rfl, c, _, rfl, .inl (SqL.of c1'), _, _, rfl, rfl, _, rfl, bF (by rw [List.length_map]; exact decide_eq_false (by omega)) ?_⟩
        refine ⟨_, rfl, _, _, rfl, rfl, ⟨by decide, by decide, by decide⟩, _, _, rfl, rfl, _, rfl, ?_⟩
        by_cases c3 : y < 10 ^ 18
        · refine bT (decide_eq_true c3) ?_
          refine ⟨_, rfl, _, _, rfl, rfl, .inr ⟨by decide, by decide⟩, _, rfl, b, _, 1, _, rfl, rfl, SqL.of b1, rfl, _, _, rfl, rfl, .inr ⟨by decide, by decide⟩, _, _, rfl, rfl, _, rfl, b, _, 3, _, rfl, rfl, SqL.of b1, rfl, _, _, rfl, rfl, _, _, rfl, rfl, (by show (0 : Int) < 2147483647; decide), ?_⟩
          have hf : 0 ≤ (y * 48271 + (kk + 1) * 40692 + q) % 2147483647 ∧ (y * 48271 + (kk + 1) * 40692 + q) % 2147483647 < 2147483647 := ⟨Int.emod_nonneg _ (by decide), Int.emod_lt_of_pos _ (by decide)⟩
          refine ⟨_, rfl, _, rfl, _, _, rfl, rfl, .inl ⟨by omega, by omega⟩, _, rfl, b, _, 1, _, rfl, rfl, SqL.of b1, rfl, _, _, rfl, rfl, _, _, rfl, rfl, (by show (0 : Int) < 998244353; decide), ?_⟩
          refine ⟨_, rfl, _, _, rfl, rfl, .inr ⟨by decide, by decide⟩, _, rfl, _, _, rfl, rfl, _, _, rfl, rfl, (by show (0 : Int) < 2147483629; decide), _, _, rfl, rfl, ⟨by decide, by decide⟩, _, rfl, _, _, rfl, rfl, u0, ?_⟩
          exact k _ H1 (Int.emod_nonneg _ (Int.ne_of_gt u0)) (Int.emod_lt_of_pos _ u0) ⟨cs, kk + 1, z, q, b1, c1', by omega⟩ f1
        · refine bF (decide_eq_false c3) ?_
          refine ⟨_, rfl, _, rfl, b, _, 2, 2, rfl, rfl, b1, rfl, ?_⟩
          generalize hH2 : upd H1 b (.lst _) = H2
          have b2 : H2 b = some (.lst [.ref c, .int (kk + 1), .int y, .int q]) := by rw [← hH2]; exact upd_same
          have c2' : H2 c = some (.lst (cs.map V.int)) := by rw [← hH2, upd_ne (Ne.symm nbc)]; exact c1'
          have f2 : Fr [b] H H2 := by rw [← hH2]; exact f1.puts m b1 lst_nt
          clear hH2
          refine ⟨_, rfl, b, _, 2, _, rfl, rfl, SqL.of b2, rfl, _, rfl, _, _, rfl, rfl, u0, ?_⟩
          refine ⟨_, rfl, b, _, 2, _, rfl, rfl, SqL.of b2, rfl, _, rfl, _, _, rfl, rfl, ⟨u0, u1⟩, _, rfl, b, _, 2, 2, rfl, rfl, b2, rfl, ?_⟩
          obtain ⟨h1, h2, h3, h4⟩ := fin _ _ _ _ b2 c2' (by omega) f2
          exact ⟨_, rfl, k _ _ h3 h4 h1 h2⟩
      · refine bF (decide_eq_false c2) ?_
        refine ⟨_, rfl, b, _, 1, _, rfl, rfl, SqL.of b1, rfl, _, rfl, b, _, 0, _, rfl, rfl, SqL.of b1, rfl, c, _, rfl, .inl (SqL.of c1'), _, _, rfl, rfl, _, rfl, bT (by rw [List.length_map]; exact decide_eq_true (by omega)) ?_⟩
        refine ⟨_, rfl, _, _, rfl, rfl, .inr ⟨by decide, by decide⟩, _, rfl, b, _, 1, _, rfl, rfl, SqL.of b1, rfl, _, _, rfl, rfl, .inr ⟨by decide, by decide⟩, _, _, rfl, rfl, _, rfl, b, _, 3, _, rfl, rfl, SqL.of b1, rfl, _, _, rfl, rfl, _, _, rfl, rfl, (by show (0 : Int) < 2147483647; decide), ?_⟩
        have hf : 0 ≤ ((q + (kk + 1) * 7919) * 48271 + (kk + 1) * 40692 + q) % 2147483647 ∧ ((q + (kk + 1) * 7919) * 48271 + (kk + 1) * 40692 + q) % 2147483647 < 2147483647 := ⟨Int.emod_nonneg _ (by decide), Int.emod_lt_of_pos _ (by decide)⟩
        refine ⟨_, rfl, _, rfl, _, _, rfl, rfl, .inl ⟨by omega, by omega⟩, _, rfl, b, _, 1, _, rfl, rfl, SqL.of b1, rfl, _, _, rfl, rfl, _, _, rfl, rfl, (by show (0 : Int) < 998244353; decide), ?_⟩
        refine ⟨_, rfl, _, _, rfl, rfl, .inr ⟨by decide, by decide⟩, _, rfl, _, _, rfl, rfl, _, _, rfl, rfl, (by show (0 : Int) < 2147483629; decide), _, _, rfl, rfl, ⟨by decide, by decide⟩, _, rfl, _, _, rfl, rfl, u0, ?_⟩
        exact k _ H1 (Int.emod_nonneg _ (Int.ne_of_gt u0)) (Int.emod_lt_of_pos _ u0) ⟨cs, kk + 1, z, q, b1, c1', by omega⟩ f1
    · refine bF (decide_eq_false c1) ?_
      refine ⟨_, rfl, b, _, 2, _, rfl, rfl, SqL.of hb, rfl, _, rfl, _, _, rfl, rfl, u0, ?_⟩
      refine ⟨_, rfl, b, _, 2, _, rfl, rfl, SqL.of hb, rfl, _, rfl, _, _, rfl, rfl, ⟨u0, u1⟩, _, rfl, b, _, 2, 2, rfl, rfl, hb, rfl, ?_⟩
      obtain ⟨h1, h2, h3, h4⟩ := fin _ _ _ _ hb hc hk (Fr.refl [b] H)
      exact ⟨_, rfl, k _ _ h3 h4 h1 h2⟩
end
end Plug
end
section
set_option Elab.async false
set_option linter.all false
set_option maxRecDepth 100000
set_option maxHeartbeats 4000000
namespace Plug
open PySem PySem.Spec PyProof.Rows L2 Mi
/-- x is what y is: flat data, tuples and lists of it -/
def Sc (x y : V) : Prop := (∃ i, x = .int i ∧ y = .int i) ∨ (∃ z, x = .str z ∧ y = .str z) ∨ (∃ b, x = .bl b ∧ y = .bl b)
def SmR (R : V → V → Prop) (H : Hp) (x y : V) : Prop := ∃ a b xs ys, x = .ref a ∧ y = .ref b ∧ ((H a = some (.tup xs) ∧ H b = some (.tup ys)) ∨ (H a = some (.lst xs) ∧ H b = some (.lst ys))) ∧ xs.length ≤ 100 ∧ Paired R xs ys
def Sm (n : Nat) (H : Hp) : V → V → Prop := Nat.rec Sc (fun _ R x y => Sc x y ∨ SmR R H x y) n
theorem sm_zero {H : Hp} : Sm 0 H = Sc := rfl
theorem sm_succ {n : Nat} {H : Hp} : Sm (n + 1) H = fun x y => Sc x y ∨ SmR (Sm n H) H x y := rfl
theorem Sm.of {n : Nat} {H : Hp} {x y : V} (h : Sc x y) : Sm n H x y := by
  cases n with
  | zero => exact h
  | succ n => exact Or.inl h
theorem Sm.same {H H' : Hp} (s : Same H H') : ∀ {n : Nat} {x y : V}, Sm n H x y → Sm n H' x y
  | 0, _, _, h => h
  | n + 1, x, y, h => by
    rw [sm_succ] at h ⊢
    rcases h with h | ⟨a, b, xs, ys, e1, e2, h, hl, hp⟩
    · exact .inl h
    · refine .inr ⟨a, b, xs, ys, e1, e2, ?_, hl, Paired.mapP hp fun _ _ z => Sm.same s z⟩
      rcases h with ⟨h1, h2⟩ | ⟨h1, h2⟩
      · exact .inl ⟨s _ _ h1, s _ _ h2⟩
      · exact .inr ⟨s _ _ h1, s _ _ h2⟩
def rIxS (K : PySem.W.Frag) : R2 := fun x y H Q => rIxL K x y H Q ∨ rIxT K x y H Q
theorem ix_seq {X : Cx} : IxR X (rIxS X.K) := by
  intro value slice pins s σ H x y v u Q I rx ry h hs
  rcases h with h | h
  · exact ix_list value slice pins s σ H x y v u Q I rx ry h hs
  · exact ix_tup value slice pins s σ H x y v u Q I rx ry h hs
section
variable {P : Program} {w : World} {K : PySem.W.Frag} {mg : Str → Option Value} {base : Heap} {C : Addr}
/-! ### _law_whole(found) -/
def spWhole : Sp := fun vs H Q _ => ∃ i : Int, vs = [.int i] ∧ Q (.bl true) H
theorem ok_l_whole (T : Txt K w mg C) (D : Dfn K mg "_law_whole" s_l_whole ["_law_found"]) : Cl P w K mg base 1 "_law_whole" spWhole := by
  refine cl_of D cs_l_whole (fun vs H Q E h => ?_) (fun f cdv A outer s H vs Q E hr h => ?_)
  · obtain ⟨i, rfl, _⟩ := h
    rfl
  · obtain ⟨i, rfl, k⟩ := h
    refine ⟨_, pss_one (ps_ret (pe_and (pe_callB call_isi (by rfl) T.isinstance (by decide +kernel) (pa_cons (pv 0) (pa_cons (pe_bltn (v := .ty "int") rfl T.int (by decide +kernel) rfl) pa_nil))) (pe_one (pe_not (pe_callB call_isi (by rfl) T.isinstance (by decide +kernel) (pa_cons (pv 0) (pa_cons (pe_bltn (v := .ty "bool") rfl T.bool (by decide +kernel) rfl) pa_nil))))))), ?_⟩
    refine ⟨_, rfl, _, _, _, _, true, rfl, .ty "int", .base (.int i), kit_ty (by decide +kernel), _, rfl, bT rfl ⟨_, rfl, _, _, _, _, false, rfl, .ty "bool", .base (.int i), kit_ty (by decide +kernel), _, rfl, ?_⟩⟩
    exact k
/-! ### _law_same(found, due) -/
def spSame (n : Nat) : Sp := fun vs H Q _ => ∃ x y, vs = [x, y] ∧ Sm n H x y ∧ ∀ H', Same H H' → Q (.bl true) H'
theorem ok_l_same0 (T : Txt K w mg C) (D : Dfn K mg "_law_same" s_l_same ["_law_found", "_law_due"]) (GW : Cl P w K mg base 1 "_law_whole" spWhole) : Cl P w K mg base 2 "_law_same" (spSame 0) := by
  refine cl_of D cs_l_same (fun vs H Q E h => ?_) (fun f cdv A outer s H vs Q E hr h => ?_)
  · obtain ⟨x, y, rfl, _⟩ := h
    rfl
  · obtain ⟨x, y, rfl, hs, k⟩ := h
    have nd := cs_l_same.nd
    refine ⟨_, pss_cons (ps_if (pt_cmp (pc_isN (pv 1))) pss_never pss_nil)
      (pss_cons (ps_if (pt_val (pe_callB call_isi (by rfl) T.isinstance (by decide +kernel) (pa_cons (pv 1) (pa_cons (pe_bltn (v := .ty "bool") rfl T.bool (by decide +kernel) rfl) pa_nil)))) (pss_one (ps_ret (pe_and (pe_callB call_isi (by rfl) T.isinstance (by decide +kernel) (pa_cons (pv 0) (pa_cons (pe_bltn (v := .ty "bool") rfl T.bool (by decide +kernel) rfl) pa_nil))) (pe_one (pe_cmpR op_eq (pv 0) (pv 1) (nomark _)))))) pss_nil)
      (pss_cons (ps_if (pt_val (pe_callB call_isi (by rfl) T.isinstance (by decide +kernel) (pa_cons (pv 1) (pa_cons (pe_bltn (v := .ty "int") rfl T.int (by decide +kernel) rfl) pa_nil)))) (pss_one (ps_ret (pe_and (pe_cl GW hr (by omega) rfl (pa_cons (pv 0) pa_nil)) (pe_one (pe_cmpR op_eq (pv 0) (pv 1) (nomark _)))))) pss_nil)
      (pss_cons (ps_if (pt_val (pe_callB call_isi (by rfl) T.isinstance (by decide +kernel) (pa_cons (pv 1) (pa_cons (pe_bltn (v := .ty "str") rfl T.str (by decide +kernel) rfl) pa_nil)))) (pss_one (ps_ret (pe_and (pe_callB call_isi (by rfl) T.isinstance (by decide +kernel) (pa_cons (pv 0) (pa_cons (pe_bltn (v := .ty "str") rfl T.str (by decide +kernel) rfl) pa_nil))) (pe_one (pe_cmpR op_eq (pv 0) (pv 1) (nomark _)))))) pss_nil)
      pss_never))), ?_⟩
    · rw [sm_zero] at hs
      rcases hs with ⟨i, rfl, rfl⟩ | ⟨z, rfl, rfl⟩ | ⟨b, rfl, rfl⟩
      · refine ⟨_, rfl, _, rfl, bF (by rfl) ?_⟩
        refine ⟨_, rfl, _, _, _, _, false, rfl, .ty "bool", .base (.int i), kit_ty (by decide +kernel), _, rfl, bF rfl ?_⟩
        refine ⟨_, rfl, _, _, _, _, true, rfl, .ty "int", .base (.int i), kit_ty (by decide +kernel), _, rfl, bT rfl ?_⟩
        refine ⟨_, rfl, i, rfl, _, rfl, bT rfl ⟨_, rfl, _, rfl, rfl, ?_⟩⟩
        show Q (.bl (decide (V.int i = V.int i))) H
        rw [decide_eq_true rfl]
        exact k H (Same.refl H)
      · refine ⟨_, rfl, _, rfl, bF (by rfl) ?_⟩
        refine ⟨_, rfl, _, _, _, _, false, rfl, .ty "bool", .base (.str z), kit_ty (by decide +kernel), _, rfl, bF rfl ?_⟩
        refine ⟨_, rfl, _, _, _, _, false, rfl, .ty "int", .base (.str z), kit_ty (by decide +kernel), _, rfl, bF rfl ?_⟩
        refine ⟨_, rfl, _, _, _, _, true, rfl, .ty "str", .base (.str z), kit_ty (by decide +kernel), _, rfl, bT rfl ?_⟩
        refine ⟨_, rfl, _, _, _, _, true, rfl, .ty "str", .base (.str z), kit_ty (by decide +kernel), _, rfl, bT rfl ⟨_, rfl, _, rfl, rfl, ?_⟩⟩
        show Q (.bl (decide (V.str z = V.str z))) H
        rw [decide_eq_true rfl]
        exact k H (Same.refl H)
      · refine ⟨_, rfl, _, rfl, bF (by rfl) ?_⟩
        refine ⟨_, rfl, _, _, _, _, true, rfl, .ty "bool", .base (.bl b), kit_ty (by decide +kernel), _, rfl, bT rfl ?_⟩
        refine ⟨_, rfl, _, _, _, _, true, rfl, .ty "bool", .base (.bl b), kit_ty (by decide +kernel), _, rfl, bT rfl ⟨_, rfl, _, rfl, rfl, ?_⟩⟩
        show Q (.bl (decide (V.bl b = V.bl b))) H
        rw [decide_eq_true rfl]
        exact k H (Same.refl H)
theorem ok_l_sameS {n : Nat} (T : Txt K w mg C) (D : Dfn K mg "_law_same" s_l_same ["_law_found", "_law_due"]) (GW : Cl P w K mg base 1 "_law_whole" spWhole) (G : Cl P w K mg base (n + 2) "_law_same" (spSame n)) : Cl P w K mg base (n + 3) "_law_same" (spSame (n + 1)) := by
  refine cl_of D cs_l_same (fun vs H Q E h => ?_) (fun f cdv A outer s H vs Q E hr h => ?_)
  · obtain ⟨x, y, rfl, _⟩ := h
    rfl
  · obtain ⟨x, y, rfl, hs, k⟩ := h
    have nd := cs_l_same.nd
    refine ⟨_, pss_cons (ps_if (pt_cmp (pc_isN (pv 1))) pss_never pss_nil)
      (pss_cons (ps_if (pt_val (pe_callB call_isi (by rfl) T.isinstance (by decide +kernel) (pa_cons (pv 1) (pa_cons (pe_bltn (v := .ty "bool") rfl T.bool (by decide +kernel) rfl) pa_nil)))) (pss_one (ps_ret (pe_and (pe_callB call_isi (by rfl) T.isinstance (by decide +kernel) (pa_cons (pv 0) (pa_cons (pe_bltn (v := .ty "bool") rfl T.bool (by decide +kernel) rfl) pa_nil))) (pe_one (pe_cmpR op_eq (pv 0) (pv 1) (nomark _)))))) pss_nil)
      (pss_cons (ps_if (pt_val (pe_callB call_isi (by rfl) T.isinstance (by decide +kernel) (pa_cons (pv 1) (pa_cons (pe_bltn (v := .ty "int") rfl T.int (by decide +kernel) rfl) pa_nil)))) (pss_one (ps_ret (pe_and (pe_cl GW hr (by omega) rfl (pa_cons (pv 0) pa_nil)) (pe_one (pe_cmpR op_eq (pv 0) (pv 1) (nomark _)))))) pss_nil)
      (pss_cons (ps_if (pt_val (pe_callB call_isi (by rfl) T.isinstance (by decide +kernel) (pa_cons (pv 1) (pa_cons (pe_bltn (v := .ty "str") rfl T.str (by decide +kernel) rfl) pa_nil)))) (pss_one (ps_ret (pe_and (pe_callB call_isi (by rfl) T.isinstance (by decide +kernel) (pa_cons (pv 0) (pa_cons (pe_bltn (v := .ty "str") rfl T.str (by decide +kernel) rfl) pa_nil))) (pe_one (pe_cmpR op_eq (pv 0) (pv 1) (nomark _)))))) pss_nil)
      (pss_cons (ps_if (PW.pt (pw_or (pt_cmpR op_ne (pe_callB call_isi (by rfl) T.isinstance (by decide +kernel) (pa_cons (pv 1) (pa_cons (pe_bltn (v := .ty "list") rfl T.list (by decide +kernel) rfl) pa_nil))) (pe_callB call_isi (by rfl) T.isinstance (by decide +kernel) (pa_cons (pv 0) (pa_cons (pe_bltn (v := .ty "list") rfl T.list (by decide +kernel) rfl) pa_nil))) (nomark _)) (pw_or1 (pt_cmpR op_ne (pe_callB call_isi (by rfl) T.isinstance (by decide +kernel) (pa_cons (pv 1) (pa_cons (pe_bltn (v := .ty "tuple") rfl T.tuple (by decide +kernel) rfl) pa_nil))) (pe_callB call_isi (by rfl) T.isinstance (by decide +kernel) (pa_cons (pv 0) (pa_cons (pe_bltn (v := .ty "tuple") rfl T.tuple (by decide +kernel) rfl) pa_nil))) (nomark _))))) pss_never pss_nil)
      (pss_cons (ps_if (pt_cmpR op_ne (pe_callB call_len_seq (by rfl) T.len PySem.boot_len (pa_cons (pv 0) pa_nil)) (pe_callB call_len_seq (by rfl) T.len PySem.boot_len (pa_cons (pv 1) pa_nil)) (nomark _)) pss_never pss_nil)
      (pss_one (ps_ret (pe_callB (cr_all rfl) (by rfl) T.all (by decide +kernel) (pa_cons (pe_lc (own := [("_law_spot", 2)]) (g := gName 2) (tt := tYes) rfl nd (pi_range1 rfl T.range (pa_cons (pe_callB call_len_seq (by rfl) T.len PySem.boot_len (pa_cons (pv 1) pa_nil)) pa_nil)) (blkOk_by (N := ns_l_same) (sc := defScope s_l_same) (by decide +kernel))
        (fun _ _ _ _ _ => pg_name (i := 2) nd rfl (Or.inl rfl)) (fun _ _ _ _ _ => pts_nil) (fun _ _ _ _ _ => pe_cl G hr (by omega) rfl (pa_cons (pe_ix (r := rIxS K) ix_seq (pv 0) (pv 2) (fun _ _ => rfl)) (pa_cons (pe_ix (r := rIxS K) ix_seq (pv 1) (pv 2) (fun _ _ => rfl)) pa_nil)))) pa_nil))))))))), ?_⟩
    rw [sm_succ] at hs
    rcases hs with hs | ⟨a, b, xs, ys, rfl, rfl, hab, hl, hp⟩
    · skip
      rcases hs with ⟨i, rfl, rfl⟩ | ⟨z, rfl, rfl⟩ | ⟨b, rfl, rfl⟩
      · refine ⟨_, rfl, _, rfl, bF (by rfl) ?_⟩
        refine ⟨_, rfl, _, _, _, _, false, rfl, .ty "bool", .base (.int i), kit_ty (by decide +kernel), _, rfl, bF rfl ?_⟩
        refine ⟨_, rfl, _, _, _, _, true, rfl, .ty "int", .base (.int i), kit_ty (by decide +kernel), _, rfl, bT rfl ?_⟩
        refine ⟨_, rfl, i, rfl, _, rfl, bT rfl ⟨_, rfl, _, rfl, rfl, ?_⟩⟩
        show Q (.bl (decide (V.int i = V.int i))) H
        rw [decide_eq_true rfl]
        exact k H (Same.refl H)
      · refine ⟨_, rfl, _, rfl, bF (by rfl) ?_⟩
        refine ⟨_, rfl, _, _, _, _, false, rfl, .ty "bool", .base (.str z), kit_ty (by decide +kernel), _, rfl, bF rfl ?_⟩
        refine ⟨_, rfl, _, _, _, _, false, rfl, .ty "int", .base (.str z), kit_ty (by decide +kernel), _, rfl, bF rfl ?_⟩
        refine ⟨_, rfl, _, _, _, _, true, rfl, .ty "str", .base (.str z), kit_ty (by decide +kernel), _, rfl, bT rfl ?_⟩
        refine ⟨_, rfl, _, _, _, _, true, rfl, .ty "str", .base (.str z), kit_ty (by decide +kernel), _, rfl, bT rfl ⟨_, rfl, _, rfl, rfl, ?_⟩⟩
        show Q (.bl (decide (V.str z = V.str z))) H
        rw [decide_eq_true rfl]
        exact k H (Same.refl H)
      · refine ⟨_, rfl, _, rfl, bF (by rfl) ?_⟩
        refine ⟨_, rfl, _, _, _, _, true, rfl, .ty "bool", .base (.bl b), kit_ty (by decide +kernel), _, rfl, bT rfl ?_⟩
        refine ⟨_, rfl, _, _, _, _, true, rfl, .ty "bool", .base (.bl b), kit_ty (by decide +kernel), _, rfl, bT rfl ⟨_, rfl, _, rfl, rfl, ?_⟩⟩
        show Q (.bl (decide (V.bl b = V.bl b))) H
        rw [decide_eq_true rfl]
        exact k H (Same.refl H)
    · rcases hab with ⟨ha, hb⟩ | ⟨ha, hb⟩
      · refine ⟨_, rfl, _, rfl, bF (by rfl) ?_⟩
        refine ⟨_, rfl, _, _, _, _, false, rfl, .ty "bool", .base (.tup hb), kit_ty (by decide +kernel), _, rfl, bF rfl ?_⟩
        refine ⟨_, rfl, _, _, _, _, false, rfl, .ty "int", .base (.tup hb), kit_ty (by decide +kernel), _, rfl, bF rfl ?_⟩
        refine ⟨_, rfl, _, _, _, _, false, rfl, .ty "str", .base (.tup hb), kit_ty (by decide +kernel), _, rfl, bF rfl ?_⟩
        refine ⟨_, rfl, _, _, _, _, false, rfl, .ty "list", .base (.tup hb), kit_ty (by decide +kernel), _, rfl, _, _, _, _, false, rfl, .ty "list", .base (.tup ha), kit_ty (by decide +kernel), rfl, _, rfl, bF (by rfl) ?_⟩
        refine ⟨_, rfl, _, _, _, _, true, rfl, .ty "tuple", .base (.tup hb), kit_ty (by decide +kernel), _, rfl, _, _, _, _, true, rfl, .ty "tuple", .base (.tup ha), kit_ty (by decide +kernel), rfl, _, rfl, bF (by rfl) ?_⟩
        have hlen : xs.length = ys.length := Paired.length hp
        refine ⟨_, rfl, a, xs, rfl, .inr (SqT.of ha), _, rfl, b, ys, rfl, .inr (SqT.of hb), rfl, _, rfl, bF (nd_eq (by rw [hlen])) ?_⟩
        refine ⟨_, rfl, b, ys, rfl, .inr (SqT.of hb), _, rfl, by omega, by omega, fun Dl hD => ?_⟩
        have hl0 : H Dl = none := hD
        refine lc_range (lo := 0) (n := ys.length) (fun i H2 => Same H H2 ∧ H2 Dl = some (.lst (List.replicate i (V.bl true)))) ⟨Same.new hD, upd_same⟩ ?_ ?_
        · rintro i H2 hi ⟨s2, d2⟩
          obtain ⟨x', hx'⟩ : ∃ x', xs[i]? = some x' := ⟨_, List.getElem?_eq_getElem (by omega)⟩
          obtain ⟨y', hy', hs'⟩ := pat hp hx'
          refine ⟨rfl, ?_⟩
          refine ⟨_, rfl, _, rfl, .inr ⟨a, xs, _, _, rfl, rfl, SqT.of (s2 _ _ ha), at_of (Int.zero_add _) hx', _, rfl, _, rfl, .inr ⟨b, ys, _, _, rfl, rfl, SqT.of (s2 _ _ hb), at_of (Int.zero_add _) hy', ?_⟩⟩⟩
          refine ⟨x', y', rfl, Sm.same s2 hs', fun H3 s3 => ⟨_, s3 _ _ d2, ?_, ?_, ?_⟩⟩
          · rw [List.length_replicate]
            exact Nat.lt_of_le_of_lt (show i ≤ 100 by omega) (by decide)
          · exact fun c o e => by rw [upd_ne (ne_of_none e hl0)]; exact (s2.trans s3) _ _ e
          · rw [upd_same, List.replicate_succ']
        · rintro H2 ⟨s2, d2⟩
          refine ⟨Dl, List.replicate ys.length true, rfl, SqL.of (by rw [d2, List.map_replicate]), ?_⟩
          have e : (List.replicate ys.length true).all id = true := by
            rw [List.all_eq_true]
            intro z hz
            rw [List.eq_of_mem_replicate hz]
            rfl
          rw [e]
          exact k H2 s2
      · refine ⟨_, rfl, _, rfl, bF (by rfl) ?_⟩
        refine ⟨_, rfl, _, _, _, _, false, rfl, .ty "bool", .base (.lst hb), kit_ty (by decide +kernel), _, rfl, bF rfl ?_⟩
        refine ⟨_, rfl, _, _, _, _, false, rfl, .ty "int", .base (.lst hb), kit_ty (by decide +kernel), _, rfl, bF rfl ?_⟩
        refine ⟨_, rfl, _, _, _, _, false, rfl, .ty "str", .base (.lst hb), kit_ty (by decide +kernel), _, rfl, bF rfl ?_⟩
        refine ⟨_, rfl, _, _, _, _, true, rfl, .ty "list", .base (.lst hb), kit_ty (by decide +kernel), _, rfl, _, _, _, _, true, rfl, .ty "list", .base (.lst ha), kit_ty (by decide +kernel), rfl, _, rfl, bF (by rfl) ?_⟩
        refine ⟨_, rfl, _, _, _, _, false, rfl, .ty "tuple", .base (.lst hb), kit_ty (by decide +kernel), _, rfl, _, _, _, _, false, rfl, .ty "tuple", .base (.lst ha), kit_ty (by decide +kernel), rfl, _, rfl, bF (by rfl) ?_⟩
        have hlen : xs.length = ys.length := Paired.length hp
        refine ⟨_, rfl, a, xs, rfl, .inl (SqL.of ha), _, rfl, b, ys, rfl, .inl (SqL.of hb), rfl, _, rfl, bF (nd_eq (by rw [hlen])) ?_⟩
        refine ⟨_, rfl, b, ys, rfl, .inl (SqL.of hb), _, rfl, by omega, by omega, fun Dl hD => ?_⟩
        have hl0 : H Dl = none := hD
        refine lc_range (lo := 0) (n := ys.length) (fun i H2 => Same H H2 ∧ H2 Dl = some (.lst (List.replicate i (V.bl true)))) ⟨Same.new hD, upd_same⟩ ?_ ?_
        · rintro i H2 hi ⟨s2, d2⟩
          obtain ⟨x', hx'⟩ : ∃ x', xs[i]? = some x' := ⟨_, List.getElem?_eq_getElem (by omega)⟩
          obtain ⟨y', hy', hs'⟩ := pat hp hx'
          refine ⟨rfl, ?_⟩
          refine ⟨_, rfl, _, rfl, .inl ⟨a, xs, _, _, rfl, rfl, SqL.of (s2 _ _ ha), at_of (Int.zero_add _) hx', _, rfl, _, rfl, .inl ⟨b, ys, _, _, rfl, rfl, SqL.of (s2 _ _ hb), at_of (Int.zero_add _) hy', ?_⟩⟩⟩
          refine ⟨x', y', rfl, Sm.same s2 hs', fun H3 s3 => ⟨_, s3 _ _ d2, ?_, ?_, ?_⟩⟩
          · rw [List.length_replicate]
            exact Nat.lt_of_le_of_lt (show i ≤ 100 by omega) (by decide)
          · exact fun c o e => by rw [upd_ne (ne_of_none e hl0)]; exact (s2.trans s3) _ _ e
          · rw [upd_same, List.replicate_succ']
        · rintro H2 ⟨s2, d2⟩
          refine ⟨Dl, List.replicate ys.length true, rfl, SqL.of (by rw [d2, List.map_replicate]), ?_⟩
          have e : (List.replicate ys.length true).all id = true := by
            rw [List.all_eq_true]
            intro z hz
            rw [List.eq_of_mem_replicate hz]
            rfl
          rw [e]
          exact k H2 s2
theorem ok_l_same (T : Txt K w mg C) (D : Dfn K mg "_law_same" s_l_same ["_law_found", "_law_due"]) (GW : Cl P w K mg base 1 "_law_whole" spWhole) : ∀ n, Cl P w K mg base (n + 2) "_law_same" (spSame n)
  | 0 => ok_l_same0 T D GW
  | n + 1 => ok_l_sameS T D GW (ok_l_same T D GW n)
end
end Plug
end
section
set_option Elab.async false
set_option linter.all false
set_option maxRecDepth 100000
set_option maxHeartbeats 4000000
namespace Plug
open PySem PySem.Spec PyProof.Rows L2 Mi
theorem BagAt.same {H H' : Hp} {b c : Addr} (h : BagAt H b c) (s : Same H H') : BagAt H' b c := h.fr (Fr.of (l := []) s) (by simp) (by simp)
theorem BagAt.some {H : Hp} {b c : Addr} (h : BagAt H b c) : ∃ o, H b = some o := by
  obtain ⟨cs, k, z, q, hb, _⟩ := h
  exact ⟨_, hb⟩
theorem BagAt.new {H : Hp} {b c p : Addr} (h : BagAt H b c) (n : H p = none) : p ≠ b := by
  obtain ⟨o, e⟩ := h.some
  exact fun z => by rw [z, e] at n; cases n
section
variable {P : Program} {w : World} {K : PySem.W.Frag} {mg : Str → Option Value} {base : Heap} {C : Addr}
/-! ### _law_one(bag, row) -/
def spOne : Sp := fun vs H Q _ => ∃ (b c l : Addr) (xs : List V), vs = [.ref b, .ref l] ∧ BagAt H b c ∧ H l = some (.lst xs) ∧ l ≠ b ∧ 0 < xs.length ∧ xs.length < 1000000 ∧ ∀ (i : Nat) (x : V) H', xs[i]? = some x → BagAt H' b c → Fr [b] H H' → Q x H'
theorem ok_l_one (T : Txt K w mg C) (D : Dfn K mg "_law_one" s_l_one ["_law_bag_here", "_law_row"]) (G : Cl P w K mg base 1 "_law_pull" spPull) : Cl P w K mg base 2 "_law_one" spOne := by
  refine cl_of D cs_l_one (fun vs H Q E h => ?_) (fun f cdv A outer s H vs Q E hr h => ?_)
  · obtain ⟨b, c, l, xs, rfl, _⟩ := h
    rfl
  · obtain ⟨b, c, l, xs, rfl, hbag, hl, nlb, h0, h1, k⟩ := h
    refine ⟨_, pss_one (ps_ret (pe_ix ix_list (pv 1) (pe_cl G hr (by decide) rfl (pa_cons (pv 0) (pa_cons (pe_callB call_len_seq (by rfl) T.len PySem.boot_len (pa_cons (pv 1) pa_nil)) pa_nil))) (fun _ _ => rfl))), ?_⟩
    refine ⟨_, rfl, _, rfl, _, rfl, l, xs, rfl, .inl (SqL.of hl), b, c, _, rfl, hbag, by omega, by omega, fun r H' r0 r1 hb' f' => ?_⟩
    obtain ⟨j, rfl⟩ : ∃ j : Nat, r = (j : Int) := ⟨r.toNat, by omega⟩
    obtain ⟨x, hx⟩ : ∃ x, xs[j]? = some x := ⟨_, List.getElem?_eq_getElem (by omega)⟩
    exact ⟨l, xs, _, x, rfl, rfl, SqL.of (f'.at hl (not1 nlb)), at_of rfl hx, k j x H' hx hb' f'⟩
/-! ### _law_end(bag, spot) -/
def spEnd : Sp := fun vs H Q _ => ∃ (b c : Addr) (t : Int), vs = [.ref b, .int t] ∧ BagAt H b c ∧ 0 ≤ t ∧ t < 14 ∧ ∀ v e H', EndAt H' v e → GoodEn e → e.num = t / 2 + 1 → e.inn = decide (t % 2 = 0) → BagAt H' b c → Fr [b] H H' → Q v H'
theorem ok_l_end (T : Txt K w mg C) (D : Dfn K mg "_law_end" s_l_end ["_law_bag_here", "_law_spot"]) (G : Cl P w K mg base 1 "_law_pull" spPull) (G1 : Cl P w K mg base 2 "_law_one" spOne) : Cl P w K mg base 3 "_law_end" spEnd := by
  refine cl_of D cs_l_end (fun vs H Q E h => ?_) (fun f cdv A outer s H vs Q E hr h => ?_)
  · obtain ⟨b, c, t, rfl, _⟩ := h
    rfl
  · obtain ⟨b, c, t, rfl, hbag, t0, t1, k⟩ := h
    have nd := cs_l_end.nd
    refine ⟨_, (pss_cons (ps_set (i := 2) nd rfl (.inl rfl) (pe_cl G1 hr (by decide) rfl (pa_cons (pv 0) (pa_cons (pe_lst (pa_cons pe_str (pa_cons pe_str (pa_cons pe_str pa_nil)))) pa_nil)))) (pss_cons (ps_if (pt_cmpR op_eq (pv 2) pe_str (nomark _)) (pss_one (ps_ret (pe_tup (pa_cons (pe_op op_add (pe_op op_fdiv (pv 1) pe_int) pe_int) (pa_cons (pe_ix ix_list (pe_lst (pa_cons pe_str (pa_cons pe_str pa_nil))) (pe_op op_mod (pv 1) pe_int) (fun _ _ => rfl)) (pa_cons (pv 2) (pa_cons (pe_cl G1 hr (by decide) rfl (pa_cons (pv 0) (pa_cons (pe_lst (pa_cons pe_int (pa_cons pe_int (pa_cons pe_int (pa_cons pe_int (pa_cons pe_int pa_nil)))))) pa_nil))) (pa_cons pe_int pa_nil)))))))) pss_nil) (pss_cons (ps_set (i := 3) nd rfl (.inl rfl) (pe_op op_add pe_int (pe_cl G hr (by decide) rfl (pa_cons (pv 0) (pa_cons (pe_cl G1 hr (by decide) rfl (pa_cons (pv 0) (pa_cons (pe_lst (pa_cons pe_int (pa_cons pe_int pa_nil))) pa_nil))) pa_nil))))) (pss_one (ps_ret (pe_tup (pa_cons (pe_op op_add (pe_op op_fdiv (pv 1) pe_int) pe_int) (pa_cons (pe_ix ix_list (pe_lst (pa_cons pe_str (pa_cons pe_str pa_nil))) (pe_op op_mod (pv 1) pe_int) (fun _ _ => rfl)) (pa_cons (pv 2) (pa_cons (pv 3) (pa_cons (pe_cl G1 hr (by decide) rfl (pa_cons (pv 0) (pa_cons (pe_lst (pa_cons pe_int (pa_cons pe_int (pa_cons pe_int (pa_cons pe_int (pa_cons pe_int (pa_cons pe_int pa_nil))))))) pa_nil))) pa_nil))))))))))), ?_⟩
    have hway : ∃ (j : Nat), t % 2 = (j : Int) ∧ [V.str "in", V.str "out"][j]? = some (V.str (wayS (decide (t % 2 = 0)))) := by
      have h2 : t % 2 = 0 ∨ t % 2 = 1 := by omega
      rcases h2 with h | h
      · exact ⟨0, h, by rw [h]; rfl⟩
      · exact ⟨1, h, by rw [h]; rfl⟩
    obtain ⟨jw, ejw, hjw⟩ := hway
    have hnum : 1 ≤ t / 2 + 1 ∧ t / 2 + 1 ≤ 7 := by omega
    refine ⟨_, rfl, (by show 3 ≤ sizeLine; decide), fun l hl => ⟨b, c, l, _, rfl, hbag.same (Same.new hl), upd_same, hbag.new hl, (by show 0 < 3; decide), (by show 3 < 1000000; decide), fun i x H1 hx hb1 f1 => ?_⟩⟩
    have fA : Fr [b] H H1 := (Fr.of (Same.new hl)).trans f1
    have hkd : x = V.str (kindS false) ∨ x = V.str (kindS true) := by
      match i, hx with
      | 0, hx => exact .inl (Option.some.inj hx).symm
      | 1, hx => exact .inl (Option.some.inj hx).symm
      | 2, hx => exact .inr (Option.some.inj hx).symm
      | n + 3, hx => simp at hx
    rcases hkd with rfl | rfl
    · refine ⟨_, rfl, rfl, _, rfl, bT (by decide +kernel) ?_⟩
      refine ⟨_, rfl, _, _, rfl, rfl, ⟨by decide, by decide⟩, _, _, rfl, rfl, (by show 2 ≤ sizeLine; decide), fun l2 hl2 => ?_⟩
      have s2 := Same.new (o := HO.lst [V.str "in", V.str "out"]) hl2
      refine ⟨_, rfl, _, _, rfl, rfl, (by show (0 : Int) < 2; decide), l2, _, _, _, rfl, rfl, SqL.of upd_same, at_of ejw hjw, _, rfl, _, rfl, (by show 5 ≤ sizeLine; decide), fun l3 hl3 => ?_⟩
      refine ⟨b, c, l3, _, rfl, (hb1.same s2).same (Same.new hl3), upd_same, (hb1.same s2).new hl3, (by show 0 < 5; decide), (by show 5 < 1000000; decide), fun i2 x2 H2 hx2 hb2 f2 => ⟨(by show 5 ≤ sizeLine; decide), fun tp htp => ?_⟩⟩
      have fB : Fr [b] H _ := (fA.and (s2.trans (Same.new hl3))).trans f2
      have hsz : ∃ z : Int, x2 = .int z ∧ (z = 8 ∨ z = 16 ∨ z = 32 ∨ z = 64) := by
        match i2, hx2 with
        | 0, hx => exact ⟨8, (Option.some.inj hx).symm, by omega⟩
        | 1, hx => exact ⟨8, (Option.some.inj hx).symm, by omega⟩
        | 2, hx => exact ⟨16, (Option.some.inj hx).symm, by omega⟩
        | 3, hx => exact ⟨32, (Option.some.inj hx).symm, by omega⟩
        | 4, hx => exact ⟨64, (Option.some.inj hx).symm, by omega⟩
        | n + 5, hx => simp at hx
      obtain ⟨z, rfl, hz⟩ := hsz
      exact k _ ⟨t / 2 + 1, decide (t % 2 = 0), false, z, 0⟩ _ ⟨tp, rfl, upd_same⟩ ⟨hnum, .inl ⟨rfl, hz, rfl⟩⟩ rfl rfl (hb2.same (Same.new htp)) (fB.new htp)
    · refine ⟨_, rfl, rfl, _, rfl, bF (by decide +kernel) ?_⟩
      refine ⟨_, rfl, _, rfl, (by show 2 ≤ sizeLine; decide), fun l2 hl2 => ?_⟩
      have s2 := Same.new (o := HO.lst [V.int 8, V.int 64]) hl2
      refine ⟨b, c, l2, _, rfl, hb1.same s2, upd_same, hb1.new hl2, (by show 0 < 2; decide), (by show 2 < 1000000; decide), fun i2 x2 H2 hx2 hb2 f2 => ?_⟩
      have fB : Fr [b] H H2 := (fA.and s2).trans f2
      have hu : ∃ z : Int, x2 = .int z ∧ (z = 8 ∨ z = 64) := by
        match i2, hx2 with
        | 0, hx => exact ⟨8, (Option.some.inj hx).symm, by omega⟩
        | 1, hx => exact ⟨64, (Option.some.inj hx).symm, by omega⟩
        | n + 2, hx => simp at hx
      obtain ⟨z, rfl, hz⟩ := hu
      refine ⟨b, c, z, rfl, hb2, by omega, by omega, fun r H3 r0 r1 hb3 f3 => ?_⟩
      have fC := fB.trans f3
      refine ⟨_, _, rfl, rfl, ?_⟩
      refine ⟨_, rfl, _, _, rfl, rfl, ⟨by decide, by decide⟩, _, _, rfl, rfl, (by show 2 ≤ sizeLine; decide), fun l4 hl4 => ?_⟩
      have s4 := Same.new (o := HO.lst [V.str "in", V.str "out"]) hl4
      refine ⟨_, rfl, _, _, rfl, rfl, (by show (0 : Int) < 2; decide), l4, _, _, _, rfl, rfl, SqL.of upd_same, at_of ejw hjw, _, rfl, _, rfl, _, rfl, (by show 6 ≤ sizeLine; decide), fun l5 hl5 => ?_⟩
      refine ⟨b, c, l5, _, rfl, (hb3.same s4).same (Same.new hl5), upd_same, (hb3.same s4).new hl5, (by show 0 < 6; decide), (by show 6 < 1000000; decide), fun i6 x6 H6 hx6 hb6 f6 => ⟨(by show 5 ≤ sizeLine; decide), fun tp htp => ?_⟩⟩
      have fD : Fr [b] H _ := (fC.and (s4.trans (Same.new hl5))).trans f6
      have hev : ∃ z : Int, x6 = .int z ∧ (z = 1 ∨ z = 2 ∨ z = 4 ∨ z = 8 ∨ z = 16 ∨ z = 32) := by
        match i6, hx6 with
        | 0, hx => exact ⟨1, (Option.some.inj hx).symm, by omega⟩
        | 1, hx => exact ⟨2, (Option.some.inj hx).symm, by omega⟩
        | 2, hx => exact ⟨4, (Option.some.inj hx).symm, by omega⟩
        | 3, hx => exact ⟨8, (Option.some.inj hx).symm, by omega⟩
        | 4, hx => exact ⟨16, (Option.some.inj hx).symm, by omega⟩
        | 5, hx => exact ⟨32, (Option.some.inj hx).symm, by omega⟩
        | n + 6, hx => simp at hx
      obtain ⟨y, rfl, hy⟩ := hev
      exact k _ ⟨t / 2 + 1, decide (t % 2 = 0), true, 1 + r, y⟩ _ ⟨tp, rfl, upd_same⟩ ⟨hnum, .inr ⟨rfl, ⟨by show 1 ≤ 1 + r; omega, by show 1 + r ≤ 64; omega⟩, hy⟩⟩ rfl rfl (hb6.same (Same.new htp)) (fD.new htp)
end
end Plug
end
section
set_option Elab.async false
set_option linter.all false
set_option maxRecDepth 100000
set_option maxHeartbeats 4000000
namespace Plug
open PySem PySem.Spec PyProof.Rows L2 Mi
section
variable {P : Program} {w : World} {K : PySem.W.Frag} {mg : Str → Option Value} {base : Heap} {C : Addr}
/-! ### _law_ends(bag, 4) -/
def spEnds : Sp := fun vs H Q _ => ∃ (b c : Addr), vs = [.ref b, .int 4] ∧ BagAt H b c ∧ ∀ (e : Addr) (vs : List V) (es : List En) H', H' e = some (.tup vs) → Paired (EndAt H') vs es → es.length ≤ 4 → (∀ x ∈ es, GoodEn x) → es.Pairwise ltEn → BagAt H' b c → Fr [b] H H' → Q (.ref e) H'
theorem ok_l_ends (T : Txt K w mg C) (D : Dfn K mg "_law_ends" s_l_ends ["_law_bag_here", "_law_most"]) (G : Cl P w K mg base 1 "_law_pull" spPull) (GE : Cl P w K mg base 3 "_law_end" spEnd) : Cl P w K mg base 4 "_law_ends" spEnds := by
  refine cl_of D cs_l_ends (fun vs H Q E h => ?_) (fun f cdv A outer s H vs Q E hr h => ?_)
  · obtain ⟨b, c, rfl, _⟩ := h
    rfl
  · obtain ⟨b, c, rfl, hbag, k⟩ := h
    have nd := cs_l_ends.nd
    refine ⟨_, (pss_cons (ps_set (i := 2) nd rfl (.inl rfl) (pe_callB (cr_sortedSet rfl) (by rfl) T.sorted (by decide +kernel) (pa_cons (pe_callTy (cr_setOfL rfl) (by rfl) T.set (by decide +kernel) (pa_cons (pe_lc (own := [("_law_k", 3)]) (g := gName 3) (tt := tYes) rfl nd (pi_range1 rfl T.range (pa_cons (pe_cl G hr (by decide) rfl (pa_cons (pv 0) (pa_cons (pe_op op_add (pv 1) pe_int) pa_nil))) pa_nil)) (blkOk_by (N := ns_l_ends) (sc := defScope s_l_ends) (by decide +kernel)) (fun _ _ _ _ _ => pg_name (i := 3) nd rfl (Or.inl rfl)) (fun _ _ _ _ _ => pts_nil) (fun _ _ _ _ _ => (pe_cl G hr (by decide) rfl (pa_cons (pv 0) (pa_cons pe_int pa_nil))))) pa_nil)) pa_nil))) (pss_one (ps_ret (pe_callTy call_tuple_of (by rfl) T.tuple (by decide +kernel) (pa_cons (pe_lc (own := [("_law_spot", 4)]) (g := gName 4) (tt := tYes) rfl nd (pi_list (pv 2)) (blkOk_by (N := ns_l_ends) (sc := defScope s_l_ends) (by decide +kernel)) (fun _ _ _ _ _ => pg_name (i := 4) nd rfl (Or.inl rfl)) (fun _ _ _ _ _ => pts_nil) (fun _ _ _ _ _ => (pe_cl GE hr (by decide) rfl (pa_cons (pv 0) (pa_cons (pv 4) pa_nil))))) pa_nil))))), ?_⟩
    refine ⟨_, rfl, _, rfl, _, _, rfl, rfl, b, c, 4 + 1, rfl, hbag, (by decide), (by decide), fun r H1 r0 r1 hb1 f1 => ⟨r, rfl, by omega, by omega, fun D1 hD1 => ?_⟩⟩
    have nD1 : D1 ≠ b := hb1.new hD1
    have D1n : H D1 = none := f1.none hD1 (not1 nD1)
    refine lc_range (lo := 0) (n := r.toNat) (fun i H2 => Fr [b] H H2 ∧ BagAt H2 b c ∧ ∃ ns : List Int, H2 D1 = some (.lst (ns.map V.int)) ∧ ns.length = i ∧ ∀ x ∈ ns, 0 ≤ x ∧ x < 14)
      ⟨f1.new hD1, hb1.same (Same.new hD1), [], upd_same, rfl, fun x h => by cases h⟩ ?_ ?_
    · rintro i H2 hi ⟨f2, hb2, ns, d2, hl2, hx2⟩
      refine ⟨rfl, _, rfl, b, c, 14, rfl, hb2, (by decide), (by decide), fun r3 H3 a3 z3 hb3 f3 => ⟨_, f3.at d2 (not1 nD1), ?_, ?_⟩⟩
      · rw [List.length_map, hl2]
        exact Nat.lt_of_le_of_lt (show i ≤ 10 by omega) (by decide)
      · refine ⟨(f2.trans f3).fresh D1n, hb3.fr (Fr.put (List.mem_singleton.mpr rfl) (f3.at d2 (not1 nD1)) lst_nt) (not1 (Ne.symm nD1)) (not1 fun z => ?_), ns ++ [r3], ?_, ?_, ?_⟩
        · obtain ⟨cs, _, _, _, _, hc, _⟩ := hbag
          rw [z, D1n] at hc
          cases hc
        · rw [upd_same, List.map_append]
          rfl
        · rw [List.length_append, hl2]
          rfl
        · intro x hx
          rcases List.mem_append.mp hx with h | h
          · exact hx2 x h
          · rw [List.mem_singleton.mp h]
            exact ⟨a3, z3⟩
    · rintro H2 ⟨f2, hb2, ns, d2, hl2, hx2⟩
      refine ⟨D1, ns, rfl, SqL.of d2, by omega, fun p cn hcn hp => ?_⟩
      have s3 := Same.new (o := SetO w p (fun j => decide (j ∈ ns)) cn) hp
      refine ⟨p, _, cn, rfl, upd_same, by omega, fun ls q pw mem hlen hq => ?_⟩
      have s4 := s3.trans (Same.new (o := HO.lst (ls.map V.int)) hq)
      have q4 : (upd (upd H2 p (SetO w p (fun j => decide (j ∈ ns)) cn)) q (.lst (ls.map V.int))) q = some (.lst (ls.map V.int)) := upd_same
      have f4 := f2.and s4
      have hb4 := hb2.same s4
      generalize hH4 : upd (upd H2 p _) q _ = H4
      replace q4 : H4 q = some (.lst (ls.map V.int)) := by rw [← hH4]; exact q4
      replace f4 : Fr [b] H H4 := by rw [← hH4]; exact f4
      replace hb4 : BagAt H4 b c := by rw [← hH4]; exact hb4
      clear hH4
      have hls : ∀ x ∈ ls, 0 ≤ x ∧ x < 14 := fun x hx => hx2 x (of_decide_eq_true ((mem x).mp hx))
      have qb : q ≠ b := by
        intro z
        have : H4 b = some (.lst (ls.map V.int)) := by rw [← z]; exact q4
        obtain ⟨cs, _, _, _, hb, _, _⟩ := hb4
        rw [this] at hb
        cases ls with
        | nil => cases hb
        | cons x xs => cases hb
      refine ⟨_, rfl, q, rfl, ⟨_, SqL.of q4⟩, fun D2 hD2 => ?_⟩
      have nD2 : D2 ≠ b := hb4.new hD2
      have D2n : H D2 = none := f4.none hD2 (not1 nD2)
      refine lc_list (K := K) (a := q) (xs := ls.map V.int) (fun i H5 => Fr [b] H H5 ∧ BagAt H5 b c ∧ H5 q = some (.lst (ls.map V.int)) ∧ ∃ (vs : List V) (es : List En), H5 D2 = some (.lst vs) ∧ Paired (EndAt H5) vs es ∧ es.length = i ∧ (∀ e ∈ es, GoodEn e) ∧
          ∀ (j : Nat) (e : En) (t : Int), es[j]? = some e → ls[j]? = some t → e.num = t / 2 + 1 ∧ e.inn = decide (t % 2 = 0))
        ⟨f4.new hD2, hb4.same (Same.new hD2), Same.new hD2 _ _ q4, [], [], upd_same, .nil, rfl, (fun e h => by cases h), fun j e t h => by simp at h⟩ (fun i H5 _ ⟨_, _, q5, _⟩ => SqL.of q5) ?_ ?_
      · rintro i x H5 hx ⟨f5, hb5, q5, vs, es, d5, p5, l5, g5, n5⟩
        rw [List.getElem?_map] at hx
        obtain ⟨t, ht, rfl⟩ := Option.map_eq_some_iff.mp hx
        have htb := hls t (List.mem_of_getElem? ht)
        refine ⟨rfl, _, rfl, _, rfl, b, c, t, rfl, hb5, htb.1, htb.2, fun v e H6 he ge en ei hb6 f6 => ⟨vs, f6.at d5 (not1 nD2), ?_, ?_⟩⟩
        · rw [Paired.length p5, l5]
          have : i < ls.length := (List.getElem?_eq_some_iff.mp ht).1
          exact Nat.lt_of_le_of_lt (show i ≤ 10 by omega) (by decide)
        · have d6 := f6.at d5 (not1 nD2)
          have k7 : KT0 H6 (upd H6 D2 (.lst (vs ++ [v]))) := kt_put d6 lst_nt
          refine ⟨(f5.trans f6).fresh D2n, hb6.fr (Fr.put (List.mem_singleton.mpr rfl) d6 lst_nt) (not1 (Ne.symm nD2)) (not1 fun z => ?_), ?_, vs ++ [v], es ++ [e], upd_same, paired_snoc (Paired.mapP p5 fun _ _ z => (z.kt f6.kt).kt k7) (he.kt k7), ?_, ?_, ?_⟩
          · obtain ⟨cs, _, _, _, _, hc, _⟩ := hbag
            rw [z, D2n] at hc
            cases hc
          · rw [upd_ne (ne_of_none q4 hD2)]
            exact f6.at q5 (not1 qb)
          · rw [List.length_append, l5]
            rfl
          · intro z hz
            rcases List.mem_append.mp hz with h | h
            · exact g5 z h
            · rw [List.mem_singleton.mp h]; exact ge
          · intro j z u hz hu
            by_cases hj : j < es.length
            · rw [List.getElem?_append_left hj] at hz
              exact n5 j z u hz hu
            · rw [List.getElem?_append_right (by omega)] at hz
              have hj2 : j = i := by
                have := (List.getElem?_eq_some_iff.mp hz).1
                simp at this
                omega
              rw [hj2, l5, Nat.sub_self] at hz
              rw [hj2, ht] at hu
              cases hz
              cases hu
              exact ⟨en, ei⟩
      · rintro H5 ⟨f5, hb5, q5, vs, es, d5, p5, l5, g5, n5⟩
        rw [List.length_map] at l5
        refine ⟨D2, vs, rfl, .inl ⟨SqL.of d5, fun tp htp => ?_⟩⟩
        have s6 := Same.new (o := HO.tup vs) htp
        refine k tp vs es _ upd_same (Paired.mapP p5 fun _ _ z => z.kt (Same.kt s6)) (by omega) g5 ?_ (hb5.same s6) (f5.and s6)
        rw [List.pairwise_iff_getElem]
        intro i j hi hj hij
        have e1 := n5 i _ (ls[i]'(by omega)) (List.getElem?_eq_getElem hi) (List.getElem?_eq_getElem (by omega))
        have e2 := n5 j _ (ls[j]'(by omega)) (List.getElem?_eq_getElem hj) (List.getElem?_eq_getElem (by omega))
        exact spot_lt (List.pairwise_iff_getElem.mp pw i j (by omega) (by omega) hij) e1.1 e2.1 e1.2 e2.2
/-! ### _law_plan(bag, 4, hub) -/
def spPlan : Sp := fun vs H Q _ => ∃ (b c : Addr) (hub : Bool), vs = [.ref b, .int 4, .bl hub] ∧ BagAt H b c ∧ ∀ (a : Addr) (p : Pl) H', PlanAt H' a p → GoodPl p → BagAt H' b c → Fr [b] H H' → Q (.ref a) H'
theorem ok_l_plan (T : Txt K w mg C) (D : Dfn K mg "_law_plan" s_l_plan ["_law_bag_here", "_law_most", "_law_hub"]) (G : Cl P w K mg base 1 "_law_pull" spPull) (GN : Cl P w K mg base 4 "_law_ends" spEnds) : Cl P w K mg base 5 "_law_plan" spPlan := by
  refine cl_of D cs_l_plan (fun vs H Q E h => ?_) (fun f cdv A outer s H vs Q E hr h => ?_)
  · obtain ⟨b, c, hub, rfl, _⟩ := h
    rfl
  · obtain ⟨b, c, hub, rfl, hbag, k⟩ := h
    have nd := cs_l_plan.nd
    refine ⟨_, (pss_cons (ps_set (i := 3) nd rfl (.inl rfl) (pe_ix ix_list (pe_lst (pa_cons (pe_cl G hr (by decide) rfl (pa_cons (pv 0) (pa_cons pe_int pa_nil))) (pa_cons pe_int (pa_cons pe_int pa_nil)))) (pe_cl G hr (by decide) rfl (pa_cons (pv 0) (pa_cons pe_int pa_nil))) (fun _ _ => rfl))) (pss_cons (ps_set (i := 4) nd rfl (.inl rfl) (pe_ix ix_list (pe_lst (pa_cons (pe_cl G hr (by decide) rfl (pa_cons (pv 0) (pa_cons pe_int pa_nil))) (pa_cons pe_int (pa_cons pe_int pa_nil)))) (pe_cl G hr (by decide) rfl (pa_cons (pv 0) (pa_cons pe_int pa_nil))) (fun _ _ => rfl))) (pss_cons (ps_set (i := 5) nd rfl (.inl rfl) (pe_ifExp (pt_val (pv 2)) (pe_op op_add pe_int (pe_cl G hr (by decide) rfl (pa_cons (pv 0) (pa_cons pe_int pa_nil)))) pe_int)) (pss_one (ps_ret (pe_tup (pa_cons (pv 3) (pa_cons (pv 4) (pa_cons (pv 5) (pa_cons (pe_cl GN hr (by decide) rfl (pa_cons (pv 0) (pa_cons (pv 1) pa_nil))) pa_nil)))))))))), ?_⟩
    have f0 := Fr.refl [b] H
    refine ⟨_, rfl, b, c, 65536, rfl, hbag, (by decide), (by decide), fun mr mH m0 m1 mb mf => ⟨(by show 3 ≤ sizeLine; decide), fun ml mn => ?_⟩⟩
    refine ⟨_, rfl, b, c, 3, rfl, mb.same (Same.new mn), (by decide), (by decide), fun mi mH2 m2 m3 mb2 mf2 => ?_⟩
    have mq : mH2 ml = some (.lst [V.int mr, .int 0, .int 65535]) := mf2.at upd_same (not1 (mb.new mn))
    obtain ⟨mv, mat, mlo, mhi⟩ : ∃ v : Int, atI [V.int mr, .int 0, .int 65535] mi = some (.int v) ∧ 0 ≤ v ∧ v ≤ 65535 := by
      have : mi = 0 ∨ mi = 1 ∨ mi = 2 := by omega
      rcases this with rfl | rfl | rfl
      · exact ⟨mr, rfl, by omega, by omega⟩
      · exact ⟨0, rfl, by omega, by omega⟩
      · exact ⟨65535, rfl, by omega, by omega⟩
    refine ⟨ml, _, _, _, rfl, rfl, SqL.of mq, mat, ?_⟩
    have f1 := (f0.trans (mf.new mn)).trans mf2
    refine ⟨_, rfl, b, c, 65536, rfl, mb2, (by decide), (by decide), fun or oH o0 o1 ob of => ⟨(by show 3 ≤ sizeLine; decide), fun ol on => ?_⟩⟩
    refine ⟨_, rfl, b, c, 3, rfl, ob.same (Same.new on), (by decide), (by decide), fun oi oH2 o2 o3 ob2 of2 => ?_⟩
    have oq : oH2 ol = some (.lst [V.int or, .int 255, .int 256]) := of2.at upd_same (not1 (ob.new on))
    obtain ⟨ov, oat, olo, ohi⟩ : ∃ v : Int, atI [V.int or, .int 255, .int 256] oi = some (.int v) ∧ 0 ≤ v ∧ v ≤ 65535 := by
      have : oi = 0 ∨ oi = 1 ∨ oi = 2 := by omega
      rcases this with rfl | rfl | rfl
      · exact ⟨or, rfl, by omega, by omega⟩
      · exact ⟨255, rfl, by omega, by omega⟩
      · exact ⟨256, rfl, by omega, by omega⟩
    refine ⟨ol, _, _, _, rfl, rfl, SqL.of oq, oat, ?_⟩
    have f2 := (f1.trans (of.new on)).trans of2
    refine ⟨_, rfl, _, rfl, ?_⟩
    cases hub with
    | true =>
      refine bT rfl ⟨_, rfl, b, c, 4, rfl, ob2, (by decide), (by decide), fun hr_ hH h0 h1 hhb hf => ⟨_, _, rfl, rfl, ?_⟩⟩
      refine ⟨_, rfl, _, rfl, _, rfl, ?_⟩
      refine ⟨_, rfl, _, rfl, b, c, rfl, hhb, fun e vs es H7 e7 p7 l7 g7 w7 hb7 f7 => ⟨(by show 4 ≤ sizeLine; decide), fun tp htp => ?_⟩⟩
      have s8 := Same.new (o := HO.tup [V.int mv, .int ov, .int (1 + hr_), .ref e]) htp
      exact k tp ⟨mv, ov, 1 + hr_, es⟩ _ ⟨e, vs, upd_same, s8 _ _ e7, Paired.mapP p7 fun _ _ z => z.kt (Same.kt s8)⟩ ⟨⟨mlo, mhi⟩, ⟨olo, ohi⟩, ⟨by show 0 ≤ 1 + hr_; omega, by show 1 + hr_ ≤ 4; omega⟩, l7, g7, w7⟩ (hb7.same s8) (((f2.trans hf).trans f7).and s8)
    | false =>
      refine bF rfl ?_
      refine ⟨_, rfl, _, rfl, _, rfl, ?_⟩
      refine ⟨_, rfl, _, rfl, b, c, rfl, ob2, fun e vs es H7 e7 p7 l7 g7 w7 hb7 f7 => ⟨(by show 4 ≤ sizeLine; decide), fun tp htp => ?_⟩⟩
      have s8 := Same.new (o := HO.tup [V.int mv, .int ov, .int 0, .ref e]) htp
      exact k tp ⟨mv, ov, 0, es⟩ _ ⟨e, vs, upd_same, s8 _ _ e7, Paired.mapP p7 fun _ _ z => z.kt (Same.kt s8)⟩ ⟨⟨mlo, mhi⟩, ⟨olo, ohi⟩, ⟨by show 0 ≤ (0 : Int); omega, by show (0 : Int) ≤ 4; omega⟩, l7, g7, w7⟩ (hb7.same s8) ((f2.trans f7).and s8)
end
end Plug
end
section
set_option Elab.async false
set_option linter.all false
set_option maxRecDepth 100000
set_option maxHeartbeats 4000000
namespace Plug
open PySem PySem.Spec PyProof.Rows L2 Mi
section
variable {P : Program} {w : World} {K : PySem.W.Frag} {mg : Str → Option Value} {base : Heap} {C : Addr}
/-! ### _law_two, _law_key -/
theorem ok_l_two (D : Dfn K mg "_law_two" s_l_two ["_law_number"]) : Cl P w K mg base 1 "_law_two" spTwo := by
  refine cl_of D cs_l_two (fun vs H Q E h => ?_) (fun f cdv A outer s H vs Q E hr h => ?_)
  · obtain ⟨n, rfl, _⟩ := h
    rfl
  · obtain ⟨n, rfl, k⟩ := h
    refine ⟨_, (pss_one (ps_ret (pe_tup (pa_cons (pe_op op_mod (pv 0) pe_int) (pa_cons (pe_op op_fdiv (pv 0) pe_int) pa_nil))))), ?_⟩
    refine ⟨_, rfl, _, _, rfl, rfl, (by show (0 : Int) < 256; decide), _, rfl, _, _, rfl, rfl, ⟨by decide, by decide⟩, (by show 2 ≤ sizeLine; decide), fun p hp => ?_⟩
    exact k p _ (Same.new hp) upd_same
def spKey : Sp := fun vs H Q _ => ∃ (b : Int), vs = [.int b] ∧ 0 ≤ b ∧ b ≤ 255 ∧ ∀ q H', Same H H' → H' q = some (.tup ((keyK (b % 128, decide (128 ≤ b))).map kV)) → Q (.ref q) H'
theorem ok_l_key (D : Dfn K mg "_law_key" s_l_key ["_law_byte"]) : Cl P w K mg base 1 "_law_key" spKey := by
  refine cl_of D cs_l_key (fun vs H Q E h => ?_) (fun f cdv A outer s H vs Q E hr h => ?_)
  · obtain ⟨n, rfl, _⟩ := h
    rfl
  · obtain ⟨b, rfl, b0, b1, k⟩ := h
    refine ⟨_, (pss_one (ps_ret (pe_tup (pa_cons (pe_op op_mod (pv 0) pe_int) (pa_cons (pe_ix ix_list (pe_lst (pa_cons pe_str (pa_cons pe_str pa_nil))) (pe_op op_fdiv (pv 0) pe_int) (fun _ _ => rfl)) pa_nil))))), ?_⟩
    refine ⟨_, rfl, _, _, rfl, rfl, (by show (0 : Int) < 128; decide), (by show 2 ≤ sizeLine; decide), fun l hl => ?_⟩
    have s1 := Same.new (o := HO.lst [V.str "out", V.str "in"]) hl
    obtain ⟨j, ej, hj⟩ : ∃ j : Nat, b / 128 = (j : Int) ∧ [V.str "out", V.str "in"][j]? = some (V.str (wayS (decide (128 ≤ b)))) := by
      by_cases h : 128 ≤ b
      · exact ⟨1, by omega, by rw [decide_eq_true h]; rfl⟩
      · exact ⟨0, by omega, by rw [decide_eq_false h]; rfl⟩
    refine ⟨_, rfl, _, _, rfl, rfl, ⟨by decide, by decide⟩, l, _, _, _, rfl, rfl, SqL.of upd_same, at_of ej hj, (by show 2 ≤ sizeLine; decide), fun p hp => ?_⟩
    exact k p _ (s1.trans (Same.new hp)) upd_same
/-! ### _law_device(plan) -/
theorem ok_l_device (T : Txt K w mg C) (D : Dfn K mg "_law_device" s_l_device ["_law_plan_here"]) (G : Cl P w K mg base 1 "_law_two" spTwo) : Cl P w K mg base 2 "_law_device" spDev := by
  refine cl_of D cs_l_device (fun vs H Q E h => ?_) (fun f cdv A outer s H vs Q E hr h => ?_)
  · obtain ⟨a, p, rfl, _⟩ := h
    rfl
  · obtain ⟨a, p, rfl, ⟨e, ws, ha, he, hw⟩, g, k⟩ := h
    have nd := cs_l_device.nd
    refine ⟨_, (pss_cons (ps_set (i := 1) nd rfl (.inl rfl) (pe_op op_catU (pe_op op_catU (pe_tup (pa_cons pe_int (pa_cons pe_int (pa_cons pe_int (pa_cons pe_int (pa_cons (pe_op op_mul pe_int (pe_callTy call_int1 (by rfl) T.int boot_int (pa_cons (pe_cmpR op_gt (pe_ix ix_tup (pv 0) pe_int (fun _ _ => rfl)) pe_int (nomark _)) pa_nil))) (pa_cons pe_int (pa_cons pe_int (pa_cons pe_int pa_nil))))))))) (pe_cl G hr (by decide) rfl (pa_cons (pe_ix ix_tup (pv 0) pe_int (fun _ _ => rfl)) pa_nil))) (pe_cl G hr (by decide) rfl (pa_cons (pe_ix ix_tup (pv 0) pe_int (fun _ _ => rfl)) pa_nil)))) (pss_one (ps_ret (pe_op op_catU (pv 1) (pe_tup (pa_cons pe_int (pa_cons pe_int (pa_cons (pe_ix ix_tup (pv 0) pe_int (fun _ _ => rfl)) (pa_cons pe_int (pa_cons pe_int (pa_cons pe_int pa_nil))))))))))), ?_⟩
    refine ⟨_, rfl, a, _, 2, _, rfl, rfl, SqT.of (ha), rfl, _, _, rfl, rfl, .inr ⟨_, rfl, _, _, rfl, rfl, .inl ⟨by decide, by decide⟩, (by show 8 ≤ sizeLine; decide), fun t1 h1 => ?_⟩⟩
    have s1 := Same.new (o := HO.tup [V.int 18, .int 1, .int 16, .int 1, .int (9 * (if decide (0 < p.ports) = true then 1 else 0)), .int 0, .int 0, .int 8]) h1
    refine ⟨_, rfl, a, _, 0, _, rfl, rfl, SqT.of (s1 _ _ ha), rfl, p.maker, rfl, fun q2 H2 s2 g2 => ?_⟩
    have s12 := s1.trans s2
    refine ⟨t1, q2, _, _, rfl, rfl, s2 _ _ upd_same, g2, (by show 8 + 2 ≤ sizeLine; decide), fun t3 H3 s3 g3 => ?_⟩
    have s13 := s12.trans s3
    refine ⟨_, rfl, a, _, 1, _, rfl, rfl, SqT.of (s13 _ _ ha), rfl, p.model, rfl, fun q4 H4 s4 g4 => ?_⟩
    have s14 := s13.trans s4
    refine ⟨t3, q4, _, _, rfl, rfl, s4 _ _ g3, g4, (by show 10 + 2 ≤ sizeLine; decide), fun t5 H5 s5 g5 => ?_⟩
    have s15 := s14.trans s5
    refine ⟨_, rfl, _, rfl, a, _, 2, _, rfl, rfl, SqT.of (s15 _ _ ha), rfl, (by show 6 ≤ sizeLine; decide), fun t6 h6 => ?_⟩
    have s6 := Same.new (o := HO.tup [V.int 0, .int 1, .int p.ports, .int 0, .int 0, .int 1]) h6
    refine ⟨t5, t6, _, _, rfl, rfl, s6 _ _ g5, upd_same, (by show 12 + 6 ≤ sizeLine; decide), fun t7 H7 s7 g7 => ?_⟩
    refine k t7 H7 ((s15.trans s6).trans s7) (g7.trans ?_)
    have e9 : 9 * (if decide (0 < p.ports) = true then (1 : Int) else 0) = if 0 < p.ports then 9 else 0 := by
      by_cases h : 0 < p.ports
      · rw [decide_eq_true h, if_pos rfl, if_pos h]; rfl
      · rw [decide_eq_false h, if_neg (by decide), if_neg h]; rfl
    show some (HO.tup [V.int 18, .int 1, .int 16, .int 1, .int (9 * (if decide (0 < p.ports) = true then 1 else 0)), .int 0, .int 0, .int 8, .int (p.maker % 256), .int (p.maker / 256), .int (p.model % 256), .int (p.model / 256), .int 0, .int 1, .int p.ports, .int 0, .int 0, .int 1]) = _
    rw [e9]
    rfl
/-! ### _law_settings(plan) -/
theorem ok_l_settings (T : Txt K w mg C) (D : Dfn K mg "_law_settings" s_l_settings ["_law_plan_here"]) (G : Cl P w K mg base 1 "_law_two" spTwo) : Cl P w K mg base 2 "_law_settings" spSet := by
  refine cl_of D cs_l_settings (fun vs H Q E h => ?_) (fun f cdv A outer s H vs Q E hr h => ?_)
  · obtain ⟨a, p, rfl, _⟩ := h
    rfl
  · obtain ⟨a, p, rfl, ⟨e, ws, ha, he, hw⟩, g, k⟩ := h
    have nd := cs_l_settings.nd
    refine ⟨_, (pss_cons (ps_set (i := 1) nd rfl (.inl rfl) (pe_tup (pa_cons pe_int (pa_cons pe_int (pa_cons pe_int (pa_cons pe_int (pa_cons (pe_callB call_len_seq (by rfl) T.len PySem.boot_len (pa_cons (pe_ix ix_tup (pv 0) pe_int (fun _ _ => rfl)) pa_nil)) (pa_cons pe_int (pa_cons pe_int (pa_cons pe_int (pa_cons pe_int pa_nil))))))))))) (pss_cons (ps_for PassesOwn.never rfl (pi_tup (pe_ix ix_tup (pv 0) pe_int (fun _ _ => rfl))) (pg_tup rfl (pgs_cons (pg_name (i := 2) nd rfl (.inl rfl)) (pgs_cons (pg_name (i := 3) nd rfl (.inl rfl)) (pgs_cons (pg_name (i := 4) nd rfl (.inl rfl)) (pgs_cons (pg_name (i := 5) nd rfl (.inl rfl)) (pgs_cons (pg_name (i := 6) nd rfl (.inl rfl)) pgs_nil)))))) (pss_cons (ps_set (i := 7) nd rfl (.inl rfl) (pe_op op_add (pv 2) (pe_op op_mul pe_int (pe_callTy call_int1 (by rfl) T.int boot_int (pa_cons (pe_cmpR op_eq (pv 3) pe_str (nomark _)) pa_nil))))) (pss_one (ps_set (i := 1) nd rfl (.inl rfl) (pe_op op_catU (pe_op op_catU (pe_op op_catU (pv 1) (pe_tup (pa_cons pe_int (pa_cons pe_int (pa_cons (pv 7) (pa_cons (pe_op op_add pe_int (pe_callTy call_int1 (by rfl) T.int boot_int (pa_cons (pe_cmpR op_eq (pv 4) pe_str (nomark _)) pa_nil))) pa_nil)))))) (pe_cl G hr (by decide) rfl (pa_cons (pv 5) pa_nil))) (pe_tup (pa_cons (pv 6) pa_nil))))))) (pss_one (ps_ret (pe_op op_catU (pe_op op_catU (pe_op op_catU (pe_tup (pa_cons pe_int (pa_cons pe_int pa_nil))) (pe_cl G hr (by decide) rfl (pa_cons (pe_op op_add pe_int (pe_callB call_len_seq (by rfl) T.len PySem.boot_len (pa_cons (pv 1) pa_nil))) pa_nil))) (pe_tup (pa_cons pe_int (pa_cons pe_int (pa_cons pe_int (pa_cons pe_int (pa_cons pe_int pa_nil))))))) (pv 1)))))), ?_⟩
    have hl : ws.length = p.ends.length := Paired.length hw
    have few := g.few
    refine ⟨_, rfl, a, _, 3, _, rfl, rfl, SqT.of (ha), rfl, e, ws, rfl, .inr (SqT.of he), (by show 9 ≤ sizeLine; decide), fun t1 h1 => ?_⟩
    have s1 := Same.new (o := HO.tup [V.int 9, .int 4, .int 0, .int 0, .int (ws.length : Int), .int 255, .int 0, .int 0, .int 0]) h1
    have g1 : (upd H t1 (.tup [V.int 9, .int 4, .int 0, .int 0, .int (ws.length : Int), .int 255, .int 0, .int 0, .int 0])) t1 = some (.tup ((restTo p 0).map V.int)) := by rw [upd_same, hl]; rfl
    revert s1 g1
    generalize upd H t1 _ = H1
    intro s1 g1
    refine ⟨_, rfl, a, _, 3, _, rfl, rfl, SqT.of (s1 _ _ ha), rfl, e, rfl, ⟨ws, SqT.of (s1 _ _ he)⟩, for_tup (K := K) (a := e) (xs := ws) (fun i σ H2 => ∃ (r : Addr) (v2 v3 v4 v5 v6 v7 : Option V), σ = [some (.ref a), some (.ref r), v2, v3, v4, v5, v6, v7] ∧ H2 r = some (.tup ((restTo p i).map V.int)) ∧ Same H H2)
      ⟨t1, none, none, none, none, none, none, rfl, g1, s1⟩ (fun i σ H2 _ ⟨_, _, _, _, _, _, _, _, _, s3⟩ => SqT.of (s3 _ _ he)) ?_ ?_⟩
    · rintro i x σ H2 hx ⟨r, v2, v3, v4, v5, v6, v7, rfl, hr2, s3⟩
      obtain ⟨en, hen, b, rfl, hb⟩ := pat hw hx
      have hi : i < p.ends.length := (List.getElem?_eq_some_iff.mp hen).1
      have gd := g.ends en (List.mem_of_getElem? hen)
      refine ⟨b, _, rfl, SqT.of (s3 _ _ hb), rfl, _, _, rfl, _, _, rfl, _, _, rfl, _, _, rfl, _, _, rfl, rfl, ?_⟩
      refine ⟨_, rfl, _, rfl, rfl, .inr ⟨_, rfl, _, _, rfl, rfl, .inl ⟨by decide, by decide⟩, _, _, rfl, rfl, ?_⟩⟩
      rw [way_dec]
      refine ⟨_, rfl, _, rfl, _, rfl, rfl, .inr ⟨_, rfl, _, _, rfl, rfl, (by show 4 ≤ sizeLine; decide), fun t4 h4 => ?_⟩⟩
      rw [kind_dec]
      have s4 := Same.new (o := HO.tup [V.int 7, .int 5, .int (en.num + 128 * (if en.inn = true then 1 else 0)), .int (2 + (if en.tim = true then 1 else 0))]) h4
      have hz : ((restTo p i).map V.int).length = 9 + 7 * i := by rw [List.length_map, restTo_len p i (Nat.le_of_lt hi)]
      refine ⟨r, t4, _, _, rfl, rfl, s4 _ _ hr2, upd_same, by rw [hz]; exact wide_le' (by show 9 + 7 * i + 4 ≤ 100000; omega), fun t5 H5 s5 g5 => ?_⟩
      refine ⟨_, rfl, en.size, rfl, fun q6 H6 s6 g6 => ?_⟩
      refine ⟨t5, q6, _, _, rfl, rfl, s6 _ _ g5, g6, by rw [List.length_append, hz]; exact wide_le' (by show 9 + 7 * i + 4 + 2 ≤ 100000; omega), fun t7 H7 s7 g7 => ?_⟩
      refine ⟨_, rfl, (by show 1 ≤ sizeLine; decide), fun t8 h8 => ?_⟩
      have s8 := Same.new (o := HO.tup [V.int en.every]) h8
      refine ⟨t7, t8, _, _, rfl, rfl, s8 _ _ g7, upd_same, by rw [List.length_append, List.length_append, hz]; exact wide_le' (by show 9 + 7 * i + 4 + 2 + 1 ≤ 100000; omega), fun t9 H9 s9 g9 => ?_⟩
      refine ⟨t9, _, _, _, _, _, _, rfl, g9.trans ?_, (((((s3.trans s4).trans s5).trans s6).trans s7).trans s8).trans s9⟩
      rw [restTo_more hen, List.map_append, List.append_assoc, List.append_assoc]
      rfl
    · rintro σ H2 ⟨r, v2, v3, v4, v5, v6, v7, rfl, hr2, s3⟩
      rw [hl, restTo_all] at hr2
      have hl2 : ((restRow p).map V.int).length = (restRow p).length := List.length_map ..
      have hl3 := restRow_len p
      refine ⟨(by show 2 ≤ sizeLine; decide), fun t2 h2 => ?_⟩
      have s4 := Same.new (o := HO.tup [V.int 9, .int 2]) h2
      refine ⟨_, rfl, r, _, rfl, .inr (SqT.of (s4 _ _ hr2)), _, _, rfl, rfl, _, rfl, fun q5 H5 s5 g5 => ?_⟩
      refine ⟨t2, q5, _, _, rfl, rfl, s5 _ _ upd_same, g5, (by show 2 + 2 ≤ sizeLine; decide), fun t6 H6 s6 g6 => ?_⟩
      refine ⟨(by show 5 ≤ sizeLine; decide), fun t7 h7 => ?_⟩
      have s7 := Same.new (o := HO.tup [V.int 1, .int 1, .int 0, .int 128, .int 50]) h7
      refine ⟨t6, t7, _, _, rfl, rfl, s7 _ _ g6, upd_same, (by show 4 + 5 ≤ sizeLine; decide), fun t8 H8 s8 g8 => ?_⟩
      have sA := (((s4.trans s5).trans s6).trans s7).trans s8
      refine ⟨_, rfl, t8, r, _, _, rfl, rfl, g8, sA _ _ hr2, ?_, fun t9 H9 s9 g9 => ?_⟩
      · rw [hl2, hl3]
        show 9 + (9 + 7 * p.ends.length) ≤ sizeLine
        exact wide_le' (by omega)
      · refine k t9 H9 ((s3.trans sA).trans s9) (g9.trans ?_)
        rw [hl2]
        unfold settingsRow
        rw [List.map_append]
        rfl
/-! ### _law_cut(data, 8) -/
theorem ok_l_cut (T : Txt K w mg C) (D : Dfn K mg "_law_cut" s_l_cut ["_law_data", "_law_piece_size"]) : Cl P w K mg base 1 "_law_cut" spCut := by
  refine cl_of D cs_l_cut (fun vs H Q E h => ?_) (fun f cdv A outer s H vs Q E hr h => ?_)
  · obtain ⟨a, xs, rfl, _⟩ := h
    rfl
  · obtain ⟨a, xs, rfl, ha, hz, k⟩ := h
    have nd := cs_l_cut.nd
    refine ⟨_, (pss_cons (ps_set (i := 2) nd rfl (.inl rfl) (pe_lst pa_nil)) (pss_cons (ps_set (i := 3) nd rfl (.inl rfl) (pe_callTy call_tuple_of (by rfl) T.tuple (by decide +kernel) (pa_cons (pv 0) pa_nil))) (pss_cons (ps_for PassesOwn.never rfl (pi_range1 rfl T.range (pa_cons (pe_op op_add (pe_op op_fdiv (pe_callB call_len_seq (by rfl) T.len PySem.boot_len (pa_cons (pv 0) pa_nil)) (pv 1)) pe_int) pa_nil)) (pg_name (i := 4) nd rfl (.inl rfl)) (pss_cons (ps_expr (pe_bm PySem.F.plainAttrs_list PySem.F.slot_list_append PySem.F.type_list_append mt_append (pv 2) (pa_cons (pe_slice sl_tupU (pv 3) po_none (po_some (pv 1))) pa_nil))) (pss_one (ps_set (i := 3) nd rfl (.inl rfl) (pe_slice sl_tupU (pv 3) (po_some (pv 1)) po_none))))) (pss_one (ps_ret (pv 2)))))), ?_⟩
    refine ⟨(by show 0 ≤ sizeLine; decide), fun l hl => ?_⟩
    have s1 : Same H (upd H l (.lst [])) := Same.new hl
    refine ⟨_, rfl, a, _, rfl, .inr ⟨SqT.of (s1 _ _ ha), ?_⟩⟩
    refine ⟨_, rfl, a, _, rfl, .inr (SqT.of (s1 _ _ ha)), _, rfl, _, _, rfl, rfl, ⟨by decide, by decide⟩, _, _, rfl, rfl, _, rfl, ?_, ?_, ?_⟩
    · rw [List.length_map]; omega
    · rw [List.length_map]; omega
    have en : (((xs.map V.int).length : Int) / 8 + 1).toNat = xs.length / 8 + 1 := by rw [List.length_map]; omega
    rw [en]
    refine for_range (lo := 0) (n := xs.length / 8 + 1) (fun i σ H2 => ∃ (v4 : Option V) (r : Addr) (vs : List V), σ = [some (.ref a), some (.int 8), some (.ref l), some (.ref r), v4] ∧ Same H H2 ∧ H2 r = some (.tup ((xs.drop (8 * i)).map V.int)) ∧ H2 l = some (.lst vs) ∧ Paired (TupI H2) vs (cutTo xs i))
      ⟨none, a, [], rfl, s1, s1 _ _ ha, upd_same, .nil⟩ ?_ ?_
    · rintro i σ H2 hi ⟨v4, r, vs, rfl, s2, r2, g2, p2⟩
      refine ⟨_, rfl, .inl ⟨rfl, _, SqL.of g2⟩, ?_⟩
      refine ⟨_, rfl, _, rfl, 8, rfl, r, _, rfl, r2, fun b H3 s3 g3 => ?_⟩
      have g2' := s3 _ _ g2
      have hvl : vs.length = i := (Paired.length p2).trans (cutTo_len xs i)
      refine ⟨l, vs, .ref b, rfl, rfl, g2', by rw [hvl]; exact Nat.lt_of_le_of_lt (show i ≤ 10000 by omega) (by decide), ?_⟩
      have s4 : Same H (upd H3 l (.lst (vs ++ [.ref b]))) := fun c o e => by rw [upd_ne (ne_of_none e hl)]; exact (s2.trans s3) _ _ e
      have kt : KT0 H3 (upd H3 l (.lst (vs ++ [.ref b]))) := kt_put g2' lst_nt
      have r4 := kt _ _ (s3 _ _ r2)
      have b4 := kt _ _ g3
      have l4 : (upd H3 l (.lst (vs ++ [.ref b]))) l = some (.lst (vs ++ [.ref b])) := upd_same
      have p4 := Paired.mapP p2 fun _ _ z => (TupI.kt (Same.kt s3) z).kt kt
      revert s4 r4 b4 l4 p4
      clear kt
      generalize upd H3 l _ = H4
      intro s4 r4 b4 l4 p4
      refine ⟨_, rfl, _, rfl, 8, rfl, r, _, rfl, r4, fun q H5 s5 g5 => ?_⟩
      refine ⟨_, q, _, rfl, s4.trans s5, g5.trans ?_, s5 _ _ l4, ?_⟩
      · show some (HO.tup (cutV _ (some ((8 : Nat) : Int)) none)) = _
        rw [cutV_from, ← List.map_drop, List.drop_drop]
        rfl
      · rw [cutTo_more]
        refine paired_snoc (Paired.mapP p4 fun _ _ z => z.kt (Same.kt s5)) ⟨b, rfl, s5 _ _ (b4.trans ?_)⟩
        show some (HO.tup (cutV _ none (some ((8 : Nat) : Int)))) = _
        rw [cutV_to, ← List.map_take]
    · rintro σ H2 ⟨v4, r, vs, rfl, s2, r2, g2, p2⟩
      exact ⟨_, rfl, k l H2 s2 hl ⟨vs, g2, p2⟩⟩
end
end Plug
end
section
set_option Elab.async false
set_option linter.all false
set_option maxRecDepth 100000
set_option maxHeartbeats 4000000
/-! LM: the law's own machine as it stands in the heap. -/
namespace Plug
open PySem PySem.Spec PyProof.Rows L2 Mi
def mF (fa fm : Addr) (sg : Str) (mk : Int) (ml : Addr) (rq : V) (n lv : Int) (mh : Addr) : List (Key × V) :=
  [(.inr "plan", .ref fa), (.inr "forms", .ref fm), (.inr "stage", .str sg), (.inr "mark", .int mk), (.inr "pieces", .ref ml), (.inr "request", rq), (.inr "number", .int n), (.inr "level", .int lv), (.inr "halves", .ref mh)]
section
variable {H : Hp} {m fa fm ml mh ml' mh' : Addr} {n lv n' lv' mk mk' : Int} {sg sg' : Str} {rq rq' : V}
theorem mF_len : (mF fa fm sg mk ml rq n lv mh).length < sizeLine := show 9 < sizeLine by decide
theorem g_plan (h : H m = some (.dK (mF fa fm sg mk ml rq n lv mh))) : DGet H m (.str "plan") (some (.ref fa)) := DGet.k (k := Sum.inr "plan") h
theorem g_forms (h : H m = some (.dK (mF fa fm sg mk ml rq n lv mh))) : DGet H m (.str "forms") (some (.ref fm)) := DGet.k (k := Sum.inr "forms") h
theorem g_stage (h : H m = some (.dK (mF fa fm sg mk ml rq n lv mh))) : DGet H m (.str "stage") (some (.str sg)) := DGet.k (k := Sum.inr "stage") h
theorem g_mark (h : H m = some (.dK (mF fa fm sg mk ml rq n lv mh))) : DGet H m (.str "mark") (some (.int mk)) := DGet.k (k := Sum.inr "mark") h
theorem g_pieces (h : H m = some (.dK (mF fa fm sg mk ml rq n lv mh))) : DGet H m (.str "pieces") (some (.ref ml)) := DGet.k (k := Sum.inr "pieces") h
theorem g_request (h : H m = some (.dK (mF fa fm sg mk ml rq n lv mh))) : DGet H m (.str "request") (some rq) := DGet.k (k := Sum.inr "request") h
theorem g_number (h : H m = some (.dK (mF fa fm sg mk ml rq n lv mh))) : DGet H m (.str "number") (some (.int n)) := DGet.k (k := Sum.inr "number") h
theorem g_level (h : H m = some (.dK (mF fa fm sg mk ml rq n lv mh))) : DGet H m (.str "level") (some (.int lv)) := DGet.k (k := Sum.inr "level") h
theorem g_halves (h : H m = some (.dK (mF fa fm sg mk ml rq n lv mh))) : DGet H m (.str "halves") (some (.ref mh)) := DGet.k (k := Sum.inr "halves") h
theorem p_stage (h : H m = some (.dK (mF fa fm sg mk ml rq n lv mh))) : DPut H m (.str "stage") (.str sg') (upd H m (.dK (mF fa fm sg' mk ml rq n lv mh))) := DPut.k (k := Sum.inr "stage") h mF_len
theorem p_mark (h : H m = some (.dK (mF fa fm sg mk ml rq n lv mh))) : DPut H m (.str "mark") (.int mk') (upd H m (.dK (mF fa fm sg mk' ml rq n lv mh))) := DPut.k (k := Sum.inr "mark") h mF_len
theorem p_pieces (h : H m = some (.dK (mF fa fm sg mk ml rq n lv mh))) : DPut H m (.str "pieces") (.ref ml') (upd H m (.dK (mF fa fm sg mk ml' rq n lv mh))) := DPut.k (k := Sum.inr "pieces") h mF_len
theorem p_request (h : H m = some (.dK (mF fa fm sg mk ml rq n lv mh))) : DPut H m (.str "request") rq' (upd H m (.dK (mF fa fm sg mk ml rq' n lv mh))) := DPut.k (k := Sum.inr "request") h mF_len
theorem p_number (h : H m = some (.dK (mF fa fm sg mk ml rq n lv mh))) : DPut H m (.str "number") (.int n') (upd H m (.dK (mF fa fm sg mk ml rq n' lv mh))) := DPut.k (k := Sum.inr "number") h mF_len
theorem p_level (h : H m = some (.dK (mF fa fm sg mk ml rq n lv mh))) : DPut H m (.str "level") (.int lv') (upd H m (.dK (mF fa fm sg mk ml rq n lv' mh))) := DPut.k (k := Sum.inr "level") h mF_len
theorem p_halves (h : H m = some (.dK (mF fa fm sg mk ml rq n lv mh))) : DPut H m (.str "halves") (.ref mh') (upd H m (.dK (mF fa fm sg mk ml rq n lv mh'))) := DPut.k (k := Sum.inr "halves") h mF_len
end
def rowK (row : List Int) : List Key := row.map Sum.inl
theorem rowK_V (row : List Int) : (rowK row).map kV = row.map V.int := by
  unfold rowK
  rw [List.map_map]
  rfl
/-- what a row asks for, as the law's table says -/
def FormsAt (H : Hp) (fm : Addr) : Prop := ∃ kvs, H fm = some (.dT kvs) ∧ (∀ row r, IsReq row (some r) → ∃ v, valV kvs (rowK row) = some v ∧ ReqAt H v r) ∧ (∀ row, IsReq row none → valV kvs (rowK row) = none) ∧
  0 < kvs.length ∧ kvs.length ≤ 300 ∧ ∀ kv ∈ kvs, ∃ r, okRq r ∧ kv.1 = rowK (reqBytes r)
theorem FormsAt.fr {H H' : Hp} {fm : Addr} {l : List Addr} (h : FormsAt H fm) (f : Fr l H H') (n : fm ∉ l) : FormsAt H' fm := by
  obtain ⟨kvs, e, h1, h2⟩ := h
  exact ⟨kvs, f.at e n, fun row r hr => let ⟨v, a, b⟩ := h1 row r hr; ⟨v, a, b.kt f.kt⟩, h2⟩
theorem PcsL.fr {H H' : Hp} {a : Addr} {ps : List (List Int)} {l : List Addr} (h : PcsL H a ps) (f : Fr l H H') (n : a ∉ l) : PcsL H' a ps := by
  obtain ⟨vs, e, p⟩ := h
  exact ⟨vs, f.at e n, Paired.mapP p fun _ _ z => z.kt f.kt⟩
def RqAt (H : Hp) (v : V) : Option Rq → Prop
  | none => v = .non
  | some r => ReqAt H v r
theorem RqAt.kt {H H' : Hp} {v : V} : ∀ {o : Option Rq}, KT0 H H' → RqAt H v o → RqAt H' v o
  | none, _, h => h
  | some _, k, h => ReqAt.kt k h
structure MR (p : Pl) (H : Hp) (fa fm ml mh : Addr) (rq : V) (s : Ms) : Prop where
  plan : PlanAt H fa p
  forms : FormsAt H fm
  halves : ∃ kvs, H mh = some (.dT kvs) ∧ HalvesAt H kvs (keysL p s.lv)
  pieces : PcsL H ml s.pcs
  req : RqAt H rq s.rq
  apart : mh ≠ fm
def MAt (p : Pl) (H : Hp) (m fm mh ml : Addr) (s : Ms) : Prop := ∃ fa rq, H m = some (.dK (mF fa fm (sgS s.sg) s.mark ml rq s.num s.lv mh)) ∧ MR p H fa fm ml mh rq s
theorem MR.fr {p : Pl} {H H' : Hp} {fa fm ml mh : Addr} {rq : V} {s : Ms} {l : List Addr} (h : MR p H fa fm ml mh rq s) (f : Fr l H H') (n1 : fm ∉ l) (n2 : ml ∉ l) (n3 : mh ∉ l) : MR p H' fa fm ml mh rq s := by
  obtain ⟨h1, h2, ⟨kvs, e4, e5⟩, h4, h5, h6⟩ := h
  exact ⟨h1.kt f.kt, h2.fr f n1, ⟨kvs, f.at e4 n3, e5.kt f.kt⟩, h4.fr f n2, h5.kt f.kt, h6⟩
theorem MAt.fr {p : Pl} {H H' : Hp} {m fm ml mh : Addr} {s : Ms} {l : List Addr} (h : MAt p H m fm mh ml s) (f : Fr l H H') (n0 : m ∉ l) (n1 : fm ∉ l) (n2 : mh ∉ l) (n3 : ml ∉ l) : MAt p H' m fm mh ml s := by
  obtain ⟨fa, rq, e, r⟩ := h
  exact ⟨fa, rq, f.at e n0, r.fr f n1 n3 n2⟩
theorem MAt.same {p : Pl} {H H' : Hp} {m fm ml mh : Addr} {s : Ms} (h : MAt p H m fm mh ml s) (f : Same H H') : MAt p H' m fm mh ml s := h.fr (Fr.of (l := []) f) (by simp) (by simp) (by simp) (by simp)
/-- how m stands apart from what it names -/
theorem MAt.apart {p : Pl} {H : Hp} {m fm ml mh : Addr} {s : Ms} (h : MAt p H m fm mh ml s) : m ≠ fm ∧ m ≠ mh ∧ m ≠ ml ∧ mh ≠ fm ∧ ml ≠ mh ∧ ml ≠ fm := by
  obtain ⟨fa, rq, e, r⟩ := h
  obtain ⟨k1, f1, _⟩ := r.forms
  obtain ⟨k2, f2, _⟩ := r.halves
  obtain ⟨k3, f3, _⟩ := r.pieces
  exact ⟨ne_of e f1 (fun z => by cases z), ne_of e f2 (fun z => by cases z), ne_of e f3 (fun z => by cases z), r.apart, ne_of f3 f2 (fun z => by cases z), ne_of f3 f1 (fun z => by cases z)⟩
end Plug
end
section
set_option Elab.async false
set_option linter.all false
set_option maxRecDepth 100000
set_option maxHeartbeats 4000000
namespace Plug
open PySem PySem.Spec PyProof.Rows L2 Mi
section
variable {P : Program} {w : World} {K : PySem.W.Frag} {mg : Str → Option Value} {base : Heap} {C : Addr}
/-! ### _law_setup(m, row) -/
def spSetupL : Sp := fun vs H Q _ => ∃ (m fm mh ml a : Addr) (s : Ms) (p : Pl) (row : List Int) (o : Option Rq), vs = [.ref m, .ref a] ∧ MAt p H m fm mh ml s ∧ GoodPl p ∧ H a = some (.tup (row.map V.int)) ∧ IsReq row o ∧
  ∀ ml' H', H ml' = none → MAt p H' m fm mh ml' (setupS p o s) → Fr [m] H H' → Q .non H'
theorem ok_l_setup (T : Txt K w mg C) (D : Dfn K mg "_law_setup" s_l_setup ["_law_m", "_law_row"]) (GD : Cl P w K mg base 2 "_law_device" spDev) (GS : Cl P w K mg base 2 "_law_settings" spSet) (GC : Cl P w K mg base 1 "_law_cut" spCut) (GK : Cl P w K mg base 1 "_law_key" spKey) :
    Cl P w K mg base 3 "_law_setup" spSetupL := by
  refine cl_of D cs_l_setup (fun vs H Q E h => ?_) (fun f cdv A outer s H vs Q E hr h => ?_)
  · obtain ⟨m, fm, mh, ml, a, ms, p, row, o, rfl, _⟩ := h
    rfl
  · obtain ⟨m, fm, mh, ml, a, ms, p, row, o, rfl, MA, g, ha, hio, k⟩ := h
    obtain ⟨nfm, nmh, nml, nhf, _, _⟩ := MA.apart
    obtain ⟨fa, rq, hm, R⟩ := MA
    have nd := cs_l_setup.nd
    have hu := hu_of hr
    refine ⟨_, (pss_cons (ps_asg (pe_tup (pa_cons pe_str (pa_cons pe_int (pa_cons (pe_lst pa_nil) pa_nil)))) (pg_tup rfl (pgs_cons (pg_sub (pv 0) pe_str (set_dict hu)) (pgs_cons (pg_sub (pv 0) pe_str (set_dict hu)) (pgs_cons (pg_sub (pv 0) pe_str (set_dict hu)) pgs_nil))))) (pss_cons (ps_dput hu (pv 0) pe_str (pe_dget1 hu (pe_dget hu (pv 0) pe_str (fun _ _ => rfl)) (pv 1) ⟨rfl, rfl, rfl, rfl⟩) rfl) (pss_cons (ps_if (pt_cmp (pc_isN (pe_dget hu (pv 0) pe_str (fun _ _ => rfl)))) (pss_one ps_retN) pss_nil) (pss_cons (ps_set (i := 2) nd rfl (.inl rfl) (pe_ix ix_tup (pe_dget hu (pv 0) pe_str (fun _ _ => rfl)) pe_int (fun _ _ => rfl))) (pss_cons (ps_set (i := 3) nd rfl (.inl rfl) (pe_dget hu (pv 0) pe_str (fun _ _ => rfl))) (pss_one (ps_if (pt_cmpR op_in_seq (pv 2) (pe_tup (pa_cons pe_str (pa_cons pe_str pa_nil))) (by rfl)) (pss_cons (ps_dput hu (pv 0) pe_str pe_str rfl) (pss_one (ps_dput hu (pv 0) pe_str (pe_cl GC hr (by decide) rfl (pa_cons (pe_ifExp (pt_cmpR op_eq (pv 2) pe_str (nomark _)) (pe_cl GD hr (by decide) rfl (pa_cons (pv 3) pa_nil)) (pe_cl GS hr (by decide) rfl (pa_cons (pv 3) pa_nil))) (pa_cons pe_int pa_nil))) rfl))) (pss_one (ps_if (PW.pt (pw_and (pt_cmpR op_eq (pv 2) pe_str (nomark _)) (pw_and1 (pt_chain op_le op_le pe_int (pe_ix ix_tup (pe_dget hu (pv 0) pe_str (fun _ _ => rfl)) pe_int (fun _ _ => rfl)) (pe_ix ix_tup (pv 3) pe_int (fun _ _ => rfl)))))) (pss_one (ps_asg (pe_tup (pa_cons pe_str (pa_cons (pe_lst (pa_cons (pe_tup (pa_cons pe_int (pa_cons pe_int pa_nil))) pa_nil)) pa_nil))) (pg_tup rfl (pgs_cons (pg_sub (pv 0) pe_str (set_dict hu)) (pgs_cons (pg_sub (pv 0) pe_str (set_dict hu)) pgs_nil))))) (pss_one (ps_if (pt_cmpR op_in_seq (pv 2) (pe_tup (pa_cons pe_str (pa_cons pe_str pa_nil))) (by rfl)) (pss_one (ps_dput hu (pv 0) pe_str pe_str rfl)) (pss_one (ps_if (PW.pt (pw_and (pt_cmpR op_in_seq (pv 2) (pe_tup (pa_cons pe_str (pa_cons pe_str pa_nil))) (by rfl)) (pw_and1 (pt_chain op_le op_le pe_int (pe_ix ix_tup (pe_dget hu (pv 0) pe_str (fun _ _ => rfl)) pe_int (fun _ _ => rfl)) (pe_ix ix_tup (pv 3) pe_int (fun _ _ => rfl)))))) (pss_one (ps_dput hu (pv 0) pe_str pe_str rfl)) (pss_one (ps_if (PW.pt (pw_and (pt_cmpR op_eq (pv 2) pe_str (nomark _)) (pw_and1 (pt_cmp (pc_din hu (pe_cl GK hr (by decide) rfl (pa_cons (pe_ix ix_tup (pe_dget hu (pv 0) pe_str (fun _ _ => rfl)) pe_int (fun _ _ => rfl)) pa_nil)) (pe_dget hu (pv 0) pe_str (fun _ _ => rfl))))))) (pss_one (ps_dput hu (pv 0) pe_str pe_str rfl)) pss_nil))))))))))))))), ?_⟩
    have mm : m ∈ [m] := List.mem_singleton.mpr rfl
    -- stage, mark, pieces = 'stalled', 1, []
    refine ⟨(by show 0 ≤ sizeLine; decide), fun l1 hl1 => ⟨(by show 3 ≤ sizeLine; decide), fun t1 ht1 => ?_⟩⟩
    have s1 : Same H (upd (upd H l1 (.lst [])) t1 (.tup [V.str "stalled", .int 1, .ref l1])) := (Same.new hl1).trans (Same.new ht1)
    have g1 : (upd (upd H l1 (.lst [])) t1 (.tup [V.str "stalled", .int 1, .ref l1])) l1 = some (.lst []) := Same.new ht1 _ _ upd_same
    have e1 : (upd (upd H l1 (.lst [])) t1 (.tup [V.str "stalled", .int 1, .ref l1])) t1 = some (.tup [V.str "stalled", .int 1, .ref l1]) := upd_same
    revert s1 g1 e1
    generalize upd (upd H l1 _) t1 _ = H1
    intro s1 g1 e1
    have m1 := s1 _ _ hm
    refine ⟨t1, _, rfl, SqT.of e1, rfl, _, _, rfl, _, rfl, m, _, rfl, p_stage m1, _, _, rfl, _, rfl, m, _, rfl, p_mark upd_same, _, _, rfl, _, rfl, m, _, rfl, p_pieces upd_same, rfl, ?_⟩
    rw [upd_upd, upd_upd]
    have f2 : Fr [m] H (upd H1 m (.dK (mF fa fm "stalled" 1 l1 rq ms.num ms.lv mh))) := (Fr.of s1).puts mm m1 dK_nt
    have m2 : (upd H1 m (.dK (mF fa fm "stalled" 1 l1 rq ms.num ms.lv mh))) m = _ := upd_same
    have nl1 : l1 ≠ m := fun z => by rw [z, hm] at hl1; cases hl1
    have g2 : (upd H1 m (.dK (mF fa fm "stalled" 1 l1 rq ms.num ms.lv mh))) l1 = some (.lst []) := by rw [upd_ne nl1]; exact g1
    revert f2 m2 g2
    generalize upd H1 m (.dK (mF fa fm "stalled" 1 l1 rq ms.num ms.lv mh)) = H2
    intro f2 m2 g2
    -- request = forms.get(row)
    obtain ⟨kf, hf, hfy, hfn, _⟩ := R.forms
    have hf2 := f2.at hf (not1 (Ne.symm nfm))
    refine ⟨_, rfl, m, _, rfl, g_forms m2, fm, rfl, .inr ⟨kf, .inl hf2⟩, _, rfl, _, DGet.t (k := rowK row) hf2 (by rw [rowK_V]; exact f2.kt _ _ ha), ?_⟩
    refine ⟨_, rfl, m, _, rfl, p_request m2, ?_⟩
    -- the heap behind it
    have step : ∀ v : V, Fr [m] H (upd H2 m (.dK (mF fa fm "stalled" 1 l1 v ms.num ms.lv mh))) ∧ (upd H2 m (.dK (mF fa fm "stalled" 1 l1 v ms.num ms.lv mh))) l1 = some (.lst []) := fun v => ⟨f2.puts mm m2 dK_nt, by rw [upd_ne nl1]; exact g2⟩
    obtain ⟨kvs, hh, hks⟩ := R.halves
    have fin : ∀ (H' : Hp) (sg' : Sg) (ml' : Addr) (pcs' : List (List Int)) (o' : Option Rq) (v : V), Fr [m] H H' → H' m = some (.dK (mF fa fm (sgS sg') 1 ml' v ms.num ms.lv mh)) → PcsL H' ml' pcs' → RqAt H' v o' → MAt p H' m fm mh ml' ⟨sg', 1, pcs', o', ms.num, ms.lv⟩ := fun H' sg' ml' pcs' o' v f' m' p' r' =>
      ⟨fa, v, m', ⟨R.plan.kt f'.kt, R.forms.fr f' (not1 (Ne.symm nfm)), ⟨kvs, f'.at hh (not1 (Ne.symm nmh)), hks.kt f'.kt⟩, p', r', nhf⟩⟩
    cases o with
    | none =>
      rw [hfn row hio]
      obtain ⟨f3, g3⟩ := step .non
      refine ⟨_, rfl, m, _, rfl, g_request upd_same, _, rfl, bT (by rfl) ?_⟩
      exact k l1 _ hl1 (fin _ .stalled l1 [] none .non f3 upd_same ⟨[], g3, .nil⟩ rfl) f3
    | some r =>
      have hok := hio.1
      have h8 := hok.1
      obtain ⟨v, ev, ra, rfl, hra⟩ := hfy row r hio
      rw [ev, Option.getD_some]
      obtain ⟨f3, g3⟩ := step (.ref ra)
      have m3 : (upd H2 m (.dK (mF fa fm "stalled" 1 l1 (.ref ra) ms.num ms.lv mh))) m = _ := upd_same
      have hra3 := f3.kt _ _ hra
      clear step
      revert f3 g3 m3 hra3
      show Fr [m] H (upd H2 m (.dK (mF fa fm "stalled" 1 l1 (.ref ra) ms.num ms.lv mh))) → _
      generalize upd H2 m (.dK (mF fa fm "stalled" 1 l1 (.ref ra) ms.num ms.lv mh)) = H3
      intro f3 g3 m3 hra3
      refine ⟨_, rfl, m, _, rfl, g_request m3, _, rfl, bF (by rfl) ?_⟩
      refine ⟨_, rfl, m, _, rfl, g_request m3, ra, _, 0, _, rfl, rfl, SqT.of hra3, at_of (j := 0) rfl (rq_at0 r), ?_⟩
      refine ⟨_, rfl, m, _, rfl, g_plan m3, ?_⟩
      obtain ⟨e, ws, hfa, he, hw⟩ := R.plan.kt f3.kt
      -- a piece of the end: stage = st, pieces as they are
      have put1 : ∀ (sg' : Sg) (H' : Hp), Same H3 H' → setupS p (some r) ms = ⟨sg', 1, [], some r, ms.num, ms.lv⟩ → Q .non (upd H' m (.dK (mF fa fm (sgS sg') 1 l1 (.ref ra) ms.num ms.lv mh))) := fun sg' H' s' es => by
        have f' := (f3.and s').puts (o' := .dK (mF fa fm (sgS sg') 1 l1 (.ref ra) ms.num ms.lv mh)) mm (s' _ _ m3) dK_nt
        refine k l1 _ hl1 ?_ f'
        rw [es]
        exact fin _ sg' l1 [] (some r) (.ref ra) f' upd_same ⟨[], by rw [upd_ne nl1]; exact s' _ _ g3, .nil⟩ ⟨ra, rfl, f'.kt _ _ hra⟩
      have put0 : ∀ (H' : Hp), Same H3 H' → setupS p (some r) ms = ⟨.stalled, 1, [], some r, ms.num, ms.lv⟩ → Q .non H' := fun H' s' es => by
        refine k l1 _ hl1 ?_ (f3.and s')
        rw [es]
        exact fin _ .stalled l1 [] (some r) (.ref ra) (f3.and s') (s' _ _ m3) ⟨[], s' _ _ g3, .nil⟩ ⟨ra, rfl, s' _ _ hra3⟩
      have giveS : ∀ row', Mi.rowOf p r = some row' → asksR r → setupS p (some r) ms = ⟨.give, 1, cutL row', some r, ms.num, ms.lv⟩ := fun row' e1 e2 => by
        unfold setupS
        simp only [if_pos e2, e1]
      -- word in ('device', 'settings')
      refine ⟨_, rfl, (by show 2 ≤ sizeLine; decide), fun t4 ht4 => ⟨t4, _, rfl, .inr (SqT.of upd_same), rfl, rfl, _, rfl, ?_⟩⟩
      rw [show (if false = true then !inV (V.str (wordS r.w)) [V.str "device", V.str "settings"] else inV (V.str (wordS r.w)) [V.str "device", V.str "settings"]) = decide (r.w = 0 ∨ r.w = 1) from in_ds h8]
      have s4 := Same.new (o := HO.tup [V.str "device", V.str "settings"]) ht4
      by_cases c1 : r.w = 0 ∨ r.w = 1
      · refine bT (decide_eq_true c1) ?_
        have has : asksR r := c1.elim .inl fun z => .inr (.inl z)
        refine ⟨_, rfl, m, _, rfl, p_stage (s4 _ _ m3), ?_⟩
        have f5 : Fr [m] H (upd (upd H3 t4 (.tup [V.str "device", V.str "settings"])) m (.dK (mF fa fm "give" 1 l1 (.ref ra) ms.num ms.lv mh))) := (f3.and s4).puts mm (s4 _ _ m3) dK_nt
        have m5 : (upd (upd H3 t4 (.tup [V.str "device", V.str "settings"])) m (.dK (mF fa fm "give" 1 l1 (.ref ra) ms.num ms.lv mh))) m = _ := upd_same
        revert f5 m5
        generalize upd (upd H3 t4 _) m (.dK (mF fa fm "give" 1 l1 (.ref ra) ms.num ms.lv mh)) = H5
        intro f5 m5
        -- what both rows' roads end in
        have last : ∀ (row' : List Int) (l7 : Addr) (H6 H7 : Hp), Mi.rowOf p r = some row' → Same H5 H6 → Same H6 H7 → H6 l7 = none → PcsL H7 l7 (cutL row') → Q .non (upd H7 m (.dK (mF fa fm "give" 1 l7 (.ref ra) ms.num ms.lv mh))) := fun row' l7 H6 H7 er s6 s7 n7 p7 => by
          have f7 := f5.and (s6.trans s7)
          have f8 := f7.puts (o' := .dK (mF fa fm "give" 1 l7 (.ref ra) ms.num ms.lv mh)) mm ((s6.trans s7) _ _ m5) dK_nt
          have n0 : H l7 = none := by
            refine f5.none (p := l7) ?_ (not1 fun z => ?_)
            · cases q : H5 l7 with
              | none => rfl
              | some o => rw [s6 _ _ q] at n7; cases n7
            · rw [z, s6 _ _ m5] at n7; cases n7
          refine k l7 _ n0 ?_ f8
          rw [giveS row' er has]
          have k8 : KT0 H7 (upd H7 m (.dK (mF fa fm "give" 1 l7 (.ref ra) ms.num ms.lv mh))) := kt_put ((s6.trans s7) _ _ m5) dK_nt
          have nl7 : l7 ≠ m := fun z => by rw [z, s6 _ _ m5] at n7; cases n7
          obtain ⟨vs7, q7, pp7⟩ := p7
          exact fin _ .give l7 _ (some r) (.ref ra) f8 upd_same ⟨vs7, by rw [upd_ne nl7]; exact q7, Paired.mapP pp7 fun _ _ z => z.kt k8⟩ ⟨ra, rfl, f8.kt _ _ hra⟩
        have few := g.few
        refine ⟨_, rfl, rfl, _, rfl, ?_⟩
        rw [show decide (V.str (wordS r.w) = V.str "device") = decide (r.w = 0) from word_dec h8 0 (by decide)]
        by_cases c2 : r.w = 0
        · refine bT (decide_eq_true c2) ⟨_, rfl, fa, p, rfl, R.plan.kt f5.kt, g, fun q H6 s6 g6 => ?_⟩
          exact ⟨q, deviceRow p, rfl, g6, by rw [deviceRow_len]; omega, fun l7 H7 s7 n7 p7 => ⟨_, rfl, m, _, rfl, p_pieces ((s6.trans s7) _ _ m5), last (deviceRow p) l7 H6 H7 (if_pos c2) s6 s7 n7 p7⟩⟩
        · refine bF (decide_eq_false c2) ⟨_, rfl, fa, p, rfl, R.plan.kt f5.kt, g, fun q H6 s6 g6 => ?_⟩
          exact ⟨q, settingsRow p, rfl, g6, by rw [settingsRow_len]; omega, fun l7 H7 s7 n7 p7 => ⟨_, rfl, m, _, rfl, p_pieces ((s6.trans s7) _ _ m5), last (settingsRow p) l7 H6 H7 (by unfold Mi.rowOf; rw [if_neg c2, if_pos (by omega)]) s6 s7 n7 p7⟩⟩
      refine bF (decide_eq_false c1) ?_
      have hp1 : placed r.w = true := placed_lt.mpr (by omega)
      have hfa4 := s4 _ _ hfa
      -- word == 'port' and ..
      refine ⟨_, rfl, rfl, _, rfl, ?_⟩
      rw [show decide (V.str (wordS r.w) = V.str "port") = decide (r.w = 5) from word_dec h8 5 (by decide)]
      by_cases c5 : r.w = 5
      · refine bT (decide_eq_true c5) ?_
        have has : asksR r := .inr (.inr c5)
        have ro : Mi.rowOf p r = if r.w = 5 ∧ 1 ≤ r.v ∧ r.v ≤ p.ports then some [0, 0] else none := by
          unfold Mi.rowOf
          rw [if_neg (by omega), if_neg (by omega)]
        have noS : ¬ (1 ≤ r.v ∧ r.v ≤ p.ports) → setupS p (some r) ms = ⟨.stalled, 1, [], some r, ms.num, ms.lv⟩ := fun z => by
          have e0 : Mi.rowOf p r = none := by rw [ro, if_neg fun y => z y.2]
          unfold setupS
          simp only [if_pos has, e0]
        -- the rest, where port is not met
        have rest : ∀ H' : Hp, Same H3 H' → Q .non H' → True := fun _ _ _ => trivial
        refine ⟨_, rfl, m, _, rfl, g_request (s4 _ _ m3), ra, _, 1, _, rfl, rfl, SqT.of (s4 _ _ hra3), at_of (j := 1) rfl (rq_at1 hp1), ?_⟩
        refine ⟨_, _, rfl, rfl, _, rfl, ?_⟩
        by_cases d1 : 1 ≤ r.v
        · refine bT (decide_eq_true d1) ⟨_, rfl, fa, _, 2, _, rfl, rfl, SqT.of (hfa4), rfl, _, _, rfl, rfl, _, rfl, ?_⟩
          by_cases d2 : r.v ≤ p.ports
          · refine bT (decide_eq_true d2) ?_
            have er : Mi.rowOf p r = some [0, 0] := by rw [ro, if_pos ⟨c5, d1, d2⟩]
            refine ⟨(by show 2 ≤ sizeLine; decide), fun t6 ht6 => ⟨(by show 1 ≤ sizeLine; decide), fun l6 hl6 => ⟨(by show 2 ≤ sizeLine; decide), fun t7 ht7 => ?_⟩⟩⟩
            have s6 := Same.new (o := HO.tup [V.int 0, .int 0]) ht6
            have s7 := Same.new (o := HO.lst [V.ref t6]) hl6
            have s8 := Same.new (o := HO.tup [V.str "give", .ref l6]) ht7
            have s9 := ((s4.trans s6).trans s7).trans s8
            have n0 : H l6 = none := by
              refine f3.none (p := l6) ?_ (not1 fun z => ?_)
              · cases q : H3 l6 with
                | none => rfl
                | some o => rw [(s4.trans s6) _ _ q] at hl6; cases hl6
              · rw [z, (s4.trans s6) _ _ m3] at hl6; cases hl6
            have nl6 : l6 ≠ m := fun z => by rw [z, (s4.trans s6) _ _ m3] at hl6; cases hl6
            have t9 := s8 _ _ (s7 _ _ (upd_same (H := upd H3 t4 (.tup [V.str "device", V.str "settings"])) (a := t6) (o := .tup [V.int 0, .int 0])))
            have l9 := s8 _ _ (upd_same (H := upd (upd H3 t4 (.tup [V.str "device", V.str "settings"])) t6 (.tup [V.int 0, .int 0])) (a := l6) (o := .lst [V.ref t6]))
            refine ⟨t7, _, rfl, SqT.of upd_same, rfl, _, _, rfl, _, rfl, m, _, rfl, p_stage (s9 _ _ m3), _, _, rfl, _, rfl, m, _, rfl, p_pieces upd_same, rfl, ?_⟩
            rw [upd_upd]
            have fA := (f3.and s9).puts (o' := .dK (mF fa fm "give" 1 l6 (.ref ra) ms.num ms.lv mh)) mm (s9 _ _ m3) dK_nt
            refine k l6 _ n0 ?_ fA
            rw [giveS [0, 0] er has, cutL_two]
            refine fin _ .give l6 _ (some r) (.ref ra) fA upd_same ⟨[.ref t6], by rw [upd_ne nl6]; exact l9, .cons ⟨t6, rfl, ?_⟩ .nil⟩ ⟨ra, rfl, fA.kt _ _ hra⟩
            exact kt_put (s9 _ _ m3) dK_nt _ _ t9
          · refine bF (decide_eq_false d2) ?_
            refine ⟨_, rfl, (by show 2 ≤ sizeLine; decide), fun t5 ht5 => ⟨t5, _, rfl, .inr (SqT.of upd_same), rfl, rfl, _, rfl, ?_⟩⟩
            have s5 := s4.trans (Same.new (o := HO.tup [V.str "number", V.str "set"]) ht5)
            rw [show (if false = true then !inV (V.str (wordS r.w)) [V.str "number", V.str "set"] else inV (V.str (wordS r.w)) [V.str "number", V.str "set"]) = decide (r.w = 2 ∨ r.w = 3) from in_ns h8]
            refine bF (decide_eq_false (by omega)) ?_
            refine ⟨_, rfl, (by show 2 ≤ sizeLine; decide), fun t6 ht6 => ⟨t6, _, rfl, .inr (SqT.of upd_same), rfl, rfl, _, rfl, ?_⟩⟩
            have s6 := s5.trans (Same.new (o := HO.tup [V.str "reset", V.str "shut"]) ht6)
            rw [show (if false = true then !inV (V.str (wordS r.w)) [V.str "reset", V.str "shut"] else inV (V.str (wordS r.w)) [V.str "reset", V.str "shut"]) = decide (r.w = 6 ∨ r.w = 7) from in_rs h8]
            refine bF (decide_eq_false (by omega)) ?_
            refine ⟨_, rfl, rfl, _, rfl, ?_⟩
            rw [show decide (V.str (wordS r.w) = V.str "clear") = decide (r.w = 4) from word_dec h8 4 (by decide)]
            exact bF (decide_eq_false (by omega)) (put0 _ s6 (noS fun z => d2 z.2))
        · refine bF (decide_eq_false d1) ⟨_, rfl, bF rfl ?_⟩
          refine ⟨_, rfl, (by show 2 ≤ sizeLine; decide), fun t5 ht5 => ⟨t5, _, rfl, .inr (SqT.of upd_same), rfl, rfl, _, rfl, ?_⟩⟩
          have s5 := s4.trans (Same.new (o := HO.tup [V.str "number", V.str "set"]) ht5)
          rw [show (if false = true then !inV (V.str (wordS r.w)) [V.str "number", V.str "set"] else inV (V.str (wordS r.w)) [V.str "number", V.str "set"]) = decide (r.w = 2 ∨ r.w = 3) from in_ns h8]
          refine bF (decide_eq_false (by omega)) ?_
          refine ⟨_, rfl, (by show 2 ≤ sizeLine; decide), fun t6 ht6 => ⟨t6, _, rfl, .inr (SqT.of upd_same), rfl, rfl, _, rfl, ?_⟩⟩
          have s6 := s5.trans (Same.new (o := HO.tup [V.str "reset", V.str "shut"]) ht6)
          rw [show (if false = true then !inV (V.str (wordS r.w)) [V.str "reset", V.str "shut"] else inV (V.str (wordS r.w)) [V.str "reset", V.str "shut"]) = decide (r.w = 6 ∨ r.w = 7) from in_rs h8]
          refine bF (decide_eq_false (by omega)) ?_
          refine ⟨_, rfl, rfl, _, rfl, ?_⟩
          rw [show decide (V.str (wordS r.w) = V.str "clear") = decide (r.w = 4) from word_dec h8 4 (by decide)]
          exact bF (decide_eq_false (by omega)) (put0 _ s6 (noS fun z => d1 z.1))
      refine bF (decide_eq_false c5) ?_
      have na : ¬ asksR r := fun z => by unfold asksR at z; omega
      have stS : Mi.Meets p ms.lv r → setupS p (some r) ms = ⟨.status, 1, [], some r, ms.num, ms.lv⟩ := fun z => by
        unfold setupS
        simp only [if_neg na, if_pos z]
      have noS : ¬ Mi.Meets p ms.lv r → setupS p (some r) ms = ⟨.stalled, 1, [], some r, ms.num, ms.lv⟩ := fun z => by
        unfold setupS
        simp only [if_neg na, if_neg z]
      refine ⟨_, rfl, (by show 2 ≤ sizeLine; decide), fun t5 ht5 => ⟨t5, _, rfl, .inr (SqT.of upd_same), rfl, rfl, _, rfl, ?_⟩⟩
      have s5 := s4.trans (Same.new (o := HO.tup [V.str "number", V.str "set"]) ht5)
      rw [show (if false = true then !inV (V.str (wordS r.w)) [V.str "number", V.str "set"] else inV (V.str (wordS r.w)) [V.str "number", V.str "set"]) = decide (r.w = 2 ∨ r.w = 3) from in_ns h8]
      by_cases c2 : r.w = 2 ∨ r.w = 3
      · refine bT (decide_eq_true c2) ⟨_, rfl, m, _, rfl, p_stage (s5 _ _ m3), put1 .status _ s5 (stS ?_)⟩
        rcases c2 with z | z
        · exact .inl z
        · exact .inr (.inl z)
      refine bF (decide_eq_false c2) ?_
      refine ⟨_, rfl, (by show 2 ≤ sizeLine; decide), fun t6 ht6 => ⟨t6, _, rfl, .inr (SqT.of upd_same), rfl, rfl, _, rfl, ?_⟩⟩
      have s6 := s5.trans (Same.new (o := HO.tup [V.str "reset", V.str "shut"]) ht6)
      rw [show (if false = true then !inV (V.str (wordS r.w)) [V.str "reset", V.str "shut"] else inV (V.str (wordS r.w)) [V.str "reset", V.str "shut"]) = decide (r.w = 6 ∨ r.w = 7) from in_rs h8]
      by_cases c6 : r.w = 6 ∨ r.w = 7
      · refine bT (decide_eq_true c6) ?_
        have me : Mi.Meets p ms.lv r ↔ (1 ≤ r.v ∧ r.v ≤ p.ports) := by
          constructor
          · intro h
            rcases h with h | h | ⟨h, _⟩ | h
            · omega
            · omega
            · omega
            · exact h.2
          · exact fun h => .inr (.inr (.inr ⟨c6, h⟩))
        refine ⟨_, rfl, m, _, rfl, g_request (s6 _ _ m3), ra, _, 1, _, rfl, rfl, SqT.of (s6 _ _ hra3), at_of (j := 1) rfl (rq_at1 hp1), ?_⟩
        refine ⟨_, _, rfl, rfl, _, rfl, ?_⟩
        by_cases d1 : 1 ≤ r.v
        · refine bT (decide_eq_true d1) ⟨_, rfl, fa, _, 2, _, rfl, rfl, SqT.of (s6 _ _ hfa), rfl, _, _, rfl, rfl, _, rfl, ?_⟩
          by_cases d2 : r.v ≤ p.ports
          · exact bT (decide_eq_true d2) ⟨_, rfl, m, _, rfl, p_stage (s6 _ _ m3), put1 .status _ s6 (stS (me.mpr ⟨d1, d2⟩))⟩
          · refine bF (decide_eq_false d2) ?_
            refine ⟨_, rfl, rfl, _, rfl, ?_⟩
            rw [show decide (V.str (wordS r.w) = V.str "clear") = decide (r.w = 4) from word_dec h8 4 (by decide)]
            exact bF (decide_eq_false (by omega)) (put0 _ s6 (noS fun z => d2 (me.mp z).2))
        · refine bF (decide_eq_false d1) ⟨_, rfl, bF rfl ?_⟩
          refine ⟨_, rfl, rfl, _, rfl, ?_⟩
          rw [show decide (V.str (wordS r.w) = V.str "clear") = decide (r.w = 4) from word_dec h8 4 (by decide)]
          exact bF (decide_eq_false (by omega)) (put0 _ s6 (noS fun z => d1 (me.mp z).1))
      refine bF (decide_eq_false c6) ?_
      have c4 : r.w = 4 := by omega
      refine ⟨_, rfl, rfl, _, rfl, ?_⟩
      rw [show decide (V.str (wordS r.w) = V.str "clear") = decide (r.w = 4) from word_dec h8 4 (by decide)]
      refine bT (decide_eq_true c4) ?_
      have hv := hok.2.1
      have hmx := hok.2.2
      rw [c4] at hmx
      have hmx : r.v ≤ 255 := hmx
      refine ⟨_, rfl, m, _, rfl, g_request (s6 _ _ m3), ra, _, 1, _, rfl, rfl, SqT.of (s6 _ _ hra3), at_of (j := 1) rfl (rq_at1 hp1), r.v, rfl, hv, hmx, fun q H7 s7 g7 => ?_⟩
      have s8 := s6.trans s7
      have hh7 := (f3.and s8).at hh (not1 (Ne.symm nmh))
      refine ⟨_, rfl, m, _, rfl, g_halves (s8 _ _ m3), mh, _, rfl, DGet.t (k := keyK (r.v % 128, decide (128 ≤ r.v))) hh7 g7, _, rfl, ?_⟩
      have me : Mi.Meets p ms.lv r ↔ (r.v % 128, decide (128 ≤ r.v)) ∈ keysL p ms.lv := by
        constructor
        · intro h
          rcases h with h | h | ⟨_, h⟩ | ⟨h, _⟩
          · omega
          · omega
          · exact h
          · omega
        · exact fun h => .inr (.inr (.inl ⟨c4, h⟩))
      rw [hks.is]
      by_cases d : (r.v % 128, decide (128 ≤ r.v)) ∈ keysL p ms.lv
      · exact bT (decide_eq_true d) ⟨_, rfl, m, _, rfl, p_stage (s8 _ _ m3), put1 .status _ s8 (stS (me.mpr d))⟩
      · exact bF (decide_eq_false d) (put0 _ s8 (noS fun z => d (me.mp z)))
end
end Plug
end
section
set_option Elab.async false
set_option linter.all false
set_option maxRecDepth 100000
set_option maxHeartbeats 4000000
namespace Plug
open PySem PySem.Spec PyProof.Rows L2 Mi
theorem dp_pcs {K : PySem.W.Frag} {H : Hp} : ∀ {vs : List V} {ps : List (List Int)}, Paired (TupI H) vs ps → DpAll K H vs (ps.map fun xs => PyData.tuple (xs.map .int))
  | _, _, .nil => .nil
  | _, _, .cons ⟨a, e, h⟩ t => by
    subst e
    exact .cons (dp_ints h) (dp_pcs t)
theorem canLay_pcs : ∀ ps : List (List Int), PyData.canLayAll0 (ps.map fun xs => PyData.tuple (xs.map .int)) = true
  | [] => by simp [PyData.canLayAll0]
  | x :: xs => by
    show PyData.canLayAll0 (.tuple (x.map .int) :: xs.map fun xs => PyData.tuple (xs.map .int)) = true
    rw [PyData.canLayAll0, canLay_pcs xs, PyData.canLay0, canLay_ints]
    rfl
theorem depth_pcs : ∀ ps : List (List Int), PyData.depthAll (ps.map fun xs => PyData.tuple (xs.map .int)) ≤ 1
  | [] => by simp [PyData.depthAll]
  | x :: xs => by
    have h := depth_pcs xs
    show PyData.depthAll (.tuple (x.map .int) :: xs.map fun xs => PyData.tuple (xs.map .int)) ≤ 1
    rw [PyData.depthAll, PyData.depth, PySem.W.depth_ints]
    omega
theorem shaped_pcs (ps : List (List Int)) : SeqAt.shaped (.list (ps.map fun xs => PyData.tuple (xs.map .int))) = true := by
  unfold SeqAt.shaped
  have h := depth_pcs ps
  have e : (PyData.list (ps.map fun xs => PyData.tuple (xs.map .int))).depth ≤ 64 := by
    rw [PyData.depth]
    omega
  rw [decide_eq_true e, PyData.canLay0, canLay_pcs]
  rfl
theorem shaped_nilL : SeqAt.shaped (.list []) = true := shaped_pcs []
theorem eqv_pcs_nil : PyData.eqv (.list (([] : List (List Int)).map fun xs => PyData.tuple (xs.map .int))) (.list []) = true := by simp [PyData.eqv, PyData.eqvAll]
theorem eqv_pcs_cons (x : List Int) (ps : List (List Int)) : PyData.eqv (.list ((x :: ps).map fun xs => PyData.tuple (xs.map .int))) (.list []) = false := by simp [PyData.eqv, PyData.eqvAll]
section
variable {P : Program} {w : World} {K : PySem.W.Frag} {mg : Str → Option Value} {base : Heap} {C : Addr}
/-! ### _law_effect(m) -/
def spEffL : Sp := fun vs H Q _ => ∃ (m fm mh ml : Addr) (s : Ms) (p : Pl) (r : Rq), vs = [.ref m] ∧ MAt p H m fm mh ml s ∧ GoodPl p ∧ s.rq = some r ∧ okRq r ∧ ¬ asksR r ∧ Mi.Meets p s.lv r ∧
  ∀ mh' H', (mh' = mh ∨ H mh' = none) → MAt p H' m fm mh' ml (effS s r) → Fr [m, mh] H H' → Q .non H'
theorem ok_l_effect (T : Txt K w mg C) (D : Dfn K mg "_law_effect" s_l_effect ["_law_m"]) (GK : Cl P w K mg base 1 "_law_key" spKey) : Cl P w K mg base 2 "_law_effect" spEffL := by
  refine cl_of D cs_l_effect (fun vs H Q E h => ?_) (fun f cdv A outer s H vs Q E hr h => ?_)
  · obtain ⟨m, fm, mh, ml, ms, p, r, rfl, _⟩ := h
    rfl
  · obtain ⟨m, fm, mh, ml, ms, p, ⟨rw_, rv⟩, rfl, MA, g, erq, hok, na, me, k⟩ := h
    obtain ⟨nfm, nmh, nml, nhf, nlh, nlf⟩ := MA.apart
    obtain ⟨fa, rq, hm, R⟩ := MA
    have nd := cs_l_effect.nd
    have hu := hu_of hr
    refine ⟨_, (pss_cons (ps_asg (pe_dget hu (pv 0) pe_str (fun _ _ => rfl)) (pg_tup rfl (pgs_cons (pg_name (i := 1) nd rfl (.inl rfl)) (pgs_cons (pg_name (i := 2) nd rfl (.inl rfl)) pgs_nil)))) (pss_cons (ps_if (pt_cmpR op_eq (pv 1) pe_str (nomark _)) (pss_one (ps_dput hu (pv 0) pe_str (pv 2) rfl)) pss_nil) (pss_cons (ps_if (pt_cmpR op_eq (pv 1) pe_str (nomark _)) (pss_cons (ps_dput hu (pv 0) pe_str (pv 2) rfl) (pss_cons (ps_dput hu (pv 0) pe_str pe_dnewT rfl) (pss_one (ps_for PassesOwn.never rfl (pi_tup (pe_op op_rep01 (pe_ix ix_tup (pe_dget hu (pv 0) pe_str (fun _ _ => rfl)) pe_int (fun _ _ => rfl)) (pv 2))) (pg_name (i := 3) nd rfl (.inl rfl)) (pss_one (ps_dput hu (pe_dget hu (pv 0) pe_str (fun _ _ => rfl)) (pe_slice sl_tupU (pv 3) po_none (po_some pe_int)) (pe_ifExp (pt_cmpR op_eq (pe_ix ix_tup (pv 3) pe_int (fun _ _ => rfl)) pe_str (nomark _)) (pe_tup (pa_cons pe_int (pa_cons pe_bl (pa_cons (pe_tup pa_nil) pa_nil)))) (pe_tup (pa_cons pe_int (pa_cons pe_bl (pa_cons pe_int (pa_cons (pe_tup pa_nil) pa_nil)))))) rfl)))))) pss_nil) (pss_one (ps_if (pt_cmpR op_eq (pv 1) pe_str (nomark _)) (pss_cons (ps_set (i := 4) nd rfl (.inl rfl) (pe_dget hu (pe_dget hu (pv 0) pe_str (fun _ _ => rfl)) (pe_cl GK hr (by decide) rfl (pa_cons (pv 2) pa_nil)) (fun _ _ => rfl))) (pss_one (ps_dput hu (pe_dget hu (pv 0) pe_str (fun _ _ => rfl)) (pe_cl GK hr (by decide) rfl (pa_cons (pv 2) pa_nil)) (pe_ifExp (pt_cmpR op_eq (pe_callB call_len_seq (by rfl) T.len PySem.boot_len (pa_cons (pv 4) pa_nil)) pe_int (nomark _)) (pe_tup (pa_cons pe_int (pa_cons pe_bl (pa_cons (pe_tup pa_nil) pa_nil)))) (pe_op op_catU (pe_tup (pa_cons pe_int (pa_cons pe_bl pa_nil))) (pe_slice sl_tupU (pv 4) (po_some pe_int) po_none))) rfl))) pss_nil))))), ?_⟩
    have h8 : rw_ < 8 := hok.1
    have cs : rw_ = 2 ∨ rw_ = 3 ∨ rw_ = 4 ∨ rw_ = 6 ∨ rw_ = 7 := by
      have : ¬ (rw_ = 0 ∨ rw_ = 1 ∨ rw_ = 5) := na
      omega
    have hrq := R.req
    rw [erq] at hrq
    obtain ⟨ra, rfl, hra⟩ := hrq
    have hq : H ra = some (.tup [V.str (wordS rw_), .int rv]) := by
      have e : rqV ⟨rw_, rv⟩ = [V.str (wordS rw_), .int rv] := if_neg (show ¬ rw_ < 2 by omega)
      rw [← e]; exact hra
    obtain ⟨kvs, hh, hks⟩ := R.halves
    have m1 : m ∈ [m, mh] := by simp
    have m2 : mh ∈ [m, mh] := by simp
    have ml1 : m ∈ [m] := List.mem_singleton.mpr rfl
    refine ⟨_, rfl, m, _, rfl, g_request hm, ra, _, rfl, SqT.of hq, rfl, _, _, rfl, _, _, rfl, rfl, ?_⟩
    rcases cs with rfl | rfl | rfl | rfl | rfl
    · refine ⟨_, rfl, rfl, _, rfl, bT (by decide +kernel) ?_⟩
      refine ⟨_, rfl, _, rfl, m, _, rfl, p_number hm, ?_⟩
      refine ⟨_, rfl, rfl, _, rfl, bF (by decide +kernel) ?_⟩
      refine ⟨_, rfl, rfl, _, rfl, bF (by decide +kernel) ?_⟩
      have f1 : Fr [m] H (upd H m (.dK (mF fa fm (sgS ms.sg) ms.mark ml (.ref ra) rv ms.lv mh))) := Fr.put ml1 hm dK_nt
      have R1 := R.fr f1 (not1 (Ne.symm nfm)) (not1 (Ne.symm nml)) (not1 (Ne.symm nmh))
      exact k mh _ (.inl rfl) ⟨fa, .ref ra, upd_same, ⟨R1.plan, R1.forms, R1.halves, R1.pieces, R1.req, R1.apart⟩⟩ (Fr.put m1 hm dK_nt)
    · refine ⟨_, rfl, rfl, _, rfl, bF (by decide +kernel) ?_⟩
      refine ⟨_, rfl, rfl, _, rfl, bT (by decide +kernel) ?_⟩
      have hlv : rv = 0 ∨ rv = 1 := by
        have h1 : 0 ≤ rv := hok.2.1
        have h2 : rv ≤ 1 := hok.2.2
        omega
      refine ⟨_, rfl, _, rfl, m, _, rfl, p_level hm, ?_⟩
      have f1 : Fr [m] H (upd H m (.dK (mF fa fm (sgS ms.sg) ms.mark ml (.ref ra) ms.num rv mh))) := Fr.put ml1 hm dK_nt
      have h1 : (upd H m (.dK (mF fa fm (sgS ms.sg) ms.mark ml (.ref ra) ms.num rv mh))) m = _ := upd_same
      revert f1 h1
      generalize upd H m (.dK (mF fa fm (sgS ms.sg) ms.mark ml (.ref ra) ms.num rv mh)) = H1
      intro f1 h1 q hq1
      have nq : q ≠ m := fun z => by rw [z, h1] at hq1; cases hq1
      have q0 : H q = none := f1.none hq1 (not1 nq)
      refine ⟨_, rfl, m, _, rfl, p_halves (Same.new hq1 _ _ h1), ?_⟩
      have f3 : Fr [m] H (upd (upd H1 q (.dT [])) m (.dK (mF fa fm (sgS ms.sg) ms.mark ml (.ref ra) ms.num rv q))) := (f1.new hq1).puts ml1 (Same.new hq1 _ _ h1) dK_nt
      have h3 : (upd (upd H1 q (.dT [])) m (.dK (mF fa fm (sgS ms.sg) ms.mark ml (.ref ra) ms.num rv q))) m = _ := upd_same
      have d3 : (upd (upd H1 q (.dT [])) m (.dK (mF fa fm (sgS ms.sg) ms.mark ml (.ref ra) ms.num rv q))) q = some (.dT []) := by rw [upd_ne nq]; exact upd_same
      revert f3 h3 d3
      generalize upd (upd H1 q _) m (.dK (mF fa fm (sgS ms.sg) ms.mark ml (.ref ra) ms.num rv q)) = H3
      intro f3 h3 d3
      obtain ⟨e, ws, ha, he, hw⟩ := R.plan
      have hl : ws.length = p.ends.length := Paired.length hw
      have few := g.few
      refine ⟨_, rfl, m, _, rfl, g_plan h3, fa, _, 3, _, rfl, rfl, SqT.of (f3.kt _ _ ha), rfl, _, rfl, e, rv, ws, rfl, rfl, f3.kt _ _ he, hlv, fun c4 H4 s4 g4 => ?_⟩
      -- the end of the walk
      have fin : ∀ (H5 : Hp) (kv5 : List (List Key × V)), Fr [m] H H5 → H5 m = some (.dK (mF fa fm (sgS ms.sg) ms.mark ml (.ref ra) ms.num rv q)) → H5 q = some (.dT kv5) → HalvesAt H5 kv5 (keysL p rv) → Q .non H5 := fun H5 kv5 f5 h5 d5 hk5 => by
        have R5 := R.fr f5 (not1 (Ne.symm nfm)) (not1 (Ne.symm nml)) (not1 (Ne.symm nmh))
        have nqf : q ≠ fm := by
          obtain ⟨kf, hf, _⟩ := R.forms
          exact fun z => by rw [z, hf] at q0; cases q0
        exact k q H5 (.inr q0) ⟨fa, .ref ra, h5, ⟨R5.plan, R5.forms, ⟨kv5, d5, hk5⟩, R5.pieces, R5.req, nqf⟩⟩ (f5.mono fun b hb => by rw [List.mem_singleton.mp hb]; exact m1)
      rcases hlv with rfl | rfl
      · rw [if_neg (by decide)] at g4
        refine ⟨c4, rfl, ⟨[], SqT.of g4⟩, for_tup (K := K) (a := c4) (xs := []) (fun i σ H5 => (∃ v3 v4 : Option V, σ = [some (.ref m), some (.str "set"), some (.int 0), v3, v4]) ∧ Fr [m] H H5 ∧ H5 m = some (.dK (mF fa fm (sgS ms.sg) ms.mark ml (.ref ra) ms.num 0 q)) ∧ H5 q = some (.dT []) ∧ H5 c4 = some (.tup []))
          ⟨⟨none, none, rfl⟩, f3.and s4, s4 _ _ h3, s4 _ _ d3, g4⟩ (fun i σ H5 _ ⟨_, _, _, _, g5⟩ => SqT.of g5) (fun i x σ H5 hx => by simp at hx) ?_⟩
        rintro σ H5 ⟨⟨v3, v4, rfl⟩, f5, h5, d5, _⟩
        refine ⟨_, rfl, rfl, _, rfl, bF (by decide +kernel) ?_⟩
        exact fin H5 [] f5 h5 d5 (by rw [keysL0]; exact .nil)
      · rw [if_pos rfl] at g4
        refine ⟨c4, rfl, ⟨ws, SqT.of g4⟩, for_tup (K := K) (a := c4) (xs := ws) (fun i σ H5 => (∃ v3 v4 : Option V, σ = [some (.ref m), some (.str "set"), some (.int 1), v3, v4]) ∧ Fr [m] H H5 ∧ H5 m = some (.dK (mF fa fm (sgS ms.sg) ms.mark ml (.ref ra) ms.num 1 q)) ∧ (∃ kv5, H5 q = some (.dT kv5) ∧ HalvesAt H5 kv5 ((p.ends.take i).map keyE)) ∧ H5 c4 = some (.tup ws))
          ⟨⟨none, none, rfl⟩, f3.and s4, s4 _ _ h3, ⟨[], s4 _ _ d3, .nil⟩, g4⟩ (fun i σ H5 _ ⟨_, _, _, _, g5⟩ => SqT.of g5) ?_ ?_⟩
        · rintro i z σ H5 hz ⟨⟨v3, v4, rfl⟩, f5, h5, ⟨kv5, d5, k5⟩, g5⟩
          obtain ⟨en, hen, b, rfl, hb⟩ := pat hw hz
          have hb5 := f5.kt _ _ hb
          refine ⟨_, rfl, b, _, 1, _, rfl, rfl, SqT.of hb5, rfl, rfl, _, rfl, ?_⟩
          rw [way_dec]
          have hz6 : kv5.length < sizeLine := by
            rw [k5.len, List.length_map, List.length_take]
            exact Nat.lt_of_le_of_lt (show min i p.ends.length ≤ 10 by omega) (by decide)
          by_cases hin : en.inn = true
          · refine bT hin ⟨(by show 0 ≤ sizeLine; decide), fun t6 ht6 => ⟨(by show 3 ≤ sizeLine; decide), fun p6 hp6 => ?_⟩⟩
            have s6 := (Same.new (o := HO.tup []) ht6).trans (Same.new (o := HO.tup [V.int 0, .bl false, .ref t6]) hp6)
            have hv6 : HalfAt (upd (upd H5 t6 (.tup [])) p6 (.tup [V.int 0, .bl false, .ref t6])) (.ref p6) en.inn := by rw [hin]; exact ⟨p6, t6, rfl, Same.new hp6 _ _ upd_same, upd_same⟩
            refine ⟨_, rfl, m, _, rfl, g_halves (s6 _ _ h5), _, rfl, 2, rfl, b, _, rfl, s6 _ _ hb5, fun y7 H7 s7 g7 => ?_⟩
            have s8 := s6.trans s7
            refine ⟨q, _, rfl, DPut.t (k := keyK (keyE en)) (s8 _ _ d5) g7 hz6, ?_⟩
            have k8 := kt_put (o' := .dT (putK kv5 (keyK (keyE en)) (.ref p6))) (s8 _ _ d5) dT_nt
            refine ⟨⟨_, _, rfl⟩, (f5.and s8).fresh q0, ?_, ⟨_, upd_same, ?_⟩, k8 _ _ (s8 _ _ g5)⟩
            · rw [upd_ne (Ne.symm nq)]; exact s8 _ _ h5
            · rw [take_key hen]
              exact ((k5.kt (Same.kt s8)).kt k8).snoc ((hv6.kt (Same.kt s7)).kt k8) (new_key g hen)
          · have hin : en.inn = false := by simpa using hin
            refine bF hin ⟨(by show 0 ≤ sizeLine; decide), fun t6 ht6 => ⟨(by show 4 ≤ sizeLine; decide), fun p6 hp6 => ?_⟩⟩
            have s6 := (Same.new (o := HO.tup []) ht6).trans (Same.new (o := HO.tup [V.int 0, .bl false, .int 0, .ref t6]) hp6)
            have hv6 : HalfAt (upd (upd H5 t6 (.tup [])) p6 (.tup [V.int 0, .bl false, .int 0, .ref t6])) (.ref p6) en.inn := by rw [hin]; exact ⟨p6, t6, rfl, Same.new hp6 _ _ upd_same, upd_same⟩
            refine ⟨_, rfl, m, _, rfl, g_halves (s6 _ _ h5), _, rfl, 2, rfl, b, _, rfl, s6 _ _ hb5, fun y7 H7 s7 g7 => ?_⟩
            have s8 := s6.trans s7
            refine ⟨q, _, rfl, DPut.t (k := keyK (keyE en)) (s8 _ _ d5) g7 hz6, ?_⟩
            have k8 := kt_put (o' := .dT (putK kv5 (keyK (keyE en)) (.ref p6))) (s8 _ _ d5) dT_nt
            refine ⟨⟨_, _, rfl⟩, (f5.and s8).fresh q0, ?_, ⟨_, upd_same, ?_⟩, k8 _ _ (s8 _ _ g5)⟩
            · rw [upd_ne (Ne.symm nq)]; exact s8 _ _ h5
            · rw [take_key hen]
              exact ((k5.kt (Same.kt s8)).kt k8).snoc ((hv6.kt (Same.kt s7)).kt k8) (new_key g hen)
        · rintro σ H5 ⟨⟨v3, v4, rfl⟩, f5, h5, ⟨kv5, d5, k5⟩, _⟩
          rw [hl, List.take_length] at k5
          refine ⟨_, rfl, rfl, _, rfl, bF (by decide +kernel) ?_⟩
          exact fin H5 kv5 f5 h5 d5 (by rw [keysL1]; exact k5)
    · refine ⟨_, rfl, rfl, _, rfl, bF (by decide +kernel) ?_⟩
      refine ⟨_, rfl, rfl, _, rfl, bF (by decide +kernel) ?_⟩
      refine ⟨_, rfl, rfl, _, rfl, bT (by decide +kernel) ?_⟩
      have hmem : (rv % 128, decide (128 ≤ rv)) ∈ keysL p ms.lv := by
        rcases me with h | h | ⟨_, h⟩ | ⟨h, _⟩
        · cases h
        · cases h
        · exact h
        · rcases h with h | h <;> cases h
      obtain ⟨hv, ehv, hhv⟩ := hks.get hmem
      refine ⟨_, rfl, m, _, rfl, g_halves hm, _, rfl, rv, rfl, hok.2.1, hok.2.2, fun q H1 s1 g1 => ?_⟩
      refine ⟨mh, hv, rfl, ?_, ?_⟩
      · rw [← ehv]
        exact DGet.t (k := keyK (rv % 128, decide (128 ≤ rv))) (s1 _ _ hh) g1
      obtain ⟨ha, he, rfl, hhe, hha⟩ := hhv
      refine ⟨_, rfl, ha, _, rfl, .inr (SqT.of (s1 _ _ hha)), rfl, _, rfl, ?_⟩
      have hz : kvs.length < sizeLine := by
        rw [hks.len]
        exact Nat.lt_of_le_of_lt (Nat.le_trans (keysL_len g ms.lv) (show 4 ≤ 10 by decide)) (by decide)
      -- the store at the end
      have fin : ∀ (v : V) (q4 : Addr) (H3 H4 : Hp), Same H1 H3 → HalfAt H3 v (decide (128 ≤ rv)) → Same H3 H4 → Q .non (upd H4 mh (.dT (putK kvs (keyK (rv % 128, decide (128 ≤ rv))) v))) := fun v q4 H3 H4 s3 hv3 s4 => by
        have s5 := (s1.trans s3).trans s4
        have f5 : Fr [m, mh] H (upd H4 mh (.dT (putK kvs (keyK (rv % 128, decide (128 ≤ rv))) v))) := (Fr.of s5).puts m2 (s5 _ _ hh) dT_nt
        have f5' : Fr [mh] H (upd H4 mh (.dT (putK kvs (keyK (rv % 128, decide (128 ≤ rv))) v))) := (Fr.of s5).puts (List.mem_singleton.mpr rfl) (s5 _ _ hh) dT_nt
        have k5 : KT0 H4 (upd H4 mh (.dT (putK kvs (keyK (rv % 128, decide (128 ≤ rv))) v))) := kt_put (s5 _ _ hh) dT_nt
        exact k mh _ (.inl rfl) ⟨fa, .ref ra, f5'.at hm (not1 nmh), ⟨R.plan.kt f5.kt, R.forms.fr f5' (not1 (Ne.symm nhf)), ⟨_, upd_same, ((hks.kt (Same.kt s5)).kt k5).put ((hv3.kt (Same.kt s4)).kt k5) hmem⟩, R.pieces.fr f5' (not1 nlh), R.req.kt f5.kt, nhf⟩⟩ f5
      by_cases hin : decide (128 ≤ rv) = true
      · have e3 : decide (V.int ((halfV (decide (128 ≤ rv)) he).length : Int) = V.int 3) = true := by rw [hin]; rfl
        refine bT e3 ⟨(by show 0 ≤ sizeLine; decide), fun t2 ht2 => ⟨(by show 3 ≤ sizeLine; decide), fun p2 hp2 => ?_⟩⟩
        have s2 := (Same.new (o := HO.tup []) ht2).trans (Same.new (o := HO.tup [V.int 0, .bl false, .ref t2]) hp2)
        refine ⟨_, rfl, m, _, rfl, g_halves ((s1.trans s2) _ _ hm), _, rfl, rv, rfl, hok.2.1, hok.2.2, fun q4 H4 s4 g4 => ⟨mh, _, rfl, DPut.t (k := keyK (rv % 128, decide (128 ≤ rv))) (((s1.trans s2).trans s4) _ _ hh) g4 hz, ?_⟩⟩
        exact fin (.ref p2) q4 _ H4 s2 (by rw [hin]; exact ⟨p2, t2, rfl, Same.new hp2 _ _ upd_same, upd_same⟩) s4
      · have hin : decide (128 ≤ rv) = false := by simpa using hin
        have e3 : decide (V.int ((halfV (decide (128 ≤ rv)) he).length : Int) = V.int 3) = false := by rw [hin]; rfl
        refine bF e3 ⟨(by show 2 ≤ sizeLine; decide), fun t2 ht2 => ?_⟩
        have s2 := Same.new (o := HO.tup [V.int 0, .bl false]) ht2
        have hha2 : H ha = some (.tup [V.int 0, .bl false, .int 0, .ref he]) := by
          have : H ha = some (.tup (halfV (decide (128 ≤ rv)) he)) := hha
          rw [hin] at this
          exact this
        refine ⟨_, rfl, 2, rfl, ha, _, rfl, s2 _ _ (s1 _ _ hha2), fun b3 H3 s3 g3 => ?_⟩
        refine ⟨t2, b3, _, _, rfl, rfl, s3 _ _ upd_same, g3, (by show 2 + 2 ≤ sizeLine; decide), fun c5 H5 s5 g5 => ?_⟩
        have s6 := (s2.trans s3).trans s5
        refine ⟨_, rfl, m, _, rfl, g_halves ((s1.trans s6) _ _ hm), _, rfl, rv, rfl, hok.2.1, hok.2.2, fun q4 H4 s4 g4 => ⟨mh, _, rfl, DPut.t (k := keyK (rv % 128, decide (128 ≤ rv))) (((s1.trans s6).trans s4) _ _ hh) g4 hz, ?_⟩⟩
        exact fin (.ref c5) q4 H5 H4 s6 (by rw [hin]; exact ⟨c5, he, rfl, (s1.trans s6) _ _ hhe, g5⟩) s4
    · refine ⟨_, rfl, rfl, _, rfl, bF (by decide +kernel) ?_⟩
      refine ⟨_, rfl, rfl, _, rfl, bF (by decide +kernel) ?_⟩
      refine ⟨_, rfl, rfl, _, rfl, bF (by decide +kernel) ?_⟩
      exact k mh H (.inl rfl) ⟨fa, .ref ra, hm, ⟨R.plan, R.forms, R.halves, R.pieces, R.req, R.apart⟩⟩ (Fr.refl _ _)
    · refine ⟨_, rfl, rfl, _, rfl, bF (by decide +kernel) ?_⟩
      refine ⟨_, rfl, rfl, _, rfl, bF (by decide +kernel) ?_⟩
      refine ⟨_, rfl, rfl, _, rfl, bF (by decide +kernel) ?_⟩
      exact k mh H (.inl rfl) ⟨fa, .ref ra, hm, ⟨R.plan, R.forms, R.halves, R.pieces, R.req, R.apart⟩⟩ (Fr.refl _ _)
end
end Plug
end
section
set_option Elab.async false
set_option linter.all false
set_option maxRecDepth 100000
set_option maxHeartbeats 4000000
namespace Plug
open PySem PySem.Spec PyProof.Rows L2 Mi
section
variable {P : Program} {w : World} {K : PySem.W.Frag} {mg : Str → Option Value} {base : Heap} {C : Addr}
theorem cutL_one (x : V) (xs : List V) : cutV (x :: xs) (some 1) none = xs := cutV_one x xs
/-! ### _law_in(m) -/
def spInL : Sp := fun vs H Q _ => ∃ (m fm mh ml : Addr) (s : Ms) (p : Pl), vs = [.ref m] ∧ MAt p H m fm mh ml s ∧ GoodPl p ∧ Wf p s ∧
  ∀ v mh' H', (mh' = mh ∨ H mh' = none) → MAt p H' m fm mh' ml (inS s).2 → AnsAt H' v (inS s).1 → Fr [m, mh] H H' → Q v H'
theorem ok_l_in (T : Txt K w mg C) (D : Dfn K mg "_law_in" s_l_in ["_law_m"]) (GE : Cl P w K mg base 2 "_law_effect" spEffL) : Cl P w K mg base 3 "_law_in" spInL := by
  refine cl_of D cs_l_in (fun vs H Q E h => ?_) (fun f cdv A outer s H vs Q E hr h => ?_)
  · obtain ⟨m, fm, mh, ml, ms, p, rfl, _⟩ := h
    rfl
  · obtain ⟨m, fm, mh, ml, ⟨sg, mk, pcs, mrq, num, lv⟩, p, rfl, MA, g, wf, k⟩ := h
    obtain ⟨nfm, nmh, nml, nhf, nlh, nlf⟩ := MA.apart
    obtain ⟨fa, rq, hm, R⟩ := MA
    have nd := cs_l_in.nd
    have hu := hu_of hr
    have h64 : _ + 64 < cLine := hr.units
    refine ⟨_, (pss_cons (ps_if (pt_cmpR op_eq (pe_dget hu (pv 0) pe_str (fun _ _ => rfl)) pe_str (nomark _)) (pss_one (ps_ret (pe_tup (pa_cons pe_str pa_nil)))) pss_nil) (pss_cons (ps_if (PW.pt (pw_and (pt_cmpR op_eq (pe_dget hu (pv 0) pe_str (fun _ _ => rfl)) pe_str (nomark _)) (pw_and1 (pt_cmpR (op_neD h64) (pe_dget hu (pv 0) pe_str (fun _ _ => rfl)) (pe_lst pa_nil) (nomark _))))) (pss_one (ps_ret (pe_tup (pa_cons pe_str (pa_cons (pe_dget hu (pv 0) pe_str (fun _ _ => rfl)) (pa_cons (pe_ix ix_list (pe_dget hu (pv 0) pe_str (fun _ _ => rfl)) pe_int (fun _ _ => rfl)) pa_nil)))))) pss_nil) (pss_cons (ps_if (PW.pt (pw_and (pt_cmpR op_eq (pe_dget hu (pv 0) pe_str (fun _ _ => rfl)) pe_str (nomark _)) (pw_and1 (pt_cmpR op_ne (pe_ix ix_tup (pe_dget hu (pv 0) pe_str (fun _ _ => rfl)) pe_int (fun _ _ => rfl)) pe_str (nomark _))))) (pss_cons (ps_expr (pe_cl GE hr (by decide) rfl (pa_cons (pv 0) pa_nil))) (pss_one (ps_dput hu (pv 0) pe_str pe_str rfl))) pss_nil) (pss_one (ps_ret (pe_ifExp (pt_cmpR op_in_seq (pe_dget hu (pv 0) pe_str (fun _ _ => rfl)) (pe_tup (pa_cons pe_str (pa_cons pe_str pa_nil))) (by rfl)) (pe_tup (pa_cons pe_str (pa_cons pe_int (pa_cons (pe_tup pa_nil) pa_nil)))) (pe_tup (pa_cons pe_str pa_nil)))))))), ?_⟩
    obtain ⟨kvs, hh, hks⟩ := R.halves
    obtain ⟨vs, hpc, hvs⟩ := R.pieces
    have m1 : m ∈ [m, mh] := by simp
    have ml1 : m ∈ [m] := List.mem_singleton.mpr rfl
    have MA0 : ∀ H', Same H H' → MAt p H' m fm mh ml ⟨sg, mk, pcs, mrq, num, lv⟩ := fun H' s' => MAt.same ⟨fa, rq, hm, R⟩ s'
    cases sg with
    | stalled =>
      replace hm : H m = some (.dK (mF fa fm (sgS .stalled) mk ml rq num lv mh)) := hm
      refine ⟨_, rfl, m, _, rfl, g_stage hm, rfl, _, rfl, bT (by decide +kernel) ?_⟩
      exact ⟨(by show 1 ≤ sizeLine; decide), fun t ht => k _ mh _ (.inl rfl) (MA0 _ (Same.new ht)) ⟨t, rfl, upd_same⟩ (Fr.of (Same.new ht))⟩
    | idle =>
      replace hm : H m = some (.dK (mF fa fm (sgS .idle) mk ml rq num lv mh)) := hm
      refine ⟨_, rfl, m, _, rfl, g_stage hm, rfl, _, rfl, bF (by decide +kernel) ?_⟩
      refine ⟨_, rfl, m, _, rfl, g_stage hm, rfl, _, rfl, bF (by decide +kernel) ?_⟩
      refine ⟨_, rfl, m, _, rfl, g_stage hm, rfl, _, rfl, bF (by decide +kernel) ?_⟩
      refine ⟨_, rfl, m, _, rfl, g_stage hm, (by show 2 ≤ sizeLine; decide), fun t ht => ⟨t, _, rfl, .inr (SqT.of upd_same), rfl, rfl, _, rfl, bF (by decide +kernel) ?_⟩⟩
      refine ⟨(by show 1 ≤ sizeLine; decide), fun t2 ht2 => ?_⟩
      have s2 := (Same.new (o := HO.tup [V.str "status", V.str "stated"]) ht).trans (Same.new (o := HO.tup [V.str "nak"]) ht2)
      exact k _ mh _ (.inl rfl) (MA0 _ s2) ⟨t2, rfl, upd_same⟩ (Fr.of s2)
    | give =>
      replace hm : H m = some (.dK (mF fa fm (sgS .give) mk ml rq num lv mh)) := hm
      refine ⟨_, rfl, m, _, rfl, g_stage hm, rfl, _, rfl, bF (by decide +kernel) ?_⟩
      refine ⟨_, rfl, m, _, rfl, g_stage hm, rfl, _, rfl, bT (by decide +kernel) ?_⟩
      refine ⟨_, rfl, m, _, rfl, g_pieces hm, (by show 0 ≤ sizeLine; decide), fun l0 hl0 => ⟨_, _, .lst (SqL.of (Same.new hl0 _ _ hpc)) (dp_pcs (Paired.mapP hvs fun _ _ z => z.kt (Same.kt (Same.new hl0)))), .lst (SqL.of upd_same) .nil, shaped_pcs _, shaped_nilL, _, rfl, ?_⟩⟩
      have s0 := Same.new (o := HO.lst []) hl0
      cases hvs with
      | nil =>
        refine bF (by rw [eqv_pcs_nil]; rfl) ?_
        refine ⟨_, rfl, m, _, rfl, g_stage (s0 _ _ hm), rfl, _, rfl, bF (by decide +kernel) ?_⟩
        refine ⟨_, rfl, m, _, rfl, g_stage (s0 _ _ hm), (by show 2 ≤ sizeLine; decide), fun t ht => ⟨t, _, rfl, .inr (SqT.of upd_same), rfl, rfl, _, rfl, bF (by decide +kernel) ?_⟩⟩
        refine ⟨(by show 1 ≤ sizeLine; decide), fun t2 ht2 => ?_⟩
        have s2 := (s0.trans (Same.new (o := HO.tup [V.str "status", V.str "stated"]) ht)).trans (Same.new (o := HO.tup [V.str "nak"]) ht2)
        exact k _ mh _ (.inl rfl) (MA0 _ s2) ⟨t2, rfl, upd_same⟩ (Fr.of s2)
      | @cons v0 xs0 vt pt hv0 ht0 =>
        refine bT (by rw [eqv_pcs_cons]; rfl) ?_
        obtain ⟨b, rfl, hb⟩ := hv0
        refine ⟨_, rfl, m, _, rfl, g_mark (s0 _ _ hm), _, rfl, m, _, rfl, g_pieces (s0 _ _ hm), ml, _, 0, _, rfl, rfl, SqL.of (s0 _ _ hpc), at_of (j := 0) rfl rfl, (by show 3 ≤ sizeLine; decide), fun t ht => ?_⟩
        have s1 := s0.trans (Same.new (o := HO.tup [V.str "data", .int mk, .ref b]) ht)
        exact k _ mh _ (.inl rfl) (MA0 _ s1) ⟨t, b, rfl, upd_same, s1 _ _ hb⟩ (Fr.of s1)
    | stated =>
      replace hm : H m = some (.dK (mF fa fm (sgS .stated) mk ml rq num lv mh)) := hm
      refine ⟨_, rfl, m, _, rfl, g_stage hm, rfl, _, rfl, bF (by decide +kernel) ?_⟩
      refine ⟨_, rfl, m, _, rfl, g_stage hm, rfl, _, rfl, bF (by decide +kernel) ?_⟩
      refine ⟨_, rfl, m, _, rfl, g_stage hm, rfl, _, rfl, bF (by decide +kernel) ?_⟩
      refine ⟨_, rfl, m, _, rfl, g_stage hm, (by show 2 ≤ sizeLine; decide), fun t ht => ⟨t, _, rfl, .inr (SqT.of upd_same), rfl, rfl, _, rfl, bT (by decide +kernel) ?_⟩⟩
      refine ⟨(by show 0 ≤ sizeLine; decide), fun t1 ht1 => ⟨(by show 3 ≤ sizeLine; decide), fun t2 ht2 => ?_⟩⟩
      have s2 := ((Same.new (o := HO.tup [V.str "status", V.str "stated"]) ht).trans (Same.new (o := HO.tup []) ht1)).trans (Same.new (o := HO.tup [V.str "data", .int 1, .ref t1]) ht2)
      exact k _ mh _ (.inl rfl) (MA0 _ s2) ⟨t2, t1, rfl, upd_same, Same.new ht2 _ _ upd_same⟩ (Fr.of s2)
    | status =>
      obtain ⟨r, er, hok, na, me⟩ := wf.st rfl
      have er : mrq = some r := er
      subst er
      have hrq := R.req
      obtain ⟨ra, rfl, hra⟩ := (show ReqAt H rq r from hrq)
      replace hm : H m = some (.dK (mF fa fm (sgS .status) mk ml (.ref ra) num lv mh)) := hm
      have h8 := hok.1
      refine ⟨_, rfl, m, _, rfl, g_stage hm, rfl, _, rfl, bF (by decide +kernel) ?_⟩
      refine ⟨_, rfl, m, _, rfl, g_stage hm, rfl, _, rfl, bF (by decide +kernel) ?_⟩
      refine ⟨_, rfl, m, _, rfl, g_stage hm, rfl, _, rfl, bT (by decide +kernel) ?_⟩
      refine ⟨_, rfl, m, _, rfl, g_request hm, ra, _, 0, _, rfl, rfl, SqT.of hra, at_of (j := 0) rfl (rq_at0 r), rfl, _, rfl, ?_⟩
      rw [show (!decide (V.str (wordS r.w) = V.str "number")) = !decide (r.w = 2) from congrArg not (word_dec h8 2 (by decide))]
      by_cases c : r.w = 2
      · refine bF (by rw [decide_eq_true c]; rfl) ?_
        refine ⟨_, rfl, m, _, rfl, g_stage hm, (by show 2 ≤ sizeLine; decide), fun t ht => ⟨t, _, rfl, .inr (SqT.of upd_same), rfl, rfl, _, rfl, bT (by decide +kernel) ?_⟩⟩
        have ei : inS ⟨.status, mk, pcs, some r, num, lv⟩ = (.data 1 [], ⟨.status, mk, pcs, some r, num, lv⟩) := by
          unfold inS
          simp only [if_pos c]
        rw [ei] at k
        refine ⟨(by show 0 ≤ sizeLine; decide), fun t1 ht1 => ⟨(by show 3 ≤ sizeLine; decide), fun t2 ht2 => ?_⟩⟩
        have s2 := ((Same.new (o := HO.tup [V.str "status", V.str "stated"]) ht).trans (Same.new (o := HO.tup []) ht1)).trans (Same.new (o := HO.tup [V.str "data", .int 1, .ref t1]) ht2)
        exact k _ mh _ (.inl rfl) (MA0 _ s2) ⟨t2, t1, rfl, upd_same, Same.new ht2 _ _ upd_same⟩ (Fr.of s2)
      · refine bT (by rw [decide_eq_false c]; rfl) ?_
        refine ⟨_, rfl, m, fm, mh, ml, ⟨.status, mk, pcs, some r, num, lv⟩, p, r, rfl, ⟨fa, .ref ra, hm, R⟩, g, rfl, hok, na, me, fun mh' H1 hd1 MA1 f1 => ?_⟩
        obtain ⟨a1, a2, a3, a4, a5, a6⟩ := MA1.apart
        obtain ⟨fa1, rq1, hm1, R1⟩ := MA1
        replace hm1 : H1 m = some (.dK (mF fa1 fm (sgS .status) mk ml rq1 (effS ⟨.status, mk, pcs, some r, num, lv⟩ r).num (effS ⟨.status, mk, pcs, some r, num, lv⟩ r).lv mh')) := hm1
        refine ⟨_, rfl, m, _, rfl, p_stage hm1, ?_⟩
        have f2 : Fr [m] H1 (upd H1 m (.dK (mF fa1 fm "stated" mk ml rq1 (effS ⟨.status, mk, pcs, some r, num, lv⟩ r).num (effS ⟨.status, mk, pcs, some r, num, lv⟩ r).lv mh'))) := Fr.put ml1 hm1 dK_nt
        have R2 := R1.fr f2 (not1 (Ne.symm a1)) (not1 (Ne.symm a3)) (not1 (Ne.symm a2))
        have MA2 : MAt p (upd H1 m (.dK (mF fa1 fm "stated" mk ml rq1 (effS ⟨.status, mk, pcs, some r, num, lv⟩ r).num (effS ⟨.status, mk, pcs, some r, num, lv⟩ r).lv mh'))) m fm mh' ml (effS ⟨.stated, mk, pcs, some r, num, lv⟩ r) := ⟨fa1, rq1, upd_same, ⟨R2.plan, R2.forms, R2.halves, R2.pieces, R2.req, R2.apart⟩⟩
        have m2 : (upd H1 m (.dK (mF fa1 fm "stated" mk ml rq1 (effS ⟨.status, mk, pcs, some r, num, lv⟩ r).num (effS ⟨.status, mk, pcs, some r, num, lv⟩ r).lv mh'))) m = _ := upd_same
        have f3 := f1.trans (f2.mono fun b hb => by rw [List.mem_singleton.mp hb]; exact m1)
        revert f2 MA2 m2 f3
        clear R2
        show Fr [m] H1 (upd H1 m (.dK (mF fa1 fm "stated" mk ml rq1 (effS ⟨.status, mk, pcs, some r, num, lv⟩ r).num (effS ⟨.status, mk, pcs, some r, num, lv⟩ r).lv mh'))) → _
        generalize upd H1 m (.dK (mF fa1 fm "stated" mk ml rq1 (effS ⟨.status, mk, pcs, some r, num, lv⟩ r).num (effS ⟨.status, mk, pcs, some r, num, lv⟩ r).lv mh')) = H2
        intro f2 MA2 m2 f3
        refine ⟨_, rfl, m, _, rfl, g_stage m2, (by show 2 ≤ sizeLine; decide), fun t ht => ⟨t, _, rfl, .inr (SqT.of upd_same), rfl, rfl, _, rfl, bT (by decide +kernel) ?_⟩⟩
        have ei : inS ⟨.status, mk, pcs, some r, num, lv⟩ = (.data 1 [], effS ⟨.stated, mk, pcs, some r, num, lv⟩ r) := by
          unfold inS
          simp only [if_neg c]
          rfl
        rw [ei] at k
        refine ⟨(by show 0 ≤ sizeLine; decide), fun t1 ht1 => ⟨(by show 3 ≤ sizeLine; decide), fun t2 ht2 => ?_⟩⟩
        have s2 := ((Same.new (o := HO.tup [V.str "status", V.str "stated"]) ht).trans (Same.new (o := HO.tup []) ht1)).trans (Same.new (o := HO.tup [V.str "data", .int 1, .ref t1]) ht2)
        exact k _ mh' _ hd1 (MA2.same s2) ⟨t2, t1, rfl, upd_same, Same.new ht2 _ _ upd_same⟩ (f3.and s2)
/-! ### _law_went(m) -/
def spWentL : Sp := fun vs H Q _ => ∃ (m fm mh ml : Addr) (s : Ms) (p : Pl), vs = [.ref m] ∧ MAt p H m fm mh ml s ∧ GoodPl p ∧ Wf p s ∧
  ∀ mh' ml' H', (mh' = mh ∨ H mh' = none) → (ml' = ml ∨ H ml' = none) → MAt p H' m fm mh' ml' (wentS s) → Fr [m, mh] H H' → Q .non H'
theorem ok_l_went (T : Txt K w mg C) (D : Dfn K mg "_law_went" s_l_went ["_law_m"]) (GE : Cl P w K mg base 2 "_law_effect" spEffL) : Cl P w K mg base 3 "_law_went" spWentL := by
  refine cl_of D cs_l_went (fun vs H Q E h => ?_) (fun f cdv A outer s H vs Q E hr h => ?_)
  · obtain ⟨m, fm, mh, ml, ms, p, rfl, _⟩ := h
    rfl
  · obtain ⟨m, fm, mh, ml, ⟨sg, mk, pcs, mrq, num, lv⟩, p, rfl, MA, g, wf, k⟩ := h
    obtain ⟨nfm, nmh, nml, nhf, nlh, nlf⟩ := MA.apart
    obtain ⟨fa, rq, hm, R⟩ := MA
    have nd := cs_l_went.nd
    have hu := hu_of hr
    have h64 : _ + 64 < cLine := hr.units
    refine ⟨_, (pss_cons (ps_if (PW.pt (pw_and (pt_cmpR op_eq (pe_dget hu (pv 0) pe_str (fun _ _ => rfl)) pe_str (nomark _)) (pw_and1 (pt_cmpR (op_neD h64) (pe_dget hu (pv 0) pe_str (fun _ _ => rfl)) (pe_lst pa_nil) (nomark _))))) (pss_cons (ps_dput hu (pv 0) pe_str (pe_slice sl_list (pe_dget hu (pv 0) pe_str (fun _ _ => rfl)) (po_some pe_int) po_none) rfl) (pss_one (ps_dput hu (pv 0) pe_str (pe_op op_sub pe_int (pe_dget hu (pv 0) pe_str (fun _ _ => rfl))) rfl))) pss_nil) (pss_cons (ps_if (pt_cmpR op_eq (pe_dget hu (pv 0) pe_str (fun _ _ => rfl)) pe_str (nomark _)) (pss_one (ps_expr (pe_cl GE hr (by decide) rfl (pa_cons (pv 0) pa_nil)))) pss_nil) (pss_one (ps_if (pt_cmpR op_in_seq (pe_dget hu (pv 0) pe_str (fun _ _ => rfl)) (pe_tup (pa_cons pe_str (pa_cons pe_str pa_nil))) (by rfl)) (pss_one (ps_dput hu (pv 0) pe_str pe_str rfl)) pss_nil)))), ?_⟩
    obtain ⟨kvs, hh, hks⟩ := R.halves
    obtain ⟨vs, hpc, hvs⟩ := R.pieces
    have m1 : m ∈ [m, mh] := by simp
    have ml1 : m ∈ [m] := List.mem_singleton.mpr rfl
    have MA0 : ∀ H', Same H H' → MAt p H' m fm mh ml ⟨sg, mk, pcs, mrq, num, lv⟩ := fun H' s' => MAt.same ⟨fa, rq, hm, R⟩ s'
    cases sg with
    | stalled =>
      replace hm : H m = some (.dK (mF fa fm (sgS .stalled) mk ml rq num lv mh)) := hm
      refine ⟨_, rfl, m, _, rfl, g_stage hm, rfl, _, rfl, bF (by decide +kernel) ?_⟩
      refine ⟨_, rfl, m, _, rfl, g_stage hm, rfl, _, rfl, bF (by decide +kernel) ?_⟩
      refine ⟨_, rfl, m, _, rfl, g_stage hm, (by show 2 ≤ sizeLine; decide), fun t ht => ⟨t, _, rfl, .inr (SqT.of upd_same), rfl, rfl, _, rfl, bF (by decide +kernel) ?_⟩⟩
      exact k mh ml _ (.inl rfl) (.inl rfl) (MA0 _ (Same.new ht)) (Fr.of (Same.new ht))
    | idle =>
      replace hm : H m = some (.dK (mF fa fm (sgS .idle) mk ml rq num lv mh)) := hm
      refine ⟨_, rfl, m, _, rfl, g_stage hm, rfl, _, rfl, bF (by decide +kernel) ?_⟩
      refine ⟨_, rfl, m, _, rfl, g_stage hm, rfl, _, rfl, bF (by decide +kernel) ?_⟩
      refine ⟨_, rfl, m, _, rfl, g_stage hm, (by show 2 ≤ sizeLine; decide), fun t ht => ⟨t, _, rfl, .inr (SqT.of upd_same), rfl, rfl, _, rfl, bF (by decide +kernel) ?_⟩⟩
      exact k mh ml _ (.inl rfl) (.inl rfl) (MA0 _ (Same.new ht)) (Fr.of (Same.new ht))
    | give =>
      replace hm : H m = some (.dK (mF fa fm (sgS .give) mk ml rq num lv mh)) := hm
      refine ⟨_, rfl, m, _, rfl, g_stage hm, rfl, _, rfl, bT (by decide +kernel) ?_⟩
      refine ⟨_, rfl, m, _, rfl, g_pieces hm, (by show 0 ≤ sizeLine; decide), fun l0 hl0 => ⟨_, _, .lst (SqL.of (Same.new hl0 _ _ hpc)) (dp_pcs (Paired.mapP hvs fun _ _ z => z.kt (Same.kt (Same.new hl0)))), .lst (SqL.of upd_same) .nil, shaped_pcs _, shaped_nilL, _, rfl, ?_⟩⟩
      have s0 := Same.new (o := HO.lst []) hl0
      cases hvs with
      | nil =>
        refine bF (by rw [eqv_pcs_nil]; rfl) ?_
        refine ⟨_, rfl, m, _, rfl, g_stage (s0 _ _ hm), rfl, _, rfl, bF (by decide +kernel) ?_⟩
        refine ⟨_, rfl, m, _, rfl, g_stage (s0 _ _ hm), (by show 2 ≤ sizeLine; decide), fun t ht => ⟨t, _, rfl, .inr (SqT.of upd_same), rfl, rfl, _, rfl, bF (by decide +kernel) ?_⟩⟩
        have s2 := s0.trans (Same.new (o := HO.tup [V.str "status", V.str "stated"]) ht)
        exact k mh ml _ (.inl rfl) (.inl rfl) (MA0 _ s2) (Fr.of s2)
      | @cons v0 xs0 vt pt hv0 ht0 =>
        refine bT (by rw [eqv_pcs_cons]; rfl) ?_
        refine ⟨_, rfl, m, _, rfl, g_pieces (s0 _ _ hm), _, rfl, ml, _, rfl, SqL.of (s0 _ _ hpc), fun q hq => ?_⟩
        rw [cutV_one]
        have s1 := s0.trans (Same.new (o := HO.lst vt) hq)
        have q0 : H q = none := by
          cases z : H q with
          | none => rfl
          | some o => rw [s0 _ _ z] at hq; cases hq
        have nqm : q ≠ m := fun z => by rw [z, hm] at q0; cases q0
        refine ⟨_, rfl, m, _, rfl, p_pieces (s1 _ _ hm), ?_⟩
        refine ⟨_, rfl, m, _, rfl, g_mark upd_same, _, _, rfl, rfl, _, rfl, m, _, rfl, p_mark upd_same, ?_⟩
        rw [upd_upd]
        have f2 : Fr [m] H (upd (upd (upd H l0 (.lst [])) q (.lst vt)) m (.dK (mF fa fm (sgS .give) (1 - mk) q rq num lv mh))) := (Fr.of s1).puts ml1 (s1 _ _ hm) dK_nt
        have q2 : (upd (upd (upd H l0 (.lst [])) q (.lst vt)) m (.dK (mF fa fm (sgS .give) (1 - mk) q rq num lv mh))) q = some (.lst vt) := by rw [upd_ne nqm]; exact upd_same
        have hm2 : (upd (upd (upd H l0 (.lst [])) q (.lst vt)) m (.dK (mF fa fm (sgS .give) (1 - mk) q rq num lv mh))) m = _ := upd_same
        revert f2 q2 hm2
        generalize upd (upd (upd H l0 (.lst [])) q (.lst vt)) m (.dK (mF fa fm (sgS .give) (1 - mk) q rq num lv mh)) = H2
        intro f2 q2 hm2
        refine ⟨_, rfl, m, _, rfl, g_stage hm2, rfl, _, rfl, bF (by decide +kernel) ?_⟩
        refine ⟨_, rfl, m, _, rfl, g_stage hm2, (by show 2 ≤ sizeLine; decide), fun t ht => ⟨t, _, rfl, .inr (SqT.of upd_same), rfl, rfl, _, rfl, bF (by decide +kernel) ?_⟩⟩
        have s3 : Same H2 _ := Same.new (o := HO.tup [V.str "status", V.str "stated"]) ht
        have f3 := f2.and s3
        have R3 := R.fr f3 (not1 (Ne.symm nfm)) (not1 (Ne.symm nml)) (not1 (Ne.symm nmh))
        exact k mh q _ (.inl rfl) (.inr q0) ⟨fa, rq, s3 _ _ hm2, ⟨R3.plan, R3.forms, R3.halves, ⟨vt, s3 _ _ q2, Paired.mapP ht0 fun _ _ z => z.kt f3.kt⟩, R3.req, R3.apart⟩⟩ (f3.mono fun b hb => by rw [List.mem_singleton.mp hb]; exact m1)
    | stated =>
      replace hm : H m = some (.dK (mF fa fm (sgS .stated) mk ml rq num lv mh)) := hm
      refine ⟨_, rfl, m, _, rfl, g_stage hm, rfl, _, rfl, bF (by decide +kernel) ?_⟩
      refine ⟨_, rfl, m, _, rfl, g_stage hm, rfl, _, rfl, bF (by decide +kernel) ?_⟩
      refine ⟨_, rfl, m, _, rfl, g_stage hm, (by show 2 ≤ sizeLine; decide), fun t ht => ⟨t, _, rfl, .inr (SqT.of upd_same), rfl, rfl, _, rfl, bT (by decide +kernel) ?_⟩⟩
      have s1 := Same.new (o := HO.tup [V.str "status", V.str "stated"]) ht
      refine ⟨_, rfl, m, _, rfl, p_stage (s1 _ _ hm), ?_⟩
      have f2 : Fr [m] H _ := (Fr.of s1).puts (o' := .dK (mF fa fm "idle" mk ml rq num lv mh)) ml1 (s1 _ _ hm) dK_nt
      have R2 := R.fr f2 (not1 (Ne.symm nfm)) (not1 (Ne.symm nml)) (not1 (Ne.symm nmh))
      exact k mh ml _ (.inl rfl) (.inl rfl) ⟨fa, rq, upd_same, ⟨R2.plan, R2.forms, R2.halves, R2.pieces, R2.req, R2.apart⟩⟩ (f2.mono fun b hb => by rw [List.mem_singleton.mp hb]; exact m1)
    | status =>
      obtain ⟨r, er, hok, na, me⟩ := wf.st rfl
      have er : mrq = some r := er
      subst er
      replace hm : H m = some (.dK (mF fa fm (sgS .status) mk ml rq num lv mh)) := hm
      refine ⟨_, rfl, m, _, rfl, g_stage hm, rfl, _, rfl, bF (by decide +kernel) ?_⟩
      refine ⟨_, rfl, m, _, rfl, g_stage hm, rfl, _, rfl, bT (by decide +kernel) ?_⟩
      refine ⟨_, rfl, m, fm, mh, ml, ⟨.status, mk, pcs, some r, num, lv⟩, p, r, rfl, ⟨fa, rq, hm, R⟩, g, rfl, hok, na, me, fun mh' H1 hd1 MA1 f1 => ?_⟩
      obtain ⟨a1, a2, a3, a4, a5, a6⟩ := MA1.apart
      obtain ⟨fa1, rq1, hm1, R1⟩ := MA1
      replace hm1 : H1 m = some (.dK (mF fa1 fm (sgS .status) mk ml rq1 (effS ⟨.status, mk, pcs, some r, num, lv⟩ r).num (effS ⟨.status, mk, pcs, some r, num, lv⟩ r).lv mh')) := hm1
      refine ⟨_, rfl, m, _, rfl, g_stage hm1, (by show 2 ≤ sizeLine; decide), fun t ht => ⟨t, _, rfl, .inr (SqT.of upd_same), rfl, rfl, _, rfl, bT (by decide +kernel) ?_⟩⟩
      have s2 : Same H1 _ := Same.new (o := HO.tup [V.str "status", V.str "stated"]) ht
      refine ⟨_, rfl, m, _, rfl, p_stage (s2 _ _ hm1), ?_⟩
      have f3 : Fr [m] H1 _ := (Fr.of s2).puts (o' := .dK (mF fa1 fm "idle" mk ml rq1 (effS ⟨.status, mk, pcs, some r, num, lv⟩ r).num (effS ⟨.status, mk, pcs, some r, num, lv⟩ r).lv mh')) ml1 (s2 _ _ hm1) dK_nt
      have R3 := R1.fr f3 (not1 (Ne.symm a1)) (not1 (Ne.symm a3)) (not1 (Ne.symm a2))
      exact k mh' ml _ hd1 (.inl rfl) ⟨fa1, rq1, upd_same, ⟨R3.plan, R3.forms, R3.halves, R3.pieces, R3.req, R3.apart⟩⟩ (f1.trans (f3.mono fun b hb => by rw [List.mem_singleton.mp hb]; exact m1))
/-! ### _law_out(m, mark, data) -/
def spOutL : Sp := fun vs H Q _ => ∃ (m fm mh ml a : Addr) (s : Ms) (p : Pl) (n : Int) (xs : List Int), vs = [.ref m, .int n, .ref a] ∧ MAt p H m fm mh ml s ∧ H a = some (.tup (xs.map V.int)) ∧
  ∀ H', MAt p H' m fm mh ml (outS s n xs).2 → Fr [m] H H' → Q (.str (if (outS s n xs).1 = true then "ack" else "stall")) H'
theorem ok_l_out (T : Txt K w mg C) (D : Dfn K mg "_law_out" s_l_out ["_law_m", "_law_mark", "_law_data"]) : Cl P w K mg base 1 "_law_out" spOutL := by
  refine cl_of D cs_l_out (fun vs H Q E h => ?_) (fun f cdv A outer s H vs Q E hr h => ?_)
  · obtain ⟨m, fm, mh, ml, a, ms, p, n, xs, rfl, _⟩ := h
    rfl
  · obtain ⟨m, fm, mh, ml, a, ⟨sg, mk, pcs, mrq, num, lv⟩, p, n, xs, rfl, MA, ha, k⟩ := h
    obtain ⟨nfm, nmh, nml, nhf, nlh, nlf⟩ := MA.apart
    obtain ⟨fa, rq, hm, R⟩ := MA
    have nd := cs_l_out.nd
    have hu := hu_of hr
    have h64 : _ + 64 < cLine := hr.units
    refine ⟨_, (pss_cons (ps_if (PW.pt (pw_and (pt_cmpR op_in_seq (pe_dget hu (pv 0) pe_str (fun _ _ => rfl)) (pe_tup (pa_cons pe_str (pa_cons pe_str pa_nil))) (by rfl)) (pw_and (pt_cmpR op_eq (pv 1) pe_int (nomark _)) (pw_and1 (pt_cmpR (op_eqD h64) (pv 2) (pe_tup pa_nil) (nomark _)))))) (pss_cons (ps_dput hu (pv 0) pe_str pe_str rfl) (pss_one (ps_ret pe_str))) pss_nil) (pss_one (ps_ret pe_str))), ?_⟩
    obtain ⟨kvs, hh, hks⟩ := R.halves
    obtain ⟨vs, hpc, hvs⟩ := R.pieces
    have m1 : m ∈ [m, mh] := by simp
    have ml1 : m ∈ [m] := List.mem_singleton.mpr rfl
    have MA0 : ∀ H', Same H H' → MAt p H' m fm mh ml ⟨sg, mk, pcs, mrq, num, lv⟩ := fun H' s' => MAt.same ⟨fa, rq, hm, R⟩ s'
    refine ⟨_, rfl, m, _, rfl, g_stage hm, (by show 2 ≤ sizeLine; decide), fun t ht => ⟨t, _, rfl, .inr (SqT.of upd_same), rfl, rfl, _, rfl, ?_⟩⟩
    have s1 := Same.new (o := HO.tup [V.str "give", V.str "idle"]) ht
    have no : ∀ H', Same H H' → ¬ ((sg = .give ∨ sg = .idle) ∧ n = 1 ∧ xs = []) → Q (.str "stall") H' := fun H' s' h => by
      have e : outS ⟨sg, mk, pcs, mrq, num, lv⟩ n xs = (false, ⟨sg, mk, pcs, mrq, num, lv⟩) := by unfold outS; rw [if_neg h]
      rw [e] at k
      exact k _ (MA0 _ s') (Fr.of s')
    cases sg with
    | stalled => exact bF (show (if false = true then !inV (V.str (sgS .stalled)) [V.str "give", V.str "idle"] else inV (V.str (sgS .stalled)) [V.str "give", V.str "idle"]) = false from (by decide +kernel)) (no _ s1 fun z => by rcases z.1 with h | h <;> cases h)
    | status => exact bF (show (if false = true then !inV (V.str (sgS .status)) [V.str "give", V.str "idle"] else inV (V.str (sgS .status)) [V.str "give", V.str "idle"]) = false from (by decide +kernel)) (no _ s1 fun z => by rcases z.1 with h | h <;> cases h)
    | stated => exact bF (show (if false = true then !inV (V.str (sgS .stated)) [V.str "give", V.str "idle"] else inV (V.str (sgS .stated)) [V.str "give", V.str "idle"]) = false from (by decide +kernel)) (no _ s1 fun z => by rcases z.1 with h | h <;> cases h)
    | give =>
      replace hm : H m = some (.dK (mF fa fm (sgS .give) mk ml rq num lv mh)) := hm
      refine bT (show (if false = true then !inV (V.str (sgS .give)) [V.str "give", V.str "idle"] else inV (V.str (sgS .give)) [V.str "give", V.str "idle"]) = true from (by decide +kernel)) ?_
      refine ⟨_, rfl, rfl, _, rfl, ?_⟩
      by_cases c1 : n = 1
      · refine bT (decide_eq_true (congrArg V.int c1)) ?_
        refine ⟨_, rfl, (by show 0 ≤ sizeLine; decide), fun t2 ht2 => ?_⟩
        have s2 := s1.trans (Same.new (o := HO.tup []) ht2)
        refine ⟨_, _, dp_ints (s2 _ _ ha), dp_ints (xs := []) upd_same, shaped_intsT _, shaped_intsT [], _, rfl, ?_⟩
        rw [eqv_ints]
        by_cases c2 : xs = []
        · refine bT (decide_eq_true c2) ?_
          have e : outS ⟨.give, mk, pcs, mrq, num, lv⟩ n xs = (true, ⟨.idle, mk, pcs, mrq, num, lv⟩) := by unfold outS; rw [if_pos ⟨.inl rfl, c1, c2⟩]
          rw [e] at k
          refine ⟨_, rfl, m, _, rfl, p_stage (s2 _ _ hm), ?_⟩
          have f3 : Fr [m] H _ := (Fr.of s2).puts (o' := .dK (mF fa fm "idle" mk ml rq num lv mh)) ml1 (s2 _ _ hm) dK_nt
          have R3 := R.fr f3 (not1 (Ne.symm nfm)) (not1 (Ne.symm nml)) (not1 (Ne.symm nmh))
          exact k _ ⟨fa, rq, upd_same, ⟨R3.plan, R3.forms, R3.halves, R3.pieces, R3.req, R3.apart⟩⟩ f3
        · exact bF (decide_eq_false c2) (no _ s2 fun z => c2 z.2.2)
      · exact bF (decide_eq_false fun z => c1 (by injection z)) (no _ s1 fun z => c1 z.2.1)
    | idle =>
      replace hm : H m = some (.dK (mF fa fm (sgS .idle) mk ml rq num lv mh)) := hm
      refine bT (show (if false = true then !inV (V.str (sgS .idle)) [V.str "give", V.str "idle"] else inV (V.str (sgS .idle)) [V.str "give", V.str "idle"]) = true from (by decide +kernel)) ?_
      refine ⟨_, rfl, rfl, _, rfl, ?_⟩
      by_cases c1 : n = 1
      · refine bT (decide_eq_true (congrArg V.int c1)) ?_
        refine ⟨_, rfl, (by show 0 ≤ sizeLine; decide), fun t2 ht2 => ?_⟩
        have s2 := s1.trans (Same.new (o := HO.tup []) ht2)
        refine ⟨_, _, dp_ints (s2 _ _ ha), dp_ints (xs := []) upd_same, shaped_intsT _, shaped_intsT [], _, rfl, ?_⟩
        rw [eqv_ints]
        by_cases c2 : xs = []
        · refine bT (decide_eq_true c2) ?_
          have e : outS ⟨.idle, mk, pcs, mrq, num, lv⟩ n xs = (true, ⟨.idle, mk, pcs, mrq, num, lv⟩) := by unfold outS; rw [if_pos ⟨.inr rfl, c1, c2⟩]
          rw [e] at k
          refine ⟨_, rfl, m, _, rfl, p_stage (s2 _ _ hm), ?_⟩
          have f3 : Fr [m] H _ := (Fr.of s2).puts (o' := .dK (mF fa fm "idle" mk ml rq num lv mh)) ml1 (s2 _ _ hm) dK_nt
          have R3 := R.fr f3 (not1 (Ne.symm nfm)) (not1 (Ne.symm nml)) (not1 (Ne.symm nmh))
          exact k _ ⟨fa, rq, upd_same, ⟨R3.plan, R3.forms, R3.halves, R3.pieces, R3.req, R3.apart⟩⟩ f3
        · exact bF (decide_eq_false c2) (no _ s2 fun z => c2 z.2.2)
      · exact bF (decide_eq_false fun z => c1 (by injection z)) (no _ s1 fun z => c1 z.2.1)
end
end Plug
end
section
set_option Elab.async false
set_option linter.all false
set_option maxRecDepth 100000
set_option maxHeartbeats 4000000
namespace Plug
open PySem PySem.Spec PyProof.Rows L2 Mi
/-- the table as far as it is written -/
structure FW (H : Hp) (kvs : List (List Key × V)) (dom : Rq → Prop) : Prop where
  sd : ∀ kv ∈ kvs, ∃ r, okRq r ∧ kv.1 = rowK (reqBytes r) ∧ ReqAt H kv.2 r
  cp : ∀ r, okRq r → dom r → (valV kvs (rowK (reqBytes r))).isSome = true
theorem rowK_inj {a b : List Int} (h : rowK a = rowK b) : a = b := by
  have e := congrArg (List.map fun k : Key => match k with | .inl i => i | .inr _ => (0 : Int)) h
  unfold rowK at e
  rw [List.map_map, List.map_map] at e
  have i : ∀ l : List Int, l.map ((fun k : Key => match k with | .inl i => i | .inr _ => (0 : Int)) ∘ Sum.inl) = l := fun l => List.map_id l
  rwa [i, i] at e
theorem putK_mem {kvs : List (List Key × V)} {k : List Key} {v : V} {x : List Key × V} (h : x ∈ putK kvs k v) : x ∈ kvs ∨ (x.1 = k ∧ x.2 = v) := by
  unfold putK at h
  split at h
  · obtain ⟨y, hy, e⟩ := List.mem_map.mp h
    by_cases q : y.1 = k
    · rw [if_pos q] at e
      rw [← e]
      exact .inr ⟨q, rfl⟩
    · rw [if_neg q] at e
      rw [← e]
      exact .inl hy
  · rcases List.mem_append.mp h with h | h
    · exact .inl h
    · rw [List.mem_singleton.mp h]
      exact .inr ⟨rfl, rfl⟩
theorem FW.kt {H H' : Hp} {kvs : List (List Key × V)} {dom : Rq → Prop} (k : KT0 H H') (h : FW H kvs dom) : FW H' kvs dom :=
  ⟨fun kv hk => let ⟨r, a, b, c⟩ := h.sd kv hk; ⟨r, a, b, c.kt k⟩, h.cp⟩
theorem FW.nil {H : Hp} : FW H [] (fun _ => False) := ⟨(fun _ h => by cases h), fun _ _ h => h.elim⟩
theorem FW.put {H : Hp} {kvs : List (List Key × V)} {dom dom' : Rq → Prop} {v : V} {r : Rq} (h : FW H kvs dom) (hok : okRq r) (hv : ReqAt H v r) (hd : ∀ q, okRq q → dom' q → dom q ∨ q = r) : FW H (putK kvs (rowK (reqBytes r)) v) dom' := by
  refine ⟨fun kv hk => ?_, fun q hq hdq => ?_⟩
  · rcases putK_mem hk with hk | ⟨e1, e2⟩
    · exact h.sd kv hk
    · exact ⟨r, hok, e1, by rw [e2]; exact hv⟩
  · rw [valV_put]
    by_cases e : rowK (reqBytes q) = rowK (reqBytes r)
    · rw [if_pos e]; rfl
    · rw [if_neg e]
      rcases hd q hq hdq with z | z
      · exact h.cp q hq z
      · exact absurd (by rw [z]) e
theorem FW.weak {H : Hp} {kvs : List (List Key × V)} {dom dom' : Rq → Prop} (h : FW H kvs dom) (hd : ∀ q, okRq q → dom' q → dom q) : FW H kvs dom' := ⟨h.sd, fun q a b => h.cp q a (hd q a b)⟩
theorem valV_mem {kvs : List (List Key × V)} {k : List Key} {v : V} (h : valV kvs k = some v) : ∃ kv ∈ kvs, kv.1 = k ∧ kv.2 = v := by
  unfold valV at h
  obtain ⟨kv, e1, e2⟩ := Option.map_eq_some_iff.mp h
  exact ⟨kv, List.mem_of_find?_eq_some e1, of_decide_eq_true (List.find?_some (p := fun kv : List Key × V => decide (kv.1 = k)) e1), e2⟩
theorem FW.forms {H : Hp} {fm : Addr} {kvs : List (List Key × V)} (h : FW H kvs fun _ => True) (e : H fm = some (.dT kvs)) (h0 : 0 < kvs.length) (h1 : kvs.length ≤ 300) : FormsAt H fm := by
  refine ⟨kvs, e, fun row r hr => ?_, fun row hr => ?_, h0, h1, fun kv hk => let ⟨r, a, b, _⟩ := h.sd kv hk; ⟨r, a, b⟩⟩
  · obtain ⟨v, ev⟩ := Option.isSome_iff_exists.mp (h.cp r hr.1 True.intro)
    rw [hr.2] at ev
    obtain ⟨kv, hk, e1, e2⟩ := valV_mem ev
    obtain ⟨r', k1, k2, k3⟩ := h.sd kv hk
    have : reqBytes r' = reqBytes r := by rw [hr.2]; exact rowK_inj (k2.symm.trans e1)
    rw [reqBytes_inj k1 hr.1 this, e2] at k3
    exact ⟨v, ev, k3⟩
  · cases q : valV kvs (rowK row) with
    | none => rfl
    | some v =>
      obtain ⟨kv, hk, e1, e2⟩ := valV_mem q
      obtain ⟨r', k1, k2, k3⟩ := h.sd kv hk
      exact absurd (rowK_inj (k2.symm.trans e1)) (hr r' k1)
theorem same_fresh {H H1 : Hp} {p : Addr} {o : HO} (s : Same H H1) (n : H p = none) : Same H (upd H1 p o) := fun b u e => by rw [upd_ne (ne_of_none e n)]; exact s b u e
theorem bytes_K (r : Rq) : (rowK (reqBytes r)).map kV = (reqBytes r).map V.int := rowK_V _
section
variable {P : Program} {w : World} {K : PySem.W.Frag} {mg : Str → Option Value} {base : Heap} {C : Addr}
/-! ### _law_forms(plan) -/
def spForms : Sp := fun vs H Q _ => ∃ v, vs = [v] ∧ ∀ fm H', H fm = none → FormsAt H' fm → Same H H' → Q (.ref fm) H'
theorem rq_eq {q : Rq} {a : Nat} {b : Int} (h1 : q.w = a) (h2 : q.v = b) : q = ⟨a, b⟩ := by
  obtain ⟨x, y⟩ := q
  cases h1
  cases h2
  rfl
theorem one_more {q : Rq} {wn i : Nat} (h : q.w < wn ∨ (q.w = wn ∧ q.v < ((i + 1 : Nat) : Int))) : (q.w < wn ∨ (q.w = wn ∧ q.v < (i : Int))) ∨ q = ⟨wn, 0 + (i : Int)⟩ := by
  rcases h with h | ⟨h1, h2⟩
  · exact .inl (.inl h)
  · by_cases e : q.v < (i : Int)
    · exact .inl (.inr ⟨h1, e⟩)
    · exact .inr (rq_eq h1 (by omega))
theorem most_le {q : Rq} {a : Nat} {b : Int} (hq : okRq q) (h : q.w = a) (hb : Mi.most a = b) : q.v ≤ b := by
  have := hq.2.2
  rw [h, hb] at this
  exact this
theorem three {q : Rq} {i : Nat} (hq : okRq q) (h : q.w < 5 ∨ (5 ≤ q.w ∧ q.v < ((i + 1 : Nat) : Int))) : (((q.w < 5 ∨ (5 ≤ q.w ∧ q.v < (i : Int))) ∨ q = ⟨5, 0 + (i : Int)⟩) ∨ q = ⟨6, 0 + (i : Int)⟩) ∨ q = ⟨7, 0 + (i : Int)⟩ := by
  have h8 := hq.1
  rcases h with h | ⟨h1, h2⟩
  · exact .inl (.inl (.inl (.inl h)))
  · by_cases e : q.v < (i : Int)
    · exact .inl (.inl (.inl (.inr ⟨h1, e⟩)))
    · have : q.w = 5 ∨ q.w = 6 ∨ q.w = 7 := by omega
      rcases this with z | z | z
      · exact .inl (.inl (.inr (rq_eq z (by omega))))
      · exact .inl (.inr (rq_eq z (by omega)))
      · exact .inr (rq_eq z (by omega))
theorem ok_l_forms (T : Txt K w mg C) (D : Dfn K mg "_law_forms" s_l_forms ["_law_plan_here"]) : Cl P w K mg base 1 "_law_forms" spForms := by
  refine cl_of D cs_l_forms (fun vs H Q E h => ?_) (fun f cdv A outer s H vs Q E hr h => ?_)
  · obtain ⟨v, rfl, _⟩ := h
    rfl
  · obtain ⟨v, rfl, k⟩ := h
    have nd := cs_l_forms.nd
    have hu := hu_of hr
    refine ⟨_, (pss_cons (ps_set (i := 1) nd rfl (.inl rfl) (pe_dispT hu (pps_cons (pe_tup (pa_cons pe_int (pa_cons pe_int (pa_cons pe_int (pa_cons pe_int (pa_cons pe_int (pa_cons pe_int (pa_cons pe_int (pa_cons pe_int pa_nil))))))))) (pe_tup (pa_cons pe_str pa_nil)) (pps_cons (pe_tup (pa_cons pe_int (pa_cons pe_int (pa_cons pe_int (pa_cons pe_int (pa_cons pe_int (pa_cons pe_int (pa_cons pe_int (pa_cons pe_int pa_nil))))))))) (pe_tup (pa_cons pe_str pa_nil)) pps_nil)) rfl rfl (by simp) (by decide))) (pss_cons (ps_for PassesOwn.never rfl (pi_range1 rfl T.range (pa_cons pe_int pa_nil)) (pg_name (i := 2) nd rfl (.inl rfl)) (pss_one (ps_dput hu (pv 1) (pe_tup (pa_cons pe_int (pa_cons pe_int (pa_cons (pv 2) (pa_cons pe_int (pa_cons pe_int (pa_cons pe_int (pa_cons pe_int (pa_cons pe_int pa_nil))))))))) (pe_tup (pa_cons pe_str (pa_cons (pv 2) pa_nil))) rfl))) (pss_cons (ps_for PassesOwn.never rfl (pi_range1 rfl T.range (pa_cons pe_int pa_nil)) (pg_name (i := 2) nd rfl (.inl rfl)) (pss_one (ps_dput hu (pv 1) (pe_tup (pa_cons pe_int (pa_cons pe_int (pa_cons (pv 2) (pa_cons pe_int (pa_cons pe_int (pa_cons pe_int (pa_cons pe_int (pa_cons pe_int pa_nil))))))))) (pe_tup (pa_cons pe_str (pa_cons (pv 2) pa_nil))) rfl))) (pss_cons (ps_for PassesOwn.never rfl (pi_range1 rfl T.range (pa_cons pe_int pa_nil)) (pg_name (i := 2) nd rfl (.inl rfl)) (pss_one (ps_dput hu (pv 1) (pe_tup (pa_cons pe_int (pa_cons pe_int (pa_cons pe_int (pa_cons pe_int (pa_cons (pv 2) (pa_cons pe_int (pa_cons pe_int (pa_cons pe_int pa_nil))))))))) (pe_tup (pa_cons pe_str (pa_cons (pv 2) pa_nil))) rfl))) (pss_cons (ps_for PassesOwn.never rfl (pi_range1 rfl T.range (pa_cons pe_int pa_nil)) (pg_name (i := 2) nd rfl (.inl rfl)) (pss_cons (ps_dput hu (pv 1) (pe_tup (pa_cons pe_int (pa_cons pe_int (pa_cons pe_int (pa_cons pe_int (pa_cons (pv 2) (pa_cons pe_int (pa_cons pe_int (pa_cons pe_int pa_nil))))))))) (pe_tup (pa_cons pe_str (pa_cons (pv 2) pa_nil))) rfl) (pss_cons (ps_dput hu (pv 1) (pe_tup (pa_cons pe_int (pa_cons pe_int (pa_cons pe_int (pa_cons pe_int (pa_cons (pv 2) (pa_cons pe_int (pa_cons pe_int (pa_cons pe_int pa_nil))))))))) (pe_tup (pa_cons pe_str (pa_cons (pv 2) pa_nil))) rfl) (pss_one (ps_dput hu (pv 1) (pe_tup (pa_cons pe_int (pa_cons pe_int (pa_cons pe_int (pa_cons pe_int (pa_cons (pv 2) (pa_cons pe_int (pa_cons pe_int (pa_cons pe_int pa_nil))))))))) (pe_tup (pa_cons pe_str (pa_cons (pv 2) pa_nil))) rfl))))) (pss_one (ps_ret (pv 1)))))))), ?_⟩
    intro fm fm0
    refine ⟨(by show 8 ≤ sizeLine; decide), fun k1 hk1 => ⟨(by show 1 ≤ sizeLine; decide), fun v1 hv1 => ⟨(by show 8 ≤ sizeLine; decide), fun k2 hk2 => ⟨(by show 1 ≤ sizeLine; decide), fun v2 hv2 => ?_⟩⟩⟩⟩
    have sA : Same (upd H fm (.dT [])) (upd (upd (upd (upd (upd H fm (.dT [])) k1 (.tup [V.int 128, .int 6, .int 0, .int 1, .int 0, .int 0, .int 18, .int 0])) v1 (.tup [V.str "device"])) k2 (.tup [V.int 128, .int 6, .int 0, .int 2, .int 0, .int 0, .int 255, .int 0])) v2 (.tup [V.str "settings"])) := (((Same.new hk1).trans (Same.new hv1)).trans (Same.new hk2)).trans (Same.new hv2)
    have a1 : (upd (upd (upd (upd (upd H fm (.dT [])) k1 (.tup [V.int 128, .int 6, .int 0, .int 1, .int 0, .int 0, .int 18, .int 0])) v1 (.tup [V.str "device"])) k2 (.tup [V.int 128, .int 6, .int 0, .int 2, .int 0, .int 0, .int 255, .int 0])) v2 (.tup [V.str "settings"])) k1 = some (.tup [V.int 128, .int 6, .int 0, .int 1, .int 0, .int 0, .int 18, .int 0]) := (((Same.new hv1).trans (Same.new hk2)).trans (Same.new hv2)) _ _ upd_same
    have b1 : (upd (upd (upd (upd (upd H fm (.dT [])) k1 (.tup [V.int 128, .int 6, .int 0, .int 1, .int 0, .int 0, .int 18, .int 0])) v1 (.tup [V.str "device"])) k2 (.tup [V.int 128, .int 6, .int 0, .int 2, .int 0, .int 0, .int 255, .int 0])) v2 (.tup [V.str "settings"])) v1 = some (.tup [V.str "device"]) := ((Same.new hk2).trans (Same.new hv2)) _ _ upd_same
    have a2 : (upd (upd (upd (upd (upd H fm (.dT [])) k1 (.tup [V.int 128, .int 6, .int 0, .int 1, .int 0, .int 0, .int 18, .int 0])) v1 (.tup [V.str "device"])) k2 (.tup [V.int 128, .int 6, .int 0, .int 2, .int 0, .int 0, .int 255, .int 0])) v2 (.tup [V.str "settings"])) k2 = some (.tup [V.int 128, .int 6, .int 0, .int 2, .int 0, .int 0, .int 255, .int 0]) := (Same.new hv2) _ _ upd_same
    have b2 : (upd (upd (upd (upd (upd H fm (.dT [])) k1 (.tup [V.int 128, .int 6, .int 0, .int 1, .int 0, .int 0, .int 18, .int 0])) v1 (.tup [V.str "device"])) k2 (.tup [V.int 128, .int 6, .int 0, .int 2, .int 0, .int 0, .int 255, .int 0])) v2 (.tup [V.str "settings"])) v2 = some (.tup [V.str "settings"]) := upd_same
    revert sA a1 b1 a2 b2
    generalize upd (upd (upd (upd (upd H fm (.dT [])) k1 _) v1 _) k2 _) v2 _ = H1
    intro sA a1 b1 a2 b2
    have d1 : H1 fm = some (.dT []) := sA _ _ upd_same
    refine ⟨d1, [(rowK (reqBytes ⟨0, 0⟩), .ref v1), (rowK (reqBytes ⟨1, 0⟩), .ref v2)], .cons ⟨⟨k1, rfl, a1⟩, rfl⟩ (.cons ⟨⟨k2, rfl, a2⟩, rfl⟩ .nil), (by show 2 ≤ 15; decide), ?_⟩
    have s1 : Same H H1 := (Same.new fm0).trans sA
    have kp := kt_put (o' := .dT (mergeT [] [(rowK (reqBytes ⟨0, 0⟩), V.ref v1), (rowK (reqBytes ⟨1, 0⟩), .ref v2)])) d1 dT_nt
    have f2 : FW (upd H1 fm (.dT (mergeT [] [(rowK (reqBytes ⟨0, 0⟩), V.ref v1), (rowK (reqBytes ⟨1, 0⟩), .ref v2)]))) (mergeT [] [(rowK (reqBytes ⟨0, 0⟩), V.ref v1), (rowK (reqBytes ⟨1, 0⟩), .ref v2)]) (fun q => q.w < 2) := by
      have g1 : FW (upd H1 fm (.dT (mergeT [] [(rowK (reqBytes ⟨0, 0⟩), V.ref v1), (rowK (reqBytes ⟨1, 0⟩), .ref v2)]))) (putK [] (rowK (reqBytes ⟨0, 0⟩)) (.ref v1)) (fun q => q.w = 0) := FW.nil.put (r := ⟨0, 0⟩) ⟨by show 0 < 8; decide, Int.le_refl _, Int.le_refl _⟩ ⟨v1, rfl, kp _ _ b1⟩ (fun q hq hd => .inr (rq_eq hd (by have h1 := hq.2.1; have h2 := most_le (a := 0) (b := 0) hq hd rfl; omega)))
      exact g1.put (r := ⟨1, 0⟩) ⟨by show 1 < 8; decide, Int.le_refl _, Int.le_refl _⟩ ⟨v2, rfl, kp _ _ b2⟩ (fun q hq hd => by
        have hd : q.w < 2 := hd
        by_cases e : q.w = 0
        · exact .inl e
        · exact .inr (rq_eq (by omega) (by have h1 := hq.2.1; have h2 := most_le (a := 1) (b := 0) hq (by omega) rfl; omega)))
    have s2 := same_fresh (o := .dT (mergeT [] [(rowK (reqBytes ⟨0, 0⟩), V.ref v1), (rowK (reqBytes ⟨1, 0⟩), .ref v2)])) s1 fm0
    have l2 : (mergeT [] [(rowK (reqBytes ⟨0, 0⟩), V.ref v1), (rowK (reqBytes ⟨1, 0⟩), .ref v2)]).length = 2 := rfl
    have d2 : (upd H1 fm (.dT (mergeT [] [(rowK (reqBytes ⟨0, 0⟩), V.ref v1), (rowK (reqBytes ⟨1, 0⟩), .ref v2)]))) fm = _ := upd_same
    revert s2 l2 f2 d2
    generalize mergeT [] [(rowK (reqBytes ⟨0, 0⟩), V.ref v1), (rowK (reqBytes ⟨1, 0⟩), .ref v2)] = kv2
    generalize upd H1 fm _ = H2
    intro f2 s2 l2 d2
    -- number
    refine ⟨16, rfl, by decide, by decide, for_range (lo := 0) (n := 16) (fun i σ H2 => (∃ v2 : Option V, σ = [some v, some (.ref fm), v2]) ∧ Same H H2 ∧ ∃ kvs, H2 fm = some (.dT kvs) ∧ FW H2 kvs (fun q => q.w < 2 ∨ (q.w = 2 ∧ q.v < (i : Int))) ∧ 0 < kvs.length ∧ kvs.length ≤ 2 + i) ⟨⟨none, rfl⟩, s2, kv2, d2, f2.weak (fun q hq hd => by rcases hd with h | ⟨_, h⟩; exact h; exact absurd hq.2.1 (Int.not_le.mpr h)), by rw [l2]; decide, by rw [l2]; decide⟩ ?_ ?_⟩
    · rintro i σ H3 hi ⟨⟨v3, rfl⟩, s3, kv3, d3, f3, p3, l3⟩
      refine ⟨_, rfl, (by show 2 ≤ sizeLine; decide), fun vx hvx => ⟨_, rfl, _, rfl, (by show 8 ≤ sizeLine; decide), fun kx hkx => ?_⟩⟩
      have tx := (Same.new (o := HO.tup [V.str "number", .int (0 + (i : Int))]) hvx).trans (Same.new (o := HO.tup [V.int 0, .int 5, .int (0 + (i : Int)), .int 0, .int 0, .int 0, .int 0, .int 0]) hkx)
      have rvx : ReqAt (upd (upd H3 vx (.tup [V.str "number", .int (0 + (i : Int))])) kx (.tup [V.int 0, .int 5, .int (0 + (i : Int)), .int 0, .int 0, .int 0, .int 0, .int 0])) (.ref vx) ⟨2, 0 + (i : Int)⟩ := ⟨vx, rfl, Same.new hkx _ _ upd_same⟩
      have kkx : (upd (upd H3 vx (.tup [V.str "number", .int (0 + (i : Int))])) kx (.tup [V.int 0, .int 5, .int (0 + (i : Int)), .int 0, .int 0, .int 0, .int 0, .int 0])) kx = some (.tup ((rowK (reqBytes ⟨2, 0 + (i : Int)⟩)).map kV)) := upd_same
      refine ⟨fm, _, rfl, DPut.t (k := rowK (reqBytes ⟨2, 0 + (i : Int)⟩)) (tx _ _ d3) kkx (Nat.lt_of_le_of_lt (show kv3.length ≤ 400 by omega) (by decide)), ?_⟩
      have kpx := kt_put (o' := .dT (putK kv3 (rowK (reqBytes ⟨2, 0 + (i : Int)⟩)) (.ref vx))) (tx _ _ d3) dT_nt
      have sx := same_fresh (o := .dT (putK kv3 (rowK (reqBytes ⟨2, 0 + (i : Int)⟩)) (.ref vx))) (s3.trans tx) fm0
      have fx : FW _ (putK kv3 (rowK (reqBytes ⟨2, 0 + (i : Int)⟩)) (.ref vx)) (fun q => q.w < 2 ∨ (q.w = 2 ∧ q.v < ((i + 1 : Nat) : Int))) := ((f3.kt (Same.kt tx)).kt kpx).put (r := ⟨2, 0 + (i : Int)⟩) ⟨by show 2 < 8; decide, by show 0 ≤ 0 + (i : Int); omega, by show 0 + (i : Int) ≤ 15; omega⟩ (rvx.kt kpx) (fun q hq hd => one_more hd)
      have lx := length_putK kv3 (rowK (reqBytes ⟨2, 0 + (i : Int)⟩)) (V.ref vx) |> fun z => Nat.le_trans z (Nat.succ_le_succ l3)
      refine ⟨⟨_, rfl⟩, sx, _, upd_same, fx, ?_, by omega⟩
      unfold putK
      split
      · rw [List.length_map]; exact p3
      · rw [List.length_append]; exact Nat.lt_of_lt_of_le p3 (Nat.le_add_right _ _)
    rintro σ H2n ⟨⟨v2n, rfl⟩, s2n, kv2n, d2n, f2n, p2n, l2n⟩
    replace f2n : FW H2n kv2n (fun q => q.w < 3) := f2n.weak fun q hq hd => by
      have hd : q.w < 3 := hd
      by_cases e : q.w = 2
      · exact .inr ⟨e, by have := most_le (b := 15) hq e rfl; show q.v < ((16 : Nat) : Int); omega⟩
      · exact .inl (by omega)
    -- set
    refine ⟨2, rfl, by decide, by decide, for_range (lo := 0) (n := 2) (fun i σ H2 => (∃ v2 : Option V, σ = [some v, some (.ref fm), v2]) ∧ Same H H2 ∧ ∃ kvs, H2 fm = some (.dT kvs) ∧ FW H2 kvs (fun q => q.w < 3 ∨ (q.w = 3 ∧ q.v < (i : Int))) ∧ 0 < kvs.length ∧ kvs.length ≤ 18 + i) ⟨⟨_, rfl⟩, s2n, kv2n, d2n, f2n.weak (fun q hq hd => by rcases hd with h | ⟨_, h⟩; exact h; exact absurd hq.2.1 (Int.not_le.mpr h)), p2n, by omega⟩ ?_ ?_⟩
    · rintro i σ H3 hi ⟨⟨v3, rfl⟩, s3, kv3, d3, f3, p3, l3⟩
      refine ⟨_, rfl, (by show 2 ≤ sizeLine; decide), fun vx hvx => ⟨_, rfl, _, rfl, (by show 8 ≤ sizeLine; decide), fun kx hkx => ?_⟩⟩
      have tx := (Same.new (o := HO.tup [V.str "set", .int (0 + (i : Int))]) hvx).trans (Same.new (o := HO.tup [V.int 0, .int 9, .int (0 + (i : Int)), .int 0, .int 0, .int 0, .int 0, .int 0]) hkx)
      have rvx : ReqAt (upd (upd H3 vx (.tup [V.str "set", .int (0 + (i : Int))])) kx (.tup [V.int 0, .int 9, .int (0 + (i : Int)), .int 0, .int 0, .int 0, .int 0, .int 0])) (.ref vx) ⟨3, 0 + (i : Int)⟩ := ⟨vx, rfl, Same.new hkx _ _ upd_same⟩
      have kkx : (upd (upd H3 vx (.tup [V.str "set", .int (0 + (i : Int))])) kx (.tup [V.int 0, .int 9, .int (0 + (i : Int)), .int 0, .int 0, .int 0, .int 0, .int 0])) kx = some (.tup ((rowK (reqBytes ⟨3, 0 + (i : Int)⟩)).map kV)) := upd_same
      refine ⟨fm, _, rfl, DPut.t (k := rowK (reqBytes ⟨3, 0 + (i : Int)⟩)) (tx _ _ d3) kkx (Nat.lt_of_le_of_lt (show kv3.length ≤ 400 by omega) (by decide)), ?_⟩
      have kpx := kt_put (o' := .dT (putK kv3 (rowK (reqBytes ⟨3, 0 + (i : Int)⟩)) (.ref vx))) (tx _ _ d3) dT_nt
      have sx := same_fresh (o := .dT (putK kv3 (rowK (reqBytes ⟨3, 0 + (i : Int)⟩)) (.ref vx))) (s3.trans tx) fm0
      have fx : FW _ (putK kv3 (rowK (reqBytes ⟨3, 0 + (i : Int)⟩)) (.ref vx)) (fun q => q.w < 3 ∨ (q.w = 3 ∧ q.v < ((i + 1 : Nat) : Int))) := ((f3.kt (Same.kt tx)).kt kpx).put (r := ⟨3, 0 + (i : Int)⟩) ⟨by show 3 < 8; decide, by show 0 ≤ 0 + (i : Int); omega, by show 0 + (i : Int) ≤ 1; omega⟩ (rvx.kt kpx) (fun q hq hd => one_more hd)
      have lx := length_putK kv3 (rowK (reqBytes ⟨3, 0 + (i : Int)⟩)) (V.ref vx) |> fun z => Nat.le_trans z (Nat.succ_le_succ l3)
      refine ⟨⟨_, rfl⟩, sx, _, upd_same, fx, ?_, by omega⟩
      unfold putK
      split
      · rw [List.length_map]; exact p3
      · rw [List.length_append]; exact Nat.lt_of_lt_of_le p3 (Nat.le_add_right _ _)
    rintro σ H2nn ⟨⟨v2nn, rfl⟩, s2nn, kv2nn, d2nn, f2nn, p2nn, l2nn⟩
    replace f2nn : FW H2nn kv2nn (fun q => q.w < 4) := f2nn.weak fun q hq hd => by
      have hd : q.w < 4 := hd
      by_cases e : q.w = 3
      · exact .inr ⟨e, by have := most_le (b := 1) hq e rfl; show q.v < ((2 : Nat) : Int); omega⟩
      · exact .inl (by omega)
    -- clear
    refine ⟨256, rfl, by decide, by decide, for_range (lo := 0) (n := 256) (fun i σ H2 => (∃ v2 : Option V, σ = [some v, some (.ref fm), v2]) ∧ Same H H2 ∧ ∃ kvs, H2 fm = some (.dT kvs) ∧ FW H2 kvs (fun q => q.w < 4 ∨ (q.w = 4 ∧ q.v < (i : Int))) ∧ 0 < kvs.length ∧ kvs.length ≤ 20 + i) ⟨⟨_, rfl⟩, s2nn, kv2nn, d2nn, f2nn.weak (fun q hq hd => by rcases hd with h | ⟨_, h⟩; exact h; exact absurd hq.2.1 (Int.not_le.mpr h)), p2nn, by omega⟩ ?_ ?_⟩
    · rintro i σ H3 hi ⟨⟨v3, rfl⟩, s3, kv3, d3, f3, p3, l3⟩
      refine ⟨_, rfl, (by show 2 ≤ sizeLine; decide), fun vx hvx => ⟨_, rfl, _, rfl, (by show 8 ≤ sizeLine; decide), fun kx hkx => ?_⟩⟩
      have tx := (Same.new (o := HO.tup [V.str "clear", .int (0 + (i : Int))]) hvx).trans (Same.new (o := HO.tup [V.int 2, .int 1, .int 0, .int 0, .int (0 + (i : Int)), .int 0, .int 0, .int 0]) hkx)
      have rvx : ReqAt (upd (upd H3 vx (.tup [V.str "clear", .int (0 + (i : Int))])) kx (.tup [V.int 2, .int 1, .int 0, .int 0, .int (0 + (i : Int)), .int 0, .int 0, .int 0])) (.ref vx) ⟨4, 0 + (i : Int)⟩ := ⟨vx, rfl, Same.new hkx _ _ upd_same⟩
      have kkx : (upd (upd H3 vx (.tup [V.str "clear", .int (0 + (i : Int))])) kx (.tup [V.int 2, .int 1, .int 0, .int 0, .int (0 + (i : Int)), .int 0, .int 0, .int 0])) kx = some (.tup ((rowK (reqBytes ⟨4, 0 + (i : Int)⟩)).map kV)) := upd_same
      refine ⟨fm, _, rfl, DPut.t (k := rowK (reqBytes ⟨4, 0 + (i : Int)⟩)) (tx _ _ d3) kkx (Nat.lt_of_le_of_lt (show kv3.length ≤ 400 by omega) (by decide)), ?_⟩
      have kpx := kt_put (o' := .dT (putK kv3 (rowK (reqBytes ⟨4, 0 + (i : Int)⟩)) (.ref vx))) (tx _ _ d3) dT_nt
      have sx := same_fresh (o := .dT (putK kv3 (rowK (reqBytes ⟨4, 0 + (i : Int)⟩)) (.ref vx))) (s3.trans tx) fm0
      have fx : FW _ (putK kv3 (rowK (reqBytes ⟨4, 0 + (i : Int)⟩)) (.ref vx)) (fun q => q.w < 4 ∨ (q.w = 4 ∧ q.v < ((i + 1 : Nat) : Int))) := ((f3.kt (Same.kt tx)).kt kpx).put (r := ⟨4, 0 + (i : Int)⟩) ⟨by show 4 < 8; decide, by show 0 ≤ 0 + (i : Int); omega, by show 0 + (i : Int) ≤ 255; omega⟩ (rvx.kt kpx) (fun q hq hd => one_more hd)
      have lx := length_putK kv3 (rowK (reqBytes ⟨4, 0 + (i : Int)⟩)) (V.ref vx) |> fun z => Nat.le_trans z (Nat.succ_le_succ l3)
      refine ⟨⟨_, rfl⟩, sx, _, upd_same, fx, ?_, by omega⟩
      unfold putK
      split
      · rw [List.length_map]; exact p3
      · rw [List.length_append]; exact Nat.lt_of_lt_of_le p3 (Nat.le_add_right _ _)
    rintro σ H2nnn ⟨⟨v2nnn, rfl⟩, s2nnn, kv2nnn, d2nnn, f2nnn, p2nnn, l2nnn⟩
    replace f2nnn : FW H2nnn kv2nnn (fun q => q.w < 5) := f2nnn.weak fun q hq hd => by
      have hd : q.w < 5 := hd
      by_cases e : q.w = 4
      · exact .inr ⟨e, by have := most_le (b := 255) hq e rfl; show q.v < ((256 : Nat) : Int); omega⟩
      · exact .inl (by omega)
    -- port, reset, shut
    refine ⟨5, rfl, by decide, by decide, for_range (lo := 0) (n := 5) (fun i σ H2 => (∃ v2 : Option V, σ = [some v, some (.ref fm), v2]) ∧ Same H H2 ∧ ∃ kvs, H2 fm = some (.dT kvs) ∧ FW H2 kvs (fun q => q.w < 5 ∨ (5 ≤ q.w ∧ q.v < (i : Int))) ∧ 0 < kvs.length ∧ kvs.length ≤ 276 + 3 * i)
      ⟨⟨_, rfl⟩, s2nnn, kv2nnn, d2nnn, f2nnn.weak (fun q hq hd => by rcases hd with h | ⟨_, h⟩; exact h; exact absurd hq.2.1 (Int.not_le.mpr h)), p2nnn, by omega⟩ ?_ ?_⟩
    · rintro i σ H3 hi ⟨⟨v3, rfl⟩, s3, kv3, d3, f3, p3, l3⟩
      refine ⟨_, rfl, (by show 2 ≤ sizeLine; decide), fun vx hvx => ⟨_, rfl, _, rfl, (by show 8 ≤ sizeLine; decide), fun kx hkx => ?_⟩⟩
      have tx := (Same.new (o := HO.tup [V.str "port", .int (0 + (i : Int))]) hvx).trans (Same.new (o := HO.tup [V.int 163, .int 0, .int 0, .int 0, .int (0 + (i : Int)), .int 0, .int 2, .int 0]) hkx)
      have rvx : ReqAt (upd (upd H3 vx (.tup [V.str "port", .int (0 + (i : Int))])) kx (.tup [V.int 163, .int 0, .int 0, .int 0, .int (0 + (i : Int)), .int 0, .int 2, .int 0])) (.ref vx) ⟨5, 0 + (i : Int)⟩ := ⟨vx, rfl, Same.new hkx _ _ upd_same⟩
      have kkx : (upd (upd H3 vx (.tup [V.str "port", .int (0 + (i : Int))])) kx (.tup [V.int 163, .int 0, .int 0, .int 0, .int (0 + (i : Int)), .int 0, .int 2, .int 0])) kx = some (.tup ((rowK (reqBytes ⟨5, 0 + (i : Int)⟩)).map kV)) := upd_same
      refine ⟨fm, _, rfl, DPut.t (k := rowK (reqBytes ⟨5, 0 + (i : Int)⟩)) (tx _ _ d3) kkx (Nat.lt_of_le_of_lt (show kv3.length ≤ 400 by omega) (by decide)), ?_⟩
      have kpx := kt_put (o' := .dT (putK kv3 (rowK (reqBytes ⟨5, 0 + (i : Int)⟩)) (.ref vx))) (tx _ _ d3) dT_nt
      have sx := same_fresh (o := .dT (putK kv3 (rowK (reqBytes ⟨5, 0 + (i : Int)⟩)) (.ref vx))) (s3.trans tx) fm0
      have fx : FW _ (putK kv3 (rowK (reqBytes ⟨5, 0 + (i : Int)⟩)) (.ref vx)) (fun q => (q.w < 5 ∨ (5 ≤ q.w ∧ q.v < (i : Int))) ∨ q = ⟨5, 0 + (i : Int)⟩) := ((f3.kt (Same.kt tx)).kt kpx).put (r := ⟨5, 0 + (i : Int)⟩) ⟨by show 5 < 8; decide, by show 0 ≤ 0 + (i : Int); omega, by show 0 + (i : Int) ≤ 4; omega⟩ (rvx.kt kpx) (fun q hq hd => hd)
      have lx := length_putK kv3 (rowK (reqBytes ⟨5, 0 + (i : Int)⟩)) (V.ref vx) |> fun z => Nat.le_trans z (Nat.succ_le_succ l3)
      have dx := upd_same (H := upd (upd H3 vx (.tup [V.str "port", .int (0 + (i : Int))])) kx (.tup [V.int 163, .int 0, .int 0, .int 0, .int (0 + (i : Int)), .int 0, .int 2, .int 0])) (a := fm) (o := .dT (putK kv3 (rowK (reqBytes ⟨5, 0 + (i : Int)⟩)) (.ref vx)))
      revert sx fx lx dx
      generalize hkx : putK kv3 (rowK (reqBytes ⟨5, 0 + (i : Int)⟩)) (.ref vx) = kvx
      generalize hHx : upd (upd (upd H3 vx _) kx _) fm _ = Hx
      intro sx fx lx dx
      have px : 0 < kvx.length := by
        rw [← hkx]
        unfold putK
        split
        · rw [List.length_map]; exact p3
        · rw [List.length_append]; exact Nat.lt_of_lt_of_le p3 (Nat.le_add_right _ _)
      refine ⟨_, rfl, (by show 2 ≤ sizeLine; decide), fun vy hvy => ⟨_, rfl, _, rfl, (by show 8 ≤ sizeLine; decide), fun ky hky => ?_⟩⟩
      have ty := (Same.new (o := HO.tup [V.str "reset", .int (0 + (i : Int))]) hvy).trans (Same.new (o := HO.tup [V.int 35, .int 3, .int 4, .int 0, .int (0 + (i : Int)), .int 0, .int 0, .int 0]) hky)
      have rvy : ReqAt (upd (upd Hx vy (.tup [V.str "reset", .int (0 + (i : Int))])) ky (.tup [V.int 35, .int 3, .int 4, .int 0, .int (0 + (i : Int)), .int 0, .int 0, .int 0])) (.ref vy) ⟨6, 0 + (i : Int)⟩ := ⟨vy, rfl, Same.new hky _ _ upd_same⟩
      have kky : (upd (upd Hx vy (.tup [V.str "reset", .int (0 + (i : Int))])) ky (.tup [V.int 35, .int 3, .int 4, .int 0, .int (0 + (i : Int)), .int 0, .int 0, .int 0])) ky = some (.tup ((rowK (reqBytes ⟨6, 0 + (i : Int)⟩)).map kV)) := upd_same
      refine ⟨fm, _, rfl, DPut.t (k := rowK (reqBytes ⟨6, 0 + (i : Int)⟩)) (ty _ _ dx) kky (Nat.lt_of_le_of_lt (show kvx.length ≤ 400 by omega) (by decide)), ?_⟩
      have kpy := kt_put (o' := .dT (putK kvx (rowK (reqBytes ⟨6, 0 + (i : Int)⟩)) (.ref vy))) (ty _ _ dx) dT_nt
      have sy := same_fresh (o := .dT (putK kvx (rowK (reqBytes ⟨6, 0 + (i : Int)⟩)) (.ref vy))) (sx.trans ty) fm0
      have fy : FW _ (putK kvx (rowK (reqBytes ⟨6, 0 + (i : Int)⟩)) (.ref vy)) (fun q => ((q.w < 5 ∨ (5 ≤ q.w ∧ q.v < (i : Int))) ∨ q = ⟨5, 0 + (i : Int)⟩) ∨ q = ⟨6, 0 + (i : Int)⟩) := ((fx.kt (Same.kt ty)).kt kpy).put (r := ⟨6, 0 + (i : Int)⟩) ⟨by show 6 < 8; decide, by show 0 ≤ 0 + (i : Int); omega, by show 0 + (i : Int) ≤ 4; omega⟩ (rvy.kt kpy) (fun q hq hd => hd)
      have ly := length_putK kvx (rowK (reqBytes ⟨6, 0 + (i : Int)⟩)) (V.ref vy) |> fun z => Nat.le_trans z (Nat.succ_le_succ lx)
      have dy := upd_same (H := upd (upd Hx vy (.tup [V.str "reset", .int (0 + (i : Int))])) ky (.tup [V.int 35, .int 3, .int 4, .int 0, .int (0 + (i : Int)), .int 0, .int 0, .int 0])) (a := fm) (o := .dT (putK kvx (rowK (reqBytes ⟨6, 0 + (i : Int)⟩)) (.ref vy)))
      revert sy fy ly dy
      generalize hky : putK kvx (rowK (reqBytes ⟨6, 0 + (i : Int)⟩)) (.ref vy) = kvy
      generalize hHy : upd (upd (upd Hx vy _) ky _) fm _ = Hy
      intro sy fy ly dy
      have py : 0 < kvy.length := by
        rw [← hky]
        unfold putK
        split
        · rw [List.length_map]; exact px
        · rw [List.length_append]; exact Nat.lt_of_lt_of_le px (Nat.le_add_right _ _)
      refine ⟨_, rfl, (by show 2 ≤ sizeLine; decide), fun vz hvz => ⟨_, rfl, _, rfl, (by show 8 ≤ sizeLine; decide), fun kz hkz => ?_⟩⟩
      have tz := (Same.new (o := HO.tup [V.str "shut", .int (0 + (i : Int))]) hvz).trans (Same.new (o := HO.tup [V.int 35, .int 1, .int 1, .int 0, .int (0 + (i : Int)), .int 0, .int 0, .int 0]) hkz)
      have rvz : ReqAt (upd (upd Hy vz (.tup [V.str "shut", .int (0 + (i : Int))])) kz (.tup [V.int 35, .int 1, .int 1, .int 0, .int (0 + (i : Int)), .int 0, .int 0, .int 0])) (.ref vz) ⟨7, 0 + (i : Int)⟩ := ⟨vz, rfl, Same.new hkz _ _ upd_same⟩
      have kkz : (upd (upd Hy vz (.tup [V.str "shut", .int (0 + (i : Int))])) kz (.tup [V.int 35, .int 1, .int 1, .int 0, .int (0 + (i : Int)), .int 0, .int 0, .int 0])) kz = some (.tup ((rowK (reqBytes ⟨7, 0 + (i : Int)⟩)).map kV)) := upd_same
      refine ⟨fm, _, rfl, DPut.t (k := rowK (reqBytes ⟨7, 0 + (i : Int)⟩)) (tz _ _ dy) kkz (Nat.lt_of_le_of_lt (show kvy.length ≤ 400 by omega) (by decide)), ?_⟩
      have kpz := kt_put (o' := .dT (putK kvy (rowK (reqBytes ⟨7, 0 + (i : Int)⟩)) (.ref vz))) (tz _ _ dy) dT_nt
      have sz := same_fresh (o := .dT (putK kvy (rowK (reqBytes ⟨7, 0 + (i : Int)⟩)) (.ref vz))) (sy.trans tz) fm0
      have fz : FW _ (putK kvy (rowK (reqBytes ⟨7, 0 + (i : Int)⟩)) (.ref vz)) (fun q => q.w < 5 ∨ (5 ≤ q.w ∧ q.v < ((i + 1 : Nat) : Int))) := ((fy.kt (Same.kt tz)).kt kpz).put (r := ⟨7, 0 + (i : Int)⟩) ⟨by show 7 < 8; decide, by show 0 ≤ 0 + (i : Int); omega, by show 0 + (i : Int) ≤ 4; omega⟩ (rvz.kt kpz) (fun q hq hd => three hq hd)
      have lz := length_putK kvy (rowK (reqBytes ⟨7, 0 + (i : Int)⟩)) (V.ref vz) |> fun z => Nat.le_trans z (Nat.succ_le_succ ly)
      refine ⟨⟨_, rfl⟩, sz, _, upd_same, fz, ?_, by omega⟩
      unfold putK
      split
      · rw [List.length_map]; exact py
      · rw [List.length_append]; exact Nat.lt_of_lt_of_le py (Nat.le_add_right _ _)
    rintro σ H4 ⟨⟨v4, rfl⟩, s4, kv4, d4, f4, p4, l4⟩
    refine ⟨_, rfl, k fm H4 fm0 (FW.forms (f4.weak fun q hq _ => ?_) d4 p4 (by omega)) s4⟩
    by_cases e : q.w < 5
    · exact .inl e
    · refine .inr ⟨by omega, ?_⟩
      have h8 := hq.1
      have : q.w = 5 ∨ q.w = 6 ∨ q.w = 7 := by omega
      show q.v < ((5 : Nat) : Int)
      rcases this with e | e | e
      · have := most_le (b := 4) hq e rfl; omega
      · have := most_le (b := 4) hq e rfl; omega
      · have := most_le (b := 4) hq e rfl; omega
end
end Plug
end
section
set_option Elab.async false
set_option linter.all false
set_option maxRecDepth 100000
set_option maxHeartbeats 4000000
namespace Plug
open PySem PySem.Spec PyProof.Rows L2 Mi
section
variable {P : Program} {w : World} {K : PySem.W.Frag} {mg : Str → Option Value} {base : Heap} {C : Addr}
theorem alike_rows (a b : List Int) : AlikeK (rowK a) (rowK b) := by
  unfold AlikeK rowK
  rw [List.map_map, List.map_map]
  exact PySem.W.alike_ints a b
/-! ### _law_drawn_row(bag, forms) -/
def spRow : Sp := fun vs H Q _ => ∃ (b c fm : Addr), vs = [.ref b, .ref fm] ∧ BagAt H b c ∧ FormsAt H fm ∧ ∀ (q : Addr) (row : List Int) H', H' q = some (.tup (row.map V.int)) → row.length = 8 → BagAt H' b c → Fr [b] H H' → Q (.ref q) H'
theorem ok_l_row (T : Txt K w mg C) (D : Dfn K mg "_law_drawn_row" s_l_drawn_row ["_law_bag_here", "_law_forms_here"]) (G : Cl P w K mg base 1 "_law_pull" spPull) (G1 : Cl P w K mg base 2 "_law_one" spOne) : Cl P w K mg base 3 "_law_drawn_row" spRow := by
  refine cl_of D cs_l_drawn_row (fun vs H Q E h => ?_) (fun f cdv A outer s H vs Q E hr h => ?_)
  · obtain ⟨b, c, fm, rfl, _⟩ := h
    rfl
  · obtain ⟨b, c, fm, rfl, hbag, hfm, k⟩ := h
    have nd := cs_l_drawn_row.nd
    have h64 : _ + 64 < cLine := hr.units
    refine ⟨_, (pss_cons (ps_set (i := 2) nd rfl (.inl rfl) (pe_cl G1 hr (by decide) rfl (pa_cons (pv 0) (pa_cons (pe_callB (cr_sortedDT rfl h64) (by rfl) T.sorted (by decide +kernel) (pa_cons (pv 1) pa_nil)) pa_nil)))) (pss_cons (ps_set (i := 3) nd rfl (.inl rfl) (pe_cl G hr (by decide) rfl (pa_cons (pv 0) (pa_cons pe_int pa_nil)))) (pss_cons (ps_if (pt_cmpR op_lt (pv 3) pe_int (nomark _)) (pss_one (ps_set (i := 2) nd rfl (.inl rfl) (pe_ix ix_list (pe_lst (pa_cons (pe_tup (pa_cons pe_int (pa_cons pe_int (pa_cons pe_int (pa_cons pe_int (pa_cons pe_int (pa_cons pe_int (pa_cons pe_int (pa_cons pe_int pa_nil))))))))) (pa_cons (pe_tup (pa_cons pe_int (pa_cons pe_int (pa_cons pe_int (pa_cons pe_int (pa_cons pe_int (pa_cons pe_int (pa_cons pe_int (pa_cons pe_int pa_nil))))))))) (pa_cons (pe_tup (pa_cons pe_int (pa_cons pe_int (pa_cons pe_int (pa_cons pe_int (pa_cons pe_int (pa_cons pe_int (pa_cons pe_int (pa_cons pe_int pa_nil))))))))) pa_nil)))) (pe_cl G hr (by decide) rfl (pa_cons (pv 0) (pa_cons pe_int pa_nil))) (fun _ _ => rfl)))) pss_nil) (pss_cons (ps_if (pt_cmpR op_eq (pv 3) pe_int (nomark _)) (pss_one (ps_set (i := 2) nd rfl (.inl rfl) (pe_op op_catU (pe_slice sl_tupU (pv 2) po_none (po_some pe_int)) (pe_tup (pa_cons (pe_op op_add pe_int (pe_cl G hr (by decide) rfl (pa_cons (pv 0) (pa_cons pe_int pa_nil)))) pa_nil))))) pss_nil) (pss_one (ps_ret (pv 2))))))), ?_⟩
    obtain ⟨kvs, hf, _, _, h0, h300, hks⟩ := hfm
    refine ⟨_, rfl, _, rfl, fm, kvs, rfl, .inl hf, fun p hp q hq => ?_, fun p hp => ?_, fun bs l hbl hbs hl => ?_⟩
    · obtain ⟨r, _, e⟩ := hks p hp
      obtain ⟨r', _, e'⟩ := hks q hq
      rw [e, e']
      exact alike_rows _ _
    · obtain ⟨r, _, e⟩ := hks p hp
      rw [e]
      intro z
      have := congrArg List.length z
      unfold rowK at this
      rw [List.length_map, reqBytes_len] at this
      cases this
    · have s1 := Same.new (o := HO.lst (bs.map V.ref)) hl
      refine ⟨b, c, l, _, rfl, hbag.same s1, upd_same, hbag.new hl, by rw [List.length_map, hbl]; exact h0, by rw [List.length_map, hbl]; omega, fun i x H2 hx hb2 f2 => ?_⟩
      rw [List.getElem?_map] at hx
      obtain ⟨ra, hra, rfl⟩ := Option.map_eq_some_iff.mp hx
      obtain ⟨kv, hkv, e⟩ := hbs ra (List.mem_of_getElem? hra)
      obtain ⟨r, hok, er⟩ := hks kv hkv
      have f12 : Fr [b] H H2 := (Fr.of s1).trans f2
      have q2 : H2 ra = some (.tup ((reqBytes r).map V.int)) := by
        rw [er, rowK_V] at e
        exact f12.kt _ _ e
      refine ⟨_, rfl, b, c, 8, rfl, hb2, (by decide), (by decide), fun wd H3 w0 w1 hb3 f3 => ?_⟩
      have f13 := f12.trans f3
      -- the row, whatever it is: the last step
      have last : ∀ (qa : Addr) (row : List Int) (H4 : Hp), H4 qa = some (.tup (row.map V.int)) → row.length = 8 → BagAt H4 b c → Fr [b] H H4 → wd ≠ 7 → Q (.ref qa) H4 := fun qa row H4 a1 a2 a3 a4 _ => k qa row H4 a1 a2 a3 a4
      refine ⟨_, rfl, _, _, rfl, rfl, _, rfl, ?_⟩
      by_cases c4 : wd < 4
      · refine bT (decide_eq_true c4) ?_
        refine ⟨(by show 8 ≤ sizeLine; decide), fun t1 h1 => ⟨(by show 8 ≤ sizeLine; decide), fun t2 h2 => ⟨(by show 8 ≤ sizeLine; decide), fun t3 h3 => ⟨(by show 3 ≤ sizeLine; decide), fun l4 h4 => ?_⟩⟩⟩⟩
        have n1 := Same.new (o := HO.tup [V.int 128, .int 6, .int 0, .int 1, .int 0, .int 0, .int 18, .int 0]) h1
        have n2 := Same.new (o := HO.tup [V.int 128, .int 6, .int 0, .int 2, .int 0, .int 0, .int 255, .int 0]) h2
        have n3 := Same.new (o := HO.tup [V.int 0, .int 9, .int 1, .int 0, .int 0, .int 0, .int 0, .int 0]) h3
        have n4 := Same.new (o := HO.lst [V.ref t1, .ref t2, .ref t3]) h4
        have s4 := ((n1.trans n2).trans n3).trans n4
        refine ⟨_, rfl, b, c, 3, rfl, hb3.same s4, (by decide), (by decide), fun ix H5 x0 x1 hb5 f5 => ?_⟩
        have nl4 : l4 ≠ b := (hb3.same ((n1.trans n2).trans n3)).new h4
        have l5 := f5.at (upd_same (H := upd (upd (upd H3 t1 (.tup [V.int 128, .int 6, .int 0, .int 1, .int 0, .int 0, .int 18, .int 0])) t2 (.tup [V.int 128, .int 6, .int 0, .int 2, .int 0, .int 0, .int 255, .int 0])) t3 (.tup [V.int 0, .int 9, .int 1, .int 0, .int 0, .int 0, .int 0, .int 0])) (a := l4) (o := .lst [V.ref t1, .ref t2, .ref t3])) (not1 nl4)
        have a1 := f5.kt _ _ (n4 _ _ (n3 _ _ (n2 _ _ (upd_same (H := H3) (a := t1) (o := .tup [V.int 128, .int 6, .int 0, .int 1, .int 0, .int 0, .int 18, .int 0])))))
        have a2 := f5.kt _ _ (n4 _ _ (n3 _ _ (upd_same (H := upd H3 t1 (.tup [V.int 128, .int 6, .int 0, .int 1, .int 0, .int 0, .int 18, .int 0])) (a := t2) (o := .tup [V.int 128, .int 6, .int 0, .int 2, .int 0, .int 0, .int 255, .int 0]))))
        have a3 := f5.kt _ _ (n4 _ _ (upd_same (H := upd (upd H3 t1 (.tup [V.int 128, .int 6, .int 0, .int 1, .int 0, .int 0, .int 18, .int 0])) t2 (.tup [V.int 128, .int 6, .int 0, .int 2, .int 0, .int 0, .int 255, .int 0])) (a := t3) (o := .tup [V.int 0, .int 9, .int 1, .int 0, .int 0, .int 0, .int 0, .int 0])))
        have f15 := (f13.and s4).trans f5
        obtain ⟨qa, row, eq, hq, h8⟩ : ∃ (qa : Addr) (row : List Int), atI [V.ref t1, .ref t2, .ref t3] ix = some (.ref qa) ∧ H5 qa = some (.tup (row.map V.int)) ∧ row.length = 8 := by
          have : ix = 0 ∨ ix = 1 ∨ ix = 2 := by omega
          rcases this with rfl | rfl | rfl
          · exact ⟨t1, [128, 6, 0, 1, 0, 0, 18, 0], rfl, a1, rfl⟩
          · exact ⟨t2, [128, 6, 0, 2, 0, 0, 255, 0], rfl, a2, rfl⟩
          · exact ⟨t3, [0, 9, 1, 0, 0, 0, 0, 0], rfl, a3, rfl⟩
        refine ⟨l4, _, _, _, rfl, rfl, SqL.of l5, eq, ?_⟩
        refine ⟨_, rfl, rfl, _, rfl, bF (decide_eq_false fun z => ?_) ⟨_, rfl, last qa row H5 hq h8 hb5 f15 (by omega)⟩⟩
        have : wd = 7 := by injection z
        omega
      · refine bF (decide_eq_false c4) ?_
        refine ⟨_, rfl, rfl, _, rfl, ?_⟩
        have q3 := f3.kt _ _ q2
        by_cases c7 : wd = 7
        · refine bT (decide_eq_true (congrArg V.int c7)) ?_
          refine ⟨_, rfl, 7, rfl, ra, _, rfl, q3, fun b4 H4 s4 g4 => ?_⟩
          refine ⟨_, rfl, b, c, 9, rfl, hb3.same s4, (by decide), (by decide), fun z H5 z0 z1 hb5 f5 => ⟨_, _, rfl, rfl, (by show 1 ≤ sizeLine; decide), fun t6 h6 => ?_⟩⟩
          have s6 := Same.new (o := HO.tup [V.int (1 + z)]) h6
          have e7 : cutV ((reqBytes r).map V.int) none (some 7) = ((reqBytes r).take 7).map V.int := (cutV_to _ 7).trans List.map_take.symm
          rw [e7] at g4
          have l7 : ((reqBytes r).take 7).length = 7 := by rw [List.length_take, reqBytes_len]; rfl
          refine ⟨b4, t6, _, _, rfl, rfl, s6 _ _ (f5.kt _ _ g4), upd_same, by rw [List.length_map, l7]; show 7 + 1 ≤ sizeLine; decide, fun q8 H8 s8 g8 => ?_⟩
          refine ⟨_, rfl, k q8 ((reqBytes r).take 7 ++ [1 + z]) H8 ?_ ?_ (((hb5.same s6).same s8)) ((((f13.and s4).trans f5).and s6).and s8)⟩
          · rw [g8, List.map_append]
            rfl
          · rw [List.length_append, l7]
            rfl
        · exact bF (decide_eq_false fun z => c7 (by injection z)) ⟨_, rfl, last ra _ H3 q3 (reqBytes_len r) hb3 f13 c7⟩
end
end Plug
end
section
set_option Elab.async false
set_option linter.all false
set_option maxRecDepth 100000
set_option maxHeartbeats 4000000
/-! LS: the thing and the law's machine side by side. -/
namespace Plug
open PySem PySem.Spec PyProof.Rows L2 Mi
section
variable {X : Cx} {k j : Nat} {C : Addr} {x : Str} {sp : Sp} {p pos : Pos} {e : Expr} {es : List Expr} {t : TA}
/-- C(e, ..) by the promise of its __init__ -/
theorem pe_mkM (c : Mt X.prog X.w X.K X.mg X.base k C "__init__" sp) (hmk : PySem.W.makesIn X.K C = true) (hkp : PySem.W.keepIn X.K (.ref C) = true) (hr : Room j X.A) (hk : k + 1 ≤ j) (hg : Gl X x) (hm : X.mg x = some (.ref C)) (ha : PA X (e :: es) t)
    (hdb : (x == ("__debug__" : Str)) = false := by decide) (he : starEach (e :: es) X.env = (false, eval e X.env) :: starEach es X.env := by rfl) (hpl : (backTo pos (starEach es X.env)).any (·.1) = false := by rfl) :
    PE X (.Call (.Name x p) (e :: es) [] pos) (tMake C sp [] E0 t) := by
  obtain ⟨f, fd, ps, F, hm', b⟩ := c.ex
  exact pe_make ⟨hmk, hm'.at_, hm'.fn, hkp⟩ F (hr.mono hk) hg hm b .nil pass0 ha hdb he hpl
end
theorem sm_int {n : Nat} {H : Hp} (i : Int) : Sm n H (.int i) (.int i) := Sm.of (.inl ⟨i, rfl, rfl⟩)
theorem sm_str {n : Nat} {H : Hp} (z : Str) : Sm n H (.str z) (.str z) := Sm.of (.inr (.inl ⟨z, rfl, rfl⟩))
theorem sm_bl {n : Nat} {H : Hp} (z : Bool) : Sm n H (.bl z) (.bl z) := Sm.of (.inr (.inr ⟨z, rfl, rfl⟩))
theorem sm_tup {n : Nat} {H : Hp} {a b : Addr} {xs ys : List V} (ha : H a = some (.tup xs)) (hb : H b = some (.tup ys)) (hl : xs.length ≤ 100) (hp : Paired (Sm n H) xs ys) : Sm (n + 1) H (.ref a) (.ref b) := Or.inr ⟨a, b, xs, ys, rfl, rfl, .inl ⟨ha, hb⟩, hl, hp⟩
theorem sm_lst {n : Nat} {H : Hp} {a b : Addr} {xs ys : List V} (ha : H a = some (.lst xs)) (hb : H b = some (.lst ys)) (hl : xs.length ≤ 100) (hp : Paired (Sm n H) xs ys) : Sm (n + 1) H (.ref a) (.ref b) := Or.inr ⟨a, b, xs, ys, rfl, rfl, .inr ⟨ha, hb⟩, hl, hp⟩
theorem sm_ints {H : Hp} : ∀ xs : List Int, Paired (Sm 0 H) (xs.map V.int) (xs.map V.int)
  | [] => .nil
  | x :: r => .cons (sm_int x) (sm_ints r)
/-- answers of the same kind are the same to the law -/
theorem sm_ans {H : Hp} {v v' : V} : ∀ {a : An}, (∀ m xs, a = .data m xs → xs.length ≤ 100) → AnsAt H v a → AnsAt H v' a → Sm 2 H v v'
  | .stall, _, ⟨a, e, h⟩, ⟨b, e', h'⟩ => by subst e e'; exact sm_tup h h' (show 1 ≤ 100 by decide) (.cons (sm_str _) .nil)
  | .nak, _, ⟨a, e, h⟩, ⟨b, e', h'⟩ => by subst e e'; exact sm_tup h h' (show 1 ≤ 100 by decide) (.cons (sm_str _) .nil)
  | .data m xs, hl, ⟨a, q, e, h, hq⟩, ⟨b, q', e', h', hq'⟩ => by
    subst e e'
    exact sm_tup h h' (show 3 ≤ 100 by decide) (.cons (sm_str _) (.cons (sm_int _) (.cons (sm_tup hq hq' (by rw [List.length_map]; exact hl m xs rfl) (sm_ints xs)) .nil)))
theorem sm_half {H : Hp} {v v' : V} {b : Bool} (h : HalfAt H v b) (h' : HalfAt H v' b) : Sm 2 H v v' := by
  obtain ⟨a, e, rfl, he, ha⟩ := h
  obtain ⟨a', e', rfl, he', ha'⟩ := h'
  cases b with
  | true => exact sm_tup ha ha' (show 3 ≤ 100 by decide) (.cons (sm_int _) (.cons (sm_bl _) (.cons (sm_tup he he' (Nat.zero_le _) .nil) .nil)))
  | false => exact sm_tup ha ha' (show 4 ≤ 100 by decide) (.cons (sm_int _) (.cons (sm_bl _) (.cons (sm_int _) (.cons (sm_tup he he' (Nat.zero_le _) .nil) .nil))))
/-! ### both machines in one heap -/
structure J (C : Addr) (p : Pl) (H : Hp) (b c fm x hp hd wl m mh ml : Addr) (sT sM : Ms) (n : Nat) : Prop where
  bag : BagAt H b c
  th : ThAt C p H x hp hd wl sT n
  ma : MAt p H m fm mh ml sM
  w1 : wl ≠ b
  w2 : wl ≠ c
  w3 : wl ≠ ml
  b1 : hp ≠ b
  b2 : ml ≠ b
  d1 : hd ≠ mh
  d2 : hd ≠ fm
section
variable {C : Addr} {p : Pl} {H H' : Hp} {b c fm x hp hd wl m mh ml : Addr} {sT sM : Ms} {n : Nat}
/-- what stands where, by its kind -/
theorem J.kinds (j : J C p H b c fm x hp hd wl m mh ml sT sM n) : ∃ (vb vc vw vp vl : List V) (C' dx : Addr) (fs : List (Str × V)) (kh km kf : List (List Key × V)) (kd : List (Key × V)),
    H b = some (.lst vb) ∧ H c = some (.lst vc) ∧ H wl = some (.lst vw) ∧ H hp = some (.lst vp) ∧ H ml = some (.lst vl) ∧ H x = some (.ins C' dx fs) ∧ H hd = some (.dT kh) ∧ H mh = some (.dT km) ∧ H fm = some (.dT kf) ∧ H m = some (.dK kd) := by
  obtain ⟨cs, k, z, q, hb, hc, _⟩ := j.bag
  obtain ⟨dx, fa, pc, rq, hx, R⟩ := j.th
  obtain ⟨fa', rq', hm, M⟩ := j.ma
  obtain ⟨ps, h1, _⟩ := R.ports
  obtain ⟨k1, h2, _⟩ := R.halves
  obtain ⟨ws, h3, _⟩ := R.wish
  obtain ⟨kf, h4, _⟩ := M.forms
  obtain ⟨k2, h5, _⟩ := M.halves
  obtain ⟨vl, h6, _⟩ := M.pieces
  exact ⟨_, _, ws, ps, vl, C, dx, _, k1, k2, kf, _, hb, hc, h3, h1, h6, hx, h2, h5, h4, hm⟩
theorem J.same (j : J C p H b c fm x hp hd wl m mh ml sT sM n) (s : Same H H') : J C p H' b c fm x hp hd wl m mh ml sT sM n :=
  ⟨j.bag.fr (Fr.of (l := []) s) (by simp) (by simp), j.th.fr (Fr.of (l := []) s) (by simp) (by simp) (by simp) (by simp), j.ma.same s, j.w1, j.w2, j.w3, j.b1, j.b2, j.d1, j.d2⟩
theorem J.pull (j : J C p H b c fm x hp hd wl m mh ml sT sM n) (f : Fr [b] H H') (hb : BagAt H' b c) : J C p H' b c fm x hp hd wl m mh ml sT sM n := by
  obtain ⟨_, _, _, _, _, _, _, _, _, _, _, _, kb, kc, kw, kp, kl, kx, kh, km, kf, kd⟩ := j.kinds
  exact ⟨hb, j.th.fr f (not1 (ne_of kx kb fun z => by cases z)) (not1 j.b1) (not1 (ne_of kh kb fun z => by cases z)) (not1 j.w1),
    j.ma.fr f (not1 (ne_of kd kb fun z => by cases z)) (not1 (ne_of kf kb fun z => by cases z)) (not1 (ne_of km kb fun z => by cases z)) (not1 j.b2), j.w1, j.w2, j.w3, j.b1, j.b2, j.d1, j.d2⟩
theorem J.thing (j : J C p H b c fm x hp hd wl m mh ml sT sM n) {hd' : Addr} {sT' : Ms} {n' : Nat} (f : Fr [x, hd, wl] H H') (h : hd' = hd ∨ H hd' = none) (t : ThAt C p H' x hp hd' wl sT' n') : J C p H' b c fm x hp hd' wl m mh ml sT' sM n' := by
  obtain ⟨_, _, _, _, _, _, _, _, _, _, _, _, kb, kc, kw, kp, kl, kx, kh, km, kf, kd⟩ := j.kinds
  have fresh : ∀ {q : Addr} {o : HO}, H q = some o → hd ≠ q → hd' ≠ q := fun e z => by
    rcases h with rfl | h
    · exact z
    · exact fun y => by rw [y, e] at h; cases h
  exact ⟨j.bag.fr f (not3 (ne_of kb kx fun z => by cases z) (ne_of kb kh fun z => by cases z) (Ne.symm j.w1)) (not3 (ne_of kc kx fun z => by cases z) (ne_of kc kh fun z => by cases z) (Ne.symm j.w2)), t,
    j.ma.fr f (not3 (ne_of kd kx fun z => by cases z) (ne_of kd kh fun z => by cases z) (ne_of kd kw fun z => by cases z)) (not3 (ne_of kf kx fun z => by cases z) (Ne.symm j.d2) (ne_of kf kw fun z => by cases z))
      (not3 (ne_of km kx fun z => by cases z) (Ne.symm j.d1) (ne_of km kw fun z => by cases z)) (not3 (ne_of kl kx fun z => by cases z) (ne_of kl kh fun z => by cases z) (Ne.symm j.w3)),
    j.w1, j.w2, j.w3, j.b1, j.b2, fresh km j.d1, fresh kf j.d2⟩
theorem J.mach (j : J C p H b c fm x hp hd wl m mh ml sT sM n) {mh' ml' : Addr} {sM' : Ms} (f : Fr [m, mh] H H') (h : mh' = mh ∨ H mh' = none) (h' : ml' = ml ∨ H ml' = none) (t : MAt p H' m fm mh' ml' sM') : J C p H' b c fm x hp hd wl m mh' ml' sT sM' n := by
  obtain ⟨_, _, _, _, _, _, _, _, _, _, _, _, kb, kc, kw, kp, kl, kx, kh, km, kf, kd⟩ := j.kinds
  have freshH : ∀ {q : Addr} {o : HO}, H q = some o → mh ≠ q → mh' ≠ q := fun e z => by
    rcases h with rfl | h
    · exact z
    · exact fun y => by rw [y, e] at h; cases h
  have freshL : ∀ {q : Addr} {o : HO}, H q = some o → ml ≠ q → ml' ≠ q := fun e z => by
    rcases h' with rfl | h'
    · exact z
    · exact fun y => by rw [y, e] at h'; cases h'
  exact ⟨j.bag.fr f (not2 (ne_of kb kd fun z => by cases z) (ne_of kb km fun z => by cases z)) (not2 (ne_of kc kd fun z => by cases z) (ne_of kc km fun z => by cases z)),
    j.th.fr f (not2 (ne_of kx kd fun z => by cases z) (ne_of kx km fun z => by cases z)) (not2 (ne_of kp kd fun z => by cases z) (ne_of kp km fun z => by cases z)) (not2 (ne_of kh kd fun z => by cases z) j.d1) (not2 (ne_of kw kd fun z => by cases z) (ne_of kw km fun z => by cases z)),
    t, j.w1, j.w2, Ne.symm (freshL kw (Ne.symm j.w3)), j.b1, freshL kb j.b2, Ne.symm (freshH kh (Ne.symm j.d1)), j.d2⟩
theorem J.more (j : J C p H b c fm x hp hd wl m mh ml sT sM n) {n' : Nat} (h : n ≤ n') : J C p H b c fm x hp hd wl m mh ml sT sM n' := ⟨j.bag, j.th.more h, j.ma, j.w1, j.w2, j.w3, j.b1, j.b2, j.d1, j.d2⟩
end
/-! ### pieces stay short -/
def Short (s : Ms) : Prop := ∀ xs ∈ s.pcs, xs.length ≤ 100
theorem cutL_short (row : List Int) : ∀ xs ∈ cutL row, xs.length ≤ 100 := by
  intro xs h
  unfold cutL at h
  obtain ⟨k, _, rfl⟩ := List.mem_map.mp h
  rw [List.length_take]
  omega
theorem short0 : Short ms0 := fun xs h => by cases h
theorem short_setup {p : Pl} {o : Option Rq} {s : Ms} : Short (setupS p o s) := by
  unfold setupS Short
  intro xs h
  split at h
  · cases h
  · split at h
    · split at h
      · exact cutL_short _ xs h
      · cases h
    · split at h
      · cases h
      · cases h
theorem short_in {s : Ms} (h : Short s) : Short (inS s).2 := by
  unfold inS
  split
  · exact h
  · split <;> exact h
  · split
    · split <;> exact h
    · exact h
  · exact h
  · exact h
theorem short_went {s : Ms} (h : Short s) : Short (wentS s) := by
  unfold wentS
  split
  · split
    · rename_i x t e
      exact fun xs hx => h xs (by rw [e]; exact List.mem_cons_of_mem _ hx)
    · exact h
  · split <;> exact h
  · exact h
  · exact h
theorem short_out {s : Ms} {m : Int} {d : List Int} (h : Short s) : Short (outS s m d).2 := by
  unfold outS
  split <;> exact h
theorem short_ans {s : Ms} (h : Short s) : ∀ m xs, (inS s).1 = .data m xs → xs.length ≤ 100 := by
  intro m xs e
  unfold inS at e
  split at e
  · cases e
  · split at e
    · rename_i x t e2
      cases e
      exact h xs (by rw [e2]; exact List.mem_cons_self)
    · cases e
  · split at e
    · split at e
      · cases e; exact Nat.zero_le _
      · cases e; exact Nat.zero_le _
    · cases e; exact Nat.zero_le _
  · cases e; exact Nat.zero_le _
  · cases e
end Plug
end
section
set_option Elab.async false
set_option linter.all false
set_option maxRecDepth 100000
set_option maxHeartbeats 4000000
namespace Plug
open PySem PySem.Spec PyProof.Rows L2 Mi
theorem isReq_ex (row : List Int) : ∃ o, IsReq row o := by
  by_cases h : ∃ r, okRq r ∧ reqBytes r = row
  · obtain ⟨r, hr⟩ := h
    exact ⟨some r, hr⟩
  · exact ⟨none, fun r a e => h ⟨r, a, e⟩⟩
theorem ans_head {H : Hp} {v : V} : ∀ {a : An}, AnsAt H v a → ∃ (q : Addr) (z : Str) (vs : List V), v = .ref q ∧ H q = some (.tup (.str z :: vs))
  | .stall, ⟨a, e, h⟩ => ⟨a, _, _, e, h⟩
  | .nak, ⟨a, e, h⟩ => ⟨a, _, _, e, h⟩
  | .data _ _, ⟨a, _, e, h, _⟩ => ⟨a, _, _, e, h⟩
theorem any_false (n : Nat) : (List.replicate n false).any id = false := by
  induction n with
  | zero => rfl
  | succ n ih => rw [List.replicate_succ, List.any_cons, ih]; rfl
theorem alike_keys (a b : Int × Bool) : AlikeK (keyK a) (keyK b) := by
  unfold AlikeK keyK
  simp [kD, PySem.W.alikeAll, PySem.W.alike]
theorem halves_mem {H : Hp} : ∀ {kvs : List (List Key × V)} {ks : List (Int × Bool)}, HalvesAt H kvs ks → ∀ kv ∈ kvs, ∃ k ∈ ks, kv.1 = keyK k
  | _, _, .nil, _, h => by cases h
  | _, _, .cons (b := k) r t, kv, h => by
    rcases List.mem_cons.mp h with rfl | h
    · exact ⟨k, List.mem_cons_self, r.1⟩
    · obtain ⟨k', h1, h2⟩ := halves_mem t kv h
      exact ⟨k', List.mem_cons_of_mem _ h1, h2⟩
section
variable {P : Program} {w : World} {K : PySem.W.Frag} {mg : Str → Option Value} {base : Heap} {C : Addr}
/-! ### law(script) -/
def spLaw (K : PySem.W.Frag) : Sp := fun vs H Q _ => ∃ (a : Addr) (ns : List Int), vs = [.ref a] ∧ SqL K H a (ns.map V.int) ∧ ∀ H', Q (.bl true) H'
theorem ok_law (T : Txt K w mg C) (mgC : mg "Thing" = some (.ref C)) (hmk : PySem.W.makesIn K C = true) (hkp : PySem.W.keepIn K (.ref C) = true) {f : Addr} {fd : FuncData} (F : Fun K "law" "law" s_law f fd)
    (GB : Cl P w K mg base 1 "_law_bag" (spBag K)) (G : Cl P w K mg base 1 "_law_pull" spPull) (GP : Cl P w K mg base 5 "_law_plan" spPlan) (GF : Cl P w K mg base 1 "_law_forms" spForms) (GN : Mt P w K mg base 3 C "__init__" (spInit C))
    (GHW : Mt P w K mg base 5 C "hear_went" (spWent C)) (GLW : Cl P w K mg base 3 "_law_went" spWentL) (GR : Cl P w K mg base 3 "_law_drawn_row" spRow) (GLS : Cl P w K mg base 3 "_law_setup" spSetupL) (GHS : Mt P w K mg base 5 C "hear_setup" (spHearSetup C))
    (GLI : Cl P w K mg base 3 "_law_in" spInL) (GHI : Mt P w K mg base 5 C "hear_in" (spIn C)) (GHO : Mt P w K mg base 2 C "hear_out" (spOut C)) (GLO : Cl P w K mg base 1 "_law_out" spOutL) (GS : Cl P w K mg base 4 "_law_same" (spSame 2)) (GH : Mt P w K mg base 1 C "half" (spHalf C)) :
    FnOk P w K mg base CX0 6 f fd ["_law_script"] (spLaw K) := by
  refine F.ok cs_law (fun vs H Q E h => ?_) (fun cdv A outer s H vs Q E hr h => ?_)
  · obtain ⟨a, ns, rfl, _⟩ := h
    rfl
  · obtain ⟨a, ns, rfl, ha, k⟩ := h
    have nd := cs_law.nd
    have hu := hu_of hr
    have h64 : _ + 64 < cLine := hr.units
    refine ⟨_, (pss_cons (ps_set (i := 1) nd rfl (.inl rfl) (pe_cl GB hr (by decide) rfl (pa_cons (pv 0) pa_nil))) (pss_cons (ps_set (i := 2) nd rfl (.inl rfl) (pe_cl GP hr (by decide) rfl (pa_cons (pv 1) (pa_cons pe_int (pa_cons (pe_cmpR op_eq (pe_cl G hr (by decide) rfl (pa_cons (pv 1) (pa_cons pe_int pa_nil))) pe_int (nomark _)) pa_nil))))) (pss_cons (ps_set (i := 3) nd rfl (.inl rfl) (pe_cl GF hr (by decide) rfl (pa_cons (pv 2) pa_nil))) (pss_cons (ps_set (i := 4) nd rfl (.inr rfl) (pe_mkM GN hmk hkp hr (by decide) rfl mgC (pa_cons (pv 2) pa_nil))) (pss_cons (ps_set (i := 5) nd rfl (.inr rfl) (pe_disp (pps_cons pe_str (pv 2) (pps_cons pe_str (pv 3) (pps_cons pe_str pe_str (pps_cons pe_str pe_int (pps_cons pe_str (pe_lst pa_nil) (pps_cons pe_str pe_non pps_nil)))))) rfl rfl (by simp) (by decide))) (pss_cons (ps_expr (pe_bm PySem.F.plainAttrs_dict PySem.F.slot_dict_update PySem.F.type_dict_update mtd_update (pv 5) (pa_cons (pe_disp (pps_cons pe_str pe_int (pps_cons pe_str pe_int (pps_cons pe_str pe_dnewT pps_nil))) rfl rfl (by simp) (by decide)) pa_nil))) (pss_cons (ps_set (i := 6) nd rfl (.inl rfl) pe_bl) (pss_cons (ps_for PassesOwn.never rfl (pi_range1 rfl T.range (pa_cons (pe_ix ix_list (pe_lst (pa_cons pe_int (pa_cons pe_int pa_nil))) (pe_cl G hr (by decide) rfl (pa_cons (pv 1) (pa_cons pe_int pa_nil))) (fun _ _ => rfl)) pa_nil)) (pg_name (i := 7) nd rfl (.inl rfl)) (pss_cons (ps_set (i := 8) nd rfl (.inl rfl) (pe_cl G hr (by decide) rfl (pa_cons (pv 1) (pa_cons pe_int pa_nil)))) (C8.pss_cut (ps_if (PW.pt (pw_and (pt_val (pv 6)) (pw_and (pt_cmpR op_lt (pv 8) pe_int (nomark _)) (pw_and1 (pt_cmpR op_gt (pv 8) pe_int (nomark _)))))) (pss_cons (ps_expr (pe_mt GHW T.cl hr (by decide) (pv 4) (pa_cons pe_int pa_nil))) (pss_cons (ps_expr (pe_cl GLW hr (by decide) rfl (pa_cons (pv 5) pa_nil))) (pss_one (ps_set (i := 6) nd rfl (.inl rfl) pe_bl)))) (pss_one (ps_if (pt_cmpR op_lt (pv 8) pe_int (nomark _)) (pss_cons (ps_set (i := 9) nd rfl (.inl rfl) (pe_cl GR hr (by decide) rfl (pa_cons (pv 1) (pa_cons (pv 3) pa_nil)))) (pss_cons (ps_expr (pe_cl GLS hr (by decide) rfl (pa_cons (pv 5) (pa_cons (pv 9) pa_nil)))) (pss_cons (ps_set (i := 6) nd rfl (.inl rfl) pe_bl) (pss_one (ps_if (pt_cmpR op_ne (pe_mt GHS T.cl hr (by decide) (pv 4) (pa_cons (pv 9) pa_nil)) pe_str (nomark _)) pss_never pss_nil))))) (pss_one (ps_if (pt_cmpR op_lt (pv 8) pe_int (nomark _)) (pss_cons (ps_set (i := 10) nd rfl (.inl rfl) (pe_cl GLI hr (by decide) rfl (pa_cons (pv 5) pa_nil))) (pss_cons (ps_set (i := 6) nd rfl (.inl rfl) (pe_cmpR op_eq (pe_ix ix_tup (pv 10) pe_int (fun _ _ => rfl)) pe_str (nomark _))) (pss_one (ps_if (pt_not (pt_val (pe_cl GS hr (by decide) rfl (pa_cons (pe_mt GHI T.cl hr (by decide) (pv 4) (pa_cons pe_int pa_nil)) (pa_cons (pv 10) pa_nil))))) pss_never pss_nil)))) (pss_cons (ps_set (i := 6) nd rfl (.inl rfl) pe_bl) (pss_cons (ps_asg (pe_ix ix_list (pe_lst (pa_cons (pe_tup (pa_cons pe_int (pa_cons (pe_tup pa_nil) pa_nil))) (pa_cons (pe_tup (pa_cons pe_int (pa_cons (pe_tup pa_nil) pa_nil))) (pa_cons (pe_tup (pa_cons pe_int (pa_cons (pe_tup (pa_cons pe_int pa_nil)) pa_nil))) pa_nil)))) (pe_op op_mul (pe_op op_fdiv (pe_cl G hr (by decide) rfl (pa_cons (pv 1) (pa_cons pe_int pa_nil))) pe_int) (pe_cl G hr (by decide) rfl (pa_cons (pv 1) (pa_cons pe_int pa_nil)))) (fun _ _ => rfl)) (pg_tup rfl (pgs_cons (pg_name (i := 11) nd rfl (.inl rfl)) (pgs_cons (pg_name (i := 12) nd rfl (.inl rfl)) pgs_nil)))) (pss_one (ps_if (pt_not (pt_val (pe_cl GS hr (by decide) rfl (pa_cons (pe_mt GHO T.cl hr (by decide) (pv 4) (pa_cons pe_int (pa_cons (pv 11) (pa_cons (pv 12) pa_nil)))) (pa_cons (pe_cl GLO hr (by decide) rfl (pa_cons (pv 5) (pa_cons (pv 11) (pa_cons (pv 12) pa_nil)))) pa_nil))))) pss_never pss_nil))))))))) (pss_cons (ps_if (pt_not (pt_val (pe_cl GS hr (by decide) rfl (pa_cons (pe_lst (pa_cons (pe_fld (pv 4) rfl) (pa_cons (pe_fld (pv 4) rfl) pa_nil))) (pa_cons (pe_lst (pa_cons (pe_dget hu (pv 5) pe_str (fun _ _ => rfl)) (pa_cons (pe_dget hu (pv 5) pe_str (fun _ _ => rfl)) pa_nil))) pa_nil))))) pss_never pss_nil) (pss_one (ps_if (pt_val (pe_callB (cr_any rfl) (by rfl) T.any (by decide +kernel) (pa_cons (pe_lc (own := [("_law_key_here", 13)]) (g := gName 13) (tt := tYes) rfl nd (pi_list (pe_callB (cr_sortedDT rfl h64) (by rfl) T.sorted (by decide +kernel) (pa_cons (pe_dget hu (pv 5) pe_str (fun _ _ => rfl)) pa_nil))) (blkOk_by (N := ns_law) (sc := defScope s_law) (by decide +kernel)) (fun _ _ _ _ _ => pg_name (i := 13) nd rfl (Or.inl rfl)) (fun _ _ _ _ _ => pts_nil) (fun _ _ _ _ _ => pe_not (pe_cl GS hr (by decide) rfl (pa_cons (pe_mt GH T.cl hr (by decide) (pv 4) (pa_cons (pe_ix (r := rIxT K) ix_tup (pv 13) pe_int (fun _ _ => rfl)) (pa_cons (pe_ix (r := rIxT K) ix_tup (pv 13) pe_int (fun _ _ => rfl)) pa_nil))) (pa_cons (pe_dget hu (pe_dget hu (pv 5) pe_str (fun _ _ => rfl)) (pv 13) (fun _ _ => rfl)) pa_nil))))) pa_nil))) pss_never pss_nil)))))) (pss_one (ps_ret pe_bl)))))))))), ?_⟩
    -- bag, plan, forms
    refine ⟨_, rfl, a, ns, rfl, ha, fun b c H1 b0 c0 hb1 s1 => ?_⟩
    refine ⟨_, rfl, _, rfl, b, c, 2, rfl, hb1, (by decide), (by decide), fun r2 H2 r20 r21 hb2 f2 => ⟨rfl, b, c, _, rfl, hb2, fun fa p H3 hpl g hb3 f3 => ?_⟩⟩
    refine ⟨_, rfl, _, rfl, fun fm H4 fm0 hfm s4 => ?_⟩
    have hb4 := hb3.same s4
    have hpl4 := hpl.kt (Same.kt s4)
    -- thing = Thing(plan)
    refine ⟨_, rfl, fun x dx nx ndx ndxx => ?_⟩
    have s5 : Same H4 (upd (upd H4 dx (.own x)) x (.ins C dx [])) := (Same.new ndx).trans (Same.new (by rw [upd_ne (Ne.symm ndxx)]; exact nx))
    have x5 : (upd (upd H4 dx (.own x)) x (.ins C dx [])) x = some (.ins C dx []) := upd_same
    revert s5 x5
    generalize upd (upd H4 dx (.own x)) x (.ins C dx []) = H5
    intro s5 x5
    refine ⟨x, dx, fa, p, rfl, x5, hpl4.kt (Same.kt s5), g, fun hp hd wl H6 n1 n2 n3 T6 f6 => ⟨rfl, ?_⟩⟩
    have hb5 := hb4.same s5
    obtain ⟨cs5, k5, z5, q5, eb5, ec5, _⟩ := id hb5
    have nbx : b ≠ x := ne_of eb5 x5 (fun z => by cases z)
    have ncx : c ≠ x := ne_of ec5 x5 (fun z => by cases z)
    have hb6 : BagAt H6 b c := hb5.fr f6 (not1 nbx) (not1 ncx)
    have hfm5 := hfm.fr (Fr.of (l := []) s5) (by simp)
    obtain ⟨kf5, ef5, _⟩ := id hfm5
    have nfx : fm ≠ x := ne_of ef5 x5 (fun z => by cases z)
    have hfm6 := hfm5.fr f6 (not1 nfx)
    have hpl6 := (hpl4.kt (Same.kt s5)).kt f6.kt
    have u1 : wl ≠ b := fun z => by rw [z, eb5] at n3; cases n3
    have u2 : wl ≠ c := fun z => by rw [z, ec5] at n3; cases n3
    have u3 : hp ≠ b := fun z => by rw [z, eb5] at n1; cases n1
    have u4 : hd ≠ fm := fun z => by rw [z, ef5] at n2; cases n2
    -- m = dict
    intro m hm0
    refine ⟨_, rfl, _, rfl, (by show 0 ≤ sizeLine; decide), fun ml hml => ?_⟩
    have s7 : Same H6 (upd (upd H6 m (.dK [])) ml (.lst [])) := (Same.new hm0).trans (Same.new hml)
    have m7 : (upd (upd H6 m (.dK [])) ml (.lst [])) m = some (.dK []) := Same.new hml _ _ upd_same
    have l7 : (upd (upd H6 m (.dK [])) ml (.lst [])) ml = some (.lst []) := upd_same
    have mlf : H6 ml = none := by
      cases z : H6 ml with
      | none => rfl
      | some o => rw [Same.new (o := HO.dK []) hm0 _ _ z] at hml; cases hml
    revert s7 m7 l7
    generalize upd (upd H6 m (.dK [])) ml (.lst []) = H7
    intro s7 m7 l7
    refine ⟨m7, [(.inr "plan", .ref fa), (.inr "forms", .ref fm), (.inr "stage", .str "idle"), (.inr "mark", .int 1), (.inr "pieces", .ref ml), (.inr "request", .non)], rfl, (by show 6 ≤ 15; decide), ?_⟩
    have s8 : Same H6 (upd H7 m (.dK [(.inr "plan", .ref fa), (.inr "forms", .ref fm), (.inr "stage", .str "idle"), (.inr "mark", .int 1), (.inr "pieces", .ref ml), (.inr "request", .non)])) := same_fresh s7 hm0
    have m8 : (upd H7 m (.dK [(.inr "plan", .ref fa), (.inr "forms", .ref fm), (.inr "stage", .str "idle"), (.inr "mark", .int 1), (.inr "pieces", .ref ml), (.inr "request", .non)])) m = _ := upd_same
    have l8 : (upd H7 m (.dK [(.inr "plan", .ref fa), (.inr "forms", .ref fm), (.inr "stage", .str "idle"), (.inr "mark", .int 1), (.inr "pieces", .ref ml), (.inr "request", .non)])) ml = some (.lst []) := by rw [upd_ne (ne_of l7 m7 fun z => by cases z)]; exact l7
    generalize hH8 : upd H7 m (.dK (mergeK [] _)) = H8
    replace s8 : Same H6 H8 := by rw [← hH8]; exact s8
    replace m8 : H8 m = some (.dK [(.inr "plan", .ref fa), (.inr "forms", .ref fm), (.inr "stage", .str "idle"), (.inr "mark", .int 1), (.inr "pieces", .ref ml), (.inr "request", .non)]) := by rw [← hH8]; exact m8
    replace l8 : H8 ml = some (.lst []) := by rw [← hH8]; exact l8
    clear hH8
    -- m.update
    refine ⟨_, rfl, .inr (.inr (.inl ⟨rfl, .inl ⟨_, m8⟩⟩)), fun ud hud mh hmh => ?_⟩
    have nmhm : mh ≠ m := fun z => by rw [z, Same.new (o := HO.dK []) hud _ _ m8] at hmh; cases hmh
    have s9 : Same H8 (upd (upd H8 ud (.dK [])) mh (.dT [])) := (Same.new hud).trans (Same.new hmh)
    have u9 : (upd (upd H8 ud (.dK [])) mh (.dT [])) ud = some (.dK []) := Same.new hmh _ _ upd_same
    have h9 : (upd (upd H8 ud (.dK [])) mh (.dT [])) mh = some (.dT []) := upd_same
    have mh6 : H6 mh = none := by
      cases z : H6 mh with
      | none => rfl
      | some o => rw [Same.new (o := HO.dK []) hud _ _ (s8 _ _ z)] at hmh; cases hmh
    have ud8 : H8 ud = none := hud
    revert s9 u9 h9
    generalize upd (upd H8 ud (.dK [])) mh (.dT []) = H9
    intro s9 u9 h9
    refine ⟨u9, [(.inr "number", .int 0), (.inr "level", .int 0), (.inr "halves", .ref mh)], rfl, (by show 3 ≤ 15; decide), ?_⟩
    have s10 : Same H8 (upd H9 ud (.dK [(.inr "number", .int 0), (.inr "level", .int 0), (.inr "halves", .ref mh)])) := same_fresh s9 ud8
    have nmu : m ≠ ud := fun z => by rw [← z, m8] at ud8; cases ud8
    have h10 : (upd H9 ud (.dK [(.inr "number", .int 0), (.inr "level", .int 0), (.inr "halves", .ref mh)])) mh = some (.dT []) := by rw [upd_ne (ne_of h9 u9 fun z => by cases z)]; exact h9
    have u10 : (upd H9 ud (.dK [(.inr "number", .int 0), (.inr "level", .int 0), (.inr "halves", .ref mh)])) ud = some (.dK [(.inr "number", .int 0), (.inr "level", .int 0), (.inr "halves", .ref mh)]) := upd_same
    generalize hHa : upd H9 ud (.dK (mergeK [] _)) = Ha
    replace s10 : Same H8 Ha := by rw [← hHa]; exact s10
    replace h10 : Ha mh = some (.dT []) := by rw [← hHa]; exact h10
    replace u10 : Ha ud = some (.dK [(.inr "number", .int 0), (.inr "level", .int 0), (.inr "halves", .ref mh)]) := by rw [← hHa]; exact u10
    clear hHa
    have ma := s10 _ _ m8
    refine ⟨m, ud, _, _, rfl, rfl, nmu, ma, u10, (by show 6 + 3 ≤ sizeLine; decide), ?_⟩
    generalize hHb : upd Ha m (.dK (mergeK _ _)) = Hb
    have mb : Hb m = some (.dK (mF fa fm (sgS .idle) 1 ml .non 0 0 mh)) := by rw [← hHb]; exact upd_same
    have sb : Same H6 Hb := by rw [← hHb]; exact same_fresh (s8.trans s10) hm0
    have lb : Hb ml = some (.lst []) := by rw [← hHb, upd_ne (ne_of l8 m8 fun z => by cases z)]; exact s10 _ _ l8
    have hbh : Hb mh = some (.dT []) := by rw [← hHb, upd_ne nmhm]; exact h10
    clear hHb
    have nmf : mh ≠ fm := by
      obtain ⟨kf6, ef6, _⟩ := hfm6
      exact fun z => by rw [z, ef6] at mh6; cases mh6
    have nhdm : hd ≠ mh := by
      obtain ⟨_, _, _, _, _, R6⟩ := T6
      obtain ⟨kh6, eh6, _⟩ := R6.halves
      exact fun z => by rw [z, mh6] at eh6; cases eh6
    have nwm : wl ≠ ml := by
      obtain ⟨_, _, _, _, _, R6⟩ := T6
      obtain ⟨kw6, ew6, _⟩ := R6.wish
      exact fun z => by rw [z, mlf] at ew6; cases ew6
    have nmb : ml ≠ b := by
      obtain ⟨cs, _, _, _, eb, _, _⟩ := hb6
      exact fun z => by rw [z, eb] at mlf; cases mlf
    have j0 : J C p Hb b c fm x hp hd wl m mh ml ms0 ms0 0 := by
      refine ⟨hb6.same sb, T6.fr (Fr.of (l := []) sb) (by simp) (by simp) (by simp) (by simp), ⟨fa, .non, mb, ⟨hpl6.kt (Same.kt sb), hfm6.fr (Fr.of (l := []) sb) (by simp), ⟨[], hbh, ?_⟩, ⟨[], lb, .nil⟩, rfl, nmf⟩⟩, u1, u2, nwm, u3, nmb, nhdm, u4⟩
      show HalvesAt Hb [] (keysL p 0)
      rw [keysL0]
      exact .nil
    clear mb sb lb hbh ma u10 h10 s10 u9 h9 s9 m8 l8 s8 m7 l7 s7
    -- gave = False; the rounds
    refine ⟨(by show 2 ≤ sizeLine; decide), fun lc hlc => ?_⟩
    have jc := j0.same (Same.new (o := HO.lst [V.int 20, .int 50]) hlc)
    refine ⟨_, rfl, b, c, 2, rfl, jc.bag, (by decide), (by decide), fun rd Hd rd0 rd1 hbd fd => ?_⟩
    have jd := jc.pull fd hbd
    have qd := fd.at (upd_same (H := Hb) (a := lc) (o := .lst [V.int 20, .int 50])) (not1 (j0.bag.new hlc))
    obtain ⟨rounds, erd, hrd⟩ : ∃ n : Nat, atI [V.int 20, .int 50] rd = some (.int (n : Int)) ∧ n ≤ 50 := by
      have : rd = 0 ∨ rd = 1 := by omega
      rcases this with rfl | rfl
      · exact ⟨20, rfl, by decide⟩
      · exact ⟨50, rfl, by decide⟩
    refine ⟨lc, _, _, _, rfl, rfl, SqL.of qd, erd, (rounds : Int), rfl, by omega, by omega, for_range (lo := 0) (n := rounds) (fun i σ H2 => ∃ (gv : Bool) (v7 v8 v9 v10 v11 v12 v13 : Option V) (hd mh ml : Addr) (s : Ms), σ = [some (.ref a), some (.ref b), some (.ref fa), some (.ref fm), some (.ref x), some (.ref m), some (.bl gv), v7, v8, v9, v10, v11, v12, v13] ∧ J C p H2 b c fm x hp hd wl m mh ml s s i ∧ Wf p s ∧ Short s)
      ⟨false, none, none, none, none, none, none, none, hd, mh, ml, ms0, rfl, jd, wf0 p, short0⟩ ?_ ?_⟩
    · rintro i σ H2 hi ⟨gv, v7, v8, v9, v10, v11, v12, v13, hd, mh, ml, s, rfl, j, wf, sh⟩
      clear jd jc j0 T6 n2 n1 n3 u4 nmf nhdm nwm nmb
      refine ⟨_, rfl, b, c, 9, rfl, j.bag, (by decide), (by decide), fun pick H3 p0 p1 hb3 f3 => ?_⟩
      have j3 := j.pull f3 hb3
      clear j
      obtain ⟨dx3, _, _, _, x3, _⟩ := id j3.th
      refine ⟨fun σ H2 => ∃ (gv : Bool) (v7 v8 v9 v10 v11 v12 v13 : Option V) (hd mh ml : Addr) (s : Ms), σ = [some (.ref a), some (.ref b), some (.ref fa), some (.ref fm), some (.ref x), some (.ref m), some (.bl gv), v7, v8, v9, v10, v11, v12, v13] ∧ J C p H2 b c fm x hp hd wl m mh ml s s (i + 1) ∧ Wf p s ∧ Short s, ?_, ?_⟩
      · -- one of the four
        have hi9 : i ≤ 10000 := by omega
        have Went : ∀ H4, H4 = H3 → True := fun _ _ => trivial
        refine ⟨_, rfl, _, rfl, ?_⟩
        by_cases cW : gv = true ∧ pick < 7 ∧ 3 < pick
        · refine bT cW.1 ⟨_, rfl, _, _, rfl, rfl, _, rfl, bT (decide_eq_true cW.2.1) ⟨_, rfl, _, _, rfl, rfl, _, rfl, bT (decide_eq_true cW.2.2) ?_⟩⟩
          refine ⟨_, rfl, x, dx3, _, rfl, x3, rfl, _, rfl, x, hp, hd, wl, s, i, p, rfl, j3.th, hi9, g, wf, fun hd' H4 hd4 T4 f4 => ?_⟩
          have j4 := j3.thing f4 hd4 T4
          refine ⟨_, rfl, m, fm, mh, ml, s, p, rfl, j4.ma, g, wf, fun mh' ml' H5 h5 l5 M5 f5 => ?_⟩
          have j5 := j4.mach f5 h5 l5 M5
          exact ⟨_, _, _, _, _, _, _, _, hd', mh', ml', wentS s, rfl, j5, wf_went wf, short_went sh⟩
        · -- the tests that fail
          cases gv with
          | false =>
            refine bF rfl ?_
            refine ⟨_, rfl, _, _, rfl, rfl, _, rfl, ?_⟩
            by_cases c2 : pick < 2
            · refine bT (decide_eq_true c2) ?_
              obtain ⟨_, _, _, M3⟩ := j3.ma
              refine ⟨_, rfl, _, rfl, b, c, fm, rfl, j3.bag, M3.forms, fun q row H4 hq h8 hb4 f4 => ?_⟩
              have j4 := j3.pull f4 hb4
              obtain ⟨o, hio⟩ := isReq_ex row
              refine ⟨_, rfl, _, rfl, m, fm, mh, ml, q, s, p, row, o, rfl, j4.ma, g, hq, hio, fun ml' H5 l5 M5 f5 => ?_⟩
              have j5 := j4.mach (f5.mono fun y hy => by rw [List.mem_singleton.mp hy]; simp) (.inl rfl) (.inr l5) M5
              obtain ⟨dx5, _, _, _, x5, _⟩ := id j5.th
              refine ⟨_, rfl, x, dx5, _, rfl, x5, rfl, _, rfl, x, hp, hd, wl, q, s, i, p, row, o, rfl, j5.th, g, f5.kt _ _ hq, h8, hio, fun H6 T6 f6 => ⟨rfl, _, rfl, bF (nd_eq rfl) ?_⟩⟩
              have j6 := j5.thing (f6.mono fun y hy => by rw [List.mem_singleton.mp hy]; simp) (.inl rfl) T6
              exact ⟨_, _, _, _, _, _, _, _, hd, mh, ml', setupS p o s, rfl, j6.more (Nat.le_succ i), wf_setup wf (fun r hr => by subst hr; exact hio.1), short_setup⟩
            refine bF (decide_eq_false c2) ⟨_, rfl, _, _, rfl, rfl, _, rfl, ?_⟩
            by_cases c7 : pick < 7
            · refine bT (decide_eq_true c7) ?_
              refine ⟨_, rfl, m, fm, mh, ml, s, p, rfl, j3.ma, g, wf, fun due mh' H4 h4 M4 A4 f4 => ?_⟩
              have j4 := j3.mach f4 h4 (.inl rfl) M4
              obtain ⟨dq, z, vs4, rfl, edq⟩ := ans_head A4
              refine ⟨_, rfl, dq, _, 0, _, rfl, rfl, SqT.of edq, at_of (j := 0) rfl rfl, rfl, ?_⟩
              obtain ⟨dx4, _, _, _, x4, _⟩ := id j4.th
              refine ⟨_, rfl, x, dx4, _, rfl, x4, rfl, _, rfl, x, hp, hd, wl, s, i, p, rfl, j4.th, hi9, g, wf, fun v5 hd' H5 hd5 T5 A5 f5 => ?_⟩
              have j5 := j4.thing f5 hd5 T5
              refine ⟨_, rfl, v5, .ref dq, rfl, sm_ans (short_ans sh) A5 (A4.kt f5.kt), fun H6 s6 => ⟨_, rfl, bF rfl ?_⟩⟩
              exact ⟨_, _, _, _, _, _, _, _, hd', mh', ml, (inS s).2, rfl, j5.same s6, wf_in wf, short_in sh⟩
            refine bF (decide_eq_false c7) ?_
            refine ⟨(by show 0 ≤ sizeLine; decide), fun e1 he1 => ⟨(by show 2 ≤ sizeLine; decide), fun t1 ht1 => ⟨(by show 0 ≤ sizeLine; decide), fun e2 he2 => ⟨(by show 2 ≤ sizeLine; decide), fun t2 ht2 => ⟨(by show 1 ≤ sizeLine; decide), fun e3 he3 => ⟨(by show 2 ≤ sizeLine; decide), fun t3 ht3 => ⟨(by show 3 ≤ sizeLine; decide), fun l4 hl4 => ?_⟩⟩⟩⟩⟩⟩⟩
            have a1 := Same.new (o := HO.tup []) he1
            have a2 := Same.new (o := HO.tup [V.int 1, .ref e1]) ht1
            have a3 := Same.new (o := HO.tup []) he2
            have a4 := Same.new (o := HO.tup [V.int 0, .ref e2]) ht2
            have a5 := Same.new (o := HO.tup [V.int 5]) he3
            have a6 := Same.new (o := HO.tup [V.int 1, .ref e3]) ht3
            have a7 := Same.new (o := HO.lst [V.ref t1, .ref t2, .ref t3]) hl4
            have j4 := j3.same ((((((a1.trans a2).trans a3).trans a4).trans a5).trans a6).trans a7)
            have x1 := (((((a2.trans a3).trans a4).trans a5).trans a6).trans a7) _ _ (upd_same (H := H3) (a := e1) (o := .tup []))
            have x2 := ((((a3.trans a4).trans a5).trans a6).trans a7) _ _ (upd_same (H := upd H3 e1 (.tup [])) (a := t1) (o := .tup [V.int 1, .ref e1]))
            have x3' := (((a4.trans a5).trans a6).trans a7) _ _ (upd_same (H := upd (upd H3 e1 (.tup [])) t1 (.tup [V.int 1, .ref e1])) (a := e2) (o := .tup []))
            have x4 := ((a5.trans a6).trans a7) _ _ (upd_same (H := upd (upd (upd H3 e1 (.tup [])) t1 (.tup [V.int 1, .ref e1])) e2 (.tup [])) (a := t2) (o := .tup [V.int 0, .ref e2]))
            have x5 := (a6.trans a7) _ _ (upd_same (H := upd (upd (upd (upd H3 e1 (.tup [])) t1 (.tup [V.int 1, .ref e1])) e2 (.tup [])) t2 (.tup [V.int 0, .ref e2])) (a := e3) (o := .tup [V.int 5]))
            have x6 := a7 _ _ (upd_same (H := upd (upd (upd (upd (upd H3 e1 (.tup [])) t1 (.tup [V.int 1, .ref e1])) e2 (.tup [])) t2 (.tup [V.int 0, .ref e2])) e3 (.tup [V.int 5])) (a := t3) (o := .tup [V.int 1, .ref e3]))
            have nlb : l4 ≠ b := (j3.same (((((a1.trans a2).trans a3).trans a4).trans a5).trans a6)).bag.new hl4
            have x7 := upd_same (H := upd (upd (upd (upd (upd (upd H3 e1 (.tup [])) t1 (.tup [V.int 1, .ref e1])) e2 (.tup [])) t2 (.tup [V.int 0, .ref e2])) e3 (.tup [V.int 5])) t3 (.tup [V.int 1, .ref e3])) (a := l4) (o := .lst [V.ref t1, .ref t2, .ref t3])
            revert j4 x1 x2 x3' x4 x5 x6 x7
            generalize upd (upd (upd (upd (upd (upd (upd H3 e1 _) t1 _) e2 _) t2 _) e3 _) t3 _) l4 _ = H4
            intro j4 x1 x2 x3' x4 x5 x6 x7
            refine ⟨_, rfl, b, c, 6, rfl, j4.bag, (by decide), (by decide), fun ra H5 ra0 ra1 hb5 f5 => ⟨_, _, rfl, rfl, ⟨by decide, by decide⟩, _, rfl, b, c, 2, rfl, hb5, (by decide), (by decide), fun rb H6 rb0 rb1 hb6 f6 => ?_⟩⟩
            have f46 := f5.trans f6
            have j6 := j4.pull f46 hb6
            obtain ⟨ta, nn, ea, xs, eix, eta, eea⟩ : ∃ (ta : Addr) (nn : Int) (ea : Addr) (xs : List Int), atI [V.ref t1, .ref t2, .ref t3] (ra / 2 * rb) = some (.ref ta) ∧ H6 ta = some (.tup [.int nn, .ref ea]) ∧ H6 ea = some (.tup (xs.map V.int)) := by
              have hd2 : 0 ≤ ra / 2 ∧ ra / 2 ≤ 2 := by omega
              have hrb : rb = 0 ∨ rb = 1 := by omega
              have : ra / 2 * rb = 0 ∨ ra / 2 * rb = 1 ∨ ra / 2 * rb = 2 := by
                rcases hrb with rfl | rfl
                · left; omega
                · rw [Int.mul_one]; omega
              rcases this with e | e | e
              · exact ⟨t1, 1, e1, [], by rw [e]; rfl, f46.kt _ _ x2, f46.kt _ _ x1⟩
              · exact ⟨t2, 0, e2, [], by rw [e]; rfl, f46.kt _ _ x4, f46.kt _ _ x3'⟩
              · exact ⟨t3, 1, e3, [5], by rw [e]; rfl, f46.kt _ _ x6, f46.kt _ _ x5⟩
            refine ⟨_, _, rfl, rfl, .inl ⟨by omega, by omega⟩, l4, _, _, _, rfl, rfl, SqL.of (f46.at x7 (not1 nlb)), eix, ta, _, rfl, SqT.of eta, rfl, _, _, rfl, _, _, rfl, rfl, ?_⟩
            obtain ⟨dx6, _, _, _, x6', _⟩ := id j6.th
            refine ⟨_, rfl, x, dx6, _, rfl, x6', rfl, _, rfl, _, rfl, _, _, _, rfl, x, hp, hd, wl, ea, s, i, p, nn, xs, rfl, j6.th, eea, fun H7 T7 f7 => ?_⟩
            have j7 := j6.thing (f7.mono fun y hy => by rw [List.mem_singleton.mp hy]; simp) (.inl rfl) T7
            refine ⟨_, rfl, _, rfl, _, rfl, m, fm, mh, ml, ea, s, p, nn, xs, rfl, j7.ma, f7.kt _ _ eea, fun H8 M8 f8 => ?_⟩
            have j8 := j7.mach (f8.mono fun y hy => by rw [List.mem_singleton.mp hy]; simp) (.inl rfl) (.inl rfl) M8
            refine ⟨_, _, rfl, sm_str _, fun H9 s9 => ⟨_, rfl, bF rfl ?_⟩⟩
            exact ⟨_, _, _, _, _, _, _, _, hd, mh, ml, (outS s nn xs).2, rfl, (j8.same s9).more (Nat.le_succ i), wf_out wf nn xs, short_out sh⟩
          | true =>
            refine bT rfl ⟨_, rfl, _, _, rfl, rfl, _, rfl, ?_⟩
            by_cases c9 : pick < 7
            · have c8 : ¬ 3 < pick := fun z => cW ⟨rfl, c9, z⟩
              refine bT (decide_eq_true c9) ⟨_, rfl, _, _, rfl, rfl, _, rfl, bF (decide_eq_false c8) ?_⟩
              refine ⟨_, rfl, _, _, rfl, rfl, _, rfl, ?_⟩
              by_cases c2 : pick < 2
              · refine bT (decide_eq_true c2) ?_
                obtain ⟨_, _, _, M3⟩ := j3.ma
                refine ⟨_, rfl, _, rfl, b, c, fm, rfl, j3.bag, M3.forms, fun q row H4 hq h8 hb4 f4 => ?_⟩
                have j4 := j3.pull f4 hb4
                obtain ⟨o, hio⟩ := isReq_ex row
                refine ⟨_, rfl, _, rfl, m, fm, mh, ml, q, s, p, row, o, rfl, j4.ma, g, hq, hio, fun ml' H5 l5 M5 f5 => ?_⟩
                have j5 := j4.mach (f5.mono fun y hy => by rw [List.mem_singleton.mp hy]; simp) (.inl rfl) (.inr l5) M5
                obtain ⟨dx5, _, _, _, x5, _⟩ := id j5.th
                refine ⟨_, rfl, x, dx5, _, rfl, x5, rfl, _, rfl, x, hp, hd, wl, q, s, i, p, row, o, rfl, j5.th, g, f5.kt _ _ hq, h8, hio, fun H6 T6 f6 => ⟨rfl, _, rfl, bF (nd_eq rfl) ?_⟩⟩
                have j6 := j5.thing (f6.mono fun y hy => by rw [List.mem_singleton.mp hy]; simp) (.inl rfl) T6
                exact ⟨_, _, _, _, _, _, _, _, hd, mh, ml', setupS p o s, rfl, j6.more (Nat.le_succ i), wf_setup wf (fun r hr => by subst hr; exact hio.1), short_setup⟩
              refine bF (decide_eq_false c2) ⟨_, rfl, _, _, rfl, rfl, _, rfl, ?_⟩
              by_cases c7 : pick < 7
              · refine bT (decide_eq_true c7) ?_
                refine ⟨_, rfl, m, fm, mh, ml, s, p, rfl, j3.ma, g, wf, fun due mh' H4 h4 M4 A4 f4 => ?_⟩
                have j4 := j3.mach f4 h4 (.inl rfl) M4
                obtain ⟨dq, z, vs4, rfl, edq⟩ := ans_head A4
                refine ⟨_, rfl, dq, _, 0, _, rfl, rfl, SqT.of edq, at_of (j := 0) rfl rfl, rfl, ?_⟩
                obtain ⟨dx4, _, _, _, x4, _⟩ := id j4.th
                refine ⟨_, rfl, x, dx4, _, rfl, x4, rfl, _, rfl, x, hp, hd, wl, s, i, p, rfl, j4.th, hi9, g, wf, fun v5 hd' H5 hd5 T5 A5 f5 => ?_⟩
                have j5 := j4.thing f5 hd5 T5
                refine ⟨_, rfl, v5, .ref dq, rfl, sm_ans (short_ans sh) A5 (A4.kt f5.kt), fun H6 s6 => ⟨_, rfl, bF rfl ?_⟩⟩
                exact ⟨_, _, _, _, _, _, _, _, hd', mh', ml, (inS s).2, rfl, j5.same s6, wf_in wf, short_in sh⟩
              refine bF (decide_eq_false c7) ?_
              refine ⟨(by show 0 ≤ sizeLine; decide), fun e1 he1 => ⟨(by show 2 ≤ sizeLine; decide), fun t1 ht1 => ⟨(by show 0 ≤ sizeLine; decide), fun e2 he2 => ⟨(by show 2 ≤ sizeLine; decide), fun t2 ht2 => ⟨(by show 1 ≤ sizeLine; decide), fun e3 he3 => ⟨(by show 2 ≤ sizeLine; decide), fun t3 ht3 => ⟨(by show 3 ≤ sizeLine; decide), fun l4 hl4 => ?_⟩⟩⟩⟩⟩⟩⟩
              have a1 := Same.new (o := HO.tup []) he1
              have a2 := Same.new (o := HO.tup [V.int 1, .ref e1]) ht1
              have a3 := Same.new (o := HO.tup []) he2
              have a4 := Same.new (o := HO.tup [V.int 0, .ref e2]) ht2
              have a5 := Same.new (o := HO.tup [V.int 5]) he3
              have a6 := Same.new (o := HO.tup [V.int 1, .ref e3]) ht3
              have a7 := Same.new (o := HO.lst [V.ref t1, .ref t2, .ref t3]) hl4
              have j4 := j3.same ((((((a1.trans a2).trans a3).trans a4).trans a5).trans a6).trans a7)
              have x1 := (((((a2.trans a3).trans a4).trans a5).trans a6).trans a7) _ _ (upd_same (H := H3) (a := e1) (o := .tup []))
              have x2 := ((((a3.trans a4).trans a5).trans a6).trans a7) _ _ (upd_same (H := upd H3 e1 (.tup [])) (a := t1) (o := .tup [V.int 1, .ref e1]))
              have x3' := (((a4.trans a5).trans a6).trans a7) _ _ (upd_same (H := upd (upd H3 e1 (.tup [])) t1 (.tup [V.int 1, .ref e1])) (a := e2) (o := .tup []))
              have x4 := ((a5.trans a6).trans a7) _ _ (upd_same (H := upd (upd (upd H3 e1 (.tup [])) t1 (.tup [V.int 1, .ref e1])) e2 (.tup [])) (a := t2) (o := .tup [V.int 0, .ref e2]))
              have x5 := (a6.trans a7) _ _ (upd_same (H := upd (upd (upd (upd H3 e1 (.tup [])) t1 (.tup [V.int 1, .ref e1])) e2 (.tup [])) t2 (.tup [V.int 0, .ref e2])) (a := e3) (o := .tup [V.int 5]))
              have x6 := a7 _ _ (upd_same (H := upd (upd (upd (upd (upd H3 e1 (.tup [])) t1 (.tup [V.int 1, .ref e1])) e2 (.tup [])) t2 (.tup [V.int 0, .ref e2])) e3 (.tup [V.int 5])) (a := t3) (o := .tup [V.int 1, .ref e3]))
              have nlb : l4 ≠ b := (j3.same (((((a1.trans a2).trans a3).trans a4).trans a5).trans a6)).bag.new hl4
              have x7 := upd_same (H := upd (upd (upd (upd (upd (upd H3 e1 (.tup [])) t1 (.tup [V.int 1, .ref e1])) e2 (.tup [])) t2 (.tup [V.int 0, .ref e2])) e3 (.tup [V.int 5])) t3 (.tup [V.int 1, .ref e3])) (a := l4) (o := .lst [V.ref t1, .ref t2, .ref t3])
              revert j4 x1 x2 x3' x4 x5 x6 x7
              generalize upd (upd (upd (upd (upd (upd (upd H3 e1 _) t1 _) e2 _) t2 _) e3 _) t3 _) l4 _ = H4
              intro j4 x1 x2 x3' x4 x5 x6 x7
              refine ⟨_, rfl, b, c, 6, rfl, j4.bag, (by decide), (by decide), fun ra H5 ra0 ra1 hb5 f5 => ⟨_, _, rfl, rfl, ⟨by decide, by decide⟩, _, rfl, b, c, 2, rfl, hb5, (by decide), (by decide), fun rb H6 rb0 rb1 hb6 f6 => ?_⟩⟩
              have f46 := f5.trans f6
              have j6 := j4.pull f46 hb6
              obtain ⟨ta, nn, ea, xs, eix, eta, eea⟩ : ∃ (ta : Addr) (nn : Int) (ea : Addr) (xs : List Int), atI [V.ref t1, .ref t2, .ref t3] (ra / 2 * rb) = some (.ref ta) ∧ H6 ta = some (.tup [.int nn, .ref ea]) ∧ H6 ea = some (.tup (xs.map V.int)) := by
                have hd2 : 0 ≤ ra / 2 ∧ ra / 2 ≤ 2 := by omega
                have hrb : rb = 0 ∨ rb = 1 := by omega
                have : ra / 2 * rb = 0 ∨ ra / 2 * rb = 1 ∨ ra / 2 * rb = 2 := by
                  rcases hrb with rfl | rfl
                  · left; omega
                  · rw [Int.mul_one]; omega
                rcases this with e | e | e
                · exact ⟨t1, 1, e1, [], by rw [e]; rfl, f46.kt _ _ x2, f46.kt _ _ x1⟩
                · exact ⟨t2, 0, e2, [], by rw [e]; rfl, f46.kt _ _ x4, f46.kt _ _ x3'⟩
                · exact ⟨t3, 1, e3, [5], by rw [e]; rfl, f46.kt _ _ x6, f46.kt _ _ x5⟩
              refine ⟨_, _, rfl, rfl, .inl ⟨by omega, by omega⟩, l4, _, _, _, rfl, rfl, SqL.of (f46.at x7 (not1 nlb)), eix, ta, _, rfl, SqT.of eta, rfl, _, _, rfl, _, _, rfl, rfl, ?_⟩
              obtain ⟨dx6, _, _, _, x6', _⟩ := id j6.th
              refine ⟨_, rfl, x, dx6, _, rfl, x6', rfl, _, rfl, _, rfl, _, _, _, rfl, x, hp, hd, wl, ea, s, i, p, nn, xs, rfl, j6.th, eea, fun H7 T7 f7 => ?_⟩
              have j7 := j6.thing (f7.mono fun y hy => by rw [List.mem_singleton.mp hy]; simp) (.inl rfl) T7
              refine ⟨_, rfl, _, rfl, _, rfl, m, fm, mh, ml, ea, s, p, nn, xs, rfl, j7.ma, f7.kt _ _ eea, fun H8 M8 f8 => ?_⟩
              have j8 := j7.mach (f8.mono fun y hy => by rw [List.mem_singleton.mp hy]; simp) (.inl rfl) (.inl rfl) M8
              refine ⟨_, _, rfl, sm_str _, fun H9 s9 => ⟨_, rfl, bF rfl ?_⟩⟩
              exact ⟨_, _, _, _, _, _, _, _, hd, mh, ml, (outS s nn xs).2, rfl, (j8.same s9).more (Nat.le_succ i), wf_out wf nn xs, short_out sh⟩
            · refine bF (decide_eq_false c9) ?_
              refine ⟨_, rfl, _, _, rfl, rfl, _, rfl, ?_⟩
              by_cases c2 : pick < 2
              · refine bT (decide_eq_true c2) ?_
                obtain ⟨_, _, _, M3⟩ := j3.ma
                refine ⟨_, rfl, _, rfl, b, c, fm, rfl, j3.bag, M3.forms, fun q row H4 hq h8 hb4 f4 => ?_⟩
                have j4 := j3.pull f4 hb4
                obtain ⟨o, hio⟩ := isReq_ex row
                refine ⟨_, rfl, _, rfl, m, fm, mh, ml, q, s, p, row, o, rfl, j4.ma, g, hq, hio, fun ml' H5 l5 M5 f5 => ?_⟩
                have j5 := j4.mach (f5.mono fun y hy => by rw [List.mem_singleton.mp hy]; simp) (.inl rfl) (.inr l5) M5
                obtain ⟨dx5, _, _, _, x5, _⟩ := id j5.th
                refine ⟨_, rfl, x, dx5, _, rfl, x5, rfl, _, rfl, x, hp, hd, wl, q, s, i, p, row, o, rfl, j5.th, g, f5.kt _ _ hq, h8, hio, fun H6 T6 f6 => ⟨rfl, _, rfl, bF (nd_eq rfl) ?_⟩⟩
                have j6 := j5.thing (f6.mono fun y hy => by rw [List.mem_singleton.mp hy]; simp) (.inl rfl) T6
                exact ⟨_, _, _, _, _, _, _, _, hd, mh, ml', setupS p o s, rfl, j6.more (Nat.le_succ i), wf_setup wf (fun r hr => by subst hr; exact hio.1), short_setup⟩
              refine bF (decide_eq_false c2) ⟨_, rfl, _, _, rfl, rfl, _, rfl, ?_⟩
              by_cases c7 : pick < 7
              · refine bT (decide_eq_true c7) ?_
                refine ⟨_, rfl, m, fm, mh, ml, s, p, rfl, j3.ma, g, wf, fun due mh' H4 h4 M4 A4 f4 => ?_⟩
                have j4 := j3.mach f4 h4 (.inl rfl) M4
                obtain ⟨dq, z, vs4, rfl, edq⟩ := ans_head A4
                refine ⟨_, rfl, dq, _, 0, _, rfl, rfl, SqT.of edq, at_of (j := 0) rfl rfl, rfl, ?_⟩
                obtain ⟨dx4, _, _, _, x4, _⟩ := id j4.th
                refine ⟨_, rfl, x, dx4, _, rfl, x4, rfl, _, rfl, x, hp, hd, wl, s, i, p, rfl, j4.th, hi9, g, wf, fun v5 hd' H5 hd5 T5 A5 f5 => ?_⟩
                have j5 := j4.thing f5 hd5 T5
                refine ⟨_, rfl, v5, .ref dq, rfl, sm_ans (short_ans sh) A5 (A4.kt f5.kt), fun H6 s6 => ⟨_, rfl, bF rfl ?_⟩⟩
                exact ⟨_, _, _, _, _, _, _, _, hd', mh', ml, (inS s).2, rfl, j5.same s6, wf_in wf, short_in sh⟩
              refine bF (decide_eq_false c7) ?_
              refine ⟨(by show 0 ≤ sizeLine; decide), fun e1 he1 => ⟨(by show 2 ≤ sizeLine; decide), fun t1 ht1 => ⟨(by show 0 ≤ sizeLine; decide), fun e2 he2 => ⟨(by show 2 ≤ sizeLine; decide), fun t2 ht2 => ⟨(by show 1 ≤ sizeLine; decide), fun e3 he3 => ⟨(by show 2 ≤ sizeLine; decide), fun t3 ht3 => ⟨(by show 3 ≤ sizeLine; decide), fun l4 hl4 => ?_⟩⟩⟩⟩⟩⟩⟩
              have a1 := Same.new (o := HO.tup []) he1
              have a2 := Same.new (o := HO.tup [V.int 1, .ref e1]) ht1
              have a3 := Same.new (o := HO.tup []) he2
              have a4 := Same.new (o := HO.tup [V.int 0, .ref e2]) ht2
              have a5 := Same.new (o := HO.tup [V.int 5]) he3
              have a6 := Same.new (o := HO.tup [V.int 1, .ref e3]) ht3
              have a7 := Same.new (o := HO.lst [V.ref t1, .ref t2, .ref t3]) hl4
              have j4 := j3.same ((((((a1.trans a2).trans a3).trans a4).trans a5).trans a6).trans a7)
              have x1 := (((((a2.trans a3).trans a4).trans a5).trans a6).trans a7) _ _ (upd_same (H := H3) (a := e1) (o := .tup []))
              have x2 := ((((a3.trans a4).trans a5).trans a6).trans a7) _ _ (upd_same (H := upd H3 e1 (.tup [])) (a := t1) (o := .tup [V.int 1, .ref e1]))
              have x3' := (((a4.trans a5).trans a6).trans a7) _ _ (upd_same (H := upd (upd H3 e1 (.tup [])) t1 (.tup [V.int 1, .ref e1])) (a := e2) (o := .tup []))
              have x4 := ((a5.trans a6).trans a7) _ _ (upd_same (H := upd (upd (upd H3 e1 (.tup [])) t1 (.tup [V.int 1, .ref e1])) e2 (.tup [])) (a := t2) (o := .tup [V.int 0, .ref e2]))
              have x5 := (a6.trans a7) _ _ (upd_same (H := upd (upd (upd (upd H3 e1 (.tup [])) t1 (.tup [V.int 1, .ref e1])) e2 (.tup [])) t2 (.tup [V.int 0, .ref e2])) (a := e3) (o := .tup [V.int 5]))
              have x6 := a7 _ _ (upd_same (H := upd (upd (upd (upd (upd H3 e1 (.tup [])) t1 (.tup [V.int 1, .ref e1])) e2 (.tup [])) t2 (.tup [V.int 0, .ref e2])) e3 (.tup [V.int 5])) (a := t3) (o := .tup [V.int 1, .ref e3]))
              have nlb : l4 ≠ b := (j3.same (((((a1.trans a2).trans a3).trans a4).trans a5).trans a6)).bag.new hl4
              have x7 := upd_same (H := upd (upd (upd (upd (upd (upd H3 e1 (.tup [])) t1 (.tup [V.int 1, .ref e1])) e2 (.tup [])) t2 (.tup [V.int 0, .ref e2])) e3 (.tup [V.int 5])) t3 (.tup [V.int 1, .ref e3])) (a := l4) (o := .lst [V.ref t1, .ref t2, .ref t3])
              revert j4 x1 x2 x3' x4 x5 x6 x7
              generalize upd (upd (upd (upd (upd (upd (upd H3 e1 _) t1 _) e2 _) t2 _) e3 _) t3 _) l4 _ = H4
              intro j4 x1 x2 x3' x4 x5 x6 x7
              refine ⟨_, rfl, b, c, 6, rfl, j4.bag, (by decide), (by decide), fun ra H5 ra0 ra1 hb5 f5 => ⟨_, _, rfl, rfl, ⟨by decide, by decide⟩, _, rfl, b, c, 2, rfl, hb5, (by decide), (by decide), fun rb H6 rb0 rb1 hb6 f6 => ?_⟩⟩
              have f46 := f5.trans f6
              have j6 := j4.pull f46 hb6
              obtain ⟨ta, nn, ea, xs, eix, eta, eea⟩ : ∃ (ta : Addr) (nn : Int) (ea : Addr) (xs : List Int), atI [V.ref t1, .ref t2, .ref t3] (ra / 2 * rb) = some (.ref ta) ∧ H6 ta = some (.tup [.int nn, .ref ea]) ∧ H6 ea = some (.tup (xs.map V.int)) := by
                have hd2 : 0 ≤ ra / 2 ∧ ra / 2 ≤ 2 := by omega
                have hrb : rb = 0 ∨ rb = 1 := by omega
                have : ra / 2 * rb = 0 ∨ ra / 2 * rb = 1 ∨ ra / 2 * rb = 2 := by
                  rcases hrb with rfl | rfl
                  · left; omega
                  · rw [Int.mul_one]; omega
                rcases this with e | e | e
                · exact ⟨t1, 1, e1, [], by rw [e]; rfl, f46.kt _ _ x2, f46.kt _ _ x1⟩
                · exact ⟨t2, 0, e2, [], by rw [e]; rfl, f46.kt _ _ x4, f46.kt _ _ x3'⟩
                · exact ⟨t3, 1, e3, [5], by rw [e]; rfl, f46.kt _ _ x6, f46.kt _ _ x5⟩
              refine ⟨_, _, rfl, rfl, .inl ⟨by omega, by omega⟩, l4, _, _, _, rfl, rfl, SqL.of (f46.at x7 (not1 nlb)), eix, ta, _, rfl, SqT.of eta, rfl, _, _, rfl, _, _, rfl, rfl, ?_⟩
              obtain ⟨dx6, _, _, _, x6', _⟩ := id j6.th
              refine ⟨_, rfl, x, dx6, _, rfl, x6', rfl, _, rfl, _, rfl, _, _, _, rfl, x, hp, hd, wl, ea, s, i, p, nn, xs, rfl, j6.th, eea, fun H7 T7 f7 => ?_⟩
              have j7 := j6.thing (f7.mono fun y hy => by rw [List.mem_singleton.mp hy]; simp) (.inl rfl) T7
              refine ⟨_, rfl, _, rfl, _, rfl, m, fm, mh, ml, ea, s, p, nn, xs, rfl, j7.ma, f7.kt _ _ eea, fun H8 M8 f8 => ?_⟩
              have j8 := j7.mach (f8.mono fun y hy => by rw [List.mem_singleton.mp hy]; simp) (.inl rfl) (.inl rfl) M8
              refine ⟨_, _, rfl, sm_str _, fun H9 s9 => ⟨_, rfl, bF rfl ?_⟩⟩
              exact ⟨_, _, _, _, _, _, _, _, hd, mh, ml, (outS s nn xs).2, rfl, (j8.same s9).more (Nat.le_succ i), wf_out wf nn xs, short_out sh⟩
      · rintro σ H4 ⟨gv, v7, v8, v9, v10, v11, v12, v13, hd, mh, ml, s, rfl, j4, wf, sh⟩
        clear j3 x3
        obtain ⟨dx, fa4, pc4, rq4, x4, R4⟩ := id j4.th
        obtain ⟨fa4', rq4', m4, M4⟩ := id j4.ma
        -- number, level
        refine ⟨_, rfl, x, C, dx, _, _, rfl, x4, T.cl, T.nNum, rfl, _, rfl, x, C, dx, _, _, rfl, x4, T.cl, T.nLev, rfl, (by show 2 ≤ sizeLine; decide), fun la hla => ?_⟩
        have ma := Same.new (o := HO.lst [V.int s.num, .int s.lv]) hla _ _ m4
        refine ⟨_, rfl, m, _, rfl, g_number ma, _, rfl, m, _, rfl, g_level ma, (by show 2 ≤ sizeLine; decide), fun lb hlb => ?_⟩
        have sab := (Same.new (o := HO.lst [V.int s.num, .int s.lv]) hla).trans (Same.new (o := HO.lst [V.int s.num, .int s.lv]) hlb)
        refine ⟨.ref la, .ref lb, rfl, sm_lst (Same.new hlb _ _ upd_same) upd_same (show 2 ≤ 100 by decide) (.cons (sm_int _) (.cons (sm_int _) .nil)), fun H5 s5 => ⟨_, rfl, bF rfl ?_⟩⟩
        have j5 := j4.same (sab.trans s5)
        clear j4 x4 R4 m4 M4 ma sab s5
        obtain ⟨dx5, fa5, pc5, rq5, x5', R5⟩ := id j5.th
        obtain ⟨fa5', rq5', m5, M5⟩ := id j5.ma
        obtain ⟨kvs, hh, hks⟩ := M5.halves
        -- the halves
        refine ⟨_, rfl, m, _, rfl, g_halves m5, mh, kvs, rfl, .inl hh, fun p1 h1 q1 h2 => ?_, fun p1 h1 => ?_, fun bs l hbl hbs hl => ?_⟩
        · obtain ⟨k1, _, e1⟩ := halves_mem hks p1 h1
          obtain ⟨k2, _, e2⟩ := halves_mem hks q1 h2
          rw [e1, e2]
          exact alike_keys _ _
        · obtain ⟨k1, _, e1⟩ := halves_mem hks p1 h1
          rw [e1]
          intro z
          cases z
        have s6 := Same.new (o := HO.lst (bs.map V.ref)) hl
        refine ⟨l, rfl, ⟨_, SqL.of upd_same⟩, fun Dl hD => ?_⟩
        have l6 : (upd H5 l (.lst (bs.map V.ref))) l = some (.lst (bs.map V.ref)) := upd_same
        have D5 : H5 Dl = none := by
          cases z : H5 Dl with
          | none => rfl
          | some o => rw [s6 _ _ z] at hD; cases hD
        have j6 := j5.same s6
        revert s6 l6 hD j6
        generalize upd H5 l (.lst (bs.map V.ref)) = H6
        intro s6 hD l6 j6
        refine lc_list (K := K) (a := l) (xs := bs.map V.ref) (fun i H7 => Same H6 H7 ∧ H7 Dl = some (.lst (List.replicate i (V.bl false)))) ⟨Same.new hD, upd_same⟩ (fun i H7 _ ⟨s7, _⟩ => SqL.of (s7 _ _ l6)) ?_ ?_
        · rintro i7 y H7 hy ⟨s7, d7⟩
          rw [List.getElem?_map] at hy
          obtain ⟨b0, hb0, rfl⟩ := Option.map_eq_some_iff.mp hy
          obtain ⟨kv, hkv, ekv⟩ := hbs b0 (List.mem_of_getElem? hb0)
          obtain ⟨k0, hk0, ek0⟩ := halves_mem hks kv hkv
          rw [ek0, keyK_V] at ekv
          have s57 := s6.trans s7
          have eb7 := s57 _ _ ekv
          have j7 := j6.same s7
          obtain ⟨dx7, _, _, _, x7, _⟩ := id j7.th
          refine ⟨rfl, _, rfl, x, dx7, _, rfl, x7, rfl, _, rfl, b0, _, 0, _, rfl, rfl, SqT.of eb7, rfl, _, rfl, b0, _, 1, _, rfl, rfl, SqT.of eb7, rfl, x, hp, hd, wl, s, i + 1, p, k0, rfl, j7.th, hk0, fun v1 H8 s8 hv1 => ?_⟩
          have s58 := s57.trans s8
          obtain ⟨v2, ev2, hv2⟩ := hks.get hk0
          refine ⟨_, rfl, m, _, rfl, g_halves (s58 _ _ m5), _, rfl, mh, v2, rfl, ?_, v1, v2, rfl, sm_half hv1 (hv2.kt (Same.kt s58)), fun H9 s9 => ⟨_, rfl, _, s9 _ _ (s8 _ _ d7), ?_, ?_, ?_⟩⟩
          · rw [← ev2]
            exact DGet.t (k := keyK k0) (s58 _ _ hh) (s8 _ _ eb7)
          · rw [List.length_replicate]
            have hi7 : i7 < bs.length := (List.getElem?_eq_some_iff.mp hb0).1
            have : bs.length ≤ 4 := by rw [hbl, hks.len]; exact keysL_len g s.lv
            exact Nat.lt_of_le_of_lt (show i7 ≤ 10 by omega) (by decide)
          · exact same_fresh ((s7.trans s8).trans s9) hD
          · rw [upd_same, List.replicate_succ']
            rfl
        · rintro H7 ⟨s7, d7⟩
          refine ⟨Dl, List.replicate bs.length false, rfl, SqL.of ?_, ?_⟩
          · rw [d7, List.length_map, List.map_replicate]
          rw [any_false]
          exact ⟨_, rfl, bF rfl ⟨_, _, _, _, _, _, _, _, hd, mh, ml, s, rfl, j6.same s7, wf, sh⟩⟩
    · rintro σ H2 _
      exact k H2
end
end Plug
end
section
set_option Elab.async false
set_option linter.all false
set_option maxRecDepth 100000
set_option maxHeartbeats 0
/-! Hd1: what the head looks at; the run of the top. -/
namespace Plug
open PySem PySem.Spec PyProof.Rows L2
def d_out_half : He.DefD := ⟨("out_half", none), "out_half", "out_half", defArgs s_out_half, defBody s_out_half, defScope s_out_half, [], []⟩
def d_in_half : He.DefD := ⟨("in_half", none), "in_half", "in_half", defArgs s_in_half, defBody s_in_half, defScope s_in_half, [], []⟩
def d_cut : He.DefD := ⟨("cut", none), "cut", "cut", defArgs s_cut, defBody s_cut, defScope s_cut, [], []⟩
def d_cleared : He.DefD := ⟨("cleared", none), "cleared", "cleared", defArgs s_cleared, defBody s_cleared, defScope s_cleared, [], []⟩
def d_good_end : He.DefD := ⟨("good_end", none), "good_end", "good_end", defArgs s_good_end, defBody s_good_end, defScope s_good_end, [], []⟩
def d_need_plan : He.DefD := ⟨("need_plan", none), "need_plan", "need_plan", defArgs s_need_plan, defBody s_need_plan, defScope s_need_plan, [], []⟩
def d_two : He.DefD := ⟨("two", none), "two", "two", defArgs s_two, defBody s_two, defScope s_two, [], []⟩
def d_device_row : He.DefD := ⟨("device_row", none), "device_row", "device_row", defArgs s_device_row, defBody s_device_row, defScope s_device_row, [], []⟩
def d_end_row : He.DefD := ⟨("end_row", none), "end_row", "end_row", defArgs s_end_row, defBody s_end_row, defScope s_end_row, [], []⟩
def d_settings_row : He.DefD := ⟨("settings_row", none), "settings_row", "settings_row", defArgs s_settings_row, defBody s_settings_row, defScope s_settings_row, [], []⟩
def d_need_request : He.DefD := ⟨("need_request", none), "need_request", "need_request", defArgs s_need_request, defBody s_need_request, defScope s_need_request, [], []⟩
def d_request_bytes : He.DefD := ⟨("request_bytes", none), "request_bytes", "request_bytes", defArgs s_request_bytes, defBody s_request_bytes, defScope s_request_bytes, [], []⟩
def d_read_request : He.DefD := ⟨("read_request", none), "read_request", "read_request", defArgs s_read_request, defBody s_read_request, defScope s_read_request, [], []⟩
def d_asks : He.DefD := ⟨("asks", none), "asks", "asks", defArgs s_asks, defBody s_asks, defScope s_asks, [], []⟩
def d__law_bag : He.DefD := ⟨("_law_bag", none), "_law_bag", "_law_bag", defArgs s_l_bag, defBody s_l_bag, defScope s_l_bag, [], []⟩
def d__law_pull : He.DefD := ⟨("_law_pull", none), "_law_pull", "_law_pull", defArgs s_l_pull, defBody s_l_pull, defScope s_l_pull, [], []⟩
def d__law_whole : He.DefD := ⟨("_law_whole", none), "_law_whole", "_law_whole", defArgs s_l_whole, defBody s_l_whole, defScope s_l_whole, [], []⟩
def d__law_same : He.DefD := ⟨("_law_same", none), "_law_same", "_law_same", defArgs s_l_same, defBody s_l_same, defScope s_l_same, [], []⟩
def d__law_one : He.DefD := ⟨("_law_one", none), "_law_one", "_law_one", defArgs s_l_one, defBody s_l_one, defScope s_l_one, [], []⟩
def d__law_end : He.DefD := ⟨("_law_end", none), "_law_end", "_law_end", defArgs s_l_end, defBody s_l_end, defScope s_l_end, [], []⟩
def d__law_ends : He.DefD := ⟨("_law_ends", none), "_law_ends", "_law_ends", defArgs s_l_ends, defBody s_l_ends, defScope s_l_ends, [], []⟩
def d__law_plan : He.DefD := ⟨("_law_plan", none), "_law_plan", "_law_plan", defArgs s_l_plan, defBody s_l_plan, defScope s_l_plan, [], []⟩
def d__law_two : He.DefD := ⟨("_law_two", none), "_law_two", "_law_two", defArgs s_l_two, defBody s_l_two, defScope s_l_two, [], []⟩
def d__law_device : He.DefD := ⟨("_law_device", none), "_law_device", "_law_device", defArgs s_l_device, defBody s_l_device, defScope s_l_device, [], []⟩
def d__law_settings : He.DefD := ⟨("_law_settings", none), "_law_settings", "_law_settings", defArgs s_l_settings, defBody s_l_settings, defScope s_l_settings, [], []⟩
def d__law_cut : He.DefD := ⟨("_law_cut", none), "_law_cut", "_law_cut", defArgs s_l_cut, defBody s_l_cut, defScope s_l_cut, [], []⟩
def d__law_setup : He.DefD := ⟨("_law_setup", none), "_law_setup", "_law_setup", defArgs s_l_setup, defBody s_l_setup, defScope s_l_setup, [], []⟩
def d__law_key : He.DefD := ⟨("_law_key", none), "_law_key", "_law_key", defArgs s_l_key, defBody s_l_key, defScope s_l_key, [], []⟩
def d__law_effect : He.DefD := ⟨("_law_effect", none), "_law_effect", "_law_effect", defArgs s_l_effect, defBody s_l_effect, defScope s_l_effect, [], []⟩
def d__law_in : He.DefD := ⟨("_law_in", none), "_law_in", "_law_in", defArgs s_l_in, defBody s_l_in, defScope s_l_in, [], []⟩
def d__law_went : He.DefD := ⟨("_law_went", none), "_law_went", "_law_went", defArgs s_l_went, defBody s_l_went, defScope s_l_went, [], []⟩
def d__law_out : He.DefD := ⟨("_law_out", none), "_law_out", "_law_out", defArgs s_l_out, defBody s_l_out, defScope s_l_out, [], []⟩
def d__law_forms : He.DefD := ⟨("_law_forms", none), "_law_forms", "_law_forms", defArgs s_l_forms, defBody s_l_forms, defScope s_l_forms, [], []⟩
def d__law_drawn_row : He.DefD := ⟨("_law_drawn_row", none), "_law_drawn_row", "_law_drawn_row", defArgs s_l_drawn_row, defBody s_l_drawn_row, defScope s_l_drawn_row, [], []⟩
def d_law : He.DefD := ⟨("law", none), "law", "law", defArgs s_law, defBody s_law, defScope s_law, [], []⟩
def e___init__ : He.DefD := ⟨("Thing", some "__init__"), "__init__", "Thing.__init__", defArgs m_init, defBody m_init, defScope m_init, [], []⟩
def e_restart : He.DefD := ⟨("Thing", some "restart"), "restart", "Thing.restart", defArgs m_restart, defBody m_restart, defScope m_restart, [], []⟩
def e_set_up : He.DefD := ⟨("Thing", some "set_up"), "set_up", "Thing.set_up", defArgs m_set_up, defBody m_set_up, defScope m_set_up, [], []⟩
def e_reply : He.DefD := ⟨("Thing", some "reply"), "reply", "Thing.reply", defArgs m_reply, defBody m_reply, defScope m_reply, [], []⟩
def e_lets : He.DefD := ⟨("Thing", some "lets"), "lets", "Thing.lets", defArgs m_lets, defBody m_lets, defScope m_lets, [], []⟩
def e_end_of : He.DefD := ⟨("Thing", some "end_of"), "end_of", "Thing.end_of", defArgs m_end_of, defBody m_end_of, defScope m_end_of, [], []⟩
def e_hear_setup : He.DefD := ⟨("Thing", some "hear_setup"), "hear_setup", "Thing.hear_setup", defArgs m_hear_setup, defBody m_hear_setup, defScope m_hear_setup, [], []⟩
def e_effect : He.DefD := ⟨("Thing", some "effect"), "effect", "Thing.effect", defArgs m_effect, defBody m_effect, defScope m_effect, [], []⟩
def e_hear_in0 : He.DefD := ⟨("Thing", some "hear_in0"), "hear_in0", "Thing.hear_in0", defArgs m_hear_in0, defBody m_hear_in0, defScope m_hear_in0, [], []⟩
def e_went0 : He.DefD := ⟨("Thing", some "went0"), "went0", "Thing.went0", defArgs m_went0, defBody m_went0, defScope m_went0, [], []⟩
def e_hear_out0 : He.DefD := ⟨("Thing", some "hear_out0"), "hear_out0", "Thing.hear_out0", defArgs m_hear_out0, defBody m_hear_out0, defScope m_hear_out0, [], []⟩
def e_hear_in : He.DefD := ⟨("Thing", some "hear_in"), "hear_in", "Thing.hear_in", defArgs m_hear_in, defBody m_hear_in, defScope m_hear_in, [], []⟩
def e_hear_went : He.DefD := ⟨("Thing", some "hear_went"), "hear_went", "Thing.hear_went", defArgs m_hear_went, defBody m_hear_went, defScope m_hear_went, [], []⟩
def e_hear_out : He.DefD := ⟨("Thing", some "hear_out"), "hear_out", "Thing.hear_out", defArgs m_hear_out, defBody m_hear_out, defScope m_hear_out, [], []⟩
def e_half : He.DefD := ⟨("Thing", some "half"), "half", "Thing.half", defArgs m_half, defBody m_half, defScope m_half, [], []⟩
def fn : List He.DefD := [d_out_half, d_in_half, d_cut, d_cleared, d_good_end, d_need_plan, d_two, d_device_row, d_end_row, d_settings_row, d_need_request, d_request_bytes, d_read_request, d_asks, d__law_bag, d__law_pull, d__law_whole, d__law_same, d__law_one, d__law_end, d__law_ends, d__law_plan, d__law_two, d__law_device, d__law_settings, d__law_cut, d__law_setup, d__law_key, d__law_effect, d__law_in, d__law_went, d__law_out, d__law_forms, d__law_drawn_row, d_law, e___init__, e_restart, e_set_up, e_reply, e_lets, e_end_of, e_hear_setup, e_effect, e_hear_in0, e_went0, e_hear_out0, e_hear_in, e_hear_went, e_hear_out, e_half]
def fa : List He.Fa := [.glo "out_half", .glo "in_half", .glo "cut", .glo "cleared", .glo "good_end", .glo "need_plan", .glo "two", .glo "device_row", .glo "end_row", .glo "settings_row", .glo "need_request", .glo "request_bytes", .glo "read_request", .glo "asks", .glo "_law_bag", .glo "_law_pull", .glo "_law_whole", .glo "_law_same", .glo "_law_one", .glo "_law_end", .glo "_law_ends", .glo "_law_plan", .glo "_law_two", .glo "_law_device", .glo "_law_settings", .glo "_law_cut", .glo "_law_setup", .glo "_law_key", .glo "_law_effect", .glo "_law_in", .glo "_law_went", .glo "_law_out", .glo "_law_forms", .glo "_law_drawn_row", .glo "law", .glo "Thing", .glo "FORMS", .glo "PLACES", .glo "MOST", .glo "SIZES", .glo "PERIODS", .glo "ASKING", .glo "BadRequest", .free "len", .free "int", .free "tuple", .free "list", .free "range", .free "enumerate", .free "isinstance", .free "bool", .free "str", .free "sorted", .free "set", .free "all", .free "any", .int "SIZE0" 8, .int "MOST_ENDS" 8, .int "MOST_PORTS" 4, .cls "Thing", .noat "Thing" "form", .noat "Thing" "hub_ports", .noat "Thing" "number", .noat "Thing" "level", .noat "Thing" "halves", .noat "Thing" "stage", .noat "Thing" "request", .noat "Thing" "mark", .noat "Thing" "pieces", .noat "Thing" "wishes", .meth "Thing" "__init__", .meth "Thing" "restart", .meth "Thing" "set_up", .meth "Thing" "reply", .meth "Thing" "lets", .meth "Thing" "end_of", .meth "Thing" "hear_setup", .meth "Thing" "effect", .meth "Thing" "hear_in0", .meth "Thing" "went0", .meth "Thing" "hear_out0", .meth "Thing" "hear_in", .meth "Thing" "hear_went", .meth "Thing" "hear_out", .meth "Thing" "half", .mkr "Thing", .exc "BadRequest", .exm "BadRequest" "BadRequest" true]
def ts : List He.Tab := [(fun K => He.ga K "FORMS", wordsL), (fun K => He.ga K "PLACES", ["number", "set", "clear", "port", "reset", "shut"]), (fun K => He.ga K "MOST", ["number", "set", "clear", "port", "reset", "shut"])]
/-- the tuple at a is of these -/
def tupA (K : PySem.W.Frag) (a : Addr) (vs : List V) : Bool := match K.lookup a with
  | some ⟨.type c, _, .seq its _, _⟩ => decide (c = "tuple") && (decide (its.size ≤ sizeLine) && He.relAll vs its.toList)
  | _ => false
def formsB (K : PySem.W.Frag) : Bool := (List.range 8).all fun i => match PySem.W.nsIn K (He.ga K "FORMS") (wordS i) with
  | some (some (.ref b)) => tupA K b ((formRow i).map V.int)
  | _ => false
def placesB (K : PySem.W.Frag) : Bool := (List.range 8).all fun i => match PySem.W.nsIn K (He.ga K "PLACES") (wordS i) with
  | some none => !placed i
  | some (some (.int j _)) => placed i && decide (j = placeN i)
  | _ => false
def mostB (K : PySem.W.Frag) : Bool := (List.range 8).all fun i => match placed i with
  | false => true
  | true => (match PySem.W.nsIn K (He.ga K "MOST") (wordS i) with
    | some (some (.int j _)) => decide (j = Mi.most i)
    | _ => false)
def exB (K : PySem.W.Frag) : Bool := He.tupB K "SIZES" [.int 8, .int 16, .int 32, .int 64] && (He.tupB K "PERIODS" [.int 1, .int 2, .int 4, .int 8, .int 16, .int 32] && (He.tupB K "ASKING" [.str "device", .str "settings", .str "port"] && (formsB K && (placesB K && mostB K))))
abbrev R : PySem.W.OpenRow := PySem.W.OpenLaw.row PySem.Challenge.rw_plugtree_k17_whole_endpoint_0
abbrev qv : Program := PySem.W.view R.prog [59]
abbrev hk : PySem.W.Hook := He.hookX 5 fa fn ts [] exB
def ob (s : PySem.W.SharedT) : He.AlX := He.obsX 5 fa fn ts [] exB (HandSHeadRun.getT s)
theorem ob_eq (s : PySem.W.SharedT) : ob s = hk.obs s.abs := He.obsX_eq (HandSHeadRun.getT_eq s)
def n1 : List PySem.Str := ["_wall", "BusError", "Missing", "BadPlan", "BadRequest", "NoEnd", "SIZE0", "out_half", "in_half", "cut", "heard", "asked", "went", "cleared", "SIZES", "PERIODS", "MOST_ENDS", "MOST_PORTS", "good_end", "need_plan", "two", "device_row", "end_row", "settings_row", "FORMS", "PLACES", "MOST", "ASKING"]
def n2 : List PySem.Str := ["need_request", "request_bytes", "read_request", "asks", "Thing", "_law_bag", "_law_pull", "_law_whole", "_law_same", "_law_one", "_law_end", "_law_ends", "_law_plan", "_law_two", "_law_device", "_law_settings", "_law_cut", "_law_setup", "_law_key", "_law_effect", "_law_in", "_law_went", "_law_out", "_law_forms", "_law_drawn_row"]
def names : List PySem.Str := n1 ++ n2
theorem runF (w : World) : HandSHeadRun.RunEq R qv hk ob 4000 names (w.withFollow "special-get-raises" false) := by
  intro os
  kernel_rfl
theorem runT (w : World) : HandSHeadRun.RunEq R qv hk ob 4000 names (w.withFollow "special-get-raises" true) := by
  intro os
  kernel_rfl
theorem run (w : World) : HandSHeadRun.RunEq R qv hk ob 4000 names w := PySem.W.byRow2 "special-get-raises" runF runT w
end Plug
end
section
set_option Elab.async false
set_option linter.all false
set_option maxRecDepth 100000
set_option maxHeartbeats 4000000
/-! Hd2: the facts, and each promise from them. -/
namespace Plug
open PySem PySem.Spec PyProof.Rows L2 Mi
theorem fun_of {K : PySem.W.Frag} {x qual : Str} {st : Stmt} {f : Addr} {fd : FuncData} (F : FunD K x qual (defArgs st) (defBody st) (defScope st) [] [] f fd) : Fun K x qual st f fd := by
  obtain ⟨oc, od, dV, kV, doc, pm, an, cdv, ct, osl, e, lk, hcd, hD, _⟩ := F.ex
  rcases hD with ⟨_, rfl⟩ | ⟨z, _⟩
  · exact ⟨⟨oc, od, kV, doc, pm, an, cdv, ct, osl, e, lk, hcd⟩, F.kp⟩
  · exact absurd rfl z
theorem dfn_of {K : PySem.W.Frag} {h : Heap} {mg : Str → Option Value} {x : Str} {st : Stmt} {ps : List Str} (X : K.In h) (G : h.Ns mainGlobals mg) (g : (He.Fa.glo x).ok K = true) (F : ∃ fd, FunD K x x (defArgs st) (defBody st) (defScope st) [] [] (He.ga K x) fd)
    (hb : ∀ (kV doc pm : Value) (an : Option Addr) (cdv ct : Value) (us : List Value), us.length = ps.length → bindArgs (PySem.W.fnOf x x (defArgs st) (defBody st) (defScope st) .none kV doc pm an cdv ct) ⟨us, []⟩ = pure (ps.zip us)) : Dfn K mg x st ps := by
  obtain ⟨fd, F⟩ := F
  exact ⟨_, fd, fun_of F, He.glo_ok X G g, F.bindsN hb⟩
theorem mth_of {K : PySem.W.Frag} {m qual : Str} {st : Stmt} {ps : List Str} (g : (He.Fa.meth "Thing" m).ok K = true) (F : ∃ fd, FunD K m qual (defArgs st) (defBody st) (defScope st) [] [] (He.ma K (He.ga K "Thing") m) fd)
    (hb : ∀ (kV doc pm : Value) (an : Option Addr) (cdv ct : Value) (us : List Value), us.length = ps.length → bindArgs (PySem.W.fnOf m qual (defArgs st) (defBody st) (defScope st) .none kV doc pm an cdv ct) ⟨us, []⟩ = pure (ps.zip us)) : Mth K (He.ga K "Thing") m qual st ps := by
  obtain ⟨fd, F⟩ := F
  exact ⟨_, fd, fun_of F, He.meth_ok g, F.bindsN hb⟩
theorem keys_ok {K : PySem.W.Frag} {a : Addr} {P : Params} {ks : List Str} (h : He.dicW K a = some (He.keysIn P ks)) : KKeys K a ks := by
  unfold He.dicW at h
  cases q : K.lookup a with
  | none => rw [q] at h; cases h
  | some o =>
    obtain ⟨oc, od, dt, osl⟩ := o
    rw [q] at h
    cases oc with
    | type c =>
      cases od with
      | none =>
        cases dt with
        | dict es n =>
          have h1 : (match decide (c = "dict") && (osl.isEmpty && !(a == sysModules)) with
            | true => some (es.toList.map He.keyOf)
            | false => none) = some (He.keysIn P ks) := h
          cases z : decide (c = "dict") && (osl.isEmpty && !(a == sysModules)) with
          | false => rw [z] at h1; cases h1
          | true =>
            rw [z] at h1
            obtain ⟨z1, z2⟩ := He.ba z
            obtain ⟨z3, z4⟩ := He.ba z2
            have e1 : c = "dict" := of_decide_eq_true z1
            have e2 : osl = #[] := Array.isEmpty_iff.mp z3
            have e3 : (a == sysModules) = false := by
              cases y : a == sysModules with
              | false => rfl
              | true => rw [y] at z4; cases z4
            subst e1 e2
            have e4 : es.toList.map He.keyOf = He.keysIn P ks := Option.some.inj h1
            have e5 : es.size = ks.length := by
              have := congrArg List.length e4
              unfold He.keysIn at this
              rw [List.length_map, List.length_map, Array.length_toList] at this
              exact this
            refine ⟨es, n, q, e3, e5, fun i y hy => ?_⟩
            have e6 : (es.toList.map He.keyOf)[i]? = (He.keysIn P ks)[i]? := by rw [e4]
            unfold He.keysIn at e6
            rw [List.getElem?_map, List.getElem?_map, hy, Array.getElem?_toList] at e6
            obtain ⟨en, h6, h7⟩ := Option.map_eq_some_iff.mp e6
            unfold He.keyOf at h7
            split at h7
            · rename_i x t hk
              have h8 := Option.some.inj h7
              obtain ⟨h9, _⟩ := Prod.mk.inj h8
              exact ⟨en, t, h6, by rw [hk, h9]⟩
            · cases h7
        | _ => cases h
      | some b => cases dt <;> cases h
    | _ => cases od <;> cases dt <;> cases h
theorem tupA_ok {K : PySem.W.Frag} {a : Addr} {vs : List V} (h : tupA K a vs = true) (H : Hp) : SqT K H a vs := by
  unfold tupA at h
  cases q : K.lookup a with
  | none => rw [q] at h; cases h
  | some o =>
    obtain ⟨oc, od, dt, osl⟩ := o
    rw [q] at h
    cases oc with
    | type c =>
      cases dt with
      | seq its n =>
        obtain ⟨h1, h2⟩ := He.ba (show (decide (c = "tuple") && (decide (its.size ≤ sizeLine) && He.relAll vs its.toList)) = true from h)
        obtain ⟨h3, h4⟩ := He.ba h2
        exact .inr ⟨_, its, n, q, congrArg Value.type (of_decide_eq_true h1), rfl, of_decide_eq_true h3, He.relAll_ok h4⟩
      | _ => cases h
    | _ => cases dt <;> cases h
theorem tabs_of {K : PySem.W.Frag} {w : World} {h : Heap} {mg : Str → Option Value} (X : K.In h) (G : h.Ns mainGlobals mg) (c : He.SaysX fa fn ts [] exB w h K) : Tabs K w mg (He.ga K "FORMS") (He.ga K "PLACES") (He.ga K "MOST") := by
  have d := c.t.d
  obtain ⟨_, m2⟩ := He.ba c.more
  obtain ⟨_, m3⟩ := He.ba m2
  obtain ⟨_, m4⟩ := He.ba m3
  obtain ⟨mF, m5⟩ := He.ba m4
  obtain ⟨mP, mM⟩ := He.ba m5
  refine ⟨He.glo_ok X G (d.fact 36 (f := .glo "FORMS") rfl), He.glo_ok X G (d.fact 37 (f := .glo "PLACES") rfl), He.glo_ok X G (d.fact 38 (f := .glo "MOST") rfl), c.t.tab 0 rfl, c.t.tab 1 rfl, c.t.tab 2 rfl, ?_, fun i hi => ?_, fun i hi => ?_, fun i hi hp => ?_⟩
  · have e : ts.map (fun t => He.dicW K (t.1 K)) = ts.map fun t => some (He.keysIn w.params t.2) := congrArg (fun z : He.AlT => z.2) c.t
    have e2 := congrArg (fun l => l[0]?) e
    exact keys_ok (Option.some.inj (show some (He.dicW K (He.ga K "FORMS")) = some (some (He.keysIn w.params wordsL)) from e2))
  · have h1 := List.all_eq_true.mp (show ((List.range 8).all fun i => match PySem.W.nsIn K (He.ga K "FORMS") (wordS i) with
      | some (some (.ref b)) => tupA K b ((formRow i).map V.int)
      | _ => false) = true from mF) i (List.mem_range.mpr hi)
    cases q : PySem.W.nsIn K (He.ga K "FORMS") (wordS i) with
    | none => rw [q] at h1; cases h1
    | some o =>
      rw [q] at h1
      cases o with
      | none => cases h1
      | some v =>
        cases v with
        | ref b => exact ⟨b, rfl, fun H => tupA_ok h1 H⟩
        | _ => cases h1
  · have h1 := List.all_eq_true.mp (show ((List.range 8).all fun i => match PySem.W.nsIn K (He.ga K "PLACES") (wordS i) with
      | some none => !placed i
      | some (some (.int j _)) => placed i && decide (j = placeN i)
      | _ => false) = true from mP) i (List.mem_range.mpr hi)
    cases q : PySem.W.nsIn K (He.ga K "PLACES") (wordS i) with
    | none => rw [q] at h1; cases h1
    | some o =>
      rw [q] at h1
      cases o with
      | none =>
        refine ⟨none, rfl, ?_, fun u hu => by cases hu⟩
        have h2 : (!placed i) = true := h1
        cases y : placed i with
        | false => rfl
        | true => rw [y] at h2; cases h2
      | some v =>
        cases v with
        | int j t =>
          obtain ⟨k1, k2⟩ := He.ba (show (placed i && decide (j = placeN i)) = true from h1)
          refine ⟨some (.int j t), rfl, by rw [k1]; rfl, fun u hu => ⟨t, ?_⟩⟩
          rw [← Option.some.inj hu, of_decide_eq_true k2]
        | _ => cases h1
  · have h1 := List.all_eq_true.mp (show ((List.range 8).all fun i => match placed i with
      | false => true
      | true => (match PySem.W.nsIn K (He.ga K "MOST") (wordS i) with
        | some (some (.int j _)) => decide (j = Mi.most i)
        | _ => false)) = true from mM) i (List.mem_range.mpr hi)
    rw [hp] at h1
    cases q : PySem.W.nsIn K (He.ga K "MOST") (wordS i) with
    | none => rw [q] at h1; cases h1
    | some o =>
      rw [q] at h1
      cases o with
      | none => cases h1
      | some v =>
        cases v with
        | int j t =>
          have k2 : decide (j = Mi.most i) = true := h1
          exact ⟨t, by rw [of_decide_eq_true k2]⟩
        | _ => cases h1
theorem txt_of {K : PySem.W.Frag} {w : World} {h : Heap} {mg : Str → Option Value} (X : K.In h) (G : h.Ns mainGlobals mg) (c : He.SaysX fa fn ts [] exB w h K) : Txt K w mg (He.ga K "Thing") := by
  have d := c.t.d
  obtain ⟨m1, m2⟩ := He.ba c.more
  obtain ⟨m3, m4⟩ := He.ba m2
  obtain ⟨m5, _⟩ := He.ba m4
  obtain ⟨e1, e2, e3, e4⟩ := He.exc_ok (d.fact 86 (f := .exc "BadRequest") rfl)
  exact ⟨He.cls_ok (d.fact 59 (f := .cls "Thing") rfl), He.noat_ok (d.fact 60 (f := .noat "Thing" "form") rfl), He.noat_ok (d.fact 61 (f := .noat "Thing" "hub_ports") rfl), He.noat_ok (d.fact 62 (f := .noat "Thing" "number") rfl), He.noat_ok (d.fact 63 (f := .noat "Thing" "level") rfl), He.noat_ok (d.fact 64 (f := .noat "Thing" "halves") rfl), He.noat_ok (d.fact 65 (f := .noat "Thing" "stage") rfl), He.noat_ok (d.fact 66 (f := .noat "Thing" "request") rfl), He.noat_ok (d.fact 67 (f := .noat "Thing" "mark") rfl), He.noat_ok (d.fact 68 (f := .noat "Thing" "pieces") rfl), He.noat_ok (d.fact 69 (f := .noat "Thing" "wishes") rfl), He.free_ok X G (d.fact 43 (f := .free "len") rfl), He.free_ok X G (d.fact 44 (f := .free "int") rfl), He.free_ok X G (d.fact 45 (f := .free "tuple") rfl), He.free_ok X G (d.fact 46 (f := .free "list") rfl), He.free_ok X G (d.fact 47 (f := .free "range") rfl), He.free_ok X G (d.fact 48 (f := .free "enumerate") rfl), He.free_ok X G (d.fact 49 (f := .free "isinstance") rfl), He.free_ok X G (d.fact 50 (f := .free "bool") rfl), He.free_ok X G (d.fact 51 (f := .free "str") rfl), He.free_ok X G (d.fact 52 (f := .free "sorted") rfl), He.free_ok X G (d.fact 53 (f := .free "set") rfl), He.free_ok X G (d.fact 54 (f := .free "all") rfl), He.free_ok X G (d.fact 55 (f := .free "any") rfl), He.int_ok X G (d.fact 56 (f := .int "SIZE0" 8) rfl), He.int_ok X G (d.fact 57 (f := .int "MOST_ENDS" 8) rfl), He.int_ok X G (d.fact 58 (f := .int "MOST_PORTS" 4) rfl),
    ⟨_, He.glo_ok X G (d.fact 39 (f := .glo "SIZES") rfl), fun H => He.tupB_ok m1 H⟩, ⟨_, He.glo_ok X G (d.fact 40 (f := .glo "PERIODS") rfl), fun H => He.tupB_ok m3 H⟩, ⟨_, He.glo_ok X G (d.fact 41 (f := .glo "ASKING") rfl), fun H => He.tupB_ok m5 H⟩, ⟨_, _, _, tabs_of X G c⟩, ⟨_, ⟨He.glo_ok X G (d.fact 42 (f := .glo "BadRequest") rfl), e1, e2, e3, e4, He.exm_ok (d.fact 87 (f := .exm "BadRequest" "BadRequest" true) rfl)⟩⟩⟩
theorem facts {P : Program} {w : World} {K : PySem.W.Frag} {h : Heap} {mg : Str → Option Value} {f : Addr} (X : K.In h) (G : h.Ns mainGlobals mg) (hfa : mg ("law" : Str) = some (.ref f)) (c : He.SaysX fa fn ts [] exB w h K) :
    ∃ fd : FuncData, (∀ (s : Shared) (v : Value), BindsTo s fd ⟨[v], []⟩ [("_law_script", v)]) ∧ ∀ base : Heap, K.In base → base.Ns mainGlobals mg → FnOk P w K mg base CX0 6 f fd ["_law_script"] (spLaw K) := by
  have d := c.t.d
  have T := txt_of X G c
  obtain ⟨Cb, B⟩ := T.bad
  have M := He.mkr_ok (d.fact 85 (f := .mkr "Thing") rfl)
  have mgC := He.glo_ok X G (d.fact 35 (f := .glo "Thing") rfl)
  obtain ⟨fd, F0⟩ := d.def_ 34 (d := d_law) rfl
  have e := hfa.symm.trans (He.glo_ok X G (d.fact 34 (f := .glo "law") rfl))
  cases e
  have b := FunD.bindsA (ps := ["_law_script"]) F0 (fun _ _ _ _ _ _ us hl => match us, hl with | [_], _ => rfl)
  have F : Fun K "law" "law" s_law _ fd := fun_of F0
  have D_out_half : Dfn K mg "out_half" s_out_half _ := (dfn_of (x := "out_half") (st := s_out_half) (ps := []) X G (d.fact 0 (f := .glo "out_half") rfl) (d.def_ 0 (d := d_out_half) rfl) (fun _ _ _ _ _ _ us hl => match us, hl with | [], _ => rfl))
  have D_in_half : Dfn K mg "in_half" s_in_half _ := (dfn_of (x := "in_half") (st := s_in_half) (ps := []) X G (d.fact 1 (f := .glo "in_half") rfl) (d.def_ 1 (d := d_in_half) rfl) (fun _ _ _ _ _ _ us hl => match us, hl with | [], _ => rfl))
  have D_cut : Dfn K mg "cut" s_cut _ := (dfn_of (x := "cut") (st := s_cut) (ps := ["data", "size"]) X G (d.fact 2 (f := .glo "cut") rfl) (d.def_ 2 (d := d_cut) rfl) (fun _ _ _ _ _ _ us hl => match us, hl with | [_, _], _ => rfl))
  have D_cleared : Dfn K mg "cleared" s_cleared _ := (dfn_of (x := "cleared") (st := s_cleared) (ps := ["half"]) X G (d.fact 3 (f := .glo "cleared") rfl) (d.def_ 3 (d := d_cleared) rfl) (fun _ _ _ _ _ _ us hl => match us, hl with | [_], _ => rfl))
  have D_good_end : Dfn K mg "good_end" s_good_end _ := (dfn_of (x := "good_end") (st := s_good_end) (ps := ["end"]) X G (d.fact 4 (f := .glo "good_end") rfl) (d.def_ 4 (d := d_good_end) rfl) (fun _ _ _ _ _ _ us hl => match us, hl with | [_], _ => rfl))
  have D_need_plan : Dfn K mg "need_plan" s_need_plan _ := (dfn_of (x := "need_plan") (st := s_need_plan) (ps := ["plan"]) X G (d.fact 5 (f := .glo "need_plan") rfl) (d.def_ 5 (d := d_need_plan) rfl) (fun _ _ _ _ _ _ us hl => match us, hl with | [_], _ => rfl))
  have D_two : Dfn K mg "two" s_two _ := (dfn_of (x := "two") (st := s_two) (ps := ["number"]) X G (d.fact 6 (f := .glo "two") rfl) (d.def_ 6 (d := d_two) rfl) (fun _ _ _ _ _ _ us hl => match us, hl with | [_], _ => rfl))
  have D_device_row : Dfn K mg "device_row" s_device_row _ := (dfn_of (x := "device_row") (st := s_device_row) (ps := ["plan"]) X G (d.fact 7 (f := .glo "device_row") rfl) (d.def_ 7 (d := d_device_row) rfl) (fun _ _ _ _ _ _ us hl => match us, hl with | [_], _ => rfl))
  have D_end_row : Dfn K mg "end_row" s_end_row _ := (dfn_of (x := "end_row") (st := s_end_row) (ps := ["end"]) X G (d.fact 8 (f := .glo "end_row") rfl) (d.def_ 8 (d := d_end_row) rfl) (fun _ _ _ _ _ _ us hl => match us, hl with | [_], _ => rfl))
  have D_settings_row : Dfn K mg "settings_row" s_settings_row _ := (dfn_of (x := "settings_row") (st := s_settings_row) (ps := ["plan"]) X G (d.fact 9 (f := .glo "settings_row") rfl) (d.def_ 9 (d := d_settings_row) rfl) (fun _ _ _ _ _ _ us hl => match us, hl with | [_], _ => rfl))
  have D_need_request : Dfn K mg "need_request" s_need_request _ := (dfn_of (x := "need_request") (st := s_need_request) (ps := ["request"]) X G (d.fact 10 (f := .glo "need_request") rfl) (d.def_ 10 (d := d_need_request) rfl) (fun _ _ _ _ _ _ us hl => match us, hl with | [_], _ => rfl))
  have D_request_bytes : Dfn K mg "request_bytes" s_request_bytes _ := (dfn_of (x := "request_bytes") (st := s_request_bytes) (ps := ["request"]) X G (d.fact 11 (f := .glo "request_bytes") rfl) (d.def_ 11 (d := d_request_bytes) rfl) (fun _ _ _ _ _ _ us hl => match us, hl with | [_], _ => rfl))
  have D_read_request : Dfn K mg "read_request" s_read_request _ := (dfn_of (x := "read_request") (st := s_read_request) (ps := ["row"]) X G (d.fact 12 (f := .glo "read_request") rfl) (d.def_ 12 (d := d_read_request) rfl) (fun _ _ _ _ _ _ us hl => match us, hl with | [_], _ => rfl))
  have D_asks : Dfn K mg "asks" s_asks _ := (dfn_of (x := "asks") (st := s_asks) (ps := ["request"]) X G (d.fact 13 (f := .glo "asks") rfl) (d.def_ 13 (d := d_asks) rfl) (fun _ _ _ _ _ _ us hl => match us, hl with | [_], _ => rfl))
  have D__law_bag : Dfn K mg "_law_bag" s_l_bag _ := (dfn_of (x := "_law_bag") (st := s_l_bag) (ps := ["_law_script"]) X G (d.fact 14 (f := .glo "_law_bag") rfl) (d.def_ 14 (d := d__law_bag) rfl) (fun _ _ _ _ _ _ us hl => match us, hl with | [_], _ => rfl))
  have D__law_pull : Dfn K mg "_law_pull" s_l_pull _ := (dfn_of (x := "_law_pull") (st := s_l_pull) (ps := ["_law_bag_here", "_law_upto"]) X G (d.fact 15 (f := .glo "_law_pull") rfl) (d.def_ 15 (d := d__law_pull) rfl) (fun _ _ _ _ _ _ us hl => match us, hl with | [_, _], _ => rfl))
  have D__law_whole : Dfn K mg "_law_whole" s_l_whole _ := (dfn_of (x := "_law_whole") (st := s_l_whole) (ps := ["_law_found"]) X G (d.fact 16 (f := .glo "_law_whole") rfl) (d.def_ 16 (d := d__law_whole) rfl) (fun _ _ _ _ _ _ us hl => match us, hl with | [_], _ => rfl))
  have D__law_same : Dfn K mg "_law_same" s_l_same _ := (dfn_of (x := "_law_same") (st := s_l_same) (ps := ["_law_found", "_law_due"]) X G (d.fact 17 (f := .glo "_law_same") rfl) (d.def_ 17 (d := d__law_same) rfl) (fun _ _ _ _ _ _ us hl => match us, hl with | [_, _], _ => rfl))
  have D__law_one : Dfn K mg "_law_one" s_l_one _ := (dfn_of (x := "_law_one") (st := s_l_one) (ps := ["_law_bag_here", "_law_row"]) X G (d.fact 18 (f := .glo "_law_one") rfl) (d.def_ 18 (d := d__law_one) rfl) (fun _ _ _ _ _ _ us hl => match us, hl with | [_, _], _ => rfl))
  have D__law_end : Dfn K mg "_law_end" s_l_end _ := (dfn_of (x := "_law_end") (st := s_l_end) (ps := ["_law_bag_here", "_law_spot"]) X G (d.fact 19 (f := .glo "_law_end") rfl) (d.def_ 19 (d := d__law_end) rfl) (fun _ _ _ _ _ _ us hl => match us, hl with | [_, _], _ => rfl))
  have D__law_ends : Dfn K mg "_law_ends" s_l_ends _ := (dfn_of (x := "_law_ends") (st := s_l_ends) (ps := ["_law_bag_here", "_law_most"]) X G (d.fact 20 (f := .glo "_law_ends") rfl) (d.def_ 20 (d := d__law_ends) rfl) (fun _ _ _ _ _ _ us hl => match us, hl with | [_, _], _ => rfl))
  have D__law_plan : Dfn K mg "_law_plan" s_l_plan _ := (dfn_of (x := "_law_plan") (st := s_l_plan) (ps := ["_law_bag_here", "_law_most", "_law_hub"]) X G (d.fact 21 (f := .glo "_law_plan") rfl) (d.def_ 21 (d := d__law_plan) rfl) (fun _ _ _ _ _ _ us hl => match us, hl with | [_, _, _], _ => rfl))
  have D__law_two : Dfn K mg "_law_two" s_l_two _ := (dfn_of (x := "_law_two") (st := s_l_two) (ps := ["_law_number"]) X G (d.fact 22 (f := .glo "_law_two") rfl) (d.def_ 22 (d := d__law_two) rfl) (fun _ _ _ _ _ _ us hl => match us, hl with | [_], _ => rfl))
  have D__law_device : Dfn K mg "_law_device" s_l_device _ := (dfn_of (x := "_law_device") (st := s_l_device) (ps := ["_law_plan_here"]) X G (d.fact 23 (f := .glo "_law_device") rfl) (d.def_ 23 (d := d__law_device) rfl) (fun _ _ _ _ _ _ us hl => match us, hl with | [_], _ => rfl))
  have D__law_settings : Dfn K mg "_law_settings" s_l_settings _ := (dfn_of (x := "_law_settings") (st := s_l_settings) (ps := ["_law_plan_here"]) X G (d.fact 24 (f := .glo "_law_settings") rfl) (d.def_ 24 (d := d__law_settings) rfl) (fun _ _ _ _ _ _ us hl => match us, hl with | [_], _ => rfl))
  have D__law_cut : Dfn K mg "_law_cut" s_l_cut _ := (dfn_of (x := "_law_cut") (st := s_l_cut) (ps := ["_law_data", "_law_piece_size"]) X G (d.fact 25 (f := .glo "_law_cut") rfl) (d.def_ 25 (d := d__law_cut) rfl) (fun _ _ _ _ _ _ us hl => match us, hl with | [_, _], _ => rfl))
  have D__law_setup : Dfn K mg "_law_setup" s_l_setup _ := (dfn_of (x := "_law_setup") (st := s_l_setup) (ps := ["_law_m", "_law_row"]) X G (d.fact 26 (f := .glo "_law_setup") rfl) (d.def_ 26 (d := d__law_setup) rfl) (fun _ _ _ _ _ _ us hl => match us, hl with | [_, _], _ => rfl))
  have D__law_key : Dfn K mg "_law_key" s_l_key _ := (dfn_of (x := "_law_key") (st := s_l_key) (ps := ["_law_byte"]) X G (d.fact 27 (f := .glo "_law_key") rfl) (d.def_ 27 (d := d__law_key) rfl) (fun _ _ _ _ _ _ us hl => match us, hl with | [_], _ => rfl))
  have D__law_effect : Dfn K mg "_law_effect" s_l_effect _ := (dfn_of (x := "_law_effect") (st := s_l_effect) (ps := ["_law_m"]) X G (d.fact 28 (f := .glo "_law_effect") rfl) (d.def_ 28 (d := d__law_effect) rfl) (fun _ _ _ _ _ _ us hl => match us, hl with | [_], _ => rfl))
  have D__law_in : Dfn K mg "_law_in" s_l_in _ := (dfn_of (x := "_law_in") (st := s_l_in) (ps := ["_law_m"]) X G (d.fact 29 (f := .glo "_law_in") rfl) (d.def_ 29 (d := d__law_in) rfl) (fun _ _ _ _ _ _ us hl => match us, hl with | [_], _ => rfl))
  have D__law_went : Dfn K mg "_law_went" s_l_went _ := (dfn_of (x := "_law_went") (st := s_l_went) (ps := ["_law_m"]) X G (d.fact 30 (f := .glo "_law_went") rfl) (d.def_ 30 (d := d__law_went) rfl) (fun _ _ _ _ _ _ us hl => match us, hl with | [_], _ => rfl))
  have D__law_out : Dfn K mg "_law_out" s_l_out _ := (dfn_of (x := "_law_out") (st := s_l_out) (ps := ["_law_m", "_law_mark", "_law_data"]) X G (d.fact 31 (f := .glo "_law_out") rfl) (d.def_ 31 (d := d__law_out) rfl) (fun _ _ _ _ _ _ us hl => match us, hl with | [_, _, _], _ => rfl))
  have D__law_forms : Dfn K mg "_law_forms" s_l_forms _ := (dfn_of (x := "_law_forms") (st := s_l_forms) (ps := ["_law_plan_here"]) X G (d.fact 32 (f := .glo "_law_forms") rfl) (d.def_ 32 (d := d__law_forms) rfl) (fun _ _ _ _ _ _ us hl => match us, hl with | [_], _ => rfl))
  have D__law_drawn_row : Dfn K mg "_law_drawn_row" s_l_drawn_row _ := (dfn_of (x := "_law_drawn_row") (st := s_l_drawn_row) (ps := ["_law_bag_here", "_law_forms_here"]) X G (d.fact 33 (f := .glo "_law_drawn_row") rfl) (d.def_ 33 (d := d__law_drawn_row) rfl) (fun _ _ _ _ _ _ us hl => match us, hl with | [_, _], _ => rfl))
  have D___init__ : Mth K (He.ga K "Thing") "__init__" "Thing.__init__" m_init _ := (mth_of (m := "__init__") (qual := "Thing.__init__") (st := m_init) (ps := ["self", "plan"]) (d.fact 70 (f := .meth "Thing" "__init__") rfl) (d.def_ 35 (d := e___init__) rfl) (fun _ _ _ _ _ _ us hl => match us, hl with | [_, _], _ => rfl))
  have D_restart : Mth K (He.ga K "Thing") "restart" "Thing.restart" m_restart _ := (mth_of (m := "restart") (qual := "Thing.restart") (st := m_restart) (ps := ["self"]) (d.fact 71 (f := .meth "Thing" "restart") rfl) (d.def_ 36 (d := e_restart) rfl) (fun _ _ _ _ _ _ us hl => match us, hl with | [_], _ => rfl))
  have D_set_up : Mth K (He.ga K "Thing") "set_up" "Thing.set_up" m_set_up _ := (mth_of (m := "set_up") (qual := "Thing.set_up") (st := m_set_up) (ps := ["self", "level"]) (d.fact 72 (f := .meth "Thing" "set_up") rfl) (d.def_ 37 (d := e_set_up) rfl) (fun _ _ _ _ _ _ us hl => match us, hl with | [_, _], _ => rfl))
  have D_reply : Mth K (He.ga K "Thing") "reply" "Thing.reply" m_reply _ := (mth_of (m := "reply") (qual := "Thing.reply") (st := m_reply) (ps := ["self", "request"]) (d.fact 73 (f := .meth "Thing" "reply") rfl) (d.def_ 38 (d := e_reply) rfl) (fun _ _ _ _ _ _ us hl => match us, hl with | [_, _], _ => rfl))
  have D_lets : Mth K (He.ga K "Thing") "lets" "Thing.lets" m_lets _ := (mth_of (m := "lets") (qual := "Thing.lets") (st := m_lets) (ps := ["self", "request"]) (d.fact 74 (f := .meth "Thing" "lets") rfl) (d.def_ 39 (d := e_lets) rfl) (fun _ _ _ _ _ _ us hl => match us, hl with | [_, _], _ => rfl))
  have D_end_of : Mth K (He.ga K "Thing") "end_of" "Thing.end_of" m_end_of _ := (mth_of (m := "end_of") (qual := "Thing.end_of") (st := m_end_of) (ps := ["self", "byte"]) (d.fact 75 (f := .meth "Thing" "end_of") rfl) (d.def_ 40 (d := e_end_of) rfl) (fun _ _ _ _ _ _ us hl => match us, hl with | [_, _], _ => rfl))
  have D_hear_setup : Mth K (He.ga K "Thing") "hear_setup" "Thing.hear_setup" m_hear_setup _ := (mth_of (m := "hear_setup") (qual := "Thing.hear_setup") (st := m_hear_setup) (ps := ["self", "data"]) (d.fact 76 (f := .meth "Thing" "hear_setup") rfl) (d.def_ 41 (d := e_hear_setup) rfl) (fun _ _ _ _ _ _ us hl => match us, hl with | [_, _], _ => rfl))
  have D_effect : Mth K (He.ga K "Thing") "effect" "Thing.effect" m_effect _ := (mth_of (m := "effect") (qual := "Thing.effect") (st := m_effect) (ps := ["self"]) (d.fact 77 (f := .meth "Thing" "effect") rfl) (d.def_ 42 (d := e_effect) rfl) (fun _ _ _ _ _ _ us hl => match us, hl with | [_], _ => rfl))
  have D_hear_in0 : Mth K (He.ga K "Thing") "hear_in0" "Thing.hear_in0" m_hear_in0 _ := (mth_of (m := "hear_in0") (qual := "Thing.hear_in0") (st := m_hear_in0) (ps := ["self"]) (d.fact 78 (f := .meth "Thing" "hear_in0") rfl) (d.def_ 43 (d := e_hear_in0) rfl) (fun _ _ _ _ _ _ us hl => match us, hl with | [_], _ => rfl))
  have D_went0 : Mth K (He.ga K "Thing") "went0" "Thing.went0" m_went0 _ := (mth_of (m := "went0") (qual := "Thing.went0") (st := m_went0) (ps := ["self"]) (d.fact 79 (f := .meth "Thing" "went0") rfl) (d.def_ 44 (d := e_went0) rfl) (fun _ _ _ _ _ _ us hl => match us, hl with | [_], _ => rfl))
  have D_hear_out0 : Mth K (He.ga K "Thing") "hear_out0" "Thing.hear_out0" m_hear_out0 _ := (mth_of (m := "hear_out0") (qual := "Thing.hear_out0") (st := m_hear_out0) (ps := ["self", "mark", "data"]) (d.fact 80 (f := .meth "Thing" "hear_out0") rfl) (d.def_ 45 (d := e_hear_out0) rfl) (fun _ _ _ _ _ _ us hl => match us, hl with | [_, _, _], _ => rfl))
  have D_hear_in : Mth K (He.ga K "Thing") "hear_in" "Thing.hear_in" m_hear_in _ := (mth_of (m := "hear_in") (qual := "Thing.hear_in") (st := m_hear_in) (ps := ["self", "endpoint"]) (d.fact 81 (f := .meth "Thing" "hear_in") rfl) (d.def_ 46 (d := e_hear_in) rfl) (fun _ _ _ _ _ _ us hl => match us, hl with | [_, _], _ => rfl))
  have D_hear_went : Mth K (He.ga K "Thing") "hear_went" "Thing.hear_went" m_hear_went _ := (mth_of (m := "hear_went") (qual := "Thing.hear_went") (st := m_hear_went) (ps := ["self", "endpoint"]) (d.fact 82 (f := .meth "Thing" "hear_went") rfl) (d.def_ 47 (d := e_hear_went) rfl) (fun _ _ _ _ _ _ us hl => match us, hl with | [_, _], _ => rfl))
  have D_hear_out : Mth K (He.ga K "Thing") "hear_out" "Thing.hear_out" m_hear_out _ := (mth_of (m := "hear_out") (qual := "Thing.hear_out") (st := m_hear_out) (ps := ["self", "endpoint", "mark", "data"]) (d.fact 83 (f := .meth "Thing" "hear_out") rfl) (d.def_ 48 (d := e_hear_out) rfl) (fun _ _ _ _ _ _ us hl => match us, hl with | [_, _, _, _], _ => rfl))
  have D_half : Mth K (He.ga K "Thing") "half" "Thing.half" m_half _ := (mth_of (m := "half") (qual := "Thing.half") (st := m_half) (ps := ["self", "endpoint", "way"]) (d.fact 84 (f := .meth "Thing" "half") rfl) (d.def_ 49 (d := e_half) rfl) (fun _ _ _ _ _ _ us hl => match us, hl with | [_, _, _], _ => rfl))
  refine ⟨fd, fun s v => b s [v] rfl, fun base _ _ => ?_⟩
  -- the program
  have g_two : Cl P w K mg base 1 "two" spTwo := ok_two D_two
  have g_inh : Cl P w K mg base 1 "in_half" spInH := ok_in_half D_in_half
  have g_outh : Cl P w K mg base 1 "out_half" spOutH := ok_out_half D_out_half
  have g_good : Cl P w K mg base 1 "good_end" spGoodEnd := ok_good_end T D_good_end
  have g_need := ok_need_plan T D_need_plan g_good
  have g_dev := ok_device_row D_device_row g_need g_two
  have g_row := ok_end_row T D_end_row g_two
  have g_set := ok_settings_row T D_settings_row g_need g_row g_two
  have g_cut : Cl P w K mg base 1 "cut" spCut := ok_cut T D_cut
  have g_clr := ok_cleared T D_cleared g_inh
  have g_nreq : Cl P w K mg base 1 "need_request" spNeedR := ok_need_request T D_need_request
  have g_byt := ok_request_bytes T D_request_bytes g_nreq
  have g_ask := ok_asks T D_asks g_nreq
  have g_read := ok_read_request T B D_read_request g_byt
  have t_res : Mt P w K mg base 1 (He.ga K "Thing") "restart" _ := ok_restart T D_restart
  have t_ini := ok_init T D___init__ g_need t_res
  have t_end : Mt P w K mg base 1 (He.ga K "Thing") "end_of" _ := ok_end_of T D_end_of
  have t_set := ok_set_up T D_set_up g_inh g_outh
  have t_let := ok_lets T D_lets t_end
  have t_rep := ok_reply T D_reply g_dev g_set
  have t_eff := ok_effect T D_effect t_set t_end g_clr
  have t_hs := ok_hear_setup T B D_hear_setup g_read g_ask t_rep t_let g_cut
  have t_in0 := ok_hear_in0 T D_hear_in0 t_eff
  have t_we0 := ok_went0 T D_went0 t_eff
  have t_ou0 : Mt P w K mg base 1 (He.ga K "Thing") "hear_out0" _ := ok_hear_out0 T D_hear_out0
  have t_in := ok_hear_in T D_hear_in t_in0
  have t_we := ok_hear_went T D_hear_went t_we0
  have t_ou := ok_hear_out T D_hear_out t_ou0
  have t_half : Mt P w K mg base 1 (He.ga K "Thing") "half" _ := ok_half T D_half
  -- the law
  have l_bag : Cl P w K mg base 1 "_law_bag" (spBag K) := ok_l_bag T D__law_bag
  have l_pull : Cl P w K mg base 1 "_law_pull" spPull := ok_l_pull T D__law_pull
  have l_whole : Cl P w K mg base 1 "_law_whole" spWhole := ok_l_whole T D__law_whole
  have l_same := ok_l_same T D__law_same l_whole 2
  have l_one := ok_l_one T D__law_one l_pull
  have l_end := ok_l_end T D__law_end l_pull l_one
  have l_ends := ok_l_ends T D__law_ends l_pull l_end
  have l_plan := ok_l_plan T D__law_plan l_pull l_ends
  have l_two : Cl P w K mg base 1 "_law_two" spTwo := ok_l_two D__law_two
  have l_dev := ok_l_device T D__law_device l_two
  have l_set := ok_l_settings T D__law_settings l_two
  have l_cut : Cl P w K mg base 1 "_law_cut" spCut := ok_l_cut T D__law_cut
  have l_key : Cl P w K mg base 1 "_law_key" spKey := ok_l_key D__law_key
  have l_setup := ok_l_setup T D__law_setup l_dev l_set l_cut l_key
  have l_eff := ok_l_effect T D__law_effect l_key
  have l_in := ok_l_in T D__law_in l_eff
  have l_went := ok_l_went T D__law_went l_eff
  have l_out : Cl P w K mg base 1 "_law_out" spOutL := ok_l_out T D__law_out
  have l_forms : Cl P w K mg base 1 "_law_forms" spForms := ok_l_forms T D__law_forms
  have l_row := ok_l_row T D__law_drawn_row l_pull l_one
  exact ok_law T mgC M.makes M.kp F l_bag l_pull l_plan l_forms t_ini t_we l_went l_row l_setup t_hs l_in t_in t_ou l_out l_same t_half
end Plug
end
set_option Elab.async false
set_option linter.all false
set_option maxRecDepth 100000
set_option maxHeartbeats 4000000
open PySem PySem.W PySem.Calls PyProof.Rows
theorem PySem.Challenge.cw_plugtree_k17_whole_endpoint_0_holds : PySem.Challenge.rw_plugtree_k17_whole_endpoint_0.Holds := by
  w_on; o_law
  refine HandSHeadRun.head_any (r := OpenLaw.row PySem.Challenge.rw_plugtree_k17_whole_endpoint_0) (q := view (OpenLaw.row PySem.Challenge.rw_plugtree_k17_whole_endpoint_0).prog [59]) (H := Plug.hk) (ob := Plug.ob) (M := 4000) (loose := Plug.names)
    (d := HandSHeadRun.topDef (OpenLaw.row PySem.Challenge.rw_plugtree_k17_whole_endpoint_0).prog 59) (kwd := []) Plug.ob_eq
    (by kernel_rfl) (fun s => by kernel_rfl) Plug.run (by kernel_rfl) (by kernel_rfl) (by kernel_rfl) (by rfl) (by first | assumption | decide +kernel) (by decide +kernel) ⟨rfl, rfl, rfl, rfl, rfl, by decide +kernel⟩ ?hw ?hc
  case hw => w_witness2
  case hc =>
    refine L2.walk_ofE (l := PySem.Challenge.rw_plugtree_k17_whole_endpoint_0) (n := 63) (k := 6) (x := "_law_script") (CX := L2.CX0) rfl (by decide) (by kernel_rfl) ⟨rfl, by decide, by decide⟩ ?F (fun _ _ _ _ z => z)
    intro w mg fa h Y G hmg0
    obtain ⟨K, KX, c⟩ := Y
    have hmg : mg ("law" : PySem.Str) = some (.ref fa) := by
      have e : (HandSHeadRun.topDef (OpenLaw.row PySem.Challenge.rw_plugtree_k17_whole_endpoint_0).prog 59).name = ("law" : PySem.Str) := by kernel_rfl
      rw [← e]
      exact hmg0
    obtain ⟨fd, hb, hF⟩ := Plug.facts (P := (PySem.Challenge.rw_plugtree_k17_whole_endpoint_0).prog) (w := w) KX G hmg c
    exact ⟨K, fd, Plug.spLaw K, KX, hb, fun H a ns hl _ hS => ⟨a, ns, rfl, hS, fun _ => rfl⟩, hF⟩
