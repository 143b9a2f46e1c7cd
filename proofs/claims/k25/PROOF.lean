import PyProof.Rows.All
import Wide.All
import OpenK.AllK
import Wide.FinOn
import HandS.ForMost
import HandS.Exc
import HandS.TryOnly
import HandS.TryMany
import HandS.ExcOwn
import HandS.ExcInit
import HandS.ExcField
import HandS.IsInst
import HandS.TupAny
import HandS.SetKeys
import HandS.Flow
import HandS.Conv
import HandS.Codes
import HandS.Defaults
import HandS.MakeKwOnly
import HandS.ClsMeth
import HandS.WrittenGet
import HandS.ReplaceLit
import HandS.ReplaceList
import HandS.Lambda
import HandS.StrMore
import HandS.Zip
import PySem.Challenge.RW_keysthroughtext_k25_whole_texts_of_value
import HandS.HeadHook1
import HandS.HeadHook2
import HandS.HeadHook3
import HandS.HeadHook4
import KE.GoesComp
import KE.GoesRaise
import KE.SortKeyHeap
import HandS.SortKw
import PyProof.RulesMatch
import PyProof.EnumMake
import KE.GoesMore
import HandS.ReplaceDef
import HandS.HeadWalk
import KE.KStateDown
import HandS.Ends
import HandS.Words
import HandS.WordsExc
import HandS.Head0
import HandS.Head1
import HandS.Head2
import HandS.HeadEnd
import Lean
set_option Elab.async false
set_option linter.all false
set_option maxRecDepth 100000
set_option maxHeartbeats 4000000
/-! THE MATHEMATICS: values, options, what a writer makes of a value, its text, its tokens (plain Lean, no program). -/
namespace K25
open PySem L2 TL
/-- a value, a model, a raw value: rows by their word, tables by their keys -/
inductive Val where
  | non | bl (b : Bool) | int (i : Int) | str (x : Str) | row (tag : Str) (xs : List Val) | tab (ks : List Key) (xs : List Val)
def isNon : Val → Bool
  | .non => true
  | _ => false
structure Opts where
  nk : Str
  tp : Str
  nu : Str
  dk : Str
  od : Str
  ln : Str
/-- the text of a key -/
def kT : Key → Str
  | .inl i => toString i
  | .inr s => s
def isI : Key → Bool
  | .inl _ => true
  | .inr _ => false
abbrev Err := Str × List Key
abbrev E := Key × Val
def skips (o : Opts) (e : E) : Bool := isNon e.2 && decide (o.nu = "skip")
def bads (o : Opts) (e : E) : Bool := isI e.1 && decide (o.nk = "refuse")
def keeps (o : Opts) (e : E) : Bool := !isI e.1 || decide (o.nk = "text")
def keptRun (o : Opts) (path : List Key) : List E → List E → Except Err (List E)
  | [], acc => .ok acc
  | e :: r, acc => if skips o e = true then keptRun o path r acc else if bads o e = true then .error ("key", path ++ [e.1]) else keptRun o path r (if keeps o e = true then acc ++ [e] else acc)
def leK (a b : E) : Bool := decide ((kT a.1).cps.toList ≤ (kT b.1).cps.toList)
def ordered (o : Opts) (es : List E) : List E := if o.od = "rising" then es.mergeSort leK else es
def pairsRun (f : Val → List Key → Except Err Val) (o : Opts) (path : List Key) : List E → List Str → List Val → Except Err (List Val)
  | [], _, acc => .ok acc
  | e :: r, seen, acc => if decide (kT e.1 ∈ seen) && decide (o.dk = "refuse") then .error ("double", path ++ [e.1]) else
    match f e.2 (path ++ [e.1]) with
    | .error x => .error x
    | .ok y => pairsRun f o path r (seen ++ [kT e.1]) (acc ++ [y])
def rowsRun (f : Val → List Key → Except Err Val) (path : List Key) : List Val → Nat → List Val → Except Err (List Val)
  | [], _, acc => .ok acc
  | x :: r, i, acc => match f x (path ++ [.inl (i : Int)]) with
    | .error x => .error x
    | .ok y => rowsRun f path r (i + 1) (acc ++ [y])
def longI (i : Int) : Bool := decide ((15 : Int) < ((toString (if i < 0 then -i else i) : Str).length : Int))
/-- what a writer with the options o makes of a value at a path (n: more than its depth) -/
def rawN (o : Opts) : Nat → Val → List Key → Except Err Val
  | 0, _, _ => .error ("", [])
  | n + 1, .tab ks xs, path => match keptRun o path (ks.zip xs) [] with
    | .error x => .error x
    | .ok es => match pairsRun (rawN o n) o path (ordered o es) [] [] with
      | .error x => .error x
      | .ok ys => .ok (.tab ((ordered o es).map fun e => .inr (kT e.1)) ys)
  | n + 1, .row t xs, path => if t = "tuple" ∧ o.tp = "refuse" then .error ("tuple", path) else match rowsRun (rawN o n) path xs 0 [] with
    | .error x => .error x
    | .ok ys => .ok (.row "row" ys)
  | n + 1, .int i, path => if longI i = true ∧ o.ln ≠ "keep" then (if o.ln = "refuse" then .error ("long", path) else .ok (.str (toString i))) else .ok (.int i)
  | n + 1, .non, _ => .ok .non
  | n + 1, .bl b, _ => .ok (.bl b)
  | n + 1, .str s, _ => .ok (.str s)
/-- a string in its text -/
def esc : List Nat → List Nat
  | [] => []
  | c :: r => if c = 34 ∨ c = 92 then 92 :: c :: esc r else c :: esc r
def strL (l : List Nat) : List Nat := 34 :: (esc l ++ [34])
def numI (i : Int) : List Nat := if i < 0 then 45 :: numL i.natAbs else numL i.natAbs
def textN : Nat → Val → List Nat
  | 0, _ => []
  | _ + 1, .non => [110, 117, 108, 108]
  | _ + 1, .bl true => [116, 114, 117, 101]
  | _ + 1, .bl false => [102, 97, 108, 115, 101]
  | _ + 1, .int i => numI i
  | _ + 1, .str s => strL (tl s)
  | n + 1, .row _ xs => 91 :: (joinL [44] (xs.map (textN n)) ++ [93])
  | n + 1, .tab ks xs => 123 :: (joinL [44] ((ks.zip xs).map fun e => strL (tl (kT e.1)) ++ 58 :: textN n e.2) ++ [125])
/-- the tokens of the law's own walk -/
def tokGo (f : Val → List (List Nat)) (tb : Bool) : List E → List (List Nat) → List (List Nat)
  | [], acc => acc
  | e :: r, acc => tokGo f tb r ((if acc = [] then acc else acc ++ [[44]]) ++ ((if tb = true then [strL (tl (kT e.1)), [58]] else []) ++ f e.2))
def tokN : Nat → Val → List (List Nat)
  | 0, _ => []
  | _ + 1, .non => [[110, 117, 108, 108]]
  | _ + 1, .bl true => [[116, 114, 117, 101]]
  | _ + 1, .bl false => [[102, 97, 108, 115, 101]]
  | _ + 1, .int i => [numI i]
  | _ + 1, .str s => [strL (tl s)]
  | n + 1, .row _ xs => [91] :: (tokGo (tokN n) false (xs.map fun x => (.inl 0, x)) [] ++ [[93]])
  | n + 1, .tab ks xs => [123] :: (tokGo (tokN n) true (ks.zip xs) [] ++ [[125]])
/-! ### what is known of drawn models and of raw values -/
/-- a text of at most 300 signs -/
def SOk (s : Str) : Prop := s.length ≤ 300 ∧ ∀ c ∈ tl s, c < 1114112
def KOk : Key → Prop
  | .inl i => i.natAbs < 10 ^ 30
  | .inr s => SOk s
def MOk : Nat → Val → Prop
  | 0, _ => False
  | _ + 1, .non => True
  | _ + 1, .bl _ => True
  | _ + 1, .int i => i.natAbs < 10 ^ 30
  | _ + 1, .str s => SOk s
  | n + 1, .row t xs => (t = "list" ∨ t = "tuple") ∧ xs.length < min 13 (13 * n) ∧ ∀ x ∈ xs, MOk n x
  | n + 1, .tab ks xs => ks.length = xs.length ∧ xs.length < min 13 (13 * n) ∧ ks.Nodup ∧ (∀ k ∈ ks, KOk k) ∧ ∀ x ∈ xs, MOk n x
/-- how many parts -/
def cnt : Nat → Val → Nat
  | 0, _ => 1
  | n + 1, .row _ xs => 1 + (xs.map (cnt n)).sum
  | n + 1, .tab _ xs => 1 + (xs.map (cnt n)).sum
  | _ + 1, _ => 1
/-- a raw value within the bounds -/
def ROk : Nat → Val → Prop
  | 0, _ => False
  | _ + 1, .non => True
  | _ + 1, .bl _ => True
  | _ + 1, .int i => i.natAbs < 10 ^ 30
  | _ + 1, .str s => SOk s
  | n + 1, .row t xs => t = "row" ∧ xs.length < min 13 (13 * n) ∧ ∀ x ∈ xs, ROk n x
  | n + 1, .tab ks xs => ks.length = xs.length ∧ xs.length < min 13 (13 * n) ∧ (∀ k ∈ ks, ∃ s : Str, k = .inr s ∧ SOk s) ∧ ∀ x ∈ xs, ROk n x
/-! ### numbers and joins as lists of codes -/
theorem tl_int (i : Int) : tl (toString i : Str) = numI i := by
  unfold numI
  by_cases h : i < 0
  · rw [if_pos h]
    have e : (toString i : String) = "-" ++ toString ((i.natAbs : Nat) : Int) := by
      cases i with
      | ofNat n => exact absurd h (by simp)
      | negSucc n => rfl
    rw [e, tl_ofString, String.toList_append, List.map_append, ← tl_ofString, ← tl_ofString, tl_num]
    rfl
  · rw [if_neg h]
    have e : i = ((i.natAbs : Nat) : Int) := by omega
    rw [e, tl_num] <;> rfl
theorem numI_len {i : Int} (h : i.natAbs < 10 ^ 30) : (numI i).length ≤ 31 := by
  have q := numL_len (n := i.natAbs) (k := 30) (by omega) h
  unfold numI
  split
  · rw [List.length_cons]; omega
  · omega
theorem int_len {i : Int} (h : i.natAbs < 10 ^ 30) : (toString i : Str).length ≤ 31 := by
  rw [len_tl, tl_int]
  exact numI_len h
theorem numI_codes (i : Int) : ∀ c ∈ numI i, c < 128 := fun c hc => by
  unfold numI at hc
  split at hc
  · rcases List.mem_cons.mp hc with z | z
    · omega
    · have := numL_digits _ c z
      omega
  · have := numL_digits _ c hc
    omega
theorem int_ok {i : Int} (h : i.natAbs < 10 ^ 30) : SOk (toString i) := by
  refine ⟨?_, fun c hc => ?_⟩
  · have := int_len h
    omega
  · rw [tl_int] at hc
    have := numI_codes i c hc
    omega
theorem app_ok {x y : Str} (h : x.length + y.length ≤ 300) (hx : ∀ c ∈ tl x, c < 1114112) (hy : ∀ c ∈ tl y, c < 1114112) : SOk (x ++ y) := by
  refine ⟨?_, fun c hc => ?_⟩
  · rw [len_tl, tl_append, List.length_append, ← len_tl, ← len_tl]
    omega
  · rw [tl_append] at hc
    exact (List.mem_append.mp hc).elim (hx c) (hy c)
theorem joinL_nil : ∀ ls : List (List Nat), joinL [] ls = ls.flatten
  | [] => rfl
  | [a] => by simp [joinL]
  | a :: b :: r => by
    have ih := joinL_nil (b :: r)
    show a ++ ([] ++ joinL [] (b :: r)) = _
    rw [ih]
    simp
theorem tl_join0 (ys : List Str) : tl (Txt.join "" ys) = (ys.map tl).flatten := by
  rw [join_eq, tl_join]
  exact joinL_nil _
theorem join0_len (ys : List Str) : (Txt.join "" ys).length = (ys.map (·.length)).sum := by
  rw [len_tl, tl_join0, List.length_flatten, List.map_map]
  exact congrArg List.sum (List.map_congr_left fun y _ => (len_tl y).symm)
/-! ### texts of digits -/
open NumText in
theorem dv_lt : ∀ {cs : List Nat} (a : Nat), AllDigits cs → cs.foldl (fun acc c => acc * 10 + (c - 48)) a < (a + 1) * 10 ^ cs.length
  | [], a, _ => by simp
  | c :: cs, a, h => by
    have ih := dv_lt (cs := cs) (a * 10 + (c - 48)) h.tail
    have hc := h.head
    rw [List.foldl_cons, List.length_cons, Nat.pow_succ]
    refine Nat.lt_of_lt_of_le ih ?_
    rw [show (a + 1) * (10 ^ cs.length * 10) = ((a + 1) * 10) * 10 ^ cs.length by rw [Nat.mul_comm (10 ^ cs.length) 10, Nat.mul_assoc]]
    exact Nat.mul_le_mul_right _ (by omega)
open NumText in
theorem dv_small {cs : List Nat} (h : AllDigits cs) (hl : cs.length ≤ 30) : digitsVal cs < 10 ^ 30 := by
  have q := dv_lt (cs := cs) 0 h
  have q2 : (10 : Nat) ^ cs.length ≤ 10 ^ 30 := Nat.pow_le_pow_right (by omega) hl
  unfold digitsVal
  omega
open NumText in
theorem digits_int {x : Str} {d : List Nat} (hx : tl x = d ∨ tl x = 45 :: d) (h : AllDigits d) (h1 : d ≠ []) (hl : d.length ≤ 30) : ∃ n, intText? x = some n ∧ n.natAbs < 10 ^ 30 ∧ x.length ≤ 31 := by
  have q := dv_small h hl
  rcases hx with hx | hx
  · have e : x.cps.toList = d := hx
    have l : x.length = d.length := by rw [len_tl, hx]
    refine ⟨_, intText_digits (x := x) (by rw [e]; exact h) (by rw [e]; exact h1) (by omega), ?_, by omega⟩
    rw [e]
    omega
  · have l : x.length = d.length + 1 := by rw [len_tl, hx]; rfl
    exact ⟨_, intText_neg (x := x) hx h h1 (by omega), by omega, by omega⟩
open NumText in
/-- a number's text, read -/
theorem int_back {i : Int} {x : Str} (hx : tl x = numI i) (h : i.natAbs < 10 ^ 30) : intText? x = some i := by
  have l := numL_len (n := i.natAbs) (k := 30) (by omega) h
  unfold numI at hx
  by_cases hi : i < 0
  · rw [if_pos hi] at hx
    have e := intText_neg (x := x) hx (numL_digits _) (numL_ne _) (by rw [len_tl, hx, List.length_cons]; omega)
    rw [numL_val] at e
    rw [e]
    congr 1
    omega
  · rw [if_neg hi] at hx
    have e := intText_digits (x := x) (by rw [show x.cps.toList = numL i.natAbs from hx]; exact numL_digits _) (by rw [show x.cps.toList = numL i.natAbs from hx]; exact numL_ne _) (by rw [len_tl, hx]; omega)
    rw [show x.cps.toList = numL i.natAbs from hx, numL_val] at e
    rw [e]
    congr 1
    omega
/-! ### slices -/
theorem tl_cut (z : Str) {i j : Nat} (hi : i ≤ j) : tl (cutS z (some (i : Int)) (some (j : Int))) = ((tl z).drop i).take (j - i) := by
  unfold cutS
  rw [HT.sIx_nat, HT.sIx_nat, tl_mk]
  have hn : z.length = z.cps.toList.length := Array.length_toList.symm
  rw [hn]
  show (z.cps.toList.drop (min i z.cps.toList.length)).take (min j z.cps.toList.length - min i z.cps.toList.length) = (z.cps.toList.drop i).take (j - i)
  by_cases h : i < z.cps.toList.length
  · rw [Nat.min_eq_left (Nat.le_of_lt h)]
    rw [List.take_eq_take_iff, List.length_drop]
    omega
  · rw [List.drop_eq_nil_of_le (by omega), List.drop_eq_nil_of_le (by omega)]
    simp
theorem tl_cut1 (z : Str) : tl (cutS z none (some 1)) = (tl z).take 1 := by
  have q := tl_cut z (i := 0) (j := 1) (by omega)
  rw [List.drop_zero] at q
  rw [← q]
  unfold cutS
  rw [HT.sIx_none]
  rfl
theorem tl_cutF (z : Str) : tl (cutS z (some 1) none) = (tl z).drop 1 := by
  unfold cutS
  rw [show (some (1 : Int)) = some ((1 : Nat) : Int) from rfl, HT.sIx_nat, HT.sIx_none, tl_mk]
  have hn : z.length = z.cps.toList.length := Array.length_toList.symm
  rw [hn]
  show (z.cps.toList.drop (min 1 z.cps.toList.length)).take (z.cps.toList.length - min 1 z.cps.toList.length) = z.cps.toList.drop 1
  by_cases h : 1 ≤ z.cps.toList.length
  · rw [Nat.min_eq_left h]
    exact List.take_of_length_le (by rw [List.length_drop]; omega)
  · rw [List.drop_eq_nil_of_le (as := z.cps.toList) (i := 1) (by omega), List.drop_eq_nil_of_le (by omega)]
    simp
end K25
set_option Elab.async false
set_option linter.all false
set_option maxRecDepth 100000
set_option maxHeartbeats 4000000
/-! THE BASE: the text by places, what stands in the heap, frames, defs by name. -/
namespace K25
open PySem PySem.Spec PyProof.Rows L2
def top (i : Nat) : Stmt := PySem.Challenge.pw_keysthroughtext_k25_whole_texts_of_value.main.body.getD i (.Pass ⟨0, 0, 0, 0⟩)
/-! ### frames -/
/-- G is a part of H that stays; behind: it grew into G' by what was new, H into H' -/
structure New (G H G' H' : Hp) : Prop where
  up : Same G G'
  le : Same G' H'
  new : ∀ b o, H b = some o → G b = none → G' b = none
  dom : ∀ b o, H b = some o → ∃ o', H' b = some o'
/-- all but a stands -/
def SB (a : Addr) (H H' : Hp) : Prop := ∀ b o, b ≠ a → H b = some o → H' b = some o
theorem SB.refl (a : Addr) (H : Hp) : SB a H H := fun _ _ _ h => h
theorem SB.trans {a : Addr} {H H1 H2 : Hp} (x : SB a H H1) (y : SB a H1 H2) : SB a H H2 := fun b o n h => y b o n (x b o n h)
theorem SB.of {a : Addr} {H H' : Hp} (x : Same H H') : SB a H H' := fun b o _ h => x b o h
theorem SB.upd (a : Addr) (H : Hp) (o : HO) : SB a H (upd H a o) := fun b u n h => by rw [upd_ne n]; exact h
theorem SB.free {a : Addr} {H H' : Hp} (x : SB a H H') {p : Addr} (ha : ∃ o, H' a = some o) (h : H' p = none) : H p = none := by
  cases q : H p with
  | none => rfl
  | some o =>
    by_cases e : p = a
    · obtain ⟨o', h'⟩ := ha
      rw [e, h'] at h
      cases h
    · rw [x p o e q] at h
      cases h
theorem same_put {H : Hp} {p : Addr} (h : H p = none) (o : HO) : Same H (upd H p o) := fun b u q => by rw [upd_ne (ne_of_none q h)]; exact q
section
variable {G H G' H' G1 H1 G2 H2 : Hp} {p a : Addr} {o : HO}
theorem New.refl (h : Same G H) : New G H G H := ⟨Same.refl G, h, fun _ _ _ h => h, fun _ o h => ⟨o, h⟩⟩
theorem New.trans (x : New G H G1 H1) (y : New G1 H1 G2 H2) : New G H G2 H2 := by
  refine ⟨x.up.trans y.up, y.le, fun b o h n => ?_, fun b o h => ?_⟩
  · obtain ⟨o', h'⟩ := x.dom b o h
    exact y.new b o' h' (x.new b o h n)
  · obtain ⟨o', h'⟩ := x.dom b o h
    exact y.dom b o' h'
/-- a new thing that stays -/
theorem New.put (h : Same G H) (hp : H p = none) (o : HO) : New G H (upd G p o) (upd H p o) := by
  have gp : G p = none := h.free hp
  refine ⟨same_put gp o, fun b u q => ?_, fun b u q n => ?_, fun b u q => ⟨u, same_put hp o b u q⟩⟩
  · by_cases e : b = p
    · rw [e, upd_same] at q ⊢
      exact q
    · rw [upd_ne e] at q ⊢
      exact h b u q
  · rw [upd_ne (ne_of_none q hp)]
    exact n
/-- a new thing that will be changed -/
theorem New.hid (h : Same G H) (hp : H p = none) (o : HO) : New G H G (upd H p o) :=
  ⟨Same.refl G, h.trans (same_put hp o), fun _ _ _ n => n, fun b u q => ⟨u, same_put hp o b u q⟩⟩
/-- a thing outside of G is changed -/
theorem New.mut (h : Same G H) (ga : G a = none) (o : HO) : New G H G (upd H a o) := by
  refine ⟨Same.refl G, fun b u q => ?_, fun _ _ _ n => n, fun b u q => ?_⟩
  · rw [upd_ne (ne_of_none q ga)]
    exact h b u q
  · by_cases e : b = a
    · exact ⟨o, by rw [e, upd_same]⟩
    · exact ⟨u, by rw [upd_ne e]; exact q⟩
/-- a thing that was new and was changed stays from now on -/
theorem New.fix (x : New G H G1 H1) (h : Same G H) (hp : H p = none) (e : H1 p = some o) (g : G1 p = none) : New G H (upd G1 p o) H1 := by
  refine ⟨x.up.trans (same_put g o), fun b u q => ?_, fun b u q n => ?_, x.dom⟩
  · by_cases eb : b = p
    · rw [eb, upd_same] at q
      rw [eb, e]
      exact q
    · rw [upd_ne eb] at q
      exact x.le b u q
  · rw [upd_ne (ne_of_none q hp)]
    exact x.new b u q n
theorem New.hidden (x : New G H G' H') (ga : G a = none) (ha : ∃ o, H a = some o) : G' a = none := by
  obtain ⟨o, h⟩ := ha
  exact x.new a o h ga
theorem New.free (x : New G H G' H') (hp : H' p = none) : H p = none := by
  cases q : H p with
  | none => rfl
  | some u =>
    obtain ⟨o', h'⟩ := x.dom p u q
    rw [h'] at hp
    cases hp
end
/-! ### trees -/
/-- a model, a raw value: (word, list), tables as a list of (key, item) -/
def TAt (G : Hp) : Nat → Val → V → Prop
  | 0, _, _ => False
  | _ + 1, .non, v => v = .non
  | _ + 1, .bl b, v => v = .bl b
  | _ + 1, .int i, v => v = .int i
  | _ + 1, .str s, v => v = .str s
  | n + 1, .row t xs, v => ∃ (p l : Addr) (vs : List V), v = .ref p ∧ G p = some (.tup [.str t, .ref l]) ∧ G l = some (.lst vs) ∧ Paired (TAt G n) xs vs
  | n + 1, .tab ks xs, v => ∃ (p l : Addr) (ps : List Addr), v = .ref p ∧ G p = some (.tup [.str "table", .ref l]) ∧ G l = some (.lst (ps.map V.ref)) ∧
      Paired (fun (e : E) (q : Addr) => ∃ u, G q = some (.tup [kV e.1, u]) ∧ TAt G n e.2 u) (ks.zip xs) ps
/-- a value: lists, tuples, Tables (TC: the class) -/
def VAt (TC : Addr) (G : Hp) : Nat → Val → V → Prop
  | 0, _, _ => False
  | _ + 1, .non, v => v = .non
  | _ + 1, .bl b, v => v = .bl b
  | _ + 1, .int i, v => v = .int i
  | _ + 1, .str s, v => v = .str s
  | n + 1, .row t xs, v => ∃ (p : Addr) (vs : List V), v = .ref p ∧ ((t = "tuple" ∧ G p = some (.tup vs)) ∨ (t ≠ "tuple" ∧ G p = some (.lst vs))) ∧ Paired (VAt TC G n) xs vs
  | n + 1, .tab ks xs, v => ∃ (p dx d : Addr) (vs : List V), v = .ref p ∧ G p = some (.ins TC dx [("held", .ref d)]) ∧ G d = some (.dK (ks.zip vs)) ∧ ks.length = vs.length ∧ Paired (VAt TC G n) xs vs
theorem TAt.up {G G' : Hp} (h : Same G G') : ∀ {n : Nat} {t : Val} {v : V}, TAt G n t v → TAt G' n t v
  | 0, _, _, x => x
  | _ + 1, .non, _, x => x
  | _ + 1, .bl _, _, x => x
  | _ + 1, .int _, _, x => x
  | _ + 1, .str _, _, x => x
  | n + 1, .row t xs, v, x => by
    obtain ⟨p, l, vs, e, h1, h2, r⟩ := x
    exact ⟨p, l, vs, e, h _ _ h1, h _ _ h2, Paired.mapP r fun a b z => TAt.up h z⟩
  | n + 1, .tab ks xs, v, x => by
    obtain ⟨p, l, ps, e, h1, h2, r⟩ := x
    exact ⟨p, l, ps, e, h _ _ h1, h _ _ h2, Paired.mapP r fun a b ⟨u, h3, z⟩ => ⟨u, h _ _ h3, TAt.up h z⟩⟩
theorem TAt.more {G : Hp} : ∀ {n : Nat} {t : Val} {v : V}, TAt G n t v → TAt G (n + 1) t v
  | 0, _, _, x => x.elim
  | _ + 1, .non, _, x => x
  | _ + 1, .bl _, _, x => x
  | _ + 1, .int _, _, x => x
  | _ + 1, .str _, _, x => x
  | n + 1, .row t xs, v, x => by
    obtain ⟨p, l, vs, e, h1, h2, r⟩ := x
    exact ⟨p, l, vs, e, h1, h2, Paired.mapP r fun a b z => TAt.more z⟩
  | n + 1, .tab ks xs, v, x => by
    obtain ⟨p, l, ps, e, h1, h2, r⟩ := x
    exact ⟨p, l, ps, e, h1, h2, Paired.mapP r fun a b ⟨u, h3, z⟩ => ⟨u, h3, TAt.more z⟩⟩
theorem VAt.up {TC : Addr} {G G' : Hp} (h : Same G G') : ∀ {n : Nat} {t : Val} {v : V}, VAt TC G n t v → VAt TC G' n t v
  | 0, _, _, x => x
  | _ + 1, .non, _, x => x
  | _ + 1, .bl _, _, x => x
  | _ + 1, .int _, _, x => x
  | _ + 1, .str _, _, x => x
  | n + 1, .row t xs, v, x => by
    obtain ⟨p, vs, e, h1, r⟩ := x
    exact ⟨p, vs, e, h1.elim (fun z => .inl ⟨z.1, h _ _ z.2⟩) (fun z => .inr ⟨z.1, h _ _ z.2⟩), Paired.mapP r fun a b z => VAt.up h z⟩
  | n + 1, .tab ks xs, v, x => by
    obtain ⟨p, dx, d, vs, e, h1, h2, h3, r⟩ := x
    exact ⟨p, dx, d, vs, e, h _ _ h1, h _ _ h2, h3, Paired.mapP r fun a b z => VAt.up h z⟩
/-! ### small things -/
theorem atI_in {α : Type} {xs : List α} {p : Int} (h0 : 0 ≤ p) (h : p < (xs.length : Int)) : ∃ (i : Nat) (v : α), p = (i : Int) ∧ xs[i]? = some v ∧ atI xs p = some v := by
  obtain ⟨i, rfl⟩ : ∃ i : Nat, p = (i : Int) := ⟨p.toNat, by omega⟩
  have hi : i < xs.length := by omega
  exact ⟨i, xs[i], rfl, List.getElem?_eq_getElem hi, atI_nat (List.getElem?_eq_getElem hi)⟩
theorem map_at {α β : Type} {f : α → β} {xs : List α} {i : Nat} {y : β} (h : (xs.map f)[i]? = some y) : ∃ x, xs[i]? = some x ∧ y = f x := by
  rw [List.getElem?_map] at h
  cases e : xs[i]? with
  | none => rw [e] at h; cases h
  | some x => rw [e] at h; exact ⟨x, rfl, (Option.some.inj h).symm⟩
theorem log2_small {m : Nat} (h : m < 10 ^ 30) : m.log2 < 1920 := by
  by_cases z : m = 0
  · rw [z]; decide
  · rw [Nat.log2_lt z]
    exact Nat.lt_trans h (by decide)
/-- a for over what gives n things, whatever they are -/
theorem for_gen {J : It} {n : Nat} {g : TG} {tb : TS} {D : Ends} {σ : L2.St} {H : Hp} (Pv : Nat → L2.St → Hp → Prop) (h0 : Pv 0 σ H) (hg : ∀ i σ H, i < n → Pv i σ H → J.go i H) (hz : ∀ σ H, Pv n σ H → J.stop n H)
    (hs : ∀ i σ H x H', i < n → Pv i σ H → J.yld i H x H' → g x σ H' fun σ2 H2 => tb { D with nx := Pv (i + 1), ct := Pv (i + 1), bk := D.nx } σ2 H2) (hd : ∀ σ H, Pv n σ H → D.nx σ H) :
    ∃ W : Nat → Nat → L2.St → Hp → Prop, (∃ m, W 0 m σ H) ∧ ∀ i m σ H, W i m σ H →
      (J.stop i H ∧ D.nx σ H) ∨ (J.go i H ∧ ∃ N : L2.St → Hp → Prop, (∀ σ' H', N σ' H' → ∃ m', m' < m ∧ W (i + 1) m' σ' H') ∧ ∀ x H', J.yld i H x H' → g x σ H' fun σ2 H2 => tb { D with nx := N, ct := N, bk := D.nx } σ2 H2) := by
  refine ⟨fun i m σ H => m = n - i ∧ i ≤ n ∧ Pv i σ H, ⟨n, by simp, Nat.zero_le _, h0⟩, ?_⟩
  rintro i m σ H ⟨rfl, hi, p⟩
  by_cases hlt : i < n
  · exact .inr ⟨hg i σ H hlt p, Pv (i + 1), fun σ' H' p' => ⟨n - (i + 1), by omega, rfl, hlt, p'⟩, fun x H' y => hs i σ H x H' hlt p y⟩
  · have e : i = n := by omega
    subst e
    exact .inl ⟨hz σ H p, hd σ H p⟩
/-- a list comprehension over what gives n things -/
theorem lc_gen {J : It} {n : Nat} {g : TG} {tt : TT} {te : TE} {vs : List Nat} {σ : L2.St} {H1 : Hp} {D : Addr} {Qd : Hp → Prop} (Pv : Nat → Hp → Prop) (h0 : Pv 0 (upd H1 D (.lst []))) (hg : ∀ i H, i < n → Pv i H → J.go i H) (hz : ∀ H, Pv n H → J.stop n H)
    (hs : ∀ i H x H', i < n → Pv i H → J.yld i H x H' → g x (wipe σ vs) H' fun σ2 H2 => wipe σ2 vs = wipe σ vs ∧ tt σ2 H2 fun b H3 =>
      if b = true then te σ2 H3 fun y H4 => ∃ acc, H4 D = some (.lst acc) ∧ acc.length < sizeLine ∧ Pv (i + 1) (upd H4 D (.lst (acc ++ [y]))) else Pv (i + 1) H3) (hd : ∀ H, Pv n H → Qd H) :
    ∃ W : Nat → Nat → Hp → Prop, (∃ m, W 0 m (upd H1 D (.lst []))) ∧ ∀ i m H, W i m H →
      (J.stop i H ∧ Qd H) ∨ (J.go i H ∧ ∃ Nx : Hp → Prop, (∀ H', Nx H' → ∃ m', m' < m ∧ W (i + 1) m' H') ∧ ∀ x H', J.yld i H x H' → g x (wipe σ vs) H' fun σ2 H2 => wipe σ2 vs = wipe σ vs ∧ tt σ2 H2 fun b H3 =>
        if b = true then te σ2 H3 fun y H4 => ∃ acc, H4 D = some (.lst acc) ∧ acc.length < sizeLine ∧ Nx (upd H4 D (.lst (acc ++ [y]))) else Nx H3) := by
  refine ⟨fun i m H => m = n - i ∧ i ≤ n ∧ Pv i H, ⟨n, by simp, Nat.zero_le _, h0⟩, ?_⟩
  rintro i m H ⟨rfl, hi, p⟩
  by_cases hlt : i < n
  · exact .inr ⟨hg i H hlt p, Pv (i + 1), fun H' p' => ⟨n - (i + 1), by omega, rfl, hlt, p'⟩, fun x H' y => hs i H x H' hlt p y⟩
  · have e : i = n := by omega
    subst e
    exact .inl ⟨hz H p, hd H p⟩
/-! ### defs by name -/
section
variable {P : Program} {w : World} {K : PySem.W.Frag} {mg : Str → Option Value} {base : Heap}
/-- the global x is the def of the text st (no defaults) -/
structure GF (K : PySem.W.Frag) (mg : Str → Option Value) (x : Str) (st : Stmt) : Prop where
  ex : ∃ (f : Addr) (fd : FuncData), FunD K x x (defArgs st) (defBody st) (defScope st) [] [] f fd ∧ mg x = some (.ref f)
/-- the method m of the class at C -/
structure GM (K : PySem.W.Frag) (C : Addr) (m qual : Str) (st : Stmt) : Prop where
  ex : ∃ (f : Addr) (fd : FuncData), FunD K m qual (defArgs st) (defBody st) (defScope st) [] [] f fd ∧ Meth K C m f
abbrev BindFn (x qual : Str) (st : Stmt) (ps : List Str) : Prop := ∀ (kV doc pm : Value) (an : Option Addr) (cdv ct : Value) (us : List Value), us.length = ps.length →
  bindArgs (PySem.W.fnOf x qual (defArgs st) (defBody st) (defScope st) .none kV doc pm an cdv ct) ⟨us, []⟩ = pure (ps.zip us)
/-- THE RULE for a def that lets no exception out -/
theorem GF.cal {x : Str} {st : Stmt} {N ps : List Str} {k : Nat} {sp : Sp} (F : GF K mg x st) (S : FnScope N ps (defScope st)) (b : BindFn x x st ps) (len : ∀ vs H Q E, sp vs H Q E → vs.length = ps.length)
    (hbody : ∀ (f : Addr) (cdv : Value) (A : Around) (outer : List Env) (s : Shared) (H : Hp) (vs : List V) (Q : VK) (E : XK), Room k (A.deeper (envOfC x (defScope st) s.heap.objs.size f cdv)) → sp vs H Q E →
      ∃ t, PSs (cxOf CX0 P w K mg base N x (defScope st) f cdv A outer s H E).nox (defBody st) t ∧ t { nx := fun _ H' => Q .non H', rt := Q } (start N vs) H) : C8.Cal P w K mg base (k + 1) x sp [] := by
  obtain ⟨f, fd, F, hm⟩ := F.ex
  exact ⟨f, fd, ps, [], F.ok S len fun cdv A outer s H vs Q E hr h => by
    obtain ⟨t, h1, h2⟩ := hbody f cdv A outer s H vs Q E hr h
    exact ⟨t, h1.nox, h2⟩, hm, F.kp, F.bindsN b, .nil⟩
theorem GM.met {C : Addr} {m qual : Str} {st : Stmt} {N ps : List Str} {k : Nat} {sp : Sp} (c : Cls K C) (F : GM K C m qual st) (S : FnScope N ps (defScope st)) (b : BindFn m qual st ps) (len : ∀ vs H Q E, sp vs H Q E → vs.length = ps.length)
    (hbody : ∀ (f : Addr) (cdv : Value) (A : Around) (outer : List Env) (s : Shared) (H : Hp) (vs : List V) (Q : VK) (E : XK), Room k (A.deeper (envOfC qual (defScope st) s.heap.objs.size f cdv)) → sp vs H Q E →
      ∃ t, PSs (cxOf CX0 P w K mg base N qual (defScope st) f cdv A outer s H E).nox (defBody st) t ∧ t { nx := fun _ H' => Q .non H', rt := Q } (start N vs) H) : C8.Met P w K mg base (k + 1) C m sp [] := by
  obtain ⟨f, fd, F, hm⟩ := F.ex
  exact ⟨f, fd, ps, [], c, hm, F.ok S len fun cdv A outer s H vs Q E hr h => by
    obtain ⟨t, h1, h2⟩ := hbody f cdv A outer s H vs Q E hr h
    exact ⟨t, h1.nox, h2⟩, F.bindsN b, .nil⟩
theorem b1 {x y q : Str} {st : Stmt} (h : ∀ (kV doc pm : Value) (an : Option Addr) (cdv ct u : Value), bindArgs (PySem.W.fnOf x q (defArgs st) (defBody st) (defScope st) .none kV doc pm an cdv ct) ⟨[u], []⟩ = pure [(y, u)]) : BindFn x q st [y] :=
  fun kV doc pm an cdv ct us hl => match us, hl with | [u], _ => h kV doc pm an cdv ct u
theorem b2 {x y z q : Str} {st : Stmt} (h : ∀ (kV doc pm : Value) (an : Option Addr) (cdv ct u v : Value), bindArgs (PySem.W.fnOf x q (defArgs st) (defBody st) (defScope st) .none kV doc pm an cdv ct) ⟨[u, v], []⟩ = pure [(y, u), (z, v)]) : BindFn x q st [y, z] :=
  fun kV doc pm an cdv ct us hl => match us, hl with | [u, v], _ => h kV doc pm an cdv ct u v
theorem b3 {x y z y' q : Str} {st : Stmt} (h : ∀ (kV doc pm : Value) (an : Option Addr) (cdv ct u v w : Value), bindArgs (PySem.W.fnOf x q (defArgs st) (defBody st) (defScope st) .none kV doc pm an cdv ct) ⟨[u, v, w], []⟩ = pure [(y, u), (z, v), (y', w)]) : BindFn x q st [y, z, y'] :=
  fun kV doc pm an cdv ct us hl => match us, hl with | [u, v, w], _ => h kV doc pm an cdv ct u v w
end
end K25
set_option Elab.async false
set_option linter.all false
set_option maxRecDepth 100000
set_option maxHeartbeats 4000000
/-! WHAT THE TOP HAS WRITTEN: each def, class, constant by its name. -/
namespace K25
open PySem PySem.Spec PyProof.Rows L2
/-- a constant's dict, tuple: where and what -/
structure Txt (K : PySem.W.Frag) (mg : Str → Option Value) : Prop where
  n_len : mg "len" = none
  n_isinstance : mg "isinstance" = none
  n_int : mg "int" = none
  n_str : mg "str" = none
  n_abs : mg "abs" = none
  n_range : mg "range" = none
  n_tuple : mg "tuple" = none
  n_list : mg "list" = none
  n_set : mg "set" = none
  n_bool : mg "bool" = none
  n_sorted : mg "sorted" = none
  n_zip : mg "zip" = none
  n_enumerate : mg "enumerate" = none
  f_source : GF K mg "_law_source" (top 32)
  f_more : GF K mg "_law_more" (top 33)
  f_draw : GF K mg "_law_draw" (top 34)
  f_number : GF K mg "_law_number" (top 35)
  f_sign : GF K mg "_law_sign" (top 36)
  f_text : GF K mg "_law_text" (top 37)
  f_key : GF K mg "_law_key" (top 38)
  f_digits : GF K mg "_law_digits" (top 39)
  f_twin : GF K mg "_law_twin" (top 40)
  f_keys : GF K mg "_law_keys" (top 41)
  f_leaf : GF K mg "_law_leaf" (top 42)
  f_model : GF K mg "_law_model" (top 43)
  f_deep : GF K mg "_law_deep" (top 44)
  f_made : GF K mg "_law_made" (top 45)
  f_pick : GF K mg "_law_pick" (top 46)
  f_writing : GF K mg "_law_writing" (top 47)
  f_writer : GF K mg "_law_writer" (top 48)
  f_atoms : GF K mg "_law_atoms" (top 49)
  f_pair : GF K mg "_law_pair" (top 50)
  f_raw_alike : GF K mg "_law_raw_alike" (top 51)
  f_path_is : GF K mg "_law_path_is" (top 52)
  f_raw_of : GF K mg "_law_raw_of" (top 53)
  f_own_string : GF K mg "_law_own_string" (top 54)
  f_tokens : GF K mg "_law_tokens" (top 55)
  f_text_of : GF K mg "_law_text_of" (top 56)
  f_law : GF K mg "law" (top 57)
  f_render_string : GF K mg "render_string" (top 14)
  f_render : GF K mg "render" (top 15)
  f_parse : GF K mg "parse" (top 17)
  f_is_integer : GF K mg "is_integer" (top 19)
  f_fresh : GF K mg "fresh" (top 21)
  f_key_text : GF K mg "key_text" (top 28)
  f_check_options : GF K mg "check_options" (top 29)
/-! ### the source of draws -/
def srcKV (c : Addr) (at_ rest seed room long : Int) : List (Key × V) := [(.inr "cells", .ref c), (.inr "at", .int at_), (.inr "rest", .int rest), (.inr "seed", .int seed), (.inr "room", .int room), (.inr "long", .int long)]
/-- the dict at a, its cells at c, its room -/
def Src (H : Hp) (a c : Addr) (room : Int) : Prop := ∃ (ns : List Int) (at_ rest seed long : Int), H a = some (.dK (srcKV c at_ rest seed room long)) ∧ H c = some (.lst (ns.map V.int)) ∧ 0 ≤ at_
theorem src_cells (c : Addr) (p q r s l : Int) : valV (srcKV c p q r s l) (.inr "cells") = some (.ref c) := rfl
theorem src_at (c : Addr) (p q r s l : Int) : valV (srcKV c p q r s l) (.inr "at") = some (.int p) := rfl
theorem src_rest (c : Addr) (p q r s l : Int) : valV (srcKV c p q r s l) (.inr "rest") = some (.int q) := rfl
theorem src_seed (c : Addr) (p q r s l : Int) : valV (srcKV c p q r s l) (.inr "seed") = some (.int r) := rfl
theorem src_room (c : Addr) (p q r s l : Int) : valV (srcKV c p q r s l) (.inr "room") = some (.int s) := rfl
theorem src_long (c : Addr) (p q r s l : Int) : valV (srcKV c p q r s l) (.inr "long") = some (.int l) := rfl
theorem put_at (c : Addr) (p q r s l x : Int) : putK (srcKV c p q r s l) (.inr "at") (.int x) = srcKV c x q r s l := rfl
theorem put_rest (c : Addr) (p q r s l x : Int) : putK (srcKV c p q r s l) (.inr "rest") (.int x) = srcKV c p x r s l := rfl
theorem put_seed (c : Addr) (p q r s l x : Int) : putK (srcKV c p q r s l) (.inr "seed") (.int x) = srcKV c p q x s l := rfl
theorem put_room (c : Addr) (p q r s l x : Int) : putK (srcKV c p q r s l) (.inr "room") (.int x) = srcKV c p q r x l := rfl
theorem put_long (c : Addr) (p q r s l x : Int) : putK (srcKV c p q r s l) (.inr "long") (.int x) = srcKV c p q r s x := rfl
end K25
set_option Elab.async false
set_option linter.all false
set_option maxRecDepth 100000
set_option maxHeartbeats 4000000
/-! _law_source, _law_more, _law_draw -/
namespace K25
open PySem PySem.Spec PyProof.Rows L2 C8 SX
section
variable {P : Program} {w : World} {K : PySem.W.Frag} {mg : Str → Option Value} {base : Heap}
theorem src_len (c : Addr) (p q r s l : Int) : (srcKV c p q r s l).length < sizeLine := small1000 (by show 6 ≤ 1000; omega)
/-! ### more -/
def spMore : Sp := fun vs H Q _ => ∃ (a c : Addr) (room : Int), vs = [.ref a] ∧ Src H a c room ∧ ∀ H', SB a H H' → Src H' a c room → Q .non H'
theorem scMore : FnScope ["_law_source_here", "_law_cells", "_law_at", "_law_cell", "_law_mixed"] ["_law_source_here"] (defScope (top 33)) := ⟨rfl, rfl, rfl, by decide +kernel, rfl, by decide +kernel, by decide +kernel⟩
theorem c_more (T : Txt K mg) : Cal P w K mg base 1 "_law_more" spMore [] := by
  refine T.f_more.cal scMore (b1 fun _ _ _ _ _ _ _ => rfl) (fun vs H Q E h => ?_) (fun f cdv A outer s H vs Q E hr h => ?_)
  · obtain ⟨a, c, room, rfl, _⟩ := h
    rfl
  obtain ⟨a, c, room, rfl, S, k⟩ := h
  obtain ⟨ns, p, q, r, l, h0, hc, hp⟩ := S
  have hu := hu_of hr
  have ac : a ≠ c := ne_of h0 hc (by intro z; cases z)
  refine ⟨_, (pss_cons (ps_set (i := 1) scMore.nd rfl (Or.inl rfl) (pe_dget hu (pv 0) pe_str (fun _ _ => rfl)))
      (pss_cons (ps_set (i := 2) scMore.nd rfl (Or.inl rfl) (pe_dget hu (pv 0) pe_str (fun _ _ => rfl)))
      (pss_cons (ps_set (i := 3) scMore.nd rfl (Or.inl rfl) (pv 2))
      (pss_cons (ps_if (pt_cmpR op_lt (pv 2) (pe_callB call_len rfl T.n_len boot_len (pa_cons (pv 1) pa_nil)) (nomark _))
        (pss_one (ps_set (i := 3) scMore.nd rfl (Or.inl rfl) (pe_ix ix_list (pv 1) (pv 2) (fun _ _ => rfl))))
        pss_nil)
      (pss_cons (ps_set (i := 4) scMore.nd rfl (Or.inl rfl) (pe_op op_modN (pe_callTy call_int1 rfl T.n_int (by decide +kernel) (pa_cons (pe_op op_add (pe_op op_add (pe_op op_mul (pv 3) pe_int) (pe_op op_mul (pe_dget hu (pv 0) pe_str (fun _ _ => rfl)) pe_int)) (pv 2)) pa_nil)) pe_int))
      (pss_cons (ps_dput hu (pv 0) pe_str (pe_op op_add (pv 2) pe_int) rfl)
      (pss_cons (ps_dput hu (pv 0) pe_str (pv 4) rfl)
      (pss_cons (ps_dput hu (pv 0) pe_str (pe_op op_add pe_int (pe_op op_modN (pe_callTy call_int1 rfl T.n_int (by decide +kernel) (pa_cons (pe_op op_add (pe_op op_mul (pv 4) pe_int) pe_int) pa_nil)) pe_int)) rfl)
      (pss_one (ps_if (pt_cmpR op_ge (pe_callB call_abs rfl T.n_abs (by decide +kernel) (pa_cons (pv 3) pa_nil)) (pe_op op_pow pe_int pe_int) (nomark _))
        (pss_one (ps_dput hu (pv 0) pe_str (pe_callB call_abs rfl T.n_abs (by decide +kernel) (pa_cons (pv 3) pa_nil)) rfl))
        pss_nil)))))))))), ?_⟩
  refine ⟨_, rfl, a, _, rfl, DGet.k (k := .inr "cells") h0, _, rfl, a, _, rfl, DGet.k (k := .inr "at") h0, _, rfl, _, rfl, _, rfl, _, _, rfl, .inl ⟨_, SqL.of hc, rfl⟩, _, _, rfl, rfl, _, rfl, ?_⟩
  refine ite2 (fun lt => ?a) (fun ge => ?b)
  case' a =>
    have lt' : p < ((ns.map V.int).length : Int) := of_decide_eq_true lt
    rw [List.length_map] at lt'
    obtain ⟨i, y, _, hy, q0⟩ := atI_in (xs := ns.map V.int) hp (by rw [List.length_map]; exact lt')
    obtain ⟨z, _, rfl⟩ := map_at hy
    refine ⟨_, rfl, _, rfl, c, _, _, _, rfl, rfl, SqL.of hc, q0, ?_⟩
  case' b =>
    generalize hz : p = z
    rw [hz] at h0 hp
  all_goals
    refine ⟨_, rfl, _, _, rfl, rfl, .inr ⟨by decide, by decide⟩, _, rfl, a, _, rfl, DGet.k (k := .inr "seed") h0, _, _, rfl, rfl, .inr ⟨by decide, by decide⟩, _, _, rfl, rfl, _, rfl, _, _, rfl, rfl, .inl ⟨_, rfl, _, _, rfl, rfl, (show (2147483647 : Int) ≠ 0 by decide), ?_⟩⟩
    refine ⟨_, rfl, _, _, rfl, rfl, _, rfl, a, _, rfl, DPut.k (k := .inr "at") h0 (src_len ..), _, rfl, _, rfl, a, _, rfl, DPut.k (k := .inr "seed") upd_same (src_len ..), ?_⟩
    refine ⟨_, rfl, _, _, rfl, rfl, .inr ⟨by decide, by decide⟩, _, _, rfl, rfl, .inl ⟨_, rfl, _, _, rfl, rfl, (show (2147483399 : Int) ≠ 0 by decide), _, _, rfl, rfl, _, rfl, a, _, rfl, DPut.k (k := .inr "rest") upd_same (src_len ..), ?_⟩⟩
    refine ⟨_, rfl, _, rfl, _, _, rfl, rfl, ⟨by decide, by decide, by decide⟩, _, _, rfl, rfl, _, rfl, ?_⟩
    rw [upd_upd, upd_upd]
    refine ite2 (fun big => ?_) (fun small => ?_)
    · refine ⟨_, rfl, _, rfl, _, rfl, a, _, rfl, DPut.k (k := .inr "rest") upd_same (src_len ..), ?_⟩
      rw [upd_upd]
      exact k _ (SB.upd a H _) ⟨ns, _, _, _, l, upd_same, by rw [upd_ne ac.symm]; exact hc, by omega⟩
    · exact k _ (SB.upd a H _) ⟨ns, _, _, _, l, upd_same, by rw [upd_ne ac.symm]; exact hc, by omega⟩
/-! ### draw -/
def spDraw : Sp := fun vs H Q _ => ∃ (a c : Addr) (m room : Int), vs = [.ref a, .int m] ∧ Src H a c room ∧ 0 < m ∧ m ≤ 1000 ∧ ∀ (r : Int) (H' : Hp), 0 ≤ r → r < m → SB a H H' → Src H' a c room → Q (.int r) H'
theorem scDraw : FnScope ["_law_source_here", "_law_many", "_law_found"] ["_law_source_here", "_law_many"] (defScope (top 34)) := ⟨rfl, rfl, rfl, by decide +kernel, rfl, by decide +kernel, by decide +kernel⟩
theorem c_draw (T : Txt K mg) : Cal P w K mg base 2 "_law_draw" spDraw [] := by
  refine T.f_draw.cal scDraw (b2 fun _ _ _ _ _ _ _ _ => rfl) (fun vs H Q E h => ?_) (fun f cdv A outer s H vs Q E hr h => ?_)
  · obtain ⟨a, c, m, room, rfl, _⟩ := h
    rfl
  obtain ⟨a, c, m, room, rfl, S, h1, h2, k⟩ := h
  have hu := hu_of hr
  refine ⟨_, (pss_cons (ps_if (pt_cmpR op_eq (pe_dget hu (pv 0) pe_str (fun _ _ => rfl)) pe_int (nomark _))
        (pss_one (ps_expr (pe_c (c_more T) hr (by decide) rfl (pa_cons (pv 0) pa_nil))))
        pss_nil)
      (pss_cons (ps_set (i := 2) scDraw.nd rfl (Or.inl rfl) (pe_op op_modN (pe_callTy call_int1 rfl T.n_int (by decide +kernel) (pa_cons (pe_dget hu (pv 0) pe_str (fun _ _ => rfl)) pa_nil)) (pv 1)))
      (pss_cons (ps_dput hu (pv 0) pe_str (pe_op op_fdivN (pe_dget hu (pv 0) pe_str (fun _ _ => rfl)) (pv 1)) rfl)
      (pss_one (ps_ret (pv 2)))))), ?_⟩
  have tail : ∀ (x : Int), 0 ≤ x.fmod m ∧ x.fmod m < m := fun x => by
    rw [Int.fmod_eq_emod_of_nonneg _ (by omega)]
    exact ⟨Int.emod_nonneg _ (by omega), Int.emod_lt_of_pos _ h1⟩
  have S0 := S
  obtain ⟨ns, p, q, r, l, h0, hc, hp⟩ := S
  refine ⟨_, rfl, a, _, rfl, DGet.k (k := .inr "rest") h0, rfl, _, rfl, ?_⟩
  refine ite2 (fun z => ?a) (fun z => ?b)
  case' a =>
    refine ⟨_, rfl, a, c, room, rfl, S0, fun H1 sb S => ?_⟩
    obtain ⟨ns1, p1, q1, r1, l1, g0, gc, gp⟩ := S
  case' b =>
    have sb : SB a H H := SB.refl a H
    have g0 := h0
    have gc := hc
    have gp := hp
  all_goals
    refine ⟨_, rfl, a, _, rfl, DGet.k (k := .inr "rest") g0, .inl ⟨_, rfl, _, rfl, _, _, rfl, rfl, (show m ≠ 0 by omega), ?_⟩⟩
    refine ⟨_, rfl, a, _, rfl, DGet.k (k := .inr "rest") g0, _, rfl, _, _, rfl, rfl, (show m ≠ 0 ∧ m.natAbs < 1073741824 by omega), _, rfl, a, _, rfl, DPut.k (k := .inr "rest") g0 (src_len ..), ?_⟩
    refine ⟨_, rfl, ?_⟩
    exact k _ _ (tail _).1 (tail _).2 (sb.trans (SB.upd a _ _)) ⟨_, _, _, _, _, upd_same, by rw [upd_ne (ne_of g0 gc (by intro z; cases z)).symm]; exact gc, gp⟩
/-! ### the source -/
def spSource (K : PySem.W.Frag) : Sp := fun vs H Q _ => ∃ (b : Addr) (ns : List Int), vs = [.ref b] ∧ SqL K H b (ns.map V.int) ∧ ns.length ≤ 63 ∧ ∀ (a c : Addr) (H' : Hp), Same H H' → H a = none → Src H' a c 0 → Q (.ref a) H'
theorem scSource : FnScope ["_law_script", "_law_cell"] ["_law_script"] (defScope (top 32)) := ⟨rfl, rfl, rfl, by decide +kernel, rfl, by decide +kernel, by decide +kernel⟩
theorem c_source (T : Txt K mg) : Cal P w K mg base 1 "_law_source" (spSource K) [] := by
  refine T.f_source.cal scSource (b1 fun _ _ _ _ _ _ _ => rfl) (fun vs H Q E h => ?_) (fun f cdv A outer s H vs Q E hr h => ?_)
  · obtain ⟨a, ns, rfl, _⟩ := h
    rfl
  obtain ⟨b, ns, rfl, S, h63, k⟩ := h
  have hu := hu_of hr
  refine ⟨_, (pss_one (ps_ret (pe_disp (pps_cons pe_str (pe_lc (own := [("_law_cell", 1)]) (g := (gName 1)) rfl scSource.nd (pi_list (pv 0)) (blkOk_by (N := ["_law_script", "_law_cell"]) (sc := defScope (top 32)) (own := [("_law_cell", 1)]) (by decide +kernel)) (fun _ _ _ _ _ => pg_name (i := 1) scSource.nd rfl (Or.inl rfl)) (fun _ _ _ _ _ => pts_nil) (fun _ _ _ _ _ => (pe_callTy call_int1 rfl T.n_int (by decide +kernel) (pa_cons (pv 1) pa_nil)))) (pps_cons pe_str pe_int (pps_cons pe_str pe_int (pps_cons pe_str pe_int (pps_cons pe_str pe_int (pps_cons pe_str pe_int pps_nil)))))) (by rfl) (by rfl) (fun z => by cases z) (by decide)))), ?_⟩
  intro a ha
  refine ⟨_, rfl, b, rfl, ⟨_, (same_put ha _).seq S⟩, fun D hD => ?_⟩
  have aD : a ≠ D := fun e => by rw [e, upd_same] at hD; cases hD
  have hD0 : H D = none := by rw [upd_ne aD.symm] at hD; exact hD
  refine lc_list (K := K) (a := b) (xs := ns.map V.int) (fun i H' => Same (upd H a (.dK [])) H' ∧ H' D = some (.lst ((ns.take i).map V.int))) ⟨?_, ?_⟩ (fun i H' _ ⟨z, _⟩ => z.seq ((same_put ha _).seq S)) ?_ ?_
  · exact same_put hD _
  · rw [upd_same]
    rfl
  · rintro i x H' hx ⟨s1, hd⟩
    obtain ⟨z, hz, rfl⟩ := map_at hx
    have hi : i < ns.length := (List.getElem?_eq_some_iff.mp hz).1
    refine ⟨rfl, _, rfl, .inl ⟨_, rfl, _, hd, ?_, ?_, ?_⟩⟩
    · rw [List.length_map]
      exact small1000 (by rw [List.length_take]; omega)
    · exact fun c o e => by rw [upd_ne (ne_of_none e hD)]; exact s1 c o e
    · rw [upd_same, List.take_add_one, hz, List.map_append]
      rfl
  · rintro H' ⟨s1, hd⟩
    rw [List.length_map, List.take_length] at hd
    refine ⟨s1 _ _ upd_same, srcKV D 0 0 7 0 2, rfl, (by show 6 ≤ 15; omega), ?_⟩
    refine k a D _ (fun c o e => ?_) ha ⟨ns, 0, 0, 7, 2, upd_same, by rw [upd_ne aD.symm]; exact hd, Int.le_refl 0⟩
    rw [upd_ne (ne_of_none e ha)]
    exact s1 _ _ (same_put ha _ _ _ e)
end
end K25
set_option Elab.async false
set_option linter.all false
set_option maxRecDepth 100000
set_option maxHeartbeats 4000000
/-! _law_number, _law_sign, _law_text -/
namespace K25
open PySem PySem.Spec PyProof.Rows L2 C8 SX TL
section
variable {P : Program} {w : World} {K : PySem.W.Frag} {mg : Str → Option Value} {base : Heap}
/-! ### number -/
def spNumber : Sp := fun vs H Q _ => ∃ (a c : Addr) (room : Int), vs = [.ref a] ∧ Src H a c room ∧ ∀ (n : Int) (H' : Hp), n.natAbs < 10 ^ 30 → SB a H H' → Src H' a c room → Q (.int n) H'
theorem scNumber : FnScope ["_law_source_here", "_law_figures", "_law_number_here", "_law_k"] ["_law_source_here"] (defScope (top 35)) := ⟨rfl, rfl, rfl, by decide +kernel, rfl, by decide +kernel, by decide +kernel⟩
theorem c_number (T : Txt K mg) : Cal P w K mg base 3 "_law_number" spNumber [] := by
  refine T.f_number.cal scNumber (b1 fun _ _ _ _ _ _ _ => rfl) (fun vs H Q E h => ?_) (fun f cdv A outer s H vs Q E hr h => ?_)
  · obtain ⟨a, c, room, rfl, _⟩ := h
    rfl
  obtain ⟨a, c, room, rfl, S, k⟩ := h
  have hu := hu_of hr
  refine ⟨_, (pss_cons (ps_set (i := 1) scNumber.nd rfl (Or.inl rfl) (pe_op op_add pe_int (pe_c (c_draw T) hr (by omega) rfl (pa_cons (pv 0) (pa_cons pe_int pa_nil)))))
      (pss_cons (ps_if (pt_cmpR op_eq (pe_c (c_draw T) hr (by omega) rfl (pa_cons (pv 0) (pa_cons pe_int pa_nil))) pe_int (nomark _))
        (pss_one (ps_set (i := 1) scNumber.nd rfl (Or.inl rfl) (pe_op op_add pe_int (pe_c (c_draw T) hr (by omega) rfl (pa_cons (pv 0) (pa_cons pe_int pa_nil))))))
        pss_nil)
      (pss_cons (ps_set (i := 2) scNumber.nd rfl (Or.inl rfl) pe_int)
      (pss_cons (ps_for PassesOwn.never rfl (pi_range1 rfl T.n_range (pa_cons (pv 1) pa_nil)) (pg_name (i := 3) scNumber.nd rfl (Or.inl rfl))
        (pss_one (ps_set (i := 2) scNumber.nd rfl (Or.inl rfl) (pe_op op_add (pe_op op_mul (pv 2) pe_int) (pe_c (c_draw T) hr (by omega) rfl (pa_cons (pv 0) (pa_cons pe_int pa_nil)))))))
      (pss_cons (ps_if (pt_cmpR op_eq (pe_c (c_draw T) hr (by omega) rfl (pa_cons (pv 0) (pa_cons pe_int pa_nil))) pe_int (nomark _))
        (pss_one (ps_ret (pe_un un_neg (pv 2))))
        pss_nil)
      (pss_one (ps_ret (pv 2)))))))), ?_⟩
  refine ⟨_, rfl, a, c, _, room, rfl, S, (by decide), (by decide), fun r0 H1 g0 g1 sb1 S1 => ?_⟩
  refine ⟨_, _, rfl, rfl, ?_⟩
  refine ⟨_, rfl, a, c, _, room, rfl, S1, (by decide), (by decide), fun r1 H2 _ _ sb2 S2 => ⟨rfl, _, rfl, ?_⟩⟩
  refine ite2 (fun z => ?a) (fun z => ?b)
  case' a => refine ⟨_, rfl, a, c, _, room, rfl, S2, (by decide), (by decide), fun r2 H3 g2 g3 sb3 S3 => ⟨_, _, rfl, rfl, ?_⟩⟩
  case' b =>
    have g2 := g0
    have g3 : r0 < 30 := by omega
    have sb3 : SB a H2 H2 := SB.refl a _
    have S3 := S2
    generalize hz : r0 = r2
    rw [hz] at g2 g3
  all_goals
    refine ⟨_, rfl, _, rfl, by omega, by omega, for_range (lo := 0) (n := (1 + r2).toNat) (fun i σ H' => ∃ (n : Int) (v : Option V), σ = [some (.ref a), some (.int (1 + r2)), some (.int n), v] ∧ 0 ≤ n ∧ n < 10 ^ i ∧ SB a H H' ∧ Src H' a c room)
      ⟨0, none, rfl, by omega, by simp, (sb1.trans sb2).trans sb3, S3⟩ ?_ ?_⟩
    · rintro i σ H' hi ⟨n, v, rfl, n0, n1, sb, S'⟩
      refine ⟨_, rfl, _, _, rfl, rfl, .inr ⟨by decide, by decide⟩, _, rfl, a, c, _, room, rfl, S', (by decide), (by decide), fun x H4 x0 x1 sb4 S4 => ⟨_, _, rfl, rfl, ?_⟩⟩
      refine ⟨n * 10 + x, some (.int (0 + i)), rfl, by omega, ?_, sb.trans sb4, S4⟩
      rw [Int.pow_succ]
      omega
    · rintro σ H' ⟨n, v, rfl, n0, n1, sb, S'⟩
      have nb : n.natAbs < 10 ^ 30 := by
        have q : (10 : Int) ^ (1 + r2).toNat ≤ 10 ^ 30 := by
          have q1 : (10 : Nat) ^ (1 + r2).toNat ≤ 10 ^ 30 := Nat.pow_le_pow_right (by omega) (by omega)
          have q2 : (((10 : Nat) ^ (1 + r2).toNat : Nat) : Int) ≤ ((10 ^ 30 : Nat) : Int) := Int.ofNat_le.mpr q1
          rw [Int.natCast_pow] at q2
          exact q2
        omega
      refine ⟨_, rfl, a, c, _, room, rfl, S', (by decide), (by decide), fun x H4 x0 x1 sb4 S4 => ⟨rfl, _, rfl, ?_⟩⟩
      refine ite2 (fun z => ?_) (fun z => ?_)
      · exact ⟨_, rfl, _, rfl, k (-n) _ (by omega) (sb.trans sb4) S4⟩
      · exact ⟨_, rfl, k n _ nb (sb.trans sb4) S4⟩
/-! ### sign -/
def spSign : Sp := fun vs H Q _ => ∃ (a c : Addr) (room : Int), vs = [.ref a] ∧ Src H a c room ∧ ∀ (y : Nat) (H' : Hp), y < 1114112 → SB a H H' → Src H' a c room → Q (.str ⟨#[y]⟩) H'
theorem scSign : FnScope ["_law_source_here", "_law_signs"] ["_law_source_here"] (defScope (top 36)) := ⟨rfl, rfl, rfl, by decide +kernel, rfl, by decide +kernel, by decide +kernel⟩
theorem c_sign (T : Txt K mg) : Cal P w K mg base 3 "_law_sign" spSign [] := by
  refine T.f_sign.cal scSign (b1 fun _ _ _ _ _ _ _ => rfl) (fun vs H Q E h => ?_) (fun f cdv A outer s H vs Q E hr h => ?_)
  · obtain ⟨a, c, room, rfl, _⟩ := h
    rfl
  obtain ⟨a, c, room, rfl, S, k⟩ := h
  have hu := hu_of hr
  refine ⟨_, (pss_cons (ps_set (i := 1) scSign.nd rfl (Or.inl rfl) pe_str)
      (pss_cons (ps_set (i := 1) scSign.nd rfl (Or.inl rfl) (pe_op op_add_str (pv 1) pe_str))
      (pss_one (ps_ret (pe_ix ix_str (pv 1) (pe_c (c_draw T) hr (by omega) rfl (pa_cons (pv 0) (pa_cons pe_int pa_nil))) (fun _ _ => rfl)))))), ?_⟩
  refine ⟨_, rfl, _, _, rfl, rfl, (by decide +kernel), ?_⟩
  refine ⟨_, rfl, _, rfl, a, c, _, room, rfl, S, (by decide), (by decide), fun r H1 r0 r1 sb1 S1 => ?_⟩
  have len : ((" !\"#$&'()*+,-./0123456789:;<=>?@ABCDEFGHIJKLMNOPQRSTUVWXYZ[\\]^`" : Str) ++ ("_abcdefghijklmnopqrstuvwxyz{|}~" : Str)).cps.toList.length = 94 := by decide +kernel
  have all : ∀ z ∈ ((" !\"#$&'()*+,-./0123456789:;<=>?@ABCDEFGHIJKLMNOPQRSTUVWXYZ[\\]^`" : Str) ++ ("_abcdefghijklmnopqrstuvwxyz{|}~" : Str)).cps.toList, z < 1114112 := by decide +kernel
  obtain ⟨i, y, _, hy, q⟩ := atI_in (xs := ((" !\"#$&'()*+,-./0123456789:;<=>?@ABCDEFGHIJKLMNOPQRSTUVWXYZ[\\]^`" : Str) ++ ("_abcdefghijklmnopqrstuvwxyz{|}~" : Str)).cps.toList) (p := r) r0 (by
    rw [len]
    exact r1)
  exact ⟨_, _, y, rfl, rfl, (by decide +kernel), q, k y _ (all y (List.mem_of_getElem? hy)) sb1 S1⟩
/-! ### text -/
def spText : Sp := fun vs H Q _ => ∃ (a c : Addr) (room : Int), vs = [.ref a] ∧ Src H a c room ∧ ∀ (z : Str) (H' : Hp), SOk z → SB a H H' → Src H' a c room → Q (.str z) H'
theorem scText : FnScope ["_law_source_here", "_law_size", "_law_k"] ["_law_source_here"] (defScope (top 37)) := ⟨rfl, rfl, rfl, by decide +kernel, rfl, by decide +kernel, by decide +kernel⟩
theorem c_text (T : Txt K mg) : Cal P w K mg base 4 "_law_text" spText [] := by
  refine T.f_text.cal scText (b1 fun _ _ _ _ _ _ _ => rfl) (fun vs H Q E h => ?_) (fun f cdv A outer s H vs Q E hr h => ?_)
  · obtain ⟨a, c, room, rfl, _⟩ := h
    rfl
  obtain ⟨a, c, room, rfl, S, k⟩ := h
  have hu := hu_of hr
  refine ⟨_, (pss_cons (ps_set (i := 1) scText.nd rfl (Or.inl rfl) (pe_c (c_draw T) hr (by omega) rfl (pa_cons (pv 0) (pa_cons pe_int pa_nil))))
      (pss_cons (ps_if (PW.pt (pw_and (pt_cmpR op_gt (pe_dget hu (pv 0) pe_str (fun _ _ => rfl)) pe_int (nomark _)) (pw_and1 (pt_cmpR op_eq (pe_c (c_draw T) hr (by omega) rfl (pa_cons (pv 0) (pa_cons pe_int pa_nil))) pe_int (nomark _)))))
        (pss_cons (ps_dput hu (pv 0) pe_str (pe_op op_sub (pe_dget hu (pv 0) pe_str (fun _ _ => rfl)) pe_int) rfl)
          (pss_one (ps_set (i := 1) scText.nd rfl (Or.inl rfl) (pe_c (c_draw T) hr (by omega) rfl (pa_cons (pv 0) (pa_cons pe_int pa_nil))))))
        pss_nil)
      (pss_one (ps_ret (pe_join pe_str (pe_lc (own := [("_law_k", 2)]) (g := (gName 2)) rfl scText.nd (pi_range1 rfl T.n_range (pa_cons (pv 1) pa_nil)) (blkOk_by (N := ["_law_source_here", "_law_size", "_law_k"]) (sc := defScope (top 37)) (own := [("_law_k", 2)]) (by decide +kernel)) (fun _ _ _ _ _ => pg_name (i := 2) scText.nd rfl (Or.inl rfl)) (fun _ _ _ _ _ => pts_nil) (fun _ _ _ _ _ => (pe_c (c_sign T) hr (by omega) rfl (pa_cons (pv 0) pa_nil))))))))), ?_⟩
  refine ⟨_, rfl, a, c, _, room, rfl, S, (by decide), (by decide), fun r0 H1 g0 g1 sb1 S1 => ?_⟩
  have S1' := S1
  obtain ⟨ns, p, q, r, l, h0, hc, hp⟩ := S1
  have ac : a ≠ c := ne_of h0 hc (by intro z; cases z)
  refine ⟨_, rfl, a, _, rfl, DGet.k (k := .inr "long") h0, _, _, rfl, rfl, _, rfl, ?_⟩
  refine ite2 (fun z => ?x) (fun z => ?c)
  case' x =>
    refine ⟨_, rfl, a, c, _, room, rfl, S1', (by decide), (by decide), fun r1 H2 _ _ sb2 S2 => ⟨rfl, _, rfl, ?_⟩⟩
    refine ite2 (fun z => ?a) (fun z => ?b)
  case' a =>
    obtain ⟨ns2, p2, q2, r2, l2, f0, fc, fp⟩ := S2
    refine ⟨_, rfl, a, _, rfl, DGet.k (k := .inr "long") f0, _, _, rfl, rfl, _, rfl, a, _, rfl, DPut.k (k := .inr "long") f0 (src_len ..), ?_⟩
    have sb3 : SB a H (upd H2 a (.dK (putK (srcKV c p2 q2 r2 room l2) (.inr "long") (.int (l2 - 1))))) := (sb1.trans sb2).trans (SB.upd a _ _)
    refine ⟨_, rfl, a, c, _, room, rfl, ⟨ns2, p2, q2, r2, l2 - 1, upd_same, by rw [upd_ne (ne_of f0 fc (by intro z; cases z)).symm]; exact fc, fp⟩, (by decide), (by decide), fun x H3 x0 x1 sb4 S3 => ?_⟩
    have sb : SB a H H3 := sb3.trans sb4
    have x1' : x < 301 := x1
  case' b =>
    have sb : SB a H H2 := sb1.trans sb2
    have S3 := S2
    generalize H2 = H3 at *
    have x0 := g0
    have x1' : r0 < 301 := by omega
    generalize hx : r0 = x
    rw [hx] at x0 x1'
  case' c =>
    have sb : SB a H H1 := sb1
    have S3 := S1'
    generalize H1 = H3 at *
    have x0 := g0
    have x1' : r0 < 301 := by omega
    generalize hx : r0 = x
    rw [hx] at x0 x1'
    refine iteF ?_
  all_goals
    refine ⟨⟨_, rfl⟩, _, rfl, _, rfl, by omega, by omega, fun D hD => ?_⟩
    obtain ⟨aS, cD⟩ : (∃ o, H3 a = some o) ∧ c ≠ D := by
      obtain ⟨ns3, p3, q3, r3, l3, f0, fc, fp⟩ := S3
      exact ⟨⟨_, f0⟩, ne_of_none fc hD⟩
    refine lc_range (lo := 0) (n := x.toNat) (fun i H' => ∃ ys : List Str, H' D = some (.lst (ys.map V.str)) ∧ ys.length = i ∧ (∀ y ∈ ys, ∃ z, y = ⟨#[z]⟩ ∧ z < 1114112) ∧ (∀ b o, b ≠ a → b ≠ D → H b = some o → H' b = some o) ∧ Src H' a c room) ⟨[], ?_, rfl, by simp, ?_, ?_⟩ ?_ ?_
    · exact upd_same
    · exact fun b o n1 n2 e => by rw [upd_ne n2]; exact sb b o n1 e
    · obtain ⟨ns3, p3, q3, r3, l3, f0, fc, fp⟩ := S3
      exact ⟨ns3, p3, q3, r3, l3, by rw [upd_ne (ne_of_none f0 hD)]; exact f0, by rw [upd_ne (ne_of_none fc hD)]; exact fc, fp⟩
    · rintro i H' hi ⟨ys, hd, hl, h1, fr, S4⟩
      refine ⟨rfl, _, rfl, a, c, room, rfl, S4, fun ch H5 chs sb5 S5 => ?_⟩
      have aD : a ≠ D := by
        obtain ⟨ns3, p3, q3, r3, l3, f0, fc, fp⟩ := S4
        exact ne_of f0 hd (by intro z; cases z)
      have hd5 := sb5 D _ aD.symm hd
      refine ⟨_, hd5, by rw [List.length_map, hl]; exact small1000 (by omega), ys ++ [⟨#[ch]⟩], ?_, by rw [List.length_append, hl]; rfl, ?_, ?_, ?_⟩
      · rw [upd_same, List.map_append]
        rfl
      · intro y hy
        rcases List.mem_append.mp hy with z | z
        · exact h1 y z
        · exact ⟨ch, List.mem_singleton.mp z, chs⟩
      · exact fun b o n1 n2 e => by rw [upd_ne n2]; exact sb5 b o n1 (fr b o n1 n2 e)
      · obtain ⟨ns3, p3, q3, r3, l3, f0, fc, fp⟩ := S5
        exact ⟨ns3, p3, q3, r3, l3, by rw [upd_ne aD]; exact f0, by rw [upd_ne cD]; exact fc, fp⟩
    · rintro H' ⟨ys, hd, hl, h1, fr, S4⟩
      have q : ∀ l : List Str, (∀ y ∈ l, ∃ z, y = ⟨#[z]⟩ ∧ z < 1114112) → (l.map (·.length)).sum = l.length ∧ ∀ c ∈ (l.map tl).flatten, c < 1114112 := by
        intro l
        induction l with
        | nil => intro _; exact ⟨rfl, fun c hc => by cases hc⟩
        | cons y l ih =>
          intro h
          obtain ⟨z, e, hz⟩ := h y List.mem_cons_self
          obtain ⟨i1, i2⟩ := ih fun z hz => h z (List.mem_cons_of_mem _ hz)
          refine ⟨?_, fun c hc => ?_⟩
          · rw [List.map_cons, List.sum_cons, e, i1, List.length_cons]
            show 1 + _ = _
            omega
          · rw [List.map_cons, List.flatten_cons, e] at hc
            rcases List.mem_append.mp hc with z1 | z1
            · have e1 : c = z := List.mem_singleton.mp z1
              rw [e1]
              exact hz
            · exact i2 c z1
      obtain ⟨q1, q2⟩ := q ys h1
      have sum1 : (ys.map (·.length)).sum ≤ 300 := by
        rw [q1, hl]
        omega
      refine ⟨_, D, ys, rfl, rfl, .inl (SqL.of hd), ?_, k _ _ ?_ ?_ S4⟩
      · show (ys.map (·.length)).sum + ys.length * 0 ≤ 16777216
        omega
      · refine ⟨?_, fun c hc => ?_⟩
        · rw [join0_len]
          exact sum1
        · rw [tl_join0] at hc
          exact q2 c hc
      · exact fun b o n e => fr b o n (ne_of_none e (sb.free aS hD)) e
end
end K25
set_option Elab.async false
set_option linter.all false
set_option maxRecDepth 100000
set_option maxHeartbeats 4000000
/-! _law_digits, _law_twin, _law_key, _law_keys, _law_leaf -/
namespace K25
open PySem PySem.Spec PyProof.Rows L2 C8 SX TL
section
variable {P : Program} {w : World} {K : PySem.W.Frag} {mg : Str → Option Value} {base : Heap}
/-! ### digits -/
/-- what a yes tells of the key -/
def Dig (k : Key) : Prop := ∃ (s : Str) (n : Int), k = .inr s ∧ PySem.intText? s = some n ∧ n.natAbs < 10 ^ 30 ∧ s.length ≤ 31
def spDigits : Sp := fun vs H Q _ => ∃ k : Key, vs = [kV k] ∧ KOk k ∧ ∀ (b : Bool) (H' : Hp), (b = true → Dig k) → Same H H' → Q (.bl b) H'
theorem scDigits : FnScope ["_law_key_here", "_law_body", "_law_sign_here"] ["_law_key_here"] (defScope (top 39)) := ⟨rfl, rfl, rfl, by decide +kernel, rfl, by decide +kernel, by decide +kernel⟩
theorem c_digits (T : Txt K mg) : Cal P w K mg base 1 "_law_digits" spDigits [] := by
  refine T.f_digits.cal scDigits (b1 fun _ _ _ _ _ _ _ => rfl) (fun vs H Q E h => ?_) (fun f cdv A outer s H vs Q E hr h => ?_)
  · obtain ⟨k, rfl, _⟩ := h
    rfl
  obtain ⟨k, rfl, hk, q⟩ := h
  refine ⟨_, (pss_cons (ps_if (pt_not (pt_val (pe_callB call_isi rfl T.n_isinstance (by decide +kernel) (pa_cons (pv 0) (pa_cons (pe_bltn (v := .ty "str") (u := Value.type "str") rfl T.n_str (by decide +kernel) rfl) pa_nil)))))
        (pss_one (ps_ret pe_bl))
        pss_nil)
      (pss_cons (ps_set (i := 1) scDigits.nd rfl (Or.inl rfl) (pv 0))
      (pss_cons (ps_if (pt_cmpR op_eq (pe_slice sl_str (pv 0) po_none (po_some pe_int)) pe_str (nomark _))
        (pss_one (ps_set (i := 1) scDigits.nd rfl (Or.inl rfl) (pe_slice sl_str (pv 0) (po_some pe_int) po_none)))
        pss_nil)
      (pss_cons (ps_if (PW.pt (pw_or (pt_cmpR op_eq (pv 1) pe_str (nomark _)) (pw_or1 (pt_cmpR op_gt (pe_callB call_len rfl T.n_len boot_len (pa_cons (pv 1) pa_nil)) pe_int (nomark _)))))
        (pss_one (ps_ret pe_bl))
        pss_nil)
      (pss_cons (ps_for PassesOwn.never rfl (pi_str (pv 1)) (pg_name (i := 2) scDigits.nd rfl (Or.inl rfl))
        (pss_one (ps_if (pt_cmpR op_notIn_sign (pv 2) pe_str (by rfl))
          (pss_one (ps_ret pe_bl))
          pss_nil)))
      (pss_one (ps_ret (pe_or (pe_cmpR op_eq (pv 0) pe_str (nomark _)) (pe_one (pe_cmpR op_ne (pe_ix ix_str (pv 1) pe_int (fun _ _ => rfl)) pe_str (nomark _))))))))))), ?_⟩
  cases k with
  | inl i =>
    refine ⟨_, rfl, _, _, _, _, false, rfl, .ty "str", .base (.int i), kit_ty (by decide +kernel), false, rfl, ?_⟩
    refine iteT ?_
    exact q false H (fun z => by cases z) (Same.refl H)
  | inr x =>
    refine ⟨_, rfl, _, _, _, _, true, rfl, .ty "str", .base (.str x), kit_ty (by decide +kernel), true, rfl, ?_⟩
    refine iteF ?_
    have hx : x.length ≤ 300 := hk.1
    have hxl : x.length ≤ sizeLine := Nat.le_of_lt (small1000 (by omega))
    refine ⟨_, rfl, _, rfl, 1, rfl, _, rfl, hxl, rfl, _, rfl, ?_⟩
    refine ite2 (fun z => ?a) (fun z => ?b)
    case' a =>
      have hb : ∃ y : Str, tl x = 45 :: tl y ∧ cutS x (some 1) none = y := by
        have e := of_decide_eq_true z
        refine ⟨_, ?_, rfl⟩
        rw [tl_cutF]
        have e2 : tl (cutS x none (some 1)) = tl ("-" : Str) := congrArg tl (V.str.inj e)
        rw [tl_cut1] at e2
        have e3 : (tl x).take 1 = [45] := e2
        cases h : tl x with
        | nil => rw [h] at e3; cases e3
        | cons c r =>
          rw [h] at e3
          injection e3 with e4 _
          rw [e4]
          rfl
      obtain ⟨y, hy, ey⟩ := hb
      refine ⟨_, rfl, 1, rfl, _, rfl, hxl, ?_⟩
      rw [ey]
      have hy2 : tl x = tl y ∨ tl x = 45 :: tl y := .inr hy
      have hyl : y.length ≤ sizeLine := by
        have e1 : x.length = y.length + 1 := by rw [len_tl, hy, len_tl y]; rfl
        omega
    case' b =>
      obtain ⟨y, hxy⟩ : ∃ y, y = x := ⟨x, rfl⟩
      subst hxy
      have hy2 : tl y = tl y ∨ tl y = 45 :: tl y := .inl rfl
      have hyl := hxl
    all_goals
      refine ⟨_, rfl, rfl, _, rfl, ?_⟩
      refine ite2 (fun z1 => iteT (q false H (fun z => by cases z) (Same.refl H))) (fun z1 => ?_)
      refine ⟨_, rfl, _, _, rfl, ⟨hyl, rfl⟩, _, _, rfl, rfl, _, rfl, ?_⟩
      refine ite2 (fun z2 => q false H (fun z => by cases z) (Same.refl H)) (fun z2 => ?_)
      have z1' := fun e => z1 (decide_eq_true e)
      have z2' := fun e => z2 (decide_eq_true e)
      refine ⟨_, rfl, _, rfl, ?_⟩
      refine for_gen (n := (tl y).length) (fun i σ H' => ∃ (v : Option V) (u : Str), σ = [some (.str u), some (.str y), v] ∧ H' = H ∧ ∀ c ∈ (tl y).take i, 48 ≤ c ∧ c ≤ 57) ⟨_, _, rfl, rfl, fun c hc => by cases hc⟩ ?_ ?_ ?_ ?_
      · exact fun i σ H' hi _ => by
          show i < _
          rw [← Array.length_toList]
          exact hi
      · exact fun σ H' _ => by
          show _ ≤ _
          rw [← Array.length_toList]
          exact Nat.le_refl _
      · rintro i σ H' v H2 hi ⟨u, u0, rfl, rfl, hc⟩ ⟨rfl, c, ec, rfl⟩
        refine ⟨_, rfl, c, _, rfl, rfl, _, rfl, ?_⟩
        refine ite2 (fun z3 => q false _ (fun z => by cases z) (Same.refl _)) (fun z3 => ?_)
        refine ⟨_, _, rfl, rfl, fun d hd => ?_⟩
        rw [List.take_add_one] at hd
        rcases List.mem_append.mp hd with hd | hd
        · exact hc d hd
        · have ec2 : (tl y)[i]? = some c := by
            rw [← Array.getElem?_toList] at ec
            exact ec
          rw [ec2] at hd
          have e3 : d = c := List.mem_singleton.mp hd
          have hin : c ∈ ("0123456789" : Str).cps.toList := by
            cases h : decide (c ∈ ("0123456789" : Str).cps.toList) with
            | true => exact of_decide_eq_true h
            | false => rw [h] at z3; exact absurd rfl z3
          rw [e3]
          have all : ∀ c ∈ ("0123456789" : Str).cps.toList, 48 ≤ c ∧ c ≤ 57 := by decide +kernel
          exact all c hin
      · rintro σ H' ⟨u, u0, rfl, rfl, hc⟩
        rw [List.take_length] at hc
        have ne : tl y ≠ [] := fun e => z1' (congrArg V.str (TL.ext_tl e))
        obtain ⟨n, h1, h2, h3⟩ := digits_int hy2 hc ne (by
          have e := len_tl y
          have e2 : ¬ (30 : Int) < (y.length : Int) := z2'
          omega)
        refine ⟨_, rfl, rfl, _, rfl, ?_⟩
        refine ite2 (fun z4 => q true _ (fun _ => ⟨_, n, rfl, h1, h2, h3⟩) (Same.refl _)) (fun z4 => ?_)
        obtain ⟨j, c, ej, _, e5⟩ := atI_in (xs := tl y) (p := 0) (Int.le_refl 0) (by have := List.length_pos_iff.mpr ne; omega)
        exact ⟨_, rfl, _, _, c, rfl, rfl, hyl, e5, rfl, q _ _ (fun _ => ⟨_, n, rfl, h1, h2, h3⟩) (Same.refl _)⟩
/-! ### twin -/
def spTwin : Sp := fun vs H Q _ => ∃ k : Key, vs = [kV k] ∧ KOk k ∧ ∀ (k' : Key) (H' : Hp), KOk k' → Same H H' → Q (kV k') H'
theorem scTwin : FnScope ["_law_key_here"] ["_law_key_here"] (defScope (top 40)) := ⟨rfl, rfl, rfl, by decide +kernel, rfl, by decide +kernel, by decide +kernel⟩
theorem c_twin (T : Txt K mg) : Cal P w K mg base 2 "_law_twin" spTwin [] := by
  refine T.f_twin.cal scTwin (b1 fun _ _ _ _ _ _ _ => rfl) (fun vs H Q E h => ?_) (fun f cdv A outer s H vs Q E hr h => ?_)
  · obtain ⟨k, rfl, _⟩ := h
    rfl
  obtain ⟨k, rfl, hk, q⟩ := h
  refine ⟨_, (pss_cons (ps_if (pt_not (pt_val (pe_callB call_isi rfl T.n_isinstance (by decide +kernel) (pa_cons (pv 0) (pa_cons (pe_bltn (v := .ty "str") (u := Value.type "str") rfl T.n_str (by decide +kernel) rfl) pa_nil)))))
        (pss_one (ps_ret (pe_callTy call_str_int rfl T.n_str (by decide +kernel) (pa_cons (pv 0) pa_nil))))
        pss_nil)
      (pss_cons (ps_if (pt_val (pe_c (c_digits T) hr (by omega) rfl (pa_cons (pv 0) pa_nil)))
        (pss_one (ps_ret (pe_callTy call_int_str rfl T.n_int (by decide +kernel) (pa_cons (pv 0) pa_nil))))
        pss_nil)
      (pss_one (ps_ret (pv 0))))), ?_⟩
  cases k with
  | inl i =>
    refine ⟨_, rfl, _, _, _, _, false, rfl, .ty "str", .base (.int i), kit_ty (by decide +kernel), false, rfl, ?_⟩
    refine iteT ?_
    exact ⟨_, rfl, _, rfl, log2_small hk, q (.inr (toString i)) _ (int_ok hk) (Same.refl H)⟩
  | inr x =>
    refine ⟨_, rfl, _, _, _, _, true, rfl, .ty "str", .base (.str x), kit_ty (by decide +kernel), true, rfl, ?_⟩
    refine iteF ?_
    refine ⟨_, rfl, .inr x, rfl, hk, fun b H1 hb s1 => ⟨b, rfl, ?_⟩⟩
    refine ite2 (fun z => ?_) (fun z => ?_)
    · obtain ⟨s, n, e, h1, h2, h3⟩ := hb z
      cases e
      exact ⟨_, rfl, x, n, rfl, h1, by omega, q (.inl n) _ h2 s1⟩
    · exact ⟨_, rfl, q (.inr x) _ hk s1⟩
/-! ### key -/
def spKey : Sp := fun vs H Q _ => ∃ (a c : Addr) (room : Int), vs = [.ref a] ∧ Src H a c room ∧ ∀ (k : Key) (H' : Hp), KOk k → SB a H H' → Src H' a c room → Q (kV k) H'
theorem Src.keep {H H' : Hp} {a c : Addr} {room : Int} (S : Src H a c room) (h : Same H H') : Src H' a c room := by
  obtain ⟨ns, p, q, r, l, h0, hc, hp⟩ := S
  exact ⟨ns, p, q, r, l, h _ _ h0, h _ _ hc, hp⟩
theorem Src.there {H : Hp} {a c : Addr} {room : Int} (S : Src H a c room) : ∃ o, H a = some o := by
  obtain ⟨ns, p, q, r, l, h0, hc, hp⟩ := S
  exact ⟨_, h0⟩
theorem scKey : FnScope ["_law_source_here", "_law_shape", "_law_near"] ["_law_source_here"] (defScope (top 38)) := ⟨rfl, rfl, rfl, by decide +kernel, rfl, by decide +kernel, by decide +kernel⟩
/-- an item of eight short texts -/
theorem eight {xs : List Str} (h8 : xs.length = 8) (hs : ∀ x ∈ xs, x.length ≤ 5 ∧ ∀ c ∈ tl x, c < 1114112) {r : Int} (h0 : 0 ≤ r) (h1 : r < 8) : ∃ y : Str, atI (xs.map V.str) r = some (.str y) ∧ y.length ≤ 5 ∧ ∀ c ∈ tl y, c < 1114112 := by
  obtain ⟨i, v, _, hv, e⟩ := atI_in (xs := xs.map V.str) h0 (by rw [List.length_map, h8]; exact h1)
  obtain ⟨y, hy, rfl⟩ := map_at hv
  exact ⟨y, e, hs y (List.mem_of_getElem? hy)⟩
theorem c_key (T : Txt K mg) : Cal P w K mg base 5 "_law_key" spKey [] := by
  refine T.f_key.cal scKey (b1 fun _ _ _ _ _ _ _ => rfl) (fun vs H Q E h => ?_) (fun f cdv A outer s H vs Q E hr h => ?_)
  · obtain ⟨a, c, room, rfl, _⟩ := h
    rfl
  obtain ⟨a, c, room, rfl, S, k⟩ := h
  have hu := hu_of hr
  refine ⟨_, (pss_cons (ps_set (i := 1) scKey.nd rfl (Or.inl rfl) (pe_c (c_draw T) hr (by omega) rfl (pa_cons (pv 0) (pa_cons pe_int pa_nil))))
      (pss_cons (ps_if (pt_cmpR op_lt (pv 1) pe_int (nomark _))
        (pss_one (ps_ret (pe_c (c_number T) hr (by omega) rfl (pa_cons (pv 0) pa_nil))))
        pss_nil)
      (pss_cons (ps_if (pt_cmpR op_lt (pv 1) pe_int (nomark _))
        (pss_one (ps_ret (pe_callTy call_str_int rfl T.n_str (by decide +kernel) (pa_cons (pe_c (c_number T) hr (by omega) rfl (pa_cons (pv 0) pa_nil)) pa_nil))))
        pss_nil)
      (pss_cons (ps_if (pt_cmpR op_eq (pv 1) pe_int (nomark _))
        (pss_cons (ps_set (i := 2) scKey.nd rfl (Or.inl rfl) (pe_ix ix_list (pe_lst (pa_cons pe_str (pa_cons pe_str (pa_cons pe_str (pa_cons pe_str (pa_cons pe_str (pa_cons pe_str (pa_cons pe_str (pa_cons pe_str pa_nil))))))))) (pe_c (c_draw T) hr (by omega) rfl (pa_cons (pv 0) (pa_cons pe_int pa_nil))) (fun _ _ => rfl)))
          (pss_one (ps_ret (pe_op op_add_str (pv 2) (pe_callTy call_str_int rfl T.n_str (by decide +kernel) (pa_cons (pe_c (c_number T) hr (by omega) rfl (pa_cons (pv 0) pa_nil)) pa_nil))))))
        pss_nil)
      (pss_cons (ps_if (pt_cmpR op_eq (pv 1) pe_int (nomark _))
        (pss_one (ps_ret (pe_ix ix_list (pe_lst (pa_cons pe_str (pa_cons pe_str (pa_cons pe_str (pa_cons pe_str (pa_cons pe_str (pa_cons pe_str (pa_cons pe_str (pa_cons pe_str pa_nil))))))))) (pe_c (c_draw T) hr (by omega) rfl (pa_cons (pv 0) (pa_cons pe_int pa_nil))) (fun _ _ => rfl))))
        pss_nil)
      (pss_one (ps_ret (pe_c (c_text T) hr (by omega) rfl (pa_cons (pv 0) pa_nil))))))))), ?_⟩
  refine ⟨_, rfl, a, c, _, room, rfl, S, (by decide), (by decide), fun r H1 r0 r1 sb1 S1 => ?_⟩
  refine ⟨_, rfl, _, _, rfl, rfl, _, rfl, ?_⟩
  refine ite2 (fun z => ?_) (fun z => ?_)
  · exact ⟨_, rfl, a, c, room, rfl, S1, fun n H2 hn sb2 S2 => k (.inl n) _ hn (sb1.trans sb2) S2⟩
  refine ⟨_, rfl, _, _, rfl, rfl, _, rfl, ?_⟩
  refine ite2 (fun z => ?_) (fun z => ?_)
  · exact ⟨_, rfl, a, c, room, rfl, S1, fun n H2 hn sb2 S2 => ⟨_, rfl, log2_small hn, k (.inr (toString n)) _ (int_ok hn) (sb1.trans sb2) S2⟩⟩
  refine ⟨_, rfl, rfl, _, rfl, ?_⟩
  refine ite2 (fun z => ?_) (fun z => ?_)
  · refine ⟨(by show 8 ≤ sizeLine; decide), fun p hp => ⟨_, rfl, a, c, _, room, rfl, S1.keep (same_put hp _), (by decide), (by decide), fun x H2 x0 x1 sb2 S2 => ?_⟩⟩
    have ap : p ≠ a := fun e => by
      obtain ⟨o, h⟩ := S1.there
      rw [e, h] at hp
      cases hp
    obtain ⟨y, hy, hl, hc⟩ := eight (xs := ["", "0", "-0", "00", "-", "+", " ", "0x"]) rfl (by decide +kernel) x0 x1
    refine ⟨p, _, _, _, rfl, rfl, SqL.of (sb2 p _ ap upd_same), hy, ?_⟩
    refine ⟨_, rfl, _, rfl, a, c, room, rfl, S2, fun n H3 hn sb3 S3 => ⟨_, rfl, log2_small hn, ?_⟩⟩
    have := int_len hn
    have sl : (305 : Nat) < sizeLine := small1000 (by omega)
    refine ⟨_, _, rfl, rfl, by omega, k (.inr (y ++ toString n)) _ ?_ ?_ S3⟩
    · exact app_ok (by omega) hc (int_ok hn).2
    · exact (sb1.trans (SB.of (same_put hp _))).trans (sb2.trans sb3)
  refine ⟨_, rfl, rfl, _, rfl, ?_⟩
  refine ite2 (fun z => ?_) (fun z => ?_)
  · refine ⟨(by show 8 ≤ sizeLine; decide), fun p hp => ⟨_, rfl, a, c, _, room, rfl, S1.keep (same_put hp _), (by decide), (by decide), fun x H2 x0 x1 sb2 S2 => ?_⟩⟩
    have ap : p ≠ a := fun e => by
      obtain ⟨o, h⟩ := S1.there
      rw [e, h] at hp
      cases hp
    obtain ⟨y, hy, hl, hc⟩ := eight (xs := ["", "null", "true", "a", "b", "row", "table", "1 "]) rfl (by decide +kernel) x0 x1
    exact ⟨p, _, _, _, rfl, rfl, SqL.of (sb2 p _ ap upd_same), hy, k (.inr y) _ ⟨by omega, hc⟩ ((sb1.trans (SB.of (same_put hp _))).trans sb2) S2⟩
  exact ⟨_, rfl, a, c, room, rfl, S1, fun y H2 hy sb2 S2 => k (.inr y) _ hy (sb1.trans sb2) S2⟩
end
end K25
set_option Elab.async false
set_option linter.all false
set_option maxRecDepth 100000
set_option maxHeartbeats 4000000
/-! _law_keys, _law_leaf -/
namespace K25
open PySem PySem.Spec PyProof.Rows L2 C8 SX TL
section
variable {P : Program} {w : World} {K : PySem.W.Frag} {mg : Str → Option Value} {base : Heap}
/-! ### keys -/
def dK : Key → PyData
  | .inl i => .int i
  | .inr s => .str s
theorem dp_keys {H : Hp} : ∀ ks : List Key, DpAll K H (ks.map kV) (ks.map dK)
  | [] => .nil
  | .inl i :: r => .cons (.int i) (dp_keys r)
  | .inr s :: r => .cons (.str s) (dp_keys r)
theorem inV_key {k : Key} : ∀ {ks : List Key}, inV (kV k) (ks.map kV) = true ↔ k ∈ ks
  | [] => by simp [inV]
  | j :: r => by
    have ih := inV_key (k := k) (ks := r)
    have e : eqV (kV j) (kV k) = true ↔ k = j := by
      cases j <;> cases k
      · exact ⟨fun h => congrArg Sum.inl (eq_of_beq h).symm, fun h => by injection h with h; subst h; exact beq_self_eq_true _⟩
      · exact ⟨fun h => (nomatch (show false = true from h)), fun h => (nomatch h)⟩
      · exact ⟨fun h => (nomatch (show false = true from h)), fun h => (nomatch h)⟩
      · exact ⟨fun h => congrArg Sum.inr (eq_of_beq h).symm, fun h => by injection h with h; subst h; exact beq_self_eq_true _⟩
    have e2 : inV (kV k) ((j :: r).map kV) = (eqV (kV j) (kV k) || inV (kV k) (r.map kV)) := rfl
    rw [e2, Bool.or_eq_true, e, ih, List.mem_cons]
theorem flat_key (k : Key) : flatV (kV k) = true := by cases k <;> rfl
theorem flat_keys (ks : List Key) : (ks.map kV).all flatV = true := by
  rw [List.all_map, List.all_eq_true]
  exact fun k _ => flat_key k
theorem lay_keys : ∀ ks : List Key, (∀ k ∈ ks, KOk k) → PyData.canLayAll0 (ks.map dK) = true
  | [], _ => rfl
  | .inl i :: r, h => by
    have ih := lay_keys r fun k hk => h k (List.mem_cons_of_mem _ hk)
    simp only [List.map_cons, dK, PyData.canLayAll0, PyData.canLay0, ih, Bool.and_self]
  | .inr s :: r, h => by
    have ih := lay_keys r fun k hk => h k (List.mem_cons_of_mem _ hk)
    have q := h (.inr s) List.mem_cons_self
    simp only [List.map_cons, dK, PyData.canLayAll0, PyData.canLay0, ih, Bool.and_true]
    show s.cps.all (· < 0x110000) = true
    rw [Array.all_eq_true_iff_forall_mem]
    exact fun c hc => decide_eq_true (q.2 c (Array.mem_def.mp hc))
theorem depth_keys : ∀ ks : List Key, PyData.depthAll (ks.map dK) = 0
  | [] => rfl
  | .inl _ :: r => by simp [dK, PyData.depthAll, PyData.depth, depth_keys r]
  | .inr _ :: r => by simp [dK, PyData.depthAll, PyData.depth, depth_keys r]
theorem shaped_keys (ks : List Key) (h : ∀ k ∈ ks, KOk k) : SeqAt.shaped (.list (ks.map dK)) = true := by
  simp [SeqAt.shaped, PyData.canLay0, PyData.depth, lay_keys ks h, depth_keys]
theorem nodup_snoc {α : Type} {xs : List α} {x : α} (h : xs.Nodup) (n : x ∉ xs) : (xs ++ [x]).Nodup := by
  rw [List.nodup_append]
  exact ⟨h, List.pairwise_singleton _ _, fun a ha b hb e => by rw [List.mem_singleton.mp hb] at e; rw [e] at ha; exact n ha⟩
def spKeys : Sp := fun vs H Q _ => ∃ (a c : Addr) (m room : Int), vs = [.ref a, .int m] ∧ Src H a c room ∧ 0 ≤ m ∧ m ≤ 12 ∧
  ∀ (l : Addr) (ks : List Key) (H' : Hp), H' l = some (.lst (ks.map kV)) → ks.Nodup → (∀ k ∈ ks, KOk k) → (ks.length : Int) ≤ m → SB a H H' → Src H' a c room → Q (.ref l) H'
theorem scKeys : FnScope ["_law_source_here", "_law_many", "_law_keys_here", "_law_k", "_law_key_here"] ["_law_source_here", "_law_many"] (defScope (top 41)) := ⟨rfl, rfl, rfl, by decide +kernel, rfl, by decide +kernel, by decide +kernel⟩
theorem c_keys (T : Txt K mg) : Cal P w K mg base 6 "_law_keys" spKeys [] := by
  refine T.f_keys.cal scKeys (b2 fun _ _ _ _ _ _ _ _ => rfl) (fun vs H Q E h => ?_) (fun f cdv A outer s H vs Q E hr h => ?_)
  · obtain ⟨a, c, m, room, rfl, _⟩ := h
    rfl
  obtain ⟨a, c, m, room, rfl, S, m0, m1, k⟩ := h
  have hu := hu_of hr
  refine ⟨_, (pss_cons (ps_set (i := 2) scKeys.nd rfl (Or.inl rfl) (pe_lst pa_nil))
      (pss_cons (ps_for PassesOwn.never rfl (pi_range1 rfl T.n_range (pa_cons (pv 1) pa_nil)) (pg_name (i := 3) scKeys.nd rfl (Or.inl rfl))
        (pss_cons (ps_set (i := 4) scKeys.nd rfl (Or.inl rfl) (pe_c (c_key T) hr (by omega) rfl (pa_cons (pv 0) pa_nil)))
          (pss_cons (ps_if (PW.pt (pw_and (pt_cmpR (op_neD hr.units) (pv 2) (pe_lst pa_nil) (nomark _)) (pw_and1 (pt_cmpR op_eq (pe_c (c_draw T) hr (by omega) rfl (pa_cons (pv 0) (pa_cons pe_int pa_nil))) pe_int (nomark _)))))
            (pss_one (ps_set (i := 4) scKeys.nd rfl (Or.inl rfl) (pe_c (c_twin T) hr (by omega) rfl (pa_cons (pe_ix ix_list (pv 2) (pe_c (c_draw T) hr (by omega) rfl (pa_cons (pv 0) (pa_cons (pe_callB call_len rfl T.n_len boot_len (pa_cons (pv 2) pa_nil)) pa_nil))) (fun _ _ => rfl)) pa_nil))))
            pss_nil)
          (pss_one (ps_if (pt_cmpR op_notIn_seq (pv 4) (pv 2) (by rfl))
            (pss_one (ps_expr (pe_bm PySem.F.plainAttrs_list PySem.F.slot_list_append PySem.F.type_list_append mt_append (pv 2) (pa_cons (pv 4) pa_nil))))
            pss_nil)))))
      (pss_one (ps_ret (pv 2))))), ?_⟩
  refine ⟨(by show 0 ≤ sizeLine; decide), fun l hl => ⟨_, rfl, _, rfl, by omega, by omega, ?_⟩⟩
  have al : a ≠ l := ne_of_none S.there.choose_spec hl
  have cl : c ≠ l := by
    obtain ⟨ns, p, q, r, l', h0, hc, hp⟩ := S
    exact ne_of_none hc hl
  refine for_range (lo := 0) (n := m.toNat) (fun i σ H' => ∃ (ks : List Key) (v3 v4 : Option V), σ = [some (.ref a), some (.int m), some (.ref l), v3, v4] ∧ H' l = some (.lst (ks.map kV)) ∧ ks.Nodup ∧ (∀ k ∈ ks, KOk k) ∧ ks.length ≤ i ∧ (∀ b o, b ≠ a → b ≠ l → H b = some o → H' b = some o) ∧ Src H' a c room)
    ⟨[], none, none, rfl, upd_same, List.nodup_nil, (fun _ h => by cases h), Nat.le_refl _, (fun b o n1 n2 e => by rw [upd_ne n2]; exact e), S.keep (same_put hl _)⟩ ?_ ?_
  · rintro i σ H1 hi ⟨ks, v3, v4, rfl, h1, nd, ok, hlen, fr, S1⟩
    refine ⟨_, rfl, a, c, room, rfl, S1, fun k1 H2 ok1 sb2 S2 => ?_⟩
    have h2 : H2 l = some (.lst (ks.map kV)) := sb2 _ _ al.symm h1
    have fr2 : ∀ b o, b ≠ a → b ≠ l → H b = some o → H2 b = some o := fun b o n1 n2 e => sb2 b o n1 (fr b o n1 n2 e)
    refine ⟨_, rfl, (by show 0 ≤ sizeLine; decide), fun p hp => ⟨.list (ks.map dK), .list [], .lst (SqL.of (same_put hp _ _ _ h2)) (dp_keys ks), .lst (SqL.of upd_same) .nil, shaped_keys ks ok, rfl, _, rfl, ?_⟩⟩
    have S3 : Src (upd H2 p (.lst [])) a c room := S2.keep (same_put hp _)
    have h3 : (upd H2 p (.lst [])) l = some (.lst (ks.map kV)) := same_put hp _ _ _ h2
    have fr3 : ∀ b o, b ≠ a → b ≠ l → H b = some o → (upd H2 p (.lst [])) b = some o := fun b o n1 n2 e => same_put hp _ _ _ (fr2 b o n1 n2 e)
    refine ite2 (fun z => ?x) (fun z => ?c)
    case' x =>
      have ne : ks ≠ [] := fun e => by
        rw [e] at z
        exact absurd z (by decide +kernel)
      have npos := List.length_pos_iff.mpr ne
      refine ⟨_, rfl, a, c, _, room, rfl, S3, (by decide), (by decide), fun r1 H4 _ _ sb4 S4 => ⟨rfl, _, rfl, ?_⟩⟩
      have h4 := sb4 _ _ al.symm h3
      have fr4 : ∀ b o, b ≠ a → b ≠ l → H b = some o → H4 b = some o := fun b o n1 n2 e => sb4 b o n1 (fr3 b o n1 n2 e)
      refine ite2 (fun z => ?a) (fun z => ?b)
    case' a =>
      refine ⟨_, rfl, _, rfl, _, rfl, _, _, rfl, .inl ⟨_, SqL.of h4, rfl⟩, a, c, _, room, rfl, S4, (by rw [List.length_map]; omega), (by rw [List.length_map]; omega), fun r2 H5 g0 g1 sb5 S5 => ?_⟩
      have h5 := sb5 _ _ al.symm h4
      have fr5 : ∀ b o, b ≠ a → b ≠ l → H b = some o → H5 b = some o := fun b o n1 n2 e => sb5 b o n1 (fr4 b o n1 n2 e)
      obtain ⟨j, v, _, hv, e⟩ := atI_in (xs := ks.map kV) g0 g1
      obtain ⟨k2, hk2, rfl⟩ := map_at hv
      refine ⟨l, _, _, _, rfl, rfl, SqL.of h5, e, ?_⟩
      refine ⟨k2, rfl, ok k2 (List.mem_of_getElem? hk2), fun kk H6 ok3 s6 => ?_⟩
      have h6 := s6 _ _ h5
      have fr6 : ∀ b o, b ≠ a → b ≠ l → H b = some o → H6 b = some o := fun b o n1 n2 e => s6 _ _ (fr5 b o n1 n2 e)
      have S6 := S5.keep s6
    case' b =>
      have h6 := h4
      have fr6 := fr4
      have S6 := S4
      have ok3 := ok1
      obtain ⟨kk, ekk⟩ : ∃ kk, kk = k1 := ⟨_, rfl⟩
      subst ekk
    case' c =>
      have h6 := h3
      have fr6 := fr3
      have S6 := S3
      have ok3 := ok1
      obtain ⟨kk, ekk⟩ : ∃ kk, kk = k1 := ⟨_, rfl⟩
      subst ekk
    all_goals
      refine ⟨_, rfl, _, rfl, l, _, rfl, .inl (SqL.of h6), flat_key _, flat_keys _, _, rfl, ?_⟩
      refine ite2 (fun z => ?_) (fun z => ?_)
      · refine ⟨_, rfl, .inl ⟨rfl, _, SqL.of h6⟩, _, rfl, l, _, _, rfl, rfl, h6, ?_, ?_⟩
        · rw [List.length_map]
          exact Nat.lt_of_le_of_lt hlen (small1000 (by omega))
        refine ⟨ks ++ [kk], _, _, rfl, ?_, ?_, ?_, ?_, ?_, ?_⟩
        · rw [List.map_append]
          exact upd_same
        · exact nodup_snoc nd fun hm => by
            rw [inV_key.mpr hm] at z
            cases z
        · intro q hq
          rcases List.mem_append.mp hq with hq | hq
          · exact ok q hq
          · rw [List.mem_singleton.mp hq]
            exact ok3
        · rw [List.length_append]
          exact Nat.succ_le_succ hlen
        · intro b o n1 n2 e
          rw [upd_ne n2]
          exact fr6 b o n1 n2 e
        · obtain ⟨ns, p1, p2, p3, p4, e0, e1, e2⟩ := S6
          exact ⟨ns, p1, p2, p3, p4, by rw [upd_ne al]; exact e0, by rw [upd_ne cl]; exact e1, e2⟩
      · exact ⟨ks, _, _, rfl, h6, nd, ok, by omega, fr6, S6⟩
  · rintro σ H1 ⟨ks, v3, v4, rfl, h1, nd, ok, hlen, fr, S1⟩
    refine ⟨_, rfl, k l ks H1 h1 nd ok (by omega) (fun b o n h => fr b o n (ne_of_none h hl) h) S1⟩
/-! ### leaf -/
def isLeaf : Val → Prop
  | .row _ _ => False
  | .tab _ _ => False
  | _ => True
def spLeaf : Sp := fun vs H Q _ => ∃ (a c : Addr) (room : Int), vs = [.ref a] ∧ Src H a c room ∧ ∀ (t : Val) (v : V) (H' : Hp), (∀ n, MOk (n + 1) t) → (∀ n, cnt n t = 1) → (∀ G n, TAt G (n + 1) t v) → SB a H H' → Src H' a c room → Q v H'
theorem scLeaf : FnScope ["_law_source_here", "_law_shape", "_law_edge"] ["_law_source_here"] (defScope (top 42)) := ⟨rfl, rfl, rfl, by decide +kernel, rfl, by decide +kernel, by decide +kernel⟩
theorem six {xs : List Int} (h6 : xs.length = 6) (hs : ∀ x ∈ xs, x.natAbs < 10 ^ 30) {r : Int} (h0 : 0 ≤ r) (h1 : r < 6) : ∃ y : Int, atI (xs.map V.int) r = some (.int y) ∧ y.natAbs < 10 ^ 30 := by
  obtain ⟨i, v, _, hv, e⟩ := atI_in (xs := xs.map V.int) h0 (by rw [List.length_map, h6]; exact h1)
  obtain ⟨y, hy, rfl⟩ := map_at hv
  exact ⟨y, e, hs y (List.mem_of_getElem? hy)⟩
theorem cnt_leaf {t : Val} (h : isLeaf t) (n : Nat) : cnt n t = 1 := match n with
  | 0 => rfl
  | n + 1 => by cases t <;> first | rfl | exact h.elim
theorem c_leaf (T : Txt K mg) : Cal P w K mg base 6 "_law_leaf" spLeaf [] := by
  refine T.f_leaf.cal scLeaf (b1 fun _ _ _ _ _ _ _ => rfl) (fun vs H Q E h => ?_) (fun f cdv A outer s H vs Q E hr h => ?_)
  · obtain ⟨a, c, room, rfl, _⟩ := h
    rfl
  obtain ⟨a, c, room, rfl, S, k⟩ := h
  have hu := hu_of hr
  refine ⟨_, (pss_cons (ps_set (i := 1) scLeaf.nd rfl (Or.inl rfl) (pe_c (c_draw T) hr (by omega) rfl (pa_cons (pv 0) (pa_cons pe_int pa_nil))))
      (pss_cons (ps_if (pt_cmpR op_lt (pv 1) pe_int (nomark _))
        (pss_one (ps_ret pe_non))
        pss_nil)
      (pss_cons (ps_if (pt_cmpR op_eq (pv 1) pe_int (nomark _))
        (pss_one (ps_ret (pe_cmpR op_eq (pe_c (c_draw T) hr (by omega) rfl (pa_cons (pv 0) (pa_cons pe_int pa_nil))) pe_int (nomark _))))
        pss_nil)
      (pss_cons (ps_if (pt_cmpR op_lt (pv 1) pe_int (nomark _))
        (pss_one (ps_ret (pe_c (c_number T) hr (by omega) rfl (pa_cons (pv 0) pa_nil))))
        pss_nil)
      (pss_cons (ps_if (pt_cmpR op_eq (pv 1) pe_int (nomark _))
        (pss_cons (ps_set (i := 2) scLeaf.nd rfl (Or.inl rfl) (pe_ix ix_list (pe_lst (pa_cons pe_int (pa_cons pe_int (pa_cons (pe_op op_sub (pe_op op_pow pe_int pe_int) pe_int) (pa_cons (pe_op op_pow pe_int pe_int) (pa_cons (pe_op op_pow pe_int pe_int) (pa_cons (pe_op op_sub (pe_op op_pow pe_int pe_int) pe_int) pa_nil))))))) (pe_c (c_draw T) hr (by omega) rfl (pa_cons (pv 0) (pa_cons pe_int pa_nil))) (fun _ _ => rfl)))
          (pss_one (ps_ret (pe_op op_sub (pv 2) (pe_op op_mul (pe_op op_mul pe_int (pv 2)) (pe_c (c_draw T) hr (by omega) rfl (pa_cons (pv 0) (pa_cons pe_int pa_nil))))))))
        pss_nil)
      (pss_one (ps_ret (pe_c (c_text T) hr (by omega) rfl (pa_cons (pv 0) pa_nil))))))))), ?_⟩
  refine ⟨_, rfl, a, c, _, room, rfl, S, (by decide), (by decide), fun r H1 r0 r1 sb1 S1 => ?_⟩
  refine ⟨_, rfl, _, _, rfl, rfl, _, rfl, ?_⟩
  refine ite2 (fun z => ?_) (fun z => ?_)
  · exact k .non _ _ (fun _ => trivial) (cnt_leaf (t := .non) True.intro) (fun _ _ => rfl) sb1 S1
  refine ⟨_, rfl, rfl, _, rfl, ?_⟩
  refine ite2 (fun z => ?_) (fun z => ?_)
  · refine ⟨_, rfl, a, c, _, room, rfl, S1, (by decide), (by decide), fun x H2 x0 x1 sb2 S2 => ?_⟩
    exact ⟨rfl, k (.bl _) _ _ (fun _ => trivial) (cnt_leaf (t := .bl _) True.intro) (fun _ _ => rfl) (sb1.trans sb2) S2⟩
  refine ⟨_, rfl, _, _, rfl, rfl, _, rfl, ?_⟩
  refine ite2 (fun z => ?_) (fun z => ?_)
  · exact ⟨_, rfl, a, c, room, rfl, S1, fun n H2 hn sb2 S2 => k (.int n) _ _ (fun _ => hn) (cnt_leaf (t := .int n) True.intro) (fun _ _ => rfl) (sb1.trans sb2) S2⟩
  refine ⟨_, rfl, rfl, _, rfl, ?_⟩
  refine ite2 (fun z => ?_) (fun z => ?_)
  · refine ⟨_, _, rfl, rfl, ⟨by decide, by decide, by decide⟩, _, _, rfl, rfl, _, _, rfl, rfl, ⟨by decide, by decide, by decide⟩, _, _, rfl, rfl, ⟨by decide, by decide, by decide⟩, _, _, rfl, rfl, ⟨by decide, by decide, by decide⟩, _, _, rfl, rfl, (by show 6 ≤ sizeLine; decide), fun p hp => ?_⟩
    refine ⟨_, rfl, a, c, _, room, rfl, S1.keep (same_put hp _), (by decide), (by decide), fun x H2 x0 x1 sb2 S2 => ?_⟩
    have ap : p ≠ a := fun e => by
      obtain ⟨o, h⟩ := S1.there
      rw [e, h] at hp
      cases hp
    obtain ⟨y, hy, hl⟩ := six (xs := [0, 1, 10 ^ 15 - 1, 10 ^ 15, 10 ^ 29, 10 ^ 30 - 1]) rfl (by decide) x0 x1
    refine ⟨p, _, _, _, rfl, rfl, SqL.of (sb2 p _ ap upd_same), hy, ?_⟩
    refine ⟨_, rfl, _, rfl, _, _, rfl, rfl, .inl ⟨by decide, by decide⟩, _, rfl, a, c, _, room, rfl, S2, (by decide), (by decide), fun x2 H3 y0 y1 sb3 S3 => ⟨_, _, rfl, rfl, .inr ⟨by omega, by omega⟩, _, _, rfl, rfl, ?_⟩⟩
    refine k (.int (y - 2 * y * x2)) _ _ (fun _ => ?_) (cnt_leaf (t := .int _) True.intro) (fun _ _ => rfl) ((sb1.trans (SB.of (same_put hp _))).trans (sb2.trans sb3)) S3
    show (y - 2 * y * x2).natAbs < 10 ^ 30
    rcases (show x2 = 0 ∨ x2 = 1 by omega) with e | e <;> subst e <;> omega
  exact ⟨_, rfl, a, c, room, rfl, S1, fun y H2 hy sb2 S2 => k (.str y) _ _ (fun _ => hy) (cnt_leaf (t := (.str y)) True.intro) (fun _ _ => rfl) (sb1.trans sb2) S2⟩
end
end K25
set_option Elab.async false
set_option linter.all false
set_option maxRecDepth 100000
set_option maxHeartbeats 4000000
/-! _law_model, _law_deep -/
namespace K25
open PySem PySem.Spec PyProof.Rows L2 C8 SX TL
theorem MOk.more : ∀ {n : Nat} {t : Val}, MOk n t → MOk (n + 1) t
  | 0, _, h => h.elim
  | _ + 1, .non, h => h
  | _ + 1, .bl _, h => h
  | _ + 1, .int _, h => h
  | _ + 1, .str _, h => h
  | _ + 1, .row _ _, h => ⟨h.1, Nat.lt_of_lt_of_le h.2.1 (by omega), fun x hx => MOk.more (h.2.2 x hx)⟩
  | _ + 1, .tab _ _, h => ⟨h.1, Nat.lt_of_lt_of_le h.2.1 (by omega), h.2.2.1, h.2.2.2.1, fun x hx => MOk.more (h.2.2.2.2 x hx)⟩
theorem cnt_more : ∀ {n : Nat} {t : Val}, MOk n t → cnt (n + 1) t = cnt n t
  | 0, _, h => h.elim
  | _ + 1, .non, _ => rfl
  | _ + 1, .bl _, _ => rfl
  | _ + 1, .int _, _ => rfl
  | _ + 1, .str _, _ => rfl
  | _ + 1, .row _ _, h => congrArg (1 + List.sum ·) (List.map_congr_left fun x hx => cnt_more (h.2.2 x hx))
  | _ + 1, .tab _ _, h => congrArg (1 + List.sum ·) (List.map_congr_left fun x hx => cnt_more (h.2.2.2.2 x hx))
theorem New.sb {G H H' : Hp} {a : Addr} (h : Same G H) (ga : G a = none) (sb : SB a H H') (ha : ∃ o, H' a = some o) : New G H G H' := by
  refine ⟨Same.refl G, fun b o e => sb b o (fun z => by rw [z, ga] at e; cases e) (h b o e), fun _ _ _ n => n, fun b o e => ?_⟩
  by_cases z : b = a
  · rw [z]
    exact ha
  · exact ⟨o, sb b o z e⟩
/-- a list under construction -/
def Loop (R : Hp → E → V → Prop) (Z : Nat → List E → Prop) (n : Nat) (a c D : Addr) (H0 G0 : Hp) (r1 : Int) (i : Nat) (H' : Hp) : Prop :=
  ∃ (es : List E) (vs : List V) (G' : Hp) (room' : Int), New G0 H0 G' H' ∧ G' D = none ∧ H' D = some (.lst vs) ∧ Paired (R G') es vs ∧ es.length = i ∧ Z i es ∧ (∀ e ∈ es, MOk n e.2) ∧
    (((es.map fun e => cnt n e.2).sum : Nat) : Int) + 12 * max (room' - 1) 0 ≤ i + 12 * max (r1 - 1) 0 ∧ Src H' a c room' ∧ ∀ b o, b ≠ a → b ≠ D → H0 b = some o → H' b = some o
section
variable {R : Hp → E → V → Prop} {Z : Nat → List E → Prop} {n : Nat} {a c D : Addr} {H0 G0 : Hp} {r1 : Int} {i : Nat} {H' : Hp}
theorem Loop.start (h : Same G0 H0) (hD : H0 D = none) (S : Src H0 a c r1) (z : Z 0 []) : Loop R Z n a c D H0 G0 r1 0 (upd H0 D (.lst [])) :=
  ⟨[], [], G0, r1, New.hid h hD _, h.free hD, upd_same, .nil, rfl, z, (fun _ h => by cases h), by simp, S.keep (same_put hD _), fun b o _ hb e => by rw [upd_ne hb]; exact e⟩
theorem Loop.step (mono : ∀ {G G' e v}, Same G G' → R G e v → R G' e v) {es : List E} {vs : List V} {G' G3 H3 : Hp} {room' room3 : Int} {e : E} {v : V} (aD : D ≠ a) (cD : D ≠ c)
    (nw : New G0 H0 G' H') (gD : G' D = none) (hD : H' D = some (.lst vs)) (pr : Paired (R G') es vs) (hl : es.length = i) (ok : ∀ e ∈ es, MOk n e.2)
    (cn : (((es.map fun e => cnt n e.2).sum : Nat) : Int) + 12 * max (room' - 1) 0 ≤ i + 12 * max (r1 - 1) 0) (fr : ∀ b o, b ≠ a → b ≠ D → H0 b = some o → H' b = some o)
    (nw3 : New G' H' G3 H3) (fr3 : SB a H' H3) (r : R G3 e v) (mo : MOk n e.2) (c3 : (cnt n e.2 : Int) + 12 * max (room3 - 1) 0 ≤ 1 + 12 * max (room' - 1) 0) (S3 : Src H3 a c room3) (z : Z (i + 1) (es ++ [e])) (hz : i ≤ 1000) :
    ∃ acc, H3 D = some (.lst acc) ∧ acc.length < sizeLine ∧ Loop R Z n a c D H0 G0 r1 (i + 1) (upd H3 D (.lst (acc ++ [v]))) := by
  have h3 := fr3 D _ aD hD
  have g3 : G3 D = none := nw3.new D _ hD gD
  refine ⟨vs, h3, ?_, es ++ [e], vs ++ [v], G3, room3, (nw.trans nw3).trans (New.mut nw3.le g3 _), g3, upd_same, ?_, by rw [List.length_append, hl]; rfl, z, ?_, ?_, ?_, ?_⟩
  · rw [← pr.length, hl]
    exact small1000 hz
  · exact (Paired.mapP pr fun _ _ q => mono nw3.up q).snoc r
  · intro x hx
    rcases List.mem_append.mp hx with q | q
    · exact ok x q
    · rw [List.mem_singleton.mp q]
      exact mo
  · rw [List.map_append, List.sum_append]
    simp only [List.map_cons, List.map_nil, List.sum_cons, List.sum_nil]
    omega
  · obtain ⟨ns, p1, p2, p3, p4, e0, e1, e2⟩ := S3
    exact ⟨ns, p1, p2, p3, p4, by rw [upd_ne (Ne.symm aD)]; exact e0, by rw [upd_ne (Ne.symm cD)]; exact e1, e2⟩
  · intro b o b1 b2 q
    rw [upd_ne b2]
    exact fr3 b o b1 (fr b o b1 b2 q)
end
section
variable {P : Program} {w : World} {K : PySem.W.Frag} {mg : Str → Option Value} {base : Heap}
def spModel : Nat → Sp
  | 0 => fun _ _ _ _ => False
  | n + 1 => fun vs H Q _ => ∃ (a c : Addr) (room : Int) (G : Hp), vs = [.ref a, .int (n : Int)] ∧ Src H a c room ∧ Same G H ∧ G a = none ∧
    ∀ (t : Val) (v : V) (room' : Int) (G' H' : Hp), New G H G' H' → SB a H H' → TAt G' (n + 1) t v → MOk (n + 1) t → (cnt (n + 1) t : Int) + 12 * max (room' - 1) 0 ≤ 1 + 12 * max (room - 1) 0 → Src H' a c room' → Q v H'
theorem scModel : FnScope ["_law_source_here", "_law_depth", "_law_shape", "_law_many", "_law_k", "_law_key_here"] ["_law_source_here", "_law_depth"] (defScope (top 43)) := ⟨rfl, rfl, rfl, by decide +kernel, rfl, by decide +kernel, by decide +kernel⟩
theorem mrows {es : List E} {vs : List V} {G : Hp} {n : Nat} : Paired (fun e v => TAt G n e.2 v) es vs → Paired (TAt G n) (es.map (·.2)) vs
  | .nil => .nil
  | .cons h r => .cons h (mrows r)
def TabR (n : Nat) (G : Hp) (e : E) (v : V) : Prop := ∃ (q : Addr) (u : V), v = .ref q ∧ G q = some (.tup [kV e.1, u]) ∧ TAt G n e.2 u
theorem TabR.up {n : Nat} {G G' : Hp} {e : E} {v : V} (h : Same G G') : TabR n G e v → TabR n G' e v := fun ⟨q, u, e1, e2, e3⟩ => ⟨q, u, e1, h _ _ e2, e3.up h⟩
theorem tabs {es : List E} {vs : List V} {G : Hp} {n : Nat} : Paired (TabR n G) es vs → ∃ ps : List Addr, vs = ps.map V.ref ∧ Paired (fun (e : E) (q : Addr) => ∃ u, G q = some (.tup [kV e.1, u]) ∧ TAt G n e.2 u) es ps
  | .nil => ⟨[], rfl, .nil⟩
  | .cons ⟨q, u, e1, e2, e3⟩ r => by
    obtain ⟨ps, e, h⟩ := tabs r
    exact ⟨q :: ps, by rw [e1, e]; rfl, .cons ⟨u, e2, e3⟩ h⟩
theorem zip_self : ∀ es : List E, (es.map (·.1)).zip (es.map (·.2)) = es
  | [] => rfl
  | e :: r => congrArg (e :: ·) (zip_self r)
section
variable {G H H4 H' : Hp} {a c D p : Addr} {n i : Nat} {room : Int} {Q : VK}
theorem row_end {tg : Str} (ht : tg = "list" ∨ tg = "tuple") (sg : Same G H) (ga : G a = none) (sb4 : SB a H H4) (S4 : Src H4 a c (room - 1)) (hD : H4 D = none)
    (L : Loop (fun G e v => TAt G n e.2 v) (fun _ _ => True) n a c D H4 G (room - 1) i H') (hi : i < min 13 (13 * n)) (hr : 0 < room - 1) (hp : H' p = none)
    (k : ∀ (t : Val) (v : V) (room' : Int) (G' H' : Hp), New G H G' H' → SB a H H' → TAt G' (n + 1) t v → MOk (n + 1) t → (cnt (n + 1) t : Int) + 12 * max (room' - 1) 0 ≤ 1 + 12 * max (room - 1) 0 → Src H' a c room' → Q v H') :
    Q (.ref p) (upd H' p (.tup [.str tg, .ref D])) := by
  obtain ⟨es, vs, G', room', nw, gD, hD', pr, hl, _, ok, cn, S', fr⟩ := L
  have n0 := New.sb sg ga sb4 S4.there
  have nf := nw.fix n0.le hD hD' gD
  have np := New.put nf.le hp (.tup [.str tg, .ref D])
  refine k (.row tg (es.map (·.2))) _ room' _ _ (n0.trans (nf.trans np)) ?_ ?_ ?_ ?_ (S'.keep (same_put hp _))
  · intro b o b1 e
    have e4 := sb4 b o b1 e
    exact same_put hp _ b o (fr b o b1 (ne_of_none e4 hD) e4)
  · have gp : (upd G' D (.lst vs)) p = none := nf.le.free hp
    refine ⟨p, D, vs, rfl, upd_same, np.up _ _ upd_same, ?_⟩
    exact Paired.mapP (mrows pr) fun _ _ q => (q.up (same_put gD _)).up np.up
  · refine ⟨ht, by rw [List.length_map, hl]; exact hi, fun x hx => ?_⟩
    obtain ⟨e, he, rfl⟩ := List.mem_map.mp hx
    exact ok e he
  · have e1 : cnt (n + 1) (.row tg (es.map (·.2))) = 1 + (es.map fun e => cnt n e.2).sum := by
      show 1 + ((es.map (·.2)).map (cnt n)).sum = _
      rw [List.map_map]
      rfl
    rw [e1]
    omega
theorem tab_end {ks : List Key} (nd : ks.Nodup) (kok : ∀ k ∈ ks, KOk k) (hk : ks.length < min 13 (13 * n)) (sg : Same G H) (ga : G a = none) (sb4 : SB a H H4) (S4 : Src H4 a c (room - 1)) (hD : H4 D = none)
    (L : Loop (TabR n) (fun i es => es.map (·.1) = ks.take i) n a c D H4 G (room - 1) ks.length H') (hr : 0 < room - 1) (hp : H' p = none)
    (k : ∀ (t : Val) (v : V) (room' : Int) (G' H' : Hp), New G H G' H' → SB a H H' → TAt G' (n + 1) t v → MOk (n + 1) t → (cnt (n + 1) t : Int) + 12 * max (room' - 1) 0 ≤ 1 + 12 * max (room - 1) 0 → Src H' a c room' → Q v H') :
    Q (.ref p) (upd H' p (.tup [.str "table", .ref D])) := by
  obtain ⟨es, vs, G', room', nw, gD, hD', pr, hl, hz, ok, cn, S', fr⟩ := L
  rw [List.take_length] at hz
  subst hz
  have n0 := New.sb sg ga sb4 S4.there
  have nf := nw.fix n0.le hD hD' gD
  have np := New.put nf.le hp (.tup [.str "table", .ref D])
  obtain ⟨ps, rfl, pr2⟩ := tabs pr
  refine k (.tab (es.map (·.1)) (es.map (·.2))) _ room' _ _ (n0.trans (nf.trans np)) ?_ ?_ ?_ ?_ (S'.keep (same_put hp _))
  · intro b o b1 e
    have e4 := sb4 b o b1 e
    exact same_put hp _ b o (fr b o b1 (ne_of_none e4 hD) e4)
  · have gp : (upd G' D (.lst (ps.map V.ref))) p = none := nf.le.free hp
    refine ⟨p, D, ps, rfl, upd_same, np.up _ _ upd_same, ?_⟩
    rw [zip_self]
    exact Paired.mapP pr2 fun _ _ ⟨u, e1, q⟩ => ⟨u, np.up _ _ (same_put gD _ _ _ e1), (q.up (same_put gD _)).up np.up⟩
  · refine ⟨by rw [List.length_map, List.length_map], by rw [List.length_map] at hk ⊢; exact hk, nd, kok, fun x hx => ?_⟩
    obtain ⟨e, he, rfl⟩ := List.mem_map.mp hx
    exact ok e he
  · have e1 : cnt (n + 1) (.tab (es.map (·.1)) (es.map (·.2))) = 1 + (es.map fun e => cnt n e.2).sum := by
      show 1 + ((es.map (·.2)).map (cnt n)).sum = _
      rw [List.map_map]
      rfl
    rw [e1]
    rw [List.length_map] at hk cn
    omega
end
theorem c_model (T : Txt K mg) : ∀ n, Cal P w K mg base (6 + n) "_law_model" (spModel n) []
  | 0 => T.f_model.cal (k := 5) scModel (b2 fun _ _ _ _ _ _ _ _ => rfl) (fun vs H Q E h => h.elim) (fun f cdv A outer s H vs Q E hr h => h.elim)
  | n + 1 => by
    have ih := c_model T n
    refine T.f_model.cal (k := 6 + n) scModel (b2 fun _ _ _ _ _ _ _ _ => rfl) (fun vs H Q E h => ?_) (fun f cdv A outer s H vs Q E hr h => ?_)
    · obtain ⟨a, c, room, G, rfl, _⟩ := h
      rfl
    obtain ⟨a, c, room, G, rfl, S, sg, ga, k⟩ := h
    have hu := hu_of hr
    refine ⟨_, (pss_cons (ps_dput hu (pv 0) pe_str (pe_op op_sub (pe_dget hu (pv 0) pe_str (fun _ _ => rfl)) pe_int) rfl)
      (pss_cons (ps_set (i := 2) scModel.nd rfl (Or.inl rfl) (pe_c (c_draw T) hr (by omega) rfl (pa_cons (pv 0) (pa_cons pe_int pa_nil))))
      (pss_cons (ps_if (PW.pt (pw_or (pt_cmpR op_eq (pv 1) pe_int (nomark _)) (pw_or (pt_cmpR op_le (pe_dget hu (pv 0) pe_str (fun _ _ => rfl)) pe_int (nomark _)) (pw_or1 (pt_cmpR op_lt (pv 2) pe_int (nomark _))))))
        (pss_one (ps_ret (pe_c (c_leaf T) hr (by omega) rfl (pa_cons (pv 0) pa_nil))))
        pss_nil)
      (pss_cons (ps_set (i := 3) scModel.nd rfl (Or.inl rfl) (pe_c (c_draw T) hr (by omega) rfl (pa_cons (pv 0) (pa_cons pe_int pa_nil))))
      (pss_cons (ps_if (pt_cmpR op_eq (pe_c (c_draw T) hr (by omega) rfl (pa_cons (pv 0) (pa_cons pe_int pa_nil))) pe_int (nomark _))
        (pss_one (ps_set (i := 3) scModel.nd rfl (Or.inl rfl) (pe_c (c_draw T) hr (by omega) rfl (pa_cons (pv 0) (pa_cons pe_int pa_nil)))))
        pss_nil)
      (pss_cons (ps_if (pt_cmpR op_eq (pv 2) pe_int (nomark _))
        (pss_one (ps_ret (pe_tup (pa_cons pe_str (pa_cons (pe_lc (own := [("_law_k", 4)]) (g := (gName 4)) rfl scModel.nd (pi_range1 rfl T.n_range (pa_cons (pv 3) pa_nil)) (blkOk_by (N := ["_law_source_here", "_law_depth", "_law_shape", "_law_many", "_law_k", "_law_key_here"]) (sc := defScope (top 43)) (own := [("_law_k", 4)]) (by decide +kernel)) (fun _ _ _ _ _ => pg_name (i := 4) scModel.nd rfl (Or.inl rfl)) (fun _ _ _ _ _ => pts_nil) (fun _ _ _ _ _ => (pe_c ih hr (by omega) rfl (pa_cons (pv 0) (pa_cons (pe_op op_sub (pv 1) pe_int) pa_nil))))) pa_nil)))))
        pss_nil)
      (pss_cons (ps_if (pt_cmpR op_eq (pv 2) pe_int (nomark _))
        (pss_one (ps_ret (pe_tup (pa_cons pe_str (pa_cons (pe_lc (own := [("_law_k", 4)]) (g := (gName 4)) rfl scModel.nd (pi_range1 rfl T.n_range (pa_cons (pv 3) pa_nil)) (blkOk_by (N := ["_law_source_here", "_law_depth", "_law_shape", "_law_many", "_law_k", "_law_key_here"]) (sc := defScope (top 43)) (own := [("_law_k", 4)]) (by decide +kernel)) (fun _ _ _ _ _ => pg_name (i := 4) scModel.nd rfl (Or.inl rfl)) (fun _ _ _ _ _ => pts_nil) (fun _ _ _ _ _ => (pe_c ih hr (by omega) rfl (pa_cons (pv 0) (pa_cons (pe_op op_sub (pv 1) pe_int) pa_nil))))) pa_nil)))))
        pss_nil)
      (pss_one (ps_ret (pe_tup (pa_cons pe_str (pa_cons (pe_lc (own := [("_law_key_here", 5)]) (g := (gName 5)) rfl scModel.nd (pi_list (pe_c (c_keys T) hr (by omega) rfl (pa_cons (pv 0) (pa_cons (pv 3) pa_nil)))) (blkOk_by (N := ["_law_source_here", "_law_depth", "_law_shape", "_law_many", "_law_k", "_law_key_here"]) (sc := defScope (top 43)) (own := [("_law_key_here", 5)]) (by decide +kernel)) (fun _ _ _ _ _ => pg_name (i := 5) scModel.nd rfl (Or.inl rfl)) (fun _ _ _ _ _ => pts_nil) (fun _ _ _ _ _ => (pe_tup (pa_cons (pv 5) (pa_cons (pe_c ih hr (by omega) rfl (pa_cons (pv 0) (pa_cons (pe_op op_sub (pv 1) pe_int) pa_nil))) pa_nil))))) pa_nil)))))))))))), ?_⟩
    obtain ⟨ns, p, q, r, l, h0, hc, hp⟩ := S
    have ac : a ≠ c := ne_of h0 hc (by intro z; cases z)
    refine ⟨_, rfl, a, _, rfl, DGet.k (k := .inr "room") h0, _, _, rfl, rfl, _, rfl, a, _, rfl, DPut.k (k := .inr "room") h0 (src_len ..), ?_⟩
    have S1 : Src (upd H a (.dK (srcKV c p q r (room - 1) l))) a c (room - 1) := ⟨ns, p, q, r, l, upd_same, by rw [upd_ne ac.symm]; exact hc, hp⟩
    have sb1 : SB a H (upd H a (.dK (srcKV c p q r (room - 1) l))) := SB.upd a H _
    have leaf : ∀ H2, SB a H H2 → Src H2 a c (room - 1) → spLeaf [.ref a] H2 Q E := fun H2 sb2 S2 => ⟨a, c, room - 1, rfl, S2, fun t v H' ok cn tt sb3 S3 => k t v (room - 1) G H' (New.sb sg ga (sb2.trans sb3) S3.there) (sb2.trans sb3) (tt _ _) (ok _) (by rw [cn]; omega) S3⟩
    refine ⟨_, rfl, a, c, _, _, rfl, S1, (by decide), (by decide), fun r1 H2 r10 r11 sb2 S2 => ?_⟩
    refine ⟨_, rfl, rfl, _, rfl, ?_⟩
    refine ite2 (fun z1 => iteT ⟨_, rfl, leaf _ (sb1.trans sb2) S2⟩) (fun z1 => ?_)
    obtain ⟨ns2, p2, q2, r2, l2, h02, hc2, hp2⟩ := id S2
    refine ⟨_, rfl, a, _, rfl, DGet.k (k := .inr "room") h02, _, _, rfl, rfl, _, rfl, ?_⟩
    refine ite2 (fun z2 => iteT ⟨_, rfl, leaf _ (sb1.trans sb2) S2⟩) (fun z2 => ?_)
    refine ⟨_, rfl, _, _, rfl, rfl, _, rfl, ?_⟩
    refine ite2 (fun z3 => ⟨_, rfl, leaf _ (sb1.trans sb2) S2⟩) (fun z3 => ?_)
    have z2' : ¬ (room - 1 ≤ 0) := fun e => z2 (decide_eq_true e)
    obtain ⟨m, rfl⟩ : ∃ m, n = m + 1 := by
      cases n with
      | zero => exact absurd rfl z1
      | succ m => exact ⟨m, rfl⟩
    refine ⟨_, rfl, a, c, _, _, rfl, S2, (by decide), (by decide), fun r3 H3 r30 r31 sb3 S3 => ?_⟩
    refine ⟨_, rfl, a, c, _, _, rfl, S3, (by decide), (by decide), fun r4 H4 _ _ sb4 S4 => ⟨rfl, _, rfl, ?_⟩⟩
    refine ite2 (fun z => ?a) (fun z => ?b)
    case' a =>
      refine ⟨_, rfl, a, c, _, _, rfl, S4, (by decide), (by decide), fun r5 H5 r50 r51 sb5 S5 => ?_⟩
      have sb6 : SB a H H5 := sb1.trans (sb2.trans (sb3.trans (sb4.trans sb5)))
      have r52 : r5 ≤ 12 := by omega
    case' b =>
      have sb6 : SB a H H4 := sb1.trans (sb2.trans (sb3.trans sb4))
      have S5 := S4
      have r50 := r30
      have r52 : r3 ≤ 12 := by omega
      generalize H4 = H5 at *
      generalize r3 = r5 at *
    all_goals
      have sg5 : Same G H5 := (New.sb sg ga sb6 S5.there).le
      refine ⟨_, rfl, rfl, _, rfl, ?_⟩
      refine ite2 (fun z => ?_) (fun z => ?_)
      · refine ⟨_, rfl, _, rfl, by omega, by omega, fun D hD => ?_⟩
        have aD : D ≠ a := (ne_of_none S5.there.choose_spec hD).symm
        have cD : D ≠ c := by
          obtain ⟨n9, p9, q9, r9, l9, e9, f9, g9⟩ := S5
          exact (ne_of_none f9 hD).symm
        refine lc_range (lo := 0) (n := r5.toNat) (Loop (fun G e v => TAt G (m + 1) e.2 v) (fun _ _ => True) (m + 1) a c D H5 G (room - 1)) (Loop.start sg5 hD S5 trivial) ?_ ?_
        · rintro i H' hi ⟨es, vs, G', room', nw, gD, hD', pr, hl, _, ok, cn, S', fr⟩
          refine ⟨rfl, _, rfl, _, rfl, _, _, rfl, rfl, a, c, room', G', ?_, S', nw.le, nw.hidden ga S5.there, fun t v room3 G3 H6 nw3 sb7 tat mok c3 S6 => ?_⟩
          · exact congrArg (fun z : Int => [V.ref a, V.int z]) (show ((m + 1 : Nat) : Int) - 1 = (m : Int) by omega)
          · exact Loop.step (R := fun G e v => TAt G (m + 1) e.2 v) (Z := fun _ _ => True) (e := (.inl 0, t)) (fun h q => TAt.up h q) aD cD nw gD hD' pr hl ok cn fr nw3 sb7 tat mok c3 S6 trivial (by omega)
        · intro H' L
          exact ⟨(by show 2 ≤ sizeLine; decide), fun p hp => row_end (.inr rfl) sg ga sb6 S5 hD L (by omega) (by omega) hp k⟩
      refine ⟨_, rfl, rfl, _, rfl, ?_⟩
      refine ite2 (fun z => ?_) (fun z => ?_)
      · refine ⟨_, rfl, _, rfl, by omega, by omega, fun D hD => ?_⟩
        have aD : D ≠ a := (ne_of_none S5.there.choose_spec hD).symm
        have cD : D ≠ c := by
          obtain ⟨n9, p9, q9, r9, l9, e9, f9, g9⟩ := S5
          exact (ne_of_none f9 hD).symm
        refine lc_range (lo := 0) (n := r5.toNat) (Loop (fun G e v => TAt G (m + 1) e.2 v) (fun _ _ => True) (m + 1) a c D H5 G (room - 1)) (Loop.start sg5 hD S5 trivial) ?_ ?_
        · rintro i H' hi ⟨es, vs, G', room', nw, gD, hD', pr, hl, _, ok, cn, S', fr⟩
          refine ⟨rfl, _, rfl, _, rfl, _, _, rfl, rfl, a, c, room', G', ?_, S', nw.le, nw.hidden ga S5.there, fun t v room3 G3 H6 nw3 sb7 tat mok c3 S6 => ?_⟩
          · exact congrArg (fun z : Int => [V.ref a, V.int z]) (show ((m + 1 : Nat) : Int) - 1 = (m : Int) by omega)
          · exact Loop.step (R := fun G e v => TAt G (m + 1) e.2 v) (Z := fun _ _ => True) (e := (.inl 0, t)) (fun h q => TAt.up h q) aD cD nw gD hD' pr hl ok cn fr nw3 sb7 tat mok c3 S6 trivial (by omega)
        · intro H' L
          exact ⟨(by show 2 ≤ sizeLine; decide), fun p hp => row_end (.inl rfl) sg ga sb6 S5 hD L (by omega) (by omega) hp k⟩
      · refine ⟨_, rfl, _, rfl, a, c, _, _, rfl, S5, r50, by omega, fun l ks H6 hl6 nd kok hk sb7 S6 => ?_⟩
        have sb8 := sb6.trans sb7
        have sg6 : Same G H6 := (New.sb sg ga sb8 S6.there).le
        refine ⟨l, rfl, ⟨_, SqL.of hl6⟩, fun D hD => ?_⟩
        have aD : D ≠ a := (ne_of_none S6.there.choose_spec hD).symm
        have cD : D ≠ c := by
          obtain ⟨n9, p9, q9, r9, l9, e9, f9, g9⟩ := S6
          exact (ne_of_none f9 hD).symm
        have lD : l ≠ D := ne_of_none hl6 hD
        have la : l ≠ a := by
          obtain ⟨n9, p9, q9, r9, l9, e9, f9, g9⟩ := S6
          exact ne_of hl6 e9 (by intro z; cases z)
        refine lc_list (K := K) (a := l) (xs := ks.map kV) (Loop (TabR (m + 1)) (fun i es => es.map (·.1) = ks.take i) (m + 1) a c D H6 G (room - 1)) (Loop.start sg6 hD S6 rfl) (fun i H' _ ⟨_, _, _, _, _, _, _, _, _, _, _, _, _, fr⟩ => SqL.of (fr l _ la lD hl6)) ?_ ?_
        · rintro i x H' hx ⟨es, vs, G', room', nw, gD, hD', pr, hl, hz, ok, cn, S', fr⟩
          obtain ⟨key, hkey, rfl⟩ := map_at hx
          have hi : i < ks.length := (List.getElem?_eq_some_iff.mp hkey).1
          refine ⟨rfl, _, rfl, _, rfl, _, rfl, _, _, rfl, rfl, a, c, room', G', ?_, S', nw.le, nw.hidden ga S6.there, fun t v room3 G3 H7 nw3 sb9 tat mok c3 S7 => ?_⟩
          · exact congrArg (fun z : Int => [V.ref a, V.int z]) (show ((m + 1 : Nat) : Int) - 1 = (m : Int) by omega)
          · refine ⟨(by show 2 ≤ sizeLine; decide), fun q hq => ?_⟩
            have np := New.put nw3.le hq (.tup [kV key, v])
            exact Loop.step (R := TabR (m + 1)) (Z := fun i es => es.map (·.1) = ks.take i) (e := (key, t)) (fun h q => TabR.up h q) aD cD nw gD hD' pr hl ok cn fr (nw3.trans np) (sb9.trans (SB.of (same_put hq _))) ⟨q, v, rfl, upd_same, tat.up np.up⟩ mok c3 (S7.keep (same_put hq _)) (by rw [List.map_append, hz, List.take_add_one, hkey]; rfl) (by omega)
        · intro H' L
          rw [List.length_map] at L
          exact ⟨(by show 2 ≤ sizeLine; decide), fun p hp => tab_end nd kok (by omega) sg ga sb8 S6 hD L (by omega) hp k⟩
end
end K25
set_option Elab.async false
set_option linter.all false
set_option maxRecDepth 100000
set_option maxHeartbeats 4000000
/-! _law_deep -/
namespace K25
open PySem PySem.Spec PyProof.Rows L2 C8 SX TL
theorem TAt.le {G : Hp} {t : Val} {v : V} {n : Nat} (h : TAt G n t v) : ∀ m, n ≤ m → TAt G m t v := by
  intro m hm
  obtain ⟨k, rfl⟩ : ∃ k, m = n + k := ⟨m - n, by omega⟩
  induction k with
  | zero => exact h
  | succ k ih => exact (ih (by omega)).more
theorem MOk.le {t : Val} {n : Nat} (h : MOk n t) : ∀ m, n ≤ m → MOk m t ∧ cnt m t = cnt n t := by
  intro m hm
  obtain ⟨k, rfl⟩ : ∃ k, m = n + k := ⟨m - n, by omega⟩
  induction k with
  | zero => exact ⟨h, rfl⟩
  | succ k ih =>
    obtain ⟨h1, h2⟩ := ih (by omega)
    exact ⟨h1.more, (cnt_more h1).trans h2⟩
section
variable {P : Program} {w : World} {K : PySem.W.Frag} {mg : Str → Option Value} {base : Heap}
def spDeep : Sp := fun vs H Q _ => ∃ (a c : Addr) (room0 room : Int) (G : Hp), vs = [.ref a, .int 4, .int room] ∧ room ≤ 40 ∧ Src H a c room0 ∧ Same G H ∧ G a = none ∧
    ∀ (t : Val) (v : V) (room' : Int) (G' H' : Hp), New G H G' H' → SB a H H' → TAt G' 61 t v → MOk 61 t → cnt 61 t ≤ 600 → Src H' a c room' → Q v H'
theorem scDeep : FnScope ["_law_source_here", "_law_depth", "_law_room", "_law_model_here", "_law_wraps", "_law_k", "_law_shape"] ["_law_source_here", "_law_depth", "_law_room"] (defScope (top 44)) := ⟨rfl, rfl, rfl, by decide +kernel, rfl, by decide +kernel, by decide +kernel⟩
theorem c_deep (T : Txt K mg) : Cal P w K mg base 12 "_law_deep" spDeep [] := by
  refine T.f_deep.cal scDeep (b3 fun _ _ _ _ _ _ _ _ _ => rfl) (fun vs H Q E h => ?_) (fun f cdv A outer s H vs Q E hr h => ?_)
  · obtain ⟨a, c, room0, room, G, rfl, _⟩ := h
    rfl
  obtain ⟨a, c, room0, room, G, rfl, r40, S, sg, ga, k⟩ := h
  have hu := hu_of hr
  refine ⟨_, (pss_cons (ps_dput hu (pv 0) pe_str (pv 2) rfl)
      (pss_cons (ps_set (i := 3) scDeep.nd rfl (Or.inl rfl) (pe_c (c_model T 5) hr (by omega) rfl (pa_cons (pv 0) (pa_cons (pv 1) pa_nil))))
      (pss_cons (ps_set (i := 4) scDeep.nd rfl (Or.inl rfl) pe_int)
      (pss_cons (ps_if (pt_cmpR op_eq (pe_c (c_draw T) hr (by omega) rfl (pa_cons (pv 0) (pa_cons pe_int pa_nil))) pe_int (nomark _))
        (pss_one (ps_set (i := 4) scDeep.nd rfl (Or.inl rfl) (pe_c (c_draw T) hr (by omega) rfl (pa_cons (pv 0) (pa_cons (pe_op op_sub pe_int (pv 1)) pa_nil)))))
        pss_nil)
      (pss_cons (ps_for PassesOwn.never rfl (pi_range1 rfl T.n_range (pa_cons (pv 4) pa_nil)) (pg_name (i := 5) scDeep.nd rfl (Or.inl rfl))
        (pss_cons (ps_set (i := 6) scDeep.nd rfl (Or.inl rfl) (pe_c (c_draw T) hr (by omega) rfl (pa_cons (pv 0) (pa_cons pe_int pa_nil))))
          (pss_one (ps_if (pt_cmpR op_eq (pv 6) pe_int (nomark _))
            (pss_one (ps_set (i := 3) scDeep.nd rfl (Or.inl rfl) (pe_tup (pa_cons pe_str (pa_cons (pe_lst (pa_cons (pe_tup (pa_cons (pe_c (c_key T) hr (by omega) rfl (pa_cons (pv 0) pa_nil)) (pa_cons (pv 3) pa_nil))) pa_nil)) pa_nil)))))
            (pss_one (ps_set (i := 3) scDeep.nd rfl (Or.inl rfl) (pe_tup (pa_cons (pe_ix ix_list (pe_lst (pa_cons pe_str (pa_cons pe_str pa_nil))) (pv 6) (fun _ _ => rfl)) (pa_cons (pe_lst (pa_cons (pv 3) pa_nil)) pa_nil)))))))))
      (pss_one (ps_ret (pv 3)))))))), ?_⟩
  obtain ⟨ns, p, q, r, l, h0, hc, hp⟩ := S
  have ac : a ≠ c := ne_of h0 hc (by intro z; cases z)
  refine ⟨_, rfl, _, rfl, a, _, rfl, DPut.k (k := .inr "room") h0 (src_len ..), ?_⟩
  have S1 : Src (upd H a (.dK (srcKV c p q r room l))) a c room := ⟨ns, p, q, r, l, upd_same, by rw [upd_ne ac.symm]; exact hc, hp⟩
  have sb1 : SB a H (upd H a (.dK (srcKV c p q r room l))) := SB.upd a H _
  have n1 := New.sb sg ga sb1 S1.there
  refine ⟨_, rfl, _, rfl, a, c, room, G, rfl, S1, n1.le, ga, fun t v room' G' H2 nw2 sb2 tat mok cn S2 => ?_⟩
  have n2 := n1.trans nw2
  have sb2' := sb1.trans sb2
  have ga2 : G' a = none := n2.hidden ga ⟨_, h0⟩
  refine ⟨_, rfl, a, c, _, _, rfl, S2, (by decide), (by decide), fun r1 H3 r10 r11 sb3 S3 => ⟨rfl, _, rfl, ?_⟩⟩
  have n3 := n2.trans (New.sb nw2.le ga2 sb3 S3.there)
  have sb3' := sb2'.trans sb3
  refine ite2 (fun z => ?a) (fun z => ?b)
  case' a =>
    refine ⟨_, rfl, _, rfl, _, _, rfl, rfl, a, c, _, _, rfl, S3, (by show (0 : Int) < 61 - 4; decide), (by show (61 - 4 : Int) ≤ 1000; decide), fun w H4 w0 w1 sb4 S4 => ?_⟩
    have n4 := n3.trans (New.sb n3.le ga2 sb4 S4.there)
    have sb5 := sb3'.trans sb4
    have w2 : w ≤ 56 := by
      have w1' : w < 61 - 4 := w1
      omega
  case' b =>
    have n4 := n3
    have sb5 := sb3'
    have S4 := S3
    obtain ⟨w, hw⟩ : ∃ w : Int, w = 0 := ⟨0, rfl⟩
    have w0 : 0 ≤ w := by omega
    have w2 : w ≤ 56 := by omega
    rw [← hw]
    generalize H3 = H4 at *
  all_goals
    have cn' : cnt 5 t ≤ 470 := by
      have cn2 : (cnt 5 t : Int) + 12 * max (room' - 1) 0 ≤ 1 + 12 * max (room - 1) 0 := cn
      omega
    refine ⟨_, rfl, _, rfl, by omega, by omega, ?_⟩
    refine for_range (lo := 0) (n := w.toNat) (fun i σ H' => ∃ (t : Val) (v : V) (G' : Hp) (v5 v6 : Option V), σ = [some (.ref a), some (.int 4), some (.int room), some v, some (.int w), v5, v6] ∧ New G H G' H' ∧ SB a H H' ∧ TAt G' (5 + i) t v ∧ MOk (5 + i) t ∧ cnt (5 + i) t ≤ 470 + i ∧ Src H' a c room')
      ⟨t, v, G', none, _, rfl, n4, sb5, tat, mok, cn', S4⟩ ?_ ?_
    · rintro i σ H5 hi ⟨t, v, G5, v5, v6, rfl, n5, sb6, tat, mok, cn, S5⟩
      have ga5 : G5 a = none := n5.hidden ga ⟨_, h0⟩
      refine ⟨_, rfl, a, c, _, _, rfl, S5, (by decide), (by decide), fun x H6 x0 x1 sb7 S6 => ?_⟩
      have n6 := n5.trans (New.sb n5.le ga5 sb7 S6.there)
      have sb8 := sb6.trans sb7
      refine ⟨_, rfl, rfl, _, rfl, ?_⟩
      refine ite2 (fun z => ?_) (fun z => ?_)
      · refine ⟨_, rfl, a, c, _, rfl, S6, fun k1 H7 ok1 sb9 S7 => ⟨_, rfl, (by show 2 ≤ sizeLine; decide), fun q0 hq => ⟨(by show 1 ≤ sizeLine; decide), fun l0 hl => ⟨(by show 2 ≤ sizeLine; decide), fun p0 hp => ?_⟩⟩⟩⟩
        have n7 := n6.trans (New.sb n6.le ga5 sb9 S7.there)
        have m1 := New.put n7.le hq (.tup [kV k1, v])
        have m2 := New.put m1.le hl (.lst [.ref q0])
        have m3 := New.put m2.le hp (.tup [.str "table", .ref l0])
        refine ⟨.tab [k1] [t], _, _, _, _, rfl, n7.trans (m1.trans (m2.trans m3)), (sb8.trans sb9).trans ((SB.of (same_put hq _)).trans ((SB.of (same_put hl _)).trans (SB.of (same_put hp _)))), ?_, ?_, ?_, ((S7.keep (same_put hq _)).keep (same_put hl _)).keep (same_put hp _)⟩
        · exact ⟨p0, l0, [q0], rfl, upd_same, m3.up _ _ upd_same, .cons ⟨v, m3.up _ _ (m2.up _ _ upd_same), ((tat.up m1.up).up m2.up).up m3.up⟩ .nil⟩
        · exact ⟨rfl, (by show 1 < min 13 (13 * (5 + i)); omega), List.pairwise_singleton _ _, fun y hy => by rw [List.mem_singleton.mp hy]; exact ok1, fun y hy => by rw [List.mem_singleton.mp hy]; exact mok⟩
        · show 1 + (cnt (5 + i) t + 0) ≤ _
          omega
      · obtain ⟨y, hy, hyt⟩ : ∃ y : Str, atI [V.str "list", V.str "tuple"] x = some (.str y) ∧ (y = "list" ∨ y = "tuple") := by
          have z' : x ≠ 2 := fun e => z (by rw [e]; rfl)
          rcases (show x = 0 ∨ x = 1 by omega) with e | e <;> subst e
          · exact ⟨_, rfl, .inl rfl⟩
          · exact ⟨_, rfl, .inr rfl⟩
        refine ⟨(by show 2 ≤ sizeLine; decide), fun q0 hq => ⟨_, rfl, q0, _, _, _, rfl, rfl, SqL.of upd_same, hy, _, rfl, (by show 1 ≤ sizeLine; decide), fun l0 hl => ⟨(by show 2 ≤ sizeLine; decide), fun p0 hp => ?_⟩⟩⟩
        have m1 := New.put n6.le hq (.lst [.str "list", .str "tuple"])
        have m2 := New.put m1.le hl (.lst [v])
        have m3 := New.put m2.le hp (.tup [.str y, .ref l0])
        refine ⟨.row y [t], _, _, _, _, rfl, n6.trans (m1.trans (m2.trans m3)), sb8.trans ((SB.of (same_put hq _)).trans ((SB.of (same_put hl _)).trans (SB.of (same_put hp _)))), ?_, ?_, ?_, ((S6.keep (same_put hq _)).keep (same_put hl _)).keep (same_put hp _)⟩
        · exact ⟨p0, l0, [v], rfl, upd_same, m3.up _ _ upd_same, .cons (((tat.up m1.up).up m2.up).up m3.up) .nil⟩
        · exact ⟨hyt, (by show 1 < min 13 (13 * (5 + i)); omega), fun y hy => by rw [List.mem_singleton.mp hy]; exact mok⟩
        · show 1 + (cnt (5 + i) t + 0) ≤ _
          omega
    · rintro σ H5 ⟨t, v, G5, v5, v6, rfl, n5, sb6, tat, mok, cn, S5⟩
      obtain ⟨mok1, cn1⟩ := mok.le 61 (by omega)
      exact ⟨_, rfl, k t v room' G5 H5 n5 sb6 (tat.le 61 (by omega)) mok1 (by omega) S5⟩
end
end K25
set_option Elab.async false
set_option linter.all false
set_option maxRecDepth 100000
set_option maxHeartbeats 4000000
/-! WHAT THE TOP HAS WRITTEN: the classes. -/
namespace K25
open PySem PySem.Spec PyProof.Rows L2
abbrev TC (K : PySem.W.Frag) : Addr := He.ga K "Table"
abbrev WC (K : PySem.W.Frag) : Addr := He.ga K "Writer"
abbrev SC (K : PySem.W.Frag) : Addr := He.ga K "Scanner"
abbrev UC (K : PySem.W.Frag) : Addr := He.ga K "Unwritable"
abbrev KC (K : PySem.W.Frag) : Addr := He.ga K "KeysError"
/-- the type of an instance of C may be asked -/
structure TyC (K : PySem.W.Frag) (C : Addr) : Prop where
  cl : Cls K C
  ha : PySem.W.findIn K (.ref C) "__class__" = some (some (.builtin "object.__class__"))
  hn : PySem.W.specialIn K (.builtin "object.__class__") "__get__" = some (some (.builtin "getset_descriptor.__get__"))
  htk : PySem.W.takesIn K (.builtin "object.__class__") = some true
  hm : PySem.W.mroIn K C (.type "object") = some true
def baseTys : List String := ["NoneType", "bool", "int", "str", "list", "tuple"]
/-- the class x has the __init__ of the text st -/
structure GI (K : PySem.W.Frag) (x qual : Str) (st : Stmt) (dvs : List V) (kws : List (Str × V)) : Prop where
  made : Mk K (He.ga K x) (He.ma K (He.ga K x) "__init__")
  fd : ∃ fd, FunD K "__init__" qual (defArgs st) (defBody st) (defScope st) dvs kws (He.ma K (He.ga K x) "__init__") fd
/-- a tuple of the written part -/
def KTup (K : PySem.W.Frag) (a : Addr) (vs : List V) : Prop := ∃ (o : Obj) (its : Array Value) (n : Nat), K.lookup a = some o ∧ o.cls = .type "tuple" ∧ o.data = .seq its n ∧ its.size ≤ sizeLine ∧ Vals vs its.toList
theorem KTup.sq {K : PySem.W.Frag} {a : Addr} {vs : List V} (h : KTup K a vs) (H : Hp) : SqT K H a vs := .inr h
def optTab : List (Str × List Str) := [("number_keys", ["text", "skip", "refuse"]), ("tuples", ["list", "refuse"]), ("nulls", ["keep", "skip"]), ("double_keys", ["keep", "refuse"]), ("order", ["keep", "rising"]), ("long_numbers", ["keep", "text", "refuse"])]
def kwsW : List (Str × V) := [("number_keys", .str "text"), ("tuples", .str "list"), ("nulls", .str "keep"), ("double_keys", .str "keep"), ("order", .str "keep"), ("long_numbers", .str "keep")]
structure Txt2 (K : PySem.W.Frag) (mg : Str → Option Value) : Prop extends Txt K mg where
  g_Table : mg "Table" = some (.ref (He.ga K "Table"))
  y_Table : TyC K (TC K)
  i_Table : ∃ v, GI K "Table" "Table.__init__" (inClass (top 25) 0) [v] []
  na_Table : NoAttr K (TC K) "held"
  kT : ∀ a ∈ baseTys, PySem.W.kitOne K (.type a) (.ref (TC K)) = some false
  g_Writer : mg "Writer" = some (.ref (He.ga K "Writer"))
  y_Writer : TyC K (WC K)
  i_Writer : GI K "Writer" "Writer.__init__" (inClass (top 30) 1) [] kwsW
  na_Writer : ∀ f ∈ optTab.map (·.1), NoAttr K (WC K) f
  g_WRITER_OPTIONS : mg "WRITER_OPTIONS" = some (.ref (He.ga K "WRITER_OPTIONS"))
  w_opts : ∃ os : List (Addr × Addr), KTup K (He.ga K "WRITER_OPTIONS") (os.map fun q => V.ref q.1) ∧ Paired (fun (e : Str × List Str) (q : Addr × Addr) => KTup K q.1 [.str e.1, .ref q.2] ∧ KTup K q.2 (e.2.map V.str)) optTab os
  kT2 : ∀ a ∈ baseTys, PySem.W.kitOne K (.ref (TC K)) (.type a) = some false
/-! ### the types of a value -/
def isL : Val → Bool
  | .row t _ => decide (t ≠ "tuple")
  | _ => false
def isTu : Val → Bool
  | .row t _ => decide (t = "tuple")
  | _ => false
def isTb : Val → Bool
  | .tab _ _ => true
  | _ => false
def isSt : Val → Bool
  | .str _ => true
  | _ => false
def isIn : Val → Bool
  | .int _ => true
  | .bl _ => true
  | _ => false
def isBo : Val → Bool
  | .bl _ => true
  | _ => false
/-- the answers of isinstance -/
structure TyA (K : PySem.W.Frag) (H : Hp) (v : V) (l tu st i bo tb : Bool) : Prop where
  ex : ∃ ty, TyX K H v ty ∧ PySem.W.kitOne K ty (.type "list") = some l ∧ PySem.W.kitOne K ty (.type "tuple") = some tu ∧ PySem.W.kitOne K ty (.type "str") = some st ∧ PySem.W.kitOne K ty (.type "int") = some i ∧
    PySem.W.kitOne K ty (.type "bool") = some bo ∧ PySem.W.kitOne K ty (.ref (TC K)) = some tb
section
variable {K : PySem.W.Frag} {mg : Str → Option Value} {G H : Hp}
theorem tya_ty (T : Txt2 K mg) {n : String} {v : V} {l tu st i bo : Bool} (h : TyX K H v (.type n)) (hn : n ∈ baseTys) (h1 : kitB n "list" = some l) (h2 : kitB n "tuple" = some tu) (h3 : kitB n "str" = some st) (h4 : kitB n "int" = some i) (h5 : kitB n "bool" = some bo) :
    TyA K H v l tu st i bo false := ⟨⟨_, h, kit_ty h1, kit_ty h2, kit_ty h3, kit_ty h4, kit_ty h5, T.kT n hn⟩⟩
theorem ty_int (T : Txt2 K mg) (i : Int) : TyA K H (.int i) false false false true false false := tya_ty T (.base (.int i)) (by decide) (by decide +kernel) (by decide +kernel) (by decide +kernel) (by decide +kernel) (by decide +kernel)
theorem ty_str (T : Txt2 K mg) (s : Str) : TyA K H (.str s) false false true false false false := tya_ty T (.base (.str s)) (by decide) (by decide +kernel) (by decide +kernel) (by decide +kernel) (by decide +kernel) (by decide +kernel)
theorem ty_non (T : Txt2 K mg) : TyA K H .non false false false false false false := tya_ty T (.base .non) (by decide) (by decide +kernel) (by decide +kernel) (by decide +kernel) (by decide +kernel) (by decide +kernel)
theorem ty_bl (T : Txt2 K mg) (b : Bool) : TyA K H (.bl b) false false false true true false := tya_ty T (.base (.bl b)) (by decide) (by decide +kernel) (by decide +kernel) (by decide +kernel) (by decide +kernel) (by decide +kernel)
theorem ty_lst (T : Txt2 K mg) {a : Addr} {xs : List V} (h : H a = some (.lst xs)) : TyA K H (.ref a) true false false false false false := tya_ty T (.base (.lst h)) (by decide) (by decide +kernel) (by decide +kernel) (by decide +kernel) (by decide +kernel) (by decide +kernel)
theorem ty_tup (T : Txt2 K mg) {a : Addr} {xs : List V} (h : H a = some (.tup xs)) : TyA K H (.ref a) false true false false false false := tya_ty T (.base (.tup h)) (by decide) (by decide +kernel) (by decide +kernel) (by decide +kernel) (by decide +kernel) (by decide +kernel)
theorem ty_key (T : Txt2 K mg) : ∀ k : Key, TyA K H (kV k) false false (!isI k) (isI k) false false
  | .inl i => ty_int T i
  | .inr s => ty_str T s
theorem ty_val (T : Txt2 K mg) (hs : Same G H) : ∀ {n : Nat} {t : Val} {v : V}, VAt (TC K) G n t v → TyA K H v (isL t) (isTu t) (isSt t) (isIn t) (isBo t) (isTb t)
  | 0, _, _, h => h.elim
  | _ + 1, .non, _, h => by
    cases h
    exact ty_non T
  | _ + 1, .bl b, _, h => by
    cases h
    exact ty_bl T b
  | _ + 1, .int i, _, h => by
    cases h
    exact ty_int T i
  | _ + 1, .str s, _, h => by
    cases h
    exact ty_str T s
  | n + 1, .row t xs, _, h => by
    obtain ⟨p, vs, rfl, h1, _⟩ := h
    rcases h1 with ⟨e, h1⟩ | ⟨e, h1⟩
    · rw [show isL (.row t xs) = false by simp [isL, e], show isTu (.row t xs) = true by simp [isTu, e]]
      exact ty_tup T (hs _ _ h1)
    · rw [show isL (.row t xs) = true by simp [isL, e], show isTu (.row t xs) = false by simp [isTu, e]]
      exact ty_lst T (hs _ _ h1)
  | n + 1, .tab ks xs, _, h => by
    obtain ⟨p, dx, d, vs, rfl, h1, _⟩ := h
    have y := T.y_Table
    refine ⟨⟨_, .base (.ins (hs _ _ h1) y.cl y.ha y.hn y.htk y.hm), T.kT2 _ (by decide), T.kT2 _ (by decide), T.kT2 _ (by decide), T.kT2 _ (by decide), T.kT2 _ (by decide), ?_⟩⟩
    unfold PySem.W.kitOne
    rw [if_pos (beq_self_eq_true (Value.ref (TC K)))]
    rfl
/-- a model, a raw value -/
theorem ty_raw (T : Txt2 K mg) (hs : Same G H) : ∀ {n : Nat} {t : Val} {v : V}, TAt G n t v → TyA K H v false (isTu t || isL t || isTb t) (isSt t) (isIn t) (isBo t) false
  | 0, _, _, h => h.elim
  | _ + 1, .non, _, h => by
    cases h
    exact ty_non T
  | _ + 1, .bl b, _, h => by
    cases h
    exact ty_bl T b
  | _ + 1, .int i, _, h => by
    cases h
    exact ty_int T i
  | _ + 1, .str s, _, h => by
    cases h
    exact ty_str T s
  | n + 1, .row t xs, _, h => by
    obtain ⟨p, l, vs, rfl, h1, _⟩ := h
    rw [show (isTu (.row t xs) || isL (.row t xs) || isTb (.row t xs)) = true by by_cases e : t = "tuple" <;> simp [isTu, isL, e]]
    exact ty_tup T (hs _ _ h1)
  | n + 1, .tab ks xs, _, h => by
    obtain ⟨p, l, ps, rfl, h1, _⟩ := h
    exact ty_tup T (hs _ _ h1)
end
/-! ### a list under construction, nothing else changed -/
def LoopF {α : Type} (R : Hp → α → V → Prop) (D : Addr) (H0 G0 : Hp) (done : List α) (H' : Hp) : Prop :=
  ∃ (vs : List V) (G' : Hp), New G0 H0 G' H' ∧ G' D = none ∧ H' D = some (.lst vs) ∧ Paired (R G') done vs ∧ ∀ b o, b ≠ D → H0 b = some o → H' b = some o
section
variable {α : Type} {R : Hp → α → V → Prop} {D : Addr} {H0 G0 H' G3 H3 : Hp} {done : List α}
theorem LoopF.start (h : Same G0 H0) (hD : H0 D = none) : LoopF R D H0 G0 [] (upd H0 D (.lst [])) :=
  ⟨[], G0, New.hid h hD _, h.free hD, upd_same, .nil, fun b o hb e => by rw [upd_ne hb]; exact e⟩
/-- the part that stays, before the next item -/
theorem LoopF.at (L : LoopF R D H0 G0 done H') : ∃ G', Same G' H' ∧ Same G0 G' ∧ ∀ {G3 H3 : Hp} {x : α} {v : V}, (∀ {G G' : Hp} {x : α} {v : V}, Same G G' → R G x v → R G' x v) → New G' H' G3 H3 → Same H' H3 → R G3 x v → done.length ≤ 1000 →
    ∃ acc, H3 D = some (.lst acc) ∧ acc.length < sizeLine ∧ LoopF R D H0 G0 (done ++ [x]) (upd H3 D (.lst (acc ++ [v]))) := by
  obtain ⟨vs, G', nw, gD, hD, pr, fr⟩ := L
  refine ⟨G', nw.le, nw.up, fun {G3 H3 x v} mono n3 s3 r hz => ?_⟩
  have g3 : G3 D = none := n3.new D _ hD gD
  refine ⟨vs, s3 _ _ hD, ?_, vs ++ [v], G3, (nw.trans n3).trans (New.mut n3.le g3 _), g3, upd_same, (Paired.mapP pr fun _ _ q => mono n3.up q).snoc r, fun b o hb e => ?_⟩
  · rw [← pr.length]
    exact small1000 hz
  · rw [upd_ne hb]
    exact s3 _ _ (fr b o hb e)
theorem LoopF.fin (L : LoopF R D H0 G0 done H') (mono : ∀ {G G' : Hp} {x : α} {v : V}, Same G G' → R G x v → R G' x v) (h : Same G0 H0) (hD : H0 D = none) :
    ∃ (vs : List V) (G' : Hp), New G0 H0 G' H' ∧ Same H0 H' ∧ G' D = some (.lst vs) ∧ Paired (R G') done vs := by
  obtain ⟨vs, G', nw, gD, hD', pr, fr⟩ := L
  exact ⟨vs, _, nw.fix h hD hD' gD, fun b o e => fr b o (ne_of_none e hD) e, upd_same, Paired.mapP pr fun _ _ q => mono (same_put gD _) q⟩
end
theorem paired_at {α β : Type} {F : α → β → Prop} : ∀ {xs : List α} {ys : List β} {i : Nat} {y : β}, Paired F xs ys → ys[i]? = some y → ∃ x, xs[i]? = some x ∧ F x y ∧ xs.take (i + 1) = xs.take i ++ [x]
  | _, _, 0, _, .cons (a := a) h _, e => ⟨a, rfl, Option.some.inj e ▸ h, rfl⟩
  | _, _, i + 1, _, .cons (a := a) _ r, e => by
    obtain ⟨x, h1, h2, h3⟩ := paired_at (i := i) r e
    exact ⟨x, h1, h2, congrArg (a :: ·) h3⟩
  | _, _, _, _, .nil, e => by cases e
end K25
set_option Elab.async false
set_option linter.all false
set_option maxRecDepth 100000
set_option maxHeartbeats 4000000
/-! is_integer, fresh -/
namespace K25
open PySem PySem.Spec PyProof.Rows L2 C8 SX TL
section
variable {P : Program} {w : World} {K : PySem.W.Frag} {mg : Str → Option Value} {base : Heap}
def spIsInt (K : PySem.W.Frag) : Sp := fun vs H Q _ => ∃ (v : V) (l tu st i bo tb : Bool), vs = [v] ∧ TyA K H v l tu st i bo tb ∧ Q (.bl (i && !bo)) H
theorem scIsInt : FnScope ["value"] ["value"] (defScope (top 19)) := ⟨rfl, rfl, rfl, by decide +kernel, rfl, by decide +kernel, by decide +kernel⟩
theorem c_isInt (T : Txt2 K mg) : Cal P w K mg base 1 "is_integer" (spIsInt K) [] := by
  refine T.f_is_integer.cal scIsInt (b1 fun _ _ _ _ _ _ _ => rfl) (fun vs H Q E h => ?_) (fun f cdv A outer s H vs Q E hr h => ?_)
  · obtain ⟨v, l, tu, st, i, bo, tb, rfl, _⟩ := h
    rfl
  obtain ⟨v, l, tu, st, i, bo, tb, rfl, ty, q⟩ := h
  refine ⟨_, (pss_one (ps_ret (pe_and (pe_callB call_isi rfl T.n_isinstance (by decide +kernel) (pa_cons (pv 0) (pa_cons (pe_bltn (v := .ty "int") (u := Value.type "int") rfl T.n_int (by decide +kernel) rfl) pa_nil))) (pe_one (pe_not (pe_callB call_isi rfl T.n_isinstance (by decide +kernel) (pa_cons (pv 0) (pa_cons (pe_bltn (v := .ty "bool") (u := Value.type "bool") rfl T.n_bool (by decide +kernel) rfl) pa_nil)))))))), ?_⟩
  obtain ⟨t, tx, _, _, _, h4, h5, _⟩ := ty.ex
  refine ⟨_, rfl, _, _, _, _, i, rfl, .ty "int", tx, h4, i, rfl, ?_⟩
  cases i with
  | false => exact iteF q
  | true => exact iteT ⟨_, rfl, _, _, _, _, bo, rfl, .ty "bool", tx, h5, _, rfl, q⟩
def spFresh (K : PySem.W.Frag) (n : Nat) : Sp := fun vs H Q _ => ∃ (t : Val) (v : V) (G : Hp), vs = [v] ∧ Same G H ∧ VAt (TC K) G n t v ∧ MOk n t ∧ ∀ (v' : V) (G' H' : Hp), New G H G' H' → Same H H' → VAt (TC K) G' n t v' → Q v' H'
theorem scFresh : FnScope ["value", "item"] ["value"] (defScope (top 21)) := ⟨rfl, rfl, rfl, by decide +kernel, rfl, by decide +kernel, by decide +kernel⟩
theorem c_fresh (T : Txt2 K mg) : ∀ n, Cal P w K mg base (n + 1) "fresh" (spFresh K n) []
  | 0 => T.f_fresh.cal (k := 0) scFresh (b1 fun _ _ _ _ _ _ _ => rfl) (fun vs H Q E ⟨t, v, G, _, _, h, _⟩ => h.elim) (fun f cdv A outer s H vs Q E hr ⟨t, v, G, _, _, h, _⟩ => h.elim)
  | n + 1 => by
    have ih := c_fresh T n
    refine T.f_fresh.cal scFresh (b1 fun _ _ _ _ _ _ _ => rfl) (fun vs H Q E h => ?_) (fun f cdv A outer s H vs Q E hr h => ?_)
    · obtain ⟨t, v, G, rfl, _⟩ := h
      rfl
    obtain ⟨t, v, G, rfl, sg, va, mo, k⟩ := h
    refine ⟨_, (pss_cons (ps_if (pt_val (pe_callB call_isi rfl T.n_isinstance (by decide +kernel) (pa_cons (pv 0) (pa_cons (pe_bltn (v := .ty "list") (u := Value.type "list") rfl T.n_list (by decide +kernel) rfl) pa_nil))))
        (pss_one (ps_ret (pe_lc (own := [("item", 1)]) (g := (gName 1)) rfl scFresh.nd (pi_list (pv 0)) (blkOk_by (N := ["value", "item"]) (sc := defScope (top 21)) (own := [("item", 1)]) (by decide +kernel)) (fun _ _ _ _ _ => pg_name (i := 1) scFresh.nd rfl (Or.inl rfl)) (fun _ _ _ _ _ => pts_nil) (fun _ _ _ _ _ => (pe_c ih hr (by omega) rfl (pa_cons (pv 1) pa_nil))))))
        pss_nil)
      (pss_cons (ps_if (pt_val (pe_callB call_isi rfl T.n_isinstance (by decide +kernel) (pa_cons (pv 0) (pa_cons (pe_bltn (v := .ty "tuple") (u := Value.type "tuple") rfl T.n_tuple (by decide +kernel) rfl) pa_nil))))
        (pss_one (ps_ret (pe_tupleOf rfl T.n_tuple (pe_lc (own := [("item", 1)]) (g := (gName 1)) rfl scFresh.nd (pi_tup (pv 0)) (blkOk_by (N := ["value", "item"]) (sc := defScope (top 21)) (own := [("item", 1)]) (by decide +kernel)) (fun _ _ _ _ _ => pg_name (i := 1) scFresh.nd rfl (Or.inl rfl)) (fun _ _ _ _ _ => pts_nil) (fun _ _ _ _ _ => (pe_c ih hr (by omega) rfl (pa_cons (pv 1) pa_nil)))))))
        pss_nil)
      (pss_one (ps_ret (pv 0))))), ?_⟩
    obtain ⟨ty, tx, h1, h2, _⟩ := (ty_val T sg va).ex
    refine ⟨_, rfl, _, _, _, _, isL t, rfl, .ty "list", tx, h1, _, rfl, ?_⟩
    refine ite2 (fun z => ?_) (fun z => ?_)
    · cases t with
      | row tg xs =>
        obtain ⟨p, vs, rfl, hp, pr⟩ := va
        obtain ⟨e, hp⟩ : tg ≠ "tuple" ∧ G p = some (.lst vs) := hp.resolve_left fun q => of_decide_eq_true z q.1
        obtain ⟨_, m12, mx⟩ := mo
        have hp' := sg _ _ hp
        refine ⟨_, rfl, p, rfl, ⟨_, SqL.of hp'⟩, fun D hD => ?_⟩
        refine lc_list (K := K) (a := p) (xs := vs) (fun i H' => LoopF (VAt (TC K) · n · ·) D H G (xs.take i) H') (LoopF.start sg hD) (fun i H' _ ⟨_, _, _, _, _, _, fr⟩ => SqL.of (fr p _ (ne_of_none hp' hD) hp')) ?_ ?_
        · intro i x H' hx L
          obtain ⟨y, hy, hv, ht⟩ := paired_at pr hx
          obtain ⟨G', s1, s0, st⟩ := L.at
          refine ⟨rfl, _, rfl, y, x, G', rfl, s1, hv.up s0, mx y (List.mem_of_getElem? hy), fun v' G3 H3 n3 s3 hv3 => ?_⟩
          rw [ht]
          exact st (fun h q => VAt.up h q) n3 s3 hv3 (by rw [List.length_take]; omega)
        · intro H' L
          rw [← pr.length, List.take_length] at L
          obtain ⟨us, G', nw, s3, hD', pr'⟩ := L.fin (fun h q => VAt.up h q) sg hD
          exact k _ G' H' nw s3 ⟨D, us, rfl, .inr ⟨e, hD'⟩, pr'⟩
      | _ => exact absurd (show false = true from z) (by decide)
    refine ⟨_, rfl, _, _, _, _, isTu t, rfl, .ty "tuple", tx, h2, _, rfl, ?_⟩
    refine ite2 (fun z => ?_) (fun z => ?_)
    · cases t with
      | row tg xs =>
        obtain ⟨p, vs, rfl, hp, pr⟩ := va
        have e : tg = "tuple" := of_decide_eq_true z
        have hp : G p = some (.tup vs) := (hp.resolve_right fun q => q.1 e).2
        obtain ⟨_, m12, mx⟩ := mo
        have hp' := sg _ _ hp
        refine ⟨_, rfl, p, rfl, ⟨_, SqT.of hp'⟩, fun D hD => ?_⟩
        refine lc_tup (K := K) (a := p) (xs := vs) (fun i H' => LoopF (VAt (TC K) · n · ·) D H G (xs.take i) H') (LoopF.start sg hD) (fun i H' _ ⟨_, _, _, _, _, _, fr⟩ => SqT.of (fr p _ (ne_of_none hp' hD) hp')) ?_ ?_
        · intro i x H' hx L
          obtain ⟨y, hy, hv, ht⟩ := paired_at pr hx
          obtain ⟨G', s1, s0, st⟩ := L.at
          refine ⟨rfl, _, rfl, y, x, G', rfl, s1, hv.up s0, mx y (List.mem_of_getElem? hy), fun v' G3 H3 n3 s3 hv3 => ?_⟩
          rw [ht]
          exact st (fun h q => VAt.up h q) n3 s3 hv3 (by rw [List.length_take]; omega)
        · intro H' L
          rw [← pr.length, List.take_length] at L
          obtain ⟨us, G', nw, s3, hD', pr'⟩ := L.fin (fun h q => VAt.up h q) sg hD
          refine .inl ⟨D, us, rfl, SqL.of (nw.le _ _ hD'), fun q hq => ?_⟩
          have np := New.put nw.le hq (.tup us)
          exact k _ _ _ (nw.trans np) (s3.trans (same_put hq _)) ⟨q, us, rfl, .inl ⟨e, upd_same⟩, Paired.mapP pr' fun _ _ z => z.up np.up⟩
      | _ => exact absurd (show false = true from z) (by decide)
    exact ⟨_, rfl, k v G H (New.refl sg) (Same.refl H) va⟩
end
end K25
set_option Elab.async false
set_option linter.all false
set_option maxRecDepth 100000
set_option maxHeartbeats 4000000
/-! Table.__init__, _law_made -/
namespace K25
open PySem PySem.Spec PyProof.Rows L2 C8 SX TL
def EAt (TC : Addr) (G : Hp) (n : Nat) (e : E) (v : V) : Prop := ∃ (q : Addr) (u : V), v = .ref q ∧ G q = some (.tup [kV e.1, u]) ∧ VAt TC G n e.2 u
theorem EAt.up {TC : Addr} {G G' : Hp} {n : Nat} {e : E} {v : V} (h : Same G G') : EAt TC G n e v → EAt TC G' n e v := fun ⟨q, u, e1, e2, e3⟩ => ⟨q, u, e1, h _ _ e2, e3.up h⟩
theorem zip_kv {R : E → Key × V → Prop} (hR : ∀ e kv, R e kv → kv.1 = e.1) : ∀ {es : List E} {kvs : List (Key × V)}, Paired R es kvs → (es.map (·.1)).zip (kvs.map (·.2)) = kvs ∧ kvs.map (·.1) = es.map (·.1)
  | _, _, .nil => ⟨rfl, rfl⟩
  | _, _, .cons (a := a) (b := b) h r => by
    obtain ⟨h1, h2⟩ := zip_kv hR r
    refine ⟨?_, ?_⟩
    · show (a.1, b.2) :: _ = _
      rw [← hR _ _ h]
      exact congrArg _ h1
    · show b.1 :: _ = a.1 :: _
      rw [hR _ _ h]
      exact congrArg _ h2
theorem pair_snd {R : Val → V → Prop} {R' : E → Key × V → Prop} (hR : ∀ e kv, R' e kv → R e.2 kv.2) : ∀ {es : List E} {kvs : List (Key × V)}, Paired R' es kvs → Paired R (es.map (·.2)) (kvs.map (·.2))
  | _, _, .nil => .nil
  | _, _, .cons h r => .cons (hR _ _ h) (pair_snd hR r)
section
variable {P : Program} {w : World} {K : PySem.W.Frag} {mg : Str → Option Value} {base : Heap}
def spTInit (K : PySem.W.Frag) (n : Nat) : Sp := fun vs H Q _ => ∃ (x l dx : Addr) (G : Hp) (es : List E) (us : List V), vs = [.ref x, .ref l] ∧ H x = some (.ins (TC K) dx []) ∧ G x = none ∧ Same G H ∧ H l = some (.lst us) ∧ Paired (EAt (TC K) G n) es us ∧
  (∀ e ∈ es, MOk n e.2) ∧ (es.map (·.1)).Nodup ∧ es.length ≤ 12 ∧
  ∀ (d : Addr) (ws : List V) (G' H' : Hp), New G H G' H' → G' x = none → H' x = some (.ins (TC K) dx [("held", .ref d)]) → G' d = some (.dK ((es.map (·.1)).zip ws)) → Paired (VAt (TC K) G' n) (es.map (·.2)) ws → (∀ b o, b ≠ x → H b = some o → H' b = some o) → Q .non H'
theorem scTInit : FnScope ["self", "entries", "held", "key", "item"] ["self", "entries"] (defScope (inClass (top 25) 0)) := ⟨rfl, rfl, rfl, by decide +kernel, rfl, by decide +kernel, by decide +kernel⟩
theorem c_Table (T : Txt2 K mg) (n : Nat) : Mak P w K mg base (n + 2) "Table" (TC K) (spTInit K n) [] := by
  obtain ⟨v0, gi⟩ := T.i_Table
  obtain ⟨fd, F⟩ := gi.fd
  obtain ⟨ds, rd, bd⟩ := F.binds1 (ps := ["self", "entries"]) 2 1 (by simp) rfl (fun T kV doc pm an cdv ct us its h1 h2 => match us, its, h1, h2 with | [a, b], [c], _, _ => ⟨_, rfl, rfl⟩)
  have rd : Vals [] ds := rd
  cases rd
  refine ⟨_, fd, _, [], gi.made, F.ok scTInit (fun vs H Q E h => ?_) (fun cdv A outer s H vs Q E hr h => ?_), T.g_Table, bd, .nil⟩
  · obtain ⟨x, l, dx, G, es, us, rfl, _⟩ := h
    rfl
  obtain ⟨x, l, dx, G, es, us, rfl, hx, gx, sg, hl, pr, mo, nd, m12, k⟩ := h
  have hu := hu_of hr
  refine ⟨_, PSs.nox (pss_cons (ps_set (i := 2) scTInit.nd rfl (Or.inl rfl) pe_dnewK)
      (pss_cons (ps_for PassesOwn.never rfl (pi_list (pv 1)) (pg_tup rfl (pgs_cons (pg_name (i := 3) scTInit.nd rfl (Or.inl rfl)) (pgs_cons (pg_name (i := 4) scTInit.nd rfl (Or.inl rfl)) pgs_nil)))
        (pss_cons (ps_if (PW.pt (pw_and (pt_not (pt_val (pe_c (c_isInt T) hr (by omega) rfl (pa_cons (pv 3) pa_nil)))) (pw_and1 (pt_not (pt_val (pe_callB call_isi rfl T.n_isinstance (by decide +kernel) (pa_cons (pv 3) (pa_cons (pe_bltn (v := .ty "str") (u := Value.type "str") rfl T.n_str (by decide +kernel) rfl) pa_nil))))))))
            (pss_one ps_never)
            pss_nil)
          (pss_cons (ps_if (pt_cmp (pc_din hu (pv 3) (pv 2)) rfl)
            (pss_one ps_never)
            pss_nil)
          (pss_one (ps_dput hu (pv 2) (pv 3) (pe_c (c_fresh T n) hr (by omega) rfl (pa_cons (pv 4) pa_nil)) rfl)))))
      (pss_one (ps_fld (pv 0) (pv 2) rfl)))), ?_⟩
  intro d hd
  have xd : x ≠ d := ne_of_none hx hd
  have ld : l ≠ d := ne_of_none hl hd
  have xl : l ≠ x := fun e => by rw [e, hx] at hl; cases hl
  refine ⟨_, rfl, l, rfl, ⟨_, SqL.of (same_put hd _ _ _ hl)⟩, ?_⟩
  refine for_list (K := K) (a := l) (xs := us) (fun i σ H' => ∃ (v3 v4 : Option V) (kvs : List (Key × V)) (G' : Hp), σ = [some (.ref x), some (.ref l), some (.ref d), v3, v4] ∧ New G H G' H' ∧ G' d = none ∧ H' d = some (.dK kvs) ∧
      Paired (fun e kv => kv.1 = e.1 ∧ VAt (TC K) G' n e.2 kv.2) (es.take i) kvs ∧ ∀ b o, b ≠ d → H b = some o → H' b = some o)
    ⟨none, none, [], G, rfl, New.hid sg hd _, sg.free hd, upd_same, .nil, fun b o hb e => by rw [upd_ne hb]; exact e⟩ (fun i σ H' _ ⟨_, _, _, _, _, _, _, _, _, fr⟩ => SqL.of (fr l _ ld hl)) ?_ ?_
  · rintro i y σ H' hy ⟨v3, v4, kvs, G', rfl, nw, gd, hd', pk, fr⟩
    obtain ⟨e, he, ⟨q, u, rfl, hq, hv⟩, ht⟩ := paired_at pr hy
    refine ⟨q, _, rfl, SqT.of (nw.le _ _ (nw.up _ _ hq)), rfl, ?_⟩
    obtain ⟨ty, tx, _, _, h3, _, _, _⟩ := (ty_key (H := H') T e.1).ex
    refine ⟨_, _, rfl, _, _, rfl, rfl, _, rfl, kV e.1, _, _, _, _, _, _, rfl, ty_key T e.1, _, rfl, ?_⟩
    refine ite2 (fun z => ?a) (fun z => iteF ?b)
    case' a =>
      refine ⟨_, rfl, _, _, _, _, !isI e.1, rfl, .ty "str", tx, h3, _, rfl, ?_⟩
      refine ite2 (fun z2 => ?_) (fun z2 => ?_)
      · rw [Bool.not_false, Bool.and_true] at z
        rw [Bool.not_not] at z2
        rw [z2] at z
        cases z
    all_goals
      have nk : valV kvs e.1 = none := by
        cases h : valV kvs e.1 with
        | none => rfl
        | some v =>
          have m := valV_in h
          rw [(zip_kv (fun _ _ h => h.1) pk).2] at m
          have nd2 : (es.map (·.1)).Nodup := nd
          have e2 : es = es.take i ++ e :: es.drop (i + 1) := by
            have := List.getElem?_eq_some_iff.mp he
            obtain ⟨hi, e3⟩ := this
            rw [← e3, List.getElem_cons_drop, List.take_append_drop]
          rw [e2, List.map_append, List.map_cons] at nd2
          rw [List.nodup_append] at nd2
          exact absurd rfl (nd2.2.2 _ m _ List.mem_cons_self)
      refine ⟨_, rfl, _, rfl, d, _, rfl, DGet.k (k := e.1) hd', _, rfl, ?_⟩
      rw [nk]
      refine iteF ?_
      refine ⟨_, rfl, e.2, u, G', rfl, nw.le, hv.up nw.up, mo e (List.mem_of_getElem? he), fun v' G3 H3 n3 s3 hv3 => ?_⟩
      have g3 : G3 d = none := n3.new d _ hd' gd
      have lk : kvs.length ≤ 1000 := by
        rw [← pk.length, List.length_take]
        omega
      refine ⟨_, rfl, _, rfl, d, _, rfl, DPut.k (k := e.1) (s3 _ _ hd') (small1000 lk), ?_⟩
      rw [putK_new _ nk]
      refine ⟨_, _, kvs ++ [(e.1, v')], G3, rfl, (nw.trans n3).trans (New.mut n3.le g3 _), g3, upd_same, ?_, fun b o hb q => ?_⟩
      · rw [ht]
        exact (Paired.mapP pk fun _ _ q => ⟨q.1, q.2.up n3.up⟩).snoc ⟨rfl, hv3⟩
      · rw [upd_ne hb]
        exact s3 _ _ (fr b o hb q)
  · rintro σ H' ⟨v3, v4, kvs, G', rfl, nw, gd, hd', pk, fr⟩
    rw [← pr.length, List.take_length] at pk
    obtain ⟨z1, z2⟩ := zip_kv (fun _ _ h => h.1) pk
    refine ⟨_, rfl, _, rfl, x, _, _, _, rfl, fr x _ xd hx, T.y_Table.cl, T.na_Table, (by decide), ?_⟩
    have gx' : G' x = none := nw.hidden gx ⟨_, hx⟩
    have nf := nw.fix sg hd hd' gd
    have gx2 : (upd G' d (.dK kvs)) x = none := by rw [upd_ne xd]; exact gx'
    refine k d (kvs.map (·.2)) _ _ (nf.trans (New.mut nf.le gx2 _)) gx2 upd_same ?_ ?_ ?_
    · rw [z1]
      exact upd_same
    · exact pair_snd (fun _ _ h => h.2.up (same_put gd _)) pk
    · intro b o hb e
      rw [upd_ne hb]
      exact fr b o (ne_of_none e hd) e
end
end K25
set_option Elab.async false
set_option linter.all false
set_option maxRecDepth 100000
set_option maxHeartbeats 4000000
/-! _law_made -/
namespace K25
open PySem PySem.Spec PyProof.Rows L2 C8 SX TL
section
variable {P : Program} {w : World} {K : PySem.W.Frag} {mg : Str → Option Value} {base : Heap}
def spMade (K : PySem.W.Frag) (n : Nat) : Sp := fun vs H Q _ => ∃ (t : Val) (v : V) (G : Hp), vs = [v] ∧ Same G H ∧ TAt G n t v ∧ MOk n t ∧ ∀ (v' : V) (G' H' : Hp), New G H G' H' → Same H H' → VAt (TC K) G' n t v' → Q v' H'
theorem scMade : FnScope ["_law_model_here", "_law_items", "_law_key_here", "_law_item"] ["_law_model_here"] (defScope (top 45)) := ⟨rfl, rfl, rfl, by decide +kernel, rfl, by decide +kernel, by decide +kernel⟩
theorem c_made (T : Txt2 K mg) : ∀ n, Cal P w K mg base (n + 4) "_law_made" (spMade K n) []
  | 0 => T.f_made.cal (k := 3) scMade (b1 fun _ _ _ _ _ _ _ => rfl) (fun vs H Q E ⟨t, v, G, _, _, h, _⟩ => h.elim) (fun f cdv A outer s H vs Q E hr ⟨t, v, G, _, _, h, _⟩ => h.elim)
  | n + 1 => by
    have ih := c_made T n
    refine T.f_made.cal (k := n + 4) scMade (b1 fun _ _ _ _ _ _ _ => rfl) (fun vs H Q E h => ?_) (fun f cdv A outer s H vs Q E hr h => ?_)
    · obtain ⟨t, v, G, rfl, _⟩ := h
      rfl
    obtain ⟨t, v, G, rfl, sg, ta, mo, k⟩ := h
    refine ⟨_, (pss_cons (ps_if (pt_not (pt_val (pe_callB call_isi rfl T.n_isinstance (by decide +kernel) (pa_cons (pv 0) (pa_cons (pe_bltn (v := .ty "tuple") (u := Value.type "tuple") rfl T.n_tuple (by decide +kernel) rfl) pa_nil)))))
        (pss_one (ps_ret (pv 0)))
        pss_nil)
      (pss_cons (ps_if (pt_cmpR op_eq (pe_ix ix_tup (pv 0) pe_int (fun _ _ => rfl)) pe_str (nomark _))
        (pss_one (ps_ret (pe_mk (c_Table T n) hr (by omega) rfl (pa_cons (pe_lc (own := [("_law_key_here", 2), ("_law_item", 3)]) (g := (gTup K 2 (gCons (gName 2) (gCons (gName 3) gNil)))) rfl scMade.nd (pi_list (pe_ix ix_tup (pv 0) pe_int (fun _ _ => rfl))) (blkOk_by (N := ["_law_model_here", "_law_items", "_law_key_here", "_law_item"]) (sc := defScope (top 45)) (own := [("_law_key_here", 2), ("_law_item", 3)]) (by decide +kernel)) (fun _ _ _ _ _ => pg_tup rfl (pgs_cons (pg_name (i := 2) scMade.nd rfl (Or.inl rfl)) (pgs_cons (pg_name (i := 3) scMade.nd rfl (Or.inl rfl)) pgs_nil))) (fun _ _ _ _ _ => pts_nil) (fun _ _ _ _ _ => (pe_tup (pa_cons (pv 2) (pa_cons (pe_c ih hr (by omega) rfl (pa_cons (pv 3) pa_nil)) pa_nil))))) pa_nil))))
        pss_nil)
      (pss_cons (ps_setLc (i := 1) (own := [("_law_item", 3)]) (g := (gName 3)) rfl scMade.nd rfl rfl (sw_true rfl rfl rfl (by decide +kernel)) (pi_list (pe_ix ix_tup (pv 0) pe_int (fun _ _ => rfl))) (blkOk_by (N := ["_law_model_here", "_law_items", "_law_key_here", "_law_item"]) (sc := defScope (top 45)) (own := [("_law_item", 3)]) (by decide +kernel)) (fun _ _ _ _ _ => pg_name (i := 3) scMade.nd rfl (Or.inl rfl)) (fun _ _ _ _ _ => pts_nil) (fun _ _ _ _ _ => (pe_c ih hr (by omega) rfl (pa_cons (pv 3) pa_nil))))
      (pss_cons (ps_if (pt_cmpR op_eq (pe_ix ix_tup (pv 0) pe_int (fun _ _ => rfl)) pe_str (nomark _))
        (pss_one (ps_ret (pe_tupleOf rfl T.n_tuple (pv 1))))
        pss_nil)
      (pss_one (ps_ret (pv 1))))))), ?_⟩
    obtain ⟨ty, tx, h1, h2, _⟩ := (ty_raw T sg ta).ex
    refine ⟨_, rfl, _, _, _, _, (isTu t || isL t || isTb t), rfl, .ty "tuple", tx, h2, _, rfl, ?_⟩
    cases t with
    | non => exact iteT ⟨_, rfl, k v G H (New.refl sg) (Same.refl H) ta⟩
    | bl b => exact iteT ⟨_, rfl, k v G H (New.refl sg) (Same.refl H) ta⟩
    | int i => exact iteT ⟨_, rfl, k v G H (New.refl sg) (Same.refl H) ta⟩
    | str s => exact iteT ⟨_, rfl, k v G H (New.refl sg) (Same.refl H) ta⟩
    | row tg xs =>
      obtain ⟨p, l, vs, rfl, hp, hl, pr⟩ := ta
      rw [show (isTu (.row tg xs) || isL (.row tg xs) || isTb (.row tg xs)) = true by by_cases e : tg = "tuple" <;> simp [isTu, isL, e]]
      refine iteF ?_
      obtain ⟨htg, m12, mx⟩ := mo
      have hp' := sg _ _ hp
      have hl' := sg _ _ hl
      refine ⟨_, rfl, p, _, _, _, rfl, rfl, SqT.of hp', rfl, rfl, _, rfl, ?_⟩
      refine ite2 (fun z => ?_) (fun _ => ?_)
      · rcases htg with e | e <;> subst e
        · exact absurd (of_decide_eq_true z) (by decide)
        · exact absurd (of_decide_eq_true z) (by decide)
      refine ⟨_, rfl, p, _, _, _, rfl, rfl, SqT.of hp', rfl, l, rfl, ⟨_, SqL.of hl'⟩, fun D hD => ?_⟩
      refine lc_list (K := K) (a := l) (xs := vs) (fun i H' => LoopF (VAt (TC K) · n · ·) D H G (xs.take i) H') (LoopF.start sg hD) (fun i H' _ ⟨_, _, _, _, _, _, fr⟩ => SqL.of (fr l _ (ne_of_none hl' hD) hl')) ?_ ?_
      · intro i x H' hx L
        obtain ⟨y, hy, hv, ht⟩ := paired_at pr hx
        obtain ⟨G', s1, s0, st⟩ := L.at
        refine ⟨rfl, _, rfl, y, x, G', rfl, s1, hv.up s0, mx y (List.mem_of_getElem? hy), fun v' G3 H3 n3 s3 hv3 => ?_⟩
        rw [ht]
        exact st (fun h q => VAt.up h q) n3 s3 hv3 (by rw [List.length_take]; omega)
      · intro H' L
        rw [← pr.length, List.take_length] at L
        obtain ⟨us, G', nw, s3, hD', pr'⟩ := L.fin (fun h q => VAt.up h q) sg hD
        have hp3 := s3 _ _ hp'
        refine ⟨_, rfl, p, _, _, _, rfl, rfl, SqT.of hp3, rfl, rfl, _, rfl, ?_⟩
        refine ite2 (fun z => ?_) (fun z => ?_)
        · have e : tg = "tuple" := V.str.inj (of_decide_eq_true z)
          refine ⟨_, rfl, .inl ⟨D, us, rfl, SqL.of (nw.le _ _ hD'), fun q hq => ?_⟩⟩
          have np := New.put nw.le hq (.tup us)
          exact k _ _ _ (nw.trans np) (s3.trans (same_put hq _)) ⟨q, us, rfl, .inl ⟨e, upd_same⟩, Paired.mapP pr' fun _ _ z => z.up np.up⟩
        · have e : tg ≠ "tuple" := fun q => z (by rw [q]; rfl)
          exact ⟨_, rfl, k _ G' H' nw s3 ⟨D, us, rfl, .inr ⟨e, hD'⟩, pr'⟩⟩
    | tab ks xs =>
      obtain ⟨p, l, ps, rfl, hp, hl, pr⟩ := ta
      refine iteF ?_
      obtain ⟨hlen, m12, nd, kok, mx⟩ := mo
      have hp' := sg _ _ hp
      have hl' := sg _ _ hl
      have hfst : (ks.zip xs).map (·.1) = ks := List.map_fst_zip (by omega)
      have hsnd : (ks.zip xs).map (·.2) = xs := List.map_snd_zip (by omega)
      have hz : (ks.zip xs).length ≤ 12 := by rw [List.length_zip]; omega
      have moz : ∀ e ∈ ks.zip xs, MOk n e.2 := fun e he => mx _ (List.of_mem_zip he).2
      refine ⟨_, rfl, p, _, _, _, rfl, rfl, SqT.of hp', rfl, rfl, _, rfl, ?_⟩
      refine iteT ?_
      refine ⟨_, rfl, p, _, _, _, rfl, rfl, SqT.of hp', rfl, l, rfl, ⟨_, SqL.of hl'⟩, fun D hD => ?_⟩
      refine lc_list (K := K) (a := l) (xs := ps.map V.ref) (fun i H' => LoopF (EAt (TC K) · n · ·) D H G ((ks.zip xs).take i) H') (LoopF.start sg hD) (fun i H' _ ⟨_, _, _, _, _, _, fr⟩ => SqL.of (fr l _ (ne_of_none hl' hD) hl')) ?_ ?_
      · intro i x H' hx L
        obtain ⟨q, hq, rfl⟩ := map_at hx
        obtain ⟨y, hy, ⟨u, hqu, hv⟩, ht⟩ := paired_at pr hq
        obtain ⟨G', s1, s0, st⟩ := L.at
        refine ⟨q, _, rfl, SqT.of (s1 _ _ (s0 _ _ hqu)), rfl, _, _, rfl, _, _, rfl, rfl, rfl, _, rfl, _, rfl, y.2, u, G', rfl, s1, hv.up s0, moz y (List.mem_of_getElem? hy), fun v' G3 H3 n3 s3 hv3 => ⟨(by show 2 ≤ sizeLine; decide), fun q2 hq2 => ?_⟩⟩
        rw [ht]
        have np := New.put n3.le hq2 (.tup [kV y.1, v'])
        exact st (fun h q => EAt.up h q) (n3.trans np) (s3.trans (same_put hq2 _)) ⟨q2, v', rfl, upd_same, hv3.up np.up⟩ (by rw [List.length_take]; omega)
      · intro H' L
        rw [List.length_map, ← pr.length, List.take_length] at L
        obtain ⟨us, G', nw, s3, hD', pr'⟩ := L.fin (fun h q => EAt.up h q) sg hD
        intro x dx hx hdx ne
        have m1 := New.put nw.le hdx (.own x)
        have hx1 : (upd H' dx (.own x)) x = none := by rw [upd_ne (Ne.symm ne)]; exact hx
        have m2 := New.hid m1.le hx1 (.ins (TC K) dx [])
        have gx : (upd G' dx (.own x)) x = none := m1.le.free hx1
        have hDx : D ≠ x := ne_of_none (nw.le _ _ hD') hx
        refine ⟨x, D, dx, _, ks.zip xs, us, rfl, upd_same, gx, m2.le, m2.le _ _ (m1.up _ _ hD'), Paired.mapP pr' fun _ _ z => EAt.up m1.up z, moz, by rw [hfst]; exact nd, hz, fun d ws G2 H2 n2 g2 h2 hd2 pr2 fr2 => ⟨rfl, ?_⟩⟩
        have nf := (m1.trans (m2.trans n2)).fix nw.le hx h2 g2
        rw [hfst] at hd2
        rw [hsnd] at pr2
        have up2 : Same G2 (upd G2 x (.ins (TC K) dx [("held", .ref d)])) := same_put g2 _
        refine k (.ref x) _ H2 (nw.trans nf) ?_ ⟨x, dx, d, ws, rfl, upd_same, up2 _ _ hd2, by rw [hlen]; exact pr2.length, Paired.mapP pr2 fun _ _ z => z.up up2⟩
        intro b o e
        have e3 := s3 _ _ e
        have bx : b ≠ x := ne_of_none e3 hx
        refine fr2 b o bx ?_
        rw [upd_ne bx]
        exact same_put hdx _ _ _ e3
end
end K25
set_option Elab.async false
set_option linter.all false
set_option maxRecDepth 100000
set_option maxHeartbeats 4000000
/-! the options, the writer -/
namespace K25
open PySem PySem.Spec PyProof.Rows L2 C8 SX TL
def optsL (o : Opts) : List Str := [o.nk, o.tp, o.nu, o.dk, o.od, o.ln]
def OOk (o : Opts) : Prop := Paired (fun (e : Str × List Str) (y : Str) => y ∈ e.2) optTab (optsL o)
def wF (o : Opts) : List (Str × V) := [("number_keys", .str o.nk), ("tuples", .str o.tp), ("nulls", .str o.nu), ("double_keys", .str o.dk), ("order", .str o.od), ("long_numbers", .str o.ln)]
section
variable {P : Program} {w : World} {K : PySem.W.Frag} {mg : Str → Option Value} {base : Heap}
def spPick : Sp := fun vs H Q _ => ∃ (a c : Addr) (room : Int) (l : Addr) (ws : List Str), vs = [.ref a, .ref l] ∧ Src H a c room ∧ H l = some (.lst (ws.map V.str)) ∧ 0 < ws.length ∧ ws.length ≤ 10 ∧ ∀ (y : Str) (H' : Hp), y ∈ ws → SB a H H' → Src H' a c room → Q (.str y) H'
theorem scPick : FnScope ["_law_source_here", "_law_words"] ["_law_source_here", "_law_words"] (defScope (top 46)) := ⟨rfl, rfl, rfl, by decide +kernel, rfl, by decide +kernel, by decide +kernel⟩
theorem Src.ne {H : Hp} {a c : Addr} {room : Int} (S : Src H a c room) {l : Addr} {xs : List V} (h : H l = some (.lst xs)) : l ≠ a := by
  obtain ⟨n9, p9, q9, r9, l9, e9, f9, g9⟩ := S
  exact ne_of h e9 (by intro z; cases z)
theorem c_pick (T : Txt K mg) : Cal P w K mg base 3 "_law_pick" spPick [] := by
  refine T.f_pick.cal scPick (b2 fun _ _ _ _ _ _ _ _ => rfl) (fun vs H Q E h => ?_) (fun f cdv A outer s H vs Q E hr h => ?_)
  · obtain ⟨a, c, room, l, ws, rfl, _⟩ := h
    rfl
  obtain ⟨a, c, room, l, ws, rfl, S, hl, w0, w1, k⟩ := h
  refine ⟨_, (pss_one (ps_ret (pe_ix ix_list (pv 1) (pe_c (c_draw T) hr (by omega) rfl (pa_cons (pv 0) (pa_cons (pe_callB call_len rfl T.n_len boot_len (pa_cons (pv 1) pa_nil)) pa_nil))) (fun _ _ => rfl)))), ?_⟩
  refine ⟨_, rfl, _, rfl, _, rfl, _, _, rfl, .inl ⟨_, SqL.of hl, rfl⟩, a, c, _, _, rfl, S, (by rw [List.length_map]; omega), (by rw [List.length_map]; omega), fun r H1 r0 r1 sb S1 => ?_⟩
  obtain ⟨i, v, _, hv, e⟩ := atI_in (xs := ws.map V.str) r0 r1
  obtain ⟨y, hy, rfl⟩ := map_at hv
  exact ⟨l, _, _, _, rfl, rfl, SqL.of (sb _ _ (S.ne hl) hl), e, k y H1 (List.mem_of_getElem? hy) sb S1⟩
def spWriting : Sp := fun vs H Q _ => ∃ (a c : Addr) (room : Int), vs = [.ref a] ∧ Src H a c room ∧ ∀ (o : Opts) (l : Addr) (H' : Hp), OOk o → H l = none → H' l = some (.lst ((optsL o).map V.str)) → SB a H H' → Src H' a c room → Q (.ref l) H'
theorem scWriting : FnScope ["_law_source_here", "_law_options"] ["_law_source_here"] (defScope (top 47)) := ⟨rfl, rfl, rfl, by decide +kernel, rfl, by decide +kernel, by decide +kernel⟩
theorem c_writing (T : Txt K mg) : Cal P w K mg base 4 "_law_writing" spWriting [] := by
  refine T.f_writing.cal scWriting (b1 fun _ _ _ _ _ _ _ => rfl) (fun vs H Q E h => ?_) (fun f cdv A outer s H vs Q E hr h => ?_)
  · obtain ⟨a, c, room, rfl, _⟩ := h
    rfl
  obtain ⟨a, c, room, rfl, S, k⟩ := h
  refine ⟨_, (pss_cons (ps_set (i := 1) scWriting.nd rfl (Or.inl rfl) (pe_lst (pa_cons (pe_c (c_pick T) hr (by omega) rfl (pa_cons (pv 0) (pa_cons (pe_lst (pa_cons pe_str (pa_cons pe_str (pa_cons pe_str pa_nil)))) pa_nil))) (pa_cons (pe_c (c_pick T) hr (by omega) rfl (pa_cons (pv 0) (pa_cons (pe_lst (pa_cons pe_str (pa_cons pe_str pa_nil))) pa_nil))) pa_nil))))
      (pss_cons (ps_expr (pe_bm PySem.F.plainAttrs_list PySem.F.slot_list_append PySem.F.type_list_append mt_append (pv 1) (pa_cons (pe_c (c_pick T) hr (by omega) rfl (pa_cons (pv 0) (pa_cons (pe_lst (pa_cons pe_str (pa_cons pe_str pa_nil))) pa_nil))) pa_nil)))
      (pss_cons (ps_expr (pe_bm PySem.F.plainAttrs_list PySem.F.slot_list_append PySem.F.type_list_append mt_append (pv 1) (pa_cons (pe_c (c_pick T) hr (by omega) rfl (pa_cons (pv 0) (pa_cons (pe_lst (pa_cons pe_str (pa_cons pe_str pa_nil))) pa_nil))) pa_nil)))
      (pss_cons (ps_expr (pe_bm PySem.F.plainAttrs_list PySem.F.slot_list_append PySem.F.type_list_append mt_append (pv 1) (pa_cons (pe_c (c_pick T) hr (by omega) rfl (pa_cons (pv 0) (pa_cons (pe_lst (pa_cons pe_str (pa_cons pe_str pa_nil))) pa_nil))) pa_nil)))
      (pss_cons (ps_expr (pe_bm PySem.F.plainAttrs_list PySem.F.slot_list_append PySem.F.type_list_append mt_append (pv 1) (pa_cons (pe_c (c_pick T) hr (by omega) rfl (pa_cons (pv 0) (pa_cons (pe_lst (pa_cons pe_str (pa_cons pe_str (pa_cons pe_str pa_nil)))) pa_nil))) pa_nil)))
      (pss_one (ps_ret (pv 1)))))))), ?_⟩
  refine ⟨_, rfl, (by show 3 ≤ sizeLine; decide), fun p1 e1 => ⟨a, c, room, p1, ["text", "skip", "refuse"], rfl, S.keep (same_put e1 _), upd_same, (by decide), (by decide), fun y1 H1 m1 sb1 S1 => ?_⟩⟩
  refine ⟨_, rfl, (by show 2 ≤ sizeLine; decide), fun p2 e2 => ⟨a, c, room, p2, ["list", "refuse"], rfl, S1.keep (same_put e2 _), upd_same, (by decide), (by decide), fun y2 H2 m2 sb2 S2 => ?_⟩⟩
  refine ⟨(by show 2 ≤ sizeLine; decide), fun l hl => ?_⟩
  have b2 : SB a H H2 := (SB.of (same_put e1 _)).trans (sb1.trans ((SB.of (same_put e2 _)).trans sb2))
  have S3 := S2.keep (same_put hl (.lst [.str y1, .str y2]))
  have la : l ≠ a := S3.ne upd_same
  have lc : l ≠ c := by
    obtain ⟨n9, p9, q9, r9, l9, e9, f9, g9⟩ := S2
    exact (ne_of_none f9 hl).symm
  have l0 : H l = none := b2.free S2.there hl
  have step : ∀ {H3 H4 : Hp} {xs : List V} {p : Addr} {o : HO}, SB a H H3 → H3 p = none → SB a (upd H3 p o) H4 → SB a H (upd H4 l (.lst xs)) := fun x1 x2 x3 b u nb q => by
    rw [upd_ne (ne_of_none q l0)]
    exact x3 b u nb (same_put x2 _ b u (x1 b u nb q))
  have keepS : ∀ {H4 : Hp} {xs : List V}, Src H4 a c room → Src (upd H4 l (.lst xs)) a c room := fun S => by
    obtain ⟨ns, q1, q2, q3, q4, f0, f1, f2⟩ := S
    exact ⟨ns, q1, q2, q3, q4, by rw [upd_ne (Ne.symm la)]; exact f0, by rw [upd_ne (Ne.symm lc)]; exact f1, f2⟩
  have b3 : SB a H (upd H2 l (.lst [.str y1, .str y2])) := b2.trans (SB.of (same_put hl _))
  refine ⟨_, rfl, .inl ⟨rfl, _, SqL.of upd_same⟩, _, rfl, (by show 2 ≤ sizeLine; decide), fun p3 e3 => ⟨a, c, room, p3, ["keep", "skip"], rfl, S3.keep (same_put e3 _), upd_same, (by decide), (by decide), fun y3 H3 m3 sb3 S3' => ?_⟩⟩
  have h3 := sb3 l _ la (same_put e3 _ _ _ upd_same)
  refine ⟨l, _, _, rfl, rfl, h3, (by show 2 < sizeLine; decide), ?_⟩
  have b4 := step (xs := [.str y1, .str y2, .str y3]) b3 e3 sb3
  have S4 := keepS (xs := [.str y1, .str y2, .str y3]) S3'
  refine ⟨_, rfl, .inl ⟨rfl, _, SqL.of upd_same⟩, _, rfl, (by show 2 ≤ sizeLine; decide), fun p4 e4 => ⟨a, c, room, p4, ["keep", "refuse"], rfl, S4.keep (same_put e4 _), upd_same, (by decide), (by decide), fun y4 H4 m4 sb4 S4' => ?_⟩⟩
  have h4 := sb4 l _ la (same_put e4 _ _ _ upd_same)
  refine ⟨l, _, _, rfl, rfl, h4, (by show 3 < sizeLine; decide), ?_⟩
  have b5 := step (xs := [.str y1, .str y2, .str y3, .str y4]) b4 e4 sb4
  have S5 := keepS (xs := [.str y1, .str y2, .str y3, .str y4]) S4'
  refine ⟨_, rfl, .inl ⟨rfl, _, SqL.of upd_same⟩, _, rfl, (by show 2 ≤ sizeLine; decide), fun p5 e5 => ⟨a, c, room, p5, ["keep", "rising"], rfl, S5.keep (same_put e5 _), upd_same, (by decide), (by decide), fun y5 H5 m5 sb5 S5' => ?_⟩⟩
  have h5 := sb5 l _ la (same_put e5 _ _ _ upd_same)
  refine ⟨l, _, _, rfl, rfl, h5, (by show 4 < sizeLine; decide), ?_⟩
  have b6 := step (xs := [.str y1, .str y2, .str y3, .str y4, .str y5]) b5 e5 sb5
  have S6 := keepS (xs := [.str y1, .str y2, .str y3, .str y4, .str y5]) S5'
  refine ⟨_, rfl, .inl ⟨rfl, _, SqL.of upd_same⟩, _, rfl, (by show 3 ≤ sizeLine; decide), fun p6 e6 => ⟨a, c, room, p6, ["keep", "text", "refuse"], rfl, S6.keep (same_put e6 _), upd_same, (by decide), (by decide), fun y6 H6 m6 sb6 S6' => ?_⟩⟩
  have h6 := sb6 l _ la (same_put e6 _ _ _ upd_same)
  refine ⟨l, _, _, rfl, rfl, h6, (by show 5 < sizeLine; decide), ?_⟩
  have b7 := step (xs := [.str y1, .str y2, .str y3, .str y4, .str y5, .str y6]) b6 e6 sb6
  have S7 := keepS (xs := [.str y1, .str y2, .str y3, .str y4, .str y5, .str y6]) S6'
  exact ⟨_, rfl, k ⟨y1, y2, y3, y4, y5, y6⟩ l _ (.cons m1 (.cons m2 (.cons m3 (.cons m4 (.cons m5 (.cons m6 .nil)))))) l0 upd_same b7 S7⟩
end
section
variable {P : Program} {w : World} {K : PySem.W.Frag} {mg : Str → Option Value} {base : Heap}
def spCheck (K : PySem.W.Frag) : Sp := fun vs H Q _ => ∃ (g : Addr) (o : Opts), vs = [.ref (He.ga K "WRITER_OPTIONS"), .ref g] ∧ H g = some (.tup ((optsL o).map V.str)) ∧ OOk o ∧ ∀ H', Same H H' → Q .non H'
theorem scCheck : FnScope ["options", "given", "name", "allowed", "value"] ["options", "given"] (defScope (top 29)) := ⟨rfl, rfl, rfl, by decide +kernel, rfl, by decide +kernel, by decide +kernel⟩
theorem strs_flat (ws : List Str) : (ws.map V.str).all flatV = true := by
  rw [List.all_map, List.all_eq_true]
  exact fun _ _ => rfl
theorem in_strs {y : Str} {ws : List Str} (h : y ∈ ws) : inV (.str y) (ws.map V.str) = true := by
  have e : ws.map V.str = (ws.map Sum.inr).map kV := by rw [List.map_map]; rfl
  rw [e]
  exact inV_key (k := .inr y).mpr (List.mem_map.mpr ⟨y, h, rfl⟩)
theorem c_check (T : Txt2 K mg) : Cal P w K mg base 1 "check_options" (spCheck K) [] := by
  refine T.f_check_options.cal scCheck (b2 fun _ _ _ _ _ _ _ _ => rfl) (fun vs H Q E h => ?_) (fun f cdv A outer s H vs Q E hr h => ?_)
  · obtain ⟨g, o, rfl, _⟩ := h
    rfl
  obtain ⟨g, o, rfl, hg, ok, k⟩ := h
  refine ⟨_, (pss_one (ps_for PassesOwn.never rfl (RZ.pi_zipA (by rfl) T.n_zip (pa_cons (pv 0) (pa_cons (pv 1) pa_nil))) (pg_tup rfl (pgs_cons (pg_tup rfl (pgs_cons (pg_name (i := 2) scCheck.nd rfl (Or.inl rfl)) (pgs_cons (pg_name (i := 3) scCheck.nd rfl (Or.inl rfl)) pgs_nil))) (pgs_cons (pg_name (i := 4) scCheck.nd rfl (Or.inl rfl)) pgs_nil)))
      (pss_one (ps_if (pt_cmpR op_notIn_seq (pv 4) (pv 3) (by rfl))
        (pss_one ps_never)
        pss_nil)))), ?_⟩
  obtain ⟨os, hT, pr⟩ := T.w_opts
  have l6 : os.length = 6 := pr.length.symm
  refine ⟨_, rfl, _, rfl, _, _, _, _, rfl, .inr ⟨hT.sq _, SqT.of hg, ?_⟩⟩
  refine for_gen (n := 6) (fun i σ H' => ∃ (v2 v3 v4 : Option V), σ = [some (.ref (He.ga K "WRITER_OPTIONS")), some (.ref g), v2, v3, v4] ∧ Same H H') ⟨_, _, _, rfl, Same.refl H⟩ ?_ ?_ ?_ ?_
  · rintro i σ H' hi ⟨v2, v3, v4, rfl, sm⟩
    have h1 : i < (os.map fun q => V.ref q.1).length := by rw [List.length_map, l6]; exact hi
    have h2 : i < ((optsL o).map V.str).length := hi
    exact ⟨_, _, _, _, hT.sq _, SqT.of (sm _ _ hg), List.getElem?_eq_getElem h1, List.getElem?_eq_getElem h2⟩
  · rintro σ H' ⟨v2, v3, v4, rfl, sm⟩
    exact ⟨_, _, hT.sq _, SqT.of (sm _ _ hg), .inr (Nat.le_refl _)⟩
  · rintro i σ H1 x H2 hi ⟨v2, v3, v4, rfl, sm⟩ ⟨t, x1, y1, rfl, ht, rfl, e1, e2⟩
    have e1 := e1 _ (hT.sq _)
    have e2 := e2 _ (SqT.of (sm _ _ hg))
    obtain ⟨q, hq, rfl⟩ := map_at e1
    obtain ⟨y, hy, rfl⟩ := map_at e2
    obtain ⟨e, he, ⟨p1, p2⟩, _⟩ := paired_at pr hq
    obtain ⟨e', he', hin, _⟩ := paired_at ok hy
    rw [he] at he'
    cases he'
    refine ⟨t, _, rfl, SqT.of upd_same, rfl, _, _, rfl, ⟨q.1, _, rfl, p1.sq _, rfl, _, _, rfl, _, _, rfl, rfl, ?_⟩⟩
    refine ⟨_, _, rfl, rfl, _, rfl, _, rfl, q.2, _, rfl, .inr (p2.sq _), rfl, strs_flat _, _, rfl, ?_⟩
    rw [in_strs hin]
    exact iteF ⟨_, _, _, rfl, sm.trans (same_put ht _)⟩
  · rintro σ H' ⟨v2, v3, v4, rfl, sm⟩
    exact k H' sm
/-! ### Writer -/
def spWInit (K : PySem.W.Frag) : Sp := fun vs H Q _ => ∃ (x dx : Addr) (o : Opts), vs = [.ref x, .str o.nk, .str o.tp, .str o.nu, .str o.dk, .str o.od, .str o.ln] ∧ H x = some (.ins (WC K) dx []) ∧ OOk o ∧
  ∀ H', (∀ b u, b ≠ x → H b = some u → H' b = some u) → H' x = some (.ins (WC K) dx (wF o)) → Q .non H'
theorem scWInit : FnScope ["self", "number_keys", "tuples", "nulls", "double_keys", "order", "long_numbers"] ["self", "number_keys", "tuples", "nulls", "double_keys", "order", "long_numbers"] (defScope (inClass (top 30) 1)) := ⟨rfl, rfl, rfl, by decide +kernel, rfl, by decide +kernel, by decide +kernel⟩
def spWriter (K : PySem.W.Frag) : Sp := fun vs H Q _ => ∃ (l : Addr) (o : Opts), vs = [.ref l] ∧ H l = some (.lst ((optsL o).map V.str)) ∧ OOk o ∧ ∀ (x dx : Addr) (H' : Hp), Same H H' → H x = none → H' x = some (.ins (WC K) dx (wF o)) → Q (.ref x) H'
theorem scWriter : FnScope ["_law_o"] ["_law_o"] (defScope (top 48)) := ⟨rfl, rfl, rfl, by decide +kernel, rfl, by decide +kernel, by decide +kernel⟩
theorem c_writer (T : Txt2 K mg) : Cal P w K mg base 4 "_law_writer" (spWriter K) [] := by
  refine T.f_writer.cal scWriter (b1 fun _ _ _ _ _ _ _ => rfl) (fun vs H Q E h => ?_) (fun f cdv A outer s H vs Q E hr h => ?_)
  · obtain ⟨l, o, rfl, _⟩ := h
    rfl
  obtain ⟨l, o, rfl, hl, ok, k⟩ := h
  have M := T.i_Writer.made
  obtain ⟨fd, FD⟩ := T.i_Writer.fd
  obtain ⟨mv, hb⟩ := FD.kbinds0 (ps := ["self", "number_keys", "tuples", "nulls", "double_keys", "order", "long_numbers"]) 1 ["number_keys", "tuples", "nulls", "double_keys", "order", "long_numbers"] [] (fun us _ ws => us ++ ws) (by decide +kernel) (fun _ h => by cases h) (fun r1 _ r3 => r1.append r3)
    (fun D doc pm an cdv ct us mv ws h1 h2 h3 => match us, mv, ws, h1, h2, h3 with | [a], [], [w1, w2, w3, w4, w5, w6], _, _, _ => rfl)
  have F : FnOk P w K mg base L2.CX0 2 (He.ma K (He.ga K "Writer") "__init__") fd ["self", "number_keys", "tuples", "nulls", "double_keys", "order", "long_numbers"] (spWInit K) := by
    refine FD.ok scWInit (fun vs H Q E h => ?_) (fun cdv A outer s H vs Q E hr h => ?_)
    · obtain ⟨x, dx, o, rfl, _⟩ := h
      rfl
    obtain ⟨x, dx, o, rfl, hx, ok, k⟩ := h
    refine ⟨_, PSs.nox (pss_cons (ps_expr (pe_c (c_check T) hr (by omega) rfl (pa_cons (pe_glob (v := .ref (He.ga K "WRITER_OPTIONS")) rfl T.g_WRITER_OPTIONS rfl) (pa_cons (pe_tup (pa_cons (pv 1) (pa_cons (pv 2) (pa_cons (pv 3) (pa_cons (pv 4) (pa_cons (pv 5) (pa_cons (pv 6) pa_nil))))))) pa_nil))))
      (pss_cons (ps_fld (pv 0) (pv 1) rfl)
      (pss_cons (ps_fld (pv 0) (pv 2) rfl)
      (pss_cons (ps_fld (pv 0) (pv 3) rfl)
      (pss_cons (ps_fld (pv 0) (pv 4) rfl)
      (pss_cons (ps_fld (pv 0) (pv 5) rfl)
      (pss_one (ps_fld (pv 0) (pv 6) rfl)))))))), ?_⟩
    refine ⟨_, rfl, _, rfl, _, rfl, _, rfl, _, rfl, _, rfl, (by show 6 ≤ sizeLine; decide), fun p hp => ⟨p, o, rfl, upd_same, ok, fun H1 s1 => ?_⟩⟩
    have hx1 := s1 _ _ (same_put hp _ _ _ hx)
    have cl := T.y_Writer.cl
    have na := fun f h => T.na_Writer f h
    refine ⟨_, rfl, _, rfl, x, _, _, _, rfl, hx1, cl, na _ (by decide), (by show 0 < 1000; decide), ?_⟩
    refine ⟨_, rfl, _, rfl, x, _, _, _, rfl, upd_same, cl, na _ (by decide), (by show 1 < 1000; decide), ?_⟩
    refine ⟨_, rfl, _, rfl, x, _, _, _, rfl, upd_same, cl, na _ (by decide), (by show 2 < 1000; decide), ?_⟩
    refine ⟨_, rfl, _, rfl, x, _, _, _, rfl, upd_same, cl, na _ (by decide), (by show 3 < 1000; decide), ?_⟩
    refine ⟨_, rfl, _, rfl, x, _, _, _, rfl, upd_same, cl, na _ (by decide), (by show 4 < 1000; decide), ?_⟩
    refine ⟨_, rfl, _, rfl, x, _, _, _, rfl, upd_same, cl, na _ (by decide), (by show 5 < 1000; decide), ?_⟩
    rw [upd_upd, upd_upd, upd_upd, upd_upd, upd_upd]
    refine k _ (fun b u hb e => ?_) upd_same
    rw [upd_ne hb]
    exact s1 _ _ (same_put hp _ _ _ e)
  refine ⟨_, (pss_one (ps_ret (pe_makeK0 M F hr rfl T.g_Writer hb L2.pass0 (pk_cons (pe_ix ix_list (pv 0) pe_int (fun _ _ => rfl)) (pk_cons (pe_ix ix_list (pv 0) pe_int (fun _ _ => rfl)) (pk_cons (pe_ix ix_list (pv 0) pe_int (fun _ _ => rfl)) (pk_cons (pe_ix ix_list (pv 0) pe_int (fun _ _ => rfl)) (pk_cons (pe_ix ix_list (pv 0) pe_int (fun _ _ => rfl)) (pk_cons (pe_ix ix_list (pv 0) pe_int (fun _ _ => rfl)) pk_nil))))))))), ?_⟩
  refine ⟨_, rfl, l, _, _, _, rfl, rfl, SqL.of hl, rfl, _, rfl, l, _, _, _, rfl, rfl, SqL.of hl, rfl, _, rfl, l, _, _, _, rfl, rfl, SqL.of hl, rfl, _, rfl, l, _, _, _, rfl, rfl, SqL.of hl, rfl, _, rfl, l, _, _, _, rfl, rfl, SqL.of hl, rfl, _, rfl, l, _, _, _, rfl, rfl, SqL.of hl, rfl, ?_⟩
  refine ⟨rfl, rfl, fun x dx hx hdx ne => ⟨x, dx, o, rfl, upd_same, ok, fun H' fr hx' => ⟨rfl, k x dx H' (fun b u e => ?_) hx hx'⟩⟩⟩
  have bx : b ≠ x := ne_of_none e hx
  refine fr b u bx ?_
  rw [upd_ne bx]
  exact same_put hdx _ _ _ e
end
end K25
set_option Elab.async false
set_option linter.all false
set_option maxRecDepth 100000
set_option maxHeartbeats 4000000
/-! OWN RULES: a list comprehension whose element may let an exception out. -/
namespace K25
open PySem PySem.Spec PyProof.Rows L2
section
variable {X : Cx} {pins : List (Addr × Obj)} {σ σ' : L2.St} {H3 H : Hp} {s3 s : Shared} {W : WX} {E' : XK}
/-- an exception out of a call in a comprehension's element: noted, the block let go, in the def's air -/
theorem blk_air {scope : Scope} {ce : Env} {fp : List Addr} {xe : Value → Shared → Prop} {pb : List (Addr × Obj)} (hstk : X.stack = X.env :: X.outer) (hf : X.env.frame = some X.env.locals) (tk : Takes X W) (hW : ∀ cls d σ H, E' cls d H → W cls d σ H)
    (I3 : Inv X pins σ H3 s3) (f3 : ∀ b ∈ fp, FpOk X pins H3 b) (cL : ce.locals = s3.heap.objs.size) (cF : ce.frame = X.env.frame)
    (I : Inv ({ X.blk s3 H3 scope ce fp with xe := xe }) pb σ' H s) {u : Value} {s' : Shared} (c : CX X.prog X.w X.stack H s E' u s') :
    notedBy (model X.prog X.w) X.A ce (CompFails (model X.prog X.w) X.A X.xe ce) u s' := by
  obtain ⟨a, B, H', cls, d, rfl, fl, hokB, ub, na, os, ag, hE⟩ := c
  have hfr : X.A.frames = some (X.env :: X.outer) := by rw [I3.ok.frames, hstk]
  have ibase : Un (frs X.stack) fp H3 H s3.heap s.heap := I.base
  have ifree : H ce.locals = none := I.free
  obtain ⟨mC, hC, _⟩ := I.loc
  have hC : s.heap.Ns ce.locals mC := hC
  obtain ⟨oC, esC, epC, eC, dC, rC⟩ := id hC
  have Cfr : ce.locals ∉ frs X.stack := fun hm => by
    obtain ⟨_, o, e, _⟩ := I3.stack.mem hm
    have := Heap.lt_size e
    rw [cL] at this
    exact Nat.lt_irrefl _ this
  have nC : ∀ {b : Addr} {o : Obj}, s3.heap.get? b = some o → b ≠ ce.locals := fun {b o} e z => by
    have := Heap.lt_size e
    rw [z, cL] at this
    exact Nat.lt_irrefl _ this
  have hC' : H' ce.locals = none := ub.free _ _ eC ifree
  have BC : B.get? ce.locals = some oC := ub.keep _ _ eC ifree Cfr
  have sC : s'.heap.get? ce.locals = some oC := fl.1 _ _ BC
  have nsC : s'.heap.Ns ce.locals mC := ⟨oC, esC, epC, sC, dC, rC⟩
  -- the ground without the block's names
  obtain ⟨B', g1, g2⟩ := restrict B fun b => decide (b ≠ ce.locals)
  have gk : ∀ b, b ≠ ce.locals → B'.get? b = B.get? b := fun b hb => g1 b (decide_eq_true hb)
  have gC : B'.get? ce.locals = none := g2 _ (by simp)
  have sub : ∀ b o, B'.get? b = some o → B.get? b = some o := fun b o e => by
    rw [← gk b (fun z => by rw [z, gC] at e; cases e)]
    exact e
  have frN : ∀ L ∈ frs X.stack, B.get? L = none := fun L hL => (fl.2.2.1.mem hL).1
  obtain ⟨fl1, fl2, fl3, oe, vs, T, oT, ts, he, hz, hd, h1, hnT, hTe, hT, hdT, h3⟩ := fl
  have aC : a ≠ ce.locals := fun z => by
    rw [z, sC] at he
    cases he
    rw [dC] at hd
    cases hd
  have n' : ∀ b, B.get? b = none → B'.get? b = none := fun b e => by
    cases q : B'.get? b with
    | none => rfl
    | some o => rw [sub b o q] at e; cases e
  have fl' : HandSPX.FlyingZ B' (X.env :: X.outer) a (Zc cls d) s'.heap := ⟨fun b o e => fl1 b o (sub b o e), n' a fl2, by rw [← hstk]; exact funFrames_none fl3 fun L hL => n' L (frN L hL), oe, vs, T, oT, ts, he, hz, hd, h1, n' T hnT, hTe, hT, hdT, h3⟩
  show wpAny _ X.A (noteFrame (.ref a) ce) _ _ s'
  rw [noteFrame_env _ cF]
  refine HandSPX.looks_onZ Zc.steady hfr hf fl' fun h4 hh up4 => ?_
  have ns4 : h4.Ns ce.locals mC := nsC.upToSlots up4
  refine ⟨mC, ns4, fun h5 m5 ns5 sb5 => ?_⟩
  obtain ⟨q1, q2, q3, oe4, vs4, T4, oT4, ts4, he4, hz4, hd4, h14, hnT4, hTe4, hT4, hdT4, h34⟩ := hh
  obtain ⟨oC4, esC4, epC4, eC4, dC4, _⟩ := ns4
  have ne4 : ∀ {b : Addr} {o : Obj} {vs : Array Value}, h4.get? b = some o → o.data = .fields vs → b ≠ ce.locals := fun {b o vs} e dd z => by
    rw [z, eC4] at e
    cases e
    rw [dC4] at dd
    cases dd
  have hh5 : HandSPX.HeldZ B' (X.env :: X.outer) a (Zc cls d) X.env.locals h5 := by
    refine ⟨fun b o e => ?_, q2, Heap.FunFrames.sameBut sb5 ns5 q3, oe4, vs4, T4, oT4, ts4, ?_, hz4, hd4, h14, hnT4, hTe4, ?_, hdT4, h34⟩
    · have hb : b ≠ ce.locals := fun z => by rw [z, gC] at e; cases e
      rw [sb5.2 b hb]
      exact q1 b o e
    · rw [sb5.2 a (ne4 he4 hd4)]
      exact he4
    · rw [sb5.2 T4 (ne4 hT4 hdT4)]
      exact hT4
  unfold PySem.passOn
  have he5 : h5.get? a = some oe4 := by rw [sb5.2 a (ne4 he4 hd4)]; exact he4
  refine wpAny_bind (wpAny_field he5 hd4 h14 ?_)
  rw [if_neg (show ¬ ((Value.ref T4 == Value.none) = true) from by simp)]
  rw [cF, hf]
  have fin : wpAny (model X.prog X.w) X.A (setFlight (.ref a) (some X.env.locals)) (fun _ s6 => wpAny (model X.prog X.w) X.A (throw (.ref a) : Sem Value) (fun _ _ => False) X.xe s6) X.xe { s' with heap := h5 } := by
    refine HandSPX.setFlight_onZ hh5 fun h6 hh6 up6 => wpAny_throw (tk _ _ ?_)
    -- the state without the exception
    obtain ⟨G, k1, k2⟩ := restrict s'.heap fun b => (B'.get? b).isSome || decide (b ∈ frs X.stack)
    have gB : ∀ b o, B'.get? b = some o → G.get? b = some o := fun b o e => by
      rw [k1 b (by simp [e])]
      exact fl1 b o (sub b o e)
    have gF : ∀ b, b ∈ frs X.stack → G.get? b = s'.heap.get? b := fun b hb => k1 b (by simp [hb])
    have og : ∀ b o, G.get? b = some o → s'.heap.get? b = some o ∧ ((B'.get? b).isSome = true ∨ b ∈ frs X.stack) := fun b o e => by
      cases q : ((B'.get? b).isSome || decide (b ∈ frs X.stack)) with
      | false => rw [k2 b q] at e; cases e
      | true =>
        rw [k1 b q] at e
        exact ⟨e, by simpa [Bool.or_eq_true] using q⟩
    have GC : ∀ b o, G.get? b = some o → b ≠ ce.locals := fun b o e z => by
      rcases (og b o e).2 with q | q
      · rw [z, gC] at q
        cases q
      · exact Cfr (z ▸ q)
    have hok' : HOk X.prog X.w H' B' := fun b o q => (hokB b o q).stay (fun c v hc r => by
        rw [gk c (fun z => by
          rcases hc with hc | hc
          · rw [← hc, z, hC'] at q; cases q
          · rw [z, hC'] at hc; cases hc)]
        exact r) (fun _ r => r) fun _ _ r => r
    have un : Un (frs X.stack) fp H3 H' s3.heap G := {
      keep := fun b o e n hf hx => gB b o (by rw [gk b (nC e)]; exact ub.keep b o (ibase.keep b o e n hf hx) (ibase.free b o e n hx) hf)
      slot := fun b o e n hf hx => by
        obtain ⟨sl, e1⟩ := ibase.slot b o e n hf hx
        obtain ⟨sl2, e2⟩ := ub.slot b _ e1 hf
        exact ⟨sl2, by rw [gF b hf]; exact e2⟩
      free := fun b o e n hx => by
        obtain ⟨o', e1⟩ := ibase.there b o e hx
        exact ub.free b o' e1 (ibase.free b o e n hx)
      there := fun b o e hx => by
        obtain ⟨o', e1⟩ := ibase.there b o e hx
        by_cases hb : b ∈ frs X.stack
        · obtain ⟨sl, e2⟩ := ub.slot b o' e1 hb
          exact ⟨_, by rw [gF b hb]; exact e2⟩
        · obtain ⟨o2, e2⟩ := ub.there b o' e1 hb
          exact ⟨o2, gB b o2 (by rw [gk b (nC e)]; exact e2)⟩
      tups := fun b xs e => ub.tups b xs (ibase.tups b xs e)
      frzs := fun b o x e => ub.frzs b o x (ibase.frzs b o x e)
      tbls := fun b ps e => by
        obtain ⟨m1, e1⟩ := ibase.tbls b ps e
        obtain ⟨m2, e2⟩ := ub.tbls b _ e1
        exact ⟨m1 ++ m2, by rw [e2, Array.append_assoc]⟩ }
    have J : Inv X pins σ H' ({ s3 with heap := G, gens := s'.gens, drawn := s'.drawn, toks := s'.toks } : Shared) :=
      I3.call' (ch := fp) rfl un (hok'.kept gB) ag fun b hb => ⟨(f3 b hb).2.2.2.1, (f3 b hb).2.1, (f3 b hb).2.2.2.2.1, (f3 b hb).2.2.2.2.2⟩
    refine ⟨a, B', _, pins, σ, H', cls, d, rfl, J, fun b o e hb => ?_, ?_, .inr (.inr (by rw [hstk]; exact hh6)), na, ?_, ag, hW _ _ _ _ hE⟩
    · obtain ⟨e', h⟩ := og b o e
      rcases h with h | h
      · obtain ⟨o', q⟩ := Option.isSome_iff_exists.mp h
        have z := fl1 b o' (sub b o' q)
        rw [e'] at z
        cases z
        exact q
      · exact absurd h hb
    · intro b o e hnf
      obtain ⟨sl, e1⟩ := up4 b o (og b o e).1 hnf
      have e2 : h5.get? b = some { o with slots := sl } := by
        rw [sb5.2 b (GC b o e)]
        exact e1
      obtain ⟨sl2, e3⟩ := up6 b _ e2 hnf
      exact ⟨sl2, e3⟩
    · show s'.os = s3.os
      rw [os]
      exact I.os
  first
    | exact wpAny_bind fin
    | exact wpAny_bind (wpAny_pure (wpAny_bind fin))
end
end K25
set_option Elab.async false
set_option linter.all false
set_option maxRecDepth 100000
set_option maxHeartbeats 4000000
/-! OWN RULES: [elt for target in iter], elt may let an exception out. -/
namespace K25
open PySem PySem.Spec PyProof.Rows L2
section
variable {X : Cx} {W : WX} {E' : XK}
theorem pe_lcR {elt tg iter : Expr} {scope : Scope} {own : List (Str × Nat)} {pos : Pos} {wi : TI} {g : TG} {te : TE} (hstk : X.stack = X.env :: X.outer) (hf : X.env.frame = some X.env.locals) (tk : Takes X W) (hW : ∀ cls d σ H, E' cls d H → W cls d σ H)
    (hc : X.calm = true) (hN : X.N.Nodup) (hi : PI X tg iter wi) (ok : BlkOk X.N X.env.scope scope own)
    (hg : ∀ (s : Shared) (H : Hp) (C : Addr) (cl : List (Str × Addr)) (fp : List Addr), PG (X.blk s H scope (compEnvC scope cl C X.env) fp) tg g)
    (he : ∀ (s : Shared) (H : Hp) (C : Addr) (cl : List (Str × Addr)) (fp : List Addr) (xe : Value → Shared → Prop), Passes (CX X.prog X.w) ({ X.blk s H scope (compEnvC scope cl C X.env) fp with xe := xe }) E' → PE ({ X.blk s H scope (compEnvC scope cl C X.env) fp with xe := xe }) elt te)
    (hs : ∀ x, foldedSetIterable iter X.env x = pure x := by intro _; rfl) :
    PE X (.ListComp elt [⟨tg, iter, [], 0⟩] scope pos) (tLc wi g tYes te (own.map (·.2))) := by
  refine ⟨fun pins s σ H Q I h => ?_⟩
  rw [eval_ListComp]
  have hfree : ∀ y ∈ scope.names, y.2 = .free → ∃ c, X.env.cells.lookup y.1 = some c := fun y hy e => by
    rcases ok.free y hy e with k | k
    · exact I.ok.has _ (.inl k)
    · exact I.ok.has _ (.inr k)
  refine comprehension_at (use := none) rfl hs (closure_ok hfree) ok.kind (fun y hy e => by rw [ok.uniq y hy, e])
    (thn (hi.run pins s σ H _ I h) fun xv s1 hx => thn hx fun itv s2 h2 => ?_)
  obtain ⟨it, fp, tn, J, H2, e, I2, T, st2, f2, q⟩ := h2
  subst e
  refine wpAny_newObj_type (newEnv_comp ?_) (by show 0 ≤ sizeLine; decide)
  generalize hD : s2.heap.objs.size = D
  have hDn : H2 D = none := I2.hok.fresh (Nat.le_of_eq hD)
  obtain ⟨Wm, ⟨m0, w0⟩, turn⟩ := q D hDn
  generalize hs3 : ({ s2 with heap := s2.heap.push { cls := .type "list", data := .seq ([] : List Value).toArray } } : Shared) = s3
  have I3 : Inv X pins σ (upd H2 D (.lst [])) s3 := by
    rw [← hs3]
    refine I2.laid (t' := s2.toks) (fun b o e => Heap.get?_push_of_some _ e) (Nat.le_of_eq hD) ⟨Nat.zero_le _, [], 0, .nil, ?_⟩
    rw [← hD]
    exact Heap.get?_push_size _ rfl
  have h3 : s3.heap = s2.heap.push { cls := .type "list", data := .seq ([] : List Value).toArray } := by rw [← hs3]
  have sz : ∀ b ∈ fp, b < s2.heap.objs.size := fun b hb => by
    obtain ⟨o, e, _⟩ := T.obj _ _ st2 b hb
    exact Heap.lt_size e
  have f3 : ∀ b ∈ fp, FpOk X pins (upd H2 D (.lst [])) b ∧ b < s3.heap.objs.size := fun b hb => by
    have hlt := sz b hb
    refine ⟨⟨?_, (f2 b hb).2⟩, by rw [h3, Heap.size_push]; exact Nat.lt_succ_of_lt hlt⟩
    rw [upd_ne (by rw [← hD]; exact Nat.ne_of_lt hlt)]
    exact (f2 b hb).1
  have st3 : tn 0 s3.heap := T.keep _ _ _ st2 fun b _ o e => by rw [h3]; exact Heap.get?_push_of_some _ e
  have I4 := block_start I3 ok hN f3
  have pg := hg s3 (upd H2 D (.lst [])) s3.heap.objs.size (cellsFrom (s3.heap.objs.size + 1) scope.names (cloFrom X.env.cells scope.names [])) fp
  have pe := he s3 (upd H2 D (.lst [])) s3.heap.objs.size (cellsFrom (s3.heap.objs.size + 1) scope.names (cloFrom X.env.cells scope.names [])) fp
  show codeAny _ _ (.compStart (.ListComp elt [⟨tg, iter, [], 0⟩] scope pos) 0 (.ref it) (.ref D) (compEnvC scope (cellsFrom (s3.heap.objs.size + 1) scope.names (cloFrom X.env.cells scope.names [])) s3.heap.objs.size X.env))
    (compEnds (model X.prog X.w) X.A X.xe none _ (.ref D) (compEnvC scope (cellsFrom (s3.heap.objs.size + 1) scope.names (cloFrom X.env.cells scope.names [])) s3.heap.objs.size X.env)) { s3 with heap := pushCells (s3.heap.push { cls := .type "dict", data := .dict #[] }) scope.names }
  have nfp : ∀ b ∈ fp, (upd H2 D (.lst [])) b = none := fun b hb => (f3 b hb).1.1
  generalize hce : compEnvC scope (cellsFrom (s3.heap.objs.size + 1) scope.names (cloFrom X.env.cells scope.names [])) s3.heap.objs.size X.env = ce at I4 pg pe ⊢
  have cL : ce.locals = s3.heap.objs.size := by subst hce; rfl
  have cF : ce.frame = X.env.frame := by subst hce; rfl
  generalize hH3 : upd H2 D (.lst []) = H3 at I3 I4 pg pe w0 nfp f3
  have pe2 := pe (notedBy (model X.prog X.w) X.A ce (CompFails (model X.prog X.w) X.A X.xe ce)) fun pb σ' H' s' u s'' I' c => blk_air hstk hf tk hW I3 (fun b hb => (f3 b hb).1) cL cF I' c
  generalize hs4 : ({ s3 with heap := pushCells (s3.heap.push { cls := .type "dict", data := .dict #[] }) scope.names } : Shared) = s4 at I4 ⊢
  have st4 : tn 0 s4.heap := T.keep _ _ _ st3 fun b _ o e => by rw [← hs4]; exact pushCells_keeps _ _ _ _ (Heap.get?_push_of_some _ e)
  have stat : ∀ {σ' : L2.St} {H' : Hp} {s' : Shared}, Inv (X.blk s3 H3 scope ce fp) [] σ' H' s' → (∀ b ∈ fp, H' b = none) → ∀ b ∈ fp, FpOk (X.blk s3 H3 scope ce fp) [] H' b := fun {σ' H' s'} I' hn b hb =>
    ⟨hn b hb, (I'.ok.exf b hb).1, I'.ok.exfs b hb, .inl hb, fun x c e => (I'.ok.exf b hb).2 x c e, fun p hp => absurd (show p ∈ ([] : List (Addr × Obj)) ++ [] from hp) (by simp)⟩
  have loop : codeAny (model X.prog X.w) X.A (.compLoop (.ListComp elt [⟨tg, iter, [], 0⟩] scope pos) 0 (.ref it) (.ref D) ce) (compEnds (model X.prog X.w) X.A X.xe none (EP X pins σ Q) (.ref D) ce) s4 := by
    refine compLoop_any (fun n s' => ∃ i H', Inv (X.blk s3 H3 scope ce fp) [] (wipe σ (own.map (·.2))) H' s' ∧ tn i s'.heap ∧ (∀ b ∈ fp, H' b = none) ∧ Wm i n H') ?_ m0 ⟨0, H3, I4, st4, nfp, w0⟩
    rintro n s5 ⟨i, H5, I5, st5, n5, w5⟩
    rcases turn i n H5 w5 with ⟨stop, qq⟩ | ⟨go, Nx, hNx, step⟩
    · have td := T.done (X.blk s3 H3 scope ce fp) rfl rfl rfl hc i [] s5 _ H5 (fun _ _ => False) I5 (stat I5 n5) st5 stop
      refine thnF td fun r s6 ⟨hr, I6⟩ => ?_
      subst hr
      have I7 : Inv X pins σ H5 s6 := I3.call' (ch := fp) I6.os I6.base I6.hok I6.bare fun b hb => ⟨(f3 b hb).1.2.2.2.1, (f3 b hb).1.2.1, (f3 b hb).1.2.2.2.2.1, (f3 b hb).1.2.2.2.2.2⟩
      have nC : H5 s3.heap.objs.size = none := by
        have z : H5 ce.locals = none := I6.free
        rw [cL] at z
        exact z
      obtain ⟨m, hn, _⟩ := I6.loc
      have hn : s6.heap.Ns ce.locals m := hn
      refine ⟨m, hn, fun h'' sb => ?_⟩
      rw [cL] at sb
      obtain ⟨f0, f1, f2', f3', f4, f5⟩ := I3.fpOk (Nat.le_refl _) nC
      exact ⟨.ref D, H5, I7.turned (t' := s6.toks) (fun b o hb e => (sb.2 b hb).trans e) f0 f1 f3' f4 f5, rfl, qq⟩
    · have ti := T.item (X.blk s3 H3 scope ce fp) rfl rfl rfl hc i [] s5 _ H5 (fun _ _ => False) I5 (stat I5 n5) st5 go
      refine thnF ti fun r s6 ⟨u, hr, h6⟩ => ?_
      subst hr
      refine thnF h6 fun _ s7 ⟨x, H7, I7, r7, y7, st7, n7⟩ => ?_
      have I7' := I7.pinned (stat I7 n7) (T.obj _ _ st7)
      refine thnF (pg.run _ s7 _ H7 x u _ I7' r7 (step x H7 y7)) fun _ s8 ⟨σ8, H8, I8, hw8, q8⟩ => ?_
      have fin : ∀ {s' : Shared} {H' : Hp}, Inv (X.blk s3 H3 scope ce fp) ([] ++ pinsAt fp s7.heap) σ8 H' s' → Nx H' → ∃ m, m < n ∧ ∃ i H', Inv (X.blk s3 H3 scope ce fp) [] (wipe σ (own.map (·.2))) H' s' ∧ tn i s'.heap ∧ (∀ b ∈ fp, H' b = none) ∧ Wm i m H' := fun {s' H'} I' nx => by
        obtain ⟨m', hm, w'⟩ := hNx H' nx
        have pin' : ∀ b ∈ fp, ∀ o, s7.heap.get? b = some o → s'.heap.get? b = some o ∧ H' b = none := fun b hb o e =>
          let z := I'.pin (b, o) (List.mem_append_right _ (List.mem_append_right _ (mem_pinsAt hb e)))
          ⟨z.1, z.2.1⟩
        have hl : (wipe σ (own.map (·.2))).length = σ8.length := by rw [← hw8, wipe_length]
        refine ⟨m', hm, i + 1, H', (I'.unpinned (pins := [])).weak hl (fun j v e => ?_), T.keep _ _ _ st7 fun b hb o e => (pin' b hb o e).1, fun b hb => ?_, w'⟩
        · rw [← hw8] at e
          exact (wipe_some e).1
        · obtain ⟨o, e, _⟩ := T.obj _ _ st7 b hb
          exact (pin' b hb o e).2
      refine wpAny_tests_nil ?_
      have q9 : te σ8 H8 fun y H4 => ∃ acc, H4 D = some (.lst acc) ∧ acc.length < sizeLine ∧ Nx (upd H4 D (.lst (acc ++ [y]))) := q8
      rw [if_pos rfl]
      refine thn (pe2.run _ s8 σ8 H8 _ (I8.wish _) q9) fun z s10 ⟨yv, H10, I10, r10, acc, hD10, hz10, nx⟩ => ?_
      exact L2.app_ok (X := X.blk s3 H3 scope ce fp) (Inv.unwish (X := X.blk s3 H3 scope ce fp) (E := notedBy (model X.prog X.w) X.A ce (CompFails (model X.prog X.w) X.A X.xe ce)) I10) hD10 hz10 r10 fun s11 I11 => fin I11 nx
  exact codeAny_compStart_list loop (T.self X.A 0 _ _ _ st4 loop)
end
end K25
set_option Elab.async false
set_option linter.all false
set_option maxRecDepth 100000
set_option maxHeartbeats 4000000
/-! OWN RULES: sorted(xs, key=f), f's calls keep all but the frames' slots and give texts. -/
namespace K25
open PySem PySem.Calls PySem.W PyProof.Rows
/-- from s to s': what H tells of s holds of s', all else stands, the frames' slots apart -/
structure St1 (prog : Program) (w : World) (H : L2.Hp) (fs : List Addr) (s s' : Shared) : Prop where
  os : s'.os = s.os
  bare : AllBare s'.gens
  un : L2.Un fs [] H H s.heap s'.heap
  hok : L2.HOk prog w H s'.heap
section
variable {prog : Program} {w : World} {H : L2.Hp} {fs : List Addr} {s s' s'' : Shared}
theorem Un.comp {fs : List Addr} {H : L2.Hp} {h h1 h2 : Heap} (x : L2.Un fs [] H H h h1) (y : L2.Un fs [] H H h1 h2) : L2.Un fs [] H H h h2 where
  keep := fun b o e n f z => y.keep b o (x.keep b o e n f z) n f z
  slot := fun b o e n f z => by
    obtain ⟨sl, q⟩ := x.slot b o e n f z
    obtain ⟨sl2, q2⟩ := y.slot b _ q n f z
    exact ⟨sl2, q2⟩
  free := fun _ _ _ n _ => n
  there := fun b o e z => by
    obtain ⟨o', q⟩ := x.there b o e z
    exact y.there b o' q z
  tups := fun _ _ e => e
  frzs := fun _ _ _ e => e
  tbls := fun b ps e => ⟨#[], by rw [e]; simp⟩
theorem St1.trans (x : St1 prog w H fs s s') (y : St1 prog w H fs s' s'') : St1 prog w H fs s s'' := ⟨y.os.trans x.os, y.bare, Un.comp x.un y.un, y.hok⟩
theorem St1.refl (h : AllBare s.gens) (hk : L2.HOk prog w H s.heap) : St1 prog w H fs s s :=
  ⟨rfl, h, ⟨fun _ _ e _ _ _ => e, fun b o e _ _ _ => ⟨o.slots, e⟩, fun _ _ _ n _ => n, fun b o e _ => ⟨o, e⟩, fun _ _ e => e, fun _ _ _ e => e, fun b ps e => ⟨#[], by rw [e]; simp⟩⟩, hk⟩
/-- nothing of s is touched -/
theorem St1.heap {h : Heap} {tk : Nat} (x : St1 prog w H fs s s') (hf : ∀ b, s.heap.objs.size ≤ b → H b = none) (k : ∀ b o, b < s.heap.objs.size → s'.heap.get? b = some o → h.get? b = some o) : St1 prog w H fs s { s' with heap := h, toks := tk } := by
  refine ⟨x.os, x.bare, ⟨fun b o e n f z => k b o (Heap.lt_size e) (x.un.keep b o e n f z), fun b o e n f z => ?_, fun _ _ _ n _ => n, fun b o e z => ?_, fun _ _ e => e, fun _ _ _ e => e, fun b ps e => ⟨#[], by rw [e]; simp⟩⟩, fun b o q => ?_⟩
  · obtain ⟨sl, q⟩ := x.un.slot b o e n f z
    exact ⟨sl, k b _ (Heap.lt_size e) q⟩
  · obtain ⟨o', q⟩ := x.un.there b o e z
    exact ⟨o', k b o' (Heap.lt_size e) q⟩
  · refine (x.hok b o q).stay (fun c u hc r => k c u ?_ r) (fun _ r => r) fun _ _ r => r
    have hs : ∃ u, H c = some u := by
      rcases hc with hc | hc
      · rw [hc]
        exact ⟨_, q⟩
      · exact ⟨_, hc⟩
    obtain ⟨u, hs⟩ := hs
    refine Nat.lt_of_not_le fun z => ?_
    rw [hf c z] at hs
    cases hs
end
def KeyS (prog : Program) (w : World) (H : L2.Hp) (fs : List Addr) (k : Str) (s : Shared) (v : Value) (s' : Shared) : Prop := St1 prog w H fs s s' ∧ ∃ t, v = .str k t
theorem reads_strs (g : Heap) {l : List Value} {kz : List Str} (hk : EachIs (fun v k => ∃ t, v = Value.str k t) l kz) : EachIs (fun v k => ∃ as, Reads g v k as) l (kz.map PyData.str) := by
  induction hk with
  | nil => exact .nil
  | cons h _ ih =>
    obtain ⟨t, rfl⟩ := h
    exact .cons ⟨[], by constructor⟩ ih
section
variable {prog : Program} {w : World} {A : Around} {E : Value → Shared → Prop} {s0 s : Shared} {a kS : Addr} {vs : List Value} {e e1 : Nat} {P : PySem.Fin → Shared → Prop} {kz : List Str} {H : L2.Hp} {fs : List Addr} {f : Value}
theorem strs_alike (kz : List Str) : AllAlike (kz.map PyData.str) := fun d hd d' hd' => by
  obtain ⟨x, _, rfl⟩ := List.mem_map.mp hd
  obtain ⟨y, _, rfl⟩ := List.mem_map.mp hd'
  rfl
theorem strs_sortable (kz : List Str) : Sortable (kz.map PyData.str) := .inr fun d hd => by
  obtain ⟨x, _, rfl⟩ := List.mem_map.mp hd
  exact ⟨fun z => (nomatch z), fun xs z => (nomatch z)⟩
theorem keyS_rest (x0 : St1 prog w H fs s0 s) (hf : ∀ b, s0.heap.objs.size ≤ b → H b = none) (hkS : s0.heap.objs.size ≤ kS) (ha0 : s0.heap.objs.size ≤ a) (nk : s.heap.get? kS = some (seqObj "list" #[] 0)) (na : s.heap.get? a = some (seqObj "list" #[] e1)) (hka : kS ≠ a) (kf : kS ∉ fs) (af : a ∉ fs)
    (hlen : kz.length = vs.length) (hZ : vs.length ≤ sizeLine) (hu : A.units < cLine)
    (turn : ∀ (i : Nat) (v : Value) (k : Str), vs[i]? = some v → kz[i]? = some k → ∀ s', St1 prog w H fs s0 s' → wpAny (model prog w) A (call f [v]) (KeyS prog w H fs k s') (fun _ _ => False) s')
    (h : ∀ s' out c, St1 prog w H fs s0 s' → s'.heap.get? a = some (seqObj "list" (List.toArray out) c) → KeyedOut false (kz.map PyData.str) vs out → P (.done (.ret .none)) s') :
    wpAny (model prog w) A (ksk_rest a f false vs.toArray e1 (.ref kS)) P E s := by
  unfold ksk_rest
  refine wpAny_bind (wpAny_rule ?_)
  first
    | rw [List.forIn_toArray]
    | (rw [← Array.forIn_toList]; simp only [List.toList_toArray])
    | rw [← Array.forIn_toList]
  refine wpAny_bind (ksk_fold (fun i s' => ∃ kA e, St1 prog w H fs s0 s' ∧ s'.heap.get? kS = some (seqObj "list" kA e) ∧ s'.heap.get? a = some (seqObj "list" #[] e1) ∧ EachIs (fun v k => ∃ t, v = Value.str k t) kA.toList (kz.take i)) vs 0 s
    ⟨#[], 0, x0, nk, na, by rw [List.take_zero]; exact EachIs.nil⟩ ?step ?done)
  case step =>
    rintro j x s' hx ⟨kA, e, st', nk', na', hk⟩
    simp only [Nat.zero_add] at hk ⊢
    have hj : j < vs.length := (List.getElem?_eq_some_iff.mp hx).1
    obtain ⟨k, hkj⟩ : ∃ k, kz[j]? = some k := ⟨_, List.getElem?_eq_getElem (by omega)⟩
    have hz : kA.size ≤ vs.length := by
      have h1 := hk.length
      rw [Array.length_toList, List.length_take] at h1
      omega
    refine wpAny_bind (wpAny_attempt (wpAny_mono (turn j x k hx hkj s' st') (fun v s'' he => ?_) fun _ _ hF => hF.elim))
    obtain ⟨y, t, rfl⟩ := he
    have nk2 : s''.heap.get? kS = some (seqObj "list" kA e) := y.un.keep _ _ nk' (hf _ hkS) kf (by simp)
    have na2 : s''.heap.get? a = some (seqObj "list" #[] e1) := y.un.keep _ _ na' (hf _ ha0) af (by simp)
    have s1 := Heap.SameBut.update s''.heap kS (Obj.mapSeq (·.push (Value.str k t)))
    obtain ⟨c2, hc2⟩ : ∃ c2, (s''.heap.update kS (Obj.mapSeq (·.push (Value.str k t)))).get? kS = some (seqObj "list" (kA.push (Value.str k t)) c2) := ⟨_, get?_update_seq nk2 (·.push (Value.str k t))⟩
    have ek : kz.take (j + 1) = kz.take j ++ [k] := by rw [List.take_add_one, hkj]; simp
    have ea : (kA.push (Value.str k t)).toList = kA.toList ++ [Value.str k t] := by simp
    refine wpAny_bind (listUpdate_at nk2 rfl ?_ (Nat.le_trans hz hZ) (Nat.le_trans (Nat.le_of_eq (Array.size_push ..)) (Nat.succ_le_succ (Nat.le_trans hz hZ))))
    refine wpAny_pure ⟨rfl, kA.push (Value.str k t), c2, ?_, hc2, (s1.2 a hka.symm).trans na2, ?_⟩
    · exact (st'.trans y).heap hf fun b o hb hq => (s1.2 b (Nat.ne_of_lt (Nat.lt_of_lt_of_le hb hkS))).trans hq
    · rw [ea, ek]
      exact each_snoc (R := fun (u : Value) (d : Str) => ∃ t, u = Value.str d t) ⟨t, rfl⟩ hk
  case done =>
    rintro s' ⟨kA, e, st', nk', na', hk⟩
    have e3 : kz.take (0 + vs.length) = kz := List.take_of_length_le (by omega)
    rw [e3] at hk
    have hk' := reads_strs s'.heap hk
    have hsz : kA.size = vs.length := by
      have h1 := hk.length
      rw [Array.length_toList] at h1
      omega
    try dsimp only
    refine wpAny_bind (listItems_at nk' rfl ?_)
    obtain ⟨G, g1, g2⟩ := L2.restrict s'.heap fun b => decide (b ≠ kS)
    refine keyH_end (κ := dataKind s'.heap (kz.map PyData.str)) (h₁ := G) (fun b o _ hb => ?_) (g2 _ (by simp)) nk' na' hka (SortsAt.data (s := s') hk' (strs_alike kz) (strs_sortable kz) fun d hd => ?_) hsz hZ fun h3 tk3 c k3 n3 => h _ _ c ?_ n3 ⟨s'.heap, kA.toList, strs_alike kz, rfl, hk'⟩
    · have hb' : b ≠ kS := fun z => by
        rw [z, g2 _ (by simp)] at hb
        cases hb
      rw [← g1 b (decide_eq_true hb')]
      exact hb
    · obtain ⟨x, _, rfl⟩ := List.mem_map.mp hd
      exact hu
    · refine st'.heap hf fun b o hb hq => k3 b o (Nat.ne_of_lt (Nat.lt_of_lt_of_le hb ha0)) ?_
      rw [g1 b (decide_eq_true (Nat.ne_of_lt (Nat.lt_of_lt_of_le hb hkS)))]
      exact hq
theorem keyS_tree {n : Nat} (x0 : St1 prog w H fs s0 s) (hf : ∀ b, s0.heap.objs.size ≤ b → H b = none) (ha0 : s0.heap.objs.size ≤ a) (hsz : s0.heap.objs.size ≤ s.heap.objs.size) (af : ∀ b, s0.heap.objs.size ≤ b → b ∉ fs) (ho : s.heap.get? a = some (seqObj "list" vs.toArray n)) (hlen : kz.length = vs.length) (hZ : vs.length ≤ sizeLine) (hu : A.units < cLine)
    (turn : ∀ (i : Nat) (v : Value) (k : Str), vs[i]? = some v → kz[i]? = some k → ∀ s', St1 prog w H fs s0 s' → wpAny (model prog w) A (call f [v]) (KeyS prog w H fs k s') (fun _ _ => False) s')
    (h : ∀ s' out c, St1 prog w H fs s0 s' → s'.heap.get? a = some (seqObj "list" (List.toArray out) c) → KeyedOut false (kz.map PyData.str) vs out → P (.done (.ret .none)) s') :
    wpAny (model prog w) A (ksk_tree a f false) P E s := by
  have ha : a < s.heap.objs.size := Heap.lt_size ho
  obtain ⟨e1, ho1⟩ : ∃ e1, (s.heap.update a (Obj.mapSeq fun _ => (#[] : Array Value))).get? a = some (seqObj "list" #[] e1) := ⟨_, get?_update_seq ho fun _ => #[]⟩
  have hkS : ((s.heap.update a (Obj.mapSeq fun _ => (#[] : Array Value))).push (seqObj "tuple" vs.toArray 0)).objs.size = s.heap.objs.size + 1 := by rw [size_push', Heap.size_update]
  unfold ksk_tree
  refine wpAny_bind (listItems_at ho rfl ?_)
  refine wpAny_bind (listUpdate_at ho rfl ?_ (by rw [List.size_toArray]; exact hZ) (Nat.zero_le _))
  refine wpAny_bind (seqEpoch_at ho1 rfl ?_)
  refine wpAny_bind (wpAny_newTuple ?_ (by show vs.length ≤ _; exact hZ))
  refine wpAny_bind (wpAny_newList ?_ (Nat.zero_le _))
  refine wpAny_holding ?_
  have fresh : s0.heap.objs.size ≤ s.heap.objs.size + 1 := Nat.le_succ_of_le hsz
  refine keyS_rest (s0 := s0) (s := { s with heap := ((s.heap.update a (Obj.mapSeq fun _ => (#[] : Array Value))).push (seqObj "tuple" vs.toArray 0)).push (seqObj "list" #[] 0) }) (kS := ((s.heap.update a (Obj.mapSeq fun _ => (#[] : Array Value))).push (seqObj "tuple" vs.toArray 0)).objs.size)
    (x0.heap hf fun b o hb q => sortingHeap_old (Nat.ne_of_lt (Nat.lt_of_lt_of_le hb ha0)) q) hf (by rw [hkS]; exact fresh) ha0 (Heap.get?_push_size _ rfl) (Heap.get?_push_of_some _ (Heap.get?_push_of_some _ ho1)) (by rw [hkS]; exact Nat.ne_of_gt (Nat.lt_succ_of_lt ha))
    (af _ (by rw [hkS]; exact fresh)) (af _ ha0) hlen hZ hu turn h
/-- sorted(xs, key=f) -/
theorem sortedS {β : Type} {R : Value → β → Prop} {bs : List β} {l : Addr} {kw : List (Str × Value)} {Q : Value → Shared → Prop} (k : β → Str) (hb : AllBare s.gens) (hok : L2.HOk prog w H s.heap) (af : ∀ b, s.heap.objs.size ≤ b → b ∉ fs) (hl : s.heap.IsList l vs.toArray) (e : EachIs R vs bs) (hL : bs.length ≤ sizeLine) (hu : A.units + 2 < cLine)
    (ha1 : argsOk "sorted" ⟨[.ref l], kw⟩) (ha2 : ∀ x, argsOk "list.sort" ⟨[.ref x], kw⟩) (ht : ∀ x, Builtin.«list.sort» ⟨[.ref x], kw⟩ = ksk_tree x f false)
    (turn : ∀ (v : Value) (x : β), R v x → x ∈ bs → ∀ s', St1 prog w H fs s s' → wpAny (model prog w) A.in1.in1 (call f [v]) (KeyS prog w H fs (k x) s') (fun _ _ => False) s')
    (h : ∀ out c s', St1 prog w H fs s s' → s'.heap.get? (s.heap.objs.size + 1) = some (seqObj "list" (List.toArray out) c) → out.length = bs.length → EachIs R out (bs.mergeSort fun a b => decide ((k a).cps.toList ≤ (k b).cps.toList)) → Q (.ref (s.heap.objs.size + 1)) s') :
    wpAny (model prog w) A (call (.builtin "sorted") [.ref l] kw) Q E s := by
  have fresh : s.heap.objs.size ≤ s.heap.objs.size + 1 := Nat.le_succ _
  have hf : ∀ b, s.heap.objs.size ≤ b → H b = none := fun b hb => hok.fresh hb
  refine sorted_of_sort hl (by rw [e.length]; exact hL) ha1 ha2 fun E' => ?_
  rw [ht]
  have c1 : St1 prog w H fs s { s with heap := copyHeap s.heap vs } := (St1.refl hb hok).heap hf fun b o _ q => copyHeap_old q
  have hcs : s.heap.objs.size ≤ (copyHeap s.heap vs).objs.size := Nat.le_of_lt (Nat.lt_of_succ_lt (Heap.lt_size (copyHeap_at s.heap vs)))
  refine keyS_tree (s0 := s) (kz := bs.map k) (s := { s with heap := copyHeap s.heap vs }) c1 hf fresh hcs af (copyHeap_at s.heap vs) (by rw [List.length_map]; exact e.length.symm) (by rw [e.length]; exact hL) (by show A.units + 1 + 1 < cLine; omega) (fun i v x hv hx s' st => ?_) fun s' out c st hD ko => ⟨rfl, ?_⟩
  · rw [List.getElem?_map] at hx
    cases q : bs[i]? with
    | none => rw [q] at hx; cases hx
    | some y =>
      rw [q] at hx
      cases hx
      have hz : (v, y) ∈ vs.zip bs := List.mem_of_getElem? (i := i) (by rw [List.getElem?_zip_eq_some]; exact ⟨hv, q⟩)
      exact turn v y (e.zip _ hz) (List.mem_of_getElem? q) s' st
  · rw [List.map_map] at ko
    have ke := keyedOut_each (fun b => PyData.str (k b)) ko e
    rw [dataLe_str] at ke
    exact h out c s' st hD ((ko.length (by rw [List.length_map]; exact e.length.symm)).trans e.length) ke
end
end K25
set_option Elab.async false
set_option linter.all false
set_option maxRecDepth 100000
set_option maxHeartbeats 4000000
/-! OWN RULES: sorted(xs, key=lambda y: ..), the keys texts. -/
namespace K25
open PySem PySem.Calls PySem.W PyProof.Rows L2 LamX
section
variable {X : Cx} {pins : List (Addr × Obj)} {σ : L2.St} {H : Hp} {s : Shared}
theorem St1.inv {s' : Shared} (I : Inv X pins σ H s) (x : St1 X.prog X.w H (frs X.stack) s s') : Inv X pins σ H s' := I.call' (ch := []) x.os x.un x.hok x.bare fun b hb => absurd hb (by simp)
theorem lam_text {f c' : Addr} {q y : Str} {params : Arguments} {body : Expr} {scope : Scope} {pm ctv : Value} {k : Nat} {tb : TE} (I : Inv X pins σ H s) (ho : s.heap.get? f = some (kla_obj "<lambda>" q params body scope [] pm c' ctv)) (hf : H f = none) (hfr : f ∉ frs X.stack)
    (hc : H c' = some (CodeO c' q)) (S : FnScope [y] [y] scope) (hbind : ∀ pm cd ctv v, bindArgs (kla_fn "<lambda>" q params body scope [] pm cd ctv) ⟨[v], []⟩ = pure [(y, v)]) (hr : Room (k + 3) X.A)
    (hbody : ∀ (A : Around) (outer : List Env) (s : Shared), Room k (A.deeper (envOfC q scope s.heap.objs.size f (.ref c'))) → PE (cxOf L2.CX0 X.prog X.w X.K X.mg X.base [y] q scope f (.ref c') A outer s H (fun _ _ _ => False)) body tb)
    {v : Value} {x : V} {z : Str} (rx : RelV x v) (hq : tb [some x] H fun r H' => r = .str z ∧ H' = H) {s' : Shared} (st : St1 X.prog X.w H (frs X.stack) s s') :
    wpAny (model X.prog X.w) X.A.in1.in1 (call (.ref f) [v]) (KeyS X.prog X.w H (frs X.stack) z s') (fun _ _ => False) s' := by
  have I1 := st.inv I
  have hr2 : Room (k + 1) X.A.in1.in1 := (hr.in1).in1
  have e0 : Env0 X.prog X.w X.K X.mg X.base X.A.in1.in1 X.stack s' H := (I1.env0.in1).in1
  have of1 := st.un.keep f _ ho hf hfr (by simp)
  obtain ⟨⟨oc, vs, t, hoc, hdc, hvc⟩, _, _⟩ := I1.hok c' _ hc
  have rc : codeAny (model X.prog X.w) X.A.in1.in1 (.call (.ref f) ⟨[v], []⟩) (CR L2.CX0 X.stack X.prog X.w H s' (fun r H' => r = .str z ∧ H' = H) (fun _ _ _ => False)) s' := by
    refine kla_callFunE hr2.depth of1 rfl S.co S.gen rfl ⟨c', oc, vs, t, rfl, hoc, hdc, hvc⟩ ?_
    rw [hbind]
    have hkind : ∀ p ∈ [(y, v)], scope.names.lookup p.1 = some .local ∨ (scope.names.lookup p.1 = some .cell ∧ ((cellsFrom (s'.heap.objs.size + 1) scope.names []).lookup p.1).isSome = true) := fun p hp => by
      obtain rfl : p = (y, v) := List.mem_singleton.mp hp
      rcases S.par y List.mem_cons_self with q | q
      · exact .inl q
      · exact .inr ⟨q, cellsFrom_some _ _ _ (.inl q)⟩
    refine wpAny_pure (wpAny_newFunctionEnv_cells S.kind hkind fun env he s1 xx => ?_)
    subst he
    refine ⟨I1.nolimit.keeps xx.toInCall.keep, kla_codeExpr ?_⟩
    have J : Inv (cxOf L2.CX0 X.prog X.w X.K X.mg X.base [y] q scope f (.ref c') X.A.in1.in1 X.stack s' H (fun _ _ _ => False)) [] (L2.start [y] [x]) H s1 := inv_start (ps := [y]) S hr2.hd e0 rfl (.cons rx .nil) xx
    refine wpAny_mono ((hbody X.A.in1.in1 X.stack s' (hr2.deeper _)).run [] s1 _ H _ J hq) (fun u s2 h2 => ?_) fun e s2 h2 => h2
    obtain ⟨r, H', J', rv, qq⟩ := h2
    exact ⟨r, H', J'.os, J'.bare, J'.base, J'.hok, rv, qq⟩
  refine wpAny_call (codeAny_mono rc fun r s2 hr => ?_)
  cases r with
  | error e => exact hr.elim
  | ok fl =>
    cases fl with
    | ret u =>
      obtain ⟨v', H', os, bare, un, hok, rv, e1, e2⟩ := hr
      subst e1 e2
      exact ⟨⟨os, bare, un, hok⟩, rv⟩
    | next => exact False.elim hr
    | brk => exact False.elim hr
    | cont => exact False.elim hr
/-- behind the sort: the new list is tracked -/
theorem St1.list {s' : Shared} {q n : Nat} {xs : List V} {its : List Value} (I : Inv X pins σ H s) (st : St1 X.prog X.w H (frs X.stack) s s') (hq : s.heap.objs.size ≤ q) (ho : s'.heap.get? q = some (seqObj "list" its.toArray n)) (r : Vals xs its) (hz : xs.length ≤ sizeLine) : Inv X pins σ (upd H q (.lst xs)) s' := by
  have hn : H q = none := I.hok.fresh hq
  refine I.call' (ch := []) st.os ⟨st.un.keep, st.un.slot, fun b o e n _ => ?_, st.un.there, fun b xs e => ?_, fun b o u e => ?_, fun b ps e => ⟨#[], ?_⟩⟩ (fun b o e => ?_) st.bare fun b hb => absurd hb (by simp)
  · rw [upd_ne (Nat.ne_of_lt (Nat.lt_of_lt_of_le (Heap.lt_size e) hq))]
    exact n
  · rw [upd_ne (ne_of_none e hn)]
    exact e
  · rw [upd_ne (ne_of_none e hn)]
    exact e
  · rw [upd_ne (ne_of_none e hn), e]
    simp
  · by_cases hb : b = q
    · rw [hb, upd_same] at e
      cases e
      rw [hb]
      exact ⟨hz, its, n, r, ho⟩
    · rw [upd_ne hb] at e
      refine (st.hok b o e).stay (fun c v _ k => k) (fun c k => ?_) fun c ys k => ?_
      · rw [upd_ne (ne_of_none k hn)]
        exact k
      · rw [upd_ne (ne_of_none k hn)]
        exact k
theorem each_refs {its : List Value} : ∀ {es : List (Addr × E)}, Vals (es.map fun x => V.ref x.1) its → EachIs (fun (v : Value) (x : Addr × E) => v = .ref x.1) its es := by
  intro es r
  generalize hl : es.map (fun x => V.ref x.1) = l at r
  induction r generalizing es with
  | nil =>
    cases es with
    | nil => exact .nil
    | cons x es => cases hl
  | cons h _ ih =>
    cases es with
    | nil => cases hl
    | cons x es =>
      injection hl with h1 h2
      subst h1
      exact .cons h (ih h2)
theorem vals_refs {out : List Value} : ∀ {es : List (Addr × E)}, EachIs (fun (v : Value) (x : Addr × E) => v = .ref x.1) out es → Vals (es.map fun x => V.ref x.1) out
  | _, .nil => .nil
  | _, .cons h r => .cons h (vals_refs r)
/-- the reading -/
def tSortK (T : List (Addr × Str)) (t : TA) : TE := fun σ H Q => t σ H fun vs H1 => ∃ (l : Addr) (es : List (Addr × E)), vs = [.ref l] ∧ H1 l = some (.lst (es.map fun x => V.ref x.1)) ∧ (∀ x ∈ es, KOk x.2.1 ∧ ∃ u, H1 x.1 = some (.tup [kV x.2.1, u])) ∧ Tabs T H1 ∧
  ∀ (H2 : Hp) (q : Addr), ExtN H1 H2 → Tabs T H2 → H2 q = none → Q (.ref q) (upd H2 q (.lst ((es.mergeSort fun a b => leK a.2 b.2).map fun x => V.ref x.1)))
theorem pe_sortedL {T : List (Addr × Str)} {c P : Addr} {y : Str} {params : Arguments} {body e : Expr} {scope : Scope} {k : Nat} {tb : TE} {t : TA} {p pos lpos kpos : Pos} (TB : TabB X.base X.mg c P) (hcode : X.env.code = .ref c) (hm : (P, X.env.qual ++ "<lambda>") ∈ T) (hu : ∀ p ∈ T, p.1 = P → p.2 = X.env.qual ++ "<lambda>")
    (hdef : defaultsOf params X.env = ([], [])) (hfree : ∀ y ∈ scope.names, y.2 ≠ .free) (hclo : cloFrom X.env.cells scope.names [] = []) (S : FnScope [y] [y] scope) (hbind : ∀ pm cd ctv v, bindArgs (kla_fn "<lambda>" (X.env.qual ++ "<lambda>") params body scope [] pm cd ctv) ⟨[v], []⟩ = pure [(y, v)]) (hr : Room (k + 3) X.A)
    (hbody : ∀ (f c' : Addr) (A : Around) (outer : List Env) (s : Shared) (H : Hp), Room k (A.deeper (envOfC (X.env.qual ++ "<lambda>") scope s.heap.objs.size f (.ref c'))) → PE (cxOf L2.CX0 X.prog X.w X.K X.mg X.base [y] (X.env.qual ++ "<lambda>") scope f (.ref c') A outer s H (fun _ _ _ => False)) body tb)
    (hread : ∀ (H : Hp) (p : Addr) (key : Key) (u : V), KOk key → H p = some (.tup [kV key, u]) → tb [some (.ref p)] H fun r H' => r = .str (kT key) ∧ H' = H)
    (hg : Gl X "sorted") (hmg : X.mg "sorted" = none) (ha : PA X [e] t)
    (he : backTo pos (starEach [e] X.env) = (false, eval e X.env) :: backTo pos (starEach [] X.env) := by rfl) (hpl : (backTo pos (starEach [e] X.env)).any (·.1) = false := by rfl) :
    PE X (.Call (.Name "sorted" p) [e] [⟨some "key", .Lambda params body scope lpos, kpos⟩] pos) (tSortK T t) := by
  refine ⟨fun pins s σ H Q I h => ?_⟩
  refine wpAny_Call_Name_kw (ld_blt I hg hmg (show bootBuiltins (Str.ofString "sorted") = some (.builtin "sorted") by decide +kernel) ?_ (by decide) (by decide))
  refine PyProof.Rows.callWith_kw (thn (ha.run pos pins s σ H _ I h) fun us s1 ⟨vs, H1, I1, r1, q1⟩ => ?_) he hpl rfl rfl
  obtain ⟨l, es, rfl, hl, hes, hT, q⟩ := q1
  obtain ⟨u1, rfl, ru⟩ := vals1 r1
  obtain rfl : u1 = .ref l := ru
  show wpAny _ _ (evalAll [do let v ← eval (.Lambda params body scope lpos) X.env; standAt pos; pure v]) _ _ s1
  refine wpAny_evalAll_cons (wpAny_bind (lam_make2 I1 TB hcode hm hu hT hdef (fun y hy z => absurd z (hfree y hy)) fun f c' pm ctv H2 s2 I2 hE hT2 ho hf hfr hc => wpAny_bind (wpAny_standAt (wpAny_pure (wpAny_evalAll_nil ?_)))))
  show wpAny _ _ (call (.builtin "sorted") [.ref l] [(Str.ofString "key", .ref f)]) _ _ s2
  rw [hclo] at ho
  have hl2 : H2 l = some (.lst (es.map fun x => V.ref x.1)) := hE _ _ hl (fun ps z => by cases z)
  obtain ⟨its, rv, pl, hz⟩ := I2.list (SqL.of hl2)
  rw [List.length_map] at hz
  have af : ∀ b, s2.heap.objs.size ≤ b → b ∉ frs X.stack := fun b hb z => by
    rcases List.mem_cons.mp (I2.stkSub _ z) with e | e
    · have h1 := I2.lt
      rw [← e] at h1
      exact Nat.lt_irrefl _ (Nat.lt_of_lt_of_le h1 hb)
    · exact I2.nofs hb e
  refine sortedS (fs := frs X.stack) (H := H2) (fun x : Addr × E => kT x.2.1) I2.bare I2.hok af pl.isList (each_refs rv) hz (by have := hr.un; omega) (ksk_s1 _ _) (fun _ => ksk_l1 _ _) (fun x => ksk_t1 f x) (fun v x hv hx s' st => ?_) fun out c2 s' st hD hlen ee => ?_
  · subst hv
    obtain ⟨kok, u, hx⟩ := hes x hx
    exact lam_text I2 ho hf hfr hc S hbind hr (fun A outer s => hbody f c' A outer s H2) (x := .ref x.1) rfl (hread H2 x.1 x.2.1 u kok (hE _ _ hx (fun ps z => by cases z))) st
  · have hq : s2.heap.objs.size ≤ s2.heap.objs.size + 1 := Nat.le_succ _
    refine ⟨.ref _, _, St1.list I2 st hq hD (vals_refs ee) ?_, rfl, q H2 _ hE hT2 (I2.hok.fresh hq)⟩
    rw [List.length_map, List.length_mergeSort]
    exact hz
end
end K25
set_option Elab.async false
set_option linter.all false
set_option maxRecDepth 100000
set_option maxHeartbeats 4000000
/-! OWN RULES: a raise under a dict's lock; x is True; match over texts; defs and methods that let exceptions out. -/
namespace K25
open PySem PySem.Calls PySem.Spec PyProof.Rows L2
section
variable {X : Cx} {W : WX}
theorem takes_lock {d : Addr} {u : HO} (tk : Takes X W) (hn : ∀ o' u', X.H_0 d ≠ some (.frz o' u')) : Takes X (fun cls dd σ H => ∃ od, H d = some (.frz od u) ∧ W cls dd σ (upd H d u)) := by
  rintro v s' ⟨a, B, sI, pins, σ, H, cls, dd, e, I, nb, up, sky, na, os, ag, od, hd, w⟩
  refine tk v s' ⟨a, B, sI, pins, σ, upd H d u, cls, dd, e, I.unlock hd hn, nb, up, sky, ?_, os, ag, w⟩
  rw [upd_ne (fun z => by rw [z, hd] at na; cases na)]
  exact na
def rIsC : R2 := fun x y H Q => ∃ b : Bool, y = .bl b ∧ Q (.bl (decide (x = .bl b))) H
theorem op_isC : OpR X (compareOp .Is) rIsC := by
  intro pins s σ H x y v u Q I rx ry h
  obtain ⟨b, rfl, q⟩ := h
  cases (show u = Value.bool b from ry)
  have no : ∀ {w : Value}, plainIs w (.bool b) = true → w ≠ .bool b → decide (x = .bl b) = false → wpAny (model X.prog X.w) X.A (compareOp .Is w (.bool b)) (EP X pins σ Q) X.xe s := fun {w} h1 h2 h3 => by
    rw [h3] at q
    exact wpAny_is_other h1 h2 ⟨.bl false, H, I, rfl, q⟩
  cases x with
  | bl a =>
    cases (show v = Value.bool a from rx)
    by_cases e : a = b
    · subst e
      rw [decide_eq_true rfl] at q
      exact wpAny_is_self rfl ⟨.bl true, H, I, rfl, q⟩
    · exact no rfl (fun z => e (Value.bool.inj z)) (decide_eq_false fun z => e (V.bl.inj z))
  | non => cases rx; exact no rfl (fun z => (nomatch z)) (decide_eq_false fun z => (nomatch z))
  | int i => obtain ⟨t, rfl⟩ := rx; exact no rfl (fun z => (nomatch z)) (decide_eq_false fun z => (nomatch z))
  | str i => obtain ⟨t, rfl⟩ := rx; exact no rfl (fun z => (nomatch z)) (decide_eq_false fun z => (nomatch z))
  | byt i => obtain ⟨t, rfl⟩ := rx; exact no rfl (fun z => (nomatch z)) (decide_eq_false fun z => (nomatch z))
  | flt i => obtain ⟨t, rfl⟩ := rx; exact no rfl (fun z => (nomatch z)) (decide_eq_false fun z => (nomatch z))
  | ty n => cases rx; exact no rfl (fun z => (nomatch z)) (decide_eq_false fun z => (nomatch z))
  | ref a => cases rx; exact no rfl (fun z => (nomatch z)) (decide_eq_false fun z => (nomatch z))
/-! ### match over texts -/
structure PPat (X : Cx) (p : Pattern) (ws : List Str) : Prop where
  run : ∀ (pins : List (Addr × Obj)) (s : Shared) (σ : L2.St) (H : Hp) (z : Str) (v : Value), Inv X pins σ H s → RelV (.str z) v → wpAny (model X.prog X.w) X.A (matchPattern p X.env v) (fun r s' => Inv X pins σ H s' ∧ r = if z ∈ ws then some [] else none) X.xe s
structure PPats (X : Cx) (ps : List Pattern) (ws : List Str) : Prop where
  run : ∀ (pins : List (Addr × Obj)) (s : Shared) (σ : L2.St) (H : Hp) (z : Str) (v : Value), Inv X pins σ H s → RelV (.str z) v → wpAny (model X.prog X.w) X.A (matchFirst ps X.env v) (fun r s' => Inv X pins σ H s' ∧ r = if z ∈ ws then some [] else none) X.xe s
theorem ppat_str {c : Str} {k : Nat} {p1 p2 : Pos} : PPat X (.MatchValue (.Constant (.str c) k p1) p2) [c] := by
  refine ⟨fun pins s σ H z v I r => ?_⟩
  refine wpAny_matchPattern_Value (thn ((pe_str (X := X)).run pins s σ H (fun x H1 => x = .str c ∧ H1 = H) I ⟨rfl, rfl⟩) fun x s1 ⟨xv, H1, I1, r1, e1, e2⟩ => ?_)
  subst e1 e2
  refine thn (op_eq pins s1 σ H1 (.str z) (.str c) v x (fun y H2 => y = .bl (decide (z = c)) ∧ H2 = H1) I1 r r1 ?_) fun y s2 ⟨yv, H2, I2, r2, e1, e2⟩ => ?_
  · refine ⟨rfl, ?_, rfl⟩
    exact congrArg V.bl (by by_cases e : z = c <;> simp [e])
  · subst e1 e2
    cases (show y = Value.bool _ from r2)
    refine wpAny_truthy_bool ?_
    by_cases e : z = c
    · rw [decide_eq_true e, if_pos rfl, if_pos (List.mem_singleton.mpr e)]
      exact ⟨I2, rfl⟩
    · rw [decide_eq_false e, if_neg (by decide), if_neg (fun q => e (List.mem_singleton.mp q))]
      exact ⟨I2, rfl⟩
theorem ppats_nil : PPats X [] [] := ⟨fun pins s σ H z v I r => wpAny_matchFirst_nil ⟨I, by simp⟩⟩
theorem ppats_cons {p : Pattern} {ps : List Pattern} {ws us : List Str} (h : PPat X p ws) (hr : PPats X ps us) : PPats X (p :: ps) (ws ++ us) := by
  refine ⟨fun pins s σ H z v I r => wpAny_matchFirst_cons (thn (h.run pins s σ H z v I r) fun o s1 ⟨I1, e⟩ => ?_)⟩
  by_cases hz : z ∈ ws
  · rw [if_pos hz] at e
    subst e
    exact ⟨I1, by rw [if_pos (List.mem_append_left _ hz)]⟩
  · rw [if_neg hz] at e
    subst e
    refine thn (hr.run pins s1 σ H z v I1 r) fun o s2 ⟨I2, e⟩ => ⟨I2, ?_⟩
    rw [e]
    by_cases hu : z ∈ us
    · rw [if_pos hu, if_pos (List.mem_append_right _ hu)]
    · rw [if_neg hu, if_neg (fun q => (List.mem_append.mp q).elim hz hu)]
theorem ppat_or {ps : List Pattern} {ws : List Str} {pos : Pos} (h : PPats X ps ws) : PPat X (.MatchOr ps pos) ws := by
  refine ⟨fun pins s σ H z v I r => wpAny_matchPattern_Or (thn (h.run pins s σ H z v I r) fun o s1 ⟨I1, e⟩ => ?_)⟩
  by_cases hz : z ∈ ws
  · rw [if_pos hz] at e
    subst e
    refine ⟨I1, ?_⟩
    rw [if_pos hz]
    congr 1
    rw [List.filterMap_eq_nil_iff]
    exact fun _ _ => rfl
  · rw [if_neg hz] at e
    subst e
    exact ⟨I1, by rw [if_neg hz]⟩
structure PCs (X : Cx) (cs : List MatchCase) (t : Str → TS) : Prop where
  run : ∀ (first : Bool) (pins : List (Addr × Obj)) (s : Shared) (σ : L2.St) (H : Hp) (D : Ends) (z : Str) (v : Value), Inv X pins σ H s → RelV (.str z) v → t z D σ H → wpAny (model X.prog X.w) X.A (matchCases cs X.env v first) (SP X pins D) X.xe s
theorem pcs_nil : PCs X [] (fun _ => tNext) := ⟨fun _ pins s σ H D z v I r h => wpAny_matchCases_nil ⟨σ, H, I, h⟩⟩
theorem pcs_cons {p : Pattern} {body : List Stmt} {rest : List MatchCase} {ws : List Str} {tb : TS} {tr : Str → TS} (hp : PPat X p ws) (hb : PSs X body tb) (hr : PCs X rest tr) : PCs X (⟨p, none, body⟩ :: rest) (fun z D σ H => if z ∈ ws then tb D σ H else tr z D σ H) := by
  refine ⟨fun first pins s σ H D z v I r h => wpAny_matchCases_cons (thn (hp.run pins s σ H z v I r) fun o s1 ⟨I1, e⟩ => ?_)⟩
  by_cases hz : z ∈ ws
  · rw [if_pos hz] at e h
    subst e
    exact wpAny_assignInOrder_none (hb.run pins s1 σ H D I1 h)
  · rw [if_neg hz] at e h
    subst e
    exact hr.run false pins s1 σ H D z v I1 r h
def tMatch (te : TE) (tc : Str → TS) : TS := fun D σ H => te σ H fun x H1 => ∃ z, x = .str z ∧ tc z D σ H1
theorem ps_match {subject : Expr} {cs : List MatchCase} {pos : Pos} {te : TE} {tc : Str → TS} (he : PE X subject te) (hc : PCs X cs tc) : PS X (.Match subject cs pos) (tMatch te tc) := by
  refine ⟨fun pins s σ H D I h => wpAny_Match (thn (he.run pins s σ H _ I h) fun v s1 ⟨x, H1, I1, r1, z, e, q⟩ => ?_)⟩
  subst e
  exact hc.run true pins s1 σ H1 D z v I1 r1 q
end
end K25
set_option Elab.async false
set_option linter.all false
set_option maxRecDepth 100000
set_option maxHeartbeats 4000000
/-! OWN RULES: enumerate of a tuple. -/
namespace K25
open PySem PySem.Calls PySem.Spec PyProof.Rows L2
theorem meets_enumT (t : Addr) (items : Array Value) (n : Nat) (dct : Option Addr) (sl : Array (Option Value)) :
    Meets (Builtin.«enumerate.__new__» ⟨[.type "enumerate", .ref t], []⟩) (fun _ R s => s.heap.get? t = some { cls := .type "tuple", dict := dct, data := .seq items n, slots := sl } ∧
      R (.ok (.ret (.ref (s.heap.push { cls := .type "tuple_iterator", data := .fields #[.ref t, .int 0 0] }).objs.size)))
        { s with heap := (s.heap.push { cls := .type "tuple_iterator", data := .fields #[.ref t, .int 0 0] }).push { cls := .type "enumerate", data := .fields #[.none, .bool false, .ref s.heap.objs.size, rawInt 0, .none, .none] } }) :=
  .of_wp fun prog w A R s h => by
    obtain ⟨hp, g, d, tk, os⟩ := s
    obtain ⟨hl, h⟩ := h
    have hT : Heap.IsTuple hp t items := ⟨_, hl, rfl, n, rfl⟩
    have hsub := sub_enumerate
    wp_walk using wpAny_loadPart' hl
    refine wpAny_stack_any fun st => wpAny_pure ?_
    split
    · rename_i c _ _ _ _ _
      cases (c == Value.type "enumerate")
      · wp_walk using wpAny_loadPart' hl, wpAny_pyIter_tuple hT
        exact ⟨_, rfl, h⟩
      · wp_walk using wpAny_loadPart' hl, wpAny_pyIter_tuple hT
        exact ⟨_, rfl, h⟩
    · wp_walk using wpAny_loadPart' hl, wpAny_pyIter_tuple hT
      exact ⟨_, rfl, h⟩
theorem call_enumT {prog : Program} {w : World} {A : Around} {E : Value → Shared → Prop} {s : Shared} {l : Addr} {items : Array Value} {Q : Value → Shared → Prop} (hL : s.heap.IsTuple l items)
    (h : ∀ h', IsEnum h' (s.heap.objs.size + 1) s.heap.objs.size 0 .none → h'.IsTupleIter s.heap.objs.size l 0 → h'.objs.size = s.heap.objs.size + 2 →
      (∀ b o, s.heap.get? b = some o → h'.get? b = some o) → Q (.ref (s.heap.objs.size + 1)) { s with heap := h' }) :
    wpAny (model prog w) A (call (.type "enumerate") [.ref l]) Q E s := by
  obtain ⟨⟨c, dct, dt, sl⟩, hl, hc, n, hd⟩ := hL
  replace hc : c = .type "tuple" := hc
  replace hd : dt = .seq items n := hd
  subst hc hd
  refine callType_new F.called_enumerate (by decide) (F.typeCall_enumerate_1 _) (F.newCall_enumerate_1 _) (fun obj => F.args_object_init_2 obj _) F.entry_enumerate_new
    (meets_enumT l items n dct sl) ⟨hl, ?_⟩
  have hz : (s.heap.push { cls := .type "tuple_iterator", data := .fields #[.ref l, .int 0 0] }).objs.size = s.heap.objs.size + 1 := Heap.size_push ..
  show _ ∧ _
  rw [hz]
  have he : IsEnum ((s.heap.push { cls := .type "tuple_iterator", data := .fields #[.ref l, .int 0 0] }).push
      { cls := .type "enumerate", data := .fields #[.none, .bool false, .ref s.heap.objs.size, rawInt 0, .none, .none] }) (s.heap.objs.size + 1) s.heap.objs.size 0 .none := by
    have := Heap.get?_push_size (s.heap.push { cls := .type "tuple_iterator", data := .fields #[.ref l, .int 0 0] })
      (o := { cls := .type "enumerate", data := .fields #[.none, .bool false, .ref s.heap.objs.size, rawInt 0, .none, .none] }) rfl
    rw [hz] at this; exact this
  refine ⟨⟨_, he, rfl⟩, h _ he ⟨_, Heap.get?_push_of_some _ (Heap.get?_push_size _ rfl), rfl, rfl⟩ (by rw [Heap.size_push, hz]) fun b o x => Heap.get?_push_of_some _ (Heap.get?_push_of_some _ x)⟩
end K25
set_option Elab.async false
set_option linter.all false
set_option maxRecDepth 100000
set_option maxHeartbeats 4000000
/-! OWN RULES: enumerate of a list or a tuple, as a loop. -/
namespace K25
open PySem PySem.Calls PySem.Spec PyProof.Rows L2
def IteT (K : PySem.W.Frag) (a : Addr) : It :=
  ⟨fun i H => ∃ (xs : List V) (x : V), SqT K H a xs ∧ xs[i]? = some x, fun i H v H' => ∃ T x, v = .ref T ∧ H T = none ∧ H' = upd H T (.tup [.int (i : Nat), x]) ∧ ∀ xs, SqT K H a xs → xs[i]? = some x, fun i H => ∃ xs : List V, SqT K H a xs ∧ xs.length ≤ i⟩
theorem turn_enumT {P : Program} {w : World} {K : PySem.W.Frag} {elts : List Expr} {kk : Nat} {tpos : Pos} (a e it : Addr) :
    Turn P w K (.Tuple elts kk tpos) (IteT K a) [e, it] e (fun i h => (∃ old, IsEnum h e it ((i : Nat) : Int) old) ∧ h.IsTupleIter it a i ∧ e ≠ it ∧ a ≠ it ∧ a ≠ e) where
  mem := by simp
  obj := fun i h st b hb => by
    obtain ⟨⟨old, he⟩, ⟨o, ho, hc, hd⟩, _⟩ := st
    have e' : b = e ∨ b = it := by simpa using hb
    rcases e' with z | z
    · rw [z]; exact ⟨_, he, fun v q => nomatch q⟩
    · rw [z]; exact ⟨o, ho, fun v q => by rw [hd] at q; cases q⟩
  keep := fun i h h' st k => let ⟨⟨old, he⟩, hi, hne, h2, h3⟩ := st; ⟨⟨old, k e (by simp) _ he⟩, hi.at fun o q => k it (by simp) o q, hne, h2, h3⟩
  item := by
    intro X hP hw hK hc i pins s σ H E I hf st hg
    subst hP hw hK
    obtain ⟨⟨old, he⟩, hit, hne, hai, hae⟩ := st
    obtain ⟨xs, x, hq, hx⟩ := hg
    obtain ⟨its, rv, p, hz⟩ := I.tuple hq
    obtain ⟨u, hu, ru⟩ := rv.get hx
    have hel : e < s.heap.objs.size := Heap.lt_size he
    have hil : it < s.heap.objs.size := by obtain ⟨_, q, _⟩ := hit; exact Heap.lt_size q
    have hT0 : s.heap.IsTuple a its.toArray := p
    have D : Draws X.prog X.w X.A.in1 it [it, a] its.toArray.size (fun i v => its.toArray[i]? = some v) (fun i h => h.IsTupleIter it a i ∧ h.IsTuple a its.toArray) := Draws.tuple (A := X.A.in1) (I.ok.hd hc) it a hai its.toArray
    have hlt : i < its.toArray.size := by
      have := (List.getElem?_eq_some_iff.mp hu).1
      simpa using this
    refine wpAny_pyNext_enum_itemD D he ⟨hit, hT0⟩ hlt hne (by simp [hne, Ne.symm hae]) fun x' h' tk hx' ho hit' hT hsz hk => ?_
    have ex : x' = u := by
      have q : its[i]? = some x' := by simpa using hx'
      rw [hu] at q
      exact (Option.some.inj q).symm
    subst ex
    refine ⟨_, rfl, wpAny_letOwnedTupleGo_enum (s := { s with heap := h', toks := tk + 1 }) ho fun h'' he' sb => ?_⟩
    have hT2 : h''.get? s.heap.objs.size = some { cls := .type "tuple", data := .seq #[.int i tk, x'] } := (sb.2 _ (Nat.ne_of_gt hel)).trans hT
    have new : ObjOk X.prog X.w (upd H s.heap.objs.size (.tup [.int (i : Nat), x])) h'' s.heap.objs.size (.tup [.int (i : Nat), x]) :=
      ⟨by show 2 ≤ sizeLine; decide, [.int i tk, x'], .cons ⟨_, rfl⟩ (.cons ru .nil), ⟨_, hT2, rfl, _, rfl⟩⟩
    have I1 : Inv X pins σ (upd H s.heap.objs.size (.tup [.int (i : Nat), x])) { s with heap := h'', toks := tk + 1 } :=
      I.turnedNew (ch := [e, it]) (fun b ob hb q => (sb.2 b (fun z => hb (by simp [z]))).trans (hk b ob (fun z => hb (by simp [z])) (fun z => hb (by simp [z])) q)) hf (Nat.le_refl _) new
    refine ⟨.ref s.heap.objs.size, _, I1, rfl, ⟨_, x, rfl, I.hok.fresh (Nat.le_refl _), rfl, fun ys hy => by rw [I.tuple_inj hy hq]; exact hx⟩, ⟨⟨x', ?_⟩, hit'.1.at fun o q => (sb.2 it (Ne.symm hne)).trans q, hne, hai, hae⟩, fun b hb => ?_⟩
    · have e1 : ((i + 1 : Nat) : Int) = (i : Int) + 1 := by omega
      rw [e1]; exact he'
    · have hb' : b < s.heap.objs.size := by
        have e' : b = e ∨ b = it := by simpa using hb
        rcases e' with z | z
        · rw [z]; exact hel
        · rw [z]; exact hil
      rw [upd_ne (Nat.ne_of_lt hb')]
      exact (hf b hb).1
  done := by
    intro X hP hw hK hc i pins s σ H E I hf st hg
    subst hP hw hK
    obtain ⟨⟨old, he⟩, hit, hne, hai, hae⟩ := st
    obtain ⟨xs, hq, hx⟩ := hg
    obtain ⟨its, rv, p, hz⟩ := I.tuple hq
    obtain ⟨f0, f1, f2, f3, f4, f5⟩ := hf it (by simp)
    have hl := rv.length
    have hT0 : s.heap.IsTuple a its.toArray := p
    have D : Draws X.prog X.w X.A.in1 it [it, a] i (fun _ _ => True) (fun j h => (∃ m, j ≤ m ∧ m = i ∧ j = i ∧ h.IsTupleIter it a i) ∧ h.IsTuple a its.toArray) := {
      live := fun _ _ st => let ⟨⟨_, _, _, _, o, ho, _⟩, _⟩ := st; ⟨o, ho⟩
      frame := fun _ _ _ st hk => let ⟨⟨m, h1, h2, h3, h4⟩, h5⟩ := st; ⟨⟨m, h1, h2, h3, h4.at fun o e => hk it (by simp) o e⟩, h5.at fun o e => hk a (by simp) o e⟩
      item := fun j s Q E hi st hQ => by
        obtain ⟨⟨m, h1, h2, h3, h4⟩, h5⟩ := st
        omega
      done := fun s Q E st hE => by
        obtain ⟨⟨m, h1, h2, h3, h4⟩, h5⟩ := st
        exact wpAny_nextOf_tuple_end (A := X.A.in1) (I.ok.hd hc) h4 h5 (by simp; omega) hE }
    exact wpAny_pyNext_enum_endD D he ⟨⟨i, Nat.le_refl _, rfl, rfl, hit⟩, hT0⟩ fun h' eb => ⟨rfl, I.turned (t' := s.toks) (fun b o hb q => eb b o hb q) f0 f1 f3 f4 f5⟩
  self := fun A i s Q E st h => let ⟨⟨_, he⟩, _⟩ := st; wpAny_pyIter_enum he h
def iEnumA (K : PySem.W.Frag) (ta : TA) : TI := fun σ H R => ta σ H fun vs H1 => ∃ a xs, vs = [.ref a] ∧ ((SqL K H1 a xs ∧ R (Ite K a) H1) ∨ (SqT K H1 a xs ∧ R (IteT K a) H1))
theorem pi_enumA {X : Cx} {e : Expr} {ta : TA} {p pos tpos : Pos} {elts : List Expr} {kk : Nat} (hg : Gl X "enumerate") (hm : X.mg "enumerate" = none) (ha : PA X [e] ta) (hs : starEach [e] X.env = [(false, eval e X.env)] := by rfl) :
    PI X (.Tuple elts kk tpos) (.Call (.Name "enumerate" p) [e] [] pos) (iEnumA X.K ta) := by
  refine ⟨fun pins s σ H R I h => ?_⟩
  refine Call_ (ld_blt I hg hm boot_enumerate (PyProof.Rows.callWith_type1 (thn (ha.run pos pins s σ H _ I h) fun us s1 ⟨vs, H1, I1, r1, q1⟩ => ?_) hs rfl))
  obtain ⟨a, xs, ex, q1⟩ := q1
  subst ex
  cases r1 with
  | cons r rr =>
    cases rr
    cases r
    have fp : ∀ b ∈ [s1.heap.objs.size + 1, s1.heap.objs.size], FpOk X pins H1 b := fun b hb => by
      have e' : b = s1.heap.objs.size + 1 ∨ b = s1.heap.objs.size := by simpa using hb
      have hle : s1.heap.objs.size ≤ b := by
        rcases e' with z | z
        · rw [z]; exact Nat.le_add_right _ _
        · rw [z]; exact Nat.le_refl _
      exact I1.fpOk hle (I1.hok.fresh hle)
    rcases q1 with ⟨hq, q⟩ | ⟨hq, q⟩
    · obtain ⟨its, rv, p', hz⟩ := I1.list hq
      refine call_enumerate_list p'.isList fun h' he hit hsz hk => wpAny_pyIter_enum he ?_
      have I2 : Inv X pins σ H1 { s1 with heap := h' } := I1.kept (t' := s1.toks) hk
      exact ⟨s1.heap.objs.size + 1, [s1.heap.objs.size + 1, s1.heap.objs.size], _, _, H1, rfl, I2, turn_enum a (s1.heap.objs.size + 1) s1.heap.objs.size, ⟨⟨.none, he⟩, hit, Nat.succ_ne_self _⟩, fp, q⟩
    · obtain ⟨its, rv, p', hz⟩ := I1.tuple hq
      obtain ⟨oT, hoT, _⟩ := id p'
      have hlt := Heap.lt_size hoT
      refine call_enumT (show s1.heap.IsTuple a its.toArray from p') fun h' he hit hsz hk => wpAny_pyIter_enum he ?_
      have I2 : Inv X pins σ H1 { s1 with heap := h' } := I1.kept (t' := s1.toks) hk
      exact ⟨s1.heap.objs.size + 1, [s1.heap.objs.size + 1, s1.heap.objs.size], _, _, H1, rfl, I2, turn_enumT a (s1.heap.objs.size + 1) s1.heap.objs.size, ⟨⟨.none, he⟩, hit, Nat.succ_ne_self _, Nat.ne_of_lt hlt, Nat.ne_of_lt (Nat.lt_succ_of_lt hlt)⟩, fp, q⟩
end K25
set_option Elab.async false
set_option linter.all false
set_option maxRecDepth 100000
set_option maxHeartbeats 4000000
/-! key_text, Unwritable -/
namespace K25
open PySem PySem.Spec PyProof.Rows L2 C8 SX TL LamX
abbrev wKept : Str × Option Str := ("Writer", some "kept_entries")
abbrev cKept (K : PySem.W.Frag) : Addr := (He.cT K wKept).1
abbrev pKept (K : PySem.W.Frag) : Addr := (He.cT K wKept).2
abbrev qLam : Str := "Writer.kept_entries.<locals>.<lambda>"
abbrev TT (K : PySem.W.Frag) : List (Addr × Str) := [(pKept K, qLam)]
structure Txt3 (K : PySem.W.Frag) (mg : Str → Option Value) : Prop extends Txt2 K mg where
  g_Unwritable : mg "Unwritable" = some (.ref (He.ga K "Unwritable"))
  g_KeysError : mg "KeysError" = some (.ref (He.ga K "KeysError"))
  u_cls : OexC K (UC K)
  u_init : PySem.W.findIn K (.ref (UC K)) "__init__" = some (some (.ref (He.ma K (UC K) "__init__")))
  u_ty : PySem.W.typeIn K (.ref (He.ma K (UC K) "__init__")) = some (.type "function")
  u_fd : ∃ fd, FunD K "__init__" "Unwritable.__init__" (defArgs (inClass (top 9) 0)) (defBody (inClass (top 9) 0)) (defScope (inClass (top 9) 0)) [] [] (He.ma K (UC K) "__init__") fd
  u_r : PySem.W.findIn K (.ref (UC K)) "reason" = some none
  u_p : PySem.W.findIn K (.ref (UC K)) "path" = some none
  u_xf : XfC K (UC K)
  u_exm : PySem.W.exmOne K (.ref (UC K)) (.ref (UC K)) = some true
  m_raw : GM K (WC K) "raw" "Writer.raw" (inClass (top 30) 3)
  m_write : GM K (WC K) "write" "Writer.write" (inClass (top 30) 4)
  m_raw_at : GM K (WC K) "raw_at" "Writer.raw_at" (inClass (top 30) 5)
  m_kept : ∃ (f : Addr) (fd : FuncData), FunD K "kept_entries" "Writer.kept_entries" (defArgs (inClass (top 30) 6)) (defBody (inClass (top 30) 6)) (defScope (inClass (top 30) 6)) [] [] f fd ∧ Meth K (WC K) "kept_entries" f ∧ fd.code = .ref (cKept K)
  m_pairs : GM K (WC K) "raw_pairs" "Writer.raw_pairs" (inClass (top 30) 7)
  w_dig : ∃ (mc : Value) (u : Value), ClX.CRead K (WC K) mc ∧ ClX.CVal K (WC K) mc "DIGITS" (.int 15) u
section
variable {P : Program} {w : World} {K : PySem.W.Frag} {mg : Str → Option Value} {base : Heap}
/-! ### key_text -/
def spKeyText : Sp := fun vs H Q _ => ∃ k : Key, vs = [kV k] ∧ KOk k ∧ Q (.str (kT k)) H
theorem scKeyText : FnScope ["key"] ["key"] (defScope (top 28)) := ⟨rfl, rfl, rfl, by decide +kernel, rfl, by decide +kernel, by decide +kernel⟩
theorem c_keyText (T : Txt2 K mg) : Cal P w K mg base 1 "key_text" spKeyText [] := by
  refine T.f_key_text.cal scKeyText (b1 fun _ _ _ _ _ _ _ => rfl) (fun vs H Q E h => ?_) (fun f cdv A outer s H vs Q E hr h => ?_)
  · obtain ⟨k, rfl, _⟩ := h
    rfl
  obtain ⟨k, rfl, hk, q⟩ := h
  refine ⟨_, (pss_cons (ps_if (pt_val (pe_callB call_isi rfl T.n_isinstance (by decide +kernel) (pa_cons (pv 0) (pa_cons (pe_bltn (v := .ty "str") (u := Value.type "str") rfl T.n_str (by decide +kernel) rfl) pa_nil))))
        (pss_one (ps_ret (pv 0)))
        pss_nil)
      (pss_one (ps_ret (pe_callTy call_str_int rfl T.n_str (by decide +kernel) (pa_cons (pv 0) pa_nil))))), ?_⟩
  cases k with
  | inl i =>
    refine ⟨_, rfl, _, _, _, _, false, rfl, .ty "str", .base (.int i), kit_ty (by decide +kernel), false, rfl, ?_⟩
    exact iteF ⟨_, rfl, _, rfl, log2_small hk, q⟩
  | inr x =>
    refine ⟨_, rfl, _, _, _, _, true, rfl, .ty "str", .base (.str x), kit_ty (by decide +kernel), true, rfl, ?_⟩
    exact iteT ⟨_, rfl, q⟩
/-! ### Unwritable -/
def spU (K : PySem.W.Frag) : Sp := fun vs H Q _ => ∃ (a : Addr) (y z : V), vs = [.ref a, y, z] ∧ H a = some (exo a (UC K) none) ∧
  ∀ dx, H dx = none → dx ≠ a → Q .non (upd (upd (upd H dx (exd dx [("reason", y)])) a (exo a (UC K) (some dx))) dx (exd dx [("path", z), ("reason", y)]))
theorem scU : FnScope ["self", "reason", "path"] ["self", "reason", "path"] (defScope (inClass (top 9) 0)) := ⟨rfl, rfl, rfl, by decide +kernel, rfl, by decide +kernel, by decide +kernel⟩
structure MakU (P : Program) (w : World) (K : PySem.W.Frag) (mg : Str → Option Value) (base : Heap) : Prop where
  ex : ∃ (fI : Addr) (fd : FuncData), OexC K (UC K) ∧ PySem.W.findIn K (.ref (UC K)) "__init__" = some (some (.ref fI)) ∧ PySem.W.typeIn K (.ref fI) = some (.type "function") ∧ FnOk P w K mg base L2.CX0 1 fI fd ["self", "reason", "path"] (spU K) ∧ L2.Binds K fd ["self", "reason", "path"] [] ∧ mg "Unwritable" = some (.ref (UC K))
theorem c_U (T : Txt3 K mg) : MakU P w K mg base := by
  obtain ⟨fd, F⟩ := T.u_fd
  refine ⟨_, fd, T.u_cls, T.u_init, T.u_ty, F.ok scU (fun vs H Q E h => ?_) (fun cdv A outer s H vs Q E hr h => ?_), F.bindsN (b3 fun _ _ _ _ _ _ _ _ _ => rfl), T.g_Unwritable⟩
  · obtain ⟨a, y, z, rfl, _⟩ := h
    rfl
  obtain ⟨a, y, z, rfl, ha, q⟩ := h
  refine ⟨_, PSs.nox (pss_cons (ps_ost (pv 0) (pv 1)) (pss_one (ps_ost (pv 0) (pv 2)))), ?_⟩
  refine ⟨_, rfl, _, rfl, a, UC K, rfl, T.u_cls, T.u_r, .inl ⟨ha, fun dx hdx ne => ?_⟩⟩
  have e1 : (upd (upd H dx (exd dx [("reason", y)])) a (exo a (UC K) (some dx))) a = some (exo a (UC K) (some dx)) := upd_same
  have e2 : (upd (upd H dx (exd dx [("reason", y)])) a (exo a (UC K) (some dx))) dx = some (exd dx [("reason", y)]) := by rw [upd_ne ne, upd_same]
  exact ⟨_, rfl, _, rfl, a, UC K, rfl, T.u_cls, T.u_p, .inr ⟨dx, _, e1, e2, (by show 1 ≤ 900; decide), q dx hdx ne⟩⟩
/-- a reading of arguments that may be widened -/
theorem PA.up {X : Cx} {es : List Expr} {ta : TA} (h : PA X es ta) : PA X es (fun σ H Q => ∃ R : List V → Hp → Prop, ta σ H R ∧ ∀ vs H1, R vs H1 → Q vs H1) :=
  ⟨fun pos pins s σ H Q I ⟨R, h1, h2⟩ => thn (h.run pos pins s σ H R I h1) fun us s1 ⟨xs, H1, I1, r1, q1⟩ => ⟨xs, H1, I1, r1, h2 _ _ q1⟩⟩
/-- raise Unwritable(reason, path) -/
theorem ps_rU {X : Cx} {W : WX} {j : Nat} {e : Expr} {es : List Expr} {ta : TA} {p pos pos' : Pos} (c : MakU X.prog X.w X.K X.mg X.base) (hr : Room j X.A) (hj : 2 ≤ j) (hc : X.calm = true) (tk : Takes X W) (hg : Gl X "Unwritable") (ha : PA X (e :: es) ta)
    (he : starEach (e :: es) X.env = (false, eval e X.env) :: starEach es X.env := by rfl) (hpl : (backTo pos (starEach es X.env)).any (·.1) = false := by rfl) :
    PS X (.Raise (some (.Call (.Name "Unwritable" p) (e :: es) [] pos)) none pos') (fun _ σ H => ta σ H fun vs H1 => ∃ y z, vs = [y, z] ∧ ∀ d, H1 d = none → W (.ref (UC X.K)) (some d) σ (upd H1 d (.xd [("path", z), ("reason", y)]))) := by
  obtain ⟨fI, fd, T, iC, tI, F1, b, hm⟩ := c.ex
  have m := pmk_oex (CX := L2.CX0) (p := p) (pos := pos) T iC tI F1 (hr.mono hj) b .nil L2.pass0 hg hm (PA.up ha) (he := he) (hpl := hpl)
  refine ⟨fun pins s σ H D I h => ?_⟩
  refine (ps_raise hc tk m).run pins s σ H D I ⟨_, h, ?_⟩
  rintro vs H1 ⟨y, z, rfl, q⟩
  refine ⟨by show 2 ≤ 1000; decide, fun a ha => ⟨a, y, z, rfl, upd_same, fun dx hdx ne => ⟨rfl, dx, _, ?_, upd_same, ?_, ?_⟩⟩⟩
  · rw [upd_ne (Ne.symm ne), upd_same]
  · rw [upd_ne ne] at hdx
    exact hdx
  · have e1 : upd (del (upd (upd (upd (upd H1 a (exo a (UC X.K) none)) dx (exd dx [("reason", y)])) a (exo a (UC X.K) (some dx))) dx (exd dx [("path", z), ("reason", y)])) a) dx (.xd [("path", z), ("reason", y)]) = upd H1 dx (.xd [("path", z), ("reason", y)]) := by
      funext b
      by_cases hb : b = dx
      · rw [hb, upd_same, upd_same]
      · rw [upd_ne hb, upd_ne hb]
        by_cases hba : b = a
        · rw [hba, del_same]
          exact ha.symm
        · rw [del_ne hba, upd_ne hb, upd_ne hba, upd_ne hb, upd_ne hba]
    rw [e1]
    refine q dx ?_
    rw [upd_ne ne] at hdx
    exact hdx
end
end K25
set_option Elab.async false
set_option linter.all false
set_option maxRecDepth 100000
set_option maxHeartbeats 4000000
/-! Writer.kept_entries -/
namespace K25
open PySem PySem.Spec PyProof.Rows L2 C8 SX TL LamX
/-- a method that may let an exception out -/
structure MetR (P : Program) (w : World) (K : PySem.W.Frag) (mg : Str → Option Value) (base : Heap) (k : Nat) (C : Addr) (m : Str) (sp : Sp) : Prop where
  ex : ∃ (f : Addr) (fd : FuncData) (ps : List Str), Cls K C ∧ Meth K C m f ∧ FnOk P w K mg base (L2.CX P w) k f fd ps sp ∧ L2.Binds K fd ps []
section
variable {X : Cx} {k j : Nat} {C : Addr} {m : Str} {sp : Sp} {E : XK} {pos apos : Pos} {e o : Expr} {es : List Expr} {ta : TE} {t : TA}
theorem pe_mtR {pl : Sem Bool} (c : MetR X.prog X.w X.K X.mg X.base k C m sp) (hr : Room j X.A) (hk : k ≤ j) (hx : Passes (L2.CX X.prog X.w) X E) (he : PE X o ta) (ha : PA X (e :: es) t)
    (hst : starEach (e :: es) X.env = (false, eval e X.env) :: starEach es X.env := by rfl) (hpl : (backTo pos (starEach es X.env)).any (·.1) = false := by rfl)
    (ht : eval (.Call (.Attribute o m apos) (e :: es) [] pos) X.env = (do
      let ov ← eval o X.env
      standAt apos.atName
      let (f, first) ← holding [ov] (getMethod ov m pl)
      callWith pos f first (backTo pos (starEach (e :: es) X.env)) (backToKw pos (keywordEach [] X.env))) := by rfl) :
    PE X (.Call (.Attribute o m apos) (e :: es) [] pos) (tMeth C m sp [] E ta t) := by
  obtain ⟨f, fd, ps, hc, hm, F, b⟩ := c.ex
  exact pe_meth (pl := pl) he hc hm F (hr.mono hk) b .nil hx ha hst hpl ht
end
/-- all but tables -/
def stH (H : Hp) : Hp := fun b => match H b with
  | some (.tbl _) => none
  | o => o
theorem stH_none {H : Hp} {b : Addr} (h : H b = none) : stH H b = none := by
  unfold stH
  rw [h]
theorem stH_of {H : Hp} {b : Addr} {o : HO} (h : stH H b = some o) : H b = some o ∧ ∀ ps, o ≠ .tbl ps := by
  unfold stH at h
  split at h
  · cases h
  · rename_i x hn
    refine ⟨h, fun ps e => ?_⟩
    rw [e] at h
    exact hn ps h
theorem stH_at {H : Hp} {b : Addr} {o : HO} (h : H b = some o) (n : ∀ ps, o ≠ .tbl ps) : stH H b = some o := by
  unfold stH
  rw [h]
  split
  · rename_i ps e
    exact absurd (Option.some.inj e) (n ps)
  · rfl
theorem stH_upd {H : Hp} {p : Addr} {o : HO} (n : ∀ ps, o ≠ .tbl ps) : stH (upd H p o) = upd (stH H) p o := by
  funext b
  by_cases e : b = p
  · rw [e, upd_same, stH_at upd_same n]
  · rw [upd_ne e]
    unfold stH
    rw [upd_ne e]
theorem ext_st {H H' : Hp} (h : ExtN H H') : Same (stH H) (stH H') := fun b o e => by
  obtain ⟨h1, h2⟩ := stH_of e
  exact stH_at (h b o h1 h2) h2
theorem ext_of {H H' : Hp} (h : Same (stH H) (stH H')) : ExtN H H' := fun b o e n => (stH_of (h b o (stH_at e n))).1
theorem ext_put {H : Hp} {p : Addr} (h : H p = none) (o : HO) : ExtN H (upd H p o) := fun b u e _ => by
  rw [upd_ne (ne_of_none e h)]
  exact e
theorem new_ext {G H H' : Hp} (h : Same G (stH H)) (e : ExtN H H') : New G (stH H) G (stH H') :=
  ⟨Same.refl G, h.trans (ext_st e), fun _ _ _ n => n, fun b o q => ⟨o, ext_st e b o q⟩⟩
theorem same_un {G H : Hp} (h : Same G (stH H)) {b : Addr} {o : HO} (e : G b = some o) : H b = some o := (stH_of (h b o e)).1
section
variable {P : Program} {w : World} {K : PySem.W.Frag} {mg : Str → Option Value} {base : Heap}
/-- the exception of the writer, caught or not -/
def OutU (K : PySem.W.Frag) (H : Hp) (e : Err) (E : XK) : Prop := ∀ (d pp : Addr) (H' : Hp), ExtN H H' → Tabs (TT K) H' → H' d = some (.xd [("path", .ref pp), ("reason", .str e.1)]) → H' pp = some (.tup (e.2.map kV)) → E (.ref (UC K)) (some d) H'
abbrev XE2 : Type := E × V
def spKept (K : PySem.W.Frag) : Sp := fun vs H Q E => ∃ (wa p pp wd td d : Addr) (o : Opts) (path : List Key) (xs : List XE2), vs = [.ref wa, .ref p, .ref pp] ∧ H wa = some (.ins (WC K) wd (wF o)) ∧ H p = some (.ins (TC K) td [("held", .ref d)]) ∧
  H d = some (.dK (xs.map fun x => (x.1.1, x.2))) ∧ H pp = some (.tup (path.map kV)) ∧ xs.length ≤ 12 ∧ path.length ≤ 100 ∧ (∀ x ∈ xs, KOk x.1.1 ∧ isNon x.1.2 = decide (x.2 = .non)) ∧ Tabs (TT K) H ∧
  match keptRun o path (xs.map (·.1)) [] with
  | .error e => OutU K H e E
  | .ok es => ∀ (q : Addr) (zs : List (Addr × XE2)) (H' : Hp), ExtN H H' → Tabs (TT K) H' → H' q = some (.lst (zs.map fun z => .ref z.1)) → zs.map (·.2.1) = ordered o es → (∀ z ∈ zs, z.2 ∈ xs ∧ H' z.1 = some (.tup [kV z.2.1.1, z.2.2])) → Q (.ref q) H'
/-- all of H but d stands -/
def FRd (H : Hp) (d : Addr) (H' : Hp) : Prop := ∀ b u, H b = some u → b ≠ d → H' b = some u
theorem FRd.put {H H' : Hp} {d p : Addr} {o : HO} (h : FRd H d H') (hp : H' p = none) : FRd H d (upd H' p o) := fun b u e n => same_put hp _ _ _ (h b u e n)
theorem FRd.mut {H H' : Hp} {d l : Addr} {o : HO} (h : FRd H d H') (hl : H l = none) : FRd H d (upd H' l o) := fun b u e n => by
  rw [upd_ne (ne_of_none e hl)]
  exact h b u e n
theorem FRd.back {H H' : Hp} {d : Addr} {u : HO} (h : FRd H d H') (hd : H d = some u) : Same H (upd H' d u) := fun b v e => by
  by_cases z : b = d
  · rw [z, hd] at e
    rw [z, upd_same]
    exact e
  · rw [upd_ne z]
    exact h b v e z
theorem kept_skip {o : Opts} {path : List Key} {e : E} {r acc : List E} (h : skips o e = true) : keptRun o path (e :: r) acc = keptRun o path r acc := by
  show (if skips o e = true then _ else _) = _
  rw [if_pos h]
theorem kept_bad {o : Opts} {path : List Key} {e : E} {r acc : List E} (h : skips o e = false) (hb : bads o e = true) : keptRun o path (e :: r) acc = .error ("key", path ++ [e.1]) := by
  show (if skips o e = true then _ else _) = _
  rw [h, if_neg (by decide), if_pos hb]
theorem kept_keep {o : Opts} {path : List Key} {e : E} {r acc : List E} (h : skips o e = false) (hb : bads o e = false) (hk : keeps o e = true) : keptRun o path (e :: r) acc = keptRun o path r (acc ++ [e]) := by
  show (if skips o e = true then _ else _) = _
  rw [h, if_neg (by decide), hb, if_neg (by decide), if_pos hk]
theorem kept_drop {o : Opts} {path : List Key} {e : E} {r acc : List E} (h : skips o e = false) (hb : bads o e = false) (hk : keeps o e = false) : keptRun o path (e :: r) acc = keptRun o path r acc := by
  show (if skips o e = true then _ else _) = _
  rw [h, if_neg (by decide), hb, if_neg (by decide), hk, if_neg (by decide)]
theorem scKept : FnScope ["self", "table", "path", "kept", "key", "item"] ["self", "table", "path"] (defScope (inClass (top 30) 6)) := ⟨rfl, rfl, rfl, by decide +kernel, rfl, by decide +kernel, by decide +kernel⟩
theorem c_kept (T : Txt3 K mg) (TB : TabB base mg (cKept K) (pKept K)) : MetR P w K mg base 6 (WC K) "kept_entries" (spKept K) := by
  obtain ⟨f, fd, F, me, ec⟩ := T.m_kept
  have bd : L2.Binds K fd ["self", "table", "path"] [] := F.bindsN (b3 fun _ _ _ _ _ _ _ _ _ => rfl)
  obtain ⟨oc, od, dV, kV', doc, pm, an, cdv, ct, osl, rfl, lk, hcd, _, _⟩ := F.ex
  have ec : cdv = .ref (cKept K) := ec
  subst ec
  refine ⟨f, _, _, T.y_Writer.cl, me, fn_of (CX := L2.CX P w) (ps := ["self", "table", "path"]) lk hcd scKept (fun vs H Q E h => ?_) (fun A outer s H vs Q E hr h => ?_), bd⟩
  · obtain ⟨wa, p, pp, wd, td, d, o, path, xs, rfl, _⟩ := h
    rfl
  obtain ⟨wa, p, pp, wd, td, d, o, path, xs, rfl, hw, hp, hd, hpp, hlen, hpl, hok, hT, q⟩ := h
  have hmT : (pKept K, (envOfC "Writer.kept_entries" (defScope (inClass (top 30) 6)) s.heap.objs.size f (.ref (cKept K))).qual ++ "<lambda>") ∈ TT K := List.mem_singleton.mpr (congrArg (Prod.mk _) (show (("Writer.kept_entries" : Str) ++ (".<locals>." : Str)) ++ ("<lambda>" : Str) = qLam by decide +kernel))
  have huT : ∀ p ∈ TT K, p.1 = pKept K → p.2 = (envOfC "Writer.kept_entries" (defScope (inClass (top 30) 6)) s.heap.objs.size f (.ref (cKept K))).qual ++ "<lambda>" := fun p hp _ => by
    rw [List.mem_singleton.mp hp]
    exact (show qLam = (("Writer.kept_entries" : Str) ++ (".<locals>." : Str)) ++ ("<lambda>" : Str) by decide +kernel)
  have tk : Takes (cxOf (L2.CX P w) P w K mg base ["self", "table", "path", "kept", "key", "item"] "Writer.kept_entries" (defScope (inClass (top 30) 6)) f (.ref (cKept K)) A outer s H E) (fun cls d _ H => E cls d H) := takes_of rfl rfl rfl rfl
  have tkL := takes_lock (d := d) (u := .dK (xs.map fun x => (x.1.1, x.2))) tk (fun o' u' z => by
    have z : H d = some (.frz o' u') := z
    rw [hd] at z
    cases z)
  refine ⟨_, (pss_cons (ps_set (i := 3) scKept.nd rfl (Or.inl rfl) (pe_lst pa_nil))
      (pss_cons (ps_lock (ps_for (passes_of rfl) rfl (pi_items (pe_fld (pv 1) rfl)) (pg_tup rfl (pgs_cons (pg_name (i := 4) scKept.nd rfl (Or.inl rfl)) (pgs_cons (pg_name (i := 5) scKept.nd rfl (Or.inl rfl)) pgs_nil)))
        (pss_cons (ps_if (PW.pt (pw_and (pt_cmp (pc_isN (pv 5)) rfl) (pw_and1 (pt_cmpR op_eq (pe_fld (pv 0) rfl) pe_str (nomark _)))))
            (pss_one ps_continue)
            pss_nil)
          (pss_cons (ps_if (PW.pt (pw_and (pt_val (pe_c (c_isInt T.toTxt2) hr (by omega) rfl (pa_cons (pv 4) pa_nil))) (pw_and1 (pt_cmpR op_eq (pe_fld (pv 0) rfl) pe_str (nomark _)))))
            (pss_one (ps_rU (c_U T) hr (by omega) rfl tkL rfl (pa_cons pe_str (pa_cons (pe_op op_catA (pv 2) (pe_tup (pa_cons (pv 4) pa_nil))) pa_nil))))
            pss_nil)
          (pss_one (ps_if (PW.pt (pw_or (pt_val (pe_callB call_isi rfl T.n_isinstance (by decide +kernel) (pa_cons (pv 4) (pa_cons (pe_bltn (v := .ty "str") (u := Value.type "str") rfl T.n_str (by decide +kernel) rfl) pa_nil)))) (pw_or1 (pt_cmpR op_eq (pe_fld (pv 0) rfl) pe_str (nomark _)))))
            (pss_one (ps_expr (pe_bm PySem.F.plainAttrs_list PySem.F.slot_list_append PySem.F.type_list_append mt_append (pv 3) (pa_cons (pe_tup (pa_cons (pv 4) (pa_cons (pv 5) pa_nil))) pa_nil))))
            pss_nil))))))
      (pss_cons (ps_if (pt_cmpR op_eq (pe_fld (pv 0) rfl) pe_str (nomark _))
        (pss_one (ps_ret (pe_sortedL (k := 1) (T := TT K) (tb := tCall spKeyText [] C8.E0 (tCons (tOp (rIxT K) (tVar 0) (tC (.int 0))) tNil)) TB rfl hmT huT rfl (by decide +kernel) rfl ⟨rfl, rfl, rfl, by decide +kernel, rfl, by decide +kernel, by decide +kernel⟩ (fun _ _ _ _ => rfl) (hr.mono (by omega)) (fun _ _ _ _ _ _ hr => pe_c (c_keyText T.toTxt2) hr (by omega) rfl (pa_cons (pe_ix ix_tup (pv 0) pe_int (fun _ _ => rfl)) pa_nil)) (fun _ p key _ kok hp => ⟨_, rfl, p, _, _, _, rfl, rfl, SqT.of hp, rfl, key, rfl, kok, rfl, rfl⟩) rfl T.n_sorted (pa_cons (pv 3) pa_nil))))
        pss_nil)
      (pss_one (ps_ret (pv 3)))))), ?_⟩
  have cW := T.y_Writer.cl
  have naW := fun f h => T.na_Writer f h
  refine ⟨(by show 0 ≤ sizeLine; decide), fun l hl => ?_⟩
  have dl : d ≠ l := ne_of_none hd hl
  have pd : p ≠ d := ne_of hp hd (by intro z; cases z)
  have wd' : wa ≠ d := ne_of hw hd (by intro z; cases z)
  have ppd : pp ≠ d := ne_of hpp hd (by intro z; cases z)
  refine ⟨d, _, same_put hl _ _ _ hd, trivial, fun od => ?_⟩
  have fr0 : FRd H d (upd (upd H l (.lst [])) d (.frz od (.dK (xs.map fun x => (x.1.1, x.2))))) := fun b u e n => by
    rw [upd_ne n]
    exact same_put hl _ _ _ e
  refine ⟨_, rfl, p, _, _, _, _, rfl, fr0 _ _ hp pd, T.y_Table.cl, T.na_Table, rfl, d, od, _, rfl, upd_same, ?_⟩
  refine for_gen (n := xs.length) (fun i σ H' => ∃ (v4 v5 : Option V) (zs : List (Addr × XE2)), σ = [some (.ref wa), some (.ref p), some (.ref pp), some (.ref l), v4, v5] ∧ FRd H d H' ∧ H' d = some (.frz od (.dK (xs.map fun x => (x.1.1, x.2)))) ∧ H' l = some (.lst (zs.map fun z => .ref z.1)) ∧
      zs.length ≤ i ∧ (∀ z ∈ zs, z.2 ∈ xs ∧ H' z.1 = some (.tup [kV z.2.1.1, z.2.2])) ∧ keptRun o path (xs.map (·.1)) [] = keptRun o path ((xs.drop i).map (·.1)) (zs.map (·.2.1)))
    ⟨none, none, [], rfl, fr0, upd_same, ?_, Nat.le_refl _, (fun _ h => by cases h), rfl⟩ ?_ ?_ ?_ ?_
  · rw [upd_ne dl.symm, upd_same]
    rfl
  · rintro i σ H' hi ⟨v4, v5, zs, rfl, fr, hd', hl', hzl, hz, hrun⟩
    exact ⟨hd', by rw [List.length_map]; exact hi⟩
  · rintro σ H' ⟨v4, v5, zs, rfl, fr, hd', hl', hzl, hz, hrun⟩
    exact ⟨hd', by rw [List.length_map]; exact Nat.le_refl _⟩
  · rintro i σ H2 y H3 hi ⟨v4, v5, zs, rfl, fr, hd', hl', hzl, hz, hrun⟩ ⟨t, k, v, hkv, rfl, ht, rfl⟩
    obtain ⟨x, hx, ex⟩ := map_at hkv
    injection ex with ek ev
    subst ek ev
    have hmem := List.mem_of_getElem? hx
    obtain ⟨kok, hnon⟩ := hok x hmem
    have hdrop : (xs.drop i).map (·.1) = x.1 :: (xs.drop (i + 1)).map (·.1) := by
      obtain ⟨hi', e3⟩ := List.getElem?_eq_some_iff.mp hx
      rw [← e3, ← List.map_cons, List.getElem_cons_drop]
    rw [hdrop] at hrun
    have fr3 := fr.put (o := .tup [kV x.1.1, x.2]) ht
    have hd3 := same_put ht (.tup [kV x.1.1, x.2]) _ _ hd'
    have hl3 := same_put ht (.tup [kV x.1.1, x.2]) _ _ hl'
    have hz3 : ∀ z ∈ zs, z.2 ∈ xs ∧ (upd H2 t (.tup [kV x.1.1, x.2])) z.1 = some (.tup [kV z.2.1.1, z.2.2]) := fun z h => ⟨(hz z h).1, same_put ht _ _ _ (hz z h).2⟩
    generalize hH3 : upd H2 t (.tup [kV x.1.1, x.2]) = H3 at *
    have htT : H3 t = some (.tup [kV x.1.1, x.2]) := by rw [← hH3]; exact upd_same
    have hw3 := fr3 _ _ hw wd'
    obtain ⟨ty, tx, _, _, h3, _, _, _⟩ := (ty_key (H := H3) T.toTxt2 x.1.1).ex
    refine ⟨t, _, rfl, SqT.of htT, rfl, _, _, rfl, _, _, rfl, rfl, _, rfl, _, rfl, ?_⟩
    have sk1 : ¬ decide (V.str o.nu = V.str "skip") = true → skips o x.1 = false := fun z2 => by
      show (isNon x.1.2 && decide (o.nu = "skip")) = false
      rw [decide_eq_false (fun e => z2 (by rw [e]; rfl)), Bool.and_false]
    have sk2 : ¬ decide (x.2 = .non) = true → skips o x.1 = false := fun z1 => by
      show (isNon x.1.2 && decide (o.nu = "skip")) = false
      rw [hnon, Bool.eq_false_iff.mpr z1, Bool.false_and]
    refine (fun (h : skips o x.1 = false → _) => ite2 (fun z1 => ⟨_, rfl, wa, _, _, _, _, rfl, hw3, cW, naW _ (by decide), rfl, rfl, _, rfl, ite2 (fun z2 => ?_) (fun z2 => h (sk1 z2))⟩) (fun z1 => iteF (h (sk2 z1)))) (fun sk => ?_)
    rotate_left
    · have sk : skips o x.1 = true := by
        show (isNon x.1.2 && decide (o.nu = "skip")) = true
        rw [hnon, z1, show o.nu = "skip" from V.str.inj (of_decide_eq_true z2)]
        rfl
      rw [kept_skip sk] at hrun
      exact ⟨_, _, zs, rfl, fr3, hd3, hl3, by omega, hz3, hrun⟩
    have bd1 : ¬ decide (V.str o.nk = V.str "refuse") = true → bads o x.1 = false := fun z4 => by
      show (isI x.1.1 && decide (o.nk = "refuse")) = false
      rw [decide_eq_false (fun e => z4 (by rw [e]; rfl)), Bool.and_false]
    have bd2 : ¬ (isI x.1.1 && !false) = true → bads o x.1 = false := fun z3 => by
      show (isI x.1.1 && decide (o.nk = "refuse")) = false
      rw [Bool.not_false, Bool.and_true] at z3
      rw [Bool.eq_false_iff.mpr z3, Bool.false_and]
    refine ⟨_, rfl, kV x.1.1, _, _, _, _, _, _, rfl, ty_key T.toTxt2 x.1.1, _, rfl, ?_⟩
    refine (fun (h : bads o x.1 = false → _) => ite2 (fun z3 => ⟨_, rfl, wa, _, _, _, _, rfl, hw3, cW, naW _ (by decide), rfl, rfl, _, rfl, ite2 (fun z4 => ?_) (fun z4 => h (bd1 z4))⟩) (fun z3 => iteF (h (bd2 z3)))) (fun bd => ?_)
    rotate_left
    · rw [Bool.not_false, Bool.and_true] at z3
      have bd : bads o x.1 = true := by
        show (isI x.1.1 && decide (o.nk = "refuse")) = true
        rw [z3, show o.nk = "refuse" from V.str.inj (of_decide_eq_true z4)]
        rfl
      rw [hrun, kept_bad sk bd] at q
      have fin : ∀ {H5 : Hp} {d1 p5 : Addr}, FRd H d H5 → H5 d = some (.frz od (.dK (xs.map fun x => (x.1.1, x.2)))) → H5 p5 = some (.tup ((path ++ [x.1.1]).map kV)) → H5 d1 = none → p5 ≠ d →
          ∃ od', (upd H5 d1 (.xd [("path", .ref p5), ("reason", .str "key")])) d = some (.frz od' (.dK (xs.map fun x => (x.1.1, x.2)))) ∧ E (.ref (UC K)) (some d1) (upd (upd H5 d1 (.xd [("path", .ref p5), ("reason", .str "key")])) d (.dK (xs.map fun x => (x.1.1, x.2)))) := by
        intro H5 d1 p5 f5 g5 e5 n5 nd
        have d1d : d1 ≠ d := fun z => by rw [z, g5] at n5; cases n5
        have sm := (f5.put (o := .xd [("path", .ref p5), ("reason", .str "key")]) n5).back hd
        refine ⟨od, same_put n5 _ _ _ g5, q d1 p5 _ (fun b u e _ => sm b u e) (Tabs.ext hT sm) ?_ ?_⟩
        · rw [upd_ne d1d, upd_same]
        · rw [upd_ne nd]
          exact same_put n5 _ _ _ e5
      refine ⟨_, rfl, _, rfl, (by show 1 ≤ sizeLine; decide), fun p1 hp1 => ⟨pp, p1, _, _, rfl, rfl, SqT.of (same_put hp1 _ _ _ (fr3 _ _ hpp ppd)), SqT.of upd_same, ?_, fun e => ?_, fun _ z => (by cases z), fun e _ p2 hp2 => ?_⟩⟩
      · rw [List.length_map]
        exact Nat.le_of_lt (small1000 (by show path.length + 1 ≤ 1000; omega))
      · have en : path = [] := List.map_eq_nil_iff.mp e
        subst en
        refine ⟨_, _, rfl, fun d1 hd1 => fin (fr3.put hp1) (same_put hp1 _ _ _ hd3) upd_same hd1 (fun z => by rw [z, hd3] at hp1; cases hp1)⟩
      · refine ⟨_, _, rfl, fun d1 hd1 => fin ((fr3.put hp1).put hp2) (same_put hp2 _ _ _ (same_put hp1 _ _ _ hd3)) (by rw [upd_same, List.map_append]; rfl) hd1 (fun z => by rw [z, same_put hp1 _ _ _ hd3] at hp2; cases hp2)⟩
    refine ⟨_, rfl, _, _, _, _, !isI x.1.1, rfl, .ty "str", tx, h3, _, rfl, ?_⟩
    have kt1 : (!isI x.1.1) = true → keeps o x.1 = true := fun z5 => by
      show (!isI x.1.1 || decide (o.nk = "text")) = true
      rw [z5, Bool.true_or]
    have kt2 : decide (V.str o.nk = V.str "text") = true → keeps o x.1 = true := fun z6 => by
      show (!isI x.1.1 || decide (o.nk = "text")) = true
      rw [decide_eq_true (V.str.inj (of_decide_eq_true z6)), Bool.or_true]
    refine (fun (h : keeps o x.1 = true → _) => ite2 (fun z5 => iteT (h (kt1 z5))) (fun z5 => ⟨_, rfl, wa, _, _, _, _, rfl, hw3, cW, naW _ (by decide), rfl, rfl, _, rfl, ite2 (fun z6 => h (kt2 z6)) (fun z6 => ?_)⟩)) (fun kp => ?_)
    rotate_left
    · have kp : keeps o x.1 = false := by
        show (!isI x.1.1 || decide (o.nk = "text")) = false
        rw [Bool.eq_false_iff.mpr z5, decide_eq_false (fun e => z6 (by rw [e]; rfl))]
        rfl
      rw [kept_drop sk bd kp] at hrun
      exact ⟨_, _, zs, rfl, fr3, hd3, hl3, by omega, hz3, hrun⟩
    rw [kept_keep sk bd kp] at hrun
    refine ⟨_, rfl, .inl ⟨rfl, _, SqL.of hl3⟩, _, rfl, _, rfl, (by show 2 ≤ sizeLine; decide), fun z hzn => ⟨l, _, _, rfl, rfl, same_put hzn _ _ _ hl3, ?_, ?_⟩⟩
    · rw [List.length_map]
      exact small1000 (by omega)
    have zl : z ≠ l := fun e => by rw [e, hl3] at hzn; cases hzn
    refine ⟨_, _, zs ++ [(z, x)], rfl, (fr3.put hzn).mut hl, ?_, ?_, ?_, ?_, ?_⟩
    · rw [upd_ne dl]
      exact same_put hzn _ _ _ hd3
    · rw [upd_same, List.map_append]
      rfl
    · rw [List.length_append]
      exact Nat.succ_le_succ hzl
    · intro y hy
      rcases List.mem_append.mp hy with hy | hy
      · have h5 := same_put hzn (.tup [kV x.1.1, x.2]) _ _ (hz3 y hy).2
        refine ⟨(hz3 y hy).1, ?_⟩
        rw [upd_ne (fun e => by have h6 := (hz3 y hy).2; rw [e, hl3] at h6; cases h6)]
        exact h5
      · rw [List.mem_singleton.mp hy]
        refine ⟨hmem, ?_⟩
        rw [upd_ne zl, upd_same]
    · rw [hrun, List.map_append]
      rfl
  · rintro σ H' ⟨v4, v5, zs, rfl, fr, hd', hl', hzl, hz, hrun⟩
    refine ⟨hd', ?_⟩
    have sm := fr.back hd
    have hT' := Tabs.ext hT sm
    rw [List.drop_length] at hrun
    have hrun : keptRun o path (xs.map (·.1)) [] = .ok (zs.map (·.2.1)) := hrun
    rw [hrun] at q
    have ld : l ≠ d := dl.symm
    have hl4 : (upd H' d (.dK (xs.map fun x => (x.1.1, x.2)))) l = some (.lst (zs.map fun z => .ref z.1)) := by
      rw [upd_ne ld]
      exact hl'
    have hz4 : ∀ z ∈ zs, z.2 ∈ xs ∧ (upd H' d (.dK (xs.map fun x => (x.1.1, x.2)))) z.1 = some (.tup [kV z.2.1.1, z.2.2]) := fun z h => by
      have h5 := hz z h
      refine ⟨h5.1, ?_⟩
      rw [upd_ne (fun e => by have h6 := h5.2; rw [e, hd'] at h6; cases h6)]
      exact h5.2
    generalize upd H' d (.dK (xs.map fun x => (x.1.1, x.2))) = H4 at *
    refine ⟨_, rfl, wa, _, _, _, _, rfl, sm _ _ hw, cW, naW _ (by decide), rfl, rfl, _, rfl, ?_⟩
    refine ite2 (fun z => ?_) (fun z => ?_)
    · have od : o.od = "rising" := V.str.inj (of_decide_eq_true z)
      refine ⟨_, rfl, l, zs.map fun z => (z.1, z.2.1), rfl, ?_, fun y hy => ?_, hT', fun H5 q5 hE hT5 hq5 => ?_⟩
      · rw [List.map_map]
        exact hl4
      · obtain ⟨z, hz', rfl⟩ := List.mem_map.mp hy
        exact ⟨(hok z.2 (hz4 z hz').1).1, z.2.2, (hz4 z hz').2⟩
      · have em : (zs.map fun z => (z.1, z.2.1)).mergeSort (fun a b => leK a.2 b.2) = (zs.mergeSort fun a b => leK a.2.1 b.2.1).map fun z => (z.1, z.2.1) := (List.map_mergeSort (f := fun z : Addr × XE2 => (z.1, z.2.1)) (r := fun a b => leK a.2.1 b.2.1) (s := fun a b => leK a.2 b.2) fun _ _ _ _ => rfl).symm
        rw [em, List.map_map]
        refine q q5 (zs.mergeSort fun a b => leK a.2.1 b.2.1) _ (fun b u e n => ext_put hq5 _ _ _ (hE _ _ (sm _ _ e) n) n) (hT5.ext (same_put hq5 _)) upd_same ?_ fun z hz' => ?_
        · unfold ordered
          rw [if_pos od]
          exact List.map_mergeSort (f := fun z : Addr × XE2 => z.2.1) (r := fun a b => leK a.2.1 b.2.1) (s := leK) fun _ _ _ _ => rfl
        · have h6 := hz4 z (List.mem_mergeSort.mp hz')
          exact ⟨h6.1, same_put hq5 _ _ _ (hE _ _ h6.2 (fun ps e => by cases e))⟩
    · have od : o.od ≠ "rising" := fun e => z (by rw [e]; rfl)
      refine ⟨_, rfl, q l zs _ (fun b u e _ => sm b u e) hT' hl4 ?_ hz4⟩
      unfold ordered
      rw [if_neg od]
end
end K25
set_option Elab.async false
set_option linter.all false
set_option maxRecDepth 100000
set_option maxHeartbeats 4000000
/-! Writer.raw_pairs -/
namespace K25
open PySem PySem.Spec PyProof.Rows L2 C8 SX TL LamX
/-- where the writer, the path stand -/
structure WG (K : PySem.W.Frag) (G H : Hp) (wa pp : Addr) (o : Opts) (path : List Key) : Prop where
  w : ∃ wd, G wa = some (.ins (WC K) wd (wF o))
  p : G pp = some (.tup (path.map kV))
  s : Same G (stH H)
  t : Tabs (TT K) H
theorem vat_non {TC : Addr} {G : Hp} : ∀ {n : Nat} {t : Val} {v : V}, VAt TC G n t v → isNon t = decide (v = .non)
  | 0, _, _, h => h.elim
  | _ + 1, .non, _, h => by cases h; rfl
  | _ + 1, .bl _, _, h => by cases h; rfl
  | _ + 1, .int _, _, h => by cases h; rfl
  | _ + 1, .str _, _, h => by cases h; rfl
  | _ + 1, .row _ _, _, h => by obtain ⟨p, vs, rfl, _⟩ := h; rfl
  | _ + 1, .tab _ _, _, h => by obtain ⟨p, dx, d, vs, rfl, _⟩ := h; rfl
theorem outU_ext {K : PySem.W.Frag} {H H1 : Hp} {e : Err} {E : XK} (h : OutU K H e E) (x : ExtN H H1) : OutU K H1 e E := fun d pp H' a b c d' => h d pp H' (x.trans a) b c d'
theorem zip3 : ∀ (ks : List Key) (xs : List Val) (us : List V), ks.length = xs.length → ks.length = us.length → ((ks.zip xs).zip us).map (fun x => (x.1.1, x.2)) = ks.zip us ∧ ((ks.zip xs).zip us).map (·.1) = ks.zip xs
  | [], _, _, _, _ => ⟨rfl, rfl⟩
  | k :: ks, x :: xs, u :: us, h1, h2 => by
    obtain ⟨a, b⟩ := zip3 ks xs us (Nat.succ.inj h1) (Nat.succ.inj h2)
    exact ⟨congrArg ((k, u) :: ·) a, congrArg ((k, x) :: ·) b⟩
  | _ :: _, [], _, h1, _ => by cases h1
  | _ :: _, _ :: _, [], _, h2 => by cases h2
theorem zip3_mem {R : Val → V → Prop} : ∀ {ks : List Key} {xs : List Val} {us : List V}, Paired R xs us → ∀ z ∈ (ks.zip xs).zip us, R z.1.2 z.2 ∧ z.1.1 ∈ ks ∧ z.1.2 ∈ xs
  | [], _, _, _, z, h => by cases h
  | _ :: _, _, _, .nil, z, h => by cases h
  | k :: ks, _, _, .cons (a := x) (b := u) h1 r, z, h => by
    rcases List.mem_cons.mp h with e | h
    · subst e
      exact ⟨h1, List.mem_cons_self, List.mem_cons_self⟩
    · obtain ⟨a, b, c⟩ := zip3_mem r z h
      exact ⟨a, List.mem_cons_of_mem _ b, List.mem_cons_of_mem _ c⟩
theorem heap_of (n : Nat) (o : Obj) (ho : ∀ h : Heap, (h.push o).get? h.objs.size = some o) : ∃ h : Heap, h.objs.size = n ∧ ∀ b u, h.get? b = some u → u = o := by
  induction n with
  | zero => exact ⟨{ objs := #[] }, rfl, fun b u e => absurd (Heap.lt_size e) (Nat.not_lt_zero _)⟩
  | succ n ih =>
    obtain ⟨h, h1, h2⟩ := ih
    refine ⟨h.push o, by rw [Heap.size_push, h1], fun b u e => ?_⟩
    by_cases hb : b = h.objs.size
    · rw [hb, ho] at e
      exact (Option.some.inj e).symm
    · rw [Heap.get?_push_ne _ _ _ hb] at e
      exact h2 b u e
theorem set_ne_code {P : Program} {w : World} {a : Addr} {S : Key → Bool} {n : Nat} (c : Addr) (q : Str) : SetK P w a S n ≠ CodeO c q := fun z => by
  have z' : HO.ext (fun h => h.SetOf (mixKind P w) a S n) = HO.ext (fun h => ∃ (oc : Obj) (vs : Array Value) (t : Tok), h.get? c = some oc ∧ oc.data = .fields vs ∧ vs[1]? = some (.str q t)) := z
  have e := HO.ext.inj z'
  obtain ⟨h, h1, h2⟩ := heap_of c ({ cls := .none, data := .fields #[.none, .str q 0] } : Obj) fun h => Heap.get?_push_size h rfl
  have e1 := congrFun e (h.push { cls := .none, data := .fields #[.none, .str q 0] })
  have hc : (h.push { cls := .none, data := .fields #[.none, .str q 0] }).get? c = some { cls := .none, data := .fields #[.none, .str q 0] } := by
    have := Heap.get?_push_size h (o := { cls := .none, data := .fields #[.none, .str q 0] }) rfl
    rw [h1] at this
    exact this
  have hs : (h.push { cls := .none, data := .fields #[.none, .str q 0] }).SetOf (mixKind P w) a S n := by
    rw [e1]
    exact ⟨_, _, 0, hc, rfl, rfl⟩
  obtain ⟨o, es, ep, t, ho, ⟨hcl, _⟩, _⟩ := hs
  by_cases hb : a = h.objs.size
  · rw [hb, Heap.get?_push_size h rfl] at ho
    rw [← Option.some.inj ho] at hcl
    cases hcl
  · rw [Heap.get?_push_ne _ _ _ hb] at ho
    rw [h2 _ _ ho] at hcl
    cases hcl
theorem tabs_mut {T : List (Addr × Str)} {H : Hp} {a : Addr} {u o : HO} (t : Tabs T H) (ha : H a = some u) (n1 : ∀ ps, u ≠ .tbl ps) (n2 : ∀ c q, u ≠ CodeO c q) : Tabs T (upd H a o) := fun p hp => by
  obtain ⟨ps, h1, h2, h3⟩ := t p hp
  refine ⟨ps, ?_, h2, fun pos cv hc => ?_⟩
  · rw [upd_ne (fun e => by rw [e, ha] at h1; exact n1 ps (Option.some.inj h1))]
    exact h1
  · obtain ⟨c, e1, e2⟩ := h3 pos cv hc
    refine ⟨c, e1, ?_⟩
    rw [upd_ne (fun e => by rw [e, ha] at e2; exact n2 c _ ((Option.some.inj e2).trans (by rw [e])))]
    exact e2
theorem lst_ne_code {xs : List V} (c : Addr) (q : Str) : HO.lst xs ≠ CodeO c q := fun z => by
  unfold CodeO at z
  cases z
theorem kept_len {o : Opts} {path : List Key} : ∀ (es acc r : List E), keptRun o path es acc = .ok r → r.length ≤ acc.length + es.length
  | [], acc, r, h => by
    cases h
    exact Nat.le_refl _
  | e :: es, acc, r, h => by
    cases h1 : skips o e with
    | true =>
      rw [kept_skip h1] at h
      have := kept_len es acc r h
      rw [List.length_cons]
      omega
    | false =>
      cases h2 : bads o e with
      | true =>
        rw [kept_bad h1 h2] at h
        cases h
      | false =>
        cases h3 : keeps o e with
        | true =>
          rw [kept_keep h1 h2 h3] at h
          have := kept_len es _ r h
          rw [List.length_append] at this
          rw [List.length_cons]
          simp only [List.length_cons, List.length_nil] at this
          omega
        | false =>
          rw [kept_drop h1 h2 h3] at h
          have := kept_len es acc r h
          rw [List.length_cons]
          omega
/-- path + (k,) -/
theorem cat_key {K : PySem.W.Frag} {H : Hp} {pp : Addr} {path : List Key} {k : Key} {Q : VK} (hpp : H pp = some (.tup (path.map kV))) (hl : path.length ≤ 100)
    (h : ∀ (p5 : Addr) (H5 : Hp), Same H H5 → H5 p5 = some (.tup ((path ++ [k]).map kV)) → (∀ G, Same G (stH H) → New G (stH H) (upd G p5 (.tup ((path ++ [k]).map kV))) (stH H5)) → Q (.ref p5) H5) :
    1 ≤ sizeLine ∧ ∀ p1, H p1 = none → rCatA K (.ref pp) (.ref p1) (upd H p1 (.tup [kV k])) Q := by
  refine ⟨by decide, fun p1 hp1 => ⟨pp, p1, _, _, rfl, rfl, SqT.of (same_put hp1 _ _ _ hpp), SqT.of upd_same, ?_, fun e => ?_, fun _ z => (by cases z), fun e _ p2 hp2 => ?_⟩⟩
  · rw [List.length_map]
    exact Nat.le_of_lt (small1000 (by show path.length + 1 ≤ 1000; omega))
  · have en : path = [] := List.map_eq_nil_iff.mp e
    subst en
    refine h p1 _ (same_put hp1 _) upd_same fun G hG => ?_
    rw [stH_upd (fun ps z => by cases z)]
    exact New.put hG (stH_none hp1) _
  · have e1 : path.map kV ++ [kV k] = (path ++ [k]).map kV := by rw [List.map_append]; rfl
    rw [e1]
    refine h p2 _ (fun b u q => same_put hp2 _ _ _ (same_put hp1 _ _ _ q)) upd_same fun G hG => ?_
    rw [stH_upd (fun ps z => by cases z), stH_upd (fun ps z => by cases z)]
    have n1 := New.hid hG (stH_none hp1) (.tup [kV k])
    refine n1.trans (New.put n1.le ?_ _)
    have := stH_none hp2
    rw [stH_upd (fun ps z => by cases z)] at this
    exact this
section
variable {f : Val → List Key → Except Err Val} {o : Opts} {path : List Key} {e : E} {r : List E} {seen : List Str} {ys : List Val}
theorem pairs_dbl (h : (decide (kT e.1 ∈ seen) && decide (o.dk = "refuse")) = true) : pairsRun f o path (e :: r) seen ys = .error ("double", path ++ [e.1]) := by
  show (if (decide (kT e.1 ∈ seen) && decide (o.dk = "refuse")) = true then _ else _) = _
  rw [if_pos h]
theorem pairs_err {x : Err} (h : (decide (kT e.1 ∈ seen) && decide (o.dk = "refuse")) = false) (hf : f e.2 (path ++ [e.1]) = .error x) : pairsRun f o path (e :: r) seen ys = .error x := by
  show (if (decide (kT e.1 ∈ seen) && decide (o.dk = "refuse")) = true then _ else _) = _
  rw [h, if_neg (by decide), hf]
theorem pairs_ok {y : Val} (h : (decide (kT e.1 ∈ seen) && decide (o.dk = "refuse")) = false) (hf : f e.2 (path ++ [e.1]) = .ok y) : pairsRun f o path (e :: r) seen ys = pairsRun f o path r (seen ++ [kT e.1]) (ys ++ [y]) := by
  show (if (decide (kT e.1 ∈ seen) && decide (o.dk = "refuse")) = true then _ else _) = _
  rw [h, if_neg (by decide), hf]
end
theorem zip_snoc {α β : Type} : ∀ {as : List α} {bs : List β} (a : α) (b : β), as.length = bs.length → (as ++ [a]).zip (bs ++ [b]) = as.zip bs ++ [(a, b)]
  | [], [], _, _, _ => rfl
  | x :: as, y :: bs, a, b, h => congrArg ((x, y) :: ·) (zip_snoc a b (Nat.succ.inj h))
  | [], _ :: _, _, _, h => by cases h
  | _ :: _, [], _, _, h => by cases h
section
variable {P : Program} {w : World} {K : PySem.W.Frag} {mg : Str → Option Value} {base : Heap}
def spRaw (K : PySem.W.Frag) (n : Nat) : Sp := fun vs H Q E => ∃ (wa pp : Addr) (o : Opts) (path : List Key) (t : Val) (v : V) (G : Hp), vs = [.ref wa, v, .ref pp] ∧ WG K G H wa pp o path ∧ VAt (TC K) G n t v ∧ MOk n t ∧ path.length + n ≤ 61 ∧
  match rawN o n t path with
  | .error e => OutU K H e E
  | .ok y => ∀ (v' : V) (G' H' : Hp), New G (stH H) G' (stH H') → ExtN H H' → Tabs (TT K) H' → TAt G' n y v' → Q v' H'
def spPairs (K : PySem.W.Frag) (n : Nat) : Sp := fun vs H Q E => ∃ (wa p pp td d : Addr) (o : Opts) (path : List Key) (ks : List Key) (xs : List Val) (us : List V) (G : Hp), vs = [.ref wa, .ref p, .ref pp] ∧ WG K G H wa pp o path ∧ G p = some (.ins (TC K) td [("held", .ref d)]) ∧ G d = some (.dK (ks.zip us)) ∧
  ks.length = us.length ∧ Paired (VAt (TC K) G n) xs us ∧ MOk (n + 1) (.tab ks xs) ∧ path.length + n ≤ 60 ∧
  match keptRun o path (ks.zip xs) [] with
  | .error e => OutU K H e E
  | .ok es => match pairsRun (rawN o n) o path (ordered o es) [] [] with
    | .error e => OutU K H e E
    | .ok ys => ∀ (l : Addr) (us' : List V) (G' H' : Hp), New G (stH H) G' (stH H') → ExtN H H' → Tabs (TT K) H' → G' l = some (.lst us') → Paired (TabR n G') (((ordered o es).map fun e => Sum.inr (kT e.1)).zip ys) us' → ys.length = (ordered o es).length → Q (.ref l) H'
theorem scPairs : FnScope ["self", "table", "path", "pairs", "seen", "key", "item", "name"] ["self", "table", "path"] (defScope (inClass (top 30) 7)) := ⟨rfl, rfl, rfl, by decide +kernel, rfl, by decide +kernel, by decide +kernel⟩
theorem c_pairs (T : Txt3 K mg) (TB : TabB base mg (cKept K) (pKept K)) {n j : Nat} (hj : 6 ≤ j) (ih : MetR P w K mg base j (WC K) "raw_at" (spRaw K n)) : MetR P w K mg base (j + 1) (WC K) "raw_pairs" (spPairs K n) := by
  obtain ⟨f, fd, F, me⟩ := T.m_pairs.ex
  refine ⟨f, fd, _, T.y_Writer.cl, me, F.ok (CX := L2.CX P w) (ps := ["self", "table", "path"]) scPairs (fun vs H Q E h => ?_) (fun cdv A outer s H vs Q E hr h => ?_), F.bindsN (b3 fun _ _ _ _ _ _ _ _ _ => rfl)⟩
  · obtain ⟨wa, p, pp, td, d, o, path, ks, xs, us, G, rfl, _⟩ := h
    rfl
  obtain ⟨wa, p, pp, td, d, o, path, ks, xs, us, G, rfl, wg, hp, hd, hlen, pr, mo, hpl, q⟩ := h
  have tk : Takes (cxOf (L2.CX P w) P w K mg base ["self", "table", "path", "pairs", "seen", "key", "item", "name"] "Writer.raw_pairs" (defScope (inClass (top 30) 7)) f cdv A outer s H E) (fun cls d _ H => E cls d H) := takes_of rfl rfl rfl rfl
  have hx := passes_call (E := E) tk (fun _ _ _ _ h => h)
  have TBk := c_kept (P := P) (w := w) T TB
  refine ⟨_, (pss_cons (ps_set (i := 3) scPairs.nd rfl (Or.inl rfl) (pe_lst pa_nil))
      (pss_cons (ps_set (i := 4) scPairs.nd rfl (Or.inl rfl) (pe_callTy0 cr_set0K rfl T.n_set (by decide +kernel)))
      (pss_cons (ps_for (passes_of rfl) rfl (pi_list (pe_mtR (c_kept T TB) hr (by omega) hx (pv 0) (pa_cons (pv 1) (pa_cons (pv 2) pa_nil)))) (pg_tup rfl (pgs_cons (pg_name (i := 5) scPairs.nd rfl (Or.inl rfl)) (pgs_cons (pg_name (i := 6) scPairs.nd rfl (Or.inl rfl)) pgs_nil)))
        (pss_cons (ps_set (i := 7) scPairs.nd rfl (Or.inl rfl) (pe_c (c_keyText T.toTxt2) hr (by omega) rfl (pa_cons (pv 5) pa_nil)))
          (pss_cons (ps_if (PW.pt (pw_and (pt_cmpR or_sinK (pv 7) (pv 4) (by rfl)) (pw_and1 (pt_cmpR op_eq (pe_fld (pv 0) rfl) pe_str (nomark _)))))
            (pss_one (ps_rU (c_U T) hr (by omega) rfl tk rfl (pa_cons pe_str (pa_cons (pe_op op_catA (pv 2) (pe_tup (pa_cons (pv 5) pa_nil))) pa_nil))))
            pss_nil)
          (pss_cons (ps_expr (pe_saddK (pv 4) (pa_cons (pv 7) pa_nil)))
          (pss_one (ps_expr (pe_bm PySem.F.plainAttrs_list PySem.F.slot_list_append PySem.F.type_list_append mt_append (pv 3) (pa_cons (pe_tup (pa_cons (pv 7) (pa_cons (pe_mtR ih hr (by omega) hx (pv 0) (pa_cons (pv 6) (pa_cons (pe_op op_catA (pv 2) (pe_tup (pa_cons (pv 5) pa_nil))) pa_nil))) pa_nil))) pa_nil))))))))
      (pss_one (ps_ret (pv 3)))))), ?_⟩
  have cW := T.y_Writer.cl
  have naW := fun f h => T.na_Writer f h
  obtain ⟨wd, hwG⟩ := wg.w
  obtain ⟨hl1, m12, nd, kok, mx⟩ := mo
  obtain ⟨zz1, zz2⟩ := zip3 ks xs us hl1 hlen
  have hzm := zip3_mem (ks := ks) pr
  refine ⟨(by show 0 ≤ sizeLine; decide), fun l hl => ⟨rfl, fun sA hs => ?_⟩⟩
  have x1 : ExtN H (upd H l (.lst [])) := ext_put hl _
  have x2 : ExtN H (upd (upd H l (.lst [])) sA (SetK P w sA (fun _ => false) 0)) := x1.trans (ext_put hs _)
  have t2 : Tabs (TT K) (upd (upd H l (.lst [])) sA (SetK P w sA (fun _ => false) 0)) := (wg.t.ext (same_put hl _)).ext (same_put hs _)
  have lsA : l ≠ sA := fun e => by
    rw [e, upd_same] at hs
    cases hs
  have hlS : (upd (upd H l (.lst [])) sA (SetK P w sA (fun _ => false) 0)) l = some (.lst []) := by rw [upd_ne lsA, upd_same]
  have hsS : (upd (upd H l (.lst [])) sA (SetK P w sA (fun _ => false) 0)) sA = some (SetK P w sA (fun _ => false) 0) := upd_same
  have hsH : H sA = none := by
    rw [upd_ne lsA.symm] at hs
    exact hs
  have sG : Same G (stH (upd (upd H l (.lst [])) sA (SetK P w sA (fun _ => false) 0))) := wg.s.trans (ext_st x2)
  have hw := same_un sG hwG
  refine ⟨_, rfl, wa, wd, _, rfl, hw, rfl, _, rfl, _, rfl, wa, p, pp, wd, td, d, o, path, (ks.zip xs).zip us, rfl, hw, same_un sG hp, ?_, same_un sG wg.p, ?_, by omega, fun z hz => ⟨kok _ (hzm z hz).2.1, vat_non (hzm z hz).1⟩, t2, ?_⟩
  · rw [zz1]
    exact same_un sG hd
  · rw [List.length_zip, List.length_zip]
    omega
  rw [zz2]
  cases hk : keptRun o path (ks.zip xs) [] with
  | error e =>
    rw [hk] at q
    exact outU_ext q x2
  | ok es =>
    rw [hk] at q
    have q : (match pairsRun (rawN o n) o path (ordered o es) [] [] with
      | .error e => OutU K H e E
      | .ok ys => ∀ (l : Addr) (us' : List V) (G' H' : Hp), New G (stH H) G' (stH H') → ExtN H H' → Tabs (TT K) H' → G' l = some (.lst us') → Paired (TabR n G') (((ordered o es).map fun e => Sum.inr (kT e.1)).zip ys) us' → ys.length = (ordered o es).length → Q (.ref l) H') := q
    intro q0 zs H2 hE hT2 hq0 hzs hzz
    rw [← hzs] at q
    have l12 : zs.length ≤ 12 := by
      have h1 := kept_len _ _ _ hk
      have h2 : zs.length = (ordered o es).length := by rw [← hzs, List.length_map]
      have h3 : (ordered o es).length = es.length := by
        unfold ordered
        split
        · exact List.length_mergeSort _
        · rfl
      rw [List.length_zip] at h1
      simp only [List.length_nil] at h1
      omega
    have hl2 := hE _ _ hlS (fun ps z => by cases z)
    have hs2 : H2 sA = some (SetK P w sA (fun _ => false) 0) := hE _ _ hsS (fun ps z => (by have z' : HO.ext _ = HO.tbl ps := z; cases z'))
    have sG2 : Same G (stH H2) := sG.trans (ext_st hE)
    have glN : G l = none := wg.s.free (stH_none hl)
    have gsN : G sA = none := wg.s.free (stH_none hsH)
    refine ⟨q0, rfl, ⟨_, SqL.of hq0⟩, ?_⟩
    refine for_list (K := K) (a := q0) (xs := zs.map fun z => V.ref z.1) (fun i σ H' => ∃ (v5 v6 v7 : Option V) (seen : List Str) (ys : List Val) (us' : List V) (G' : Hp) (S : Key → Bool) (cnt : Nat), σ = [some (.ref wa), some (.ref p), some (.ref pp), some (.ref l), some (.ref sA), v5, v6, v7] ∧
        New G (stH H2) G' (stH H') ∧ G' l = none ∧ G' sA = none ∧ H' l = some (.lst us') ∧ H' sA = some (SetK P w sA S cnt) ∧ cnt ≤ i ∧ (∀ x : Str, S (.inr x) = decide (x ∈ seen)) ∧
        Paired (TabR n G') ((((zs.map (·.2.1)).take i).map fun e => Sum.inr (kT e.1)).zip ys) us' ∧ ys.length = i ∧ pairsRun (rawN o n) o path (zs.map (·.2.1)) [] [] = pairsRun (rawN o n) o path ((zs.map (·.2.1)).drop i) seen ys ∧
        Tabs (TT K) H' ∧ ∀ b u, H2 b = some u → (∀ ps, u ≠ .tbl ps) → b ≠ l → b ≠ sA → H' b = some u)
      ⟨none, none, none, [], [], [], G, fun _ => false, 0, rfl, New.refl sG2, glN, gsN, hl2, hs2, Nat.le_refl _, fun x => rfl, .nil, rfl, rfl, hT2, fun b u e _ _ _ => e⟩ ?_ ?_ ?_
    · rintro i σ H' hi ⟨v5, v6, v7, seen, ys, us', G', S, cnt, rfl, nw, gl, gs, hl', hs', hc, hS, pr', hy, hrun, ht', fr⟩
      by_cases ql : q0 = l
      · subst ql
        rw [hl2] at hq0
        have e0 : zs = [] := by
          have e1 := HO.lst.inj (Option.some.inj hq0)
          exact (List.map_eq_nil_iff.mp e1.symm)
        subst e0
        have i0 : i = 0 := Nat.le_zero.mp hi
        subst i0
        cases pr'
        exact SqL.of hl'
      · refine SqL.of (fr _ _ hq0 (fun ps z => by cases z) ql fun e => ?_)
        rw [e, hs2] at hq0
        have z' : HO.ext _ = HO.lst _ := Option.some.inj hq0
        cases z'
    · rintro i x σ H' hx ⟨v5, v6, v7, seen, ys, us', G', S, cnt, rfl, nw, gl, gs, hl', hs', hc, hS, pr', hy, hrun, ht', fr⟩
      obtain ⟨z, hz, rfl⟩ := map_at hx
      obtain ⟨hzx, hzt⟩ := hzz z (List.mem_of_getElem? hz)
      obtain ⟨hv, hkm, hxm⟩ := hzm z.2 hzx
      have kok1 := kok _ hkm
      have hil : i < zs.length := (List.getElem?_eq_some_iff.mp hz).1
      have hdrop : (zs.map (·.2.1)).drop i = z.2.1 :: (zs.map (·.2.1)).drop (i + 1) := by
        have hz2 : (zs.map (·.2.1))[i]? = some z.2.1 := by rw [List.getElem?_map, hz]; rfl
        obtain ⟨hi', e3⟩ := List.getElem?_eq_some_iff.mp hz2
        rw [← e3, List.getElem_cons_drop]
      rw [hdrop] at hrun
      have z1l : z.1 ≠ l := fun e => by rw [e, hl2] at hzt; cases hzt
      have z1s : z.1 ≠ sA := fun e => by
        rw [e, hs2] at hzt
        have z' : HO.ext _ = HO.tup _ := Option.some.inj hzt
        cases z'
      have hzt' := fr _ _ hzt (fun ps z => by cases z) z1l z1s
      have sG' : Same G' (stH H') := nw.le
      have hwa' := same_un sG' (nw.up _ _ hwG)
      have hpp' := same_un sG' (nw.up _ _ wg.p)
      have xH' : ExtN H H' := fun b u e n => fr _ _ (hE _ _ (x2 _ _ e n) n) n (ne_of_none e hl) (ne_of_none e hsH)
      refine ⟨z.1, _, rfl, SqT.of hzt', rfl, _, _, rfl, _, _, rfl, rfl, ?_⟩
      refine ⟨_, rfl, z.2.1.1, rfl, kok1, ?_⟩
      refine ⟨_, rfl, _, rfl, .inr (kT z.2.1.1), sA, S, cnt, rfl, rfl, hs', _, rfl, ?_⟩
      have nb1 : ¬ decide (V.str o.dk = V.str "refuse") = true → (decide (kT z.2.1.1 ∈ seen) && decide (o.dk = "refuse")) = false := fun z2 => by
        rw [show decide (o.dk = "refuse") = false from decide_eq_false (fun e => z2 (by rw [e]; rfl)), Bool.and_false]
      have nb2 : ¬ (if false = true then !S (.inr (kT z.2.1.1)) else S (.inr (kT z.2.1.1))) = true → (decide (kT z.2.1.1 ∈ seen) && decide (o.dk = "refuse")) = false := fun z1 => by
        have z1 : ¬ S (.inr (kT z.2.1.1)) = true := z1
        rw [hS] at z1
        rw [Bool.eq_false_iff.mpr z1, Bool.false_and]
      refine (fun (h : (decide (kT z.2.1.1 ∈ seen) && decide (o.dk = "refuse")) = false → _) => ite2 (fun z1 => ⟨_, rfl, wa, _, _, _, _, rfl, hwa', cW, naW _ (by decide), rfl, rfl, _, rfl, ite2 (fun z2 => ?_) (fun z2 => h (nb1 z2))⟩) (fun z1 => iteF (h (nb2 z1)))) (fun nb => ?_)
      rotate_left
      · have z1 : S (.inr (kT z.2.1.1)) = true := z1
        rw [hS] at z1
        have bd : (decide (kT z.2.1.1 ∈ seen) && decide (o.dk = "refuse")) = true := by
          rw [z1, show o.dk = "refuse" from V.str.inj (of_decide_eq_true z2)]
          rfl
        rw [hrun, pairs_dbl bd] at q
        refine ⟨_, rfl, _, rfl, cat_key hpp' (by omega) fun p5 H5 sm h5 _ => ⟨_, _, rfl, fun d1 hd1 => ?_⟩⟩
        have q : OutU K H ("double", path ++ [z.2.1.1]) E := q
        exact q d1 p5 _ (xH'.trans (ExtN.of fun b u e => same_put hd1 _ _ _ (sm _ _ e))) ((ht'.ext sm).ext (same_put hd1 _)) upd_same (same_put hd1 _ _ _ h5)
      refine ⟨_, rfl, ⟨_, _, _, rfl, hs'⟩, _, rfl, sA, .inr (kT z.2.1.1), S, cnt, rfl, rfl, hs', (by show cnt + 1 < 4096; omega), ?_⟩
      have nset : ∀ {S' : Key → Bool} {c' : Nat} (ps : Array Value), SetK P w sA S' c' ≠ .tbl ps := fun {S' c'} ps z => by
        have z' : HO.ext _ = HO.tbl ps := z
        cases z'
      obtain ⟨HA, hHA⟩ : ∃ HA, HA = upd H' sA (SetK P w sA (fun j => S j || decide (j = .inr (kT z.2.1.1))) (if S (.inr (kT z.2.1.1)) = true then cnt else cnt + 1)) := ⟨_, rfl⟩
      have nwA : New G' (stH H') G' (stH HA) := by
        rw [hHA, stH_upd nset]
        exact New.mut sG' gs _
      have hlA : HA l = some (.lst us') := by rw [hHA, upd_ne lsA]; exact hl'
      have hsA' : HA sA = some (SetK P w sA (fun j => S j || decide (j = .inr (kT z.2.1.1))) (if S (.inr (kT z.2.1.1)) = true then cnt else cnt + 1)) := by rw [hHA, upd_same]
      have htA : Tabs (TT K) HA := by
        rw [hHA]
        exact tabs_mut ht' hs' nset set_ne_code
      have frA : ∀ b u, H' b = some u → b ≠ sA → HA b = some u := fun b u e n => by rw [hHA, upd_ne n]; exact e
      have sGA : Same G' (stH HA) := nwA.le
      have hwaA := same_un sGA (nw.up _ _ hwG)
      have hppA := same_un sGA (nw.up _ _ wg.p)
      subst hHA
      refine ⟨_, rfl, .inl ⟨rfl, _, SqL.of hlA⟩, _, rfl, _, rfl, wa, wd, _, rfl, hwaA, rfl, _, rfl, _, rfl, _, rfl, cat_key hppA (by omega) fun p5 H5 sm h5 nw5 => ?_⟩
      have n5 := nw5 G' sGA
      have nG5 := nw.trans (nwA.trans n5)
      refine ⟨wa, p5, o, path ++ [z.2.1.1], z.2.1.2, z.2.2, _, rfl, ⟨⟨wd, n5.up _ _ (nw.up _ _ hwG)⟩, upd_same, n5.le, htA.ext sm⟩, hv.up nG5.up, mx _ hxm, (by rw [List.length_append]; show path.length + 1 + n ≤ 61; omega), ?_⟩
      have x5 : ExtN H H5 := by
        intro b u e n
        exact sm _ _ (frA _ _ (xH' _ _ e n) (ne_of_none e hsH))
      cases hr : rawN o n z.2.1.2 (path ++ [z.2.1.1]) with
      | error er =>
        rw [hrun, pairs_err nb hr] at q
        exact outU_ext q x5
      | ok y =>
        intro v' G7 H7 nw7 hE7 hT7 ta
        rw [pairs_ok nb hr] at hrun
        have hl7 := hE7 _ _ (sm _ _ hlA) (fun ps z => by cases z)
        refine ⟨(by show 2 ≤ sizeLine; decide), fun q5 hq5 => ⟨l, us', _, rfl, rfl, same_put hq5 _ _ _ hl7, ?_, ?_⟩⟩
        · rw [← pr'.length, List.length_zip, hy]
          exact Nat.lt_of_le_of_lt (Nat.min_le_right _ _) (small1000 (by omega))
        have n8 := New.put nw7.le (stH_none hq5) (.tup [.str (kT z.2.1.1), v'])
        have nG8 := nG5.trans (nw7.trans n8)
        have gl8 : (upd G7 q5 (.tup [.str (kT z.2.1.1), v'])) l = none := (nwA.trans (n5.trans (nw7.trans n8))).new l _ (stH_at hl' (fun ps z => by cases z)) gl
        have gs8 : (upd G7 q5 (.tup [.str (kT z.2.1.1), v'])) sA = none := (nwA.trans (n5.trans (nw7.trans n8))).new sA _ (stH_at hs' nset) gs
        refine ⟨_, _, _, seen ++ [kT z.2.1.1], ys ++ [y], us' ++ [.ref q5], _, (fun j => S j || decide (j = .inr (kT z.2.1.1))), (if S (.inr (kT z.2.1.1)) = true then cnt else cnt + 1), rfl, ?_, gl8, gs8, upd_same, ?_, ?_, ?_, ?_, ?_, ?_, ?_, ?_⟩
        · rw [stH_upd (fun ps z => by cases z), stH_upd (fun ps z => by cases z)]
          exact nG8.trans (New.mut n8.le gl8 _)
        · rw [upd_ne lsA.symm]
          exact same_put hq5 _ _ _ (hE7 _ _ (sm _ _ hsA') nset)
        · split <;> omega
        · intro x
          show (S (.inr x) || decide (Sum.inr x = Sum.inr (kT z.2.1.1))) = _
          rw [hS]
          by_cases e1 : x ∈ seen
          · rw [decide_eq_true e1, Bool.true_or, decide_eq_true (List.mem_append_left _ e1)]
          · rw [decide_eq_false e1, Bool.false_or]
            by_cases e2 : x = kT z.2.1.1
            · rw [decide_eq_true (congrArg Sum.inr e2), decide_eq_true (List.mem_append_right _ (List.mem_singleton.mpr e2))]
            · rw [decide_eq_false (fun q => e2 (Sum.inr.inj q)), decide_eq_false (fun q => (List.mem_append.mp q).elim e1 fun q => e2 (List.mem_singleton.mp q))]
        · have ht2 : (zs.map (·.2.1)).take (i + 1) = (zs.map (·.2.1)).take i ++ [z.2.1] := by
            rw [List.take_add_one, List.getElem?_map, hz]
            rfl
          rw [ht2, List.map_append]
          show Paired _ ((_ ++ [Sum.inr (kT z.2.1.1)]).zip (ys ++ [y])) _
          rw [zip_snoc _ _ (by rw [List.length_map, List.length_take, List.length_map, hy]; omega)]
          exact (Paired.mapP pr' fun _ _ q => q.up (n5.up.trans (nw7.up.trans n8.up))).snoc ⟨q5, v', rfl, upd_same, ta.up n8.up⟩
        · rw [List.length_append, hy]
          rfl
        · exact hrun
        · exact tabs_mut (hT7.ext (same_put hq5 _)) (same_put hq5 _ _ _ hl7) (fun ps z => by cases z) lst_ne_code
        · intro b u e n b1 b2
          rw [upd_ne b1]
          exact same_put hq5 _ _ _ (hE7 _ _ (sm _ _ (frA _ _ (fr b u e n b1 b2) b2)) n)
    · rintro σ H' ⟨v5, v6, v7, seen, ys, us', G', S, cnt, rfl, nw, gl, gs, hl', hs', hc, hS, pr', hy, hrun, ht', fr⟩
      rw [List.length_map] at hrun pr' hy
      have e1 : (zs.map (·.2.1)).drop zs.length = [] := List.drop_eq_nil_of_le (by rw [List.length_map]; exact Nat.le_refl _)
      have e2 : (zs.map (·.2.1)).take zs.length = zs.map (·.2.1) := List.take_of_length_le (by rw [List.length_map]; exact Nat.le_refl _)
      rw [e1] at hrun
      rw [e2] at pr'
      have hrun : pairsRun (rawN o n) o path (zs.map (·.2.1)) [] [] = .ok ys := hrun
      rw [hrun] at q
      have xH' : ExtN H H' := fun b u e n => fr _ _ (hE _ _ (x2 _ _ e n) n) n (ne_of_none e hl) (ne_of_none e hsH)
      have nf := ((new_ext wg.s (x2.trans hE)).trans nw).fix wg.s (stH_none hl) (stH_at hl' (fun ps z => by cases z)) gl
      refine ⟨_, rfl, q l us' _ H' nf xH' ht' upd_same (Paired.mapP pr' fun _ _ z => z.up (same_put gl _)) (by rw [List.length_map]; exact hy)⟩
end
end K25
set_option Elab.async false
set_option linter.all false
set_option maxRecDepth 100000
set_option maxHeartbeats 4000000
/-! Writer.raw_at -/
namespace K25
open PySem PySem.Spec PyProof.Rows L2 C8 SX TL LamX
section
variable {f : Val → List Key → Except Err Val} {path : List Key} {x : Val} {r ys : List Val} {i : Nat}
theorem rows_err {e : Err} (hf : f x (path ++ [.inl (i : Int)]) = .error e) : rowsRun f path (x :: r) i ys = .error e := by
  show (match f x (path ++ [.inl (i : Int)]) with | .error x => _ | .ok y => _) = _
  rw [hf]
theorem rows_ok {y : Val} (hf : f x (path ++ [.inl (i : Int)]) = .ok y) : rowsRun f path (x :: r) i ys = rowsRun f path r (i + 1) (ys ++ [y]) := by
  show (match f x (path ++ [.inl (i : Int)]) with | .error x => _ | .ok y => _) = _
  rw [hf]
end
section
variable {P : Program} {w : World} {K : PySem.W.Frag} {mg : Str → Option Value} {base : Heap}
theorem scRawAt : FnScope ["self", "value", "path", "index", "item"] ["self", "value", "path"] (defScope (inClass (top 30) 5)) := ⟨rfl, rfl, rfl, by decide +kernel, rfl, by decide +kernel, by decide +kernel⟩
theorem c_rawAt (T : Txt3 K mg) (TB : TabB base mg (cKept K) (pKept K)) : ∀ n, MetR P w K mg base (2 * n + 6) (WC K) "raw_at" (spRaw K n)
  | 0 => by
    obtain ⟨f, fd, F, me⟩ := T.m_raw_at.ex
    exact ⟨f, fd, _, T.y_Writer.cl, me, F.ok (CX := L2.CX P w) (k := 5) (ps := ["self", "value", "path"]) scRawAt (fun vs H Q E ⟨wa, pp, o, path, t, v, G, _, _, h, _⟩ => h.elim) (fun cdv A outer s H vs Q E hr ⟨wa, pp, o, path, t, v, G, _, _, h, _⟩ => h.elim), F.bindsN (b3 fun _ _ _ _ _ _ _ _ _ => rfl)⟩
  | n + 1 => by
    have ih := c_rawAt T TB n
    obtain ⟨f, fd, F, me⟩ := T.m_raw_at.ex
    refine ⟨f, fd, _, T.y_Writer.cl, me, F.ok (CX := L2.CX P w) (k := 2 * n + 7) (ps := ["self", "value", "path"]) scRawAt (fun vs H Q E h => ?_) (fun cdv A outer s H vs Q E hr h => ?_), F.bindsN (b3 fun _ _ _ _ _ _ _ _ _ => rfl)⟩
    · obtain ⟨wa, pp, o, path, t, v, G, rfl, _⟩ := h
      rfl
    obtain ⟨wa, pp, o, path, t, v, G, rfl, wg, hv, mo, hpl, q⟩ := h
    have tk : Takes (cxOf (L2.CX P w) P w K mg base ["self", "value", "path", "index", "item"] "Writer.raw_at" (defScope (inClass (top 30) 5)) f cdv A outer s H E) (fun cls d _ H => E cls d H) := takes_of rfl rfl rfl rfl
    have hx := passes_call (E := E) tk (fun _ _ _ _ h => h)
    refine ⟨_, (pss_cons (ps_if (pt_val (pe_callB call_isi rfl T.n_isinstance (by decide +kernel) (pa_cons (pv 1) (pa_cons (pe_glob (v := .ref (He.ga K "Table")) rfl T.g_Table rfl) pa_nil))))
        (pss_one (ps_ret (pe_tup (pa_cons pe_str (pa_cons (pe_mtR (c_pairs T TB (by omega) ih) hr (by omega) hx (pv 0) (pa_cons (pv 1) (pa_cons (pv 2) pa_nil))) pa_nil)))))
        pss_nil)
      (pss_cons (ps_if (PW.pt (pw_and (pt_val (pe_callB call_isi rfl T.n_isinstance (by decide +kernel) (pa_cons (pv 1) (pa_cons (pe_bltn (v := .ty "tuple") (u := Value.type "tuple") rfl T.n_tuple (by decide +kernel) rfl) pa_nil)))) (pw_and1 (pt_cmpR op_eq (pe_fld (pv 0) rfl) pe_str (nomark _)))))
        (pss_one (ps_rU (c_U T) hr (by omega) rfl tk rfl (pa_cons pe_str (pa_cons (pv 2) pa_nil))))
        pss_nil)
      (pss_cons (ps_if (pt_val (pe_callB call_isiT rfl T.n_isinstance (by decide +kernel) (pa_cons (pv 1) (pa_cons (pe_tup (pa_cons (pe_bltn (v := .ty "list") (u := Value.type "list") rfl T.n_list (by decide +kernel) rfl) (pa_cons (pe_bltn (v := .ty "tuple") (u := Value.type "tuple") rfl T.n_tuple (by decide +kernel) rfl) pa_nil))) pa_nil))))
        (pss_one (ps_ret (pe_tup (pa_cons pe_str (pa_cons (pe_lcR (own := [("index", 3), ("item", 4)]) (g := (gTup K 2 (gCons (gName 3) (gCons (gName 4) gNil)))) (W := fun cls d _ H => E cls d H) (E' := E) rfl rfl tk (fun _ _ _ _ h => h) rfl scRawAt.nd (pi_enumA (by rfl) T.n_enumerate (pa_cons (pv 1) pa_nil)) (blkOk_by (N := ["self", "value", "path", "index", "item"]) (sc := defScope (inClass (top 30) 5)) (own := [("index", 3), ("item", 4)]) (by decide +kernel)) (fun _ _ _ _ _ => pg_tup rfl (pgs_cons (pg_name (i := 3) scRawAt.nd rfl (Or.inl rfl)) (pgs_cons (pg_name (i := 4) scRawAt.nd rfl (Or.inl rfl)) pgs_nil))) (fun _ _ _ _ _ _ hx => (pe_mtR ih hr (by omega) hx (pv 0) (pa_cons (pv 4) (pa_cons (pe_op (r := rCatA K) op_catA (pv 2) (pe_tup (pa_cons (pv 3) pa_nil))) pa_nil))))) pa_nil)))))
        pss_nil)
      (pss_cons (ps_if (PW.pt (pw_and (pt_val (pe_c (c_isInt T.toTxt2) hr (by omega) rfl (pa_cons (pv 1) pa_nil))) (pw_and (pt_cmpR op_gt (pe_callB call_len rfl T.n_len boot_len (pa_cons (pe_callTy call_str_int rfl T.n_str (by decide +kernel) (pa_cons (pe_callB call_abs rfl T.n_abs (by decide +kernel) (pa_cons (pv 1) pa_nil)) pa_nil)) pa_nil)) (ClX.pe_cval (pe_glob (v := .ref (He.ga K "Writer")) rfl T.g_Writer rfl)) (nomark _)) (pw_and1 (pt_cmpR op_ne (pe_fld (pv 0) rfl) pe_str (nomark _))))))
        (pss_cons (ps_if (pt_cmpR op_eq (pe_fld (pv 0) rfl) pe_str (nomark _))
            (pss_one (ps_rU (c_U T) hr (by omega) rfl tk rfl (pa_cons pe_str (pa_cons (pv 2) pa_nil))))
            pss_nil)
          (pss_one (ps_ret (pe_callTy call_str_int rfl T.n_str (by decide +kernel) (pa_cons (pv 1) pa_nil)))))
        pss_nil)
      (pss_one (ps_ret (pv 1))))))), ?_⟩
    have cW := T.y_Writer.cl
    have naW := fun f h => T.na_Writer f h
    obtain ⟨wd, hwG⟩ := wg.w
    have hwH := same_un wg.s hwG
    have sGH : Same G H := fun b u e => same_un wg.s e
    obtain ⟨ty, tx, h1, h2, h3, h4, h5, h6⟩ := (ty_val T.toTxt2 sGH hv).ex
    refine ⟨_, rfl, _, _, _, _, isTb t, rfl, .own _, tx, h6, _, rfl, ?_⟩
    have any3 : ∀ {H1 : Hp} {tp : Addr}, H tp = none → H1 = upd H tp (.tup [.ty "list", .ty "tuple"]) → ∃ ty, TyX K H1 v ty ∧ PySem.W.kitAny K ty [.type "list", .type "tuple"] = some (isL t || isTu t) := fun {H1 tp} htp e => by
      subst e
      obtain ⟨ty, tx, h1, h2, _⟩ := (ty_val (H := upd H tp (.tup [.ty "list", .ty "tuple"])) T.toTxt2 (sGH.trans (same_put htp _)) hv).ex
      refine ⟨ty, tx, kitAny_cons h1 (fun e1 => kitAny_cons h2 (fun e2 => ?_) fun e2 => ?_) fun e1 => ?_⟩
      · rw [e1, e2]
        exact kitAny_nil
      · rw [e2, Bool.or_true]
      · rw [e1, Bool.true_or]
    cases t with
    | tab ks xs =>
      obtain ⟨p, dx, d, us, rfl, hp, hd, hlen, pr⟩ := hv
      refine iteT ?_
      refine ⟨_, rfl, wa, wd, _, rfl, hwH, rfl, _, rfl, _, rfl, wa, p, pp, dx, d, o, path, ks, xs, us, G, rfl, wg, hp, hd, hlen, pr, mo, by omega, ?_⟩
      have er : rawN o (n + 1) (.tab ks xs) path = (match keptRun o path (ks.zip xs) [] with
        | .error x => .error x
        | .ok es => match pairsRun (rawN o n) o path (ordered o es) [] [] with
          | .error x => .error x
          | .ok ys => .ok (.tab ((ordered o es).map fun e => .inr (kT e.1)) ys)) := rfl
      cases hk : keptRun o path (ks.zip xs) [] with
      | error e =>
        have hr : rawN o (n + 1) (.tab ks xs) path = .error e := by rw [er, hk]
        rw [hr] at q
        exact q
      | ok es =>
        show (match pairsRun (rawN o n) o path (ordered o es) [] [] with | .error e => _ | .ok ys => _)
        cases hpr : pairsRun (rawN o n) o path (ordered o es) [] [] with
        | error e =>
          have hr : rawN o (n + 1) (.tab ks xs) path = .error e := by
            rw [er, hk]
            show (match pairsRun (rawN o n) o path (ordered o es) [] [] with | .error x => Except.error x | .ok ys => _) = _
            rw [hpr]
          rw [hr] at q
          exact q
        | ok ys =>
          have hr : rawN o (n + 1) (.tab ks xs) path = .ok (.tab ((ordered o es).map fun e => .inr (kT e.1)) ys) := by
            rw [er, hk]
            show (match pairsRun (rawN o n) o path (ordered o es) [] [] with | .error x => Except.error x | .ok ys => Except.ok (Val.tab ((ordered o es).map fun e : Key × Val => Sum.inr (kT e.1)) ys)) = _
            rw [hpr]
          rw [hr] at q
          have q : ∀ (v' : V) (G' H' : Hp), New G (stH H) G' (stH H') → ExtN H H' → Tabs (TT K) H' → TAt G' (n + 1) (.tab ((ordered o es).map fun e => .inr (kT e.1)) ys) v' → Q v' H' := q
          intro l us' G' H' nw hE hT hl' pr' hlen'
          obtain ⟨ps, rfl, pr2⟩ := tabs pr'
          refine ⟨(by show 2 ≤ sizeLine; decide), fun p5 hp5 => ?_⟩
          have np := New.put nw.le (stH_none hp5) (.tup [.str "table", .ref l])
          refine q (.ref p5) _ _ (?_ : New G (stH H) _ _) (hE.trans (ext_put hp5 _)) (hT.ext (same_put hp5 _)) ⟨p5, l, ps, rfl, upd_same, np.up _ _ hl', Paired.mapP pr2 fun _ _ ⟨u, z1, z2⟩ => ⟨u, np.up _ _ z1, z2.up np.up⟩⟩
          rw [stH_upd (fun ps z => by cases z)]
          exact nw.trans np
    | row tg xs =>
      refine iteF ?_
      have er : rawN o (n + 1) (.row tg xs) path = (if tg = "tuple" ∧ o.tp = "refuse" then .error ("tuple", path) else match rowsRun (rawN o n) path xs 0 [] with
        | .error x => .error x
        | .ok ys => .ok (.row "row" ys)) := rfl
      rw [er] at q
      refine ⟨_, rfl, _, _, _, _, isTu (.row tg xs), rfl, .ty "tuple", tx, h2, _, rfl, ?_⟩
      have nt1 : ¬ decide (V.str o.tp = V.str "refuse") = true → ¬ (tg = "tuple" ∧ o.tp = "refuse") := fun z e => z (by rw [e.2]; rfl)
      have nt2 : ¬ isTu (.row tg xs) = true → ¬ (tg = "tuple" ∧ o.tp = "refuse") := fun z e => z (decide_eq_true e.1)
      refine (fun (h : ¬ (tg = "tuple" ∧ o.tp = "refuse") → _) => ite2 (fun z1 => ⟨_, rfl, wa, _, _, _, _, rfl, hwH, cW, naW _ (by decide), rfl, rfl, _, rfl, ite2 (fun z2 => ?_) (fun z2 => h (nt1 z2))⟩) (fun z1 => iteF (h (nt2 z1)))) (fun nt => ?_)
      rotate_left
      · rw [if_pos ⟨of_decide_eq_true z1, V.str.inj (of_decide_eq_true z2)⟩] at q
        have q : OutU K H ("tuple", path) E := q
        exact ⟨_, rfl, _, _, rfl, fun d1 hd1 => q d1 pp _ (ext_put hd1 _) (wg.t.ext (same_put hd1 _)) upd_same (same_put hd1 _ _ _ (same_un wg.s wg.p))⟩
      rw [if_neg nt] at q
      refine ⟨_, rfl, (by show 2 ≤ sizeLine; decide), fun tp htp => ?_⟩
      obtain ⟨ty', tx', ha⟩ := any3 htp rfl
      refine ⟨_, tp, _, _, _, _, rfl, upd_same, .cons (.ty "list") (.cons (.ty "tuple") .nil), tx', ha, _, rfl, ?_⟩
      rw [show (isL (.row tg xs) || isTu (.row tg xs)) = true by by_cases e : tg = "tuple" <;> simp [isTu, isL, e]]
      refine iteT ?_
      have x1 : ExtN H (upd H tp (.tup [.ty "list", .ty "tuple"])) := ext_put htp _
      have t1 := wg.t.ext (same_put htp (.tup [.ty "list", .ty "tuple"]))
      have sG1 : Same G (stH (upd H tp (.tup [.ty "list", .ty "tuple"]))) := wg.s.trans (ext_st x1)
      obtain ⟨p, vs, rfl, hp, pr⟩ := hv
      obtain ⟨_, m12, mx⟩ := mo
      generalize hH1 : upd H tp (.tup [.ty "list", .ty "tuple"]) = H1 at *
      rcases hp with ⟨_, hp⟩ | ⟨_, hp⟩
      · have hp1 := same_un sG1 hp
        refine ⟨_, rfl, p, vs, rfl, .inr ⟨SqT.of hp1, fun D hD => ?_⟩⟩
        have pD : p ≠ D := ne_of_none hp1 hD
        have gD : G D = none := sG1.free (stH_none hD)
        refine lc_gen (n := xs.length) (fun i H' => ∃ (vs' : List V) (G' : Hp) (ys : List Val), New G (stH H1) G' (stH H') ∧ G' D = none ∧ H' D = some (.lst vs') ∧ Paired (TAt G' n) ys vs' ∧ ys.length = i ∧ rowsRun (rawN o n) path xs 0 [] = rowsRun (rawN o n) path (xs.drop i) i ys ∧ Tabs (TT K) H' ∧
            ∀ b u, H1 b = some u → (∀ ps, u ≠ .tbl ps) → b ≠ D → H' b = some u)
          ⟨[], G, [], ?_, gD, upd_same, .nil, rfl, rfl, t1.ext (same_put hD _), fun b u e _ hb => by rw [upd_ne hb]; exact e⟩ ?_ ?_ ?_ ?_
        · rw [stH_upd (fun ps z => by cases z)]
          exact New.hid sG1 (stH_none hD) _
        · rintro i H' hi ⟨vs', G', ys, nw, gd, hd', pr', hy, hrun, ht, fr⟩
          exact ⟨vs, vs[i]'(by rw [← pr.length]; exact hi), SqT.of (fr _ _ hp1 (fun ps z => by cases z) pD), List.getElem?_eq_getElem _⟩
        · rintro H' ⟨vs', G', ys, nw, gd, hd', pr', hy, hrun, ht, fr⟩
          exact ⟨vs, SqT.of (fr _ _ hp1 (fun ps z => by cases z) pD), by rw [← pr.length]; exact Nat.le_refl _⟩
        · rintro i H' x H2 hi ⟨vs', G', ys, nw, gd, hd', pr', hy, hrun, ht, fr⟩ ⟨t, u, rfl, htn, rfl, hu⟩
          have hu := hu _ (SqT.of (fr _ _ hp1 (fun ps z => by cases z) pD))
          obtain ⟨y, hyi, hyv, _⟩ := paired_at pr hu
          have hdrop : xs.drop i = y :: xs.drop (i + 1) := by
            obtain ⟨hi', e3⟩ := List.getElem?_eq_some_iff.mp hyi
            rw [← e3, List.getElem_cons_drop]
          rw [hdrop] at hrun
          have sm2 := same_put htn (.tup [.int (i : Nat), u])
          have n2 : New G' (stH H') G' (stH (upd H' t (.tup [.int (i : Nat), u]))) := by
            rw [stH_upd (fun ps z => by cases z)]
            exact New.hid nw.le (stH_none htn) _
          have hw2 := same_un n2.le (nw.up _ _ hwG)
          have hpp2 := same_un n2.le (nw.up _ _ wg.p)
          refine ⟨t, _, rfl, SqT.of upd_same, rfl, _, _, rfl, _, _, rfl, rfl, rfl, _, rfl, wa, wd, _, rfl, hw2, rfl, _, rfl, _, rfl, _, rfl, cat_key (k := .inl (i : Int)) hpp2 (by omega) fun p5 H5 sm h5 nw5 => ?_⟩
          have n5 := nw5 G' n2.le
          have nG5 := nw.trans (n2.trans n5)
          refine ⟨wa, p5, o, path ++ [.inl (i : Int)], y, u, _, rfl, ⟨⟨wd, n5.up _ _ (nw.up _ _ hwG)⟩, upd_same, n5.le, (ht.ext sm2).ext sm⟩, hyv.up nG5.up, mx _ (List.mem_of_getElem? hyi), (by rw [List.length_append]; show path.length + 1 + n ≤ 61; omega), ?_⟩
          cases hr : rawN o n y (path ++ [.inl (i : Int)]) with
          | error er =>
            rw [hrun, rows_err hr] at q
            have q : OutU K H er E := q
            exact outU_ext q fun b w' e nn => sm _ _ (sm2 _ _ (fr _ _ (x1 _ _ e nn) nn (ne_of_none (x1 _ _ e nn) hD)))
          | ok y' =>
            intro v' G7 H7 nw7 hE7 hT7 ta
            rw [rows_ok hr] at hrun
            have hd7 := hE7 _ _ (sm _ _ (sm2 _ _ hd')) (fun ps z => by cases z)
            have g7 : G7 D = none := (n2.trans (n5.trans nw7)).new D _ (stH_at hd' (fun ps z => by cases z)) gd
            refine ⟨vs', hd7, ?_, vs' ++ [v'], G7, ys ++ [y'], ?_, g7, upd_same, ?_, by rw [List.length_append, hy]; rfl, hrun, tabs_mut hT7 hd7 (fun ps z => by cases z) lst_ne_code, fun b w' e nn hb => ?_⟩
            · rw [← pr'.length, hy]
              exact small1000 (by omega)
            · rw [stH_upd (fun ps z => by cases z)]
              exact (nG5.trans nw7).trans (New.mut nw7.le g7 _)
            · exact (Paired.mapP pr' fun _ _ z => z.up (n5.up.trans nw7.up)).snoc ta
            · rw [upd_ne hb]
              exact hE7 _ _ (sm _ _ (sm2 _ _ (fr _ _ e nn hb))) nn
        · rintro H' ⟨vs', G', ys, nw, gd, hd', pr', hy, hrun, ht, fr⟩
          rw [List.drop_length] at hrun
          have hrun : rowsRun (rawN o n) path xs 0 [] = .ok ys := hrun
          rw [hrun] at q
          have q : ∀ (v' : V) (G' H' : Hp), New G (stH H) G' (stH H') → ExtN H H' → Tabs (TT K) H' → TAt G' (n + 1) (.row "row" ys) v' → Q v' H' := q
          have nf := nw.fix sG1 (stH_none hD) (stH_at hd' (fun ps z => by cases z)) gd
          refine ⟨(by show 2 ≤ sizeLine; decide), fun p5 hp5 => ?_⟩
          have np := New.put nf.le (stH_none hp5) (.tup [.str "row", .ref D])
          refine q (.ref p5) _ _ (?_ : New G (stH H) _ _) (fun b w' e nn => same_put hp5 _ _ _ (fr _ _ (x1 _ _ e nn) nn (ne_of_none (x1 _ _ e nn) hD))) (ht.ext (same_put hp5 _)) ⟨p5, D, vs', rfl, upd_same, np.up _ _ upd_same, Paired.mapP pr' fun _ _ z => (z.up (same_put gd _)).up np.up⟩
          rw [stH_upd (fun ps z => by cases z)]
          exact (new_ext wg.s x1).trans (nf.trans np)
      · have hp1 := same_un sG1 hp
        refine ⟨_, rfl, p, vs, rfl, .inl ⟨SqL.of hp1, fun D hD => ?_⟩⟩
        have pD : p ≠ D := ne_of_none hp1 hD
        have gD : G D = none := sG1.free (stH_none hD)
        refine lc_gen (n := xs.length) (fun i H' => ∃ (vs' : List V) (G' : Hp) (ys : List Val), New G (stH H1) G' (stH H') ∧ G' D = none ∧ H' D = some (.lst vs') ∧ Paired (TAt G' n) ys vs' ∧ ys.length = i ∧ rowsRun (rawN o n) path xs 0 [] = rowsRun (rawN o n) path (xs.drop i) i ys ∧ Tabs (TT K) H' ∧
            ∀ b u, H1 b = some u → (∀ ps, u ≠ .tbl ps) → b ≠ D → H' b = some u)
          ⟨[], G, [], ?_, gD, upd_same, .nil, rfl, rfl, t1.ext (same_put hD _), fun b u e _ hb => by rw [upd_ne hb]; exact e⟩ ?_ ?_ ?_ ?_
        · rw [stH_upd (fun ps z => by cases z)]
          exact New.hid sG1 (stH_none hD) _
        · rintro i H' hi ⟨vs', G', ys, nw, gd, hd', pr', hy, hrun, ht, fr⟩
          exact ⟨vs, vs[i]'(by rw [← pr.length]; exact hi), SqL.of (fr _ _ hp1 (fun ps z => by cases z) pD), List.getElem?_eq_getElem _⟩
        · rintro H' ⟨vs', G', ys, nw, gd, hd', pr', hy, hrun, ht, fr⟩
          exact ⟨vs, SqL.of (fr _ _ hp1 (fun ps z => by cases z) pD), by rw [← pr.length]; exact Nat.le_refl _⟩
        · rintro i H' x H2 hi ⟨vs', G', ys, nw, gd, hd', pr', hy, hrun, ht, fr⟩ ⟨t, u, rfl, htn, rfl, hu⟩
          have hu := hu _ (SqL.of (fr _ _ hp1 (fun ps z => by cases z) pD))
          obtain ⟨y, hyi, hyv, _⟩ := paired_at pr hu
          have hdrop : xs.drop i = y :: xs.drop (i + 1) := by
            obtain ⟨hi', e3⟩ := List.getElem?_eq_some_iff.mp hyi
            rw [← e3, List.getElem_cons_drop]
          rw [hdrop] at hrun
          have sm2 := same_put htn (.tup [.int (i : Nat), u])
          have n2 : New G' (stH H') G' (stH (upd H' t (.tup [.int (i : Nat), u]))) := by
            rw [stH_upd (fun ps z => by cases z)]
            exact New.hid nw.le (stH_none htn) _
          have hw2 := same_un n2.le (nw.up _ _ hwG)
          have hpp2 := same_un n2.le (nw.up _ _ wg.p)
          refine ⟨t, _, rfl, SqT.of upd_same, rfl, _, _, rfl, _, _, rfl, rfl, rfl, _, rfl, wa, wd, _, rfl, hw2, rfl, _, rfl, _, rfl, _, rfl, cat_key (k := .inl (i : Int)) hpp2 (by omega) fun p5 H5 sm h5 nw5 => ?_⟩
          have n5 := nw5 G' n2.le
          have nG5 := nw.trans (n2.trans n5)
          refine ⟨wa, p5, o, path ++ [.inl (i : Int)], y, u, _, rfl, ⟨⟨wd, n5.up _ _ (nw.up _ _ hwG)⟩, upd_same, n5.le, (ht.ext sm2).ext sm⟩, hyv.up nG5.up, mx _ (List.mem_of_getElem? hyi), (by rw [List.length_append]; show path.length + 1 + n ≤ 61; omega), ?_⟩
          cases hr : rawN o n y (path ++ [.inl (i : Int)]) with
          | error er =>
            rw [hrun, rows_err hr] at q
            have q : OutU K H er E := q
            exact outU_ext q fun b w' e nn => sm _ _ (sm2 _ _ (fr _ _ (x1 _ _ e nn) nn (ne_of_none (x1 _ _ e nn) hD)))
          | ok y' =>
            intro v' G7 H7 nw7 hE7 hT7 ta
            rw [rows_ok hr] at hrun
            have hd7 := hE7 _ _ (sm _ _ (sm2 _ _ hd')) (fun ps z => by cases z)
            have g7 : G7 D = none := (n2.trans (n5.trans nw7)).new D _ (stH_at hd' (fun ps z => by cases z)) gd
            refine ⟨vs', hd7, ?_, vs' ++ [v'], G7, ys ++ [y'], ?_, g7, upd_same, ?_, by rw [List.length_append, hy]; rfl, hrun, tabs_mut hT7 hd7 (fun ps z => by cases z) lst_ne_code, fun b w' e nn hb => ?_⟩
            · rw [← pr'.length, hy]
              exact small1000 (by omega)
            · rw [stH_upd (fun ps z => by cases z)]
              exact (nG5.trans nw7).trans (New.mut nw7.le g7 _)
            · exact (Paired.mapP pr' fun _ _ z => z.up (n5.up.trans nw7.up)).snoc ta
            · rw [upd_ne hb]
              exact hE7 _ _ (sm _ _ (sm2 _ _ (fr _ _ e nn hb))) nn
        · rintro H' ⟨vs', G', ys, nw, gd, hd', pr', hy, hrun, ht, fr⟩
          rw [List.drop_length] at hrun
          have hrun : rowsRun (rawN o n) path xs 0 [] = .ok ys := hrun
          rw [hrun] at q
          have q : ∀ (v' : V) (G' H' : Hp), New G (stH H) G' (stH H') → ExtN H H' → Tabs (TT K) H' → TAt G' (n + 1) (.row "row" ys) v' → Q v' H' := q
          have nf := nw.fix sG1 (stH_none hD) (stH_at hd' (fun ps z => by cases z)) gd
          refine ⟨(by show 2 ≤ sizeLine; decide), fun p5 hp5 => ?_⟩
          have np := New.put nf.le (stH_none hp5) (.tup [.str "row", .ref D])
          refine q (.ref p5) _ _ (?_ : New G (stH H) _ _) (fun b w' e nn => same_put hp5 _ _ _ (fr _ _ (x1 _ _ e nn) nn (ne_of_none (x1 _ _ e nn) hD))) (ht.ext (same_put hp5 _)) ⟨p5, D, vs', rfl, upd_same, np.up _ _ upd_same, Paired.mapP pr' fun _ _ z => (z.up (same_put gd _)).up np.up⟩
          rw [stH_upd (fun ps z => by cases z)]
          exact (new_ext wg.s x1).trans (nf.trans np)
    | non =>
      refine iteF ?_
      refine ⟨_, rfl, _, _, _, _, false, rfl, .ty "tuple", tx, h2, _, rfl, ?_⟩
      refine iteF (iteF ?_)
      refine ⟨_, rfl, (by show 2 ≤ sizeLine; decide), fun tp htp => ?_⟩
      obtain ⟨ty', tx', ha⟩ := any3 htp rfl
      refine ⟨_, tp, _, _, _, _, rfl, upd_same, .cons (.ty "list") (.cons (.ty "tuple") .nil), tx', ha, _, rfl, ?_⟩
      refine iteF ?_
      have x1 : ExtN H (upd H tp (.tup [.ty "list", .ty "tuple"])) := ext_put htp _
      have t1 := wg.t.ext (same_put htp (.tup [.ty "list", .ty "tuple"]))
      have sG1 : Same G (stH (upd H tp (.tup [.ty "list", .ty "tuple"]))) := wg.s.trans (ext_st x1)
      have nw1 := new_ext wg.s x1
      have tk2 : TyA K (upd H tp (.tup [.ty "list", .ty "tuple"])) v _ _ _ _ _ _ := ty_val T.toTxt2 (fun b u e => same_un sG1 e) hv
      cases hv
      refine ⟨_, rfl, _, _, _, _, _, _, _, rfl, tk2, _, rfl, ?_⟩
      exact iteF (iteF ⟨_, rfl, q _ G _ nw1 x1 t1 rfl⟩)
    | bl b =>
      refine iteF ?_
      refine ⟨_, rfl, _, _, _, _, false, rfl, .ty "tuple", tx, h2, _, rfl, ?_⟩
      refine iteF (iteF ?_)
      refine ⟨_, rfl, (by show 2 ≤ sizeLine; decide), fun tp htp => ?_⟩
      obtain ⟨ty', tx', ha⟩ := any3 htp rfl
      refine ⟨_, tp, _, _, _, _, rfl, upd_same, .cons (.ty "list") (.cons (.ty "tuple") .nil), tx', ha, _, rfl, ?_⟩
      refine iteF ?_
      have x1 : ExtN H (upd H tp (.tup [.ty "list", .ty "tuple"])) := ext_put htp _
      have t1 := wg.t.ext (same_put htp (.tup [.ty "list", .ty "tuple"]))
      have sG1 : Same G (stH (upd H tp (.tup [.ty "list", .ty "tuple"]))) := wg.s.trans (ext_st x1)
      have nw1 := new_ext wg.s x1
      have tk2 : TyA K (upd H tp (.tup [.ty "list", .ty "tuple"])) v _ _ _ _ _ _ := ty_val T.toTxt2 (fun b u e => same_un sG1 e) hv
      cases hv
      refine ⟨_, rfl, _, _, _, _, _, _, _, rfl, tk2, _, rfl, ?_⟩
      exact iteF (iteF ⟨_, rfl, q _ G _ nw1 x1 t1 rfl⟩)
    | str x =>
      refine iteF ?_
      refine ⟨_, rfl, _, _, _, _, false, rfl, .ty "tuple", tx, h2, _, rfl, ?_⟩
      refine iteF (iteF ?_)
      refine ⟨_, rfl, (by show 2 ≤ sizeLine; decide), fun tp htp => ?_⟩
      obtain ⟨ty', tx', ha⟩ := any3 htp rfl
      refine ⟨_, tp, _, _, _, _, rfl, upd_same, .cons (.ty "list") (.cons (.ty "tuple") .nil), tx', ha, _, rfl, ?_⟩
      refine iteF ?_
      have x1 : ExtN H (upd H tp (.tup [.ty "list", .ty "tuple"])) := ext_put htp _
      have t1 := wg.t.ext (same_put htp (.tup [.ty "list", .ty "tuple"]))
      have sG1 : Same G (stH (upd H tp (.tup [.ty "list", .ty "tuple"]))) := wg.s.trans (ext_st x1)
      have nw1 := new_ext wg.s x1
      have tk2 : TyA K (upd H tp (.tup [.ty "list", .ty "tuple"])) v _ _ _ _ _ _ := ty_val T.toTxt2 (fun b u e => same_un sG1 e) hv
      cases hv
      refine ⟨_, rfl, _, _, _, _, _, _, _, rfl, tk2, _, rfl, ?_⟩
      exact iteF (iteF ⟨_, rfl, q _ G _ nw1 x1 t1 rfl⟩)
    | int i =>
      refine iteF ?_
      refine ⟨_, rfl, _, _, _, _, false, rfl, .ty "tuple", tx, h2, _, rfl, ?_⟩
      refine iteF (iteF ?_)
      refine ⟨_, rfl, (by show 2 ≤ sizeLine; decide), fun tp htp => ?_⟩
      obtain ⟨ty', tx', ha⟩ := any3 htp rfl
      refine ⟨_, tp, _, _, _, _, rfl, upd_same, .cons (.ty "list") (.cons (.ty "tuple") .nil), tx', ha, _, rfl, ?_⟩
      refine iteF ?_
      have x1 : ExtN H (upd H tp (.tup [.ty "list", .ty "tuple"])) := ext_put htp _
      have t1 := wg.t.ext (same_put htp (.tup [.ty "list", .ty "tuple"]))
      have sG1 : Same G (stH (upd H tp (.tup [.ty "list", .ty "tuple"]))) := wg.s.trans (ext_st x1)
      have nw1 := new_ext wg.s x1
      have tk2 : TyA K (upd H tp (.tup [.ty "list", .ty "tuple"])) v _ _ _ _ _ _ := ty_val T.toTxt2 (fun b u e => same_un sG1 e) hv
      cases hv
      refine ⟨_, rfl, _, _, _, _, _, _, _, rfl, tk2, _, rfl, ?_⟩
      refine iteT ?_
      obtain ⟨mc, u0, cr, cv⟩ := T.w_dig
      have er : rawN o (n + 1) (.int i) path = (if longI i = true ∧ o.ln ≠ "keep" then (if o.ln = "refuse" then .error ("long", path) else .ok (.str (toString i))) else .ok (.int i)) := rfl
      rw [er] at q
      have mo : i.natAbs < 10 ^ 30 := mo
      have mo2 : (if i < 0 then -i else i).natAbs < 10 ^ 30 := by split <;> omega
      have hw1 := same_un sG1 hwG
      refine ⟨_, rfl, i, rfl, _, rfl, log2_small mo2, _, _, rfl, ⟨Nat.le_of_lt (small1000 (by have := int_len mo2; omega)), rfl⟩, _, mc, _, u0, rfl, cr, cv, _, _, rfl, rfl, _, rfl, ?_⟩
      have nl1 : ¬ (!decide (V.str o.ln = V.str "keep")) = true → ¬ (longI i = true ∧ o.ln ≠ "keep") := fun z e => z (by rw [decide_eq_false (fun q => e.2 (V.str.inj q))]; rfl)
      have nl2 : ¬ decide ((15 : Int) < ((toString (if i < 0 then -i else i) : Str).length : Int)) = true → ¬ (longI i = true ∧ o.ln ≠ "keep") := fun z e => z e.1
      refine (fun (h : ¬ (longI i = true ∧ o.ln ≠ "keep") → _) => ite2 (fun z1 => ⟨_, rfl, wa, _, _, _, _, rfl, hw1, cW, naW _ (by decide), rfl, rfl, _, rfl, ite2 (fun z2 => ?_) (fun z2 => h (nl1 z2))⟩) (fun z1 => iteF (h (nl2 z1)))) (fun nt => ?_)
      rotate_left
      · have nk : o.ln ≠ "keep" := fun e => by
          rw [e] at z2
          exact absurd z2 (by decide)
        rw [if_pos ⟨z1, nk⟩] at q
        refine ⟨_, rfl, wa, _, _, _, _, rfl, hw1, cW, naW _ (by decide), rfl, rfl, _, rfl, ?_⟩
        refine ite2 (fun z3 => ?_) (fun z3 => ?_)
        · rw [if_pos (V.str.inj (of_decide_eq_true z3))] at q
          have q : OutU K H ("long", path) E := q
          exact ⟨_, rfl, _, _, rfl, fun d1 hd1 => q d1 pp _ (x1.trans (ext_put hd1 _)) (t1.ext (same_put hd1 _)) upd_same (same_put hd1 _ _ _ (same_un sG1 wg.p))⟩
        · rw [if_neg (fun e => z3 (by rw [e]; rfl))] at q
          exact ⟨_, rfl, i, rfl, log2_small mo, q _ G _ nw1 x1 t1 rfl⟩
      rw [if_neg nt] at q
      exact ⟨_, rfl, q _ G _ nw1 x1 t1 rfl⟩
end
end K25
set_option Elab.async false
set_option linter.all false
set_option maxRecDepth 100000
set_option maxHeartbeats 4000000
/-! THE MATHEMATICS, second part: escapes, lengths, what a writer's result keeps. -/
namespace K25
open PySem L2 TL
theorem esc_app : ∀ (l r : List Nat), esc (l ++ r) = esc l ++ esc r
  | [], _ => rfl
  | c :: l, r => by
    have ih := esc_app l r
    show (if c = 34 ∨ c = 92 then _ else _) = (if c = 34 ∨ c = 92 then _ else _) ++ _
    split
    · show 92 :: c :: esc (l ++ r) = _
      rw [ih]
      rfl
    · show c :: esc (l ++ r) = _
      rw [ih]
      rfl
theorem esc_len : ∀ l : List Nat, (esc l).length ≤ 2 * l.length
  | [] => Nat.le_refl _
  | c :: l => by
    have ih := esc_len l
    show (if c = 34 ∨ c = 92 then 92 :: c :: esc l else c :: esc l).length ≤ _
    split <;> simp only [List.length_cons] <;> omega
theorem esc_codes : ∀ (l : List Nat), (∀ c ∈ l, c < 1114112) → ∀ c ∈ esc l, c < 1114112
  | [], _, c, hc => by cases hc
  | d :: l, h, c, hc => by
    have ih := esc_codes l fun c hc => h c (List.mem_cons_of_mem _ hc)
    have hd := h d List.mem_cons_self
    have hc : c ∈ (if d = 34 ∨ d = 92 then 92 :: d :: esc l else d :: esc l) := hc
    split at hc
    · rcases List.mem_cons.mp hc with e | hc
      · omega
      · rcases List.mem_cons.mp hc with e | hc
        · rw [e]; exact hd
        · exact ih c hc
    · rcases List.mem_cons.mp hc with e | hc
      · rw [e]; exact hd
      · exact ih c hc
open StrLaws in
/-- the two replacements -/
theorem repl_esc : ∀ l : List Nat, replL [34] [92, 34] (replL [92] [92, 92] l) = esc l
  | [] => rfl
  | c :: r => by
    have ih := repl_esc r
    by_cases h1 : c = 92
    · subst h1
      rw [replL_hit (y := [92]) (z := [92, 92]) (by decide) (show List.take 1 (92 :: r) = [92] from rfl)]
      show replL [34] [92, 34] (92 :: 92 :: replL [92] [92, 92] r) = 92 :: 92 :: esc r
      rw [replL_miss (y := [34]) (z := [92, 34]) (show ¬ [92] = [34] by decide), replL_miss (y := [34]) (z := [92, 34]) (show ¬ [92] = [34] by decide), ih]
    · rw [replL_miss (y := [92]) (z := [92, 92]) (show ¬ [c] = [92] from fun e => h1 (List.cons.inj e).1)]
      by_cases h2 : c = 34
      · subst h2
        rw [replL_hit (y := [34]) (z := [92, 34]) (by decide) (show List.take 1 (34 :: replL [92] [92, 92] r) = [34] from rfl)]
        show 92 :: 34 :: replL [34] [92, 34] (replL [92] [92, 92] r) = 92 :: 34 :: esc r
        rw [ih]
      · rw [replL_miss (y := [34]) (z := [92, 34]) (show ¬ [c] = [34] from fun e => h2 (List.cons.inj e).1), ih]
        show c :: esc r = if c = 34 ∨ c = 92 then _ else _
        rw [if_neg (fun e => e.elim h2 h1)]
theorem strL_len {x : Str} (h : SOk x) : (strL (tl x)).length ≤ 602 := by
  have h1 := esc_len (tl x)
  have h2 := h.1
  rw [len_tl] at h2
  unfold strL
  rw [List.length_cons, List.length_append]
  show (esc (tl x)).length + 1 + 1 ≤ 602
  omega
theorem strL_codes {x : Str} (h : SOk x) : ∀ c ∈ strL (tl x), c < 1114112 := fun c hc => by
  unfold strL at hc
  rcases List.mem_cons.mp hc with e | hc
  · omega
  · rcases List.mem_append.mp hc with hc | hc
    · exact esc_codes _ h.2 c hc
    · rw [List.mem_singleton.mp hc]
      decide
theorem joinL_snoc (s : List Nat) : ∀ (ls : List (List Nat)) (a : List Nat), joinL s (ls ++ [a]) = if ls = [] then a else joinL s ls ++ (s ++ a)
  | [], a => by rw [if_pos rfl]; rfl
  | [b], a => by rw [if_neg (by simp)]; rfl
  | b :: c :: r, a => by
    have ih := joinL_snoc s (c :: r) a
    rw [if_neg (by simp)] at ih
    rw [if_neg (by simp)]
    show b ++ (s ++ joinL s ((c :: r) ++ [a])) = b ++ (s ++ joinL s (c :: r)) ++ (s ++ a)
    rw [ih]
    simp [List.append_assoc]
theorem joinL_len (s : List Nat) : ∀ ls : List (List Nat), (joinL s ls).length ≤ (ls.map fun a => a.length + s.length).sum
  | [] => Nat.zero_le _
  | [a] => by
    simp only [List.map_cons, List.map_nil, List.sum_cons, List.sum_nil]
    show a.length ≤ _
    omega
  | a :: b :: r => by
    have ih := joinL_len s (b :: r)
    rw [List.map_cons, List.sum_cons]
    show (a ++ (s ++ joinL s (b :: r))).length ≤ _
    rw [List.length_append, List.length_append]
    omega
theorem sum_le {α : Type} {f g : α → Nat} : ∀ {l : List α}, (∀ x ∈ l, f x ≤ g x) → (l.map f).sum ≤ (l.map g).sum
  | [], _ => Nat.le_refl _
  | x :: l, h => by
    rw [List.map_cons, List.map_cons, List.sum_cons, List.sum_cons]
    exact Nat.add_le_add (h x List.mem_cons_self) (sum_le fun y hy => h y (List.mem_cons_of_mem _ hy))
theorem sum_mul {α : Type} {f : α → Nat} (k : Nat) : ∀ l : List α, (l.map fun x => k * f x).sum = k * (l.map f).sum
  | [] => rfl
  | x :: l => by
    rw [List.map_cons, List.map_cons, List.sum_cons, List.sum_cons, sum_mul k l, Nat.mul_add]
theorem map_zip_snd {α β γ : Type} (f : β → γ) : ∀ (ks : List α) (xs : List β), ks.length = xs.length → ((ks.zip xs).map fun e => f e.2) = xs.map f
  | [], [], _ => rfl
  | _ :: ks, x :: xs, h => congrArg (f x :: ·) (map_zip_snd f ks xs (Nat.succ.inj h))
  | [], _ :: _, h => by cases h
  | _ :: _, [], h => by cases h
theorem text_len : ∀ {n : Nat} {t : Val}, ROk n t → (textN n t).length + 604 ≤ 1300 * cnt n t
  | 0, _, h => h.elim
  | _ + 1, .non, _ => by show 4 + 604 ≤ 1300 * 1; decide
  | _ + 1, .bl true, _ => by show 4 + 604 ≤ 1300 * 1; decide
  | _ + 1, .bl false, _ => by show 5 + 604 ≤ 1300 * 1; decide
  | _ + 1, .int i, h => by
    have h := numI_len (i := i) h
    show (numI i).length + 604 ≤ 1300 * 1
    omega
  | _ + 1, .str s, h => by
    have := strL_len (x := s) h
    show (strL (tl s)).length + 604 ≤ 1300 * 1
    omega
  | n + 1, .row t xs, ⟨_, h12, hx⟩ => by
    have h1 := joinL_len [44] (xs.map (textN n))
    rw [List.map_map] at h1
    have h2 : (xs.map ((fun a : List Nat => a.length + [44].length) ∘ textN n)).sum ≤ (xs.map fun x => 1300 * cnt n x).sum := sum_le fun x h => by
      have := text_len (hx x h)
      show (textN n x).length + 1 ≤ _
      omega
    rw [sum_mul] at h2
    show (91 :: (joinL [44] (xs.map (textN n)) ++ [93])).length + 604 ≤ 1300 * (1 + (xs.map (cnt n)).sum)
    rw [List.length_cons, List.length_append]
    show (joinL [44] (xs.map (textN n))).length + 1 + 1 + 604 ≤ _
    have : (xs.map (cnt n)).sum = (xs.map fun x => cnt n x).sum := rfl
    omega
  | n + 1, .tab ks xs, ⟨hl, h12, hk, hx⟩ => by
    have h1 := joinL_len [44] ((ks.zip xs).map fun e => strL (tl (kT e.1)) ++ 58 :: textN n e.2)
    rw [List.map_map] at h1
    have h2 : ((ks.zip xs).map ((fun a : List Nat => a.length + [44].length) ∘ fun e : Key × Val => strL (tl (kT e.1)) ++ 58 :: textN n e.2)).sum ≤ ((ks.zip xs).map fun e => 1300 * cnt n e.2).sum := sum_le fun e h => by
      have h3 := text_len (hx e.2 (List.of_mem_zip h).2)
      obtain ⟨s, es, so⟩ := hk e.1 (List.of_mem_zip h).1
      have h4 := strL_len so
      show (strL (tl (kT e.1)) ++ 58 :: textN n e.2).length + 1 ≤ _
      rw [es, List.length_append, List.length_cons]
      show (strL (tl s)).length + _ + 1 ≤ _
      omega
    rw [sum_mul, map_zip_snd (cnt n) ks xs hl] at h2
    show (123 :: (joinL [44] ((ks.zip xs).map fun e => strL (tl (kT e.1)) ++ 58 :: textN n e.2) ++ [125])).length + 604 ≤ 1300 * (1 + (xs.map (cnt n)).sum)
    rw [List.length_cons, List.length_append]
    show (joinL [44] _).length + 1 + 1 + 604 ≤ _
    omega
theorem codes_join {s : List Nat} (hs : ∀ c ∈ s, c < 1114112) : ∀ {ls : List (List Nat)}, (∀ a ∈ ls, ∀ c ∈ a, c < 1114112) → ∀ c ∈ joinL s ls, c < 1114112
  | [], _, c, hc => by cases hc
  | [a], h, c, hc => h a List.mem_cons_self c hc
  | a :: b :: r, h, c, hc => by
    have hc : c ∈ a ++ (s ++ joinL s (b :: r)) := hc
    rcases List.mem_append.mp hc with hc | hc
    · exact h a List.mem_cons_self c hc
    · rcases List.mem_append.mp hc with hc | hc
      · exact hs c hc
      · exact codes_join hs (fun a ha => h a (List.mem_cons_of_mem _ ha)) c hc
theorem ROk.more : ∀ {n : Nat} {t : Val}, ROk n t → ROk (n + 1) t
  | 0, _, h => h.elim
  | _ + 1, .non, h => h
  | _ + 1, .bl _, h => h
  | _ + 1, .int _, h => h
  | _ + 1, .str _, h => h
  | _ + 1, .row _ _, h => ⟨h.1, Nat.lt_of_lt_of_le h.2.1 (by omega), fun x hx => ROk.more (h.2.2 x hx)⟩
  | _ + 1, .tab _ _, h => ⟨h.1, Nat.lt_of_lt_of_le h.2.1 (by omega), h.2.2.1, fun x hx => ROk.more (h.2.2.2 x hx)⟩
/-! ### what the writer's result keeps -/
theorem kept_sum {o : Opts} {path : List Key} {f : E → Nat} : ∀ (es acc r : List E), keptRun o path es acc = .ok r → (r.map f).sum ≤ (acc.map f).sum + (es.map f).sum ∧ ∀ e ∈ r, e ∈ acc ∨ e ∈ es
  | [], acc, r, h => by
    cases h
    exact ⟨Nat.le_refl _, fun e he => .inl he⟩
  | e :: es, acc, r, h => by
    rw [List.map_cons, List.sum_cons]
    have weak : ∀ {acc' : List E}, acc' = acc → keptRun o path es acc' = .ok r → (r.map f).sum ≤ (acc.map f).sum + (f e + (es.map f).sum) ∧ ∀ x ∈ r, x ∈ acc ∨ x ∈ e :: es := fun {acc'} ea h' => by
      rw [ea] at h'
      obtain ⟨h1, h2⟩ := kept_sum (f := f) es _ r h'
      exact ⟨by omega, fun x hx => (h2 x hx).imp id (List.mem_cons_of_mem _)⟩
    cases h1 : skips o e with
    | true =>
      rw [kept_skip h1] at h
      exact weak rfl h
    | false =>
      cases h2 : bads o e with
      | true =>
        rw [kept_bad h1 h2] at h
        cases h
      | false =>
        cases h3 : keeps o e with
        | true =>
          rw [kept_keep h1 h2 h3] at h
          obtain ⟨q1, q2⟩ := kept_sum (f := f) es _ r h
          rw [List.map_append, List.sum_append] at q1
          simp only [List.map_cons, List.map_nil, List.sum_cons, List.sum_nil] at q1
          refine ⟨by omega, fun x hx => ?_⟩
          rcases q2 x hx with q | q
          · rcases List.mem_append.mp q with q | q
            · exact .inl q
            · exact .inr (by rw [List.mem_singleton.mp q]; exact List.mem_cons_self)
          · exact .inr (List.mem_cons_of_mem _ q)
        | false =>
          rw [kept_drop h1 h2 h3] at h
          exact weak rfl h
theorem rows_sum {f : Val → List Key → Except Err Val} {g h : Val → Nat} {R : Val → Prop} {path : List Key} : ∀ (xs : List Val) (i : Nat) (acc r : List Val), (∀ x ∈ xs, ∀ p y, f x p = .ok y → h y ≤ g x ∧ R y) → rowsRun f path xs i acc = .ok r →
    r.length = acc.length + xs.length ∧ (r.map h).sum ≤ (acc.map h).sum + (xs.map g).sum ∧ ∀ y ∈ r, y ∈ acc ∨ R y
  | [], i, acc, r, _, hr => by
    cases hr
    exact ⟨rfl, Nat.le_refl _, fun y hy => .inl hy⟩
  | x :: xs, i, acc, r, hf, hr => by
    cases e : f x (path ++ [.inl (i : Int)]) with
    | error er =>
      rw [rows_err e] at hr
      cases hr
    | ok y =>
      rw [rows_ok e] at hr
      obtain ⟨q1, q2, q3⟩ := rows_sum xs (i + 1) _ r (fun x hx => hf x (List.mem_cons_of_mem _ hx)) hr
      obtain ⟨a, b⟩ := hf x List.mem_cons_self _ y e
      rw [List.length_append] at q1
      rw [List.map_append, List.sum_append] at q2
      simp only [List.map_cons, List.map_nil, List.sum_cons, List.sum_nil, List.length_cons, List.length_nil] at q1 q2 ⊢
      refine ⟨by omega, by omega, fun z hz => ?_⟩
      rcases q3 z hz with q | q
      · rcases List.mem_append.mp q with q | q
        · exact .inl q
        · exact .inr (by rw [List.mem_singleton.mp q]; exact b)
      · exact .inr q
theorem pairs_sum {f : Val → List Key → Except Err Val} {g h : Val → Nat} {R : Val → Prop} {o : Opts} {path : List Key} : ∀ (es : List E) (seen : List Str) (acc r : List Val), (∀ e ∈ es, ∀ p y, f e.2 p = .ok y → h y ≤ g e.2 ∧ R y) → pairsRun f o path es seen acc = .ok r →
    r.length = acc.length + es.length ∧ (r.map h).sum ≤ (acc.map h).sum + (es.map fun e => g e.2).sum ∧ ∀ y ∈ r, y ∈ acc ∨ R y
  | [], seen, acc, r, _, hr => by
    cases hr
    exact ⟨rfl, Nat.le_refl _, fun y hy => .inl hy⟩
  | e :: es, seen, acc, r, hf, hr => by
    cases hb : (decide (kT e.1 ∈ seen) && decide (o.dk = "refuse")) with
    | true =>
      rw [pairs_dbl hb] at hr
      cases hr
    | false =>
      cases e1 : f e.2 (path ++ [e.1]) with
      | error er =>
        rw [pairs_err hb e1] at hr
        cases hr
      | ok y =>
        rw [pairs_ok hb e1] at hr
        obtain ⟨q1, q2, q3⟩ := pairs_sum es _ _ r (fun x hx => hf x (List.mem_cons_of_mem _ hx)) hr
        obtain ⟨a, b⟩ := hf e List.mem_cons_self _ y e1
        rw [List.length_append] at q1
        rw [List.map_append, List.sum_append] at q2
        simp only [List.map_cons, List.map_nil, List.sum_cons, List.sum_nil, List.length_cons, List.length_nil] at q1 q2 ⊢
        refine ⟨by omega, by omega, fun z hz => ?_⟩
        rcases q3 z hz with q | q
        · rcases List.mem_append.mp q with q | q
          · exact .inl q
          · exact .inr (by rw [List.mem_singleton.mp q]; exact b)
        · exact .inr q
theorem kT_ok {k : Key} (h : KOk k) : SOk (kT k) := by
  cases k with
  | inl i => exact int_ok h
  | inr s => exact h
theorem ord_perm (o : Opts) (es : List E) : (ordered o es).Perm es := by
  unfold ordered
  split
  · exact List.mergeSort_perm _ _
  · exact List.Perm.refl _
theorem raw_ok {o : Opts} : ∀ {n : Nat} {t : Val} {path : List Key} {y : Val}, MOk n t → rawN o n t path = .ok y → cnt n y ≤ cnt n t ∧ ROk n y
  | 0, _, _, _, h, _ => h.elim
  | n + 1, .non, path, y, _, h => by cases h; exact ⟨Nat.le_refl _, trivial⟩
  | n + 1, .bl b, path, y, _, h => by cases h; exact ⟨Nat.le_refl _, trivial⟩
  | n + 1, .str s, path, y, h1, h => by cases h; exact ⟨Nat.le_refl _, h1⟩
  | n + 1, .int i, path, y, h1, h => by
    have h : (if longI i = true ∧ o.ln ≠ "keep" then (if o.ln = "refuse" then (Except.error (("long" : Str), path) : Except Err Val) else .ok (Val.str (toString i))) else .ok (.int i)) = Except.ok y := h
    split at h
    · split at h
      · cases h
      · cases h
        exact ⟨Nat.le_refl _, int_ok h1⟩
    · cases h
      exact ⟨Nat.le_refl _, h1⟩
  | n + 1, .row t xs, path, y, ⟨_, h12, hx⟩, h => by
    have h : (if t = "tuple" ∧ o.tp = "refuse" then (Except.error (("tuple" : Str), path) : Except Err Val) else match rowsRun (rawN o n) path xs 0 [] with
      | .error x => .error x
      | .ok ys => .ok (Val.row "row" ys)) = Except.ok y := h
    split at h
    · cases h
    · cases e : rowsRun (rawN o n) path xs 0 [] with
      | error x => rw [e] at h; cases h
      | ok ys =>
        rw [e] at h
        cases h
        obtain ⟨q1, q2, q3⟩ := rows_sum (g := cnt n) (h := cnt n) (R := ROk n) xs 0 [] ys (fun x hx' p y hy => raw_ok (hx x hx') hy) e
        simp only [List.length_nil, List.map_nil, List.sum_nil] at q1 q2
        refine ⟨?_, rfl, by omega, fun y hy => (q3 y hy).resolve_left (by simp)⟩
        show 1 + (ys.map (cnt n)).sum ≤ 1 + (xs.map (cnt n)).sum
        omega
  | n + 1, .tab ks xs, path, y, ⟨hl, h12, nd, kok, hx⟩, h => by
    have h : (match keptRun o path (ks.zip xs) [] with
      | .error x => Except.error x
      | .ok es => match pairsRun (rawN o n) o path (ordered o es) [] [] with
        | .error x => .error x
        | .ok ys => .ok (Val.tab ((ordered o es).map fun e => .inr (kT e.1)) ys)) = Except.ok y := h
    cases e : keptRun o path (ks.zip xs) [] with
    | error x => rw [e] at h; cases h
    | ok es =>
      rw [e] at h
      have h : (match pairsRun (rawN o n) o path (ordered o es) [] [] with
        | .error x => .error x
        | .ok ys => .ok (Val.tab ((ordered o es).map fun e => .inr (kT e.1)) ys)) = Except.ok y := h
      cases e2 : pairsRun (rawN o n) o path (ordered o es) [] [] with
      | error x => rw [e2] at h; cases h
      | ok ys =>
        rw [e2] at h
        cases h
        obtain ⟨k1, k2⟩ := kept_sum (f := fun e => cnt n e.2) _ _ _ e
        have k3 := kept_len _ _ _ e
        have pm := ord_perm o es
        have mem : ∀ z ∈ ordered o es, z ∈ ks.zip xs := fun z hz => (k2 z (pm.mem_iff.mp hz)).resolve_left (by simp)
        obtain ⟨q1, q2, q3⟩ := pairs_sum (g := cnt n) (h := cnt n) (R := ROk n) (ordered o es) [] [] ys (fun z hz p y hy => raw_ok (hx _ (List.of_mem_zip (mem z hz)).2) hy) e2
        have ps : ((ordered o es).map fun e => cnt n e.2).sum = (es.map fun e => cnt n e.2).sum := (pm.map _).sum_nat
        have pl := pm.length_eq
        rw [map_zip_snd (cnt n) ks xs hl] at k1
        rw [List.length_zip] at k3
        simp only [List.length_nil, List.map_nil, List.sum_nil] at q1 q2 k1 k3
        refine ⟨?_, by rw [List.length_map]; omega, by omega, fun k hk => ?_, fun y hy => (q3 y hy).resolve_left (by simp)⟩
        · show 1 + (ys.map (cnt n)).sum ≤ 1 + (xs.map (cnt n)).sum
          omega
        · obtain ⟨z, hz, rfl⟩ := List.mem_map.mp hk
          exact ⟨_, rfl, kT_ok (kok _ (List.of_mem_zip (mem z hz)).1)⟩
end K25
set_option Elab.async false
set_option linter.all false
set_option maxRecDepth 100000
set_option maxHeartbeats 4000000
/-! _law_own_string, _law_tokens, render_string, render -/
namespace K25
open PySem PySem.Spec PyProof.Rows L2 C8 SX TL
theorem one_eq {c d : Nat} : decide (V.str ⟨#[c]⟩ = V.str ⟨#[d]⟩) = decide (c = d) := by
  by_cases e : c = d
  · rw [e, decide_eq_true rfl, decide_eq_true rfl]
  · rw [decide_eq_false e, decide_eq_false fun q => e ?_]
    have h := congrArg tl (V.str.inj q)
    exact (List.cons.inj h).1
theorem q34 : ("\"" : Str) = ⟨#[34]⟩ := by decide +kernel
theorem q92 : ("\\" : Str) = ⟨#[92]⟩ := by decide +kernel
theorem tl_one (c : Nat) : tl (⟨#[c]⟩ : Str) = [c] := rfl
theorem flat_len (us : List Str) : (us.map (·.length)).sum = ((us.map tl).flatten).length := by
  rw [List.length_flatten, List.map_map]
  exact congrArg List.sum (List.map_congr_left fun y _ => len_tl y)
section
variable {P : Program} {w : World} {K : PySem.W.Frag} {mg : Str → Option Value} {base : Heap}
def spOwn : Sp := fun vs H Q _ => ∃ x : Str, vs = [.str x] ∧ SOk x ∧ ∀ (z : Str) (H' : Hp), tl z = strL (tl x) → Same H H' → Q (.str z) H'
theorem scOwn : FnScope ["_law_text_here", "_law_signs", "_law_sign_here"] ["_law_text_here"] (defScope (top 54)) := ⟨rfl, rfl, rfl, by decide +kernel, rfl, by decide +kernel, by decide +kernel⟩
theorem c_own (T : Txt K mg) : Cal P w K mg base 1 "_law_own_string" spOwn [] := by
  refine T.f_own_string.cal scOwn (b1 fun _ _ _ _ _ _ _ => rfl) (fun vs H Q E h => ?_) (fun f cdv A outer s H vs Q E hr h => ?_)
  · obtain ⟨x, rfl, _⟩ := h
    rfl
  obtain ⟨x, rfl, hx, k⟩ := h
  refine ⟨_, (pss_cons (ps_set (i := 1) scOwn.nd rfl (Or.inl rfl) (pe_lst pa_nil))
      (pss_cons (ps_for PassesOwn.never rfl (pi_str (pv 0)) (pg_name (i := 2) scOwn.nd rfl (Or.inl rfl))
        (pss_cons (ps_if (PW.pt (pw_or (pt_cmpR op_eq (pv 2) pe_str (nomark _)) (pw_or1 (pt_cmpR op_eq (pv 2) pe_str (nomark _)))))
            (pss_one (ps_expr (pe_bm PySem.F.plainAttrs_list PySem.F.slot_list_append PySem.F.type_list_append mt_append (pv 1) (pa_cons pe_str pa_nil))))
            pss_nil)
          (pss_one (ps_expr (pe_bm PySem.F.plainAttrs_list PySem.F.slot_list_append PySem.F.type_list_append mt_append (pv 1) (pa_cons (pv 2) pa_nil))))))
      (pss_one (ps_ret (pe_op op_add_str (pe_op op_add_str pe_str (pe_join pe_str (pv 1))) pe_str))))), ?_⟩
  refine ⟨(by show 0 ≤ sizeLine; decide), fun l hl => ⟨_, rfl, _, rfl, ?_⟩⟩
  have x300 := hx.1
  rw [len_tl] at x300
  refine for_gen (n := (tl x).length) (fun i σ H' => ∃ (v : Option V) (us : List Str), σ = [some (.str x), some (.ref l), v] ∧ H' l = some (.lst (us.map V.str)) ∧ (us.map tl).flatten = esc ((tl x).take i) ∧ us.length ≤ 2 * i ∧ Same H H')
    ⟨none, [], rfl, upd_same, rfl, Nat.zero_le _, same_put hl _⟩ ?_ ?_ ?_ ?_
  · exact fun i σ H' hi _ => by
      show i < _
      rw [← Array.length_toList]
      exact hi
  · exact fun σ H' _ => by
      show _ ≤ _
      rw [← Array.length_toList]
      exact Nat.le_refl _
  · rintro i σ H' v H2 hi ⟨v2, us, rfl, hu, hfl, hul, sm⟩ ⟨rfl, c, ec, rfl⟩
    have ec2 : (tl x)[i]? = some c := by
      rw [← Array.getElem?_toList] at ec
      exact ec
    have htk : (tl x).take (i + 1) = (tl x).take i ++ [c] := by rw [List.take_add_one, ec2]; rfl
    have smut : ∀ {H3 : Hp} {o : HO}, Same H H3 → Same H (upd H3 l o) := fun h b u q => by
      rw [upd_ne (ne_of_none q hl)]
      exact h b u q
    have ful : ∀ {us : List Str}, us.length ≤ 2 * i + 1 → (us.map V.str).length < sizeLine := fun h => by
      rw [List.length_map]
      exact small1000 (by omega)
    refine ⟨_, rfl, rfl, _, rfl, ?_⟩
    rw [q34, one_eq]
    have go : ∀ (us' : List Str) (H3 : Hp), H3 l = some (.lst (us'.map V.str)) → (us'.map tl).flatten ++ [c] = esc ((tl x).take (i + 1)) → us'.length ≤ 2 * i + 1 → Same H H3 →
        ∃ (v : Option V) (us : List Str), [some (V.str x), some (V.ref l), some (V.str ⟨#[c]⟩)] = [some (.str x), some (.ref l), v] ∧ (upd H3 l (.lst (us'.map V.str ++ [V.str ⟨#[c]⟩]))) l = some (.lst (us.map V.str)) ∧ (us.map tl).flatten = esc ((tl x).take (i + 1)) ∧ us.length ≤ 2 * (i + 1) ∧ Same H (upd H3 l (.lst (us'.map V.str ++ [V.str ⟨#[c]⟩]))) := by
      intro us' H3 h3 h4 h5 h6
      refine ⟨_, us' ++ [⟨#[c]⟩], rfl, by rw [upd_same, List.map_append]; rfl, ?_, by rw [List.length_append]; show us'.length + 1 ≤ _; omega, smut h6⟩
      rw [List.map_append, List.flatten_append]
      exact h4
    refine (fun (h : (c = 34 ∨ c = 92) → _) => ite2 (fun z => iteT (h (.inl (of_decide_eq_true z)))) (fun z => ⟨_, rfl, rfl, _, rfl, ite2 (fun z2 => h (.inr ?_)) (fun z2 => ?_)⟩)) (fun hc => ?_)
    · refine ⟨_, rfl, .inl ⟨rfl, _, SqL.of hu⟩, l, _, _, rfl, rfl, hu, ful (by omega), ?_⟩
      have hu2 : (upd H2 l (.lst (us.map V.str ++ [V.str "\\"]))) l = some (.lst ((us ++ [("\\" : Str)]).map V.str)) := by rw [upd_same, List.map_append]; rfl
      refine ⟨_, rfl, .inl ⟨rfl, _, SqL.of hu2⟩, _, rfl, l, _, _, rfl, rfl, hu2, ful (by rw [List.length_append]; show us.length + 1 ≤ _; omega), ?_⟩
      refine go (us ++ [("\\" : Str)]) _ hu2 ?_ (by rw [List.length_append]; show us.length + 1 ≤ _; omega) (smut sm)
      rw [htk, esc_app, List.map_append, List.flatten_append, hfl, q92]
      show _ ++ [92] ++ [c] = _ ++ (if c = 34 ∨ c = 92 then [92, c] else [c])
      rw [if_pos hc, List.append_assoc]
      rfl
    · rw [q92, one_eq] at z2
      exact of_decide_eq_true z2
    · rw [q92, one_eq] at z2
      have nc : ¬ (c = 34 ∨ c = 92) := fun e => e.elim (fun e => z (decide_eq_true e)) (fun e => z2 (decide_eq_true e))
      refine ⟨_, rfl, .inl ⟨rfl, _, SqL.of hu⟩, _, rfl, l, _, _, rfl, rfl, hu, ful (by omega), ?_⟩
      refine go us _ hu ?_ (by omega) sm
      rw [htk, esc_app, hfl]
      show _ ++ [c] = _ ++ (if c = 34 ∨ c = 92 then [92, c] else [c])
      rw [if_neg nc]
  · rintro σ H' ⟨v2, us, rfl, hu, hfl, hul, sm⟩
    rw [List.take_length] at hfl
    have el := esc_len (tl x)
    have jl : (Txt.join "" us).length ≤ 600 := by
      rw [join0_len, flat_len, hfl]
      omega
    have big : (602 : Nat) ≤ sizeLine := Nat.le_of_lt (small1000 (by omega))
    refine ⟨⟨_, rfl⟩, _, rfl, _, l, us, rfl, rfl, .inl (SqL.of hu), ?_, _, _, rfl, rfl, ?_, _, _, rfl, rfl, ?_, k _ H' ?_ sm⟩
    · rw [flat_len, hfl]
      show _ + us.length * 0 ≤ 16777216
      omega
    · show 1 + (Txt.join "" us).length ≤ sizeLine
      omega
    · rw [len_tl, tl_append, List.length_append, ← len_tl, ← len_tl]
      show 1 + (Txt.join "" us).length + 1 ≤ sizeLine
      omega
    · rw [tl_append, tl_append, tl_join0, hfl]
      rfl
end
end K25
set_option Elab.async false
set_option linter.all false
set_option maxRecDepth 100000
set_option maxHeartbeats 4000000
/-! _law_tokens -/
namespace K25
open PySem PySem.Spec PyProof.Rows L2 C8 SX TL
theorem dp_strs {K : PySem.W.Frag} {H : Hp} : ∀ us : List Str, DpAll K H (us.map V.str) (us.map PyData.str)
  | [] => .nil
  | s :: r => .cons (.str s) (dp_strs r)
theorem shaped_strs (us : List Str) (h : ∀ u ∈ us, ∀ c ∈ tl u, c < 1114112) : SeqAt.shaped (.list (us.map PyData.str)) = true := by
  have h1 : PyData.canLayAll0 (us.map PyData.str) = true := by
    induction us with
    | nil => rfl
    | cons s r ih =>
      have ih := ih fun k hk => h k (List.mem_cons_of_mem _ hk)
      have q := h s List.mem_cons_self
      simp only [List.map_cons, PyData.canLayAll0, PyData.canLay0, ih, Bool.and_true]
      show s.cps.all (· < 0x110000) = true
      rw [Array.all_eq_true_iff_forall_mem]
      exact fun c hc => decide_eq_true (q c (Array.mem_def.mp hc))
  have h2 : PyData.depthAll (us.map PyData.str) = 0 := by
    clear h h1
    induction us with
    | nil => rfl
    | cons s r ih => simp [PyData.depthAll, PyData.depth, ih]
  simp [SeqAt.shaped, PyData.canLay0, PyData.depth, h1, h2]
theorem cnt_pos : ∀ (n : Nat) (t : Val), 1 ≤ cnt n t
  | 0, _ => Nat.le_refl _
  | _ + 1, .non => Nat.le_refl _
  | _ + 1, .bl _ => Nat.le_refl _
  | _ + 1, .int _ => Nat.le_refl _
  | _ + 1, .str _ => Nat.le_refl _
  | n + 1, .row _ xs => Nat.le_add_right 1 _
  | n + 1, .tab _ xs => Nat.le_add_right 1 _
theorem ne_nil (s : Str) (r : List Str) : (!(PyData.list ((s :: r).map PyData.str)).eqv (PyData.list [])) = true := rfl
section
variable {P : Program} {w : World} {K : PySem.W.Frag} {mg : Str → Option Value} {base : Heap}
def TokP (u : Str) : Prop := ∀ c ∈ tl u, c < 1114112
def spTok (n : Nat) : Sp := fun vs H Q _ => ∃ (t : Val) (v : V) (G : Hp), vs = [v] ∧ Same G H ∧ TAt G n t v ∧ ROk n t ∧ cnt n t ≤ 600 ∧
  ∀ (l : Addr) (us : List Str) (H' : Hp), H' l = some (.lst (us.map V.str)) → us ≠ [] → (us.map tl).flatten = textN n t → us.length + 6 ≤ 12 * cnt n t → (∀ u ∈ us, TokP u) → Same H H' → Q (.ref l) H'
theorem scTokens : FnScope ["_law_raw", "_law_tokens_here", "_law_member"] ["_law_raw"] (defScope (top 55)) := ⟨rfl, rfl, rfl, by decide +kernel, rfl, by decide +kernel, by decide +kernel⟩
theorem c_tokens (T : Txt2 K mg) : ∀ n, Cal P w K mg base (n + 2) "_law_tokens" (spTok n) []
  | 0 => T.f_tokens.cal (k := 1) scTokens (b1 fun _ _ _ _ _ _ _ => rfl) (fun vs H Q E ⟨t, v, G, _, _, h, _⟩ => h.elim) (fun f cdv A outer s H vs Q E hr ⟨t, v, G, _, _, h, _⟩ => h.elim)
  | n + 1 => by
    have ih := c_tokens T n
    refine T.f_tokens.cal (k := n + 2) scTokens (b1 fun _ _ _ _ _ _ _ => rfl) (fun vs H Q E h => ?_) (fun f cdv A outer s H vs Q E hr h => ?_)
    · obtain ⟨t, v, G, rfl, _⟩ := h
      rfl
    obtain ⟨t, v, G, rfl, sg, ta, ro, hc, k⟩ := h
    refine ⟨_, (pss_cons (ps_if (pt_cmp (pc_isN (pv 0)) rfl)
        (pss_one (ps_ret (pe_lst (pa_cons pe_str pa_nil))))
        pss_nil)
      (pss_cons (ps_if (pt_cmpR op_isC (pv 0) pe_bl (nomark _))
        (pss_one (ps_ret (pe_lst (pa_cons pe_str pa_nil))))
        pss_nil)
      (pss_cons (ps_if (pt_cmpR op_isC (pv 0) pe_bl (nomark _))
        (pss_one (ps_ret (pe_lst (pa_cons pe_str pa_nil))))
        pss_nil)
      (pss_cons (ps_if (pt_val (pe_callB call_isi rfl T.n_isinstance (by decide +kernel) (pa_cons (pv 0) (pa_cons (pe_bltn (v := .ty "str") (u := Value.type "str") rfl T.n_str (by decide +kernel) rfl) pa_nil))))
        (pss_one (ps_ret (pe_lst (pa_cons (pe_c (c_own T.toTxt) hr (by omega) rfl (pa_cons (pv 0) pa_nil)) pa_nil))))
        pss_nil)
      (pss_cons (ps_if (pt_val (pe_callB call_isi rfl T.n_isinstance (by decide +kernel) (pa_cons (pv 0) (pa_cons (pe_bltn (v := .ty "int") (u := Value.type "int") rfl T.n_int (by decide +kernel) rfl) pa_nil))))
        (pss_one (ps_ret (pe_lst (pa_cons (pe_callTy call_str_int rfl T.n_str (by decide +kernel) (pa_cons (pv 0) pa_nil)) pa_nil))))
        pss_nil)
      (pss_cons (ps_set (i := 1) scTokens.nd rfl (Or.inl rfl) (pe_lst pa_nil))
      (pss_cons (ps_for PassesOwn.never rfl (pi_list (pe_ix ix_tup (pv 0) pe_int (fun _ _ => rfl))) (pg_name (i := 2) scTokens.nd rfl (Or.inl rfl))
        (pss_cons (ps_if (pt_cmpR (op_neD hr.units) (pv 1) (pe_lst pa_nil) (nomark _))
            (pss_one (ps_expr (pe_bm PySem.F.plainAttrs_list PySem.F.slot_list_append PySem.F.type_list_append mt_append (pv 1) (pa_cons pe_str pa_nil))))
            pss_nil)
          (pss_one (ps_if (pt_cmpR op_eq (pe_ix ix_tup (pv 0) pe_int (fun _ _ => rfl)) pe_str (nomark _))
            (pss_one (ps_set (i := 1) scTokens.nd rfl (Or.inl rfl) (pe_op op_cat (pv 1) (pe_c ih hr (by omega) rfl (pa_cons (pv 2) pa_nil)))))
            (pss_one (ps_set (i := 1) scTokens.nd rfl (Or.inl rfl) (pe_op op_cat (pe_op op_cat (pv 1) (pe_lst (pa_cons (pe_c (c_own T.toTxt) hr (by omega) rfl (pa_cons (pe_ix ix_tup (pv 2) pe_int (fun _ _ => rfl)) pa_nil)) (pa_cons pe_str pa_nil)))) (pe_c ih hr (by omega) rfl (pa_cons (pe_ix ix_tup (pv 2) pe_int (fun _ _ => rfl)) pa_nil)))))))))
      (pss_cons (ps_if (pt_cmpR op_eq (pe_ix ix_tup (pv 0) pe_int (fun _ _ => rfl)) pe_str (nomark _))
        (pss_one (ps_ret (pe_op op_cat (pe_op op_cat (pe_lst (pa_cons pe_str pa_nil)) (pv 1)) (pe_lst (pa_cons pe_str pa_nil)))))
        pss_nil)
      (pss_one (ps_ret (pe_op op_cat (pe_op op_cat (pe_lst (pa_cons pe_str pa_nil)) (pv 1)) (pe_lst (pa_cons pe_str pa_nil))))))))))))), ?_⟩
    obtain ⟨ty, tx, h1, h2, h3, h4, h5, h6⟩ := (ty_raw T sg ta).ex
    have one : ∀ (u : Str), tl u = textN (n + 1) t → TokP u → (1 ≤ sizeLine) ∧ ∀ p, H p = none → Q (.ref p) (upd H p (.lst [.str u])) := fun u e tp =>
      ⟨by decide, fun p hp => k p [u] _ upd_same (by simp) (by rw [List.map_cons, List.map_nil, List.flatten_cons, List.flatten_nil, List.append_nil]; exact e) (by
        have := cnt_pos (n + 1) t
        show 1 + 6 ≤ _
        omega) (fun x hx => by rw [List.mem_singleton.mp hx]; exact tp) (same_put hp _)⟩
    refine ⟨_, rfl, _, rfl, ?_⟩
    cases t with
    | non =>
      cases ta
      exact iteT (one "null" (show tl ("null" : Str) = [110, 117, 108, 108] by decide +kernel) (by unfold TokP; decide +kernel))
    | bl b =>
      cases ta
      refine iteF ?_
      refine ⟨_, rfl, true, rfl, _, rfl, ?_⟩
      cases b with
      | true => exact iteT (one "true" (show tl ("true" : Str) = [116, 114, 117, 101] by decide +kernel) (by unfold TokP; decide +kernel))
      | false =>
        refine iteF ?_
        refine ⟨_, rfl, false, rfl, _, rfl, ?_⟩
        exact iteT (one "false" (show tl ("false" : Str) = [102, 97, 108, 115, 101] by decide +kernel) (by unfold TokP; decide +kernel))
    | str x =>
      cases ta
      refine iteF ⟨_, rfl, true, rfl, _, rfl, iteF ⟨_, rfl, false, rfl, _, rfl, iteF ?_⟩⟩
      refine ⟨_, rfl, _, _, _, _, true, rfl, .ty "str", tx, h3, _, rfl, iteT ?_⟩
      refine ⟨_, rfl, x, rfl, ro, fun z H' hz sm => ⟨(by show 1 ≤ sizeLine; decide), fun p hp => k p [z] _ upd_same (by simp) (by rw [List.map_cons, List.map_nil, List.flatten_cons, List.flatten_nil, List.append_nil]; exact hz) (by show 1 + 6 ≤ 12 * 1; decide) (fun y hy => by rw [List.mem_singleton.mp hy]; intro c hc; rw [hz] at hc; exact strL_codes ro c hc) (sm.trans (same_put hp _))⟩⟩
    | int i =>
      cases ta
      refine iteF ⟨_, rfl, true, rfl, _, rfl, iteF ⟨_, rfl, false, rfl, _, rfl, iteF ?_⟩⟩
      refine ⟨_, rfl, _, _, _, _, false, rfl, .ty "str", tx, h3, _, rfl, iteF ?_⟩
      refine ⟨_, rfl, _, _, _, _, true, rfl, .ty "int", tx, h4, _, rfl, iteT ?_⟩
      exact ⟨_, rfl, i, rfl, log2_small ro, one (toString i) (tl_int i) (int_ok ro).2⟩
    | row tg xs =>
      obtain ⟨p, l0, vs, rfl, hp, hl, pr⟩ := ta
      refine iteF ⟨_, rfl, true, rfl, _, rfl, iteF ⟨_, rfl, false, rfl, _, rfl, iteF ?_⟩⟩
      refine ⟨_, rfl, _, _, _, _, false, rfl, .ty "str", tx, h3, _, rfl, iteF ?_⟩
      refine ⟨_, rfl, _, _, _, _, false, rfl, .ty "int", tx, h4, _, rfl, iteF ?_⟩
      have hp' := sg _ _ hp
      have hl' := sg _ _ hl
      obtain ⟨rfl, m12, mx⟩ := ro
      have hsum : (xs.map (cnt n)).sum ≤ 599 := by
        have hc : 1 + (xs.map (cnt n)).sum ≤ 600 := hc
        omega
      have hlen12 : xs.length ≤ 12 := by omega
      refine ⟨(by show 0 ≤ sizeLine; decide), fun l hln => ?_⟩
      refine ⟨_, rfl, p, _, _, _, rfl, rfl, SqT.of (same_put hln _ _ _ hp'), rfl, l0, rfl, ⟨_, SqL.of (same_put hln _ _ _ hl')⟩, ?_⟩
      refine for_list (K := K) (a := l0) (xs := vs) (fun i σ H' => ∃ (v2 : Option V) (lc : Addr) (us : List Str), σ = [some (.ref p), some (.ref lc), v2] ∧ H lc = none ∧ H' lc = some (.lst (us.map V.str)) ∧ (us.map tl).flatten = joinL [44] ((xs.map (textN n)).take i) ∧ (i = 0 → us = []) ∧ (0 < i → us ≠ []) ∧
          us.length ≤ 12 * ((xs.map (cnt n)).take i).sum ∧ (∀ u ∈ us, TokP u) ∧ Same H H')
        ⟨none, l, [], rfl, hln, upd_same, rfl, fun _ => rfl, fun h => absurd h (Nat.lt_irrefl 0), Nat.zero_le _, (fun _ h => by cases h), same_put hln _⟩ (fun i σ H' _ ⟨_, _, _, _, _, _, _, _, _, _, _, sm⟩ => SqL.of (sm _ _ hl')) ?_ ?_
      · rintro i v σ H' hv ⟨v2, lc, us, rfl, hlc, hus, hfl, hz0, hz1, hlen, htp, sm⟩
        obtain ⟨y, hy, hyt, _⟩ := paired_at pr hv
        have hil : i < xs.length := (List.getElem?_eq_some_iff.mp hy).1
        have htk : (xs.map (textN n)).take (i + 1) = (xs.map (textN n)).take i ++ [textN n y] := by rw [List.take_add_one, List.getElem?_map, hy]; rfl
        have hck : ((xs.map (cnt n)).take (i + 1)).sum = ((xs.map (cnt n)).take i).sum + cnt n y := by
          rw [List.take_add_one, List.getElem?_map, hy, List.sum_append]
          show _ + (cnt n y + 0) = _
          omega
        have hcs : ((xs.map (cnt n)).take (i + 1)).sum ≤ (xs.map (cnt n)).sum := by
          have e := congrArg List.sum (List.take_append_drop (i + 1) (xs.map (cnt n)))
          rw [List.sum_append] at e
          omega
        have hrok := mx y (List.mem_of_getElem? hy)
        refine ⟨_, rfl, (by show 0 ≤ sizeLine; decide), fun p1 hp1 => ⟨.list (us.map PyData.str), .list [], .lst (SqL.of (same_put hp1 _ _ _ hus)) (dp_strs us), .lst (SqL.of upd_same) .nil, shaped_strs us htp, rfl, _, rfl, ?_⟩⟩
        refine ite2 (fun z => ?xrow) (fun z => ?yrow)
        case' xrow =>
          have ne : us ≠ [] := fun e => by
            rw [e] at z
            exact absurd z (by decide +kernel)
          refine ⟨_, rfl, .inl ⟨rfl, _, SqL.of (same_put hp1 _ _ _ hus)⟩, lc, _, _, rfl, rfl, same_put hp1 _ _ _ hus, (by rw [List.length_map]; exact Nat.lt_of_le_of_lt (m := 9000) (by omega) (by decide)), ?_⟩
          have sm1 : Same H (upd (upd H' p1 (.lst [])) lc (.lst (us.map V.str ++ [V.str ","]))) := fun b u e => by
            rw [upd_ne (ne_of_none e hlc)]
            exact same_put hp1 _ _ _ (sm _ _ e)
          have h1l : (upd (upd H' p1 (.lst [])) lc (.lst (us.map V.str ++ [V.str ","]))) lc = some (.lst ((us ++ [(",":Str)]).map V.str)) := by
            rw [upd_same, List.map_append]
            rfl
          have f1 : ∀ a, joinL [44] ((xs.map (textN n)).take i ++ [a]) = ((us ++ [(",":Str)]).map tl).flatten ++ a := fun a => by
            have i0 : i ≠ 0 := fun e => ne (hz0 e)
            rw [joinL_snoc, if_neg (fun e => by
              have := congrArg List.length e
              rw [List.length_take, List.length_map, List.length_nil] at this
              omega), ← hfl, List.map_append, List.flatten_append, List.append_assoc]
            rfl
          have l1 : (us ++ [(",":Str)]).length ≤ 12 * ((xs.map (cnt n)).take i).sum + 1 := by
            rw [List.length_append]
            show us.length + 1 ≤ _
            omega
          have t1 : ∀ u ∈ us ++ [(",":Str)], TokP u := fun u hu => (List.mem_append.mp hu).elim (htp u) fun h => by
            rw [List.mem_singleton.mp h]
            unfold TokP
            decide +kernel
          generalize hus1 : us ++ [(",":Str)] = us1 at f1 l1 t1 h1l
          generalize upd (upd H' p1 (.lst [])) lc (.lst (us.map V.str ++ [V.str ","])) = H1 at *
        case' yrow =>
          have e0 : us = [] := by
            cases us with
            | nil => rfl
            | cons a r => exact absurd (ne_nil a r) z
          have sm1 : Same H (upd H' p1 (.lst [])) := sm.trans (same_put hp1 _)
          have h1l : (upd H' p1 (.lst [])) lc = some (.lst (us.map V.str)) := same_put hp1 _ _ _ hus
          have f1 : ∀ a, joinL [44] ((xs.map (textN n)).take i ++ [a]) = (us.map tl).flatten ++ a := fun a => by
            have i0 : i = 0 := Nat.eq_zero_of_not_pos fun h => hz1 h e0
            rw [i0, e0]
            rfl
          have l1 : us.length ≤ 12 * ((xs.map (cnt n)).take i).sum + 1 := by omega
          have t1 := htp
          generalize us = us1 at f1 l1 t1 h1l
          generalize upd H' p1 (.lst []) = H1 at *
        all_goals
          refine ⟨_, rfl, p, _, _, _, rfl, rfl, SqT.of (sm1 _ _ hp'), rfl, rfl, _, rfl, ?_⟩
          refine iteT ?_
          refine ⟨_, rfl, _, rfl, y, _, G, rfl, sg.trans sm1, hyt, hrok, (by omega), fun l2 us2 H2 hl2 ne2 f2 len2 tp2 sm2 => ?_⟩
          refine ⟨lc, l2, _, _, rfl, rfl, sm2 _ _ h1l, hl2, (by rw [List.length_map, List.length_map]; exact Nat.le_trans (m := 9000) (by omega) (by decide)), fun p2 hp2 => ?_⟩
          refine ⟨_, p2, us1 ++ us2, rfl, (sm1.trans sm2).free hp2, by rw [upd_same, List.map_append], ?_, fun e => absurd e (Nat.succ_ne_zero i), fun _ e => ne2 (List.append_eq_nil_iff.mp e).2, ?_, fun u hu => (List.mem_append.mp hu).elim (t1 u) (tp2 u), (sm1.trans sm2).trans (same_put hp2 _)⟩
          · rw [htk, f1, List.map_append, List.flatten_append, f2]
          · rw [List.length_append, hck]
            omega
      · rintro σ H' ⟨v2, lc, us, rfl, hlc, hus, hfl, hz0, hz1, hlen, htp, sm⟩
        refine ⟨_, rfl, p, _, _, _, rfl, rfl, SqT.of (sm _ _ hp'), rfl, rfl, _, rfl, iteT ?_⟩
        have ll : us.length ≤ 7200 := by
          have h1 : ((xs.map (cnt n)).take (vs).length).sum ≤ (xs.map (cnt n)).sum := by
            have e := congrArg List.sum (List.take_append_drop (vs).length (xs.map (cnt n)))
            rw [List.sum_append] at e
            omega
          have h2 : (vs).length ≤ 12 := by
            rw [← pr.length]; exact hlen12
          omega
        refine ⟨(by show 1 ≤ sizeLine; decide), fun pA hpA => ⟨_, rfl, pA, lc, _, _, rfl, rfl, upd_same, same_put hpA _ _ _ hus, (by rw [List.length_map]; exact Nat.le_trans (m := 9000) (by show 1 + us.length ≤ 9000; omega) (by decide)), fun pB hpB => ⟨(by show 1 ≤ sizeLine; decide), fun pC hpC => ⟨pB, pC, _, _, rfl, rfl, same_put hpC _ _ _ upd_same, upd_same, (by rw [List.length_append, List.length_map]; exact Nat.le_trans (m := 9000) (by show 1 + us.length + 1 ≤ 9000; omega) (by decide)), fun pD hpD => ?_⟩⟩⟩⟩
        refine k pD ([("[":Str)] ++ us ++ [("]":Str)]) _ (by rw [upd_same, List.map_append, List.map_append]; rfl) (by simp) ?_ ?_ (fun u hu => ?_) ((((sm.trans (same_put hpA _)).trans (same_put hpB _)).trans (same_put hpC _)).trans (same_put hpD _))
        · rw [List.map_append, List.flatten_append, List.map_append, List.flatten_append, hfl]
          have e1 : (xs.map (textN n)).take (vs).length = (xs.map (textN n)) := List.take_of_length_le (by rw [List.length_map, pr.length]; exact Nat.le_refl _)
          rw [e1]
          show [91] ++ [] ++ _ ++ ([93] ++ []) = 91 :: (_ ++ [93])
          simp
        · rw [List.length_append, List.length_append]
          show 1 + us.length + 1 + 6 ≤ 12 * (1 + (xs.map (cnt n)).sum)
          have h1 : ((xs.map (cnt n)).take (vs).length).sum ≤ (xs.map (cnt n)).sum := by
            have e := congrArg List.sum (List.take_append_drop (vs).length (xs.map (cnt n)))
            rw [List.sum_append] at e
            omega
          
          omega
        · rcases List.mem_append.mp hu with hu | hu
          · rcases List.mem_append.mp hu with hu | hu
            · rw [List.mem_singleton.mp hu]
              unfold TokP
              decide +kernel
            · exact htp u hu
          · rw [List.mem_singleton.mp hu]
            unfold TokP
            decide +kernel
    | tab ks xs =>
      obtain ⟨p, l0, ps, rfl, hp, hl, pr⟩ := ta
      refine iteF ⟨_, rfl, true, rfl, _, rfl, iteF ⟨_, rfl, false, rfl, _, rfl, iteF ?_⟩⟩
      refine ⟨_, rfl, _, _, _, _, false, rfl, .ty "str", tx, h3, _, rfl, iteF ?_⟩
      refine ⟨_, rfl, _, _, _, _, false, rfl, .ty "int", tx, h4, _, rfl, iteF ?_⟩
      have hp' := sg _ _ hp
      have hl' := sg _ _ hl
      obtain ⟨hkl, m12, mk, mx⟩ := ro
      have hsum : ((ks.zip xs).map fun e => cnt n e.2).sum ≤ 599 := by
        have hc : 1 + (xs.map (cnt n)).sum ≤ 600 := hc
        rw [map_zip_snd (cnt n) ks xs hkl]
        omega
      have hlen12 : (ks.zip xs).length ≤ 12 := by rw [List.length_zip]; omega
      refine ⟨(by show 0 ≤ sizeLine; decide), fun l hln => ?_⟩
      refine ⟨_, rfl, p, _, _, _, rfl, rfl, SqT.of (same_put hln _ _ _ hp'), rfl, l0, rfl, ⟨_, SqL.of (same_put hln _ _ _ hl')⟩, ?_⟩
      refine for_list (K := K) (a := l0) (xs := (ps.map V.ref)) (fun i σ H' => ∃ (v2 : Option V) (lc : Addr) (us : List Str), σ = [some (.ref p), some (.ref lc), v2] ∧ H lc = none ∧ H' lc = some (.lst (us.map V.str)) ∧ (us.map tl).flatten = joinL [44] (((ks.zip xs).map fun e => strL (tl (kT e.1)) ++ 58 :: textN n e.2).take i) ∧ (i = 0 → us = []) ∧ (0 < i → us ≠ []) ∧
          us.length ≤ 12 * (((ks.zip xs).map fun e => cnt n e.2).take i).sum ∧ (∀ u ∈ us, TokP u) ∧ Same H H')
        ⟨none, l, [], rfl, hln, upd_same, rfl, fun _ => rfl, fun h => absurd h (Nat.lt_irrefl 0), Nat.zero_le _, (fun _ h => by cases h), same_put hln _⟩ (fun i σ H' _ ⟨_, _, _, _, _, _, _, _, _, _, _, sm⟩ => SqL.of (sm _ _ hl')) ?_ ?_
      · rintro i v σ H' hv ⟨v2, lc, us, rfl, hlc, hus, hfl, hz0, hz1, hlen, htp, sm⟩
        obtain ⟨q, hq, rfl⟩ := map_at hv
        obtain ⟨e, hy, ⟨u0, hqt, hyt⟩, _⟩ := paired_at pr hq
        have hil : i < (ks.zip xs).length := (List.getElem?_eq_some_iff.mp hy).1
        have hmem := List.mem_of_getElem? hy
        obtain ⟨ky, hky, sok⟩ := mk e.1 (List.of_mem_zip hmem).1
        have htk : ((ks.zip xs).map fun e => strL (tl (kT e.1)) ++ 58 :: textN n e.2).take (i + 1) = ((ks.zip xs).map fun e => strL (tl (kT e.1)) ++ 58 :: textN n e.2).take i ++ [strL (tl ky) ++ 58 :: textN n e.2] := by
          rw [List.take_add_one, List.getElem?_map, hy]
          show _ ++ [strL (tl (kT e.1)) ++ 58 :: textN n e.2] = _
          rw [hky]
          rfl
        have hck : (((ks.zip xs).map fun e => cnt n e.2).take (i + 1)).sum = (((ks.zip xs).map fun e => cnt n e.2).take i).sum + cnt n e.2 := by
          rw [List.take_add_one, List.getElem?_map, hy, List.sum_append]
          show _ + (cnt n e.2 + 0) = _
          omega
        have hcs : (((ks.zip xs).map fun e => cnt n e.2).take (i + 1)).sum ≤ ((ks.zip xs).map fun e => cnt n e.2).sum := by
          have e := congrArg List.sum (List.take_append_drop (i + 1) ((ks.zip xs).map fun e => cnt n e.2))
          rw [List.sum_append] at e
          omega
        have hrok := mx e.2 (List.of_mem_zip hmem).2
        refine ⟨_, rfl, (by show 0 ≤ sizeLine; decide), fun p1 hp1 => ⟨.list (us.map PyData.str), .list [], .lst (SqL.of (same_put hp1 _ _ _ hus)) (dp_strs us), .lst (SqL.of upd_same) .nil, shaped_strs us htp, rfl, _, rfl, ?_⟩⟩
        refine ite2 (fun z => ?xtab) (fun z => ?ytab)
        case' xtab =>
          have ne : us ≠ [] := fun e => by
            rw [e] at z
            exact absurd z (by decide +kernel)
          refine ⟨_, rfl, .inl ⟨rfl, _, SqL.of (same_put hp1 _ _ _ hus)⟩, lc, _, _, rfl, rfl, same_put hp1 _ _ _ hus, (by rw [List.length_map]; exact Nat.lt_of_le_of_lt (m := 9000) (by omega) (by decide)), ?_⟩
          have sm1 : Same H (upd (upd H' p1 (.lst [])) lc (.lst (us.map V.str ++ [V.str ","]))) := fun b u e => by
            rw [upd_ne (ne_of_none e hlc)]
            exact same_put hp1 _ _ _ (sm _ _ e)
          have h1l : (upd (upd H' p1 (.lst [])) lc (.lst (us.map V.str ++ [V.str ","]))) lc = some (.lst ((us ++ [(",":Str)]).map V.str)) := by
            rw [upd_same, List.map_append]
            rfl
          have f1 : ∀ a, joinL [44] (((ks.zip xs).map fun e => strL (tl (kT e.1)) ++ 58 :: textN n e.2).take i ++ [a]) = ((us ++ [(",":Str)]).map tl).flatten ++ a := fun a => by
            have i0 : i ≠ 0 := fun e => ne (hz0 e)
            rw [joinL_snoc, if_neg (fun e => by
              have := congrArg List.length e
              rw [List.length_take, List.length_map, List.length_nil] at this
              omega), ← hfl, List.map_append, List.flatten_append, List.append_assoc]
            rfl
          have l1 : (us ++ [(",":Str)]).length ≤ 12 * (((ks.zip xs).map fun e => cnt n e.2).take i).sum + 1 := by
            rw [List.length_append]
            show us.length + 1 ≤ _
            omega
          have t1 : ∀ u ∈ us ++ [(",":Str)], TokP u := fun u hu => (List.mem_append.mp hu).elim (htp u) fun h => by
            rw [List.mem_singleton.mp h]
            unfold TokP
            decide +kernel
          generalize hus1 : us ++ [(",":Str)] = us1 at f1 l1 t1 h1l
          generalize upd (upd H' p1 (.lst [])) lc (.lst (us.map V.str ++ [V.str ","])) = H1 at *
        case' ytab =>
          have e0 : us = [] := by
            cases us with
            | nil => rfl
            | cons a r => exact absurd (ne_nil a r) z
          have sm1 : Same H (upd H' p1 (.lst [])) := sm.trans (same_put hp1 _)
          have h1l : (upd H' p1 (.lst [])) lc = some (.lst (us.map V.str)) := same_put hp1 _ _ _ hus
          have f1 : ∀ a, joinL [44] (((ks.zip xs).map fun e => strL (tl (kT e.1)) ++ 58 :: textN n e.2).take i ++ [a]) = (us.map tl).flatten ++ a := fun a => by
            have i0 : i = 0 := Nat.eq_zero_of_not_pos fun h => hz1 h e0
            rw [i0, e0]
            rfl
          have l1 : us.length ≤ 12 * (((ks.zip xs).map fun e => cnt n e.2).take i).sum + 1 := by omega
          have t1 := htp
          generalize us = us1 at f1 l1 t1 h1l
          generalize upd H' p1 (.lst []) = H1 at *
        all_goals
          refine ⟨_, rfl, p, _, _, _, rfl, rfl, SqT.of (sm1 _ _ hp'), rfl, rfl, _, rfl, ?_⟩
          refine iteF ?_
          have hq1 := sm1 _ _ (sg _ _ hqt)
          rw [hky] at hq1
          refine ⟨_, rfl, _, rfl, q, _, _, _, rfl, rfl, SqT.of hq1, rfl, ky, rfl, sok, fun z1 H2 hz1' sm2 => ⟨(by show 2 ≤ sizeLine; decide), fun pA hpA => ?_⟩⟩
          refine ⟨lc, pA, _, _, rfl, rfl, same_put hpA _ _ _ (sm2 _ _ h1l), upd_same, (by rw [List.length_map]; exact Nat.le_trans (m := 9000) (by show us1.length + 2 ≤ 9000; omega) (by decide)), fun pB hpB => ?_⟩
          have sm3 := (sm1.trans sm2).trans ((same_put hpA (.lst [V.str z1, V.str ":"])).trans (same_put hpB (.lst (us1.map V.str ++ [V.str z1, V.str ":"]))))
          have hq3 := (sm2.trans ((same_put hpA (.lst [V.str z1, V.str ":"])).trans (same_put hpB (.lst (us1.map V.str ++ [V.str z1, V.str ":"]))))) _ _ hq1
          refine ⟨_, rfl, q, _, _, _, rfl, rfl, SqT.of hq3, rfl, e.2, _, G, rfl, sg.trans sm3, hyt, hrok, (by omega), fun l2 us2 H4 hl2 ne2 f2 len2 tp2 sm4 => ?_⟩
          refine ⟨pB, l2, _, _, rfl, rfl, sm4 _ _ upd_same, hl2, (by rw [List.length_append, List.length_map, List.length_map]; exact Nat.le_trans (m := 9000) (by show us1.length + 2 + us2.length ≤ 9000; omega) (by decide)), fun p2 hp2 => ?_⟩
          refine ⟨_, p2, us1 ++ [z1, (":":Str)] ++ us2, rfl, (sm3.trans sm4).free hp2, by rw [upd_same, List.map_append, List.map_append]; rfl, ?_, fun e => absurd e (Nat.succ_ne_zero i), fun _ e => ne2 (List.append_eq_nil_iff.mp e).2, ?_, fun u hu => ?_, (sm3.trans sm4).trans (same_put hp2 _)⟩
          · rw [htk, f1, List.map_append, List.flatten_append, List.map_append, List.flatten_append, f2, List.append_assoc]
            show _ ++ ((tl z1 ++ ([58] ++ [])) ++ _) = _
            rw [hz1', List.append_nil, List.append_assoc]
            rfl
          · rw [List.length_append, List.length_append, hck]
            show us1.length + 2 + us2.length ≤ _
            omega
          · rcases List.mem_append.mp hu with hu | hu
            · rcases List.mem_append.mp hu with hu | hu
              · exact t1 u hu
              · rcases List.mem_cons.mp hu with e1 | hu
                · rw [e1]
                  intro c hc
                  rw [hz1'] at hc
                  exact strL_codes sok c hc
                · rw [List.mem_singleton.mp hu]
                  unfold TokP
                  decide +kernel
            · exact tp2 u hu
      · rintro σ H' ⟨v2, lc, us, rfl, hlc, hus, hfl, hz0, hz1, hlen, htp, sm⟩
        refine ⟨_, rfl, p, _, _, _, rfl, rfl, SqT.of (sm _ _ hp'), rfl, rfl, _, rfl, iteF ?_⟩
        have ll : us.length ≤ 7200 := by
          have h1 : (((ks.zip xs).map fun e => cnt n e.2).take ((ps.map V.ref)).length).sum ≤ ((ks.zip xs).map fun e => cnt n e.2).sum := by
            have e := congrArg List.sum (List.take_append_drop ((ps.map V.ref)).length ((ks.zip xs).map fun e => cnt n e.2))
            rw [List.sum_append] at e
            omega
          have h2 : ((ps.map V.ref)).length ≤ 12 := by
            rw [List.length_map, ← pr.length]; exact hlen12
          omega
        refine ⟨(by show 1 ≤ sizeLine; decide), fun pA hpA => ⟨_, rfl, pA, lc, _, _, rfl, rfl, upd_same, same_put hpA _ _ _ hus, (by rw [List.length_map]; exact Nat.le_trans (m := 9000) (by show 1 + us.length ≤ 9000; omega) (by decide)), fun pB hpB => ⟨(by show 1 ≤ sizeLine; decide), fun pC hpC => ⟨pB, pC, _, _, rfl, rfl, same_put hpC _ _ _ upd_same, upd_same, (by rw [List.length_append, List.length_map]; exact Nat.le_trans (m := 9000) (by show 1 + us.length + 1 ≤ 9000; omega) (by decide)), fun pD hpD => ?_⟩⟩⟩⟩
        refine k pD ([("{":Str)] ++ us ++ [("}":Str)]) _ (by rw [upd_same, List.map_append, List.map_append]; rfl) (by simp) ?_ ?_ (fun u hu => ?_) ((((sm.trans (same_put hpA _)).trans (same_put hpB _)).trans (same_put hpC _)).trans (same_put hpD _))
        · rw [List.map_append, List.flatten_append, List.map_append, List.flatten_append, hfl]
          have e1 : ((ks.zip xs).map fun e => strL (tl (kT e.1)) ++ 58 :: textN n e.2).take ((ps.map V.ref)).length = ((ks.zip xs).map fun e => strL (tl (kT e.1)) ++ 58 :: textN n e.2) := List.take_of_length_le (by rw [List.length_map, List.length_map, pr.length]; exact Nat.le_refl _)
          rw [e1]
          show [123] ++ [] ++ _ ++ ([125] ++ []) = 123 :: (_ ++ [125])
          simp
        · rw [List.length_append, List.length_append]
          show 1 + us.length + 1 + 6 ≤ 12 * (1 + (xs.map (cnt n)).sum)
          have h1 : (((ks.zip xs).map fun e => cnt n e.2).take ((ps.map V.ref)).length).sum ≤ ((ks.zip xs).map fun e => cnt n e.2).sum := by
            have e := congrArg List.sum (List.take_append_drop ((ps.map V.ref)).length ((ks.zip xs).map fun e => cnt n e.2))
            rw [List.sum_append] at e
            omega
          rw [map_zip_snd (cnt n) ks xs hkl] at h1 hlen
          omega
        · rcases List.mem_append.mp hu with hu | hu
          · rcases List.mem_append.mp hu with hu | hu
            · rw [List.mem_singleton.mp hu]
              unfold TokP
              decide +kernel
            · exact htp u hu
          · rw [List.mem_singleton.mp hu]
            unfold TokP
            decide +kernel
end
end K25
set_option Elab.async false
set_option linter.all false
set_option maxRecDepth 100000
set_option maxHeartbeats 4000000
/-! render_string, render -/
namespace K25
open PySem PySem.Spec PyProof.Rows L2 C8 SX TL
theorem rep_esc (x : Str) : tl (Txt.replace (Txt.replace x "\\" "\\\\") "\"" "\\\"") = esc (tl x) := by
  have e1 : (Txt.replace (Txt.replace x "\\" "\\\\") "\"" "\\\"").cps.toList = _ := StrLaws.replace_list (by decide +kernel)
  have e2 : (Txt.replace x "\\" "\\\\").cps.toList = _ := StrLaws.replace_list (by decide +kernel)
  show (Txt.replace (Txt.replace x "\\" "\\\\") "\"" "\\\"").cps.toList = _
  rw [e1, e2]
  exact repl_esc (tl x)
section
variable {P : Program} {w : World} {K : PySem.W.Frag} {mg : Str → Option Value} {base : Heap}
def spRstr : Sp := fun vs H Q _ => ∃ x : Str, vs = [.str x] ∧ SOk x ∧ ∀ z : Str, tl z = strL (tl x) → Q (.str z) H
theorem scRstr : FnScope ["text"] ["text"] (defScope (top 14)) := ⟨rfl, rfl, rfl, by decide +kernel, rfl, by decide +kernel, by decide +kernel⟩
theorem c_rstr (T : Txt K mg) : Cal P w K mg base 1 "render_string" spRstr [] := by
  obtain ⟨f, fd, F, hm⟩ := T.f_render_string.ex
  have bd : L2.Binds K fd ["text"] [] := F.bindsN (b1 fun _ _ _ _ _ _ _ => rfl)
  have kp := F.kp
  obtain ⟨oc, od, dV, kV', doc, pm, an, cdv, ct, osl, rfl, lk, hcd, _, _⟩ := F.ex
  refine ⟨f, _, ["text"], [], fn_ofT (k := 0) lk hcd scRstr (by decide +kernel) (by decide) (fun vs H Q E h => ?_) (fun A outer s H vs Q E hr h => ?_), hm, kp, bd, .nil⟩
  · obtain ⟨x, rfl, _⟩ := h
    rfl
  obtain ⟨x, rfl, hx, k⟩ := h
  refine ⟨_, CwR.psst_one (CwR.pst_ret (CwR.pet_op op_add_str (CwR.pet_op op_add_str (CwR.PET.of pe_str) (CwR.pet_replT (CwR.pet_replC (pv 0)))) (CwR.PET.of pe_str))), ?_⟩
  have l1 := TK.replace_len x "\\" "\\\\"
  have x300 := hx.1
  have l2 : (Txt.replace (Txt.replace x "\\" "\\\\") "\"" "\\\"").length ≤ 600 := by
    rw [len_tl, rep_esc]
    have := esc_len (tl x)
    rw [len_tl] at x300
    omega
  have e2 : ("\\\\" : Str).length = 2 := by decide +kernel
  have e3 : ("\\\"" : Str).length = 2 := by decide +kernel
  have l3 : (Txt.replace x "\\" "\\\\").length ≤ 902 := by
    rw [e2] at l1
    omega
  have big : (1000 : Nat) ≤ sizeLine := by decide
  refine ⟨_, rfl, _, rfl, by rw [e2]; omega, _, rfl, by rw [e3]; omega, _, _, rfl, rfl, ?_, _, _, rfl, rfl, ?_, k _ ?_⟩
  · show 1 + (Txt.replace (Txt.replace x "\\" "\\\\") "\"" "\\\"").length ≤ sizeLine
    omega
  · rw [len_tl, tl_append, List.length_append, ← len_tl]
    show 1 + (Txt.replace (Txt.replace x "\\" "\\\\") "\"" "\\\"").length + 1 ≤ sizeLine
    omega
  · rw [tl_append, tl_append, rep_esc]
    rfl
/-! render body -/
def spRender (n : Nat) : Sp := fun vs H Q _ => ∃ (t : Val) (v : V) (G : Hp), vs = [v] ∧ Same G H ∧ TAt G n t v ∧ ROk n t ∧ cnt n t ≤ 600 ∧ ∀ (z : Str) (H' : Hp), tl z = textN n t → Same H H' → Q (.str z) H'
theorem scRender : FnScope ["raw", "shape", "members", "item", "name"] ["raw"] (defScope (top 15)) := ⟨rfl, rfl, rfl, by decide +kernel, rfl, by decide +kernel, by decide +kernel⟩
theorem join_tl (us : List Str) : tl (Txt.join "," us) = joinL [44] (us.map tl) := by
  rw [join_eq, tl_join]
  rfl
theorem mem_sum {x : Nat} : ∀ {l : List Nat}, x ∈ l → x ≤ l.sum
  | y :: l, h => by
    rw [List.sum_cons]
    rcases List.mem_cons.mp h with e | h
    · omega
    · have := mem_sum h
      omega
theorem joinL_ge (s : List Nat) : ∀ ls : List (List Nat), (ls.map List.length).sum ≤ (joinL s ls).length
  | [] => Nat.le_refl _
  | [a] => by
    simp only [List.map_cons, List.map_nil, List.sum_cons, List.sum_nil]
    exact Nat.le_refl _
  | a :: b :: r => by
    have ih := joinL_ge s (b :: r)
    rw [List.map_cons, List.sum_cons]
    show _ ≤ (a ++ (s ++ joinL s (b :: r))).length
    rw [List.length_append, List.length_append]
    omega
theorem c_render (T : Txt2 K mg) : ∀ n, Cal P w K mg base (n + 2) "render" (spRender n) []
  | 0 => T.f_render.cal (k := 1) scRender (b1 fun _ _ _ _ _ _ _ => rfl) (fun vs H Q E ⟨t, v, G, _, _, h, _⟩ => h.elim) (fun f cdv A outer s H vs Q E hr ⟨t, v, G, _, _, h, _⟩ => h.elim)
  | n + 1 => by
    have ih := c_render T n
    refine T.f_render.cal (k := n + 2) scRender (b1 fun _ _ _ _ _ _ _ => rfl) (fun vs H Q E h => ?_) (fun f cdv A outer s H vs Q E hr h => ?_)
    · obtain ⟨t, v, G, rfl, _⟩ := h
      rfl
    obtain ⟨t, v, G, rfl, sg, ta, ro, hc, k⟩ := h
    refine ⟨_, (pss_cons (ps_if (pt_cmp (pc_isN (pv 0)) rfl)
        (pss_one (ps_ret pe_str))
        pss_nil)
      (pss_cons (ps_if (pt_cmpR op_isC (pv 0) pe_bl (nomark _))
        (pss_one (ps_ret pe_str))
        pss_nil)
      (pss_cons (ps_if (pt_cmpR op_isC (pv 0) pe_bl (nomark _))
        (pss_one (ps_ret pe_str))
        pss_nil)
      (pss_cons (ps_if (pt_val (pe_callB call_isi rfl T.n_isinstance (by decide +kernel) (pa_cons (pv 0) (pa_cons (pe_bltn (v := .ty "str") (u := Value.type "str") rfl T.n_str (by decide +kernel) rfl) pa_nil))))
        (pss_one (ps_ret (pe_c (c_rstr T.toTxt) hr (by omega) rfl (pa_cons (pv 0) pa_nil))))
        pss_nil)
      (pss_cons (ps_if (pt_val (pe_callB call_isi rfl T.n_isinstance (by decide +kernel) (pa_cons (pv 0) (pa_cons (pe_bltn (v := .ty "int") (u := Value.type "int") rfl T.n_int (by decide +kernel) rfl) pa_nil))))
        (pss_one (ps_ret (pe_callTy call_str_int rfl T.n_str (by decide +kernel) (pa_cons (pv 0) pa_nil))))
        pss_nil)
      (pss_cons (ps_asg (pv 0) (pg_tup rfl (pgs_cons (pg_name (i := 1) scRender.nd rfl (Or.inl rfl)) (pgs_cons (pg_name (i := 2) scRender.nd rfl (Or.inl rfl)) pgs_nil))))
      (pss_cons (ps_if (pt_cmpR op_eq (pv 1) pe_str (nomark _))
        (pss_one (ps_ret (pe_op op_add_str (pe_op op_add_str pe_str (pe_join pe_str (pe_lc (own := [("item", 3)]) (g := (gName 3)) rfl scRender.nd (pi_list (pv 2)) (blkOk_by (N := ["raw", "shape", "members", "item", "name"]) (sc := defScope (top 15)) (own := [("item", 3)]) (by decide +kernel)) (fun _ _ _ _ _ => pg_name (i := 3) scRender.nd rfl (Or.inl rfl)) (fun _ _ _ _ _ => pts_nil) (fun _ _ _ _ _ => (pe_c ih hr (by omega) rfl (pa_cons (pv 3) pa_nil)))))) pe_str)))
        pss_nil)
      (pss_one (ps_ret (pe_op op_add_str (pe_op op_add_str pe_str (pe_join pe_str (pe_lc (own := [("name", 4), ("item", 3)]) (g := (gTup K 2 (gCons (gName 4) (gCons (gName 3) gNil)))) rfl scRender.nd (pi_list (pv 2)) (blkOk_by (N := ["raw", "shape", "members", "item", "name"]) (sc := defScope (top 15)) (own := [("name", 4), ("item", 3)]) (by decide +kernel)) (fun _ _ _ _ _ => pg_tup rfl (pgs_cons (pg_name (i := 4) scRender.nd rfl (Or.inl rfl)) (pgs_cons (pg_name (i := 3) scRender.nd rfl (Or.inl rfl)) pgs_nil))) (fun _ _ _ _ _ => pts_nil) (fun _ _ _ _ _ => (pe_op op_add_str (pe_op op_add_str (pe_c (c_rstr T.toTxt) hr (by omega) rfl (pa_cons (pv 4) pa_nil)) pe_str) (pe_c ih hr (by omega) rfl (pa_cons (pv 3) pa_nil))))))) pe_str)))))))))), ?_⟩
    obtain ⟨ty, tx, h1, h2, h3, h4, h5, h6⟩ := (ty_raw T sg ta).ex
    have big : (1000000 : Nat) ≤ sizeLine := by decide
    refine ⟨_, rfl, _, rfl, ?_⟩
    cases t with
    | non =>
      cases ta
      exact iteT (k "null" H (show tl ("null" : Str) = [110, 117, 108, 108] by decide +kernel) (Same.refl H))
    | bl b =>
      cases ta
      refine iteF ?_
      refine ⟨_, rfl, true, rfl, _, rfl, ?_⟩
      cases b with
      | true => exact iteT (k "true" H (show tl ("true" : Str) = [116, 114, 117, 101] by decide +kernel) (Same.refl H))
      | false =>
        refine iteF ?_
        refine ⟨_, rfl, false, rfl, _, rfl, ?_⟩
        exact iteT (k "false" H (show tl ("false" : Str) = [102, 97, 108, 115, 101] by decide +kernel) (Same.refl H))
    | str x =>
      cases ta
      refine iteF ⟨_, rfl, true, rfl, _, rfl, iteF ⟨_, rfl, false, rfl, _, rfl, iteF ?_⟩⟩
      refine ⟨_, rfl, _, _, _, _, true, rfl, .ty "str", tx, h3, _, rfl, iteT ?_⟩
      exact ⟨_, rfl, x, rfl, ro, fun z hz => k z H hz (Same.refl H)⟩
    | int i =>
      cases ta
      refine iteF ⟨_, rfl, true, rfl, _, rfl, iteF ⟨_, rfl, false, rfl, _, rfl, iteF ?_⟩⟩
      refine ⟨_, rfl, _, _, _, _, false, rfl, .ty "str", tx, h3, _, rfl, iteF ?_⟩
      refine ⟨_, rfl, _, _, _, _, true, rfl, .ty "int", tx, h4, _, rfl, iteT ?_⟩
      exact ⟨_, rfl, i, rfl, log2_small ro, k (toString i) H (tl_int i) (Same.refl H)⟩
    | row tg xs =>
      obtain ⟨p, l0, vs, rfl, hp, hl, pr⟩ := ta
      have tlen := text_len ro
      refine iteF ⟨_, rfl, true, rfl, _, rfl, iteF ⟨_, rfl, false, rfl, _, rfl, iteF ?_⟩⟩
      refine ⟨_, rfl, _, _, _, _, false, rfl, .ty "str", tx, h3, _, rfl, iteF ?_⟩
      refine ⟨_, rfl, _, _, _, _, false, rfl, .ty "int", tx, h4, _, rfl, iteF ?_⟩
      have hp' := sg _ _ hp
      have hl' := sg _ _ hl
      refine ⟨_, rfl, p, _, rfl, SqT.of hp', rfl, _, _, rfl, _, _, rfl, rfl, ?_⟩
      obtain ⟨rfl, m12, mx⟩ := ro
      have hsum : ∀ y ∈ xs, cnt n y ≤ 600 := fun y hy => by
        have hc : 1 + (xs.map (cnt n)).sum ≤ 600 := hc
        have := mem_sum (List.mem_map.mpr ⟨y, hy, rfl⟩ : cnt n y ∈ xs.map (cnt n))
        omega
      refine ⟨_, rfl, rfl, _, rfl, iteT ?_⟩
      refine ⟨⟨_, rfl⟩, _, rfl, l0, rfl, ⟨_, SqL.of hl'⟩, fun D hD => ?_⟩
      have lD : l0 ≠ D := ne_of_none hl' hD
      refine lc_list (K := K) (a := l0) (xs := vs) (fun i H' => ∃ us : List Str, H' D = some (.lst (us.map V.str)) ∧ us.map tl = (xs.map (textN n)).take i ∧ us.length = i ∧ ∀ b o, b ≠ D → H b = some o → H' b = some o)
        ⟨[], upd_same, rfl, rfl, fun b o hb e => by rw [upd_ne hb]; exact e⟩ (fun i H' _ ⟨_, _, _, _, fr⟩ => SqL.of (fr _ _ lD hl')) ?_ ?_
      · rintro i v H' hv ⟨us, hus, htx, hul, fr⟩
        obtain ⟨y, hy, hyt, _⟩ := paired_at pr hv
        have hil : i < xs.length := (List.getElem?_eq_some_iff.mp hy).1
        have hmem := List.mem_of_getElem? hy
        have sm0 : ∀ b o, b ≠ D → H b = some o → H' b = some o := fr
        have gD : G D = none := sg.free hD
        have sgH : Same G H' := fun b u e => fr b u (fun z => by rw [z, gD] at e; cases e) (sg _ _ e)
        refine ⟨rfl, _, rfl, y, v, G, rfl, sgH, hyt, mx y hmem, hsum y hmem, fun z H2 hz sm => ⟨_, sm _ _ hus, by rw [List.length_map, hul]; exact small1000 (by omega), us ++ [z], by rw [upd_same, List.map_append]; rfl, ?_, by rw [List.length_append, hul]; rfl, fun b o hb e => by rw [upd_ne hb]; exact sm _ _ (fr b o hb e)⟩⟩
        rw [List.map_append, htx, List.take_add_one, List.getElem?_map, hy]
        show _ ++ [tl z] = _ ++ [textN n y]
        rw [hz]
      · rintro H' ⟨us, hus, htx, hul, fr⟩
        have e1 : (xs.map (textN n)).take (vs).length = (xs.map (textN n)) := List.take_of_length_le (by rw [List.length_map, pr.length]; exact Nat.le_refl _)
        rw [e1] at htx
        have ej : tl (Txt.join "," us) = joinL [44] (xs.map (textN n)) := by rw [join_tl, htx]
        have el : (Txt.join "," us).length + 2 + 604 ≤ 1300 * 600 := by
          rw [len_tl, ej]
          have h1 : (91 :: (joinL [44] (xs.map (textN n)) ++ [93])).length + 604 ≤ 1300 * cnt (n + 1) (.row "row" xs) := tlen
          rw [List.length_cons, List.length_append] at h1
          simp only [List.length_cons, List.length_nil] at h1
          omega
        refine ⟨_, D, us, rfl, rfl, .inl (SqL.of hus), ?_, _, _, rfl, rfl, ?_, _, _, rfl, rfl, ?_, k _ H' ?_ (fun b o e => fr b o (ne_of_none e hD) e)⟩
        · have g1 := joinL_ge [44] (us.map tl)
          rw [htx, ← ej, ← len_tl, List.map_map] at g1
          have g2 : (us.map (·.length)).sum = ((xs.map (textN n)).map List.length).sum := by
            rw [← htx, List.map_map]
            exact congrArg List.sum (List.map_congr_left fun y _ => len_tl y)
          have g3 : us.length ≤ 600000 := by
            rw [hul]
            rw [← pr.length]; omega
          show (us.map (·.length)).sum + us.length * 1 ≤ 16777216
          rw [g2]
          rw [List.map_map]
          omega
        · show 1 + (Txt.join "," us).length ≤ sizeLine
          omega
        · rw [len_tl, tl_append, List.length_append, ← len_tl]
          show 1 + (Txt.join "," us).length + 1 ≤ sizeLine
          omega
        · rw [tl_append, tl_append, ej]
          rfl
    | tab ks xs =>
      obtain ⟨p, l0, ps, rfl, hp, hl, pr⟩ := ta
      have tlen := text_len ro
      refine iteF ⟨_, rfl, true, rfl, _, rfl, iteF ⟨_, rfl, false, rfl, _, rfl, iteF ?_⟩⟩
      refine ⟨_, rfl, _, _, _, _, false, rfl, .ty "str", tx, h3, _, rfl, iteF ?_⟩
      refine ⟨_, rfl, _, _, _, _, false, rfl, .ty "int", tx, h4, _, rfl, iteF ?_⟩
      have hp' := sg _ _ hp
      have hl' := sg _ _ hl
      refine ⟨_, rfl, p, _, rfl, SqT.of hp', rfl, _, _, rfl, _, _, rfl, rfl, ?_⟩
      obtain ⟨hkl, m12, mk, mx⟩ := ro
      have hsum : ∀ y ∈ xs, cnt n y ≤ 600 := fun y hy => by
        have hc : 1 + (xs.map (cnt n)).sum ≤ 600 := hc
        have := mem_sum (List.mem_map.mpr ⟨y, hy, rfl⟩ : cnt n y ∈ xs.map (cnt n))
        omega
      refine ⟨_, rfl, rfl, _, rfl, iteF ?_⟩
      refine ⟨⟨_, rfl⟩, _, rfl, l0, rfl, ⟨_, SqL.of hl'⟩, fun D hD => ?_⟩
      have lD : l0 ≠ D := ne_of_none hl' hD
      refine lc_list (K := K) (a := l0) (xs := (ps.map V.ref)) (fun i H' => ∃ us : List Str, H' D = some (.lst (us.map V.str)) ∧ us.map tl = ((ks.zip xs).map fun e => strL (tl (kT e.1)) ++ 58 :: textN n e.2).take i ∧ us.length = i ∧ ∀ b o, b ≠ D → H b = some o → H' b = some o)
        ⟨[], upd_same, rfl, rfl, fun b o hb e => by rw [upd_ne hb]; exact e⟩ (fun i H' _ ⟨_, _, _, _, fr⟩ => SqL.of (fr _ _ lD hl')) ?_ ?_
      · rintro i v H' hv ⟨us, hus, htx, hul, fr⟩
        obtain ⟨q, hq, rfl⟩ := map_at hv
        obtain ⟨e, hy, ⟨u0, hqt, hyt⟩, _⟩ := paired_at pr hq
        have hil : i < (ks.zip xs).length := (List.getElem?_eq_some_iff.mp hy).1
        have hil2 : i < 12 := by rw [List.length_zip] at hil; omega
        have hmem := List.mem_of_getElem? hy
        obtain ⟨ky, hky, sok⟩ := mk e.1 (List.of_mem_zip hmem).1
        have sm0 : ∀ b o, b ≠ D → H b = some o → H' b = some o := fr
        have gD : G D = none := sg.free hD
        have sgH : Same G H' := fun b u e => fr b u (fun z => by rw [z, gD] at e; cases e) (sg _ _ e)
        have hq1 := sgH _ _ hqt
        rw [hky] at hq1
        have rok2 := mx e.2 (List.of_mem_zip hmem).2
        have c2 := hsum e.2 (List.of_mem_zip hmem).2
        have tl2 := text_len rok2
        have sl := strL_len sok
        refine ⟨q, _, rfl, SqT.of hq1, rfl, _, _, rfl, _, _, rfl, rfl, rfl, _, rfl, ky, rfl, sok, fun z1 hz1 => ⟨_, _, rfl, rfl, ?_, _, rfl, e.2, u0, G, rfl, sgH, hyt, rok2, c2, fun z2 H2 hz2 sm => ⟨_, _, rfl, rfl, ?_, ?_⟩⟩⟩
        · rw [len_tl, hz1]
          show _ + 1 ≤ sizeLine
          omega
        · rw [len_tl, tl_append, List.length_append, hz1, len_tl z2, hz2]
          show _ + 1 + _ ≤ sizeLine
          omega
        · refine ⟨_, sm _ _ hus, by rw [List.length_map, hul]; exact small1000 (by omega), us ++ [z1 ++ (":" : Str) ++ z2], by rw [upd_same, List.map_append]; rfl, ?_, by rw [List.length_append, hul]; rfl, fun b o hb e => by rw [upd_ne hb]; exact sm _ _ (fr b o hb e)⟩
          rw [List.map_append, htx, List.take_add_one, List.getElem?_map, hy]
          show _ ++ [tl (z1 ++ (":" : Str) ++ z2)] = _ ++ [strL (tl (kT e.1)) ++ 58 :: textN n e.2]
          rw [tl_append, tl_append, hz1, hz2, hky, List.append_assoc]
          rfl
      · rintro H' ⟨us, hus, htx, hul, fr⟩
        have e1 : ((ks.zip xs).map fun e => strL (tl (kT e.1)) ++ 58 :: textN n e.2).take ((ps.map V.ref)).length = ((ks.zip xs).map fun e => strL (tl (kT e.1)) ++ 58 :: textN n e.2) := List.take_of_length_le (by rw [List.length_map, List.length_map, pr.length]; exact Nat.le_refl _)
        rw [e1] at htx
        have ej : tl (Txt.join "," us) = joinL [44] ((ks.zip xs).map fun e => strL (tl (kT e.1)) ++ 58 :: textN n e.2) := by rw [join_tl, htx]
        have el : (Txt.join "," us).length + 2 + 604 ≤ 1300 * 600 := by
          rw [len_tl, ej]
          have h1 : (123 :: (joinL [44] ((ks.zip xs).map fun e => strL (tl (kT e.1)) ++ 58 :: textN n e.2) ++ [125])).length + 604 ≤ 1300 * cnt (n + 1) (.tab ks xs) := tlen
          rw [List.length_cons, List.length_append] at h1
          simp only [List.length_cons, List.length_nil] at h1
          omega
        refine ⟨_, D, us, rfl, rfl, .inl (SqL.of hus), ?_, _, _, rfl, rfl, ?_, _, _, rfl, rfl, ?_, k _ H' ?_ (fun b o e => fr b o (ne_of_none e hD) e)⟩
        · have g1 := joinL_ge [44] (us.map tl)
          rw [htx, ← ej, ← len_tl, List.map_map] at g1
          have g2 : (us.map (·.length)).sum = (((ks.zip xs).map fun e => strL (tl (kT e.1)) ++ 58 :: textN n e.2).map List.length).sum := by
            rw [← htx, List.map_map]
            exact congrArg List.sum (List.map_congr_left fun y _ => len_tl y)
          have g3 : us.length ≤ 600000 := by
            rw [hul]
            rw [List.length_map, ← pr.length, List.length_zip]; omega
          show (us.map (·.length)).sum + us.length * 1 ≤ 16777216
          rw [g2]
          rw [List.map_map]
          omega
        · show 1 + (Txt.join "," us).length ≤ sizeLine
          omega
        · rw [len_tl, tl_append, List.length_append, ← len_tl]
          show 1 + (Txt.join "," us).length + 1 ≤ sizeLine
          omega
        · rw [tl_append, tl_append, ej]
          rfl
end
end K25
set_option Elab.async false
set_option linter.all false
set_option maxRecDepth 100000
set_option maxHeartbeats 4000000
/-! Writer.raw, Writer.write; try with two clauses -/
namespace K25
open PySem PySem.Spec PyProof.Rows L2 C8 SX TL LamX
section
variable {P : Program} {w : World} {K : PySem.W.Frag} {mg : Str → Option Value} {base : Heap}
def spRawM (K : PySem.W.Frag) : Sp := fun vs H Q E => ∃ (wa : Addr) (o : Opts) (t : Val) (v : V) (G : Hp), vs = [.ref wa, v] ∧ (∃ wd, G wa = some (.ins (WC K) wd (wF o))) ∧ Same G (stH H) ∧ Tabs (TT K) H ∧ VAt (TC K) G 61 t v ∧ MOk 61 t ∧ cnt 61 t ≤ 600 ∧
  match rawN o 61 t [] with
  | .error e => OutU K H e E
  | .ok y => ∀ (v' : V) (G' H' : Hp), New G (stH H) G' (stH H') → ExtN H H' → Tabs (TT K) H' → TAt G' 61 y v' → Q v' H'
def spWrite (K : PySem.W.Frag) : Sp := fun vs H Q E => ∃ (wa : Addr) (o : Opts) (t : Val) (v : V) (G : Hp), vs = [.ref wa, v] ∧ (∃ wd, G wa = some (.ins (WC K) wd (wF o))) ∧ Same G (stH H) ∧ Tabs (TT K) H ∧ VAt (TC K) G 61 t v ∧ MOk 61 t ∧ cnt 61 t ≤ 600 ∧
  match rawN o 61 t [] with
  | .error e => OutU K H e E
  | .ok y => ∀ (z : Str) (H' : Hp), tl z = textN 61 y → ExtN H H' → Tabs (TT K) H' → Q (.str z) H'
theorem scRawM : FnScope ["self", "value"] ["self", "value"] (defScope (inClass (top 30) 3)) := ⟨rfl, rfl, rfl, by decide +kernel, rfl, by decide +kernel, by decide +kernel⟩
theorem scWrite : FnScope ["self", "value"] ["self", "value"] (defScope (inClass (top 30) 4)) := ⟨rfl, rfl, rfl, by decide +kernel, rfl, by decide +kernel, by decide +kernel⟩
/-- the call of raw_at with () -/
theorem raw_go {H : Hp} {wa : Addr} {o : Opts} {t : Val} {v : V} {G : Hp} {Q : VK} {E : XK} (hw : ∃ wd, G wa = some (.ins (WC K) wd (wF o))) (sg : Same G (stH H)) (tb : Tabs (TT K) H) (hv : VAt (TC K) G 61 t v) (mo : MOk 61 t)
    (q : match rawN o 61 t [] with
      | .error e => OutU K H e E
      | .ok y => ∀ (v' : V) (G' H' : Hp), New G (stH H) G' (stH H') → ExtN H H' → Tabs (TT K) H' → TAt G' 61 y v' → Q v' H') : (0 ≤ sizeLine) ∧ ∀ p, H p = none → spRaw K 61 [.ref wa, v, .ref p] (upd H p (.tup [])) Q E := by
  refine ⟨Nat.zero_le _, fun p hp => ?_⟩
  have np := New.put sg (stH_none hp) (.tup [])
  have x1 : ExtN H (upd H p (.tup [])) := ext_put hp _
  have np2 : New G (stH H) (upd G p (.tup [])) (stH (upd H p (.tup []))) := by
    rw [stH_upd (fun ps z => by cases z)]
    exact np
  obtain ⟨wd, hw⟩ := hw
  refine ⟨wa, p, o, [], t, v, _, rfl, ⟨⟨wd, np2.up _ _ hw⟩, upd_same, np2.le, tb.ext (same_put hp _)⟩, hv.up np2.up, mo, by decide, ?_⟩
  cases e : rawN o 61 t [] with
  | error er =>
    rw [e] at q
    exact outU_ext q x1
  | ok y =>
    rw [e] at q
    exact fun v' G' H' n2 e2 t2 ta => q v' G' H' (np2.trans n2) (x1.trans e2) t2 ta
theorem c_rawM (T : Txt3 K mg) (TB : TabB base mg (cKept K) (pKept K)) : MetR P w K mg base 129 (WC K) "raw" (spRawM K) := by
  obtain ⟨f, fd, F, me⟩ := T.m_raw.ex
  refine ⟨f, fd, _, T.y_Writer.cl, me, F.ok (CX := L2.CX P w) (k := 128) (ps := ["self", "value"]) scRawM (fun vs H Q E h => ?_) (fun cdv A outer s H vs Q E hr h => ?_), F.bindsN (b2 fun _ _ _ _ _ _ _ _ => rfl)⟩
  · obtain ⟨wa, o, t, v, G, rfl, _⟩ := h
    rfl
  obtain ⟨wa, o, t, v, G, rfl, hw, sg, tb, hv, mo, hc, q⟩ := h
  have tk : Takes (cxOf (L2.CX P w) P w K mg base ["self", "value"] "Writer.raw" (defScope (inClass (top 30) 3)) f cdv A outer s H E) (fun cls d _ H => E cls d H) := takes_of rfl rfl rfl rfl
  have hx := passes_call (E := E) tk (fun _ _ _ _ h => h)
  refine ⟨_, (pss_one (ps_ret (pe_mtR (c_rawAt T TB 61) hr (by omega) hx (pv 0) (pa_cons (pv 1) (pa_cons (pe_tup pa_nil) pa_nil))))), ?_⟩
  obtain ⟨wd, hwG⟩ := id hw
  exact ⟨_, rfl, wa, wd, _, rfl, same_un sg hwG, rfl, _, rfl, raw_go hw sg tb hv mo q⟩
theorem c_write (T : Txt3 K mg) (TB : TabB base mg (cKept K) (pKept K)) : MetR P w K mg base 129 (WC K) "write" (spWrite K) := by
  obtain ⟨f, fd, F, me⟩ := T.m_write.ex
  refine ⟨f, fd, _, T.y_Writer.cl, me, F.ok (CX := L2.CX P w) (k := 128) (ps := ["self", "value"]) scWrite (fun vs H Q E h => ?_) (fun cdv A outer s H vs Q E hr h => ?_), F.bindsN (b2 fun _ _ _ _ _ _ _ _ => rfl)⟩
  · obtain ⟨wa, o, t, v, G, rfl, _⟩ := h
    rfl
  obtain ⟨wa, o, t, v, G, rfl, hw, sg, tb, hv, mo, hc, q⟩ := h
  have tk : Takes (cxOf (L2.CX P w) P w K mg base ["self", "value"] "Writer.write" (defScope (inClass (top 30) 4)) f cdv A outer s H E) (fun cls d _ H => E cls d H) := takes_of rfl rfl rfl rfl
  have hx := passes_call (E := E) tk (fun _ _ _ _ h => h)
  refine ⟨_, (pss_one (ps_ret (pe_c (c_render T.toTxt2 61) hr (by omega) rfl (pa_cons (pe_mtR (c_rawAt T TB 61) hr (by omega) hx (pv 0) (pa_cons (pv 1) (pa_cons (pe_tup pa_nil) pa_nil))) pa_nil)))), ?_⟩
  obtain ⟨wd, hwG⟩ := id hw
  refine ⟨_, rfl, wa, wd, _, rfl, same_un sg hwG, rfl, _, rfl, raw_go hw sg tb hv mo ?_⟩
  cases e : rawN o 61 t [] with
  | error er =>
    rw [e] at q
    exact q
  | ok y =>
    rw [e] at q
    have q : ∀ (z : Str) (H' : Hp), tl z = textN 61 y → ExtN H H' → Tabs (TT K) H' → Q (.str z) H' := q
    intro v' G' H' nw ex tb' ta
    obtain ⟨c1, ro⟩ := raw_ok mo e
    exact ⟨y, v', G', rfl, fun b u h => same_un nw.le h, ta, ro, by omega, fun z H2 hz sm => q z H2 hz (ex.trans (ExtN.of sm)) (tb'.ext sm)⟩
end
/-! ### try: .. except x as n: .. (always met) except ..: -/
section
variable {X : Cx} {x n : Str} {c : Value} {i : Nat} {body suite : List Stmt} {b₀ : Stmt} {rest : List ExceptHandler} {np pos pos' : Pos} {tb : WX → TS} {ts : Addr → Value → Option Addr → TS}
/-- the wish: the class meets the first clause -/
def wMet (K : PySem.W.Frag) (c : Value) (i : Nat) (ts : Addr → Value → Option Addr → TS) (D : Ends) : WX := fun cls d σ H =>
  PySem.W.exmOne K cls c = some true ∧ ∀ a, H a = none → ts a cls d { nx := fun σ' H' => D.nx (σ'.set i none) H', rt := D.rt, bk := fun σ' H' => D.bk (σ'.set i none) H', ct := fun σ' H' => D.ct (σ'.set i none) H' } (σ.set i (some (.ref a))) H
theorem ps_try_met (hs : X.stack = X.env :: X.outer) (hf : X.env.frame = some X.env.locals) (hN : X.N.Nodup) (hi : X.N[i]? = some n) (hln : X.env.kindOf n = some .local) (hc : Names X x c)
    (hb : ∀ (W : WX) (pn : List (Addr × Obj)) (xe : Value → Shared → Prop), Takes (X.tr pn xe) W → PassesOwn (model X.prog X.w) X.A X.env xe → PSs (X.tr pn xe) body (tb W))
    (hsu : ∀ (a : Addr) (oe : Obj) (cls : Value) (d : Option Addr) (pn : List (Addr × Obj)), Zc cls d oe → (∃ vs, oe.data = .fields vs) → PSs (X.suite a ((a, oe) :: pn)) (b₀ :: suite) (ts a cls d)) :
    PS X (.Try body (.ExceptHandler (some (.Name x np)) (some n) (b₀ :: suite) pos' :: rest) [] [] pos) (fun D σ H => tb (wMet X.K c i ts D) D σ H) := by
  refine ⟨fun pins s σ H D I h => ?_⟩
  have ok := I.ok
  have hfr : X.A.frames = some (X.env :: X.outer) := by rw [ok.frames, hs]
  have hloc : Loc X.env.scope n := .inl hln
  refine wpAny_Try_except ?_
  refine wpAny_mono ((hb (wMet X.K c i ts D) (X.pn ++ pins) (fun e s₁ => wpAny (model X.prog X.w) X.A (noteFrame e X.env) (fun _ s₂ => wpAny (model X.prog X.w) X.A (setFlight e none) (fun _ s₃ =>
    wpAny (model X.prog X.w) X.A (handleBy e X.env (.ExceptHandler (some (.Name x np)) (some n) (b₀ :: suite) pos' :: rest)) (SP X pins D) X.xe s₃) X.xe s₂) X.xe s₁) (fun u s' xx => ?_) PassesOwn.looking).run [] s σ H D (I.toTry _) h) (fun f s1 hsp => ?_) (fun e s1 he => he)
  · obtain ⟨a, B, sI, pins', σ', H', cls, d, rfl, J', nb, up, sky, na, os, ag, hb1, hyes⟩ := xx
    have J : Inv X pins σ' H' sI := J'.ofTry ok
    have sky' : Sky B (X.env :: X.outer) a (Zc cls d) X.env.locals s'.heap := by rw [← hs]; exact sky
    show wpAny (model X.prog X.w) X.A (noteFrame (.ref a) X.env) _ _ _
    refine Sky.land Zc.steady hfr hf sky' fun h3 fl3 up3 => ?_
    have J3 : Inv X pins σ' H' { s' with heap := h3 } := J.landed nb fl3.1 (up.trans up3) os ag
    obtain ⟨oe3, vs3, he3, hz3, hd3⟩ := fl3.there
    have notFr : ∀ {h : Heap} {o : Obj} {vs : Array Value}, h.FunFrames B (X.env :: X.outer) → h.get? a = some o → o.data = .fields vs → a ∉ frs (X.env :: X.outer) := fun {h o vs} ff e dd hm => by
      obtain ⟨_, o', e', hnf⟩ := ff.mem hm
      rw [e] at e'; cases e'
      exact hnf _ dd
    have nfr := notFr fl3.2.2.1 he3 hd3
    have nL : a ≠ X.env.locals := fun z => nfr (List.mem_filterMap.mpr ⟨X.env, List.mem_cons_self, by rw [hf, z]⟩)
    have nF : a ∉ X.fs := fun hm => by
      obtain ⟨e, he, q⟩ := List.mem_filterMap.mp hm
      exact nfr (List.mem_filterMap.mpr ⟨e, List.mem_cons_of_mem _ he, q⟩)
    have S3 := J3.suite he3 hd3 na nL nF
    refine wpAny_handleBy_cons (codeAny_handlers_test ?_) (by intro q; cases q)
    have LT : PySem.W.Looks (model X.prog X.w) h3 (typeOf (.ref a)) cls := fun A Q E s k q => wpAny_typeOf_ref (k _ _ he3) (by rw [hz3.1]; exact q)
    have LM := PySem.W.exm_one (M := model X.prog X.w) (J3.kIn) LT hb1
    have test : ∀ {Q : Value → Shared → Prop} {E : Value → Shared → Prop}, Q c { s' with heap := h3 } → wpAny (model X.prog X.w) (X.A.mark (some (.ref a))) (eval (.Name x np) X.env) Q E { s' with heap := h3 } := fun {Q E} q => by
      obtain ⟨hg, hdbg, hm | ⟨hm, hv, hnn⟩⟩ := hc
      · exact ld_glob (X := X.suite a ((a, oe3) :: (X.pn ++ pins))) S3 hg hm q hdbg
      · exact ld_blt (X := X.suite a ((a, oe3) :: (X.pn ++ pins))) S3 hg hm hv q hnn hdbg
    refine test (LM.here ?_)
    refine codeAny_handlers_suite_as ?_
    refine HandSPX.lands_againZ fl3 fun h4 fl4 up4 => ?_
    have J4 : Inv X pins σ' H' { s' with heap := h4 } := J.landed nb fl4.1 ((up.trans up3).trans up4) os ag
    obtain ⟨oe4, vs4, he4, hz4, hd4⟩ := fl4.there
    have S4 := J4.suite he4 hd4 na nL nF
    refine store_ok (X := X.suite a ((a, oe4) :: (X.pn ++ pins))) (v := .ref a) S4 hN hi hloc rfl (fun s5 S5 => ?_) (.inr hln)
    refine wpAny_mono ((hsu a oe4 cls d (X.pn ++ pins) hz4 ⟨_, hd4⟩).run [] s5 _ H' _ S5 (hyes a na)) (fun f s6 hsp => ?_) (fun _ _ z => False.elim z)
    have end_ : ∀ {σ6 : L2.St} {H6 : Hp} {Q : Shared → Prop}, Inv (X.suite a ((a, oe4) :: (X.pn ++ pins))) [] σ6 H6 s6 → (∀ s7, Inv X pins (σ6.set i none) H6 s7 → Q s7) →
        wpAny (model X.prog X.w) X.A (do bindName X.env n .none; unbindBehindTheSuite X.env n pos') (fun _ s7 => Q s7) X.xe s6 := fun {σ6 H6 Q} S6 hq => gone_ok (S6.unsuite ok) hN hi hln hq
    cases f with
    | next =>
      obtain ⟨σ6, H6, S6, q6⟩ := hsp
      exact end_ S6 fun s7 J7 => ⟨_, _, J7, q6⟩
    | brk =>
      obtain ⟨σ6, H6, S6, q6⟩ := hsp
      exact end_ S6 fun s7 J7 => ⟨_, _, J7, q6⟩
    | cont =>
      obtain ⟨σ6, H6, S6, q6⟩ := hsp
      exact end_ S6 fun s7 J7 => ⟨_, _, J7, q6⟩
    | ret u =>
      obtain ⟨v6, σ6, H6, S6, r6, q6⟩ := hsp
      exact end_ S6 fun s7 J7 => ⟨_, _, _, J7, r6, q6⟩
  · cases f with
    | next =>
      obtain ⟨σ', H', J', q⟩ := hsp
      exact wpAny_execs_nil ⟨σ', H', J'.ofTry ok, q⟩
    | brk =>
      obtain ⟨σ', H', J', q⟩ := hsp
      exact ⟨σ', H', J'.ofTry ok, q⟩
    | cont =>
      obtain ⟨σ', H', J', q⟩ := hsp
      exact ⟨σ', H', J'.ofTry ok, q⟩
    | ret u =>
      obtain ⟨v, σ', H', J', r, q⟩ := hsp
      exact ⟨v, σ', H', J'.ofTry ok, r, q⟩
theorem passes_len {W : WX} (tk : Takes X W) : Passes (L2.CX X.prog X.w) X (fun cls d H => ∀ σ : L2.St, σ.length = X.N.length → W cls d σ H) := fun _ σ _ _ e s' I c => tk e s' (XE.of_call I (fun _ _ _ h => h σ I.len) c)
end
end K25
set_option Elab.async false
set_option linter.all false
set_option maxRecDepth 100000
set_option maxHeartbeats 4000000
/-! _law_raw_of, _law_text_of -/
namespace K25
open PySem PySem.Spec PyProof.Rows L2 C8 SX TL LamX
section
variable {P : Program} {w : World} {K : PySem.W.Frag} {mg : Str → Option Value} {base : Heap}
def spRawOf (K : PySem.W.Frag) : Sp := fun vs H Q _ => ∃ (wa : Addr) (o : Opts) (t : Val) (v : V) (G : Hp), vs = [.ref wa, v] ∧ (∃ wd, G wa = some (.ins (WC K) wd (wF o))) ∧ Same G (stH H) ∧ Tabs (TT K) H ∧ VAt (TC K) G 61 t v ∧ MOk 61 t ∧ cnt 61 t ≤ 600 ∧
  match rawN o 61 t [] with
  | .error e => ∀ (q pp : Addr) (H' : Hp), ExtN H H' → Tabs (TT K) H' → H' q = some (.tup [.str "no", .str e.1, .ref pp]) → H' pp = some (.tup (e.2.map kV)) → Q (.ref q) H'
  | .ok y => ∀ (q : Addr) (v' : V) (G' H' : Hp), New G (stH H) G' (stH H') → ExtN H H' → Tabs (TT K) H' → G' q = some (.tup [.str "raw", v']) → TAt G' 61 y v' → Q (.ref q) H'
theorem scRawOf : FnScope ["_law_writer_here", "_law_value", "_law_raw", "e"] ["_law_writer_here", "_law_value"] (defScope (top 53)) := ⟨rfl, rfl, rfl, by decide +kernel, rfl, by decide +kernel, by decide +kernel⟩
theorem c_rawOf (T : Txt3 K mg) (TB : TabB base mg (cKept K) (pKept K)) : Cal P w K mg base 130 "_law_raw_of" (spRawOf K) [] := by
  refine T.f_raw_of.cal scRawOf (b2 fun _ _ _ _ _ _ _ _ => rfl) (fun vs H Q E h => ?_) (fun f cdv A outer s H vs Q E hr h => ?_)
  · obtain ⟨wa, o, t, v, G, rfl, _⟩ := h
    rfl
  obtain ⟨wa, o, t, v, G, rfl, hw, sg, tb, hv, mo, hc, q⟩ := h
  refine ⟨_, (pss_cons (ps_try_met (i := 3) rfl rfl scRawOf.nd rfl rfl ⟨rfl, by decide, .inl T.g_Unwritable⟩
      (fun W pn xe tk hp => pss_one (ps_set (i := 2) scRawOf.nd rfl (Or.inl rfl) (pe_mtR (E := fun cls d H => ∀ σ : L2.St, σ.length = 4 → W cls d σ H) (c_rawM T TB) hr (by omega) (fun _ σ _ _ e s' I c => tk e s' (XE.of_call I (fun _ _ _ h => h σ I.len) c)) (pv 0) (pa_cons (pv 1) pa_nil))))
      (fun a oe cls d pn hz hf => pss_one (ps_ret (pe_tup (pa_cons pe_str (pa_cons (pe_xf T.u_xf T.u_r hz hf (pv 3)) (pa_cons (pe_xf T.u_xf T.u_p hz hf (pv 3)) pa_nil)))))))
      (pss_one (ps_ret (pe_tup (pa_cons pe_str (pa_cons (pv 2) pa_nil)))))), ?_⟩
  obtain ⟨wd, hwG⟩ := id hw
  refine ⟨_, rfl, wa, wd, _, rfl, same_un sg hwG, rfl, _, rfl, wa, o, t, v, G, rfl, hw, sg, tb, hv, mo, hc, ?_⟩
  cases e : rawN o 61 t [] with
  | error er =>
    rw [e] at q
    have q : ∀ (q pp : Addr) (H' : Hp), ExtN H H' → Tabs (TT K) H' → H' q = some (.tup [.str "no", .str er.1, .ref pp]) → H' pp = some (.tup (er.2.map kV)) → Q (.ref q) H' := q
    intro d pp H' ex tb' hd hpp σ hσ
    refine ⟨T.u_exm, fun a ha => ?_⟩
    have hσ : σ.length = 4 := hσ
    have h3 : (σ.set 3 (some (V.ref a)))[3]? = some (some (V.ref a)) := List.getElem?_set_self (by omega)
    refine ⟨_, h3, rfl, rfl, d, _, _, rfl, hd, rfl, _, h3, rfl, rfl, d, _, _, rfl, hd, rfl, (by show 3 ≤ sizeLine; decide), fun p0 hp0 => ?_⟩
    exact q p0 pp _ (ex.trans (ext_put hp0 _)) (tb'.ext (same_put hp0 _)) upd_same (same_put hp0 _ _ _ hpp)
  | ok y =>
    rw [e] at q
    have q : ∀ (q : Addr) (v' : V) (G' H' : Hp), New G (stH H) G' (stH H') → ExtN H H' → Tabs (TT K) H' → G' q = some (.tup [.str "raw", v']) → TAt G' 61 y v' → Q (.ref q) H' := q
    intro v' G' H' nw ex tb' ta
    refine ⟨_, rfl, (by show 2 ≤ sizeLine; decide), fun p0 hp0 => ?_⟩
    have np := New.put nw.le (stH_none hp0) (.tup [.str "raw", v'])
    refine q p0 v' _ _ (?_ : New G (stH H) _ _) (ex.trans (ext_put hp0 _)) (tb'.ext (same_put hp0 _)) upd_same (ta.up np.up)
    rw [stH_upd (fun ps z => by cases z)]
    exact nw.trans np
def spTextOf (K : PySem.W.Frag) : Sp := fun vs H Q _ => ∃ (wa : Addr) (o : Opts) (t : Val) (v : V) (G : Hp), vs = [.ref wa, v] ∧ (∃ wd, G wa = some (.ins (WC K) wd (wF o))) ∧ Same G (stH H) ∧ Tabs (TT K) H ∧ VAt (TC K) G 61 t v ∧ MOk 61 t ∧ cnt 61 t ≤ 600 ∧
  match rawN o 61 t [] with
  | .error e => ∀ (q pp : Addr) (H' : Hp), ExtN H H' → Tabs (TT K) H' → H' q = some (.tup [.str "no", .str e.1, .ref pp]) → H' pp = some (.tup (e.2.map kV)) → Q (.ref q) H'
  | .ok y => ∀ (q ee : Addr) (z : Str) (H' : Hp), ExtN H H' → Tabs (TT K) H' → H' q = some (.tup [.str "text", .str z, .ref ee]) → H' ee = some (.tup []) → tl z = textN 61 y → Q (.ref q) H'
theorem scTextOf : FnScope ["_law_writer_here", "_law_value", "_law_text_here", "e"] ["_law_writer_here", "_law_value"] (defScope (top 56)) := ⟨rfl, rfl, rfl, by decide +kernel, rfl, by decide +kernel, by decide +kernel⟩
theorem c_textOf (T : Txt3 K mg) (TB : TabB base mg (cKept K) (pKept K)) : Cal P w K mg base 130 "_law_text_of" (spTextOf K) [] := by
  refine T.f_text_of.cal scTextOf (b2 fun _ _ _ _ _ _ _ _ => rfl) (fun vs H Q E h => ?_) (fun f cdv A outer s H vs Q E hr h => ?_)
  · obtain ⟨wa, o, t, v, G, rfl, _⟩ := h
    rfl
  obtain ⟨wa, o, t, v, G, rfl, hw, sg, tb, hv, mo, hc, q⟩ := h
  refine ⟨_, (pss_cons (ps_try_met (i := 3) rfl rfl scTextOf.nd rfl rfl ⟨rfl, by decide, .inl T.g_Unwritable⟩
      (fun W pn xe tk hp => pss_one (ps_set (i := 2) scTextOf.nd rfl (Or.inl rfl) (pe_mtR (E := fun cls d H => ∀ σ : L2.St, σ.length = 4 → W cls d σ H) (c_write T TB) hr (by omega) (fun _ σ _ _ e s' I c => tk e s' (XE.of_call I (fun _ _ _ h => h σ I.len) c)) (pv 0) (pa_cons (pv 1) pa_nil))))
      (fun a oe cls d pn hz hf => pss_one (ps_ret (pe_tup (pa_cons pe_str (pa_cons (pe_xf T.u_xf T.u_r hz hf (pv 3)) (pa_cons (pe_xf T.u_xf T.u_p hz hf (pv 3)) pa_nil)))))))
      (pss_one (ps_ret (pe_tup (pa_cons pe_str (pa_cons (pv 2) (pa_cons (pe_tup pa_nil) pa_nil))))))), ?_⟩
  obtain ⟨wd, hwG⟩ := id hw
  refine ⟨_, rfl, wa, wd, _, rfl, same_un sg hwG, rfl, _, rfl, wa, o, t, v, G, rfl, hw, sg, tb, hv, mo, hc, ?_⟩
  cases e : rawN o 61 t [] with
  | error er =>
    rw [e] at q
    have q : ∀ (q pp : Addr) (H' : Hp), ExtN H H' → Tabs (TT K) H' → H' q = some (.tup [.str "no", .str er.1, .ref pp]) → H' pp = some (.tup (er.2.map kV)) → Q (.ref q) H' := q
    intro d pp H' ex tb' hd hpp σ hσ
    refine ⟨T.u_exm, fun a ha => ?_⟩
    have hσ : σ.length = 4 := hσ
    have h3 : (σ.set 3 (some (V.ref a)))[3]? = some (some (V.ref a)) := List.getElem?_set_self (by omega)
    refine ⟨_, h3, rfl, rfl, d, _, _, rfl, hd, rfl, _, h3, rfl, rfl, d, _, _, rfl, hd, rfl, (by show 3 ≤ sizeLine; decide), fun p0 hp0 => ?_⟩
    exact q p0 pp _ (ex.trans (ext_put hp0 _)) (tb'.ext (same_put hp0 _)) upd_same (same_put hp0 _ _ _ hpp)
  | ok y =>
    rw [e] at q
    have q : ∀ (q ee : Addr) (z : Str) (H' : Hp), ExtN H H' → Tabs (TT K) H' → H' q = some (.tup [.str "text", .str z, .ref ee]) → H' ee = some (.tup []) → tl z = textN 61 y → Q (.ref q) H' := q
    intro z H' hz ex tb'
    refine ⟨_, rfl, (by show 0 ≤ sizeLine; decide), fun ee hee => ⟨(by show 3 ≤ sizeLine; decide), fun p0 hp0 => ?_⟩⟩
    exact q p0 ee z _ (ex.trans ((ext_put hee _).trans (ext_put hp0 _))) ((tb'.ext (same_put hee _)).ext (same_put hp0 _)) upd_same (same_put hp0 _ _ _ upd_same) hz
end
end K25
set_option Elab.async false
set_option linter.all false
set_option maxRecDepth 100000
set_option maxHeartbeats 4000000
/-! the scanner: positions, here, skip_blanks, expect, read_word -/
namespace K25
open PySem PySem.Spec PyProof.Rows L2 C8 SX TL
/-! ### positions in a text -/
/-- behind p the text z has the codes l -/
def At (z : Str) (p : Nat) (l : List Nat) : Prop := (tl z).drop p = l ∧ p ≤ (tl z).length ∧ z.length ≤ 1000000
theorem At.step {z : Str} {p c : Nat} {l : List Nat} (h : At z p (c :: l)) : At z (p + 1) l := by
  obtain ⟨h1, h2, h3⟩ := h
  refine ⟨?_, ?_, h3⟩
  · rw [Nat.add_comm, ← List.drop_drop, List.drop_drop, Nat.add_comm, ← List.drop_drop, h1]
    rfl
  · have := congrArg List.length h1
    rw [List.length_drop, List.length_cons] at this
    omega
theorem At.app {z : Str} : ∀ {m : List Nat} {p : Nat} {l : List Nat}, At z p (m ++ l) → At z (p + m.length) l
  | [], _, _, h => h
  | c :: m, p, l, h => by
    have h := At.app (m := m) (At.step (show At z p (c :: (m ++ l)) from h))
    rw [List.length_cons]
    rw [show p + (m.length + 1) = p + 1 + m.length by omega]
    exact h
theorem At.cut {z : Str} {p : Nat} {l : List Nat} (h : At z p l) : tl (cutS z (some (p : Int)) (some ((p : Int) + 1))) = l.take 1 := by
  rw [show (p : Int) + 1 = ((p + 1 : Nat) : Int) from rfl, tl_cut z (Nat.le_succ p), h.1, show p.succ - p = 1 by omega]
theorem At.cutm {z : Str} {p q : Nat} {m l : List Nat} (h : At z p (m ++ l)) (hq : q = p + m.length) : tl (cutS z (some (p : Int)) (some (q : Int))) = m := by
  rw [tl_cut z (by omega), h.1, hq, Nat.add_sub_cancel_left, List.take_left]
theorem At.size {z : Str} {p : Nat} {l : List Nat} (h : At z p l) : z.length ≤ sizeLine := Nat.le_trans h.2.2 (by decide)
theorem At.get {z : Str} {p c : Nat} {l : List Nat} (h : At z p (c :: l)) : atI z.cps.toList (p : Int) = some c := by
  refine atI_nat ?_
  have e : (tl z)[p]? = some c := by
    have := congrArg (fun l => l[0]?) h.1
    simp only [List.getElem?_drop, List.getElem?_cons_zero, Nat.add_zero] at this
    exact this
  exact e
def s1 (c : Nat) : Str := ⟨#[c]⟩
theorem s1_of {y : Str} {c : Nat} {l : List Nat} (h : tl y = (c :: l).take 1) : y = s1 c := ext_tl (h.trans rfl)
theorem s0_of {y : Str} (h : tl y = ([] : List Nat).take 1) : y = ("" : Str) := ext_tl (h.trans (by decide +kernel))
/-- what may stand behind a value -/
def Aft (l : List Nat) : Prop := l = [] ∨ ∃ c r, l = c :: r ∧ (c = 44 ∨ c = 93 ∨ c = 125)
def scF (z : Str) (p d : Nat) : List (Str × V) := [("text", .str z), ("at", .int (p : Int)), ("depth", .int (d : Int))]
structure Txt4 (w : World) (K : PySem.W.Frag) (mg : Str → Option Value) : Prop extends Txt3 K mg where
  g_Scanner : mg "Scanner" = some (.ref (He.ga K "Scanner"))
  y_Scanner : Cls K (SC K)
  i_Scanner : GI K "Scanner" "Scanner.__init__" (inClass (top 16) 0) [] []
  na_Scanner : ∀ f ∈ (["text", "at", "depth"] : List Str), NoAttr K (SC K) f
  s_here : GM K (SC K) "here" "Scanner.here" (inClass (top 16) 1)
  s_skip : GM K (SC K) "skip_blanks" "Scanner.skip_blanks" (inClass (top 16) 2)
  s_expect : GM K (SC K) "expect" "Scanner.expect" (inClass (top 16) 3)
  s_word : GM K (SC K) "read_word" "Scanner.read_word" (inClass (top 16) 4)
  s_num : GM K (SC K) "read_number" "Scanner.read_number" (inClass (top 16) 5)
  s_str : GM K (SC K) "read_string" "Scanner.read_string" (inClass (top 16) 6)
  s_val : GM K (SC K) "read_value" "Scanner.read_value" (inClass (top 16) 7)
  s_mem : GM K (SC K) "read_member" "Scanner.read_member" (inClass (top 16) 8)
  s_mems : GM K (SC K) "read_members" "Scanner.read_members" (inClass (top 16) 9)
  g_DEEPEST : ∃ u, mg "DEEPEST" = some u ∧ RelV (.int 60) u
  g_MOST_DIGITS : ∃ u, mg "MOST_DIGITS" = some u ∧ RelV (.int 30) u
  g_WORDS : mg "WORDS" = some (.ref (He.ga K "WORDS"))
  w_n : ∃ q, KDct K w (He.ga K "WORDS") "n" (.ref q) ∧ KTup K q [.str "null", .non]
  w_t : ∃ q, KDct K w (He.ga K "WORDS") "t" (.ref q) ∧ KTup K q [.str "true", .bl true]
  w_f : ∃ q, KDct K w (He.ga K "WORDS") "f" (.ref q) ∧ KTup K q [.str "false", .bl false]
section
variable {P : Program} {w : World} {K : PySem.W.Frag} {mg : Str → Option Value} {base : Heap}
theorem Txt4.na_text (T : Txt4 w K mg) : NoAttr K (SC K) "text" := T.na_Scanner _ (by decide)
theorem Txt4.na_at (T : Txt4 w K mg) : NoAttr K (SC K) "at" := T.na_Scanner _ (by decide)
theorem Txt4.na_depth (T : Txt4 w K mg) : NoAttr K (SC K) "depth" := T.na_Scanner _ (by decide)
def Sc (K : PySem.W.Frag) (H : Hp) (x dx : Addr) (z : Str) (p d : Nat) : Prop := H x = some (.ins (SC K) dx (scF z p d))
/-! ### here -/
def spHere (K : PySem.W.Frag) : Sp := fun vs H Q _ => ∃ (x dx : Addr) (z : Str) (p d : Nat) (l : List Nat), vs = [.ref x] ∧ Sc K H x dx z p d ∧ At z p l ∧ ∀ y, tl y = l.take 1 → Q (.str y) H
theorem scHere : FnScope ["self"] ["self"] (defScope (inClass (top 16) 1)) := ⟨rfl, rfl, rfl, by decide +kernel, rfl, by decide +kernel, by decide +kernel⟩
theorem c_here (T : Txt4 w K mg) : Met P w K mg base 1 (SC K) "here" (spHere K) [] := by
  refine T.s_here.met T.y_Scanner scHere (b1 fun _ _ _ _ _ _ _ => rfl) (fun vs H Q E h => ?_) (fun f cdv A outer s H vs Q E hr h => ?_)
  · obtain ⟨x, dx, z, p, d, l, rfl, _⟩ := h
    rfl
  obtain ⟨x, dx, z, p, d, l, rfl, hx, ha, q⟩ := h
  refine ⟨_, (pss_one (ps_ret (pe_slice sl_str (pe_fld (pv 0) rfl) (po_some (pe_fld (pv 0) rfl)) (po_some (pe_op op_add (pe_fld (pv 0) rfl) pe_int))))), ?_⟩
  refine ⟨_, rfl, x, _, _, _, _, rfl, hx, T.y_Scanner, T.na_text, rfl, _, rfl, x, _, _, _, _, rfl, hx, T.y_Scanner, T.na_at, rfl, ?_⟩
  refine ⟨_, rfl, _, rfl, x, _, _, _, _, rfl, hx, T.y_Scanner, T.na_at, rfl, _, _, rfl, rfl, _, rfl, z, rfl, ha.size, ?_⟩
  exact q _ ha.cut
/-! ### skip_blanks -/
def spSkip (K : PySem.W.Frag) : Sp := fun vs H Q _ => ∃ (x dx : Addr) (z : Str) (p d : Nat) (l : List Nat), vs = [.ref x] ∧ Sc K H x dx z p d ∧ At z p l ∧ l.take 1 ≠ [32] ∧ Q .non H
theorem scSkip : FnScope ["self"] ["self"] (defScope (inClass (top 16) 2)) := ⟨rfl, rfl, rfl, by decide +kernel, rfl, by decide +kernel, by decide +kernel⟩
theorem c_skip (T : Txt4 w K mg) : Met P w K mg base 2 (SC K) "skip_blanks" (spSkip K) [] := by
  refine T.s_skip.met T.y_Scanner scSkip (b1 fun _ _ _ _ _ _ _ => rfl) (fun vs H Q E h => ?_) (fun f cdv A outer s H vs Q E hr h => ?_)
  · obtain ⟨x, dx, z, p, d, l, rfl, _⟩ := h
    rfl
  obtain ⟨x, dx, z, p, d, l, rfl, hx, ha, hl, q⟩ := h
  refine ⟨_, (pss_one (ps_while PassesOwn.never (pt_cmpR op_eq (pe_mt0 (c_here T) hr (by omega) (pv 0)) pe_str (nomark _))
      (pss_one (ps_fldaug (pv 0) pe_int in_add)))), ?_⟩
  refine ⟨fun m σ H' => σ = [some (.ref x)] ∧ H' = H, ⟨0, rfl, rfl⟩, ?_⟩
  rintro m σ H' ⟨rfl, rfl⟩
  refine ⟨_, rfl, x, _, _, rfl, hx, rfl, x, dx, z, p, d, l, rfl, hx, ha, fun y hy => ⟨rfl, _, rfl, ?_⟩⟩
  refine ite2 (fun e => absurd ?_ hl) (fun _ => q)
  have e := of_decide_eq_true e
  rw [← hy, V.str.inj e]
  decide +kernel
/-! ### expect -/
def spExpect (K : PySem.W.Frag) : Sp := fun vs H Q _ => ∃ (x dx : Addr) (z : Str) (p d : Nat) (c : Nat) (l : List Nat), vs = [.ref x, .str (s1 c)] ∧ Sc K H x dx z p d ∧ At z p (c :: l) ∧ Q .non (upd H x (.ins (SC K) dx (scF z (p + 1) d)))
theorem scExpect : FnScope ["self", "sign"] ["self", "sign"] (defScope (inClass (top 16) 3)) := ⟨rfl, rfl, rfl, by decide +kernel, rfl, by decide +kernel, by decide +kernel⟩
theorem c_expect (T : Txt4 w K mg) : Met P w K mg base 2 (SC K) "expect" (spExpect K) [] := by
  refine T.s_expect.met T.y_Scanner scExpect (b2 fun _ _ _ _ _ _ _ _ => rfl) (fun vs H Q E h => ?_) (fun f cdv A outer s H vs Q E hr h => ?_)
  · obtain ⟨x, dx, z, p, d, c, l, rfl, _⟩ := h
    rfl
  obtain ⟨x, dx, z, p, d, c, l, rfl, hx, ha, q⟩ := h
  refine ⟨_, (pss_cons (ps_if (pt_cmpR op_ne (pe_mt0 (c_here T) hr (by omega) (pv 0)) (pv 1) (nomark _))
        (pss_one ps_never)
        pss_nil)
      (pss_one (ps_fldaug (pv 0) pe_int in_add))), ?_⟩
  refine ⟨_, rfl, x, _, _, rfl, hx, rfl, x, dx, z, p, d, _, rfl, hx, ha, fun y hy => ?_⟩
  cases s1_of hy
  refine ⟨_, rfl, rfl, _, rfl, ?_⟩
  rw [decide_eq_true rfl]
  refine iteF ?_
  exact ⟨_, rfl, x, _, _, _, _, rfl, hx, T.y_Scanner, T.na_at, rfl, _, _, rfl, rfl, _, _, hx, (by show 3 < 1000; decide), q⟩
/-! ### read_word -/
def spWord (w : World) (K : PySem.W.Frag) : Sp := fun vs H Q _ => ∃ (x dx : Addr) (z : Str) (p d : Nat) (m l : List Nat) (c : Nat) (r : List Nat) (u : Str) (v : V) (qa : Addr), vs = [.ref x] ∧ Sc K H x dx z p d ∧ At z p (m ++ l) ∧ m = c :: r ∧ KDct K w (He.ga K "WORDS") (s1 c) (.ref qa) ∧ KTup K qa [.str u, v] ∧ tl u = m ∧
  ∀ H', Sc K H' x dx z (p + m.length) d → (∀ b, b ≠ x → H' b = H b) → Q v H'
theorem scWord : FnScope ["self", "letters", "value", "letter"] ["self"] (defScope (inClass (top 16) 4)) := ⟨rfl, rfl, rfl, by decide +kernel, rfl, by decide +kernel, by decide +kernel⟩
theorem c_word (T : Txt4 w K mg) : Met P w K mg base 3 (SC K) "read_word" (spWord w K) [] := by
  refine T.s_word.met T.y_Scanner scWord (b1 fun _ _ _ _ _ _ _ => rfl) (fun vs H Q E h => ?_) (fun f cdv A outer s H vs Q E hr h => ?_)
  · obtain ⟨x, dx, z, p, d, m, l, c, r, u, v, qa, rfl, _⟩ := h
    rfl
  obtain ⟨x, dx, z, p, d, m, l, c, r, u, v, qa, rfl, hx, ha, hm, kd, kt, hu, q⟩ := h
  refine ⟨_, (pss_cons (ps_asg (pe_ix ix_kdict (pe_glob (v := .ref (He.ga K "WORDS")) rfl T.g_WORDS rfl) (pe_mt0 (c_here T) hr (by omega) (pv 0)) (fun _ _ => rfl)) (pg_tup rfl (pgs_cons (pg_name (i := 1) scWord.nd rfl (Or.inl rfl)) (pgs_cons (pg_name (i := 2) scWord.nd rfl (Or.inl rfl)) pgs_nil))))
      (pss_cons (ps_for PassesOwn.never rfl (pi_str (pv 1)) (pg_name (i := 3) scWord.nd rfl (Or.inl rfl))
        (pss_one (ps_expr (pe_mt (c_expect T) hr (by omega) (pv 0) (pa_cons (pv 3) pa_nil)))))
      (pss_one (ps_ret (pv 2))))), ?_⟩
  refine ⟨_, rfl, x, _, _, rfl, hx, rfl, x, dx, z, p, d, _, rfl, hx, ha, fun y hy => ?_⟩
  rw [hm] at hy
  cases s1_of hy
  refine ⟨_, _, _, rfl, rfl, kd, ?_⟩
  refine ⟨qa, _, rfl, kt.sq H, rfl, _, _, rfl, _, _, rfl, rfl, ?_⟩
  refine ⟨_, rfl, u, rfl, ?_⟩
  refine for_gen (n := (tl u).length) (fun i σ H' => ∃ v3 : Option V, σ = [some (.ref x), some (.str u), some v, v3] ∧ Sc K H' x dx z (p + i) d ∧ ∀ b, b ≠ x → H' b = H b) ⟨_, rfl, hx, fun _ _ => rfl⟩ ?_ ?_ ?_ ?_
  · exact fun i σ H' hi _ => by
      show i < _
      rw [← Array.length_toList]
      exact hi
  · exact fun σ H' _ => by
      show _ ≤ _
      rw [← Array.length_toList]
      exact Nat.le_refl _
  · rintro i σ H' v2 H2 hi ⟨v3, rfl, hx', fr⟩ ⟨rfl, c', ec, rfl⟩
    have ec2 : (tl u)[i]? = some c' := by
      rw [← Array.getElem?_toList] at ec
      exact ec
    have ha' : At z (p + i) (m.drop i ++ l) := by
      have h2 : At z p (m.take i ++ (m.drop i ++ l)) := by rw [← List.append_assoc, List.take_append_drop]; exact ha
      have h3 := h2.app
      rw [List.length_take, Nat.min_eq_left (by rw [← hu]; omega)] at h3
      exact h3
    have hd : m.drop i = c' :: m.drop (i + 1) := by
      rw [hu] at ec2
      obtain ⟨hi2, e⟩ := List.getElem?_eq_some_iff.mp ec2
      rw [← e, List.getElem_cons_drop]
    rw [hd] at ha'
    refine ⟨_, rfl, x, _, _, rfl, hx', rfl, _, rfl, x, dx, z, p + i, d, c', _, rfl, hx', ha', ?_⟩
    refine ⟨_, rfl, upd_same, fun b hb => ?_⟩
    rw [upd_ne hb]
    exact fr b hb
  · rintro σ H' ⟨v3, rfl, hx', fr⟩
    rw [hu] at hx'
    exact ⟨_, rfl, q H' hx' fr⟩
end
end K25
set_option Elab.async false
set_option linter.all false
set_option maxRecDepth 100000
set_option maxHeartbeats 4000000
/-! the scanner: read_number, read_string -/
namespace K25
open PySem PySem.Spec PyProof.Rows L2 C8 SX TL
theorem numL_head : ∀ n : Nat, 0 < n → ∃ c r, numL n = c :: r ∧ c ≠ 48 := fun n => by
  induction n using Nat.strongRecOn with
  | ind n ih =>
    intro h
    by_cases h10 : n < 10
    · exact ⟨48 + n, [], numL_lt h10, by omega⟩
    · obtain ⟨c, r, e, hc⟩ := ih (n / 10) (by omega) (by omega)
      exact ⟨c, r ++ [48 + n % 10], by rw [numL_step (by omega), e]; rfl, hc⟩
theorem dig_s1 : ∀ c : Nat, 48 ≤ c → c ≤ 57 → Txt.isdigit (s1 c) = true := by
  have all : ∀ c, c < 58 → 48 ≤ c → Txt.isdigit (s1 c) = true := by decide +kernel
  exact fun c h1 h2 => all c (by omega) h1
theorem dig_aft {l : List Nat} {y : Str} (h : Aft l) (hy : tl y = l.take 1) : Txt.isdigit y = false := by
  rcases h with rfl | ⟨c, r, rfl, hc⟩
  · rw [s0_of hy]
    decide +kernel
  · rw [s1_of hy]
    rcases hc with rfl | rfl | rfl <;> decide +kernel
theorem q45 : ("-" : Str) = ⟨#[45]⟩ := by decide +kernel
theorem q48 : ("0" : Str) = ⟨#[48]⟩ := by decide +kernel
/-- all but x as it was -/
def Mv (x : Addr) (H H' : Hp) : Prop := ∀ b, b ≠ x → H' b = H b
theorem Mv.refl (x : Addr) (H : Hp) : Mv x H H := fun _ _ => rfl
theorem Mv.upd {x : Addr} {H H' : Hp} (h : Mv x H H') (o : HO) : Mv x H (upd H' x o) := fun b hb => by rw [upd_ne hb]; exact h b hb
section
variable {P : Program} {w : World} {K : PySem.W.Frag} {mg : Str → Option Value} {base : Heap}
def spNum (K : PySem.W.Frag) : Sp := fun vs H Q _ => ∃ (x dx : Addr) (z : Str) (p d : Nat) (i : Int) (l : List Nat), vs = [.ref x] ∧ Sc K H x dx z p d ∧ At z p (numI i ++ l) ∧ Aft l ∧ i.natAbs < 10 ^ 30 ∧
  ∀ H', Sc K H' x dx z (p + (numI i).length) d → Mv x H H' → Q (.int i) H'
theorem scNum : FnScope ["self", "start", "first"] ["self"] (defScope (inClass (top 16) 5)) := ⟨rfl, rfl, rfl, by decide +kernel, rfl, by decide +kernel, by decide +kernel⟩
theorem c_num (T : Txt4 w K mg) : Met P w K mg base 2 (SC K) "read_number" (spNum K) [] := by
  refine T.s_num.met T.y_Scanner scNum (b1 fun _ _ _ _ _ _ _ => rfl) (fun vs H Q E h => ?_) (fun f cdv A outer s H vs Q E hr h => ?_)
  · obtain ⟨x, dx, z, p, d, i, l, rfl, _⟩ := h
    rfl
  obtain ⟨x, dx, z, p, d, i, l, rfl, hx, ha, af, hi, q⟩ := h
  refine ⟨_, (pss_cons (ps_set (i := 1) scNum.nd rfl (Or.inl rfl) (pe_fld (pv 0) rfl))
      (pss_cons (ps_if (pt_cmpR op_eq (pe_mt0 (c_here T) hr (by omega) (pv 0)) pe_str (nomark _))
        (pss_cons (ps_fldaug (pv 0) pe_int in_add)
          (pss_one (ps_if (pt_cmpR op_eq (pe_mt0 (c_here T) hr (by omega) (pv 0)) pe_str (nomark _))
            (pss_one ps_never)
            pss_nil)))
        pss_nil)
      (pss_cons (ps_set (i := 2) scNum.nd rfl (Or.inl rfl) (pe_fld (pv 0) rfl))
      (pss_cons (ps_if (pt_not (pt_val (pe_m0 PySem.F.slot_str_isdigit PySem.F.type_str_isdigit mt_isdigit (pe_mt0 (c_here T) hr (by omega) (pv 0)))))
        (pss_one ps_never)
        pss_nil)
      (pss_cons (ps_fldaug (pv 0) pe_int in_add)
      (pss_cons (ps_if (pt_cmpR op_ne (pe_ix ix_str (pe_fld (pv 0) rfl) (pv 2) (fun _ _ => rfl)) pe_str (nomark _))
        (pss_one (ps_while PassesOwn.never (PW.pt (pw_and (pt_val (pe_m0 PySem.F.slot_str_isdigit PySem.F.type_str_isdigit mt_isdigit (pe_mt0 (c_here T) hr (by omega) (pv 0)))) (pw_and1 (pt_cmpR op_lt (pe_op op_sub (pe_fld (pv 0) rfl) (pv 2)) (pe_gc rfl T.g_MOST_DIGITS) (nomark _)))))
          (pss_one (ps_fldaug (pv 0) pe_int in_add))))
        pss_nil)
      (pss_one (ps_ret (pe_callTy call_int_str rfl T.n_int (by decide +kernel) (pa_cons (pe_slice sl_str (pe_fld (pv 0) rfl) (po_some (pv 1)) (po_some (pe_fld (pv 0) rfl))) pa_nil)))))))))), ?_⟩
  refine ⟨_, rfl, x, _, _, _, _, rfl, hx, T.y_Scanner, T.na_at, rfl, ?_⟩
  have lz : (numL i.natAbs).length ≤ 30 := numL_len (k := 30) (by omega) hi
  obtain ⟨c0, r, en, c1, c2, cr, cz⟩ : ∃ (c0 : Nat) (r : List Nat), numL i.natAbs = c0 :: r ∧ 48 ≤ c0 ∧ c0 ≤ 57 ∧ (∀ c ∈ r, 48 ≤ c ∧ c ≤ 57) ∧ (c0 = 48 → r = [] ∧ i.natAbs = 0) := by
    have dg := numL_digits i.natAbs
    by_cases h0 : i.natAbs = 0
    · rw [h0]
      exact ⟨48, [], numL_lt (by omega), by omega, by omega, (fun c hc => by cases hc), fun _ => ⟨rfl, rfl⟩⟩
    · obtain ⟨c, r, e, hc⟩ := numL_head i.natAbs (by omega)
      rw [e] at dg
      have := dg c List.mem_cons_self
      exact ⟨c, r, e, this.1, this.2, fun k hk => dg k (List.mem_cons_of_mem _ hk), fun z => absurd z hc⟩
  rw [en] at lz
  refine ⟨_, rfl, x, _, _, rfl, hx, rfl, x, dx, z, p, d, _, rfl, hx, ha, fun y hy => ⟨rfl, _, rfl, ?_⟩⟩
  have ev : decide (V.str y = V.str "-") = decide (i < 0) := by
    rw [q45]
    unfold numI at hy
    by_cases h : i < 0
    · rw [if_pos h] at hy
      rw [s1_of hy, show s1 45 = ⟨#[45]⟩ from rfl, one_eq, decide_eq_true h]
      rfl
    · rw [if_neg h, en] at hy
      rw [s1_of hy, show s1 c0 = ⟨#[c0]⟩ from rfl, one_eq, decide_eq_false h]
      exact decide_eq_false (by omega)
  rw [ev]
  refine ite2 (fun e => ?a) (fun e => ?b)
  case' a =>
    have hneg := of_decide_eq_true e
    have lenE : (numI i).length = 1 + (numL i.natAbs).length := by unfold numI; rw [if_pos hneg, List.length_cons]; omega
    have ha2 : At z (p + 1) (numL i.natAbs ++ l) := by
      unfold numI at ha
      rw [if_pos hneg] at ha
      exact ha.step
    refine ⟨_, rfl, x, _, _, _, _, rfl, hx, T.y_Scanner, T.na_at, rfl, _, _, rfl, rfl, _, _, hx, (by show 3 < 1000; decide), ?_⟩
    have hx2 : Sc K (upd H x (.ins (SC K) dx (putF "at" (.int ((p : Int) + 1)) (scF z p d)))) x dx z (p + 1) d := upd_same
    have mv : Mv x H (upd H x (.ins (SC K) dx (putF "at" (.int ((p : Int) + 1)) (scF z p d)))) := (Mv.refl x H).upd _
    refine ⟨_, rfl, x, _, _, rfl, hx2, rfl, x, dx, z, p + 1, d, _, rfl, hx2, ha2, fun y2 hy2 => ⟨rfl, _, rfl, ?_⟩⟩
    rw [en] at hy2
    rw [s1_of hy2, q48, show s1 c0 = ⟨#[c0]⟩ from rfl, one_eq, decide_eq_false (fun e => by have := (cz e).2; omega)]
    refine iteF ?_
    obtain ⟨p1, hp1⟩ : ∃ p1, p1 = p + 1 := ⟨_, rfl⟩
    generalize upd H x (.ins (SC K) dx (putF "at" (.int ((p : Int) + 1)) (scF z p d))) = H1 at *
    have lenE2 : p1 + (numL i.natAbs).length = p + (numI i).length := by omega
    rw [← hp1] at ha2 hx2
  case' b =>
    have hneg : ¬ i < 0 := fun h => e (decide_eq_true h)
    have lenE : (numI i).length = (numL i.natAbs).length := by unfold numI; rw [if_neg hneg]
    have ha2 : At z p (numL i.natAbs ++ l) := by
      unfold numI at ha
      rw [if_neg hneg] at ha
      exact ha
    have hx2 := hx
    obtain ⟨p1, hp1⟩ : ∃ p1, p1 = p := ⟨_, rfl⟩
    obtain ⟨H1, hH1⟩ : ∃ H1, H1 = H := ⟨_, rfl⟩
    have mv : Mv x H H1 := by rw [hH1]; exact Mv.refl x H
    rw [← hH1] at hx2 ⊢
    have lenE2 : p1 + (numL i.natAbs).length = p + (numI i).length := by omega
    rw [← hp1] at ha2 hx2
  all_goals
    rw [en] at ha2 lenE2
    refine ⟨_, rfl, x, _, _, _, _, rfl, hx2, T.y_Scanner, T.na_at, rfl, ?_⟩
    refine ⟨_, rfl, x, _, _, rfl, hx2, rfl, x, dx, z, p1, d, _, rfl, hx2, ha2, fun y3 hy3 => ⟨⟨_, rfl⟩, y3, rfl, rfl, trivial, _, rfl, ?_⟩⟩
    rw [s1_of hy3, dig_s1 c0 c1 c2]
    refine iteF ?_
    refine ⟨_, rfl, x, _, _, _, _, rfl, hx2, T.y_Scanner, T.na_at, rfl, _, _, rfl, rfl, _, _, hx2, (by show 3 < 1000; decide), ?_⟩
    have hx3 : Sc K (upd H1 x (.ins (SC K) dx (scF z (p1 + 1) d))) x dx z (p1 + 1) d := upd_same
    have mv3 := mv.upd (.ins (SC K) dx (scF z (p1 + 1) d))
    refine ⟨_, rfl, x, _, _, _, _, rfl, hx3, T.y_Scanner, T.na_text, rfl, _, rfl, z, _, c0, rfl, rfl, ha2.size, ha2.get, rfl, _, rfl, ?_⟩
    first | rw [q48, one_eq] | rw [one_eq]
    refine ite2 (fun e2 => ?_) (fun e2 => ?_)
    · refine ⟨fun m σ H' => ∃ k : Nat, m = r.length - k ∧ k ≤ r.length ∧ σ = [some (.ref x), some (.int (p : Int)), some (.int (p1 : Int))] ∧ Sc K H' x dx z (p1 + 1 + k) d ∧ Mv x H H', ⟨_, 0, rfl, Nat.zero_le _, rfl, hx3, mv3⟩, ?_⟩
      rintro m σ H' ⟨k, rfl, hk, rfl, hx4, mv4⟩
      have ha3 : At z (p1 + 1 + k) (r.drop k ++ l) := by
        have h2 : At z (p1 + 1) (r.take k ++ (r.drop k ++ l)) := by rw [← List.append_assoc, List.take_append_drop]; exact At.step ha2
        have h3 := h2.app
        rw [List.length_take, Nat.min_eq_left hk] at h3
        exact h3
      refine ⟨_, rfl, x, _, _, rfl, hx4, rfl, x, dx, z, _, d, _, rfl, hx4, ha3, fun y4 hy4 => ⟨⟨_, rfl⟩, y4, rfl, rfl, trivial, _, rfl, ?_⟩⟩
      by_cases hk2 : k < r.length
      · have hd : r.drop k = r[k] :: r.drop (k + 1) := (List.getElem_cons_drop hk2).symm
        rw [hd] at hy4
        have rk := cr r[k] (List.getElem_mem hk2)
        rw [s1_of hy4, dig_s1 _ rk.1 rk.2]
        refine iteT ?_
        refine ⟨_, rfl, x, _, _, _, _, rfl, hx4, T.y_Scanner, T.na_at, rfl, _, rfl, _, _, rfl, rfl, _, _, rfl, rfl, _, rfl, ?_⟩
        rw [decide_eq_true (by rw [List.length_cons] at lz; omega)]
        refine iteT ?_
        refine ⟨fun σ H2 => ∃ k2 : Nat, k2 = k + 1 ∧ σ = [some (.ref x), some (.int (p : Int)), some (.int (p1 : Int))] ∧ Sc K H2 x dx z (p1 + 1 + k2) d ∧ Mv x H H2, fun σ H2 ⟨k2, e, e2, e3, e4⟩ => ⟨_, ?_, k2, rfl, by omega, e2, e3, e4⟩, ?_⟩
        · omega
        · exact ⟨_, rfl, x, _, _, _, _, rfl, hx4, T.y_Scanner, T.na_at, rfl, _, _, rfl, rfl, _, _, hx4, (by show 3 < 1000; decide), _, rfl, rfl, upd_same, mv4.upd _⟩
      · have ek : k = r.length := by omega
        rw [ek, List.drop_length] at hy4
        rw [dig_aft af hy4]
        refine iteF ?_
        refine iteF ?_
        have hx5 : Sc K H' x dx z (p + (numI i).length) d := by rw [← lenE2, List.length_cons, show p1 + (r.length + 1) = p1 + 1 + k by omega]; exact hx4
        have ct : tl (cutS z (some (p : Int)) (some ((p + (numI i).length : Nat) : Int))) = numI i := ha.cutm rfl
        refine ⟨_, rfl, x, _, _, _, _, rfl, hx5, T.y_Scanner, T.na_text, rfl, _, rfl, _, rfl, _, rfl, x, _, _, _, _, rfl, hx5, T.y_Scanner, T.na_at, rfl, _, rfl, z, rfl, ha.size, _, i, rfl, int_back ct hi, ?_, q _ hx5 mv4⟩
        rw [len_tl, ct]
        have := numI_len hi
        omega
    · have hr : r = [] := by
        rw [Bool.not_eq_true, Bool.not_eq_false', decide_eq_true_eq] at e2
        exact (cz e2).1
      have hx5 : Sc K (upd H1 x (.ins (SC K) dx (scF z (p1 + 1) d))) x dx z (p + (numI i).length) d := by rw [← lenE2, hr]; exact hx3
      have ct : tl (cutS z (some (p : Int)) (some ((p + (numI i).length : Nat) : Int))) = numI i := ha.cutm rfl
      refine ⟨_, rfl, x, _, _, _, _, rfl, hx5, T.y_Scanner, T.na_text, rfl, _, rfl, _, rfl, _, rfl, x, _, _, _, _, rfl, hx5, T.y_Scanner, T.na_at, rfl, _, rfl, z, rfl, ha.size, _, i, rfl, int_back ct hi, ?_, q _ hx5 mv3⟩
      rw [len_tl, ct]
      have := numI_len hi
      omega
end
end K25
set_option Elab.async false
set_option linter.all false
set_option maxRecDepth 100000
set_option maxHeartbeats 4000000
/-! the scanner: read_string -/
namespace K25
open PySem PySem.Spec PyProof.Rows L2 C8 SX TL
theorem in_q34 : inV (.str (s1 34)) [V.str "\"", V.str "\\"] = true := by decide +kernel
theorem in_q92 : inV (.str (s1 92)) [V.str "\"", V.str "\\"] = true := by decide +kernel
theorem eq34 (c : Nat) : decide (V.str (s1 c) = V.str "\"") = decide (c = 34) := by rw [q34]; exact one_eq
theorem eq92 (c : Nat) : decide (V.str (s1 c) = V.str "\\") = decide (c = 92) := by rw [q92]; exact one_eq
theorem ne_mt (c : Nat) : decide (V.str (s1 c) = V.str "") = false := decide_eq_false fun e => by
  have h := congrArg tl (V.str.inj e)
  rw [show tl ("" : Str) = [] by decide +kernel] at h
  cases h
section
variable {P : Program} {w : World} {K : PySem.W.Frag} {mg : Str → Option Value} {base : Heap}
def spRdStr (K : PySem.W.Frag) : Sp := fun vs H Q _ => ∃ (x dx : Addr) (z : Str) (p d : Nat) (s : Str) (l : List Nat) (G : Hp), vs = [.ref x] ∧ Sc K H x dx z p d ∧ At z p (strL (tl s) ++ l) ∧ SOk s ∧ Same G H ∧ G x = none ∧
  ∀ (p' : Nat) (H' : Hp), At z p' l → Sc K H' x dx z p' d → New G H G H' → SB x H H' → Q (.str s) H'
theorem scRdStr : FnScope ["self", "signs", "sign"] ["self"] (defScope (inClass (top 16) 6)) := ⟨rfl, rfl, rfl, by decide +kernel, rfl, by decide +kernel, by decide +kernel⟩
theorem c_rdstr (T : Txt4 w K mg) : Met P w K mg base 3 (SC K) "read_string" (spRdStr K) [] := by
  refine T.s_str.met T.y_Scanner scRdStr (b1 fun _ _ _ _ _ _ _ => rfl) (fun vs H Q E h => ?_) (fun f cdv A outer s H vs Q E hr h => ?_)
  · obtain ⟨x, dx, z, p, d, s, l, G, rfl, _⟩ := h
    rfl
  obtain ⟨x, dx, z, p, d, s, l, G, rfl, hx, ha, hs, sg, gx, q⟩ := h
  refine ⟨_, (pss_cons (ps_expr (pe_mt (c_expect T) hr (by omega) (pv 0) (pa_cons pe_str pa_nil)))
      (pss_cons (ps_set (i := 1) scRdStr.nd rfl (Or.inl rfl) (pe_lst pa_nil))
      (pss_cons (ps_whileW PassesOwn.never (ptw_cmp op_ne (pew_named (i := 2) scRdStr.nd rfl (Or.inl rfl) (pew_of (pe_mt0 (c_here T) hr (by omega) (pv 0)))) pe_str (nomark _))
        (pss_cons (ps_if (pt_cmpR op_eq (pv 2) pe_str (nomark _))
            (pss_cons (ps_fldaug (pv 0) pe_int in_add)
              (pss_cons (ps_set (i := 2) scRdStr.nd rfl (Or.inl rfl) (pe_mt0 (c_here T) hr (by omega) (pv 0)))
              (pss_one (ps_if (pt_cmpR op_notIn_seq (pv 2) (pe_tup (pa_cons pe_str (pa_cons pe_str pa_nil))) (by rfl))
                (pss_one ps_never)
                pss_nil))))
            pss_nil)
          (pss_cons (ps_if (pt_cmpR op_eq (pv 2) pe_str (nomark _))
            (pss_one ps_never)
            pss_nil)
          (pss_cons (ps_expr (pe_bm PySem.F.plainAttrs_list PySem.F.slot_list_append PySem.F.type_list_append mt_append (pv 1) (pa_cons (pv 2) pa_nil)))
          (pss_one (ps_fldaug (pv 0) pe_int in_add)))))
        pss_nil)
      (pss_cons (ps_fldaug (pv 0) pe_int in_add)
      (pss_one (ps_ret (pe_join pe_str (pv 1)))))))), ?_⟩
  have ha0 : At z p (34 :: (esc (tl s) ++ 34 :: l)) := by
    have e : strL (tl s) ++ l = 34 :: (esc (tl s) ++ 34 :: l) := by unfold strL; simp
    rw [← e]
    exact ha
  have s300 := hs.1
  rw [len_tl] at s300
  refine ⟨_, rfl, x, _, _, rfl, hx, rfl, x, dx, z, p, d, 34, _, by rw [q34]; rfl, hx, ha0, ?_⟩
  refine ⟨(by show 0 ≤ sizeLine; decide), fun D hD => ?_⟩
  have Dx : D ≠ x := fun e => by rw [e, upd_same] at hD; cases hD
  have hD0 : H D = none := by rw [upd_ne Dx] at hD; exact hD
  have gD : G D = none := sg.free hD0
  have n1 : New G H G (upd H x (.ins (SC K) dx (scF z (p + 1) d))) := New.mut sg gx _
  have n2 := n1.trans (New.hid n1.le hD (.lst []))
  have hx2 : Sc K (upd (upd H x (.ins (SC K) dx (scF z (p + 1) d))) D (.lst [])) x dx z (p + 1) d := by
    unfold Sc
    rw [upd_ne Dx.symm, upd_same]
  have sb2 : SB x H (upd (upd H x (.ins (SC K) dx (scF z (p + 1) d))) D (.lst [])) := (SB.upd x H _).trans (SB.of (same_put hD _))
  refine ⟨fun m σ H' => ∃ (done r : List Nat) (us : List Str) (p2 : Nat) (v : Option V), m = r.length ∧ tl s = done ++ r ∧ At z p2 (esc r ++ 34 :: l) ∧ us.map tl = done.map (fun c => [c]) ∧ σ = [some (.ref x), some (.ref D), v] ∧ H' D = some (.lst (us.map V.str)) ∧
    Sc K H' x dx z p2 d ∧ New G H G H' ∧ SB x H H', ⟨_, [], tl s, [], p + 1, none, rfl, rfl, ha0.step, rfl, rfl, upd_same, hx2, n2, sb2⟩, ?_⟩
  rintro m σ H' ⟨done, r, us, p2, v, rfl, hs', ha2, hus, rfl, hD2, hx3, n3, sb3⟩
  refine ⟨_, rfl, x, _, _, rfl, hx3, rfl, x, dx, z, p2, d, _, rfl, hx3, ha2, fun y hy => ⟨rfl, _, rfl, ?_⟩⟩
  have hul : us.length = done.length := by have := congrArg List.length hus; rw [List.length_map, List.length_map] at this; exact this
  cases r with
  | nil =>
    rw [s1_of (l := l) hy, eq34, decide_eq_true rfl]
    refine iteF ?_
    have e1 : tl (Txt.join "" us) = tl s := by
      rw [tl_join0, hus, hs', List.append_nil]
      clear hus hs' hul
      induction done with
      | nil => rfl
      | cons c r ih => exact congrArg (c :: ·) ih
    have e2 : (us.map (·.length)).sum = done.length := by
      rw [flat_len, hus]
      clear hus hs' hul e1
      induction done with
      | nil => rfl
      | cons c r ih =>
        rw [List.map_cons, List.flatten_cons, List.length_append, ih, List.length_cons]
        exact (Nat.add_comm 1 _)
    have hl' := congrArg List.length hs'
    rw [List.append_nil] at hl'
    have n4 := n3.trans (New.mut n3.le gx (.ins (SC K) dx (scF z (p2 + 1) d)))
    have sb4 := sb3.trans (SB.upd x H' (.ins (SC K) dx (scF z (p2 + 1) d)))
    have hD4 : (upd H' x (.ins (SC K) dx (scF z (p2 + 1) d))) D = some (.lst (us.map V.str)) := by rw [upd_ne Dx]; exact hD2
    refine ⟨_, rfl, x, _, _, _, _, rfl, hx3, T.y_Scanner, T.na_at, rfl, _, _, rfl, rfl, _, _, hx3, (by show 3 < 1000; decide), ?_⟩
    refine ⟨⟨_, rfl⟩, _, rfl, _, D, us, rfl, rfl, .inl (SqL.of hD4), ?_, ?_⟩
    · rw [e2, show ("" : Str).length = 0 by decide +kernel]
      omega
    · rw [ext_tl e1]
      exact q (p2 + 1) _ (At.step ha2) upd_same n4 sb4
  | cons c r =>
    have hs2 : tl s = (done ++ [c]) ++ r := by rw [hs', List.append_assoc]; rfl
    have dl : done.length < 1000 := by
      have := congrArg List.length hs'
      rw [List.length_append, List.length_cons] at this
      omega
    have ful : (us.map V.str).length < sizeLine := by
      rw [List.length_map, hul]
      exact small1000 (by omega)
    have hus2 : (us ++ [s1 c]).map tl = (done ++ [c]).map (fun c => [c]) := by rw [List.map_append, List.map_append, hus]; rfl
    have mapS : us.map V.str ++ [V.str (s1 c)] = (us ++ [s1 c]).map V.str := by rw [List.map_append]; rfl
    have ha2 : At z p2 ((if c = 34 ∨ c = 92 then 92 :: c :: esc r else c :: esc r) ++ 34 :: l) := ha2
    have hy : tl y = ((if c = 34 ∨ c = 92 then 92 :: c :: esc r else c :: esc r) ++ 34 :: l).take 1 := hy
    by_cases hc : c = 34 ∨ c = 92
    case' pos =>
      rw [if_pos hc] at ha2 hy
      rw [s1_of (l := c :: esc r ++ 34 :: l) hy, eq34]
      refine iteT ?_
      refine ⟨fun σ H' => ∃ (us : List Str) (p2 : Nat) (v : Option V), At z p2 (esc r ++ 34 :: l) ∧ us.map tl = (done ++ [c]).map (fun c => [c]) ∧ σ = [some (.ref x), some (.ref D), v] ∧ H' D = some (.lst (us.map V.str)) ∧
        Sc K H' x dx z p2 d ∧ New G H G H' ∧ SB x H H', fun σ H2 ⟨us, p3, v3, e1, e2, e3, e4, e5, e6, e7⟩ => ⟨r.length, by show r.length < r.length + 1; omega, _, r, us, p3, v3, rfl, hs2, e1, e2, e3, e4, e5, e6, e7⟩, ?_⟩
      refine ⟨_, rfl, rfl, _, rfl, ?_⟩
      rw [eq92, decide_eq_true rfl]
      refine iteT ?_
      refine ⟨_, rfl, x, _, _, _, _, rfl, hx3, T.y_Scanner, T.na_at, rfl, _, _, rfl, rfl, _, _, hx3, (by show 3 < 1000; decide), ?_⟩
      have hx4 : Sc K (upd H' x (.ins (SC K) dx (scF z (p2 + 1) d))) x dx z (p2 + 1) d := upd_same
      have n4 := n3.trans (New.mut n3.le gx (.ins (SC K) dx (scF z (p2 + 1) d)))
      have sb4 := sb3.trans (SB.upd x H' (.ins (SC K) dx (scF z (p2 + 1) d)))
      have hD4 : (upd H' x (.ins (SC K) dx (scF z (p2 + 1) d))) D = some (.lst (us.map V.str)) := by rw [upd_ne Dx]; exact hD2
      have ha4 : At z (p2 + 1) (c :: (esc r ++ 34 :: l)) := At.step ha2
      refine ⟨_, rfl, x, _, _, rfl, hx4, rfl, x, dx, z, p2 + 1, d, _, rfl, hx4, ha4, fun y2 hy2 => ?_⟩
      rw [s1_of hy2]
      refine ⟨_, rfl, (by show 2 ≤ sizeLine; decide), fun tp htp => ⟨tp, _, rfl, .inr (SqT.of upd_same), rfl, rfl, _, rfl, ?_⟩⟩
      have hin : inV (.str (s1 c)) [V.str "\"", V.str "\\"] = true := by
        rcases hc with rfl | rfl
        · exact in_q34
        · exact in_q92
      rw [hin]
      refine iteF ?_
      have n5 := n4.trans (New.hid n4.le htp (.tup [V.str "\"", V.str "\\"]))
      have sb5 := sb4.trans (SB.of (same_put htp (.tup [V.str "\"", V.str "\\"])))
      have hD5 := same_put htp (.tup [V.str "\"", V.str "\\"]) _ _ hD4
      have hx5 : Sc K _ x dx z (p2 + 1) d := same_put htp (.tup [V.str "\"", V.str "\\"]) _ _ hx4
      have ha5 := ha4
    case' neg =>
      rw [if_neg hc] at ha2 hy
      rw [s1_of (l := esc r ++ 34 :: l) hy, eq34, decide_eq_false (fun e => hc (.inl e))]
      refine iteT ?_
      refine ⟨fun σ H' => ∃ (us : List Str) (p2 : Nat) (v : Option V), At z p2 (esc r ++ 34 :: l) ∧ us.map tl = (done ++ [c]).map (fun c => [c]) ∧ σ = [some (.ref x), some (.ref D), v] ∧ H' D = some (.lst (us.map V.str)) ∧
        Sc K H' x dx z p2 d ∧ New G H G H' ∧ SB x H H', fun σ H2 ⟨us, p3, v3, e1, e2, e3, e4, e5, e6, e7⟩ => ⟨r.length, by show r.length < r.length + 1; omega, _, r, us, p3, v3, rfl, hs2, e1, e2, e3, e4, e5, e6, e7⟩, ?_⟩
      refine ⟨_, rfl, rfl, _, rfl, ?_⟩
      rw [eq92, decide_eq_false (fun e => hc (.inr e))]
      refine iteF ?_
      have n5 := n3
      have sb5 := sb3
      have hD5 := hD2
      have hx5 := hx3
      have ha5 : At z p2 (c :: (esc r ++ 34 :: l)) := ha2
    all_goals
      refine ⟨_, rfl, rfl, _, rfl, ?_⟩
      rw [show decide (V.str (s1 c) = V.str "") = false from ne_mt c]
      refine iteF ?_
      refine ⟨_, rfl, .inl ⟨rfl, _, SqL.of hD5⟩, _, rfl, D, _, _, rfl, rfl, hD5, ful, ?_⟩
      have n6 := n5.trans (New.mut n5.le gD (.lst (us.map V.str ++ [V.str (s1 c)])))
      have sb6 : ∀ b o, b ≠ x → H b = some o → upd _ D (.lst (us.map V.str ++ [V.str (s1 c)])) b = some o := fun b o hb e => by rw [upd_ne (ne_of_none e hD0)]; exact sb5 b o hb e
      have hx6 := (upd_ne (o := .lst (us.map V.str ++ [V.str (s1 c)])) Dx.symm).trans hx5
      refine ⟨_, rfl, x, _, _, _, _, rfl, hx6, T.y_Scanner, T.na_at, rfl, _, _, rfl, rfl, _, _, hx6, (by show 3 < 1000; decide), ?_⟩
      refine ⟨us ++ [s1 c], _, _, At.step ha5, hus2, rfl, ?_, upd_same, n6.trans (New.mut n6.le gx _), fun b o hb e => ?_⟩
      · rw [upd_ne Dx, upd_same, mapS]
      · rw [upd_ne hb]
        exact sb6 b o hb e
end
end K25
set_option Elab.async false
set_option linter.all false
set_option maxRecDepth 100000
set_option maxHeartbeats 4000000
/-! the scanner: read_member, read_members, read_value -/
namespace K25
open PySem PySem.Spec PyProof.Rows L2 C8 SX TL
def memT (tb : Bool) (n : Nat) (e : E) : List Nat := if tb = true then strL (tl (kT e.1)) ++ 58 :: textN n e.2 else textN n e.2
def MemAt (tb : Bool) (G : Hp) (n : Nat) (e : E) (v : V) : Prop := if tb = true then ∃ q u, v = .ref q ∧ G q = some (.tup [kV e.1, u]) ∧ TAt G n e.2 u else TAt G n e.2 v
theorem MemAt.up {tb : Bool} {G G' : Hp} {n : Nat} {e : E} {v : V} (h : Same G G') (m : MemAt tb G n e v) : MemAt tb G' n e v := by
  unfold MemAt at m ⊢
  split at m
  · rw [if_pos ‹_›]
    obtain ⟨q, u, e1, e2, e3⟩ := m
    exact ⟨q, u, e1, h _ _ e2, e3.up h⟩
  · rw [if_neg ‹_›]
    exact TAt.up h m
def clC (tb : Bool) : Nat := if tb = true then 125 else 93
theorem joinL_cons (m : List Nat) : ∀ ms : List (List Nat), joinL [44] (m :: ms) = m ++ (ms.map (fun a => 44 :: a)).flatten
  | [] => by simp [joinL]
  | a :: r => by
    have ih := joinL_cons a r
    show m ++ ([44] ++ joinL [44] (a :: r)) = _
    rw [ih]
    simp
/-- how a value's text begins -/
def Beg (c : Nat) : Prop := c = 110 ∨ c = 116 ∨ c = 102 ∨ c = 45 ∨ (48 ≤ c ∧ c ≤ 57) ∨ c = 34 ∨ c = 91 ∨ c = 123
theorem text_beg : ∀ {n : Nat} {t : Val}, ROk n t → ∃ c r, textN n t = c :: r ∧ Beg c
  | 0, _, h => h.elim
  | _ + 1, .non, _ => ⟨_, _, rfl, .inl rfl⟩
  | _ + 1, .bl true, _ => ⟨_, _, rfl, .inr (.inl rfl)⟩
  | _ + 1, .bl false, _ => ⟨_, _, rfl, .inr (.inr (.inl rfl))⟩
  | _ + 1, .int i, h => by
    show ∃ c r, numI i = c :: r ∧ Beg c
    unfold numI
    split
    · exact ⟨_, _, rfl, .inr (.inr (.inr (.inl rfl)))⟩
    · cases e : numL i.natAbs with
      | nil => exact absurd e (numL_ne _)
      | cons c r =>
        have := numL_digits i.natAbs c (by rw [e]; exact List.mem_cons_self)
        exact ⟨c, r, rfl, .inr (.inr (.inr (.inr (.inl this))))⟩
  | _ + 1, .str s, h => ⟨_, _, rfl, .inr (.inr (.inr (.inr (.inr (.inl rfl)))))⟩
  | n + 1, .row t xs, _ => ⟨_, _, rfl, .inr (.inr (.inr (.inr (.inr (.inr (.inl rfl))))))⟩
  | n + 1, .tab ks xs, _ => ⟨_, _, rfl, .inr (.inr (.inr (.inr (.inr (.inr (.inr rfl))))))⟩
theorem Beg.ne {c : Nat} (h : Beg c) : c ≠ 32 ∧ c ≠ 93 ∧ c ≠ 125 ∧ c ≠ 44 := by
  unfold Beg at h
  omega
theorem mem_beg {tb : Bool} {n : Nat} {e : E} (h : ROk n e.2) : ∃ c r, memT tb n e = c :: r ∧ Beg c := by
  unfold memT
  split
  · exact ⟨34, _, rfl, .inr (.inr (.inr (.inr (.inr (.inl rfl)))))⟩
  · exact text_beg h
theorem tail_beg {tb : Bool} {l : List Nat} (ms : List (List Nat)) : ∃ c r, (ms.map (fun a => 44 :: a)).flatten ++ clC tb :: l = c :: r ∧ (c = 44 ∨ c = 93 ∨ c = 125) := by
  cases ms with
  | nil => exact ⟨_, _, rfl, by cases tb; exact .inr (.inl rfl); exact .inr (.inr rfl)⟩
  | cons a r => exact ⟨44, _, rfl, .inl rfl⟩
theorem tail_aft {tb : Bool} {l : List Nat} (ms : List (List Nat)) : Aft ((ms.map (fun a => 44 :: a)).flatten ++ clC tb :: l) := .inr (tail_beg ms)
theorem tail_nb {tb : Bool} {l : List Nat} (ms : List (List Nat)) : ((ms.map (fun a => 44 :: a)).flatten ++ clC tb :: l).take 1 ≠ [32] := by
  obtain ⟨c, r, e, h⟩ := tail_beg (tb := tb) (l := l) ms
  rw [e]
  intro z
  have := (List.cons.inj z).1
  omega
theorem q93 : ("]" : Str) = ⟨#[93]⟩ := by decide +kernel
theorem q125 : ("}" : Str) = ⟨#[125]⟩ := by decide +kernel
theorem q44 : ("," : Str) = ⟨#[44]⟩ := by decide +kernel
theorem eq93 (c : Nat) : decide (V.str (s1 c) = V.str "]") = decide (c = 93) := by rw [q93]; exact one_eq
theorem eq44 (c : Nat) : decide (V.str (s1 c) = V.str ",") = decide (c = 44) := by rw [q44]; exact one_eq
theorem eqss (c d : Nat) : decide (V.str (s1 c) = V.str (s1 d)) = decide (c = d) := one_eq
section
variable {P : Program} {w : World} {K : PySem.W.Frag} {mg : Str → Option Value} {base : Heap}
def spVal (K : PySem.W.Frag) (n : Nat) : Sp := fun vs H Q _ => ∃ (x dx : Addr) (z : Str) (p d : Nat) (t : Val) (l : List Nat) (G : Hp), vs = [.ref x] ∧ Sc K H x dx z p d ∧ At z p (textN n t ++ l) ∧ Aft l ∧ ROk n t ∧ d + n ≤ 61 ∧ Same G H ∧ G x = none ∧
  ∀ (v : V) (p' : Nat) (G' H' : Hp), At z p' l → Sc K H' x dx z p' d → New G H G' H' → SB x H H' → TAt G' n t v → Q v H'
def MemOk (tb : Bool) (n : Nat) (e : E) : Prop := ROk n e.2 ∧ (tb = true → ∃ s : Str, e.1 = .inr s ∧ SOk s)
def spMem (K : PySem.W.Frag) (tb : Bool) (n : Nat) : Sp := fun vs H Q _ => ∃ (x dx : Addr) (z : Str) (p d : Nat) (e : E) (l : List Nat) (G : Hp), vs = [.ref x, .str (s1 (clC tb))] ∧ Sc K H x dx z p d ∧ At z p (memT tb n e ++ l) ∧ Aft l ∧ MemOk tb n e ∧ d + n ≤ 61 ∧ Same G H ∧ G x = none ∧
  ∀ (v : V) (p' : Nat) (G' H' : Hp), At z p' l → Sc K H' x dx z p' d → New G H G' H' → SB x H H' → MemAt tb G' n e v → Q v H'
def spMems (K : PySem.W.Frag) (tb : Bool) (n : Nat) : Sp := fun vs H Q _ => ∃ (x dx : Addr) (z : Str) (p d : Nat) (o : Nat) (es : List E) (l : List Nat) (G : Hp), vs = [.ref x, .str (s1 (clC tb))] ∧ Sc K H x dx z p d ∧ At z p (o :: (joinL [44] (es.map (memT tb n)) ++ clC tb :: l)) ∧ (∀ e ∈ es, MemOk tb n e) ∧ es.length ≤ 12 ∧
  d + n ≤ 60 ∧ 0 < n ∧ Same G H ∧ G x = none ∧
  ∀ (D : Addr) (vs' : List V) (p' : Nat) (G' H' : Hp), At z p' l → Sc K H' x dx z p' d → New G H G' H' → SB x H H' → G' D = some (.lst vs') → Paired (MemAt tb G' n) es vs' → Q (.ref D) H'
theorem scMem : FnScope ["self", "closing", "name"] ["self", "closing"] (defScope (inClass (top 16) 8)) := ⟨rfl, rfl, rfl, by decide +kernel, rfl, by decide +kernel, by decide +kernel⟩
theorem c_mem (T : Txt4 w K mg) (tb : Bool) {n : Nat} (ihV : Met P w K mg base (3 * n + 4) (SC K) "read_value" (spVal K n) []) : Met P w K mg base (3 * n + 5) (SC K) "read_member" (spMem K tb n) [] := by
  refine T.s_mem.met (k := 3 * n + 4) T.y_Scanner scMem (b2 fun _ _ _ _ _ _ _ _ => rfl) (fun vs H Q E h => ?_) (fun f cdv A outer s H vs Q E hr h => ?_)
  · obtain ⟨x, dx, z, p, d, e, l, G, rfl, _⟩ := h
    rfl
  obtain ⟨x, dx, z, p, d, e, l, G, rfl, hx, ha, af, ok, hd, sg, gx, q⟩ := h
  refine ⟨_, (pss_cons (ps_if (pt_cmpR op_eq (pv 1) pe_str (nomark _))
        (pss_one (ps_ret (pe_mt0 ihV hr (by omega) (pv 0))))
        pss_nil)
      (pss_cons (ps_expr (pe_mt0 (c_skip T) hr (by omega) (pv 0)))
      (pss_cons (ps_set (i := 2) scMem.nd rfl (Or.inl rfl) (pe_mt0 (c_rdstr T) hr (by omega) (pv 0)))
      (pss_cons (ps_expr (pe_mt0 (c_skip T) hr (by omega) (pv 0)))
      (pss_cons (ps_expr (pe_mt (c_expect T) hr (by omega) (pv 0) (pa_cons pe_str pa_nil)))
      (pss_one (ps_ret (pe_tup (pa_cons (pv 2) (pa_cons (pe_mt0 ihV hr (by omega) (pv 0)) pa_nil)))))))))), ?_⟩
  refine ⟨_, rfl, rfl, _, rfl, ?_⟩
  cases tb with
  | false =>
    rw [eq93, show decide (clC false = 93) = true from rfl]
    exact iteT ⟨_, rfl, x, _, _, rfl, hx, rfl, x, dx, z, p, d, e.2, l, G, rfl, hx, ha, af, ok.1, hd, sg, gx, fun v p' G' H' h1 h2 h3 h4 h5 => q v p' G' H' h1 h2 h3 h4 h5⟩
  | true =>
    rw [eq93, show decide (clC true = 93) = false from rfl]
    refine iteF ?_
    obtain ⟨s0, es, so⟩ := ok.2 rfl
    have ha2 : At z p (strL (tl s0) ++ (58 :: (textN n e.2 ++ l))) := by
      have h : At z p ((strL (tl (kT e.1)) ++ 58 :: textN n e.2) ++ l) := ha
      rw [es, List.append_assoc] at h
      exact h
    refine ⟨_, rfl, x, _, _, rfl, hx, rfl, x, dx, z, p, d, _, rfl, hx, ha2, (fun e => by cases e), ?_⟩
    refine ⟨_, rfl, x, _, _, rfl, hx, rfl, x, dx, z, p, d, s0, _, G, rfl, hx, ha2, so, sg, gx, fun p1 H1 ha3 hx1 n1 sb1 => ?_⟩
    refine ⟨_, rfl, x, _, _, rfl, hx1, rfl, x, dx, z, p1, d, _, rfl, hx1, ha3, (fun e => by cases e), ?_⟩
    refine ⟨_, rfl, x, _, _, rfl, hx1, rfl, x, dx, z, p1, d, 58, _, by rw [show (":" : Str) = s1 58 by decide +kernel]; rfl, hx1, ha3, ?_⟩
    have n2 := n1.trans (New.mut n1.le gx (.ins (SC K) dx (scF z (p1 + 1) d)))
    have sb2 := sb1.trans (SB.upd x H1 (.ins (SC K) dx (scF z (p1 + 1) d)))
    have hx2 : Sc K (upd H1 x (.ins (SC K) dx (scF z (p1 + 1) d))) x dx z (p1 + 1) d := upd_same
    refine ⟨_, rfl, _, rfl, x, _, _, rfl, hx2, rfl, x, dx, z, p1 + 1, d, e.2, l, G, rfl, hx2, ha3.step, af, ok.1, hd, n2.le, gx, fun v p' G' H' h1 h2 h3 h4 h5 => ?_⟩
    refine ⟨(by show 2 ≤ sizeLine; decide), fun tp htp => ?_⟩
    have n3 := n2.trans (h3.trans (New.put h3.le htp (.tup [.str s0, v])))
    refine q _ p' _ _ h1 (same_put htp _ _ _ h2) n3 (sb2.trans (h4.trans (SB.of (same_put htp _)))) ?_
    refine ⟨tp, v, rfl, ?_, h5.up (New.put h3.le htp (.tup [.str s0, v])).up⟩
    rw [es]
    exact upd_same
theorem scMems : FnScope ["self", "closing", "found"] ["self", "closing"] (defScope (inClass (top 16) 9)) := ⟨rfl, rfl, rfl, by decide +kernel, rfl, by decide +kernel, by decide +kernel⟩
theorem c_mems (T : Txt4 w K mg) (tb : Bool) {n : Nat} (ihM : Met P w K mg base (3 * n + 5) (SC K) "read_member" (spMem K tb n) []) : Met P w K mg base (3 * n + 6) (SC K) "read_members" (spMems K tb n) [] := by
  refine T.s_mems.met (k := 3 * n + 5) T.y_Scanner scMems (b2 fun _ _ _ _ _ _ _ _ => rfl) (fun vs H Q E h => ?_) (fun f cdv A outer s H vs Q E hr h => ?_)
  · obtain ⟨x, dx, z, p, d, o, es, l, G, rfl, _⟩ := h
    rfl
  obtain ⟨x, dx, z, p, d, o, es, l, G, rfl, hx, ha, ok, h12, hd, hn, sg, gx, q⟩ := h
  refine ⟨_, (pss_cons (ps_if (pt_cmpR op_eq (pe_fld (pv 0) rfl) (pe_gc rfl T.g_DEEPEST) (nomark _))
        (pss_one ps_never)
        pss_nil)
      (pss_cons (ps_fldaug (pv 0) pe_int in_add)
      (pss_cons (ps_fldaug (pv 0) pe_int in_add)
      (pss_cons (ps_set (i := 2) scMems.nd rfl (Or.inl rfl) (pe_lst pa_nil))
      (pss_cons (ps_expr (pe_mt0 (c_skip T) hr (by omega) (pv 0)))
      (pss_cons (ps_if (pt_cmpR op_ne (pe_mt0 (c_here T) hr (by omega) (pv 0)) (pv 1) (nomark _))
        (pss_cons (ps_expr (pe_bm PySem.F.plainAttrs_list PySem.F.slot_list_append PySem.F.type_list_append mt_append (pv 2) (pa_cons (pe_mt ihM hr (by omega) (pv 0) (pa_cons (pv 1) pa_nil)) pa_nil)))
          (pss_cons (ps_expr (pe_mt0 (c_skip T) hr (by omega) (pv 0)))
          (pss_one (ps_while PassesOwn.never (pt_cmpR op_eq (pe_mt0 (c_here T) hr (by omega) (pv 0)) pe_str (nomark _))
            (pss_cons (ps_fldaug (pv 0) pe_int in_add)
              (pss_cons (ps_expr (pe_bm PySem.F.plainAttrs_list PySem.F.slot_list_append PySem.F.type_list_append mt_append (pv 2) (pa_cons (pe_mt ihM hr (by omega) (pv 0) (pa_cons (pv 1) pa_nil)) pa_nil)))
              (pss_one (ps_expr (pe_mt0 (c_skip T) hr (by omega) (pv 0))))))))))
        pss_nil)
      (pss_cons (ps_expr (pe_mt (c_expect T) hr (by omega) (pv 0) (pa_cons (pv 1) pa_nil)))
      (pss_cons (ps_fldaug (pv 0) pe_int in_sub)
      (pss_one (ps_ret (pv 2))))))))))), ?_⟩
  refine ⟨_, rfl, x, _, _, _, _, rfl, hx, T.y_Scanner, T.na_depth, rfl, rfl, _, rfl, ?_⟩
  rw [show decide (V.int (d : Int) = V.int 60) = false from decide_eq_false fun e => by have := V.int.inj e; omega]
  refine iteF ?_
  have hx1 : Sc K (upd H x (.ins (SC K) dx (scF z p (d + 1)))) x dx z p (d + 1) := upd_same
  refine ⟨_, rfl, x, _, _, _, _, rfl, hx, T.y_Scanner, T.na_depth, rfl, _, _, rfl, rfl, _, _, hx, (by show 3 < 1000; decide), ?_⟩
  refine ⟨_, rfl, x, _, _, _, _, rfl, hx1, T.y_Scanner, T.na_at, rfl, _, _, rfl, rfl, _, _, hx1, (by show 3 < 1000; decide), ?_⟩
  have n1 := New.mut sg gx (.ins (SC K) dx (scF z p (d + 1)))
  have n2 := n1.trans (New.mut n1.le gx (.ins (SC K) dx (scF z (p + 1) (d + 1))))
  have sb2 := (SB.upd x H (.ins (SC K) dx (scF z p (d + 1)))).trans (SB.upd x _ (.ins (SC K) dx (scF z (p + 1) (d + 1))))
  refine ⟨(by show 0 ≤ sizeLine; decide), fun D hD => ?_⟩
  have Dx : D ≠ x := fun e => by rw [e, upd_same] at hD; cases hD
  have hD0 : H D = none := by rw [upd_ne Dx, upd_ne Dx] at hD; exact hD
  have gD : G D = none := sg.free hD0
  have n3 := n2.trans (New.hid n2.le hD (.lst []))
  have sb3 := sb2.trans (SB.of (same_put hD (.lst [])))
  have hx3 := same_put hD (.lst []) _ _ (show Sc K (upd (upd H x (.ins (SC K) dx (scF z p (d + 1)))) x (.ins (SC K) dx (scF z (p + 1) (d + 1)))) x dx z (p + 1) (d + 1) from upd_same)
  have ha1 : At z (p + 1) (joinL [44] (es.map (memT tb n)) ++ clC tb :: l) := ha.step
  have fin : ∀ (vs : List V) (G' H' : Hp) (p' : Nat), At z p' (clC tb :: l) → Sc K H' x dx z p' (d + 1) → New G H G' H' → SB x H H' → G' D = none → H' D = some (.lst vs) → Paired (MemAt tb G' n) es vs →
      Q (.ref D) (upd (upd H' x (.ins (SC K) dx (scF z (p' + 1) (d + 1)))) x (.ins (SC K) dx (scF z (p' + 1) d))) := by
    intro vs G' H' p' f1 f2 f3 f4 f5 f6 f7
    have m1 := f3.fix sg hD0 f6 f5
    have gx1 : (upd G' D (.lst vs)) x = none := by rw [upd_ne Dx.symm]; exact f3.new x _ hx gx
    have m2 := m1.trans (New.mut m1.le gx1 (.ins (SC K) dx (scF z (p' + 1) (d + 1))))
    have m3 := m2.trans (New.mut m2.le gx1 (.ins (SC K) dx (scF z (p' + 1) d)))
    exact q D vs (p' + 1) _ _ f1.step upd_same m3 (f4.trans ((SB.upd x _ _).trans (SB.upd x _ _))) upd_same (Paired.mapP f7 fun _ _ k => k.up (same_put f5 _))
  have dd : (((d + 1 : Nat) : Int) - 1) = (d : Int) := by omega
  cases es with
  | nil =>
    have ha2 : At z (p + 1) (clC tb :: l) := ha1
    refine ⟨_, rfl, x, _, _, rfl, hx3, rfl, x, dx, z, p + 1, d + 1, _, rfl, hx3, ha2, (tail_nb (tb := tb) (l := l) []), ?_⟩
    refine ⟨_, rfl, x, _, _, rfl, hx3, rfl, x, dx, z, p + 1, d + 1, _, rfl, hx3, ha2, fun y hy => ⟨_, rfl, rfl, _, rfl, ?_⟩⟩
    rw [s1_of hy, eqss, decide_eq_true rfl]
    refine iteF ?_
    refine ⟨_, rfl, x, _, _, rfl, hx3, rfl, _, rfl, x, dx, z, p + 1, d + 1, clC tb, l, rfl, hx3, ha2, ?_⟩
    refine ⟨_, rfl, x, _, _, _, _, rfl, upd_same, T.y_Scanner, T.na_depth, rfl, _, _, rfl, rfl, _, _, upd_same, (by show 3 < 1000; decide), ?_⟩
    rw [dd]
    exact ⟨_, rfl, fin [] G _ (p + 1) ha2 hx3 n3 sb3 gD upd_same .nil⟩
  | cons e0 es' =>
    rw [List.map_cons, joinL_cons, List.append_assoc] at ha1
    obtain ⟨c0, r0, eb, hb⟩ := mem_beg (tb := tb) (ok e0 List.mem_cons_self).1
    have hbn := hb.ne
    have nb0 : (memT tb n e0 ++ (((es'.map (memT tb n)).map (fun a => 44 :: a)).flatten ++ clC tb :: l)).take 1 ≠ [32] := by
      rw [eb]
      intro z
      exact hbn.1 (List.cons.inj z).1
    refine ⟨_, rfl, x, _, _, rfl, hx3, rfl, x, dx, z, p + 1, d + 1, _, rfl, hx3, ha1, nb0, ?_⟩
    refine ⟨_, rfl, x, _, _, rfl, hx3, rfl, x, dx, z, p + 1, d + 1, _, rfl, hx3, ha1, fun y hy => ⟨_, rfl, rfl, _, rfl, ?_⟩⟩
    rw [eb] at hy
    rw [s1_of (l := r0 ++ (((es'.map (memT tb n)).map (fun a => 44 :: a)).flatten ++ clC tb :: l)) hy, eqss, decide_eq_false (by unfold clC; split; exact hbn.2.2.1; exact hbn.2.1)]
    refine iteT ?_
    refine ⟨_, rfl, .inl ⟨rfl, _, SqL.of upd_same⟩, _, rfl, x, _, _, rfl, hx3, rfl, _, rfl, x, dx, z, p + 1, d + 1, e0, _, G, rfl, hx3, ha1, tail_aft _, ok e0 List.mem_cons_self, by omega, n3.le, gx, fun v p4 G4 H4 h1 h2 h3 h4 h5 => ?_⟩
    have hD4 := h4 D _ Dx upd_same
    refine ⟨D, _, _, rfl, rfl, hD4, (by show 0 < sizeLine; decide), ?_⟩
    have n4 := n3.trans h3
    have sb4 := sb3.trans h4
    have g4 : G4 D = none := h3.new D _ upd_same gD
    have n5 := n4.trans (New.mut n4.le g4 (.lst ([] ++ [v])))
    have hx5 := (upd_ne (o := .lst ([] ++ [v])) Dx.symm).trans h2
    have sb5 : SB x H (upd H4 D (.lst ([] ++ [v]))) := fun b o hb e => by rw [upd_ne (ne_of_none e hD0)]; exact sb4 b o hb e
    refine ⟨_, rfl, x, _, _, rfl, hx5, rfl, x, dx, z, p4, d + 1, _, rfl, hx5, h1, tail_nb _, ?_⟩
    refine ⟨fun m σ H' => ∃ (i : Nat) (vs : List V) (G' : Hp) (p' : Nat), m = (e0 :: es').length - i ∧ i ≤ (e0 :: es').length ∧ σ = [some (.ref x), some (.str (s1 (clC tb))), some (.ref D)] ∧
      At z p' (((((e0 :: es').drop i).map (memT tb n)).map (fun a => 44 :: a)).flatten ++ clC tb :: l) ∧ Sc K H' x dx z p' (d + 1) ∧ New G H G' H' ∧ SB x H H' ∧ G' D = none ∧ H' D = some (.lst vs) ∧ Paired (MemAt tb G' n) ((e0 :: es').take i) vs,
      ⟨_, 1, [v], G4, p4, rfl, by show 1 ≤ es'.length + 1; omega, rfl, h1, hx5, n5, sb5, g4, upd_same, .cons h5 .nil⟩, ?_⟩
    rintro m σ H' ⟨i, vs, G', p', rfl, hi, rfl, ha6, hx6, n6, sb6, g6, hD6, pr6⟩
    refine ⟨_, rfl, x, _, _, rfl, hx6, rfl, x, dx, z, p', d + 1, _, rfl, hx6, ha6, fun y hy => ⟨rfl, _, rfl, ?_⟩⟩
    by_cases hlt : i < (e0 :: es').length
    · have hd : (e0 :: es').drop i = (e0 :: es')[i] :: (e0 :: es').drop (i + 1) := (List.getElem_cons_drop hlt).symm
      have hmem : (e0 :: es')[i] ∈ e0 :: es' := List.getElem_mem hlt
      have htk : (e0 :: es').take (i + 1) = (e0 :: es').take i ++ [(e0 :: es')[i]] := by rw [List.take_add_one, List.getElem?_eq_getElem hlt]; rfl
      generalize (e0 :: es')[i] = e at hd hmem htk
      rw [hd, List.map_cons, List.map_cons, List.flatten_cons, List.append_assoc] at ha6 hy
      rw [s1_of (l := memT tb n e ++ _) hy, eq44, decide_eq_true rfl]
      refine iteT ?_
      refine ⟨fun σ H' => ∃ (vs : List V) (G' : Hp) (p' : Nat), σ = [some (.ref x), some (.str (s1 (clC tb))), some (.ref D)] ∧
        At z p' (((((e0 :: es').drop (i + 1)).map (memT tb n)).map (fun a => 44 :: a)).flatten ++ clC tb :: l) ∧ Sc K H' x dx z p' (d + 1) ∧ New G H G' H' ∧ SB x H H' ∧ G' D = none ∧ H' D = some (.lst vs) ∧ Paired (MemAt tb G' n) ((e0 :: es').take (i + 1)) vs,
        fun σ H2 ⟨vs, G2, p2, k1, k2⟩ => ⟨_, by omega, i + 1, vs, G2, p2, rfl, hlt, k1, k2⟩, ?_⟩
      refine ⟨_, rfl, x, _, _, _, _, rfl, hx6, T.y_Scanner, T.na_at, rfl, _, _, rfl, rfl, _, _, hx6, (by show 3 < 1000; decide), ?_⟩
      have gx6 := n6.new x _ hx gx
      have hx7 : Sc K (upd H' x (.ins (SC K) dx (scF z (p' + 1) (d + 1)))) x dx z (p' + 1) (d + 1) := upd_same
      have n7 := n6.trans (New.mut n6.le gx6 (.ins (SC K) dx (scF z (p' + 1) (d + 1))))
      have sb7 := sb6.trans (SB.upd x H' (.ins (SC K) dx (scF z (p' + 1) (d + 1))))
      have hD7 : (upd H' x (.ins (SC K) dx (scF z (p' + 1) (d + 1)))) D = some (.lst vs) := by rw [upd_ne Dx]; exact hD6
      refine ⟨_, rfl, .inl ⟨rfl, _, SqL.of hD7⟩, _, rfl, x, _, _, rfl, hx7, rfl, _, rfl, x, dx, z, p' + 1, d + 1, e, _, G', rfl, hx7, At.step ha6, tail_aft _, ok e hmem, by omega, n7.le, gx6, fun v2 p8 G8 H8 k1 k2 k3 k4 k5 => ?_⟩
      have hD8 := k4 D _ Dx hD7
      have vl : vs.length ≤ 12 := by
        rw [← pr6.length, List.length_take]
        omega
      refine ⟨D, _, _, rfl, rfl, hD8, small1000 (by omega), ?_⟩
      have n8 := n7.trans k3
      have sb8 := sb7.trans k4
      have g8 : G8 D = none := k3.new D _ hD7 g6
      have n9 := n8.trans (New.mut n8.le g8 (.lst (vs ++ [v2])))
      have hx9 := (upd_ne (o := .lst (vs ++ [v2])) Dx.symm).trans k2
      have sb9 : SB x H (upd H8 D (.lst (vs ++ [v2]))) := fun b o hb e => by rw [upd_ne (ne_of_none e hD0)]; exact sb8 b o hb e
      refine ⟨_, rfl, x, _, _, rfl, hx9, rfl, x, dx, z, p8, d + 1, _, rfl, hx9, k1, tail_nb _, ?_⟩
      refine ⟨vs ++ [v2], G8, p8, rfl, k1, hx9, n9, sb9, g8, upd_same, ?_⟩
      rw [htk]
      exact (Paired.mapP pr6 fun _ _ k => k.up k3.up).snoc k5
    · have ei : i = (e0 :: es').length := by omega
      rw [ei, List.drop_length] at ha6 hy
      rw [ei, List.take_length] at pr6
      rw [s1_of (l := l) hy, eq44, decide_eq_false (by cases tb <;> decide)]
      refine iteF ?_
      refine ⟨_, rfl, x, _, _, rfl, hx6, rfl, _, rfl, x, dx, z, p', d + 1, clC tb, l, rfl, hx6, ha6, ?_⟩
      refine ⟨_, rfl, x, _, _, _, _, rfl, upd_same, T.y_Scanner, T.na_depth, rfl, _, _, rfl, rfl, _, _, upd_same, (by show 3 < 1000; decide), ?_⟩
      rw [dd]
      exact ⟨_, rfl, fin vs G' H' p' ha6 hx6 n6 sb6 g6 hD6 pr6⟩
end
end K25
set_option Elab.async false
set_option linter.all false
set_option maxRecDepth 100000
set_option maxHeartbeats 4000000
/-! the scanner: read_value, parse -/
namespace K25
open PySem PySem.Spec PyProof.Rows L2 C8 SX TL
theorem mem_rows {G : Hp} {n : Nat} : ∀ {xs : List Val} {vs : List V}, Paired (MemAt false G n) (xs.map fun x => ((.inl 0 : Key), x)) vs → Paired (TAt G n) xs vs
  | [], [], _ => .nil
  | _ :: _, _ :: _, .cons h r => .cons h (mem_rows r)
theorem mem_tabs {G : Hp} {n : Nat} : ∀ {es : List E} {vs : List V}, Paired (MemAt true G n) es vs → ∃ ps : List Addr, vs = ps.map V.ref ∧ Paired (fun (e : E) (q : Addr) => ∃ u, G q = some (.tup [kV e.1, u]) ∧ TAt G n e.2 u) es ps
  | _, _, .nil => ⟨[], rfl, .nil⟩
  | _, _, .cons h r => by
    obtain ⟨ps, rfl, pr⟩ := mem_tabs r
    obtain ⟨q, u, rfl, h1, h2⟩ := h
    exact ⟨q :: ps, rfl, .cons ⟨u, h1, h2⟩ pr⟩
theorem num_beg (i : Int) : ∃ c r, numI i = c :: r ∧ (c = 45 ∨ (48 ≤ c ∧ c ≤ 57)) := by
  unfold numI
  split
  · exact ⟨_, _, rfl, .inl rfl⟩
  · cases e : numL i.natAbs with
    | nil => exact absurd e (numL_ne _)
    | cons c r => exact ⟨c, r, rfl, .inr (numL_digits i.natAbs c (by rw [e]; exact List.mem_cons_self))⟩
theorem num_out {c : Nat} (h : c = 45 ∨ (48 ≤ c ∧ c ≤ 57)) : s1 c ∉ (["["] : List Str) ∧ s1 c ∉ (["{"] : List Str) ∧ s1 c ∉ (["\""] : List Str) ∧ s1 c ∉ ([("n" : Str)] ++ ([("t" : Str)] ++ ([("f" : Str)] ++ []))) := by
  have all : ∀ c, c < 58 → 45 ≤ c → s1 c ∉ (["["] : List Str) ∧ s1 c ∉ (["{"] : List Str) ∧ s1 c ∉ (["\""] : List Str) ∧ s1 c ∉ ([("n" : Str)] ++ ([("t" : Str)] ++ ([("f" : Str)] ++ []))) := by decide +kernel
  exact all c (by omega) (by omega)
theorem m_no {z : Str} {ws : List Str} {A B : Prop} (h : z ∉ ws) (q : B) : (if z ∈ ws then A else B) := by rw [if_neg h]; exact q
theorem m_yes {z : Str} {ws : List Str} {A B : Prop} (h : z ∈ ws) (q : A) : (if z ∈ ws then A else B) := by rw [if_pos h]; exact q
section
variable {P : Program} {w : World} {K : PySem.W.Frag} {mg : Str → Option Value} {base : Heap}
theorem scVal : FnScope ["self"] ["self"] (defScope (inClass (top 16) 7)) := ⟨rfl, rfl, rfl, by decide +kernel, rfl, by decide +kernel, by decide +kernel⟩
theorem c_val (T : Txt4 w K mg) : ∀ n, Met P w K mg base (3 * n + 4) (SC K) "read_value" (spVal K n) []
  | 0 => T.s_val.met (k := 3) T.y_Scanner scVal (b1 fun _ _ _ _ _ _ _ => rfl) (fun vs H Q E ⟨_, _, _, _, _, _, _, _, _, _, _, _, h, _⟩ => h.elim) (fun f cdv A outer s H vs Q E hr ⟨_, _, _, _, _, _, _, _, _, _, _, _, h, _⟩ => h.elim)
  | n + 1 => by
    have ihV := c_val T n
    have ihMs := fun tb => c_mems T tb (c_mem T tb ihV)
    refine T.s_val.met (k := 3 * n + 6) T.y_Scanner scVal (b1 fun _ _ _ _ _ _ _ => rfl) (fun vs H Q E h => ?_) (fun f cdv A outer s H vs Q E hr h => ?_)
    · obtain ⟨x, dx, z, p, d, t, l, G, rfl, _⟩ := h
      rfl
    obtain ⟨x, dx, z, p, d, t, l, G, rfl, hx, ha, af, ro, hd, sg, gx, q⟩ := h
    refine ⟨_, (pss_cons (ps_expr (pe_mt0 (c_skip T) hr (by omega) (pv 0)))
      (pss_cons (ps_match (pe_mt0 (c_here T) hr (by omega) (pv 0)) (pcs_cons ppat_str
        (pss_one (ps_ret (pe_tup (pa_cons pe_str (pa_cons (pe_mt (ihMs false) hr (by omega) (pv 0) (pa_cons pe_str pa_nil)) pa_nil)))))
        (pcs_cons ppat_str
        (pss_one (ps_ret (pe_tup (pa_cons pe_str (pa_cons (pe_mt (ihMs true) hr (by omega) (pv 0) (pa_cons pe_str pa_nil)) pa_nil)))))
        (pcs_cons ppat_str
        (pss_one (ps_ret (pe_mt0 (c_rdstr T) hr (by omega) (pv 0))))
        (pcs_cons (ppat_or (ppats_cons ppat_str (ppats_cons ppat_str (ppats_cons ppat_str ppats_nil))))
        (pss_one (ps_ret (pe_mt0 (c_word T) hr (by omega) (pv 0))))
        pcs_nil)))))
      (pss_one (ps_ret (pe_mt0 (c_num T) hr (by omega) (pv 0)))))), ?_⟩
    have nb : (textN (n + 1) t ++ l).take 1 ≠ [32] := by
      obtain ⟨c, r, e, hb⟩ := text_beg ro
      rw [e]
      intro z
      exact hb.ne.1 (List.cons.inj z).1
    refine ⟨_, rfl, x, _, _, rfl, hx, rfl, x, dx, z, p, d, _, rfl, hx, ha, nb, ?_⟩
    refine ⟨_, rfl, x, _, _, rfl, hx, rfl, x, dx, z, p, d, _, rfl, hx, ha, fun y hy => ⟨y, rfl, ?_⟩⟩
    have word : ∀ (m : List Nat) (c : Nat) (r : List Nat) (u : Str) (v : V), textN (n + 1) t = m → m = c :: r → tl u = m → (∃ qa, KDct K w (He.ga K "WORDS") (s1 c) (.ref qa) ∧ KTup K qa [.str u, v]) → (∀ G', TAt G' (n + 1) t v) → spWord w K [.ref x] H Q E := by
      intro m c r u v e1 e2 e3 ⟨qa, kd, kt⟩ e4
      rw [e1] at ha
      exact ⟨x, dx, z, p, d, m, l, c, r, u, v, qa, rfl, hx, ha, e2, kd, kt, e3, fun H' h1 h2 => q v _ G H' ha.app h1 ⟨Same.refl G, fun b o e => by rw [h2 b (fun e' => by rw [e', gx] at e; cases e)]; exact sg b o e, fun _ _ _ g => g, fun b o e => by
        by_cases hb : b = x
        · exact ⟨_, by rw [hb]; exact h1⟩
        · exact ⟨o, by rw [h2 b hb]; exact e⟩⟩ (fun b o hb e => by rw [h2 b hb]; exact e) (e4 G)⟩
    cases t with
    | non =>
      rw [s1_of (c := 110) (l := [117, 108, 108] ++ l) hy]
      refine m_no (by decide +kernel) (m_no (by decide +kernel) (m_no (by decide +kernel) (m_yes (by decide +kernel) ?_)))
      exact ⟨_, rfl, x, _, _, rfl, hx, rfl, word _ 110 _ "null" .non rfl rfl (show tl ("null" : Str) = [110, 117, 108, 108] by decide +kernel) T.w_n fun _ => rfl⟩
    | bl b =>
      cases b with
      | true =>
        rw [s1_of (c := 116) (l := [114, 117, 101] ++ l) hy]
        refine m_no (by decide +kernel) (m_no (by decide +kernel) (m_no (by decide +kernel) (m_yes (by decide +kernel) ?_)))
        exact ⟨_, rfl, x, _, _, rfl, hx, rfl, word _ 116 _ "true" (.bl true) rfl rfl (show tl ("true" : Str) = [116, 114, 117, 101] by decide +kernel) T.w_t fun _ => rfl⟩
      | false =>
        rw [s1_of (c := 102) (l := [97, 108, 115, 101] ++ l) hy]
        refine m_no (by decide +kernel) (m_no (by decide +kernel) (m_no (by decide +kernel) (m_yes (by decide +kernel) ?_)))
        exact ⟨_, rfl, x, _, _, rfl, hx, rfl, word _ 102 _ "false" (.bl false) rfl rfl (show tl ("false" : Str) = [102, 97, 108, 115, 101] by decide +kernel) T.w_f fun _ => rfl⟩
    | int i =>
      have ha : At z p (numI i ++ l) := ha
      obtain ⟨c, r, en, hc⟩ := num_beg i
      have hy : tl y = (numI i ++ l).take 1 := hy
      rw [en] at hy
      rw [s1_of (c := c) (l := r ++ l) hy]
      obtain ⟨o1, o2, o3, o4⟩ := num_out hc
      refine m_no o1 (m_no o2 (m_no o3 (m_no o4 ?_)))
      exact ⟨_, rfl, x, _, _, rfl, hx, rfl, x, dx, z, p, d, i, l, rfl, hx, ha, af, ro, fun H' h1 h2 => q (.int i) _ G H' ha.app h1 ⟨Same.refl G, fun b o e => by rw [h2 b (fun e' => by rw [e', gx] at e; cases e)]; exact sg b o e, fun _ _ _ g => g, fun b o e => by
        by_cases hb : b = x
        · exact ⟨_, by rw [hb]; exact h1⟩
        · exact ⟨o, by rw [h2 b hb]; exact e⟩⟩ (fun b o hb e => by rw [h2 b hb]; exact e) rfl⟩
    | str s =>
      have ha : At z p (strL (tl s) ++ l) := ha
      rw [s1_of (c := 34) (l := (esc (tl s) ++ [34]) ++ l) hy]
      refine m_no (by decide +kernel) (m_no (by decide +kernel) (m_yes (by decide +kernel) ?_))
      exact ⟨_, rfl, x, _, _, rfl, hx, rfl, x, dx, z, p, d, s, l, G, rfl, hx, ha, ro, sg, gx, fun p' H' h1 h2 h3 h4 => q (.str s) p' G H' h1 h2 h3 h4 rfl⟩
    | row tg xs =>
      obtain ⟨rfl, m12, ox⟩ := ro
      rw [s1_of (c := 91) (l := (joinL [44] (xs.map (textN n)) ++ [93]) ++ l) hy]
      refine m_yes (by decide +kernel) ?_
      have em : ((xs.map fun x => ((.inl 0 : Key), x)).map (memT false n)) = xs.map (textN n) := by rw [List.map_map]; rfl
      have ha2 : At z p (91 :: (joinL [44] ((xs.map fun x => ((.inl 0 : Key), x)).map (memT false n)) ++ clC false :: l)) := by
        have h : At z p ((91 :: (joinL [44] (xs.map (textN n)) ++ [93])) ++ l) := ha
        rw [List.cons_append, List.append_assoc] at h
        rw [em]
        exact h
      refine ⟨_, rfl, x, _, _, rfl, hx, rfl, x, dx, z, p, d, 91, (xs.map fun x => ((.inl 0 : Key), x)), l, G, by rw [q93]; rfl, hx, ha2, ?_, by rw [List.length_map]; omega, by omega, by omega, sg, gx, fun D vs' p' G' H' h1 h2 h3 h4 h5 h6 => ?_⟩
      · intro e he
        obtain ⟨v, hv, rfl⟩ := List.mem_map.mp he
        exact ⟨ox v hv, fun z => by cases z⟩
      · refine ⟨(by show 2 ≤ sizeLine; decide), fun tp htp => ?_⟩
        have np := New.put h3.le htp (.tup [.str "row", .ref D])
        refine q _ p' _ _ h1 (same_put htp _ _ _ h2) (h3.trans np) (h4.trans (SB.of (same_put htp _))) ?_
        exact ⟨tp, D, vs', rfl, upd_same, np.up _ _ h5, Paired.mapP (mem_rows h6) fun _ _ k => k.up np.up⟩
    | tab ks xs =>
      obtain ⟨hl, m12, ok, ox⟩ := ro
      rw [s1_of (c := 123) (l := (joinL [44] ((ks.zip xs).map fun e => strL (tl (kT e.1)) ++ 58 :: textN n e.2) ++ [125]) ++ l) hy]
      refine m_no (by decide +kernel) (m_yes (by decide +kernel) ?_)
      have ha2 : At z p (123 :: (joinL [44] ((ks.zip xs).map (memT true n)) ++ clC true :: l)) := by
        have h : At z p ((123 :: (joinL [44] ((ks.zip xs).map (memT true n)) ++ [125])) ++ l) := ha
        rw [List.cons_append, List.append_assoc] at h
        exact h
      refine ⟨_, rfl, x, _, _, rfl, hx, rfl, x, dx, z, p, d, 123, ks.zip xs, l, G, by rw [q125]; rfl, hx, ha2, ?_, by rw [List.length_zip]; omega, by omega, by omega, sg, gx, fun D vs' p' G' H' h1 h2 h3 h4 h5 h6 => ?_⟩
      · intro e he
        have := List.of_mem_zip he
        exact ⟨ox _ this.2, fun _ => ok _ this.1⟩
      · refine ⟨(by show 2 ≤ sizeLine; decide), fun tp htp => ?_⟩
        obtain ⟨ps, rfl, pr⟩ := mem_tabs h6
        have np := New.put h3.le htp (.tup [.str "table", .ref D])
        refine q _ p' _ _ h1 (same_put htp _ _ _ h2) (h3.trans np) (h4.trans (SB.of (same_put htp _))) ?_
        exact ⟨tp, D, ps, rfl, upd_same, np.up _ _ h5, Paired.mapP pr fun _ _ ⟨u, k1, k2⟩ => ⟨u, np.up _ _ k1, k2.up np.up⟩⟩
/-! ### Scanner, parse -/
def spSInit (K : PySem.W.Frag) : Sp := fun vs H Q _ => ∃ (x dx : Addr) (z : Str), vs = [.ref x, .str z] ∧ H x = some (.ins (SC K) dx []) ∧ ∀ H', Sc K H' x dx z 0 0 → Mv x H H' → Q .non H'
theorem scSInit : FnScope ["self", "text"] ["self", "text"] (defScope (inClass (top 16) 0)) := ⟨rfl, rfl, rfl, by decide +kernel, rfl, by decide +kernel, by decide +kernel⟩
theorem c_Scanner (T : Txt4 w K mg) : Mak P w K mg base 1 "Scanner" (SC K) (spSInit K) [] := by
  obtain ⟨fd, F⟩ := T.i_Scanner.fd
  refine ⟨_, fd, ["self", "text"], [], T.i_Scanner.made, F.ok scSInit (fun vs H Q E h => ?_) (fun cdv A outer s H vs Q E hr h => ?_), T.g_Scanner, F.bindsN (b2 fun _ _ _ _ _ _ _ _ => rfl), .nil⟩
  · obtain ⟨x, dx, z, rfl, _⟩ := h
    rfl
  obtain ⟨x, dx, z, rfl, hx, q⟩ := h
  refine ⟨_, PSs.nox (pss_cons (ps_fld (pv 0) (pv 1) rfl)
      (pss_cons (ps_fld (pv 0) pe_int rfl)
      (pss_one (ps_fld (pv 0) pe_int rfl)))), ?_⟩
  refine ⟨_, rfl, _, rfl, x, _, _, _, rfl, hx, T.y_Scanner, T.na_text, (by show 0 < 1000; decide), ?_⟩
  refine ⟨_, rfl, x, _, _, _, rfl, upd_same, T.y_Scanner, T.na_at, (by show 1 < 1000; decide), ?_⟩
  refine ⟨_, rfl, x, _, _, _, rfl, upd_same, T.y_Scanner, T.na_depth, (by show 2 < 1000; decide), ?_⟩
  exact q _ upd_same (((Mv.refl x H).upd _).upd _ |>.upd _)
def spParse : Sp := fun vs H Q _ => ∃ (z : Str) (t : Val) (G : Hp), vs = [.str z] ∧ tl z = textN 61 t ∧ ROk 61 t ∧ z.length ≤ 1000000 ∧ Same G H ∧ ∀ (v : V) (G' H' : Hp), New G H G' H' → TAt G' 61 t v → Q v H'
theorem scParse : FnScope ["text", "scanner", "raw"] ["text"] (defScope (top 17)) := ⟨rfl, rfl, rfl, by decide +kernel, rfl, by decide +kernel, by decide +kernel⟩
theorem c_parse (T : Txt4 w K mg) : Cal P w K mg base 188 "parse" spParse [] := by
  refine T.f_parse.cal (k := 187) scParse (b1 fun _ _ _ _ _ _ _ => rfl) (fun vs H Q E h => ?_) (fun f cdv A outer s H vs Q E hr h => ?_)
  · obtain ⟨z, t, G, rfl, _⟩ := h
    rfl
  obtain ⟨z, t, G, rfl, hz, ro, z6, sg, q⟩ := h
  refine ⟨_, (pss_cons (ps_set (i := 1) scParse.nd rfl (Or.inl rfl) (pe_mk (c_Scanner T) hr (by omega) rfl (pa_cons (pv 0) pa_nil)))
      (pss_cons (ps_set (i := 2) scParse.nd rfl (Or.inl rfl) (pe_mt0 (c_val T 61) hr (by omega) (pv 1)))
      (pss_cons (ps_expr (pe_mt0 (c_skip T) hr (by omega) (pv 1)))
      (pss_cons (ps_if (pt_cmpR op_ne (pe_fld (pv 1) rfl) (pe_callB call_len rfl T.n_len boot_len (pa_cons (pv 0) pa_nil)) (nomark _))
        (pss_one ps_never)
        pss_nil)
      (pss_one (ps_ret (pv 2))))))), ?_⟩
  refine ⟨_, rfl, fun x dx hx hdx ne => ⟨x, dx, z, rfl, upd_same, fun H1 h1 mv => ⟨rfl, ?_⟩⟩⟩
  have gx : G x = none := sg.free hx
  have old : ∀ b o, H b = some o → H1 b = some o := fun b o e => by
    have bx : b ≠ x := ne_of_none e hx
    have bd : b ≠ dx := ne_of_none e hdx
    rw [mv b bx, upd_ne bx, upd_ne bd]
    exact e
  have n1 : New G H G H1 := ⟨Same.refl G, fun b o e => old b o (sg b o e), fun _ _ _ g => g, fun b o e => ⟨o, old b o e⟩⟩
  have ha : At z 0 (textN 61 t ++ []) := ⟨by rw [List.append_nil]; exact hz, Nat.zero_le _, z6⟩
  refine ⟨_, rfl, x, _, _, rfl, h1, rfl, x, dx, z, 0, 0, t, [], G, rfl, h1, ha, .inl rfl, ro, by omega, n1.le, gx, fun v p' G' H' k1 k2 k3 k4 k5 => ?_⟩
  refine ⟨_, rfl, x, _, _, rfl, k2, rfl, x, dx, z, p', 0, [], rfl, k2, k1, (fun e => by cases e), ?_⟩
  have pe : p' = z.length := by
    obtain ⟨d1, d2, _⟩ := k1
    rw [List.drop_eq_nil_iff] at d1
    rw [len_tl]
    omega
  refine ⟨_, rfl, x, _, _, _, _, rfl, k2, T.y_Scanner, T.na_at, rfl, ?_⟩
  refine ⟨_, rfl, _, _, rfl, ⟨k1.size, rfl⟩, ?_⟩
  refine ⟨rfl, _, rfl, ?_⟩
  rw [pe, decide_eq_true rfl]
  exact iteF ⟨_, rfl, q v G' H' (n1.trans k3) k5⟩
end
end K25
set_option Elab.async false
set_option linter.all false
set_option maxRecDepth 100000
set_option maxHeartbeats 4000000
/-! _law_atoms, _law_pair, _law_raw_alike, _law_path_is -/
namespace K25
open PySem PySem.Spec PyProof.Rows L2 C8 SX TL
/-- a value that is no thing -/
inductive Atom : V → Prop where
  | non : Atom .non
  | bl (b : Bool) : Atom (.bl b)
  | int (i : Int) : Atom (.int i)
  | str (s : Str) : Atom (.str s)
theorem atom_key (k : Key) : Atom (kV k) := by
  cases k with
  | inl i => exact .int i
  | inr s => exact .str s
section
variable {P : Program} {w : World} {K : PySem.W.Frag} {mg : Str → Option Value} {base : Heap}
def spAtoms : Sp := fun vs H Q _ => ∃ v : V, vs = [v, v] ∧ Atom v ∧ Q (.bl true) H
theorem scAtoms : FnScope ["_law_one", "_law_other"] ["_law_one", "_law_other"] (defScope (top 49)) := ⟨rfl, rfl, rfl, by decide +kernel, rfl, by decide +kernel, by decide +kernel⟩
theorem c_atoms (T : Txt2 K mg) : Cal P w K mg base 1 "_law_atoms" spAtoms [] := by
  refine T.f_atoms.cal scAtoms (b2 fun _ _ _ _ _ _ _ _ => rfl) (fun vs H Q E h => ?_) (fun f cdv A outer s H vs Q E hr h => ?_)
  · obtain ⟨v, rfl, _⟩ := h
    rfl
  obtain ⟨v, rfl, at_, q⟩ := h
  refine ⟨_, (pss_cons (ps_if (pt_cmp (pc_isN (pv 0)) rfl)
        (pss_one (ps_ret (pe_cmp (pc_isN (pv 1)) rfl)))
        pss_nil)
      (pss_cons (ps_if (pt_cmpR op_isC (pv 0) pe_bl (nomark _))
        (pss_one (ps_ret (pe_cmpR op_isC (pv 1) pe_bl (nomark _))))
        pss_nil)
      (pss_cons (ps_if (pt_cmpR op_isC (pv 0) pe_bl (nomark _))
        (pss_one (ps_ret (pe_cmpR op_isC (pv 1) pe_bl (nomark _))))
        pss_nil)
      (pss_cons (ps_if (pt_val (pe_callB call_isi rfl T.n_isinstance (by decide +kernel) (pa_cons (pv 0) (pa_cons (pe_bltn (v := .ty "str") (u := Value.type "str") rfl T.n_str (by decide +kernel) rfl) pa_nil))))
        (pss_one (ps_ret (pe_and (pe_callB call_isi rfl T.n_isinstance (by decide +kernel) (pa_cons (pv 1) (pa_cons (pe_bltn (v := .ty "str") (u := Value.type "str") rfl T.n_str (by decide +kernel) rfl) pa_nil))) (pe_one (pe_cmpR op_eq (pv 0) (pv 1) (nomark _))))))
        pss_nil)
      (pss_one (ps_ret (pe_and (pe_callB call_isi rfl T.n_isinstance (by decide +kernel) (pa_cons (pv 1) (pa_cons (pe_bltn (v := .ty "int") (u := Value.type "int") rfl T.n_int (by decide +kernel) rfl) pa_nil))) (pe_and (pe_not (pe_callB call_isi rfl T.n_isinstance (by decide +kernel) (pa_cons (pv 1) (pa_cons (pe_bltn (v := .ty "bool") (u := Value.type "bool") rfl T.n_bool (by decide +kernel) rfl) pa_nil)))) (pe_one (pe_cmpR op_eq (pv 0) (pv 1) (nomark _))))))))))), ?_⟩
  cases at_ with
  | non => exact ⟨_, rfl, _, rfl, iteT ⟨_, rfl, q⟩⟩
  | bl b =>
    refine ⟨_, rfl, _, rfl, iteF ⟨_, rfl, true, rfl, _, rfl, ?_⟩⟩
    cases b with
    | true => exact iteT ⟨_, rfl, true, rfl, q⟩
    | false => exact iteF ⟨_, rfl, false, rfl, _, rfl, iteT ⟨_, rfl, false, rfl, q⟩⟩
  | str s =>
    obtain ⟨ty, tx, _, _, h3, _⟩ := (ty_str (H := H) T s).ex
    refine ⟨_, rfl, _, rfl, iteF ⟨_, rfl, true, rfl, _, rfl, iteF ⟨_, rfl, false, rfl, _, rfl, iteF ?_⟩⟩⟩
    refine ⟨_, rfl, _, _, _, _, true, rfl, .ty "str", tx, h3, _, rfl, iteT ?_⟩
    refine ⟨_, rfl, _, _, _, _, true, rfl, .ty "str", tx, h3, _, rfl, iteT ?_⟩
    refine ⟨_, rfl, _, rfl, rfl, ?_⟩
    rw [decide_eq_true rfl]
    exact q
  | int i =>
    obtain ⟨ty, tx, _, _, h3, h4, h5, _⟩ := (ty_int (H := H) T i).ex
    refine ⟨_, rfl, _, rfl, iteF ⟨_, rfl, true, rfl, _, rfl, iteF ⟨_, rfl, false, rfl, _, rfl, iteF ?_⟩⟩⟩
    refine ⟨_, rfl, _, _, _, _, false, rfl, .ty "str", tx, h3, _, rfl, iteF ?_⟩
    refine ⟨_, rfl, _, _, _, _, true, rfl, .ty "int", tx, h4, _, rfl, iteT ?_⟩
    refine ⟨_, rfl, _, _, _, _, false, rfl, .ty "bool", tx, h5, _, rfl, _, rfl, iteT ?_⟩
    refine ⟨_, rfl, _, rfl, rfl, ?_⟩
    rw [decide_eq_true rfl]
    exact q
def spPair : Sp := fun vs H Q _ => ∃ (p : Addr) (s : Str) (u : V), vs = [.ref p] ∧ H p = some (.tup [.str s, u]) ∧ Q (.bl true) H
theorem scPair : FnScope ["_law_found"] ["_law_found"] (defScope (top 50)) := ⟨rfl, rfl, rfl, by decide +kernel, rfl, by decide +kernel, by decide +kernel⟩
theorem c_pair (T : Txt2 K mg) : Cal P w K mg base 1 "_law_pair" spPair [] := by
  refine T.f_pair.cal scPair (b1 fun _ _ _ _ _ _ _ => rfl) (fun vs H Q E h => ?_) (fun f cdv A outer s H vs Q E hr h => ?_)
  · obtain ⟨p, s, u, rfl, _⟩ := h
    rfl
  obtain ⟨p, s0, u, rfl, hp, q⟩ := h
  refine ⟨_, (pss_one (ps_ret (pe_and (pe_callB call_isi rfl T.n_isinstance (by decide +kernel) (pa_cons (pv 0) (pa_cons (pe_bltn (v := .ty "tuple") (u := Value.type "tuple") rfl T.n_tuple (by decide +kernel) rfl) pa_nil))) (pe_and (pe_cmpR op_eq (pe_callB call_len rfl T.n_len boot_len (pa_cons (pv 0) pa_nil)) pe_int (nomark _)) (pe_one (pe_callB call_isi rfl T.n_isinstance (by decide +kernel) (pa_cons (pe_ix ix_tup (pv 0) pe_int (fun _ _ => rfl)) (pa_cons (pe_bltn (v := .ty "str") (u := Value.type "str") rfl T.n_str (by decide +kernel) rfl) pa_nil)))))))), ?_⟩
  obtain ⟨ty, tx, _, h2, _⟩ := (ty_tup (H := H) T hp).ex
  obtain ⟨ty', tx', _, _, h3, _⟩ := (ty_str (H := H) T s0).ex
  refine ⟨_, rfl, _, _, _, _, true, rfl, .ty "tuple", tx, h2, _, rfl, iteT ?_⟩
  refine ⟨_, rfl, _, _, rfl, .inr ⟨_, SqT.of hp, rfl⟩, rfl, _, rfl, iteT ?_⟩
  exact ⟨_, rfl, p, _, _, _, rfl, rfl, SqT.of hp, rfl, _, _, _, _, true, rfl, .ty "str", tx', h3, q⟩
/-! ### raw_alike -/
def spAlike (n : Nat) : Sp := fun vs H Q _ => ∃ (t : Val) (a b : V) (G : Hp), vs = [a, b] ∧ Same G H ∧ TAt G n t a ∧ TAt G n t b ∧ ROk n t ∧ Q (.bl true) H
theorem scAlike : FnScope ["_law_raw", "_law_found", "_law_k", "_law_mine", "_law_theirs"] ["_law_raw", "_law_found"] (defScope (top 51)) := ⟨rfl, rfl, rfl, by decide +kernel, rfl, by decide +kernel, by decide +kernel⟩
theorem c_alike (T : Txt2 K mg) : ∀ n, Cal P w K mg base (n + 2) "_law_raw_alike" (spAlike n) []
  | 0 => T.f_raw_alike.cal (k := 1) scAlike (b2 fun _ _ _ _ _ _ _ _ => rfl) (fun vs H Q E ⟨_, _, _, _, _, _, _, _, h, _⟩ => h.elim) (fun f cdv A outer s H vs Q E hr ⟨_, _, _, _, _, _, _, _, h, _⟩ => h.elim)
  | n + 1 => by
    have ih := c_alike T n
    refine T.f_raw_alike.cal (k := n + 2) scAlike (b2 fun _ _ _ _ _ _ _ _ => rfl) (fun vs H Q E h => ?_) (fun f cdv A outer s H vs Q E hr h => ?_)
    · obtain ⟨t, a, b, G, rfl, _⟩ := h
      rfl
    obtain ⟨t, a, b, G, rfl, sg, ta, tb, ro, q⟩ := h
    refine ⟨_, (pss_cons (ps_if (pt_not (pt_val (pe_callB call_isi rfl T.n_isinstance (by decide +kernel) (pa_cons (pv 0) (pa_cons (pe_bltn (v := .ty "tuple") (u := Value.type "tuple") rfl T.n_tuple (by decide +kernel) rfl) pa_nil)))))
        (pss_one (ps_ret (pe_c (c_atoms T) hr (by omega) rfl (pa_cons (pv 0) (pa_cons (pv 1) pa_nil)))))
        pss_nil)
      (pss_cons (ps_if (PW.pt (pw_or (pt_not (pt_val (pe_c (c_pair T) hr (by omega) rfl (pa_cons (pv 1) pa_nil)))) (pw_or1 (pt_cmpR op_ne (pe_ix ix_tup (pv 1) pe_int (fun _ _ => rfl)) (pe_ix ix_tup (pv 0) pe_int (fun _ _ => rfl)) (nomark _)))))
        (pss_one (ps_ret pe_bl))
        pss_nil)
      (pss_cons (ps_if (PW.pt (pw_or (pt_not (pt_val (pe_callB call_isi rfl T.n_isinstance (by decide +kernel) (pa_cons (pe_ix ix_tup (pv 1) pe_int (fun _ _ => rfl)) (pa_cons (pe_bltn (v := .ty "list") (u := Value.type "list") rfl T.n_list (by decide +kernel) rfl) pa_nil))))) (pw_or1 (pt_cmpR op_ne (pe_callB call_len rfl T.n_len boot_len (pa_cons (pe_ix ix_tup (pv 1) pe_int (fun _ _ => rfl)) pa_nil)) (pe_callB call_len rfl T.n_len boot_len (pa_cons (pe_ix ix_tup (pv 0) pe_int (fun _ _ => rfl)) pa_nil)) (nomark _)))))
        (pss_one (ps_ret pe_bl))
        pss_nil)
      (pss_cons (ps_for PassesOwn.never rfl (pi_range1 rfl T.n_range (pa_cons (pe_callB call_len rfl T.n_len boot_len (pa_cons (pe_ix ix_tup (pv 0) pe_int (fun _ _ => rfl)) pa_nil)) pa_nil)) (pg_name (i := 2) scAlike.nd rfl (Or.inl rfl))
        (pss_cons (ps_set (i := 3) scAlike.nd rfl (Or.inl rfl) (pe_ix ix_list (pe_ix ix_tup (pv 0) pe_int (fun _ _ => rfl)) (pv 2) (fun _ _ => rfl)))
          (pss_cons (ps_set (i := 4) scAlike.nd rfl (Or.inl rfl) (pe_ix ix_list (pe_ix ix_tup (pv 1) pe_int (fun _ _ => rfl)) (pv 2) (fun _ _ => rfl)))
          (pss_cons (ps_if (pt_cmpR op_eq (pe_ix ix_tup (pv 0) pe_int (fun _ _ => rfl)) pe_str (nomark _))
            (pss_cons (ps_if (PW.pt (pw_or (pt_not (pt_val (pe_c (c_pair T) hr (by omega) rfl (pa_cons (pv 4) pa_nil)))) (pw_or1 (pt_cmpR op_ne (pe_ix ix_tup (pv 4) pe_int (fun _ _ => rfl)) (pe_ix ix_tup (pv 3) pe_int (fun _ _ => rfl)) (nomark _)))))
                (pss_one (ps_ret pe_bl))
                pss_nil)
              (pss_cons (ps_set (i := 3) scAlike.nd rfl (Or.inl rfl) (pe_ix ix_tup (pv 3) pe_int (fun _ _ => rfl)))
              (pss_one (ps_set (i := 4) scAlike.nd rfl (Or.inl rfl) (pe_ix ix_tup (pv 4) pe_int (fun _ _ => rfl))))))
            pss_nil)
          (pss_one (ps_if (pt_not (pt_val (pe_c ih hr (by omega) rfl (pa_cons (pv 3) (pa_cons (pv 4) pa_nil)))))
            (pss_one (ps_ret pe_bl))
            pss_nil))))))
      (pss_one (ps_ret pe_bl)))))), ?_⟩
    obtain ⟨ty, tx, _, h2, _⟩ := (ty_raw (H := H) T sg ta).ex
    cases t with
    | non =>
      cases ta
      cases tb
      exact ⟨_, rfl, _, _, _, _, false, rfl, .ty "tuple", tx, h2, _, rfl, iteT ⟨_, rfl, _, rfl, _, rfl, .non, q⟩⟩
    | bl b =>
      cases ta
      cases tb
      exact ⟨_, rfl, _, _, _, _, false, rfl, .ty "tuple", tx, h2, _, rfl, iteT ⟨_, rfl, _, rfl, _, rfl, .bl b, q⟩⟩
    | int i =>
      cases ta
      cases tb
      exact ⟨_, rfl, _, _, _, _, false, rfl, .ty "tuple", tx, h2, _, rfl, iteT ⟨_, rfl, _, rfl, _, rfl, .int i, q⟩⟩
    | str s =>
      cases ta
      cases tb
      exact ⟨_, rfl, _, _, _, _, false, rfl, .ty "tuple", tx, h2, _, rfl, iteT ⟨_, rfl, _, rfl, _, rfl, .str s, q⟩⟩
    | row tg xs =>
      obtain ⟨p, l, vs, rfl, hp, hl, pr⟩ := ta
      obtain ⟨p2, l2, vs2, rfl, hp2, hl2, pr2⟩ := tb
      obtain ⟨rfl, m12, ox⟩ := ro
      have hp := sg _ _ hp
      have hl := sg _ _ hl
      have hp2 := sg _ _ hp2
      have hl2 := sg _ _ hl2
      have e2 : vs2.length = vs.length := by rw [← pr.length, ← pr2.length]
      have l12 : vs.length ≤ 12 := by
        rw [← pr.length]
        omega
      obtain ⟨ty3, tx3, h31, _⟩ := (ty_lst (H := H) T hl2).ex
      rw [show (isTu (.row "row" xs) || isL (.row "row" xs) || isTb (.row "row" xs)) = true from rfl] at h2
      refine ⟨_, rfl, _, _, _, _, true, rfl, .ty "tuple", tx, h2, _, rfl, iteF ?_⟩
      refine ⟨_, rfl, p2, _, _, rfl, hp2, _, rfl, iteF ⟨_, rfl, p2, _, _, _, rfl, rfl, SqT.of hp2, rfl, _, rfl, p, _, _, _, rfl, rfl, SqT.of hp, rfl, rfl, _, rfl, ?_⟩⟩
      rw [decide_eq_true rfl]
      refine iteF ?_
      refine ⟨_, rfl, p2, _, _, _, rfl, rfl, SqT.of hp2, rfl, _, _, _, _, true, rfl, .ty "list", tx3, h31, _, rfl, iteF ⟨_, rfl, p2, _, _, _, rfl, rfl, SqT.of hp2, rfl, _, _, rfl, .inl ⟨_, SqL.of hl2, rfl⟩, _, rfl, p, _, _, _, rfl, rfl, SqT.of hp, rfl, _, _, rfl, .inl ⟨_, SqL.of hl, rfl⟩, rfl, _, rfl, ?_⟩⟩
      rw [e2, decide_eq_true rfl]
      refine iteF ?_
      refine ⟨_, rfl, p, _, _, _, rfl, rfl, SqT.of hp, rfl, _, _, rfl, .inl ⟨_, SqL.of hl, rfl⟩, _, rfl, by omega, by omega, ?_⟩
      refine for_range (lo := 0) (n := vs.length) (fun i σ H' => ∃ v2 v3 v4 : Option V, σ = [some (.ref p), some (.ref p2), v2, v3, v4] ∧ H' = H) ⟨_, _, _, rfl, rfl⟩ ?_ (fun σ H' ⟨v2, v3, v4, e, e'⟩ => by subst e e'; exact q)
      rintro i σ H' hi ⟨v2, v3, v4, rfl, rfl⟩
      have i0 : (0 : Int) + (i : Int) = (i : Int) := Int.zero_add _
      have hv : vs[i]? = some vs[i] := List.getElem?_eq_getElem hi
      have hv2 : vs2[i]? = some (vs2[i]'(by omega)) := List.getElem?_eq_getElem (by omega)
      generalize vs[i] = v at hv
      generalize vs2[i]'(by omega) = v' at hv2
      refine ⟨_, rfl, p, _, _, _, rfl, rfl, SqT.of hp, rfl, _, rfl, l, _, _, _, rfl, rfl, SqL.of hl, by rw [i0]; exact atI_nat hv, ?_⟩
      refine ⟨_, rfl, p2, _, _, _, rfl, rfl, SqT.of hp2, rfl, _, rfl, l2, _, _, _, rfl, rfl, SqL.of hl2, by rw [i0]; exact atI_nat hv2, ?_⟩
      obtain ⟨x, hx, r1, _⟩ := paired_at pr hv
      obtain ⟨x', hx', r2, _⟩ := paired_at pr2 hv2
      rw [hx] at hx'
      cases hx'
      refine ⟨_, rfl, p, _, _, _, rfl, rfl, SqT.of hp, rfl, rfl, _, rfl, ?_⟩
      rw [show decide (V.str "row" = V.str "table") = false by decide +kernel]
      refine iteF ?_
      exact ⟨_, rfl, _, rfl, x, v, v', G, rfl, sg, r1, r2, ox x (List.mem_of_getElem? hx), _, rfl, iteF ⟨_, _, _, rfl, rfl⟩⟩
    | tab ks xs =>
      obtain ⟨p, l, vs, rfl, hp, hl, pr⟩ := ta
      obtain ⟨p2, l2, vs2, rfl, hp2, hl2, pr2⟩ := tb
      obtain ⟨hkl, m12, ok, ox⟩ := ro
      have hp := sg _ _ hp
      have hl := sg _ _ hl
      have hp2 := sg _ _ hp2
      have hl2 := sg _ _ hl2
      have e2 : (vs2.map V.ref).length = (vs.map V.ref).length := by rw [List.length_map, List.length_map, ← pr.length, ← pr2.length]
      have l12 : (vs.map V.ref).length ≤ 12 := by
        rw [List.length_map, ← pr.length, List.length_zip]
        omega
      obtain ⟨ty3, tx3, h31, _⟩ := (ty_lst (H := H) T hl2).ex
      rw [show (isTu (.tab ks xs) || isL (.tab ks xs) || isTb (.tab ks xs)) = true from rfl] at h2
      refine ⟨_, rfl, _, _, _, _, true, rfl, .ty "tuple", tx, h2, _, rfl, iteF ?_⟩
      refine ⟨_, rfl, p2, _, _, rfl, hp2, _, rfl, iteF ⟨_, rfl, p2, _, _, _, rfl, rfl, SqT.of hp2, rfl, _, rfl, p, _, _, _, rfl, rfl, SqT.of hp, rfl, rfl, _, rfl, ?_⟩⟩
      rw [decide_eq_true rfl]
      refine iteF ?_
      refine ⟨_, rfl, p2, _, _, _, rfl, rfl, SqT.of hp2, rfl, _, _, _, _, true, rfl, .ty "list", tx3, h31, _, rfl, iteF ⟨_, rfl, p2, _, _, _, rfl, rfl, SqT.of hp2, rfl, _, _, rfl, .inl ⟨_, SqL.of hl2, rfl⟩, _, rfl, p, _, _, _, rfl, rfl, SqT.of hp, rfl, _, _, rfl, .inl ⟨_, SqL.of hl, rfl⟩, rfl, _, rfl, ?_⟩⟩
      rw [e2, decide_eq_true rfl]
      refine iteF ?_
      refine ⟨_, rfl, p, _, _, _, rfl, rfl, SqT.of hp, rfl, _, _, rfl, .inl ⟨_, SqL.of hl, rfl⟩, _, rfl, by omega, by omega, ?_⟩
      refine for_range (lo := 0) (n := (vs.map V.ref).length) (fun i σ H' => ∃ v2 v3 v4 : Option V, σ = [some (.ref p), some (.ref p2), v2, v3, v4] ∧ H' = H) ⟨_, _, _, rfl, rfl⟩ ?_ (fun σ H' ⟨v2, v3, v4, e, e'⟩ => by subst e e'; exact q)
      rintro i σ H' hi ⟨v2, v3, v4, rfl, rfl⟩
      have i0 : (0 : Int) + (i : Int) = (i : Int) := Int.zero_add _
      have hv : (vs.map V.ref)[i]? = some (vs.map V.ref)[i] := List.getElem?_eq_getElem hi
      have hv2 : (vs2.map V.ref)[i]? = some ((vs2.map V.ref)[i]'(by omega)) := List.getElem?_eq_getElem (by omega)
      generalize (vs.map V.ref)[i] = v at hv
      generalize (vs2.map V.ref)[i]'(by omega) = v' at hv2
      refine ⟨_, rfl, p, _, _, _, rfl, rfl, SqT.of hp, rfl, _, rfl, l, _, _, _, rfl, rfl, SqL.of hl, by rw [i0]; exact atI_nat hv, ?_⟩
      refine ⟨_, rfl, p2, _, _, _, rfl, rfl, SqT.of hp2, rfl, _, rfl, l2, _, _, _, rfl, rfl, SqL.of hl2, by rw [i0]; exact atI_nat hv2, ?_⟩
      obtain ⟨q1, hq1, rfl⟩ := map_at hv
      obtain ⟨q2, hq2, rfl⟩ := map_at hv2
      obtain ⟨x, hx, ⟨u1, hu1, r1⟩, _⟩ := paired_at pr hq1
      obtain ⟨x', hx', ⟨u2, hu2, r2⟩, _⟩ := paired_at pr2 hq2
      rw [hx] at hx'
      cases hx'
      have hm := List.of_mem_zip (List.mem_of_getElem? hx)
      obtain ⟨s, es, so⟩ := ok x.1 hm.1
      rw [es] at hu1 hu2
      have hu1 := sg _ _ hu1
      have hu2 := sg _ _ hu2
      refine ⟨_, rfl, p, _, _, _, rfl, rfl, SqT.of hp, rfl, rfl, _, rfl, ?_⟩
      rw [decide_eq_true rfl]
      refine iteT ?_
      refine ⟨_, rfl, q2, _, _, rfl, hu2, _, rfl, iteF ⟨_, rfl, q2, _, _, _, rfl, rfl, SqT.of hu2, rfl, _, rfl, q1, _, _, _, rfl, rfl, SqT.of hu1, rfl, rfl, _, rfl, ?_⟩⟩
      rw [decide_eq_true rfl]
      refine iteF ?_
      refine ⟨_, rfl, q1, _, _, _, rfl, rfl, SqT.of hu1, rfl, ?_⟩
      refine ⟨_, rfl, q2, _, _, _, rfl, rfl, SqT.of hu2, rfl, ?_⟩
      exact ⟨_, rfl, _, rfl, x.2, u1, u2, G, rfl, sg, r1, r2, ox x.2 hm.2, _, rfl, iteF ⟨_, _, _, rfl, rfl⟩⟩
/-! ### path_is -/
def spPath : Sp := fun vs H Q _ => ∃ (p l : Addr) (ks : List Key), vs = [.ref p, .ref l] ∧ H p = some (.tup (ks.map kV)) ∧ H l = some (.lst (ks.map kV)) ∧ ks.length ≤ 1000 ∧ Q (.bl true) H
theorem scPath : FnScope ["_law_found", "_law_path", "_law_k"] ["_law_found", "_law_path"] (defScope (top 52)) := ⟨rfl, rfl, rfl, by decide +kernel, rfl, by decide +kernel, by decide +kernel⟩
theorem c_pathIs (T : Txt2 K mg) : Cal P w K mg base 2 "_law_path_is" spPath [] := by
  refine T.f_path_is.cal scPath (b2 fun _ _ _ _ _ _ _ _ => rfl) (fun vs H Q E h => ?_) (fun f cdv A outer s H vs Q E hr h => ?_)
  · obtain ⟨p, l, ks, rfl, _⟩ := h
    rfl
  obtain ⟨p, l, ks, rfl, hp, hl, hk, q⟩ := h
  refine ⟨_, (pss_cons (ps_if (PW.pt (pw_or (pt_not (pt_val (pe_callB call_isi rfl T.n_isinstance (by decide +kernel) (pa_cons (pv 0) (pa_cons (pe_bltn (v := .ty "tuple") (u := Value.type "tuple") rfl T.n_tuple (by decide +kernel) rfl) pa_nil))))) (pw_or1 (pt_cmpR op_ne (pe_callB call_len rfl T.n_len boot_len (pa_cons (pv 0) pa_nil)) (pe_callB call_len rfl T.n_len boot_len (pa_cons (pv 1) pa_nil)) (nomark _)))))
        (pss_one (ps_ret pe_bl))
        pss_nil)
      (pss_cons (ps_for PassesOwn.never rfl (pi_range1 rfl T.n_range (pa_cons (pe_callB call_len rfl T.n_len boot_len (pa_cons (pv 1) pa_nil)) pa_nil)) (pg_name (i := 2) scPath.nd rfl (Or.inl rfl))
        (pss_one (ps_if (pt_not (pt_val (pe_c (c_atoms T) hr (by omega) rfl (pa_cons (pe_ix ix_list (pv 1) (pv 2) (fun _ _ => rfl)) (pa_cons (pe_ix ix_tup (pv 0) (pv 2) (fun _ _ => rfl)) pa_nil)))))
          (pss_one (ps_ret pe_bl))
          pss_nil)))
      (pss_one (ps_ret pe_bl)))), ?_⟩
  obtain ⟨ty, tx, _, h2, _⟩ := (ty_tup (H := H) T hp).ex
  refine ⟨_, rfl, _, _, _, _, true, rfl, .ty "tuple", tx, h2, _, rfl, iteF ⟨_, rfl, _, _, rfl, .inr ⟨_, SqT.of hp, rfl⟩, _, rfl, _, _, rfl, .inl ⟨_, SqL.of hl, rfl⟩, rfl, _, rfl, ?_⟩⟩
  rw [decide_eq_true rfl]
  refine iteF ?_
  refine ⟨_, rfl, _, _, rfl, .inl ⟨_, SqL.of hl, rfl⟩, _, rfl, by omega, by rw [List.length_map]; omega, ?_⟩
  refine for_range (lo := 0) (n := (ks.map kV).length) (fun i σ H' => ∃ v2 : Option V, σ = [some (.ref p), some (.ref l), v2] ∧ H' = H) ⟨_, rfl, rfl⟩ ?_ (fun σ H' ⟨v2, e, e'⟩ => by subst e e'; exact q)
  rintro i σ H' hi ⟨v2, rfl, rfl⟩
  have i0 : (0 : Int) + (i : Int) = (i : Int) := Int.zero_add _
  have hv : (ks.map kV)[i]? = some (ks.map kV)[i] := List.getElem?_eq_getElem hi
  generalize (ks.map kV)[i] = v at hv
  obtain ⟨key, hk1, rfl⟩ := map_at hv
  exact ⟨_, rfl, _, rfl, l, _, _, _, rfl, rfl, SqL.of hl, by rw [i0]; exact atI_nat hv, _, rfl, _, rfl, p, _, _, _, rfl, rfl, SqT.of hp, by rw [i0]; exact atI_nat hv, kV key, rfl, atom_key key, _, rfl, iteF ⟨_, rfl, rfl⟩⟩
end
end K25
set_option Elab.async false
set_option linter.all false
set_option maxRecDepth 100000
set_option maxHeartbeats 4000000
/-! the law: what stays in the heap; refusals; results compared -/
namespace K25
open PySem PySem.Spec PyProof.Rows L2 C8 SX TL LamX
/-! ### all but the source and the tables -/
def mx (a : Addr) (H : Hp) : Hp := del (stH H) a
def Ke (a : Addr) (H H' : Hp) : Prop := ∀ b o, b ≠ a → H b = some o → (∀ ps, o ≠ .tbl ps) → H' b = some o
theorem mx_st (a : Addr) (H : Hp) : Same (mx a H) (stH H) := fun b o h => by
  unfold mx del at h
  split at h
  · cases h
  · exact h
theorem mx_same (a : Addr) (H : Hp) : Same (mx a H) H := fun b o h => (stH_of (mx_st a H b o h)).1
theorem mx_none (a : Addr) (H : Hp) : mx a H a = none := del_same
theorem mx_at {a b : Addr} {H : Hp} {o : HO} (hb : b ≠ a) (h : H b = some o) (n : ∀ ps, o ≠ .tbl ps) : mx a H b = some o := by
  unfold mx
  rw [del_ne hb]
  exact stH_at h n
section
variable {a : Addr} {H H' H1 : Hp}
theorem Ke.refl : Ke a H H := fun _ _ _ h _ => h
theorem Ke.trans (x : Ke a H H1) (y : Ke a H1 H') : Ke a H H' := fun b o hb h n => y b o hb (x b o hb h n) n
theorem Ke.sb (x : SB a H H') : Ke a H H' := fun b o hb h _ => x b o hb h
theorem Ke.same (x : Same H H') : Ke a H H' := fun b o _ h _ => x b o h
theorem Ke.ext (x : ExtN H H') : Ke a H H' := fun b o _ h n => x b o h n
theorem Ke.mx (x : Ke a H H') : Same (mx a H) (mx a H') := fun b o h => by
  have hb : b ≠ a := fun e => by rw [e, mx_none] at h; cases h
  obtain ⟨h1, h2⟩ := stH_of (mx_st a H b o h)
  exact mx_at hb (x b o hb h1 h2) h2
theorem tabs_sb {T : List (Addr × Str)} {kvs : List (Key × V)} (t : Tabs T H) (x : SB a H H') (ha : H a = some (.dK kvs)) : Tabs T H' := fun p hp => by
  obtain ⟨ps, h1, h2, h3⟩ := t p hp
  refine ⟨ps, x _ _ (fun e => by rw [e, ha] at h1; cases h1) h1, h2, fun pos cv hc => ?_⟩
  obtain ⟨c, e1, e2⟩ := h3 pos cv hc
  exact ⟨c, e1, x _ _ (fun e => by rw [e, ha] at e2; cases e2) e2⟩
theorem src_ext {c : Addr} {room : Int} (S : Src H a c room) (x : ExtN H H') : Src H' a c room := by
  obtain ⟨ns, p, q, r, l, h0, h1, h2⟩ := S
  exact ⟨ns, p, q, r, l, x _ _ h0 (fun _ e => by cases e), x _ _ h1 (fun _ e => by cases e), h2⟩
theorem src_tabs {T : List (Addr × Str)} {c : Addr} {room : Int} (t : Tabs T H) (x : SB a H H') (S : Src H a c room) : Tabs T H' := by
  obtain ⟨ns, p, q, r, l, h0, h1, h2⟩ := S
  exact tabs_sb t x h0
end
theorem TAt.st {G : Hp} : ∀ {n : Nat} {t : Val} {v : V}, TAt G n t v → TAt (stH G) n t v
  | 0, _, _, x => x
  | _ + 1, .non, _, x => x
  | _ + 1, .bl _, _, x => x
  | _ + 1, .int _, _, x => x
  | _ + 1, .str _, _, x => x
  | n + 1, .row t xs, v, x => by
    obtain ⟨p, l, vs, e, h1, h2, r⟩ := x
    exact ⟨p, l, vs, e, stH_at h1 (fun _ e => by cases e), stH_at h2 (fun _ e => by cases e), Paired.mapP r fun a b z => TAt.st z⟩
  | n + 1, .tab ks xs, v, x => by
    obtain ⟨p, l, ps, e, h1, h2, r⟩ := x
    exact ⟨p, l, ps, e, stH_at h1 (fun _ e => by cases e), stH_at h2 (fun _ e => by cases e), Paired.mapP r fun a b ⟨u, h3, z⟩ => ⟨u, stH_at h3 (fun _ e => by cases e), TAt.st z⟩⟩
theorem VAt.st {TC : Addr} {G : Hp} : ∀ {n : Nat} {t : Val} {v : V}, VAt TC G n t v → VAt TC (stH G) n t v
  | 0, _, _, x => x
  | _ + 1, .non, _, x => x
  | _ + 1, .bl _, _, x => x
  | _ + 1, .int _, _, x => x
  | _ + 1, .str _, _, x => x
  | n + 1, .row t xs, v, x => by
    obtain ⟨p, vs, e, h1, r⟩ := x
    exact ⟨p, vs, e, h1.elim (fun z => .inl ⟨z.1, stH_at z.2 (fun _ e => by cases e)⟩) (fun z => .inr ⟨z.1, stH_at z.2 (fun _ e => by cases e)⟩), Paired.mapP r fun a b z => VAt.st z⟩
  | n + 1, .tab ks xs, v, x => by
    obtain ⟨p, dx, d, vs, e, h1, h2, h3, r⟩ := x
    exact ⟨p, dx, d, vs, e, stH_at h1 (fun _ e => by cases e), stH_at h2 (fun _ e => by cases e), h3, Paired.mapP r fun a b z => VAt.st z⟩
section
variable {a : Addr} {G G' H H' : Hp} {u : HO} {n : Nat} {t : Val} {v : V}
theorem new_mx (nw : New G H G' H') (ga : G a = none) (ha : H a = some u) : Same (stH G') (mx a H') := fun b o h => by
  obtain ⟨h1, h2⟩ := stH_of h
  have hb : b ≠ a := fun e => by rw [e, nw.new a _ ha ga] at h1; cases h1
  exact mx_at hb (nw.le b o h1) h2
theorem mxT (nw : New G H G' H') (ga : G a = none) (ha : H a = some u) (h : TAt G' n t v) : TAt (mx a H') n t v := h.st.up (new_mx nw ga ha)
theorem mxV {TC : Addr} (nw : New G H G' H') (ga : G a = none) (ha : H a = some u) (h : VAt TC G' n t v) : VAt TC (mx a H') n t v := h.st.up (new_mx nw ga ha)
end
/-! ### refusals -/
def EOk (m : Nat) (e : Err) : Prop := SOk e.1 ∧ (∀ k ∈ e.2, KOk k) ∧ e.2.length ≤ m
theorem kept_err {o : Opts} {path : List Key} : ∀ (es acc : List E) {x : Err}, keptRun o path es acc = .error x → ∃ e ∈ es, x = (("key" : Str), path ++ [e.1])
  | [], acc, x, h => by cases h
  | e :: es, acc, x, h => by
    have weak : ∀ acc', keptRun o path es acc' = .error x → ∃ d ∈ e :: es, x = (("key" : Str), path ++ [d.1]) := fun acc' h => by
      obtain ⟨d, hd, q⟩ := kept_err es acc' h
      exact ⟨d, List.mem_cons_of_mem _ hd, q⟩
    cases h1 : skips o e with
    | true => rw [kept_skip h1] at h; exact weak _ h
    | false =>
      cases h2 : bads o e with
      | true =>
        rw [kept_bad h1 h2] at h
        cases h
        exact ⟨e, List.mem_cons_self, rfl⟩
      | false =>
        cases h3 : keeps o e with
        | true => rw [kept_keep h1 h2 h3] at h; exact weak _ h
        | false => rw [kept_drop h1 h2 h3] at h; exact weak _ h
theorem rows_fail {f : Val → List Key → Except Err Val} {path : List Key} : ∀ (xs : List Val) (i : Nat) (acc : List Val) {x : Err}, rowsRun f path xs i acc = .error x → ∃ y ∈ xs, ∃ j : Nat, j < i + xs.length ∧ f y (path ++ [.inl (j : Int)]) = .error x
  | [], i, acc, x, h => by cases h
  | y :: xs, i, acc, x, h => by
    cases e : f y (path ++ [.inl (i : Int)]) with
    | error er =>
      rw [rows_err e] at h
      cases h
      exact ⟨y, List.mem_cons_self, i, by rw [List.length_cons]; omega, e⟩
    | ok u =>
      rw [rows_ok e] at h
      obtain ⟨z, hz, j, hj, q⟩ := rows_fail xs (i + 1) _ h
      exact ⟨z, List.mem_cons_of_mem _ hz, j, by rw [List.length_cons]; omega, q⟩
theorem pairs_fail {f : Val → List Key → Except Err Val} {o : Opts} {path : List Key} : ∀ (es : List E) (seen : List Str) (acc : List Val) {x : Err}, pairsRun f o path es seen acc = .error x → (∃ e ∈ es, x = (("double" : Str), path ++ [e.1])) ∨ ∃ e ∈ es, f e.2 (path ++ [e.1]) = .error x
  | [], seen, acc, x, h => by cases h
  | e :: es, seen, acc, x, h => by
    cases hb : (decide (kT e.1 ∈ seen) && decide (o.dk = "refuse")) with
    | true =>
      rw [pairs_dbl hb] at h
      cases h
      exact .inl ⟨e, List.mem_cons_self, rfl⟩
    | false =>
      cases e1 : f e.2 (path ++ [e.1]) with
      | error er =>
        rw [pairs_err hb e1] at h
        cases h
        exact .inr ⟨e, List.mem_cons_self, e1⟩
      | ok y =>
        rw [pairs_ok hb e1] at h
        rcases pairs_fail es _ _ h with ⟨d, hd, q⟩ | ⟨d, hd, q⟩
        · exact .inl ⟨d, List.mem_cons_of_mem _ hd, q⟩
        · exact .inr ⟨d, List.mem_cons_of_mem _ hd, q⟩
theorem word_ok {x : Str} (h : (x.length ≤ 300 ∧ ∀ c ∈ tl x, c < 1114112)) : SOk x := h
theorem w_long : SOk "long" := word_ok (by decide +kernel)
theorem w_tuple : SOk "tuple" := word_ok (by decide +kernel)
theorem keys_snoc {path : List Key} {k : Key} (h : ∀ k ∈ path, KOk k) (hk : KOk k) : ∀ j ∈ path ++ [k], KOk j := fun j hj => (List.mem_append.mp hj).elim (h j) fun q => by rw [List.mem_singleton.mp q]; exact hk
theorem EOk.le {m m' : Nat} {e : Err} (h : EOk m e) (l : m ≤ m') : EOk m' e := ⟨h.1, h.2.1, Nat.le_trans h.2.2 l⟩
theorem raw_fail {o : Opts} : ∀ {n : Nat} {t : Val} {path : List Key} {x : Err}, MOk n t → (∀ k ∈ path, KOk k) → rawN o n t path = .error x → EOk (path.length + n) x
  | 0, _, _, _, h, _, _ => h.elim
  | n + 1, .non, path, x, _, _, h => by cases h
  | n + 1, .bl b, path, x, _, _, h => by cases h
  | n + 1, .str s, path, x, _, _, h => by cases h
  | n + 1, .int i, path, x, _, hp, h => by
    have h : (if longI i = true ∧ o.ln ≠ "keep" then (if o.ln = "refuse" then (Except.error (("long" : Str), path) : Except Err Val) else .ok (Val.str (toString i))) else .ok (.int i)) = Except.error x := h
    split at h
    · split at h
      · cases h
        exact ⟨w_long, hp, by show path.length ≤ _; omega⟩
      · cases h
    · cases h
  | n + 1, .row t xs, path, x, ⟨_, h12, hx⟩, hp, h => by
    have h : (if t = "tuple" ∧ o.tp = "refuse" then (Except.error (("tuple" : Str), path) : Except Err Val) else match rowsRun (rawN o n) path xs 0 [] with
      | .error x => .error x
      | .ok ys => .ok (Val.row "row" ys)) = Except.error x := h
    split at h
    · cases h
      exact ⟨w_tuple, hp, by show path.length ≤ _; omega⟩
    · cases e : rowsRun (rawN o n) path xs 0 [] with
      | ok ys => rw [e] at h; cases h
      | error x' =>
        rw [e] at h
        cases h
        obtain ⟨y, hy, j, hj, q⟩ := rows_fail xs 0 [] e
        have := raw_fail (hx y hy) (keys_snoc (k := .inl (j : Int)) hp (by show (j : Int).natAbs < 10 ^ 30; rw [Int.natAbs_natCast]; exact Nat.lt_of_lt_of_le (show j < 13 by omega) (by decide))) q
        rw [List.length_append] at this
        exact this.le (by show path.length + 1 + n ≤ _; omega)
  | n + 1, .tab ks xs, path, x, ⟨hl, h12, nd, kok, hx⟩, hp, h => by
    have h : (match keptRun o path (ks.zip xs) [] with
      | .error x => Except.error x
      | .ok es => match pairsRun (rawN o n) o path (ordered o es) [] [] with
        | .error x => .error x
        | .ok ys => .ok (Val.tab ((ordered o es).map fun e => .inr (kT e.1)) ys)) = Except.error x := h
    have key : ∀ (w : Str) (e : E), e ∈ ks.zip xs → SOk w → EOk (path.length + (n + 1)) (w, path ++ [e.1]) := fun w e he hw => ⟨hw, keys_snoc hp (kok _ (List.of_mem_zip he).1), by rw [List.length_append]; show path.length + 1 ≤ _; omega⟩
    cases e : keptRun o path (ks.zip xs) [] with
    | error x' =>
      rw [e] at h
      cases h
      obtain ⟨d, hd, rfl⟩ := kept_err _ _ e
      exact key _ d hd (word_ok (by decide +kernel))
    | ok es =>
      rw [e] at h
      have h : (match pairsRun (rawN o n) o path (ordered o es) [] [] with
        | .error x => .error x
        | .ok ys => .ok (Val.tab ((ordered o es).map fun e => .inr (kT e.1)) ys)) = Except.error x := h
      cases e2 : pairsRun (rawN o n) o path (ordered o es) [] [] with
      | ok ys => rw [e2] at h; cases h
      | error x' =>
        rw [e2] at h
        cases h
        obtain ⟨k1, k2⟩ := kept_sum (f := fun e => cnt n e.2) _ _ _ e
        have mem : ∀ z ∈ ordered o es, z ∈ ks.zip xs := fun z hz => (k2 z ((ord_perm o es).mem_iff.mp hz)).resolve_left (by simp)
        rcases pairs_fail _ _ _ e2 with ⟨d, hd, rfl⟩ | ⟨d, hd, q⟩
        · exact key _ d (mem d hd) (word_ok (by decide +kernel))
        · have hm := List.of_mem_zip (mem d hd)
          have := raw_fail (hx _ hm.2) (keys_snoc hp (kok _ hm.1)) q
          rw [List.length_append] at this
          exact this.le (by show path.length + 1 + n ≤ _; omega)
/-! ### the codes of a text -/
theorem text_codes : ∀ {n : Nat} {t : Val}, ROk n t → ∀ c ∈ textN n t, c < 1114112
  | 0, _, h => h.elim
  | _ + 1, .non, _ => show ∀ c ∈ [110, 117, 108, 108], c < 1114112 by decide
  | _ + 1, .bl true, _ => show ∀ c ∈ [116, 114, 117, 101], c < 1114112 by decide
  | _ + 1, .bl false, _ => show ∀ c ∈ [102, 97, 108, 115, 101], c < 1114112 by decide
  | _ + 1, .int i, h => fun c hc => Nat.lt_trans (numI_codes i c hc) (by decide)
  | _ + 1, .str s, h => strL_codes h
  | n + 1, .row t xs, ⟨_, _, hx⟩ => fun c hc => by
    have hc : c ∈ 91 :: (joinL [44] (xs.map (textN n)) ++ [93]) := hc
    rcases List.mem_cons.mp hc with q | q
    · omega
    rcases List.mem_append.mp q with q | q
    · refine codes_join (fun c hc => by rw [List.mem_singleton.mp hc]; decide) (fun m hm => ?_) c q
      obtain ⟨x, hxm, rfl⟩ := List.mem_map.mp hm
      exact text_codes (hx x hxm)
    · rw [List.mem_singleton.mp q]; decide
  | n + 1, .tab ks xs, ⟨_, _, hk, hx⟩ => fun c hc => by
    have hc : c ∈ 123 :: (joinL [44] ((ks.zip xs).map fun e => strL (tl (kT e.1)) ++ 58 :: textN n e.2) ++ [125]) := hc
    rcases List.mem_cons.mp hc with q | q
    · omega
    rcases List.mem_append.mp q with q | q
    · refine codes_join (fun c hc => by rw [List.mem_singleton.mp hc]; decide) (fun m hm => ?_) c q
      obtain ⟨e, he, rfl⟩ := List.mem_map.mp hm
      have hz := List.of_mem_zip he
      obtain ⟨s, es, so⟩ := hk _ hz.1
      intro d hd
      rcases List.mem_append.mp hd with r | r
      · rw [es] at r
        exact strL_codes so d r
      · rcases List.mem_cons.mp r with r | r
        · omega
        · exact text_codes (hx _ hz.2) d r
    · rw [List.mem_singleton.mp q]; decide
end K25
set_option Elab.async false
set_option linter.all false
set_option maxRecDepth 100000
set_option maxHeartbeats 4000000
/-! the law -/
namespace K25
open PySem PySem.Spec PyProof.Rows L2 C8 SX TL LamX
structure WS (K : PySem.W.Frag) (a c : Addr) (H : Hp) : Prop where
  src : ∃ room, Src H a c room
  tb : Tabs (TT K) H
section
variable {K : PySem.W.Frag} {a c : Addr} {H H' : Hp}
theorem WS.ne (W : WS K a c H) {b : Addr} {u : HO} (h : H b = some u) (n : ∀ kvs, u ≠ .dK kvs) : b ≠ a := by
  obtain ⟨room, ns, p, q, r, l, h0, _⟩ := W.src
  intro e
  rw [e, h0] at h
  exact n _ (Option.some.inj h).symm
theorem WS.there (W : WS K a c H) : ∃ u, H a = some u := by
  obtain ⟨room, S⟩ := W.src
  exact S.there
theorem WS.tup (W : WS K a c H) (x : Ke a H H') {b : Addr} {vs : List V} (h : H b = some (.tup vs)) : H' b = some (.tup vs) := x b _ (W.ne h fun _ e => by cases e) h fun _ e => by cases e
theorem WS.ins (W : WS K a c H) (x : Ke a H H') {b C d : Addr} {fs : List (Str × V)} (h : H b = some (.ins C d fs)) : H' b = some (.ins C d fs) := x b _ (W.ne h fun _ e => by cases e) h fun _ e => by cases e
theorem WS.lst (W : WS K a c H) (x : Ke a H H') {b : Addr} {vs : List V} (h : H b = some (.lst vs)) : H' b = some (.lst vs) := x b _ (W.ne h fun _ e => by cases e) h fun _ e => by cases e
theorem WS.same (W : WS K a c H) (x : Same H H') : WS K a c H' := ⟨W.src.imp fun _ S => S.keep x, W.tb.ext x⟩
theorem WS.ext (W : WS K a c H) (x : ExtN H H') (t : Tabs (TT K) H') : WS K a c H' := ⟨W.src.imp fun _ S => src_ext S x, t⟩
/-! ### results -/
def Res (H : Hp) (o : Opts) (t : Val) (q : Addr) : Prop := match rawN o 61 t [] with
  | .error e => ∃ pp, H q = some (.tup [.str "no", .str e.1, .ref pp]) ∧ H pp = some (.tup (e.2.map kV))
  | .ok y => ∃ ee z, H q = some (.tup [.str "text", .str z, .ref ee]) ∧ H ee = some (.tup []) ∧ tl z = textN 61 y
def ResR (a : Addr) (H : Hp) (o : Opts) (t : Val) (q : Addr) : Prop := match rawN o 61 t [] with
  | .error e => ∃ pp, H q = some (.tup [.str "no", .str e.1, .ref pp]) ∧ H pp = some (.tup (e.2.map kV))
  | .ok y => ∃ v, H q = some (.tup [.str "raw", v]) ∧ TAt (mx a H) 61 y v
theorem Res.ke {o : Opts} {t : Val} {q : Addr} (r : Res H o t q) (W : WS K a c H) (x : Ke a H H') : Res H' o t q := by
  unfold Res at r ⊢
  cases e : rawN o 61 t [] with
  | error er =>
    rw [e] at r
    obtain ⟨pp, h1, h2⟩ := r
    exact ⟨pp, W.tup x h1, W.tup x h2⟩
  | ok y =>
    rw [e] at r
    obtain ⟨ee, z, h1, h2, h3⟩ := r
    exact ⟨ee, z, W.tup x h1, W.tup x h2, h3⟩
theorem ResR.ke {o : Opts} {t : Val} {q : Addr} (r : ResR a H o t q) (W : WS K a c H) (x : Ke a H H') : ResR a H' o t q := by
  unfold ResR at r ⊢
  cases e : rawN o 61 t [] with
  | error er =>
    rw [e] at r
    obtain ⟨pp, h1, h2⟩ := r
    exact ⟨pp, W.tup x h1, W.tup x h2⟩
  | ok y =>
    rw [e] at r
    obtain ⟨v, h1, h2⟩ := r
    exact ⟨v, W.tup x h1, h2.up x.mx⟩
def resD (o : Opts) (t : Val) : PyData := match rawN o 61 t [] with
  | .error e => .tuple [.str "no", .str e.1, .tuple (e.2.map dK)]
  | .ok y => .tuple [.str "text", .str ⟨(textN 61 y).toArray⟩, .tuple []]
theorem res_dp {o : Opts} {t : Val} {q : Addr} (r : Res H o t q) : Dp K H (.ref q) (resD o t) := by
  unfold Res at r
  unfold resD
  cases e : rawN o 61 t [] with
  | error er =>
    rw [e] at r
    obtain ⟨pp, h1, h2⟩ := r
    exact .tup (SqT.of h1) (.cons (.str _) (.cons (.str _) (.cons (.tup (SqT.of h2) (dp_keys _)) .nil)))
  | ok y =>
    rw [e] at r
    obtain ⟨ee, z, h1, h2, h3⟩ := r
    have ez : z = ⟨(textN 61 y).toArray⟩ := ext_tl (h3.trans (tl_mk _).symm)
    rw [ez] at h1
    exact .tup (SqT.of h1) (.cons (.str _) (.cons (.str _) (.cons (.tup (SqT.of h2) .nil) .nil)))
theorem lay_str {s : Str} (h : ∀ c ∈ tl s, c < 1114112) : PyData.canLay0 (.str s) = true := by
  show s.cps.all (· < 0x110000) = true
  rw [Array.all_eq_true_iff_forall_mem]
  exact fun c hc => decide_eq_true (h c (Array.mem_def.mp hc))
theorem lay_no : PyData.canLay0 (.str "no") = true := by decide +kernel
theorem lay_text : PyData.canLay0 (.str "text") = true := by decide +kernel
theorem res_shaped {o : Opts} {t : Val} (mo : MOk 61 t) : SeqAt.shaped (resD o t) = true := by
  unfold resD
  cases e : rawN o 61 t [] with
  | error er =>
    obtain ⟨h1, h2, h3⟩ := raw_fail mo (fun k hk => by cases hk) e
    show (PyData.canLay0 (.tuple [.str "no", .str er.1, .tuple (er.2.map dK)]) && decide ((PyData.tuple [.str "no", .str er.1, .tuple (er.2.map dK)]).depth ≤ 64)) = true
    have a1 : PyData.canLay0 (.tuple [.str "no", .str er.1, .tuple (er.2.map dK)]) = true := by
      show (PyData.canLay0 (.str "no") && (PyData.canLay0 (.str er.1) && (PyData.canLayAll0 (er.2.map dK) && true))) = true
      rw [lay_no, lay_str h1.2, lay_keys _ h2]
      rfl
    have a2 : (PyData.tuple [.str "no", .str er.1, .tuple (er.2.map dK)]).depth ≤ 64 := by
      simp only [PyData.depth, PyData.depthAll, depth_keys]
      omega
    rw [a1, decide_eq_true a2]
    rfl
  | ok y =>
    obtain ⟨h1, h2⟩ := raw_ok mo e
    have a1 : PyData.canLay0 (.tuple [.str "text", .str ⟨(textN 61 y).toArray⟩, .tuple []]) = true := by
      show (PyData.canLay0 (.str "text") && (PyData.canLay0 (.str ⟨(textN 61 y).toArray⟩) && (true && true))) = true
      rw [lay_text, lay_str (s := ⟨(textN 61 y).toArray⟩) (fun c hc => text_codes h2 c (by rw [tl_mk] at hc; exact hc))]
      rfl
    have a2 : (PyData.tuple [.str "text", .str ⟨(textN 61 y).toArray⟩, .tuple []]).depth ≤ 64 := by
      simp only [PyData.depth, PyData.depthAll]
      omega
    show (_ && decide (_ ≤ 64)) = true
    rw [a1, decide_eq_true a2]
    rfl
theorem eqv_keys : ∀ ks : List Key, PyData.eqvAll (ks.map dK) (ks.map dK) = true
  | [] => rfl
  | .inl i :: r => by
    show ((i == i) && PyData.eqvAll (r.map dK) (r.map dK)) = true
    rw [eqv_keys r, beq_self_eq_true]
    rfl
  | .inr s :: r => by
    show ((s == s) && PyData.eqvAll (r.map dK) (r.map dK)) = true
    rw [eqv_keys r, beq_self_eq_true]
    rfl
theorem res_eqv (o : Opts) (t : Val) : PyData.eqv (resD o t) (resD o t) = true := by
  unfold resD
  cases e : rawN o 61 t [] with
  | error er =>
    show ((("no" : Str) == ("no" : Str)) && ((er.1 == er.1) && (PyData.eqvAll (er.2.map dK) (er.2.map dK) && true))) = true
    rw [eqv_keys, beq_self_eq_true, beq_self_eq_true]
    rfl
  | ok y =>
    show ((("text" : Str) == ("text" : Str)) && (((⟨(textN 61 y).toArray⟩ : Str) == (⟨(textN 61 y).toArray⟩ : Str)) && (true && true))) = true
    rw [beq_self_eq_true, beq_self_eq_true]
    rfl
/-! ### the calls -/
section
variable {o : Opts} {t : Val} {v0 : V} {wa : Addr} {Q : VK} {E E' : XK}
theorem go_made (W : WS K a c H) (hm : TAt (mx a H) 61 t v0) (mo : MOk 61 t) (k : ∀ (v : V) (H' : Hp), WS K a c H' → Ke a H H' → VAt (TC K) (mx a H') 61 t v → Q v H') : spMade K 61 [v0] H Q E := by
  refine ⟨t, v0, mx a H, rfl, mx_same a H, hm, mo, fun v G' H' nw sm va => ?_⟩
  obtain ⟨u, hu⟩ := W.there
  exact k v H' (W.same sm) (Ke.same sm) (mxV nw (mx_none a H) hu va)
theorem go_text1 {v : V} (W : WS K a c H) (hw : ∃ wd, H wa = some (.ins (WC K) wd (wF o))) (hv : VAt (TC K) (mx a H) 61 t v) (mo : MOk 61 t) (hc : cnt 61 t ≤ 600) (k : ∀ (q : Addr) (H' : Hp), WS K a c H' → Ke a H H' → Res H' o t q → Q (.ref q) H') : spTextOf K [.ref wa, v] H Q E := by
  obtain ⟨wd, hw⟩ := hw
  refine ⟨wa, o, t, v, mx a H, rfl, ⟨wd, mx_at (W.ne hw fun _ e => by cases e) hw (fun _ e => by cases e)⟩, mx_st a H, W.tb, hv, mo, hc, ?_⟩
  unfold Res at k
  cases e : rawN o 61 t [] with
  | error er =>
    rw [e] at k
    exact fun q pp H' x tb h1 h2 => k q H' (W.ext x tb) (Ke.ext x) ⟨pp, h1, h2⟩
  | ok y =>
    rw [e] at k
    exact fun q ee z H' x tb h1 h2 h3 => k q H' (W.ext x tb) (Ke.ext x) ⟨ee, z, h1, h2, h3⟩
theorem go_text (W : WS K a c H) (hw : ∃ wd, H wa = some (.ins (WC K) wd (wF o))) (hm : TAt (mx a H) 61 t v0) (mo : MOk 61 t) (hc : cnt 61 t ≤ 600) (k : ∀ (q : Addr) (H' : Hp), WS K a c H' → Ke a H H' → Res H' o t q → Q (.ref q) H') :
    spMade K 61 [v0] H (fun v H' => spTextOf K [.ref wa, v] H' Q E) E' :=
  go_made W hm mo fun v H1 W1 x1 va => go_text1 W1 (hw.imp fun _ h => W.ins x1 h) va mo hc fun q H' W' x' r => k q H' W' (x1.trans x') r
theorem go_raw1 {v : V} {H1 : Hp} (W1 : WS K a c H1) (hw : ∃ wd, H1 wa = some (.ins (WC K) wd (wF o))) (va : VAt (TC K) (mx a H1) 61 t v) (mo : MOk 61 t) (hc : cnt 61 t ≤ 600) (k : ∀ (q : Addr) (H' : Hp), WS K a c H' → Ke a H1 H' → ResR a H' o t q → Q (.ref q) H') :
    spRawOf K [.ref wa, v] H1 Q E := by
  obtain ⟨wd, hw1⟩ := hw
  refine ⟨wa, o, t, v, mx a H1, rfl, ⟨wd, mx_at (W1.ne hw1 fun _ e => by cases e) hw1 (fun _ e => by cases e)⟩, mx_st a H1, W1.tb, va, mo, hc, ?_⟩
  unfold ResR at k
  cases e : rawN o 61 t [] with
  | error er =>
    rw [e] at k
    exact fun q pp H' x tb h1 h2 => k q H' (W1.ext x tb) (Ke.ext x) ⟨pp, h1, h2⟩
  | ok y =>
    rw [e] at k
    refine fun q v' G' H' nw x tb h1 h2 => k q H' (W1.ext x tb) (Ke.ext x) ⟨v', same_un nw.le h1, ?_⟩
    obtain ⟨u, hu⟩ := W1.there
    have ga : G' a = none := by
      obtain ⟨room, ns, p', q', r', l', h0, _⟩ := W1.src
      exact nw.new a _ (stH_at h0 fun _ e => by cases e) (mx_none a H1)
    refine h2.up fun b o' hb => ?_
    have hs := nw.le b o' hb
    unfold mx
    rw [del_ne (fun e => by rw [e, ga] at hb; cases hb)]
    exact hs
end
end
end K25
set_option Elab.async false
set_option linter.all false
set_option maxRecDepth 100000
set_option maxHeartbeats 4000000
/-! the law: the walk -/
namespace K25
open PySem PySem.Spec PyProof.Rows L2 C8 SX TL LamX
theorem q_odd (s : Str) (h : s = "no" ∨ s = "text") : decide (V.str s = V.str "odd") = false := by
  rcases h with rfl | rfl <;> decide +kernel
section
variable {P : Program} {w : World} {K : PySem.W.Frag} {mg : Str → Option Value} {base : Heap}
def spLaw (K : PySem.W.Frag) : Sp := fun vs H Q _ => ∃ (b : Addr) (ns : List Int), vs = [.ref b] ∧ SqL K H b (ns.map V.int) ∧ ns.length ≤ 63 ∧ Tabs (TT K) H ∧ ∀ H', Q (.bl true) H'
theorem scLaw : FnScope ["_law_script", "_law_source_here", "_law_o", "_law_writer_here", "_law_model_here", "_law_raw", "_law_found", "_law_second", "_law_other"] ["_law_script"] (defScope (top 57)) := ⟨rfl, rfl, rfl, by decide +kernel, rfl, by decide +kernel, by decide +kernel⟩
theorem fn_ok0 {x : Str} {st : Stmt} {N ps : List Str} {k : Nat} {sp : Sp} {f : Addr} {fd : FuncData} (F : FunD K x x (defArgs st) (defBody st) (defScope st) [] [] f fd) (S : FnScope N ps (defScope st)) (len : ∀ vs H Q E, sp vs H Q E → vs.length = ps.length)
    (hbody : ∀ (cdv : Value) (A : Around) (outer : List Env) (s : Shared) (H : Hp) (vs : List V) (Q : VK) (E : XK), Room k (A.deeper (envOfC x (defScope st) s.heap.objs.size f cdv)) → sp vs H Q E →
      ∃ t, PSs (cxOf L2.CX0 P w K mg base N x (defScope st) f cdv A outer s H E).nox (defBody st) t ∧ t { nx := fun _ H' => Q .non H', rt := Q } (start N vs) H) : FnOk P w K mg base L2.CX0 (k + 1) f fd ps sp :=
  F.ok S len fun cdv A outer s H vs Q E hr h => by
    obtain ⟨t, h1, h2⟩ := hbody cdv A outer s H vs Q E hr h
    exact ⟨t, h1.nox, h2⟩
theorem law_ok (T : Txt4 w K mg) (TB : TabB base mg (cKept K) (pKept K)) {f : Addr} {fd : FuncData} (F : FunD K "law" "law" (defArgs (top 57)) (defBody (top 57)) (defScope (top 57)) [] [] f fd) : FnOk P w K mg base L2.CX0 190 f fd ["_law_script"] (spLaw K) := by
  have T2 := T.toTxt3.toTxt2
  have T0 := T2.toTxt
  refine fn_ok0 (k := 189) F scLaw (fun vs H Q E h => ?_) (fun cdv A outer s H vs Q E hr h => ?_)
  · obtain ⟨b, ns, rfl, _⟩ := h
    rfl
  obtain ⟨b, ns, rfl, hb, hl, tb, q⟩ := h
  refine ⟨_, (pss_cons (ps_set (i := 1) scLaw.nd rfl (Or.inl rfl) (pe_c (c_source T0) hr (by omega) rfl (pa_cons (pv 0) pa_nil)))
      (pss_cons (ps_set (i := 2) scLaw.nd rfl (Or.inl rfl) (pe_c (c_writing T0) hr (by omega) rfl (pa_cons (pv 1) pa_nil)))
      (pss_cons (ps_set (i := 3) scLaw.nd rfl (Or.inl rfl) (pe_c (c_writer T2) hr (by omega) rfl (pa_cons (pv 2) pa_nil)))
      (pss_cons (ps_set (i := 4) scLaw.nd rfl (Or.inl rfl) (pe_c (c_deep T0) hr (by omega) rfl (pa_cons (pv 1) (pa_cons pe_int (pa_cons pe_int pa_nil)))))
      (pss_cons (ps_set (i := 5) scLaw.nd rfl (Or.inl rfl) (pe_c (c_rawOf T.toTxt3 TB) hr (by omega) rfl (pa_cons (pv 3) (pa_cons (pe_c (c_made T2 61) hr (by omega) rfl (pa_cons (pv 4) pa_nil)) pa_nil))))
      (pss_cons (ps_set (i := 6) scLaw.nd rfl (Or.inl rfl) (pe_c (c_textOf T.toTxt3 TB) hr (by omega) rfl (pa_cons (pv 3) (pa_cons (pe_c (c_made T2 61) hr (by omega) rfl (pa_cons (pv 4) pa_nil)) pa_nil))))
      (pss_cons (ps_set (i := 7) scLaw.nd rfl (Or.inl rfl) (pe_c (c_textOf T.toTxt3 TB) hr (by omega) rfl (pa_cons (pe_c (c_writer T2) hr (by omega) rfl (pa_cons (pv 2) pa_nil)) (pa_cons (pe_c (c_made T2 61) hr (by omega) rfl (pa_cons (pv 4) pa_nil)) pa_nil))))
      (pss_cons (ps_set (i := 8) scLaw.nd rfl (Or.inl rfl) (pe_c (c_textOf T.toTxt3 TB) hr (by omega) rfl (pa_cons (pv 3) (pa_cons (pe_c (c_made T2 61) hr (by omega) rfl (pa_cons (pe_c (c_deep T0) hr (by omega) rfl (pa_cons (pv 1) (pa_cons pe_int (pa_cons pe_int pa_nil)))) pa_nil)) pa_nil))))
      (pss_cons (ps_if (PW.pt (pw_or (pt_cmpR op_eq (pe_ix ix_tup (pv 8) pe_int (fun _ _ => rfl)) pe_str (nomark _)) (pw_or (pt_cmpR (op_neD hr.units) (pv 7) (pv 6) (nomark _)) (pw_or1 (pt_cmpR (op_neD hr.units) (pe_c (c_textOf T.toTxt3 TB) hr (by omega) rfl (pa_cons (pv 3) (pa_cons (pe_c (c_made T2 61) hr (by omega) rfl (pa_cons (pv 4) pa_nil)) pa_nil))) (pv 6) (nomark _))))))
        (pss_one (ps_ret pe_bl))
        pss_nil)
      (pss_cons (ps_if (pt_cmpR op_ne (pe_ix ix_tup (pv 5) pe_int (fun _ _ => rfl)) pe_str (nomark _))
        (pss_cons (ps_if (PW.pt (pw_or (pt_cmpR op_ne (pe_ix ix_tup (pv 5) pe_int (fun _ _ => rfl)) pe_str (nomark _)) (pw_or (pt_cmpR op_ne (pe_ix ix_tup (pv 6) pe_int (fun _ _ => rfl)) pe_str (nomark _)) (pw_or1 (pt_cmpR op_ne (pe_ix ix_tup (pv 6) pe_int (fun _ _ => rfl)) (pe_ix ix_tup (pv 5) pe_int (fun _ _ => rfl)) (nomark _))))))
            (pss_one (ps_ret pe_bl))
            pss_nil)
          (pss_one (ps_ret (pe_and (pe_callB call_isi rfl T.n_isinstance (by decide +kernel) (pa_cons (pe_ix ix_tup (pv 5) pe_int (fun _ _ => rfl)) (pa_cons (pe_bltn (v := .ty "tuple") (u := Value.type "tuple") rfl T.n_tuple (by decide +kernel) rfl) pa_nil))) (pe_one (pe_c (c_pathIs T2) hr (by omega) rfl (pa_cons (pe_ix ix_tup (pv 6) pe_int (fun _ _ => rfl)) (pa_cons (pe_callTy call_list_of rfl T.n_list (by decide +kernel) (pa_cons (pe_ix ix_tup (pv 5) pe_int (fun _ _ => rfl)) pa_nil)) pa_nil))))))))
        pss_nil)
      (pss_cons (ps_if (PW.pt (pw_or (pt_cmpR op_ne (pe_ix ix_tup (pv 6) pe_int (fun _ _ => rfl)) pe_str (nomark _)) (pw_or1 (pt_not (pt_val (pe_callB call_isi rfl T.n_isinstance (by decide +kernel) (pa_cons (pe_ix ix_tup (pv 6) pe_int (fun _ _ => rfl)) (pa_cons (pe_bltn (v := .ty "str") (u := Value.type "str") rfl T.n_str (by decide +kernel) rfl) pa_nil))))))))
        (pss_one (ps_ret pe_bl))
        pss_nil)
      (pss_cons (ps_if (pt_cmpR op_ne (pe_ix ix_tup (pv 6) pe_int (fun _ _ => rfl)) (pe_join pe_str (pe_c (c_tokens T2 61) hr (by omega) rfl (pa_cons (pe_ix ix_tup (pv 5) pe_int (fun _ _ => rfl)) pa_nil))) (nomark _))
        (pss_one (ps_ret pe_bl))
        pss_nil)
      (pss_one (ps_ret (pe_c (c_alike T2 61) hr (by omega) rfl (pa_cons (pe_ix ix_tup (pv 5) pe_int (fun _ _ => rfl)) (pa_cons (pe_c (c_parse T) hr (by omega) rfl (pa_cons (pe_ix ix_tup (pv 6) pe_int (fun _ _ => rfl)) pa_nil)) pa_nil))))))))))))))))), ?_⟩
  refine ⟨_, rfl, b, ns, rfl, hb, hl, fun a c H1 sm1 ha S1 => ?_⟩
  refine ⟨_, rfl, a, c, _, rfl, S1, fun o l H2 oo hl0 hl2 sb2 S2 => ?_⟩
  have tb2 := src_tabs (tb.ext sm1) sb2 S1
  have W2 : WS K a c H2 := ⟨⟨_, S2⟩, tb2⟩
  refine ⟨_, rfl, l, o, rfl, hl2, oo, fun wa wd H3 sm3 hwa hw3 => ?_⟩
  have W3 := W2.same sm3
  have hl3 := sm3 _ _ hl2
  obtain ⟨r3, S3⟩ := W3.src
  refine ⟨_, rfl, a, c, r3, 40, mx a H3, rfl, by decide, S3, mx_same a H3, mx_none a H3, fun t v0 r4 G4 H4 nw4 sb4 ta4 mo hc S4 => ?_⟩
  obtain ⟨u3, hu3⟩ := W3.there
  have W4 : WS K a c H4 := ⟨⟨_, S4⟩, src_tabs W3.tb sb4 S3⟩
  have ta4 := mxT nw4 (mx_none a H3) hu3 ta4
  have x4 : Ke a H3 H4 := Ke.sb sb4
  have hw4 := W3.ins x4 hw3
  have hl4 := W3.lst x4 hl3
  refine ⟨_, rfl, _, rfl, go_made (E := C8.E0) W4 ta4 mo fun v5 I5 V5 y5 va5 => ?_⟩
  try unfold tNil
  refine go_raw1 (E := C8.E0) V5 ⟨_, W4.ins y5 hw4⟩ va5 mo hc fun q5 H5 W5 z5 r5 => ?_
  have x5 := y5.trans z5
  have ta5 := ta4.up x5.mx
  have hw5 := W4.ins x5 hw4
  have hl5 := W4.lst x5 hl4
  refine ⟨_, rfl, _, rfl, go_made (E := C8.E0) W5 ta5 mo fun v6 I6 V6 y6 va6 => ?_⟩
  try unfold tNil
  refine go_text1 (E := C8.E0) V6 ⟨_, W5.ins y6 hw5⟩ va6 mo hc fun q6 H6 W6 z6 r6 => ?_
  have x6 := y6.trans z6
  have ta6 := ta5.up x6.mx
  have hw6 := W5.ins x6 hw5
  have hl6 := W5.lst x6 hl5
  have r5 := r5.ke W5 x6
  refine ⟨_, rfl, l, o, rfl, hl6, oo, fun wa2 wd2 H7 sm7 hwa2 hw27 => ?_⟩
  have W7 := W6.same sm7
  have x7 : Ke a H6 H7 := Ke.same sm7
  have ta7 := ta6.up x7.mx
  have hw7 := W6.ins x7 hw6
  have r5 := r5.ke W6 x7
  have r6 := r6.ke W6 x7
  refine ⟨_, rfl, go_made (E := C8.E0) W7 ta7 mo fun v8 I8 V8 y8 va8 => ?_⟩
  try unfold tNil
  refine go_text1 (E := C8.E0) V8 ⟨_, W7.ins y8 hw27⟩ va8 mo hc fun q8 H8 W8 z8 r8 => ?_
  have x8 := y8.trans z8
  have ta8 := ta7.up x8.mx
  have hw8 := W7.ins x8 hw7
  have r5 := r5.ke W7 x8
  have r6 := r6.ke W7 x8
  obtain ⟨rr8, S8⟩ := W8.src
  refine ⟨_, rfl, _, rfl, a, c, rr8, 12, mx a H8, rfl, by decide, S8, mx_same a H8, mx_none a H8, fun t2 v2 r9 G9 H9 nw9 sb9 ta9 mo2 hc2 S9 => ?_⟩
  obtain ⟨u8, hu8⟩ := W8.there
  have W9 : WS K a c H9 := ⟨⟨_, S9⟩, src_tabs W8.tb sb9 S8⟩
  have ta29 := mxT nw9 (mx_none a H8) hu8 ta9
  have x9 : Ke a H8 H9 := Ke.sb sb9
  have hw9 := W8.ins x9 hw8
  have ta9 := ta8.up x9.mx
  have r5 := r5.ke W8 x9
  have r6 := r6.ke W8 x9
  have r8 := r8.ke W8 x9
  refine go_made (E := C8.E0) W9 ta29 mo2 fun v10 I10 V10 y10 va10 => ?_
  try unfold tNil
  refine go_text1 (E := C8.E0) V10 ⟨_, W9.ins y10 hw9⟩ va10 mo2 hc2 fun q10 H10 W10 z10 r10 => ?_
  have x10 := y10.trans z10
  have ta10 := ta9.up x10.mx
  have hw10 := W9.ins x10 hw9
  have r5 := r5.ke W9 x10
  have r6 := r6.ke W9 x10
  have r8 := r8.ke W9 x10
  -- other[0] is not 'odd'
  obtain ⟨so, uo, vo, hq10, hso⟩ : ∃ (so : Str) (uo vo : V), H10 q10 = some (.tup [.str so, uo, vo]) ∧ (so = "no" ∨ so = "text") := by
    unfold Res at r10
    cases e : rawN o 61 t2 [] with
    | error er =>
      rw [e] at r10
      obtain ⟨pp, h1, _⟩ := r10
      exact ⟨_, _, _, h1, .inl rfl⟩
    | ok y =>
      rw [e] at r10
      obtain ⟨ee, z, h1, _⟩ := r10
      exact ⟨_, _, _, h1, .inr rfl⟩
  refine ⟨_, rfl, q10, _, _, _, rfl, rfl, SqT.of hq10, rfl, rfl, _, rfl, ?_⟩
  rw [q_odd so hso]
  refine iteF ?_
  refine ⟨_, rfl, _, rfl, resD o t, resD o t, res_dp r8, res_dp r6, res_shaped mo, res_shaped mo, _, rfl, ?_⟩
  rw [res_eqv]
  refine iteF ?_
  refine ⟨_, rfl, _, rfl, go_made (E := C8.E0) W10 ta10 mo fun v11 I11 V11 y11 va11 => ?_⟩
  try unfold tNil
  refine go_text1 (E := C8.E0) V11 ⟨_, W10.ins y11 hw10⟩ va11 mo hc fun q11 H11 W11 z11 r11 => ?_
  have x11 := y11.trans z11
  have r5 := r5.ke W10 x11
  have r6 := r6.ke W10 x11
  refine ⟨_, rfl, resD o t, resD o t, res_dp r11, res_dp r6, res_shaped mo, res_shaped mo, _, rfl, ?_⟩
  rw [res_eqv]
  refine iteF ?_
  unfold ResR at r5
  unfold Res at r6
  cases e : rawN o 61 t [] with
  | error er =>
    rw [e] at r5 r6
    obtain ⟨p5, h5, hp5⟩ := r5
    obtain ⟨p6, h6, hp6⟩ := r6
    obtain ⟨_, _, e3⟩ := raw_fail mo (fun k hk => by cases hk) e
    refine ⟨_, rfl, q5, _, _, _, rfl, rfl, SqT.of h5, rfl, rfl, _, rfl, ?_⟩
    rw [show decide (V.str "no" = V.str "raw") = false by decide +kernel]
    refine iteT ?_
    refine ⟨_, rfl, q5, _, _, _, rfl, rfl, SqT.of h5, rfl, rfl, _, rfl, ?_⟩
    rw [decide_eq_true rfl]
    refine iteF ?_
    refine ⟨_, rfl, q6, _, _, _, rfl, rfl, SqT.of h6, rfl, rfl, _, rfl, ?_⟩
    rw [decide_eq_true rfl]
    refine iteF ?_
    refine ⟨_, rfl, q6, _, _, _, rfl, rfl, SqT.of h6, rfl, _, rfl, q5, _, _, _, rfl, rfl, SqT.of h5, rfl, rfl, _, rfl, ?_⟩
    rw [decide_eq_true rfl]
    refine iteF ?_
    obtain ⟨ty, tx, _, h2, _⟩ := (ty_tup (H := H11) T2 hp5).ex
    refine ⟨_, rfl, q5, _, _, _, rfl, rfl, SqT.of h5, rfl, _, _, _, _, true, rfl, .ty "tuple", tx, h2, _, rfl, iteT ?_⟩
    exact ⟨_, rfl, q6, _, _, _, rfl, rfl, SqT.of h6, rfl, _, rfl, q5, _, _, _, rfl, rfl, SqT.of h5, rfl, p5, _, rfl, .inr (SqT.of hp5), fun l2 hl2 => ⟨p6, l2, er.2, rfl, same_put hl2 _ _ _ hp6, upd_same, Nat.le_trans e3 (by decide), q _⟩⟩
  | ok y =>
    rw [e] at r5 r6
    obtain ⟨v5, h5, ta⟩ := r5
    obtain ⟨e6, z6, h6, he6, hz⟩ := r6
    obtain ⟨c1, ro⟩ := raw_ok mo e
    have tlen := text_len ro
    have zlen : z6.length = (textN 61 y).length := by rw [len_tl, hz]
    refine ⟨_, rfl, q5, _, _, _, rfl, rfl, SqT.of h5, rfl, rfl, _, rfl, ?_⟩
    rw [decide_eq_true rfl]
    refine iteF ?_
    refine ⟨_, rfl, q6, _, _, _, rfl, rfl, SqT.of h6, rfl, rfl, _, rfl, ?_⟩
    rw [decide_eq_true rfl]
    refine iteF ?_
    obtain ⟨ty, tx, _, _, h3, _⟩ := (ty_str (H := H11) T2 z6).ex
    refine ⟨_, rfl, q6, _, _, _, rfl, rfl, SqT.of h6, rfl, _, _, _, _, true, rfl, .ty "str", tx, h3, _, rfl, iteF ?_⟩
    refine ⟨_, rfl, q6, _, _, _, rfl, rfl, SqT.of h6, rfl, ⟨_, rfl⟩, _, rfl, q5, _, _, _, rfl, rfl, SqT.of h5, rfl, y, v5, mx a H11, rfl, mx_same a H11, ta, ro, by omega, fun lT us H12 hus une hfl hlen tok sm => ?_⟩
    have zj : tl z6 = tl (Txt.join "" us) := by rw [hz, tl_join0, hfl]
    refine ⟨_, lT, us, rfl, rfl, .inl (SqL.of hus), ?_, rfl, _, rfl, ?_⟩
    · rw [flat_len, hfl, show ("" : Str).length = 0 by decide +kernel]
      omega
    rw [ext_tl zj, decide_eq_true rfl]
    refine iteF ?_
    have h5 := sm _ _ h5
    have h6 := sm _ _ h6
    refine ⟨_, rfl, q5, _, _, _, rfl, rfl, SqT.of h5, rfl, _, rfl, q6, _, _, _, rfl, rfl, SqT.of h6, rfl, z6, y, mx a H11, rfl, hz, ro, by omega, (mx_same a H11).trans sm, fun v7 G7 H13 nw ta7 => ?_⟩
    exact ⟨y, v5, v7, G7, rfl, nw.le, ta.up nw.up, ta7, ro, q _⟩
end
end K25
set_option Elab.async false
set_option linter.all false
set_option maxRecDepth 100000
set_option maxHeartbeats 4000000
/-! THE HEAD: what is looked at, what it tells (printed by kh1.py) -/
namespace K25
open PySem PySem.Spec PyProof.Rows L2 C8 SX TL LamX
/-! ### the Hook: the names' part of the heap and the interpreter's statics, empty tables left out -/
def refsY (o : Obj) : List Addr := match o.data with
  | .fields _ => []
  | _ => He.refsD o
def moreY (g : Addr → Option Obj) (as : List Addr) : List Addr := (as.flatMap fun a => match g a with
  | some o => refsY o
  | none => []).eraseDups
/-- the names' objects, what they name, and so on n times (what is met twice stands twice) -/
def asN (g : Addr → Option Obj) : Nat → List Addr → List Addr
  | 0, as => as
  | n + 1, as => as ++ asN g n (moreY g as)
def asY (g : Addr → Option Obj) (n : Nat) : List Addr := asN g n [mainGlobals] ++ [cStatics]
abbrev frY (g : Addr → Option Obj) (n : Nat) : PySem.W.Frag := He.frT g (asY g n)
section
variable {n : Nat} {fa : List He.Fa} {fn : List He.DefD} {ts : List He.Tab} {tf : List He.Defn} {ex : PySem.W.Frag → Bool} {w : World} {h : Heap}
def obsY (n : Nat) (fa : List He.Fa) (fn : List He.DefD) (ts : List He.Tab) (tf : List He.Defn) (ex : PySem.W.Frag → Bool) (g : Addr → Option Obj) : He.AlX := (He.obsT fa fn ts (frY g n), ex (frY g n) && He.tabsB g tf (frY g n))
theorem saysY_of (e : obsY n fa fn ts tf ex h.get? = He.valX fn ts w) : He.SaysX fa fn ts tf ex w h (frY h.get? n) := by
  obtain ⟨h1, h2⟩ := He.ba (show (ex (frY h.get? n) && He.tabsB h.get? tf (frY h.get? n)) = true from congrArg (fun z : He.AlX => z.2) e)
  have at_ : ∀ p ∈ tf, PySem.W.codeHdIn (frY h.get? n) (He.cT (frY h.get? n) p).1 (He.cT (frY h.get? n) p).2 = true ∧ ∃ o, h.get? (He.cT (frY h.get? n) p).2 = some o ∧ He.emptyTab o = true := fun p hp => by
    obtain ⟨h3, h4⟩ := He.ba (List.all_eq_true.mp h2 p hp)
    cases q : h.get? (He.cT (frY h.get? n) p).2 with
    | none => rw [q] at h4; cases h4
    | some o => rw [q] at h4; exact ⟨h3, o, rfl, h4⟩
  refine ⟨congrArg (fun z : He.AlX => z.1) e, h1, fun p hp => (at_ p hp).1, fun p hp => ?_, fun p hp => ?_⟩
  · obtain ⟨_, o, q, z⟩ := at_ p hp
    exact He.frT_none q z
  · obtain ⟨_, o, q, z⟩ := at_ p hp
    rw [q, He.emptyTab_eq z]
def hookY (n : Nat) (fa : List He.Fa) (fn : List He.DefD) (ts : List He.Tab) (tf : List He.Defn) (ex : PySem.W.Frag → Bool) : PySem.W.Hook where
  α := He.AlX
  obs := fun s => obsY n fa fn ts tf ex s.heap.get?
  val := fun w => He.valX fn ts w
  says := fun w h => ∃ K : PySem.W.Frag, K.In h ∧ He.SaysX fa fn ts tf ex w h K
  of := fun _ _ e => ⟨_, He.frT_in, saysY_of e⟩
  keeps := fun _ _ _ ⟨K, hK, c⟩ k => ⟨K, PySem.W.Frag.In.keeps hK k, ⟨c.t, c.more, c.hd, c.out, fun p hp => k _ _ (c.empty p hp)⟩⟩
theorem obsY_eq {g : Addr → Option Obj} {s : Shared} (h : ∀ a, g a = s.heap.get? a) : obsY n fa fn ts tf ex g = (hookY n fa fn ts tf ex).obs s := by
  have e : g = s.heap.get? := funext h
  rw [e] <;> rfl
end
/-! ### Bools of one's own -/
def elemAt (K : PySem.W.Frag) (a : Addr) (i : Nat) : Addr := match K.lookup a with
  | some ⟨_, _, .seq its _, _⟩ => (match its.toList[i]? with
    | some (.ref b) => b
    | _ => 0)
  | _ => 0
def ktupB (K : PySem.W.Frag) (a : Addr) (vs : List V) : Bool := match K.lookup a with
  | some ⟨.type c, _, .seq its _, _⟩ => decide (c = "tuple") && (decide (its.size ≤ sizeLine) && He.relAll vs its.toList)
  | _ => false
theorem ktupB_ok {K : PySem.W.Frag} {a : Addr} {vs : List V} (h : ktupB K a vs = true) : KTup K a vs := by
  unfold ktupB at h
  cases q : K.lookup a with
  | none => rw [q] at h; cases h
  | some o =>
    obtain ⟨oc, od, dt, osl⟩ := o
    rw [q] at h
    cases oc with
    | type c =>
      cases dt with
      | seq its n =>
        obtain ⟨h1, h2⟩ := He.ba (show (decide (c = "tuple") && (decide (its.size ≤ sizeLine) && He.relAll vs its.toList)) = true from h)
        obtain ⟨h3, h4⟩ := He.ba h2
        exact ⟨_, its, n, q, congrArg Value.type (of_decide_eq_true h1), rfl, of_decide_eq_true h3, He.relAll_ok h4⟩
      | _ => cases h
    | _ => cases dt <;> cases h
def tyB (K : PySem.W.Frag) (C : Addr) : Bool := He.eqO (PySem.W.findIn K (.ref C) "__class__") (some (some (.builtin "object.__class__"))) && (He.eqO (PySem.W.specialIn K (.builtin "object.__class__") "__get__") (some (some (.builtin "getset_descriptor.__get__"))) &&
  (decide (PySem.W.takesIn K (.builtin "object.__class__") = some true) && decide (PySem.W.mroIn K C (.type "object") = some true)))
theorem tyB_ok {K : PySem.W.Frag} {C : Addr} (c : Cls K C) (h : tyB K C = true) : TyC K C := by
  obtain ⟨h1, h⟩ := He.ba h
  obtain ⟨h2, h⟩ := He.ba h
  obtain ⟨h3, h4⟩ := He.ba h
  exact ⟨c, He.eqO_ok h1, He.eqO_ok h2, of_decide_eq_true h3, of_decide_eq_true h4⟩
def oexB (K : PySem.W.Frag) (C : Addr) : Bool := match K.lookup C with
  | some ⟨.type c, _, .cls cd, sl⟩ => (match cd.mro, sl.toList with
    | .ref C' :: bm, [_, _, _, _, some (.builtin i), _] => decide (c = "type") && (decide (C' = C) && (decide (i = "ValueError.__new__") && (!cd.hasDel && (cd.hasDict && PySem.HandSPX.refsVE bm))))
    | _, _ => false)
  | _ => false
theorem oexB_ok {K : PySem.W.Frag} {C : Addr} (h : oexB K C = true) : ∃ nm q N bs bm sn sub ab col dd k0 k1 k2 k3 k5, K.lookup C = some (excClassObj nm q C N bs bm true sn sub ab col dd k0 k1 k2 k3 k5 "ValueError.__new__") ∧ PySem.HandSPX.refsVE bm = true := by
  unfold oexB at h
  split at h
  · rename_i c dd cd sl ho
    split at h
    · rename_i C' bm k0 k1 k2 k3 i k5 hm hs
      obtain ⟨h1, h⟩ := He.ba h
      obtain ⟨h2, h⟩ := He.ba h
      obtain ⟨h3, h⟩ := He.ba h
      obtain ⟨h4, h⟩ := He.ba h
      obtain ⟨h5, h6⟩ := He.ba h
      have h1 := of_decide_eq_true h1
      have h2 := of_decide_eq_true h2
      have h3 := of_decide_eq_true h3
      subst h1 h2 h3
      obtain ⟨nm, bs, mro, ns, qn, hd, sn, sub, ab, col, del⟩ := cd
      dsimp only at hm h4 h5
      have h4 : del = false := by
        cases del with
        | false => rfl
        | true => cases h4
      subst hm h4 h5
      have hsl : sl = #[k0, k1, k2, k3, some (.builtin "ValueError.__new__"), k5] := by
        obtain ⟨l⟩ := sl
        simp only at hs
        rw [hs]
      subst hsl
      exact ⟨nm, qn, ns, bs, bm, sn, sub, ab, col, dd, k0, k1, k2, k3, k5, ho, h6⟩
    · cases h
  · cases h
def excB (K : PySem.W.Frag) (C : Addr) : Bool := PySem.W.keepIn K (.ref C) && (decide (PySem.W.subIn K (.ref C) (.type "BaseException") = some true) && decide (PySem.W.typeIn K (.ref C) = some (.type "type")))
theorem excB_ok {K : PySem.W.Frag} {C : Addr} (h : excB K C = true) : PySem.W.keepIn K (.ref C) = true ∧ PySem.W.subIn K (.ref C) (.type "BaseException") = some true ∧ PySem.W.typeIn K (.ref C) = some (.type "type") :=
  ⟨(He.ba h).1, of_decide_eq_true (He.ba (He.ba h).2).1, of_decide_eq_true (He.ba (He.ba h).2).2⟩
def wordAt (K : PySem.W.Frag) (x : Str) : Addr := match PySem.W.nsIn K (He.ga K "WORDS") x with
  | some (some (.ref a)) => a
  | _ => 0
def wordB (K : PySem.W.Frag) (x u : Str) (v : V) : Bool := He.eqO (PySem.W.nsIn K (He.ga K "WORDS") x) (some (some (.ref (wordAt K x)))) && ktupB K (wordAt K x) [.str u, v]
theorem wordB_ok {K : PySem.W.Frag} {w : World} {x u : Str} {v : V} {es : Array DictEntry} {n : Nat} (k : KDict K w (He.ga K "WORDS") es n) (h : wordB K x u v = true) : ∃ q, KDct K w (He.ga K "WORDS") x (.ref q) ∧ KTup K q [.str u, v] := by
  obtain ⟨h1, h2⟩ := He.ba h
  exact ⟨wordAt K x, ⟨es, n, _, k.at_, k.lit, He.eqO_ok h1, rfl⟩, ktupB_ok h2⟩
def optAt (K : PySem.W.Frag) (i : Nat) : Addr × Addr := (elemAt K (He.ga K "WRITER_OPTIONS") i, elemAt K (elemAt K (He.ga K "WRITER_OPTIONS") i) 1)
def optB1 (K : PySem.W.Frag) (i : Nat) (e : Str × List Str) : Bool := ktupB K (optAt K i).1 [.str e.1, .ref (optAt K i).2] && ktupB K (optAt K i).2 (e.2.map V.str)
theorem optB1_ok {K : PySem.W.Frag} {i : Nat} {e : Str × List Str} (h : optB1 K i e = true) : KTup K (optAt K i).1 [.str e.1, .ref (optAt K i).2] ∧ KTup K (optAt K i).2 (e.2.map V.str) := ⟨ktupB_ok (He.ba h).1, ktupB_ok (He.ba h).2⟩
def optsAt (K : PySem.W.Frag) : List (Addr × Addr) := [optAt K 0, optAt K 1, optAt K 2, optAt K 3, optAt K 4, optAt K 5]
def optsB (K : PySem.W.Frag) : Bool := ktupB K (He.ga K "WRITER_OPTIONS") ((optsAt K).map fun q => V.ref q.1) && (optB1 K 0 ("number_keys", ["text", "skip", "refuse"]) && (optB1 K 1 ("tuples", ["list", "refuse"]) && (optB1 K 2 ("nulls", ["keep", "skip"]) && (optB1 K 3 ("double_keys", ["keep", "refuse"]) && (optB1 K 4 ("order", ["keep", "rising"]) && optB1 K 5 ("long_numbers", ["keep", "text", "refuse"]))))))
theorem optsB_ok {K : PySem.W.Frag} (h : optsB K = true) : ∃ os : List (Addr × Addr), KTup K (He.ga K "WRITER_OPTIONS") (os.map fun q => V.ref q.1) ∧ Paired (fun (e : Str × List Str) (q : Addr × Addr) => KTup K q.1 [.str e.1, .ref q.2] ∧ KTup K q.2 (e.2.map V.str)) optTab os := by
  obtain ⟨h0, h⟩ := He.ba h
  obtain ⟨h1, h⟩ := He.ba h
  obtain ⟨h2, h⟩ := He.ba h
  obtain ⟨h3, h⟩ := He.ba h
  obtain ⟨h4, h⟩ := He.ba h
  obtain ⟨h5, h6⟩ := He.ba h
  exact ⟨optsAt K, ktupB_ok h0, .cons (optB1_ok h1) (.cons (optB1_ok h2) (.cons (optB1_ok h3) (.cons (optB1_ok h4) (.cons (optB1_ok h5) (.cons (optB1_ok h6) .nil)))))⟩
def digAt (K : PySem.W.Frag) : Value := match PySem.W.findCls K (.ref (WC K)) (.type "type") "DIGITS" with
  | some (.val u) => u
  | _ => .none
def digB (K : PySem.W.Frag) : Bool := PySem.W.readsIn K (WC K) (.type "type") && (He.eqO (PySem.W.specialIn K (.ref (WC K)) "__getattribute__") (some (some (.builtin "type.__getattribute__"))) && ((match PySem.W.findCls K (.ref (WC K)) (.type "type") "DIGITS" with
  | some (.val _) => true
  | _ => false) && He.relB (.int 15) (digAt K)))
theorem digB_ok {K : PySem.W.Frag} (h : digB K = true) : ∃ (mc : Value) (u : Value), ClX.CRead K (WC K) mc ∧ ClX.CVal K (WC K) mc "DIGITS" (.int 15) u := by
  obtain ⟨h1, h⟩ := He.ba h
  obtain ⟨h2, h⟩ := He.ba h
  obtain ⟨h3, h4⟩ := He.ba h
  refine ⟨.type "type", digAt K, ⟨h1, He.eqO_ok h2⟩, ⟨?_, He.relB_ok h4⟩⟩
  unfold digAt
  split at h3
  · rename_i u e
    rw [e]
  · cases h3
def exB (K : PySem.W.Frag) : Bool := tyB K (TC K) && (tyB K (WC K) && ((baseTys.all fun a => decide (PySem.W.kitOne K (.type a) (.ref (TC K)) = some false)) && ((baseTys.all fun a => decide (PySem.W.kitOne K (.ref (TC K)) (.type a) = some false)) && (optsB K && (oexB K (UC K) &&
  (He.eqO (PySem.W.findIn K (.ref (UC K)) "__setattr__") (some (some (.builtin "object.__setattr__"))) && (He.eqO (PySem.W.findIn K (.ref (UC K)) "__init__") (some (some (.ref (He.ma K (UC K) "__init__")))) && (decide (PySem.W.typeIn K (.ref (He.ma K (UC K) "__init__")) = some (.type "function")) &&
  (excB K (UC K) && (L2.xfB K (UC K) && (digB K && (wordB K "n" "null" .non && (wordB K "t" "true" (.bl true) && wordB K "f" "false" (.bl false))))))))))))))
/-! ### the defs, the facts -/
def mkD (x : Str) (st : Stmt) : He.DefD := ⟨(x, none), x, x, defArgs st, defBody st, defScope st, [], []⟩
def mkM (C m q : Str) (st : Stmt) (dfl : List He.Dv) (kwd : List (Str × He.Dv)) : He.DefD := ⟨(C, some m), m, q, defArgs st, defBody st, defScope st, dfl, kwd⟩
def fnL : List He.DefD := [mkD "_law_source" (top 32),
  mkD "_law_more" (top 33),
  mkD "_law_draw" (top 34),
  mkD "_law_number" (top 35),
  mkD "_law_sign" (top 36),
  mkD "_law_text" (top 37),
  mkD "_law_key" (top 38),
  mkD "_law_digits" (top 39),
  mkD "_law_twin" (top 40),
  mkD "_law_keys" (top 41),
  mkD "_law_leaf" (top 42),
  mkD "_law_model" (top 43),
  mkD "_law_deep" (top 44),
  mkD "_law_made" (top 45),
  mkD "_law_pick" (top 46),
  mkD "_law_writing" (top 47),
  mkD "_law_writer" (top 48),
  mkD "_law_atoms" (top 49),
  mkD "_law_pair" (top 50),
  mkD "_law_raw_alike" (top 51),
  mkD "_law_path_is" (top 52),
  mkD "_law_raw_of" (top 53),
  mkD "_law_own_string" (top 54),
  mkD "_law_tokens" (top 55),
  mkD "_law_text_of" (top 56),
  mkD "law" (top 57),
  mkD "render_string" (top 14),
  mkD "render" (top 15),
  mkD "parse" (top 17),
  mkD "is_integer" (top 19),
  mkD "fresh" (top 21),
  mkD "key_text" (top 28),
  mkD "check_options" (top 29),
  mkM "Writer" "raw" "Writer.raw" (inClass (top 30) 3) [] [],
  mkM "Writer" "write" "Writer.write" (inClass (top 30) 4) [] [],
  mkM "Writer" "raw_at" "Writer.raw_at" (inClass (top 30) 5) [] [],
  mkM "Writer" "kept_entries" "Writer.kept_entries" (inClass (top 30) 6) [] [],
  mkM "Writer" "raw_pairs" "Writer.raw_pairs" (inClass (top 30) 7) [] [],
  mkM "Scanner" "here" "Scanner.here" (inClass (top 16) 1) [] [],
  mkM "Scanner" "skip_blanks" "Scanner.skip_blanks" (inClass (top 16) 2) [] [],
  mkM "Scanner" "expect" "Scanner.expect" (inClass (top 16) 3) [] [],
  mkM "Scanner" "read_word" "Scanner.read_word" (inClass (top 16) 4) [] [],
  mkM "Scanner" "read_number" "Scanner.read_number" (inClass (top 16) 5) [] [],
  mkM "Scanner" "read_string" "Scanner.read_string" (inClass (top 16) 6) [] [],
  mkM "Scanner" "read_value" "Scanner.read_value" (inClass (top 16) 7) [] [],
  mkM "Scanner" "read_member" "Scanner.read_member" (inClass (top 16) 8) [] [],
  mkM "Scanner" "read_members" "Scanner.read_members" (inClass (top 16) 9) [] [],
  mkM "Table" "__init__" "Table.__init__" (inClass (top 25) 0) [.adr (He.dflAt ("Table", some "__init__") 0)] [],
  mkM "Writer" "__init__" "Writer.__init__" (inClass (top 30) 1) [] [("number_keys", .str "text"), ("tuples", .str "list"), ("nulls", .str "keep"), ("double_keys", .str "keep"), ("order", .str "keep"), ("long_numbers", .str "keep")],
  mkM "Unwritable" "__init__" "Unwritable.__init__" (inClass (top 9) 0) [] [],
  mkM "Scanner" "__init__" "Scanner.__init__" (inClass (top 16) 0) [] []]
def faL : List He.Fa := [.glo "_law_source", .glo "_law_more", .glo "_law_draw", .glo "_law_number", .glo "_law_sign", .glo "_law_text", .glo "_law_key", .glo "_law_digits", .glo "_law_twin", .glo "_law_keys", .glo "_law_leaf", .glo "_law_model", .glo "_law_deep", .glo "_law_made", .glo "_law_pick", .glo "_law_writing", .glo "_law_writer", .glo "_law_atoms", .glo "_law_pair", .glo "_law_raw_alike", .glo "_law_path_is", .glo "_law_raw_of", .glo "_law_own_string", .glo "_law_tokens", .glo "_law_text_of", .glo "law", .glo "render_string", .glo "render", .glo "parse", .glo "is_integer", .glo "fresh", .glo "key_text", .glo "check_options", .free "len", .free "isinstance", .free "int", .free "str", .free "abs", .free "range", .free "tuple", .free "list", .free "set", .free "bool", .free "sorted", .free "zip", .free "enumerate", .glo "Table", .glo "Writer", .glo "WRITER_OPTIONS", .glo "Unwritable", .glo "KeysError", .glo "Scanner", .glo "WORDS", .cls "Table", .mkr "Table", .cls "Writer", .mkr "Writer", .cls "Scanner", .mkr "Scanner", .noat "Table" "held", .noat "Writer" "number_keys", .noat "Writer" "tuples", .noat "Writer" "nulls", .noat "Writer" "double_keys", .noat "Writer" "order", .noat "Writer" "long_numbers", .noat "Scanner" "text", .noat "Scanner" "at", .noat "Scanner" "depth", .noat "Unwritable" "reason", .noat "Unwritable" "path", .exm "Unwritable" "Unwritable" true, .int "DEEPEST" 60, .int "MOST_DIGITS" 30, .meth "Writer" "raw", .meth "Writer" "write", .meth "Writer" "raw_at", .meth "Writer" "kept_entries", .meth "Writer" "raw_pairs", .meth "Scanner" "here", .meth "Scanner" "skip_blanks", .meth "Scanner" "expect", .meth "Scanner" "read_word", .meth "Scanner" "read_number", .meth "Scanner" "read_string", .meth "Scanner" "read_value", .meth "Scanner" "read_member", .meth "Scanner" "read_members"]
def tsL : List He.Tab := [((fun K => He.ga K "WORDS"), ["n", "t", "f"])]
def tfL : List He.Defn := [wKept]
theorem txt4 {w : World} {K : PySem.W.Frag} {h : Heap} {mg : Str → Option Value} (X : K.In h) (G : h.Ns mainGlobals mg) (S : He.SaysX faL fnL tsL tfL exB w h K) : Txt4 w K mg := by
  have c := S.t.d
  have m := S.more
  obtain ⟨es, n, kd⟩ := S.t.tab 0 (t := ((fun K => He.ga K "WORDS"), ["n", "t", "f"])) rfl
  obtain ⟨m1, m⟩ := He.ba m
  obtain ⟨m2, m⟩ := He.ba m
  obtain ⟨m3, m⟩ := He.ba m
  obtain ⟨m4, m⟩ := He.ba m
  obtain ⟨m5, m⟩ := He.ba m
  obtain ⟨m6, m⟩ := He.ba m
  obtain ⟨m7, m⟩ := He.ba m
  obtain ⟨m8, m⟩ := He.ba m
  obtain ⟨m9, m⟩ := He.ba m
  obtain ⟨mE, m⟩ := He.ba m
  obtain ⟨m10, m⟩ := He.ba m
  obtain ⟨m11, m⟩ := He.ba m
  obtain ⟨m12, m⟩ := He.ba m
  obtain ⟨m13, m14⟩ := He.ba m
  have t1 : Txt K mg := {
    n_len := He.free_ok X G (c.fact 33 (f := .free "len") rfl)
    n_isinstance := He.free_ok X G (c.fact 34 (f := .free "isinstance") rfl)
    n_int := He.free_ok X G (c.fact 35 (f := .free "int") rfl)
    n_str := He.free_ok X G (c.fact 36 (f := .free "str") rfl)
    n_abs := He.free_ok X G (c.fact 37 (f := .free "abs") rfl)
    n_range := He.free_ok X G (c.fact 38 (f := .free "range") rfl)
    n_tuple := He.free_ok X G (c.fact 39 (f := .free "tuple") rfl)
    n_list := He.free_ok X G (c.fact 40 (f := .free "list") rfl)
    n_set := He.free_ok X G (c.fact 41 (f := .free "set") rfl)
    n_bool := He.free_ok X G (c.fact 42 (f := .free "bool") rfl)
    n_sorted := He.free_ok X G (c.fact 43 (f := .free "sorted") rfl)
    n_zip := He.free_ok X G (c.fact 44 (f := .free "zip") rfl)
    n_enumerate := He.free_ok X G (c.fact 45 (f := .free "enumerate") rfl)
    f_source := ⟨by obtain ⟨fd, F⟩ := (c.def_ 0 (d := mkD "_law_source" (top 32)) rfl); exact ⟨_, fd, F, (He.glo_ok X G (c.fact 0 (f := .glo "_law_source") rfl))⟩⟩
    f_more := ⟨by obtain ⟨fd, F⟩ := (c.def_ 1 (d := mkD "_law_more" (top 33)) rfl); exact ⟨_, fd, F, (He.glo_ok X G (c.fact 1 (f := .glo "_law_more") rfl))⟩⟩
    f_draw := ⟨by obtain ⟨fd, F⟩ := (c.def_ 2 (d := mkD "_law_draw" (top 34)) rfl); exact ⟨_, fd, F, (He.glo_ok X G (c.fact 2 (f := .glo "_law_draw") rfl))⟩⟩
    f_number := ⟨by obtain ⟨fd, F⟩ := (c.def_ 3 (d := mkD "_law_number" (top 35)) rfl); exact ⟨_, fd, F, (He.glo_ok X G (c.fact 3 (f := .glo "_law_number") rfl))⟩⟩
    f_sign := ⟨by obtain ⟨fd, F⟩ := (c.def_ 4 (d := mkD "_law_sign" (top 36)) rfl); exact ⟨_, fd, F, (He.glo_ok X G (c.fact 4 (f := .glo "_law_sign") rfl))⟩⟩
    f_text := ⟨by obtain ⟨fd, F⟩ := (c.def_ 5 (d := mkD "_law_text" (top 37)) rfl); exact ⟨_, fd, F, (He.glo_ok X G (c.fact 5 (f := .glo "_law_text") rfl))⟩⟩
    f_key := ⟨by obtain ⟨fd, F⟩ := (c.def_ 6 (d := mkD "_law_key" (top 38)) rfl); exact ⟨_, fd, F, (He.glo_ok X G (c.fact 6 (f := .glo "_law_key") rfl))⟩⟩
    f_digits := ⟨by obtain ⟨fd, F⟩ := (c.def_ 7 (d := mkD "_law_digits" (top 39)) rfl); exact ⟨_, fd, F, (He.glo_ok X G (c.fact 7 (f := .glo "_law_digits") rfl))⟩⟩
    f_twin := ⟨by obtain ⟨fd, F⟩ := (c.def_ 8 (d := mkD "_law_twin" (top 40)) rfl); exact ⟨_, fd, F, (He.glo_ok X G (c.fact 8 (f := .glo "_law_twin") rfl))⟩⟩
    f_keys := ⟨by obtain ⟨fd, F⟩ := (c.def_ 9 (d := mkD "_law_keys" (top 41)) rfl); exact ⟨_, fd, F, (He.glo_ok X G (c.fact 9 (f := .glo "_law_keys") rfl))⟩⟩
    f_leaf := ⟨by obtain ⟨fd, F⟩ := (c.def_ 10 (d := mkD "_law_leaf" (top 42)) rfl); exact ⟨_, fd, F, (He.glo_ok X G (c.fact 10 (f := .glo "_law_leaf") rfl))⟩⟩
    f_model := ⟨by obtain ⟨fd, F⟩ := (c.def_ 11 (d := mkD "_law_model" (top 43)) rfl); exact ⟨_, fd, F, (He.glo_ok X G (c.fact 11 (f := .glo "_law_model") rfl))⟩⟩
    f_deep := ⟨by obtain ⟨fd, F⟩ := (c.def_ 12 (d := mkD "_law_deep" (top 44)) rfl); exact ⟨_, fd, F, (He.glo_ok X G (c.fact 12 (f := .glo "_law_deep") rfl))⟩⟩
    f_made := ⟨by obtain ⟨fd, F⟩ := (c.def_ 13 (d := mkD "_law_made" (top 45)) rfl); exact ⟨_, fd, F, (He.glo_ok X G (c.fact 13 (f := .glo "_law_made") rfl))⟩⟩
    f_pick := ⟨by obtain ⟨fd, F⟩ := (c.def_ 14 (d := mkD "_law_pick" (top 46)) rfl); exact ⟨_, fd, F, (He.glo_ok X G (c.fact 14 (f := .glo "_law_pick") rfl))⟩⟩
    f_writing := ⟨by obtain ⟨fd, F⟩ := (c.def_ 15 (d := mkD "_law_writing" (top 47)) rfl); exact ⟨_, fd, F, (He.glo_ok X G (c.fact 15 (f := .glo "_law_writing") rfl))⟩⟩
    f_writer := ⟨by obtain ⟨fd, F⟩ := (c.def_ 16 (d := mkD "_law_writer" (top 48)) rfl); exact ⟨_, fd, F, (He.glo_ok X G (c.fact 16 (f := .glo "_law_writer") rfl))⟩⟩
    f_atoms := ⟨by obtain ⟨fd, F⟩ := (c.def_ 17 (d := mkD "_law_atoms" (top 49)) rfl); exact ⟨_, fd, F, (He.glo_ok X G (c.fact 17 (f := .glo "_law_atoms") rfl))⟩⟩
    f_pair := ⟨by obtain ⟨fd, F⟩ := (c.def_ 18 (d := mkD "_law_pair" (top 50)) rfl); exact ⟨_, fd, F, (He.glo_ok X G (c.fact 18 (f := .glo "_law_pair") rfl))⟩⟩
    f_raw_alike := ⟨by obtain ⟨fd, F⟩ := (c.def_ 19 (d := mkD "_law_raw_alike" (top 51)) rfl); exact ⟨_, fd, F, (He.glo_ok X G (c.fact 19 (f := .glo "_law_raw_alike") rfl))⟩⟩
    f_path_is := ⟨by obtain ⟨fd, F⟩ := (c.def_ 20 (d := mkD "_law_path_is" (top 52)) rfl); exact ⟨_, fd, F, (He.glo_ok X G (c.fact 20 (f := .glo "_law_path_is") rfl))⟩⟩
    f_raw_of := ⟨by obtain ⟨fd, F⟩ := (c.def_ 21 (d := mkD "_law_raw_of" (top 53)) rfl); exact ⟨_, fd, F, (He.glo_ok X G (c.fact 21 (f := .glo "_law_raw_of") rfl))⟩⟩
    f_own_string := ⟨by obtain ⟨fd, F⟩ := (c.def_ 22 (d := mkD "_law_own_string" (top 54)) rfl); exact ⟨_, fd, F, (He.glo_ok X G (c.fact 22 (f := .glo "_law_own_string") rfl))⟩⟩
    f_tokens := ⟨by obtain ⟨fd, F⟩ := (c.def_ 23 (d := mkD "_law_tokens" (top 55)) rfl); exact ⟨_, fd, F, (He.glo_ok X G (c.fact 23 (f := .glo "_law_tokens") rfl))⟩⟩
    f_text_of := ⟨by obtain ⟨fd, F⟩ := (c.def_ 24 (d := mkD "_law_text_of" (top 56)) rfl); exact ⟨_, fd, F, (He.glo_ok X G (c.fact 24 (f := .glo "_law_text_of") rfl))⟩⟩
    f_law := ⟨by obtain ⟨fd, F⟩ := (c.def_ 25 (d := mkD "law" (top 57)) rfl); exact ⟨_, fd, F, (He.glo_ok X G (c.fact 25 (f := .glo "law") rfl))⟩⟩
    f_render_string := ⟨by obtain ⟨fd, F⟩ := (c.def_ 26 (d := mkD "render_string" (top 14)) rfl); exact ⟨_, fd, F, (He.glo_ok X G (c.fact 26 (f := .glo "render_string") rfl))⟩⟩
    f_render := ⟨by obtain ⟨fd, F⟩ := (c.def_ 27 (d := mkD "render" (top 15)) rfl); exact ⟨_, fd, F, (He.glo_ok X G (c.fact 27 (f := .glo "render") rfl))⟩⟩
    f_parse := ⟨by obtain ⟨fd, F⟩ := (c.def_ 28 (d := mkD "parse" (top 17)) rfl); exact ⟨_, fd, F, (He.glo_ok X G (c.fact 28 (f := .glo "parse") rfl))⟩⟩
    f_is_integer := ⟨by obtain ⟨fd, F⟩ := (c.def_ 29 (d := mkD "is_integer" (top 19)) rfl); exact ⟨_, fd, F, (He.glo_ok X G (c.fact 29 (f := .glo "is_integer") rfl))⟩⟩
    f_fresh := ⟨by obtain ⟨fd, F⟩ := (c.def_ 30 (d := mkD "fresh" (top 21)) rfl); exact ⟨_, fd, F, (He.glo_ok X G (c.fact 30 (f := .glo "fresh") rfl))⟩⟩
    f_key_text := ⟨by obtain ⟨fd, F⟩ := (c.def_ 31 (d := mkD "key_text" (top 28)) rfl); exact ⟨_, fd, F, (He.glo_ok X G (c.fact 31 (f := .glo "key_text") rfl))⟩⟩
    f_check_options := ⟨by obtain ⟨fd, F⟩ := (c.def_ 32 (d := mkD "check_options" (top 29)) rfl); exact ⟨_, fd, F, (He.glo_ok X G (c.fact 32 (f := .glo "check_options") rfl))⟩⟩
  }
  have t2 : Txt2 K mg := { t1 with
    g_Table := (He.glo_ok X G (c.fact 46 (f := .glo "Table") rfl))
    g_Writer := (He.glo_ok X G (c.fact 47 (f := .glo "Writer") rfl))
    g_WRITER_OPTIONS := (He.glo_ok X G (c.fact 48 (f := .glo "WRITER_OPTIONS") rfl))
    y_Table := tyB_ok (He.cls_ok (c.fact 53 (f := .cls "Table") rfl)) m1
    y_Writer := tyB_ok (He.cls_ok (c.fact 55 (f := .cls "Writer") rfl)) m2
    i_Table := ⟨_, ⟨He.mkr_ok (c.fact 54 (f := .mkr "Table") rfl), by obtain ⟨fd, F⟩ := (c.def_ 47 (d := mkM "Table" "__init__" "Table.__init__" (inClass (top 25) 0) [.adr (He.dflAt ("Table", some "__init__") 0)] []) rfl); exact ⟨fd, F⟩⟩⟩
    i_Writer := ⟨He.mkr_ok (c.fact 56 (f := .mkr "Writer") rfl), by obtain ⟨fd, F⟩ := (c.def_ 48 (d := mkM "Writer" "__init__" "Writer.__init__" (inClass (top 30) 1) [] [("number_keys", .str "text"), ("tuples", .str "list"), ("nulls", .str "keep"), ("double_keys", .str "keep"), ("order", .str "keep"), ("long_numbers", .str "keep")]) rfl); exact ⟨fd, F⟩⟩
    na_Table := He.noat_ok (c.fact 59 (f := .noat "Table" "held") rfl)
    na_Writer := by
      intro f hf
      simp only [optTab, List.map_cons, List.map_nil, List.mem_cons, List.not_mem_nil, or_false] at hf
      rcases hf with rfl | rfl | rfl | rfl | rfl | rfl
      · exact He.noat_ok (c.fact 60 (f := .noat "Writer" "number_keys") rfl)
      · exact He.noat_ok (c.fact 61 (f := .noat "Writer" "tuples") rfl)
      · exact He.noat_ok (c.fact 62 (f := .noat "Writer" "nulls") rfl)
      · exact He.noat_ok (c.fact 63 (f := .noat "Writer" "double_keys") rfl)
      · exact He.noat_ok (c.fact 64 (f := .noat "Writer" "order") rfl)
      · exact He.noat_ok (c.fact 65 (f := .noat "Writer" "long_numbers") rfl)
    kT := fun a ha => of_decide_eq_true (List.all_eq_true.mp m3 a ha)
    kT2 := fun a ha => of_decide_eq_true (List.all_eq_true.mp m4 a ha)
    w_opts := optsB_ok m5 }
  have t3 : Txt3 K mg := { t2 with
    g_Unwritable := (He.glo_ok X G (c.fact 49 (f := .glo "Unwritable") rfl))
    g_KeysError := (He.glo_ok X G (c.fact 50 (f := .glo "KeysError") rfl))
    u_cls := ⟨oexB_ok m6, He.eqO_ok m7, (excB_ok mE).2.1, (excB_ok mE).2.2, (excB_ok mE).1⟩
    u_init := He.eqO_ok m8
    u_ty := of_decide_eq_true m9
    u_fd := by obtain ⟨fd, F⟩ := (c.def_ 49 (d := mkM "Unwritable" "__init__" "Unwritable.__init__" (inClass (top 9) 0) [] []) rfl); exact ⟨fd, F⟩
    u_r := He.noat_ok (c.fact 69 (f := .noat "Unwritable" "reason") rfl)
    u_p := He.noat_ok (c.fact 70 (f := .noat "Unwritable" "path") rfl)
    u_xf := L2.xfB_ok m10
    u_exm := He.exm_ok (c.fact 71 (f := .exm "Unwritable" "Unwritable" true) rfl)
    w_dig := digB_ok m11
    m_raw := ⟨by obtain ⟨fd, F⟩ := (c.def_ 33 (d := mkM "Writer" "raw" "Writer.raw" (inClass (top 30) 3) [] []) rfl); exact ⟨_, fd, F, He.meth_ok (c.fact 74 (f := .meth "Writer" "raw") rfl)⟩⟩
    m_write := ⟨by obtain ⟨fd, F⟩ := (c.def_ 34 (d := mkM "Writer" "write" "Writer.write" (inClass (top 30) 4) [] []) rfl); exact ⟨_, fd, F, He.meth_ok (c.fact 75 (f := .meth "Writer" "write") rfl)⟩⟩
    m_raw_at := ⟨by obtain ⟨fd, F⟩ := (c.def_ 35 (d := mkM "Writer" "raw_at" "Writer.raw_at" (inClass (top 30) 5) [] []) rfl); exact ⟨_, fd, F, He.meth_ok (c.fact 76 (f := .meth "Writer" "raw_at") rfl)⟩⟩
    m_kept := by
      obtain ⟨fd, F⟩ := (c.def_ 36 (d := mkM "Writer" "kept_entries" "Writer.kept_entries" (inClass (top 30) 6) [] []) rfl)
      obtain ⟨oc, od, dV, kV, doc, pm, an, cdv, ct, osl, e, lk, hc, _, _⟩ := id F.ex
      obtain ⟨c0, ec⟩ := He.codeIn_ref hc
      have e1 : fd.code = .ref c0 := by rw [e]; exact ec
      have e2 : cKept K = c0 := He.codeOf_eq lk e1
      exact ⟨_, fd, F, He.meth_ok (c.fact 77 (f := .meth "Writer" "kept_entries") rfl), by rw [e2]; exact e1⟩
    m_pairs := ⟨by obtain ⟨fd, F⟩ := (c.def_ 37 (d := mkM "Writer" "raw_pairs" "Writer.raw_pairs" (inClass (top 30) 7) [] []) rfl); exact ⟨_, fd, F, He.meth_ok (c.fact 78 (f := .meth "Writer" "raw_pairs") rfl)⟩⟩
  }
  exact { t3 with
    g_Scanner := (He.glo_ok X G (c.fact 51 (f := .glo "Scanner") rfl))
    g_WORDS := (He.glo_ok X G (c.fact 52 (f := .glo "WORDS") rfl))
    y_Scanner := He.cls_ok (c.fact 57 (f := .cls "Scanner") rfl)
    i_Scanner := ⟨He.mkr_ok (c.fact 58 (f := .mkr "Scanner") rfl), by obtain ⟨fd, F⟩ := (c.def_ 50 (d := mkM "Scanner" "__init__" "Scanner.__init__" (inClass (top 16) 0) [] []) rfl); exact ⟨fd, F⟩⟩
    na_Scanner := by
      intro f hf
      simp only [List.mem_cons, List.not_mem_nil, or_false] at hf
      rcases hf with rfl | rfl | rfl
      · exact He.noat_ok (c.fact 66 (f := .noat "Scanner" "text") rfl)
      · exact He.noat_ok (c.fact 67 (f := .noat "Scanner" "at") rfl)
      · exact He.noat_ok (c.fact 68 (f := .noat "Scanner" "depth") rfl)
    s_here := ⟨by obtain ⟨fd, F⟩ := (c.def_ 38 (d := mkM "Scanner" "here" "Scanner.here" (inClass (top 16) 1) [] []) rfl); exact ⟨_, fd, F, He.meth_ok (c.fact 79 (f := .meth "Scanner" "here") rfl)⟩⟩
    s_skip := ⟨by obtain ⟨fd, F⟩ := (c.def_ 39 (d := mkM "Scanner" "skip_blanks" "Scanner.skip_blanks" (inClass (top 16) 2) [] []) rfl); exact ⟨_, fd, F, He.meth_ok (c.fact 80 (f := .meth "Scanner" "skip_blanks") rfl)⟩⟩
    s_expect := ⟨by obtain ⟨fd, F⟩ := (c.def_ 40 (d := mkM "Scanner" "expect" "Scanner.expect" (inClass (top 16) 3) [] []) rfl); exact ⟨_, fd, F, He.meth_ok (c.fact 81 (f := .meth "Scanner" "expect") rfl)⟩⟩
    s_word := ⟨by obtain ⟨fd, F⟩ := (c.def_ 41 (d := mkM "Scanner" "read_word" "Scanner.read_word" (inClass (top 16) 4) [] []) rfl); exact ⟨_, fd, F, He.meth_ok (c.fact 82 (f := .meth "Scanner" "read_word") rfl)⟩⟩
    s_num := ⟨by obtain ⟨fd, F⟩ := (c.def_ 42 (d := mkM "Scanner" "read_number" "Scanner.read_number" (inClass (top 16) 5) [] []) rfl); exact ⟨_, fd, F, He.meth_ok (c.fact 83 (f := .meth "Scanner" "read_number") rfl)⟩⟩
    s_str := ⟨by obtain ⟨fd, F⟩ := (c.def_ 43 (d := mkM "Scanner" "read_string" "Scanner.read_string" (inClass (top 16) 6) [] []) rfl); exact ⟨_, fd, F, He.meth_ok (c.fact 84 (f := .meth "Scanner" "read_string") rfl)⟩⟩
    s_val := ⟨by obtain ⟨fd, F⟩ := (c.def_ 44 (d := mkM "Scanner" "read_value" "Scanner.read_value" (inClass (top 16) 7) [] []) rfl); exact ⟨_, fd, F, He.meth_ok (c.fact 85 (f := .meth "Scanner" "read_value") rfl)⟩⟩
    s_mem := ⟨by obtain ⟨fd, F⟩ := (c.def_ 45 (d := mkM "Scanner" "read_member" "Scanner.read_member" (inClass (top 16) 8) [] []) rfl); exact ⟨_, fd, F, He.meth_ok (c.fact 86 (f := .meth "Scanner" "read_member") rfl)⟩⟩
    s_mems := ⟨by obtain ⟨fd, F⟩ := (c.def_ 46 (d := mkM "Scanner" "read_members" "Scanner.read_members" (inClass (top 16) 9) [] []) rfl); exact ⟨_, fd, F, He.meth_ok (c.fact 87 (f := .meth "Scanner" "read_members") rfl)⟩⟩
    g_DEEPEST := by obtain ⟨t, e⟩ := He.int_ok X G (c.fact 72 (f := .int "DEEPEST" 60) rfl); exact ⟨_, e, t, rfl⟩
    g_MOST_DIGITS := by obtain ⟨t, e⟩ := He.int_ok X G (c.fact 73 (f := .int "MOST_DIGITS" 30) rfl); exact ⟨_, e, t, rfl⟩
    w_n := wordB_ok kd m12
    w_t := wordB_ok kd m13
    w_f := wordB_ok kd m14 }
end K25
set_option Elab.async false
set_option linter.all false
set_option maxRecDepth 100000
set_option maxHeartbeats 0
/-! THE HEAD: the run -/
namespace K25
open PySem PySem.Spec PyProof.Rows L2
abbrev R : PySem.W.OpenRow := PySem.W.OpenLaw.row PySem.Challenge.rw_keysthroughtext_k25_whole_texts_of_value
abbrev hk : PySem.W.Hook := hookY 4 faL fnL tsL tfL exB
def ob (s : PySem.W.SharedT) : He.AlX := obsY 4 faL fnL tsL tfL exB (HandSHeadRun.getT s)
theorem ob_eq (s : PySem.W.SharedT) : ob s = hk.obs s.abs := obsY_eq (HandSHeadRun.getT_eq s)
def loose1 : List PySem.Str := ["_wall", "KeysError", "BadKey", "DoubleKey", "NoKey", "NotText", "TooDeep", "BadOption", "Unwritable", "DEEPEST", "MOST_DIGITS", "WORDS", "render_string", "render", "Scanner", "parse", "is_integer", "kind", "fresh", "same_rows", "same_tables", "same", "Table", "WRITER_OPTIONS", "key_text", "check_options", "Writer"]
def loose2 : List PySem.Str := ["_law_source", "_law_more", "_law_draw", "_law_number", "_law_sign", "_law_text", "_law_key", "_law_digits", "_law_twin", "_law_keys", "_law_leaf", "_law_model", "_law_deep", "_law_made", "_law_pick", "_law_writing", "_law_writer", "_law_atoms", "_law_pair", "_law_raw_alike", "_law_path_is", "_law_raw_of", "_law_own_string", "_law_tokens", "_law_text_of"]
def loose : List PySem.Str := loose1 ++ loose2
theorem run (w : World) : HandSHeadRun.RunEq R (PySem.W.view R.prog [57]) hk ob 6000 loose w := by
  refine PySem.W.byRow2 (P := fun w => HandSHeadRun.RunEq R (PySem.W.view R.prog [57]) hk ob 6000 loose w) "special-get-raises" (fun w => ?_) (fun w => ?_) w
  · intro os
    kernel_rfl
  · intro os
    kernel_rfl
end K25
set_option Elab.async false
set_option linter.all false
set_option maxRecDepth 100000
set_option maxHeartbeats 0
/-! THE END -/
open PySem PySem.W PySem.Calls PyProof.Rows
theorem PySem.Challenge.cw_keysthroughtext_k25_whole_texts_of_value_holds : PySem.Challenge.rw_keysthroughtext_k25_whole_texts_of_value.Holds := by
  w_on; o_law
  refine HandSHeadRun.head_any (r := OpenLaw.row PySem.Challenge.rw_keysthroughtext_k25_whole_texts_of_value) (q := view (OpenLaw.row PySem.Challenge.rw_keysthroughtext_k25_whole_texts_of_value).prog [57]) (H := K25.hk) (ob := K25.ob) (M := 6000) (loose := K25.loose)
    (d := HandSHeadRun.topDef (OpenLaw.row PySem.Challenge.rw_keysthroughtext_k25_whole_texts_of_value).prog 57) (kwd := []) K25.ob_eq
    (by kernel_rfl) (fun s => by kernel_rfl) K25.run (by kernel_rfl) (by kernel_rfl) (by kernel_rfl) (by rfl) (by first | assumption | decide +kernel) (by decide +kernel) ⟨rfl, rfl, rfl, rfl, rfl, by decide +kernel⟩ ?hw ?hc
  case hw => w_witness2
  case hc =>
    refine LamX.walk_ofTsE (l := PySem.Challenge.rw_keysthroughtext_k25_whole_texts_of_value) (n := 63) (k := 190) (x := "_law_script") (CX := fun _ => L2.CX0) rfl (by decide) (by kernel_rfl) ⟨rfl, by decide, by decide⟩ ?F (fun _ _ _ _ _ z => z)
    intro w mg fa h Y G hmg0
    obtain ⟨K, KX, S⟩ := Y
    have hmg : mg ("law" : PySem.Str) = some (.ref fa) := by
      have e : (HandSHeadRun.topDef (OpenLaw.row PySem.Challenge.rw_keysthroughtext_k25_whole_texts_of_value).prog 57).name = ("law" : PySem.Str) := by kernel_rfl
      rw [← e]
      exact hmg0
    have T := K25.txt4 KX G S
    obtain ⟨f, fd, F, hm⟩ := T.f_law.ex
    have e := hmg.symm.trans hm
    cases e
    have hmem : K25.wKept ∈ K25.tfL := List.mem_singleton.mpr rfl
    have b := L2.FunD.bindsA (ps := ["_law_script"]) F fun _ _ _ _ _ _ us hl => match us, hl with | [_], _ => rfl
    refine ⟨K, KX, fd, [(K25.cKept K, K25.pKept K)], K25.spLaw K, ?_, ?_, ?_, fun s v => b s [v] rfl, ?_, ?_⟩
    · intro p hp
      rw [List.mem_singleton.mp hp]
      exact S.empty _ hmem
    · intro p hp
      rw [List.mem_singleton.mp hp]
      exact S.out _ hmem
    · intro p hp
      rw [List.mem_singleton.mp hp]
      exact PySem.W.codeHd_of_K KX (S.hd _ hmem)
    · intro H a ns hl _ hT hS
      refine ⟨a, ns, rfl, hS, hl, fun p hp => ?_, fun _ => rfl⟩
      rw [List.mem_singleton.mp hp]
      exact LamX.TabS.nil (hT _ (List.mem_singleton.mpr rfl))
    · intro base _ Gb TB
      have e1 : T = T := rfl
      exact K25.law_ok T (TB _ (List.mem_singleton.mpr rfl)) F
