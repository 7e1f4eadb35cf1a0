import PyProof.Rows.All
import Wide.All
import OpenK.AllK
import Wide.FinOn
import Lean
import PySem.Challenge.RW_no0238_01
open PySem PySem.W PyProof.Rows
set_option Elab.async false
set_option maxRecDepth 100000
set_option maxHeartbeats 8000000
set_option linter.unusedVariables false
set_option compiler.extract_closed false
set_option rowWalk.seconds 0
namespace Mine
open PySem PySem.W PyProof.Rows
def kept : Stmt → Bool
  | .Assign _ (.Constant (.str _) _ _) _ => false
  | _ => true
def view : Program := { PySem.Challenge.pw_no0238_01 with main := { PySem.Challenge.pw_no0238_01.main with body := PySem.Challenge.pw_no0238_01.main.body.filter kept } }
set_option hygiene false
local macro_rules | `(tactic| o_head $H) => `(tactic| (refine holds_open (q := Mine.view) (loose := []) (Xt := fun s => xlAt Mine.view [] s && recOk (RowW.records (OpenRow.toRowW PySem.Challenge.rw_no0238_01.row)) s) (XP := XL Mine.view []) (Yf := Hook.obs $H) (Ya := Hook.val $H) (YP := Hook.says $H) (N := 2582) ?hl (Hook.of $H) (Hook.keeps $H) (fun s e => xl_of s (Bool.and_eq_true_iff.mp e).1) XL.keeps (by rfl) (by rfl) (by rfl) (fun s e => recFacts_of (Bool.and_eq_true_iff.mp e).2) (by rfl) (by first | assumption | decide +kernel) (by decide +kernel) ⟨rfl, rfl, rfl, rfl, rfl, by decide +kernel⟩ ?hw ?hc; case hl => (intro w; kernel_rfl)))
open_top hd for PySem.Challenge.rw_no0238_01
end Mine
namespace Mine
open PySem PySem.W PySem.Calls PyProof.Rows
/-- What a call of the def at f, with the arguments vs, does from any frame whose ledger holds led: it comes back with a value of which R holds, and the ledger stands as it stood. -/
def Tell (k : Nat) (f : Addr) (led : List (Addr × Obj)) (vs : List Value) (R : Value → Prop) : Prop :=
  ∀ (w : World) (mean : ExcName → Option Value) (mg mb : Str → Option Value) (dp un : Nat) (gd : Option (List Code)) (cn : Str) (cs : Scope) (a : Addr) (ccd : Value) (cl : List (Str × Addr)) (outer : List Env) (A₀ : Around) (base h₀ : Heap) (L : Addr) (m : Str → Option Value) (news : List (Addr × Obj)) (s : Shared) (Q E : Value → Shared → Prop),
    Below A₀ base outer h₀ → Fr h₀ L s.heap m → (hd.heap_39 w.params).In h₀ → News h₀ L s.heap (led ++ news) → Top view (looseW view []) mean mg mb h₀ → cs.kind = .function → dp + k < recursionLimit → un + 8 * k < cLine →
    (∀ (r : Value) (h' : Heap) (tk' : Nat), R r → Fr h₀ L h' m → News h₀ L h' (led ++ news) → Q r { s with heap := h', toks := tk' }) →
    wpAny (model PySem.Challenge.rw_no0238_01.row.prog w) (ktrTop dp un gd cn cs L a ccd cl outer) (call (.ref f) vs) Q E s
end Mine
namespace Mine
open PySem PySem.W PySem.Calls PyProof.Rows
theorem foldl_rep_size (a : Array Nat) : ∀ (k : Nat) (b : Array Nat), ((List.replicate k a).foldl (· ++ ·) b).size = b.size + k * a.size
  | 0, b => by simp
  | k + 1, b => by
    rw [List.replicate_succ, List.foldl_cons, foldl_rep_size a k, Array.size_append, Nat.succ_mul]; omega
theorem mul_len {x : Str} (h : x.length = 1) (n : Int) : (Txt.mul x n).length = n.toNat := by
  unfold Txt.mul
  split
  · have e : n.toNat = 0 := by omega
    rw [e]; rfl
  · split
    · rename_i h1 h2
      have : n = 1 := by
        rcases Bool.or_eq_true_iff.mp h2 with q | q
        · exact eq_of_beq q
        · rw [h] at q; cases q
      subst this; exact h
    · show ((List.replicate n.toNat x.cps).foldl (· ++ ·) #[]).size = _
      rw [foldl_rep_size]
      have : x.cps.size = 1 := h
      rw [this]; simp
theorem app_len (x y : Str) : (x ++ y).length = x.length + y.length := Str.length_append x y
theorem txt_len {n : Int} (h0 : 0 ≤ n) (h1 : n < 10 ^ 60) : (Str.ofString (toString n)).length ≤ 60 := toString_length_le h0 (by decide) h1
theorem txt_pos {n : Int} (h0 : 0 ≤ n) : 1 ≤ (Str.ofString (toString n)).length := KLn.one_le h0
/-! what the defs reckon -/
abbrev tup (vs : List Value) : Obj := { cls := .type "tuple", data := .seq vs.toArray }
theorem txt_len8 {n : Int} (h0 : 0 ≤ n) (h1 : n < 10 ^ 8) : (Str.ofString (toString n)).length ≤ 8 := toString_length_le h0 (by decide) h1
def fieldF (x : Str) (wd : Int) : Str := if wd < (x.length : Int) then Txt.mul (Str.ofString "*") wd else Txt.mul (Str.ofString " ") (wd - (x.length : Int)) ++ x
def signF (a b : Bool) : Str := if a = true then Str.ofString "-" else if b = true then Str.ofString "+" else Str.ofString ""
def scaledF (n p : Int) : Int := if 0 ≤ p then n * 10 ^ p.toNat else Int.fdiv (2 * n + 10 ^ (-p).toNat) (2 * 10 ^ (-p).toNat)
def textF (n : Int) : Str := Str.ofString (toString n)
def editIntF (v wd least : Int) (p : Bool) : Str :=
  if v = 0 ∧ least = 0 then Txt.mul (Str.ofString " ") wd
  else fieldF (signF (decide (v < 0)) p ++ (Txt.mul (Str.ofString "0") (least - ((Str.ofString (toString (if v < 0 then -v else v))).length : Int)) ++ Str.ofString (toString (if v < 0 then -v else v)))) wd
theorem editIntF_a {v wd least : Int} {p : Bool} (h : v = 0) (h' : least = 0) : Txt.mul (Str.ofString " ") wd = editIntF v wd least p := by rw [editIntF, if_pos ⟨h, h'⟩]
theorem editIntF_b {v wd least : Int} {p : Bool} (h : ¬ (v = 0 ∧ least = 0)) : fieldF (signF (decide (v < 0)) p ++ (Txt.mul (Str.ofString "0") (least - ((Str.ofString (toString (if v < 0 then -v else v))).length : Int)) ++ Str.ofString (toString (if v < 0 then -v else v)))) wd = editIntF v wd least p := by rw [editIntF, if_neg h]
def pointF (sg wh rs : Str) (wd : Int) : Str :=
  if (wh == Str.ofString "") = true then
    if (rs == Str.ofString "") = true then fieldF (sg ++ Str.ofString "0" ++ Str.ofString "." ++ rs) wd
    else if ((sg ++ Str.ofString "0." ++ rs).length : Int) ≤ wd then fieldF (sg ++ Str.ofString "0." ++ rs) wd
    else fieldF (sg ++ wh ++ Str.ofString "." ++ rs) wd
  else fieldF (sg ++ wh ++ Str.ofString "." ++ rs) wd
section
variable {sg wh rs : Str} {wd : Int}
theorem pointF_0 (h : (wh == Str.ofString "") = true) (h' : (rs == Str.ofString "") = true) : fieldF (sg ++ Str.ofString "0" ++ Str.ofString "." ++ rs) wd = pointF sg wh rs wd := by rw [pointF, if_pos h, if_pos h']
theorem pointF_1 (h : (wh == Str.ofString "") = true) (h' : (rs == Str.ofString "") = false) (k : ((sg ++ Str.ofString "0." ++ rs).length : Int) ≤ wd) : fieldF (sg ++ Str.ofString "0." ++ rs) wd = pointF sg wh rs wd := by rw [pointF, if_pos h, if_neg (by rw [h']; decide), if_pos k]
theorem pointF_2 (h : (wh == Str.ofString "") = true) (h' : (rs == Str.ofString "") = false) (k : ¬ ((sg ++ Str.ofString "0." ++ rs).length : Int) ≤ wd) : fieldF (sg ++ wh ++ Str.ofString "." ++ rs) wd = pointF sg wh rs wd := by rw [pointF, if_pos h, if_neg (by rw [h']; decide), if_neg k]
theorem pointF_3 (h : (wh == Str.ofString "") = false) : fieldF (sg ++ wh ++ Str.ofString "." ++ rs) wd = pointF sg wh rs wd := by rw [pointF, if_neg (by rw [h]; decide)]
end
theorem one_star : (Str.ofString "*").length = 1 := by decide +kernel
theorem one_blank : (Str.ofString " ").length = 1 := by decide +kernel
theorem one_zero : (Str.ofString "0").length = 1 := by decide +kernel
theorem one_minus : (Str.ofString "-").length = 1 := by decide +kernel
theorem one_plus : (Str.ofString "+").length = 1 := by decide +kernel
theorem one_point : (Str.ofString ".").length = 1 := by decide +kernel
theorem two_zp : (Str.ofString "0.").length = 2 := by decide +kernel
theorem no_sign : (Str.ofString "").length = 0 := by decide +kernel
theorem fieldF_len {x : Str} {wd : Int} (h : 0 ≤ wd) : ((fieldF x wd).length : Int) = wd := by
  unfold fieldF
  split
  · rw [mul_len one_star]; omega
  · rw [app_len, mul_len one_blank]; omega
theorem pointF_len {sg wh rs : Str} {wd : Int} (h : 0 ≤ wd) : ((pointF sg wh rs wd).length : Int) = wd := by
  unfold pointF
  repeat' split
  all_goals exact fieldF_len h
abbrev absI (n : Int) : Int := if n < 0 then -n else n
abbrev lenI (x : Str) : Int := (x.length : Int)
abbrev numT (n : Int) : Str := Str.ofString (toString n)
def digF (num pl : Int) : Str := if num = 0 then Txt.mul (Str.ofString "0") (pl - lenI (Str.ofString "")) ++ Str.ofString "" else Txt.mul (Str.ofString "0") (pl - lenI (numT num)) ++ numT num
theorem digF_0 {num pl : Int} (h : num = 0) : Txt.mul (Str.ofString "0") (pl - lenI (Str.ofString "")) ++ Str.ofString "" = digF num pl := by rw [digF, if_pos h]
theorem digF_1 {num pl : Int} (h : num ≠ 0) : Txt.mul (Str.ofString "0") (pl - lenI (numT num)) ++ numT num = digF num pl := by rw [digF, if_neg h]
def fixSg (n num : Int) (p : Bool) : Str := if n < 0 then signF (decide (0 < num)) p else signF (decide (n < 0)) p
theorem fixSg_0 {n num : Int} {p : Bool} (h : n < 0) : signF (decide (0 < num)) p = fixSg n num p := by rw [fixSg, if_pos h]
theorem fixSg_1 {n num : Int} {p : Bool} (h : ¬ n < 0) : signF (decide (n < 0)) p = fixSg n num p := by rw [fixSg, if_neg h]
def fixedF (n e wd pl sc : Int) (p : Bool) : Str :=
  pointF (fixSg n (scaledF (absI n) (e + sc + pl)) p) (Txt.slice (digF (scaledF (absI n) (e + sc + pl)) pl) none (some (lenI (digF (scaledF (absI n) (e + sc + pl)) pl) - pl)))
    (Txt.slice (digF (scaledF (absI n) (e + sc + pl)) pl) (some (lenI (digF (scaledF (absI n) (e + sc + pl)) pl) - pl)) none) wd
theorem fixedF_eq {n e wd pl sc : Int} {p : Bool} {sg d : Str} (h1 : sg = fixSg n (scaledF (absI n) (e + sc + pl)) p) (h2 : d = digF (scaledF (absI n) (e + sc + pl)) pl) :
    pointF sg (Txt.slice d none (some (lenI d - pl))) (Txt.slice d (some (lenI d - pl)) none) wd = fixedF n e wd pl sc p := by subst h1; subst h2; rfl
theorem fixedF_len {n e wd pl sc : Int} {p : Bool} (h : 0 ≤ wd) : ((fixedF n e wd pl sc p).length : Int) = wd := pointF_len h
def leadD (n c : Int) : Str :=
  if absI n = 0 then Txt.mul (Str.ofString "0") c
  else if c < lenI (numT (scaledF (absI n) (c - lenI (numT (absI n))))) then Txt.slice (numT (scaledF (absI n) (c - lenI (numT (absI n))))) none (some c) else numT (scaledF (absI n) (c - lenI (numT (absI n))))
def leadP (n e c : Int) : Int :=
  if absI n = 0 then 0
  else if c < lenI (numT (scaledF (absI n) (c - lenI (numT (absI n))))) then lenI (numT (absI n)) + e + 1 else lenI (numT (absI n)) + e
def expoS (pw : Int) : Str := if pw < 0 then Str.ofString "-" else Str.ofString "+"
def expoF (lt : Str) (pw : Int) : Option Int → Option Str
  | none => if lenI (numT (absI pw)) ≤ 2 then some (lt ++ expoS pw ++ Txt.mul (Str.ofString "0") (2 - lenI (numT (absI pw))) ++ numT (absI pw)) else if lenI (numT (absI pw)) = 3 then some (expoS pw ++ numT (absI pw)) else none
  | some z => if z < lenI (numT (absI pw)) then none else some (lt ++ expoS pw ++ Txt.mul (Str.ofString "0") (z - lenI (numT (absI pw))) ++ numT (absI pw))
section
variable {lt sg : Str} {pw z n e c : Int}
theorem expoS_0 (h : pw < 0) : Str.ofString "-" = expoS pw := by rw [expoS, if_pos h]
theorem expoS_1 (h : ¬ pw < 0) : Str.ofString "+" = expoS pw := by rw [expoS, if_neg h]
theorem expoN_a (hs : sg = expoS pw) (h : lenI (numT (absI pw)) ≤ 2) : expoF lt pw none = some (lt ++ sg ++ Txt.mul (Str.ofString "0") (2 - lenI (numT (absI pw))) ++ numT (absI pw)) := by subst hs; rw [expoF, if_pos h]
theorem expoN_b (hs : sg = expoS pw) (h : ¬ lenI (numT (absI pw)) ≤ 2) (h' : lenI (numT (absI pw)) = 3) : expoF lt pw none = some (sg ++ numT (absI pw)) := by subst hs; rw [expoF, if_neg h, if_pos h']
theorem expoN_c (h : ¬ lenI (numT (absI pw)) ≤ 2) (h' : lenI (numT (absI pw)) ≠ 3) : expoF lt pw none = none := by rw [expoF, if_neg h, if_neg h']
theorem expoZ_a (h : z < lenI (numT (absI pw))) : expoF lt pw (some z) = none := by rw [expoF, if_pos h]
theorem expoZ_b (hs : sg = expoS pw) (h : ¬ z < lenI (numT (absI pw))) : expoF lt pw (some z) = some (lt ++ sg ++ Txt.mul (Str.ofString "0") (z - lenI (numT (absI pw))) ++ numT (absI pw)) := by subst hs; rw [expoF, if_neg h]
theorem leadD_0 (h : absI n = 0) : Txt.mul (Str.ofString "0") c = leadD n c := by rw [leadD, if_pos h]
theorem leadD_1 (h : absI n ≠ 0) (h' : c < lenI (numT (scaledF (absI n) (c - lenI (numT (absI n)))))) : Txt.slice (numT (scaledF (absI n) (c - lenI (numT (absI n))))) none (some c) = leadD n c := by rw [leadD, if_neg h, if_pos h']
theorem leadD_2 (h : absI n ≠ 0) (h' : ¬ c < lenI (numT (scaledF (absI n) (c - lenI (numT (absI n)))))) : numT (scaledF (absI n) (c - lenI (numT (absI n)))) = leadD n c := by rw [leadD, if_neg h, if_neg h']
theorem leadP_0 (h : absI n = 0) : 0 = leadP n e c := by rw [leadP, if_pos h]
theorem leadP_1 (h : absI n ≠ 0) (h' : c < lenI (numT (scaledF (absI n) (c - lenI (numT (absI n)))))) : lenI (numT (absI n)) + e + 1 = leadP n e c := by rw [leadP, if_neg h, if_pos h']
theorem leadP_2 (h : absI n ≠ 0) (h' : ¬ c < lenI (numT (scaledF (absI n) (c - lenI (numT (absI n)))))) : lenI (numT (absI n)) + e = leadP n e c := by rw [leadP, if_neg h, if_neg h']
end
theorem tup2_eq {d : Addr} {x y : Str} {i j : Int} {t u : Tok} (h : x = y) (h' : i = j) : [(d, tup [.str x t, .int i u])] = [(d, tup [.str y t, .int j u])] := by rw [h, h']
theorem new_end {h₀ h' : Heap} {L d : Addr} {m : Str → Option Value} {l : List (Addr × Obj)} {o : Obj} {s : Shared} {tk' : Nat} {Q : Value → Shared → Prop} {R : Value → List (Addr × Obj) → Prop}
    (hret : ∀ (r : Value) (tl : List (Addr × Obj)) (h' : Heap) (tk' : Nat), R r tl → Fr h₀ L h' m → News h₀ L h' (tl ++ l) → Q r { s with heap := h', toks := tk' })
    (F : Fr h₀ L h' m) (N : News h₀ L h' ((d, o) :: l)) (hR : R (.ref d) [(d, o)]) : Q (.ref d) { s with heap := h', toks := tk' } := hret _ _ _ _ hR F N
theorem sub1 {p : Addr × Obj} {l : List (Addr × Obj)} (h : p ∈ l) : ∀ q ∈ [p], q ∈ l := fun q hq => by rw [List.mem_singleton.mp hq]; exact h
def expC (pl sc : Int) : Int := if sc ≤ 0 then pl + sc else pl + 1
def expP (n e c sc : Int) : Int := if n ≠ 0 then leadP n e c - sc else leadP n e c
def expT (n wd sc c : Int) (p : Bool) : Option Str → Str
  | none => Txt.mul (Str.ofString "*") wd
  | some tl => if 0 < sc then pointF (signF (decide (n < 0)) p) (Txt.slice (leadD n c) none (some sc)) (Txt.slice (leadD n c) (some sc) none ++ tl) wd
      else pointF (signF (decide (n < 0)) p) (Str.ofString "") (Txt.mul (Str.ofString "0") (-sc) ++ leadD n c ++ tl) wd
def expF (lt : Str) (n e wd pl : Int) (z : Option Int) (sc : Int) (p : Bool) : Str := expT n wd sc (expC pl sc) p (expoF lt (expP n e (expC pl sc) sc) z)
section
variable {lt tl : Str} {n e wd pl sc c q : Int} {z : Option Int} {p : Bool}
theorem expC_0 (h : sc ≤ 0) : pl + sc = expC pl sc := by rw [expC, if_pos h]
theorem expC_1 (h : ¬ sc ≤ 0) : pl + 1 = expC pl sc := by rw [expC, if_neg h]
theorem expP_0 (h : n ≠ 0) : leadP n e c - sc = expP n e c sc := by rw [expP, if_pos h]
theorem expP_1 (h : n = 0) : leadP n e c = expP n e c sc := by rw [expP, if_neg (by simp [h])]
theorem expF_n (hc : c = expC pl sc) (hq : q = expP n e c sc) (h : expoF lt q z = none) : Txt.mul (Str.ofString "*") wd = expF lt n e wd pl z sc p := by subst hc hq; rw [expF, h]; rfl
theorem expF_a (hc : c = expC pl sc) (hq : q = expP n e c sc) (h : expoF lt q z = some tl) (hs : 0 < sc) : pointF (signF (decide (n < 0)) p) (Txt.slice (leadD n c) none (some sc)) (Txt.slice (leadD n c) (some sc) none ++ tl) wd = expF lt n e wd pl z sc p := by
  subst hc hq; rw [expF, h]; exact (if_pos hs).symm
theorem expF_b (hc : c = expC pl sc) (hq : q = expP n e c sc) (h : expoF lt q z = some tl) (hs : ¬ 0 < sc) : pointF (signF (decide (n < 0)) p) (Str.ofString "") (Txt.mul (Str.ofString "0") (-sc) ++ leadD n c ++ tl) wd = expF lt n e wd pl z sc p := by
  subst hc hq; rw [expF, h]; exact (if_neg hs).symm
end
inductive ZIs : Value → Option Int → Prop
  | none : ZIs .none none
  | int {z : Int} {t : Tok} : 0 ≤ z → z ≤ 20 → ZIs (.int z t) (some z)
def genI (n e pl : Int) : Bool := if n = 0 then false else if 0 ≤ lenI (numT (absI n)) + e then decide (lenI (numT (absI n)) + e ≤ pl) else decide (0 ≤ lenI (numT (absI n)) + e)
theorem genI_0 {n e pl : Int} (h : n = 0) : false = genI n e pl := by rw [genI, if_pos h]
theorem genI_1 {n e pl : Int} (h : n ≠ 0) (h' : 0 ≤ lenI (numT (absI n)) + e) : decide (lenI (numT (absI n)) + e ≤ pl) = genI n e pl := by rw [genI, if_neg h, if_pos h']
theorem genI_2 {n e pl : Int} (h : n ≠ 0) (h' : ¬ 0 ≤ lenI (numT (absI n)) + e) : decide (0 ≤ lenI (numT (absI n)) + e) = genI n e pl := by rw [genI, if_neg h, if_neg h']
theorem genI_t {n e pl : Int} (h : genI n e pl = true) : 0 ≤ lenI (numT (absI n)) + e ∧ lenI (numT (absI n)) + e ≤ pl := by
  unfold genI at h
  split at h
  · cases h
  · split at h
    · rename_i _ q; exact ⟨q, of_decide_eq_true h⟩
    · rename_i _ q; exact absurd (of_decide_eq_true h) q
def genB : Option Int → Int
  | none => 4
  | some z => z + 2
theorem genB_n : (4 : Int) = genB none := rfl
theorem genB_z {z : Int} : z + 2 = genB (some z) := rfl
def genF (n e wd pl : Int) (z : Option Int) (sc : Int) (p : Bool) : Str :=
  if genI n e pl = true then
    if wd ≤ genB z then Txt.mul (Str.ofString "*") wd
    else if (Txt.item (fixedF n e (wd - genB z) (pl - (lenI (numT (absI n)) + e)) 0 p) 0 == Str.ofString "*") = true then Txt.mul (Str.ofString "*") wd
    else fixedF n e (wd - genB z) (pl - (lenI (numT (absI n)) + e)) 0 p ++ Txt.mul (Str.ofString " ") (genB z)
  else expF (Str.ofString "E") n e wd pl z sc p
section
variable {n e wd pl sc b : Int} {z : Option Int} {p : Bool}
theorem genF_0 (h : genI n e pl = false) : expF (Str.ofString "E") n e wd pl z sc p = genF n e wd pl z sc p := by rw [genF, if_neg (by rw [h]; decide)]
theorem genF_1 (h : genI n e pl = true) (hb : b = genB z) (h' : wd ≤ b) : Txt.mul (Str.ofString "*") wd = genF n e wd pl z sc p := by subst hb; rw [genF, if_pos h, if_pos h']
theorem genF_2 (h : genI n e pl = true) (hb : b = genB z) (h' : ¬ wd ≤ b) (k : (Txt.item (fixedF n e (wd - b) (pl - (lenI (numT (absI n)) + e)) 0 p) 0 == Str.ofString "*") = true) : Txt.mul (Str.ofString "*") wd = genF n e wd pl z sc p := by subst hb; rw [genF, if_pos h, if_neg h', if_pos k]
theorem genF_3 (h : genI n e pl = true) (hb : b = genB z) (h' : ¬ wd ≤ b) (k : (Txt.item (fixedF n e (wd - b) (pl - (lenI (numT (absI n)) + e)) 0 p) 0 == Str.ofString "*") = false) : fixedF n e (wd - b) (pl - (lenI (numT (absI n)) + e)) 0 p ++ Txt.mul (Str.ofString " ") b = genF n e wd pl z sc p := by
  subst hb; rw [genF, if_pos h, if_neg h', if_neg (by rw [k]; decide)]
end
theorem signF_len (a b : Bool) : (signF a b).length ≤ 1 := by cases a <;> cases b <;> decide +kernel
theorem pow10_le {k : Nat} (h : k ≤ 30) : (10 : Int) ^ k ≤ 10 ^ 30 := by
  have : (10 : Nat) ^ k ≤ 10 ^ 30 := Nat.pow_le_pow_right (by decide) h
  exact_mod_cast this
theorem pow10_pos (k : Nat) : (1 : Int) ≤ 10 ^ k := by
  have : 1 ≤ (10 : Nat) ^ k := Nat.one_le_pow _ _ (by decide)
  exact_mod_cast this
theorem scaledF_lo {n p : Int} (hn : 0 ≤ n) : 0 ≤ scaledF n p := by
  unfold scaledF
  split
  · exact Int.mul_nonneg hn (Int.le_trans (by decide) (pow10_pos _))
  · have := pow10_pos (-p).toNat
    exact Int.fdiv_nonneg (by omega) (by omega)
theorem scaledF_hi {n p : Int} (hn : 0 ≤ n) (hn1 : n ≤ 10 ^ 20) (hp : p ≤ 30) : scaledF n p ≤ 10 ^ 50 := by
  unfold scaledF
  split
  · have h1 := pow10_le (k := p.toNat) (by omega)
    have h2 := pow10_pos p.toNat
    have := Int.mul_le_mul hn1 h1 (by omega) (by decide)
    exact Int.le_trans this (by decide)
  · have h2 := pow10_pos (-p).toNat
    generalize (10 : Int) ^ (-p).toNat = u at h2 ⊢
    rw [Int.fdiv_eq_ediv_of_nonneg _ (by omega)]
    have : (2 * n + u) / (2 * u) ≤ n + 1 := by
      apply Int.le_of_lt_add_one
      apply Int.ediv_lt_of_lt_mul (by omega)
      have h3 : 2 * n + u < (n + 1 + 1) * (2 * u) := by
        have e : (n + 1 + 1) * (2 * u) = 2 * (n * u) + 4 * u := by
          rw [Int.add_mul, Int.add_mul]; have : n * (2 * u) = 2 * (n * u) := by rw [Int.mul_left_comm]
          omega
        have : n * 1 ≤ n * u := Int.mul_le_mul_of_nonneg_left (by omega) hn
        omega
      exact h3
    omega
section
variable {prog : Program} {w : World} {A : Around} {E : Value → Shared → Prop} {s : Shared} {t u : Tok} {Q : Value → Shared → Prop} {x y : Str} {n : Int}
theorem r_len (h : x.length ≤ 1000) (k : Q (.int x.length (s.toks + 1)) { s with toks := s.toks + 1 + 1 }) : wpAny (model prog w) A (call (.builtin "len") [.str x t]) Q E s :=
  P.len_str (by omega) k
theorem r_mul (hx : x.length = 1) (h0 : -1000 ≤ n) (h1 : n ≤ 1000) (k : ∀ t' c, (Txt.mul x n).length = n.toNat → Q (.str (Txt.mul x n) t') { s with toks := c }) : wpAny (model prog w) A (binaryOp .Mult (.str x t) (.int n u)) Q E s :=
  SB.mul (mulOk_of 1 1000 (by omega) (by omega) (by omega) (by decide) (by decide)) fun t' c => k t' c (mul_len hx n)
theorem r_add (h : x.length + y.length ≤ 1000) (k : ∀ t' c, (x ++ y).length = x.length + y.length → Q (.str (x ++ y) t') { s with toks := c }) : wpAny (model prog w) A (binaryOp .Add (.str x t) (.str y u)) Q E s :=
  add_str (fun t' c => k t' c (app_len x y)) (by rw [sizeLine_eq]; omega)
theorem r_text8 (h0 : 0 ≤ n) (h1 : n < 10 ^ 8) (k : 1 ≤ (Str.ofString (toString n)).length → (Str.ofString (toString n)).length ≤ 8 → Q (.str (toString n) s.toks) { s with toks := s.toks + 1 }) : wpAny (model prog w) A (call (.type "str") [.int n t]) Q E s :=
  P.str_of_int (by
    rcases Nat.eq_zero_or_pos n.natAbs with q | q
    · rw [q]; decide
    · refine (Nat.log2_lt (Nat.ne_of_gt q)).mpr ?_
      have : n.natAbs ≤ 10 ^ 50 := by omega
      exact Nat.lt_of_le_of_lt this (by decide +kernel)) (k (txt_pos h0) (txt_len8 h0 (by omega)))
theorem r_text (h0 : 0 ≤ n) (h1 : n ≤ 10 ^ 50) (k : 1 ≤ (Str.ofString (toString n)).length → (Str.ofString (toString n)).length ≤ 60 → Q (.str (toString n) s.toks) { s with toks := s.toks + 1 }) : wpAny (model prog w) A (call (.type "str") [.int n t]) Q E s :=
  P.str_of_int (by
    rcases Nat.eq_zero_or_pos n.natAbs with q | q
    · rw [q]; decide
    · refine (Nat.log2_lt (Nat.ne_of_gt q)).mpr ?_
      have : n.natAbs ≤ 10 ^ 50 := by omega
      exact Nat.lt_of_le_of_lt this (by decide +kernel)) (k (txt_pos h0) (txt_len h0 (by omega)))
theorem r_pow10 (h0 : 0 ≤ n) (h1 : n ≤ 30) (k : (1 : Int) ≤ 10 ^ n.toNat → (10 : Int) ^ n.toNat ≤ 10 ^ 30 → Q (.int (10 ^ n.toNat) s.toks) { s with toks := s.toks + 1 }) : wpAny (model prog w) A (binaryOp .Pow (.int 10 t) (.int n u)) Q E s :=
  pow_int_small h0 (by omega) (by decide) (k (pow10_pos _) (pow10_le (by omega)))
theorem r_mulI {a b : Int} (h : -(2 ^ 64) < a) (h' : a < 2 ^ 64) (k : Q (.int (a * b) s.toks) { s with toks := s.toks + 1 }) : wpAny (model prog w) A (binaryOp .Mult (.int a t) (.int b u)) Q E s :=
  mul_int k (IntMulOk.of_left (intBits_le_64 h h'))
theorem r_div {a b : Int} (h0 : 0 < b) (h1 : b ≤ 10 ^ 40) (k : Q (.int (a.fdiv b) s.toks) { s with toks := s.toks + 1 }) : wpAny (model prog w) A (binaryOp .FloorDiv (.int a t) (.int b u)) Q E s :=
  floordiv_int (by omega) k (Or.inl (PyProof.noPylong_of_log2 (by
    refine (Nat.log2_lt (by omega)).mpr ?_
    have : b.natAbs ≤ 10 ^ 40 := by omega
    exact Nat.lt_of_le_of_lt this (Nat.lt_of_lt_of_le (by decide : 10 ^ 40 < 2 ^ 200) (Nat.pow_le_pow_right (by decide) (by decide))))))
end
section
variable {k : Nat} {f : Addr} {led : List (Addr × Obj)} {vs : List Value} {R : Value → Prop} {w : World} {mean : ExcName → Option Value} {mg mb : Str → Option Value} {dp un : Nat} {gd : Option (List Code)} {cn : Str} {cs : Scope} {a : Addr} {ccd : Value} {cl : List (Str × Addr)} {outer : List Env} {A₀ : Around} {base h₀ : Heap} {L : Addr} {m : Str → Option Value} {news : List (Addr × Obj)} {s : Shared} {Q E : Value → Shared → Prop}
theorem tell_use (H : Tell k f led vs R) (B : Below A₀ base outer h₀) (F : Fr h₀ L s.heap m) (X : (hd.heap_39 w.params).In h₀) (N : News h₀ L s.heap news) (T : Top view (looseW view []) mean mg mb h₀) (hk : cs.kind = .function) (hs : ∀ p ∈ led, p ∈ news)
    (hd : dp + k < recursionLimit) (hu : un + 8 * k < cLine) (ret : ∀ (r : Value) (h' : Heap) (tk' : Nat), R r → Fr h₀ L h' m → News h₀ L h' news → Q r { s with heap := h', toks := tk' }) :
    wpAny (model PySem.Challenge.rw_no0238_01.row.prog w) (ktrTop dp un gd cn cs L a ccd cl outer) (call (.ref f) vs) Q E s :=
  H w mean mg mb dp un gd cn cs a ccd cl outer A₀ base h₀ L m news s Q E B F X (fun p hp => (List.mem_append.mp hp).elim (fun q => N p (hs p q)) (N p)) T hk hd hu
    fun r h' tk' hr F' N' => ret r h' tk' hr F' fun p hp => N' p (List.mem_append.mpr (.inr hp))
theorem tell_useA (B : Below A₀ base outer h₀ := by k_asm) (F : Fr h₀ L s.heap m := by k_asm) (X : (hd.heap_39 w.params).In h₀ := by k_asm) (N : News h₀ L s.heap news := by k_asm) (T : Top view (looseW view []) mean mg mb h₀ := by k_asm) (hk : cs.kind = .function := by first | exact rfl | assumption)
    (hs : ∀ p ∈ led, p ∈ news := by first | (refine sub1 ?_; k_mem) | (refine List.forall_mem_cons.mpr ⟨?_, List.forall_mem_cons.mpr ⟨?_, List.forall_mem_nil _⟩⟩ <;> k_mem) | exact List.forall_mem_nil _) (hd : dp + k < recursionLimit := by ktr_room) (hu : un + 8 * k < cLine := by ktr_units) (H : Tell k f led vs R)
    (ret : ∀ (r : Value) (h' : Heap) (tk' : Nat), R r → Fr h₀ L h' m → News h₀ L h' news → Q r { s with heap := h', toks := tk' }) :
    wpAny (model PySem.Challenge.rw_no0238_01.row.prog w) (ktrTop dp un gd cn cs L a ccd cl outer) (call (.ref f) vs) Q E s := tell_use H B F X N T hk hs hd hu ret
end
theorem gen_tok {M : Model} {ks : Around} {α : Type} {act : Sem α} {Q : α → Shared → Prop} {E : Value → Shared → Prop} {h : Heap} {t : Nat} {o : OsState} {g : Array GenState} {d : Drawn} (H : ∀ t', wpAny M ks act Q E (Shared.mk h g d t' o)) : wpAny M ks act Q E (Shared.mk h g d t o) := H t
/-- As Tell, where the def hands on new objects of its own. -/
def TellN (k : Nat) (f : Addr) (led : List (Addr × Obj)) (vs : List Value) (R : Value → List (Addr × Obj) → Prop) : Prop :=
  ∀ (w : World) (mean : ExcName → Option Value) (mg mb : Str → Option Value) (dp un : Nat) (gd : Option (List Code)) (cn : Str) (cs : Scope) (a : Addr) (ccd : Value) (cl : List (Str × Addr)) (outer : List Env) (A₀ : Around) (base h₀ : Heap) (L : Addr) (m : Str → Option Value) (news : List (Addr × Obj)) (s : Shared) (Q E : Value → Shared → Prop),
    Below A₀ base outer h₀ → Fr h₀ L s.heap m → (hd.heap_39 w.params).In h₀ → News h₀ L s.heap (led ++ news) → Top view (looseW view []) mean mg mb h₀ → cs.kind = .function → dp + k < recursionLimit → un + 8 * k < cLine →
    (∀ (r : Value) (tl : List (Addr × Obj)) (h' : Heap) (tk' : Nat), R r tl → Fr h₀ L h' m → News h₀ L h' (tl ++ (led ++ news)) → Q r { s with heap := h', toks := tk' }) →
    wpAny (model PySem.Challenge.rw_no0238_01.row.prog w) (ktrTop dp un gd cn cs L a ccd cl outer) (call (.ref f) vs) Q E s
section
variable {k : Nat} {f : Addr} {led : List (Addr × Obj)} {vs : List Value} {R : Value → List (Addr × Obj) → Prop} {w : World} {mean : ExcName → Option Value} {mg mb : Str → Option Value} {dp un : Nat} {gd : Option (List Code)} {cn : Str} {cs : Scope} {a : Addr} {ccd : Value} {cl : List (Str × Addr)} {outer : List Env} {A₀ : Around} {base h₀ : Heap} {L : Addr} {m : Str → Option Value} {news : List (Addr × Obj)} {s : Shared} {Q E : Value → Shared → Prop}
theorem tellN_use (H : TellN k f led vs R) (B : Below A₀ base outer h₀) (F : Fr h₀ L s.heap m) (X : (hd.heap_39 w.params).In h₀) (N : News h₀ L s.heap news) (T : Top view (looseW view []) mean mg mb h₀) (hk : cs.kind = .function) (hs : ∀ p ∈ led, p ∈ news)
    (hd : dp + k < recursionLimit) (hu : un + 8 * k < cLine) (ret : ∀ (r : Value) (tl : List (Addr × Obj)) (h' : Heap) (tk' : Nat), R r tl → Fr h₀ L h' m → News h₀ L h' (tl ++ news) → Q r { s with heap := h', toks := tk' }) :
    wpAny (model PySem.Challenge.rw_no0238_01.row.prog w) (ktrTop dp un gd cn cs L a ccd cl outer) (call (.ref f) vs) Q E s :=
  H w mean mg mb dp un gd cn cs a ccd cl outer A₀ base h₀ L m news s Q E B F X (fun p hp => (List.mem_append.mp hp).elim (fun q => N p (hs p q)) (N p)) T hk hd hu
    fun r tl h' tk' hr F' N' => ret r tl h' tk' hr F' fun p hp => N' p ((List.mem_append.mp hp).elim (fun q => List.mem_append.mpr (.inl q)) fun q => List.mem_append.mpr (.inr (List.mem_append.mpr (.inr q))))
end
end Mine
namespace Mine
open PySem PySem.W PySem.Calls PyProof.Rows
abbrev blankS : Str := Str.ofString " "
def rowF (x : Str) (W k : Nat) : List Str := List.replicate (W - x.length) blankS ++ ((List.range k).map (fun i : Nat => Txt.item x (i : Int)) ++ List.replicate (x.length - k) blankS)
theorem rowF_len {x : Str} {W k : Nat} (h : x.length ≤ W) (hk : k ≤ x.length) : (rowF x W k).length = W := by
  simp [rowF]; omega
theorem rowF_set {x : Str} {W k : Nat} (h : x.length ≤ W) (hk : k < x.length) : (rowF x W k).set (W - x.length + k) (Txt.item x (k : Int)) = rowF x W (k + 1) := by
  unfold rowF
  rw [List.set_append_right _ _ (by simp), List.set_append_right _ _ (by simp)]
  have e : x.length - k = (x.length - (k + 1)) + 1 := by omega
  simp only [List.length_replicate, List.length_map, List.length_range]
  rw [show W - x.length + k - (W - x.length) - k = 0 by omega, e, List.replicate_succ, List.set_cons_zero, List.range_succ, List.map_append, List.append_assoc]
  rfl
theorem rowF_0 {x : Str} {W : Nat} (h : x.length ≤ W) : rowF x W 0 = List.replicate W blankS := by
  show List.replicate (W - x.length) blankS ++ ([] ++ List.replicate (x.length - 0) blankS) = _
  rw [List.nil_append, List.replicate_append_replicate]
  congr 1; omega
theorem rowF_one {x : Str} {W k : Nat} : ∀ y ∈ rowF x W k, y.length = 1 := by
  intro y hy
  unfold rowF at hy
  rcases List.mem_append.mp hy with h | h
  · rw [List.eq_of_mem_replicate h]; exact one_blank
  · rcases List.mem_append.mp h with h | h
    · obtain ⟨i, _, rfl⟩ := List.mem_map.mp h
      rfl
    · rw [List.eq_of_mem_replicate h]; exact one_blank
theorem sum_ones : ∀ (l : List Str), (∀ y ∈ l, y.length = 1) → (l.map (·.length)).sum = l.length
  | [], _ => rfl
  | y :: r, h => by
    rw [List.map_cons, List.sum_cons, h y (.head _), sum_ones r fun z hz => h z (.tail _ hz), List.length_cons]; omega
theorem row_joinOk {x : Str} {W k : Nat} (h : x.length ≤ W) (hk : k ≤ x.length) (hW : W ≤ 1000) : JoinOk (Str.ofString "") (rowF x W k) = true := by
  unfold JoinOk
  rw [StrLaws.joinTotal, sum_ones _ rowF_one, rowF_len h hk, no_sign]
  have : Builtin.Str.tooLong (W + W * 0) = false := by
    unfold Builtin.Str.tooLong
    rw [sizeLine_eq]
    simp; omega
  rw [this]; rfl
theorem join_cps : ∀ (l : List Str), (Str.join (Str.ofString "") l).cps.toList = l.flatMap (·.cps.toList)
  | [] => rfl
  | [x] => by simp [Str.join]
  | x :: y :: r => by
    have ih := join_cps (y :: r)
    show (x.cps ++ (Str.ofString "").cps ++ (Str.join (Str.ofString "") (y :: r)).cps).toList = _
    have e : (Str.ofString "").cps = #[] := by decide +kernel
    rw [e, Array.append_empty, Array.toList_append, ih, List.flatMap_cons, List.flatMap_cons, List.flatMap_cons]
theorem flatMap_rep (n : Nat) (x : Str) : (List.replicate n x).flatMap (·.cps.toList) = (List.replicate n x.cps.toList).flatten := by
  induction n with
  | zero => rfl
  | succ n ih => rw [List.replicate_succ, List.flatMap_cons, ih, List.replicate_succ, List.flatten_cons]
theorem foldl_cps (l : List (Array Nat)) (b : Array Nat) : (l.foldl (· ++ ·) b).toList = b.toList ++ (l.map (·.toList)).flatten := by
  induction l generalizing b with
  | nil => simp
  | cons a r ih => rw [List.foldl_cons, ih, Array.toList_append, List.map_cons, List.flatten_cons, List.append_assoc]
theorem mul_cps {x : Str} (hx : x.length = 1) (n : Int) : (Txt.mul x n).cps.toList = (List.replicate n.toNat x.cps.toList).flatten := by
  unfold Txt.mul
  split
  · have e : n.toNat = 0 := by omega
    rw [e]; rfl
  · split
    · rename_i h1 h2
      have : n = 1 := by
        rcases Bool.or_eq_true_iff.mp h2 with q | q
        · exact eq_of_beq q
        · rw [hx] at q; cases q
      subst this; simp
    · rw [foldl_cps]; simp
theorem item_cps {x : Str} {i : Nat} (h : i < x.length) : (Txt.item x (i : Int)).cps.toList = [x.cps.toList[i]'(by have h' : i < x.cps.size := h; simpa using h')] := by
  unfold Txt.item Txt.charAt
  have : seqIndex? (i : Int) x.length = some i := by
    unfold seqIndex?
    simp
    omega
  rw [this]
  have h' : i < x.cps.size := h
  simp [h']
theorem flatMap_items {x : Str} : ∀ k, k ≤ x.length → ((List.range k).map (fun i : Nat => Txt.item x (i : Int))).flatMap (·.cps.toList) = x.cps.toList.take k
  | 0, _ => rfl
  | k + 1, h => by
    rw [List.range_succ, List.map_append, List.flatMap_append, flatMap_items k (by omega)]
    simp only [List.map_cons, List.map_nil, List.flatMap_cons, List.flatMap_nil, List.append_nil]
    rw [item_cps (by omega), List.take_add_one]
    have h' : k < x.cps.size := h
    simp [h']
theorem rowF_join {x : Str} {wd : Int} (h : (x.length : Int) ≤ wd) : Txt.join (Str.ofString "") (rowF x wd.toNat x.length) = fieldF x wd := by
  unfold fieldF
  rw [if_neg (by omega)]
  show Builtin.Str.glued _ _ = _
  rw [StrLaws.glued_eq_join]
  have e : (Str.join (Str.ofString "") (rowF x wd.toNat x.length)).cps.toList = (Txt.mul (Str.ofString " ") (wd - x.length) ++ x).cps.toList := by
    rw [join_cps]
    show _ = ((Txt.mul (Str.ofString " ") (wd - x.length)).cps ++ x.cps).toList
    rw [Array.toList_append, mul_cps one_blank]
    unfold rowF
    rw [List.flatMap_append, List.flatMap_append, flatMap_rep, flatMap_items _ (Nat.le_refl _), Nat.sub_self]
    have e1 : wd.toNat - x.length = (wd - x.length).toNat := by omega
    have e2 : x.cps.toList.length = x.length := by simp [Str.length]
    rw [e1, ← e2, List.take_length]
    simp
  cases hh : Str.join (Str.ofString "") (rowF x wd.toNat x.length) with
  | mk c =>
    rw [hh] at e
    cases hg : (Txt.mul (Str.ofString " ") (wd - x.length) ++ x) with
    | mk d =>
      rw [hg] at e
      have e9 : c = d := Array.toList_inj.mp e
      rw [e9]
theorem strs_rep (W : Nat) (x : Str) (t : Tok) : (List.replicate W [Value.str x t]).flatten = strValues (List.replicate W (x, t)) := by
  induction W with
  | zero => rfl
  | succ n ih => rw [List.replicate_succ, List.flatten_cons, ih, List.replicate_succ]; rfl
theorem strs_put (c : List (Str × Tok)) (i : Nat) (x : Str) (t : Tok) : (strValues c).set i (.str x t) = strValues (c.set i (x, t)) := by
  unfold strValues
  rw [List.map_set]
end Mine
namespace Mine
open PySem PySem.W PySem.Calls PyProof.Rows
abbrev penO (sc : Addr) (i : Int) (t : Tok) : Obj := listOf #[.ref sc, .int i t] 0
theorem upd_perm {h₀ h : Heap} {L pen sc : Addr} {o lo : Obj} {news : List (Addr × Obj)} {g : Obj → List (Addr × Obj)} (U : UpdF pen o news g) (hm : (sc, lo) ∈ news) (N : News h₀ L h news) :
    ∃ rest, (∀ p ∈ rest, p.1 ≠ pen) ∧ News h₀ L h ((pen, o) :: (sc, lo) :: rest) ∧ ∀ h' o', News h₀ L h' ((pen, o') :: (sc, lo) :: rest) → News h₀ L h' (g o') := by
  obtain ⟨pre, post, rfl, hg, a, b⟩ := U.split
  refine ⟨pre ++ post, fun p hp => (List.mem_append.mp hp).elim (a p) (b p), fun p hp => ?_, fun h' o' N' => ?_⟩
  · rcases List.mem_cons.mp hp with rfl | hp
    · exact N _ (List.mem_append.mpr (.inr (.head _)))
    · rcases List.mem_cons.mp hp with rfl | hp
      · exact N _ hm
      · exact N _ ((List.mem_append.mp hp).elim (fun q => List.mem_append.mpr (.inl q)) fun q => List.mem_append.mpr (.inr (.tail _ q)))
  · rw [hg]
    intro p hp
    rcases List.mem_append.mp hp with q | q
    · exact N' _ (.tail _ (.tail _ (List.mem_append.mpr (.inl q))))
    · rcases List.mem_cons.mp q with rfl | q
      · exact N' _ (.head _)
      · exact N' _ (.tail _ (.tail _ (List.mem_append.mpr (.inr q))))
theorem fmod_range {a b : Int} (hb : 1 ≤ b) : 0 ≤ a.fmod b ∧ a.fmod b < b := ⟨Int.fmod_nonneg_of_pos _ (by omega), Int.fmod_lt_of_pos _ (by omega)⟩
local macro_rules | `(tactic| k_all) => `(tactic| assumption)
theorem t_draw (pen sc : Addr) (i many : Int) (t tm : Tok) (vs : List Value) (ns : List Int) (hv : IntsAre vs ns) (hlen : ns.length ≤ 24) (hi : 0 ≤ i) (hi1 : i ≤ 40) (hm : 1 ≤ many) (hm1 : many ≤ 10000000) (hne : sc ≠ pen)
    (w : World) (mean : ExcName → Option Value) (mg mb : Str → Option Value) (dp un : Nat) (gd : Option (List Code)) (cn : Str) (cs : Scope) (a : Addr) (ccd : Value) (cl : List (Str × Addr)) (outer : List Env) (A₀ : Around) (base h₀ : Heap) (L : Addr) (m : Str → Option Value) (news : List (Addr × Obj)) (g : Obj → List (Addr × Obj)) (s : Shared) (Q E : Value → Shared → Prop)
    (B : Below A₀ base outer h₀) (F : Fr h₀ L s.heap m) (X : (hd.heap_39 w.params).In h₀) (N : News h₀ L s.heap news) (U : UpdF pen (penO sc i t) news g) (hmem : (sc, listOf vs.toArray 0) ∈ news) (T : Top view (looseW view []) mean mg mb h₀) (hk : cs.kind = .function) (hd : dp + 1 < recursionLimit) (hu : un + 8 < cLine)
    (hret : ∀ (r : Int) (t' t'' : Tok) (h' : Heap) (tk' : Nat), 0 ≤ r → r < many → Fr h₀ L h' m → News h₀ L h' (g (penO sc (i + 1) t'')) → Q (.int r t') { s with heap := h', toks := tk' }) :
    wpAny (model PySem.Challenge.rw_no0238_01.row.prog w) (ktrTop dp un gd cn cs L a ccd cl outer) (call (.ref 165) [.ref pen, .int many tm]) Q E s := by
  obtain ⟨rest, hrest, N1, back⟩ := upd_perm U hmem N
  clear N U hmem
  revert B F X N1 T hk hd hu
  w_top off
  k_fill
  intro B F X N T hk hd hu
  have hlenI : (ns.length : Int) ≤ 24 := by omega
  refine wpAny_call ?_
  k_dflt cell_enter
  k_steps
  all_goals exact hret _ _ _ _ _ (fmod_range hm).1 (fmod_range hm).2 (by k_asm) (back _ _ (by k_asm))
end Mine
namespace Mine
open PySem PySem.W PySem.Calls PyProof.Rows
abbrev tupleO (vs : List Value) : Obj := { cls := .type "tuple", data := .seq vs.toArray }
abbrev excO (C : Addr) (dx : Option Addr) (t : Addr) : Obj := { cls := .ref C, dict := dx, data := .fields #[.ref t, .none, .none, .none, .bool false, .none] }
section
variable {prog : Program} {w : World} {A : Around} {E : Value → Shared → Prop} {h : Heap} {g : Array GenState} {d : Drawn} {t : Nat} {os : OsState}
variable {nm q : Str} {C N : Addr} {bs bm : List Value} {hdct : Bool} {sn : List Str} {sub : List Value} {ab : Bool} {col : Option Bool} {dd : Option Addr} {k0 k1 k2 k3 k5 : Option Value}
theorem xm_check {M : Model} (hB : bm.contains (.type "Exception") = true) {rest : List Value} {Q : Unit → Shared → Prop} (hC : h.get? C = some (excClassObj nm q C N bs bm hdct sn sub ab col dd k0 k1 k2 k3 k5 "Exception.__new__"))
    (hq : Q () ⟨h, g, d, t, os⟩) : wpAny M A (checkBuiltinCall "Exception.__new__" ⟨.ref C :: rest, []⟩) Q E ⟨h, g, d, t, os⟩ := by
  have F := PySem.F.excBase_Exception
  have hcont : (Value.ref C :: bm).contains (.type "Exception") = true := by rw [List.contains_cons, hB, Bool.or_true]
  have hstar := F.noStar
  simp only [checkBuiltinCall, F.newKind, F.newSplit, F.newRow]
  repeat (first | with_reducible refine wpAny_loadPart_at hC ?_ | (with_reducible refine wpAny_isSubtype_exc hC ?_; rw [hcont]) | with_reducible refine wpAny_staticBase_exc hC ?_ | with_reducible refine wpAny_madeBy_exc hC ?_ | simp only [bne_self_eq_false, Bool.false_eq_true, if_false] | wp_step)
  exact hq
theorem xm_new {R : Result → Shared → Prop} (hB : bm.contains (.type "Exception") = true) (hA : bm.contains (.type "AttributeError") = false) (hN : bm.contains (.type "NameError") = false) {rest : List Value}
    (hC : h.get? C = some (excClassObj nm q C N bs bm hdct sn sub ab col dd k0 k1 k2 k3 k5 "Exception.__new__"))
    (hq : R (.ok (.ret (.ref (h.objs.size + 1)))) ⟨(h.push (tupleO rest)).push (excO C none h.objs.size), g, d, t, os⟩) (hrest : rest.length ≤ sizeLine) :
    codeAny (model prog w) A (.builtin "Exception.__new__" ⟨.ref C :: rest, []⟩) R ⟨h, g, d, t, os⟩ := by
  have F := PySem.F.excBase_Exception
  have hends := F.ends
  have hcB : (Value.ref C :: bm).contains (.type "Exception") = true := by rw [List.contains_cons, hB, Bool.or_true]
  have hcA : (Value.ref C :: bm).contains (.type "AttributeError") = false := by rw [List.contains_cons, hA]; rfl
  have hcN : (Value.ref C :: bm).contains (.type "NameError") = false := by rw [List.contains_cons, hN]; rfl
  refine codeAny_builtinAt F.entry ?_
  unfold Builtin.«BaseException.__new__»
  refine PySem.wpAt_bind ?_
  show PySem.wpAt _ _ _ (stack >>= _) _ _ _
  refine PySem.wpAt_bind (PySem.wpAt_stack fun p below => PySem.wpAt_of_wpAny ?_)
  wp_walk
  refine PySem.wpAt_of_wpAny ?_
  rw [F.owner]
  repeat (first | with_reducible refine wpAny_madeHere_exc F.canon hC ?_ | with_reducible refine wpAny_loadPart_at hC ?_ | (with_reducible refine wpAny_isSubtype_exc hC ?_; first | rw [hcB] | rw [hcA] | rw [hcN]) | wp_step)
  show R _ _
  rw [Heap.size_push]
  exact hq
theorem xm_call (hB : bm.contains (.type "Exception") = true) (hA : bm.contains (.type "AttributeError") = false) (hN : bm.contains (.type "NameError") = false) {rest : List Value} {fI : Addr} {Q : Value → Shared → Prop}
    (hC : h.get? C = some (excClassObj nm q C N bs bm hdct sn sub ab col dd k0 k1 k2 k3 k5 "Exception.__new__"))
    (hi : Looks (model prog w) h (typeLookup (.ref C) "__init__") (some (.ref fI)))
    (hb : ∀ self, Looks (model prog w) h (bindSpecial (.ref fI) self) (.ref fI, [self]))
    (hq : wpAny (model prog w) (A.under (.builtin "type.__call__" ⟨.ref C :: rest, []⟩)) (call (.ref fI) (.ref (h.objs.size + 1) :: rest)) (fun r s' => r = .none ∧ Q (.ref (h.objs.size + 1)) s') E ⟨(h.push (tupleO rest)).push (excO C none h.objs.size), g, d, t, os⟩)
    (hrest : rest.length ≤ sizeLine) :
    wpAny (model prog w) A (call (.ref C) rest) Q E ⟨h, g, d, t, os⟩ := by
  have F := PySem.F.excBase_Exception
  have f1 := tc_lookup
  have f2 := tc_bind (.ref C)
  have hT : (⟨h, g, d, t, os⟩ : Shared).TypeIs (.ref C) "type" := ⟨_, hC, rfl⟩
  refine wpAny_call (codeAny_of_tree ?_)
  show wpAny _ _ (callAny (.ref C) _) _ _ _
  repeat (any_goals (first | with_reducible assumption | with_reducible refine wpAny_loadPart_at hC ?_ | wp_step))
  refine ⟨rfl, ?_⟩
  refine codeAny_call_builtin_at (Code.quiet_builtin _ (by decide +kernel)) entry_typeCall (wpAny_check_type_call_sub hC ?_)
  repeat (first | with_reducible refine wpAny_loadPart_at hC ?_ | with_reducible refine wpAny_madeBy_exc hC ?_ | wp_step)
  refine codeAny_call_builtin_code (Code.quiet_builtin _ F.quiet) (xm_check hB hC ?_)
  refine xm_new hB hA hN hC ?_ hrest
  show wpAny _ _ _ _ _ _
  have k : ∀ b o, h.get? b = some o → ((h.push (tupleO rest)).push (excO C none h.objs.size)).get? b = some o := fun b o e => Heap.get?_push_of_some _ (Heap.get?_push_of_some _ e)
  have hC₁ := k _ _ hC
  have hget : ((h.push (tupleO rest)).push (excO C none h.objs.size)).get? (h.objs.size + 1) = some (excO C none h.objs.size) := by heap_get
  have hcC : (Value.ref C :: bm).contains (.ref C) = true := by simp
  have hi₁ := hi.keeps k
  have hb₁ := (hb (.ref (h.objs.size + 1))).keeps k
  unfold isInstance
  repeat (first | with_reducible refine wpAny_loadPart_at hget ?_ | wp_step)
  refine wpAny_isSubtype_exc hC₁ ?_
  rw [hcC]
  repeat wp_step
  refine hi₁.here ?_
  refine wpAny_holding (wpAny_bind ?_)
  refine hb₁.here ?_
  refine wpAny_bind (wpAny_mono hq (fun r s' hr => ?_) fun _ _ x => x)
  obtain ⟨rfl, hQ⟩ := hr
  wp_walk
  exact hQ
end
end Mine
namespace Mine
open PySem PySem.W PySem.Calls PyProof.Rows
open Builtin Builtin.ObjectAttr
def NsO (o : Obj) (m : Str → Option Value) : Prop := ∃ es ep, o.data = .dict es ep ∧ StrKeys es ∧ UniqKeys es ∧ ∀ name, nsFind es name = m name
theorem NsO.at {o : Obj} {m : Str → Option Value} {h : Heap} {D : Addr} (x : NsO o m) (e : h.get? D = some o) : h.Ns1 D m := let ⟨es, ep, a, b, c, d⟩ := x; ⟨o, es, ep, e, a, b, c, d⟩
theorem nsO_of {m : Str → Option Value} {h : Heap} {D : Addr} (x : h.Ns1 D m) : ∃ o, h.get? D = some o ∧ NsO o m := let ⟨o, es, ep, e, r⟩ := x; ⟨o, e, es, ep, r⟩
section
variable {prog : Program} {w : World} {A : Around} {E : Value → Shared → Prop} {h : Heap} {g : Array GenState} {d : Drawn} {t : Nat} {os : OsState}
variable {nm q : Str} {C N : Addr} {bs bm : List Value} {hdct : Bool} {sn : List Str} {sub : List Value} {ab : Bool} {col : Option Bool} {dd : Option Addr} {k0 k1 k2 k3 k5 : Option Value} {newId : String}
/-- the bare store: an exception without a dict of its own gets one -/
theorem xs_entry1 {e t0 : Addr} {name : Str} {v : Value} {tk : Tok} {Q : Fin → Shared → Prop}
    (hC : h.get? C = some (excClassObj nm q C N bs bm true sn sub ab col dd k0 k1 k2 k3 k5 newId)) (hl : Looks (model prog w) h (typeLookup (.ref C) name) none) (hpass : ∀ self, refuseLoop self "__setattr__" bm = pure ()) (hx : h.get? e = some (excO C none t0))
    (hq : ∀ h' tk', h'.Ns1 h.objs.size (fun y => if y = name then some v else none) → Heap.SameBut h.objs.size ((h.push { cls := .type "dict", data := .dict #[] }).update e fun o => { cls := o.cls, dict := some h.objs.size, data := o.data, slots := o.slots }) h' → Q (.done (.ret .none)) ⟨h', g, d, tk', os⟩) :
    wpAny (model prog w) A (Builtin.«object.__setattr__» ⟨[.ref e, .str name tk, v], []⟩) Q E ⟨h, g, d, t, os⟩ := by
  have hpass := hpass (.ref e)
  have hx₁ : (h.push { cls := .type "dict", data := .dict #[] }).get? e = some (excO C none t0) := Heap.get?_push_of_some _ hx
  have hxs : e ≠ h.objs.size := Nat.ne_of_lt (Heap.lt_size hx)
  have hgd : ((h.push { cls := .type "dict", data := .dict #[] }).update e fun o => { cls := o.cls, dict := some h.objs.size, data := o.data, slots := o.slots }).get? h.objs.size = some { cls := .type "dict", data := .dict #[] } :=
    (Heap.get?_update_ne _ _ _ _ hxs.symm).trans (Heap.get?_push_at rfl rfl)
  have hnd : ((h.push { cls := .type "dict", data := .dict #[] }).update e fun o => { cls := o.cls, dict := some h.objs.size, data := o.data, slots := o.slots }).Ns h.objs.size (fun _ => none) :=
    ⟨_, #[], _, hgd, rfl, fun e he => absurd he (by simp), fun _ => rfl⟩
  unfold Builtin.«object.__setattr__»
  repeat (first | rw [refuse_eq] | (rw [refuseLoop_ref, hpass]) | (with_reducible refine wpAny_loadPart_at hx ?_; dsimp only) | with_reducible refine wpAny_mroOf_exc hC ?_ | (with_reducible refine hl.here ?_) | ((fail_if_success (with_reducible show wpAny _ _ (nsSet _ _ _) _ _ _)); wp_step))
  refine wpAny_nsSet1 (Heap.Ns1.of_empty hnd) fun h' hn' hs => ?_
  obtain ⟨oD, esD, epD, hoD, hdD, hcD⟩ := hn'.count (Within.cons name v Within.nil)
  refine wpAny_bind (wpAny_lookBehind hoD (by rw [hdD]; exact pastItsLine_dict (Nat.le_trans hcD (by rw [List.length_cons, List.length_nil, sizeLine_eq]; omega))) ?_)
  wp_walk
  exact hq h' _ hn' hs
/-- the bare store into the dict that it has -/
theorem xs_entry2 {e t0 D : Addr} {mA : Str → Option Value} {ns : List Str} {name : Str} {v : Value} {tk : Tok} {Q : Fin → Shared → Prop}
    (hC : h.get? C = some (excClassObj nm q C N bs bm true sn sub ab col dd k0 k1 k2 k3 k5 newId)) (hl : Looks (model prog w) h (typeLookup (.ref C) name) none) (hpass : ∀ self, refuseLoop self "__setattr__" bm = pure ()) (hx : h.get? e = some (excO C (some D) t0))
    (hn : h.Ns1 D mA) (hw : Within mA ns) (hsz : ns.length ≤ 100)
    (hq : ∀ h' tk', h'.Ns1 D (fun y => if y = name then some v else mA y) → Heap.SameBut D h h' → Q (.done (.ret .none)) ⟨h', g, d, tk', os⟩) :
    wpAny (model prog w) A (Builtin.«object.__setattr__» ⟨[.ref e, .str name tk, v], []⟩) Q E ⟨h, g, d, t, os⟩ := by
  have hpass := hpass (.ref e)
  unfold Builtin.«object.__setattr__»
  repeat (first | rw [refuse_eq] | (rw [refuseLoop_ref, hpass]) | (with_reducible refine wpAny_loadPart_at hx ?_; dsimp only) | with_reducible refine wpAny_mroOf_exc hC ?_ | (with_reducible refine hl.here ?_) | ((fail_if_success (with_reducible show wpAny _ _ (nsSet _ _ _) _ _ _)); wp_step))
  refine wpAny_nsSet1 hn fun h' hn' hs => ?_
  obtain ⟨oD, esD, epD, hoD, hdD, hcD⟩ := hn'.count (Within.cons name v hw)
  refine wpAny_bind (wpAny_lookBehind hoD (by rw [hdD]; exact pastItsLine_dict (Nat.le_trans hcD (by rw [List.length_cons, sizeLine_eq]; omega))) ?_)
  wp_walk
  exact hq h' _ hn' hs
end
section
variable {prog : Program} {w : World} {A : Around} {E : Value → Shared → Prop} {s : Shared} {h₀ : Heap} {L : Addr} {m : Str → Option Value} {news : List (Addr × Obj)} {u : Obj → List (Addr × Obj)} {K : Frag}
variable {nm q : Str} {C N : Addr} {bs bm : List Value} {sn : List Str} {sub : List Value} {ab : Bool} {col : Option Bool} {dd : Option Addr} {k0 k1 k2 k3 k5 : Option Value} {newId : String}
theorem updF_mem {d : Addr} {o : Obj} {l : List (Addr × Obj)} {g : Obj → List (Addr × Obj)} (U : UpdF d o l g) : (d, o) ∈ l := by
  obtain ⟨pre, post, rfl, _, _, _⟩ := U.split
  exact List.mem_append.mpr (.inr (.head _))
/-- an object of the ledger is turned, and all else of the heap stands. -/
theorem updF_turn {d : Addr} {o o' : Obj} {h h' : Heap} {l : List (Addr × Obj)} {g : Obj → List (Addr × Obj)} (U : UpdF d o l g) (F : Fr h₀ L h m) (N : News h₀ L h l)
    (he : h'.get? d = some o') (hk : ∀ b o, b ≠ d → h.get? b = some o → h'.get? b = some o) : Fr h₀ L h' m ∧ News h₀ L h' (g o') := by
  obtain ⟨pre, post, rfl, hg, a, b⟩ := U.split
  have D := N (d, o) (List.mem_append.mpr (.inr (.head _)))
  refine ⟨⟨?_, fun x ox e => hk x ox (fun z => by have := D.2.2; rw [← z, e] at this; cases this) (F.keep x ox e), F.above⟩, fun p hp => ?_⟩
  · obtain ⟨oL, es, ep, hL, r⟩ := F.ns
    exact ⟨oL, es, ep, hk _ _ (Ne.symm D.2.1) hL, r⟩
  · rw [hg] at hp
    rcases List.mem_append.mp hp with z | z
    · have P := N p (List.mem_append.mpr (.inl z)); exact ⟨hk _ _ (a p z) P.1, P.2⟩
    · rcases List.mem_cons.mp z with rfl | z
      · exact ⟨he, D.2⟩
      · have P := N p (List.mem_append.mpr (.inr (.tail _ z))); exact ⟨hk _ _ (b p z) P.1, P.2⟩
theorem fr_push_size {h : Heap} (F : Fr h₀ L h m) : L < h.objs.size := by
  obtain ⟨oL, _, _, hL, _⟩ := F.ns
  exact Heap.lt_size hL
theorem xl_set1 {e t0 : Addr} {name : Str} {v : Value} {Q : Unit → Shared → Prop} (F : Fr h₀ L s.heap m) (X₀ : K.In h₀) (Nw : News h₀ L s.heap news) (U : UpdF e (excO C none t0) news u)
    (hK : K.lookup C = some (excClassObj nm q C N bs bm true sn sub ab col dd k0 k1 k2 k3 k5 newId)) (hs : findIn K (.ref C) "__setattr__" = some (some (.builtin "object.__setattr__"))) (hl : findIn K (.ref C) name = some none)
    (hi : subIn K (.ref C) (.type "object") = some true) (hpass : ∀ self, refuseLoop self "__setattr__" bm = pure ())
    (h : ∀ D od h' tk', (∀ p ∈ news, p.1 < D) → NsO od (fun y => if y = name then some v else none) → Fr h₀ L h' m → News h₀ L h' ((D, od) :: u (excO C (some D) t0)) → Q () { s with heap := h', toks := tk' }) :
    wpAny (model prog w) A (setAttr (.ref e) name v) Q E s := by
  have X := X₀.keeps F.keep
  have P := Nw _ (updF_mem U)
  have I : InstAt s.heap e (excO C none t0) C none := ⟨P.1, rfl, rfl, trivial⟩
  have SF := PySem.F.store_Exception
  have isub : Looks (model prog w) s.heap (isInstance (.ref e) (.type "object")) true := I.type.andThen (looks_subIn X hi)
  refine set_plain X I hs ?_
  refine codeAny_call_builtin SF.slot.plain SF.entry (@check_slot (model prog w) _ _ _ "object.__setattr__" "object" "__setattr__" (.ref e) [.str name s.toks, v] [] _ SF.kind SF.split isub (SF.args (.ref e) (.str name s.toks) v) ?_)
  refine xs_entry1 (X _ _ hK) (looks_findIn X hl) hpass P.1 (fun h' tk' hn hsb => ?_)
  obtain ⟨od, hod, hno⟩ := nsO_of hn
  have hlt : e < s.heap.objs.size := Heap.lt_size P.1
  have ne : e ≠ s.heap.objs.size := Nat.ne_of_lt hlt
  have heq : h'.get? e = some (excO C (some s.heap.objs.size) t0) := (hsb.2 e ne).trans (Heap.get?_update_self _ (Heap.get?_push_of_some _ P.1) rfl)
  have hk : ∀ b o, b ≠ e → s.heap.get? b = some o → h'.get? b = some o := fun b o hb hg =>
    (hsb.2 b (Nat.ne_of_lt (Heap.lt_size hg))).trans ((Heap.get?_update_ne _ _ _ _ hb).trans (Heap.get?_push_of_some _ hg))
  obtain ⟨F', N'⟩ := updF_turn U F Nw heq hk
  refine h _ od h' tk' (fun p hp => Heap.lt_size (Nw p hp).1) hno F' fun p hp => ?_
  rcases List.mem_cons.mp hp with rfl | hp
  · exact ⟨hod, Nat.ne_of_gt (fr_push_size F), none_at_size F⟩
  · exact N' p hp
theorem xl_set2 {e t0 D : Addr} {od : Obj} {mA : Str → Option Value} {ns : List Str} {name : Str} {v : Value} {Q : Unit → Shared → Prop} (F : Fr h₀ L s.heap m) (X₀ : K.In h₀) (Nw : News h₀ L s.heap news) (he : (e, excO C (some D) t0) ∈ news) (U : UpdF D od news u)
    (hno : NsO od mA) (hw : Within mA ns) (hsz : ns.length ≤ 100)
    (hK : K.lookup C = some (excClassObj nm q C N bs bm true sn sub ab col dd k0 k1 k2 k3 k5 newId)) (hs : findIn K (.ref C) "__setattr__" = some (some (.builtin "object.__setattr__"))) (hl : findIn K (.ref C) name = some none)
    (hi : subIn K (.ref C) (.type "object") = some true) (hpass : ∀ self, refuseLoop self "__setattr__" bm = pure ())
    (h : ∀ od' h' tk', NsO od' (fun y => if y = name then some v else mA y) → Fr h₀ L h' m → News h₀ L h' (u od') → Q () { s with heap := h', toks := tk' }) :
    wpAny (model prog w) A (setAttr (.ref e) name v) Q E s := by
  have X := X₀.keeps F.keep
  have P := Nw _ he
  have PD := Nw _ (updF_mem U)
  have I : InstAt s.heap e (excO C (some D) t0) C (some od) := ⟨P.1, rfl, rfl, PD.1⟩
  have SF := PySem.F.store_Exception
  have isub : Looks (model prog w) s.heap (isInstance (.ref e) (.type "object")) true := I.type.andThen (looks_subIn X hi)
  refine set_plain X I hs ?_
  refine codeAny_call_builtin SF.slot.plain SF.entry (@check_slot (model prog w) _ _ _ "object.__setattr__" "object" "__setattr__" (.ref e) [.str name s.toks, v] [] _ SF.kind SF.split isub (SF.args (.ref e) (.str name s.toks) v) ?_)
  refine xs_entry2 (X _ _ hK) (looks_findIn X hl) hpass P.1 (hno.at PD.1) hw hsz (fun h' tk' hn hsb => ?_)
  obtain ⟨od', hod, hno'⟩ := nsO_of hn
  obtain ⟨F', N'⟩ := updF_turn U F Nw hod fun b o hb hg => (hsb.2 b hb).trans hg
  exact h od' h' tk' hno' F' N'
theorem xi_check {M : Model} {e : Addr} {oe : Obj} {rest : List Value} {Q : Unit → Shared → Prop}
    (hC : s.heap.get? C = some (excClassObj nm q C N bs bm true sn sub ab col dd k0 k1 k2 k3 k5 newId)) (hB : bm.contains (.type "Exception") = true) (he : s.heap.get? e = some oe) (hcls : oe.cls = .ref C) (hq : Q () s) :
    wpAny M A (checkBuiltinCall "Exception.__init__" ⟨.ref e :: rest, []⟩) Q E s := by
  have F := PySem.F.excBase_Exception
  have hcB : (Value.ref C :: bm).contains (.type "Exception") = true := by rw [List.contains_cons, hB, Bool.or_true]
  have hshort := F.noStar
  obtain ⟨hh, g, d, t, os⟩ := s
  simp only [checkBuiltinCall, F.initKind, F.initSplit, F.initRow]
  repeat (first | (with_reducible refine wpAny_loadPart_at he ?_; rw [hcls]) | with_reducible refine wpAny_loadPart_at hC ?_ | (with_reducible refine wpAny_isSubtype_exc hC ?_; rw [hcB]) | wp_step)
  refine wpAny_onRaise ?_
  rw [show ∀ (a b : String) (n : Nat), Bind.check ⟨.positional, "*", "Exception", .self, [⟨"args", .varPos, false⟩]⟩ a b n (List.map (fun x => x.fst) ({ pos := Value.ref e :: rest } : Args).kw) = pure () from
    fun a b n => check_star_args _ _ _ _ _ _]
  exact wpAny_pure hq
theorem xl_init {e t0 : Addr} {dx : Option Addr} {v : Value} {Q : Value → Shared → Prop} (F : Fr h₀ L s.heap m) (X₀ : K.In h₀) (Nw : News h₀ L s.heap news) (U : UpdF e (excO C dx t0) news u)
    (hK : K.lookup C = some (excClassObj nm q C N bs bm true sn sub ab col dd k0 k1 k2 k3 k5 newId)) (hB : bm.contains (.type "Exception") = true)
    (h : ∀ t' h', (∀ p ∈ news, p.1 < t') → Fr h₀ L h' m → News h₀ L h' ((t', tupleO [v]) :: u (excO C dx t')) → Q .none { s with heap := h' }) :
    wpAny (model prog w) A (call (.builtin "Exception.__init__") [.ref e, v]) Q E s := by
  have X := X₀.keeps F.keep
  have P := Nw _ (updF_mem U)
  have FE := PySem.F.excBase_Exception
  refine wpAny_call (codeAny_call_builtin FE.init.plain FE.initEntry (xi_check (X _ _ hK) hB P.1 rfl ?_))
  unfold Builtin.«BaseException.__init__»
  dsimp only
  rw [if_neg (by simp)]
  unfold newTuple Builtin.BaseException.bexcPut
  have he₁ := Heap.get?_push_of_some (h := s.heap) (tupleO [v]) P.1
  have hlt : e < s.heap.objs.size := Heap.lt_size P.1
  have ne : e ≠ s.heap.objs.size := Nat.ne_of_lt hlt
  refine wpAny_bind (wpAny_newObj_type (wpAny_bind (wpAny_bind (wpAny_field he₁ rfl rfl (wpAny_bind (wpAny_setField he₁ rfl (Nat.zero_lt_succ _) ?_))))) (by size_fits))
  refine wpAny_letGo (wpAny_pure ?_)
  have heq : ((s.heap.push (tupleO [v])).update e (Obj.mapFields (·.setIfInBounds 0 (.ref s.heap.objs.size)))).get? e = some (excO C dx s.heap.objs.size) := by
    rw [Heap.get?_update_self _ he₁ rfl]
    rfl
  have hk : ∀ b o, b ≠ e → s.heap.get? b = some o → ((s.heap.push (tupleO [v])).update e (Obj.mapFields (·.setIfInBounds 0 (.ref s.heap.objs.size)))).get? b = some o := fun b o hb hg =>
    (Heap.get?_update_ne _ _ _ _ hb).trans (Heap.get?_push_of_some _ hg)
  obtain ⟨F', N'⟩ := updF_turn U F Nw heq hk
  refine h s.heap.objs.size _ (fun p hp => Heap.lt_size (Nw p hp).1) F' fun p hp => ?_
  rcases List.mem_cons.mp hp with rfl | hp
  · exact ⟨(Heap.get?_update_ne _ _ _ _ ne.symm).trans (Heap.get?_push_at rfl rfl), Nat.ne_of_gt (fr_push_size F), none_at_size F⟩
  · exact N' p hp
end
end Mine
namespace Mine
open PySem PySem.W PySem.Calls PyProof.Rows
abbrev bm51 : List Value := [.ref 31, .type "Exception", .type "BaseException", .type "object"]
theorem cls51 (P : Params) : ∃ nm q N bs sn sub ab col dd k0 k1 k2 k3 k5, (hd.heap_39 P).lookup 51 = some (excClassObj nm q 51 N bs bm51 true sn sub ab col dd k0 k1 k2 k3 k5 "Exception.__new__") :=
  ⟨⟨#[70, 111, 114, 109, 97, 116, 70, 97, 117, 108, 116]⟩, ⟨#[70, 111, 114, 109, 97, 116, 70, 97, 117, 108, 116]⟩, 50, [.ref 31], [], [], false, none, none, some (.ref 35), none, some (.str ⟨#[70, 111, 114, 109, 97, 116, 70, 97, 117, 108, 116]⟩ 218), some (.str ⟨#[70, 111, 114, 109, 97, 116, 70, 97, 117, 108, 116]⟩ 226), some (.bool true), by kernel_rfl⟩
theorem meta_exc : typeOf (.type "Exception") = pure (.type "type") := by kernel_rfl
theorem pass51' (self : Value) : refuseLoop self "__setattr__" bm51 = pure () := by
  rw [refuseLoop_ref]; exact PySem.F.store_Exception.passes self
section
variable {w : World} {A : Around} {E : Value → Shared → Prop} {s : Shared} {h₀ : Heap} {L : Addr} {m : Str → Option Value} {news : List (Addr × Obj)} {u : Obj → List (Addr × Obj)}
theorem y_set1 {e t0 : Addr} {name : Str} {v : Value} {Q : Unit → Shared → Prop} (F : Fr h₀ L s.heap m) (X₀ : (hd.heap_39 w.params).In h₀) (Nw : News h₀ L s.heap news) (U : UpdF e (excO 51 none t0) news u)
    (hs : findIn (hd.heap_39 w.params) (.ref 51) "__setattr__" = some (some (.builtin "object.__setattr__"))) (hl : findIn (hd.heap_39 w.params) (.ref 51) name = some none)
    (hi : subIn (hd.heap_39 w.params) (.ref 51) (.type "object") = some true)
    (h : ∀ D od h' tk', (∀ p ∈ news, p.1 < D) → NsO od (fun y => if y = name then some v else none) → Fr h₀ L h' m → News h₀ L h' ((D, od) :: u (excO 51 (some D) t0)) → Q () { s with heap := h', toks := tk' }) :
    wpAny (model PySem.Challenge.rw_no0238_01.row.prog w) A (setAttr (.ref e) name v) Q E s := by
  obtain ⟨_, _, _, _, _, _, _, _, _, _, _, _, _, _, hK⟩ := cls51 w.params
  exact xl_set1 F X₀ Nw U hK hs hl hi pass51' h
theorem y_set2 {e t0 D : Addr} {od : Obj} {mA : Str → Option Value} {ns : List Str} {name : Str} {v : Value} {Q : Unit → Shared → Prop} (F : Fr h₀ L s.heap m) (X₀ : (hd.heap_39 w.params).In h₀) (Nw : News h₀ L s.heap news) (he : (e, excO 51 (some D) t0) ∈ news) (U : UpdF D od news u)
    (hno : NsO od mA) (hw : Within mA ns) (hsz : ns.length ≤ 100)
    (hs : findIn (hd.heap_39 w.params) (.ref 51) "__setattr__" = some (some (.builtin "object.__setattr__"))) (hl : findIn (hd.heap_39 w.params) (.ref 51) name = some none)
    (hi : subIn (hd.heap_39 w.params) (.ref 51) (.type "object") = some true)
    (h : ∀ od' h' tk', NsO od' (fun y => if y = name then some v else mA y) → Fr h₀ L h' m → News h₀ L h' (u od') → Q () { s with heap := h', toks := tk' }) :
    wpAny (model PySem.Challenge.rw_no0238_01.row.prog w) A (setAttr (.ref e) name v) Q E s := by
  obtain ⟨_, _, _, _, _, _, _, _, _, _, _, _, _, _, hK⟩ := cls51 w.params
  exact xl_set2 F X₀ Nw he U hno hw hsz hK hs hl hi pass51' h
theorem y_init {e t0 : Addr} {dx : Option Addr} {v : Value} {Q : Value → Shared → Prop} (F : Fr h₀ L s.heap m) (X₀ : (hd.heap_39 w.params).In h₀) (Nw : News h₀ L s.heap news) (U : UpdF e (excO 51 dx t0) news u)
    (h : ∀ t' h', (∀ p ∈ news, p.1 < t') → Fr h₀ L h' m → News h₀ L h' ((t', tupleO [v]) :: u (excO 51 dx t')) → Q .none { s with heap := h' }) :
    wpAny (model PySem.Challenge.rw_no0238_01.row.prog w) A (call (.builtin "Exception.__init__") [.ref e, v]) Q E s := by
  obtain ⟨_, _, _, _, _, _, _, _, _, _, _, _, _, _, hK⟩ := cls51 w.params
  exact xl_init F X₀ Nw U hK rfl h
end
local macro_rules | `(tactic| walk_at "setAttr ref") => `(tactic| (k_here; k_dflt (refine' y_set2 ?F ?X ?N ?e ?U ?o ?w ?z ?s ?l ?i ?_; (case F => k_asm); (case X => k_asm); (case N => k_asm); (case e => k_mem); (case U => k_updF); (case o => assumption); (case w => within_ways); (case z => decide); (case s => k_is); (case l => k_is); (case i => k_is)); (intro od' h' tk' no' F' N'; (try dsimp only at N'))))
local macro_rules | `(tactic| walk_at "setAttr ref") => `(tactic| (k_here; k_dflt (refine' y_set1 ?F ?X ?N ?U ?s ?l ?i ?_; (case F => k_asm); (case X => k_asm); (case N => k_asm); (case U => k_updF); (case s => k_is); (case l => k_is); (case i => k_is)); (intro D' od' h' tk' l1 no' F' N'; (try k_lt l1); (try dsimp only at N'))))
local macro_rules | `(tactic| walk_at "call builtin:Exception.__init__") => `(tactic| (k_here; k_dflt (refine' y_init ?F ?X ?N ?U ?_; (case F => k_asm); (case X => k_asm); (case N => k_asm); (case U => k_updF)); (intro t' h' l1 F' N'; (try k_lt l1); (try dsimp only at N'))))
local macro_rules | `(tactic| k_all) => `(tactic| assumption)
local macro_rules | `(tactic| walk_at "getMethod type:Exception") => `(tactic| (k_here; refine' method_type ?F ?X ?m (by decide +kernel) ?e ?h ?_; (case F => k_asm); (case X => k_asm); (case m => exact meta_exc); (case e => k_dflt k_is); (case h => k_handed)))
local macro_rules | `(tactic| walk_at "call ref") => `(tactic| (k_here; (with_reducible show wpAny _ _ (call (Value.ref 28) [Value.ref _, Value.str _ _]) _ _ _); (refine wpAny_call ?_); k_dflt (refine' code_def ?k1 ?k2 ?k3 ?k4 ?k5 ?kA ?kF ?kK ?k6 ?k7 ?k8 ?k9 ?kB ?_ ?c2 ?c3 ?c4 ?c5; (case kA => exact rfl); (case kF => exact rfl); (case kK => first | exact rfl | assumption); (case k1 => k_asm); (case k2 => k_asm); (case k3 => k_asm); (case k4 => k_asm); (case k5 => k_asm); (case k6 => k_is); (case k7 => k_is); (case k8 => ktr_room); (case k9 => exact BindsTo.of_eq rfl); (case c5 => decide); (case kB => exact locs rfl); (case c2 => exact rfl); (case c3 => exact rfl); (case c4 => exact rfl); k_whole; intro g' L' h' FG' F' N' B' X' T'; (try dsimp only); (try k_lift B'); (try k_fold))))
theorem of_allLt {d : Addr} : ∀ {l : List (Addr × Obj)}, AllLt d l → ∀ p ∈ l, p.1 < d
  | [], _, _, h => nomatch h
  | _ :: _, h, _, .head _ => h.1
  | _ :: _, h, p, .tail _ q => of_allLt h.2 p q
theorem t_init (e t0 : Addr) (i : Int) (x : Str) (ti tx : Tok) (av : List Value) (w : World) (mean : ExcName → Option Value) (mg mb : Str → Option Value) (dp un : Nat) (gd : Option (List Code)) (cn : Str) (cs : Scope) (a : Addr) (ccd : Value) (cl : List (Str × Addr)) (outer : List Env) (A₀ : Around) (base h₀ : Heap) (L : Addr) (m : Str → Option Value) (news : List (Addr × Obj)) (s : Shared) (Q E : Value → Shared → Prop)
    (B : Below A₀ base outer h₀) (F : Fr h₀ L s.heap m) (X : (hd.heap_39 w.params).In h₀) (N : News h₀ L s.heap ((e, excO 51 none t0) :: news)) (hne : ∀ p ∈ news, p.1 ≠ e) (T : Top view (looseW view []) mean mg mb h₀) (hk : cs.kind = .function) (hd : dp + 2 < recursionLimit) (hu : un + 16 < cLine)
    (hret : ∀ (D t : Addr) (od : Obj) (h' : Heap) (tk' : Nat), (∀ p ∈ news, p.1 < D) → (∀ p ∈ news, p.1 < t) → t < D → e < t → Fr h₀ L h' m → News h₀ L h' ((D, od) :: (t, tupleO [.str x tx]) :: (e, excO 51 (some D) t) :: news) → Q .none { s with heap := h', toks := tk' }) :
    wpAny (model PySem.Challenge.rw_no0238_01.row.prog w) (ktrTop dp un gd cn cs L a ccd cl outer) (call (.ref 48) [.ref e, .int i ti, .str x tx]) Q E s := by
  revert B F X N T hk hd hu
  w_top off
  k_fill
  intro B F X N T hk hd hu
  refine wpAny_call ?_
  k_dflt cell_enter
  k_steps
  all_goals (
    exact hret _ _ _ _ _ (of_allLt (by first | assumption | (rename _ ∧ _ ∧ AllLt _ _ => z9; exact z9.2.2))) (of_allLt (by first | assumption | (rename _ ∧ AllLt _ _ => z9; exact z9.2))) (by rename _ ∧ _ ∧ AllLt _ _ => z9; exact z9.1) (by rename _ ∧ AllLt _ _ => z9; exact z9.1) (by k_asm) (by k_asm))
end Mine
namespace Mine
open PySem PySem.W PySem.Calls PyProof.Rows
section
variable {prog : Program} {w : World} {A : Around} {E : Value → Shared → Prop} {s : Shared} {env : Env}
variable {nm q : Str} {C N : Addr} {bs bm : List Value} {hdct : Bool} {sn : List Str} {sub : List Value} {ab : Bool} {col : Option Bool} {dd : Option Addr} {k0 k1 k2 k3 k5 : Option Value} {newId : String}
theorem xr_stmt {x : Sem Value} {Q : Flow → Shared → Prop} (hB : bm.contains (.type "BaseException") = true) (hh : A.handled = none)
    (h : wpAny (model prog w) A x (fun v s₁ => ∃ e dx t, v = .ref e ∧ s₁.heap.get? C = some (excClassObj nm q C N bs bm hdct sn sub ab col dd k0 k1 k2 k3 k5 newId) ∧ s₁.heap.get? e = some (excO C dx t) ∧ E (.ref e) s₁) E s) :
    wpAny (model prog w) A (raiseStmt env (some x) none) Q E s := by
  have hcB : (Value.ref C :: bm).contains (.type "BaseException") = true := by rw [List.contains_cons, hB, Bool.or_true]
  unfold raiseStmt
  refine wpAny_bind (wpAny_mono h (fun v s₁ h₁ => ?_) fun _ _ x => x)
  obtain ⟨e, dx, t, rfl, hC, he, hE⟩ := h₁
  obtain ⟨hp, g, d, tk, os⟩ := s₁
  repeat (first | (with_reducible refine wpAny_loadPart_at he ?_; dsimp only) | with_reducible refine wpAny_loadPart_at hC ?_ | (with_reducible refine wpAny_isSubtype_exc hC ?_; rw [hcB]) | wp_step)
  exact wpAny_raiseNew_none hh hE
theorem xr_exec {ex : PySem.Expr} {pos : Pos} {Q : Flow → Shared → Prop} (hB : bm.contains (.type "BaseException") = true) (hh : A.handled = none)
    (h : wpAny (model prog w) A (eval ex env) (fun v s₁ => ∃ e dx t, v = .ref e ∧ s₁.heap.get? C = some (excClassObj nm q C N bs bm hdct sn sub ab col dd k0 k1 k2 k3 k5 newId) ∧ s₁.heap.get? e = some (excO C dx t) ∧ E (.ref e) s₁) E s) :
    wpAny (model prog w) A (exec (.Raise (some ex) none pos) env) Q E s := by
  rw [arm_exec_Raise]
  simp only [evalOpt, Option.map]
  exact wpAny_bind (wpAny_standAt (xr_stmt hB hh (wpAny_bind (wpAny_mono h (fun v s₃ h₃ => wpAny_bind (wpAny_standAt (wpAny_pure h₃))) fun _ _ x => x))))
end
/-- what a raise leaves: the new exception, its text and its dict on the ledger -/
abbrev RaisedAt (h₀ : Heap) (L : Addr) (m : Str → Option Value) (news : List (Addr × Obj)) (E : Value → Shared → Prop) (s : Shared) (x : Str) : Prop :=
  ∀ (e D t : Addr) (od : Obj) (tx : Tok) (h' : Heap) (tk' : Nat), (∀ p ∈ news, p.1 ≠ e) → (∀ p ∈ news, p.1 ≠ t) → Fr h₀ L h' m → News h₀ L h' ((D, od) :: (t, tupleO [.str x tx]) :: (e, excO 51 (some D) t) :: news) → E (.ref e) { s with heap := h', toks := tk' }
section
variable {w : World} {A A₀ : Around} {E : Value → Shared → Prop} {s : Shared} {h₀ base : Heap} {L : Addr} {m : Str → Option Value} {news : List (Addr × Obj)} {mean : ExcName → Option Value} {mg mb : Str → Option Value} {dp un : Nat} {gd : Option (List Code)} {cn : Str} {cs : Scope} {a : Addr} {ccd : Value} {cl : List (Str × Addr)} {outer : List Env}
theorem y_call {i : Int} {x : Str} {ti tx : Tok} {Q : Value → Shared → Prop}
    (B : Below A₀ base outer h₀) (F : Fr h₀ L s.heap m) (X : (hd.heap_39 w.params).In h₀) (N : News h₀ L s.heap news) (T : Top view (looseW view []) mean mg mb h₀) (hk : cs.kind = .function) (hd' : dp + 4 < recursionLimit) (hu : un + 32 < cLine)
    (hi : findIn (hd.heap_39 w.params) (.ref 51) "__init__" = some (some (.ref 48))) (hf : typeIn (hd.heap_39 w.params) (.ref 48) = some (.type "function"))
    (h : ∀ (e D t : Addr) (od : Obj) (h' : Heap) (tk' : Nat), (∀ p ∈ news, p.1 ≠ e) → (∀ p ∈ news, p.1 ≠ t) → Fr h₀ L h' m → News h₀ L h' ((D, od) :: (t, tupleO [.str x tx]) :: (e, excO 51 (some D) t) :: news) → Q (.ref e) { s with heap := h', toks := tk' }) :
    wpAny (model PySem.Challenge.rw_no0238_01.row.prog w) (ktrTop dp un gd cn cs L a ccd cl outer) (call (.ref 51) [.int i ti, .str x tx]) Q E s := by
  obtain ⟨_, _, _, _, _, _, _, _, _, _, _, _, _, _, hK⟩ := cls51 w.params
  have Xh := X.keeps F.keep
  have N1 := (N.push F (tupleO [.int i ti, .str x tx])).push (F.push _) (excO 51 none s.heap.objs.size)
  have F1 := (F.push (tupleO [.int i ti, .str x tx])).push (excO 51 none s.heap.objs.size)
  rw [Heap.size_push] at N1
  have lt1 : ∀ p ∈ news, p.1 < s.heap.objs.size := fun p hp => Heap.lt_size (N p hp).1
  obtain ⟨hh, g, d, t, os⟩ := s
  refine xm_call (bm := bm51) rfl rfl rfl (Xh _ _ hK) (looks_findIn Xh hi) (fun self => bind_fn Xh self hf) ?_ (by rw [sizeLine_eq]; exact Nat.le_of_ble_eq_true rfl)
  refine t_init (hh.objs.size + 1) hh.objs.size i x ti tx [] w mean mg mb _ _ _ cn cs a ccd cl outer A₀ base h₀ L m ((hh.objs.size, tupleO [.int i ti, .str x tx]) :: news) _ _ _ B F1 X N1 ?_ T hk ?_ ?_ ?_
  · intro p hp
    rcases List.mem_cons.mp hp with rfl | hp
    · exact Nat.ne_of_lt (Nat.lt_succ_self _)
    · exact Nat.ne_of_lt (Nat.lt_succ_of_lt (lt1 p hp))
  · have e1 : (Code.builtin "type.__call__" { pos := [Value.ref 51, Value.int i ti, Value.str x tx] }).weight = 1 := rfl
    rw [e1]; show dp + 1 + 2 < recursionLimit; omega
  · have e1 : (Code.builtin "type.__call__" { pos := [Value.ref 51, Value.int i ti, Value.str x tx] }).cUnits = 1 := rfl
    rw [e1]; show un + 1 + 16 < cLine; omega
  · intro D t' od h' tk' l1 l2 l3 l4 F' N'
    refine ⟨rfl, h _ D t' od h' tk' (fun p hp => Nat.ne_of_lt (Nat.lt_succ_of_lt (lt1 p hp))) (fun p hp => Nat.ne_of_lt (l2 p (.tail _ hp))) F' fun p hp => N' p ?_⟩
    rcases List.mem_cons.mp hp with rfl | hp
    · exact .head _
    · rcases List.mem_cons.mp hp with rfl | hp
      · exact .tail _ (.head _)
      · rcases List.mem_cons.mp hp with rfl | hp
        · exact .tail _ (.tail _ (.head _))
        · exact .tail _ (.tail _ (.tail _ (.tail _ hp)))
end
def FlewK (h₀ : Heap) (L : Addr) (m : Str → Option Value) (E : Value → Shared → Prop) (v : Value) (s₁ : Shared) : Prop :=
  ∃ e D t, v = .ref e ∧ Fr h₀ L s₁.heap m ∧ s₁.heap.get? e = some (excO 51 (some D) t) ∧ E (.ref e) s₁
section
variable {w : World} {A A₀ : Around} {E : Value → Shared → Prop} {s : Shared} {h₀ base : Heap} {L : Addr} {m : Str → Option Value} {news : List (Addr × Obj)} {env : Env}
theorem flewK_ {e D t : Addr} (F : Fr h₀ L s.heap m) (N : News h₀ L s.heap news) (he : (e, excO 51 (some D) t) ∈ news) (hE : E (.ref e) s) : FlewK h₀ L m E (.ref e) s := ⟨e, D, t, rfl, F, (N _ he).1, hE⟩
theorem y_exec {ex : PySem.Expr} {pos : Pos} {Q : Flow → Shared → Prop} (F : Fr h₀ L s.heap m) (X : (hd.heap_39 w.params).In h₀) (hh : A.handled = none)
    (h : wpAny (model PySem.Challenge.rw_no0238_01.row.prog w) A (eval ex env) (FlewK h₀ L m E) E s) :
    wpAny (model PySem.Challenge.rw_no0238_01.row.prog w) A (exec (.Raise (some ex) none pos) env) Q E s := by
  obtain ⟨nm, q, N9, bs, sn, sub, ab, col, dd, j0, j1, j2, j3, j5, hK⟩ := cls51 w.params
  refine xr_exec (C := 51) (nm := nm) (q := q) (N := N9) (bs := bs) (bm := bm51) (hdct := true) (sn := sn) (sub := sub) (ab := ab) (col := col) (dd := dd) (k0 := j0) (k1 := j1) (k2 := j2) (k3 := j3) (k5 := j5) (newId := "Exception.__new__") rfl hh (wpAny_mono h (fun v s₁ z => ?_) fun _ _ x => x)
  obtain ⟨e, D, t, rfl, F', he, hE⟩ := z
  exact ⟨e, some D, t, rfl, X.keeps F'.keep _ _ hK, he, hE⟩
theorem leave_raiseT {M : Model} {outer : List Env} {g : Heap} {s' : Shared} {D e t C a : Addr} {od : Obj} {vs : List Value} {name : Str} {scope : Scope} {cd : Value} {Q : Unit → Shared → Prop}
    (K : Below A base outer g) (F : Fr g L s'.heap m) (N : News g L s'.heap ((D, od) :: (t, tupleO vs) :: (e, excO C (some D) t) :: news)) (h1 : ∀ p ∈ news, p.1 ≠ e) (h2 : ∀ p ∈ news, p.1 ≠ t)
    (hQ : ∀ h', RaisedS base g outer e (.ref C) t vs news h' → g.UpToSlots h' → Q () { s' with heap := h' }) (hk : scope.kind = .function := by rfl) :
    wpAny M (A.deeper (envOf name scope L a cd)) (leaving (envOf name scope L a cd) (.ref e)) Q E s' := by
  have K' := K.push (name := name) (a := a) (cd := cd) F hk
  have Pe := N (e, excO C (some D) t) (.tail _ (.tail _ (.head _)))
  have Pt := N (t, tupleO vs) (.tail _ (.head _))
  have hin : ∀ env ∈ (envOf name scope L a cd :: outer), ∀ b, env.frame = some b → b ∈ e :: t :: (envOf name scope L a cd :: outer).filterMap (·.frame) := fun env he b hb => .tail _ (.tail _ (List.mem_filterMap.mpr ⟨env, he, hb⟩))
  have fe : base.get? e = none := fresh_of_stays K.stays Pe.2.2
  have ft : base.get? t = none := fresh_of_stays K.stays Pt.2.2
  have st : base.StaysIn (hideAll s'.heap (e :: t :: (envOf name scope L a cd :: outer).filterMap (·.frame))) := fun b o q => hideAll_get _ (K'.stays b o q) fun hm => by
    rcases List.mem_cons.mp hm with rfl | hm
    · rw [fe] at q; cases q
    · rcases List.mem_cons.mp hm with rfl | hm
      · rw [ft] at q; cases q
      · rw [(K'.frames.mem hm).1] at q; cases q
  have sg : ∀ b o, g.get? b = some o → b ∉ outer.filterMap (·.frame) → (hideAll s'.heap (e :: t :: (envOf name scope L a cd :: outer).filterMap (·.frame))).get? b = some o := fun b o q nm => hideAll_get _ (F.keep b o q) fun hm => by
    rcases List.mem_cons.mp hm with rfl | hm
    · rw [Pe.2.2] at q; cases q
    · rcases List.mem_cons.mp hm with rfl | hm
      · rw [Pt.2.2] at q; cases q
      · rcases kts_mem hm with z | z
        · rw [z, kts_self F] at q; cases q
        · exact nm z
  have hl : ∀ q ∈ news, (hideAll s'.heap (e :: t :: (envOf name scope L a cd :: outer).filterMap (·.frame))).get? q.1 = some q.2 ∧ g.get? q.1 = none ∧ base.get? q.1 = none := fun q hq => by
    have Pq := N q (.tail _ (.tail _ (.tail _ hq)))
    refine ⟨hideAll_get _ Pq.1 fun hm => ?_, Pq.2.2, fresh_of_stays K.stays Pq.2.2⟩
    rcases List.mem_cons.mp hm with z | hm
    · exact h1 q hq z
    · rcases List.mem_cons.mp hm with z | hm
      · exact h2 q hq z
      · obtain ⟨env, he, hf⟩ := List.mem_filterMap.mp hm
        rcases List.mem_cons.mp he with rfl | he
        · exact Pq.2.1 (Option.some.inj hf).symm
        · obtain ⟨o, ho, _⟩ := (K.frames.mem (List.mem_filterMap.mpr ⟨env, he, hf⟩)).2
          rw [Pq.2.2] at ho; cases ho
  refine wpAny_leaving_firstW (a0 := .ref t) K'.stack (funFrames_hide K'.frames hin) rfl Pe.1 (fun b o q => of_hideAll _ q) (hideAll_none _ (.head _)) rfl rfl rfl fun h' hL => ?_
  obtain ⟨k1, ⟨_, _, k2⟩, k3, k4⟩ := hL
  exact hQ h' ⟨⟨_, st, sg, hl, ⟨k1, hideAll_none _ (.head _), k2, k3⟩, hideAll_none _ (.tail _ (.head _))⟩, Heap.TupAt.of_slots ⟨_, _, Pt.1, rfl, rfl⟩ k4⟩ ((Heap.UpToSlots.of_keeps F.keep).trans k4)
end
section
variable {prog : Program} {w : World} {A : Around} {s : Shared} {h₀ : Heap} {L : Addr} {m : Str → Option Value} {env : Env} {news : List (Addr × Obj)} {K : Frag} {p : Program} {loose : List Str} {mean : ExcName → Option Value} {mg mb : Str → Option Value}
    {R : Result → Shared → Prop} {name qual : Str} {params : Arguments} {body : List Stmt} {scope : Scope} {dV kV doc pm cdv ct oc : Value} {an od : Option Addr} {osl : Array (Option Value)} {f : Addr} {args : Args} {binds : List (Str × Value)}
theorem code_tryX (F : Fr h₀ L s.heap m) (X₀ : K.In h₀) (N : News h₀ L s.heap news) (T : Top p loose mean mg mb h₀) (hA : A.frames = some [env]) (hf : env.frame = some L) (hke : env.scope.kind = .function)
    (ho : K.lookup f = some ⟨oc, od, .func (fnOf name qual params body scope dV kV doc pm an cdv ct), osl⟩) (hcd : codeIn K cdv qual = true) (hroom : A.depth < recursionLimit)
    (hbind : BindsTo s (fnOf name qual params body scope dV kV doc pm an cdv ct) args binds) (hloc : ∀ y ∈ binds, scope.names.lookup y.1 = some .local)
    (h : ∀ g L' h₁, Fr h₀ L g m → Fr g L' h₁ (fun y => binds.reverse.lookup y) → News g L' h₁ news → Below A h₀ [env] g → K.In g → Top p loose mean mg mb g → KtsDicts ([env].filterMap (·.frame)) g →
      wpAny (model prog w) (A.deeper (envOf qual scope L' f cdv)) (execs body (envOf qual scope L' f cdv))
        (fun fl s' => LeaveS0 ([env].filterMap (·.frame)) h₀ L m g R (match fl with | .ret v => v | _ => .none) s')
        (fun e s' => wpAny (model prog w) (A.deeper (envOf qual scope L' f cdv)) (leaving (envOf qual scope L' f cdv) e) (fun _ s'' => R (.error e) s'') (fun e' s'' => R (.error e') s'') s')
        { s with heap := h₁, toks := s.toks + binds.length })
    (hco : scope.isCoroutine = false) (hgen : scope.isGenerator = false) (hk : scope.kind = .function)
    (hcell : ∀ x ∈ scope.names, x.2 ≠ .cell) : codeAny (model prog w) A (.call (.ref f) args) R s := by
  have X := X₀.keeps F.keep
  have memL : ∀ b, b ∈ ([env].filterMap (·.frame)) → b = L := fun b hb => by
    obtain ⟨e, he, hfe⟩ := List.mem_filterMap.mp hb
    rw [List.mem_singleton.mp he, hf] at hfe
    exact (Option.some.inj hfe).symm
  have nm : ∀ b o, h₀.get? b = some o → b ∉ news.map (·.1) := fun b o e q => by
    obtain ⟨p, hp, rfl⟩ := List.mem_map.mp q
    rw [(N p hp).2.2] at e; cases e
  have st : h₀.StaysIn (hideAll s.heap (news.map (·.1))) := fun b o e => hideAll_get _ (F.keep b o e) (nm b o e)
  obtain ⟨oL, es, ep, hL, hLd, hLk, hLf⟩ := F.ns
  have nL : L ∉ news.map (·.1) := fun q => by
    obtain ⟨p, hp, e⟩ := List.mem_map.mp q
    exact (N p hp).2.1 e
  have hLg := hideAll_get (news.map (·.1)) hL nL
  have nL₀ : h₀.get? L = none := kts_self F
  have B₂ : Below A h₀ [env] (hideAll s.heap (news.map (·.1))) := ⟨hA, st, by rw [hke]; decide, ⟨L, oL, hf, nL₀, hLg, fun vs q => by rw [hLd] at q; cases q⟩, trivial⟩
  refine codeAny_call_def (fd := fnOf name qual params body scope dV kV doc pm an cdv ct) (body := body) (binds := binds) hroom (X _ _ ho) rfl (T.nolimit.keeps F.keep) (codeRec_of X hcd) rfl hbind hcell hloc (fun h₁ hns hk₁ => ?_) hco hgen hk
  refine wpAny_mono (h _ s.heap.objs.size h₁ ⟨⟨oL, es, ep, hLg, hLd, hLk, hLf⟩, st, F.above⟩ ⟨hns, fun b o e => hk₁ b o (of_hideAll _ e), Nat.le_of_eq (hideAll_size _ _)⟩
    (fun p hp => ⟨hk₁ _ _ (N p hp).1, Nat.ne_of_lt (Heap.lt_size (N p hp).1), hideAll_none _ (List.mem_map_of_mem hp)⟩) B₂ (X₀.keeps st) (T.keeps st) (fun b hb => by
      rw [memL b hb]
      exact ⟨oL, es, ep, hLg, hLd⟩)) (fun fl s' hl => ?_) fun _ _ y => y
  obtain ⟨g', L', m', news', T', F', N', k⟩ := hl
  obtain ⟨sl, hs⟩ := T'.up hLg
  refine k ⟨⟨_, es, ep, F'.keep _ _ hs, hLd, hLk, hLf⟩, fun b o e => F'.keep b o (T'.other b o (st b o e) (fun q => by
    rw [memL b q, nL₀] at e
    cases e)), F.above⟩ fun p hp => ⟨(N' p hp).1, fun q => ?_, ?_⟩
  · have := (N' p hp).2.2; rw [q, hs] at this; cases this
  · cases q : h₀.get? p.1 with
    | none => rfl
    | some o =>
      obtain ⟨sl', hs'⟩ := T'.up (st _ _ q)
      have := (N' p hp).2.2
      rw [hs'] at this
      cases this
end
end Mine
namespace Mine
open PySem PySem.W PySem.Calls PyProof.Rows
theorem seq_first {n : Nat} : seqIndex? 0 (n + 1) = some 0 := by
  unfold seqIndex?
  simp
theorem item_first {prog : Program} {w : World} {A : Around} {E : Value → Shared → Prop} {s : Shared} {h₀ : Heap} {L r : Addr} {news : List (Addr × Obj)} {value slice : PySem.Expr} {x : Value} {rest : List Value} {u : Tok} {Q : Value → Shared → Prop} (N : News h₀ L s.heap news) (hm : (r, tup (x :: rest)) ∈ news) (h : Q x s)
    (hs : subscripted slice false (.ref r) (.int 0 u) = operate [.ref r, .int 0 u] (getItem (.ref r) (.int 0 u))) (hg : ∀ y, letTemporaryGo value (.ref r) y = pure ()) :
    wpAny (model prog w) A (subscriptTail value slice (.ref r) (.int 0 u)) Q E s :=
  item_tupleL (l := x :: rest) (News.isTup N hm) (by decide) (by decide) seq_first rfl h hs hg
local macro_rules | `(tactic| walk_at "eval Name") => `(tactic| (k_here; k_dflt (first | (refine' nameX_L ?F ?v ?_ ?a ?b; (case F => k_asm); (case a => rfl); (case b => rfl); (case v => rfl); k_whole) | (refine' nameX_K ?F ?X ?T ?e ?_ ?a ?b; (case F => k_asm); (case X => k_asm); (case T => k_asm); (case a => rfl); (case b => rfl); (case e => k_is); k_whole))))
local macro_rules | `(tactic| walk_at "eval Name") => `(tactic| (k_here; (first | with_reducible show wpAny _ _ (eval (Expr.Name "len" _) _) _ _ _ | with_reducible show wpAny _ _ (eval (Expr.Name "str" _) _) _ _ _ | with_reducible show wpAny _ _ (eval (Expr.Name "abs" _) _) _ _ _); k_dflt (refine' nameX_B ?F ?X ?T ?e ?v ?n ?_ ?a ?b; (case F => k_asm); (case X => k_asm); (case T => k_asm); (case a => rfl); (case b => rfl); (case e => k_is); (case v => boot_fast); (case n => decide); k_whole)))
local macro_rules | `(tactic| walk_at "subscriptTail Name Constant ref int") => `(tactic| (k_here; k_dflt (refine' item_tupleT ?t ?a ?b ?c ?d ?_; (case t => exact News.isTup (by k_asm) (by k_mem)); (case a => decide); (case b => decide); (case c => rfl); (case d => rfl))))
local macro_rules | `(tactic| walk_at "ite") => `(tactic| (k_closed; first | refine ite_pos (by kernel_rfl!) ?_ | refine ite_isFalse (by kernel_rfl!) ?_))
local macro_rules | `(tactic| walk_at "ite") => `(tactic| (k_openite; with_reducible refine split_ieq ?_ ?_ <;> intro _ <;> try (exfalso; omega)))
local macro_rules | `(tactic| walk_at "subscriptTail Name Constant ref int") => `(tactic| (k_here; (with_reducible show wpAny _ _ (subscriptTail _ _ (Value.ref _) (Value.int 0 _)) _ _ _); k_dflt (refine' item_first ?N ?m ?_ ?s ?g; (case N => k_asm); (case m => k_mem); (case s => with_unfolding_all rfl); (case g => intro _; with_unfolding_all rfl))))
local macro_rules | `(tactic| walk_at "call ref") => `(tactic| (k_here; (with_reducible show wpAny _ _ (call (Value.ref 51) [Value.int _ _, Value.str _ _]) _ _ _); k_dflt (refine' y_call ?B ?F ?X ?N ?T ?kK ?kd ?ku ?ki ?kf ?_; (case B => k_asm); (case F => k_asm); (case X => k_asm); (case N => k_asm); (case T => k_asm); (case kK => first | exact rfl | assumption); (case kd => ktr_room); (case ku => ktr_units); (case ki => k_is); (case kf => k_is)); (intro e9 D9 t9 od9 h9 tk9 z1 z2 F9 N9)))
local macro_rules | `(tactic| walk_at "exec Raise some none") => `(tactic| (k_here; k_dflt (refine' y_exec ?F ?X ?h ?_; (case F => k_asm); (case X => k_asm); (case h => exact rfl))))
local macro_rules | `(tactic| walk_at "FlewK") => `(tactic| (k_here; k_dflt (refine' flewK_ ?F ?N ?m ?_; (case F => k_asm); (case N => k_asm); (case m => k_mem)); (try dsimp only)))
local macro_rules | `(tactic| walk_at "leaving ref") => `(tactic| (k_here; (refine' leave_raiseT ?k1 ?k2 ?k3 ?h1 ?h2 ?_; (case k1 => assumption); (case k3 => assumption); (case k2 => assumption); (case h1 => assumption); (case h2 => assumption); k_whole; intro h' R' U'; (try dsimp only at R' U' ⊢))))
theorem raisedS_sub {base G : Heap} {l : List Env} {e t : Addr} {cls : Value} {vs : List Value} {n n' : List (Addr × Obj)} {h : Heap} (hs : ∀ p ∈ n, p ∈ n') (R : RaisedS base G l e cls t vs n' h) : RaisedS base G l e cls t vs n h := by
  obtain ⟨⟨B, a, b, c, d⟩, e⟩ := R
  exact ⟨⟨B, a, b, fun q hq => c q (hs q hq), d⟩, e⟩
/-- an item that does not take a value of the kind -/
inductive Bad : Obj → Int → Prop
  | I {kd : Int} {t0 : Tok} {rest : List Value} : kd ≠ 0 → Bad (tup (.str (Str.ofString "I") t0 :: rest)) kd
  | F {kd : Int} {t0 : Tok} {rest : List Value} : kd ≠ 1 → kd ≠ 2 → Bad (tup (.str (Str.ofString "F") t0 :: rest)) kd
  | E {kd : Int} {t0 : Tok} {rest : List Value} : kd ≠ 1 → kd ≠ 2 → Bad (tup (.str (Str.ofString "E") t0 :: rest)) kd
  | D {kd : Int} {t0 : Tok} {rest : List Value} : kd ≠ 1 → kd ≠ 2 → Bad (tup (.str (Str.ofString "D") t0 :: rest)) kd
  | G {kd : Int} {t0 : Tok} {rest : List Value} : kd ≠ 1 → kd ≠ 2 → Bad (tup (.str (Str.ofString "G") t0 :: rest)) kd
  | L {kd : Int} {t0 : Tok} {rest : List Value} : kd ≠ 4 → Bad (tup (.str (Str.ofString "L") t0 :: rest)) kd
  | A {kd : Int} {t0 : Tok} {rest : List Value} : kd ≠ 5 → Bad (tup (.str (Str.ofString "A") t0 :: rest)) kd
  | X {kd : Int} {t0 : Tok} {rest : List Value} : Bad (tup (.str (Str.ofString "X") t0 :: rest)) kd
  | H {kd : Int} {t0 : Tok} {rest : List Value} : Bad (tup (.str (Str.ofString "H") t0 :: rest)) kd
  | S {kd : Int} {t0 : Tok} {rest : List Value} : Bad (tup (.str (Str.ofString "/") t0 :: rest)) kd
  | P {kd : Int} {t0 : Tok} {rest : List Value} : Bad (tup (.str (Str.ofString "P") t0 :: rest)) kd
theorem t_bad (r : Addr) (sc : Int) (p : Bool) (tk ts : Tok) {o : Obj} {kd : Int} (v : Value) (hb : Bad o kd) (w : World) (mean : ExcName → Option Value) (mg mb : Str → Option Value) (dp un : Nat) (gd : Option (List Code)) (cn : Str) (cs : Scope) (a : Addr) (ccd : Value) (outer : List Env) (A₀ : Around) (base h₀ : Heap) (L : Addr) (m : Str → Option Value) (news : List (Addr × Obj)) (s : Shared) (Q E : Value → Shared → Prop)
    (B : Below A₀ base outer h₀) (F : Fr h₀ L s.heap m) (X : (hd.heap_39 w.params).In h₀) (N : News h₀ L s.heap ((r, o) :: news)) (T : Top view (looseW view []) mean mg mb h₀) (hk : cs.kind = .function) (hd : dp + 6 < recursionLimit) (hu : un + 48 < cLine)
    (hE : ∀ (G : Heap) (e t : Addr) (vs : List Value) (h' : Heap) (tk' : Nat), Fr h₀ L G m → RaisedS base G (envX cn cs L a ccd [] :: outer) e (.ref 51) t vs ((r, o) :: news) h' → G.UpToSlots h' → E (.ref e) { s with heap := h', toks := tk' }) :
    wpAny (model PySem.Challenge.rw_no0238_01.row.prog w) (ktrTop dp un gd cn cs L a ccd [] outer) (call (.ref 158) [.ref r, .int kd tk, v, .int sc ts, .bool p]) Q E s := by
  revert B F X N T hk hd hu
  w_top off
  k_fill
  intro B F X N T hk hd hu
  cases hb
  all_goals (
    refine wpAny_call ?_
    k_dflt cell_enter
    k_steps
    all_goals first | (exfalso; omega) | (refine hE _ _ _ _ _ _ (by assumption) (raisedS_sub ?_ (by assumption)) (by assumption); intro p hp; first | exact hp | exact List.mem_cons_of_mem _ hp))
end Mine
namespace Mine
open PySem PySem.W PySem.Calls PyProof.Rows
abbrev rowO (c : List (Str × Tok)) : Obj := listOf (strValues c).toArray 0
section
variable {prog : Program} {w : World} {A : Around} {E : Value → Shared → Prop} {s : Shared} {h₀ : Heap} {L D l : Addr} {m : Str → Option Value} {news : List (Addr × Obj)}
theorem r_mulL {t u : Tok} {n : Int} {k : Nat} {Q : Value → Shared → Prop} (F : Fr h₀ L s.heap m) (N : News h₀ L s.heap news) (hm : (l, listOf [Value.str blankS t].toArray k) ∈ news) (h0 : 0 ≤ n) (h1 : n ≤ 50)
    (h : ∀ D' h', Fr h₀ L h' m → News h₀ L h' ((D', rowO (List.replicate n.toNat (blankS, t))) :: news) → (∀ p ∈ news, p.1 ≠ D') → Q (.ref D') { s with heap := h' }) : wpAny (model prog w) A (binaryOp .Mult (.ref l) (.int n u)) Q E s :=
  KMa.mul F N (PySem.IsL.isList (n := k) (N _ hm).1) (by omega) (by omega) (by simp only [List.length_cons, List.length_nil]; omega) (strs_rep _ _ _) fun D' h' F' N' l1 => h D' h' F' N' fun p hp => Nat.ne_of_lt (l1 p hp)
theorem str_put {c : List (Str × Tok)} {rest : List (Addr × Obj)} {i : Int} {y : Str} {t u : Tok} {Q : Unit → Shared → Prop} (F : Fr h₀ L s.heap m) (N : News h₀ L s.heap ((D, rowO c) :: rest)) (hD : ∀ p ∈ rest, p.1 ≠ D) (h0 : 0 ≤ i) (h1 : i < (c.length : Int)) (hc : c.length ≤ 1000)
    (h : ∀ h', Fr h₀ L h' m → News h₀ L h' ((D, rowO (c.set i.toNat (y, t))) :: rest) → Q () { s with heap := h' }) :
    wpAny (model prog w) A (setItem (.ref D) (.int i u) (.str y t)) Q E s := by
  have z := N (D, rowO c) (.head _)
  have hs : (strValues c).toArray.size = c.length := by simp [strValues]
  refine ki_setAt z.1 h0 (by omega) (by omega) (h _ (F.change (Heap.SameBut.update ..) z.2.1 z.2.2) (ki_turn (pre := []) _ N (fun _ hp => nomatch hp) hD ?_ ?_))
  · show (strValues c).toArray.setIfInBounds i.toNat (.str y t) = (strValues (c.set i.toNat (y, t))).toArray
    rw [← strs_put]
    apply Array.toList_inj.mp
    simp
  · simp [strValues]
theorem right_join {c : List (Str × Tok)} {x : Str} {wd : Int} {te : Tok} {Q : Value → Shared → Prop} (N : News h₀ L s.heap news) (hm : (D, rowO c) ∈ news) (hc : c.map (·.1) = rowF x wd.toNat x.length) (hx : (x.length : Int) ≤ wd) (h1 : wd ≤ 50)
    (h : ∀ t' k, Q (.str (fieldF x wd) t') { s with toks := k }) : wpAny (model prog w) A (call (.builtin "str.join") [.str (Str.ofString "") te, .ref D]) Q E s :=
  SC.join (PySem.IsL.isList (n := 0) (N _ hm).1) hc (row_joinOk (by omega) (Nat.le_refl _) (by omega)) fun t' k => by rw [rowF_join hx]; exact h t' k
end
abbrev RP (x : Str) (wd : Int) (pre : List Int) (c : List (Str × Tok)) : Prop := c.map (·.1) = rowF x wd.toNat pre.length
abbrev RSt (xn : Str) (m₀ : Str → Option Value) (D : Addr) (news : List (Addr × Obj)) (x : Str) (wd : Int) (pre : List Int) : (Str → Option Value) → List (Addr × Obj) → Prop :=
  KstS (fun c : List (Str × Tok) => (D, rowO c) :: news) (fun _ => []) (fun _ => True) xn [] m₀ (RP x wd) pre
section
variable {prog : Program} {w : World} {A : Around} {E : Value → Shared → Prop} {s : Shared} {env : Env} {h₀ : Heap} {xn : Str} {body : List Stmt} {Q : Flow → Shared → Prop} {D r : Addr} {m₀ : Str → Option Value} {news : List (Addr × Obj)} {x : Str} {wd : Int}
theorem right_loop {t0 u0 v0 t : Tok} (hh : A.handled = none) (hr : IsRange s.heap r 0 (x.length : Int) 1 t0 u0 v0) (hx : (x.length : Int) ≤ wd) (h1 : wd ≤ 50) (F : Fr h₀ env.locals s.heap m₀)
    (N : News h₀ env.locals s.heap ((D, rowO (List.replicate wd.toNat (blankS, t))) :: news))
    (turn : ∀ (c : List (Str × Tok)) (i : Nat) (pre : List Int) t h tk own, pre.length = i → i < x.length → OwnOff own (D :: news.map (·.1)) → c.map (·.1) = rowF x wd.toNat i →
      Fr h₀ env.locals h (fun y => if y = xn then some (.int (i : Int) t) else m₀ y) → News h₀ env.locals h ((D, rowO c) :: (news ++ own)) →
      wpAny (model prog w) A (execs body env) (InvPostN h₀ env.locals (RSt xn m₀ D news x wd (pre ++ [(i : Int)])) own (D :: news.map (·.1)) { s with heap := h, toks := tk } Q) E { s with heap := h, toks := tk })
    (done : ∀ (c : List (Str × Tok)) (u : Str → Option Value) h tk, c.map (·.1) = rowF x wd.toNat x.length → Fr h₀ env.locals h (fun y => if y = xn then u y else m₀ y) → News h₀ env.locals h ((D, rowO c) :: news) → Q .next { s with heap := h, toks := tk }) :
    wpAny (model prog w) A (pyIter (.ref r)) (fun it s₂ => LoopAtV prog w A h₀ env xn body Q E it s₂) E s := by
  refine kst_range (n := x.length) (fun c : List (Str × Tok) => (D, rowO c) :: news) (fun _ => []) (fun _ => True) [] (RP x wd) (List.replicate wd.toNat (blankS, t)) hh hr (small_one (by omega) (by omega) (by omega) (by omega)) ?_ F N trivial (fun _ hp => nomatch hp) ?_ ?_ ?_
  · rw [rangeSize_one]; split <;> omega
  · show (List.replicate wd.toNat (blankS, t)).map (·.1) = rowF x wd.toNat 0
    rw [rowF_0 (by omega), List.map_replicate]
  · intro c pre k t u h tk own hk hl ho _ hp F' N'
    have hk' : k = ((pre.length : Nat) : Int) := by omega
    subst hk'
    exact turn c pre.length pre t h tk own rfl hl ho hp F' N'
  · intro c u h tk _ hp F' N'
    have : (rangeKs 0 x.length).length = x.length := rangeKs_length _ _
    unfold RP at hp
    rw [this] at hp
    exact done c u h tk hp F' N'
theorem right_turn {c : List (Str × Tok)} {i : Nat} {j : Int} {pre : List Int} {y : Str} {tt : Tok} {L : Addr} {m' : Str → Option Value} {own : List (Addr × Obj)} {s₁ : Shared} {h' : Heap} {tk : Nat}
    (hp : pre.length = i) (hi : i < x.length) (hx : (x.length : Int) ≤ wd) (hc : c.map (·.1) = rowF x wd.toNat i) (hj : j = wd - x.length + i) (hy : y = Txt.item x (i : Int))
    (F : Fr h₀ L h' m') (N : News h₀ L h' ((D, rowO (c.set j.toNat (y, tt))) :: (news ++ own))) (hm : ∀ z, z ≠ xn → m' z = m₀ z) :
    InvEndN h₀ L (RSt xn m₀ D news x wd (pre ++ [(i : Int)])) own (D :: news.map (·.1)) s₁ { s₁ with heap := h', toks := tk } := by
  refine kst_end (c.set j.toNat (y, tt)) F N ?_ ?_ rfl trivial (fun _ hp => nomatch hp) (fun z h1 _ _ => hm z h1) ?_
  · intro p hp
    rcases List.mem_cons.mp hp with rfl | hp
    · exact .head _
    · exact .tail _ (List.mem_append_left _ hp)
  · intro p hp
    exact .tail _ (List.mem_append_right _ hp)
  · show (c.set j.toNat (y, tt)).map (·.1) = rowF x wd.toNat (pre ++ [(i : Int)]).length
    subst hy hp
    rw [List.map_set, hc, List.length_append, List.length_singleton, show j.toNat = wd.toNat - x.length + pre.length by omega]
    exact rowF_set (by omega) hi
end
theorem row_len {c : List (Str × Tok)} {x : Str} {wd : Int} {i : Nat} (hx : (x.length : Int) ≤ wd) (hi : i ≤ x.length) (hc : c.map (·.1) = rowF x wd.toNat i) : c.length = wd.toNat := by
  have := congrArg List.length hc
  rw [List.length_map, rowF_len (by omega) hi] at this
  exact this
theorem off_own {D : Addr} {news own : List (Addr × Obj)} (a : ∀ p ∈ news, p.1 ≠ D) (h : OwnOff own (D :: news.map (·.1))) : ∀ p ∈ news ++ own, p.1 ≠ D := fun p hp => (List.mem_append.mp hp).elim (a p) fun q => h p q D (.head _)
local macro_rules | `(tactic| walk_at "binaryOp Mult ref int") => `(tactic| (k_here; (with_reducible show wpAny _ _ (binaryOp Operator.Mult (Value.ref _) (Value.int _ _)) _ _ _); k_dflt (refine' r_mulL ?F ?N ?m ?p0 ?p1 ?_; (case F => k_asm); (case N => k_asm); (case m => k_mem); (case p0 => assumption); (case p1 => assumption)); (intro D9 h9 F9 N9 a9)))
local macro_rules | `(tactic| walk_at "pyIter ref") => `(tactic| (k_here; k_dflt (refine' right_loop ?hh ?hr ?hx ?h1 ?F ?N ?tu ?dn; (case hh => exact rfl); (case hr => assumption); (case hx => assumption); (case h1 => assumption); (case F => k_asm); (case N => assumption)); (case' tu => intro c9 i9 pre9 t9 h9 tk9 own9 hp9 hi9 hO9 hS9 F9 N9; have hl9 := row_len (by assumption) (Nat.le_of_lt hi9) hS9; have ho9 := off_own (by assumption) hO9); (case' dn => intro c9 u9 h9 tk9 hS9 F9 N9); (all_goals (try dsimp only))))
local macro_rules | `(tactic| walk_at "setItem ref int") => `(tactic| (k_here; (with_reducible show wpAny _ _ (setItem (Value.ref _) (Value.int _ _) (Value.str _ _)) _ _ _); k_dflt (refine' str_put ?F ?N ?D ?h0 ?h1 ?hc ?_; (case F => k_asm); (case N => assumption); (case D => assumption); (case h0 => omega); (case h1 => omega); (case hc => omega)); (intro h9 F9 N9)))
local macro_rules | `(tactic| walk_at "call builtin:str.join") => `(tactic| (k_here; k_dflt (refine' right_join ?N ?m ?hc ?hx ?h1 ?_; (case N => k_asm); (case m => k_mem); (case hc => assumption); (case hx => assumption); (case h1 => assumption)); (intro t9 k9)))
local macro_rules | `(tactic| walk_at "call builtin:len") => `(tactic| (k_here; (with_reducible show wpAny _ _ (call (Value.builtin "len") [Value.str _ _]) _ _ _); (refine r_len (by omega) ?_)))
local macro_rules | `(tactic| walk_at "InvEndN") => `(tactic| (refine right_turn (by assumption) (by assumption) (by assumption) (by assumption) rfl rfl (by assumption) (by assumption) (by intro z hz; simp [hz])))
theorem t_right (x : Str) (wd : Int) (tx tw : Tok) (h0 : 0 ≤ wd) (h1 : wd ≤ 50) (hx : (x.length : Int) ≤ wd) : Tell 1 172 [] [.str x tx, .int wd tw] (fun r => ∃ t', r = .str (fieldF x wd) t') := by
  unfold Tell
  w_top off
  k_fill
  intro w mean mg mb dp un gd cn cs a ccd cl outer A₀ base h₀ L m news s Q E B F X N T hk hd hu hret
  refine wpAny_call ?_
  k_dflt cell_enter
  k_steps
  all_goals exact hret _ _ _ ⟨_, rfl⟩ (by k_asm) (cb_drop (by assumption) (fun _ hp => .tail _ (.tail _ hp)))
end Mine
namespace Mine
open PySem PySem.W PySem.Calls PyProof.Rows
local macro_rules | `(tactic| walk_at "eval Name") => `(tactic| (k_here; k_dflt (first | (refine' nameX_L ?F ?v ?_ ?a ?b; (case F => k_asm); (case a => rfl); (case b => rfl); (case v => rfl); k_whole) | (refine' nameX_K ?F ?X ?T ?e ?_ ?a ?b; (case F => k_asm); (case X => k_asm); (case T => k_asm); (case a => rfl); (case b => rfl); (case e => k_is); k_whole))))
local macro_rules | `(tactic| walk_at "eval Name") => `(tactic| (k_here; (first | with_reducible show wpAny _ _ (eval (Expr.Name "len" _) _) _ _ _ | with_reducible show wpAny _ _ (eval (Expr.Name "str" _) _) _ _ _ | with_reducible show wpAny _ _ (eval (Expr.Name "abs" _) _) _ _ _); k_dflt (refine' nameX_B ?F ?X ?T ?e ?v ?n ?_ ?a ?b; (case F => k_asm); (case X => k_asm); (case T => k_asm); (case a => rfl); (case b => rfl); (case e => k_is); (case v => boot_fast); (case n => decide); k_whole)))
local macro_rules | `(tactic| walk_at "subscriptTail Name Constant ref int") => `(tactic| (k_here; k_dflt (refine' item_tupleT ?t ?a ?b ?c ?d ?_; (case t => exact News.isTup (by k_asm) (by k_mem)); (case a => decide); (case b => decide); (case c => rfl); (case d => rfl))))
local macro_rules | `(tactic| walk_at "ite") => `(tactic| (k_closed; first | refine ite_pos (by kernel_rfl!) ?_ | refine ite_isFalse (by kernel_rfl!) ?_))
local macro_rules | `(tactic| walk_at "execs cons") => `(tactic| (k_here; (with_reducible show wpAny _ _ (execs (_ :: _) _) _ _ (Shared.mk _ _ _ (_ + 1) _)); (try dsimp only); refine gen_tok ?_; intro _))
local macro_rules | `(tactic| tb_rel) => `(tactic| first | omega | decide | ((try simp only [app_len, one_zero, one_star, one_blank, one_minus, one_plus, one_point, two_zp, decide_eq_true_eq, decide_eq_false_iff_not, Bool.not_eq_true, Bool.not_eq_false, Bool.and_eq_true, Bool.or_eq_true, Bool.not_eq_true', Bool.not_eq_false', beq_iff_eq, bne_iff_ne, ne_eq] at *); omega))
local macro_rules | `(tactic| walk_at "call builtin:len") => `(tactic| (k_here; (with_reducible show wpAny _ _ (call (Value.builtin "len") [Value.str _ _]) _ _ _); (refine r_len (by tb_rel) ?_)))
local macro_rules | `(tactic| walk_at "binaryOp Mult str int") => `(tactic| (k_here; (with_reducible show wpAny _ _ (binaryOp Operator.Mult (Value.str _ _) (Value.int _ _)) _ _ _); (refine r_mul (by first | exact one_zero | exact one_star | exact one_blank) (by tb_rel) (by tb_rel) ?_); intro _ _ _))
local macro_rules | `(tactic| walk_at "binaryOp Add str str") => `(tactic| (k_here; (with_reducible show wpAny _ _ (binaryOp Operator.Add (Value.str _ _) (Value.str _ _)) _ _ _); (refine r_add (by tb_rel) ?_); intro _ _ _))
local macro_rules | `(tactic| walk_at "call type:str") => `(tactic| (k_here; (with_reducible show wpAny _ _ (call (Value.type "str") [Value.int _ _]) _ _ _); (refine r_text (by tb_rel) (by tb_rel) ?_); intro _ _))
local macro_rules | `(tactic| walk_at "binaryOp Pow int int") => `(tactic| (k_here; (with_reducible show wpAny _ _ (binaryOp Operator.Pow (Value.int 10 _) (Value.int _ _)) _ _ _); (refine r_pow10 (by tb_rel) (by tb_rel) ?_); intro _ _))
local macro_rules | `(tactic| walk_at "binaryOp Mult int int") => `(tactic| (k_here; (with_reducible show wpAny _ _ (binaryOp Operator.Mult (Value.int _ _) (Value.int _ _)) _ _ _); (refine r_mulI (by tb_rel) (by tb_rel) ?_)))
local macro_rules | `(tactic| walk_at "binaryOp FloorDiv int int") => `(tactic| (k_here; (with_reducible show wpAny _ _ (binaryOp Operator.FloorDiv (Value.int _ _) (Value.int _ _)) _ _ _); (refine r_div (by tb_rel) (by tb_rel) ?_)))
theorem t_field (x : Str) (t : Tok) (wd : Int) (u : Tok) (hx : x.length ≤ 300) (h0 : 0 ≤ wd) (h1 : wd ≤ 100) : Tell 1 60 [] [.str x t, .int wd u] (fun r => ∃ t', r = .str (fieldF x wd) t') := by
  unfold Tell
  w_top off
  k_fill
  intro w mean mg mb dp un gd cn cs a ccd cl outer A₀ base h₀ L m news s Q E B F X N T hk hd hu hret
  refine wpAny_call ?_
  k_dflt cell_enter
  k_steps
  all_goals (refine hret _ _ _ ⟨_, congrArg (Value.str · _) ?_⟩ (by k_asm) (by k_asm); unfold fieldF; split <;> first | rfl | (exfalso; omega))
theorem t_sign (x y : Bool) : Tell 1 67 [] [.bool x, .bool y] (fun r => ∃ t', r = .str (signF x y) t') := by
  unfold Tell
  w_top off
  k_fill
  intro w mean mg mb dp un gd cn cs a ccd cl outer A₀ base h₀ L m news s Q E B F X N T hk hd hu hret
  cases x <;> cases y
  all_goals (
    refine wpAny_call ?_
    k_dflt cell_enter
    k_steps
    all_goals (exact hret _ _ _ ⟨_, rfl⟩ (by k_asm) (by k_asm)))
theorem t_scaled (n p : Int) (t u : Tok) (hn : 0 ≤ n) (hn1 : n ≤ 10 ^ 18) (hp : p ≤ 30) (hp1 : -30 ≤ p) : Tell 1 74 [] [.int n t, .int p u] (fun r => ∃ t', r = .int (scaledF n p) t') := by
  unfold Tell
  w_top off
  k_fill
  intro w mean mg mb dp un gd cn cs a ccd cl outer A₀ base h₀ L m news s Q E B F X N T hk hd hu hret
  refine wpAny_call ?_
  k_dflt cell_enter
  k_steps
  all_goals (refine hret _ _ _ ⟨_, congrArg (Value.int · _) ?_⟩ (by k_asm) (by k_asm); unfold scaledF; split <;> first | rfl | (exfalso; omega))
theorem Tell.mono {k : Nat} {f : Addr} {led : List (Addr × Obj)} {vs : List Value} {R R' : Value → Prop} (H : Tell k f led vs R) (h : ∀ r, R r → R' r) : Tell k f led vs R' :=
  fun w mean mg mb dp un gd cn cs a ccd cl outer A₀ base h₀ L m news s Q E B F X N T hk hd hu hret =>
    H w mean mg mb dp un gd cn cs a ccd cl outer A₀ base h₀ L m news s Q E B F X N T hk hd hu fun r h' tk' hr => hret r h' tk' (h r hr)
theorem t_signL (x y : Bool) : Tell 1 67 [] [.bool x, .bool y] (fun r => (∃ t', r = .str (signF x y) t') ∧ (signF x y).length ≤ 1) := (t_sign x y).mono fun _ h => ⟨h, signF_len x y⟩
theorem t_scaledL (n p : Int) (t u : Tok) (hn : 0 ≤ n) (hn1 : n ≤ 10 ^ 18) (hp : p ≤ 30) (hp1 : -30 ≤ p) : Tell 1 74 [] [.int n t, .int p u] (fun r => (∃ t', r = .int (scaledF n p) t') ∧ 0 ≤ scaledF n p ∧ scaledF n p ≤ 10 ^ 50) :=
  (t_scaled n p t u hn hn1 hp hp1).mono fun _ h => ⟨h, scaledF_lo hn, scaledF_hi hn (by omega) hp⟩
local macro_rules | `(tactic| walk_at "tell 1") => `(tactic| (intro r9 h9 tk9 hr9 F9 N9; obtain ⟨t9, e9⟩ := hr9; subst e9; (try dsimp only); (try k_fold)))
local macro_rules | `(tactic| walk_at "call ref") => `(tactic| (k_here; (with_reducible show wpAny _ _ (call (Value.ref 60) [Value.str _ _, Value.int _ _]) _ _ _); k_dflt (refine' tell_useA (H := t_field _ _ _ _ (by tb_rel) (by tb_rel) (by tb_rel)) (ret := ?_)); walk_at "tell 1"))
local macro_rules | `(tactic| walk_at "call ref") => `(tactic| (k_here; (with_reducible show wpAny _ _ (call (Value.ref 67) [Value.bool _, Value.bool _]) _ _ _); k_dflt (refine' tell_useA (H := t_signL _ _) (ret := ?_)); (intro r9 h9 tk9 hr9 F9 N9; obtain ⟨⟨t9, e9⟩, sl9⟩ := hr9; subst e9; (try dsimp only); (try k_fold))))
local macro_rules | `(tactic| walk_at "call ref") => `(tactic| (k_here; (with_reducible show wpAny _ _ (call (Value.ref 74) [Value.int _ _, Value.int _ _]) _ _ _); k_dflt (refine' tell_useA (H := t_scaledL _ _ _ _ (by tb_rel) (by tb_rel) (by tb_rel) (by tb_rel)) (ret := ?_)); (intro r9 h9 tk9 hr9 F9 N9; obtain ⟨⟨t9, e9⟩, sl9, sh9⟩ := hr9; subst e9; (try dsimp only); (try k_fold))))
theorem t_int (v wd least : Int) (p : Bool) (t u x : Tok) (hv : -10000000 ≤ v) (hv1 : v ≤ 10000000) (h0 : 0 ≤ wd) (h1 : wd ≤ 50) (hl : 0 ≤ least) (hl1 : least ≤ 30) : Tell 2 81 [] [.int v t, .int wd u, .int least x, .bool p] (fun r => ∃ t', r = .str (editIntF v wd least p) t') := by
  unfold Tell
  w_top off
  k_fill
  intro w mean mg mb dp un gd cn cs a ccd cl outer A₀ base h₀ L m news s Q E B F X N T hk hd hu hret
  refine wpAny_call ?_
  k_dflt cell_enter
  k_steps
  all_goals (refine hret _ _ _ ⟨_, congrArg (Value.str · _) ?_⟩ (by k_asm) (by k_asm); first | with_reducible exact editIntF_a (by assumption) (by assumption) | with_reducible exact editIntF_b (by omega))
theorem t_intN (v wd : Int) (p : Bool) (t u : Tok) (hv : -10000000 ≤ v) (hv1 : v ≤ 10000000) (h0 : 0 ≤ wd) (h1 : wd ≤ 50) : Tell 2 81 [] [.int v t, .int wd u, .none, .bool p] (fun r => ∃ t', r = .str (editIntF v wd 1 p) t') := by
  unfold Tell
  w_top off
  k_fill
  intro w mean mg mb dp un gd cn cs a ccd cl outer A₀ base h₀ L m news s Q E B F X N T hk hd hu hret
  refine wpAny_call ?_
  k_dflt cell_enter
  k_steps
  all_goals (refine hret _ _ _ ⟨_, congrArg (Value.str · _) ?_⟩ (by k_asm) (by k_asm); exact editIntF_b (by omega))
theorem t_point (x y z : Str) (t u v : Tok) (wd : Int) (i : Tok) (hxy : x.length + y.length + z.length ≤ 250) (h0 : 0 ≤ wd) (h1 : wd ≤ 50) : Tell 2 88 [] [.str x t, .str y u, .str z v, .int wd i] (fun r => ∃ t', r = .str (pointF x y z wd) t') := by
  unfold Tell
  w_top off
  k_fill
  intro w mean mg mb dp un gd cn cs a ccd cl outer A₀ base h₀ L m news s Q E B F X N T hk hd hu hret
  refine wpAny_call ?_
  k_dflt cell_enter
  k_steps
  all_goals (refine hret _ _ _ ⟨_, congrArg (Value.str · _) ?_⟩ (by k_asm) (by k_asm); first | with_reducible exact pointF_0 (by assumption) (by assumption) | with_reducible exact pointF_1 (by assumption) (by assumption) (by assumption) | with_reducible exact pointF_2 (by assumption) (by assumption) (by assumption) | with_reducible exact pointF_3 (by assumption))
local macro_rules | `(tactic| tb_rel) => `(tactic| first | omega | decide | ((try simp only [app_len, one_zero, one_star, one_blank, one_minus, one_plus, one_point, two_zp, no_sign, decide_eq_true_eq, decide_eq_false_iff_not, Bool.not_eq_true, Bool.not_eq_false, Bool.and_eq_true, Bool.or_eq_true, Bool.not_eq_true', Bool.not_eq_false', beq_iff_eq, bne_iff_ne, ne_eq] at *); omega))
local macro_rules | `(tactic| walk_at "call type:str") => `(tactic| (k_here; (with_reducible show wpAny _ _ (call (Value.type "str") [Value.int _ _]) _ _ _); first | (refine r_text8 (by tb_rel) (by tb_rel) ?_; intro _ _) | (refine r_text (by tb_rel) (by tb_rel) ?_; intro _ _)))
local macro_rules | `(tactic| walk_at "call ref") => `(tactic| (k_here; (with_reducible show wpAny _ _ (call (Value.ref 88) [Value.str _ _, Value.str _ _, Value.str _ _, Value.int _ _]) _ _ _); k_dflt (refine' tell_useA (H := t_point _ _ _ _ _ _ _ _ (by tb_rel) (by tb_rel) (by tb_rel)) (ret := ?_)); walk_at "tell 1"))
theorem t_fixed (v : Addr) (n e : Int) (tn te : Tok) (wd pl sc : Int) (p : Bool) (t1 t2 t3 : Tok) (hn : -10000000 ≤ n) (hn1 : n ≤ 10000000) (he : -10 ≤ e) (he1 : e ≤ 10) (h0 : 0 ≤ wd) (h1 : wd ≤ 50) (hp : 0 ≤ pl) (hp1 : pl ≤ 10) (hs : -5 ≤ sc) (hs1 : sc ≤ 5) :
    Tell 3 95 [(v, tup [.int n tn, .int e te])] [.ref v, .int wd t1, .int pl t2, .int sc t3, .bool p] (fun r => ∃ t', r = .str (fixedF n e wd pl sc p) t') := by
  unfold Tell
  w_top off
  k_fill
  intro w mean mg mb dp un gd cn cs a ccd cl outer A₀ base h₀ L m news s Q E B F X N T hk hd hu hret
  refine wpAny_call ?_
  k_dflt cell_enter
  k_steps
  all_goals (refine hret _ _ _ ⟨_, congrArg (Value.str · _) ?_⟩ (by k_asm) (by k_asm); with_reducible exact fixedF_eq (by first | exact fixSg_0 (by assumption) | exact fixSg_1 (by assumption)) (by first | exact digF_0 (by assumption) | exact digF_1 (by assumption)))
theorem t_expoN (lt : Str) (pw : Int) (t u : Tok) (hl : lt.length ≤ 5) (hp : -90 ≤ pw) (hp1 : pw ≤ 90) :
    Tell 1 109 [] [.str lt t, .int pw u, .none] (fun r => (∃ x t', expoF lt pw none = some x ∧ r = .str x t' ∧ x.length ≤ 40) ∨ (expoF lt pw none = none ∧ r = .none)) := by
  unfold Tell
  w_top off
  k_fill
  intro w mean mg mb dp un gd cn cs a ccd cl outer A₀ base h₀ L m news s Q E B F X N T hk hd hu hret
  refine wpAny_call ?_
  k_dflt cell_enter
  k_steps
  all_goals first
    | exact hret _ _ _ (Or.inr ⟨expoN_c (by assumption) (by assumption), rfl⟩) (by k_asm) (by k_asm)
    | (refine hret _ _ _ (Or.inl ⟨_, _, ?e1, rfl, ?e2⟩) (by k_asm) (by k_asm)
       (case e2 => tb_rel)
       (case e1 => first
         | with_reducible exact expoN_a (by first | exact expoS_0 (by assumption) | exact expoS_1 (by assumption)) (by assumption)
         | with_reducible exact expoN_b (by first | exact expoS_0 (by assumption) | exact expoS_1 (by assumption)) (by assumption) (by assumption)))
theorem t_expoZ (lt : Str) (pw z : Int) (t u v : Tok) (hl : lt.length ≤ 5) (hp : -90 ≤ pw) (hp1 : pw ≤ 90) (hz : 0 ≤ z) (hz1 : z ≤ 20) :
    Tell 1 109 [] [.str lt t, .int pw u, .int z v] (fun r => (∃ x t', expoF lt pw (some z) = some x ∧ r = .str x t' ∧ x.length ≤ 40) ∨ (expoF lt pw (some z) = none ∧ r = .none)) := by
  unfold Tell
  w_top off
  k_fill
  intro w mean mg mb dp un gd cn cs a ccd cl outer A₀ base h₀ L m news s Q E B F X N T hk hd hu hret
  refine wpAny_call ?_
  k_dflt cell_enter
  k_steps
  all_goals first
    | exact hret _ _ _ (Or.inr ⟨expoZ_a (by assumption), rfl⟩) (by k_asm) (by k_asm)
    | (refine hret _ _ _ (Or.inl ⟨_, _, ?e1, rfl, ?e2⟩) (by k_asm) (by k_asm)
       (case e2 => tb_rel)
       (case e1 => with_reducible exact expoZ_b (by first | exact expoS_0 (by assumption) | exact expoS_1 (by assumption)) (by assumption)))
theorem t_expo (lt : Str) (pw : Int) (t u : Tok) {zv : Value} {z : Option Int} (hl : lt.length ≤ 5) (hp : -90 ≤ pw) (hp1 : pw ≤ 90) (hz : ZIs zv z) :
    Tell 1 109 [] [.str lt t, .int pw u, zv] (fun r => (∃ x t', expoF lt pw z = some x ∧ r = .str x t' ∧ x.length ≤ 40) ∨ (expoF lt pw z = none ∧ r = .none)) := by
  cases hz with
  | none => exact t_expoN lt pw t u hl hp hp1
  | int h h' => exact t_expoZ lt pw _ t u _ hl hp hp1 h h'
theorem t_fixedL (v : Addr) (n e : Int) (tn te : Tok) (wd pl sc : Int) (p : Bool) (t1 t2 t3 : Tok) (hn : -10000000 ≤ n) (hn1 : n ≤ 10000000) (he : -10 ≤ e) (he1 : e ≤ 10) (h0 : 0 ≤ wd) (h1 : wd ≤ 50) (hp : 0 ≤ pl) (hp1 : pl ≤ 10) (hs : -5 ≤ sc) (hs1 : sc ≤ 5) :
    Tell 3 95 [(v, tup [.int n tn, .int e te])] [.ref v, .int wd t1, .int pl t2, .int sc t3, .bool p] (fun r => (∃ t', r = .str (fixedF n e wd pl sc p) t') ∧ ((fixedF n e wd pl sc p).length : Int) = wd) :=
  (t_fixed v n e tn te wd pl sc p t1 t2 t3 hn hn1 he he1 h0 h1 hp hp1 hs hs1).mono fun _ h => ⟨h, fixedF_len h0⟩
theorem t_lead (v : Addr) (n e : Int) (tn te : Tok) (c : Int) (t1 : Tok) (hn : -10000000 ≤ n) (hn1 : n ≤ 10000000) (he : -10 ≤ e) (he1 : e ≤ 10) (hc : 0 ≤ c) (hc1 : c ≤ 10) :
    TellN 2 102 [(v, tup [.int n tn, .int e te])] [.ref v, .int c t1] (fun r tl => ∃ d t2 t3, r = .ref d ∧ tl = [(d, tup [.str (leadD n c) t2, .int (leadP n e c) t3])] ∧ (leadD n c).length ≤ 60 ∧ -10 ≤ leadP n e c ∧ leadP n e c ≤ 30) := by
  unfold TellN
  w_top off
  k_fill
  intro w mean mg mb dp un gd cn cs a ccd cl outer A₀ base h₀ L m news s Q E B F X N T hk hd hu hret
  refine wpAny_call ?_
  k_dflt cell_enter
  k_steps
  all_goals (
    refine new_end hret (by k_asm) (by first | k_asm | assumption) ⟨_, _, _, rfl, tup2_eq ?eD ?eP, ?eL, ?eA, ?eB⟩
    (case eD => (first | with_reducible exact leadD_0 (by assumption) | with_reducible exact leadD_1 (by assumption) (by assumption) | with_reducible exact leadD_2 (by assumption) (by assumption)))
    (case eP => first | with_reducible exact leadP_0 (by assumption) | with_reducible exact leadP_1 (by assumption) (by assumption) | with_reducible exact leadP_2 (by assumption) (by assumption))
    (case eL => first | (rw [← leadD_0 (by assumption)]; (try simp only [lenI, numT, absI]); tb_rel) | (rw [← leadD_1 (by assumption) (by assumption)]; (try simp only [lenI, numT, absI]); tb_rel) | (rw [← leadD_2 (by assumption) (by assumption)]; (try simp only [lenI, numT, absI]); tb_rel))
    (case eA => first | (rw [← leadP_0 (by assumption)]; (try simp only [lenI, numT, absI]); tb_rel) | (rw [← leadP_1 (by assumption) (by assumption)]; (try simp only [lenI, numT, absI]); tb_rel) | (rw [← leadP_2 (by assumption) (by assumption)]; (try simp only [lenI, numT, absI]); tb_rel))
    (case eB => first | (rw [← leadP_0 (by assumption)]; (try simp only [lenI, numT, absI]); tb_rel) | (rw [← leadP_1 (by assumption) (by assumption)]; (try simp only [lenI, numT, absI]); tb_rel) | (rw [← leadP_2 (by assumption) (by assumption)]; (try simp only [lenI, numT, absI]); tb_rel)))
local macro_rules | `(tactic| walk_at "call ref") => `(tactic| (k_here; (with_reducible show wpAny _ _ (call (Value.ref 102) [Value.ref _, Value.int _ _]) _ _ _); k_dflt (refine' tellN_use (t_lead _ _ _ _ _ _ _ ?p1 ?p2 ?p3 ?p4 ?p5 ?p6) ?k1 ?k2 ?k3 ?k4 ?k5 ?kK ?ks ?kd ?ku ?_; (case k1 => k_asm); (case k2 => k_asm); (case k3 => k_asm); (case k4 => k_asm); (case k5 => k_asm); (case kK => first | exact rfl | assumption); (case ks => refine sub1 ?_; k_mem); (case p1 => tb_rel); (case p2 => tb_rel); (case p3 => tb_rel); (case p4 => tb_rel); (case p5 => tb_rel); (case p6 => tb_rel); (case kd => ktr_room); (case ku => ktr_units)); (intro r9 tl9 h9 tk9 hr9 F9 N9; obtain ⟨d9, t9, u9, e9, e9', l9, l9', l9''⟩ := hr9; subst e9; subst e9'; (try simp only [List.cons_append, List.nil_append] at N9); (try dsimp only); (try k_fold))))
local macro_rules | `(tactic| walk_at "call ref") => `(tactic| (k_here; (with_reducible show wpAny _ _ (call (Value.ref 109) [Value.str _ _, Value.int _ _, _]) _ _ _); k_dflt (refine' tell_useA (H := t_expo _ _ _ _ (by tb_rel) (by tb_rel) (by tb_rel) (by assumption)) (ret := ?_)); (intro r9 h9 tk9 hr9 F9 N9; rcases hr9 with ⟨x9, t9, hx9, e9, l9⟩ | ⟨hx9, e9⟩ <;> subst e9 <;> (try dsimp only) <;> (try k_fold))))
local macro_rules | `(tactic| walk_at "call ref") => `(tactic| (k_here; (with_reducible show wpAny _ _ (call (Value.ref 95) [Value.ref _, Value.int _ _, Value.int _ _, Value.int _ _, Value.bool _]) _ _ _); k_dflt (refine' tell_useA (H := t_fixedL _ _ _ _ _ _ _ _ _ _ _ _ (by tb_rel) (by tb_rel) (by tb_rel) (by tb_rel) (by tb_rel) (by tb_rel) (by tb_rel) (by tb_rel) (by tb_rel) (by tb_rel)) (ret := ?_)); (intro r9 h9 tk9 hr9 F9 N9; obtain ⟨⟨t9, e9⟩, l9⟩ := hr9; subst e9; (try dsimp only); (try k_fold))))
theorem t_exp (v : Addr) (lt : Str) (n e : Int) (tn te : Tok) (wd pl sc : Int) (p : Bool) (t0 t1 t2 t3 : Tok) {zv : Value} {z : Option Int} (hl : lt.length ≤ 5) (hn : -10000000 ≤ n) (hn1 : n ≤ 10000000) (he : -10 ≤ e) (he1 : e ≤ 10) (h0 : 0 ≤ wd) (h1 : wd ≤ 50) (hp : 1 ≤ pl) (hp1 : pl ≤ 8) (hs : 0 ≤ sc) (hs1 : sc ≤ 1) (hz : ZIs zv z) :
    Tell 3 116 [(v, tup [.int n tn, .int e te])] [.str lt t0, .ref v, .int wd t1, .int pl t2, zv, .int sc t3, .bool p] (fun r => ∃ t', r = .str (expF lt n e wd pl z sc p) t') := by
  unfold Tell
  w_top off
  k_fill
  intro w mean mg mb dp un gd cn cs a ccd cl outer A₀ base h₀ L m news s Q E B F X N T hk hd hu hret
  refine wpAny_call ?_
  k_dflt cell_enter
  k_steps
  all_goals (
    refine hret _ _ _ ⟨_, congrArg (Value.str · _) ?_⟩ (by k_asm) (by first | k_asm | exact cb_drop (by assumption) (fun _ hp => List.mem_cons_of_mem _ hp))
    first | (have hC : pl + sc = expC pl sc := expC_0 (by assumption)) | (have hC : pl + 1 = expC pl sc := expC_1 (by assumption))
    first | (have hN : n ≠ 0 := (by assumption); have hP : ∀ c, leadP n e c - sc = expP n e c sc := fun _ => expP_0 hN) | (have hN : n = 0 := (by assumption); have hP : ∀ c, leadP n e c = expP n e c sc := fun _ => expP_1 hN)
    first
    | with_reducible exact expF_n hC (hP _) (by assumption)
    | with_reducible exact expF_a hC (hP _) (by assumption) (by omega)
    | with_reducible exact expF_b hC (hP _) (by assumption) (by omega))
theorem t_isgen (v : Addr) (n e : Int) (tn te : Tok) (pl : Int) (t0 : Tok) (hn : -10000000 ≤ n) (hn1 : n ≤ 10000000) (he : -10 ≤ e) (he1 : e ≤ 10) (hp : 1 ≤ pl) (hp1 : pl ≤ 8) :
    Tell 1 123 [(v, tup [.int n tn, .int e te])] [.ref v, .int pl t0] (fun r => r = .bool (genI n e pl)) := by
  unfold Tell
  w_top off
  k_fill
  intro w mean mg mb dp un gd cn cs a ccd cl outer A₀ base h₀ L m news s Q E B F X N T hk hd hu hret
  refine wpAny_call ?_
  k_dflt cell_enter
  k_steps
  all_goals (refine hret _ _ _ (congrArg Value.bool ?_) (by k_asm) (by k_asm); first | with_reducible exact genI_0 (by assumption) | with_reducible exact genI_1 (by assumption) (by assumption) | with_reducible exact genI_2 (by assumption) (by assumption))
local macro_rules | `(tactic| walk_at "call ref") => `(tactic| (k_here; (with_reducible show wpAny _ _ (call (Value.ref 123) [Value.ref _, Value.int _ _]) _ _ _); k_dflt (refine' tell_useA (H := t_isgen _ _ _ _ _ _ _ (by tb_rel) (by tb_rel) (by tb_rel) (by tb_rel) (by tb_rel) (by tb_rel)) (ret := ?_)); (intro r9 h9 tk9 hr9 F9 N9; subst hr9; (try dsimp only); (try k_fold))))
local macro_rules | `(tactic| walk_at "call ref") => `(tactic| (k_here; (with_reducible show wpAny _ _ (call (Value.ref 116) [Value.str _ _, Value.ref _, Value.int _ _, Value.int _ _, _, Value.int _ _, Value.bool _]) _ _ _); k_dflt (refine' tell_useA (H := t_exp _ _ _ _ _ _ _ _ _ _ _ _ _ _ (by tb_rel) (by tb_rel) (by tb_rel) (by tb_rel) (by tb_rel) (by tb_rel) (by tb_rel) (by tb_rel) (by tb_rel) (by tb_rel) (by tb_rel) (by assumption)) (ret := ?_)); walk_at "tell 1"))
local macro_rules | `(tactic| tb_rel) => `(tactic| ((have g9 := genI_t (by assumption)); (simp only [lenI, numT, absI] at g9); omega))
theorem t_gen (v : Addr) (n e : Int) (tn te : Tok) (wd pl sc : Int) (p : Bool) (t1 t2 t3 : Tok) {zv : Value} {z : Option Int} (hn : -10000000 ≤ n) (hn1 : n ≤ 10000000) (he : -10 ≤ e) (he1 : e ≤ 10) (h0 : 0 ≤ wd) (h1 : wd ≤ 50) (hp : 1 ≤ pl) (hp1 : pl ≤ 8) (hs : 0 ≤ sc) (hs1 : sc ≤ 1) (hz : ZIs zv z) :
    Tell 4 130 [(v, tup [.int n tn, .int e te])] [.ref v, .int wd t1, .int pl t2, zv, .int sc t3, .bool p] (fun r => ∃ t', r = .str (genF n e wd pl z sc p) t') := by
  unfold Tell
  w_top off
  k_fill
  intro w mean mg mb dp un gd cn cs a ccd cl outer A₀ base h₀ L m news s Q E B F X N T hk hd hu hret
  have hz2 := hz
  cases hz
  all_goals (
    refine wpAny_call ?_
    k_dflt cell_enter
    k_steps
    all_goals (
      refine hret _ _ _ ⟨_, congrArg (Value.str · _) ?_⟩ (by k_asm) (by k_asm)
      first
      | with_reducible exact genF_0 (by assumption)
      | with_reducible exact genF_1 (by assumption) (by first | exact genB_n | exact genB_z) (by assumption)
      | with_reducible exact genF_2 (by assumption) (by first | exact genB_n | exact genB_z) (by assumption) (by assumption)
      | with_reducible exact genF_3 (by assumption) (by first | exact genB_n | exact genB_z) (by assumption) (by assumption)))
local macro_rules | `(tactic| walk_at "call ref") => `(tactic| (k_here; (with_reducible show wpAny _ _ (call (Value.ref 130) [Value.ref _, Value.int _ _, Value.int _ _, _, Value.int _ _, Value.bool _]) _ _ _); k_dflt (refine' tell_useA (H := t_gen _ _ _ _ _ _ _ _ _ _ _ _ (by tb_rel) (by tb_rel) (by tb_rel) (by tb_rel) (by tb_rel) (by tb_rel) (by tb_rel) (by tb_rel) (by tb_rel) (by tb_rel) (by assumption)) (ret := ?_)); walk_at "tell 1"))
theorem t_log (b : Bool) (wd : Int) (t : Tok) (h0 : 0 ≤ wd) (h1 : wd ≤ 50) : Tell 2 137 [] [.bool b, .int wd t] (fun r => ∃ t', r = .str (fieldF (if b = true then Str.ofString "T" else Str.ofString "F") wd) t') := by
  unfold Tell
  w_top off
  k_fill
  intro w mean mg mb dp un gd cn cs a ccd cl outer A₀ base h₀ L m news s Q E B F X N T hk hd hu hret
  cases b
  all_goals (
    refine wpAny_call ?_
    k_dflt cell_enter
    k_steps
    all_goals exact hret _ _ _ ⟨_, rfl⟩ (by k_asm) (by k_asm))
theorem t_textN (x : Str) (t : Tok) : Tell 1 144 [] [.str x t, .none] (fun r => ∃ t', r = .str x t') := by
  unfold Tell
  w_top off
  k_fill
  intro w mean mg mb dp un gd cn cs a ccd cl outer A₀ base h₀ L m news s Q E B F X N T hk hd hu hret
  refine wpAny_call ?_
  k_dflt cell_enter
  k_steps
  all_goals exact hret _ _ _ ⟨_, rfl⟩ (by k_asm) (by k_asm)
def textW (x : Str) (wd : Int) : Str := if wd < (x.length : Int) then Txt.slice x none (some wd) else fieldF x wd
theorem textW_a {x : Str} {wd : Int} (h : wd < (x.length : Int)) : Txt.slice x none (some wd) = textW x wd := by rw [textW, if_pos h]
theorem textW_b {x : Str} {wd : Int} (h : ¬ wd < (x.length : Int)) : fieldF x wd = textW x wd := by rw [textW, if_neg h]
theorem t_textW (x : Str) (wd : Int) (t u : Tok) (hx : x.length ≤ 50) (h0 : 0 ≤ wd) (h1 : wd ≤ 50) : Tell 2 144 [] [.str x t, .int wd u] (fun r => ∃ t', r = .str (textW x wd) t') := by
  unfold Tell
  w_top off
  k_fill
  intro w mean mg mb dp un gd cn cs a ccd cl outer A₀ base h₀ L m news s Q E B F X N T hk hd hu hret
  refine wpAny_call ?_
  k_dflt cell_enter
  k_steps
  all_goals (refine hret _ _ _ ⟨_, congrArg (Value.str · _) ?_⟩ (by k_asm) (by k_asm); first | with_reducible exact textW_a (by assumption) | with_reducible exact textW_b (by assumption))
local macro_rules | `(tactic| walk_at "call ref") => `(tactic| (k_here; (with_reducible show wpAny _ _ (call (Value.ref 116) [Value.str _ _, Value.ref _, Value.int _ _, Value.int _ _, _, Value.int _ _, Value.bool _]) _ _ _); k_dflt (refine' tell_useA (H := t_exp _ _ _ _ _ _ _ _ _ _ _ _ _ _ (by tb_rel) (by tb_rel) (by tb_rel) (by tb_rel) (by tb_rel) (by tb_rel) (by tb_rel) (by tb_rel) (by tb_rel) (by tb_rel) (by tb_rel) (by first | assumption | exact ZIs.none)) (ret := ?_)); walk_at "tell 1"))
local macro_rules | `(tactic| walk_at "call ref") => `(tactic| (k_here; (with_reducible show wpAny _ _ (call (Value.ref 130) [Value.ref _, Value.int _ _, Value.int _ _, _, Value.int _ _, Value.bool _]) _ _ _); k_dflt (refine' tell_useA (H := t_gen _ _ _ _ _ _ _ _ _ _ _ _ (by tb_rel) (by tb_rel) (by tb_rel) (by tb_rel) (by tb_rel) (by tb_rel) (by tb_rel) (by tb_rel) (by tb_rel) (by tb_rel) (by first | assumption | exact ZIs.none)) (ret := ?_)); walk_at "tell 1"))
theorem t_realF (r v : Addr) (n e : Int) (tn te : Tok) (wd pl sc : Int) (p : Bool) (t0 t1 t2 t3 : Tok) (hn : -10000000 ≤ n) (hn1 : n ≤ 10000000) (he : -10 ≤ e) (he1 : e ≤ 10) (h0 : 0 ≤ wd) (h1 : wd ≤ 50) (hp : 1 ≤ pl) (hp1 : pl ≤ 8) (hs : 0 ≤ sc) (hs1 : sc ≤ 1) :
    Tell 5 151 [(r, tup [.str (Str.ofString "F") t0, .int wd t1, .int pl t2]), (v, tup [.int n tn, .int e te])] [.ref r, .ref v, .int sc t3, .bool p] (fun r => ∃ t', r = .str (fixedF n e wd pl sc p) t') := by
  unfold Tell
  w_top off
  k_fill
  intro w mean mg mb dp un gd cn cs a ccd cl outer A₀ base h₀ L m news s Q E B F X N T hk hd hu hret
  refine wpAny_call ?_
  k_dflt cell_enter
  k_steps
  all_goals exact hret _ _ _ ⟨_, rfl⟩ (by k_asm) (by k_asm)
theorem t_realD (r v : Addr) (n e : Int) (tn te : Tok) (wd pl sc : Int) (p : Bool) (t0 t1 t2 t3 : Tok) (hn : -10000000 ≤ n) (hn1 : n ≤ 10000000) (he : -10 ≤ e) (he1 : e ≤ 10) (h0 : 0 ≤ wd) (h1 : wd ≤ 50) (hp : 1 ≤ pl) (hp1 : pl ≤ 8) (hs : 0 ≤ sc) (hs1 : sc ≤ 1) :
    Tell 5 151 [(r, tup [.str (Str.ofString "D") t0, .int wd t1, .int pl t2]), (v, tup [.int n tn, .int e te])] [.ref r, .ref v, .int sc t3, .bool p] (fun r => ∃ t', r = .str (expF (Str.ofString "D") n e wd pl none sc p) t') := by
  unfold Tell
  w_top off
  k_fill
  intro w mean mg mb dp un gd cn cs a ccd cl outer A₀ base h₀ L m news s Q E B F X N T hk hd hu hret
  refine wpAny_call ?_
  k_dflt cell_enter
  k_steps
  all_goals exact hret _ _ _ ⟨_, rfl⟩ (by k_asm) (by k_asm)
theorem t_realE (r v : Addr) (n e : Int) (tn te : Tok) (wd pl sc : Int) (p : Bool) (t0 t1 t2 t3 : Tok) {zv : Value} {z : Option Int} (hn : -10000000 ≤ n) (hn1 : n ≤ 10000000) (he : -10 ≤ e) (he1 : e ≤ 10) (h0 : 0 ≤ wd) (h1 : wd ≤ 50) (hp : 1 ≤ pl) (hp1 : pl ≤ 8) (hs : 0 ≤ sc) (hs1 : sc ≤ 1) (hz : ZIs zv z) :
    Tell 5 151 [(r, tup [.str (Str.ofString "E") t0, .int wd t1, .int pl t2, zv]), (v, tup [.int n tn, .int e te])] [.ref r, .ref v, .int sc t3, .bool p] (fun r => ∃ t', r = .str (expF (Str.ofString "E") n e wd pl z sc p) t') := by
  unfold Tell
  w_top off
  k_fill
  intro w mean mg mb dp un gd cn cs a ccd cl outer A₀ base h₀ L m news s Q E B F X N T hk hd hu hret
  refine wpAny_call ?_
  k_dflt cell_enter
  k_steps
  all_goals exact hret _ _ _ ⟨_, rfl⟩ (by k_asm) (by k_asm)
theorem t_realG (r v : Addr) (n e : Int) (tn te : Tok) (wd pl sc : Int) (p : Bool) (t0 t1 t2 t3 : Tok) {zv : Value} {z : Option Int} (hn : -10000000 ≤ n) (hn1 : n ≤ 10000000) (he : -10 ≤ e) (he1 : e ≤ 10) (h0 : 0 ≤ wd) (h1 : wd ≤ 50) (hp : 1 ≤ pl) (hp1 : pl ≤ 8) (hs : 0 ≤ sc) (hs1 : sc ≤ 1) (hz : ZIs zv z) :
    Tell 5 151 [(r, tup [.str (Str.ofString "G") t0, .int wd t1, .int pl t2, zv]), (v, tup [.int n tn, .int e te])] [.ref r, .ref v, .int sc t3, .bool p] (fun r => ∃ t', r = .str (genF n e wd pl z sc p) t') := by
  unfold Tell
  w_top off
  k_fill
  intro w mean mg mb dp un gd cn cs a ccd cl outer A₀ base h₀ L m news s Q E B F X N T hk hd hu hret
  refine wpAny_call ?_
  k_dflt cell_enter
  k_steps
  all_goals exact hret _ _ _ ⟨_, rfl⟩ (by k_asm) (by k_asm)
local macro_rules | `(tactic| walk_at "ite") => `(tactic| (k_openite; with_reducible refine split_ieq ?_ ?_ <;> intro _ <;> try (exfalso; omega)))
local macro_rules | `(tactic| walk_at "call ref") => `(tactic| (k_here; (with_reducible show wpAny _ _ (call (Value.ref 137) [Value.bool _, Value.int _ _]) _ _ _); k_dflt (refine' tell_useA (H := t_log _ _ _ (by tb_rel) (by tb_rel)) (ret := ?_)); walk_at "tell 1"))
local macro_rules | `(tactic| walk_at "call ref") => `(tactic| (k_here; (with_reducible show wpAny _ _ (call (Value.ref 144) [Value.str _ _, Value.none]) _ _ _); k_dflt (refine' tell_useA (H := t_textN _ _ ) (ret := ?_)); walk_at "tell 1"))
local macro_rules | `(tactic| walk_at "call ref") => `(tactic| (k_here; (with_reducible show wpAny _ _ (call (Value.ref 144) [Value.str _ _, Value.int _ _]) _ _ _); k_dflt (refine' tell_useA (H := t_textW _ _ _ _ (by tb_rel) (by tb_rel) (by tb_rel)) (ret := ?_)); walk_at "tell 1"))
local macro_rules | `(tactic| walk_at "call ref") => `(tactic| (k_here; (with_reducible show wpAny _ _ (call (Value.ref 81) [Value.int _ _, Value.int _ _, Value.int _ _, Value.bool _]) _ _ _); k_dflt (refine' tell_useA (H := t_int _ _ _ _ _ _ _ (by tb_rel) (by tb_rel) (by tb_rel) (by tb_rel) (by tb_rel) (by tb_rel)) (ret := ?_)); walk_at "tell 1"))
local macro_rules | `(tactic| walk_at "call ref") => `(tactic| (k_here; (with_reducible show wpAny _ _ (call (Value.ref 81) [Value.int _ _, Value.int _ _, Value.none, Value.bool _]) _ _ _); k_dflt (refine' tell_useA (H := t_intN _ _ _ _ _ (by tb_rel) (by tb_rel) (by tb_rel) (by tb_rel)) (ret := ?_)); walk_at "tell 1"))
local macro_rules | `(tactic| walk_at "call ref") => `(tactic| (k_here; (with_reducible show wpAny _ _ (call (Value.ref 151) [Value.ref _, Value.ref _, Value.int _ _, Value.bool _]) _ _ _); k_dflt (refine' tell_useA (H := t_realG _ _ _ _ _ _ _ _ _ _ _ _ _ _ (by tb_rel) (by tb_rel) (by tb_rel) (by tb_rel) (by tb_rel) (by tb_rel) (by tb_rel) (by tb_rel) (by tb_rel) (by tb_rel) (by first | assumption | exact ZIs.none)) (ret := ?_)); walk_at "tell 1"))
local macro_rules | `(tactic| walk_at "call ref") => `(tactic| (k_here; (with_reducible show wpAny _ _ (call (Value.ref 151) [Value.ref _, Value.ref _, Value.int _ _, Value.bool _]) _ _ _); k_dflt (refine' tell_useA (H := t_realE _ _ _ _ _ _ _ _ _ _ _ _ _ _ (by tb_rel) (by tb_rel) (by tb_rel) (by tb_rel) (by tb_rel) (by tb_rel) (by tb_rel) (by tb_rel) (by tb_rel) (by tb_rel) (by first | assumption | exact ZIs.none)) (ret := ?_)); walk_at "tell 1"))
local macro_rules | `(tactic| walk_at "call ref") => `(tactic| (k_here; (with_reducible show wpAny _ _ (call (Value.ref 151) [Value.ref _, Value.ref _, Value.int _ _, Value.bool _]) _ _ _); k_dflt (refine' tell_useA (H := t_realD _ _ _ _ _ _ _ _ _ _ _ _ _ _ (by tb_rel) (by tb_rel) (by tb_rel) (by tb_rel) (by tb_rel) (by tb_rel) (by tb_rel) (by tb_rel) (by tb_rel) (by tb_rel)) (ret := ?_)); walk_at "tell 1"))
local macro_rules | `(tactic| walk_at "call ref") => `(tactic| (k_here; (with_reducible show wpAny _ _ (call (Value.ref 151) [Value.ref _, Value.ref _, Value.int _ _, Value.bool _]) _ _ _); k_dflt (refine' tell_useA (H := t_realF _ _ _ _ _ _ _ _ _ _ _ _ _ _ (by tb_rel) (by tb_rel) (by tb_rel) (by tb_rel) (by tb_rel) (by tb_rel) (by tb_rel) (by tb_rel) (by tb_rel) (by tb_rel)) (ret := ?_)); walk_at "tell 1"))
/-- an item of a format, a value's kind, the value and the objects it stands on, the scale and the sign's flag; and the text that is due. -/
inductive Good (sc : Int) (p : Bool) : Obj → Int → Value → List (Addr × Obj) → Str → Prop
  | I {n wd : Int} {tn t0 t1 : Tok} {zv : Value} {z : Option Int} : -10000000 ≤ n → n ≤ 10000000 → 0 ≤ wd → wd ≤ 50 → ZIs zv z →
      Good sc p (tup [.str (Str.ofString "I") t0, .int wd t1, zv]) 0 (.int n tn) [] (editIntF n wd (z.getD 1) p)
  | F {v : Addr} {kd n e wd pl : Int} {tn te t0 t1 t2 : Tok} : kd = 1 ∨ kd = 2 → -10000000 ≤ n → n ≤ 10000000 → -10 ≤ e → e ≤ 10 → 0 ≤ wd → wd ≤ 50 → 1 ≤ pl → pl ≤ 8 → 
      Good sc p (tup [.str (Str.ofString "F") t0, .int wd t1, .int pl t2]) kd (.ref v) [(v, tup [.int n tn, .int e te])] (fixedF n e wd pl sc p)
  | D {v : Addr} {kd n e wd pl : Int} {tn te t0 t1 t2 : Tok} : kd = 1 ∨ kd = 2 → -10000000 ≤ n → n ≤ 10000000 → -10 ≤ e → e ≤ 10 → 0 ≤ wd → wd ≤ 50 → 1 ≤ pl → pl ≤ 8 → 
      Good sc p (tup [.str (Str.ofString "D") t0, .int wd t1, .int pl t2]) kd (.ref v) [(v, tup [.int n tn, .int e te])] (expF (Str.ofString "D") n e wd pl none sc p)
  | E {v : Addr} {kd n e wd pl : Int} {tn te t0 t1 t2 : Tok} {zv : Value} {z : Option Int} : kd = 1 ∨ kd = 2 → -10000000 ≤ n → n ≤ 10000000 → -10 ≤ e → e ≤ 10 → 0 ≤ wd → wd ≤ 50 → 1 ≤ pl → pl ≤ 8 → ZIs zv z → 
      Good sc p (tup [.str (Str.ofString "E") t0, .int wd t1, .int pl t2, zv]) kd (.ref v) [(v, tup [.int n tn, .int e te])] (expF (Str.ofString "E") n e wd pl z sc p)
  | G {v : Addr} {kd n e wd pl : Int} {tn te t0 t1 t2 : Tok} {zv : Value} {z : Option Int} : kd = 1 ∨ kd = 2 → -10000000 ≤ n → n ≤ 10000000 → -10 ≤ e → e ≤ 10 → 0 ≤ wd → wd ≤ 50 → 1 ≤ pl → pl ≤ 8 → ZIs zv z → 
      Good sc p (tup [.str (Str.ofString "G") t0, .int wd t1, .int pl t2, zv]) kd (.ref v) [(v, tup [.int n tn, .int e te])] (genF n e wd pl z sc p)
  | L {b : Bool} {wd : Int} {t0 t1 : Tok} : 1 ≤ wd → wd ≤ 50 → Good sc p (tup [.str (Str.ofString "L") t0, .int wd t1]) 4 (.bool b) [] (fieldF (if b = true then Str.ofString "T" else Str.ofString "F") wd)
  | An {x : Str} {t0 t : Tok} : x.length ≤ 50 → Good sc p (tup [.str (Str.ofString "A") t0, .none]) 5 (.str x t) [] x
  | Aw {x : Str} {wd : Int} {t0 t1 t : Tok} : x.length ≤ 50 → 0 ≤ wd → wd ≤ 50 → Good sc p (tup [.str (Str.ofString "A") t0, .int wd t1]) 5 (.str x t) [] (textW x wd)
theorem t_value (r : Addr) (sc : Int) (p : Bool) (tk ts : Tok) (hs : 0 ≤ sc) (hs1 : sc ≤ 1) {o : Obj} {kd : Int} {v : Value} {lv : List (Addr × Obj)} {x : Str} (hg : Good sc p o kd v lv x) :
    Tell 6 158 ((r, o) :: lv) [.ref r, .int kd tk, v, .int sc ts, .bool p] (fun r => ∃ t', r = .str x t') := by
  unfold Tell
  w_top off
  k_fill
  intro w mean mg mb dp un gd cn cs a ccd cl outer A₀ base h₀ L m news s Q E B F X N T hk hd hu hret
  cases hg with
  | I hn hn1 h0 h1 hz =>
    cases hz
    all_goals (
      refine wpAny_call ?_
      k_dflt cell_enter
      k_steps
      all_goals exact hret _ _ _ ⟨_, rfl⟩ (by k_asm) (by first | k_asm | exact cb_drop (by assumption) (fun _ hp => List.mem_cons_of_mem _ hp)))
  | F hk2 hn hn1 he he1 h0 h1 hp hp1 =>
    all_goals (
      refine wpAny_call ?_
      k_dflt cell_enter
      k_steps
      all_goals first | (exfalso; clear hret; omega) | exact hret _ _ _ ⟨_, rfl⟩ (by k_asm) (by first | k_asm | exact cb_drop (by assumption) (fun _ hp => List.mem_cons_of_mem _ hp)))
  | D hk2 hn hn1 he he1 h0 h1 hp hp1 =>
    all_goals (
      refine wpAny_call ?_
      k_dflt cell_enter
      k_steps
      all_goals first | (exfalso; clear hret; omega) | exact hret _ _ _ ⟨_, rfl⟩ (by k_asm) (by first | k_asm | exact cb_drop (by assumption) (fun _ hp => List.mem_cons_of_mem _ hp)))
  | E hk2 hn hn1 he he1 h0 h1 hp hp1 hz =>
    all_goals (
      refine wpAny_call ?_
      k_dflt cell_enter
      k_steps
      all_goals first | (exfalso; clear hret; omega) | exact hret _ _ _ ⟨_, rfl⟩ (by k_asm) (by first | k_asm | exact cb_drop (by assumption) (fun _ hp => List.mem_cons_of_mem _ hp)))
  | G hk2 hn hn1 he he1 h0 h1 hp hp1 hz =>
    all_goals (
      refine wpAny_call ?_
      k_dflt cell_enter
      k_steps
      all_goals first | (exfalso; clear hret; omega) | exact hret _ _ _ ⟨_, rfl⟩ (by k_asm) (by first | k_asm | exact cb_drop (by assumption) (fun _ hp => List.mem_cons_of_mem _ hp)))
  | L h0 h1 =>
    refine wpAny_call ?_
    k_dflt cell_enter
    k_steps
    all_goals exact hret _ _ _ ⟨_, rfl⟩ (by k_asm) (by first | k_asm | exact cb_drop (by assumption) (fun _ hp => List.mem_cons_of_mem _ hp))
  | An hx =>
    refine wpAny_call ?_
    k_dflt cell_enter
    k_steps
    all_goals exact hret _ _ _ ⟨_, rfl⟩ (by k_asm) (by first | k_asm | exact cb_drop (by assumption) (fun _ hp => List.mem_cons_of_mem _ hp))
  | Aw hx h0 h1 =>
    refine wpAny_call ?_
    k_dflt cell_enter
    k_steps
    all_goals exact hret _ _ _ ⟨_, rfl⟩ (by k_asm) (by first | k_asm | exact cb_drop (by assumption) (fun _ hp => List.mem_cons_of_mem _ hp))
theorem t_number (r : Addr) (sc : Int) (p : Bool) (ts : Tok) (hs : 0 ≤ sc) (hs1 : sc ≤ 1) {o : Obj} {kd : Int} {v : Value} {lv : List (Addr × Obj)} {x : Str} (hg : Good sc p o kd v lv x) (hkd : kd ≤ 2) :
    Tell 5 179 ((r, o) :: lv) [.ref r, v, .int sc ts, .bool p] (fun r => ∃ t', r = .str x t') := by
  unfold Tell
  w_top off
  k_fill
  intro w mean mg mb dp un gd cn cs a ccd cl outer A₀ base h₀ L m news s Q E B F X N T hk hd hu hret
  cases hg with
  | I hn hn1 h0 h1 hz =>
    cases hz
    all_goals (
      refine wpAny_call ?_
      k_dflt cell_enter
      k_steps
      all_goals exact hret _ _ _ ⟨_, rfl⟩ (by k_asm) (by first | k_asm | exact cb_drop (by assumption) (fun _ hp => List.mem_cons_of_mem _ hp)))
  | F hk2 hn hn1 he he1 h0 h1 hp hp1 =>
    clear hk2 hkd
    refine wpAny_call ?_
    k_dflt cell_enter
    k_steps
    all_goals exact hret _ _ _ ⟨_, rfl⟩ (by k_asm) (by first | k_asm | exact cb_drop (by assumption) (fun _ hp => List.mem_cons_of_mem _ hp))
  | D hk2 hn hn1 he he1 h0 h1 hp hp1 =>
    clear hk2 hkd
    refine wpAny_call ?_
    k_dflt cell_enter
    k_steps
    all_goals exact hret _ _ _ ⟨_, rfl⟩ (by k_asm) (by first | k_asm | exact cb_drop (by assumption) (fun _ hp => List.mem_cons_of_mem _ hp))
  | E hk2 hn hn1 he he1 h0 h1 hp hp1 hz =>
    clear hk2 hkd
    refine wpAny_call ?_
    k_dflt cell_enter
    k_steps
    all_goals exact hret _ _ _ ⟨_, rfl⟩ (by k_asm) (by first | k_asm | exact cb_drop (by assumption) (fun _ hp => List.mem_cons_of_mem _ hp))
  | G hk2 hn hn1 he he1 h0 h1 hp hp1 hz =>
    clear hk2 hkd
    refine wpAny_call ?_
    k_dflt cell_enter
    k_steps
    all_goals exact hret _ _ _ ⟨_, rfl⟩ (by k_asm) (by first | k_asm | exact cb_drop (by assumption) (fun _ hp => List.mem_cons_of_mem _ hp))
  | L h0 h1 => exfalso; omega
  | An hx => exfalso; omega
  | Aw hx h0 h1 => exfalso; omega
theorem one_T : (Str.ofString "T").length = 1 := by decide +kernel
theorem any12 {kd : Int} (h : (([1, 2] : List Int).any fun x => x == kd) = true) (h1 : kd ≠ 1) (h2 : kd ≠ 2) : False := by
  simp only [List.any_cons, List.any_nil, Bool.or_false, Bool.or_eq_true, beq_iff_eq] at h
  omega
theorem one_F : (Str.ofString "F").length = 1 := by decide +kernel
local macro_rules | `(tactic| walk_at "call builtin:len") => `(tactic| (k_here; (with_reducible show wpAny _ _ (call (Value.builtin "len") [Value.str _ _]) _ _ _); (refine r_len (by omega) ?_)))
local macro_rules | `(tactic| walk_at "call ref") => `(tactic| (k_here; (with_reducible show wpAny _ _ (call (Value.ref 179) [Value.ref _, _, Value.int _ _, Value.bool _]) _ _ _); k_dflt (refine' tell_use (t_number _ _ _ _ ?p1 ?p2 ?p3 ?p4) ?k1 ?k2 ?k3 ?k4 ?k5 ?kK ?ks ?kd ?ku ?_; (case p3 => assumption); (case p4 => omega); (case k1 => k_asm); (case k2 => k_asm); (case k3 => k_asm); (case k4 => k_asm); (case k5 => k_asm); (case kK => first | exact rfl | assumption); (case ks => first | exact List.forall_mem_cons.mpr ⟨by k_mem, List.forall_mem_nil _⟩ | exact List.forall_mem_cons.mpr ⟨by k_mem, List.forall_mem_cons.mpr ⟨by k_mem, List.forall_mem_nil _⟩⟩); (case p1 => assumption); (case p2 => assumption); (case kd => ktr_room); (case ku => ktr_units)); (intro r9 h9 tk9 hr9 F9 N9; obtain ⟨t9, e9⟩ := hr9; subst e9; (try dsimp only); (try k_fold))))
local macro_rules | `(tactic| walk_at "call ref") => `(tactic| (k_here; (with_reducible show wpAny _ _ (call (Value.ref 172) [Value.str _ _, Value.int _ _]) _ _ _); k_dflt (refine' tell_useA (H := t_right _ _ _ _ (by omega) (by omega) (by first | omega | (rw [one_T]; omega) | (rw [one_F]; omega))) (ret := ?_)); walk_at "tell 1"))
theorem any_ok {kd : Int} (h : kd = 1 ∨ kd = 2) : (([1, 2] : List Int).any fun x => x == kd) = true := by rcases h with rfl | rfl <;> decide
theorem t_due (r : Addr) (sc : Int) (p : Bool) (tk ts : Tok) (hs : 0 ≤ sc) (hs1 : sc ≤ 1) {o : Obj} {kd : Int} {v : Value} {lv : List (Addr × Obj)} {x : Str} (hg : Good sc p o kd v lv x) :
    Tell 6 186 ((r, o) :: lv) [.ref r, .int kd tk, v, .int sc ts, .bool p] (fun r => ∃ t', r = .str x t') := by
  unfold Tell
  w_top off
  k_fill
  intro w mean mg mb dp un gd cn cs a ccd cl outer A₀ base h₀ L m news s Q E B F X N T hk hd hu hret
  have hg' := hg
  cases hg with
  | I hn hn1 h0 h1 hz =>
    refine wpAny_call ?_
    k_dflt cell_enter
    k_steps
    all_goals exact hret _ _ _ ⟨_, rfl⟩ (by k_asm) (by first | k_asm | exact cb_drop (by assumption) (fun _ hp => .tail _ hp) | exact cb_drop (by assumption) (fun _ hp => .tail _ (.tail _ hp)))
  | F hk2 hn hn1 he he1 h0 h1 hp hp1 =>
    all_goals (
      refine wpAny_call ?_
      k_dflt cell_enter
      k_steps
      all_goals first | exact absurd (any_ok hk2) (by assumption) | exact nomatch ((any_ok hk2).symm.trans (by assumption) : true = false) | exact hret _ _ _ ⟨_, rfl⟩ (by k_asm) (by first | k_asm | exact cb_drop (by assumption) (fun _ hp => .tail _ hp) | exact cb_drop (by assumption) (fun _ hp => .tail _ (.tail _ hp))) | (exfalso; rcases hk2 with rfl | rfl <;> contradiction) | (exfalso; rcases hk2 with rfl | rfl <;> simp_all))
  | D hk2 hn hn1 he he1 h0 h1 hp hp1 =>
    all_goals (
      refine wpAny_call ?_
      k_dflt cell_enter
      k_steps
      all_goals first | exact absurd (any_ok hk2) (by assumption) | exact nomatch ((any_ok hk2).symm.trans (by assumption) : true = false) | exact hret _ _ _ ⟨_, rfl⟩ (by k_asm) (by first | k_asm | exact cb_drop (by assumption) (fun _ hp => .tail _ hp) | exact cb_drop (by assumption) (fun _ hp => .tail _ (.tail _ hp))) | (exfalso; rcases hk2 with rfl | rfl <;> contradiction) | (exfalso; rcases hk2 with rfl | rfl <;> simp_all))
  | E hk2 hn hn1 he he1 h0 h1 hp hp1 hz =>
    all_goals (
      refine wpAny_call ?_
      k_dflt cell_enter
      k_steps
      all_goals first | exact absurd (any_ok hk2) (by assumption) | exact nomatch ((any_ok hk2).symm.trans (by assumption) : true = false) | exact hret _ _ _ ⟨_, rfl⟩ (by k_asm) (by first | k_asm | exact cb_drop (by assumption) (fun _ hp => .tail _ hp) | exact cb_drop (by assumption) (fun _ hp => .tail _ (.tail _ hp))) | (exfalso; rcases hk2 with rfl | rfl <;> contradiction) | (exfalso; rcases hk2 with rfl | rfl <;> simp_all))
  | G hk2 hn hn1 he he1 h0 h1 hp hp1 hz =>
    all_goals (
      refine wpAny_call ?_
      k_dflt cell_enter
      k_steps
      all_goals first | exact absurd (any_ok hk2) (by assumption) | exact nomatch ((any_ok hk2).symm.trans (by assumption) : true = false) | exact hret _ _ _ ⟨_, rfl⟩ (by k_asm) (by first | k_asm | exact cb_drop (by assumption) (fun _ hp => .tail _ hp) | exact cb_drop (by assumption) (fun _ hp => .tail _ (.tail _ hp))) | (exfalso; rcases hk2 with rfl | rfl <;> contradiction) | (exfalso; rcases hk2 with rfl | rfl <;> simp_all))
  | L h0 h1 =>
    rename_i b _ _ _
    cases b
    all_goals (
      refine wpAny_call ?_
      k_dflt cell_enter
      k_steps
      all_goals exact hret _ _ _ ⟨_, rfl⟩ (by k_asm) (by first | k_asm | exact cb_drop (by assumption) (fun _ hp => .tail _ hp) | exact cb_drop (by assumption) (fun _ hp => .tail _ (.tail _ hp))))
  | An hx =>
    refine wpAny_call ?_
    k_dflt cell_enter
    k_steps
    all_goals exact hret _ _ _ ⟨_, rfl⟩ (by k_asm) (by first | k_asm | exact cb_drop (by assumption) (fun _ hp => .tail _ hp) | exact cb_drop (by assumption) (fun _ hp => .tail _ (.tail _ hp)))
  | Aw hx h0 h1 =>
    refine wpAny_call ?_
    k_dflt cell_enter
    k_steps
    all_goals (refine hret _ _ _ ⟨_, congrArg (Value.str · _) ?_⟩ (by k_asm) (by k_asm); first | with_reducible exact textW_a (by assumption) | with_reducible exact textW_b (by assumption))
local macro_rules | `(tactic| walk_at "subscriptTail Name Constant ref int") => `(tactic| (k_here; (with_reducible show wpAny _ _ (subscriptTail _ _ (Value.ref _) (Value.int 0 _)) _ _ _); k_dflt (refine' item_first ?N ?m ?_ ?s ?g; (case N => k_asm); (case m => k_mem); (case s => with_unfolding_all rfl); (case g => intro _; with_unfolding_all rfl))))
theorem t_dueB (r : Addr) (sc : Int) (p : Bool) (tk ts : Tok) {o : Obj} {kd : Int} (v : Value) (hb : Bad o kd) : Tell 2 186 [(r, o)] [.ref r, .int kd tk, v, .int sc ts, .bool p] (fun r => r = .none) := by
  unfold Tell
  w_top off
  k_fill
  intro w mean mg mb dp un gd cn cs a ccd cl outer A₀ base h₀ L m news s Q E B F X N T hk hd hu hret
  cases hb
  all_goals (
    refine wpAny_call ?_
    k_dflt cell_enter
    k_steps
    all_goals first | (exfalso; omega) | exact (any12 (by assumption) (by assumption) (by assumption)).elim | (exact hret _ _ _ rfl (by k_asm) (by first | k_asm | exact cb_drop (by assumption) (fun _ hp => .tail _ hp) | exact cb_drop (by assumption) (fun _ hp => .tail _ (.tail _ hp)))))
end Mine
namespace Mine
open PySem PySem.W PySem.Calls PyProof.Rows
local macro_rules | `(tactic| walk_at "call ref") => `(tactic| (k_here; (with_reducible show wpAny _ _ (call (Value.ref 158) [Value.ref _, Value.int _ _, _, Value.int _ _, Value.bool _]) _ _ _); k_dflt (refine' tell_use (t_value _ _ _ _ _ ?p1 ?p2 ?p3) ?k1 ?k2 ?k3 ?k4 ?k5 ?kK ?ks ?kd ?ku ?_; (case p3 => assumption); (case k1 => k_asm); (case k2 => k_asm); (case k3 => k_asm); (case k4 => k_asm); (case k5 => k_asm); (case kK => first | exact rfl | assumption); (case ks => exact fun q hq => List.mem_append_left _ hq); (case p1 => omega); (case p2 => omega); (case kd => ktr_room); (case ku => ktr_units)); (intro r9 h9 tk9 hr9 F9 N9; obtain ⟨t9, e9⟩ := hr9; subst e9; (try dsimp only); (try k_fold))))
theorem t_heardG (r : Addr) (sc : Int) (p : Bool) (tk ts : Tok) (hs : 0 ≤ sc) (hs1 : sc ≤ 1) {o : Obj} {kd : Int} {v : Value} {lv : List (Addr × Obj)} {x : Str} (hg : Good sc p o kd v lv x)
    (w : World) (mean : ExcName → Option Value) (mg mb : Str → Option Value) (dp un : Nat) (gd : Option (List Code)) (cn : Str) (cs : Scope) (a : Addr) (ccd : Value) (cl : List (Str × Addr)) (A₀ : Around) (h₀ : Heap) (L : Addr) (m : Str → Option Value) (news : List (Addr × Obj)) (s : Shared) (Q E : Value → Shared → Prop)
    (F : Fr h₀ L s.heap m) (X : (hd.heap_39 w.params).In h₀) (N : News h₀ L s.heap (((r, o) :: lv) ++ news)) (T : Top view (looseW view []) mean mg mb h₀) (hk : cs.kind = .function) (hd : dp + 8 < recursionLimit) (hu : un + 64 < cLine)
    (hret : ∀ (t' : Tok) (h' : Heap) (tk' : Nat), Fr h₀ L h' m → News h₀ L h' (((r, o) :: lv) ++ news) → Q (.str x t') { s with heap := h', toks := tk' }) :
    wpAny (model PySem.Challenge.rw_no0238_01.row.prog w) (ktrTop dp un gd cn cs L a ccd cl []) (call (.ref 193) [.ref r, .int kd tk, v, .int sc ts, .bool p]) Q E s := by
  revert F X N T hk hd hu
  w_top off
  k_fill
  intro F X N T hk hd hu
  refine wpAny_call ?_
  refine' code_tryX ?F ?X ?N ?T ?hA ?hf ?hke ?ho ?hcd ?hroom ?hbind ?hloc ?h ?hco ?hgen ?hk ?hcell
  case F => exact F
  case X => exact X
  case N => exact N
  case T => exact T
  case hA => exact rfl
  case hf => exact rfl
  case hke => exact hk
  case ho => k_is
  case hcd => k_is
  case hroom => ktr_room
  case hbind => exact BindsTo.of_eq rfl
  case hloc => exact locs rfl
  case hco => exact rfl
  case hgen => exact rfl
  case hk => exact rfl
  case hcell => decide
  intro g' L' h' FG' F' N' B' X' T' D'
  try dsimp only
  try k_fold
  k_steps
  all_goals exact hret _ _ _ (by k_asm) (by k_asm)
local macro_rules | `(tactic| walk_at "call ref") => `(tactic| (k_here; (with_reducible show wpAny _ _ (call (Value.ref 158) [Value.ref _, Value.int _ _, _, Value.int _ _, Value.bool _]) _ _ _); k_dflt (refine' t_bad _ _ _ _ _ _ ?hb _ _ _ _ _ _ _ _ _ _ _ _ _ _ _ _ _ _ _ _ _ ?k1 ?k2 ?k3 ?k4 ?k5 ?kK ?kd ?ku ?_; (case hb => assumption); (case k1 => k_asm); (case k2 => k_asm); (case k3 => k_asm); (case k4 => k_asm); (case k5 => k_asm); (case kK => first | exact rfl | assumption); (case kd => ktr_room); (case ku => ktr_units)); (intro G9 e9 t9 vs9 h9 tk9 F9 R9 U9; (try dsimp only); (try k_fold))))
theorem t_heardB (r : Addr) (sc : Int) (p : Bool) (tk ts : Tok) {o : Obj} {kd : Int} (v : Value) (hb : Bad o kd)
    (w : World) (mean : ExcName → Option Value) (mg mb : Str → Option Value) (dp un : Nat) (gd : Option (List Code)) (cn : Str) (cs : Scope) (a : Addr) (ccd : Value) (cl : List (Str × Addr)) (A₀ : Around) (h₀ : Heap) (L : Addr) (m : Str → Option Value) (news : List (Addr × Obj)) (s : Shared) (Q E : Value → Shared → Prop)
    (F : Fr h₀ L s.heap m) (X : (hd.heap_39 w.params).In h₀) (N : News h₀ L s.heap ((r, o) :: news)) (T : Top view (looseW view []) mean mg mb h₀) (hk : cs.kind = .function) (hd : dp + 8 < recursionLimit) (hu : un + 64 < cLine)
    (hret : ∀ (h' : Heap) (tk' : Nat), Fr h₀ L h' m → News h₀ L h' ((r, o) :: news) → Q .none { s with heap := h', toks := tk' }) :
    wpAny (model PySem.Challenge.rw_no0238_01.row.prog w) (ktrTop dp un gd cn cs L a ccd cl []) (call (.ref 193) [.ref r, .int kd tk, v, .int sc ts, .bool p]) Q E s := by
  revert F X N T hk hd hu
  w_top off
  k_fill
  intro F X N T hk hd hu
  refine wpAny_call ?_
  refine' code_tryX ?F ?X ?N ?T ?hA ?hf ?hke ?ho ?hcd ?hroom ?hbind ?hloc ?h ?hco ?hgen ?hk ?hcell
  case F => exact F
  case X => exact X
  case N => exact N
  case T => exact T
  case hA => exact rfl
  case hf => exact rfl
  case hke => exact hk
  case ho => k_is
  case hcd => k_is
  case hroom => ktr_room
  case hbind => exact BindsTo.of_eq rfl
  case hloc => exact locs rfl
  case hco => exact rfl
  case hgen => exact rfl
  case hk => exact rfl
  case hcell => decide
  intro g' L' h' FG' F' N' B' X' T' D'
  try dsimp only
  try k_fold
  k_steps
  all_goals exact hret _ _ (by k_asm) (by k_asm)
end Mine
namespace Mine
open PySem PySem.W PySem.Calls PyProof.Rows
inductive Word : Str → Prop
  | I : Word (Str.ofString "I") | F : Word (Str.ofString "F") | E : Word (Str.ofString "E") | D : Word (Str.ofString "D") | G : Word (Str.ofString "G") | L : Word (Str.ofString "L")
  | A : Word (Str.ofString "A") | X : Word (Str.ofString "X") | H : Word (Str.ofString "H") | S : Word (Str.ofString "/") | P : Word (Str.ofString "P")
inductive ValIs (n : Int) (tn : Tok) (rr rc : Addr) (b : Bool) (x : Str) (tx : Tok) : Int → Value → Prop
  | v0 : ValIs n tn rr rc b x tx 0 (.int n tn) | v1 : ValIs n tn rr rc b x tx 1 (.ref rr) | v2 : ValIs n tn rr rc b x tx 2 (.ref rr)
  | v3 : ValIs n tn rr rc b x tx 3 (.ref rc) | v4 : ValIs n tn rr rc b x tx 4 (.bool b) | v5 : ValIs n tn rr rc b x tx 5 (.str x tx)
section
variable {prog : Program} {w : World} {A : Around} {E : Value → Shared → Prop} {s : Shared} {h₀ : Heap} {L l : Addr} {news : List (Addr × Obj)} {value slice : PySem.Expr} {n : Nat} {k : Int} {u : Tok} {Q : Value → Shared → Prop}
theorem menu_get {vs : List Value} (N : News h₀ L s.heap news) (hm : (l, listOf vs.toArray n) ∈ news) (h0 : 0 ≤ k) (h1 : k < (vs.length : Int)) (hl : vs.length ≤ 100) (h : ∀ v, vs[k.toNat]? = some v → Q v s)
    (hs : subscripted slice false (.ref l) (.int k u) = operate [.ref l, .int k u] (getItem (.ref l) (.int k u))) :
    wpAny (model prog w) A (subscriptTail value slice (.ref l) (.int k u)) Q E s := by
  have hx : vs[k.toNat]? = some (vs[k.toNat]'(by omega)) := List.getElem?_eq_getElem (by omega)
  exact tail_any (PySem.IsL.isList (n := n) (N _ hm).1).typeIs slot_list_getitem.lookup (wpAny_getItem_list (PySem.IsL.isList (n := n) (N _ hm).1) h0 (by omega) (by simpa using hx) (h _ hx)) hs
theorem menu_word {t0 t1 t2 t3 t4 t5 t6 t7 t8 t9 t10 : Tok} (N : News h₀ L s.heap news)
    (hm : (l, listOf #[.str (Str.ofString "I") t0, .str (Str.ofString "F") t1, .str (Str.ofString "E") t2, .str (Str.ofString "D") t3, .str (Str.ofString "G") t4, .str (Str.ofString "L") t5, .str (Str.ofString "A") t6, .str (Str.ofString "X") t7, .str (Str.ofString "H") t8, .str (Str.ofString "/") t9, .str (Str.ofString "P") t10] n) ∈ news)
    (h0 : 0 ≤ k) (h1 : k < 11) (h : ∀ W t, Word W → Q (.str W t) s)
    (hs : subscripted slice false (.ref l) (.int k u) = operate [.ref l, .int k u] (getItem (.ref l) (.int k u))) :
    wpAny (model prog w) A (subscriptTail value slice (.ref l) (.int k u)) Q E s := by
  refine menu_get (vs := [_, _, _, _, _, _, _, _, _, _, _]) N hm h0 h1 (Nat.le_of_ble_eq_true rfl) (fun v hv => ?_) hs
  have hk : k.toNat < 11 := by omega
  generalize k.toNat = j at hv hk
  rcases j with _ | _ | _ | _ | _ | _ | _ | _ | _ | _ | _ | j
  all_goals first | omega | (cases hv; exact h _ _ (by constructor))
theorem menu_more {t1 t2 : Tok} (N : News h₀ L s.heap news) (hm : (l, listOf #[.none, .int 1 t1, .int 2 t2] n) ∈ news) (h0 : 0 ≤ k) (h1 : k < 3) (h : ∀ v z, ZIs v z → Q v s)
    (hs : subscripted slice false (.ref l) (.int k u) = operate [.ref l, .int k u] (getItem (.ref l) (.int k u))) :
    wpAny (model prog w) A (subscriptTail value slice (.ref l) (.int k u)) Q E s := by
  refine menu_get (vs := [_, _, _]) N hm h0 h1 (Nat.le_of_ble_eq_true rfl) (fun v hv => ?_) hs
  have hk : k.toNat < 3 := by omega
  generalize k.toNat = j at hv hk
  rcases j with _ | _ | _ | j
  · cases hv; exact h _ _ ZIs.none
  · cases hv; exact h _ _ (ZIs.int (by decide) (by decide))
  · cases hv; exact h _ _ (ZIs.int (by decide) (by decide))
  · omega
theorem menu_val {m : Int} {tn tx : Tok} {rr rc : Addr} {b : Bool} {x : Str} (N : News h₀ L s.heap news) (hm : (l, listOf #[.int m tn, .ref rr, .ref rr, .ref rc, .bool b, .str x tx] n) ∈ news) (h0 : 0 ≤ k) (h1 : k < 6) (h : ∀ v, ValIs m tn rr rc b x tx k v → Q v s)
    (hs : subscripted slice false (.ref l) (.int k u) = operate [.ref l, .int k u] (getItem (.ref l) (.int k u))) :
    wpAny (model prog w) A (subscriptTail value slice (.ref l) (.int k u)) Q E s := by
  refine menu_get (vs := [_, _, _, _, _, _]) N hm h0 h1 (Nat.le_of_ble_eq_true rfl) (fun v hv => h v ?_) hs
  obtain ⟨j, rfl⟩ := Int.eq_ofNat_of_zero_le h0
  have hk : j < 6 := by omega
  simp only [Int.toNat_natCast] at hv
  rcases j with _ | _ | _ | _ | _ | _ | j
  all_goals first | omega | (cases hv; constructor)
end
/-- the item that the dict hands out for a word -/
inductive ItemOf (wd pl : Int) (t1 t2 : Tok) (av zv : Value) : Obj → Prop
  | I {t0 : Tok} : ItemOf wd pl t1 t2 av zv (tup [.str (Str.ofString "I") t0, .int wd t1, zv])
  | F {t0 : Tok} : ItemOf wd pl t1 t2 av zv (tup [.str (Str.ofString "F") t0, .int wd t1, .int pl t2])
  | D {t0 : Tok} : ItemOf wd pl t1 t2 av zv (tup [.str (Str.ofString "D") t0, .int wd t1, .int pl t2])
  | E {t0 : Tok} : ItemOf wd pl t1 t2 av zv (tup [.str (Str.ofString "E") t0, .int wd t1, .int pl t2, zv])
  | G {t0 : Tok} : ItemOf wd pl t1 t2 av zv (tup [.str (Str.ofString "G") t0, .int wd t1, .int pl t2, zv])
  | L {t0 : Tok} : ItemOf wd pl t1 t2 av zv (tup [.str (Str.ofString "L") t0, .int wd t1])
  | A {t0 : Tok} : ItemOf wd pl t1 t2 av zv (tup [.str (Str.ofString "A") t0, av])
  | X {t0 : Tok} {r : List Value} : ItemOf wd pl t1 t2 av zv (tup (.str (Str.ofString "X") t0 :: r))
  | H {t0 : Tok} {r : List Value} : ItemOf wd pl t1 t2 av zv (tup (.str (Str.ofString "H") t0 :: r))
  | S {t0 : Tok} {r : List Value} : ItemOf wd pl t1 t2 av zv (tup (.str (Str.ofString "/") t0 :: r))
  | P {t0 : Tok} {r : List Value} : ItemOf wd pl t1 t2 av zv (tup (.str (Str.ofString "P") t0 :: r))
section
variable {prog : Program} {w : World} {A : Around} {E : Value → Shared → Prop} {s : Shared} {h₀ : Heap} {L d a0 a1 a2 a3 a4 a5 a6 a7 a8 dd : Addr} {rest : List (Addr × Obj)} {Q : Value → Shared → Prop}
theorem news_one {h : Heap} {p : Addr × Obj} {l : List (Addr × Obj)} (N : News h₀ L h l) (hp : p ∈ l) : News h₀ L h [p] := fun q hq => by rw [List.mem_singleton.mp hq]; exact N _ hp
theorem item_get {o : Obj} {W : Str} {t t1 t2 k0 k1 k2 k3 k4 k5 k6 k7 k8 : Tok} {wd pl : Int} {av zv vX vH vP : Value}
    (N : News h₀ L s.heap ((dd, tup [.str W t, .int wd t1, .int pl t2, zv]) :: (a8, tup [.str W t, vP]) :: (a7, tup [.str W t]) :: (a6, tup [.str W t, vH]) :: (a5, tup [.str W t, vX]) :: (a4, tup [.str W t, av]) :: (a3, tup [.str W t, .int wd t1]) ::
      (a2, tup [.str W t, .int wd t1, .int pl t2]) :: (a1, tup [.str W t, .int wd t1, .int pl t2]) :: (a0, tup [.str W t, .int wd t1, zv]) :: (d, o) :: rest))
    (hW : Word W)
    (hd : o.IsDictOf (PySem.strKind prog w) (strPairs [(.str (Str.ofString "I") k0, .ref a0), (.str (Str.ofString "F") k1, .ref a1), (.str (Str.ofString "D") k2, .ref a2), (.str (Str.ofString "L") k3, .ref a3), (.str (Str.ofString "A") k4, .ref a4), (.str (Str.ofString "X") k5, .ref a5),
      (.str (Str.ofString "H") k6, .ref a6), (.str (Str.ofString "/") k7, .ref a7), (.str (Str.ofString "P") k8, .ref a8)]))
    (lo : (d == sysModules) = false) (hr : ∀ p ∈ rest, @LT.lt Nat _ p.1 d) (l0 : @LT.lt Nat _ d a0) (l1 : @LT.lt Nat _ d a1) (l2 : @LT.lt Nat _ d a2) (l3 : @LT.lt Nat _ d a3) (l4 : @LT.lt Nat _ d a4) (l5 : @LT.lt Nat _ d a5) (l6 : @LT.lt Nat _ d a6) (l7 : @LT.lt Nat _ d a7) (l8 : @LT.lt Nat _ d a8) (l9 : @LT.lt Nat _ d dd)
    (h : ∀ r o', ItemOf wd pl t1 t2 av zv o' → News h₀ L s.heap ((r, o') :: rest) → (∀ p ∈ rest, @LT.lt Nat _ p.1 r) → Q (.ref r) { s with toks := s.toks + 1 }) :
    wpAny (model prog w) A (call (.builtin "dict.get") [.ref d, .str W t, .ref dd]) Q E s := by
  have hm : News h₀ L s.heap [(d, o)] := news_one N (by repeat (first | exact List.Mem.head _ | refine List.Mem.tail _ ?_))
  have hr' : News h₀ L s.heap rest := fun p hp => N p (by repeat (first | exact hp | refine List.Mem.tail _ ?_))
  have go : ∀ r o', @LT.lt Nat _ d r → ItemOf wd pl t1 t2 av zv o' → News h₀ L s.heap [(r, o')] → Q (.ref r) { s with toks := s.toks + 1 } := fun r o' lr hi hp => h r o' hi (fun p hp' => by
    rcases List.mem_cons.mp hp' with rfl | hp'
    · exact hp _ (.head _)
    · exact hr' _ hp') fun p hp' => Nat.lt_trans (hr p hp') lr
  cases hW
  · exact kdg_get2 (knd := PySem.strKind _ _) hm (.head _) hd lo (strKind_is _ _ _ _) (some (.ref a0)) (by rfl) (go a0 _ l0 .I (news_one N (by repeat (first | exact List.Mem.head _ | refine List.Mem.tail _ ?_))))
  · exact kdg_get2 (knd := PySem.strKind _ _) hm (.head _) hd lo (strKind_is _ _ _ _) (some (.ref a1)) (by rfl) (go a1 _ l1 .F (news_one N (by repeat (first | exact List.Mem.head _ | refine List.Mem.tail _ ?_))))
  · exact kdg_get2 (knd := PySem.strKind _ _) hm (.head _) hd lo (strKind_is _ _ _ _) none (by rfl) (go dd _ l9 .E (news_one N (by repeat (first | exact List.Mem.head _ | refine List.Mem.tail _ ?_))))
  · exact kdg_get2 (knd := PySem.strKind _ _) hm (.head _) hd lo (strKind_is _ _ _ _) (some (.ref a2)) (by rfl) (go a2 _ l2 .D (news_one N (by repeat (first | exact List.Mem.head _ | refine List.Mem.tail _ ?_))))
  · exact kdg_get2 (knd := PySem.strKind _ _) hm (.head _) hd lo (strKind_is _ _ _ _) none (by rfl) (go dd _ l9 .G (news_one N (by repeat (first | exact List.Mem.head _ | refine List.Mem.tail _ ?_))))
  · exact kdg_get2 (knd := PySem.strKind _ _) hm (.head _) hd lo (strKind_is _ _ _ _) (some (.ref a3)) (by rfl) (go a3 _ l3 .L (news_one N (by repeat (first | exact List.Mem.head _ | refine List.Mem.tail _ ?_))))
  · exact kdg_get2 (knd := PySem.strKind _ _) hm (.head _) hd lo (strKind_is _ _ _ _) (some (.ref a4)) (by rfl) (go a4 _ l4 .A (news_one N (by repeat (first | exact List.Mem.head _ | refine List.Mem.tail _ ?_))))
  · exact kdg_get2 (knd := PySem.strKind _ _) hm (.head _) hd lo (strKind_is _ _ _ _) (some (.ref a5)) (by rfl) (go a5 _ l5 .X (news_one N (by repeat (first | exact List.Mem.head _ | refine List.Mem.tail _ ?_))))
  · exact kdg_get2 (knd := PySem.strKind _ _) hm (.head _) hd lo (strKind_is _ _ _ _) (some (.ref a6)) (by rfl) (go a6 _ l6 .H (news_one N (by repeat (first | exact List.Mem.head _ | refine List.Mem.tail _ ?_))))
  · exact kdg_get2 (knd := PySem.strKind _ _) hm (.head _) hd lo (strKind_is _ _ _ _) (some (.ref a7)) (by rfl) (go a7 _ l7 .S (news_one N (by repeat (first | exact List.Mem.head _ | refine List.Mem.tail _ ?_))))
  · exact kdg_get2 (knd := PySem.strKind _ _) hm (.head _) hd lo (strKind_is _ _ _ _) (some (.ref a8)) (by rfl) (go a8 _ l8 .P (news_one N (by repeat (first | exact List.Mem.head _ | refine List.Mem.tail _ ?_))))
end
/-- a value of a drawn kind suits the item, or the item takes no such value -/
theorem good_or_bad {wd pl n e : Int} {t1 t2 tn te tx : Tok} {av zv : Value} {z : Option Int} {o : Obj} {sc kd : Int} {p b : Bool} {rr rc : Addr} {x : Str} {v : Value} (hi : ItemOf wd pl t1 t2 av zv o) (hz : ZIs zv z) (ha : av = .int wd t1 ∨ av = .none)
    (h0 : 1 ≤ wd) (h1 : wd ≤ 50) (hp : 1 ≤ pl) (hp1 : pl ≤ 8) (hn : -10000000 ≤ n) (hn1 : n ≤ 10000000) (he : -10 ≤ e) (he1 : e ≤ 10) (hx : x.length ≤ 50) (hv : ValIs n tn rr rc b x tx kd v) :
    (∃ lv y, Good sc p o kd v lv y ∧ ∀ q ∈ lv, q = (rr, tup [.int n tn, .int e te])) ∨ Bad o kd := by
  have h00 : 0 ≤ wd := by omega
  cases hi
  case I =>
    cases hv
    case v0 => exact .inl ⟨_, _, .I hn hn1 h00 h1 hz, fun _ h => nomatch h⟩
    all_goals exact .inr (.I (by decide))
  case F =>
    cases hv
    case v1 => exact .inl ⟨_, _, .F (.inl rfl) hn hn1 he he1 h00 h1 hp hp1, fun _ h => List.mem_singleton.mp h⟩
    case v2 => exact .inl ⟨_, _, .F (.inr rfl) hn hn1 he he1 h00 h1 hp hp1, fun _ h => List.mem_singleton.mp h⟩
    all_goals exact .inr (.F (by decide) (by decide))
  case D =>
    cases hv
    case v1 => exact .inl ⟨_, _, .D (.inl rfl) hn hn1 he he1 h00 h1 hp hp1, fun _ h => List.mem_singleton.mp h⟩
    case v2 => exact .inl ⟨_, _, .D (.inr rfl) hn hn1 he he1 h00 h1 hp hp1, fun _ h => List.mem_singleton.mp h⟩
    all_goals exact .inr (.D (by decide) (by decide))
  case E =>
    cases hv
    case v1 => exact .inl ⟨_, _, .E (.inl rfl) hn hn1 he he1 h00 h1 hp hp1 hz, fun _ h => List.mem_singleton.mp h⟩
    case v2 => exact .inl ⟨_, _, .E (.inr rfl) hn hn1 he he1 h00 h1 hp hp1 hz, fun _ h => List.mem_singleton.mp h⟩
    all_goals exact .inr (.E (by decide) (by decide))
  case G =>
    cases hv
    case v1 => exact .inl ⟨_, _, .G (.inl rfl) hn hn1 he he1 h00 h1 hp hp1 hz, fun _ h => List.mem_singleton.mp h⟩
    case v2 => exact .inl ⟨_, _, .G (.inr rfl) hn hn1 he he1 h00 h1 hp hp1 hz, fun _ h => List.mem_singleton.mp h⟩
    all_goals exact .inr (.G (by decide) (by decide))
  case L =>
    cases hv
    case v4 => exact .inl ⟨_, _, .L h0 h1, fun _ h => nomatch h⟩
    all_goals exact .inr (.L (by decide))
  case A =>
    cases hv
    case v5 =>
      rcases ha with rfl | rfl
      · exact .inl ⟨_, _, .Aw hx h00 h1, fun _ h => nomatch h⟩
      · exact .inl ⟨_, _, .An hx, fun _ h => nomatch h⟩
    all_goals exact .inr (.A (by decide))
  case X => exact .inr .X
  case H => exact .inr .H
  case S => exact .inr .S
  case P => exact .inr .P
theorem join_short : ∀ (l : List Str), (∀ y ∈ l, y.length ≤ 1) → (Str.join (Str.ofString "") l).length ≤ l.length
  | [], _ => Nat.zero_le _
  | [x], h => h x (.head _)
  | x :: y :: r, h => by
    have ih := join_short (y :: r) fun z hz => h z (.tail _ hz)
    show (x ++ Str.ofString "" ++ Str.join (Str.ofString "") (y :: r)).length ≤ _
    rw [app_len, app_len, no_sign]
    have := h x (.head _)
    simp only [List.length_cons] at ih ⊢
    omega
theorem text_len (g : Int → Str) {r : Int} (h : r < 10) : (Txt.join (Str.ofString "") (List.map (fun a => if (g a).length = 1 then g a else Str.empty) (rangeKs 0 (r - 0).toNat))).length ≤ 50 := by
  show (Builtin.Str.glued _ _).length ≤ 50
  rw [StrLaws.glued_eq_join]
  refine Nat.le_trans (join_short _ ?_) ?_
  · intro y hy
    obtain ⟨a, _, rfl⟩ := List.mem_map.mp hy
    split
    · omega
    · exact Nat.zero_le _
  · rw [List.length_map, rangeKs_length]; omega
theorem led_in {p x : Addr × Obj} {lv news : List (Addr × Obj)} (h1 : p ∈ news) (hm : ∀ q ∈ lv, q = x) (h2 : x ∈ news) : ∀ q ∈ p :: lv, q ∈ news := fun q hq => (List.mem_cons.mp hq).elim (fun e => by rw [e]; exact h1) fun h => by rw [hm q h]; exact h2
section
variable {r : Addr} {sc : Int} {p : Bool} {tk ts : Tok} {o : Obj} {kd : Int} {v : Value} {lv : List (Addr × Obj)} {x : Str} {w : World} {mean : ExcName → Option Value} {mg mb : Str → Option Value} {dp un : Nat} {gd : Option (List Code)} {cn : Str} {cs : Scope} {a : Addr} {ccd : Value} {cl : List (Str × Addr)} {A₀ : Around} {h₀ : Heap} {L : Addr} {m : Str → Option Value} {news : List (Addr × Obj)} {s : Shared} {Q E : Value → Shared → Prop}
theorem heardG_use (hg : Good sc p o kd v lv x) (hs : 0 ≤ sc) (hs1 : sc ≤ 1) (F : Fr h₀ L s.heap m) (X : (hd.heap_39 w.params).In h₀) (N : News h₀ L s.heap news) (T : Top view (looseW view []) mean mg mb h₀) (hk : cs.kind = .function) (hl : ∀ q ∈ (r, o) :: lv, q ∈ news) (hd : dp + 8 < recursionLimit) (hu : un + 64 < cLine)
    (hret : ∀ (t' : Tok) (h' : Heap) (tk' : Nat), Fr h₀ L h' m → News h₀ L h' news → Q (.str x t') { s with heap := h', toks := tk' }) :
    wpAny (model PySem.Challenge.rw_no0238_01.row.prog w) (ktrTop dp un gd cn cs L a ccd cl []) (call (.ref 193) [.ref r, .int kd tk, v, .int sc ts, .bool p]) Q E s :=
  t_heardG r sc p tk ts hs hs1 hg w mean mg mb dp un gd cn cs a ccd cl (ktrTop dp un gd cn cs L a ccd cl []) h₀ L m news s Q E F X (fun q hq => (List.mem_append.mp hq).elim (fun h => N q (hl q h)) (N q)) T hk hd hu
    fun t' h' tk' F' N' => hret t' h' tk' F' fun q hq => N' q (List.mem_append.mpr (.inr hq))
theorem heardB_use (hb : Bad o kd) (F : Fr h₀ L s.heap m) (X : (hd.heap_39 w.params).In h₀) (N : News h₀ L s.heap news) (T : Top view (looseW view []) mean mg mb h₀) (hk : cs.kind = .function) (hl : (r, o) ∈ news) (hd : dp + 8 < recursionLimit) (hu : un + 64 < cLine)
    (hret : ∀ (h' : Heap) (tk' : Nat), Fr h₀ L h' m → News h₀ L h' news → Q .none { s with heap := h', toks := tk' }) :
    wpAny (model PySem.Challenge.rw_no0238_01.row.prog w) (ktrTop dp un gd cn cs L a ccd cl []) (call (.ref 193) [.ref r, .int kd tk, v, .int sc ts, .bool p]) Q E s :=
  t_heardB r sc p tk ts v hb w mean mg mb dp un gd cn cs a ccd cl (ktrTop dp un gd cn cs L a ccd cl []) h₀ L m news s Q E F X (fun q hq => (List.mem_cons.mp hq).elim (fun h => h ▸ N _ hl) (N q)) T hk hd hu
    fun h' tk' F' N' => hret h' tk' F' fun q hq => N' q (.tail _ hq)
end
theorem num_lo {r : Int} (h : 0 ≤ r) : -10000000 ≤ r - 10 ^ Int.toNat 6 := by
  have : (10 : Int) ^ Int.toNat 6 = 1000000 := rfl
  omega
theorem num_hi {r : Int} (h : r < 2 * 10 ^ Int.toNat 6) : r - 10 ^ Int.toNat 6 ≤ 10000000 := by
  have : (10 : Int) ^ Int.toNat 6 = 1000000 := rfl
  omega
theorem due_split {M : Model} {A : Around} {Q E : Value → Shared → Prop} {s : Shared} {h₀ : Heap} {L f r rr rc : Addr} {news : List (Addr × Obj)} {wd pl n e : Int} {t1 t2 tn te tx tk ts : Tok} {av zv v : Value} {z : Option Int} {o : Obj} {sc kd : Int} {p b : Bool} {x : Str}
    (N : News h₀ L s.heap news) (hv : ValIs n tn rr rc b x tx kd v) (hr : (r, o) ∈ news) (hi : ItemOf wd pl t1 t2 av zv o) (hz : ZIs zv z) (ha : av = .int wd t1 ∨ av = .none) (hm : (rr, tup [.int n tn, .int e te]) ∈ news)
    (h0 : 1 ≤ wd) (h1 : wd ≤ 50) (hp : 1 ≤ pl) (hp1 : pl ≤ 8) (hn : -10000000 ≤ n) (hn1 : n ≤ 10000000) (he : -10 ≤ e) (he1 : e ≤ 10) (hx : x.length ≤ 50)
    (hG : ((∃ lv y, Good sc p o kd v lv y ∧ ∀ q ∈ lv, q = (rr, tup [.int n tn, .int e te])) ∨ Bad o kd) → wpAny M A (call (.ref f) [.ref r, .int kd tk, v, .int sc ts, .bool p]) Q E s) : wpAny M A (call (.ref f) [.ref r, .int kd tk, v, .int sc ts, .bool p]) Q E s :=
  hG (good_or_bad hi hz ha h0 h1 hp hp1 hn hn1 he he1 hx hv)
end Mine
namespace Mine
open PySem PySem.W PySem.Calls PyProof.Rows
theorem take24 (l : List Int) : (List.take 24 l).length ≤ 24 := by rw [List.length_take]; omega
theorem gen_tok2 {M : Model} {ks : Around} {α : Type} {act : Sem α} {Q : α → Shared → Prop} {E : Value → Shared → Prop} {h : Heap} {t : Nat} {o : OsState} {g : Array GenState} {d : Drawn} (H : ∀ t', wpAny M ks act Q E (Shared.mk h g d t' o)) : wpAny M ks act Q E (Shared.mk h g d t o) := H t
theorem cint {M : Model} {ks : Around} {env : Env} {i : Int} {k pos} {Q : Value → Shared → Prop} {E : Value → Shared → Prop} {h : Heap} {t : Nat} {o : OsState} {g : Array GenState} {d : Drawn} (H : ∀ (u : Tok) (u' : Nat), Q (.int i u) (Shared.mk h g d u' o)) : wpAny M ks (eval (.Constant (.int i) k pos) env) Q E (Shared.mk h g d t o) := wpAny_Constant_int (H _ _)
theorem cstr {M : Model} {ks : Around} {env : Env} {i : Str} {k pos} {Q : Value → Shared → Prop} {E : Value → Shared → Prop} {h : Heap} {t : Nat} {o : OsState} {g : Array GenState} {d : Drawn} (H : ∀ (u : Tok) (u' : Nat), Q (.str i u) (Shared.mk h g d u' o)) : wpAny M ks (eval (.Constant (.str i) k pos) env) Q E (Shared.mk h g d t o) := Calls.Constant_str (H _ _)
local macro_rules | `(tactic| walk_at "storeName") => `(tactic| (k_here; (with_reducible show wpAny _ _ _ _ _ (Shared.mk _ _ _ (_ + 1) _)); (try dsimp only); refine gen_tok2 ?_; intro _))
local macro_rules | `(tactic| walk_at "evalPairs") => `(tactic| (k_here; (with_reducible show wpAny _ _ _ _ _ (Shared.mk _ _ _ (_ + 1) _)); (try dsimp only); refine gen_tok2 ?_; intro _))
local macro_rules | `(tactic| walk_at "spliced") => `(tactic| (k_here; (with_reducible show wpAny _ _ _ _ _ (Shared.mk _ _ _ (_ + 1) _)); (try dsimp only); refine gen_tok2 ?_; intro _))
local macro_rules | `(tactic| walk_at "execs cons") => `(tactic| (k_here; (with_reducible show wpAny _ _ _ _ _ (Shared.mk _ _ _ (_ + 1) _)); (try dsimp only); refine gen_tok2 ?_; intro _))
local macro_rules | `(tactic| walk_at "eval Constant int") => `(tactic| (k_here; refine cint ?_; intro _ _))
local macro_rules | `(tactic| walk_at "eval Constant str") => `(tactic| (k_here; refine cstr ?_; intro _ _))
local macro_rules | `(tactic| lcg_off) => `(tactic| first | assumption | (simp only [LCg.Off3, and_true]; assumption))
theorem ite_val {c : Prop} [Decidable c] {M : Model} {A : Around} {a b : Sem Value} {Q E : Value → Shared → Prop} {s : Shared} {x : Value} (ha : wpAny M A a (fun v s' => v = x ∧ s' = s) E s) (hb : wpAny M A b (fun v s' => v = Value.none ∧ s' = s) E s)
    (h : ∀ v, v = x ∨ v = Value.none → Q v s) : if c then wpAny M A a Q E s else wpAny M A b Q E s := by
  split
  · exact wpAny_mono ha (fun v s' e => by rw [e.2]; exact h v (.inl e.1)) fun _ _ e => e
  · exact wpAny_mono hb (fun v s' e => by rw [e.2]; exact h v (.inr e.1)) fun _ _ e => e
local macro_rules | `(tactic| walk_at "ite") => `(tactic| (k_here; (with_reducible show @ite _ _ _ (wpAny _ _ (eval (Expr.Name _ _) _) _ _ _) (wpAny _ _ (eval (Expr.Constant Const.none _ _) _) _ _ _)); k_dflt (refine' ite_val ?ha ?hb ?_; (case ha => (walk1; (all_goals (try exact ⟨rfl, rfl⟩)); (all_goals k_data))); (case hb => (walk1; (all_goals (try exact ⟨rfl, rfl⟩)); (all_goals k_data)))); (intro v9 y9)))
local macro_rules | `(tactic| walk_at "call ref") => `(tactic| (k_here; (with_reducible show wpAny _ _ (call (Value.ref 165) [Value.ref _, Value.int _ _]) _ _ _); k_dflt (refine' t_draw _ _ _ _ _ _ _ _ ?hv ?hlen ?hi ?hi1 ?hm ?hm1 ?hne _ _ _ _ _ _ _ _ _ _ _ _ _ _ _ _ _ _ _ _ _ _ _ ?k1 ?k2 ?k3 ?k4 ?U ?hmem ?k5 ?kK ?kd ?ku ?_; (case k1 => k_asm); (case k2 => k_asm); (case k3 => k_asm); (case k4 => k_asm); (case k5 => k_asm); (case U => k_updF); (case hmem => k_mem); (case hv => assumption); (case hlen => exact take24 _); (case hi => decide); (case hi1 => decide); (case hm => decide); (case hm1 => decide); (case hne => k_ne); (case kK => exact rfl); (case kd => decide); (case ku => decide)); (intro r9 t9 u9 h9 tk9 a9 b9 F9 N9; try dsimp only at N9)))
local macro_rules | `(tactic| walk_at "subscriptTail") => `(tactic| (k_here; (with_reducible show wpAny _ _ (subscriptTail _ _ (Value.ref _) (Value.int _ _)) _ _ _); k_dflt (refine' menu_word ?k1 ?k2 ?k4 ?k5 ?_ ?k7; (case k1 => k_asm); (case k2 => k_mem); (case k4 => assumption); (case k5 => assumption); (case k7 => with_unfolding_all rfl)); (intro W9 t9 w9)))
local macro_rules | `(tactic| walk_at "subscriptTail") => `(tactic| (k_here; (with_reducible show wpAny _ _ (subscriptTail _ _ (Value.ref _) (Value.int _ _)) _ _ _); k_dflt (refine' menu_more ?k1 ?k2 ?k4 ?k5 ?_ ?k7; (case k1 => k_asm); (case k2 => k_mem); (case k4 => assumption); (case k5 => assumption); (case k7 => with_unfolding_all rfl)); (intro v9 z9 y9)))
local macro_rules | `(tactic| walk_at "subscriptTail") => `(tactic| (k_here; (with_reducible show wpAny _ _ (subscriptTail _ _ (Value.ref _) (Value.int _ _)) _ _ _); k_dflt (refine' menu_val ?k1 ?k2 ?k4 ?k5 ?_ ?k7; (case k1 => k_asm); (case k2 => k_mem); (case k4 => assumption); (case k5 => assumption); (case k7 => with_unfolding_all rfl)); (intro v9 y9)))
local macro_rules | `(tactic| walk_at "call builtin:dict.get") => `(tactic| (k_here; (with_reducible show wpAny _ _ (call (Value.builtin "dict.get") [Value.ref _, Value.str _ _, Value.ref _]) _ _ _); k_dflt (refine' item_get ?N ?hW ?hd ?lo ?hr ?l0 ?l1 ?l2 ?l3 ?l4 ?l5 ?l6 ?l7 ?l8 ?l9 ?_; (case N => k_asm); (case hW => assumption); (case hd => k_asm); (case lo => assumption); (case hr => repeat (first | exact List.forall_mem_nil _ | refine List.forall_mem_cons.mpr ⟨by (try dsimp only); omega, ?_⟩)); (case l0 => omega); (case l1 => omega); (case l2 => omega); (case l3 => omega); (case l4 => omega); (case l5 => omega); (case l6 => omega); (case l7 => omega); (case l8 => omega); (case l9 => omega)); (intro r9 o9 i9 N9 g9; simp only [List.forall_mem_cons, List.not_mem_nil, false_implies, implies_true, and_true] at g9)))
local macro_rules | `(tactic| walk_at "CompSrc") => `(tactic| (k_here; k_dflt (refine LCg.CompSrc.range (by rfl) (by k_asm) (by k_asm) (by assumption) (by exact small_one (by omega) (by omega) (by omega) (by omega)) (by exact rangeSize_nat _ _) (by (rw [PySem.sizeLine_eq]; omega)) ?_; intro g'; (refine' kct_range _ (fun k' t' I' oI' C' oC' D' m' ys' h' tk' E' hlo' hhi' hC' hx' F' N' off' ne' => ?_) ?_); (all_goals (try (simp only [LCg.Off3, and_true] at off'))); (all_goals (try ((show KPfMark → _); intro hMark'))); kcf_last)))
local macro_rules | `(tactic| walk_at "call ref") => `(tactic| (k_here; (with_reducible show wpAny _ _ (call (Value.ref 186) [Value.ref _, Value.int _ _, _, Value.int _ _, Value.bool _]) _ _ _); k_dflt (refine' due_split ?N ?hv ?hr ?hi ?hz ?ha ?hm ?h0 ?h1 ?hp ?hp1 ?hn ?hn1 ?he ?he1 ?hx ?_; (case N => k_asm); (case hv => assumption); (case hr => k_mem); (case hi => assumption); (case hz => assumption); (case ha => first | assumption | exact .inl rfl | exact .inr rfl); (case hm => k_mem); (case h0 => omega); (case h1 => omega); (case hp => omega); (case hp1 => omega); (case hn => exact num_lo (by assumption)); (case hn1 => exact num_hi (by assumption)); (case he => omega); (case he1 => omega); (case hx => exact text_len _ (by assumption))); (intro z9; rcases z9 with ⟨lv9, x9, c9, m9⟩ | c9)))
local macro_rules | `(tactic| walk_at "call ref") => `(tactic| (k_here; (with_reducible show wpAny _ _ (call (Value.ref 186) [Value.ref _, Value.int _ _, _, Value.int _ _, Value.bool _]) _ _ _); k_dflt (refine' tell_use (t_due _ _ _ _ _ ?p1 ?p2 ?p3) ?k1 ?k2 ?k3 ?k4 ?k5 ?kK ?ks ?kd ?ku ?_; (case p3 => assumption); (case k1 => k_asm); (case k2 => k_asm); (case k3 => k_asm); (case k4 => k_asm); (case k5 => k_asm); (case kK => exact rfl); (case ks => exact led_in (by k_mem) (by assumption) (by k_mem)); (case p1 => assumption); (case p2 => omega); (case kd => decide); (case ku => decide)); (intro r9 h9 tk9 hr9 F9 N9; obtain ⟨t9, e9⟩ := hr9; subst e9; (try dsimp only); (try k_fold))))
local macro_rules | `(tactic| walk_at "call ref") => `(tactic| (k_here; (with_reducible show wpAny _ _ (call (Value.ref 186) [Value.ref _, Value.int _ _, _, Value.int _ _, Value.bool _]) _ _ _); k_dflt (refine' tell_use (t_dueB _ _ _ _ _ _ ?p3) ?k1 ?k2 ?k3 ?k4 ?k5 ?kK ?ks ?kd ?ku ?_; (case p3 => assumption); (case k1 => k_asm); (case k2 => k_asm); (case k3 => k_asm); (case k4 => k_asm); (case k5 => k_asm); (case kK => exact rfl); (case ks => exact sub1 (by k_mem)); (case kd => decide); (case ku => decide)); (intro r9 h9 tk9 hr9 F9 N9; subst hr9; (try dsimp only); (try k_fold))))
local macro_rules | `(tactic| walk_at "call ref") => `(tactic| (k_here; (with_reducible show wpAny _ _ (call (Value.ref 193) [Value.ref _, Value.int _ _, _, Value.int _ _, Value.bool _]) _ _ _); k_dflt (refine' heardG_use ?p3 ?p1 ?p2 ?k2 ?k3 ?k4 ?k5 ?kK ?ks ?kd ?ku ?_; (case p3 => assumption); (case k2 => k_asm); (case k3 => k_asm); (case k4 => k_asm); (case k5 => k_asm); (case kK => exact rfl); (case ks => exact led_in (by k_mem) (by assumption) (by k_mem)); (case p1 => assumption); (case p2 => omega); (case kd => decide); (case ku => decide)); (intro t9 h9 tk9 F9 N9; (try dsimp only); (try k_fold))))
local macro_rules | `(tactic| walk_at "call ref") => `(tactic| (k_here; (with_reducible show wpAny _ _ (call (Value.ref 193) [Value.ref _, Value.int _ _, _, Value.int _ _, Value.bool _]) _ _ _); k_dflt (refine' heardB_use ?p3 ?k2 ?k3 ?k4 ?k5 ?kK ?ks ?kd ?ku ?_; (case p3 => assumption); (case k2 => k_asm); (case k3 => k_asm); (case k4 => k_asm); (case k5 => k_asm); (case kK => exact rfl); (case ks => k_mem); (case kd => decide); (case ku => decide)); (intro h9 tk9 F9 N9; (try dsimp only); (try k_fold))))
theorem law_holds : PySem.Challenge.rw_no0238_01.Holds := by
  refine hd ?_
  w_strict (k_go0; (all_goals try k_fold); k_steps)
end Mine
theorem PySem.Challenge.cw_no0238_01_holds : PySem.Challenge.rw_no0238_01.Holds := by
  exact Mine.law_holds
