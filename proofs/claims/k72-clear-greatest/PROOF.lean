import PyProof.Rows.All
import Wide.All
import OpenK.AllK
import Wide.FinOn
import KE.KStateDown
import Lean
import HandS.ForMost
import HandS.More
import HandS.WordsExc
import HandS.Exc
import HandS.Defaults
import HandS.Head0
import HandS.Head1
import HandS.Head2
import HandS.HeadEnd
import HandS.HeadHook1
import HandS.HeadHook2
import PySem.Challenge.RW_signedpacts_k72_whole_clear_greatest
import HandS.ListItems
import HandS.DictComp
import HandS.DeepEq
import HandS.IsInst
import HandS.Wide
import HandS.Conv
import HandS.Zip
import KE.GoesNew
import KE.GoesMore
import HandS.Walk
import HandS.Steps
import HandS.Evl
section
set_option Elab.async false
set_option linter.all false
set_option maxRecDepth 100000
set_option maxHeartbeats 0
namespace K72
open PySem PySem.Spec PyProof.Rows L2
def top (i : Nat) : Stmt := PySem.Challenge.pw_signedpacts_k72_whole_clear_greatest.main.body.getD i (.Pass ⟨0, 0, 0, 0⟩)
abbrev s8 : Stmt := top 8
abbrev s9 : Stmt := top 9
abbrev s10 : Stmt := top 10
abbrev s11 : Stmt := top 11
abbrev s13 : Stmt := top 13
abbrev s14 : Stmt := top 14
abbrev s16 : Stmt := top 16
abbrev s18 : Stmt := top 18
abbrev s19 : Stmt := top 19
abbrev s20 : Stmt := top 20
abbrev s22 : Stmt := top 22
abbrev s23 : Stmt := top 23
abbrev s24 : Stmt := top 24
abbrev s25 : Stmt := top 25
abbrev s26 : Stmt := top 26
abbrev s27 : Stmt := top 27
abbrev s28 : Stmt := top 28
abbrev s29 : Stmt := top 29
abbrev s31 : Stmt := top 31
abbrev s32 : Stmt := top 32
abbrev s33 : Stmt := top 33
abbrev s34 : Stmt := top 34
abbrev s35 : Stmt := top 35
abbrev s36 : Stmt := top 36
abbrev s37 : Stmt := top 37
abbrev s38 : Stmt := top 38
abbrev s39 : Stmt := top 39
abbrev s40 : Stmt := top 40
abbrev s41 : Stmt := top 41
abbrev s42 : Stmt := top 42
abbrev s43 : Stmt := top 43
abbrev s44 : Stmt := top 44
abbrev s45 : Stmt := top 45
abbrev s46 : Stmt := top 46
abbrev s47 : Stmt := top 47
abbrev s48 : Stmt := top 48
abbrev s49 : Stmt := top 49
abbrev s50 : Stmt := top 50
abbrev s51 : Stmt := top 51
def d8 : He.DefD := ⟨("is_party", none), "is_party", "is_party", defArgs s8, defBody s8, defScope s8, [], []⟩
def d9 : He.DefD := ⟨("is_pair", none), "is_pair", "is_pair", defArgs s9, defBody s9, defScope s9, [], []⟩
def d10 : He.DefD := ⟨("check_party", none), "check_party", "check_party", defArgs s10, defBody s10, defScope s10, [], []⟩
def d11 : He.DefD := ⟨("check_purses", none), "check_purses", "check_purses", defArgs s11, defBody s11, defScope s11, [], []⟩
def d13 : He.DefD := ⟨("check_debts", none), "check_debts", "check_debts", defArgs s13, defBody s13, defScope s13, [], []⟩
def d14 : He.DefD := ⟨("tidy", none), "tidy", "tidy", defArgs s14, defBody s14, defScope s14, [], []⟩
def d16 : He.DefD := ⟨("common_divisor", none), "common_divisor", "common_divisor", defArgs s16, defBody s16, defScope s16, [], []⟩
def d18 : He.DefD := ⟨("lowest_terms", none), "lowest_terms", "lowest_terms", defArgs s18, defBody s18, defScope s18, [], []⟩
def d19 : He.DefD := ⟨("without_unknown", none), "without_unknown", "without_unknown", defArgs s19, defBody s19, defScope s19, [], []⟩
def d20 : He.DefD := ⟨("solve", none), "solve", "solve", defArgs s20, defBody s20, defScope s20, [], []⟩
def d22 : He.DefD := ⟨("debt_of", none), "debt_of", "debt_of", defArgs s22, defBody s22, defScope s22, [], []⟩
def d23 : He.DefD := ⟨("checked", none), "checked", "checked", defArgs s23, defBody s23, defScope s23, [], []⟩
def d24 : He.DefD := ⟨("received", none), "received", "received", defArgs s24, defBody s24, defScope s24, [], []⟩
def d25 : He.DefD := ⟨("equation_of", none), "equation_of", "equation_of", defArgs s25, defBody s25, defScope s25, [], []⟩
def d26 : He.DefD := ⟨("shares_when", none), "shares_when", "shares_when", defArgs s26, defBody s26, defScope s26, [], []⟩
def d27 : He.DefD := ⟨("short_parties", none), "short_parties", "short_parties", defArgs s27, defBody s27, defScope s27, [], []⟩
def d28 : He.DefD := ⟨("collapse", none), "collapse", "collapse", defArgs s28, defBody s28, defScope s28, [], []⟩
def d29 : He.DefD := ⟨("clear", none), "clear", "clear", defArgs s29, defBody s29, defScope s29, [], []⟩
def d31 : He.DefD := ⟨("_law_cell", none), "_law_cell", "_law_cell", defArgs s31, defBody s31, defScope s31, [], []⟩
def d32 : He.DefD := ⟨("_law_draws", none), "_law_draws", "_law_draws", defArgs s32, defBody s32, defScope s32, [], []⟩
def d33 : He.DefD := ⟨("_law_take", none), "_law_take", "_law_take", defArgs s33, defBody s33, defScope s33, [], []⟩
def d34 : He.DefD := ⟨("_law_wide", none), "_law_wide", "_law_wide", defArgs s34, defBody s34, defScope s34, [], []⟩
def d35 : He.DefD := ⟨("_law_coins", none), "_law_coins", "_law_coins", defArgs s35, defBody s35, defScope s35, [], []⟩
def d36 : He.DefD := ⟨("_law_base", none), "_law_base", "_law_base", defArgs s36, defBody s36, defScope s36, [], []⟩
def d37 : He.DefD := ⟨("_law_parties", none), "_law_parties", "_law_parties", defArgs s37, defBody s37, defScope s37, [], []⟩
def d38 : He.DefD := ⟨("_law_debts", none), "_law_debts", "_law_debts", defArgs s38, defBody s38, defScope s38, [], []⟩
def d39 : He.DefD := ⟨("_law_purses", none), "_law_purses", "_law_purses", defArgs s39, defBody s39, defScope s39, [], []⟩
def d40 : He.DefD := ⟨("_law_is_integer", none), "_law_is_integer", "_law_is_integer", defArgs s40, defBody s40, defScope s40, [], []⟩
def d41 : He.DefD := ⟨("_law_owes", none), "_law_owes", "_law_owes", defArgs s41, defBody s41, defScope s41, [], []⟩
def d42 : He.DefD := ⟨("_law_lowest", none), "_law_lowest", "_law_lowest", defArgs s42, defBody s42, defScope s42, [], []⟩
def d43 : He.DefD := ⟨("_law_parts_fit", none), "_law_parts_fit", "_law_parts_fit", defArgs s43, defBody s43, defScope s43, [], []⟩
def d44 : He.DefD := ⟨("_law_has", none), "_law_has", "_law_has", defArgs s44, defBody s44, defScope s44, [], []⟩
def d45 : He.DefD := ⟨("_law_pays_all", none), "_law_pays_all", "_law_pays_all", defArgs s45, defBody s45, defScope s45, [], []⟩
def d46 : He.DefD := ⟨("_law_clears", none), "_law_clears", "_law_clears", defArgs s46, defBody s46, defScope s46, [], []⟩
def d47 : He.DefD := ⟨("_law_greatest", none), "_law_greatest", "_law_greatest", defArgs s47, defBody s47, defScope s47, [], []⟩
def d48 : He.DefD := ⟨("_law_waves_fit", none), "_law_waves_fit", "_law_waves_fit", defArgs s48, defBody s48, defScope s48, [], []⟩
def d49 : He.DefD := ⟨("_law_cleared", none), "_law_cleared", "_law_cleared", defArgs s49, defBody s49, defScope s49, [], []⟩
def d50 : He.DefD := ⟨("_law_change", none), "_law_change", "_law_change", defArgs s50, defBody s50, defScope s50, [], []⟩
def d51 : He.DefD := ⟨("law", none), "law", "law", defArgs s51, defBody s51, defScope s51, [], []⟩
def fnA : List He.DefD := [d8, d9, d10, d11, d13, d14, d16, d18, d19, d20, d22, d23, d24, d25, d26, d27, d28, d29, d31, d32]
def fnB : List He.DefD := [d33, d34, d35, d36, d37, d38, d39, d40, d41, d42, d43, d44, d45, d46, d47, d48, d49, d50, d51]
def fn : List He.DefD := fnA ++ fnB
def faA : List He.Fa := [.glo "is_party", .glo "is_pair", .glo "check_party", .glo "check_purses", .glo "check_debts", .glo "tidy", .glo "common_divisor", .glo "lowest_terms", .glo "without_unknown", .glo "solve", .glo "debt_of", .glo "checked", .glo "received", .glo "equation_of", .glo "shares_when", .glo "short_parties", .glo "collapse", .glo "clear", .glo "_law_cell", .glo "_law_draws"]
def faB : List He.Fa := [.glo "_law_take", .glo "_law_wide", .glo "_law_coins", .glo "_law_base", .glo "_law_parties", .glo "_law_debts", .glo "_law_purses", .glo "_law_is_integer", .glo "_law_owes", .glo "_law_lowest", .glo "_law_parts_fit", .glo "_law_has", .glo "_law_pays_all", .glo "_law_clears", .glo "_law_greatest", .glo "_law_waves_fit", .glo "_law_cleared", .glo "_law_change", .glo "law"]
def faC : List He.Fa := [.free "len", .free "list", .free "sorted", .free "any", .free "sum", .free "abs", .free "int", .free "range", .free "zip", .free "enumerate", .free "tuple", .free "dict", .free "isinstance", .free "str", .free "bool", .str "PARTIES" "abcdef"]
def fa : List He.Fa := faA ++ (faB ++ faC)
end K72
end
section
set_option Elab.async false
set_option linter.all false
set_option maxRecDepth 100000
set_option maxHeartbeats 0
namespace K72
open PySem PySem.Spec PyProof.Rows L2
abbrev Rr : PySem.W.OpenRow := PySem.W.OpenLaw.row PySem.Challenge.rw_signedpacts_k72_whole_clear_greatest
abbrev hk : PySem.W.Hook := He.hookD 4 fa fn
def ob (s : PySem.W.SharedT) : He.AlD := He.obsDG 4 fa fn (HandSHeadRun.getT s)
theorem ob_eq (s : PySem.W.SharedT) : ob s = hk.obs s.abs := He.obsDG_eq (HandSHeadRun.getT_eq s)
def looseA : List Str := ["HouseError", "BadAmount", "BadPair", "BadParty", "NoPurse", "PARTIES", "is_party", "is_pair", "check_party", "check_purses", "check_debts", "tidy", "common_divisor", "lowest_terms", "without_unknown", "solve", "debt_of", "checked", "received", "equation_of", "shares_when", "short_parties", "collapse", "clear"]
def looseB : List Str := ["_law_cell", "_law_draws", "_law_take", "_law_wide", "_law_coins", "_law_base", "_law_parties", "_law_debts", "_law_purses", "_law_is_integer", "_law_owes", "_law_lowest", "_law_parts_fit", "_law_has", "_law_pays_all", "_law_clears", "_law_greatest", "_law_waves_fit", "_law_cleared", "_law_change"]
def loose : List Str := looseA ++ looseB
theorem run (w : World) : HandSHeadRun.RunEq Rr (PySem.W.view Rr.prog [51]) hk ob 20000 loose w := by
  intro os
  kernel_rfl
end K72
end
section
set_option Elab.async false
set_option linter.all false
/-! Exterior algebra on texts of truth values; determinants; Cramer; the Bareiss step. Plain Lean. -/
namespace K72M
abbrev Vec := Nat → Int
abbrev Ext := List Bool → Int
/-- v wedge w, the first place being k -/
def wg : Nat → Vec → Ext → Ext
  | _, _, _, [] => 0
  | k, v, w, false :: s => wg (k + 1) v (fun t => w (false :: t)) s
  | k, v, w, true :: s => v k * w (false :: s) - wg (k + 1) v (fun t => w (true :: t)) s
theorem wg_lin (v : Vec) (a b : Int) : ∀ (s : List Bool) (k : Nat) (x y : Ext), wg k v (fun t => a * x t + b * y t) s = a * wg k v x s + b * wg k v y s
  | [], _, _, _ => by simp [wg]
  | false :: s, k, x, y => wg_lin v a b s (k + 1) (fun t => x (false :: t)) (fun t => y (false :: t))
  | true :: s, k, x, y => by
    have h := wg_lin v a b s (k + 1) (fun t => x (true :: t)) (fun t => y (true :: t))
    show v k * (a * x (false :: s) + b * y (false :: s)) - wg (k + 1) v (fun t => a * x (true :: t) + b * y (true :: t)) s = a * (v k * x (false :: s) - wg (k + 1) v (fun t => x (true :: t)) s) + b * (v k * y (false :: s) - wg (k + 1) v (fun t => y (true :: t)) s)
    rw [h]
    grind
theorem wg_linv (u v : Vec) (a b : Int) : ∀ (s : List Bool) (k : Nat) (x : Ext), wg k (fun t => a * u t + b * v t) x s = a * wg k u x s + b * wg k v x s
  | [], _, _ => by simp [wg]
  | false :: s, k, x => wg_linv u v a b s (k + 1) (fun t => x (false :: t))
  | true :: s, k, x => by
    have h := wg_linv u v a b s (k + 1) (fun t => x (true :: t))
    show (a * u k + b * v k) * x (false :: s) - wg (k + 1) (fun t => a * u t + b * v t) (fun t => x (true :: t)) s = a * (u k * x (false :: s) - wg (k + 1) u (fun t => x (true :: t)) s) + b * (v k * x (false :: s) - wg (k + 1) v (fun t => x (true :: t)) s)
    rw [h]
    grind
theorem wg_zero (v : Vec) (s : List Bool) (k : Nat) : wg k v (fun _ => 0) s = 0 := by
  have h := wg_lin v 0 0 s k (fun _ => 0) (fun _ => 0)
  simpa using h
theorem wg_anti (u v : Vec) : ∀ (s : List Bool) (k : Nat) (x : Ext), wg k u (wg k v x) s = - wg k v (wg k u x) s
  | [], _, _ => rfl
  | false :: s, k, x => wg_anti u v s (k + 1) (fun t => x (false :: t))
  | true :: s, k, x => by
    have ih := wg_anti u v s (k + 1) (fun t => x (true :: t))
    have h : ∀ (p q : Vec), wg k p (wg k q x) (true :: s) = p k * wg (k + 1) q (fun t => x (false :: t)) s - (q k * wg (k + 1) p (fun t => x (false :: t)) s - wg (k + 1) p (wg (k + 1) q (fun t => x (true :: t))) s) := by
      intro p q
      have e := wg_lin p (q k) (-1) s (k + 1) (fun t => x (false :: t)) (wg (k + 1) q (fun t => x (true :: t)))
      have e2 : (fun t => q k * x (false :: t) + (-1) * wg (k + 1) q (fun t => x (true :: t)) t) = fun t => wg k q x (true :: t) := by
        funext t
        show _ = q k * x (false :: t) - wg (k + 1) q (fun t => x (true :: t)) t
        grind
      rw [e2] at e
      show p k * wg (k + 1) q (fun t => x (false :: t)) s - wg (k + 1) p (fun t => wg k q x (true :: t)) s = _
      rw [e]
      grind
    rw [h u v, h v u, ih]
    grind
theorem wg_self (v : Vec) (s : List Bool) (k : Nat) (x : Ext) : wg k v (wg k v x) s = 0 := by
  have h := wg_anti v v s k x
  omega
theorem wg_van {v : Vec} : ∀ (s : List Bool) (k : Nat) (x : Ext), (∀ t, k ≤ t → v t = 0) → wg k v x s = 0
  | [], _, _, _ => rfl
  | false :: s, k, x, h => wg_van s (k + 1) _ fun t ht => h t (by omega)
  | true :: s, k, x, h => by
    show v k * x (false :: s) - wg (k + 1) v (fun t => x (true :: t)) s = 0
    rw [h k (Nat.le_refl k), wg_van s (k + 1) _ fun t ht => h t (by omega)]
    omega
/-- the wedge of a list -/
def one : Ext := fun s => if s.any id then 0 else 1
def wl (k : Nat) : List Vec → Ext
  | [] => one
  | v :: l => wg k v (wl k l)
theorem wl_mem {x : Vec} {k : Nat} : ∀ {l : List Vec}, x ∈ l → ∀ s, wg k x (wl k l) s = 0
  | v :: l, h, s => by
    rcases List.mem_cons.mp h with e | h
    · rw [e]
      exact wg_self v s k (wl k l)
    · show wg k x (wg k v (wl k l)) s = 0
      have z : wg k x (wl k l) = fun _ => 0 := funext fun t => wl_mem h t
      rw [wg_anti, z, wg_zero]
      rfl
theorem wl_dup {x : Vec} {k : Nat} : ∀ {l : List Vec} {i j : Nat}, i < j → l[i]? = some x → l[j]? = some x → ∀ s, wl k l s = 0
  | [], _, _, _, h, _, _ => by simp at h
  | v :: l, 0, j + 1, _, h, h', s => by
    have e : v = x := by simpa using h
    have m : x ∈ l := List.mem_of_getElem? (i := j) (by simpa using h')
    show wg k v (wl k l) s = 0
    rw [e]
    exact wl_mem m s
  | v :: l, i + 1, j + 1, hl, h, h', s => by
    have z : wl k l = fun _ => 0 := funext fun t => wl_dup (i := i) (j := j) (by omega) (by simpa using h) (by simpa using h') t
    show wg k v (wl k l) s = 0
    rw [z, wg_zero]
theorem wl_lin {k : Nat} (a b : Int) (u v : Vec) : ∀ (l : List Vec) (i : Nat), i < l.length → ∀ s, wl k (l.set i (fun t => a * u t + b * v t)) s = a * wl k (l.set i u) s + b * wl k (l.set i v) s
  | [], _, h, _ => by simp at h
  | x :: l, 0, _, s => by
    show wg k (fun t => a * u t + b * v t) (wl k l) s = _
    exact wg_linv u v a b s k (wl k l)
  | x :: l, i + 1, h, s => by
    have z : (wl k (l.set i fun t => a * u t + b * v t)) = fun t => a * wl k (l.set i u) t + b * wl k (l.set i v) t := funext fun t => wl_lin a b u v l i (by simpa using h) t
    show wg k x (wl k (l.set i fun t => a * u t + b * v t)) s = a * wg k x (wl k (l.set i u)) s + b * wg k x (wl k (l.set i v)) s
    rw [← wg_lin, z]
theorem wl_false {k : Nat} : ∀ (l : List Vec) (s : List Bool), wl k l (false :: s) = wl (k + 1) l s
  | [], s => rfl
  | v :: l, s => by
    have z : (fun t => wl k l (false :: t)) = wl (k + 1) l := funext fun t => wl_false l t
    show wg (k + 1) v (fun t => wl k l (false :: t)) s = wg (k + 1) v (wl (k + 1) l) s
    rw [z]
/-- the determinant -/
def det (l : List Vec) : Int := wl 0 l (List.replicate l.length true)
theorem det_dup {x : Vec} {l : List Vec} {i j : Nat} (hi : i ≠ j) (h : l[i]? = some x) (h' : l[j]? = some x) : det l = 0 := by
  rcases Nat.lt_or_gt_of_ne hi with e | e
  · exact wl_dup e h h' _
  · exact wl_dup e h' h _
theorem det_lin (a b : Int) (u v : Vec) (l : List Vec) (i : Nat) (h : i < l.length) : det (l.set i (fun t => a * u t + b * v t)) = a * det (l.set i u) + b * det (l.set i v) := by
  have e := wl_lin (k := 0) a b u v l i h (List.replicate l.length true)
  simpa [det] using e
/-- sums below n -/
def sm : Nat → (Nat → Int) → Int
  | 0, _ => 0
  | n + 1, f => sm n f + f n
theorem sm_congr : ∀ (n : Nat) {f g : Nat → Int}, (∀ m, m < n → f m = g m) → sm n f = sm n g
  | 0, _, _, _ => rfl
  | n + 1, f, g, h => by
    show sm n f + f n = sm n g + g n
    rw [sm_congr n fun m hm => h m (by omega), h n (by omega)]
theorem sm_zero (n : Nat) : sm n (fun _ => 0) = 0 := by
  induction n with
  | zero => rfl
  | succ n ih =>
    show sm n (fun _ => 0) + 0 = 0
    omega
theorem sm_one {n i : Nat} {f : Nat → Int} (hi : i < n) (h : ∀ m, m < n → m ≠ i → f m = 0) : sm n f = f i := by
  induction n with
  | zero => omega
  | succ n ih =>
    show sm n f + f n = f i
    by_cases e : i = n
    · have z : sm n f = 0 := by
        rw [sm_congr n (g := fun _ => 0) fun m hm => h m (by omega) (by omega), sm_zero]
      rw [z, e]
      omega
    · rw [ih (by omega) fun m hm hn => h m (by omega) hn, h n (by omega) (fun z => e z.symm)]
      omega
theorem sm_two {n i k : Nat} {f : Nat → Int} (hi : i < n) (hk : k < n) (hik : i ≠ k) (h : ∀ m, m < n → m ≠ i → m ≠ k → f m = 0) : sm n f = f i + f k := by
  induction n with
  | zero => omega
  | succ n ih =>
    show sm n f + f n = f i + f k
    by_cases e : i = n
    · rw [sm_one (n := n) (i := k) (by omega) fun m hm hn => h m (by omega) (by omega) hn, e]
      omega
    · by_cases e2 : k = n
      · rw [sm_one (n := n) (i := i) (by omega) fun m hm hn => h m (by omega) hn (by omega), e2]
      · rw [ih (by omega) (by omega) fun m hm h1 h2 => h m (by omega) h1 h2, h n (by omega) (fun z => e z.symm) (fun z => e2 z.symm)]
        omega
theorem sm_mul (n : Nat) (a : Int) (f : Nat → Int) : sm n (fun m => a * f m) = a * sm n f := by
  induction n with
  | zero => simp [sm]
  | succ n ih =>
    show sm n (fun m => a * f m) + a * f n = a * (sm n f + f n)
    rw [ih, Int.mul_add]
theorem sm_add (n : Nat) (f g : Nat → Int) : sm n (fun m => f m + g m) = sm n f + sm n g := by
  induction n with
  | zero => rfl
  | succ n ih =>
    show sm n (fun m => f m + g m) + (f n + g n) = (sm n f + f n) + (sm n g + g n)
    rw [ih]
    omega
theorem det_zero (l : List Vec) (i : Nat) (h : i < l.length) : det (l.set i fun _ => 0) = 0 := by
  have e := det_lin 0 0 (fun _ => 0) (fun _ => 0) l i h
  simpa using e
theorem det_sum (l : List Vec) (i : Nat) (h : i < l.length) (f : Nat → Int) (v : Nat → Vec) : ∀ n, det (l.set i fun t => sm n fun m => f m * v m t) = sm n fun m => f m * det (l.set i (v m))
  | 0 => det_zero l i h
  | n + 1 => by
    have e := det_lin 1 (f n) (fun t => sm n fun m => f m * v m t) (v n) l i h
    rw [det_sum l i h f v n] at e
    show det (l.set i fun t => (sm n fun m => f m * v m t) + f n * v n t) = (sm n fun m => f m * det (l.set i (v m))) + f n * det (l.set i (v n))
    have e2 : (fun t => (sm n fun m => f m * v m t) + f n * v n t) = fun t => 1 * (sm n fun m => f m * v m t) + f n * v n t := by
      funext t
      omega
    rw [e2, e]
    omega
/-- unit vectors -/
def un (m : Nat) : Vec := fun t => if t = m then 1 else 0
def uns (k : Nat) : Nat → List Vec
  | 0 => []
  | r + 1 => un k :: uns (k + 1) r
theorem uns_len : ∀ (r k : Nat), (uns k r).length = r
  | 0, _ => rfl
  | r + 1, k => by
    show (uns (k + 1) r).length + 1 = r + 1
    rw [uns_len r]
theorem uns_get : ∀ (r k m : Nat), m < r → (uns k r)[m]? = some (un (k + m))
  | r + 1, k, 0, _ => rfl
  | r + 1, k, m + 1, h => by
    show (uns (k + 1) r)[m]? = _
    rw [uns_get r (k + 1) m (by omega), Nat.add_assoc, Nat.add_comm 1 m]
theorem uns_wl : ∀ (r k : Nat), wl k (uns k r) (List.replicate r true) = 1
  | 0, _ => rfl
  | r + 1, k => by
    show un k k * wl k (uns (k + 1) r) (false :: List.replicate r true) - wg (k + 1) (un k) (fun t => wl k (uns (k + 1) r) (true :: t)) (List.replicate r true) = 1
    rw [wl_false, uns_wl r (k + 1), wg_van _ _ _ fun t ht => by
      show (if t = k then (1 : Int) else 0) = 0
      rw [if_neg (by omega)]]
    show (if k = k then (1 : Int) else 0) * 1 - 0 = 1
    rw [if_pos rfl]
    rfl
theorem det_uns (n : Nat) : det (uns 0 n) = 1 := by
  unfold det
  rw [uns_len]
  exact uns_wl n 0
end K72M
end
section
set_option Elab.async false
set_option linter.all false
/-! Cramer along the steps; the Bareiss step; positive heads. -/
namespace K72M
section
variable (n : Nat) (c : Nat → Vec)
/-- the columns in work: c 0 .. c (k-1), then the unit vectors -/
def vs (k : Nat) : List Vec := (List.range n).map fun m => if m < k then c m else un m
theorem vs_len (k : Nat) : (vs n c k).length = n := by simp [vs]
theorem vs_get {k m : Nat} (h : m < n) : (vs n c k)[m]? = some (if m < k then c m else un m) := by
  simp [vs, h]
def va (k m : Nat) : Vec := if m < k then c m else un m
theorem vs_at {k m : Nat} (h : m < n) : (vs n c k)[m]? = some (va c k m) := vs_get n c h
theorem vs_zero : vs n c 0 = uns 0 n := by
  apply List.ext_getElem?
  intro i
  by_cases h : i < n
  · rw [vs_get n c h, uns_get n 0 i h]
    simp
  · rw [List.getElem?_eq_none (by rw [vs_len]; omega), List.getElem?_eq_none (by rw [uns_len]; omega)]
theorem vs_succ {k : Nat} (h : k < n) : vs n c (k + 1) = (vs n c k).set k (c k) := by
  apply List.ext_getElem?
  intro i
  by_cases hi : i < n
  · rw [vs_get n c hi]
    by_cases e : i = k
    · subst e
      rw [List.getElem?_set_self (by rw [vs_len]; exact hi), if_pos (by omega)]
    · rw [List.getElem?_set_ne (Ne.symm e), vs_get n c hi]
      by_cases q : i < k
      · rw [if_pos q, if_pos (by omega)]
      · rw [if_neg q, if_neg (by omega)]
  · rw [List.getElem?_eq_none (by rw [vs_len]; omega), List.getElem?_eq_none (by rw [List.length_set, vs_len]; omega)]
/-- the k-th head -/
def hd (k : Nat) : Int := det (vs n c k)
/-- the numbers in work -/
def ph (k i : Nat) (w : Vec) : Int := det ((vs n c k).set i w)
theorem hd_zero : hd n c 0 = 1 := by
  unfold hd
  rw [vs_zero, det_uns]
theorem hd_succ {k : Nat} (h : k < n) : hd n c (k + 1) = ph n c k k (c k) := by
  unfold hd ph
  rw [vs_succ n c h]
theorem ph_same {k i : Nat} (h : i < n) : ph n c k i (va c k i) = hd n c k := by
  unfold ph hd
  congr 1
  apply List.ext_getElem?
  intro j
  by_cases e : j = i
  · subst e
    rw [List.getElem?_set_self (by rw [vs_len]; exact h), vs_at n c h]
  · rw [List.getElem?_set_ne (Ne.symm e)]
theorem ph_other {k i m : Nat} (hi : i < n) (hm : m < n) (h : m ≠ i) : ph n c k i (va c k m) = 0 := by
  unfold ph
  refine det_dup (x := va c k m) (i := m) (j := i) h ?_ ?_
  · rw [List.getElem?_set_ne (Ne.symm h), vs_at n c hm]
  · rw [List.getElem?_set_self (by rw [vs_len]; exact hi)]
theorem ph_head {k : Nat} (h : k < n) (w : Vec) : ph n c (k + 1) k w = ph n c k k w := by
  unfold ph
  rw [vs_succ n c h, List.set_set]
theorem ph_lin (a b : Int) (u v : Vec) {k i : Nat} (h : i < n) : ph n c k i (fun t => a * u t + b * v t) = a * ph n c k i u + b * ph n c k i v :=
  det_lin a b u v _ i (by rw [vs_len]; exact h)
/-- w has no places from n on -/
def Sup (w : Vec) : Prop := ∀ t, n ≤ t → w t = 0
def Cramer (k : Nat) : Prop := ∀ w, Sup n w → ∀ t, hd n c k * w t = sm n fun m => ph n c k m w * va c k m t
theorem sup_sum {w : Vec} (h : Sup n w) : w = fun t => sm n fun m => w m * un m t := by
  funext t
  by_cases e : t < n
  · rw [sm_one (i := t) e fun m _ hm => by simp [un, Ne.symm hm]]
    simp [un]
  · rw [h t (by omega), sm_congr n (g := fun _ => 0) fun m hm => by
      have : t ≠ m := by omega
      simp [un, this], sm_zero]
theorem ph_zero {w : Vec} (h : Sup n w) {i : Nat} (hi : i < n) : ph n c 0 i w = w i := by
  have e : ph n c 0 i w = sm n fun m => w m * ph n c 0 i (un m) := by
    have q := det_sum (vs n c 0) i (by rw [vs_len]; exact hi) w un n
    rw [← sup_sum n h] at q
    exact q
  rw [e, sm_one (i := i) hi fun m hm hne => by
    have z := ph_other n c (k := 0) hi hm hne
    have y : va c 0 m = un m := by simp [va]
    rw [y] at z
    rw [z]
    omega]
  have z := ph_same n c (k := 0) hi
  have y : va c 0 i = un i := by simp [va]
  rw [y, hd_zero] at z
  rw [z]
  omega
theorem cramer_zero : Cramer n c 0 := by
  intro w h t
  rw [hd_zero]
  have e := congrFun (sup_sum n h) t
  rw [sm_congr n (g := fun m => w m * un m t) fun m hm => by
    rw [ph_zero n c h hm]
    simp [va]]
  omega
/-- the step: the products' difference over the last head -/
theorem step {k i : Nat} (C : Cramer n c k) (hk : k < n) (hi : i < n) (hik : i ≠ k) {w : Vec} (hw : Sup n w) :
    hd n c k * ph n c (k + 1) i w = hd n c (k + 1) * ph n c k i w - ph n c k i (c k) * ph n c k k w := by
  -- the form in which w is put at i, c k at k
  have L : ∀ u : Vec, ph n c (k + 1) i u = det (((vs n c k).set k (c k)).set i u) := fun u => by
    unfold ph
    rw [vs_succ n c hk]
  have len : i < ((vs n c k).set k (c k)).length := by
    rw [List.length_set, vs_len]
    exact hi
  have e1 : hd n c k * ph n c (k + 1) i w = ph n c (k + 1) i (fun t => hd n c k * w t) := by
    rw [L, L]
    have q := det_lin (hd n c k) 0 w w _ i len
    have z : (fun t => hd n c k * w t + 0 * w t) = fun t => hd n c k * w t := by
      funext t
      omega
    rw [z] at q
    rw [q]
    omega
  have e2 : (fun t => hd n c k * w t) = fun t => sm n fun m => ph n c k m w * va c k m t := funext fun t => C w hw t
  rw [e1, e2, L, det_sum _ i len (fun m => ph n c k m w) (va c k) n]
  have z : ∀ m, m < n → m ≠ i → m ≠ k → ph n c k m w * det (((vs n c k).set k (c k)).set i (va c k m)) = 0 := fun m hm h1 h2 => by
    have d : det (((vs n c k).set k (c k)).set i (va c k m)) = 0 := by
      refine det_dup (x := va c k m) (i := m) (j := i) h1 ?_ ?_
      · rw [List.getElem?_set_ne (Ne.symm h1), List.getElem?_set_ne (Ne.symm h2), vs_at n c hm]
      · rw [List.getElem?_set_self len]
    rw [d]
    omega
  rw [sm_two hi hk hik z]
  -- at i: the head itself
  have a1 : det (((vs n c k).set k (c k)).set i (va c k i)) = hd n c (k + 1) := by
    have q := ph_same n c (k := k + 1) hi
    rw [← L]
    have e : va c (k + 1) i = va c k i := by
      unfold va
      by_cases q : i < k
      · rw [if_pos q, if_pos (by omega)]
      · rw [if_neg q, if_neg (by omega)]
    rw [← e]
    exact q
  -- at k: two columns changed
  have a2 : det (((vs n c k).set k (c k)).set i (va c k k)) = - ph n c k i (c k) := by
    -- polarization
    have len2 : k < ((vs n c k).set i (c k)).length := by
      rw [List.length_set, vs_len]
      exact hk
    let x := va c k k
    let y := c k
    have base : ∀ p q : Vec, det (((vs n c k).set k p).set i q) = det (((vs n c k).set i q).set k p) := fun p q => by
      rw [List.set_comm _ _ (Ne.symm hik)]
    have dup : ∀ p : Vec, det (((vs n c k).set k p).set i p) = 0 := fun p => by
      refine det_dup (x := p) (i := k) (j := i) (Ne.symm hik) ?_ ?_
      · rw [List.getElem?_set_ne hik, List.getElem?_set_self (by rw [vs_len]; exact hk)]
      · rw [List.getElem?_set_self (by rw [List.length_set, vs_len]; exact hi)]
    have l1 : ∀ p u v : Vec, det (((vs n c k).set k p).set i fun t => 1 * u t + 1 * v t) = 1 * det (((vs n c k).set k p).set i u) + 1 * det (((vs n c k).set k p).set i v) := fun p u v =>
      det_lin 1 1 u v _ i (by rw [List.length_set, vs_len]; exact hi)
    have l2 : ∀ p u v : Vec, det (((vs n c k).set k fun t => 1 * u t + 1 * v t).set i p) = 1 * det (((vs n c k).set k u).set i p) + 1 * det (((vs n c k).set k v).set i p) := fun p u v => by
      rw [base, base, base]
      exact det_lin 1 1 u v _ k (by rw [List.length_set, vs_len]; exact hk)
    have s := dup (fun t => 1 * x t + 1 * y t)
    rw [l1, l2, l2, dup x, dup y] at s
    have q : det (((vs n c k).set k x).set i y) = ph n c k i (c k) := by
      show det (((vs n c k).set k (va c k k)).set i (c k)) = det ((vs n c k).set i (c k))
      congr 2
      apply List.ext_getElem?
      intro j
      by_cases e : j = k
      · subst e
        rw [List.getElem?_set_self (by rw [vs_len]; exact hk), vs_at n c hk]
      · rw [List.getElem?_set_ne (Ne.symm e)]
    rw [q] at s
    show det (((vs n c k).set k y).set i x) = - ph n c k i (c k)
    omega
  rw [a1, a2]
  grind
theorem cramer_succ {k : Nat} (C : Cramer n c k) (hk : k < n) (sc : Sup n (c k)) (h0 : hd n c k ≠ 0) : Cramer n c (k + 1) := by
  intro w hw t
  have A := C w hw t
  have B := C (c k) sc t
  -- split the sums at k
  have spl : ∀ f : Nat → Int, sm n f = sm n (fun m => if m = k then 0 else f m) + f k := fun f => by
    have e : sm n f = sm n (fun m => (if m = k then 0 else f m) + (if m = k then f m else 0)) := sm_congr n fun m _ => by
      by_cases e : m = k <;> simp [e]
    rw [e, sm_add]
    rw [sm_one (n := n) (i := k) (f := fun m => if m = k then f m else 0) hk fun m _ hm => by simp [hm]]
    simp
  rw [spl] at A B
  rw [spl]
  have hkk : ph n c (k + 1) k w * va c (k + 1) k t = ph n c k k w * c k t := by
    rw [ph_head n c hk]
    simp [va]
  -- the rest, by the step
  have R : hd n c k * sm n (fun m => if m = k then 0 else ph n c (k + 1) m w * va c (k + 1) m t) =
      hd n c (k + 1) * sm n (fun m => if m = k then 0 else ph n c k m w * va c k m t) - ph n c k k w * sm n (fun m => if m = k then 0 else ph n c k m (c k) * va c k m t) := by
    have e1 := sm_mul n (hd n c k) (fun m => if m = k then 0 else ph n c (k + 1) m w * va c (k + 1) m t)
    have e2 := sm_mul n (hd n c (k + 1)) (fun m => if m = k then 0 else ph n c k m w * va c k m t)
    have e3 := sm_mul n (- ph n c k k w) (fun m => if m = k then 0 else ph n c k m (c k) * va c k m t)
    have e4 : sm n (fun m => hd n c k * (if m = k then 0 else ph n c (k + 1) m w * va c (k + 1) m t)) =
        sm n (fun m => hd n c (k + 1) * (if m = k then 0 else ph n c k m w * va c k m t) + - ph n c k k w * (if m = k then 0 else ph n c k m (c k) * va c k m t)) := sm_congr n fun m hm => by
      by_cases e : m = k
      · simp [e]
      · have ev : va c (k + 1) m = va c k m := by
          unfold va
          by_cases q : m < k
          · rw [if_pos q, if_pos (by omega)]
          · rw [if_neg q, if_neg (by omega)]
        have st := step n c C hk hm e hw
        simp only [e, if_false, ev]
        generalize va c k m t = z at *
        generalize ph n c (k + 1) m w = p1 at *
        generalize ph n c k m w = p2 at *
        generalize ph n c k m (c k) = p3 at *
        generalize ph n c k k w = p4 at *
        generalize hd n c k = h1 at *
        generalize hd n c (k + 1) = h2 at *
        grind
    rw [sm_add, e1, e2, e3] at e4
    rw [e4]
    grind
  rw [hkk]
  have hs := hd_succ n c hk
  generalize sm n (fun m => if m = k then 0 else ph n c (k + 1) m w * va c (k + 1) m t) = S1 at *
  generalize sm n (fun m => if m = k then 0 else ph n c k m w * va c k m t) = S2 at *
  generalize sm n (fun m => if m = k then 0 else ph n c k m (c k) * va c k m t) = S3 at *
  rw [← hs] at B
  generalize va c k k t = z at *
  generalize ph n c k k w = p4 at *
  generalize hd n c k = h1 at *
  generalize hd n c (k + 1) = h2 at *
  generalize w t = wt at *
  generalize c k t = ct at *
  -- h1 (h2 wt) = h1 (S1 + p4 ct)
  apply Int.eq_of_mul_eq_mul_left h0
  grind
end
end K72M
end
section
set_option Elab.async false
set_option linter.all false
/-! Matrices without a closed part: the least-sign rule, positive heads, bounds. -/
namespace K72M
theorem sm_nonneg : ∀ (n : Nat) {f : Nat → Int}, (∀ m, m < n → 0 ≤ f m) → 0 ≤ sm n f
  | 0, _, _ => Int.le_refl 0
  | n + 1, f, h => by
    show 0 ≤ sm n f + f n
    have a := sm_nonneg n fun m hm => h m (by omega)
    have b := h n (by omega)
    omega
theorem sm_neg (n : Nat) (f : Nat → Int) : sm n (fun m => - f m) = - sm n f := by
  have h := sm_mul n (-1) f
  rw [sm_congr n (g := fun m => - f m) fun m _ => by omega] at h
  omega
theorem sm_le : ∀ (n : Nat) {f g : Nat → Int}, (∀ m, m < n → f m ≤ g m) → sm n f ≤ sm n g
  | 0, _, _, _ => Int.le_refl 0
  | n + 1, f, g, h => by
    show sm n f + f n ≤ sm n g + g n
    have a := sm_le n fun m hm => h m (by omega)
    have b := h n (by omega)
    omega
/-- no item above 0, one below -/
theorem sm_below : ∀ (n : Nat) {f : Nat → Int}, (∀ m, m < n → f m ≤ 0) → (∃ m, m < n ∧ f m < 0) → sm n f < 0
  | 0, _, _, h => by
    obtain ⟨m, hm, _⟩ := h
    omega
  | n + 1, f, h, h2 => by
    show sm n f + f n < 0
    obtain ⟨m, hm, hf⟩ := h2
    have z : sm n f ≤ 0 := by
      have a := sm_nonneg n (f := fun m => - f m) fun m hm => by
        have := h m (by omega)
        omega
      rw [sm_neg] at a
      omega
    by_cases e : m = n
    · rw [e] at hf
      omega
    · have a := sm_below n (fun m hm => h m (by omega)) ⟨m, by omega, hf⟩
      have b := h n (by omega)
      omega
theorem sm_swap (n : Nat) (f : Nat → Nat → Int) : ∀ k, sm n (fun t => sm k fun m => f t m) = sm k fun m => sm n fun t => f t m
  | 0 => sm_zero n
  | k + 1 => by
    show sm n (fun t => (sm k fun m => f t m) + f t k) = (sm k fun m => sm n fun t => f t m) + sm n fun t => f t k
    rw [sm_add, sm_swap n f k]
theorem sm_split {k : Nat} (a b : Nat → Int) : ∀ (n : Nat), k ≤ n → sm n (fun m => if m < k then a m else b m) = sm k a + sm n (fun m => if m < k then 0 else b m)
  | 0, h => by
    have e : k = 0 := by omega
    subst e
    rfl
  | n + 1, h => by
    by_cases e : k = n + 1
    · subst e
      rw [sm_congr (n + 1) (g := a) (fun m hm => by rw [if_pos hm]), sm_congr (n + 1) (f := fun m => if m < n + 1 then 0 else b m) (g := fun _ => 0) (fun m hm => by rw [if_pos hm]), sm_zero]
      omega
    · have ih := sm_split (k := k) a b n (by omega)
      show sm n (fun m => if m < k then a m else b m) + (if n < k then a n else b n) = sm k a + (sm n (fun m => if m < k then 0 else b m) + (if n < k then 0 else b n))
      rw [ih, if_neg (show ¬ n < k by omega), if_neg (show ¬ n < k by omega)]
      omega
structure Good (n : Nat) (c : Nat → Vec) : Prop where
  off : ∀ m t, m < n → t < n → m ≠ t → c m t ≤ 0
  sup : ∀ m, m ≤ n → Sup n (c m)
  part : ∀ (S : Nat → Bool) (m : Nat), m < n → S m = true → 0 ≤ sm n (fun t => if S t = true then c m t else 0)
  open_ : ∀ (S : Nat → Bool), (∃ m, m < n ∧ S m = true) → ∃ m, m < n ∧ S m = true ∧ 0 < sm n (fun t => if S t = true then c m t else 0)
section
variable {n : Nat} {c : Nat → Vec}
/-- the least-sign rule -/
theorem Good.least (G : Good n c) {k : Nat} (hk : k ≤ n) (y : Nat → Int) (h : ∀ t, t < k → 0 ≤ sm k fun m => y m * c m t) : ∀ m, m < k → 0 ≤ y m := by
  intro m0 hm0
  apply Decidable.byContradiction
  intro hneg
  let S : Nat → Bool := fun t => decide (t < k ∧ y t < 0)
  have hS : ∀ t, S t = true ↔ (t < k ∧ y t < 0) := fun t => by simp [S]
  -- the sum over S of what is not below 0
  have a : 0 ≤ sm n fun t => sm k fun m => if S t = true then y m * c m t else 0 := by
    refine sm_nonneg n fun t ht => ?_
    by_cases q : S t = true
    · simp only [q, if_true]
      exact h t ((hS t).mp q).1
    · have z : sm k (fun m => if S t = true then y m * c m t else 0) = 0 := by
        rw [sm_congr k (g := fun _ => 0) (fun m _ => if_neg q), sm_zero]
      rw [z]
      exact Int.le_refl 0
  rw [sm_swap] at a
  have e : ∀ m, (sm n fun t => if S t = true then y m * c m t else 0) = y m * sm n fun t => if S t = true then c m t else 0 := fun m => by
    rw [← sm_mul]
    refine sm_congr n fun t _ => ?_
    by_cases q : S t = true
    · simp [q]
    · simp [q]
  rw [sm_congr k fun m _ => e m] at a
  -- below 0
  have b : sm k (fun m => y m * sm n fun t => if S t = true then c m t else 0) < 0 := by
    refine sm_below k (fun m hm => ?_) ?_
    · by_cases q : S m = true
      · have p := G.part S m (by omega) q
        have r := ((hS m).mp q).2
        have := Int.mul_nonneg (show 0 ≤ - y m by omega) p
        grind
      · have r : 0 ≤ y m := by
          have z : ¬ (m < k ∧ y m < 0) := fun z => q ((hS m).mpr z)
          omega
        have p : sm n (fun t => if S t = true then c m t else 0) ≤ 0 := by
          have w := sm_nonneg n (f := fun t => - (if S t = true then c m t else 0)) fun t ht => by
            by_cases q2 : S t = true
            · have ne : m ≠ t := fun e => q (e ▸ q2)
              have := G.off m t (by omega) ht ne
              simp only [q2, if_true]
              omega
            · simp [q2]
          rw [sm_neg] at w
          omega
        have := Int.mul_nonneg r (show 0 ≤ - sm n (fun t => if S t = true then c m t else 0) by omega)
        grind
    · obtain ⟨m, hm, hs, hp⟩ := G.open_ S ⟨m0, by omega, (hS m0).mpr ⟨hm0, by omega⟩⟩
      obtain ⟨h1, h2⟩ := (hS m).mp hs
      refine ⟨m, h1, ?_⟩
      have := Int.mul_pos (show 0 < - y m by omega) hp
      grind
  omega
/-- what the steps keep -/
structure Head (n : Nat) (c : Nat → Vec) (k : Nat) : Prop where
  cr : Cramer n c k
  pos : 0 < hd n c k
theorem heads_next (G : Good n c) {k : Nat} (hk : k < n) (I : Head n c k) : Head n c (k + 1) ∧ hd n c (k + 1) ≤ hd n c k * c k k := by
  have sc := G.sup k (by omega)
  -- column k by the columns in work
  have eq : ∀ t, t ≤ k → hd n c k * c k t = sm k (fun m => ph n c k m (c k) * c m t) + (if t = k then hd n c (k + 1) else 0) := fun t ht => by
    have C := I.cr (c k) sc t
    have e : sm n (fun m => ph n c k m (c k) * va c k m t) = sm n (fun m => if m < k then ph n c k m (c k) * c m t else ph n c k m (c k) * un m t) := sm_congr n fun m _ => by
      unfold va
      by_cases q : m < k <;> simp [q]
    rw [e, sm_split _ _ n (by omega)] at C
    rw [C]
    congr 1
    rw [sm_one (i := k) hk fun m hm hne => by
      by_cases q : m < k
      · rw [if_pos q]
      · rw [if_neg q]
        have ne : ¬ t = m := by omega
        simp [un, ne]]
    rw [if_neg (by omega)]
    by_cases q : t = k
    · rw [if_pos q, q, hd_succ n c hk]
      simp [un]
    · rw [if_neg q]
      simp [un, q]
  -- the column's own work
  let y : Nat → Int := fun m => if m < k then - ph n c k m (c k) else hd n c k
  have sy : ∀ t, t ≤ k → sm (k + 1) (fun m => y m * c m t) = if t = k then hd n c (k + 1) else 0 := fun t ht => by
    show sm k (fun m => y m * c m t) + y k * c k t = _
    have yk : y k = hd n c k := if_neg (by omega)
    rw [yk, eq t ht, sm_congr k (g := fun m => - (ph n c k m (c k) * c m t)) fun m hm => by
      show (if m < k then - ph n c k m (c k) else hd n c k) * c m t = _
      rw [if_pos hm]
      grind, sm_neg]
    omega
  have pos : 0 < hd n c (k + 1) := by
    apply Decidable.byContradiction
    intro hneg
    have q := G.least (k := k + 1) (by omega) (fun m => - y m) (fun t ht => by
      have e := sy t (by omega)
      rw [sm_congr (k + 1) (g := fun m => - (y m * c m t)) fun m _ => by grind, sm_neg, e]
      by_cases z : t = k
      · rw [if_pos z]
        omega
      · rw [if_neg z]
        omega) k (by omega)
    have yk : y k = hd n c k := if_neg (by omega)
    rw [yk] at q
    have := I.pos
    omega
  have hy := G.least (k := k + 1) (by omega) y fun t ht => by
    rw [sy t (by omega)]
    by_cases z : t = k
    · rw [if_pos z]
      omega
    · rw [if_neg z]
      exact Int.le_refl 0
  refine ⟨⟨cramer_succ n c I.cr hk sc (by have := I.pos; omega), pos⟩, ?_⟩
  have e := eq k (Nat.le_refl k)
  rw [if_pos rfl] at e
  have z : 0 ≤ sm k (fun m => ph n c k m (c k) * c m k) := sm_nonneg k fun m hm => by
    have a := hy m (by omega)
    have ya : y m = - ph n c k m (c k) := if_pos hm
    rw [ya] at a
    have b := G.off m k (by omega) hk (by omega)
    have := Int.mul_nonneg a (show 0 ≤ - c m k by omega)
    grind
  omega
theorem heads (G : Good n c) : ∀ k, k ≤ n → Head n c k
  | 0, _ => ⟨cramer_zero n c, by rw [hd_zero]; decide⟩
  | k + 1, h => (heads_next G (by omega) (heads G k (by omega))).1
/-- a bound of the heads -/
theorem heads_le (G : Good n c) {B : Nat} (hB : ∀ m, m < n → c m m ≤ (2 : Int) ^ B) : ∀ k, k ≤ n → hd n c k ≤ (2 : Int) ^ (B * k)
  | 0, _ => by
    rw [hd_zero, Nat.mul_zero]
    decide
  | k + 1, h => by
    have a := (heads_next G (by omega) (heads G k (by omega))).2
    have p := (heads G k (by omega)).pos
    have ih := heads_le G hB k (by omega)
    have b := hB k (by omega)
    have s1 : hd n c k * c k k ≤ hd n c k * (2 : Int) ^ B := Int.mul_le_mul_of_nonneg_left b (by omega)
    have s2 : hd n c k * (2 : Int) ^ B ≤ (2 : Int) ^ (B * k) * (2 : Int) ^ B := Int.mul_le_mul_of_nonneg_right ih (Int.le_of_lt (Int.pow_pos (by decide)))
    rw [Nat.mul_succ, Int.pow_add]
    omega
/-- the step as the program does it -/
theorem step_div (G : Good n c) {k i j : Nat} (hk : k < n) (hi : i < n) (hik : i ≠ k) (hj : j ≤ n) :
    hd n c k * ph n c (k + 1) i (c j) = ph n c k k (c k) * ph n c k i (c j) - ph n c k i (c k) * ph n c k k (c j) := by
  rw [← hd_succ n c hk]
  exact step n c (heads G k (by omega)).cr hk hi hik (G.sup j hj)
/-- the numbers in work are not great -/
def bt (b : Nat) : Nat → Nat
  | 0 => b
  | k + 1 => 2 * bt b k + 1
theorem ph_bits (G : Good n c) {b : Nat} (hb : ∀ i j, i < n → j ≤ n → (c j i).natAbs < 2 ^ b) : ∀ k, k ≤ n → ∀ i j, i < n → j ≤ n → (ph n c k i (c j)).natAbs < 2 ^ bt b k
  | 0, _, i, j, hi, hj => by
    rw [ph_zero n c (G.sup j hj) hi]
    exact hb i j hi hj
  | k + 1, h, i, j, hi, hj => by
    have ih := ph_bits G hb k (by omega)
    have hk : k < n := by omega
    have mono : (2 : Nat) ^ bt b k ≤ 2 ^ bt b (k + 1) := Nat.pow_le_pow_right (by decide) (by show bt b k ≤ 2 * bt b k + 1; omega)
    by_cases e : i = k
    · subst e
      rw [ph_head n c hk]
      exact Nat.lt_of_lt_of_le (ih i j hi hj) mono
    · have s := step_div G hk hi e hj
      have p := (heads G k (by omega)).pos
      have n1 := ih k k hk (by omega)
      have n2 := ih i j hi hj
      have n3 := ih i k hi (by omega)
      have n4 := ih k j hk hj
      generalize ph n c (k + 1) i (c j) = x at *
      generalize ph n c k k (c k) = a1 at *
      generalize ph n c k i (c j) = a2 at *
      generalize ph n c k i (c k) = a3 at *
      generalize ph n c k k (c j) = a4 at *
      generalize hd n c k = q at *
      have s1 : (q * x).natAbs = q.natAbs * x.natAbs := Int.natAbs_mul q x
      have s2 : (a1 * a2).natAbs = a1.natAbs * a2.natAbs := Int.natAbs_mul a1 a2
      have s3 : (a3 * a4).natAbs = a3.natAbs * a4.natAbs := Int.natAbs_mul a3 a4
      have m1 : a1.natAbs * a2.natAbs < 2 ^ bt b k * 2 ^ bt b k := Nat.mul_lt_mul_of_lt_of_lt n1 n2
      have m2 : a3.natAbs * a4.natAbs < 2 ^ bt b k * 2 ^ bt b k := Nat.mul_lt_mul_of_lt_of_lt n3 n4
      have m3 : x.natAbs ≤ q.natAbs * x.natAbs := Nat.le_mul_of_pos_left _ (by omega)
      have m4 : (q * x).natAbs ≤ (a1 * a2).natAbs + (a3 * a4).natAbs := by
        rw [s]
        omega
      have e2 : (2 : Nat) ^ bt b (k + 1) = 2 ^ bt b k * 2 ^ bt b k * 2 := by
        show (2 : Nat) ^ (2 * bt b k + 1) = _
        rw [Nat.pow_succ, Nat.two_mul, Nat.pow_add]
      omega
/-- the solution -/
theorem solution (G : Good n c) (t : Nat) (ht : t < n) : hd n c n * c n t = sm n fun m => ph n c n m (c n) * c m t := by
  have h := (heads G n (Nat.le_refl n)).cr (c n) (G.sup n (Nat.le_refl n)) t
  rw [h]
  refine sm_congr n fun m hm => ?_
  unfold va
  rw [if_pos hm]
theorem sol_nonneg (G : Good n c) (h : ∀ t, t < n → 0 ≤ c n t) : ∀ m, m < n → 0 ≤ ph n c n m (c n) :=
  G.least (Nat.le_refl n) _ fun t ht => by
    rw [← solution G t ht]
    exact Int.mul_nonneg (Int.le_of_lt (heads G n (Nat.le_refl n)).pos) (h t ht)
end
end K72M
end
section
set_option Elab.async false
set_option linter.all false
/-! Debts, purses, shares: the least-sign rule by parties, falling shares. -/
namespace K72M
abbrev Debt := (Nat × Nat) × Int
def ls {α : Type} : List α → (α → Int) → Int
  | [], _ => 0
  | x :: l, f => f x + ls l f
section
variable {α : Type}
theorem ls_congr : ∀ (l : List α) {f g : α → Int}, (∀ x ∈ l, f x = g x) → ls l f = ls l g
  | [], _, _, _ => rfl
  | x :: l, f, g, h => by
    show f x + ls l f = g x + ls l g
    rw [h x List.mem_cons_self, ls_congr l fun y hy => h y (List.mem_cons_of_mem _ hy)]
theorem ls_zero (l : List α) : ls l (fun _ => 0) = 0 := by
  induction l with
  | nil => rfl
  | cons x l ih =>
    show 0 + ls l (fun _ => 0) = 0
    omega
theorem ls_add (l : List α) (f g : α → Int) : ls l (fun x => f x + g x) = ls l f + ls l g := by
  induction l with
  | nil => rfl
  | cons x l ih =>
    show (f x + g x) + ls l (fun x => f x + g x) = (f x + ls l f) + (g x + ls l g)
    rw [ih]
    omega
theorem ls_mul (l : List α) (a : Int) (f : α → Int) : ls l (fun x => a * f x) = a * ls l f := by
  induction l with
  | nil => exact (Int.mul_zero a).symm
  | cons x l ih =>
    show a * f x + ls l (fun x => a * f x) = a * (f x + ls l f)
    rw [ih, Int.mul_add]
theorem ls_sub (l : List α) (f g : α → Int) : ls l (fun x => f x - g x) = ls l f - ls l g := by
  have a := ls_add l f fun x => (-1) * g x
  rw [ls_mul, ls_congr l (g := fun x => f x - g x) (fun x _ => by omega)] at a
  omega
theorem ls_nonneg : ∀ (l : List α) {f : α → Int}, (∀ x ∈ l, 0 ≤ f x) → 0 ≤ ls l f
  | [], _, _ => Int.le_refl 0
  | x :: l, f, h => by
    show 0 ≤ f x + ls l f
    have a := h x List.mem_cons_self
    have b := ls_nonneg l fun y hy => h y (List.mem_cons_of_mem _ hy)
    omega
theorem ls_le (l : List α) {f g : α → Int} (h : ∀ x ∈ l, f x ≤ g x) : ls l f ≤ ls l g := by
  have a := ls_nonneg l (f := fun x => g x - f x) fun x hx => by
    have := h x hx
    omega
  rw [ls_sub] at a
  omega
theorem ls_pos : ∀ (l : List α) {f : α → Int}, (∀ x ∈ l, 0 ≤ f x) → (∃ x ∈ l, 0 < f x) → 0 < ls l f
  | [], _, _, h => by
    obtain ⟨x, hx, _⟩ := h
    cases hx
  | x :: l, f, h, h2 => by
    show 0 < f x + ls l f
    have a := h x List.mem_cons_self
    have b := ls_nonneg l fun y hy => h y (List.mem_cons_of_mem _ hy)
    obtain ⟨z, hz, hf⟩ := h2
    rcases List.mem_cons.mp hz with e | e
    · rw [e] at hf
      omega
    · have := ls_pos l (fun y hy => h y (List.mem_cons_of_mem _ hy)) ⟨z, e, hf⟩
      omega
theorem ls_swap (l : List α) (n : Nat) (f : Nat → α → Int) : sm n (fun t => ls l (f t)) = ls l fun x => sm n fun t => f t x := by
  induction l with
  | nil => exact sm_zero n
  | cons x l ih =>
    show sm n (fun t => f t x + ls l (f t)) = (sm n fun t => f t x) + ls l fun x => sm n fun t => f t x
    rw [sm_add, ih]
theorem ls_append (l r : List α) (f : α → Int) : ls (l ++ r) f = ls l f + ls r f := by
  induction l with
  | nil => exact (Int.zero_add _).symm
  | cons x l ih =>
    show f x + ls (l ++ r) f = f x + ls l f + ls r f
    rw [ih]
    omega
theorem ls_perm {l r : List α} (h : l.Perm r) (f : α → Int) : ls l f = ls r f := by
  induction h with
  | nil => rfl
  | cons x _ ih =>
    show f x + ls _ f = f x + ls _ f
    rw [ih]
  | swap x y l =>
    show f y + (f x + ls l f) = f x + (f y + ls l f)
    omega
  | trans _ _ a b => exact a.trans b
theorem ls_filter (l : List α) (p : α → Bool) (f : α → Int) : ls (l.filter p) f = ls l fun x => if p x = true then f x else 0 := by
  induction l with
  | nil => rfl
  | cons x l ih =>
    show _ = (if p x = true then f x else 0) + ls l fun x => if p x = true then f x else 0
    rw [List.filter_cons]
    by_cases h : p x = true
    · rw [if_pos h, if_pos h]
      show f x + ls (l.filter p) f = _
      rw [ih]
    · rw [if_neg h, if_neg h, ih]
      omega
theorem ls_sum (l : List α) (f : α → Int) : (l.map f).sum = ls l f := by
  induction l with
  | nil => rfl
  | cons x l ih =>
    rw [List.map_cons, List.sum_cons, ih]
    rfl
end
/-! ### the debts -/
def owe (D : List Debt) (p : Nat) : Int := ls D fun x => if x.1.1 = p then x.2 else 0
def recv (D : List Debt) (s : Nat → Int) (p : Nat) : Int := ls D fun x => if x.1.2 = p then x.2 * s x.1.1 else 0
def full (D : List Debt) (F : List Nat) (p : Nat) : Int := ls D fun x => if x.1.2 = p ∧ x.1.1 ∉ F then x.2 else 0
def val (D : List Debt) (o p : Nat) : Int := ls D fun x => if x.1 = (o, p) then x.2 else 0
structure DOk (D : List Debt) : Prop where
  nd : (D.map (·.1)).Nodup
  pos : ∀ x ∈ D, 0 < x.2
  ne : ∀ x ∈ D, x.1.1 ≠ x.1.2
/-- no part of the failing ones is closed -/
def NC (D : List Debt) (F : List Nat) : Prop := ∀ S : Nat → Bool, (∃ p ∈ F, S p = true) → (∀ p, S p = true → p ∈ F) → ∃ x ∈ D, S x.1.1 = true ∧ S x.1.2 = false
section
variable {D : List Debt} {F : List Nat}
theorem val_nonneg (ok : DOk D) (o p : Nat) : 0 ≤ val D o p := ls_nonneg D fun x hx => by
  have := ok.pos x hx
  by_cases e : x.1 = (o, p) <;> simp [e] <;> omega
def fa (F : List Nat) (t : Nat) : Nat := F.getD t 0
theorem fa_mem {t : Nat} (h : t < F.length) : fa F t ∈ F := by
  unfold fa
  rw [List.getD_eq_getElem?_getD, List.getElem?_eq_getElem h]
  exact List.getElem_mem h
theorem fa_at {t : Nat} (h : t < F.length) : F[t]? = some (fa F t) := by
  unfold fa
  rw [List.getD_eq_getElem?_getD, List.getElem?_eq_getElem h]
  rfl
theorem fa_ex {p : Nat} (h : p ∈ F) : ∃ t, t < F.length ∧ fa F t = p := by
  obtain ⟨t, ht, e⟩ := List.getElem_of_mem h
  refine ⟨t, ht, ?_⟩
  unfold fa
  rw [List.getD_eq_getElem?_getD, List.getElem?_eq_getElem ht]
  exact e
theorem fa_inj (nd : F.Nodup) {t m : Nat} (ht : t < F.length) (hm : m < F.length) (e : fa F t = fa F m) : t = m := by
  unfold fa at e
  rw [List.getD_eq_getElem?_getD, List.getD_eq_getElem?_getD, List.getElem?_eq_getElem ht, List.getElem?_eq_getElem hm] at e
  exact (List.getElem_inj nd).mp e
/-- the matrix: column j, row t; the last column the coins at hand -/
def mx (D : List Debt) (e : Nat → Int) (F : List Nat) (j : Nat) : Vec := fun t =>
  if t < F.length then (if j < F.length then (if fa F j = fa F t then owe D (fa F t) else 0 - val D (fa F j) (fa F t)) else e (fa F t) + full D F (fa F t)) else 0
theorem mx_in {e : Nat → Int} {j t : Nat} (hj : j < F.length) (ht : t < F.length) : mx D e F j t = if fa F j = fa F t then owe D (fa F t) else 0 - val D (fa F j) (fa F t) := by
  unfold mx
  rw [if_pos ht, if_pos hj]
theorem mx_rhs {e : Nat → Int} {t : Nat} (ht : t < F.length) : mx D e F F.length t = e (fa F t) + full D F (fa F t) := by
  unfold mx
  rw [if_pos ht, if_neg (Nat.lt_irrefl _)]
theorem mx_sup {e : Nat → Int} (j : Nat) : Sup F.length (mx D e F j) := fun t ht => by
  unfold mx
  rw [if_neg (by omega)]
/-- a column over a part -/
theorem mx_col (ok : DOk D) (nd : F.Nodup) {e : Nat → Int} (S : Nat → Bool) {m : Nat} (hm : m < F.length) (hs : S m = true) :
    sm F.length (fun t => if S t = true then mx D e F m t else 0) = ls D fun x => if x.1.1 = fa F m ∧ ¬ (∃ t, t < F.length ∧ S t = true ∧ fa F t = x.1.2) then x.2 else 0 := by
  have e1 : ∀ t, t < F.length → (if S t = true then mx D e F m t else 0) = (if t = m then owe D (fa F m) else 0) + (-1) * ls D (fun x => if S t = true ∧ t ≠ m ∧ x.1 = (fa F m, fa F t) then x.2 else 0) := fun t ht => by
    by_cases q : t = m
    · subst q
      rw [if_pos hs, mx_in hm hm, if_pos rfl, if_pos rfl, ls_congr D (g := fun _ => 0) (fun x _ => by simp), ls_zero]
      omega
    · rw [if_neg q, mx_in hm ht, if_neg (show ¬ fa F m = fa F t from fun z => q (fa_inj nd ht hm z.symm))]
      by_cases h : S t = true
      · rw [if_pos h, ls_congr D (g := fun x => if x.1 = (fa F m, fa F t) then x.2 else 0) (fun x _ => by simp [h, q])]
        show 0 - val D (fa F m) (fa F t) = 0 + (-1) * val D (fa F m) (fa F t)
        omega
      · rw [if_neg h, ls_congr D (g := fun _ => 0) (fun x _ => by simp [h]), ls_zero]
        omega
  rw [sm_congr F.length e1, sm_add, sm_mul, ls_swap, sm_one (i := m) hm (fun t _ ht => if_neg ht), if_pos rfl]
  unfold owe
  rw [← ls_mul, ← ls_add]
  refine ls_congr D fun x hx => ?_
  have ne := ok.ne x hx
  by_cases h1 : x.1.1 = fa F m
  · rw [if_pos h1]
    by_cases h2 : ∃ t, t < F.length ∧ S t = true ∧ fa F t = x.1.2
    · rw [if_neg (fun z => z.2 h2)]
      obtain ⟨t, ht, hS, et⟩ := h2
      rw [sm_one (i := t) ht fun u hu hne => if_neg fun z => hne (fa_inj nd hu ht ((congrArg (·.2) z.2.2).symm.trans et.symm))]
      have tm : t ≠ m := fun z => ne (by rw [h1, ← et, z])
      rw [if_pos ⟨hS, tm, by rw [et, ← h1]⟩]
      omega
    · rw [if_pos ⟨h1, h2⟩, sm_congr F.length (g := fun _ => 0) (fun u hu => if_neg fun z => h2 ⟨u, hu, z.1, (congrArg (·.2) z.2.2).symm⟩), sm_zero]
      omega
  · rw [if_neg h1, if_neg (fun z => h1 z.1), sm_congr F.length (g := fun _ => 0) (fun u hu => if_neg fun z => h1 (congrArg (·.1) z.2.2)), sm_zero]
    omega
theorem good (ok : DOk D) (nd : F.Nodup) (nc : NC D F) (e : Nat → Int) : Good F.length (mx D e F) where
  off := fun m t hm ht hne => by
    rw [mx_in hm ht, if_neg (fun z => hne (fa_inj nd hm ht z))]
    have := val_nonneg ok (fa F m) (fa F t)
    omega
  sup := fun j _ => mx_sup j
  part := fun S m hm hs => by
    rw [mx_col ok nd S hm hs]
    refine ls_nonneg D fun x hx => ?_
    have := ok.pos x hx
    split <;> omega
  open_ := fun S ⟨m0, hm0, hs0⟩ => by
    let T : Nat → Bool := fun p => decide (∃ t, t < F.length ∧ S t = true ∧ fa F t = p)
    obtain ⟨x, hx, h1, h2⟩ := nc T ⟨fa F m0, fa_mem hm0, decide_eq_true ⟨m0, hm0, hs0, rfl⟩⟩ fun p hp => by
      obtain ⟨t, ht, _, e⟩ := of_decide_eq_true hp
      rw [← e]
      exact fa_mem ht
    obtain ⟨m, hm, hs, em⟩ := of_decide_eq_true h1
    have h3 := of_decide_eq_false h2
    refine ⟨m, hm, hs, ?_⟩
    rw [mx_col ok nd S hm hs]
    refine ls_pos D (fun y hy => ?_) ⟨x, hx, ?_⟩
    · have := ok.pos y hy
      split <;> omega
    · rw [if_pos ⟨em.symm, h3⟩]
      exact ok.pos x hx
/-- a row times shares -/
theorem mx_row (ok : DOk D) (nd : F.Nodup) {e : Nat → Int} (s : Nat → Int) {t : Nat} (ht : t < F.length) :
    sm F.length (fun m => s (fa F m) * mx D e F m t) = owe D (fa F t) * s (fa F t) - ls D fun x => if x.1.2 = fa F t ∧ x.1.1 ∈ F then x.2 * s x.1.1 else 0 := by
  have e1 : ∀ m, m < F.length → s (fa F m) * mx D e F m t = (if m = t then owe D (fa F t) * s (fa F t) else 0) + (-1) * ls D (fun x => if m ≠ t ∧ x.1 = (fa F m, fa F t) then x.2 * s x.1.1 else 0) := fun m hm => by
    by_cases q : m = t
    · subst q
      rw [mx_in hm hm, if_pos rfl, if_pos rfl, ls_congr D (g := fun _ => 0) (fun x _ => by simp), ls_zero]
      grind
    · rw [if_neg q, mx_in hm ht, if_neg (fun z => q (fa_inj nd hm ht z)), ls_congr D (g := fun x => s (fa F m) * if x.1 = (fa F m, fa F t) then x.2 else 0) (fun x _ => by
        by_cases z : x.1 = (fa F m, fa F t)
        · rw [if_pos ⟨q, z⟩, if_pos z, show x.1.1 = fa F m from congrArg (·.1) z]
          grind
        · rw [if_neg (fun y => z y.2), if_neg z]
          omega), ls_mul]
      show s (fa F m) * (0 - val D (fa F m) (fa F t)) = 0 + (-1) * (s (fa F m) * val D (fa F m) (fa F t))
      grind
  rw [sm_congr F.length e1, sm_add, sm_mul, ls_swap, sm_one (i := t) ht (fun m _ hm => if_neg hm), if_pos rfl]
  have e2 : (ls D fun x => sm F.length fun m => if m ≠ t ∧ x.1 = (fa F m, fa F t) then x.2 * s x.1.1 else 0) = ls D fun x => if x.1.2 = fa F t ∧ x.1.1 ∈ F then x.2 * s x.1.1 else 0 := by
    refine ls_congr D fun x hx => ?_
    have ne := ok.ne x hx
    by_cases h : x.1.2 = fa F t ∧ x.1.1 ∈ F
    · rw [if_pos h]
      obtain ⟨m, hm, em⟩ := fa_ex h.2
      rw [sm_one (i := m) hm fun u hu hne => if_neg fun z => hne (fa_inj nd hu hm ((congrArg (·.1) z.2).symm.trans em.symm))]
      have mt : m ≠ t := fun z => ne (by rw [h.1, ← em, z])
      rw [if_pos ⟨mt, Prod.ext em.symm h.1⟩]
    · rw [if_neg h, sm_congr F.length (g := fun _ => 0) (fun u hu => if_neg fun z => h ⟨congrArg (·.2) z.2, by
        rw [show x.1.1 = fa F u from congrArg (·.1) z.2]
        exact fa_mem hu⟩), sm_zero]
  rw [e2]
  omega
/-- the least-sign rule by parties -/
theorem least (ok : DOk D) (nd : F.Nodup) (nc : NC D F) (y : Nat → Int) (h : ∀ p ∈ F, 0 ≤ owe D p * y p - ls D fun x => if x.1.2 = p ∧ x.1.1 ∈ F then x.2 * y x.1.1 else 0) : ∀ p ∈ F, 0 ≤ y p := by
  intro p hp
  obtain ⟨t, ht, e⟩ := fa_ex hp
  have q := (good ok nd nc (fun _ => 0)).least (Nat.le_refl _) (fun m => y (fa F m)) (fun u hu => by
    rw [mx_row ok nd y hu]
    exact h _ (fa_mem hu)) t ht
  rw [← e]
  exact q
/-! ### shares -/
structure Sol (D : List Debt) (e : Nat → Int) (F : List Nat) (s : Nat → Int) (sc : Int) : Prop where
  pos : 0 < sc
  out : ∀ p, p ∉ F → s p = sc
  eq : ∀ p ∈ F, owe D p * s p = e p * sc + recv D s p
  nn : ∀ p, 0 ≤ s p
  lt : ∀ p ∈ F, s p < sc
  ow : ∀ p ∈ F, 0 < owe D p
theorem Sol.le {e : Nat → Int} {s : Nat → Int} {sc : Int} (o : Sol D e F s sc) (p : Nat) : s p ≤ sc := by
  by_cases h : p ∈ F
  · have := o.lt p h
    omega
  · have := o.out p h
    omega
theorem recv_split (F : List Nat) (s : Nat → Int) (p : Nat) : recv D s p = ls D (fun x => if x.1.2 = p ∧ x.1.1 ∈ F then x.2 * s x.1.1 else 0) + ls D (fun x => if x.1.2 = p ∧ x.1.1 ∉ F then x.2 * s x.1.1 else 0) := by
  rw [← ls_add]
  refine ls_congr D fun x _ => ?_
  by_cases h1 : x.1.2 = p
  · by_cases h2 : x.1.1 ∈ F <;> simp [h1, h2]
  · simp [h1]
theorem recv_nonneg (ok : DOk D) {s : Nat → Int} (h : ∀ p, 0 ≤ s p) (p : Nat) : 0 ≤ recv D s p := ls_nonneg D fun x hx => by
  have a := ok.pos x hx
  have b := Int.mul_nonneg (Int.le_of_lt a) (h x.1.1)
  split <;> omega
/-- a short party: it pays all that it owes and has less -/
def Short (D : List Debt) (e s : Nat → Int) (sc : Int) (p : Nat) : Prop := e p * sc + recv D s p < owe D p * sc
theorem nc_next (ok : DOk D) {e s : Nat → Int} {sc : Int} {G : List Nat} (he : ∀ p, 0 ≤ e p) (nd : (F ++ G).Nodup) (nc : NC D F) (o : Sol D e F s sc) (hG : ∀ p ∈ G, Short D e s sc p) : NC D (F ++ G) := by
  intro S ⟨p0, hp0, hS0⟩ hS
  apply Decidable.byContradiction
  intro hno
  have cl : ∀ x ∈ D, S x.1.1 = true → S x.1.2 = true := fun x hx h => by
    cases q : S x.1.2 with
    | true => rfl
    | false => exact (hno ⟨x, hx, h, q⟩).elim
  -- is one of G in it?
  by_cases hg : ∃ p ∈ G, S p = true
  · -- the sums over the part
    let L : List Nat := (F ++ G).filter S
    have ndL : L.Nodup := nd.filter _
    have memL : ∀ p, p ∈ L ↔ S p = true := fun p => by
      show p ∈ (F ++ G).filter S ↔ _
      rw [List.mem_filter]
      exact ⟨fun z => z.2, fun z => ⟨hS p z, z⟩⟩
    -- a sum over L of one party's matters
    have pick : ∀ (M : List Nat), M.Nodup → ∀ (q : Nat) (v : Int), ls M (fun p => if q = p then v else 0) = if q ∈ M then v else 0 := by
      intro M
      induction M with
      | nil => intro _ q v; simp [ls]
      | cons a M ih =>
        intro ndM q v
        have ndM' := List.nodup_cons.mp ndM
        show (if q = a then v else 0) + ls M (fun p => if q = p then v else 0) = _
        rw [ih ndM'.2]
        by_cases z : q = a
        · subst z
          rw [if_pos rfl, if_neg ndM'.1, if_pos List.mem_cons_self]
          omega
        · rw [if_neg z]
          by_cases w : q ∈ M
          · rw [if_pos w, if_pos (List.mem_cons_of_mem _ w)]
            omega
          · rw [if_neg w, if_neg (fun y => (List.mem_cons.mp y).elim z w)]
            rfl
    have swap : ∀ (M : List Nat) (f : Nat → Debt → Int), ls M (fun p => ls D (f p)) = ls D fun x => ls M fun p => f p x := by
      intro M f
      induction M with
      | nil => exact (ls_zero D).symm
      | cons a M ih =>
        show ls D (f a) + ls M (fun p => ls D (f p)) = ls D fun x => f a x + ls M fun p => f p x
        rw [ih, ls_add]
    have a1 : ls L (fun p => owe D p * s p) = ls D fun x => if S x.1.1 = true then x.2 * s x.1.1 else 0 := by
      have e1 : ls L (fun p => owe D p * s p) = ls L fun p => ls D fun x => if x.1.1 = p then x.2 * s x.1.1 else 0 := ls_congr L fun p _ => by
        unfold owe
        rw [Int.mul_comm, ← ls_mul]
        refine ls_congr D fun x _ => ?_
        by_cases z : x.1.1 = p
        · rw [if_pos z, if_pos z, z, Int.mul_comm]
        · rw [if_neg z, if_neg z]
          omega
      rw [e1, swap]
      refine ls_congr D fun x _ => ?_
      rw [pick L ndL]
      by_cases z : S x.1.1 = true
      · rw [if_pos z, if_pos ((memL _).mpr z)]
      · rw [if_neg z, if_neg (fun y => z ((memL _).mp y))]
    have a2 : ls L (fun p => recv D s p) = ls D fun x => if S x.1.2 = true then x.2 * s x.1.1 else 0 := by
      unfold recv
      rw [swap]
      refine ls_congr D fun x _ => ?_
      rw [pick L ndL]
      by_cases z : S x.1.2 = true
      · rw [if_pos z, if_pos ((memL _).mpr z)]
      · rw [if_neg z, if_neg (fun y => z ((memL _).mp y))]
    have a3 : ls L (fun p => owe D p * s p) ≤ ls L (fun p => recv D s p) := by
      rw [a1, a2]
      refine ls_le D fun x hx => ?_
      have a := Int.mul_nonneg (Int.le_of_lt (ok.pos x hx)) (o.nn x.1.1)
      by_cases z : S x.1.1 = true
      · rw [if_pos z, if_pos (cl x hx z)]
        exact Int.le_refl _
      · rw [if_neg z]
        split <;> omega
    have disj : ∀ p ∈ G, p ∉ F := fun p hp hf => (List.nodup_append.mp nd).2.2 p hf p hp rfl
    have a4 : 0 < ls L (fun p => owe D p * s p - recv D s p) := by
      refine ls_pos L (fun p hp => ?_) ?_
      · have hm : p ∈ F ++ G := hS p ((memL p).mp hp)
        rcases List.mem_append.mp hm with h | h
        · rw [o.eq p h]
          have := Int.mul_nonneg (he p) (Int.le_of_lt o.pos)
          omega
        · have q := hG p h
          rw [o.out p (disj p h)]
          have := Int.mul_nonneg (he p) (Int.le_of_lt o.pos)
          unfold Short at q
          omega
      · obtain ⟨p, hp, hs⟩ := hg
        refine ⟨p, (memL p).mpr hs, ?_⟩
        have q := hG p hp
        rw [o.out p (disj p hp)]
        have := Int.mul_nonneg (he p) (Int.le_of_lt o.pos)
        unfold Short at q
        omega
    have a5 : ls L (fun p => owe D p * s p - recv D s p) = ls L (fun p => owe D p * s p) - ls L (fun p => recv D s p) := ls_sub L _ _
    rw [a5] at a4
    omega
  · have inF : ∀ p, S p = true → p ∈ F := fun p hp => by
      rcases List.mem_append.mp (hS p hp) with h | h
      · exact h
      · exact (hg ⟨p, h, hp⟩).elim
    obtain ⟨x, hx, h1, h2⟩ := nc S ⟨p0, inF p0 hS0, hS0⟩ inF
    rw [cl x hx h1] at h2
    cases h2
/-- the shares by the matrix -/
def shS (D : List Debt) (e : Nat → Int) (F : List Nat) : Int := hd F.length (mx D e F) F.length
def shN (D : List Debt) (e : Nat → Int) (F : List Nat) (m : Nat) : Int := ph F.length (mx D e F) F.length m (mx D e F F.length)
def shr (D : List Debt) (e : Nat → Int) (F : List Nat) (p : Nat) : Int := match F.idxOf? p with
  | some m => shN D e F m
  | none => shS D e F
theorem shr_at (nd : F.Nodup) {e : Nat → Int} {m : Nat} (hm : m < F.length) : shr D e F (fa F m) = shN D e F m := by
  unfold shr
  have h : F.idxOf? (fa F m) = some m := by
    rw [List.idxOf?_eq_some_iff]
    have q : F[m]? = some (fa F m) := fa_at hm
    refine ⟨hm, ?_, fun j hj => ?_⟩
    · rw [List.getElem?_eq_getElem hm] at q
      exact Option.some.inj q
    · intro z1
      have q2 : F[j]? = some (fa F j) := fa_at (by omega)
      rw [List.getElem?_eq_getElem (by omega)] at q2
      have := fa_inj nd (t := j) (m := m) (by omega) hm ((Option.some.inj q2).symm.trans z1)
      omega
  rw [h]
theorem shr_out {e : Nat → Int} {p : Nat} (h : p ∉ F) : shr D e F p = shS D e F := by
  unfold shr
  rw [List.idxOf?_eq_none_iff.mpr h]
/-- what the matrix gives solves -/
theorem sol_base (ok : DOk D) (nd : F.Nodup) (nc : NC D F) {e : Nat → Int} (he : ∀ p, 0 ≤ e p) :
    0 < shS D e F ∧ (∀ p ∈ F, owe D p * shr D e F p = e p * shS D e F + recv D (shr D e F) p) ∧ ∀ p, 0 ≤ shr D e F p := by
  have G := good ok nd nc e
  have fn : ∀ p, 0 ≤ full D F p := fun p => ls_nonneg D fun x hx => by
    have := ok.pos x hx
    split <;> omega
  have p0 : 0 < shS D e F := (heads G _ (Nat.le_refl _)).pos
  refine ⟨p0, fun p hp => ?_, fun p => ?_⟩
  · obtain ⟨t, ht, ep⟩ := fa_ex hp
    subst ep
    have S := solution G t ht
    rw [sm_congr F.length (g := fun m => shr D e F (fa F m) * mx D e F m t) (fun m hm => by rw [shr_at nd hm]; rfl), mx_row ok nd _ ht, mx_rhs ht] at S
    rw [recv_split F]
    have z : ls D (fun x => if x.1.2 = fa F t ∧ x.1.1 ∉ F then x.2 * shr D e F x.1.1 else 0) = shS D e F * full D F (fa F t) := by
      unfold full
      rw [← ls_mul]
      refine ls_congr D fun x _ => ?_
      by_cases q : x.1.2 = fa F t ∧ x.1.1 ∉ F
      · rw [if_pos q, if_pos q, shr_out q.2, Int.mul_comm]
      · rw [if_neg q, if_neg q]
        omega
    rw [z]
    have S2 : shS D e F * (e (fa F t) + full D F (fa F t)) = owe D (fa F t) * shr D e F (fa F t) - ls D fun x => if x.1.2 = fa F t ∧ x.1.1 ∈ F then x.2 * shr D e F x.1.1 else 0 := S
    grind
  · by_cases h : p ∈ F
    · obtain ⟨t, ht, ep⟩ := fa_ex h
      subst ep
      rw [shr_at nd ht]
      exact sol_nonneg G (fun u hu => by
        rw [mx_rhs hu]
        have a := he (fa F u)
        have b := fn (fa F u)
        omega) t ht
    · rw [shr_out h]
      omega
theorem sol_nil {e : Nat → Int} (ok : DOk D) : Sol D e [] (shr D e []) (shS D e []) := by
  have p0 : shS D e [] = 1 := hd_zero _ _
  have z : ∀ p, shr D e [] p = shS D e [] := fun p => shr_out (by simp)
  exact ⟨by rw [p0]; decide, fun p _ => z p, fun p h => (by cases h), fun p => (by rw [z, p0]; decide), fun p h => (by cases h), fun p h => (by cases h)⟩
theorem arith1 {o s1 r r1 e1 a b : Int} (h1 : o * s1 = e1 * b + r1) (m : b * (e1 * a + r) < b * (o * a)) : b * r - a * r1 < o * (b * a - a * s1) := by
  have x1 : o * (b * a - a * s1) = b * (o * a) - a * (o * s1) := by grind
  rw [x1, h1]
  have x2 : b * (e1 * a + r) = b * e1 * a + b * r := by grind
  have x3 : a * (e1 * b + r1) = b * e1 * a + a * r1 := by grind
  omega
/-- the next shares: lower -/
theorem sol_next (ok : DOk D) {e s : Nat → Int} {sc : Int} {G : List Nat} (he : ∀ p, 0 ≤ e p) (nd : (F ++ G).Nodup) (nc : NC D F) (o : Sol D e F s sc) (hG : ∀ p ∈ G, Short D e s sc p) :
    Sol D e (F ++ G) (shr D e (F ++ G)) (shS D e (F ++ G)) := by
  have nc' := nc_next ok he nd nc o hG
  obtain ⟨b1, b2, b3⟩ := sol_base ok nd nc' he
  generalize es : shr D e (F ++ G) = s' at *
  generalize ec : shS D e (F ++ G) = sc' at *
  have so : ∀ p, p ∉ F ++ G → s' p = sc' := fun p hp => by
    rw [← es, ← ec]
    exact shr_out hp
  have disj : ∀ p ∈ G, p ∉ F := fun p hp hf => (List.nodup_append.mp nd).2.2 p hf p hp rfl
  let y : Nat → Int := fun p => sc' * s p - sc * s' p
  have y0 : ∀ p, p ∉ F ++ G → y p = 0 := fun p hp => by
    show sc' * s p - sc * s' p = 0
    rw [so p hp, o.out p (fun z => hp (List.mem_append_left _ z))]
    grind
  have ry : ∀ p, recv D y p = sc' * recv D s p - sc * recv D s' p := fun p => by
    unfold recv
    rw [← ls_mul, ← ls_mul, ← ls_sub]
    refine ls_congr D fun x _ => ?_
    by_cases z : x.1.2 = p
    · rw [if_pos z, if_pos z, if_pos z]
      show x.2 * (sc' * s x.1.1 - sc * s' x.1.1) = _
      grind
    · rw [if_neg z, if_neg z, if_neg z]
      omega
  have rin : ∀ p, ls D (fun x => if x.1.2 = p ∧ x.1.1 ∈ F ++ G then x.2 * y x.1.1 else 0) = recv D y p := fun p => by
    unfold recv
    refine ls_congr D fun x _ => ?_
    by_cases z : x.1.2 = p
    · by_cases w : x.1.1 ∈ F ++ G
      · rw [if_pos ⟨z, w⟩, if_pos z]
      · rw [if_neg (fun v => w v.2), if_pos z, y0 _ w]
        omega
    · rw [if_neg (fun v => z v.1), if_neg z]
  have inF : ∀ p ∈ F, owe D p * y p = recv D y p := fun p hp => by
    have a := o.eq p hp
    have b := b2 p (List.mem_append_left _ hp)
    rw [ry]
    show owe D p * (sc' * s p - sc * s' p) = _
    grind
  have inG : ∀ p ∈ G, recv D y p < owe D p * y p := fun p hp => by
    have a := hG p hp
    unfold Short at a
    have b := b2 p (List.mem_append_right _ hp)
    have c := o.out p (disj p hp)
    rw [ry]
    show _ < owe D p * (sc' * s p - sc * s' p)
    rw [c]
    exact arith1 b (Int.mul_lt_mul_of_pos_left a b1)
  have hy := least ok nd nc' y fun p hp => by
    rw [rin]
    rcases List.mem_append.mp hp with h | h
    · rw [inF p h]
      omega
    · have := inG p h
      omega
  have hy2 : ∀ p, 0 ≤ y p := fun p => by
    by_cases h : p ∈ F ++ G
    · exact hy p h
    · rw [y0 p h]
      exact Int.le_refl 0
  have ow : ∀ p ∈ F ++ G, 0 < owe D p := fun p hp => by
    rcases List.mem_append.mp hp with h | h
    · exact o.ow p h
    · have a := hG p h
      unfold Short at a
      have b := Int.mul_nonneg (he p) (Int.le_of_lt o.pos)
      have c := recv_nonneg ok o.nn p
      have d : 0 < owe D p * sc := by omega
      exact Int.pos_of_mul_pos_left d o.pos
  refine ⟨b1, so, b2, b3, fun p hp => ?_, ow⟩
  rcases List.mem_append.mp hp with h | h
  · have a : 0 ≤ sc' * s p - sc * s' p := hy2 p
    have b := Int.mul_lt_mul_of_pos_left (o.lt p h) b1
    have c : sc * s' p < sc * sc' := by grind
    exact Int.lt_of_mul_lt_mul_left c (Int.le_of_lt o.pos)
  · have a := inG p h
    have b := recv_nonneg ok hy2 p
    have d : 0 < y p := by
      have q : 0 < owe D p * y p := by omega
      exact Int.pos_of_mul_pos_right q (ow p hp)
    have d2 : 0 < sc' * s p - sc * s' p := d
    rw [o.out p (disj p h)] at d2
    have c : sc * s' p < sc * sc' := by grind
    exact Int.lt_of_mul_lt_mul_left c (Int.le_of_lt o.pos)
end
end K72M
end
section
set_option Elab.async false
set_option linter.all false
set_option exponentiation.threshold 3000
/-! The program's own answers: tidied debts, the failing parties, the answer's facts. -/
namespace K72M
def abc : List Nat := [97, 98, 99, 100, 101, 102]
theorem abc_nd : abc.Nodup := by decide
/-- debts as the law makes them -/
structure Raw (D : List Debt) : Prop where
  nd : (D.map (·.1)).Nodup
  ne : ∀ x ∈ D, x.1.1 ≠ x.1.2
  in1 : ∀ x ∈ D, x.1.1 ∈ abc
  in2 : ∀ x ∈ D, x.1.2 ∈ abc
  lo : ∀ x ∈ D, 0 ≤ x.2
  hi : ∀ x ∈ D, x.2 ≤ (10 : Int) ^ 60
def pairs : List (Nat × Nat) := abc.flatMap fun a => abc.map fun b => (a, b)
theorem pairs_mem {a b : Nat} (ha : a ∈ abc) (hb : b ∈ abc) : (a, b) ∈ pairs := by
  unfold pairs
  rw [List.mem_flatMap]
  exact ⟨a, ha, List.mem_map.mpr ⟨b, hb, rfl⟩⟩
theorem Raw.len {D : List Debt} (r : Raw D) : D.length ≤ 36 := by
  have h : (D.map (·.1)).length ≤ pairs.length := List.Nodup.length_le_of_subset r.nd fun k hk => by
    obtain ⟨x, hx, e⟩ := List.mem_map.mp hk
    rw [← e]
    exact pairs_mem (r.in1 x hx) (r.in2 x hx)
  rw [List.length_map] at h
  exact h
def keysOf (D : List Debt) : List (Nat × Nat) := pairs.filter fun k => decide (k ∈ D.map (·.1))
def tidyM (D : List Debt) : List Debt := ((keysOf D).filter fun k => decide (0 < val D k.1 k.2)).map fun k => (k, val D k.1 k.2)
theorem pairs_nd : pairs.Nodup := by decide
theorem val_of {D : List Debt} (nd : (D.map (·.1)).Nodup) {x : Debt} (hx : x ∈ D) : val D x.1.1 x.1.2 = x.2 := by
  induction D with
  | nil => cases hx
  | cons y D ih =>
    have nd' := List.nodup_cons.mp (show (y.1 :: D.map (·.1)).Nodup from nd)
    show (if y.1 = (x.1.1, x.1.2) then y.2 else 0) + val D x.1.1 x.1.2 = x.2
    have out : y.1 = x.1 → val D x.1.1 x.1.2 = 0 := fun e => by
      unfold val
      rw [ls_congr D (g := fun _ => 0) (fun z hz => if_neg fun q => nd'.1 (by
        rw [e]
        exact List.mem_map.mpr ⟨z, hz, q⟩)), ls_zero]
    rcases List.mem_cons.mp hx with e | h
    · rw [if_pos (show y.1 = (x.1.1, x.1.2) from by rw [← e]), out (by rw [e]), e]
      omega
    · have ne : ¬ y.1 = (x.1.1, x.1.2) := fun e => nd'.1 (by
        rw [e]
        exact List.mem_map.mpr ⟨x, h, rfl⟩)
      rw [if_neg ne, ih nd'.2 h]
      omega
theorem tidy_mem {D : List Debt} (r : Raw D) (x : Debt) : x ∈ tidyM D ↔ x ∈ D ∧ 0 < x.2 := by
  unfold tidyM keysOf
  rw [List.mem_map]
  constructor
  · rintro ⟨k, hk, e⟩
    obtain ⟨h1, h2⟩ := List.mem_filter.mp hk
    obtain ⟨h3, h4⟩ := List.mem_filter.mp h1
    obtain ⟨y, hy, ey⟩ := List.mem_map.mp (of_decide_eq_true h4)
    have v := val_of r.nd hy
    rw [ey] at v
    have ex : x = y := by rw [← e, v, ← ey]
    rw [ex]
    refine ⟨hy, ?_⟩
    rw [← v]
    exact of_decide_eq_true h2
  · rintro ⟨hx, hp⟩
    have v := val_of r.nd hx
    refine ⟨x.1, List.mem_filter.mpr ⟨List.mem_filter.mpr ⟨pairs_mem (r.in1 x hx) (r.in2 x hx), decide_eq_true (List.mem_map.mpr ⟨x, hx, rfl⟩)⟩, decide_eq_true (by rw [v]; exact hp)⟩, ?_⟩
    rw [v]
theorem tidy_keys (D : List Debt) : (tidyM D).map (·.1) = (keysOf D).filter fun k => decide (0 < val D k.1 k.2) := by
  unfold tidyM
  rw [List.map_map]
  exact List.map_id _
theorem tidy_nd (D : List Debt) : ((tidyM D).map (·.1)).Nodup := by
  rw [tidy_keys]
  exact (pairs_nd.filter _).filter _
theorem tidy_perm {D : List Debt} (r : Raw D) : (tidyM D).Perm (D.filter fun x => decide (0 < x.2)) := by
  have n1 : (tidyM D).Nodup := List.Pairwise.of_map (·.1) (fun a b h e => h (by rw [e])) (tidy_nd D)
  have n2 : (D.filter fun x => decide (0 < x.2)).Nodup := List.Pairwise.filter _ (List.Pairwise.of_map (·.1) (fun a b h e => h (by rw [e])) r.nd)
  rw [List.perm_ext_iff_of_nodup n1 n2]
  intro x
  rw [tidy_mem r, List.mem_filter]
  simp
theorem tidy_ok {D : List Debt} (r : Raw D) : DOk (tidyM D) :=
  ⟨tidy_nd D, fun x hx => ((tidy_mem r x).mp hx).2, fun x hx => r.ne x ((tidy_mem r x).mp hx).1⟩
theorem tidy_len {D : List Debt} (r : Raw D) : (tidyM D).length ≤ 36 := by
  have h := (tidy_perm r).length_eq
  have z := List.length_filter_le (fun x : Debt => decide (0 < x.2)) D
  have := r.len
  omega
/-- sums that do not see a nought -/
theorem tidy_sum {D : List Debt} (r : Raw D) (f : Debt → Int) (h : ∀ x, x.2 = 0 → f x = 0) : ls (tidyM D) f = ls D f := by
  rw [ls_perm (tidy_perm r), ls_filter]
  refine ls_congr D fun x hx => ?_
  by_cases q : 0 < x.2
  · rw [if_pos (decide_eq_true q)]
  · rw [if_neg (by simpa using q), h x (by have := r.lo x hx; omega)]
theorem owe_tidy {D : List Debt} (r : Raw D) (p : Nat) : owe (tidyM D) p = owe D p := tidy_sum r _ fun x h => by
  rw [h]
  split <;> rfl
theorem recv_tidy {D : List Debt} (r : Raw D) (s : Nat → Int) (p : Nat) : recv (tidyM D) s p = recv D s p := tidy_sum r _ fun x h => by
  rw [h]
  split <;> omega
/-! ### sizes -/
theorem ls_bound {α : Type} (l : List α) {f : α → Int} {b : Int} (hb : 0 ≤ b) (h : ∀ x ∈ l, f x ≤ b) : ls l f ≤ l.length * b := by
  induction l with
  | nil =>
    show (0 : Int) ≤ ((0 : Nat) : Int) * b
    simp
  | cons x l ih =>
    have a := h x List.mem_cons_self
    have c := ih fun y hy => h y (List.mem_cons_of_mem _ hy)
    show f x + ls l f ≤ ((l.length + 1 : Nat) : Int) * b
    have e : ((l.length + 1 : Nat) : Int) * b = (l.length : Int) * b + b := by
      rw [Int.natCast_add, Int.add_mul]
      simp
    omega
theorem owe_le {D : List Debt} (r : Raw D) (p : Nat) : owe D p ≤ (2 : Int) ^ 205 := by
  have a := ls_bound D (f := fun x => if x.1.1 = p then x.2 else 0) (b := (10 : Int) ^ 60) (by decide) fun x hx => by
    have h1 := r.hi x hx
    split
    · exact h1
    · decide
  have l := r.len
  have b : (D.length : Int) * (10 : Int) ^ 60 ≤ 36 * (10 : Int) ^ 60 := Int.mul_le_mul_of_nonneg_right (by omega) (by decide)
  have c : 36 * (10 : Int) ^ 60 ≤ (2 : Int) ^ 205 := by decide
  unfold owe
  omega
theorem owe_nn {D : List Debt} (r : Raw D) (p : Nat) : 0 ≤ owe D p := ls_nonneg D fun x hx => by
  have := r.lo x hx
  split <;> omega
/-! ### the failing parties -/
section
variable (D : List Debt) (P : List Nat) (e : Nat → Int)
def freshM (F : List Nat) : List Nat := abc.filter fun p => decide (p ∈ P) && (decide (shr D e F p = shS D e F) && decide (e p * shS D e F + recv D (shr D e F) p < owe D p * shS D e F))
def runM : Nat → List Nat → List (List Nat) → List Nat × List (List Nat)
  | 0, F, W => (F, W)
  | n + 1, F, W => if freshM D P e F = [] then (F, W) else runM n (F ++ freshM D P e F) (W ++ [freshM D P e F])
structure Fail (F : List Nat) : Prop where
  nd : F.Nodup
  inP : ∀ p ∈ F, p ∈ P
  nc : NC D F
  sol : Sol D e F (shr D e F) (shS D e F)
end
section
variable {D : List Debt} {P : List Nat} {e : Nat → Int}
theorem fresh_mem {F : List Nat} {p : Nat} : p ∈ freshM D P e F ↔ p ∈ abc ∧ p ∈ P ∧ shr D e F p = shS D e F ∧ e p * shS D e F + recv D (shr D e F) p < owe D p * shS D e F := by
  unfold freshM
  rw [List.mem_filter]
  simp
theorem fresh_nd (F : List Nat) : (freshM D P e F).Nodup := abc_nd.filter _
theorem fresh_sorted (F : List Nat) : (freshM D P e F).Pairwise (· < ·) := List.Pairwise.filter _ (by decide)
theorem fail_nil (ok : DOk D) : Fail D P e [] :=
  ⟨List.nodup_nil, fun p h => (by cases h), fun S ⟨p, h, _⟩ => (by cases h), sol_nil ok⟩
theorem fail_disj {F : List Nat} (f : Fail D P e F) : (F ++ freshM D P e F).Nodup := by
  rw [List.nodup_append]
  refine ⟨f.nd, fresh_nd F, fun a ha b hb e => ?_⟩
  have h := (fresh_mem.mp hb).2.2.1
  have l := f.sol.lt a ha
  rw [e] at l
  omega
theorem fail_next (ok : DOk D) (he : ∀ p, 0 ≤ e p) {F : List Nat} (f : Fail D P e F) : Fail D P e (F ++ freshM D P e F) := by
  have nd := fail_disj f
  have sh : ∀ p ∈ freshM D P e F, Short D e (shr D e F) (shS D e F) p := fun p hp => (fresh_mem.mp hp).2.2.2
  refine ⟨nd, fun p hp => ?_, nc_next ok he nd f.nc f.sol sh, sol_next ok he nd f.nc f.sol sh⟩
  rcases List.mem_append.mp hp with h | h
  · exact f.inP p h
  · exact (fresh_mem.mp h).2.1
theorem fail_len {F : List Nat} (hP : ∀ p ∈ P, p ∈ abc) (f : Fail D P e F) : F.length ≤ 6 :=
  List.Nodup.length_le_of_subset f.nd fun p hp => hP p (f.inP p hp)
/-- what the waves are -/
structure Waves (D : List Debt) (P : List Nat) (e : Nat → Int) (F : List Nat) (W : List (List Nat)) : Prop where
  fail : Fail D P e F
  flat : W.flatten = F
  each : ∀ G ∈ W, G ≠ [] ∧ G.Pairwise (· < ·)
theorem waves_nil (ok : DOk D) : Waves D P e [] [] := ⟨fail_nil ok, rfl, fun G h => (by cases h)⟩
theorem waves_next (ok : DOk D) (he : ∀ p, 0 ≤ e p) {F : List Nat} {W : List (List Nat)} (w : Waves D P e F W) (h : freshM D P e F ≠ []) : Waves D P e (F ++ freshM D P e F) (W ++ [freshM D P e F]) := by
  refine ⟨fail_next ok he w.fail, ?_, fun G hG => ?_⟩
  · rw [List.flatten_append, w.flat]
    simp
  · rcases List.mem_append.mp hG with q | q
    · exact w.each G q
    · rw [List.mem_singleton.mp q]
      exact ⟨h, fresh_sorted F⟩
theorem run_done {F : List Nat} {W : List (List Nat)} (h : freshM D P e F = []) : ∀ n, runM D P e n F W = (F, W)
  | 0 => rfl
  | n + 1 => if_pos h
theorem run_step {F : List Nat} {W : List (List Nat)} (h : freshM D P e F ≠ []) (n : Nat) : runM D P e (n + 1) F W = runM D P e n (F ++ freshM D P e F) (W ++ [freshM D P e F]) := if_neg h
theorem run_end (ok : DOk D) (he : ∀ p, 0 ≤ e p) (hP : ∀ p ∈ P, p ∈ abc) : ∀ (n : Nat) (F : List Nat) (W : List (List Nat)), Waves D P e F W → 7 ≤ F.length + n →
    Waves D P e (runM D P e n F W).1 (runM D P e n F W).2 ∧ freshM D P e (runM D P e n F W).1 = []
  | 0, F, W, w, h => by
    have := fail_len hP w.fail
    omega
  | n + 1, F, W, w, h => by
    by_cases q : freshM D P e F = []
    · rw [run_done q]
      exact ⟨w, q⟩
    · rw [run_step q]
      refine run_end ok he hP n _ _ (waves_next ok he w q) ?_
      have : 0 < (freshM D P e F).length := List.length_pos_iff.mpr q
      rw [List.length_append]
      omega
end
/-! ### the answer -/
def FM (D : List Debt) (P : List Nat) (e : Nat → Int) : List Nat := (runM (tidyM D) P e 7 [] []).1
def WM (D : List Debt) (P : List Nat) (e : Nat → Int) : List (List Nat) := (runM (tidyM D) P e 7 [] []).2
def sM (D : List Debt) (P : List Nat) (e : Nat → Int) (p : Nat) : Int := shr (tidyM D) e (FM D P e) p
def cM (D : List Debt) (P : List Nat) (e : Nat → Int) : Int := shS (tidyM D) e (FM D P e)
def gM (D : List Debt) (P : List Nat) (e : Nat → Int) (p : Nat) : Int := Int.gcd (owe D p * sM D P e p) (cM D P e)
def numM (D : List Debt) (P : List Nat) (e : Nat → Int) (p : Nat) : Int := owe D p * sM D P e p / gM D P e p
def denM (D : List Debt) (P : List Nat) (e : Nat → Int) (p : Nat) : Int := cM D P e / gM D P e p
/-- purses as the law makes them -/
structure Purse (P : List Nat) (e : Nat → Int) : Prop where
  nd : P.Nodup
  inA : ∀ p ∈ P, p ∈ abc
  lo : ∀ p, 0 ≤ e p
  hi : ∀ p, e p ≤ (10 : Int) ^ 200
def Cov (D : List Debt) (P : List Nat) : Prop := ∀ x ∈ D, 0 < x.2 → x.1.1 ∈ P ∧ x.1.2 ∈ P
theorem tidy_cov {D : List Debt} {P : List Nat} (r : Raw D) (c : Cov D P) : ∀ x ∈ tidyM D, x.1.1 ∈ P ∧ x.1.2 ∈ P := fun x hx =>
  let ⟨a, b⟩ := (tidy_mem r x).mp hx
  c x a b
/-- all that the law asks of an answer, in plain numbers -/
structure Final (D : List Debt) (P : List Nat) (e : Nat → Int) (F : List Nat) (W : List (List Nat)) (s : Nat → Int) (sc : Int) (num den : Nat → Int) : Prop where
  raw : Raw D
  purse : Purse P e
  cov : Cov D P
  sc0 : 0 < sc
  sc1 : sc ≤ (2 : Int) ^ 1230
  s0 : ∀ p, 0 ≤ s p
  s1 : ∀ p, s p ≤ sc
  out : ∀ p, p ∉ F → s p = sc
  full : ∀ p ∈ P, p ∉ F → owe D p * sc ≤ e p * sc + recv D s p
  fail : ∀ p ∈ F, p ∈ P ∧ 0 < owe D p ∧ s p < sc ∧ owe D p * s p = e p * sc + recv D s p
  nc : ∀ S : Nat → Bool, (∃ p ∈ F, S p = true) → (∀ p, S p = true → p ∈ F) → ∃ x ∈ D, 0 < x.2 ∧ S x.1.1 = true ∧ S x.1.2 = false
  nd : F.Nodup
  flat : W.flatten = F
  each : ∀ G ∈ W, G ≠ [] ∧ G.Pairwise (· < ·)
  num0 : ∀ p, 0 ≤ num p
  num1 : ∀ p, num p ≤ owe D p * s p
  den0 : ∀ p, 0 < den p
  den1 : ∀ p, den p ≤ sc
  same : ∀ p, num p * sc = den p * (owe D p * s p)
  low : ∀ p, Int.gcd (num p) (den p) = 1
theorem final_of {D : List Debt} {P : List Nat} {e : Nat → Int} (r : Raw D) (q : Purse P e) (c : Cov D P) : Final D P e (FM D P e) (WM D P e) (sM D P e) (cM D P e) (numM D P e) (denM D P e) := by
  have ok := tidy_ok r
  obtain ⟨w, hf⟩ := run_end ok q.lo q.inA 7 [] [] (waves_nil ok) (Nat.le_refl 7)
  have w : Waves (tidyM D) P e (FM D P e) (WM D P e) := w
  have hf : freshM (tidyM D) P e (FM D P e) = [] := hf
  have o : Sol (tidyM D) e (FM D P e) (sM D P e) (cM D P e) := w.fail.sol
  have sc1 : cM D P e ≤ (2 : Int) ^ 1230 := by
    have l := fail_len q.inA w.fail
    have h := heads_le (good ok w.fail.nd w.fail.nc e) (B := 205) (fun m hm => by
      rw [mx_in hm hm, if_pos rfl, owe_tidy r]
      exact owe_le r _) (FM D P e).length (Nat.le_refl _)
    have m : (2 : Int) ^ (205 * (FM D P e).length) ≤ (2 : Int) ^ 1230 := by
      have := Nat.pow_le_pow_right (n := 2) (by decide) (show 205 * (FM D P e).length ≤ 1230 by omega)
      exact_mod_cast this
    exact Int.le_trans h m
  have ns : ∀ p, 0 ≤ owe D p * sM D P e p := fun p => Int.mul_nonneg (owe_nn r p) (o.nn p)
  have gpos : ∀ p, 0 < gM D P e p := fun p => by
    have := o.pos
    unfold gM
    have z : Int.gcd (owe D p * sM D P e p) (cM D P e) ≠ 0 := fun z => by
      have := (Int.gcd_eq_zero_iff.mp z).2
      omega
    omega
  have gn : ∀ p, gM D P e p ∣ owe D p * sM D P e p := fun p => Int.gcd_dvd_left _ _
  have gd : ∀ p, gM D P e p ∣ cM D P e := fun p => Int.gcd_dvd_right _ _
  refine ⟨r, q, c, o.pos, sc1, o.nn, o.le, o.out, fun p hp hF => ?_, fun p hp => ?_, fun S h1 h2 => ?_, w.fail.nd, w.flat, w.each, fun p => ?_, fun p => ?_, fun p => ?_, fun p => ?_, fun p => ?_, fun p => ?_⟩
  · apply Decidable.byContradiction
    intro h
    have m : p ∈ freshM (tidyM D) P e (FM D P e) := fresh_mem.mpr ⟨q.inA p hp, hp, o.out p hF, by
      rw [owe_tidy r, recv_tidy r]
      exact Int.not_le.mp h⟩
    rw [hf] at m
    cases m
  · refine ⟨w.fail.inP p hp, ?_, o.lt p hp, ?_⟩
    · rw [← owe_tidy r]
      exact o.ow p hp
    · have z := o.eq p hp
      rw [owe_tidy r, recv_tidy r] at z
      exact z
  · obtain ⟨x, hx, a, b⟩ := w.fail.nc S h1 h2
    obtain ⟨y1, y2⟩ := (tidy_mem r x).mp hx
    exact ⟨x, y1, y2, a, b⟩
  · exact Int.ediv_nonneg (ns p) (Int.le_of_lt (gpos p))
  · exact Int.ediv_le_self _ (ns p)
  · obtain ⟨k, hk⟩ := gd p
    have hp := gpos p
    have ho := o.pos
    unfold denM
    rw [hk, Int.mul_ediv_cancel_left _ (by omega)]
    rw [hk] at ho
    exact Int.pos_of_mul_pos_right ho hp
  · exact Int.ediv_le_self _ (Int.le_of_lt o.pos)
  · obtain ⟨k, hk⟩ := gd p
    obtain ⟨j, hj⟩ := gn p
    have hp := gpos p
    unfold numM denM
    have e1 : owe D p * sM D P e p / gM D P e p = j := by
      conv => lhs; rw [hj]
      exact Int.mul_ediv_cancel_left _ (by omega)
    have e2 : cM D P e / gM D P e p = k := by
      conv => lhs; rw [hk]
      exact Int.mul_ediv_cancel_left _ (by omega)
    rw [e1, e2, hj]
    conv => lhs; rw [hk]
    grind
  · unfold numM denM gM
    have z : Int.gcd (owe D p * sM D P e p) (cM D P e) ≠ 0 := fun z => by
      have := (Int.gcd_eq_zero_iff.mp z).2
      have := o.pos
      omega
    exact Int.gcd_ediv_gcd_ediv_gcd (by omega)
end K72M
end
section
set_option Elab.async false
set_option linter.all false
set_option maxRecDepth 100000
set_option maxHeartbeats 4000000
/-! Two rules that the layer lacks: list(d.values()); for a, b in zip(text, list). -/
namespace K72
open PySem PySem.Spec PyProof.Rows L2
section
variable {X : Cx}
def rVals : V → Hp → VK → Prop := fun x H Q => ∃ (d : Addr) (kvs : List (Key × V)), x = .ref d ∧ H d = some (.dK kvs) ∧ ∀ p, H p = none → Q (.ref p) (upd H p (.lst (kvs.map (·.2))))
def tListVals (te : TE) : TE := fun σ H Q => te σ H fun x H1 => rVals x H1 Q
theorem pe_listVals {e : Expr} {te : TE} {p pos apos cpos : Pos} (hc : X.calm = true) (he : PE X e te) (hg : Gl X "list") (hm : X.mg "list" = none) (hv : bootBuiltins "list" = some (.type "list")) (hbase : attributeBase e "values" X.env (eval e X.env) = eval e X.env := by rfl) (hline : (apos.endLine == cpos.line) = true := by rfl)
    (hs : starEach [.Call (.Attribute e "values" apos) [] [] cpos] X.env = (false, eval (.Call (.Attribute e "values" apos) [] [] cpos) X.env) :: starEach [] X.env := by rfl) :
    PE X (.Call (.Name "list" p) [.Call (.Attribute e "values" apos) [] [] cpos] [] pos) (tListVals te) := by
  refine ⟨fun pins s σ H Q I hq => ?_⟩
  refine wpAny_Call_Name_kw (ld_blt I hg hm hv ?_)
  refine PyProof.Rows.callWith_type1 ?_ hs rfl
  rw [hs]
  show wpAny _ _ (spliced ((false, eval (.Call (.Attribute e "values" apos) [] [] cpos) X.env) :: backTo pos (starEach [] X.env))) _ _ s
  refine Calls.spliced_cons ?_
  refine wpAny_Call_method (T := "dict") (id := "dict.values") hbase rfl hline F.plainAttrs_dict F.slot_dict_values F.type_dict_values (thn (he.run pins s σ H _ I hq) fun u s1 ⟨x, H1, I1, rx, d, kvs, ex, hd, q⟩ => ?_)
  subst ex
  obtain rfl : u = Value.ref d := rx
  obtain ⟨hz, hs0, vs, kv, hdo⟩ := I1.hok d _ hd
  obtain ⟨ep, hat⟩ := hdo.dictAt
  have lk : kvs.length = vs.length := Paired.length kv
  refine ⟨hdo.typeIs, hdo.mapOf.noDict, ?_⟩
  show wpAny _ _ (callWith cpos (.builtin "dict.values") [.ref d] [] []) _ X.xe s1
  refine method_meetsIn F.slot_dict_values F.entry_dict_values rfl (PySem.evalArgs_none ⟨rfl, hdo.typeIs, F.args_dict_values_1 _, _, meets_dict_values (mixKind X.prog X.w) d hs0, ⟨vs, hdo⟩, ?_⟩)
  refine Calls.spliced_nil ?_
  have I2 : Inv X pins σ H1 { s1 with heap := s1.heap.push { cls := .type "dict_values", data := .fields #[.ref d] } } := I1.kept (t' := s1.toks) fun b ob q => Heap.get?_push_of_some _ q
  refine PySem.W.kdl_call (PySem.W.kdl_values (knd := mixKind X.prog X.w) (kvs := vs) (ep := ep)) (I1.ok.hd hc) ⟨⟨_, Heap.get?_push_size _ rfl, rfl, rfl⟩, hat.push _⟩ (by omega) fun h' tk acc c hk hD hacc => ?_
  have ev : acc.toList = vs.map (·.2) := PySem.W.kdl_vals_eq (kvs := vs) acc.toList (by rw [Array.length_toList]; exact hacc.1) fun j v e => hacc.2 j v (by rw [← Array.getElem?_toList]; exact e)
  have kvv : ∀ {a : List (Key × V)} {b : List (Key × Value)}, KV a b → Vals (a.map (·.2)) (b.map (·.2)) := by
    intro a b h
    induction h with
    | nil => exact .nil
    | cons r _ ih => exact .cons r.2 ih
  refine ⟨.ref _, upd H1 _ (.lst (kvs.map (·.2))), I2.laid (t' := tk) hk (Nat.le_refl _)
    (show ObjOk X.prog X.w _ _ _ (.lst (kvs.map (·.2))) from ⟨by rw [List.length_map]; exact hz, acc.toList, c, by rw [ev]; exact kvv kv, by rw [Array.toArray_toList]; exact hD⟩), rfl, q _ (I2.hok.fresh (Nat.le_refl _))⟩
end
/-! ### zip of a text and a list of one length -/
def Itzs (K : PySem.W.Frag) (x : Str) (b : Addr) : It :=
  ⟨fun i H => ∃ (ys : List V), SqL K H b ys ∧ ys.length = x.cps.size ∧ i < x.cps.size,
    fun i H v H' => ∃ T c y, v = .ref T ∧ H T = none ∧ H' = upd H T (.tup [.str ⟨#[c]⟩, y]) ∧ x.cps[i]? = some c ∧ ∀ ys, SqL K H b ys → ys[i]? = some y,
    fun i H => ∃ ys : List V, SqL K H b ys ∧ ys.length = x.cps.size ∧ i = x.cps.size⟩
theorem turn_zips {P : Program} {w : World} {K : PySem.W.Frag} {elts : List Expr} {kk : Nat} {tpos : Pos} {x : Str} {t : Tok} {b N : Addr} (hb : b < N) :
    Turn P w K (.Tuple elts kk tpos) (Itzs K x b) [N + 4, N + 2, N + 3, N, N + 1] (N + 4) (fun i h => IsZip h (N + 4) (N + 2) (N + 3) .none ∧ IsTupOf2 h (N + 2) (.ref N) (.ref (N + 1)) ∧ (∃ a1 a2, IsTupOf2 h (N + 3) a1 a2) ∧ h.IsStrIter N (strIterType x) x t i ∧ h.IsListIter (N + 1) b i) where
  mem := by simp
  obj := fun i h st c hc => by
    obtain ⟨hz, hTI, ⟨x, y, hTO⟩, ⟨o1, e1, _, d1⟩, ⟨o2, e2, _, d2⟩⟩ := st
    have e' : c = N + 4 ∨ c = N + 2 ∨ c = N + 3 ∨ c = N ∨ c = N + 1 := by simpa using hc
    rcases e' with q | q | q | q | q
    · rw [q]; exact ⟨_, hz, fun v q => nomatch q⟩
    · rw [q]; exact ⟨_, hTI, fun v q => nomatch q⟩
    · rw [q]; exact ⟨_, hTO, fun v q => nomatch q⟩
    · rw [q]; exact ⟨o1, e1, fun v q => by rw [d1] at q; cases q⟩
    · rw [q]; exact ⟨o2, e2, fun v q => by rw [d2] at q; cases q⟩
  keep := fun i h h' st k => by
    obtain ⟨hz, hTI, ⟨x, y, hTO⟩, ⟨o1, e1, r1⟩, h2⟩ := st
    exact ⟨k _ (by simp) _ hz, k _ (by simp) _ hTI, ⟨x, y, k _ (by simp) _ hTO⟩, ⟨o1, k _ (by simp) _ e1, r1⟩, h2.at fun o q => k _ (by simp) o q⟩
  item := by
    intro X hP hw hK hc i pins s σ H E I hf st hg
    subst hP hw hK
    obtain ⟨hz, hTI, hTO, h1, h2⟩ := st
    obtain ⟨ys, hqy, hl, hi⟩ := hg
    obtain ⟨its, rv, p, _⟩ := I.list hqy
    have lv := rv.length
    have S := zip_sep2 (N := N) (fp1 := []) (fp2 := [b]) (fun _ h => nomatch h) (fun c h => by rw [List.mem_singleton.mp h]; exact hb)
    have D1 := Draws.text (prog := X.prog) (w := X.w) (A := X.A.in1) (I.ok.hd hc) N x t
    have D2 := Draws.list (prog := X.prog) (w := X.w) (A := X.A.in1) (I.ok.hd hc) (N + 1) b (Nat.ne_of_lt (Nat.lt_succ_of_lt hb)) its.toArray
    have G := GoesN.zip2 (elts := elts) (x1 := kk) (pos := tpos) S D1 D2
    have hmin : i < min x.cps.size its.toArray.size := by
      have : its.toArray.size = its.length := by simp
      omega
    refine wpAny_mono (G.goes i s (fun u s2 => ∃ v H', Inv X pins σ H' s2 ∧ RelV v u ∧ (Itzs X.K x b).yld i H v H' ∧ (IsZip s2.heap (N + 4) (N + 2) (N + 3) .none ∧ IsTupOf2 s2.heap (N + 2) (.ref N) (.ref (N + 1)) ∧ (∃ a1 a2, IsTupOf2 s2.heap (N + 3) a1 a2) ∧ s2.heap.IsStrIter N (strIterType x) x t (i + 1) ∧ s2.heap.IsListIter (N + 1) b (i + 1)) ∧ ∀ c ∈ [N + 4, N + 2, N + 3, N, N + 1], H' c = none) E hmin ⟨hz, hTI, hTO, h1, h2, p.isList⟩ fun v h' tk hY st' hk htk => ?_) (fun r s1 hr => ?_) fun _ _ e => e
    · obtain ⟨T, u1, u2, rfl, hTn, ⟨c, tu, hcx, rfl⟩, hu2, hT⟩ := hY
      obtain ⟨hz', hTI', hTO', h1', h2', _⟩ := st'
      obtain ⟨y, hy⟩ : ∃ y, ys[i]? = some y := ⟨ys[i], List.getElem?_eq_getElem (by omega)⟩
      obtain ⟨u3, hu3, ru⟩ := rv.get hy
      have eu : u3 = u2 := by
        have q : its[i]? = some u2 := by simpa using hu2
        rw [hu3] at q
        exact Option.some.inj q
      subst eu
      have new : ObjOk X.prog X.w (upd H T (.tup [.str ⟨#[c]⟩, y])) h' T (.tup [.str ⟨#[c]⟩, y]) :=
        ⟨by show 2 ≤ sizeLine; decide, [.str ⟨#[c]⟩ tu, u3], .cons ⟨tu, rfl⟩ (.cons ru .nil), hT⟩
      have I1 : Inv X pins σ (upd H T (.tup [.str ⟨#[c]⟩, y])) { s with heap := h', toks := tk } :=
        I.turnedNew (t' := tk) (ch := [N + 4, N + 2, N + 3, N, N + 1]) (fun d o hd q => hk d o (fun z => hd (by
          simp only [List.mem_cons, List.not_mem_nil, or_false] at z ⊢
          rcases z with z | z | z | z
          · exact .inl z
          · exact .inr (.inr (.inl z))
          · exact .inr (.inr (.inr (.inl z)))
          · exact .inr (.inr (.inr (.inr z))))) q) hf hTn new
      refine ⟨.ref T, _, I1, rfl, ⟨T, c, y, rfl, I.hok.fresh hTn, rfl, hcx, fun l hl2 => by rw [I.list_inj hl2 hqy]; exact hy⟩, ⟨hz', hTI', hTO', h1', h2'⟩, fun d hd => ?_⟩
      have hne : d ≠ T := by
        intro e
        subst e
        obtain ⟨o, ho, _⟩ : ∃ o, s.heap.get? d = some o ∧ True := by
          have e' : d = N + 4 ∨ d = N + 2 ∨ d = N + 3 ∨ d = N ∨ d = N + 1 := by simpa using hd
          rcases e' with q | q | q | q | q
          · rw [q]; exact ⟨_, hz, trivial⟩
          · rw [q]; exact ⟨_, hTI, trivial⟩
          · rw [q]; obtain ⟨_, _, z⟩ := hTO; exact ⟨_, z, trivial⟩
          · rw [q]; obtain ⟨_, z, _⟩ := h1; exact ⟨_, z, trivial⟩
          · rw [q]; obtain ⟨_, z, _⟩ := h2; exact ⟨_, z, trivial⟩
        exact absurd (Heap.lt_size ho) (Nat.not_lt.mpr hTn)
      rw [upd_ne hne]
      exact (hf d hd).1
    · exact hr
  done := by
    intro X hP hw hK hc i pins s σ H E I hf st hg
    subst hP hw hK
    obtain ⟨hz, hTI, hTO, h1, h2⟩ := st
    obtain ⟨ys, hqy, hl, hi⟩ := hg
    obtain ⟨its, rv, p, _⟩ := I.list hqy
    have lv := rv.length
    have S := zip_sep2 (N := N) (fp1 := []) (fp2 := [b]) (fun _ h => nomatch h) (fun c h => by rw [List.mem_singleton.mp h]; exact hb)
    have D1 := Draws.text (prog := X.prog) (w := X.w) (A := X.A.in1) (I.ok.hd hc) N x t
    have D2 := Draws.list (prog := X.prog) (w := X.w) (A := X.A.in1) (I.ok.hd hc) (N + 1) b (Nat.ne_of_lt (Nat.lt_succ_of_lt hb)) its.toArray
    have G := GoesN.zip2 (elts := elts) (x1 := kk) (pos := tpos) S D1 D2
    have hmin : i = min x.cps.size its.toArray.size := by
      have : its.toArray.size = its.length := by simp
      omega
    subst hmin
    refine G.stops s (fun s1 => Inv X pins σ H s1) E ⟨hz, hTI, hTO, h1, h2, p.isList⟩ fun h' tk hk htk => ?_
    exact I.turnedL (t' := tk) (ch := [N + 4, N + 2, N + 3, N, N + 1]) (fun d o hd q => hk d o (fun z => hd (by
      simp only [List.mem_cons, List.not_mem_nil, or_false] at z ⊢
      rcases z with z | z | z | z
      · exact .inl z
      · exact .inr (.inr (.inl z))
      · exact .inr (.inr (.inr (.inl z)))
      · exact .inr (.inr (.inr (.inr z))))) q) hf
  self := fun A i s Q E st h => wpAny_pyIter_zip st.1 h
def iZips (K : PySem.W.Frag) (ta : TA) : TI := fun σ H R => ta σ H fun vs H1 => ∃ x b ys, vs = [.str x, .ref b] ∧ SqL K H1 b ys ∧ R (Itzs K x b) H1
theorem pi_zips {X : Cx} {e e2 : Expr} {ta : TA} {p pos tpos : Pos} {elts : List Expr} {kk : Nat} (hg : Gl X "zip") (hm : X.mg "zip" = none) (ha : PA X [e, e2] ta)
    (hs : starEach [e, e2] X.env = (false, eval e X.env) :: starEach [e2] X.env := by rfl) (hpl : (backTo pos (starEach [e2] X.env)).any (·.1) = false := by rfl) :
    PI X (.Tuple elts kk tpos) (.Call (.Name "zip" p) [e, e2] [] pos) (iZips X.K ta) := by
  refine ⟨fun pins s σ H R I h => ?_⟩
  refine Call_ (ld_blt I hg hm PyProof.Rows.boot_zip (PyProof.Rows.callWith_type1 (thn (ha.run pos pins s σ H _ I h) fun us s1 ⟨vs, H1, I1, r1, q1⟩ => ?_) hs hpl))
  obtain ⟨x, b, ys, ex, hqy, q⟩ := q1
  subst ex
  cases r1 with
  | cons r rr =>
    cases rr with
    | cons r' rr =>
      cases rr
      obtain ⟨t, rfl⟩ := r
      cases r'
      obtain ⟨its, rv, p1, _⟩ := I1.list hqy
      have fresh5 : ∀ c, c ∈ [s1.heap.objs.size + 4, s1.heap.objs.size + 2, s1.heap.objs.size + 3, s1.heap.objs.size, s1.heap.objs.size + 1] → FpOk X pins H1 c := fun c hcm => by
        have e' : c = s1.heap.objs.size + 4 ∨ c = s1.heap.objs.size + 2 ∨ c = s1.heap.objs.size + 3 ∨ c = s1.heap.objs.size ∨ c = s1.heap.objs.size + 1 := by simpa using hcm
        have hle : s1.heap.objs.size ≤ c := by
          rcases e' with z | z | z | z | z
          · rw [z]; exact Nat.le_add_right _ _
          · rw [z]; exact Nat.le_add_right _ _
          · rw [z]; exact Nat.le_add_right _ _
          · rw [z]; exact Nat.le_refl _
          · rw [z]; exact Nat.le_add_right _ _
        exact I1.fpOk hle (I1.hok.fresh hle)
      refine zip_begins2 (begins_text x t) (begins_list b its.toArray) trivial p1.isList fun h' hz hTI hTO g1 g2 hsz hk => wpAny_pyIter_zip hz ?_
      have I2 : Inv X pins σ H1 { s1 with heap := h' } := I1.kept (t' := s1.toks) hk
      exact ⟨s1.heap.objs.size + 4, [s1.heap.objs.size + 4, s1.heap.objs.size + 2, s1.heap.objs.size + 3, s1.heap.objs.size, s1.heap.objs.size + 1], _, _, H1, rfl, I2, turn_zips (t := t) p1.lt, ⟨hz, hTI, ⟨_, _, hTO⟩, ⟨_, g1, rfl, rfl⟩, ⟨_, g2, rfl, rfl⟩⟩, fresh5, q⟩
end K72
end
section
set_option Elab.async false
set_option linter.all false
set_option maxRecDepth 100000
set_option maxHeartbeats 4000000
/-! The words of this proof: texts and dicts of parties, defs as they stand, loops and comprehensions that leave what stood. -/
namespace K72
open PySem PySem.Spec PyProof.Rows L2
/-! ### texts -/
def tx (l : List Nat) : Str := ⟨l.toArray⟩
abbrev sg (a : Nat) : Str := tx [a]
abbrev pr (a b : Nat) : Str := tx [a, b]
theorem tx_cps (l : List Nat) : (tx l).cps.toList = l := by simp [tx]
theorem tx_size (l : List Nat) : (tx l).cps.size = l.length := by simp [tx]
theorem tx_len (l : List Nat) : (tx l).length = l.length := by
  show (tx l).cps.size = l.length
  exact tx_size l
theorem tx_app (a b : List Nat) : tx a ++ tx b = tx (a ++ b) := by
  show Str.mk (a.toArray ++ b.toArray) = Str.mk (a ++ b).toArray
  rw [List.append_toArray]
theorem tx_inj {a b : List Nat} (h : tx a = tx b) : a = b := by
  have e := congrArg (fun z : Str => z.cps.toList) h
  simpa [tx] using e
theorem tx_get {l : List Nat} {i : Nat} : (tx l).cps[i]? = l[i]? := by simp [tx]
theorem txV {a b : List Nat} : (V.str (tx a) = V.str (tx b)) ↔ a = b := ⟨fun h => tx_inj (V.str.inj h), fun h => by rw [h]⟩
theorem sgV {a b : Nat} : (V.str (sg a) = V.str (sg b)) ↔ a = b := ⟨fun h => by simpa using txV.mp h, fun h => by rw [h]⟩
theorem parties_tx : ("abcdef" : Str) = tx [97, 98, 99, 100, 101, 102] := by decide +kernel
def abc : List Nat := [97, 98, 99, 100, 101, 102]
theorem tx_small {l : List Nat} (h : l.length ≤ 1000) : (tx l).length ≤ sizeLine := by
  rw [tx_len]
  exact Nat.le_of_lt (small1000 h)
/-! ### dicts -/
def PD (P : List Nat) (f : Nat → V) : List (Key × V) := P.map fun p => (Sum.inr (sg p), f p)
def DD (D : List ((Nat × Nat) × Int)) : List (Key × V) := D.map fun x => (Sum.inr (pr x.1.1 x.1.2), V.int x.2)
theorem PD_len (P : List Nat) (f : Nat → V) : (PD P f).length = P.length := by simp [PD]
theorem DD_len (D : List ((Nat × Nat) × Int)) : (DD D).length = D.length := by simp [DD]
theorem PD_get {P : List Nat} {f : Nat → V} {i : Nat} {k : Key} {v : V} (h : (PD P f)[i]? = some (k, v)) : ∃ p, P[i]? = some p ∧ k = Sum.inr (sg p) ∧ v = f p := by
  unfold PD at h
  rw [List.getElem?_map] at h
  cases e : P[i]? with
  | none =>
    rw [e] at h
    cases h
  | some p =>
    rw [e] at h
    have q := Option.some.inj h
    injection q with q1 q2
    exact ⟨p, rfl, q1.symm, q2.symm⟩
theorem DD_get {D : List ((Nat × Nat) × Int)} {i : Nat} {k : Key} {v : V} (h : (DD D)[i]? = some (k, v)) : ∃ x, D[i]? = some x ∧ k = Sum.inr (pr x.1.1 x.1.2) ∧ v = V.int x.2 := by
  unfold DD at h
  rw [List.getElem?_map] at h
  cases e : D[i]? with
  | none =>
    rw [e] at h
    cases h
  | some p =>
    rw [e] at h
    have q := Option.some.inj h
    injection q with q1 q2
    exact ⟨p, rfl, q1.symm, q2.symm⟩
theorem keyS {a b : List Nat} : ((Sum.inr (tx a) : Key) = Sum.inr (tx b)) ↔ a = b := ⟨fun h => tx_inj (Sum.inr.inj h), fun h => by rw [h]⟩
theorem keyP {a b : Nat} : ((Sum.inr (sg a) : Key) = Sum.inr (sg b)) ↔ a = b := ⟨fun h => by simpa using keyS.mp h, fun h => by rw [h]⟩
theorem PD_val (P : List Nat) (f : Nat → V) (p : Nat) : valV (PD P f) (Sum.inr (sg p)) = if p ∈ P then some (f p) else none := by
  induction P with
  | nil => rfl
  | cons a P ih =>
    show valV ((Sum.inr (sg a), f a) :: PD P f) _ = _
    by_cases e : a = p
    · subst e
      rw [valV_pos rfl, if_pos List.mem_cons_self]
    · rw [valV_neg (fun z => e (keyP.mp z)), ih]
      by_cases h : p ∈ P
      · rw [if_pos h, if_pos (List.mem_cons_of_mem _ h)]
      · rw [if_neg h, if_neg (fun z => (List.mem_cons.mp z).elim (fun y => e y.symm) h)]
theorem PD_in {P : List Nat} {f : Nat → V} {p : Nat} (h : p ∈ P) : valV (PD P f) (Sum.inr (sg p)) = some (f p) := by
  rw [PD_val, if_pos h]
theorem PD_out {P : List Nat} {f : Nat → V} {p : Nat} (h : p ∉ P) : valV (PD P f) (Sum.inr (sg p)) = none := by
  rw [PD_val, if_neg h]
theorem PD_some (P : List Nat) (f : Nat → V) (p : Nat) : (valV (PD P f) (Sum.inr (sg p))).isSome = decide (p ∈ P) := by
  rw [PD_val]
  by_cases h : p ∈ P <;> simp [h]
theorem PD_congr {P : List Nat} {f g : Nat → V} (h : ∀ p ∈ P, f p = g p) : PD P f = PD P g := List.map_congr_left fun p hp => by rw [h p hp]
theorem PD_put_in {P : List Nat} {f : Nat → V} {p : Nat} (h : p ∈ P) (v : V) : putK (PD P f) (Sum.inr (sg p)) v = PD P (fun q => if q = p then v else f q) := by
  unfold putK
  rw [valV_any, PD_some, decide_eq_true h, if_pos rfl]
  unfold PD
  rw [List.map_map]
  refine List.map_congr_left fun q _ => ?_
  show (if (Sum.inr (sg q) : Key) = Sum.inr (sg p) then (Sum.inr (sg q), v) else (Sum.inr (sg q), f q)) = ((Sum.inr (sg q), if q = p then v else f q) : Key × V)
  by_cases e : q = p
  · rw [if_pos (keyP.mpr e), if_pos e]
  · rw [if_neg (fun z => e (keyP.mp z)), if_neg e]
theorem PD_put_new {P : List Nat} {f : Nat → V} {p : Nat} (h : p ∉ P) (v : V) : putK (PD P f) (Sum.inr (sg p)) v = PD (P ++ [p]) (fun q => if q = p then v else f q) := by
  rw [putK_new v (PD_out h)]
  unfold PD
  rw [List.map_append]
  congr 1
  · refine List.map_congr_left fun q hq => ?_
    have e : ¬ q = p := fun e => h (by rw [← e]; exact hq)
    show _ = ((Sum.inr (sg q), if q = p then v else f q) : Key × V)
    rw [if_neg e]
  · show [(Sum.inr (sg p), v)] = [(Sum.inr (sg p), if p = p then v else f p)]
    rw [if_pos rfl]
/-! ### defs as they stand -/
structure Txt (K : PySem.W.Frag) (mg : Str → Option Value) : Prop where
  len : mg "len" = none
  list : mg "list" = none
  sorted : mg "sorted" = none
  any : mg "any" = none
  sum : mg "sum" = none
  abs : mg "abs" = none
  int : mg "int" = none
  range : mg "range" = none
  zip : mg "zip" = none
  enumerate : mg "enumerate" = none
  tuple : mg "tuple" = none
  dict : mg "dict" = none
  isinstance : mg "isinstance" = none
  str : mg "str" = none
  bool : mg "bool" = none
  parties : ∃ t, mg "PARTIES" = some (.str "abcdef" t)
structure Here (K : PySem.W.Frag) (mg : Str → Option Value) (x : Str) (st : Stmt) : Prop where
  ex : ∃ f fd, mg x = some (.ref f) ∧ FunD K x x (defArgs st) (defBody st) (defScope st) [] [] f fd
structure Fn (P : Program) (w : World) (K : PySem.W.Frag) (mg : Str → Option Value) (base : Heap) (k : Nat) (x : Str) (ps : List Str) (sp : Sp) : Prop where
  ex : ∃ f fd, mg x = some (.ref f) ∧ PySem.W.keepIn K (.ref f) = true ∧ Binds K fd ps [] ∧ FnOk P w K mg base CX0 k f fd ps sp
section
variable {P : Program} {w : World} {K : PySem.W.Frag} {mg : Str → Option Value} {base : Heap}
theorem Here.fn {x : Str} {st : Stmt} {N ps : List Str} {k : Nat} {sp : Sp} (F : Here K mg x st) (S : FnScope N ps (defScope st))
    (hb : ∀ (kV doc pm : Value) (an : Option Addr) (cdv ct : Value) (us : List Value), us.length = ps.length → bindArgs (PySem.W.fnOf x x (defArgs st) (defBody st) (defScope st) .none kV doc pm an cdv ct) ⟨us, []⟩ = pure (ps.zip us))
    (len : ∀ vs H Q E, sp vs H Q E → vs.length = ps.length)
    (hbody : ∀ (f : Addr) (cdv : Value) (A : Around) (outer : List Env) (s : Shared) (H : Hp) (vs : List V) (Q : VK) (E : XK), Room k (A.deeper (envOfC x (defScope st) s.heap.objs.size f cdv)) → sp vs H Q E →
      ∃ t, PSs (cxOf CX0 P w K mg base N x (defScope st) f cdv A outer s H E).nox (defBody st) t ∧ t { nx := fun _ H' => Q .non H', rt := Q } (start N vs) H) : Fn P w K mg base (k + 1) x ps sp := by
  obtain ⟨f, fd, g, D⟩ := F.ex
  refine ⟨f, fd, g, D.kp, D.bindsN hb, D.ok S len fun cdv A outer s H vs Q E hr h => ?_⟩
  obtain ⟨t, h1, h2⟩ := hbody f cdv A outer s H vs Q E hr h
  exact ⟨t, h1.nox, h2⟩
end
theorem pe_fn {X : Cx} {k : Nat} {x : Str} {ps : List Str} {sp : Sp} {e : Expr} {es : List Expr} {ta : TA} {p pos : Pos} (F : Fn X.prog X.w X.K X.mg X.base k x ps sp) (hr : Room k X.A) (hg : Gl X x) (ha : PA X (e :: es) ta)
    (hs : starEach (e :: es) X.env = (false, eval e X.env) :: starEach es X.env := by rfl) (hpl : (backTo pos (starEach es X.env)).any (·.1) = false := by rfl) (hd : (x == ("__debug__" : Str)) = false := by decide) :
    PE X (.Call (.Name x p) (e :: es) [] pos) (tCall sp [] E0 ta) := by
  obtain ⟨f, fd, g, kp, b, G⟩ := F.ex
  exact pe_call G hr hg g kp b .nil pass0 ha hd hs hpl
/-! ### y = {..} on one line -/
section
variable {X : Cx}
theorem ps_setDc {i : Nat} {y : Str} {py : Pos} {kx vx tg iter : Expr} {ifs : List Expr} {scope : Scope} {own : List (Str × Nat)} {pos spos : Pos} {wi : TI} {g : TG} {tt : TT} {tk tv : TE} (hc : X.calm = true) (hN : X.N.Nodup) (hy : X.N[i]? = some y) (hyl : X.env.scope.names.lookup y = some .local)
    (hsw : swapsWith (.DictComp kx vx [⟨tg, iter, ifs, 0⟩] scope pos) (some (.Name y py)) spos.line X.env = pure true) (hi : PI X tg iter wi) (ok : BlkOk X.N X.env.scope scope own)
    (hg : ∀ (s : Shared) (H : Hp) (C : Addr) (cl : List (Str × Addr)) (fp : List Addr), PG (X.blk s H scope (compEnvC scope cl C X.env) fp) tg g) (ht : ∀ (s : Shared) (H : Hp) (C : Addr) (cl : List (Str × Addr)) (fp : List Addr), PTs (X.blk s H scope (compEnvC scope cl C X.env) fp) ifs tt)
    (hk : ∀ (s : Shared) (H : Hp) (C : Addr) (cl : List (Str × Addr)) (fp : List Addr), PE (X.blk s H scope (compEnvC scope cl C X.env) fp) kx tk)
    (he : ∀ (s : Shared) (H : Hp) (C : Addr) (cl : List (Str × Addr)) (fp : List Addr), PE (X.blk s H scope (compEnvC scope cl C X.env) fp) vx tv) (hs : ∀ x, foldedSetIterable iter X.env x = pure x := by intro _; rfl) :
    PS X (.Assign [.Name y py] (.DictComp kx vx [⟨tg, iter, ifs, 0⟩] scope pos) spos) (tAsg (tDc wi g tt tk tv (own.map (·.2))) (gName i)) := by
  refine ⟨fun pins s σ H D I h => ?_⟩
  rw [exec_Assign_Name_used _ _ _ _ hsw]
  refine wpAny_bind (wpAny_standAt (wpAny_bind ?_))
  show wpAny _ X.A (do let _ ← comprehension (.DictComp kx vx [⟨tg, iter, ifs, 0⟩] scope pos) scope X.env (firstIterPos [⟨tg, iter, ifs, 0⟩] pos) newDict false (eval iter X.env) (some (assign (.Name y py) X.env))) _ _ s
  have h : tDc wi g tt tk tv (own.map (·.2)) σ H (fun x H1 => gName i x σ H1 D.nx) := h
  refine wpAny_bind (thn (dc_core (Qf := fun _ s' => SP X pins D .next s') hc hN I hi ok hg ht hk he hs h fun L C s' m H' I' q hn f => ?_) fun _ s' hq => wpAny_pure (wpAny_pure hq))
  show wpAny _ _ (assign (.Name y py) X.env (.ref L)) _ _ _
  refine wpAny_assign_Name (store_ok2 (v := V.ref L) I' hN hy (.inl hyl) rfl (fun s2 I2 ⟨a, sb, ha⟩ => ?_) (.inr hyl))
  obtain ⟨f0, f1, f2, f3, f4, f5⟩ := f
  have haC : C ≠ a := by
    rcases ha with z | z
    · rw [z]; exact f1
    · exact fun e => f4 y a z e.symm
  refine ⟨m, hn.sameBut sb haC, fun h3 sb3 => ?_⟩
  exact ⟨_, H', I2.turned (t' := s2.toks) (fun b o hb e => (sb3.2 b hb).trans e) f0 f1 f3 f4 f5, q⟩
theorem sw_trueD {kx vx : Expr} {gs : List Comprehension} {scope : Scope} {pos py : Pos} {y : Str} {l : Nat} {env : Env} (hk : env.scope.kind = .function) (hy : env.scope.names.lookup y = some .local) (hl : (py.line == pos.line) = true)
    (ha : (scope.names.any fun (n, k) => n == y && (k == .local || k == .cell)) = false) : swapsWith (.DictComp kx vx gs scope pos) (some (.Name y py)) l env = pure true := by
  have ky : env.kindOf y = some .local := hy
  have hb : env.blockKind = .function := by unfold Env.blockKind; rw [hk]; rfl
  unfold swapsWith
  simp only [hb, ky, ha, Expr.pos, hl]
  rfl
end
theorem ix_listK {X : Cx} {K : PySem.W.Frag} (h : X.K = K) : IxR X (rIxL K) := by
  subst h
  exact ix_list
theorem pg_tupK {X : Cx} {K : PySem.W.Frag} {es : List Expr} {k : Nat} {pos : Pos} {t : TGs} {n : Nat} (hK : X.K = K) (hc : X.calm = true) (h : PGs X es t)
    (hn : (assignEach es X.env).length = n := by rfl) (hst : (assignEach es X.env).findIdx? (·.1) = none := by rfl) : PG X (.Tuple es k pos) (gTup K n t) := by
  subst hK
  exact pg_tup hc h hn hst
/-! ### heaps -/
theorem same_new {H : Hp} {p : Addr} {o : HO} (h : H p = none) : Same H (upd H p o) := fun b x e => by
  rw [upd_ne (ne_of_none e h)]
  exact e
theorem same_mut {H H' : Hp} {p : Addr} {o : HO} (e : Same H H') (h : H p = none) : Same H (upd H' p o) := fun a u ha => by
  rw [upd_ne (ne_of_none ha h)]
  exact e a u ha
theorem upd_self {H : Hp} {d : Addr} {u : HO} (h : H d = some u) : upd H d u = H := by
  funext b
  unfold upd
  by_cases e : b = d
  · rw [if_pos e, e, h]
  · rw [if_neg e]
theorem upd_back {H : Hp} {d : Addr} {o u : HO} (h : H d = some u) : upd (upd H d o) d u = H := by rw [upd_upd, upd_self h]
/-- out of a lock -/
theorem unlock {H HL : Hp} {d : Addr} {o u : HO} (h : H d = some u) (e : Same (upd H d o) HL) : Same H (upd HL d u) := fun a x ha => by
  by_cases q : a = d
  · subst q
    rw [upd_same, ← ha, h]
  · rw [upd_ne q]
    exact e a x (by rw [upd_ne q]; exact ha)
theorem in_lock {H : Hp} {d a : Addr} {o x : HO} (h : H a = some x) (ne : a ≠ d) : (upd H d o) a = some x := by
  rw [upd_ne ne]
  exact h
theorem rd_lock {H : Hp} {d : Addr} {ob : Obj} {u : HO} : Rd (upd H d (.frz ob u)) d u := .inr ⟨ob, upd_same⟩
/-! ### for over the keys of a dict -/
theorem for_keys {td : TE} {g : TG} {tb : TS} {D : Ends} {σ : L2.St} {H : Hp} {d : Addr} {kvs : List (Key × V)} (ht : ∀ H Q, Q (.ref d) H → td σ H Q) (hd : H d = some (.dK kvs)) (Pv : Nat → L2.St → Hp → Prop) (h0 : Pv 0 σ H)
    (hG : ∀ m σ' Hu, Pv m σ' Hu → Hu d = some (.dK kvs))
    (hs : ∀ m k v ob σ' Hu, kvs[m]? = some (k, v) → Pv m σ' Hu → g (kV k) σ' (upd Hu d (.frz ob (.dK kvs))) fun σ2 H2 => tb ⟨fun s1 H1 => H1 d = some (.frz ob (.dK kvs)) ∧ Pv (m + 1) s1 (upd H1 d (.dK kvs)), fun v H1 => H1 d = some (.frz ob (.dK kvs)) ∧ D.rt v (upd H1 d (.dK kvs)),
      fun s1 H1 => H1 d = some (.frz ob (.dK kvs)) ∧ D.nx s1 (upd H1 d (.dK kvs)), fun s1 H1 => H1 d = some (.frz ob (.dK kvs)) ∧ Pv (m + 1) s1 (upd H1 d (.dK kvs))⟩ σ2 H2)
    (hn : ∀ σ' Hu, Pv kvs.length σ' Hu → D.nx σ' Hu) : tLock (tFor (iKeys td) g tb) D σ H := by
  refine ⟨d, .dK kvs, hd, trivial, fun ob => ?_⟩
  refine ht _ _ ⟨d, ob, rfl, .inl ⟨kvs, upd_same, for_it (walk_keys (d := d) (o := ob) (kvs := kvs)) (fun m s1 H1 => H1 d = some (.frz ob (.dK kvs)) ∧ Pv m s1 (upd H1 d (.dK kvs))) ⟨upd_same, ?_⟩ (fun _ _ _ _ h => h.1) ?_ ?_⟩⟩
  · rw [upd_back hd]
    exact h0
  · rintro m x s1 H1 H2 hm ⟨h1, h2⟩ ⟨rfl, k, v, hk, rfl⟩
    have e : upd (upd H2 d (.dK kvs)) d (.frz ob (.dK kvs)) = H2 := by rw [upd_upd, upd_self h1]
    have q := hs m k v ob s1 _ hk h2
    rw [e] at q
    exact q
  · rintro s1 H1 ⟨h1, h2⟩
    exact ⟨h1, hn s1 _ h2⟩
/-! ### comprehensions that leave what stood -/
section
variable {J : It} {G : Hp → Prop} {Y : Nat → Hp → V → Hp → Prop} {α : Type} {g : TG} {tt : TT} {te tk tv : TE} {vs : List Nat} {σ : L2.St} {H1 : Hp} {D : Addr} {Qd : Hp → Prop}
theorem take_filter_succ {l : List α} {i : Nat} {a : α} (h : l[i]? = some a) (p : α → Bool) : (l.take (i + 1)).filter p = (l.take i).filter p ++ if p a = true then [a] else [] := by
  rw [List.take_add_one, h, List.filter_append]
  congr 1
  show List.filter p [a] = _
  by_cases e : p a = true <;> simp [e]
theorem lc_l (l : List α) (p : α → Bool) (q : α → V) (w : Walk J l.length G Y) (hz : l.length ≤ 1000) (hD : H1 D = none) (hG : ∀ H, Same H1 H → G H)
    (hs : ∀ (i : Nat) (a : α) (x : V) (H H' : Hp), l[i]? = some a → Same H1 H → Y i H x H' → ∀ (A : V → Hp → Prop) (B : Hp → Prop), (p a = true → ∀ H4, Same H H4 → A (q a) H4) → (p a = false → ∀ H4, Same H H4 → B H4) →
      g x (wipe σ vs) H' fun σ2 H2 => wipe σ2 vs = wipe σ vs ∧ tt σ2 H2 fun b H3 => if b = true then te σ2 H3 A else B H3)
    (hd : ∀ H, Same H1 H → H D = some (.lst ((l.filter p).map q)) → Qd H) :
    ∃ W : Nat → Nat → Hp → Prop, (∃ m, W 0 m (upd H1 D (.lst []))) ∧ ∀ i m H, W i m H →
      (J.stop i H ∧ Qd H) ∨ (J.go i H ∧ ∃ Nx : Hp → Prop, (∀ H', Nx H' → ∃ m', m' < m ∧ W (i + 1) m' H') ∧ ∀ x H', J.yld i H x H' → g x (wipe σ vs) H' fun σ2 H2 => wipe σ2 vs = wipe σ vs ∧ tt σ2 H2 fun b H3 =>
        if b = true then te σ2 H3 fun y H4 => ∃ acc, H4 D = some (.lst acc) ∧ acc.length < sizeLine ∧ Nx (upd H4 D (.lst (acc ++ [y]))) else Nx H3) := by
  refine lc_it w (fun i H => Same H1 H ∧ H D = some (.lst (((l.take i).filter p).map q))) ⟨same_new hD, upd_same⟩ (fun i H _ h => hG H h.1) (fun i x H H' hi h y => ?_) fun H h => ?_
  · obtain ⟨a, ha⟩ : ∃ a, l[i]? = some a := ⟨l[i], List.getElem?_eq_getElem hi⟩
    refine hs i a x H H' ha h.1 y _ _ (fun hp H4 s4 => ?_) fun hp H4 s4 => ?_
    · refine ⟨_, s4 _ _ h.2, ?_, same_mut (h.1.trans s4) hD, ?_⟩
      · rw [List.length_map]
        have z := List.length_filter_le p (l.take i)
        rw [List.length_take] at z
        exact small1000 (by omega)
      · rw [upd_same, take_filter_succ ha p, if_pos hp, List.map_append]
        rfl
    · refine ⟨h.1.trans s4, ?_⟩
      rw [take_filter_succ ha p, hp, s4 _ _ h.2]
      simp
  · have e := h.2
    rw [List.take_length] at e
    exact hd H h.1 e
/-- the items are objects -/
theorem lc_r (l : List α) (q : α → HO) (w : Walk J l.length G Y) (hz : l.length ≤ 1000) (hD : H1 D = none) (hG : ∀ H, Same H1 H → G H)
    (hs : ∀ (i : Nat) (a : α) (x : V) (H H' : Hp), l[i]? = some a → Same H1 H → Y i H x H' → ∀ (A : V → Hp → Prop) (B : Hp → Prop), (∀ r H4, Same H H4 → (H r = none ∨ ∃ o, H1 r = some o) → H4 r = some (q a) → A (.ref r) H4) →
      g x (wipe σ vs) H' fun σ2 H2 => wipe σ2 vs = wipe σ vs ∧ tt σ2 H2 fun b H3 => if b = true then te σ2 H3 A else B H3)
    (hd : ∀ (H : Hp) (as : List Addr), Same H1 H → as.length = l.length → (∀ (i : Nat) (a : α), l[i]? = some a → ∃ r : Addr, as[i]? = some r ∧ H r = some (q a)) → H D = some (.lst (as.map V.ref)) → Qd H) :
    ∃ W : Nat → Nat → Hp → Prop, (∃ m, W 0 m (upd H1 D (.lst []))) ∧ ∀ i m H, W i m H →
      (J.stop i H ∧ Qd H) ∨ (J.go i H ∧ ∃ Nx : Hp → Prop, (∀ H', Nx H' → ∃ m', m' < m ∧ W (i + 1) m' H') ∧ ∀ x H', J.yld i H x H' → g x (wipe σ vs) H' fun σ2 H2 => wipe σ2 vs = wipe σ vs ∧ tt σ2 H2 fun b H3 =>
        if b = true then te σ2 H3 fun y H4 => ∃ acc, H4 D = some (.lst acc) ∧ acc.length < sizeLine ∧ Nx (upd H4 D (.lst (acc ++ [y]))) else Nx H3) := by
  refine lc_it w (fun i H => Same H1 H ∧ ∃ as : List Addr, as.length = i ∧ i ≤ l.length ∧ (∀ (j : Nat) (a : α), j < i → l[j]? = some a → ∃ r : Addr, as[j]? = some r ∧ r ≠ D ∧ H r = some (q a)) ∧ H D = some (.lst (as.map V.ref))) ⟨same_new hD, [], rfl, Nat.zero_le _, fun j a hj => by omega, upd_same⟩ (fun i H _ h => hG H h.1) (fun i x H H' hi h y => ?_) fun H h => ?_
  · obtain ⟨s1, as, hl, hil, hr, hDl⟩ := h
    obtain ⟨a, ha⟩ : ∃ a, l[i]? = some a := ⟨l[i], List.getElem?_eq_getElem hi⟩
    refine hs i a x H H' ha s1 y _ _ fun r H4 s4 hr0 hr4 => ?_
    have rD : r ≠ D := by
      rcases hr0 with z | ⟨o, z⟩
      · exact (ne_of_none hDl z).symm
      · exact ne_of_none z hD
    refine ⟨_, s4 _ _ hDl, ?_, same_mut (s1.trans s4) hD, as ++ [r], by simp [hl], hi, fun j b hj hb => ?_, ?_⟩
    · rw [List.length_map]
      exact small1000 (by omega)
    · by_cases e : j = i
      · subst e
        rw [ha] at hb
        cases hb
        refine ⟨r, ?_, rD, ?_⟩
        · rw [← hl, List.getElem?_append_right (Nat.le_refl _)]
          simp
        · rw [upd_ne rD]
          exact hr4
      · obtain ⟨r', e1, e2, e3⟩ := hr j b (by omega) hb
        refine ⟨r', ?_, e2, ?_⟩
        · rw [List.getElem?_append_left (by omega)]
          exact e1
        · rw [upd_ne e2]
          exact s4 _ _ e3
    · rw [upd_same, List.map_append]
      rfl
  · obtain ⟨s1, as, hl, hil, hr, hDl⟩ := h
    exact hd H as s1 hl (fun i a ha => by
      obtain ⟨r, e1, _, e3⟩ := hr i a ((List.getElem?_eq_some_iff.mp ha).1) ha
      exact ⟨r, e1, e3⟩) hDl
/-- a dict comprehension over any walk -/
theorem dc_it {n : Nat} (w : Walk J n G Y) (Pv : Nat → Hp → Prop) (h0 : Pv 0 (upd H1 D (.dK []))) (hG : ∀ i H, i ≤ n → Pv i H → G H)
    (hs : ∀ i x H H', i < n → Pv i H → Y i H x H' → g x (wipe σ vs) H' fun σ2 H2 => wipe σ2 vs = wipe σ vs ∧ tt σ2 H2 fun b H3 =>
      if b = true then tk σ2 H3 fun y H4 => tv σ2 H4 fun z H5 => ∃ kvs k, y = kV k ∧ H5 D = some (.dK kvs) ∧ kvs.length < sizeLine ∧ Pv (i + 1) (upd H5 D (.dK (putK kvs k z))) else Pv (i + 1) H3) (hd : ∀ H, Pv n H → Qd H) :
    ∃ W : Nat → Nat → Hp → Prop, (∃ m, W 0 m (upd H1 D (.dK []))) ∧ ∀ i m H, W i m H →
      (J.stop i H ∧ Qd H) ∨ (J.go i H ∧ ∃ Nx : Hp → Prop, (∀ H', Nx H' → ∃ m', m' < m ∧ W (i + 1) m' H') ∧ ∀ x H', J.yld i H x H' → g x (wipe σ vs) H' fun σ2 H2 => wipe σ2 vs = wipe σ vs ∧ tt σ2 H2 fun b H3 =>
        if b = true then tk σ2 H3 fun y H4 => tv σ2 H4 fun z H5 => ∃ kvs k, y = kV k ∧ H5 D = some (.dK kvs) ∧ kvs.length < sizeLine ∧ Nx (upd H5 D (.dK (putK kvs k z))) else Nx H3) := by
  refine ⟨fun i m H => m = n - i ∧ i ≤ n ∧ Pv i H, ⟨n, by simp, Nat.zero_le _, h0⟩, ?_⟩
  rintro i m H ⟨rfl, hi, p⟩
  have q := hG i H hi p
  by_cases hlt : i < n
  · refine .inr ⟨w.goes i H hlt q, Pv (i + 1), fun H' p' => ⟨n - (i + 1), by omega, rfl, hlt, p'⟩, fun x H' y => hs i x H H' hlt p (w.yields i H x H' hlt q y)⟩
  · have e : i = n := by omega
    subst e
    exact .inl ⟨w.stops H q, hd H p⟩
/-- keys all apart, the values plain -/
theorem dc_l (l : List α) (p : α → Bool) (kf : α → Key) (q : α → V) (w : Walk J l.length G Y) (hz : l.length ≤ 1000) (hD : H1 D = none) (hG : ∀ H, Same H1 H → G H) (nd : (l.map kf).Nodup)
    (hs : ∀ (i : Nat) (a : α) (x : V) (H H' : Hp), l[i]? = some a → Same H1 H → Y i H x H' → ∀ (A : V → V → Hp → Prop) (B : Hp → Prop), (p a = true → ∀ H4, Same H H4 → A (kV (kf a)) (q a) H4) → (p a = false → ∀ H4, Same H H4 → B H4) →
      g x (wipe σ vs) H' fun σ2 H2 => wipe σ2 vs = wipe σ vs ∧ tt σ2 H2 fun b H3 => if b = true then tk σ2 H3 fun y H4 => tv σ2 H4 fun z H5 => A y z H5 else B H3)
    (hd : ∀ H, Same H1 H → H D = some (.dK ((l.filter p).map fun a => (kf a, q a))) → Qd H) :
    ∃ W : Nat → Nat → Hp → Prop, (∃ m, W 0 m (upd H1 D (.dK []))) ∧ ∀ i m H, W i m H →
      (J.stop i H ∧ Qd H) ∨ (J.go i H ∧ ∃ Nx : Hp → Prop, (∀ H', Nx H' → ∃ m', m' < m ∧ W (i + 1) m' H') ∧ ∀ x H', J.yld i H x H' → g x (wipe σ vs) H' fun σ2 H2 => wipe σ2 vs = wipe σ vs ∧ tt σ2 H2 fun b H3 =>
        if b = true then tk σ2 H3 fun y H4 => tv σ2 H4 fun z H5 => ∃ kvs k, y = kV k ∧ H5 D = some (.dK kvs) ∧ kvs.length < sizeLine ∧ Nx (upd H5 D (.dK (putK kvs k z))) else Nx H3) := by
  refine dc_it w (fun i H => Same H1 H ∧ H D = some (.dK (((l.take i).filter p).map fun a => (kf a, q a)))) ⟨same_new hD, upd_same⟩ (fun i H _ h => hG H h.1) (fun i x H H' hi h y => ?_) fun H h => ?_
  · obtain ⟨a, ha⟩ : ∃ a, l[i]? = some a := ⟨l[i], List.getElem?_eq_getElem hi⟩
    refine hs i a x H H' ha h.1 y _ _ (fun hp H4 s4 => ?_) fun hp H4 s4 => ?_
    · refine ⟨_, kf a, rfl, s4 _ _ h.2, ?_, same_mut (h.1.trans s4) hD, ?_⟩
      · rw [List.length_map]
        have z := List.length_filter_le p (l.take i)
        rw [List.length_take] at z
        exact small1000 (by omega)
      · have new : valV (((l.take i).filter p).map fun a => (kf a, q a)) (kf a) = none := by
          unfold valV
          rw [List.find?_eq_none.mpr]
          · rfl
          · intro kv hkv
            obtain ⟨b, hb, e⟩ := List.mem_map.mp hkv
            subst e
            intro z
            have ez : kf b = kf a := of_decide_eq_true z
            obtain ⟨j, hj, ej⟩ := List.getElem_of_mem (List.mem_filter.mp hb).1
            rw [List.length_take] at hj
            rw [List.getElem_take] at ej
            have hia := (List.getElem?_eq_some_iff.mp ha).2
            have q1 : (l.map kf)[j]'(by rw [List.length_map]; omega) = (l.map kf)[i]'(by rw [List.length_map]; omega) := by
              rw [List.getElem_map, List.getElem_map, ej, hia, ez]
            have := (List.getElem_inj nd).mp q1
            omega
        rw [upd_same, take_filter_succ ha p, if_pos hp, List.map_append, putK_new _ new]
        rfl
    · refine ⟨h.1.trans s4, ?_⟩
      rw [take_filter_succ ha p, hp, s4 _ _ h.2]
      simp
  · have e := h.2
    rw [List.take_length] at e
    exact hd H h.1 e
end
end K72
end
section
set_option Elab.async false
set_option linter.all false
set_option maxRecDepth 100000
set_option maxHeartbeats 4000000
namespace K72
open PySem PySem.Spec PyProof.Rows L2
/-! ### small words -/
theorem iteY {c : Prop} [Decidable c] {A B : Prop} (h : c) (a : A) : if decide c = true then A else B := by
  rw [decide_eq_true h]
  exact iteT a
theorem iteN {c : Prop} [Decidable c] {A B : Prop} (h : ¬ c) (b : B) : if decide c = true then A else B := by
  rw [decide_eq_false h]
  exact iteF b
theorem qb {Q : VK} {H : Hp} {b c : Bool} (e : b = c) (q : Q (.bl c) H) : Q (.bl b) H := by
  rw [e]
  exact q
theorem qe {Q : VK} {H H' : Hp} {v w : V} (e : v = w) (e2 : H = H') (q : Q w H') : Q v H := by
  rw [e, e2]
  exact q
theorem ab_str {p : Nat} (h : p ∈ K72M.abc) : p ∈ ("abcdef" : Str).cps.toList := by
  rw [parties_tx, tx_cps]
  exact h
section
variable {P : Program} {w : World} {K : PySem.W.Frag} {mg : Str → Option Value} {base : Heap}
/-! is_party: 0 text -/
abbrev n8 : List Str := ["text"]
theorem sc8 : FnScope n8 ["text"] (defScope s8) := ⟨rfl, rfl, rfl, by decide +kernel, rfl, by decide +kernel, by decide +kernel⟩
def spIsParty : Sp := fun vs H Q _ => ∃ p ∈ K72M.abc, vs = [.str (sg p)] ∧ Q (.bl true) H
theorem ok_is_party (F : Here K mg "is_party" s8) (T : Txt K mg) : Fn P w K mg base 1 "is_party" ["text"] spIsParty := by
  obtain ⟨tP, gP⟩ := T.parties
  refine F.fn sc8 (fun _ _ _ _ _ _ us hl => match us, hl with | [_], _ => rfl) (fun vs H Q E h => by obtain ⟨p, _, rfl, _⟩ := h; rfl) fun f cdv A outer s H vs Q E hr h => ?_
  have hu := hu_of hr
  obtain ⟨p, hp, rfl, q⟩ := h
  refine ⟨_, (
    (pss_one (ps_ret (pe_and (pe_cmpR op_eq (pe_callB call_len_str (by rfl) T.len (by decide +kernel) (pa_cons (pv 0) pa_nil)) pe_int (nomark _)) (pe_one (pe_cmpR op_in_sign (pv 0) (pe_glob (v := .str "abcdef") rfl gP ⟨_, rfl⟩) rfl)))))), ?_⟩
  refine ⟨_, rfl, _, rfl, tx_small (by simp), rfl, _, rfl, iteY rfl ?_⟩
  exact ⟨_, rfl, p, "abcdef", rfl, rfl, qb (decide_eq_true (ab_str hp)) q⟩
/-! is_pair: 0 text -/
abbrev n9 : List Str := ["text"]
theorem sc9 : FnScope n9 ["text"] (defScope s9) := ⟨rfl, rfl, rfl, by decide +kernel, rfl, by decide +kernel, by decide +kernel⟩
def spIsPair : Sp := fun vs H Q _ => ∃ a b, a ∈ K72M.abc ∧ b ∈ K72M.abc ∧ a ≠ b ∧ vs = [.str (pr a b)] ∧ Q (.bl true) H
theorem ok_is_pair (F : Here K mg "is_pair" s9) (T : Txt K mg) (g_is_party : Fn P w K mg base 1 "is_party" ["text"] spIsParty) : Fn P w K mg base 2 "is_pair" ["text"] spIsPair := by
  refine F.fn sc9 (fun _ _ _ _ _ _ us hl => match us, hl with | [_], _ => rfl) (fun vs H Q E h => by obtain ⟨a, b, _, _, _, rfl, _⟩ := h; rfl) fun f cdv A outer s H vs Q E hr h => ?_
  have hu := hu_of hr
  obtain ⟨a, b, ha, hb, ne, rfl, q⟩ := h
  have z : (pr a b).length ≤ sizeLine := tx_small (by simp)
  refine ⟨_, (
    (pss_one (ps_ret (pe_and (pe_cmpR op_eq (pe_callB call_len_str (by rfl) T.len (by decide +kernel) (pa_cons (pv 0) pa_nil)) pe_int (nomark _)) (pe_and (pe_fn g_is_party (hr.mono (by decide)) rfl (pa_cons (pe_ix ix_str (pv 0) pe_int (fun _ _ => rfl)) pa_nil)) (pe_and (pe_fn g_is_party (hr.mono (by decide)) rfl (pa_cons (pe_ix ix_str (pv 0) pe_int (fun _ _ => rfl)) pa_nil)) (pe_one (pe_cmpR op_ne (pe_ix ix_str (pv 0) pe_int (fun _ _ => rfl)) (pe_ix ix_str (pv 0) pe_int (fun _ _ => rfl)) (nomark _))))))))), ?_⟩
  refine ⟨_, rfl, _, rfl, z, rfl, _, rfl, iteY rfl ?_⟩
  refine ⟨_, rfl, _, 0, a, rfl, rfl, z, rfl, a, ha, rfl, _, rfl, iteT ?_⟩
  refine ⟨_, rfl, _, 1, b, rfl, rfl, z, rfl, b, hb, rfl, _, rfl, iteT ?_⟩
  refine ⟨_, rfl, _, 0, a, rfl, rfl, z, rfl, _, rfl, _, 1, b, rfl, rfl, z, rfl, rfl, ?_⟩
  exact qb (by
    show (!decide (V.str (sg a) = V.str (sg b))) = true
    rw [decide_eq_false (fun e => ne (sgV.mp e))]
    rfl) q
/-! check_party: 0 party -/
abbrev n10 : List Str := ["party"]
theorem sc10 : FnScope n10 ["party"] (defScope s10) := ⟨rfl, rfl, rfl, by decide +kernel, rfl, by decide +kernel, by decide +kernel⟩
def spCheckParty : Sp := fun vs H Q _ => ∃ p ∈ K72M.abc, vs = [.str (sg p)] ∧ Q .non H
theorem ok_check_party (F : Here K mg "check_party" s10) (T : Txt K mg) (g_is_party : Fn P w K mg base 1 "is_party" ["text"] spIsParty) : Fn P w K mg base 2 "check_party" ["party"] spCheckParty := by
  refine F.fn sc10 (fun _ _ _ _ _ _ us hl => match us, hl with | [_], _ => rfl) (fun vs H Q E h => by obtain ⟨p, _, rfl, _⟩ := h; rfl) fun f cdv A outer s H vs Q E hr h => ?_
  have hu := hu_of hr
  obtain ⟨p, hp, rfl, q⟩ := h
  refine ⟨_, (
    (pss_one (ps_if (pt_not (pt_val (pe_fn g_is_party (hr.mono (by decide)) rfl (pa_cons (pv 0) pa_nil)))) 
      (pss_one ps_never) pss_nil))), ?_⟩
  exact ⟨_, rfl, p, hp, rfl, _, rfl, iteF q⟩
/-! check_purses: 0 purses, 1 party, 2 coins -/
abbrev n11 : List Str := ["purses", "party", "coins"]
theorem sc11 : FnScope n11 ["purses"] (defScope s11) := ⟨rfl, rfl, rfl, by decide +kernel, rfl, by decide +kernel, by decide +kernel⟩
def spCheckPurses : Sp := fun vs H Q _ => ∃ (d : Addr) (P : List Nat) (e : Nat → Int), vs = [.ref d] ∧ H d = some (.dK (PD P fun p => .int (e p))) ∧ (∀ p ∈ P, p ∈ K72M.abc ∧ 0 ≤ e p) ∧ ∀ H', Same H H' → Q .non H'
theorem ok_check_purses (F : Here K mg "check_purses" s11) (T : Txt K mg) (g_check_party : Fn P w K mg base 2 "check_party" ["party"] spCheckParty) : Fn P w K mg base 3 "check_purses" ["purses"] spCheckPurses := by
  refine F.fn sc11 (fun _ _ _ _ _ _ us hl => match us, hl with | [_], _ => rfl) (fun vs H Q E h => by obtain ⟨_, _, _, rfl, _⟩ := h; rfl) fun f cdv A outer s H vs Q E hr h => ?_
  have hu := hu_of hr
  obtain ⟨d, P, e, rfl, hd, hP, q⟩ := h
  refine ⟨_, (
    (pss_cons (ps_lock (ps_for PassesOwn.never rfl (pi_keys (pv 0)) (pg_name (i := 1) sc11.nd rfl (Or.inl rfl)) 
      (pss_one (ps_expr (pe_fn g_check_party (hr.mono (by decide)) rfl (pa_cons (pv 1) pa_nil))))))
    (pss_one (ps_for PassesOwn.never rfl (pi_list (pe_listVals rfl (pv 0) rfl T.list (by decide +kernel))) (pg_name (i := 2) sc11.nd rfl (Or.inl rfl)) 
      (pss_one (ps_if (pt_cmpR op_lt (pv 2) pe_int (nomark _)) 
        (pss_one ps_never) pss_nil)))))), ?_⟩
  refine st_seq (for_keys (fun H Q q => ⟨_, rfl, q⟩) hd (fun m σ Hu => (∃ y, σ = [some (.ref d), y, none]) ∧ Hu = H) ⟨⟨none, rfl⟩, rfl⟩ (fun m σ Hu h => by rw [h.2]; exact hd) ?_ ?_)
  · rintro m k v ob σ Hu hk ⟨⟨y, rfl⟩, rfl⟩
    obtain ⟨p, hp, rfl, rfl⟩ := PD_get hk
    exact ⟨_, rfl, p, (hP p (List.mem_of_getElem? hp)).1, rfl, upd_same, ⟨_, rfl⟩, upd_back hd⟩
  · rintro σ Hu ⟨⟨y, rfl⟩, rfl⟩
    refine ⟨_, rfl, d, _, rfl, hd, fun a ha => ?_⟩
    have s1 := same_new (o := .lst ((PD P fun p => V.int (e p)).map (fun kv : Key × V => kv.2))) ha
    refine ⟨a, rfl, ⟨_, SqL.of upd_same⟩, for_it (walk_list (xs := (PD P fun p => V.int (e p)).map (fun kv : Key × V => kv.2))) (fun m σ Hv => (∃ y z, σ = [some (.ref d), y, z]) ∧ Same Hu Hv ∧ SqL K Hv a ((PD P fun p => V.int (e p)).map (fun kv : Key × V => kv.2))) ⟨⟨_, _, rfl⟩, s1, SqL.of upd_same⟩ (fun _ _ _ _ h => h.2.2) ?_ ?_⟩
    · rintro m x σ Hu Hu' hm ⟨⟨y, z, rfl⟩, s2, sq⟩ ⟨rfl, hx⟩
      obtain ⟨p, hp, rfl⟩ : ∃ p ∈ P, x = V.int (e p) := by
        obtain ⟨kv, hkv, rfl⟩ := List.mem_map.mp (List.mem_of_getElem? hx)
        obtain ⟨p, hp, rfl⟩ := List.mem_map.mp hkv
        exact ⟨p, hp, rfl⟩
      refine ⟨_, rfl, _, _, rfl, rfl, _, rfl, iteN (fun z => by have := (hP p hp).2; omega) ?_⟩
      exact ⟨⟨_, _, rfl⟩, s2, sq⟩
    · rintro σ Hu ⟨⟨y, z, rfl⟩, s2, sq⟩
      exact q Hu s2
/-! check_debts: 0 debts, 1 pair, 2 coins -/
abbrev n13 : List Str := ["debts", "pair", "coins"]
theorem sc13 : FnScope n13 ["debts"] (defScope s13) := ⟨rfl, rfl, rfl, by decide +kernel, rfl, by decide +kernel, by decide +kernel⟩
def spCheckDebts : Sp := fun vs H Q _ => ∃ (d : Addr) (D : List K72M.Debt), vs = [.ref d] ∧ H d = some (.dK (DD D)) ∧ K72M.Raw D ∧ ∀ H', Same H H' → Q .non H'
theorem ok_check_debts (F : Here K mg "check_debts" s13) (T : Txt K mg) (g_is_pair : Fn P w K mg base 2 "is_pair" ["text"] spIsPair) : Fn P w K mg base 3 "check_debts" ["debts"] spCheckDebts := by
  refine F.fn sc13 (fun _ _ _ _ _ _ us hl => match us, hl with | [_], _ => rfl) (fun vs H Q E h => by obtain ⟨_, _, rfl, _⟩ := h; rfl) fun f cdv A outer s H vs Q E hr h => ?_
  have hu := hu_of hr
  obtain ⟨d, D, rfl, hd, hD, q⟩ := h
  refine ⟨_, (
    (pss_cons (ps_lock (ps_for PassesOwn.never rfl (pi_keys (pv 0)) (pg_name (i := 1) sc13.nd rfl (Or.inl rfl)) 
      (pss_one (ps_if (pt_not (pt_val (pe_fn g_is_pair (hr.mono (by decide)) rfl (pa_cons (pv 1) pa_nil)))) 
        (pss_one ps_never) pss_nil))))
    (pss_one (ps_for PassesOwn.never rfl (pi_list (pe_listVals rfl (pv 0) rfl T.list (by decide +kernel))) (pg_name (i := 2) sc13.nd rfl (Or.inl rfl)) 
      (pss_one (ps_if (pt_cmpR op_lt (pv 2) pe_int (nomark _)) 
        (pss_one ps_never) pss_nil)))))), ?_⟩
  refine st_seq (for_keys (fun H Q q => ⟨_, rfl, q⟩) hd (fun m σ Hu => (∃ y, σ = [some (.ref d), y, none]) ∧ Hu = H) ⟨⟨none, rfl⟩, rfl⟩ (fun m σ Hu h => by rw [h.2]; exact hd) ?_ ?_)
  · rintro m k v ob σ Hu hk ⟨⟨y, rfl⟩, rfl⟩
    obtain ⟨x, hx, rfl, rfl⟩ := DD_get hk
    have hm := List.mem_of_getElem? hx
    exact ⟨_, rfl, _, _, hD.in1 x hm, hD.in2 x hm, hD.ne x hm, rfl, _, rfl, iteF ⟨upd_same, ⟨_, rfl⟩, upd_back hd⟩⟩
  · rintro σ Hu ⟨⟨y, rfl⟩, rfl⟩
    refine ⟨_, rfl, d, _, rfl, hd, fun a ha => ?_⟩
    have s1 := same_new (o := .lst ((DD D).map (fun kv : Key × V => kv.2))) ha
    refine ⟨a, rfl, ⟨_, SqL.of upd_same⟩, for_it (walk_list (xs := (DD D).map (fun kv : Key × V => kv.2))) (fun m σ Hv => (∃ y z, σ = [some (.ref d), y, z]) ∧ Same Hu Hv ∧ SqL K Hv a ((DD D).map (fun kv : Key × V => kv.2))) ⟨⟨_, _, rfl⟩, s1, SqL.of upd_same⟩ (fun _ _ _ _ h => h.2.2) ?_ ?_⟩
    · rintro m x σ Hu Hu' hm ⟨⟨y, z, rfl⟩, s2, sq⟩ ⟨rfl, hx⟩
      obtain ⟨x, hp, rfl⟩ : ∃ z ∈ D, x = V.int z.2 := by
        obtain ⟨kv, hkv, rfl⟩ := List.mem_map.mp (List.mem_of_getElem? hx)
        obtain ⟨p, hp, rfl⟩ := List.mem_map.mp hkv
        exact ⟨p, hp, rfl⟩
      refine ⟨_, rfl, _, _, rfl, rfl, _, rfl, iteN (fun z => by have := hD.lo x hp; omega) ?_⟩
      exact ⟨⟨_, _, rfl⟩, s2, sq⟩
    · rintro σ Hu ⟨⟨y, z, rfl⟩, s2, sq⟩
      exact q Hu s2
end
end K72
end
section
set_option Elab.async false
set_option linter.all false
set_option maxRecDepth 100000
set_option maxHeartbeats 4000000
set_option exponentiation.threshold 3000
namespace K72
open PySem PySem.Spec PyProof.Rows L2
/-! ### sorted keys -/
def prk (k : Nat × Nat) : Str := pr k.1 k.2
def dec (z : Str) : Nat × Nat := (z.cps.toList.getD 0 0, z.cps.toList.getD 1 0)
theorem dec_prk (k : Nat × Nat) : dec (prk k) = k := rfl
def cd (k : Nat × Nat) : Nat := k.1 * 1000 + k.2
theorem lt_cd {a b : Nat × Nat} (ha : a.2 < 1000) (hb : b.2 < 1000) (h : (!ltCps (prk a).cps.toList (prk b).cps.toList) = true) : cd b ≤ cd a := by
  have e : ltCps (prk a).cps.toList (prk b).cps.toList = (decide (a.1 < b.1) || (a.1 == b.1 && (decide (a.2 < b.2) || (a.2 == b.2 && false)))) := by
    show ltCps [a.1, a.2] [b.1, b.2] = _
    rfl
  rw [e] at h
  simp at h
  unfold cd
  omega
theorem rising_cd : ∀ (zs : List (Nat × Nat)) (p : Nat × Nat), (∀ k ∈ p :: zs, k.2 < 1000) → risingS (prk p) (zs.map prk) = true → (p :: zs).Pairwise fun a b => cd a ≤ cd b
  | [], p, _, _ => List.pairwise_singleton _ _
  | x :: r, p, hb, h => by
    have h2 : (!ltCps (prk x).cps.toList (prk p).cps.toList && risingS (prk x) (r.map prk)) = true := h
    obtain ⟨h3, h4⟩ := Bool.and_eq_true_iff.mp h2
    have ih := rising_cd r x (fun k hk => hb k (List.mem_cons_of_mem _ hk)) h4
    have le := lt_cd (hb x (by simp)) (hb p (by simp)) h3
    refine List.pairwise_cons.mpr ⟨fun b hm => ?_, ih⟩
    rcases List.mem_cons.mp hm with e | hm
    · rw [e]
      exact le
    · have := (List.pairwise_cons.mp ih).1 b hm
      omega
theorem abc_small {a : Nat} (h : a ∈ K72M.abc) : a < 1000 := by
  have h2 : ∀ a ∈ K72M.abc, a < 1000 := by decide
  exact h2 a h
theorem sorted_keys {D : List K72M.Debt} (r : K72M.Raw D) {ys : List Str} (hp : ys.Perm ((D.map (·.1)).map prk)) (hs : sortedS ys = true) : ys = (K72M.keysOf D).map prk := by
  have zp : (ys.map dec).Perm (D.map (·.1)) := by
    have h := hp.map dec
    rw [List.map_map] at h
    have e : (dec ∘ prk) = id := funext fun k => dec_prk k
    rw [e, List.map_id] at h
    exact h
  have yz : ys = (ys.map dec).map prk := by
    rw [List.map_map]
    have h : ∀ y ∈ ys, (prk ∘ dec) y = y := fun y hy => by
      obtain ⟨k, _, e⟩ := List.mem_map.mp (hp.subset hy)
      show prk (dec y) = y
      rw [← e, dec_prk]
    exact ((List.map_congr_left h).trans (List.map_id _)).symm
  generalize ys.map dec = zs at *
  have small : ∀ k ∈ zs, k.2 < 1000 := fun k hk => by
    obtain ⟨x, hx, e⟩ := List.mem_map.mp (zp.subset hk)
    rw [← e]
    exact abc_small (r.in2 x hx)
  have pw : zs.Pairwise fun a b => cd a ≤ cd b := by
    rw [yz] at hs
    cases zs with
    | nil => exact List.Pairwise.nil
    | cons p zs => exact rising_cd zs p small hs
  have nd : (K72M.keysOf D).Nodup := K72M.pairs_nd.filter _
  have pk : zs.Perm (K72M.keysOf D) := by
    rw [List.perm_ext_iff_of_nodup (zp.nodup_iff.mpr r.nd) nd]
    intro k
    rw [zp.mem_iff]
    unfold K72M.keysOf
    rw [List.mem_filter]
    constructor
    · intro h
      obtain ⟨x, hx, e⟩ := List.mem_map.mp h
      refine ⟨?_, decide_eq_true h⟩
      rw [← e]
      exact K72M.pairs_mem (r.in1 x hx) (r.in2 x hx)
    · intro h
      exact of_decide_eq_true h.2
  have pk2 : (K72M.keysOf D).Pairwise fun a b => cd a ≤ cd b := List.Pairwise.filter _ (by decide : K72M.pairs.Pairwise fun a b => cd a ≤ cd b)
  have e : zs = K72M.keysOf D := List.Perm.eq_of_pairwise (fun a b ha hb h1 h2 => by
    have s1 := small a ha
    have s2 := small b (pk.symm.subset hb)
    unfold cd at h1 h2
    exact Prod.ext (by omega) (by omega)) pw pk2 pk
  rw [yz, e]
theorem DD_val {D : List K72M.Debt} (r : (D.map (·.1)).Nodup) {k : Nat × Nat} (h : k ∈ D.map (·.1)) : valV (DD D) (Sum.inr (prk k)) = some (.int (K72M.val D k.1 k.2)) := by
  obtain ⟨x, hx, rfl⟩ := List.mem_map.mp h
  rw [K72M.val_of r hx]
  clear h
  induction D with
  | nil => cases hx
  | cons y D ih =>
    have nd := List.nodup_cons.mp (show (y.1 :: D.map (·.1)).Nodup from r)
    show valV ((Sum.inr (pr y.1.1 y.1.2), V.int y.2) :: DD D) _ = _
    rcases List.mem_cons.mp hx with e | hm
    · rw [e]
      exact valV_pos (p := ((Sum.inr (pr y.1.1 y.1.2), V.int y.2) : Key × V)) rfl
    · have ne : ¬ (Sum.inr (pr y.1.1 y.1.2) : Key) = Sum.inr (prk x.1) := fun z => nd.1 (by
        have q := keyS.mp z
        have q1 : y.1 = x.1 := Prod.ext (by simpa using (List.cons.inj q).1) (by simpa using (List.cons.inj (List.cons.inj q).2).1)
        rw [q1]
        exact List.mem_map.mpr ⟨x, hm, rfl⟩)
      rw [valV_neg ne]
      exact ih nd.2 hm
theorem DD_none {D : List K72M.Debt} {k : Nat × Nat} (h : k ∉ D.map (·.1)) : valV (DD D) (Sum.inr (prk k)) = none := by
  induction D with
  | nil => rfl
  | cons y D ih =>
    show valV ((Sum.inr (pr y.1.1 y.1.2), V.int y.2) :: DD D) _ = _
    have ne : ¬ (Sum.inr (pr y.1.1 y.1.2) : Key) = Sum.inr (prk k) := fun z => h (by
      have q := keyS.mp z
      have q1 : y.1 = k := Prod.ext (by simpa using (List.cons.inj q).1) (by simpa using (List.cons.inj (List.cons.inj q).2).1)
      rw [← q1]
      exact List.mem_cons_self)
    rw [valV_neg ne]
    exact ih fun z => h (List.mem_cons_of_mem _ z)
section
variable {P : Program} {w : World} {K : PySem.W.Frag} {mg : Str → Option Value} {base : Heap}
/-! tidy: 0 debts, 1 pair -/
abbrev n14 : List Str := ["debts", "pair"]
theorem sc14 : FnScope n14 ["debts"] (defScope s14) := ⟨rfl, rfl, rfl, by decide +kernel, rfl, by decide +kernel, by decide +kernel⟩
def spTidy : Sp := fun vs H Q _ => ∃ (d : Addr) (D : List K72M.Debt), vs = [.ref d] ∧ H d = some (.dK (DD D)) ∧ K72M.Raw D ∧ ∀ H' p, Same H H' → H p = none → H' p = some (.dK (DD (K72M.tidyM D))) → Q (.ref p) H'
theorem ok_tidy (F : Here K mg "tidy" s14) (T : Txt K mg) : Fn P w K mg base 1 "tidy" ["debts"] spTidy := by
  refine F.fn sc14 (fun _ _ _ _ _ _ us hl => match us, hl with | [_], _ => rfl) (fun vs H Q E h => by obtain ⟨_, _, rfl, _⟩ := h; rfl) fun f cdv A outer s H vs Q E hr h => ?_
  have hu := hu_of hr
  obtain ⟨d, D, rfl, hd, hD, q⟩ := h
  refine ⟨_, (
    (pss_one (ps_ret (pe_dc (own := [("pair", 1)]) rfl sc14.nd (pi_list (pe_callB cr_sortedS (by rfl) T.sorted (by decide +kernel) (pa_cons (pe_callTy (call_listD rfl) (by rfl) T.list (by decide +kernel) (pa_cons (pv 0) pa_nil)) pa_nil))) (blkOk_by (N := n14) (sc := defScope s14) (by decide +kernel)) (fun _ _ _ _ _ => (pg_name (i := 1) sc14.nd rfl (Or.inl rfl) (Or.inr rfl))) (fun _ _ _ _ _ => (pts_one (pt_cmpR op_gt (pe_dget hu (pv 0) (pv 1) (fun _ _ => rfl)) pe_int (nomark _)))) (fun _ _ _ _ _ => (pv 1)) (fun _ _ _ _ _ => (pe_dget hu (pv 0) (pv 1) (fun _ _ => rfl))))))), ?_⟩
  refine ⟨_, rfl, d, _, rfl, .inl hd, fun l hl => ?_⟩
  have s1 := same_new (o := .lst ((DD D).map fun kv => kV kv.1)) hl
  have el : ((DD D).map fun kv => kV kv.1) = ((D.map (·.1)).map prk).map V.str := by
    unfold DD
    rw [List.map_map, List.map_map, List.map_map]
    rfl
  refine ⟨l, (D.map (·.1)).map prk, rfl, SqL.of (by rw [← el]; exact upd_same), by rw [List.length_map, List.length_map]; have := hD.len; omega, fun ys p hp hs hpn => ?_⟩
  obtain rfl := sorted_keys hD hp hs
  generalize hH1 : upd (upd H l (.lst ((DD D).map fun kv => kV kv.1))) p (.lst (((K72M.keysOf D).map prk).map V.str)) = H1
  have s2 : Same H H1 := by
    rw [← hH1]
    exact s1.trans (same_new hpn)
  have hp1 : SqL K H1 p (((K72M.keysOf D).map prk).map V.str) := SqL.of (by rw [← hH1]; exact upd_same)
  have len : (K72M.keysOf D).length ≤ 36 := List.length_filter_le _ K72M.pairs
  refine ⟨p, rfl, ⟨_, hp1⟩, fun t ht => ?_⟩
  refine dc_l (K72M.keysOf D) (fun k => decide (0 < K72M.val D k.1 k.2)) (fun k => Sum.inr (prk k)) (fun k => .int (K72M.val D k.1 k.2)) (by
      have w := walk_list (K := K) (a := p) (xs := ((K72M.keysOf D).map prk).map V.str)
      rw [List.length_map, List.length_map] at w
      exact w) (by omega) ht (fun H' e => e.seq hp1) ?_ ?_ ?_
  · have nd : (K72M.keysOf D).Nodup := K72M.pairs_nd.filter _
    refine List.Pairwise.map _ (fun a b h z => h ?_) nd
    have q := keyS.mp z
    exact Prod.ext (by simpa using (List.cons.inj q).1) (by simpa using (List.cons.inj (List.cons.inj q).2).1)
  · rintro i k x H2 H3 hk e2 ⟨rfl, hx⟩ A B hA hB
    have ex : x = V.str (prk k) := by
      rw [List.getElem?_map, List.getElem?_map, hk] at hx
      exact (Option.some.inj hx).symm
    subst ex
    have hm : k ∈ D.map (·.1) := of_decide_eq_true (List.mem_filter.mp (List.mem_of_getElem? hk)).2
    have hd2 : H3 d = some (.dK (DD D)) := e2 _ _ (s2 _ _ hd)
    have g : DGet H3 d (V.str (prk k)) (some (.int (K72M.val D k.1 k.2))) := by
      have := DGet.k (k := Sum.inr (prk k)) hd2
      rw [DD_val hD.nd hm] at this
      exact this
    refine ⟨rfl, _, rfl, _, rfl, d, _, rfl, g, _, _, rfl, rfl, _, rfl, ?_⟩
    by_cases hv : 0 < K72M.val D k.1 k.2
    · refine iteY hv ⟨_, rfl, _, rfl, _, rfl, d, _, rfl, g, ?_⟩
      exact hA (decide_eq_true hv) H3 (Same.refl H3)
    · exact iteN hv (hB (decide_eq_false hv) H3 (Same.refl H3))
  · intro H2 e2 ht2
    refine q H2 t (s2.trans e2) ?_ ?_
    · exact s2.free ht
    · rw [ht2]
      unfold K72M.tidyM DD
      rw [List.map_map]
      rfl
/-! common_divisor: 0 numbers, 1 found, 2 number -/
abbrev n16 : List Str := ["numbers", "found", "number"]
theorem sc16 : FnScope n16 ["numbers"] (defScope s16) := ⟨rfl, rfl, rfl, by decide +kernel, rfl, by decide +kernel, by decide +kernel⟩
def spGcd (K : PySem.W.Frag) : Sp := fun vs H Q _ => ∃ (l : Addr) (a b : Int), vs = [.ref l] ∧ SqL K H l [.int a, .int b] ∧ Q (.int (Int.gcd a b)) H
def gN (a b : Int) : Nat → Nat
  | 0 => 0
  | 1 => a.natAbs
  | _ => Int.gcd a b
theorem ok_common_divisor (F : Here K mg "common_divisor" s16) (T : Txt K mg) : Fn P w K mg base 1 "common_divisor" ["numbers"] (spGcd K) := by
  refine F.fn sc16 (fun _ _ _ _ _ _ us hl => match us, hl with | [_], _ => rfl) (fun vs H Q E h => by obtain ⟨_, _, _, rfl, _⟩ := h; rfl) fun f cdv A outer s H vs Q E hr h => ?_
  have hu := hu_of hr
  obtain ⟨l, a, b, rfl, hl, q⟩ := h
  refine ⟨_, (
    (pss_cons (ps_set (i := 1) sc16.nd rfl (Or.inl rfl) pe_int)
    (pss_cons (ps_for PassesOwn.never rfl (pi_list (pv 0)) (pg_name (i := 2) sc16.nd rfl (Or.inl rfl)) 
      (pss_cons (ps_set (i := 2) sc16.nd rfl (Or.inl rfl) (pe_callB call_abs (by rfl) T.abs (by decide +kernel) (pa_cons (pv 2) pa_nil)))
      (pss_one (ps_while PassesOwn.never (pt_cmpR op_ne (pv 2) pe_int (nomark _)) 
        (pss_one (ps_par (i := 1) (j := 2) rfl sc16.nd rfl rfl (by decide) rfl rfl (pa_cons (pv 2) (pa_cons (pe_op op_modN (pv 1) (pv 2)) pa_nil)) (by rfl)))))))
    (pss_one (ps_ret (pv 1)))))), ?_⟩
  refine ⟨_, rfl, l, rfl, ⟨_, hl⟩, for_it (walk_list (xs := [V.int a, V.int b])) (fun m σ Hu => (∃ y, σ = [some (.ref l), some (.int (gN a b m : Nat)), y]) ∧ Hu = H) ⟨⟨none, rfl⟩, rfl⟩ (fun _ _ _ _ h => by rw [h.2]; exact hl) ?_ ?_⟩
  · rintro m x σ Hu Hu' hm ⟨⟨y, rfl⟩, rfl⟩ ⟨rfl, hx⟩
    have step : ∃ z : Int, x = V.int z ∧ Nat.gcd (gN a b m) z.natAbs = gN a b (m + 1) := by
      match m, hm, hx with
      | 0, _, hx => exact ⟨a, (Option.some.inj hx).symm, Nat.gcd_zero_left _⟩
      | 1, _, hx => exact ⟨b, (Option.some.inj hx).symm, rfl⟩
      | n + 2, hm, _ => exact absurd hm (by show ¬ n + 2 < 2; omega)
    obtain ⟨z, rfl, hg⟩ := step
    refine ⟨_, rfl, z, rfl, ?_⟩
    have ez : (if z < 0 then -z else z) = (z.natAbs : Int) := by
      split <;> omega
    rw [ez]
    refine ⟨fun m' σ Hv => ∃ F N : Nat, m' = N ∧ σ = [some (.ref l), some (.int F), some (.int N)] ∧ Nat.gcd F N = gN a b (m + 1) ∧ Hv = Hu', ⟨_, _, _, rfl, rfl, hg, rfl⟩, ?_⟩
    rintro m' σ Hv ⟨F, N, rfl, rfl, hg2, rfl⟩
    refine ⟨_, rfl, rfl, _, rfl, ?_⟩
    by_cases hN : m' = 0
    · subst hN
      rw [show decide (V.int ((0 : Nat) : Int) = V.int 0) = true from decide_eq_true rfl]
      refine iteF ?_
      rw [Nat.gcd_zero_right] at hg2
      exact ⟨⟨_, by rw [hg2]⟩, rfl⟩
    · rw [show decide (V.int (m' : Int) = V.int 0) = false from decide_eq_false fun z => hN (by have := V.int.inj z; omega)]
      refine iteT ⟨fun σ Hw => ∃ F' N' : Nat, N' < m' ∧ σ = [some (.ref l), some (.int F'), some (.int N')] ∧ Nat.gcd F' N' = gN a b (m + 1) ∧ Hw = Hv, ?_, ?_⟩
      · rintro σ Hw ⟨F', N', h1, h2, h3, h4⟩
        exact ⟨N', h1, F', N', rfl, h2, h3, h4⟩
      · refine ⟨_, rfl, _, rfl, _, rfl, _, _, rfl, rfl, by omega, _, _, rfl, m', F % m', Nat.mod_lt _ (by omega), ?_, ?_, rfl⟩
        · have ef : Int.fmod (F : Int) (m' : Int) = ((F % m' : Nat) : Int) := by
            rw [Int.fmod_eq_emod_of_nonneg _ (by omega)]
            rfl
          show [some (V.ref l), some (V.int (m' : Int)), some (V.int (Int.fmod (F : Int) (m' : Int)))] = _
          rw [ef]
        · rw [← hg2, Nat.gcd_comm m', ← Nat.gcd_rec, Nat.gcd_comm]
  · rintro σ Hu ⟨⟨y, rfl⟩, rfl⟩
    exact ⟨_, rfl, q⟩
/-! lowest_terms: 0 numerator, 1 denominator, 2 divisor -/
abbrev n18 : List Str := ["numerator", "denominator", "divisor"]
theorem sc18 : FnScope n18 ["numerator", "denominator"] (defScope s18) := ⟨rfl, rfl, rfl, by decide +kernel, rfl, by decide +kernel, by decide +kernel⟩
def spLowest : Sp := fun vs H Q _ => ∃ n d : Int, vs = [.int n, .int d] ∧ 0 < d ∧ d.natAbs < 2 ^ 2000 ∧ ∀ H' p, Same H H' → H p = none → H' p = some (.tup [.int (n / Int.gcd n d), .int (d / Int.gcd n d)]) → Q (.ref p) H'
theorem ok_lowest_terms (F : Here K mg "lowest_terms" s18) (T : Txt K mg) (g_common_divisor : Fn P w K mg base 1 "common_divisor" ["numbers"] (spGcd K)) : Fn P w K mg base 2 "lowest_terms" ["numerator", "denominator"] spLowest := by
  refine F.fn sc18 (fun _ _ _ _ _ _ us hl => match us, hl with | [_, _], _ => rfl) (fun vs H Q E h => by obtain ⟨_, _, rfl, _⟩ := h; rfl) fun f cdv A outer s H vs Q E hr h => ?_
  have hu := hu_of hr
  obtain ⟨n, d, rfl, hd, hb, q⟩ := h
  have g0 : Int.gcd n d ≠ 0 := fun z => by
    have := (Int.gcd_eq_zero_iff.mp z).2
    omega
  have gl : (Int.gcd n d : Int) ≤ d := Int.le_of_dvd hd (Int.gcd_dvd_right _ _)
  have gb : CDivW n (Int.gcd n d : Int) := wide_div (b := 2000) (by omega) (by omega) (by decide) (by decide)
  refine ⟨_, (
    (pss_cons (ps_set (i := 2) sc18.nd rfl (Or.inl rfl) (pe_fn g_common_divisor (hr.mono (by decide)) rfl (pa_cons (pe_lst (pa_cons (pv 0) (pa_cons (pv 1) pa_nil))) pa_nil)))
    (pss_one (ps_ret (pe_tup (pa_cons (pe_op op_fdivW (pv 0) (pv 2)) (pa_cons (pe_op op_fdivW (pv 1) (pv 2)) pa_nil))))))), ?_⟩
  refine ⟨_, rfl, _, rfl, (by show 2 ≤ sizeLine; decide), fun l hl => ?_⟩
  refine ⟨l, n, d, rfl, SqL.of upd_same, ?_⟩
  refine ⟨_, rfl, _, rfl, _, _, rfl, rfl, gb, _, rfl, _, rfl, _, _, rfl, rfl, gb, (by show 2 ≤ sizeLine; decide), fun p hp => ?_⟩
  have s1 := same_new (o := .lst [V.int n, V.int d]) hl
  exact q _ p (s1.trans (same_new hp)) (s1.free hp) upd_same
end
end K72
end
section
set_option Elab.async false
set_option linter.all false
set_option maxRecDepth 100000
set_option maxHeartbeats 4000000
set_option exponentiation.threshold 3000
namespace K72
open PySem PySem.Spec PyProof.Rows L2
theorem ty {te : TE} {σ : L2.St} {H : Hp} {A : VK} {B : Hp → Prop} (h : te σ H A) : tYes σ H fun b H3 => if b = true then te σ H3 A else B H3 := by
  show (if true = true then te σ H A else B H)
  rw [if_pos rfl]
  exact h
theorem tyd {tk tv : TE} {σ : L2.St} {H : Hp} {A : V → V → Hp → Prop} {B : Hp → Prop} (h : tk σ H fun y H4 => tv σ H4 fun z H5 => A y z H5) : tYes σ H fun b H3 => if b = true then tk σ H3 fun y H4 => tv σ H4 fun z H5 => A y z H5 else B H3 := by
  show (if true = true then tk σ H fun y H4 => tv σ H4 fun z H5 => A y z H5 else B H)
  rw [if_pos rfl]
  exact h
/-- rows of numbers -/
def Rws (K : PySem.W.Frag) (H : Hp) (a : Addr) (n : Nat) (row : Nat → List Int) : Prop := ∃ as : List Addr, as.length = n ∧ SqL K H a (as.map V.ref) ∧ ∀ i : Nat, i < n → ∃ r : Addr, as[i]? = some r ∧ H r = some (.lst ((row i).map V.int))
theorem Rws.mono {K : PySem.W.Frag} {H H' : Hp} {a : Addr} {n : Nat} {row : Nat → List Int} (h : Rws K H a n row) (e : Same H H') : Rws K H' a n row := by
  obtain ⟨as, h1, h2, h3⟩ := h
  exact ⟨as, h1, e.seq h2, fun i hi => let ⟨r, e1, e2⟩ := h3 i hi; ⟨r, e1, e _ _ e2⟩⟩
def rowL (n : Nat) (c : Nat → K72M.Vec) (k i : Nat) : List Int := (List.range (n + 1)).map fun j => K72M.ph n c k i (c j)
theorem rowL_len (n : Nat) (c : Nat → K72M.Vec) (k i : Nat) : (rowL n c k i).length = n + 1 := by simp [rowL]
theorem rowL_get {n : Nat} {c : Nat → K72M.Vec} {k i j : Nat} (h : j ≤ n) : (rowL n c k i)[j]? = some (K72M.ph n c k i (c j)) := by
  unfold rowL
  rw [List.getElem?_map, List.getElem?_range (by omega)]
  rfl
theorem rowL_V {n : Nat} {c : Nat → K72M.Vec} {k i j : Nat} (h : j ≤ n) : ((rowL n c k i).map V.int)[j]? = some (.int (K72M.ph n c k i (c j))) := by
  rw [List.getElem?_map, rowL_get h]
  rfl
theorem bt_le : ∀ k, k ≤ 6 → K72M.bt 667 k ≤ 100000 := by decide
theorem mul_ok {x y : Int} (hx : x.natAbs < 2 ^ 100000) (hy : y.natAbs < 2 ^ 100000) : CMulW x y := wide_mul hx hy (by decide) (by decide) (by decide)
section
variable {P : Program} {w : World} {K : PySem.W.Frag} {mg : Str → Option Value} {base : Heap}
/-! without_unknown: 0 row, 1 head, 2 at, 3 last, 4 entry, 5 taken -/
abbrev n19 : List Str := ["row", "head", "at", "last", "entry", "taken"]
theorem sc19 : FnScope n19 ["row", "head", "at", "last"] (defScope s19) := ⟨rfl, rfl, rfl, by decide +kernel, rfl, by decide +kernel, by decide +kernel⟩
def spWithout (K : PySem.W.Frag) : Sp := fun vs H Q _ => ∃ (a b : Addr) (r h : List Int) (at_ : Nat) (last ra ha : Int), vs = [.ref a, .ref b, .int at_, .int last] ∧ SqL K H a (r.map V.int) ∧ SqL K H b (h.map V.int) ∧ r.length = h.length ∧ r.length ≤ 1000 ∧
  r[at_]? = some ra ∧ h[at_]? = some ha ∧ 0 < last ∧ last.natAbs < 2 ^ 2000 ∧ (∀ x ∈ r, x.natAbs < 2 ^ 100000) ∧ (∀ x ∈ h, x.natAbs < 2 ^ 100000) ∧
  ∀ H' p, Same H H' → H p = none → H' p = some (.lst ((r.zip h).map fun z => V.int ((ha * z.1 - ra * z.2) / last))) → Q (.ref p) H'
theorem ok_without_unknown (F : Here K mg "without_unknown" s19) (T : Txt K mg) : Fn P w K mg base 1 "without_unknown" ["row", "head", "at", "last"] (spWithout K) := by
  refine F.fn sc19 (fun _ _ _ _ _ _ us hl => match us, hl with | [_, _, _, _], _ => rfl) (fun vs H Q E h => by obtain ⟨_, _, _, _, _, _, _, _, rfl, _⟩ := h; rfl) fun f cdv A outer s H vs Q E hr h => ?_
  have hu := hu_of hr
  obtain ⟨a, b, r, h, at_, last, ra, ha, rfl, hA, hB, hlen, h1000, gra, gha, l0, lb, br, bh, q⟩ := h
  refine ⟨_, (
    (pss_one (ps_ret (pe_lc (own := [("entry", 4), ("taken", 5)]) rfl sc19.nd (pi_zip rfl T.zip (pa_cons (pv 0) (pa_cons (pv 1) pa_nil))) (blkOk_by (N := n19) (sc := defScope s19) (by decide +kernel)) (fun _ _ _ _ _ => (pg_tupK (K := K) (n := 2) rfl rfl (pgs_cons (pg_name (i := 4) sc19.nd rfl (Or.inl rfl) (Or.inr rfl)) (pgs_cons (pg_name (i := 5) sc19.nd rfl (Or.inl rfl) (Or.inr rfl)) pgs_nil)))) (fun _ _ _ _ _ => pts_nil) (fun _ _ _ _ _ => (pe_op op_fdivW (pe_op op_sub (pe_op op_mulW (pe_ix (ix_listK (K := K) rfl) (pv 1) (pv 2) (fun _ _ => rfl)) (pv 4)) (pe_op op_mulW (pe_ix (ix_listK (K := K) rfl) (pv 0) (pv 2) (fun _ _ => rfl)) (pv 5))) (pv 3))))))), ?_⟩
  refine ⟨_, rfl, _, rfl, a, b, r.map V.int, h.map V.int, rfl, hA, hB, fun D hD => ?_⟩
  have zl : (r.zip h).length = min (r.map V.int).length (h.map V.int).length := by
    rw [List.length_zip, List.length_map, List.length_map]
  refine lc_l (r.zip h) (fun _ => true) (fun z => V.int ((ha * z.1 - ra * z.2) / last)) (walk_zip (K := K) (a := a) (b := b) (xs := r.map V.int) (ys := h.map V.int) zl) (by rw [List.length_zip]; omega) hD (fun H' e => ⟨e.seq hA, e.seq hB⟩) ?_ ?_
  · rintro i ⟨x, y⟩ v H1 H2 hz e1 ⟨T, x1, y1, rfl, hT, rfl, hx, hy⟩ A B hA2 hB2
    obtain ⟨gx, gy⟩ := List.getElem?_zip_eq_some.mp hz
    replace hx : (r.map V.int)[i]? = some x1 := hx
    replace hy : (h.map V.int)[i]? = some y1 := hy
    obtain rfl : x1 = V.int x := by
      rw [List.getElem?_map, gx] at hx
      exact (Option.some.inj hx).symm
    obtain rfl : y1 = V.int y := by
      rw [List.getElem?_map, gy] at hy
      exact (Option.some.inj hy).symm
    have sT := same_new (o := .tup [V.int x, V.int y]) hT
    have qA := (e1.trans sT).seq hA
    have qB := (e1.trans sT).seq hB
    have mx := br x (List.mem_of_getElem? gx)
    have my := bh y (List.mem_of_getElem? gy)
    have mra := br ra (List.mem_of_getElem? gra)
    have mha := bh ha (List.mem_of_getElem? gha)
    refine ⟨T, _, rfl, .inl (.inl upd_same), rfl, _, _, rfl, _, _, rfl, rfl, rfl, ty ?_⟩
    have i1 : atI (h.map V.int) (at_ : Int) = some (.int ha) := atI_nat (by rw [List.getElem?_map, gha]; rfl)
    have i2 : atI (r.map V.int) (at_ : Int) = some (.int ra) := atI_nat (by rw [List.getElem?_map, gra]; rfl)
    refine ⟨_, rfl, _, rfl, b, _, _, _, rfl, rfl, qB, i1, _, rfl, _, _, rfl, rfl, mul_ok mha mx, ?_⟩
    refine ⟨_, rfl, _, rfl, a, _, _, _, rfl, rfl, qA, i2, _, rfl, _, _, rfl, rfl, mul_ok mra my, ?_⟩
    exact ⟨_, _, rfl, rfl, _, rfl, _, _, rfl, rfl, wide_div l0 lb (by decide) (by decide), hA2 rfl _ sT⟩
  · intro H1 e1 hD1
    refine q H1 D e1 hD ?_
    rw [hD1, List.filter_eq_self.mpr fun _ _ => rfl]
/-! solve: 0 rows, 1 last, 2 at, 3 head, 4 k, 5 row -/
abbrev n20 : List Str := ["rows", "last", "at", "head", "k", "row"]
theorem sc20 : FnScope n20 ["rows"] (defScope s20) := ⟨rfl, rfl, rfl, by decide +kernel, rfl, by decide +kernel, by decide +kernel⟩
def spSolve (K : PySem.W.Frag) : Sp := fun vs H Q _ => ∃ (a : Addr) (n : Nat) (c : Nat → K72M.Vec), vs = [.ref a] ∧ Rws K H a n (rowL n c 0) ∧ n ≤ 6 ∧ K72M.Good n c ∧ (∀ i j, i < n → j ≤ n → (c j i).natAbs < 2 ^ 667) ∧ (∀ m, m < n → c m m ≤ (2 : Int) ^ 205) ∧
  ∀ H' p r, Same H H' → H p = none → H' p = some (.tup [.ref r, .int (K72M.hd n c n)]) → H' r = some (.lst ((List.range n).map fun i => V.int (K72M.ph n c n i (c n)))) → Q (.ref p) H'
theorem ok_solve (F : Here K mg "solve" s20) (T : Txt K mg) (g_without_unknown : Fn P w K mg base 1 "without_unknown" ["row", "head", "at", "last"] (spWithout K)) : Fn P w K mg base 2 "solve" ["rows"] (spSolve K) := by
  refine F.fn sc20 (fun _ _ _ _ _ _ us hl => match us, hl with | [_], _ => rfl) (fun vs H Q E h => by obtain ⟨_, _, _, rfl, _⟩ := h; rfl) fun f cdv A outer s H vs Q E hr h => ?_
  have hu := hu_of hr
  obtain ⟨a, n, c, rfl, hR, hn, G, bits, diag, q⟩ := h
  have hdp : ∀ k, k ≤ n → 0 < K72M.hd n c k := fun k hk => (K72M.heads G k hk).pos
  have hdb : ∀ k, k ≤ n → (K72M.hd n c k).natAbs < 2 ^ 2000 := fun k hk => by
    have h1 := K72M.heads_le G diag k hk
    have h2 := hdp k hk
    have h3 : (2 : Nat) ^ (205 * k) < 2 ^ 2000 := Nat.pow_lt_pow_right (by decide) (by omega)
    have h4 : (K72M.hd n c k).natAbs ≤ 2 ^ (205 * k) := by
      have : ((K72M.hd n c k).natAbs : Int) ≤ ((2 ^ (205 * k) : Nat) : Int) := by
        rw [Int.natAbs_of_nonneg (by omega)]
        exact_mod_cast h1
      exact_mod_cast this
    omega
  have rb : ∀ k i, k ≤ n → i < n → ∀ x ∈ rowL n c k i, x.natAbs < 2 ^ 100000 := fun k i hk hi x hx => by
    obtain ⟨j, hj, rfl⟩ := List.mem_map.mp hx
    have h1 := K72M.ph_bits G bits k hk i j hi (by have := List.mem_range.mp hj; omega)
    exact Nat.lt_of_lt_of_le h1 (Nat.pow_le_pow_right (by decide) (bt_le k (by omega)))
  refine ⟨_, (
    (pss_cons (ps_set (i := 1) sc20.nd rfl (Or.inr rfl) pe_int)
    (pss_cons (ps_for PassesOwn.never rfl (pi_range1 rfl T.range (pa_cons (pe_callB call_len_seq (by rfl) T.len (by decide +kernel) (pa_cons (pv 0) pa_nil)) pa_nil)) (pg_name (i := 2) sc20.nd rfl (Or.inr rfl)) 
      (pss_cons (ps_set (i := 3) sc20.nd rfl (Or.inr rfl) (pe_ix (ix_listK (K := K) rfl) (pv 0) (pv 2) (fun _ _ => rfl)))
      (pss_cons (ps_setLc (i := 0) (own := [("k", 4), ("row", 5)]) rfl sc20.nd rfl rfl (sw_true rfl rfl rfl (by decide +kernel)) (pi_enum rfl T.enumerate (pa_cons (pv 0) pa_nil)) (blkOk_by (N := n20) (sc := defScope s20) (by decide +kernel)) (fun _ _ _ _ _ => (pg_tupK (K := K) (n := 2) rfl rfl (pgs_cons (pg_name (i := 4) sc20.nd rfl (Or.inl rfl) (Or.inr rfl)) (pgs_cons (pg_name (i := 5) sc20.nd rfl (Or.inl rfl) (Or.inr rfl)) pgs_nil)))) (fun _ _ _ _ _ => pts_nil) (fun _ _ _ _ _ => (pe_ifExp (pt_cmpR op_eq (pv 4) (pv 2) (nomark _)) (pv 5) (pe_fn g_without_unknown (hr.mono (by decide)) rfl (pa_cons (pv 5) (pa_cons (pv 3) (pa_cons (pv 2) (pa_cons (pv 1) pa_nil))))))))
      (pss_one (ps_set (i := 1) sc20.nd rfl (Or.inr rfl) (pe_ix (ix_listK (K := K) rfl) (pv 3) (pv 2) (fun _ _ => rfl)))))))
    (pss_one (ps_ret (pe_tup (pa_cons (pe_lc (own := [("row", 5)]) rfl sc20.nd (pi_list (pv 0)) (blkOk_by (N := n20) (sc := defScope s20) (by decide +kernel)) (fun _ _ _ _ _ => (pg_name (i := 5) sc20.nd rfl (Or.inl rfl) (Or.inr rfl))) (fun _ _ _ _ _ => pts_nil) (fun _ _ _ _ _ => (pe_ix (ix_listK (K := K) rfl) (pv 5) (pe_un un_neg pe_int) (fun _ _ => rfl)))) (pa_cons (pv 1) pa_nil)))))))), ?_⟩
  obtain ⟨as0, hl0, hS0, _⟩ := id hR
  refine ⟨_, rfl, a, _, rfl, .inl hS0, _, rfl, ?_, ?_, ?_⟩
  · rw [List.length_map]
    omega
  · rw [List.length_map]
    omega
  have en : (((as0.map V.ref).length : Int)).toNat = n := by
    rw [List.length_map, hl0]
    simp
  rw [en]
  refine for_it (walk_range (lo := 0) (n := n)) (fun k σ Hu => (∃ b y2 y3, σ = [some (.ref b), some (.int (K72M.hd n c k)), y2, y3, none, none] ∧ Rws K Hu b n (rowL n c k)) ∧ Same H Hu) ⟨⟨a, none, none, by rw [K72M.hd_zero]; rfl, hR⟩, Same.refl H⟩ (fun _ _ _ _ _ => trivial) ?_ ?_
  · rintro k x σ Hu Hu' hk ⟨⟨b, y2, y3, rfl, hRb⟩, sm⟩ ⟨rfl, hx⟩
    obtain rfl : x = V.int (k : Int) := by
      rw [hx]
      show V.int (0 + (k : Int)) = V.int (k : Int)
      rw [Int.zero_add]
    obtain ⟨as, hl, hS, hrow⟩ := id hRb
    obtain ⟨r, hrk, hrH⟩ := hrow k hk
    -- head = rows[at]
    refine ⟨_, rfl, _, rfl, b, _, _, .ref r, rfl, rfl, hS, atI_nat (by rw [List.getElem?_map, hrk]; rfl), ?_⟩
    -- rows = [..]
    refine ⟨_, rfl, b, _, rfl, hS, fun D hD => ?_⟩
    refine lc_r (List.range n) (fun i => .lst ((rowL n c (k + 1) i).map V.int)) (by
        have w := walk_enum (K := K) (a := b) (xs := as.map V.ref)
        rw [show (as.map V.ref).length = (List.range n).length by simp [hl]] at w
        exact w) (by rw [List.length_range]; omega) hD (fun H' e => e.seq hS) ?_ ?_
    · rintro i i' v H1 H2 hi e1 ⟨T, x1, y1, rfl, hT, rfl, hx, hy⟩ A B hA2
      have hin : i < n := by
        have := (List.getElem?_eq_some_iff.mp hi).1
        rw [List.length_range] at this
        exact this
      obtain rfl : i' = i := by
        rw [List.getElem?_range hin] at hi
        exact (Option.some.inj hi).symm
      obtain rfl : x1 = V.int (i' : Nat) := (Option.some.inj hx).symm
      replace hy : (as.map V.ref)[i']? = some y1 := hy
      obtain ⟨r', hr', hrH'⟩ := hrow i' hin
      obtain rfl : y1 = V.ref r' := by
        rw [List.getElem?_map, hr'] at hy
        exact (Option.some.inj hy).symm
      have sT := same_new (o := .tup [V.int (i' : Nat), V.ref r']) hT
      refine ⟨T, _, rfl, .inl (.inl upd_same), rfl, _, _, rfl, _, _, rfl, rfl, rfl, ty ?_⟩
      refine ⟨_, rfl, _, rfl, rfl, _, rfl, ?_⟩
      by_cases ek : i' = k
      · subst ek
        refine iteY rfl ⟨_, rfl, ?_⟩
        refine hA2 r' _ sT (.inr ⟨_, hrH'⟩) ?_
        rw [sT _ _ (e1 _ _ hrH')]
        congr 2
        unfold rowL
        rw [List.map_map, List.map_map]
        refine List.map_congr_left fun j _ => ?_
        show V.int (K72M.ph n c i' i' (c j)) = V.int (K72M.ph n c (i' + 1) i' (c j))
        rw [K72M.ph_head n c hk]
      · refine iteN (fun z => ek (by have := V.int.inj z; omega)) ?_
        refine ⟨_, rfl, _, rfl, _, rfl, _, rfl, r', r, rowL n c k i', rowL n c k k, k, K72M.hd n c k, _, _, rfl, SqL.of (sT _ _ (e1 _ _ hrH')), SqL.of (sT _ _ (e1 _ _ hrH)), by rw [rowL_len, rowL_len], by rw [rowL_len]; omega,
          rowL_get (by omega), rowL_get (by omega), hdp k (by omega), hdb k (by omega), rb k i' (by omega) hin, rb k k (by omega) hk, fun H3 p s3 hp hp3 => ?_⟩
        refine hA2 p H3 (sT.trans s3) (.inl (sT.free hp)) ?_
        rw [hp3]
        congr 2
        apply List.ext_getElem?
        intro j
        by_cases hj : j < n + 1
        · have ez : ((rowL n c k i').zip (rowL n c k k))[j]? = some (K72M.ph n c k i' (c j), K72M.ph n c k k (c j)) := List.getElem?_zip_eq_some.mpr ⟨rowL_get (show j ≤ n by omega), rowL_get (show j ≤ n by omega)⟩
          rw [List.getElem?_map, rowL_V (show j ≤ n by omega), ez]
          show some (V.int ((K72M.ph n c k k (c k) * K72M.ph n c k i' (c j) - K72M.ph n c k i' (c k) * K72M.ph n c k k (c j)) / K72M.hd n c k)) = some (V.int (K72M.ph n c (k + 1) i' (c j)))
          have st := K72M.step_div G hk hin ek (show j ≤ n by omega)
          have hp0 := hdp k (by omega)
          rw [← st, Int.mul_ediv_cancel_left _ (by omega)]
        · rw [List.getElem?_eq_none (by rw [List.length_map, List.length_zip, rowL_len, rowL_len]; omega), List.getElem?_eq_none (by rw [List.length_map, rowL_len]; omega)]
    · intro H1 bs e1 hbl hbs hbD
      -- last = head[at]
      have hrH1 := e1 _ _ hrH
      refine ⟨_, rfl, _, rfl, r, _, _, _, rfl, rfl, SqL.of hrH1, atI_nat (rowL_V (by omega)), ⟨D, some (V.int (k : Int)), some (V.ref r), ?_, bs, by rw [hbl, List.length_range], SqL.of hbD, fun i hi => hbs i i (List.getElem?_range hi)⟩, sm.trans e1⟩
      rw [← K72M.hd_succ n c hk]
      rfl
  · rintro σ Hu ⟨⟨b, y2, y3, rfl, hRb⟩, sm⟩
    obtain ⟨as, hl, hS, hrow⟩ := id hRb
    refine ⟨_, rfl, b, rfl, ⟨_, hS⟩, fun D hD => ?_⟩
    refine lc_l (List.range n) (fun _ => true) (fun i => V.int (K72M.ph n c n i (c n))) (by
        have w := walk_list (K := K) (a := b) (xs := as.map V.ref)
        rw [show (as.map V.ref).length = (List.range n).length by simp [hl]] at w
        exact w) (by rw [List.length_range]; omega) hD (fun H' e => e.seq hS) ?_ ?_
    · rintro i i' v H1 H2 hi e1 ⟨rfl, hx⟩ A B hA2 hB2
      have hin : i < n := by
        have := (List.getElem?_eq_some_iff.mp hi).1
        rw [List.length_range] at this
        exact this
      obtain rfl : i' = i := by
        rw [List.getElem?_range hin] at hi
        exact (Option.some.inj hi).symm
      obtain ⟨r', hr', hrH'⟩ := hrow i' hin
      obtain rfl : v = V.ref r' := by
        rw [List.getElem?_map, hr'] at hx
        exact (Option.some.inj hx).symm
      refine ⟨rfl, ty ⟨_, rfl, 1, rfl, r', _, _, _, rfl, rfl, SqL.of (e1 _ _ hrH'), ?_, hA2 rfl _ (Same.refl _)⟩⟩
      have e : (rowL n c n i').map V.int = ((List.range n).map fun j => V.int (K72M.ph n c n i' (c j))) ++ [V.int (K72M.ph n c n i' (c n))] := by
        unfold rowL
        rw [List.range_succ, List.map_append, List.map_append, List.map_map]
        rfl
      rw [e]
      exact atI_last _ _
    · intro H1 e1 hD1
      refine ⟨_, rfl, (by show 2 ≤ sizeLine; decide), fun p hp => ?_⟩
      have sp := same_new (o := .tup [V.ref D, V.int (K72M.hd n c n)]) hp
      refine q _ p D ((sm.trans e1).trans sp) ((sm.trans e1).free hp) upd_same ?_
      rw [sp _ _ hD1, List.filter_eq_self.mpr fun _ _ => rfl]
end
end K72
end
section
set_option Elab.async false
set_option linter.all false
set_option maxRecDepth 100000
set_option maxHeartbeats 4000000
set_option exponentiation.threshold 3000
namespace K72
open PySem PySem.Spec PyProof.Rows L2
/-- [e for pair, coins in debts.items() if t] -/
theorem lc_items {td : TE} {g : TG} {tt : TT} {te : TE} {vs : List Nat} {σ : L2.St} {H : Hp} {Q : VK} {d : Addr} (D : List K72M.Debt) (p : K72M.Debt → Bool) (q : K72M.Debt → V) (ht : ∀ H Q, Q (.ref d) H → td σ H Q) (hd : H d = some (.dK (DD D))) (hz : D.length ≤ 1000)
    (hs : ∀ (x : K72M.Debt) (T : Addr) (H2 : Hp) (ob : Obj), x ∈ D → Same (upd H d (.frz ob (.dK (DD D)))) H2 → H2 T = some (.tup [.str (pr x.1.1 x.1.2), .int x.2]) → ∀ (A : V → Hp → Prop) (B : Hp → Prop), (p x = true → ∀ H4, Same H2 H4 → A (q x) H4) → (p x = false → ∀ H4, Same H2 H4 → B H4) →
      g (.ref T) (wipe σ vs) H2 fun σ2 H3 => wipe σ2 vs = wipe σ vs ∧ tt σ2 H3 fun b H3 => if b = true then te σ2 H3 A else B H3)
    (hq : ∀ H' l, Same H H' → H l = none → H' l = some (.lst ((D.filter p).map q)) → Q (.ref l) H') : tLockE (tLc (iItems td) g tt te vs) σ H Q := by
  refine ⟨d, _, hd, trivial, fun ob => ?_⟩
  refine ht _ _ ⟨d, ob, DD D, rfl, upd_same, fun l hl => ?_⟩
  have ln : l ≠ d := fun e => by
    rw [e, upd_same] at hl
    cases hl
  have w := walk_items (d := d) (o := ob) (kvs := DD D)
  rw [DD_len] at w
  refine lc_l D p q w hz hl (fun H' e => e _ _ upd_same) ?_ ?_
  · rintro i x v H1 H2 hx e1 ⟨T, k1, v1, rfl, hT, rfl, hk, hv⟩ A B hA hB
    have hDD : (DD D)[i]? = some (Sum.inr (pr x.1.1 x.1.2), V.int x.2) := by
      unfold DD
      rw [List.getElem?_map, hx]
      rfl
    replace hk : ((DD D)[i]?.map fun kv => kV kv.1) = some k1 := hk
    replace hv : ((DD D)[i]?.map Prod.snd) = some v1 := hv
    rw [hDD] at hk hv
    obtain rfl : V.str (pr x.1.1 x.1.2) = k1 := Option.some.inj hk
    obtain rfl : V.int x.2 = v1 := Option.some.inj hv
    have sT := same_new (o := .tup [V.str (pr x.1.1 x.1.2), V.int x.2]) hT
    exact hs x T _ ob (List.mem_of_getElem? hx) (e1.trans sT) upd_same A B (fun h H4 e => hA h H4 (sT.trans e)) (fun h H4 e => hB h H4 (sT.trans e))
  · intro H1 e1 hl1
    refine ⟨e1 _ _ upd_same, hq _ l (unlock hd e1) ?_ ?_⟩
    · rw [upd_ne ln] at hl
      exact hl
    · rw [upd_ne ln]
      exact hl1
theorem sum_owe (D : List K72M.Debt) (p : Nat) : ((D.filter fun x => decide (x.1.1 = p)).map fun x => x.2).sum = K72M.owe D p := by
  rw [K72M.ls_sum, K72M.ls_filter]
  refine K72M.ls_congr D fun x _ => ?_
  by_cases h : x.1.1 = p <;> simp [h]
theorem sum_recv (D : List K72M.Debt) (s : Nat → Int) (p : Nat) : ((D.filter fun x => decide (x.1.2 = p)).map fun x => x.2 * s x.1.1).sum = K72M.recv D s p := by
  rw [K72M.ls_sum, K72M.ls_filter]
  refine K72M.ls_congr D fun x _ => ?_
  by_cases h : x.1.2 = p <;> simp [h]
theorem sum_full (D : List K72M.Debt) (F : List Nat) (p : Nat) : ((D.filter fun x => decide (x.1.2 = p) && !decide (x.1.1 ∈ F)).map fun x => x.2).sum = K72M.full D F p := by
  rw [K72M.ls_sum, K72M.ls_filter]
  refine K72M.ls_congr D fun x _ => ?_
  by_cases h : x.1.2 = p <;> by_cases h2 : x.1.1 ∈ F <;> simp [h, h2]
theorem ints_map {α : Type} (l : List α) (f : α → Int) : (l.map fun x => V.int (f x)) = (l.map f).map V.int := by
  rw [List.map_map]
  rfl
theorem DD_getD {D : List K72M.Debt} (nd : (D.map (·.1)).Nodup) (o p : Nat) : (valV (DD D) (Sum.inr (pr o p))).getD (.int 0) = .int (K72M.val D o p) := by
  by_cases h : (o, p) ∈ D.map (·.1)
  · have e := DD_val nd h
    rw [show valV (DD D) (Sum.inr (pr o p)) = some (.int (K72M.val D o p)) from e]
    rfl
  · have e := DD_none h
    rw [show valV (DD D) (Sum.inr (pr o p)) = none from e]
    have z : K72M.val D o p = 0 := by
      unfold K72M.val
      rw [K72M.ls_congr D (g := fun _ => 0) (fun x hx => if_neg fun z => h (List.mem_map.mpr ⟨x, hx, z⟩)), K72M.ls_zero]
    rw [z]
    rfl
theorem ix0 (a b : Nat) : atI (pr a b).cps.toList 0 = some a := rfl
theorem ix1 (a b : Nat) : atI (pr a b).cps.toList 1 = some b := rfl
theorem pr_small (a b : Nat) : (pr a b).length ≤ sizeLine := tx_small (by simp)
section
variable {P : Program} {w : World} {K : PySem.W.Frag} {mg : Str → Option Value} {base : Heap}
/-! debt_of: 0 debts, 1 party, 2 pair, 3 coins -/
abbrev n22 : List Str := ["debts", "party", "pair", "coins"]
theorem sc22 : FnScope n22 ["debts", "party"] (defScope s22) := ⟨rfl, rfl, rfl, by decide +kernel, rfl, by decide +kernel, by decide +kernel⟩
def spDebtOf : Sp := fun vs H Q _ => ∃ (d : Addr) (D : List K72M.Debt) (p : Nat), vs = [.ref d, .str (sg p)] ∧ H d = some (.dK (DD D)) ∧ D.length ≤ 1000 ∧ ∀ H', Same H H' → Q (.int (K72M.owe D p)) H'
theorem ok_debt_of (F : Here K mg "debt_of" s22) (T : Txt K mg) : Fn P w K mg base 1 "debt_of" ["debts", "party"] spDebtOf := by
  refine F.fn sc22 (fun _ _ _ _ _ _ us hl => match us, hl with | [_, _], _ => rfl) (fun vs H Q E h => by obtain ⟨_, _, _, rfl, _⟩ := h; rfl) fun f cdv A outer s H vs Q E hr h => ?_
  have hu := hu_of hr
  obtain ⟨d, D, p, rfl, hd, hz, q⟩ := h
  refine ⟨_, (
    (pss_one (ps_ret (pe_callB (cr_sum rfl) (by rfl) T.sum (by decide +kernel) (pa_cons (pe_lock (pe_lc (own := [("pair", 2), ("coins", 3)]) rfl sc22.nd (pi_items (pv 0)) (blkOk_by (N := n22) (sc := defScope s22) (by decide +kernel)) (fun _ _ _ _ _ => (pg_tupK (K := K) (n := 2) rfl rfl (pgs_cons (pg_name (i := 2) sc22.nd rfl (Or.inl rfl) (Or.inr rfl)) (pgs_cons (pg_name (i := 3) sc22.nd rfl (Or.inl rfl) (Or.inr rfl)) pgs_nil)))) (fun _ _ _ _ _ => (pts_one (pt_cmpR op_eq (pe_ix ix_str (pv 2) pe_int (fun _ _ => rfl)) (pv 1) (nomark _)))) (fun _ _ _ _ _ => (pv 3)))) pa_nil))))), ?_⟩
  refine lc_items D (fun x => decide (x.1.1 = p)) (fun x => .int x.2) (fun H Q h => ⟨_, rfl, h⟩) hd hz ?_ ?_
  · rintro ⟨⟨x1, x2⟩, xc⟩ T H2 ob hx e2 hT A B hA hB
    refine ⟨T, _, rfl, .inl (.inl hT), rfl, _, _, rfl, _, _, rfl, rfl, rfl, ?_⟩
    refine ⟨_, rfl, _, 0, x1, rfl, rfl, pr_small _ _, ix0 _ _, _, rfl, rfl, _, rfl, ?_⟩
    by_cases h : x1 = p
    · exact iteY (sgV.mpr h) ⟨_, rfl, hA (decide_eq_true h) _ (Same.refl _)⟩
    · exact iteN (fun z => h (sgV.mp z)) (hB (decide_eq_false h) _ (Same.refl _))
  · intro H1 l e1 hl hl1
    refine ⟨l, _, rfl, SqL.of (by rw [hl1, ints_map]), ?_⟩
    rw [sum_owe]
    exact q H1 e1
/-! received: 0 debts, 1 shares, 2 party, 3 pair, 4 coins -/
abbrev n24 : List Str := ["debts", "shares", "party", "pair", "coins"]
theorem sc24 : FnScope n24 ["debts", "shares", "party"] (defScope s24) := ⟨rfl, rfl, rfl, by decide +kernel, rfl, by decide +kernel, by decide +kernel⟩
def spReceived : Sp := fun vs H Q _ => ∃ (d sd : Addr) (D : List K72M.Debt) (P : List Nat) (s : Nat → Int) (p : Nat), vs = [.ref d, .ref sd, .str (sg p)] ∧ H d = some (.dK (DD D)) ∧ sd ≠ d ∧ H sd = some (.dK (PD P fun q => .int (s q))) ∧ D.length ≤ 1000 ∧
  (∀ x ∈ D, x.1.2 = p → x.1.1 ∈ P) ∧ (∀ x ∈ D, x.2.natAbs < 2 ^ 100000) ∧ (∀ q, (s q).natAbs < 2 ^ 100000) ∧ ∀ H', Same H H' → Q (.int (K72M.recv D s p)) H'
theorem ok_received (F : Here K mg "received" s24) (T : Txt K mg) : Fn P w K mg base 1 "received" ["debts", "shares", "party"] spReceived := by
  refine F.fn sc24 (fun _ _ _ _ _ _ us hl => match us, hl with | [_, _, _], _ => rfl) (fun vs H Q E h => by obtain ⟨_, _, _, _, _, _, rfl, _⟩ := h; rfl) fun f cdv A outer s H vs Q E hr h => ?_
  have hu := hu_of hr
  obtain ⟨d, sd, D, P, s, p, rfl, hd, ne, hsd, hz, hP, b1, b2, q⟩ := h
  refine ⟨_, (
    (pss_one (ps_ret (pe_callB (cr_sum rfl) (by rfl) T.sum (by decide +kernel) (pa_cons (pe_lock (pe_lc (own := [("pair", 3), ("coins", 4)]) rfl sc24.nd (pi_items (pv 0)) (blkOk_by (N := n24) (sc := defScope s24) (by decide +kernel)) (fun _ _ _ _ _ => (pg_tupK (K := K) (n := 2) rfl rfl (pgs_cons (pg_name (i := 3) sc24.nd rfl (Or.inl rfl) (Or.inr rfl)) (pgs_cons (pg_name (i := 4) sc24.nd rfl (Or.inl rfl) (Or.inr rfl)) pgs_nil)))) (fun _ _ _ _ _ => (pts_one (pt_cmpR op_eq (pe_ix ix_str (pv 3) pe_int (fun _ _ => rfl)) (pv 2) (nomark _)))) (fun _ _ _ _ _ => (pe_op op_mulW (pv 4) (pe_dget hu (pv 1) (pe_ix ix_str (pv 3) pe_int (fun _ _ => rfl)) (fun _ _ => rfl)))))) pa_nil))))), ?_⟩
  refine lc_items D (fun x => decide (x.1.2 = p)) (fun x => .int (x.2 * s x.1.1)) (fun H Q h => ⟨_, rfl, h⟩) hd hz ?_ ?_
  · rintro ⟨⟨x1, x2⟩, xc⟩ T H2 ob hx e2 hT A B hA hB
    refine ⟨T, _, rfl, .inl (.inl hT), rfl, _, _, rfl, _, _, rfl, rfl, rfl, ?_⟩
    refine ⟨_, rfl, _, 1, x2, rfl, rfl, pr_small _ _, ix1 _ _, _, rfl, rfl, _, rfl, ?_⟩
    by_cases h : x2 = p
    · have hs2 : H2 sd = some (.dK (PD P fun q => .int (s q))) := e2 _ _ (in_lock hsd ne)
      have g : DGet H2 sd (V.str (sg x1)) (some (.int (s x1))) := by
        have := DGet.k (k := Sum.inr (sg x1)) hs2
        rw [PD_in (hP _ hx h)] at this
        exact this
      exact iteY (sgV.mpr h) ⟨_, rfl, _, rfl, _, rfl, _, 0, x1, rfl, rfl, pr_small _ _, ix0 _ _, sd, _, rfl, g, _, _, rfl, rfl, mul_ok (b1 _ hx) (b2 _), hA (decide_eq_true h) _ (Same.refl _)⟩
    · exact iteN (fun z => h (sgV.mp z)) (hB (decide_eq_false h) _ (Same.refl _))
  · intro H1 l e1 hl hl1
    refine ⟨l, _, rfl, SqL.of (by rw [hl1, ints_map]), ?_⟩
    rw [sum_recv]
    exact q H1 e1
/-! equation_of: 0 debts, 1 purses, 2 failing, 3 party, 4 row, 5 full, 6 other, 7 pair, 8 coins -/
abbrev n25 : List Str := ["debts", "purses", "failing", "party", "row", "full", "other", "pair", "coins"]
theorem sc25 : FnScope n25 ["debts", "purses", "failing", "party"] (defScope s25) := ⟨rfl, rfl, rfl, by decide +kernel, rfl, by decide +kernel, by decide +kernel⟩
def spEquation : Sp := fun vs H Q _ => ∃ (d pd : Addr) (D : List K72M.Debt) (P F : List Nat) (e : Nat → Int) (t : Nat), vs = [.ref d, .ref pd, .str (tx F), .str (sg (K72M.fa F t))] ∧ H d = some (.dK (DD D)) ∧ H pd = some (.dK (PD P fun q => .int (e q))) ∧ D.length ≤ 1000 ∧ F.length ≤ 6 ∧ t < F.length ∧
  K72M.fa F t ∈ P ∧ (D.map (·.1)).Nodup ∧ ∀ H' p, Same H H' → H p = none → H' p = some (.lst ((List.range (F.length + 1)).map fun j => V.int (K72M.mx D e F j t))) → Q (.ref p) H'
theorem ok_equation_of (F : Here K mg "equation_of" s25) (T : Txt K mg) (g_debt_of : Fn P w K mg base 1 "debt_of" ["debts", "party"] spDebtOf) : Fn P w K mg base 2 "equation_of" ["debts", "purses", "failing", "party"] spEquation := by
  refine F.fn sc25 (fun _ _ _ _ _ _ us hl => match us, hl with | [_, _, _, _], _ => rfl) (fun vs H Q E h => by obtain ⟨_, _, _, _, _, _, _, rfl, _⟩ := h; rfl) fun f cdv A outer s H vs Q E hr h => ?_
  have hu := hu_of hr
  obtain ⟨d, pd, D, P, F, e, t, rfl, hd, hpd, hz, h6, ht, hP, nd, q⟩ := h
  refine ⟨_, (
    (pss_cons (ps_setLc (i := 4) (own := [("other", 6)]) rfl sc25.nd rfl rfl (sw_true rfl rfl rfl (by decide +kernel)) (pi_str (pv 2)) (blkOk_by (N := n25) (sc := defScope s25) (by decide +kernel)) (fun _ _ _ _ _ => (pg_name (i := 6) sc25.nd rfl (Or.inl rfl) (Or.inr rfl))) (fun _ _ _ _ _ => pts_nil) (fun _ _ _ _ _ => (pe_ifExp (pt_cmpR op_eq (pv 6) (pv 3) (nomark _)) (pe_fn g_debt_of (hr.mono (by decide)) rfl (pa_cons (pv 0) (pa_cons (pv 3) pa_nil))) (pe_op op_sub pe_int (pe_dget2 hu (pv 0) (pe_op op_add_str (pv 6) (pv 3)) pe_int ⟨rfl, rfl, rfl, rfl⟩)))))
    (pss_cons (ps_set (i := 5) sc25.nd rfl (Or.inl rfl) (pe_callB (cr_sum rfl) (by rfl) T.sum (by decide +kernel) (pa_cons (pe_lock (pe_lc (own := [("pair", 7), ("coins", 8)]) rfl sc25.nd (pi_items (pv 0)) (blkOk_by (N := n25) (sc := defScope s25) (by decide +kernel)) (fun _ _ _ _ _ => (pg_tupK (K := K) (n := 2) rfl rfl (pgs_cons (pg_name (i := 7) sc25.nd rfl (Or.inl rfl) (Or.inr rfl)) (pgs_cons (pg_name (i := 8) sc25.nd rfl (Or.inl rfl) (Or.inr rfl)) pgs_nil)))) (fun _ _ _ _ _ => (pts_one (PW.pt (pw_and (pt_cmpR op_eq (pe_ix ix_str (pv 7) pe_int (fun _ _ => rfl)) (pv 3) (nomark _)) (pw_and1 (pt_cmpR op_notIn_sign (pe_ix ix_str (pv 7) pe_int (fun _ _ => rfl)) (pv 2) rfl)))))) (fun _ _ _ _ _ => (pv 8)))) pa_nil)))
    (pss_one (ps_ret (pe_op op_cat (pv 4) (pe_lst (pa_cons (pe_op op_add (pe_dget hu (pv 1) (pv 3) (fun _ _ => rfl)) (pv 5)) pa_nil)))))))), ?_⟩
  -- row = [..]
  refine ⟨_, rfl, tx F, rfl, fun R hR => ?_⟩
  refine lc_l (List.range F.length) (fun _ => true) (fun j => .int (K72M.mx D e F j t)) (by
      have w := walk_str (z := tx F)
      rw [tx_size, show F.length = (List.range F.length).length by simp] at w
      exact w) (by rw [List.length_range]; omega) hR (fun _ _ => trivial) ?_ ?_
  · rintro i j v H1 H2 hj e1 ⟨rfl, c, hc, rfl⟩ A B hA hB
    have hjn : i < F.length := by
      have := (List.getElem?_eq_some_iff.mp hj).1
      rw [List.length_range] at this
      exact this
    obtain rfl : j = i := by
      rw [List.getElem?_range hjn] at hj
      exact (Option.some.inj hj).symm
    obtain rfl : c = K72M.fa F j := by
      rw [tx_get, K72M.fa_at hjn] at hc
      exact (Option.some.inj hc).symm
    refine ⟨rfl, ty ?_⟩
    refine ⟨_, rfl, _, rfl, rfl, _, rfl, ?_⟩
    by_cases h : K72M.fa F j = K72M.fa F t
    · refine iteY (sgV.mpr h) ⟨_, rfl, _, rfl, d, D, _, rfl, e1 _ _ hd, hz, fun H3 e3 => ?_⟩
      have := hA rfl H3 e3
      rw [K72M.mx_in hjn ht, if_pos h] at this
      exact this
    · have hd2 := e1 _ _ hd
      have g := DGet.k (k := Sum.inr (pr (K72M.fa F j) (K72M.fa F t))) hd2
      refine iteN (fun z => h (sgV.mp z)) ?_
      refine ⟨_, rfl, d, rfl, .inl ⟨_, .inl hd2⟩, _, rfl, _, rfl, _, _, rfl, rfl, (by show (sg (K72M.fa F j)).length + (sg (K72M.fa F t)).length ≤ sizeLine; rw [tx_len, tx_len]; exact Nat.le_of_lt (small1000 (by simp))), _, g, ?_⟩
      rw [DD_getD nd]
      refine ⟨_, _, rfl, rfl, ?_⟩
      have := hA rfl H2 (Same.refl _)
      rw [K72M.mx_in hjn ht, if_neg h] at this
      exact this
  · intro H1 e1 hR1
    rw [List.filter_eq_self.mpr fun _ _ => rfl] at hR1
    -- full = sum(..)
    refine lc_items D (fun x => decide (x.1.2 = K72M.fa F t) && !decide (x.1.1 ∈ F)) (fun x => .int x.2) (fun H Q h => ⟨_, rfl, h⟩) (e1 _ _ hd) hz ?_ ?_
    · rintro ⟨⟨x1, x2⟩, xc⟩ T H2 ob hx e2 hT A B hA hB
      refine ⟨T, _, rfl, .inl (.inl hT), rfl, _, _, rfl, _, _, rfl, rfl, rfl, ?_⟩
      refine ⟨_, rfl, _, 1, x2, rfl, rfl, pr_small _ _, ix1 _ _, _, rfl, rfl, _, rfl, ?_⟩
      by_cases h : x2 = K72M.fa F t
      · refine iteY (sgV.mpr h) ⟨_, rfl, _, 0, x1, rfl, rfl, pr_small _ _, ix0 _ _, _, rfl, x1, tx F, rfl, rfl, _, rfl, ?_⟩
        rw [tx_cps]
        by_cases hF : x1 ∈ F
        · rw [decide_eq_true hF]
          exact iteF (hB (by simp [h, hF]) _ (Same.refl _))
        · rw [decide_eq_false hF]
          exact iteT ⟨_, rfl, hA (by simp [h, hF]) _ (Same.refl _)⟩
      · refine iteN (fun z => h (sgV.mp z)) (iteF (hB (by simp [h]) _ (Same.refl _)))
    · intro H2 l e2 hl hl2
      refine ⟨l, _, rfl, SqL.of (by rw [hl2, ints_map]), ?_⟩
      rw [sum_full]
      -- return row + [purses[party] + full]
      have hpd2 : H2 pd = some (.dK (PD P fun q => .int (e q))) := e2 _ _ (e1 _ _ hpd)
      have g : DGet H2 pd (V.str (sg (K72M.fa F t))) (some (.int (e (K72M.fa F t)))) := by
        have := DGet.k (k := Sum.inr (sg (K72M.fa F t))) hpd2
        rw [PD_in hP] at this
        exact this
      refine ⟨_, rfl, _, rfl, _, rfl, pd, _, rfl, g, _, rfl, _, _, rfl, rfl, (by show 1 ≤ sizeLine; decide), fun r hr => ?_⟩
      have sr := same_new (o := .lst [V.int (e (K72M.fa F t) + K72M.full D F (K72M.fa F t))]) hr
      refine ⟨R, r, _, _, rfl, rfl, sr _ _ (e2 _ _ hR1), upd_same, ?_, fun p hp => ?_⟩
      · rw [List.length_map, List.length_range]
        exact Nat.le_of_lt (small1000 (by show F.length + 1 ≤ 1000; omega))
      · have sp := same_new (o := .lst (((List.range F.length).map fun j => V.int (K72M.mx D e F j t)) ++ [V.int (e (K72M.fa F t) + K72M.full D F (K72M.fa F t))])) hp
        have sA := ((e1.trans e2).trans sr).trans sp
        refine q _ p sA (((e1.trans e2).trans sr).free hp) ?_
        rw [upd_same, List.range_succ, List.map_append]
        show some (HO.lst (_ ++ [V.int (e (K72M.fa F t) + K72M.full D F (K72M.fa F t))])) = some (HO.lst (_ ++ [V.int (K72M.mx D e F F.length t)]))
        rw [K72M.mx_rhs ht]
end
end K72
end
section
set_option Elab.async false
set_option linter.all false
set_option maxRecDepth 100000
set_option maxHeartbeats 4000000
set_option exponentiation.threshold 3000
namespace K72
open PySem PySem.Spec PyProof.Rows L2
theorem walk_zips {K : PySem.W.Frag} {x : Str} {b : Addr} {ys : List V} (hl : ys.length = x.cps.size) : Walk (Itzs K x b) x.cps.size (fun H => SqL K H b ys)
    (fun i H v H' => ∃ T c y, v = .ref T ∧ H T = none ∧ H' = upd H T (.tup [.str ⟨#[c]⟩, y]) ∧ x.cps[i]? = some c ∧ ys[i]? = some y) := by
  refine ⟨fun i H hi q => ⟨ys, q, hl, hi⟩, fun H q => ⟨ys, q, hl, rfl⟩, fun i H v H' hi q y => ?_⟩
  obtain ⟨T, c, z, h1, h2, h3, h4, h5⟩ := y
  exact ⟨T, c, z, h1, h2, h3, h4, h5 ys q⟩
section
variable {J : It} {G : Hp → Prop} {Y : Nat → Hp → V → Hp → Prop} {α : Type} {g : TG} {tt : TT} {te tk tv : TE} {vs : List Nat} {σ : L2.St} {H1 : Hp} {D : Addr} {Qd : Hp → Prop}
/-- a dict comprehension, keys all apart, the values objects -/
theorem dc_r (l : List α) (kf : α → Key) (q : α → HO) (w : Walk J l.length G Y) (hz : l.length ≤ 1000) (hD : H1 D = none) (hG : ∀ H, Same H1 H → G H) (nd : (l.map kf).Nodup)
    (hs : ∀ (i : Nat) (a : α) (x : V) (H H' : Hp), l[i]? = some a → Same H1 H → Y i H x H' → ∀ (A : V → V → Hp → Prop) (B : Hp → Prop), (∀ r H4, Same H H4 → (H r = none ∨ ∃ o, H1 r = some o) → H4 r = some (q a) → A (kV (kf a)) (.ref r) H4) →
      g x (wipe σ vs) H' fun σ2 H2 => wipe σ2 vs = wipe σ vs ∧ tt σ2 H2 fun b H3 => if b = true then tk σ2 H3 fun y H4 => tv σ2 H4 fun z H5 => A y z H5 else B H3)
    (hd : ∀ (H : Hp) (t : α → Addr), Same H1 H → (∀ a ∈ l, H (t a) = some (q a)) → H D = some (.dK (l.map fun a => (kf a, V.ref (t a)))) → Qd H) :
    ∃ W : Nat → Nat → Hp → Prop, (∃ m, W 0 m (upd H1 D (.dK []))) ∧ ∀ i m H, W i m H →
      (J.stop i H ∧ Qd H) ∨ (J.go i H ∧ ∃ Nx : Hp → Prop, (∀ H', Nx H' → ∃ m', m' < m ∧ W (i + 1) m' H') ∧ ∀ x H', J.yld i H x H' → g x (wipe σ vs) H' fun σ2 H2 => wipe σ2 vs = wipe σ vs ∧ tt σ2 H2 fun b H3 =>
        if b = true then tk σ2 H3 fun y H4 => tv σ2 H4 fun z H5 => ∃ kvs k, y = kV k ∧ H5 D = some (.dK kvs) ∧ kvs.length < sizeLine ∧ Nx (upd H5 D (.dK (putK kvs k z))) else Nx H3) := by
  refine dc_it w (fun i H => Same H1 H ∧ ∃ t : α → Addr, (∀ a ∈ l.take i, t a ≠ D ∧ H (t a) = some (q a)) ∧ H D = some (.dK ((l.take i).map fun a => (kf a, V.ref (t a))))) ⟨same_new hD, fun _ => 0, (fun a h => by cases h), upd_same⟩ (fun i H _ h => hG H h.1) (fun i x H H' hi h y => ?_) fun H h => ?_
  · obtain ⟨s1, t, ht, hDd⟩ := h
    obtain ⟨a, ha⟩ : ∃ a, l[i]? = some a := ⟨l[i], List.getElem?_eq_getElem hi⟩
    have fresh : ∀ b ∈ l.take i, kf b ≠ kf a := fun b hb ez => by
      obtain ⟨j, hj, ej⟩ := List.getElem_of_mem hb
      rw [List.length_take] at hj
      rw [List.getElem_take] at ej
      have hia := (List.getElem?_eq_some_iff.mp ha).2
      have q1 : (l.map kf)[j]'(by rw [List.length_map]; omega) = (l.map kf)[i]'(by rw [List.length_map]; omega) := by
        rw [List.getElem_map, List.getElem_map, ej, hia, ez]
      have := (List.getElem_inj nd).mp q1
      omega
    refine hs i a x H H' ha s1 y _ _ fun r H4 s4 hr0 hr4 => ?_
    have rD : r ≠ D := by
      rcases hr0 with z | ⟨o, z⟩
      · exact (ne_of_none hDd z).symm
      · exact ne_of_none z hD
    have new : valV ((l.take i).map fun a => (kf a, V.ref (t a))) (kf a) = none := by
      unfold valV
      rw [List.find?_eq_none.mpr]
      · rfl
      · intro kv hkv
        obtain ⟨b, hb, e⟩ := List.mem_map.mp hkv
        subst e
        intro z
        exact fresh b hb (of_decide_eq_true z)
    refine ⟨_, kf a, rfl, s4 _ _ hDd, ?_, same_mut (s1.trans s4) hD, fun b => if kf b = kf a then r else t b, fun b hb => ?_, ?_⟩
    · rw [List.length_map, List.length_take]
      exact small1000 (by omega)
    · rw [List.take_add_one, ha] at hb
      rcases List.mem_append.mp hb with hb | hb
      · have e := fresh b hb
        obtain ⟨e1, e2⟩ := ht b hb
        show (if kf b = kf a then r else t b) ≠ D ∧ upd H4 D _ (if kf b = kf a then r else t b) = _
        rw [if_neg e]
        exact ⟨e1, by rw [upd_ne e1]; exact s4 _ _ e2⟩
      · obtain rfl : b = a := by simpa using hb
        show (if kf b = kf b then r else t b) ≠ D ∧ upd H4 D _ (if kf b = kf b then r else t b) = _
        rw [if_pos rfl]
        exact ⟨rD, by rw [upd_ne rD]; exact hr4⟩
    · rw [upd_same, putK_new _ new, List.take_add_one, ha, List.map_append]
      congr 2
      refine congr (congrArg _ (List.map_congr_left fun b hb => ?_)) ?_
      · show (kf b, V.ref (t b)) = (kf b, V.ref (if kf b = kf a then r else t b))
        rw [if_neg (fresh b hb)]
      · show [(kf a, V.ref r)] = [(kf a, V.ref (if kf a = kf a then r else t a))]
        rw [if_pos rfl]
  · obtain ⟨s1, t, ht, hDd⟩ := h
    rw [List.take_length] at ht hDd
    exact hd H t s1 (fun a ha => (ht a ha).2) hDd
end
theorem keys_nd {P : List Nat} (h : P.Nodup) : (P.map fun p => (Sum.inr (sg p) : Key)).Nodup := List.Pairwise.map _ (fun a b ne e => ne (keyP.mp e)) h
section
variable {P : Program} {w : World} {K : PySem.W.Frag} {mg : Str → Option Value} {base : Heap}
/-! checked: 0 debts, 1 purses, 2 found, 3 party, 4 pair -/
abbrev n23 : List Str := ["debts", "purses", "found", "party", "pair"]
theorem sc23 : FnScope n23 ["debts", "purses"] (defScope s23) := ⟨rfl, rfl, rfl, by decide +kernel, rfl, by decide +kernel, by decide +kernel⟩
def spChecked : Sp := fun vs H Q _ => ∃ (d pd : Addr) (D : List K72M.Debt) (P : List Nat) (e : Nat → Int), vs = [.ref d, .ref pd] ∧ H d = some (.dK (DD D)) ∧ H pd = some (.dK (PD P fun q => .int (e q))) ∧ K72M.Raw D ∧ K72M.Purse P e ∧ K72M.Cov D P ∧
  ∀ H' p, Same H H' → H p = none → H' p = some (.dK (DD (K72M.tidyM D))) → Q (.ref p) H'
theorem ok_checked (F : Here K mg "checked" s23) (T : Txt K mg) (g_check_debts : Fn P w K mg base 3 "check_debts" ["debts"] spCheckDebts) (g_check_purses : Fn P w K mg base 3 "check_purses" ["purses"] spCheckPurses) (g_tidy : Fn P w K mg base 1 "tidy" ["debts"] spTidy) :
    Fn P w K mg base 4 "checked" ["debts", "purses"] spChecked := by
  obtain ⟨tP, gP⟩ := T.parties
  refine F.fn sc23 (fun _ _ _ _ _ _ us hl => match us, hl with | [_, _], _ => rfl) (fun vs H Q E h => by obtain ⟨_, _, _, _, _, rfl, _⟩ := h; rfl) fun f cdv A outer s H vs Q E hr h => ?_
  have hu := hu_of hr
  obtain ⟨d, pd, D, P, e, rfl, hd, hpd, hD, hP, hC, q⟩ := h
  refine ⟨_, (
    (pss_cons (ps_expr (pe_fn g_check_debts (hr.mono (by decide)) rfl (pa_cons (pv 0) pa_nil)))
    (pss_cons (ps_expr (pe_fn g_check_purses (hr.mono (by decide)) rfl (pa_cons (pv 1) pa_nil)))
    (pss_cons (ps_set (i := 2) sc23.nd rfl (Or.inl rfl) (pe_fn g_tidy (hr.mono (by decide)) rfl (pa_cons (pv 0) pa_nil)))
    (pss_cons (ps_for PassesOwn.never rfl (pi_str (pe_glob (v := .str "abcdef") rfl gP ⟨_, rfl⟩)) (pg_name (i := 3) sc23.nd rfl (Or.inr rfl)) 
      (pss_one (ps_if (PW.pt (pw_and (pt_cmp (pc_dnotin hu (pv 3) (pv 1))) (pw_and1 (pt_val (pe_callB (cr_any rfl) (by rfl) T.any (by decide +kernel) (pa_cons (pe_lock (pe_lc (own := [("pair", 4)]) rfl sc23.nd (pi_keys (pv 2)) (blkOk_by (N := n23) (sc := defScope s23) (by decide +kernel)) (fun _ _ _ _ _ => (pg_name (i := 4) sc23.nd rfl (Or.inl rfl) (Or.inr rfl))) (fun _ _ _ _ _ => pts_nil) (fun _ _ _ _ _ => (pe_cmpR op_in_sign (pv 3) (pv 4) rfl)))) pa_nil)))))) 
        (pss_one ps_never) pss_nil)))
    (pss_one (ps_ret (pv 2)))))))), ?_⟩
  refine ⟨_, rfl, d, D, rfl, hd, hD, fun H1 e1 => ?_⟩
  refine ⟨_, rfl, pd, P, e, rfl, e1 _ _ hpd, fun p hp => ⟨hP.inA p hp, hP.lo p⟩, fun H2 e2 => ?_⟩
  have e12 := e1.trans e2
  refine ⟨_, rfl, d, D, rfl, e12 _ _ hd, hD, fun H3 r e3 hr2 hr3 => ?_⟩
  have s3 : Same H H3 := e12.trans e3
  refine ⟨tx K72M.abc, congrArg V.str parties_tx, ?_⟩
  have wk := walk_str (z := tx K72M.abc)
  refine for_it wk (fun m σ Hu => (∃ y, σ = [some (.ref d), some (.ref pd), some (.ref r), y, none]) ∧ Same H Hu ∧ Hu r = some (.dK (DD (K72M.tidyM D)))) ⟨⟨none, rfl⟩, s3, hr3⟩ (fun _ _ _ _ _ => trivial) ?_ ?_
  · rintro m x σ Hu Hu' hm ⟨⟨y, rfl⟩, sm, hru⟩ ⟨rfl, c, hc, rfl⟩
    have hpu := sm _ _ hpd
    have g : DGet Hu' pd (V.str (sg c)) (valV (PD P fun q => V.int (e q)) (Sum.inr (sg c))) := DGet.k (k := Sum.inr (sg c)) hpu
    refine ⟨_, rfl, _, rfl, pd, _, rfl, g, _, rfl, ?_⟩
    rw [PD_some]
    by_cases hcP : c ∈ P
    · rw [decide_eq_true hcP]
      exact iteF (iteF ⟨⟨_, rfl⟩, sm, hru⟩)
    · rw [decide_eq_false hcP]
      refine iteT ?_
      refine ⟨r, _, hru, trivial, fun ob => ⟨_, rfl, r, ob, rfl, .inl ⟨_, upd_same, fun l hl => ?_⟩⟩⟩
      have ln : l ≠ r := fun e => by
        rw [e, upd_same] at hl
        cases hl
      have wk := walk_keys (d := r) (o := ob) (kvs := DD (K72M.tidyM D))
      rw [DD_len] at wk
      refine lc_l (K72M.tidyM D) (fun _ => true) (fun x => V.bl false) wk (by have := K72M.tidy_len hD; omega) hl (fun H' e => e _ _ upd_same) ?_ ?_
      · rintro i x v H4 H5 hx e4 ⟨rfl, k, v1, hk, rfl⟩ A B hA hB
        obtain ⟨x', hx', rfl, rfl⟩ := DD_get hk
        obtain rfl : x' = x := by
          rw [hx] at hx'
          exact (Option.some.inj hx').symm
        have cv := K72M.tidy_cov hD hC x' (List.mem_of_getElem? hx)
        refine ⟨rfl, ty ⟨_, rfl, _, rfl, c, _, rfl, rfl, ?_⟩⟩
        rw [tx_cps]
        have z : decide (c ∈ [x'.1.1, x'.1.2]) = false := decide_eq_false fun z => by
          rcases List.mem_cons.mp z with q | q
          · exact hcP (by rw [q]; exact cv.1)
          · exact hcP (by rw [List.mem_singleton.mp q]; exact cv.2)
        rw [z]
        exact hA rfl _ (Same.refl _)
      · intro H4 e4 hl4
        refine ⟨e4 _ _ upd_same, l, (K72M.tidyM D).map fun _ => false, rfl, SqL.of ?_, _, rfl, ?_⟩
        · rw [upd_ne ln, hl4, List.filter_eq_self.mpr fun _ _ => rfl, List.map_map]
          rfl
        · have z : ((K72M.tidyM D).map fun _ => false).any id = false := by
            rw [List.any_eq_false]
            intro b hb
            obtain ⟨_, _, rfl⟩ := List.mem_map.mp hb
            decide
          rw [z]
          refine iteF ⟨⟨_, rfl⟩, sm.trans (unlock hru e4), upd_same⟩
  · rintro σ Hu ⟨⟨y, rfl⟩, sm, hru⟩
    exact ⟨_, rfl, q Hu r sm (e12.free hr2) hru⟩
/-! shares_when: 0 debts, 1 purses, 2 failing, 3 party, 4 found, 5 scale, 6 shares, 7 share -/
abbrev n26 : List Str := ["debts", "purses", "failing", "party", "found", "scale", "shares", "share"]
theorem sc26 : FnScope n26 ["debts", "purses", "failing"] (defScope s26) := ⟨rfl, rfl, rfl, by decide +kernel, rfl, by decide +kernel, by decide +kernel⟩
structure ShOk (D : List K72M.Debt) (P F : List Nat) (e : Nat → Int) : Prop where
  dok : K72M.DOk D
  len : D.length ≤ 36
  hi : ∀ x ∈ D, x.2 ≤ (10 : Int) ^ 60
  pnd : P.Nodup
  plen : P.length ≤ 6
  e0 : ∀ p, 0 ≤ e p
  e1 : ∀ p, e p ≤ (10 : Int) ^ 200
  fnd : F.Nodup
  fP : ∀ p ∈ F, p ∈ P
  nc : K72M.NC D F
theorem ShOk.flen {D : List K72M.Debt} {P F : List Nat} {e : Nat → Int} (h : ShOk D P F e) : F.length ≤ 6 := Nat.le_trans (List.Nodup.length_le_of_subset h.fnd fun p hp => h.fP p hp) h.plen
theorem ls_36 {D : List K72M.Debt} (h : D.length ≤ 36) {f : K72M.Debt → Int} (hf : ∀ x ∈ D, f x ≤ (10 : Int) ^ 60) : K72M.ls D f ≤ (2 : Int) ^ 205 := by
  have a := K72M.ls_bound D (f := f) (b := (10 : Int) ^ 60) (by decide) hf
  have b : (D.length : Int) * (10 : Int) ^ 60 ≤ 36 * (10 : Int) ^ 60 := Int.mul_le_mul_of_nonneg_right (by omega) (by decide)
  have c : 36 * (10 : Int) ^ 60 ≤ (2 : Int) ^ 205 := by decide
  omega
theorem abs_lt {x : Int} {n m : Nat} (h0 : -((2 : Int) ^ n) ≤ x) (h1 : x ≤ (2 : Int) ^ n) (h : n < m) : x.natAbs < 2 ^ m := by
  have a : (2 : Nat) ^ n < 2 ^ m := Nat.pow_lt_pow_right (by decide) h
  have b : ((2 ^ n : Nat) : Int) = (2 : Int) ^ n := by exact_mod_cast rfl
  omega
theorem ShOk.diag {D : List K72M.Debt} {P F : List Nat} {e : Nat → Int} (h : ShOk D P F e) (p : Nat) : K72M.owe D p ≤ (2 : Int) ^ 205 := ls_36 h.len fun x hx => by
  have := h.hi x hx
  split
  · exact this
  · decide
theorem ShOk.bits {D : List K72M.Debt} {P F : List Nat} {e : Nat → Int} (h : ShOk D P F e) (i j : Nat) (hi : i < F.length) (hj : j ≤ F.length) : (K72M.mx D e F j i).natAbs < 2 ^ 667 := by
  have up : ∀ f : K72M.Debt → Int, (∀ x ∈ D, f x ≤ (10 : Int) ^ 60) → K72M.ls D f ≤ (2 : Int) ^ 205 := fun f hf => ls_36 h.len hf
  have big : (2 : Int) ^ 205 + (10 : Int) ^ 200 ≤ (2 : Int) ^ 666 := by decide
  have big2 : (2 : Int) ^ 205 ≤ (2 : Int) ^ 666 := by decide
  have ten : (0 : Int) ≤ 10 ^ 60 := by decide
  have pos : (0 : Int) < 2 ^ 666 := by decide
  by_cases hjn : j < F.length
  · rw [K72M.mx_in hjn hi]
    by_cases e1 : K72M.fa F j = K72M.fa F i
    · rw [if_pos e1]
      have a := h.diag (K72M.fa F i)
      have b : 0 ≤ K72M.owe D (K72M.fa F i) := K72M.ls_nonneg D fun x hx => by
        have := h.dok.pos x hx
        split <;> omega
      exact abs_lt (n := 666) (by omega) (by omega) (by decide)
    · rw [if_neg e1]
      have a : K72M.val D (K72M.fa F j) (K72M.fa F i) ≤ (2 : Int) ^ 205 := up _ fun x hx => by
        have := h.hi x hx
        split
        · exact this
        · exact ten
      have b := K72M.val_nonneg h.dok (K72M.fa F j) (K72M.fa F i)
      exact abs_lt (n := 666) (by omega) (by omega) (by decide)
  · obtain rfl : j = F.length := by omega
    rw [K72M.mx_rhs hi]
    have a : K72M.full D F (K72M.fa F i) ≤ (2 : Int) ^ 205 := up _ fun x hx => by
      have := h.hi x hx
      split
      · exact this
      · exact ten
    have b : 0 ≤ K72M.full D F (K72M.fa F i) := K72M.ls_nonneg D fun x hx => by
      have := h.dok.pos x hx
      split <;> omega
    have c := h.e0 (K72M.fa F i)
    have d := h.e1 (K72M.fa F i)
    exact abs_lt (n := 666) (by omega) (by omega) (by decide)
def spSharesWhen : Sp := fun vs H Q _ => ∃ (d pd : Addr) (D : List K72M.Debt) (P F : List Nat) (e : Nat → Int), vs = [.ref d, .ref pd, .str (tx F)] ∧ H d = some (.dK (DD D)) ∧ H pd = some (.dK (PD P fun q => .int (e q))) ∧ d ≠ pd ∧ ShOk D P F e ∧
  ∀ H' p sd, Same H H' → H p = none → H sd = none → H' p = some (.tup [.ref sd, .int (K72M.shS D e F)]) → H' sd = some (.dK (PD P fun q => .int (K72M.shr D e F q))) → Q (.ref p) H'
theorem ok_shares_when (F : Here K mg "shares_when" s26) (T : Txt K mg) (g_solve : Fn P w K mg base 2 "solve" ["rows"] (spSolve K)) (g_equation_of : Fn P w K mg base 2 "equation_of" ["debts", "purses", "failing", "party"] spEquation) :
    Fn P w K mg base 3 "shares_when" ["debts", "purses", "failing"] spSharesWhen := by
  refine F.fn sc26 (fun _ _ _ _ _ _ us hl => match us, hl with | [_, _, _], _ => rfl) (fun vs H Q E h => by obtain ⟨_, _, _, _, _, _, rfl, _⟩ := h; rfl) fun f cdv A outer s H vs Q E hr h => ?_
  have hu := hu_of hr
  obtain ⟨d, pd, D, P, F, e, rfl, hd, hpd, ne, ok, q⟩ := h
  have G := K72M.good ok.dok ok.fnd ok.nc e
  have h6 := ok.flen
  refine ⟨_, (
    (pss_cons (ps_asg (pe_fn g_solve (hr.mono (by decide)) rfl (pa_cons (pe_lc (own := [("party", 3)]) rfl sc26.nd (pi_str (pv 2)) (blkOk_by (N := n26) (sc := defScope s26) (by decide +kernel)) (fun _ _ _ _ _ => (pg_name (i := 3) sc26.nd rfl (Or.inl rfl) (Or.inr rfl))) (fun _ _ _ _ _ => pts_nil) (fun _ _ _ _ _ => (pe_fn g_equation_of (hr.mono (by decide)) rfl (pa_cons (pv 0) (pa_cons (pv 1) (pa_cons (pv 2) (pa_cons (pv 3) pa_nil))))))) pa_nil)) (pg_tup rfl (pgs_cons (pg_name (i := 4) sc26.nd rfl (Or.inl rfl)) (pgs_cons (pg_name (i := 5) sc26.nd rfl (Or.inr rfl)) pgs_nil))))
    (pss_cons (ps_lock (ps_setDc (i := 6) (own := [("party", 3)]) rfl sc26.nd rfl rfl (sw_trueD rfl rfl rfl (by decide +kernel)) (pi_keys (pv 1)) (blkOk_by (N := n26) (sc := defScope s26) (by decide +kernel)) (fun _ _ _ _ _ => (pg_name (i := 3) sc26.nd rfl (Or.inl rfl) (Or.inr rfl))) (fun _ _ _ _ _ => pts_nil) (fun _ _ _ _ _ => (pv 3)) (fun _ _ _ _ _ => (pv 5))))
    (pss_cons (ps_for PassesOwn.never rfl (pi_zips rfl T.zip (pa_cons (pv 2) (pa_cons (pv 4) pa_nil))) (pg_tup rfl (pgs_cons (pg_name (i := 3) sc26.nd rfl (Or.inl rfl)) (pgs_cons (pg_name (i := 7) sc26.nd rfl (Or.inl rfl)) pgs_nil))) 
      (pss_one (ps_dput hu (pv 6) (pv 3) (pv 7) rfl)))
    (pss_one (ps_ret (pe_tup (pa_cons (pv 6) (pa_cons (pv 5) pa_nil))))))))), ?_⟩
  -- the rows
  refine ⟨_, rfl, tx F, rfl, fun R hR => ?_⟩
  refine lc_r (List.range F.length) (fun t => .lst ((rowL F.length (K72M.mx D e F) 0 t).map V.int)) (by
      have w := walk_str (z := tx F)
      rw [tx_size, show F.length = (List.range F.length).length by simp] at w
      exact w) (by rw [List.length_range]; omega) hR (fun _ _ => trivial) ?_ ?_
  · rintro i t v H1 H2 hj e1 ⟨rfl, c, hc, rfl⟩ A B hA
    have hjn : i < F.length := by
      have := (List.getElem?_eq_some_iff.mp hj).1
      rw [List.length_range] at this
      exact this
    obtain rfl : t = i := by
      rw [List.getElem?_range hjn] at hj
      exact (Option.some.inj hj).symm
    obtain rfl : c = K72M.fa F t := by
      rw [tx_get, K72M.fa_at hjn] at hc
      exact (Option.some.inj hc).symm
    refine ⟨rfl, ty ⟨_, rfl, _, rfl, _, rfl, _, rfl, d, pd, D, P, F, e, t, rfl, e1 _ _ hd, e1 _ _ hpd, by have := ok.len; omega, h6, hjn, ok.fP _ (K72M.fa_mem hjn), ok.dok.nd, fun H3 p s3 hp hp3 => ?_⟩⟩
    refine hA p H3 s3 (.inl hp) ?_
    rw [hp3]
    congr 2
    unfold rowL
    rw [List.map_map]
    refine List.map_congr_left fun j hj => ?_
    show V.int (K72M.mx D e F j t) = V.int (K72M.ph F.length (K72M.mx D e F) 0 t (K72M.mx D e F j))
    rw [K72M.ph_zero _ _ (G.sup j (by have := List.mem_range.mp hj; omega)) hjn]
  · intro H1 as e1 hal has hR1
    refine ⟨R, F.length, K72M.mx D e F, rfl, ⟨as, by rw [hal, List.length_range], SqL.of hR1, fun i hi => has i i (List.getElem?_range hi)⟩, h6, G, fun i j hi hj => ok.bits i j hi hj, fun m hm => by
      rw [K72M.mx_in hm hm, if_pos rfl]
      exact ok.diag _, fun H2 p r e2 hp hp2 hr2 => ?_⟩
    have s2 := e1.trans e2
    -- found, scale = ..
    refine ⟨p, _, rfl, .inl (.inl hp2), rfl, _, _, rfl, _, _, rfl, rfl, ?_⟩
    -- shares = {..}
    have hpd2 := s2 _ _ hpd
    refine ⟨pd, _, hpd2, trivial, fun ob => ⟨_, rfl, pd, ob, rfl, .inl ⟨_, upd_same, fun sd hsd => ?_⟩⟩⟩
    have sn : sd ≠ pd := fun e => by
      rw [e, upd_same] at hsd
      cases hsd
    have hsd2 : H2 sd = none := by
      rw [upd_ne sn] at hsd
      exact hsd
    have wk := walk_keys (d := pd) (o := ob) (kvs := PD P fun q => V.int (e q))
    rw [PD_len] at wk
    refine dc_l P (fun _ => true) (fun p => Sum.inr (sg p)) (fun _ => .int (K72M.shS D e F)) wk (by have := ok.plen; omega) hsd (fun H' e => e _ _ upd_same) (keys_nd ok.pnd) ?_ ?_
    · rintro i x v H4 H5 hx e4 ⟨rfl, k, v1, hk, rfl⟩ A B hA hB
      obtain ⟨x', hx', rfl, rfl⟩ := PD_get hk
      obtain rfl : x' = x := by
        rw [hx] at hx'
        exact (Option.some.inj hx').symm
      exact ⟨rfl, tyd ⟨_, rfl, _, rfl, hA rfl _ (Same.refl _)⟩⟩
    · intro H4 e4 hsd4
      rw [List.filter_eq_self.mpr fun _ _ => rfl] at hsd4
      refine ⟨e4 _ _ upd_same, ?_⟩
      have s4 : Same H2 (upd H4 pd (.dK (PD P fun q => V.int (e q)))) := unlock hpd2 e4
      have hsd5 : upd H4 pd (.dK (PD P fun q => V.int (e q))) sd = some (.dK (PD P fun _ => V.int (K72M.shS D e F))) := by
        rw [upd_ne sn, hsd4]
        rfl
      generalize upd H4 pd (.dK (PD P fun q => V.int (e q))) = H5 at *
      -- for party, share in zip(failing, found)
      have hsdH : H sd = none := s2.free hsd2
      refine ⟨_, rfl, _, rfl, tx F, r, _, rfl, SqL.of (s4 _ _ hr2), ?_⟩
      have wz := walk_zips (K := K) (x := tx F) (b := r) (ys := (List.range F.length).map fun i => V.int (K72M.ph F.length (K72M.mx D e F) F.length i (K72M.mx D e F F.length))) (by rw [tx_size]; simp)
      rw [tx_size] at wz
      refine for_it wz (fun m σ Hu => (∃ y3 y7, σ = [some (.ref d), some (.ref pd), some (.str (tx F)), y3, some (.ref r), some (.int (K72M.shS D e F)), some (.ref sd), y7]) ∧ Same H2 Hu ∧ Hu sd = some (.dK (PD P fun q => .int (if q ∈ F.take m then K72M.shr D e F q else K72M.shS D e F)))) ⟨⟨_, _, rfl⟩, s4, ?_⟩ (fun _ _ Hu _ h => SqL.of (h.2.1 _ _ hr2)) ?_ ?_
      · rw [hsd5]
        congr 2
      · rintro m x σ Hu Hu' hm ⟨⟨y3, y7, rfl⟩, sm, hsu⟩ ⟨Tt, c, y, rfl, hT, rfl, hc, hy⟩
        obtain rfl : c = K72M.fa F m := by
          rw [tx_get, K72M.fa_at hm] at hc
          exact (Option.some.inj hc).symm
        obtain rfl : y = V.int (K72M.shN D e F m) := by
          rw [List.getElem?_map, List.getElem?_range hm] at hy
          exact (Option.some.inj hy).symm
        have sT := same_new (o := .tup [V.str (sg (K72M.fa F m)), V.int (K72M.shN D e F m)]) hT
        have hsT := sT _ _ hsu
        refine ⟨Tt, _, rfl, .inl (.inl upd_same), rfl, _, _, rfl, _, _, rfl, rfl, ?_⟩
        refine ⟨_, rfl, _, rfl, _, rfl, sd, _, rfl, DPut.k (k := Sum.inr (sg (K72M.fa F m))) hsT (by rw [PD_len]; exact small1000 (by have := ok.plen; omega)), ⟨_, _, rfl⟩, same_mut (sm.trans sT) hsd2, ?_⟩
        rw [upd_same, PD_put_in (ok.fP _ (K72M.fa_mem hm))]
        congr 2
        refine PD_congr fun p hp => ?_
        by_cases ep : p = K72M.fa F m
        · have hmem : p ∈ F.take (m + 1) := by
            rw [List.take_add_one, K72M.fa_at hm, ep]
            simp
          rw [if_pos ep, if_pos hmem, ep, K72M.shr_at ok.fnd hm]
        · rw [if_neg ep]
          have hiff : (p ∈ F.take (m + 1)) ↔ p ∈ F.take m := by
            rw [List.take_add_one, K72M.fa_at hm]
            simp [ep]
          by_cases hmem : p ∈ F.take m
          · rw [if_pos hmem, if_pos (hiff.mpr hmem)]
          · rw [if_neg hmem, if_neg (fun z => hmem (hiff.mp z))]
      · rintro σ Hu ⟨⟨y3, y7, rfl⟩, sm, hsu⟩
        rw [List.take_length] at hsu
        refine ⟨_, rfl, _, rfl, (by show 2 ≤ sizeLine; decide), fun t ht => ?_⟩
        have st := same_new (o := .tup [V.ref sd, V.int (K72M.shS D e F)]) ht
        refine q _ t sd ((s2.trans sm).trans st) ((s2.trans sm).free ht) hsdH upd_same ?_
        rw [st _ _ hsu]
        congr 2
        refine PD_congr fun p hp => ?_
        by_cases hF : p ∈ F
        · rw [if_pos hF]
        · rw [if_neg hF, K72M.shr_out hF]
end
end K72
end
section
set_option Elab.async false
set_option linter.all false
set_option maxRecDepth 100000
set_option maxHeartbeats 4000000
set_option exponentiation.threshold 3000
namespace K72
open PySem PySem.Spec PyProof.Rows L2
/-- what the shares are, in size -/
structure ShB (D : List K72M.Debt) (P : List Nat) (e s : Nat → Int) (sc : Int) : Prop where
  len : D.length ≤ 36
  cov : ∀ x ∈ D, x.1.1 ∈ P ∧ x.1.2 ∈ P
  db : ∀ x ∈ D, x.2.natAbs < 2 ^ 1000
  eb : ∀ p, (e p).natAbs < 2 ^ 1000
  sb : ∀ p, (s p).natAbs < 2 ^ 2000
  cb : sc.natAbs < 2 ^ 2000
  ob : ∀ p, (K72M.owe D p).natAbs < 2 ^ 1000
def shortM (D : List K72M.Debt) (P : List Nat) (e s : Nat → Int) (sc : Int) : List Nat := K72M.abc.filter fun p => decide (p ∈ P) && (decide (s p = sc) && decide (e p * sc + K72M.recv D s p < K72M.owe D p * sc))
theorem pow_lift {x : Int} {n m : Nat} (h : x.natAbs < 2 ^ n) (hm : n ≤ m) : x.natAbs < 2 ^ m := Nat.lt_of_lt_of_le h (Nat.pow_le_pow_right (by decide) hm)
theorem mul_mid {x y : Int} (hx : x.natAbs < 2 ^ 1000) (hy : y.natAbs < 2 ^ 2000) : CMulW x y := wide_mul hx hy (by decide) (by decide) (by decide)
section
variable {P : Program} {w : World} {K : PySem.W.Frag} {mg : Str → Option Value} {base : Heap}
/-! short_parties: 0 debts, 1 purses, 2 shares, 3 scale, 4 found, 5 party -/
abbrev n27 : List Str := ["debts", "purses", "shares", "scale", "found", "party"]
theorem sc27 : FnScope n27 ["debts", "purses", "shares", "scale"] (defScope s27) := ⟨rfl, rfl, rfl, by decide +kernel, rfl, by decide +kernel, by decide +kernel⟩
def spShort : Sp := fun vs H Q _ => ∃ (d pd sd : Addr) (D : List K72M.Debt) (P : List Nat) (e s : Nat → Int) (sc : Int), vs = [.ref d, .ref pd, .ref sd, .int sc] ∧ H d = some (.dK (DD D)) ∧ H pd = some (.dK (PD P fun q => .int (e q))) ∧ H sd = some (.dK (PD P fun q => .int (s q))) ∧ sd ≠ d ∧ ShB D P e s sc ∧
  ∀ H', Same H H' → Q (.str (tx (shortM D P e s sc))) H'
theorem ok_short_parties (F : Here K mg "short_parties" s27) (T : Txt K mg) (g_received : Fn P w K mg base 1 "received" ["debts", "shares", "party"] spReceived) (g_debt_of : Fn P w K mg base 1 "debt_of" ["debts", "party"] spDebtOf) :
    Fn P w K mg base 2 "short_parties" ["debts", "purses", "shares", "scale"] spShort := by
  obtain ⟨tP, gP⟩ := T.parties
  refine F.fn sc27 (fun _ _ _ _ _ _ us hl => match us, hl with | [_, _, _, _], _ => rfl) (fun vs H Q E h => by obtain ⟨_, _, _, _, _, _, _, _, rfl, _⟩ := h; rfl) fun f cdv A outer s H vs Q E hr h => ?_
  have hu := hu_of hr
  obtain ⟨d, pd, sd, D, P, e, sh, sc, rfl, hd, hpd, hsd, ne, ok, q⟩ := h
  refine ⟨_, (
    (pss_cons (ps_set (i := 4) sc27.nd rfl (Or.inl rfl) pe_str)
    (pss_cons (ps_for PassesOwn.never rfl (pi_str (pe_glob (v := .str "abcdef") rfl gP ⟨_, rfl⟩)) (pg_name (i := 5) sc27.nd rfl (Or.inl rfl)) 
      (pss_one (ps_if (PW.pt (pw_and (pt_cmp (pc_din hu (pv 5) (pv 1))) (pw_and1 (pt_cmpR op_eq (pe_dget hu (pv 2) (pv 5) (fun _ _ => rfl)) (pv 3) (nomark _))))) 
        (pss_one (ps_if (pt_cmpR op_lt (pe_op op_add (pe_op op_mulW (pe_dget hu (pv 1) (pv 5) (fun _ _ => rfl)) (pv 3)) (pe_fn g_received (hr.mono (by decide)) rfl (pa_cons (pv 0) (pa_cons (pv 2) (pa_cons (pv 5) pa_nil))))) (pe_op op_mulW (pe_fn g_debt_of (hr.mono (by decide)) rfl (pa_cons (pv 0) (pa_cons (pv 5) pa_nil))) (pv 3)) (nomark _)) 
          (pss_one (ps_set (i := 4) sc27.nd rfl (Or.inl rfl) (pe_op op_add_str (pv 4) (pv 5)))) pss_nil)) pss_nil)))
    (pss_one (ps_ret (pv 4)))))), ?_⟩
  refine ⟨tx K72M.abc, congrArg V.str parties_tx, ?_⟩
  have wk := walk_str (z := tx K72M.abc)
  refine for_it wk (fun m σ Hu => (∃ y, σ = [some (.ref d), some (.ref pd), some (.ref sd), some (.int sc), some (.str (tx ((K72M.abc.take m).filter fun p => decide (p ∈ P) && (decide (sh p = sc) && decide (e p * sc + K72M.recv D sh p < K72M.owe D p * sc))))), y]) ∧ Same H Hu) ⟨⟨none, rfl⟩, Same.refl H⟩ (fun _ _ _ _ _ => trivial) ?_ ?_
  · rintro m x σ Hu Hu' hm ⟨⟨y, rfl⟩, sm⟩ ⟨rfl, c, hc, rfl⟩
    rw [tx_get] at hc
    have tk := take_filter_succ hc (fun p => decide (p ∈ P) && (decide (sh p = sc) && decide (e p * sc + K72M.recv D sh p < K72M.owe D p * sc)))
    generalize hfm : (K72M.abc.take m).filter (fun p => decide (p ∈ P) && (decide (sh p = sc) && decide (e p * sc + K72M.recv D sh p < K72M.owe D p * sc))) = fm at *
    have fl : fm.length ≤ 6 := by
      rw [← hfm]
      exact Nat.le_trans (List.length_filter_le _ _) (by rw [List.length_take]; exact Nat.min_le_right _ _)
    have hpu := sm _ _ hpd
    have hsu := sm _ _ hsd
    have g : DGet Hu' pd (V.str (sg c)) (valV (PD P fun q => V.int (e q)) (Sum.inr (sg c))) := DGet.k (k := Sum.inr (sg c)) hpu
    have g2 : DGet Hu' sd (V.str (sg c)) (valV (PD P fun q => V.int (sh q)) (Sum.inr (sg c))) := DGet.k (k := Sum.inr (sg c)) hsu
    refine ⟨_, rfl, _, rfl, pd, _, rfl, g, _, rfl, ?_⟩
    rw [PD_some]
    by_cases hcP : c ∈ P
    · rw [decide_eq_true hcP]
      rw [PD_in hcP] at g g2
      refine iteT ⟨_, rfl, _, rfl, sd, _, rfl, g2, _, rfl, rfl, _, rfl, ?_⟩
      by_cases hs : sh c = sc
      · refine iteY (by rw [hs]) ?_
        refine ⟨_, rfl, _, rfl, pd, _, rfl, g, _, rfl, _, _, rfl, rfl, mul_mid (ok.eb c) ok.cb, ?_⟩
        refine ⟨_, rfl, _, rfl, _, rfl, d, sd, D, P, sh, c, rfl, sm _ _ hd, ne, hsu, by have := ok.len; omega, fun x hx _ => (ok.cov x hx).1, fun x hx => pow_lift (ok.db x hx) (by decide), fun p => pow_lift (ok.sb p) (by decide), fun H2 e2 => ?_⟩
        refine ⟨_, _, rfl, rfl, ?_⟩
        refine ⟨_, rfl, _, rfl, d, D, c, rfl, e2 _ _ (sm _ _ hd), by have := ok.len; omega, fun H3 e3 => ?_⟩
        refine ⟨_, rfl, _, _, rfl, rfl, mul_mid (ok.ob c) ok.cb, _, _, rfl, rfl, _, rfl, ?_⟩
        have s3 := sm.trans (e2.trans e3)
        by_cases hlt : e c * sc + K72M.recv D sh c < K72M.owe D c * sc
        · refine iteY hlt ?_
          refine ⟨_, rfl, _, rfl, _, _, rfl, rfl, by rw [tx_len]; show fm.length + 1 ≤ sizeLine; exact Nat.le_of_lt (small1000 (by omega)), ⟨some (.str (sg c)), ?_⟩, s3⟩
          rw [tk, if_pos (by simp [hcP, hs, hlt]), ← tx_app]
          rfl
        · refine iteN hlt ⟨⟨some (.str (sg c)), ?_⟩, s3⟩
          rw [tk, if_neg (by simp [hlt]), List.append_nil]
          rfl
      · refine iteN (fun z => hs (V.int.inj z)) ⟨⟨some (.str (sg c)), ?_⟩, sm⟩
        rw [tk, if_neg (by simp [hs]), List.append_nil]
        rfl
    · rw [decide_eq_false hcP]
      refine iteF (iteF ⟨⟨some (.str (sg c)), ?_⟩, sm⟩)
      rw [tk, if_neg (by simp [hcP]), List.append_nil]
      rfl
  · rintro σ Hu ⟨⟨y, rfl⟩, sm⟩
    exact ⟨_, rfl, q Hu sm⟩
/-! collapse: 0 debts, 1 purses, 2 failing, 3 waves, 4 shares, 5 scale, 6 fresh -/
abbrev n28 : List Str := ["debts", "purses", "failing", "waves", "shares", "scale", "fresh"]
theorem sc28 : FnScope n28 ["debts", "purses"] (defScope s28) := ⟨rfl, rfl, rfl, by decide +kernel, rfl, by decide +kernel, by decide +kernel⟩
/-- debts and purses for which the waves are reckoned -/
structure CoOk (D : List K72M.Debt) (P : List Nat) (e : Nat → Int) : Prop where
  dok : K72M.DOk D
  len : D.length ≤ 36
  hi : ∀ x ∈ D, x.2 ≤ (10 : Int) ^ 60
  cov : ∀ x ∈ D, x.1.1 ∈ P ∧ x.1.2 ∈ P
  pu : K72M.Purse P e
theorem CoOk.plen {D : List K72M.Debt} {P : List Nat} {e : Nat → Int} (h : CoOk D P e) : P.length ≤ 6 := List.Nodup.length_le_of_subset h.pu.nd fun p hp => h.pu.inA p hp
theorem CoOk.sh {D : List K72M.Debt} {P F : List Nat} {e : Nat → Int} (h : CoOk D P e) (f : K72M.Fail D P e F) : ShOk D P F e :=
  ⟨h.dok, h.len, h.hi, h.pu.nd, h.plen, h.pu.lo, h.pu.hi, f.nd, f.inP, f.nc⟩
theorem CoOk.bd {D : List K72M.Debt} {P F : List Nat} {e : Nat → Int} (h : CoOk D P e) (f : K72M.Fail D P e F) : ShB D P e (K72M.shr D e F) (K72M.shS D e F) := by
  have o := f.sol
  have g := h.sh f
  have sc1 : K72M.shS D e F ≤ (2 : Int) ^ 1230 := by
    have h6 := g.flen
    have a := K72M.heads_le (K72M.good h.dok f.nd f.nc e) (B := 205) (fun m hm => by
      rw [K72M.mx_in hm hm, if_pos rfl]
      exact g.diag _) F.length (Nat.le_refl _)
    have m : (2 : Int) ^ (205 * F.length) ≤ (2 : Int) ^ 1230 := by
      have := Nat.pow_le_pow_right (n := 2) (by decide) (show 205 * F.length ≤ 1230 by omega)
      exact_mod_cast this
    exact Int.le_trans a m
  have pos : (0 : Int) < 2 ^ 1230 := by decide
  have pos2 : (0 : Int) < 2 ^ 205 := by decide
  have p60 : (10 : Int) ^ 60 ≤ 2 ^ 205 := by decide
  have p200 : (10 : Int) ^ 200 ≤ 2 ^ 700 := by decide
  have pos3 : (0 : Int) < 2 ^ 700 := by decide
  refine ⟨h.len, h.cov, fun x hx => ?_, fun p => ?_, fun p => ?_, ?_, fun p => ?_⟩
  · have a := h.dok.pos x hx
    have b := h.hi x hx
    exact abs_lt (n := 205) (by omega) (by omega) (by decide)
  · have a := h.pu.lo p
    have b := h.pu.hi p
    exact abs_lt (n := 700) (by omega) (by omega) (by decide)
  · have a := o.nn p
    have b := o.le p
    exact abs_lt (n := 1230) (by omega) (by omega) (by decide)
  · have a := o.pos
    exact abs_lt (n := 1230) (by omega) (by omega) (by decide)
  · have a := g.diag p
    have b : 0 ≤ K72M.owe D p := K72M.ls_nonneg D fun x hx => by
      have := h.dok.pos x hx
      split <;> omega
    exact abs_lt (n := 205) (by omega) (by omega) (by decide)
def spCollapse : Sp := fun vs H Q _ => ∃ (d pd : Addr) (D : List K72M.Debt) (P : List Nat) (e : Nat → Int), vs = [.ref d, .ref pd] ∧ H d = some (.dK (DD D)) ∧ H pd = some (.dK (PD P fun q => .int (e q))) ∧ d ≠ pd ∧ CoOk D P e ∧
  ∀ H' p sd wt, Same H H' → H p = none → H sd = none → H wt = none → H' p = some (.tup [.ref sd, .int (K72M.shS D e (K72M.runM D P e 7 [] []).1), .ref wt]) → H' sd = some (.dK (PD P fun q => .int (K72M.shr D e (K72M.runM D P e 7 [] []).1 q))) →
    H' wt = some (.tup ((K72M.runM D P e 7 [] []).2.map fun G => V.str (tx G))) → Q (.ref p) H'
theorem fresh_eq (D : List K72M.Debt) (P : List Nat) (e : Nat → Int) (F : List Nat) : shortM D P e (K72M.shr D e F) (K72M.shS D e F) = K72M.freshM D P e F := rfl
theorem str_ne {l : List Nat} : (!decide (V.str (tx l) = V.str "")) = decide (l ≠ []) := by
  have e : ("" : Str) = tx [] := by decide +kernel
  rw [e]
  by_cases h : l = []
  · rw [h]
    rfl
  · rw [decide_eq_false fun z => h (txV.mp z), decide_eq_true h]
    rfl
theorem ok_collapse (F : Here K mg "collapse" s28) (T : Txt K mg) (g_shares_when : Fn P w K mg base 3 "shares_when" ["debts", "purses", "failing"] spSharesWhen) (g_short_parties : Fn P w K mg base 2 "short_parties" ["debts", "purses", "shares", "scale"] spShort) :
    Fn P w K mg base 4 "collapse" ["debts", "purses"] spCollapse := by
  refine F.fn sc28 (fun _ _ _ _ _ _ us hl => match us, hl with | [_, _], _ => rfl) (fun vs H Q E h => by obtain ⟨_, _, _, _, _, rfl, _⟩ := h; rfl) fun f cdv A outer s H vs Q E hr h => ?_
  have hu := hu_of hr
  obtain ⟨d, pd, D, P, e, rfl, hd, hpd, ne, ok, q⟩ := h
  have we : ("" : Str) = tx [] := by decide +kernel
  refine ⟨_, (
    (pss_cons (ps_par (i := 2) (j := 3) rfl sc28.nd rfl rfl (by decide) rfl rfl (pa_cons pe_str (pa_cons (pe_lst pa_nil) pa_nil)) (by rfl))
    (pss_cons (ps_asg (pe_fn g_shares_when (hr.mono (by decide)) rfl (pa_cons (pv 0) (pa_cons (pv 1) (pa_cons (pv 2) pa_nil)))) (pg_tup rfl (pgs_cons (pg_name (i := 4) sc28.nd rfl (Or.inl rfl)) (pgs_cons (pg_name (i := 5) sc28.nd rfl (Or.inl rfl)) pgs_nil))))
    (pss_cons (ps_set (i := 6) sc28.nd rfl (Or.inl rfl) (pe_fn g_short_parties (hr.mono (by decide)) rfl (pa_cons (pv 0) (pa_cons (pv 1) (pa_cons (pv 4) (pa_cons (pv 5) pa_nil))))))
    (pss_cons (ps_while PassesOwn.never (pt_cmpR op_ne (pv 6) pe_str (nomark _)) 
      (pss_cons (ps_expr (pe_bm PySem.F.plainAttrs_list PySem.F.slot_list_append PySem.F.type_list_append mt_append (pv 3) (pa_cons (pv 6) pa_nil)))
      (pss_cons (ps_set (i := 2) sc28.nd rfl (Or.inl rfl) (pe_op op_add_str (pv 2) (pv 6)))
      (pss_cons (ps_asg (pe_fn g_shares_when (hr.mono (by decide)) rfl (pa_cons (pv 0) (pa_cons (pv 1) (pa_cons (pv 2) pa_nil)))) (pg_tup rfl (pgs_cons (pg_name (i := 4) sc28.nd rfl (Or.inl rfl)) (pgs_cons (pg_name (i := 5) sc28.nd rfl (Or.inl rfl)) pgs_nil))))
      (pss_one (ps_set (i := 6) sc28.nd rfl (Or.inl rfl) (pe_fn g_short_parties (hr.mono (by decide)) rfl (pa_cons (pv 0) (pa_cons (pv 1) (pa_cons (pv 4) (pa_cons (pv 5) pa_nil)))))))))))
    (pss_one (ps_ret (pe_tup (pa_cons (pv 4) (pa_cons (pv 5) (pa_cons (pe_callTy call_tuple_of (by rfl) T.tuple (by decide +kernel) (pa_cons (pv 3) pa_nil)) pa_nil))))))))))), ?_⟩
  refine ⟨Nat.zero_le _, fun wv hwv => ⟨_, _, rfl, ?_⟩⟩
  have s0 := same_new (o := .lst []) hwv
  have f0 : K72M.Fail D P e [] := K72M.fail_nil ok.dok
  refine ⟨_, rfl, _, rfl, _, rfl, d, pd, D, P, [], e, by rw [we]; rfl, s0 _ _ hd, s0 _ _ hpd, ne, ok.sh f0, fun H1 p1 sd1 e1 hp1 hsd1 hp1' hsd1' => ?_⟩
  refine ⟨p1, _, rfl, .inl (.inl hp1'), rfl, _, _, rfl, _, _, rfl, rfl, ?_⟩
  have s1 : Same H H1 := s0.trans e1
  have sdn : sd1 ≠ d := fun z => by
    have := s0 _ _ hd
    rw [z] at hsd1
    rw [hsd1] at this
    cases this
  refine ⟨_, rfl, _, rfl, _, rfl, _, rfl, d, pd, sd1, D, P, e, _, _, rfl, s1 _ _ hd, s1 _ _ hpd, hsd1', sdn, ok.bd f0, fun H2 e2 => ?_⟩
  rw [fresh_eq]
  have hw2 : H2 wv = some (.lst []) := e2 _ _ (e1 _ _ upd_same)
  -- while fresh != ''
  refine ⟨fun n σ Hu => ∃ (Fl : List Nat) (W : List (List Nat)) (sd : Addr), σ = [some (.ref d), some (.ref pd), some (.str (tx Fl)), some (.ref wv), some (.ref sd), some (.int (K72M.shS D e Fl)), some (.str (tx (K72M.freshM D P e Fl)))] ∧ Same H Hu ∧ Hu wv = some (.lst (W.map fun G => V.str (tx G))) ∧ H sd = none ∧
      Hu sd = some (.dK (PD P fun q => .int (K72M.shr D e Fl q))) ∧ K72M.Fail D P e Fl ∧ W.length ≤ Fl.length ∧ 7 ≤ Fl.length + n ∧ K72M.runM D P e n Fl W = K72M.runM D P e 7 [] [], ⟨7, [], [], sd1, ?_, s1.trans e2, hw2, s0.free hsd1, e2 _ _ hsd1', f0, Nat.le_refl _, Nat.le_refl _, rfl⟩, ?_⟩
  · rw [we]
    rfl
  · rintro n σ Hu ⟨Fl, W, sd, rfl, sm, hwu, hsdn, hsdu, ff, hWl, hn, hrun⟩
    have h6 := K72M.fail_len ok.pu.inA ff
    refine ⟨_, rfl, rfl, _, rfl, ?_⟩
    rw [str_ne]
    by_cases hf : K72M.freshM D P e Fl = []
    · -- the end
      rw [decide_eq_false (fun z => z hf)]
      refine iteF ?_
      rw [K72M.run_done hf] at hrun
      refine ⟨_, rfl, _, rfl, _, rfl, wv, _, rfl, .inl ⟨SqL.of hwu, fun wt hwt => ?_⟩⟩
      have st := same_new (o := .tup (W.map fun G => V.str (tx G))) hwt
      refine ⟨(by show 3 ≤ sizeLine; decide), fun p hp => ?_⟩
      have sp := same_new (o := .tup [V.ref sd, V.int (K72M.shS D e Fl), V.ref wt]) hp
      have s3 := (sm.trans st).trans sp
      refine q _ p sd wt s3 ((sm.trans st).free hp) hsdn (sm.free hwt) ?_ ?_ ?_
      · rw [← hrun]
        exact upd_same
      · rw [← hrun]
        exact sp _ _ (st _ _ hsdu)
      · rw [← hrun]
        exact sp _ _ upd_same
    · rw [decide_eq_true hf]
      have ff' := K72M.fail_next ok.dok ok.pu.lo ff
      have h6' := K72M.fail_len ok.pu.inA ff'
      have gpos : 0 < (K72M.freshM D P e Fl).length := List.length_pos_iff.mpr hf
      rw [List.length_append] at h6'
      obtain ⟨n', rfl⟩ : ∃ n', n = n' + 1 := ⟨n - 1, by omega⟩
      rw [K72M.run_step hf] at hrun
      refine iteT ⟨fun σ Hu => ∃ (Fl : List Nat) (W : List (List Nat)) (sd : Addr), σ = [some (.ref d), some (.ref pd), some (.str (tx Fl)), some (.ref wv), some (.ref sd), some (.int (K72M.shS D e Fl)), some (.str (tx (K72M.freshM D P e Fl)))] ∧ Same H Hu ∧ Hu wv = some (.lst (W.map fun G => V.str (tx G))) ∧ H sd = none ∧
          Hu sd = some (.dK (PD P fun q => .int (K72M.shr D e Fl q))) ∧ K72M.Fail D P e Fl ∧ W.length ≤ Fl.length ∧ 7 ≤ Fl.length + n' ∧ K72M.runM D P e n' Fl W = K72M.runM D P e 7 [] [], fun σ' H' hN => ⟨n', Nat.lt_succ_self _, hN⟩, ?_⟩
      -- waves.append(fresh)
      refine ⟨_, rfl, .inl ⟨rfl, _, SqL.of hwu⟩, _, rfl, wv, _, _, rfl, rfl, hwu, ?_, ?_⟩
      · rw [List.length_map]
        exact small1000 (by omega)
      · have sA := same_mut (o := .lst (W.map (fun G => V.str (tx G)) ++ [V.str (tx (K72M.freshM D P e Fl))])) sm hwv
        -- failing = failing + fresh
        refine ⟨_, rfl, _, rfl, _, _, rfl, rfl, ?_, ?_⟩
        · rw [tx_len, tx_len]
          exact Nat.le_of_lt (small1000 (by omega))
        · rw [tx_app]
          refine ⟨_, rfl, _, rfl, _, rfl, d, pd, D, P, Fl ++ K72M.freshM D P e Fl, e, rfl, sA _ _ hd, sA _ _ hpd, ne, ok.sh ff', fun H3 p3 sd3 e3 hp3 hsd3 hp3' hsd3' => ?_⟩
          refine ⟨p3, _, rfl, .inl (.inl hp3'), rfl, _, _, rfl, _, _, rfl, rfl, ?_⟩
          have s3 := sA.trans e3
          have hsd3n : H sd3 = none := sA.free hsd3
          have sdn3 : sd3 ≠ d := fun z => by
            rw [z, hd] at hsd3n
            cases hsd3n
          refine ⟨_, rfl, _, rfl, _, rfl, _, rfl, d, pd, sd3, D, P, e, _, _, rfl, s3 _ _ hd, s3 _ _ hpd, hsd3', sdn3, ok.bd ff', fun H4 e4 => ?_⟩
          rw [fresh_eq]
          refine ⟨_, W ++ [K72M.freshM D P e Fl], sd3, rfl, s3.trans e4, ?_, hsd3n, e4 _ _ hsd3', ff', ?_, ?_, hrun⟩
          · rw [List.map_append]
            exact e4 _ _ (e3 _ _ upd_same)
          · rw [List.length_append, List.length_append]
            show W.length + 1 ≤ _
            omega
          · rw [List.length_append]
            omega
end
end K72
end
section
set_option Elab.async false
set_option linter.all false
set_option maxRecDepth 100000
set_option maxHeartbeats 4000000
set_option exponentiation.threshold 3000
namespace K72
open PySem PySem.Spec PyProof.Rows L2
section
variable {P : Program} {w : World} {K : PySem.W.Frag} {mg : Str → Option Value} {base : Heap}
/-! clear: 0 debts, 1 purses, 2 due, 3 shares, 4 scale, 5 waves, 6 paid, 7 party -/
abbrev n29 : List Str := ["debts", "purses", "due", "shares", "scale", "waves", "paid", "party"]
theorem sc29 : FnScope n29 ["debts", "purses"] (defScope s29) := ⟨rfl, rfl, rfl, by decide +kernel, rfl, by decide +kernel, by decide +kernel⟩
/-- an answer of clear, at p: t tells where a party's pair stands -/
structure Ans (H : Hp) (p qd wt : Addr) (t : Nat → Addr) (P : List Nat) (W : List (List Nat)) (num den : Nat → Int) : Prop where
  top : H p = some (.tup [.ref qd, .ref wt])
  dic : H qd = some (.dK (PD P fun x => .ref (t x)))
  prs : ∀ x ∈ P, H (t x) = some (.tup [.int (num x), .int (den x)])
  wav : H wt = some (.tup (W.map fun G => V.str (tx G)))
theorem Ans.mono {H H' : Hp} {p qd wt : Addr} {t : Nat → Addr} {P : List Nat} {W : List (List Nat)} {num den : Nat → Int} (a : Ans H p qd wt t P W num den) (e : Same H H') : Ans H' p qd wt t P W num den :=
  ⟨e _ _ a.top, e _ _ a.dic, fun x hx => e _ _ (a.prs x hx), e _ _ a.wav⟩
def spClear : Sp := fun vs H Q _ => ∃ (d pd : Addr) (D : List K72M.Debt) (P : List Nat) (e : Nat → Int), vs = [.ref d, .ref pd] ∧ H d = some (.dK (DD D)) ∧ H pd = some (.dK (PD P fun q => .int (e q))) ∧ K72M.Raw D ∧ K72M.Purse P e ∧ K72M.Cov D P ∧
  ∀ H' p qd wt t, Same H H' → H p = none → H qd = none → Ans H' p qd wt t P (K72M.WM D P e) (K72M.numM D P e) (K72M.denM D P e) → Q (.ref p) H'
theorem co_tidy {D : List K72M.Debt} {P : List Nat} {e : Nat → Int} (r : K72M.Raw D) (q : K72M.Purse P e) (c : K72M.Cov D P) : CoOk (K72M.tidyM D) P e :=
  ⟨K72M.tidy_ok r, K72M.tidy_len r, fun x hx => r.hi x ((K72M.tidy_mem r x).mp hx).1, K72M.tidy_cov r c, q⟩
theorem ok_clear (F : Here K mg "clear" s29) (T : Txt K mg) (g_checked : Fn P w K mg base 4 "checked" ["debts", "purses"] spChecked) (g_collapse : Fn P w K mg base 4 "collapse" ["debts", "purses"] spCollapse) (g_lowest_terms : Fn P w K mg base 2 "lowest_terms" ["numerator", "denominator"] spLowest)
    (g_debt_of : Fn P w K mg base 1 "debt_of" ["debts", "party"] spDebtOf) : Fn P w K mg base 5 "clear" ["debts", "purses"] spClear := by
  refine F.fn sc29 (fun _ _ _ _ _ _ us hl => match us, hl with | [_, _], _ => rfl) (fun vs H Q E h => by obtain ⟨_, _, _, _, _, rfl, _⟩ := h; rfl) fun f cdv A outer s H vs Q E hr h => ?_
  have hu := hu_of hr
  obtain ⟨d, pd, D, P, e, rfl, hd, hpd, rD, rP, rC, q⟩ := h
  have co := co_tidy rD rP rC
  have fin := K72M.final_of rD rP rC
  refine ⟨_, (
    (pss_cons (ps_set (i := 2) sc29.nd rfl (Or.inr rfl) (pe_fn g_checked (hr.mono (by decide)) rfl (pa_cons (pv 0) (pa_cons (pv 1) pa_nil))))
    (pss_cons (ps_asg (pe_fn g_collapse (hr.mono (by decide)) rfl (pa_cons (pv 2) (pa_cons (pv 1) pa_nil))) (pg_tup rfl (pgs_cons (pg_name (i := 3) sc29.nd rfl (Or.inr rfl)) (pgs_cons (pg_name (i := 4) sc29.nd rfl (Or.inr rfl)) (pgs_cons (pg_name (i := 5) sc29.nd rfl (Or.inl rfl)) pgs_nil)))))
    (pss_cons (ps_lock (ps_setDc (i := 6) (own := [("party", 7)]) rfl sc29.nd rfl rfl (sw_trueD rfl rfl rfl (by decide +kernel)) (pi_keys (pv 1)) (blkOk_by (N := n29) (sc := defScope s29) (by decide +kernel)) (fun _ _ _ _ _ => (pg_name (i := 7) sc29.nd rfl (Or.inl rfl) (Or.inr rfl))) (fun _ _ _ _ _ => pts_nil) (fun _ _ _ _ _ => (pv 7)) (fun _ _ _ _ _ => (pe_fn g_lowest_terms (hr.mono (by decide)) rfl (pa_cons (pe_op op_mulW (pe_fn g_debt_of (hr.mono (by decide)) rfl (pa_cons (pv 2) (pa_cons (pv 7) pa_nil))) (pe_dget hu (pv 3) (pv 7) (fun _ _ => rfl))) (pa_cons (pv 4) pa_nil))))))
    (pss_one (ps_ret (pe_tup (pa_cons (pv 6) (pa_cons (pv 5) pa_nil))))))))), ?_⟩
  -- due
  refine ⟨_, rfl, _, rfl, d, pd, D, P, e, rfl, hd, hpd, rD, rP, rC, fun H1 r e1 hr1 hr1' => ?_⟩
  have rn : r ≠ pd := (ne_of_none hpd hr1).symm
  -- collapse
  refine ⟨_, rfl, _, rfl, r, pd, K72M.tidyM D, P, e, rfl, hr1', e1 _ _ hpd, rn, co, fun H2 p2 sd wt e2 hp2 hsd hwt hp2' hsd' hwt' => ?_⟩
  refine ⟨p2, _, rfl, .inl (.inl hp2'), rfl, _, _, rfl, _, _, rfl, _, _, rfl, rfl, ?_⟩
  have s2 := e1.trans e2
  have hpd2 := s2 _ _ hpd
  have sdn : sd ≠ pd := fun z => by
    rw [z, e1 _ _ hpd] at hsd
    cases hsd
  have wtn : wt ≠ pd := fun z => by
    rw [z, e1 _ _ hpd] at hwt
    cases hwt
  -- paid
  refine ⟨pd, _, hpd2, trivial, fun ob => ⟨_, rfl, pd, ob, rfl, .inl ⟨_, upd_same, fun qd hqd => ?_⟩⟩⟩
  have qn : qd ≠ pd := fun e => by
    rw [e, upd_same] at hqd
    cases hqd
  have hqd2 : H2 qd = none := by
    rw [upd_ne qn] at hqd
    exact hqd
  have wk := walk_keys (d := pd) (o := ob) (kvs := PD P fun q => V.int (e q))
  rw [PD_len] at wk
  refine dc_r P (fun p => Sum.inr (sg p)) (fun p => .tup [.int (K72M.numM D P e p), .int (K72M.denM D P e p)]) wk (by have := co.plen; omega) hqd (fun H' e => e _ _ upd_same) (keys_nd rP.nd) ?_ ?_
  · rintro i x v H4 H5 hx e4 ⟨rfl, k, v1, hk, rfl⟩ A B hA
    obtain ⟨x', hx', rfl, rfl⟩ := PD_get hk
    obtain rfl : x' = x := by
      rw [hx] at hx'
      exact (Option.some.inj hx').symm
    have hm := List.mem_of_getElem? hx
    refine ⟨rfl, tyd ⟨_, rfl, ?_⟩⟩
    have hr5 : H5 r = some (.dK (DD (K72M.tidyM D))) := e4 _ _ (in_lock (e2 _ _ hr1') rn)
    refine ⟨_, rfl, _, rfl, r, _, x', rfl, hr5, by have := co.len; omega, fun H6 e6 => ?_⟩
    have hs6 : H6 sd = some (.dK (PD P fun q => .int (K72M.sM D P e q))) := e6 _ _ (e4 _ _ (in_lock hsd' sdn))
    have g : DGet H6 sd (V.str (sg x')) (some (.int (K72M.sM D P e x'))) := by
      have := DGet.k (k := Sum.inr (sg x')) hs6
      rw [PD_in hm] at this
      exact this
    rw [K72M.owe_tidy rD]
    have ob1 : (K72M.owe D x').natAbs < 2 ^ 1000 := by
      have a := K72M.owe_le rD x'
      have b := K72M.owe_nn rD x'
      have pos2 : (0 : Int) < 2 ^ 205 := by decide
      exact abs_lt (n := 205) (by omega) (by omega) (by decide)
    have pos : (0 : Int) < 2 ^ 1230 := by decide
    have sb1 : (K72M.sM D P e x').natAbs < 2 ^ 2000 := by
      have a := fin.s0 x'
      have b := fin.s1 x'
      have c := fin.sc1
      exact abs_lt (n := 1230) (by omega) (by omega) (by decide)
    have cb1 : (K72M.cM D P e).natAbs < 2 ^ 2000 := by
      have a := fin.sc0
      have c := fin.sc1
      exact abs_lt (n := 1230) (by omega) (by omega) (by decide)
    refine ⟨_, rfl, _, rfl, sd, _, rfl, g, _, _, rfl, rfl, mul_mid ob1 sb1, _, rfl, _, _, rfl, fin.sc0, cb1, fun H7 p7 e7 hp7 hp7' => ?_⟩
    exact hA p7 H7 (e6.trans e7) (.inl (e6.free hp7)) hp7'
  · intro H4 t e4 ht hq4
    refine ⟨e4 _ _ upd_same, ?_⟩
    have s4 : Same H2 (upd H4 pd (.dK (PD P fun q => V.int (e q)))) := unlock hpd2 e4
    have tn : ∀ x ∈ P, t x ≠ pd := fun x hx z => by
      have h1 := ht x hx
      rw [z, e4 _ _ upd_same] at h1
      cases h1
    have hq5 : upd H4 pd (.dK (PD P fun q => V.int (e q))) qd = some (.dK (PD P fun x => .ref (t x))) := by
      rw [upd_ne qn]
      exact hq4
    have ht5 : ∀ x ∈ P, upd H4 pd (.dK (PD P fun q => V.int (e q))) (t x) = some (.tup [.int (K72M.numM D P e x), .int (K72M.denM D P e x)]) := fun x hx => by
      rw [upd_ne (tn x hx)]
      exact ht x hx
    generalize upd H4 pd (.dK (PD P fun q => V.int (e q))) = H5 at *
    refine ⟨_, rfl, _, rfl, (by show 2 ≤ sizeLine; decide), fun p hp => ?_⟩
    have sp := same_new (o := .tup [V.ref qd, V.ref wt]) hp
    exact q _ p qd wt t ((s2.trans s4).trans sp) ((s2.trans s4).free hp) (s2.free hqd2) ⟨upd_same, sp _ _ hq5, fun x hx => sp _ _ (ht5 x hx), sp _ _ (s4 _ _ hwt')⟩
end
end K72
end
section
set_option Elab.async false
set_option linter.all false
set_option maxRecDepth 100000
set_option maxHeartbeats 4000000
set_option exponentiation.threshold 3000
namespace K72
open PySem PySem.Spec PyProof.Rows L2
theorem sql_upd {K : PySem.W.Frag} {H : Hp} {a b : Addr} {o : HO} {xs : List V} (h : SqL K H a xs) (ne : a ≠ b) : SqL K (upd H b o) a xs := by
  rcases h with (h | ⟨ob, h⟩) | h
  · exact .inl (.inl (by rw [upd_ne ne]; exact h))
  · exact .inl (.inr ⟨ob, by rw [upd_ne ne]; exact h⟩)
  · exact .inr h
/-- drawn numbers, and the place among them -/
def Dr (ds : List Int) : Prop := ∀ x ∈ ds, 0 ≤ x ∧ x < 1000000
structure At (K : PySem.W.Frag) (H : Hp) (a b : Addr) : Prop where
  ne : a ≠ b
  ds : ∃ ds : List Int, SqL K H a (ds.map V.int) ∧ Dr ds
  pl : ∃ n : Nat, H b = some (.lst [.int (n : Int)])
theorem At.upd {K : PySem.W.Frag} {H : Hp} {a b : Addr} (h : At K H a b) (n : Nat) : At K (L2.upd H b (.lst [.int (n : Int)])) a b :=
  ⟨h.ne, let ⟨ds, h1, h2⟩ := h.ds; ⟨ds, sql_upd h1 h.ne, h2⟩, n, upd_same⟩
section
variable {P : Program} {w : World} {K : PySem.W.Frag} {mg : Str → Option Value} {base : Heap}
/-! _law_cell: 0 _law_script, 1 _law_k -/
abbrev n31 : List Str := ["_law_script", "_law_k"]
theorem sc31 : FnScope n31 ["_law_script", "_law_k"] (defScope s31) := ⟨rfl, rfl, rfl, by decide +kernel, rfl, by decide +kernel, by decide +kernel⟩
def spCell0 (K : PySem.W.Frag) : Sp := fun vs H Q _ => ∃ (a : Addr) (ns : List Int) (k : Nat), vs = [.ref a, .int (k : Int)] ∧ SqL K H a (ns.map V.int) ∧ ∀ i : Int, Q (.int i) H
theorem ok_law_cell (F : Here K mg "_law_cell" s31) (T : Txt K mg) : Fn P w K mg base 1 "_law_cell" ["_law_script", "_law_k"] (spCell0 K) := by
  refine F.fn sc31 (fun _ _ _ _ _ _ us hl => match us, hl with | [_, _], _ => rfl) (fun vs H Q E h => by obtain ⟨_, _, _, rfl, _⟩ := h; rfl) fun f cdv A outer s H vs Q E hr h => ?_
  have hu := hu_of hr
  obtain ⟨a, ns, k, rfl, hS, q⟩ := h
  refine ⟨_, (
    (pss_cons (ps_if (pt_cmpR op_lt (pv 1) (pe_callB call_len_seq (by rfl) T.len (by decide +kernel) (pa_cons (pv 0) pa_nil)) (nomark _)) 
      (pss_one (ps_ret (pe_callTy call_int1 (by rfl) T.int (by decide +kernel) (pa_cons (pe_ix (ix_listK (K := K) rfl) (pv 0) (pv 1) (fun _ _ => rfl)) pa_nil)))) pss_nil)
    (pss_one (ps_ret pe_int)))), ?_⟩
  refine ⟨_, rfl, _, rfl, a, _, rfl, .inl hS, _, _, rfl, rfl, _, rfl, ?_⟩
  by_cases hk : k < (ns.map V.int).length
  · refine iteY (by omega) ?_
    obtain ⟨i, hi⟩ : ∃ i : Int, (ns.map V.int)[k]? = some (V.int i) := by
      rw [List.length_map] at hk
      exact ⟨ns[k], by rw [List.getElem?_map, List.getElem?_eq_getElem hk]; rfl⟩
    exact ⟨_, rfl, _, rfl, a, _, _, _, rfl, rfl, hS, atI_nat hi, .inl ⟨i, rfl, q i⟩⟩
  · exact iteN (by omega) (q 0)
/-! _law_draws: 0 _law_cell_here, 1 _law_many, 2 _law_rest, 3 _law_large, 4 _law_seed, 5 _law_found, 6 _law_k -/
abbrev n32 : List Str := ["_law_cell_here", "_law_many", "_law_rest", "_law_large", "_law_seed", "_law_found", "_law_k"]
theorem sc32 : FnScope n32 ["_law_cell_here", "_law_many"] (defScope s32) := ⟨rfl, rfl, rfl, by decide +kernel, rfl, by decide +kernel, by decide +kernel⟩
def spDraws : Sp := fun vs H Q _ => ∃ (c : Int) (m : Nat), vs = [.int c, .int (m : Int)] ∧ m ≤ 1000 ∧ ∀ H' p ds, Same H H' → H p = none → H' p = some (.lst (ds.map V.int)) → Dr ds → Q (.ref p) H'
theorem ok_law_draws (F : Here K mg "_law_draws" s32) (T : Txt K mg) : Fn P w K mg base 1 "_law_draws" ["_law_cell_here", "_law_many"] spDraws := by
  refine F.fn sc32 (fun _ _ _ _ _ _ us hl => match us, hl with | [_, _], _ => rfl) (fun vs H Q E h => by obtain ⟨_, _, rfl, _⟩ := h; rfl) fun f cdv A outer s H vs Q E hr h => ?_
  have hu := hu_of hr
  obtain ⟨c, m, rfl, hm, q⟩ := h
  refine ⟨_, (
    (pss_cons (ps_set (i := 2) sc32.nd rfl (Or.inl rfl) (pe_callB call_abs (by rfl) T.abs (by decide +kernel) (pa_cons (pe_callTy call_int1 (by rfl) T.int (by decide +kernel) (pa_cons (pv 0) pa_nil)) pa_nil)))
    (pss_cons (ps_set (i := 3) sc32.nd rfl (Or.inl rfl) (pe_cmpR op_ge (pv 2) (pe_op op_pow pe_int pe_int) (nomark _)))
    (pss_cons (ps_set (i := 4) sc32.nd rfl (Or.inl rfl) (pe_op op_mod (pe_callTy call_int1 (by rfl) T.int (by decide +kernel) (pa_cons (pv 2) pa_nil)) pe_int))
    (pss_cons (ps_set (i := 5) sc32.nd rfl (Or.inl rfl) (pe_lst pa_nil))
    (pss_cons (ps_for PassesOwn.never rfl (pi_range1 rfl T.range (pa_cons (pv 1) pa_nil)) (pg_name (i := 6) sc32.nd rfl (Or.inl rfl)) 
      (pss_cons (ps_set (i := 4) sc32.nd rfl (Or.inl rfl) (pe_op op_mod (pe_callTy call_int1 (by rfl) T.int (by decide +kernel) (pa_cons (pe_op op_add (pe_op op_add (pe_op op_mul (pv 4) pe_int) (pe_op op_mul pe_int (pv 6))) pe_int) pa_nil)) pe_int))
      (pss_one (ps_if (PW.pt (pw_and (pt_val (pv 3)) (pw_and1 (pt_cmpR op_gt (pv 2) pe_int (nomark _))))) 
        (pss_cons (ps_expr (pe_bm PySem.F.plainAttrs_list PySem.F.slot_list_append PySem.F.type_list_append mt_append (pv 5) (pa_cons (pe_op op_mod (pe_callTy call_int1 (by rfl) T.int (by decide +kernel) (pa_cons (pv 2) pa_nil)) pe_int) pa_nil)))
        (pss_one (ps_set (i := 2) sc32.nd rfl (Or.inl rfl) (pe_op op_fdiv (pv 2) pe_int)))) 
        (pss_one (ps_expr (pe_bm PySem.F.plainAttrs_list PySem.F.slot_list_append PySem.F.type_list_append mt_append (pv 5) (pa_cons (pe_op op_mod (pe_callTy call_int1 (by rfl) T.int (by decide +kernel) (pa_cons (pe_op op_fdiv (pe_op op_mod (pe_callTy call_int1 (by rfl) T.int (by decide +kernel) (pa_cons (pe_op op_add (pe_op op_mul (pv 4) pe_int) (pe_op op_mul pe_int (pv 6))) pa_nil)) pe_int) pe_int) pa_nil)) pe_int) pa_nil))))))))
    (pss_one (ps_ret (pv 5))))))))), ?_⟩
  refine ⟨_, rfl, .inl ⟨c, rfl, c, rfl, ?_⟩⟩
  have r0 : 0 ≤ (if c < 0 then -c else c) := by split <;> omega
  generalize (if c < 0 then -c else c) = r at *
  refine ⟨_, rfl, _, _, rfl, rfl, ⟨by decide, by decide, by decide⟩, _, _, rfl, rfl, ?_⟩
  refine ⟨_, rfl, .inl ⟨r, rfl, _, _, rfl, rfl, (by show (0 : Int) < 2147483647; decide), ?_⟩⟩
  refine ⟨Nat.zero_le _, fun l hl => ?_⟩
  refine ⟨_, rfl, _, rfl, by omega, by omega, ?_⟩
  rw [show ((m : Int)).toNat = m by simp]
  refine for_it (walk_range (lo := 0) (n := m)) (fun k σ Hu => ∃ (rest seed : Int) (b : Bool) (ds : List Int) (y : Option V), σ = [some (.int c), some (.int (m : Int)), some (.int rest), some (.bl b), some (.int seed), some (.ref l), y] ∧ 0 ≤ rest ∧ 0 ≤ seed ∧ seed < 2147483647 ∧ Same H Hu ∧ Hu l = some (.lst (ds.map V.int)) ∧ Dr ds ∧ ds.length = k)
    ⟨r, _, _, [], none, rfl, r0, Int.emod_nonneg _ (by decide), Int.emod_lt_of_pos _ (by decide), same_new hl, upd_same, fun x h => (by cases h), rfl⟩ (fun _ _ _ _ _ => trivial) ?_ ?_
  · rintro k x σ Hu Hu' hk ⟨rest, seed, b, ds, y, rfl, hr0, hs0, hs1, sm, hlu, hds, hlen⟩ ⟨rfl, hx⟩
    obtain rfl : x = V.int (k : Int) := by
      rw [hx]
      show V.int (0 + (k : Int)) = V.int (k : Int)
      rw [Int.zero_add]
    refine ⟨_, rfl, _, _, rfl, rfl, .inl ⟨by omega, by omega⟩, _, rfl, _, _, rfl, rfl, .inl ⟨by decide, by decide⟩, _, _, rfl, rfl, _, _, rfl, rfl, .inl ⟨_, rfl, _, _, rfl, rfl, (by show (0 : Int) < 2147483647; decide), ?_⟩⟩
    have n0 : 0 ≤ (seed * 48271 + 40692 * (k : Int) + 69621) % 2147483647 := Int.emod_nonneg _ (by decide)
    have n1 : (seed * 48271 + 40692 * (k : Int) + 69621) % 2147483647 < 2147483647 := Int.emod_lt_of_pos _ (by decide)
    dsimp only
    generalize (seed * 48271 + 40692 * (k : Int) + 69621) % 2147483647 = seed' at *
    have two : ∀ (D : Ends), (D.nx = fun σ Hu => ∃ (rest seed : Int) (b : Bool) (ds : List Int) (y : Option V), σ = [some (.int c), some (.int (m : Int)), some (.int rest), some (.bl b), some (.int seed), some (.ref l), y] ∧ 0 ≤ rest ∧ 0 ≤ seed ∧ seed < 2147483647 ∧ Same H Hu ∧ Hu l = some (.lst (ds.map V.int)) ∧ Dr ds ∧ ds.length = k + 1) →
        ∀ (v rest' : Int), 0 ≤ v → v < 1000000 → 0 ≤ rest' → D.nx [some (V.int c), some (V.int (m : Int)), some (V.int rest'), some (V.bl b), some (V.int seed'), some (V.ref l), some (V.int (k : Int))] (upd Hu' l (.lst (ds.map V.int ++ [V.int v]))) := by
      intro D hD v rest' h1 h2 h3
      rw [hD]
      refine ⟨rest', seed', b, ds ++ [v], _, rfl, h3, n0, n1, same_mut sm hl, ?_, ?_, ?_⟩
      · rw [upd_same, List.map_append]
        rfl
      · intro x hx
        rcases List.mem_append.mp hx with z | z
        · exact hds x z
        · rw [List.mem_singleton.mp z]
          exact ⟨h1, h2⟩
      · rw [List.length_append, hlen]
        rfl
    have room : (ds.map V.int).length < sizeLine := by
      rw [List.length_map]
      exact small1000 (by omega)
    refine ⟨_, rfl, b, rfl, ?_⟩
    cases b with
    | false =>
      refine iteF (iteF ?_)
      refine ⟨_, rfl, .inl ⟨rfl, _, SqL.of hlu⟩, _, rfl, _, _, rfl, rfl, .inl ⟨by omega, by omega⟩, _, rfl, _, _, rfl, rfl, .inl ⟨by decide, by decide⟩, _, _, rfl, rfl, .inl ⟨_, rfl, _, _, rfl, rfl, (by show (0 : Int) < 2147483629; decide), _, _, rfl, rfl, ⟨by decide, by decide⟩, .inl ⟨_, rfl, _, _, rfl, rfl, (by show (0 : Int) < 1000000; decide), ?_⟩⟩⟩
      exact ⟨l, _, _, rfl, rfl, hlu, room, two _ rfl _ rest (Int.emod_nonneg _ (by decide)) (Int.emod_lt_of_pos _ (by decide)) hr0⟩
    | true =>
      refine iteT ⟨_, rfl, _, _, rfl, rfl, _, rfl, ?_⟩
      by_cases hp : rest > 0
      · refine iteY hp ?_
        refine ⟨_, rfl, .inl ⟨rfl, _, SqL.of hlu⟩, _, rfl, .inl ⟨rest, rfl, _, _, rfl, rfl, (by show (0 : Int) < 1000000; decide), ?_⟩⟩
        refine ⟨l, _, _, rfl, rfl, hlu, room, ?_⟩
        exact ⟨_, rfl, _, _, rfl, rfl, ⟨by decide, by decide⟩, two _ rfl _ (rest / 1000000) (Int.emod_nonneg _ (by decide)) (Int.emod_lt_of_pos _ (by decide)) (Int.ediv_nonneg hr0 (by decide))⟩
      · refine iteN hp ?_
        refine ⟨_, rfl, .inl ⟨rfl, _, SqL.of hlu⟩, _, rfl, _, _, rfl, rfl, .inl ⟨by omega, by omega⟩, _, rfl, _, _, rfl, rfl, .inl ⟨by decide, by decide⟩, _, _, rfl, rfl, .inl ⟨_, rfl, _, _, rfl, rfl, (by show (0 : Int) < 2147483629; decide), _, _, rfl, rfl, ⟨by decide, by decide⟩, .inl ⟨_, rfl, _, _, rfl, rfl, (by show (0 : Int) < 1000000; decide), ?_⟩⟩⟩
        exact ⟨l, _, _, rfl, rfl, hlu, room, two _ rfl _ rest (Int.emod_nonneg _ (by decide)) (Int.emod_lt_of_pos _ (by decide)) hr0⟩
  · rintro σ Hu ⟨rest, seed, b, ds, y, rfl, hr0, hs0, hs1, sm, hlu, hds, hlen⟩
    exact ⟨_, rfl, q Hu l ds sm hl hlu hds⟩
/-! _law_take: 0 _law_draws_here, 1 _law_place -/
abbrev n33 : List Str := ["_law_draws_here", "_law_place"]
theorem sc33 : FnScope n33 ["_law_draws_here", "_law_place"] (defScope s33) := ⟨rfl, rfl, rfl, by decide +kernel, rfl, by decide +kernel, by decide +kernel⟩
def spTake (K : PySem.W.Frag) : Sp := fun vs H Q _ => ∃ (a b : Addr), vs = [.ref a, .ref b] ∧ At K H a b ∧ ∀ (v : Int) (n : Nat), 0 ≤ v → v < 1000000 → Q (.int v) (upd H b (.lst [.int (n : Int)]))
theorem ok_law_take (F : Here K mg "_law_take" s33) (T : Txt K mg) : Fn P w K mg base 1 "_law_take" ["_law_draws_here", "_law_place"] (spTake K) := by
  refine F.fn sc33 (fun _ _ _ _ _ _ us hl => match us, hl with | [_, _], _ => rfl) (fun vs H Q E h => by obtain ⟨_, _, rfl, _⟩ := h; rfl) fun f cdv A outer s H vs Q E hr h => ?_
  have hu := hu_of hr
  obtain ⟨a, b, rfl, hA, q⟩ := h
  obtain ⟨ds, hS, hds⟩ := hA.ds
  obtain ⟨n, hb⟩ := hA.pl
  refine ⟨_, (
    (pss_cons (ps_asg (pe_op op_add (pe_ix (ix_listK (K := K) rfl) (pv 1) pe_int (fun _ _ => rfl)) pe_int) (pg_sub (pv 1) pe_int set_list))
    (pss_cons (ps_if (pt_cmpR op_gt (pe_ix (ix_listK (K := K) rfl) (pv 1) pe_int (fun _ _ => rfl)) (pe_callB call_len_seq (by rfl) T.len (by decide +kernel) (pa_cons (pv 0) pa_nil)) (nomark _)) 
      (pss_one (ps_ret pe_int)) pss_nil)
    (pss_one (ps_ret (pe_ix (ix_listK (K := K) rfl) (pv 0) (pe_op op_sub (pe_ix (ix_listK (K := K) rfl) (pv 1) pe_int (fun _ _ => rfl)) pe_int) (fun _ _ => rfl))))))), ?_⟩
  refine ⟨_, rfl, b, _, _, .int (n : Int), rfl, rfl, SqL.of hb, rfl, _, _, rfl, rfl, _, rfl, b, _, _, 0, rfl, rfl, hb, rfl, ?_⟩
  show tSeq _ _ _ _ (upd H b (.lst [V.int ((n : Int) + 1)]))
  have hb1 : (upd H b (.lst [V.int ((n : Int) + 1)])) b = some (.lst [V.int ((n : Int) + 1)]) := upd_same
  have hS1 := sql_upd (o := .lst [V.int ((n : Int) + 1)]) hS hA.ne
  have e1 : ((n : Int) + 1) = ((n + 1 : Nat) : Int) := by omega
  refine ⟨_, rfl, b, _, _, .int ((n : Int) + 1), rfl, rfl, SqL.of hb1, rfl, _, rfl, a, _, rfl, .inl hS1, _, _, rfl, rfl, _, rfl, ?_⟩
  by_cases hk : ((ds.map V.int).length : Int) < (n : Int) + 1
  · refine iteY hk ?_
    have z := q 0 (n + 1) (by decide) (by decide)
    rw [← e1] at z
    exact z
  · refine iteN hk ?_
    have hn : n < ds.length := by
      rw [List.length_map] at hk
      omega
    have hi : (ds.map V.int)[n]? = some (V.int ds[n]) := by
      rw [List.getElem?_map, List.getElem?_eq_getElem hn]
      rfl
    have hd := hds _ (List.getElem_mem hn)
    refine ⟨_, rfl, _, rfl, b, _, _, .int ((n : Int) + 1), rfl, rfl, SqL.of hb1, rfl, _, _, rfl, rfl, a, _, _, V.int ds[n], rfl, rfl, hS1, ?_, ?_⟩
    · rw [show (n : Int) + 1 - 1 = (n : Int) by omega]
      exact atI_nat hi
    · have z := q ds[n] (n + 1) hd.1 hd.2
      rw [← e1] at z
      exact z
/-! _law_wide: 0 _law_draws_here, 1 _law_place, 2 _law_value, 3 _law_k -/
abbrev n34 : List Str := ["_law_draws_here", "_law_place", "_law_value", "_law_k"]
theorem sc34 : FnScope n34 ["_law_draws_here", "_law_place"] (defScope s34) := ⟨rfl, rfl, rfl, by decide +kernel, rfl, by decide +kernel, by decide +kernel⟩
def spWide (K : PySem.W.Frag) : Sp := fun vs H Q _ => ∃ (a b : Addr), vs = [.ref a, .ref b] ∧ At K H a b ∧ ∀ (v : Int) (n : Nat), 0 ≤ v → v < (10 : Int) ^ 60 → Q (.int v) (upd H b (.lst [.int (n : Int)]))
theorem ok_law_wide (F : Here K mg "_law_wide" s34) (T : Txt K mg) (g__law_take : Fn P w K mg base 1 "_law_take" ["_law_draws_here", "_law_place"] (spTake K)) : Fn P w K mg base 2 "_law_wide" ["_law_draws_here", "_law_place"] (spWide K) := by
  refine F.fn sc34 (fun _ _ _ _ _ _ us hl => match us, hl with | [_, _], _ => rfl) (fun vs H Q E h => by obtain ⟨_, _, rfl, _⟩ := h; rfl) fun f cdv A outer s H vs Q E hr h => ?_
  have hu := hu_of hr
  obtain ⟨a, b, rfl, hA, q⟩ := h
  obtain ⟨n0, hb⟩ := hA.pl
  refine ⟨_, (
    (pss_cons (ps_set (i := 2) sc34.nd rfl (Or.inl rfl) pe_int)
    (pss_cons (ps_for PassesOwn.never rfl (pi_range1 rfl T.range (pa_cons pe_int pa_nil)) (pg_name (i := 3) sc34.nd rfl (Or.inl rfl)) 
      (pss_one (ps_set (i := 2) sc34.nd rfl (Or.inl rfl) (pe_op op_add (pe_op op_mul (pv 2) pe_int) (pe_fn g__law_take (hr.mono (by decide)) rfl (pa_cons (pv 0) (pa_cons (pv 1) pa_nil)))))))
    (pss_one (ps_ret (pv 2)))))), ?_⟩
  refine ⟨10, rfl, by decide, by decide, ?_⟩
  refine for_it (walk_range (lo := 0) (n := 10)) (fun k σ Hu => ∃ (v : Int) (n : Nat) (y : Option V), σ = [some (.ref a), some (.ref b), some (.int v), y] ∧ 0 ≤ v ∧ v < (1000000 : Int) ^ k ∧ Hu = upd H b (.lst [.int (n : Int)])) ⟨0, n0, none, rfl, by decide, by decide, (upd_self hb).symm⟩ (fun _ _ _ _ _ => trivial) ?_ ?_
  · rintro k x σ Hu Hu' hk ⟨v, n, y, rfl, v0, v1, rfl⟩ ⟨rfl, hx⟩
    refine ⟨_, rfl, _, _, rfl, rfl, .inr ⟨by decide, by decide⟩, _, rfl, _, rfl, a, b, rfl, hA.upd n, fun d n' d0 d1 => ?_⟩
    refine ⟨_, _, rfl, rfl, v * 1000000 + d, n', _, rfl, by omega, ?_, upd_upd⟩
    rw [Int.pow_succ]
    omega
  · rintro σ Hu ⟨v, n, y, rfl, v0, v1, rfl⟩
    exact ⟨_, rfl, q v n v0 (by
      have : (1000000 : Int) ^ 10 = 10 ^ 60 := by decide
      omega)⟩
/-! _law_coins: 0 _law_draws_here, 1 _law_place, 2 _law_scale, 3 _law_base_here, 4 _law_draw -/
abbrev n35 : List Str := ["_law_draws_here", "_law_place", "_law_scale", "_law_base_here", "_law_draw"]
theorem sc35 : FnScope n35 ["_law_draws_here", "_law_place", "_law_scale", "_law_base_here"] (defScope s35) := ⟨rfl, rfl, rfl, by decide +kernel, rfl, by decide +kernel, by decide +kernel⟩
def spCoins (K : PySem.W.Frag) : Sp := fun vs H Q _ => ∃ (a b : Addr) (sc ba : Int), vs = [.ref a, .ref b, .int sc, .int ba] ∧ At K H a b ∧ 0 ≤ ba ∧ ba ≤ (10 : Int) ^ 60 - 3 ∧ ∀ (v : Int) (n : Nat), 0 ≤ v → v ≤ (10 : Int) ^ 60 → Q (.int v) (upd H b (.lst [.int (n : Int)]))
theorem ok_law_coins (F : Here K mg "_law_coins" s35) (T : Txt K mg) (g__law_take : Fn P w K mg base 1 "_law_take" ["_law_draws_here", "_law_place"] (spTake K)) (g__law_wide : Fn P w K mg base 2 "_law_wide" ["_law_draws_here", "_law_place"] (spWide K)) :
    Fn P w K mg base 3 "_law_coins" ["_law_draws_here", "_law_place", "_law_scale", "_law_base_here"] (spCoins K) := by
  refine F.fn sc35 (fun _ _ _ _ _ _ us hl => match us, hl with | [_, _, _, _], _ => rfl) (fun vs H Q E h => by obtain ⟨_, _, _, _, rfl, _⟩ := h; rfl) fun f cdv A outer s H vs Q E hr h => ?_
  have hu := hu_of hr
  obtain ⟨a, b, sc, ba, rfl, hA, b0, b1, q⟩ := h
  have big : (1000000 : Int) ≤ (10 : Int) ^ 60 - 3 := by decide
  refine ⟨_, (
    (pss_cons (ps_set (i := 4) sc35.nd rfl (Or.inl rfl) (pe_fn g__law_take (hr.mono (by decide)) rfl (pa_cons (pv 0) (pa_cons (pv 1) pa_nil))))
    (pss_cons (ps_if (pt_cmpR op_eq (pv 2) pe_int (nomark _)) 
      (pss_one (ps_ret (pe_op op_mod (pe_callTy call_int1 (by rfl) T.int (by decide +kernel) (pa_cons (pv 4) pa_nil)) pe_int))) pss_nil)
    (pss_cons (ps_if (pt_cmpR op_eq (pv 2) pe_int (nomark _)) 
      (pss_one (ps_ret (pe_op op_add (pv 3) (pe_op op_mod (pe_callTy call_int1 (by rfl) T.int (by decide +kernel) (pa_cons (pv 4) pa_nil)) pe_int)))) pss_nil)
    (pss_cons (ps_if (PW.pt (pw_or (pt_cmpR op_eq (pv 2) pe_int (nomark _)) (pw_or1 (PW.pt (pw_and (pt_cmpR op_eq (pv 2) pe_int (nomark _)) (pw_and1 (pt_cmpR op_eq (pe_op op_mod (pe_callTy call_int1 (by rfl) T.int (by decide +kernel) (pa_cons (pv 4) pa_nil)) pe_int) pe_int (nomark _)))))))) 
      (pss_one (ps_ret (pe_fn g__law_wide (hr.mono (by decide)) rfl (pa_cons (pv 0) (pa_cons (pv 1) pa_nil))))) pss_nil)
    (pss_one (ps_ret (pe_op op_mod (pe_callTy call_int1 (by rfl) T.int (by decide +kernel) (pa_cons (pe_op op_fdiv (pv 4) pe_int) pa_nil)) pe_int)))))))), ?_⟩
  refine ⟨_, rfl, _, rfl, a, b, rfl, hA, fun d n d0 d1 => ?_⟩
  have hA1 := hA.upd n
  have m0 : ∀ j : Int, 0 < j → 0 ≤ d % j ∧ d % j < j := fun j hj => ⟨Int.emod_nonneg _ (by omega), Int.emod_lt_of_pos _ hj⟩
  refine ⟨_, rfl, rfl, _, rfl, ?_⟩
  by_cases c4 : sc = 4
  · refine iteY (by rw [c4]) ?_
    have z := m0 1000 (by decide)
    exact ⟨_, rfl, .inl ⟨d, rfl, _, _, rfl, rfl, (by show (0 : Int) < 1000; decide), q _ n z.1 (by omega)⟩⟩
  · refine iteN (fun z => c4 (V.int.inj z)) ?_
    refine ⟨_, rfl, rfl, _, rfl, ?_⟩
    by_cases c7 : sc = 7
    · refine iteY (by rw [c7]) ?_
      have z := m0 4 (by decide)
      exact ⟨_, rfl, _, rfl, .inl ⟨d, rfl, _, _, rfl, rfl, (by show (0 : Int) < 4; decide), _, _, rfl, rfl, q _ n (by omega) (by omega)⟩⟩
    · refine iteN (fun z => c7 (V.int.inj z)) ?_
      have wide : ∀ {D : Ends}, D.rt = Q → tRet (tCall (spWide K) [] E0 (tCons (tVar 0) (tCons (tVar 1) tNil))) D [some (V.ref a), some (V.ref b), some (V.int sc), some (V.int ba), some (V.int d)] (upd H b (.lst [.int (n : Int)])) := by
        intro D hD
        refine ⟨_, rfl, _, rfl, a, b, rfl, hA1, fun v n' v0 v1 => ?_⟩
        rw [upd_upd, hD]
        exact q v n' v0 (by omega)
      have last : ∀ {D : Ends}, D.rt = Q → tRet (tOp (rI (fun _ j => 0 < j) fun i j => V.int (i % j)) (tCB (fun xs H Q => (∃ i, xs = [V.int i] ∧ Q (.int i) H) ∨ ∃ k, xs = [V.bl k] ∧ Q (.int (if k then 1 else 0)) H) (tCons (tOp (rI CDiv fun i j => V.int (i / j)) (tVar 4) (tC (.int 2))) tNil)) (tC (.int 6))) D [some (V.ref a), some (V.ref b), some (V.int sc), some (V.int ba), some (V.int d)] (upd H b (.lst [.int (n : Int)])) := by
        intro D hD
        have z : 0 ≤ (d / 2) % 6 ∧ (d / 2) % 6 < 6 := ⟨Int.emod_nonneg _ (by decide), Int.emod_lt_of_pos _ (by decide)⟩
        refine ⟨_, rfl, _, _, rfl, rfl, ⟨by decide, by decide⟩, .inl ⟨_, rfl, _, _, rfl, rfl, (by show (0 : Int) < 6; decide), ?_⟩⟩
        rw [hD]
        exact q _ n z.1 (by omega)
      refine ⟨_, rfl, rfl, _, rfl, ?_⟩
      by_cases c6 : sc = 6
      · exact iteY (by rw [c6]) (iteT (wide rfl))
      · refine iteN (fun z => c6 (V.int.inj z)) ?_
        refine ⟨_, rfl, rfl, _, rfl, ?_⟩
        by_cases c5 : sc = 5
        · refine iteY (by rw [c5]) ?_
          refine ⟨_, rfl, .inl ⟨d, rfl, _, _, rfl, rfl, (by show (0 : Int) < 2; decide), rfl, _, rfl, ?_⟩⟩
          by_cases co : d % 2 = 1
          · exact iteY (congrArg V.int co) (wide rfl)
          · exact iteN (fun z => co (V.int.inj z)) (last rfl)
        · exact iteN (fun z => c5 (V.int.inj z)) (iteF (last rfl))
/-! _law_base: 0 _law_draws_here, 1 _law_place -/
abbrev n36 : List Str := ["_law_draws_here", "_law_place"]
theorem sc36 : FnScope n36 ["_law_draws_here", "_law_place"] (defScope s36) := ⟨rfl, rfl, rfl, by decide +kernel, rfl, by decide +kernel, by decide +kernel⟩
def spBase (K : PySem.W.Frag) : Sp := fun vs H Q _ => ∃ (a b : Addr), vs = [.ref a, .ref b] ∧ At K H a b ∧ ∀ (v : Int) (n : Nat), 0 ≤ v → v ≤ (10 : Int) ^ 60 - 3 → Q (.int v) (upd H b (.lst [.int (n : Int)]))
theorem ok_law_base (F : Here K mg "_law_base" s36) (T : Txt K mg) (g__law_take : Fn P w K mg base 1 "_law_take" ["_law_draws_here", "_law_place"] (spTake K)) (g__law_wide : Fn P w K mg base 2 "_law_wide" ["_law_draws_here", "_law_place"] (spWide K)) :
    Fn P w K mg base 3 "_law_base" ["_law_draws_here", "_law_place"] (spBase K) := by
  refine F.fn sc36 (fun _ _ _ _ _ _ us hl => match us, hl with | [_, _], _ => rfl) (fun vs H Q E h => by obtain ⟨_, _, rfl, _⟩ := h; rfl) fun f cdv A outer s H vs Q E hr h => ?_
  have hu := hu_of hr
  obtain ⟨a, b, rfl, hA, q⟩ := h
  have pw : CPow 10 60 := ⟨by decide, by decide, by decide⟩
  refine ⟨_, (
    (pss_cons (ps_if (pt_cmpR op_eq (pe_op op_mod (pe_callTy call_int1 (by rfl) T.int (by decide +kernel) (pa_cons (pe_fn g__law_take (hr.mono (by decide)) rfl (pa_cons (pv 0) (pa_cons (pv 1) pa_nil))) pa_nil)) pe_int) pe_int (nomark _)) 
      (pss_one (ps_ret (pe_op op_sub (pe_op op_pow pe_int pe_int) pe_int))) pss_nil)
    (pss_one (ps_ret (pe_op op_mod (pe_callTy call_int1 (by rfl) T.int (by decide +kernel) (pa_cons (pe_fn g__law_wide (hr.mono (by decide)) rfl (pa_cons (pv 0) (pa_cons (pv 1) pa_nil))) pa_nil)) (pe_op op_sub (pe_op op_pow pe_int pe_int) pe_int)))))), ?_⟩
  refine ⟨_, rfl, _, rfl, a, b, rfl, hA, fun d n d0 d1 => .inl ⟨d, rfl, _, _, rfl, rfl, (by show (0 : Int) < 3; decide), rfl, _, rfl, ?_⟩⟩
  have hA1 := hA.upd n
  by_cases c : d % 3 = 0
  · refine iteY (congrArg V.int c) ⟨_, _, rfl, rfl, pw, _, _, rfl, rfl, ?_⟩
    exact q _ n (by decide) (by decide)
  · refine iteN (fun z => c (V.int.inj z)) ?_
    refine ⟨_, rfl, _, rfl, a, b, rfl, hA1, fun v n' v0 v1 => .inl ⟨v, rfl, _, _, rfl, rfl, pw, _, _, rfl, rfl, _, _, rfl, rfl, (by show (0 : Int) < 10 ^ 60 - 2; decide), ?_⟩⟩
    rw [upd_upd]
    have z0 : 0 ≤ v % (10 ^ 60 - 2) := Int.emod_nonneg _ (by decide)
    have z1 : v % (10 ^ 60 - 2) < 10 ^ 60 - 2 := Int.emod_lt_of_pos _ (by decide)
    exact q _ n' z0 (by
      show v % (10 ^ 60 - 2) ≤ 10 ^ 60 - 3
      omega)
end
end K72
end
section
set_option Elab.async false
set_option linter.all false
set_option maxRecDepth 100000
set_option maxHeartbeats 4000000
set_option exponentiation.threshold 3000
namespace K72
open PySem PySem.Spec PyProof.Rows L2
/-! ### cuts of texts -/
theorem cut_to {l : List Nat} {k : Nat} (h : k ≤ l.length) : cutS (tx l) none (some (k : Int)) = tx (l.take k) := by
  unfold cutS
  rw [HT.sIx_none, HT.sIx_nat, tx_cps, tx_len]
  show tx _ = _
  rw [List.drop_zero, Nat.min_eq_left h, Nat.sub_zero]
theorem cut_from {l : List Nat} {k : Nat} (h : k ≤ l.length) : cutS (tx l) (some (k : Int)) none = tx (l.drop k) := by
  unfold cutS
  rw [HT.sIx_none, HT.sIx_nat, tx_cps, tx_len]
  show tx _ = _
  rw [Nat.min_eq_left h, List.take_of_length_le (by rw [List.length_drop]; exact Nat.le_refl _)]
theorem mod_ne {a s m : Int} (ha : 0 ≤ a) (ham : a < m) (hs : 1 ≤ s) (hsm : s < m) : (a + s) % m ≠ a := by
  by_cases h : a + s < m
  · rw [Int.emod_eq_of_lt (by omega) h]
    omega
  · have e : (a + s) % m = (a + s - m) % m := by
      rw [Int.sub_emod, Int.emod_self, Int.sub_zero, Int.emod_emod]
    rw [e, Int.emod_eq_of_lt (by omega) (by omega)]
    omega
theorem rot {j t n : Nat} (hj : j < n) (ht : t < n) : ∃ k, k < n ∧ (k + t) % n = j := by
  by_cases h : t ≤ j
  · exact ⟨j - t, by omega, by rw [Nat.sub_add_cancel h, Nat.mod_eq_of_lt hj]⟩
  · exact ⟨j + n - t, by omega, by rw [show j + n - t + t = j + n by omega, Nat.add_mod_right, Nat.mod_eq_of_lt hj]⟩
/-- all but b as it was -/
def Sb (b : Addr) (H H' : Hp) : Prop := ∀ x o, x ≠ b → H x = some o → H' x = some o
theorem Sb.upd {b : Addr} {H H' : Hp} {o : HO} (h : Sb b H H') : Sb b H (L2.upd H' b o) := fun x u ne e => by
  rw [upd_ne ne]
  exact h x u ne e
theorem Sb.refl (b : Addr) (H : Hp) : Sb b H H := fun _ _ _ e => e
theorem Sb.mut {b : Addr} {H H' : Hp} {d : Addr} {o : HO} (h : Sb b H H') (hd : H d = none) : Sb b H (L2.upd H' d o) := fun x u ne e => by
  rw [upd_ne (ne_of_none e hd)]
  exact h x u ne e
theorem Sb.same {b : Addr} {H H' H2 : Hp} (h : Sb b H H') (s : Same H' H2) : Sb b H H2 := fun x u ne e => s _ _ (h x u ne e)
theorem At.sb {K : PySem.W.Frag} {H H' : Hp} {a b : Addr} (h : At K H a b) (s : Sb b H H') {n : Nat} (hb : H' b = some (.lst [.int (n : Int)])) : At K H' a b := by
  refine ⟨h.ne, ?_, n, hb⟩
  obtain ⟨ds, h1, h2⟩ := h.ds
  refine ⟨ds, ?_, h2⟩
  rcases h1 with (h1 | ⟨ob, h1⟩) | h1
  · exact .inl (.inl (s _ _ h.ne h1))
  · exact .inl (.inr ⟨ob, s _ _ h.ne h1⟩)
  · exact .inr h1
/-- debts between the parties of l -/
structure RawL (l : List Nat) (D : List K72M.Debt) : Prop where
  nd : (D.map (·.1)).Nodup
  ne : ∀ x ∈ D, x.1.1 ≠ x.1.2
  in1 : ∀ x ∈ D, x.1.1 ∈ l
  in2 : ∀ x ∈ D, x.1.2 ∈ l
  lo : ∀ x ∈ D, 0 ≤ x.2
  hi : ∀ x ∈ D, x.2 ≤ (10 : Int) ^ 60
theorem RawL.raw {l : List Nat} {D : List K72M.Debt} (r : RawL l D) (hl : ∀ p ∈ l, p ∈ K72M.abc) : K72M.Raw D := ⟨r.nd, r.ne, fun x hx => hl _ (r.in1 x hx), fun x hx => hl _ (r.in2 x hx), r.lo, r.hi⟩
theorem RawL.add {l : List Nat} {D : List K72M.Debt} (r : RawL l D) {a b : Nat} {c : Int} (ha : a ∈ l) (hb : b ∈ l) (ne : a ≠ b) (h0 : 0 ≤ c) (h1 : c ≤ (10 : Int) ^ 60) (new : (a, b) ∉ D.map (·.1)) : RawL l (D ++ [((a, b), c)]) := by
  have all : ∀ (p : K72M.Debt → Prop), (∀ x ∈ D, p x) → p ((a, b), c) → ∀ x ∈ D ++ [((a, b), c)], p x := fun p h h2 x hx => by
    rcases List.mem_append.mp hx with z | z
    · exact h x z
    · rw [List.mem_singleton.mp z]
      exact h2
  refine ⟨?_, all _ r.ne ne, all _ r.in1 ha, all _ r.in2 hb, all _ r.lo h0, all _ r.hi h1⟩
  rw [List.map_append, List.nodup_append]
  refine ⟨r.nd, by simp, fun x hx y hy e => ?_⟩
  rw [show y = (a, b) by simpa using hy] at e
  exact new (e ▸ hx)
/-- a debt set anew -/
def setD (D : List K72M.Debt) (k : Nat × Nat) (c : Int) : List K72M.Debt := D.map fun x => if x.1 = k then (x.1, c) else x
theorem setD_keys (D : List K72M.Debt) (k : Nat × Nat) (c : Int) : (setD D k c).map (·.1) = D.map (·.1) := by
  unfold setD
  rw [List.map_map]
  refine List.map_congr_left fun x _ => ?_
  show (if x.1 = k then (x.1, c) else x).1 = x.1
  split <;> rfl
theorem RawL.set {l : List Nat} {D : List K72M.Debt} (r : RawL l D) {k : Nat × Nat} {c : Int} (h0 : 0 ≤ c) (h1 : c ≤ (10 : Int) ^ 60) : RawL l (setD D k c) := by
  have all : ∀ (p : K72M.Debt → Prop), (∀ x ∈ D, p x) → (∀ x ∈ D, p (x.1, c)) → ∀ y ∈ setD D k c, p y := fun p h h2 y hy => by
    obtain ⟨x, hx, e⟩ := List.mem_map.mp hy
    rw [← e]
    by_cases q : x.1 = k
    · rw [if_pos q]
      exact h2 x hx
    · rw [if_neg q]
      exact h x hx
  refine ⟨by rw [setD_keys]; exact r.nd, all _ r.ne r.ne, all _ r.in1 r.in1, all _ r.in2 r.in2, all _ r.lo fun _ _ => h0, all _ r.hi fun _ _ => h1⟩
theorem DD_put {D : List K72M.Debt} {a b : Nat} {c : Int} (h : (a, b) ∈ D.map (·.1)) : putK (DD D) (Sum.inr (pr a b)) (.int c) = DD (setD D (a, b) c) := by
  unfold putK
  have hs : (valV (DD D) (Sum.inr (pr a b))).isSome = true := by
    obtain ⟨x, hx, e⟩ := List.mem_map.mp h
    cases q : valV (DD D) (Sum.inr (pr a b)) with
    | some v => rfl
    | none =>
      exfalso
      unfold valV at q
      rw [Option.map_eq_none_iff, List.find?_eq_none] at q
      refine q (Sum.inr (pr x.1.1 x.1.2), V.int x.2) (List.mem_map.mpr ⟨x, hx, rfl⟩) (decide_eq_true ?_)
      rw [e]
  rw [valV_any, hs, if_pos rfl]
  unfold DD setD
  rw [List.map_map, List.map_map]
  refine List.map_congr_left fun x _ => ?_
  show (if (Sum.inr (pr x.1.1 x.1.2) : Key) = Sum.inr (pr a b) then (Sum.inr (pr x.1.1 x.1.2), V.int c) else (Sum.inr (pr x.1.1 x.1.2), V.int x.2)) = ((Sum.inr (pr (if x.1 = (a, b) then (x.1, c) else x).1.1 (if x.1 = (a, b) then (x.1, c) else x).1.2), V.int (if x.1 = (a, b) then (x.1, c) else x).2) : Key × V)
  by_cases e : x.1 = (a, b)
  · rw [if_pos e, e, if_pos rfl]
  · have e2 : ¬ (Sum.inr (pr x.1.1 x.1.2) : Key) = Sum.inr (pr a b) := fun z => e (by
      have q := keyS.mp z
      exact Prod.ext (by simpa using (List.cons.inj q).1) (by simpa using (List.cons.inj (List.cons.inj q).2).1))
    rw [if_neg e, if_neg e2]
theorem DD_add {D : List K72M.Debt} {a b : Nat} {c : Int} (h : (a, b) ∉ D.map (·.1)) : putK (DD D) (Sum.inr (pr a b)) (.int c) = DD (D ++ [((a, b), c)]) := by
  rw [putK_new _ (show valV (DD D) (Sum.inr (pr a b)) = none from DD_none h)]
  unfold DD
  rw [List.map_append]
  rfl
theorem DD_isSome {D : List K72M.Debt} (nd : (D.map (·.1)).Nodup) (a b : Nat) : (valV (DD D) (Sum.inr (pr a b))).isSome = decide ((a, b) ∈ D.map (·.1)) := by
  by_cases h : (a, b) ∈ D.map (·.1)
  · rw [decide_eq_true h, show valV (DD D) (Sum.inr (pr a b)) = _ from DD_val nd h]
    rfl
  · rw [decide_eq_false h, show valV (DD D) (Sum.inr (pr a b)) = _ from DD_none h]
    rfl
section
variable {P : Program} {w : World} {K : PySem.W.Frag} {mg : Str → Option Value} {base : Heap}
/-! _law_parties: 0 _law_draws_here, 1 _law_place, 2 _law_left, 3 _law_found, 4 _law_k, 5 _law_at -/
abbrev n37 : List Str := ["_law_draws_here", "_law_place", "_law_left", "_law_found", "_law_k", "_law_at"]
theorem sc37 : FnScope n37 ["_law_draws_here", "_law_place"] (defScope s37) := ⟨rfl, rfl, rfl, by decide +kernel, rfl, by decide +kernel, by decide +kernel⟩
def spParties (K : PySem.W.Frag) : Sp := fun vs H Q _ => ∃ (a b : Addr), vs = [.ref a, .ref b] ∧ At K H a b ∧ ∀ (l : List Nat) (n : Nat), l.Nodup → (∀ p ∈ l, p ∈ K72M.abc) → 2 ≤ l.length → l.length ≤ 6 → Q (.str (tx l)) (upd H b (.lst [.int (n : Int)]))
theorem ok_law_parties (F : Here K mg "_law_parties" s37) (T : Txt K mg) (g__law_take : Fn P w K mg base 1 "_law_take" ["_law_draws_here", "_law_place"] (spTake K)) : Fn P w K mg base 2 "_law_parties" ["_law_draws_here", "_law_place"] (spParties K) := by
  refine F.fn sc37 (fun _ _ _ _ _ _ us hl => match us, hl with | [_, _], _ => rfl) (fun vs H Q E h => by obtain ⟨_, _, rfl, _⟩ := h; rfl) fun f cdv A outer s H vs Q E hr h => ?_
  have hu := hu_of hr
  obtain ⟨a, b, rfl, hA, q⟩ := h
  refine ⟨_, (
    (pss_cons (ps_set (i := 2) sc37.nd rfl (Or.inl rfl) pe_str)
    (pss_cons (ps_set (i := 3) sc37.nd rfl (Or.inl rfl) pe_str)
    (pss_cons (ps_for PassesOwn.never rfl (pi_range1 rfl T.range (pa_cons (pe_op op_add pe_int (pe_op op_mod (pe_callTy call_int1 (by rfl) T.int (by decide +kernel) (pa_cons (pe_fn g__law_take (hr.mono (by decide)) rfl (pa_cons (pv 0) (pa_cons (pv 1) pa_nil))) pa_nil)) pe_int)) pa_nil)) (pg_name (i := 4) sc37.nd rfl (Or.inl rfl)) 
      (pss_cons (ps_set (i := 5) sc37.nd rfl (Or.inl rfl) (pe_op op_mod (pe_callTy call_int1 (by rfl) T.int (by decide +kernel) (pa_cons (pe_fn g__law_take (hr.mono (by decide)) rfl (pa_cons (pv 0) (pa_cons (pv 1) pa_nil))) pa_nil)) (pe_callB call_len_str (by rfl) T.len (by decide +kernel) (pa_cons (pv 2) pa_nil))))
      (pss_cons (ps_set (i := 3) sc37.nd rfl (Or.inl rfl) (pe_op op_add_str (pv 3) (pe_ix ix_str (pv 2) (pv 5) (fun _ _ => rfl))))
      (pss_one (ps_set (i := 2) sc37.nd rfl (Or.inl rfl) (pe_op op_add_str (pe_slice sl_str (pv 2) po_none (po_some (pv 5))) (pe_slice sl_str (pv 2) (po_some (pe_op op_add (pv 5) pe_int)) po_none)))))))
    (pss_one (ps_ret (pv 3))))))), ?_⟩
  refine ⟨_, rfl, _, rfl, a, b, rfl, hA, fun d n d0 d1 => .inl ⟨d, rfl, _, _, rfl, rfl, (by show (0 : Int) < 5; decide), _, _, rfl, rfl, ?_⟩⟩
  have z0 : 0 ≤ d % 5 := Int.emod_nonneg _ (by decide)
  have z1 : d % 5 < 5 := Int.emod_lt_of_pos _ (by decide)
  refine ⟨_, rfl, by show -(2 ^ 62) ≤ 2 + d % 5; omega, by show 2 + d % 5 < 2 ^ 62; omega, ?_⟩
  obtain ⟨m, hm⟩ : ∃ m : Nat, 2 + d % 5 = (m : Int) := ⟨(2 + d % 5).toNat, by omega⟩
  have m2 : 2 ≤ m := by omega
  have m6 : m ≤ 6 := by omega
  rw [show ((fun i j : Int => i + j) 2 (d % 5)).toNat = m by show (2 + d % 5).toNat = m; omega]
  refine for_it (walk_range (lo := 0) (n := m)) (fun k σ Hu => ∃ (lf fd : List Nat) (n : Nat) (y4 y5 : Option V), σ = [some (.ref a), some (.ref b), some (.str (tx lf)), some (.str (tx fd)), y4, y5] ∧ (fd ++ lf).Perm K72M.abc ∧ fd.length = k ∧ Hu = upd H b (.lst [.int (n : Int)]))
    ⟨K72M.abc, [], n, none, none, ?_, List.Perm.refl _, rfl, rfl⟩ (fun _ _ _ _ _ => trivial) ?_ ?_
  · show [some (V.ref a), some (V.ref b), some (V.str "abcdef"), some (V.str ""), none, none] = _
    rw [parties_tx, show ("" : Str) = tx [] by decide +kernel]
    rfl
  · rintro k x σ Hu Hu' hk ⟨lf, fd, n', y4, y5, rfl, hp, hlen, rfl⟩ ⟨rfl, hx⟩
    have tot := hp.length_eq
    rw [List.length_append, hlen] at tot
    have tot : k + lf.length = 6 := tot
    refine ⟨_, rfl, _, rfl, a, b, rfl, hA.upd n', fun r n2 r0 r1 => .inl ⟨r, rfl, _, rfl, tx lf, rfl, tx_small (by omega), _, _, rfl, rfl, (by show (0 : Int) < ((tx lf).length : Int); rw [tx_len]; omega), ?_⟩⟩
    rw [tx_len, upd_upd]
    have t0 : 0 ≤ r % (lf.length : Int) := Int.emod_nonneg _ (by omega)
    have t1 : r % (lf.length : Int) < lf.length := Int.emod_lt_of_pos _ (by omega)
    obtain ⟨t, ht⟩ : ∃ t : Nat, r % (lf.length : Int) = (t : Int) := ⟨(r % (lf.length : Int)).toNat, by omega⟩
    dsimp only
    rw [ht]
    have tl : t < lf.length := by omega
    obtain ⟨c, hc⟩ : ∃ c, lf[t]? = some c := ⟨lf[t], List.getElem?_eq_getElem tl⟩
    refine ⟨_, rfl, _, rfl, _, rfl, _, _, c, rfl, rfl, tx_small (by omega), atI_nat (by rw [tx_cps]; exact hc), _, _, rfl, rfl, ?_, ?_⟩
    · have f6 : fd.length ≤ 6 := by omega
      rw [tx_len]
      show fd.length + 1 ≤ sizeLine
      exact Nat.le_of_lt (small1000 (by omega))
    · refine ⟨_, rfl, _, rfl, t, rfl, tx lf, rfl, tx_small (by omega), _, rfl, _, rfl, _, _, rfl, rfl, (t : Int) + 1, rfl, tx lf, rfl, tx_small (by omega), _, _, rfl, rfl, ?_, ?_⟩
      · have e1 := cut_to (l := lf) (k := t) (by omega)
        have e2 := cut_from (l := lf) (k := t + 1) (by omega)
        rw [show ((t + 1 : Nat) : Int) = (t : Int) + 1 by omega] at e2
        rw [e1, e2, tx_len, tx_len]
        exact Nat.le_of_lt (small1000 (by rw [List.length_take, List.length_drop]; omega))
      · have e1 := cut_to (l := lf) (k := t) (by omega)
        have e2 := cut_from (l := lf) (k := t + 1) (by omega)
        rw [show ((t + 1 : Nat) : Int) = (t : Int) + 1 by omega] at e2
        rw [e1, e2, tx_app]
        have hc2 : lf = lf.take t ++ c :: lf.drop (t + 1) := by
          have h := List.take_append_drop t lf
          rw [List.drop_eq_getElem_cons tl] at h
          have : lf[t] = c := (List.getElem?_eq_some_iff.mp hc).2
          rw [this] at h
          exact h.symm
        refine ⟨lf.take t ++ lf.drop (t + 1), fd ++ [c], n2, some x, some (.int (t : Int)), ?_, ?_, ?_, rfl⟩
        · rw [← tx_app fd [c]]
          rfl
        · refine List.Perm.trans ?_ hp
          rw [List.append_assoc]
          refine List.Perm.append_left fd ?_
          conv => rhs; rw [hc2]
          show (c :: (lf.take t ++ lf.drop (t + 1))).Perm (lf.take t ++ c :: lf.drop (t + 1))
          exact List.perm_middle.symm
        · rw [List.length_append, hlen]
          rfl
  · rintro σ Hu ⟨lf, fd, n', y4, y5, rfl, hp, hlen, rfl⟩
    have nd : (fd ++ lf).Nodup := hp.nodup_iff.mpr K72M.abc_nd
    exact ⟨_, rfl, q fd n' (List.nodup_append.mp nd).1 (fun p hpf => hp.subset (List.mem_append_left _ hpf)) (by omega) (by omega)⟩
end
end K72
end
section
set_option Elab.async false
set_option linter.all false
set_option maxRecDepth 100000
set_option maxHeartbeats 4000000
set_option exponentiation.threshold 3000
namespace K72
open PySem PySem.Spec PyProof.Rows L2
theorem natOf {i m : Int} (h0 : 0 ≤ i) (h1 : i < m) : ∃ k : Nat, i = (k : Int) ∧ (k : Int) < m := ⟨i.toNat, by omega, by omega⟩
theorem cat1 (a b : Nat) : (⟨#[a]⟩ : Str) ++ (⟨#[b]⟩ : Str) = pr a b := tx_app [a] [b]
theorem cat_small (a b : Nat) : (⟨#[a]⟩ : Str).length + (⟨#[b]⟩ : Str).length ≤ sizeLine := Nat.le_of_lt (small1000 (by show 2 ≤ 1000; omega))
section
variable {P : Program} {w : World} {K : PySem.W.Frag} {mg : Str → Option Value} {base : Heap}
/-! _law_debts: 0 _law_draws_here, 1 _law_place, 2 _law_parties_here, 3 _law_scale, 4 _law_base_here, 5 _law_many, 6 _law_debts_here, 7 _law_size, 8 _law_at, 9 _law_k, 10 _law_draw, 11 _law_to, 12 _law_coins_here -/
abbrev n38 : List Str := ["_law_draws_here", "_law_place", "_law_parties_here", "_law_scale", "_law_base_here", "_law_many", "_law_debts_here", "_law_size", "_law_at", "_law_k", "_law_draw", "_law_to", "_law_coins_here"]
theorem sc38 : FnScope n38 ["_law_draws_here", "_law_place", "_law_parties_here", "_law_scale", "_law_base_here"] (defScope s38) := ⟨rfl, rfl, rfl, by decide +kernel, rfl, by decide +kernel, by decide +kernel⟩
def spDebts (K : PySem.W.Frag) : Sp := fun vs H Q _ => ∃ (a b : Addr) (l : List Nat) (sc ba : Int), vs = [.ref a, .ref b, .str (tx l), .int sc, .int ba] ∧ At K H a b ∧ l.Nodup ∧ 2 ≤ l.length ∧ l.length ≤ 6 ∧ 0 ≤ ba ∧ ba ≤ (10 : Int) ^ 60 - 3 ∧
  ∀ H' dd D, Sb b H H' → (∃ n : Nat, H' b = some (.lst [.int (n : Int)])) → H dd = none → H' dd = some (.dK (DD D)) → RawL l D → Q (.ref dd) H'
theorem ok_law_debts (F : Here K mg "_law_debts" s38) (T : Txt K mg) (g__law_take : Fn P w K mg base 1 "_law_take" ["_law_draws_here", "_law_place"] (spTake K)) (g__law_coins : Fn P w K mg base 3 "_law_coins" ["_law_draws_here", "_law_place", "_law_scale", "_law_base_here"] (spCoins K)) :
    Fn P w K mg base 4 "_law_debts" ["_law_draws_here", "_law_place", "_law_parties_here", "_law_scale", "_law_base_here"] (spDebts K) := by
  refine F.fn sc38 (fun _ _ _ _ _ _ us hl => match us, hl with | [_, _, _, _, _], _ => rfl) (fun vs H Q E h => by obtain ⟨_, _, _, _, _, rfl, _⟩ := h; rfl) fun f cdv A outer s H vs Q E hr h => ?_
  have hu := hu_of hr
  obtain ⟨a, b, l, sc, ba, rfl, hA, nd, l2, l6, b0, b1, q⟩ := h
  refine ⟨_, (
    (pss_cons (ps_set (i := 5) sc38.nd rfl (Or.inl rfl) (pe_callB call_len_str (by rfl) T.len (by decide +kernel) (pa_cons (pv 2) pa_nil)))
    (pss_cons (ps_set (i := 6) sc38.nd rfl (Or.inl rfl) pe_dnewK)
    (pss_cons (ps_set (i := 7) sc38.nd rfl (Or.inl rfl) (pe_op op_mod (pe_callTy call_int1 (by rfl) T.int (by decide +kernel) (pa_cons (pe_fn g__law_take (hr.mono (by decide)) rfl (pa_cons (pv 0) (pa_cons (pv 1) pa_nil))) pa_nil)) pe_int))
    (Evl.pss_cut (ps_if (pt_cmpR op_eq (pe_op op_mod (pe_callTy call_int1 (by rfl) T.int (by decide +kernel) (pa_cons (pe_fn g__law_take (hr.mono (by decide)) rfl (pa_cons (pv 0) (pa_cons (pv 1) pa_nil))) pa_nil)) pe_int) pe_int (nomark _)) 
      (pss_one (ps_set (i := 7) sc38.nd rfl (Or.inl rfl) (pe_op op_add (pv 7) pe_int))) pss_nil)
    (pss_cons (ps_set (i := 8) sc38.nd rfl (Or.inl rfl) pe_int)
    (pss_cons (ps_for PassesOwn.never rfl (pi_range1 rfl T.range (pa_cons (pv 7) pa_nil)) (pg_name (i := 9) sc38.nd rfl (Or.inl rfl)) 
      (pss_cons (ps_set (i := 10) sc38.nd rfl (Or.inl rfl) (pe_fn g__law_take (hr.mono (by decide)) rfl (pa_cons (pv 0) (pa_cons (pv 1) pa_nil))))
      (Evl.pss_cut (ps_if (pt_cmpR op_eq (pe_op op_mod (pe_callTy call_int1 (by rfl) T.int (by decide +kernel) (pa_cons (pv 10) pa_nil)) pe_int) pe_int (nomark _)) 
        (pss_one (ps_set (i := 8) sc38.nd rfl (Or.inl rfl) (pe_op op_mod (pe_callTy call_int1 (by rfl) T.int (by decide +kernel) (pa_cons (pe_op op_fdiv (pv 10) pe_int) pa_nil)) (pv 5)))) pss_nil)
      (pss_cons (ps_set (i := 11) sc38.nd rfl (Or.inl rfl) (pe_op op_mod (pe_callTy call_int1 (by rfl) T.int (by decide +kernel) (pa_cons (pe_op op_add (pe_op op_add (pv 8) pe_int) (pe_op op_mod (pe_callTy call_int1 (by rfl) T.int (by decide +kernel) (pa_cons (pe_op op_fdiv (pv 10) pe_int) pa_nil)) (pe_op op_sub (pv 5) pe_int))) pa_nil)) (pv 5)))
      (pss_cons (ps_set (i := 12) sc38.nd rfl (Or.inl rfl) (pe_fn g__law_coins (hr.mono (by decide)) rfl (pa_cons (pv 0) (pa_cons (pv 1) (pa_cons (pv 3) (pa_cons (pv 4) pa_nil))))))
      (Evl.pss_cut (ps_if (pt_cmp (pc_dnotin hu (pe_op op_add_str (pe_ix ix_str (pv 2) (pv 8) (fun _ _ => rfl)) (pe_ix ix_str (pv 2) (pv 11) (fun _ _ => rfl))) (pv 6))) 
        (pss_one (ps_dput hu (pv 6) (pe_op op_add_str (pe_ix ix_str (pv 2) (pv 8) (fun _ _ => rfl)) (pe_ix ix_str (pv 2) (pv 11) (fun _ _ => rfl))) (pv 12) rfl)) pss_nil)
      (pss_one (ps_set (i := 8) sc38.nd rfl (Or.inl rfl) (pv 11)))))))))
    (pss_one (ps_ret (pv 6)))))))))), ?_⟩
  refine ⟨_, rfl, tx l, rfl, tx_small (by omega), ?_⟩
  rw [tx_len]
  intro dd hdd
  have ndb : dd ≠ b := by
    obtain ⟨n, hb⟩ := hA.pl
    exact (ne_of_none hb hdd).symm
  obtain ⟨n0, hb0⟩ := hA.pl
  have s1 : Sb b H (upd H dd (.dK [])) := (Sb.refl b H).mut hdd
  have hA1 : At K (upd H dd (.dK [])) a b := hA.sb s1 (n := n0) (by rw [upd_ne ndb.symm]; exact hb0)
  refine ⟨_, rfl, _, rfl, a, b, rfl, hA1, fun d n d0 d1 => .inl ⟨d, rfl, _, _, rfl, rfl, (by show (0 : Int) < 13; decide), ?_⟩⟩
  have z0 : 0 ≤ d % 13 := Int.emod_nonneg _ (by decide)
  have z1 : d % 13 < 13 := Int.emod_lt_of_pos _ (by decide)
  dsimp only
  generalize d % 13 = z at *
  have hA2 := hA1.upd n
  -- if .. == 4: size = size + 18
  refine ⟨fun σ Hu => ∃ (z : Int) (n : Nat), σ = [some (.ref a), some (.ref b), some (.str (tx l)), some (.int sc), some (.int ba), some (.int (l.length : Int)), some (.ref dd), some (.int z), none, none, none, none, none] ∧ 0 ≤ z ∧ z < 32 ∧ Hu = upd (upd H dd (.dK [])) b (.lst [.int (n : Int)]), ?_, ?_⟩
  · refine ⟨_, rfl, _, rfl, a, b, rfl, hA2, fun r n2 r0 r1 => .inl ⟨r, rfl, _, _, rfl, rfl, (by show (0 : Int) < 5; decide), rfl, _, rfl, ?_⟩⟩
    rw [upd_upd]
    by_cases c4 : r % 5 = 4
    · exact iteY (congrArg V.int c4) ⟨_, rfl, _, _, rfl, rfl, z + 18, n2, rfl, by omega, by omega, rfl⟩
    · exact iteN (fun h => c4 (V.int.inj h)) ⟨z, n2, rfl, by omega, by omega, rfl⟩
  · clear hA2 z0 z1 z d0 d1
    rintro σ Hu ⟨z, n, rfl, z0, z1, rfl⟩
    -- at = 0, the loop
    refine ⟨_, rfl, z, rfl, by omega, by omega, ?_⟩
    obtain ⟨m, rfl, _⟩ := natOf z0 z1
    rw [show ((m : Int)).toNat = m by simp]
    refine for_it (walk_range (lo := 0) (n := m)) (fun k σ Hu => ∃ (t : Nat) (D : List K72M.Debt) (y9 y10 y11 y12 : Option V), σ = [some (.ref a), some (.ref b), some (.str (tx l)), some (.int sc), some (.int ba), some (.int (l.length : Int)), some (.ref dd), some (.int (m : Int)), some (.int (t : Int)), y9, y10, y11, y12] ∧
      t < l.length ∧ RawL l D ∧ D.length ≤ k ∧ Sb b H Hu ∧ (∃ n : Nat, Hu b = some (.lst [.int (n : Int)])) ∧ Hu dd = some (.dK (DD D))) ⟨0, [], none, none, none, none, rfl, by omega, ⟨List.nodup_nil, by simp, by simp, by simp, by simp, by simp⟩, Nat.le_refl _, s1.upd, ⟨n, upd_same⟩, by rw [upd_ne ndb, upd_same]; rfl⟩ (fun _ _ _ _ _ => trivial) ?_ ?_
    · rintro k x σ Hu Hu' hk ⟨t, D, y9, y10, y11, y12, rfl, ht, hD, hDl, sb, ⟨n, hb⟩, hdu⟩ ⟨rfl, hx⟩
      have hAu : At K Hu' a b := hA.sb sb hb
      refine ⟨_, rfl, _, rfl, a, b, rfl, hAu, fun d n2 d0 d1 => ?_⟩
      -- if draw % 3 == 0: at = ..
      refine ⟨fun σ Hv => ∃ t : Nat, t < l.length ∧ σ = [some (.ref a), some (.ref b), some (.str (tx l)), some (.int sc), some (.int ba), some (.int (l.length : Int)), some (.ref dd), some (.int (m : Int)), some (.int (t : Int)), some x, some (.int d), y11, y12] ∧ Hv = upd Hu' b (.lst [.int (n2 : Int)]), ?_, ?_⟩
      · refine ⟨_, rfl, .inl ⟨d, rfl, _, _, rfl, rfl, (by show (0 : Int) < 3; decide), rfl, _, rfl, ?_⟩⟩
        by_cases c3 : d % 3 = 0
        · refine iteY (congrArg V.int c3) ⟨_, rfl, _, _, rfl, rfl, ⟨by decide, by decide⟩, .inl ⟨_, rfl, _, rfl, _, _, rfl, rfl, (by show (0 : Int) < (l.length : Int); omega), ?_⟩⟩
          obtain ⟨t', e', l'⟩ := natOf (i := (d / 3) % (l.length : Int)) (Int.emod_nonneg _ (by omega)) (Int.emod_lt_of_pos _ (by omega))
          dsimp only
          rw [e']
          exact ⟨t', by omega, rfl, rfl⟩
        · exact iteN (fun h => c3 (V.int.inj h)) ⟨t, ht, rfl, rfl⟩
      · clear ht t
        rintro σ Hv ⟨t, ht, rfl, rfl⟩
        have r0 : 0 ≤ (d / 18) % ((l.length : Int) - 1) := Int.emod_nonneg _ (by omega)
        have r1 : (d / 18) % ((l.length : Int) - 1) < (l.length : Int) - 1 := Int.emod_lt_of_pos _ (by omega)
        -- to = ..
        refine ⟨_, rfl, _, _, rfl, rfl, _, rfl, _, _, rfl, rfl, ⟨by decide, by decide⟩, .inl ⟨_, rfl, _, rfl, _, _, rfl, rfl, _, _, rfl, rfl, (by show (0 : Int) < (l.length : Int) - 1; omega), _, _, rfl, rfl, .inl ⟨_, rfl, _, rfl, _, _, rfl, rfl, (by show (0 : Int) < (l.length : Int); omega), ?_⟩⟩⟩
        have tn : ((t : Int) + 1 + (d / 18) % ((l.length : Int) - 1)) % (l.length : Int) ≠ t := by
          rw [Int.add_assoc]
          exact mod_ne (by omega) (by omega) (by omega) (by omega)
        obtain ⟨u, eu, lu⟩ := natOf (i := ((t : Int) + 1 + (d / 18) % ((l.length : Int) - 1)) % (l.length : Int)) (Int.emod_nonneg _ (by omega)) (Int.emod_lt_of_pos _ (by omega))
        dsimp only
        rw [eu] at tn
        rw [eu]
        have ul : u < l.length := by omega
        have ut : u ≠ t := fun e => tn (by rw [e])
        obtain ⟨p1, hp1⟩ : ∃ c, l[t]? = some c := ⟨l[t], List.getElem?_eq_getElem ht⟩
        obtain ⟨p2, hp2⟩ : ∃ c, l[u]? = some c := ⟨l[u], List.getElem?_eq_getElem ul⟩
        have pne : p1 ≠ p2 := fun e => ut (by
          have h1 := List.getElem?_eq_some_iff.mp hp1
          have h2 := List.getElem?_eq_some_iff.mp hp2
          exact ((List.getElem_inj nd).mp (h1.2.trans (e.trans h2.2.symm))).symm)
        have i1 : atI (tx l).cps.toList (t : Int) = some p1 := atI_nat (by rw [tx_cps]; exact hp1)
        have i2 : atI (tx l).cps.toList (u : Int) = some p2 := atI_nat (by rw [tx_cps]; exact hp2)
        -- coins
        refine ⟨_, rfl, _, rfl, _, rfl, _, rfl, a, b, sc, ba, rfl, hAu.upd n2, b0, b1, fun v n3 v0 v1 => ?_⟩
        rw [upd_upd]
        have sb2 : Sb b H (upd Hu' b (.lst [.int (n3 : Int)])) := sb.upd
        have hd2 : (upd Hu' b (.lst [.int (n3 : Int)])) dd = some (.dK (DD D)) := by
          rw [upd_ne ndb]
          exact hdu
        have hb2 : (upd Hu' b (.lst [.int (n3 : Int)])) b = some (.lst [.int (n3 : Int)]) := upd_same
        generalize upd Hu' b (.lst [.int (n3 : Int)]) = H3 at *
        -- if .. not in debts
        refine ⟨fun σ Hv => ∃ D' : List K72M.Debt, σ = [some (.ref a), some (.ref b), some (.str (tx l)), some (.int sc), some (.int ba), some (.int (l.length : Int)), some (.ref dd), some (.int (m : Int)), some (.int (t : Int)), some x, some (.int d), some (.int (u : Int)), some (.int v)] ∧ RawL l D' ∧ D'.length ≤ k + 1 ∧ Sb b H Hv ∧ (∃ n : Nat, Hv b = some (.lst [.int (n : Int)])) ∧ Hv dd = some (.dK (DD D')), ?_, ?_⟩
        · have g := DGet.k (k := Sum.inr (pr p1 p2)) hd2
          refine ⟨_, rfl, _, rfl, _, _, p1, rfl, rfl, tx_small (by omega), i1, _, rfl, _, rfl, _, _, p2, rfl, rfl, tx_small (by omega), i2, _, _, rfl, rfl, cat_small _ _, _, rfl, dd, _, rfl, g, _, rfl, ?_⟩
          rw [DD_isSome hD.nd]
          by_cases hm : (p1, p2) ∈ D.map (·.1)
          · rw [decide_eq_true hm]
            exact iteF ⟨D, rfl, hD, by omega, sb2, ⟨n3, hb2⟩, hd2⟩
          · rw [decide_eq_false hm]
            refine iteT ⟨_, rfl, _, rfl, _, rfl, _, rfl, _, _, p1, rfl, rfl, tx_small (by omega), i1, _, rfl, _, rfl, _, _, p2, rfl, rfl, tx_small (by omega), i2, _, _, rfl, rfl, cat_small _ _, dd, _, rfl, DPut.k (k := Sum.inr (pr p1 p2)) hd2 (by rw [DD_len]; exact small1000 (by omega)), ?_⟩
            rw [DD_add hm]
            refine ⟨D ++ [((p1, p2), v)], rfl, hD.add (List.mem_of_getElem? hp1) (List.mem_of_getElem? hp2) pne v0 v1 hm, by rw [List.length_append]; show D.length + 1 ≤ k + 1; omega, sb2.mut hdd, ⟨n3, by rw [upd_ne ndb.symm]; exact hb2⟩, upd_same⟩
        · rintro σ Hv ⟨D', rfl, hD', hl', sb', hb', hd'⟩
          exact ⟨_, rfl, u, D', _, _, _, _, rfl, ul, hD', hl', sb', hb', hd'⟩
    · rintro σ Hu ⟨t, D, y9, y10, y11, y12, rfl, ht, hD, hDl, sb, hb, hdu⟩
      exact ⟨_, rfl, q Hu dd D sb hb hdd hdu hD⟩
end
end K72
end
section
set_option Elab.async false
set_option linter.all false
set_option maxRecDepth 100000
set_option maxHeartbeats 4000000
set_option exponentiation.threshold 3000
namespace K72
open PySem PySem.Spec PyProof.Rows L2
/-- what the law keeps of debts and purses -/
structure Sta (l : List Nat) (D : List K72M.Debt) (P : List Nat) (e : Nat → Int) : Prop where
  raw : RawL l D
  nd : P.Nodup
  inl : ∀ p ∈ P, p ∈ l
  lo : ∀ p, 0 ≤ e p
  hi : ∀ p, e p ≤ (10 : Int) ^ 200
  cov : K72M.Cov D P
theorem PD_put_any {P : List Nat} {e : Nat → Int} {p : Nat} {v : Int} : ∃ P' : List Nat, putK (PD P fun q => V.int (e q)) (Sum.inr (sg p)) (V.int v) = PD P' (fun q => V.int (if q = p then v else e q)) ∧ (∀ x, x ∈ P' ↔ x ∈ P ∨ x = p) ∧ (P.Nodup → P'.Nodup) := by
  by_cases h : p ∈ P
  · refine ⟨P, ?_, fun x => ⟨Or.inl, fun z => z.elim id fun z => by rw [z]; exact h⟩, id⟩
    rw [PD_put_in h]
    refine PD_congr fun q _ => ?_
    by_cases e : q = p
    · rw [if_pos e, if_pos e]
    · rw [if_neg e, if_neg e]
  · refine ⟨P ++ [p], ?_, fun x => by simp, fun nd => ?_⟩
    · rw [PD_put_new h]
      refine PD_congr fun q _ => ?_
      by_cases e : q = p
      · rw [if_pos e, if_pos e]
      · rw [if_neg e, if_neg e]
    · rw [List.nodup_append]
      refine ⟨nd, by simp, fun x hx y hy e => ?_⟩
      rw [show y = p by simpa using hy] at e
      exact h (e ▸ hx)
theorem ten_wide {i j : Int} (hi : i.natAbs < 2 ^ 700) (hj : j.natAbs < 2 ^ 700) : CMulW i j := wide_mul hi hj (by decide) (by decide) (by decide)
section
variable {P : Program} {w : World} {K : PySem.W.Frag} {mg : Str → Option Value} {base : Heap}
/-! _law_purses: 0 _law_draws_here, 1 _law_place, 2 _law_parties_here, 3 _law_scale, 4 _law_base_here, 5 _law_debts_here, 6 _law_purses_here, 7 _law_turn, 8 _law_k, 9 _law_party, 10 _law_draw, 11 _law_coins_here, 12 _law_lap, 13 _law_named, 14 _law_pair -/
abbrev n39 : List Str := ["_law_draws_here", "_law_place", "_law_parties_here", "_law_scale", "_law_base_here", "_law_debts_here", "_law_purses_here", "_law_turn", "_law_k", "_law_party", "_law_draw", "_law_coins_here", "_law_lap", "_law_named", "_law_pair"]
theorem sc39 : FnScope n39 ["_law_draws_here", "_law_place", "_law_parties_here", "_law_scale", "_law_base_here", "_law_debts_here"] (defScope s39) := ⟨rfl, rfl, rfl, by decide +kernel, rfl, by decide +kernel, by decide +kernel⟩
def spPurses (K : PySem.W.Frag) : Sp := fun vs H Q _ => ∃ (a b dd : Addr) (l : List Nat) (sc ba : Int) (D : List K72M.Debt), vs = [.ref a, .ref b, .str (tx l), .int sc, .int ba, .ref dd] ∧ At K H a b ∧ l.Nodup ∧ 2 ≤ l.length ∧ l.length ≤ 6 ∧ 0 ≤ ba ∧ ba ≤ (10 : Int) ^ 60 - 3 ∧ H dd = some (.dK (DD D)) ∧ RawL l D ∧ D.length ≤ 1000 ∧
  ∀ H' pp P e, Sb b H H' → H pp = none → H' pp = some (.dK (PD P fun q => .int (e q))) → Sta l D P e → Q (.ref pp) H'
theorem ok_law_purses (F : Here K mg "_law_purses" s39) (T : Txt K mg) (g__law_take : Fn P w K mg base 1 "_law_take" ["_law_draws_here", "_law_place"] (spTake K)) (g__law_coins : Fn P w K mg base 3 "_law_coins" ["_law_draws_here", "_law_place", "_law_scale", "_law_base_here"] (spCoins K)) :
    Fn P w K mg base 4 "_law_purses" ["_law_draws_here", "_law_place", "_law_parties_here", "_law_scale", "_law_base_here", "_law_debts_here"] (spPurses K) := by
  refine F.fn sc39 (fun _ _ _ _ _ _ us hl => match us, hl with | [_, _, _, _, _, _], _ => rfl) (fun vs H Q E h => by obtain ⟨_, _, _, _, _, _, _, rfl, _⟩ := h; rfl) fun f cdv A outer s H vs Q E hr h => ?_
  have hu := hu_of hr
  obtain ⟨a, b, dd, l, sc, ba, D, rfl, hA, nd, l2, l6, b0, b1, hdd, hD, hDl, q⟩ := h
  obtain ⟨n0, hb0⟩ := hA.pl
  have ddb : dd ≠ b := ne_of hdd hb0 (by intro z; cases z)
  have p60 : (0 : Int) ≤ 10 ^ 60 := by decide
  have p200 : (10 : Int) ^ 60 ≤ 10 ^ 200 := by decide
  refine ⟨_, (
    (pss_cons (ps_set (i := 6) sc39.nd rfl (Or.inl rfl) pe_dnewK)
    (pss_cons (ps_set (i := 7) sc39.nd rfl (Or.inl rfl) (pe_op op_mod (pe_callTy call_int1 (by rfl) T.int (by decide +kernel) (pa_cons (pe_fn g__law_take (hr.mono (by decide)) rfl (pa_cons (pv 0) (pa_cons (pv 1) pa_nil))) pa_nil)) (pe_callB call_len_str (by rfl) T.len (by decide +kernel) (pa_cons (pv 2) pa_nil))))
    (pss_cons (ps_for PassesOwn.never rfl (pi_range1 rfl T.range (pa_cons (pe_callB call_len_str (by rfl) T.len (by decide +kernel) (pa_cons (pv 2) pa_nil)) pa_nil)) (pg_name (i := 8) sc39.nd rfl (Or.inl rfl)) 
      (pss_cons (ps_set (i := 9) sc39.nd rfl (Or.inr rfl) (pe_ix ix_str (pv 2) (pe_op op_mod (pe_callTy call_int1 (by rfl) T.int (by decide +kernel) (pa_cons (pe_op op_add (pv 8) (pv 7)) pa_nil)) (pe_callB call_len_str (by rfl) T.len (by decide +kernel) (pa_cons (pv 2) pa_nil))) (fun _ _ => rfl)))
      (pss_cons (ps_set (i := 10) sc39.nd rfl (Or.inl rfl) (pe_fn g__law_take (hr.mono (by decide)) rfl (pa_cons (pv 0) (pa_cons (pv 1) pa_nil))))
      (pss_cons (ps_set (i := 11) sc39.nd rfl (Or.inl rfl) (pe_fn g__law_coins (hr.mono (by decide)) rfl (pa_cons (pv 0) (pa_cons (pv 1) (pa_cons (pv 3) (pa_cons (pv 4) pa_nil))))))
      (Evl.pss_cut (ps_if (pt_cmpR op_lt (pe_op op_mod (pe_callTy call_int1 (by rfl) T.int (by decide +kernel) (pa_cons (pv 10) pa_nil)) pe_int) pe_int (nomark _)) 
        (pss_one (ps_set (i := 11) sc39.nd rfl (Or.inl rfl) pe_int)) pss_nil)
      (Evl.pss_cut (ps_if (pt_cmpR op_eq (pe_op op_mod (pe_callTy call_int1 (by rfl) T.int (by decide +kernel) (pa_cons (pv 10) pa_nil)) pe_int) pe_int (nomark _)) 
        (pss_one (ps_set (i := 11) sc39.nd rfl (Or.inl rfl) (pe_op op_mod (pe_callTy call_int1 (by rfl) T.int (by decide +kernel) (pa_cons (pe_op op_fdiv (pv 10) pe_int) pa_nil)) pe_int))) pss_nil)
      (Evl.pss_cut (ps_if (pt_cmpR op_eq (pe_op op_mod (pe_callTy call_int1 (by rfl) T.int (by decide +kernel) (pa_cons (pe_op op_fdiv (pv 10) pe_int) pa_nil)) pe_int) pe_int (nomark _)) 
        (pss_one (ps_set (i := 11) sc39.nd rfl (Or.inl rfl) (pe_op op_sub (pe_op op_mulW (pe_op op_mulW (pe_op op_mulW (pe_op op_pow pe_int pe_int) (pe_op op_pow pe_int pe_int)) (pe_op op_pow pe_int pe_int)) (pe_op op_pow pe_int pe_int)) (pv 11)))) pss_nil)
      (Evl.pss_cut (ps_if (pt_cmpR op_eq (pe_op op_mod (pe_callTy call_int1 (by rfl) T.int (by decide +kernel) (pa_cons (pe_op op_fdiv (pv 10) pe_int) pa_nil)) pe_int) pe_int (nomark _)) 
        (pss_cons (ps_set (i := 11) sc39.nd rfl (Or.inl rfl) (pe_op op_sub (pe_op op_pow pe_int pe_int) (pv 11)))
        (pss_one (ps_for PassesOwn.never rfl (pi_range1 rfl T.range (pa_cons (pe_op op_mod (pe_callTy call_int1 (by rfl) T.int (by decide +kernel) (pa_cons (pe_op op_fdiv (pv 10) pe_int) pa_nil)) pe_int) pa_nil)) (pg_name (i := 12) sc39.nd rfl (Or.inl rfl)) 
          (pss_one (ps_set (i := 11) sc39.nd rfl (Or.inl rfl) (pe_op op_mul (pv 11) pe_int)))))) pss_nil)
      (pss_cons (ps_lock (ps_setLc (i := 13) (own := [("_law_pair", 14)]) rfl sc39.nd rfl rfl (sw_true rfl rfl rfl (by decide +kernel)) (pi_keys (pv 5)) (blkOk_by (N := n39) (sc := defScope s39) (by decide +kernel)) (fun _ _ _ _ _ => (pg_name (i := 14) sc39.nd rfl (Or.inl rfl) (Or.inr rfl))) (fun _ _ _ _ _ => (pts_one (PW.pt (pw_and (pt_cmpR op_in_sign (pv 9) (pv 14) rfl) (pw_and1 (pt_cmpR op_gt (pe_dget hu (pv 5) (pv 14) (fun _ _ => rfl)) pe_int (nomark _))))))) (fun _ _ _ _ _ => (pv 14))))
      (pss_one (ps_if (PW.pt (pw_or (pt_cmpR op_gt (pe_callB call_len_seq (by rfl) T.len (by decide +kernel) (pa_cons (pv 13) pa_nil)) pe_int (nomark _)) (pw_or1 (pt_cmpR op_gt (pe_op op_mod (pe_callTy call_int1 (by rfl) T.int (by decide +kernel) (pa_cons (pe_op op_fdiv (pv 10) pe_int) pa_nil)) pe_int) pe_int (nomark _))))) 
        (pss_one (ps_dput hu (pv 6) (pv 9) (pv 11) rfl)) pss_nil)))))))))))
    (pss_one (ps_ret (pv 6))))))), ?_⟩
  intro pp hpp
  have ppb : pp ≠ b := (ne_of_none hb0 hpp).symm
  have ppd : pp ≠ dd := (ne_of_none hdd hpp).symm
  have s1 : Sb b H (upd H pp (.dK [])) := (Sb.refl b H).mut hpp
  have hA1 : At K (upd H pp (.dK [])) a b := hA.sb s1 (n := n0) (by rw [upd_ne ppb.symm]; exact hb0)
  -- turn
  refine ⟨_, rfl, _, rfl, a, b, rfl, hA1, fun d n d0 d1 => .inl ⟨d, rfl, _, rfl, tx l, rfl, tx_small (by omega), _, _, rfl, rfl, (by show (0 : Int) < ((tx l).length : Int); rw [tx_len]; omega), ?_⟩⟩
  dsimp only
  rw [tx_len]
  obtain ⟨tu, etu, htu⟩ := natOf (i := d % (l.length : Int)) (Int.emod_nonneg _ (by omega)) (Int.emod_lt_of_pos _ (by omega))
  rw [etu]
  have htu' : tu < l.length := by omega
  -- the loop
  refine ⟨_, rfl, tx l, rfl, tx_small (by omega), ((tx l).length : Int), rfl, by rw [tx_len]; omega, by rw [tx_len]; omega, ?_⟩
  rw [tx_len, show ((l.length : Int)).toNat = l.length by simp]
  refine for_it (walk_range (lo := 0) (n := l.length)) (fun k σ Hu => ∃ (Pl : List Nat) (e : Nat → Int) (y8 y9 y10 y11 y12 y13 : Option V), σ = [some (.ref a), some (.ref b), some (.str (tx l)), some (.int sc), some (.int ba), some (.ref dd), some (.ref pp), some (.int (tu : Int)), y8, y9, y10, y11, y12, y13, none] ∧
      Pl.Nodup ∧ (∀ p ∈ Pl, p ∈ l) ∧ Pl.length ≤ k ∧ (∀ p, 0 ≤ e p ∧ e p ≤ (10 : Int) ^ 200) ∧ (∀ i p, i < k → l[(i + tu) % l.length]? = some p → (∃ x ∈ D, 0 < x.2 ∧ (p = x.1.1 ∨ p = x.1.2)) → p ∈ Pl) ∧ Sb b H Hu ∧ (∃ n : Nat, Hu b = some (.lst [.int (n : Int)])) ∧ Hu pp = some (.dK (PD Pl fun q => .int (e q))))
    ⟨[], fun _ => 0, none, none, none, none, none, none, rfl, List.nodup_nil, by simp, Nat.le_refl _, fun p => ⟨Int.le_refl 0, by show (0 : Int) ≤ 10 ^ 200; decide⟩, fun i p hi => by omega, s1.upd, ⟨n, upd_same⟩, by rw [upd_ne ppb, upd_same]; rfl⟩ (fun _ _ _ _ _ => trivial) ?_ ?_
  · rintro k x σ Hu Hu' hk ⟨Pl, e, y8, y9, y10, y11, y12, y13, rfl, hPn, hPl, hPk, he, hcov, sb, ⟨n1, hb1⟩, hpu⟩ ⟨rfl, hx⟩
    obtain rfl : x = V.int (k : Int) := by
      rw [hx]
      show V.int (0 + (k : Int)) = V.int (k : Int)
      rw [Int.zero_add]
    have hAu : At K Hu' a b := hA.sb sb hb1
    -- party
    have jl : (k + tu) % l.length < l.length := Nat.mod_lt _ (by omega)
    obtain ⟨c, hc⟩ : ∃ c, l[(k + tu) % l.length]? = some c := ⟨_, List.getElem?_eq_getElem jl⟩
    have ej : ((k : Int) + (tu : Int)) % (l.length : Int) = (((k + tu) % l.length : Nat) : Int) := by
      rw [Int.natCast_emod, Int.natCast_add]
    have i1 : atI (tx l).cps.toList (((k : Int) + (tu : Int)) % (l.length : Int)) = some c := by
      rw [ej]
      exact atI_nat (by rw [tx_cps]; exact hc)
    refine ⟨_, rfl, _, rfl, _, rfl, _, _, rfl, rfl, .inl ⟨_, rfl, _, rfl, tx l, rfl, tx_small (by omega), _, _, rfl, rfl, (by show (0 : Int) < ((tx l).length : Int); rw [tx_len]; omega), _, _, c, rfl, rfl, tx_small (by omega), (by rw [tx_len]; exact i1), ?_⟩⟩
    -- draw, coins
    refine ⟨_, rfl, _, rfl, a, b, rfl, hAu, fun d n2 d0 d1 => ?_⟩
    refine ⟨_, rfl, _, rfl, _, rfl, _, rfl, a, b, sc, ba, rfl, hAu.upd n2, b0, b1, fun v n3 v0 v1 => ?_⟩
    rw [upd_upd]
    have sb3 : Sb b H (upd Hu' b (.lst [.int (n3 : Int)])) := sb.upd
    have hp3 : (upd Hu' b (.lst [.int (n3 : Int)])) pp = some (.dK (PD Pl fun q => .int (e q))) := by
      rw [upd_ne ppb]
      exact hpu
    have hd3 : (upd Hu' b (.lst [.int (n3 : Int)])) dd = some (.dK (DD D)) := sb3 _ _ ddb hdd
    have hb3 : (upd Hu' b (.lst [.int (n3 : Int)])) b = some (.lst [.int (n3 : Int)]) := upd_same
    generalize upd Hu' b (.lst [.int (n3 : Int)]) = H3 at *
    have m5 : 0 ≤ d / 5 := Int.ediv_nonneg d0 (by decide)
    -- if .. < 2: coins = 0
    refine ⟨fun σ Hv => ∃ v : Int, σ = [some (.ref a), some (.ref b), some (.str (tx l)), some (.int sc), some (.int ba), some (.ref dd), some (.ref pp), some (.int (tu : Int)), some (.int (k : Int)), some (.str (sg c)), some (.int d), some (.int v), y12, y13, none] ∧ 0 ≤ v ∧ v ≤ (10 : Int) ^ 60 ∧ H3 = Hv, ?_, ?_⟩
    · refine ⟨_, rfl, .inl ⟨d, rfl, _, _, rfl, rfl, (by show (0 : Int) < 5; decide), _, _, rfl, rfl, _, rfl, ?_⟩⟩
      by_cases h : d % 5 < 2
      · exact iteY h ⟨0, rfl, Int.le_refl 0, p60, rfl⟩
      · exact iteN h ⟨v, rfl, v0, v1, rfl⟩
    clear v0 v1 v
    rintro σ Hv ⟨v, rfl, v0, v1, rfl⟩
    -- if .. == 2: coins = ..
    refine ⟨fun σ Hv => ∃ v : Int, σ = [some (.ref a), some (.ref b), some (.str (tx l)), some (.int sc), some (.int ba), some (.ref dd), some (.ref pp), some (.int (tu : Int)), some (.int (k : Int)), some (.str (sg c)), some (.int d), some (.int v), y12, y13, none] ∧ 0 ≤ v ∧ v ≤ (10 : Int) ^ 60 ∧ H3 = Hv, ?_, ?_⟩
    · refine ⟨_, rfl, .inl ⟨d, rfl, _, _, rfl, rfl, (by show (0 : Int) < 5; decide), rfl, _, rfl, ?_⟩⟩
      by_cases h : d % 5 = 2
      · refine iteY (congrArg V.int h) ⟨_, rfl, _, _, rfl, rfl, ⟨by decide, by decide⟩, .inl ⟨_, rfl, _, _, rfl, rfl, (by show (0 : Int) < 4; decide), _, rfl, Int.emod_nonneg _ (by decide), ?_, rfl⟩⟩
        have z : (d / 5) % 4 < 4 := Int.emod_lt_of_pos _ (by decide)
        have y : (4 : Int) ≤ 10 ^ 60 := by decide
        show (d / 5) % 4 ≤ 10 ^ 60
        omega
      · exact iteN (fun z => h (V.int.inj z)) ⟨v, rfl, v0, v1, rfl⟩
    clear v0 v1 v
    rintro σ Hv ⟨v, rfl, v0, v1, rfl⟩
    -- if .. == 39
    refine ⟨fun σ Hv => ∃ v : Int, σ = [some (.ref a), some (.ref b), some (.str (tx l)), some (.int sc), some (.int ba), some (.ref dd), some (.ref pp), some (.int (tu : Int)), some (.int (k : Int)), some (.str (sg c)), some (.int d), some (.int v), y12, y13, none] ∧ 0 ≤ v ∧ v ≤ (10 : Int) ^ 200 ∧ ((d / 5) % 40 ≠ 39 → v ≤ (10 : Int) ^ 60) ∧ H3 = Hv, ?_, ?_⟩
    · refine ⟨_, rfl, _, _, rfl, rfl, ⟨by decide, by decide⟩, .inl ⟨_, rfl, _, _, rfl, rfl, (by show (0 : Int) < 40; decide), rfl, _, rfl, ?_⟩⟩
      by_cases h : (d / 5) % 40 = 39
      · have pw : CPow 10 50 := ⟨by decide, by decide, by decide⟩
        refine iteY (congrArg V.int h) ⟨_, _, rfl, rfl, pw, _, _, rfl, rfl, pw, _, _, rfl, rfl, ten_wide (by decide) (by decide), _, _, rfl, rfl, pw, _, _, rfl, rfl, ten_wide (by decide) (by decide), _, _, rfl, rfl, pw, _, _, rfl, rfl, ten_wide (by decide) (by decide), _, rfl, _, _, rfl, rfl, _, rfl, ?_, ?_, fun z => absurd h z, rfl⟩
        · show (0 : Int) ≤ 10 ^ 50 * 10 ^ 50 * 10 ^ 50 * 10 ^ 50 - v
          have y : (10 : Int) ^ 60 ≤ 10 ^ 50 * 10 ^ 50 * 10 ^ 50 * 10 ^ 50 := by decide
          omega
        · show (10 : Int) ^ 50 * 10 ^ 50 * 10 ^ 50 * 10 ^ 50 - v ≤ 10 ^ 200
          have y : (10 : Int) ^ 50 * 10 ^ 50 * 10 ^ 50 * 10 ^ 50 ≤ 10 ^ 200 := by decide
          omega
      · exact iteN (fun z => h (V.int.inj z)) ⟨v, rfl, v0, by omega, fun _ => v1, rfl⟩
    clear v0 v1 v
    rintro σ Hv ⟨v, rfl, v0, v1, v2, rfl⟩
    -- if .. == 38
    refine ⟨fun σ Hv => ∃ (v : Int) (y12 : Option V), σ = [some (.ref a), some (.ref b), some (.str (tx l)), some (.int sc), some (.int ba), some (.ref dd), some (.ref pp), some (.int (tu : Int)), some (.int (k : Int)), some (.str (sg c)), some (.int d), some (.int v), y12, y13, none] ∧ 0 ≤ v ∧ v ≤ (10 : Int) ^ 200 ∧ H3 = Hv, ?_, ?_⟩
    · refine ⟨_, rfl, _, _, rfl, rfl, ⟨by decide, by decide⟩, .inl ⟨_, rfl, _, _, rfl, rfl, (by show (0 : Int) < 40; decide), rfl, _, rfl, ?_⟩⟩
      by_cases h : (d / 5) % 40 = 38
      · have v3 := v2 (by rw [h]; decide)
        have pw : CPow 10 60 := ⟨by decide, by decide, by decide⟩
        refine iteY (congrArg V.int h) ⟨_, _, rfl, rfl, pw, _, rfl, _, _, rfl, rfl, ?_⟩
        refine ⟨_, rfl, _, _, rfl, rfl, ⟨by decide, by decide⟩, .inl ⟨_, rfl, _, _, rfl, rfl, (by show (0 : Int) < 141; decide), ?_⟩⟩
        have t0 : 0 ≤ (d / 200) % 141 := Int.emod_nonneg _ (by decide)
        have t1 : (d / 200) % 141 < 141 := Int.emod_lt_of_pos _ (by decide)
        obtain ⟨m, em, hm⟩ := natOf t0 t1
        refine ⟨_, rfl, by show -(2 ^ 62) ≤ (d / 200) % 141; omega, by show (d / 200) % 141 < 2 ^ 62; omega, ?_⟩
        rw [show ((d / 200) % 141).toNat = m by rw [em]; simp]
        refine for_it (walk_range (lo := 0) (n := m)) (fun j σ Hv => ∃ (v : Int) (y12 : Option V), σ = [some (.ref a), some (.ref b), some (.str (tx l)), some (.int sc), some (.int ba), some (.ref dd), some (.ref pp), some (.int (tu : Int)), some (.int (k : Int)), some (.str (sg c)), some (.int d), some (.int v), y12, y13, none] ∧ 0 ≤ v ∧ v ≤ (10 : Int) ^ (60 + j) ∧ H3 = Hv) ⟨(10 : Int) ^ 60 - v, y12, rfl, by omega, by show (10 : Int) ^ 60 - v ≤ 10 ^ 60; omega, rfl⟩ (fun _ _ _ _ _ => trivial) ?_ ?_
        · rintro j x σ Hv Hv' hj ⟨v, y, rfl, w0, w1, rfl⟩ ⟨rfl, hx⟩
          refine ⟨_, rfl, _, _, rfl, rfl, .inr ⟨by decide, by decide⟩, v * 10, _, rfl, by omega, ?_, rfl⟩
          rw [← Nat.add_assoc, Int.pow_succ]
          omega
        · rintro σ Hv ⟨v, y, rfl, w0, w1, rfl⟩
          refine ⟨v, y, rfl, w0, ?_, rfl⟩
          have z : (10 : Int) ^ (60 + m) ≤ (10 : Int) ^ 200 := by
            have := Nat.pow_le_pow_right (n := 10) (by decide) (show 60 + m ≤ 200 by omega)
            exact_mod_cast this
          omega
      · exact iteN (fun z => h (V.int.inj z)) ⟨v, y12, rfl, v0, v1, rfl⟩
    clear v0 v1 v2 v
    rintro σ Hv ⟨v, y12', rfl, v0, v1, rfl⟩
    -- named = [..]
    refine ⟨dd, _, hd3, trivial, fun ob => ⟨_, rfl, dd, ob, rfl, .inl ⟨_, upd_same, fun L hL => ?_⟩⟩⟩
    have Ln : L ≠ dd := fun e => by
      rw [e, upd_same] at hL
      cases hL
    have wk := walk_keys (d := dd) (o := ob) (kvs := DD D)
    rw [DD_len] at wk
    refine lc_l D (fun x => decide (c = x.1.1 ∨ c = x.1.2) && decide (0 < x.2)) (fun x => .str (pr x.1.1 x.1.2)) wk hDl hL (fun H' e => e _ _ upd_same) ?_ ?_
    · rintro i x v H4 H5 hx e4 ⟨rfl, kk, v1, hk, rfl⟩ A B hA2 hB2
      obtain ⟨x', hx', rfl, rfl⟩ := DD_get hk
      obtain rfl : x' = x := by
        rw [hx] at hx'
        exact (Option.some.inj hx').symm
      have hm := List.mem_of_getElem? hx
      have hv := DD_val hD.nd (k := x'.1) (List.mem_map.mpr ⟨x', hm, rfl⟩)
      rw [K72M.val_of hD.nd hm] at hv
      have g : DGet H5 dd (V.str (pr x'.1.1 x'.1.2)) (some (.int x'.2)) := .inl ⟨DD D, Sum.inr (pr x'.1.1 x'.1.2), .inr ⟨ob, e4 _ _ upd_same⟩, rfl, hv.symm⟩
      refine ⟨rfl, _, rfl, _, rfl, c, _, rfl, rfl, _, rfl, ?_⟩
      rw [tx_cps]
      by_cases hcx : c = x'.1.1 ∨ c = x'.1.2
      · rw [show decide (c ∈ [x'.1.1, x'.1.2]) = true from decide_eq_true (by simpa using hcx)]
        refine iteT ⟨_, rfl, _, rfl, dd, _, rfl, g, _, _, rfl, rfl, _, rfl, ?_⟩
        by_cases hp : 0 < x'.2
        · exact iteY hp ⟨_, rfl, hA2 (by simp [hcx, hp]) _ (Same.refl _)⟩
        · exact iteN hp (hB2 (by simp [hp]) _ (Same.refl _))
      · rw [show decide (c ∈ [x'.1.1, x'.1.2]) = false from decide_eq_false (by simpa using hcx)]
        exact iteF (iteF (hB2 (by simp [hcx]) _ (Same.refl _)))
    · intro H4 e4 hL4
      refine ⟨e4 _ _ upd_same, ?_⟩
      have s4 : Same H3 (upd H4 dd (.dK (DD D))) := unlock hd3 e4
      have hL5 : upd H4 dd (.dK (DD D)) L = some (.lst ((D.filter fun x => decide (c = x.1.1 ∨ c = x.1.2) && decide (0 < x.2)).map fun x => .str (pr x.1.1 x.1.2))) := by
        rw [upd_ne Ln]
        exact hL4
      generalize upd H4 dd (.dK (DD D)) = H5 at *
      have sb5 := sb3.same s4
      have hp5 := s4 _ _ hp3
      have hb5 := s4 _ _ hb3
      -- the end of a turn, with and without a purse
      have put : ∀ {D' : Ends}, (D'.nx = fun σ Hu => ∃ (Pl : List Nat) (e : Nat → Int) (y8 y9 y10 y11 y12 y13 : Option V), σ = [some (.ref a), some (.ref b), some (.str (tx l)), some (.int sc), some (.int ba), some (.ref dd), some (.ref pp), some (.int (tu : Int)), y8, y9, y10, y11, y12, y13, none] ∧
          Pl.Nodup ∧ (∀ p ∈ Pl, p ∈ l) ∧ Pl.length ≤ k + 1 ∧ (∀ p, 0 ≤ e p ∧ e p ≤ (10 : Int) ^ 200) ∧ (∀ i p, i < k + 1 → l[(i + tu) % l.length]? = some p → (∃ x ∈ D, 0 < x.2 ∧ (p = x.1.1 ∨ p = x.1.2)) → p ∈ Pl) ∧ Sb b H Hu ∧ (∃ n : Nat, Hu b = some (.lst [.int (n : Int)])) ∧ Hu pp = some (.dK (PD Pl fun q => .int (e q)))) →
          sDPut (tVar 6) (tVar 9) (tVar 11) D' [some (.ref a), some (.ref b), some (.str (tx l)), some (.int sc), some (.int ba), some (.ref dd), some (.ref pp), some (.int (tu : Int)), some (.int (k : Int)), some (.str (sg c)), some (.int d), some (.int v), y12', some (.ref L), none] H5 := by
        intro D' hD'
        refine ⟨_, rfl, _, rfl, _, rfl, pp, _, rfl, DPut.k (k := Sum.inr (sg c)) hp5 (by rw [PD_len]; exact small1000 (by omega)), ?_⟩
        rw [hD']
        obtain ⟨P', e1, e2, e3⟩ := PD_put_any (P := Pl) (e := e) (p := c) (v := v)
        rw [e1]
        have cl := List.mem_of_getElem? hc
        have hP'l : ∀ p ∈ P', p ∈ l := fun p hp => ((e2 p).mp hp).elim (hPl p) fun z => by rw [z]; exact cl
        refine ⟨P', fun q => if q = c then v else e q, _, _, _, _, _, _, rfl, e3 hPn, hP'l, ?_, fun p => ?_, fun i p hi hp hx => ?_, sb5.mut hpp, ⟨n3, by rw [upd_ne ppb.symm]; exact hb5⟩, upd_same⟩
        · have h1 : P'.length ≤ (c :: Pl).length := List.Nodup.length_le_of_subset (e3 hPn) fun p hp => by
            rcases (e2 p).mp hp with z | z
            · exact List.mem_cons_of_mem _ z
            · rw [z]
              exact List.mem_cons_self
          have h2 : (c :: Pl).length = Pl.length + 1 := rfl
          omega
        · show 0 ≤ (if p = c then v else e p) ∧ (if p = c then v else e p) ≤ (10 : Int) ^ 200
          by_cases z : p = c
          · rw [if_pos z]
            exact ⟨v0, v1⟩
          · rw [if_neg z]
            exact he p
        · by_cases z : i < k
          · exact (e2 p).mpr (.inl (hcov i p z hp hx))
          · obtain rfl : i = k := by omega
            rw [hc] at hp
            exact (e2 p).mpr (.inr (Option.some.inj hp).symm)
      refine ⟨_, rfl, L, _, rfl, .inl (SqL.of hL5), _, _, rfl, rfl, _, rfl, ?_⟩
      by_cases hlen : 0 < (((D.filter fun x => decide (c = x.1.1 ∨ c = x.1.2) && decide (0 < x.2)).map fun x => V.str (pr x.1.1 x.1.2)).length : Int)
      · exact iteY hlen (iteT (put rfl))
      · refine iteN hlen ?_
        refine ⟨_, rfl, _, _, rfl, rfl, ⟨by decide, by decide⟩, .inl ⟨_, rfl, _, _, rfl, rfl, (by show (0 : Int) < 3; decide), _, _, rfl, rfl, _, rfl, ?_⟩⟩
        by_cases h3 : 0 < (d / 5) % 3
        · exact iteY h3 (put rfl)
        · refine iteN h3 ⟨Pl, e, _, _, _, _, _, _, rfl, hPn, hPl, by omega, he, fun i p hi hp hx => ?_, sb5, ⟨n3, hb5⟩, hp5⟩
          by_cases z : i < k
          · exact hcov i p z hp hx
          · obtain rfl : i = k := by omega
            rw [hc] at hp
            obtain rfl := Option.some.inj hp
            obtain ⟨x, hxD, hx0, hxc⟩ := hx
            refine absurd ?_ hlen
            have hm : x ∈ D.filter fun x => decide (c = x.1.1 ∨ c = x.1.2) && decide (0 < x.2) := List.mem_filter.mpr ⟨hxD, by simp [hxc, hx0]⟩
            have := List.length_pos_of_mem hm
            rw [List.length_map]
            omega
  · rintro σ Hu ⟨Pl, e, y8, y9, y10, y11, y12, y13, rfl, hPn, hPl, hPk, he, hcov, sb, hb1, hpu⟩
    refine ⟨_, rfl, q Hu pp Pl e sb hpp hpu ⟨hD, hPn, hPl, fun p => (he p).1, fun p => (he p).2, fun x hx hx0 => ?_⟩⟩
    have one : ∀ p, p ∈ l → (p = x.1.1 ∨ p = x.1.2) → p ∈ Pl := fun p hp ho => by
      obtain ⟨j, hj, ej⟩ := List.getElem_of_mem hp
      obtain ⟨i, hi, ei⟩ := rot hj htu'
      exact hcov i p hi (by rw [ei, List.getElem?_eq_getElem hj, ej]) ⟨x, hx, hx0, ho⟩
    exact ⟨one _ (hD.in1 x hx) (.inl rfl), one _ (hD.in2 x hx) (.inr rfl)⟩
end
end K72
end
section
set_option Elab.async false
set_option linter.all false
set_option maxRecDepth 100000
set_option maxHeartbeats 4000000
set_option exponentiation.threshold 3000
namespace K72
open PySem PySem.Spec PyProof.Rows L2
/-- [e for pair in debts if t] -/
theorem lc_keysD {td : TE} {g : TG} {tt : TT} {te : TE} {vs : List Nat} {σ : L2.St} {H : Hp} {Q : VK} {d : Addr} (D : List K72M.Debt) (p : K72M.Debt → Bool) (q : K72M.Debt → V) (ht : ∀ H Q, Q (.ref d) H → td σ H Q) (hd : H d = some (.dK (DD D))) (hz : D.length ≤ 1000)
    (hs : ∀ (x : K72M.Debt) (H2 : Hp) (ob : Obj), x ∈ D → H2 d = some (.frz ob (.dK (DD D))) → ∀ (A : V → Hp → Prop) (B : Hp → Prop), (p x = true → A (q x) H2) → (p x = false → B H2) →
      g (.str (pr x.1.1 x.1.2)) (wipe σ vs) H2 fun σ2 H3 => wipe σ2 vs = wipe σ vs ∧ tt σ2 H3 fun b H3 => if b = true then te σ2 H3 A else B H3)
    (hq : ∀ H' l, Same H H' → H l = none → H' l = some (.lst ((D.filter p).map q)) → Q (.ref l) H') : tLockE (tLc (iKeys td) g tt te vs) σ H Q := by
  refine ⟨d, _, hd, trivial, fun ob => ?_⟩
  refine ht _ _ ⟨d, ob, rfl, .inl ⟨DD D, upd_same, fun l hl => ?_⟩⟩
  have ln : l ≠ d := fun e => by
    rw [e, upd_same] at hl
    cases hl
  have w := walk_keys (d := d) (o := ob) (kvs := DD D)
  rw [DD_len] at w
  refine lc_l D p q w hz hl (fun H' e => e _ _ upd_same) ?_ ?_
  · rintro i x v H1 H2 hx e1 ⟨rfl, kk, v1, hk, rfl⟩ A B hA hB
    obtain ⟨x', hx', rfl, rfl⟩ := DD_get hk
    obtain rfl : x' = x := by
      rw [hx] at hx'
      exact (Option.some.inj hx').symm
    exact hs x' H2 ob (List.mem_of_getElem? hx) (e1 _ _ upd_same) A B (fun h => hA h _ (Same.refl _)) fun h => hB h _ (Same.refl _)
  · intro H1 e1 hl1
    refine ⟨e1 _ _ upd_same, hq _ l (unlock hd e1) ?_ ?_⟩
    · rw [upd_ne ln] at hl
      exact hl
    · rw [upd_ne ln]
      exact hl1
theorem get_frz {D : List K72M.Debt} (nd : (D.map (·.1)).Nodup) {H : Hp} {d : Addr} {ob : Obj} (h : H d = some (.frz ob (.dK (DD D)))) {x : K72M.Debt} (hx : x ∈ D) : DGet H d (V.str (pr x.1.1 x.1.2)) (some (.int x.2)) := by
  have hv := DD_val nd (k := x.1) (List.mem_map.mpr ⟨x, hx, rfl⟩)
  rw [K72M.val_of nd hx] at hv
  exact .inl ⟨DD D, Sum.inr (pr x.1.1 x.1.2), .inr ⟨ob, h⟩, rfl, hv.symm⟩
/-- Euclid's turns halve the product -/
theorem euclid_half {T L : Nat} (h : L < T) (hL : 0 < L) : L * (T % L) * 2 ≤ T * L := by
  have h1 : T % L < L := Nat.mod_lt _ hL
  have h2 := Nat.div_add_mod T L
  have h3 : 1 ≤ T / L := (Nat.le_div_iff_mul_le hL).mpr (by omega)
  have h4 : L * 1 ≤ L * (T / L) := Nat.mul_le_mul_left L h3
  have h5 : (T % L) * 2 ≤ T := by omega
  have h6 := Nat.mul_le_mul_left L h5
  rw [Nat.mul_comm T L, Nat.mul_assoc]
  exact h6
section
variable {P : Program} {w : World} {K : PySem.W.Frag} {mg : Str → Option Value} {base : Heap}
/-! _law_is_integer: 0 _law_value -/
abbrev n40 : List Str := ["_law_value"]
theorem sc40 : FnScope n40 ["_law_value"] (defScope s40) := ⟨rfl, rfl, rfl, by decide +kernel, rfl, by decide +kernel, by decide +kernel⟩
def spIsInt : Sp := fun vs H Q _ => ∃ i : Int, vs = [.int i] ∧ Q (.bl true) H
theorem ok_law_is_integer (F : Here K mg "_law_is_integer" s40) (T : Txt K mg) : Fn P w K mg base 1 "_law_is_integer" ["_law_value"] spIsInt := by
  refine F.fn sc40 (fun _ _ _ _ _ _ us hl => match us, hl with | [_], _ => rfl) (fun vs H Q E h => by obtain ⟨_, rfl, _⟩ := h; rfl) fun f cdv A outer s H vs Q E hr h => ?_
  have hu := hu_of hr
  obtain ⟨i, rfl, q⟩ := h
  refine ⟨_, (
    (pss_one (ps_ret (pe_and (pe_callB call_isi (by rfl) T.isinstance (by decide +kernel) (pa_cons (pv 0) (pa_cons (pe_bltn (v := .ty "int") rfl T.int (by decide +kernel) rfl) pa_nil))) (pe_one (pe_not (pe_callB call_isi (by rfl) T.isinstance (by decide +kernel) (pa_cons (pv 0) (pa_cons (pe_bltn (v := .ty "bool") rfl T.bool (by decide +kernel) rfl) pa_nil))))))))), ?_⟩
  refine ⟨_, rfl, _, _, _, _, true, rfl, .ty "int", .base (.int i), kit_ty (by decide +kernel), _, rfl, iteT ?_⟩
  exact ⟨_, rfl, _, _, _, _, false, rfl, .ty "bool", .base (.int i), kit_ty (by decide +kernel), _, rfl, q⟩
/-! _law_owes: 0 _law_debts_here, 1 _law_party, 2 _law_pair -/
abbrev n41 : List Str := ["_law_debts_here", "_law_party", "_law_pair"]
theorem sc41 : FnScope n41 ["_law_debts_here", "_law_party"] (defScope s41) := ⟨rfl, rfl, rfl, by decide +kernel, rfl, by decide +kernel, by decide +kernel⟩
def spOwes : Sp := fun vs H Q _ => ∃ (d : Addr) (D : List K72M.Debt) (p : Nat), vs = [.ref d, .str (sg p)] ∧ H d = some (.dK (DD D)) ∧ (D.map (·.1)).Nodup ∧ D.length ≤ 1000 ∧ ∀ H', Same H H' → Q (.int (K72M.owe D p)) H'
theorem ok_law_owes (F : Here K mg "_law_owes" s41) (T : Txt K mg) : Fn P w K mg base 1 "_law_owes" ["_law_debts_here", "_law_party"] spOwes := by
  refine F.fn sc41 (fun _ _ _ _ _ _ us hl => match us, hl with | [_, _], _ => rfl) (fun vs H Q E h => by obtain ⟨_, _, _, rfl, _⟩ := h; rfl) fun f cdv A outer s H vs Q E hr h => ?_
  have hu := hu_of hr
  obtain ⟨d, D, p, rfl, hd, nd, hz, q⟩ := h
  refine ⟨_, (
    (pss_one (ps_ret (pe_callB (cr_sum rfl) (by rfl) T.sum (by decide +kernel) (pa_cons (pe_lock (pe_lc (own := [("_law_pair", 2)]) rfl sc41.nd (pi_keys (pv 0)) (blkOk_by (N := n41) (sc := defScope s41) (by decide +kernel)) (fun _ _ _ _ _ => (pg_name (i := 2) sc41.nd rfl (Or.inl rfl) (Or.inr rfl))) (fun _ _ _ _ _ => (pts_one (pt_cmpR op_eq (pe_ix ix_str (pv 2) pe_int (fun _ _ => rfl)) (pv 1) (nomark _)))) (fun _ _ _ _ _ => (pe_dget hu (pv 0) (pv 2) (fun _ _ => rfl))))) pa_nil))))), ?_⟩
  refine lc_keysD D (fun x => decide (x.1.1 = p)) (fun x => .int x.2) (fun H Q h => ⟨_, rfl, h⟩) hd hz ?_ ?_
  · rintro ⟨⟨x1, x2⟩, xc⟩ H2 ob hx h2 A B hA hB
    refine ⟨rfl, _, rfl, _, 0, x1, rfl, rfl, pr_small _ _, ix0 _ _, _, rfl, rfl, _, rfl, ?_⟩
    by_cases h : x1 = p
    · exact iteY (sgV.mpr h) ⟨_, rfl, _, rfl, d, _, rfl, get_frz nd h2 hx, hA (decide_eq_true h)⟩
    · exact iteN (fun z => h (sgV.mp z)) (hB (decide_eq_false h))
  · intro H1 l e1 hl hl1
    refine ⟨l, _, rfl, SqL.of (by rw [hl1, ints_map]), ?_⟩
    rw [sum_owe]
    exact q H1 e1
/-! _law_lowest: 0 _law_part, 1 _law_top, 2 _law_low, 3 _law_k, 4 _law_rest -/
abbrev n42 : List Str := ["_law_part", "_law_top", "_law_low", "_law_k", "_law_rest"]
theorem sc42 : FnScope n42 ["_law_part"] (defScope s42) := ⟨rfl, rfl, rfl, by decide +kernel, rfl, by decide +kernel, by decide +kernel⟩
def spLow (K : PySem.W.Frag) : Sp := fun vs H Q _ => ∃ (t : Addr) (a b : Nat), vs = [.ref t] ∧ SqT K H t [.int (a : Int), .int (b : Int)] ∧ 0 < b ∧ b < 2 ^ 1499 ∧ Nat.gcd a b = 1 ∧ Q (.bl true) H
theorem ok_law_lowest (F : Here K mg "_law_lowest" s42) (T : Txt K mg) : Fn P w K mg base 1 "_law_lowest" ["_law_part"] (spLow K) := by
  refine F.fn sc42 (fun _ _ _ _ _ _ us hl => match us, hl with | [_], _ => rfl) (fun vs H Q E h => by obtain ⟨_, _, _, rfl, _⟩ := h; rfl) fun f cdv A outer s H vs Q E hr h => ?_
  have hu := hu_of hr
  obtain ⟨t, a, b, rfl, hT, b0, b1, hg, q⟩ := h
  refine ⟨_, (
    (pss_cons (ps_set (i := 1) sc42.nd rfl (Or.inl rfl) (pe_ix ix_tup (pv 0) pe_int (fun _ _ => rfl)))
    (pss_cons (ps_set (i := 2) sc42.nd rfl (Or.inl rfl) (pe_ix ix_tup (pv 0) pe_int (fun _ _ => rfl)))
    (pss_cons (ps_for PassesOwn.never rfl (pi_range1 rfl T.range (pa_cons pe_int pa_nil)) (pg_name (i := 3) sc42.nd rfl (Or.inl rfl)) 
      (pss_cons (ps_if (pt_cmpR op_eq (pv 2) pe_int (nomark _)) 
        (pss_one ps_break) pss_nil)
      (pss_cons (ps_set (i := 4) sc42.nd rfl (Or.inl rfl) (pe_op op_mod (pe_callTy call_int1 (by rfl) T.int (by decide +kernel) (pa_cons (pv 1) pa_nil)) (pe_callTy call_int1 (by rfl) T.int (by decide +kernel) (pa_cons (pv 2) pa_nil))))
      (pss_cons (ps_set (i := 1) sc42.nd rfl (Or.inl rfl) (pv 2))
      (pss_one (ps_set (i := 2) sc42.nd rfl (Or.inl rfl) (pv 4)))))))
    (pss_one (ps_ret (pe_and (pe_cmpR op_eq (pv 2) pe_int (nomark _)) (pe_one (pe_cmpR op_eq (pv 1) pe_int (nomark _)))))))))), ?_⟩
  refine ⟨_, rfl, t, _, 0, .int (a : Int), rfl, rfl, hT, rfl, ?_⟩
  refine ⟨_, rfl, t, _, 1, .int (b : Int), rfl, rfl, hT, rfl, ?_⟩
  refine ⟨3000, rfl, by decide, by decide, ?_⟩
  have fin : ∀ {D : Ends} {σ : L2.St} {Tn : Nat} {y3 y4 : Option V}, D.rt = Q → σ = [some (.ref t), some (.int (Tn : Int)), some (.int ((0 : Nat) : Int)), y3, y4] → Nat.gcd Tn 0 = 1 →
      tRet (tAndV (tOp rEq (tVar 2) (tC (.int 0))) (tOp rEq (tVar 1) (tC (.int 1)))) D σ H := by
    rintro D σ Tn y3 y4 hD rfl h1
    rw [Nat.gcd_zero_right] at h1
    subst h1
    refine ⟨_, rfl, rfl, _, rfl, iteY rfl ⟨_, rfl, rfl, ?_⟩⟩
    rw [hD]
    exact qb (decide_eq_true rfl) q
  refine for_it (walk_range (lo := 0) (n := 3000)) (fun k σ Hu => ∃ (Tn L : Nat) (y3 y4 : Option V), σ = [some (.ref t), some (.int (Tn : Int)), some (.int (L : Int)), y3, y4] ∧ Nat.gcd Tn L = 1 ∧ ((k = 0 ∧ L = b) ∨ (1 ≤ k ∧ L < Tn ∧ Tn * L < 2 ^ (2999 - k))) ∧ Hu = H)
    ⟨a, b, none, none, rfl, hg, .inl ⟨rfl, rfl⟩, rfl⟩ (fun _ _ _ _ _ => trivial) ?_ ?_
  · rintro k x σ Hu Hu' hk ⟨Tn, L, y3, y4, rfl, h1, h2, rfl⟩ ⟨rfl, hx⟩
    refine ⟨_, rfl, rfl, _, rfl, ?_⟩
    by_cases hL : L = 0
    · subst hL
      refine iteY rfl ?_
      exact fin rfl rfl h1
    · refine iteN (fun z => hL (by have := V.int.inj z; omega)) ?_
      refine ⟨_, rfl, .inl ⟨_, rfl, _, rfl, .inl ⟨_, rfl, _, _, rfl, rfl, by show (0 : Int) < (L : Int); omega, ?_⟩⟩⟩
      have hL0 : 0 < L := by omega
      refine ⟨_, rfl, _, rfl, L, Tn % L, some x, some (.int ((Tn : Int) % (L : Int))), ?_, ?_, .inr ⟨by omega, Nat.mod_lt _ hL0, ?_⟩, rfl⟩
      · show [some (V.ref t), some (V.int (L : Int)), some (V.int ((Tn : Int) % (L : Int))), some x, some (.int ((Tn : Int) % (L : Int)))] = _
        rw [← Int.natCast_emod]
      · rw [← h1, Nat.gcd_comm L, ← Nat.gcd_rec, Nat.gcd_comm]
      · rcases h2 with ⟨rfl, rfl⟩ | ⟨k1, k2, k3⟩
        · have m : Tn % L < L := Nat.mod_lt _ hL0
          have m2 : L * (Tn % L) < L * L := Nat.mul_lt_mul_of_pos_left m hL0
          have m3 : L * L < 2 ^ 1499 * 2 ^ 1499 := Nat.mul_lt_mul_of_lt_of_lt b1 b1
          rw [← Nat.pow_add] at m3
          exact Nat.lt_trans m2 m3
        · have m := euclid_half k2 hL0
          by_cases k4 : k ≤ 2998
          · rw [show 2999 - k = (2999 - (k + 1)) + 1 by omega, Nat.pow_succ] at k3
            omega
          · exfalso
            rw [show 2999 - k = 0 by omega] at k3
            have : 1 * 1 ≤ Tn * L := Nat.mul_le_mul (by omega) hL0
            omega
  · rintro σ Hu ⟨Tn, L, y3, y4, rfl, h1, h2, rfl⟩
    have hL : L = 0 := by
      rcases h2 with ⟨z, _⟩ | ⟨_, k2, k3⟩
      · omega
      · apply Decidable.byContradiction
        intro hL
        have : 1 * 1 ≤ Tn * L := Nat.mul_le_mul (by omega) (by omega)
        have e : 2 ^ (2999 - 3000) = 1 := rfl
        omega
    subst hL
    exact fin rfl rfl h1
/-! _law_pays_all: 0 _law_owes_here, 1 _law_paid, 2 _law_party -/
abbrev n45 : List Str := ["_law_owes_here", "_law_paid", "_law_party"]
theorem sc45 : FnScope n45 ["_law_owes_here", "_law_paid", "_law_party"] (defScope s45) := ⟨rfl, rfl, rfl, by decide +kernel, rfl, by decide +kernel, by decide +kernel⟩
def spPays : Sp := fun vs H Q _ => ∃ (od qd : Addr) (P : List Nat) (o num den : Nat → Int) (t : Nat → Addr) (p : Nat), vs = [.ref od, .ref qd, .str (sg p)] ∧ H od = some (.dK (PD P fun x => .int (o x))) ∧ H qd = some (.dK (PD P fun x => .ref (t x))) ∧ p ∈ P ∧ H (t p) = some (.tup [.int (num p), .int (den p)]) ∧
  (o p).natAbs < 2 ^ 2000 ∧ (den p).natAbs < 2 ^ 2000 ∧ Q (.bl (decide (num p = o p * den p))) H
theorem ok_law_pays_all (F : Here K mg "_law_pays_all" s45) (T : Txt K mg) : Fn P w K mg base 1 "_law_pays_all" ["_law_owes_here", "_law_paid", "_law_party"] spPays := by
  refine F.fn sc45 (fun _ _ _ _ _ _ us hl => match us, hl with | [_, _, _], _ => rfl) (fun vs H Q E h => by obtain ⟨_, _, _, _, _, _, _, _, rfl, _⟩ := h; rfl) fun f cdv A outer s H vs Q E hr h => ?_
  have hu := hu_of hr
  obtain ⟨od, qd, P, o, num, den, t, p, rfl, ho, hq, hp, ht, b1, b2, q⟩ := h
  have g1 := DGet.k (k := Sum.inr (sg p)) ho
  have g2 := DGet.k (k := Sum.inr (sg p)) hq
  rw [PD_in hp] at g1 g2
  refine ⟨_, (
    (pss_one (ps_ret (pe_cmpR op_eq (pe_ix ix_tup (pe_dget hu (pv 1) (pv 2) (fun _ _ => rfl)) pe_int (fun _ _ => rfl)) (pe_op op_mulW (pe_dget hu (pv 0) (pv 2) (fun _ _ => rfl)) (pe_ix ix_tup (pe_dget hu (pv 1) (pv 2) (fun _ _ => rfl)) pe_int (fun _ _ => rfl))) (nomark _))))), ?_⟩
  refine ⟨_, rfl, _, rfl, qd, _, rfl, g2, t p, _, 0, .int (num p), rfl, rfl, SqT.of ht, rfl, ?_⟩
  refine ⟨_, rfl, _, rfl, od, _, rfl, g1, _, rfl, _, rfl, qd, _, rfl, g2, t p, _, 1, .int (den p), rfl, rfl, SqT.of ht, rfl, _, _, rfl, rfl, wide_mul b1 b2 (by decide) (by decide) (by decide), rfl, ?_⟩
  refine qb ?_ q
  show decide (V.int (num p) = V.int (o p * den p)) = decide (num p = o p * den p)
  by_cases h : num p = o p * den p
  · rw [decide_eq_true h, h]
    exact decide_eq_true rfl
  · rw [decide_eq_false h]
    exact decide_eq_false fun z => h (V.int.inj z)
/-! _law_change: 0 _law_cell_here, 1 _law_parties_here, 2 _law_scale, 3 _law_base_here, 4 _law_debts_here, 5 _law_purses_here, 6 _law_draws_here, 7 _law_place, 8 _law_draw, 9 _law_at, 10 _law_to, 11 _law_coins_here -/
abbrev n50 : List Str := ["_law_cell_here", "_law_parties_here", "_law_scale", "_law_base_here", "_law_debts_here", "_law_purses_here", "_law_draws_here", "_law_place", "_law_draw", "_law_at", "_law_to", "_law_coins_here"]
theorem sc50 : FnScope n50 ["_law_cell_here", "_law_parties_here", "_law_scale", "_law_base_here", "_law_debts_here", "_law_purses_here"] (defScope s50) := ⟨rfl, rfl, rfl, by decide +kernel, rfl, by decide +kernel, by decide +kernel⟩
def spChange : Sp := fun vs H Q _ => ∃ (c sc ba : Int) (l : List Nat) (dd pp : Addr) (D : List K72M.Debt) (P : List Nat) (e : Nat → Int), vs = [.int c, .str (tx l), .int sc, .int ba, .ref dd, .ref pp] ∧ l.Nodup ∧ 2 ≤ l.length ∧ l.length ≤ 6 ∧ 0 ≤ ba ∧ ba ≤ (10 : Int) ^ 60 - 3 ∧
  H dd = some (.dK (DD D)) ∧ H pp = some (.dK (PD P fun q => .int (e q))) ∧ dd ≠ pp ∧ Sta l D P e ∧ D.length ≤ 100 ∧
  ∀ H' D' P' e', (∀ x o, x ≠ dd → x ≠ pp → H x = some o → H' x = some o) → H' dd = some (.dK (DD D')) → H' pp = some (.dK (PD P' fun q => .int (e' q))) → Sta l D' P' e' → Q .non H'
theorem Sta.plen {l : List Nat} {D : List K72M.Debt} {P : List Nat} {e : Nat → Int} (h : Sta l D P e) : P.length ≤ l.length := List.Nodup.length_le_of_subset h.nd h.inl
theorem ok_law_change (F : Here K mg "_law_change" s50) (T : Txt K mg) (g__law_draws : Fn P w K mg base 1 "_law_draws" ["_law_cell_here", "_law_many"] spDraws) (g__law_take : Fn P w K mg base 1 "_law_take" ["_law_draws_here", "_law_place"] (spTake K)) (g__law_coins : Fn P w K mg base 3 "_law_coins" ["_law_draws_here", "_law_place", "_law_scale", "_law_base_here"] (spCoins K)) :
    Fn P w K mg base 4 "_law_change" ["_law_cell_here", "_law_parties_here", "_law_scale", "_law_base_here", "_law_debts_here", "_law_purses_here"] spChange := by
  refine F.fn sc50 (fun _ _ _ _ _ _ us hl => match us, hl with | [_, _, _, _, _, _], _ => rfl) (fun vs H Q E h => by obtain ⟨_, _, _, _, _, _, _, _, _, rfl, _⟩ := h; rfl) fun f cdv A outer s H vs Q E hr h => ?_
  have hu := hu_of hr
  obtain ⟨c, sc, ba, l, dd, pp, D, P, e, rfl, nd, l2, l6, b0, b1, hdd, hpp, ne, st, hDl, q⟩ := h
  have p60 : (10 : Int) ^ 60 ≤ 10 ^ 200 := by decide
  refine ⟨_, (
    (pss_cons (ps_set (i := 6) sc50.nd rfl (Or.inl rfl) (pe_fn g__law_draws (hr.mono (by decide)) rfl (pa_cons (pv 0) (pa_cons pe_int pa_nil))))
    (pss_cons (ps_set (i := 7) sc50.nd rfl (Or.inl rfl) (pe_lst (pa_cons pe_int pa_nil)))
    (pss_cons (ps_set (i := 8) sc50.nd rfl (Or.inl rfl) (pe_fn g__law_take (hr.mono (by decide)) rfl (pa_cons (pv 6) (pa_cons (pv 7) pa_nil))))
    (pss_cons (ps_set (i := 9) sc50.nd rfl (Or.inl rfl) (pe_op op_mod (pe_callTy call_int1 (by rfl) T.int (by decide +kernel) (pa_cons (pe_op op_fdiv (pv 8) pe_int) pa_nil)) (pe_callB call_len_str (by rfl) T.len (by decide +kernel) (pa_cons (pv 1) pa_nil))))
    (pss_cons (ps_set (i := 10) sc50.nd rfl (Or.inl rfl) (pe_op op_mod (pe_callTy call_int1 (by rfl) T.int (by decide +kernel) (pa_cons (pe_op op_add (pe_op op_add (pv 9) pe_int) (pe_op op_mod (pe_callTy call_int1 (by rfl) T.int (by decide +kernel) (pa_cons (pe_op op_fdiv (pv 8) pe_int) pa_nil)) (pe_op op_sub (pe_callB call_len_str (by rfl) T.len (by decide +kernel) (pa_cons (pv 1) pa_nil)) pe_int))) pa_nil)) (pe_callB call_len_str (by rfl) T.len (by decide +kernel) (pa_cons (pv 1) pa_nil))))
    (pss_cons (ps_set (i := 11) sc50.nd rfl (Or.inl rfl) (pe_fn g__law_coins (hr.mono (by decide)) rfl (pa_cons (pv 6) (pa_cons (pv 7) (pa_cons (pv 2) (pa_cons (pv 3) pa_nil))))))
    (pss_one (ps_if (pt_cmpR op_eq (pe_op op_mod (pe_callTy call_int1 (by rfl) T.int (by decide +kernel) (pa_cons (pv 8) pa_nil)) pe_int) pe_int (nomark _)) 
      (pss_one (ps_dput hu (pv 5) (pe_ix ix_str (pv 1) (pv 9) (fun _ _ => rfl)) (pv 11) rfl)) 
      (pss_one (ps_if (PW.pt (pw_and (pt_cmp (pc_din hu (pe_ix ix_str (pv 1) (pv 9) (fun _ _ => rfl)) (pv 5))) (pw_and1 (pt_cmp (pc_din hu (pe_ix ix_str (pv 1) (pv 10) (fun _ _ => rfl)) (pv 5)))))) 
        (pss_one (ps_dput hu (pv 4) (pe_op op_add_str (pe_ix ix_str (pv 1) (pv 9) (fun _ _ => rfl)) (pe_ix ix_str (pv 1) (pv 10) (fun _ _ => rfl))) (pv 11) rfl)) pss_nil))))))))))), ?_⟩
  refine ⟨_, rfl, c, 14, rfl, by decide, fun H1 a ds s1 ha ha' hds => ?_⟩
  refine ⟨(by show 1 ≤ sizeLine; decide), fun b hb => ?_⟩
  have sb := same_new (o := .lst [V.int 0]) hb
  have ab : a ≠ b := ne_of_none ha' hb
  have hA : At K (upd H1 b (.lst [V.int 0])) a b := ⟨ab, ⟨ds, SqL.of (sb _ _ ha'), hds⟩, 0, upd_same⟩
  refine ⟨_, rfl, _, rfl, a, b, rfl, hA, fun d n d0 d1 => ?_⟩
  rw [upd_upd]
  refine ⟨_, rfl, _, _, rfl, rfl, ⟨by decide, by decide⟩, .inl ⟨_, rfl, _, rfl, tx l, rfl, tx_small (by omega), _, _, rfl, rfl, (by show (0 : Int) < ((tx l).length : Int); rw [tx_len]; omega), ?_⟩⟩
  obtain ⟨t, et, ht⟩ := natOf (i := (d / 3) % (l.length : Int)) (Int.emod_nonneg _ (by omega)) (Int.emod_lt_of_pos _ (by omega))
  dsimp only
  rw [tx_len, et]
  have htl : t < l.length := by omega
  have r0 : 0 ≤ (d / 18) % ((l.length : Int) - 1) := Int.emod_nonneg _ (by omega)
  have r1 : (d / 18) % ((l.length : Int) - 1) < (l.length : Int) - 1 := Int.emod_lt_of_pos _ (by omega)
  refine ⟨_, rfl, _, _, rfl, rfl, _, rfl, _, _, rfl, rfl, ⟨by decide, by decide⟩, .inl ⟨_, rfl, _, rfl, tx l, rfl, tx_small (by omega), _, _, rfl, rfl, _, _, rfl, rfl, (by show (0 : Int) < ((tx l).length : Int) - 1; rw [tx_len]; omega), _, _, rfl, rfl, .inl ⟨_, rfl, _, rfl, tx l, rfl, tx_small (by omega), _, _, rfl, rfl, (by show (0 : Int) < ((tx l).length : Int); rw [tx_len]; omega), ?_⟩⟩⟩
  dsimp only
  rw [tx_len]
  have tn : ((t : Int) + 1 + (d / 18) % ((l.length : Int) - 1)) % (l.length : Int) ≠ t := by
    rw [Int.add_assoc]
    exact mod_ne (by omega) (by omega) (by omega) (by omega)
  obtain ⟨u, eu, lu⟩ := natOf (i := ((t : Int) + 1 + (d / 18) % ((l.length : Int) - 1)) % (l.length : Int)) (Int.emod_nonneg _ (by omega)) (Int.emod_lt_of_pos _ (by omega))
  rw [eu] at tn
  rw [eu]
  have ul : u < l.length := by omega
  have ut : u ≠ t := fun e => tn (by rw [e])
  obtain ⟨p1, hp1⟩ : ∃ c, l[t]? = some c := ⟨l[t], List.getElem?_eq_getElem htl⟩
  obtain ⟨p2, hp2⟩ : ∃ c, l[u]? = some c := ⟨l[u], List.getElem?_eq_getElem ul⟩
  have pne : p1 ≠ p2 := fun e => ut (by
    have h1 := List.getElem?_eq_some_iff.mp hp1
    have h2 := List.getElem?_eq_some_iff.mp hp2
    exact ((List.getElem_inj nd).mp (h1.2.trans (e.trans h2.2.symm))).symm)
  have i1 : atI (tx l).cps.toList (t : Int) = some p1 := atI_nat (by rw [tx_cps]; exact hp1)
  have i2 : atI (tx l).cps.toList (u : Int) = some p2 := atI_nat (by rw [tx_cps]; exact hp2)
  have hA2 : At K (upd H1 b (.lst [V.int (n : Int)])) a b := ⟨ab, ⟨ds, SqL.of (by rw [upd_ne ab]; exact ha'), hds⟩, n, upd_same⟩
  refine ⟨_, rfl, _, rfl, _, rfl, _, rfl, a, b, sc, ba, rfl, hA2, b0, b1, fun v n3 v0 v1 => ?_⟩
  rw [upd_upd]
  have s3 : Same H (upd H1 b (.lst [V.int (n3 : Int)])) := s1.trans (same_new hb)
  have hd3 := s3 _ _ hdd
  have hp3 := s3 _ _ hpp
  generalize upd H1 b (.lst [V.int (n3 : Int)]) = H3 at *
  refine ⟨_, rfl, .inl ⟨d, rfl, _, _, rfl, rfl, (by show (0 : Int) < 3; decide), rfl, _, rfl, ?_⟩⟩
  by_cases c3 : d % 3 = 0
  · refine iteY (congrArg V.int c3) ?_
    refine ⟨_, rfl, _, rfl, _, rfl, _, rfl, _, _, p1, rfl, rfl, tx_small (by omega), i1, pp, _, rfl, DPut.k (k := Sum.inr (sg p1)) hp3 (by rw [PD_len]; exact small1000 (by have := st.plen; omega)), ?_⟩
    obtain ⟨P', e1, e2, e3⟩ := PD_put_any (P := P) (e := e) (p := p1) (v := v)
    rw [e1]
    have l1 := List.mem_of_getElem? hp1
    refine q _ D P' (fun q => if q = p1 then v else e q) (fun x o h1 h2 h3 => by rw [upd_ne h2]; exact s3 _ _ h3) (by rw [upd_ne ne]; exact hd3) upd_same ⟨st.raw, e3 st.nd, fun p hp => ((e2 p).mp hp).elim (st.inl p) fun z => by rw [z]; exact l1, fun p => ?_, fun p => ?_, fun x hx hx0 => ?_⟩
    · show 0 ≤ (if p = p1 then v else e p)
      split
      · exact v0
      · exact st.lo p
    · show (if p = p1 then v else e p) ≤ (10 : Int) ^ 200
      split
      · omega
      · exact st.hi p
    · have z := st.cov x hx hx0
      exact ⟨(e2 _).mpr (.inl z.1), (e2 _).mpr (.inl z.2)⟩
  · refine iteN (fun z => c3 (V.int.inj z)) ?_
    have done : Q .non H3 := q H3 D P e (fun x o _ _ h => s3 _ _ h) hd3 hp3 st
    have g1 := DGet.k (k := Sum.inr (sg p1)) hp3
    have g2 := DGet.k (k := Sum.inr (sg p2)) hp3
    refine ⟨_, rfl, _, rfl, _, _, p1, rfl, rfl, tx_small (by omega), i1, _, rfl, pp, _, rfl, g1, _, rfl, ?_⟩
    rw [PD_some]
    by_cases h1 : p1 ∈ P
    · rw [decide_eq_true h1]
      refine iteT ⟨_, rfl, _, rfl, _, _, p2, rfl, rfl, tx_small (by omega), i2, _, rfl, pp, _, rfl, g2, _, rfl, ?_⟩
      rw [PD_some]
      by_cases h2 : p2 ∈ P
      · rw [decide_eq_true h2]
        refine iteT ⟨_, rfl, _, rfl, _, rfl, _, rfl, _, _, p1, rfl, rfl, tx_small (by omega), i1, _, rfl, _, rfl, _, _, p2, rfl, rfl, tx_small (by omega), i2, _, _, rfl, rfl, cat_small _ _, dd, _, rfl, DPut.k (k := Sum.inr (pr p1 p2)) hd3 (by rw [DD_len]; exact small1000 (by omega)), ?_⟩
        have keep : ∀ x o, x ≠ dd → x ≠ pp → H x = some o → ∀ u, (upd H3 dd u) x = some o := fun x o h3 _ h5 u => by
          rw [upd_ne h3]
          exact s3 _ _ h5
        by_cases hm : (p1, p2) ∈ D.map (·.1)
        · rw [DD_put hm]
          refine q _ (setD D (p1, p2) v) P e (fun x o h3 h4 h5 => keep x o h3 h4 h5 _) upd_same (by rw [upd_ne ne.symm]; exact hp3) ⟨st.raw.set v0 v1, st.nd, st.inl, st.lo, st.hi, fun x hx hx0 => ?_⟩
          obtain ⟨y, hy, ey⟩ := List.mem_map.mp hx
          by_cases z : y.1 = (p1, p2)
          · rw [if_pos z] at ey
            rw [← ey, show ((y.1, v) : K72M.Debt).1 = y.1 from rfl, z]
            exact ⟨h1, h2⟩
          · rw [if_neg z] at ey
            rw [← ey]
            exact st.cov y hy (by rw [ey]; exact hx0)
        · rw [DD_add hm]
          refine q _ (D ++ [((p1, p2), v)]) P e (fun x o h3 h4 h5 => keep x o h3 h4 h5 _) upd_same (by rw [upd_ne ne.symm]; exact hp3) ⟨st.raw.add (List.mem_of_getElem? hp1) (List.mem_of_getElem? hp2) pne v0 v1 hm, st.nd, st.inl, st.lo, st.hi, fun x hx hx0 => ?_⟩
          rcases List.mem_append.mp hx with z | z
          · exact st.cov x z hx0
          · rw [List.mem_singleton.mp z]
            exact ⟨h1, h2⟩
      · rw [decide_eq_false h2]
        exact iteF done
    · rw [decide_eq_false h1]
      exact iteF (iteF done)
end
end K72
end
section
set_option Elab.async false
set_option linter.all false
set_option maxRecDepth 100000
set_option maxHeartbeats 4000000
set_option exponentiation.threshold 3000
namespace K72
open PySem PySem.Spec PyProof.Rows L2
/-! ### data -/
theorem dpAll_strs {K : PySem.W.Frag} {H : Hp} : ∀ ts : List Str, DpAll K H (ts.map V.str) (ts.map PyData.str)
  | [] => .nil
  | t :: ts => .cons (.str t) (dpAll_strs ts)
theorem canAll : ∀ {ds : List PyData}, (∀ d ∈ ds, d.canLay0 = true) → PyData.canLayAll0 ds = true
  | [], _ => rfl
  | d :: ds, h => by
    show (d.canLay0 && PyData.canLayAll0 ds) = true
    rw [h d List.mem_cons_self, canAll fun e he => h e (List.mem_cons_of_mem _ he)]
    rfl
theorem depAll {n : Nat} : ∀ {ds : List PyData}, (∀ d ∈ ds, d.depth ≤ n) → PyData.depthAll ds ≤ n
  | [], _ => Nat.zero_le _
  | d :: ds, h => by
    show max d.depth (PyData.depthAll ds) ≤ n
    have a := h d List.mem_cons_self
    have b := depAll fun e he => h e (List.mem_cons_of_mem _ he)
    omega
theorem shaped_list {ds : List PyData} (h1 : ∀ d ∈ ds, d.canLay0 = true) (h2 : ∀ d ∈ ds, d.depth ≤ 2) : SeqAt.shaped (.list ds) = true := by
  unfold SeqAt.shaped
  rw [Bool.and_eq_true]
  refine ⟨canAll h1, decide_eq_true ?_⟩
  have := depAll h2
  show PyData.depthAll ds + 1 ≤ 64
  omega
theorem eqv_self {d : PyData} (h : SeqAt.shaped d = true) : PyData.eqv d d = true := SeqAt.eqv_refl d (SeqAt.canLay_of_shaped h)
theorem strOk_tx {l : List Nat} (h : ∀ c ∈ l, c ∈ K72M.abc) : PyData.strOk (tx l) = true := by
  unfold PyData.strOk
  rw [← Array.all_toList, tx_cps, List.all_eq_true]
  intro c hc
  have := abc_small (h c hc)
  exact decide_eq_true (by omega)
theorem ne_dic {H : Hp} {a b : Addr} {xs : List V} {kvs : List (Key × V)} (h : H a = some (.tup xs)) (h' : H b = some (.dK kvs)) : a ≠ b := ne_of h h' (by intro z; cases z)
/-- what the checks ask of an answer's pairs -/
structure Prs (H : Hp) (qd : Addr) (t : Nat → Addr) (P : List Nat) (num den : Nat → Int) : Prop where
  dic : H qd = some (.dK (PD P fun x => .ref (t x)))
  prs : ∀ x ∈ P, H (t x) = some (.tup [.int (num x), .int (den x)])
theorem Prs.mono {H H' : Hp} {qd : Addr} {t : Nat → Addr} {P : List Nat} {num den : Nat → Int} (a : Prs H qd t P num den) (e : Same H H') : Prs H' qd t P num den := ⟨e _ _ a.dic, fun x hx => e _ _ (a.prs x hx)⟩
theorem Prs.lock {H : Hp} {qd d : Addr} {o : HO} {t : Nat → Addr} {P : List Nat} {num den : Nat → Int} (a : Prs H qd t P num den) (h1 : qd ≠ d) (h2 : ∀ x ∈ P, t x ≠ d) : Prs (upd H d o) qd t P num den :=
  ⟨in_lock a.dic h1, fun x hx => in_lock (a.prs x hx) (h2 x hx)⟩
section
variable {P : Program} {w : World} {K : PySem.W.Frag} {mg : Str → Option Value} {base : Heap}
/-! _law_parts_fit: 0 _law_purses_here, 1 _law_paid, 2 _law_party, 3 _law_part -/
abbrev n43 : List Str := ["_law_purses_here", "_law_paid", "_law_party", "_law_part"]
theorem sc43 : FnScope n43 ["_law_purses_here", "_law_paid"] (defScope s43) := ⟨rfl, rfl, rfl, by decide +kernel, rfl, by decide +kernel, by decide +kernel⟩
def spParts : Sp := fun vs H Q _ => ∃ (pd qd : Addr) (P : List Nat) (e num den : Nat → Int) (t : Nat → Addr), vs = [.ref pd, .ref qd] ∧ H pd = some (.dK (PD P fun x => .int (e x))) ∧ qd ≠ pd ∧ Prs H qd t P num den ∧ (∀ p ∈ P, p ∈ K72M.abc) ∧
  (∀ p, 0 ≤ num p ∧ 0 < den p ∧ (den p).natAbs < 2 ^ 1499 ∧ Int.gcd (num p) (den p) = 1) ∧ ∀ H', Same H H' → Q (.bl true) H'
theorem ok_law_parts_fit (F : Here K mg "_law_parts_fit" s43) (T : Txt K mg) (g__law_is_integer : Fn P w K mg base 1 "_law_is_integer" ["_law_value"] spIsInt) (g__law_lowest : Fn P w K mg base 1 "_law_lowest" ["_law_part"] (spLow K)) :
    Fn P w K mg base 2 "_law_parts_fit" ["_law_purses_here", "_law_paid"] spParts := by
  refine F.fn sc43 (fun _ _ _ _ _ _ us hl => match us, hl with | [_, _], _ => rfl) (fun vs H Q E h => by obtain ⟨_, _, _, _, _, _, _, rfl, _⟩ := h; rfl) fun f cdv A outer s H vs Q E hr h => ?_
  have hu := hu_of hr
  obtain ⟨pd, qd, P, e, num, den, t, rfl, hpd, ne, pq, hP, hn, q⟩ := h
  have keys : ∀ g : Nat → V, ((PD P g).map fun kv => kV kv.1) = (P.map sg).map V.str := fun g => by
    unfold PD
    rw [List.map_map, List.map_map]
    rfl
  have sh : SeqAt.shaped (.list ((P.map sg).map PyData.str)) = true := shaped_list (fun d hd => by
    obtain ⟨z, hz, rfl⟩ := List.mem_map.mp hd
    obtain ⟨p, hp, rfl⟩ := List.mem_map.mp hz
    exact strOk_tx fun c hc => by rw [List.mem_singleton.mp hc]; exact hP p hp) fun d hd => by
    obtain ⟨z, _, rfl⟩ := List.mem_map.mp hd
    exact Nat.zero_le _
  refine ⟨_, (
    (pss_cons (ps_if (PW.pt (pw_or (pt_not (pt_val (pe_callB call_isi (by rfl) T.isinstance (by decide +kernel) (pa_cons (pv 1) (pa_cons (pe_bltn (v := .ty "dict") rfl T.dict (by decide +kernel) rfl) pa_nil))))) (pw_or1 (pt_cmpR (op_neD hr.units) (pe_callTy (call_listD rfl) (by rfl) T.list (by decide +kernel) (pa_cons (pv 1) pa_nil)) (pe_callTy (call_listD rfl) (by rfl) T.list (by decide +kernel) (pa_cons (pv 0) pa_nil)) (nomark _))))) 
      (pss_one (ps_ret pe_bl)) pss_nil)
    (pss_cons (ps_lock (ps_for PassesOwn.never rfl (pi_keys (pv 0)) (pg_name (i := 2) sc43.nd rfl (Or.inl rfl)) 
      (pss_cons (ps_set (i := 3) sc43.nd rfl (Or.inl rfl) (pe_dget hu (pv 1) (pv 2) (fun _ _ => rfl)))
      (pss_cons (ps_if (PW.pt (pw_or (pt_not (pt_val (pe_callB call_isi (by rfl) T.isinstance (by decide +kernel) (pa_cons (pv 3) (pa_cons (pe_bltn (v := .ty "tuple") rfl T.tuple (by decide +kernel) rfl) pa_nil))))) (pw_or1 (pt_cmpR op_ne (pe_callB call_len_seq (by rfl) T.len (by decide +kernel) (pa_cons (pv 3) pa_nil)) pe_int (nomark _))))) 
        (pss_one (ps_ret pe_bl)) pss_nil)
      (pss_cons (ps_if (PW.pt (pw_or (pt_not (pt_val (pe_fn g__law_is_integer (hr.mono (by decide)) rfl (pa_cons (pe_ix ix_tup (pv 3) pe_int (fun _ _ => rfl)) pa_nil)))) (pw_or1 (pt_not (pt_val (pe_fn g__law_is_integer (hr.mono (by decide)) rfl (pa_cons (pe_ix ix_tup (pv 3) pe_int (fun _ _ => rfl)) pa_nil))))))) 
        (pss_one (ps_ret pe_bl)) pss_nil)
      (pss_one (ps_if (PW.pt (pw_or (pt_cmpR op_lt (pe_ix ix_tup (pv 3) pe_int (fun _ _ => rfl)) pe_int (nomark _)) (pw_or (pt_cmpR op_lt (pe_ix ix_tup (pv 3) pe_int (fun _ _ => rfl)) pe_int (nomark _)) (pw_or1 (pt_not (pt_val (pe_fn g__law_lowest (hr.mono (by decide)) rfl (pa_cons (pv 3) pa_nil)))))))) 
        (pss_one (ps_ret pe_bl)) pss_nil)))))))
    (pss_one (ps_ret pe_bl))))), ?_⟩
  refine ⟨_, rfl, _, _, _, _, true, rfl, .ty "dict", .base (.dK pq.dic), kit_ty (by decide +kernel), _, rfl, iteF ?_⟩
  refine ⟨_, rfl, qd, _, rfl, .inl pq.dic, fun l1 hl1 => ?_⟩
  have s1 := same_new (o := .lst ((PD P fun x => V.ref (t x)).map fun kv => kV kv.1)) hl1
  have e1 : (upd H l1 (.lst ((PD P fun x => V.ref (t x)).map fun kv => kV kv.1))) l1 = some (.lst ((P.map sg).map V.str)) := by
    rw [upd_same, keys]
  generalize upd H l1 (.lst ((PD P fun x => V.ref (t x)).map fun kv => kV kv.1)) = H1 at *
  refine ⟨_, rfl, pd, _, rfl, .inl (s1 _ _ hpd), fun l2 hl2 => ?_⟩
  have s2 := same_new (o := .lst ((PD P fun x => V.int (e x)).map fun kv => kV kv.1)) hl2
  have e2 : (upd H1 l2 (.lst ((PD P fun x => V.int (e x)).map fun kv => kV kv.1))) l2 = some (.lst ((P.map sg).map V.str)) := by
    rw [upd_same, keys]
  generalize upd H1 l2 (.lst ((PD P fun x => V.int (e x)).map fun kv => kV kv.1)) = H2 at *
  have s12 := s1.trans s2
  refine ⟨_, _, .lst (SqL.of (s2 _ _ e1)) (dpAll_strs _), .lst (SqL.of e2) (dpAll_strs _), sh, sh, _, rfl, ?_⟩
  rw [eqv_self sh]
  refine iteF ?_
  have hpd2 := s12 _ _ hpd
  have pq2 := pq.mono s12
  refine st_seq (for_keys (fun H Q q => ⟨_, rfl, q⟩) hpd2 (fun m σ Hu => (∃ y2 y3, σ = [some (.ref pd), some (.ref qd), y2, y3]) ∧ H2 = Hu) ⟨⟨none, none, rfl⟩, rfl⟩ (fun m σ Hu h => by rw [← h.2]; exact hpd2) ?_ ?_)
  · rintro m k v ob σ Hu hk ⟨⟨y2, y3, rfl⟩, rfl⟩
    obtain ⟨p, hp, rfl, rfl⟩ := PD_get hk
    have hm := List.mem_of_getElem? hp
    have pl : Prs (upd H2 pd (.frz ob (.dK (PD P fun x => V.int (e x))))) qd t P num den := pq2.lock ne fun x hx => ne_dic (pq2.prs x hx) hpd2
    have g := DGet.k (k := Sum.inr (sg p)) pl.dic
    rw [PD_in hm] at g
    have ht := pl.prs p hm
    have endt : (upd H2 pd (.frz ob (.dK (PD P fun x => V.int (e x))))) pd = some (.frz ob (.dK (PD P fun x => V.int (e x)))) := upd_same
    have back : upd (upd H2 pd (.frz ob (.dK (PD P fun x => V.int (e x))))) pd (.dK (PD P fun x => V.int (e x))) = H2 := upd_back hpd2
    generalize upd H2 pd (.frz ob (.dK (PD P fun x => V.int (e x)))) = HL at *
    obtain ⟨n0, d0, d1, gc⟩ := hn p
    refine ⟨_, rfl, _, rfl, qd, _, rfl, g, ?_⟩
    refine ⟨_, rfl, _, _, _, _, true, rfl, .ty "tuple", .base (.tup ht), kit_ty (by decide +kernel), _, rfl, iteF ?_⟩
    refine ⟨_, rfl, t p, _, rfl, .inr (SqT.of ht), rfl, _, rfl, iteF ?_⟩
    refine ⟨_, rfl, t p, _, 0, .int (num p), rfl, rfl, SqT.of ht, rfl, num p, rfl, _, rfl, iteF ?_⟩
    refine ⟨_, rfl, t p, _, 1, .int (den p), rfl, rfl, SqT.of ht, rfl, den p, rfl, _, rfl, iteF ?_⟩
    refine ⟨_, rfl, t p, _, 0, .int (num p), rfl, rfl, SqT.of ht, rfl, _, _, rfl, rfl, _, rfl, iteN (by omega) ?_⟩
    refine ⟨_, rfl, t p, _, 1, .int (den p), rfl, rfl, SqT.of ht, rfl, _, _, rfl, rfl, _, rfl, iteN (by omega) ?_⟩
    have en : ((num p).natAbs : Int) = num p := Int.natAbs_of_nonneg n0
    have ed : ((den p).natAbs : Int) = den p := Int.natAbs_of_nonneg (by omega)
    refine ⟨_, rfl, t p, (num p).natAbs, (den p).natAbs, rfl, by rw [en, ed]; exact SqT.of ht, by omega, d1, gc, _, rfl, iteF ?_⟩
    exact ⟨endt, ⟨_, _, rfl⟩, back.symm⟩
  · rintro σ Hu ⟨⟨y2, y3, rfl⟩, rfl⟩
    exact q H2 s12
/-! _law_has: 0 _law_debts_here, 1 _law_coins_here, 2 _law_owes_here, 3 _law_paid, 4 _law_party, 5 _law_top, 6 _law_low, 7 _law_pair, 8 _law_below -/
abbrev n44 : List Str := ["_law_debts_here", "_law_coins_here", "_law_owes_here", "_law_paid", "_law_party", "_law_top", "_law_low", "_law_pair", "_law_below"]
theorem sc44 : FnScope n44 ["_law_debts_here", "_law_coins_here", "_law_owes_here", "_law_paid", "_law_party"] (defScope s44) := ⟨rfl, rfl, rfl, by decide +kernel, rfl, by decide +kernel, by decide +kernel⟩
def spHas : Sp := fun vs H Q _ => ∃ (dd od qd : Addr) (D : List K72M.Debt) (P : List Nat) (num den s : Nat → Int) (sc c : Int) (t : Nat → Addr) (p : Nat), vs = [.ref dd, .int c, .ref od, .ref qd, .str (sg p)] ∧ H dd = some (.dK (DD D)) ∧ H od = some (.dK (PD P fun x => .int (K72M.owe D x))) ∧ Prs H qd t P num den ∧ od ≠ dd ∧ qd ≠ dd ∧
  K72M.Raw D ∧ K72M.Cov D P ∧ 0 < sc ∧ (∀ x, num x * sc = den x * (K72M.owe D x * s x)) ∧ (∀ x, 0 < den x) ∧ (∀ x, (num x).natAbs < 2 ^ 2000) ∧ (∀ x, (den x).natAbs < 2 ^ 2000) ∧ c.natAbs < 2 ^ 1000 ∧
  ∀ H' r top low, Same H H' → H r = none → H' r = some (.tup [.int top, .int low]) → 0 < low → top * sc = low * (c * sc + K72M.recv D s p) → top.natAbs < 2 ^ 300000 → low.natAbs < 2 ^ 300000 → Q (.ref r) H'
theorem recv_take {D : List K72M.Debt} {m : Nat} {x : K72M.Debt} (h : D[m]? = some x) (s : Nat → Int) (p : Nat) : K72M.recv (D.take (m + 1)) s p = K72M.recv (D.take m) s p + (if x.1.2 = p then x.2 * s x.1.1 else 0) := by
  unfold K72M.recv
  rw [List.take_add_one, h, K72M.ls_append]
  show _ + ((if x.1.2 = p then x.2 * s x.1.1 else 0) + 0) = _
  omega
theorem owe_b {D : List K72M.Debt} (r : K72M.Raw D) (p : Nat) : (K72M.owe D p).natAbs < 2 ^ 1000 := by
  have a := K72M.owe_le r p
  have b := K72M.owe_nn r p
  have c : (0 : Int) < 2 ^ 205 := by decide
  exact abs_lt (n := 205) (by omega) (by omega) (by decide)
theorem owe_pos {D : List K72M.Debt} (r : K72M.Raw D) {x : K72M.Debt} (hx : x ∈ D) (h : 0 < x.2) : 0 < K72M.owe D x.1.1 :=
  K72M.ls_pos D (fun y hy => by have := r.lo y hy; split <;> omega) ⟨x, hx, by rw [if_pos rfl]; exact h⟩
theorem has_step {top low below v n sc o s dn X : Int} (h1 : top * sc = low * X) (h2 : n * sc = dn * (o * s)) (hb : below = dn * o) : (top * below + v * n * low) * sc = low * below * (X + v * s) := by
  subst hb
  have e1 : (top * (dn * o) + v * n * low) * sc = (top * sc) * (dn * o) + v * low * (n * sc) := by grind
  rw [e1, h1, h2]
  grind
theorem sum_lt {x y : Int} {n : Nat} (hx : x.natAbs < 2 ^ n) (hy : y.natAbs < 2 ^ n) : (x + y).natAbs < 2 ^ (n + 1) := by
  rw [Nat.pow_succ]
  omega
theorem ok_law_has (F : Here K mg "_law_has" s44) (T : Txt K mg) : Fn P w K mg base 1 "_law_has" ["_law_debts_here", "_law_coins_here", "_law_owes_here", "_law_paid", "_law_party"] spHas := by
  refine F.fn sc44 (fun _ _ _ _ _ _ us hl => match us, hl with | [_, _, _, _, _], _ => rfl) (fun vs H Q E h => by obtain ⟨_, _, _, _, _, _, _, _, _, _, _, _, rfl, _⟩ := h; rfl) fun f cdv A outer s H vs Q E hr h => ?_
  have hu := hu_of hr
  obtain ⟨dd, od, qd, D, P, num, den, sh, sc, c, t, p, rfl, hdd, hod, pq, n1, n2, rD, cov, sc0, same, d0, nb, db, cb, q⟩ := h
  have hl := rD.len
  refine ⟨_, (
    (pss_cons (ps_set (i := 5) sc44.nd rfl (Or.inl rfl) (pv 1))
    (pss_cons (ps_set (i := 6) sc44.nd rfl (Or.inl rfl) pe_int)
    (pss_cons (ps_lock (ps_for PassesOwn.never rfl (pi_keys (pv 0)) (pg_name (i := 7) sc44.nd rfl (Or.inl rfl)) 
      (pss_one (ps_if (PW.pt (pw_and (pt_cmpR op_eq (pe_ix ix_str (pv 7) pe_int (fun _ _ => rfl)) (pv 4) (nomark _)) (pw_and1 (pt_cmpR op_gt (pe_dget hu (pv 0) (pv 7) (fun _ _ => rfl)) pe_int (nomark _))))) 
        (pss_cons (ps_set (i := 8) sc44.nd rfl (Or.inl rfl) (pe_op op_mulW (pe_ix ix_tup (pe_dget hu (pv 3) (pe_ix ix_str (pv 7) pe_int (fun _ _ => rfl)) (fun _ _ => rfl)) pe_int (fun _ _ => rfl)) (pe_dget hu (pv 2) (pe_ix ix_str (pv 7) pe_int (fun _ _ => rfl)) (fun _ _ => rfl))))
        (pss_cons (ps_set (i := 5) sc44.nd rfl (Or.inl rfl) (pe_op op_add (pe_op op_mulW (pv 5) (pv 8)) (pe_op op_mulW (pe_op op_mulW (pe_dget hu (pv 0) (pv 7) (fun _ _ => rfl)) (pe_ix ix_tup (pe_dget hu (pv 3) (pe_ix ix_str (pv 7) pe_int (fun _ _ => rfl)) (fun _ _ => rfl)) pe_int (fun _ _ => rfl))) (pv 6))))
        (pss_one (ps_set (i := 6) sc44.nd rfl (Or.inl rfl) (pe_op op_mulW (pv 6) (pv 8)))))) pss_nil))))
    (pss_one (ps_ret (pe_tup (pa_cons (pv 5) (pa_cons (pv 6) pa_nil))))))))), ?_⟩
  refine ⟨_, rfl, ?_⟩
  refine st_seq ?_
  show tSeq _ _ _ _ _
  refine st_seq (for_keys (fun H Q q => ⟨_, rfl, q⟩) hdd (fun m σ Hu => (∃ (top low : Int) (y7 y8 : Option V), σ = [some (.ref dd), some (.int c), some (.ref od), some (.ref qd), some (.str (sg p)), some (.int top), some (.int low), y7, y8] ∧ 0 < low ∧ top * sc = low * (c * sc + K72M.recv (D.take m) sh p) ∧ top.natAbs < 2 ^ (8000 * m + 2000) ∧ low.natAbs < 2 ^ (4000 * m + 1)) ∧ H = Hu)
    ⟨⟨c, 1, none, none, rfl, by decide, ?_, pow_lift cb (by omega), by decide⟩, rfl⟩ (fun m σ Hu h => by rw [← h.2]; exact hdd) ?_ ?_)
  · show c * sc = 1 * (c * sc + 0)
    omega
  · rintro m k v ob σ Hu hk ⟨⟨top, low, y7, y8, rfl, lo0, eq, tb, lb⟩, rfl⟩
    obtain ⟨x, hx, rfl, rfl⟩ := DD_get hk
    have hm := List.mem_of_getElem? hx
    have hml : m < D.length := (List.getElem?_eq_some_iff.mp hx).1
    have rt := recv_take hx sh p
    have endt : (upd H dd (.frz ob (.dK (DD D)))) dd = some (.frz ob (.dK (DD D))) := upd_same
    have back : upd (upd H dd (.frz ob (.dK (DD D)))) dd (.dK (DD D)) = H := upd_back hdd
    have pl : Prs (upd H dd (.frz ob (.dK (DD D)))) qd t P num den := pq.lock n2 fun y hy => ne_dic (pq.prs y hy) hdd
    have ho : (upd H dd (.frz ob (.dK (DD D)))) od = some (.dK (PD P fun x => V.int (K72M.owe D x))) := in_lock hod n1
    have gd := get_frz rD.nd endt hm
    generalize upd H dd (.frz ob (.dK (DD D))) = HL at *
    have keep : (x.1.2 ≠ p ∨ ¬ 0 < x.2) → ∀ (y7 y8 : Option V), HL dd = some (.frz ob (.dK (DD D))) ∧ (∃ (top' low' : Int) (y7' y8' : Option V), [some (V.ref dd), some (.int c), some (.ref od), some (.ref qd), some (.str (sg p)), some (.int top), some (.int low), y7, y8] = [some (.ref dd), some (.int c), some (.ref od), some (.ref qd), some (.str (sg p)), some (.int top'), some (.int low'), y7', y8'] ∧ 0 < low' ∧ top' * sc = low' * (c * sc + K72M.recv (D.take (m + 1)) sh p) ∧ top'.natAbs < 2 ^ (8000 * (m + 1) + 2000) ∧ low'.natAbs < 2 ^ (4000 * (m + 1) + 1)) ∧ H = upd HL dd (.dK (DD D)) := by
      intro h y7 y8
      refine ⟨endt, ⟨top, low, y7, y8, rfl, lo0, ?_, pow_lift tb (by omega), pow_lift lb (by omega)⟩, back.symm⟩
      rw [rt, eq]
      have z : (if x.1.2 = p then x.2 * sh x.1.1 else 0) = 0 := by
        rcases h with h | h
        · rw [if_neg h]
        · have := rD.lo x hm
          rw [show x.2 = 0 by omega]
          split <;> omega
      rw [z]
      grind
    refine ⟨_, rfl, _, 1, x.1.2, rfl, rfl, pr_small _ _, ix1 _ _, _, rfl, rfl, _, rfl, ?_⟩
    by_cases hp : x.1.2 = p
    · refine iteY (sgV.mpr hp) ⟨_, rfl, _, rfl, dd, _, rfl, gd, _, _, rfl, rfl, _, rfl, ?_⟩
      by_cases h0 : 0 < x.2
      · refine iteY h0 ?_
        obtain ⟨c1, c2⟩ := cov x hm h0
        have g1 := DGet.k (k := Sum.inr (sg x.1.1)) pl.dic
        rw [PD_in c1] at g1
        have g2 := DGet.k (k := Sum.inr (sg x.1.1)) ho
        rw [PD_in c1] at g2
        have ht := pl.prs _ c1
        have ob1 := owe_b rD x.1.1
        have op := owe_pos rD hm h0
        have xb : x.2.natAbs < 2 ^ 1000 := by
          have a := rD.hi x hm
          have b := rD.lo x hm
          have c : (10 : Int) ^ 60 ≤ 2 ^ 205 := by decide
          exact abs_lt (n := 205) (by omega) (by omega) (by decide)
        have bb : (den x.1.1 * K72M.owe D x.1.1).natAbs < 2 ^ 3000 := wide_lt (db _) ob1
        have b0 : 0 < den x.1.1 * K72M.owe D x.1.1 := Int.mul_pos (d0 _) op
        -- below
        refine ⟨_, rfl, _, rfl, _, 0, x.1.1, rfl, rfl, pr_small _ _, ix0 _ _, qd, _, rfl, g1, t x.1.1, _, 1, .int (den x.1.1), rfl, rfl, SqT.of ht, rfl, _, rfl, _, rfl, _, 0, x.1.1, rfl, rfl, pr_small _ _, ix0 _ _, od, _, rfl, g2, _, _, rfl, rfl, wide_mul (db _) ob1 (by decide) (by decide) (by decide), ?_⟩
        dsimp only
        generalize eb : den x.1.1 * K72M.owe D x.1.1 = below at *
        have v1 : (x.2 * num x.1.1).natAbs < 2 ^ 3000 := wide_lt xb (nb _)
        -- top
        refine ⟨_, rfl, _, rfl, _, _, rfl, rfl, wide_mul tb bb (by omega) (by decide) (by omega), _, rfl, _, rfl, dd, _, rfl, gd, _, rfl, _, rfl, _, 0, x.1.1, rfl, rfl, pr_small _ _, ix0 _ _, qd, _, rfl, g1, t x.1.1, _, 0, .int (num x.1.1), rfl, rfl, SqT.of ht, rfl, _, _, rfl, rfl, wide_mul xb (nb _) (by decide) (by decide) (by decide), _, rfl, _, _, rfl, rfl, wide_mul v1 lb (by decide) (by omega) (by omega), _, _, rfl, rfl, ?_⟩
        -- low
        refine ⟨_, rfl, _, rfl, _, _, rfl, rfl, wide_mul lb bb (by omega) (by decide) (by omega), endt, ⟨top * below + x.2 * num x.1.1 * low, low * below, _, _, rfl, Int.mul_pos lo0 b0, ?_, ?_, ?_⟩, back.symm⟩
        · rw [rt, if_pos hp, ← Int.add_assoc]
          exact has_step eq (same x.1.1) eb.symm
        · have a1 := wide_lt tb bb
          have a2 := wide_lt v1 lb
          exact pow_lift (sum_lt (pow_lift a1 (show 8000 * m + 2000 + 3000 ≤ 8000 * m + 9000 by omega)) (pow_lift a2 (show 3000 + (4000 * m + 1) ≤ 8000 * m + 9000 by omega))) (by omega)
        · exact pow_lift (wide_lt lb bb) (by omega)
      · exact iteN h0 (keep (.inr h0) _ _)
    · exact iteN (fun z => hp (sgV.mp z)) (iteF (keep (.inl hp) _ _))
  · rintro σ Hu ⟨⟨top, low, y7, y8, rfl, lo0, eq, tb, lb⟩, rfl⟩
    rw [DD_len, List.take_length] at eq
    rw [DD_len] at tb lb
    refine ⟨_, rfl, _, rfl, (by show 2 ≤ sizeLine; decide), fun r hr => ?_⟩
    exact q _ r top low (same_new hr) hr upd_same lo0 eq (pow_lift tb (by omega)) (pow_lift lb (by omega))
end
end K72
end
section
set_option Elab.async false
set_option linter.all false
set_option maxRecDepth 100000
set_option maxHeartbeats 4000000
set_option exponentiation.threshold 3000
namespace K72
open PySem PySem.Spec PyProof.Rows L2
theorem iteE {c : Prop} [Decidable c] {A B : Prop} (h : c) (b : B) : if (!decide c) = true then A else B := by
  rw [decide_eq_true h]
  exact b
theorem iteU {c : Prop} [Decidable c] {A B : Prop} (h : ¬ c) (a : A) : if (!decide c) = true then A else B := by
  rw [decide_eq_false h]
  exact a
section
variable {D : List K72M.Debt} {P : List Nat} {e : Nat → Int} {F : List Nat} {W : List (List Nat)} {s : Nat → Int} {sc : Int} {num den : Nat → Int}
theorem Final.scb (f : K72M.Final D P e F W s sc num den) : sc.natAbs < 2 ^ 1400 := by
  have a := f.sc0
  have c := f.sc1
  have pos : (0 : Int) < 2 ^ 1230 := by decide
  exact abs_lt (n := 1230) (by omega) (by omega) (by decide)
theorem Final.db (f : K72M.Final D P e F W s sc num den) (p : Nat) : (den p).natAbs < 2 ^ 1400 := by
  have a := f.den0 p
  have b := f.den1 p
  have c := f.sc1
  have pos : (0 : Int) < 2 ^ 1230 := by decide
  exact abs_lt (n := 1230) (by omega) (by omega) (by decide)
theorem Final.nb (f : K72M.Final D P e F W s sc num den) (p : Nat) : (num p).natAbs < 2 ^ 2000 := by
  have h0 := f.num0 p
  have h1 := f.num1 p
  have o0 := K72M.owe_nn f.raw p
  have o1 := K72M.owe_le f.raw p
  have s0 := f.s0 p
  have s1 := f.s1 p
  have c := f.sc1
  have m : K72M.owe D p * s p ≤ (2 : Int) ^ 205 * 2 ^ 1230 := Int.mul_le_mul o1 (by omega) s0 (by decide)
  rw [← Int.pow_add] at m
  have pos : (0 : Int) < 2 ^ (205 + 1230) := by decide
  exact abs_lt (n := 205 + 1230) (by omega) (by omega) (by decide)
theorem Final.eb (f : K72M.Final D P e F W s sc num den) (p : Nat) : (e p).natAbs < 2 ^ 1000 := by
  have a := f.purse.lo p
  have b := f.purse.hi p
  have c : (10 : Int) ^ 200 ≤ 2 ^ 700 := by decide
  have pos : (0 : Int) < 2 ^ 700 := by decide
  exact abs_lt (n := 700) (by omega) (by omega) (by decide)
/-- it pays all just when it does not fail -/
theorem Final.pays (f : K72M.Final D P e F W s sc num den) (p : Nat) : num p = K72M.owe D p * den p ↔ p ∉ F := by
  have h := f.same p
  have c0 := f.sc0
  have d0 := f.den0 p
  constructor
  · intro e1 hF
    obtain ⟨_, o0, lt, _⟩ := f.fail p hF
    rw [e1] at h
    have a : K72M.owe D p * den p * sc = K72M.owe D p * den p * s p := by rw [h]; grind
    have b := Int.eq_of_mul_eq_mul_left (Int.ne_of_gt (Int.mul_pos o0 d0)) a
    omega
  · intro hF
    rw [f.out p hF] at h
    have a : num p * sc = (K72M.owe D p * den p) * sc := by rw [h]; grind
    exact Int.eq_of_mul_eq_mul_right (Int.ne_of_gt c0) a
theorem Final.enough (f : K72M.Final D P e F W s sc num den) {p : Nat} {top low : Int} (hp : p ∈ P) (hF : p ∉ F) (l0 : 0 < low) (h : top * sc = low * (e p * sc + K72M.recv D s p)) : K72M.owe D p * low ≤ top := by
  have a := Int.mul_le_mul_of_nonneg_left (f.full p hp hF) (Int.le_of_lt l0)
  rw [← h] at a
  have b : (K72M.owe D p * low) * sc ≤ top * sc := by
    have e : (K72M.owe D p * low) * sc = low * (K72M.owe D p * sc) := by grind
    rw [e]
    exact a
  exact Int.le_of_mul_le_mul_right b f.sc0
theorem Final.less (f : K72M.Final D P e F W s sc num den) (p : Nat) : num p ≤ K72M.owe D p * den p := by
  have h := f.same p
  have a : num p * sc ≤ (K72M.owe D p * den p) * sc := by
    rw [h]
    have e : (K72M.owe D p * den p) * sc = (den p * K72M.owe D p) * sc := by grind
    have e2 : den p * (K72M.owe D p * s p) = (den p * K72M.owe D p) * s p := by grind
    rw [e, e2]
    exact Int.mul_le_mul_of_nonneg_left (f.s1 p) (Int.mul_nonneg (Int.le_of_lt (f.den0 p)) (K72M.owe_nn f.raw p))
  exact Int.le_of_mul_le_mul_right a f.sc0
theorem Final.just (f : K72M.Final D P e F W s sc num den) {p : Nat} {top low : Int} (hF : p ∈ F) (h : top * sc = low * (e p * sc + K72M.recv D s p)) : num p * low = top * den p := by
  have h1 := (f.fail p hF).2.2.2
  have h2 := f.same p
  rw [← h1] at h
  have a : (num p * low) * sc = (top * den p) * sc := by
    have e1 : (num p * low) * sc = low * (num p * sc) := by grind
    have e2 : (top * den p) * sc = den p * (top * sc) := by grind
    rw [e1, e2, h2, h]
    grind
  exact Int.eq_of_mul_eq_mul_right (Int.ne_of_gt f.sc0) a
end
section
variable {P : Program} {w : World} {K : PySem.W.Frag} {mg : Str → Option Value} {base : Heap}
/-- where the checks find their things -/
structure Chk (H : Hp) (dd pd od qd : Addr) (t : Nat → Addr) (D : List K72M.Debt) (P : List Nat) (e num den : Nat → Int) : Prop where
  hd : H dd = some (.dK (DD D))
  hp : H pd = some (.dK (PD P fun x => .int (e x)))
  ho : H od = some (.dK (PD P fun x => .int (K72M.owe D x)))
  pr : Prs H qd t P num den
  n1 : dd ≠ pd
  n2 : od ≠ dd
  n3 : qd ≠ dd
  n4 : od ≠ pd
  n5 : qd ≠ pd
theorem Chk.mono {H H' : Hp} {dd pd od qd : Addr} {t : Nat → Addr} {D : List K72M.Debt} {P : List Nat} {e num den : Nat → Int} (c : Chk H dd pd od qd t D P e num den) (s : Same H H') : Chk H' dd pd od qd t D P e num den :=
  ⟨s _ _ c.hd, s _ _ c.hp, s _ _ c.ho, c.pr.mono s, c.n1, c.n2, c.n3, c.n4, c.n5⟩
/-! _law_clears: 0 _law_debts_here, 1 _law_purses_here, 2 _law_owes_here, 3 _law_paid, 4 _law_party, 5 _law_has_here, 6 _law_part -/
abbrev n46 : List Str := ["_law_debts_here", "_law_purses_here", "_law_owes_here", "_law_paid", "_law_party", "_law_has_here", "_law_part"]
theorem sc46 : FnScope n46 ["_law_debts_here", "_law_purses_here", "_law_owes_here", "_law_paid"] (defScope s46) := ⟨rfl, rfl, rfl, by decide +kernel, rfl, by decide +kernel, by decide +kernel⟩
def spClears : Sp := fun vs H Q _ => ∃ (dd pd od qd : Addr) (D : List K72M.Debt) (P : List Nat) (e num den s : Nat → Int) (sc : Int) (t : Nat → Addr) (F : List Nat) (W : List (List Nat)), vs = [.ref dd, .ref pd, .ref od, .ref qd] ∧ Chk H dd pd od qd t D P e num den ∧ K72M.Final D P e F W s sc num den ∧
  ∀ H', Same H H' → Q (.bl true) H'
theorem ok_law_clears (F : Here K mg "_law_clears" s46) (T : Txt K mg) (g__law_has : Fn P w K mg base 1 "_law_has" ["_law_debts_here", "_law_coins_here", "_law_owes_here", "_law_paid", "_law_party"] spHas)
    (g__law_pays_all : Fn P w K mg base 1 "_law_pays_all" ["_law_owes_here", "_law_paid", "_law_party"] spPays) : Fn P w K mg base 2 "_law_clears" ["_law_debts_here", "_law_purses_here", "_law_owes_here", "_law_paid"] spClears := by
  refine F.fn sc46 (fun _ _ _ _ _ _ us hl => match us, hl with | [_, _, _, _], _ => rfl) (fun vs H Q E h => by obtain ⟨_, _, _, _, _, _, _, _, _, _, _, _, _, _, rfl, _⟩ := h; rfl) fun f cdv A outer s H vs Q E hr h => ?_
  have hu := hu_of hr
  obtain ⟨dd, pd, od, qd, D, P, e, num, den, sh, sc, t, F, W, rfl, ck, fin, q⟩ := h
  refine ⟨_, (
    (pss_cons (ps_lock (ps_for PassesOwn.never rfl (pi_keys (pv 1)) (pg_name (i := 4) sc46.nd rfl (Or.inl rfl)) 
      (pss_cons (ps_set (i := 5) sc46.nd rfl (Or.inl rfl) (pe_fn g__law_has (hr.mono (by decide)) rfl (pa_cons (pv 0) (pa_cons (pe_dget hu (pv 1) (pv 4) (fun _ _ => rfl)) (pa_cons (pv 2) (pa_cons (pv 3) (pa_cons (pv 4) pa_nil)))))))
      (pss_cons (ps_set (i := 6) sc46.nd rfl (Or.inl rfl) (pe_dget hu (pv 3) (pv 4) (fun _ _ => rfl)))
      (pss_one (ps_if (pt_val (pe_fn g__law_pays_all (hr.mono (by decide)) rfl (pa_cons (pv 2) (pa_cons (pv 3) (pa_cons (pv 4) pa_nil))))) 
        (pss_one (ps_if (pt_cmpR op_lt (pe_ix ix_tup (pv 5) pe_int (fun _ _ => rfl)) (pe_op op_mulW (pe_dget hu (pv 2) (pv 4) (fun _ _ => rfl)) (pe_ix ix_tup (pv 5) pe_int (fun _ _ => rfl))) (nomark _)) 
          (pss_one (ps_ret pe_bl)) pss_nil)) 
        (pss_one (ps_if (PW.pt (pw_or (pt_cmpR op_gt (pe_ix ix_tup (pv 6) pe_int (fun _ _ => rfl)) (pe_op op_mulW (pe_dget hu (pv 2) (pv 4) (fun _ _ => rfl)) (pe_ix ix_tup (pv 6) pe_int (fun _ _ => rfl))) (nomark _)) (pw_or1 (pt_cmpR op_ne (pe_op op_mulW (pe_ix ix_tup (pv 6) pe_int (fun _ _ => rfl)) (pe_ix ix_tup (pv 5) pe_int (fun _ _ => rfl))) (pe_op op_mulW (pe_ix ix_tup (pv 5) pe_int (fun _ _ => rfl)) (pe_ix ix_tup (pv 6) pe_int (fun _ _ => rfl))) (nomark _))))) 
          (pss_one (ps_ret pe_bl)) pss_nil))))))))
    (pss_one (ps_ret pe_bl)))), ?_⟩
  refine st_seq (for_keys (fun H Q q => ⟨_, rfl, q⟩) ck.hp (fun m σ Hu => (∃ y4 y5 y6, σ = [some (.ref dd), some (.ref pd), some (.ref od), some (.ref qd), y4, y5, y6]) ∧ Same H Hu) ⟨⟨none, none, none, rfl⟩, Same.refl H⟩ (fun m σ Hu h => h.2 _ _ ck.hp) ?_ ?_)
  · rintro m k v ob σ Hu hk ⟨⟨y4, y5, y6, rfl⟩, s1⟩
    obtain ⟨p, hp, rfl, rfl⟩ := PD_get hk
    have hm := List.mem_of_getElem? hp
    have c1 := ck.mono s1
    have hdL := in_lock (o := .frz ob (.dK (PD P fun x => V.int (e x)))) c1.hd c1.n1
    have hoL := in_lock (o := .frz ob (.dK (PD P fun x => V.int (e x)))) c1.ho c1.n4
    have prL : Prs (upd Hu pd (.frz ob (.dK (PD P fun x => V.int (e x))))) qd t P num den := c1.pr.lock c1.n5 fun x hx => ne_dic (c1.pr.prs x hx) c1.hp
    have endt : (upd Hu pd (.frz ob (.dK (PD P fun x => V.int (e x))))) pd = some (.frz ob (.dK (PD P fun x => V.int (e x)))) := upd_same
    have unl : ∀ HL, Same (upd Hu pd (.frz ob (.dK (PD P fun x => V.int (e x))))) HL → Same H (upd HL pd (.dK (PD P fun x => V.int (e x)))) := fun HL h => s1.trans (unlock c1.hp h)
    generalize upd Hu pd (.frz ob (.dK (PD P fun x => V.int (e x)))) = HL at *
    have gp : DGet HL pd (V.str (sg p)) (some (.int (e p))) := .inl ⟨_, Sum.inr (sg p), .inr ⟨ob, endt⟩, rfl, (PD_in (f := fun x => V.int (e x)) hm).symm⟩
    refine ⟨_, rfl, _, rfl, _, rfl, pd, _, rfl, gp, _, rfl, _, rfl, _, rfl, ?_⟩
    refine ⟨dd, od, qd, D, P, num, den, sh, sc, e p, t, p, rfl, hdL, hoL, prL, c1.n2, c1.n3, fin.raw, fin.cov, fin.sc0, fin.same, fin.den0, Final.nb fin, fun x => pow_lift (Final.db fin x) (by decide), Final.eb fin p, ?_⟩
    intro H2 r top low s2 hr0 hr2 l0 eq tb lb
    have g1 : DGet H2 qd (V.str (sg p)) (some (.ref (t p))) := by
      have := DGet.k (k := Sum.inr (sg p)) (prL.mono s2).dic
      rw [PD_in hm] at this
      exact this
    have ht := (prL.mono s2).prs p hm
    have go : DGet H2 od (V.str (sg p)) (some (.int (K72M.owe D p))) := by
      have := DGet.k (k := Sum.inr (sg p)) (s2 _ _ hoL)
      rw [PD_in hm] at this
      exact this
    have ob1 := owe_b fin.raw p
    have ndb := Final.db fin p
    have nnb := Final.nb fin p
    refine ⟨_, rfl, _, rfl, qd, _, rfl, g1, ?_⟩
    refine ⟨_, rfl, _, rfl, _, rfl, od, qd, P, K72M.owe D, num, den, t, p, rfl, s2 _ _ hoL, (prL.mono s2).dic, hm, ht, pow_lift ob1 (by decide), pow_lift ndb (by decide), ?_⟩
    have keep : ∀ y5 y6, H2 pd = some (.frz ob (.dK (PD P fun x => V.int (e x)))) ∧ (∃ y4' y5' y6', [some (V.ref dd), some (.ref pd), some (.ref od), some (.ref qd), some (.str (sg p)), y5, y6] = [some (V.ref dd), some (.ref pd), some (.ref od), some (.ref qd), y4', y5', y6']) ∧ Same H (upd H2 pd (.dK (PD P fun x => V.int (e x)))) := fun y5 y6 => ⟨s2 _ _ endt, ⟨_, _, _, rfl⟩, unl _ s2⟩
    refine ⟨_, rfl, ?_⟩
    by_cases hF : p ∈ F
    · rw [decide_eq_false fun z => (Final.pays fin p).mp z hF]
      refine iteF ?_
      refine ⟨_, rfl, t p, _, 0, .int (num p), rfl, rfl, SqT.of ht, rfl, _, rfl, _, rfl, od, _, rfl, go, _, rfl, t p, _, 1, .int (den p), rfl, rfl, SqT.of ht, rfl, _, _, rfl, rfl, wide_mul ob1 ndb (by decide) (by decide) (by decide), _, _, rfl, rfl, _, rfl, ?_⟩
      refine iteN (fun z => absurd (Final.less fin p) (by omega)) ?_
      refine ⟨_, rfl, t p, _, 0, .int (num p), rfl, rfl, SqT.of ht, rfl, _, rfl, r, _, 1, .int low, rfl, rfl, SqT.of hr2, rfl, _, _, rfl, rfl, wide_mul nnb lb (by decide) (by decide) (by decide), _, rfl, r, _, 0, .int top, rfl, rfl, SqT.of hr2, rfl, _, rfl, t p, _, 1, .int (den p), rfl, rfl, SqT.of ht, rfl, _, _, rfl, rfl, wide_mul tb ndb (by decide) (by decide) (by decide), ?_⟩
      refine ⟨rfl, _, rfl, ?_⟩
      exact iteE (congrArg V.int (Final.just fin hF eq)) (keep _ _)
    · rw [decide_eq_true ((Final.pays fin p).mpr hF)]
      refine iteT ?_
      refine ⟨_, rfl, r, _, 0, .int top, rfl, rfl, SqT.of hr2, rfl, _, rfl, _, rfl, od, _, rfl, go, _, rfl, r, _, 1, .int low, rfl, rfl, SqT.of hr2, rfl, _, _, rfl, rfl, wide_mul ob1 lb (by decide) (by decide) (by decide), _, _, rfl, rfl, _, rfl, ?_⟩
      exact iteN (fun z => absurd (Final.enough fin hm hF l0 eq) (by omega)) (keep _ _)
  · rintro σ Hu ⟨⟨y4, y5, y6, rfl⟩, s1⟩
    exact q Hu s1
end
end K72
end
section
set_option Elab.async false
set_option linter.all false
set_option maxRecDepth 100000
set_option maxHeartbeats 4000000
set_option exponentiation.threshold 3000
namespace K72
open PySem PySem.Spec PyProof.Rows L2
/-- what the search for a chain keeps -/
structure Safe (P F S : List Nat) : Prop where
  nd : S.Nodup
  inP : ∀ p ∈ S, p ∈ P
  out : ∀ p ∈ P, p ∉ F → p ∈ S
theorem Safe.len {P F S : List Nat} (h : Safe P F S) (hP : P.length ≤ 6) : S.length ≤ 6 := Nat.le_trans (List.Nodup.length_le_of_subset h.nd h.inP) hP
theorem Safe.all {P F S : List Nat} (h : Safe P F S) (hP : P.length ≤ 6) (h6 : 6 ≤ S.length) : ∀ p ∈ P, p ∈ S := fun p hp => by
  apply Decidable.byContradiction
  intro hS
  have : (p :: S).length ≤ P.length := List.Nodup.length_le_of_subset (List.nodup_cons.mpr ⟨hS, h.nd⟩) fun x hx => (List.mem_cons.mp hx).elim (fun e => by rw [e]; exact hp) (h.inP x)
  rw [List.length_cons] at this
  omega
theorem Safe.round {D : List K72M.Debt} {P : List Nat} {e : Nat → Int} {F : List Nat} {W : List (List Nat)} {s : Nat → Int} {sc : Int} {num den : Nat → Int} (f : K72M.Final D P e F W s sc num den) {S S' : List Nat} (h : Safe P F S) (sub : ∀ p ∈ S, p ∈ S') (h' : ∀ x ∈ D, 0 < x.2 → x.1.2 ∈ S → x.1.1 ∈ S') :
    S.length + 1 ≤ S'.length ∨ ∀ p ∈ P, p ∈ S := by
  by_cases q : ∀ p ∈ P, p ∈ S
  · exact .inr q
  · left
    have q2 : ∃ p, p ∈ P ∧ p ∉ S := Classical.byContradiction fun z => q fun p hp => Classical.byContradiction fun y => z ⟨p, hp, y⟩
    obtain ⟨p, hp, hS⟩ := q2
    have hF : p ∈ F := Classical.byContradiction fun z => hS (h.out p hp z)
    obtain ⟨x, hx, x0, x1, x2⟩ := f.nc (fun p => decide (p ∈ F ∧ p ∉ S)) ⟨p, hF, decide_eq_true ⟨hF, hS⟩⟩ fun p hp => (of_decide_eq_true hp).1
    have x1 := of_decide_eq_true x1
    have x2 := of_decide_eq_false x2
    have c := (f.cov x hx x0).2
    have y2 : x.1.2 ∈ S := by
      apply Classical.byContradiction
      intro z
      by_cases y : x.1.2 ∈ F
      · exact x2 ⟨y, z⟩
      · exact z (h.out _ c y)
    have y1 := h' x hx x0 y2
    have : (x.1.1 :: S).length ≤ S'.length := List.Nodup.length_le_of_subset (List.nodup_cons.mpr ⟨x1.2, h.nd⟩) fun y hy => (List.mem_cons.mp hy).elim (fun e => by rw [e]; exact y1) (sub y)
    rw [List.length_cons] at this
    exact this
theorem take_in {α : Type} {l : List α} {m : Nat} {a y : α} (h : l[m]? = some a) (hy : y ∈ l.take (m + 1)) : y ∈ l.take m ∨ y = a := by
  rw [List.take_add_one, h] at hy
  rcases List.mem_append.mp hy with z | z
  · exact .inl z
  · exact .inr (by simpa using z)
section
variable {P : Program} {w : World} {K : PySem.W.Frag} {mg : Str → Option Value} {base : Heap}
/-! _law_greatest: 0 _law_debts_here, 1 _law_purses_here, 2 _law_owes_here, 3 _law_paid, 4 _law_safe, 5 _law_party, 6 _law_k, 7 _law_pair -/
abbrev n47 : List Str := ["_law_debts_here", "_law_purses_here", "_law_owes_here", "_law_paid", "_law_safe", "_law_party", "_law_k", "_law_pair"]
theorem sc47 : FnScope n47 ["_law_debts_here", "_law_purses_here", "_law_owes_here", "_law_paid"] (defScope s47) := ⟨rfl, rfl, rfl, by decide +kernel, rfl, by decide +kernel, by decide +kernel⟩
theorem ok_law_greatest (F : Here K mg "_law_greatest" s47) (T : Txt K mg)
    (g__law_pays_all : Fn P w K mg base 1 "_law_pays_all" ["_law_owes_here", "_law_paid", "_law_party"] spPays) : Fn P w K mg base 2 "_law_greatest" ["_law_debts_here", "_law_purses_here", "_law_owes_here", "_law_paid"] spClears := by
  refine F.fn sc47 (fun _ _ _ _ _ _ us hl => match us, hl with | [_, _, _, _], _ => rfl) (fun vs H Q E h => by obtain ⟨_, _, _, _, _, _, _, _, _, _, _, _, _, _, rfl, _⟩ := h; rfl) fun f cdv A outer s H vs Q E hr h => ?_
  have hu := hu_of hr
  obtain ⟨dd, pd, od, qd, D, P, e, num, den, sh, sc, t, F, W, rfl, ck, fin, q⟩ := h
  have hP6 : P.length ≤ 6 := List.Nodup.length_le_of_subset fin.purse.nd fin.purse.inA
  refine ⟨_, (
    (pss_cons (ps_set (i := 4) sc47.nd rfl (Or.inl rfl) pe_str)
    (pss_cons (ps_lock (ps_for PassesOwn.never rfl (pi_keys (pv 1)) (pg_name (i := 5) sc47.nd rfl (Or.inl rfl)) 
      (pss_one (ps_if (pt_val (pe_fn g__law_pays_all (hr.mono (by decide)) rfl (pa_cons (pv 2) (pa_cons (pv 3) (pa_cons (pv 5) pa_nil))))) 
        (pss_one (ps_set (i := 4) sc47.nd rfl (Or.inl rfl) (pe_op op_add_str (pv 4) (pv 5)))) pss_nil))))
    (pss_cons (ps_for PassesOwn.never rfl (pi_range1 rfl T.range (pa_cons pe_int pa_nil)) (pg_name (i := 6) sc47.nd rfl (Or.inl rfl)) 
      (pss_one (ps_lock (ps_for PassesOwn.never rfl (pi_keys (pv 0)) (pg_name (i := 7) sc47.nd rfl (Or.inl rfl)) 
        (pss_one (ps_if (PW.pt (pw_and (pt_cmpR op_gt (pe_dget hu (pv 0) (pv 7) (fun _ _ => rfl)) pe_int (nomark _)) (pw_and (pt_cmpR op_in_sign (pe_ix ix_str (pv 7) pe_int (fun _ _ => rfl)) (pv 4) rfl) (pw_and1 (pt_cmpR op_notIn_sign (pe_ix ix_str (pv 7) pe_int (fun _ _ => rfl)) (pv 4) rfl))))) 
          (pss_one (ps_set (i := 4) sc47.nd rfl (Or.inl rfl) (pe_op op_add_str (pv 4) (pe_ix ix_str (pv 7) pe_int (fun _ _ => rfl))))) pss_nil))))))
    (pss_cons (ps_lock (ps_for PassesOwn.never rfl (pi_keys (pv 1)) (pg_name (i := 5) sc47.nd rfl (Or.inl rfl)) 
      (pss_one (ps_if (pt_cmpR op_notIn_sign (pv 5) (pv 4) rfl) 
        (pss_one (ps_ret pe_bl)) pss_nil))))
    (pss_one (ps_ret pe_bl))))))), ?_⟩
  -- those that pay all
  refine st_seq ?_
  show tSeq _ _ _ _ _
  refine st_seq (for_keys (fun H Q q => ⟨_, rfl, q⟩) ck.hp (fun m σ Hu => (∃ y5 y6 y7, σ = [some (.ref dd), some (.ref pd), some (.ref od), some (.ref qd), some (.str (tx ((P.take m).filter fun p => decide (p ∉ F)))), y5, y6, y7]) ∧ H = Hu) ⟨⟨none, none, none, rfl⟩, rfl⟩ (fun m σ Hu h => by rw [← h.2]; exact ck.hp) ?_ ?_)
  · rintro m k v ob σ Hu hk ⟨⟨y5, y6, y7, rfl⟩, rfl⟩
    obtain ⟨p, hp, rfl, rfl⟩ := PD_get hk
    have hm := List.mem_of_getElem? hp
    have hoL := in_lock (o := .frz ob (.dK (PD P fun x => V.int (e x)))) ck.ho ck.n4
    have prL : Prs (upd H pd (.frz ob (.dK (PD P fun x => V.int (e x))))) qd t P num den := ck.pr.lock ck.n5 fun x hx => ne_dic (ck.pr.prs x hx) ck.hp
    have endt : (upd H pd (.frz ob (.dK (PD P fun x => V.int (e x))))) pd = some (.frz ob (.dK (PD P fun x => V.int (e x)))) := upd_same
    have back : upd (upd H pd (.frz ob (.dK (PD P fun x => V.int (e x))))) pd (.dK (PD P fun x => V.int (e x))) = H := upd_back ck.hp
    generalize upd H pd (.frz ob (.dK (PD P fun x => V.int (e x)))) = HL at *
    have tk := take_filter_succ hp (fun p => decide (p ∉ F))
    refine ⟨_, rfl, _, rfl, _, rfl, od, qd, P, K72M.owe D, num, den, t, p, rfl, hoL, prL.dic, hm, prL.prs p hm, pow_lift (owe_b fin.raw p) (by decide), pow_lift (Final.db fin p) (by decide), ?_⟩
    refine ⟨_, rfl, ?_⟩
    by_cases hF : p ∈ F
    · rw [decide_eq_false fun z => (Final.pays fin p).mp z hF]
      refine iteF ⟨endt, ⟨some (.str (sg p)), y6, y7, ?_⟩, back.symm⟩
      rw [tk, if_neg (by simpa using hF), List.append_nil]
      rfl
    · rw [decide_eq_true ((Final.pays fin p).mpr hF)]
      refine iteT ⟨_, rfl, _, rfl, tx _, sg p, rfl, rfl, ?_, endt, ⟨some (.str (sg p)), y6, y7, ?_⟩, back.symm⟩
      · rw [tx_len, tx_len]
        have z := List.length_filter_le (fun p => decide (p ∉ F)) (P.take m)
        rw [List.length_take] at z
        exact Nat.le_of_lt (small1000 (by simp only [List.length_cons, List.length_nil]; omega))
      · rw [tk, if_pos (by simpa using hF), tx_app]
        rfl
  rintro σ Hu ⟨⟨y5, y6, y7, rfl⟩, rfl⟩
  rw [PD_len, List.take_length]
  have sf0 : Safe P F (P.filter fun p => decide (p ∉ F)) := ⟨fin.purse.nd.filter _, fun p hp => (List.mem_filter.mp hp).1, fun p hp hF => List.mem_filter.mpr ⟨hp, decide_eq_true hF⟩⟩
  generalize (P.filter fun p => decide (p ∉ F)) = S0 at sf0
  -- the rounds
  refine st_seq ⟨6, rfl, by decide, by decide, ?_⟩
  refine for_it (walk_range (lo := 0) (n := 6)) (fun k σ Hu => ∃ (S : List Nat) (y5 y6 y7 : Option V), σ = [some (.ref dd), some (.ref pd), some (.ref od), some (.ref qd), some (.str (tx S)), y5, y6, y7] ∧ Safe P F S ∧ (k ≤ S.length ∨ ∀ p ∈ P, p ∈ S) ∧ H = Hu)
    ⟨S0, y5, y6, y7, rfl, sf0, .inl (Nat.zero_le _), rfl⟩ (fun _ _ _ _ _ => trivial) ?_ ?_
  · rintro k x σ Hu Hu' hk ⟨S, y5, y6, y7, rfl, sf, hS, eH⟩ ⟨eH2, hx⟩
    obtain rfl : H = Hu' := by rw [eH, eH2]
    refine for_keys (fun H Q q => ⟨_, rfl, q⟩) ck.hd (fun m σ Hu => ∃ (S' : List Nat) (y6 y7 : Option V), σ = [some (.ref dd), some (.ref pd), some (.ref od), some (.ref qd), some (.str (tx S')), y5, y6, y7] ∧ Safe P F S' ∧ (∀ p ∈ S, p ∈ S') ∧ (∀ x ∈ D.take m, 0 < x.2 → x.1.2 ∈ S → x.1.1 ∈ S') ∧ H = Hu)
      ⟨S, some x, y7, rfl, sf, fun p hp => hp, fun x hx => (by cases hx), rfl⟩ (fun m σ Hu h => by obtain ⟨_, _, _, _, _, _, _, h⟩ := h; rw [← h]; exact ck.hd) ?_ ?_
    · rintro m k v ob σ Hu hk ⟨S', y6, y7, rfl, sf', sub, got, rfl⟩
      obtain ⟨x, hx, rfl, rfl⟩ := DD_get hk
      have hm := List.mem_of_getElem? hx
      have endt : (upd H dd (.frz ob (.dK (DD D)))) dd = some (.frz ob (.dK (DD D))) := upd_same
      have back : upd (upd H dd (.frz ob (.dK (DD D)))) dd (.dK (DD D)) = H := upd_back ck.hd
      have gd := get_frz fin.raw.nd endt hm
      generalize upd H dd (.frz ob (.dK (DD D))) = HL at *
      have keep : (0 < x.2 → x.1.2 ∈ S → x.1.1 ∈ S') → HL dd = some (.frz ob (.dK (DD D))) ∧ (∃ (S'' : List Nat) (y6' y7' : Option V), [some (V.ref dd), some (.ref pd), some (.ref od), some (.ref qd), some (.str (tx S')), y5, y6, some (.str (pr x.1.1 x.1.2))] = [some (V.ref dd), some (.ref pd), some (.ref od), some (.ref qd), some (.str (tx S'')), y5, y6', y7'] ∧ Safe P F S'' ∧ (∀ p ∈ S, p ∈ S'') ∧ (∀ x ∈ D.take (m + 1), 0 < x.2 → x.1.2 ∈ S → x.1.1 ∈ S'') ∧ H = upd HL dd (.dK (DD D))) := fun h =>
        ⟨endt, S', _, _, rfl, sf', sub, fun y hy => (take_in hx hy).elim (got y) fun z => by rw [z]; exact h, back.symm⟩
      refine ⟨_, rfl, _, rfl, dd, _, rfl, gd, _, _, rfl, rfl, _, rfl, ?_⟩
      by_cases x0 : 0 < x.2
      · refine iteY x0 ⟨_, rfl, _, 1, x.1.2, rfl, rfl, pr_small _ _, ix1 _ _, _, rfl, x.1.2, _, rfl, rfl, _, rfl, ?_⟩
        rw [tx_cps]
        by_cases h2 : x.1.2 ∈ S'
        · refine iteY h2 ⟨_, rfl, _, 0, x.1.1, rfl, rfl, pr_small _ _, ix0 _ _, _, rfl, x.1.1, _, rfl, rfl, _, rfl, ?_⟩
          rw [tx_cps]
          by_cases h1 : x.1.1 ∈ S'
          · exact iteE h1 (keep fun _ _ => h1)
          · have c := (fin.cov x hm x0).1
            have sf2 : Safe P F (S' ++ [x.1.1]) := by
              refine ⟨?_, fun p hp => ?_, fun p hp hF => List.mem_append.mpr (.inl (sf'.out p hp hF))⟩
              · rw [List.nodup_append]
                refine ⟨sf'.nd, by simp, fun a ha b hb e => ?_⟩
                rw [show b = x.1.1 by simpa using hb] at e
                exact h1 (e ▸ ha)
              · rcases List.mem_append.mp hp with z | z
                · exact sf'.inP p z
                · rw [show p = x.1.1 by simpa using z]
                  exact c
            refine iteU h1 ⟨_, rfl, _, rfl, _, 0, x.1.1, rfl, rfl, pr_small _ _, ix0 _ _, tx S', sg x.1.1, rfl, rfl, ?_, endt, S' ++ [x.1.1], y6, some (.str (pr x.1.1 x.1.2)), ?_, sf2, fun p hp => List.mem_append.mpr (.inl (sub p hp)), fun y hy y0 y2 => ?_, back.symm⟩
            · rw [tx_len, tx_len]
              have z := sf'.len hP6
              exact Nat.le_of_lt (small1000 (by simp only [List.length_cons, List.length_nil]; omega))
            · rw [← tx_app]
              rfl
            · rcases take_in hx hy with z | z
              · exact List.mem_append.mpr (.inl (got y z y0 y2))
              · rw [z]
                exact List.mem_append.mpr (.inr (by simp))
        · exact iteN h2 (keep fun _ z => absurd (sub _ z) h2)
      · exact iteN x0 (keep fun z => absurd z x0)
    · rintro σ Hu ⟨S', y6, y7, rfl, sf', sub, got, rfl⟩
      rw [DD_len, List.take_length] at got
      refine ⟨S', _, _, _, rfl, sf', ?_, rfl⟩
      rcases Safe.round fin sf sub got with z | z
      · rcases hS with y | y
        · exact .inl (by omega)
        · exact .inr fun p hp => sub p (y p hp)
      · exact .inr fun p hp => sub p (z p hp)
  · rintro σ Hu ⟨S, y5, y6, y7, rfl, sf, hS, rfl⟩
    have all : ∀ p ∈ P, p ∈ S := by
      rcases hS with z | z
      · exact sf.all hP6 z
      · exact z
    refine st_seq (for_keys (fun H Q q => ⟨_, rfl, q⟩) ck.hp (fun m σ Hu => (∃ y5, σ = [some (.ref dd), some (.ref pd), some (.ref od), some (.ref qd), some (.str (tx S)), y5, y6, y7]) ∧ H = Hu) ⟨⟨_, rfl⟩, rfl⟩ (fun m σ Hu h => by rw [← h.2]; exact ck.hp) ?_ ?_)
    · rintro m k v ob σ Hu hk ⟨⟨y5, rfl⟩, rfl⟩
      obtain ⟨p, hp, rfl, rfl⟩ := PD_get hk
      have hm := List.mem_of_getElem? hp
      refine ⟨_, rfl, _, rfl, p, _, rfl, rfl, _, rfl, ?_⟩
      rw [tx_cps]
      exact iteE (all p hm) ⟨upd_same, ⟨_, rfl⟩, (upd_back ck.hp).symm⟩
    · rintro σ Hu ⟨⟨y5, rfl⟩, rfl⟩
      exact q H (Same.refl H)
end
end K72
end
section
set_option Elab.async false
set_option linter.all false
set_option maxRecDepth 100000
set_option maxHeartbeats 4000000
set_option exponentiation.threshold 3000
namespace K72
open PySem PySem.Spec PyProof.Rows L2
section
variable {P : Program} {w : World} {K : PySem.W.Frag} {mg : Str → Option Value} {base : Heap}
/-! _law_waves_fit: 0 _law_purses_here, 1 _law_owes_here, 2 _law_paid, 3 _law_waves, 4 _law_named, 5 _law_text, 6 _law_k, 7 _law_party -/
abbrev n48 : List Str := ["_law_purses_here", "_law_owes_here", "_law_paid", "_law_waves", "_law_named", "_law_text", "_law_k", "_law_party"]
theorem sc48 : FnScope n48 ["_law_purses_here", "_law_owes_here", "_law_paid", "_law_waves"] (defScope s48) := ⟨rfl, rfl, rfl, by decide +kernel, rfl, by decide +kernel, by decide +kernel⟩
def spWaves : Sp := fun vs H Q _ => ∃ (dd pd od qd wt : Addr) (D : List K72M.Debt) (P : List Nat) (e num den s : Nat → Int) (sc : Int) (t : Nat → Addr) (F : List Nat) (W : List (List Nat)), vs = [.ref pd, .ref od, .ref qd, .ref wt] ∧ Chk H dd pd od qd t D P e num den ∧ K72M.Final D P e F W s sc num den ∧
  H wt = some (.tup (W.map fun G => V.str (tx G))) ∧ ∀ H', Same H H' → Q (.bl true) H'
theorem ok_law_waves_fit (F : Here K mg "_law_waves_fit" s48) (T : Txt K mg)
    (g__law_pays_all : Fn P w K mg base 1 "_law_pays_all" ["_law_owes_here", "_law_paid", "_law_party"] spPays) : Fn P w K mg base 2 "_law_waves_fit" ["_law_purses_here", "_law_owes_here", "_law_paid", "_law_waves"] spWaves := by
  refine F.fn sc48 (fun _ _ _ _ _ _ us hl => match us, hl with | [_, _, _, _], _ => rfl) (fun vs H Q E h => by obtain ⟨_, _, _, _, _, _, _, _, _, _, _, _, _, _, _, rfl, _⟩ := h; rfl) fun f cdv A outer s H vs Q E hr h => ?_
  have hu := hu_of hr
  obtain ⟨dd, pd, od, qd, wt, D, P, e, num, den, sh, sc, t, F, W, rfl, ck, fin, hw, q⟩ := h
  have hP6 : P.length ≤ 6 := List.Nodup.length_le_of_subset fin.purse.nd fin.purse.inA
  have hF6 : F.length ≤ 6 := Nat.le_trans (List.Nodup.length_le_of_subset fin.nd fun p hp => (fin.fail p hp).1) hP6
  refine ⟨_, (
    (pss_cons (ps_if (pt_not (pt_val (pe_callB call_isi (by rfl) T.isinstance (by decide +kernel) (pa_cons (pv 3) (pa_cons (pe_bltn (v := .ty "tuple") rfl T.tuple (by decide +kernel) rfl) pa_nil))))) 
      (pss_one (ps_ret pe_bl)) pss_nil)
    (pss_cons (ps_set (i := 4) sc48.nd rfl (Or.inl rfl) pe_str)
    (pss_cons (ps_for PassesOwn.never rfl (pi_tup (pv 3)) (pg_name (i := 5) sc48.nd rfl (Or.inl rfl)) 
      (pss_cons (ps_if (PW.pt (pw_or (pt_not (pt_val (pe_callB call_isi (by rfl) T.isinstance (by decide +kernel) (pa_cons (pv 5) (pa_cons (pe_bltn (v := .ty "str") rfl T.str (by decide +kernel) rfl) pa_nil))))) (pw_or1 (pt_cmpR op_eq (pe_callB call_len_str (by rfl) T.len (by decide +kernel) (pa_cons (pv 5) pa_nil)) pe_int (nomark _))))) 
        (pss_one (ps_ret pe_bl)) pss_nil)
      (pss_one (ps_for PassesOwn.never rfl (pi_range1 rfl T.range (pa_cons (pe_callB call_len_str (by rfl) T.len (by decide +kernel) (pa_cons (pv 5) pa_nil)) pa_nil)) (pg_name (i := 6) sc48.nd rfl (Or.inl rfl)) 
        (pss_cons (ps_if (PW.pt (pw_or (pt_cmpR op_in_sign (pe_ix ix_str (pv 5) (pv 6) (fun _ _ => rfl)) (pv 4) rfl) (pw_or1 (PW.pt (pw_and (pt_cmpR op_gt (pv 6) pe_int (nomark _)) (pw_and1 (pt_cmpR op_ge_str (pe_ix ix_str (pv 5) (pe_op op_sub (pv 6) pe_int) (fun _ _ => rfl)) (pe_ix ix_str (pv 5) (pv 6) (fun _ _ => rfl)) (nomark _)))))))) 
          (pss_one (ps_ret pe_bl)) pss_nil)
        (pss_one (ps_set (i := 4) sc48.nd rfl (Or.inl rfl) (pe_op op_add_str (pv 4) (pe_ix ix_str (pv 5) (pv 6) (fun _ _ => rfl))))))))))
    (pss_cons (ps_for PassesOwn.never rfl (pi_range1 rfl T.range (pa_cons (pe_callB call_len_str (by rfl) T.len (by decide +kernel) (pa_cons (pv 4) pa_nil)) pa_nil)) (pg_name (i := 6) sc48.nd rfl (Or.inl rfl)) 
      (pss_one (ps_if (pt_cmp (pc_dnotin hu (pe_ix ix_str (pv 4) (pv 6) (fun _ _ => rfl)) (pv 0))) 
        (pss_one (ps_ret pe_bl)) pss_nil)))
    (pss_cons (ps_lock (ps_for PassesOwn.never rfl (pi_keys (pv 0)) (pg_name (i := 7) sc48.nd rfl (Or.inl rfl)) 
      (pss_one (ps_if (pt_cmpR op_eq (pe_fn g__law_pays_all (hr.mono (by decide)) rfl (pa_cons (pv 1) (pa_cons (pv 2) (pa_cons (pv 7) pa_nil)))) (pe_cmpR op_in_sign (pv 7) (pv 4) rfl) (nomark _)) 
        (pss_one (ps_ret pe_bl)) pss_nil))))
    (pss_one (ps_ret pe_bl)))))))), ?_⟩
  refine ⟨_, rfl, _, _, _, _, true, rfl, .ty "tuple", .base (.tup hw), kit_ty (by decide +kernel), _, rfl, iteF ?_⟩
  -- the texts
  refine st_seq ?_
  show tSeq _ _ _ _ _
  refine st_seq ⟨_, rfl, wt, rfl, ⟨_, SqT.of hw⟩, ?_⟩
  refine for_it (walk_tup (xs := W.map fun G => V.str (tx G))) (fun m σ Hu => (∃ y5 y6 y7, σ = [some (.ref pd), some (.ref od), some (.ref qd), some (.ref wt), some (.str (tx (W.take m).flatten)), y5, y6, y7]) ∧ H = Hu)
    ⟨⟨none, none, none, rfl⟩, rfl⟩ (fun _ _ _ _ h => by rw [← h.2]; exact SqT.of hw) ?_ ?_
  · rintro m x σ Hu Hu' hm ⟨⟨y5, y6, y7, rfl⟩, eH⟩ ⟨eH2, hx⟩
    obtain rfl : H = Hu' := by rw [eH, eH2]
    rw [List.getElem?_map] at hx
    obtain ⟨G, hG, rfl⟩ : ∃ G, W[m]? = some G ∧ x = V.str (tx G) := by
      cases z : W[m]? with
      | none => rw [z] at hx; cases hx
      | some G => rw [z] at hx; exact ⟨G, rfl, (Option.some.inj hx).symm⟩
    have hGm := List.mem_of_getElem? hG
    obtain ⟨G0, Glt⟩ := fin.each G hGm
    have fl : (W.take (m + 1)).flatten = (W.take m).flatten ++ G := by
      rw [List.take_add_one, hG, List.flatten_append]
      show _ ++ (G ++ []) = _
      rw [List.append_nil]
    have nd : ((W.take m).flatten ++ G).Nodup := by
      rw [← fl]
      have z := fin.nd
      rw [← fin.flat, ← List.take_append_drop (m + 1) W, List.flatten_append, List.nodup_append] at z
      exact z.1
    have ln : ((W.take m).flatten ++ G).length ≤ 6 := by
      have z := congrArg List.length fin.flat
      rw [← List.take_append_drop (m + 1) W, List.flatten_append, List.length_append, fl] at z
      omega
    rw [List.length_append] at ln
    generalize (W.take m).flatten = N0 at *
    have Gl : 0 < G.length := List.length_pos_iff.mpr G0
    have sm : (tx G).length ≤ sizeLine := tx_small (by omega)
    refine ⟨_, rfl, _, _, _, _, true, rfl, .ty "str", .base (.str _), kit_ty (by decide +kernel), _, rfl, iteF ?_⟩
    refine ⟨_, rfl, tx G, rfl, sm, rfl, _, rfl, iteN (fun z => by have := V.int.inj z; rw [tx_len] at this; omega) ?_⟩
    refine ⟨_, rfl, tx G, rfl, sm, ((tx G).length : Int), rfl, by rw [tx_len]; omega, by rw [tx_len]; omega, ?_⟩
    rw [tx_len, show ((G.length : Int)).toNat = G.length by simp]
    refine for_it (walk_range (lo := 0) (n := G.length)) (fun k σ Hu => (∃ y6, σ = [some (.ref pd), some (.ref od), some (.ref qd), some (.ref wt), some (.str (tx (N0 ++ G.take k))), some (.str (tx G)), y6, y7]) ∧ H = Hu)
      ⟨⟨y6, by rw [List.take_zero, List.append_nil]; rfl⟩, rfl⟩ (fun _ _ _ _ _ => trivial) ?_ ?_
    · rintro k x σ Hu Hu' hk ⟨⟨y6, rfl⟩, eH⟩ ⟨eH2, hx⟩
      obtain rfl : H = Hu' := by rw [eH, eH2]
      obtain rfl : x = V.int (k : Int) := by
        rw [hx]
        show V.int (0 + (k : Int)) = V.int (k : Int)
        rw [Int.zero_add]
      obtain ⟨c, hc⟩ : ∃ c, G[k]? = some c := ⟨G[k], List.getElem?_eq_getElem hk⟩
      have i1 : atI (tx G).cps.toList (k : Int) = some c := atI_nat (by rw [tx_cps]; exact hc)
      have gt1 : G.take (k + 1) = G.take k ++ [c] := by
        rw [List.take_add_one, hc]
        rfl
      have new : c ∉ N0 ++ G.take k := fun z => by
        rw [← List.take_append_drop (k + 1) G, gt1, ← List.append_assoc, List.nodup_append] at nd
        have n2 := nd.1
        rw [← List.append_assoc, List.nodup_append] at n2
        exact n2.2.2 c z c (by simp) rfl
      have ee : tx (N0 ++ G.take k) ++ sg c = tx (N0 ++ G.take (k + 1)) := by rw [gt1, tx_app, List.append_assoc]
      have sz : (tx (N0 ++ G.take k)).length + (sg c).length ≤ sizeLine := by
        rw [tx_len, tx_len, List.length_append, List.length_take]
        exact Nat.le_of_lt (small1000 (by simp only [List.length_cons, List.length_nil]; omega))
      have step : (∃ y6 : Option V, ([some (V.ref pd), some (.ref od), some (.ref qd), some (.ref wt), some (.str (tx (N0 ++ G.take k) ++ sg c)), some (.str (tx G)), some (.int (k : Int)), y7] : L2.St) = [some (.ref pd), some (.ref od), some (.ref qd), some (.ref wt), some (.str (tx (N0 ++ G.take (k + 1)))), some (.str (tx G)), y6, y7]) := ⟨_, by rw [ee]⟩
      refine ⟨_, rfl, _, rfl, _, _, c, rfl, rfl, sm, i1, _, rfl, c, _, rfl, rfl, _, rfl, ?_⟩
      rw [tx_cps]
      refine iteN new ?_
      match k, hk, hc, i1, gt1, new, ee, sz, step with
      | 0, _, _, i1, _, _, _, sz, step =>
        refine ⟨_, rfl, _, _, rfl, rfl, _, rfl, iteN (by decide) ?_⟩
        exact ⟨_, rfl, _, rfl, _, rfl, _, _, c, rfl, rfl, sm, i1, tx _, sg c, rfl, rfl, sz, step, rfl⟩
      | j + 1, hk, hc, i1, _, _, _, sz, step =>
        obtain ⟨c0, hc0⟩ : ∃ c, G[j]? = some c := ⟨G[j], List.getElem?_eq_getElem (by omega)⟩
        have i0 : atI (tx G).cps.toList (((j + 1 : Nat) : Int) - 1) = some c0 := by
          rw [show (((j + 1 : Nat) : Int) - 1) = (j : Int) by omega]
          exact atI_nat (by rw [tx_cps]; exact hc0)
        have lt : c0 < c := by
          obtain ⟨a1, a2⟩ := List.getElem?_eq_some_iff.mp hc0
          obtain ⟨b1, b2⟩ := List.getElem?_eq_some_iff.mp hc
          rw [← a2, ← b2]
          exact List.pairwise_iff_getElem.mp Glt j (j + 1) a1 b1 (by omega)
        refine ⟨_, rfl, _, _, rfl, rfl, _, rfl, iteY (by show (0 : Int) < ((j + 1 : Nat) : Int); omega) ?_⟩
        refine ⟨_, rfl, _, rfl, _, _, rfl, rfl, _, _, c0, rfl, rfl, sm, i0, _, rfl, _, rfl, _, _, c, rfl, rfl, sm, i1, _, _, rfl, rfl, _, rfl, iteE (List.Lex.rel lt) ?_⟩
        exact ⟨_, rfl, _, rfl, _, rfl, _, _, c, rfl, rfl, sm, i1, tx _, sg c, rfl, rfl, sz, step, rfl⟩
    · rintro σ Hu ⟨⟨y6, rfl⟩, rfl⟩
      rw [List.take_length]
      exact ⟨⟨_, _, _, by rw [fl]⟩, rfl⟩
  rintro σ Hu ⟨⟨y5, y6, y7, rfl⟩, rfl⟩
  rw [List.length_map, List.take_length, fin.flat]
  have smF : (tx F).length ≤ sizeLine := tx_small (by omega)
  -- each named party has a purse
  refine st_seq ⟨_, rfl, tx F, rfl, smF, ((tx F).length : Int), rfl, by rw [tx_len]; omega, by rw [tx_len]; omega, ?_⟩
  rw [tx_len, show ((F.length : Int)).toNat = F.length by simp]
  refine for_it (walk_range (lo := 0) (n := F.length)) (fun k σ Hu => (∃ y6, σ = [some (.ref pd), some (.ref od), some (.ref qd), some (.ref wt), some (.str (tx F)), y5, y6, y7]) ∧ H = Hu) ⟨⟨y6, rfl⟩, rfl⟩ (fun _ _ _ _ _ => trivial) ?_ ?_
  · rintro k x σ Hu Hu' hk ⟨⟨y6, rfl⟩, eH⟩ ⟨eH2, hx⟩
    obtain rfl : H = Hu' := by rw [eH, eH2]
    obtain rfl : x = V.int (k : Int) := by
      rw [hx]
      show V.int (0 + (k : Int)) = V.int (k : Int)
      rw [Int.zero_add]
    obtain ⟨c, hc⟩ : ∃ c, F[k]? = some c := ⟨F[k], List.getElem?_eq_getElem hk⟩
    have i1 : atI (tx F).cps.toList (k : Int) = some c := atI_nat (by rw [tx_cps]; exact hc)
    have cP := (fin.fail c (List.mem_of_getElem? hc)).1
    have g : DGet H pd (V.str (sg c)) (some (.int (e c))) := by
      have := DGet.k (k := Sum.inr (sg c)) ck.hp
      rw [PD_in cP] at this
      exact this
    refine ⟨_, rfl, _, rfl, _, _, c, rfl, rfl, smF, i1, _, rfl, pd, _, rfl, g, _, rfl, iteF ⟨⟨_, rfl⟩, rfl⟩⟩
  rintro σ Hu ⟨⟨y6, rfl⟩, rfl⟩
  refine st_seq (for_keys (fun H Q q => ⟨_, rfl, q⟩) ck.hp (fun m σ Hu => (∃ y7, σ = [some (.ref pd), some (.ref od), some (.ref qd), some (.ref wt), some (.str (tx F)), y5, y6, y7]) ∧ H = Hu) ⟨⟨_, rfl⟩, rfl⟩ (fun m σ Hu h => by rw [← h.2]; exact ck.hp) ?_ ?_)
  · rintro m k v ob σ Hu hk ⟨⟨y7, rfl⟩, rfl⟩
    obtain ⟨p, hp, rfl, rfl⟩ := PD_get hk
    have hm := List.mem_of_getElem? hp
    have hoL := in_lock (o := .frz ob (.dK (PD P fun x => V.int (e x)))) ck.ho ck.n4
    have prL : Prs (upd H pd (.frz ob (.dK (PD P fun x => V.int (e x))))) qd t P num den := ck.pr.lock ck.n5 fun x hx => ne_dic (ck.pr.prs x hx) ck.hp
    have endt : (upd H pd (.frz ob (.dK (PD P fun x => V.int (e x))))) pd = some (.frz ob (.dK (PD P fun x => V.int (e x)))) := upd_same
    have back : upd (upd H pd (.frz ob (.dK (PD P fun x => V.int (e x))))) pd (.dK (PD P fun x => V.int (e x))) = H := upd_back ck.hp
    generalize upd H pd (.frz ob (.dK (PD P fun x => V.int (e x)))) = HL at *
    refine ⟨_, rfl, _, rfl, _, rfl, od, qd, P, K72M.owe D, num, den, t, p, rfl, hoL, prL.dic, hm, prL.prs p hm, pow_lift (owe_b fin.raw p) (by decide), pow_lift (Final.db fin p) (by decide), ?_⟩
    refine ⟨_, rfl, _, rfl, p, _, rfl, rfl, rfl, _, rfl, iteN (fun z => ?_) ⟨endt, ⟨_, rfl⟩, back.symm⟩⟩
    have z := V.bl.inj z
    rw [tx_cps] at z
    have a := Final.pays fin p
    by_cases hF : p ∈ F
    · rw [decide_eq_true hF] at z
      exact a.mp (of_decide_eq_true z) hF
    · rw [decide_eq_false hF, decide_eq_true (a.mpr hF)] at z
      cases z
  · rintro σ Hu ⟨⟨y7, rfl⟩, rfl⟩
    exact q H (Same.refl H)
end
end K72
end
section
set_option Elab.async false
set_option linter.all false
set_option maxRecDepth 100000
set_option maxHeartbeats 4000000
set_option exponentiation.threshold 3000
namespace K72
open PySem PySem.Spec PyProof.Rows L2
theorem own_turn {H1 Hu H2 : Hp} {pd od : Addr} {ob : Obj} {u x : HO} (h1 : H1 pd = some u) (ho : H1 od = none) (s : Same H1 Hu) (s2 : Same (upd Hu pd (.frz ob u)) H2) : Same H1 (upd (upd H2 od x) pd u) := fun a o ha => by
  by_cases e : a = pd
  · subst e
    rw [upd_same, ← ha, h1]
  · rw [upd_ne e, upd_ne (ne_of_none ha ho)]
    exact s2 _ _ (by rw [upd_ne e]; exact s _ _ ha)
theorem PD_take_put {P : List Nat} {m p : Nat} {f : Nat → V} (nd : P.Nodup) (h : P[m]? = some p) : putK (PD (P.take m) f) (Sum.inr (sg p)) (f p) = PD (P.take (m + 1)) f := by
  have tk : P.take (m + 1) = P.take m ++ [p] := by
    rw [List.take_add_one, h]
    rfl
  have new : p ∉ P.take m := fun z => by
    rw [← List.take_append_drop (m + 1) P, tk, List.nodup_append] at nd
    have n := nd.1
    rw [List.nodup_append] at n
    exact n.2.2 p z p (by simp) rfl
  rw [PD_put_new new, tk]
  refine PD_congr fun q _ => ?_
  by_cases e : q = p
  · rw [if_pos e, e]
  · rw [if_neg e]
section
variable {P : Program} {w : World} {K : PySem.W.Frag} {mg : Str → Option Value} {base : Heap}
/-! _law_cleared: 0 _law_debts_here, 1 _law_purses_here, 2 _law_answer, 3 _law_owes_here, 4 _law_party -/
abbrev n49 : List Str := ["_law_debts_here", "_law_purses_here", "_law_answer", "_law_owes_here", "_law_party"]
theorem sc49 : FnScope n49 ["_law_debts_here", "_law_purses_here", "_law_answer"] (defScope s49) := ⟨rfl, rfl, rfl, by decide +kernel, rfl, by decide +kernel, by decide +kernel⟩
def spCleared : Sp := fun vs H Q _ => ∃ (dd pd p qd wt : Addr) (D : List K72M.Debt) (P : List Nat) (e num den s : Nat → Int) (sc : Int) (t : Nat → Addr) (F : List Nat) (W : List (List Nat)), vs = [.ref dd, .ref pd, .ref p] ∧ H dd = some (.dK (DD D)) ∧ H pd = some (.dK (PD P fun x => .int (e x))) ∧
  Ans H p qd wt t P W num den ∧ K72M.Final D P e F W s sc num den ∧ dd ≠ pd ∧ qd ≠ dd ∧ qd ≠ pd ∧ ∀ H', Same H H' → Q (.bl true) H'
theorem ok_law_cleared (F : Here K mg "_law_cleared" s49) (T : Txt K mg) (g__law_parts_fit : Fn P w K mg base 2 "_law_parts_fit" ["_law_purses_here", "_law_paid"] spParts) (g__law_owes : Fn P w K mg base 1 "_law_owes" ["_law_debts_here", "_law_party"] spOwes)
    (g__law_clears : Fn P w K mg base 2 "_law_clears" ["_law_debts_here", "_law_purses_here", "_law_owes_here", "_law_paid"] spClears) (g__law_greatest : Fn P w K mg base 2 "_law_greatest" ["_law_debts_here", "_law_purses_here", "_law_owes_here", "_law_paid"] spClears)
    (g__law_waves_fit : Fn P w K mg base 2 "_law_waves_fit" ["_law_purses_here", "_law_owes_here", "_law_paid", "_law_waves"] spWaves) : Fn P w K mg base 3 "_law_cleared" ["_law_debts_here", "_law_purses_here", "_law_answer"] spCleared := by
  refine F.fn sc49 (fun _ _ _ _ _ _ us hl => match us, hl with | [_, _, _], _ => rfl) (fun vs H Q E h => by obtain ⟨_, _, _, _, _, _, _, _, _, _, _, _, _, _, _, rfl, _⟩ := h; rfl) fun f cdv A outer s H vs Q E hr h => ?_
  have hu := hu_of hr
  obtain ⟨dd, pd, p, qd, wt, D, P, e, num, den, sh, sc, t, F, W, rfl, hd, hp, an, fin, n1, n3, n5, q⟩ := h
  refine ⟨_, (
    (pss_cons (ps_if (PW.pt (pw_or (pt_not (pt_val (pe_callB call_isi (by rfl) T.isinstance (by decide +kernel) (pa_cons (pv 2) (pa_cons (pe_bltn (v := .ty "tuple") rfl T.tuple (by decide +kernel) rfl) pa_nil))))) (pw_or (pt_cmpR op_ne (pe_callB call_len_seq (by rfl) T.len (by decide +kernel) (pa_cons (pv 2) pa_nil)) pe_int (nomark _)) (pw_or1 (pt_not (pt_val (pe_fn g__law_parts_fit (hr.mono (by decide)) rfl (pa_cons (pv 1) (pa_cons (pe_ix ix_tup (pv 2) pe_int (fun _ _ => rfl)) pa_nil))))))))) 
      (pss_one (ps_ret pe_bl)) pss_nil)
    (pss_cons (ps_set (i := 3) sc49.nd rfl (Or.inl rfl) pe_dnewK)
    (pss_cons (ps_lock (ps_for PassesOwn.never rfl (pi_keys (pv 1)) (pg_name (i := 4) sc49.nd rfl (Or.inl rfl)) 
      (pss_one (ps_dput hu (pv 3) (pv 4) (pe_fn g__law_owes (hr.mono (by decide)) rfl (pa_cons (pv 0) (pa_cons (pv 4) pa_nil))) rfl))))
    (pss_cons (ps_if (PW.pt (pw_or (pt_not (pt_val (pe_fn g__law_clears (hr.mono (by decide)) rfl (pa_cons (pv 0) (pa_cons (pv 1) (pa_cons (pv 3) (pa_cons (pe_ix ix_tup (pv 2) pe_int (fun _ _ => rfl)) pa_nil))))))) (pw_or1 (pt_not (pt_val (pe_fn g__law_greatest (hr.mono (by decide)) rfl (pa_cons (pv 0) (pa_cons (pv 1) (pa_cons (pv 3) (pa_cons (pe_ix ix_tup (pv 2) pe_int (fun _ _ => rfl)) pa_nil)))))))))) 
      (pss_one (ps_ret pe_bl)) pss_nil)
    (pss_one (ps_ret (pe_fn g__law_waves_fit (hr.mono (by decide)) rfl (pa_cons (pv 1) (pa_cons (pv 3) (pa_cons (pe_ix ix_tup (pv 2) pe_int (fun _ _ => rfl)) (pa_cons (pe_ix ix_tup (pv 2) pe_int (fun _ _ => rfl)) pa_nil)))))))))))), ?_⟩
  refine ⟨_, rfl, _, _, _, _, true, rfl, .ty "tuple", .base (.tup an.top), kit_ty (by decide +kernel), _, rfl, iteF ?_⟩
  refine ⟨_, rfl, p, _, rfl, .inr (SqT.of an.top), rfl, _, rfl, iteF ?_⟩
  refine ⟨_, rfl, _, rfl, p, _, 0, .ref qd, rfl, rfl, SqT.of an.top, rfl, pd, qd, P, e, num, den, t, rfl, hp, n5, ⟨an.dic, an.prs⟩, fin.purse.inA, fun x => ⟨fin.num0 x, fin.den0 x, pow_lift (Final.db fin x) (by decide), fin.low x⟩, fun H1 s1 => ⟨_, rfl, iteF ?_⟩⟩
  intro od ho
  have hd1 := s1 _ _ hd
  have hp1 := s1 _ _ hp
  have o1 : od ≠ dd := (ne_of_none hd1 ho).symm
  have o2 : od ≠ pd := (ne_of_none hp1 ho).symm
  have sO := same_new (o := .dK []) ho
  refine st_seq (for_keys (fun H Q q => ⟨_, rfl, q⟩) (by rw [upd_ne o2.symm]; exact hp1) (fun m σ Hu => (∃ y4, σ = [some (.ref dd), some (.ref pd), some (.ref p), some (.ref od), y4]) ∧ Same H1 Hu ∧ Hu od = some (.dK (PD (P.take m) fun x => .int (K72M.owe D x))))
    ⟨⟨none, rfl⟩, sO, by rw [upd_same]; rfl⟩ (fun m σ Hu h => h.2.1 _ _ hp1) ?_ ?_)
  · rintro m k v ob σ Hu hk ⟨⟨y4, rfl⟩, s2, h2⟩
    obtain ⟨x, hx, rfl, rfl⟩ := PD_get hk
    have hl := fin.raw.len
    have hm := List.mem_of_getElem? hx
    refine ⟨_, rfl, _, rfl, dd, D, x, rfl, in_lock (s2 _ _ hd1) n1, fin.raw.nd, by omega, fun H3 s3 => ?_⟩
    have h3 := s3 _ _ (in_lock (o := .frz ob (.dK (PD P fun x => V.int (e x)))) h2 o2)
    refine ⟨_, rfl, _, rfl, od, _, rfl, DPut.k (k := Sum.inr (sg x)) h3 (by rw [PD_len, List.length_take]; exact small1000 (by have := List.Nodup.length_le_of_subset fin.purse.nd fin.purse.inA; have : K72M.abc.length = 6 := rfl; omega)), ?_⟩
    refine ⟨by rw [upd_ne o2.symm]; exact s3 _ _ upd_same, ⟨_, rfl⟩, own_turn hp1 ho s2 s3, ?_⟩
    rw [upd_ne o2, upd_same, PD_take_put (f := fun x => V.int (K72M.owe D x)) fin.purse.nd hx]
  · rintro σ Hu ⟨⟨y4, rfl⟩, s2, h2⟩
    rw [PD_len, List.take_length] at h2
    have s02 := s1.trans s2
    have ck : Chk Hu dd pd od qd t D P e num den := ⟨s02 _ _ hd, s02 _ _ hp, h2, ⟨s02 _ _ an.dic, fun x hx => s02 _ _ (an.prs x hx)⟩, n1, o1, n3, o2, n5⟩
    have an2 := an.mono s02
    refine ⟨_, rfl, _, rfl, _, rfl, _, rfl, p, _, 0, .ref qd, rfl, rfl, SqT.of an2.top, rfl, dd, pd, od, qd, D, P, e, num, den, sh, sc, t, F, W, rfl, ck, fin, fun H3 s3 => ⟨_, rfl, iteF ?_⟩⟩
    have ck3 := ck.mono s3
    have an3 := an2.mono s3
    refine ⟨_, rfl, _, rfl, _, rfl, _, rfl, p, _, 0, .ref qd, rfl, rfl, SqT.of an3.top, rfl, dd, pd, od, qd, D, P, e, num, den, sh, sc, t, F, W, rfl, ck3, fin, fun H4 s4 => ⟨_, rfl, iteF ?_⟩⟩
    have ck4 := ck3.mono s4
    have an4 := an3.mono s4
    refine ⟨_, rfl, _, rfl, _, rfl, p, _, 0, .ref qd, rfl, rfl, SqT.of an4.top, rfl, _, rfl, p, _, 1, .ref wt, rfl, rfl, SqT.of an4.top, rfl, dd, pd, od, qd, wt, D, P, e, num, den, sh, sc, t, F, W, rfl, ck4, fin, an4.wav, fun H5 s5 => ?_⟩
    exact q H5 (((s02.trans s3).trans s4).trans s5)
end
end K72
end
section
set_option Elab.async false
set_option linter.all false
set_option maxRecDepth 100000
set_option maxHeartbeats 4000000
set_option exponentiation.threshold 3000
namespace K72
open PySem PySem.Spec PyProof.Rows L2
/-! ### the law's own words -/
section
variable {l : List Nat} {D : List K72M.Debt} {P : List Nat} {e : Nat → Int}
theorem Sta.rawM (st : Sta l D P e) (hl : ∀ p ∈ l, p ∈ K72M.abc) : K72M.Raw D := st.raw.raw hl
theorem Sta.purse (st : Sta l D P e) (hl : ∀ p ∈ l, p ∈ K72M.abc) : K72M.Purse P e := ⟨st.nd, fun p hp => hl _ (st.inl p hp), st.lo, st.hi⟩
theorem clear_go {H : Hp} {d pd : Addr} {Q : VK} {E : XK} (st : Sta l D P e) (hl : ∀ p ∈ l, p ∈ K72M.abc) (hd : H d = some (.dK (DD D))) (hp : H pd = some (.dK (PD P fun q => .int (e q))))
    (q : ∀ H' p qd wt t, Same H H' → H p = none → H qd = none → Ans H' p qd wt t P (K72M.WM D P e) (K72M.numM D P e) (K72M.denM D P e) → Q (.ref p) H') : spClear [.ref d, .ref pd] H Q E :=
  ⟨d, pd, D, P, e, rfl, hd, hp, st.rawM hl, st.purse hl, st.cov, q⟩
theorem cleared_go {H : Hp} {d pd p qd wt : Addr} {t : Nat → Addr} {Q : VK} {E : XK} (st : Sta l D P e) (hl : ∀ p ∈ l, p ∈ K72M.abc) (hd : H d = some (.dK (DD D))) (hp : H pd = some (.dK (PD P fun q => .int (e q))))
    (an : Ans H p qd wt t P (K72M.WM D P e) (K72M.numM D P e) (K72M.denM D P e)) (n1 : d ≠ pd) (n2 : qd ≠ d) (n3 : qd ≠ pd) (q : ∀ H', Same H H' → Q (.bl true) H') : spCleared [.ref d, .ref pd, .ref p] H Q E :=
  ⟨d, pd, p, qd, wt, D, P, e, _, _, _, _, t, _, _, rfl, hd, hp, an, K72M.final_of (st.rawM hl) (st.purse hl) st.cov, n1, n2, n3, q⟩
theorem Sta.len (st : Sta l D P e) (hl : ∀ p ∈ l, p ∈ K72M.abc) : D.length ≤ 36 := (st.rawM hl).len
theorem Sta.plen6 (st : Sta l D P e) (hl : ∀ p ∈ l, p ∈ K72M.abc) : P.length ≤ 6 := List.Nodup.length_le_of_subset st.nd (st.purse hl).inA
/-- one debt halved -/
theorem Sta.half (st : Sta l D P e) {D' : List K72M.Debt} (st' : Sta l D' P e) {x : K72M.Debt} (hx : x ∈ D) (hm : x.1 ∈ D'.map (·.1)) : Sta l (setD D' x.1 (x.2 / 2)) P e := by
  have a := st.raw.lo x hx
  have b := st.raw.hi x hx
  refine ⟨st'.raw.set (by omega) (by omega), st.nd, st.inl, st.lo, st.hi, fun y hy hy0 => ?_⟩
  obtain ⟨z, hz, ez⟩ := List.mem_map.mp hy
  by_cases q : z.1 = x.1
  · rw [if_pos q] at ez
    have ev := congrArg Prod.snd ez
    have ek := congrArg Prod.fst ez
    dsimp only at ev ek
    rw [← ek, q]
    exact st.cov x hx (by omega)
  · rw [if_neg q] at ez
    rw [← ez]
    exact st'.cov z hz (by rw [ez]; exact hy0)
/-- one purse halved -/
theorem Sta.halfP {D' : List K72M.Debt} {e' : Nat → Int} (st : Sta l D P e) (st' : Sta l D' P e') (p : Nat) : Sta l D' P (fun q => if q = p then e p / 2 else e' q) := by
  have a := st.lo p
  have b := st.hi p
  refine ⟨st'.raw, st.nd, st.inl, fun q => ?_, fun q => ?_, st'.cov⟩
  · have := st'.lo q
    split <;> omega
  · have := st'.hi q
    split <;> omega
end
/-! ### heaps -/
theorem cop {H : Hp} {a b : Addr} {x y : HO} (ha : H a = none) (hb : (upd H a x) b = none) : a ≠ b ∧ H b = none ∧ (upd (upd H a x) b y) a = some x ∧ (upd (upd H a x) b y) b = some y ∧ Same H (upd (upd H a x) b y) := by
  have ne : a ≠ b := ne_of_none upd_same hb
  refine ⟨ne, ?_, ?_, upd_same, (same_new ha).trans (same_new hb)⟩
  · rw [upd_ne ne.symm] at hb
    exact hb
  · rw [upd_ne ne, upd_same]
theorem sql_same {K : PySem.W.Frag} {H H' : Hp} {a : Addr} {xs : List V} (h : SqL K H a xs) (s : Same H H') : SqL K H' a xs := by
  rcases h with h | h
  · rcases h with h | ⟨o, h⟩
    · exact .inl (.inl (s _ _ h))
    · exact .inl (.inr ⟨o, s _ _ h⟩)
  · exact .inr h
/-! ### list(d.items()) -/
def Items (H : Hp) (k : Addr) (kvs : List (Key × V)) : Prop := ∃ ts : List Addr, H k = some (.lst (ts.map V.ref)) ∧ Paired (fun (t : Addr) (q : Key × V) => H t = some (.tup [kV q.1, q.2])) ts kvs
theorem paired_imp {α β : Type} {F G : α → β → Prop} (h : ∀ a b, F a b → G a b) : ∀ {as : List α} {bs : List β}, Paired F as bs → Paired G as bs
  | _, _, .nil => .nil
  | _, _, .cons r t => .cons (h _ _ r) (paired_imp h t)
theorem Items.mono {H H' : Hp} {k : Addr} {kvs : List (Key × V)} (h : Items H k kvs) (s : ∀ x o, (∀ ds, o ≠ .dK ds) → H x = some o → H' x = some o) : Items H' k kvs := by
  obtain ⟨ts, h1, h2⟩ := h
  exact ⟨ts, s _ _ (fun _ => by intro z; cases z) h1, paired_imp (fun t q e => s _ _ (fun _ => by intro z; cases z) e) h2⟩
theorem Items.same {H H' : Hp} {k : Addr} {kvs : List (Key × V)} (h : Items H k kvs) (s : Same H H') : Items H' k kvs := h.mono fun x o _ e => s x o e
theorem items_dp {K : PySem.W.Frag} {H : Hp} {α : Type} (kf : α → Key × V) (kd vd : α → PyData) : ∀ (L : List α) (ts : List Addr), (∀ x ∈ L, Dp K H (kV (kf x).1) (kd x) ∧ Dp K H (kf x).2 (vd x)) → Paired (fun (t : Addr) (q : Key × V) => H t = some (.tup [kV q.1, q.2])) ts (L.map kf) →
    DpAll K H (ts.map V.ref) (L.map fun x => .tuple [kd x, vd x])
  | [], _, _, .nil => .nil
  | x :: L, _, h, .cons r t => .cons (.tup (SqT.of r) (.cons (h x List.mem_cons_self).1 (.cons (h x List.mem_cons_self).2 .nil))) (items_dp kf kd vd L _ (fun y hy => h y (List.mem_cons_of_mem _ hy)) t)
def dataD (D : List K72M.Debt) : PyData := .list (D.map fun x => .tuple [.str (pr x.1.1 x.1.2), .int x.2])
def dataP (P : List Nat) (v : Nat → PyData) : PyData := .list (P.map fun x => .tuple [.str (sg x), v x])
theorem Items.dD {K : PySem.W.Frag} {H : Hp} {k : Addr} {D : List K72M.Debt} (h : Items H k (DD D)) : Dp K H (.ref k) (dataD D) := by
  obtain ⟨ts, h1, h2⟩ := h
  exact .lst (SqL.of h1) (items_dp _ _ _ D ts (fun x _ => ⟨.str _, .int _⟩) h2)
theorem Items.dP {K : PySem.W.Frag} {H : Hp} {k : Addr} {P : List Nat} {f : Nat → V} {v : Nat → PyData} (h : Items H k (PD P f)) (hv : ∀ x ∈ P, Dp K H (f x) (v x)) : Dp K H (.ref k) (dataP P v) := by
  obtain ⟨ts, h1, h2⟩ := h
  exact .lst (SqL.of h1) (items_dp _ _ _ P ts (fun x hx => ⟨.str _, hv x hx⟩) h2)
theorem sh_row {t : Str} {d : PyData} (h : PyData.strOk t = true) (h2 : d.canLay0 = true) : (PyData.tuple [.str t, d]).canLay0 = true := by
  show (PyData.strOk t && (d.canLay0 && true)) = true
  rw [h, h2]
  rfl
theorem de_row {t : Str} {d : PyData} (h : d.depth ≤ 1) : (PyData.tuple [.str t, d]).depth ≤ 2 := by
  show max 0 (max d.depth 0) + 1 ≤ 2
  omega
theorem sh_dD {D : List K72M.Debt} (r : K72M.Raw D) : SeqAt.shaped (dataD D) = true := shaped_list (fun d hd => by
    obtain ⟨x, hx, rfl⟩ := List.mem_map.mp hd
    refine sh_row (strOk_tx fun c hc => ?_) rfl
    rcases List.mem_cons.mp hc with z | z
    · rw [z]; exact r.in1 x hx
    · rw [List.mem_singleton.mp z]; exact r.in2 x hx) fun d hd => by
  obtain ⟨x, hx, rfl⟩ := List.mem_map.mp hd
  exact de_row (show 0 ≤ 1 from Nat.zero_le _)
theorem sh_dP {P : List Nat} {v : Nat → PyData} (hP : ∀ p ∈ P, p ∈ K72M.abc) (h1 : ∀ x ∈ P, (v x).canLay0 = true) (h2 : ∀ x ∈ P, (v x).depth ≤ 1) : SeqAt.shaped (dataP P v) = true := shaped_list (fun d hd => by
    obtain ⟨x, hx, rfl⟩ := List.mem_map.mp hd
    exact sh_row (strOk_tx fun c hc => by rw [List.mem_singleton.mp hc]; exact hP x hx) (h1 x hx)) fun d hd => by
  obtain ⟨x, hx, rfl⟩ := List.mem_map.mp hd
  exact de_row (h2 x hx)
/-- the data of an answer's dict -/
def dataA (P : List Nat) (num den : Nat → Int) : PyData := dataP P fun x => .tuple [.int (num x), .int (den x)]
theorem sh_dA {P : List Nat} {num den : Nat → Int} (hP : ∀ p ∈ P, p ∈ K72M.abc) : SeqAt.shaped (dataA P num den) = true := sh_dP hP (fun _ _ => rfl) fun _ _ => by
  show max 0 (max 0 0) + 1 ≤ 1
  omega
theorem Items.dA {K : PySem.W.Frag} {H : Hp} {k : Addr} {P : List Nat} {t : Nat → Addr} {num den : Nat → Int} (h : Items H k (PD P fun x => .ref (t x))) (ht : ∀ x ∈ P, H (t x) = some (.tup [.int (num x), .int (den x)])) : Dp K H (.ref k) (dataA P num den) :=
  h.dP fun x hx => .tup (SqT.of (ht x hx)) (.cons (.int _) (.cons (.int _) .nil))
theorem shaped_tup {ds : List PyData} (h1 : ∀ d ∈ ds, d.canLay0 = true) (h2 : ∀ d ∈ ds, d.depth ≤ 2) : SeqAt.shaped (.tuple ds) = true := by
  unfold SeqAt.shaped
  rw [Bool.and_eq_true]
  refine ⟨canAll h1, decide_eq_true ?_⟩
  have := depAll h2
  show PyData.depthAll ds + 1 ≤ 64
  omega
def dataW (W : List (List Nat)) : PyData := .tuple ((W.map tx).map PyData.str)
theorem Ans.dW {K : PySem.W.Frag} {H : Hp} {p qd wt : Addr} {t : Nat → Addr} {P : List Nat} {W : List (List Nat)} {num den : Nat → Int} (a : Ans H p qd wt t P W num den) : Dp K H (.ref wt) (dataW W) := by
  have h := a.wav
  rw [show (W.map fun G => V.str (tx G)) = (W.map tx).map V.str by rw [List.map_map]; rfl] at h
  exact .tup (SqT.of h) (dpAll_strs _)
theorem sh_dW {D : List K72M.Debt} {P : List Nat} {e : Nat → Int} {F : List Nat} {W : List (List Nat)} {s : Nat → Int} {sc : Int} {num den : Nat → Int} (f : K72M.Final D P e F W s sc num den) : SeqAt.shaped (dataW W) = true := shaped_tup (fun d hd => by
    obtain ⟨z, hz, rfl⟩ := List.mem_map.mp hd
    obtain ⟨G, hG, rfl⟩ := List.mem_map.mp hz
    refine strOk_tx fun c hc => f.purse.inA c (f.fail c ?_).1
    rw [← f.flat]
    exact List.mem_flatten.mpr ⟨G, hG, hc⟩) fun d hd => by
  obtain ⟨z, _, rfl⟩ := List.mem_map.mp hd
  exact Nat.zero_le _
end K72
end
section
set_option Elab.async false
set_option linter.all false
set_option maxRecDepth 100000
set_option maxHeartbeats 4000000
set_option exponentiation.threshold 3000
namespace K72
open PySem PySem.Spec PyProof.Rows L2
theorem same_sb {b : Addr} {H Hx H' : Hp} (s : Same H Hx) (hb : H b = none) (sb : Sb b Hx H') : Same H H' := fun x o e => sb x o (ne_of_none e hb) (s x o e)
theorem lock_put {Hu : Hp} {d g : Addr} {a x u : HO} (ne : d ≠ g) (h : Hu d = some u) : upd (upd (upd Hu d a) g x) d u = upd Hu g x := by
  funext b
  by_cases e : b = d
  · subst e
    rw [upd_same, upd_ne ne, h]
  · rw [upd_ne e]
    by_cases e2 : b = g
    · subst e2
      rw [upd_same, upd_same]
    · rw [upd_ne e2, upd_ne e2, upd_ne e]
section
variable {P : Program} {w : World} {K : PySem.W.Frag} {mg : Str → Option Value} {base : Heap}
/-! law: 0 _law_script, 1 _law_draws_here, 2 _law_place, 3 _law_parties_here, 4 _law_scale, 5 _law_base_here, 6 _law_debts_here, 7 _law_purses_here, 8 _law_given, 9 _law_coins_here, 10 _law_answer, 11 _law_kept, 12 _law_pair, 13 _law_party, 14 _law_now, 15 _law_means, 16 _law_k, 17 _law_again, 18 _law_last -/
abbrev n51 : List Str := ["_law_script", "_law_draws_here", "_law_place", "_law_parties_here", "_law_scale", "_law_base_here", "_law_debts_here", "_law_purses_here", "_law_given", "_law_coins_here", "_law_answer", "_law_kept", "_law_pair", "_law_party", "_law_now", "_law_means", "_law_k", "_law_again", "_law_last"]
theorem sc51 : FnScope n51 ["_law_script"] (defScope s51) := ⟨rfl, rfl, rfl, by decide +kernel, rfl, by decide +kernel, by decide +kernel⟩
def spLaw (K : PySem.W.Frag) : Sp := fun vs H Q _ => ∃ (a : Addr) (ns : List Int), vs = [.ref a] ∧ SqL K H a (ns.map V.int) ∧ ns.length ≤ 1000 ∧ ∀ H', Q (.bl true) H'
theorem ok_law {f : Addr} {fd : FuncData} (F : FunD K "law" "law" (defArgs s51) (defBody s51) (defScope s51) [] [] f fd) (T : Txt K mg) (g__law_cell : Fn P w K mg base 1 "_law_cell" ["_law_script", "_law_k"] (spCell0 K)) (g__law_draws : Fn P w K mg base 1 "_law_draws" ["_law_cell_here", "_law_many"] spDraws)
    (g__law_take : Fn P w K mg base 1 "_law_take" ["_law_draws_here", "_law_place"] (spTake K)) (g__law_base : Fn P w K mg base 3 "_law_base" ["_law_draws_here", "_law_place"] (spBase K)) (g__law_parties : Fn P w K mg base 2 "_law_parties" ["_law_draws_here", "_law_place"] (spParties K))
    (g__law_debts : Fn P w K mg base 4 "_law_debts" ["_law_draws_here", "_law_place", "_law_parties_here", "_law_scale", "_law_base_here"] (spDebts K)) (g__law_purses : Fn P w K mg base 4 "_law_purses" ["_law_draws_here", "_law_place", "_law_parties_here", "_law_scale", "_law_base_here", "_law_debts_here"] (spPurses K))
    (g_clear : Fn P w K mg base 5 "clear" ["debts", "purses"] spClear) (g__law_cleared : Fn P w K mg base 3 "_law_cleared" ["_law_debts_here", "_law_purses_here", "_law_answer"] spCleared)
    (g__law_change : Fn P w K mg base 4 "_law_change" ["_law_cell_here", "_law_parties_here", "_law_scale", "_law_base_here", "_law_debts_here", "_law_purses_here"] spChange) : FnOk P w K mg base CX0 6 f fd ["_law_script"] (spLaw K) := by
  refine F.ok sc51 (fun vs H Q E h => by obtain ⟨_, _, rfl, _⟩ := h; rfl) fun cdv A outer s H vs Q E hr h => ?_
  have hu := hu_of hr
  obtain ⟨sa, ns, rfl, hS, hn, q⟩ := h
  refine Exists.imp (fun t z => ⟨z.1.nox, z.2⟩) (?_ : ∃ t, PSs (cxOf CX0 P w K mg base n51 "law" (defScope s51) f cdv A outer s H E).nox (defBody s51) t ∧ t { nx := fun _ H' => Q .non H', rt := Q } (start n51 [V.ref sa]) H)
  refine ⟨_, (
    (pss_cons (ps_set (i := 1) sc51.nd rfl (Or.inl rfl) (pe_fn g__law_draws (hr.mono (by decide)) rfl (pa_cons (pe_fn g__law_cell (hr.mono (by decide)) rfl (pa_cons (pv 0) (pa_cons pe_int pa_nil))) (pa_cons pe_int pa_nil))))
    (pss_cons (ps_set (i := 2) sc51.nd rfl (Or.inl rfl) (pe_lst (pa_cons pe_int pa_nil)))
    (pss_cons (ps_set (i := 3) sc51.nd rfl (Or.inl rfl) (pe_fn g__law_parties (hr.mono (by decide)) rfl (pa_cons (pv 1) (pa_cons (pv 2) pa_nil))))
    (pss_cons (ps_set (i := 4) sc51.nd rfl (Or.inl rfl) (pe_op op_mod (pe_callTy call_int1 (by rfl) T.int (by decide +kernel) (pa_cons (pe_fn g__law_take (hr.mono (by decide)) rfl (pa_cons (pv 1) (pa_cons (pv 2) pa_nil))) pa_nil)) pe_int))
    (pss_cons (ps_set (i := 5) sc51.nd rfl (Or.inl rfl) (pe_fn g__law_base (hr.mono (by decide)) rfl (pa_cons (pv 1) (pa_cons (pv 2) pa_nil))))
    (pss_cons (ps_set (i := 6) sc51.nd rfl (Or.inl rfl) (pe_fn g__law_debts (hr.mono (by decide)) rfl (pa_cons (pv 1) (pa_cons (pv 2) (pa_cons (pv 3) (pa_cons (pv 4) (pa_cons (pv 5) pa_nil)))))))
    (pss_cons (ps_set (i := 7) sc51.nd rfl (Or.inl rfl) (pe_fn g__law_purses (hr.mono (by decide)) rfl (pa_cons (pe_fn g__law_draws (hr.mono (by decide)) rfl (pa_cons (pe_fn g__law_cell (hr.mono (by decide)) rfl (pa_cons (pv 0) (pa_cons pe_int pa_nil))) (pa_cons pe_int pa_nil))) (pa_cons (pe_lst (pa_cons pe_int pa_nil)) (pa_cons (pv 3) (pa_cons (pv 4) (pa_cons (pv 5) (pa_cons (pv 6) pa_nil))))))))
    (pss_cons (ps_set (i := 8) sc51.nd rfl (Or.inl rfl) (pe_callTy call_dictD (by rfl) T.dict (by decide +kernel) (pa_cons (pv 6) pa_nil)))
    (pss_cons (ps_set (i := 9) sc51.nd rfl (Or.inl rfl) (pe_callTy call_dictD (by rfl) T.dict (by decide +kernel) (pa_cons (pv 7) pa_nil)))
    (pss_cons (ps_set (i := 10) sc51.nd rfl (Or.inl rfl) (pe_fn g_clear (hr.mono (by decide)) rfl (pa_cons (pv 8) (pa_cons (pv 9) pa_nil))))
    (pss_cons (ps_if (PW.pt (pw_or (pt_cmpR (op_neD hr.units) (LiI.pe_listItems rfl (pv 8) rfl T.list (by decide +kernel)) (LiI.pe_listItems rfl (pv 6) rfl T.list (by decide +kernel)) (nomark _)) (pw_or1 (pt_cmpR (op_neD hr.units) (LiI.pe_listItems rfl (pv 9) rfl T.list (by decide +kernel)) (LiI.pe_listItems rfl (pv 7) rfl T.list (by decide +kernel)) (nomark _))))) 
      (pss_one (ps_ret pe_bl)) pss_nil)
    (pss_cons (ps_if (pt_not (pt_val (pe_fn g__law_cleared (hr.mono (by decide)) rfl (pa_cons (pv 6) (pa_cons (pv 7) (pa_cons (pv 10) pa_nil)))))) 
      (pss_one (ps_ret pe_bl)) pss_nil)
    (pss_cons (ps_set (i := 11) sc51.nd rfl (Or.inl rfl) (LiI.pe_listItems rfl (pe_ix ix_tup (pv 10) pe_int (fun _ _ => rfl)) rfl T.list (by decide +kernel)))
    (pss_cons (ps_lock (ps_for PassesOwn.never rfl (pi_keys (pv 6)) (pg_name (i := 12) sc51.nd rfl (Or.inl rfl)) 
      (pss_one (ps_dput hu (pv 8) (pv 12) (pe_op op_fdiv (pe_dget hu (pv 6) (pv 12) (fun _ _ => rfl)) pe_int) rfl))))
    (pss_cons (ps_lock (ps_for PassesOwn.never rfl (pi_keys (pv 7)) (pg_name (i := 13) sc51.nd rfl (Or.inl rfl)) 
      (pss_one (ps_dput hu (pv 9) (pv 13) (pe_op op_fdiv (pe_dget hu (pv 7) (pv 13) (fun _ _ => rfl)) pe_int) rfl))))
    (pss_cons (ps_if (PW.pt (pw_or (pt_not (pt_val (pe_fn g__law_cleared (hr.mono (by decide)) rfl (pa_cons (pv 8) (pa_cons (pv 9) (pa_cons (pe_fn g_clear (hr.mono (by decide)) rfl (pa_cons (pv 8) (pa_cons (pv 9) pa_nil))) pa_nil)))))) (pw_or1 (pt_cmpR (op_neD hr.units) (LiI.pe_listItems rfl (pe_ix ix_tup (pv 10) pe_int (fun _ _ => rfl)) rfl T.list (by decide +kernel)) (pv 11) (nomark _))))) 
      (pss_one (ps_ret pe_bl)) pss_nil)
    (pss_cons (ps_set (i := 14) sc51.nd rfl (Or.inl rfl) (pe_callTy call_dictD (by rfl) T.dict (by decide +kernel) (pa_cons (pv 6) pa_nil)))
    (pss_cons (ps_set (i := 15) sc51.nd rfl (Or.inl rfl) (pe_callTy call_dictD (by rfl) T.dict (by decide +kernel) (pa_cons (pv 7) pa_nil)))
    (pss_cons (ps_for PassesOwn.never rfl (pi_range2 rfl T.range (pa_cons pe_int (pa_cons (pe_callB call_len_seq (by rfl) T.len (by decide +kernel) (pa_cons (pv 0) pa_nil)) pa_nil))) (pg_name (i := 16) sc51.nd rfl (Or.inl rfl)) 
      (pss_cons (ps_expr (pe_fn g__law_change (hr.mono (by decide)) rfl (pa_cons (pe_ix (ix_listK (K := K) rfl) (pv 0) (pv 16) (fun _ _ => rfl)) (pa_cons (pv 3) (pa_cons (pv 4) (pa_cons (pv 5) (pa_cons (pv 14) (pa_cons (pv 15) pa_nil))))))))
      (pss_one (ps_if (PW.pt (pw_and (pt_cmpR op_eq (pe_op op_mod (pe_callTy call_int1 (by rfl) T.int (by decide +kernel) (pa_cons (pv 16) pa_nil)) pe_int) pe_int (nomark _)) (pw_and1 (pt_not (pt_val (pe_fn g__law_cleared (hr.mono (by decide)) rfl (pa_cons (pv 14) (pa_cons (pv 15) (pa_cons (pe_fn g_clear (hr.mono (by decide)) rfl (pa_cons (pe_callTy call_dictD (by rfl) T.dict (by decide +kernel) (pa_cons (pv 14) pa_nil)) (pa_cons (pe_callTy call_dictD (by rfl) T.dict (by decide +kernel) (pa_cons (pv 15) pa_nil)) pa_nil))) pa_nil))))))))) 
        (pss_one (ps_ret pe_bl)) pss_nil))))
    (pss_cons (ps_if (pt_not (pt_val (pe_fn g__law_cleared (hr.mono (by decide)) rfl (pa_cons (pv 14) (pa_cons (pv 15) (pa_cons (pe_fn g_clear (hr.mono (by decide)) rfl (pa_cons (pe_callTy call_dictD (by rfl) T.dict (by decide +kernel) (pa_cons (pv 14) pa_nil)) (pa_cons (pe_callTy call_dictD (by rfl) T.dict (by decide +kernel) (pa_cons (pv 15) pa_nil)) pa_nil))) pa_nil)))))) 
      (pss_one (ps_ret pe_bl)) pss_nil)
    (pss_cons (ps_set (i := 17) sc51.nd rfl (Or.inl rfl) (pe_fn g_clear (hr.mono (by decide)) rfl (pa_cons (pe_callTy call_dictD (by rfl) T.dict (by decide +kernel) (pa_cons (pv 6) pa_nil)) (pa_cons (pe_callTy call_dictD (by rfl) T.dict (by decide +kernel) (pa_cons (pv 7) pa_nil)) pa_nil))))
    (pss_cons (ps_if (PW.pt (pw_or (pt_not (pt_val (pe_fn g__law_cleared (hr.mono (by decide)) rfl (pa_cons (pv 6) (pa_cons (pv 7) (pa_cons (pv 17) pa_nil)))))) (pw_or (pt_cmpR (op_neD hr.units) (LiI.pe_listItems rfl (pe_ix ix_tup (pv 17) pe_int (fun _ _ => rfl)) rfl T.list (by decide +kernel)) (pv 11) (nomark _)) (pw_or1 (pt_cmpR (op_neD hr.units) (pe_ix ix_tup (pv 17) pe_int (fun _ _ => rfl)) (pe_ix ix_tup (pv 10) pe_int (fun _ _ => rfl)) (nomark _)))))) 
      (pss_one (ps_ret pe_bl)) pss_nil)
    (pss_cons (ps_lock (ps_for PassesOwn.never rfl (pi_keys (pv 7)) (pg_name (i := 13) sc51.nd rfl (Or.inl rfl)) 
      (pss_one (ps_dput hu (pe_ix ix_tup (pv 17) pe_int (fun _ _ => rfl)) (pv 13) (pe_tup (pa_cons pe_int (pa_cons pe_int pa_nil))) rfl))))
    (pss_cons (ps_set (i := 18) sc51.nd rfl (Or.inl rfl) (pe_fn g_clear (hr.mono (by decide)) rfl (pa_cons (pe_callTy call_dictD (by rfl) T.dict (by decide +kernel) (pa_cons (pv 6) pa_nil)) (pa_cons (pe_callTy call_dictD (by rfl) T.dict (by decide +kernel) (pa_cons (pv 7) pa_nil)) pa_nil))))
    (pss_cons (ps_if (PW.pt (pw_or (pt_not (pt_val (pe_fn g__law_cleared (hr.mono (by decide)) rfl (pa_cons (pv 6) (pa_cons (pv 7) (pa_cons (pv 18) pa_nil)))))) (pw_or1 (pt_cmpR (op_neD hr.units) (LiI.pe_listItems rfl (pe_ix ix_tup (pv 18) pe_int (fun _ _ => rfl)) rfl T.list (by decide +kernel)) (pv 11) (nomark _))))) 
      (pss_one (ps_ret pe_bl)) pss_nil)
    (pss_one (ps_ret (pe_fn g__law_cleared (hr.mono (by decide)) rfl (pa_cons pe_dnewK (pa_cons pe_dnewK (pa_cons (pe_fn g_clear (hr.mono (by decide)) rfl (pa_cons pe_dnewK (pa_cons pe_dnewK pa_nil))) pa_nil)))))))))))))))))))))))))))))))), ?_⟩
  -- the draws
  refine ⟨_, rfl, sa, ns, 1, rfl, hS, fun i0 => ⟨i0, 160, rfl, by decide, fun H1 a ds s1 ha ha' hds => ?_⟩⟩
  refine ⟨(by show 1 ≤ sizeLine; decide), fun b hb => ?_⟩
  have hb0 : H b = none := s1.free hb
  have ab : a ≠ b := ne_of_none ha' hb
  have at_ : ∀ n : Int, upd H1 b (.lst [V.int n]) a = some (.lst (ds.map V.int)) := fun n => by rw [upd_ne ab]; exact ha'
  have hA : ∀ n : Nat, At K (upd H1 b (.lst [V.int (n : Int)])) a b := fun n => ⟨ab, ⟨ds, SqL.of (at_ _), hds⟩, n, upd_same⟩
  have sU : ∀ n : Int, Same H (upd H1 b (.lst [V.int n])) := fun n => s1.trans (same_new hb)
  refine ⟨_, rfl, _, rfl, a, b, rfl, hA 0, fun l n nd labc l2 l6 => ?_⟩
  rw [upd_upd]
  refine ⟨_, rfl, _, rfl, a, b, rfl, hA n, fun d n d0 d1 => .inl ⟨d, rfl, _, _, rfl, rfl, (by show (0 : Int) < 8; decide), ?_⟩⟩
  rw [upd_upd]
  dsimp only
  generalize d % 8 = sc
  refine ⟨_, rfl, _, rfl, a, b, rfl, hA n, fun ba n b0 b1 => ?_⟩
  rw [upd_upd]
  refine ⟨_, rfl, _, rfl, _, rfl, _, rfl, _, rfl, a, b, l, sc, ba, rfl, hA n, nd, l2, l6, b0, b1, fun H2 dd D sb hbn hdd hd rD => ?_⟩
  have s2 : Same H H2 := same_sb (sU _) hb0 sb
  clear hA sU at_ sb hbn hdd
  -- the purses
  refine ⟨_, rfl, sa, ns, 2, rfl, sql_same hS s2, fun i1 => ⟨i1, 80, rfl, by decide, fun H3 a2 ds2 s3 ha2 ha2' hds2 => ?_⟩⟩
  refine ⟨(by show 1 ≤ sizeLine; decide), fun b2 hb2 => ?_⟩
  have ab2 : a2 ≠ b2 := ne_of_none ha2' hb2
  have sn2 := same_new (o := .lst [V.int 0]) hb2
  refine ⟨_, rfl, _, rfl, _, rfl, _, rfl, a2, b2, dd, l, sc, ba, D, rfl, ⟨ab2, ⟨ds2, SqL.of (by rw [upd_ne ab2]; exact ha2'), hds2⟩, 0, upd_same⟩, nd, l2, l6, b0, b1, sn2 _ _ (s3 _ _ hd), rD, by have := (rD.raw labc).len; omega, fun H4 pd P e sb4 hpd hp st => ?_⟩
  have b2n : H2 b2 = none := s3.free hb2
  have s4 : Same H2 H4 := same_sb (s3.trans sn2) b2n sb4
  have hd4 := s4 _ _ hd
  have n_dp : dd ≠ pd := ne_of_none ((s3.trans sn2) _ _ hd) hpd
  have sH4 := s2.trans s4
  have rM := st.rawM labc
  have pM := st.purse labc
  have fin := K72M.final_of rM pM st.cov
  clear hd hpd s1 s2 s3 s4 sn2 sb4 b2n hb0 hb2 ab ab2 ha ha' hds ha2 ha2' hds2 hb rD
  -- the copies
  refine ⟨_, rfl, dd, _, rfl, .inl hd4, fun g hg => ?_⟩
  refine ⟨_, rfl, pd, _, rfl, .inl (same_new hg _ _ hp), fun c hc => ?_⟩
  have n_dg : dd ≠ g := ne_of_none hd4 hg
  have n_pg : pd ≠ g := ne_of_none hp hg
  obtain ⟨n_gc, hc0, hg5, hc5, s5⟩ := cop (y := .dK (PD P fun q => V.int (e q))) hg hc
  have n_dc : dd ≠ c := ne_of_none hd4 hc0
  have n_pc : pd ≠ c := ne_of_none hp hc0
  -- the answer
  refine ⟨_, rfl, _, rfl, g, c, D, P, e, rfl, hg5, hc5, rM, pM, st.cov, fun H6 p qd wt t s6 hp0 hq0 an => ?_⟩
  have hd5 := s5 _ _ hd4
  have hp5 := s5 _ _ hp
  have q_d : qd ≠ dd := (ne_of_none hd5 hq0).symm
  have q_p : qd ≠ pd := (ne_of_none hp5 hq0).symm
  have q_g : qd ≠ g := (ne_of_none hg5 hq0).symm
  have q_c : qd ≠ c := (ne_of_none hc5 hq0).symm
  have shD := sh_dD rM
  have shP : SeqAt.shaped (dataP P fun x => .int (e x)) = true := sh_dP pM.inA (fun _ _ => rfl) fun _ _ => Nat.zero_le _
  have shA : SeqAt.shaped (dataA P (K72M.numM D P e) (K72M.denM D P e)) = true := sh_dA pM.inA
  -- the arguments stay
  refine ⟨_, rfl, g, _, rfl, s6 _ _ hg5, fun H7 k1 ts1 s7 z1 z2 z3 h1 pa1 => ?_⟩
  have i1 : Items H7 k1 (DD D) := ⟨ts1, h1, pa1⟩
  replace s7 : Same H6 H7 := s7
  clear z1 z2 z3 h1 pa1 ts1
  refine ⟨_, rfl, dd, _, rfl, s7 _ _ (s6 _ _ hd5), fun H8 k2 ts2 s8 z1 z2 z3 h2 pa2 => ?_⟩
  have i2 : Items H8 k2 (DD D) := ⟨ts2, h2, pa2⟩
  replace s8 : Same H7 H8 := s8
  clear z1 z2 z3 h2 pa2 ts2
  refine ⟨_, _, (i1.same s8).dD, i2.dD, shD, shD, _, rfl, ?_⟩
  rw [eqv_self shD]
  refine iteF ?_
  have s58 : Same _ H8 := (s6.trans s7).trans s8
  refine ⟨_, rfl, c, _, rfl, s58 _ _ hc5, fun H9 k3 ts3 s9 z1 z2 z3 h3 pa3 => ?_⟩
  have i3 : Items H9 k3 (PD P fun q => V.int (e q)) := ⟨ts3, h3, pa3⟩
  replace s9 : Same H8 H9 := s9
  clear z1 z2 z3 h3 pa3 ts3
  refine ⟨_, rfl, pd, _, rfl, s9 _ _ (s58 _ _ hp5), fun HA k4 ts4 sA z1 z2 z3 h4 pa4 => ?_⟩
  have i4 : Items HA k4 (PD P fun q => V.int (e q)) := ⟨ts4, h4, pa4⟩
  replace sA : Same H9 HA := sA
  clear z1 z2 z3 h4 pa4 ts4
  refine ⟨_, _, (i3.same sA).dP (v := fun x => .int (e x)) (fun _ _ => .int _), i4.dP (v := fun x => .int (e x)) (fun _ _ => .int _), shP, shP, _, rfl, ?_⟩
  rw [eqv_self shP]
  refine iteF ?_
  have s6A : Same H6 HA := ((s7.trans s8).trans s9).trans sA
  have s5A : Same _ HA := s6.trans s6A
  have anA := an.mono s6A
  -- the answer is right
  refine ⟨_, rfl, _, rfl, _, rfl, dd, pd, p, qd, wt, D, P, e, _, _, _, _, t, _, _, rfl, s5A _ _ hd5, s5A _ _ hp5, anA, fin, n_dp, q_d, q_p, fun HB sB => ⟨_, rfl, iteF ?_⟩⟩
  have anB := anA.mono sB
  -- kept
  refine ⟨_, rfl, p, _, 0, .ref qd, rfl, rfl, SqT.of anB.top, rfl, qd, _, rfl, anB.dic, fun HC k ts sC z1 z2 z3 hk pa => ?_⟩
  have itC : Items HC k (PD P fun x => V.ref (t x)) := ⟨ts, hk, pa⟩
  replace sC : Same HB HC := sC
  clear z1 z2 z3 hk pa ts
  have anC := anB.mono sC
  have s5C : Same _ HC := (s5A.trans sB).trans sC
  have hdC := s5C _ _ hd5
  have hpC := s5C _ _ hp5
  have hgC := s5C _ _ hg5
  have hcC := s5C _ _ hc5
  have sHC : Same H HC := (sH4.trans s5).trans s5C
  have hgH : H g = none := sH4.free hg
  have hcH : H c = none := sH4.free hc0
  clear i1 i2 i3 i4 anA anB an s7 s8 s9 sA s58 s6A s5A sB sC s5C s6 hp0 hq0 hg5 hc5 hd5 hp5 s5 sH4 hc0 hg hc hd4 hp
  -- the halves
  refine st_seq (for_keys (fun H Q q => ⟨_, rfl, q⟩) hdC (fun m σ Hu => (∃ y12, σ = [some (.ref sa), some (.ref a), some (.ref b), some (.str (tx l)), some (.int sc), some (.int ba), some (.ref dd), some (.ref pd), some (.ref g), some (.ref c), some (.ref p), some (.ref k), y12, none, none, none, none, none, none]) ∧
      Sb g HC Hu ∧ ∃ D', Hu g = some (.dK (DD D')) ∧ Sta l D' P e ∧ D'.map (·.1) = D.map (·.1)) ⟨⟨none, rfl⟩, Sb.refl _ _, D, hgC, st, rfl⟩ (fun m σ Hu h => h.2.1 _ _ n_dg hdC) ?_ ?_)
  · rintro m kk v ob σ Hu hkk ⟨⟨y12, rfl⟩, sb, D', hgu, st', keys⟩
    obtain ⟨x, hx, rfl, rfl⟩ := DD_get hkk
    have hm := List.mem_of_getElem? hx
    have hdu := sb _ _ n_dg hdC
    have endt : (upd Hu dd (.frz ob (.dK (DD D)))) dd = some (.frz ob (.dK (DD D))) := upd_same
    have hgL := in_lock (o := .frz ob (.dK (DD D))) hgu n_dg.symm
    have gd := get_frz rM.nd endt hm
    have hm' : x.1 ∈ D'.map (·.1) := by
      rw [keys]
      exact List.mem_map.mpr ⟨x, hm, rfl⟩
    refine ⟨_, rfl, _, rfl, dd, _, rfl, gd, _, _, rfl, rfl, ⟨by decide, by decide⟩, _, rfl, _, rfl, g, _, rfl, DPut.k (k := Sum.inr (pr x.1.1 x.1.2)) hgL (by rw [DD_len]; exact small1000 (by have := st'.len labc; omega)), ?_⟩
    rw [DD_put hm']
    refine ⟨by rw [upd_ne n_dg]; exact endt, ⟨_, rfl⟩, ?_⟩
    rw [lock_put n_dg hdu]
    exact ⟨sb.upd, _, upd_same, st.half st' hm hm', by rw [setD_keys, keys]⟩
  rintro σ Hu ⟨⟨y12, rfl⟩, sb, D', hgu, st1, _⟩
  have hdu := sb _ _ n_dg hdC
  have hpu := sb _ _ n_pg hpC
  have hcu := sb _ _ n_gc.symm hcC
  refine st_seq (for_keys (fun H Q q => ⟨_, rfl, q⟩) hpu (fun m σ Hv => (∃ y13, σ = [some (.ref sa), some (.ref a), some (.ref b), some (.str (tx l)), some (.int sc), some (.int ba), some (.ref dd), some (.ref pd), some (.ref g), some (.ref c), some (.ref p), some (.ref k), y12, y13, none, none, none, none, none]) ∧
      Sb c Hu Hv ∧ ∃ e', Hv c = some (.dK (PD P fun q => .int (e' q))) ∧ Sta l D' P e') ⟨⟨none, rfl⟩, Sb.refl _ _, e, hcu, st1⟩ (fun m σ Hv h => h.2.1 _ _ n_pc hpu) ?_ ?_)
  · rintro m kk v ob σ Hv hkk ⟨⟨y13, rfl⟩, sb2, e', hcv, st'⟩
    obtain ⟨x, hx, rfl, rfl⟩ := PD_get hkk
    have hm := List.mem_of_getElem? hx
    have hpv := sb2 _ _ n_pc hpu
    have endt : (upd Hv pd (.frz ob (.dK (PD P fun q => V.int (e q))))) pd = some (.frz ob (.dK (PD P fun q => V.int (e q)))) := upd_same
    have hcL := in_lock (o := .frz ob (.dK (PD P fun q => V.int (e q)))) hcv n_pc.symm
    have gp : DGet (upd Hv pd (.frz ob (.dK (PD P fun q => V.int (e q))))) pd (V.str (sg x)) (some (.int (e x))) := .inl ⟨_, Sum.inr (sg x), .inr ⟨ob, endt⟩, rfl, (PD_in (f := fun x => V.int (e x)) hm).symm⟩
    refine ⟨_, rfl, _, rfl, pd, _, rfl, gp, _, _, rfl, rfl, ⟨by decide, by decide⟩, _, rfl, _, rfl, c, _, rfl, DPut.k (k := Sum.inr (sg x)) hcL (by rw [PD_len]; exact small1000 (by have := st.plen6 labc; omega)), ?_⟩
    rw [PD_put_in hm]
    refine ⟨by rw [upd_ne n_pc]; exact endt, ⟨_, rfl⟩, ?_⟩
    rw [lock_put n_pc hpv]
    refine ⟨sb2.upd, fun q => if q = x then e x / 2 else e' q, ?_, st.halfP st' x⟩
    rw [upd_same]
    refine congrArg some (congrArg HO.dK (PD_congr fun q _ => ?_))
    by_cases z : q = x
    · rw [if_pos z]
      exact congrArg V.int (if_pos z).symm
    · rw [if_neg z]
      exact congrArg V.int (if_neg z).symm
  rintro σ Hv ⟨⟨y13, rfl⟩, sb2, e', hcv, st2⟩
  have two : ∀ x o, x ≠ g → x ≠ c → HC x = some o → Hv x = some o := fun x o h1 h2 h3 => sb2 _ _ h2 (sb _ _ h1 h3)
  have hdv := two _ _ n_dg n_dc hdC
  have hpv := two _ _ n_pg n_pc hpC
  have hgv := sb2 _ _ n_gc hgu
  have keep : ∀ x o, (∀ ds, o ≠ .dK ds) → HC x = some o → Hv x = some o := fun x o h1 h2 => two x o (fun z => h1 _ (Option.some.inj ((z ▸ h2).symm.trans hgC))) (fun z => h1 _ (Option.some.inj ((z ▸ h2).symm.trans hcC))) h2
  have anv : Ans Hv p qd wt t P (K72M.WM D P e) (K72M.numM D P e) (K72M.denM D P e) := ⟨keep _ _ (fun _ z => by cases z) anC.top, two _ _ q_g q_c anC.dic, fun x hx => keep _ _ (fun _ z => by cases z) (anC.prs x hx), keep _ _ (fun _ z => by cases z) anC.wav⟩
  have itv := itC.mono keep
  have sHv : Same H Hv := fun x o h => two x o (ne_of_none h hgH) (ne_of_none h hcH) (sHC _ _ h)
  clear two keep anC itC hdC hpC hgC hcC sHC sb sb2 hdu hpu hcu hgu hgH hcH
  -- the halves are cleared
  refine ⟨_, rfl, _, rfl, _, rfl, _, rfl, g, c, D', P, e', rfl, hgv, hcv, st2.rawM labc, st2.purse labc, st2.cov, fun I1 p2 qd2 wt2 t2 s1 hp2 hq2 an2 => ⟨g, c, p2, qd2, wt2, D', P, e', _, _, _, _, t2, _, _, rfl, s1 _ _ hgv, s1 _ _ hcv, an2,
    K72M.final_of (st2.rawM labc) (st2.purse labc) st2.cov, n_gc, (ne_of_none hgv hq2).symm, (ne_of_none hcv hq2).symm, fun I2 s2 => ⟨_, rfl, iteF ?_⟩⟩⟩
  have anI := (anv.mono s1).mono s2
  have itI := (itv.same s1).same s2
  refine ⟨_, rfl, p, _, 0, .ref qd, rfl, rfl, SqT.of anI.top, rfl, qd, _, rfl, anI.dic, fun I3 k2 ts2 s3 z1 z2 z3 h2 pa2 => ?_⟩
  have i2 : Items I3 k2 (PD P fun x => V.ref (t x)) := ⟨ts2, h2, pa2⟩
  replace s3 : Same I2 I3 := s3
  clear z1 z2 z3 h2 pa2 ts2
  have an3 := anI.mono s3
  have it3 := itI.same s3
  have sv3 := (s1.trans s2).trans s3
  have hd3 := sv3 _ _ hdv
  have hp3 := sv3 _ _ hpv
  have sH3 := sHv.trans sv3
  refine ⟨_, rfl, _, _, i2.dA an3.prs, it3.dA an3.prs, shA, shA, _, rfl, ?_⟩
  rw [eqv_self shA]
  refine iteF ?_
  clear i2 s1 s2 s3 an2 anI itI anv itv hdv hpv hgv hcv sHv sv3 hp2 hq2 st1 st2
  -- the script's changes
  refine ⟨_, rfl, dd, _, rfl, .inl hd3, fun g2 hg2 => ?_⟩
  refine ⟨_, rfl, pd, _, rfl, .inl (same_new hg2 _ _ hp3), fun c2 hc2 => ?_⟩
  obtain ⟨n_gc2, hc20, hgJ, hcJ, sJ⟩ := cop (y := .dK (PD P fun q => V.int (e q))) hg2 hc2
  refine st_seq ⟨_, rfl, sa, _, rfl, .inl (sql_same hS (sH3.trans sJ)), 3, _, rfl, ⟨by decide, by decide, by omega, ?_⟩, ?_⟩
  · rw [List.length_map]
    omega
  refine for_it (walk_range (lo := 3) (n := (((ns.map V.int).length : Int) - 3).toNat)) (fun m σ Hu => (∃ y16, σ = [some (.ref sa), some (.ref a), some (.ref b), some (.str (tx l)), some (.int sc), some (.int ba), some (.ref dd), some (.ref pd), some (.ref g), some (.ref c), some (.ref p), some (.ref k), y12, y13, some (.ref g2), some (.ref c2), y16, none, none]) ∧
      Same I3 Hu ∧ ∃ D2 P2 e2, Hu g2 = some (.dK (DD D2)) ∧ Hu c2 = some (.dK (PD P2 fun q => .int (e2 q))) ∧ Sta l D2 P2 e2) ⟨⟨none, rfl⟩, sJ, D, P, e, hgJ, hcJ, st⟩ (fun _ _ _ _ _ => trivial) ?_ ?_
  · rintro m x σ Hu Hu' hm ⟨⟨y16, rfl⟩, sI, D2, P2, e2, hg3, hc3, st3⟩ ⟨rfl, hx⟩
    obtain rfl : x = V.int ((3 + m : Nat) : Int) := by
      rw [hx]
      show V.int (3 + (m : Int)) = _
      rw [Int.natCast_add]
      rfl
    rw [List.length_map] at hm
    obtain ⟨v, hv⟩ : ∃ v : Int, (ns.map V.int)[3 + m]? = some (V.int v) := by
      have h3 : 3 + m < ns.length := by omega
      exact ⟨ns[3 + m], by rw [List.getElem?_map, List.getElem?_eq_getElem h3]; rfl⟩
    refine ⟨_, rfl, _, rfl, sa, _, _, _, rfl, rfl, sql_same hS (sH3.trans sI), atI_nat hv, _, rfl, _, rfl, _, rfl, _, rfl, _, rfl, v, sc, ba, l, g2, c2, D2, P2, e2, rfl, nd, l2, l6, b0, b1, hg3, hc3, n_gc2, st3, by have := st3.len labc; omega, fun H' D4 P4 e4 kp h1 h2 st4 => ?_⟩
    have sI4 : Same I3 H' := fun x o h => kp x o (ne_of_none h hg2) (ne_of_none h hc20) (sI _ _ h)
    refine ⟨_, rfl, .inl ⟨_, rfl, _, _, rfl, rfl, (by show (0 : Int) < 12; decide), rfl, _, rfl, ?_⟩⟩
    by_cases h12 : ((3 + m : Nat) : Int) % 12 = 3
    · refine iteY (congrArg V.int h12) ?_
      refine ⟨_, rfl, _, rfl, _, rfl, g2, _, rfl, .inl h1, fun a1 ha1 => ⟨_, rfl, c2, _, rfl, .inl (same_new ha1 _ _ h2), fun a2 ha2 => ?_⟩⟩
      obtain ⟨_, _, e5, e6, s5⟩ := cop (y := .dK (PD P4 fun q => V.int (e4 q))) ha1 ha2
      refine ⟨a1, a2, D4, P4, e4, rfl, e5, e6, st4.rawM labc, st4.purse labc, st4.cov, fun J1 p2 qd2 wt2 t2 s6 hp2 hq2 an2 => ⟨g2, c2, p2, qd2, wt2, D4, P4, e4, _, _, _, _, t2, _, _, rfl, s6 _ _ (s5 _ _ h1), s6 _ _ (s5 _ _ h2), an2,
        K72M.final_of (st4.rawM labc) (st4.purse labc) st4.cov, n_gc2, (ne_of_none (s5 _ _ h1) hq2).symm, (ne_of_none (s5 _ _ h2) hq2).symm, fun J2 s7 => ⟨_, rfl, iteF ?_⟩⟩⟩
      have s8 := (s5.trans s6).trans s7
      exact ⟨⟨_, rfl⟩, sI4.trans s8, D4, P4, e4, s8 _ _ h1, s8 _ _ h2, st4⟩
    · exact iteN (fun z => h12 (V.int.inj z)) ⟨⟨_, rfl⟩, sI4, D4, P4, e4, h1, h2, st4⟩
  rintro σ Hw ⟨⟨y16, rfl⟩, sI, D4, P4, e4, h1, h2, st4⟩
  clear sJ hgJ hcJ hg2 hc2 hc20
  -- the end of the changes
  refine ⟨_, rfl, _, rfl, _, rfl, g2, _, rfl, .inl h1, fun a1 ha1 => ⟨_, rfl, c2, _, rfl, .inl (same_new ha1 _ _ h2), fun a2 ha2 => ?_⟩⟩
  obtain ⟨_, _, e5, e6, s5⟩ := cop (y := .dK (PD P4 fun q => V.int (e4 q))) ha1 ha2
  refine ⟨a1, a2, D4, P4, e4, rfl, e5, e6, st4.rawM labc, st4.purse labc, st4.cov, fun J1 p2 qd2 wt2 t2 s6 hp2 hq2 an2 => ⟨g2, c2, p2, qd2, wt2, D4, P4, e4, _, _, _, _, t2, _, _, rfl, s6 _ _ (s5 _ _ h1), s6 _ _ (s5 _ _ h2), an2,
    K72M.final_of (st4.rawM labc) (st4.purse labc) st4.cov, n_gc2, (ne_of_none (s5 _ _ h1) hq2).symm, (ne_of_none (s5 _ _ h2) hq2).symm, fun B s7 => ⟨_, rfl, iteF ?_⟩⟩⟩
  have sB := ((sI.trans s5).trans s6).trans s7
  have anB := an3.mono sB
  have itB := it3.same sB
  have hdB := sB _ _ hd3
  have hpB := sB _ _ hp3
  clear an3 it3 hd3 hp3 s5 s6 s7 e5 e6 an2 hp2 hq2 h1 h2 st4 ha1 ha2 sI sB
  -- once more
  refine ⟨_, rfl, dd, _, rfl, .inl hdB, fun a1 ha1 => ⟨_, rfl, pd, _, rfl, .inl (same_new ha1 _ _ hpB), fun a2 ha2 => ?_⟩⟩
  obtain ⟨_, _, e5, e6, s5⟩ := cop (y := .dK (PD P fun q => V.int (e q))) ha1 ha2
  refine ⟨a1, a2, D, P, e, rfl, e5, e6, rM, pM, st.cov, fun B1 p3 qd3 wt3 t3 s6 hp3 hq3 an3 => ?_⟩
  have s56 := s5.trans s6
  refine ⟨_, rfl, _, rfl, _, rfl, dd, pd, p3, qd3, wt3, D, P, e, _, _, _, _, t3, _, _, rfl, s56 _ _ hdB, s56 _ _ hpB, an3, fin, n_dp, (ne_of_none (s5 _ _ hdB) hq3).symm, (ne_of_none (s5 _ _ hpB) hq3).symm, fun B2 s7 => ⟨_, rfl, iteF ?_⟩⟩
  have an4 := an3.mono s7
  refine ⟨_, rfl, p3, _, 0, .ref qd3, rfl, rfl, SqT.of an4.top, rfl, qd3, _, rfl, an4.dic, fun B3 k3 ts3 s8 z1 z2 z3 h3 pa3 => ?_⟩
  have i3 : Items B3 k3 (PD P fun x => V.ref (t3 x)) := ⟨ts3, h3, pa3⟩
  replace s8 : Same B2 B3 := s8
  clear z1 z2 z3 h3 pa3 ts3
  have s58 := (s56.trans s7).trans s8
  have an5 := an4.mono s8
  have anD := anB.mono s58
  refine ⟨_, rfl, _, _, i3.dA an5.prs, (itB.same s58).dA anD.prs, shA, shA, _, rfl, ?_⟩
  rw [eqv_self shA]
  refine iteF ?_
  have shW := sh_dW fin
  refine ⟨_, rfl, p3, _, 1, .ref wt3, rfl, rfl, SqT.of an5.top, rfl, _, rfl, p, _, 1, .ref wt, rfl, rfl, SqT.of anD.top, rfl, _, _, an5.dW, anD.dW, shW, shW, _, rfl, ?_⟩
  rw [eqv_self shW]
  refine iteF ?_
  have q3B : B qd3 = none := s5.free hq3
  have q3p : qd3 ≠ pd := (ne_of_none hpB q3B).symm
  have p3p : p3 ≠ pd := ne_dic an5.top (s58 _ _ hpB)
  have p3q : p3 ≠ qd3 := ne_dic an5.top an5.dic
  -- the answer's dict written over
  refine st_seq (for_keys (fun H Q q => ⟨_, rfl, q⟩) (s58 _ _ hpB) (fun m σ Hv => (∃ y13, σ = [some (.ref sa), some (.ref a), some (.ref b), some (.str (tx l)), some (.int sc), some (.int ba), some (.ref dd), some (.ref pd), some (.ref g), some (.ref c), some (.ref p), some (.ref k), y12, y13, some (.ref g2), some (.ref c2), y16, some (.ref p3), none]) ∧
      Same B Hv ∧ Hv p3 = some (.tup [.ref qd3, .ref wt3]) ∧ ∃ f : Nat → V, Hv qd3 = some (.dK (PD P f))) ⟨⟨_, rfl⟩, s58, an5.top, _, an5.dic⟩ (fun m σ Hv h => h.2.1 _ _ hpB) ?_ ?_)
  · rintro m kk v ob σ Hv hkk ⟨⟨y13, rfl⟩, sV, hpv, f3, hqv⟩
    obtain ⟨x, hx, rfl, rfl⟩ := PD_get hkk
    have hm := List.mem_of_getElem? hx
    have endt : (upd Hv pd (.frz ob (.dK (PD P fun q => V.int (e q))))) pd = some (.frz ob (.dK (PD P fun q => V.int (e q)))) := upd_same
    have hpL := in_lock (o := .frz ob (.dK (PD P fun q => V.int (e q)))) hpv p3p
    have hqL := in_lock (o := .frz ob (.dK (PD P fun q => V.int (e q)))) hqv q3p
    refine ⟨(by show 2 ≤ sizeLine; decide), fun r hr => ?_⟩
    have sr := same_new (o := .tup [V.int 0, V.int 1]) hr
    refine ⟨_, rfl, p3, _, 0, .ref qd3, rfl, rfl, SqT.of (sr _ _ hpL), rfl, _, rfl, qd3, _, rfl, DPut.k (k := Sum.inr (sg x)) (sr _ _ hqL) (by rw [PD_len]; exact small1000 (by have := st.plen6 labc; omega)), ?_⟩
    refine ⟨by rw [upd_ne q3p.symm]; exact sr _ _ endt, ⟨_, rfl⟩, own_turn hpB q3B sV sr, ?_, ?_⟩
    · rw [upd_ne p3p, upd_ne p3q]
      exact sr _ _ hpL
    · rw [upd_ne q3p, upd_same, PD_put_in hm]
      exact ⟨_, rfl⟩
  rintro σ Hv ⟨⟨y13, rfl⟩, sV, _, _, _⟩
  have hdV := sV _ _ hdB
  have hpV := sV _ _ hpB
  have anV := anB.mono sV
  have itV := itB.same sV
  clear e5 e6 s5 s6 s7 s8 s58 s56 an5 anD an4 an3 i3 hp3 hq3 ha1 ha2
  -- the last one
  refine ⟨_, rfl, dd, _, rfl, .inl hdV, fun a1 ha1 => ⟨_, rfl, pd, _, rfl, .inl (same_new ha1 _ _ hpV), fun a2 ha2 => ?_⟩⟩
  obtain ⟨_, _, e5, e6, s5⟩ := cop (y := .dK (PD P fun q => V.int (e q))) ha1 ha2
  refine ⟨a1, a2, D, P, e, rfl, e5, e6, rM, pM, st.cov, fun B1 p4 qd4 wt4 t4 s6 hp4 hq4 an4 => ?_⟩
  have s56 := s5.trans s6
  refine ⟨_, rfl, _, rfl, _, rfl, dd, pd, p4, qd4, wt4, D, P, e, _, _, _, _, t4, _, _, rfl, s56 _ _ hdV, s56 _ _ hpV, an4, fin, n_dp, (ne_of_none (s5 _ _ hdV) hq4).symm, (ne_of_none (s5 _ _ hpV) hq4).symm, fun B2 s7 => ⟨_, rfl, iteF ?_⟩⟩
  have an5 := an4.mono s7
  refine ⟨_, rfl, p4, _, 0, .ref qd4, rfl, rfl, SqT.of an5.top, rfl, qd4, _, rfl, an5.dic, fun B3 k3 ts3 s8 z1 z2 z3 h3 pa3 => ?_⟩
  have i3 : Items B3 k3 (PD P fun x => V.ref (t4 x)) := ⟨ts3, h3, pa3⟩
  replace s8 : Same B2 B3 := s8
  clear z1 z2 z3 h3 pa3 ts3
  have s58 := (s56.trans s7).trans s8
  refine ⟨_, rfl, _, _, i3.dA (an5.mono s8).prs, (itV.same s58).dA (anV.mono s58).prs, shA, shA, _, rfl, ?_⟩
  rw [eqv_self shA]
  refine iteF ?_
  -- nothing
  intro d1 k1
  intro d2 k2
  intro d3 k3
  intro d4 k4
  have m1 := same_new (o := .dK []) k1
  have m2 := same_new (o := .dK []) k2
  have m3 := same_new (o := .dK []) k3
  have m4 := same_new (o := .dK []) k4
  have r0 : K72M.Raw [] := ⟨List.nodup_nil, by simp, by simp, by simp, by simp, by simp⟩
  have u0 : K72M.Purse [] fun _ => 0 := ⟨List.nodup_nil, by simp, fun _ => Int.le_refl 0, fun _ => by show (0 : Int) ≤ 10 ^ 200; decide⟩
  have c0 : K72M.Cov [] [] := fun x hx => by cases hx
  refine ⟨d3, d4, [], [], fun _ => 0, rfl, m4 _ _ upd_same, upd_same, r0, u0, c0, fun L1 p5 qd5 wt5 t5 s9 hp5 hq5 an6 => ?_⟩
  have w1 := m4 _ _ (m3 _ _ (m2 _ _ (upd_same (o := HO.dK []))))
  have w2 := m4 _ _ (m3 _ _ (upd_same (o := HO.dK [])))
  exact ⟨d1, d2, p5, qd5, wt5, [], [], fun _ => 0, _, _, _, _, t5, _, _, rfl, s9 _ _ w1, s9 _ _ w2, an6, K72M.final_of r0 u0 c0, ne_of_none upd_same k2, (ne_of_none w1 hq5).symm, (ne_of_none w2 hq5).symm, fun L2 _ => q L2⟩
end
end K72
end
section
set_option Elab.async false
set_option linter.all false
set_option maxRecDepth 100000
set_option maxHeartbeats 0
namespace K72
open PySem PySem.Spec PyProof.Rows L2
theorem says {P : Program} {w : World} {K : PySem.W.Frag} {h : Heap} {mg : Str → Option Value} {f : Addr} (X : K.In h) (G : h.Ns mainGlobals mg) (hfa : mg ("law" : Str) = some (.ref f)) (c : He.SaysD fa fn K) :
    ∃ fd : FuncData, (∀ (s : Shared) (v : Value), BindsTo s fd ⟨[v], []⟩ [("_law_script", v)]) ∧ ∀ base : Heap, K.In base → base.Ns mainGlobals mg → FnOk P w K mg base CX0 6 f fd ["_law_script"] (spLaw K) := by
  have h_is_party : Here K mg "is_party" s8 := (c.def_ 0 (d := d8) rfl).elim fun fd F => ⟨_, fd, He.glo_ok X G (c.fact 0 (f := .glo "is_party") rfl), F⟩
  have h_is_pair : Here K mg "is_pair" s9 := (c.def_ 1 (d := d9) rfl).elim fun fd F => ⟨_, fd, He.glo_ok X G (c.fact 1 (f := .glo "is_pair") rfl), F⟩
  have h_check_party : Here K mg "check_party" s10 := (c.def_ 2 (d := d10) rfl).elim fun fd F => ⟨_, fd, He.glo_ok X G (c.fact 2 (f := .glo "check_party") rfl), F⟩
  have h_check_purses : Here K mg "check_purses" s11 := (c.def_ 3 (d := d11) rfl).elim fun fd F => ⟨_, fd, He.glo_ok X G (c.fact 3 (f := .glo "check_purses") rfl), F⟩
  have h_check_debts : Here K mg "check_debts" s13 := (c.def_ 4 (d := d13) rfl).elim fun fd F => ⟨_, fd, He.glo_ok X G (c.fact 4 (f := .glo "check_debts") rfl), F⟩
  have h_tidy : Here K mg "tidy" s14 := (c.def_ 5 (d := d14) rfl).elim fun fd F => ⟨_, fd, He.glo_ok X G (c.fact 5 (f := .glo "tidy") rfl), F⟩
  have h_common_divisor : Here K mg "common_divisor" s16 := (c.def_ 6 (d := d16) rfl).elim fun fd F => ⟨_, fd, He.glo_ok X G (c.fact 6 (f := .glo "common_divisor") rfl), F⟩
  have h_lowest_terms : Here K mg "lowest_terms" s18 := (c.def_ 7 (d := d18) rfl).elim fun fd F => ⟨_, fd, He.glo_ok X G (c.fact 7 (f := .glo "lowest_terms") rfl), F⟩
  have h_without_unknown : Here K mg "without_unknown" s19 := (c.def_ 8 (d := d19) rfl).elim fun fd F => ⟨_, fd, He.glo_ok X G (c.fact 8 (f := .glo "without_unknown") rfl), F⟩
  have h_solve : Here K mg "solve" s20 := (c.def_ 9 (d := d20) rfl).elim fun fd F => ⟨_, fd, He.glo_ok X G (c.fact 9 (f := .glo "solve") rfl), F⟩
  have h_debt_of : Here K mg "debt_of" s22 := (c.def_ 10 (d := d22) rfl).elim fun fd F => ⟨_, fd, He.glo_ok X G (c.fact 10 (f := .glo "debt_of") rfl), F⟩
  have h_checked : Here K mg "checked" s23 := (c.def_ 11 (d := d23) rfl).elim fun fd F => ⟨_, fd, He.glo_ok X G (c.fact 11 (f := .glo "checked") rfl), F⟩
  have h_received : Here K mg "received" s24 := (c.def_ 12 (d := d24) rfl).elim fun fd F => ⟨_, fd, He.glo_ok X G (c.fact 12 (f := .glo "received") rfl), F⟩
  have h_equation_of : Here K mg "equation_of" s25 := (c.def_ 13 (d := d25) rfl).elim fun fd F => ⟨_, fd, He.glo_ok X G (c.fact 13 (f := .glo "equation_of") rfl), F⟩
  have h_shares_when : Here K mg "shares_when" s26 := (c.def_ 14 (d := d26) rfl).elim fun fd F => ⟨_, fd, He.glo_ok X G (c.fact 14 (f := .glo "shares_when") rfl), F⟩
  have h_short_parties : Here K mg "short_parties" s27 := (c.def_ 15 (d := d27) rfl).elim fun fd F => ⟨_, fd, He.glo_ok X G (c.fact 15 (f := .glo "short_parties") rfl), F⟩
  have h_collapse : Here K mg "collapse" s28 := (c.def_ 16 (d := d28) rfl).elim fun fd F => ⟨_, fd, He.glo_ok X G (c.fact 16 (f := .glo "collapse") rfl), F⟩
  have h_clear : Here K mg "clear" s29 := (c.def_ 17 (d := d29) rfl).elim fun fd F => ⟨_, fd, He.glo_ok X G (c.fact 17 (f := .glo "clear") rfl), F⟩
  have h__law_cell : Here K mg "_law_cell" s31 := (c.def_ 18 (d := d31) rfl).elim fun fd F => ⟨_, fd, He.glo_ok X G (c.fact 18 (f := .glo "_law_cell") rfl), F⟩
  have h__law_draws : Here K mg "_law_draws" s32 := (c.def_ 19 (d := d32) rfl).elim fun fd F => ⟨_, fd, He.glo_ok X G (c.fact 19 (f := .glo "_law_draws") rfl), F⟩
  have h__law_take : Here K mg "_law_take" s33 := (c.def_ 20 (d := d33) rfl).elim fun fd F => ⟨_, fd, He.glo_ok X G (c.fact 20 (f := .glo "_law_take") rfl), F⟩
  have h__law_wide : Here K mg "_law_wide" s34 := (c.def_ 21 (d := d34) rfl).elim fun fd F => ⟨_, fd, He.glo_ok X G (c.fact 21 (f := .glo "_law_wide") rfl), F⟩
  have h__law_coins : Here K mg "_law_coins" s35 := (c.def_ 22 (d := d35) rfl).elim fun fd F => ⟨_, fd, He.glo_ok X G (c.fact 22 (f := .glo "_law_coins") rfl), F⟩
  have h__law_base : Here K mg "_law_base" s36 := (c.def_ 23 (d := d36) rfl).elim fun fd F => ⟨_, fd, He.glo_ok X G (c.fact 23 (f := .glo "_law_base") rfl), F⟩
  have h__law_parties : Here K mg "_law_parties" s37 := (c.def_ 24 (d := d37) rfl).elim fun fd F => ⟨_, fd, He.glo_ok X G (c.fact 24 (f := .glo "_law_parties") rfl), F⟩
  have h__law_debts : Here K mg "_law_debts" s38 := (c.def_ 25 (d := d38) rfl).elim fun fd F => ⟨_, fd, He.glo_ok X G (c.fact 25 (f := .glo "_law_debts") rfl), F⟩
  have h__law_purses : Here K mg "_law_purses" s39 := (c.def_ 26 (d := d39) rfl).elim fun fd F => ⟨_, fd, He.glo_ok X G (c.fact 26 (f := .glo "_law_purses") rfl), F⟩
  have h__law_is_integer : Here K mg "_law_is_integer" s40 := (c.def_ 27 (d := d40) rfl).elim fun fd F => ⟨_, fd, He.glo_ok X G (c.fact 27 (f := .glo "_law_is_integer") rfl), F⟩
  have h__law_owes : Here K mg "_law_owes" s41 := (c.def_ 28 (d := d41) rfl).elim fun fd F => ⟨_, fd, He.glo_ok X G (c.fact 28 (f := .glo "_law_owes") rfl), F⟩
  have h__law_lowest : Here K mg "_law_lowest" s42 := (c.def_ 29 (d := d42) rfl).elim fun fd F => ⟨_, fd, He.glo_ok X G (c.fact 29 (f := .glo "_law_lowest") rfl), F⟩
  have h__law_parts_fit : Here K mg "_law_parts_fit" s43 := (c.def_ 30 (d := d43) rfl).elim fun fd F => ⟨_, fd, He.glo_ok X G (c.fact 30 (f := .glo "_law_parts_fit") rfl), F⟩
  have h__law_has : Here K mg "_law_has" s44 := (c.def_ 31 (d := d44) rfl).elim fun fd F => ⟨_, fd, He.glo_ok X G (c.fact 31 (f := .glo "_law_has") rfl), F⟩
  have h__law_pays_all : Here K mg "_law_pays_all" s45 := (c.def_ 32 (d := d45) rfl).elim fun fd F => ⟨_, fd, He.glo_ok X G (c.fact 32 (f := .glo "_law_pays_all") rfl), F⟩
  have h__law_clears : Here K mg "_law_clears" s46 := (c.def_ 33 (d := d46) rfl).elim fun fd F => ⟨_, fd, He.glo_ok X G (c.fact 33 (f := .glo "_law_clears") rfl), F⟩
  have h__law_greatest : Here K mg "_law_greatest" s47 := (c.def_ 34 (d := d47) rfl).elim fun fd F => ⟨_, fd, He.glo_ok X G (c.fact 34 (f := .glo "_law_greatest") rfl), F⟩
  have h__law_waves_fit : Here K mg "_law_waves_fit" s48 := (c.def_ 35 (d := d48) rfl).elim fun fd F => ⟨_, fd, He.glo_ok X G (c.fact 35 (f := .glo "_law_waves_fit") rfl), F⟩
  have h__law_cleared : Here K mg "_law_cleared" s49 := (c.def_ 36 (d := d49) rfl).elim fun fd F => ⟨_, fd, He.glo_ok X G (c.fact 36 (f := .glo "_law_cleared") rfl), F⟩
  have h__law_change : Here K mg "_law_change" s50 := (c.def_ 37 (d := d50) rfl).elim fun fd F => ⟨_, fd, He.glo_ok X G (c.fact 37 (f := .glo "_law_change") rfl), F⟩
  have T : Txt K mg := ⟨He.free_ok X G (c.fact 39 (f := .free "len") rfl), He.free_ok X G (c.fact 40 (f := .free "list") rfl), He.free_ok X G (c.fact 41 (f := .free "sorted") rfl), He.free_ok X G (c.fact 42 (f := .free "any") rfl), He.free_ok X G (c.fact 43 (f := .free "sum") rfl), He.free_ok X G (c.fact 44 (f := .free "abs") rfl), He.free_ok X G (c.fact 45 (f := .free "int") rfl), He.free_ok X G (c.fact 46 (f := .free "range") rfl), He.free_ok X G (c.fact 47 (f := .free "zip") rfl), He.free_ok X G (c.fact 48 (f := .free "enumerate") rfl), He.free_ok X G (c.fact 49 (f := .free "tuple") rfl), He.free_ok X G (c.fact 50 (f := .free "dict") rfl), He.free_ok X G (c.fact 51 (f := .free "isinstance") rfl), He.free_ok X G (c.fact 52 (f := .free "str") rfl), He.free_ok X G (c.fact 53 (f := .free "bool") rfl), He.str_ok X G (c.fact 54 (f := .str "PARTIES" "abcdef") rfl)⟩
  obtain ⟨fd, F⟩ := c.def_ 38 (d := d51) rfl
  have e := hfa.symm.trans (He.glo_ok X G (c.fact 38 (f := .glo "law") rfl))
  cases e
  have b := FunD.bindsA (ps := ["_law_script"]) F fun _ _ _ _ _ _ us hl => match us, hl with | [_], _ => rfl
  refine ⟨fd, fun s v => b s [v] rfl, fun base _ _ => ?_⟩
  have o_is_party := ok_is_party (P := P) (w := w) (base := base) h_is_party T 
  have o_is_pair := ok_is_pair (P := P) (w := w) (base := base) h_is_pair T o_is_party
  have o_check_party := ok_check_party (P := P) (w := w) (base := base) h_check_party T o_is_party
  have o_check_purses := ok_check_purses (P := P) (w := w) (base := base) h_check_purses T o_check_party
  have o_check_debts := ok_check_debts (P := P) (w := w) (base := base) h_check_debts T o_is_pair
  have o_tidy := ok_tidy (P := P) (w := w) (base := base) h_tidy T 
  have o_common_divisor := ok_common_divisor (P := P) (w := w) (base := base) h_common_divisor T 
  have o_lowest_terms := ok_lowest_terms (P := P) (w := w) (base := base) h_lowest_terms T o_common_divisor
  have o_without_unknown := ok_without_unknown (P := P) (w := w) (base := base) h_without_unknown T 
  have o_solve := ok_solve (P := P) (w := w) (base := base) h_solve T o_without_unknown
  have o_debt_of := ok_debt_of (P := P) (w := w) (base := base) h_debt_of T 
  have o_checked := ok_checked (P := P) (w := w) (base := base) h_checked T o_check_debts o_check_purses o_tidy
  have o_received := ok_received (P := P) (w := w) (base := base) h_received T 
  have o_equation_of := ok_equation_of (P := P) (w := w) (base := base) h_equation_of T o_debt_of
  have o_shares_when := ok_shares_when (P := P) (w := w) (base := base) h_shares_when T o_solve o_equation_of
  have o_short_parties := ok_short_parties (P := P) (w := w) (base := base) h_short_parties T o_received o_debt_of
  have o_collapse := ok_collapse (P := P) (w := w) (base := base) h_collapse T o_shares_when o_short_parties
  have o_clear := ok_clear (P := P) (w := w) (base := base) h_clear T o_checked o_collapse o_lowest_terms o_debt_of
  have o__law_cell := ok_law_cell (P := P) (w := w) (base := base) h__law_cell T 
  have o__law_draws := ok_law_draws (P := P) (w := w) (base := base) h__law_draws T 
  have o__law_take := ok_law_take (P := P) (w := w) (base := base) h__law_take T 
  have o__law_wide := ok_law_wide (P := P) (w := w) (base := base) h__law_wide T o__law_take
  have o__law_coins := ok_law_coins (P := P) (w := w) (base := base) h__law_coins T o__law_take o__law_wide
  have o__law_base := ok_law_base (P := P) (w := w) (base := base) h__law_base T o__law_take o__law_wide
  have o__law_parties := ok_law_parties (P := P) (w := w) (base := base) h__law_parties T o__law_take
  have o__law_debts := ok_law_debts (P := P) (w := w) (base := base) h__law_debts T o__law_take o__law_coins
  have o__law_purses := ok_law_purses (P := P) (w := w) (base := base) h__law_purses T o__law_take o__law_coins
  have o__law_is_integer := ok_law_is_integer (P := P) (w := w) (base := base) h__law_is_integer T 
  have o__law_owes := ok_law_owes (P := P) (w := w) (base := base) h__law_owes T 
  have o__law_lowest := ok_law_lowest (P := P) (w := w) (base := base) h__law_lowest T 
  have o__law_parts_fit := ok_law_parts_fit (P := P) (w := w) (base := base) h__law_parts_fit T o__law_is_integer o__law_lowest
  have o__law_has := ok_law_has (P := P) (w := w) (base := base) h__law_has T 
  have o__law_pays_all := ok_law_pays_all (P := P) (w := w) (base := base) h__law_pays_all T 
  have o__law_clears := ok_law_clears (P := P) (w := w) (base := base) h__law_clears T o__law_has o__law_pays_all
  have o__law_greatest := ok_law_greatest (P := P) (w := w) (base := base) h__law_greatest T o__law_pays_all
  have o__law_waves_fit := ok_law_waves_fit (P := P) (w := w) (base := base) h__law_waves_fit T o__law_pays_all
  have o__law_cleared := ok_law_cleared (P := P) (w := w) (base := base) h__law_cleared T o__law_parts_fit o__law_owes o__law_clears o__law_greatest o__law_waves_fit
  have o__law_change := ok_law_change (P := P) (w := w) (base := base) h__law_change T o__law_draws o__law_take o__law_coins
  exact ok_law F T o__law_cell o__law_draws o__law_take o__law_base o__law_parties o__law_debts o__law_purses o_clear o__law_cleared o__law_change
end K72
open PySem PySem.W PySem.Calls PyProof.Rows
theorem PySem.Challenge.cw_signedpacts_k72_whole_clear_greatest_holds : PySem.Challenge.rw_signedpacts_k72_whole_clear_greatest.Holds := by
  w_on; o_law
  refine HandSHeadRun.head_any (r := K72.Rr) (q := view K72.Rr.prog [51]) (H := K72.hk) (ob := K72.ob) (M := 20000) (loose := K72.loose) (d := HandSHeadRun.topDef K72.Rr.prog 51) (kwd := []) K72.ob_eq
    (by kernel_rfl) (fun s => by kernel_rfl) K72.run (by kernel_rfl) (by kernel_rfl) (by kernel_rfl) (by rfl) (by first | assumption | decide +kernel) (by decide +kernel) ⟨rfl, rfl, rfl, rfl, rfl, by decide +kernel⟩ ?hw ?hc
  case hw => w_witness2
  case hc =>
    refine L2.walk_ofE (l := PySem.Challenge.rw_signedpacts_k72_whole_clear_greatest) (n := 63) (k := 6) (x := "_law_script") (CX := L2.CX0) rfl (by decide) (by kernel_rfl) ⟨rfl, by decide, by decide⟩ ?F (fun _ _ _ _ z => z)
    intro w mg fa h Y G hmg0
    obtain ⟨K, KX, c⟩ := Y
    have hmg : mg ("law" : PySem.Str) = some (.ref fa) := by
      have e : (HandSHeadRun.topDef K72.Rr.prog 51).name = ("law" : PySem.Str) := by kernel_rfl
      rw [← e]
      exact hmg0
    obtain ⟨fd, hb, hF⟩ := K72.says (P := (PySem.Challenge.rw_signedpacts_k72_whole_clear_greatest).prog) (w := w) KX G hmg c
    exact ⟨K, fd, K72.spLaw K, KX, hb, fun H a ns hl _ hS => ⟨a, ns, rfl, hS, Nat.le_trans hl (by decide), fun _ => rfl⟩, hF⟩
end
