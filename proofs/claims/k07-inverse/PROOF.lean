import PyProof.Rows.All
import Wide.All
import OpenK.AllK
import Wide.FinOn
import KE.KStateDown
import Lean
import HandS.ForExc
import HandS.More
import HandS.Defaults
import HandS.Head0
import HandS.Head1
import HandS.Head2
import HandS.HeadEnd
import HandS.HeadHook1
import HandS.HeadHook2
import HandS.HeadHook3
import HandS.HeadHook4
import PySem.Str
import HandS.ForMost
import HandS.IsInst
import HandS.TupAny
import HandS.Wide
import HandS.CallLocal
import HandS.Flow
import HandS.GenList
import PySem.Challenge.RW_stylepages_k07_whole_inverse_comes_home
set_option Elab.async false
set_option linter.all false
set_option maxRecDepth 100000
/-! law_k07_whole_inverse_comes_home: joined by merge.py of the texts of wip/. -/
/-! ## K7Top -/
/-! The text by places. -/
namespace K7
open PySem
def top (i : Nat) : Stmt := PySem.Challenge.pw_stylepages_k07_whole_inverse_comes_home.main.body.getD i (.Pass ⟨0, 0, 0, 0⟩)
end K7

/-! ## K7Head -/
set_option maxHeartbeats 0
/-! The head: where the top leaves its defs, by names. -/
namespace K7
open PySem PySem.Spec PyProof.Rows L2
def dd (x : Str) (i : Nat) : He.DefD := ⟨(x, none), x, x, defArgs (top i), defBody (top i), defScope (top i), [], []⟩
def fn : List He.DefD := [dd "is_part" 10,
  dd "walk" 11,
  dd "item_at" 12,
  dd "part_at" 13,
  dd "with_item" 14,
  dd "within_bounds" 15,
  dd "owner_at" 17,
  dd "with_items" 18,
  dd "put_item" 19,
  dd "take_item" 20,
  dd "change_text" 21,
  dd "change_kind" 22,
  dd "change_marks" 23,
  dd "wrap_items" 24,
  dd "open_part" 25,
  dd "apply_edit" 27,
  dd "inverse_edit" 28,
  dd "_law_pool" 30,
  dd "_law_take" 31,
  dd "_law_same" 32,
  dd "_law_letters" 33,
  dd "_law_name" 34,
  dd "_law_marks" 35,
  dd "_law_prose" 36,
  dd "_law_text" 37,
  dd "_law_item" 38,
  dd "_law_part" 39,
  dd "_law_wrapped" 40,
  dd "_law_leaf" 41,
  dd "_law_full_row" 42,
  dd "_law_full_count" 43,
  dd "_law_full_prose" 44,
  dd "_law_full_depth" 45,
  dd "_law_full_refs" 46,
  dd "_law_edge" 47,
  dd "_law_paths" 48,
  dd "_law_index" 49,
  dd "_law_goals" 50,
  dd "_law_road" 51,
  dd "_law_filled" 52,
  dd "_law_edit" 53,
  dd "_law_at" 54,
  dd "_law_swap" 55,
  dd "_law_row_edit" 56,
  dd "_law_apply" 57,
  dd "_law_sizes" 58,
  dd "_law_let" 59,
  dd "_law_is_edit" 60,
  dd "_law_steps" 61,
  dd "law" 62]
def faG1 : List He.Fa := [.glo "is_part", .glo "walk", .glo "item_at", .glo "part_at", .glo "with_item", .glo "within_bounds", .glo "owner_at", .glo "with_items", .glo "put_item", .glo "take_item", .glo "change_text", .glo "change_kind", .glo "change_marks", .glo "wrap_items", .glo "open_part", .glo "apply_edit", .glo "inverse_edit", .glo "_law_pool", .glo "_law_take", .glo "_law_same", .glo "_law_letters", .glo "_law_name", .glo "_law_marks", .glo "_law_prose", .glo "_law_text"]
def faG2 : List He.Fa := [.glo "_law_item", .glo "_law_part", .glo "_law_wrapped", .glo "_law_leaf", .glo "_law_full_row", .glo "_law_full_count", .glo "_law_full_prose", .glo "_law_full_depth", .glo "_law_full_refs", .glo "_law_edge", .glo "_law_paths", .glo "_law_index", .glo "_law_goals", .glo "_law_road", .glo "_law_filled", .glo "_law_edit", .glo "_law_at", .glo "_law_swap", .glo "_law_row_edit", .glo "_law_apply", .glo "_law_sizes", .glo "_law_let", .glo "_law_is_edit", .glo "_law_steps", .glo "law", .glo "DEEDS"]
def faF : List He.Fa := [.free "len", .free "isinstance", .free "tuple", .free "str", .free "int", .free "bool", .free "list", .free "range", .free "max", .free "min", .free "abs"]
def faI : List He.Fa := [.int "MOST_ITEMS_OF_A_PART" 12, .int "MOST_ITEMS" 60, .int "MOST_CHARACTERS" 400, .int "MOST_DEPTH" 6, .int "MOST_REFERENCES" 3]
def fa : List He.Fa := faF ++ (faI ++ (faG1 ++ faG2))
def ts : List He.Tab := [(fun K => He.ga K "DEEDS", ["put", "take", "text", "kind", "marks", "wrap", "open"])]
def kvs : List (Str × He.Dv) := [("put", .glo "put_item"), ("take", .glo "take_item"), ("text", .glo "change_text"), ("kind", .glo "change_kind"), ("marks", .glo "change_marks"), ("wrap", .glo "wrap_items"), ("open", .glo "open_part")]
def ex (K : PySem.W.Frag) : Bool := He.valsB K (He.ga K "DEEDS") kvs
def loose1 : List Str := ["StyleError", "BadPath", "TooLarge", "MOST_ITEMS_OF_A_PART", "MOST_ITEMS", "MOST_CHARACTERS", "MOST_DEPTH", "MOST_REFERENCES", "is_part", "walk", "item_at", "part_at", "with_item", "within_bounds", "owner_at", "with_items", "put_item", "take_item", "change_text", "change_kind", "change_marks", "wrap_items", "open_part", "DEEDS", "apply_edit", "inverse_edit", "_law_pool", "_law_take", "_law_same"]
def loose2 : List Str := ["_law_letters", "_law_name", "_law_marks", "_law_prose", "_law_text", "_law_item", "_law_part", "_law_wrapped", "_law_leaf", "_law_full_row", "_law_full_count", "_law_full_prose", "_law_full_depth", "_law_full_refs", "_law_edge", "_law_paths", "_law_index", "_law_goals", "_law_road", "_law_filled", "_law_edit", "_law_at", "_law_swap", "_law_row_edit", "_law_apply", "_law_sizes", "_law_let", "_law_is_edit", "_law_steps"]
def loose : List Str := loose1 ++ loose2
abbrev R : PySem.W.OpenRow := PySem.W.OpenLaw.row PySem.Challenge.rw_stylepages_k07_whole_inverse_comes_home
abbrev hk : PySem.W.Hook := He.hookX 4 fa fn ts [] ex
def ob (s : PySem.W.SharedT) : He.AlX := He.obsX 4 fa fn ts [] ex (HandSHeadRun.getT s)
theorem ob_eq (s : PySem.W.SharedT) : ob s = hk.obs s.abs := He.obsX_eq (HandSHeadRun.getT_eq s)
theorem run (w : World) : HandSHeadRun.RunEq R (PySem.W.view R.prog [62]) hk ob 6000 loose w := by
  refine PySem.W.byRow2 "special-get-raises" (P := fun w => HandSHeadRun.RunEq R (PySem.W.view R.prog [62]) hk ob 6000 loose w) (fun w os => ?_) (fun w os => ?_) w
  · kernel_rfl
  · kernel_rfl
/-- the row, from the law's walk alone -/
theorem holds_of (call : PySem.W.WalkO (PySem.W.view R.prog [62]) loose (PySem.W.XL (PySem.W.view R.prog [62]) []) hk.says R.toRowW (HandSHeadRun.topDef R.prog 62) [] fun f vs => PySem.call f vs) : PySem.Challenge.rw_stylepages_k07_whole_inverse_comes_home.Holds := by
  open PySem PySem.W PySem.Calls PyProof.Rows in
  w_on; o_law
  refine HandSHeadRun.head_any (r := R) (q := PySem.W.view R.prog [62]) (H := hk) (ob := ob) (M := 6000) (loose := loose) (d := HandSHeadRun.topDef R.prog 62) (kwd := []) ob_eq
    (by kernel_rfl) (fun s => by kernel_rfl) run (by kernel_rfl) (by kernel_rfl) (by kernel_rfl) (by rfl) (by first | assumption | decide +kernel) (by decide +kernel) ⟨rfl, rfl, rfl, rfl, rfl, by decide +kernel⟩ ?hw call
  case hw => w_witness2
end K7

/-! ## K7Doc -/
set_option maxHeartbeats 1000000
/-! The plain law: documents as data, edits, inverses, sizes. No program in sight. -/
namespace K7
open PySem

inductive It where
  | txt (s : Str)
  | two (t n : Str)
  | part (k : Str) (ms : List Str) (its : List It)

theorem It.indA {P : It → Prop} (h1 : ∀ s, P (.txt s)) (h2 : ∀ t n, P (.two t n)) (h3 : ∀ k ms its, (∀ x ∈ its, P x) → P (.part k ms its)) (d : It) : P d :=
  It.rec (motive_1 := P) (motive_2 := fun l => ∀ x ∈ l, P x) h1 h2 (fun k ms its ih => h3 k ms its ih) (fun x hx => by cases hx)
    (fun x l hx hl y hy => by
      rcases List.mem_cons.mp hy with e | hy
      · rw [e]; exact hx
      · exact hl y hy) d

/-! ### sizes -/
mutual
def cnt : It → Nat
  | .txt _ => 1
  | .two _ _ => 1
  | .part _ _ its => 1 + cnts its
def cnts : List It → Nat
  | [] => 0
  | d :: ds => cnt d + cnts ds
end
mutual
def chs : It → Nat
  | .txt s => s.length
  | .two _ _ => 0
  | .part _ _ its => chss its
def chss : List It → Nat
  | [] => 0
  | d :: ds => chs d + chss ds
end
mutual
def rfs : It → Nat
  | .txt _ => 0
  | .two t _ => if t = ("@" : Str) then 1 else 0
  | .part _ _ its => rfss its
def rfss : List It → Nat
  | [] => 0
  | d :: ds => rfs d + rfss ds
end
mutual
def hgt : It → Nat
  | .txt _ => 0
  | .two _ _ => 0
  | .part _ _ its => 1 + hgts its
def hgts : List It → Nat
  | [] => 0
  | d :: ds => max (hgt d) (hgts ds)
end
mutual
def wid : It → Nat
  | .txt _ => 0
  | .two _ _ => 0
  | .part _ _ its => max its.length (wids its)
def wids : List It → Nat
  | [] => 0
  | d :: ds => max (wid d) (wids ds)
end
/-- the bounds of a document -/
structure InB (d : It) : Prop where
  c : cnt d ≤ 60
  x : chs d ≤ 400
  h : hgt d ≤ 6
  r : rfs d ≤ 3
  w : wid d ≤ 12
/-! every text is short -/
mutual
def Sh : It → Prop
  | .txt s => s.length ≤ 1000
  | .two _ _ => True
  | .part _ _ its => Shs its
def Shs : List It → Prop
  | [] => True
  | d :: ds => Sh d ∧ Shs ds
end
def isPart : It → Bool
  | .part _ _ _ => true
  | _ => false

theorem cnts_append : ∀ (a b : List It), cnts (a ++ b) = cnts a + cnts b
  | [], b => by simp [cnts]
  | x :: a, b => by rw [List.cons_append, cnts, cnts, cnts_append a b]; omega
theorem chss_append : ∀ (a b : List It), chss (a ++ b) = chss a + chss b
  | [], b => by simp [chss]
  | x :: a, b => by rw [List.cons_append, chss, chss, chss_append a b]; omega
theorem rfss_append : ∀ (a b : List It), rfss (a ++ b) = rfss a + rfss b
  | [], b => by simp [rfss]
  | x :: a, b => by rw [List.cons_append, rfss, rfss, rfss_append a b]; omega
theorem hgts_append : ∀ (a b : List It), hgts (a ++ b) = max (hgts a) (hgts b)
  | [], b => by simp [hgts]
  | x :: a, b => by rw [List.cons_append, hgts, hgts, hgts_append a b]; omega
theorem wids_append : ∀ (a b : List It), wids (a ++ b) = max (wids a) (wids b)
  | [], b => by simp [wids]
  | x :: a, b => by rw [List.cons_append, wids, wids, wids_append a b]; omega
theorem Shs_append : ∀ (a b : List It), Shs (a ++ b) ↔ Shs a ∧ Shs b
  | [], b => by simp [Shs]
  | x :: a, b => by rw [List.cons_append, Shs, Shs, Shs_append a b, and_assoc]
theorem Shs_iff : ∀ (l : List It), Shs l ↔ ∀ x ∈ l, Sh x
  | [] => by simp [Shs]
  | x :: a => by rw [Shs, Shs_iff a]; simp
theorem cnts_mem : ∀ {l : List It} {x : It}, x ∈ l → cnt x ≤ cnts l
  | y :: l, x, h => by
    rw [cnts]
    rcases List.mem_cons.mp h with e | h
    · rw [e]; omega
    · have := cnts_mem h; omega
theorem hgts_mem : ∀ {l : List It} {x : It}, x ∈ l → hgt x ≤ hgts l
  | y :: l, x, h => by
    rw [hgts]
    rcases List.mem_cons.mp h with e | h
    · rw [e]; omega
    · have := hgts_mem h; omega
theorem wids_mem : ∀ {l : List It} {x : It}, x ∈ l → wid x ≤ wids l
  | y :: l, x, h => by
    rw [wids]
    rcases List.mem_cons.mp h with e | h
    · rw [e]; omega
    · have := wids_mem h; omega
theorem chss_mem : ∀ {l : List It} {x : It}, x ∈ l → chs x ≤ chss l
  | y :: l, x, h => by
    rw [chss]
    rcases List.mem_cons.mp h with e | h
    · rw [e]; omega
    · have := chss_mem h; omega
theorem cnt_pos : ∀ d : It, 1 ≤ cnt d
  | .txt _ => by rw [cnt]; exact Nat.le_refl 1
  | .two _ _ => by rw [cnt]; exact Nat.le_refl 1
  | .part _ _ its => by rw [cnt]; omega
theorem len_cnts : ∀ l : List It, l.length ≤ cnts l
  | [] => by simp [cnts]
  | x :: l => by rw [cnts, List.length_cons]; have := len_cnts l; have := cnt_pos x; omega
theorem hgts_le : ∀ {l : List It} {n : Nat}, (∀ x ∈ l, hgt x ≤ n) → hgts l ≤ n
  | [], n, _ => by simp [hgts]
  | x :: l, n, h => by
    rw [hgts]
    have h1 := h x (List.mem_cons_self ..)
    have h2 := hgts_le (l := l) fun y hy => h y (List.mem_cons_of_mem _ hy)
    omega
theorem wids_le : ∀ {l : List It} {n : Nat}, (∀ x ∈ l, wid x ≤ n) → wids l ≤ n
  | [], n, _ => by simp [wids]
  | x :: l, n, h => by
    rw [wids]
    have h1 := h x (List.mem_cons_self ..)
    have h2 := wids_le (l := l) fun y hy => h y (List.mem_cons_of_mem _ hy)
    omega

/-! ### paths -/
def gt : List Int → It → Option It
  | [], d => some d
  | i :: p, .part _ _ its => if 0 ≤ i then (match its[i.toNat]? with
    | some x => gt p x
    | none => none) else none
  | _ :: _, _ => none
def sw : List Int → It → It → It
  | [], x, _ => x
  | i :: p, x, .part k m its => (match its[i.toNat]? with
    | some y => .part k m (its.set i.toNat (sw p x y))
    | none => .part k m its)
  | _ :: _, _, d => d
theorem gt_nil (d : It) : gt [] d = some d := by cases d <;> rfl
theorem sw_nil (x d : It) : sw [] x d = x := by cases d <;> rfl
/-- one step down -/
theorem gt_cons {i : Int} {p : List Int} {d y : It} (h : gt (i :: p) d = some y) : ∃ k m its x, d = .part k m its ∧ 0 ≤ i ∧ its[i.toNat]? = some x ∧ gt p x = some y := by
  cases d with
  | txt s => cases h
  | two t n => cases h
  | part k m its =>
    have h1 : (if 0 ≤ i then (match its[i.toNat]? with
      | some x => gt p x
      | none => none) else none) = some y := h
    by_cases hi : 0 ≤ i
    · rw [if_pos hi] at h1
      cases e : its[i.toNat]? with
      | none => rw [e] at h1; cases h1
      | some x => rw [e] at h1; exact ⟨k, m, its, x, rfl, hi, e, h1⟩
    · rw [if_neg hi] at h1; cases h1
theorem gt_part {i : Int} {p : List Int} {k : Str} {m : List Str} {its : List It} {x : It} (hi : 0 ≤ i) (e : its[i.toNat]? = some x) : gt (i :: p) (.part k m its) = gt p x := by
  show (if 0 ≤ i then (match its[i.toNat]? with
      | some x => gt p x
      | none => none) else none) = _
  rw [if_pos hi, e]
theorem sw_part {i : Int} {p : List Int} {k : Str} {m : List Str} {its : List It} {x y : It} (e : its[i.toNat]? = some y) : sw (i :: p) x (.part k m its) = .part k m (its.set i.toNat (sw p x y)) := by
  show (match its[i.toNat]? with
    | some y => It.part k m (its.set i.toNat (sw p x y))
    | none => .part k m its) = _
  rw [e]
theorem gt_append : ∀ (p q : List Int) (d : It), gt (p ++ q) d = (gt p d).bind (gt q)
  | [], q, d => by rw [List.nil_append, gt_nil]; rfl
  | i :: p, q, d => by
    cases d with
    | txt s => rfl
    | two t n => rfl
    | part k m its =>
      show (if 0 ≤ i then (match its[i.toNat]? with
        | some x => gt (p ++ q) x
        | none => none) else none) = (if 0 ≤ i then (match its[i.toNat]? with
        | some x => gt p x
        | none => none) else none).bind (gt q)
      by_cases hi : 0 ≤ i
      · rw [if_pos hi, if_pos hi]
        cases its[i.toNat]? with
        | none => rfl
        | some x => exact gt_append p q x
      · rw [if_neg hi, if_neg hi]; rfl
theorem lt_of_get {α : Type} {l : List α} {i : Nat} {x : α} (h : l[i]? = some x) : i < l.length := (List.getElem?_eq_some_iff.mp h).1
theorem gt_sw : ∀ {p : List Int} {d y : It} (x : It), gt p d = some y → gt p (sw p x d) = some x
  | [], d, y, x, _ => by rw [sw_nil, gt_nil]
  | i :: p, d, y, x, h => by
    obtain ⟨k, m, its, z, rfl, hi, e, h1⟩ := gt_cons h
    rw [sw_part e, gt_part hi (x := sw p x z) (by rw [List.getElem?_set_self (lt_of_get e)])]
    exact gt_sw x h1
theorem sw_sw : ∀ {p : List Int} {d y : It} (x z : It), gt p d = some y → sw p z (sw p x d) = sw p z d
  | [], d, y, x, z, _ => by rw [sw_nil, sw_nil]
  | i :: p, d, y, x, z, h => by
    obtain ⟨k, m, its, u, rfl, hi, e, h1⟩ := gt_cons h
    rw [sw_part e, sw_part e, sw_part (y := sw p x u) (by rw [List.getElem?_set_self (lt_of_get e)]), List.set_set, sw_sw x z h1]
theorem set_self {α : Type} : ∀ {l : List α} {i : Nat} {x : α}, l[i]? = some x → l.set i x = l
  | [], i, x, h => by cases h
  | y :: l, 0, x, h => by
    have e : y = x := Option.some.inj h
    rw [e]; rfl
  | y :: l, i + 1, x, h => by
    have e : l[i]? = some x := h
    show y :: l.set i x = y :: l
    rw [set_self e]
theorem sw_gt : ∀ {p : List Int} {d y : It}, gt p d = some y → sw p y d = d
  | [], d, y, h => by
    rw [gt_nil] at h
    rw [sw_nil]; exact (Option.some.inj h).symm
  | i :: p, d, y, h => by
    obtain ⟨k, m, its, u, rfl, hi, e, h1⟩ := gt_cons h
    rw [sw_part e, sw_gt h1, set_self e]

/-! ### edits -/
inductive Ed where
  | put (p : List Int) (x : It)
  | take (p : List Int)
  | text (p : List Int) (s : Str)
  | kind (p : List Int) (k : Str)
  | marks (p : List Int) (m : List Str)
  | wrap (p : List Int) (n : Int) (k : Str) (m : List Str)
  | opn (p : List Int)
def Ed.path : Ed → List Int
  | .put p _ => p
  | .take p => p
  | .text p _ => p
  | .kind p _ => p
  | .marks p _ => p
  | .wrap p _ _ _ => p
  | .opn p => p
def rowEd (its : List It) (k : Int) : Ed → Option (List It)
  | .put _ x => if 0 ≤ k ∧ k ≤ its.length then some (its.take k.toNat ++ x :: its.drop k.toNat) else none
  | .take _ => if 0 ≤ k ∧ k < its.length then some (its.take k.toNat ++ its.drop (k.toNat + 1)) else none
  | .wrap _ n kd m => if 0 ≤ k ∧ 0 ≤ n ∧ k + n ≤ its.length then some (its.take k.toNat ++ .part kd m ((its.drop k.toNat).take n.toNat) :: its.drop (k.toNat + n.toNat)) else none
  | .opn _ => if 0 ≤ k then (match its[k.toNat]? with
    | some (.part _ _ cs) => some (its.take k.toNat ++ (cs ++ its.drop (k.toNat + 1)))
    | _ => none) else none
  | _ => none
/-- an edit on the row q, at place k -/
def rowAt (d : It) (q : List Int) (k : Int) (e : Ed) : Option It := match gt q d with
  | some (.part kd m its) => (match rowEd its k e with
    | some its' => some (sw q (.part kd m its') d)
    | none => none)
  | _ => none
def rowApp (d : It) (p : List Int) (e : Ed) : Option It := match p.getLast? with
  | none => none
  | some k => rowAt d p.dropLast k e
def app (d : It) : Ed → Option It
  | .text p s => (match gt p d with
    | some (.txt _) => some (sw p (.txt s) d)
    | _ => none)
  | .kind p k => (match gt p d with
    | some (.part _ m its) => some (sw p (.part k m its) d)
    | _ => none)
  | .marks p m => (match gt p d with
    | some (.part k _ its) => some (sw p (.part k m its) d)
    | _ => none)
  | .put p x => rowApp d p (.put p x)
  | .take p => rowApp d p (.take p)
  | .wrap p n k m => rowApp d p (.wrap p n k m)
  | .opn p => rowApp d p (.opn p)
def inv (d : It) : Ed → Ed
  | .put p _ => .take p
  | .wrap p _ _ _ => .opn p
  | .take p => (match gt p d with
    | some x => .put p x
    | none => .take p)
  | .text p s => (match gt p d with
    | some (.txt t) => .text p t
    | _ => .text p s)
  | .kind p k => (match gt p d with
    | some (.part k' _ _) => .kind p k'
    | _ => .kind p k)
  | .marks p m => (match gt p d with
    | some (.part _ m' _) => .marks p m'
    | _ => .marks p m)
  | .opn p => (match gt p d with
    | some (.part k m its) => .wrap p its.length k m
    | _ => .opn p)

theorem rowAt_some {d : It} {q : List Int} {k : Int} {e : Ed} {d' : It} (h : rowAt d q k e = some d') : ∃ kd m its its', gt q d = some (.part kd m its) ∧ rowEd its k e = some its' ∧ d' = sw q (.part kd m its') d := by
  unfold rowAt at h
  split at h
  · rename_i kd m its e1
    split at h
    · rename_i its' e2
      exact ⟨kd, m, its, its', e1, e2, (Option.some.inj h).symm⟩
    · cases h
  · cases h
theorem rowAt_of {d : It} {q : List Int} {k : Int} {e : Ed} {kd : Str} {m : List Str} {its its' : List It} (h1 : gt q d = some (.part kd m its)) (h2 : rowEd its k e = some its') : rowAt d q k e = some (sw q (.part kd m its') d) := by
  unfold rowAt
  rw [h1]
  show (match rowEd its k e with
    | some its' => some (sw q (.part kd m its') d)
    | none => none) = _
  rw [h2]
theorem rowApp_some {d : It} {p : List Int} {e : Ed} {d' : It} (h : rowApp d p e = some d') : ∃ q k kd m its its', p = q ++ [k] ∧ gt q d = some (.part kd m its) ∧ rowEd its k e = some its' ∧ d' = sw q (.part kd m its') d := by
  unfold rowApp at h
  cases e1 : p.getLast? with
  | none => rw [e1] at h; cases h
  | some k =>
    rw [e1] at h
    obtain ⟨kd, m, its, its', h1, h2, h3⟩ := rowAt_some h
    obtain ⟨hne, ek⟩ := List.getLast?_eq_some_iff.mp e1
    refine ⟨p.dropLast, k, kd, m, its, its', ?_, h1, h2, h3⟩
    rw [ek]; simp
theorem rowApp_of {d : It} {q : List Int} {k : Int} {e : Ed} {kd : Str} {m : List Str} {its its' : List It} (h1 : gt q d = some (.part kd m its)) (h2 : rowEd its k e = some its') : rowApp d (q ++ [k]) e = some (sw q (.part kd m its') d) := by
  unfold rowApp
  rw [List.getLast?_concat, List.dropLast_concat]
  exact rowAt_of h1 h2
/-- the item at the end of a row's path -/
theorem gt_row {d : It} {q : List Int} {k : Int} {kd : Str} {m : List Str} {its : List It} (h1 : gt q d = some (.part kd m its)) (hk : 0 ≤ k) : gt (q ++ [k]) d = its[k.toNat]? := by
  rw [gt_append, h1]
  show gt [k] (.part kd m its) = _
  cases e : its[k.toNat]? with
  | none =>
    show (if 0 ≤ k then (match its[k.toNat]? with
      | some x => gt [] x
      | none => none) else none) = _
    rw [if_pos hk, e]
  | some x => rw [gt_part hk e, gt_nil]
theorem take_ins {α : Type} (l : List α) (k : Nat) (m : List α) (h : k ≤ l.length) : (l.take k ++ m).take k = l.take k := by
  rw [List.take_append_of_le_length (by rw [List.length_take]; omega), List.take_take, Nat.min_self]
theorem drop_ins {α : Type} (l : List α) (k j : Nat) (m : List α) (h : k ≤ l.length) : (l.take k ++ m).drop (k + j) = m.drop j := by
  have e : (l.take k).length = k := by rw [List.length_take]; omega
  rw [List.drop_append, e, List.drop_eq_nil_of_le (by omega), List.nil_append]
  congr 1; omega
theorem get_ins {α : Type} (l : List α) (k : Nat) (x : α) (m : List α) (h : k ≤ l.length) : (l.take k ++ x :: m)[k]? = some x := by
  have e : (l.take k).length = k := by rw [List.length_take]; omega
  rw [List.getElem?_append_right (by omega), e, Nat.sub_self]; rfl
theorem take_get_drop {α : Type} {l : List α} {k : Nat} {x : α} (h : l[k]? = some x) : l.take k ++ x :: l.drop (k + 1) = l := by
  have hk := lt_of_get h
  have e : l[k] = x := by
    rw [List.getElem?_eq_getElem hk] at h
    exact Option.some.inj h
  rw [← e, ← List.drop_eq_getElem_cons hk, List.take_append_drop]
theorem rowEd_put {its : List It} {k : Int} {p : List Int} {x : It} (h0 : 0 ≤ k) (h1 : k ≤ its.length) : rowEd its k (.put p x) = some (its.take k.toNat ++ x :: its.drop k.toNat) := if_pos ⟨h0, h1⟩
theorem rowEd_take {its : List It} {k : Int} {p : List Int} (h0 : 0 ≤ k) (h1 : k < its.length) : rowEd its k (.take p) = some (its.take k.toNat ++ its.drop (k.toNat + 1)) := if_pos ⟨h0, h1⟩
theorem rowEd_wrap {its : List It} {k n : Int} {p : List Int} {kd : Str} {m : List Str} (h0 : 0 ≤ k) (h1 : 0 ≤ n) (h2 : k + n ≤ its.length) : rowEd its k (.wrap p n kd m) = some (its.take k.toNat ++ .part kd m ((its.drop k.toNat).take n.toNat) :: its.drop (k.toNat + n.toNat)) := if_pos ⟨h0, h1, h2⟩
theorem rowEd_opn {its : List It} {k : Int} {p : List Int} {kd : Str} {m : List Str} {cs : List It} (h0 : 0 ≤ k) (e : its[k.toNat]? = some (.part kd m cs)) : rowEd its k (.opn p) = some (its.take k.toNat ++ (cs ++ its.drop (k.toNat + 1))) := by
  show (if 0 ≤ k then (match its[k.toNat]? with
    | some (.part _ _ cs) => some (its.take k.toNat ++ (cs ++ its.drop (k.toNat + 1)))
    | _ => none) else none) = _
  rw [if_pos h0, e]
theorem rowEd_put_some {its its' : List It} {k : Int} {p : List Int} {x : It} (h : rowEd its k (.put p x) = some its') : 0 ≤ k ∧ k ≤ its.length ∧ its' = its.take k.toNat ++ x :: its.drop k.toNat := by
  by_cases c : 0 ≤ k ∧ k ≤ (its.length : Int)
  · rw [rowEd_put c.1 c.2] at h
    exact ⟨c.1, c.2, (Option.some.inj h).symm⟩
  · have z : rowEd its k (.put p x) = none := if_neg c
    rw [z] at h; cases h
theorem rowEd_take_some {its its' : List It} {k : Int} {p : List Int} (h : rowEd its k (.take p) = some its') : 0 ≤ k ∧ k < its.length ∧ its' = its.take k.toNat ++ its.drop (k.toNat + 1) := by
  by_cases c : 0 ≤ k ∧ k < (its.length : Int)
  · rw [rowEd_take c.1 c.2] at h
    exact ⟨c.1, c.2, (Option.some.inj h).symm⟩
  · have z : rowEd its k (.take p) = none := if_neg c
    rw [z] at h; cases h
theorem rowEd_wrap_some {its its' : List It} {k n : Int} {p : List Int} {kd : Str} {m : List Str} (h : rowEd its k (.wrap p n kd m) = some its') :
    0 ≤ k ∧ 0 ≤ n ∧ k + n ≤ its.length ∧ its' = its.take k.toNat ++ .part kd m ((its.drop k.toNat).take n.toNat) :: its.drop (k.toNat + n.toNat) := by
  by_cases c : 0 ≤ k ∧ 0 ≤ n ∧ k + n ≤ (its.length : Int)
  · rw [rowEd_wrap c.1 c.2.1 c.2.2] at h
    exact ⟨c.1, c.2.1, c.2.2, (Option.some.inj h).symm⟩
  · have z : rowEd its k (.wrap p n kd m) = none := if_neg c
    rw [z] at h; cases h
theorem rowEd_opn_some {its its' : List It} {k : Int} {p : List Int} (h : rowEd its k (.opn p) = some its') : 0 ≤ k ∧ ∃ kd m cs, its[k.toNat]? = some (.part kd m cs) ∧ its' = its.take k.toNat ++ (cs ++ its.drop (k.toNat + 1)) := by
  have h1 : (if 0 ≤ k then (match its[k.toNat]? with
    | some (.part _ _ cs) => some (its.take k.toNat ++ (cs ++ its.drop (k.toNat + 1)))
    | _ => none) else none) = some its' := h
  by_cases c : 0 ≤ k
  · rw [if_pos c] at h1
    cases e : its[k.toNat]? with
    | none => rw [e] at h1; cases h1
    | some x =>
      rw [e] at h1
      cases x with
      | part kd m cs => exact ⟨c, kd, m, cs, rfl, (Option.some.inj h1).symm⟩
      | txt _ => cases h1
      | two _ _ => cases h1
  · rw [if_neg c] at h1; cases h1

theorem app_text {d : It} {p : List Int} {s t : Str} (g : gt p d = some (.txt t)) : app d (.text p s) = some (sw p (.txt s) d) := by
  simp only [app, g]
theorem app_kind {d : It} {p : List Int} {k k' : Str} {m : List Str} {its : List It} (g : gt p d = some (.part k' m its)) : app d (.kind p k) = some (sw p (.part k m its) d) := by
  simp only [app, g]
theorem app_marks {d : It} {p : List Int} {k : Str} {m m' : List Str} {its : List It} (g : gt p d = some (.part k m' its)) : app d (.marks p m) = some (sw p (.part k m its) d) := by
  simp only [app, g]
/-- THE LAW: the inverse of an edit that fits turns the document back -/
theorem inv_app {d d' : It} {e : Ed} (h : app d e = some d') : app d' (inv d e) = some d := by
  cases e with
  | text p s =>
    have h1 : (match gt p d with
      | some (.txt _) => some (sw p (.txt s) d)
      | _ => none) = some d' := h
    cases g : gt p d with
    | none => rw [g] at h1; cases h1
    | some x =>
      rw [g] at h1
      cases x with
      | txt t =>
        have e1 : sw p (.txt s) d = d' := Option.some.inj h1
        have e2 : inv d (.text p s) = .text p t := by
          show (match gt p d with
            | some (.txt t) => Ed.text p t
            | _ => .text p s) = _
          rw [g]
        rw [e2, ← e1]
        show (match gt p (sw p (.txt s) d) with
          | some (.txt _) => some (sw p (.txt t) (sw p (.txt s) d))
          | _ => none) = _
        rw [gt_sw _ g, sw_sw _ _ g, sw_gt g]
      | two _ _ => cases h1
      | part _ _ _ => cases h1
  | kind p k =>
    have h1 : (match gt p d with
      | some (.part _ m its) => some (sw p (.part k m its) d)
      | _ => none) = some d' := h
    cases g : gt p d with
    | none => rw [g] at h1; cases h1
    | some x =>
      rw [g] at h1
      cases x with
      | part k' m its =>
        have e1 : sw p (.part k m its) d = d' := Option.some.inj h1
        have e2 : inv d (.kind p k) = .kind p k' := by
          show (match gt p d with
            | some (.part k' _ _) => Ed.kind p k'
            | _ => .kind p k) = _
          rw [g]
        rw [e2, ← e1]
        rw [app_kind (gt_sw _ g), sw_sw _ _ g, sw_gt g]
      | two _ _ => cases h1
      | txt _ => cases h1
  | marks p m =>
    have h1 : (match gt p d with
      | some (.part k _ its) => some (sw p (.part k m its) d)
      | _ => none) = some d' := h
    cases g : gt p d with
    | none => rw [g] at h1; cases h1
    | some x =>
      rw [g] at h1
      cases x with
      | part k m' its =>
        have e1 : sw p (.part k m its) d = d' := Option.some.inj h1
        have e2 : inv d (.marks p m) = .marks p m' := by
          show (match gt p d with
            | some (.part _ m' _) => Ed.marks p m'
            | _ => .marks p m) = _
          rw [g]
        rw [e2, ← e1]
        rw [app_marks (gt_sw _ g), sw_sw _ _ g, sw_gt g]
      | two _ _ => cases h1
      | txt _ => cases h1
  | put p x =>
    obtain ⟨q, k, kd, m, its, its', rfl, g, hr, rfl⟩ := rowApp_some (show rowApp d p (.put p x) = some d' from h)
    obtain ⟨h0, h1, rfl⟩ := rowEd_put_some hr
    show rowApp _ (q ++ [k]) (.take (q ++ [k])) = _
    have hk : k.toNat ≤ its.length := by omega
    refine (rowApp_of (gt_sw _ g) (rowEd_take h0 (by rw [List.length_append, List.length_take, List.length_cons, List.length_drop]; omega))).trans ?_
    rw [take_ins _ _ _ hk, drop_ins _ _ _ _ hk, List.drop_succ_cons, List.drop_zero, List.take_append_drop, sw_sw _ _ g, sw_gt g]
  | take p =>
    obtain ⟨q, k, kd, m, its, its', rfl, g, hr, rfl⟩ := rowApp_some (show rowApp d p (.take p) = some d' from h)
    obtain ⟨h0, h1, rfl⟩ := rowEd_take_some hr
    have hk : k.toNat < its.length := by omega
    have gx : gt (q ++ [k]) d = some its[k.toNat] := by rw [gt_row g h0, List.getElem?_eq_getElem hk]
    have e2 : inv d (.take (q ++ [k])) = .put (q ++ [k]) its[k.toNat] := by
      show (match gt (q ++ [k]) d with
        | some x => Ed.put (q ++ [k]) x
        | none => .take (q ++ [k])) = _
      rw [gx]
    rw [e2]
    show rowApp _ (q ++ [k]) (.put (q ++ [k]) _) = _
    refine (rowApp_of (gt_sw _ g) (rowEd_put h0 (by rw [List.length_append, List.length_take, List.length_drop]; omega))).trans ?_
    have d0 := drop_ins its k.toNat 0 (its.drop (k.toNat + 1)) (by omega)
    rw [Nat.add_zero, List.drop_zero] at d0
    rw [take_ins _ _ _ (by omega), d0, take_get_drop (List.getElem?_eq_getElem hk), sw_sw _ _ g, sw_gt g]
  | wrap p n kd' m' =>
    obtain ⟨q, k, kd, m, its, its', rfl, g, hr, rfl⟩ := rowApp_some (show rowApp d p (.wrap p n kd' m') = some d' from h)
    obtain ⟨h0, h1, h2, rfl⟩ := rowEd_wrap_some hr
    have hk : k.toNat ≤ its.length := by omega
    show rowApp _ (q ++ [k]) (.opn (q ++ [k])) = _
    refine (rowApp_of (gt_sw _ g) (rowEd_opn h0 (get_ins _ _ _ _ hk))).trans ?_
    rw [take_ins _ _ _ hk, drop_ins _ _ _ _ hk, List.drop_succ_cons, List.drop_zero]
    have e3 : (its.drop k.toNat).take n.toNat ++ its.drop (k.toNat + n.toNat) = its.drop k.toNat := by
      rw [← List.drop_drop, List.take_append_drop]
    rw [e3, List.take_append_drop, sw_sw _ _ g, sw_gt g]
  | opn p =>
    obtain ⟨q, k, kd, m, its, its', rfl, g, hr, rfl⟩ := rowApp_some (show rowApp d p (.opn p) = some d' from h)
    obtain ⟨h0, kd', m', cs, hx, rfl⟩ := rowEd_opn_some hr
    have hk := lt_of_get hx
    have gx : gt (q ++ [k]) d = some (.part kd' m' cs) := by rw [gt_row g h0, hx]
    have e2 : inv d (.opn (q ++ [k])) = .wrap (q ++ [k]) cs.length kd' m' := by
      show (match gt (q ++ [k]) d with
        | some (.part k2 m2 its2) => Ed.wrap (q ++ [k]) its2.length k2 m2
        | _ => .opn (q ++ [k])) = _
      rw [gx]
    rw [e2]
    show rowApp _ (q ++ [k]) (.wrap (q ++ [k]) _ _ _) = _
    refine (rowApp_of (gt_sw _ g) (rowEd_wrap (n := (cs.length : Int)) (kd := kd') (m := m') h0 (Int.natCast_nonneg _) (by rw [List.length_append, List.length_take, List.length_append, List.length_drop]; omega))).trans ?_
    have d0 := drop_ins its k.toNat 0 (cs ++ its.drop (k.toNat + 1)) (by omega)
    rw [Nat.add_zero, List.drop_zero] at d0
    have tn : ((cs.length : Int)).toNat = cs.length := by omega
    rw [take_ins _ _ _ (by omega), d0, tn, drop_ins _ _ _ _ (by omega), List.take_left, List.drop_left, take_get_drop hx, sw_sw _ _ g, sw_gt g]
end K7

/-! ## K7Base -/
/-! The layer over the layer: heaps that grow, rules that hand on a new heap with its facts, defs by name. -/
namespace K7
open PySem PySem.Spec PyProof.Rows L2

/-! ### heaps -/
/-- what stood stands, but at the addresses S; tuples stand everywhere -/
structure Chg (S : List Addr) (H H' : Hp) : Prop where
  keep : ∀ a o, H a = some o → a ∉ S → H' a = some o
  tup : ∀ {a xs}, H a = some (.tup xs) → H' a = some (.tup xs)
  frz : ∀ {a o u}, H a = some (.frz o u) → H' a = some (.frz o u)
abbrev Ex (H H' : Hp) : Prop := Chg [] H H'
theorem Chg.refl {S : List Addr} (H : Hp) : Chg S H H := ⟨fun _ _ h _ => h, fun h => h, fun h => h⟩
theorem Chg.trans {S : List Addr} {H H1 H2 : Hp} (a : Chg S H H1) (b : Chg S H1 H2) : Chg S H H2 :=
  ⟨fun x o h n => b.keep x o (a.keep x o h n) n, fun h => b.tup (a.tup h), fun h => b.frz (a.frz h)⟩
theorem Chg.mono {S T : List Addr} {H H' : Hp} (a : Chg S H H') (h : ∀ x ∈ S, x ∈ T) : Chg T H H' := ⟨fun x o e n => a.keep x o e fun m => n (h x m), a.tup, a.frz⟩
theorem Chg.of {S : List Addr} {H H' : Hp} (a : Ex H H') : Chg S H H' := a.mono fun _ h => by cases h
theorem Chg.to {S : List Addr} {H H1 H2 : Hp} (a : Chg S H H1) (b : Ex H1 H2) : Chg S H H2 := a.trans b.of
theorem Chg.ex {H H' : Hp} (e : Ex H H') {a : Addr} {o : HO} (h : H a = some o) : H' a = some o := e.keep a o h (by simp)
theorem Chg.new {S : List Addr} {H : Hp} {p : Addr} {o : HO} (h : H p = none) : Chg S H (upd H p o) :=
  ⟨fun a u e _ => by rw [upd_ne (ne_of_none e h)]; exact e, fun e => by rw [upd_ne (ne_of_none e h)]; exact e, fun e => by rw [upd_ne (ne_of_none e h)]; exact e⟩
theorem Chg.back {S : List Addr} {H H' : Hp} (e : Chg S H H') {p : Addr} (h : H' p = none) (n : p ∉ S) : H p = none := by
  cases q : H p with
  | none => rfl
  | some o => rw [e.keep p o q n] at h; cases h
theorem Chg.backE {H H' : Hp} (e : Ex H H') {p : Addr} (h : H' p = none) : H p = none := Chg.back e h (by simp)
/-- a list is changed at l -/
structure Wr (l : Addr) (o : HO) (H H' : Hp) : Prop where
  here : H' l = some o
  ne : ∀ a, a ≠ l → H' a = H a
theorem Wr.upd (l : Addr) (o : HO) (H : Hp) : Wr l o H (upd H l o) := ⟨upd_same, fun _ h => upd_ne h⟩
theorem Wr.chg {S : List Addr} {H H' : Hp} {l : Addr} {o : HO} {xs : List V} (w : Wr l o H H') (h : H l = some (.lst xs)) (m : l ∈ S) : Chg S H H' := by
  have n : ∀ {a u}, H a = some u → (∀ ys, u ≠ .lst ys) → a ≠ l := fun {a u} e d z => by
    rw [z, h] at e
    exact d _ (Option.some.inj e).symm
  exact ⟨fun a u e hn => by rw [w.ne a fun z => hn (z ▸ m)]; exact e, fun e => by rw [w.ne _ (n e fun ys z => by cases z)]; exact e, fun e => by rw [w.ne _ (n e fun ys z => by cases z)]; exact e⟩
/-- .. of a list that was made since -/
theorem Chg.wr {S : List Addr} {H0 H H' : Hp} {l : Addr} {o : HO} (c : Chg S H0 H) (w : Wr l o H H') (h : H0 l = none) : Chg S H0 H' :=
  ⟨fun a u e hn => by rw [w.ne a (ne_of_none e h)]; exact c.keep a u e hn, fun e => by rw [w.ne _ (ne_of_none e h)]; exact c.tup e, fun e => by rw [w.ne _ (ne_of_none e h)]; exact c.frz e⟩
theorem ne_at {H : Hp} {a b : Addr} {o : HO} (h : H a = some o) (n : H b = none) : a ≠ b := ne_of_none h n
theorem sz {n : Nat} (h : n ≤ 10000000) : n ≤ sizeLine := Nat.le_trans h (by decide)
theorem szl {n : Nat} (h : n < 10000000) : n < sizeLine := Nat.lt_of_lt_of_le h (by decide)

/-! ### displays -/
def tTupC (t : TA) : TE := fun σ H Q => t σ H fun xs H1 => xs.length ≤ sizeLine ∧ ∀ p H2, H1 p = none → Ex H1 H2 → H2 p = some (.tup xs) → Q (.ref p) H2
def tLstC (t : TA) : TE := fun σ H Q => t σ H fun xs H1 => xs.length ≤ sizeLine ∧ ∀ p H2, H1 p = none → Ex H1 H2 → H2 p = some (.lst xs) → Q (.ref p) H2
section
variable {X : Cx} {e a b : Expr} {es : List Expr} {te ta tb : TE} {t : TA} {pos : Pos}
theorem pe_tupC {x1} (h : PA X es t) : PE X (.Tuple es x1 pos) (tTupC t) := by
  refine ⟨fun pins s σ H Q I hq => ?_⟩
  refine wpAny_Tuple_spliced (thn (h.run pos pins s σ H _ I hq) fun us s1 ⟨xs, H1, I1, r, z, q⟩ => ⟨by rw [← r.length]; exact z, ?_⟩)
  have hf : H1 s1.heap.objs.size = none := I1.hok.fresh (Nat.le_refl _)
  refine ⟨.ref s1.heap.objs.size, upd H1 s1.heap.objs.size (.tup xs), I1.laid (t' := s1.toks) (fun b u e => Heap.get?_push_of_some _ e) (Nat.le_refl _) ?_, rfl, q _ _ hf (Chg.new hf) upd_same⟩
  exact ⟨z, us, r, ⟨_, Heap.get?_push_size _ rfl, rfl, _, rfl⟩⟩
theorem pe_lstC (h : PA X es t) : PE X (.List es pos) (tLstC t) := by
  refine ⟨fun pins s σ H Q I hq => ?_⟩
  refine wpAny_List_spliced (thn (h.run pos pins s σ H _ I hq) fun us s1 ⟨xs, H1, I1, r, z, q⟩ => ⟨by rw [← r.length]; exact z, ?_⟩)
  have hf : H1 s1.heap.objs.size = none := I1.hok.fresh (Nat.le_refl _)
  refine ⟨.ref s1.heap.objs.size, upd H1 s1.heap.objs.size (.lst xs), I1.laid (t' := s1.toks) (fun b u e => Heap.get?_push_of_some _ e) (Nat.le_refl _) ?_, rfl, q _ _ hf (Chg.new hf) upd_same⟩
  exact ⟨z, us, 0, r, Heap.get?_push_size _ rfl⟩

/-! ### operators -/
theorem OpR.imp {f : Value → Value → Sem Value} {r r' : R2} (h : OpR X f r) (i : ∀ x y H Q, r' x y H Q → r x y H Q) : OpR X f r' := fun pins s σ H x y v u Q I rx ry q => h pins s σ H x y v u Q I rx ry (i _ _ _ _ q)
/-- t + u (tuples) -/
def rCatC : R2 := fun x y H Q => ∃ a b xs ys, x = .ref a ∧ y = .ref b ∧ H a = some (.tup xs) ∧ H b = some (.tup ys) ∧ xs.length + ys.length ≤ sizeLine ∧ ∀ p H2, Ex H H2 → H2 p = some (.tup (xs ++ ys)) → Q (.ref p) H2
theorem op_catC : OpR X (binaryOp .Add) rCatC := OpR.imp op_catA fun x y H Q ⟨a, b, xs, ys, e1, e2, h1, h2, hz, q⟩ =>
  ⟨a, b, xs, ys, e1, e2, SqT.of h1, SqT.of h2, hz, fun z => q _ _ (Chg.refl H) (by rw [z]; exact h2), fun _ z => q _ _ (Chg.refl H) (by rw [z, List.append_nil]; exact h1), fun _ _ p hp => q _ _ (Chg.new hp) upd_same⟩
/-- xs + ys (lists) -/
def rLcatC : R2 := fun x y H Q => ∃ l b xs zs, x = .ref l ∧ y = .ref b ∧ H l = some (.lst xs) ∧ H b = some (.lst zs) ∧ xs.length + zs.length ≤ sizeLine ∧ ∀ p H2, H p = none → Ex H H2 → H2 p = some (.lst (xs ++ zs)) → Q (.ref p) H2
theorem op_lcatC : OpR X (binaryOp .Add) rLcatC := OpR.imp op_cat fun x y H Q ⟨a, b, xs, ys, e1, e2, h1, h2, hz, q⟩ =>
  ⟨a, b, xs, ys, e1, e2, h1, h2, hz, fun p hp => q _ _ hp (Chg.new hp) upd_same⟩
/-- t[lo:hi] (a tuple) -/
def rSlC : V → Option Int → Option Int → Hp → VK → Prop := fun x lo hi H Q => ∃ a xs, x = .ref a ∧ H a = some (.tup xs) ∧ ∀ p H2, Ex H H2 → H2 p = some (.tup (cutV xs lo hi)) → Q (.ref p) H2
theorem cutV_whole {xs : List V} {lo hi : Option Int} (h : HT.sIx xs.length 0 lo = 0 ∧ HT.sIx xs.length xs.length hi = xs.length) : cutV xs lo hi = xs := by
  unfold cutV
  rw [h.1, h.2, List.drop_zero, Nat.sub_zero, List.take_length]
theorem sl_tupC : SlR X rSlC := by
  intro pins s σ H x v vl vu lo hi sl Q I rx hs pl pu h
  obtain ⟨a, xs, e, hx, q⟩ := h
  exact sl_tupA pins s σ H x v vl vu lo hi sl Q I rx hs pl pu ⟨a, xs, e, SqT.of hx, fun w => q _ _ (Chg.refl H) (by rw [cutV_whole w]; exact hx), fun _ p hp => q _ _ (Chg.new hp) upd_same⟩
/-- t[i], xs[i] -/
def rIxTC : R2 := fun x y H Q => ∃ p xs i v, x = .ref p ∧ y = .int i ∧ H p = some (.tup xs) ∧ atI xs i = some v ∧ Q v H
theorem ix_tupC : IxR X rIxTC := by
  intro value slice pins s σ H x y v u Q I rx ry h hs
  obtain ⟨p, xs, i, w, e1, e2, hp, ha, q⟩ := h
  exact ix_tup value slice pins s σ H x y v u Q I rx ry ⟨p, xs, i, w, e1, e2, SqT.of hp, ha, q⟩ hs
def rIxLC : R2 := fun x y H Q => ∃ p xs i v, x = .ref p ∧ y = .int i ∧ H p = some (.lst xs) ∧ atI xs i = some v ∧ Q v H
theorem ix_lstC : IxR X rIxLC := by
  intro value slice pins s σ H x y v u Q I rx ry h hs
  obtain ⟨p, xs, i, w, e1, e2, hp, ha, q⟩ := h
  exact ix_list value slice pins s σ H x y v u Q I rx ry ⟨p, xs, i, w, e1, e2, SqL.of hp, ha, q⟩ hs
/-- a tuple's item or a text's -/
def rIxC : R2 := fun x y H Q => rIxTC x y H Q ∨ rIxS x y H Q
theorem ix_anyC : IxR X rIxC := IxR.or ix_tupC ix_str
/-- a tuple's slice or a text's -/
def rSlAny : V → Option Int → Option Int → Hp → VK → Prop := fun x lo hi H Q => rSlC x lo hi H Q ∨ rSlS x lo hi H Q
theorem sl_anyC : SlR X rSlAny := SlR.or sl_tupC sl_str
/-- xs[i] = v -/
def rSetC : V → V → V → Hp → (Hp → Prop) → Prop := fun o i v H Q => ∃ p xs k j, o = .ref p ∧ i = .int k ∧ H p = some (.lst xs) ∧ ixN xs.length k = some j ∧ ∀ H2, Wr p (.lst (xs.set j v)) H H2 → Q H2
theorem set_lstC : PSet X rSetC := by
  intro pins s σ H o i v ov iv u Q I ro ri rv h
  obtain ⟨p, xs, k, j, e1, e2, hp, hj, q⟩ := h
  exact set_list pins s σ H o i v ov iv u Q I ro ri rv ⟨p, xs, k, j, e1, e2, hp, hj, q _ (Wr.upd ..)⟩
/-- xs.append(v), xs.extend(ys), xs.pop() -/
def rAppC : V → List V → Hp → VK → Prop := fun x vs H Q => ∃ l xs y, x = .ref l ∧ vs = [y] ∧ H l = some (.lst xs) ∧ xs.length < sizeLine ∧ ∀ H2, Wr l (.lst (xs ++ [y])) H H2 → Q .non H2
theorem mt_appC : MtR X "list.append" rAppC := fun pins s σ H x xs v us Q I rx rv ⟨l, ys, y, e1, e2, h, hz, q⟩ => mt_append pins s σ H x xs v us Q I rx rv ⟨l, ys, y, e1, e2, h, hz, q _ (Wr.upd ..)⟩
def rExtC : V → List V → Hp → VK → Prop := fun x vs H Q => ∃ l b xs zs, x = .ref l ∧ vs = [.ref b] ∧ H l = some (.lst xs) ∧ H b = some (.lst zs) ∧ xs.length + zs.length ≤ sizeLine ∧ ∀ H2, Wr l (.lst (xs ++ zs)) H H2 → Q .non H2
theorem mt_extC : MtR X "list.extend" rExtC := fun pins s σ H x xs v us Q I rx rv ⟨l, b, ys, zs, e1, e2, h1, h2, hz, q⟩ => mt_extend pins s σ H x xs v us Q I rx rv ⟨l, b, ys, zs, e1, e2, h1, h2, hz, q _ (Wr.upd ..)⟩
def rPopC : V → List V → Hp → VK → Prop := fun x vs H Q => ∃ l xs y, x = .ref l ∧ vs = [] ∧ H l = some (.lst xs) ∧ xs[xs.length - 1]? = some y ∧ ∀ H2, Wr l (.lst xs.dropLast) H H2 → Q y H2
theorem mt_popC : MtR X "list.pop" rPopC := fun pins s σ H x xs v us Q I rx rv ⟨l, ys, y, e1, e2, h1, h2, q⟩ => mt_pop pins s σ H x xs v us Q I rx rv ⟨l, ys, y, e1, e2, h1, h2, q _ (Wr.upd ..)⟩

/-! ### calls -/
/-- tuple(xs), xs a list -/
def rTupC (K : PySem.W.Frag) : List V → Hp → VK → Prop := fun xs H Q => ∃ p ys, xs = [.ref p] ∧ SqL K H p ys ∧ ∀ l H2, Ex H H2 → H2 l = some (.tup ys) → Q (.ref l) H2
theorem call_tupC : CallR X (.type "tuple") (rTupC X.K) := fun pins s σ H xs us Q I r ⟨p, ys, e, h, q⟩ =>
  call_tuple_of pins s σ H xs us Q I r ⟨p, ys, e, .inl ⟨h, fun l hl => q _ _ (Chg.new hl) upd_same⟩⟩
/-- len(x) -/
def rLenK (K : PySem.W.Frag) : List V → Hp → VK → Prop := fun xs H Q => ∃ x n, xs = [x] ∧ LenV K x H n ∧ Q (.int (n : Nat)) H
theorem call_lenK {K : PySem.W.Frag} (h : X.K = K := by rfl) : CallR X (.builtin "len") (rLenK K) := by
  subst h
  exact call_len
/-- .. and no length is past the line -/
def rLenB (K : PySem.W.Frag) : List V → Hp → VK → Prop := fun xs H Q => ∃ x n, xs = [x] ∧ LenV K x H n ∧ (n ≤ 16777216 → Q (.int (n : Nat)) H)
theorem len_le {pins : List (Addr × Obj)} {s : Shared} {σ : L2.St} {H : Hp} {x : V} {n : Nat} (I : Inv X pins σ H s) (h : LenV X.K x H n) : n ≤ 16777216 := by
  have l : sizeLine ≤ 16777216 := by decide
  cases x with
  | str z => exact Nat.le_trans (h.2 ▸ h.1) l
  | ref a =>
    rcases h with ⟨xs, q, e⟩ | ⟨xs, q, e⟩
    · obtain ⟨_, _, _, z⟩ := I.list q
      rw [e]; exact Nat.le_trans z l
    · obtain ⟨_, _, _, z⟩ := I.tuple q
      rw [e]; exact Nat.le_trans z l
  | byt b => exact Nat.le_trans (h.2 ▸ h.1) l
  | _ => exact h.elim
theorem call_lenB {K : PySem.W.Frag} (h : X.K = K := by rfl) : CallR X (.builtin "len") (rLenB K) := by
  subst h
  exact fun pins s σ H xs us Q I r ⟨x, n, e, l, q⟩ => call_len pins s σ H xs us Q I r ⟨x, n, e, l, q (len_le I l)⟩
/-- the types that are asked -/
inductive Tn where
  | str | int | bool | tuple | list | non
def Tn.s : Tn → String
  | .str => "str" | .int => "int" | .bool => "bool" | .tuple => "tuple" | .list => "list" | .non => "NoneType"
def isB : Tn → Tn → Bool
  | .str, .str => true | .int, .int => true | .bool, .bool => true | .bool, .int => true | .tuple, .tuple => true | .list, .list => true | .non, .non => true
  | _, _ => false
inductive TyN (H : Hp) : V → Tn → Prop where
  | str (s : Str) : TyN H (.str s) .str
  | int (i : Int) : TyN H (.int i) .int
  | bl (b : Bool) : TyN H (.bl b) .bool
  | non : TyN H .non .non
  | tup {a : Addr} {xs : List V} (h : H a = some (.tup xs)) : TyN H (.ref a) .tuple
  | lst {a : Addr} {xs : List V} (h : H a = some (.lst xs)) : TyN H (.ref a) .list
theorem TyN.x {K : PySem.W.Frag} {H : Hp} {x : V} {t : Tn} (h : TyN H x t) : TyX K H x (.type t.s) := by
  cases h with
  | str s => exact .base (.str s)
  | int i => exact .base (.int i)
  | bl b => exact .base (.bl b)
  | non => exact .base .non
  | tup h => exact .base (.tup h)
  | lst h => exact .base (.lst h)
theorem kitB_of (a b : Tn) (hb : b ≠ .non) : kitB a.s b.s = some (isB a b) := by
  cases b with
  | non => exact absurd rfl hb
  | _ => cases a <;> decide +kernel
def tIsi (T : Tn) (te : TE) : TE := fun σ H Q => te σ H fun x H1 => ∃ t, TyN H1 x t ∧ Q (.bl (isB t T)) H1
theorem boot_ty (T : Tn) (hT : T ≠ .non) : bootBuiltins (Str.ofString T.s) = some (.type T.s) := by
  cases T with
  | non => exact absurd rfl hT
  | _ => decide +kernel
def rIsiC (T : Tn) : List V → Hp → VK → Prop := fun xs H Q => ∃ x, xs = [x, .ty T.s] ∧ ∃ t, TyN H x t ∧ Q (.bl (isB t T)) H
theorem call_isiC (T : Tn) (hT : T ≠ .non) : CallR X (.builtin "isinstance") (rIsiC T) := fun pins s σ H xs us Q I r ⟨x, e, t, ty, q⟩ =>
  call_isi pins s σ H xs us Q I r ⟨x, .ty T.s, .type t.s, .type T.s, isB t T, e, .ty _, ty.x, kit_ty (kitB_of t T hT), q⟩
theorem pe_isi {x2 : Str} {p p2 : Pos} (T : Tn) (he : PE X e te) (mi : X.mg "isinstance" = none) (m2 : X.mg x2 = none) (g2 : Gl X x2 := by rfl) (g1 : Gl X "isinstance" := by rfl) (hx : x2 = Str.ofString T.s := by rfl) (hT : T ≠ .non := by intro z; cases z)
    (hn : x2 ≠ "__name__" := by decide) (hd : (x2 == ("__debug__" : Str)) = false := by decide)
    (hs : starEach [e, .Name x2 p2] X.env = (false, eval e X.env) :: starEach [.Name x2 p2] X.env := by rfl) (hs2 : starEach [.Name x2 p2] X.env = (false, eval (.Name x2 p2) X.env) :: starEach [] X.env := by rfl)
    (hpl : (backTo pos (starEach [.Name x2 p2] X.env)).any (·.1) = false := by rfl) :
    PE X (.Call (.Name "isinstance" p) [e, .Name x2 p2] [] pos) (tIsi T te) := by
  have q := pe_callB (X := X) (p := p) (pos := pos) (call_isiC T hT) g1 mi PyProof.Rows.boot_isinstance (pa_cons he (pa_cons (pe_bltn (v := .ty T.s) (pos := p2) g2 m2 (by rw [hx]; exact boot_ty T hT) rfl hn hd) pa_nil hs2) hs) (he := hs) (hpl := hpl)
  refine ⟨fun pins s σ H Q I h => q.run pins s σ H Q I ?_⟩
  have e0 : (fun (x : V) (H1 : Hp) => rIsiC T [x, .ty T.s] H1 Q) = fun x H1 => ∃ t, TyN H1 x t ∧ Q (.bl (isB t T)) H1 := by
    funext x H1
    refine propext ⟨fun ⟨y, e, z⟩ => ?_, fun z => ⟨x, rfl, z⟩⟩
    have ey : x = y := (List.cons.inj e).1
    rw [ey]; exact z
  show te σ H (fun x H1 => rIsiC T [x, .ty T.s] H1 Q)
  rw [e0]
  exact h
end
/-! ### defs by name -/
/-- a def of the module -/
structure Df (K : PySem.W.Frag) (mg : Str → Option Value) (x : Str) (st : Stmt) : Prop where
  ex : ∃ f fd, FunD K x x (defArgs st) (defBody st) (defScope st) [] [] f fd ∧ mg x = some (.ref f)
/-- a def's promise, by its name -/
def Has (P : Program) (w : World) (K : PySem.W.Frag) (mg : Str → Option Value) (base : Heap) (k : Nat) (x : Str) (sp : Sp) : Prop :=
  ∃ (f : Addr) (fd : FuncData) (ps : List Str), mg x = some (.ref f) ∧ PySem.W.keepIn K (.ref f) = true ∧ Binds K fd ps [] ∧ FnOk P w K mg base CX0 k f fd ps sp
theorem Has.mono {P : Program} {w : World} {K : PySem.W.Frag} {mg : Str → Option Value} {base : Heap} {j k : Nat} {x : Str} {sp : Sp} (h : Has P w K mg base j x sp) (l : j ≤ k) : Has P w K mg base k x sp := by
  obtain ⟨f, fd, ps, h1, h2, h3, h4⟩ := h
  exact ⟨f, fd, ps, h1, h2, h3, h4.mono l⟩
theorem Has.imp {P : Program} {w : World} {K : PySem.W.Frag} {mg : Str → Option Value} {base : Heap} {k : Nat} {x : Str} {sp sp' : Sp} (h : Has P w K mg base k x sp) (i : ∀ vs H Q E, sp' vs H Q E → sp vs H Q E) : Has P w K mg base k x sp' := by
  obtain ⟨f, fd, ps, h1, h2, h3, h4⟩ := h
  exact ⟨f, fd, ps, h1, h2, h3, h4.imp i⟩
def tCal (sp : Sp) (t : TA) : TE := fun σ H Q => t σ H fun vs H1 => sp vs H1 Q E0
section
variable {X : Cx} {k : Nat} {x : Str} {sp : Sp} {p pos : Pos} {e : Expr} {es : List Expr} {t : TA}
theorem pe_has (G : Has X.prog X.w X.K X.mg X.base k x sp) (hr : Room k X.A) (ha : PA X (e :: es) t) (hg : Gl X x := by rfl) (hdb : (x == ("__debug__" : Str)) = false := by decide)
    (he : starEach (e :: es) X.env = (false, eval e X.env) :: starEach es X.env := by rfl) (hpl : (backTo pos (starEach es X.env)).any (·.1) = false := by rfl) : PE X (.Call (.Name x p) (e :: es) [] pos) (tCal sp t) := by
  obtain ⟨f, fd, ps, hm, hk, hb, F⟩ := G
  refine ⟨fun pins s σ H Q I h => ?_⟩
  refine (pe_call (pos := pos) (p := p) F hr hg hm hk hb .nil pass0 ha hdb he hpl).run pins s σ H Q I ?_
  have e0 : (fun (vs : List V) (H1 : Hp) => sp (vs ++ []) H1 Q E0) = fun vs H1 => sp vs H1 Q E0 := by
    funext vs H1
    rw [List.append_nil]
  show t σ H (fun vs H1 => sp (vs ++ []) H1 Q E0)
  rw [e0]
  exact h
end
section
variable {P : Program} {w : World} {K : PySem.W.Frag} {mg : Str → Option Value} {base : Heap}
/-- THE RULE for a def: its body as a term of rules, and the reading of that term -/
theorem Df.has {x : Str} {st : Stmt} {N ps : List Str} {k : Nat} {sp : Sp} (D : Df K mg x st) (S : FnScope N ps (defScope st))
    (hb : ∀ (kV doc pm : Value) (an : Option Addr) (cdv ct : Value) (us : List Value), us.length = ps.length → bindArgs (PySem.W.fnOf x x (defArgs st) (defBody st) (defScope st) .none kV doc pm an cdv ct) ⟨us, []⟩ = pure (ps.zip us))
    (len : ∀ vs H Q E, sp vs H Q E → vs.length = ps.length)
    (hbody : ∀ (f : Addr) (cdv : Value) (A : Around) (outer : List Env) (s : Shared) (H : Hp) (vs : List V) (Q : VK) (E : XK), Room k (A.deeper (envOfC x (defScope st) s.heap.objs.size f cdv)) → sp vs H Q E →
      ∃ t, PSs (cxOf CX0 P w K mg base N x (defScope st) f cdv A outer s H E).nox (defBody st) t ∧ t { nx := fun _ H' => Q .non H', rt := Q } (start N vs) H) : Has P w K mg base (k + 1) x sp := by
  obtain ⟨f, fd, F, hm⟩ := D.ex
  refine ⟨f, fd, ps, hm, F.kp, F.bindsN hb, F.ok S len fun cdv A outer s H vs Q E hr h => ?_⟩
  obtain ⟨t, h1, h2⟩ := hbody f cdv A outer s H vs Q E hr h
  exact ⟨t, h1.nox, h2⟩
end
/-! ### the module's names -/
structure Bn (mg : Str → Option Value) : Prop where
  len : mg "len" = none
  isi : mg "isinstance" = none
  tup : mg "tuple" = none
  str : mg "str" = none
  int : mg "int" = none
  bool : mg "bool" = none
  lst : mg "list" = none
  rng : mg "range" = none
  mx : mg "max" = none
  mn : mg "min" = none
  ab : mg "abs" = none
structure Cn (mg : Str → Option Value) where
  t1 : Tok
  t2 : Tok
  t3 : Tok
  t4 : Tok
  t5 : Tok
  moi : mg "MOST_ITEMS_OF_A_PART" = some (.int 12 t1)
  mit : mg "MOST_ITEMS" = some (.int 60 t2)
  mch : mg "MOST_CHARACTERS" = some (.int 400 t3)
  mde : mg "MOST_DEPTH" = some (.int 6 t4)
  mre : mg "MOST_REFERENCES" = some (.int 3 t5)
end K7

/-! ## K7Data -/
/-! Documents, paths, edits, pools as they stand in the heap. -/
namespace K7
open PySem PySem.Spec PyProof.Rows L2

mutual
def Rep (H : Hp) : It → V → Prop
  | .txt s, v => v = .str s
  | .two t n, v => ∃ a, v = .ref a ∧ H a = some (.tup [.str t, .str n])
  | .part k ms its, v => ∃ a m r vs, v = .ref a ∧ H a = some (.tup [.str k, .ref m, .ref r]) ∧ H m = some (.tup (ms.map V.str)) ∧ H r = some (.tup vs) ∧ Reps H its vs
def Reps (H : Hp) : List It → List V → Prop
  | [], vs => vs = []
  | d :: ds, vs => ∃ v vs', vs = v :: vs' ∧ Rep H d v ∧ Reps H ds vs'
end
section
variable {S : List Addr} {H H' : Hp}
mutual
theorem Rep.chg (c : Chg S H H') : ∀ {d : It} {v : V}, Rep H d v → Rep H' d v
  | .txt s, v, h => h
  | .two t n, v, ⟨a, e, h⟩ => ⟨a, e, c.tup h⟩
  | .part k ms its, v, ⟨a, m, r, vs, e, h1, h2, h3, h4⟩ => ⟨a, m, r, vs, e, c.tup h1, c.tup h2, c.tup h3, Reps.chg c h4⟩
theorem Reps.chg (c : Chg S H H') : ∀ {ds : List It} {vs : List V}, Reps H ds vs → Reps H' ds vs
  | [], vs, h => h
  | d :: ds, vs, ⟨v, vs', e, h1, h2⟩ => ⟨v, vs', e, Rep.chg c h1, Reps.chg c h2⟩
end
theorem Reps.nil : Reps H [] [] := rfl
theorem Reps.cons {d : It} {ds : List It} {v : V} {vs : List V} (h : Rep H d v) (t : Reps H ds vs) : Reps H (d :: ds) (v :: vs) := ⟨v, vs, rfl, h, t⟩
theorem Reps.one {d : It} {v : V} (h : Rep H d v) : Reps H [d] [v] := ⟨v, [], rfl, h, rfl⟩
theorem Reps.length : ∀ {ds : List It} {vs : List V}, Reps H ds vs → vs.length = ds.length
  | [], vs, h => by rw [show vs = [] from h]; rfl
  | d :: ds, vs, ⟨v, vs', e, _, h⟩ => by rw [e, List.length_cons, List.length_cons, Reps.length h]
theorem Reps.append : ∀ {ds es : List It} {vs us : List V}, Reps H ds vs → Reps H es us → Reps H (ds ++ es) (vs ++ us)
  | [], es, vs, us, h, t => by rw [show vs = [] from h]; exact t
  | d :: ds, es, vs, us, ⟨v, vs', e, h1, h2⟩, t => by rw [e]; exact ⟨v, vs' ++ us, rfl, h1, Reps.append h2 t⟩
theorem Reps.take : ∀ {ds : List It} {vs : List V} (n : Nat), Reps H ds vs → Reps H (ds.take n) (vs.take n)
  | ds, vs, 0, h => by simp [Reps]
  | [], vs, n + 1, h => by rw [show vs = [] from h]; rfl
  | d :: ds, vs, n + 1, ⟨v, vs', e, h1, h2⟩ => by rw [e]; exact ⟨v, vs'.take n, rfl, h1, Reps.take n h2⟩
theorem Reps.drop : ∀ {ds : List It} {vs : List V} (n : Nat), Reps H ds vs → Reps H (ds.drop n) (vs.drop n)
  | ds, vs, 0, h => by simpa using h
  | [], vs, n + 1, h => by rw [show vs = [] from h]; rfl
  | d :: ds, vs, n + 1, ⟨v, vs', e, h1, h2⟩ => by rw [e]; exact Reps.drop n h2
theorem Reps.get : ∀ {ds : List It} {vs : List V} {i : Nat} {d : It}, Reps H ds vs → ds[i]? = some d → ∃ v, vs[i]? = some v ∧ Rep H d v
  | [], vs, i, d, h, e => by simp at e
  | c :: ds, vs, 0, d, ⟨v, vs', e, h1, h2⟩, q => by
    rw [e]
    have e2 : c = d := by simpa using q
    exact ⟨v, rfl, e2 ▸ h1⟩
  | c :: ds, vs, i + 1, d, ⟨v, vs', e, h1, h2⟩, q => by
    rw [e]
    exact Reps.get (i := i) h2 (by simpa using q)
theorem Reps.set : ∀ {ds : List It} {vs : List V} {d : It} {v : V} (i : Nat), Reps H ds vs → Rep H d v → Reps H (ds.set i d) (vs.set i v)
  | [], vs, d, v, i, h, r => by rw [show vs = [] from h]; rfl
  | c :: ds, vs, d, v, 0, ⟨u, vs', e, h1, h2⟩, r => by rw [e]; exact ⟨v, vs', rfl, r, h2⟩
  | c :: ds, vs, d, v, i + 1, ⟨u, vs', e, h1, h2⟩, r => by rw [e]; exact ⟨u, vs'.set i v, rfl, h1, Reps.set i h2 r⟩
theorem Reps.mem : ∀ {ds : List It} {vs : List V} {v : V}, Reps H ds vs → v ∈ vs → ∃ d, d ∈ ds ∧ Rep H d v
  | [], vs, v, h, m => by rw [show vs = [] from h] at m; cases m
  | c :: ds, vs, v, ⟨u, vs', e, h1, h2⟩, m => by
    rw [e] at m
    rcases List.mem_cons.mp m with q | m
    · rw [q]; exact ⟨c, List.mem_cons_self .., h1⟩
    · obtain ⟨d, hd, r⟩ := Reps.mem h2 m
      exact ⟨d, List.mem_cons_of_mem _ hd, r⟩
/-- a part that is made of its three -/
theorem Rep.part {k : Str} {ms : List Str} {its : List It} {a m r : Addr} {vs : List V} (h1 : H a = some (.tup [.str k, .ref m, .ref r])) (h2 : H m = some (.tup (ms.map V.str))) (h3 : H r = some (.tup vs)) (h4 : Reps H its vs) : Rep H (.part k ms its) (.ref a) := ⟨a, m, r, vs, rfl, h1, h2, h3, h4⟩
theorem Rep.ty : ∀ {d : It} {v : V}, Rep H d v → ∃ t, TyN H v t ∧ (t = .str ∧ (∃ s, d = .txt s) ∨ t = .tuple ∧ ∀ s, d ≠ .txt s)
  | .txt s, v, h => ⟨.str, by rw [show v = .str s from h]; exact .str s, .inl ⟨rfl, s, rfl⟩⟩
  | .two t n, v, ⟨a, e, h⟩ => ⟨.tuple, by rw [e]; exact .tup h, .inr ⟨rfl, fun s z => by cases z⟩⟩
  | .part k ms its, v, ⟨a, m, r, vs, e, h1, _⟩ => ⟨.tuple, by rw [e]; exact .tup h1, .inr ⟨rfl, fun s z => by cases z⟩⟩
end
theorem lenT {K : PySem.W.Frag} {H : Hp} {a : Addr} {xs : List V} (h : H a = some (.tup xs)) : LenV K (.ref a) H xs.length := .inr ⟨xs, SqT.of h, rfl⟩
theorem lenL {K : PySem.W.Frag} {H : Hp} {a : Addr} {xs : List V} (h : H a = some (.lst xs)) : LenV K (.ref a) H xs.length := .inl ⟨xs, SqL.of h, rfl⟩
theorem lenQ {K : PySem.W.Frag} {H : Hp} {a : Addr} {xs : List V} (h : SqL K H a xs) : LenV K (.ref a) H xs.length := .inl ⟨xs, h, rfl⟩
theorem lenS {K : PySem.W.Frag} {H : Hp} {s : Str} (h : s.length ≤ sizeLine) : LenV K (.str s) H s.length := ⟨h, rfl⟩

/-! ### paths and edits -/
def Ed.word : Ed → Str
  | .put _ _ => "put" | .take _ => "take" | .text _ _ => "text" | .kind _ _ => "kind" | .marks _ _ => "marks" | .wrap _ _ _ _ => "wrap" | .opn _ => "open"
def RepR (H : Hp) : Ed → List V → Prop
  | .put _ x, r => ∃ v, r = [v] ∧ Rep H x v
  | .take _, r => r = []
  | .text _ s, r => r = [.str s]
  | .kind _ k, r => r = [.str k]
  | .marks _ m, r => ∃ a, r = [.ref a] ∧ H a = some (.tup (m.map V.str))
  | .wrap _ n k m, r => ∃ a, r = [.int n, .str k, .ref a] ∧ H a = some (.tup (m.map V.str))
  | .opn _, r => r = []
structure RepE (H : Hp) (e : Ed) (a pr : Addr) (r : List V) : Prop where
  at_ : H a = some (.tup (.str e.word :: .ref pr :: r))
  path : H pr = some (.tup (e.path.map V.int))
  rest : RepR H e r
theorem RepR.chg {S : List Addr} {H H' : Hp} (c : Chg S H H') : ∀ {e : Ed} {r : List V}, RepR H e r → RepR H' e r
  | .put _ x, r, ⟨v, e, h⟩ => ⟨v, e, h.chg c⟩
  | .take _, r, h => h
  | .text _ s, r, h => h
  | .kind _ k, r, h => h
  | .marks _ m, r, ⟨a, e, h⟩ => ⟨a, e, c.tup h⟩
  | .wrap _ n k m, r, ⟨a, e, h⟩ => ⟨a, e, c.tup h⟩
  | .opn _, r, h => h
theorem RepE.chg {S : List Addr} {H H' : Hp} (c : Chg S H H') {e : Ed} {a pr : Addr} {r : List V} (h : RepE H e a pr r) : RepE H' e a pr r := ⟨c.tup h.at_, c.tup h.path, h.rest.chg c⟩

/-! ### pools, names, budgets -/
def Pool (H : Hp) (p : Addr) (c : Nat) : Prop := ∃ cell fl sd x : Int, H p = some (.lst [.int cell, .int c, .int fl, .int sd, .int x])
/-- a name of the law's -/
structure NameOk (s : Str) : Prop where
  pos : 1 ≤ s.length
  le : s.length ≤ 8
  no : ∀ c ∈ s.cps.toList, c ≠ 35 ∧ c < 128
def Nam (H : Hp) (q : Addr) (n : Nat) : Prop := ∃ ns : List Str, ns.length = n ∧ (∀ s ∈ ns, NameOk s) ∧ H q = some (.lst (ns.map V.str))
def Bud (H : Hp) (b : Addr) (x y z : Nat) : Prop := H b = some (.lst [.int x, .int y, .int z, .int 6, .int 12])
section
variable {S : List Addr} {H H' : Hp} {p q b : Addr} {c n x y z : Nat}
theorem Pool.chg (e : Chg S H H') (h : p ∉ S) (o : Pool H p c) : Pool H' p c := by
  obtain ⟨a1, a2, a3, a4, e1⟩ := o
  exact ⟨a1, a2, a3, a4, e.keep _ _ e1 h⟩
theorem Nam.chg (e : Chg S H H') (h : q ∉ S) (o : Nam H q n) : Nam H' q n := by
  obtain ⟨ns, h1, h2, h3⟩ := o
  exact ⟨ns, h1, h2, e.keep _ _ h3 h⟩
theorem Bud.chg (e : Chg S H H') (h : b ∉ S) (o : Bud H b x y z) : Bud H' b x y z := e.keep _ _ o h
theorem Pool.ex (e : Ex H H') (o : Pool H p c) : Pool H' p c := o.chg e (by simp)
theorem Nam.ex (e : Ex H H') (o : Nam H q n) : Nam H' q n := o.chg e (by simp)
theorem Bud.ex (e : Ex H H') (o : Bud H b x y z) : Bud H' b x y z := o.chg e (by simp)
theorem Pool.ne (o : Pool H p c) (h : H q = none) : p ≠ q := by
  obtain ⟨a1, a2, a3, a4, e1⟩ := o
  exact ne_of_none e1 h
theorem Nam.ne (o : Nam H q n) (h : H p = none) : q ≠ p := by
  obtain ⟨ns, h1, h2, h3⟩ := o
  exact ne_of_none h3 h
theorem Bud.ne (o : Bud H b x y z) (h : H p = none) : b ≠ p := ne_of_none o h
theorem Pool.wr {l : Addr} {o : HO} (w : Wr l o H H') (h : p ≠ l) (k : Pool H p c) : Pool H' p c := by
  obtain ⟨a1, a2, a3, a4, e1⟩ := k
  exact ⟨a1, a2, a3, a4, by rw [w.ne _ h]; exact e1⟩
theorem Nam.wr {l : Addr} {o : HO} (w : Wr l o H H') (h : q ≠ l) (k : Nam H q n) : Nam H' q n := by
  obtain ⟨ns, h1, h2, h3⟩ := k
  exact ⟨ns, h1, h2, by rw [w.ne _ h]; exact h3⟩
theorem Bud.wr {l : Addr} {o : HO} (w : Wr l o H H') (h : b ≠ l) (k : Bud H b x y z) : Bud H' b x y z := by
  show H' b = _
  rw [w.ne _ h]; exact k
end
/-- the slices -/
theorem cut_lo {xs : List V} {k : Int} (h0 : 0 ≤ k) (h1 : k ≤ xs.length) : cutV xs none (some k) = xs.take k.toNat := by
  unfold cutV
  have e : HT.sIx xs.length xs.length (some k) = k.toNat := by
    show (if k < 0 then (k + (xs.length : Int)).toNat else min k.toNat xs.length) = k.toNat
    rw [if_neg (by omega)]; omega
  rw [e, HT.sIx_none, List.drop_zero, Nat.sub_zero]
theorem cut_hi {xs : List V} {k : Int} (h0 : 0 ≤ k) (h1 : k ≤ xs.length) : cutV xs (some k) none = xs.drop k.toNat := by
  unfold cutV
  have e : HT.sIx xs.length 0 (some k) = k.toNat := by
    show (if k < 0 then (k + (xs.length : Int)).toNat else min k.toNat xs.length) = k.toNat
    rw [if_neg (by omega)]; omega
  rw [e, HT.sIx_none]
  exact List.take_of_length_le (by rw [List.length_drop]; exact Nat.le_refl _)
theorem cut_mid {xs : List V} {j k : Int} (h0 : 0 ≤ j) (h1 : j ≤ k) (h2 : k ≤ xs.length) : cutV xs (some j) (some k) = (xs.drop j.toNat).take (k.toNat - j.toNat) := by
  unfold cutV
  have e1 : HT.sIx xs.length 0 (some j) = j.toNat := by
    show (if j < 0 then (j + (xs.length : Int)).toNat else min j.toNat xs.length) = j.toNat
    rw [if_neg (by omega)]; omega
  have e2 : HT.sIx xs.length xs.length (some k) = k.toNat := by
    show (if k < 0 then (k + (xs.length : Int)).toNat else min k.toNat xs.length) = k.toNat
    rw [if_neg (by omega)]; omega
  rw [e1, e2]
theorem cut_last {xs : List V} : cutV xs none (some (-1)) = xs.dropLast := by
  unfold cutV
  have e : HT.sIx xs.length xs.length (some (-1)) = xs.length - 1 := by
    show (if (-1 : Int) < 0 then ((-1 : Int) + (xs.length : Int)).toNat else min (-1 : Int).toNat xs.length) = _
    rw [if_pos (by decide)]; omega
  rw [e, HT.sIx_none, List.drop_zero, Nat.sub_zero, List.dropLast_eq_take]
theorem at_nat {α : Type} {xs : List α} {i : Int} {v : α} (h0 : 0 ≤ i) (h : xs[i.toNat]? = some v) : atI xs i = some v := by
  have e : i = ((i.toNat : Nat) : Int) := (Int.toNat_of_nonneg h0).symm
  have q := atI_nat h
  rw [← e] at q
  exact q
theorem at_last {α : Type} {xs : List α} {v : α} : atI (xs ++ [v]) (-1) = some v := atI_last xs v
end K7

/-! ## K7W1 -/
/-! The law's pools, draws, names, texts. -/
namespace K7
open PySem PySem.Spec PyProof.Rows L2
section
variable {P : Program} {w : World} {K : PySem.W.Frag} {mg : Str → Option Value} {base : Heap}

/-! ### _law_pool -/
abbrev N_l_pool : List Str := ["_law_script", "_law_at_here", "_law_cell"]
theorem sc_l_pool : FnScope N_l_pool ["_law_script", "_law_at_here"] (defScope (top 30)) := ⟨rfl, rfl, rfl, by decide +kernel, rfl, by decide +kernel, by decide +kernel⟩
def spPool (K : PySem.W.Frag) : Sp := fun vs H Q _ => ∃ (a : Addr) (ns : List Int) (i : Nat), vs = [.ref a, .int i] ∧ SqL K H a (ns.map V.int) ∧ i ≤ 63 ∧ ∀ p H', H p = none → Ex H H' → Pool H' p 0 → Q (.ref p) H'
theorem ok_pool (D : Df K mg "_law_pool" (top 30)) (B : Bn mg) : Has P w K mg base 1 "_law_pool" (spPool K) := by
  refine D.has sc_l_pool (fun _ _ _ _ _ _ us hl => match us, hl with | [_, _], _ => rfl) (fun vs H Q E h => ?_) (fun f cdv A outer s H vs Q E hr h => ?_)
  · obtain ⟨a, ns, i, rfl, _⟩ := h
    rfl
  obtain ⟨a, ns, i, rfl, hS, hi, q⟩ := h
  refine ⟨_, (pss_cons (ps_set (i := 2) sc_l_pool.nd rfl (Or.inl rfl) pe_int) (pss_cons (ps_if (pt_cmpR op_lt (pv 1) (pe_callB (call_lenK (K := K)) rfl B.len PySem.boot_len (pa_cons (pv 0) pa_nil)) (nomark _)) (pss_one (ps_set (i := 2) sc_l_pool.nd rfl (Or.inl rfl) (pe_callB call_abs rfl B.ab (by decide +kernel) (pa_cons (pe_callTy call_int1 rfl B.int (by decide +kernel) (pa_cons (pe_ix ix_list (pv 0) (pv 1) (fun _ _ => rfl)) pa_nil)) pa_nil)))) pss_nil) (pss_one (ps_ret (pe_lstC (pa_cons (pv 2) (pa_cons pe_int (pa_cons (pe_callTy call_int1 rfl B.int (by decide +kernel) (pa_cons (pe_cmpR op_ge (pv 2) (pe_op op_pow pe_int pe_int) (nomark _)) pa_nil)) (pa_cons (pe_op op_mod (pe_callTy call_int1 rfl B.int (by decide +kernel) (pa_cons (pe_op op_add (pv 2) (pe_op op_mul (pv 1) pe_int)) pa_nil)) pe_int) (pa_cons pe_int pa_nil)))))))))), ?_⟩
  have c18 : CPow 10 18 := ⟨by decide, by decide, by decide⟩
  have cm : CMul (i : Int) 7919 := .inr ⟨by decide, by decide⟩
  refine ⟨_, rfl, _, rfl, _, _, rfl, lenQ hS, _, _, rfl, rfl, _, rfl, ?_⟩
  refine ite2 (fun c => ?_) (fun c => ?_)
  · have c' : (i : Int) < (((ns.map V.int).length : Nat) : Int) := of_decide_eq_true c
    rw [List.length_map] at c'
    have hi2 : i < ns.length := by omega
    have ha : atI (ns.map V.int) (i : Int) = some (.int ns[i]) := atI_nat (by rw [List.getElem?_map, List.getElem?_eq_getElem hi2]; rfl)
    refine ⟨_, rfl, _, rfl, _, _, _, _, rfl, rfl, hS, ha, .inl ⟨_, rfl, _, rfl, ?_⟩⟩
    refine ⟨_, rfl, _, rfl, _, _, rfl, rfl, c18, _, _, rfl, rfl, .inr ⟨_, rfl, ?_⟩⟩
    refine ⟨_, rfl, _, rfl, _, _, rfl, rfl, cm, _, _, rfl, rfl, .inl ⟨_, rfl, _, _, rfl, rfl, (by show (0 : Int) < 2147483647; decide), (by show 5 ≤ sizeLine; decide), ?_⟩⟩
    exact fun p H2 np e h => q p H2 np e ⟨_, _, _, _, h⟩
  · refine ⟨_, rfl, _, rfl, _, _, rfl, rfl, c18, _, _, rfl, rfl, .inr ⟨_, rfl, ?_⟩⟩
    refine ⟨_, rfl, _, rfl, _, _, rfl, rfl, cm, _, _, rfl, rfl, .inl ⟨_, rfl, _, _, rfl, rfl, (by show (0 : Int) < 2147483647; decide), (by show 5 ≤ sizeLine; decide), ?_⟩⟩
    exact fun p H2 np e h => q p H2 np e ⟨_, _, _, _, h⟩

/-! ### _law_take -/
abbrev N_l_take : List Str := ["_law_pool_here", "_law_many", "_law_got", "_law_one", "_law_two"]
theorem sc_l_take : FnScope N_l_take ["_law_pool_here", "_law_many"] (defScope (top 31)) := ⟨rfl, rfl, rfl, by decide +kernel, rfl, by decide +kernel, by decide +kernel⟩
def spTake : Sp := fun vs H Q _ => ∃ (p : Addr) (c : Nat) (m : Int), vs = [.ref p, .int m] ∧ Pool H p c ∧ c ≤ 100000000 ∧ 0 < m ∧ m ≤ 1000000000000 ∧
  ∀ r H', 0 ≤ r → r < m → Chg [p] H H' → Pool H' p (c + 1) → Q (.int r) H'
theorem ok_take (D : Df K mg "_law_take" (top 31)) (B : Bn mg) : Has P w K mg base 1 "_law_take" spTake := by
  refine D.has sc_l_take (fun _ _ _ _ _ _ us hl => match us, hl with | [_, _], _ => rfl) (fun vs H Q E h => ?_) (fun f cdv A outer s H vs Q E hr h => ?_)
  · obtain ⟨p, c, m, rfl, _⟩ := h
    rfl
  obtain ⟨p, c, m, rfl, ⟨cell, fl, sd, x, hp⟩, hc, m0, m1, q⟩ := h
  refine ⟨_, (pss_cons (ps_asg (pe_op op_add (pe_ix ix_lstC (pv 0) pe_int (fun _ _ => rfl)) pe_int) (pg_sub (pv 0) pe_int set_lstC)) (pss_cons (ps_if (pt_cmpR op_eq (pe_ix ix_lstC (pv 0) pe_int (fun _ _ => rfl)) pe_int (nomark _)) (pss_cons (ps_set (i := 2) sc_l_take.nd rfl (Or.inl rfl) (pe_op op_mod (pe_callTy call_int1 rfl B.int (by decide +kernel) (pa_cons (pe_ix ix_lstC (pv 0) pe_int (fun _ _ => rfl)) pa_nil)) (pv 1))) (pss_cons (ps_asg (pe_op op_fdivW (pe_ix ix_lstC (pv 0) pe_int (fun _ _ => rfl)) (pv 1)) (pg_sub (pv 0) pe_int set_lstC)) (pss_one (ps_ret (pv 2))))) pss_nil) (pss_cons (ps_set (i := 3) sc_l_take.nd rfl (Or.inl rfl) (pe_op op_mod (pe_callTy call_int1 rfl B.int (by decide +kernel) (pa_cons (pe_op op_add (pe_op op_add (pe_op op_mul (pe_ix ix_lstC (pv 0) pe_int (fun _ _ => rfl)) pe_int) (pe_op op_mul (pe_ix ix_lstC (pv 0) pe_int (fun _ _ => rfl)) pe_int)) pe_int) pa_nil)) pe_int)) (pss_cons (ps_set (i := 4) sc_l_take.nd rfl (Or.inl rfl) (pe_op op_mod (pe_callTy call_int1 rfl B.int (by decide +kernel) (pa_cons (pe_op op_add (pe_op op_add (pe_op op_mul (pv 3) pe_int) (pe_op op_fdivW (pv 3) pe_int)) (pe_op op_mul (pe_op op_mul (pe_ix ix_lstC (pv 0) pe_int (fun _ _ => rfl)) (pe_ix ix_lstC (pv 0) pe_int (fun _ _ => rfl))) pe_int)) pa_nil)) pe_int)) (pss_one (ps_ret (pe_op op_mod (pe_callTy call_int1 rfl B.int (by decide +kernel) (pa_cons (pe_op op_fdivW (pv 4) (pe_op op_add (pe_ix ix_lstC (pv 0) pe_int (fun _ _ => rfl)) pe_int)) pa_nil)) (pv 1)))))))), ?_⟩
  refine ⟨_, rfl, _, _, _, _, rfl, rfl, hp, rfl, _, _, rfl, rfl, _, rfl, _, _, _, _, rfl, rfl, hp, rfl, fun H1 w1 => ?_⟩
  have h1 : H1 p = some (.lst [.int cell, .int ((c + 1 : Nat) : Int), .int fl, .int sd, .int x]) := w1.here
  have e1 : Chg [p] H H1 := w1.chg hp (List.mem_singleton.mpr rfl)
  have cb : ((c + 1 : Nat) : Int) ≤ 100000001 := by omega
  have c0 : (0 : Int) ≤ ((c + 1 : Nat) : Int) := by omega
  refine ⟨_, rfl, _, _, _, _, rfl, rfl, h1, rfl, ⟨rfl, _, rfl, ?_⟩⟩
  refine ite2 (fun _ => ?_) (fun _ => ?_)
  · refine ⟨_, rfl, _, _, _, _, rfl, rfl, h1, rfl, .inl ⟨_, rfl, _, rfl, _, _, rfl, rfl, m0, ?_⟩⟩
    refine ⟨_, rfl, _, _, _, _, rfl, rfl, h1, rfl, _, rfl, _, _, rfl, rfl, wide_div m0 (b := 40) (by omega) (by decide) (by decide), _, rfl, _, _, _, _, rfl, rfl, h1, rfl, fun H2 w2 => ?_⟩
    refine ⟨_, rfl, ?_⟩
    exact q _ H2 (Int.emod_nonneg _ (by omega)) (Int.emod_lt_of_pos _ m0) (e1.trans (w2.chg h1 (List.mem_singleton.mpr rfl))) ⟨_, _, _, _, w2.here⟩
  · refine ⟨_, rfl, _, _, _, _, rfl, rfl, h1, rfl, _, _, rfl, rfl, .inr ⟨by decide, by decide⟩, ?_⟩
    refine ⟨_, rfl, _, _, _, _, rfl, rfl, h1, rfl, _, _, rfl, rfl, .inr ⟨by decide, by decide⟩, _, _, rfl, rfl, _, _, rfl, rfl, .inl ⟨_, rfl, _, _, rfl, rfl, (by show (0 : Int) < 2147483647; decide), ?_⟩⟩
    refine ⟨_, rfl, _, _, rfl, rfl, .inr ⟨by decide, by decide⟩, _, rfl, _, _, rfl, rfl, ⟨by decide, by decide⟩, _, _, rfl, rfl, ?_⟩
    refine ⟨_, rfl, _, _, _, _, rfl, rfl, h1, rfl, _, rfl, _, _, _, _, rfl, rfl, h1, rfl, _, _, rfl, rfl, .inr ⟨by omega, by omega⟩, _, _, rfl, rfl, .inr ⟨by decide, by decide⟩, _, _, rfl, rfl, .inl ⟨_, rfl, _, _, rfl, rfl, (by show (0 : Int) < 2147483399; decide), ?_⟩⟩
    refine ⟨_, rfl, _, rfl, _, _, _, _, rfl, rfl, h1, rfl, _, _, rfl, rfl, _, _, rfl, rfl, wide_div (b := 40) (by omega) (by omega) (by decide) (by decide), .inl ⟨_, rfl, _, rfl, _, _, rfl, rfl, m0, ?_⟩⟩
    exact q _ H1 (Int.emod_nonneg _ (by omega)) (Int.emod_lt_of_pos _ m0) e1 ⟨_, _, _, _, h1⟩
end
end K7

/-! ## K7W2 -/
/-! The law's names, marks, texts. -/
namespace K7
open PySem PySem.Spec PyProof.Rows L2
/-- a statement, what it reaches, what follows -/
theorem seq_cut {t u : TS} {D : Ends} {σ : L2.St} {H : Hp} (I : L2.St → Hp → Prop) (h1 : ∀ N : L2.St → Hp → Prop, (∀ σ' H', I σ' H' → N σ' H') → t { D with nx := N } σ H) (h2 : ∀ σ' H', I σ' H' → u D σ' H') : tSeq t u D σ H := h1 (u D) h2
theorem seq_if {c : TT} {t u : TS} {D : Ends} {σ : L2.St} {H : Hp} (h : c σ H fun b H1 => if b = true then t { D with nx := u D } σ H1 else u D σ H1) : tSeq (tIfS c t tNext) u D σ H := h
theorem seq_asg {te : TE} {g : TG} {u : TS} {D : Ends} {σ : L2.St} {H : Hp} (h : te σ H fun x H1 => g x σ H1 (u D)) : tSeq (tAsg te g) u D σ H := h
theorem seq_asgN {te : TE} {i : Nat} {u : TS} {D : Ends} {σ : L2.St} {H : Hp} (h : te σ H fun x H1 => u D (σ.set i (some x)) H1) : tSeq (tAsg te (gName i)) u D σ H := h
theorem seq_asgC {v : V} {i : Nat} {u : TS} {D : Ends} {σ : L2.St} {H : Hp} (h : u D (σ.set i (some v)) H) : tSeq (tAsg (tC v) (gName i)) u D σ H := h
/-! ### texts -/
def Sg (s : Str) : Prop := ∀ c ∈ s.cps.toList, c ≠ 35 ∧ c < 128
theorem sg_app {a b : Str} (h : Sg a) (h' : Sg b) : Sg (a ++ b) := fun c hc => by
  have e : (a ++ b).cps.toList = a.cps.toList ++ b.cps.toList := PySem.W.KT.app_list a b
  rw [e] at hc
  rcases List.mem_append.mp hc with m | m
  · exact h c m
  · exact h' c m
theorem sg_cut {a : Str} {lo hi : Option Int} (h : Sg a) : Sg (cutS a lo hi) := fun c hc => by
  have e : (cutS a lo hi).cps.toList = (a.cps.toList.drop (HT.sIx a.length 0 lo)).take (HT.sIx a.length a.length hi - HT.sIx a.length 0 lo) := rfl
  rw [e] at hc
  exact h c (List.mem_of_mem_drop (List.mem_of_mem_take hc))
theorem len_list (s : Str) : s.cps.toList.length = s.length := Array.length_toList
theorem len_cut_lo {a : Str} {k : Int} (h0 : 0 ≤ k) (h1 : k ≤ a.length) : (cutS a none (some k)).length = k.toNat := by
  have e : (cutS a none (some k)).cps.toList = (a.cps.toList.drop 0).take (HT.sIx a.length a.length (some k) - 0) := rfl
  have e1 : HT.sIx a.length a.length (some k) = k.toNat := by
    show (if k < 0 then (k + (a.length : Int)).toNat else min k.toNat a.length) = k.toNat
    rw [if_neg (by omega)]; omega
  rw [← len_list, e, e1, List.length_take, List.length_drop, len_list]; omega
theorem len_cut_hi {a : Str} {k : Int} (h0 : 0 ≤ k) (h1 : k ≤ a.length) : (cutS a (some k) none).length = a.length - k.toNat := by
  have e : (cutS a (some k) none).cps.toList = (a.cps.toList.drop (HT.sIx a.length 0 (some k))).take (a.length - HT.sIx a.length 0 (some k)) := rfl
  have e1 : HT.sIx a.length 0 (some k) = k.toNat := by
    show (if k < 0 then (k + (a.length : Int)).toNat else min k.toNat a.length) = k.toNat
    rw [if_neg (by omega)]; omega
  rw [← len_list, e, e1, List.length_take, List.length_drop, len_list]; omega
theorem len_app (a b : Str) : (a ++ b).length = a.length + b.length := Str.length_append a b
theorem len_pos {s : Str} (h : s ≠ ("" : Str)) : 1 ≤ s.length := by
  rcases Nat.eq_zero_or_pos s.length with e | e
  · exfalso
    apply h
    obtain ⟨cs⟩ := s
    have e' : cs.size = 0 := e
    rw [Array.eq_empty_of_size_eq_zero e']; rfl
  · exact e
/-- a sign of a written text -/
theorem sign_at {z : Str} {n : Nat} {r : Int} (hl : z.cps.toList.length = n) (ha : z.cps.toList.all (fun c => c != 35 && decide (c < 128)) = true) (h0 : 0 ≤ r) (h1 : r < n) : ∃ c, atI z.cps.toList r = some c ∧ c ≠ 35 ∧ c < 128 := by
  have hr : r.toNat < z.cps.toList.length := by rw [hl]; omega
  refine ⟨z.cps.toList[r.toNat], at_nat h0 (List.getElem?_eq_getElem hr), ?_⟩
  have q := List.all_eq_true.mp ha _ (List.getElem_mem hr)
  simpa using q
theorem sg_one {c : Nat} (h : c ≠ 35 ∧ c < 128) : Sg ⟨#[c]⟩ := fun d hd => by
  have e : d = c := by simpa using hd
  rw [e]; exact h
theorem join_sg : ∀ {ys : List Str}, (∀ y ∈ ys, y.length = 1 ∧ Sg y) → (Str.join ("" : Str) ys).length = ys.length ∧ Sg (Str.join ("" : Str) ys)
  | [], _ => ⟨rfl, fun c hc => by cases hc⟩
  | [x], h => by
    obtain ⟨h1, h2⟩ := h x (List.mem_cons_self ..)
    exact ⟨h1, h2⟩
  | x :: y :: r, h => by
    obtain ⟨h1, h2⟩ := h x (List.mem_cons_self ..)
    obtain ⟨i1, i2⟩ := join_sg (ys := y :: r) fun z hz => h z (List.mem_cons_of_mem _ hz)
    have e : Str.join ("" : Str) (x :: y :: r) = x ++ ("" : Str) ++ Str.join ("" : Str) (y :: r) := rfl
    have z : (("" : Str)).length = 0 := rfl
    refine ⟨?_, ?_⟩
    · rw [e, len_app, len_app, h1, i1, z, List.length_cons, List.length_cons, List.length_cons]; omega
    · rw [e]; exact sg_app (sg_app h2 fun c hc => by cases hc) i2
theorem sum_ones : ∀ {ys : List Str}, (∀ y ∈ ys, y.length = 1) → (ys.map (·.length)).sum = ys.length
  | [], _ => rfl
  | x :: r, h => by
    rw [List.map_cons, List.sum_cons, sum_ones fun z hz => h z (List.mem_cons_of_mem _ hz), h x (List.mem_cons_self ..), List.length_cons]; omega
section
variable {P : Program} {w : World} {K : PySem.W.Frag} {mg : Str → Option Value} {base : Heap} {k : Nat}

/-- the signs that a comprehension has made so far -/
structure Signs (H0 : Hp) (p D : Addr) (c i : Nat) (H : Hp) : Prop where
  ex : ∃ ss : List Str, ss.length = i ∧ (∀ s ∈ ss, s.length = 1 ∧ Sg s) ∧ H D = some (.lst (ss.map V.str))
  pool : Pool H p (c + i)
  chg : Chg [p] H0 H
theorem Signs.start {H : Hp} {p D : Addr} {c : Nat} (hp : Pool H p c) (nD : H D = none) : Signs H p D c 0 (upd H D (.lst [])) :=
  ⟨⟨[], rfl, (fun s h => by cases h), upd_same⟩, hp.ex (Chg.new nD), Chg.new nD⟩
theorem Signs.next {H0 H1 H2 : Hp} {p D : Addr} {c i : Nat} {ch : Nat} (s : Signs H0 p D c i H1) (nD : H0 D = none) (h0 : Pool H0 p c) (e : Chg [p] H1 H2) (hp : Pool H2 p (c + i + 1)) (hc : ch ≠ 35 ∧ ch < 128) (hi : i < 1000) :
    ∃ acc, H2 D = some (.lst acc) ∧ acc.length < sizeLine ∧ Signs H0 p D c (i + 1) (upd H2 D (.lst (acc ++ [V.str ⟨#[ch]⟩]))) := by
  obtain ⟨ss, h1, h2, h3⟩ := s.ex
  have npD : p ≠ D := h0.ne nD
  have hD := e.keep _ _ h3 (by simpa using fun z => npD z.symm)
  refine ⟨_, hD, by rw [List.length_map, h1]; exact szl (by omega), ⟨ss ++ [⟨#[ch]⟩], by simp [h1], fun s hs => ?_, by rw [List.map_append]; exact upd_same⟩, hp.wr (Wr.upd ..) npD, (s.chg.trans e).wr (Wr.upd ..) nD⟩
  rcases List.mem_append.mp hs with m | m
  · exact h2 s m
  · rw [List.mem_singleton.mp m]; exact ⟨rfl, sg_one hc⟩

/-! ### _law_letters -/
abbrev N_l_letters : List Str := ["_law_pool_here", "_law_many", "_law_abc", "_law_k"]
theorem sc_l_letters : FnScope N_l_letters ["_law_pool_here", "_law_many"] (defScope (top 33)) := ⟨rfl, rfl, rfl, by decide +kernel, rfl, by decide +kernel, by decide +kernel⟩
def spLetters : Sp := fun vs H Q _ => ∃ (p : Addr) (c : Nat) (m : Int), vs = [.ref p, .int m] ∧ Pool H p c ∧ c ≤ 90000000 ∧ 0 ≤ m ∧ m ≤ 100 ∧
  ∀ s H', s.length = m.toNat → Sg s → Chg [p] H H' → Pool H' p (c + m.toNat) → Q (.str s) H'
theorem ok_letters (D : Df K mg "_law_letters" (top 33)) (B : Bn mg) (G_l_take : Has P w K mg base k "_law_take" spTake) : Has P w K mg base (k + 1) "_law_letters" spLetters := by
  refine D.has sc_l_letters (fun _ _ _ _ _ _ us hl => match us, hl with | [_, _], _ => rfl) (fun vs H Q E h => ?_) (fun f cdv A outer s H vs Q E hr h => ?_)
  · obtain ⟨p, c, m, rfl, _⟩ := h
    rfl
  obtain ⟨p, c, m, rfl, hp, hc, m0, m1, q⟩ := h
  refine ⟨_, (pss_cons (ps_set (i := 2) sc_l_letters.nd rfl (Or.inr rfl) pe_str) (pss_one (ps_ret (pe_join pe_str (pe_lc (own := [("_law_k", 3)]) (g := gName 3) rfl sc_l_letters.nd (pi_range1 rfl B.rng (pa_cons (pv 1) pa_nil)) (blkOk_by (own := [("_law_k", 3)]) (N := N_l_letters) (sc := defScope (top 33)) (by decide +kernel)) (fun _ _ _ _ _ => pg_name (i := 3) sc_l_letters.nd rfl (Or.inl rfl)) (fun _ _ _ _ _ => pts_nil) (fun _ _ _ _ _ => (pe_ix ix_str (pv 2) (pe_has G_l_take hr (pa_cons (pv 0) (pa_cons pe_int pa_nil))) (fun _ _ => rfl)))))))), ?_⟩
  refine ⟨⟨_, rfl⟩, _, rfl, _, rfl, by omega, by omega, fun D nD => lc_range (lo := 0) (n := m.toNat) (Signs H p D c) (Signs.start hp nD) (fun i H1 hi s => ⟨rfl, ?_⟩) (fun H1 s => ?_)⟩
  · refine ⟨_, rfl, _, rfl, p, c + i, 26, rfl, s.pool, by omega, by decide, by decide, fun r H2 r0 r1 e2 p2 => ?_⟩
    obtain ⟨ch, ha, hch⟩ := sign_at (z := ("abcdefghijklmnopqrstuvwxyz" : Str)) (n := 26) (by decide +kernel) (by decide +kernel) r0 r1
    exact ⟨_, _, _, rfl, rfl, (by decide +kernel), ha, s.next nD hp e2 p2 hch (by omega)⟩
  · obtain ⟨ss, h1, h2, h3⟩ := s.ex
    have l1 := sum_ones (ys := ss) fun y hy => (h2 y hy).1
    have z : (("" : Str)).length = 0 := rfl
    obtain ⟨j1, j2⟩ := join_sg h2
    refine ⟨_, D, ss, rfl, rfl, .inl (SqL.of h3), by rw [l1, z, h1]; omega, ?_⟩
    rw [TL.join_eq]
    exact q _ H1 (by rw [j1, h1]) j2 s.chg s.pool

/-! ### _law_prose -/
abbrev N_l_prose : List Str := ["_law_pool_here", "_law_many", "_law_signs", "_law_k"]
theorem sc_l_prose : FnScope N_l_prose ["_law_pool_here", "_law_many"] (defScope (top 36)) := ⟨rfl, rfl, rfl, by decide +kernel, rfl, by decide +kernel, by decide +kernel⟩
def spProse : Sp := spLetters
theorem ok_prose (D : Df K mg "_law_prose" (top 36)) (B : Bn mg) (G_l_take : Has P w K mg base k "_law_take" spTake) : Has P w K mg base (k + 1) "_law_prose" spProse := by
  refine D.has sc_l_prose (fun _ _ _ _ _ _ us hl => match us, hl with | [_, _], _ => rfl) (fun vs H Q E h => ?_) (fun f cdv A outer s H vs Q E hr h => ?_)
  · obtain ⟨p, c, m, rfl, _⟩ := h
    rfl
  obtain ⟨p, c, m, rfl, hp, hc, m0, m1, q⟩ := h
  refine ⟨_, (pss_cons (ps_set (i := 2) sc_l_prose.nd rfl (Or.inr rfl) pe_str) (pss_one (ps_ret (pe_join pe_str (pe_lc (own := [("_law_k", 3)]) (g := gName 3) rfl sc_l_prose.nd (pi_range1 rfl B.rng (pa_cons (pv 1) pa_nil)) (blkOk_by (own := [("_law_k", 3)]) (N := N_l_prose) (sc := defScope (top 36)) (by decide +kernel)) (fun _ _ _ _ _ => pg_name (i := 3) sc_l_prose.nd rfl (Or.inl rfl)) (fun _ _ _ _ _ => pts_nil) (fun _ _ _ _ _ => (pe_ix ix_str (pv 2) (pe_callB (call_max2 rfl) rfl B.mx (by decide +kernel) (pa_cons pe_int (pa_cons (pe_op op_sub (pe_has G_l_take hr (pa_cons (pv 0) (pa_cons pe_int pa_nil))) pe_int) pa_nil))) (fun _ _ => rfl)))))))), ?_⟩
  refine ⟨⟨_, rfl⟩, _, rfl, _, rfl, by omega, by omega, fun D nD => lc_range (lo := 0) (n := m.toNat) (Signs H p D c) (Signs.start hp nD) (fun i H1 hi s => ⟨rfl, ?_⟩) (fun H1 s => ?_)⟩
  · refine ⟨_, rfl, _, rfl, p, c + i, 93, rfl, s.pool, by omega, by decide, by decide, fun r H2 r0 r1 e2 p2 => ?_⟩
    have b0 : 0 ≤ (if r - 20 > 0 then r - 20 else 0) := by split <;> omega
    have b1 : (if r - 20 > 0 then r - 20 else 0) < ((73 : Nat) : Int) := by split <;> omega
    obtain ⟨ch, ha, hch⟩ := sign_at (z := (" abcdefghijklmnopqrstuvwxyzABCDEFGHIJKLMNOPQRSTUVWXYZ0123456789.,;:!?'()|" : Str)) (n := 73) (by decide +kernel) (by decide +kernel) b0 b1
    exact ⟨_, _, rfl, rfl, _, _, rfl, _, _, _, rfl, rfl, (by decide +kernel), ha, s.next nD hp e2 p2 hch (by omega)⟩
  · obtain ⟨ss, h1, h2, h3⟩ := s.ex
    have l1 := sum_ones (ys := ss) fun y hy => (h2 y hy).1
    have z : (("" : Str)).length = 0 := rfl
    obtain ⟨j1, j2⟩ := join_sg h2
    refine ⟨_, D, ss, rfl, rfl, .inl (SqL.of h3), by rw [l1, z, h1]; omega, ?_⟩
    rw [TL.join_eq]
    exact q _ H1 (by rw [j1, h1]) j2 s.chg s.pool

/-! ### _law_name -/
theorem Nam.at {H : Hp} {q : Addr} {n : Nat} {r : Int} (h : Nam H q n) (h0 : 0 ≤ r) (h1 : r < n) : ∃ xs s, H q = some (.lst xs) ∧ xs.length = n ∧ atI xs r = some (.str s) ∧ NameOk s := by
  obtain ⟨ns, e, hn, hq⟩ := h
  have hr : r.toNat < ns.length := by omega
  refine ⟨_, ns[r.toNat], hq, by rw [List.length_map]; exact e, at_nat h0 ?_, hn _ (List.getElem_mem hr)⟩
  rw [List.getElem?_map, List.getElem?_eq_getElem hr]; rfl
theorem Nam.len {H : Hp} {q : Addr} {n : Nat} (h : Nam H q n) : LenV K (.ref q) H n := by
  obtain ⟨ns, e, hn, hq⟩ := h
  have l : LenV K (.ref q) H (ns.map V.str).length := lenL hq
  rw [List.length_map, e] at l
  exact l
theorem Nam.put {H H' : Hp} {q : Addr} {n : Nat} {s : Str} (h : Nam H q n) (hs : NameOk s) : ∃ xs, H q = some (.lst xs) ∧ xs.length = n ∧ ∀ H', Wr q (.lst (xs ++ [V.str s])) H H' → Nam H' q (n + 1) := by
  obtain ⟨ns, e, hn, hq⟩ := h
  refine ⟨_, hq, by rw [List.length_map]; exact e, fun H' w => ⟨ns ++ [s], by simp [e], fun t ht => ?_, by rw [List.map_append]; exact w.here⟩⟩
  rcases List.mem_append.mp ht with m | m
  · exact hn t m
  · rw [List.mem_singleton.mp m]; exact hs
abbrev N_l_name : List Str := ["_law_pool_here", "_law_names", "_law_sort", "_law_name_here", "_law_at_here"]
theorem sc_l_name : FnScope N_l_name ["_law_pool_here", "_law_names"] (defScope (top 34)) := ⟨rfl, rfl, rfl, by decide +kernel, rfl, by decide +kernel, by decide +kernel⟩
def spName : Sp := fun vs H Q _ => ∃ (p q : Addr) (c n : Nat), vs = [.ref p, .ref q] ∧ p ≠ q ∧ Pool H p c ∧ c ≤ 80000000 ∧ Nam H q n ∧ n ≤ 8000000 ∧
  ∀ s H' c', NameOk s → Chg [p, q] H H' → Pool H' p c' → c' ≤ c + 20 → Nam H' q (n + 1) → Q (.str s) H'
/-- between the ifs -/
def NameI (H : Hp) (p q : Addr) (c : Nat) (r : Int) (b : Nat) (σ : L2.St) (H' : Hp) : Prop := ∃ (nm : Str) (at_ : Option V) (c' : Nat), σ = [some (.ref p), some (.ref q), some (.int r), some (.str nm), at_] ∧ nm.length ≤ 8 ∧ Sg nm ∧ Chg [p] H H' ∧ Pool H' p c' ∧ c' ≤ c + b
theorem ok_name (D : Df K mg "_law_name" (top 34)) (B : Bn mg) (G_l_take : Has P w K mg base k "_law_take" spTake) (G_l_letters : Has P w K mg base k "_law_letters" spLetters) : Has P w K mg base (k + 1) "_law_name" spName := by
  refine D.has sc_l_name (fun _ _ _ _ _ _ us hl => match us, hl with | [_, _], _ => rfl) (fun vs H Q E h => ?_) (fun f cdv A outer s H vs Q E hr h => ?_)
  · obtain ⟨p, q, c, n, rfl, _⟩ := h
    rfl
  obtain ⟨p, q, c, n, rfl, npq, hp, hc, hn, hn2, k0⟩ := h
  have nqp : q ∉ [p] := by simpa using Ne.symm npq
  refine ⟨_, (pss_cons (ps_set (i := 2) sc_l_name.nd rfl (Or.inl rfl) (pe_has G_l_take hr (pa_cons (pv 0) (pa_cons pe_int pa_nil)))) (pss_cons (ps_set (i := 3) sc_l_name.nd rfl (Or.inl rfl) pe_str) (pss_cons (ps_if (PW.pt (pw_and (pt_cmpR op_gt (pv 2) pe_int (nomark _)) (pw_and1 (pt_cmpR op_gt (pe_callB (call_lenK (K := K)) rfl B.len PySem.boot_len (pa_cons (pv 1) pa_nil)) pe_int (nomark _))))) (pss_one (ps_set (i := 3) sc_l_name.nd rfl (Or.inl rfl) (pe_ix ix_lstC (pv 1) (pe_has G_l_take hr (pa_cons (pv 0) (pa_cons (pe_callB (call_lenK (K := K)) rfl B.len PySem.boot_len (pa_cons (pv 1) pa_nil)) pa_nil))) (fun _ _ => rfl)))) pss_nil) (pss_cons (ps_if (PW.pt (pw_and (pt_cmpR op_eq (pv 2) pe_int (nomark _)) (pw_and1 (pt_cmpR op_gt (pe_callB (call_lenK (K := K)) rfl B.len PySem.boot_len (pa_cons (pv 3) pa_nil)) pe_int (nomark _))))) (pss_cons (ps_set (i := 4) sc_l_name.nd rfl (Or.inl rfl) (pe_has G_l_take hr (pa_cons (pv 0) (pa_cons (pe_callB (call_lenK (K := K)) rfl B.len PySem.boot_len (pa_cons (pv 3) pa_nil)) pa_nil)))) (pss_one (ps_set (i := 3) sc_l_name.nd rfl (Or.inl rfl) (pe_op op_add_str (pe_op op_add_str (pe_slice sl_str (pv 3) po_none (po_some (pv 4))) (pe_has G_l_letters hr (pa_cons (pv 0) (pa_cons pe_int pa_nil)))) (pe_slice sl_str (pv 3) (po_some (pe_op op_add (pv 4) pe_int)) po_none))))) pss_nil) (pss_cons (ps_if (PW.pt (pw_and (pt_cmpR op_eq (pv 2) pe_int (nomark _)) (pw_and1 (pt_chain op_lt op_lt pe_int (pe_callB (call_lenK (K := K)) rfl B.len PySem.boot_len (pa_cons (pv 3) pa_nil)) pe_int)))) (pss_one (ps_set (i := 3) sc_l_name.nd rfl (Or.inl rfl) (pe_op op_add_str (pv 3) (pe_has G_l_letters hr (pa_cons (pv 0) (pa_cons pe_int pa_nil)))))) pss_nil) (pss_cons (ps_if (pt_cmpR op_eq (pv 3) pe_str (nomark _)) (pss_one (ps_set (i := 3) sc_l_name.nd rfl (Or.inl rfl) (pe_has G_l_letters hr (pa_cons (pv 0) (pa_cons (pe_op op_add pe_int (pe_has G_l_take hr (pa_cons (pv 0) (pa_cons pe_int pa_nil)))) pa_nil))))) pss_nil) (pss_cons (ps_expr (pe_bm PySem.F.plainAttrs_list PySem.F.slot_list_append PySem.F.type_list_append mt_appC (pv 1) (pa_cons (pv 3) pa_nil))) (pss_one (ps_ret (pv 3)))))))))), ?_⟩
  refine seq_asgN ⟨_, rfl, p, c, 5, rfl, hp, by omega, by decide, by decide, fun r H1 r0 r1 e1 p1 => ?_⟩
  refine seq_asgC ?_
  refine seq_cut (NameI H p q c r 2) (fun N hN => ?_) ?_
  · refine ⟨_, rfl, _, _, rfl, rfl, _, rfl, ?_⟩
    refine ite2 (fun _ => ?_) (fun _ => ?_)
    · refine ⟨_, rfl, _, _, rfl, (hn.chg e1 nqp).len, _, _, rfl, rfl, _, rfl, ?_⟩
      refine ite2 (fun d => ?_) (fun _ => ?_)
      · have d' : (0 : Int) < (n : Int) := of_decide_eq_true d
        refine ⟨_, rfl, _, rfl, _, rfl, _, _, rfl, (hn.chg e1 nqp).len, p, c + 1, n, rfl, p1, by omega, d', by omega, fun r2 H2 a0 a1 e2 p2 => ?_⟩
        obtain ⟨xs, s2, hx, hl, ha, ok⟩ := (hn.chg (e1.trans e2) nqp).at a0 a1
        refine ⟨q, xs, _, _, rfl, rfl, hx, ha, ?_⟩
        exact hN _ _ ⟨s2, none, c + 2, rfl, ok.le, ok.no, e1.trans e2, p2, Nat.le_refl _⟩
      · exact hN _ _ ⟨_, none, c + 1, rfl, by decide, fun c hc => (by cases hc), e1, p1, by omega⟩
    · exact hN _ _ ⟨_, none, c + 1, rfl, by decide, fun c hc => (by cases hc), e1, p1, by omega⟩
  rintro σ2 H2 ⟨nm, at_, c2, rfl, l2, g2, e2, p2, b2⟩
  refine seq_cut (NameI H p q c r 4) (fun N hN => ?_) ?_
  · refine ⟨_, rfl, rfl, _, rfl, ?_⟩
    refine ite2 (fun _ => ?_) (fun _ => hN _ _ ⟨nm, at_, c2, rfl, l2, g2, e2, p2, by omega⟩)
    refine ⟨_, rfl, _, _, rfl, lenS (sz (by omega)), _, _, rfl, rfl, _, rfl, ?_⟩
    refine ite2 (fun d => ?_) (fun _ => hN _ _ ⟨nm, at_, c2, rfl, l2, g2, e2, p2, by omega⟩)
    have d' : (0 : Int) < (nm.length : Int) := of_decide_eq_true d
    refine ⟨_, rfl, _, rfl, _, _, rfl, lenS (sz (by omega)), p, c2, nm.length, rfl, p2, by omega, d', by omega, fun r3 H3 a0 a1 e3 p3 => ?_⟩
    refine ⟨_, rfl, _, rfl, _, rfl, _, rfl, sz (by omega), _, rfl, p, c2 + 1, 1, rfl, p3, by omega, by decide, by decide, fun s4 H4 l4 g4 e4 p4 => ?_⟩
    have k1 := len_cut_lo (a := nm) a0 (by omega)
    have k2 := len_cut_hi (a := nm) (k := r3 + 1) (by omega) (by omega)
    have l4' : s4.length = 1 := l4
    refine ⟨_, _, rfl, rfl, sz (by rw [k1]; omega), _, rfl, _, rfl, _, _, rfl, rfl, _, rfl, _, rfl, sz (by omega), _, _, rfl, rfl, sz (by rw [len_app, k1, k2]; omega), ?_⟩
    exact hN _ _ ⟨_, _, c2 + 1 + 1, rfl, by rw [len_app, len_app, k1, k2]; omega, sg_app (sg_app (sg_cut g2) g4) (sg_cut g2), (e2.trans e3).trans e4, p4, by omega⟩
  rintro σ3 H3 ⟨nm3, at3, c3, rfl, l3, g3, e3, p3, b3⟩
  refine seq_cut (NameI H p q c r 6) (fun N hN => ?_) ?_
  · refine ⟨_, rfl, rfl, _, rfl, ?_⟩
    refine ite2 (fun _ => ?_) (fun _ => hN _ _ ⟨nm3, at3, c3, rfl, l3, g3, e3, p3, by omega⟩)
    refine ⟨_, rfl, _, _, rfl, lenS (sz (by omega)), _, _, rfl, rfl, _, rfl, ?_⟩
    refine ite2 (fun d => ?_) (fun _ => ⟨_, rfl, ite2 (fun z => by cases z) fun _ => hN _ _ ⟨nm3, at3, c3, rfl, l3, g3, e3, p3, by omega⟩⟩)
    refine ⟨_, _, rfl, rfl, _, rfl, ?_⟩
    refine ite2 (fun d2 => ?_) (fun _ => hN _ _ ⟨nm3, at3, c3, rfl, l3, g3, e3, p3, by omega⟩)
    have d' : (nm3.length : Int) < 8 := of_decide_eq_true d2
    refine ⟨_, rfl, _, rfl, p, c3, 1, rfl, p3, by omega, by decide, by decide, fun s4 H4 l4 g4 e4 p4 => ?_⟩
    have l4' : s4.length = 1 := l4
    refine ⟨_, _, rfl, rfl, sz (by omega), ?_⟩
    exact hN _ _ ⟨_, _, c3 + 1, rfl, by rw [len_app]; omega, sg_app g3 g4, e3.trans e4, p4, by omega⟩
  rintro σ4 H4 ⟨nm4, at4, c4, rfl, l4, g4, e4, p4, b4⟩
  refine seq_cut (fun σ' H' => ∃ (nm : Str) (c' : Nat), σ' = [some (.ref p), some (.ref q), some (.int r), some (.str nm), at4] ∧ NameOk nm ∧ Chg [p] H H' ∧ Pool H' p c' ∧ c' ≤ c + 16) (fun N hN => ?_) ?_
  · refine ⟨_, rfl, rfl, _, rfl, ?_⟩
    refine ite2 (fun _ => ?_) (fun d => ?_)
    · refine ⟨_, rfl, _, rfl, p, c4, 8, rfl, p4, by omega, by decide, by decide, fun r5 H5 a0 a1 e5 p5 => ?_⟩
      refine ⟨_, _, rfl, rfl, p, c4 + 1, 1 + r5, rfl, p5, by omega, by omega, by omega, fun s6 H6 l6 g6 e6 p6 => ?_⟩
      exact hN _ _ ⟨s6, _, rfl, ⟨by omega, by omega, g6⟩, (e4.trans e5).trans e6, p6, by omega⟩
    · have d' : ¬ V.str nm4 = V.str "" := of_decide_eq_false (Bool.eq_false_iff.mpr d)
      have lp : 1 ≤ nm4.length := len_pos fun z => d' (by rw [z])
      exact hN _ _ ⟨nm4, c4, rfl, ⟨lp, l4, g4⟩, e4, p4, by omega⟩
  rintro σ5 H5 ⟨nm5, c5, rfl, ok5, e5, p5, b5⟩
  have n5 : Nam H5 q n := hn.chg e5 nqp
  obtain ⟨xs, hx, hl, hput⟩ := n5.put (H' := H5) ok5
  refine ⟨_, rfl, .inl ⟨rfl, _, SqL.of hx⟩, _, rfl, q, xs, _, rfl, rfl, hx, szl (by omega), fun H6 w6 => ?_⟩
  refine ⟨_, rfl, ?_⟩
  exact k0 nm5 H6 c5 ok5 ((e5.mono (by simp)).trans (w6.chg hx (by simp))) (p5.wr w6 npq) (by omega) (hput H6 w6)
end
end K7

/-! ## K7W3 -/
/-! The law's marks, texts, leaves. -/
namespace K7
open PySem PySem.Spec PyProof.Rows L2
/-- a pool at p and names at q, both within b -/
structure Gd (H : Hp) (p q : Addr) (b : Nat) : Prop where
  ne : p ≠ q
  pool : ∃ c, c ≤ b ∧ Pool H p c
  nam : ∃ n, n ≤ b ∧ Nam H q n
section
variable {S : List Addr} {H H' : Hp} {p q l : Addr} {b b' : Nat}
theorem Gd.mono (g : Gd H p q b) (h : b ≤ b') : Gd H p q b' := by
  obtain ⟨n, ⟨c, h1, h2⟩, ⟨m, h3, h4⟩⟩ := g
  exact ⟨n, ⟨c, by omega, h2⟩, ⟨m, by omega, h4⟩⟩
theorem Gd.chg (g : Gd H p q b) (e : Chg S H H') (h1 : p ∉ S) (h2 : q ∉ S) : Gd H' p q b := by
  obtain ⟨n, ⟨c, k1, k2⟩, ⟨m, k3, k4⟩⟩ := g
  exact ⟨n, ⟨c, k1, k2.chg e h1⟩, ⟨m, k3, k4.chg e h2⟩⟩
theorem Gd.ex (g : Gd H p q b) (e : Ex H H') : Gd H' p q b := g.chg e (by simp) (by simp)
theorem Gd.wr {o : HO} (g : Gd H p q b) (w : Wr l o H H') (h1 : p ≠ l) (h2 : q ≠ l) : Gd H' p q b := by
  obtain ⟨n, ⟨c, k1, k2⟩, ⟨m, k3, k4⟩⟩ := g
  exact ⟨n, ⟨c, k1, k2.wr w h1⟩, ⟨m, k3, k4.wr w h2⟩⟩
theorem Gd.nep (g : Gd H p q b) (h : H l = none) : l ≠ p := by
  obtain ⟨n, ⟨c, k1, k2⟩, ⟨m, k3, k4⟩⟩ := g
  exact (k2.ne h).symm
theorem Gd.neq (g : Gd H p q b) (h : H l = none) : l ≠ q := by
  obtain ⟨n, ⟨c, k1, k2⟩, ⟨m, k3, k4⟩⟩ := g
  exact (k4.ne h).symm
/-- of two places -/
theorem nm2 {a p q : Addr} (h1 : a ≠ p) (h2 : a ≠ q) : a ∉ [p, q] := by
  intro h
  rcases List.mem_cons.mp h with e | h
  · exact h1 e
  · exact h2 (List.mem_singleton.mp h)
theorem nm3 {a p q r : Addr} (h1 : a ≠ p) (h2 : a ≠ q) (h3 : a ≠ r) : a ∉ [p, q, r] := by
  intro h
  rcases List.mem_cons.mp h with e | h
  · exact h1 e
  · exact nm2 h2 h3 h
theorem c2 {H H' : Hp} {p q : Addr} (e : Chg [p] H H') : Chg [p, q] H H' := e.mono (by simp)
theorem c3 {H H' : Hp} {p q r : Addr} (e : Chg [p, q] H H') : Chg [p, q, r] H H' := e.mono (by
  intro x h
  rcases List.mem_cons.mp h with e | h
  · rw [e]; exact List.mem_cons_self ..
  · rw [List.mem_singleton.mp h]; simp)
end
section
variable {P : Program} {w : World} {K : PySem.W.Frag} {mg : Str → Option Value} {base : Heap} {k : Nat}
/-- the promises by the bound -/
def spTakeG : Sp := fun vs H Q _ => ∃ (p q : Addr) (b : Nat) (m : Int), vs = [.ref p, .int m] ∧ Gd H p q b ∧ b ≤ 8000000 ∧ 0 < m ∧ m ≤ 1000000000000 ∧
  ∀ r H', 0 ≤ r → r < m → Chg [p, q] H H' → Gd H' p q (b + 1) → Q (.int r) H'
theorem takeG (h : Has P w K mg base k "_law_take" spTake) : Has P w K mg base k "_law_take" spTakeG := h.imp fun vs H Q E ⟨p, q, b, m, e, g, hb, m0, m1, z⟩ => by
  obtain ⟨n, ⟨c, k1, k2⟩, ⟨j, k3, k4⟩⟩ := id g
  exact ⟨p, c, m, e, k2, by omega, m0, m1, fun r H' r0 r1 e1 p1 => z r H' r0 r1 (c2 e1) ⟨n, ⟨_, by omega, p1⟩, ⟨j, by omega, k4.chg e1 (by simpa using Ne.symm n)⟩⟩⟩
def spNameG : Sp := fun vs H Q _ => ∃ (p q : Addr) (b : Nat), vs = [.ref p, .ref q] ∧ Gd H p q b ∧ b ≤ 7000000 ∧
  ∀ s H', NameOk s → Chg [p, q] H H' → Gd H' p q (b + 20) → Q (.str s) H'
theorem nameG (h : Has P w K mg base k "_law_name" spName) : Has P w K mg base k "_law_name" spNameG := h.imp fun vs H Q E ⟨p, q, b, e, g, hb, z⟩ => by
  obtain ⟨n, ⟨c, k1, k2⟩, ⟨j, k3, k4⟩⟩ := id g
  exact ⟨p, q, c, j, e, n, k2, by omega, k4, by omega, fun s H' c' ok e1 p1 l1 n1 => z s H' ok e1 ⟨n, ⟨_, by omega, p1⟩, ⟨_, by omega, n1⟩⟩⟩
def spProseG : Sp := fun vs H Q _ => ∃ (p q : Addr) (b : Nat) (m : Int), vs = [.ref p, .int m] ∧ Gd H p q b ∧ b ≤ 8000000 ∧ 0 ≤ m ∧ m ≤ 100 ∧
  ∀ s H', s.length = m.toNat → Sg s → Chg [p, q] H H' → Gd H' p q (b + m.toNat) → Q (.str s) H'
theorem proseG (h : Has P w K mg base k "_law_prose" spProse) : Has P w K mg base k "_law_prose" spProseG := h.imp fun vs H Q E ⟨p, q, b, m, e, g, hb, m0, m1, z⟩ => by
  obtain ⟨n, ⟨c, k1, k2⟩, ⟨j, k3, k4⟩⟩ := id g
  exact ⟨p, c, m, e, k2, by omega, m0, m1, fun s H' l1 g1 e1 p1 => z s H' l1 g1 (c2 e1) ⟨n, ⟨_, by omega, p1⟩, ⟨j, by omega, k4.chg e1 (by simpa using Ne.symm n)⟩⟩⟩

/-! ### _law_marks -/
abbrev N_l_marks : List Str := ["_law_pool_here", "_law_names", "_law_marks_here", "_law_k", "_law_name_here", "_law_less", "_law_mark"]
theorem sc_l_marks : FnScope N_l_marks ["_law_pool_here", "_law_names"] (defScope (top 35)) := ⟨rfl, rfl, rfl, by decide +kernel, rfl, by decide +kernel, by decide +kernel⟩
def spMarks : Sp := fun vs H Q _ => ∃ (p q : Addr) (b : Nat), vs = [.ref p, .ref q] ∧ Gd H p q b ∧ b ≤ 6000000 ∧
  ∀ m (ms : List Str) H', H' m = some (.tup (ms.map V.str)) → (∀ s ∈ ms, Sg s) → Chg [p, q] H H' → Gd H' p q (b + 80) → Q (.ref m) H'
def MarksI (H : Hp) (p q : Addr) (b : Nat) (i : Nat) (σ : L2.St) (H' : Hp) : Prop := ∃ (l : Addr) (ms : List Str) (v3 v4 v5 v6 : Option V),
  σ = [some (.ref p), some (.ref q), some (.ref l), v3, v4, v5, v6] ∧ H' l = some (.lst (ms.map V.str)) ∧ (∀ s ∈ ms, Sg s) ∧ ms.length + 1 ≤ 2 ^ i ∧ l ≠ p ∧ l ≠ q ∧ Chg [p, q] H H' ∧ Gd H' p q (b + 1 + 20 * i)
/-- a comprehension over a list of texts, some of them kept -/
def Kept (H0 : Hp) (D : Addr) (i : Nat) (H : Hp) : Prop := ∃ zs : List Str, H D = some (.lst (zs.map V.str)) ∧ zs.length ≤ i ∧ Ex H0 H ∧ ∀ s ∈ zs, Sg s
theorem Kept.start {H : Hp} {D : Addr} (nD : H D = none) : Kept H D 0 (upd H D (.lst [])) := ⟨[], upd_same, Nat.le_refl _, Chg.new nD, fun s h => by cases h⟩
theorem Kept.next {H0 H : Hp} {D : Addr} {i : Nat} {s : Str} (nD : H0 D = none) (h : Kept H0 D i H) (hi : i < 1000) (hs : Sg s) : ∃ acc, H D = some (.lst acc) ∧ acc.length < sizeLine ∧ Kept H0 D (i + 1) (upd H D (.lst (acc ++ [V.str s]))) := by
  obtain ⟨zs, h1, h2, h3, h4⟩ := h
  refine ⟨_, h1, by rw [List.length_map]; exact szl (by omega), zs ++ [s], by rw [List.map_append]; exact upd_same, by rw [List.length_append, List.length_singleton]; omega, h3.wr (Wr.upd ..) nD, fun t ht => ?_⟩
  rcases List.mem_append.mp ht with m | m
  · exact h4 t m
  · rw [List.mem_singleton.mp m]; exact hs
theorem Kept.skip {H0 H : Hp} {D : Addr} {i : Nat} (h : Kept H0 D i H) : Kept H0 D (i + 1) H := by
  obtain ⟨zs, h1, h2, h3⟩ := h
  exact ⟨zs, h1, by omega, h3⟩
theorem str_of {ms : List Str} {i : Nat} {x : V} (h : (ms.map V.str)[i]? = some x) : ∃ s, x = .str s ∧ s ∈ ms := by
  rw [List.getElem?_map] at h
  cases e : ms[i]? with
  | none => rw [e] at h; cases h
  | some s => rw [e] at h; exact ⟨s, (Option.some.inj h).symm, List.mem_of_getElem? e⟩
theorem ok_marks (D : Df K mg "_law_marks" (top 35)) (B : Bn mg) (G_l_take : Has P w K mg base k "_law_take" spTakeG) (G_l_name : Has P w K mg base k "_law_name" spNameG) : Has P w K mg base (k + 1) "_law_marks" spMarks := by
  refine D.has sc_l_marks (fun _ _ _ _ _ _ us hl => match us, hl with | [_, _], _ => rfl) (fun vs H Q E h => ?_) (fun f cdv A outer s H vs Q E hr h => ?_)
  · obtain ⟨p, q, b, rfl, _⟩ := h
    rfl
  obtain ⟨p, q, b, rfl, g, hb, z⟩ := h
  refine ⟨_, (pss_cons (ps_set (i := 2) sc_l_marks.nd rfl (Or.inl rfl) (pe_lstC pa_nil)) (pss_cons (ps_for PassesOwn.never rfl (pi_range1 rfl B.rng (pa_cons (pe_has G_l_take hr (pa_cons (pv 0) (pa_cons pe_int pa_nil))) pa_nil)) (pg_name (i := 3) sc_l_marks.nd rfl (Or.inl rfl)) (pss_cons (ps_set (i := 4) sc_l_marks.nd rfl (Or.inr rfl) (pe_has G_l_name hr (pa_cons (pv 0) (pa_cons (pv 1) pa_nil)))) (pss_cons (ps_setLc (i := 5) (own := [("_law_mark", 6)]) (g := gName 6) rfl sc_l_marks.nd rfl rfl (sw_true rfl rfl rfl (by decide +kernel)) (pi_list (pv 2)) (blkOk_by (own := [("_law_mark", 6)]) (N := N_l_marks) (sc := defScope (top 35)) (by decide +kernel)) (fun _ _ _ _ _ => pg_name (i := 6) sc_l_marks.nd rfl (Or.inl rfl)) (fun _ _ _ _ _ => pts_one (pt_cmpR op_lt_str (pv 6) (pv 4) (nomark _))) (fun _ _ _ _ _ => (pv 6))) (pss_one (ps_set (i := 2) sc_l_marks.nd rfl (Or.inl rfl) (pe_op op_lcatC (pe_op op_lcatC (pv 5) (pe_lstC (pa_cons (pv 4) pa_nil))) (pe_lc (own := [("_law_mark", 6)]) (g := gName 6) rfl sc_l_marks.nd (pi_list (pv 2)) (blkOk_by (own := [("_law_mark", 6)]) (N := N_l_marks) (sc := defScope (top 35)) (by decide +kernel)) (fun _ _ _ _ _ => pg_name (i := 6) sc_l_marks.nd rfl (Or.inl rfl)) (fun _ _ _ _ _ => pts_one (pt_cmpR op_gt_str (pv 6) (pv 4) (nomark _))) (fun _ _ _ _ _ => (pv 6))))))))) (pss_one (ps_ret (pe_callTy call_tupC rfl B.tup (by decide +kernel) (pa_cons (pv 2) pa_nil)))))), ?_⟩
  refine ⟨by decide, fun l H1 nl e1 h1 => ?_⟩
  have g1 : Gd H1 p q b := g.ex e1
  refine ⟨_, rfl, p, q, b, 4, rfl, g1, by omega, by decide, by decide, fun r H2 r0 r1 e2 g2 => ?_⟩
  have e02 : Chg [p, q] H H2 := (Chg.of e1).trans e2
  have lp : l ≠ p := g.nep nl
  have lq : l ≠ q := g.neq nl
  refine ⟨r, rfl, by omega, by omega, for_range (lo := 0) (n := r.toNat) (MarksI H p q b) ⟨l, [], none, none, none, none, rfl, e2.keep _ _ h1 (nm2 lp lq), (fun s h => by cases h), by decide, lp, lq, e02, g2.mono (by omega)⟩ ?_ ?_⟩
  · rintro i σ H3 hi ⟨l, ms, v3, v4, v5, v6, rfl, hl, hg, hm, lp, lq, e3, g3⟩
    have i3 : i ≤ 3 := by omega
    have p8 : 2 ^ i ≤ 2 ^ 3 := Nat.pow_le_pow_right (by decide) i3
    have p8' : 2 ^ i ≤ 8 := p8
    refine seq_asgN ⟨_, rfl, _, rfl, p, q, _, rfl, g3, by omega, fun s H4 ok e4 g4 => ?_⟩
    have hl4 : H4 l = some (.lst (ms.map V.str)) := e4.keep _ _ hl (nm2 lp lq)
    refine seq_asgN ⟨_, rfl, l, rfl, ⟨_, SqL.of hl4⟩, fun D nD => lc_list (K := K) (a := l) (xs := ms.map V.str) (Kept H4 D) (Kept.start nD) (fun j H5 _ ⟨_, _, _, e5, _⟩ => SqL.of (e5.ex hl4)) (fun j x H5 hx h5 => ⟨rfl, ?_⟩) ?_⟩
    · obtain ⟨t, rfl, ht⟩ := str_of hx
      have hj : j < ms.length := by have := lt_of_get hx; rw [List.length_map] at this; exact this
      refine ⟨_, rfl, _, rfl, _, _, rfl, rfl, _, rfl, ?_⟩
      exact ite2 (fun _ => ⟨_, rfl, h5.next nD (by omega) (hg t ht)⟩) fun _ => h5.skip
    rintro H5 ⟨zs, hD, lz, e5, gz⟩
    rw [List.length_map] at lz
    have hl5 := e5.ex hl4
    have g5 := g4.ex e5
    refine ⟨_, rfl, _, rfl, by show 1 ≤ sizeLine; decide, fun p1 H6 n6 e6 h6 => ⟨_, _, _, _, rfl, rfl, e6.ex hD, h6, sz (by rw [List.length_map]; show zs.length + 1 ≤ _; omega), fun p2 H7 n7 e7 h7 => ?_⟩⟩
    have hl7 := e7.ex (e6.ex hl5)
    have g7 := (g5.ex e6).ex e7
    refine ⟨_, rfl, l, rfl, ⟨_, SqL.of hl7⟩, fun D nD => lc_list (K := K) (a := l) (xs := ms.map V.str) (Kept H7 D) (Kept.start nD) (fun j H8 _ ⟨_, _, _, e8, _⟩ => SqL.of (e8.ex hl7)) (fun j x H8 hx h8 => ⟨rfl, ?_⟩) ?_⟩
    · obtain ⟨t, rfl, ht⟩ := str_of hx
      have hj : j < ms.length := by have := lt_of_get hx; rw [List.length_map] at this; exact this
      refine ⟨_, rfl, _, rfl, _, _, rfl, rfl, _, rfl, ?_⟩
      exact ite2 (fun _ => ⟨_, rfl, h8.next nD (by omega) (hg t ht)⟩) fun _ => h8.skip
    rintro H8 ⟨ys, hD2, ly, e8, gy⟩
    rw [List.length_map] at ly
    refine ⟨_, _, _, _, rfl, rfl, e8.ex h7, hD2, sz (by rw [List.length_append, List.length_map, List.length_map]; show zs.length + 1 + ys.length ≤ _; omega), fun p3 H9 n9 e9 h9 => ?_⟩
    have g8 := g7.ex e8
    have e09 : Chg [p, q] H H9 := (((((e3.trans e4).to e5).to e6).to e7).to e8).to e9
    refine ⟨p3, zs ++ [s] ++ ys, _, _, _, _, rfl, ?_, fun t ht => ?_, ?_, g8.nep n9, g8.neq n9, e09, (g8.ex e9).mono (by omega)⟩
    · rw [h9, List.map_append, List.map_append]; rfl
    · rcases List.mem_append.mp ht with m | m
      · rcases List.mem_append.mp m with m | m
        · exact gz t m
        · rw [List.mem_singleton.mp m]; exact ok.no
      · exact gy t m
    · rw [List.length_append, List.length_append, List.length_singleton, Nat.pow_succ]; omega
  · rintro σ H3 ⟨l, ms, v3, v4, v5, v6, rfl, hl, hg, hm, lp, lq, e3, g3⟩
    refine ⟨_, rfl, l, _, rfl, SqL.of hl, fun t H4 e4 h4 => ?_⟩
    exact z t ms H4 h4 hg (e3.to e4) ((g3.ex e4).mono (by omega))

/-! ### _law_text -/
abbrev N_l_text : List Str := ["_law_pool_here", "_law_budget", "_law_many"]
theorem sc_l_text : FnScope N_l_text ["_law_pool_here", "_law_budget"] (defScope (top 37)) := ⟨rfl, rfl, rfl, by decide +kernel, rfl, by decide +kernel, by decide +kernel⟩
def spText : Sp := fun vs H Q _ => ∃ (p bu : Addr) (c y : Nat) (u : V) (r : List V), vs = [.ref p, .ref bu] ∧ p ≠ bu ∧ Pool H p c ∧ c ≤ 80000000 ∧ H bu = some (.lst (u :: .int y :: r)) ∧ 1 ≤ y ∧ y ≤ 400 ∧
  ∀ s H' c' y', 1 ≤ s.length → s.length ≤ 60 → Sg s → y' + s.length = y → Chg [p, bu] H H' → Pool H' p c' → c' ≤ c + 70 → H' bu = some (.lst (u :: .int (y' : Nat) :: r)) → Q (.str s) H'
theorem at1 {α : Type} (a b : α) (r : List α) : atI (a :: b :: r) 1 = some b := atI_nat (j := 1) rfl
theorem menu_at {r : Int} (h0 : 0 ≤ r) (h1 : r < 4) : ∃ v : Int, atI [V.int 4, V.int 4, V.int 9, V.int 60] r = some (.int v) ∧ 4 ≤ v ∧ v ≤ 60 := by
  have : r = 0 ∨ r = 1 ∨ r = 2 ∨ r = 3 := by omega
  rcases this with rfl | rfl | rfl | rfl
  · exact ⟨4, rfl, by decide, by decide⟩
  · exact ⟨4, rfl, by decide, by decide⟩
  · exact ⟨9, rfl, by decide, by decide⟩
  · exact ⟨60, rfl, by decide, by decide⟩
theorem ok_text (D : Df K mg "_law_text" (top 37)) (B : Bn mg) (G_l_take : Has P w K mg base k "_law_take" spTake) (G_l_prose : Has P w K mg base k "_law_prose" spProse) : Has P w K mg base (k + 1) "_law_text" spText := by
  refine D.has sc_l_text (fun _ _ _ _ _ _ us hl => match us, hl with | [_, _], _ => rfl) (fun vs H Q E h => ?_) (fun f cdv A outer s H vs Q E hr h => ?_)
  · obtain ⟨p, bu, c, y, u, r, rfl, _⟩ := h
    rfl
  obtain ⟨p, bu, c, y, u, r, rfl, npb, hp, hc, hb, y1, y4, z⟩ := h
  have nbp : bu ∉ [p] := by simpa using Ne.symm npb
  refine ⟨_, (pss_cons (ps_set (i := 2) sc_l_text.nd rfl (Or.inl rfl) (pe_ix ix_lstC (pe_lstC (pa_cons pe_int (pa_cons pe_int (pa_cons pe_int (pa_cons pe_int pa_nil))))) (pe_has G_l_take hr (pa_cons (pv 0) (pa_cons pe_int pa_nil))) (fun _ _ => rfl))) (pss_cons (ps_set (i := 2) sc_l_text.nd rfl (Or.inl rfl) (pe_op op_add pe_int (pe_has G_l_take hr (pa_cons (pv 0) (pa_cons (pe_callB (call_min2 rfl) rfl B.mn (by decide +kernel) (pa_cons (pe_callTy call_int1 rfl B.int (by decide +kernel) (pa_cons (pv 2) pa_nil)) (pa_cons (pe_ix ix_lstC (pv 1) pe_int (fun _ _ => rfl)) pa_nil))) pa_nil))))) (pss_cons (ps_asg (pe_op op_sub (pe_ix ix_lstC (pv 1) pe_int (fun _ _ => rfl)) (pv 2)) (pg_sub (pv 1) pe_int set_lstC)) (pss_one (ps_ret (pe_has G_l_prose hr (pa_cons (pv 0) (pa_cons (pv 2) pa_nil)))))))), ?_⟩
  refine seq_asgN ⟨by show 4 ≤ sizeLine; decide, fun l H1 nl e1 h1 => ?_⟩
  refine ⟨_, rfl, p, c, 4, rfl, hp.ex e1, by omega, by decide, by decide, fun r1 H2 a0 a1 e2 p2 => ?_⟩
  have lp : l ≠ p := (hp.ne nl).symm
  obtain ⟨v, hv, v0, v1⟩ := menu_at a0 a1
  refine ⟨l, _, _, _, rfl, rfl, e2.keep _ _ h1 (by simpa using lp), hv, ?_⟩
  have hb2 : H2 bu = some (.lst (u :: .int y :: r)) := e2.keep _ _ (e1.ex hb) nbp
  have mn : 0 < (if (y : Int) < v then (y : Int) else v) ∧ (if (y : Int) < v then (y : Int) else v) ≤ 60 ∧ (if (y : Int) < v then (y : Int) else v) ≤ y := by
    split <;> omega
  refine seq_asgN ⟨_, rfl, _, rfl, .inl ⟨_, rfl, _, rfl, bu, _, _, _, rfl, rfl, hb2, at1 _ _ _, _, _, rfl, p, c + 1, _, rfl, p2, by omega, mn.1, by omega, fun r3 H3 b0 b1 e3 p3 => ?_⟩⟩
  have hb3 : H3 bu = some (.lst (u :: .int y :: r)) := e3.keep _ _ hb2 nbp
  refine ⟨_, _, rfl, rfl, ?_⟩
  obtain ⟨y', hy'⟩ : ∃ y' : Nat, (y : Int) - (1 + r3) = (y' : Int) := ⟨((y : Int) - (1 + r3)).toNat, by omega⟩
  refine ⟨_, rfl, bu, _, _, _, rfl, rfl, hb3, at1 _ _ _, _, rfl, _, _, rfl, rfl, _, rfl, bu, _, _, 1, rfl, rfl, hb3, ?_, fun H4 w4 => ?_⟩
  · show ixN (r.length + 1 + 1) 1 = some 1
    unfold ixN
    rw [if_pos (by decide), if_pos (by omega)]; rfl
  have hb4 : H4 bu = some (.lst (u :: .int (y' : Nat) :: r)) := by
    rw [w4.here, ← hy']; rfl
  have p4 : Pool H4 p (c + 1 + 1) := p3.wr w4 npb
  have e04 : Chg [p, bu] H H4 := ((((Chg.of e1).trans e2).trans e3).mono (by simp)).trans (w4.chg hb3 (by simp))
  refine ⟨_, rfl, _, rfl, p, c + 1 + 1, 1 + r3, rfl, p4, by omega, by omega, by omega, fun s5 H5 l5 g5 e5 p5 => ?_⟩
  exact z s5 H5 _ y' (by omega) (by omega) g5 (by omega) (e04.trans (e5.mono (by simp))) p5 (by omega) (e5.keep _ _ hb4 nbp)

/-! ### _law_leaf -/
abbrev N_l_leaf : List Str := ["_law_pool_here", "_law_names"]
theorem sc_l_leaf : FnScope N_l_leaf ["_law_pool_here", "_law_names"] (defScope (top 41)) := ⟨rfl, rfl, rfl, by decide +kernel, rfl, by decide +kernel, by decide +kernel⟩
/-- what a leaf is -/
def Leaf (d : It) : Prop := (∃ n, d = .two "#" n) ∨ ∃ s, d = .txt s ∧ s.length = 1
def spLeaf : Sp := fun vs H Q _ => ∃ (p q : Addr) (b : Nat), vs = [.ref p, .ref q] ∧ Gd H p q b ∧ b ≤ 6000000 ∧
  ∀ v d H', Rep H' d v → Leaf d → Chg [p, q] H H' → Gd H' p q (b + 30) → Q v H'
theorem ok_leaf (D : Df K mg "_law_leaf" (top 41)) (B : Bn mg) (G_l_take : Has P w K mg base k "_law_take" spTakeG) (G_l_name : Has P w K mg base k "_law_name" spNameG) (G_l_prose : Has P w K mg base k "_law_prose" spProseG) : Has P w K mg base (k + 1) "_law_leaf" spLeaf := by
  refine D.has sc_l_leaf (fun _ _ _ _ _ _ us hl => match us, hl with | [_, _], _ => rfl) (fun vs H Q E h => ?_) (fun f cdv A outer s H vs Q E hr h => ?_)
  · obtain ⟨p, q, b, rfl, _⟩ := h
    rfl
  obtain ⟨p, q, b, rfl, g, hb, z⟩ := h
  refine ⟨_, (pss_cons (ps_if (pt_cmpR op_eq (pe_has G_l_take hr (pa_cons (pv 0) (pa_cons pe_int pa_nil))) pe_int (nomark _)) (pss_one (ps_ret (pe_tupC (pa_cons pe_str (pa_cons (pe_has G_l_name hr (pa_cons (pv 0) (pa_cons (pv 1) pa_nil))) pa_nil))))) pss_nil) (pss_one (ps_ret (pe_has G_l_prose hr (pa_cons (pv 0) (pa_cons pe_int pa_nil)))))), ?_⟩
  refine ⟨_, rfl, p, q, b, 3, rfl, g, by omega, by decide, by decide, fun r H2 r0 r1 e2 g2 => ⟨rfl, _, rfl, ?_⟩⟩
  refine ite2 (fun _ => ?_) (fun _ => ?_)
  · refine ⟨_, rfl, _, rfl, p, q, _, rfl, g2, by omega, fun s H3 ok e3 g3 => ⟨by show 2 ≤ sizeLine; decide, fun a H4 n4 e4 h4 => ?_⟩⟩
    exact z (.ref a) (.two "#" s) H4 ⟨a, rfl, h4⟩ (.inl ⟨s, rfl⟩) ((e2.trans e3).to e4) ((g3.ex e4).mono (by omega))
  · refine ⟨_, rfl, p, q, _, 1, rfl, g2, by omega, by decide, by decide, fun s H3 l3 g3 e3 k3 => ?_⟩
    exact z (.str s) (.txt s) H3 rfl (.inr ⟨s, rfl, l3⟩) (e2.trans e3) (k3.mono (by show b + 1 + 1 ≤ b + 30; omega))
end
end K7

/-! ## K7W4 -/
/-! The law's items and parts. -/
namespace K7
open PySem PySem.Spec PyProof.Rows L2
/-! ### good documents: all their texts are the law's -/
mutual
def Good : It → Prop
  | .txt s => 1 ≤ s.length ∧ s.length ≤ 60 ∧ Sg s
  | .two t n => (t = "#" ∨ t = "@") ∧ Sg n
  | .part k ms its => Sg k ∧ (∀ m ∈ ms, Sg m) ∧ Goods its
def Goods : List It → Prop
  | [] => True
  | d :: ds => Good d ∧ Goods ds
end
theorem Goods_iff : ∀ (l : List It), Goods l ↔ ∀ x ∈ l, Good x
  | [] => by simp [Goods]
  | x :: a => by rw [Goods, Goods_iff a]; simp
mutual
theorem Good.sh : ∀ {d : It}, Good d → Sh d
  | .txt s, h => by rw [Sh]; have := h.2.1; omega
  | .two t n, _ => trivial
  | .part k ms its, h => Goods.sh h.2.2
theorem Goods.sh : ∀ {ds : List It}, Goods ds → Shs ds
  | [], _ => trivial
  | d :: ds, h => ⟨Good.sh h.1, Goods.sh h.2⟩
end
/-! ### as data -/
mutual
def toD : It → PyData
  | .txt s => .str s
  | .two t n => .tuple [.str t, .str n]
  | .part k ms its => .tuple [.str k, .tuple (ms.map PyData.str), .tuple (toDs its)]
def toDs : List It → List PyData
  | [] => []
  | d :: ds => toD d :: toDs ds
end
theorem dp_strs {K : PySem.W.Frag} {H : Hp} : ∀ ms : List Str, DpAll K H (ms.map V.str) (ms.map PyData.str)
  | [] => .nil
  | m :: ms => .cons (.str m) (dp_strs ms)
mutual
theorem Rep.dp {K : PySem.W.Frag} {H : Hp} : ∀ {d : It} {v : V}, Rep H d v → Dp K H v (toD d)
  | .txt s, v, h => by rw [show v = .str s from h]; exact .str s
  | .two t n, v, ⟨a, e, h⟩ => by rw [e]; exact .tup (SqT.of h) (.cons (.str t) (.cons (.str n) .nil))
  | .part k ms its, v, ⟨a, m, r, vs, e, h1, h2, h3, h4⟩ => by
    rw [e]
    exact .tup (SqT.of h1) (.cons (.str k) (.cons (.tup (SqT.of h2) (dp_strs ms)) (.cons (.tup (SqT.of h3) (Reps.dp h4)) .nil)))
theorem Reps.dp {K : PySem.W.Frag} {H : Hp} : ∀ {ds : List It} {vs : List V}, Reps H ds vs → DpAll K H vs (toDs ds)
  | [], vs, h => by rw [show vs = [] from h]; exact .nil
  | d :: ds, vs, ⟨v, vs', e, h1, h2⟩ => by rw [e]; exact .cons (Rep.dp h1) (Reps.dp h2)
end
theorem sg_ok {s : Str} (h : Sg s) : (PyData.str s).canLay0 = true := by
  show PyData.strOk s = true
  unfold PyData.strOk
  rw [Array.all_eq_true']
  intro c hc
  have := (h c (by simpa using hc)).2
  exact decide_eq_true (by omega)
theorem can_strs : ∀ {ms : List Str}, (∀ m ∈ ms, Sg m) → PyData.canLayAll0 (ms.map PyData.str) = true
  | [], _ => rfl
  | m :: ms, h => by
    show ((PyData.str m).canLay0 && PyData.canLayAll0 (ms.map PyData.str)) = true
    rw [sg_ok (h m (List.mem_cons_self ..)), can_strs fun x hx => h x (List.mem_cons_of_mem _ hx)]; rfl
mutual
theorem Good.can : ∀ {d : It}, Good d → (toD d).canLay0 = true
  | .txt s, h => sg_ok h.2.2
  | .two t n, h => by
    have ht : (PyData.str t).canLay0 = true := by
      rcases h.1 with e | e <;> rw [e] <;> decide +kernel
    show ((PyData.str t).canLay0 && ((PyData.str n).canLay0 && true)) = true
    rw [ht, sg_ok h.2]; rfl
  | .part k ms its, h => by
    show ((PyData.str k).canLay0 && (PyData.canLayAll0 (ms.map PyData.str) && (PyData.canLayAll0 (toDs its) && true))) = true
    rw [sg_ok h.1, can_strs h.2.1, Goods.can h.2.2]; rfl
theorem Goods.can : ∀ {ds : List It}, Goods ds → PyData.canLayAll0 (toDs ds) = true
  | [], _ => rfl
  | d :: ds, h => by
    show ((toD d).canLay0 && PyData.canLayAll0 (toDs ds)) = true
    rw [Good.can h.1, Goods.can h.2]; rfl
end
theorem depth_strs : ∀ ms : List Str, PyData.depthAll (ms.map PyData.str) ≤ 1
  | [] => by simp [PyData.depthAll]
  | m :: ms => by
    have := depth_strs ms
    show max (PyData.depth (.str m)) (PyData.depthAll (ms.map PyData.str)) ≤ 1
    have e : PyData.depth (.str m) ≤ 1 := by simp [PyData.depth]
    omega
mutual
theorem depth_it : ∀ d : It, PyData.depth (toD d) ≤ 2 * hgt d + 3
  | .txt s => by
    have e : PyData.depth (.str s) ≤ 1 := by simp [PyData.depth]
    show PyData.depth (.str s) ≤ _
    omega
  | .two t n => by
    have e1 : PyData.depth (.str t) ≤ 1 := by simp [PyData.depth]
    have e2 : PyData.depth (.str n) ≤ 1 := by simp [PyData.depth]
    have e3 : PyData.depthAll [] ≤ 1 := by simp [PyData.depthAll]
    show max (PyData.depth (.str t)) (max (PyData.depth (.str n)) (PyData.depthAll [])) + 1 ≤ _
    omega
  | .part k ms its => by
    have e1 : PyData.depth (.str k) ≤ 1 := by simp [PyData.depth]
    have e2 := depth_strs ms
    have e3 : PyData.depthAll [] ≤ 1 := by simp [PyData.depthAll]
    have e4 := depth_its its
    show max (PyData.depth (.str k)) (max (PyData.depthAll (ms.map PyData.str) + 1) (max (PyData.depthAll (toDs its) + 1) (PyData.depthAll []))) + 1 ≤ 2 * (1 + hgts its) + 3
    omega
theorem depth_its : ∀ ds : List It, PyData.depthAll (toDs ds) ≤ 2 * hgts ds + 3
  | [] => by simp [toDs, PyData.depthAll]
  | d :: ds => by
    have e1 := depth_it d
    have e2 := depth_its ds
    show max (PyData.depth (toD d)) (PyData.depthAll (toDs ds)) ≤ 2 * max (hgt d) (hgts ds) + 3
    omega
end
/-! ### sums where an item is put in another's place -/
theorem cnts_set : ∀ {ds : List It} {j : Nat} {d e : It}, ds[j]? = some e → cnts (ds.set j d) + cnt e = cnts ds + cnt d
  | x :: ds, 0, d, e, h => by
    have q : x = e := by simpa using h
    rw [q, List.set_cons_zero, cnts, cnts]; omega
  | x :: ds, j + 1, d, e, h => by
    have q := cnts_set (ds := ds) (j := j) (d := d) (e := e) (by simpa using h)
    rw [List.set_cons_succ, cnts, cnts]; omega
theorem chss_set : ∀ {ds : List It} {j : Nat} {d e : It}, ds[j]? = some e → chss (ds.set j d) + chs e = chss ds + chs d
  | x :: ds, 0, d, e, h => by
    have q : x = e := by simpa using h
    rw [q, List.set_cons_zero, chss, chss]; omega
  | x :: ds, j + 1, d, e, h => by
    have q := chss_set (ds := ds) (j := j) (d := d) (e := e) (by simpa using h)
    rw [List.set_cons_succ, chss, chss]; omega
theorem rfss_set : ∀ {ds : List It} {j : Nat} {d e : It}, ds[j]? = some e → rfss (ds.set j d) + rfs e = rfss ds + rfs d
  | x :: ds, 0, d, e, h => by
    have q : x = e := by simpa using h
    rw [q, List.set_cons_zero, rfss, rfss]; omega
  | x :: ds, j + 1, d, e, h => by
    have q := rfss_set (ds := ds) (j := j) (d := d) (e := e) (by simpa using h)
    rw [List.set_cons_succ, rfss, rfss]; omega
theorem mem_set {α : Type} : ∀ {l : List α} {j : Nat} {x y : α}, y ∈ l.set j x → y ∈ l ∨ y = x
  | [], _, _, _, h => by cases h
  | a :: l, 0, x, y, h => by
    rcases List.mem_cons.mp h with e | h
    · exact .inr e
    · exact .inl (List.mem_cons_of_mem _ h)
  | a :: l, j + 1, x, y, h => by
    rcases List.mem_cons.mp h with e | h
    · rw [e]; exact .inl (List.mem_cons_self ..)
    · rcases mem_set h with q | q
      · exact .inl (List.mem_cons_of_mem _ q)
      · exact .inr q

/-! ### the promises -/
structure ItIn (e : Nat) (H : Hp) (p q bu : Addr) (b x y z t : Nat) : Prop where
  gd : Gd H p q b
  bud : Bud H bu x y z
  np : bu ≠ p
  nq : bu ≠ q
  x5 : x ≤ 59
  y4 : y ≤ 400
  z3 : z ≤ 3
  bb : b + e + 200 * x ≤ 5000000
  t1 : 1 ≤ t
  t7 : t ≤ 7
structure ItOut (H H' : Hp) (p q bu : Addr) (b x y z t : Nat) (v : V) (d : It) (x' y' z' : Nat) : Prop where
  rep : Rep H' d v
  good : Good d
  cx : cnt d + x' ≤ x + 1
  xx : x' ≤ x
  cy : chs d + y' ≤ y
  cz : rfs d + z' ≤ z
  ht : hgt d + t ≤ 7
  wd : wid d ≤ 12
  chg : Chg [p, q, bu] H H'
  gd : Gd H' p q (b + 200 * (x - x'))
  bud : Bud H' bu x' y' z'
def spItemT (T : Nat) : Sp := fun vs H Q _ => ∃ (p q bu : Addr) (b x y z t : Nat), vs = [.ref p, .ref q, .ref bu, .int t] ∧ T ≤ t ∧ ItIn 200 H p q bu b x y z t ∧
  ∀ v d H' x' y' z', ItOut H H' p q bu (b + 200) x y z t v d x' y' z' → Q v H'
def spPartT (T : Nat) : Sp := fun vs H Q _ => ∃ (p q bu : Addr) (b x y z t : Nat), vs = [.ref p, .ref q, .ref bu, .int t] ∧ T ≤ t ∧ t ≤ 6 ∧ ItIn 199 H p q bu b x y z t ∧
  ∀ v d H' x' y' z', isPart d = true → ItOut H H' p q bu (b + 199) x y z t v d x' y' z' → Q v H'
section
variable {P : Program} {w : World} {K : PySem.W.Frag} {mg : Str → Option Value} {base : Heap} {k : Nat}
abbrev N_l_item : List Str := ["_law_pool_here", "_law_names", "_law_budget", "_law_depth", "_law_sort"]
theorem sc_l_item : FnScope N_l_item ["_law_pool_here", "_law_names", "_law_budget", "_law_depth"] (defScope (top 38)) := ⟨rfl, rfl, rfl, by decide +kernel, rfl, by decide +kernel, by decide +kernel⟩
theorem ok_item {T : Nat} (D : Df K mg "_law_item" (top 38)) (B : Bn mg) (G_l_take : Has P w K mg base k "_law_take" spTakeG) (G_l_name : Has P w K mg base k "_law_name" spNameG)
    (G_l_text : Has P w K mg base k "_law_text" spText) (G_l_part : Has P w K mg base k "_law_part" (spPartT T)) : Has P w K mg base (k + 1) "_law_item" (spItemT T) := by
  refine D.has sc_l_item (fun _ _ _ _ _ _ us hl => match us, hl with | [_, _, _, _], _ => rfl) (fun vs H Q E h => ?_) (fun f cdv A outer s H vs Q E hr h => ?_)
  · obtain ⟨p, q, bu, b, x, y, z, t, rfl, _⟩ := h
    rfl
  obtain ⟨p, q, bu, b, x, y, z, t, rfl, hT, ⟨g, hb, np, nq, x5, y4, z3, bb, t1, t7⟩, k0⟩ := h
  have nbu : bu ∉ [p, q] := nm2 np nq
  refine ⟨_, (pss_cons (ps_set (i := 4) sc_l_item.nd rfl (Or.inl rfl) (pe_has G_l_take hr (pa_cons (pv 0) (pa_cons pe_int pa_nil)))) (pss_cons (ps_if (PW.pt (pw_and (pt_cmpR op_lt (pv 4) pe_int (nomark _)) (pw_and1 (pt_cmpR op_le (pv 3) (pe_ix ix_lstC (pv 2) pe_int (fun _ _ => rfl)) (nomark _))))) (pss_one (ps_ret (pe_has G_l_part hr (pa_cons (pv 0) (pa_cons (pv 1) (pa_cons (pv 2) (pa_cons (pv 3) pa_nil))))))) pss_nil) (pss_cons (ps_if (PW.pt (pw_and (pt_cmpR op_eq (pv 4) pe_int (nomark _)) (pw_and1 (pt_cmpR op_gt (pe_ix ix_lstC (pv 2) pe_int (fun _ _ => rfl)) pe_int (nomark _))))) (pss_cons (ps_asg (pe_op op_sub (pe_ix ix_lstC (pv 2) pe_int (fun _ _ => rfl)) pe_int) (pg_sub (pv 2) pe_int set_lstC)) (pss_one (ps_ret (pe_tupC (pa_cons pe_str (pa_cons (pe_has G_l_name hr (pa_cons (pv 0) (pa_cons (pv 1) pa_nil))) pa_nil)))))) pss_nil) (pss_cons (ps_if (PW.pt (pw_and (pt_cmpR op_gt (pv 4) pe_int (nomark _)) (pw_and1 (pt_cmpR op_gt (pe_ix ix_lstC (pv 2) pe_int (fun _ _ => rfl)) pe_int (nomark _))))) (pss_one (ps_ret (pe_has G_l_text hr (pa_cons (pv 0) (pa_cons (pv 2) pa_nil))))) pss_nil) (pss_one (ps_ret (pe_tupC (pa_cons pe_str (pa_cons (pe_has G_l_name hr (pa_cons (pv 0) (pa_cons (pv 1) pa_nil))) pa_nil))))))))), ?_⟩
  refine seq_asgN ⟨_, rfl, p, q, b, 8, rfl, g, by omega, by decide, by decide, fun r H1 r0 r1 e1 g1 => ?_⟩
  have b1 : Bud H1 bu x y z := hb.chg e1 nbu
  have fx : ∀ {H'} , Chg [p, q] H H' → Chg [p, q, bu] H H' := fun e => c3 e
  refine seq_cut (fun σ' H' => σ' = [some (.ref p), some (.ref q), some (.ref bu), some (.int t), some (.int r)] ∧ H' = H1) (fun N hN => ?_) ?_
  · refine ⟨_, rfl, _, _, rfl, rfl, _, rfl, ?_⟩
    refine ite2 (fun _ => ?_) (fun _ => hN _ _ ⟨rfl, rfl⟩)
    refine ⟨_, rfl, _, rfl, bu, _, _, _, rfl, rfl, b1, rfl, _, _, rfl, rfl, _, rfl, ?_⟩
    refine ite2 (fun c => ?_) (fun _ => hN _ _ ⟨rfl, rfl⟩)
    have c' : (t : Int) ≤ 6 := of_decide_eq_true c
    refine ⟨_, rfl, _, rfl, _, rfl, _, rfl, p, q, bu, b + 1, x, y, z, t, rfl, hT, by omega, ⟨g1, b1, np, nq, x5, y4, z3, by omega, t1, t7⟩, fun v d H' x' y' z' _ o => ?_⟩
    exact k0 v d H' x' y' z' ⟨o.rep, o.good, o.cx, o.xx, o.cy, o.cz, o.ht, o.wd, (c3 e1).trans o.chg, o.gd.mono (by omega), o.bud⟩
  rintro σ2 H2 ⟨rfl, rfl⟩
  refine seq_cut (fun σ' H' => σ' = [some (.ref p), some (.ref q), some (.ref bu), some (.int t), some (.int r)] ∧ H' = H2) (fun N hN => ?_) ?_
  · refine ⟨_, rfl, rfl, _, rfl, ?_⟩
    refine ite2 (fun _ => ?_) (fun _ => hN _ _ ⟨rfl, rfl⟩)
    refine ⟨_, rfl, bu, _, _, _, rfl, rfl, b1, rfl, _, _, rfl, rfl, _, rfl, ?_⟩
    refine ite2 (fun c => ?_) (fun _ => hN _ _ ⟨rfl, rfl⟩)
    have c' : (0 : Int) < (z : Int) := of_decide_eq_true c
    obtain ⟨z', rfl⟩ : ∃ z', z = z' + 1 := ⟨z - 1, by omega⟩
    refine ⟨_, rfl, bu, _, _, _, rfl, rfl, b1, rfl, _, _, rfl, rfl, _, rfl, bu, _, _, 2, rfl, rfl, b1, rfl, fun H3 w3 => ?_⟩
    have b3 : Bud H3 bu x y z' := by
      show H3 bu = _
      have e : (((z' + 1 : Nat) : Int) - 1) = (z' : Int) := by omega
      rw [w3.here]
      show some (HO.lst [V.int x, V.int y, V.int (((z' + 1 : Nat) : Int) - 1), V.int 6, V.int 12]) = _
      rw [e]
    have g3 : Gd H3 p q (b + 1) := g1.wr w3 np.symm nq.symm
    refine ⟨_, rfl, _, rfl, p, q, _, rfl, g3, by omega, fun s H4 ok e4 g4 => ⟨by show 2 ≤ sizeLine; decide, fun a H5 n5 e5 h5 => ?_⟩⟩
    exact k0 (.ref a) (.two "@" s) H5 x y z' ⟨⟨a, rfl, h5⟩, ⟨.inr rfl, ok.no⟩, by rw [cnt]; omega, Nat.le_refl _, by rw [chs]; omega, by show (if ("@" : Str) = ("@" : Str) then 1 else 0) + z' ≤ z' + 1; rw [if_pos rfl]; omega, by rw [hgt]; omega, by rw [wid]; omega,
      (((c3 e1).trans (w3.chg b1 (by simp))).trans (c3 e4)).to e5, (g4.ex e5).mono (by omega), (b3.chg e4 nbu).ex e5⟩
  rintro σ3 H3 ⟨rfl, rfl⟩
  refine seq_cut (fun σ' H' => σ' = [some (.ref p), some (.ref q), some (.ref bu), some (.int t), some (.int r)] ∧ H' = H3) (fun N hN => ?_) ?_
  · refine ⟨_, rfl, _, _, rfl, rfl, _, rfl, ?_⟩
    refine ite2 (fun _ => ?_) (fun _ => hN _ _ ⟨rfl, rfl⟩)
    refine ⟨_, rfl, bu, _, _, _, rfl, rfl, b1, rfl, _, _, rfl, rfl, _, rfl, ?_⟩
    refine ite2 (fun c => ?_) (fun _ => hN _ _ ⟨rfl, rfl⟩)
    have c' : (0 : Int) < (y : Int) := of_decide_eq_true c
    obtain ⟨npq, ⟨c1, k1, k2⟩, ⟨m, k3, k4⟩⟩ := id g1
    refine ⟨_, rfl, _, rfl, p, bu, c1, y, _, _, rfl, np.symm, k2, by omega, b1, by omega, by omega, fun s H4 c4 y' l1 l2 sg ly e4 p4 lc4 b4 => ?_⟩
    have q4 : q ∉ [p, bu] := nm2 npq.symm nq.symm
    exact k0 (.str s) (.txt s) H4 x y' z ⟨rfl, ⟨l1, l2, sg⟩, by rw [cnt]; omega, Nat.le_refl _, by rw [chs]; omega, by rw [rfs]; omega, by rw [hgt]; omega, by rw [wid]; omega,
      (c3 e1).trans (e4.mono (by
        intro a ha
        rcases List.mem_cons.mp ha with e | ha
        · rw [e]; simp
        · rw [List.mem_singleton.mp ha]; simp)), ⟨npq, ⟨c4, by omega, p4⟩, ⟨m, by omega, k4.chg e4 q4⟩⟩, b4⟩
  rintro σ4 H4 ⟨rfl, rfl⟩
  refine ⟨_, rfl, _, rfl, p, q, _, rfl, g1, by omega, fun s H5 ok e5 g5 => ⟨by show 2 ≤ sizeLine; decide, fun a H6 n6 e6 h6 => ?_⟩⟩
  exact k0 (.ref a) (.two "#" s) H6 x y z ⟨⟨a, rfl, h6⟩, ⟨.inl rfl, ok.no⟩, by rw [cnt]; omega, Nat.le_refl _, by rw [chs]; omega, by show (if ("#" : Str) = ("@" : Str) then 1 else 0) + z ≤ z; rw [if_neg (by decide +kernel)]; omega, by rw [hgt]; omega, by rw [wid]; omega,
    (c3 (e1.trans e5)).to e6, (g5.ex e6).mono (by omega), (b1.chg e5 nbu).ex e6⟩

/-! ### _law_part -/
abbrev N_l_part : List Str := ["_law_pool_here", "_law_names", "_law_budget", "_law_depth", "_law_kind", "_law_marks_here", "_law_many", "_law_items", "_law_k"]
theorem sc_l_part : FnScope N_l_part ["_law_pool_here", "_law_names", "_law_budget", "_law_depth"] (defScope (top 39)) := ⟨rfl, rfl, rfl, by decide +kernel, rfl, by decide +kernel, by decide +kernel⟩
/-- the items so far -/
structure PtI (H : Hp) (p q bu : Addr) (b x1 y z t : Nat) (m : Addr) (ms : List Str) (l : Addr) (vs : List V) (ds : List It) (x' y' z' i : Nat) (H' : Hp) : Prop where
  hl : H' l = some (.lst vs)
  mrk : H' m = some (.tup (ms.map V.str))
  rep : Reps H' ds vs
  len : ds.length = i
  ok : ∀ d ∈ ds, Good d ∧ hgt d + (t + 1) ≤ 7 ∧ wid d ≤ 12
  cx : cnts ds + x' ≤ x1 + i
  xx : x' ≤ x1
  cy : chss ds + y' ≤ y
  cz : rfss ds + z' ≤ z
  np : l ≠ p
  nq : l ≠ q
  nb : l ≠ bu
  chg : Chg [p, q, bu] H H'
  gd : Gd H' p q (b + 200 * i + 200 * (x1 - x'))
  bud : Bud H' bu x' y' z'
theorem sgn_ne {k : Str} (h : Sg k) : k ≠ ("#" : Str) := fun e => by
  have q := h 35 (by rw [e]; decide +kernel)
  exact q.1 rfl
/-- such an item may stand for another -/
theorem light {d : It} (h : (∃ n, d = .two "#" n) ∨ ∃ k ms, d = .part k ms []) : cnt d = 1 ∧ chs d = 0 ∧ rfs d = 0 := by
  rcases h with ⟨n, rfl⟩ | ⟨k, ms, rfl⟩
  · refine ⟨rfl, rfl, ?_⟩
    show (if ("#" : Str) = ("@" : Str) then 1 else 0) = 0
    rw [if_neg (by decide +kernel)]
  · exact ⟨rfl, rfl, rfl⟩
theorem ok_part {T : Nat} (D : Df K mg "_law_part" (top 39)) (B : Bn mg) (G_l_take : Has P w K mg base k "_law_take" spTakeG) (G_l_name : Has P w K mg base k "_law_name" spNameG)
    (G_l_marks : Has P w K mg base k "_law_marks" spMarks) (G_l_item : Has P w K mg base k "_law_item" (spItemT (T + 1))) : Has P w K mg base (k + 1) "_law_part" (spPartT T) := by
  refine D.has sc_l_part (fun _ _ _ _ _ _ us hl => match us, hl with | [_, _, _, _], _ => rfl) (fun vs H Q E h => ?_) (fun f cdv A outer s H vs Q E hr h => ?_)
  · obtain ⟨p, q, bu, b, x, y, z, t, rfl, _⟩ := h
    rfl
  obtain ⟨p, q, bu, b, x, y, z, t, rfl, hT, t6, ⟨g, hb, np, nq, x5, y4, z3, bb, t1, t7⟩, k0⟩ := h
  have nbu : bu ∉ [p, q] := nm2 np nq
  refine ⟨_, (pss_cons (ps_set (i := 4) sc_l_part.nd rfl (Or.inl rfl) (pe_has G_l_name hr (pa_cons (pv 0) (pa_cons (pv 1) pa_nil)))) (pss_cons (ps_set (i := 5) sc_l_part.nd rfl (Or.inl rfl) (pe_has G_l_marks hr (pa_cons (pv 0) (pa_cons (pv 1) pa_nil)))) (pss_cons (ps_set (i := 6) sc_l_part.nd rfl (Or.inl rfl) (pe_has G_l_take hr (pa_cons (pv 0) (pa_cons pe_int pa_nil)))) (pss_cons (ps_if (pt_cmpR op_eq (pv 6) pe_int (nomark _)) (pss_one (ps_set (i := 6) sc_l_part.nd rfl (Or.inl rfl) (pe_has G_l_take hr (pa_cons (pv 0) (pa_cons (pe_op op_add (pe_ix ix_lstC (pv 2) pe_int (fun _ _ => rfl)) pe_int) pa_nil))))) pss_nil) (pss_cons (ps_set (i := 6) sc_l_part.nd rfl (Or.inl rfl) (pe_callB (call_min2 rfl) rfl B.mn (by decide +kernel) (pa_cons (pe_callTy call_int1 rfl B.int (by decide +kernel) (pa_cons (pv 6) pa_nil)) (pa_cons (pe_ix ix_lstC (pv 2) pe_int (fun _ _ => rfl)) pa_nil)))) (pss_cons (ps_asg (pe_op op_sub (pe_ix ix_lstC (pv 2) pe_int (fun _ _ => rfl)) (pv 6)) (pg_sub (pv 2) pe_int set_lstC)) (pss_cons (ps_set (i := 7) sc_l_part.nd rfl (Or.inl rfl) (pe_lstC pa_nil)) (pss_cons (ps_for PassesOwn.never rfl (pi_range1 rfl B.rng (pa_cons (pv 6) pa_nil)) (pg_name (i := 8) sc_l_part.nd rfl (Or.inl rfl)) (pss_one (ps_expr (pe_bm PySem.F.plainAttrs_list PySem.F.slot_list_append PySem.F.type_list_append mt_appC (pv 7) (pa_cons (pe_has G_l_item hr (pa_cons (pv 0) (pa_cons (pv 1) (pa_cons (pv 2) (pa_cons (pe_op op_add (pv 3) pe_int) pa_nil))))) pa_nil))))) (pss_cons (ps_if (PW.pt (pw_and (pt_cmpR op_gt (pv 6) pe_int (nomark _)) (pw_and (pt_cmpR op_eq (pe_ix ix_lstC (pv 0) pe_int (fun _ _ => rfl)) pe_int (nomark _)) (pw_and1 (pt_cmpR op_eq (pe_op op_mod (pe_callB (call_lenK (K := K)) rfl B.len PySem.boot_len (pa_cons (pv 1) pa_nil)) pe_int) pe_int (nomark _)))))) (pss_one (ps_if (PW.pt (pw_or (pt_cmpR op_eq (pe_ix ix_anyC (pe_ix ix_lstC (pv 7) pe_int (fun _ _ => rfl)) pe_int (fun _ _ => rfl)) pe_str (nomark _)) (pw_or1 (pt_cmpR (op_eqD hr.units) (pe_slice sl_anyC (pe_ix ix_lstC (pv 7) pe_int (fun _ _ => rfl)) (po_some pe_int) po_none) (pe_tupC (pa_cons (pe_tupC pa_nil) pa_nil)) (nomark _))))) (pss_one (ps_asg (pe_ix ix_lstC (pv 7) pe_int (fun _ _ => rfl)) (pg_sub (pv 7) (pe_op op_sub (pv 6) pe_int) set_lstC))) pss_nil)) pss_nil) (pss_one (ps_ret (pe_tupC (pa_cons (pv 4) (pa_cons (pv 5) (pa_cons (pe_callTy call_tupC rfl B.tup (by decide +kernel) (pa_cons (pv 7) pa_nil)) pa_nil))))))))))))))), ?_⟩
  -- kind, marks
  refine seq_asgN ⟨_, rfl, _, rfl, p, q, b, rfl, g, by omega, fun kd H1 okk e1 g1 => ?_⟩
  refine seq_asgN ⟨_, rfl, _, rfl, p, q, _, rfl, g1, by omega, fun m ms H2 hm hms e2 g2 => ?_⟩
  -- how many
  refine seq_asgN ⟨_, rfl, p, q, _, 5, rfl, g2, by omega, by decide, by decide, fun r3 H3 a0 a1 e3 g3 => ?_⟩
  have e03 : Chg [p, q] H H3 := (e1.trans e2).trans e3
  have b3 : Bud H3 bu x y z := hb.chg e03 nbu
  refine seq_cut (fun σ' H' => ∃ r : Int, σ' = [some (.ref p), some (.ref q), some (.ref bu), some (.int t), some (.str kd), some (.ref m), some (.int r), none, none] ∧ 0 ≤ r ∧ r ≤ 12 ∧ Chg [p, q] H3 H' ∧ Gd H' p q (b + 102)) (fun N hN => ?_) ?_
  · refine ⟨_, rfl, rfl, _, rfl, ?_⟩
    refine ite2 (fun _ => ?_) (fun _ => hN _ _ ⟨r3, rfl, a0, by omega, Chg.refl _, g3.mono (by omega)⟩)
    refine ⟨_, rfl, _, rfl, bu, _, _, _, rfl, rfl, b3, rfl, _, _, rfl, rfl, p, q, _, _, rfl, g3, by omega, (by decide), (by decide), fun r4 H4 c0 c1 e4 g4 => ?_⟩
    have c1' : r4 < 13 := c1
    exact hN _ _ ⟨r4, rfl, c0, by omega, e4, g4.mono (by omega)⟩
  rintro σ4 H4 ⟨r, rfl, r0, r1, e34, g4⟩
  have e04 : Chg [p, q] H H4 := e03.trans e34
  have b4 : Bud H4 bu x y z := hb.chg e04 nbu
  obtain ⟨n, en, n1, n2⟩ : ∃ n : Nat, (if (x : Int) < r then (x : Int) else r) = (n : Int) ∧ n ≤ x ∧ n ≤ 12 := by
    refine ⟨(if (x : Int) < r then (x : Int) else r).toNat, ?_, ?_, ?_⟩ <;> split <;> omega
  refine seq_asgN ⟨_, rfl, .inl ⟨_, rfl, _, rfl, bu, _, _, _, rfl, rfl, b4, rfl, _, _, rfl, ?_⟩⟩
  rw [en]
  obtain ⟨x1, hx1⟩ : ∃ x1 : Nat, x = x1 + n := ⟨x - n, by omega⟩
  refine seq_asg ⟨_, rfl, bu, _, _, _, rfl, rfl, b4, rfl, _, rfl, _, _, rfl, rfl, _, rfl, bu, _, _, 0, rfl, rfl, b4, rfl, fun H5 w5 => ?_⟩
  have b5 : Bud H5 bu x1 y z := by
    show H5 bu = _
    have e : (x : Int) - (n : Int) = (x1 : Int) := by omega
    rw [w5.here]
    show some (HO.lst [V.int ((x : Int) - (n : Int)), V.int y, V.int z, V.int 6, V.int 12]) = _
    rw [e]
  have g5 : Gd H5 p q (b + 102) := g4.wr w5 np.symm nq.symm
  have e05 : Chg [p, q, bu] H H5 := (c3 e04).trans (w5.chg b4 (by simp))
  refine seq_asgN ⟨Nat.zero_le _, fun l H6 n6 e6 h6 => ?_⟩
  have lp : l ≠ p := g5.nep n6
  have lq : l ≠ q := g5.neq n6
  have lb : l ≠ bu := (b5.ne n6).symm
  have l0 : H l = none := e05.back n6 (nm3 lp lq lb)
  -- the items
  refine seq_cut (fun σ' H' => ∃ vs ds x' y' z' v8, σ' = [some (.ref p), some (.ref q), some (.ref bu), some (.int t), some (.str kd), some (.ref m), some (.int n), some (.ref l), v8] ∧ PtI H p q bu (b + 102) x1 y z t m ms l vs ds x' y' z' n H') (fun N hN => ?_) ?_
  · refine ⟨_, rfl, (n : Int), rfl, by omega, by omega, for_range (lo := 0) (n := ((n : Int)).toNat) (fun i σ' H' => ∃ vs ds x' y' z' v8, σ' = [some (.ref p), some (.ref q), some (.ref bu), some (.int t), some (.str kd), some (.ref m), some (.int n), some (.ref l), v8] ∧ PtI H p q bu (b + 102) x1 y z t m ms l vs ds x' y' z' i H')
      ⟨[], [], x1, y, z, none, rfl, ⟨h6, e6.tup (w5.chg (S := [bu]) b4 (by simp) |>.tup (e34.tup (e3.tup hm))), rfl, rfl, (fun d hd => by cases hd), by show 0 + x1 ≤ x1 + 0; omega, Nat.le_refl _, by show 0 + y ≤ y; omega, by show 0 + z ≤ z; omega, lp, lq, lb, e05.to e6, (g5.ex e6).mono (by omega), b5.ex e6⟩⟩ ?_ ?_⟩
    · rintro i σ7 H7 hi ⟨vs, ds, x', y', z', v8, rfl, I⟩
      have hi' : i < n := by omega
      have bx : b + 102 + 200 * i + 200 * (x1 - x') + 200 + 200 * x' ≤ 5000000 := by
        have := I.xx
        omega
      refine ⟨_, rfl, .inl ⟨rfl, _, SqL.of I.hl⟩, _, rfl, _, rfl, _, rfl, _, rfl, _, _, rfl, rfl, p, q, bu, _, x', y', z', t + 1, rfl, by omega, ⟨I.gd, I.bud, np, nq, by have := I.xx; omega, by have := I.cy; omega, by have := I.cz; omega, bx, by omega, by omega⟩, fun v d H8 x2 y2 z2 o => ?_⟩
      have hl8 : H8 l = some (.lst vs) := o.chg.keep _ _ I.hl (nm3 I.np I.nq I.nb)
      have lv : vs.length = i := by rw [I.rep.length, I.len]
      refine ⟨l, vs, v, rfl, rfl, hl8, szl (by omega), fun H9 w9 => ?_⟩
      have cw : Chg [l] H8 H9 := w9.chg hl8 (by simp)
      have := I.xx
      have := o.xx
      have := I.cx
      have := o.cx
      have := I.cy
      have := o.cy
      have := I.cz
      have := o.cz
      refine ⟨vs ++ [v], ds ++ [d], x2, y2, z2, _, rfl, ⟨w9.here, cw.tup (o.chg.tup I.mrk), ((I.rep.chg o.chg).append (Reps.one o.rep)).chg cw, by rw [List.length_append, I.len]; rfl, fun e he => ?_, ?_, by omega, ?_, ?_, I.np, I.nq, I.nb, (I.chg.trans o.chg).wr w9 l0, (o.gd.wr w9 I.np.symm I.nq.symm).mono (by omega), o.bud.wr w9 I.nb.symm⟩⟩
      · rcases List.mem_append.mp he with he | he
        · exact I.ok e he
        · rw [List.mem_singleton.mp he]
          exact ⟨o.good, o.ht, o.wd⟩
      · rw [cnts_append]; show cnts ds + (cnt d + 0) + x2 ≤ _; omega
      · rw [chss_append]; show chss ds + (chs d + 0) + y2 ≤ _; omega
      · rw [rfss_append]; show rfss ds + (rfs d + 0) + z2 ≤ _; omega
    · rintro σ7 H7 ⟨vs, ds, x', y', z', v8, rfl, I⟩
      exact hN _ _ ⟨vs, ds, x', y', z', v8, rfl, by rw [Int.toNat_natCast] at I; exact I⟩
  rintro σ7 H7 ⟨vs, ds, x', y', z', v8, rfl, I⟩
  -- the first one in the last one's place
  refine seq_cut (fun σ' H' => ∃ vs ds x' y' z', σ' = [some (.ref p), some (.ref q), some (.ref bu), some (.int t), some (.str kd), some (.ref m), some (.int n), some (.ref l), v8] ∧ PtI H p q bu (b + 102) x1 y z t m ms l vs ds x' y' z' n H') (fun N hN => ?_) ?_
  · have no : N [some (.ref p), some (.ref q), some (.ref bu), some (.int t), some (.str kd), some (.ref m), some (.int n), some (.ref l), v8] H7 := hN _ _ ⟨vs, ds, x', y', z', rfl, I⟩
    refine ⟨_, rfl, _, _, rfl, rfl, _, rfl, ?_⟩
    refine ite2 (fun c => ?_) (fun _ => no)
    have n1 : (1 : Int) < (n : Int) := of_decide_eq_true c
    obtain ⟨npq, ⟨c7, _, cell, fl, sd, xx, hp7⟩, ⟨m7, _, k7⟩⟩ := id I.gd
    refine ⟨_, rfl, p, _, _, _, rfl, rfl, hp7, rfl, rfl, _, rfl, ?_⟩
    refine ite2 (fun _ => ?_) (fun _ => no)
    refine ⟨_, rfl, _, _, rfl, k7.len, _, _, rfl, rfl, (by show (0 : Int) < 3; decide), rfl, _, rfl, ?_⟩
    refine ite2 (fun _ => ?_) (fun _ => no)
    obtain ⟨d0, hd0⟩ : ∃ d0, ds[0]? = some d0 := ⟨ds[0]'(by rw [I.len]; omega), List.getElem?_eq_getElem _⟩
    obtain ⟨v0, hv0, rep0⟩ := I.rep.get hd0
    have at0 : atI vs 0 = some v0 := atI_nat (j := 0) hv0
    have lv : vs.length = n := by rw [I.rep.length, I.len]
    obtain ⟨ok0, ht0, wd0⟩ := I.ok d0 (List.mem_of_getElem? hd0)
    have ixn : ixN vs.length ((n : Int) - 1) = some (n - 1) := by
      unfold ixN
      rw [if_pos (by omega), if_pos (by omega)]
      exact congrArg some (by omega)
    have fin : ∀ {H8 H9 : Hp}, Ex H7 H8 → ((∃ n, d0 = .two "#" n) ∨ ∃ k ms, d0 = .part k ms []) → Wr l (.lst (vs.set (n - 1) v0)) H8 H9 → N [some (.ref p), some (.ref q), some (.ref bu), some (.int t), some (.str kd), some (.ref m), some (.int n), some (.ref l), v8] H9 := fun {H8 H9} e8 hl9 w9 => by
      have hl8 := e8.ex I.hl
      obtain ⟨q1, q2, q3⟩ := light hl9
      obtain ⟨dl, hdl⟩ : ∃ dl, ds[n - 1]? = some dl := ⟨ds[n - 1]'(by rw [I.len]; omega), List.getElem?_eq_getElem _⟩
      have s1 := cnts_set (d := d0) hdl
      have s2 := chss_set (d := d0) hdl
      have s3 := rfss_set (d := d0) hdl
      have cp := cnt_pos dl
      have := I.cx
      have := I.cy
      have := I.cz
      refine hN _ _ ⟨_, ds.set (n - 1) d0, x', y', z', rfl, ⟨w9.here, (w9.chg (S := [l]) hl8 (by simp)).tup (e8.tup I.mrk), ((I.rep.set (n - 1) rep0).chg e8).chg (w9.chg (S := [l]) hl8 (by simp)), by rw [List.length_set]; exact I.len, fun e he => ?_, by omega, I.xx, by omega, by omega, I.np, I.nq, I.nb, (I.chg.to e8).wr w9 l0, (I.gd.ex e8).wr w9 I.np.symm I.nq.symm, (I.bud.ex e8).wr w9 I.nb.symm⟩⟩
      rcases mem_set he with q | q
      · exact I.ok e q
      · rw [q]; exact ⟨ok0, ht0, wd0⟩
    have dE : ∀ {H8 : Hp} {e0 e1 : Addr}, H8 e0 = some (.tup []) → H8 e1 = some (.tup [.ref e0]) → Dp K H8 (.ref e1) (.tuple [.tuple []]) := fun h0 h1 => .tup (SqT.of h1) (.cons (.tup (SqT.of h0) .nil) .nil)
    have sE : SeqAt.shaped (.tuple [.tuple []]) = true := by decide +kernel
    cases d0 with
    | txt s0 =>
      obtain rfl : v0 = .str s0 := rep0
      obtain ⟨o1, o2, o3⟩ := ok0
      have hc : ∃ ch, atI s0.cps.toList 0 = some ch ∧ ch ≠ 35 ∧ ch < 128 := by
        have hlen : 0 < s0.cps.toList.length := by rw [len_list]; omega
        exact ⟨s0.cps.toList[0], atI_nat (j := 0) (List.getElem?_eq_getElem hlen), o3 _ (List.getElem_mem hlen)⟩
      obtain ⟨ch, hat, hch⟩ := hc
      refine ⟨_, rfl, l, _, _, _, rfl, rfl, I.hl, at0, .inr ⟨s0, 0, ch, rfl, rfl, sz (by omega), hat, rfl, _, rfl, ?_⟩⟩
      refine ite2 (fun z => ?_) (fun _ => ?_)
      · have z' : V.str ⟨#[ch]⟩ = V.str ("#" : Str) := of_decide_eq_true z
        have z2 : (⟨#[ch]⟩ : Str) = ("#" : Str) := V.str.inj z'
        have z3 : (#[ch] : Array Nat) = #[35] := congrArg Str.cps z2
        have z4 : ch = 35 := by simpa using z3
        exact absurd z4 hch.1
      refine ⟨_, rfl, l, _, _, _, rfl, rfl, I.hl, at0, _, rfl, .inr ⟨s0, rfl, sz (by omega), Nat.zero_le _, fun e0 H8 _ e8 h8 => ⟨by show 1 ≤ sizeLine; decide, fun e1 H9 _ e9 h9 => ?_⟩⟩⟩
      have can : (PyData.str (cutS s0 (some 2) none)).canLay0 = true := sg_ok (sg_cut o3)
      have shp : SeqAt.shaped (PyData.str (cutS s0 (some 2) none)) = true := by
        unfold SeqAt.shaped
        rw [can]
        have e1 : PyData.depth (.str (cutS s0 (some 2) none)) ≤ 1 := by simp [PyData.depth]
        rw [decide_eq_true (by omega)]; rfl
      refine ⟨_, _, .str _, dE (e9.ex h8) h9, shp, sE, _, rfl, ?_⟩
      exact ite2 (fun z => nomatch (show false = true from z)) (fun _ => hN _ _ ⟨vs, ds, x', y', z', rfl, ⟨e9.ex (e8.ex I.hl), e9.ex (e8.ex I.mrk), (I.rep.chg e8).chg e9, I.len, I.ok, I.cx, I.xx, I.cy, I.cz, I.np, I.nq, I.nb, (I.chg.to e8).to e9, (I.gd.ex e8).ex e9, (I.bud.ex e8).ex e9⟩⟩)
    | two tg nm =>
      obtain ⟨a, rfl, ha⟩ := rep0
      refine ⟨_, rfl, l, _, _, _, rfl, rfl, I.hl, at0, .inl ⟨a, _, _, _, rfl, rfl, ha, rfl, rfl, _, rfl, ?_⟩⟩
      refine ite2 (fun z => ?_) (fun _ => ?_)
      · have z' : V.str tg = V.str ("#" : Str) := of_decide_eq_true z
        have z2 : tg = ("#" : Str) := V.str.inj z'
        refine ⟨_, rfl, l, _, _, _, rfl, rfl, I.hl, at0, _, rfl, _, rfl, _, _, rfl, rfl, l, _, _, n - 1, rfl, rfl, I.hl, ixn, fun H9 w9 => ?_⟩
        exact fin (Chg.refl _) (.inl ⟨nm, by rw [z2]⟩) w9
      refine ⟨_, rfl, l, _, _, _, rfl, rfl, I.hl, at0, _, rfl, .inl ⟨a, _, rfl, ha, fun p2 H8 e8 h8 => ⟨Nat.zero_le _, fun e0 H9 _ e9 h9 => ⟨by show 1 ≤ sizeLine; decide, fun e1 H10 _ e10 h10 => ?_⟩⟩⟩⟩
      have h8' : H8 p2 = some (.tup []) := h8
      refine ⟨.tuple [], _, .tup (SqT.of (e10.ex (e9.ex h8'))) .nil, dE (e10.ex h9) h10, by decide +kernel, sE, _, rfl, ?_⟩
      exact ite2 (fun z => nomatch (show false = true from z)) (fun _ => hN _ _ ⟨vs, ds, x', y', z', rfl, ⟨e10.ex (e9.ex (e8.ex I.hl)), e10.ex (e9.ex (e8.ex I.mrk)), ((I.rep.chg e8).chg e9).chg e10, I.len, I.ok, I.cx, I.xx, I.cy, I.cz, I.np, I.nq, I.nb, ((I.chg.to e8).to e9).to e10, ((I.gd.ex e8).ex e9).ex e10, ((I.bud.ex e8).ex e9).ex e10⟩⟩)
    | part k2 ms2 its2 =>
      obtain ⟨a, m2, r2, us, rfl, ha, hm2, hr2, hrs⟩ := rep0
      refine ⟨_, rfl, l, _, _, _, rfl, rfl, I.hl, at0, .inl ⟨a, _, _, _, rfl, rfl, ha, rfl, rfl, _, rfl, ?_⟩⟩
      refine ite2 (fun z => ?_) (fun _ => ?_)
      · have z' : V.str k2 = V.str ("#" : Str) := of_decide_eq_true z
        exact absurd (V.str.inj z') (sgn_ne ok0.1)
      refine ⟨_, rfl, l, _, _, _, rfl, rfl, I.hl, at0, _, rfl, .inl ⟨a, _, rfl, ha, fun p2 H8 e8 h8 => ⟨Nat.zero_le _, fun e0 H9 _ e9 h9 => ⟨by show 1 ≤ sizeLine; decide, fun e1 H10 _ e10 h10 => ?_⟩⟩⟩⟩
      have h8' : H8 p2 = some (.tup [.ref r2]) := h8
      have can : (PyData.tuple [.tuple (toDs its2)]).canLay0 = true := by
        show ((PyData.canLayAll0 (toDs its2)) && true) = true
        rw [Goods.can ok0.2.2]; rfl
      have dep : PyData.depth (.tuple [.tuple (toDs its2)]) ≤ 64 := by
        have e4 := depth_its its2
        have e3 : PyData.depthAll [] ≤ 1 := by simp [PyData.depthAll]
        have hg : hgt (.part k2 ms2 its2) = 1 + hgts its2 := by rw [hgt]
        show max (PyData.depthAll (toDs its2) + 1) (PyData.depthAll []) + 1 ≤ 64
        omega
      have shp : SeqAt.shaped (.tuple [.tuple (toDs its2)]) = true := by
        unfold SeqAt.shaped
        rw [can, decide_eq_true dep]; rfl
      have e810 : Ex H7 H10 := (e8.trans e9).trans e10
      refine ⟨.tuple [.tuple (toDs its2)], _, .tup (SqT.of (e10.ex (e9.ex h8'))) (.cons (.tup (SqT.of (e810.ex hr2)) (hrs.chg e810).dp) .nil), dE (e10.ex h9) h10, shp, sE, _, rfl, ?_⟩
      refine ite2 (fun z => ?_) (fun _ => hN _ _ ⟨vs, ds, x', y', z', rfl, ⟨e810.ex I.hl, e810.ex I.mrk, I.rep.chg e810, I.len, I.ok, I.cx, I.xx, I.cy, I.cz, I.np, I.nq, I.nb, I.chg.to e810, I.gd.ex e810, I.bud.ex e810⟩⟩)
      have e0 : its2 = [] := by
        cases its2 with
        | nil => rfl
        | cons d2 r => exact nomatch (show false = true from z)
      refine ⟨_, rfl, l, _, _, _, rfl, rfl, e810.ex I.hl, at0, _, rfl, _, rfl, _, _, rfl, rfl, l, _, _, n - 1, rfl, rfl, e810.ex I.hl, ixn, fun H11 w11 => ?_⟩
      exact fin e810 (.inr ⟨k2, ms2, by rw [e0]⟩) w11
  rintro σ8 H8 ⟨vs, ds, x', y', z', rfl, I⟩
  refine ⟨_, rfl, _, rfl, _, rfl, l, _, rfl, SqL.of I.hl, fun tl H9 e9 h9 => ⟨by show 3 ≤ sizeLine; decide, fun a H10 _ e10 h10 => ?_⟩⟩
  have hm10 : H10 m = some (.tup (ms.map V.str)) := e10.ex (e9.ex I.mrk)
  have := I.xx
  have := I.cx
  refine k0 (.ref a) (.part kd ms ds) H10 x' y' z' rfl ⟨Rep.part h10 hm10 (e10.ex h9) ((I.rep.chg e9).chg e10), ⟨okk.no, hms, (Goods_iff ds).mpr fun d hd => (I.ok d hd).1⟩, ?_, by omega, ?_, ?_, ?_, ?_, (I.chg.to e9).to e10, ((I.gd.ex e9).ex e10).mono (by omega), (I.bud.ex e9).ex e10⟩
  · rw [cnt]; omega
  · rw [chs]; exact I.cy
  · rw [rfs]; exact I.cz
  · rw [hgt]
    have : hgts ds ≤ 6 - t := hgts_le fun d hd => by have := (I.ok d hd).2.1; omega
    omega
  · rw [wid]
    have h1 : wids ds ≤ 12 := wids_le fun d hd => (I.ok d hd).2.2
    have h2 := I.len
    omega
end
end K7

/-! ## K7W5 -/
/-! The law's documents at the bounds. -/
namespace K7
open PySem PySem.Spec PyProof.Rows L2
/-- a list of items that grows at l -/
structure Rw (H : Hp) (p q l : Addr) (b : Nat) (ds : List It) (H' : Hp) : Prop where
  ex : ∃ vs, H' l = some (.lst vs) ∧ Reps H' ds vs
  np : l ≠ p
  nq : l ≠ q
  l0 : H l = none
  chg : Chg [p, q] H H'
  gd : Gd H' p q b
theorem Rw.start {H H' : Hp} {p q l : Addr} {b : Nat} (g : Gd H p q b) (n : H l = none) (e : Chg [p, q] H H') (g' : Gd H' p q b) (h : H' l = some (.lst [])) : Rw H p q l b [] H' :=
  ⟨⟨[], h, rfl⟩, g.nep n, g.neq n, n, e, g'⟩
theorem Rw.mono {H H' : Hp} {p q l : Addr} {b b' : Nat} {ds : List It} (r : Rw H p q l b ds H') (h : b ≤ b') : Rw H p q l b' ds H' := ⟨r.ex, r.np, r.nq, r.l0, r.chg, r.gd.mono h⟩
theorem Rw.step {H H1 H2 : Hp} {p q l : Addr} {b b2 : Nat} {ds : List It} {d : It} {v : V} (r : Rw H p q l b ds H1) (e : Chg [p, q] H1 H2) (g : Gd H2 p q b2) (rep : Rep H2 d v) :
    ∃ vs, H2 l = some (.lst vs) ∧ vs.length = ds.length ∧ ∀ H3, Wr l (.lst (vs ++ [v])) H2 H3 → Rw H p q l b2 (ds ++ [d]) H3 := by
  obtain ⟨vs, h1, h2⟩ := r.ex
  have h3 := e.keep _ _ h1 (nm2 r.np r.nq)
  refine ⟨vs, h3, h2.length, fun H3 w => ?_⟩
  have cw : Chg [l] H2 H3 := w.chg h3 (by simp)
  exact ⟨⟨_, w.here, ((h2.chg e).append (Reps.one rep)).chg cw⟩, r.np, r.nq, r.l0, (r.chg.trans e).wr w r.l0, g.wr w r.np.symm r.nq.symm⟩
/-! ### leaves in a row -/
theorem leaf_cnt {d : It} (h : Leaf d) : cnt d = 1 ∧ chs d ≤ 1 ∧ rfs d = 0 ∧ hgt d = 0 ∧ wid d = 0 ∧ Sh d := by
  rcases h with ⟨n, rfl⟩ | ⟨s, rfl, l⟩
  · refine ⟨rfl, Nat.zero_le _, ?_, rfl, rfl, trivial⟩
    show (if ("#" : Str) = ("@" : Str) then 1 else 0) = 0
    rw [if_neg (by decide +kernel)]
  · refine ⟨rfl, by rw [chs, l]; exact Nat.le_refl 1, rfl, rfl, rfl, ?_⟩
    show s.length ≤ 1000
    omega
theorem leaves_cnt : ∀ {ds : List It}, (∀ d ∈ ds, Leaf d) → cnts ds = ds.length ∧ chss ds ≤ ds.length ∧ rfss ds = 0 ∧ hgts ds = 0 ∧ wids ds = 0 ∧ Shs ds
  | [], _ => ⟨rfl, Nat.le_refl _, rfl, rfl, rfl, trivial⟩
  | d :: ds, h => by
    obtain ⟨a1, a2, a3, a4, a5, a6⟩ := leaf_cnt (h d (List.mem_cons_self ..))
    obtain ⟨b1, b2, b3, b4, b5, b6⟩ := leaves_cnt (ds := ds) fun x hx => h x (List.mem_cons_of_mem _ hx)
    refine ⟨by rw [cnts, List.length_cons]; omega, by rw [chss, List.length_cons]; omega, by rw [rfss]; omega, by rw [hgts]; omega, by rw [wids]; omega, a6, b6⟩
structure Wrapped (d : It) (m : Nat) (d' : It) : Prop where
  c : cnt d' = cnt d + m
  x : chs d' = chs d
  r : rfs d' = rfs d
  h : hgt d' = hgt d + m
  w : wid d' ≤ max 1 (wid d)
  s : Sh d → Sh d'
  p : isPart d = true ∨ 1 ≤ m → isPart d' = true
theorem Wrapped.zero (d : It) : Wrapped d 0 d := ⟨rfl, rfl, rfl, rfl, by omega, fun h => h, fun h => h.elim (fun z => z) fun z => by omega⟩
theorem Wrapped.succ {d d' : It} {m : Nat} {k : Str} (h : Wrapped d m d') : Wrapped d (m + 1) (.part k [] [d']) where
  c := by have := h.c; rw [cnt, cnts, cnts]; omega
  x := by have := h.x; rw [chs, chss, chss]; omega
  r := by have := h.r; rw [rfs, rfss, rfss]; omega
  h := by have := h.h; rw [hgt, hgts, hgts]; omega
  w := by have := h.w; rw [wid, wids, wids]; show max 1 (max (wid d') 0) ≤ _; omega
  s := fun z => ⟨h.s z, trivial⟩
  p := fun _ => rfl
structure Dc (d : It) : Prop where
  b : InB d
  p : isPart d = true
  s : Sh d
section
variable {P : Program} {w : World} {K : PySem.W.Frag} {mg : Str → Option Value} {base : Heap} {k : Nat}

/-! ### _law_wrapped -/
abbrev N_l_wrapped : List Str := ["_law_pool_here", "_law_names", "_law_item_here", "_law_many", "_law_turn"]
theorem sc_l_wrapped : FnScope N_l_wrapped ["_law_pool_here", "_law_names", "_law_item_here", "_law_many"] (defScope (top 40)) := ⟨rfl, rfl, rfl, by decide +kernel, rfl, by decide +kernel, by decide +kernel⟩
def spWrapped : Sp := fun vs H Q _ => ∃ (p q : Addr) (b : Nat) (v : V) (d : It) (m : Nat), vs = [.ref p, .ref q, v, .int m] ∧ Gd H p q b ∧ b ≤ 5000000 ∧ Rep H d v ∧ m ≤ 5 ∧
  ∀ v' d' H', Rep H' d' v' → Wrapped d m d' → Chg [p, q] H H' → Gd H' p q (b + 20 * m) → Q v' H'
theorem ok_wrapped (D : Df K mg "_law_wrapped" (top 40)) (B : Bn mg) (G_l_name : Has P w K mg base k "_law_name" spNameG) : Has P w K mg base (k + 1) "_law_wrapped" spWrapped := by
  refine D.has sc_l_wrapped (fun _ _ _ _ _ _ us hl => match us, hl with | [_, _, _, _], _ => rfl) (fun vs H Q E h => ?_) (fun f cdv A outer s H vs Q E hr h => ?_)
  · obtain ⟨p, q, b, v, d, m, rfl, _⟩ := h
    rfl
  obtain ⟨p, q, b, v, d, m, rfl, g, hb, rep, hm, z⟩ := h
  refine ⟨_, (pss_cons (ps_for PassesOwn.never rfl (pi_range1 rfl B.rng (pa_cons (pv 3) pa_nil)) (pg_name (i := 4) sc_l_wrapped.nd rfl (Or.inl rfl)) (pss_one (ps_set (i := 2) sc_l_wrapped.nd rfl (Or.inl rfl) (pe_tupC (pa_cons (pe_has G_l_name hr (pa_cons (pv 0) (pa_cons (pv 1) pa_nil))) (pa_cons (pe_tupC pa_nil) (pa_cons (pe_tupC (pa_cons (pv 2) pa_nil)) pa_nil))))))) (pss_one (ps_ret (pv 2)))), ?_⟩
  refine ⟨_, rfl, (m : Int), rfl, by omega, by omega, for_range (lo := 0) (n := ((m : Int)).toNat) (fun i σ H' => ∃ v' d' v4, σ = [some (.ref p), some (.ref q), some v', some (.int m), v4] ∧ Rep H' d' v' ∧ Wrapped d i d' ∧ Chg [p, q] H H' ∧ Gd H' p q (b + 20 * i))
    ⟨v, d, none, rfl, rep, .zero d, Chg.refl _, g⟩ ?_ ?_⟩
  · rintro i σ H1 hi ⟨v', d', v4, rfl, r1, w1, e1, g1⟩
    refine ⟨_, rfl, _, rfl, p, q, _, rfl, g1, by omega, fun s H2 ok e2 g2 => ⟨Nat.zero_le _, fun a1 H3 n3 e3 h3 => ⟨_, rfl, by show 1 ≤ sizeLine; decide, fun a2 H4 n4 e4 h4 => ⟨by show 3 ≤ sizeLine; decide, fun a3 H5 n5 e5 h5 => ?_⟩⟩⟩⟩
    have e25 : Ex H2 H5 := (e3.trans e4).trans e5
    exact ⟨.ref a3, .part s [] [d'], _, rfl, Rep.part h5 (e5.ex (e4.ex h3)) (e5.ex h4) (Reps.one ((r1.chg e2).chg e25)), w1.succ, (e1.trans e2).to e25, (g2.ex e25).mono (by omega)⟩
  · rintro σ H1 ⟨v', d', v4, rfl, r1, w1, e1, g1⟩
    rw [Int.toNat_natCast] at w1 g1
    exact ⟨_, rfl, z v' d' H1 r1 w1 e1 g1⟩

def spFull : Sp := fun vs H Q _ => ∃ (p q : Addr) (b : Nat) (sh : Int), vs = [.ref p, .ref q, .int sh] ∧ (sh = -1 ∨ sh = 0) ∧ Gd H p q b ∧ b ≤ 4000000 ∧
  ∀ v d H', Rep H' d v → Dc d → Chg [p, q] H H' → Gd H' p q (b + 10000) → Q v H'
def LeafI (H : Hp) (p q D : Addr) (b i : Nat) (H' : Hp) : Prop := ∃ ds, ds.length = i ∧ (∀ d ∈ ds, Leaf d) ∧ Rw H p q D (b + 30 * i) ds H'
theorem LeafI.start {H : Hp} {p q D : Addr} {b : Nat} (g : Gd H p q b) (n : H D = none) : LeafI H p q D b 0 (upd H D (.lst [])) :=
  ⟨[], rfl, (fun d h => by cases h), Rw.start g n (Chg.new n) (g.ex (Chg.new n)) upd_same⟩
theorem LeafI.next {H H1 H2 : Hp} {p q D : Addr} {b i : Nat} {d : It} {v : V} (h : LeafI H p q D b i H1) (hi : i < 1000) (rep : Rep H2 d v) (lf : Leaf d) (e : Chg [p, q] H1 H2) (g : Gd H2 p q (b + 30 * i + 30)) :
    ∃ acc, H2 D = some (.lst acc) ∧ acc.length < sizeLine ∧ LeafI H p q D b (i + 1) (upd H2 D (.lst (acc ++ [v]))) := by
  obtain ⟨ds, h1, h2, r⟩ := h
  obtain ⟨vs, k1, k2, k3⟩ := r.step e g rep
  refine ⟨vs, k1, szl (by omega), ds ++ [d], by rw [List.length_append, h1]; rfl, fun x hx => ?_, (k3 _ (Wr.upd ..)).mono (by omega)⟩
  rcases List.mem_append.mp hx with m | m
  · exact h2 x m
  · rw [List.mem_singleton.mp m]; exact lf

/-! ### _law_full_row -/
abbrev N_l_full_row : List Str := ["_law_pool_here", "_law_names", "_law_shift", "_law_row", "_law_part_here", "_law_k"]
theorem sc_l_full_row : FnScope N_l_full_row ["_law_pool_here", "_law_names", "_law_shift"] (defScope (top 42)) := ⟨rfl, rfl, rfl, by decide +kernel, rfl, by decide +kernel, by decide +kernel⟩
theorem ok_full_row (D : Df K mg "_law_full_row" (top 42)) (B : Bn mg) (G_l_take : Has P w K mg base k "_law_take" spTakeG) (G_l_name : Has P w K mg base k "_law_name" spNameG) (G_l_marks : Has P w K mg base k "_law_marks" spMarks)
    (G_l_leaf : Has P w K mg base k "_law_leaf" spLeaf) (G_l_wrapped : Has P w K mg base k "_law_wrapped" spWrapped) : Has P w K mg base (k + 1) "_law_full_row" spFull := by
  refine D.has sc_l_full_row (fun _ _ _ _ _ _ us hl => match us, hl with | [_, _, _], _ => rfl) (fun vs H Q E h => ?_) (fun f cdv A outer s H vs Q E hr h => ?_)
  · obtain ⟨p, q, b, sh, rfl, _⟩ := h
    rfl
  obtain ⟨p, q, b, sh, rfl, hs, g, hb, z⟩ := h
  refine ⟨_, (pss_cons (ps_set (i := 3) sc_l_full_row.nd rfl (Or.inl rfl) (pe_callTy call_tupC rfl B.tup (by decide +kernel) (pa_cons (pe_lc (own := [("_law_k", 5)]) (g := gName 5) rfl sc_l_full_row.nd (pi_range1 rfl B.rng (pa_cons (pe_op op_add pe_int (pv 2)) pa_nil)) (blkOk_by (own := [("_law_k", 5)]) (N := N_l_full_row) (sc := defScope (top 42)) (by decide +kernel)) (fun _ _ _ _ _ => pg_name (i := 5) sc_l_full_row.nd rfl (Or.inl rfl)) (fun _ _ _ _ _ => pts_nil) (fun _ _ _ _ _ => (pe_has G_l_leaf hr (pa_cons (pv 0) (pa_cons (pv 1) pa_nil))))) pa_nil))) (pss_cons (ps_set (i := 4) sc_l_full_row.nd rfl (Or.inl rfl) (pe_tupC (pa_cons (pe_has G_l_name hr (pa_cons (pv 0) (pa_cons (pv 1) pa_nil))) (pa_cons (pe_has G_l_marks hr (pa_cons (pv 0) (pa_cons (pv 1) pa_nil))) (pa_cons (pv 3) pa_nil))))) (pss_one (ps_ret (pe_has G_l_wrapped hr (pa_cons (pv 0) (pa_cons (pv 1) (pa_cons (pv 4) (pa_cons (pe_has G_l_take hr (pa_cons (pv 0) (pa_cons pe_int pa_nil))) pa_nil))))))))), ?_⟩
  have m0 : 0 ≤ 12 + sh ∧ 12 + sh ≤ 12 := by rcases hs with e | e <;> rw [e] <;> decide
  refine seq_asgN ⟨_, rfl, _, _, rfl, rfl, 12 + sh, rfl, by omega, by omega, fun D nD => lc_range (lo := 0) (n := (12 + sh).toNat) (LeafI H p q D b) (LeafI.start g nD) (fun i H1 hi I => ⟨rfl, ?_⟩) ?_⟩
  · obtain ⟨ds, h1, h2, r⟩ := id I
    exact ⟨_, rfl, _, rfl, p, q, _, rfl, r.gd, by omega, fun v d H2 rep lf e g2 => I.next (by omega) rep lf e g2⟩
  rintro H1 ⟨ds, h1, h2, r⟩
  obtain ⟨vs, hv, hreps⟩ := r.ex
  refine ⟨D, vs, rfl, SqL.of hv, fun t H2 e2 ht => ?_⟩
  have g2 := r.gd.ex e2
  refine seq_asgN ⟨_, rfl, _, rfl, p, q, _, rfl, g2, by omega, fun s H3 ok e3 g3 => ?_⟩
  refine ⟨_, rfl, _, rfl, p, q, _, rfl, g3, by omega, fun m ms H4 hm hms e4 g4 => ⟨_, rfl, by show 3 ≤ sizeLine; decide, fun a H5 n5 e5 h5 => ?_⟩⟩
  have rep5 : Rep H5 (.part s ms ds) (.ref a) := Rep.part h5 (e5.ex hm) (e5.ex (e4.tup (e3.tup ht))) ((((hreps.chg e2).chg e3).chg e4).chg e5)
  refine ⟨_, rfl, _, rfl, _, rfl, _, rfl, p, q, _, 5, rfl, g4.ex e5, by omega, by decide, by decide, fun r6 H6 a0 a1 e6 g6 => ?_⟩
  obtain ⟨n, rfl⟩ : ∃ n : Nat, r6 = (n : Int) := ⟨r6.toNat, by omega⟩
  refine ⟨p, q, _, _, _, n, rfl, g6, by omega, rep5.chg e6, by omega, fun v' d' H7 rep7 wr e7 g7 => ?_⟩
  obtain ⟨l1, l2, l3, l4, l5, l6⟩ := leaves_cnt h2
  have c1 : cnt (.part s ms ds) = 1 + ds.length := by rw [cnt, l1]
  have c2' : chs (.part s ms ds) ≤ ds.length := by rw [chs]; exact l2
  have c3' : rfs (.part s ms ds) = 0 := by rw [rfs]; exact l3
  have c4 : hgt (.part s ms ds) = 1 := by rw [hgt, l4]
  have c5 : wid (.part s ms ds) = ds.length := by rw [wid, l5]; omega
  have w1 := wr.c
  have w2 := wr.x
  have w3 := wr.r
  have w4 := wr.h
  have w5 := wr.w
  refine z v' d' H7 rep7 ⟨⟨by omega, by omega, by omega, by omega, by omega⟩, wr.p (.inl rfl), wr.s l6⟩ ?_ (g7.mono (by omega))
  exact (((((r.chg.to e2).trans e3).trans e4).to e5).trans e6).trans e7

/-! ### _law_full_count -/
abbrev N_l_full_count : List Str := ["_law_pool_here", "_law_names", "_law_shift", "_law_odd", "_law_rows", "_law_k", "_law_many", "_law_row", "_law_j"]
theorem sc_l_full_count : FnScope N_l_full_count ["_law_pool_here", "_law_names", "_law_shift"] (defScope (top 43)) := ⟨rfl, rfl, rfl, by decide +kernel, rfl, by decide +kernel, by decide +kernel⟩
theorem int_eq {i o : Int} {X : Int → Prop} (h1 : i = o → X 1) (h2 : i ≠ o → X 0) : X (if decide (V.int i = V.int o) = true then 1 else 0) := by
  by_cases e : i = o
  · rw [if_pos (decide_eq_true (by rw [e]))]; exact h1 e
  · rw [if_neg (fun z => e (V.int.inj (of_decide_eq_true z)))]; exact h2 e
theorem ok_full_count (D : Df K mg "_law_full_count" (top 43)) (B : Bn mg) (G_l_take : Has P w K mg base k "_law_take" spTakeG) (G_l_name : Has P w K mg base k "_law_name" spNameG)
    (G_l_leaf : Has P w K mg base k "_law_leaf" spLeaf) : Has P w K mg base (k + 1) "_law_full_count" spFull := by
  refine D.has sc_l_full_count (fun _ _ _ _ _ _ us hl => match us, hl with | [_, _, _], _ => rfl) (fun vs H Q E h => ?_) (fun f cdv A outer s H vs Q E hr h => ?_)
  · obtain ⟨p, q, b, sh, rfl, _⟩ := h
    rfl
  obtain ⟨p, q, b, sh, rfl, hs, g, hb, z⟩ := h
  refine ⟨_, (pss_cons (ps_set (i := 3) sc_l_full_count.nd rfl (Or.inl rfl) (pe_has G_l_take hr (pa_cons (pv 0) (pa_cons pe_int pa_nil)))) (pss_cons (ps_set (i := 4) sc_l_full_count.nd rfl (Or.inl rfl) (pe_lstC pa_nil)) (pss_cons (ps_for PassesOwn.never rfl (pi_range1 rfl B.rng (pa_cons pe_int pa_nil)) (pg_name (i := 5) sc_l_full_count.nd rfl (Or.inl rfl)) (pss_cons (ps_set (i := 6) sc_l_full_count.nd rfl (Or.inl rfl) (pe_op op_sub pe_int (pe_op op_mul (pe_op op_sub pe_int (pv 2)) (pe_callTy call_int1 rfl B.int (by decide +kernel) (pa_cons (pe_cmpR op_eq (pv 5) (pv 3) (nomark _)) pa_nil))))) (pss_cons (ps_set (i := 7) sc_l_full_count.nd rfl (Or.inl rfl) (pe_callTy call_tupC rfl B.tup (by decide +kernel) (pa_cons (pe_lc (own := [("_law_j", 8)]) (g := gName 8) rfl sc_l_full_count.nd (pi_range1 rfl B.rng (pa_cons (pv 6) pa_nil)) (blkOk_by (own := [("_law_j", 8)]) (N := N_l_full_count) (sc := defScope (top 43)) (by decide +kernel)) (fun _ _ _ _ _ => pg_name (i := 8) sc_l_full_count.nd rfl (Or.inl rfl)) (fun _ _ _ _ _ => pts_nil) (fun _ _ _ _ _ => (pe_has G_l_leaf hr (pa_cons (pv 0) (pa_cons (pv 1) pa_nil))))) pa_nil))) (pss_one (ps_expr (pe_bm PySem.F.plainAttrs_list PySem.F.slot_list_append PySem.F.type_list_append mt_appC (pv 4) (pa_cons (pe_tupC (pa_cons (pe_has G_l_name hr (pa_cons (pv 0) (pa_cons (pv 1) pa_nil))) (pa_cons (pe_tupC pa_nil) (pa_cons (pv 7) pa_nil)))) pa_nil))))))) (pss_one (ps_ret (pe_tupC (pa_cons (pe_has G_l_name hr (pa_cons (pv 0) (pa_cons (pv 1) pa_nil))) (pa_cons (pe_tupC pa_nil) (pa_cons (pe_callTy call_tupC rfl B.tup (by decide +kernel) (pa_cons (pv 4) pa_nil)) pa_nil))))))))), ?_⟩
  refine seq_asgN ⟨_, rfl, p, q, _, 5, rfl, g, by omega, by decide, by decide, fun o H1 o0 o1 e1 g1 => ?_⟩
  refine seq_asgN ⟨Nat.zero_le _, fun l H2 n2 e2 h2 => ?_⟩
  have rw2 : Rw H1 p q l (b + 1) [] H2 := Rw.start g1 n2 e2.of (g1.ex e2) h2
  refine seq_cut (fun σ' H' => ∃ ds v5 v6 v7 v8, σ' = [some (.ref p), some (.ref q), some (.int sh), some (.int o), some (.ref l), v5, v6, v7, v8] ∧ ds.length = 5 ∧ (cnts ds : Int) = 59 + sh ∧ chss ds ≤ cnts ds ∧ rfss ds = 0 ∧ hgts ds ≤ 1 ∧ wids ds ≤ 12 ∧ Shs ds ∧ Rw H1 p q l (b + 2000) ds H') (fun N hN => ?_) ?_
  · refine ⟨5, rfl, by decide, by decide, for_range (lo := 0) (n := 5) (fun i σ' H' => ∃ ds v5 v6 v7 v8, σ' = [some (.ref p), some (.ref q), some (.int sh), some (.int o), some (.ref l), v5, v6, v7, v8] ∧ ds.length = i ∧ (cnts ds : Int) = 13 * i - (if o < (i : Int) then 6 - sh else 0) ∧ chss ds ≤ cnts ds ∧ rfss ds = 0 ∧ hgts ds ≤ 1 ∧ wids ds ≤ 12 ∧ Shs ds ∧ Rw H1 p q l (b + 1 + 390 * i) ds H')
      ⟨[], none, none, none, none, rfl, rfl, by rw [if_neg (by omega)]; rfl, Nat.le_refl _, rfl, Nat.zero_le _, Nat.zero_le _, trivial, rw2⟩ ?_ ?_⟩
    · rintro i σ3 H3 hi ⟨ds, v5, v6, v7, v8, rfl, d1, d2, d3, d4, d5, d6, d7, r3⟩
      refine seq_asgN ⟨_, rfl, _, _, rfl, rfl, _, rfl, _, rfl, rfl, .inr ⟨_, rfl, _, _, rfl, rfl, .inl (by omega), _, _, rfl, rfl, ?_⟩⟩
      obtain ⟨n, en, n1, n2⟩ : ∃ n : Nat, (12 : Int) - (6 - sh) * (if decide (V.int (0 + (i : Int)) = V.int o) = true then 1 else 0) = (n : Int) ∧ n ≤ 12 ∧ (n : Int) = 12 - (if o = (i : Int) then 6 - sh else 0) := by
        refine int_eq (X := fun y => ∃ n : Nat, (12 : Int) - (6 - sh) * y = (n : Int) ∧ n ≤ 12 ∧ (n : Int) = 12 - (if o = (i : Int) then 6 - sh else 0)) (fun e => ?_) (fun e => ?_)
        · refine ⟨(6 + sh).toNat, by omega, by omega, ?_⟩
          rw [if_pos (by omega)]; omega
        · refine ⟨12, by omega, by omega, ?_⟩
          rw [if_neg (by omega)]; omega
      dsimp only
      rw [en]
      refine seq_asgN ⟨_, rfl, (n : Int), rfl, by omega, by omega, fun D nD => lc_range (lo := 0) (n := ((n : Int)).toNat) (LeafI H3 p q D (b + 1 + 390 * i)) (LeafI.start r3.gd nD) (fun j H4 hj I => ⟨rfl, ?_⟩) ?_⟩
      · obtain ⟨es, h1, h2, r⟩ := id I
        exact ⟨_, rfl, _, rfl, p, q, _, rfl, r.gd, by omega, fun v d H5 rep lf e g2 => I.next (by omega) rep lf e g2⟩
      rintro H4 ⟨es, k1, k2, r4⟩
      rw [Int.toNat_natCast] at k1 r4
      obtain ⟨us, hu, hreps⟩ := r4.ex
      refine ⟨D, us, rfl, SqL.of hu, fun t H5 e5 ht => ?_⟩
      obtain ⟨vs, hv, _⟩ := r3.ex
      have hv5 : H5 l = some (.lst vs) := e5.ex (r4.chg.keep _ _ hv (nm2 r3.np r3.nq))
      refine ⟨_, rfl, .inl ⟨rfl, _, SqL.of hv5⟩, _, rfl, _, rfl, p, q, _, rfl, r4.gd.ex e5, by omega, fun s H6 ok e6 g6 => ⟨Nat.zero_le _, fun a1 H7 n7 e7 h7 => ⟨_, rfl, by show 3 ≤ sizeLine; decide, fun a2 H8 n8 e8 h8 => ?_⟩⟩⟩
      have e68 : Ex H6 H8 := e7.trans e8
      have rep8 : Rep H8 (.part s [] es) (.ref a2) := Rep.part h8 (e8.ex h7) (e68.ex (e6.tup ht)) (((hreps.chg e5).chg e6).chg e68)
      obtain ⟨xs, q1, q2, q3⟩ := r3.step (((r4.chg.to e5).trans e6).to e68) (g6.ex e68) rep8
      refine ⟨l, xs, _, rfl, rfl, q1, szl (by omega), fun H9 w9 => ?_⟩
      obtain ⟨l1, l2, l3, l4, l5, l6⟩ := leaves_cnt k2
      have c0 : cnts (ds ++ [.part s [] es]) = cnts ds + (1 + n) := by rw [cnts_append, cnts, cnts, cnt, l1, k1]; rfl
      refine ⟨ds ++ [.part s [] es], _, _, _, _, rfl, by rw [List.length_append, d1]; rfl, ?_, ?_, ?_, ?_, ?_, (Shs_append ds [.part s [] es]).mpr ⟨d7, l6, trivial⟩, (q3 H9 w9).mono (by omega)⟩
      · rw [c0]
        by_cases c : o = (i : Int)
        · rw [if_pos c] at n2
          rw [if_neg (by omega)] at d2
          rw [if_pos (by omega)]; omega
        · rw [if_neg c] at n2
          by_cases c' : o < (i : Int)
          · rw [if_pos c'] at d2
            rw [if_pos (by omega)]; omega
          · rw [if_neg c'] at d2
            rw [if_neg (by omega)]; omega
      · rw [c0, chss_append]; show chss ds + (chss es + 0) ≤ _; omega
      · rw [rfss_append]; show rfss ds + (rfss es + 0) = 0; omega
      · rw [hgts_append]; show max (hgts ds) (max (1 + hgts es) 0) ≤ 1; omega
      · rw [wids_append]; show max (wids ds) (max (max es.length (wids es)) 0) ≤ 12; omega
    · rintro σ3 H3 ⟨ds, v5, v6, v7, v8, rfl, d1, d2, d3, d4, d5, d6, d7, r3⟩
      rw [if_pos (by omega)] at d2
      exact hN _ _ ⟨ds, v5, v6, v7, v8, rfl, d1, by omega, d3, d4, d5, d6, d7, r3.mono (by omega)⟩
  rintro σ3 H3 ⟨ds, v5, v6, v7, v8, rfl, d1, d2, d3, d4, d5, d6, d7, r3⟩
  obtain ⟨vs, hv, hreps⟩ := r3.ex
  refine ⟨_, rfl, _, rfl, p, q, _, rfl, r3.gd, by omega, fun s H4 ok e4 g4 => ⟨Nat.zero_le _, fun a1 H5 n5 e5 h5 => ⟨_, rfl, l, vs, rfl, SqL.of (e5.ex (e4.keep _ _ hv (nm2 r3.np r3.nq))), fun t H6 e6 h6 => ⟨by show 3 ≤ sizeLine; decide, fun a H7 n7 e7 h7 => ?_⟩⟩⟩⟩
  have e47 : Ex H4 H7 := (e5.trans e6).trans e7
  refine z (.ref a) (.part s [] ds) H7 (Rep.part h7 (e7.ex (e6.ex h5)) (e7.ex h6) ((hreps.chg e4).chg e47)) ⟨⟨?_, ?_, ?_, ?_, ?_⟩, rfl, d7⟩ (((e1.trans r3.chg).trans e4).to e47) ((g4.ex e47).mono (by omega))
  · rw [cnt]; omega
  · rw [chs]; omega
  · rw [hgt]; omega
  · rw [rfs]; omega
  · rw [wid]; omega

/-! ### _law_full_prose -/
abbrev N_l_full_prose : List Str := ["_law_pool_here", "_law_names", "_law_shift", "_law_odd", "_law_rows", "_law_k", "_law_text_here"]
theorem sc_l_full_prose : FnScope N_l_full_prose ["_law_pool_here", "_law_names", "_law_shift"] (defScope (top 44)) := ⟨rfl, rfl, rfl, by decide +kernel, rfl, by decide +kernel, by decide +kernel⟩
theorem ok_full_prose (D : Df K mg "_law_full_prose" (top 44)) (B : Bn mg) (G_l_take : Has P w K mg base k "_law_take" spTakeG) (G_l_name : Has P w K mg base k "_law_name" spNameG)
    (G_l_prose : Has P w K mg base k "_law_prose" spProseG) (G_l_wrapped : Has P w K mg base k "_law_wrapped" spWrapped) : Has P w K mg base (k + 1) "_law_full_prose" spFull := by
  refine D.has sc_l_full_prose (fun _ _ _ _ _ _ us hl => match us, hl with | [_, _, _], _ => rfl) (fun vs H Q E h => ?_) (fun f cdv A outer s H vs Q E hr h => ?_)
  · obtain ⟨p, q, b, sh, rfl, _⟩ := h
    rfl
  obtain ⟨p, q, b, sh, rfl, hs, g, hb, z⟩ := h
  refine ⟨_, (pss_cons (ps_set (i := 3) sc_l_full_prose.nd rfl (Or.inl rfl) (pe_has G_l_take hr (pa_cons (pv 0) (pa_cons pe_int pa_nil)))) (pss_cons (ps_set (i := 4) sc_l_full_prose.nd rfl (Or.inl rfl) (pe_lstC pa_nil)) (pss_cons (ps_for PassesOwn.never rfl (pi_range1 rfl B.rng (pa_cons pe_int pa_nil)) (pg_name (i := 5) sc_l_full_prose.nd rfl (Or.inl rfl)) (pss_cons (ps_set (i := 6) sc_l_full_prose.nd rfl (Or.inl rfl) (pe_has G_l_prose hr (pa_cons (pv 0) (pa_cons (pe_op op_sub pe_int (pe_op op_mul (pe_op op_sub pe_int (pv 2)) (pe_callTy call_int1 rfl B.int (by decide +kernel) (pa_cons (pe_cmpR op_eq (pv 5) (pv 3) (nomark _)) pa_nil)))) pa_nil)))) (pss_one (ps_expr (pe_bm PySem.F.plainAttrs_list PySem.F.slot_list_append PySem.F.type_list_append mt_appC (pv 4) (pa_cons (pe_has G_l_wrapped hr (pa_cons (pv 0) (pa_cons (pv 1) (pa_cons (pv 6) (pa_cons (pe_has G_l_take hr (pa_cons (pv 0) (pa_cons pe_int pa_nil))) pa_nil))))) pa_nil)))))) (pss_one (ps_ret (pe_tupC (pa_cons (pe_has G_l_name hr (pa_cons (pv 0) (pa_cons (pv 1) pa_nil))) (pa_cons (pe_tupC pa_nil) (pa_cons (pe_callTy call_tupC rfl B.tup (by decide +kernel) (pa_cons (pv 4) pa_nil)) pa_nil))))))))), ?_⟩
  refine seq_asgN ⟨_, rfl, p, q, _, 7, rfl, g, by omega, by decide, by decide, fun o H1 o0 o1 e1 g1 => ?_⟩
  refine seq_asgN ⟨Nat.zero_le _, fun l H2 n2 e2 h2 => ?_⟩
  have rw2 : Rw H1 p q l (b + 1) [] H2 := Rw.start g1 n2 e2.of (g1.ex e2) h2
  refine seq_cut (fun σ' H' => ∃ ds v5 v6, σ' = [some (.ref p), some (.ref q), some (.int sh), some (.int o), some (.ref l), v5, v6] ∧ ds.length = 7 ∧ cnts ds ≤ 21 ∧ (chss ds : Int) = 400 + sh ∧ rfss ds = 0 ∧ hgts ds ≤ 2 ∧ wids ds ≤ 1 ∧ Shs ds ∧ Rw H1 p q l (b + 1001) ds H') (fun N hN => ?_) ?_
  · refine ⟨7, rfl, by decide, by decide, for_range (lo := 0) (n := 7) (fun i σ' H' => ∃ ds v5 v6, σ' = [some (.ref p), some (.ref q), some (.int sh), some (.int o), some (.ref l), v5, v6] ∧ ds.length = i ∧ cnts ds ≤ 3 * i ∧ (chss ds : Int) = 60 * i - (if o < (i : Int) then 20 - sh else 0) ∧ rfss ds = 0 ∧ hgts ds ≤ 2 ∧ wids ds ≤ 1 ∧ Shs ds ∧ Rw H1 p q l (b + 1 + 140 * i) ds H')
      ⟨[], none, none, rfl, rfl, Nat.le_refl _, by rw [if_neg (by omega)]; rfl, rfl, Nat.zero_le _, Nat.zero_le _, trivial, rw2⟩ ?_ ?_⟩
    · rintro i σ3 H3 hi ⟨ds, v5, v6, rfl, d1, d2, d3, d4, d5, d6, d7, r3⟩
      obtain ⟨n, en, n1, n2⟩ : ∃ n : Nat, (60 : Int) - (20 - sh) * (if decide (V.int (0 + (i : Int)) = V.int o) = true then 1 else 0) = (n : Int) ∧ n ≤ 60 ∧ (n : Int) = 60 - (if o = (i : Int) then 20 - sh else 0) := by
        refine int_eq (X := fun y => ∃ n : Nat, (60 : Int) - (20 - sh) * y = (n : Int) ∧ n ≤ 60 ∧ (n : Int) = 60 - (if o = (i : Int) then 20 - sh else 0)) (fun e => ?_) (fun e => ?_)
        · refine ⟨(40 + sh).toNat, by omega, by omega, ?_⟩
          rw [if_pos (by omega)]; omega
        · refine ⟨60, by omega, by omega, ?_⟩
          rw [if_neg (by omega)]; omega
      refine seq_asgN ⟨_, rfl, _, rfl, _, _, rfl, rfl, _, rfl, _, rfl, rfl, .inr ⟨_, rfl, _, _, rfl, rfl, .inl (by omega), _, _, rfl, rfl, p, q, b + 1 + 140 * i, (n : Int), ?_, r3.gd, by omega, by omega, by omega, fun s4 H4 l4 s4g e4 g4 => ?_⟩⟩
      · exact congrArg (fun y : Int => [V.ref p, V.int y]) en
      rw [Int.toNat_natCast] at l4 g4
      have hv : ∃ vs, H4 l = some (.lst vs) := by
        obtain ⟨vs, hv, _⟩ := r3.ex
        exact ⟨vs, e4.keep _ _ hv (nm2 r3.np r3.nq)⟩
      obtain ⟨vs, hv4⟩ := hv
      refine ⟨_, rfl, .inl ⟨rfl, _, SqL.of hv4⟩, _, rfl, _, rfl, _, rfl, _, rfl, p, q, _, 3, rfl, g4, by omega, by decide, by decide, fun r5 H5 a0 a1 e5 g5 => ?_⟩
      obtain ⟨m, rfl⟩ : ∃ m : Nat, r5 = (m : Int) := ⟨r5.toNat, by omega⟩
      refine ⟨p, q, _, .str s4, .txt s4, m, rfl, g5, by omega, rfl, by omega, fun v' d' H6 rep6 wr e6 g6 => ?_⟩
      obtain ⟨xs, q1, q2, q3⟩ := r3.step ((e4.trans e5).trans e6) g6 rep6
      refine ⟨l, xs, _, rfl, rfl, q1, szl (by omega), fun H9 w9 => ?_⟩
      have w1 := wr.c
      have w2 := wr.x
      have w3 := wr.r
      have w4 := wr.h
      have w5 := wr.w
      have k1 : cnt (.txt s4) = 1 := rfl
      have k2 : chs (.txt s4) = n := l4
      have k3 : rfs (.txt s4) = 0 := rfl
      have k4 : hgt (.txt s4) = 0 := rfl
      have k5 : wid (.txt s4) = 0 := rfl
      have k6 : Sh (.txt s4) := by show s4.length ≤ 1000; omega
      refine ⟨ds ++ [d'], _, _, rfl, by rw [List.length_append, d1]; rfl, ?_, ?_, ?_, ?_, ?_, (Shs_append ds [d']).mpr ⟨d7, wr.s k6, trivial⟩, (q3 H9 w9).mono (by omega)⟩
      · rw [cnts_append, cnts, cnts]; omega
      · rw [chss_append, chss, chss]
        by_cases c : o = (i : Int)
        · rw [if_pos c] at n2
          rw [if_neg (by omega)] at d3
          rw [if_pos (by omega)]; omega
        · rw [if_neg c] at n2
          by_cases c' : o < (i : Int)
          · rw [if_pos c'] at d3
            rw [if_pos (by omega)]; omega
          · rw [if_neg c'] at d3
            rw [if_neg (by omega)]; omega
      · rw [rfss_append, rfss, rfss]; omega
      · rw [hgts_append, hgts, hgts]; omega
      · rw [wids_append, wids, wids]; omega
    · rintro σ3 H3 ⟨ds, v5, v6, rfl, d1, d2, d3, d4, d5, d6, d7, r3⟩
      rw [if_pos (by omega)] at d3
      exact hN _ _ ⟨ds, v5, v6, rfl, d1, by omega, by omega, d4, d5, d6, d7, r3.mono (by omega)⟩
  rintro σ3 H3 ⟨ds, v5, v6, rfl, d1, d2, d3, d4, d5, d6, d7, r3⟩
  obtain ⟨vs, hv, hreps⟩ := r3.ex
  refine ⟨_, rfl, _, rfl, p, q, _, rfl, r3.gd, by omega, fun s H4 ok e4 g4 => ⟨Nat.zero_le _, fun a1 H5 n5 e5 h5 => ⟨_, rfl, l, vs, rfl, SqL.of (e5.ex (e4.keep _ _ hv (nm2 r3.np r3.nq))), fun t H6 e6 h6 => ⟨by show 3 ≤ sizeLine; decide, fun a H7 n7 e7 h7 => ?_⟩⟩⟩⟩
  have e47 : Ex H4 H7 := (e5.trans e6).trans e7
  refine z (.ref a) (.part s [] ds) H7 (Rep.part h7 (e7.ex (e6.ex h5)) (e7.ex h6) ((hreps.chg e4).chg e47)) ⟨⟨?_, ?_, ?_, ?_, ?_⟩, rfl, d7⟩ (((e1.trans r3.chg).trans e4).to e47) ((g4.ex e47).mono (by omega))
  · rw [cnt]; omega
  · rw [chs]; omega
  · rw [hgt]; omega
  · rw [rfs]; omega
  · rw [wid]; omega

/-! ### _law_full_refs -/
abbrev N_l_full_refs : List Str := ["_law_pool_here", "_law_names", "_law_shift", "_law_rows", "_law_k", "_law_name_here"]
theorem sc_l_full_refs : FnScope N_l_full_refs ["_law_pool_here", "_law_names", "_law_shift"] (defScope (top 46)) := ⟨rfl, rfl, rfl, by decide +kernel, rfl, by decide +kernel, by decide +kernel⟩
theorem ok_full_refs (D : Df K mg "_law_full_refs" (top 46)) (B : Bn mg) (G_l_take : Has P w K mg base k "_law_take" spTakeG) (G_l_name : Has P w K mg base k "_law_name" spNameG)
    (G_l_leaf : Has P w K mg base k "_law_leaf" spLeaf) (G_l_wrapped : Has P w K mg base k "_law_wrapped" spWrapped) : Has P w K mg base (k + 1) "_law_full_refs" spFull := by
  refine D.has sc_l_full_refs (fun _ _ _ _ _ _ us hl => match us, hl with | [_, _, _], _ => rfl) (fun vs H Q E h => ?_) (fun f cdv A outer s H vs Q E hr h => ?_)
  · obtain ⟨p, q, b, sh, rfl, _⟩ := h
    rfl
  obtain ⟨p, q, b, sh, rfl, hs, g, hb, z⟩ := h
  refine ⟨_, (pss_cons (ps_set (i := 3) sc_l_full_refs.nd rfl (Or.inl rfl) (pe_lstC pa_nil)) (pss_cons (ps_for PassesOwn.never rfl (pi_range1 rfl B.rng (pa_cons (pe_op op_add pe_int (pv 2)) pa_nil)) (pg_name (i := 4) sc_l_full_refs.nd rfl (Or.inl rfl)) (pss_cons (ps_set (i := 5) sc_l_full_refs.nd rfl (Or.inl rfl) (pe_has G_l_name hr (pa_cons (pv 0) (pa_cons (pv 1) pa_nil)))) (pss_cons (ps_expr (pe_bm PySem.F.plainAttrs_list PySem.F.slot_list_append PySem.F.type_list_append mt_appC (pv 3) (pa_cons (pe_has G_l_wrapped hr (pa_cons (pv 0) (pa_cons (pv 1) (pa_cons (pe_tupC (pa_cons pe_str (pa_cons (pv 5) pa_nil))) (pa_cons (pe_has G_l_take hr (pa_cons (pv 0) (pa_cons pe_int pa_nil))) pa_nil))))) pa_nil))) (pss_one (ps_expr (pe_bm PySem.F.plainAttrs_list PySem.F.slot_list_append PySem.F.type_list_append mt_appC (pv 3) (pa_cons (pe_has G_l_leaf hr (pa_cons (pv 0) (pa_cons (pv 1) pa_nil))) pa_nil))))))) (pss_one (ps_ret (pe_tupC (pa_cons (pe_has G_l_name hr (pa_cons (pv 0) (pa_cons (pv 1) pa_nil))) (pa_cons (pe_tupC pa_nil) (pa_cons (pe_callTy call_tupC rfl B.tup (by decide +kernel) (pa_cons (pv 3) pa_nil)) pa_nil)))))))), ?_⟩
  obtain ⟨n, en, n3⟩ : ∃ n : Nat, 3 + sh = (n : Int) ∧ n ≤ 3 := ⟨(3 + sh).toNat, by omega, by omega⟩
  refine seq_asgN ⟨Nat.zero_le _, fun l H2 n2 e2 h2 => ?_⟩
  have rw2 : Rw H p q l b [] H2 := Rw.start g n2 e2.of (g.ex e2) h2
  refine seq_cut (fun σ' H' => ∃ ds v4 v5, σ' = [some (.ref p), some (.ref q), some (.int sh), some (.ref l), v4, v5] ∧ ds.length ≤ 6 ∧ cnts ds ≤ 12 ∧ chss ds ≤ 3 ∧ rfss ds ≤ 3 ∧ hgts ds ≤ 2 ∧ wids ds ≤ 1 ∧ Shs ds ∧ Rw H p q l (b + 1001) ds H') (fun N hN => ?_) ?_
  · refine ⟨_, rfl, _, _, rfl, rfl, 3 + sh, rfl, by omega, by omega, for_range (lo := 0) (n := (3 + sh).toNat) (fun i σ' H' => ∃ ds v4 v5, σ' = [some (.ref p), some (.ref q), some (.int sh), some (.ref l), v4, v5] ∧ ds.length = 2 * i ∧ cnts ds ≤ 4 * i ∧ chss ds ≤ i ∧ rfss ds ≤ i ∧ hgts ds ≤ 2 ∧ wids ds ≤ 1 ∧ Shs ds ∧ Rw H p q l (b + 150 * i) ds H')
      ⟨[], none, none, rfl, rfl, Nat.le_refl _, Nat.le_refl _, Nat.le_refl _, Nat.zero_le _, Nat.zero_le _, trivial, rw2⟩ ?_ ?_⟩
    · rintro i σ3 H3 hi ⟨ds, v4, v5, rfl, d1, d2, d3, d4, d5, d6, d7, r3⟩
      have hi3 : i < 3 := by omega
      refine seq_asgN ⟨_, rfl, _, rfl, p, q, _, rfl, r3.gd, by omega, fun s4 H4 ok4 e4 g4 => ?_⟩
      have hv : ∃ vs, H4 l = some (.lst vs) := by
        obtain ⟨vs, hv, _⟩ := r3.ex
        exact ⟨vs, e4.keep _ _ hv (nm2 r3.np r3.nq)⟩
      obtain ⟨vs, hv4⟩ := hv
      refine seq_cut (fun σ' H' => ∃ d', σ' = [some (.ref p), some (.ref q), some (.int sh), some (.ref l), some (.int (0 + (i : Int))), some (.str s4)] ∧ cnt d' ≤ 3 ∧ chs d' = 0 ∧ rfs d' = 1 ∧ hgt d' ≤ 2 ∧ wid d' ≤ 1 ∧ Sh d' ∧ Rw H p q l (b + 150 * i + 70) (ds ++ [d']) H') (fun N hN => ?_) ?_
      · refine ⟨_, rfl, .inl ⟨rfl, _, SqL.of hv4⟩, _, rfl, _, rfl, _, rfl, by show 2 ≤ sizeLine; decide, fun a H5 n5 e5 h5 => ⟨_, rfl, p, q, _, 3, rfl, g4.ex e5, by omega, by decide, by decide, fun r6 H6 a0 a1 e6 g6 => ?_⟩⟩
        obtain ⟨m, rfl⟩ : ∃ m : Nat, r6 = (m : Int) := ⟨r6.toNat, by omega⟩
        refine ⟨p, q, _, .ref a, .two "@" s4, m, rfl, g6, by omega, ⟨a, rfl, e6.tup h5⟩, by omega, fun v' d' H7 rep7 wr e7 g7 => ?_⟩
        obtain ⟨xs, q1, q2, q3⟩ := r3.step (((e4.to e5).trans e6).trans e7) g7 rep7
        refine ⟨l, xs, _, rfl, rfl, q1, szl (by omega), fun H9 w9 => ?_⟩
        have w1 := wr.c
        have w2 := wr.x
        have w3 := wr.r
        have w4 := wr.h
        have w5 := wr.w
        have k1 : cnt (.two "@" s4) = 1 := rfl
        have k2 : chs (.two "@" s4) = 0 := rfl
        have k3 : rfs (.two "@" s4) = 1 := by
          show (if ("@" : Str) = ("@" : Str) then 1 else 0) = 1
          rw [if_pos rfl]
        have k4 : hgt (.two "@" s4) = 0 := rfl
        have k5 : wid (.two "@" s4) = 0 := rfl
        exact hN _ _ ⟨d', rfl, by omega, by omega, by omega, by omega, by omega, wr.s trivial, (q3 H9 w9).mono (by omega)⟩
      rintro σ9 H9 ⟨d', rfl, c1, c2', c3', c4, c5, c6, r9⟩
      have hv : ∃ vs, H9 l = some (.lst vs) := by
        obtain ⟨vs, hv, _⟩ := r9.ex
        exact ⟨vs, hv⟩
      obtain ⟨vs9, hv9⟩ := hv
      refine ⟨_, rfl, .inl ⟨rfl, _, SqL.of hv9⟩, _, rfl, _, rfl, p, q, _, rfl, r9.gd, by omega, fun v d H10 rep lf e10 g10 => ?_⟩
      obtain ⟨xs, q1, q2, q3⟩ := r9.step e10 g10 rep
      rw [List.length_append] at q2
      refine ⟨l, xs, _, rfl, rfl, q1, szl (by rw [q2]; show ds.length + 1 < _; omega), fun H11 w11 => ?_⟩
      obtain ⟨l1, l2, l3, l4, l5, l6⟩ := leaf_cnt lf
      refine ⟨ds ++ [d'] ++ [d], _, _, rfl, by rw [List.length_append, List.length_append, d1]; show 2 * i + 1 + 1 = _; omega, ?_, ?_, ?_, ?_, ?_, (Shs_append (ds ++ [d']) [d]).mpr ⟨(Shs_append ds [d']).mpr ⟨d7, c6, trivial⟩, l6, trivial⟩, (q3 H11 w11).mono (by omega)⟩
      · rw [cnts_append, cnts_append, cnts, cnts, cnts, cnts]; omega
      · rw [chss_append, chss_append, chss, chss, chss, chss]; omega
      · rw [rfss_append, rfss_append, rfss, rfss, rfss, rfss]; omega
      · rw [hgts_append, hgts_append, hgts, hgts, hgts, hgts]; omega
      · rw [wids_append, wids_append, wids, wids, wids, wids]; omega
    · rintro σ3 H3 ⟨ds, v4, v5, rfl, d1, d2, d3, d4, d5, d6, d7, r3⟩
      exact hN _ _ ⟨ds, v4, v5, rfl, by omega, by omega, by omega, by omega, d5, d6, d7, r3.mono (by omega)⟩
  rintro σ3 H3 ⟨ds, v4, v5, rfl, d1, d2, d3, d4, d5, d6, d7, r3⟩
  obtain ⟨vs, hv, hreps⟩ := r3.ex
  refine ⟨_, rfl, _, rfl, p, q, _, rfl, r3.gd, by omega, fun s H4 ok e4 g4 => ⟨Nat.zero_le _, fun a1 H5 n5 e5 h5 => ⟨_, rfl, l, vs, rfl, SqL.of (e5.ex (e4.keep _ _ hv (nm2 r3.np r3.nq))), fun t H6 e6 h6 => ⟨by show 3 ≤ sizeLine; decide, fun a H7 n7 e7 h7 => ?_⟩⟩⟩⟩
  have e47 : Ex H4 H7 := (e5.trans e6).trans e7
  refine z (.ref a) (.part s [] ds) H7 (Rep.part h7 (e7.ex (e6.ex h5)) (e7.ex h6) ((hreps.chg e4).chg e47)) ⟨⟨?_, ?_, ?_, ?_, ?_⟩, rfl, d7⟩ ((r3.chg.trans e4).to e47) ((g4.ex e47).mono (by omega))
  · rw [cnt]; omega
  · rw [chs]; omega
  · rw [hgt]; omega
  · rw [rfs]; omega
  · rw [wid]; omega

/-! ### _law_full_depth -/
abbrev N_l_full_depth : List Str := ["_law_pool_here", "_law_names", "_law_shift", "_law_item_here", "_law_turn", "_law_row"]
theorem sc_l_full_depth : FnScope N_l_full_depth ["_law_pool_here", "_law_names", "_law_shift"] (defScope (top 45)) := ⟨rfl, rfl, rfl, by decide +kernel, rfl, by decide +kernel, by decide +kernel⟩
theorem ok_full_depth (D : Df K mg "_law_full_depth" (top 45)) (B : Bn mg) (G_l_take : Has P w K mg base k "_law_take" spTakeG) (G_l_name : Has P w K mg base k "_law_name" spNameG) (G_l_marks : Has P w K mg base k "_law_marks" spMarks)
    (G_l_leaf : Has P w K mg base k "_law_leaf" spLeaf) : Has P w K mg base (k + 1) "_law_full_depth" spFull := by
  refine D.has sc_l_full_depth (fun _ _ _ _ _ _ us hl => match us, hl with | [_, _, _], _ => rfl) (fun vs H Q E h => ?_) (fun f cdv A outer s H vs Q E hr h => ?_)
  · obtain ⟨p, q, b, sh, rfl, _⟩ := h
    rfl
  obtain ⟨p, q, b, sh, rfl, hs, g, hb, z⟩ := h
  refine ⟨_, (pss_cons (ps_set (i := 3) sc_l_full_depth.nd rfl (Or.inl rfl) (pe_tupC (pa_cons (pe_has G_l_name hr (pa_cons (pv 0) (pa_cons (pv 1) pa_nil))) (pa_cons (pe_has G_l_marks hr (pa_cons (pv 0) (pa_cons (pv 1) pa_nil))) (pa_cons (pe_tupC pa_nil) pa_nil))))) (pss_cons (ps_if (pt_cmpR op_eq (pe_has G_l_take hr (pa_cons (pv 0) (pa_cons pe_int pa_nil))) pe_int (nomark _)) (pss_one (ps_set (i := 3) sc_l_full_depth.nd rfl (Or.inl rfl) (pe_tupC (pa_cons (pe_ix ix_tupC (pv 3) pe_int (fun _ _ => rfl)) (pa_cons (pe_ix ix_tupC (pv 3) pe_int (fun _ _ => rfl)) (pa_cons (pe_tupC (pa_cons (pe_has G_l_leaf hr (pa_cons (pv 0) (pa_cons (pv 1) pa_nil))) pa_nil)) pa_nil)))))) pss_nil) (pss_cons (ps_for PassesOwn.never rfl (pi_range1 rfl B.rng (pa_cons (pe_op op_add pe_int (pv 2)) pa_nil)) (pg_name (i := 4) sc_l_full_depth.nd rfl (Or.inl rfl)) (pss_cons (ps_set (i := 5) sc_l_full_depth.nd rfl (Or.inl rfl) (pe_tupC (pa_cons (pv 3) pa_nil))) (pss_cons (ps_if (pt_cmpR op_eq (pe_has G_l_take hr (pa_cons (pv 0) (pa_cons pe_int pa_nil))) pe_int (nomark _)) (pss_one (ps_set (i := 5) sc_l_full_depth.nd rfl (Or.inl rfl) (pe_tupC (pa_cons (pe_has G_l_leaf hr (pa_cons (pv 0) (pa_cons (pv 1) pa_nil))) (pa_cons (pv 3) pa_nil))))) pss_nil) (pss_one (ps_set (i := 3) sc_l_full_depth.nd rfl (Or.inl rfl) (pe_tupC (pa_cons (pe_has G_l_name hr (pa_cons (pv 0) (pa_cons (pv 1) pa_nil))) (pa_cons (pe_tupC pa_nil) (pa_cons (pv 5) pa_nil))))))))) (pss_one (ps_ret (pv 3)))))), ?_⟩
  obtain ⟨n, en, n3⟩ : ∃ n : Nat, 5 + sh = (n : Int) ∧ n ≤ 5 := ⟨(5 + sh).toNat, by omega, by omega⟩
  refine seq_asgN ⟨_, rfl, _, rfl, p, q, _, rfl, g, by omega, fun s1 H1 ok1 e1 g1 => ⟨_, rfl, _, rfl, p, q, _, rfl, g1, by omega, fun m ms H2 hm hms e2 g2 => ⟨Nat.zero_le _, fun a1 H3 n3 e3 h3 => ⟨by show 3 ≤ sizeLine; decide, fun a2 H4 n4 e4 h4 => ?_⟩⟩⟩⟩
  have e34 : Ex H2 H4 := e3.trans e4
  have g4 := g2.ex e34
  refine seq_cut (fun σ' H' => ∃ v ds, σ' = [some (.ref p), some (.ref q), some (.int sh), some v, none, none] ∧ Rep H' (.part s1 ms ds) v ∧ ds.length ≤ 1 ∧ (∀ d ∈ ds, Leaf d) ∧ Chg [p, q] H4 H' ∧ Gd H' p q (b + 200)) (fun N hN => ?_) ?_
  · refine ⟨_, rfl, p, q, _, 2, rfl, g4, by omega, by decide, by decide, fun r5 H5 a0 a1 e5 g5 => ⟨rfl, _, rfl, ?_⟩⟩
    refine ite2 (fun _ => ?_) (fun _ => hN _ _ ⟨.ref a2, [], rfl, Rep.part (e5.tup h4) (e5.tup (e34.ex hm)) (e5.tup (e4.ex h3)) rfl, Nat.zero_le _, (fun d h => by cases h), e5, g5.mono (by omega)⟩)
    refine ⟨_, rfl, a2, _, _, _, rfl, rfl, e5.tup h4, rfl, _, rfl, a2, _, _, _, rfl, rfl, e5.tup h4, rfl, _, rfl, _, rfl, p, q, _, rfl, g5, by omega, fun v d H6 rep lf e6 g6 => ⟨by show 1 ≤ sizeLine; decide, fun a7 H7 n7 e7 h7 => ⟨by show 3 ≤ sizeLine; decide, fun a8 H8 n8 e8 h8 => ?_⟩⟩⟩
    have e78 : Ex H6 H8 := e7.trans e8
    exact hN _ _ ⟨.ref a8, [d], rfl, Rep.part h8 (e78.ex (e6.tup (e5.tup (e34.ex hm)))) (e8.ex h7) (Reps.one (rep.chg e78)), Nat.le_refl _, (fun x hx => by rw [List.mem_singleton.mp hx]; exact lf), (e5.trans e6).to e78, (g6.ex e78).mono (by omega)⟩
  rintro σ5 H5 ⟨v, ds, rfl, rep, dl, dlf, e5, g5⟩
  obtain ⟨l1, l2, l3, l4, l5, l6⟩ := leaves_cnt dlf
  refine seq_cut (fun σ' H' => ∃ v d v4 v5, σ' = [some (.ref p), some (.ref q), some (.int sh), some v, v4, v5] ∧ Rep H' d v ∧ isPart d = true ∧ cnt d ≤ 12 ∧ chs d ≤ 6 ∧ rfs d = 0 ∧ hgt d ≤ 6 ∧ wid d ≤ 2 ∧ Sh d ∧ Chg [p, q] H5 H' ∧ Gd H' p q (b + 700)) (fun N hN => ?_) ?_
  · refine ⟨_, rfl, _, _, rfl, rfl, 5 + sh, rfl, by omega, by omega, for_range (lo := 0) (n := (5 + sh).toNat) (fun i σ' H' => ∃ v d v4 v5, σ' = [some (.ref p), some (.ref q), some (.int sh), some v, v4, v5] ∧ Rep H' d v ∧ isPart d = true ∧ cnt d ≤ 2 + 2 * i ∧ chs d ≤ 1 + i ∧ rfs d = 0 ∧ hgt d ≤ 1 + i ∧ wid d ≤ 2 ∧ Sh d ∧ Chg [p, q] H5 H' ∧ Gd H' p q (b + 200 + 60 * i))
      ⟨v, .part s1 ms ds, none, none, rfl, rep, rfl, by rw [cnt]; omega, by rw [chs]; omega, by rw [rfs]; exact l3, by rw [hgt]; omega, by rw [wid]; omega, l6, Chg.refl _, g5⟩ ?_ ?_⟩
    · rintro i σ6 H6 hi ⟨v, d, v4, v5, rfl, rp, ip, d1, d2, d3, d4, d5, d6, e6, g6⟩
      have hi5 : i < 5 := by omega
      refine seq_asgN ⟨_, rfl, by show 1 ≤ sizeLine; decide, fun a7 H7 n7 e7 h7 => ?_⟩
      have g7 := g6.ex e7
      refine seq_cut (fun σ' H' => ∃ a es us, σ' = [some (.ref p), some (.ref q), some (.int sh), some v, some (.int (0 + (i : Int))), some (.ref a)] ∧ H' a = some (.tup us) ∧ Reps H' es us ∧ es.length ≤ 2 ∧ cnts es ≤ 1 + cnt d ∧ chss es ≤ 1 + chs d ∧ rfss es = 0 ∧ hgts es ≤ hgt d ∧ wids es ≤ 2 ∧ Shs es ∧ Chg [p, q] H7 H' ∧ Gd H' p q (b + 200 + 60 * i + 31)) (fun N hN => ?_) ?_
      · refine ⟨_, rfl, p, q, _, 2, rfl, g7, by omega, by decide, by decide, fun r8 H8 a0 a1 e8 g8 => ⟨rfl, _, rfl, ?_⟩⟩
        refine ite2 (fun _ => ?_) (fun _ => hN _ _ ⟨a7, [d], _, rfl, e8.tup h7, Reps.one ((rp.chg e7).chg e8), (by show 1 ≤ 2; omega), by rw [cnts, cnts]; omega, by rw [chss, chss]; omega, by rw [rfss, rfss]; omega, by rw [hgts, hgts]; omega, by rw [wids, wids]; omega, ⟨d6, trivial⟩, e8, g8.mono (by omega)⟩)
        refine ⟨_, rfl, _, rfl, p, q, _, rfl, g8, by omega, fun u c H9 rp9 lf e9 g9 => ⟨_, rfl, by show 2 ≤ sizeLine; decide, fun a10 H10 n10 e10 h10 => ?_⟩⟩
        obtain ⟨k1, k2, k3, k4, k5, k6⟩ := leaf_cnt lf
        exact hN _ _ ⟨a10, [c, d], _, rfl, h10, Reps.cons (rp9.chg e10) (Reps.one ((((rp.chg e7).chg e8).chg e9).chg e10)), (by show 2 ≤ 2; omega), by rw [cnts, cnts, cnts]; omega, by rw [chss, chss, chss]; omega, by rw [rfss, rfss, rfss]; omega, by rw [hgts, hgts, hgts]; omega, by rw [wids, wids, wids]; omega, ⟨k6, d6, trivial⟩, (e8.trans e9).to e10, (g9.ex e10).mono (by omega)⟩
      rintro σ8 H8 ⟨a, es, us, rfl, ha, hes, c1, c2', c3', c4, c5, c6, c7, e8, g8⟩
      refine ⟨_, rfl, _, rfl, p, q, _, rfl, g8, by omega, fun s9 H9 ok9 e9 g9 => ⟨Nat.zero_le _, fun a10 H10 n10 e10 h10 => ⟨_, rfl, by show 3 ≤ sizeLine; decide, fun a11 H11 n11 e11 h11 => ?_⟩⟩⟩
      have e1011 : Ex H9 H11 := e10.trans e11
      exact ⟨.ref a11, .part s9 [] es, _, _, rfl, Rep.part h11 (e11.ex h10) (e1011.ex (e9.tup ha)) ((hes.chg e9).chg e1011), rfl, by rw [cnt]; omega, by rw [chs]; omega, by rw [rfs]; omega, by rw [hgt]; omega, by rw [wid]; omega, c7, (((e6.to e7).trans e8).trans e9).to e1011, (g9.ex e1011).mono (by omega)⟩
    · rintro σ6 H6 ⟨v, d, v4, v5, rfl, rp, ip, d1, d2, d3, d4, d5, d6, e6, g6⟩
      exact hN _ _ ⟨v, d, v4, v5, rfl, rp, ip, by omega, by omega, d3, by omega, d5, d6, e6, g6.mono (by omega)⟩
  rintro σ6 H6 ⟨v, d, v4, v5, rfl, rp, ip, d1, d2, d3, d4, d5, d6, e6, g6⟩
  exact ⟨_, rfl, z v d H6 rp ⟨⟨by omega, by omega, by omega, by omega, by omega⟩, ip, d6⟩ (((((e1.trans e2).to e3).to e4).trans e5).trans e6) (g6.mono (by omega))⟩

/-! ### _law_edge -/
abbrev N_l_edge : List Str := ["_law_pool_here", "_law_names", "_law_shift", "_law_sort"]
theorem sc_l_edge : FnScope N_l_edge ["_law_pool_here", "_law_names", "_law_shift"] (defScope (top 47)) := ⟨rfl, rfl, rfl, by decide +kernel, rfl, by decide +kernel, by decide +kernel⟩
def spEdge : Sp := fun vs H Q _ => ∃ (p q : Addr) (b : Nat) (sh : Int), vs = [.ref p, .ref q, .int sh] ∧ (sh = -1 ∨ sh = 0) ∧ Gd H p q b ∧ b ≤ 3000000 ∧
  ∀ v d H', Rep H' d v → Dc d → Chg [p, q] H H' → Gd H' p q (b + 10001) → Q v H'
theorem ok_edge (D : Df K mg "_law_edge" (top 47)) (B : Bn mg) (G_l_take : Has P w K mg base k "_law_take" spTakeG) (G_l_full_row : Has P w K mg base k "_law_full_row" spFull) (G_l_full_count : Has P w K mg base k "_law_full_count" spFull)
    (G_l_full_prose : Has P w K mg base k "_law_full_prose" spFull) (G_l_full_depth : Has P w K mg base k "_law_full_depth" spFull) (G_l_full_refs : Has P w K mg base k "_law_full_refs" spFull) : Has P w K mg base (k + 1) "_law_edge" spEdge := by
  refine D.has sc_l_edge (fun _ _ _ _ _ _ us hl => match us, hl with | [_, _, _], _ => rfl) (fun vs H Q E h => ?_) (fun f cdv A outer s H vs Q E hr h => ?_)
  · obtain ⟨p, q, b, sh, rfl, _⟩ := h
    rfl
  obtain ⟨p, q, b, sh, rfl, hs, g, hb, z⟩ := h
  refine ⟨_, (pss_cons (ps_set (i := 3) sc_l_edge.nd rfl (Or.inl rfl) (pe_has G_l_take hr (pa_cons (pv 0) (pa_cons pe_int pa_nil)))) (pss_cons (ps_if (pt_cmpR op_eq (pv 3) pe_int (nomark _)) (pss_one (ps_ret (pe_has G_l_full_row hr (pa_cons (pv 0) (pa_cons (pv 1) (pa_cons (pv 2) pa_nil)))))) pss_nil) (pss_cons (ps_if (pt_cmpR op_eq (pv 3) pe_int (nomark _)) (pss_one (ps_ret (pe_has G_l_full_count hr (pa_cons (pv 0) (pa_cons (pv 1) (pa_cons (pv 2) pa_nil)))))) pss_nil) (pss_cons (ps_if (pt_cmpR op_eq (pv 3) pe_int (nomark _)) (pss_one (ps_ret (pe_has G_l_full_prose hr (pa_cons (pv 0) (pa_cons (pv 1) (pa_cons (pv 2) pa_nil)))))) pss_nil) (pss_cons (ps_if (pt_cmpR op_eq (pv 3) pe_int (nomark _)) (pss_one (ps_ret (pe_has G_l_full_depth hr (pa_cons (pv 0) (pa_cons (pv 1) (pa_cons (pv 2) pa_nil)))))) pss_nil) (pss_one (ps_ret (pe_has G_l_full_refs hr (pa_cons (pv 0) (pa_cons (pv 1) (pa_cons (pv 2) pa_nil))))))))))), ?_⟩
  refine ⟨_, rfl, p, q, _, 5, rfl, g, by omega, by decide, by decide, fun r H1 a0 a1 e1 g1 => ?_⟩
  have fin : ∃ (p' q' : Addr) (b' : Nat) (sh' : Int), [V.ref p, V.ref q, V.int sh] = [.ref p', .ref q', .int sh'] ∧ (sh' = -1 ∨ sh' = 0) ∧ Gd H1 p' q' b' ∧ b' ≤ 4000000 ∧ ∀ v d H', Rep H' d v → Dc d → Chg [p', q'] H1 H' → Gd H' p' q' (b' + 10000) → Q v H' :=
    ⟨p, q, b + 1, sh, rfl, hs, g1, by omega, fun v d H' rp dc e2 g2 => z v d H' rp dc (e1.trans e2) (g2.mono (by omega))⟩
  refine ⟨_, rfl, rfl, _, rfl, ite2 (fun _ => ⟨_, rfl, _, rfl, _, rfl, fin⟩) fun _ => ?_⟩
  refine ⟨_, rfl, rfl, _, rfl, ite2 (fun _ => ⟨_, rfl, _, rfl, _, rfl, fin⟩) fun _ => ?_⟩
  refine ⟨_, rfl, rfl, _, rfl, ite2 (fun _ => ⟨_, rfl, _, rfl, _, rfl, fin⟩) fun _ => ?_⟩
  refine ⟨_, rfl, rfl, _, rfl, ite2 (fun _ => ⟨_, rfl, _, rfl, _, rfl, fin⟩) fun _ => ?_⟩
  exact ⟨_, rfl, _, rfl, _, rfl, fin⟩
end
end K7

/-! ## K7W6 -/
/-! The law's look at documents: same, at, swap, sizes. -/
namespace K7
open PySem PySem.Spec PyProof.Rows L2
theorem yes {c : Bool} {A B : Prop} (h : c = true) (a : A) : if c = true then A else B := by
  rw [h, if_pos rfl]; exact a
theorem nay {c : Bool} {A B : Prop} (h : c = false) (b : B) : if c = true then A else B := by
  rw [h, if_neg Bool.false_ne_true]; exact b
theorem nei {i j : Int} (h : i ≠ j) : decide (V.int i = V.int j) = false := decide_eq_false fun z => h (V.int.inj z)
theorem eqi {i j : Int} (h : i = j) : decide (V.int i = V.int j) = true := decide_eq_true (by rw [h])
/-- as data the same, within n steps -/
def SameD (H : Hp) : Nat → V → V → Prop
  | 0, _, _ => False
  | n + 1, u, v => (∃ s, u = .str s ∧ v = .str s) ∨ ∃ a b us vs, u = .ref a ∧ v = .ref b ∧ H a = some (.tup us) ∧ H b = some (.tup vs) ∧ us.length = vs.length ∧ ∀ (i : Nat) (x y : V), us[i]? = some x → vs[i]? = some y → SameD H n x y
theorem SameD.up {H : Hp} : ∀ {n m : Nat} {u v : V}, n ≤ m → SameD H n u v → SameD H m u v
  | 0, _, _, _, _, h => h.elim
  | n + 1, 0, _, _, l, _ => absurd l (by omega)
  | n + 1, m + 1, u, v, l, h => by
    rcases h with h | ⟨a, b, us, vs, e1, e2, h1, h2, hl, h⟩
    · exact Or.inl h
    · exact Or.inr ⟨a, b, us, vs, e1, e2, h1, h2, hl, fun i x y hx hy => SameD.up (by omega) (h i x y hx hy)⟩
theorem same_strs {H : Hp} {ms : List Str} {i : Nat} {x y : V} (hx : (ms.map V.str)[i]? = some x) (hy : (ms.map V.str)[i]? = some y) : SameD H 1 x y := by
  rw [hx] at hy
  have e := Option.some.inj hy
  rw [List.getElem?_map] at hx
  cases q : ms[i]? with
  | none => rw [q] at hx; cases hx
  | some s =>
    rw [q] at hx
    have e2 : V.str s = x := Option.some.inj hx
    exact Or.inl ⟨s, e2.symm, by rw [← e, e2]⟩
theorem same_rep {H : Hp} : ∀ d : It, ∀ u v : V, Rep H d u → Rep H d v → SameD H (2 * hgt d + 2) u v := by
  refine It.indA (fun s u v h1 h2 => ?_) (fun t n u v h1 h2 => ?_) (fun k ms its ih u v h1 h2 => ?_)
  · exact Or.inl ⟨s, h1, h2⟩
  · obtain ⟨a, rfl, ha⟩ := h1
    obtain ⟨b, rfl, hb⟩ := h2
    refine Or.inr ⟨a, b, _, _, rfl, rfl, ha, hb, rfl, fun i x y hx hy => ?_⟩
    have q := same_strs (H := H) (ms := [t, n]) hx hy
    exact q
  · obtain ⟨a, m, r, us, rfl, a1, a2, a3, a4⟩ := h1
    obtain ⟨b, m', r', vs, rfl, b1, b2, b3, b4⟩ := h2
    have hh : 2 * hgt (.part k ms its) + 2 = (2 * hgts its + 2) + 1 + 1 := by rw [hgt]; omega
    rw [hh]
    refine Or.inr ⟨a, b, _, _, rfl, rfl, a1, b1, rfl, fun i x y hx hy => ?_⟩
    match i, hx, hy with
    | 0, hx, hy =>
      have e1 : V.str k = x := Option.some.inj hx
      have e2 : V.str k = y := Option.some.inj hy
      exact Or.inl ⟨k, e1.symm, e2.symm⟩
    | 1, hx, hy =>
      have e1 : V.ref m = x := Option.some.inj hx
      have e2 : V.ref m' = y := Option.some.inj hy
      rw [← e1, ← e2]
      exact Or.inr ⟨m, m', _, _, rfl, rfl, a2, b2, rfl, fun j x y hx hy => (same_strs hx hy).up (by omega)⟩
    | 2, hx, hy =>
      have e1 : V.ref r = x := Option.some.inj hx
      have e2 : V.ref r' = y := Option.some.inj hy
      rw [← e1, ← e2]
      refine Or.inr ⟨r, r', us, vs, rfl, rfl, a3, b3, by rw [a4.length, b4.length], fun j x y hx hy => ?_⟩
      have hj : j < its.length := by rw [← a4.length]; exact lt_of_get hx
      have hd : its[j]? = some its[j] := List.getElem?_eq_getElem hj
      obtain ⟨x', ex, rx⟩ := a4.get hd
      obtain ⟨y', ey, ry⟩ := b4.get hd
      rw [ex] at hx
      rw [ey] at hy
      have q1 := Option.some.inj hx
      have q2 := Option.some.inj hy
      rw [← q1, ← q2]
      have hm : its[j] ∈ its := List.getElem_mem hj
      exact (ih _ hm x' y' rx ry).up (by have := hgts_mem hm; omega)
    | i + 3, hx, hy => simp at hx
section
variable {P : Program} {w : World} {K : PySem.W.Frag} {mg : Str → Option Value} {base : Heap} {k : Nat}

/-! ### _law_same -/
abbrev N_l_same : List Str := ["_law_one", "_law_two", "_law_both", "_law_k"]
theorem sc_l_same : FnScope N_l_same ["_law_one", "_law_two"] (defScope (top 32)) := ⟨rfl, rfl, rfl, by decide +kernel, rfl, by decide +kernel, by decide +kernel⟩
def spSameN (n : Nat) : Sp := fun vs H Q _ => ∃ u v, vs = [u, v] ∧ SameD H n u v ∧ Q (.bl true) H
theorem ok_same {n : Nat} (D : Df K mg "_law_same" (top 32)) (B : Bn mg) (G_l_same : Has P w K mg base k "_law_same" (spSameN n)) : Has P w K mg base (k + 1) "_law_same" (spSameN (n + 1)) := by
  refine D.has sc_l_same (fun _ _ _ _ _ _ us hl => match us, hl with | [_, _], _ => rfl) (fun vs H Q E h => ?_) (fun f cdv A outer s H vs Q E hr h => ?_)
  · obtain ⟨u, v, rfl, _⟩ := h
    rfl
  obtain ⟨u, v, rfl, hS, z⟩ := h
  refine ⟨_, (pss_cons (ps_if (PW.pt (pw_or (pt_val (pe_isi .bool (pv 0) B.isi B.bool)) (pw_or1 (pt_val (pe_isi .bool (pv 1) B.isi B.bool))))) (pss_one (ps_ret (pe_and (pe_isi .bool (pv 0) B.isi B.bool) (pe_and (pe_isi .bool (pv 1) B.isi B.bool) (pe_one (pe_cmpR op_eq (pv 0) (pv 1) (nomark _))))))) pss_nil) (pss_cons (ps_if (PW.pt (pw_and (pt_val (pe_isi .int (pv 0) B.isi B.int)) (pw_and1 (pt_val (pe_isi .int (pv 1) B.isi B.int))))) (pss_one (ps_ret (pe_cmpR op_eq (pv 0) (pv 1) (nomark _)))) pss_nil) (pss_cons (ps_if (PW.pt (pw_and (pt_val (pe_isi .str (pv 0) B.isi B.str)) (pw_and1 (pt_val (pe_isi .str (pv 1) B.isi B.str))))) (pss_one (ps_ret (pe_cmpR op_eq (pv 0) (pv 1) (nomark _)))) pss_nil) (pss_cons (ps_set (i := 2) sc_l_same.nd rfl (Or.inl rfl) (pe_and (pe_isi .tuple (pv 0) B.isi B.tup) (pe_one (pe_isi .tuple (pv 1) B.isi B.tup)))) (pss_cons (ps_if (PW.pt (pw_or (pt_val (pv 2)) (pw_or1 (PW.pt (pw_and (pt_val (pe_isi .list (pv 0) B.isi B.lst)) (pw_and1 (pt_val (pe_isi .list (pv 1) B.isi B.lst)))))))) (pss_cons (ps_if (pt_cmpR op_ne (pe_callB (call_lenB (K := K)) rfl B.len PySem.boot_len (pa_cons (pv 0) pa_nil)) (pe_callB (call_lenB (K := K)) rfl B.len PySem.boot_len (pa_cons (pv 1) pa_nil)) (nomark _)) (pss_one (ps_ret pe_bl)) pss_nil) (pss_cons (ps_for PassesOwn.never rfl (pi_range1 rfl B.rng (pa_cons (pe_callB (call_lenB (K := K)) rfl B.len PySem.boot_len (pa_cons (pv 0) pa_nil)) pa_nil)) (pg_name (i := 3) sc_l_same.nd rfl (Or.inl rfl)) (pss_one (ps_if (pt_not (pt_val (pe_has G_l_same hr (pa_cons (pe_ix ix_anyC (pv 0) (pv 3) (fun _ _ => rfl)) (pa_cons (pe_ix ix_anyC (pv 1) (pv 3) (fun _ _ => rfl)) pa_nil))))) (pss_one (ps_ret pe_bl)) pss_nil))) (pss_one (ps_ret pe_bl)))) pss_nil) (pss_one (ps_ret (pe_and (pe_cmp (pc_isN (pv 0))) (pe_one (pe_cmp (pc_isN (pv 1)))))))))))), ?_⟩
  rcases hS with ⟨s, rfl, rfl⟩ | ⟨a, b, us, vs, rfl, rfl, ha, hb, hl, hi⟩
  · refine ⟨_, rfl, _, .str s, _, rfl, _, rfl, _, .str s, _, rfl, ?_⟩
    refine ⟨_, rfl, _, .str s, _, rfl, ?_⟩
    refine ⟨_, rfl, _, .str s, _, rfl, _, rfl, _, .str s, _, rfl, ?_⟩
    refine ⟨_, rfl, _, rfl, rfl, ?_⟩
    have e : decide (V.str s = V.str s) = true := decide_eq_true rfl
    rw [e]; exact z
  · refine ⟨_, rfl, _, .tup ha, _, rfl, _, rfl, _, .tup hb, _, rfl, ?_⟩
    refine ⟨_, rfl, _, .tup ha, _, rfl, ?_⟩
    refine ⟨_, rfl, _, .tup ha, _, rfl, ?_⟩
    refine ⟨_, rfl, _, .tup ha, _, rfl, _, rfl, _, .tup hb, ?_⟩
    refine ⟨_, rfl, _, rfl, ?_⟩
    refine ⟨_, rfl, _, _, rfl, lenT ha, fun l1 => ⟨_, rfl, _, _, rfl, lenT hb, fun _ => ⟨rfl, _, rfl, ?_⟩⟩⟩
    refine nay (by rw [eqi (by rw [hl])]; rfl) ?_
    refine ⟨_, rfl, _, _, rfl, lenT ha, fun _ => ⟨_, rfl, by omega, by omega, for_range (lo := 0) (n := ((us.length : Nat) : Int).toNat) (fun i σ' H' => H' = H ∧ ∃ v3, σ' = [some (.ref a), some (.ref b), some (.bl true), v3]) ⟨rfl, none, rfl⟩ ?_ ?_⟩⟩
    · rintro i σ1 H1 hj ⟨rfl, v3, rfl⟩
      have j1 : i < us.length := by omega
      have j2 : i < vs.length := by omega
      have at1 : atI us (0 + (i : Int)) = some us[i] := by rw [Int.zero_add]; exact atI_nat (List.getElem?_eq_getElem j1)
      have at2 : atI vs (0 + (i : Int)) = some vs[i] := by rw [Int.zero_add]; exact atI_nat (List.getElem?_eq_getElem j2)
      refine ⟨_, rfl, _, rfl, .inl ⟨a, _, _, _, rfl, rfl, ha, at1, _, rfl, _, rfl, .inl ⟨b, _, _, _, rfl, rfl, hb, at2, _, _, rfl, hi i _ _ (List.getElem?_eq_getElem j1) (List.getElem?_eq_getElem j2), _, rfl, ?_⟩⟩⟩
      exact ⟨rfl, _, rfl⟩
    · rintro σ1 H1 ⟨rfl, v3, rfl⟩
      exact z
theorem vac_same (D : Df K mg "_law_same" (top 32)) : Has P w K mg base (k + 1) "_law_same" (spSameN 0) := by
  refine D.has sc_l_same (fun _ _ _ _ _ _ us hl => match us, hl with | [_, _], _ => rfl) (fun vs H Q E h => ?_) (fun f cdv A outer s H vs Q E hr h => ?_)
  · obtain ⟨u, v, rfl, h, _⟩ := h
    exact h.elim
  · obtain ⟨u, v, rfl, h, _⟩ := h
    exact h.elim
theorem all_same (D : Df K mg "_law_same" (top 32)) (B : Bn mg) : ∀ n : Nat, Has P w K mg base (n + 1) "_law_same" (spSameN n)
  | 0 => vac_same D
  | n + 1 => ok_same D B (all_same D B n)
def spSame : Sp := fun vs H Q _ => ∃ u v d, vs = [u, v] ∧ Rep H d u ∧ Rep H d v ∧ hgt d ≤ 20 ∧ Q (.bl true) H
theorem same_it {n : Nat} (h : Has P w K mg base k "_law_same" (spSameN 42)) : Has P w K mg base k "_law_same" spSame := h.imp fun vs H Q E ⟨u, v, d, e, r1, r2, hd, z⟩ =>
  ⟨u, v, e, (same_rep d u v r1 r2).up (by omega), z⟩

/-! ### _law_at -/
abbrev N_l_at : List Str := ["_law_root", "_law_path", "_law_item_here", "_law_k"]
theorem sc_l_at : FnScope N_l_at ["_law_root", "_law_path"] (defScope (top 54)) := ⟨rfl, rfl, rfl, by decide +kernel, rfl, by decide +kernel, by decide +kernel⟩
def spAt : Sp := fun vs H Q _ => ∃ (v : V) (pa : Addr) (d : It) (p : List Int), vs = [v, .ref pa] ∧ Rep H d v ∧ H pa = some (.tup (p.map V.int)) ∧
  (∀ x u, gt p d = some x → Rep H x u → Q u H) ∧ (gt p d = none → Q .non H)
theorem int_of {p : List Int} {i : Nat} {x : V} (h : (p.map V.int)[i]? = some x) : ∃ j, x = .int j ∧ p[i]? = some j := by
  rw [List.getElem?_map] at h
  cases e : p[i]? with
  | none => rw [e] at h; cases h
  | some s => rw [e] at h; exact ⟨s, (Option.some.inj h).symm, rfl⟩
theorem take_succ' {α : Type} {l : List α} {i : Nat} {x : α} (h : l[i]? = some x) : l.take (i + 1) = l.take i ++ [x] := by
  rw [List.take_add_one, h]; rfl
theorem gt_step {p : List Int} {i : Nat} {j : Int} {d x : It} (h : gt (p.take i) d = some x) (e : p[i]? = some j) : gt (p.take (i + 1)) d = gt [j] x := by
  rw [take_succ' e, gt_append, h]; rfl
theorem gt_stop {p : List Int} {i : Nat} {j : Int} {d x : It} (h : gt (p.take i) d = some x) (e : p[i]? = some j) (n : gt [j] x = none) : gt p d = none := by
  have q : p = p.take (i + 1) ++ p.drop (i + 1) := (List.take_append_drop _ _).symm
  rw [q, gt_append, gt_step h e, n]; rfl
theorem gt1_part {j : Int} {k : Str} {ms : List Str} {its : List It} (h0 : 0 ≤ j) : gt [j] (.part k ms its) = its[j.toNat]? := by
  show (if 0 ≤ j then (match its[j.toNat]? with
      | some x => gt [] x
      | none => none) else none) = _
  rw [if_pos h0]
  cases its[j.toNat]? with
  | none => rfl
  | some x => exact gt_nil x
theorem gt1_neg {j : Int} {k : Str} {ms : List Str} {its : List It} (h0 : ¬ 0 ≤ j) : gt [j] (.part k ms its) = none := by
  show (if 0 ≤ j then (match its[j.toNat]? with
      | some x => gt [] x
      | none => none) else none) = _
  rw [if_neg h0]
theorem ok_at (D : Df K mg "_law_at" (top 54)) (B : Bn mg) : Has P w K mg base (k + 1) "_law_at" spAt := by
  refine D.has sc_l_at (fun _ _ _ _ _ _ us hl => match us, hl with | [_, _], _ => rfl) (fun vs H Q E h => ?_) (fun f cdv A outer s H vs Q E hr h => ?_)
  · obtain ⟨v, pa, d, p, rfl, _⟩ := h
    rfl
  obtain ⟨v, pa, d, p, rfl, rep, hp, k1, k2⟩ := h
  refine ⟨_, (pss_cons (ps_set (i := 2) sc_l_at.nd rfl (Or.inl rfl) (pv 0)) (pss_cons (ps_for PassesOwn.never rfl (pi_tup (pv 1)) (pg_name (i := 3) sc_l_at.nd rfl (Or.inl rfl)) (pss_cons (ps_if (PW.pt (pw_or (pt_not (PW.pt (pw_and (pt_val (pe_isi .tuple (pv 2) B.isi B.tup)) (pw_and1 (pt_cmpR op_eq (pe_callB (call_lenK (K := K)) rfl B.len PySem.boot_len (pa_cons (pv 2) pa_nil)) pe_int (nomark _)))))) (pw_or1 (pt_not (pt_chain op_le op_lt pe_int (pv 3) (pe_callB (call_lenK (K := K)) rfl B.len PySem.boot_len (pa_cons (pe_ix ix_tupC (pv 2) pe_int (fun _ _ => rfl)) pa_nil))))))) (pss_one (ps_ret pe_non)) pss_nil) (pss_one (ps_set (i := 2) sc_l_at.nd rfl (Or.inl rfl) (pe_ix ix_tupC (pe_ix ix_tupC (pv 2) pe_int (fun _ _ => rfl)) (pv 3) (fun _ _ => rfl)))))) (pss_one (ps_ret (pv 2))))), ?_⟩
  refine seq_asgN ⟨_, rfl, ?_⟩
  refine ⟨_, rfl, pa, rfl, ⟨_, SqT.of hp⟩, for_tup (K := K) (a := pa) (xs := p.map V.int) (fun i σ' H' => H' = H ∧ ∃ u x v3, σ' = [some v, some (.ref pa), some u, v3] ∧ gt (p.take i) d = some x ∧ Rep H x u)
    ⟨rfl, v, d, none, rfl, by rw [List.take_zero, gt_nil], rep⟩ (fun i σ' H' _ ⟨e, _⟩ => by rw [e]; exact SqT.of hp) ?_ ?_⟩
  · rintro i y σ1 H1 hy ⟨rfl, u, x, v3, rfl, g, r⟩
    obtain ⟨j, rfl, ej⟩ := int_of hy
    cases x with
    | txt t =>
      obtain rfl : u = .str t := r
      refine ⟨_, rfl, _, .str t, _, rfl, ?_⟩
      exact k2 (gt_stop g ej rfl)
    | two t n =>
      obtain ⟨a, rfl, ha⟩ := r
      refine ⟨_, rfl, _, .tup ha, _, rfl, _, rfl, _, _, rfl, lenT ha, rfl, _, rfl, ?_⟩
      exact k2 (gt_stop g ej rfl)
    | part kd ms its =>
      obtain ⟨a, m, r, us, rfl, a1, a2, a3, a4⟩ := id r
      refine ⟨_, rfl, _, .tup a1, _, rfl, _, rfl, _, _, rfl, lenT a1, rfl, _, rfl, ?_⟩
      refine ⟨_, rfl, _, _, rfl, rfl, _, rfl, ?_⟩
      refine ite2 (fun c => ?_) (fun c => ?_)
      · have j0 : 0 ≤ j := of_decide_eq_true c
        refine ⟨_, rfl, a, _, _, _, rfl, rfl, a1, rfl, _, _, rfl, lenT a3, _, _, rfl, rfl, _, rfl, ?_⟩
        by_cases c2 : j < (us.length : Int)
        · refine nay (by rw [decide_eq_true c2]; rfl) ?_
          have hj : j.toNat < its.length := by rw [← a4.length]; omega
          obtain ⟨x2, hx2, rx2⟩ := a4.get (List.getElem?_eq_getElem hj)
          refine ⟨_, rfl, a, _, _, _, rfl, rfl, a1, rfl, _, rfl, _, _, _, _, rfl, rfl, a3, at_nat j0 hx2, ?_⟩
          exact ⟨rfl, x2, _, _, rfl, by rw [gt_step g ej, gt1_part j0, List.getElem?_eq_getElem hj], rx2⟩
        · refine yes (by rw [decide_eq_false c2]; rfl) ?_
          refine k2 (gt_stop g ej ?_)
          rw [gt1_part j0]
          exact List.getElem?_eq_none (by rw [← a4.length]; omega)
      · have j0 : ¬ 0 ≤ j := of_decide_eq_false (Bool.eq_false_iff.mpr c)
        refine ⟨_, rfl, ?_⟩
        exact k2 (gt_stop g ej (gt1_neg j0))
  · rintro σ1 H1 ⟨rfl, u, x, v3, rfl, g, r⟩
    rw [List.length_map, List.take_length] at g
    exact ⟨_, rfl, k1 x u g r⟩

/-! ### _law_swap -/
abbrev N_l_swap : List Str := ["_law_root", "_law_path", "_law_item_here", "_law_k", "_law_inner"]
theorem sc_l_swap : FnScope N_l_swap ["_law_root", "_law_path", "_law_item_here"] (defScope (top 55)) := ⟨rfl, rfl, rfl, by decide +kernel, rfl, by decide +kernel, by decide +kernel⟩
def spSwapN (n : Nat) : Sp := fun vs H Q _ => ∃ (v : V) (pa : Addr) (xv : V) (d x : It) (p : List Int) (y : It), vs = [v, .ref pa, xv] ∧ p.length < n ∧ Rep H d v ∧ H pa = some (.tup (p.map V.int)) ∧ Rep H x xv ∧ gt p d = some y ∧ wid d ≤ 1000 ∧
  ∀ u H', Ex H H' → Rep H' (sw p x d) u → Q u H'
theorem cut_tail {xs : List V} : cutV xs (some 1) none = xs.tail := by
  unfold cutV
  cases xs with
  | nil => rfl
  | cons a r =>
    have e : HT.sIx (a :: r).length 0 (some 1) = 1 := by
      show (if (1 : Int) < 0 then ((1 : Int) + ((a :: r).length : Int)).toNat else min (1 : Int).toNat (r.length + 1)) = 1
      rw [if_neg (by decide)]
      show min 1 (r.length + 1) = 1
      omega
    rw [e, HT.sIx_none]
    exact List.take_of_length_le (by simp)
theorem set_cut {α : Type} {l : List α} {i : Nat} {x : α} (h : i < l.length) : l.set i x = l.take i ++ ([x] ++ l.drop (i + 1)) := by
  rw [List.set_eq_take_append_cons_drop, if_pos h]; rfl
theorem ok_swap {n : Nat} (D : Df K mg "_law_swap" (top 55)) (B : Bn mg) (G_l_swap : Has P w K mg base k "_law_swap" (spSwapN n)) : Has P w K mg base (k + 1) "_law_swap" (spSwapN (n + 1)) := by
  refine D.has sc_l_swap (fun _ _ _ _ _ _ us hl => match us, hl with | [_, _, _], _ => rfl) (fun vs H Q E h => ?_) (fun f cdv A outer s H vs Q E hr h => ?_)
  · obtain ⟨v, pa, xv, d, x, p, y, rfl, _⟩ := h
    rfl
  obtain ⟨v, pa, xv, d, x, p, y, rfl, hl, rep, hp, rx, hg, hw, z⟩ := h
  refine ⟨_, (pss_cons (ps_if (pt_cmpR op_eq (pe_callB (call_lenK (K := K)) rfl B.len PySem.boot_len (pa_cons (pv 1) pa_nil)) pe_int (nomark _)) (pss_one (ps_ret (pv 2))) pss_nil) (pss_cons (ps_set (i := 3) sc_l_swap.nd rfl (Or.inl rfl) (pe_ix ix_tupC (pv 1) pe_int (fun _ _ => rfl))) (pss_cons (ps_set (i := 4) sc_l_swap.nd rfl (Or.inl rfl) (pe_has G_l_swap hr (pa_cons (pe_ix ix_tupC (pe_ix ix_tupC (pv 0) pe_int (fun _ _ => rfl)) (pv 3) (fun _ _ => rfl)) (pa_cons (pe_slice sl_tupC (pv 1) (po_some pe_int) po_none) (pa_cons (pv 2) pa_nil))))) (pss_one (ps_ret (pe_tupC (pa_cons (pe_ix ix_tupC (pv 0) pe_int (fun _ _ => rfl)) (pa_cons (pe_ix ix_tupC (pv 0) pe_int (fun _ _ => rfl)) (pa_cons (pe_op op_catC (pe_op op_catC (pe_slice sl_tupC (pe_ix ix_tupC (pv 0) pe_int (fun _ _ => rfl)) po_none (po_some (pv 3))) (pe_tupC (pa_cons (pv 4) pa_nil))) (pe_slice sl_tupC (pe_ix ix_tupC (pv 0) pe_int (fun _ _ => rfl)) (po_some (pe_op op_add (pv 3) pe_int)) po_none)) pa_nil))))))))), ?_⟩
  cases p with
  | nil =>
    refine ⟨_, rfl, _, _, rfl, lenT hp, rfl, _, rfl, ?_⟩
    exact ⟨_, rfl, z xv H (Chg.refl H) (by rw [sw_nil]; exact rx)⟩
  | cons i p =>
    obtain ⟨kd, ms, its, x0, rfl, i0, hx0, hg0⟩ := gt_cons hg
    obtain ⟨a, m, r, us, rfl, a1, a2, a3, a4⟩ := rep
    refine seq_if ⟨_, rfl, _, _, rfl, lenT hp, rfl, _, rfl, ?_⟩
    refine ite2 (fun c => absurd (of_decide_eq_true c) (by intro q; have q' := V.int.inj q; rw [List.length_map, List.length_cons] at q'; omega)) (fun _ => ?_)
    refine seq_asgN ⟨_, rfl, pa, _, _, _, rfl, rfl, hp, atI_nat (j := 0) rfl, ?_⟩
    obtain ⟨u0, hu0, ru0⟩ := a4.get hx0
    refine seq_asgN ⟨_, rfl, a, _, _, _, rfl, rfl, a1, rfl, _, rfl, r, _, _, _, rfl, rfl, a3, at_nat i0 hu0, _, rfl, _, rfl, pa, _, rfl, hp, fun p2 H2 e2 h2 => ⟨_, rfl, ?_⟩⟩
    have h2' : H2 p2 = some (.tup (p.map V.int)) := by rw [h2, cut_tail]; rfl
    have wi : wid x0 ≤ 1000 ∧ its.length ≤ 1000 := by
      have := wids_mem (List.mem_of_getElem? hx0)
      rw [wid] at hw
      omega
    refine ⟨u0, p2, xv, x0, x, p, y, rfl, by rw [List.length_cons] at hl; omega, ru0.chg e2, h2', rx.chg e2, hg0, wi.1, fun u3 H3 e3 r3 => ?_⟩
    have e03 : Ex H H3 := e2.trans e3
    have hlt : i.toNat < us.length := by rw [a4.length]; exact lt_of_get hx0
    refine ⟨_, rfl, a, _, _, _, rfl, rfl, e03.ex a1, rfl, _, rfl, a, _, _, _, rfl, rfl, e03.ex a1, rfl, ?_⟩
    refine ⟨_, rfl, a, _, _, _, rfl, rfl, e03.ex a1, rfl, _, rfl, _, rfl, r, _, rfl, e03.ex a3, fun p4 H4 e4 h4 => ?_⟩
    rw [cut_lo i0 (by omega)] at h4
    refine ⟨_, rfl, by show 1 ≤ sizeLine; decide, fun p5 H5 n5 e5 h5 => ⟨p4, p5, _, _, rfl, rfl, e5.ex h4, h5, sz (by rw [List.length_take]; show min _ _ + 1 ≤ _; have := a4.length; omega), fun p6 H6 e6 h6 => ?_⟩⟩
    have e46 : Ex H3 H6 := (e4.trans e5).trans e6
    refine ⟨_, rfl, a, _, _, _, rfl, rfl, e46.ex (e03.ex a1), rfl, _, rfl, _, _, rfl, rfl, _, rfl, r, _, rfl, e46.ex (e03.ex a3), fun p7 H7 e7 h7 => ?_⟩
    rw [cut_hi (by omega) (by omega)] at h7
    have t1 : (i + 1).toNat = i.toNat + 1 := by omega
    rw [t1] at h7
    refine ⟨p6, p7, _, _, rfl, rfl, e7.ex h6, h7, sz (by rw [List.length_append, List.length_take, List.length_drop]; show min _ _ + 1 + _ ≤ _; have := a4.length; omega), fun p8 H8 e8 h8 => ⟨by show 3 ≤ sizeLine; decide, fun p9 H9 n9 e9 h9 => ?_⟩⟩
    rw [List.append_assoc, ← set_cut hlt] at h8
    have e09 : Ex H H9 := (((e03.trans e46).trans e7).trans e8).trans e9
    have e39 : Ex H3 H9 := ((e46.trans e7).trans e8).trans e9
    refine z (.ref p9) H9 e09 ?_
    rw [sw_part hx0]
    exact Rep.part h9 (e09.ex a2) (e9.ex h8) ((a4.chg e09).set _ (r3.chg e39))
theorem vac_swap (D : Df K mg "_law_swap" (top 55)) : Has P w K mg base (k + 1) "_law_swap" (spSwapN 0) := by
  refine D.has sc_l_swap (fun _ _ _ _ _ _ us hl => match us, hl with | [_, _, _], _ => rfl) (fun vs H Q E h => ?_) (fun f cdv A outer s H vs Q E hr h => ?_)
  · obtain ⟨v, pa, xv, d, x, p, y, rfl, hl, _⟩ := h
    omega
  · obtain ⟨v, pa, xv, d, x, p, y, rfl, hl, _⟩ := h
    omega
theorem all_swap (D : Df K mg "_law_swap" (top 55)) (B : Bn mg) : ∀ n : Nat, Has P w K mg base (n + 1) "_law_swap" (spSwapN n)
  | 0 => vac_swap D
  | n + 1 => ok_swap D B (all_swap D B n)
end
end K7

/-! ## K7W7 -/
/-! The law's sizes, row edits, edits applied. -/
namespace K7
open PySem PySem.Spec PyProof.Rows L2
theorem word_no {e w : Str} {A B : Prop} (h : e ≠ w) (b : B) : if decide (V.str e = V.str w) = true then A else B := by
  rw [decide_eq_false fun z => h (V.str.inj z)]; exact iteF b
theorem word_yes {e w : Str} {A B : Prop} (h : e = w) (a : A) : if decide (V.str e = V.str w) = true then A else B := by
  rw [decide_eq_true (by rw [h])]; exact iteT a
theorem wid_gt : ∀ {p : List Int} {d x : It}, gt p d = some x → wid x ≤ wid d
  | [], d, x, h => by rw [gt_nil] at h; rw [Option.some.inj h]; exact Nat.le_refl _
  | i :: p, d, x, h => by
    obtain ⟨k, m, its, y, rfl, hi, e, h1⟩ := gt_cons h
    have h2 := wid_gt h1
    have h3 := wids_mem (List.mem_of_getElem? e)
    rw [wid]; omega
theorem sh_gt : ∀ {p : List Int} {d x : It}, gt p d = some x → Sh d → Sh x
  | [], d, x, h, s => by rw [gt_nil] at h; rw [← Option.some.inj h]; exact s
  | i :: p, d, x, h, s => by
    obtain ⟨k, m, its, y, rfl, hi, e, h1⟩ := gt_cons h
    exact sh_gt h1 ((Shs_iff its).mp s y (List.mem_of_getElem? e))
theorem hgt_gt : ∀ {p : List Int} {d x : It}, gt p d = some x → p.length + hgt x ≤ hgt d
  | [], d, x, h => by rw [gt_nil] at h; rw [Option.some.inj h]; simp
  | i :: p, d, x, h => by
    obtain ⟨k, m, its, y, rfl, hi, e, h1⟩ := gt_cons h
    have h2 := hgt_gt h1
    have h3 := hgts_mem (List.mem_of_getElem? e)
    rw [hgt, List.length_cons]; omega
section
variable {P : Program} {w : World} {K : PySem.W.Frag} {mg : Str → Option Value} {base : Heap} {k : Nat}

/-! ### _law_sizes -/
abbrev N_l_sizes : List Str := ["_law_item_here", "_law_depth", "_law_sizes_here", "_law_one", "_law_more", "_law_total", "_law_k"]
theorem sc_l_sizes : FnScope N_l_sizes ["_law_item_here", "_law_depth"] (defScope (top 58)) := ⟨rfl, rfl, rfl, by decide +kernel, rfl, by decide +kernel, by decide +kernel⟩
def szs (d : It) (t : Int) : List V := [.int (cnt d), .int (chs d), .int (t - 1 + hgt d), .int (rfs d), .int (wid d)]
def spSizesN (n : Nat) : Sp := fun vs H Q _ => ∃ (v : V) (d : It) (t : Int), vs = [v, .int t] ∧ hgt d < n ∧ Rep H d v ∧ Sh d ∧ ∀ l H', H l = none → Ex H H' → H' l = some (.lst (szs d t)) → Q (.ref l) H'
/-- the sizes of the first so many items -/
def szp (its : List It) (t : Int) (i : Nat) : List Int := [1 + cnts (its.take i), chss (its.take i), t + hgts (its.take i), rfss (its.take i), max its.length (wids (its.take i))]
/-- sums, made one behind another -/
def SumI (H0 : Hp) (D : Addr) (zs : List Int) (j : Nat) (H : Hp) : Prop := Ex H0 H ∧ H D = some (.lst ((zs.take j).map V.int))
theorem SumI.next {H0 H : Hp} {D : Addr} {zs : List Int} {j : Nat} {z : Int} (s : SumI H0 D zs j H) (nD : H0 D = none) (h : zs[j]? = some z) (l : zs.length ≤ 1000) : ∃ acc, H D = some (.lst acc) ∧ acc.length < sizeLine ∧ SumI H0 D zs (j + 1) (upd H D (.lst (acc ++ [V.int z]))) := by
  obtain ⟨s1, s2⟩ := s
  refine ⟨_, s2, szl (by rw [List.length_map, List.length_take]; omega), s1.wr (Wr.upd ..) nD, ?_⟩
  rw [upd_same, take_succ' h, List.map_append]; rfl
theorem ok_sizes {n : Nat} (D : Df K mg "_law_sizes" (top 58)) (B : Bn mg) (G_l_sizes : Has P w K mg base k "_law_sizes" (spSizesN n)) : Has P w K mg base (k + 1) "_law_sizes" (spSizesN (n + 1)) := by
  refine D.has sc_l_sizes (fun _ _ _ _ _ _ us hl => match us, hl with | [_, _], _ => rfl) (fun vs H Q E h => ?_) (fun f cdv A outer s H vs Q E hr h => ?_)
  · obtain ⟨v, d, t, rfl, _⟩ := h
    rfl
  obtain ⟨v, d, t, rfl, hd, rep, sh, z⟩ := h
  refine ⟨_, (pss_cons (ps_if (pt_val (pe_isi .str (pv 0) B.isi B.str)) (pss_one (ps_ret (pe_lstC (pa_cons pe_int (pa_cons (pe_callB (call_lenK (K := K)) rfl B.len PySem.boot_len (pa_cons (pv 0) pa_nil)) (pa_cons (pe_op op_sub (pv 1) pe_int) (pa_cons pe_int (pa_cons pe_int pa_nil)))))))) pss_nil) (pss_cons (ps_if (pt_cmpR op_eq (pe_callB (call_lenK (K := K)) rfl B.len PySem.boot_len (pa_cons (pv 0) pa_nil)) pe_int (nomark _)) (pss_one (ps_ret (pe_lstC (pa_cons pe_int (pa_cons pe_int (pa_cons (pe_op op_sub (pv 1) pe_int) (pa_cons (pe_callTy call_int1 rfl B.int (by decide +kernel) (pa_cons (pe_cmpR op_eq (pe_ix ix_tupC (pv 0) pe_int (fun _ _ => rfl)) pe_str (nomark _)) pa_nil)) (pa_cons pe_int pa_nil)))))))) pss_nil) (pss_cons (ps_set (i := 2) sc_l_sizes.nd rfl (Or.inr rfl) (pe_lstC (pa_cons pe_int (pa_cons pe_int (pa_cons (pv 1) (pa_cons pe_int (pa_cons (pe_callB (call_lenK (K := K)) rfl B.len PySem.boot_len (pa_cons (pe_ix ix_tupC (pv 0) pe_int (fun _ _ => rfl)) pa_nil)) pa_nil))))))) (pss_cons (ps_for PassesOwn.never rfl (pi_tup (pe_ix ix_tupC (pv 0) pe_int (fun _ _ => rfl))) (pg_name (i := 3) sc_l_sizes.nd rfl (Or.inl rfl)) (pss_cons (ps_set (i := 4) sc_l_sizes.nd rfl (Or.inr rfl) (pe_has G_l_sizes hr (pa_cons (pv 3) (pa_cons (pe_op op_add (pv 1) pe_int) pa_nil)))) (pss_cons (ps_setLc (i := 5) (own := [("_law_k", 6)]) (g := gName 6) rfl sc_l_sizes.nd rfl rfl (sw_true rfl rfl rfl (by decide +kernel)) (pi_range1 rfl B.rng (pa_cons pe_int pa_nil)) (blkOk_by (own := [("_law_k", 6)]) (N := N_l_sizes) (sc := defScope (top 58)) (by decide +kernel)) (fun _ _ _ _ _ => pg_name (i := 6) sc_l_sizes.nd rfl (Or.inl rfl)) (fun _ _ _ _ _ => pts_nil) (fun _ _ _ _ _ => (pe_op op_add (pe_ix ix_lstC (pv 2) (pv 6) (fun _ _ => rfl)) (pe_ix ix_lstC (pv 4) (pv 6) (fun _ _ => rfl))))) (pss_cons (ps_asg (pe_callB (call_max2 rfl) rfl B.mx (by decide +kernel) (pa_cons (pe_callTy call_int1 rfl B.int (by decide +kernel) (pa_cons (pe_ix ix_lstC (pv 2) pe_int (fun _ _ => rfl)) pa_nil)) (pa_cons (pe_ix ix_lstC (pv 4) pe_int (fun _ _ => rfl)) pa_nil))) (pg_sub (pv 5) pe_int set_lstC)) (pss_cons (ps_asg (pe_callB (call_max2 rfl) rfl B.mx (by decide +kernel) (pa_cons (pe_callTy call_int1 rfl B.int (by decide +kernel) (pa_cons (pe_ix ix_lstC (pv 2) pe_int (fun _ _ => rfl)) pa_nil)) (pa_cons (pe_ix ix_lstC (pv 4) pe_int (fun _ _ => rfl)) pa_nil))) (pg_sub (pv 5) pe_int set_lstC)) (pss_one (ps_set (i := 2) sc_l_sizes.nd rfl (Or.inr rfl) (pv 5)))))))) (pss_one (ps_ret (pv 2))))))), ?_⟩
  cases d with
  | txt s =>
    obtain rfl : v = .str s := rep
    have hs : s.length ≤ 1000 := sh
    refine ⟨_, rfl, _, .str s, _, rfl, ?_⟩
    refine ⟨_, rfl, _, _, rfl, lenS (sz (by omega)), _, rfl, _, _, rfl, rfl, by show 5 ≤ sizeLine; decide, fun l H1 n1 e1 h1 => ?_⟩
    refine z l H1 n1 e1 ?_
    have e : szs (.txt s) t = [.int 1, .int (s.length : Nat), .int (t - 1), .int 0, .int 0] := by
      show [V.int 1, V.int (s.length : Nat), V.int (t - 1 + ((0 : Nat) : Int)), V.int 0, V.int 0] = _
      rw [show t - 1 + ((0 : Nat) : Int) = t - 1 by omega]
    rw [e]; exact h1
  | two tg nm =>
    obtain ⟨a, rfl, ha⟩ := rep
    refine seq_if ⟨_, rfl, _, .tup ha, _, rfl, iteF ?_⟩
    refine seq_if ⟨_, rfl, _, _, rfl, lenT ha, rfl, _, rfl, ?_⟩
    refine ite2 (fun _ => ?_) (fun c => absurd (decide_eq_true rfl) c)
    refine ⟨_, rfl, _, _, rfl, rfl, _, rfl, a, _, _, _, rfl, rfl, ha, rfl, rfl, .inr ⟨_, rfl, by show 5 ≤ sizeLine; decide, fun l H1 n1 e1 h1 => ?_⟩⟩
    refine z l H1 n1 e1 ?_
    have e : szs (.two tg nm) t = [.int 1, .int 0, .int (t - 1), .int (if decide (V.str tg = V.str ("@" : Str)) = true then 1 else 0), .int 0] := by
      show [V.int 1, V.int 0, V.int (t - 1 + ((0 : Nat) : Int)), V.int (((if tg = ("@" : Str) then 1 else 0) : Nat) : Int), V.int 0] = _
      rw [show t - 1 + ((0 : Nat) : Int) = t - 1 by omega]
      by_cases c : tg = ("@" : Str)
      · rw [if_pos c, if_pos (decide_eq_true (by rw [c]))]; rfl
      · rw [if_neg c, if_neg (by rw [decide_eq_false fun q => c (V.str.inj q)]; exact Bool.false_ne_true)]; rfl
    rw [e]; exact h1
  | part kd ms its =>
    obtain ⟨a, m, r, us, rfl, a1, a2, a3, a4⟩ := rep
    refine seq_if ⟨_, rfl, _, .tup a1, _, rfl, iteF ?_⟩
    refine seq_if ⟨_, rfl, _, _, rfl, lenT a1, rfl, _, rfl, ?_⟩
    refine ite2 (fun c => absurd (of_decide_eq_true c) (by intro q; have q' : (3 : Int) = 2 := V.int.inj q; exact absurd q' (by decide))) (fun _ => ?_)
    refine seq_asgN ⟨_, rfl, _, rfl, a, _, _, _, rfl, rfl, a1, rfl, _, _, rfl, lenT a3, by show 5 ≤ sizeLine; decide, fun l H1 n1 e1 h1 => ?_⟩
    have h1' : H1 l = some (.lst ((szp its t 0).map V.int)) := by
      have e : (szp its t 0).map V.int = [V.int 1, V.int 0, V.int t, V.int 0, V.int (us.length : Nat)] := by
        show [V.int (1 + ((0 : Nat) : Int)), V.int ((0 : Nat) : Int), V.int (t + ((0 : Nat) : Int)), V.int ((0 : Nat) : Int), V.int (max (its.length : Int) ((0 : Nat) : Int))] = _
        rw [show t + ((0 : Nat) : Int) = t by omega, show max (its.length : Int) ((0 : Nat) : Int) = (us.length : Int) by rw [a4.length]; omega]
        rfl
      rw [e]; exact h1
    refine seq_cut (fun σ' H' => ∃ l v3 v4 v5, σ' = [some (.ref a), some (.int t), some (.ref l), v3, v4, v5, none] ∧ H l = none ∧ Ex H H' ∧ H' l = some (.lst ((szp its t its.length).map V.int))) (fun N hN => ?_) ?_
    · refine ⟨_, rfl, a, _, _, _, rfl, rfl, e1.ex a1, rfl, r, rfl, ⟨_, SqT.of (e1.ex a3)⟩, for_tup (K := K) (a := r) (xs := us) (fun i σ' H' => ∃ l v3 v4 v5, σ' = [some (.ref a), some (.int t), some (.ref l), v3, v4, v5, none] ∧ H l = none ∧ Ex H H' ∧ H' l = some (.lst ((szp its t i).map V.int)))
        ⟨l, none, none, none, rfl, n1, e1, h1'⟩ (fun i σ' H' _ ⟨_, _, _, _, _, _, e, _⟩ => SqT.of (e.ex a3)) ?_ ?_⟩
      · rintro i y σ2 H2 hy ⟨l, v3, v4, v5, rfl, nl, e2, h2⟩
        have hi : i < its.length := by rw [← a4.length]; exact lt_of_get hy
        have hx : its[i]? = some its[i] := List.getElem?_eq_getElem hi
        obtain ⟨y', hy', ry⟩ := a4.get hx
        rw [hy'] at hy
        obtain rfl : y' = y := Option.some.inj hy
        have hm := List.getElem_mem hi
        have hh : hgt its[i] < n := by
          have := hgts_mem hm
          rw [hgt] at hd
          omega
        refine seq_asgN ⟨_, rfl, _, rfl, _, _, rfl, rfl, y', its[i], t + 1, rfl, hh, ry.chg e2, (Shs_iff its).mp sh _ hm, fun m2 H3 n3 e3 h3 => ?_⟩
        have l3 := e3.ex h2
        -- total
        refine seq_asgN ⟨5, rfl, by decide, by decide, fun D nD => lc_range (lo := 0) (n := ((5 : Int)).toNat) (SumI H3 D (List.zipWith (· + ·) (szp its t i) [(cnt its[i] : Int), chs its[i], t + 1 - 1 + hgt its[i], rfs its[i], wid its[i]])) ⟨Chg.new nD, upd_same⟩ (fun j H4 hj s4 => ⟨rfl, ?_⟩) ?_⟩
        · have j5 : j < 5 := hj
          have hx1 : ∃ x, (szp its t i)[j]? = some x := ⟨_, List.getElem?_eq_getElem (show j < (szp its t i).length from j5)⟩
          have hx2 : ∃ x, ([(cnt its[i] : Int), chs its[i], t + 1 - 1 + hgt its[i], rfs its[i], wid its[i]] : List Int)[j]? = some x := ⟨_, List.getElem?_eq_getElem (show j < 5 from j5)⟩
          obtain ⟨x1, hx1⟩ := hx1
          obtain ⟨x2, hx2⟩ := hx2
          have at1 : atI ((szp its t i).map V.int) (0 + (j : Int)) = some (.int x1) := by rw [Int.zero_add]; exact atI_nat (by rw [List.getElem?_map, hx1]; rfl)
          have at2 : atI (szs its[i] (t + 1)) (0 + (j : Int)) = some (.int x2) := by
            rw [Int.zero_add]
            have e : szs its[i] (t + 1) = ([(cnt its[i] : Int), chs its[i], t + 1 - 1 + hgt its[i], rfs its[i], wid its[i]] : List Int).map V.int := rfl
            rw [e]
            exact atI_nat (by rw [List.getElem?_map, hx2]; rfl)
          exact ⟨_, rfl, _, rfl, l, _, _, _, rfl, rfl, s4.1.ex l3, at1, _, rfl, _, rfl, m2, _, _, _, rfl, rfl, s4.1.ex h3, at2, _, _, rfl, rfl, s4.next nD (z := x1 + x2) (by rw [List.getElem?_zipWith, hx1, hx2]) (by rw [List.length_zipWith]; show min 5 5 ≤ 1000; decide)⟩
        rintro H4 ⟨e4, hD⟩
        have l4 := e4.ex l3
        have m4 := e4.ex h3
        have nDm : m2 ≠ D := ne_at h3 nD
        have nDl : l ≠ D := ne_at l3 nD
        have hD0 : H D = none := (e2.trans e3).backE nD
        refine seq_asg ⟨_, rfl, l, _, _, _, rfl, rfl, l4, atI_nat (j := 2) rfl, .inl ⟨_, rfl, _, rfl, m2, _, _, _, rfl, rfl, m4, atI_nat (j := 2) rfl, _, _, rfl, _, rfl, D, _, _, 2, rfl, rfl, hD, rfl, fun H5 w5 => ?_⟩⟩
        have l5 : H5 l = _ := (w5.ne l nDl).trans l4
        have m5 : H5 m2 = _ := (w5.ne m2 nDm).trans m4
        refine seq_asg ⟨_, rfl, l, _, _, _, rfl, rfl, l5, atI_nat (j := 4) rfl, .inl ⟨_, rfl, _, rfl, m2, _, _, _, rfl, rfl, m5, atI_nat (j := 4) rfl, _, _, rfl, _, rfl, D, _, _, 4, rfl, rfl, w5.here, rfl, fun H6 w6 => ?_⟩⟩
        have e06 : Ex H H6 := ((e2.trans e3).trans e4 |>.wr w5 hD0).wr w6 hD0
        refine ⟨_, rfl, D, _, _, _, rfl, hD0, e06, ?_⟩
        rw [w6.here]
        have k1 : ((1 + cnts (its.take i) : Nat) : Int) + (cnt its[i] : Int) = ((1 + cnts (its.take (i + 1)) : Nat) : Int) := by
          rw [take_succ' hx, cnts_append, cnts, cnts]; omega
        have k2 : ((chss (its.take i) : Nat) : Int) + (chs its[i] : Int) = ((chss (its.take (i + 1)) : Nat) : Int) := by
          rw [take_succ' hx, chss_append, chss, chss]; omega
        have k4 : ((rfss (its.take i) : Nat) : Int) + (rfs its[i] : Int) = ((rfss (its.take (i + 1)) : Nat) : Int) := by
          rw [take_succ' hx, rfss_append, rfss, rfss]; omega
        have k3 : (if (t + 1 - 1 + (hgt its[i] : Int)) > (t + (hgts (its.take i) : Int)) then (t + 1 - 1 + (hgt its[i] : Int)) else (t + (hgts (its.take i) : Int))) = t + (hgts (its.take (i + 1)) : Int) := by
          rw [take_succ' hx, hgts_append, hgts, hgts]; split <;> omega
        have k5 : (if ((wid its[i] : Nat) : Int) > (max (its.length : Int) (wids (its.take i) : Int)) then ((wid its[i] : Nat) : Int) else (max (its.length : Int) (wids (its.take i) : Int))) = max (its.length : Int) (wids (its.take (i + 1)) : Int) := by
          rw [take_succ' hx, wids_append, wids, wids]; split <;> omega
        show some (HO.lst [V.int (1 + (cnts (its.take i) : Int) + (cnt its[i] : Int)), V.int ((chss (its.take i) : Int) + (chs its[i] : Int)), V.int (if (t + 1 - 1 + (hgt its[i] : Int)) > (t + (hgts (its.take i) : Int)) then (t + 1 - 1 + (hgt its[i] : Int)) else (t + (hgts (its.take i) : Int))), V.int ((rfss (its.take i) : Int) + (rfs its[i] : Int)),
          V.int (if ((wid its[i] : Nat) : Int) > (max (its.length : Int) (wids (its.take i) : Int)) then ((wid its[i] : Nat) : Int) else (max (its.length : Int) (wids (its.take i) : Int)))]) = some (HO.lst [V.int (1 + (cnts (its.take (i + 1)) : Int)), V.int (chss (its.take (i + 1))), V.int (t + (hgts (its.take (i + 1)) : Int)), V.int (rfss (its.take (i + 1))), V.int (max (its.length : Int) (wids (its.take (i + 1)) : Int))])
        rw [k3, k5, k4, k2, show 1 + (cnts (its.take i) : Int) + (cnt its[i] : Int) = 1 + (cnts (its.take (i + 1)) : Int) by omega]
      · rintro σ2 H2 ⟨l, v3, v4, v5, rfl, nl, e2, h2⟩
        rw [a4.length] at h2
        exact hN _ _ ⟨l, v3, v4, v5, rfl, nl, e2, h2⟩
    rintro σ2 H2 ⟨l, v3, v4, v5, rfl, nl, e2, h2⟩
    refine ⟨_, rfl, z l H2 nl e2 ?_⟩
    rw [h2]
    have e : szs (.part kd ms its) t = (szp its t its.length).map V.int := by
      show [V.int ((1 + cnts its : Nat) : Int), V.int (chss its), V.int (t - 1 + ((1 + hgts its : Nat) : Int)), V.int (rfss its), V.int ((max its.length (wids its) : Nat) : Int)] = [V.int (1 + (cnts (its.take its.length) : Int)), V.int (chss (its.take its.length)), V.int (t + (hgts (its.take its.length) : Int)), V.int (rfss (its.take its.length)), V.int (max (its.length : Int) (wids (its.take its.length) : Int))]
      rw [List.take_length, show ((1 + cnts its : Nat) : Int) = 1 + (cnts its : Int) by omega, show t - 1 + ((1 + hgts its : Nat) : Int) = t + (hgts its : Int) by omega, show ((max its.length (wids its) : Nat) : Int) = max (its.length : Int) (wids its : Int) by omega]
    rw [e]
theorem vac_sizes (D : Df K mg "_law_sizes" (top 58)) : Has P w K mg base (k + 1) "_law_sizes" (spSizesN 0) := by
  refine D.has sc_l_sizes (fun _ _ _ _ _ _ us hl => match us, hl with | [_, _], _ => rfl) (fun vs H Q E h => ?_) (fun f cdv A outer s H vs Q E hr h => ?_)
  · obtain ⟨v, d, t, rfl, h, _⟩ := h
    omega
  · obtain ⟨v, d, t, rfl, h, _⟩ := h
    omega
theorem all_sizes (D : Df K mg "_law_sizes" (top 58)) (B : Bn mg) : ∀ n : Nat, Has P w K mg base (n + 1) "_law_sizes" (spSizesN n)
  | 0 => vac_sizes D
  | n + 1 => ok_sizes D B (all_sizes D B n)

/-! ### _law_let -/
abbrev N_l_let : List Str := ["_law_root", "_law_sizes_here", "_law_bounds", "_law_k"]
theorem sc_l_let : FnScope N_l_let ["_law_root"] (defScope (top 59)) := ⟨rfl, rfl, rfl, by decide +kernel, rfl, by decide +kernel, by decide +kernel⟩
def spLet : Sp := fun vs H Q _ => ∃ (v : V) (d : It), vs = [v] ∧ hgt d < 30 ∧ Rep H d v ∧ Sh d ∧ ∀ b H', (b = true ↔ InB d) → Ex H H' → Q (.bl b) H'
/-- the bounds that are broken so far -/
def OverI (H0 : Hp) (D : Addr) (as bs : List Int) (j : Nat) (H : Hp) : Prop := Ex H0 H ∧ ∃ acc, H D = some (.lst acc) ∧ acc.length ≤ j ∧ (acc = [] ↔ ∀ i x y, i < j → as[i]? = some x → bs[i]? = some y → x ≤ y)
theorem ok_let (D : Df K mg "_law_let" (top 59)) (B : Bn mg) (G_l_sizes : Has P w K mg base k "_law_sizes" (spSizesN 30)) : Has P w K mg base (k + 1) "_law_let" spLet := by
  refine D.has sc_l_let (fun _ _ _ _ _ _ us hl => match us, hl with | [_], _ => rfl) (fun vs H Q E h => ?_) (fun f cdv A outer s H vs Q E hr h => ?_)
  · obtain ⟨v, d, rfl, _⟩ := h
    rfl
  obtain ⟨v, d, rfl, hd, rep, sh, z⟩ := h
  refine ⟨_, (pss_cons (ps_set (i := 1) sc_l_let.nd rfl (Or.inr rfl) (pe_has G_l_sizes hr (pa_cons (pv 0) (pa_cons pe_int pa_nil)))) (pss_cons (ps_set (i := 2) sc_l_let.nd rfl (Or.inr rfl) (pe_lstC (pa_cons pe_int (pa_cons pe_int (pa_cons pe_int (pa_cons pe_int (pa_cons pe_int pa_nil))))))) (pss_one (ps_ret (pe_cmpR op_eq (pe_callB (call_lenK (K := K)) rfl B.len PySem.boot_len (pa_cons (pe_lc (own := [("_law_k", 3)]) (g := gName 3) rfl sc_l_let.nd (pi_range1 rfl B.rng (pa_cons pe_int pa_nil)) (blkOk_by (own := [("_law_k", 3)]) (N := N_l_let) (sc := defScope (top 59)) (by decide +kernel)) (fun _ _ _ _ _ => pg_name (i := 3) sc_l_let.nd rfl (Or.inl rfl)) (fun _ _ _ _ _ => pts_one (pt_cmpR op_gt (pe_ix ix_lstC (pv 1) (pv 3) (fun _ _ => rfl)) (pe_ix ix_lstC (pv 2) (pv 3) (fun _ _ => rfl)) (nomark _))) (fun _ _ _ _ _ => (pv 3))) pa_nil)) pe_int (nomark _)))))), ?_⟩
  refine seq_asgN ⟨_, rfl, v, d, 1, rfl, hd, rep, sh, fun l H1 n1 e1 h1 => ?_⟩
  refine seq_asgN ⟨by show 5 ≤ sizeLine; decide, fun b H2 n2 e2 h2 => ?_⟩
  have l2 := e2.ex h1
  have eA : szs d 1 = ([(cnt d : Int), chs d, 1 - 1 + hgt d, rfs d, wid d] : List Int).map V.int := rfl
  rw [eA] at l2
  have h2' : H2 b = some (.lst (([60, 400, 6, 3, 12] : List Int).map V.int)) := h2
  refine ⟨5, rfl, by decide, by decide, fun D nD => lc_range (lo := 0) (n := ((5 : Int)).toNat) (OverI H2 D [(cnt d : Int), chs d, 1 - 1 + hgt d, rfs d, wid d] [60, 400, 6, 3, 12]) ⟨Chg.new nD, [], upd_same, Nat.le_refl _, fun _ i x y h => absurd h (Nat.not_lt_zero _), fun _ => rfl⟩ (fun j H3 hj o3 => ⟨rfl, ?_⟩) ?_⟩
  · have j5 : j < 5 := hj
    obtain ⟨e3, acc, hD, la, iff⟩ := o3
    have hx1 : ∃ x, ([(cnt d : Int), chs d, 1 - 1 + hgt d, rfs d, wid d] : List Int)[j]? = some x := ⟨_, List.getElem?_eq_getElem (show j < 5 from j5)⟩
    have hx2 : ∃ x, ([60, 400, 6, 3, 12] : List Int)[j]? = some x := ⟨_, List.getElem?_eq_getElem (show j < 5 from j5)⟩
    obtain ⟨x1, hx1⟩ := hx1
    obtain ⟨x2, hx2⟩ := hx2
    have at1 : atI (([(cnt d : Int), chs d, 1 - 1 + hgt d, rfs d, wid d] : List Int).map V.int) (0 + (j : Int)) = some (.int x1) := by rw [Int.zero_add]; exact atI_nat (by rw [List.getElem?_map, hx1]; rfl)
    have at2 : atI (([60, 400, 6, 3, 12] : List Int).map V.int) (0 + (j : Int)) = some (.int x2) := by rw [Int.zero_add]; exact atI_nat (by rw [List.getElem?_map, hx2]; rfl)
    refine ⟨_, rfl, _, rfl, l, _, _, _, rfl, rfl, e3.ex l2, at1, _, rfl, _, rfl, b, _, _, _, rfl, rfl, e3.ex h2', at2, _, _, rfl, rfl, _, rfl, ?_⟩
    refine ite2 (fun c => ?_) (fun c => ?_)
    · have c' : x2 < x1 := of_decide_eq_true c
      refine ⟨_, rfl, acc, hD, szl (by omega), e3.wr (Wr.upd ..) nD, _, upd_same, by rw [List.length_append]; show acc.length + 1 ≤ _; omega, fun q => ?_, fun q => ?_⟩
      · exact absurd q (by simp)
      · have := q j x1 x2 (by omega) hx1 hx2
        omega
    · have c' : ¬ x2 < x1 := of_decide_eq_false (Bool.eq_false_iff.mpr c)
      refine ⟨e3, acc, hD, by omega, fun q i x y hi h1 h2 => ?_, fun q => iff.mpr fun i x y hi h1 h2 => q i x y (by omega) h1 h2⟩
      by_cases e : i = j
      · rw [e, hx1] at h1
        rw [e, hx2] at h2
        rw [← Option.some.inj h1, ← Option.some.inj h2]; omega
      · exact iff.mp q i x y (by omega) h1 h2
  rintro H3 ⟨e3, acc, hD, la, iff⟩
  refine ⟨_, _, rfl, lenL hD, rfl, ?_⟩
  refine z _ H3 ?_ ((e1.trans e2).trans e3)
  have e0 : decide (V.int (acc.length : Nat) = V.int 0) = true ↔ acc = [] := by
    rw [decide_eq_true_iff]
    constructor
    · intro q
      have q' := V.int.inj q
      exact List.eq_nil_of_length_eq_zero (by omega)
    · intro q; rw [q]; rfl
  refine e0.trans (iff.trans ⟨fun q => ?_, fun q i x y hi h1 h2 => ?_⟩)
  · have q0 : (cnt d : Int) ≤ 60 := q 0 _ _ (by decide) rfl rfl
    have q1 : (chs d : Int) ≤ 400 := q 1 _ _ (by decide) rfl rfl
    have q2 : 1 - 1 + (hgt d : Int) ≤ 6 := q 2 _ _ (by decide) rfl rfl
    have q3 : (rfs d : Int) ≤ 3 := q 3 _ _ (by decide) rfl rfl
    have q4 : (wid d : Int) ≤ 12 := q 4 _ _ (by decide) rfl rfl
    exact ⟨by omega, by omega, by omega, by omega, by omega⟩
  · obtain ⟨b1, b2, b3, b4, b5⟩ := q
    have hi' : i < 5 := hi
    match i, hi', h1, h2 with
    | 0, _, h1, h2 => rw [← Option.some.inj h1, ← Option.some.inj h2]; omega
    | 1, _, h1, h2 => rw [← Option.some.inj h1, ← Option.some.inj h2]; omega
    | 2, _, h1, h2 => rw [← Option.some.inj h1, ← Option.some.inj h2]; omega
    | 3, _, h1, h2 => rw [← Option.some.inj h1, ← Option.some.inj h2]; omega
    | 4, _, h1, h2 => rw [← Option.some.inj h1, ← Option.some.inj h2]; omega
end
end K7

/-! ## K7W8 -/
/-! The law's edits: what an edit is, a row edited, a document edited. -/
namespace K7
open PySem PySem.Spec PyProof.Rows L2
theorem at0 {α : Type} (a : α) (r : List α) : atI (a :: r) 0 = some a := atI_nat (j := 0) rfl
section
variable {P : Program} {w : World} {K : PySem.W.Frag} {mg : Str → Option Value} {base : Heap} {k : Nat}

/-! ### _law_is_edit -/
abbrev N_l_is_edit : List Str := ["_law_edit_here", "_law_words"]
theorem sc_l_is_edit : FnScope N_l_is_edit ["_law_edit_here"] (defScope (top 60)) := ⟨rfl, rfl, rfl, by decide +kernel, rfl, by decide +kernel, by decide +kernel⟩
def spIsEdit : Sp := fun vs H Q _ => ∃ (e : Ed) (a pr : Addr) (r : List V), vs = [.ref a] ∧ RepE H e a pr r ∧ ∀ H', Ex H H' → Q (.bl true) H'
theorem ok_is_edit (D : Df K mg "_law_is_edit" (top 60)) (B : Bn mg) : Has P w K mg base (k + 1) "_law_is_edit" spIsEdit := by
  refine D.has sc_l_is_edit (fun _ _ _ _ _ _ us hl => match us, hl with | [_], _ => rfl) (fun vs H Q E h => ?_) (fun f cdv A outer s H vs Q E hr h => ?_)
  · obtain ⟨e, a, pr, r, rfl, _⟩ := h
    rfl
  obtain ⟨e, a, pr, r, rfl, re, z⟩ := h
  refine ⟨_, (pss_cons (ps_set (i := 1) sc_l_is_edit.nd rfl (Or.inl rfl) (pe_lstC (pa_cons pe_str (pa_cons pe_str (pa_cons pe_str (pa_cons pe_str (pa_cons pe_str (pa_cons pe_str (pa_cons pe_str pa_nil))))))))) (pss_cons (ps_if (PW.pt (pw_or (pt_not (pt_val (pe_isi .tuple (pv 0) B.isi B.tup))) (pw_or (pt_cmpR op_lt (pe_callB (call_lenK (K := K)) rfl B.len PySem.boot_len (pa_cons (pv 0) pa_nil)) pe_int (nomark _)) (pw_or1 (pt_not (pt_val (pe_isi .str (pe_ix ix_tupC (pv 0) pe_int (fun _ _ => rfl)) B.isi B.str))))))) (pss_one (ps_ret pe_bl)) pss_nil) (pss_one (ps_ret (pe_and (pe_cmpR op_in_seq (pe_ix ix_tupC (pv 0) pe_int (fun _ _ => rfl)) (pv 1) rfl) (pe_one (pe_isi .tuple (pe_ix ix_tupC (pv 0) pe_int (fun _ _ => rfl)) B.isi B.tup))))))), ?_⟩
  refine seq_asgN ⟨by show 7 ≤ sizeLine; decide, fun l H1 nl e1 h1 => ?_⟩
  have ha := e1.ex re.at_
  have hp := e1.ex re.path
  refine seq_if ⟨_, rfl, _, .tup ha, _, rfl, _, rfl, _, _, rfl, lenT ha, _, _, rfl, rfl, _, rfl, ?_⟩
  refine nay (by rw [decide_eq_false (show ¬ (((V.str e.word :: V.ref pr :: r).length : Nat) : Int) < 2 by rw [List.length_cons, List.length_cons]; omega)]) ?_
  refine ⟨_, rfl, a, _, _, _, rfl, rfl, ha, at0 _ _, _, .str _, _, rfl, ?_⟩
  refine ⟨_, rfl, a, _, _, _, rfl, rfl, ha, at0 _ _, _, rfl, l, _, rfl, .inl (SqL.of h1), rfl, rfl, ?_⟩
  have e0 : inV (.str e.word) [V.str "put", V.str "take", V.str "text", V.str "kind", V.str "marks", V.str "wrap", V.str "open"] = true := by
    cases e <;> rfl
  rw [e0]
  exact ⟨true, rfl, _, rfl, a, _, _, _, rfl, rfl, ha, at1 _ _ _, _, .tup hp, z H1 e1⟩

/-! ### _law_row_edit -/
abbrev N_l_row_edit : List Str := ["_law_owner", "_law_edit_here", "_law_k", "_law_items", "_law_end", "_law_inner"]
theorem sc_l_row_edit : FnScope N_l_row_edit ["_law_owner", "_law_edit_here"] (defScope (top 56)) := ⟨rfl, rfl, rfl, by decide +kernel, rfl, by decide +kernel, by decide +kernel⟩
def spRowEdit : Sp := fun vs H Q _ => ∃ (a m r b pr : Addr) (kd : Str) (its : List It) (us rr : List V) (e : Ed) (q : List Int) (i : Int), vs = [.ref a, .ref b] ∧ H a = some (.tup [.str kd, .ref m, .ref r]) ∧ H r = some (.tup us) ∧ Reps H its us ∧ RepE H e b pr rr ∧ e.path = q ++ [i] ∧
  its.length ≤ 1000 ∧ wids its ≤ 1000 ∧ (∀ its' us' t H', rowEd its i e = some its' → Ex H H' → H' t = some (.tup us') → Reps H' its' us' → Q (.ref t) H') ∧ (rowEd its i e = none → ∀ H', Ex H H' → Q .non H')
theorem ok_row_edit (D : Df K mg "_law_row_edit" (top 56)) (B : Bn mg) : Has P w K mg base (k + 1) "_law_row_edit" spRowEdit := by
  refine D.has sc_l_row_edit (fun _ _ _ _ _ _ us hl => match us, hl with | [_, _], _ => rfl) (fun vs H Q E h => ?_) (fun f cdv A outer s H vs Q E hr h => ?_)
  · obtain ⟨a, m, r, b, pr, kd, its, us, rr, e, q, i, rfl, _⟩ := h
    rfl
  obtain ⟨a, m, r, b, pr, kd, its, us, rr, e, q, i, rfl, ha, hr', hus, ⟨hb, hp, hx⟩, hq, hl, hw, z1, z2⟩ := h
  have hul := hus.length
  refine ⟨_, (pss_cons (ps_set (i := 2) sc_l_row_edit.nd rfl (Or.inl rfl) (pe_ix ix_tupC (pe_ix ix_tupC (pv 1) pe_int (fun _ _ => rfl)) (pe_un un_neg pe_int) (fun _ _ => rfl))) (pss_cons (ps_set (i := 3) sc_l_row_edit.nd rfl (Or.inl rfl) (pe_ix ix_tupC (pv 0) pe_int (fun _ _ => rfl))) (pss_cons (ps_if (PW.pt (pw_and (pt_cmpR op_eq (pe_ix ix_tupC (pv 1) pe_int (fun _ _ => rfl)) pe_str (nomark _)) (pw_and1 (pt_chain op_le op_le pe_int (pv 2) (pe_callB (call_lenK (K := K)) rfl B.len PySem.boot_len (pa_cons (pv 3) pa_nil)))))) (pss_one (ps_ret (pe_op op_catC (pe_op op_catC (pe_slice sl_tupC (pv 3) po_none (po_some (pv 2))) (pe_tupC (pa_cons (pe_ix ix_tupC (pv 1) pe_int (fun _ _ => rfl)) pa_nil))) (pe_slice sl_tupC (pv 3) (po_some (pv 2)) po_none)))) pss_nil) (pss_cons (ps_if (PW.pt (pw_and (pt_cmpR op_eq (pe_ix ix_tupC (pv 1) pe_int (fun _ _ => rfl)) pe_str (nomark _)) (pw_and1 (pt_chain op_le op_lt pe_int (pv 2) (pe_callB (call_lenK (K := K)) rfl B.len PySem.boot_len (pa_cons (pv 3) pa_nil)))))) (pss_one (ps_ret (pe_op op_catC (pe_slice sl_tupC (pv 3) po_none (po_some (pv 2))) (pe_slice sl_tupC (pv 3) (po_some (pe_op op_add (pv 2) pe_int)) po_none)))) pss_nil) (pss_cons (ps_if (PW.pt (pw_and (pt_cmpR op_eq (pe_ix ix_tupC (pv 1) pe_int (fun _ _ => rfl)) pe_str (nomark _)) (pw_and (pt_cmpR op_ge (pv 2) pe_int (nomark _)) (pw_and1 (pt_cmpR op_ge (pe_ix ix_tupC (pv 1) pe_int (fun _ _ => rfl)) pe_int (nomark _)))))) (pss_cons (ps_set (i := 4) sc_l_row_edit.nd rfl (Or.inl rfl) (pe_op op_add (pv 2) (pe_ix ix_tupC (pv 1) pe_int (fun _ _ => rfl)))) (pss_one (ps_if (pt_cmpR op_le (pv 4) (pe_callB (call_lenK (K := K)) rfl B.len PySem.boot_len (pa_cons (pv 3) pa_nil)) (nomark _)) (pss_cons (ps_set (i := 5) sc_l_row_edit.nd rfl (Or.inl rfl) (pe_tupC (pa_cons (pe_ix ix_tupC (pv 1) pe_int (fun _ _ => rfl)) (pa_cons (pe_ix ix_tupC (pv 1) pe_int (fun _ _ => rfl)) (pa_cons (pe_slice sl_tupC (pv 3) (po_some (pv 2)) (po_some (pv 4))) pa_nil))))) (pss_one (ps_ret (pe_op op_catC (pe_op op_catC (pe_slice sl_tupC (pv 3) po_none (po_some (pv 2))) (pe_tupC (pa_cons (pv 5) pa_nil))) (pe_slice sl_tupC (pv 3) (po_some (pv 4)) po_none))))) pss_nil))) pss_nil) (pss_cons (ps_if (PW.pt (pw_and (pt_cmpR op_eq (pe_ix ix_tupC (pv 1) pe_int (fun _ _ => rfl)) pe_str (nomark _)) (pw_and1 (pt_chain op_le op_lt pe_int (pv 2) (pe_callB (call_lenK (K := K)) rfl B.len PySem.boot_len (pa_cons (pv 3) pa_nil)))))) (pss_one (ps_if (PW.pt (pw_and (pt_val (pe_isi .tuple (pe_ix ix_tupC (pv 3) (pv 2) (fun _ _ => rfl)) B.isi B.tup)) (pw_and1 (pt_cmpR op_eq (pe_callB (call_lenK (K := K)) rfl B.len PySem.boot_len (pa_cons (pe_ix ix_tupC (pv 3) (pv 2) (fun _ _ => rfl)) pa_nil)) pe_int (nomark _))))) (pss_one (ps_ret (pe_op op_catC (pe_op op_catC (pe_slice sl_tupC (pv 3) po_none (po_some (pv 2))) (pe_ix ix_tupC (pe_ix ix_tupC (pv 3) (pv 2) (fun _ _ => rfl)) pe_int (fun _ _ => rfl))) (pe_slice sl_tupC (pv 3) (po_some (pe_op op_add (pv 2) pe_int)) po_none)))) pss_nil)) pss_nil) (pss_one (ps_ret pe_non)))))))), ?_⟩
  rw [hq, List.map_append] at hp
  refine seq_asgN ⟨_, rfl, b, _, _, _, rfl, rfl, hb, at1 _ _ _, _, rfl, pr, _, _, _, rfl, rfl, hp, at_last, ?_⟩
  refine seq_asgN ⟨_, rfl, a, _, _, _, rfl, rfl, ha, rfl, ?_⟩
  cases e with
  | text p x =>
    replace hb : H b = some (.tup (.str ("text" : Str) :: .ref pr :: rr)) := hb
    refine seq_if ⟨_, rfl, b, _, _, _, rfl, rfl, hb, at0 _ _, rfl, _, rfl, word_no (by decide) (iteF ?_)⟩
    refine seq_if ⟨_, rfl, b, _, _, _, rfl, rfl, hb, at0 _ _, rfl, _, rfl, word_no (by decide) (iteF ?_)⟩
    refine seq_if ⟨_, rfl, b, _, _, _, rfl, rfl, hb, at0 _ _, rfl, _, rfl, word_no (by decide) (iteF ?_)⟩
    refine seq_if ⟨_, rfl, b, _, _, _, rfl, rfl, hb, at0 _ _, rfl, _, rfl, word_no (by decide) (iteF ?_)⟩
    exact z2 rfl H (Chg.refl H)
  | kind p x =>
    replace hb : H b = some (.tup (.str ("kind" : Str) :: .ref pr :: rr)) := hb
    refine seq_if ⟨_, rfl, b, _, _, _, rfl, rfl, hb, at0 _ _, rfl, _, rfl, word_no (by decide) (iteF ?_)⟩
    refine seq_if ⟨_, rfl, b, _, _, _, rfl, rfl, hb, at0 _ _, rfl, _, rfl, word_no (by decide) (iteF ?_)⟩
    refine seq_if ⟨_, rfl, b, _, _, _, rfl, rfl, hb, at0 _ _, rfl, _, rfl, word_no (by decide) (iteF ?_)⟩
    refine seq_if ⟨_, rfl, b, _, _, _, rfl, rfl, hb, at0 _ _, rfl, _, rfl, word_no (by decide) (iteF ?_)⟩
    exact z2 rfl H (Chg.refl H)
  | marks p x =>
    replace hb : H b = some (.tup (.str ("marks" : Str) :: .ref pr :: rr)) := hb
    refine seq_if ⟨_, rfl, b, _, _, _, rfl, rfl, hb, at0 _ _, rfl, _, rfl, word_no (by decide) (iteF ?_)⟩
    refine seq_if ⟨_, rfl, b, _, _, _, rfl, rfl, hb, at0 _ _, rfl, _, rfl, word_no (by decide) (iteF ?_)⟩
    refine seq_if ⟨_, rfl, b, _, _, _, rfl, rfl, hb, at0 _ _, rfl, _, rfl, word_no (by decide) (iteF ?_)⟩
    refine seq_if ⟨_, rfl, b, _, _, _, rfl, rfl, hb, at0 _ _, rfl, _, rfl, word_no (by decide) (iteF ?_)⟩
    exact z2 rfl H (Chg.refl H)
  | put p x =>
    replace hb : H b = some (.tup (.str ("put" : Str) :: .ref pr :: rr)) := hb
    obtain ⟨xv, rfl, rx⟩ := hx
    refine seq_cut (fun σ' H' => H' = H ∧ σ' = [some (.ref a), some (.ref b), some (.int i), some (.ref r), none, none] ∧ ¬ (0 ≤ i ∧ i ≤ its.length)) (fun N hN => ?_) ?_
    · refine ⟨_, rfl, b, _, _, _, rfl, rfl, hb, at0 _ _, rfl, _, rfl, word_yes rfl ?_⟩
      refine ⟨_, rfl, _, _, rfl, rfl, _, rfl, ?_⟩
      refine ite2 (fun c => ?_) (fun c => ⟨_, rfl, hN _ _ ⟨rfl, rfl, fun q => c (decide_eq_true q.1)⟩⟩)
      have i0 : 0 ≤ i := of_decide_eq_true c
      refine ⟨_, rfl, _, _, rfl, lenT hr', _, _, rfl, rfl, _, rfl, ?_⟩
      refine ite2 (fun c => ?_) (fun c => hN _ _ ⟨rfl, rfl, fun q => c (decide_eq_true (by rw [hul]; exact q.2))⟩)
      have i1 : i ≤ us.length := of_decide_eq_true c
      refine ⟨_, rfl, _, rfl, _, rfl, r, _, rfl, hr', fun p4 H4 e4 h4 => ?_⟩
      rw [cut_lo i0 i1] at h4
      refine ⟨_, rfl, b, _, _, _, rfl, rfl, e4.ex hb, rfl, by show 1 ≤ sizeLine; decide, fun p5 H5 n5 e5 h5 => ⟨p4, p5, _, _, rfl, rfl, e5.ex h4, h5, sz (by rw [List.length_take]; show min _ _ + 1 ≤ _; omega), fun p6 H6 e6 h6 => ?_⟩⟩
      have e06 : Ex H H6 := (e4.trans e5).trans e6
      refine ⟨_, rfl, _, rfl, _, rfl, r, _, rfl, e06.ex hr', fun p7 H7 e7 h7 => ?_⟩
      rw [cut_hi i0 i1] at h7
      refine ⟨p6, p7, _, _, rfl, rfl, e7.ex h6, h7, sz (by rw [List.length_append, List.length_take, List.length_drop]; show min _ _ + 1 + _ ≤ _; omega), fun p8 H8 e8 h8 => ?_⟩
      have e08 := (e06.trans e7).trans e8
      refine z1 _ _ p8 H8 (rowEd_put i0 (by omega)) e08 h8 ?_
      rw [List.append_assoc]
      exact ((hus.chg e08).take _).append (Reps.cons (rx.chg e08) ((hus.chg e08).drop _))
    rintro σ' H' ⟨rfl, rfl, c⟩
    refine seq_if ⟨_, rfl, b, _, _, _, rfl, rfl, hb, at0 _ _, rfl, _, rfl, word_no (by decide) (iteF ?_)⟩
    refine seq_if ⟨_, rfl, b, _, _, _, rfl, rfl, hb, at0 _ _, rfl, _, rfl, word_no (by decide) (iteF ?_)⟩
    refine seq_if ⟨_, rfl, b, _, _, _, rfl, rfl, hb, at0 _ _, rfl, _, rfl, word_no (by decide) (iteF ?_)⟩
    exact z2 (if_neg c) _ (Chg.refl _)
  | take p =>
    replace hb : H b = some (.tup (.str ("take" : Str) :: .ref pr :: rr)) := hb
    obtain rfl : rr = [] := hx
    refine seq_if ⟨_, rfl, b, _, _, _, rfl, rfl, hb, at0 _ _, rfl, _, rfl, word_no (by decide) (iteF ?_)⟩
    refine seq_cut (fun σ' H' => H' = H ∧ σ' = [some (.ref a), some (.ref b), some (.int i), some (.ref r), none, none] ∧ ¬ (0 ≤ i ∧ i < its.length)) (fun N hN => ?_) ?_
    · refine ⟨_, rfl, b, _, _, _, rfl, rfl, hb, at0 _ _, rfl, _, rfl, word_yes rfl ?_⟩
      refine ⟨_, rfl, _, _, rfl, rfl, _, rfl, ?_⟩
      refine ite2 (fun c => ?_) (fun c => ⟨_, rfl, hN _ _ ⟨rfl, rfl, fun q => c (decide_eq_true q.1)⟩⟩)
      have i0 : 0 ≤ i := of_decide_eq_true c
      refine ⟨_, rfl, _, _, rfl, lenT hr', _, _, rfl, rfl, _, rfl, ?_⟩
      refine ite2 (fun c => ?_) (fun c => hN _ _ ⟨rfl, rfl, fun q => c (decide_eq_true (by rw [hul]; exact q.2))⟩)
      have i1 : i < us.length := of_decide_eq_true c
      refine ⟨_, rfl, _, rfl, _, rfl, r, _, rfl, hr', fun p4 H4 e4 h4 => ?_⟩
      rw [cut_lo i0 (by omega)] at h4
      refine ⟨_, rfl, _, rfl, _, _, rfl, rfl, _, rfl, r, _, rfl, e4.ex hr', fun p7 H7 e7 h7 => ?_⟩
      rw [cut_hi (by omega) (by omega)] at h7
      refine ⟨p4, p7, _, _, rfl, rfl, e7.ex h4, h7, sz (by rw [List.length_take, List.length_drop]; omega), fun p8 H8 e8 h8 => ?_⟩
      have e08 := (e4.trans e7).trans e8
      rw [show (i + 1).toNat = i.toNat + 1 by omega] at h8
      exact z1 _ _ p8 H8 (rowEd_take i0 (by omega)) e08 h8 (((hus.chg e08).take _).append ((hus.chg e08).drop _))
    rintro σ' H' ⟨rfl, rfl, c⟩
    refine seq_if ⟨_, rfl, b, _, _, _, rfl, rfl, hb, at0 _ _, rfl, _, rfl, word_no (by decide) (iteF ?_)⟩
    refine seq_if ⟨_, rfl, b, _, _, _, rfl, rfl, hb, at0 _ _, rfl, _, rfl, word_no (by decide) (iteF ?_)⟩
    exact z2 (if_neg c) _ (Chg.refl _)
  | wrap p n k2 m2 =>
    replace hb : H b = some (.tup (.str ("wrap" : Str) :: .ref pr :: rr)) := hb
    obtain ⟨m3, rfl, hm⟩ := hx
    refine seq_if ⟨_, rfl, b, _, _, _, rfl, rfl, hb, at0 _ _, rfl, _, rfl, word_no (by decide) (iteF ?_)⟩
    refine seq_if ⟨_, rfl, b, _, _, _, rfl, rfl, hb, at0 _ _, rfl, _, rfl, word_no (by decide) (iteF ?_)⟩
    refine seq_cut (fun σ' H' => H' = H ∧ (∃ v4, σ' = [some (.ref a), some (.ref b), some (.int i), some (.ref r), v4, none]) ∧ ¬ (0 ≤ i ∧ 0 ≤ n ∧ i + n ≤ its.length)) (fun N hN => ?_) ?_
    · refine ⟨_, rfl, b, _, _, _, rfl, rfl, hb, at0 _ _, rfl, _, rfl, word_yes rfl ?_⟩
      refine ⟨_, rfl, _, _, rfl, rfl, _, rfl, ?_⟩
      refine ite2 (fun c => ?_) (fun c => hN _ _ ⟨rfl, ⟨_, rfl⟩, fun q => c (decide_eq_true q.1)⟩)
      have i0 : 0 ≤ i := of_decide_eq_true c
      refine ⟨_, rfl, b, _, _, _, rfl, rfl, hb, rfl, _, _, rfl, rfl, _, rfl, ?_⟩
      refine ite2 (fun c => ?_) (fun c => hN _ _ ⟨rfl, ⟨_, rfl⟩, fun q => c (decide_eq_true q.2.1)⟩)
      have n0 : 0 ≤ n := of_decide_eq_true c
      refine seq_asgN ⟨_, rfl, _, rfl, b, _, _, _, rfl, rfl, hb, rfl, _, _, rfl, rfl, ?_⟩
      refine ⟨_, rfl, _, rfl, _, _, rfl, lenT hr', _, _, rfl, rfl, _, rfl, ?_⟩
      refine ite2 (fun c => ?_) (fun c => hN _ _ ⟨rfl, ⟨_, rfl⟩, fun q => c (decide_eq_true (by rw [hul]; exact q.2.2))⟩)
      have i1 : i + n ≤ us.length := of_decide_eq_true c
      refine seq_asgN ⟨_, rfl, b, _, _, _, rfl, rfl, hb, rfl, _, rfl, b, _, _, _, rfl, rfl, hb, rfl, _, rfl, _, rfl, _, rfl, _, rfl, _, rfl, r, _, rfl, hr', fun p1 H1 e1 h1 => ⟨by show 3 ≤ sizeLine; decide, fun p2 H2 n2 e2 h2 => ?_⟩⟩
      rw [cut_mid i0 (by omega) (by omega), show (i + n).toNat - i.toNat = n.toNat by omega] at h1
      have e02 := e1.trans e2
      refine ⟨_, rfl, _, rfl, _, rfl, r, _, rfl, e02.ex hr', fun p4 H4 e4 h4 => ?_⟩
      rw [cut_lo i0 (by omega)] at h4
      refine ⟨_, rfl, by show 1 ≤ sizeLine; decide, fun p5 H5 n5 e5 h5 => ⟨p4, p5, _, _, rfl, rfl, e5.ex h4, h5, sz (by rw [List.length_take]; show min _ _ + 1 ≤ _; omega), fun p6 H6 e6 h6 => ?_⟩⟩
      have e26 : Ex H2 H6 := (e4.trans e5).trans e6
      refine ⟨_, rfl, _, rfl, _, rfl, r, _, rfl, (e02.trans e26).ex hr', fun p7 H7 e7 h7 => ?_⟩
      rw [cut_hi (by omega) (by omega), show (i + n).toNat = i.toNat + n.toNat by omega] at h7
      refine ⟨p6, p7, _, _, rfl, rfl, e7.ex h6, h7, sz (by rw [List.length_append, List.length_take, List.length_drop]; show min _ _ + 1 + _ ≤ _; omega), fun p8 H8 e8 h8 => ?_⟩
      have e28 := (e26.trans e7).trans e8
      have e08 := e02.trans e28
      have e18 := e2.trans e28
      refine z1 _ _ p8 H8 (rowEd_wrap i0 n0 (by omega)) e08 h8 ?_
      rw [List.append_assoc]
      exact ((hus.chg e08).take _).append (Reps.cons (Rep.part (e28.ex h2) (e08.ex hm) (e18.ex h1) (((hus.chg e08).drop _).take _)) ((hus.chg e08).drop _))
    rintro σ' H' ⟨rfl, ⟨v4, rfl⟩, c⟩
    refine seq_if ⟨_, rfl, b, _, _, _, rfl, rfl, hb, at0 _ _, rfl, _, rfl, word_no (by decide) (iteF ?_)⟩
    exact z2 (if_neg c) _ (Chg.refl _)
  | opn p =>
    replace hb : H b = some (.tup (.str ("open" : Str) :: .ref pr :: rr)) := hb
    obtain rfl : rr = [] := hx
    refine seq_if ⟨_, rfl, b, _, _, _, rfl, rfl, hb, at0 _ _, rfl, _, rfl, word_no (by decide) (iteF ?_)⟩
    refine seq_if ⟨_, rfl, b, _, _, _, rfl, rfl, hb, at0 _ _, rfl, _, rfl, word_no (by decide) (iteF ?_)⟩
    refine seq_if ⟨_, rfl, b, _, _, _, rfl, rfl, hb, at0 _ _, rfl, _, rfl, word_no (by decide) (iteF ?_)⟩
    refine seq_cut (fun σ' H' => H' = H ∧ σ' = [some (.ref a), some (.ref b), some (.int i), some (.ref r), none, none] ∧ rowEd its i (.opn p) = none) (fun N hN => ?_) ?_
    · refine ⟨_, rfl, b, _, _, _, rfl, rfl, hb, at0 _ _, rfl, _, rfl, word_yes rfl ?_⟩
      refine ⟨_, rfl, _, _, rfl, rfl, _, rfl, ?_⟩
      refine ite2 (fun c => ?_) (fun c => ⟨_, rfl, hN _ _ ⟨rfl, rfl, if_neg fun q => c (decide_eq_true q)⟩⟩)
      have i0 : 0 ≤ i := of_decide_eq_true c
      refine ⟨_, rfl, _, _, rfl, lenT hr', _, _, rfl, rfl, _, rfl, ?_⟩
      refine ite2 (fun c => ?_) (fun c => hN _ _ ⟨rfl, rfl, (if_pos i0).trans (by rw [List.getElem?_eq_none (by have c' : ¬ i < us.length := of_decide_eq_false (Bool.eq_false_iff.mpr c); omega)])⟩)
      have i1 : i < us.length := of_decide_eq_true c
      have il : i.toNat < its.length := by omega
      have gx : its[i.toNat]? = some its[i.toNat] := List.getElem?_eq_getElem il
      obtain ⟨v, hv, rv⟩ := hus.get gx
      have out : (∀ kd' m' cs, its[i.toNat] ≠ .part kd' m' cs) → rowEd its i (.opn p) = none := fun no => (if_pos i0).trans (by
        rw [gx]
        cases ex : its[i.toNat] with
        | txt _ => rfl
        | two _ _ => rfl
        | part kd' m' cs => exact absurd ex (no kd' m' cs))
      cases ex : its[i.toNat] with
      | txt t =>
        rw [ex] at rv
        obtain rfl : v = .str t := rv
        refine ⟨_, rfl, _, rfl, r, _, _, _, rfl, rfl, hr', at_nat i0 hv, _, .str t, _, rfl, ?_⟩
        exact hN _ _ ⟨rfl, rfl, out fun _ _ _ q => by rw [ex] at q; cases q⟩
      | two t n =>
        rw [ex] at rv
        obtain ⟨a2, rfl, ha2⟩ := rv
        refine ⟨_, rfl, _, rfl, r, _, _, _, rfl, rfl, hr', at_nat i0 hv, _, .tup ha2, _, rfl, ?_⟩
        refine ⟨_, rfl, _, rfl, r, _, _, _, rfl, rfl, hr', at_nat i0 hv, _, _, rfl, lenT ha2, rfl, _, rfl, ?_⟩
        exact hN _ _ ⟨rfl, rfl, out fun _ _ _ q => by rw [ex] at q; cases q⟩
      | part k2 m2 cs =>
        rw [ex] at rv
        obtain ⟨a2, m3, r3, vs, rfl, b1, b2, b3, b4⟩ := rv
        rw [ex] at gx
        have lc : cs.length ≤ 1000 := by have := wids_mem (List.mem_of_getElem? gx); rw [wid] at this; omega
        have lv := b4.length
        refine ⟨_, rfl, _, rfl, r, _, _, _, rfl, rfl, hr', at_nat i0 hv, _, .tup b1, _, rfl, ?_⟩
        refine ⟨_, rfl, _, rfl, r, _, _, _, rfl, rfl, hr', at_nat i0 hv, _, _, rfl, lenT b1, rfl, _, rfl, ?_⟩
        refine ⟨_, rfl, _, rfl, _, rfl, r, _, rfl, hr', fun p4 H4 e4 h4 => ?_⟩
        rw [cut_lo i0 (by omega)] at h4
        refine ⟨_, rfl, _, rfl, r, _, _, _, rfl, rfl, e4.ex hr', at_nat i0 hv, a2, _, _, _, rfl, rfl, e4.ex b1, rfl, p4, r3, _, _, rfl, rfl, h4, e4.ex b3, sz (by rw [List.length_take]; omega), fun p6 H6 e6 h6 => ?_⟩
        have e06 := e4.trans e6
        refine ⟨_, rfl, _, rfl, _, _, rfl, rfl, _, rfl, r, _, rfl, e06.ex hr', fun p7 H7 e7 h7 => ?_⟩
        rw [cut_hi (by omega) (by omega), show (i + 1).toNat = i.toNat + 1 by omega] at h7
        refine ⟨p6, p7, _, _, rfl, rfl, e7.ex h6, h7, sz (by rw [List.length_append, List.length_take, List.length_drop]; omega), fun p8 H8 e8 h8 => ?_⟩
        have e08 := (e06.trans e7).trans e8
        refine z1 _ _ p8 H8 (rowEd_opn i0 gx) e08 h8 ?_
        rw [List.append_assoc]
        exact ((hus.chg e08).take _).append ((b4.chg e08).append ((hus.chg e08).drop _))
    rintro σ' H' ⟨rfl, rfl, c⟩
    exact z2 c _ (Chg.refl _)
end
end K7

/-! ## K7W9 -/
/-! The law's edits applied. -/
namespace K7
open PySem PySem.Spec PyProof.Rows L2
theorem rowApp_concat (d : It) (q : List Int) (i : Int) (e : Ed) : rowApp d (q ++ [i]) e = rowAt d q i e := by
  unfold rowApp
  rw [List.getLast?_concat, List.dropLast_concat]
theorem rowAt_none {d : It} {q : List Int} {i : Int} {e : Ed} (h : gt q d = none) : rowAt d q i e = none := by
  unfold rowAt; rw [h]
theorem rowAt_txt {d : It} {q : List Int} {i : Int} {e : Ed} {s : Str} (h : gt q d = some (.txt s)) : rowAt d q i e = none := by
  unfold rowAt; rw [h]
theorem rowAt_two {d : It} {q : List Int} {i : Int} {e : Ed} {s t : Str} (h : gt q d = some (.two s t)) : rowAt d q i e = none := by
  unfold rowAt; rw [h]
theorem rowAt_row {d : It} {q : List Int} {i : Int} {e : Ed} {k : Str} {m : List Str} {its : List It} (h : gt q d = some (.part k m its)) (h2 : rowEd its i e = none) : rowAt d q i e = none := by
  unfold rowAt; rw [h]; simp only []; rw [h2]
theorem Ed.sort (e : Ed) : (∃ p s, e = .text p s) ∨ (∃ p s, e = .kind p s) ∨ (∃ p s, e = .marks p s) ∨ ((∀ d, app d e = rowApp d e.path e) ∧ inV (V.str e.word) [V.str "text", V.str "kind", V.str "marks"] = false) := by
  cases e with
  | text p s => exact .inl ⟨p, s, rfl⟩
  | kind p s => exact .inr (.inl ⟨p, s, rfl⟩)
  | marks p s => exact .inr (.inr (.inl ⟨p, s, rfl⟩))
  | put p x => exact .inr (.inr (.inr ⟨fun d => rfl, rfl⟩))
  | take p => exact .inr (.inr (.inr ⟨fun d => rfl, rfl⟩))
  | wrap p n k m => exact .inr (.inr (.inr ⟨fun d => rfl, rfl⟩))
  | opn p => exact .inr (.inr (.inr ⟨fun d => rfl, rfl⟩))
theorem app_text_none {d : It} {p : List Int} {s : Str} (h : ∀ t, gt p d ≠ some (.txt t)) : app d (.text p s) = none := by
  show (match gt p d with
    | some (.txt _) => some (sw p (.txt s) d)
    | _ => none) = none
  split
  · rename_i t e; exact absurd e (h t)
  · rfl
theorem app_kind_none {d : It} {p : List Int} {s : Str} (h : ∀ k m its, gt p d ≠ some (.part k m its)) : app d (.kind p s) = none := by
  show (match gt p d with
    | some (.part _ m its) => some (sw p (.part s m its) d)
    | _ => none) = none
  split
  · rename_i m its e; exact absurd e (h _ _ _)
  · rfl
theorem app_marks_none {d : It} {p : List Int} {s : List Str} (h : ∀ k m its, gt p d ≠ some (.part k m its)) : app d (.marks p s) = none := by
  show (match gt p d with
    | some (.part k _ its) => some (sw p (.part k s its) d)
    | _ => none) = none
  split
  · rename_i m its e; exact absurd e (h _ _ _)
  · rfl
section
variable {P : Program} {w : World} {K : PySem.W.Frag} {mg : Str → Option Value} {base : Heap} {k : Nat}

/-! ### _law_apply -/
abbrev N_l_apply : List Str := ["_law_root", "_law_edit_here", "_law_path", "_law_item_here", "_law_owner", "_law_items"]
theorem sc_l_apply : FnScope N_l_apply ["_law_root", "_law_edit_here"] (defScope (top 57)) := ⟨rfl, rfl, rfl, by decide +kernel, rfl, by decide +kernel, by decide +kernel⟩
def spApply : Sp := fun vs H Q _ => ∃ (v : V) (b pr : Addr) (d : It) (e : Ed) (rr : List V), vs = [v, .ref b] ∧ Rep H d v ∧ RepE H e b pr rr ∧ wid d ≤ 1000 ∧ e.path.length ≤ 30 ∧
  (∀ d' u H', app d e = some d' → Ex H H' → Rep H' d' u → Q u H') ∧ (app d e = none → ∀ H', Ex H H' → Q .non H')
theorem ok_apply (D : Df K mg "_law_apply" (top 57)) (B : Bn mg) (G_l_at : Has P w K mg base k "_law_at" spAt) (G_l_swap : Has P w K mg base k "_law_swap" (spSwapN 40)) (G_l_row_edit : Has P w K mg base k "_law_row_edit" spRowEdit) : Has P w K mg base (k + 1) "_law_apply" spApply := by
  refine D.has sc_l_apply (fun _ _ _ _ _ _ us hl => match us, hl with | [_, _], _ => rfl) (fun vs H Q E h => ?_) (fun f cdv A outer s H vs Q E hr h => ?_)
  · obtain ⟨v, b, pr, d, e, rr, rfl, _⟩ := h
    rfl
  obtain ⟨v, b, pr, d, e, rr, rfl, rep, re, hw, hpl, z1, z2⟩ := h
  obtain ⟨hb, hp, hx⟩ := id re
  refine ⟨_, (pss_cons (ps_set (i := 2) sc_l_apply.nd rfl (Or.inl rfl) (pe_ix ix_tupC (pv 1) pe_int (fun _ _ => rfl))) (pss_cons (ps_if (pt_cmpR op_in_seq (pe_ix ix_tupC (pv 1) pe_int (fun _ _ => rfl)) (pe_lstC (pa_cons pe_str (pa_cons pe_str (pa_cons pe_str pa_nil)))) rfl) (pss_cons (ps_set (i := 3) sc_l_apply.nd rfl (Or.inl rfl) (pe_has G_l_at hr (pa_cons (pv 0) (pa_cons (pv 2) pa_nil)))) (pss_cons (ps_if (pt_cmpR op_eq (pe_ix ix_tupC (pv 1) pe_int (fun _ _ => rfl)) pe_str (nomark _)) (pss_cons (ps_if (pt_not (pt_val (pe_isi .str (pv 3) B.isi B.str))) (pss_one (ps_ret pe_non)) pss_nil) (pss_one (ps_ret (pe_has G_l_swap hr (pa_cons (pv 0) (pa_cons (pv 2) (pa_cons (pe_ix ix_tupC (pv 1) pe_int (fun _ _ => rfl)) pa_nil))))))) pss_nil) (pss_cons (ps_if (pt_not (PW.pt (pw_and (pt_val (pe_isi .tuple (pv 3) B.isi B.tup)) (pw_and1 (pt_cmpR op_eq (pe_callB (call_lenK (K := K)) rfl B.len PySem.boot_len (pa_cons (pv 3) pa_nil)) pe_int (nomark _)))))) (pss_one (ps_ret pe_non)) pss_nil) (pss_cons (ps_if (pt_cmpR op_eq (pe_ix ix_tupC (pv 1) pe_int (fun _ _ => rfl)) pe_str (nomark _)) (pss_one (ps_ret (pe_has G_l_swap hr (pa_cons (pv 0) (pa_cons (pv 2) (pa_cons (pe_tupC (pa_cons (pe_ix ix_tupC (pv 1) pe_int (fun _ _ => rfl)) (pa_cons (pe_ix ix_tupC (pv 3) pe_int (fun _ _ => rfl)) (pa_cons (pe_ix ix_tupC (pv 3) pe_int (fun _ _ => rfl)) pa_nil)))) pa_nil)))))) pss_nil) (pss_one (ps_ret (pe_has G_l_swap hr (pa_cons (pv 0) (pa_cons (pv 2) (pa_cons (pe_tupC (pa_cons (pe_ix ix_tupC (pv 3) pe_int (fun _ _ => rfl)) (pa_cons (pe_ix ix_tupC (pv 1) pe_int (fun _ _ => rfl)) (pa_cons (pe_ix ix_tupC (pv 3) pe_int (fun _ _ => rfl)) pa_nil)))) pa_nil)))))))))) pss_nil) (pss_cons (ps_if (pt_cmpR op_eq (pe_callB (call_lenK (K := K)) rfl B.len PySem.boot_len (pa_cons (pv 2) pa_nil)) pe_int (nomark _)) (pss_one (ps_ret pe_non)) pss_nil) (pss_cons (ps_set (i := 4) sc_l_apply.nd rfl (Or.inl rfl) (pe_has G_l_at hr (pa_cons (pv 0) (pa_cons (pe_slice sl_tupC (pv 2) po_none (po_some (pe_un un_neg pe_int))) pa_nil)))) (pss_cons (ps_if (pt_not (PW.pt (pw_and (pt_val (pe_isi .tuple (pv 4) B.isi B.tup)) (pw_and1 (pt_cmpR op_eq (pe_callB (call_lenK (K := K)) rfl B.len PySem.boot_len (pa_cons (pv 4) pa_nil)) pe_int (nomark _)))))) (pss_one (ps_ret pe_non)) pss_nil) (pss_cons (ps_set (i := 5) sc_l_apply.nd rfl (Or.inl rfl) (pe_has G_l_row_edit hr (pa_cons (pv 4) (pa_cons (pv 1) pa_nil)))) (pss_cons (ps_if (pt_cmp (pc_isN (pv 5))) (pss_one (ps_ret pe_non)) pss_nil) (pss_one (ps_ret (pe_has G_l_swap hr (pa_cons (pv 0) (pa_cons (pe_slice sl_tupC (pv 2) po_none (po_some (pe_un un_neg pe_int))) (pa_cons (pe_tupC (pa_cons (pe_ix ix_tupC (pv 4) pe_int (fun _ _ => rfl)) (pa_cons (pe_ix ix_tupC (pv 4) pe_int (fun _ _ => rfl)) (pa_cons (pv 5) pa_nil)))) pa_nil))))))))))))), ?_⟩
  refine seq_asgN ⟨_, rfl, b, _, _, _, rfl, rfl, hb, at1 _ _ _, ?_⟩
  rcases e.sort with ⟨p, t, rfl⟩ | ⟨p, t, rfl⟩ | ⟨p, t, rfl⟩ | ⟨ea, ei⟩
  · obtain rfl : rr = [.str t] := hx
    replace hb : H b = some (.tup [.str "text", .ref pr, .str t]) := hb
    replace hp : H pr = some (.tup (p.map V.int)) := hp
    refine ⟨_, rfl, b, _, _, _, rfl, rfl, hb, at0 _ _, by show 3 ≤ sizeLine; decide, fun l H1 nl e1 h1 => ⟨l, _, rfl, .inl (SqL.of h1), rfl, rfl, ?_⟩⟩
    have e0 : inV (V.str "text") [V.str "text", V.str "kind", V.str "marks"] = true := rfl
    rw [e0]
    refine ⟨true, rfl, ?_⟩
    have hb1 := e1.ex hb
    have out : (∀ t, gt p d ≠ some (.txt t)) → Q .non H1 := fun h => z2 (app_text_none h) H1 e1
    refine seq_asgN ⟨_, rfl, _, rfl, v, pr, d, p, rfl, rep.chg e1, e1.ex hp, fun x u g r => ?_, fun g => ?_⟩
    · refine ⟨_, rfl, b, _, _, _, rfl, rfl, hb1, at0 _ _, rfl, _, rfl, word_yes rfl ?_⟩
      cases x with
      | txt t0 =>
        obtain rfl : u = .str t0 := r
        refine seq_if ⟨_, rfl, _, .str t0, _, rfl, ?_⟩
        refine ⟨_, rfl, _, rfl, _, rfl, b, _, _, _, rfl, rfl, hb1, rfl, v, pr, .str t, d, .txt t, p, _, rfl, by have : p.length ≤ 30 := hpl; omega, rep.chg e1, e1.ex hp, rfl, g, hw, fun u' H' e' r' => ?_⟩
        exact z1 _ u' H' (app_text g) (e1.trans e') r'
      | two t0 n0 =>
        obtain ⟨a, rfl, ha⟩ := r
        refine ⟨_, rfl, _, .tup ha, _, rfl, ?_⟩
        exact out fun t q => by rw [g] at q; cases q
      | part k0 m0 its =>
        obtain ⟨a, m, r, us, rfl, a1, a2, a3, a4⟩ := r
        refine ⟨_, rfl, _, .tup a1, _, rfl, ?_⟩
        exact out fun t q => by rw [g] at q; cases q
    · refine ⟨_, rfl, b, _, _, _, rfl, rfl, hb1, at0 _ _, rfl, _, rfl, word_yes rfl ?_⟩
      refine ⟨_, rfl, _, .non, _, rfl, ?_⟩
      exact out fun t q => by rw [g] at q; cases q
  · obtain rfl : rr = [.str t] := hx
    replace hb : H b = some (.tup [.str "kind", .ref pr, .str t]) := hb
    replace hp : H pr = some (.tup (p.map V.int)) := hp
    refine ⟨_, rfl, b, _, _, _, rfl, rfl, hb, at0 _ _, by show 3 ≤ sizeLine; decide, fun l H1 nl e1 h1 => ⟨l, _, rfl, .inl (SqL.of h1), rfl, rfl, ?_⟩⟩
    have e0 : inV (V.str "kind") [V.str "text", V.str "kind", V.str "marks"] = true := rfl
    rw [e0]
    refine ⟨true, rfl, ?_⟩
    have hb1 := e1.ex hb
    have out : (∀ k m its, gt p d ≠ some (.part k m its)) → Q .non H1 := fun h => z2 (app_kind_none h) H1 e1
    refine seq_asgN ⟨_, rfl, _, rfl, v, pr, d, p, rfl, rep.chg e1, e1.ex hp, fun x u g r => ?_, fun g => ?_⟩
    · refine seq_if ⟨_, rfl, b, _, _, _, rfl, rfl, hb1, at0 _ _, rfl, _, rfl, word_no (by decide) ?_⟩
      cases x with
      | txt t0 =>
        obtain rfl : u = .str t0 := r
        refine ⟨_, rfl, _, .str t0, _, rfl, ?_⟩
        exact out fun _ _ _ q => by rw [g] at q; cases q
      | two t0 n0 =>
        obtain ⟨a, rfl, ha⟩ := r
        refine ⟨_, rfl, _, .tup ha, _, rfl, _, rfl, _, _, rfl, lenT ha, rfl, _, rfl, ?_⟩
        exact out fun _ _ _ q => by rw [g] at q; cases q
      | part k0 m0 its =>
        obtain ⟨a, m, r, us, rfl, a1, a2, a3, a4⟩ := r
        refine seq_if ⟨_, rfl, _, .tup a1, _, rfl, _, rfl, _, _, rfl, lenT a1, rfl, _, rfl, ?_⟩
        refine ⟨_, rfl, b, _, _, _, rfl, rfl, hb1, at0 _ _, rfl, _, rfl, word_yes rfl ?_⟩
        refine ⟨_, rfl, _, rfl, _, rfl, b, _, _, _, rfl, rfl, hb1, rfl, _, rfl, a, _, _, _, rfl, rfl, a1, rfl, _, rfl, a, _, _, _, rfl, rfl, a1, rfl, by show 3 ≤ sizeLine; decide, fun p2 H2 n2 e2 h2 => ?_⟩
        have e02 := e1.trans e2
        refine ⟨v, pr, .ref p2, d, .part t m0 its, p, _, rfl, by have : p.length ≤ 30 := hpl; omega, rep.chg e02, e02.ex hp, Rep.part h2 (e2.ex a2) (e2.ex a3) (a4.chg e2), g, hw, fun u' H' e' r' => ?_⟩
        exact z1 _ u' H' (app_kind g) (e02.trans e') r'
    · refine seq_if ⟨_, rfl, b, _, _, _, rfl, rfl, hb1, at0 _ _, rfl, _, rfl, word_no (by decide) ?_⟩
      refine ⟨_, rfl, _, .non, _, rfl, ?_⟩
      exact out fun _ _ _ q => by rw [g] at q; cases q
  · obtain ⟨ms, rfl, hms⟩ := hx
    replace hb : H b = some (.tup [.str "marks", .ref pr, .ref ms]) := hb
    replace hp : H pr = some (.tup (p.map V.int)) := hp
    refine ⟨_, rfl, b, _, _, _, rfl, rfl, hb, at0 _ _, by show 3 ≤ sizeLine; decide, fun l H1 nl e1 h1 => ⟨l, _, rfl, .inl (SqL.of h1), rfl, rfl, ?_⟩⟩
    have e0 : inV (V.str "marks") [V.str "text", V.str "kind", V.str "marks"] = true := rfl
    rw [e0]
    refine ⟨true, rfl, ?_⟩
    have hb1 := e1.ex hb
    have out : (∀ k m its, gt p d ≠ some (.part k m its)) → Q .non H1 := fun h => z2 (app_marks_none h) H1 e1
    refine seq_asgN ⟨_, rfl, _, rfl, v, pr, d, p, rfl, rep.chg e1, e1.ex hp, fun x u g r => ?_, fun g => ?_⟩
    · refine seq_if ⟨_, rfl, b, _, _, _, rfl, rfl, hb1, at0 _ _, rfl, _, rfl, word_no (by decide) ?_⟩
      cases x with
      | txt t0 =>
        obtain rfl : u = .str t0 := r
        refine ⟨_, rfl, _, .str t0, _, rfl, ?_⟩
        exact out fun _ _ _ q => by rw [g] at q; cases q
      | two t0 n0 =>
        obtain ⟨a, rfl, ha⟩ := r
        refine ⟨_, rfl, _, .tup ha, _, rfl, _, rfl, _, _, rfl, lenT ha, rfl, _, rfl, ?_⟩
        exact out fun _ _ _ q => by rw [g] at q; cases q
      | part k0 m0 its =>
        obtain ⟨a, m, r, us, rfl, a1, a2, a3, a4⟩ := r
        refine seq_if ⟨_, rfl, _, .tup a1, _, rfl, _, rfl, _, _, rfl, lenT a1, rfl, _, rfl, ?_⟩
        refine seq_if ⟨_, rfl, b, _, _, _, rfl, rfl, hb1, at0 _ _, rfl, _, rfl, word_no (by decide) ?_⟩
        refine ⟨_, rfl, _, rfl, _, rfl, a, _, _, _, rfl, rfl, a1, rfl, _, rfl, b, _, _, _, rfl, rfl, hb1, rfl, _, rfl, a, _, _, _, rfl, rfl, a1, rfl, by show 3 ≤ sizeLine; decide, fun p2 H2 n2 e2 h2 => ?_⟩
        have e02 := e1.trans e2
        refine ⟨v, pr, .ref p2, d, .part k0 t its, p, _, rfl, by have : p.length ≤ 30 := hpl; omega, rep.chg e02, e02.ex hp, Rep.part h2 (e02.ex hms) (e2.ex a3) (a4.chg e2), g, hw, fun u' H' e' r' => ?_⟩
        exact z1 _ u' H' (app_marks g) (e02.trans e') r'
    · refine seq_if ⟨_, rfl, b, _, _, _, rfl, rfl, hb1, at0 _ _, rfl, _, rfl, word_no (by decide) ?_⟩
      refine ⟨_, rfl, _, .non, _, rfl, ?_⟩
      exact out fun _ _ _ q => by rw [g] at q; cases q
  · refine seq_if ⟨_, rfl, b, _, _, _, rfl, rfl, hb, at0 _ _, by show 3 ≤ sizeLine; decide, fun l H1 nl e1 h1 => ⟨l, _, rfl, .inl (SqL.of h1), rfl, rfl, ?_⟩⟩
    rw [ei]
    refine ⟨false, rfl, iteF ?_⟩
    have hb1 := e1.ex hb
    have hp1 := e1.ex hp
    have re1 := re.chg e1
    have rep1 := rep.chg e1
    rw [ea] at z1 z2
    rcases List.eq_nil_or_concat e.path with eq | ⟨q, i, eq⟩
    ·
      rw [eq] at hp1 z2
      refine ⟨_, rfl, _, _, rfl, lenT hp1, rfl, _, rfl, ?_⟩
      exact z2 rfl H1 e1
    ·
      rw [List.concat_eq_append] at eq
      rw [eq, rowApp_concat] at z1 z2
      rw [eq] at hp1 hpl
      rw [List.length_append, List.length_singleton] at hpl
      refine seq_if ⟨_, rfl, _, _, rfl, lenT hp1, rfl, _, rfl, ?_⟩
      refine ite2 (fun c => absurd (of_decide_eq_true c) (by intro q'; have q2 := V.int.inj q'; rw [List.length_map, List.length_append, List.length_singleton] at q2; omega)) (fun _ => ?_)
      refine seq_asgN ⟨_, rfl, _, rfl, _, rfl, _, rfl, pr, _, rfl, hp1, fun p2 H2 e2 h2 => ?_⟩
      rw [cut_last, List.map_append, List.map_cons, List.map_nil, List.dropLast_concat] at h2
      have e02 := e1.trans e2
      refine ⟨v, p2, d, q, rfl, rep.chg e02, h2, fun x u g r => ?_, fun g => ?_⟩
      · cases x with
        | txt t0 =>
          obtain rfl : u = .str t0 := r
          refine ⟨_, rfl, _, .str t0, _, rfl, ?_⟩
          exact z2 (rowAt_txt g) H2 e02
        | two t0 n0 =>
          obtain ⟨a, rfl, ha⟩ := r
          refine ⟨_, rfl, _, .tup ha, _, rfl, _, rfl, _, _, rfl, lenT ha, rfl, _, rfl, ?_⟩
          exact z2 (rowAt_two g) H2 e02
        | part k0 m0 its =>
          obtain ⟨a, m, r, us, rfl, a1, a2, a3, a4⟩ := r
          have wd : wid (.part k0 m0 its) ≤ 1000 := Nat.le_trans (wid_gt g) hw
          rw [wid] at wd
          refine seq_if ⟨_, rfl, _, .tup a1, _, rfl, _, rfl, _, _, rfl, lenT a1, rfl, _, rfl, ?_⟩
          refine seq_asgN ⟨_, rfl, _, rfl, a, m, r, b, pr, k0, its, us, rr, e, q, i, rfl, a1, a3, a4, re.chg e02, eq, by omega, by omega, fun its' us' t H3 er e3 h3 r3 => ?_, fun er H3 e3 => ?_⟩
          · refine seq_if ⟨_, rfl, _, rfl, nay (decide_eq_false (by intro z; cases z)) ?_⟩
            have e03 := e02.trans e3
            refine ⟨_, rfl, _, rfl, _, rfl, _, rfl, pr, _, rfl, e3.ex (e2.ex hp1), fun p4 H4 e4 h4 => ?_⟩
            rw [cut_last, List.map_append, List.map_cons, List.map_nil, List.dropLast_concat] at h4
            have e04 := e03.trans e4
            have e24 := e3.trans e4
            refine ⟨_, rfl, a, _, _, _, rfl, rfl, e24.ex a1, rfl, _, rfl, a, _, _, _, rfl, rfl, e24.ex a1, rfl, _, rfl, by show 3 ≤ sizeLine; decide, fun p5 H5 n5 e5 h5 => ?_⟩
            have e05 := e04.trans e5
            have e25 := e24.trans e5
            have e45 := e4.trans e5
            refine ⟨v, p4, .ref p5, d, .part k0 m0 its', q, _, rfl, by omega, rep.chg e05, e5.ex h4, Rep.part h5 (e25.ex a2) (e45.ex h3) (r3.chg e45), g, hw, fun u' H' e' r' => ?_⟩
            exact z1 _ u' H' (rowAt_of g er) (e05.trans e') r'
          · refine ⟨_, rfl, _, rfl, yes (decide_eq_true rfl) ?_⟩
            exact z2 (rowAt_row g er) H3 (e02.trans e3)
      · refine ⟨_, rfl, _, .non, _, rfl, ?_⟩
        exact z2 (rowAt_none g) H2 e02
end
end K7

/-! ## K7X1 -/
/-! The law's paths, goals, roads. -/
namespace K7
open PySem PySem.Spec PyProof.Rows L2
/-- a path in the heap -/
def PathV (H : Hp) (n : Nat) (v : V) : Prop := ∃ (q : Addr) (p : List Int), v = .ref q ∧ H q = some (.tup (p.map V.int)) ∧ p.length ≤ n
structure RowIs (H : Hp) (v : V) (a q : Addr) (x : V) (d : It) (p : List Int) : Prop where
  ref : v = .ref a
  at_ : H a = some (.tup [.ref q, x])
  path : H q = some (.tup (p.map V.int))
  len : p.length ≤ 20
  rep : Rep H d x
  wid : wid d ≤ 1000
def RowV (H : Hp) (v : V) : Prop := ∃ a q x d p, RowIs H v a q x d p
def PartV (H : Hp) (v : V) : Prop := ∃ a q x d p, RowIs H v a q x d p ∧ isPart d = true
section
variable {S : List Addr} {H H' : Hp} {v : V} {n : Nat}
theorem PathV.chg (c : Chg S H H') (h : PathV H n v) : PathV H' n v := by
  obtain ⟨q, p, e, h1, h2⟩ := h
  exact ⟨q, p, e, c.tup h1, h2⟩
theorem RowIs.chg {a q : Addr} {x : V} {d : It} {p : List Int} (c : Chg S H H') (h : RowIs H v a q x d p) : RowIs H' v a q x d p := ⟨h.ref, c.tup h.at_, c.tup h.path, h.len, h.rep.chg c, h.wid⟩
theorem RowV.chg (c : Chg S H H') (h : RowV H v) : RowV H' v := by
  obtain ⟨a, q, x, d, p, h⟩ := h
  exact ⟨a, q, x, d, p, h.chg c⟩
theorem PartV.chg (c : Chg S H H') (h : PartV H v) : PartV H' v := by
  obtain ⟨a, q, x, d, p, h, i⟩ := h
  exact ⟨a, q, x, d, p, h.chg c, i⟩
end
section
variable {P : Program} {w : World} {K : PySem.W.Frag} {mg : Str → Option Value} {base : Heap} {k : Nat}

/-! ### _law_paths -/
abbrev N_l_paths : List Str := ["_law_item_here", "_law_path", "_law_rows", "_law_k"]
theorem sc_l_paths : FnScope N_l_paths ["_law_item_here", "_law_path"] (defScope (top 48)) := ⟨rfl, rfl, rfl, by decide +kernel, rfl, by decide +kernel, by decide +kernel⟩
structure PathsOut (H H' : Hp) (v : V) (pa : Addr) (d : It) (l : Addr) (rows : List V) (c : Nat) : Prop where
  new : H l = none
  ex : Ex H H'
  at_ : H' l = some (.lst rows)
  len : rows.length = c
  row : ∀ r ∈ rows, RowV H' r
  hd : ∃ a t, rows = .ref a :: t ∧ H' a = some (.tup [.ref pa, v])
def spPathsN (n : Nat) : Sp := fun vs H Q _ => ∃ (v : V) (pa : Addr) (d : It) (p : List Int), vs = [v, .ref pa] ∧ hgt d < n ∧ Rep H d v ∧ H pa = some (.tup (p.map V.int)) ∧ p.length + hgt d ≤ 20 ∧ wid d ≤ 1000 ∧ cnt d ≤ 100000 ∧
  ∀ l rows H', PathsOut H H' v pa d l rows (cnt d) → Q (.ref l) H'
theorem ok_paths {n : Nat} (D : Df K mg "_law_paths" (top 48)) (B : Bn mg) (G_l_paths : Has P w K mg base k "_law_paths" (spPathsN n)) : Has P w K mg base (k + 1) "_law_paths" (spPathsN (n + 1)) := by
  refine D.has sc_l_paths (fun _ _ _ _ _ _ us hl => match us, hl with | [_, _], _ => rfl) (fun vs H Q E h => ?_) (fun f cdv A outer s H vs Q E hr h => ?_)
  · obtain ⟨v, pa, d, p, rfl, _⟩ := h
    rfl
  obtain ⟨v, pa, d, p, rfl, hd, rep, hp, pl, wd, cd, z⟩ := h
  refine ⟨_, (pss_cons (ps_set (i := 2) sc_l_paths.nd rfl (Or.inl rfl) (pe_lstC (pa_cons (pe_tupC (pa_cons (pv 1) (pa_cons (pv 0) pa_nil))) pa_nil))) (pss_cons (ps_if (PW.pt (pw_and (pt_val (pe_isi .tuple (pv 0) B.isi B.tup)) (pw_and1 (pt_cmpR op_eq (pe_callB (call_lenB (K := K)) rfl B.len PySem.boot_len (pa_cons (pv 0) pa_nil)) pe_int (nomark _))))) (pss_one (ps_for PassesOwn.never rfl (pi_range1 rfl B.rng (pa_cons (pe_callB (call_lenB (K := K)) rfl B.len PySem.boot_len (pa_cons (pe_ix ix_tupC (pv 0) pe_int (fun _ _ => rfl)) pa_nil)) pa_nil)) (pg_name (i := 3) sc_l_paths.nd rfl (Or.inl rfl)) (pss_one (ps_expr (pe_bm PySem.F.plainAttrs_list PySem.F.slot_list_extend PySem.F.type_list_extend mt_extC (pv 2) (pa_cons (pe_has G_l_paths hr (pa_cons (pe_ix ix_tupC (pe_ix ix_tupC (pv 0) pe_int (fun _ _ => rfl)) (pv 3) (fun _ _ => rfl)) (pa_cons (pe_op op_catC (pv 1) (pe_tupC (pa_cons (pv 3) pa_nil))) pa_nil))) pa_nil)))))) pss_nil) (pss_one (ps_ret (pv 2))))), ?_⟩
  refine seq_asgN ⟨_, rfl, _, rfl, by show 2 ≤ sizeLine; decide, fun a H1 n1 e1 h1 => ⟨by show 1 ≤ sizeLine; decide, fun l H2 n2 e2 h2 => ?_⟩⟩
  have e02 := e1.trans e2
  have row0 : RowV H2 (.ref a) := ⟨a, pa, v, d, p, rfl, e2.ex h1, e02.ex hp, by omega, rep.chg e02, wd⟩
  have o0 : PathsOut H H2 v pa d l [.ref a] 1 := ⟨e1.backE n2, e02, h2, rfl, fun r hr => by rw [List.mem_singleton.mp hr]; exact row0, a, [], rfl, e2.ex h1⟩
  cases d with
  | txt s =>
    obtain rfl : v = .str s := rep
    refine seq_if ⟨_, rfl, _, .str s, _, rfl, ?_⟩
    exact ⟨_, rfl, z l _ H2 o0⟩
  | two tg nm =>
    obtain ⟨b, rfl, hb⟩ := rep.chg e02
    refine seq_if ⟨_, rfl, _, .tup hb, _, rfl, _, rfl, _, _, rfl, lenT hb, fun _ => ⟨rfl, _, rfl, ?_⟩⟩
    exact ⟨_, rfl, z l _ H2 o0⟩
  | part kd ms its =>
    obtain ⟨b, m, r, us, rfl, a1, a2, a3, a4⟩ := rep.chg e02
    refine seq_cut (fun σ' H' => ∃ rows v3, σ' = [some (.ref b), some (.ref pa), some (.ref l), v3] ∧ PathsOut H H' (.ref b) pa (.part kd ms its) l rows (1 + cnts its)) (fun N hN => ?_) ?_
    · refine ⟨_, rfl, _, .tup a1, _, rfl, _, rfl, _, _, rfl, lenT a1, fun _ => ⟨rfl, _, rfl, ?_⟩⟩
      refine ⟨_, rfl, b, _, _, _, rfl, rfl, a1, rfl, _, _, rfl, lenT a3, fun _ => ⟨_, rfl, by omega, by omega, for_range (lo := 0) (n := ((us.length : Nat) : Int).toNat) (fun i σ' H' => ∃ rows v3, σ' = [some (.ref b), some (.ref pa), some (.ref l), v3] ∧ Chg [l] H2 H' ∧ PathsOut H H' (.ref b) pa (.part kd ms its) l rows (1 + cnts (its.take i)))
        ⟨_, none, rfl, Chg.refl _, o0⟩ ?_ ?_⟩⟩
      · rintro i σ1 H3 hj ⟨rows, v3, rfl, c3, o⟩
        have j1 : i < its.length := by rw [← a4.length]; omega
        have hx : its[i]? = some its[i] := List.getElem?_eq_getElem j1
        obtain ⟨u, hu, ru⟩ := a4.get hx
        have hm := List.getElem_mem j1
        have k1 := hgts_mem hm
        have k2 := wids_mem hm
        have k3 := cnts_mem hm
        have k4 : cnts (its.take i) + cnt its[i] ≤ cnts its := by
          have e : its = its.take i ++ (its[i] :: its.drop (i + 1)) := (take_get_drop hx).symm
          have q : cnts its = cnts (its.take i ++ (its[i] :: its.drop (i + 1))) := by rw [← e]
          rw [cnts_append, cnts] at q
          omega
        rw [hgt] at hd pl
        rw [wid] at wd
        rw [cnt] at cd
        have hu0 : atI us (0 + (i : Int)) = some u := by rw [Int.zero_add]; exact atI_nat hu
        refine ⟨_, rfl, .inl ⟨rfl, _, SqL.of o.at_⟩, _, rfl, b, _, _, _, rfl, rfl, c3.tup a1, rfl, _, rfl, r, _, _, _, rfl, rfl, c3.tup a3, hu0, _, rfl, _, rfl, by show 1 ≤ sizeLine; decide, fun t H4 n4 e4 h4 => ⟨pa, t, _, _, rfl, rfl, e4.ex (c3.tup (e02.ex hp)), h4, sz (by rw [List.length_map]; show p.length + 1 ≤ _; omega), fun p2 H5 e5 h5 => ?_⟩⟩
        have e35 := e4.trans e5
        refine ⟨u, p2, its[i], p ++ [((0 : Int) + (i : Int))], rfl, by omega, (ru.chg c3).chg e35, by rw [h5, List.map_append]; rfl, by rw [List.length_append]; show p.length + 1 + _ ≤ 20; omega, by omega, by omega, fun l2 rows2 H6 o2 => ?_⟩
        have e36 := e35.trans o2.ex
        refine ⟨l, l2, rows, rows2, rfl, rfl, e36.ex o.at_, o2.at_, sz (by rw [o.len, o2.len]; omega), fun H7 w7 => ?_⟩
        have c67 : Chg [l] H6 H7 := w7.chg (e36.ex o.at_) (by simp)
        have c37 : Chg [l] H3 H7 := (Chg.of e36).trans c67
        refine ⟨rows ++ rows2, _, rfl, c3.trans c37, ⟨o.new, (o.ex.trans e36).wr w7 o.new, w7.here, ?_, fun r' hr' => ?_, ?_⟩⟩
        · rw [List.length_append, o.len, o2.len, take_succ' hx, cnts_append, cnts, cnts]; omega
        · rcases List.mem_append.mp hr' with q | q
          · exact (o.row r' q).chg c37
          · exact (o2.row r' q).chg c67
        · obtain ⟨a', t', et, ht⟩ := o.hd
          exact ⟨a', t' ++ rows2, by rw [et]; rfl, c37.tup ht⟩
      · rintro σ1 H3 ⟨rows, v3, rfl, _, o⟩
        rw [a4.length] at o
        have tn : ((its.length : Nat) : Int).toNat = its.length := by omega
        rw [tn, List.take_length] at o
        exact hN _ _ ⟨rows, v3, rfl, o⟩
    rintro σ1 H3 ⟨rows, v3, rfl, o⟩
    exact ⟨_, rfl, z l rows H3 o⟩
theorem vac_paths (D : Df K mg "_law_paths" (top 48)) : Has P w K mg base (k + 1) "_law_paths" (spPathsN 0) := by
  refine D.has sc_l_paths (fun _ _ _ _ _ _ us hl => match us, hl with | [_, _], _ => rfl) (fun vs H Q E h => ?_) (fun f cdv A outer s H vs Q E hr h => ?_)
  · obtain ⟨v, pa, d, p, rfl, h, _⟩ := h
    omega
  · obtain ⟨v, pa, d, p, rfl, h, _⟩ := h
    omega
theorem all_paths (D : Df K mg "_law_paths" (top 48)) (B : Bn mg) : ∀ n : Nat, Has P w K mg base (n + 1) "_law_paths" (spPathsN n)
  | 0 => vac_paths D
  | n + 1 => ok_paths D B (all_paths D B n)

/-! ### _law_index -/
abbrev N_l_index : List Str := ["_law_pool_here", "_law_n"]
theorem sc_l_index : FnScope N_l_index ["_law_pool_here"] (defScope (top 49)) := ⟨rfl, rfl, rfl, by decide +kernel, rfl, by decide +kernel, by decide +kernel⟩
def spIndex : Sp := fun vs H Q _ => ∃ (p q : Addr) (b : Nat), vs = [.ref p] ∧ Gd H p q b ∧ b ≤ 7000000 ∧ ∀ i H', Chg [p, q] H H' → Gd H' p q (b + 2) → Q (.int i) H'
theorem ok_index (D : Df K mg "_law_index" (top 49)) (B : Bn mg) (G_l_take : Has P w K mg base k "_law_take" spTakeG) : Has P w K mg base (k + 1) "_law_index" spIndex := by
  refine D.has sc_l_index (fun _ _ _ _ _ _ us hl => match us, hl with | [_], _ => rfl) (fun vs H Q E h => ?_) (fun f cdv A outer s H vs Q E hr h => ?_)
  · obtain ⟨p, q, b, rfl, _⟩ := h
    rfl
  obtain ⟨p, q, b, rfl, g, hb, z⟩ := h
  refine ⟨_, (pss_cons (ps_set (i := 1) sc_l_index.nd rfl (Or.inl rfl) (pe_has G_l_take hr (pa_cons (pv 0) (pa_cons pe_int pa_nil)))) (pss_cons (ps_if (pt_cmpR op_lt (pv 1) pe_int (nomark _)) (pss_one (ps_ret (pe_op op_sub (pv 1) pe_int))) pss_nil) (pss_one (ps_ret (pe_op op_mul (pe_op op_sub (pe_op op_mul pe_int (pv 1)) pe_int) (pe_has G_l_take hr (pa_cons (pv 0) (pa_cons (pe_op op_pow pe_int pe_int) pa_nil)))))))), ?_⟩
  refine seq_asgN ⟨_, rfl, p, q, b, 18, rfl, g, by omega, by decide, by decide, fun r H1 r0 r1 e1 g1 => ?_⟩
  refine ⟨_, rfl, _, _, rfl, rfl, _, rfl, ?_⟩
  refine ite2 (fun c => ?_) (fun c => ?_)
  · exact ⟨_, rfl, _, _, rfl, rfl, z _ H1 e1 (g1.mono (by omega))⟩
  · have c12 : CPow 10 12 := ⟨by decide, by decide, by decide⟩
    refine ⟨_, rfl, _, _, rfl, rfl, .inl ⟨by decide, by decide⟩, _, _, rfl, rfl, _, rfl, _, _, rfl, rfl, c12, p, q, _, _, rfl, g1, by omega, by decide, by decide, fun r2 H2 a0 a1 e2 g2 => ?_⟩
    exact ⟨_, _, rfl, rfl, .inl ⟨by omega, by omega⟩, z _ H2 (e1.trans e2) (g2.mono (by omega))⟩
end
end K7

/-! ## K7X2 -/
/-! The law's goals, roads, edits. -/
namespace K7
open PySem PySem.Spec PyProof.Rows L2
/-- values kept in a list that is made -/
def KV (S : List Addr) (C : Hp → V → Prop) (H0 : Hp) (D : Addr) (i : Nat) (H : Hp) : Prop := ∃ zs, H D = some (.lst zs) ∧ zs.length ≤ i ∧ Chg S H0 H ∧ ∀ z ∈ zs, C H z
section
variable {S : List Addr} {C : Hp → V → Prop} {H0 H H2 : Hp} {D : Addr} {i : Nat} {z : V}
theorem KV.start (n : H0 D = none) : KV S C H0 D 0 (upd H0 D (.lst [])) := ⟨[], upd_same, Nat.le_refl _, Chg.new n, fun z h => by cases h⟩
theorem KV.skip (h : KV S C H0 D i H) : KV S C H0 D (i + 1) H := by
  obtain ⟨zs, h1, h2, h3⟩ := h
  exact ⟨zs, h1, by omega, h3⟩
theorem KV.next (hC : ∀ {T : List Addr} {H H' : Hp} {z : V}, Chg T H H' → C H z → C H' z) (n : H0 D = none) (h : KV S C H0 D i H) (hi : i < 9000000) (hS : D ∉ S) (e : Chg S H H2) (hz : C H2 z) :
    ∃ acc, H2 D = some (.lst acc) ∧ acc.length < sizeLine ∧ KV S C H0 D (i + 1) (upd H2 D (.lst (acc ++ [z]))) := by
  obtain ⟨zs, h1, h2, h3, h4⟩ := h
  have h1' := e.keep _ _ h1 hS
  have w := Wr.upd D (.lst (zs ++ [z])) H2
  have cD : Chg [D] H2 (upd H2 D (.lst (zs ++ [z]))) := w.chg h1' (by simp)
  refine ⟨zs, h1', szl (by omega), zs ++ [z], upd_same, by rw [List.length_append, List.length_singleton]; omega, (h3.trans e).wr w n, fun y hy => ?_⟩
  rcases List.mem_append.mp hy with m | m
  · exact hC cD (hC e (h4 y m))
  · rw [List.mem_singleton.mp m]; exact hC cD hz
end
theorem PartV.is {H : Hp} {v : V} (h : PartV H v) {a q : Addr} {x : V} {d : It} {p : List Int} (k : RowIs H v a q x d p) : isPart d = true := by
  obtain ⟨a', q', x', d', p', h1, h2⟩ := h
  have ea : V.ref a = V.ref a' := k.ref.symm.trans h1.ref
  obtain rfl : a = a' := V.ref.inj ea
  have et := k.at_.symm.trans h1.at_
  have e1 := HO.tup.inj (Option.some.inj et)
  have e2 : x = x' := (List.cons.inj (List.cons.inj e1).2).1
  rw [← e2] at h1
  cases d' with
  | txt s => cases h2
  | two s t => cases h2
  | part kd ms its =>
    obtain ⟨b, m, r, us, eb, b1, _⟩ := h1.rep
    cases d with
    | txt s =>
      have r1 : x = .str s := k.rep
      rw [r1] at eb; cases eb
    | two s t =>
      obtain ⟨b', eb', b2⟩ := k.rep
      rw [eb] at eb'
      have := V.ref.inj eb'
      rw [← this, b1] at b2
      have := HO.tup.inj (Option.some.inj b2)
      cases this
    | part _ _ _ => rfl
/-- the rows of parts -/
def PK (H0 : Hp) (D : Addr) (i : Nat) (H : Hp) : Prop := ∃ zs, H D = some (.lst zs) ∧ zs.length ≤ i ∧ Ex H0 H ∧ (∀ z ∈ zs, PartV H z) ∧ (0 < i → zs ≠ [])
theorem get0 {α : Type} {l t : List α} {x y : α} {i : Nat} (h : l[i]? = some x) (e : l = y :: t) (z : i = 0) : x = y := by
  rw [e, z] at h
  exact (Option.some.inj h).symm
section
variable {P : Program} {w : World} {K : PySem.W.Frag} {mg : Str → Option Value} {base : Heap} {k : Nat}

/-! ### _law_goals -/
abbrev N_l_goals : List Str := ["_law_pool_here", "_law_root", "_law_word", "_law_rows", "_law_parts", "_law_row", "_law_k"]
theorem sc_l_goals : FnScope N_l_goals ["_law_pool_here", "_law_root", "_law_word"] (defScope (top 50)) := ⟨rfl, rfl, rfl, by decide +kernel, rfl, by decide +kernel, by decide +kernel⟩
def spGoals : Sp := fun vs H Q _ => ∃ (p q : Addr) (b : Nat) (v : V) (d : It) (wd : Str), vs = [.ref p, v, .str wd] ∧ Gd H p q b ∧ b ≤ 7000000 ∧ Rep H d v ∧ isPart d = true ∧ InB d ∧
  ∀ l gs H', l ≠ p → l ≠ q → H' l = some (.lst gs) → gs.length ≤ 2000 → (∀ g ∈ gs, PathV H' 21 g) → Chg [p, q] H H' → Gd H' p q (b + 1) → Q (.ref l) H'
theorem ok_goals (D : Df K mg "_law_goals" (top 50)) (B : Bn mg) (G_l_take : Has P w K mg base k "_law_take" spTakeG) (G_l_paths : Has P w K mg base k "_law_paths" (spPathsN 10)) : Has P w K mg base (k + 1) "_law_goals" spGoals := by
  refine D.has sc_l_goals (fun _ _ _ _ _ _ us hl => match us, hl with | [_, _, _], _ => rfl) (fun vs H Q E h => ?_) (fun f cdv A outer s H vs Q E hr h => ?_)
  · obtain ⟨p, q, b, v, d, wd, rfl, _⟩ := h
    rfl
  obtain ⟨p, q, b, v, d, wd, rfl, g, hb, rep, ip, ib, z⟩ := h
  refine ⟨_, (pss_cons (ps_set (i := 3) sc_l_goals.nd rfl (Or.inl rfl) (pe_has G_l_paths hr (pa_cons (pv 1) (pa_cons (pe_tupC pa_nil) pa_nil)))) (pss_cons (ps_setLc (i := 4) (own := [("_law_row", 5)]) (g := gName 5) rfl sc_l_goals.nd rfl rfl (sw_true rfl rfl rfl (by decide +kernel)) (pi_list (pv 3)) (blkOk_by (own := [("_law_row", 5)]) (N := N_l_goals) (sc := defScope (top 50)) (by decide +kernel)) (fun _ _ _ _ _ => pg_name (i := 5) sc_l_goals.nd rfl (Or.inl rfl)) (fun _ _ _ _ _ => pts_one (PW.pt (pw_and (pt_val (pe_isi .tuple (pe_ix ix_tupC (pv 5) pe_int (fun _ _ => rfl)) B.isi B.tup)) (pw_and1 (pt_cmpR op_eq (pe_callB (call_lenB (K := K)) rfl B.len PySem.boot_len (pa_cons (pe_ix ix_tupC (pv 5) pe_int (fun _ _ => rfl)) pa_nil)) pe_int (nomark _)))))) (fun _ _ _ _ _ => (pv 5))) (pss_cons (ps_if (PW.pt (pw_or (pt_cmpR op_eq (pv 2) pe_str (nomark _)) (pw_or1 (pt_cmpR op_eq (pv 2) pe_str (nomark _))))) (pss_cons (ps_set (i := 5) sc_l_goals.nd rfl (Or.inr rfl) (pe_ix ix_lstC (pv 4) (pe_has G_l_take hr (pa_cons (pv 0) (pa_cons (pe_callB (call_lenB (K := K)) rfl B.len PySem.boot_len (pa_cons (pv 4) pa_nil)) pa_nil))) (fun _ _ => rfl))) (pss_one (ps_ret (pe_lc (own := [("_law_k", 6)]) (g := gName 6) rfl sc_l_goals.nd (pi_range1 rfl B.rng (pa_cons (pe_op op_add (pe_callB (call_lenB (K := K)) rfl B.len PySem.boot_len (pa_cons (pe_ix ix_tupC (pe_ix ix_tupC (pv 5) pe_int (fun _ _ => rfl)) pe_int (fun _ _ => rfl)) pa_nil)) pe_int) pa_nil)) (blkOk_by (own := [("_law_k", 6)]) (N := N_l_goals) (sc := defScope (top 50)) (by decide +kernel)) (fun _ _ _ _ _ => pg_name (i := 6) sc_l_goals.nd rfl (Or.inl rfl)) (fun _ _ _ _ _ => pts_nil) (fun _ _ _ _ _ => (pe_op op_catC (pe_ix ix_tupC (pv 5) pe_int (fun _ _ => rfl)) (pe_tupC (pa_cons (pv 6) pa_nil)))))))) pss_nil) (pss_cons (ps_if (pt_cmpR op_eq (pv 2) pe_str (nomark _)) (pss_one (ps_ret (pe_lc (own := [("_law_row", 5)]) (g := gName 5) rfl sc_l_goals.nd (pi_list (pv 3)) (blkOk_by (own := [("_law_row", 5)]) (N := N_l_goals) (sc := defScope (top 50)) (by decide +kernel)) (fun _ _ _ _ _ => pg_name (i := 5) sc_l_goals.nd rfl (Or.inl rfl)) (fun _ _ _ _ _ => pts_one (pt_val (pe_isi .str (pe_ix ix_tupC (pv 5) pe_int (fun _ _ => rfl)) B.isi B.str))) (fun _ _ _ _ _ => (pe_ix ix_tupC (pv 5) pe_int (fun _ _ => rfl)))))) pss_nil) (pss_cons (ps_if (pt_cmpR op_eq (pv 2) pe_str (nomark _)) (pss_one (ps_ret (pe_lc (own := [("_law_row", 5)]) (g := gName 5) rfl sc_l_goals.nd (pi_list (pv 3)) (blkOk_by (own := [("_law_row", 5)]) (N := N_l_goals) (sc := defScope (top 50)) (by decide +kernel)) (fun _ _ _ _ _ => pg_name (i := 5) sc_l_goals.nd rfl (Or.inl rfl)) (fun _ _ _ _ _ => pts_one (pt_cmpR op_gt (pe_callB (call_lenB (K := K)) rfl B.len PySem.boot_len (pa_cons (pe_ix ix_tupC (pv 5) pe_int (fun _ _ => rfl)) pa_nil)) pe_int (nomark _))) (fun _ _ _ _ _ => (pe_ix ix_tupC (pv 5) pe_int (fun _ _ => rfl)))))) pss_nil) (pss_cons (ps_if (pt_cmpR op_eq (pv 2) pe_str (nomark _)) (pss_one (ps_ret (pe_lc (own := [("_law_row", 5)]) (g := gName 5) rfl sc_l_goals.nd (pi_list (pv 4)) (blkOk_by (own := [("_law_row", 5)]) (N := N_l_goals) (sc := defScope (top 50)) (by decide +kernel)) (fun _ _ _ _ _ => pg_name (i := 5) sc_l_goals.nd rfl (Or.inl rfl)) (fun _ _ _ _ _ => pts_one (pt_cmpR op_gt (pe_callB (call_lenB (K := K)) rfl B.len PySem.boot_len (pa_cons (pe_ix ix_tupC (pv 5) pe_int (fun _ _ => rfl)) pa_nil)) pe_int (nomark _))) (fun _ _ _ _ _ => (pe_ix ix_tupC (pv 5) pe_int (fun _ _ => rfl)))))) pss_nil) (pss_one (ps_ret (pe_lc (own := [("_law_row", 5)]) (g := gName 5) rfl sc_l_goals.nd (pi_list (pv 4)) (blkOk_by (own := [("_law_row", 5)]) (N := N_l_goals) (sc := defScope (top 50)) (by decide +kernel)) (fun _ _ _ _ _ => pg_name (i := 5) sc_l_goals.nd rfl (Or.inl rfl)) (fun _ _ _ _ _ => pts_nil) (fun _ _ _ _ _ => (pe_ix ix_tupC (pv 5) pe_int (fun _ _ => rfl)))))))))))), ?_⟩
  refine seq_asgN ⟨_, rfl, Nat.zero_le _, fun e0 H1 n1 e1 h1 => ?_⟩
  have ic := ib.c
  have iw := ib.w
  have ih := ib.h
  refine ⟨v, e0, d, [], rfl, by omega, rep.chg e1, h1, by simp; omega, by omega, by omega, fun l rows H2 o => ?_⟩
  have e02 := e1.trans o.ex
  have g2 := g.ex e02
  have lp : l ≠ p := g.nep (e1.backE o.new)
  have lq : l ≠ q := g.neq (e1.backE o.new)
  have hd0 : ∃ r t, rows = r :: t ∧ PartV H2 r := by
    obtain ⟨a, t, er, ha⟩ := o.hd
    exact ⟨_, t, er, a, e0, v, d, [], ⟨rfl, ha, o.ex.ex h1, by simp, rep.chg e02, by omega⟩, ip⟩
  obtain ⟨r0, t0, er, pr0⟩ := hd0
  have rl : rows.length ≤ 60 := by rw [o.len]; omega
  refine seq_asgN ⟨_, rfl, l, rfl, ⟨_, SqL.of o.at_⟩, fun D nD => lc_list (K := K) (a := l) (xs := rows) (PK H2 D) ⟨[], upd_same, Nat.le_refl _, Chg.new nD, fun z h => (by cases h), fun h => absurd h (Nat.lt_irrefl 0)⟩ (fun j H5 _ ⟨_, _, _, e5, _⟩ => SqL.of (e5.ex o.at_)) (fun j x H5 hx h5 => ⟨rfl, ?_⟩) ?_⟩
  · obtain ⟨zs, k1, k2, k3, k4, k5⟩ := h5
    have hj : j < rows.length := lt_of_get hx
    have rx := (o.row x (List.mem_of_getElem? hx)).chg k3
    obtain ⟨a, q', y, d', p', h⟩ := rx
    have no : isPart d' = false → 0 < j := fun hf => by
      rcases Nat.eq_zero_or_pos j with e | e
      · have ex := get0 hx er e
        rw [ex] at h
        have := (pr0.chg k3).is h
        rw [hf] at this; cases this
      · exact e
    obtain rfl := h.ref
    cases d' with
    | txt s =>
      obtain rfl : y = .str s := h.rep
      refine ⟨_, rfl, a, _, _, _, rfl, rfl, h.at_, rfl, _, .str s, _, rfl, ?_⟩
      exact ⟨zs, k1, by omega, k3, k4, fun _ => k5 (no rfl)⟩
    | two s t =>
      obtain ⟨b1, rfl, hb1⟩ := h.rep
      refine ⟨_, rfl, a, _, _, _, rfl, rfl, h.at_, rfl, _, .tup hb1, _, rfl, _, rfl, a, _, _, _, rfl, rfl, h.at_, rfl, _, _, rfl, lenT hb1, fun _ => ⟨rfl, _, rfl, ?_⟩⟩
      exact ⟨zs, k1, by omega, k3, k4, fun _ => k5 (no rfl)⟩
    | part kd ms its =>
      obtain ⟨b1, m, r, us, rfl, a1, a2, a3, a4⟩ := id h.rep
      refine ⟨_, rfl, a, _, _, _, rfl, rfl, h.at_, rfl, _, .tup a1, _, rfl, _, rfl, a, _, _, _, rfl, rfl, h.at_, rfl, _, _, rfl, lenT a1, fun _ => ⟨rfl, _, rfl, ?_⟩⟩
      have w := Wr.upd D (.lst (zs ++ [V.ref a])) H5
      have cD : Chg [D] H5 (upd H5 D (.lst (zs ++ [V.ref a]))) := w.chg k1 (by simp)
      refine ⟨_, rfl, zs, k1, szl (by omega), zs ++ [.ref a], upd_same, by rw [List.length_append, List.length_singleton]; omega, k3.wr w nD, fun y hy => ?_, fun _ => by simp⟩
      rcases List.mem_append.mp hy with m' | m'
      · exact (k4 y m').chg cD
      · rw [List.mem_singleton.mp m']
        exact PartV.chg cD ⟨a, q', _, _, p', h, rfl⟩
  rintro H3 ⟨zs, k1, k2, k3, k4, k5⟩
  have zl : zs.length ≤ 60 := by omega
  have zp : 0 < zs.length := by
    have := k5 (by rw [er]; simp)
    exact List.length_pos_iff.mpr this
  have g3 := g2.ex k3
  have e03 := e02.trans k3
  have hDp : ∀ {D' : Addr}, H3 D' = none → D' ≠ p ∧ D' ≠ q := fun h => ⟨g3.nep h, g3.neq h⟩
  have hC : ∀ {T : List Addr} {H H' : Hp} {z : V}, Chg T H H' → PathV H 21 z → PathV H' 21 z := fun c h => h.chg c
  have fin : ∀ {D : Addr} {H4 H5 : Hp} {n : Nat}, Chg [p, q] H3 H4 → Gd H4 p q (b + 1) → H4 D = none → KV [] (fun H v => PathV H 21 v) H4 D n H5 → n ≤ 2000 → Q (.ref D) H5 := fun {D H4 H5 n} e4 g4 nD ⟨gs, m1, m2, m3, m4⟩ hn =>
    z D gs H5 (g4.nep nD) (g4.neq nD) m1 (by omega) m4 (((Chg.of e03).trans e4).to m3) (g4.ex m3)
  refine seq_if ⟨_, rfl, rfl, _, rfl, ite2 (fun _ => ?_) (fun _ => ⟨_, rfl, rfl, _, rfl, ite2 (fun _ => ?_) (fun _ => ?_)⟩)⟩
  rotate_left 2
  · have rows3 : H3 l = some (.lst rows) := k3.ex o.at_
    have row3 : ∀ r ∈ rows, RowV H3 r := fun r hr => (o.row r hr).chg k3
    refine seq_if ⟨_, rfl, rfl, _, rfl, ite2 (fun _ => ?_) (fun _ => ?_)⟩
    · refine ⟨_, rfl, l, rfl, ⟨_, SqL.of rows3⟩, fun D' nD' => lc_list (K := K) (a := l) (xs := rows) (KV [] (fun H v => PathV H 21 v) H3 D') (KV.start nD') (fun j H5 _ ⟨_, _, _, e5, _⟩ => SqL.of (e5.ex rows3)) (fun j x H5 hx h5 => ⟨rfl, ?_⟩) ?_⟩
      · have hj := lt_of_get hx
        have h5' := h5
        obtain ⟨_, _, _, e5, _⟩ := h5'
        obtain ⟨a, q', y, d', p', h⟩ := (row3 x (List.mem_of_getElem? hx)).chg e5
        obtain rfl := h.ref
        obtain ⟨t, ht, _⟩ := h.rep.ty
        refine ⟨_, rfl, a, _, _, _, rfl, rfl, h.at_, rfl, t, ht, _, rfl, ite2 (fun _ => ?_) (fun _ => h5.skip)⟩
        exact ⟨_, rfl, a, _, _, _, rfl, rfl, h.at_, rfl, h5.next hC nD' (by omega) (by simp) (Chg.refl _) ⟨q', p', rfl, h.path, Nat.le_trans h.len (by decide)⟩⟩
      · intro H5 h5
        exact fin (Chg.refl _) (g3.mono (by omega)) nD' h5 (by omega)
    refine seq_if ⟨_, rfl, rfl, _, rfl, ite2 (fun _ => ?_) (fun _ => ?_)⟩
    · refine ⟨_, rfl, l, rfl, ⟨_, SqL.of rows3⟩, fun D' nD' => lc_list (K := K) (a := l) (xs := rows) (KV [] (fun H v => PathV H 21 v) H3 D') (KV.start nD') (fun j H5 _ ⟨_, _, _, e5, _⟩ => SqL.of (e5.ex rows3)) (fun j x H5 hx h5 => ⟨rfl, ?_⟩) ?_⟩
      · have hj := lt_of_get hx
        have h5' := h5
        obtain ⟨_, _, _, e5, _⟩ := h5'
        obtain ⟨a, q', y, d', p', h⟩ := (row3 x (List.mem_of_getElem? hx)).chg e5
        obtain rfl := h.ref
        refine ⟨_, rfl, a, _, _, _, rfl, rfl, h.at_, rfl, _, _, rfl, lenT h.path, fun _ => ⟨_, _, rfl, rfl, _, rfl, ite2 (fun _ => ?_) (fun _ => h5.skip)⟩⟩
        exact ⟨_, rfl, a, _, _, _, rfl, rfl, h.at_, rfl, h5.next hC nD' (by omega) (by simp) (Chg.refl _) ⟨q', p', rfl, h.path, Nat.le_trans h.len (by decide)⟩⟩
      · intro H5 h5
        exact fin (Chg.refl _) (g3.mono (by omega)) nD' h5 (by omega)
    refine seq_if ⟨_, rfl, rfl, _, rfl, ite2 (fun _ => ?_) (fun _ => ?_)⟩
    · refine ⟨_, rfl, D, rfl, ⟨_, SqL.of k1⟩, fun D' nD' => lc_list (K := K) (a := D) (xs := zs) (KV [] (fun H v => PathV H 21 v) H3 D') (KV.start nD') (fun j H5 _ ⟨_, _, _, e5, _⟩ => SqL.of (e5.ex k1)) (fun j x H5 hx h5 => ⟨rfl, ?_⟩) ?_⟩
      · have hj := lt_of_get hx
        have h5' := h5
        obtain ⟨_, _, _, e5, _⟩ := h5'
        obtain ⟨a, q', y, d', p', h, _⟩ := (k4 x (List.mem_of_getElem? hx)).chg e5
        obtain rfl := h.ref
        refine ⟨_, rfl, a, _, _, _, rfl, rfl, h.at_, rfl, _, _, rfl, lenT h.path, fun _ => ⟨_, _, rfl, rfl, _, rfl, ite2 (fun _ => ?_) (fun _ => h5.skip)⟩⟩
        exact ⟨_, rfl, a, _, _, _, rfl, rfl, h.at_, rfl, h5.next hC nD' (by omega) (by simp) (Chg.refl _) ⟨q', p', rfl, h.path, Nat.le_trans h.len (by decide)⟩⟩
      · intro H5 h5
        exact fin (Chg.refl _) (g3.mono (by omega)) nD' h5 (by omega)
    · refine ⟨_, rfl, D, rfl, ⟨_, SqL.of k1⟩, fun D' nD' => lc_list (K := K) (a := D) (xs := zs) (KV [] (fun H v => PathV H 21 v) H3 D') (KV.start nD') (fun j H5 _ ⟨_, _, _, e5, _⟩ => SqL.of (e5.ex k1)) (fun j x H5 hx h5 => ⟨rfl, ?_⟩) ?_⟩
      · have hj := lt_of_get hx
        have h5' := h5
        obtain ⟨_, _, _, e5, _⟩ := h5'
        obtain ⟨a, q', y, d', p', h, _⟩ := (k4 x (List.mem_of_getElem? hx)).chg e5
        obtain rfl := h.ref
        exact ⟨_, rfl, a, _, _, _, rfl, rfl, h.at_, rfl, h5.next hC nD' (by omega) (by simp) (Chg.refl _) ⟨q', p', rfl, h.path, Nat.le_trans h.len (by decide)⟩⟩
      · intro H5 h5
        exact fin (Chg.refl _) (g3.mono (by omega)) nD' h5 (by omega)
  all_goals
    refine seq_asgN ⟨_, rfl, _, rfl, _, rfl, _, _, rfl, lenL k1, fun _ => ⟨p, q, b, _, rfl, g3, by omega, by omega, by omega, fun r H4 r0 r1 e4 g4 => ?_⟩⟩
    have nDpq : D ∉ [p, q] := nm2 (g2.nep nD) (g2.neq nD)
    have lt : r.toNat < zs.length := by omega
    have zx : zs[r.toNat]? = some zs[r.toNat] := List.getElem?_eq_getElem lt
    obtain ⟨a, q', y, d', p', h, hip⟩ := (k4 _ (List.getElem_mem lt)).chg e4
    refine ⟨D, zs, r, _, rfl, rfl, e4.keep _ _ k1 nDpq, at_nat r0 zx, ?_⟩
    rw [h.ref]
    cases d' with
    | txt s => cases hip
    | two s t => cases hip
    | part kd ms its =>
      obtain ⟨b1, m, r2, us, rfl, a1, a2, a3, a4⟩ := id h.rep
      have w5 := h.wid
      rw [wid] at w5
      have ul := a4.length
      refine ⟨_, rfl, a, _, _, _, rfl, rfl, h.at_, rfl, b1, _, _, _, rfl, rfl, a1, rfl, _, _, rfl, lenT a3, fun _ => ⟨_, _, rfl, rfl, _, rfl, by omega, by omega, fun D' nD' => lc_range (lo := 0) (n := (((us.length : Nat) : Int) + 1).toNat) (KV [] (fun H v => PathV H 21 v) H4 D') (KV.start nD') (fun j H5 hj h5 => ⟨rfl, ?_⟩) ?_⟩⟩
      · have h5' := h5
        obtain ⟨_, _, _, e5, _⟩ := h5'
        refine ⟨_, rfl, a, _, _, _, rfl, rfl, e5.ex h.at_, rfl, _, rfl, by show 1 ≤ sizeLine; decide, fun p6 H6 n6 e6 h6 => ⟨q', p6, _, _, rfl, rfl, e6.ex (e5.ex h.path), h6, sz (by have := h.len; rw [List.length_map]; show p'.length + 1 ≤ _; omega), fun p7 H7 e7 h7 => ?_⟩⟩
        exact h5.next hC nD' (by omega) (by simp) (e6.trans e7) ⟨p7, p' ++ [0 + (j : Int)], rfl, by rw [h7, List.map_append]; rfl, by rw [List.length_append]; have := h.len; show p'.length + 1 ≤ 21; omega⟩
      · intro H5 h5
        exact fin e4 g4 nD' h5 (by omega)
end
end K7

/-! ## K7X3 -/
/-! The law's roads, edits filled. -/
namespace K7
open PySem PySem.Spec PyProof.Rows L2
theorem Chg.hide {S T : List Addr} {l : Addr} {H H1 H2 : Hp} (c1 : Chg S H H1) (c2 : Chg T H1 H2) (hT : ∀ x ∈ T, x ∈ S ∨ x = l) (n : H l = none) : Chg S H H2 :=
  ⟨fun a o h hn => c2.keep a o (c1.keep a o h hn) fun m => (hT a m).elim hn fun e => ne_of_none h n e, fun h => c2.tup (c1.tup h), fun h => c2.frz (c1.frz h)⟩
/-- ints that a comprehension draws -/
structure IK (p q : Addr) (b : Nat) (H0 : Hp) (D : Addr) (i : Nat) (H : Hp) : Prop where
  lst : ∃ pth : List Int, H D = some (.lst (pth.map V.int)) ∧ pth.length = i
  chg : Chg [p, q] H0 H
  gd : Gd H p q (b + 2 * i)
theorem IK.start {p q D : Addr} {b : Nat} {H : Hp} (g : Gd H p q b) (n : H D = none) : IK p q b H D 0 (upd H D (.lst [])) :=
  ⟨⟨[], upd_same, rfl⟩, Chg.new n, g.ex (Chg.new n)⟩
theorem IK.next {p q D : Addr} {b i : Nat} {H0 H H2 : Hp} {x : Int} (h : IK p q b H0 D i H) (n : H0 D = none) (np : D ∉ [p, q]) (hi : i < 1000) (e : Chg [p, q] H H2) (g : Gd H2 p q (b + 2 * i + 2)) :
    ∃ acc, H2 D = some (.lst acc) ∧ acc.length < sizeLine ∧ IK p q b H0 D (i + 1) (upd H2 D (.lst (acc ++ [V.int x]))) := by
  obtain ⟨pth, h1, h2⟩ := h.lst
  have h1' := e.keep _ _ h1 np
  have w := Wr.upd D (.lst (pth.map V.int ++ [V.int x])) H2
  have n1 : p ≠ D := fun z => np (by rw [z]; simp)
  have n2 : q ≠ D := fun z => np (by rw [z]; simp)
  refine ⟨_, h1', szl (by rw [List.length_map]; omega), ⟨pth ++ [x], by rw [List.map_append]; exact upd_same, by rw [List.length_append, h2]; rfl⟩, (h.chg.trans e).wr w n, ?_⟩
  exact (g.wr w n1 n2).mono (by omega)
/-- an edit with small stuff -/
def EdOk : Ed → Prop
  | .put _ x => Sh x ∧ hgt x ≤ 6
  | .text _ s => s.length ≤ 60
  | _ => True
section
variable {P : Program} {w : World} {K : PySem.W.Frag} {mg : Str → Option Value} {base : Heap} {k : Nat}

/-! ### _law_road -/
abbrev N_l_road : List Str := ["_law_pool_here", "_law_root", "_law_word", "_law_goals_here", "_law_path", "_law_way", "_law_k"]
theorem sc_l_road : FnScope N_l_road ["_law_pool_here", "_law_root", "_law_word"] (defScope (top 51)) := ⟨rfl, rfl, rfl, by decide +kernel, rfl, by decide +kernel, by decide +kernel⟩
def spRoad : Sp := fun vs H Q _ => ∃ (p q : Addr) (b : Nat) (v : V) (d : It) (wd : Str), vs = [.ref p, v, .str wd] ∧ Gd H p q b ∧ b ≤ 6000000 ∧ Rep H d v ∧ isPart d = true ∧ InB d ∧
  ∀ r (pth : List Int) H', H' r = some (.tup (pth.map V.int)) → pth.length ≤ 22 → Chg [p, q] H H' → Gd H' p q (b + 30) → Q (.ref r) H'
structure RdI (H : Hp) (p q : Addr) (c n : Nat) (r : Addr) (H' : Hp) : Prop where
  path : ∃ pth : List Int, H' r = some (.tup (pth.map V.int)) ∧ pth.length ≤ n
  chg : Chg [p, q] H H'
  gd : Gd H' p q c
theorem ok_road (D : Df K mg "_law_road" (top 51)) (B : Bn mg) (G_l_take : Has P w K mg base k "_law_take" spTakeG) (G_l_goals : Has P w K mg base k "_law_goals" spGoals) (G_l_index : Has P w K mg base k "_law_index" spIndex) : Has P w K mg base (k + 1) "_law_road" spRoad := by
  refine D.has sc_l_road (fun _ _ _ _ _ _ us hl => match us, hl with | [_, _, _], _ => rfl) (fun vs H Q E h => ?_) (fun f cdv A outer s H vs Q E hr h => ?_)
  · obtain ⟨p, q, b, v, d, wd, rfl, _⟩ := h
    rfl
  obtain ⟨p, q, b, v, d, wd, rfl, g, hb, rep, ip, ib, z⟩ := h
  refine ⟨_, (pss_cons (ps_set (i := 3) sc_l_road.nd rfl (Or.inl rfl) (pe_has G_l_goals hr (pa_cons (pv 0) (pa_cons (pv 1) (pa_cons (pv 2) pa_nil))))) (pss_cons (ps_set (i := 4) sc_l_road.nd rfl (Or.inl rfl) (pe_tupC pa_nil)) (pss_cons (ps_if (pt_cmpR op_gt (pe_callB (call_lenK (K := K)) rfl B.len PySem.boot_len (pa_cons (pv 3) pa_nil)) pe_int (nomark _)) (pss_one (ps_set (i := 4) sc_l_road.nd rfl (Or.inl rfl) (pe_ix ix_lstC (pv 3) (pe_has G_l_take hr (pa_cons (pv 0) (pa_cons (pe_callB (call_lenK (K := K)) rfl B.len PySem.boot_len (pa_cons (pv 3) pa_nil)) pa_nil))) (fun _ _ => rfl)))) pss_nil) (pss_cons (ps_set (i := 5) sc_l_road.nd rfl (Or.inl rfl) (pe_has G_l_take hr (pa_cons (pv 0) (pa_cons pe_int pa_nil)))) (pss_cons (ps_if (pt_cmpR op_eq (pv 5) pe_int (nomark _)) (pss_one (ps_set (i := 4) sc_l_road.nd rfl (Or.inl rfl) (pe_op op_catC (pe_slice sl_tupC (pv 4) po_none (po_some (pe_un un_neg pe_int))) (pe_tupC (pa_cons (pe_has G_l_index hr (pa_cons (pv 0) pa_nil)) pa_nil))))) pss_nil) (pss_cons (ps_if (pt_cmpR op_eq (pv 5) pe_int (nomark _)) (pss_one (ps_set (i := 4) sc_l_road.nd rfl (Or.inl rfl) (pe_op op_catC (pv 4) (pe_tupC (pa_cons (pe_has G_l_index hr (pa_cons (pv 0) pa_nil)) pa_nil))))) pss_nil) (pss_cons (ps_if (pt_cmpR op_eq (pv 5) pe_int (nomark _)) (pss_one (ps_set (i := 4) sc_l_road.nd rfl (Or.inl rfl) (pe_callTy call_tupC rfl B.tup (by decide +kernel) (pa_cons (pe_lc (own := [("_law_k", 6)]) (g := gName 6) rfl sc_l_road.nd (pi_range1 rfl B.rng (pa_cons (pe_has G_l_take hr (pa_cons (pv 0) (pa_cons pe_int pa_nil))) pa_nil)) (blkOk_by (own := [("_law_k", 6)]) (N := N_l_road) (sc := defScope (top 51)) (by decide +kernel)) (fun _ _ _ _ _ => pg_name (i := 6) sc_l_road.nd rfl (Or.inl rfl)) (fun _ _ _ _ _ => pts_nil) (fun _ _ _ _ _ => (pe_has G_l_index hr (pa_cons (pv 0) pa_nil)))) pa_nil)))) pss_nil) (pss_one (ps_ret (pv 4)))))))))), ?_⟩
  refine seq_asgN ⟨_, rfl, _, rfl, _, rfl, p, q, b, v, d, wd, rfl, g, by omega, rep, ip, ib, fun l gs H1 lp lq hl gl hg e1 g1 => ?_⟩
  refine seq_asgN ⟨Nat.zero_le _, fun t H2 n2 e2 h2 => ?_⟩
  have g2 := g1.ex e2
  have e02 := e1.to e2
  have hl2 := e2.ex hl
  refine seq_cut (fun σ' H' => ∃ r, σ' = [some (.ref p), some v, some (.str wd), some (.ref l), some (.ref r), none, none] ∧ RdI H p q (b + 2) 21 r H') (fun N hN => ?_) ?_
  · refine ⟨_, rfl, _, _, rfl, lenL hl2, _, _, rfl, rfl, _, rfl, ite2 (fun c => ?_) (fun _ => hN _ _ ⟨t, rfl, ⟨[], h2, by simp⟩, e02, g2.mono (by omega)⟩)⟩
    have c' : (0 : Int) < (gs.length : Int) := of_decide_eq_true c
    refine ⟨_, rfl, _, rfl, _, rfl, _, _, rfl, lenL hl2, p, q, _, _, rfl, g2, by omega, by omega, by omega, fun r H3 r0 r1 e3 g3 => ?_⟩
    have lt : r.toNat < gs.length := by omega
    have zx : gs[r.toNat]? = some gs[r.toNat] := List.getElem?_eq_getElem lt
    obtain ⟨q', p', hq, hp', lp'⟩ := (hg _ (List.getElem_mem lt)).chg (e2.of.trans e3)
    refine ⟨l, gs, r, _, rfl, rfl, e3.keep _ _ hl2 (nm2 lp lq), at_nat r0 zx, ?_⟩
    rw [hq]
    exact hN _ _ ⟨q', rfl, ⟨p', hp', lp'⟩, e02.trans e3, g3⟩
  rintro σ3 H3 ⟨r, rfl, ⟨pth, hr3, lr3⟩, e3, g3⟩
  refine seq_asgN ⟨_, rfl, p, q, _, 8, rfl, g3, by omega, by decide, by decide, fun way H4 a0 a1 e4 g4 => ?_⟩
  refine seq_cut (fun σ' H' => ∃ r, σ' = [some (.ref p), some v, some (.str wd), some (.ref l), some (.ref r), some (.int way), none] ∧ RdI H p q (b + 5) 21 r H') (fun N hN => ?_) ?_
  · refine ⟨_, rfl, rfl, _, rfl, ite2 (fun c => ?_) (fun _ => hN _ _ ⟨r, rfl, ⟨pth, e4.tup hr3, lr3⟩, e3.trans e4, g4.mono (by omega)⟩)⟩
    refine ⟨_, rfl, _, rfl, _, rfl, r, _, rfl, e4.tup hr3, fun p5 H5 e5 h5 => ?_⟩
    rw [cut_last, List.dropLast_eq_take, ← List.map_take] at h5
    refine ⟨_, rfl, p, q, _, rfl, g4.ex e5, by omega, fun i H6 e6 g6 => ⟨by show 1 ≤ sizeLine; decide, fun p7 H7 n7 e7 h7 => ⟨p5, p7, _, _, rfl, rfl, e7.ex (e6.tup h5), h7, ?_, fun p8 H8 e8 h8 => ?_⟩⟩⟩
    · refine sz ?_
      rw [List.length_map, List.length_take]
      show min _ _ + 1 ≤ _
      omega
    · refine hN _ _ ⟨p8, rfl, ⟨_ ++ [i], by rw [h8, List.map_append]; rfl, ?_⟩, (((e3.trans e4).to e5).trans e6).to (e7.trans e8), ((g6.ex e7).ex e8).mono (by omega)⟩
      rw [List.length_append, List.length_take, List.length_map]
      show min (pth.length - 1) pth.length + 1 ≤ 21
      omega
  rintro σ5 H5 ⟨r5, rfl, ⟨pth5, hr5, lr5⟩, e5, g5⟩
  refine seq_cut (fun σ' H' => ∃ r, σ' = [some (.ref p), some v, some (.str wd), some (.ref l), some (.ref r), some (.int way), none] ∧ RdI H p q (b + 7) 22 r H') (fun N hN => ?_) ?_
  · refine ⟨_, rfl, rfl, _, rfl, ite2 (fun c => ?_) (fun _ => hN _ _ ⟨r5, rfl, ⟨pth5, hr5, by omega⟩, e5, g5.mono (by omega)⟩)⟩
    refine ⟨_, rfl, _, rfl, p, q, _, rfl, g5, by omega, fun i H6 e6 g6 => ⟨by show 1 ≤ sizeLine; decide, fun p7 H7 n7 e7 h7 => ⟨r5, p7, _, _, rfl, rfl, e7.ex (e6.tup hr5), h7, sz (by rw [List.length_map]; show _ + 1 ≤ _; omega), fun p8 H8 e8 h8 => ?_⟩⟩⟩
    exact hN _ _ ⟨p8, rfl, ⟨pth5 ++ [i], by rw [h8, List.map_append]; rfl, by rw [List.length_append]; show _ + 1 ≤ _; omega⟩, (e5.trans e6).to (e7.trans e8), ((g6.ex e7).ex e8).mono (by omega)⟩
  rintro σ6 H6 ⟨r6, rfl, ⟨pth6, hr6, lr6⟩, e6, g6⟩
  refine seq_cut (fun σ' H' => ∃ r v6, σ' = [some (.ref p), some v, some (.str wd), some (.ref l), some (.ref r), some (.int way), v6] ∧ RdI H p q (b + 30) 22 r H') (fun N hN => ?_) ?_
  · refine ⟨_, rfl, rfl, _, rfl, ite2 (fun c => ?_) (fun _ => hN _ _ ⟨r6, _, rfl, ⟨pth6, hr6, lr6⟩, e6, g6.mono (by omega)⟩)⟩
    refine ⟨_, rfl, p, q, _, 9, rfl, g6, by omega, by decide, by decide, fun m H7 m0 m1 e7 g7 => ⟨m, rfl, by omega, by omega, fun D nD => lc_range (lo := 0) (n := m.toNat) (IK p q (b + 7 + 1) H7 D) (IK.start g7 nD) (fun j H8 hj h8 => ⟨rfl, ?_⟩) ?_⟩⟩
    · refine ⟨_, rfl, p, q, _, rfl, h8.gd, by omega, fun i H9 e9 g9 => ?_⟩
      exact h8.next nD (nm2 (g7.nep nD) (g7.neq nD)) (by omega) e9 g9
    · intro H8 h8
      obtain ⟨pth8, k1, k2⟩ := h8.lst
      refine ⟨D, _, rfl, SqL.of k1, fun t9 H9 e9 h9 => ?_⟩
      exact hN _ _ ⟨t9, _, rfl, ⟨pth8, h9, by omega⟩, ((e6.trans e7).trans h8.chg).to e9, (h8.gd.ex e9).mono (by omega)⟩
  rintro σ7 H7 ⟨r7, v6, rfl, ⟨pth7, hr7, lr7⟩, e7, g7⟩
  exact ⟨_, rfl, z r7 pth7 H7 hr7 lr7 e7 g7⟩
end
end K7

/-! ## K7X4 -/
/-! The law's edits made. -/
namespace K7
open PySem PySem.Spec PyProof.Rows L2
section
variable {P : Program} {w : World} {K : PySem.W.Frag} {mg : Str → Option Value} {base : Heap} {k : Nat}

/-! ### _law_filled -/
abbrev N_l_filled : List Str := ["_law_pool_here", "_law_names", "_law_word", "_law_path", "_law_count", "_law_kind"]
theorem sc_l_filled : FnScope N_l_filled ["_law_pool_here", "_law_names", "_law_word", "_law_path"] (defScope (top 52)) := ⟨rfl, rfl, rfl, by decide +kernel, rfl, by decide +kernel, by decide +kernel⟩
def words : List Str := ["put", "take", "text", "kind", "marks", "wrap", "open"]
def spFilled : Sp := fun vs H Q _ => ∃ (p q pr : Addr) (b : Nat) (wd : Str) (pth : List Int), vs = [.ref p, .ref q, .str wd, .ref pr] ∧ wd ∈ words ∧ Gd H p q b ∧ b ≤ 2000000 ∧ H pr = some (.tup (pth.map V.int)) ∧
  ∀ e a rr H', RepE H' e a pr rr → e.path = pth → EdOk e → Chg [p, q] H H' → Gd H' p q (b + 12300) → Q (.ref a) H'
theorem word_cases {wd : Str} (h : wd ∈ words) : wd = "put" ∨ wd = "take" ∨ wd = "text" ∨ wd = "kind" ∨ wd = "marks" ∨ wd = "wrap" ∨ wd = "open" := by
  simpa [words] using h
theorem ok_filled (D : Df K mg "_law_filled" (top 52)) (B : Bn mg) (G_l_take : Has P w K mg base k "_law_take" spTakeG) (G_l_name : Has P w K mg base k "_law_name" spNameG) (G_l_marks : Has P w K mg base k "_law_marks" spMarks)
    (G_l_text : Has P w K mg base k "_law_text" spText) (G_l_item : Has P w K mg base k "_law_item" (spItemT 1)) (G_l_index : Has P w K mg base k "_law_index" spIndex) : Has P w K mg base (k + 1) "_law_filled" spFilled := by
  refine D.has sc_l_filled (fun _ _ _ _ _ _ us hl => match us, hl with | [_, _, _, _], _ => rfl) (fun vs H Q E h => ?_) (fun f cdv A outer s H vs Q E hr h => ?_)
  · obtain ⟨p, q, pr, b, wd, pth, rfl, _⟩ := h
    rfl
  obtain ⟨p, q, pr, b, wd, pth, rfl, hw, g, hb, hp, z⟩ := h
  refine ⟨_, (pss_cons (ps_if (pt_cmpR op_eq (pv 2) pe_str (nomark _)) (pss_one (ps_ret (pe_tupC (pa_cons (pv 2) (pa_cons (pv 3) (pa_cons (pe_has G_l_item hr (pa_cons (pv 0) (pa_cons (pv 1) (pa_cons (pe_lstC (pa_cons pe_int (pa_cons pe_int (pa_cons pe_int (pa_cons pe_int (pa_cons pe_int pa_nil)))))) (pa_cons pe_int pa_nil))))) pa_nil)))))) pss_nil) (pss_cons (ps_if (pt_cmpR op_eq (pv 2) pe_str (nomark _)) (pss_one (ps_ret (pe_tupC (pa_cons (pv 2) (pa_cons (pv 3) (pa_cons (pe_has G_l_text hr (pa_cons (pv 0) (pa_cons (pe_lstC (pa_cons pe_int (pa_cons pe_int pa_nil))) pa_nil))) pa_nil)))))) pss_nil) (pss_cons (ps_if (pt_cmpR op_eq (pv 2) pe_str (nomark _)) (pss_one (ps_ret (pe_tupC (pa_cons (pv 2) (pa_cons (pv 3) (pa_cons (pe_has G_l_name hr (pa_cons (pv 0) (pa_cons (pv 1) pa_nil))) pa_nil)))))) pss_nil) (pss_cons (ps_if (pt_cmpR op_eq (pv 2) pe_str (nomark _)) (pss_one (ps_ret (pe_tupC (pa_cons (pv 2) (pa_cons (pv 3) (pa_cons (pe_has G_l_marks hr (pa_cons (pv 0) (pa_cons (pv 1) pa_nil))) pa_nil)))))) pss_nil) (pss_cons (ps_if (pt_cmpR op_eq (pv 2) pe_str (nomark _)) (pss_cons (ps_set (i := 4) sc_l_filled.nd rfl (Or.inl rfl) (pe_has G_l_take hr (pa_cons (pv 0) (pa_cons pe_int pa_nil)))) (pss_cons (ps_if (pt_cmpR op_eq (pv 4) pe_int (nomark _)) (pss_one (ps_set (i := 4) sc_l_filled.nd rfl (Or.inl rfl) (pe_has G_l_index hr (pa_cons (pv 0) pa_nil)))) pss_nil) (pss_cons (ps_set (i := 5) sc_l_filled.nd rfl (Or.inl rfl) (pe_has G_l_name hr (pa_cons (pv 0) (pa_cons (pv 1) pa_nil)))) (pss_one (ps_ret (pe_tupC (pa_cons (pv 2) (pa_cons (pv 3) (pa_cons (pv 4) (pa_cons (pv 5) (pa_cons (pe_has G_l_marks hr (pa_cons (pv 0) (pa_cons (pv 1) pa_nil))) pa_nil))))))))))) pss_nil) (pss_one (ps_ret (pe_tupC (pa_cons (pv 2) (pa_cons (pv 3) pa_nil)))))))))), ?_⟩
  rcases word_cases hw with rfl | rfl | rfl | rfl | rfl | rfl | rfl
  · refine ⟨_, rfl, rfl, _, rfl, word_yes rfl ?_⟩
    refine ⟨_, rfl, _, rfl, _, rfl, _, rfl, by show 5 ≤ sizeLine; decide, fun bu H1 n1 e1 h1 => ?_⟩
    have g1 := g.ex e1
    have np := g.nep n1
    have nq := g.neq n1
    refine ⟨p, q, bu, b, 59, 400, 3, 1, rfl, by decide, ⟨g1, h1, np, nq, by decide, by decide, by decide, by omega, by decide, by decide⟩, fun v d H2 x' y' z' o => ⟨by show 3 ≤ sizeLine; decide, fun a H3 n3 e3 h3 => ?_⟩⟩
    have c2 : Chg [p, q] H H2 := Chg.hide (Chg.of e1) o.chg (by
      intro x hx
      rcases List.mem_cons.mp hx with e | hx
      · rw [e]; simp
      · rcases List.mem_cons.mp hx with e | hx
        · rw [e]; simp
        · exact .inr (List.mem_singleton.mp hx)) n1
    have ht := o.ht
    refine z (.put pth d) a [v] H3 ⟨h3, e3.ex (c2.tup hp), v, rfl, o.rep.chg e3⟩ rfl ⟨o.good.sh, by omega⟩ (c2.to e3) ((o.gd.ex e3).mono (by have := o.xx; omega))
  · refine seq_if ⟨_, rfl, rfl, _, rfl, word_no (by decide) ?_⟩
    refine seq_if ⟨_, rfl, rfl, _, rfl, word_no (by decide) ?_⟩
    refine seq_if ⟨_, rfl, rfl, _, rfl, word_no (by decide) ?_⟩
    refine seq_if ⟨_, rfl, rfl, _, rfl, word_no (by decide) ?_⟩
    refine seq_if ⟨_, rfl, rfl, _, rfl, word_no (by decide) ?_⟩
    refine ⟨_, rfl, _, rfl, by show 2 ≤ sizeLine; decide, fun a H3 n3 e3 h3 => ?_⟩
    exact z (.take pth) a [] H3 ⟨h3, e3.ex hp, rfl⟩ rfl trivial (Chg.of e3) ((g.ex e3).mono (by omega))
  · refine seq_if ⟨_, rfl, rfl, _, rfl, word_no (by decide) ?_⟩
    refine ⟨_, rfl, rfl, _, rfl, word_yes rfl ?_⟩
    refine ⟨_, rfl, _, rfl, _, rfl, by show 2 ≤ sizeLine; decide, fun bu H1 n1 e1 h1 => ?_⟩
    have g1 := g.ex e1
    have np := g.nep n1
    have nq := g.neq n1
    obtain ⟨npq, ⟨c, k1, k2⟩, ⟨j, k3, k4⟩⟩ := id g1
    refine ⟨p, bu, c, 60, .int 0, [], rfl, np.symm, k2, by omega, h1, by decide, by decide, fun s H2 c' y' l1 l2 sg ey c2 k5 k6 h2 => ⟨by show 3 ≤ sizeLine; decide, fun a H3 n3 e3 h3 => ?_⟩⟩
    have c2' : Chg [p, q] H H2 := Chg.hide (Chg.of e1) c2 (by
      intro x hx
      rcases List.mem_cons.mp hx with e | hx
      · rw [e]; simp
      · exact .inr (List.mem_singleton.mp hx)) n1
    have g2 : Gd H2 p q (b + 70) := ⟨npq, ⟨c', by omega, k5⟩, ⟨j, by omega, k4.chg c2 (nm2 npq.symm nq.symm)⟩⟩
    exact z (.text pth s) a [.str s] H3 ⟨h3, e3.ex (c2'.tup hp), rfl⟩ rfl l2 (c2'.to e3) ((g2.ex e3).mono (by omega))
  · refine seq_if ⟨_, rfl, rfl, _, rfl, word_no (by decide) ?_⟩
    refine seq_if ⟨_, rfl, rfl, _, rfl, word_no (by decide) ?_⟩
    refine ⟨_, rfl, rfl, _, rfl, word_yes rfl ?_⟩
    refine ⟨_, rfl, _, rfl, _, rfl, _, rfl, p, q, b, rfl, g, by omega, fun s H2 ok e2 g2 => ⟨by show 3 ≤ sizeLine; decide, fun a H3 n3 e3 h3 => ?_⟩⟩
    exact z (.kind pth s) a [.str s] H3 ⟨h3, e3.ex (e2.tup hp), rfl⟩ rfl trivial (e2.to e3) ((g2.ex e3).mono (by omega))
  · refine seq_if ⟨_, rfl, rfl, _, rfl, word_no (by decide) ?_⟩
    refine seq_if ⟨_, rfl, rfl, _, rfl, word_no (by decide) ?_⟩
    refine seq_if ⟨_, rfl, rfl, _, rfl, word_no (by decide) ?_⟩
    refine ⟨_, rfl, rfl, _, rfl, word_yes rfl ?_⟩
    refine ⟨_, rfl, _, rfl, _, rfl, _, rfl, p, q, b, rfl, g, by omega, fun m ms H2 hm sg e2 g2 => ⟨by show 3 ≤ sizeLine; decide, fun a H3 n3 e3 h3 => ?_⟩⟩
    exact z (.marks pth ms) a [.ref m] H3 ⟨h3, e3.ex (e2.tup hp), m, rfl, e3.ex hm⟩ rfl trivial (e2.to e3) ((g2.ex e3).mono (by omega))
  · refine seq_if ⟨_, rfl, rfl, _, rfl, word_no (by decide) ?_⟩
    refine seq_if ⟨_, rfl, rfl, _, rfl, word_no (by decide) ?_⟩
    refine seq_if ⟨_, rfl, rfl, _, rfl, word_no (by decide) ?_⟩
    refine seq_if ⟨_, rfl, rfl, _, rfl, word_no (by decide) ?_⟩
    refine ⟨_, rfl, rfl, _, rfl, word_yes rfl ?_⟩
    refine seq_asgN ⟨_, rfl, p, q, b, 5, rfl, g, by omega, by decide, by decide, fun r H1 r0 r1 e1 g1 => ?_⟩
    refine seq_cut (fun σ' H' => ∃ n : Int, σ' = [some (.ref p), some (.ref q), some (.str "wrap"), some (.ref pr), some (.int n), none] ∧ Chg [p, q] H H' ∧ Gd H' p q (b + 5)) (fun N hN => ?_) ?_
    · refine ⟨_, rfl, rfl, _, rfl, ite2 (fun c => ?_) (fun _ => hN _ _ ⟨r, rfl, e1, g1.mono (by omega)⟩)⟩
      refine ⟨_, rfl, p, q, _, rfl, g1, by omega, fun i H2 e2 g2 => ?_⟩
      exact hN _ _ ⟨i, rfl, e1.trans e2, g2.mono (by omega)⟩
    rintro σ2 H2 ⟨n, rfl, e2, g2⟩
    refine seq_asgN ⟨_, rfl, _, rfl, p, q, _, rfl, g2, by omega, fun s H3 ok e3 g3 => ?_⟩
    refine ⟨_, rfl, _, rfl, _, rfl, _, rfl, _, rfl, _, rfl, p, q, _, rfl, g3, by omega, fun m ms H4 hm sg e4 g4 => ⟨by show 5 ≤ sizeLine; decide, fun a H5 n5 e5 h5 => ?_⟩⟩
    have e04 := (e2.trans e3).trans e4
    exact z (.wrap pth n s ms) a [.int n, .str s, .ref m] H5 ⟨h5, e5.ex (e04.tup hp), m, rfl, e5.ex hm⟩ rfl trivial (e04.to e5) ((g4.ex e5).mono (by omega))
  · refine seq_if ⟨_, rfl, rfl, _, rfl, word_no (by decide) ?_⟩
    refine seq_if ⟨_, rfl, rfl, _, rfl, word_no (by decide) ?_⟩
    refine seq_if ⟨_, rfl, rfl, _, rfl, word_no (by decide) ?_⟩
    refine seq_if ⟨_, rfl, rfl, _, rfl, word_no (by decide) ?_⟩
    refine seq_if ⟨_, rfl, rfl, _, rfl, word_no (by decide) ?_⟩
    refine ⟨_, rfl, _, rfl, by show 2 ≤ sizeLine; decide, fun a H3 n3 e3 h3 => ?_⟩
    exact z (.opn pth) a [] H3 ⟨h3, e3.ex hp, rfl⟩ rfl trivial (Chg.of e3) ((g.ex e3).mono (by omega))

/-! ### _law_edit -/
abbrev N_l_edit : List Str := ["_law_pool_here", "_law_root", "_law_names", "_law_word", "_law_path"]
theorem sc_l_edit : FnScope N_l_edit ["_law_pool_here", "_law_root", "_law_names"] (defScope (top 53)) := ⟨rfl, rfl, rfl, by decide +kernel, rfl, by decide +kernel, by decide +kernel⟩
def spEdit : Sp := fun vs H Q _ => ∃ (p q : Addr) (b : Nat) (v : V) (d : It), vs = [.ref p, v, .ref q] ∧ Gd H p q b ∧ b ≤ 1000000 ∧ Rep H d v ∧ isPart d = true ∧ InB d ∧
  ∀ e a pr rr H', RepE H' e a pr rr → e.path.length ≤ 22 → EdOk e → Chg [p, q] H H' → Gd H' p q (b + 12400) → Q (.ref a) H'
theorem word_at {r : Int} (h0 : 0 ≤ r) (h1 : r < 7) : ∃ wd, wd ∈ words ∧ atI (words.map V.str) r = some (.str wd) := by
  have hl : r.toNat < words.length := by show r.toNat < 7; omega
  exact ⟨words[r.toNat], List.getElem_mem hl, at_nat h0 (by rw [List.getElem?_map, List.getElem?_eq_getElem hl]; rfl)⟩
theorem ok_edit (D : Df K mg "_law_edit" (top 53)) (B : Bn mg) (G_l_take : Has P w K mg base k "_law_take" spTakeG) (G_l_road : Has P w K mg base k "_law_road" spRoad) (G_l_filled : Has P w K mg base k "_law_filled" spFilled) : Has P w K mg base (k + 1) "_law_edit" spEdit := by
  refine D.has sc_l_edit (fun _ _ _ _ _ _ us hl => match us, hl with | [_, _, _], _ => rfl) (fun vs H Q E h => ?_) (fun f cdv A outer s H vs Q E hr h => ?_)
  · obtain ⟨p, q, b, v, d, rfl, _⟩ := h
    rfl
  obtain ⟨p, q, b, v, d, rfl, g, hb, rep, ip, ib, z⟩ := h
  refine ⟨_, (pss_cons (ps_set (i := 3) sc_l_edit.nd rfl (Or.inl rfl) (pe_ix ix_lstC (pe_lstC (pa_cons pe_str (pa_cons pe_str (pa_cons pe_str (pa_cons pe_str (pa_cons pe_str (pa_cons pe_str (pa_cons pe_str pa_nil)))))))) (pe_has G_l_take hr (pa_cons (pv 0) (pa_cons pe_int pa_nil))) (fun _ _ => rfl))) (pss_cons (ps_set (i := 4) sc_l_edit.nd rfl (Or.inl rfl) (pe_has G_l_road hr (pa_cons (pv 0) (pa_cons (pv 1) (pa_cons (pv 3) pa_nil))))) (pss_one (ps_ret (pe_has G_l_filled hr (pa_cons (pv 0) (pa_cons (pv 2) (pa_cons (pv 3) (pa_cons (pv 4) pa_nil))))))))), ?_⟩
  refine seq_asgN ⟨by show 7 ≤ sizeLine; decide, fun l H1 n1 e1 h1 => ?_⟩
  have g1 := g.ex e1
  refine ⟨_, rfl, p, q, b, 7, rfl, g1, by omega, by decide, by decide, fun r H2 r0 r1 e2 g2 => ?_⟩
  obtain ⟨wd, hw, hat⟩ := word_at r0 r1
  refine ⟨l, _, r, _, rfl, rfl, e2.keep _ _ h1 (nm2 (g.nep n1) (g.neq n1)), hat, ?_⟩
  have e02 := (Chg.of e1).trans e2
  refine seq_asgN ⟨_, rfl, _, rfl, _, rfl, p, q, _, v, d, wd, rfl, g2, by omega, rep.chg e02, ip, ib, fun pr pth H3 h3 l3 e3 g3 => ?_⟩
  refine ⟨_, rfl, _, rfl, _, rfl, _, rfl, p, q, pr, _, wd, pth, rfl, hw, g3, by omega, h3, fun e a rr H4 re ep ok e4 g4 => ?_⟩
  exact z e a pr rr H4 re (by rw [ep]; exact l3) ok ((e02.trans e3).trans e4) (g4.mono (by omega))
end
end K7

/-! ## K7X5 -/
/-! The program's parts: item_at and its like. -/
namespace K7
open PySem PySem.Spec PyProof.Rows L2
section
variable {P : Program} {w : World} {K : PySem.W.Frag} {mg : Str → Option Value} {base : Heap} {k : Nat}

/-! ### is_part -/
abbrev N_is_part : List Str := ["item"]
theorem sc_is_part : FnScope N_is_part ["item"] (defScope (top 10)) := ⟨rfl, rfl, rfl, by decide +kernel, rfl, by decide +kernel, by decide +kernel⟩
def spIsPart : Sp := fun vs H Q _ => ∃ (v : V) (d : It), vs = [v] ∧ Rep H d v ∧ Q (.bl (isPart d)) H
theorem ok_is_part (D : Df K mg "is_part" (top 10)) (B : Bn mg) : Has P w K mg base (k + 1) "is_part" spIsPart := by
  refine D.has sc_is_part (fun _ _ _ _ _ _ us hl => match us, hl with | [_], _ => rfl) (fun vs H Q E h => ?_) (fun f cdv A outer s H vs Q E hr h => ?_)
  · obtain ⟨v, d, rfl, _⟩ := h
    rfl
  obtain ⟨v, d, rfl, rep, z⟩ := h
  refine ⟨_, (pss_one (ps_ret (pe_and (pe_isi .tuple (pv 0) B.isi B.tup) (pe_one (pe_cmpR op_eq (pe_callB (call_lenK (K := K)) rfl B.len PySem.boot_len (pa_cons (pv 0) pa_nil)) pe_int (nomark _)))))), ?_⟩
  cases d with
  | txt s =>
    obtain rfl : v = .str s := rep
    exact ⟨_, rfl, _, .str s, false, rfl, z⟩
  | two t n =>
    obtain ⟨a, rfl, ha⟩ := rep
    exact ⟨_, rfl, _, .tup ha, true, rfl, _, rfl, _, _, rfl, lenT ha, rfl, z⟩
  | part kd ms its =>
    obtain ⟨a, m, r, us, rfl, a1, a2, a3, a4⟩ := rep
    exact ⟨_, rfl, _, .tup a1, true, rfl, _, rfl, _, _, rfl, lenT a1, rfl, z⟩

/-! ### item_at -/
abbrev N_item_at : List Str := ["root", "path", "item", "index"]
theorem sc_item_at : FnScope N_item_at ["root", "path"] (defScope (top 12)) := ⟨rfl, rfl, rfl, by decide +kernel, rfl, by decide +kernel, by decide +kernel⟩
def spItemAt : Sp := fun vs H Q _ => ∃ (v : V) (pa : Addr) (d x : It) (p : List Int), vs = [v, .ref pa] ∧ Rep H d v ∧ H pa = some (.tup (p.map V.int)) ∧ gt p d = some x ∧ ∀ u, Rep H x u → Q u H
theorem gt_pre {p : List Int} {d x : It} (h : gt p d = some x) (i : Nat) : ∃ y, gt (p.take i) d = some y ∧ gt (p.drop i) y = some x := by
  have e : p = p.take i ++ p.drop i := (List.take_append_drop _ _).symm
  have h' : gt (p.take i ++ p.drop i) d = some x := by rw [← e]; exact h
  rw [gt_append] at h'
  cases q : gt (p.take i) d with
  | none => rw [q] at h'; cases h'
  | some y => rw [q] at h'; exact ⟨y, rfl, h'⟩
theorem gt_down {p : List Int} {i : Nat} {j : Int} {y x : It} (e : p[i]? = some j) (h : gt (p.drop i) y = some x) : ∃ kd ms its z, y = .part kd ms its ∧ 0 ≤ j ∧ its[j.toNat]? = some z ∧ gt (p.drop (i + 1)) z = some x := by
  have hi := lt_of_get e
  have ej : p[i] = j := by rw [List.getElem?_eq_getElem hi] at e; exact Option.some.inj e
  rw [List.drop_eq_getElem_cons hi, ej] at h
  exact gt_cons h
theorem ok_item_at (D : Df K mg "item_at" (top 12)) (B : Bn mg) (G_is_part : Has P w K mg base k "is_part" spIsPart) : Has P w K mg base (k + 1) "item_at" spItemAt := by
  refine D.has sc_item_at (fun _ _ _ _ _ _ us hl => match us, hl with | [_, _], _ => rfl) (fun vs H Q E h => ?_) (fun f cdv A outer s H vs Q E hr h => ?_)
  · obtain ⟨v, pa, d, x, p, rfl, _⟩ := h
    rfl
  obtain ⟨v, pa, d, x, p, rfl, rep, hp, hg, z⟩ := h
  refine ⟨_, (pss_cons (ps_set (i := 2) sc_item_at.nd rfl (Or.inl rfl) (pv 0)) (pss_cons (ps_for PassesOwn.never rfl (pi_tup (pv 1)) (pg_name (i := 3) sc_item_at.nd rfl (Or.inl rfl)) (pss_cons (ps_if (pt_not (pt_val (pe_has G_is_part hr (pa_cons (pv 2) pa_nil)))) pss_never pss_nil) (pss_cons (ps_if (pt_not (pt_chain op_le op_lt pe_int (pv 3) (pe_callB (call_lenK (K := K)) rfl B.len PySem.boot_len (pa_cons (pe_ix ix_tupC (pv 2) pe_int (fun _ _ => rfl)) pa_nil)))) pss_never pss_nil) (pss_one (ps_set (i := 2) sc_item_at.nd rfl (Or.inl rfl) (pe_ix ix_tupC (pe_ix ix_tupC (pv 2) pe_int (fun _ _ => rfl)) (pv 3) (fun _ _ => rfl))))))) (pss_one (ps_ret (pv 2))))), ?_⟩
  refine seq_asgN ⟨_, rfl, ?_⟩
  refine ⟨_, rfl, pa, rfl, ⟨_, SqT.of hp⟩, for_tup (K := K) (a := pa) (xs := p.map V.int) (fun i σ' H' => H' = H ∧ ∃ u y v3, σ' = [some v, some (.ref pa), some u, v3] ∧ gt (p.drop i) y = some x ∧ Rep H y u)
    ⟨rfl, v, d, none, rfl, by rw [List.drop_zero]; exact hg, rep⟩ (fun i σ' H' _ ⟨e, _⟩ => by rw [e]; exact SqT.of hp) ?_ ?_⟩
  · rintro i y σ1 H1 hy ⟨rfl, u, y1, v3, rfl, g, r⟩
    obtain ⟨j, rfl, ej⟩ := int_of hy
    obtain ⟨kd, ms, its, y2, rfl, j0, e2, g2⟩ := gt_down ej g
    refine seq_if ⟨_, rfl, u, _, rfl, r, _, rfl, ?_⟩
    obtain ⟨a, m, r2, us, rfl, a1, a2, a3, a4⟩ := r
    refine seq_if ⟨_, rfl, _, _, rfl, rfl, _, rfl, ?_⟩
    refine ite2 (fun _ => ?_) (fun c => absurd (decide_eq_true j0) c)
    have jl := lt_of_get e2
    have ul := a4.length
    refine ⟨_, rfl, a, _, _, _, rfl, rfl, a1, rfl, _, _, rfl, lenT a3, _, _, rfl, rfl, _, rfl, ?_⟩
    refine nay (by rw [decide_eq_true (show j < (us.length : Int) by omega)]; rfl) ?_
    obtain ⟨u2, hu2, ru2⟩ := a4.get e2
    refine ⟨_, rfl, a, _, _, _, rfl, rfl, a1, rfl, _, rfl, _, _, _, _, rfl, rfl, a3, at_nat j0 hu2, ?_⟩
    exact ⟨rfl, u2, y2, _, rfl, g2, ru2⟩
  · rintro σ1 H1 ⟨rfl, u, y1, v3, rfl, g, r⟩
    rw [List.length_map, List.drop_length, gt_nil] at g
    exact ⟨_, rfl, z u (Option.some.inj g ▸ r)⟩

/-! ### part_at -/
abbrev N_part_at : List Str := ["root", "path", "item"]
theorem sc_part_at : FnScope N_part_at ["root", "path"] (defScope (top 13)) := ⟨rfl, rfl, rfl, by decide +kernel, rfl, by decide +kernel, by decide +kernel⟩
def spPartAt : Sp := fun vs H Q _ => ∃ (v : V) (pa : Addr) (d : It) (p : List Int) (kd : Str) (ms : List Str) (its : List It), vs = [v, .ref pa] ∧ Rep H d v ∧ H pa = some (.tup (p.map V.int)) ∧ gt p d = some (.part kd ms its) ∧ ∀ u, Rep H (.part kd ms its) u → Q u H
theorem ok_part_at (D : Df K mg "part_at" (top 13)) (B : Bn mg) (G_is_part : Has P w K mg base k "is_part" spIsPart) (G_item_at : Has P w K mg base k "item_at" spItemAt) : Has P w K mg base (k + 1) "part_at" spPartAt := by
  refine D.has sc_part_at (fun _ _ _ _ _ _ us hl => match us, hl with | [_, _], _ => rfl) (fun vs H Q E h => ?_) (fun f cdv A outer s H vs Q E hr h => ?_)
  · obtain ⟨v, pa, d, p, kd, ms, its, rfl, _⟩ := h
    rfl
  obtain ⟨v, pa, d, p, kd, ms, its, rfl, rep, hp, hg, z⟩ := h
  refine ⟨_, (pss_cons (ps_set (i := 2) sc_part_at.nd rfl (Or.inl rfl) (pe_has G_item_at hr (pa_cons (pv 0) (pa_cons (pv 1) pa_nil)))) (pss_cons (ps_if (pt_not (pt_val (pe_has G_is_part hr (pa_cons (pv 2) pa_nil)))) pss_never pss_nil) (pss_one (ps_ret (pv 2))))), ?_⟩
  refine seq_asgN ⟨_, rfl, _, rfl, v, pa, d, _, p, rfl, rep, hp, hg, fun u ru => ?_⟩
  refine seq_if ⟨_, rfl, u, _, rfl, ru, _, rfl, ?_⟩
  exact ⟨_, rfl, z u ru⟩

/-! ### owner_at -/
abbrev N_owner_at : List Str := ["root", "path"]
theorem sc_owner_at : FnScope N_owner_at ["root", "path"] (defScope (top 17)) := ⟨rfl, rfl, rfl, by decide +kernel, rfl, by decide +kernel, by decide +kernel⟩
def spOwnerAt : Sp := fun vs H Q _ => ∃ (v : V) (pa : Addr) (d : It) (q : List Int) (i : Int) (kd : Str) (ms : List Str) (its : List It), vs = [v, .ref pa] ∧ Rep H d v ∧ H pa = some (.tup ((q ++ [i]).map V.int)) ∧ gt q d = some (.part kd ms its) ∧
  ∀ u H', Ex H H' → Rep H' (.part kd ms its) u → Q u H'
theorem cut_row {q : List Int} {i : Int} : cutV ((q ++ [i]).map V.int) none (some (-1)) = q.map V.int := by
  rw [cut_last, List.map_append, List.map_cons, List.map_nil, List.dropLast_concat]
theorem ok_owner_at (D : Df K mg "owner_at" (top 17)) (B : Bn mg) (G_part_at : Has P w K mg base k "part_at" spPartAt) : Has P w K mg base (k + 1) "owner_at" spOwnerAt := by
  refine D.has sc_owner_at (fun _ _ _ _ _ _ us hl => match us, hl with | [_, _], _ => rfl) (fun vs H Q E h => ?_) (fun f cdv A outer s H vs Q E hr h => ?_)
  · obtain ⟨v, pa, d, q, i, kd, ms, its, rfl, _⟩ := h
    rfl
  obtain ⟨v, pa, d, q, i, kd, ms, its, rfl, rep, hp, hg, z⟩ := h
  refine ⟨_, (pss_cons (ps_if (pt_cmpR op_eq (pe_callB (call_lenK (K := K)) rfl B.len PySem.boot_len (pa_cons (pv 1) pa_nil)) pe_int (nomark _)) pss_never pss_nil) (pss_one (ps_ret (pe_has G_part_at hr (pa_cons (pv 0) (pa_cons (pe_slice sl_tupC (pv 1) po_none (po_some (pe_un un_neg pe_int))) pa_nil)))))), ?_⟩
  refine seq_if ⟨_, rfl, _, _, rfl, lenT hp, rfl, _, rfl, ?_⟩
  refine ite2 (fun c => absurd (of_decide_eq_true c) (by intro q'; have q2 := V.int.inj q'; rw [List.length_map, List.length_append, List.length_singleton] at q2; omega)) (fun _ => ?_)
  refine ⟨_, rfl, _, rfl, _, rfl, _, rfl, pa, _, rfl, hp, fun p1 H1 e1 h1 => ?_⟩
  rw [cut_row] at h1
  exact ⟨v, p1, d, q, kd, ms, its, rfl, rep.chg e1, h1, hg, fun u ru => z u H1 e1 ru⟩

/-! ### with_item -/
abbrev N_with_item : List Str := ["root", "path", "item", "length", "owner", "index", "row"]
theorem sc_with_item : FnScope N_with_item ["root", "path", "item"] (defScope (top 14)) := ⟨rfl, rfl, rfl, by decide +kernel, rfl, by decide +kernel, by decide +kernel⟩
def spWithItem : Sp := fun vs H Q _ => ∃ (v : V) (pa : Addr) (xv : V) (d x y : It) (p : List Int), vs = [v, .ref pa, xv] ∧ Rep H d v ∧ H pa = some (.tup (p.map V.int)) ∧ Rep H x xv ∧ gt p d = some y ∧ wid d ≤ 1000 ∧ p.length ≤ 40 ∧
  ∀ u H', Ex H H' → Rep H' (sw p x d) u → Q u H'
theorem ok_with_item (D : Df K mg "with_item" (top 14)) (B : Bn mg) (G_part_at : Has P w K mg base k "part_at" spPartAt) : Has P w K mg base (k + 1) "with_item" spWithItem := by
  refine D.has sc_with_item (fun _ _ _ _ _ _ us hl => match us, hl with | [_, _, _], _ => rfl) (fun vs H Q E h => ?_) (fun f cdv A outer s H vs Q E hr h => ?_)
  · obtain ⟨v, pa, xv, d, x, y, p, rfl, _⟩ := h
    rfl
  obtain ⟨v, pa, xv, d, x, y, p, rfl, rep, hp, rx, hg, hw, hl, z⟩ := h
  refine ⟨_, (pss_cons (ps_for PassesOwn.never rfl (pi_range3 rfl B.rng (pa_cons (pe_op op_sub (pe_callB (call_lenK (K := K)) rfl B.len PySem.boot_len (pa_cons (pv 1) pa_nil)) pe_int) (pa_cons (pe_un un_neg pe_int) (pa_cons (pe_un un_neg pe_int) pa_nil)))) (pg_name (i := 3) sc_with_item.nd rfl (Or.inl rfl)) (pss_cons (ps_set (i := 4) sc_with_item.nd rfl (Or.inl rfl) (pe_has G_part_at hr (pa_cons (pv 0) (pa_cons (pe_slice sl_tupC (pv 1) po_none (po_some (pv 3))) pa_nil)))) (pss_cons (ps_set (i := 5) sc_with_item.nd rfl (Or.inl rfl) (pe_ix ix_tupC (pv 1) (pv 3) (fun _ _ => rfl))) (pss_cons (ps_set (i := 6) sc_with_item.nd rfl (Or.inl rfl) (pe_op op_catC (pe_op op_catC (pe_slice sl_tupC (pe_ix ix_tupC (pv 4) pe_int (fun _ _ => rfl)) po_none (po_some (pv 5))) (pe_tupC (pa_cons (pv 2) pa_nil))) (pe_slice sl_tupC (pe_ix ix_tupC (pv 4) pe_int (fun _ _ => rfl)) (po_some (pe_op op_add (pv 5) pe_int)) po_none))) (pss_one (ps_set (i := 2) sc_with_item.nd rfl (Or.inl rfl) (pe_tupC (pa_cons (pe_ix ix_tupC (pv 4) pe_int (fun _ _ => rfl)) (pa_cons (pe_ix ix_tupC (pv 4) pe_int (fun _ _ => rfl)) (pa_cons (pv 6) pa_nil)))))))))) (pss_one (ps_ret (pv 2)))), ?_⟩
  have rg : RgC (((p.map V.int).length : Nat) - 1 : Int) (-1) (-1) p.length := by
    have h := RgC.neg (i := (((p.map V.int).length : Nat) - 1 : Int)) (j := -1) (by rw [List.length_map]; omega) (by rw [List.length_map]; omega) (by decide) (by decide)
    rw [show ((((p.map V.int).length : Nat) - 1 : Int) - (-1)).toNat = p.length by rw [List.length_map]; omega] at h
    exact h
  refine ⟨_, rfl, _, _, rfl, lenT hp, _, _, rfl, rfl, _, rfl, _, rfl, _, _, _, p.length, rfl, rg, for_rangeC (n := p.length) (fun i σ' H' => ∃ u yl v3 v4 v5 v6, σ' = [some v, some (.ref pa), some u, v3, v4, v5, v6] ∧ Ex H H' ∧ gt (p.take (p.length - i)) d = some yl ∧ Rep H' (sw (p.drop (p.length - i)) x yl) u)
    ⟨xv, y, none, none, none, none, rfl, Chg.refl _, by rw [Nat.sub_zero, List.take_length]; exact hg, by rw [Nat.sub_zero, List.drop_length, sw_nil]; exact rx⟩ ?_ ?_⟩
  · rintro i σ1 H1 hi ⟨u, yl, v3, v4, v5, v6, rfl, e1, g1, r1⟩
    obtain ⟨l, hl', el⟩ : ∃ l, p.length - i = l + 1 ∧ p.length - (i + 1) = l := ⟨p.length - i - 1, by omega, by omega⟩
    rw [hl'] at g1 r1
    have lp : l < p.length := by omega
    have ej : p[l]? = some p[l] := List.getElem?_eq_getElem lp
    have ei : (((p.map V.int).length : Nat) - 1 : Int) + (i : Nat) * (-1) = (l : Int) := by rw [List.length_map]; omega
    rw [take_succ' ej, gt_append] at g1
    obtain ⟨o, go⟩ : ∃ o, gt (p.take l) d = some o := by
      cases q : gt (p.take l) d with
      | none => rw [q] at g1; cases g1
      | some o => exact ⟨o, rfl⟩
    rw [go] at g1
    obtain ⟨kd, ms, its, z0, rfl, j0, hz0, gz0⟩ := gt_cons (show gt [p[l]] o = some yl from g1)
    rw [gt_nil] at gz0
    obtain rfl : z0 = yl := Option.some.inj gz0
    have wo := Nat.le_trans (wid_gt go) hw
    rw [wid] at wo
    rw [ei]
    refine seq_asgN ⟨_, rfl, _, rfl, _, rfl, _, rfl, pa, _, rfl, e1.ex hp, fun p2 H2 e2 h2 => ?_⟩
    rw [cut_lo (by omega) (by rw [List.length_map]; omega), show ((l : Int)).toNat = l by omega, ← List.map_take] at h2
    have e02 := e1.trans e2
    refine ⟨v, p2, d, p.take l, kd, ms, its, rfl, rep.chg e02, h2, go, fun u3 ru3 => ?_⟩
    obtain ⟨a, m, r, us, rfl, a1, a2, a3, a4⟩ := ru3
    have ul := a4.length
    have jl := lt_of_get hz0
    refine seq_asgN ⟨_, rfl, _, rfl, pa, _, _, _, rfl, rfl, e02.ex hp, atI_nat (by rw [List.getElem?_map, ej]; rfl), ?_⟩
    refine seq_asgN ⟨_, rfl, a, _, _, _, rfl, rfl, a1, rfl, _, rfl, _, rfl, r, _, rfl, a3, fun p4 H4 e4 h4 => ?_⟩
    rw [cut_lo j0 (by omega)] at h4
    refine ⟨_, rfl, by show 1 ≤ sizeLine; decide, fun p5 H5 n5 e5 h5 => ⟨p4, p5, _, _, rfl, rfl, e5.ex h4, h5, sz (by rw [List.length_take]; show min _ _ + 1 ≤ _; omega), fun p6 H6 e6 h6 => ?_⟩⟩
    have e26 : Ex H2 H6 := (e4.trans e5).trans e6
    refine ⟨_, rfl, a, _, _, _, rfl, rfl, e26.ex a1, rfl, _, rfl, _, _, rfl, rfl, _, rfl, r, _, rfl, e26.ex a3, fun p7 H7 e7 h7 => ?_⟩
    rw [cut_hi (by omega) (by omega), show (p[l] + 1).toNat = p[l].toNat + 1 by omega] at h7
    refine ⟨p6, p7, _, _, rfl, rfl, e7.ex h6, h7, sz (by rw [List.length_append, List.length_take, List.length_drop]; show min _ _ + 1 + _ ≤ _; omega), fun p8 H8 e8 h8 => ?_⟩
    rw [List.append_assoc, ← set_cut (by omega)] at h8
    have e28 := (e26.trans e7).trans e8
    refine ⟨_, rfl, a, _, _, _, rfl, rfl, e28.ex a1, rfl, _, rfl, a, _, _, _, rfl, rfl, e28.ex a1, rfl, _, rfl, by show 3 ≤ sizeLine; decide, fun p9 H9 n9 e9 h9 => ?_⟩
    have e29 := e28.trans e9
    have e09 := e02.trans e29
    refine ⟨.ref p9, .part kd ms its, _, _, _, _, rfl, e09, by rw [el]; exact go, ?_⟩
    rw [el, List.drop_eq_getElem_cons lp, sw_part hz0]
    exact Rep.part h9 (e29.ex a2) (e9.ex h8) ((a4.chg e29).set _ (r1.chg (e2.trans e29)))
  · rintro σ1 H1 ⟨u, yl, v3, v4, v5, v6, rfl, e1, g1, r1⟩
    rw [Nat.sub_self, List.take_zero, gt_nil] at g1
    obtain rfl := Option.some.inj g1
    rw [Nat.sub_self, List.drop_zero] at r1
    exact ⟨_, rfl, z u H1 e1 r1⟩
end
end K7

/-! ## K7X6 -/
/-! The program's deeds. -/
namespace K7
open PySem PySem.Spec PyProof.Rows L2
theorem app_text_some {d d' : It} {p : List Int} {s : Str} (h : app d (.text p s) = some d') : ∃ t, gt p d = some (.txt t) ∧ d' = sw p (.txt s) d := by
  have h1 : (match gt p d with
    | some (.txt _) => some (sw p (.txt s) d)
    | _ => none) = some d' := h
  split at h1
  · rename_i t e
    exact ⟨t, e, (Option.some.inj h1).symm⟩
  · cases h1
theorem app_kind_some {d d' : It} {p : List Int} {s : Str} (h : app d (.kind p s) = some d') : ∃ k m its, gt p d = some (.part k m its) ∧ d' = sw p (.part s m its) d := by
  have h1 : (match gt p d with
    | some (.part _ m its) => some (sw p (.part s m its) d)
    | _ => none) = some d' := h
  split at h1
  · rename_i k m its e
    exact ⟨k, m, its, e, (Option.some.inj h1).symm⟩
  · cases h1
theorem app_marks_some {d d' : It} {p : List Int} {s : List Str} (h : app d (.marks p s) = some d') : ∃ k m its, gt p d = some (.part k m its) ∧ d' = sw p (.part k s its) d := by
  have h1 : (match gt p d with
    | some (.part k _ its) => some (sw p (.part k s its) d)
    | _ => none) = some d' := h
  split at h1
  · rename_i k m its e
    exact ⟨k, m, its, e, (Option.some.inj h1).symm⟩
  · cases h1
theorem ed_put {e : Ed} (h : e.word = "put") : ∃ p x, e = .put p x := by
  cases e with
  | put p x => exact ⟨p, x, rfl⟩
  | take p => exact absurd (show ("take" : Str) = "put" from h) (by decide)
  | text p s => exact absurd (show ("text" : Str) = "put" from h) (by decide)
  | kind p s => exact absurd (show ("kind" : Str) = "put" from h) (by decide)
  | marks p m => exact absurd (show ("marks" : Str) = "put" from h) (by decide)
  | wrap p n kd m => exact absurd (show ("wrap" : Str) = "put" from h) (by decide)
  | opn p => exact absurd (show ("open" : Str) = "put" from h) (by decide)
theorem ed_take {e : Ed} (h : e.word = "take") : ∃ p, e = .take p := by
  cases e with
  | put p x => exact absurd (show ("put" : Str) = "take" from h) (by decide)
  | take p => exact ⟨p, rfl⟩
  | text p s => exact absurd (show ("text" : Str) = "take" from h) (by decide)
  | kind p s => exact absurd (show ("kind" : Str) = "take" from h) (by decide)
  | marks p m => exact absurd (show ("marks" : Str) = "take" from h) (by decide)
  | wrap p n kd m => exact absurd (show ("wrap" : Str) = "take" from h) (by decide)
  | opn p => exact absurd (show ("open" : Str) = "take" from h) (by decide)
theorem ed_text {e : Ed} (h : e.word = "text") : ∃ p s, e = .text p s := by
  cases e with
  | put p x => exact absurd (show ("put" : Str) = "text" from h) (by decide)
  | take p => exact absurd (show ("take" : Str) = "text" from h) (by decide)
  | text p s => exact ⟨p, s, rfl⟩
  | kind p s => exact absurd (show ("kind" : Str) = "text" from h) (by decide)
  | marks p m => exact absurd (show ("marks" : Str) = "text" from h) (by decide)
  | wrap p n kd m => exact absurd (show ("wrap" : Str) = "text" from h) (by decide)
  | opn p => exact absurd (show ("open" : Str) = "text" from h) (by decide)
theorem ed_kind {e : Ed} (h : e.word = "kind") : ∃ p s, e = .kind p s := by
  cases e with
  | put p x => exact absurd (show ("put" : Str) = "kind" from h) (by decide)
  | take p => exact absurd (show ("take" : Str) = "kind" from h) (by decide)
  | text p s => exact absurd (show ("text" : Str) = "kind" from h) (by decide)
  | kind p s => exact ⟨p, s, rfl⟩
  | marks p m => exact absurd (show ("marks" : Str) = "kind" from h) (by decide)
  | wrap p n kd m => exact absurd (show ("wrap" : Str) = "kind" from h) (by decide)
  | opn p => exact absurd (show ("open" : Str) = "kind" from h) (by decide)
theorem ed_marks {e : Ed} (h : e.word = "marks") : ∃ p m, e = .marks p m := by
  cases e with
  | put p x => exact absurd (show ("put" : Str) = "marks" from h) (by decide)
  | take p => exact absurd (show ("take" : Str) = "marks" from h) (by decide)
  | text p s => exact absurd (show ("text" : Str) = "marks" from h) (by decide)
  | kind p s => exact absurd (show ("kind" : Str) = "marks" from h) (by decide)
  | marks p m => exact ⟨p, m, rfl⟩
  | wrap p n kd m => exact absurd (show ("wrap" : Str) = "marks" from h) (by decide)
  | opn p => exact absurd (show ("open" : Str) = "marks" from h) (by decide)
theorem ed_wrap {e : Ed} (h : e.word = "wrap") : ∃ p n kd m, e = .wrap p n kd m := by
  cases e with
  | put p x => exact absurd (show ("put" : Str) = "wrap" from h) (by decide)
  | take p => exact absurd (show ("take" : Str) = "wrap" from h) (by decide)
  | text p s => exact absurd (show ("text" : Str) = "wrap" from h) (by decide)
  | kind p s => exact absurd (show ("kind" : Str) = "wrap" from h) (by decide)
  | marks p m => exact absurd (show ("marks" : Str) = "wrap" from h) (by decide)
  | wrap p n kd m => exact ⟨p, n, kd, m, rfl⟩
  | opn p => exact absurd (show ("open" : Str) = "wrap" from h) (by decide)
theorem ed_opn {e : Ed} (h : e.word = "open") : ∃ p, e = .opn p := by
  cases e with
  | put p x => exact absurd (show ("put" : Str) = "open" from h) (by decide)
  | take p => exact absurd (show ("take" : Str) = "open" from h) (by decide)
  | text p s => exact absurd (show ("text" : Str) = "open" from h) (by decide)
  | kind p s => exact absurd (show ("kind" : Str) = "open" from h) (by decide)
  | marks p m => exact absurd (show ("marks" : Str) = "open" from h) (by decide)
  | wrap p n kd m => exact absurd (show ("wrap" : Str) = "open" from h) (by decide)
  | opn p => exact ⟨p, rfl⟩
section
variable {P : Program} {w : World} {K : PySem.W.Frag} {mg : Str → Option Value} {base : Heap} {k : Nat}

/-! ### with_items -/
abbrev N_with_items : List Str := ["root", "path", "count", "items", "owner", "index", "row"]
theorem sc_with_items : FnScope N_with_items ["root", "path", "count", "items"] (defScope (top 18)) := ⟨rfl, rfl, rfl, by decide +kernel, rfl, by decide +kernel, by decide +kernel⟩
def spWithItems : Sp := fun vs H Q _ => ∃ (v : V) (pa ra : Addr) (d : It) (q : List Int) (i c : Int) (kd : Str) (ms : List Str) (its cs : List It) (rs : List V), vs = [v, .ref pa, .int c, .ref ra] ∧ Rep H d v ∧ H pa = some (.tup ((q ++ [i]).map V.int)) ∧ gt q d = some (.part kd ms its) ∧
  0 ≤ i ∧ 0 ≤ c ∧ i + c ≤ its.length ∧ H ra = some (.tup rs) ∧ Reps H cs rs ∧ cs.length ≤ 1000 ∧ wid d ≤ 1000 ∧ q.length ≤ 40 ∧
  ∀ u H', Ex H H' → Rep H' (sw q (.part kd ms (its.take i.toNat ++ (cs ++ its.drop (i.toNat + c.toNat)))) d) u → Q u H'
theorem ok_with_items (D : Df K mg "with_items" (top 18)) (B : Bn mg) (G_owner_at : Has P w K mg base k "owner_at" spOwnerAt) (G_with_item : Has P w K mg base k "with_item" spWithItem) : Has P w K mg base (k + 1) "with_items" spWithItems := by
  refine D.has sc_with_items (fun _ _ _ _ _ _ us hl => match us, hl with | [_, _, _, _], _ => rfl) (fun vs H Q E h => ?_) (fun f cdv A outer s H vs Q E hr h => ?_)
  · obtain ⟨v, pa, ra, d, q, i, c, kd, ms, its, cs, rs, rfl, _⟩ := h
    rfl
  obtain ⟨v, pa, ra, d, q, i, c, kd, ms, its, cs, rs, rfl, rep, hp, hg, i0, c0, ic, hra, hcs, lc, hw, lq, z⟩ := h
  refine ⟨_, (pss_cons (ps_set (i := 4) sc_with_items.nd rfl (Or.inl rfl) (pe_has G_owner_at hr (pa_cons (pv 0) (pa_cons (pv 1) pa_nil)))) (pss_cons (ps_set (i := 5) sc_with_items.nd rfl (Or.inl rfl) (pe_ix ix_tupC (pv 1) (pe_un un_neg pe_int) (fun _ _ => rfl))) (pss_cons (ps_set (i := 6) sc_with_items.nd rfl (Or.inl rfl) (pe_op op_catC (pe_op op_catC (pe_slice sl_tupC (pe_ix ix_tupC (pv 4) pe_int (fun _ _ => rfl)) po_none (po_some (pv 5))) (pv 3)) (pe_slice sl_tupC (pe_ix ix_tupC (pv 4) pe_int (fun _ _ => rfl)) (po_some (pe_op op_add (pv 5) (pv 2))) po_none))) (pss_one (ps_ret (pe_has G_with_item hr (pa_cons (pv 0) (pa_cons (pe_slice sl_tupC (pv 1) po_none (po_some (pe_un un_neg pe_int))) (pa_cons (pe_tupC (pa_cons (pe_ix ix_tupC (pv 4) pe_int (fun _ _ => rfl)) (pa_cons (pe_ix ix_tupC (pv 4) pe_int (fun _ _ => rfl)) (pa_cons (pv 6) pa_nil)))) pa_nil))))))))), ?_⟩
  have wo := Nat.le_trans (wid_gt hg) hw
  rw [wid] at wo
  have lr := hcs.length
  refine seq_asgN ⟨_, rfl, _, rfl, v, pa, d, q, i, kd, ms, its, rfl, rep, hp, hg, fun u H1 e1 ru => ?_⟩
  obtain ⟨a, m, r, us, rfl, a1, a2, a3, a4⟩ := ru
  have ul := a4.length
  have hp1 := e1.ex hp
  rw [List.map_append] at hp1
  refine seq_asgN ⟨_, rfl, _, rfl, pa, _, _, _, rfl, rfl, hp1, at_last, ?_⟩
  refine seq_asgN ⟨_, rfl, a, _, _, _, rfl, rfl, a1, rfl, _, rfl, _, rfl, r, _, rfl, a3, fun p4 H4 e4 h4 => ?_⟩
  rw [cut_lo i0 (by omega)] at h4
  refine ⟨_, rfl, p4, ra, _, _, rfl, rfl, h4, e4.ex (e1.ex hra), sz (by rw [List.length_take]; omega), fun p6 H6 e6 h6 => ?_⟩
  have e16 := e4.trans e6
  refine ⟨_, rfl, a, _, _, _, rfl, rfl, e16.ex a1, rfl, _, rfl, _, rfl, _, _, rfl, rfl, _, rfl, r, _, rfl, e16.ex a3, fun p7 H7 e7 h7 => ?_⟩
  rw [cut_hi (by omega) (by omega), show (i + c).toNat = i.toNat + c.toNat by omega] at h7
  refine ⟨p6, p7, _, _, rfl, rfl, e7.ex h6, h7, sz (by rw [List.length_append, List.length_take, List.length_drop]; omega), fun p8 H8 e8 h8 => ?_⟩
  rw [List.append_assoc] at h8
  have e18 := (e16.trans e7).trans e8
  have hp8 := e18.ex (e1.ex hp)
  refine ⟨_, rfl, _, rfl, _, rfl, _, rfl, pa, _, rfl, hp8, fun p9 H9 e9 h9 => ?_⟩
  rw [cut_row] at h9
  have e19 := e18.trans e9
  refine ⟨_, rfl, a, _, _, _, rfl, rfl, e19.ex a1, rfl, _, rfl, a, _, _, _, rfl, rfl, e19.ex a1, rfl, _, rfl, by show 3 ≤ sizeLine; decide, fun p10 H10 n10 e10 h10 => ?_⟩
  have e110 := e19.trans e10
  have e010 := e1.trans e110
  have e810 := e9.trans e10
  refine ⟨v, p9, .ref p10, d, _, _, q, rfl, rep.chg e010, e10.ex h9, Rep.part h10 (e110.ex a2) (e810.ex h8) (((a4.chg e110).take _).append ((hcs.chg e010).append ((a4.chg e110).drop _))), hg, hw, lq, fun u H' e' r' => ?_⟩
  exact z u H' (e010.trans e') r'

def spDeed (wd : Str) : Sp := fun vs H Q _ => ∃ (v : V) (b pr : Addr) (d d' : It) (e : Ed) (rr : List V), vs = [v, .ref b] ∧ e.word = wd ∧ Rep H d v ∧ RepE H e b pr rr ∧ app d e = some d' ∧ wid d ≤ 1000 ∧ e.path.length ≤ 40 ∧
  ∀ u H', Ex H H' → Rep H' d' u → Q u H'
/-! ### put_item -/
abbrev N_put_item : List Str := ["root", "edit", "path", "item", "owner"]
theorem sc_put_item : FnScope N_put_item ["root", "edit"] (defScope (top 19)) := ⟨rfl, rfl, rfl, by decide +kernel, rfl, by decide +kernel, by decide +kernel⟩
theorem ok_put_item (D : Df K mg "put_item" (top 19)) (B : Bn mg) (G_owner_at : Has P w K mg base k "owner_at" spOwnerAt) (G_with_items : Has P w K mg base k "with_items" spWithItems) : Has P w K mg base (k + 1) "put_item" (spDeed "put") := by
  refine D.has sc_put_item (fun _ _ _ _ _ _ us hl => match us, hl with | [_, _], _ => rfl) (fun vs H Q E h => ?_) (fun f cdv A outer s H vs Q E hr h => ?_)
  · obtain ⟨v, b, pr, d, d', e, rr, rfl, _⟩ := h
    rfl
  obtain ⟨v, b, pr, d, d', e, rr, rfl, we, rep, ⟨hb, hp, hx⟩, ha, hw, hl, z⟩ := h
  refine ⟨_, (pss_cons (ps_asg (pe_slice sl_tupC (pv 1) (po_some pe_int) po_none) (pg_tup rfl (pgs_cons (pg_name (i := 2) sc_put_item.nd rfl (Or.inl rfl)) (pgs_cons (pg_name (i := 3) sc_put_item.nd rfl (Or.inl rfl)) pgs_nil)))) (pss_cons (ps_set (i := 4) sc_put_item.nd rfl (Or.inl rfl) (pe_has G_owner_at hr (pa_cons (pv 0) (pa_cons (pv 2) pa_nil)))) (pss_cons (ps_if (pt_not (pt_chain op_le op_le pe_int (pe_ix ix_tupC (pv 2) (pe_un un_neg pe_int) (fun _ _ => rfl)) (pe_callB (call_lenK (K := K)) rfl B.len PySem.boot_len (pa_cons (pe_ix ix_tupC (pv 4) pe_int (fun _ _ => rfl)) pa_nil)))) pss_never pss_nil) (pss_one (ps_ret (pe_has G_with_items hr (pa_cons (pv 0) (pa_cons (pv 2) (pa_cons pe_int (pa_cons (pe_tupC (pa_cons (pv 3) pa_nil)) pa_nil)))))))))), ?_⟩
  obtain ⟨p, x, rfl⟩ := ed_put we
  obtain ⟨xv, rfl, rx⟩ := hx
  replace hb : H b = some (.tup [.str "put", .ref pr, xv]) := hb
  obtain ⟨q, i, kd, m, its, its', eq, g, hre, rfl⟩ := rowApp_some (show rowApp d p (.put p x) = some d' from ha)
  replace hp : H pr = some (.tup ((q ++ [i]).map V.int)) := by rw [← eq]; exact hp
  have hpl := hp
  rw [List.map_append] at hpl
  have lq : q.length ≤ 40 := by
    have : p.length ≤ 40 := hl
    rw [eq, List.length_append, List.length_singleton] at this
    omega
  have wo := Nat.le_trans (wid_gt g) hw
  rw [wid] at wo
  obtain ⟨h0, h1, rfl⟩ := rowEd_put_some hre
  refine seq_asg ⟨_, rfl, _, rfl, b, _, rfl, hb, fun p1 H1 e1 h1' => ⟨p1, _, rfl, SqT.of h1', rfl, _, _, rfl, _, _, rfl, rfl, ?_⟩⟩
  refine seq_asgN ⟨_, rfl, _, rfl, v, pr, d, q, i, kd, m, its, rfl, rep.chg e1, e1.ex hp, g, fun u H2 e2 ru => ?_⟩
  obtain ⟨a, m', r, us, rfl, a1, a2, a3, a4⟩ := ru
  have ul := a4.length
  have e02 := e1.trans e2
  refine seq_if ⟨_, rfl, _, rfl, pr, _, _, _, rfl, rfl, e02.ex hpl, at_last, _, _, rfl, rfl, _, rfl, ?_⟩
  refine ite2 (fun _ => ?_) (fun c => absurd (decide_eq_true h0) c)
  refine ⟨_, rfl, a, _, _, _, rfl, rfl, a1, rfl, _, _, rfl, lenT a3, _, _, rfl, rfl, _, rfl, ?_⟩
  refine nay (by rw [decide_eq_true (show i ≤ (us.length : Int) by omega)]; rfl) ?_
  refine ⟨_, rfl, _, rfl, _, rfl, by show 1 ≤ sizeLine; decide, fun p3 H3 n3 e3 h3 => ?_⟩
  have e03 := e02.trans e3
  refine ⟨v, pr, p3, d, q, i, 0, kd, m, its, [x], [xv], rfl, rep.chg e03, e03.ex hp, g, h0, by decide, by omega, h3, Reps.one (rx.chg e03), by show 1 ≤ 1000; decide, hw, lq, fun u H' e' r' => ?_⟩
  exact z u H' (e03.trans e') r'
/-! ### take_item -/
abbrev N_take_item : List Str := ["root", "edit", "path"]
theorem sc_take_item : FnScope N_take_item ["root", "edit"] (defScope (top 20)) := ⟨rfl, rfl, rfl, by decide +kernel, rfl, by decide +kernel, by decide +kernel⟩
theorem ok_take_item (D : Df K mg "take_item" (top 20)) (B : Bn mg) (G_item_at : Has P w K mg base k "item_at" spItemAt) (G_owner_at : Has P w K mg base k "owner_at" spOwnerAt) (G_with_items : Has P w K mg base k "with_items" spWithItems) : Has P w K mg base (k + 1) "take_item" (spDeed "take") := by
  refine D.has sc_take_item (fun _ _ _ _ _ _ us hl => match us, hl with | [_, _], _ => rfl) (fun vs H Q E h => ?_) (fun f cdv A outer s H vs Q E hr h => ?_)
  · obtain ⟨v, b, pr, d, d', e, rr, rfl, _⟩ := h
    rfl
  obtain ⟨v, b, pr, d, d', e, rr, rfl, we, rep, ⟨hb, hp, hx⟩, ha, hw, hl, z⟩ := h
  refine ⟨_, (pss_cons (ps_set (i := 2) sc_take_item.nd rfl (Or.inl rfl) (pe_ix ix_tupC (pv 1) pe_int (fun _ _ => rfl))) (pss_cons (ps_expr (pe_has G_owner_at hr (pa_cons (pv 0) (pa_cons (pv 2) pa_nil)))) (pss_cons (ps_expr (pe_has G_item_at hr (pa_cons (pv 0) (pa_cons (pv 2) pa_nil)))) (pss_one (ps_ret (pe_has G_with_items hr (pa_cons (pv 0) (pa_cons (pv 2) (pa_cons pe_int (pa_cons (pe_tupC pa_nil) pa_nil)))))))))), ?_⟩
  obtain ⟨p, rfl⟩ := ed_take we
  obtain rfl : rr = [] := hx
  replace hb : H b = some (.tup [.str "take", .ref pr]) := hb
  obtain ⟨q, i, kd, m, its, its', eq, g, hre, rfl⟩ := rowApp_some (show rowApp d p (.take p) = some d' from ha)
  replace hp : H pr = some (.tup ((q ++ [i]).map V.int)) := by rw [← eq]; exact hp
  have hpl := hp
  rw [List.map_append] at hpl
  have lq : q.length ≤ 40 := by
    have : p.length ≤ 40 := hl
    rw [eq, List.length_append, List.length_singleton] at this
    omega
  have wo := Nat.le_trans (wid_gt g) hw
  rw [wid] at wo
  obtain ⟨h0, h1, rfl⟩ := rowEd_take_some hre
  refine seq_asgN ⟨_, rfl, b, _, _, _, rfl, rfl, hb, rfl, ?_⟩
  refine ⟨_, rfl, _, rfl, v, pr, d, q, i, kd, m, its, rfl, rep, hp, g, fun u H2 e2 ru => ?_⟩
  have gx : gt (q ++ [i]) d = some its[i.toNat] := by rw [gt_row g h0, List.getElem?_eq_getElem (by omega)]
  refine ⟨_, rfl, _, rfl, v, pr, d, _, _, rfl, rep.chg e2, e2.ex hp, gx, fun u2 ru2 => ?_⟩
  refine ⟨_, rfl, _, rfl, Nat.zero_le _, fun p3 H3 n3 e3 h3 => ?_⟩
  have e03 := e2.trans e3
  refine ⟨v, pr, p3, d, q, i, 1, kd, m, its, [], [], rfl, rep.chg e03, e03.ex hp, g, h0, by decide, by omega, h3, rfl, by show 0 ≤ 1000; decide, hw, lq, fun u H' e' r' => ?_⟩
  exact z u H' (e03.trans e') r'
/-! ### wrap_items -/
abbrev N_wrap_items : List Str := ["root", "edit", "path", "count", "kind", "marks", "row", "index", "part"]
theorem sc_wrap_items : FnScope N_wrap_items ["root", "edit"] (defScope (top 24)) := ⟨rfl, rfl, rfl, by decide +kernel, rfl, by decide +kernel, by decide +kernel⟩
theorem ok_wrap_items (D : Df K mg "wrap_items" (top 24)) (B : Bn mg) (G_owner_at : Has P w K mg base k "owner_at" spOwnerAt) (G_with_items : Has P w K mg base k "with_items" spWithItems) : Has P w K mg base (k + 1) "wrap_items" (spDeed "wrap") := by
  refine D.has sc_wrap_items (fun _ _ _ _ _ _ us hl => match us, hl with | [_, _], _ => rfl) (fun vs H Q E h => ?_) (fun f cdv A outer s H vs Q E hr h => ?_)
  · obtain ⟨v, b, pr, d, d', e, rr, rfl, _⟩ := h
    rfl
  obtain ⟨v, b, pr, d, d', e, rr, rfl, we, rep, ⟨hb, hp, hx⟩, ha, hw, hl, z⟩ := h
  refine ⟨_, (pss_cons (ps_asg (pe_slice sl_tupC (pv 1) (po_some pe_int) po_none) (pg_tup rfl (pgs_cons (pg_name (i := 2) sc_wrap_items.nd rfl (Or.inl rfl)) (pgs_cons (pg_name (i := 3) sc_wrap_items.nd rfl (Or.inl rfl)) (pgs_cons (pg_name (i := 4) sc_wrap_items.nd rfl (Or.inl rfl)) (pgs_cons (pg_name (i := 5) sc_wrap_items.nd rfl (Or.inl rfl)) pgs_nil)))))) (pss_cons (ps_set (i := 6) sc_wrap_items.nd rfl (Or.inl rfl) (pe_ix ix_tupC (pe_has G_owner_at hr (pa_cons (pv 0) (pa_cons (pv 2) pa_nil))) pe_int (fun _ _ => rfl))) (pss_cons (ps_set (i := 7) sc_wrap_items.nd rfl (Or.inl rfl) (pe_ix ix_tupC (pv 2) (pe_un un_neg pe_int) (fun _ _ => rfl))) (pss_cons (ps_if (PW.pt (pw_or (pt_cmpR op_lt (pv 7) pe_int (nomark _)) (pw_or (pt_cmpR op_lt (pv 3) pe_int (nomark _)) (pw_or1 (pt_cmpR op_gt (pe_op op_add (pv 7) (pv 3)) (pe_callB (call_lenK (K := K)) rfl B.len PySem.boot_len (pa_cons (pv 6) pa_nil)) (nomark _)))))) pss_never pss_nil) (pss_cons (ps_set (i := 8) sc_wrap_items.nd rfl (Or.inl rfl) (pe_tupC (pa_cons (pv 4) (pa_cons (pv 5) (pa_cons (pe_slice sl_tupC (pv 6) (po_some (pv 7)) (po_some (pe_op op_add (pv 7) (pv 3)))) pa_nil))))) (pss_one (ps_ret (pe_has G_with_items hr (pa_cons (pv 0) (pa_cons (pv 2) (pa_cons (pv 3) (pa_cons (pe_tupC (pa_cons (pv 8) pa_nil)) pa_nil)))))))))))), ?_⟩
  obtain ⟨p, n, k2, m2, rfl⟩ := ed_wrap we
  obtain ⟨mr, rfl, hm2⟩ := hx
  replace hb : H b = some (.tup [.str "wrap", .ref pr, .int n, .str k2, .ref mr]) := hb
  obtain ⟨q, i, kd, m, its, its', eq, g, hre, rfl⟩ := rowApp_some (show rowApp d p (.wrap p n k2 m2) = some d' from ha)
  replace hp : H pr = some (.tup ((q ++ [i]).map V.int)) := by rw [← eq]; exact hp
  have hpl := hp
  rw [List.map_append] at hpl
  have lq : q.length ≤ 40 := by
    have : p.length ≤ 40 := hl
    rw [eq, List.length_append, List.length_singleton] at this
    omega
  have wo := Nat.le_trans (wid_gt g) hw
  rw [wid] at wo
  obtain ⟨h0, h1, h2, rfl⟩ := rowEd_wrap_some hre
  refine seq_asg ⟨_, rfl, _, rfl, b, _, rfl, hb, fun p1 H1 e1 h1' => ⟨p1, _, rfl, SqT.of h1', rfl, _, _, rfl, _, _, rfl, _, _, rfl, _, _, rfl, rfl, ?_⟩⟩
  refine seq_asgN ⟨_, rfl, _, rfl, v, pr, d, q, i, kd, m, its, rfl, rep.chg e1, e1.ex hp, g, fun u H2 e2 ru => ?_⟩
  obtain ⟨a, m', r, us, rfl, a1, a2, a3, a4⟩ := ru
  have ul := a4.length
  have e02 := e1.trans e2
  refine ⟨a, _, _, _, rfl, rfl, a1, rfl, ?_⟩
  refine seq_asgN ⟨_, rfl, _, rfl, pr, _, _, _, rfl, rfl, e02.ex hpl, at_last, ?_⟩
  refine seq_if ⟨_, rfl, _, _, rfl, rfl, _, rfl, ?_⟩
  refine nay (decide_eq_false (by omega)) ?_
  refine ⟨_, rfl, _, _, rfl, rfl, _, rfl, ?_⟩
  refine nay (decide_eq_false (by omega)) ?_
  refine ⟨_, rfl, _, rfl, _, _, rfl, rfl, _, rfl, _, _, rfl, lenT a3, _, _, rfl, rfl, _, rfl, ?_⟩
  refine nay (decide_eq_false (by omega)) ?_
  refine seq_asgN ⟨_, rfl, _, rfl, _, rfl, _, rfl, _, rfl, _, rfl, _, rfl, _, _, rfl, rfl, _, rfl, r, _, rfl, a3, fun p3 H3 e3 h3 => ⟨by show 3 ≤ sizeLine; decide, fun p4 H4 n4 e4 h4 => ?_⟩⟩
  rw [cut_mid h0 (by omega) (by omega), show (i + n).toNat - i.toNat = n.toNat by omega] at h3
  refine ⟨_, rfl, _, rfl, _, rfl, _, rfl, by show 1 ≤ sizeLine; decide, fun p5 H5 n5 e5 h5 => ?_⟩
  have e25 : Ex H2 H5 := (e3.trans e4).trans e5
  have e05 := e02.trans e25
  have e35 := e4.trans e5
  refine ⟨v, pr, p5, d, q, i, n, kd, m, its, [.part k2 m2 ((its.drop i.toNat).take n.toNat)], _, rfl, rep.chg e05, e05.ex hp, g, h0, h1, h2, h5, Reps.one (Rep.part (e5.ex h4) (e05.ex hm2) (e35.ex h3) (((a4.chg e25).drop _).take _)), by show 1 ≤ 1000; decide, hw, lq, fun u H' e' r' => ?_⟩
  exact z u H' (e05.trans e') r'
/-! ### open_part -/
abbrev N_open_part : List Str := ["root", "edit", "path", "part"]
theorem sc_open_part : FnScope N_open_part ["root", "edit"] (defScope (top 25)) := ⟨rfl, rfl, rfl, by decide +kernel, rfl, by decide +kernel, by decide +kernel⟩
theorem ok_open_part (D : Df K mg "open_part" (top 25)) (B : Bn mg) (G_part_at : Has P w K mg base k "part_at" spPartAt) (G_owner_at : Has P w K mg base k "owner_at" spOwnerAt) (G_with_items : Has P w K mg base k "with_items" spWithItems) : Has P w K mg base (k + 1) "open_part" (spDeed "open") := by
  refine D.has sc_open_part (fun _ _ _ _ _ _ us hl => match us, hl with | [_, _], _ => rfl) (fun vs H Q E h => ?_) (fun f cdv A outer s H vs Q E hr h => ?_)
  · obtain ⟨v, b, pr, d, d', e, rr, rfl, _⟩ := h
    rfl
  obtain ⟨v, b, pr, d, d', e, rr, rfl, we, rep, ⟨hb, hp, hx⟩, ha, hw, hl, z⟩ := h
  refine ⟨_, (pss_cons (ps_set (i := 2) sc_open_part.nd rfl (Or.inl rfl) (pe_ix ix_tupC (pv 1) pe_int (fun _ _ => rfl))) (pss_cons (ps_expr (pe_has G_owner_at hr (pa_cons (pv 0) (pa_cons (pv 2) pa_nil)))) (pss_cons (ps_set (i := 3) sc_open_part.nd rfl (Or.inl rfl) (pe_has G_part_at hr (pa_cons (pv 0) (pa_cons (pv 2) pa_nil)))) (pss_one (ps_ret (pe_has G_with_items hr (pa_cons (pv 0) (pa_cons (pv 2) (pa_cons pe_int (pa_cons (pe_ix ix_tupC (pv 3) pe_int (fun _ _ => rfl)) pa_nil)))))))))), ?_⟩
  obtain ⟨p, rfl⟩ := ed_opn we
  obtain rfl : rr = [] := hx
  replace hb : H b = some (.tup [.str "open", .ref pr]) := hb
  obtain ⟨q, i, kd, m, its, its', eq, g, hre, rfl⟩ := rowApp_some (show rowApp d p (.opn p) = some d' from ha)
  replace hp : H pr = some (.tup ((q ++ [i]).map V.int)) := by rw [← eq]; exact hp
  have hpl := hp
  rw [List.map_append] at hpl
  have lq : q.length ≤ 40 := by
    have : p.length ≤ 40 := hl
    rw [eq, List.length_append, List.length_singleton] at this
    omega
  have wo := Nat.le_trans (wid_gt g) hw
  rw [wid] at wo
  obtain ⟨h0, k2, m2, cs, h1, rfl⟩ := rowEd_opn_some hre
  have il := lt_of_get h1
  refine seq_asgN ⟨_, rfl, b, _, _, _, rfl, rfl, hb, rfl, ?_⟩
  refine ⟨_, rfl, _, rfl, v, pr, d, q, i, kd, m, its, rfl, rep, hp, g, fun u H2 e2 ru => ?_⟩
  have gx : gt (q ++ [i]) d = some (.part k2 m2 cs) := by rw [gt_row g h0, h1]
  have lc := Nat.le_trans (wid_gt gx) hw
  rw [wid] at lc
  refine ⟨_, rfl, _, rfl, v, pr, d, _, k2, m2, cs, rfl, rep.chg e2, e2.ex hp, gx, fun u2 ru2 => ?_⟩
  obtain ⟨a, m', r, us, rfl, a1, a2, a3, a4⟩ := ru2
  refine ⟨_, rfl, _, rfl, _, rfl, a, _, _, _, rfl, rfl, a1, rfl, ?_⟩
  refine ⟨v, pr, r, d, q, i, 1, kd, m, its, cs, us, rfl, rep.chg e2, e2.ex hp, g, h0, by decide, by omega, a3, a4, by omega, hw, lq, fun u H' e' r' => ?_⟩
  exact z u H' (e2.trans e') r'
/-! ### change_text, change_kind, change_marks -/
abbrev N_change_text : List Str := ["root", "edit", "path", "text"]
theorem sc_change_text : FnScope N_change_text ["root", "edit"] (defScope (top 21)) := ⟨rfl, rfl, rfl, by decide +kernel, rfl, by decide +kernel, by decide +kernel⟩
theorem ok_change_text (D : Df K mg "change_text" (top 21)) (B : Bn mg) (G_item_at : Has P w K mg base k "item_at" spItemAt) (G_with_item : Has P w K mg base k "with_item" spWithItem) : Has P w K mg base (k + 1) "change_text" (spDeed "text") := by
  refine D.has sc_change_text (fun _ _ _ _ _ _ us hl => match us, hl with | [_, _], _ => rfl) (fun vs H Q E h => ?_) (fun f cdv A outer s H vs Q E hr h => ?_)
  · obtain ⟨v, b, pr, d, d', e, rr, rfl, _⟩ := h
    rfl
  obtain ⟨v, b, pr, d, d', e, rr, rfl, we, rep, ⟨hb, hp, hx⟩, ha, hw, hl, z⟩ := h
  refine ⟨_, (pss_cons (ps_asg (pe_slice sl_tupC (pv 1) (po_some pe_int) po_none) (pg_tup rfl (pgs_cons (pg_name (i := 2) sc_change_text.nd rfl (Or.inl rfl)) (pgs_cons (pg_name (i := 3) sc_change_text.nd rfl (Or.inl rfl)) pgs_nil)))) (pss_cons (ps_if (pt_not (pt_val (pe_isi .str (pe_has G_item_at hr (pa_cons (pv 0) (pa_cons (pv 2) pa_nil))) B.isi B.str))) pss_never pss_nil) (pss_one (ps_ret (pe_has G_with_item hr (pa_cons (pv 0) (pa_cons (pv 2) (pa_cons (pv 3) pa_nil)))))))), ?_⟩
  obtain ⟨p, s, rfl⟩ := ed_text we
  obtain rfl : rr = [.str s] := hx
  replace hb : H b = some (.tup [.str "text", .ref pr, .str s]) := hb
  replace hp : H pr = some (.tup (p.map V.int)) := hp
  obtain ⟨t, g, rfl⟩ := app_text_some ha
  refine seq_asg ⟨_, rfl, _, rfl, b, _, rfl, hb, fun p1 H1 e1 h1' => ⟨p1, _, rfl, SqT.of h1', rfl, _, _, rfl, _, _, rfl, rfl, ?_⟩⟩
  refine seq_if ⟨_, rfl, _, rfl, v, pr, d, _, p, rfl, rep.chg e1, e1.ex hp, g, fun u ru => ?_⟩
  obtain rfl : u = .str t := ru
  refine ⟨_, .str t, _, rfl, ?_⟩
  refine ⟨_, rfl, _, rfl, _, rfl, v, pr, .str s, d, .txt s, _, p, rfl, rep.chg e1, e1.ex hp, rfl, g, hw, hl, fun u H' e' r' => ?_⟩
  exact z u H' (e1.trans e') r'
abbrev N_change_kind : List Str := ["root", "edit", "path", "kind", "part"]
theorem sc_change_kind : FnScope N_change_kind ["root", "edit"] (defScope (top 22)) := ⟨rfl, rfl, rfl, by decide +kernel, rfl, by decide +kernel, by decide +kernel⟩
theorem ok_change_kind (D : Df K mg "change_kind" (top 22)) (B : Bn mg) (G_part_at : Has P w K mg base k "part_at" spPartAt) (G_with_item : Has P w K mg base k "with_item" spWithItem) : Has P w K mg base (k + 1) "change_kind" (spDeed "kind") := by
  refine D.has sc_change_kind (fun _ _ _ _ _ _ us hl => match us, hl with | [_, _], _ => rfl) (fun vs H Q E h => ?_) (fun f cdv A outer s H vs Q E hr h => ?_)
  · obtain ⟨v, b, pr, d, d', e, rr, rfl, _⟩ := h
    rfl
  obtain ⟨v, b, pr, d, d', e, rr, rfl, we, rep, ⟨hb, hp, hx⟩, ha, hw, hl, z⟩ := h
  refine ⟨_, (pss_cons (ps_asg (pe_slice sl_tupC (pv 1) (po_some pe_int) po_none) (pg_tup rfl (pgs_cons (pg_name (i := 2) sc_change_kind.nd rfl (Or.inl rfl)) (pgs_cons (pg_name (i := 3) sc_change_kind.nd rfl (Or.inl rfl)) pgs_nil)))) (pss_cons (ps_set (i := 4) sc_change_kind.nd rfl (Or.inl rfl) (pe_has G_part_at hr (pa_cons (pv 0) (pa_cons (pv 2) pa_nil)))) (pss_one (ps_ret (pe_has G_with_item hr (pa_cons (pv 0) (pa_cons (pv 2) (pa_cons (pe_tupC (pa_cons (pv 3) (pa_cons (pe_ix ix_tupC (pv 4) pe_int (fun _ _ => rfl)) (pa_cons (pe_ix ix_tupC (pv 4) pe_int (fun _ _ => rfl)) pa_nil)))) pa_nil)))))))), ?_⟩
  obtain ⟨p, s, rfl⟩ := ed_kind we
  obtain rfl : rr = [.str s] := hx
  replace hb : H b = some (.tup [.str "kind", .ref pr, .str s]) := hb
  replace hp : H pr = some (.tup (p.map V.int)) := hp
  obtain ⟨kd, m, its, g, rfl⟩ := app_kind_some ha
  refine seq_asg ⟨_, rfl, _, rfl, b, _, rfl, hb, fun p1 H1 e1 h1' => ⟨p1, _, rfl, SqT.of h1', rfl, _, _, rfl, _, _, rfl, rfl, ?_⟩⟩
  refine seq_asgN ⟨_, rfl, _, rfl, v, pr, d, p, kd, m, its, rfl, rep.chg e1, e1.ex hp, g, fun u ru => ?_⟩
  obtain ⟨a, m', r, us, rfl, a1, a2, a3, a4⟩ := ru
  refine ⟨_, rfl, _, rfl, _, rfl, _, rfl, a, _, _, _, rfl, rfl, a1, rfl, _, rfl, a, _, _, _, rfl, rfl, a1, rfl, by show 3 ≤ sizeLine; decide, fun p2 H2 n2 e2 h2 => ?_⟩
  have e02 := e1.trans e2
  refine ⟨v, pr, .ref p2, d, .part s m its, _, p, rfl, rep.chg e02, e02.ex hp, Rep.part h2 (e2.ex a2) (e2.ex a3) (a4.chg e2), g, hw, hl, fun u H' e' r' => ?_⟩
  exact z u H' (e02.trans e') r'
abbrev N_change_marks : List Str := ["root", "edit", "path", "marks", "part"]
theorem sc_change_marks : FnScope N_change_marks ["root", "edit"] (defScope (top 23)) := ⟨rfl, rfl, rfl, by decide +kernel, rfl, by decide +kernel, by decide +kernel⟩
theorem ok_change_marks (D : Df K mg "change_marks" (top 23)) (B : Bn mg) (G_part_at : Has P w K mg base k "part_at" spPartAt) (G_with_item : Has P w K mg base k "with_item" spWithItem) : Has P w K mg base (k + 1) "change_marks" (spDeed "marks") := by
  refine D.has sc_change_marks (fun _ _ _ _ _ _ us hl => match us, hl with | [_, _], _ => rfl) (fun vs H Q E h => ?_) (fun f cdv A outer s H vs Q E hr h => ?_)
  · obtain ⟨v, b, pr, d, d', e, rr, rfl, _⟩ := h
    rfl
  obtain ⟨v, b, pr, d, d', e, rr, rfl, we, rep, ⟨hb, hp, hx⟩, ha, hw, hl, z⟩ := h
  refine ⟨_, (pss_cons (ps_asg (pe_slice sl_tupC (pv 1) (po_some pe_int) po_none) (pg_tup rfl (pgs_cons (pg_name (i := 2) sc_change_marks.nd rfl (Or.inl rfl)) (pgs_cons (pg_name (i := 3) sc_change_marks.nd rfl (Or.inl rfl)) pgs_nil)))) (pss_cons (ps_set (i := 4) sc_change_marks.nd rfl (Or.inl rfl) (pe_has G_part_at hr (pa_cons (pv 0) (pa_cons (pv 2) pa_nil)))) (pss_one (ps_ret (pe_has G_with_item hr (pa_cons (pv 0) (pa_cons (pv 2) (pa_cons (pe_tupC (pa_cons (pe_ix ix_tupC (pv 4) pe_int (fun _ _ => rfl)) (pa_cons (pv 3) (pa_cons (pe_ix ix_tupC (pv 4) pe_int (fun _ _ => rfl)) pa_nil)))) pa_nil)))))))), ?_⟩
  obtain ⟨p, s, rfl⟩ := ed_marks we
  obtain ⟨mr, rfl, hmr⟩ := hx
  replace hb : H b = some (.tup [.str "marks", .ref pr, .ref mr]) := hb
  replace hp : H pr = some (.tup (p.map V.int)) := hp
  obtain ⟨kd, m, its, g, rfl⟩ := app_marks_some ha
  refine seq_asg ⟨_, rfl, _, rfl, b, _, rfl, hb, fun p1 H1 e1 h1' => ⟨p1, _, rfl, SqT.of h1', rfl, _, _, rfl, _, _, rfl, rfl, ?_⟩⟩
  refine seq_asgN ⟨_, rfl, _, rfl, v, pr, d, p, kd, m, its, rfl, rep.chg e1, e1.ex hp, g, fun u ru => ?_⟩
  obtain ⟨a, m', r, us, rfl, a1, a2, a3, a4⟩ := ru
  refine ⟨_, rfl, _, rfl, _, rfl, a, _, _, _, rfl, rfl, a1, rfl, _, rfl, _, rfl, a, _, _, _, rfl, rfl, a1, rfl, by show 3 ≤ sizeLine; decide, fun p2 H2 n2 e2 h2 => ?_⟩
  have e02 := e1.trans e2
  refine ⟨v, pr, .ref p2, d, .part kd s its, _, p, rfl, rep.chg e02, e02.ex hp, Rep.part h2 (e02.ex hmr) (e2.ex a3) (a4.chg e2), g, hw, hl, fun u H' e' r' => ?_⟩
  exact z u H' (e02.trans e') r'
end
end K7

/-! ## K7X7 -/
/-! The program's apply_edit and inverse_edit. -/
namespace K7
open PySem PySem.Spec PyProof.Rows L2
theorem seq_expr {te : TE} {u : TS} {D : Ends} {σ : L2.St} {H : Hp} (h : te σ H fun _ H1 => u D σ H1) : tSeq (tDrop te) u D σ H := h
section
variable {P : Program} {w : World} {K : PySem.W.Frag} {mg : Str → Option Value} {base : Heap} {k : Nat}

/-- what within_bounds promises -/
def spWithin : Sp := fun vs H Q _ => ∃ (v : V) (d : It), vs = [v] ∧ Rep H d v ∧ InB d ∧ ∀ H', Ex H H' → Q (.bl true) H'
/-- the table of the deeds, and the deeds -/
def DeedsOk (P : Program) (w : World) (K : PySem.W.Frag) (mg : Str → Option Value) (base : Heap) (k : Nat) (dD : Addr) : Prop :=
  ∀ e : Ed, ∃ x f, mg x = some (.ref f) ∧ KDct K w dD e.word (.ref f) ∧ Has P w K mg base k x (spDeed e.word)
theorem Has.held {x : Str} {f : Addr} {sp : Sp} (h : Has P w K mg base k x sp) (e : mg x = some (.ref f)) : Held P w K mg base k f sp := by
  obtain ⟨f', fd, ps, h1, h2, h3, h4⟩ := h
  rw [e] at h1
  obtain rfl := Value.ref.inj (Option.some.inj h1)
  exact ⟨fd, ps, h4, h2, h3⟩

/-! ### apply_edit -/
abbrev N_apply_edit : List Str := ["root", "edit", "deed", "result"]
theorem sc_apply_edit : FnScope N_apply_edit ["root", "edit"] (defScope (top 27)) := ⟨rfl, rfl, rfl, by decide +kernel, rfl, by decide +kernel, by decide +kernel⟩
def spApplyEdit : Sp := fun vs H Q _ => ∃ (v : V) (b pr : Addr) (d d' : It) (e : Ed) (rr : List V), vs = [v, .ref b] ∧ Rep H d v ∧ RepE H e b pr rr ∧ app d e = some d' ∧ InB d' ∧ wid d ≤ 1000 ∧ e.path.length ≤ 40 ∧
  ∀ u H', Ex H H' → Rep H' d' u → Q u H'
theorem ok_apply_edit {dD : Addr} (D : Df K mg "apply_edit" (top 27)) (B : Bn mg) (hDeeds : mg "DEEDS" = some (.ref dD)) (hD : DeedsOk P w K mg base k dD) (G_within_bounds : Has P w K mg base k "within_bounds" spWithin) : Has P w K mg base (k + 1) "apply_edit" spApplyEdit := by
  refine D.has sc_apply_edit (fun _ _ _ _ _ _ us hl => match us, hl with | [_, _], _ => rfl) (fun vs H Q E h => ?_) (fun f cdv A outer s H vs Q E hr h => ?_)
  · obtain ⟨v, b, pr, d, d', e, rr, rfl, _⟩ := h
    rfl
  obtain ⟨v, b, pr, d, d', e, rr, rfl, rep, re, ha, hi, hw, hl, z⟩ := h
  obtain ⟨x, g, mx, kd, hx⟩ := hD e
  have hS : ∀ f sp, (fun g' => if g' = g then some (spDeed e.word) else none) f = some sp → Held P w K mg base k f sp := fun f sp hf => by
    by_cases c : f = g
    · have e1 : some (spDeed e.word) = some sp := by rw [← hf]; exact (if_pos c).symm
      rw [← Option.some.inj e1, c]
      exact hx.held mx
    · have e1 : (none : Option Sp) = some sp := by rw [← hf]; exact (if_neg c).symm
      cases e1
  generalize hSS : (fun g' => if g' = g then some (spDeed e.word) else none) = S at hS
  refine ⟨_, (pss_cons (ps_set (i := 2) sc_apply_edit.nd rfl (Or.inl rfl) (pe_ix ix_kdict (pe_glob (v := .ref dD) rfl hDeeds rfl) (pe_ix ix_tupC (pv 1) pe_int (fun _ _ => rfl)) (fun _ _ => rfl))) (pss_cons (ps_set (i := 3) sc_apply_edit.nd rfl (Or.inl rfl) (pe_callA (i := 2) (S := S) hS hr rfl (Or.inl rfl) (pa_cons (pv 0) (pa_cons (pv 1) pa_nil)))) (pss_cons (ps_if (pt_not (pt_val (pe_has G_within_bounds hr (pa_cons (pv 3) pa_nil)))) pss_never pss_nil) (pss_one (ps_ret (pv 3)))))), ?_⟩
  refine seq_asgN ⟨_, rfl, b, _, _, _, rfl, rfl, re.at_, at0 _ _, dD, _, _, rfl, rfl, kd, ?_⟩
  refine seq_asgN ⟨g, spDeed e.word, rfl, by rw [← hSS]; exact if_pos rfl, _, rfl, _, rfl, v, b, pr, d, d', e, rr, rfl, rfl, rep, re, ha, hw, hl, fun u H1 e1 r1 => ?_⟩
  refine seq_if ⟨_, rfl, u, d', rfl, r1, hi, fun H2 e2 => ⟨_, rfl, ?_⟩⟩
  exact ⟨_, rfl, z u H2 (e1.trans e2) (r1.chg e2)⟩

/-! ### inverse_edit -/
abbrev N_inverse_edit : List Str := ["root", "edit", "word", "path", "item"]
theorem sc_inverse_edit : FnScope N_inverse_edit ["root", "edit"] (defScope (top 28)) := ⟨rfl, rfl, rfl, by decide +kernel, rfl, by decide +kernel, by decide +kernel⟩
def spInverse : Sp := fun vs H Q _ => ∃ (v : V) (b pr : Addr) (d d' : It) (e : Ed) (rr : List V), vs = [v, .ref b] ∧ Rep H d v ∧ RepE H e b pr rr ∧ app d e = some d' ∧ InB d' ∧ wid d ≤ 1000 ∧ e.path.length ≤ 40 ∧
  ∀ b' pr' rr' H', Ex H H' → RepE H' (inv d e) b' pr' rr' → Q (.ref b') H'
theorem ok_inverse_edit (D : Df K mg "inverse_edit" (top 28)) (B : Bn mg) (G_apply_edit : Has P w K mg base k "apply_edit" spApplyEdit) (G_item_at : Has P w K mg base k "item_at" spItemAt) : Has P w K mg base (k + 1) "inverse_edit" spInverse := by
  refine D.has sc_inverse_edit (fun _ _ _ _ _ _ us hl => match us, hl with | [_, _], _ => rfl) (fun vs H Q E h => ?_) (fun f cdv A outer s H vs Q E hr h => ?_)
  · obtain ⟨v, b, pr, d, d', e, rr, rfl, _⟩ := h
    rfl
  obtain ⟨v, b, pr, d, d', e, rr, rfl, rep, re, ha, hi, hw, hl, z⟩ := h
  refine ⟨_, (pss_cons (ps_expr (pe_has G_apply_edit hr (pa_cons (pv 0) (pa_cons (pv 1) pa_nil)))) (pss_cons (ps_set (i := 2) sc_inverse_edit.nd rfl (Or.inl rfl) (pe_ix ix_tupC (pv 1) pe_int (fun _ _ => rfl))) (pss_cons (ps_set (i := 3) sc_inverse_edit.nd rfl (Or.inl rfl) (pe_ix ix_tupC (pv 1) pe_int (fun _ _ => rfl))) (pss_cons (ps_if (pt_cmpR op_eq (pv 2) pe_str (nomark _)) (pss_one (ps_ret (pe_tupC (pa_cons pe_str (pa_cons (pv 3) pa_nil))))) pss_nil) (pss_cons (ps_if (pt_cmpR op_eq (pv 2) pe_str (nomark _)) (pss_one (ps_ret (pe_tupC (pa_cons pe_str (pa_cons (pv 3) pa_nil))))) pss_nil) (pss_cons (ps_set (i := 4) sc_inverse_edit.nd rfl (Or.inl rfl) (pe_has G_item_at hr (pa_cons (pv 0) (pa_cons (pv 3) pa_nil)))) (pss_cons (ps_if (pt_cmpR op_eq (pv 2) pe_str (nomark _)) (pss_one (ps_ret (pe_tupC (pa_cons pe_str (pa_cons (pv 3) (pa_cons (pv 4) pa_nil)))))) pss_nil) (pss_cons (ps_if (pt_cmpR op_eq (pv 2) pe_str (nomark _)) (pss_one (ps_ret (pe_tupC (pa_cons pe_str (pa_cons (pv 3) (pa_cons (pv 4) pa_nil)))))) pss_nil) (pss_cons (ps_if (pt_cmpR op_eq (pv 2) pe_str (nomark _)) (pss_one (ps_ret (pe_tupC (pa_cons pe_str (pa_cons (pv 3) (pa_cons (pe_ix ix_tupC (pv 4) pe_int (fun _ _ => rfl)) pa_nil)))))) pss_nil) (pss_cons (ps_if (pt_cmpR op_eq (pv 2) pe_str (nomark _)) (pss_one (ps_ret (pe_tupC (pa_cons pe_str (pa_cons (pv 3) (pa_cons (pe_ix ix_tupC (pv 4) pe_int (fun _ _ => rfl)) pa_nil)))))) pss_nil) (pss_one (ps_ret (pe_tupC (pa_cons pe_str (pa_cons (pv 3) (pa_cons (pe_callB (call_lenK (K := K)) rfl B.len PySem.boot_len (pa_cons (pe_ix ix_tupC (pv 4) pe_int (fun _ _ => rfl)) pa_nil)) (pa_cons (pe_ix ix_tupC (pv 4) pe_int (fun _ _ => rfl)) (pa_cons (pe_ix ix_tupC (pv 4) pe_int (fun _ _ => rfl)) pa_nil)))))))))))))))))), ?_⟩
  refine seq_expr ⟨_, rfl, _, rfl, v, b, pr, d, d', e, rr, rfl, rep, re, ha, hi, hw, hl, fun u H1 e1 r1 => ?_⟩
  replace rep := rep.chg e1
  replace re := re.chg e1
  obtain ⟨hb, hp, hx⟩ := re
  refine seq_asgN ⟨_, rfl, b, _, _, _, rfl, rfl, hb, at0 _ _, ?_⟩
  refine seq_asgN ⟨_, rfl, b, _, _, _, rfl, rfl, hb, at1 _ _ _, ?_⟩
  have WN : ∀ {w1 w2 : Str} {A B : Prop}, w1 ≠ w2 → B → (if decide (V.str w1 = V.str w2) = true then A else B) := fun h b => word_no h b
  cases e with
  | put p x =>
    refine ⟨_, rfl, rfl, _, rfl, word_yes rfl ?_⟩
    refine ⟨_, rfl, by show 2 ≤ sizeLine; decide, fun a H2 n2 e2 h2 => ?_⟩
    exact z a pr [] H2 (e1.trans e2) ⟨h2, e2.ex hp, rfl⟩
  | wrap p n kd m =>
    refine seq_if ⟨_, rfl, rfl, _, rfl, word_no (show ("wrap" : Str) ≠ "put" by decide) ?_⟩
    refine ⟨_, rfl, rfl, _, rfl, word_yes rfl ?_⟩
    refine ⟨_, rfl, by show 2 ≤ sizeLine; decide, fun a H2 n2 e2 h2 => ?_⟩
    exact z a pr [] H2 (e1.trans e2) ⟨h2, e2.ex hp, rfl⟩
  | take p =>
    replace hp : H1 pr = some (.tup (p.map V.int)) := hp
    obtain ⟨q, i, kd, m, its, its', eq, g, hre, hd'⟩ := rowApp_some (show rowApp d p (.take p) = some d' from ha)
    obtain ⟨h0, h1, _⟩ := rowEd_take_some hre
    have gx : gt p d = some its[i.toNat] := by rw [eq, gt_row g h0, List.getElem?_eq_getElem (by omega)]
    refine seq_if ⟨_, rfl, rfl, _, rfl, word_no (show ("take" : Str) ≠ "put" by decide) ?_⟩
    refine seq_if ⟨_, rfl, rfl, _, rfl, word_no (show ("take" : Str) ≠ "wrap" by decide) ?_⟩
    refine seq_asgN ⟨_, rfl, _, rfl, v, pr, d, _, p, rfl, rep, hp, gx, fun u2 r2 => ?_⟩
    refine ⟨_, rfl, rfl, _, rfl, word_yes rfl ?_⟩
    refine ⟨_, rfl, _, rfl, by show 3 ≤ sizeLine; decide, fun a H2 n2 e2 h2 => ?_⟩
    have ei : inv d (.take p) = .put p its[i.toNat] := by simp only [inv, gx]
    refine z a pr [u2] H2 (e1.trans e2) ?_
    rw [ei]
    exact ⟨h2, e2.ex hp, u2, rfl, r2.chg e2⟩
  | text p s =>
    replace hp : H1 pr = some (.tup (p.map V.int)) := hp
    obtain ⟨t, gx, _⟩ := app_text_some ha
    refine seq_if ⟨_, rfl, rfl, _, rfl, word_no (show ("text" : Str) ≠ "put" by decide) ?_⟩
    refine seq_if ⟨_, rfl, rfl, _, rfl, word_no (show ("text" : Str) ≠ "wrap" by decide) ?_⟩
    refine seq_asgN ⟨_, rfl, _, rfl, v, pr, d, _, p, rfl, rep, hp, gx, fun u2 r2 => ?_⟩
    refine seq_if ⟨_, rfl, rfl, _, rfl, word_no (show ("text" : Str) ≠ "take" by decide) ?_⟩
    refine ⟨_, rfl, rfl, _, rfl, word_yes rfl ?_⟩
    refine ⟨_, rfl, _, rfl, by show 3 ≤ sizeLine; decide, fun a H2 n2 e2 h2 => ?_⟩
    have ei : inv d (.text p s) = .text p t := by simp only [inv, gx]
    refine z a pr [u2] H2 (e1.trans e2) ?_
    rw [ei]
    obtain rfl : u2 = .str t := r2
    exact ⟨h2, e2.ex hp, rfl⟩
  | kind p s =>
    replace hp : H1 pr = some (.tup (p.map V.int)) := hp
    obtain ⟨kd, m, its, gx, _⟩ := app_kind_some ha
    refine seq_if ⟨_, rfl, rfl, _, rfl, word_no (show ("kind" : Str) ≠ "put" by decide) ?_⟩
    refine seq_if ⟨_, rfl, rfl, _, rfl, word_no (show ("kind" : Str) ≠ "wrap" by decide) ?_⟩
    refine seq_asgN ⟨_, rfl, _, rfl, v, pr, d, _, p, rfl, rep, hp, gx, fun u2 r2 => ?_⟩
    obtain ⟨a0, m0, r0, us, rfl, a1, a2, a3, a4⟩ := r2
    refine seq_if ⟨_, rfl, rfl, _, rfl, word_no (show ("kind" : Str) ≠ "take" by decide) ?_⟩
    refine seq_if ⟨_, rfl, rfl, _, rfl, word_no (show ("kind" : Str) ≠ "text" by decide) ?_⟩
    refine ⟨_, rfl, rfl, _, rfl, word_yes rfl ?_⟩
    refine ⟨_, rfl, _, rfl, a0, _, _, _, rfl, rfl, a1, rfl, by show 3 ≤ sizeLine; decide, fun a H2 n2 e2 h2 => ?_⟩
    have ei : inv d (.kind p s) = .kind p kd := by simp only [inv, gx]
    refine z a pr [.str kd] H2 (e1.trans e2) ?_
    rw [ei]
    exact ⟨h2, e2.ex hp, rfl⟩
  | marks p s =>
    replace hp : H1 pr = some (.tup (p.map V.int)) := hp
    obtain ⟨kd, m, its, gx, _⟩ := app_marks_some ha
    refine seq_if ⟨_, rfl, rfl, _, rfl, word_no (show ("marks" : Str) ≠ "put" by decide) ?_⟩
    refine seq_if ⟨_, rfl, rfl, _, rfl, word_no (show ("marks" : Str) ≠ "wrap" by decide) ?_⟩
    refine seq_asgN ⟨_, rfl, _, rfl, v, pr, d, _, p, rfl, rep, hp, gx, fun u2 r2 => ?_⟩
    obtain ⟨a0, m0, r0, us, rfl, a1, a2, a3, a4⟩ := r2
    refine seq_if ⟨_, rfl, rfl, _, rfl, word_no (show ("marks" : Str) ≠ "take" by decide) ?_⟩
    refine seq_if ⟨_, rfl, rfl, _, rfl, word_no (show ("marks" : Str) ≠ "text" by decide) ?_⟩
    refine seq_if ⟨_, rfl, rfl, _, rfl, word_no (show ("marks" : Str) ≠ "kind" by decide) ?_⟩
    refine ⟨_, rfl, rfl, _, rfl, word_yes rfl ?_⟩
    refine ⟨_, rfl, _, rfl, a0, _, _, _, rfl, rfl, a1, rfl, by show 3 ≤ sizeLine; decide, fun a H2 n2 e2 h2 => ?_⟩
    have ei : inv d (.marks p s) = .marks p m := by simp only [inv, gx]
    refine z a pr [.ref m0] H2 (e1.trans e2) ?_
    rw [ei]
    exact ⟨h2, e2.ex hp, m0, rfl, e2.ex a2⟩
  | opn p =>
    replace hp : H1 pr = some (.tup (p.map V.int)) := hp
    obtain ⟨q, i, kd0, m0, its0, its', eq, g, hre, hd'⟩ := rowApp_some (show rowApp d p (.opn p) = some d' from ha)
    obtain ⟨h0, kd, m, its, h1, _⟩ := rowEd_opn_some hre
    have gx : gt p d = some (.part kd m its) := by rw [eq, gt_row g h0, h1]
    refine seq_if ⟨_, rfl, rfl, _, rfl, word_no (show ("open" : Str) ≠ "put" by decide) ?_⟩
    refine seq_if ⟨_, rfl, rfl, _, rfl, word_no (show ("open" : Str) ≠ "wrap" by decide) ?_⟩
    refine seq_asgN ⟨_, rfl, _, rfl, v, pr, d, _, p, rfl, rep, hp, gx, fun u2 r2 => ?_⟩
    obtain ⟨a0, m1, r0, us, rfl, a1, a2, a3, a4⟩ := r2
    refine seq_if ⟨_, rfl, rfl, _, rfl, word_no (show ("open" : Str) ≠ "take" by decide) ?_⟩
    refine seq_if ⟨_, rfl, rfl, _, rfl, word_no (show ("open" : Str) ≠ "text" by decide) ?_⟩
    refine seq_if ⟨_, rfl, rfl, _, rfl, word_no (show ("open" : Str) ≠ "kind" by decide) ?_⟩
    refine seq_if ⟨_, rfl, rfl, _, rfl, word_no (show ("open" : Str) ≠ "marks" by decide) ?_⟩
    refine ⟨_, rfl, _, rfl, a0, _, _, _, rfl, rfl, a1, rfl, _, _, rfl, lenT a3, _, rfl, a0, _, _, _, rfl, rfl, a1, rfl, _, rfl, a0, _, _, _, rfl, rfl, a1, rfl, by show 5 ≤ sizeLine; decide, fun a H2 n2 e2 h2 => ?_⟩
    have ei : inv d (.opn p) = .wrap p its.length kd m := by simp only [inv, gx]
    refine z a pr [.int (its.length : Nat), .str kd, .ref m1] H2 (e1.trans e2) ?_
    rw [ei]
    rw [a4.length] at h2
    exact ⟨h2, e2.ex hp, m1, rfl, e2.ex a2⟩
end
end K7

/-! ## K7X8 -/
/-! The law's steps. -/
namespace K7
open PySem PySem.Spec PyProof.Rows L2
/-! ### what an edit keeps -/
theorem hgt_sw : ∀ {p : List Int} {d y : It} (x : It), gt p d = some y → hgt (sw p x d) ≤ max (hgt d) (p.length + hgt x)
  | [], d, y, x, _ => by rw [sw_nil]; simp; omega
  | i :: p, d, y, x, h => by
    obtain ⟨k, m, its, z, rfl, hi, e, h1⟩ := gt_cons h
    have q := hgt_sw x h1
    rw [sw_part e, hgt, hgt, List.length_cons]
    have hz := hgts_mem (List.mem_of_getElem? e)
    have := hgts_le (l := its.set i.toNat (sw p x z)) (n := max (hgts its) (p.length + hgt x)) fun y hy => by
      rcases mem_set hy with h | h
      · have := hgts_mem h; omega
      · rw [h]; omega
    omega
theorem sh_sw : ∀ {p : List Int} {d y x : It}, gt p d = some y → Sh d → Sh x → Sh (sw p x d)
  | [], d, y, x, _, _, hx => by rw [sw_nil]; exact hx
  | i :: p, d, y, x, h, hd, hx => by
    obtain ⟨k, m, its, z, rfl, hi, e, h1⟩ := gt_cons h
    rw [sw_part e]
    have hd' : Shs its := hd
    refine (Shs_iff _).mpr fun y hy => ?_
    rcases mem_set hy with h | h
    · exact (Shs_iff its).mp hd' y h
    · rw [h]; exact sh_sw h1 ((Shs_iff its).mp hd' z (List.mem_of_getElem? e)) hx
theorem part_sw {p : List Int} {d y x : It} (h : gt p d = some y) (hd : isPart d = true) (hx : p = [] → isPart x = true) : isPart (sw p x d) = true := by
  cases p with
  | nil => rw [sw_nil]; exact hx rfl
  | cons i p =>
    obtain ⟨k, m, its, z, rfl, hi, e, h1⟩ := gt_cons h
    rw [sw_part e]; rfl
theorem rowEd_keep {its its' : List It} {i : Int} {e : Ed} (h : rowEd its i e = some its') (ok : EdOk e) : ∀ y ∈ its', (hgt y ≤ 7 + hgts its) ∧ (Shs its → Sh y) := by
  have it : ∀ y ∈ its, hgt y ≤ 7 + hgts its ∧ (Shs its → Sh y) := fun y hy => ⟨by have := hgts_mem hy; omega, fun s => (Shs_iff its).mp s y hy⟩
  intro y hy
  cases e with
  | put p x =>
    obtain ⟨_, _, rfl⟩ := rowEd_put_some h
    rcases List.mem_append.mp hy with m | m
    · exact it y (List.mem_of_mem_take m)
    · rcases List.mem_cons.mp m with m | m
      · rw [m]; exact ⟨by have := ok.2; omega, fun _ => ok.1⟩
      · exact it y (List.mem_of_mem_drop m)
  | take p =>
    obtain ⟨_, _, rfl⟩ := rowEd_take_some h
    rcases List.mem_append.mp hy with m | m
    · exact it y (List.mem_of_mem_take m)
    · exact it y (List.mem_of_mem_drop m)
  | wrap p n kd m =>
    obtain ⟨_, _, _, rfl⟩ := rowEd_wrap_some h
    rcases List.mem_append.mp hy with m | m
    · exact it y (List.mem_of_mem_take m)
    · rcases List.mem_cons.mp m with m | m
      · rw [m]
        have sub : ∀ z ∈ (its.drop i.toNat).take n.toNat, z ∈ its := fun z hz => List.mem_of_mem_drop (List.mem_of_mem_take hz)
        refine ⟨?_, fun s => (Shs_iff _).mpr fun z hz => (Shs_iff its).mp s z (sub z hz)⟩
        rw [hgt]
        have := hgts_le (n := hgts its) fun z hz => hgts_mem (sub z hz)
        omega
      · exact it y (List.mem_of_mem_drop m)
  | opn p =>
    obtain ⟨_, kd, ms, cs, hc, rfl⟩ := rowEd_opn_some h
    have hm := List.mem_of_getElem? hc
    rcases List.mem_append.mp hy with m | m
    · exact it y (List.mem_of_mem_take m)
    · rcases List.mem_append.mp m with m | m
      · refine ⟨?_, fun s => ?_⟩
        · have a1 := hgts_mem m
          have a2 := hgts_mem hm
          rw [hgt] at a2
          omega
        · have s1 : Sh (.part kd ms cs) := (Shs_iff its).mp s _ hm
          have s2 : Shs cs := s1
          exact (Shs_iff cs).mp s2 y m
      · exact it y (List.mem_of_mem_drop m)
  | text p s => cases h
  | kind p s => cases h
  | marks p s => cases h
theorem row_keep {d d' : It} {p : List Int} {e : Ed} (h : rowApp d p e = some d') (ok : EdOk e) : (Sh d → Sh d') ∧ hgt d' ≤ hgt d + 8 ∧ isPart d' = true := by
  obtain ⟨q, i, kd, m, its, its', eq, g, hre, rfl⟩ := rowApp_some h
  have kp := rowEd_keep hre ok
  have hd := hgt_gt g
  rw [hgt] at hd
  refine ⟨fun s => sh_sw g s ?_, ?_, ?_⟩
  · have s2 : Shs its := sh_gt g s
    exact (Shs_iff _).mpr fun y hy => (kp y hy).2 s2
  · have := hgt_sw (.part kd m its') g
    rw [hgt] at this
    have := hgts_le (l := its') (n := 7 + hgts its) fun y hy => (kp y hy).1
    omega
  · cases q with
    | nil => rw [sw_nil]; rfl
    | cons j q =>
      obtain ⟨k2, m2, its2, z, rfl, _, e2, _⟩ := gt_cons g
      rw [sw_part e2]; rfl
theorem app_keep {d d' : It} {e : Ed} (h : app d e = some d') (ok : EdOk e) (hp : isPart d = true) : (Sh d → Sh d') ∧ hgt d' ≤ hgt d + 8 ∧ isPart d' = true := by
  cases e with
  | put p x => exact row_keep (show rowApp d p (.put p x) = some d' from h) ok
  | take p => exact row_keep (show rowApp d p (.take p) = some d' from h) ok
  | wrap p n kd m => exact row_keep (show rowApp d p (.wrap p n kd m) = some d' from h) ok
  | opn p => exact row_keep (show rowApp d p (.opn p) = some d' from h) ok
  | text p s =>
    obtain ⟨t, g, rfl⟩ := app_text_some h
    have h1 := hgt_sw (.txt s) g
    have h2 := hgt_gt g
    have hs : s.length ≤ 60 := ok
    rw [hgt] at h1
    rw [hgt] at h2
    refine ⟨fun sd => sh_sw g sd (by show s.length ≤ 1000; omega), by omega, part_sw g hp fun e => ?_⟩
    rw [e, gt_nil] at g
    rw [Option.some.inj g] at hp
    cases hp
  | kind p s =>
    obtain ⟨kd, m, its, g, rfl⟩ := app_kind_some h
    have h1 := hgt_sw (.part s m its) g
    have h2 := hgt_gt g
    rw [hgt] at h1
    rw [hgt] at h2
    exact ⟨fun sd => sh_sw g sd (show Shs its from sh_gt g sd), by omega, part_sw g hp fun _ => rfl⟩
  | marks p s =>
    obtain ⟨kd, m, its, g, rfl⟩ := app_marks_some h
    have h1 := hgt_sw (.part kd s its) g
    have h2 := hgt_gt g
    rw [hgt] at h1
    rw [hgt] at h2
    exact ⟨fun sd => sh_sw g sd (show Shs its from sh_gt g sd), by omega, part_sw g hp fun _ => rfl⟩
theorem inv_path (d : It) (e : Ed) : (inv d e).path = e.path := by
  cases e <;> simp only [inv] <;> (first | rfl | (split <;> rfl))

/-! ### steps -/
structure StepAt (S : List Addr) (H : Hp) (v : V) (d d2 : It) (e : Ed) (l : Addr) (now : V) (ea pr : Addr) (after : V) (rr : List V) : Prop where
  ref : v = .ref l
  at_ : H l = some (.lst [now, .ref ea, after])
  ns : l ∉ S
  rep : Rep H d now
  ed : RepE H e ea pr rr
  rep2 : Rep H d2 after
def Stp (S : List Addr) (H : Hp) (v : V) (d d2 : It) (e : Ed) : Prop := ∃ l now ea pr after rr, StepAt S H v d d2 e l now ea pr after rr
theorem Stp.chg {S T : List Addr} {H H' : Hp} {v : V} {d d2 : It} {e : Ed} (h : Stp S H v d d2 e) (c : Chg T H H') (hT : ∀ x ∈ T, x ∈ S) : Stp S H' v d d2 e := by
  obtain ⟨l, now, ea, pr, after, rr, h⟩ := h
  exact ⟨l, now, ea, pr, after, rr, h.ref, c.keep _ _ h.at_ fun m => h.ns (hT _ m), h.ns, h.rep.chg c, h.ed.chg c, h.rep2.chg c⟩
structure Walk (n : Nat) (ds : Nat → It) (es : Nat → Ed) : Prop where
  app : ∀ i, i < n → app (ds i) (es i) = some (ds (i + 1))
  inb : ∀ i, i ≤ n → InB (ds i)
  pl : ∀ i, i < n → (es i).path.length ≤ 22
structure Stps (S : List Addr) (H : Hp) (vals : List V) (n : Nat) (ds : Nat → It) (es : Nat → Ed) : Prop where
  len : vals.length = n
  walk : Walk n ds es
  at_ : ∀ i, i < n → ∃ x, vals[i]? = some x ∧ Stp S H x (ds i) (ds (i + 1)) (es i)
theorem Stps.chg {S T : List Addr} {H H' : Hp} {vals : List V} {n : Nat} {ds : Nat → It} {es : Nat → Ed} (h : Stps S H vals n ds es) (c : Chg T H H') (hT : ∀ x ∈ T, x ∈ S) : Stps S H' vals n ds es :=
  ⟨h.len, h.walk, fun i hi => by
    obtain ⟨x, h1, h2⟩ := h.at_ i hi
    exact ⟨x, h1, h2.chg c hT⟩⟩
theorem Stps.nil {S : List Addr} {H : Hp} {d : It} (hd : InB d) : Stps S H [] 0 (fun _ => d) (fun _ => .take []) :=
  ⟨rfl, ⟨fun i h => absurd h (Nat.not_lt_zero _), fun _ _ => hd, fun i h => absurd h (Nat.not_lt_zero _)⟩, fun i h => absurd h (Nat.not_lt_zero _)⟩
theorem Stps.snoc {S : List Addr} {H : Hp} {vals : List V} {n : Nat} {ds : Nat → It} {es : Nat → Ed} {e : Ed} {d2 : It} {x : V} (h : Stps S H vals n ds es) (ha : K7.app (ds n) e = some d2) (hi : InB d2) (hp : e.path.length ≤ 22) (hs : Stp S H x (ds n) d2 e) :
    Stps S H (vals ++ [x]) (n + 1) (fun i => if i ≤ n then ds i else d2) (fun i => if i < n then es i else e) where
  len := by rw [List.length_append, h.len]; rfl
  walk := {
    app := fun i hi' => by
      show K7.app (if i ≤ n then ds i else d2) (if i < n then es i else e) = some (if i + 1 ≤ n then ds (i + 1) else d2)
      by_cases c : i < n
      · rw [if_pos (by omega), if_pos c, if_pos (by omega)]; exact h.walk.app i c
      · have : i = n := by omega
        rw [if_pos (by omega), if_neg c, if_neg (by omega), this]; exact ha
    inb := fun i hi' => by
      show InB (if i ≤ n then ds i else d2)
      by_cases c : i ≤ n
      · rw [if_pos c]; exact h.walk.inb i c
      · rw [if_neg c]; exact hi
    pl := fun i hi' => by
      show (if i < n then es i else e).path.length ≤ 22
      by_cases c : i < n
      · rw [if_pos c]; exact h.walk.pl i c
      · rw [if_neg c]; exact hp }
  at_ := fun i hi' => by
    show ∃ y, (vals ++ [x])[i]? = some y ∧ Stp S H y (if i ≤ n then ds i else d2) (if i + 1 ≤ n then ds (i + 1) else d2) (if i < n then es i else e)
    by_cases c : i < n
    · rw [if_pos (show i ≤ n by omega), if_pos c, if_pos (show i + 1 ≤ n by omega)]
      obtain ⟨y, h1, h2⟩ := h.at_ i c
      exact ⟨y, by rw [List.getElem?_append_left (by rw [h.len]; exact c)]; exact h1, h2⟩
    · have e1 : i = n := by omega
      rw [if_pos (show i ≤ n by omega), if_neg c, if_neg (show ¬ i + 1 ≤ n by omega), e1]
      exact ⟨x, by rw [List.getElem?_append_right (by rw [h.len]; omega), h.len, Nat.sub_self]; rfl, hs⟩
section
variable {P : Program} {w : World} {K : PySem.W.Frag} {mg : Str → Option Value} {base : Heap} {k : Nat}
abbrev N_l_steps : List Str := ["_law_script", "_law_root", "_law_names", "_law_now", "_law_steps_here", "_law_at_here", "_law_edit_here", "_law_after"]
theorem sc_l_steps : FnScope N_l_steps ["_law_script", "_law_root", "_law_names"] (defScope (top 61)) := ⟨rfl, rfl, rfl, by decide +kernel, rfl, by decide +kernel, by decide +kernel⟩
def spSteps (K : PySem.W.Frag) : Sp := fun vs H Q _ => ∃ (a q : Addr) (v : V) (d : It) (ns : List Int) (m : Nat), vs = [.ref a, v, .ref q] ∧ (∀ H', Chg [q] H H' → SqL K H' a (ns.map V.int)) ∧ ns.length ≤ 63 ∧ Rep H d v ∧ Dc d ∧ Nam H q m ∧ m ≤ 20000 ∧
  ∀ l vals n ds es H', l ≠ q → H' l = some (.lst vals) → Stps [q, l] H' vals n ds es → ds 0 = d → n ≤ 63 → Chg [q] H H' → Q (.ref l) H'
structure StI (H : Hp) (a q : Addr) (v0 : V) (d : It) (l : Addr) (m i : Nat) (σ : L2.St) (H' : Hp) : Prop where
  ok : ∃ v vals n ds es v5 v6 v7, σ = [some (.ref a), some v0, some (.ref q), some v, some (.ref l), v5, v6, v7] ∧ H' l = some (.lst vals) ∧ Stps [q, l] H' vals n ds es ∧ ds 0 = d ∧ n ≤ i ∧ Rep H' (ds n) v ∧ isPart (ds n) = true ∧ Sh (ds n)
  nam : ∃ m', m' ≤ m + 12400 * i ∧ Nam H' q m'
  chg : Chg [q] H H'
theorem ok_steps (D : Df K mg "_law_steps" (top 61)) (B : Bn mg) (G_l_pool : Has P w K mg base k "_law_pool" (spPool K)) (G_l_edit : Has P w K mg base k "_law_edit" spEdit) (G_l_apply : Has P w K mg base k "_law_apply" spApply) (G_l_let : Has P w K mg base k "_law_let" spLet) : Has P w K mg base (k + 1) "_law_steps" (spSteps K) := by
  refine D.has sc_l_steps (fun _ _ _ _ _ _ us hl => match us, hl with | [_, _, _], _ => rfl) (fun vs H Q E h => ?_) (fun f cdv A outer s H vs Q E hr h => ?_)
  · obtain ⟨a, q, v, d, ns, m, rfl, _⟩ := h
    rfl
  obtain ⟨a, q, v, d, ns, m, rfl, hsq, hns, rep, dc, hn, hm, z⟩ := h
  refine ⟨_, (pss_cons (ps_set (i := 3) sc_l_steps.nd rfl (Or.inl rfl) (pv 1)) (pss_cons (ps_set (i := 4) sc_l_steps.nd rfl (Or.inl rfl) (pe_lstC pa_nil)) (pss_cons (ps_for PassesOwn.never rfl (pi_range2 rfl B.rng (pa_cons pe_int (pa_cons (pe_callB (call_max2 rfl) rfl B.mx (by decide +kernel) (pa_cons pe_int (pa_cons (pe_callB (call_min2 rfl) rfl B.mn (by decide +kernel) (pa_cons pe_int (pa_cons (pe_callB (call_lenK (K := K)) rfl B.len PySem.boot_len (pa_cons (pv 0) pa_nil)) pa_nil))) pa_nil))) pa_nil))) (pg_name (i := 5) sc_l_steps.nd rfl (Or.inl rfl)) (pss_cons (ps_set (i := 6) sc_l_steps.nd rfl (Or.inl rfl) (pe_has G_l_edit hr (pa_cons (pe_has G_l_pool hr (pa_cons (pv 0) (pa_cons (pv 5) pa_nil))) (pa_cons (pv 3) (pa_cons (pv 2) pa_nil))))) (pss_cons (ps_set (i := 7) sc_l_steps.nd rfl (Or.inl rfl) (pe_has G_l_apply hr (pa_cons (pv 3) (pa_cons (pv 6) pa_nil)))) (pss_one (ps_if (PW.pt (pw_and (pt_cmp (pc_notN (pv 7))) (pw_and1 (pt_val (pe_has G_l_let hr (pa_cons (pv 7) pa_nil)))))) (pss_cons (ps_expr (pe_bm PySem.F.plainAttrs_list PySem.F.slot_list_append PySem.F.type_list_append mt_appC (pv 4) (pa_cons (pe_lstC (pa_cons (pv 3) (pa_cons (pv 6) (pa_cons (pv 7) pa_nil)))) pa_nil))) (pss_one (ps_set (i := 3) sc_l_steps.nd rfl (Or.inl rfl) (pv 7)))) pss_nil))))) (pss_one (ps_ret (pv 4)))))), ?_⟩
  refine seq_asgN ⟨_, rfl, ?_⟩
  refine seq_asgN ⟨Nat.zero_le _, fun l H1 n1 e1 h1 => ?_⟩
  have lq : l ≠ q := (hn.ne n1).symm
  have mn : (if ((ns.map V.int).length : Int) < 63 then ((ns.map V.int).length : Int) else 63) ≤ 63 := by split <;> omega
  have mx : 4 ≤ (if (if ((ns.map V.int).length : Int) < 63 then ((ns.map V.int).length : Int) else 63) > 4 then (if ((ns.map V.int).length : Int) < 63 then ((ns.map V.int).length : Int) else 63) else 4) ∧ (if (if ((ns.map V.int).length : Int) < 63 then ((ns.map V.int).length : Int) else 63) > 4 then (if ((ns.map V.int).length : Int) < 63 then ((ns.map V.int).length : Int) else 63) else 4) ≤ 63 := by
    split <;> omega
  generalize hM : (if (if ((ns.map V.int).length : Int) < 63 then ((ns.map V.int).length : Int) else 63) > 4 then (if ((ns.map V.int).length : Int) < 63 then ((ns.map V.int).length : Int) else 63) else 4) = M at mx
  refine ⟨_, rfl, _, _, rfl, lenQ (hsq H1 e1.of), _, _, rfl, _, _, rfl, ?_⟩
  rw [hM]
  refine ⟨_, _, rfl, ⟨by decide, by decide, by omega, by omega⟩, for_range (lo := 1) (n := (M - 1).toNat) (StI H a q v d l m) ⟨⟨v, [], 0, fun _ => d, fun _ => .take [], none, none, none, rfl, h1, Stps.nil dc.b, rfl, Nat.le_refl _, rep.chg e1, dc.p, dc.s⟩, ⟨m, by omega, hn.ex e1⟩, e1.of⟩ ?_ ?_⟩
  · rintro i σ H2 hi ⟨⟨u, vals, n, ds, es, v5, v6, v7, rfl, hl, st, d0, ni, ru, pu, su⟩, ⟨m', hm', hnm⟩, c2⟩
    have i62 : i ≤ 61 := by omega
    refine seq_asgN ⟨_, rfl, _, rfl, a, ns, 1 + i, ?_, hsq H2 c2, by omega, fun p H3 n3 e3 h3 => ?_⟩
    · rfl
    have pq : p ≠ q := (hnm.ne n3).symm
    have pl : p ≠ l := (ne_of_none hl n3).symm
    have g3 : Gd H3 p q (m + 12400 * i) := ⟨pq, ⟨0, by omega, h3⟩, ⟨m', hm', hnm.ex e3⟩⟩
    have ib := st.walk.inb n (Nat.le_refl _)
    refine ⟨_, rfl, _, rfl, p, q, _, u, ds n, rfl, g3, by omega, ru.chg e3, pu, ib, fun e ea pr rr H4 re lp ok e4 g4 => ?_⟩
    have c4 : Chg [q] H2 H4 := Chg.hide e3.of e4 (fun x hx => by
      rcases List.mem_cons.mp hx with h | h
      · exact .inr h
      · exact .inl h) n3
    refine seq_asgN ⟨_, rfl, _, rfl, u, ea, pr, ds n, e, rr, rfl, ru.chg c4, re, by have := ib.w; omega, by omega, fun d2 u2 H5 ha e5 r5 => ?_, fun ha H5 e5 => ?_⟩
    · obtain ⟨k1, k2, k3⟩ := app_keep ha ok pu
      have hh := ib.h
      have c5 : Chg [q] H2 H5 := c4.to e5
      have hl5 : H5 l = some (.lst vals) := c5.keep _ _ hl (by simpa using lq)
      have stay : StI H a q v d l m (i + 1) [some (.ref a), some v, some (.ref q), some u, some (.ref l), some (.int (1 + (i : Int))), some (.ref ea), some u2] H5 :=
        ⟨⟨u, vals, n, ds, es, _, _, _, rfl, hl5, st.chg c5 (by simp), d0, by omega, ru.chg c5, pu, su⟩, by
          obtain ⟨_, _, ⟨m2, hm2, hn2⟩⟩ := g4.ex e5
          exact ⟨m2, by omega, hn2⟩, c2.trans c5⟩
      have nn : u2 ≠ .non := by
        intro e0
        rw [e0] at r5
        cases d2 with
        | txt s => cases (show V.non = V.str s from r5)
        | two s t => obtain ⟨_, e1, _⟩ := r5; cases e1
        | part _ _ _ => obtain ⟨_, _, _, _, e1, _⟩ := r5; cases e1
      refine ⟨_, rfl, _, rfl, yes (by rw [decide_eq_false nn]; rfl) ?_⟩
      refine ⟨_, rfl, u2, d2, rfl, by omega, r5, k1 su, fun bo H6 hbo e6 => ⟨_, rfl, ?_⟩⟩
      have hl6 := e6.ex hl5
      have c6 : Chg [q] H2 H6 := c5.to e6
      cases bo with
      | false =>
        refine iteF ?_
        exact ⟨⟨u, vals, n, ds, es, _, _, _, rfl, hl6, st.chg c6 (by simp), d0, by omega, ru.chg c6, pu, su⟩, by
          obtain ⟨_, _, ⟨m2, hm2, hn2⟩⟩ := (g4.ex e5).ex e6
          exact ⟨m2, by omega, hn2⟩, c2.trans c6⟩
      | true =>
        refine iteT ?_
        have ib2 : InB d2 := hbo.mp rfl
        refine seq_expr ⟨_, rfl, .inl ⟨rfl, _, SqL.of hl6⟩, _, rfl, _, rfl, _, rfl, by show 3 ≤ sizeLine; decide, fun r7 H7 n7 e7 h7 => ⟨l, vals, .ref r7, rfl, rfl, e7.ex hl6, szl (by rw [st.len]; omega), fun H8 w8 => ?_⟩⟩
        have hl7 := e7.ex hl6
        have c67 : Chg [q] H2 H7 := c6.to e7
        have c08 : Chg [q] H H8 := (c2.trans c67).wr w8 n1
        have c78 : Chg [q, l] H7 H8 := w8.chg hl7 (by simp)
        have c28 : Chg [q, l] H2 H8 := (c67.mono (by simp)).trans c78
        have c58 : Chg [q, l] H5 H8 := (e6.trans e7).of.trans c78
        have g6 := (g4.ex e5).ex e6
        obtain ⟨_, _, ⟨m2, hm2, hn2⟩⟩ := g6.ex e7
        have nrl : r7 ≠ l := (ne_of_none hl6 n7).symm
        have nrq : r7 ≠ q := g6.neq n7
        have sp : Stp [q, l] H8 (.ref r7) (ds n) d2 e := ⟨r7, u, ea, pr, u2, rr, rfl, by rw [w8.ne _ nrl]; exact h7, nm2 nrq nrl, ru.chg c28, (re.chg e5).chg c58, r5.chg c58⟩
        refine ⟨_, rfl, ?_⟩
        refine ⟨⟨u2, vals ++ [.ref r7], n + 1, _, _, _, _, _, rfl, w8.here, (st.chg c28 (fun x h => h)).snoc ha ib2 lp sp, by show (if 0 ≤ n then ds 0 else d2) = d; rw [if_pos (Nat.zero_le _)]; exact d0, by omega, ?_, ?_, ?_⟩, ⟨m2, by omega, hn2.wr w8 (Ne.symm lq)⟩, c08⟩
        · show Rep H8 (if n + 1 ≤ n then ds (n + 1) else d2) u2
          rw [if_neg (by omega)]; exact r5.chg c58
        · show isPart (if n + 1 ≤ n then ds (n + 1) else d2) = true
          rw [if_neg (by omega)]; exact k3
        · show Sh (if n + 1 ≤ n then ds (n + 1) else d2)
          rw [if_neg (by omega)]; exact k1 su
    · have c5 : Chg [q] H2 H5 := c4.to e5
      have hl5 : H5 l = some (.lst vals) := c5.keep _ _ hl (by simpa using lq)
      refine ⟨_, rfl, _, rfl, ?_⟩
      exact ⟨⟨u, vals, n, ds, es, _, _, _, rfl, hl5, st.chg c5 (by simp), d0, by omega, ru.chg c5, pu, su⟩, by
          obtain ⟨_, _, ⟨m2, hm2, hn2⟩⟩ := g4.ex e5
          exact ⟨m2, by omega, hn2⟩, c2.trans c5⟩
  · rintro σ H2 ⟨⟨u, vals, n, ds, es, v5, v6, v7, rfl, hl, st, d0, ni, ru, pu, su⟩, _, c2⟩
    exact ⟨_, rfl, z l vals n ds es H2 lq hl st d0 (by omega) c2⟩
end
end K7

/-! ## K7X9 -/
/-! The law itself. -/
namespace K7
open PySem PySem.Spec PyProof.Rows L2
theorem sq_ex {K : PySem.W.Frag} {H H' : Hp} {a : Addr} {xs : List V} (h : SqL K H a xs) (e : Ex H H') : SqL K H' a xs :=
  h.elim (fun h => .inl (h.elim (fun h => .inl (e.ex h)) fun ⟨o, h⟩ => .inr ⟨o, e.ex h⟩)) fun h => .inr h
/-- edits in a list -/
def EdV (H : Hp) (v : V) (e : Ed) : Prop := ∃ b pr rr, v = .ref b ∧ RepE H e b pr rr
theorem EdV.chg {T : List Addr} {H H' : Hp} {v : V} {e : Ed} (h : EdV H v e) (c : Chg T H H') : EdV H' v e := by
  obtain ⟨b, pr, rr, h1, h2⟩ := h
  exact ⟨b, pr, rr, h1, h2.chg c⟩
/-- the edits behind a list: its j-th is (f j) -/
def EdL (H : Hp) (l : Addr) (n : Nat) (f : Nat → Ed) : Prop := ∃ vals, H l = some (.lst vals) ∧ vals.length = n ∧ ∀ j, j < n → ∃ x, vals[j]? = some x ∧ EdV H x (f j)
theorem EdL.ex {H H' : Hp} {l : Addr} {n : Nat} {f : Nat → Ed} (h : EdL H l n f) (e : Ex H H') : EdL H' l n f := by
  obtain ⟨vals, h1, h2, h3⟩ := h
  exact ⟨vals, e.ex h1, h2, fun j hj => by
    obtain ⟨x, k1, k2⟩ := h3 j hj
    exact ⟨x, k1, k2.chg e⟩⟩
theorem EdL.put {H : Hp} {l : Addr} {n : Nat} {f : Nat → Ed} {v : V} (h : EdL H l n f) (hn : n < 1000) (hv : EdV H v (f n)) : ∃ vals, H l = some (.lst vals) ∧ vals.length < sizeLine ∧ ∀ H', Wr l (.lst (vals ++ [v])) H H' → EdL H' l (n + 1) f := by
  obtain ⟨vals, h1, h2, h3⟩ := h
  refine ⟨vals, h1, szl (by omega), fun H' w => ?_⟩
  have c : Chg [l] H H' := w.chg h1 (by simp)
  refine ⟨_, w.here, by rw [List.length_append, h2]; rfl, fun j hj => ?_⟩
  by_cases cj : j < n
  · obtain ⟨x, k1, k2⟩ := h3 j cj
    exact ⟨x, by rw [List.getElem?_append_left (by omega)]; exact k1, k2.chg c⟩
  · have ej : j = n := by omega
    rw [ej]
    exact ⟨v, by rw [List.getElem?_append_right (by omega), h2, Nat.sub_self]; rfl, hv.chg c⟩
section
variable {P : Program} {w : World} {K : PySem.W.Frag} {mg : Str → Option Value} {base : Heap} {k : Nat}
abbrev N_law : List Str := ["_law_script", "_law_names", "_law_pool_here", "_law_root", "_law_steps_here", "_law_now", "_law_backs", "_law_step", "_law_back", "_law_forths", "_law_k", "_law_forth"]
theorem sc_law : FnScope N_law ["_law_script"] (defScope (top 62)) := ⟨rfl, rfl, rfl, by decide +kernel, rfl, by decide +kernel, by decide +kernel⟩
def spLaw (K : PySem.W.Frag) : Sp := fun vs H Q _ => ∃ (a : Addr) (ns : List Int), vs = [.ref a] ∧ SqL K H a (ns.map V.int) ∧ ns.length ≤ 63 ∧ ∀ H', Q (.bl true) H'
/-- .. with its parameters told -/
def HasP (P : Program) (w : World) (K : PySem.W.Frag) (mg : Str → Option Value) (base : Heap) (k : Nat) (x : Str) (st : Stmt) (ps : List Str) (sp : Sp) : Prop :=
  ∃ (f : Addr) (fd : FuncData), mg x = some (.ref f) ∧ FunD K x x (defArgs st) (defBody st) (defScope st) [] [] f fd ∧ FnOk P w K mg base CX0 k f fd ps sp
theorem HasP.mono {x : Str} {st : Stmt} {ps : List Str} {sp : Sp} {j : Nat} (h : HasP P w K mg base j x st ps sp) (l : j ≤ k) : HasP P w K mg base k x st ps sp := by
  obtain ⟨f, fd, h1, h2, h3⟩ := h
  exact ⟨f, fd, h1, h2, h3.mono l⟩
theorem Df.hasP {x : Str} {st : Stmt} {N ps : List Str} {sp : Sp} (D : Df K mg x st) (S : FnScope N ps (defScope st))
    (hb : ∀ (kV doc pm : Value) (an : Option Addr) (cdv ct : Value) (us : List Value), us.length = ps.length → bindArgs (PySem.W.fnOf x x (defArgs st) (defBody st) (defScope st) .none kV doc pm an cdv ct) ⟨us, []⟩ = pure (ps.zip us))
    (len : ∀ vs H Q E, sp vs H Q E → vs.length = ps.length)
    (hbody : ∀ (f : Addr) (cdv : Value) (A : Around) (outer : List Env) (s : Shared) (H : Hp) (vs : List V) (Q : VK) (E : XK), Room k (A.deeper (envOfC x (defScope st) s.heap.objs.size f cdv)) → sp vs H Q E →
      ∃ t, PSs (cxOf CX0 P w K mg base N x (defScope st) f cdv A outer s H E).nox (defBody st) t ∧ t { nx := fun _ H' => Q .non H', rt := Q } (L2.start N vs) H) : HasP P w K mg base (k + 1) x st ps sp := by
  obtain ⟨f, fd, F, hm⟩ := D.ex
  refine ⟨f, fd, hm, F, F.ok S len fun cdv A outer s H vs Q E hr h => ?_⟩
  obtain ⟨t, h1, h2⟩ := hbody f cdv A outer s H vs Q E hr h
  exact ⟨t, h1.nox, h2⟩
theorem ok_law (D : Df K mg "law" (top 62)) (B : Bn mg) (G_l_pool : Has P w K mg base k "_law_pool" (spPool K)) (G_l_take : Has P w K mg base k "_law_take" spTakeG) (G_l_edge : Has P w K mg base k "_law_edge" spEdge) (G_l_part : Has P w K mg base k "_law_part" (spPartT 1))
    (G_l_steps : Has P w K mg base k "_law_steps" (spSteps K)) (G_inverse_edit : Has P w K mg base k "inverse_edit" spInverse) (G_apply_edit : Has P w K mg base k "apply_edit" spApplyEdit) (G_l_is_edit : Has P w K mg base k "_law_is_edit" spIsEdit) (G_l_same : Has P w K mg base k "_law_same" spSame) : HasP P w K mg base (k + 1) "law" (top 62) ["_law_script"] (spLaw K) := by
  refine D.hasP sc_law (fun _ _ _ _ _ _ us hl => match us, hl with | [_], _ => rfl) (fun vs H Q E h => ?_) (fun f cdv A outer s H vs Q E hr h => ?_)
  · obtain ⟨a, ns, rfl, _⟩ := h
    rfl
  obtain ⟨a, ns, rfl, hsq, hns, z⟩ := h
  refine ⟨_, (pss_cons (ps_set (i := 1) sc_law.nd rfl (Or.inl rfl) (pe_lstC pa_nil)) (pss_cons (ps_set (i := 2) sc_law.nd rfl (Or.inl rfl) (pe_has G_l_pool hr (pa_cons (pv 0) (pa_cons pe_int pa_nil)))) (pss_cons (ps_if (pt_cmpR op_eq (pe_has G_l_take hr (pa_cons (pv 2) (pa_cons pe_int pa_nil))) pe_int (nomark _)) (pss_one (ps_set (i := 3) sc_law.nd rfl (Or.inl rfl) (pe_has G_l_edge hr (pa_cons (pv 2) (pa_cons (pv 1) (pa_cons (pe_op op_sub (pe_has G_l_take hr (pa_cons (pv 2) (pa_cons pe_int pa_nil))) pe_int) pa_nil)))))) (pss_one (ps_set (i := 3) sc_law.nd rfl (Or.inl rfl) (pe_has G_l_part hr (pa_cons (pv 2) (pa_cons (pv 1) (pa_cons (pe_lstC (pa_cons pe_int (pa_cons pe_int (pa_cons pe_int (pa_cons pe_int (pa_cons pe_int pa_nil)))))) (pa_cons pe_int pa_nil)))))))) (pss_cons (ps_set (i := 4) sc_law.nd rfl (Or.inl rfl) (pe_has G_l_steps hr (pa_cons (pv 0) (pa_cons (pv 3) (pa_cons (pv 1) pa_nil))))) (pss_cons (ps_set (i := 5) sc_law.nd rfl (Or.inl rfl) (pv 3)) (pss_cons (ps_set (i := 6) sc_law.nd rfl (Or.inl rfl) (pe_lstC pa_nil)) (pss_cons (ps_for PassesOwn.never rfl (pi_list (pv 4)) (pg_name (i := 7) sc_law.nd rfl (Or.inl rfl)) (pss_cons (ps_set (i := 8) sc_law.nd rfl (Or.inl rfl) (pe_has G_inverse_edit hr (pa_cons (pv 5) (pa_cons (pe_ix ix_lstC (pv 7) pe_int (fun _ _ => rfl)) pa_nil)))) (pss_cons (ps_set (i := 5) sc_law.nd rfl (Or.inl rfl) (pe_has G_apply_edit hr (pa_cons (pv 5) (pa_cons (pe_ix ix_lstC (pv 7) pe_int (fun _ _ => rfl)) pa_nil)))) (pss_cons (ps_if (PW.pt (pw_or (pt_not (pt_val (pe_has G_l_is_edit hr (pa_cons (pv 8) pa_nil)))) (pw_or1 (pt_not (pt_val (pe_has G_l_same hr (pa_cons (pv 5) (pa_cons (pe_ix ix_lstC (pv 7) pe_int (fun _ _ => rfl)) pa_nil)))))))) (pss_one (ps_ret pe_bl)) pss_nil) (pss_one (ps_expr (pe_bm PySem.F.plainAttrs_list PySem.F.slot_list_append PySem.F.type_list_append mt_appC (pv 6) (pa_cons (pv 8) pa_nil)))))))) (pss_cons (ps_set (i := 9) sc_law.nd rfl (Or.inl rfl) (pe_lstC pa_nil)) (pss_cons (ps_for PassesOwn.never rfl (pi_range3 rfl B.rng (pa_cons (pe_op op_sub (pe_callB (call_lenK (K := K)) rfl B.len PySem.boot_len (pa_cons (pv 4) pa_nil)) pe_int) (pa_cons (pe_un un_neg pe_int) (pa_cons (pe_un un_neg pe_int) pa_nil)))) (pg_name (i := 10) sc_law.nd rfl (Or.inl rfl)) (pss_cons (ps_set (i := 11) sc_law.nd rfl (Or.inl rfl) (pe_has G_inverse_edit hr (pa_cons (pv 5) (pa_cons (pe_ix ix_lstC (pv 6) (pv 10) (fun _ _ => rfl)) pa_nil)))) (pss_cons (ps_set (i := 5) sc_law.nd rfl (Or.inl rfl) (pe_has G_apply_edit hr (pa_cons (pv 5) (pa_cons (pe_ix ix_lstC (pv 6) (pv 10) (fun _ _ => rfl)) pa_nil)))) (pss_cons (ps_if (PW.pt (pw_or (pt_not (pt_val (pe_has G_l_is_edit hr (pa_cons (pv 11) pa_nil)))) (pw_or1 (pt_not (pt_val (pe_has G_l_same hr (pa_cons (pv 5) (pa_cons (pe_ix ix_lstC (pe_ix ix_lstC (pv 4) (pv 10) (fun _ _ => rfl)) pe_int (fun _ _ => rfl)) pa_nil)))))))) (pss_one (ps_ret pe_bl)) pss_nil) (pss_one (ps_expr (pe_bm PySem.F.plainAttrs_list PySem.F.slot_list_append PySem.F.type_list_append mt_appC (pv 9) (pa_cons (pv 11) pa_nil)))))))) (pss_cons (ps_for PassesOwn.never rfl (pi_range1 rfl B.rng (pa_cons (pe_callB (call_lenK (K := K)) rfl B.len PySem.boot_len (pa_cons (pv 4) pa_nil)) pa_nil)) (pg_name (i := 10) sc_law.nd rfl (Or.inl rfl)) (pss_cons (ps_set (i := 5) sc_law.nd rfl (Or.inl rfl) (pe_has G_apply_edit hr (pa_cons (pv 5) (pa_cons (pe_ix ix_lstC (pv 9) (pe_op op_sub (pe_op op_sub (pe_callB (call_lenK (K := K)) rfl B.len PySem.boot_len (pa_cons (pv 4) pa_nil)) pe_int) (pv 10)) (fun _ _ => rfl)) pa_nil)))) (pss_one (ps_if (pt_not (pt_val (pe_has G_l_same hr (pa_cons (pv 5) (pa_cons (pe_ix ix_lstC (pe_ix ix_lstC (pv 4) (pv 10) (fun _ _ => rfl)) pe_int (fun _ _ => rfl)) pa_nil))))) (pss_one (ps_ret pe_bl)) pss_nil)))) (pss_one (ps_ret pe_bl)))))))))))), ?_⟩
  refine seq_asgN ⟨Nat.zero_le _, fun q H1 n1 e1 h1 => ?_⟩
  refine seq_asgN ⟨_, rfl, a, ns, 0, rfl, sq_ex hsq e1, by decide, fun p H2 n2 e2 h2 => ?_⟩
  have g2 : Gd H2 p q 0 := ⟨(ne_of_none h1 n2).symm, ⟨0, Nat.le_refl _, h2⟩, ⟨0, Nat.le_refl _, [], rfl, fun s h => (by cases h), e2.ex h1⟩⟩
  have e02 := e1.trans e2
  have n2' : H p = none := e1.backE n2
  have hide : ∀ {H'}, Chg [p, q] H2 H' → Ex H H' := fun {H'} c => by
    refine ⟨fun x o hx _ => c.keep x o (e02.ex hx) (nm2 (ne_of_none hx n2') (ne_of_none hx n1)), fun h => c.tup (e02.ex h), fun h => c.frz (e02.ex h)⟩
  refine seq_cut (fun σ' H' => ∃ v d, σ' = [some (.ref a), some (.ref q), some (.ref p), some v, none, none, none, none, none, none, none, none] ∧ Rep H' d v ∧ Dc d ∧ Gd H' p q 14000 ∧ Ex H H') (fun N hN => ?_) ?_
  · refine ⟨_, rfl, p, q, 0, 8, rfl, g2, by decide, by decide, by decide, fun r H3 r0 r1 e3 g3 => ⟨rfl, _, rfl, ite2 (fun _ => ?_) (fun _ => ?_)⟩⟩
    · refine ⟨_, rfl, _, rfl, _, rfl, p, q, _, 2, rfl, g3, by decide, by decide, by decide, fun sh H4 s0 s1 e4 g4 => ⟨_, _, rfl, rfl, p, q, _, sh - 1, rfl, by omega, g4, by decide, fun v d H5 r5 dc e5 g5 => ?_⟩⟩
      exact hN _ _ ⟨v, d, rfl, r5, dc, g5.mono (by decide), hide ((e3.trans e4).trans e5)⟩
    · refine ⟨_, rfl, _, rfl, by show 5 ≤ sizeLine; decide, fun bu H4 n4 e4 h4 => ?_⟩
      have g4 := g3.ex e4
      refine ⟨p, q, bu, 1, 59, 400, 3, 1, rfl, by decide, by decide, ⟨g4, h4, g3.nep n4, g3.neq n4, by decide, by decide, by decide, by decide, by decide, by decide⟩, fun v d H5 x' y' z' ip o => ?_⟩
      have c5 : Chg [p, q] H3 H5 := Chg.hide e4.of o.chg (by
        intro x hx
        rcases List.mem_cons.mp hx with e | hx
        · rw [e]; simp
        · rcases List.mem_cons.mp hx with e | hx
          · rw [e]; simp
          · exact .inr (List.mem_singleton.mp hx)) n4
      have o1 := o.cx
      have o2 := o.cy
      have o3 := o.cz
      have o4 := o.ht
      have o5 := o.xx
      exact hN _ _ ⟨v, d, rfl, o.rep, ⟨⟨by omega, by omega, by omega, by omega, o.wd⟩, ip, o.good.sh⟩, o.gd.mono (by omega), hide (e3.trans c5)⟩
  rintro σ3 H3 ⟨v, d, rfl, r3, dc, g3, e3⟩
  obtain ⟨_, _, ⟨m, hm, hnm⟩⟩ := g3
  refine seq_asgN ⟨_, rfl, _, rfl, _, rfl, a, q, v, d, ns, m, rfl, fun H' c => sq_ex hsq (Chg.hide e3 c (fun x h => .inr (List.mem_singleton.mp h)) n1), hns, r3, dc, hnm, by omega, fun l vals n ds es H4 lq hl st d0 n63 c4 => ?_⟩
  have r4 := r3.chg c4
  rw [← d0] at r4
  refine seq_asgN ⟨_, rfl, ?_⟩
  refine seq_asgN ⟨Nat.zero_le _, fun lb H5 n5 e5 h5 => ?_⟩
  have wk := st.walk
  have hi : ∀ {i}, i ≤ n → wid (ds i) ≤ 1000 ∧ hgt (ds i) ≤ 20 := fun {i} h => by
    have := wk.inb i h
    exact ⟨by have := this.w; omega, by have := this.h; omega⟩
  have iv : ∀ {i}, i < n → app (ds (i + 1)) (inv (ds i) (es i)) = some (ds i) := fun {i} h => inv_app (wk.app i h)
  have iv2 : ∀ {i}, i < n → app (ds i) (inv (ds (i + 1)) (inv (ds i) (es i))) = some (ds (i + 1)) := fun {i} h => inv_app (iv h)
  have ip : ∀ {i}, i < n → (inv (ds i) (es i)).path.length ≤ 40 := fun {i} h => by rw [inv_path]; have := wk.pl i h; omega
  have ip2 : ∀ {i}, i < n → (inv (ds (i + 1)) (inv (ds i) (es i))).path.length ≤ 40 := fun {i} h => by rw [inv_path]; exact ip h
  refine seq_cut (fun σ' H' => ∃ u v7 v8, σ' = [some (.ref a), some (.ref q), some (.ref p), some v, some (.ref l), some u, some (.ref lb), v7, v8, none, none, none] ∧ Ex H4 H' ∧ Rep H' (ds n) u ∧ EdL H' lb n (fun j => inv (ds j) (es j))) (fun N hN => ?_) ?_
  · refine ⟨_, rfl, l, rfl, ⟨_, SqL.of (e5.ex hl)⟩, for_list (K := K) (a := l) (xs := vals) (fun i σ' H' => ∃ u v7 v8, σ' = [some (.ref a), some (.ref q), some (.ref p), some v, some (.ref l), some u, some (.ref lb), v7, v8, none, none, none] ∧ Ex H4 H' ∧ Rep H' (ds i) u ∧ EdL H' lb i (fun j => inv (ds j) (es j)))
      ⟨v, none, none, rfl, e5, r4.chg e5, [], h5, rfl, fun j h => absurd h (Nat.not_lt_zero _)⟩ (fun i σ' H' _ ⟨_, _, _, _, e, _⟩ => SqL.of (e.ex hl)) ?_ ?_⟩
    · rintro i x σ6 H6 hx ⟨u, v7, v8, rfl, e6, r6, el⟩
      have hin : i < n := by have := lt_of_get hx; rw [st.len] at this; exact this
      obtain ⟨x', hx', sp⟩ := st.at_ i hin
      rw [hx'] at hx
      obtain rfl := Option.some.inj hx
      obtain ⟨r, now, ea, pr, after, rr, sa⟩ := sp.chg e6 (by simp)
      obtain rfl := sa.ref
      have ha := wk.app i hin
      refine seq_asgN ⟨_, rfl, _, rfl, r, _, _, _, rfl, rfl, sa.at_, rfl, u, ea, pr, ds i, ds (i + 1), es i, rr, rfl, r6, sa.ed, ha, wk.inb _ hin, (hi (by omega)).1, by have := wk.pl i hin; omega, fun b' pr' rr' H7 e7 re7 => ?_⟩
      refine seq_asgN ⟨_, rfl, _, rfl, r, _, _, _, rfl, rfl, e7.ex sa.at_, rfl, u, ea, pr, ds i, ds (i + 1), es i, rr, rfl, r6.chg e7, sa.ed.chg e7, ha, wk.inb _ hin, (hi (by omega)).1, by have := wk.pl i hin; omega, fun u2 H8 e8 r8 => ?_⟩
      have e68 := e7.trans e8
      refine seq_if ⟨_, rfl, _, b', pr', rr', rfl, re7.chg e8, fun H9 e9 => ⟨_, rfl, ?_⟩⟩
      have e69 := e68.trans e9
      refine ⟨_, rfl, _, rfl, r, _, _, _, rfl, rfl, e69.ex sa.at_, rfl, u2, after, ds (i + 1), rfl, r8.chg e9, sa.rep2.chg e69, (hi hin).2, _, rfl, ?_⟩
      obtain ⟨bv, hb1, hb2, hb3⟩ := (el.ex e69).put (v := .ref b') (by omega) ⟨b', pr', rr', rfl, (re7.chg e8).chg e9⟩
      refine ⟨_, rfl, .inl ⟨rfl, _, SqL.of hb1⟩, _, rfl, lb, bv, _, rfl, rfl, hb1, hb2, fun H10 w10 => ?_⟩
      exact ⟨u2, _, _, rfl, (e6.trans e69).wr w10 n5, (r8.chg e9).chg (w10.chg (S := [lb]) hb1 (by simp)), hb3 H10 w10⟩
    · rintro σ6 H6 ⟨u, v7, v8, rfl, e6, r6, el⟩
      rw [st.len] at r6 el
      exact hN _ _ ⟨u, v7, v8, rfl, e6, r6, el⟩
  rintro σ6 H6 ⟨u, v7, v8, rfl, e6, r6, el⟩
  refine seq_asgN ⟨Nat.zero_le _, fun lf H7 n7 e7 h7 => ?_⟩
  have st7 := st.chg e6 (by simp)
  have hl7 := e6.ex hl
  have rg : RgC ((vals.length : Nat) - 1 : Int) (-1) (-1) n := by
    have h := RgC.neg (i := ((vals.length : Nat) - 1 : Int)) (j := -1) (by rw [st.len]; omega) (by rw [st.len]; omega) (by decide) (by decide)
    rw [show (((vals.length : Nat) - 1 : Int) - (-1)).toNat = n by rw [st.len]; omega] at h
    exact h
  have el7 := el
  have r7 := r6.chg e7
  refine seq_cut (fun σ' H' => ∃ u v10 v11, σ' = [some (.ref a), some (.ref q), some (.ref p), some v, some (.ref l), some u, some (.ref lb), v7, v8, some (.ref lf), v10, v11] ∧ Ex H6 H' ∧ Rep H' (ds 0) u ∧ EdL H' lf n (fun j => inv (ds (n - 1 - j + 1)) (inv (ds (n - 1 - j)) (es (n - 1 - j))))) (fun N hN => ?_) ?_
  · refine ⟨_, rfl, _, _, rfl, lenL (e7.ex hl7), _, _, rfl, rfl, _, rfl, _, rfl, _, _, _, n, rfl, rg, for_rangeC (n := n) (fun i σ' H' => ∃ u v10 v11, σ' = [some (.ref a), some (.ref q), some (.ref p), some v, some (.ref l), some u, some (.ref lb), v7, v8, some (.ref lf), v10, v11] ∧ Ex H6 H' ∧ Rep H' (ds (n - i)) u ∧ EdL H' lf i (fun j => inv (ds (n - 1 - j + 1)) (inv (ds (n - 1 - j)) (es (n - 1 - j)))))
      ⟨u, none, none, rfl, e7, r7, [], h7, rfl, fun j h => absurd h (Nat.not_lt_zero _)⟩ ?_ ?_⟩
    · rintro i σ8 H8 hi8 ⟨u8, v10, v11, rfl, e8, r8, fl⟩
      obtain ⟨j, ej, ej2, ej3⟩ : ∃ j, n - i = j + 1 ∧ n - (i + 1) = j ∧ n - 1 - i = j := ⟨n - i - 1, by omega, by omega, by omega⟩
      rw [ej] at r8
      have jn : j < n := by omega
      have ei : ((vals.length : Nat) - 1 : Int) + (i : Nat) * (-1) = (j : Int) := by rw [st.len]; omega
      rw [ei]
      obtain ⟨bv, hb1, hb2, hb3⟩ := el7.ex e8
      obtain ⟨bx, hbx, b, pr, rr, rfl, re⟩ := hb3 j jn
      refine seq_asgN ⟨_, rfl, _, rfl, _, rfl, lb, _, _, _, rfl, rfl, hb1, atI_nat hbx, u8, b, pr, ds (j + 1), ds j, _, rr, rfl, r8, re, iv jn, wk.inb _ (by omega), (hi jn).1, ip jn, fun b' pr' rr' H9 e9 re9 => ?_⟩
      refine seq_asgN ⟨_, rfl, _, rfl, _, rfl, lb, _, _, _, rfl, rfl, e9.ex hb1, atI_nat hbx, u8, b, pr, ds (j + 1), ds j, _, rr, rfl, r8.chg e9, re.chg e9, iv jn, wk.inb _ (by omega), (hi jn).1, ip jn, fun u10 H10 e10 r10 => ?_⟩
      have e810 := e9.trans e10
      refine seq_if ⟨_, rfl, _, b', pr', rr', rfl, re9.chg e10, fun H11 e11 => ⟨_, rfl, ?_⟩⟩
      have e811 := e810.trans e11
      obtain ⟨sx, hsx, sp⟩ := st7.at_ j jn
      obtain ⟨r, now, ea, pr2, after, rr2, sa⟩ := sp.chg (e8.trans e811) (by simp)
      obtain rfl := sa.ref
      refine ⟨_, rfl, _, rfl, _, rfl, l, _, _, _, rfl, rfl, (e8.trans e811).ex hl7, atI_nat hsx, r, _, _, _, rfl, rfl, sa.at_, rfl, u10, now, ds j, rfl, r10.chg e11, sa.rep, (hi (by omega)).2, _, rfl, ?_⟩
      obtain ⟨fv, hf1, hf2, hf3⟩ := (fl.ex e811).put (v := .ref b') (by omega) ⟨b', pr', rr', rfl, by
        show RepE H11 (inv (ds (n - 1 - i + 1)) (inv (ds (n - 1 - i)) (es (n - 1 - i)))) b' pr' rr'
        rw [ej3]
        exact (re9.chg e10).chg e11⟩
      refine ⟨_, rfl, .inl ⟨rfl, _, SqL.of hf1⟩, _, rfl, lf, fv, _, rfl, rfl, hf1, hf2, fun H12 w12 => ?_⟩
      exact ⟨u10, _, _, rfl, (e8.trans e811).wr w12 n7, by rw [ej2]; exact (r10.chg e11).chg (w12.chg (S := [lf]) hf1 (by simp)), hf3 H12 w12⟩
    · rintro σ8 H8 ⟨u8, v10, v11, rfl, e8, r8, fl⟩
      rw [Nat.sub_self] at r8
      exact hN _ _ ⟨u8, v10, v11, rfl, e8, r8, fl⟩
  rintro σ8 H8 ⟨u8, v10, v11, rfl, e8, r8, fl⟩
  have st8 := st7.chg e8 (by simp)
  have hl8 := e8.ex hl7
  refine seq_cut (fun σ' H' => True) (fun N hN => ?_) (fun σ' H' _ => z H')
  refine ⟨_, rfl, _, _, rfl, lenL hl8, _, rfl, by rw [st.len]; omega, by rw [st.len]; omega, for_range (lo := 0) (n := ((vals.length : Nat) : Int).toNat) (fun i σ' H' => ∃ u v10, σ' = [some (.ref a), some (.ref q), some (.ref p), some v, some (.ref l), some u, some (.ref lb), v7, v8, some (.ref lf), v10, v11] ∧ Ex H8 H' ∧ Rep H' (ds i) u)
    ⟨u8, v10, rfl, Chg.refl _, r8⟩ ?_ (fun σ' H' _ => hN _ _ trivial)⟩
  rintro i σ9 H9 hi9 ⟨u9, w10, rfl, e9, r9⟩
  have jn : i < n := by rw [st.len] at hi9; omega
  have st9 := st8.chg e9 (by simp)
  have hl9 := e9.ex hl8
  obtain ⟨fv, hf1, hf2, hf3⟩ := fl.ex e9
  obtain ⟨fx, hfx, b, pr, rr, rfl, re⟩ := hf3 (n - 1 - i) (by omega)
  have en : n - 1 - (n - 1 - i) = i := by omega
  have re' : RepE H9 (inv (ds (i + 1)) (inv (ds i) (es i))) b pr rr := by
    have h : RepE H9 (inv (ds (n - 1 - (n - 1 - i) + 1)) (inv (ds (n - 1 - (n - 1 - i))) (es (n - 1 - (n - 1 - i))))) b pr rr := re
    rw [en] at h
    exact h
  have ea9 : atI fv (((vals.length : Nat) : Int) - 1 - (0 + (i : Int))) = some (.ref b) := by
    rw [st.len, show ((n : Int) - 1 - (0 + (i : Int))) = ((n - 1 - i : Nat) : Int) by omega]
    exact atI_nat hfx
  refine seq_asgN ⟨_, rfl, _, rfl, _, rfl, _, _, rfl, lenL hl9, _, _, rfl, rfl, _, rfl, _, _, rfl, rfl, lf, _, _, _, rfl, rfl, hf1, ea9, u9, b, pr, ds i, ds (i + 1), _, rr, rfl, r9, re', iv2 jn, wk.inb _ jn, (hi (by omega)).1, ip2 jn, fun u10 H10 e10 r10 => ?_⟩
  obtain ⟨sx, hsx, sp⟩ := st9.at_ i jn
  obtain ⟨r, now, ea, pr2, after, rr2, sa⟩ := sp.chg e10 (by simp)
  obtain rfl := sa.ref
  have hs0 : atI vals (0 + (i : Int)) = some (.ref r) := by rw [Int.zero_add]; exact atI_nat hsx
  refine ⟨_, rfl, _, rfl, _, rfl, l, _, _, _, rfl, rfl, e10.ex hl9, hs0, r, _, _, _, rfl, rfl, sa.at_, rfl, u10, after, ds (i + 1), rfl, r10, sa.rep2, (hi jn).2, _, rfl, ?_⟩
  exact ⟨u10, _, rfl, e9.trans e10, r10⟩
end
end K7

/-! ## K7Y1 -/
/-! The promises of all defs. Printed by gen_asm.py. -/
namespace K7
open PySem PySem.Spec PyProof.Rows L2

structure Defs (K : PySem.W.Frag) (mg : Str → Option Value) : Prop where
  d_l_pool : Df K mg "_law_pool" (top 30)
  d_l_take : Df K mg "_law_take" (top 31)
  d_l_letters : Df K mg "_law_letters" (top 33)
  d_l_prose : Df K mg "_law_prose" (top 36)
  d_l_name : Df K mg "_law_name" (top 34)
  d_l_marks : Df K mg "_law_marks" (top 35)
  d_l_text : Df K mg "_law_text" (top 37)
  d_l_leaf : Df K mg "_law_leaf" (top 41)
  d_l_part : Df K mg "_law_part" (top 39)
  d_l_item : Df K mg "_law_item" (top 38)
  d_l_wrapped : Df K mg "_law_wrapped" (top 40)
  d_l_full_row : Df K mg "_law_full_row" (top 42)
  d_l_full_count : Df K mg "_law_full_count" (top 43)
  d_l_full_prose : Df K mg "_law_full_prose" (top 44)
  d_l_full_refs : Df K mg "_law_full_refs" (top 46)
  d_l_full_depth : Df K mg "_law_full_depth" (top 45)
  d_l_edge : Df K mg "_law_edge" (top 47)
  d_l_same : Df K mg "_law_same" (top 32)
  d_l_swap : Df K mg "_law_swap" (top 55)
  d_l_sizes : Df K mg "_law_sizes" (top 58)
  d_l_paths : Df K mg "_law_paths" (top 48)
  d_l_at : Df K mg "_law_at" (top 54)
  d_l_let : Df K mg "_law_let" (top 59)
  d_l_is_edit : Df K mg "_law_is_edit" (top 60)
  d_l_row_edit : Df K mg "_law_row_edit" (top 56)
  d_l_apply : Df K mg "_law_apply" (top 57)
  d_l_index : Df K mg "_law_index" (top 49)
  d_l_goals : Df K mg "_law_goals" (top 50)
  d_l_road : Df K mg "_law_road" (top 51)
  d_l_filled : Df K mg "_law_filled" (top 52)
  d_l_edit : Df K mg "_law_edit" (top 53)
  d_is_part : Df K mg "is_part" (top 10)
  d_item_at : Df K mg "item_at" (top 12)
  d_part_at : Df K mg "part_at" (top 13)
  d_owner_at : Df K mg "owner_at" (top 17)
  d_with_item : Df K mg "with_item" (top 14)
  d_with_items : Df K mg "with_items" (top 18)
  d_put_item : Df K mg "put_item" (top 19)
  d_take_item : Df K mg "take_item" (top 20)
  d_change_text : Df K mg "change_text" (top 21)
  d_change_kind : Df K mg "change_kind" (top 22)
  d_change_marks : Df K mg "change_marks" (top 23)
  d_wrap_items : Df K mg "wrap_items" (top 24)
  d_open_part : Df K mg "open_part" (top 25)
  d_apply_edit : Df K mg "apply_edit" (top 27)
  d_inverse_edit : Df K mg "inverse_edit" (top 28)
  d_l_steps : Df K mg "_law_steps" (top 61)
  d_law : Df K mg "law" (top 62)
/-- the table of the deeds -/
structure Tab (w : World) (K : PySem.W.Frag) (mg : Str → Option Value) (dD : Addr) : Prop where
  deeds : mg "DEEDS" = some (.ref dD)
  put_item : ∃ f, mg "put_item" = some (.ref f) ∧ KDct K w dD "put" (.ref f)
  take_item : ∃ f, mg "take_item" = some (.ref f) ∧ KDct K w dD "take" (.ref f)
  change_text : ∃ f, mg "change_text" = some (.ref f) ∧ KDct K w dD "text" (.ref f)
  change_kind : ∃ f, mg "change_kind" = some (.ref f) ∧ KDct K w dD "kind" (.ref f)
  change_marks : ∃ f, mg "change_marks" = some (.ref f) ∧ KDct K w dD "marks" (.ref f)
  wrap_items : ∃ f, mg "wrap_items" = some (.ref f) ∧ KDct K w dD "wrap" (.ref f)
  open_part : ∃ f, mg "open_part" = some (.ref f) ∧ KDct K w dD "open" (.ref f)
section
variable {P : Program} {w : World} {K : PySem.W.Frag} {mg : Str → Option Value} {base : Heap} {k : Nat}
theorem vac_part (D : Df K mg "_law_part" (top 39)) : Has P w K mg base (k + 1) "_law_part" (spPartT 7) := by
  refine D.has sc_l_part (fun _ _ _ _ _ _ us hl => match us, hl with | [_, _, _, _], _ => rfl) (fun vs H Q E h => ?_) (fun f cdv A outer s H vs Q E hr h => ?_)
  · obtain ⟨p, q, bu, b, x, y, z, t, rfl, h1, h2, _⟩ := h
    omega
  · obtain ⟨p, q, bu, b, x, y, z, t, rfl, h1, h2, _⟩ := h
    omega
theorem law_has {dD : Addr} (D : Defs K mg) (B : Bn mg) (tab : Tab w K mg dD) (W : Has P w K mg base 20 "within_bounds" spWithin) : HasP P w K mg base 100 "law" (top 62) ["_law_script"] (spLaw K) := by
  have h1 : Has P w K mg base 1 "_law_pool" (spPool K) := ok_pool D.d_l_pool B
  have h2 : Has P w K mg base 1 "_law_take" spTake := ok_take D.d_l_take B
  have h3 : Has P w K mg base 1 "_law_take" spTakeG := takeG h2
  have h4 : Has P w K mg base 2 "_law_letters" spLetters := ok_letters D.d_l_letters B (G_l_take := h2.mono (by decide : 1 ≤ 1))
  have h5 : Has P w K mg base 2 "_law_prose" spProse := ok_prose D.d_l_prose B (G_l_take := h2.mono (by decide : 1 ≤ 1))
  have h6 : Has P w K mg base 3 "_law_name" spName := ok_name D.d_l_name B (G_l_take := h2.mono (by decide : 1 ≤ 2)) (G_l_letters := h4.mono (by decide : 2 ≤ 2))
  have h7 : Has P w K mg base 3 "_law_name" spNameG := nameG h6
  have h8 : Has P w K mg base 2 "_law_prose" spProseG := proseG h5
  have h9 : Has P w K mg base 4 "_law_marks" spMarks := ok_marks D.d_l_marks B (G_l_take := h3.mono (by decide : 1 ≤ 3)) (G_l_name := h7.mono (by decide : 3 ≤ 3))
  have h10 : Has P w K mg base 3 "_law_text" spText := ok_text D.d_l_text B (G_l_take := h2.mono (by decide : 1 ≤ 2)) (G_l_prose := h5.mono (by decide : 2 ≤ 2))
  have h11 : Has P w K mg base 4 "_law_leaf" spLeaf := ok_leaf D.d_l_leaf B (G_l_take := h3.mono (by decide : 1 ≤ 3)) (G_l_name := h7.mono (by decide : 3 ≤ 3)) (G_l_prose := h8.mono (by decide : 2 ≤ 3))
  have h12 : Has P w K mg base 1 "_law_part" (spPartT 7) := vac_part (k := 0) D.d_l_part
  have h13 : Has P w K mg base 4 "_law_item" (spItemT 7) := ok_item (T := 7) D.d_l_item B (G_l_take := h3.mono (by decide : 1 ≤ 3)) (G_l_name := h7.mono (by decide : 3 ≤ 3)) (G_l_text := h10.mono (by decide : 3 ≤ 3)) (G_l_part := h12.mono (by decide : 1 ≤ 3))
  have h14 : Has P w K mg base 5 "_law_part" (spPartT 6) := ok_part (T := 6) D.d_l_part B (G_l_take := h3.mono (by decide : 1 ≤ 4)) (G_l_name := h7.mono (by decide : 3 ≤ 4)) (G_l_marks := h9.mono (by decide : 4 ≤ 4)) (G_l_item := h13.mono (by decide : 4 ≤ 4))
  have h15 : Has P w K mg base 6 "_law_item" (spItemT 6) := ok_item (T := 6) D.d_l_item B (G_l_take := h3.mono (by decide : 1 ≤ 5)) (G_l_name := h7.mono (by decide : 3 ≤ 5)) (G_l_text := h10.mono (by decide : 3 ≤ 5)) (G_l_part := h14.mono (by decide : 5 ≤ 5))
  have h16 : Has P w K mg base 7 "_law_part" (spPartT 5) := ok_part (T := 5) D.d_l_part B (G_l_take := h3.mono (by decide : 1 ≤ 6)) (G_l_name := h7.mono (by decide : 3 ≤ 6)) (G_l_marks := h9.mono (by decide : 4 ≤ 6)) (G_l_item := h15.mono (by decide : 6 ≤ 6))
  have h17 : Has P w K mg base 8 "_law_item" (spItemT 5) := ok_item (T := 5) D.d_l_item B (G_l_take := h3.mono (by decide : 1 ≤ 7)) (G_l_name := h7.mono (by decide : 3 ≤ 7)) (G_l_text := h10.mono (by decide : 3 ≤ 7)) (G_l_part := h16.mono (by decide : 7 ≤ 7))
  have h18 : Has P w K mg base 9 "_law_part" (spPartT 4) := ok_part (T := 4) D.d_l_part B (G_l_take := h3.mono (by decide : 1 ≤ 8)) (G_l_name := h7.mono (by decide : 3 ≤ 8)) (G_l_marks := h9.mono (by decide : 4 ≤ 8)) (G_l_item := h17.mono (by decide : 8 ≤ 8))
  have h19 : Has P w K mg base 10 "_law_item" (spItemT 4) := ok_item (T := 4) D.d_l_item B (G_l_take := h3.mono (by decide : 1 ≤ 9)) (G_l_name := h7.mono (by decide : 3 ≤ 9)) (G_l_text := h10.mono (by decide : 3 ≤ 9)) (G_l_part := h18.mono (by decide : 9 ≤ 9))
  have h20 : Has P w K mg base 11 "_law_part" (spPartT 3) := ok_part (T := 3) D.d_l_part B (G_l_take := h3.mono (by decide : 1 ≤ 10)) (G_l_name := h7.mono (by decide : 3 ≤ 10)) (G_l_marks := h9.mono (by decide : 4 ≤ 10)) (G_l_item := h19.mono (by decide : 10 ≤ 10))
  have h21 : Has P w K mg base 12 "_law_item" (spItemT 3) := ok_item (T := 3) D.d_l_item B (G_l_take := h3.mono (by decide : 1 ≤ 11)) (G_l_name := h7.mono (by decide : 3 ≤ 11)) (G_l_text := h10.mono (by decide : 3 ≤ 11)) (G_l_part := h20.mono (by decide : 11 ≤ 11))
  have h22 : Has P w K mg base 13 "_law_part" (spPartT 2) := ok_part (T := 2) D.d_l_part B (G_l_take := h3.mono (by decide : 1 ≤ 12)) (G_l_name := h7.mono (by decide : 3 ≤ 12)) (G_l_marks := h9.mono (by decide : 4 ≤ 12)) (G_l_item := h21.mono (by decide : 12 ≤ 12))
  have h23 : Has P w K mg base 14 "_law_item" (spItemT 2) := ok_item (T := 2) D.d_l_item B (G_l_take := h3.mono (by decide : 1 ≤ 13)) (G_l_name := h7.mono (by decide : 3 ≤ 13)) (G_l_text := h10.mono (by decide : 3 ≤ 13)) (G_l_part := h22.mono (by decide : 13 ≤ 13))
  have h24 : Has P w K mg base 15 "_law_part" (spPartT 1) := ok_part (T := 1) D.d_l_part B (G_l_take := h3.mono (by decide : 1 ≤ 14)) (G_l_name := h7.mono (by decide : 3 ≤ 14)) (G_l_marks := h9.mono (by decide : 4 ≤ 14)) (G_l_item := h23.mono (by decide : 14 ≤ 14))
  have h25 : Has P w K mg base 16 "_law_item" (spItemT 1) := ok_item (T := 1) D.d_l_item B (G_l_take := h3.mono (by decide : 1 ≤ 15)) (G_l_name := h7.mono (by decide : 3 ≤ 15)) (G_l_text := h10.mono (by decide : 3 ≤ 15)) (G_l_part := h24.mono (by decide : 15 ≤ 15))
  have h26 : Has P w K mg base 4 "_law_wrapped" spWrapped := ok_wrapped D.d_l_wrapped B (G_l_name := h7.mono (by decide : 3 ≤ 3))
  have h27 : Has P w K mg base 5 "_law_full_row" spFull := ok_full_row D.d_l_full_row B (G_l_take := h3.mono (by decide : 1 ≤ 4)) (G_l_name := h7.mono (by decide : 3 ≤ 4)) (G_l_marks := h9.mono (by decide : 4 ≤ 4)) (G_l_leaf := h11.mono (by decide : 4 ≤ 4)) (G_l_wrapped := h26.mono (by decide : 4 ≤ 4))
  have h28 : Has P w K mg base 5 "_law_full_count" spFull := ok_full_count D.d_l_full_count B (G_l_take := h3.mono (by decide : 1 ≤ 4)) (G_l_name := h7.mono (by decide : 3 ≤ 4)) (G_l_leaf := h11.mono (by decide : 4 ≤ 4))
  have h29 : Has P w K mg base 5 "_law_full_prose" spFull := ok_full_prose D.d_l_full_prose B (G_l_take := h3.mono (by decide : 1 ≤ 4)) (G_l_name := h7.mono (by decide : 3 ≤ 4)) (G_l_prose := h8.mono (by decide : 2 ≤ 4)) (G_l_wrapped := h26.mono (by decide : 4 ≤ 4))
  have h30 : Has P w K mg base 5 "_law_full_refs" spFull := ok_full_refs D.d_l_full_refs B (G_l_take := h3.mono (by decide : 1 ≤ 4)) (G_l_name := h7.mono (by decide : 3 ≤ 4)) (G_l_leaf := h11.mono (by decide : 4 ≤ 4)) (G_l_wrapped := h26.mono (by decide : 4 ≤ 4))
  have h31 : Has P w K mg base 5 "_law_full_depth" spFull := ok_full_depth D.d_l_full_depth B (G_l_take := h3.mono (by decide : 1 ≤ 4)) (G_l_name := h7.mono (by decide : 3 ≤ 4)) (G_l_marks := h9.mono (by decide : 4 ≤ 4)) (G_l_leaf := h11.mono (by decide : 4 ≤ 4))
  have h32 : Has P w K mg base 6 "_law_edge" spEdge := ok_edge D.d_l_edge B (G_l_take := h3.mono (by decide : 1 ≤ 5)) (G_l_full_row := h27.mono (by decide : 5 ≤ 5)) (G_l_full_count := h28.mono (by decide : 5 ≤ 5)) (G_l_full_prose := h29.mono (by decide : 5 ≤ 5)) (G_l_full_depth := h31.mono (by decide : 5 ≤ 5)) (G_l_full_refs := h30.mono (by decide : 5 ≤ 5))
  have h33 : Has P w K mg base 43 "_law_same" (spSameN 42) := all_same D.d_l_same B 42
  have h34 : Has P w K mg base 41 "_law_swap" (spSwapN 40) := all_swap D.d_l_swap B 40
  have h35 : Has P w K mg base 31 "_law_sizes" (spSizesN 30) := all_sizes D.d_l_sizes B 30
  have h36 : Has P w K mg base 11 "_law_paths" (spPathsN 10) := all_paths D.d_l_paths B 10
  have h37 : Has P w K mg base 43 "_law_same" spSame := same_it (n := 0) h33
  have h38 : Has P w K mg base 1 "_law_at" spAt := ok_at (k := 0) D.d_l_at B
  have h39 : Has P w K mg base 32 "_law_let" spLet := ok_let D.d_l_let B (G_l_sizes := h35.mono (by decide : 31 ≤ 31))
  have h40 : Has P w K mg base 1 "_law_is_edit" spIsEdit := ok_is_edit (k := 0) D.d_l_is_edit B
  have h41 : Has P w K mg base 1 "_law_row_edit" spRowEdit := ok_row_edit (k := 0) D.d_l_row_edit B
  have h42 : Has P w K mg base 42 "_law_apply" spApply := ok_apply D.d_l_apply B (G_l_at := h38.mono (by decide : 1 ≤ 41)) (G_l_swap := h34.mono (by decide : 41 ≤ 41)) (G_l_row_edit := h41.mono (by decide : 1 ≤ 41))
  have h43 : Has P w K mg base 2 "_law_index" spIndex := ok_index D.d_l_index B (G_l_take := h3.mono (by decide : 1 ≤ 1))
  have h44 : Has P w K mg base 12 "_law_goals" spGoals := ok_goals D.d_l_goals B (G_l_take := h3.mono (by decide : 1 ≤ 11)) (G_l_paths := h36.mono (by decide : 11 ≤ 11))
  have h45 : Has P w K mg base 13 "_law_road" spRoad := ok_road D.d_l_road B (G_l_take := h3.mono (by decide : 1 ≤ 12)) (G_l_goals := h44.mono (by decide : 12 ≤ 12)) (G_l_index := h43.mono (by decide : 2 ≤ 12))
  have h46 : Has P w K mg base 17 "_law_filled" spFilled := ok_filled D.d_l_filled B (G_l_take := h3.mono (by decide : 1 ≤ 16)) (G_l_name := h7.mono (by decide : 3 ≤ 16)) (G_l_marks := h9.mono (by decide : 4 ≤ 16)) (G_l_text := h10.mono (by decide : 3 ≤ 16)) (G_l_item := h25.mono (by decide : 16 ≤ 16)) (G_l_index := h43.mono (by decide : 2 ≤ 16))
  have h47 : Has P w K mg base 18 "_law_edit" spEdit := ok_edit D.d_l_edit B (G_l_take := h3.mono (by decide : 1 ≤ 17)) (G_l_road := h45.mono (by decide : 13 ≤ 17)) (G_l_filled := h46.mono (by decide : 17 ≤ 17))
  have h48 : Has P w K mg base 1 "is_part" spIsPart := ok_is_part (k := 0) D.d_is_part B
  have h49 : Has P w K mg base 2 "item_at" spItemAt := ok_item_at D.d_item_at B (G_is_part := h48.mono (by decide : 1 ≤ 1))
  have h50 : Has P w K mg base 3 "part_at" spPartAt := ok_part_at D.d_part_at B (G_is_part := h48.mono (by decide : 1 ≤ 2)) (G_item_at := h49.mono (by decide : 2 ≤ 2))
  have h51 : Has P w K mg base 4 "owner_at" spOwnerAt := ok_owner_at D.d_owner_at B (G_part_at := h50.mono (by decide : 3 ≤ 3))
  have h52 : Has P w K mg base 4 "with_item" spWithItem := ok_with_item D.d_with_item B (G_part_at := h50.mono (by decide : 3 ≤ 3))
  have h53 : Has P w K mg base 5 "with_items" spWithItems := ok_with_items D.d_with_items B (G_owner_at := h51.mono (by decide : 4 ≤ 4)) (G_with_item := h52.mono (by decide : 4 ≤ 4))
  have h54 : Has P w K mg base 6 "put_item" (spDeed "put") := ok_put_item D.d_put_item B (G_owner_at := h51.mono (by decide : 4 ≤ 5)) (G_with_items := h53.mono (by decide : 5 ≤ 5))
  have h55 : Has P w K mg base 6 "take_item" (spDeed "take") := ok_take_item D.d_take_item B (G_item_at := h49.mono (by decide : 2 ≤ 5)) (G_owner_at := h51.mono (by decide : 4 ≤ 5)) (G_with_items := h53.mono (by decide : 5 ≤ 5))
  have h56 : Has P w K mg base 5 "change_text" (spDeed "text") := ok_change_text D.d_change_text B (G_item_at := h49.mono (by decide : 2 ≤ 4)) (G_with_item := h52.mono (by decide : 4 ≤ 4))
  have h57 : Has P w K mg base 5 "change_kind" (spDeed "kind") := ok_change_kind D.d_change_kind B (G_part_at := h50.mono (by decide : 3 ≤ 4)) (G_with_item := h52.mono (by decide : 4 ≤ 4))
  have h58 : Has P w K mg base 5 "change_marks" (spDeed "marks") := ok_change_marks D.d_change_marks B (G_part_at := h50.mono (by decide : 3 ≤ 4)) (G_with_item := h52.mono (by decide : 4 ≤ 4))
  have h59 : Has P w K mg base 6 "wrap_items" (spDeed "wrap") := ok_wrap_items D.d_wrap_items B (G_owner_at := h51.mono (by decide : 4 ≤ 5)) (G_with_items := h53.mono (by decide : 5 ≤ 5))
  have h60 : Has P w K mg base 6 "open_part" (spDeed "open") := ok_open_part D.d_open_part B (G_part_at := h50.mono (by decide : 3 ≤ 5)) (G_owner_at := h51.mono (by decide : 4 ≤ 5)) (G_with_items := h53.mono (by decide : 5 ≤ 5))
  have hD : DeedsOk P w K mg base 20 dD := fun e => match e with
    | .put _ _ => by
      obtain ⟨f, k1, k2⟩ := tab.put_item
      exact ⟨"put_item", f, k1, k2, h54.mono (by decide : 6 ≤ 20)⟩
    | .take _ => by
      obtain ⟨f, k1, k2⟩ := tab.take_item
      exact ⟨"take_item", f, k1, k2, h55.mono (by decide : 6 ≤ 20)⟩
    | .text _ _ => by
      obtain ⟨f, k1, k2⟩ := tab.change_text
      exact ⟨"change_text", f, k1, k2, h56.mono (by decide : 5 ≤ 20)⟩
    | .kind _ _ => by
      obtain ⟨f, k1, k2⟩ := tab.change_kind
      exact ⟨"change_kind", f, k1, k2, h57.mono (by decide : 5 ≤ 20)⟩
    | .marks _ _ => by
      obtain ⟨f, k1, k2⟩ := tab.change_marks
      exact ⟨"change_marks", f, k1, k2, h58.mono (by decide : 5 ≤ 20)⟩
    | .wrap _ _ _ _ => by
      obtain ⟨f, k1, k2⟩ := tab.wrap_items
      exact ⟨"wrap_items", f, k1, k2, h59.mono (by decide : 6 ≤ 20)⟩
    | .opn _ => by
      obtain ⟨f, k1, k2⟩ := tab.open_part
      exact ⟨"open_part", f, k1, k2, h60.mono (by decide : 6 ≤ 20)⟩
  have hae : Has P w K mg base 21 "apply_edit" spApplyEdit := ok_apply_edit D.d_apply_edit B tab.deeds hD W
  have h61 : Has P w K mg base 22 "inverse_edit" spInverse := ok_inverse_edit D.d_inverse_edit B (G_apply_edit := hae.mono (by decide : 21 ≤ 21)) (G_item_at := h49.mono (by decide : 2 ≤ 21))
  have h62 : Has P w K mg base 43 "_law_steps" (spSteps K) := ok_steps D.d_l_steps B (G_l_pool := h1.mono (by decide : 1 ≤ 42)) (G_l_edit := h47.mono (by decide : 18 ≤ 42)) (G_l_apply := h42.mono (by decide : 42 ≤ 42)) (G_l_let := h39.mono (by decide : 32 ≤ 42))
  have h63 : HasP P w K mg base 44 "law" (top 62) ["_law_script"] (spLaw K) := ok_law D.d_law B (G_l_pool := h1.mono (by decide : 1 ≤ 43)) (G_l_take := h3.mono (by decide : 1 ≤ 43)) (G_l_edge := h32.mono (by decide : 6 ≤ 43)) (G_l_part := h24.mono (by decide : 15 ≤ 43)) (G_l_steps := h62.mono (by decide : 43 ≤ 43)) (G_inverse_edit := h61.mono (by decide : 22 ≤ 43)) (G_apply_edit := hae.mono (by decide : 21 ≤ 43)) (G_l_is_edit := h40.mono (by decide : 1 ≤ 43)) (G_l_same := h37.mono (by decide : 43 ≤ 43))
  exact h63.mono (by decide : 44 ≤ 100)
end
end K7

/-! ## K7Y2 -/
/-! From the head's facts to the row. Printed by gen_end.py. -/
namespace K7
open PySem PySem.Spec PyProof.Rows L2
section
variable {P : Program} {w : World} {K : PySem.W.Frag} {h : Heap} {mg : Str → Option Value}
theorem df_of (X : K.In h) (G : h.Ns mainGlobals mg) (c : He.SaysD fa fn K) {x : Str} {i : Nat} (h1 : ∃ fd, FunD K x x (defArgs (top i)) (defBody (top i)) (defScope (top i)) [] [] (He.ga K x) fd) (h2 : (He.Fa.glo x).ok K = true) : Df K mg x (top i) := by
  obtain ⟨fd, F⟩ := h1
  exact ⟨_, fd, F, He.glo_ok X G h2⟩

theorem defs_of (X : K.In h) (G : h.Ns mainGlobals mg) (c : He.SaysD fa fn K) : Defs K mg where
  d_l_pool := df_of X G c (c.def_ 17 (d := dd "_law_pool" 30) rfl) (c.fact 33 (f := .glo "_law_pool") rfl)
  d_l_take := df_of X G c (c.def_ 18 (d := dd "_law_take" 31) rfl) (c.fact 34 (f := .glo "_law_take") rfl)
  d_l_letters := df_of X G c (c.def_ 20 (d := dd "_law_letters" 33) rfl) (c.fact 36 (f := .glo "_law_letters") rfl)
  d_l_prose := df_of X G c (c.def_ 23 (d := dd "_law_prose" 36) rfl) (c.fact 39 (f := .glo "_law_prose") rfl)
  d_l_name := df_of X G c (c.def_ 21 (d := dd "_law_name" 34) rfl) (c.fact 37 (f := .glo "_law_name") rfl)
  d_l_marks := df_of X G c (c.def_ 22 (d := dd "_law_marks" 35) rfl) (c.fact 38 (f := .glo "_law_marks") rfl)
  d_l_text := df_of X G c (c.def_ 24 (d := dd "_law_text" 37) rfl) (c.fact 40 (f := .glo "_law_text") rfl)
  d_l_leaf := df_of X G c (c.def_ 28 (d := dd "_law_leaf" 41) rfl) (c.fact 44 (f := .glo "_law_leaf") rfl)
  d_l_part := df_of X G c (c.def_ 26 (d := dd "_law_part" 39) rfl) (c.fact 42 (f := .glo "_law_part") rfl)
  d_l_item := df_of X G c (c.def_ 25 (d := dd "_law_item" 38) rfl) (c.fact 41 (f := .glo "_law_item") rfl)
  d_l_wrapped := df_of X G c (c.def_ 27 (d := dd "_law_wrapped" 40) rfl) (c.fact 43 (f := .glo "_law_wrapped") rfl)
  d_l_full_row := df_of X G c (c.def_ 29 (d := dd "_law_full_row" 42) rfl) (c.fact 45 (f := .glo "_law_full_row") rfl)
  d_l_full_count := df_of X G c (c.def_ 30 (d := dd "_law_full_count" 43) rfl) (c.fact 46 (f := .glo "_law_full_count") rfl)
  d_l_full_prose := df_of X G c (c.def_ 31 (d := dd "_law_full_prose" 44) rfl) (c.fact 47 (f := .glo "_law_full_prose") rfl)
  d_l_full_refs := df_of X G c (c.def_ 33 (d := dd "_law_full_refs" 46) rfl) (c.fact 49 (f := .glo "_law_full_refs") rfl)
  d_l_full_depth := df_of X G c (c.def_ 32 (d := dd "_law_full_depth" 45) rfl) (c.fact 48 (f := .glo "_law_full_depth") rfl)
  d_l_edge := df_of X G c (c.def_ 34 (d := dd "_law_edge" 47) rfl) (c.fact 50 (f := .glo "_law_edge") rfl)
  d_l_same := df_of X G c (c.def_ 19 (d := dd "_law_same" 32) rfl) (c.fact 35 (f := .glo "_law_same") rfl)
  d_l_swap := df_of X G c (c.def_ 42 (d := dd "_law_swap" 55) rfl) (c.fact 58 (f := .glo "_law_swap") rfl)
  d_l_sizes := df_of X G c (c.def_ 45 (d := dd "_law_sizes" 58) rfl) (c.fact 61 (f := .glo "_law_sizes") rfl)
  d_l_paths := df_of X G c (c.def_ 35 (d := dd "_law_paths" 48) rfl) (c.fact 51 (f := .glo "_law_paths") rfl)
  d_l_at := df_of X G c (c.def_ 41 (d := dd "_law_at" 54) rfl) (c.fact 57 (f := .glo "_law_at") rfl)
  d_l_let := df_of X G c (c.def_ 46 (d := dd "_law_let" 59) rfl) (c.fact 62 (f := .glo "_law_let") rfl)
  d_l_is_edit := df_of X G c (c.def_ 47 (d := dd "_law_is_edit" 60) rfl) (c.fact 63 (f := .glo "_law_is_edit") rfl)
  d_l_row_edit := df_of X G c (c.def_ 43 (d := dd "_law_row_edit" 56) rfl) (c.fact 59 (f := .glo "_law_row_edit") rfl)
  d_l_apply := df_of X G c (c.def_ 44 (d := dd "_law_apply" 57) rfl) (c.fact 60 (f := .glo "_law_apply") rfl)
  d_l_index := df_of X G c (c.def_ 36 (d := dd "_law_index" 49) rfl) (c.fact 52 (f := .glo "_law_index") rfl)
  d_l_goals := df_of X G c (c.def_ 37 (d := dd "_law_goals" 50) rfl) (c.fact 53 (f := .glo "_law_goals") rfl)
  d_l_road := df_of X G c (c.def_ 38 (d := dd "_law_road" 51) rfl) (c.fact 54 (f := .glo "_law_road") rfl)
  d_l_filled := df_of X G c (c.def_ 39 (d := dd "_law_filled" 52) rfl) (c.fact 55 (f := .glo "_law_filled") rfl)
  d_l_edit := df_of X G c (c.def_ 40 (d := dd "_law_edit" 53) rfl) (c.fact 56 (f := .glo "_law_edit") rfl)
  d_is_part := df_of X G c (c.def_ 0 (d := dd "is_part" 10) rfl) (c.fact 16 (f := .glo "is_part") rfl)
  d_item_at := df_of X G c (c.def_ 2 (d := dd "item_at" 12) rfl) (c.fact 18 (f := .glo "item_at") rfl)
  d_part_at := df_of X G c (c.def_ 3 (d := dd "part_at" 13) rfl) (c.fact 19 (f := .glo "part_at") rfl)
  d_owner_at := df_of X G c (c.def_ 6 (d := dd "owner_at" 17) rfl) (c.fact 22 (f := .glo "owner_at") rfl)
  d_with_item := df_of X G c (c.def_ 4 (d := dd "with_item" 14) rfl) (c.fact 20 (f := .glo "with_item") rfl)
  d_with_items := df_of X G c (c.def_ 7 (d := dd "with_items" 18) rfl) (c.fact 23 (f := .glo "with_items") rfl)
  d_put_item := df_of X G c (c.def_ 8 (d := dd "put_item" 19) rfl) (c.fact 24 (f := .glo "put_item") rfl)
  d_take_item := df_of X G c (c.def_ 9 (d := dd "take_item" 20) rfl) (c.fact 25 (f := .glo "take_item") rfl)
  d_change_text := df_of X G c (c.def_ 10 (d := dd "change_text" 21) rfl) (c.fact 26 (f := .glo "change_text") rfl)
  d_change_kind := df_of X G c (c.def_ 11 (d := dd "change_kind" 22) rfl) (c.fact 27 (f := .glo "change_kind") rfl)
  d_change_marks := df_of X G c (c.def_ 12 (d := dd "change_marks" 23) rfl) (c.fact 28 (f := .glo "change_marks") rfl)
  d_wrap_items := df_of X G c (c.def_ 13 (d := dd "wrap_items" 24) rfl) (c.fact 29 (f := .glo "wrap_items") rfl)
  d_open_part := df_of X G c (c.def_ 14 (d := dd "open_part" 25) rfl) (c.fact 30 (f := .glo "open_part") rfl)
  d_apply_edit := df_of X G c (c.def_ 15 (d := dd "apply_edit" 27) rfl) (c.fact 31 (f := .glo "apply_edit") rfl)
  d_inverse_edit := df_of X G c (c.def_ 16 (d := dd "inverse_edit" 28) rfl) (c.fact 32 (f := .glo "inverse_edit") rfl)
  d_l_steps := df_of X G c (c.def_ 48 (d := dd "_law_steps" 61) rfl) (c.fact 64 (f := .glo "_law_steps") rfl)
  d_law := df_of X G c (c.def_ 49 (d := dd "law" 62) rfl) (c.fact 65 (f := .glo "law") rfl)
theorem bn_of (X : K.In h) (G : h.Ns mainGlobals mg) (c : He.SaysD fa fn K) : Bn mg where
  len := He.free_ok X G (c.fact 0 (f := .free "len") rfl)
  isi := He.free_ok X G (c.fact 1 (f := .free "isinstance") rfl)
  tup := He.free_ok X G (c.fact 2 (f := .free "tuple") rfl)
  str := He.free_ok X G (c.fact 3 (f := .free "str") rfl)
  int := He.free_ok X G (c.fact 4 (f := .free "int") rfl)
  bool := He.free_ok X G (c.fact 5 (f := .free "bool") rfl)
  lst := He.free_ok X G (c.fact 6 (f := .free "list") rfl)
  rng := He.free_ok X G (c.fact 7 (f := .free "range") rfl)
  mx := He.free_ok X G (c.fact 8 (f := .free "max") rfl)
  mn := He.free_ok X G (c.fact 9 (f := .free "min") rfl)
  ab := He.free_ok X G (c.fact 10 (f := .free "abs") rfl)
theorem cn_of (X : K.In h) (G : h.Ns mainGlobals mg) (c : He.SaysD fa fn K) : Nonempty (Cn mg) := by
  obtain ⟨t_moi, h_moi⟩ := He.int_ok X G (c.fact 11 (f := .int "MOST_ITEMS_OF_A_PART" 12) rfl)
  obtain ⟨t_mit, h_mit⟩ := He.int_ok X G (c.fact 12 (f := .int "MOST_ITEMS" 60) rfl)
  obtain ⟨t_mch, h_mch⟩ := He.int_ok X G (c.fact 13 (f := .int "MOST_CHARACTERS" 400) rfl)
  obtain ⟨t_mde, h_mde⟩ := He.int_ok X G (c.fact 14 (f := .int "MOST_DEPTH" 6) rfl)
  obtain ⟨t_mre, h_mre⟩ := He.int_ok X G (c.fact 15 (f := .int "MOST_REFERENCES" 3) rfl)
  exact ⟨⟨t_moi, t_mit, t_mch, t_mde, t_mre, h_moi, h_mit, h_mch, h_mde, h_mre⟩⟩
theorem tab_of (X : K.In h) (G : h.Ns mainGlobals mg) (c : He.SaysX fa fn ts [] ex w h K) : Tab w K mg (He.ga K "DEEDS") := by
  obtain ⟨es, n, kd⟩ := c.t.tab 0 (t := (fun K => He.ga K "DEEDS", ["put", "take", "text", "kind", "marks", "wrap", "open"])) rfl
  have hv : He.valsB K (He.ga K "DEEDS") kvs = true := c.more
  have dct : ∀ (z x : Str), (z, He.Dv.glo x) ∈ kvs → KDct K w (He.ga K "DEEDS") z (.ref (He.ga K x)) := fun z x hm => by
    obtain ⟨u, h1, h2⟩ := He.valsB_ok hv hm
    exact ⟨es, n, u, kd.at_, kd.lit, h1, h2⟩
  have d := c.t.d
  exact {
    deeds := He.glo_ok X G (d.fact 66 (f := .glo "DEEDS") rfl)
    put_item := ⟨_, He.glo_ok X G (d.fact 24 (f := .glo "put_item") rfl), dct "put" "put_item" (by simp [kvs])⟩
    take_item := ⟨_, He.glo_ok X G (d.fact 25 (f := .glo "take_item") rfl), dct "take" "take_item" (by simp [kvs])⟩
    change_text := ⟨_, He.glo_ok X G (d.fact 26 (f := .glo "change_text") rfl), dct "text" "change_text" (by simp [kvs])⟩
    change_kind := ⟨_, He.glo_ok X G (d.fact 27 (f := .glo "change_kind") rfl), dct "kind" "change_kind" (by simp [kvs])⟩
    change_marks := ⟨_, He.glo_ok X G (d.fact 28 (f := .glo "change_marks") rfl), dct "marks" "change_marks" (by simp [kvs])⟩
    wrap_items := ⟨_, He.glo_ok X G (d.fact 29 (f := .glo "wrap_items") rfl), dct "wrap" "wrap_items" (by simp [kvs])⟩
    open_part := ⟨_, He.glo_ok X G (d.fact 30 (f := .glo "open_part") rfl), dct "open" "open_part" (by simp [kvs])⟩
  }
end
/-- what is still asked of within_bounds -/
def Within : Prop := ∀ {P : Program} {w : World} {K : PySem.W.Frag} {mg : Str → Option Value} {base : Heap}, Df K mg "within_bounds" (top 15) → Df K mg "walk" (top 11) → Bn mg → Cn mg → (∀ k, Has P w K mg base (k + 1) "is_part" spIsPart) → Has P w K mg base 20 "within_bounds" spWithin
theorem binds_law (S : FnScope N_law ["_law_script"] (defScope (top 62))) : True := trivial
theorem holds_with (WB : Within) : PySem.Challenge.rw_stylepages_k07_whole_inverse_comes_home.Holds := by
  refine holds_of ?_
  refine L2.walk_ofE (l := PySem.Challenge.rw_stylepages_k07_whole_inverse_comes_home) (n := 63) (k := 100) (x := "_law_script") (CX := L2.CX0) rfl (by decide) (by kernel_rfl) ⟨rfl, by decide, by decide⟩ ?F (fun _ _ _ _ z => z)
  intro w mg fa' h Y G hmg0
  obtain ⟨K, KX, c⟩ := Y
  have hmg : mg ("law" : PySem.Str) = some (.ref fa') := by
    have e : (HandSHeadRun.topDef R.prog 62).name = ("law" : PySem.Str) := by kernel_rfl
    rw [← e]
    exact hmg0
  have d := c.t.d
  have D := defs_of KX G d
  have B := bn_of KX G d
  obtain ⟨C⟩ := cn_of KX G d
  obtain ⟨fd, F⟩ := d.def_ 49 (d := dd "law" 62) rfl
  have e := hmg.symm.trans (He.glo_ok KX G (d.fact 65 (f := .glo "law") rfl))
  cases e
  have b := FunD.bindsA (ps := ["_law_script"]) F fun _ _ _ _ _ _ us hl => match us, hl with | [_], _ => rfl
  refine ⟨K, fd, spLaw K, KX, fun s v => b s [v] rfl, fun H a ns hl _ hS => ⟨a, ns, rfl, hS, hl, fun _ => rfl⟩, fun base _ _ => ?_⟩
  have L := law_has (P := PySem.Challenge.rw_stylepages_k07_whole_inverse_comes_home.prog) (w := w) (base := base) D B (tab_of KX G c) (WB (df_of KX G d (d.def_ 5 (d := dd "within_bounds" 15) rfl) (d.fact 21 (f := .glo "within_bounds") rfl)) (df_of KX G d (d.def_ 1 (d := dd "walk" 11) rfl) (d.fact 17 (f := .glo "walk") rfl)) B C fun k => ok_is_part D.d_is_part B)
  obtain ⟨f2, fd2, h1, h2, h3⟩ := L
  have ef : f2 = He.ga K "law" := by
    have q := h1.symm.trans (He.glo_ok KX G (d.fact 65 (f := .glo "law") rfl))
    exact Value.ref.inj (Option.some.inj q)
  obtain ⟨oc, od, dV, kV, doc, pm, an, cdv, ct, osl, q1, q2, _⟩ := F.ex
  obtain ⟨oc', od', dV', kV', doc', pm', an', cdv', ct', osl', q1', q2', _⟩ := h2.ex
  rw [ef] at q2'
  have q3 := Option.some.inj (q2'.symm.trans q2)
  have q4 : Data.func fd2 = Data.func fd := congrArg Obj.data q3
  have q5 : fd2 = fd := Data.func.inj q4
  rw [ef, q5] at h3
  exact h3
end K7

/-! ## K7G1 -/
/-! Sleeping generators are not touched by code that wakes none: a run from a state whose sleepers are blocked is a run from the state itself, and the sleepers stand. -/
namespace K7
open PySem PySem.Spec PyProof.Rows L2
/-- no generator's frame among them -/
def noGen (fs : List Frame) : Prop := splitAtGen fs = none
theorem noGen.append : ∀ {a b : List Frame}, noGen a → noGen b → noGen (a ++ b)
  | [], b, _, h => h
  | .gen g k l c p :: a, b, h, _ => by
    have h' : (some ([], (g, k, c, p), a) : Option (List Frame × (Nat × (GenResult → Sem PySem.Fin) × Code × Pos) × List Frame)) = none := h
    cases h'
  | .ret k x g l c p kp :: a, b, h, hb => by
    have h1 : (splitAtGen a).map (fun (fs, b, r) => (Frame.ret k x g l c p kp :: fs, b, r)) = none := h
    have ha : noGen a := by
      cases e : splitAtGen a with
      | none => exact e
      | some y => rw [e] at h1; cases h1
    have h2 : splitAtGen (a ++ b) = none := noGen.append ha hb
    show (splitAtGen (a ++ b)).map _ = none
    rw [h2]; rfl
theorem noGen.ret {k : Result → Sem PySem.Fin} {x : Option Value} {g : Bool} {l : List Value} {c : Code} {p : Pos} {kp : List Value} {a : List Frame} (h : noGen (.ret k x g l c p kp :: a)) : noGen a := by
  have h1 : (splitAtGen a).map (fun (fs, b, r) => (Frame.ret k x g l c p kp :: fs, b, r)) = none := h
  cases e : splitAtGen a with
  | none => exact e
  | some y => rw [e] at h1; cases h1
theorem noGen.nil : noGen [] := rfl
theorem noGen.one {k : Result → Sem PySem.Fin} {x : Option Value} {g : Bool} {l : List Value} {c : Code} {p : Pos} {kp : List Value} : noGen [.ret k x g l c p kp] := rfl
def noGenE : End → Prop
  | .ret _ => True
  | .susp _ _ _ _ _ _ fs => noGen fs
def noGenS : GenState → Prop
  | .suspended _ _ _ _ fs _ => noGen fs
  | _ => True
theorem noGenE.st {e : End} (h : noGenE e) : noGenS e.genState := by
  cases e with
  | ret r => trivial
  | susp v g l k c p fs => exact h
/-- a sleeper, blocked -/
def block : GenState → GenState
  | .suspended _ l c p fs cl => .suspended (fun _ => .unsupported "") l c p fs cl
  | x => x
def sleeps : GenState → Bool
  | .suspended .. => true
  | _ => false
theorem block_seen (x : GenState) : (block x).seen = x.seen := by cases x <;> rfl
/-- G: the generators as they stood; the sleepers among them are blocked in b, stand in s -/
structure Blk (G : Array GenState) (b s : Shared) : Prop where
  heap : s.heap = b.heap
  os : s.os = b.os
  drawn : s.drawn = b.drawn
  toks : s.toks = b.toks
  size : s.gens.size = b.gens.size
  le : G.size ≤ b.gens.size
  yes : ∀ (i : Nat) (x : GenState), G[i]? = some x → sleeps x = true → b.gens[i]? = some (block x) ∧ s.gens[i]? = some x
  no : ∀ (i : Nat), (∀ x, G[i]? = some x → sleeps x = false) → s.gens[i]? = b.gens[i]? ∧ ∀ y, b.gens[i]? = some y → noGenS y
section
variable {G : Array GenState} {b s : Shared}
theorem Blk.up (B : Blk G b s) {f : Heap → Heap} : Blk G { b with heap := f b.heap } { s with heap := f s.heap } := ⟨by show f s.heap = f b.heap; rw [B.heap], B.os, B.drawn, B.toks, B.size, B.le, B.yes, B.no⟩
theorem Blk.get (B : Blk G b s) (i : Nat) : (∃ x, G[i]? = some x ∧ sleeps x = true ∧ b.gens[i]? = some (block x) ∧ s.gens[i]? = some x) ∨ (s.gens[i]? = b.gens[i]? ∧ (∀ y, b.gens[i]? = some y → noGenS y) ∧ ∀ x, G[i]? = some x → sleeps x = false) := by
  by_cases h : ∃ x, G[i]? = some x ∧ sleeps x = true
  · obtain ⟨x, h1, h2⟩ := h
    exact .inl ⟨x, h1, h2, B.yes i x h1 h2⟩
  · have n : ∀ x, G[i]? = some x → sleeps x = false := fun x hx => by
      cases e : sleeps x with
      | false => rfl
      | true => exact absurd ⟨x, hx, e⟩ h
    obtain ⟨h1, h2⟩ := B.no i n
    exact .inr ⟨h1, h2, n⟩
theorem Blk.set (B : Blk G b s) {g : Nat} {y : GenState} (n : ∀ x, G[g]? = some x → sleeps x = false) (hy : noGenS y) : Blk G (b.setGen g y) (s.setGen g y) where
  heap := B.heap
  os := B.os
  drawn := B.drawn
  toks := B.toks
  size := by show (s.gens.setIfInBounds g y).size = (b.gens.setIfInBounds g y).size; rw [Array.size_setIfInBounds, Array.size_setIfInBounds]; exact B.size
  le := by show G.size ≤ (b.gens.setIfInBounds g y).size; rw [Array.size_setIfInBounds]; exact B.le
  yes := fun i x h1 h2 => by
    have ne : g ≠ i := fun e => by rw [← e] at h1; rw [n x h1] at h2; cases h2
    show (b.gens.setIfInBounds g y)[i]? = _ ∧ (s.gens.setIfInBounds g y)[i]? = _
    rw [Array.getElem?_setIfInBounds_ne ne, Array.getElem?_setIfInBounds_ne ne]
    exact B.yes i x h1 h2
  no := fun i h => by
    show (s.gens.setIfInBounds g y)[i]? = (b.gens.setIfInBounds g y)[i]? ∧ ∀ z, (b.gens.setIfInBounds g y)[i]? = some z → noGenS z
    by_cases e : g = i
    · rw [← e]
      refine ⟨?_, fun z hz => ?_⟩
      · by_cases hl : g < b.gens.size
        · have hl2 : g < s.gens.size := by rw [B.size]; exact hl
          simp [hl, hl2]
        · have hl2 : ¬ g < s.gens.size := by rw [B.size]; exact hl
          simp [hl, hl2]
      · by_cases hl : g < b.gens.size
        · have q : (b.gens.setIfInBounds g y)[g]? = some y := by simp [hl]
          rw [q] at hz
          rw [← Option.some.inj hz]; exact hy
        · have q : (b.gens.setIfInBounds g y)[g]? = none := by simp [hl]
          rw [q] at hz; cases hz
    · rw [Array.getElem?_setIfInBounds_ne e, Array.getElem?_setIfInBounds_ne e]
      exact B.no i h
theorem Blk.push (B : Blk G b s) (c : Code) : Blk G { b with gens := b.gens.push (.fresh c) } { s with gens := s.gens.push (.fresh c) } where
  heap := B.heap
  os := B.os
  drawn := B.drawn
  toks := B.toks
  size := by show (s.gens.push _).size = (b.gens.push _).size; rw [Array.size_push, Array.size_push, B.size]
  le := by show G.size ≤ (b.gens.push _).size; rw [Array.size_push]; have := B.le; omega
  yes := fun i x h1 h2 => by
    obtain ⟨h3, h4⟩ := B.yes i x h1 h2
    have l1 := (Array.getElem?_eq_some_iff.mp h3).1
    have l2 := (Array.getElem?_eq_some_iff.mp h4).1
    show (b.gens.push _)[i]? = _ ∧ (s.gens.push _)[i]? = _
    rw [Array.getElem?_push, Array.getElem?_push, if_neg (by omega), if_neg (by omega)]
    exact ⟨h3, h4⟩
  no := fun i h => by
    obtain ⟨h1, h2⟩ := B.no i h
    show (s.gens.push _)[i]? = (b.gens.push _)[i]? ∧ ∀ z, (b.gens.push _)[i]? = some z → noGenS z
    rw [Array.getElem?_push, Array.getElem?_push, B.size]
    by_cases e : i = b.gens.size
    · rw [if_pos e, if_pos e]
      exact ⟨rfl, fun z hz => by rw [← Option.some.inj hz]; trivial⟩
    · rw [if_neg e, if_neg e]
      exact ⟨h1, h2⟩
end
theorem no_stuck {M : Model} {Γ : PySem.Ctx} {p : Pos} {w : String} {fs : List Frame} {s s' : Shared} {e : End} (h : Runs M Γ p (.unsupported w) fs s e s') : False := by
  cases h with
  | segRet h1 _ => cases h1
  | segGen h1 _ => cases h1
  | segSuspOut _ h1 => cases h1
  | segSuspGen _ h1 _ _ => cases h1

section
variable {G : Array GenState} {b s : Shared}
theorem Blk.tok (B : Blk G b s) : Blk G { b with toks := b.toks + 1 } { s with toks := s.toks + 1 } := ⟨B.heap, B.os, B.drawn, by show s.toks + 1 = b.toks + 1; rw [B.toks], B.size, B.le, B.yes, B.no⟩
theorem Blk.dr (B : Blk G b s) (x : Source) : Blk G { b with drawn := b.drawn.bump x } { s with drawn := s.drawn.bump x } := ⟨B.heap, B.os, by show s.drawn.bump x = b.drawn.bump x; rw [B.drawn], B.toks, B.size, B.le, B.yes, B.no⟩
theorem Blk.osq (B : Blk G b s) (q : OsRequest) : Blk G { b with os := (Os.step b.os q).1 } { s with os := (Os.step s.os q).1 } := ⟨B.heap, by show (Os.step s.os q).1 = (Os.step b.os q).1; rw [B.os], B.drawn, B.toks, B.size, B.le, B.yes, B.no⟩
/-- one that does not sleep in b, or cannot be blocked -/
theorem Blk.wide (B : Blk G b s) {g : Nat} {y : GenState} (hy : b.gens[g]? = some y) (h : ∀ x, sleeps x = true → y ≠ block x) : s.gens[g]? = some y ∧ noGenS y ∧ ∀ x, G[g]? = some x → sleeps x = false := by
  rcases B.get g with ⟨x, h1, h2, h3, h4⟩ | ⟨h1, h2, h3⟩
  · rw [h3] at hy
    exact absurd (Option.some.inj hy).symm (h x h2)
  · exact ⟨h1.trans hy, h2 y hy, h3⟩
end
theorem runs_blk {M : Model} {G : Array GenState} {Γ : PySem.Ctx} {p : Pos} {t : Sem PySem.Fin} {fs : List Frame} {b b' : Shared} {e : End} (h : Runs M Γ p t fs b e b') :
    noGen fs → ∀ s, Blk G b s → ∃ s', Runs M Γ p t fs s e s' ∧ Blk G b' s' ∧ noGenE e := by
  have nb : ∀ {y : GenState}, sleeps y = false → ∀ x, sleeps x = true → y ≠ block x := fun {y} hy x hx e => by
    rw [e] at hy
    cases x with
    | suspended k l c p fs cl => cases hy
    | _ => cases hx
  induction h with
  | done => exact fun _ s B => ⟨s, .done, B, trivial⟩
  | raise => exact fun _ s B => ⟨s, .raise, B, trivial⟩
  | again hq _ ih => exact fun n s B => let ⟨s', h1, h2⟩ := ih n s B; ⟨s', .again hq h1, h2⟩
  | rule _ ih => exact fun n s B => let ⟨s', h1, h2⟩ := ih n s B; ⟨s', .rule h1, h2⟩
  | «at» _ ih => exact fun n s B => let ⟨s', h1, h2⟩ := ih n s B; ⟨s', .at h1, h2⟩
  | load ho _ ih => exact fun n s B => let ⟨s', h1, h2⟩ := ih n s B; ⟨s', .load (by rw [B.heap]; exact ho) h1, h2⟩
  | update hs _ ih =>
    intro n s B
    obtain ⟨s', h1, h2⟩ := ih n _ (B.up (f := fun h => h.update _ _))
    exact ⟨s', .update (by rw [B.heap]; exact hs) h1, h2⟩
  | @loadIfAlive Γ' p' k' s0 e' s1 a _ ih =>
    intro n s B
    obtain ⟨s', h1, h2⟩ := ih n s B
    have q : k' (s.heap.get? a) = k' (s0.heap.get? a) := by rw [B.heap]
    exact ⟨s', .loadIfAlive (by rw [q]; exact h1), h2⟩
  | point _ ih => exact fun n s B => let ⟨s', h1, h2⟩ := ih n s B; ⟨s', .point h1, h2⟩
  | @alloc Γ' p' k' s0 e' s1 o _ ih =>
    intro n s B
    obtain ⟨s', h1, h2⟩ := ih n _ (B.up (f := fun h => h.push o))
    have q : k' s.heap.objs.size = k' s0.heap.objs.size := by rw [B.heap]
    exact ⟨s', .alloc (by rw [q]; exact h1), h2⟩
  | @fresh Γ' p' k' s0 e' s1 _ ih =>
    intro n s B
    obtain ⟨s', h1, h2⟩ := ih n _ B.tok
    have q : k' s.toks = k' s0.toks := by rw [B.toks]
    exact ⟨s', .fresh (by rw [q]; exact h1), h2⟩
  | ask _ ih => exact fun n s B => let ⟨s', h1, h2⟩ := ih n s B; ⟨s', .ask h1, h2⟩
  | @choose n0 Γ' p' k' s0 e' s1 src hn _ ih =>
    intro n s B
    obtain ⟨s', h1, h2⟩ := ih n _ (B.dr src)
    have q : k' (M.w.draws src (s.drawn.get src) % n0) = k' (M.w.draws src (s0.drawn.get src) % n0) := by rw [B.drawn]
    exact ⟨s', .choose hn (by rw [q]; exact h1), h2⟩
  | @os Γ' p' k' s0 e' s1 q0 l _ ih =>
    intro n s B
    obtain ⟨s', h1, h2⟩ := ih n _ (B.osq q0)
    have q : k' (Os.step s.os q0).2 = k' (Os.step s0.os q0).2 := by rw [B.os]
    exact ⟨s', .os (by rw [q]; exact h1), h2⟩
  | handled _ ih => exact fun n s B => let ⟨s', h1, h2⟩ := ih n s B; ⟨s', .handled h1, h2⟩
  | @genState s0 st g Γ' p' k' e' s1 hg _ ih =>
    intro n s B
    obtain ⟨s', h1, h2⟩ := ih n s B
    rcases B.get _ with ⟨x, h3, h4, h5, h6⟩ | ⟨h3, _⟩
    · rw [h5] at hg
      have ex := Option.some.inj hg
      refine ⟨s', .genState h6 ?_, h2⟩
      rw [← block_seen, ex]; exact h1
    · exact ⟨s', .genState (h3.trans hg) h1, h2⟩
  | stack _ ih => exact fun n s B => let ⟨s', h1, h2⟩ := ih n s B; ⟨s', .stack h1, h2⟩
  | thread _ ih => exact fun n s B => let ⟨s', h1, h2⟩ := ih n s B; ⟨s', .thread h1, h2⟩
  | @newGen Γ' p' k' s0 e' s1 c _ ih =>
    intro n s B
    obtain ⟨s', h1, h2⟩ := ih n _ (B.push c)
    have q : k' s.gens.size = k' s0.gens.size := by rw [B.size]
    exact ⟨s', .newGen (by rw [q]; exact h1), h2⟩
  | call _ _ ih1 ih2 =>
    intro n s B
    obtain ⟨s1, h1, B1, _⟩ := ih1 noGen.nil s B
    obtain ⟨s2, h2, B2, n2⟩ := ih2 n s1 B1
    exact ⟨s2, .call h1 h2, B2, n2⟩
  | callSusp _ ih =>
    intro n s B
    obtain ⟨s1, h1, B1, n1⟩ := ih noGen.nil s B
    exact ⟨s1, .callSusp h1, B1, noGen.append n1 noGen.one⟩
  | yield => exact fun _ s B => ⟨s, .yield, B, noGen.nil⟩
  | resumeFresh hg _ hq _ ih1 ih2 =>
    intro n s B
    obtain ⟨h1, _, h3⟩ := B.wide hg (nb rfl)
    obtain ⟨s1, r1, B1, n1⟩ := ih1 noGen.nil _ (B.set h3 trivial)
    obtain ⟨s2, r2, B2, n2⟩ := ih2 n _ (B1.set h3 n1.st)
    exact ⟨s2, .resumeFresh h1 r1 hq r2, B2, n2⟩
  | resumeSuspended hg hr hq _ ih1 ih2 =>
    intro n s B
    rcases B.get _ with ⟨x, h3, h4, h5, h6⟩ | ⟨h3, h4, h5⟩
    · rw [h5] at hg
      have ex := Option.some.inj hg
      cases x with
      | suspended k l c p fs cl =>
        injection ex with e1 e2 e3 e4 e5 e6
        rw [← e1] at hr
        exact (no_stuck hr).elim
      | _ => cases h4
    · obtain ⟨s1, r1, B1, n1⟩ := ih1 (h4 _ hg) _ (B.set h5 trivial)
      obtain ⟨s2, r2, B2, n2⟩ := ih2 n _ (B1.set h5 n1.st)
      exact ⟨s2, .resumeSuspended (h3.trans hg) r1 hq r2, B2, n2⟩
  | resumeJustStarted hg hv _ ih =>
    intro n s B
    obtain ⟨h1, _, h3⟩ := B.wide hg (nb rfl)
    obtain ⟨s', r1, h2⟩ := ih n s B
    exact ⟨s', .resumeJustStarted h1 hv r1, h2⟩
  | resumeThrowFresh hg _ ih =>
    intro n s B
    obtain ⟨h1, _, h3⟩ := B.wide hg (nb rfl)
    obtain ⟨s', r1, h2⟩ := ih n _ (B.set h3 trivial)
    exact ⟨s', .resumeThrowFresh h1 r1, h2⟩
  | resumeRunning hg _ ih =>
    intro n s B
    obtain ⟨h1, _, h3⟩ := B.wide hg (nb rfl)
    obtain ⟨s', r1, h2⟩ := ih n s B
    exact ⟨s', .resumeRunning h1 r1, h2⟩
  | resumeFinished hg _ ih =>
    intro n s B
    obtain ⟨h1, _, h3⟩ := B.wide hg (nb rfl)
    obtain ⟨s', r1, h2⟩ := ih n s B
    exact ⟨s', .resumeFinished h1 r1, h2⟩
  | segRet _ _ ih1 ih2 =>
    intro n s B
    obtain ⟨s1, h1, B1, _⟩ := ih1 noGen.nil s B
    obtain ⟨s2, h2, B2, n2⟩ := ih2 n.ret s1 B1
    exact ⟨s2, .segRet h1 h2, B2, n2⟩
  | segGen _ _ _ _ =>
    intro n
    cases n
  | segSuspOut hs _ ih =>
    intro n s B
    obtain ⟨s1, h1, B1, n1⟩ := ih noGen.nil s B
    exact ⟨s1, .segSuspOut hs h1, B1, noGen.append n1 hs⟩
  | segSuspGen hs _ _ _ _ _ =>
    intro n
    have n' : splitAtGen _ = none := n
    rw [hs] at n'
    cases n'

theorem wakes_blk {M : Model} {G : Array GenState} {Γ : PySem.Ctx} {p : Pos} {g : Nat} {r : Resume} {b b' s : Shared} {res : GenResult} (h : Wakes M Γ p g r b res b') (B : Blk G b s) : ∃ s', Wakes M Γ p g r s res s' ∧ Blk G b' s' := by
  have nb : ∀ {y : GenState}, sleeps y = false → ∀ x, sleeps x = true → y ≠ block x := fun {y} hy x hx e => by
    rw [e] at hy
    cases x with
    | suspended k l c p fs cl => cases hy
    | _ => cases hx
  unfold Wakes at h ⊢
  cases hg : b.gens[g]? with
  | none =>
    rw [hg] at h
    exact h.elim
  | some y =>
    rw [hg] at h
    rcases B.get g with ⟨x, h3, h4, h5, h6⟩ | ⟨h3, h4, h5⟩
    · rw [h5] at hg
      obtain rfl := Option.some.inj hg
      cases x with
      | suspended k l c p fs cl =>
        obtain ⟨e₁, s₁, hr, _⟩ := h
        exact (no_stuck hr).elim
      | _ => cases h4
    · rw [h3, hg]
      cases y with
      | fresh c =>
        cases r with
        | send v =>
          by_cases hv : v = .none
          · subst hv
            obtain ⟨e₁, s₁, hr, hq, rfl, rfl⟩ := h
            obtain ⟨s1, r1, B1, n1⟩ := runs_blk hr noGen.nil _ (B.set h5 trivial)
            exact ⟨_, ⟨e₁, s1, r1, hq, rfl, rfl⟩, B1.set h5 n1.st⟩
          · have h' : res = .justStarted ∧ b' = b := by cases v <;> first | exact absurd rfl hv | exact h
            obtain ⟨rfl, rfl⟩ := h'
            refine ⟨s, ?_, B⟩
            cases v <;> first | exact absurd rfl hv | exact ⟨rfl, rfl⟩
        | throw x =>
          obtain ⟨rfl, rfl⟩ := h
          exact ⟨_, ⟨rfl, rfl⟩, B.set h5 trivial⟩
      | suspended k₀ l₀ c₀ p₀ fs cl =>
        obtain ⟨e₁, s₁, hr, hq, rfl, rfl⟩ := h
        obtain ⟨s1, r1, B1, n1⟩ := runs_blk hr (h4 _ hg) _ (B.set h5 trivial)
        exact ⟨_, ⟨e₁, s1, r1, hq, rfl, rfl⟩, B1.set h5 n1.st⟩
      | running =>
        obtain ⟨rfl, rfl⟩ := h
        exact ⟨s, ⟨rfl, rfl⟩, B⟩
      | finished =>
        obtain ⟨rfl, rfl⟩ := h
        exact ⟨s, ⟨rfl, rfl⟩, B⟩
theorem wp_blk {M : Model} {G : Array GenState} {Γ : PySem.Ctx} {α : Type} (t : Sem α) : ∀ {Q : α → Pos → Shared → Prop} {E : Value → Pos → Shared → Prop} {p : Pos} {b s : Shared}, Sem.wp M Γ t Q E p b → Blk G b s →
    Sem.wp M Γ t (fun a p' s' => ∃ b', Blk G b' s' ∧ Q a p' b') (fun e p' s' => ∃ b', Blk G b' s' ∧ E e p' b') p s := by
  induction t with
  | pure a => exact fun {Q E p b s} h B => ⟨b, B, h⟩
  | raise e => exact fun {Q E p b s} h B => ⟨b, B, h⟩
  | unsupported what => intro Q E p b s h; exact h.elim
  | finish x => intro Q E p b s h; exact h.elim
  | register a k => intro Q E p b s h; exact h.elim
  | yield v g l k => intro Q E p b s h; exact h.elim
  | fork c k => intro Q E p b s h; exact h.elim
  | await a f d l k => intro Q E p b s h; exact h.elim
  | rule tag k ih => exact fun {Q E p b s} h B => ih _ (h : Sem.wp M Γ (k ()) Q E p b) B
  | «at» p' k ih => exact fun {Q E p b s} h B => ih _ (h : Sem.wp M Γ (k ()) Q E p' b) B
  | load a part k ih =>
    intro Q E p b s h B
    obtain ⟨o, ho, h⟩ := h
    exact ⟨o, by rw [B.heap]; exact ho, ih o h B⟩
  | update a part f k ih =>
    intro Q E p b s h B
    obtain ⟨ha, h⟩ := h
    exact ⟨by rw [B.heap]; exact ha, ih () h (B.up (f := fun h => h.update a f))⟩
  | alloc o k ih =>
    intro Q E p b s h B
    have q := ih _ (h : Sem.wp M Γ (k b.heap.objs.size) Q E p _) (B.up (f := fun h => h.push o))
    show Sem.wp M Γ (k s.heap.objs.size) _ _ p _
    rw [show k s.heap.objs.size = k b.heap.objs.size by rw [B.heap]]
    exact q
  | loadIfAlive a k ih =>
    intro Q E p b s h B
    have q := ih _ (h : Sem.wp M Γ (k (b.heap.get? a)) Q E p _) B
    show Sem.wp M Γ (k (s.heap.get? a)) _ _ p _
    rw [show k (s.heap.get? a) = k (b.heap.get? a) by rw [B.heap]]
    exact q
  | point l k ih => exact fun {Q E p b s} h B => ih _ (h : Sem.wp M Γ (k ()) Q E p b) B
  | fresh k ih =>
    intro Q E p b s h B
    have q := ih _ (h : Sem.wp M Γ (k b.toks) Q E p _) B.tok
    show Sem.wp M Γ (k s.toks) _ _ p _
    rw [show k s.toks = k b.toks by rw [B.toks]]
    exact q
  | ask k ih => exact fun {Q E p b s} h B => ih _ (h : Sem.wp M Γ (k ⟨M.prog, M.w.params⟩) Q E p b) B
  | choose src n k ih =>
    intro Q E p b s h B
    obtain ⟨hn, h⟩ := h
    have q := ih _ h (B.dr src)
    refine ⟨hn, ?_⟩
    rw [show k (M.w.draws src (s.drawn.get src) % n) = k (M.w.draws src (b.drawn.get src) % n) by rw [B.drawn]]
    exact q
  | os r l k ih =>
    intro Q E p b s h B
    have q := ih _ (h : Sem.wp M Γ (k (Os.step b.os r).2) Q E p _) (B.osq r)
    show Sem.wp M Γ (k (Os.step s.os r).2) _ _ p _
    rw [show k (Os.step s.os r).2 = k (Os.step b.os r).2 by rw [B.os]]
    exact q
  | call c hd gd l k ih =>
    intro Q E p b s h B
    obtain ⟨r, b1, hr, h⟩ := h
    obtain ⟨s1, r1, B1, _⟩ := runs_blk hr noGen.nil s B
    exact ⟨r, s1, r1, ih r h B1⟩
  | handled own k ih => exact fun {Q E p b s} h B => ih _ (h : Sem.wp M Γ (k (if own then Γ.own else Γ.handled)) Q E p b) B
  | genState g k ih =>
    intro Q E p b s h B
    obtain ⟨st, hg, h⟩ := h
    rcases B.get g with ⟨x, h3, h4, h5, h6⟩ | ⟨h3, _⟩
    · rw [h5] at hg
      have ex := Option.some.inj hg
      refine ⟨x, h6, ?_⟩
      rw [← block_seen, ex]; exact ih _ h B
    · exact ⟨st, h3.trans hg, ih _ h B⟩
  | newGen c k ih =>
    intro Q E p b s h B
    have q := ih _ (h : Sem.wp M Γ (k b.gens.size) Q E p _) (B.push c)
    show Sem.wp M Γ (k s.gens.size) _ _ p _
    rw [show k s.gens.size = k b.gens.size by rw [B.size]]
    exact q
  | resume g r l k ih =>
    intro Q E p b s h B
    obtain ⟨res, b1, hw, h⟩ := h
    obtain ⟨s1, w1, B1⟩ := wakes_blk hw B
    exact ⟨res, s1, w1, ih _ h B1⟩
  | stack k ih => exact fun {Q E p b s} h B => ih _ (h : Sem.wp M Γ (k ((Γ.code, p) :: Γ.below)) Q E p b) B
  | thread k ih => exact fun {Q E p b s} h B => ih _ (h : Sem.wp M Γ (k 0) Q E p b) B
/-- THE FRAME: code that is known to run from the blocked state runs from the state itself, and its sleepers stand -/
theorem wpAny_blk {M : Model} {G : Array GenState} {A : Around} {α : Type} {t : Sem α} {Q : α → Shared → Prop} {E : Value → Shared → Prop} {b s : Shared} (h : wpAny M A t Q E b) (B : Blk G b s) :
    wpAny M A t (fun a s' => ∃ b', Blk G b' s' ∧ Q a b') (fun e s' => ∃ b', Blk G b' s' ∧ E e b') s := fun Γ p hΓ => wp_blk t (h Γ p hΓ) B
/-- the blocked state of a state -/
def blocked (s : Shared) : Shared := { s with gens := s.gens.map block }
theorem blocked_blk (s : Shared) : Blk s.gens (blocked s) s where
  heap := rfl
  os := rfl
  drawn := rfl
  toks := rfl
  size := by show s.gens.size = (s.gens.map block).size; rw [Array.size_map]
  le := by show s.gens.size ≤ (s.gens.map block).size; rw [Array.size_map]; exact Nat.le_refl _
  yes := fun i x h1 _ => ⟨by show (s.gens.map block)[i]? = _; rw [Array.getElem?_map, h1]; rfl, h1⟩
  no := fun i h => by
    show s.gens[i]? = (s.gens.map block)[i]? ∧ ∀ y, (s.gens.map block)[i]? = some y → noGenS y
    rw [Array.getElem?_map]
    cases e : s.gens[i]? with
    | none => exact ⟨rfl, fun y hy => by cases hy⟩
    | some x =>
      have hx := h x e
      cases x with
      | suspended k l c p fs cl => cases hx
      | _ => exact ⟨rfl, fun y hy => by rw [← Option.some.inj hy]; trivial⟩
theorem blocked_bare {s : Shared} (h : AllBare s.gens) : AllBare (blocked s).gens := fun y hy => by
  obtain ⟨x, hx, e⟩ := Array.mem_map.mp (show y ∈ s.gens.map block from hy)
  have := h x hx
  rw [← e]
  cases x <;> exact this
/-- bare before and behind: the sleepers stand, the rest is as in the blocked one -/
theorem Blk.bare {G : Array GenState} {b s : Shared} (B : Blk G b s) (hG : AllBare G) (hb : AllBare b.gens) : AllBare s.gens := fun y hy => by
  obtain ⟨i, hi, e⟩ := Array.mem_iff_getElem.mp hy
  have hy' : s.gens[i]? = some y := by rw [Array.getElem?_eq_getElem hi, e]
  rcases B.get i with ⟨x, h3, h4, h5, h6⟩ | ⟨h3, h4, h5⟩
  · rw [h6] at hy'
    rw [← Option.some.inj hy']
    exact hG x (Array.mem_of_getElem? h3)
  · exact hb y (Array.mem_of_getElem? (h3.symm.trans hy'))
end K7

/-! ## K7G2 -/
/-! The generator walk: its statements, read. -/
namespace K7
open PySem PySem.Spec PyProof.Rows L2
abbrev N_walk : List Str := ["root", "waiting", "path", "item", "at"]
theorem sc_walk : GScope N_walk ["root"] (defScope (top 11)) := ⟨rfl, rfl, rfl, by decide +kernel, rfl, by decide +kernel, by decide +kernel⟩
def wBody : List Stmt := defBody (top 11)
def pos0 : Pos := ⟨0, 0, 0, 0⟩
def wWhile : Stmt := wBody.getD 1 (.Pass pos0)
def wTest : Expr := match wWhile with | .While t _ _ _ => t | _ => .Constant .none 0 pos0
def wIn : List Stmt := match wWhile with | .While _ b _ _ => b | _ => []
def wPos : Pos := match wWhile with | .While _ _ _ p => p | _ => pos0
def wYield : Stmt := wIn.getD 1 (.Pass pos0)
def wE : Expr := match wYield with | .Expr (.Yield (some e) _) _ => e | _ => .Constant .none 0 pos0
def wP1 : Pos := match wYield with | .Expr (.Yield (some _) p) _ => p | _ => pos0
def wP2 : Pos := match wYield with | .Expr _ p => p | _ => pos0
theorem wBody_eq : wBody = [wBody.getD 0 (.Pass pos0), .While wTest wIn [] wPos] := by rfl
theorem wIn_eq : wIn = [wIn.getD 0 (.Pass pos0), .Expr (.Yield (some wE) wP1) wP2, wIn.getD 2 (.Pass pos0)] := by rfl
/-! ### the stack -/
/-- (the path's length, the item) -/
abbrev Ent := Nat × It
def WItem (H : Hp) (y : Ent) (v : V) : Prop := ∃ (t pa : Addr) (x : V) (xs : List V), v = .ref t ∧ H t = some (.tup [.ref pa, x]) ∧ H pa = some (.tup xs) ∧ xs.length = y.1 ∧ Rep H y.2 x
theorem WItem.chg {S : List Addr} {H H' : Hp} {y : Ent} {v : V} (h : WItem H y v) (c : Chg S H H') : WItem H' y v := by
  obtain ⟨t, pa, x, xs, e, h1, h2, h3, h4⟩ := h
  exact ⟨t, pa, x, xs, e, c.tup h1, c.tup h2, h3, h4.chg c⟩
structure WItems (H : Hp) (st : List Ent) (vals : List V) : Prop where
  len : vals.length = st.length
  at_ : ∀ (i : Nat) (y : Ent) (v : V), st[i]? = some y → vals[i]? = some v → WItem H y v
theorem WItems.chg {S : List Addr} {H H' : Hp} {st : List Ent} {vals : List V} (h : WItems H st vals) (c : Chg S H H') : WItems H' st vals := ⟨h.len, fun i y v h1 h2 => (h.at_ i y v h1 h2).chg c⟩
theorem WItems.one {H : Hp} {y : Ent} {v : V} (h : WItem H y v) : WItems H [y] [v] := ⟨rfl, fun i y' v' h1 h2 => by
  match i, h1, h2 with
  | 0, h1, h2 => rw [← Option.some.inj h1, ← Option.some.inj h2]; exact h
  | i + 1, h1, _ => simp at h1⟩
theorem WItems.snoc {H : Hp} {st : List Ent} {vals : List V} {y : Ent} {v : V} (h : WItems H st vals) (k : WItem H y v) : WItems H (st ++ [y]) (vals ++ [v]) := ⟨by rw [List.length_append, List.length_append, h.len]; rfl, fun i y' v' h1 h2 => by
  by_cases c : i < st.length
  · rw [List.getElem?_append_left c] at h1
    rw [List.getElem?_append_left (by rw [h.len]; exact c)] at h2
    exact h.at_ i y' v' h1 h2
  · rw [List.getElem?_append_right (by omega)] at h1
    rw [List.getElem?_append_right (by rw [h.len]; omega), h.len] at h2
    have hz : i - st.length = 0 := by
      have := lt_of_get h1
      simp at this; omega
    rw [hz] at h1 h2
    rw [← Option.some.inj h1, ← Option.some.inj h2]; exact k⟩
theorem WItems.pop {H : Hp} {st : List Ent} {vals : List V} {y : Ent} (h : WItems H (st ++ [y]) vals) : ∃ v, vals[vals.length - 1]? = some v ∧ WItem H y v ∧ WItems H st vals.dropLast := by
  have hl : vals.length = st.length + 1 := by rw [h.len, List.length_append]; rfl
  have hv : vals[st.length]? = some vals[st.length] := List.getElem?_eq_getElem (by omega)
  have e1 : vals.length - 1 = st.length := by omega
  refine ⟨vals[st.length], (congrArg (fun i => vals[i]?) e1).trans hv, h.at_ st.length y _ (by rw [List.getElem?_append_right (Nat.le_refl _), Nat.sub_self]; rfl) hv, ⟨by rw [List.length_dropLast]; omega, fun i y' v' h1 h2 => ?_⟩⟩
  have hi := lt_of_get h1
  rw [List.dropLast_eq_take, List.getElem?_take] at h2
  rw [if_pos (by omega)] at h2
  exact h.at_ i y' v' (by rw [List.getElem?_append_left hi]; exact h1) h2
def wt (st : List Ent) : Nat := cnts (st.map (·.2))
theorem wt_append (a b : List Ent) : wt (a ++ b) = wt a + wt b := by
  unfold wt
  rw [List.map_append, cnts_append]
/-- the children, the last first -/
def nxt (y : Ent) : List Ent := match y.2 with
  | .part _ _ its => its.reverse.map fun c => (y.1 + 1, c)
  | _ => []
theorem cnts_reverse : ∀ l : List It, cnts l.reverse = cnts l
  | [] => rfl
  | x :: l => by rw [List.reverse_cons, cnts_append, cnts_reverse l, cnts, cnts, cnts]; omega
theorem map_snd (n : Nat) : ∀ l : List It, ((l.map fun c => ((n, c) : Ent)).map (·.2)) = l
  | [] => rfl
  | x :: l => by rw [List.map_cons, List.map_cons, map_snd n l]
theorem wt_nxt (y : Ent) : wt (nxt y) + 1 = cnt y.2 := by
  obtain ⟨l, d⟩ := y
  cases d with
  | txt s => rfl
  | two t n => rfl
  | part k m its =>
    show cnts ((its.reverse.map fun c => ((l + 1, c) : Ent)).map (·.2)) + 1 = cnt (.part k m its)
    rw [map_snd, cnts_reverse, cnt]; omega
structure EntOk (y : Ent) : Prop where
  h : y.1 + hgt y.2 ≤ 20
  w : wid y.2 ≤ 1000
def StOk (st : List Ent) : Prop := (∀ y ∈ st, EntOk y) ∧ wt st ≤ 1000
theorem len_wt (st : List Ent) : st.length ≤ wt st := by
  have h := len_cnts (st.map (·.2))
  rw [List.length_map] at h
  exact h
/-- the head of the loop; and asleep in the yield -/
def PHead (rv : V) (wl : Addr) (st : List Ent) (σ : L2.St) (H : Hp) : Prop := ∃ (v2 v3 v4 : Option V) (vals : List V), σ = [some rv, some (.ref wl), v2, v3, v4] ∧ H wl = some (.lst vals) ∧ WItems H st vals
def PSleep (rv : V) (wl : Addr) (y : Ent) (st : List Ent) (σ : L2.St) (H : Hp) : Prop := ∃ (pa : Addr) (x : V) (v4 : Option V) (xs vals : List V), σ = [some rv, some (.ref wl), some (.ref pa), some x, v4] ∧ H pa = some (.tup xs) ∧ xs.length = y.1 ∧ Rep H y.2 x ∧ H wl = some (.lst vals) ∧ WItems H st vals
section
variable {P : Program} {w : World} {K : PySem.W.Frag} {mg : Str → Option Value} {base : Heap} {k : Nat} {f : Addr} {cdv : Value} {A : Around} {outer : List Env} {s0 : Shared} {H0 : Hp}
/-- the generator's context -/
abbrev Xw (P : Program) (w : World) (K : PySem.W.Frag) (mg : Str → Option Value) (base : Heap) (f : Addr) (cdv : Value) (A : Around) (outer : List Env) (s0 : Shared) (H0 : Hp) : Cx := (cxOf CX0 P w K mg base N_walk "walk" (defScope (top 11)) f cdv A outer s0 H0 E0).nox
theorem rd0 (B : Bn mg) : ∃ t, PS (Xw P w K mg base f cdv A outer s0 H0) (wBody.getD 0 (.Pass pos0)) t ∧
    ∀ (D : Ends) (rv : V) (d : It) (H : Hp), Rep H d rv → (∀ wl σ' H', H wl = none → Ex H H' → PHead rv wl [(0, d)] σ' H' → D.nx σ' H') → t D [some rv, none, none, none, none] H := by
  refine ⟨_, (ps_set (i := 1) sc_walk.nd rfl (Or.inl rfl) (pe_lstC (pa_cons (pe_tupC (pa_cons (pe_tupC pa_nil) (pa_cons (pv 0) pa_nil))) pa_nil))), fun D rv d H rep z => ?_⟩
  refine ⟨Nat.zero_le _, fun p1 H1 n1 e1 h1 => ⟨_, rfl, by show 2 ≤ sizeLine; decide, fun p2 H2 n2 e2 h2 => ⟨by show 1 ≤ sizeLine; decide, fun wl H3 n3 e3 h3 => ?_⟩⟩⟩
  have e13 := e2.trans e3
  exact z wl _ H3 (e1.backE (e2.backE n3)) (e1.trans e13) ⟨none, none, none, _, rfl, h3, WItems.one ⟨p2, p1, rv, [], rfl, e3.ex h2, e13.ex h1, rfl, rep.chg (e1.trans e13)⟩⟩
theorem rdT : ∃ t, PT (Xw P w K mg base f cdv A outer s0 H0) wTest t ∧
    ∀ (Q : Bool → Hp → Prop) (rv : V) (wl : Addr) (st : List Ent) (σ : L2.St) (H : Hp), PHead rv wl st σ H → Q (decide (st.length ≠ 0)) H → t σ H Q := by
  refine ⟨_, (pt_truth (pv 1) (by intro _; rfl)), fun Q rv wl st σ H h z => ?_⟩
  obtain ⟨v2, v3, v4, vals, rfl, hw, hi⟩ := h
  refine ⟨_, rfl, _, .inl ⟨vals, SqL.of hw, ?_⟩, z⟩
  rw [← hi.len]
  cases vals <;> rfl
theorem rdP (B : Bn mg) : ∃ t, PS (Xw P w K mg base f cdv A outer s0 H0) (wIn.getD 0 (.Pass pos0)) t ∧
    ∀ (D : Ends) (rv : V) (wl : Addr) (y : Ent) (st : List Ent) (σ : L2.St) (H : Hp), PHead rv wl (st ++ [y]) σ H → (∀ σ' H', Chg [wl] H H' → PSleep rv wl y st σ' H' → D.nx σ' H') → t D σ H := by
  refine ⟨_, (ps_asg (pe_bm0 PySem.F.plainAttrs_list PySem.F.slot_list_pop PySem.F.type_list_pop mt_popC (pv 1)) (pg_tup rfl (pgs_cons (pg_name (i := 2) sc_walk.nd rfl (Or.inl rfl)) (pgs_cons (pg_name (i := 3) sc_walk.nd rfl (Or.inl rfl)) pgs_nil)))), fun D rv wl y st σ H h z => ?_⟩
  obtain ⟨v2, v3, v4, vals, rfl, hw, hi⟩ := h
  obtain ⟨v, hv, ⟨t, pa, x, xs, rfl, h1, h2, h3, h4⟩, hi2⟩ := hi.pop
  refine ⟨_, rfl, .inl ⟨rfl, _, SqL.of hw⟩, wl, vals, _, rfl, rfl, hw, hv, fun H1 w1 => ?_⟩
  have c1 : Chg [wl] H H1 := w1.chg hw (by simp)
  refine ⟨t, _, rfl, SqT.of (c1.tup h1), rfl, _, _, rfl, _, _, rfl, rfl, ?_⟩
  exact z _ H1 c1 ⟨pa, x, v4, xs, _, rfl, c1.tup h2, h3, h4.chg c1, w1.here, hi2.chg c1⟩
theorem rdE : ∃ t, PE (Xw P w K mg base f cdv A outer s0 H0) wE t ∧
    ∀ (Q : VK) (rv : V) (wl : Addr) (y : Ent) (st : List Ent) (σ : L2.St) (H : Hp), PSleep rv wl y st σ H → (∀ u H', Ex H H' → WItem H' y u → PSleep rv wl y st σ H' → Q u H') → t σ H Q := by
  refine ⟨_, (pe_tupC (pa_cons (pv 2) (pa_cons (pv 3) pa_nil))), fun Q rv wl y st σ H h z => ?_⟩
  obtain ⟨pa, x, v4, xs, vals, rfl, h1, h2, h3, h4, h5⟩ := h
  refine ⟨_, rfl, _, rfl, by show 2 ≤ sizeLine; decide, fun t H1 n1 e1 ht => ?_⟩
  exact z _ H1 e1 ⟨t, pa, x, xs, rfl, ht, e1.ex h1, h2, h3.chg e1⟩ ⟨pa, x, v4, xs, vals, rfl, e1.ex h1, h2, h3.chg e1, e1.ex h4, h5.chg e1⟩
theorem rdN (B : Bn mg) (G_is_part : Has P w K mg base k "is_part" spIsPart) (hr : Room k (Xw P w K mg base f cdv A outer s0 H0).A) : ∃ t, PS (Xw P w K mg base f cdv A outer s0 H0) (wIn.getD 2 (.Pass pos0)) t ∧
    ∀ (D : Ends) (rv : V) (wl : Addr) (y : Ent) (st : List Ent) (σ : L2.St) (H : Hp), PSleep rv wl y st σ H → EntOk y → wt st + wt (nxt y) ≤ 1000 → (∀ σ' H', Chg [wl] H H' → PHead rv wl (st ++ nxt y) σ' H' → D.nx σ' H') → t D σ H := by
  refine ⟨_, (ps_if (pt_val (pe_has G_is_part hr (pa_cons (pv 3) pa_nil))) (pss_one (ps_for PassesOwn.never rfl (pi_range3 rfl B.rng (pa_cons (pe_op op_sub (pe_callB (call_lenK (K := K)) rfl B.len PySem.boot_len (pa_cons (pe_ix ix_tupC (pv 3) pe_int (fun _ _ => rfl)) pa_nil)) pe_int) (pa_cons (pe_un un_neg pe_int) (pa_cons (pe_un un_neg pe_int) pa_nil)))) (pg_name (i := 4) sc_walk.nd rfl (Or.inl rfl)) (pss_one (ps_expr (pe_bm PySem.F.plainAttrs_list PySem.F.slot_list_append PySem.F.type_list_append mt_appC (pv 1) (pa_cons (pe_tupC (pa_cons (pe_op op_catC (pv 2) (pe_tupC (pa_cons (pv 4) pa_nil))) (pa_cons (pe_ix ix_tupC (pe_ix ix_tupC (pv 3) pe_int (fun _ _ => rfl)) (pv 4) (fun _ _ => rfl)) pa_nil))) pa_nil)))))) pss_nil), fun D rv wl y st σ H h ok hw z => ?_⟩
  obtain ⟨pa, x, v4, xs, vals, rfl, h1, h2, h3, h4, h5⟩ := h
  obtain ⟨l, d⟩ := y
  have lw := len_wt st
  refine ⟨_, rfl, x, d, rfl, h3, _, rfl, ?_⟩
  cases d with
  | txt s => exact z _ H (Chg.refl H) ⟨_, _, _, vals, rfl, h4, by show WItems H (st ++ []) vals; rw [List.append_nil]; exact h5⟩
  | two s t => exact z _ H (Chg.refl H) ⟨_, _, _, vals, rfl, h4, by show WItems H (st ++ []) vals; rw [List.append_nil]; exact h5⟩
  | part kd ms its =>
    obtain ⟨a, m, r, us, rfl, a1, a2, a3, a4⟩ := id h3
    have ul := a4.length
    have rg : RgC ((us.length : Nat) - 1 : Int) (-1) (-1) its.length := by
      have hw2 := ok.w
      rw [wid] at hw2
      have h := RgC.neg (i := ((us.length : Nat) - 1 : Int)) (j := -1) (by omega) (by omega) (by decide) (by decide)
      rw [show (((us.length : Nat) - 1 : Int) - (-1)).toNat = its.length by omega] at h
      exact h
    have hx1 := ok.h
    refine ⟨_, rfl, a, _, _, _, rfl, rfl, a1, rfl, _, _, rfl, lenT a3, _, _, rfl, rfl, _, rfl, _, rfl, _, _, _, its.length, rfl, rg, for_rangeC (n := its.length) (fun i σ' H' => ∃ v4 vals', σ' = [some rv, some (.ref wl), some (.ref pa), some (.ref a), v4] ∧ Chg [wl] H H' ∧ H' wl = some (.lst vals') ∧ WItems H' (st ++ ((its.drop (its.length - i)).reverse.map fun c => (l + 1, c))) vals')
      ⟨v4, vals, rfl, Chg.refl H, h4, by rw [Nat.sub_zero, List.drop_length]; show WItems H (st ++ []) vals; rw [List.append_nil]; exact h5⟩ ?_ ?_⟩
    · rintro i σ1 H1 hi ⟨v4, vals', rfl, c1, hw1, hi1⟩
      obtain ⟨j, ej, ej2⟩ : ∃ j, its.length - i = j + 1 ∧ its.length - (i + 1) = j := ⟨its.length - i - 1, by omega, by omega⟩
      have jl : j < its.length := by omega
      have ei : ((us.length : Nat) - 1 : Int) + (i : Nat) * (-1) = (j : Int) := by omega
      rw [ei]
      obtain ⟨u, hu, ru⟩ := a4.get (List.getElem?_eq_getElem jl)
      have hl1 : vals'.length ≤ 2000 := by
        rw [hi1.len, List.length_append, List.length_map, List.length_reverse, List.length_drop]
        have hw2 := ok.w
        rw [wid] at hw2
        omega
      refine ⟨_, rfl, .inl ⟨rfl, _, SqL.of hw1⟩, _, rfl, _, rfl, by show 1 ≤ sizeLine; decide, fun p2 H2 n2 e2 h2' => ⟨pa, p2, _, _, rfl, rfl, e2.ex (c1.tup h1), h2', sz (show xs.length + 1 ≤ 10000000 by have hx2 : l + hgt (.part kd ms its) ≤ 20 := hx1; have h2' : xs.length = l := h2; omega), fun p3 H3 e3 h3' => ?_⟩⟩
      have e13 := e2.trans e3
      refine ⟨_, rfl, a, _, _, _, rfl, rfl, e13.ex (c1.tup a1), rfl, _, rfl, r, _, _, _, rfl, rfl, e13.ex (c1.tup a3), atI_nat hu, by show 2 ≤ sizeLine; decide, fun p4 H4 n4 e4 h4' => ⟨wl, vals', _, rfl, rfl, (e13.trans e4).ex hw1, szl (by omega), fun H5 w5 => ?_⟩⟩
      have e14 := e13.trans e4
      have c45 : Chg [wl] H4 H5 := w5.chg (e14.ex hw1) (by simp)
      have c15 : Chg [wl] H1 H5 := e14.of.trans c45
      refine ⟨_, _, rfl, c1.trans c15, w5.here, ?_⟩
      have ed : ((its.drop (its.length - (i + 1))).reverse.map fun c => ((l + 1, c) : Ent)) = ((its.drop (its.length - i)).reverse.map fun c => ((l + 1, c) : Ent)) ++ [(l + 1, its[j])] := by
        rw [ej2, ej, List.drop_eq_getElem_cons jl, List.reverse_cons, List.map_append]; rfl
      rw [ed, ← List.append_assoc]
      refine (hi1.chg c15).snoc ⟨p4, p3, u, _, rfl, c45.tup h4', (e4.of.trans c45).tup h3', by rw [List.length_append, h2]; rfl, ?_⟩
      exact ((ru.chg c1).chg c15)
    · rintro σ1 H1 ⟨v4, vals', rfl, c1, hw1, hi1⟩
      rw [Nat.sub_self, List.drop_zero] at hi1
      exact z _ H1 c1 ⟨_, _, _, vals', rfl, hw1, hi1⟩
end
end K7

/-! ## K7G3 -/
/-! A generator that sleeps: its context, made anew at each waking; its consumer's, behind it. -/
namespace K7
open PySem PySem.Spec PyProof.Rows L2
/-- the heap, cut at n -/
def trunc (n : Nat) (s : Shared) : Shared := { s with heap := { s.heap with objs := s.heap.objs.extract 0 n } }
theorem get_objs {h h' : Heap} {b : Nat} (e : h'.objs[b]? = h.objs[b]?) : h'.get? b = h.get? b := by
  unfold Heap.get?
  rw [e]
theorem get_out {h : Heap} {b : Nat} (e : h.objs[b]? = none) : h.get? b = none := by
  unfold Heap.get?
  rw [e]
theorem trunc_in {n : Nat} {s : Shared} {b : Nat} (h : b < n) : (trunc n s).heap.get? b = s.heap.get? b := by
  refine get_objs ?_
  show (s.heap.objs.extract 0 n)[b]? = s.heap.objs[b]?
  rw [Array.getElem?_extract]
  by_cases hb : b < s.heap.objs.size
  · rw [if_pos (by omega), Nat.zero_add]
  · rw [if_neg (by omega)]
    exact (Array.getElem?_eq_none (by omega)).symm
theorem trunc_some {n : Nat} {s : Shared} {b : Nat} {o : Obj} (h : (trunc n s).heap.get? b = some o) : b < n ∧ s.heap.get? b = some o := by
  by_cases hb : b < n
  · exact ⟨hb, by rw [← trunc_in hb]; exact h⟩
  · have e : (trunc n s).heap.objs[b]? = none := by
      show (s.heap.objs.extract 0 n)[b]? = none
      rw [Array.getElem?_extract, if_neg (by omega)]
    rw [get_out e] at h; cases h
theorem trunc_size {n : Nat} {s : Shared} (h : n ≤ s.heap.objs.size) : (trunc n s).heap.objs.size = n := by
  show (s.heap.objs.extract 0 n).size = n
  rw [Array.size_extract]; omega
theorem un_trunc {n : Nat} {s : Shared} {fs : List Addr} {H : Hp} : Un fs [] H H (trunc n s).heap s.heap where
  keep := fun b o e _ _ _ => (trunc_some e).2
  slot := fun b o e _ _ _ => ⟨o.slots, (trunc_some e).2⟩
  free := fun b o _ n _ => n
  there := fun b o e _ => ⟨o, (trunc_some e).2⟩
  tups := fun _ _ h => h
  frzs := fun _ _ _ h => h
  tbls := fun b ps h => ⟨#[], by rw [h]; simp⟩
theorem cells_nil (m : Nat) : cellsFrom m (defScope (top 11)).names [] = [] := by rfl
theorem funs_trunc {base : Heap} {n : Nat} {s : Shared} : ∀ {l : List Env}, (∀ b ∈ frs l, b < n) → s.heap.FunFrames base l → (trunc n s).heap.FunFrames base l
  | [], _, _ => trivial
  | env :: rest, hf, ⟨hk, ⟨L, o, hfr, hnb, ho, hd⟩, hr⟩ => by
    have e : frs (env :: rest) = L :: frs rest := by
      show List.filterMap _ _ = _
      rw [List.filterMap_cons, hfr]; rfl
    rw [e] at hf
    refine ⟨hk, ⟨L, o, hfr, hnb, ?_, hd⟩, funs_trunc (fun b hb => hf b (List.mem_cons_of_mem _ hb)) hr⟩
    rw [trunc_in (hf L (List.mem_cons_self ..))]; exact ho
/-- what does not change: n the generator's names, a the generator -/
structure GFix (base : Heap) (A : Around) (outer : List Env) (n a : Addr) (go : Obj) : Prop where
  hd : A.handled = none
  fr : A.frames = some outer
  bn : base.objs.size ≤ n
  fn : ∀ b ∈ frs outer, b < n
  na : a ≠ n
  af : a ∉ frs outer
  gd : ∀ v, go.data ≠ .cell v
/-- it may be woken -/
structure GW (P : Program) (w : World) (K : PySem.W.Frag) (mg : Str → Option Value) (base : Heap) (A : Around) (outer : List Env) (n a : Addr) (go lo : Obj) (H : Hp) (s : Shared) : Prop where
  e0 : Env0 P w K mg base A outer s H
  nl : s.heap.get? n = some lo
  nH : H n = none
  aa : s.heap.get? a = some go
  aH : H a = none
/-- its names, as they stand -/
def GLoc (f : Addr) (cdv : Value) (n : Addr) (σ : L2.St) (h : Heap) : Prop := σ.length = 5 ∧ ∃ m, h.Ns n m ∧ ∀ (i : Nat) (x : Str) (v : V), N_walk[i]? = some x → σ[i]? = some (some v) → Vis (defScope (top 11)) x → ∃ u, RelV v u ∧ (envOfC "walk" (defScope (top 11)) n f cdv).kindOf x = some .local ∧ m x = some u
theorem GLoc.of {f : Addr} {cdv : Value} {n : Addr} {σ : L2.St} {h h' : Heap} {o : Obj} (g : GLoc f cdv n σ h) (e : h.get? n = some o) (e' : h'.get? n = some o) : GLoc f cdv n σ h' := by
  obtain ⟨hl, m, hn, hx⟩ := g
  refine ⟨hl, m, ?_, hx⟩
  obtain ⟨o2, es, ep, h1, h2⟩ := hn
  rw [e] at h1
  obtain rfl := Option.some.inj h1
  exact ⟨_, es, ep, e', h2⟩
section
variable {P : Program} {w : World} {K : PySem.W.Frag} {mg : Str → Option Value} {base : Heap} {k : Nat} {f : Addr} {cdv : Value} {A : Around} {outer : List Env} {n a : Addr} {go lo : Obj} {H H1 : Hp} {s s1 : Shared} {σ : L2.St}
theorem GW.size (g : GW P w K mg base A outer n a go lo H s) : n ≤ s.heap.objs.size := Nat.le_of_lt (Heap.lt_size g.nl)
theorem inv_wake (F : GFix base A outer n a go) (g : GW P w K mg base A outer n a go lo H s) (L : GLoc f cdv n σ s.heap) : Inv (Xw P w K mg base f cdv A outer (trunc n s) H) [(a, go)] σ H s := by
  have hs := trunc_size g.size
  obtain ⟨hl, m, hn, hx⟩ := L
  have noc : ∀ (x : Str) (c : Addr), (cellsFrom ((trunc n s).heap.objs.size + 1) (defScope (top 11)).names []).lookup x = some c → False := fun x c h => by
    rw [cells_nil] at h; cases h
  have bs : ∀ b o, base.get? b = some o → (trunc n s).heap.get? b = some o ∧ H b = none := fun b o e =>
    ⟨by rw [trunc_in (Nat.lt_of_lt_of_le (Heap.lt_size e) F.bn)]; exact (g.e0.bs b o e).1, (g.e0.bs b o e).2⟩
  have funs : (trunc n s).heap.FunFrames base outer := funs_trunc F.fn g.e0.funs
  refine ⟨⟨g.e0.mod, rfl, rfl, rfl, Nat.le_refl _, fun x y c h _ => (noc x c h).elim, fun x hx => ?_, fun x c _ h => (noc x c h).elim, fun _ => F.hd, Around.frames_deeper F.fr, .inr ⟨rfl, rfl⟩, fun b hb => absurd hb (by simp [cxOf]), bs, ?_, fun b o _ hb => absurd hb (by simp [cxOf]), fun b hb => absurd hb (by simp [cxOf]), funs, g.e0.frf⟩,
    rfl, g.e0.bare, un_trunc, ⟨m, ?_, ?_⟩, fun x c h => (noc x c h).elim, ?_, fun x c h => (noc x c h).elim, fun p hp => ?_, g.e0.hok, hl⟩
  · exfalso
    have hx : (defScope (top 11)).names.lookup x = some .cell ∨ (defScope (top 11)).names.lookup x = some .free := hx
    have hm : ∀ y ∈ (defScope (top 11)).names, y.2 ≠ .cell ∧ y.2 ≠ .free := by decide +kernel
    rcases hx with hx | hx
    · exact (hm _ (PySem.mem_of_lookup hx)).1 rfl
    · exact (hm _ (PySem.mem_of_lookup hx)).2 rfl
  · show base.objs.size ≤ (trunc n s).heap.objs.size
    rw [hs]; exact F.bn
  · show s.heap.Ns (trunc n s).heap.objs.size m
    rw [hs]; exact hn
  · intro i x v h1 h2 h3
    obtain ⟨u, r, hk, hmx⟩ := hx i x v h1 h2 h3
    exact ⟨u, r, .inl ⟨hk, hmx⟩⟩
  · show H (trunc n s).heap.objs.size = none
    rw [hs]; exact g.nH
  · have e : p = (a, go) := by simpa [cxOf] using hp
    rw [e]
    refine ⟨g.aa, g.aH, ?_, F.af, F.gd⟩
    show a ≠ (trunc n s).heap.objs.size
    rw [hs]; exact F.na
/-- the names as they stand in a context of the generator's -/
theorem gloc_of {s0 : Shared} {H0 : Hp} {pins : List (Addr × Obj)} (I : Inv (Xw P w K mg base f cdv A outer s0 H0) pins σ H s) (hs : s0.heap.objs.size = n) : GLoc f cdv n σ s.heap := by
  obtain ⟨m, hn, hx⟩ := I.loc
  subst hs
  refine ⟨I.len, m, hn, fun i x v h1 h2 h3 => ?_⟩
  obtain ⟨u, r, hk⟩ := hx i x v h1 h2 h3
  refine ⟨u, r, ?_⟩
  rcases hk with hk | ⟨_, c, hc, _⟩
  · exact hk
  · have hc : (cellsFrom (s0.heap.objs.size + 1) (defScope (top 11)).names []).lookup x = some c := hc
    rw [cells_nil] at hc; cases hc
/-- the consumer, behind a turn of the generator's -/
theorem cons_after {X : Cx} {pins pins' : List (Addr × Obj)} {σc σg : L2.St} (I : Inv X pins σc H s) (G : Inv (Xw P w K mg base f cdv A X.stack (trunc n s) H) [(a, go)] σg H1 s1) (hn : X.env.locals < n) (hp : X.prog = P) (hw : X.w = w)
    (hcell : ∀ x c, X.env.cells.lookup x = some c → False)
    (hpin : ∀ p ∈ X.pn ++ pins', s1.heap.get? p.1 = some p.2 ∧ H1 p.1 = none ∧ p.1 ≠ X.env.locals ∧ p.1 ∉ X.fs ∧ ∀ v, p.2.data ≠ .cell v) : Inv X pins' σc H1 s1 := by
  have U : Un (frs X.stack) [] H H1 (trunc n s).heap s1.heap := G.base
  have lt : ∀ {b : Addr} {o : Obj}, X.s_0.heap.get? b = some o → b < n := fun {b o} e => Nat.lt_trans (Nat.lt_of_lt_of_le (Heap.lt_size e) I.ok.above) hn
  have tr : ∀ {b : Nat} {o : Obj}, b < n → s.heap.get? b = some o → (trunc n s).heap.get? b = some o := fun {b o} hb e => by rw [trunc_in hb]; exact e
  have nl : ∀ {b : Addr} {o : Obj}, X.s_0.heap.get? b = some o → b ≠ X.env.locals := fun {b o} e z => by
    have h1 := Nat.lt_of_lt_of_le (Heap.lt_size e) I.ok.above
    rw [z] at h1
    exact absurd h1 (Nat.lt_irrefl _)
  refine ⟨I.ok, G.os.trans I.os, G.bare, ⟨fun b o e hn1 hf hx => ?_, fun b o e hn1 hf hx => ?_, fun b o e hn1 hx => ?_, fun b o e hx => ?_, fun b xs e => U.tups _ _ (I.base.tups _ _ e), fun b o u e => U.frzs _ _ _ (I.base.frzs _ _ _ e), fun b ps e => ?_⟩, ?_, fun x c h => (hcell x c h).elim, ?_, fun x c h => (hcell x c h).elim, hpin, ?_, I.len⟩
  · refine U.keep b o (tr (lt e) (I.base.keep b o e hn1 hf hx)) (I.base.free b o e hn1 hx) (fun hm => ?_) (by simp)
    rcases List.mem_cons.mp (I.stkSub b hm) with z | z
    · exact nl e z
    · exact hf z
  · obtain ⟨sl, e1⟩ := I.base.slot b o e hn1 hf hx
    obtain ⟨sl2, e2⟩ := U.any (tr (lt e) e1) (I.base.free b o e hn1 hx) (by simp)
    exact ⟨sl2, e2⟩
  · obtain ⟨sl, e1⟩ := I.base.any e hn1 hx
    exact U.free b _ (tr (lt e) e1) (I.base.free b o e hn1 hx) (by simp)
  · obtain ⟨o', e1⟩ := I.base.there b o e hx
    exact U.there b o' (tr (lt e) e1) (by simp)
  · obtain ⟨m1, e1⟩ := I.base.tbls b ps e
    obtain ⟨m2, e2⟩ := U.tbls _ _ e1
    exact ⟨m1 ++ m2, by rw [e2, Array.append_assoc]⟩
  · obtain ⟨m, ⟨o, es, ep, ho, r⟩, hx⟩ := I.loc
    obtain ⟨sl, hL⟩ := U.any (tr hn ho) I.free (by simp)
    refine ⟨m, ⟨_, es, ep, hL, r⟩, fun i x v h1 h2 h3 => ?_⟩
    obtain ⟨u, ru, hk⟩ := hx i x v h1 h2 h3
    refine ⟨u, ru, ?_⟩
    rcases hk with hk | ⟨_, c, hc, _⟩
    · exact .inl hk
    · exact (hcell x c hc).elim
  · obtain ⟨m, ⟨o, es, ep, ho, r⟩, _⟩ := I.loc
    exact U.free _ _ (tr hn ho) I.free (by simp)
  · rw [hp, hw]
    exact G.hok
end
end K7

/-! ## K7G4 -/
/-! The generator walk, run: from one yield to the next. -/
namespace K7
open PySem PySem.Spec PyProof.Rows L2
inductive Phase where
  | fresh (d : It)
  | asleep (wl : Addr) (y : Ent) (st : List Ent)
def Phase.next : Phase → List Ent
  | .fresh d => [(0, d)]
  | .asleep _ y st => st ++ nxt y
def Phase.wl (ph : Phase) (wl : Addr) (H : Hp) : Prop := match ph with
  | .fresh _ => H wl = none
  | .asleep wl' _ _ => wl' = wl
abbrev En (n : Addr) (f : Addr) (cdv : Value) : Env := envOfC "walk" (defScope (top 11)) n f cdv
section
variable {P : Program} {w : World} {K : PySem.W.Frag} {mg : Str → Option Value} {base : Heap} {k : Nat} {f : Addr} {cdv : Value} {A : Around} {outer : List Env} {n a : Addr} {go : Obj} {rv : V} {γ : Type} {J : γ → Phase → Hp → Shared → Prop}
/-- what the consumer's state gives -/
structure JOk (P : Program) (w : World) (K : PySem.W.Frag) (mg : Str → Option Value) (base : Heap) (f : Addr) (cdv : Value) (A : Around) (outer : List Env) (n a : Addr) (go : Obj) (rv : V) (J : γ → Phase → Hp → Shared → Prop) : Prop where
  sleep : ∀ c wl y st H s, J c (.asleep wl y st) H s → ∃ lo σ, GW P w K mg base A outer n a go lo H s ∧ GLoc f cdv n σ s.heap ∧ PSleep rv wl y st σ H
  fresh : ∀ c d H s, J c (.fresh d) H s → ∃ lo, GW P w K mg base A outer n a go lo H s ∧ GLoc f cdv n [some rv, none, none, none, none] s.heap ∧ Rep H d rv
theorem JOk.size (O : JOk P w K mg base f cdv A outer n a go rv J) {c : γ} {ph : Phase} {H : Hp} {s : Shared} (j : J c ph H s) : n ≤ s.heap.objs.size := by
  cases ph with
  | fresh d =>
    obtain ⟨lo, g, _⟩ := O.fresh _ _ _ _ j
    exact g.size
  | asleep wl y st =>
    obtain ⟨lo, σ, g, _⟩ := O.sleep _ _ _ _ _ _ j
    exact g.size
/-- a turn of the generator's, from s₀ (the consumer's H0) to s -/
structure Turn (P : Program) (w : World) (K : PySem.W.Frag) (mg : Str → Option Value) (base : Heap) (f : Addr) (cdv : Value) (A : Around) (outer : List Env) (n a : Addr) (go : Obj) (J : γ → Phase → Hp → Shared → Prop) (c : γ) (ph : Phase) (H0 : Hp) (s₀ : Shared) (wl : Addr) (σ : L2.St) (H : Hp) (s : Shared) : Prop where
  j : J c ph H0 s₀
  hw : ph.wl wl H0
  chg : Chg [wl] H0 H
  inv : Inv (Xw P w K mg base f cdv A outer (trunc n s₀) H0) [(a, go)] σ H s
def YW (P : Program) (w : World) (K : PySem.W.Frag) (mg : Str → Option Value) (base : Heap) (f : Addr) (cdv : Value) (A : Around) (outer : List Env) (n a : Addr) (go : Obj) (rv : V) (J : γ → Phase → Hp → Shared → Prop) : Protocol := fun m s₀ v s kap =>
  ∃ c ph H0 wl σ H y st u, Turn P w K mg base f cdv A outer n a go J c ph H0 s₀ wl σ H s ∧ ph.next = st ++ [y] ∧ wt ph.next ≤ m ∧ RelV u v ∧ WItem H y u ∧ PSleep rv wl y st σ H ∧ ∀ c' H' s', J c' (.asleep wl y st) H' s' → kap (.send .none) s' ∧ kap (.send (.bool true)) s'
def FW (P : Program) (w : World) (K : PySem.W.Frag) (mg : Str → Option Value) (base : Heap) (f : Addr) (cdv : Value) (A : Around) (outer : List Env) (n a : Addr) (go : Obj) (J : γ → Phase → Hp → Shared → Prop) (m : Nat) (s₀ s : Shared) : Prop :=
  ∃ c ph H0 wl σ H, Turn P w K mg base f cdv A outer n a go J c ph H0 s₀ wl σ H s ∧ ph.next = []
def RW (P : Program) (w : World) (K : PySem.W.Frag) (mg : Str → Option Value) (base : Heap) (f : Addr) (cdv : Value) (A : Around) (outer : List Env) (n a : Addr) (go : Obj) (J : γ → Phase → Hp → Shared → Prop) : GenEnd := fun m s₀ r s =>
  ((r = .ok (.ret .none) ∨ r = .ok .next) ∧ FW P w K mg base f cdv A outer n a go J m s₀ s) ∨ ∃ e, r = .error e ∧ (fun (_ : Value) (_ : Shared) => False) e s
theorem run_ps {s₀ s : Shared} {H0 H : Hp} {σ : L2.St} {st : Stmt} {t : TS} {D : Ends} (hs : n ≤ s₀.heap.objs.size) (h : PS (Xw P w K mg base f cdv A outer (trunc n s₀) H0) st t) (I : Inv (Xw P w K mg base f cdv A outer (trunc n s₀) H0) [(a, go)] σ H s) (ht : t D σ H) :
    wpAny (model P w) (A.deeper (En n f cdv)) (exec st (En n f cdv)) (SP (Xw P w K mg base f cdv A outer (trunc n s₀) H0) [(a, go)] D) (fun _ _ => False) s := by
  have q : wpAny (model P w) (A.deeper (En (trunc n s₀).heap.objs.size f cdv)) (exec st (En (trunc n s₀).heap.objs.size f cdv)) (SP (Xw P w K mg base f cdv A outer (trunc n s₀) H0) [(a, go)] D) (fun _ _ => False) s := h.run _ s σ H D I ht
  rw [trunc_size hs] at q
  exact q
theorem run_pe {s₀ s : Shared} {H0 H : Hp} {σ : L2.St} {e : Expr} {t : TE} {Q : VK} (hs : n ≤ s₀.heap.objs.size) (h : PE (Xw P w K mg base f cdv A outer (trunc n s₀) H0) e t) (I : Inv (Xw P w K mg base f cdv A outer (trunc n s₀) H0) [(a, go)] σ H s) (ht : t σ H Q) :
    wpAny (model P w) (A.deeper (En n f cdv)) (eval e (En n f cdv)) (EP (Xw P w K mg base f cdv A outer (trunc n s₀) H0) [(a, go)] σ Q) (fun _ _ => False) s := by
  have q : wpAny (model P w) (A.deeper (En (trunc n s₀).heap.objs.size f cdv)) (eval e (En (trunc n s₀).heap.objs.size f cdv)) (EP (Xw P w K mg base f cdv A outer (trunc n s₀) H0) [(a, go)] σ Q) (fun _ _ => False) s := h.run _ s σ H Q I ht
  rw [trunc_size hs] at q
  exact q
theorem run_pt {s₀ s : Shared} {H0 H : Hp} {σ : L2.St} {e : Expr} {t : TT} {Q : Bool → Hp → Prop} (hs : n ≤ s₀.heap.objs.size) (h : PT (Xw P w K mg base f cdv A outer (trunc n s₀) H0) e t) (I : Inv (Xw P w K mg base f cdv A outer (trunc n s₀) H0) [(a, go)] σ H s) (ht : t σ H Q) :
    wpAny (model P w) (A.deeper (En n f cdv)) (isTrue e (En n f cdv) (eval e (En n f cdv))) (TP (Xw P w K mg base f cdv A outer (trunc n s₀) H0) [(a, go)] σ Q) (fun _ _ => False) s := by
  have q : wpAny (model P w) (A.deeper (En (trunc n s₀).heap.objs.size f cdv)) (isTrue e (En (trunc n s₀).heap.objs.size f cdv) (eval e (En (trunc n s₀).heap.objs.size f cdv))) (TP (Xw P w K mg base f cdv A outer (trunc n s₀) H0) [(a, go)] σ Q) (fun _ _ => False) s := h.run _ s σ H Q I ht
  rw [trunc_size hs] at q
  exact q
theorem ent_nxt {y : Ent} (h : EntOk y) : ∀ z ∈ nxt y, EntOk z := by
  obtain ⟨l, d⟩ := y
  intro z hz
  cases d with
  | txt s => cases hz
  | two s t => cases hz
  | part kd ms its =>
    have hz' : z ∈ its.reverse.map fun c => ((l + 1, c) : Ent) := hz
    obtain ⟨c, hc, rfl⟩ := List.mem_map.mp hz'
    have hc' := List.mem_reverse.mp hc
    have h1 := hgts_mem hc'
    have h2 := wids_mem hc'
    have h3 := h.h
    have h4 := h.w
    have h3' : l + hgt (.part kd ms its) ≤ 20 := h3
    have h4' : wid (.part kd ms its) ≤ 1000 := h4
    rw [hgt] at h3'
    rw [wid] at h4'
    exact ⟨by show l + 1 + hgt c ≤ 20; omega, by show wid c ≤ 1000; omega⟩
/-- the def's end -/
abbrev KEnd : Flow → Sem PySem.Fin := fun f => .pure (.done (.ret (match f with | .ret v => v | _ => .none)))
abbrev JEnd (env : Env) : Value → Sem PySem.Fin := fun e => (leaving env e).wrap (fun _ => .raise e) .raise id id
/-- what follows the loop -/
abbrev KRest (env : Env) : Flow → Sem PySem.Fin := fun f => match f with
  | .next => (execs [] env).wrap KEnd (JEnd env) id id
  | f => KEnd f
abbrev loopFrame (env : Env) (p : Pos) : Frame := .ret (fun r => ((match r with | .ok f => (.pure f : Sem Flow) | .error e => .raise e).onRaise (cameBack env)).wrap (KRest env) (JEnd env) id id) none false [] (.func wBody env) p []
theorem over_frame {p : Pos} : A.over (.whileLoop wTest wIn [] (En n f cdv)) [loopFrame (En n f cdv) p] = A.deeper (En n f cdv) := (GenW.over_loop rfl rfl).trans GenW.over_func
theorem rev_cases {α : Type} : ∀ l : List α, l = [] ∨ ∃ a x, l = a ++ [x]
  | [] => .inl rfl
  | x :: l => by
    rcases rev_cases l with e | ⟨a, y, e⟩
    · exact .inr ⟨[], x, by rw [e]; rfl⟩
    · exact .inr ⟨x :: a, y, by rw [e]; rfl⟩
theorem seg_loop (B : Bn mg) (G_is_part : Has P w K mg base k "is_part" spIsPart) (hr : Room k (A.deeper (En n f cdv))) (F : GFix base A outer n a go) (O : JOk P w K mg base f cdv A outer n a go rv J) (p : Pos) :
    ∀ (m : Nat) (s₀ s : Shared) (c : γ) (ph : Phase) (H0 : Hp) (wl : Addr) (σ : L2.St) (H : Hp), Turn P w K mg base f cdv A outer n a go J c ph H0 s₀ wl σ H s → PHead rv wl ph.next σ H → StOk ph.next → wt ph.next + 1 ≤ m →
      Seg (model P w) A (RW P w K mg base f cdv A outer n a go J) (YW P w K mg base f cdv A outer n a go rv J) m s₀ (.whileLoop wTest wIn [] (En n f cdv)) ((model P w).den (.whileLoop wTest wIn [] (En n f cdv))) [loopFrame (En n f cdv) p] s := by
  have turn : ∀ (m : Nat), (∀ m', m = m' + 1 → ∀ (s₀ s : Shared) (c : γ) (ph : Phase) (H0 : Hp) (wl : Addr) (σ : L2.St) (H : Hp), Turn P w K mg base f cdv A outer n a go J c ph H0 s₀ wl σ H s → PHead rv wl ph.next σ H → StOk ph.next → wt ph.next + 1 ≤ m' →
      Seg (model P w) A (RW P w K mg base f cdv A outer n a go J) (YW P w K mg base f cdv A outer n a go rv J) m' s₀ (.whileLoop wTest wIn [] (En n f cdv)) ((model P w).den (.whileLoop wTest wIn [] (En n f cdv))) [loopFrame (En n f cdv) p] s) →
      ∀ (s₀ s : Shared) (c : γ) (ph : Phase) (H0 : Hp) (wl : Addr) (σ : L2.St) (H : Hp), Turn P w K mg base f cdv A outer n a go J c ph H0 s₀ wl σ H s → PHead rv wl ph.next σ H → StOk ph.next → wt ph.next + 1 ≤ m →
      Seg (model P w) A (RW P w K mg base f cdv A outer n a go J) (YW P w K mg base f cdv A outer n a go rv J) m s₀ (.whileLoop wTest wIn [] (En n f cdv)) ((model P w).den (.whileLoop wTest wIn [] (En n f cdv))) [loopFrame (En n f cdv) p] s := by
    intro m ih s₀ s c ph H0 wl σ H T hd ok hw
    have hs := O.size T.j
    refine seg_whileLoop ?_
    rw [over_frame]
    obtain ⟨tt, hT, rT⟩ := rdT (P := P) (w := w) (K := K) (mg := mg) (base := base) (f := f) (cdv := cdv) (A := A) (outer := outer) (s0 := trunc n s₀) (H0 := H0)
    refine wpAny_mono (run_pt hs hT T.inv (rT (fun b H' => H' = H ∧ b = decide (ph.next.length ≠ 0)) rv wl _ σ H hd ⟨rfl, rfl⟩)) (fun b s1 hb => ?_) fun x s' hx => hx.elim
    obtain ⟨H', I1, rfl, rfl⟩ := hb
    rcases rev_cases ph.next with e | ⟨st, y, e⟩
    · rw [e]
      rw [if_neg (by decide)]
      refine seg_execs_nil (seg_leaf (.ok .next) ?_)
      exact seg_end (.ok (.ret .none)) (.inl ⟨.inl rfl, c, ph, H0, wl, σ, H', ⟨T.j, T.hw, T.chg, I1⟩, e⟩)
    · have hlen : decide (ph.next.length ≠ 0) = true := by rw [e]; simp
      rw [if_pos hlen]
      rw [e] at hd ok hw
      have hc := cnt_pos y.2
      have hwt : wt (st ++ [y]) = wt st + cnt y.2 := by
        rw [wt_append]
        show wt st + cnts [y.2] = _
        rw [cnts, cnts]; omega
      obtain ⟨m', rfl⟩ : ∃ m', m = m' + 1 := ⟨m - 1, by omega⟩
      rw [show execs wIn (En n f cdv) = execs [wIn.getD 0 (.Pass pos0), .Expr (.Yield (some wE) wP1) wP2, wIn.getD 2 (.Pass pos0)] (En n f cdv) from congrArg (fun b => execs b (En n f cdv)) wIn_eq]
      refine seg_execs_cons (seg_wrap ?_)
      rw [over_frame]
      obtain ⟨tp, hP, rP⟩ := rdP (P := P) (w := w) (K := K) (mg := mg) (base := base) (f := f) (cdv := cdv) (A := A) (outer := outer) (s0 := trunc n s₀) (H0 := H0) B
      refine wpAny_mono (run_ps (D := { nx := fun σ' H2 => Chg [wl] H' H2 ∧ PSleep rv wl y st σ' H2, rt := fun _ _ => False }) hs hP I1 (rP _ rv wl y st σ H' hd fun σ' H2 c2 p2 => ⟨c2, p2⟩)) (fun fl s2 h2 => ?_) fun x s' hx => hx.elim
      cases fl with
      | brk => obtain ⟨_, _, _, q⟩ := h2; exact False.elim q
      | cont => obtain ⟨_, _, _, q⟩ := h2; exact False.elim q
      | ret u => obtain ⟨_, _, _, _, _, q⟩ := h2; exact False.elim q
      | next =>
        obtain ⟨σ2, H2, I2, c2, p2⟩ := h2
        refine seg_execs_cons ?_
        refine seg_Expr_Yield (rfl) rfl rfl ?_
        rw [over_frame]
        obtain ⟨te, hE, rE⟩ := rdE (P := P) (w := w) (K := K) (mg := mg) (base := base) (f := f) (cdv := cdv) (A := A) (outer := outer) (s0 := trunc n s₀) (H0 := H0)
        refine wpAny_mono (run_pe (Q := fun u H3 => Ex H2 H3 ∧ WItem H3 y u ∧ PSleep rv wl y st σ2 H3) hs hE I2 (rE _ rv wl y st σ2 H2 p2 fun u H3 e3 w3 p3 => ⟨e3, w3, p3⟩)) (fun v s3 h3 => ?_) fun x s' hx => hx.elim
        obtain ⟨u, H3, I3, ru, e3, w3, p3⟩ := h3
        intro kap hk
        refine ⟨c, ph, H0, wl, σ2, H3, y, st, u, ⟨T.j, T.hw, (T.chg.trans c2).to e3, I3⟩, e, by rw [e]; omega, ru, w3, p3, fun c' H4 s4 j4 => ?_⟩
        refine (fun (z : Seg (model P w) A (RW P w K mg base f cdv A outer n a go J) (YW P w K mg base f cdv A outer n a go rv J) m' s4 (.whileLoop wTest wIn [] (En n f cdv)) _ [loopFrame (En n f cdv) p] s4) => ⟨hk .none s4 z, hk (.bool true) s4 z⟩) ?_
        obtain ⟨lo, σ4, g4, l4, p4⟩ := O.sleep _ _ _ _ _ _ j4
        have I4 := inv_wake F g4 l4
        have hs4 := g4.size
        refine seg_execs_cons (seg_wrap ?_)
        rw [over_frame]
        have hr4 : Room k (Xw P w K mg base f cdv A outer (trunc n s4) H4).A := by
          show Room k (A.deeper (En (trunc n s4).heap.objs.size f cdv))
          rw [trunc_size hs4]; exact hr
        obtain ⟨tn, hN, rN⟩ := rdN (P := P) (w := w) (K := K) (mg := mg) (base := base) (f := f) (cdv := cdv) (A := A) (outer := outer) (s0 := trunc n s4) (H0 := H4) B G_is_part hr4
        have ok2 := ok.2
        have wn := wt_nxt y
        refine wpAny_mono (run_ps (D := { nx := fun σ' H5 => Chg [wl] H4 H5 ∧ PHead rv wl (st ++ nxt y) σ' H5, rt := fun _ _ => False }) hs4 hN I4 (rN _ rv wl y st σ4 H4 p4 (ok.1 y (by simp)) (by omega) fun σ' H5 c5 p5 => ⟨c5, p5⟩)) (fun fl s5 h5 => ?_) fun x s' hx => hx.elim
        cases fl with
        | brk => obtain ⟨_, _, _, q⟩ := h5; exact False.elim q
        | cont => obtain ⟨_, _, _, q⟩ := h5; exact False.elim q
        | ret u => obtain ⟨_, _, _, _, _, q⟩ := h5; exact False.elim q
        | next =>
          obtain ⟨σ5, H5, I5, c5, p5⟩ := h5
          refine seg_execs_nil (seg_again rfl ?_)
          refine ih m' rfl s4 s5 c' (.asleep wl y st) H4 wl σ5 H5 ⟨j4, rfl, c5, I5⟩ p5 ⟨fun z hz => ?_, ?_⟩ ?_
          · rcases List.mem_append.mp hz with hz | hz
            · exact ok.1 z (List.mem_append_left _ hz)
            · exact ent_nxt (ok.1 y (by simp)) z hz
          · show wt (st ++ nxt y) ≤ 1000
            rw [wt_append]; omega
          · show wt (st ++ nxt y) + 1 ≤ m'
            rw [wt_append]; omega
  intro m
  induction m with
  | zero => exact turn 0 fun m' h => absurd h (by omega)
  | succ m ih => exact turn (m + 1) fun m' h => (by obtain rfl : m' = m := (by omega); exact ih)
theorem seg_start (B : Bn mg) (G_is_part : Has P w K mg base k "is_part" spIsPart) (hr : Room k (A.deeper (En n f cdv))) (F : GFix base A outer n a go) (O : JOk P w K mg base f cdv A outer n a go rv J) {m : Nat} {s : Shared} {c : γ} {d : It} {H : Hp} (j : J c (.fresh d) H s) (ok : StOk [(0, d)]) (hm : wt [(0, d)] + 1 ≤ m) :
    Seg (model P w) A (RW P w K mg base f cdv A outer n a go J) (YW P w K mg base f cdv A outer n a go rv J) m s (.func wBody (En n f cdv)) ((model P w).den (.func wBody (En n f cdv))) [] s := by
  obtain ⟨lo, g, L, rep⟩ := O.fresh _ _ _ _ j
  have I := inv_wake F g L
  have hs := g.size
  refine seg_func ?_
  rw [show execs wBody (En n f cdv) = execs [wBody.getD 0 (.Pass pos0), .While wTest wIn [] wPos] (En n f cdv) from congrArg (fun b => execs b (En n f cdv)) wBody_eq]
  refine seg_execs_cons (seg_wrap ?_)
  rw [GenW.over_func]
  obtain ⟨t0, h0, r0⟩ := rd0 (P := P) (w := w) (K := K) (mg := mg) (base := base) (f := f) (cdv := cdv) (A := A) (outer := outer) (s0 := trunc n s) (H0 := H) B
  refine wpAny_mono (run_ps (D := { nx := fun σ' H2 => ∃ wl, H wl = none ∧ Ex H H2 ∧ PHead rv wl [(0, d)] σ' H2, rt := fun _ _ => False }) hs h0 I (r0 _ rv d H rep fun wl σ' H2 n2 e2 p2 => ⟨wl, n2, e2, p2⟩)) (fun fl s2 h2 => ?_) fun x s' hx => hx.elim
  cases fl with
  | brk => obtain ⟨_, _, _, q⟩ := h2; exact False.elim q
  | cont => obtain ⟨_, _, _, q⟩ := h2; exact False.elim q
  | ret u => obtain ⟨_, _, _, _, _, q⟩ := h2; exact False.elim q
  | next =>
    obtain ⟨σ2, H2, I2, wl, n2, e2, p2⟩ := h2
    refine seg_execs_cons (seg_While fun p => ?_)
    exact seg_loop B G_is_part hr F O p m s s2 c (.fresh d) H wl σ2 H2 ⟨j, n2, e2.of, I2⟩ p2 ok hm
end
end K7

/-! ## K7G5 -/
/-! The generator walk, made by a call. -/
namespace K7
open PySem PySem.Spec PyProof.Rows L2
/-- a generator that was made and has not begun -/
structure GNew (f : Addr) (cdv : Value) (rv : V) (s : Shared) (u : Value) (s' : Shared) (a : Addr) (g : Nat) (go lo : Obj) : Prop where
  ref : u = .ref a
  an : s.heap.objs.size < a
  at_ : s'.heap.get? a = some go
  gen : ∀ h : Heap, h.get? a = some go → h.IsGen a g
  gd : ∀ v, go.data ≠ .cell v
  cls : go.cls = .type "generator"
  gens : s'.gens[g]? = some (.fresh (.func wBody (En s.heap.objs.size f cdv)))
  nl : s'.heap.get? s.heap.objs.size = some lo
  loc : GLoc f cdv s.heap.objs.size [some rv, none, none, none, none] s'.heap
  os : s'.os = s.os
  bare : AllBare s'.gens
  keep : ∀ b o, s.heap.get? b = some o → s'.heap.get? b = some o
theorem gnew_of {P : Program} {w : World} {K : PySem.W.Frag} {mg : Str → Option Value} {base : Heap} {k : Nat} {f : Addr} {params : Arguments} {dV kV doc pm cdv ct oc : Value} {an od : Option Addr} {osl : Array (Option Value)}
    (lk : K.lookup f = some ⟨oc, od, .func (PySem.W.fnOf "walk" "walk" params (defBody (top 11)) (defScope (top 11)) dV kV doc pm an cdv ct), osl⟩) (hcd : PySem.W.codeIn K cdv "walk" = true)
    {A : Around} {outer : List Env} {s : Shared} {H : Hp} {args : Args} {u0 : Value} {rv : V} (hr : Room (k + 1) A) (e0 : Env0 P w K mg base A outer s H) (hb : BindsTo s (PySem.W.fnOf "walk" "walk" params (defBody (top 11)) (defScope (top 11)) dV kV doc pm an cdv ct) args ([("root" : Str)].zip [u0])) (r : RelV rv u0) :
    codeAny (model P w) A (.call (.ref f) args) (fun r s' => match r with | .ok (.ret u) => ∃ a g go lo, GNew f cdv rv s u s' a g go lo | _ => False) s := by
  have KX : K.In s.heap := e0.mod.kin.keeps fun b o e => (e0.bs b o e).1
  have lim : s.heap.NoLimit := e0.mod.nolimit.keeps fun b o e => (e0.bs b o e).1
  have S := sc_walk
  have hkind : ∀ y ∈ [("root" : Str)].zip [u0], (defScope (top 11)).names.lookup y.1 = some .local ∨ ((defScope (top 11)).names.lookup y.1 = some .cell ∧ ((cellsFrom (s.heap.objs.size + 1) (defScope (top 11)).names []).lookup y.1).isSome = true) := fun ⟨n, v⟩ hy => by
    rcases S.par n (List.of_mem_zip hy).1 with q | q
    · exact .inl q
    · exact .inr ⟨q, PySem.W.cellsFrom_some _ _ _ (.inl q)⟩
  refine codeAny_call_generator hr.depth (KX _ _ lk) rfl S.co S.gen rfl (PySem.W.codeRec_of KX hcd) (hb _ _ _ _ ?_)
  refine wpAny_newFunctionEnv_cells S.kind hkind fun env he s1 x => ?_
  subst he
  have lim1 : s1.heap.NoLimit := lim.keeps x.toInCall.keep
  refine ⟨lim1, ?_⟩
  obtain ⟨h1, tk, es1, hk1⟩ := x.done
  have os1 : s1.os = s.os := by rw [es1]
  have gen1 : s1.gens = s.gens := by rw [es1]
  have lt1 : s.heap.objs.size < s1.heap.objs.size := x.toInCall.ns.lt
  have kp1 : ∀ b o, s.heap.get? b = some o → s1.heap.get? b = some o := x.toInCall.keep
  have I1 : Inv (gcxOf P w K mg base N_walk "walk" (defScope (top 11)) f cdv A outer s H E0 []) [] (L2.start N_walk [rv]) H s1 := inv_startG S hr.hd e0 rfl (.cons r .nil) x
  have L1 : GLoc f cdv s.heap.objs.size [some rv, none, none, none, none] s1.heap := by
    obtain ⟨m, hn, hx⟩ := I1.loc
    refine ⟨rfl, m, hn, fun i x v h1 h2 h3 => ?_⟩
    obtain ⟨u, r, hk⟩ := hx i x v h1 h2 h3
    refine ⟨u, r, ?_⟩
    rcases hk with hk | ⟨_, c, hc, _⟩
    · exact hk
    · have hc : (cellsFrom (s.heap.objs.size + 1) (defScope (top 11)).names []).lookup x = some c := hc
      rw [cells_nil] at hc; cases hc
  obtain ⟨lo, es, ep, hlo, hld, _⟩ := x.toInCall.ns
  have main : ∀ (go : Obj) (nm qn : Value) (tk2 : Nat), go.cls = .type "generator" → go.data = .fields #[.int s1.gens.size 0, nm, qn] → go.slots = #[] → (∀ h : Heap, (h.push go).get? h.objs.size = some go) →
      ∃ a g go' lo, GNew f cdv rv s (.ref s1.heap.objs.size) { s1 with gens := s1.gens.push (.fresh (.func wBody (En s.heap.objs.size f cdv))), toks := tk2, heap := s1.heap.push go } a g go' lo := by
    intro go nm qn tk2 hgc hgd0 hgs hgp
    have kp2 : ∀ b o, s1.heap.get? b = some o → (s1.heap.push go).get? b = some o := fun b o e => Heap.get?_push_of_some _ e
    refine ⟨s1.heap.objs.size, s1.gens.size, go, lo, rfl, lt1, hgp _, fun h e => ⟨go, nm, qn, e, hgc, hgd0, hgs⟩, fun v q => (by rw [hgd0] at q; cases q), hgc, Array.getElem?_push_size .., kp2 _ _ hlo, L1.of hlo (kp2 _ _ hlo), os1, ?_, fun b o e => kp2 _ _ (kp1 b o e)⟩
    exact AllBare.push (by rw [gen1]; exact e0.bare) rfl
  exact main _ _ _ _ rfl rfl rfl fun h => Heap.get?_push_size _ rfl
/-- the target's tuple is not the generator's to give back -/
theorem lot_gen {P : Program} {w : World} {A : Around} {E : Value → Shared → Prop} {s : Shared} {elts : List Expr} {x1 : Nat} {pos : Pos} {a : Addr} {go : Obj} {v : Value} {Q : Unit → Shared → Prop} (ho : s.heap.get? a = some go) (hc : go.cls = .type "generator") (hQ : Q () s) :
    wpAny (model P w) A (letOwnedTupleGo (.Tuple elts x1 pos) (.ref a) v) Q E s := by
  unfold letOwnedTupleGo
  cases v with
  | ref T =>
    refine wpAny_bind (wpAny_load ho ?_)
    rw [hc]
    cases hd : go.data with
    | fields vs =>
      show wpAny _ A (if (["enumerate", "zip", "dict_itemiterator", "dict_reverseitemiterator", "odict_iterator", "itertools.zip_longest", "itertools.pairwise"].contains "generator" && vs[0]? == some (rawInt T)) = true then _ else _) Q E s
      rw [if_neg (by
        intro h
        rw [show (["enumerate", "zip", "dict_itemiterator", "dict_reverseitemiterator", "odict_iterator", "itertools.zip_longest", "itertools.pairwise"].contains "generator") = false from by decide, Bool.false_and] at h
        cases h)]
      exact wpAny_pure hQ
    | _ => exact wpAny_pure hQ
  | _ => exact wpAny_pure hQ
end K7

/-! ## K7G6 -/
/-! A for-loop over the generator walk: its body may call defs. -/
namespace K7
open PySem PySem.Spec PyProof.Rows L2
section
variable {X : Cx} {pins : List (Addr × Obj)} {σ : L2.St} {H : Hp} {s s' : Shared}
theorem inv_same (I : Inv X pins σ H s) (hh : s'.heap = s.heap) (ho : s'.os = s.os) (hb : AllBare s'.gens) : Inv X pins σ H s' :=
  ⟨I.ok, ho.trans I.os, hb, by rw [hh]; exact I.base, by rw [hh]; exact I.loc, by rw [hh]; exact I.cell, I.free, I.freeC, by rw [hh]; exact I.pin, by rw [hh]; exact I.hok, I.len⟩
/-- the loop's reading. W: what holds of the consumer's locals while st is still to come -/
def tForWalk (t : TA) (g : TG) (tb : TS) : TS := fun D σ H => t σ H fun vs H1 => ∃ (rv : V) (d : It) (W : List Ent → L2.St → Prop), vs = [rv] ∧ Rep H1 d rv ∧ StOk [(0, d)] ∧ W [(0, d)] σ ∧
  (∀ (st : List Ent) (y : Ent) (σ' : L2.St) (H' : Hp) (u : V), W (st ++ [y]) σ' → Ex H1 H' → WItem H' y u → g u σ' H' fun σ2 H2 =>
    tb { D with nx := fun σ3 H3 => H3 = H' ∧ W (st ++ nxt y) σ3, ct := fun σ3 H3 => H3 = H' ∧ W (st ++ nxt y) σ3, bk := fun _ _ => False } σ2 H2) ∧
  (∀ (σ' : L2.St) (H' : Hp), W [] σ' → Ex H1 H' → D.nx σ' H')
/-- the consumer between the turns -/
def Jb (X : Cx) (pins : List (Addr × Obj)) (f : Addr) (cdv : Value) (n a : Addr) (go : Obj) (rv : V) (H1 : Hp) (σc : L2.St) (ph : Phase) (H : Hp) (s : Shared) : Prop :=
  ∃ lo, Inv X (pins ++ [(a, go), (n, lo)]) σc H s ∧ Ex H1 H ∧ StOk ph.next ∧ (match ph with
    | .fresh d => GLoc f cdv n [some rv, none, none, none, none] s.heap ∧ Rep H d rv
    | .asleep wl y st => H1 wl = none ∧ ∃ σ, GLoc f cdv n σ s.heap ∧ PSleep rv wl y st σ H)
theorem Jb.same {f : Addr} {cdv : Value} {n a : Addr} {go : Obj} {rv : V} {H1 : Hp} {σc : L2.St} {ph : Phase} (j : Jb X pins f cdv n a go rv H1 σc ph H s) (hh : s'.heap = s.heap) (ho : s'.os = s.os) (hb : AllBare s'.gens) : Jb X pins f cdv n a go rv H1 σc ph H s' := by
  obtain ⟨lo, I, e, ok, r⟩ := j
  refine ⟨lo, inv_same I hh ho hb, e, ok, ?_⟩
  cases ph with
  | fresh d =>
    obtain ⟨r1, r2⟩ := r
    exact ⟨by rw [hh]; exact r1, r2⟩
  | asleep wl y st =>
    obtain ⟨r0, σ, r1, r2⟩ := r
    exact ⟨r0, σ, by rw [hh]; exact r1, r2⟩
theorem jb_gw {f : Addr} {cdv : Value} {n a : Addr} {go lo : Obj} (I : Inv X (pins ++ [(a, go), (n, lo)]) σ H s) : GW X.prog X.w X.K X.mg X.base X.A.in1 X.stack n a go lo H s := by
  have h1 := I.pin (a, go) (List.mem_append_right _ (List.mem_append_right _ (by simp)))
  have h2 := I.pin (n, lo) (List.mem_append_right _ (List.mem_append_right _ (by simp)))
  have e0 := I.env0
  exact ⟨⟨e0.frames, e0.mod, e0.bs, e0.bsz, e0.funs, e0.frf, e0.hok, e0.bare⟩, h2.1, h2.2.1, h1.1, h1.2.1⟩
theorem jok_of {f : Addr} {cdv : Value} {n a : Addr} {go : Obj} {rv : V} {H1 : Hp} {Z : L2.St → Phase → Hp → Shared → Prop} :
    JOk X.prog X.w X.K X.mg X.base f cdv X.A.in1 X.stack n a go rv (fun c ph H s => Jb X pins f cdv n a go rv H1 c ph H s ∧ Z c ph H s) where
  sleep := fun c wl y st H s j => by
    obtain ⟨⟨lo, I, _, _, _, σ, r1, r2⟩, _⟩ := j
    exact ⟨lo, σ, jb_gw (f := f) (cdv := cdv) I, r1, r2⟩
  fresh := fun c d H s j => by
    obtain ⟨⟨lo, I, _, _, r1, r2⟩, _⟩ := j
    exact ⟨lo, jb_gw (f := f) (cdv := cdv) I, r1, r2⟩
theorem stok_next {st : List Ent} {y : Ent} (h : StOk (st ++ [y])) : StOk (st ++ nxt y) ∧ wt (st ++ nxt y) + 1 = wt (st ++ [y]) := by
  have hw : wt (st ++ [y]) = wt st + cnt y.2 := by
    rw [wt_append]
    show wt st + cnts [y.2] = _
    rw [cnts, cnts]; omega
  have hn := wt_nxt y
  have h2 := h.2
  refine ⟨⟨fun z hz => ?_, by rw [wt_append]; omega⟩, by rw [wt_append]; omega⟩
  rcases List.mem_append.mp hz with hz | hz
  · exact h.1 z (List.mem_append_left _ hz)
  · exact ent_nxt (h.1 y (by simp)) z hz
/-- behind a turn of the generator's: the consumer asleep in nothing, the generator asleep in its yield -/
theorem after_turn {f : Addr} {cdv : Value} {n a : Addr} {go : Obj} {rv : V} {H1 H0 Hn : Hp} {σc σg : L2.St} {s₀ s₁ : Shared} {ph : Phase} {wl : Addr} (hn : X.env.locals < n) (hcell : ∀ x c, X.env.cells.lookup x = some c → False) (hpl : ∀ p ∈ X.pn ++ pins, p.1 < n)
    (hgd : ∀ v, go.data ≠ .cell v) (j : Jb X pins f cdv n a go rv H1 σc ph H0 s₀) (hw : ph.wl wl H0) (c : Chg [wl] H0 Hn) (G : Inv (Xw X.prog X.w X.K X.mg X.base f cdv X.A.in1 X.stack (trunc n s₀) H0) [(a, go)] σg Hn s₁) :
    ∃ lo, Inv X (pins ++ [(a, go), (n, lo)]) σc Hn s₁ ∧ Ex H1 Hn ∧ H1 wl = none ∧ GLoc f cdv n σg s₁.heap := by
  obtain ⟨lo0, I, e, ok, r⟩ := j
  have hs : n ≤ s₀.heap.objs.size := (jb_gw (f := f) (cdv := cdv) I).size
  have L := gloc_of G (trunc_size hs)
  have w1 : H1 wl = none := by
    cases ph with
    | fresh d => exact e.backE hw
    | asleep wl' y st =>
      obtain rfl : wl' = wl := hw
      exact r.1
  obtain ⟨_, m, ⟨lo, es, ep, hlo, hd, hr⟩, _⟩ := id L
  have U : Un (frs X.stack) [] H0 Hn (trunc n s₀).heap s₁.heap := G.base
  refine ⟨lo, cons_after I G hn rfl rfl hcell fun p hp => ?_, Chg.hide e c (fun x hx => .inr (List.mem_singleton.mp hx)) w1, w1, L⟩
  have stk : ∀ {b : Addr}, b ≠ X.env.locals → b ∉ X.fs → b ∉ frs X.stack := fun {b} h1 h2 hm => by
    rcases List.mem_cons.mp (I.stkSub b hm) with z | z
    · exact h1 z
    · exact h2 z
  have old : p ∈ X.pn ++ pins → s₁.heap.get? p.1 = some p.2 ∧ Hn p.1 = none ∧ p.1 ≠ X.env.locals ∧ p.1 ∉ X.fs ∧ ∀ v, p.2.data ≠ .cell v := fun hp => by
    have hp' : p ∈ X.pn ++ (pins ++ [(a, go), (n, lo0)]) := by
      rcases List.mem_append.mp hp with z | z
      · exact List.mem_append_left _ z
      · exact List.mem_append_right _ (List.mem_append_left _ z)
    obtain ⟨h1, h2, h3, h4, h5⟩ := I.pin p hp'
    have ht : (trunc n s₀).heap.get? p.1 = some p.2 := by rw [trunc_in (hpl p hp)]; exact h1
    exact ⟨U.keep _ _ ht h2 (stk h3 h4) (by simp), U.free _ _ ht h2 (by simp), h3, h4, h5⟩
  rcases List.mem_append.mp hp with z | z
  · exact old (List.mem_append_left _ z)
  · rcases List.mem_append.mp z with z | z
    · exact old (List.mem_append_right _ z)
    · rcases List.mem_cons.mp z with z | z
      · rw [z]
        obtain ⟨h1, h2, h3, h4, h5⟩ := I.pin (a, go) (List.mem_append_right _ (List.mem_append_right _ (by simp)))
        obtain ⟨g1, g2, _⟩ := G.pin (a, go) (List.mem_append_right _ (by simp))
        exact ⟨g1, g2, h3, h4, h5⟩
      · rw [List.mem_singleton.mp z]
        obtain ⟨_, _, h3, h4, _⟩ := I.pin (n, lo0) (List.mem_append_right _ (List.mem_append_right _ (by simp)))
        refine ⟨hlo, ?_, h3, h4, fun v q => by rw [hd] at q; cases q⟩
        have gf : Hn (trunc n s₀).heap.objs.size = none := G.free
        rw [trunc_size hs] at gf
        exact gf
theorem ps_forWalk {k : Nat} {elts : List Expr} {x1 : Nat} {tp p pos pos' : Pos} {e : Expr} {t : TA} {g : TG} {tb : TS} {body : List Stmt} (D : Df X.K X.mg "walk" (top 11)) (B : Bn X.mg) (G_is_part : Has X.prog X.w X.K X.mg X.base k "is_part" spIsPart) (hr : Room (k + 2) X.A)
    (hxe : ∀ e s, X.xe e s → False) (hcell : ∀ x c, X.env.cells.lookup x = some c → False) (hg : Gl X "walk") (ha : PA X [e] t) (htg : PG X (.Tuple elts x1 tp) g) (hb : PSs X body tb)
    (he : starEach [e] X.env = (false, eval e X.env) :: starEach [] X.env := by rfl) (hpl : (backTo pos' (starEach [] X.env)).any (·.1) = false := by rfl)
    (hs : ∀ x, foldedSetIterable (.Call (.Name "walk" p) [e] [] pos') X.env x = pure x := by intro _; rfl) :
    PS X (.For (.Tuple elts x1 tp) (.Call (.Name "walk" p) [e] [] pos') body [] pos) (tForWalk t g tb) := by
  refine ⟨fun pins s σ H Dn I h => ?_⟩
  obtain ⟨f, fd, F, hm⟩ := D.ex
  have hbi : Binds X.K fd ["root"] [] := F.bindsN (fun _ _ _ _ _ _ us hl => match us, hl with | [_], _ => rfl)
  obtain ⟨oc, od, dV, kV, doc, pm, an, cdv, ct, osl, efd, lk, hcd, _⟩ := F.ex
  subst efd
  refine wpAny_For (wpAny_Call_Name_kw (ld_glob I hg hm (PySem.W.callWith_K (h₀ := X.base) I.ok.mod.kin F.kp (thn (ha.run pos' pins s σ H _ I h) fun us s1 ⟨vs, H1, I1, r, q⟩ => ⟨I1.kIn, ?_⟩) he hpl) (by decide))) hs
  obtain ⟨rv, d, W, rfl, rep, ok, w0, step, done⟩ := q
  have hu : ∃ u0, us = [u0] ∧ RelV rv u0 := by
    cases r with
    | cons r1 r2 =>
      cases r2
      exact ⟨_, rfl, r1⟩
  obtain ⟨u0, rfl, r0⟩ := hu
  refine wpAny_call (codeAny_mono (gnew_of (k := k + 1) lk hcd hr I1.env0 (hbi s1 [u0] I1.kIn rfl) r0) fun r s2 hq => ?_)
  cases r with
  | error e => exact False.elim hq
  | ok fl =>
  cases fl with
  | next => exact False.elim hq
  | brk => exact False.elim hq
  | cont => exact False.elim hq
  | ret u =>
  obtain ⟨a, gi, go, lo, N⟩ := hq
  obtain rfl := N.ref
  refine wpAny_pyIter_gen (N.gen _ N.at_) ?_
  have I2 : Inv X pins σ H1 s2 := I1.call' (ch := []) N.os (Un.kept N.keep) (I1.hok.kept N.keep) N.bare fun b z => by simp at z
  have lt1 := I1.lt
  have na := N.an
  have an : a ≠ s1.heap.objs.size := fun z => by rw [z] at na; exact absurd na (Nat.lt_irrefl _)
  have lod : ∀ v, lo.data ≠ .cell v := fun v q => by
    obtain ⟨_, m, ⟨o, es, ep, h1, h2, _⟩, _⟩ := N.loc
    rw [N.nl] at h1
    rw [Option.some.inj h1] at q
    rw [h2] at q; cases q
  have I3 : Inv X (pins ++ [(a, go), (s1.heap.objs.size, lo)]) σ H1 s2 := I2.pins_of fun p hp => by
    rcases List.mem_append.mp hp with z | z
    · exact I2.pin p (List.mem_append_right _ z)
    · rcases List.mem_cons.mp z with z | z
      · rw [z]
        exact ⟨N.at_, I1.hok.fresh (Nat.le_of_lt N.an), Nat.ne_of_gt (Nat.lt_trans lt1 N.an), I1.nofs (Nat.le_of_lt N.an), N.gd⟩
      · rw [List.mem_singleton.mp z]
        exact ⟨N.nl, I1.hok.fresh (Nat.le_refl _), Nat.ne_of_gt lt1, I1.nofs (Nat.le_refl _), lod⟩
  have hpl' : ∀ p ∈ X.pn ++ pins, p.1 < s1.heap.objs.size := fun p hp => Heap.lt_size (I1.pin p hp).1
  have jb0 : Jb X pins f cdv s1.heap.objs.size a go rv H1 σ (.fresh d) H1 s2 := ⟨lo, I3, Chg.refl _, ok, N.loc, rep⟩
  have O : JOk X.prog X.w X.K X.mg X.base f cdv X.A.in1 X.stack s1.heap.objs.size a go rv (fun c ph H s => Jb X pins f cdv s1.heap.objs.size a go rv H1 c ph H s ∧ (s.gens[gi]? = some .running → W ph.next c)) := jok_of (Z := fun c ph H s => s.gens[gi]? = some .running → W ph.next c)
  have Fx : GFix X.base X.A.in1 X.stack s1.heap.objs.size a go := by
    have fl : ∀ b ∈ frs X.stack, b < s1.heap.objs.size := fun b hb => by
      obtain ⟨_, o, ho, _⟩ := I1.stack.mem hb
      exact Heap.lt_size ho
    exact ⟨hr.hd, I1.ok.frames, Nat.le_trans I1.ok.bsz I1.sz, fl, an, fun hb => absurd (fl a hb) (Nat.not_lt.mpr (Nat.le_of_lt N.an)), N.gd⟩
  have hrg : Room k (X.A.in1.deeper (En s1.heap.objs.size f cdv)) := hr.in1.deeper _
  refine codeAny_forLoop_any (fun m s3 => ∃ σc ph H3, Jb X pins f cdv s1.heap.objs.size a go rv H1 σc ph H3 s3 ∧ W ph.next σc ∧ ∃ gs, s3.gens[gi]? = some gs ∧ gs.Goes (model X.prog X.w) X.A.in1 (RW X.prog X.w X.K X.mg X.base f cdv X.A.in1 X.stack s1.heap.objs.size a go (fun c ph H s => Jb X pins f cdv s1.heap.objs.size a go rv H1 c ph H s ∧ (s.gens[gi]? = some .running → W ph.next c)))
      (YW X.prog X.w X.K X.mg X.base f cdv X.A.in1 X.stack s1.heap.objs.size a go rv (fun c ph H s => Jb X pins f cdv s1.heap.objs.size a go rv H1 c ph H s ∧ (s.gens[gi]? = some .running → W ph.next c))) m (.send .none) (s3.setGen gi .running)) ?_ (wt [(0, d)] + 1)
    ⟨σ, .fresh d, H1, jb0, w0, _, N.gens, rfl, seg_start B G_is_part hrg Fx O (c := σ) (d := d) (H := H1) ⟨jb0.same rfl rfl (allBare_setGen N.bare rfl), fun _ => w0⟩ ok (Nat.le_refl _)⟩
  rintro m s3 ⟨σc, ph, H3, j3, w3, gs, hgs, hgo⟩
  have hgl : gi < s3.gens.size := (Array.getElem?_eq_some_iff.mp hgs).1
  obtain ⟨lo3, I3', _⟩ := id j3
  have hga := (I3'.pin (a, go) (List.mem_append_right _ (List.mem_append_right _ (by simp)))).1
  have run : (s3.setGen gi .running).gens[gi]? = some .running := setGen_at hgl
  refine GenW.wpAny_gsz (n := gi + 1) hgl (next_genG (A := X.A) (Er := fun _ _ => False) hr.hd I3'.nolimit hr.depth (N.gen _ hga) hgs hgo (fun v s₁ gs' hbare hv => ?_) (fun s₁ hp h' hk => ?_) fun e s₁ he => he.elim)
  · intro hsz
    obtain ⟨c, ph', H0, wl, σg, Hn, y, st, u, T, e, hwt, ru, wi, ps, kaps⟩ := hv
    have jw := T.j.2 run
    have okp : StOk ph'.next := by
      obtain ⟨_, _, _, okp, _⟩ := T.j.1
      exact okp
    rw [e] at jw hwt okp
    obtain ⟨okn, wtn⟩ := stok_next okp
    obtain ⟨lo', Ia, ea, wn, Lg⟩ := after_turn (cdv := cdv) lt1 hcell hpl' N.gd T.j.1 T.hw T.chg T.inv
    have hgl1 : gi < s₁.gens.size := by
      have q : (s₁.setGen gi gs').gens.size = s₁.gens.size := GenW.setGen_size _ _ _
      have hsz' : gi + 1 ≤ (s₁.setGen gi gs').gens.size := hsz
      omega
    have jA : Jb X pins f cdv s1.heap.objs.size a go rv H1 c (.asleep wl y st) Hn s₁ := ⟨lo', Ia, ea, okn, wn, σg, Lg, ps⟩
    have kf := (kaps c Hn (s₁.setGen gi .finished) ⟨jA.same rfl rfl (allBare_setGen Ia.bare rfl), fun z => by rw [setGen_at hgl1] at z; cases z⟩).2
    obtain ⟨m', rfl⟩ : ∃ m', m = m' + 1 := by
      cases m with
      | zero => exact False.elim kf
      | succ m' => exact ⟨m', rfl⟩
    have slp : sleeps gs' = true := by
      cases gs' with
      | fresh c' =>
        obtain ⟨h1, _⟩ := kf
        cases h1
      | suspended _ _ _ _ _ _ => rfl
      | running => exact False.elim kf
      | finished => exact False.elim kf
    -- the real state, and the blocked one
    have b4 : AllBare (s₁.setGen gi gs').gens := allBare_setGen Ia.bare hbare
    have I4 : Inv X (pins ++ [(a, go), (s1.heap.objs.size, lo')]) c Hn (s₁.setGen gi gs') := inv_same Ia rfl rfl b4
    have hga4 := (I4.pin (a, go) (List.mem_append_right _ (List.mem_append_right _ (by simp)))).1
    have I4b : Inv X (pins ++ [(a, go), (s1.heap.objs.size, lo')]) c Hn (blocked (s₁.setGen gi gs')) := inv_same I4 rfl rfl (blocked_bare b4)
    refine wpAny_mono (lot_gen (E := fun _ _ => False) (Q := fun _ s5 => s5 = s₁.setGen gi gs') hga4 N.cls rfl) (fun _ s5 hs5 => ?_) fun _ _ hx => hx.elim
    subst hs5
    refine wpAny_mono (wpAny_blk (htg.run _ _ c Hn u v _ I4b ru (step st y c Hn u jw ea wi)) (blocked_blk _)) (fun _ s5 h5 => ?_) fun e5 s5 h5 => ?_
    · obtain ⟨b5, B5, σ5, H5, I5, q5⟩ := h5
      refine wpAny_mono (wpAny_blk (hb.run _ _ σ5 H5 _ I5 q5) B5) (fun fl s6 h6 => ?_) fun e6 s6 h6 => ?_
      · obtain ⟨b6, B6, q6⟩ := h6
        have fin : ∀ {σ6 : L2.St} {H6 : Hp}, Inv X (pins ++ [(a, go), (s1.heap.objs.size, lo')]) σ6 H6 b6 → Inv X (pins ++ [(a, go), (s1.heap.objs.size, lo')]) σ6 H6 s6 := fun I6 => inv_same I6 B6.heap B6.os (B6.bare b4 I6.bare)
        have again : ∀ {σ6 : L2.St} {H6 : Hp}, Inv X (pins ++ [(a, go), (s1.heap.objs.size, lo')]) σ6 H6 b6 → H6 = Hn ∧ W (st ++ nxt y) σ6 → ∃ m1, m1 < m' + 1 ∧ ∃ σc ph H3, Jb X pins f cdv s1.heap.objs.size a go rv H1 σc ph H3 s6 ∧ W ph.next σc ∧ ∃ gs, s6.gens[gi]? = some gs ∧ gs.Goes (model X.prog X.w) X.A.in1 (RW X.prog X.w X.K X.mg X.base f cdv X.A.in1 X.stack s1.heap.objs.size a go (fun c ph H s => Jb X pins f cdv s1.heap.objs.size a go rv H1 c ph H s ∧ (s.gens[gi]? = some .running → W ph.next c)))
            (YW X.prog X.w X.K X.mg X.base f cdv X.A.in1 X.stack s1.heap.objs.size a go rv (fun c ph H s => Jb X pins f cdv s1.heap.objs.size a go rv H1 c ph H s ∧ (s.gens[gi]? = some .running → W ph.next c))) m1 (.send .none) (s6.setGen gi .running) := by
          rintro σ6 H6 I6 ⟨rfl, w6⟩
          have I6r := fin I6
          have l1 := (Ia.pin (s1.heap.objs.size, lo') (List.mem_append_right _ (List.mem_append_right _ (by simp)))).1
          have l6 := (I6r.pin (s1.heap.objs.size, lo') (List.mem_append_right _ (List.mem_append_right _ (by simp)))).1
          have jC : Jb X pins f cdv s1.heap.objs.size a go rv H1 σ6 (.asleep wl y st) H6 s6 := ⟨lo', I6r, ea, okn, wn, σg, Lg.of l1 l6, ps⟩
          refine ⟨m', Nat.lt_succ_self _, σ6, .asleep wl y st, H6, jC, w6, gs', (B6.yes gi gs' (setGen_at hgl1) slp).2, ?_⟩
          exact (kaps σ6 H6 (s6.setGen gi .running) ⟨jC.same rfl rfl (allBare_setGen I6r.bare rfl), fun _ => w6⟩).1
        cases fl with
        | next => obtain ⟨σ6, H6, I6, n6⟩ := q6; exact again I6 n6
        | cont => obtain ⟨σ6, H6, I6, n6⟩ := q6; exact again I6 n6
        | brk => obtain ⟨_, _, _, n6⟩ := q6; exact n6.elim
        | ret u6 =>
          obtain ⟨x6, σ6, H6, I6, r6, n6⟩ := q6
          refine ⟨x6, σ6, H6, (fin I6).pins_of fun p hp => (fin I6).pin p (List.mem_append_right _ (List.mem_append_left _ hp)), r6, n6⟩
      · obtain ⟨_, _, q⟩ := h6
        exact (hxe _ _ q).elim
    · obtain ⟨_, _, q⟩ := h5
      exact (hxe _ _ q).elim
  · intro hsz
    obtain ⟨c, ph', H0, wl, σg, Hn, T, hnil⟩ := hp
    have jw := T.j.2 run
    rw [hnil] at jw
    obtain ⟨lo', Ia, ea, _, _⟩ := after_turn (cdv := cdv) lt1 hcell hpl' N.gd T.j.1 T.hw T.chg T.inv
    have Ib : Inv X pins c Hn s₁ := Ia.pins_of fun p hp => Ia.pin p (List.mem_append_right _ (List.mem_append_left _ hp))
    refine wpAny_execs_nil ⟨c, Hn, ?_, done c Hn jw ea⟩
    exact Ib.call' (ch := []) rfl (Un.kept hk) (Ib.hok.kept hk) (allBare_setGen Ib.bare rfl) fun b z => by simp at z
end
end K7

/-! ## K7G7 -/
/-! The program's within_bounds. -/
namespace K7
open PySem PySem.Spec PyProof.Rows L2
def wch (st : List Ent) : Nat := chss (st.map (·.2))
def wrf (st : List Ent) : Nat := rfss (st.map (·.2))
theorem chss_reverse : ∀ l : List It, chss l.reverse = chss l
  | [] => rfl
  | x :: l => by rw [List.reverse_cons, chss_append, chss_reverse l, chss, chss, chss]; omega
theorem rfss_reverse : ∀ l : List It, rfss l.reverse = rfss l
  | [] => rfl
  | x :: l => by rw [List.reverse_cons, rfss_append, rfss_reverse l, rfss, rfss, rfss]; omega
theorem wch_append (a b : List Ent) : wch (a ++ b) = wch a + wch b := by
  unfold wch
  rw [List.map_append, chss_append]
theorem wrf_append (a b : List Ent) : wrf (a ++ b) = wrf a + wrf b := by
  unfold wrf
  rw [List.map_append, rfss_append]
theorem w_one (y : Ent) : wt [y] = cnt y.2 ∧ wch [y] = chs y.2 ∧ wrf [y] = rfs y.2 := by
  refine ⟨?_, ?_, ?_⟩
  · show cnts [y.2] = _
    rw [cnts, cnts]; omega
  · show chss [y.2] = _
    rw [chss, chss]; omega
  · show rfss [y.2] = _
    rw [rfss, rfss]; omega
theorem w_part (l : Nat) (k : Str) (ms : List Str) (its : List It) : wch (nxt (l, .part k ms its)) = chss its ∧ wrf (nxt (l, .part k ms its)) = rfss its := by
  refine ⟨?_, ?_⟩
  · show chss ((its.reverse.map fun c => ((l + 1, c) : Ent)).map (·.2)) = _
    rw [map_snd, chss_reverse]
  · show rfss ((its.reverse.map fun c => ((l + 1, c) : Ent)).map (·.2)) = _
    rw [map_snd, rfss_reverse]
/-- the consumer's counters while st is still to come -/
def WB (d : It) (rv : V) (st : List Ent) (σ : L2.St) : Prop := ∃ (i c r : Nat) (v4 v5 : Option V), σ = [some rv, some (.int i), some (.int c), some (.int r), v4, v5] ∧ i + wt st = cnt d ∧ c + wch st = chs d ∧ r + wrf st = rfs d ∧ ∀ y ∈ st, wid y.2 ≤ 12 ∧ y.1 + hgt y.2 ≤ 6
theorem cells_nil15 (m : Nat) : cellsFrom m (defScope (top 15)).names [] = [] := by rfl
section
variable {P : Program} {w : World} {K : PySem.W.Frag} {mg : Str → Option Value} {base : Heap} {k : Nat}
abbrev N_within_bounds : List Str := ["root", "items", "characters", "references", "path", "item"]
theorem sc_within_bounds : FnScope N_within_bounds ["root"] (defScope (top 15)) := ⟨rfl, rfl, rfl, by decide +kernel, rfl, by decide +kernel, by decide +kernel⟩
theorem ok_within (D : Df K mg "within_bounds" (top 15)) (Dw : Df K mg "walk" (top 11)) (B : Bn mg) (C : Cn mg) (G_is_part : Has P w K mg base k "is_part" spIsPart) : Has P w K mg base (k + 2 + 1) "within_bounds" spWithin := by
  have Gp := G_is_part
  replace G_is_part : Has P w K mg base (k + 2) "is_part" spIsPart := Gp.mono (by omega)
  refine D.has sc_within_bounds (fun _ _ _ _ _ _ us hl => match us, hl with | [_], _ => rfl) (fun vs H Q E h => ?_) (fun f cdv A outer s H vs Q E hr h => ?_)
  · obtain ⟨v, d, rfl, _⟩ := h
    rfl
  obtain ⟨v, d, rfl, rep, ib, z⟩ := h
  have hcell : ∀ (x : Str) (c : Addr), (cxOf CX0 P w K mg base N_within_bounds "within_bounds" (defScope (top 15)) f cdv A outer s H E).nox.env.cells.lookup x = some c → False := fun x c h => by
    have h' : (cellsFrom (s.heap.objs.size + 1) (defScope (top 15)).names []).lookup x = some c := h
    rw [cells_nil15] at h'; cases h'
  refine ⟨_, pss_cons (ps_set (i := 1) sc_within_bounds.nd rfl (Or.inl rfl) pe_int) (pss_cons (ps_set (i := 2) sc_within_bounds.nd rfl (Or.inl rfl) pe_int) (pss_cons (ps_set (i := 3) sc_within_bounds.nd rfl (Or.inl rfl) pe_int)
    (pss_cons (ps_forWalk Dw B Gp hr (fun _ _ h => h) hcell rfl (pa_cons (pv 0) pa_nil) (pg_tup rfl (pgs_cons (pg_name (i := 4) sc_within_bounds.nd rfl (Or.inl rfl)) (pgs_cons (pg_name (i := 5) sc_within_bounds.nd rfl (Or.inl rfl)) pgs_nil))) (pss_cons (ps_aug (i := 1) sc_within_bounds.nd rfl (Or.inl rfl) pe_int ip_add) (pss_one (ps_if (pt_val (pe_isi .str (pv 5) B.isi B.str)) (pss_one (ps_aug (i := 2) sc_within_bounds.nd rfl (Or.inl rfl) (pe_callB (call_lenK (K := K)) rfl B.len PySem.boot_len (pa_cons (pv 5) pa_nil)) ip_add)) (pss_one (ps_if (pt_val (pe_has G_is_part hr (pa_cons (pv 5) pa_nil))) (pss_one (ps_if (PW.pt (pw_or (pt_cmpR op_gt (pe_callB (call_lenK (K := K)) rfl B.len PySem.boot_len (pa_cons (pe_ix ix_tupC (pv 5) pe_int (fun _ _ => rfl)) pa_nil)) (pe_glob (v := .int 12) rfl C.moi ⟨_, rfl⟩) (nomark _)) (pw_or1 (pt_cmpR op_ge (pe_callB (call_lenK (K := K)) rfl B.len PySem.boot_len (pa_cons (pv 4) pa_nil)) (pe_glob (v := .int 6) rfl C.mde ⟨_, rfl⟩) (nomark _))))) (pss_one (ps_ret pe_bl)) pss_nil)) (pss_one (ps_if (pt_cmpR op_eq (pe_ix ix_tupC (pv 5) pe_int (fun _ _ => rfl)) pe_str (nomark _)) (pss_one (ps_aug (i := 3) sc_within_bounds.nd rfl (Or.inl rfl) pe_int ip_add)) pss_nil)))))))) (pss_one (ps_ret (pe_and (pe_cmpR op_le (pv 1) (pe_glob (v := .int 60) rfl C.mit ⟨_, rfl⟩) (nomark _)) (pe_and (pe_cmpR op_le (pv 2) (pe_glob (v := .int 400) rfl C.mch ⟨_, rfl⟩) (nomark _)) (pe_one (pe_cmpR op_le (pv 3) (pe_glob (v := .int 3) rfl C.mre ⟨_, rfl⟩) (nomark _)))))))))), ?_⟩
  refine seq_asgC (seq_asgC (seq_asgC ?_))
  refine ⟨_, rfl, v, d, WB d v, rfl, rep, ⟨fun y hy => ?_, ?_⟩, ⟨0, 0, 0, none, none, rfl, ?_, ?_, ?_, fun y hy => ?_⟩, fun st y σ' H' u hw ex wi => ?_, fun σ' H' hw ex => ?_⟩
  · rw [List.mem_singleton.mp hy]
    exact ⟨by have := ib.h; show 0 + hgt d ≤ 20; omega, by have := ib.w; show wid d ≤ 1000; omega⟩
  · have := (w_one (0, d)).1
    have h2 := ib.c
    show wt [(0, d)] ≤ 1000
    rw [this]; show cnt d ≤ 1000; omega
  · rw [(w_one (0, d)).1]; show 0 + cnt d = cnt d; omega
  · rw [(w_one (0, d)).2.1]; show 0 + chs d = chs d; omega
  · rw [(w_one (0, d)).2.2]; show 0 + rfs d = rfs d; omega
  · rw [List.mem_singleton.mp hy]
    exact ⟨ib.w, by have := ib.h; show 0 + hgt d ≤ 6; omega⟩
  · obtain ⟨i, c, r, v4, v5, rfl, h1, h2, h3, h4⟩ := hw
    obtain ⟨t, pa, x, xs, rfl, k1, k2, k3, k4⟩ := wi
    refine ⟨t, _, rfl, SqT.of k1, rfl, _, _, rfl, _, _, rfl, rfl, ?_⟩
    obtain ⟨l, dy⟩ := y
    obtain ⟨y1, y2⟩ := h4 (l, dy) (by simp)
    have hst : ∀ z ∈ st, wid z.2 ≤ 12 ∧ z.1 + hgt z.2 ≤ 6 := fun z hz => h4 z (List.mem_append_left _ hz)
    obtain ⟨o1, o2, o3⟩ := w_one (l, dy)
    rw [wt_append, o1] at h1
    rw [wch_append, o2] at h2
    rw [wrf_append, o3] at h3
    have bc := ib.c
    have bx := ib.x
    have br := ib.r
    refine ⟨_, rfl, _, _, rfl, rfl, ?_⟩
    cases dy with
    | txt tx =>
      obtain rfl : x = .str tx := k4
      have ltx : tx.length ≤ 400 := by rw [show chs ((l, It.txt tx) : Ent).2 = tx.length from rfl] at h2; omega
      refine ⟨_, rfl, _, .str tx, _, rfl, ?_⟩
      refine ⟨_, rfl, _, rfl, _, _, rfl, lenS (sz (by omega)), _, _, rfl, rfl, ?_⟩
      refine ⟨rfl, i + 1, c + tx.length, r, _, _, rfl, ?_, ?_, ?_, fun z hz => ?_⟩
      · show i + 1 + wt (st ++ []) = _
        rw [List.append_nil, ← h1]
        show i + 1 + wt st = i + (wt st + 1); omega
      · show c + tx.length + wch (st ++ []) = _
        rw [List.append_nil, ← h2]
        show c + tx.length + wch st = c + (wch st + tx.length); omega
      · show r + wrf (st ++ []) = _
        rw [List.append_nil, ← h3]; rfl
      · exact hst z (by rw [show nxt (l, It.txt tx) = [] from rfl, List.append_nil] at hz; exact hz)
    | two tg nm =>
      obtain ⟨a, rfl, ha⟩ := id k4
      refine ⟨_, rfl, _, .tup ha, _, rfl, ?_⟩
      refine ⟨_, rfl, _, .two tg nm, rfl, k4, _, rfl, ?_⟩
      have fin : ∀ r' : Nat, r' + wrf st = rfs d → WB d v (st ++ nxt (l, .two tg nm)) [some v, some (.int (i + 1 : Nat)), some (.int c), some (.int r'), some (.ref pa), some (.ref a)] := fun r' hr' => by
        refine ⟨i + 1, c, r', _, _, rfl, ?_, ?_, ?_, fun z hz => ?_⟩
        · show i + 1 + wt (st ++ []) = _
          rw [List.append_nil, ← h1]
          show i + 1 + wt st = i + (wt st + 1); omega
        · show c + wch (st ++ []) = _
          rw [List.append_nil, ← h2]; rfl
        · show r' + wrf (st ++ []) = _
          rw [List.append_nil]; exact hr'
        · exact hst z (by rw [show nxt (l, It.two tg nm) = [] from rfl, List.append_nil] at hz; exact hz)
      refine ⟨_, rfl, a, _, _, _, rfl, rfl, ha, rfl, rfl, _, rfl, ?_⟩
      by_cases ct : tg = ("@" : Str)
      · refine word_yes ct ?_
        refine ⟨_, rfl, _, _, rfl, rfl, ?_⟩
        refine ⟨rfl, fin (r + 1) ?_⟩
        rw [← h3]
        show r + 1 + wrf st = r + (wrf st + (if tg = ("@" : Str) then 1 else 0))
        rw [if_pos ct]; omega
      · refine word_no ct ?_
        refine ⟨rfl, fin r ?_⟩
        rw [← h3]
        show r + wrf st = r + (wrf st + (if tg = ("@" : Str) then 1 else 0))
        rw [if_neg ct]; omega
    | part kd ms its =>
      obtain ⟨a, m, r2, us, rfl, a1, a2, a3, a4⟩ := id k4
      have ul := a4.length
      have k3' : xs.length = l := k3
      have y1' : wid (.part kd ms its) ≤ 12 := y1
      have y2' : l + hgt (.part kd ms its) ≤ 6 := y2
      rw [wid] at y1'
      rw [hgt] at y2'
      refine ⟨_, rfl, _, .tup a1, _, rfl, ?_⟩
      refine ⟨_, rfl, _, .part kd ms its, rfl, k4, _, rfl, ?_⟩
      refine ⟨_, rfl, a, _, _, _, rfl, rfl, a1, rfl, _, _, rfl, lenT a3, _, _, rfl, rfl, _, rfl, ?_⟩
      refine nay (decide_eq_false (by omega)) ?_
      refine ⟨_, rfl, _, _, rfl, lenT k2, _, _, rfl, rfl, _, rfl, ?_⟩
      refine nay (decide_eq_false (by omega)) ?_
      obtain ⟨p2, p3⟩ := w_part l kd ms its
      have p1 := wt_nxt (l, .part kd ms its)
      refine ⟨rfl, i + 1, c, r, _, _, rfl, ?_, ?_, ?_, fun z hz => ?_⟩
      · rw [wt_append, ← h1]; omega
      · rw [wch_append, p2, ← h2]
        show c + (wch st + chss its) = c + (wch st + chss its); rfl
      · rw [wrf_append, p3, ← h3]
        show r + (wrf st + rfss its) = r + (wrf st + rfss its); rfl
      · rcases List.mem_append.mp hz with hz | hz
        · exact hst z hz
        · have hz' : z ∈ its.reverse.map fun c => ((l + 1, c) : Ent) := hz
          obtain ⟨ch, hc, rfl⟩ := List.mem_map.mp hz'
          have hc' := List.mem_reverse.mp hc
          have q1 := hgts_mem hc'
          have q2 := wids_mem hc'
          exact ⟨by show wid ch ≤ 12; omega, by show l + 1 + hgt ch ≤ 6; omega⟩
  · obtain ⟨i, c, r, v4, v5, rfl, h1, h2, h3, h4⟩ := hw
    have bc := ib.c
    have bx := ib.x
    have br := ib.r
    have e1 : i = cnt d := by rw [← h1]; show i = i + 0; omega
    have e2 : c = chs d := by rw [← h2]; show c = c + 0; omega
    have e3 : r = rfs d := by rw [← h3]; show r = r + 0; omega
    refine ⟨_, rfl, _, _, rfl, rfl, _, rfl, yes (decide_eq_true (by omega)) ?_⟩
    refine ⟨_, rfl, _, _, rfl, rfl, _, rfl, yes (decide_eq_true (by omega)) ?_⟩
    refine ⟨_, rfl, _, _, rfl, rfl, ?_⟩
    show Q (V.bl (decide ((r : Int) ≤ 3))) H'
    rw [decide_eq_true (show (r : Int) ≤ 3 by omega)]
    exact z H' ex
end
end K7

namespace K7
open PySem PySem.Spec PyProof.Rows L2
theorem within : Within := fun D Dw B C G => (ok_within (k := 1) D Dw B C (G 0)).mono (by decide)
end K7
theorem PySem.Challenge.cw_stylepages_k07_whole_inverse_comes_home_holds : PySem.Challenge.rw_stylepages_k07_whole_inverse_comes_home.Holds := by
  exact K7.holds_with K7.within
