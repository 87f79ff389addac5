import PyProof.Rows.All
import Wide.All
import OpenK.AllK
import Wide.FinOn
import HandS.ForMost
import HandS.Evl
import HandS.Walk
import HandS.DictComp
import HandS.WideBits
import HandS.TupAny
import HandS.Defaults
import HandS.HeadHook1
import HandS.HeadHook2
import HandS.IsInst
import HandS.Steps
import HandS.Set
import HandS.SetFor
import HandS.Strs
import HandS.Iter
import KE.KDictWalk
import HandS.Comp
import HandS.Small
import PyProof.Rows.StrMeet
import KE.GoesEnum
import HandS.Nested
import HandS.Lambda
import HandS.HeadHook4
import HandS.SortKw
import HandS.More
import HandS.Star
import HandS.Property
import HandS.Style
import HandS.EndTab
import HandS.NestedK
import KE.KStateDown
import Lean
import HandS.Ends
import HandS.Words
import HandS.WordsExc
import HandS.Head0
import HandS.Head1
import HandS.Head2
import HandS.HeadEnd
import HandS.HeadHook3
import HandS.HeadWalk
import PySem.Challenge.RW_coverways_k23_whole_great_widths_counted
set_option Elab.async false
set_option linter.all false
set_option maxRecDepth 100000
set_option maxHeartbeats 4000000
namespace Cw
open PySem L2
def top (i : Nat) : Stmt := PySem.Challenge.pw_coverways_k23_whole_great_widths_counted.main.body.getD i (.Pass ⟨0, 0, 0, 0⟩)
abbrev s_is_integer : Stmt := top 21
theorem sc_is_integer : FnScope ["value"] ["value"] (defScope s_is_integer) :=
  ⟨rfl, rfl, rfl, by decide +kernel, rfl, by decide +kernel, by decide +kernel⟩
abbrev s_is_list : Stmt := top 22
theorem sc_is_list : FnScope ["value"] ["value"] (defScope s_is_list) :=
  ⟨rfl, rfl, rfl, by decide +kernel, rfl, by decide +kernel, by decide +kernel⟩
abbrev s_is_width : Stmt := top 23
theorem sc_is_width : FnScope ["value"] ["value"] (defScope s_is_width) :=
  ⟨rfl, rfl, rfl, by decide +kernel, rfl, by decide +kernel, by decide +kernel⟩
abbrev s_is_bits : Stmt := top 24
theorem sc_is_bits : FnScope ["value", "sign"] ["value"] (defScope s_is_bits) :=
  ⟨rfl, rfl, rfl, by decide +kernel, rfl, by decide +kernel, by decide +kernel⟩
abbrev s_is_name : Stmt := top 25
theorem sc_is_name : FnScope ["value", "sign"] ["value"] (defScope s_is_name) :=
  ⟨rfl, rfl, rfl, by decide +kernel, rfl, by decide +kernel, by decide +kernel⟩
abbrev s_is_goal : Stmt := top 26
theorem sc_is_goal : FnScope ["value"] ["value"] (defScope s_is_goal) :=
  ⟨rfl, rfl, rfl, by decide +kernel, rfl, by decide +kernel, by decide +kernel⟩
abbrev s_is_address : Stmt := top 27
theorem sc_is_address : FnScope ["width", "value"] ["width", "value"] (defScope s_is_address) :=
  ⟨rfl, rfl, rfl, by decide +kernel, rfl, by decide +kernel, by decide +kernel⟩
abbrev s_is_stretch : Stmt := top 28
theorem sc_is_stretch : FnScope ["width", "value"] ["width", "value"] (defScope s_is_stretch) :=
  ⟨rfl, rfl, rfl, by decide +kernel, rfl, by decide +kernel, by decide +kernel⟩
abbrev s_first_wrong : Stmt := top 29
theorem sc_first_wrong : FnScope ["some", "is_right", "position", "element"] ["some", "is_right"] (defScope s_first_wrong) :=
  ⟨rfl, rfl, rfl, by decide +kernel, rfl, by decide +kernel, by decide +kernel⟩
abbrev s_want_width : Stmt := top 30
theorem sc_want_width : FnScope ["width"] ["width"] (defScope s_want_width) :=
  ⟨rfl, rfl, rfl, by decide +kernel, rfl, by decide +kernel, by decide +kernel⟩
abbrev s_want_address : Stmt := top 31
theorem sc_want_address : FnScope ["width", "value"] ["width", "value"] (defScope s_want_address) :=
  ⟨rfl, rfl, rfl, by decide +kernel, rfl, by decide +kernel, by decide +kernel⟩
abbrev s_want_goal : Stmt := top 32
theorem sc_want_goal : FnScope ["value"] ["value"] (defScope s_want_goal) :=
  ⟨rfl, rfl, rfl, by decide +kernel, rfl, by decide +kernel, by decide +kernel⟩
abbrev s_want_free : Stmt := top 33
theorem sc_want_free : FnScope ["width", "free", "position"] ["width", "free"] (defScope s_want_free) :=
  ⟨rfl, rfl, rfl, by decide +kernel, rfl, by decide +kernel, by decide +kernel⟩
abbrev s_want_same_width : Stmt := top 34
theorem sc_want_same_width : FnScope ["one", "other"] ["one", "other"] (defScope s_want_same_width) :=
  ⟨rfl, rfl, rfl, by decide +kernel, rfl, by decide +kernel, by decide +kernel⟩
abbrev s_size_of : Stmt := top 35
theorem sc_size_of : FnScope ["width", "stretch"] ["width", "stretch"] (defScope s_size_of) :=
  ⟨rfl, rfl, rfl, by decide +kernel, rfl, by decide +kernel, by decide +kernel⟩
abbrev s_begin_of : Stmt := top 36
theorem sc_begin_of : FnScope ["width", "stretch", "found", "bit"] ["width", "stretch"] (defScope s_begin_of) :=
  ⟨rfl, rfl, rfl, by decide +kernel, rfl, by decide +kernel, by decide +kernel⟩
abbrev s_address_of : Stmt := top 37
theorem sc_address_of : FnScope ["width", "begin", "found", "rest", "place", "bit"] ["width", "begin"] (defScope s_address_of) :=
  ⟨rfl, rfl, rfl, by decide +kernel, rfl, by decide +kernel, by decide +kernel⟩
abbrev s_cell_rows : Stmt := top 38
theorem sc_cell_rows : FnScope ["width", "stretches", "ordered", "left", "around", "stretch", "size", "begin", "many", "start", "one"] ["width", "stretches"] (defScope s_cell_rows) :=
  ⟨rfl, rfl, rfl, by decide +kernel, rfl, by decide +kernel, by decide +kernel⟩
abbrev s_is_row : Stmt := top 40
theorem sc_is_row : FnScope ["width", "value"] ["width", "value"] (defScope s_is_row) :=
  ⟨rfl, rfl, rfl, by decide +kernel, rfl, by decide +kernel, by decide +kernel⟩
abbrev s_are_rows : Stmt := top 41
theorem sc_are_rows : FnScope ["width", "value", "row"] ["width", "value"] (defScope s_are_rows) :=
  ⟨rfl, rfl, rfl, by decide +kernel, rfl, by decide +kernel, by decide +kernel⟩
abbrev s_T_init : Stmt := inClass (top 42) 1
theorem sc_T_init : FnScope ["self", "width", "rows", "given", "sizes", "stretch"] ["self", "width", "rows"] (defScope s_T_init) :=
  ⟨rfl, rfl, rfl, by decide +kernel, rfl, by decide +kernel, by decide +kernel⟩
abbrev s_T_width : Stmt := inClass (top 42) 3
theorem sc_T_width : FnScope ["self"] ["self"] (defScope s_T_width) :=
  ⟨rfl, rfl, rfl, by decide +kernel, rfl, by decide +kernel, by decide +kernel⟩
abbrev s_T_row_of : Stmt := inClass (top 42) 5
theorem sc_T_row_of : FnScope ["self", "address", "size"] ["self", "address"] (defScope s_T_row_of) :=
  ⟨rfl, rfl, rfl, by decide +kernel, rfl, by decide +kernel, by decide +kernel⟩
abbrev s_T_goal_of : Stmt := inClass (top 42) 6
theorem sc_T_goal_of : FnScope ["self", "address", "stretch"] ["self", "address"] (defScope s_T_goal_of) :=
  ⟨rfl, rfl, rfl, by decide +kernel, rfl, by decide +kernel, by decide +kernel⟩
abbrev s_T_call : Stmt := inClass (top 42) 8
theorem sc_T_call : FnScope ["self", "address"] ["self", "address"] (defScope s_T_call) :=
  ⟨rfl, rfl, rfl, by decide +kernel, rfl, by decide +kernel, by decide +kernel⟩
abbrev s_is_free : Stmt := top 44
theorem sc_is_free : FnScope ["free", "stretch", "one"] ["free", "stretch"] (defScope s_is_free) :=
  ⟨rfl, rfl, rfl, by decide +kernel, rfl, by decide +kernel, by decide +kernel⟩
abbrev s_shared_cells : Stmt := top 45
theorem sc_shared_cells : FnScope ["width", "lists", "some", "stretch"] ["width", "lists"] (defScope s_shared_cells) :=
  ⟨rfl, rfl, rfl, by decide +kernel, rfl, by decide +kernel, by decide +kernel⟩
abbrev s_used_cells : Stmt := top 46
theorem sc_used_cells : FnScope ["width", "lists", "free", "cells", "stretch", "many", "start"] ["width", "lists", "free"] (defScope s_used_cells) :=
  ⟨rfl, rfl, rfl, by decide +kernel, rfl, by decide +kernel, by decide +kernel⟩
abbrev s_is_used : Stmt := top 47
theorem sc_is_used : FnScope ["width", "free", "address"] ["width", "free", "address"] (defScope s_is_used) :=
  ⟨rfl, rfl, rfl, by decide +kernel, rfl, by decide +kernel, by decide +kernel⟩
abbrev s_used_number : Stmt := top 48
theorem sc_used_number : FnScope ["width", "free", "many", "start"] ["width", "free"] (defScope s_used_number) :=
  ⟨rfl, rfl, rfl, by decide +kernel, rfl, by decide +kernel, by decide +kernel⟩
abbrev s_numbers : Stmt := top 49
theorem sc_numbers : FnScope ["table", "free", "found", "many", "start", "goal"] ["table", "free"] (defScope s_numbers) :=
  ⟨rfl, rfl, rfl, by decide +kernel, rfl, by decide +kernel, by decide +kernel⟩
abbrev s_first_with : Stmt := top 50
theorem sc_first_with : FnScope ["table", "goal", "free", "cells", "many", "start"] ["table", "goal", "free"] (defScope s_first_with) :=
  ⟨rfl, rfl, rfl, by decide +kernel, rfl, by decide +kernel, by decide +kernel⟩
abbrev s_law_pot : Stmt := top 52
theorem sc_law_pot : FnScope ["_law_script", "_law_k", "_law_cell"] ["_law_script", "_law_k"] (defScope s_law_pot) :=
  ⟨rfl, rfl, rfl, by decide +kernel, rfl, by decide +kernel, by decide +kernel⟩
abbrev s_law_draw : Stmt := top 53
theorem sc_law_draw : FnScope ["_law_pot_here", "_law_many", "_law_digit"] ["_law_pot_here", "_law_many"] (defScope s_law_draw) :=
  ⟨rfl, rfl, rfl, by decide +kernel, rfl, by decide +kernel, by decide +kernel⟩
abbrev s_law_pick : Stmt := top 54
theorem sc_law_pick : FnScope ["_law_pot_here", "_law_some_here"] ["_law_pot_here", "_law_some_here"] (defScope s_law_pick) :=
  ⟨rfl, rfl, rfl, by decide +kernel, rfl, by decide +kernel, by decide +kernel⟩
abbrev s_law_bits : Stmt := top 55
theorem sc_law_bits : FnScope ["_law_pot_here", "_law_size_here", "_law_turn"] ["_law_pot_here", "_law_size_here"] (defScope s_law_bits) :=
  ⟨rfl, rfl, rfl, by decide +kernel, rfl, by decide +kernel, by decide +kernel⟩
abbrev s_law_goals : Stmt := top 56
theorem sc_law_goals : FnScope ["_law_pot_here", "_law_letters", "_law_label", "_law_turn"] ["_law_pot_here"] (defScope s_law_goals) :=
  ⟨rfl, rfl, rfl, by decide +kernel, rfl, by decide +kernel, by decide +kernel⟩
abbrev s_law_grown : Stmt := top 57
theorem sc_law_grown : FnScope ["_law_pot_here", "_law_size_here", "_law_many", "_law_found", "_law_turn", "_law_base", "_law_way", "_law_fresh"] ["_law_pot_here", "_law_size_here", "_law_many"] (defScope s_law_grown) :=
  ⟨rfl, rfl, rfl, by decide +kernel, rfl, by decide +kernel, by decide +kernel⟩
abbrev s_law_some : Stmt := top 58
theorem sc_law_some : FnScope ["_law_pot_here", "_law_parts", "_law_many", "_law_left", "_law_found", "_law_turn"] ["_law_pot_here", "_law_parts", "_law_many"] (defScope s_law_some) :=
  ⟨rfl, rfl, rfl, by decide +kernel, rfl, by decide +kernel, by decide +kernel⟩
abbrev s_law_size : Stmt := top 59
theorem sc_law_size : FnScope ["_law_pot_here"] ["_law_pot_here"] (defScope s_law_size) :=
  ⟨rfl, rfl, rfl, by decide +kernel, rfl, by decide +kernel, by decide +kernel⟩
abbrev s_law_pieces : Stmt := top 60
theorem sc_law_pieces : FnScope ["_law_size_here", "_law_rows", "_law_idle", "_law_inside", "_law_found", "_law_waiting", "_law_part", "_law_at", "_law_aim"] ["_law_size_here", "_law_rows", "_law_idle"] (defScope s_law_pieces) :=
  ⟨rfl, rfl, rfl, by decide +kernel, rfl, by decide +kernel, by decide +kernel⟩
abbrev s_law_told_right : Stmt := top 61
theorem sc_law_told_right : FnScope ["_law_size_here", "_law_rows", "_law_idle", "_law_goals_here", "_law_sheet", "_law_pieces_here", "_law_counts", "_law_begins", "_law_part", "_law_aim", "_law_many", "_law_due", "_law_told", "_law_every", "_law_spot"] ["_law_size_here", "_law_rows", "_law_idle", "_law_goals_here"] (defScope s_law_told_right) :=
  ⟨rfl, rfl, rfl, by decide +kernel, rfl, by decide +kernel, by decide +kernel⟩
abbrev s_law_right : Stmt := top 62
theorem sc_law_right : FnScope ["_law_pot_here", "_law_size_here", "_law_goals_here", "_law_turn", "_law_parts", "_law_rows", "_law_idle", "_law_part"] ["_law_pot_here"] (defScope s_law_right) :=
  ⟨rfl, rfl, rfl, by decide +kernel, rfl, by decide +kernel, by decide +kernel⟩
abbrev s_law : Stmt := top 63
theorem sc_law : FnScope ["_law_script", "_law_k"] ["_law_script"] (defScope s_law) :=
  ⟨rfl, rfl, rfl, by decide +kernel, rfl, by decide +kernel, by decide +kernel⟩
end Cw
set_option Elab.async false
set_option linter.all false
set_option maxRecDepth 100000
set_option maxHeartbeats 4000000
namespace Cw
open PySem PySem.Spec PyProof.Rows L2 Evl
/-! ### values with a property, new objects with a property, iterators, targets -/
def EvP (te : TE) (σ : L2.St) (H : Hp) (E : V → Hp → Prop) : Prop := ∀ H1, Ex H H1 → ∀ Q : VK, (∀ v H2, Ex H1 H2 → E v H2 → Q v H2) → te σ H1 Q
def EvN (te : TE) (σ : L2.St) (H : Hp) (E : Addr → Hp → Prop) : Prop := ∀ H1, Ex H H1 → ∀ Q : VK, (∀ p H2, H1 p = none → Ex H1 H2 → E p H2 → Q (.ref p) H2) → te σ H1 Q
/-- n turns; at turn i comes x with Y i x -/
def EvI (wi : TI) (σ : L2.St) (H : Hp) (n : Nat) (Y : Nat → V → Hp → Prop) : Prop :=
  ∀ H1, Ex H H1 → ∀ R : It → Hp → Prop, (∀ J (G : Hp → Prop) H2, Ex H1 H2 → Walk J n G (fun i Ha x Hb => Ex Ha Hb ∧ Y i x Hb) → (∀ H3, Ex H2 H3 → G H3) → R J H2) → wi σ H1 R
/-- a target takes x: the slots are σ2 behind it -/
def EvG (g : TG) (x : V) (σ : L2.St) (H : Hp) (σ2 : L2.St) : Prop := ∀ H1, Ex H H1 → ∀ k : L2.St → Hp → Prop, k σ2 H1 → g x σ H1 k
def EvGs (g : TGs) (xs : List V) (σ : L2.St) (H : Hp) (σ2 : L2.St) : Prop := ∀ H1, Ex H H1 → ∀ k : L2.St → Hp → Prop, k σ2 H1 → g xs σ H1 k
section
variable {K : PySem.W.Frag} {σ σ1 σ2 σ3 : L2.St} {H H' : Hp} {ta tb te tx : TE} {t u : TT} {x y z v : V} {r : R2} {E E' : V → Hp → Prop} {N N' : Addr → Hp → Prop}
theorem EvP.mono (e : Ex H H') (h : EvP te σ H E) : EvP te σ H' E := fun H1 a Q q => h H1 (e.trans a) Q q
theorem EvN.mono (e : Ex H H') (h : EvN te σ H N) : EvN te σ H' N := fun H1 a Q q => h H1 (e.trans a) Q q
theorem EvU.mono {xs : List V} (e : Ex H H') (h : EvU te σ H xs) : EvU te σ H' xs := fun H1 a Q q => h H1 (e.trans a) Q q
theorem EvI.mono {wi : TI} {n : Nat} {Y : Nat → V → Hp → Prop} (e : Ex H H') (h : EvI wi σ H n Y) : EvI wi σ H' n Y := fun H1 a Q q => h H1 (e.trans a) Q q
theorem EvP.imp (h : EvP te σ H E) (k : ∀ v H', Ex H H' → E v H' → E' v H') : EvP te σ H E' := fun H1 a Q q => h H1 a Q fun v H2 e p => q v H2 e (k v H2 (a.trans e) p)
theorem EvN.imp (h : EvN te σ H N) (k : ∀ v H', Ex H H' → N v H' → N' v H') : EvN te σ H N' := fun H1 a Q q => h H1 a Q fun v H2 f e p => q v H2 f e (k v H2 (a.trans e) p)
theorem EvN.p (h : EvN te σ H N) : EvP te σ H (fun v H' => ∃ p, v = .ref p ∧ N p H') := fun H1 a Q q => h H1 a Q fun p H2 _ e n => q _ H2 e ⟨p, rfl, n⟩
theorem ep_ev (h : Ev te σ H v) : EvP te σ H (fun x _ => x = v) := fun H1 a Q q => h H1 a Q fun H2 e => q v H2 e rfl
theorem en_l {xs : List V} (h : EvL te σ H xs) : EvN te σ H (fun p H' => H' p = some (.lst xs)) := h
theorem en_u {xs : List V} (h : EvU te σ H xs) : EvN te σ H (fun p H' => H' p = some (.tup xs)) := h
theorem el_n {xs : List V} (h : EvN te σ H (fun p H' => H' p = some (.lst xs))) : EvL te σ H xs := h
theorem eu_n {xs : List V} (h : EvN te σ H (fun p H' => H' p = some (.tup xs))) : EvU te σ H xs := h
/-! targets -/
theorem eg_name {i : Nat} : EvG (gName i) x σ H (σ.set i (some x)) := fun _ _ _ k => k
theorem egs_nil : EvGs gNil [] σ H σ := fun _ _ _ k => ⟨rfl, k⟩
theorem egs_cons {g : TG} {gs : TGs} {xs : List V} (h : EvG g x σ H σ1) (h2 : EvGs gs xs σ1 H σ2) : EvGs (gCons g gs) (x :: xs) σ H σ2 := fun H1 e k q =>
  ⟨x, xs, rfl, h H1 e _ (h2 H1 e _ q)⟩
theorem eg_tup {n : Nat} {gs : TGs} {a : Addr} {xs : List V} (ha : SqT K H a xs) (hl : xs.length = n) (h : EvGs gs xs σ H σ2) : EvG (gTup K n gs) (.ref a) σ H σ2 := fun H1 e k q =>
  ⟨a, xs, rfl, ex_t e ha, hl, h H1 e _ q⟩
theorem EvG.mono {g : TG} (e : Ex H H') (h : EvG g x σ H σ2) : EvG g x σ H' σ2 := fun H1 a k q => h H1 (e.trans a) k q
/-! iterators -/
theorem ei_list {tl : TE} {a : Addr} {xs : List V} (h : Ev tl σ H (.ref a)) (hs : SqL K H a xs) : EvI (iList K tl) σ H xs.length (fun i x _ => xs[i]? = some x) := fun H1 e R q =>
  h H1 e _ fun H2 e2 => ⟨a, rfl, ⟨xs, ex_l (e.trans e2) hs⟩, q _ _ H2 e2 (walk_list.mono (G' := fun H => SqL K H a xs) (fun _ g => g) fun i Ha x Hb _ _ y => ⟨by rw [y.1]; exact Ex.refl _, y.2⟩) fun H3 e3 => ex_l ((e.trans e2).trans e3) hs⟩
theorem ei_listN {tl : TE} {N : Addr → Hp → Prop} {n : Nat} {Y : Nat → V → Hp → Prop} (h : EvN tl σ H N) (hs : ∀ p H1, N p H1 → ∃ xs, H1 p = some (.lst xs) ∧ xs.length = n ∧ ∀ i x H2, Ex H1 H2 → xs[i]? = some x → Y i x H2) : EvI (iList K tl) σ H n Y := fun H1 e R q =>
  h H1 e _ fun p H2 _ e2 hN => by
    obtain ⟨xs, h1, hl, hy⟩ := hs p H2 hN
    subst hl
    exact ⟨p, rfl, ⟨xs, sq_of h1⟩, q _ _ H2 e2 (walk_list.mono (G' := fun H => SqL K H p xs ∧ Ex H2 H) (fun _ g => g.1) fun i Ha x Hb _ g y => ⟨by rw [y.1]; exact Ex.refl _, hy i x Hb (by rw [y.1]; exact g.2) y.2⟩) fun H3 e3 => ⟨ex_l e3 (sq_of h1), e3⟩⟩
theorem ei_tup {tl : TE} {a : Addr} {xs : List V} (h : Ev tl σ H (.ref a)) (hs : SqT K H a xs) : EvI (iTup K tl) σ H xs.length (fun i x _ => xs[i]? = some x) := fun H1 e R q =>
  h H1 e _ fun H2 e2 => ⟨a, rfl, ⟨xs, ex_t (e.trans e2) hs⟩, q _ _ H2 e2 (walk_tup.mono (G' := fun H => SqT K H a xs) (fun _ g => g) fun i Ha x Hb _ _ y => ⟨by rw [y.1]; exact Ex.refl _, y.2⟩) fun H3 e3 => ex_t ((e.trans e2).trans e3) hs⟩
theorem ei_str {tl : TE} {s : Str} (h : Ev tl σ H (.str s)) : EvI (iStr tl) σ H s.cps.size (fun i x _ => ∃ c, s.cps[i]? = some c ∧ x = .str ⟨#[c]⟩) := fun H1 e R q =>
  h H1 e _ fun H2 e2 => ⟨s, rfl, q _ _ H2 e2 (walk_str.mono (G' := fun _ => True) (fun _ g => g) fun i Ha x Hb _ _ y => ⟨by rw [y.1]; exact Ex.refl _, y.2⟩) fun _ _ => trivial⟩
theorem ei_range {ta : TA} {n : Nat} (h : EvA ta σ H [.int (n : Int)]) (hn : n ≤ 100000) : EvI (iRng1 ta) σ H n (fun i x _ => x = .int (i : Int)) := fun H1 e R q =>
  h H1 e _ fun H2 e2 => ⟨(n : Int), rfl, by omega, by omega, q _ _ H2 e2 ((walk_range (lo := 0) (n := n)).mono (G' := fun _ => True) (fun _ g => g) fun i Ha x Hb _ _ y => ⟨by rw [y.1]; exact Ex.refl _, by rw [y.2]; simp⟩) fun _ _ => trivial⟩
/-! comprehensions -/
/-- the new list holds, for each index, a value with its property -/
def Made (is : List Nat) (E : Nat → V → Hp → Prop) (p : Addr) (H : Hp) : Prop := ∃ ys, H p = some (.lst ys) ∧ Paired (fun i y => E i y H) is ys
/-- the tuples are kept -/
def Tk (Ha Hb : Hp) : Prop := ∀ a xs, Ha a = some (.tup xs) → Hb a = some (.tup xs)
theorem tk_ex {Ha Hb : Hp} (e : Ex Ha Hb) : Tk Ha Hb := fun a _ h => e a _ h
theorem tk_trans {Ha Hb Hc : Hp} (e : Tk Ha Hb) (f : Tk Hb Hc) : Tk Ha Hc := fun a xs h => f a xs (e a xs h)
theorem tk_upd {Ha : Hp} {D : Addr} {o u : HO} (h : Ha D = some o) (n : ∀ xs, o ≠ .tup xs) : Tk Ha (upd Ha D u) := fun a xs e => by
  rw [upd_ne (fun z => n xs (by rw [z, h] at e; exact Option.some.inj e))]
  exact e
theorem paired_ex {E : Nat → V → Hp → Prop} (hE : ∀ i y Ha Hb, Tk Ha Hb → E i y Ha → E i y Hb) {is : List Nat} {ys : List V} (e : Tk H H') (h : Paired (fun i y => E i y H) is ys) : Paired (fun i y => E i y H') is ys := L2.Paired.mapP h fun i y q => hE i y H H' e q
theorem paired_app {α β : Type} {F : α → β → Prop} : ∀ {as bs : List α} {xs ys : List β}, Paired F as xs → Paired F bs ys → Paired F (as ++ bs) (xs ++ ys)
  | _, _, _, _, .nil, s => s
  | _, _, _, _, .cons r t, s => .cons r (paired_app t s)
theorem paired_len {α β : Type} {F : α → β → Prop} : ∀ {as : List α} {xs : List β}, Paired F as xs → as.length = xs.length
  | _, _, .nil => rfl
  | _, _, .cons _ t => congrArg Nat.succ (paired_len t)
theorem ixs_yes {n : Nat} {f : Nat → Bool} (h : f n = true) : (List.range (n + 1)).filter f = (List.range n).filter f ++ [n] := by
  rw [List.range_succ, List.filter_append, List.filter_cons, if_pos h] <;> rfl
theorem ixs_no {n : Nat} {f : Nat → Bool} (h : f n = false) : (List.range (n + 1)).filter f = (List.range n).filter f := by
  rw [List.range_succ, List.filter_append, List.filter_cons, if_neg (by rw [h]; decide)]
  simp
theorem en_lc {wi : TI} {g : TG} {tt : TT} {vs : List Nat} {n : Nat} {Y : Nat → V → Hp → Prop} {f : Nat → Bool} {E : Nat → V → Hp → Prop} (hi : EvI wi σ H n Y) (hn : n ≤ 100000) (hE : ∀ i y Ha Hb, Tk Ha Hb → E i y Ha → E i y Hb)
    (ht : ∀ i x H1, i < n → Ex H H1 → Y i x H1 → ∃ σ2, wipe σ2 vs = wipe σ vs ∧ EvG g x (wipe σ vs) H1 σ2 ∧ EvT tt σ2 H1 (f i) ∧ (f i = true → EvP te σ2 H1 (E i))) :
    EvN (tLc wi g tt te vs) σ H (Made ((List.range n).filter f) E) := fun H1 e Q q =>
  hi H1 e _ fun J G H2 e2 w hG D hD => by
    refine lc_it w (fun i H' => Ex H2 H' ∧ Made ((List.range i).filter f) E D H') ⟨Ex.new hD, [], upd_same, .nil⟩ (fun i H' _ p => hG H' p.1) (fun i x Ha Hb hlt p y => ?_) (fun H' p => q D H' (fresh_back e2 hD) (e2.trans p.1) p.2)
    obtain ⟨p1, ys, p2, p3⟩ := p
    obtain ⟨y1, y2⟩ := y
    obtain ⟨σ2, s1, s2, s3, s4⟩ := ht i x Hb hlt ((e.trans e2).trans (p1.trans y1)) y2
    refine s2 Hb (Ex.refl _) _ ⟨s1, s3 Hb (Ex.refl _) _ fun H3 e3 => ?_⟩
    have m3 : Paired (fun i y => E i y H3) ((List.range i).filter f) ys := paired_ex hE (tk_ex (y1.trans e3)) p3
    have hl : ys.length < sizeLine := by
      have := paired_len p3
      have := List.length_filter_le f (List.range i)
      rw [List.length_range] at this
      exact sz_lt (by omega)
    cases hf : f i with
    | true =>
      show te σ2 H3 _
      refine s4 hf H3 e3 _ fun v H4 e4 hv => ⟨ys, e4 _ _ (e3 _ _ (y1 _ _ p2)), hl, Ex.mut (p1.trans (y1.trans (e3.trans e4))) hD, ys ++ [v], upd_same, ?_⟩
      have e5 : Tk H4 (upd H4 D (.lst (ys ++ [v]))) := tk_upd (e4 _ _ (e3 _ _ (y1 _ _ p2))) fun xs z => by cases z
      rw [ixs_yes hf]
      exact paired_app (paired_ex hE (tk_trans (tk_ex e4) e5) m3) (.cons (hE i v _ _ e5 hv) .nil)
    | false =>
      show Ex H2 H3 ∧ _
      rw [ixs_no hf]
      exact ⟨p1.trans (y1.trans e3), ys, e3 _ _ (y1 _ _ p2), m3⟩
theorem et_yes : EvT tYes σ H true := fun H1 e Q q => q H1 (Ex.refl H1)
theorem paired_fn {v : Nat → V} : ∀ {is : List Nat} {ys : List V}, Paired (fun i y => y = v i) is ys → ys = is.map v
  | _, _, .nil => rfl
  | _, _, .cons r t => by rw [r, paired_fn t, List.map_cons]
/-- a comprehension without tests whose values are told by the turn -/
theorem el_lcV {wi : TI} {g : TG} {vs : List Nat} {n : Nat} {Y : Nat → V → Hp → Prop} (hi : EvI wi σ H n Y) (hn : n ≤ 100000) (v : Nat → V)
    (ht : ∀ i x H1, i < n → Ex H H1 → Y i x H1 → ∃ σ2, wipe σ2 vs = wipe σ vs ∧ EvG g x (wipe σ vs) H1 σ2 ∧ Ev te σ2 H1 (v i)) :
    EvL (tLc wi g tYes te vs) σ H ((List.range n).map v) :=
  el_n ((en_lc (f := fun _ => true) (E := fun i y _ => y = v i) hi hn (fun _ _ _ _ _ h => h) fun i x H1 h1 h2 h3 => by
    obtain ⟨σ2, s1, s2, s3⟩ := ht i x H1 h1 h2 h3
    exact ⟨σ2, s1, s2, et_yes, fun _ => ep_ev s3⟩).imp fun p H' _ ⟨ys, h1, h2⟩ => by
      have e : (List.range n).filter (fun _ => true) = List.range n := List.filter_eq_self.mpr fun _ _ => rfl
      rw [e] at h2
      rw [h1, paired_fn h2])
/-- the entries that a dict comprehension has stored, in their turn -/
def Ents (is : List Nat) (key : Nat → Key) (E : Nat → V → Hp → Prop) (zs : List (Key × V)) (H : Hp) : Prop := Paired (fun i z => z.1 = key i ∧ E i z.2 H) is zs
def MadeD (is : List Nat) (key : Nat → Key) (E : Nat → V → Hp → Prop) (p : Addr) (H : Hp) : Prop := ∃ zs, H p = some (.dK (mergeK [] zs)) ∧ Ents is key E zs H
theorem ents_ex {E : Nat → V → Hp → Prop} (hE : ∀ i y Ha Hb, Tk Ha Hb → E i y Ha → E i y Hb) {is : List Nat} {key : Nat → Key} {zs : List (Key × V)} (e : Tk H H') (h : Ents is key E zs H) : Ents is key E zs H' := L2.Paired.mapP h fun i z q => ⟨q.1, hE i z.2 H H' e q.2⟩
theorem merge_app (zs : List (Key × V)) (k : Key) (v : V) : mergeK [] (zs ++ [(k, v)]) = putK (mergeK [] zs) k v := by
  unfold mergeK
  rw [List.foldl_append] <;> rfl
theorem en_dc {wi : TI} {g : TG} {tt : TT} {tk tv : TE} {vs : List Nat} {n : Nat} {Y : Nat → V → Hp → Prop} {f : Nat → Bool} {key : Nat → Key} {E : Nat → V → Hp → Prop} (hi : EvI wi σ H n Y) (hn : n ≤ 100000) (hE : ∀ i y Ha Hb, Tk Ha Hb → E i y Ha → E i y Hb)
    (ht : ∀ i x H1, i < n → Ex H H1 → Y i x H1 → ∃ σ2, wipe σ2 vs = wipe σ vs ∧ EvG g x (wipe σ vs) H1 σ2 ∧ EvT tt σ2 H1 (f i) ∧ (f i = true → Ev tk σ2 H1 (kV (key i)) ∧ EvP tv σ2 H1 (E i))) :
    EvN (tDc wi g tt tk tv vs) σ H (MadeD ((List.range n).filter f) key E) := fun H1 e Q q =>
  hi H1 e _ fun J G H2 e2 w hG D hD => by
    refine ⟨fun i m H' => m = n - i ∧ i ≤ n ∧ Ex H2 H' ∧ MadeD ((List.range i).filter f) key E D H', ⟨n, by simp, Nat.zero_le _, Ex.new hD, [], upd_same, .nil⟩, ?_⟩
    rintro i m H' ⟨rfl, hle, p⟩
    have hg := hG H' p.1
    by_cases hlt : i < n
    · refine .inr ⟨w.goes i H' hlt hg, fun H' => Ex H2 H' ∧ MadeD ((List.range (i + 1)).filter f) key E D H', fun H' p' => ⟨n - (i + 1), by omega, rfl, hlt, p'⟩, fun x Hb y => ?_⟩
      obtain ⟨p1, zs, p2, p3⟩ := p
      obtain ⟨y1, y2⟩ := w.yields i H' x Hb hlt hg y
      obtain ⟨σ2, s1, s2, s3, s4⟩ := ht i x Hb hlt ((e.trans e2).trans (p1.trans y1)) y2
      refine s2 Hb (Ex.refl _) _ ⟨s1, s3 Hb (Ex.refl _) _ fun H3 e3 => ?_⟩
      have m3 : Ents ((List.range i).filter f) key E zs H3 := ents_ex hE (tk_ex (y1.trans e3)) p3
      have hl : (mergeK [] zs).length < sizeLine := by
        have h1 := paired_len p3
        have h2 := List.length_filter_le f (List.range i)
        have h3 := length_mergeK zs []
        rw [List.length_range] at h2
        simp at h3
        exact sz_lt (by omega)
      cases hf : f i with
      | true =>
        show tk σ2 H3 _
        refine (s4 hf).1 H3 e3 _ fun H4 e4 => (s4 hf).2 H4 (e3.trans e4) _ fun v H5 e5 hv => ⟨_, key i, rfl, e5 _ _ (e4 _ _ (e3 _ _ (y1 _ _ p2))), hl, Ex.mut (p1.trans (y1.trans (e3.trans (e4.trans e5)))) hD, zs ++ [(key i, v)], ?_, ?_⟩
        · rw [merge_app]
          exact upd_same
        · have e6 : Tk H5 (upd H5 D (.dK (putK (mergeK [] zs) (key i) v))) := tk_upd (e5 _ _ (e4 _ _ (e3 _ _ (y1 _ _ p2)))) fun xs z => by cases z
          rw [ixs_yes hf]
          exact paired_app (ents_ex hE (tk_trans (tk_ex (e4.trans e5)) e6) m3) (.cons ⟨rfl, hE i v _ _ e6 hv⟩ .nil)
      | false =>
        show Ex H2 H3 ∧ _
        rw [ixs_no hf]
        exact ⟨p1.trans (y1.trans e3), zs, e3 _ _ (y1 _ _ p2), m3⟩
    · have hin : i = n := by omega
      subst hin
      exact .inl ⟨w.stops H' hg, q D H' (fresh_back e2 hD) (e2.trans p.1) p.2⟩
/-! a dict walked under its lock -/
theorem ei_keys {td : TE} {d : Addr} {o : Obj} {kvs : List (Key × V)} (h : Ev td σ H (.ref d)) (hd : H d = some (.frz o (.dK kvs))) : EvI (iKeys td) σ H kvs.length (fun i x _ => ∃ k v, kvs[i]? = some (k, v) ∧ x = kV k) := fun H1 e R q =>
  h H1 e _ fun H2 e2 => ⟨d, o, rfl, .inl ⟨kvs, (e.trans e2) _ _ hd, q _ _ H2 e2 (walk_keys.mono (G' := fun H => H d = some (.frz o (.dK kvs))) (fun _ g => g) fun i Ha x Hb _ _ y => ⟨by rw [y.1]; exact Ex.refl _, y.2⟩) fun H3 e3 => e3 _ _ ((e.trans e2) _ _ hd)⟩⟩
/-- at turn i a new tuple of the entry's key and value -/
def YTup (kvs : List (Key × V)) (i : Nat) (x : V) (H : Hp) : Prop := ∃ T k v, kvs[i]? = some (k, v) ∧ x = .ref T ∧ H T = some (.tup [kV k, v])
theorem ei_items {td : TE} {d : Addr} {o : Obj} {kvs : List (Key × V)} (h : Ev td σ H (.ref d)) (hd : H d = some (.frz o (.dK kvs))) : EvI (iItems td) σ H kvs.length (YTup kvs) := fun H1 e R q =>
  h H1 e _ fun H2 e2 => ⟨d, o, kvs, rfl, (e.trans e2) _ _ hd, q _ _ H2 e2 ⟨fun i Hc hi g => ⟨g, hi⟩, fun Hc g => ⟨g, Nat.le_refl _⟩, fun i Ha x Hb hi g y => by
    obtain ⟨T, k, v, y1, y2, y3, y4⟩ := y
    subst y4
    exact ⟨Ex.new y3, T, k, v, y1, y2, upd_same⟩⟩ fun H3 e3 => e3 _ _ ((e.trans e2) _ _ hd)⟩
/-- e with the dict at d locked: what e makes does not hang on d -/
theorem en_lock {d : Addr} {u : HO} (hd : H d = some u) (hm : Mut (some u)) (h : ∀ od, EvN te σ (upd H d (.frz od u)) N) (hN : ∀ p Ha od, Ha d = some (.frz od u) → p ≠ d → N p Ha → N p (upd Ha d u)) : EvN (tLockE te) σ H N := fun H1 e Q q =>
  ⟨d, u, e _ _ hd, hm, fun od => h od _ (fun a o ha => by
    by_cases ea : a = d
    · subst ea
      rw [upd_same] at ha
      cases ha
      exact upd_same
    · rw [upd_ne ea] at ha
      rw [upd_ne ea]
      exact e a o ha) _ fun p H2 hp e2 hn => by
    have hd2 := e2 d _ upd_same
    have npd : p ≠ d := fun z => by
      rw [z, upd_same] at hp
      cases hp
    refine ⟨hd2, q p _ (by rw [upd_ne npd] at hp; exact hp) (fun a o ha => ?_) (hN p H2 od hd2 npd hn)⟩
    by_cases ea : a = d
    · subst ea
      rw [e _ _ hd] at ha
      cases ha
      exact upd_same
    · rw [upd_ne ea]
      exact e2 a o (by rw [upd_ne ea]; exact ha)⟩
end
end Cw
set_option Elab.async false
set_option linter.all false
set_option maxRecDepth 100000
set_option maxHeartbeats 4000000
namespace Cw
open PySem PySem.Spec PyProof.Rows L2 Evl
/-! ### bits as texts -/
def cb (b : Bool) : Nat := if b then 49 else 48
def bS (l : List Bool) : Str := ⟨(l.map cb).toArray⟩
theorem cb_inj {a b : Bool} (h : cb a = cb b) : a = b := by cases a <;> cases b <;> simp [cb] at h <;> rfl
theorem bS_tl (l : List Bool) : (bS l).cps.toList = l.map cb := rfl
theorem bS_len (l : List Bool) : (bS l).length = l.length := by simp [bS, Str.length]
theorem bS_size (l : List Bool) : (bS l).cps.size = l.length := by simp [bS]
theorem map_cb_inj : ∀ {l m : List Bool}, l.map cb = m.map cb → l = m
  | [], [], _ => rfl
  | [], _ :: _, h => by simp at h
  | _ :: _, [], h => by simp at h
  | a :: l, b :: m, h => by
    rw [List.map_cons, List.map_cons] at h
    injection h with h1 h2
    rw [cb_inj h1, map_cb_inj h2]
theorem bS_inj {l m : List Bool} (h : bS l = bS m) : l = m := map_cb_inj (congrArg (fun s : Str => s.cps.toList) h)
theorem bS_eq {l m : List Bool} : bS l = bS m ↔ l = m := ⟨bS_inj, fun h => by rw [h]⟩
theorem bS_app (l m : List Bool) : bS l ++ bS m = bS (l ++ m) := TL.ext_tl (by rw [TL.tl_append]; show l.map cb ++ m.map cb = _; rw [← List.map_append] <;> rfl)
theorem bS_nil : (Str.ofString "") = bS [] := by decide +kernel
theorem bS_0 : (Str.ofString "0") = bS [false] := by decide +kernel
theorem bS_1 : (Str.ofString "1") = bS [true] := by decide +kernel
theorem bS_one (b : Bool) : (⟨#[cb b]⟩ : Str) = bS [b] := rfl
theorem bS_at (l : List Bool) (i : Nat) : (bS l).cps[i]? = l[i]?.map cb := by simp [bS]
/-- a cut at the front -/
theorem bS_take (l : List Bool) (k : Nat) : cutS (bS l) none (some (k : Int)) = bS (l.take k) := by
  refine TL.ext_tl ?_
  show ((bS l).cps.toList.drop _).take _ = (l.take k).map cb
  rw [HT.sIx_none, HT.sIx_nat, bS_tl, bS_len, List.drop_zero, Nat.sub_zero, List.map_take]
  rw [← List.map_take, ← List.map_take]
  congr 1
  by_cases h : k ≤ l.length
  · rw [Nat.min_eq_left h]
  · rw [Nat.min_eq_right (by omega), List.take_of_length_le (by omega), List.take_of_length_le (by omega)]
theorem bS_butlast (l : List Bool) (h : l ≠ []) : cutS (bS l) none (some (-1)) = bS l.dropLast := by
  have hp : 0 < l.length := List.length_pos_iff.mpr h
  refine TL.ext_tl ?_
  show ((bS l).cps.toList.drop _).take _ = l.dropLast.map cb
  rw [HT.sIx_none, bS_tl, bS_len, List.drop_zero, Nat.sub_zero, List.dropLast_eq_take, ← List.map_take]
  congr 2
  show (if (-1 : Int) < 0 then ((-1 : Int) + (l.length : Int)).toNat else min (-1 : Int).toNat l.length) = _
  rw [if_pos (by decide)]
  omega
theorem bS_last (l : List Bool) (b : Bool) (h : l.getLast? = some b) : atI (bS l).cps.toList (-1) = some (cb b) := by
  have hne : l ≠ [] := by
    intro e
    rw [e] at h
    cases h
  have hp : 0 < l.length := List.length_pos_iff.mpr hne
  rw [bS_tl]
  unfold atI ixN
  rw [List.length_map]
  rw [List.getLast?_eq_getElem?] at h
  have e1 : ((-1 : Int) + (l.length : Int)).toNat = l.length - 1 := by omega
  rw [if_neg (by decide), if_pos (by omega), e1]
  show (l.map cb)[l.length - 1]? = _
  rw [List.getElem?_map, h] <;> rfl
theorem bS_starts (l m : List Bool) : Txt.startswith (bS l) (bS m) = m.isPrefixOf l := by
  unfold Txt.startswith
  rw [StrLaws.subAt_eq, bS_len, bS_len, List.drop_zero, bS_tl, bS_tl]
  cases hp : m.isPrefixOf l with
  | true =>
    have h := List.isPrefixOf_iff_prefix.mp hp
    obtain ⟨r, rfl⟩ := h
    simp
  | false =>
    have h : ¬ m <+: l := fun z => by
      rw [List.isPrefixOf_iff_prefix.mpr z] at hp
      cases hp
    by_cases hl : m.length ≤ l.length
    · have hne : ¬ (l.map cb).take m.length = m.map cb := fun e => h (by
        rw [← List.map_take] at e
        have e3 := List.take_prefix m.length l
        rw [map_cb_inj e] at e3
        exact e3)
      simp [hl, hne]
    · simp [hl]
/-- repeated -/
theorem flat_rep (c : Nat) : ∀ (n : Nat) (acc : Array Nat), ((List.replicate n #[c]).foldl (· ++ ·) acc) = acc ++ (List.replicate n c).toArray
  | 0, acc => by simp
  | n + 1, acc => by
    rw [List.replicate_succ, List.foldl_cons, flat_rep c n, List.replicate_succ]
    refine Array.toList_inj.mp ?_
    simp
theorem mul_one (c : Nat) (n : Nat) : Txt.mul ⟨#[c]⟩ (n : Int) = ⟨(List.replicate n c).toArray⟩ := by
  unfold Txt.mul
  cases n with
  | zero => rfl
  | succ n =>
    rw [if_neg (by omega)]
    cases n with
    | zero => rfl
    | succ n =>
      rw [if_neg (by simp [Str.length]; omega)]
      have e : ((n + 1 + 1 : Nat) : Int).toNat = n + 1 + 1 := by omega
      rw [e, flat_rep]
      simp
theorem bS_rep (b : Bool) (n : Nat) : Txt.mul (bS [b]) (n : Int) = bS (List.replicate n b) := by
  show Txt.mul ⟨#[cb b]⟩ (n : Int) = _
  rw [mul_one]
  unfold bS
  rw [List.map_replicate]
theorem mulOk_one {s : Str} (hs : s.length = 1) {n : Nat} (h : n ≤ 100000) : MulOk s (n : Int) := by
  refine ⟨?_, fun _ _ => ?_, fun _ _ => ?_⟩
  · simp
    omega
  · rw [hs]
    have hd : (1 : Int) ≤ (2 ^ 63 - 1) / (n : Int) ∨ (n : Int) = 0 := by
      by_cases h0 : n = 0
      · exact .inr (by omega)
      · refine .inl ?_
        rw [Int.le_ediv_iff_mul_le (by omega)]
        omega
    rcases hd with hd | hd
    · omega
    · omega
  · rw [hs]
    unfold Builtin.Str.tooLong
    rw [sizeLine_eq]
    simp
    omega
theorem join_signs : ∀ cs : List Nat, Txt.join (Str.ofString "") (cs.map fun c => (⟨#[c]⟩ : Str)) = ⟨cs.toArray⟩ := by
  intro cs
  rw [TL.join_eq]
  refine TL.ext_tl ?_
  rw [TL.tl_join, List.map_map]
  have e0 : TL.tl (Str.ofString "") = [] := by decide +kernel
  rw [e0]
  show TL.joinL [] (cs.map fun c => [c]) = cs
  induction cs with
  | nil => rfl
  | cons c r ih =>
    cases r with
    | nil => rfl
    | cons d r =>
      show [c] ++ ([] ++ TL.joinL [] ((d :: r).map fun c => [c])) = _
      rw [ih] <;> rfl
end Cw
set_option Elab.async false
set_option linter.all false
set_option maxRecDepth 100000
set_option maxHeartbeats 4000000
namespace Cw
open PySem PySem.Spec PyProof.Rows L2 Evl
/-! ### rules with a name for their reading -/
def rCatS : R2 := fun x y H Q => ∃ i j, x = .str i ∧ y = .str j ∧ i.length + j.length ≤ sizeLine ∧ Q (.str (i ++ j)) H
def rMulS : R2 := fun x y H Q => ∃ (z : Str) (n : Int), x = .str z ∧ y = .int n ∧ MulOk z n ∧ Q (.str (Txt.mul z n)) H
def rShl1 : R2 := fun x y H Q => ∃ k : Nat, x = .int 1 ∧ y = .int (k : Int) ∧ k ≤ 134217727 ∧ Q (.int (2 ^ k)) H
def rStarts : V → List V → Hp → VK → Prop := fun x xs H Q => ∃ a b, x = .str a ∧ xs = [.str b] ∧ Q (.bl (Txt.startswith a b)) H
def rLenT : List V → Hp → VK → Prop := fun xs H Q => ∃ z : Str, xs = [.str z] ∧ z.length ≤ sizeLine ∧ Q (.int z.length) H
def rLenD : List V → Hp → VK → Prop := fun xs H Q => ∃ a kvs, xs = [V.ref a] ∧ H a = some (.dK kvs) ∧ Q (.int kvs.length) H
def rIntS : List V → Hp → VK → Prop := fun xs H Q => ∃ a n, xs = [.str a] ∧ PySem.intText? a = some n ∧ a.length ≤ 640 ∧ Q (.int n) H
def rStrI : List V → Hp → VK → Prop := fun xs H Q => ∃ i : Int, xs = [.int i] ∧ i.natAbs.log2 < 1920 ∧ Q (.str (toString i)) H
def rInt1 : List V → Hp → VK → Prop := fun xs H Q => (∃ i, xs = [.int i] ∧ Q (.int i) H) ∨ ∃ k : Bool, xs = [.bl k] ∧ Q (.int (if k then 1 else 0)) H
def rDivmod : List V → Hp → VK → Prop := fun xs H Q => ∃ i j, xs = [.int i, .int j] ∧ CDiv i j ∧ ∀ p, H p = none → Q (.ref p) (upd H p (.tup [.int (i / j), .int (i % j)]))
def rMin2 : List V → Hp → VK → Prop := fun xs H Q => ∃ i j, xs = [.int i, .int j] ∧ Q (.int (if j < i then j else i)) H
def rAbs : List V → Hp → VK → Prop := fun xs H Q => ∃ i, xs = [.int i] ∧ Q (.int (if i < 0 then -i else i)) H
def rTupOf (K : PySem.W.Frag) : List V → Hp → VK → Prop := fun xs H Q => ∃ p ys, xs = [.ref p] ∧ ((SqL K H p ys ∧ ∀ l, H l = none → Q (.ref l) (upd H l (.tup ys))) ∨ (SqT K H p ys ∧ Q (.ref p) H))
def rListD : List V → Hp → VK → Prop := fun xs H Q => ∃ (a : Addr) (kvs : List (Key × V)), xs = [.ref a] ∧ Rd H a (.dK kvs) ∧ ∀ p, H p = none → Q (.ref p) (upd H p (.lst (kvs.map fun kv => kV kv.1)))
def rJoin (K : PySem.W.Frag) : V → List V → Hp → VK → Prop := fun x xs H Q => ∃ (a : Str) (p : Addr) (ys : List Str), x = .str a ∧ xs = [.ref p] ∧ (SqL K H p (ys.map V.str) ∨ SqT K H p (ys.map V.str)) ∧ (ys.map (·.length)).sum + ys.length * a.length ≤ 16777216 ∧ Q (.str (Txt.join a ys)) H
section
variable {X : Cx}
/-! the written part told apart (within a comprehension's block) -/
theorem op_inK {K : PySem.W.Frag} (h : X.K = K) : OpR X (compareOp .In) (rIn K false) := h ▸ op_in_seq
theorem op_niK {K : PySem.W.Frag} (h : X.K = K) : OpR X (compareOp .NotIn) (rIn K true) := h ▸ op_notIn_seq
theorem ix_listK {K : PySem.W.Frag} (h : X.K = K) : IxR X (rIxL K) := h ▸ ix_list
theorem ix_tupK {K : PySem.W.Frag} (h : X.K = K) : IxR X (rIxT K) := h ▸ ix_tup
theorem pi_listK {K : PySem.W.Frag} {tg l : Expr} {tl : TE} (h : X.K = K) (hl : PE X l tl) : PI X tg l (iList K tl) := h ▸ pi_list hl
theorem pi_tupK {K : PySem.W.Frag} {tg l : Expr} {tl : TE} (h : X.K = K) (hl : PE X l tl) : PI X tg l (iTup K tl) := h ▸ pi_tup hl
theorem cr_anyK {K : PySem.W.Frag} (h : X.K = K) (hc : X.calm = true) : CallR X (.builtin "any") (rAny K) := h ▸ cr_any hc
theorem cr_allK {K : PySem.W.Frag} (h : X.K = K) (hc : X.calm = true) : CallR X (.builtin "all") (rAll K) := h ▸ cr_all hc
theorem op_catS : OpR X (binaryOp .Add) rCatS := op_add_str
theorem op_mulS : OpR X (binaryOp .Mult) rMulS := by
  intro pins s σ H x y v u Q I rx ry h
  obtain ⟨z, n, rfl, rfl, ok, q⟩ := h
  obtain ⟨t, rfl⟩ := rx
  obtain ⟨t', rfl⟩ := ry
  exact SB.mul ok fun t'' k => ⟨.str _, H, I.tok _, ⟨_, rfl⟩, q⟩
theorem op_shl1 : OpR X (binaryOp .LShift) rShl1 := op_oneShl
theorem mt_starts : MtR X "str.startswith" rStarts := mt_startswith
theorem cr_lenT : CallR X (.builtin "len") rLenT := call_len_str
theorem cr_lenS : CallR X (.builtin "len") (rLenS X.K) := call_len_seq
theorem cr_lenD : CallR X (.builtin "len") rLenD := call_lenD
theorem cr_listS : CallR X (.type "list") (rListS X.K) := call_list_of
theorem cr_intS : CallR X (.type "int") rIntS := call_int_str
theorem cr_strI : CallR X (.type "str") rStrI := call_str_int
theorem cr_int1 : CallR X (.type "int") rInt1 := call_int1
theorem cr_divmod : CallR X (.builtin "divmod") rDivmod := call_divmod
theorem cr_min2 (hc : X.calm = true) : CallR X (.builtin "min") rMin2 := call_min2 hc
theorem cr_max2 (hc : X.calm = true) : CallR X (.builtin "max") rMax2 := call_max2 hc
theorem cr_abs : CallR X (.builtin "abs") rAbs := call_abs
theorem cr_tupOf : CallR X (.type "tuple") (rTupOf X.K) := call_tuple_of
theorem cr_listD (hc : X.calm = true) : CallR X (.type "list") rListD := call_listD hc
theorem mt_joinS : MtR X "str.join" (rJoin X.K) := mt_join
end
/-! ### what they evaluate to -/
section
variable {K : PySem.W.Frag} {σ : L2.St} {H H' : Hp} {ta tb tc te tx : TE} {t u : TT} {x y z v : V} {r r' : R2}
theorem rv_catS {a b : Str} (h : a.length + b.length ≤ 100000) : RV rCatS (.str a) (.str b) H (.str (a ++ b)) := fun H1 _ Q q => ⟨a, b, rfl, rfl, sz_of h, q H1 (Ex.refl H1)⟩
theorem rv_mulS {a : Str} (ha : a.length = 1) {n : Nat} (h : n ≤ 100000) : RV rMulS (.str a) (.int (n : Int)) H (.str (Txt.mul a n)) := fun H1 _ Q q => ⟨a, n, rfl, rfl, mulOk_one ha h, q H1 (Ex.refl H1)⟩
theorem rv_shl1 {n : Nat} (h : n ≤ 100000) : RV rShl1 (.int 1) (.int (n : Int)) H (.int (2 ^ n)) := fun H1 _ Q q => ⟨n, rfl, rfl, by omega, q H1 (Ex.refl H1)⟩
theorem rc_lenT {a : Str} (h : a.length ≤ 100000) : RC rLenT [.str a] H (.int (a.length : Int)) := fun H1 _ Q q => ⟨a, rfl, sz_of h, q H1 (Ex.refl H1)⟩
theorem rc_lenL {p : Addr} {xs : List V} (h : SqL K H p xs) : RC (rLenS K) [.ref p] H (.int (xs.length : Int)) := fun H1 e Q q => ⟨p, xs, rfl, .inl (ex_l e h), q H1 (Ex.refl H1)⟩
theorem rc_lenU {p : Addr} {xs : List V} (h : SqT K H p xs) : RC (rLenS K) [.ref p] H (.int (xs.length : Int)) := fun H1 e Q q => ⟨p, xs, rfl, .inr (ex_t e h), q H1 (Ex.refl H1)⟩
theorem rc_lenD {p : Addr} {kvs : List (Key × V)} (h : H p = some (.dK kvs)) : RC rLenD [.ref p] H (.int (kvs.length : Int)) := fun H1 e Q q => ⟨p, kvs, rfl, e _ _ h, q H1 (Ex.refl H1)⟩
theorem rc_int1 {i : Int} : RC rInt1 [.int i] H (.int i) := fun H1 _ Q q => .inl ⟨i, rfl, q H1 (Ex.refl H1)⟩
theorem rc_intB {b : Bool} : RC rInt1 [.bl b] H (.int (if b then 1 else 0)) := fun H1 _ Q q => .inr ⟨b, rfl, q H1 (Ex.refl H1)⟩
theorem rc_intS {a : Str} {n : Int} (h : PySem.intText? a = some n) (hl : a.length ≤ 640) : RC rIntS [.str a] H (.int n) := fun H1 _ Q q => ⟨a, n, rfl, h, hl, q H1 (Ex.refl H1)⟩
theorem rc_strI {i : Int} (h : i.natAbs.log2 < 1920) : RC rStrI [.int i] H (.str (toString i)) := fun H1 _ Q q => ⟨i, rfl, h, q H1 (Ex.refl H1)⟩
theorem rc_min2 {i j : Int} : RC rMin2 [.int i, .int j] H (.int (if j < i then j else i)) := fun H1 _ Q q => ⟨i, j, rfl, q H1 (Ex.refl H1)⟩
theorem rc_max2 {i j : Int} : RC rMax2 [.int i, .int j] H (.int (if j > i then j else i)) := fun H1 _ Q q => ⟨i, j, rfl, q H1 (Ex.refl H1)⟩
theorem rc_abs {i : Int} : RC rAbs [.int i] H (.int (if i < 0 then -i else i)) := fun H1 _ Q q => ⟨i, rfl, q H1 (Ex.refl H1)⟩
theorem eu_divmod {ta : TA} {i j : Int} (h : EvA ta σ H [.int i, .int j]) (hj : 0 < j ∧ j < 1073741824) : EvU (tCB rDivmod ta) σ H [.int (i / j), .int (i % j)] := fun H1 e Q q =>
  h H1 e _ fun H2 e2 => ⟨i, j, rfl, hj, fun p hp => q p _ (fresh_back e2 hp) (e2.trans (Ex.new hp)) upd_same⟩
theorem eu_tupOf {ta : TA} {p : Addr} {xs : List V} (h : EvA ta σ H [.ref p]) (hs : SqL K H p xs) : EvU (tCB (rTupOf K) ta) σ H xs := fun H1 e Q q =>
  h H1 e _ fun H2 e2 => ⟨p, xs, rfl, .inl ⟨ex_l (e.trans e2) hs, fun l hl => q l _ (fresh_back e2 hl) (e2.trans (Ex.new hl)) upd_same⟩⟩
theorem el_listS {ta : TA} {p : Addr} {xs : List V} (h : EvA ta σ H [.ref p]) (hs : SqL K H p xs ∨ SqT K H p xs) : EvL (tCB (rListS K) ta) σ H xs := fun H1 e Q q =>
  h H1 e _ fun H2 e2 => ⟨p, xs, rfl, hs.imp (ex_l (e.trans e2)) (ex_t (e.trans e2)), fun l hl => q l _ (fresh_back e2 hl) (e2.trans (Ex.new hl)) upd_same⟩
theorem el_listD {ta : TA} {p : Addr} {kvs : List (Key × V)} (h : EvA ta σ H [.ref p]) (hs : H p = some (.dK kvs)) : EvL (tCB rListD ta) σ H (kvs.map fun kv => kV kv.1) := fun H1 e Q q =>
  h H1 e _ fun H2 e2 => ⟨p, kvs, rfl, .inl ((e.trans e2) _ _ hs), fun l hl => q l _ (fresh_back e2 hl) (e2.trans (Ex.new hl)) upd_same⟩
theorem ev_starts {a b : Str} (h : Ev ta σ H (.str a)) (h2 : Ev tb σ H (.str b)) : Ev (tM1 rStarts ta tb) σ H (.bl (Txt.startswith a b)) := fun H1 e Q q =>
  h H1 e _ fun H2 e2 => ⟨⟨a, rfl⟩, h2 H2 (e.trans e2) _ fun H3 e3 => ⟨a, b, rfl, rfl, q H3 (e2.trans e3)⟩⟩
theorem ev_slS {tl th : TO} {s : Str} {lo hi : Option Int} (h : Ev te σ H (.str s)) (h1 : EvO tl σ H lo) (h2 : EvO th σ H hi) (hs : s.length ≤ 100000) : Ev (tSl rSlS te tl th) σ H (.str (cutS s lo hi)) := fun H1 e Q q =>
  h H1 e _ fun H2 e2 => h1 H2 (e.trans e2) _ fun H3 e3 => h2 H3 ((e.trans e2).trans e3) _ fun H4 e4 => ⟨s, rfl, sz_of hs, q H4 ((e2.trans e3).trans e4)⟩
theorem ev_chain {a b : Bool} (ha : Ev ta σ H x) (hb : Ev tb σ H y) (hr : RV r x y H (.bl a)) (hc : a = true → Ev tc σ H z) (hr2 : a = true → RV r' y z H (.bl b)) : Ev (tChain r r' ta tb tc) σ H (.bl (a && b)) := fun H1 e Q q =>
  ha H1 e _ fun H2 e2 => hb H2 (e.trans e2) _ fun H3 e3 => hr H3 ((e.trans e2).trans e3) _ fun H4 e4 => ⟨a, rfl, by
    cases a with
    | true =>
      show tc σ H4 _
      exact hc rfl H4 (((e.trans e2).trans e3).trans e4) _ fun H5 e5 => hr2 rfl H5 ((((e.trans e2).trans e3).trans e4).trans e5) Q fun H6 e6 => q H6 ((((e2.trans e3).trans e4).trans e5).trans e6)
    | false =>
      show Q (.bl false) H4
      exact q H4 ((e2.trans e3).trans e4)⟩
theorem rv_join {a : Str} {p : Addr} {ys : List Str} (hs : SqL K H p (ys.map V.str)) (hl : (ys.map (·.length)).sum + ys.length * a.length ≤ 100000) : ∀ H1, Ex H H1 → ∀ Q : VK, (∀ H2, Ex H1 H2 → Q (.str (Txt.join a ys)) H2) → rJoin K (.str a) [.ref p] H1 Q := fun H1 e Q q =>
  ⟨a, p, ys, rfl, rfl, .inl (ex_l e hs), Nat.le_trans hl (by decide), q H1 (Ex.refl _)⟩
/-- d[k], k in d, d.get(k), d.get(k, x) of a dict that stands -/
theorem ev_dget {d : Addr} {kvs : List (Key × V)} {k : Key} (h : Ev ta σ H (.ref d)) (h2 : Ev tb σ H (kV k)) (hd : H d = some (.dK kvs)) (hv : valV kvs k = some v) : Ev (tDGet ta tb) σ H v := fun H1 e Q q =>
  h H1 e _ fun H2 e2 => h2 H2 (e.trans e2) _ fun H3 e3 => ⟨d, v, rfl, by rw [← hv]; exact DGet.k (((e.trans e2).trans e3) _ _ hd), q H3 (e2.trans e3)⟩
theorem ev_din {d : Addr} {kvs : List (Key × V)} {k : Key} (h : Ev tb σ H (kV k)) (h2 : Ev ta σ H (.ref d)) (hd : H d = some (.dK kvs)) : Ev (tDIn tb ta) σ H (.bl (valV kvs k).isSome) := fun H1 e Q q =>
  h H1 e _ fun H2 e2 => h2 H2 (e.trans e2) _ fun H3 e3 => ⟨d, _, rfl, DGet.k (((e.trans e2).trans e3) _ _ hd), q H3 (e2.trans e3)⟩
theorem ev_dget1 {d : Addr} {kvs : List (Key × V)} {k : Key} (h : Ev ta σ H (.ref d)) (h2 : Ev tb σ H (kV k)) (hd : H d = some (.dK kvs)) : Ev (tDGet1 ta tb) σ H ((valV kvs k).getD .non) := fun H1 e Q q =>
  h H1 e _ fun H2 e2 => ⟨d, rfl, .inl ⟨kvs, .inl ((e.trans e2) _ _ hd)⟩, h2 H2 (e.trans e2) _ fun H3 e3 => ⟨_, DGet.k (((e.trans e2).trans e3) _ _ hd), q H3 (e2.trans e3)⟩⟩
theorem ev_dget2 {d : Addr} {kvs : List (Key × V)} {k : Key} (h : Ev ta σ H (.ref d)) (h2 : Ev tb σ H (kV k)) (h3 : Ev tc σ H x) (hd : H d = some (.dK kvs)) : Ev (tDGet2 ta tb tc) σ H ((valV kvs k).getD x) := fun H1 e Q q =>
  h H1 e _ fun H2 e2 => ⟨d, rfl, .inl ⟨kvs, .inl ((e.trans e2) _ _ hd)⟩, h2 H2 (e.trans e2) _ fun H3 e3 => h3 H3 ((e.trans e2).trans e3) _ fun H4 e4 => ⟨_, DGet.k ((((e.trans e2).trans e3).trans e4) _ _ hd), q H4 ((e2.trans e3).trans e4)⟩⟩
/-- calls of defs whose answer is a new object with a property, a value with a property -/
def SpN (sp : Sp) (vs : List V) (H : Hp) (N : Addr → Hp → Prop) : Prop := ∀ H1, Ex H H1 → ∀ Q : VK, (∀ p H2, H1 p = none → Ex H1 H2 → N p H2 → Q (.ref p) H2) → ∀ E : XK, sp vs H1 Q E
theorem en_call {sp : Sp} {vs : List V} {E : XK} {ta : TA} {N : Addr → Hp → Prop} (h : EvA ta σ H vs) (hs : SpN sp vs H N) : EvN (tCall sp [] E ta) σ H N := fun H1 e Q q =>
  h H1 e _ fun H2 e2 => by
    rw [List.append_nil]
    exact hs H2 (e.trans e2) Q (fun p H3 hp e3 h3 => q p H3 (fresh_back e2 hp) (e2.trans e3) h3) E
theorem ev_call0 {sp : Sp} {vs : List V} {E : XK} {ta : TA} (h : EvA ta σ H vs) (hs : SpV sp vs H z) : Ev (tCall sp [] E ta) σ H z := fun H1 e Q q =>
  h H1 e _ fun H2 e2 => by
    rw [List.append_nil]
    exact hs H2 (e.trans e2) Q (fun H3 e3 => q H3 (e2.trans e3)) E
/-- the promises' third shape: a new object with a property -/
def RetN (N : Addr → Hp → Prop) (H : Hp) (Q : VK) : Prop := ∀ p H2, H p = none → Ex H H2 → N p H2 → Q (.ref p) H2
theorem en_cb {r : List V → Hp → VK → Prop} {ta : TA} {vs : List V} {N : Addr → Hp → Prop} (h : EvA ta σ H vs) (hr : ∀ H1, Ex H H1 → ∀ Q : VK, (∀ p H2, H1 p = none → Ex H1 H2 → N p H2 → Q (.ref p) H2) → r vs H1 Q) : EvN (tCB r ta) σ H N := fun H1 e Q q =>
  h H1 e _ fun H2 e2 => hr H2 (e.trans e2) Q fun p H3 hp e3 h3 => q p H3 (fresh_back e2 hp) (e2.trans e3) h3
/-- a call of a built-in upon one new object -/
theorem ev_cbN {r : List V → Hp → VK → Prop} {N : Addr → Hp → Prop} (h : EvN ta σ H N) (hr : ∀ p H1, Ex H H1 → N p H1 → RC r [.ref p] H1 z) : Ev (tCB r (tCons ta tNil)) σ H z := fun H1 e Q q =>
  h H1 e _ fun p H2 _ e2 hn => hr p H2 (e.trans e2) hn H2 (Ex.refl _) Q fun H3 e3 => q H3 (e2.trans e3)
/-! statements -/
variable {D : Ends} {tz tu tw : TS} {g : TG}
theorem q_asgN {i : Nat} {N : Addr → Hp → Prop} (h : EvN te σ H N) (k : ∀ p H1, H p = none → Ex H H1 → N p H1 → tz D (σ.set i (some (.ref p))) H1) : tSeq (tAsg te (gName i)) tz D σ H := h H (Ex.refl H) _ fun p H1 hp e hn => k p H1 hp e hn
theorem s_retN {N : Addr → Hp → Prop} (h : EvN te σ H N) (k : ∀ p H1, H p = none → Ex H H1 → N p H1 → D.rt (.ref p) H1) : tRet te D σ H := h H (Ex.refl H) _ k
end
end Cw
set_option Elab.async false
set_option linter.all false
set_option maxRecDepth 100000
set_option maxHeartbeats 4000000
namespace Cw
open PySem PySem.Spec PyProof.Rows L2 Evl
/-- a def of the text as it stands behind the top -/
def Df (K : PySem.W.Frag) (mg : Str → Option Value) (x : Str) (st : Stmt) : Prop :=
  ∃ fd, FunD K x x (defArgs st) (defBody st) (defScope st) [] [] (He.ga K x) fd ∧ mg x = some (.ref (He.ga K x))
/-- a def and what it promises -/
def Kp (P : Program) (w : World) (K : PySem.W.Frag) (mg : Str → Option Value) (base : Heap) (k : Nat) (x : Str) (ps : List Str) (sp : Sp) : Prop :=
  ∃ fd, FnOk P w K mg base CX0 k (He.ga K x) fd ps sp ∧ Binds K fd ps [] ∧ PySem.W.keepIn K (.ref (He.ga K x)) = true ∧ mg x = some (.ref (He.ga K x))
section
variable {P : Program} {w : World} {K : PySem.W.Frag} {mg : Str → Option Value} {base : Heap}
theorem kp_of {x : Str} {st : Stmt} {N ps : List Str} {k : Nat} {sp : Sp} (D : Df K mg x st) (S : FnScope N ps (defScope st))
    (hb : ∀ (kV doc pm : Value) (an : Option Addr) (cdv ct : Value) (us : List Value), us.length = ps.length → bindArgs (PySem.W.fnOf x x (defArgs st) (defBody st) (defScope st) .none kV doc pm an cdv ct) ⟨us, []⟩ = pure (ps.zip us))
    (len : ∀ vs H Q E, sp vs H Q E → vs.length = ps.length)
    (body : ∀ (cdv : Value) (A : Around) (outer : List Env) (s : Shared) (H : Hp) (vs : List V) (Q : VK) (E : XK), Room k (A.deeper (envOfC x (defScope st) s.heap.objs.size (He.ga K x) cdv)) → sp vs H Q E →
      ∃ t, PSs (cxOf CX0 P w K mg base N x (defScope st) (He.ga K x) cdv A outer s H E).nox (defBody st) t ∧ t { nx := fun _ H' => Q .non H', rt := Q } (start N vs) H) :
    Kp P w K mg base (k + 1) x ps sp := by
  obtain ⟨fd, F, g⟩ := D
  refine ⟨fd, F.ok S len fun cdv A outer s H vs Q E hr hsp => ?_, F.bindsN hb, F.kp, g⟩
  obtain ⟨t, ht, hq⟩ := body cdv A outer s H vs Q E hr hsp
  exact ⟨t, ht.nox, hq⟩
theorem Kp.up {j k : Nat} {x : Str} {ps : List Str} {sp : Sp} (h : Kp P w K mg base j x ps sp) (l : j ≤ k) : Kp P w K mg base k x ps sp := by
  obtain ⟨fd, F, b, kp, g⟩ := h
  exact ⟨fd, F.mono l, b, kp, g⟩
end
/-- the call of such a def -/
theorem pe_k {X : Cx} {k : Nat} {x : Str} {ps : List Str} {sp : Sp} {e : Expr} {es : List Expr} {t : TA} {p pos : Pos} (h : Kp X.prog X.w X.K X.mg X.base k x ps sp) (hr : Room k X.A) (ha : PA X (e :: es) t) (hg : Gl X x := by rfl)
    (hdb : (x == ("__debug__" : Str)) = false := by decide)
    (he : starEach (e :: es) X.env = (false, eval e X.env) :: starEach es X.env := by rfl) (hpl : (backTo pos (starEach es X.env)).any (·.1) = false := by rfl) :
    PE X (.Call (.Name x p) (e :: es) [] pos) (tCall sp [] E0 t) := by
  obtain ⟨fd, F, b, kp, g⟩ := h
  exact pe_call F hr hg g kp b .nil pass0 ha hdb he hpl
/-- built-in names of the module stand for the built-ins -/
structure Bt (mg : Str → Option Value) : Prop where
  isinstance : mg "isinstance" = none
  int : mg "int" = none
  bool : mg "bool" = none
  list : mg "list" = none
  tuple : mg "tuple" = none
  str : mg "str" = none
  dict : mg "dict" = none
  all : mg "all" = none
  any : mg "any" = none
  len : mg "len" = none
  range : mg "range" = none
  enumerate : mg "enumerate" = none
  sorted : mg "sorted" = none
  set : mg "set" = none
  divmod : mg "divmod" = none
  min : mg "min" = none
  max : mg "max" = none
  abs : mg "abs" = none
  sum : mg "sum" = none
  repr : mg "repr" = none
section
variable {X : Cx} {e : Expr} {te : TE}
/-- isinstance(e, T), T a built-in type -/
theorem pe_isi {T : String} {x : Str} {p q pos : Pos} (he : PE X e te) (hm : X.mg "isinstance" = none) (hx : X.mg x = none) (hv : bootBuiltins x = some (.type T) := by decide +kernel) (hg : Gl X "isinstance" := by rfl) (hg2 : Gl X x := by rfl)
    (hn : x ≠ "__name__" := by decide) (hdb : (x == ("__debug__" : Str)) = false := by decide)
    (s1 : starEach [e, .Name x q] X.env = (false, eval e X.env) :: starEach [.Name x q] X.env := by rfl) (s2 : (backTo pos (starEach [.Name x q] X.env)).any (·.1) = false := by rfl) (s3 : starEach [.Name x q] X.env = (false, eval (.Name x q) X.env) :: starEach [] X.env := by rfl) :
    PE X (.Call (.Name "isinstance" p) [e, .Name x q] [] pos) (tCB (rIsi X.K) (tCons te (tCons (tC (.ty T)) tNil))) :=
  pe_callB call_isi hg hm (by decide +kernel) (pa_cons he (pa_cons (pe_bltn hg2 hx hv rfl hn hdb) pa_nil s3) s1) (by decide) (by decide) s1 s2
theorem ev_isi {K : PySem.W.Frag} {σ : L2.St} {H : Hp} {x : V} {t : Value} {T : String} {b : Bool} (h : Ev te σ H x) (ht : ∀ H', Ex H H' → TyX K H' x t) (hk : PySem.W.kitOne K t (.type T) = some b) : Ev (tCB (rIsi K) (tCons te (tCons (tC (.ty T)) tNil))) σ H (.bl b) :=
  fun H1 e1 Q q => h H1 e1 _ fun H2 e2 => ⟨x, .ty T, t, .type T, b, rfl, .ty T, ht H2 (e1.trans e2), hk, q H2 e2⟩
end
/-- the constants of the text -/
structure Gv (K : PySem.W.Frag) (mg : Str → Option Value) : Prop where
  mostW : ∃ t, mg "MOST_WIDTH" = some (.int 100 t)
  mostF : ∃ t, mg "MOST_FREE" = some (.int 20 t)
  letters : ∃ t, mg "LETTERS" = some (.str "abcdefghijklmnopqrstuvwxyz" t)
  longest : ∃ t, mg "LONGEST_NAME" = some (.int 6 t)
  home : ∃ t, mg "HOME" = some (.str "home" t)
  hole : ∃ t, mg "HOLE" = some (.str "hole" t)
  kept : mg "KEPT_WORDS" = some (.ref (He.ga K "KEPT_WORDS"))
  keptT : ∀ H, SqT K H (He.ga K "KEPT_WORDS") [.str "home", .str "hole", .str "ring", .str "all", .str "none"]
section
variable {P : Program} {w : World} {K : PySem.W.Frag} {mg : Str → Option Value} {base : Heap}
def spIsInt : Sp := fun vs H Q _ => ∃ i : Int, vs = [.int i] ∧ RetV (.bl true) H Q
theorem kp_is_integer (B : Bt mg) (D : Df K mg "is_integer" s_is_integer) : Kp P w K mg base 1 "is_integer" ["value"] spIsInt := by
  refine kp_of D sc_is_integer (fun _ _ _ _ _ _ us hl => match us, hl with | [_], _ => rfl) (fun vs H Q E h => ?_) (fun cdv A outer s H vs Q E hr h => ?_)
  · obtain ⟨i, rfl, _⟩ := h
    rfl
  · obtain ⟨i, rfl, q⟩ := h
    refine ⟨_, pss_one (ps_ret (pe_and (pe_isi (T := "int") (pv 0) B.isinstance B.int) (pe_one (pe_not (pe_isi (T := "bool") (pv 0) B.isinstance B.bool))))), ?_⟩
    exact s_ret (v := .bl true) (ev_andV (a := true) (b := true) (ev_isi (ev_var rfl) (fun _ _ => .base (.int i)) (kit_ty (by decide +kernel))) fun _ => ev_notV (a := false) (ev_isi (ev_var rfl) (fun _ _ => .base (.int i)) (kit_ty (by decide +kernel)))) fun H1 e => q H1 e
/-- a list or a tuple that is tracked -/
def LT (H : Hp) (a : Addr) (xs : List V) : Prop := H a = some (.lst xs) ∨ H a = some (.tup xs)
theorem LT.ex {H H' : Hp} {a : Addr} {xs : List V} (e : Ex H H') (h : LT H a xs) : LT H' a xs := h.imp (e _ _) (e _ _)
def spIsList : Sp := fun vs H Q _ => ∃ a xs, vs = [.ref a] ∧ LT H a xs ∧ RetV (.bl true) H Q
theorem kp_is_list (B : Bt mg) (D : Df K mg "is_list" s_is_list) : Kp P w K mg base 1 "is_list" ["value"] spIsList := by
  refine kp_of D sc_is_list (fun _ _ _ _ _ _ us hl => match us, hl with | [_], _ => rfl) (fun vs H Q E h => ?_) (fun cdv A outer s H vs Q E hr h => ?_)
  · obtain ⟨i, xs, rfl, _⟩ := h
    rfl
  · obtain ⟨a, xs, rfl, ha, q⟩ := h
    refine ⟨_, pss_one (ps_ret (pe_callB call_isiT (by rfl) B.isinstance (by decide +kernel) (pa_cons (pv 0) (pa_cons (pe_tup (pa_cons (pe_bltn (v := .ty "list") (by rfl) B.list (by decide +kernel) rfl) (pa_cons (pe_bltn (v := .ty "tuple") (by rfl) B.tuple (by decide +kernel) rfl) pa_nil))) pa_nil)))), ?_⟩
    refine ⟨_, rfl, by decide, fun p hp => ?_⟩
    have eH : Ex H (upd H p (.tup [.ty "list", .ty "tuple"])) := Ex.new hp
    rcases ha with ha | ha
    · exact ⟨.ref a, p, _, .type "list", [.type "list", .type "tuple"], true, rfl, upd_same, .cons (.ty _) (.cons (.ty _) .nil), .base (.lst (eH _ _ ha)), kitAny_cons (kit_ty (r := true) (by decide +kernel)) (fun z => nomatch z) fun _ => rfl, q _ eH⟩
    · exact ⟨.ref a, p, _, .type "tuple", [.type "list", .type "tuple"], true, rfl, upd_same, .cons (.ty _) (.cons (.ty _) .nil), .base (.tup (eH _ _ ha)), kitAny_cons (kit_ty (r := false) (by decide +kernel)) (fun _ => kitAny_cons (kit_ty (r := true) (by decide +kernel)) (fun z => nomatch z) fun _ => rfl) (fun z => nomatch z), q _ eH⟩
def spIsWidth : Sp := fun vs H Q _ => ∃ n : Nat, vs = [.int (n : Int)] ∧ (1 ≤ n ∧ n ≤ 100) ∧ RetV (.bl true) H Q
theorem kp_is_width (G : Gv K mg) (D : Df K mg "is_width" s_is_width) (k1 : Kp P w K mg base 1 "is_integer" ["value"] spIsInt) : Kp P w K mg base 2 "is_width" ["value"] spIsWidth := by
  refine kp_of D sc_is_width (fun _ _ _ _ _ _ us hl => match us, hl with | [_], _ => rfl) (fun vs H Q E h => ?_) (fun cdv A outer s H vs Q E hr h => ?_)
  · obtain ⟨i, rfl, _⟩ := h
    rfl
  · obtain ⟨n, rfl, hn, q⟩ := h
    obtain ⟨t, g⟩ := G.mostW
    refine ⟨_, pss_one (ps_ret (pe_and (pe_k k1 hr (pa_cons (pv 0) pa_nil)) (pe_one (pe_chain op_le op_le pe_int (pv 0) (pe_glob (v := .int 100) (by rfl) g ⟨t, rfl⟩))))), ?_⟩
    refine s_ret (v := .bl true) (ev_andV (a := true) (b := true) (ev_call0 (ea_cons (ev_var rfl) ea_nil) fun H1 e Q q E => ⟨_, rfl, fun H2 e2 => q H2 e2⟩) fun _ => ?_) fun H1 e => q H1 e
    refine ev_is (ev_chain (a := decide ((1 : Int) ≤ n)) (b := decide ((n : Int) ≤ 100)) ev_c (ev_var rfl) rv_I0 (fun _ => ev_c) fun _ => rv_I0) ?_
    have h1 : (1 : Int) ≤ n := by omega
    have h2 : (n : Int) ≤ 100 := by omega
    rw [decide_eq_true h1, decide_eq_true h2] <;> rfl
def spIsBits : Sp := fun vs H Q _ => ∃ l : List Bool, vs = [.str (bS l)] ∧ l.length ≤ 1000 ∧ RetV (.bl true) H Q
theorem all_true (n : Nat) : (((List.range n).map fun _ => true).all id) = true := by simp
theorem kp_is_bits (B : Bt mg) (D : Df K mg "is_bits" s_is_bits) : Kp P w K mg base 1 "is_bits" ["value"] spIsBits := by
  refine kp_of D sc_is_bits (fun _ _ _ _ _ _ us hl => match us, hl with | [_], _ => rfl) (fun vs H Q E h => ?_) (fun cdv A outer s H vs Q E hr h => ?_)
  · obtain ⟨i, rfl, _⟩ := h
    rfl
  · obtain ⟨l, rfl, hl, q⟩ := h
    refine ⟨_, pss_one (ps_ret (pe_and (pe_isi (T := "str") (pv 0) B.isinstance B.str) (pe_one (pe_callB (cr_all rfl) (by rfl) B.all (by decide +kernel) (pa_cons
      (pe_lc (own := [("sign", 1)]) (g := gName 1) (by rfl) sc_is_bits.nd (pi_str (pv 0)) (blkOk_by (N := ["value", "sign"]) (sc := defScope s_is_bits) (by decide +kernel)) (fun _ _ _ _ _ => pg_name (i := 1) sc_is_bits.nd rfl (Or.inl rfl)) (fun _ _ _ _ _ => pts_nil)
        (fun _ _ _ _ _ => pe_cmpR (op_inK (K := K) rfl) (pv 1) (pe_tup (pa_cons pe_str (pa_cons pe_str pa_nil))) (by rfl))) pa_nil))))), ?_⟩
    refine s_ret (v := .bl true) (ev_andV (a := true) (b := true) (ev_isi (ev_var rfl) (fun _ _ => .base (.str _)) (kit_ty (by decide +kernel))) fun _ => ?_) fun H1 e => q H1 e
    refine ev_cbN (en_l (el_lcV (ei_str (ev_var rfl)) (by rw [bS_size]; omega) (fun _ => .bl true) fun i x H1 hi e hx => ?_)) fun p H1 e h1 H2 e2 Q q => ⟨p, (List.range (bS l).cps.size).map fun _ => true, rfl, ?_, ?_⟩
    · obtain ⟨c, hc, rfl⟩ := hx
      refine ⟨_, ?_, eg_name, ?_⟩
      · rfl
      · refine ev_is (ev_inU (K := K) (ev_var rfl) (eu_tup (ea_cons ev_c (ea_cons ev_c ea_nil)) (by decide)) rfl rfl) ?_
        rw [bS_at] at hc
        cases hb : l[i]? with
        | none =>
          rw [hb] at hc
          cases hc
        | some b =>
          rw [hb] at hc
          cases hc
          cases b <;> rfl
    · rw [List.map_map]
      exact ex_l e2 (sq_of h1)
    · rw [all_true]
      exact q _ (Ex.refl _)
end
end Cw
set_option Elab.async false
set_option linter.all false
set_option maxRecDepth 100000
set_option maxHeartbeats 4000000
namespace Cw
open PySem PySem.Spec PyProof.Rows L2 Evl
/-! ### names and goals -/
def keptL : List Str := ["home", "hole", "ring", "all", "none"]
/-- small letters, one to six -/
def Letters (z : Str) : Prop := (∀ c ∈ z.cps.toList, 97 ≤ c ∧ c ≤ 122) ∧ 1 ≤ z.length ∧ z.length ≤ 6
def GoalOk (z : Str) : Prop := Letters z ∧ z ≠ "ring" ∧ z ≠ "all" ∧ z ≠ "none"
theorem letter_in (c : Nat) (h : 97 ≤ c ∧ c ≤ 122) : decide (c ∈ (Str.ofString "abcdefghijklmnopqrstuvwxyz").cps.toList) = true := by
  have key : (List.range 26).all (fun k => decide (97 + k ∈ (Str.ofString "abcdefghijklmnopqrstuvwxyz").cps.toList)) = true := by decide +kernel
  have := List.all_eq_true.mp key (c - 97) (List.mem_range.mpr (by omega))
  rw [show 97 + (c - 97) = c by omega] at this
  exact this
section
variable {P : Program} {w : World} {K : PySem.W.Frag} {mg : Str → Option Value} {base : Heap}
def spIsName : Sp := fun vs H Q _ => ∃ z : Str, vs = [.str z] ∧ Letters z ∧ RetV (.bl (!decide (z ∈ keptL))) H Q
theorem inV_kept (z : Str) : inV (.str z) [.str "home", .str "hole", .str "ring", .str "all", .str "none"] = decide (z ∈ keptL) := by
  unfold inV keptL
  simp only [List.any_cons, List.any_nil, eqV, Bool.or_false]
  rw [Bool.eq_iff_iff]
  simp only [Bool.or_eq_true, beq_iff_eq, decide_eq_true_eq, List.mem_cons, List.not_mem_nil, or_false]
  constructor
  · rintro (h | h | h | h | h) <;> simp [h]
  · rintro (h | h | h | h | h) <;> simp [h]
theorem kp_is_name (B : Bt mg) (G : Gv K mg) (D : Df K mg "is_name" s_is_name) : Kp P w K mg base 1 "is_name" ["value"] spIsName := by
  refine kp_of D sc_is_name (fun _ _ _ _ _ _ us hl => match us, hl with | [_], _ => rfl) (fun vs H Q E h => ?_) (fun cdv A outer s H vs Q E hr h => ?_)
  · obtain ⟨i, rfl, _⟩ := h
    rfl
  · obtain ⟨z, rfl, ⟨hz, hz1, hz2⟩, q⟩ := h
    obtain ⟨t6, g6⟩ := G.longest
    obtain ⟨tl, gl⟩ := G.letters
    refine ⟨_, pss_cons (ps_if (PW.pt (pw_or (pt_not (pt_val (pe_isi (T := "str") (pv 0) B.isinstance B.str))) (pw_or1 (pt_not (pt_chain op_le op_le pe_int (pe_callB cr_lenT (by rfl) B.len boot_len (pa_cons (pv 0) pa_nil)) (pe_glob (v := .int 6) (by rfl) g6 ⟨t6, rfl⟩)))))) (pss_one ps_never) pss_nil)
      (pss_one (ps_ret (pe_and (pe_callB (cr_all rfl) (by rfl) B.all (by decide +kernel) (pa_cons
        (pe_lc (own := [("sign", 1)]) (g := gName 1) (by rfl) sc_is_name.nd (pi_str (pv 0)) (blkOk_by (N := ["value", "sign"]) (sc := defScope s_is_name) (by decide +kernel)) (fun _ _ _ _ _ => pg_name (i := 1) sc_is_name.nd rfl (Or.inl rfl)) (fun _ _ _ _ _ => pts_nil)
          (fun _ _ _ _ _ => pe_cmpR op_inS (pv 1) (pe_glob (v := .str "abcdefghijklmnopqrstuvwxyz") (by rfl) gl ⟨tl, rfl⟩) (by rfl))) pa_nil))
        (pe_one (pe_cmpR op_notIn_seq (pv 0) (pe_glob (v := .ref (He.ga K "KEPT_WORDS")) (by rfl) G.kept rfl) (by rfl)))))), ?_⟩
    have hlen : z.cps.size = z.length := rfl
    refine q_when (b := false) (et_is (et_or (a := false) (b := false) (et_not (a := true) (et_B (ev_isi (ev_var rfl) (fun _ _ => .base (.str _)) (kit_ty (by decide +kernel))))) fun _ => et_not (a := true) (et_test ?_)) rfl) (fun z => nomatch z) (fun _ H1 e1 => ?_)
    · refine ev_is (ev_chain (a := decide ((1 : Int) ≤ z.length)) (b := decide ((z.length : Int) ≤ 6)) ev_c (ev_cb (ea_cons (ev_var rfl) ea_nil) (rc_lenT (by omega))) rv_I0 (fun _ => ev_c) fun _ => rv_I0) ?_
      have h1 : (1 : Int) ≤ z.length := by omega
      have h2 : (z.length : Int) ≤ 6 := by omega
      rw [decide_eq_true h1, decide_eq_true h2] <;> rfl
    · refine s_ret (v := .bl (!decide (z ∈ keptL))) (ev_is (ev_andV (a := true) (b := !decide (z ∈ keptL)) ?_ fun _ => ?_) (by rw [Bool.true_and])) fun H2 e2 => q H2 (e1.trans e2)
      · refine ev_cbN (en_l (el_lcV (ei_str (ev_var rfl)) (by omega) (fun _ => .bl true) fun i x H2 hi e hx => ?_)) fun p H2 e h1 H3 e3 Q q => ⟨p, (List.range z.cps.size).map fun _ => true, rfl, ?_, ?_⟩
        · obtain ⟨c, hc, rfl⟩ := hx
          refine ⟨_, ?_, eg_name, ?_⟩
          · rfl
          refine ev_op (ev_var rfl) ev_c (fun H3 e3 Q q => ⟨c, _, rfl, rfl, ?_⟩)
          have hm : c ∈ z.cps.toList := by
            rw [← Array.getElem?_toList] at hc
            exact List.mem_of_getElem? hc
          rw [letter_in c (hz c hm)]
          exact q _ (Ex.refl _)
        · rw [List.map_map]
          exact ex_l e3 (sq_of h1)
        · rw [all_true]
          exact q _ (Ex.refl _)
      · refine ev_is (ev_op (ev_var rfl) ev_c (rv_niT (G.keptT _) rfl rfl)) ?_
        rw [inV_kept]
def spIsGoal : Sp := fun vs H Q _ => ∃ z : Str, vs = [.str z] ∧ GoalOk z ∧ RetV (.bl true) H Q
theorem kp_is_goal (B : Bt mg) (G : Gv K mg) (D : Df K mg "is_goal" s_is_goal) (k1 : Kp P w K mg base 1 "is_name" ["value"] spIsName) : Kp P w K mg base 2 "is_goal" ["value"] spIsGoal := by
  refine kp_of D sc_is_goal (fun _ _ _ _ _ _ us hl => match us, hl with | [_], _ => rfl) (fun vs H Q E h => ?_) (fun cdv A outer s H vs Q E hr h => ?_)
  · obtain ⟨i, rfl, _⟩ := h
    rfl
  · obtain ⟨z, rfl, ⟨hL, hr1, hr2, hr3⟩, q⟩ := h
    obtain ⟨th, gh⟩ := G.home
    obtain ⟨to, go⟩ := G.hole
    refine ⟨_, pss_one (ps_ret (pe_or (pe_k k1 hr (pa_cons (pv 0) pa_nil)) (pe_one (pe_and (pe_isi (T := "str") (pv 0) B.isinstance B.str)
      (pe_one (pe_cmpR op_in_seq (pv 0) (pe_tup (pa_cons (pe_glob (v := .str "home") (by rfl) gh ⟨th, rfl⟩) (pa_cons (pe_glob (v := .str "hole") (by rfl) go ⟨to, rfl⟩) pa_nil))) (by rfl))))))), ?_⟩
    refine s_ret (v := .bl true) (ev_is (ev_orV (a := !decide (z ∈ keptL)) (b := true) (ev_call0 (ea_cons (ev_var rfl) ea_nil) fun H1 e Q q E => ⟨_, rfl, hL, fun H2 e2 => q H2 e2⟩) fun hk => ?_) (by rw [Bool.or_true])) fun H1 e => q H1 e
    refine ev_andV (a := true) (b := true) (ev_isi (ev_var rfl) (fun _ _ => .base (.str _)) (kit_ty (by decide +kernel))) fun _ => ?_
    refine ev_is (ev_inU (K := K) (ev_var rfl) (eu_tup (ea_cons ev_c (ea_cons ev_c ea_nil)) (by decide)) rfl rfl) ?_
    have hm : z ∈ keptL := by
      cases hd : decide (z ∈ keptL) with
      | true => exact of_decide_eq_true hd
      | false =>
        rw [hd] at hk
        cases hk
    have hz : z = "home" ∨ z = "hole" := by
      unfold keptL at hm
      simp only [List.mem_cons, List.not_mem_nil, or_false] at hm
      rcases hm with h | h | h | h | h
      · exact .inl h
      · exact .inr h
      · exact absurd h hr1
      · exact absurd h hr2
      · exact absurd h hr3
    rcases hz with h | h <;> subst h <;> decide +kernel
/-! ### addresses and stretches -/
def spIsAddr : Sp := fun vs H Q _ => ∃ (n : Nat) (l : List Bool), vs = [.int (n : Int), .str (bS l)] ∧ (1 ≤ n ∧ n ≤ 100) ∧ l.length = n ∧ RetV (.bl true) H Q
def spIsStr : Sp := fun vs H Q _ => ∃ (n : Nat) (l : List Bool), vs = [.int (n : Int), .str (bS l)] ∧ (1 ≤ n ∧ n ≤ 100) ∧ l.length ≤ n ∧ RetV (.bl true) H Q
def spWantW : Sp := fun vs H Q _ => ∃ n : Nat, vs = [.int (n : Int)] ∧ (1 ≤ n ∧ n ≤ 100) ∧ RetV .non H Q
def spWantA : Sp := fun vs H Q _ => ∃ (n : Nat) (l : List Bool), vs = [.int (n : Int), .str (bS l)] ∧ (1 ≤ n ∧ n ≤ 100) ∧ l.length = n ∧ RetV .non H Q
def spWantG : Sp := fun vs H Q _ => ∃ z : Str, vs = [.str z] ∧ GoalOk z ∧ RetV .non H Q
theorem kp_want_width (D : Df K mg "want_width" s_want_width) (k1 : Kp P w K mg base 2 "is_width" ["value"] spIsWidth) : Kp P w K mg base 3 "want_width" ["width"] spWantW := by
  refine kp_of D sc_want_width (fun _ _ _ _ _ _ us hl => match us, hl with | [_], _ => rfl) (fun vs H Q E h => ?_) (fun cdv A outer s H vs Q E hr h => ?_)
  · obtain ⟨i, rfl, _⟩ := h
    rfl
  · obtain ⟨n, rfl, hn, q⟩ := h
    refine ⟨_, pss_one (ps_if (pt_not (pt_val (pe_k k1 hr (pa_cons (pv 0) pa_nil)))) (pss_one ps_never) pss_nil), ?_⟩
    exact s_when (b := false) (et_not (a := true) (et_B (ev_call0 (ea_cons (ev_var rfl) ea_nil) fun H1 e Q q E => ⟨n, rfl, hn, fun H2 e2 => q H2 e2⟩))) (fun z => nomatch z) fun _ H1 e => q H1 e
theorem kp_is_address (B : Bt mg) (D : Df K mg "is_address" s_is_address) (k1 : Kp P w K mg base 3 "want_width" ["width"] spWantW) (k2 : Kp P w K mg base 1 "is_bits" ["value"] spIsBits) : Kp P w K mg base 4 "is_address" ["width", "value"] spIsAddr := by
  refine kp_of D sc_is_address (fun _ _ _ _ _ _ us hl => match us, hl with | [_, _], _ => rfl) (fun vs H Q E h => ?_) (fun cdv A outer s H vs Q E hr h => ?_)
  · obtain ⟨i, l, rfl, _⟩ := h
    rfl
  · obtain ⟨n, l, rfl, hn, hl, q⟩ := h
    refine ⟨_, pss_cons (ps_expr (pe_k k1 hr (pa_cons (pv 0) pa_nil))) (pss_one (ps_ret (pe_and (pe_k k2 (hr.mono (by decide)) (pa_cons (pv 1) pa_nil)) (pe_one (pe_cmpR op_eq (pe_callB cr_lenT (by rfl) B.len boot_len (pa_cons (pv 1) pa_nil)) (pv 0) (nomark _)))))), ?_⟩
    refine q_drop (v := .non) (ev_call0 (ea_cons (ev_var rfl) ea_nil) fun H1 e Q q E => ⟨n, rfl, hn, fun H2 e2 => q H2 e2⟩) fun H1 e1 => ?_
    refine s_ret (v := .bl true) (ev_andV (a := true) (b := true) (ev_call0 (ea_cons (ev_var rfl) ea_nil) fun H1 e Q q E => ⟨l, rfl, by omega, fun H2 e2 => q H2 e2⟩) fun _ => ?_) fun H2 e2 => q H2 (e1.trans e2)
    refine ev_is (ev_op (ev_cb (ea_cons (ev_var rfl) ea_nil) (rc_lenT (by rw [bS_len]; omega))) (ev_var rfl) (rv_eq rfl)) ?_
    rw [bS_len, hl, decide_eq_true rfl]
theorem kp_is_stretch (B : Bt mg) (D : Df K mg "is_stretch" s_is_stretch) (k1 : Kp P w K mg base 3 "want_width" ["width"] spWantW) (k2 : Kp P w K mg base 1 "is_bits" ["value"] spIsBits) : Kp P w K mg base 4 "is_stretch" ["width", "value"] spIsStr := by
  refine kp_of D sc_is_stretch (fun _ _ _ _ _ _ us hl => match us, hl with | [_, _], _ => rfl) (fun vs H Q E h => ?_) (fun cdv A outer s H vs Q E hr h => ?_)
  · obtain ⟨i, l, rfl, _⟩ := h
    rfl
  · obtain ⟨n, l, rfl, hn, hl, q⟩ := h
    refine ⟨_, pss_cons (ps_expr (pe_k k1 hr (pa_cons (pv 0) pa_nil))) (pss_one (ps_ret (pe_and (pe_k k2 (hr.mono (by decide)) (pa_cons (pv 1) pa_nil)) (pe_one (pe_cmpR op_le (pe_callB cr_lenT (by rfl) B.len boot_len (pa_cons (pv 1) pa_nil)) (pv 0) (nomark _)))))), ?_⟩
    refine q_drop (v := .non) (ev_call0 (ea_cons (ev_var rfl) ea_nil) fun H1 e Q q E => ⟨n, rfl, hn, fun H2 e2 => q H2 e2⟩) fun H1 e1 => ?_
    refine s_ret (v := .bl true) (ev_andV (a := true) (b := true) (ev_call0 (ea_cons (ev_var rfl) ea_nil) fun H1 e Q q E => ⟨l, rfl, by omega, fun H2 e2 => q H2 e2⟩) fun _ => ?_) fun H2 e2 => q H2 (e1.trans e2)
    refine ev_is (ev_op (ev_cb (ea_cons (ev_var rfl) ea_nil) (rc_lenT (by rw [bS_len]; omega))) (ev_var rfl) rv_I0) ?_
    have h1 : ((bS l).length : Int) ≤ n := by rw [bS_len]; omega
    show V.bl (decide (((bS l).length : Int) ≤ (n : Int))) = _
    rw [decide_eq_true h1]
theorem kp_want_address (D : Df K mg "want_address" s_want_address) (k1 : Kp P w K mg base 4 "is_address" ["width", "value"] spIsAddr) : Kp P w K mg base 5 "want_address" ["width", "value"] spWantA := by
  refine kp_of D sc_want_address (fun _ _ _ _ _ _ us hl => match us, hl with | [_, _], _ => rfl) (fun vs H Q E h => ?_) (fun cdv A outer s H vs Q E hr h => ?_)
  · obtain ⟨i, l, rfl, _⟩ := h
    rfl
  · obtain ⟨n, l, rfl, hn, hl, q⟩ := h
    refine ⟨_, pss_one (ps_if (pt_not (pt_val (pe_k k1 hr (pa_cons (pv 0) (pa_cons (pv 1) pa_nil))))) (pss_one ps_never) pss_nil), ?_⟩
    exact s_when (b := false) (et_not (a := true) (et_B (ev_call0 (ea_cons (ev_var rfl) (ea_cons (ev_var rfl) ea_nil)) fun H1 e Q q E => ⟨n, l, rfl, hn, hl, fun H2 e2 => q H2 e2⟩))) (fun z => nomatch z) fun _ H1 e => q H1 e
theorem kp_want_goal (D : Df K mg "want_goal" s_want_goal) (k1 : Kp P w K mg base 2 "is_goal" ["value"] spIsGoal) : Kp P w K mg base 3 "want_goal" ["value"] spWantG := by
  refine kp_of D sc_want_goal (fun _ _ _ _ _ _ us hl => match us, hl with | [_], _ => rfl) (fun vs H Q E h => ?_) (fun cdv A outer s H vs Q E hr h => ?_)
  · obtain ⟨i, rfl, _⟩ := h
    rfl
  · obtain ⟨z, rfl, hn, q⟩ := h
    refine ⟨_, pss_one (ps_if (pt_not (pt_val (pe_k k1 hr (pa_cons (pv 0) pa_nil)))) (pss_one ps_never) pss_nil), ?_⟩
    exact s_when (b := false) (et_not (a := true) (et_B (ev_call0 (ea_cons (ev_var rfl) ea_nil) fun H1 e Q q E => ⟨z, rfl, hn, fun H2 e2 => q H2 e2⟩))) (fun z => nomatch z) fun _ H1 e => q H1 e
end
end Cw
set_option Elab.async false
set_option linter.all false
set_option maxRecDepth 100000
set_option maxHeartbeats 4000000
namespace Cw
open PySem PySem.Spec PyProof.Rows L2 Evl
/-- the number that bits tell -/
def valB (l : List Bool) : Nat := l.foldl (fun a b => 2 * a + b.toNat) 0
theorem valB_snoc (l : List Bool) (b : Bool) : valB (l ++ [b]) = 2 * valB l + b.toNat := by
  unfold valB
  rw [List.foldl_append] <;> rfl
theorem valB_lt (l : List Bool) : valB l < 2 ^ l.length := by
  have key : ∀ r : List Bool, valB r.reverse < 2 ^ r.length := fun r => by
    induction r with
    | nil => decide
    | cons b r ih =>
      rw [List.reverse_cons, valB_snoc, List.length_cons, Nat.pow_succ]
      cases b <;> simp <;> omega
  have := key l.reverse
  rw [List.reverse_reverse, List.length_reverse] at this
  exact this
/-- the bits of a number, the first one the highest -/
def numB : Nat → Nat → List Bool
  | 0, _ => []
  | i + 1, n => decide (n / 2 ^ i % 2 = 1) :: numB i n
theorem numB_len : ∀ (i n : Nat), (numB i n).length = i
  | 0, _ => rfl
  | i + 1, n => congrArg Nat.succ (numB_len i n)
def beginOf (n : Nat) (l : List Bool) : Nat := valB l * 2 ^ (n - l.length)
section
variable {P : Program} {w : World} {K : PySem.W.Frag} {mg : Str → Option Value} {base : Heap}
def spSizeOf : Sp := fun vs H Q _ => ∃ (n : Nat) (l : List Bool), vs = [.int (n : Int), .str (bS l)] ∧ (l.length ≤ n ∧ n ≤ 100) ∧ RetV (.int ((2 ^ (n - l.length) : Nat) : Int)) H Q
theorem kp_size_of (B : Bt mg) (D : Df K mg "size_of" s_size_of) : Kp P w K mg base 1 "size_of" ["width", "stretch"] spSizeOf := by
  refine kp_of D sc_size_of (fun _ _ _ _ _ _ us hl => match us, hl with | [_, _], _ => rfl) (fun vs H Q E h => ?_) (fun cdv A outer s H vs Q E hr h => ?_)
  · obtain ⟨i, l, rfl, _⟩ := h
    rfl
  · obtain ⟨n, l, rfl, hn, q⟩ := h
    refine ⟨_, pss_one (ps_ret (pe_op op_shl1 pe_int (pe_op op_sub (pv 0) (pe_callB cr_lenT (by rfl) B.len boot_len (pa_cons (pv 1) pa_nil))))), ?_⟩
    have e1 : ((n : Int) - ((bS l).length : Int)) = ((n - l.length : Nat) : Int) := by rw [bS_len]; omega
    refine s_ret (v := .int ((2 ^ (n - l.length) : Nat) : Int)) (ev_is (ev_op (y := .int ((n - l.length : Nat) : Int)) ev_c (ev_is (ev_op (ev_var rfl) (ev_cb (ea_cons (ev_var rfl) ea_nil) (rc_lenT (by rw [bS_len]; omega))) rv_I0) (congrArg V.int e1)) (rv_shl1 (by omega))) ?_) fun H1 e => q H1 e
    rw [Int.natCast_pow] <;> rfl
def spBeginOf : Sp := fun vs H Q _ => ∃ (n : Nat) (l : List Bool), vs = [.int (n : Int), .str (bS l)] ∧ (l.length ≤ n ∧ n ≤ 100) ∧ RetV (.int (beginOf n l : Nat)) H Q
theorem kp_begin_of (B : Bt mg) (D : Df K mg "begin_of" s_begin_of) (k1 : Kp P w K mg base 1 "size_of" ["width", "stretch"] spSizeOf) : Kp P w K mg base 2 "begin_of" ["width", "stretch"] spBeginOf := by
  refine kp_of D sc_begin_of (fun _ _ _ _ _ _ us hl => match us, hl with | [_, _], _ => rfl) (fun vs H Q E h => ?_) (fun cdv A outer s H vs Q E hr h => ?_)
  · obtain ⟨i, l, rfl, _⟩ := h
    rfl
  · obtain ⟨n, l, rfl, hn, q⟩ := h
    refine ⟨_, pss_cons (ps_set (i := 2) sc_begin_of.nd rfl (Or.inl rfl) pe_int)
      (pss_cons (ps_for PassesOwn.never rfl (pi_str (pv 1)) (pg_name (i := 3) sc_begin_of.nd rfl (Or.inl rfl))
        (pss_one (ps_set (i := 2) sc_begin_of.nd rfl (Or.inl rfl) (pe_op op_add (pe_op op_mul pe_int (pv 2)) (pe_callTy cr_int1 (by rfl) B.int boot_int (pa_cons (pe_cmpR op_eq (pv 3) pe_str (nomark _)) pa_nil))))))
      (pss_one (ps_ret (pe_op op_mul (pv 2) (pe_k k1 hr (pa_cons (pv 0) (pa_cons (pv 1) pa_nil))))))), ?_⟩
    refine q_asg ev_c fun H1 e1 => ?_
    refine ⟨_, rfl, _, rfl, for_it (walk_str (z := bS l)) (fun i σ H' => ∃ v, σ = [some (.int (n : Int)), some (.str (bS l)), some (.int (valB (l.take i) : Nat)), v] ∧ Ex H1 H') ⟨none, rfl, Ex.refl _⟩ (fun _ _ _ _ _ => trivial) ?_ ?_⟩
    · rintro i x σ Ha Hb hi ⟨v, rfl, e⟩ ⟨rfl, c, hc, rfl⟩
      rw [bS_at] at hc
      obtain ⟨b, hb, rfl⟩ := Option.map_eq_some_iff.mp hc
      have hlt : i < l.length := (List.getElem?_eq_some_iff.mp hb).1
      have hb' : l[i] = b := (List.getElem?_eq_some_iff.mp hb).2
      have ht : l.take (i + 1) = l.take i ++ [b] := by rw [List.take_succ_eq_append_getElem hlt, hb']
      refine s_asg (v := .int (valB (l.take (i + 1)) : Nat)) (ev_is (ev_op (ev_op ev_c (ev_var rfl) (rv_I (.inl ⟨by decide, by decide⟩))) (ev_cb (ea_cons (ev_op (ev_var rfl) ev_c (rv_eq rfl)) ea_nil) rc_intB) rv_I0) ?_) fun H2 e2 => ⟨_, rfl, e.trans e2⟩
      rw [ht, valB_snoc]
      cases b
      · exact congrArg V.int (show 2 * ((valB (l.take i) : Nat) : Int) + 0 = ((2 * valB (l.take i) + 0 : Nat) : Int) by omega)
      · exact congrArg V.int (show 2 * ((valB (l.take i) : Nat) : Int) + 1 = ((2 * valB (l.take i) + 1 : Nat) : Int) by omega)
    · rintro σ H' ⟨v, rfl, e⟩
      rw [bS_size, List.take_length]
      have h1 := valB_lt l
      have hc : CMul (valB l : Nat) ((2 ^ (n - l.length) : Nat) : Int) := by
        have hle : ∀ m : Nat, m ≤ 63 → 2 ^ m ≤ 2 ^ 63 := fun m hm => Nat.pow_le_pow_right (by decide) hm
        by_cases h50 : l.length ≤ 50
        · have h2 := hle l.length (by omega)
          generalize valB l = y at *
          have h3 := Nat.lt_of_lt_of_le h1 h2
          exact .inl ⟨by omega, by omega⟩
        · have h2 := hle (n - l.length) (by omega)
          generalize 2 ^ (n - l.length) = y at *
          exact .inr ⟨by omega, by omega⟩
      refine s_ret (v := .int (beginOf n l : Nat)) (ev_is (ev_op (ev_var rfl) (ev_call0 (ea_cons (ev_var rfl) (ea_cons (ev_var rfl) ea_nil)) fun H1 e Q q E => ⟨n, l, rfl, hn, fun H2 e2 => q H2 e2⟩) (rv_I hc)) ?_) fun H2 e2 => q H2 (e1.trans (e.trans e2))
      unfold beginOf
      rw [Int.natCast_mul]
def spAddrOf : Sp := fun vs H Q _ => ∃ (n m : Nat), vs = [.int (n : Int), .int (m : Int)] ∧ n ≤ 100 ∧ RetV (.str (bS (numB n m))) H Q
theorem toStr_bit (b : Bool) : (toString (if b then (1 : Int) else 0) : String) = if b then "1" else "0" := by cases b <;> decide +kernel
theorem kp_address_of (B : Bt mg) (D : Df K mg "address_of" s_address_of) : Kp P w K mg base 1 "address_of" ["width", "begin"] spAddrOf := by
  refine kp_of D sc_address_of (fun _ _ _ _ _ _ us hl => match us, hl with | [_, _], _ => rfl) (fun vs H Q E h => ?_) (fun cdv A outer s H vs Q E hr h => ?_)
  · obtain ⟨i, l, rfl, _⟩ := h
    rfl
  · obtain ⟨n, m, rfl, hn, q⟩ := h
    refine ⟨_, pss_cons (ps_par (i := 2) (j := 3) (by rfl) sc_address_of.nd rfl rfl (by decide) rfl rfl (pa_cons pe_str (pa_cons (pv 1) pa_nil)) (by rfl))
      (pss_cons (ps_for PassesOwn.never rfl (pi_range1 (by rfl) B.range (pa_cons (pv 0) pa_nil)) (pg_name (i := 4) sc_address_of.nd rfl (Or.inl rfl))
        (pss_cons (ps_asg (pe_callB cr_divmod (by rfl) B.divmod (by decide +kernel) (pa_cons (pv 3) (pa_cons pe_int pa_nil))) (pg_tup (by rfl) (pgs_cons (pg_name (i := 3) sc_address_of.nd rfl (.inl rfl)) (pgs_cons (pg_name (i := 5) sc_address_of.nd rfl (.inl rfl)) pgs_nil))))
          (pss_one (ps_set (i := 2) sc_address_of.nd rfl (Or.inl rfl) (pe_op op_catS (pe_callTy cr_strI (by rfl) B.str boot_str (pa_cons (pv 5) pa_nil)) (pv 2))))))
      (pss_one (ps_ret (pv 2)))), ?_⟩
    refine ⟨_, rfl, .str (bS []), .int (m : Int), by rw [← bS_nil], ?_⟩
    refine ⟨_, rfl, _, rfl, by omega, by omega, for_it (walk_range (lo := 0) (n := ((n : Nat) : Int).toNat)) (fun i σ H' => ∃ v5 v6, σ = [some (.int (n : Int)), some (.int (m : Int)), some (.str (bS (numB i m))), some (.int ((m / 2 ^ i : Nat) : Int)), v5, v6] ∧ Ex H H') ⟨none, none, ?_, Ex.refl _⟩ (fun _ _ _ _ _ => trivial) ?_ ?_⟩
    · rw [Nat.pow_zero, Nat.div_one] <;> rfl
    · rintro i x σ Ha Hb hi ⟨v5, v6, rfl, e⟩ ⟨rfl, rfl⟩
      rw [Int.toNat_natCast] at hi
      refine eu_divmod (ea_cons (ev_var rfl) (ea_cons ev_c ea_nil)) ⟨by decide, by decide⟩ _ (Ex.refl _) _ fun p H2 _ e2 hp => ?_
      refine ⟨p, _, rfl, st_of hp, rfl, _, _, rfl, _, _, rfl, rfl, ?_⟩
      have eb : ((m / 2 ^ i : Nat) : Int) % 2 = if decide (m / 2 ^ i % 2 = 1) then 1 else 0 := by
        by_cases hb : m / 2 ^ i % 2 = 1
        · rw [if_pos (by simpa using hb)]
          omega
        · rw [if_neg (by simpa using hb)]
          omega
      have ed : ((m / 2 ^ i : Nat) : Int) / 2 = ((m / 2 ^ (i + 1) : Nat) : Int) := by
        rw [Nat.pow_succ, ← Nat.div_div_eq_div_mul]
        omega
      rw [eb, ed]
      refine s_asg (v := .str (bS (numB (i + 1) m))) (ev_is (ev_op (ev_cb (ea_cons (ev_var rfl) ea_nil) (rc_strI ?_)) (ev_var rfl) (rv_catS ?_)) ?_) fun H3 e3 => ⟨_, _, rfl, e.trans (e2.trans e3)⟩
      · cases decide (m / 2 ^ i % 2 = 1) <;> decide
      · rw [bS_len, numB_len]
        cases decide (m / 2 ^ i % 2 = 1)
        · show (Str.ofString (toString (0 : Int))).length + i ≤ _
          have : (Str.ofString (toString (0 : Int))).length = 1 := by decide +kernel
          omega
        · show (Str.ofString (toString (1 : Int))).length + i ≤ _
          have : (Str.ofString (toString (1 : Int))).length = 1 := by decide +kernel
          omega
      · congr 1
        cases hb : decide (m / 2 ^ i % 2 = 1)
        · have e0 : Str.ofString (toString (0 : Int)) = bS [false] := by decide +kernel
          show Str.ofString (toString (0 : Int)) ++ bS (numB i m) = bS (decide (m / 2 ^ i % 2 = 1) :: numB i m)
          rw [e0, bS_app, hb] <;> rfl
        · have e0 : Str.ofString (toString (1 : Int)) = bS [true] := by decide +kernel
          show Str.ofString (toString (1 : Int)) ++ bS (numB i m) = bS (decide (m / 2 ^ i % 2 = 1) :: numB i m)
          rw [e0, bS_app, hb] <;> rfl
    · rintro σ H' ⟨v5, v6, rfl, e⟩
      rw [Int.toNat_natCast]
      exact s_ret (ev_var rfl) fun H2 e2 => q H2 (e.trans e2)
end
end Cw
set_option Elab.async false
set_option linter.all false
set_option maxRecDepth 100000
set_option maxHeartbeats 4000000
namespace Cw
open PySem PySem.Spec PyProof.Rows L2
/-! ### sets of texts that can be walked -/
def txOf (e : Int × Value) : Str := match e.2 with | .str k _ => k | _ => Str.empty
def IsTx (w : World) (e : Int × Value) : Prop := ∃ k t, e = (hashStr w k, Value.str k t)
/-- at a stands the set of the texts l -/
structure TxB (w : World) (es : Array (Int × Value)) (t : SetTable) (l : List Str) : Prop where
  txs : ∀ e ∈ es.toList, IsTx w e
  perm : (es.toList.map txOf).Perm l
  nd : l.Nodup
  few : es.size < scanBound
  fits : t.fits es.size = true
  ris : Ris t.place.toList
  led : w.params.followText "set-order" = true ∨ t.led = true
def TxR (w : World) (h : Heap) (a : Addr) (l : List Str) : Prop := ∃ o es ep t, h.get? a = some o ∧ o.ExactSet ∧ o.data = .set es ep t ∧ TxB w es t l
section
variable {P : Program} {w : World} {h h' : Heap} {a : Addr} {l : List Str}
theorem TxR.at (R : TxR w h a l) (k : ∀ o, h.get? a = some o → h'.get? a = some o) : TxR w h' a l := by
  obtain ⟨o, es, ep, t, ho, r⟩ := R
  exact ⟨o, es, ep, t, k o ho, r⟩
theorem tx_elems {es : List (Int × Value)} (g : ∀ e ∈ es, IsTx w e) : ElemsOf (PySem.strKind P w) es := fun e he => by
  obtain ⟨k, t, rfl⟩ := g e he
  exact ⟨⟨k, strKind_is P w k t, rfl⟩, rfl⟩
theorem tx_is {e : Int × Value} (g : IsTx w e) (k : Str) : (PySem.strKind P w).is k e.2 = true ↔ txOf e = k := by
  obtain ⟨k0, t, rfl⟩ := g
  show ((k0 == k) = true) ↔ k0 = k
  exact beq_iff_eq
theorem tx_mem {es : List (Int × Value)} (g : ∀ e ∈ es, IsTx w e) (k : Str) : k ∈ es.map txOf ↔ ∃ e ∈ es, (PySem.strKind P w).is k e.2 = true := by
  rw [List.mem_map]
  exact ⟨fun ⟨e, he, q⟩ => ⟨e, he, (tx_is (g e he) k).2 q⟩, fun ⟨e, he, q⟩ => ⟨e, he, (tx_is (g e he) k).1 q⟩⟩
theorem tx_laid {t : SetTable} (ho : h.get? a = some { cls := .type "set", dict := none, data := .set #[] 0 (.fresh 0 0 (!w.params.followText "set-order")) }) : TxR w h a [] :=
  ⟨_, #[], 0, _, ho, ⟨rfl, rfl, rfl⟩, rfl, fun e he => by simp at he, by simp, List.nodup_nil, by decide, rfl, List.Pairwise.nil, by
    show _ ∨ (!w.params.followText "set-order") = true
    cases w.params.followText "set-order" <;> simp⟩
end
/-- l with k -/
def addU (l : List Str) (k : Str) : List Str := if k ∈ l then l else l ++ [k]
def allU (xs : List Str) : List Str := xs.foldl addU []
theorem addU_nd {l : List Str} (h : l.Nodup) (k : Str) : (addU l k).Nodup := by
  unfold addU
  split
  · exact h
  · rename_i hk
    exact List.nodup_append.mpr ⟨h, by simp, fun a ha b hb e => hk (by rw [← List.mem_singleton.mp hb, ← e]; exact ha)⟩
theorem addU_mem {l : List Str} {k j : Str} : j ∈ addU l k ↔ j ∈ l ∨ j = k := by
  unfold addU
  split
  · rename_i hk
    exact ⟨.inl, fun z => z.elim id fun e => e ▸ hk⟩
  · rw [List.mem_append, List.mem_singleton]
theorem foldU {xs : List Str} : ∀ {l : List Str}, l.Nodup → (xs.foldl addU l).Nodup ∧ (∀ j, j ∈ xs.foldl addU l ↔ j ∈ l ∨ j ∈ xs) ∧ (xs.foldl addU l).length ≤ l.length + xs.length := by
  induction xs with
  | nil => exact fun h => ⟨h, fun j => by simp, by simp⟩
  | cons x xs ih =>
    intro l h
    obtain ⟨h1, h2, h3⟩ := ih (addU_nd h x)
    refine ⟨h1, fun j => ?_, ?_⟩
    · show j ∈ xs.foldl addU (addU l x) ↔ _
      rw [h2, addU_mem, List.mem_cons, or_assoc]
    · show (xs.foldl addU (addU l x)).length ≤ _
      have : (addU l x).length ≤ l.length + 1 := by
        unfold addU
        split <;> simp
      rw [List.length_cons]
      omega
section
variable {P : Program} {w : World} {A : Around} {E : Value → Shared → Prop} {s : Shared} {a : Addr} {l : List Str}
theorem tx_tail {g : Bool → Sem Unit} (hg : ∀ (b : Bool) (s₁ : Shared) (Q' : Unit → Shared → Prop), Q' () s₁ → wpAny (model P w) A (g b) Q' E s₁)
    {o : Obj} {es es1 : Array (Int × Value)} {ep : Nat} {t t2 : SetTable} {l' : List Str} (ho : s.heap.get? a = some o) (hex : o.ExactSet) (hd : o.data = .set es ep t) (B : TxB w es1 t2 l') {wasDummy : Bool} {R : Option Bool → Shared → Prop}
    (hR : ∀ h', Heap.SameBut a s.heap h' → TxR w h' a l' → R (some true) { s with heap := h' }) :
    wpAny (model P w) A (do
        storeSet a es1 t2
        if (!wasDummy && t2.tooFull) = true then do
            g (relayAll t2 es1 (SetTable.grown es1.size)).2.2
            storeSet a (relayAll t2 es1 (SetTable.grown es1.size)).1 (relayAll t2 es1 (SetTable.grown es1.size)).2.1
            pure (some true)
          else pure (some true)) R E s := by
  have big : ∀ {n : Nat}, n < scanBound → n ≤ sizeLine := fun h => fits_of_scanBound h
  refine wpAny_bind (wpAny_storeSet_of ho hd ?_ (big B.few))
  have once := store_at (es' := es1) (t' := t2) ho hd
  have but := Heap.SameBut.update s.heap a (Obj.putSet es1 t2)
  split
  · have p3 := relayAll_perm t2 es1 (SetTable.grown es1.size)
    have f3 := relayAll_fits t2 es1 (SetTable.grown es1.size)
    have r3 := relayAll_ris t2 es1 (SetTable.grown es1.size)
    have l3 := relayAll_led t2 es1 (SetTable.grown es1.size)
    generalize relayAll t2 es1 (SetTable.grown es1.size) = Z at p3 f3 r3 l3 ⊢
    obtain ⟨es2, t3, gave⟩ := Z
    have sz : es2.size = es1.size := by
      have := p3.length_eq
      simpa using this
    have few2 : es2.size < scanBound := sz ▸ B.few
    refine wpAny_bind (hg _ _ _ (wpAny_bind (wpAny_storeSet_of once rfl ?_ (big few2))))
    have twice := store_at (es' := es2) (t' := t3) once rfl
    exact wpAny_pure (hR _ (but.trans (Heap.SameBut.update _ a _)) ⟨_, es2, _, t3, twice, hex, rfl, fun e he => B.txs e (p3.mem_iff.mp he), (p3.map txOf).trans B.perm, B.nd, few2, f3, r3, B.led.imp id fun z => l3.trans z⟩)
  · exact wpAny_pure (hR _ but ⟨_, es1, _, t2, once, hex, rfl, B⟩)
theorem tx_add {k : Str} {tk : Tok} {Q : Bool → Shared → Prop} (R : TxR w s.heap a l) (room : l.length + 1 < scanBound)
    (hQ : ∀ b h', Heap.SameBut a s.heap h' → TxR w h' a (addU l k) → Q b { s with heap := h' }) :
    wpAny (model P w) A (setAddHashed a (.str k tk) ((PySem.strKind P w).hash k)) Q E s := by
  obtain ⟨o, es, ep, t, ho, hex, hd, B⟩ := R
  have hkey : (PySem.strKind P w).is k (.str k tk) = true := strKind_is P w k tk
  have hsc : (Value.str k tk).scannable = true := rfl
  have hel : ElemsOf (PySem.strKind P w) es.toList := tx_elems B.txs
  have hlen : es.size = l.length := by
    have := B.perm.length_eq
    simpa using this
  unfold setAddHashed setAddHashedIn
  refine wpAny_holding (wpAny_bind (wpAny_setState_of ho hd B.fits ?_))
  dsimp only
  rw [byScan_of hsc B.few hel]
  simp only [↓reduceIte]
  unfold setAddByScan
  refine wpAny_bind (wpAny_bind (wpAny_rule (wpAny_bind (wpAny_setScan_of hkey ho hd B.fits hel ?_))))
  cases hfi : List.findIdx? (fun e => (PySem.strKind P w).is k e.2) es.toList with
  | some j =>
    dsimp only
    obtain ⟨hj, pj, _⟩ := List.findIdx?_eq_some_iff_getElem.mp hfi
    have inl' : k ∈ l := B.perm.mem_iff.mp ((tx_mem (P := P) B.txs k).2 ⟨es.toList[j], List.getElem_mem hj, pj⟩)
    refine wpAny_pure (wpAny_pure ?_)
    have same : addU l k = l := if_pos inl'
    exact hQ _ s.heap (Heap.SameBut.refl a s.heap) (same.symm ▸ ⟨o, es, ep, t, ho, hex, hd, B⟩)
  | none =>
    dsimp only
    have notIn : k ∉ es.toList.map txOf := fun z => by
      obtain ⟨e, he, q⟩ := (tx_mem (P := P) B.txs k).1 z
      have c := List.findIdx?_eq_none_iff.mp hfi e he
      rw [q] at c
      cases c
    have nl : k ∉ l := fun z => notIn (B.perm.mem_iff.mpr z)
    have gaveWay : ∀ (b : Bool) {s₁ : Shared} {Q' : Unit → Shared → Prop}, Q' () s₁ → wpAny (model P w) A (match b with | true => rule "set.scan.the-table-gave-way" | false => pure ()) Q' E s₁ :=
      fun b s₁ Q' q => by cases b <;> first | exact wpAny_pure q | exact wpAny_rule q
    have p1 := layNew_perm t es ((PySem.strKind P w).hash k) (.str k tk)
    have f1 := layNew_fits t es ((PySem.strKind P w).hash k) (.str k tk)
    have r1 := layNew_ris t es ((PySem.strKind P w).hash k) (.str k tk) B.ris
    have l1 := layNew_led t es ((PySem.strKind P w).hash k) (.str k tk)
    generalize layNew t es ((PySem.strKind P w).hash k) (.str k tk) = Z at p1 f1 r1 l1 ⊢
    obtain ⟨es1, t1, wasDummy, gave⟩ := Z
    dsimp only at p1 f1 r1 l1 ⊢
    rw [Array.toList_push] at p1
    have pk : (es1.toList.map txOf).Perm (es.toList.map txOf ++ [k]) := by
      have := p1.map txOf
      rw [List.map_append] at this
      exact this
    have grown : addU l k = l ++ [k] := if_neg nl
    have sz1 : es1.size = l.length + 1 := by
      have := p1.length_eq
      simp at this
      omega
    have B1 : ∀ t2 : SetTable, t2.fits es1.size = true → Ris t2.place.toList → t2.led = t1.led → TxB w es1 t2 (addU l k) := fun t2 a1 a2 a3 =>
      ⟨fun e he => by
        rcases List.mem_append.mp (p1.mem_iff.mp he) with z | z
        · exact B.txs e z
        · exact ⟨k, tk, List.mem_singleton.mp z⟩,
        grown ▸ pk.trans (B.perm.append_right [k]), addU_nd B.nd k, by rw [sz1]; exact room, a1, a2, B.led.imp id fun z => by rw [a3, l1]; exact z⟩
    refine wpAny_bind (gaveWay _ ?_)
    split
    · refine wpAny_bind ?_
      rw [hashByValue_scannable 8 hsc]
      refine wpAny_pure ?_
      refine tx_tail (l' := addU l k) ?_ ho hex hd (B1 _ ?_ ?_ ?_) ?_
      · intro b s₁ Q' q; cases b <;> first | exact wpAny_pure q | exact wpAny_rule q
      · first | (split <;> first | exact f1 | exact SetTable.fits_plain_off f1) | exact f1
      · first | (split <;> exact r1) | exact r1
      · first | (split <;> rfl) | rfl
      · intro h' sb r; dsimp only; exact wpAny_pure (hQ _ h' sb r)
    · refine wpAny_bind (wpAny_pure ?_)
      simp only [↓reduceIte]
      refine tx_tail (l' := addU l k) ?_ ho hex hd (B1 t1 f1 r1 rfl) ?_
      · intro b s₁ Q' q; cases b <;> first | exact wpAny_pure q | exact wpAny_rule q
      · intro h' sb r; dsimp only; exact wpAny_pure (hQ _ h' sb r)
end
abbrev bare (w : World) : Obj := { cls := .type "set", dict := none, data := .set #[] 0 (.fresh 0 0 (!w.params.followText "set-order")) }
section
variable {P : Program} {w : World} {A : Around} {E : Value → Shared → Prop} {s : Shared}
theorem tx_loop {I : Addr} {fp wr : List Addr} {G : Array GenState → Array GenState → Prop} {n : Nat} {Pv : Nat → Value → Prop} {St : Nat → Shared → Prop} {R : Result → Shared → Prop}
    (W : WalksS P w A.in1 I fp wr G n Pv St) (S : Addr) (away : S ∉ fp) (xs : List Str) (hn : n = xs.length) (hb : xs.length + 1 < scanBound) (hval : ∀ i v, Pv i v → ∃ k t, xs[i]? = some k ∧ v = .str k t) :
    ∀ (m i : Nat) (s : Shared), n - i = m → i ≤ n → St i s → TxR w s.heap S ((xs.take i).foldl addU []) →
      (∀ s', Moved (S :: wr) G s s' → TxR w s'.heap S (allU xs) → R (.ok (.ret .none)) s') →
      codeAny (model P w) A (.builtin "set.update.loop" ⟨[.ref S, .ref I], []⟩) R s := by
  have offW : S ∉ wr := fun h => away (W.sub _ h)
  have wider : ∀ b ∈ wr, b ∈ S :: wr := fun b hb => List.mem_cons_of_mem _ hb
  intro m
  induction m with
  | zero =>
    intro i s hm hi hst hS hR
    obtain rfl : i = n := by omega
    refine codeAny_builtin F.entry_set_update_loop ?_
    rw [Around.under_plainId F.plain_set_update_loop _]
    show wpAny _ A.in1 (pyNext (.ref I) >>= _) _ _ s
    refine wpAny_bind (W.done s _ _ hst fun s' mv => ?_)
    show wpAny _ A.in1 (ret Value.none) _ _ s'
    have all' : xs.take i = xs := List.take_of_length_le (by omega)
    rw [all'] at hS
    exact wpAny_pure (hR s' (mv.mono wider) (hS.at fun o e => mv.heap S o offW e))
  | succ m ih =>
    intro i s hm hi hst hS hR
    have lt' : i < n := by omega
    refine codeAny_builtin F.entry_set_update_loop ?_
    rw [Around.under_plainId F.plain_set_update_loop _]
    show wpAny _ A.in1 (pyNext (.ref I) >>= _) _ _ s
    refine wpAny_bind (W.item i s _ _ lt' hst fun v s' hP hst' mv => ?_)
    obtain ⟨k, t, hk, rfl⟩ := hval i v hP
    have hS1 := hS.at (h' := s'.heap) fun o e => mv.heap S o offW e
    show wpAny _ A.in1 (holding [Value.str k t] (setAdd S (.str k t)) >>= _) _ _ s'
    refine wpAny_bind (wpAny_holding ?_)
    unfold setAdd
    refine wpAny_holding (wpAny_bind ((PySem.strKind P w).pyHash (k := k) (strKind_is _ _ _ _) ?_))
    have few : ((xs.take i).foldl addU []).length + 1 < scanBound := by
      have h1 := (foldU (xs := xs.take i) (l := []) List.nodup_nil).2.2
      rw [List.length_take] at h1
      simp at h1
      omega
    refine tx_add (s := { s' with toks := s'.toks + 1 }) hS1 few fun b h' but hS2 => ?_
    have next : addU ((xs.take i).foldl addU []) k = (xs.take (i + 1)).foldl addU [] := by
      rw [List.take_add_one, hk, List.foldl_append] <;> rfl
    rw [next] at hS2
    refine wpAny_pure ⟨plainId_quiet F.plain_set_update_loop _, ih (i + 1) _ (by omega) lt' (W.frame _ s' _ _ hst' (Nat.le_succ _) fun b hb o e => ?_) hS2 fun s'' mv2 hS3 => ?_⟩
    · exact (but.2 b (fun z : b = S => away (by rw [← z]; exact hb))).trans e
    · refine hR s'' (Moved.trans W.gtrans ((mv.mono wider).then_heap (Nat.le_succ _) fun b o hb e => ?_) mv2) hS3
      exact (but.2 b (fun z : b = S => hb (by rw [z]; exact List.mem_cons_self))).trans e
set_option maxRecDepth 100000 in
set_option maxHeartbeats 3200000 in
theorem call_set_txs {l : Addr} {items : Array Value} (xs : List Str) {Q : Value → Shared → Prop} (hh : A.handled = none) (hl : s.heap.IsList l items) (hit : StrsAre items.toList xs) (hb : xs.length + 1 < scanBound)
    (h : ∀ (h' : Heap) (tk : Nat), TxR w h' s.heap.objs.size (allU xs) → (∀ b o, s.heap.get? b = some o → h'.get? b = some o) → Q (.ref s.heap.objs.size) { s with heap := h', toks := tk }) :
    wpAny (model P w) A (call (.type "set") [.ref l]) Q E s := by
  have size_eq : items.size = xs.length := by
    have q := StrsAre.len_eq hit
    rw [Array.length_toList] at q
    exact q
  obtain ⟨c, tl, hmro⟩ := F.called_set.mro
  have hmade := F.called_set.made
  have hsub := F.called_set.sub
  refine wpAny_call (codeAny_of_tree ?_)
  show wpAny _ _ (callAny (.type "set") _) _ _ _
  refine wpAny_pure ⟨Code.quiet_builtin _ (by decide +kernel), codeAny_builtin F.entry_type_call ?_⟩
  rw [Around.under_plain (weight_type_call_type "set" [.ref l] []) rfl]
  have h1 := F.called_set.notType
  have h2 := F.called_set.canCreate
  have hct := F.typeCall_set_1 (.ref l)
  repeat (any_goals (first | assumption | wp_step))
  refine codeAny_mono (code_set_led1 (.ref l) (E := E) (Q₁ := fun obj s₁ => obj = .ref s.heap.objs.size ∧ s₁ = { s with heap := s.heap.push (bare w) }) ⟨rfl, rfl⟩) fun r s₁ hr => ?_
  cases r with
  | error e => exact hr
  | ok fl =>
    cases fl with
    | ret obj =>
      obtain ⟨rfl, rfl⟩ := hr
      have atS : (s.heap.push (bare w)).get? s.heap.objs.size = some (bare w) := Heap.get?_push_size _ rfl
      have hT : Shared.TypeIs { s with heap := s.heap.push (bare w) } (.ref s.heap.objs.size) "set" := ⟨_, atS, rfl⟩
      have hli := F.called_set.init.lookup
      have hbi := F.called_set.init.bind (.ref s.heap.objs.size)
      repeat (any_goals (first | assumption | wp_step))
      refine codeAny_mono (codeAny_call_builtin (R := wants (fun r s₂ => r = .none ∧ ∃ h' tk, s₂ = { s with heap := h', toks := tk } ∧ TxR w h' s.heap.objs.size (allU xs) ∧
          (∀ b o, s.heap.get? b = some o → h'.get? b = some o)) E) F.called_set.init.plain F.entry_set_init (check_set_init_1 hT ?_)) fun r₂ s₂ hr₂ => ?_
      · obtain ⟨⟨ocls, odict, odata, oslots⟩, hol, hcl, nl, hdl⟩ := hl
        simp only at hcl hdl
        subst hcl; subst hdl
        have atL : (s.heap.push (bare w)).get? l = some { cls := .type "list", dict := odict, data := .seq items nl, slots := oslots } := Heap.get?_push_of_some _ hol
        have no1 := F.sub_list_set
        have no2 := F.sub_list_frozenset
        have no3 : (Value.type "list" == Value.type "dict") = false := by decide
        have isL : (s.heap.push (bare w)).IsList l items := ⟨_, atL, rfl, nl, rfl⟩
        unfold Builtin.«set.__init__» noKeywords Builtin.Frozenset.updateFrom
        generalize hPI : pyIter = PI
        wp_walk
        subst hPI
        refine wpAny_pyIter_list isL (wpAny_bind (wpAny_runValue ?_))
        have below : l < s.heap.objs.size := Heap.lt_size hol
        have hh3 : A.in1.in1.in1.handled = none := by simp [hh]
        have neI : l ≠ (s.heap.push (bare w)).objs.size := by
          rw [Heap.size_push]
          exact Nat.ne_of_lt (Nat.lt_succ_of_lt below)
        have away : s.heap.objs.size ∉ [(s.heap.push (bare w)).objs.size, l] := by
          rw [Heap.size_push]
          intro z
          rcases List.mem_cons.mp z with e | e
          · exact Nat.ne_of_lt (Nat.lt_succ_self _) e
          · exact Nat.ne_of_gt below (List.mem_singleton.mp e)
        have hval : ∀ (i : Nat) (v : Value), items[i]? = some v → ∃ k t, xs[i]? = some k ∧ v = .str k t := fun i v hv => by
          have hi : i < xs.length := by rw [← size_eq]; exact (Array.getElem?_eq_some_iff.mp hv).1
          obtain ⟨t, e⟩ := SS.strs_at hit i v (by rw [Array.getElem?_toList]; exact hv)
          refine ⟨xs[i], t, List.getElem?_eq_getElem hi, ?_⟩
          rw [e, List.getD_eq_getElem?_getD, List.getElem?_eq_getElem hi] <;> rfl
        refine tx_loop ((Walks.list hh3 _ l neI items).toS) s.heap.objs.size away xs size_eq hb hval (items.size - 0) 0 _ (by omega) (Nat.zero_le _)
          ⟨⟨_, Heap.get?_push_size _ rfl, rfl, rfl⟩, (isL.push _)⟩ ?hS0 ?hR
        case hS0 =>
          refine tx_laid (t := .fresh 0 0 true) ?_
          exact Heap.get?_push_of_some _ atS
        case hR =>
          intro s' mv hS'
          obtain ⟨h', g2, d', tk', os'⟩ := s'
          obtain rfl : g2 = s.gens := mv.gens
          obtain rfl : d' = s.drawn := mv.drawn
          obtain rfl : os' = s.os := mv.os
          show wpAny _ _ _ _ _ _
          refine wpAny_pure ?_
          show wpAny _ _ (ret Value.none) _ _ _
          refine wpAny_pure ⟨rfl, h', tk', rfl, hS', fun b o e => ?_⟩
          have hlt := Heap.lt_size e
          refine mv.heap b o ?_ (Heap.get?_push_of_some _ (Heap.get?_push_of_some _ e))
          intro z
          rcases List.mem_cons.mp z with e | e
          · exact Nat.ne_of_lt hlt e
          · have y := List.mem_singleton.mp e
            rw [Heap.size_push] at y
            exact Nat.ne_of_lt (Nat.lt_succ_of_lt hlt) y
      · cases r₂ with
        | error e => exact hr₂
        | ok fl₂ =>
          cases fl₂ with
          | ret r =>
            obtain ⟨rfl, h', tk, rfl, hS', hk'⟩ := hr₂
            repeat (any_goals (first | assumption | wp_step))
            exact h _ _ hS' hk'
          | _ => exact hr₂.elim
    | _ => exact hr.elim
/-- texts in some order -/
theorem strs_any {w : World} : ∀ (vs : List Value), (∀ v ∈ vs, ∃ k t, v = Value.str k t) → ∃ ks, StrsAre vs ks ∧ vs.map (fun v => txOf (0, v)) = ks
  | [], _ => ⟨[], .nil, rfl⟩
  | v :: vs, h => by
    obtain ⟨k, t, rfl⟩ := h v List.mem_cons_self
    obtain ⟨ks, h1, h2⟩ := strs_any (w := w) vs fun u hu => h u (List.mem_cons_of_mem _ hu)
    exact ⟨k :: ks, .cons k t h1, by rw [List.map_cons, h2] <;> rfl⟩
theorem sorted_txs {a : Addr} {l : List Str} {Q : Value → Shared → Prop} (R : TxR w s.heap a l) (hh : A.handled = none) (h64 : l.length < 64)
    (hQ : ∀ s' p (out : Array Value) (c : Nat) (ks : List Str), (∀ b o, s.heap.get? b = some o → s'.heap.get? b = some o) → s'.gens = s.gens → s'.os = s.os → s.heap.objs.size ≤ p →
      s'.heap.get? p = some (seqObj "list" out c) → StrsAre out.toList ks → ks.Perm l → sortedS ks = true → Q (.ref p) s') :
    wpAny (model P w) A (call (.builtin "sorted") [.ref a]) Q E s := by
  obtain ⟨o, es, ep, t, ho, hex, hd, B⟩ := R
  refine Calls.call_function_entry kind_sorted plain_sorted entry_sorted (args_sorted1 _) ?_
  unfold Builtin.«sorted»
  refine wpAny_bind (m := checkCount "sorted" 1 1 _) (wpAny_pure (wpAny_bind (collect_set (A := A.in1) hh ⟨o, ho, hex.1, hd⟩ B.fits B.few B.ris B.led fun s1 vs k1 hz g1 o1 pm => ?_)))
  have allS : ∀ v ∈ vs, ∃ k t, v = Value.str k t := fun v hv => by
    obtain ⟨e, he, q⟩ := List.mem_map.mp (pm.mem_iff.mp hv)
    obtain ⟨k, t, rfl⟩ := B.txs e he
    exact ⟨k, t, q.symm⟩
  obtain ⟨ks, hks, eks⟩ := strs_any (w := w) vs allS
  have pks : ks.Perm l := by
    rw [← eks]
    have q := pm.map fun v => txOf (0, v)
    rw [List.map_map] at q
    exact q.trans B.perm
  have vlen : vs.length < 64 := by
    have := StrsAre.len_eq hks
    rw [this, pks.length_eq]
    exact h64
  refine wpAny_bind (wpAny_newList ?_ (by rw [sizeLine_eq]; omega))
  have atL : (s1.heap.push (seqObj "list" vs.toArray 0)).get? s1.heap.objs.size = some (seqObj "list" vs.toArray 0) := Heap.get?_push_size _ rfl
  refine wpAny_bind (wpAny_holding (wpAny_call_entry slot_list_sort ⟨_, atL, rfl⟩ entry_list_sort (list_sort_treeK strKind_oneLt atL hks.keysOf (fun v₁ v₂ rest e => keyKind_strs (by rw [← e]; exact hks)) vlen fun st hp hs => ⟨_, rfl, ?_⟩) (args_list_sort _)))
  obtain ⟨ys, y1, y2, y3⟩ := sorted_out_str hks hp hs
  obtain ⟨c, hc⟩ := sortedHeap_at (vs := vs) (out := (arrOf st).map (·.2)) atL
  refine wpAny_pure ⟨_, rfl, hQ _ s1.heap.objs.size _ c ys (fun b u e => ?_) g1 o1 hz hc y1 (y2.trans pks) y3⟩
  have q := k1 b u e
  have hlt := Heap.lt_size q
  refine (sortedHeap_old (vs := vs) (Nat.ne_of_lt hlt) (by rw [size_push']; exact Nat.lt_succ_of_lt hlt)).trans ?_
  exact Heap.get?_push_of_some _ q
end
/-- the set of the texts l at a -/
def TxO (w : World) (a : Addr) (l : List Str) : HO := .ext fun h => TxR w h a l
theorem txO_new {w : World} {P : Program} {H : Hp} {h : Heap} {a : Addr} {l : List Str} (R : TxR w h a l) : ObjOk P w H h a (TxO w a l) := by
  have ⟨o, _, _, _, ho, _⟩ := R
  exact ⟨R, ⟨o, ho⟩, fun h1 h2 p k => TxR.at p k⟩
def rSetTx (X : Cx) : List V → Hp → VK → Prop := fun xs H Q => ∃ (a : Addr) (ys : List Str), xs = [.ref a] ∧ SqL X.K H a (ys.map V.str) ∧ ys.length < 4000 ∧ ∀ p, H p = none → Q (.ref p) (upd H p (TxO X.w p (allU ys)))
def rSortTx (w : World) : List V → Hp → VK → Prop := fun xs H Q => ∃ (a : Addr) (l : List Str), xs = [.ref a] ∧ H a = some (TxO w a l) ∧ l.length < 64 ∧
  ∀ (zs : List Str) (p : Addr), zs.Perm l → sortedS zs = true → H p = none → Q (.ref p) (upd H p (.lst (zs.map V.str)))
section
variable {X : Cx}
theorem cr_setTx (hc : X.calm = true) : CallR X (.type "set") (rSetTx X) := by
  intro pins s σ H xs us Q I r h
  obtain ⟨a, ys, rfl, hs, hl, q⟩ := h
  rw [Vals.ref1 r]
  obtain ⟨its, rv, pl, _⟩ := I.list hs
  refine call_set_txs ys (I.ok.hd hc) pl.isList (by simpa using strsAre_of rv) (by unfold scanBound; omega) fun h' tk R k => ?_
  exact ⟨.ref _, upd H s.heap.objs.size (TxO X.w s.heap.objs.size (allU ys)), I.laid (t' := tk) k (Nat.le_refl _) (txO_new R), rfl, q _ (I.hok.fresh (Nat.le_refl _))⟩
theorem cr_sortTx (hc : X.calm = true) : CallR X (.builtin "sorted") (rSortTx X.w) := by
  intro pins s σ H vs us Q I r h
  obtain ⟨a, l, rfl, ha, h64, q⟩ := h
  rw [Vals.ref1 r]
  have R : TxR X.w s.heap a l := (I.hok a _ ha).1
  refine sorted_txs R (I.ok.hd hc) h64 fun s' p out c ks k g o hp hg hi hs hm => ?_
  have few : (ks.map V.str).length ≤ sizeLine := by rw [List.length_map, hs.length_eq, sizeLine_eq]; omega
  have free : H p = none := I.hok.fresh hp
  have J : Inv X pins σ (upd H p (.lst (ks.map V.str))) { s with heap := s'.heap, gens := s'.gens, drawn := s'.drawn, toks := s'.toks } :=
    I.call (ch := []) (Un.laid k hp free) (I.hok.laid k hp ⟨few, out.toList, c, vals_of_strs hi, hg⟩) (by rw [g]; exact I.bare) (fun _ z => nomatch z)
  have e : s' = { s with heap := s'.heap, gens := s'.gens, drawn := s'.drawn, toks := s'.toks } := by
    cases s'
    cases s
    cases o
    rfl
  rw [e]
  exact ⟨.ref p, _, J, rfl, q ks p hs hm free⟩
end
/-- sorted(set(e)), e a new list of texts: a new list of the same texts, each once -/
theorem en_sortset {X : Cx} {σ : L2.St} {H : Hp} {te : TE} {ys : List Str} (h : Evl.EvL te σ H (ys.map V.str)) (h64 : ys.length < 64) :
    EvN (tCB (rSortTx X.w) (tCons (tCB (rSetTx X) (tCons te tNil)) tNil)) σ H (fun p H' => ∃ zs, zs.Nodup ∧ (∀ k, k ∈ zs ↔ k ∈ ys) ∧ sortedS zs = true ∧ zs.length ≤ ys.length ∧ H' p = some (.lst (zs.map V.str))) := fun H1 e Q q =>
  h H1 e _ fun p H2 _ e2 hp => ⟨p, ys, rfl, Evl.sq_of hp, by omega, fun p1 h1 => by
    obtain ⟨n1, n2, n3⟩ := foldU (xs := ys) (l := []) List.nodup_nil
    refine ⟨p1, allU ys, rfl, upd_same, by unfold allU; simp at n3; omega, fun zs p2 z1 z2 z3 => ?_⟩
    have f1 : H1 p2 = none := Evl.fresh_back e2 (Evl.fresh_back (Evl.Ex.new h1) z3)
    exact q p2 _ f1 (e2.trans ((Evl.Ex.new h1).trans (Evl.Ex.new z3))) ⟨zs, z1.nodup_iff.mpr n1, fun k => by rw [z1.mem_iff]; unfold allU; rw [n2]; simp, z2, by rw [z1.length_eq]; unfold allU; simp at n3; omega, upd_same⟩⟩
end Cw
set_option Elab.async false
set_option linter.all false
set_option maxRecDepth 100000
set_option maxHeartbeats 4000000
namespace Cw
open PySem PySem.Spec PyProof.Rows L2
/-! ### for row in d.items(): a name takes the pair -/
/-- the iterator: it owns no pair, or the one at some address, be it there or gone -/
def Own (x : Value) : Prop := x = .none ∨ ∃ a : Nat, x = rawInt (a : Int)
abbrev ItG (h : Heap) (it d : Addr) (i n ep : Nat) (x : Value) (f : Bool) (ok ov : Value) : Prop :=
  h.get? it = some { cls := .type "dict_itemiterator", dict := none, data := .fields #[x, .bool f, .ref d, .int i 0, .int n 0, .int ep 0, ok, ov], slots := #[] }
section
variable {P : Program} {w : World} {KK : Type} [DecidableEq KK] {knd : KeyKind P w KK} {A : Around} {E : Value → Shared → Prop} {s : Shared}
theorem alive_or_not {a : Addr} {Q : Option Obj → Shared → Prop} (h : Q (s.heap.get? a) s) : wpAny (model P w) A (loadIfAlive a) Q E s := fun _ _ _ => h
theorem itg_next {it d : Addr} {i ep : Nat} {kvs : List (KK × Value)} {k : KK} {v x ok ov : Value} {f : Bool} {Q : Option Value → Shared → Prop} (ox : Own x) (hit : ItG s.heap it d i kvs.length ep x f ok ov)
    (hm : s.heap.DictAt knd d kvs ep) (hx : kvs[i]? = some (k, v))
    (hQ : ∀ key h' x' f' ok' ov', knd.is k key = true → Own x' → ItG h' it d (i + 1) kvs.length ep x' f' ok' ov' →
      h'.get? s.heap.objs.size = some { cls := .type "tuple", data := .seq #[key, v] } →
      (∀ b o, b ≠ it → s.heap.get? b = some o → h'.get? b = some o) → Q (some (.ref s.heap.objs.size)) { s with heap := h' }) :
    wpAny (model P w) A (pyNext (.ref it)) Q E s := by
  obtain ⟨h0, g, dr, tk, os⟩ := s
  obtain ⟨od, es, hod, hcd, hdd, hk, hpr, hn⟩ := id hm
  have isT : Shared.TypeIs ⟨h0, g, dr, tk, os⟩ (.ref it) "dict_itemiterator" := ⟨_, hit, rfl⟩
  unfold pyNext
  refine wpAny_bind (wpAny_attempt (wpAny_callSpecial?_slot (name := Str.ofString "__next__") isT F.slot_dict_itemiterator_next (wpAny_call_entry F.slot_dict_itemiterator_next isT F.entry_dict_itemiterator_next ?_ (F.args_dict_itemiterator_next_1 _))))
  refine wpAny_bind (wpAny_pure (wpAny_bind (wpAny_bind ?_)))
  first | refine wpAny_bind (wpAny_typeNameOfWhole_itemiter isT (wpAny_pure ?_)) | refine wpAny_bind (wpAny_typeNameOf_itemiter isT (wpAny_pure ?_))
  refine wpAny_bind (wpAny_fieldsOf hit rfl ?_)
  have owns : Builtin.Dict_items.ownsTuple "dict_itemiterator" = true := by decide
  simp only [owns, if_true]
  show wpAny _ _ (if (Value.ref d == Value.none) = true then _ else _) _ _ _
  refine wp_if_neg (show ¬ ((Value.ref d == Value.none) = true) from Bool.false_ne_true) ?_
  refine wpAny_bind (wpAny_pure (wpAny_bind (wpAny_dictEntries hod hdd ?_)))
  have sz : es.size = kvs.length := by rw [← hpr.length]; simp
  refine wp_if_neg (by rw [sz]; simp) ?_
  refine wpAny_bind (wpAny_pure (wpAny_bind (wpAny_dictEpoch hod hdd ?_)))
  refine wp_if_neg (by simp) (wpAny_pure ?_)
  have lt1 : i < kvs.length := (List.getElem?_eq_some_iff.mp hx).1
  have lt2 : i < es.size := by rw [sz]; exact lt1
  obtain ⟨hkey, hval⟩ := hpr.get? (e := es[i]) (by simp [lt2]) hx
  simp only [show ¬ ((i : Int) < 0) from by omega, if_false, Int.toNat_natCast, Array.getElem?_eq_getElem lt2]
  refine wpAny_bind ?_
  first | refine wpAny_bind (wpAny_typeNameOfWhole_itemiter isT (wpAny_pure ?_)) | refine wpAny_bind (wpAny_typeNameOf_itemiter isT (wpAny_pure ?_))
  refine wpAny_bind (wpAny_isOneOf_itemiter isT ?_)
  show wpAny _ _ (setField (.ref it) 3 (rawInt ((i : Int) + 1)) >>= _) _ _ ⟨h0, g, dr, tk, os⟩
  refine wpAny_bind (wpAny_setField_rec hit (by simp) fun h₁ he₁ hs₁ => ?_)
  replace hs₁ : Heap.SameBut it h0 h₁ := hs₁
  have st₁ : ItG h₁ it d (i + 1) kvs.length ep x f ok ov := by
    have e : ((i + 1 : Nat) : Int) = (i : Int) + 1 := by omega
    unfold ItG
    rw [e]
    simpa [rawInt] using he₁
  have isT₁ : Shared.TypeIs ⟨h₁, g, dr, tk, os⟩ (.ref it) "dict_itemiterator" := ⟨_, st₁, rfl⟩
  refine wpAny_bind (wpAny_holding (wpAny_bind (wpAny_isOneOf_itemiter isT₁ (wpAny_bind (wpAny_isOneOf_itemiter isT₁ ?_)))))
  show wpAny _ _ (Builtin.Dict_items.pairFromOwner (.ref it) 6 es[i].key es[i].val) _ _ ⟨h₁, g, dr, tk, os⟩
  unfold Builtin.Dict_items.pairFromOwner
  refine wpAny_bind (wpAny_newTuple ?_)
  have st₂ : ItG (h₁.push { cls := .type "tuple", data := .seq #[es[i].key, es[i].val] }) it d (i + 1) kvs.length ep x f ok ov := Heap.get?_push_of_some _ st₁
  have z₁ : h₁.objs.size = h0.objs.size := hs₁.1
  have below : it < h0.objs.size := Heap.lt_size hit
  have tup₂ : (h₁.push { cls := .type "tuple", data := .seq #[es[i].key, es[i].val] }).get? h0.objs.size = some { cls := .type "tuple", data := .seq #[es[i].key, es[i].val] } := by rw [← z₁]; exact Heap.get?_push_size _ rfl
  have kept₂ : ∀ b o, b ≠ it → h0.get? b = some o → (h₁.push { cls := .type "tuple", data := .seq #[es[i].key, es[i].val] }).get? b = some o := fun b o hb e => Heap.get?_push_of_some _ (hs₁.extBut b o hb e)
  generalize (h₁.push { cls := .type "tuple", data := .seq #[es[i].key, es[i].val] }) = h₂ at st₂ tup₂ kept₂
  show wpAny _ _ (Builtin.Dict_items.ownedTupleIsFree (.ref it) >>= _) _ _ ⟨h₂, g, dr, tk, os⟩
  rw [z₁]
  have fin : ∀ h₃ x' f' ok' ov', Own x' → ItG h₃ it d (i + 1) kvs.length ep x' f' ok' ov' → Heap.SameBut it h₂ h₃ → Q (some (.ref h0.objs.size)) ⟨h₃, g, dr, tk, os⟩ := fun h₃ x' f' ok' ov' o3 e3 s3 =>
    hQ es[i].key h₃ x' f' ok' ov' hkey o3 e3 (by rw [← hval]; exact s3.extBut _ _ (Nat.ne_of_gt below) tup₂) fun b o hb e => s3.extBut b o hb (kept₂ b o hb e)
  have own : ∀ E' : Value → Shared → Prop, wpAny (model P w) A.in1 (Builtin.Dict_items.ownedTupleIsFree (.ref it)) (fun b s' => (b = true ∧ s' = ⟨h₂, g, dr, tk, os⟩) ∨ (b = false ∧ ∃ h₃ f', ItG h₃ it d (i + 1) kvs.length ep x f' ok ov ∧ Heap.SameBut it h₂ h₃ ∧ s' = ⟨h₃, g, dr, tk, os⟩)) E' ⟨h₂, g, dr, tk, os⟩ := fun E' => by
    unfold Builtin.Dict_items.ownedTupleIsFree
    refine wpAny_bind (wpAny_field st₂ rfl (x := x) rfl ?_)
    rcases ox with rfl | ⟨a, rfl⟩
    · exact wpAny_pure (.inl ⟨rfl, rfl⟩)
    · show wpAny _ _ (loadIfAlive ((a : Int).toNat) >>= _) _ _ _
      rw [Int.toNat_natCast]
      refine wpAny_bind (alive_or_not ?_)
      show wpAny _ _ (if (h₂.get? a).isNone = true then _ else _) _ _ _
      cases h₂.get? a with
      | none => exact wp_if_pos rfl (wpAny_pure (.inl ⟨rfl, rfl⟩))
      | some oa =>
        refine wp_if_neg (by simp) ?_
        refine wpAny_bind (wpAny_field st₂ rfl (x := .bool f) rfl ?_)
        cases f with
        | true => exact wp_if_neg Bool.false_ne_true (wpAny_pure (.inr ⟨rfl, h₂, true, st₂, Heap.SameBut.refl _ _, rfl⟩))
        | false =>
          refine wp_if_pos rfl (wpAny_bind (wpAny_setField_rec st₂ (by simp) fun h₃ he₃ hs₃ => ?_))
          exact wpAny_pure (.inr ⟨rfl, h₃, true, he₃, hs₃, rfl⟩)
  refine wpAny_bind (wpAny_mono (own _) (fun b s' hb => ?_) fun _ _ z => z)
  rcases hb with ⟨rfl, rfl⟩ | ⟨rfl, h₃, f', st₃, hs₃, rfl⟩
  · refine wp_if_pos rfl ?_
    refine wpAny_bind (wpAny_field st₂ rfl (x := ok) rfl (wpAny_bind (wpAny_field st₂ rfl (x := ov) rfl ?_)))
    refine wpAny_bind (wpAny_setField_rec st₂ (by simp) fun h₃ he₃ hs₃ => ?_)
    replace hs₃ : Heap.SameBut it h₂ h₃ := hs₃
    replace he₃ : ItG h₃ it d (i + 1) kvs.length ep x f es[i].key ov := he₃
    refine wpAny_bind (wpAny_setField_rec he₃ (by simp) fun h₄ he₄ hs₄ => ?_)
    replace hs₄ : Heap.SameBut it h₃ h₄ := hs₄
    replace he₄ : ItG h₄ it d (i + 1) kvs.length ep x f es[i].key es[i].val := he₄
    refine wpAny_bind (wpAny_setField_rec he₄ (by simp) fun h₅ he₅ hs₅ => ?_)
    replace hs₅ : Heap.SameBut it h₄ h₅ := hs₅
    replace he₅ : ItG h₅ it d (i + 1) kvs.length ep (rawInt (h0.objs.size : Int)) f es[i].key es[i].val := he₅
    refine wpAny_bind (wpAny_setField_rec he₅ (by simp) fun h₆ he₆ hs₆ => ?_)
    replace hs₆ : Heap.SameBut it h₅ h₆ := hs₆
    replace he₆ : ItG h₆ it d (i + 1) kvs.length ep (rawInt (h0.objs.size : Int)) false es[i].key es[i].val := he₆
    exact wpAny_bind (wpAny_letGo (wpAny_pure (wpAny_pure ⟨_, rfl, wpAny_pure (fin h₆ _ _ _ _ (.inr ⟨_, rfl⟩) he₆ (hs₃.trans (hs₄.trans (hs₅.trans hs₆))))⟩)))
  · refine wp_if_neg Bool.false_ne_true ?_
    exact wpAny_pure (wpAny_pure ⟨_, rfl, wpAny_pure (fin h₃ _ _ _ _ ox st₃ hs₃)⟩)
theorem itg_end {it d : Addr} {i ep : Nat} {kvs : List (KK × Value)} {x ok ov : Value} {f : Bool} {Q : Option Value → Shared → Prop} (hh : A.handled = none) (hit : ItG s.heap it d i kvs.length ep x f ok ov)
    (hm : s.heap.DictAt knd d kvs ep) (hx : kvs.length ≤ i) (hQ : ∀ h', Heap.ExtBut it s.heap h' → Q none { s with heap := h' }) : wpAny (model P w) A (pyNext (.ref it)) Q E s := by
  obtain ⟨od, es, hod, hcd, hdd, hk, hpr, hn⟩ := id hm
  have isT : s.TypeIs (.ref it) "dict_itemiterator" := ⟨_, hit, rfl⟩
  unfold pyNext
  refine wpAny_bind (wpAny_attempt (wpAny_callSpecial?_slot (name := Str.ofString "__next__") isT F.slot_dict_itemiterator_next (wpAny_call_entry F.slot_dict_itemiterator_next isT F.entry_dict_itemiterator_next ?_ (F.args_dict_itemiterator_next_1 _))))
  refine wpAny_bind (wpAny_pure (wpAny_bind (wpAny_bind ?_)))
  first | refine wpAny_bind (wpAny_typeNameOfWhole_itemiter isT (wpAny_pure ?_)) | refine wpAny_bind (wpAny_typeNameOf_itemiter isT (wpAny_pure ?_))
  refine wpAny_bind (wpAny_fieldsOf hit rfl ?_)
  have owns : Builtin.Dict_items.ownsTuple "dict_itemiterator" = true := by decide
  simp only [owns, if_true]
  show wpAny _ _ (if (Value.ref d == Value.none) = true then _ else _) _ _ s
  refine wp_if_neg (show ¬ ((Value.ref d == Value.none) = true) from Bool.false_ne_true) ?_
  refine wpAny_bind (wpAny_pure (wpAny_bind (wpAny_dictEntries hod hdd ?_)))
  have sz : es.size = kvs.length := by rw [← hpr.length]; simp
  refine wp_if_neg (by rw [sz]; simp) ?_
  refine wpAny_bind (wpAny_pure (wpAny_bind (wpAny_dictEpoch hod hdd ?_)))
  refine wp_if_neg (by simp) (wpAny_pure ?_)
  simp only [show ¬ ((i : Int) < 0) from by omega, if_false, Int.toNat_natCast, Array.getElem?_eq_none (show es.size ≤ i by rw [sz]; exact hx)]
  refine wpAny_bind ?_
  first | refine wpAny_bind (wpAny_typeNameOfWhole_itemiter isT (wpAny_pure ?_)) | refine wpAny_bind (wpAny_typeNameOf_itemiter isT (wpAny_pure ?_))
  show wpAny _ _ (setField (.ref it) 2 .none >>= _) _ _ s
  refine wpAny_bind (wpAny_setField hit rfl (by simp) ?_)
  show wpAny _ _ (newExc (.type "StopIteration") [] >>= _) _ _ _
  refine wpAny_bind ?_
  simp only [newExc, newTuple]
  refine wpAny_bind (wpAny_newObj_type ?_ (by size_fits))
  refine wpAny_bind (m := firstArgMember _ _) (wpAny_of_eq (a := Value.none) (by first | rfl | (simp only [firstArgMember]; rfl)) ?_)
  refine wpAny_newObj_type ?_ (by size_fits)
  simp only [raiseNew]
  refine wpAny_bind (wpAny_handled ?_)
  rw [show A.in1.handled = none from hh]
  refine wpAny_bind (wpAny_pure (wpAny_throw ?_))
  refine wpAny_bind (wpAny_isInstance (T := "StopIteration") (b := true) ⟨_, Heap.get?_push_size _ rfl, rfl⟩ isSubtype_stop ?_)
  exact wpAny_pure (hQ _ (((Heap.SameBut.update ..).extBut.push _).push _))
theorem itg_self {it d : Addr} {i n ep : Nat} {x ok ov : Value} {f : Bool} {Q : Value → Shared → Prop} (hit : ItG s.heap it d i n ep x f ok ov) (h : Q (.ref it) s) : wpAny (model P w) A (pyIter (.ref it)) Q E s := by
  have isT : s.TypeIs (.ref it) "dict_itemiterator" := ⟨_, hit, rfl⟩
  refine wpAny_pyIter_slot isT F.slot_dict_itemiterator_iter (wpAny_call_entry F.slot_dict_itemiterator_iter isT PySem.entry_dict_itemiterator_iter ?_ (F.args_dict_itemiterator_iter_1 _))
  show wpAny _ _ (ret (.ref it)) _ _ s
  exact wpAny_pure ⟨_, rfl, "dict_itemiterator", _, isT, F.slot_dict_itemiterator_next.lookup, h⟩
end
section
variable {P : Program} {w : World} {K : PySem.W.Frag} {d : Addr} {o : Obj} {es : Array DictEntry} {ep : Nat}
theorem turn_items1 {kvs : List (Key × V)} {x : Str} {tpos : Pos} (it : Addr) (hod : o.data = .dict es ep) :
    Turn P w K (.Name x tpos) (Iti d o kvs) [it] it (fun i h => ∃ y f ok ov, Own y ∧ ItG h it d i kvs.length ep y f ok ov) where
  mem := by simp
  obj := fun i h st b hb => by
    obtain rfl : b = it := by simpa using hb
    obtain ⟨y, f, ok, ov, _, e⟩ := st
    exact ⟨_, e, fun v z => nomatch z⟩
  keep := fun i h h' st k => let ⟨y, f, ok, ov, oy, e⟩ := st; ⟨y, f, ok, ov, oy, k it (by simp) _ e⟩
  item := by
    intro X hP hw hK hc i pins s σ H E I hf st hg
    subst hP hw hK
    obtain ⟨hd, hi⟩ := hg
    obtain ⟨hs, hgd, hx, es', ep', vs, hdt, hsz, kv, hm⟩ := I.frzK hd
    obtain ⟨rfl, rfl⟩ := dict_ep hod hdt
    obtain ⟨⟨k, v⟩, hkv⟩ : ∃ p, kvs[i]? = some p := ⟨kvs[i], List.getElem?_eq_getElem hi⟩
    obtain ⟨u, hu, ru⟩ := kv_get kv hkv
    have hl : kvs.length = vs.length := Paired.length kv
    obtain ⟨y, f, ok, ov, oy, he⟩ := st
    rw [hl] at he
    have below : it < s.heap.objs.size := Heap.lt_size he
    refine itg_next oy he hm hu fun key h' y' f' ok' ov' hkey oy' ho hT hk => ?_
    refine ⟨_, rfl, wpAny_pure ?_⟩
    have new : ObjOk X.prog X.w (upd H s.heap.objs.size (.tup [kV k, v])) h' s.heap.objs.size (.tup [kV k, v]) :=
      ⟨by show 2 ≤ sizeLine; decide, [key, u], .cons (relV_key (show keyIs k key = true from hkey)) (.cons ru .nil), ⟨_, hT, rfl, _, rfl⟩⟩
    have I1 : Inv X pins σ (upd H s.heap.objs.size (.tup [kV k, v])) { s with heap := h' } :=
      I.turnedNew (t' := s.toks) (ch := [it]) (fun b ob hb e => hk b ob (by simpa using hb) e) hf (Nat.le_refl _) new
    refine ⟨.ref s.heap.objs.size, _, I1, rfl, ⟨_, k, v, hkv, rfl, I.hok.fresh (Nat.le_refl _), rfl⟩, ⟨y', f', ok', ov', oy', by rw [hl]; exact ho⟩, fun b hb => ?_⟩
    obtain rfl : b = it := by simpa using hb
    rw [upd_ne (Nat.ne_of_lt below)]
    exact (hf b (by simp)).1
  done := by
    intro X hP hw hK hc i pins s σ H E I hf st hg
    subst hP hw hK
    obtain ⟨hd, hi⟩ := hg
    obtain ⟨f0, f1, f2, f3, f4, f5⟩ := hf it (by simp)
    obtain ⟨hs, hgd, hx, es', ep', vs, hdt, hsz, kv, hm⟩ := I.frzK hd
    obtain ⟨rfl, rfl⟩ := dict_ep hod hdt
    have hl : kvs.length = vs.length := Paired.length kv
    obtain ⟨y, f, ok, ov, oy, he⟩ := st
    rw [hl] at he
    exact itg_end (I.ok.hd hc) he hm (by omega) fun h' eb => ⟨rfl, I.turned (t' := s.toks) (fun b ob hb e => eb b ob hb e) f0 f1 f3 f4 f5⟩
  self := fun A i s Q E st h => let ⟨_, _, _, _, _, e⟩ := st; itg_self e h
end
section
variable {X : Cx} {e : Expr} {td : TE} {apos cpos : Pos}
theorem pi_items1 {x : Str} {tpos : Pos} (he : PE X e td) (hbase : attributeBase e "items" X.env (eval e X.env) = eval e X.env := by rfl) (hline : (apos.endLine == cpos.line) = true := by rfl) :
    PI X (.Name x tpos) (.Call (.Attribute e "items" apos) [] [] cpos) (iItems td) := by
  refine ⟨fun pins s σ H R I h => ?_⟩
  refine wpAny_Call_method (T := "dict") (id := "dict.items") hbase rfl hline F.plainAttrs_dict F.slot_dict_items F.type_dict_items (thn (he.run pins s σ H _ I h) fun u s1 ⟨x, H1, I1, rx, d, o, kvs, ex, hd, q⟩ => ?_)
  subst ex
  obtain rfl : u = Value.ref d := rx
  obtain ⟨hs, hgd, hx, es, ep, vs, hdt, hsz, kv, hm⟩ := I1.frzK hd
  have hl : kvs.length = vs.length := Paired.length kv
  refine ⟨hm.dictOf.typeIs, hm.dictOf.mapOf.noDict, ?_⟩
  have I2 : Inv X pins σ H1 { s1 with heap := s1.heap.push { cls := .type "dict_items", data := .fields #[.ref d] } } := I1.kept (t' := s1.toks) fun b ob q => Heap.get?_push_of_some _ q
  refine method_meetsIn F.slot_dict_items F.entry_dict_items rfl (PySem.evalArgs_none ⟨rfl, hm.dictOf.typeIs, F.args_dict_items_1 _, _, meets_dict_items (mixKind X.prog X.w) d hs, ⟨vs, hm.dictOf⟩, ?_⟩)
  refine wpAny_pyIter_items (d := d) (knd := mixKind X.prog X.w) ⟨_, Heap.get?_push_size _ rfl, rfl, rfl⟩ (hm.push _) (pi_one (tk := s1.toks) I2 _ (turn_items1 _ hdt) ⟨.none, false, .none, .none, .inl rfl, ?_⟩ q)
  rw [hl]
  exact Heap.get?_push_size _ rfl
end
end Cw
set_option Elab.async false
set_option linter.all false
set_option maxRecDepth 100000
set_option maxHeartbeats 4000000
namespace Cw
open PySem PySem.Spec PyProof.Rows L2
section
variable {X : Cx}
/-- name = {..} on one line, the name a local of the frame -/
theorem ps_setDc {i : Nat} {y : Str} {py : Pos} {kx vx tg iter : Expr} {ifs : List Expr} {scope : Scope} {own : List (Str × Nat)} {pos spos : Pos} {wi : TI} {g : TG} {tt : TT} {tk tv : TE} (hc : X.calm = true) (hN : X.N.Nodup) (hy : X.N[i]? = some y) (hyl : X.env.scope.names.lookup y = some .local)
    (hsw : swapsWith (.DictComp kx vx [⟨tg, iter, ifs, 0⟩] scope pos) (some (.Name y py)) spos.line X.env = pure true) (hi : PI X tg iter wi) (ok : BlkOk X.N X.env.scope scope own)
    (hg : ∀ s H C cl fp, PG (X.blk s H scope (compEnvC scope cl C X.env) fp) tg g) (ht : ∀ s H C cl fp, PTs (X.blk s H scope (compEnvC scope cl C X.env) fp) ifs tt)
    (hk : ∀ s H C cl fp, PE (X.blk s H scope (compEnvC scope cl C X.env) fp) kx tk) (he : ∀ s H C cl fp, PE (X.blk s H scope (compEnvC scope cl C X.env) fp) vx tv) (hs : ∀ x, foldedSetIterable iter X.env x = pure x := by intro _; rfl) :
    PS X (.Assign [.Name y py] (.DictComp kx vx [⟨tg, iter, ifs, 0⟩] scope pos) spos) (tAsg (tDc wi g tt tk tv (own.map (·.2))) (gName i)) := by
  refine ⟨fun pins s σ H D I h => ?_⟩
  rw [exec_Assign_Name_used _ _ _ _ hsw]
  refine wpAny_bind (wpAny_standAt (wpAny_bind ?_))
  show wpAny _ X.A (do let _ ← comprehension (.DictComp kx vx [⟨tg, iter, ifs, 0⟩] scope pos) scope X.env (firstIterPos [⟨tg, iter, ifs, 0⟩] pos) newDict false (eval iter X.env) (some (assign (.Name y py) X.env))) _ _ s
  have h' : tDc wi g tt tk tv (own.map (·.2)) σ H (fun x H1 => gName i x σ H1 D.nx) := h
  refine wpAny_bind (thn (dc_core (Qf := fun _ s' => SP X pins D .next s') hc hN I hi ok hg ht hk he hs h' fun L C s' m H' I' q hn f => ?_) fun _ s' hq => wpAny_pure (wpAny_pure hq))
  show wpAny _ _ (assign (.Name y py) X.env (.ref L)) _ _ _
  refine wpAny_assign_Name (store_ok2 (v := V.ref L) I' hN hy (.inl hyl) rfl (fun s2 I2 ⟨a, sb, ha⟩ => ?_) (.inr hyl))
  obtain ⟨f0, f1, f2, f3, f4, f5⟩ := f
  have apart : C ≠ a := ha.elim (fun z => by rw [z]; exact f1) fun z e => f4 y a z e.symm
  exact ⟨m, hn.sameBut sb apart, fun h3 sb3 => ⟨_, H', I2.turned (t' := s2.toks) (fun b o hb e => (sb3.2 b hb).trans e) f0 f1 f3 f4 f5, q⟩⟩
end
end Cw
set_option Elab.async false
set_option linter.all false
set_option maxRecDepth 100000
set_option maxHeartbeats 4000000
namespace Cw
open PySem PySem.Spec PyProof.Rows L2 Evl
/-! ### xs != [], xs.pop() -/
theorem dps_strs {K : PySem.W.Frag} {H : Hp} : ∀ ss : List Str, DpAll K H (ss.map V.str) (ss.map PyData.str)
  | [] => .nil
  | s :: ss => .cons (.str s) (dps_strs ss)
theorem lay_strs : ∀ ss : List Str, (∀ s ∈ ss, PyData.strOk s = true) → PyData.canLayAll0 (ss.map PyData.str) = true ∧ PyData.depthAll (ss.map PyData.str) = 0
  | [], _ => ⟨rfl, rfl⟩
  | s :: ss, h => by
    obtain ⟨h1, h2⟩ := lay_strs ss fun x hx => h x (List.mem_cons_of_mem _ hx)
    refine ⟨?_, ?_⟩
    · show (PyData.canLay0 (.str s) && PyData.canLayAll0 (ss.map PyData.str)) = true
      rw [h1, Bool.and_true]
      exact h s List.mem_cons_self
    · show max (PyData.depth (.str s)) (PyData.depthAll (ss.map PyData.str)) = 0
      rw [h2]
      rfl
theorem bS_ok (l : List Bool) : PyData.strOk (bS l) = true := by
  unfold PyData.strOk bS
  rw [List.all_toArray, List.all_eq_true]
  intro c hc
  obtain ⟨b, _, rfl⟩ := List.mem_map.mp hc
  cases b <;> decide
theorem shaped_strs {ss : List Str} (h : ∀ s ∈ ss, PyData.strOk s = true) : SeqAt.shaped (.list (ss.map PyData.str)) = true := by
  obtain ⟨h1, h2⟩ := lay_strs ss h
  show (PyData.canLayAll0 (ss.map PyData.str) && decide (PyData.depthAll (ss.map PyData.str) + 1 ≤ 64)) = true
  rw [h1, h2]
  decide
theorem eqv_nil : ∀ ds : List PyData, PyData.eqv (.list ds) (.list []) = ds.isEmpty
  | [] => rfl
  | _ :: _ => rfl
theorem dpall_len {K : PySem.W.Frag} {H : Hp} : ∀ {xs : List V} {ds : List PyData}, DpAll K H xs ds → xs.isEmpty = ds.isEmpty
  | _, _, .nil => rfl
  | _, _, .cons _ _ => rfl
section
variable {K : PySem.W.Frag} {σ : L2.St} {H H' : Hp} {ta tb te : TE}
theorem ev_neE {a : Addr} {xs : List V} {ds : List PyData} (h : Ev ta σ H (.ref a)) (hs : SqL K H a xs) (hd : ∀ H1, Ex H H1 → DpAll K H1 xs ds) (hsh : SeqAt.shaped (.list ds) = true) (he : EvL tb σ H []) : Ev (tOp (rNeD K) ta tb) σ H (.bl (!xs.isEmpty)) := fun H1 e Q q =>
  h H1 e _ fun H2 e2 => he H2 (e.trans e2) _ fun p H3 _ e3 hp => by
    refine ⟨.list ds, .list [], .lst (ex_l ((e.trans e2).trans e3) hs) (hd H3 ((e.trans e2).trans e3)), .lst (sq_of hp) .nil, hsh, by decide, ?_⟩
    rw [eqv_nil, ← dpall_len (hd H (Ex.refl H))]
    exact q H3 (e2.trans e3)
variable {D : Ends}
theorem s_pop {l : Addr} {xs : List V} {y : V} (hl : H l = some (.lst (xs ++ [y]))) (ha : Ev ta σ H (.ref l)) (k : ∀ H1, Ex H H1 → D.nx σ (upd H1 l (.lst xs))) : tDrop (tBM0 K "list" rPop ta) D σ H := ha H (Ex.refl H) _ fun H1 e1 =>
  ⟨Or.inl ⟨rfl, _, sq_of (e1 l _ hl)⟩, l, xs ++ [y], y, rfl, rfl, e1 l _ hl, by simp, by rw [List.dropLast_concat]; exact k H1 e1⟩
theorem el_cat {xs ys : List V} (h1 : EvL ta σ H xs) (h2 : EvL tb σ H ys) (hz : xs.length + ys.length ≤ 100000) : EvL (tOp rCat ta tb) σ H (xs ++ ys) := fun H1 e Q q =>
  h1 H1 e _ fun p H2 hp e2 hx => h2 H2 (e.trans e2) _ fun r H3 hr e3 hy => ⟨p, r, xs, ys, rfl, rfl, e3 _ _ hx, hy, sz_of hz, fun o ho => q o _ (fresh_back (e2.trans e3) ho) ((e2.trans e3).trans (Ex.new ho)) upd_same⟩
end
/-! ### the mirror -/
abbrev Cell := List Bool × Int × Nat
def updC (n : Nat) (f : List Cell) (p t : List Bool) : List Cell := f.map fun c => if c.1 = p then (c.1, c.2.1 - ((2 ^ (n - t.length) : Nat) : Int), if c.2.2 = beginOf n t then beginOf n t + 2 ^ (n - t.length) else c.2.2) else c
def topC (n : Nat) (f : List Cell) (t : List Bool) : List (List Bool) → List Cell
  | [] => f
  | p :: _ => updC n f p t
def stepC (n : Nat) (st : List Cell × List (List Bool)) (t : List Bool) : List Cell × List (List Bool) :=
  (topC n st.1 t (st.2.dropWhile fun p => !p.isPrefixOf t), t :: st.2.dropWhile fun p => !p.isPrefixOf t)
def initC (n : Nat) (zs : List (List Bool)) : List Cell := zs.map fun l => (l, ((2 ^ (n - l.length) : Nat) : Int), beginOf n l)
def cellsOf (n : Nat) (zs : List (List Bool)) : List Cell := (zs.foldl (stepC n) (initC n zs, [])).1
/-- the order of texts -/
def LexB (a b : List Bool) : Prop := (∃ c, c ≠ [] ∧ b = a ++ c) ∨ ∃ p x y, a = p ++ false :: x ∧ b = p ++ true :: y
theorem lex_of : ∀ {a b : List Bool}, a.map cb < b.map cb → LexB a b
  | [], [], h => absurd h (List.lt_irrefl _)
  | [], b :: y, _ => .inl ⟨b :: y, by simp, rfl⟩
  | a :: x, [], h => by simp at h
  | a :: x, b :: y, h => by
    rw [List.map_cons, List.map_cons] at h
    rcases List.cons_lt_cons_iff.mp h with h1 | ⟨h1, h2⟩
    · cases a <;> cases b
      · exact absurd h1 (Nat.lt_irrefl _)
      · exact .inr ⟨[], x, y, rfl, rfl⟩
      · exact absurd h1 (by decide)
      · exact absurd h1 (Nat.lt_irrefl _)
    · obtain rfl := cb_inj h1
      rcases lex_of h2 with ⟨c, h3, rfl⟩ | ⟨p, u, v, rfl, rfl⟩
      · exact .inl ⟨c, h3, rfl⟩
      · exact .inr ⟨a :: p, u, v, rfl, rfl⟩
/-- the cells as they stand in a dict; as they come back in a list -/
def InD (H : Hp) (c : Cell) (kv : Key × V) : Prop := kv.1 = .inr (bS c.1) ∧ ∃ T, kv.2 = .ref T ∧ H T = some (.tup [.int c.2.1, .int (c.2.2 : Int)])
def cellV (n : Nat) (c : Cell) : List V := [.str (bS c.1), .int c.2.1, if 0 < c.2.1 then .str (bS (numB n c.2.2)) else .non]
def InL (n : Nat) (H : Hp) (c : Cell) (v : V) : Prop := ∃ T, v = .ref T ∧ H T = some (.tup (cellV n c))
def CellsL (n : Nat) (cs : List Cell) (p : Addr) (H : Hp) : Prop := ∃ ys, H p = some (.lst ys) ∧ Paired (InL n H) cs ys
theorem inD_tk {H H' : Hp} (e : Tk H H') {c : Cell} {kv : Key × V} (h : InD H c kv) : InD H' c kv := ⟨h.1, let ⟨T, h1, h2⟩ := h.2; ⟨T, h1, e _ _ h2⟩⟩
theorem inD_keys {H : Hp} : ∀ {cs : List Cell} {kvs : List (Key × V)}, Paired (InD H) cs kvs → kvs.map (·.1) = cs.map fun c => (.inr (bS c.1) : Key)
  | _, _, .nil => rfl
  | _, _, .cons h t => by rw [List.map_cons, List.map_cons, inD_keys t, h.1]
theorem valV_of {H : Hp} {p : List Bool} : ∀ {cs : List Cell} {kvs : List (Key × V)}, Paired (InD H) cs kvs → ∀ {c : Cell}, c ∈ cs → (cs.map (·.1)).Nodup → ∃ T, valV kvs (.inr (bS c.1)) = some (.ref T) ∧ H T = some (.tup [.int c.2.1, .int (c.2.2 : Int)])
  | _, _, .nil, c, h, _ => by cases h
  | c0 :: cs, kv :: kvs, .cons h t, c, hc, nd => by
    obtain ⟨h1, T, h2, h3⟩ := h
    rcases List.mem_cons.mp hc with rfl | hc
    · exact ⟨T, by rw [valV_pos h1, h2], h3⟩
    · rw [List.map_cons] at nd
      have ne : c0.1 ≠ c.1 := fun e => (List.nodup_cons.mp nd).1 (e ▸ List.mem_map_of_mem hc)
      rw [valV_neg (by rw [h1]; intro e; exact ne (bS_inj (Sum.inr.inj e)))]
      exact valV_of (p := p) t hc (List.nodup_cons.mp nd).2
theorem put_of {n : Nat} {H : Hp} {p t : List Bool} {T : Addr} : ∀ {cs : List Cell} {kvs : List (Key × V)}, Paired (InD H) cs kvs → ∀ {c : Cell}, c ∈ cs → c.1 = p → (cs.map (·.1)).Nodup →
    H T = some (.tup [.int (c.2.1 - ((2 ^ (n - t.length) : Nat) : Int)), .int ((if c.2.2 = beginOf n t then beginOf n t + 2 ^ (n - t.length) else c.2.2 : Nat) : Int)]) →
    Paired (InD H) (updC n cs p t) (kvs.map fun kv => if kv.1 = .inr (bS p) then (kv.1, .ref T) else kv)
  | _, _, .nil, _, _, _, _, _ => .nil
  | c0 :: cs, kv :: kvs, .cons h tl, c, hc, hp, nd, hT => by
    rw [List.map_cons] at nd
    obtain ⟨nd1, nd2⟩ := List.nodup_cons.mp nd
    unfold updC
    rw [List.map_cons, List.map_cons]
    by_cases e : c0.1 = p
    · have ec : c = c0 := by
        rcases List.mem_cons.mp hc with rfl | hc
        · rfl
        · exact absurd (show c0.1 ∈ cs.map (·.1) by rw [e, ← hp]; exact List.mem_map_of_mem hc) nd1
      subst ec
      have k1 : kv.1 = .inr (bS p) := by rw [h.1, e]
      have g1 : (if c.1 = p then ((c.1, c.2.1 - ((2 ^ (n - t.length) : Nat) : Int), if c.2.2 = beginOf n t then beginOf n t + 2 ^ (n - t.length) else c.2.2) : Cell) else c) = (c.1, c.2.1 - ((2 ^ (n - t.length) : Nat) : Int), if c.2.2 = beginOf n t then beginOf n t + 2 ^ (n - t.length) else c.2.2) := if_pos e
      have g2 : (if kv.1 = .inr (bS p) then (kv.1, V.ref T) else kv) = (kv.1, V.ref T) := if_pos k1
      rw [g1, g2]
      refine .cons ⟨h.1, T, rfl, hT⟩ ?_
      have rest : ∀ {cs : List Cell} {kvs : List (Key × V)}, Paired (InD H) cs kvs → p ∉ cs.map (·.1) → Paired (InD H) (cs.map fun c => if c.1 = p then (c.1, c.2.1 - ((2 ^ (n - t.length) : Nat) : Int), if c.2.2 = beginOf n t then beginOf n t + 2 ^ (n - t.length) else c.2.2) else c) (kvs.map fun kv => if kv.1 = .inr (bS p) then (kv.1, .ref T) else kv) := by
        intro cs kvs h
        induction h with
        | nil => exact fun _ => .nil
        | @cons c1 kv1 cs1 kvs1 h _ ih =>
          intro np
          rw [List.map_cons, List.mem_cons, not_or] at np
          have n2 : kv1.1 ≠ .inr (bS p) := by rw [h.1]; intro z; exact np.1 (bS_inj (Sum.inr.inj z)).symm
          have g1 : (if c1.1 = p then ((c1.1, c1.2.1 - ((2 ^ (n - t.length) : Nat) : Int), if c1.2.2 = beginOf n t then beginOf n t + 2 ^ (n - t.length) else c1.2.2) : Cell) else c1) = c1 := if_neg fun z => np.1 z.symm
          have g2 : (if kv1.1 = .inr (bS p) then (kv1.1, V.ref T) else kv1) = kv1 := if_neg n2
          rw [List.map_cons, List.map_cons, g1, g2]
          exact .cons h (ih np.2)
      exact rest tl (by rw [← e]; exact nd1)
    · have n2 : kv.1 ≠ .inr (bS p) := by rw [h.1]; intro z; exact e (bS_inj (Sum.inr.inj z))
      have g1 : (if c0.1 = p then ((c0.1, c0.2.1 - ((2 ^ (n - t.length) : Nat) : Int), if c0.2.2 = beginOf n t then beginOf n t + 2 ^ (n - t.length) else c0.2.2) : Cell) else c0) = c0 := if_neg e
      have g2 : (if kv.1 = .inr (bS p) then (kv.1, V.ref T) else kv) = kv := if_neg n2
      rw [g1, g2]
      refine .cons h (put_of tl ?_ hp nd2 hT)
      rcases List.mem_cons.mp hc with rfl | hc
      · exact absurd hp e
      · exact hc
theorem updC_keys (n : Nat) (f : List Cell) (p t : List Bool) : (updC n f p t).map (·.1) = f.map (·.1) := by
  unfold updC
  rw [List.map_map]
  refine List.map_congr_left fun c _ => ?_
  show (if c.1 = p then _ else c : Cell).1 = c.1
  split <;> rfl
theorem topC_keys (n : Nat) (f : List Cell) (t : List Bool) : ∀ r : List (List Bool), (topC n f t r).map (·.1) = f.map (·.1)
  | [] => rfl
  | p :: _ => updC_keys n f p t
theorem stepC_keys (n : Nat) (st : List Cell × List (List Bool)) (t : List Bool) : (stepC n st t).1.map (·.1) = st.1.map (·.1) := topC_keys ..
theorem foldC_keys (n : Nat) : ∀ (ts : List (List Bool)) (st : List Cell × List (List Bool)), (ts.foldl (stepC n) st).1.map (·.1) = st.1.map (·.1)
  | [], _ => rfl
  | t :: ts, st => (foldC_keys n ts _).trans (stepC_keys n st t)
theorem initC_keys (n : Nat) (zs : List (List Bool)) : (initC n zs).map (·.1) = zs := by
  unfold initC
  rw [List.map_map]
  exact List.map_id zs
theorem foldC_stk (n : Nat) : ∀ (ts : List (List Bool)) (st : List Cell × List (List Bool)) (x : List Bool), x ∈ (ts.foldl (stepC n) st).2 → x ∈ st.2 ∨ x ∈ ts
  | [], _, _, h => .inl h
  | t :: ts, st, x, h => by
    rcases foldC_stk n ts _ x h with z | z
    · have z : x ∈ t :: st.2.dropWhile (fun p => !p.isPrefixOf t) := z
      rcases List.mem_cons.mp z with rfl | z
      · exact .inr List.mem_cons_self
      · exact .inl ((List.dropWhile_sublist _).mem z)
    · exact .inr (List.mem_cons_of_mem _ z)
theorem merge_nd : ∀ zs : List (Key × V), (zs.map (·.1)).Nodup → mergeK [] zs = zs := fun zs => by
  have key : ∀ (zs kvs : List (Key × V)), ((kvs ++ zs).map (·.1)).Nodup → mergeK kvs zs = kvs ++ zs := by
    intro zs
    induction zs with
    | nil => intro kvs _; simp [mergeK]
    | cons z zs ih =>
      intro kvs nd
      have nw : valV kvs z.1 = none := by
        have h := valV_any z.1 kvs
        cases hv : valV kvs z.1 with
        | none => rfl
        | some v =>
          rw [hv] at h
          obtain ⟨kv, hkv, e⟩ := List.any_eq_true.mp h
          have e := of_decide_eq_true e
          rw [List.map_append, List.map_cons] at nd
          exact absurd e (by
            have := (List.nodup_append.mp nd).2.2 kv.1 (List.mem_map_of_mem hkv) z.1 List.mem_cons_self
            exact this)
      show mergeK (putK kvs z.1 z.2) zs = _
      rw [putK_new _ nw, ih _ (by simpa using nd)]
      simp
  exact fun nd => by simpa using key zs [] (by simpa using nd)
end Cw
set_option Elab.async false
set_option linter.all false
set_option maxRecDepth 100000
set_option maxHeartbeats 4000000
namespace Cw
open PySem PySem.Spec PyProof.Rows L2 Evl
/-! ### cell_rows -/
theorem strs_bits : ∀ {ys : List Str}, (∀ k ∈ ys, ∃ l, k = bS l) → ∃ zs : List (List Bool), ys = zs.map bS
  | [], _ => ⟨[], rfl⟩
  | y :: ys, h => by
    obtain ⟨l, rfl⟩ := h y List.mem_cons_self
    obtain ⟨zs, rfl⟩ := strs_bits fun k hk => h k (List.mem_cons_of_mem _ hk)
    exact ⟨l :: zs, rfl⟩
theorem rising_lt : ∀ {zs : List (List Bool)} {p : List Bool}, risingS (bS p) (zs.map bS) = true → (p :: zs).Nodup → (∀ z ∈ zs, p.map cb < z.map cb) ∧ List.Pairwise (fun a b : List Bool => a.map cb < b.map cb) zs
  | [], _, _, _ => ⟨fun _ h => by simp at h, List.Pairwise.nil⟩
  | z :: zs, p, h, nd => by
    have h : (!ltCps (bS z).cps.toList (bS p).cps.toList && risingS (bS z) (zs.map bS)) = true := h
    rw [Bool.and_eq_true, Bool.not_eq_true'] at h
    obtain ⟨h1, h2⟩ := h
    obtain ⟨nd1, nd2⟩ := List.nodup_cons.mp nd
    obtain ⟨r1, r2⟩ := rising_lt h2 nd2
    have le : ¬ z.map cb < p.map cb := fun x => by
      have : ltCps (z.map cb) (p.map cb) = true := by rw [ltCps_eq]; exact decide_eq_true x
      have h1 : ltCps (z.map cb) (p.map cb) = false := h1
      rw [this] at h1
      cases h1
    have ne : z.map cb ≠ p.map cb := fun e => nd1 (by rw [map_cb_inj e]; exact List.mem_cons_self)
    have lt : p.map cb < z.map cb := by
      rcases Classical.em (p.map cb < z.map cb) with x | x
      · exact x
      · exact absurd (List.le_antisymm (List.not_lt.mp x) (List.not_lt.mp le)) ne
    refine ⟨fun y hy => ?_, List.pairwise_cons.mpr ⟨r1, r2⟩⟩
    rcases List.mem_cons.mp hy with rfl | hy
    · exact lt
    · exact List.lt_trans lt (r1 y hy)
theorem sorted_lex {zs : List (List Bool)} (h : sortedS (zs.map bS) = true) (nd : zs.Nodup) : zs.Pairwise LexB := by
  cases zs with
  | nil => exact List.Pairwise.nil
  | cons z zs =>
    obtain ⟨h1, h2⟩ := rising_lt (show risingS (bS z) (zs.map bS) = true from h) nd
    exact List.pairwise_cons.mpr ⟨fun y hy => lex_of (h1 y hy), h2.imp lex_of⟩
theorem nodup_bS {zs : List (List Bool)} (h : (zs.map bS).Nodup) : zs.Nodup := List.Pairwise.of_map bS (fun _ _ hne e => hne (congrArg bS e)) h
theorem pg_tupK {X : Cx} {K : PySem.W.Frag} {pos : Pos} {es : List Expr} {k : Nat} {t : TGs} {n : Nat} (hK : X.K = K) (hc : X.calm = true) (h : PGs X es t)
    (hn : (assignEach es X.env).length = n := by rfl) (hst : (assignEach es X.env).findIdx? (·.1) = none := by rfl) : PG X (.Tuple es k pos) (gTup K n t) := hK ▸ pg_tup hc h hn hst
section
variable {P : Program} {w : World} {K : PySem.W.Frag} {mg : Str → Option Value} {base : Heap}
def spCellRows : Sp := fun vs H Q _ => ∃ (n : Nat) (st : Addr) (ss : List (List Bool)), vs = [.int (n : Int), .ref st] ∧ (1 ≤ n ∧ n ≤ 100) ∧ H st = some (.lst (ss.map fun l => .str (bS l))) ∧ ss.length < 60 ∧ (∀ l ∈ ss, l.length ≤ n) ∧
  ∀ zs : List (List Bool), zs.Nodup → (∀ l, l ∈ zs ↔ l ∈ ss ∨ l = []) → zs.Pairwise LexB → zs.length < 64 → RetN (CellsL n (cellsOf n zs)) H Q
abbrev txt (l : List Bool) : V := .str (bS l)
/-- what stands in the loop's turn -/
structure Lp (n : Nat) (H0 H : Hp) (zs : List (List Bool)) (d a : Addr) (cs : List Cell) (r : List (List Bool)) : Prop where
  ex : Ex H0 H
  dict : ∃ kvs, H d = some (.dK kvs) ∧ Paired (InD H) cs kvs
  stk : H a = some (.lst (r.reverse.map txt))
  keys : cs.map (·.1) = zs
  sub : ∀ x ∈ r, x ∈ zs
theorem ents_inD {n : Nat} {zs : List (List Bool)} {H : Hp} {is : List Nat} {ps : List (Key × V)} (h : Ents is (fun i => (.inr (bS ((zs[i]?).getD [])) : Key)) (fun i v H => ∃ T, v = .ref T ∧ H T = some (.tup [.int ((2 ^ (n - ((zs[i]?).getD []).length) : Nat) : Int), .int (beginOf n ((zs[i]?).getD []) : Nat)])) ps H) :
    Paired (InD H) (initC n (is.map fun i => (zs[i]?).getD [])) ps := by
  unfold Ents at h
  induction h with
  | nil => exact .nil
  | cons h t ih =>
    obtain ⟨h1, T, h2, h3⟩ := h
    exact .cons ⟨h1, T, h2, h3⟩ ih
theorem range_getD (zs : List (List Bool)) : (List.range zs.length).map (fun i => (zs[i]?).getD []) = zs := by
  refine List.ext_getElem (by simp) fun i h1 h2 => ?_
  rw [List.getElem_map, List.getElem_range, List.getElem?_eq_getElem h2]
  rfl
theorem u1 {k : Nat} {A : Around} (r : Room k A) : A.units + 1 < cLine := by have := r.un; omega
theorem u64 {k : Nat} {A : Around} (r : Room k A) : A.units + 64 < cLine := by have := r.un; omega
theorem paired_mem {α β : Type} {F : α → β → Prop} : ∀ {as : List α} {bs : List β}, Paired F as bs → ∀ (i : Nat) (b : β), bs[i]? = some b → ∃ a, as[i]? = some a ∧ F a b
  | _, _, .nil, i, b, h => by simp at h
  | _, _, .cons r t, 0, b, h => by
    simp at h
    subst h
    exact ⟨_, rfl, r⟩
  | _, _, .cons r t, i + 1, b, h => paired_mem t i b (by simpa using h)
theorem foldC_len (n : Nat) : ∀ (ts : List (List Bool)) (st : List Cell × List (List Bool)), (ts.foldl (stepC n) st).2.length ≤ st.2.length + ts.length
  | [], _ => Nat.le_refl _
  | t :: ts, st => by
    have h := foldC_len n ts (stepC n st t)
    have h2 : (stepC n st t).2.length ≤ st.2.length + 1 := by
      show (t :: st.2.dropWhile (fun p => !p.isPrefixOf t)).length ≤ _
      rw [List.length_cons]
      have := (List.dropWhile_sublist (fun p : List Bool => !p.isPrefixOf t) (l := st.2)).length_le
      omega
    show ((ts.foldl (stepC n) (stepC n st t))).2.length ≤ _
    rw [List.length_cons]
    omega
theorem paired_range {α β : Type} [Inhabited α] {d : α} {F : α → β → Prop} : ∀ {as : List α} {bs : List β}, Paired (fun (i : Nat) b => F (as[i]?.getD d) b) (List.range as.length) bs → Paired F as bs := by
  intro as bs h
  have key : ∀ (is : List Nat) (bs : List β), Paired (fun (i : Nat) b => F (as[i]?.getD d) b) is bs → Paired F (is.map fun i => as[i]?.getD d) bs := by
    intro is bs h
    induction h with
    | nil => exact .nil
    | cons r _ ih => exact .cons r ih
  have h2 := key _ _ h
  have e : (List.range as.length).map (fun i => as[i]?.getD d) = as := by
    refine List.ext_getElem (by simp) fun i h1 h2 => ?_
    rw [List.getElem_map, List.getElem_range, List.getElem?_eq_getElem h2] <;> rfl
  rw [e] at h2
  exact h2
theorem q_par {σ : L2.St} {H : Hp} {D : Ends} {tz : TS} {ta : TA} {i j : Nat} {v w : V} (h : EvA ta σ H [v, w]) (k : ∀ H1, Ex H H1 → tz D ((σ.set i (some v)).set j (some w)) H1) : tSeq (tPar i j ta) tz D σ H := h H (Ex.refl _) _ fun H1 e => ⟨v, w, rfl, k H1 e⟩
theorem q_pair {K : PySem.W.Frag} {σ : L2.St} {H : Hp} {D : Ends} {tz : TS} {te : TE} {i j : Nat} {v w : V} {T : Addr} (h : Ev te σ H (.ref T)) (hT : H T = some (.tup [v, w])) (k : ∀ H1, Ex H H1 → tz D ((σ.set i (some v)).set j (some w)) H1) : tSeq (tAsg te (gTup K 2 (gCons (gName i) (gCons (gName j) gNil)))) tz D σ H :=
  h H (Ex.refl _) _ fun H1 e => ⟨T, _, rfl, st_of (e _ _ hT), rfl, _, _, rfl, _, _, rfl, rfl, k H1 e⟩
theorem ev_m1 {σ : L2.St} {H : Hp} : Ev (tUn (rU fun i => .int (-i)) (tC (.int 1))) σ H (.int (-1)) := fun H1 _ Q q => ⟨1, rfl, q H1 (Ex.refl _)⟩
theorem any_key {H : Hp} {cs : List Cell} {kvs : List (Key × V)} (h : Paired (InD H) cs kvs) {p : List Bool} (hp : p ∈ cs.map (·.1)) : (kvs.any fun kv => decide (kv.1 = (.inr (bS p) : Key))) = true := by
  have hk := inD_keys h
  obtain ⟨c, hc, rfl⟩ := List.mem_map.mp hp
  have hm : (.inr (bS c.1) : Key) ∈ kvs.map (·.1) := by rw [hk]; exact List.mem_map.mpr ⟨c, hc, rfl⟩
  obtain ⟨kv, h1, h2⟩ := List.mem_map.mp hm
  exact List.any_eq_true.mpr ⟨kv, h1, decide_eq_true h2⟩
theorem drop_stop {r : List (List Bool)} {t : List Bool} (h : r = [] ∨ ∃ p r', r = p :: r' ∧ p.isPrefixOf t = true) : (r.dropWhile fun p => !p.isPrefixOf t) = r := by
  rcases h with rfl | ⟨p, r', rfl, hp⟩
  · rfl
  · rw [List.dropWhile_cons, hp] <;> rfl
theorem dps_bS {K : PySem.W.Frag} {H : Hp} (ls : List (List Bool)) : DpAll K H (ls.map txt) ((ls.map bS).map PyData.str) := by
  have h := dps_strs (K := K) (H := H) (ls.map bS)
  rw [List.map_map] at h
  exact h
theorem shaped_bS (ls : List (List Bool)) : SeqAt.shaped (.list ((ls.map bS).map PyData.str)) = true := shaped_strs fun s hs => by
  obtain ⟨l, _, rfl⟩ := List.mem_map.mp hs
  exact bS_ok l
/-- the stack is written anew -/
theorem Lp.write {n : Nat} {H0 H H' : Hp} {zs : List (List Bool)} {d a : Addr} {cs : List Cell} {r r' : List (List Bool)} (L : Lp n H0 H zs d a cs r) (e : Ex H H') (ha : H0 a = none) (had : a ≠ d) (hr : ∀ x ∈ r', x ∈ zs) : Lp n H0 (upd H' a (.lst (r'.reverse.map txt))) zs d a cs r' :=
  ⟨Ex.mut (L.ex.trans e) ha, let ⟨kvs, k1, k2⟩ := L.dict; ⟨kvs, (upd_ne (Ne.symm had)).trans (e _ _ k1), L2.Paired.mapP k2 fun c kv h => inD_tk (tk_trans (tk_ex e) (tk_upd (e _ _ L.stk) fun xs z => by cases z)) h⟩, upd_same, L.keys, hr⟩
theorem Lp.on {n : Nat} {H0 H H' : Hp} {zs : List (List Bool)} {d a : Addr} {cs : List Cell} {r : List (List Bool)} (L : Lp n H0 H zs d a cs r) (e : Ex H H') : Lp n H0 H' zs d a cs r :=
  ⟨L.ex.trans e, let ⟨kvs, k1, k2⟩ := L.dict; ⟨kvs, e _ _ k1, L2.Paired.mapP k2 fun c kv h => inD_tk (tk_ex e) h⟩, e _ _ L.stk, L.keys, L.sub⟩
set_option maxHeartbeats 8000000 in
theorem kp_cell_rows (B : Bt mg) (D : Df K mg "cell_rows" s_cell_rows) (k1 : Kp P w K mg base 2 "size_of" ["width", "stretch"] spSizeOf) (k2 : Kp P w K mg base 2 "begin_of" ["width", "stretch"] spBeginOf) (k3 : Kp P w K mg base 2 "address_of" ["width", "begin"] spAddrOf) :
    Kp P w K mg base 3 "cell_rows" ["width", "stretches"] spCellRows := by
  refine kp_of D sc_cell_rows (fun _ _ _ _ _ _ us hl => match us, hl with | [_, _], _ => rfl) (fun vs H Q E h => ?_) (fun cdv A outer s H vs Q E hr h => ?_)
  · obtain ⟨n, st, ss, rfl, _⟩ := h
    rfl
  · obtain ⟨n, st, ss, rfl, hn, hst, h60, hle, q⟩ := h
    refine ⟨_, pss_cons (ps_set (i := 2) sc_cell_rows.nd rfl (Or.inl rfl) (pe_callB (cr_sortTx rfl) (by rfl) B.sorted boot_sorted (pa_cons (pe_callTy (cr_setTx rfl) (by rfl) B.set boot_set (pa_cons (pe_op op_cat (pe_callTy cr_listS (by rfl) B.list boot_list (pa_cons (pv 1) pa_nil)) (pe_lst (pa_cons pe_str pa_nil))) pa_nil)) pa_nil)))
      (pss_cons (ps_setDc (i := 3) (own := [("stretch", 5)]) (g := gName 5) (by rfl) sc_cell_rows.nd rfl rfl (by rfl) (pi_list (pv 2)) (blkOk_by (N := ["width", "stretches", "ordered", "left", "around", "stretch", "size", "begin", "many", "start", "one"]) (sc := defScope s_cell_rows) (by decide +kernel))
        (fun _ _ _ _ _ => pg_name (i := 5) sc_cell_rows.nd rfl (Or.inl rfl)) (fun _ _ _ _ _ => pts_nil) (fun _ _ _ _ _ => pv 5) (fun _ _ _ _ _ => pe_tup (pa_cons (pe_k k1 hr (pa_cons (pv 0) (pa_cons (pv 5) pa_nil))) (pa_cons (pe_k k2 hr (pa_cons (pv 0) (pa_cons (pv 5) pa_nil))) pa_nil))))
      (pss_cons (ps_set (i := 4) sc_cell_rows.nd rfl (Or.inl rfl) (pe_lst pa_nil))
      (pss_cons (ps_for PassesOwn.never rfl (pi_list (pv 2)) (pg_name (i := 5) sc_cell_rows.nd rfl (Or.inl rfl))
        (pss_cons (ps_while PassesOwn.never (PW.pt (pw_and (pt_cmpR (op_neD (u64 hr)) (pv 4) (pe_lst pa_nil) (nomark _)) (pw_and1 (pt_not (pt_val (pe_m1 F.slot_str_startswith F.type_str_startswith mt_starts (pv 5) (pe_ix ix_list (pv 4) (pe_un un_neg pe_int) (by intro _ _; rfl))))))))
          (pss_one (ps_expr (pe_bm0 F.plainAttrs_list F.slot_list_pop F.type_list_pop mt_pop (pv 4)))))
        (pss_cons (ps_if (pt_cmpR (op_neD (u64 hr)) (pv 4) (pe_lst pa_nil) (nomark _))
          (pss_cons (ps_par (i := 6) (j := 7) (by rfl) sc_cell_rows.nd rfl rfl (by decide) rfl rfl (pa_cons (pe_k k1 hr (pa_cons (pv 0) (pa_cons (pv 5) pa_nil))) (pa_cons (pe_k k2 hr (pa_cons (pv 0) (pa_cons (pv 5) pa_nil))) pa_nil)) (by rfl))
          (pss_cons (ps_asg (pe_dget (u1 hr) (pv 3) (pe_ix ix_list (pv 4) (pe_un un_neg pe_int) (by intro _ _; rfl)) (by intro _ _; rfl)) (pg_tup (by rfl) (pgs_cons (pg_name (i := 8) sc_cell_rows.nd rfl (.inl rfl)) (pgs_cons (pg_name (i := 9) sc_cell_rows.nd rfl (.inl rfl)) pgs_nil))))
          (pss_one (ps_dput (u1 hr) (pv 3) (pe_ix ix_list (pv 4) (pe_un un_neg pe_int) (by intro _ _; rfl)) (pe_tup (pa_cons (pe_op op_sub (pv 8) (pv 6)) (pa_cons (pe_ifExp (pt_cmpR op_eq (pv 9) (pv 7) (nomark _)) (pe_op op_add (pv 7) (pv 6)) (pv 9)) pa_nil))) (by rfl)))))
          pss_nil)
        (pss_one (ps_expr (pe_bm F.plainAttrs_list F.slot_list_append F.type_list_append mt_append (pv 4) (pa_cons (pv 5) pa_nil)))))))
      (pss_one (ps_ret (pe_lock (pe_lc (own := [("one", 10), ("many", 8), ("start", 9)]) (g := gTup K 2 (gCons (gName 10) (gCons (gTup K 2 (gCons (gName 8) (gCons (gName 9) gNil))) gNil))) (by rfl) sc_cell_rows.nd (pi_items (pv 3)) (blkOk_by (N := ["width", "stretches", "ordered", "left", "around", "stretch", "size", "begin", "many", "start", "one"]) (sc := defScope s_cell_rows) (by decide +kernel))
        (fun _ _ _ _ _ => pg_tupK (K := K) rfl (by rfl) (pgs_cons (pg_name (i := 10) sc_cell_rows.nd rfl (.inl rfl)) (pgs_cons (pg_tupK (K := K) rfl (by rfl) (pgs_cons (pg_name (i := 8) sc_cell_rows.nd rfl (.inl rfl)) (pgs_cons (pg_name (i := 9) sc_cell_rows.nd rfl (.inl rfl)) pgs_nil))) pgs_nil)))
        (fun _ _ _ _ _ => pts_nil)
        (fun _ _ _ _ _ => pe_tup (pa_cons (pv 10) (pa_cons (pv 8) (pa_cons (pe_ifExp (pt_cmpR op_gt (pv 8) pe_int (nomark _)) (pe_k k3 hr (pa_cons (pv 0) (pa_cons (pv 9) pa_nil))) pe_non) pa_nil))))))))))), ?_⟩
    have ecat : EvL (tOp rCat (tCB (rListS K) (tCons (tVar 1) tNil)) (tLst (tCons (tC (.str "")) tNil))) (L2.start ["width", "stretches", "ordered", "left", "around", "stretch", "size", "begin", "many", "start", "one"] [.int (n : Int), .ref st]) H ((ss.map bS ++ [bS []]).map V.str) := by
      have h1 := el_cat (el_listS (K := K) (σ := L2.start ["width", "stretches", "ordered", "left", "around", "stretch", "size", "begin", "many", "start", "one"] [.int (n : Int), .ref st]) (H := H) (ea_cons (ev_var (i := 1) rfl) ea_nil) (.inl (sq_of hst))) (el_lst (ea_cons (ev_c (v := .str "")) ea_nil) (by decide)) (by simp; omega)
      rw [List.map_append, List.map_map]
      rw [bS_nil] at h1
      exact h1
    refine q_asgN (en_sortset (X := (cxOf CX0 P w K mg base ["width", "stretches", "ordered", "left", "around", "stretch", "size", "begin", "many", "start", "one"] "cell_rows" (defScope s_cell_rows) (He.ga K "cell_rows") cdv A outer s H E).nox) ecat (by simp; omega)) fun o H1 ho e1 ⟨ys, y1, y2, y3, y4, y5⟩ => ?_
    obtain ⟨zs, rfl⟩ : ∃ zs : List (List Bool), ys = zs.map bS := strs_bits fun k hk => by
      rcases List.mem_append.mp ((y2 k).mp hk) with z | z
      · obtain ⟨l, _, e⟩ := List.mem_map.mp z
        exact ⟨l, e.symm⟩
      · exact ⟨[], List.mem_singleton.mp z⟩
    have znd : zs.Nodup := nodup_bS y1
    have zmem : ∀ l, l ∈ zs ↔ l ∈ ss ∨ l = [] := fun l => by
      have h1 := y2 (bS l)
      constructor
      · intro hl
        rcases List.mem_append.mp (h1.mp (List.mem_map_of_mem hl)) with z | z
        · obtain ⟨m, hm, e⟩ := List.mem_map.mp z
          exact .inl (bS_inj e ▸ hm)
        · exact .inr (bS_inj (List.mem_singleton.mp z))
      · intro hl
        have : bS l ∈ zs.map bS := h1.mpr (by
          rcases hl with hl | rfl
          · exact List.mem_append_left _ (List.mem_map_of_mem hl)
          · exact List.mem_append_right _ (List.mem_singleton.mpr rfl))
        obtain ⟨m, hm, e⟩ := List.mem_map.mp this
        exact bS_inj e ▸ hm
    have zlen : zs.length < 64 := by simp at y4; omega
    have zle : ∀ l ∈ zs, l.length ≤ n := fun l hl => by
      rcases (zmem l).mp hl with z | rfl
      · exact hle l z
      · simp
    have q2 := q zs znd zmem (sorted_lex y3 znd) zlen
    have hzs : H1 o = some (.lst (zs.map txt)) := by rw [y5, List.map_map] <;> rfl
    have gd : ∀ (i : Nat) l, zs[i]? = some l → (zs[i]?).getD [] = l := fun i l hl => by rw [hl] <;> rfl
    refine q_asgN (en_dc (f := fun _ => true) (key := fun i => (.inr (bS ((zs[i]?).getD [])) : Key)) (E := fun i v H => ∃ T, v = .ref T ∧ H T = some (.tup [.int ((2 ^ (n - ((zs[i]?).getD []).length) : Nat) : Int), .int (beginOf n ((zs[i]?).getD []) : Nat)]))
      (ei_list (K := K) (ev_var rfl) (sq_of hzs)) (by rw [List.length_map]; omega) (fun i v Ha Hb tk ⟨T, h1, h2⟩ => ⟨T, h1, tk _ _ h2⟩) fun i x H' hi e hx => ?_) fun d H2 hd e2 ⟨ps, d1, d2⟩ => ?_
    · rw [List.getElem?_map] at hx
      obtain ⟨l, hl, rfl⟩ := Option.map_eq_some_iff.mp hx
      have hlz := zle l (List.mem_of_getElem? hl)
      refine ⟨_, ?_, eg_name, et_yes, fun _ => ⟨?_, ?_⟩⟩
      · rfl
      · show Ev _ _ _ (.str (bS ((zs[i]?).getD [])))
        rw [gd i l hl]
        exact ev_var rfl
      · rw [gd i l hl]
        exact EvN.p (en_u (eu_tup (ea_cons (ev_call0 (ea_cons (ev_var rfl) (ea_cons (ev_var rfl) ea_nil)) fun H1 e Q q E => ⟨n, l, rfl, ⟨hlz, hn.2⟩, fun H2 e2 => q H2 e2⟩) (ea_cons (ev_call0 (ea_cons (ev_var rfl) (ea_cons (ev_var rfl) ea_nil)) fun H1 e Q q E => ⟨n, l, rfl, ⟨hlz, hn.2⟩, fun H2 e2 => q H2 e2⟩) ea_nil)) (by show 2 ≤ 100000; decide)))
    · rw [List.length_map, List.filter_eq_self.mpr fun _ _ => rfl] at d2
      have d3 := ents_inD d2
      rw [range_getD] at d3
      have d4 : mergeK [] ps = ps := merge_nd ps (by
        rw [inD_keys d3]
        have : (initC n zs).map (fun c => (.inr (bS c.1) : Key)) = ((initC n zs).map (·.1)).map fun l => (.inr (bS l) : Key) := by rw [List.map_map] <;> rfl
        rw [this, initC_keys]
        exact List.Pairwise.map _ (fun a b ne e => ne (bS_inj (Sum.inr.inj e))) znd)
      rw [d4] at d1
      refine q_asgL (el_lst ea_nil (by decide)) fun a H3 ha e3 ha3 => ?_
      have had : a ≠ d := fun z => by
        rw [z, d1] at ha
        cases ha
      have ha1 : H1 a = none := fresh_back e2 ha
      have start0 : Lp n H1 H3 zs d a (initC n zs) [] := ⟨e2.trans e3, ⟨ps, e3 _ _ d1, L2.Paired.mapP d3 fun c kv h => inD_tk (tk_ex e3) h⟩, ha3, initC_keys n zs, fun x hx => by cases hx⟩
      let st_ : Nat → List Cell × List (List Bool) := fun i => (zs.take i).foldl (stepC n) (initC n zs, [])
      have st_keys : ∀ i, (st_ i).1.map (·.1) = zs := fun i => (foldC_keys n _ _).trans (initC_keys n zs)
      refine q_forLn (K := K) (xs := zs.map txt) (ev_var rfl) (sq_of ((e2.trans e3) _ _ hzs)) (fun i σ H' => ∃ v5 v6 v7 v8 v9, σ = [some (.int (n : Int)), some (.ref st), some (.ref o), some (.ref d), some (.ref a), v5, v6, v7, v8, v9, none] ∧ Lp n H1 H' zs d a (st_ i).1 (st_ i).2)
        (fun H4 e4 => ⟨none, none, none, none, none, rfl, ⟨start0.ex.trans e4, ⟨ps, e4 _ _ (e3 _ _ d1), L2.Paired.mapP d3 fun c kv h => inD_tk (tk_ex (e3.trans e4)) h⟩, e4 _ _ ha3, initC_keys n zs, fun x hx => by cases hx⟩⟩)
        (fun i σ' H' _ ⟨_, _, _, _, _, _, L⟩ => sq_of (L.ex _ _ hzs)) (fun i x σ' H' hx ⟨v5, v6, v7, v8, v9, hσ, L⟩ => ?_) (fun σ' H' ⟨v5, v6, v7, v8, v9, hσ, L⟩ => ?_)
      · subst hσ
        rw [List.getElem?_map] at hx
        obtain ⟨t, ht, rfl⟩ := Option.map_eq_some_iff.mp hx
        have htz : t ∈ zs := List.mem_of_getElem? ht
        have htn := zle t htz
        have next : st_ (i + 1) = stepC n (st_ i) t := by
          show (zs.take (i + 1)).foldl _ _ = _
          rw [List.take_add_one, ht, List.foldl_append] <;> rfl
        generalize hcs : (st_ i).1 = cs at L
        generalize hr0 : (st_ i).2 = r0 at L
        have next1 : (st_ (i + 1)).1 = topC n cs t (r0.dropWhile fun p => !p.isPrefixOf t) := by
          rw [next, ← hcs, ← hr0] <;> rfl
        have next2 : (st_ (i + 1)).2 = t :: r0.dropWhile fun p => !p.isPrefixOf t := by
          rw [next, ← hr0] <;> rfl
        have stackE : ∀ {σ : L2.St} {H' : Hp} {cs' : List Cell} {rr : List (List Bool)}, σ[4]? = some (some (.ref a)) → Lp n H1 H' zs d a cs' rr → Ev (tOp (rNeD K) (tVar 4) (tLst tNil)) σ H' (.bl (!(rr.reverse.map txt).isEmpty)) := fun {σ H' cs' rr} h4 L =>
          ev_neE (ev_var h4) (sq_of L.stk) (fun _ _ => dps_bS _) (shaped_bS _) (el_lst ea_nil (by decide))
        have top_ : ∀ {σ : L2.St} {H' : Hp} {cs' : List Cell} {p : List Bool} {rr : List (List Bool)}, σ[4]? = some (some (.ref a)) → Lp n H1 H' zs d a cs' (p :: rr) → Ev (tOp (rIxL K) (tVar 4) (tUn (rU fun i => .int (-i)) (tC (.int 1)))) σ H' (.str (bS p)) := fun {σ H' cs' p rr} h4 L =>
          ev_op (ev_var h4) ev_m1 (rv_ixL (sq_of L.stk) (by rw [List.reverse_cons, List.map_append]; exact atI_last _ _))
        refine q_while (fun m σ H' => ∃ rr, m = rr.length ∧ σ = [some (.int (n : Int)), some (.ref st), some (.ref o), some (.ref d), some (.ref a), some (.str (bS t)), v6, v7, v8, v9, none] ∧ Lp n H1 H' zs d a cs rr ∧ (rr.dropWhile fun p => !p.isPrefixOf t) = r0.dropWhile fun p => !p.isPrefixOf t) r0.length ⟨r0, rfl, rfl, L, rfl⟩ ?_
        rintro m σ H4 ⟨rr, rfl, rfl, L4, hdr⟩
        rcases Classical.em (rr = [] ∨ ∃ p r', rr = p :: r' ∧ p.isPrefixOf t = true) with hs | hs
        · refine ⟨false, ?_, fun z => absurd z Bool.false_ne_true, fun _ H5 e5 => ?_⟩
          · rcases hs with rfl | ⟨p, r', rfl, hp⟩
            · exact et_is (et_and (a := false) (b := false) (et_is (et_test (stackE rfl L4)) rfl) fun z => nomatch z) rfl
            · exact et_is (et_and (a := true) (b := false) (et_is (et_test (stackE rfl L4)) (by simp)) fun _ => et_is (et_not (et_B (ev_starts (ev_var rfl) (top_ rfl L4)))) (by rw [bS_starts, hp] <;> rfl)) rfl
          · have hrr : r0.dropWhile (fun p => !p.isPrefixOf t) = rr := by rw [← hdr, drop_stop hs]
            rw [hrr] at next1 next2
            have L5 := L4.on e5
            have app : ∀ (D' : Ends) (H' : Hp) (cs' : List Cell) (w6 w7 w8 w9 : Option V), (∀ σ H', (∃ v5 v6 v7 v8 v9, σ = [some (.int (n : Int)), some (.ref st), some (.ref o), some (.ref d), some (.ref a), v5, v6, v7, v8, v9, none] ∧ Lp n H1 H' zs d a (st_ (i + 1)).1 (st_ (i + 1)).2) → D'.nx σ H') →
                Lp n H1 H' zs d a cs' rr → (st_ (i + 1)).1 = cs' → tDrop (tBM K "list" rAppend (tVar 4) (tCons (tVar 5) tNil)) D' [some (.int (n : Int)), some (.ref st), some (.ref o), some (.ref d), some (.ref a), some (.str (bS t)), w6, w7, w8, w9, none] H' := fun D' H' cs' w6 w7 w8 w9 hD L' hc => by
              refine s_app L'.stk (ev_var rfl) (ev_var rfl) ?_ fun H7 e7 => hD _ _ ⟨_, _, _, _, _, rfl, ?_⟩
              · have h1 := foldC_len n (zs.take (i + 1)) (initC n zs, [])
                have h2 : (st_ (i + 1)).2.length ≤ _ := h1
                rw [next2, List.length_cons, List.length_take] at h2
                rw [List.length_map, List.length_reverse]
                simp at h2
                omega
              · rw [next2, hc]
                have := L'.write (r' := t :: rr) e7 ha1 had fun x hx => by
                  rcases List.mem_cons.mp hx with rfl | hx
                  · exact htz
                  · exact L'.sub x hx
                rw [List.reverse_cons, List.map_append] at this
                exact this
            refine q_when (et_test (stackE rfl L5)) (fun hb H6 e6 => ?_) fun hb H6 e6 => ?_
            · cases rr with
              | nil => cases hb
              | cons p rr =>
                have L6 := L5.on e6
                have hpz : p ∈ zs := L6.sub p List.mem_cons_self
                have hpn := zle p hpz
                obtain ⟨kvs, k1, k2⟩ := L6.dict
                obtain ⟨c, hc, hcp⟩ := List.mem_map.mp (show p ∈ cs.map (·.1) by rw [L6.keys]; exact hpz)
                have cnd : (cs.map (·.1)).Nodup := by rw [L6.keys]; exact znd
                obtain ⟨T, hv, hT⟩ := valV_of (p := p) k2 hc cnd
                rw [hcp] at hv
                refine q_par (v := .int ((2 ^ (n - t.length) : Nat) : Int)) (w := .int (beginOf n t : Nat)) (ea_cons (ev_call0 (ea_cons (ev_var rfl) (ea_cons (ev_var rfl) ea_nil)) fun H1 e Q q E => ⟨n, t, rfl, ⟨htn, hn.2⟩, fun H2 e2 => q H2 e2⟩) (ea_cons (ev_call0 (ea_cons (ev_var rfl) (ea_cons (ev_var rfl) ea_nil)) fun H1 e Q q E => ⟨n, t, rfl, ⟨htn, hn.2⟩, fun H2 e2 => q H2 e2⟩) ea_nil)) fun H7 e7 => ?_
                have L7 := L6.on e7
                refine q_pair (ev_dget (k := .inr (bS p)) (ev_var rfl) (top_ rfl L7) (e7 _ _ k1) hv) (e7 _ _ hT) fun H8 e8 => ?_
                have L8 := L7.on e8
                refine eu_tup (ea_cons (ev_op (ev_var rfl) (ev_var rfl) rv_I0) (ea_cons (ev_if (v := .int ((if c.2.2 = beginOf n t then beginOf n t + 2 ^ (n - t.length) else c.2.2 : Nat) : Int)) (et_test (ev_op (ev_var rfl) (ev_var rfl) (rv_eq rfl))) (fun hb => ev_is (ev_op (ev_var rfl) (ev_var rfl) rv_I0) ?_) fun hb => ev_is (ev_var rfl) ?_) ea_nil)) (by show 2 ≤ 100000; decide) _ (Ex.refl _) _ fun T2 H9 hT2 e9 hT3 => ?_
                · have h1 : V.int (c.2.2 : Int) = V.int (beginOf n t : Int) := of_decide_eq_true hb
                  have h1 : (c.2.2 : Int) = (beginOf n t : Int) := V.int.inj h1
                  rw [if_pos (by omega)]
                  exact congrArg V.int (by omega)
                · have h1 : ¬ V.int (c.2.2 : Int) = V.int (beginOf n t : Int) := of_decide_eq_false hb
                  rw [if_neg (fun z => h1 (by rw [z]))]
                · have L9 := L8.on e9
                  refine ⟨_, rfl, top_ rfl L9 _ (Ex.refl _) _ fun H10 e10 => ⟨d, _, rfl, DPut.k (k := .inr (bS p)) (e10 _ _ (e9 _ _ (e8 _ _ (e7 _ _ k1)))) ?_, ?_⟩⟩
                  · have := paired_len k2
                    have h2 := congrArg List.length L6.keys
                    rw [List.length_map] at h2
                    exact sz_lt (by omega)
                  · have L10 := L9.on e10
                    have hT10 : H10 T2 = some (.tup [.int (c.2.1 - ((2 ^ (n - t.length) : Nat) : Int)), .int ((if c.2.2 = beginOf n t then beginOf n t + 2 ^ (n - t.length) else c.2.2 : Nat) : Int)]) := e10 _ _ hT3
                    have hd10 := e10 _ _ (e9 _ _ (e8 _ _ (e7 _ _ k1)))
                    have tkd : Tk H10 (upd H10 d (.dK (putK kvs (.inr (bS p)) (.ref T2)))) := tk_upd hd10 fun xs z => by cases z
                    have put : putK kvs (.inr (bS p)) (.ref T2) = kvs.map fun kv => if kv.1 = .inr (bS p) then (kv.1, .ref T2) else kv := if_pos (any_key k2 (by rw [L6.keys]; exact hpz))
                    have k10 : Paired (InD H10) cs kvs := L2.Paired.mapP k2 fun c kv h => inD_tk (tk_ex (e7.trans (e8.trans (e9.trans e10)))) h
                    have k11 := put_of (n := n) (t := t) k10 hc hcp cnd hT10
                    refine app _ _ (updC n cs p t) _ _ _ _ (fun σ H h => h) ⟨Ex.mut L10.ex hd, ⟨_, upd_same, by rw [put]; exact L2.Paired.mapP k11 fun c kv h => inD_tk (by rw [← put]; exact tkd) h⟩, (upd_ne had).trans L10.stk, (updC_keys ..).trans L10.keys, L10.sub⟩ next1
            · cases rr with
              | cons p rr => simp at hb
              | nil => exact app _ _ cs _ _ _ _ (fun σ H h => h) (L5.on e6) next1
        · obtain ⟨p, rr', rfl⟩ : ∃ p r', rr = p :: r' := by
            cases rr with
            | nil => exact absurd (.inl rfl) hs
            | cons p r' => exact ⟨p, r', rfl⟩
          have hp : p.isPrefixOf t = false := by
            cases h : p.isPrefixOf t with
            | false => rfl
            | true => exact absurd (.inr ⟨p, rr', rfl, h⟩) hs
          refine ⟨true, et_is (et_and (a := true) (b := true) (et_is (et_test (stackE rfl L4)) (by simp)) fun _ => et_is (et_not (et_B (ev_starts (ev_var rfl) (top_ rfl L4)))) (by rw [bS_starts, hp] <;> rfl)) rfl, fun _ H5 e5 => ?_, fun z => absurd z.symm Bool.false_ne_true⟩
          have L5 := L4.on e5
          refine ⟨fun σ2 H2 => σ2 = [some (.int (n : Int)), some (.ref st), some (.ref o), some (.ref d), some (.ref a), some (.str (bS t)), v6, v7, v8, v9, none] ∧ Lp n H1 H2 zs d a cs rr', fun σ2 H2 h => ⟨rr'.length, by simp, rr', rfl, h.1, h.2, ?_⟩, ?_⟩
          · rw [← hdr, List.dropWhile_cons, hp] <;> rfl
          · refine s_pop (xs := rr'.reverse.map txt) (y := txt p) ?_ (ev_var rfl) fun H6 e6 => ⟨rfl, L5.write e6 ha1 had fun x hx => L5.sub x (List.mem_cons_of_mem _ hx)⟩
            have := L5.stk
            rw [List.reverse_cons, List.map_append] at this
            exact this
      · subst hσ
        obtain ⟨kvs, k1, k2⟩ := L.dict
        have hlen : kvs.length = zs.length := by
          have h1 := paired_len k2
          have h2 := congrArg List.length L.keys
          rw [List.length_map] at h2
          omega
        have hfin : (st_ (zs.map txt).length).1 = cellsOf n zs := by
          show ((zs.take (zs.map txt).length).foldl (stepC n) (initC n zs, [])).1 = _
          rw [List.length_map, List.take_length] <;> rfl
        generalize (st_ (zs.map txt).length).1 = cs at k2 hfin L
        subst hfin
        have nd0 : Cell := ([], 0, 0)
        refine s_retN (N := CellsL n (cellsOf n zs)) (en_lock k1 trivial (fun od => ?_) fun p Ha od h1 h2 ⟨ys, h3, h4⟩ => ⟨ys, (upd_ne h2).trans h3, L2.Paired.mapP h4 fun c v ⟨T, t1, t2⟩ => ⟨T, t1, tk_upd h1 (fun xs z => by cases z) _ _ t2⟩⟩) fun p H5 hp e5 hN => q2 p H5 (fresh_back (e1.trans L.ex) hp) ((e1.trans L.ex).trans e5) hN
        have k3 : Paired (InD (upd H' d (.frz od (.dK kvs)))) (cellsOf n zs) kvs := L2.Paired.mapP k2 fun c kv h => inD_tk (tk_upd k1 fun xs z => by cases z) h
        refine (en_lc (f := fun _ => true) (E := fun i v H => ∃ T, v = .ref T ∧ H T = some (.tup (cellV n ((cellsOf n zs)[i]?.getD ([], 0, 0))))) (ei_items (ev_var rfl) upd_same) (by omega) (fun i v Ha Hb tk ⟨T, h1, h2⟩ => ⟨T, h1, tk _ _ h2⟩) fun i x H6 hi e6 hy => ?_).imp fun p H6 e6 hy => ?_
        · obtain ⟨T, k, v, hkv, rfl, hT⟩ := hy
          obtain ⟨c, hc, hk, T2, hv, hT2⟩ := paired_mem k3 i (k, v) hkv
          have hk : k = .inr (bS c.1) := hk
          have hv : v = .ref T2 := hv
          subst hk hv
          refine ⟨_, ?_, eg_tup (st_of hT) rfl (egs_cons eg_name (egs_cons (eg_tup (st_of (e6 _ _ hT2)) rfl (egs_cons eg_name (egs_cons eg_name egs_nil))) egs_nil)), et_yes, fun _ => ?_⟩
          · rfl
          rw [hc]
          refine EvN.p (en_u (eu_tup (ea_cons (ev_var rfl) (ea_cons (ev_var rfl) (ea_cons (ev_if (v := if 0 < c.2.1 then .str (bS (numB n c.2.2)) else .non) (et_test (ev_op (ev_var rfl) ev_c rv_I0)) (fun hb => ev_is (ev_call0 (ea_cons (ev_var rfl) (ea_cons (ev_var rfl) ea_nil)) fun H1 e Q q E => ⟨n, c.2.2, rfl, hn.2, fun H2 e2 => q H2 e2⟩) ?_) fun hb => ev_is ev_c ?_) ea_nil))) (by show 3 ≤ 100000; decide)))
          · rw [if_pos (of_decide_eq_true hb)]
          · rw [if_neg (of_decide_eq_false hb)]
        · obtain ⟨ys, h1, h2⟩ := hy
          refine ⟨ys, h1, ?_⟩
          rw [List.filter_eq_self.mpr fun _ _ => rfl] at h2
          have hl2 : kvs.length = (cellsOf n zs).length := (paired_len k2).symm
          rw [hl2] at h2
          exact paired_range h2
end
end Cw
set_option Elab.async false
set_option linter.all false
set_option maxRecDepth 100000
set_option maxHeartbeats 4000000
namespace Cw
open PySem PySem.Spec PyProof.Rows L2 Evl
/-! ### for x in a list or a tuple -/
def iSeq (K : PySem.W.Frag) (tl : TE) : TI := fun σ H R => tl σ H fun x H1 => ∃ a, x = .ref a ∧ (((∃ xs, SqL K H1 a xs) ∧ R (Itl K a) H1) ∨ ((∃ xs, SqT K H1 a xs) ∧ R (Itt K a) H1))
section
variable {X : Cx} {tg : Expr}
theorem pi_seq {l : Expr} {tl : TE} (hl : PE X l tl) : PI X tg l (iSeq X.K tl) := by
  refine ⟨fun pins s σ H R I h => ?_⟩
  refine thn (hl.run pins s σ H _ I h) fun v s1 ⟨x, H1, I1, r1, a, e, q⟩ => ?_
  subst e
  have stay : PE X l (fun _ H Q => H = H1 ∧ Q (.ref a) H) → True := fun _ => trivial
  have one : ∀ b ∈ [s1.heap.objs.size], FpOk X pins H1 b := fun b hb => by
    obtain rfl : b = s1.heap.objs.size := by simpa using hb
    exact I1.fpOk (Nat.le_refl _) (I1.hok.fresh (Nat.le_refl _))
  cases r1
  rcases q with ⟨⟨xs, hq⟩, q⟩ | ⟨⟨xs, hq⟩, q⟩
  · obtain ⟨its, rv, p, hz⟩ := I1.list hq
    refine wpAny_pyIter_list p.isList ⟨s1.heap.objs.size, [s1.heap.objs.size], _, _, H1, rfl, I1.kept (t' := s1.toks) fun b o e => Heap.get?_push_of_some _ e, turn_list a _, ⟨_, Heap.get?_push_size _ rfl, rfl, rfl⟩, one, q⟩
  · obtain ⟨its, rv, p, hz⟩ := I1.tuple hq
    refine wpAny_pyIter_tuple (show s1.heap.IsTuple a its.toArray from p) ⟨s1.heap.objs.size, [s1.heap.objs.size], _, _, H1, rfl, I1.kept (t' := s1.toks) fun b o e => Heap.get?_push_of_some _ e, turn_tuple a _, ⟨_, Heap.get?_push_size _ rfl, rfl, rfl⟩, one, q⟩
theorem pi_seqK {K : PySem.W.Frag} {l : Expr} {tl : TE} (h : X.K = K) (hl : PE X l tl) : PI X tg l (iSeq K tl) := h ▸ pi_seq hl
end
section
variable {K : PySem.W.Frag} {σ σ1 σ2 σ3 : L2.St} {H H' : Hp} {ta tb tc te tl : TE} {v : V}
theorem LT.on {a : Addr} {xs : List V} (h : LT H a xs) : SqL K H a xs ∨ SqT K H a xs := h.imp sq_of st_of
theorem ei_seq {a : Addr} {xs : List V} (h : Ev tl σ H (.ref a)) (hs : LT H a xs) : EvI (iSeq K tl) σ H xs.length (fun i x _ => xs[i]? = some x) := fun H1 e R q =>
  h H1 e _ fun H2 e2 => ⟨a, rfl, by
    have l2 := LT.ex (e.trans e2) hs
    rcases l2 with l2 | l2
    · exact .inl ⟨⟨xs, sq_of l2⟩, q _ _ H2 e2 (walk_list.mono (G' := fun H => H a = some (.lst xs)) (fun _ g => sq_of g) fun i Ha x Hb _ _ y => ⟨by rw [y.1]; exact Ex.refl _, y.2⟩) fun H3 e3 => e3 _ _ l2⟩
    · exact .inr ⟨⟨xs, st_of l2⟩, q _ _ H2 e2 (walk_tup.mono (G' := fun H => H a = some (.tup xs)) (fun _ g => st_of g) fun i Ha x Hb _ _ y => ⟨by rw [y.1]; exact Ex.refl _, y.2⟩) fun H3 e3 => e3 _ _ l2⟩⟩
/-- [y for some in lists for y in some] -/
theorem el_flat {wi : TI} {p q : Nat} {vs vs1 : List Nat} {as : List Addr} {xss : List (List V)} (hi : EvI wi σ H as.length (fun i x _ => ∃ b, as[i]? = some b ∧ x = .ref b)) (hx : Paired (LT H) as xss) (hz : xss.flatten.length ≤ 100000) (hn : as.length ≤ 100000)
    (h1 : ∀ x, wipe ((wipe σ vs).set p (some x)) vs = wipe σ vs) (h2 : ∀ x y, wipe ((wipe ((wipe σ vs).set p (some x)) vs1).set q (some y)) vs1 = wipe ((wipe σ vs).set p (some x)) vs1)
    (h3 : ∀ x : V, ((wipe σ vs).set p (some x))[p]? = some (some x)) (h4 : ∀ x y : V, ((wipe ((wipe σ vs).set p (some x)) vs1).set q (some y))[q]? = some (some y)) :
    EvL (tLc2 wi (gName p) tYes (iSeq K (tVar p)) (gName q) tYes (tVar q) vs vs1) σ H xss.flatten := fun H1 e Q k =>
  hi H1 e _ fun J G H2 e2 w hG D hD => by
    have base : Ex H H2 := e.trans e2
    have hlen : as.length = xss.length := paired_len hx
    refine ⟨fun i m H' => m = as.length - i ∧ i ≤ as.length ∧ Ex H2 H' ∧ H' D = some (.lst (xss.take i).flatten), ⟨as.length, by simp, Nat.zero_le _, Ex.new hD, by rw [List.take_zero]; exact upd_same⟩, ?_⟩
    rintro i m H3 ⟨rfl, hle, e3, hDl⟩
    have g3 := hG H3 e3
    by_cases hlt : i < as.length
    · refine .inr ⟨w.goes i H3 hlt g3, fun H' => Ex H2 H' ∧ H' D = some (.lst (xss.take (i + 1)).flatten), fun H' p' => ⟨as.length - (i + 1), by omega, rfl, hlt, p'⟩, fun x H4 y => ?_⟩
      obtain ⟨y1, b, hb, rfl⟩ := w.yields i H3 x H4 hlt g3 y
      obtain ⟨xs, hxs⟩ : ∃ xs, xss[i]? = some xs := ⟨xss[i]'(by omega), List.getElem?_eq_getElem (by omega)⟩
      have hl : LT H b xs := by
        obtain ⟨c, hc, hl⟩ := paired_mem hx i xs hxs
        rw [hb] at hc
        cases hc
        exact hl
      have part : (xss.take (i + 1)).flatten = (xss.take i).flatten ++ xs := by
        rw [List.take_add_one, hxs, List.flatten_append]
        simp
      have short : ((xss.take i).flatten ++ xs).length ≤ 100000 := by
        rw [← part]
        have cut := congrArg List.length (congrArg List.flatten (List.take_append_drop (i + 1) xss))
        rw [List.flatten_append, List.length_append] at cut
        omega
      refine ⟨h1 _, ?_⟩
      unfold tYes
      dsimp only
      rw [if_pos rfl]
      have l4 : LT H4 b xs := LT.ex (base.trans (e3.trans y1)) hl
      have e4 : Ex H2 H4 := e3.trans y1
      have nd : b ≠ D := fun z => by
        have l2 := LT.ex base hl
        rw [z] at l2
        rcases l2 with l | l <;> rw [hD] at l <;> cases l
      have keepL : ∀ H', LT H' b xs → ∀ u, LT (upd H' D u) b xs := fun H' l u => by
        unfold LT
        rw [upd_ne nd]
        exact l
      have D4 : H4 D = some (.lst ((xss.take i).flatten ++ xs.take 0)) := by rw [List.take_zero, List.append_nil]; exact y1 _ _ hDl
      -- the inner walk
      have inner : ∀ (J1 : It) (G1 : Hp → Prop), Walk J1 xs.length G1 (fun j Ha x Hb => Hb = Ha ∧ xs[j]? = some x) → (∀ H', LT H' b xs → ((H4 b = some (.lst xs) → H' b = some (.lst xs)) ∧ (H4 b = some (.tup xs) → H' b = some (.tup xs))) → G1 H') →
          ∃ W1 : Nat → Nat → Hp → Prop, (∃ m, W1 0 m H4) ∧ ∀ j k H, W1 j k H →
            (J1.stop j H ∧ (Ex H2 H ∧ H D = some (.lst (xss.take (i + 1)).flatten))) ∨ (J1.go j H ∧ ∃ Nx1 : Hp → Prop, (∀ H', Nx1 H' → ∃ k', k' < k ∧ W1 (j + 1) k' H') ∧ ∀ x H', J1.yld j H x H' → gName q x (wipe ((wipe σ vs).set p (some (.ref b))) vs1) H' fun σ3 H5 => wipe σ3 vs1 = wipe ((wipe σ vs).set p (some (.ref b))) vs1 ∧ tYes σ3 H5 fun b H6 =>
              if b = true then tVar q σ3 H6 fun y H7 => ∃ acc, H7 D = some (.lst acc) ∧ acc.length < sizeLine ∧ Nx1 (upd H7 D (.lst (acc ++ [y]))) else Nx1 H6) := fun J1 G1 w1 hG1 => by
        let Ok : Hp → Prop := fun H' => LT H' b xs ∧ ((H4 b = some (.lst xs) → H' b = some (.lst xs)) ∧ (H4 b = some (.tup xs) → H' b = some (.tup xs)))
        refine ⟨fun j k H' => k = xs.length - j ∧ j ≤ xs.length ∧ Ex H2 H' ∧ Ok H' ∧ H' D = some (.lst ((xss.take i).flatten ++ xs.take j)), ⟨xs.length, by simp, Nat.zero_le _, e4, ⟨l4, id, id⟩, D4⟩, ?_⟩
        rintro j k H' ⟨rfl, hj, e', ok, hD'⟩
        have g1 := hG1 H' ok.1 ok.2
        by_cases hlt1 : j < xs.length
        · refine .inr ⟨w1.goes j H' hlt1 g1, fun H' => Ex H2 H' ∧ Ok H' ∧ H' D = some (.lst ((xss.take i).flatten ++ xs.take (j + 1))), fun H' p' => ⟨xs.length - (j + 1), by omega, rfl, hlt1, p'⟩, fun x H5 y => ?_⟩
          obtain ⟨rfl, hx1⟩ := w1.yields j H' x H5 hlt1 g1 y
          refine ⟨h2 _ _, ?_⟩
          unfold tYes
          dsimp only
          rw [if_pos rfl]
          refine ⟨x, h4 _ _, _, hD', ?_, Ex.mut e' hD, ⟨keepL _ ok.1 _, fun z => (upd_ne nd).trans (ok.2.1 z), fun z => (upd_ne nd).trans (ok.2.2 z)⟩, ?_⟩
          · rw [List.length_append] at short ⊢
            rw [List.length_take]
            exact Nat.lt_of_lt_of_le (by omega) (show 100001 ≤ sizeLine by decide)
          · rw [List.take_add_one, hx1, ← List.append_assoc]
            exact upd_same
        · obtain rfl : j = xs.length := by omega
          refine .inl ⟨w1.stops H' g1, e', ?_⟩
          rw [part, hD', List.take_length]
      refine ⟨.ref b, h3 _, b, rfl, ?_⟩
      rcases l4 with l4 | l4
      · exact .inl ⟨⟨xs, sq_of l4⟩, inner _ _ walk_list fun H' _ ok => sq_of (ok.1 l4)⟩
      · exact .inr ⟨⟨xs, st_of l4⟩, inner _ _ walk_tup fun H' _ ok => st_of (ok.2 l4)⟩
    · obtain rfl : i = as.length := by omega
      refine .inl ⟨w.stops H3 g3, k D H3 (fresh_back e2 hD) (e2.trans e3) ?_⟩
      rw [hDl, hlen, List.take_length]
theorem el_catA {a : Addr} {xs ys : List V} (h1 : Ev ta σ H (.ref a)) (ha : H a = some (.lst xs)) (h2 : EvL tb σ H ys) (hz : xs.length + ys.length ≤ 100000) : EvL (tOp rCat ta tb) σ H (xs ++ ys) := fun H1 e Q q =>
  h1 H1 e _ fun H2 e2 => h2 H2 (e.trans e2) _ fun r H3 hr e3 hy => ⟨a, r, xs, ys, rfl, rfl, e3 _ _ (e2 _ _ (e _ _ ha)), hy, sz_of hz, fun o ho => q o _ (fresh_back (e2.trans e3) ho) ((e2.trans e3).trans (Ex.new ho)) upd_same⟩
end
end Cw
set_option Elab.async false
set_option linter.all false
set_option maxRecDepth 100000
set_option maxHeartbeats 4000000
namespace Cw
open PySem PySem.Spec PyProof.Rows L2 Evl
/-! ### is_free, shared_cells, used_cells -/
def freeB (frs : List (List Bool)) (l : List Bool) : Bool := frs.any fun f => f.isPrefixOf l
structure ZsOf (ss zs : List (List Bool)) : Prop where
  nd : zs.Nodup
  mem : ∀ l, l ∈ zs ↔ l ∈ ss ∨ l = []
  lex : zs.Pairwise LexB
  few : zs.length < 64
def usedOf (frs : List (List Bool)) (cs : List Cell) : List Cell := cs.filter fun c => decide (0 < c.2.1) && !freeB frs c.1
def InU (n : Nat) (H : Hp) (c : Cell) (v : V) : Prop := ∃ T, v = .ref T ∧ H T = some (.tup [.int c.2.1, .str (bS (numB n c.2.2))])
def UsedL (n : Nat) (cs : List Cell) (p : Addr) (H : Hp) : Prop := ∃ ys, H p = some (.lst ys) ∧ Paired (InU n H) cs ys
theorem paired_filter {α β : Type} [Inhabited α] {d : α} {F : α → β → Prop} {g : α → Bool} {as : List α} {bs : List β} (h : Paired (fun (i : Nat) b => F (as[i]?.getD d) b) ((List.range as.length).filter fun i => g (as[i]?.getD d)) bs) : Paired F (as.filter g) bs := by
  have key : ∀ (is : List Nat) (bs : List β), Paired (fun (i : Nat) b => F (as[i]?.getD d) b) is bs → Paired F (is.map fun i => as[i]?.getD d) bs := by
    intro is bs h
    induction h with
    | nil => exact .nil
    | cons r _ ih => exact .cons r ih
  have h2 := key _ _ h
  have e : (List.range as.length).map (fun i => as[i]?.getD d) = as := by
    refine List.ext_getElem (by simp) fun i h1 h2 => ?_
    rw [List.getElem_map, List.getElem_range, List.getElem?_eq_getElem h2] <;> rfl
  have e2 : ((List.range as.length).filter fun i => g (as[i]?.getD d)).map (fun i => as[i]?.getD d) = as.filter g := by
    have := List.filter_map (f := fun i => as[i]?.getD d) (p := g) (l := List.range as.length)
    rw [e] at this
    exact this.symm
  rw [e2] at h2
  exact h2
section
variable {K : PySem.W.Frag} {σ : L2.St} {H H' : Hp} {ta tb tc te tl : TE} {sp : Sp} {E : XK} {x y : V} {N : Addr → Hp → Prop}
/-- a call with a new list as its last argument -/
theorem en_callL {xs : List V} (h : Ev ta σ H x) (h2 : EvL tl σ H xs) (hs : ∀ p H1, Ex H H1 → H1 p = some (.lst xs) → SpN sp [x, .ref p] H1 N) : EvN (tCall sp [] E (tCons ta (tCons tl tNil))) σ H N := fun H1 e Q q =>
  h H1 e _ fun H2 e2 => h2 H2 (e.trans e2) _ fun p H3 hp e3 h3 => hs p H3 ((e.trans e2).trans e3) h3 H3 (Ex.refl _) Q (fun r H4 hr e4 hN => q r H4 (fresh_back (e2.trans e3) hr) ((e2.trans e3).trans e4) hN) E
end
section
variable {P : Program} {w : World} {K : PySem.W.Frag} {mg : Str → Option Value} {base : Heap}
def spIsFree : Sp := fun vs H Q _ => ∃ (f : Addr) (frs : List (List Bool)) (l : List Bool), vs = [.ref f, .str (bS l)] ∧ LT H f (frs.map txt) ∧ frs.length ≤ 1000 ∧ RetV (.bl (freeB frs l)) H Q
theorem kp_is_free (B : Bt mg) (D : Df K mg "is_free" s_is_free) : Kp P w K mg base 1 "is_free" ["free", "stretch"] spIsFree := by
  refine kp_of D sc_is_free (fun _ _ _ _ _ _ us hl => match us, hl with | [_, _], _ => rfl) (fun vs H Q E h => ?_) (fun cdv A outer s H vs Q E hr h => ?_)
  · obtain ⟨f, frs, l, rfl, _⟩ := h
    rfl
  · obtain ⟨f, frs, l, rfl, hf, hz, q⟩ := h
    refine ⟨_, pss_one (ps_ret (pe_callB (cr_any rfl) (by rfl) B.any (by decide +kernel) (pa_cons
      (pe_lc (own := [("one", 2)]) (g := gName 2) (by rfl) sc_is_free.nd (pi_seq (pv 0)) (blkOk_by (N := ["free", "stretch", "one"]) (sc := defScope s_is_free) (by decide +kernel)) (fun _ _ _ _ _ => pg_name (i := 2) sc_is_free.nd rfl (Or.inl rfl)) (fun _ _ _ _ _ => pts_nil)
        (fun _ _ _ _ _ => pe_m1 F.slot_str_startswith F.type_str_startswith mt_starts (pv 1) (pv 2))) pa_nil))), ?_⟩
    refine s_ret (ev_cbN (en_l (el_lcV (ei_seq (ev_var rfl) hf) (by rw [List.length_map]; omega) (fun i => .bl ((frs[i]?.getD []).isPrefixOf l)) fun i x H1 hi e hx => ?_)) fun p H1 e h1 H2 e2 Q q => ⟨p, (List.range (frs.map txt).length).map fun i => (frs[i]?.getD []).isPrefixOf l, rfl, ?_, ?_⟩) fun H1 e => q H1 e
    · rw [List.getElem?_map] at hx
      obtain ⟨t, ht, rfl⟩ := Option.map_eq_some_iff.mp hx
      refine ⟨_, ?_, eg_name, ?_⟩
      · rfl
      rw [ht]
      exact ev_is (ev_starts (ev_var rfl) (ev_var rfl)) (by rw [bS_starts] <;> rfl)
    · rw [List.map_map]
      exact ex_l e2 (sq_of h1)
    · have : ((List.range (frs.map txt).length).map fun i => (frs[i]?.getD []).isPrefixOf l).any id = freeB frs l := by
        unfold freeB
        have h := congrArg (fun m : List (List Bool) => m.any fun f => f.isPrefixOf l) (range_getD frs)
        rw [List.any_map] at h
        rw [List.any_map, List.length_map]
        exact h
      rw [this]
      exact q _ (Ex.refl _)
def spShared : Sp := fun vs H Q _ => ∃ (n : Nat) (a : Addr) (as : List Addr) (sss : List (List (List Bool))), vs = [.int (n : Int), .ref a] ∧ (1 ≤ n ∧ n ≤ 100) ∧ H a = some (.lst (as.map .ref)) ∧ Paired (LT H) as (sss.map fun ss => ss.map txt) ∧
  sss.flatten.length < 60 ∧ as.length < 60 ∧ (∀ l ∈ sss.flatten, l.length ≤ n) ∧ RetN (fun p H' => ∃ zs, ZsOf sss.flatten zs ∧ CellsL n (cellsOf n zs) p H') H Q
theorem paired_LT {H H' : Hp} (e : Ex H H') : ∀ {as : List Addr} {xss : List (List V)}, Paired (LT H) as xss → Paired (LT H') as xss
  | _, _, .nil => .nil
  | _, _, .cons h t => .cons (LT.ex e h) (paired_LT e t)
theorem kp_shared_cells (B : Bt mg) (D : Df K mg "shared_cells" s_shared_cells) (k1 : Kp P w K mg base 3 "cell_rows" ["width", "stretches"] spCellRows) : Kp P w K mg base 4 "shared_cells" ["width", "lists"] spShared := by
  refine kp_of D sc_shared_cells (fun _ _ _ _ _ _ us hl => match us, hl with | [_, _], _ => rfl) (fun vs H Q E h => ?_) (fun cdv A outer s H vs Q E hr h => ?_)
  · obtain ⟨n, a, as, sss, rfl, _⟩ := h
    rfl
  · obtain ⟨n, a, as, sss, rfl, hn, ha, hp, h60, has, hle, q⟩ := h
    refine ⟨_, pss_one (ps_ret (pe_k k1 hr (pa_cons (pv 0) (pa_cons
      (pe_lc2 (own := [("some", 2), ("stretch", 3)]) (vs1 := [3]) (g := gName 2) (g1 := gName 3) (wi1 := iSeq K (tVar 2)) (by rfl) sc_shared_cells.nd (pi_list (pv 1)) (blkOk_by (N := ["width", "lists", "some", "stretch"]) (sc := defScope s_shared_cells) (by decide +kernel)) (by decide)
        (fun _ _ _ _ _ => pg_name (i := 2) sc_shared_cells.nd rfl (Or.inl rfl)) (fun _ _ _ _ _ => pts_nil) (fun _ _ _ _ _ => pi_seqK (K := K) rfl (pv 2)) (fun _ _ _ _ _ => pg_name (i := 3) sc_shared_cells.nd rfl (Or.inl rfl)) (fun _ _ _ _ _ => pts_nil) (fun _ _ _ _ _ => pv 3)) pa_nil)))), ?_⟩
    have flat : (sss.map fun ss => ss.map txt).flatten = sss.flatten.map fun l => .str (bS l) := by rw [List.map_flatten]
    have hi := ei_list (K := K) (tl := tVar 1) (σ := L2.start ["width", "lists", "some", "stretch"] [.int (n : Int), .ref a]) (H := H) (ev_var rfl) (sq_of ha)
    rw [List.length_map] at hi
    have el := el_flat (K := K) (p := 2) (q := 3) (vs := [2, 3]) (vs1 := [3]) (xss := sss.map fun ss => ss.map txt) (as := as) (fun H1 e R q => hi H1 e R fun J G H2 e2 w hG => q J G H2 e2 (w.mono (fun _ g => g) fun i Ha x Hb _ _ y => ⟨y.1, by
        have y2 : (as.map V.ref)[i]? = some x := y.2
        rw [List.getElem?_map] at y2
        obtain ⟨b, hb, e⟩ := Option.map_eq_some_iff.mp y2
        exact ⟨b, hb, e.symm⟩⟩) hG) hp (by rw [flat, List.length_map]; omega) (by omega) (fun x => rfl) (fun x y => rfl) (fun x => rfl) (fun x y => rfl)
    rw [flat] at el
    refine s_retN (N := fun p H' => ∃ zs, ZsOf sss.flatten zs ∧ CellsL n (cellsOf n zs) p H') (en_callL (ev_var rfl) el fun p H1 e hl H2 e2 Q q E => ⟨n, p, sss.flatten, rfl, hn, e2 _ _ hl, h60, hle, fun zs z1 z2 z3 z4 r H3 hr e3 hN => q r H3 hr e3 ⟨zs, ⟨z1, z2, z3, z4⟩, hN⟩⟩) fun p H1 hp e hN => q p H1 hp e hN
def spUsedC : Sp := fun vs H Q _ => ∃ (n : Nat) (a f : Addr) (as : List Addr) (sss : List (List (List Bool))) (frs : List (List Bool)), vs = [.int (n : Int), .ref a, .ref f] ∧ (1 ≤ n ∧ n ≤ 100) ∧ H a = some (.lst (as.map .ref)) ∧ Paired (LT H) as (sss.map fun ss => ss.map txt) ∧ LT H f (frs.map txt) ∧
  sss.flatten.length + frs.length < 60 ∧ as.length < 50 ∧ (∀ l ∈ sss.flatten ++ frs, l.length ≤ n) ∧ RetN (fun p H' => ∃ zs, ZsOf (sss.flatten ++ frs) zs ∧ UsedL n (usedOf frs (cellsOf n zs)) p H') H Q
theorem cellsOf_keys (n : Nat) (zs : List (List Bool)) : (cellsOf n zs).map (·.1) = zs := (foldC_keys n _ _).trans (initC_keys n zs)
theorem kp_used_cells (B : Bt mg) (D : Df K mg "used_cells" s_used_cells) (k1 : Kp P w K mg base 4 "shared_cells" ["width", "lists"] spShared) (k2 : Kp P w K mg base 4 "is_free" ["free", "stretch"] spIsFree) : Kp P w K mg base 5 "used_cells" ["width", "lists", "free"] spUsedC := by
  refine kp_of D sc_used_cells (fun _ _ _ _ _ _ us hl => match us, hl with | [_, _, _], _ => rfl) (fun vs H Q E h => ?_) (fun cdv A outer s H vs Q E hr h => ?_)
  · obtain ⟨n, a, f, as, sss, frs, rfl, _⟩ := h
    rfl
  · obtain ⟨n, a, f, as, sss, frs, rfl, hn, ha, hp, hf, h60, has, hle, q⟩ := h
    refine ⟨_, pss_cons (ps_set (i := 3) sc_used_cells.nd rfl (Or.inl rfl) (pe_k k1 hr (pa_cons (pv 0) (pa_cons (pe_op op_cat (pv 1) (pe_lst (pa_cons (pv 2) pa_nil))) pa_nil))))
      (pss_one (ps_ret (pe_lc (own := [("stretch", 4), ("many", 5), ("start", 6)]) (g := gTup K 3 (gCons (gName 4) (gCons (gName 5) (gCons (gName 6) gNil)))) (by rfl) sc_used_cells.nd (pi_list (pv 3)) (blkOk_by (N := ["width", "lists", "free", "cells", "stretch", "many", "start"]) (sc := defScope s_used_cells) (by decide +kernel))
        (fun _ _ _ _ _ => pg_tupK (K := K) rfl (by rfl) (pgs_cons (pg_name (i := 4) sc_used_cells.nd rfl (.inl rfl)) (pgs_cons (pg_name (i := 5) sc_used_cells.nd rfl (.inl rfl)) (pgs_cons (pg_name (i := 6) sc_used_cells.nd rfl (.inl rfl)) pgs_nil))))
        (fun _ _ _ _ _ => pts_one (PW.pt (pw_and (pt_cmpR op_gt (pv 5) pe_int (nomark _)) (pw_and1 (pt_not (pt_val (pe_k k2 hr (pa_cons (pv 2) (pa_cons (pv 4) pa_nil)))))))))
        (fun _ _ _ _ _ => pe_tup (pa_cons (pv 5) (pa_cons (pv 6) pa_nil)))))), ?_⟩
    have fl : (sss ++ [frs]).flatten = sss.flatten ++ frs := by rw [List.flatten_append]; simp
    refine q_asgN (en_callL (ev_var rfl) (el_catA (ev_var rfl) ha (el_lst (ea_cons (ev_var rfl) ea_nil) (by show 1 ≤ 100000; decide)) (by simp; omega)) fun p H1 e hl H2 e2 Q q E => ⟨n, p, as ++ [f], sss ++ [frs], rfl, hn, ?_, ?_, ?_, ?_, ?_, q⟩) fun p H1 hp1 e1 ⟨zs, hz, ys, h1, h2⟩ => ?_
    · rw [List.map_append]
      exact e2 _ _ hl
    · rw [List.map_append]
      exact paired_app (paired_LT (e.trans e2) hp) (.cons (LT.ex (e.trans e2) hf) .nil)
    · rw [fl, List.length_append]
      omega
    · rw [List.length_append, List.length_singleton]
      omega
    · rw [fl]
      exact hle
    · rw [fl] at hz
      have hcl : (cellsOf n zs).length = zs.length := by
        have := congrArg List.length (cellsOf_keys n zs)
        rwa [List.length_map] at this
      have hyl : ys.length = (cellsOf n zs).length := (paired_len h2).symm
      have zf := hz.few
      refine s_retN (N := UsedL n (usedOf frs (cellsOf n zs))) ((en_lc (f := fun i => decide (0 < ((cellsOf n zs)[i]?.getD ([], 0, 0)).2.1) && !freeB frs ((cellsOf n zs)[i]?.getD ([], 0, 0)).1) (E := fun i v H => InU n H ((cellsOf n zs)[i]?.getD ([], 0, 0)) v)
        (ei_list (K := K) (ev_var rfl) (sq_of h1)) (by omega) (fun i v Ha Hb tk ⟨T, t1, t2⟩ => ⟨T, t1, tk _ _ t2⟩) fun i x H2 hi e2 hx => ?_).imp fun p H2 e2 hy => ?_) fun p H2 hp2 e2 hN => q p H2 (fresh_back e1 hp2) (e1.trans e2) ⟨zs, hz, hN⟩
      · obtain ⟨c, hc, T, rfl, hT⟩ := paired_mem h2 i x hx
        have hT2 := e2 _ _ hT
        rw [hc]
        show ∃ σ2, _
        refine ⟨_, ?_, eg_tup (st_of hT2) rfl (egs_cons eg_name (egs_cons eg_name (egs_cons eg_name egs_nil))), et_and (a := decide (0 < c.2.1)) (b := !freeB frs c.1) (et_test (ev_op (ev_var rfl) ev_c rv_I0)) (fun _ => et_not (et_B (ev_call0 (ea_cons (ev_var rfl) (ea_cons (ev_var rfl) ea_nil)) fun H3 e3 Q q E => ⟨f, frs, c.1, rfl, LT.ex (e1.trans (e2.trans e3)) hf, by omega, fun H4 e4 => q H4 e4⟩))), fun hb => ?_⟩
        · rfl
        have hb1 : 0 < c.2.1 := by
          rw [Bool.and_eq_true] at hb
          exact of_decide_eq_true hb.1
        refine EvN.p (en_u (eu_tup (ea_cons (ev_var rfl) (ea_cons (ev_is (ev_var rfl) ?_) ea_nil)) (by show 2 ≤ 100000; decide)))
        rw [if_pos hb1]
        rfl
      · obtain ⟨ys2, y1, y2⟩ := hy
        refine ⟨ys2, y1, ?_⟩
        rw [hyl] at y2
        exact paired_filter (F := InU n H2) (g := fun c => decide (0 < c.2.1) && !freeB frs c.1) y2
end
end Cw
set_option Elab.async false
set_option linter.all false
set_option maxRecDepth 100000
set_option maxHeartbeats 4000000
namespace Cw
open PySem PySem.Spec PyProof.Rows L2 Evl
/-! ### enumerate of a list or a tuple -/
def IteT (K : PySem.W.Frag) (a : Addr) : It :=
  ⟨fun i H => ∃ (xs : List V) (x : V), SqT K H a xs ∧ xs[i]? = some x, fun i H v H' => ∃ T x, v = .ref T ∧ H T = none ∧ H' = upd H T (.tup [.int (i : Nat), x]) ∧ ∀ xs, SqT K H a xs → xs[i]? = some x, fun i H => ∃ xs : List V, SqT K H a xs ∧ xs.length ≤ i⟩
section
open AutoSeq1 (wpAny_loadPart')
set_option maxHeartbeats 4000000 in
theorem enum_newT (l : Addr) (items : Array Value) (n : Nat) (dct : Option Addr) (sl : Array (Option Value)) :
    Meets (Builtin.«enumerate.__new__» ⟨[.type "enumerate", .ref l], []⟩) (fun _ R s => s.heap.get? l = some { cls := .type "tuple", dict := dct, data := .seq items n, slots := sl } ∧
      R (.ok (.ret (.ref (s.heap.push { cls := .type "tuple_iterator", data := .fields #[.ref l, .int 0 0] }).objs.size)))
        { s with heap := (s.heap.push { cls := .type "tuple_iterator", data := .fields #[.ref l, .int 0 0] }).push { cls := .type "enumerate", data := .fields #[.none, .bool false, .ref s.heap.objs.size, rawInt 0, .none, .none] } }) :=
  .of_wp fun prog w A R s h => by
    obtain ⟨hp, g, d, tk, os⟩ := s
    obtain ⟨hl, h⟩ := h
    have hsub := PySem.sub_enumerate
    have isT : Heap.IsTuple (Shared.heap ⟨hp, g, d, tk, os⟩) l items := ⟨_, hl, rfl, n, rfl⟩
    wp_walk using wpAny_loadPart' hl
    refine wpAny_stack_any fun st => wpAny_pure ?_
    split
    · rename_i c _ _ _ _ _
      cases (c == Value.type "enumerate") <;> (wp_walk using wpAny_loadPart' hl, wpAny_pyIter_tuple isT; exact ⟨_, rfl, h⟩)
    · wp_walk using wpAny_loadPart' hl, wpAny_pyIter_tuple isT
      exact ⟨_, rfl, h⟩
variable {prog : Program} {w : World} {A : Around} {E : Value → Shared → Prop} {s : Shared}
theorem call_enumT {l : Addr} {items : Array Value} {Q : Value → Shared → Prop} (hL : s.heap.IsTuple l items)
    (h : ∀ h', IsEnum h' (s.heap.objs.size + 1) s.heap.objs.size 0 .none → h'.IsTupleIter s.heap.objs.size l 0 →
      (∀ b o, s.heap.get? b = some o → h'.get? b = some o) → Q (.ref (s.heap.objs.size + 1)) { s with heap := h' }) :
    wpAny (model prog w) A (call (.type "enumerate") [.ref l]) Q E s := by
  obtain ⟨⟨c, dct, dt, sl⟩, hl, hc, n, hd⟩ := hL
  obtain rfl : c = .type "tuple" := hc
  obtain rfl : dt = .seq items n := hd
  refine callType_new F.called_enumerate (by decide) (F.typeCall_enumerate_1 _) (F.newCall_enumerate_1 _) (fun obj => F.args_object_init_2 obj _) F.entry_enumerate_new (enum_newT l items n dct sl) ⟨hl, ?_⟩
  have size1 : (s.heap.push { cls := .type "tuple_iterator", data := .fields #[.ref l, .int 0 0] }).objs.size = s.heap.objs.size + 1 := Heap.size_push ..
  show _ ∧ _
  rw [size1]
  have he : IsEnum ((s.heap.push { cls := .type "tuple_iterator", data := .fields #[.ref l, .int 0 0] }).push { cls := .type "enumerate", data := .fields #[.none, .bool false, .ref s.heap.objs.size, rawInt 0, .none, .none] }) (s.heap.objs.size + 1) s.heap.objs.size 0 .none := by
    have z := Heap.get?_push_size (s.heap.push { cls := .type "tuple_iterator", data := .fields #[.ref l, .int 0 0] }) (o := { cls := .type "enumerate", data := .fields #[.none, .bool false, .ref s.heap.objs.size, rawInt 0, .none, .none] }) rfl
    rw [size1] at z
    exact z
  exact ⟨⟨_, he, rfl⟩, h _ he ⟨_, Heap.get?_push_of_some _ (Heap.get?_push_size _ rfl), rfl, rfl⟩ fun b o x => Heap.get?_push_of_some _ (Heap.get?_push_of_some _ x)⟩
end
theorem turn_enumT {P : Program} {w : World} {K : PySem.W.Frag} {elts : List Expr} {kk : Nat} {tpos : Pos} (a e it : Addr) :
    Turn P w K (.Tuple elts kk tpos) (IteT K a) [e, it] e (fun i h => (∃ old, IsEnum h e it ((i : Nat) : Int) old) ∧ h.IsTupleIter it a i ∧ e ≠ it) where
  mem := by simp
  obj := fun i h st b hb => by
    obtain ⟨⟨old, he⟩, ⟨o, ho, hc, hd⟩, _⟩ := st
    rcases (show b = e ∨ b = it by simpa using hb) with rfl | rfl
    · exact ⟨_, he, fun v q => nomatch q⟩
    · exact ⟨o, ho, fun v q => by rw [hd] at q; cases q⟩
  keep := fun i h h' st k => let ⟨⟨old, he⟩, hi, hne⟩ := st; ⟨⟨old, k e (by simp) _ he⟩, hi.at fun o q => k it (by simp) o q, hne⟩
  item := by
    intro X hP hw hK hc i pins s σ H E I hf st hg
    subst hP hw hK
    obtain ⟨⟨old, he⟩, hit, hne⟩ := st
    obtain ⟨xs, x, hq, hx⟩ := hg
    obtain ⟨its, rv, p, hz⟩ := I.tuple hq
    obtain ⟨u, hu, ru⟩ := rv.get hx
    have lte : e < s.heap.objs.size := Heap.lt_size he
    have lti : it < s.heap.objs.size := by obtain ⟨_, q, _⟩ := hit; exact Heap.lt_size q
    have isT : s.heap.IsTuple a its.toArray := p
    have nea : a ≠ it := fun z => by
      obtain ⟨o1, q1, c1, _⟩ := hit
      obtain ⟨o2, q2, c2, _⟩ := isT
      rw [z, q1] at q2
      cases q2
      rw [c1] at c2
      exact absurd c2 (by simp)
    have nee : e ∉ [it, a] := fun z => by
      rcases List.mem_cons.mp z with z | z
      · exact hne z
      · obtain ⟨o2, q2, c2, _⟩ := isT
        rw [← List.mem_singleton.mp z, he] at q2
        cases q2
        exact absurd c2 (by simp)
    have lt : i < its.toArray.size := by
      rw [List.size_toArray]
      exact (List.getElem?_eq_some_iff.mp hu).1
    refine wpAny_pyNext_enum_itemD (Draws.tuple (A := X.A.in1) (I.ok.hd hc) it a nea its.toArray) he ⟨hit, isT⟩ lt hne nee fun y h' tk hy ho st' hT hsz hk => ?_
    obtain rfl : y = u := by
      have : its.toArray[i]? = some u := by simpa using hu
      rw [this] at hy
      exact (Option.some.inj hy).symm
    refine ⟨_, rfl, wpAny_letOwnedTupleGo_enum (s := { s with heap := h', toks := tk + 1 }) ho fun h'' he' sb => ?_⟩
    have tup2 : h''.get? s.heap.objs.size = some { cls := .type "tuple", data := .seq #[.int i tk, y] } := (sb.2 _ (Nat.ne_of_gt lte)).trans hT
    have new : ObjOk X.prog X.w (upd H s.heap.objs.size (.tup [.int (i : Nat), x])) h'' s.heap.objs.size (.tup [.int (i : Nat), x]) :=
      ⟨by show 2 ≤ sizeLine; decide, [.int i tk, y], .cons ⟨_, rfl⟩ (.cons ru .nil), ⟨_, tup2, rfl, _, rfl⟩⟩
    have I1 : Inv X pins σ (upd H s.heap.objs.size (.tup [.int (i : Nat), x])) { s with heap := h'', toks := tk + 1 } :=
      I.turnedNew (ch := [e, it]) (fun b ob hb q => (sb.2 b (fun z => hb (by simp [z]))).trans (hk b ob (fun z => hb (by simp [z])) (fun z => hb (by simp [z])) q)) hf (Nat.le_refl _) new
    refine ⟨.ref s.heap.objs.size, _, I1, rfl, ⟨_, x, rfl, I.hok.fresh (Nat.le_refl _), rfl, fun ys hy => by rw [I.tuple_inj hy hq]; exact hx⟩, ⟨⟨y, ?_⟩, st'.1.at fun o q => (sb.2 it (Ne.symm hne)).trans q, hne⟩, fun b hb => ?_⟩
    · have e1 : ((i + 1 : Nat) : Int) = (i : Int) + 1 := by omega
      rw [e1]
      exact he'
    · have below : b < s.heap.objs.size := by
        rcases (show b = e ∨ b = it by simpa using hb) with rfl | rfl
        · exact lte
        · exact lti
      rw [upd_ne (Nat.ne_of_lt below)]
      exact (hf b hb).1
  done := by
    intro X hP hw hK hc i pins s σ H E I hf st hg
    subst hP hw hK
    obtain ⟨⟨old, he⟩, hit, hne⟩ := st
    obtain ⟨xs, hq, hx⟩ := hg
    obtain ⟨its, rv, p, hz⟩ := I.tuple hq
    obtain ⟨f0, f1, f2, f3, f4, f5⟩ := hf it (by simp)
    have hl := rv.length
    have isT : s.heap.IsTuple a its.toArray := p
    have nea : a ≠ it := fun z => by
      obtain ⟨o1, q1, c1, _⟩ := hit
      obtain ⟨o2, q2, c2, _⟩ := isT
      rw [z, q1] at q2
      cases q2
      rw [c1] at c2
      exact absurd c2 (by simp)
    have D : Draws X.prog X.w X.A.in1 it [it, a] i (fun _ _ => True) (fun j h => j = i ∧ h.IsTupleIter it a i ∧ h.IsTuple a its.toArray) :=
      ⟨fun _ _ st => let ⟨o, ho, _⟩ := st.2.1; ⟨o, ho⟩, fun _ _ _ st hk => ⟨st.1, st.2.1.at fun o e => hk it (by simp) o e, st.2.2.at fun o e => hk a (by simp) o e⟩, fun j s Q E hj st hQ => absurd st.1 (Nat.ne_of_lt hj),
        fun s Q E st hE => wpAny_nextOf_tuple_end (A := X.A.in1) (I.ok.hd hc) st.2.1 st.2.2 (by simp; omega) hE⟩
    exact wpAny_pyNext_enum_endD D he ⟨rfl, hit, isT⟩ fun h' eb => ⟨rfl, I.turned (t' := s.toks) (fun b o hb q => eb b o hb q) f0 f1 f3 f4 f5⟩
  self := fun A i s Q E st h => let ⟨⟨_, he⟩, _⟩ := st; wpAny_pyIter_enum he h
def iEnumS (K : PySem.W.Frag) (ta : TA) : TI := fun σ H R => ta σ H fun vs H1 => ∃ a, vs = [.ref a] ∧ (((∃ xs, SqL K H1 a xs) ∧ R (Ite K a) H1) ∨ ((∃ xs, SqT K H1 a xs) ∧ R (IteT K a) H1))
theorem pi_enumS {X : Cx} {e : Expr} {ta : TA} {p pos tpos : Pos} {elts : List Expr} {kk : Nat} (hg : Gl X "enumerate") (hm : X.mg "enumerate" = none) (ha : PA X [e] ta) (hs : starEach [e] X.env = [(false, eval e X.env)] := by rfl) :
    PI X (.Tuple elts kk tpos) (.Call (.Name "enumerate" p) [e] [] pos) (iEnumS X.K ta) := by
  refine ⟨fun pins s σ H R I h => ?_⟩
  refine Call_ (ld_blt I hg hm boot_enumerate (PyProof.Rows.callWith_type1 (thn (ha.run pos pins s σ H _ I h) fun us s1 ⟨vs, H1, I1, r1, q1⟩ => ?_) hs rfl))
  obtain ⟨a, ex, q⟩ := q1
  subst ex
  obtain rfl := Vals.ref1 r1
  have pair : ∀ b ∈ [s1.heap.objs.size + 1, s1.heap.objs.size], FpOk X pins H1 b := fun b hb => by
    have hle : s1.heap.objs.size ≤ b := by
      rcases (show b = s1.heap.objs.size + 1 ∨ b = s1.heap.objs.size by simpa using hb) with rfl | rfl
      · exact Nat.le_add_right _ _
      · exact Nat.le_refl _
    exact I1.fpOk hle (I1.hok.fresh hle)
  rcases q with ⟨⟨xs, hq⟩, q⟩ | ⟨⟨xs, hq⟩, q⟩
  · obtain ⟨its, rv, p', hz⟩ := I1.list hq
    refine call_enumerate_list p'.isList fun h' he hit hsz hk => wpAny_pyIter_enum he ?_
    exact ⟨s1.heap.objs.size + 1, [s1.heap.objs.size + 1, s1.heap.objs.size], _, _, H1, rfl, I1.kept (t' := s1.toks) hk, turn_enum a (s1.heap.objs.size + 1) s1.heap.objs.size, ⟨⟨.none, he⟩, hit, Nat.succ_ne_self _⟩, pair, q⟩
  · obtain ⟨its, rv, p', hz⟩ := I1.tuple hq
    refine call_enumT (show s1.heap.IsTuple a its.toArray from p') fun h' he hit hk => wpAny_pyIter_enum he ?_
    exact ⟨s1.heap.objs.size + 1, [s1.heap.objs.size + 1, s1.heap.objs.size], _, _, H1, rfl, I1.kept (t' := s1.toks) hk, turn_enumT a (s1.heap.objs.size + 1) s1.heap.objs.size, ⟨⟨.none, he⟩, hit, Nat.succ_ne_self _⟩, pair, q⟩
/-- at turn i a new pair of i and the i-th -/
def YEnum (xs : List V) (i : Nat) (v : V) (H : Hp) : Prop := ∃ T x, xs[i]? = some x ∧ v = .ref T ∧ H T = some (.tup [.int (i : Nat), x])
theorem ei_enum {K : PySem.W.Frag} {σ : L2.St} {H : Hp} {ta : TA} {a : Addr} {xs : List V} (h : EvA ta σ H [.ref a]) (hs : LT H a xs) : EvI (iEnumS K ta) σ H xs.length (YEnum xs) := fun H1 e R q =>
  h H1 e _ fun H2 e2 => ⟨a, rfl, by
    have l2 := LT.ex (e.trans e2) hs
    rcases l2 with l2 | l2
    · exact .inl ⟨⟨xs, sq_of l2⟩, q _ _ H2 e2 ⟨fun i H hi g => ⟨xs, xs[i], sq_of g, by simp [hi]⟩, fun H g => ⟨xs, sq_of g, Nat.le_refl _⟩, fun i Ha v Hb hi g y => by
        obtain ⟨T, x, rfl, hT, rfl, hx⟩ := y
        exact ⟨Ex.new hT, T, x, hx xs (sq_of g), rfl, upd_same⟩⟩ fun H3 e3 => e3 _ _ l2⟩
    · exact .inr ⟨⟨xs, st_of l2⟩, q _ _ H2 e2 ⟨fun i H hi g => ⟨xs, xs[i], st_of g, by simp [hi]⟩, fun H g => ⟨xs, st_of g, Nat.le_refl _⟩, fun i Ha v Hb hi g y => by
        obtain ⟨T, x, rfl, hT, rfl, hx⟩ := y
        exact ⟨Ex.new hT, T, x, hx xs (st_of g), rfl, upd_same⟩⟩ fun H3 e3 => e3 _ _ l2⟩⟩
/-- x in some[:i] -/
def rSlS (K : PySem.W.Frag) : V → Option Int → Option Int → Hp → VK → Prop := fun x lo hi H Q => rSlL K x lo hi H Q ∨ rSlA K x lo hi H Q
theorem sl_any {X : Cx} : SlR X (rSlS X.K) := SlR.or sl_list sl_tupA
theorem cutV_take (xs : List V) (i : Nat) (h : i ≤ xs.length) : cutV xs none (some (i : Int)) = xs.take i := by
  unfold cutV
  rw [HT.sIx_none, HT.sIx_nat, List.drop_zero, Nat.sub_zero, Nat.min_eq_left h]
theorem ev_inSl {K : PySem.W.Frag} {σ : L2.St} {H : Hp} {ta tl tu : TE} {x : V} {a : Addr} {xs : List V} {i : Nat} (h : Ev ta σ H x) (h1 : Ev tl σ H (.ref a)) (h2 : Ev tu σ H (.int (i : Int))) (hs : LT H a xs) (hi : i < xs.length) (fx : flatV x = true) (fs : xs.all flatV = true) :
    Ev (tOp (rIn K false) ta (tSl (rSlS K) tl tNoPart (tPart tu))) σ H (.bl (inV x (xs.take i))) := fun H1 e Q q =>
  h H1 e _ fun H2 e2 => h1 H2 (e.trans e2) _ fun H3 e3 => (show tNoPart σ H3 _ from by
    refine h2 H3 ((e.trans e2).trans e3) _ fun H4 e4 => ⟨(i : Int), rfl, ?_⟩
    have l4 := LT.ex (((e.trans e2).trans e3).trans e4) hs
    have cut := cutV_take xs i (Nat.le_of_lt hi)
    have flat : (xs.take i).all flatV = true := List.all_eq_true.mpr fun y hy => List.all_eq_true.mp fs y (List.mem_of_mem_take hy)
    rcases l4 with l4 | l4
    · refine .inl ⟨a, xs, rfl, sq_of l4, fun p hp => ⟨p, xs.take i, rfl, .inl (sq_of (by rw [cut]; exact upd_same)), fx, flat, ?_⟩⟩
      exact q _ (((e2.trans e3).trans e4).trans (Ex.new hp))
    · refine .inr ⟨a, xs, rfl, st_of l4, fun z => ?_, fun _ p hp => ⟨p, xs.take i, rfl, .inr (st_of (by rw [cut]; exact upd_same)), fx, flat, ?_⟩⟩
      · have := z.2
        rw [HT.sIx_nat] at this
        omega
      · exact q _ (((e2.trans e3).trans e4).trans (Ex.new hp)))
end Cw
set_option Elab.async false
set_option linter.all false
set_option maxRecDepth 100000
set_option maxHeartbeats 4000000
namespace Cw
open PySem PySem.Spec PyProof.Rows L2 Evl
/-! ### the lambda of want_free -/
def lamOf : Stmt → Option (Arguments × Expr × Scope × Pos)
  | .Assign [_] (.Call _ [_, .Lambda p b s q] _ _) _ => some (p, b, s, q)
  | _ => none
def lamD : Arguments × Expr × Scope × Pos := (lamOf ((defBody s_want_free).getD 1 (.Pass ⟨0, 0, 0, 0⟩))).getD (default, .Constant .none 0 ⟨0, 0, 0, 0⟩, default, ⟨0, 0, 0, 0⟩)
theorem sc_lam : NdefX.NScope ["one", "width"] ["one"] ["width"] lamD.2.2.1 := NdefX.nscope_by (by decide +kernel)
/-- the lambda as a function: its captured cells, its code object -/
def lamF (q : Str) (cl : List (Str × Addr)) (c' : Addr) : NdefX.NF := ⟨"<lambda>", q, lamD.1, [], lamD.2.2.1, cl, c'⟩
section
variable {X : Cx} {pins : List (Addr × Obj)} {σ : L2.St} {H HZ : Hp} {s sZ : Shared}
theorem cells_later {cl : List (Str × Addr)} {fr : List Str} {ws : List (Option V)} {fs : List Addr} (C : NdefX.CellsAt cl fr ws s.heap H) (un : Un fs [] H HZ s.heap sZ.heap) : NdefX.CellsAt cl fr ws sZ.heap HZ := by
  have kp : ∀ y c, cl.lookup y = some c → ∀ v, s.heap.IsCell c v → sZ.heap.IsCell c v := fun y c e v ⟨o, ho, hd⟩ => by
    obtain ⟨sl, q⟩ := un.any ho (C.all y c e).1 (by simp)
    exact ⟨_, q, hd⟩
  refine ⟨C.len, fun y c e => ?_, C.inj, fun i y e => ?_⟩
  · obtain ⟨n, v, z⟩ := C.all y c e
    have z2 := kp y c e v z
    obtain ⟨o, ho, _⟩ := z
    exact ⟨un.free c o ho n (by simp), v, z2⟩
  · obtain ⟨c, hc, hv⟩ := C.has i y e
    refine ⟨c, hc, fun v ev => ?_⟩
    obtain ⟨u, r, z⟩ := hv v ev
    exact ⟨u, r, kp y c hc _ z⟩
/-- what the lambda answers, its parameter v, its captured names ws -/
def tAct (i : Nat) (f c' : Addr) (q : Str) (ws : List (Option V)) (tb : TE) (ta : TA) : TE := fun σZ HZ Q => σZ[i]? = some (some (.ref f)) ∧ ta σZ HZ fun vs H2 => ∃ v, vs = [v] ∧ H2 c' = some (LamX.CodeO c' q) ∧ tb (NdefX.startF ["one", "width"] [v] ws) H2 Q
theorem pe_actL {Ng : List Str} {qg q : Str} {sg : Scope} {g f c' : Addr} {cdg pm ctv : Value} {k i : Nat} {a : Str} {cl : List (Str × Addr)} {ws : List (Option V)} {tb : TE} {ta : TA} {e : Expr} {p1 p2 : Pos}
    (hf : s.heap.get? f = some (PySem.W.kla_obj "<lambda>" q lamD.1 lamD.2.1 lamD.2.2.1 cl pm c' ctv)) (hfn : H f = none) (hfr : f ∉ frs X.stack) (C : NdefX.CellsAt cl ["width"] ws s.heap H)
    (hbind : ∀ u : Value, bindArgs (PySem.W.kla_fn "<lambda>" q lamD.1 lamD.2.1 lamD.2.2.1 cl pm (.ref c') ctv) ⟨[u], []⟩ = pure [((Str.ofString "one"), u)])
    (hr : Room (k + 1) (X.A.deeper (envOfC qg sg s.heap.objs.size g cdg)))
    (hbody : ∀ (A : Around) (outer : List Env) (s : Shared) (H : Hp) (E : XK), Room k (A.deeper (NdefX.envF (lamF q cl c') f s.heap.objs.size)) → PE (NdefX.ncx CX0 X.prog X.w X.K X.mg X.base ["one", "width"] (lamF q cl c') f A outer s H E).nox lamD.2.1 tb)
    (hN : Ng[i]? = some a) (hv : Vis sg a) (ha : PA (cxOf CX0 X.prog X.w X.K X.mg X.base Ng qg sg g cdg X.A X.stack s H E0).nox [e] ta)
    (hd : (a == ("__debug__" : Str)) = false := by decide) (hcd : (a == ("__classdict__" : Str)) = false := by decide)
    (he : starEach [e] (cxOf CX0 X.prog X.w X.K X.mg X.base Ng qg sg g cdg X.A X.stack s H E0).nox.env = (false, eval e (cxOf CX0 X.prog X.w X.K X.mg X.base Ng qg sg g cdg X.A X.stack s H E0).nox.env) :: starEach [] (cxOf CX0 X.prog X.w X.K X.mg X.base Ng qg sg g cdg X.A X.stack s H E0).nox.env := by rfl)
    (hpl : (backTo p2 (starEach [] (cxOf CX0 X.prog X.w X.K X.mg X.base Ng qg sg g cdg X.A X.stack s H E0).nox.env)).any (·.1) = false := by rfl) :
    PE (cxOf CX0 X.prog X.w X.K X.mg X.base Ng qg sg g cdg X.A X.stack s H E0).nox (.Call (.Name a p1) [e] [] p2) (tAct i f c' q ws tb ta) := by
  refine ⟨fun pinsZ sZ σZ HZ Q IZ h => ?_⟩
  obtain ⟨hs, ht⟩ := h
  refine wpAny_Call_Name_kw (thn ((pe_var (pos := p1) (i := i) hN hv hd hcd).run pinsZ sZ σZ HZ (fun v H1 => v = .ref f ∧ H1 = HZ) IZ ⟨.ref f, hs, rfl, rfl⟩) fun u s1 ⟨v, H1, I1, r1, q1⟩ => ?_)
  obtain ⟨ev, eH⟩ := q1
  subst ev
  rw [eH] at I1
  obtain rfl : u = Value.ref f := r1
  have atF : ∀ {s1 : Shared} {H1 : Hp}, Inv (cxOf CX0 X.prog X.w X.K X.mg X.base Ng qg sg g cdg X.A X.stack s H E0).nox pinsZ σZ H1 s1 → s1.heap.get? f = some (PySem.W.kla_obj "<lambda>" q lamD.1 lamD.2.1 lamD.2.2.1 cl pm c' ctv) := fun I => I.base.keep f _ hf hfn hfr (fun z => nomatch (show f ∈ ([] : List Addr) from z))
  refine PySem.W.callWith_F (first := []) ⟨_, _, _, _, atF I1⟩ (thn (ha.run p2 pinsZ s1 σZ HZ _ I1 ht) fun us s2 ⟨vs, H2, I2, r, v, ev, hc, q2⟩ => ⟨⟨_, _, _, _, atF I2⟩, ?_⟩) he hpl
  subst ev
  show wpAny _ _ (call (.ref f) us) _ _ _
  cases r with
  | @cons _ u0 _ us0 r0 rr =>
    cases rr
    have of2 := atF I2
    have un : Un (frs X.stack) [] H H2 s.heap s2.heap := I2.base
    have C2 := cells_later C un
    obtain ⟨⟨oc, cvs, t, hoc, hdc, hvc⟩, _, _⟩ := I2.hok c' _ hc
    have rc : codeAny (model X.prog X.w) (X.A.deeper (envOfC qg sg s.heap.objs.size g cdg)) (.call (.ref f) ⟨[u0], []⟩) (CR CX0 (envOfC qg sg s.heap.objs.size g cdg :: X.stack) X.prog X.w H2 s2 Q E0) s2 := by
      refine PySem.W.kla_callFunE hr.depth of2 rfl sc_lam.co sc_lam.gen rfl ⟨c', oc, cvs, t, rfl, hoc, hdc, hvc⟩ ?_
      rw [hbind]
      refine wpAny_pure (wpAny_newFunctionEnv sc_lam.nocell (fun y hy => ?_) (fun h₁ hns hsb => ⟨I2.nolimit.fresh _ hsb, ?_⟩) sc_lam.kind)
      · rw [List.mem_singleton.mp hy]
        exact sc_lam.par _ (List.mem_singleton.mpr rfl)
      show codeAny _ _ (.expr lamD.2.1 (NdefX.envF (lamF q cl c') f s2.heap.objs.size)) _ _
      have kp : ∀ b o, s2.heap.get? b = some o → h₁.get? b = some o := fun b o e => hsb.extBut b o (Nat.ne_of_lt (Heap.lt_size e)) (Heap.get?_push_of_some _ e)
      have J := NdefX.inv_startN (CX := CX0) (E := E0) (F := lamF q cl c') (f := f) (tk := s2.toks + 1) (us := [u0]) (vs := [v]) (ws := ws) sc_lam hr.hd I2.env0 rfl (.cons r0 .nil) C2 hns kp
      have hb := (hbody (X.A.deeper (envOfC qg sg s.heap.objs.size g cdg)) (envOfC qg sg s.heap.objs.size g cdg :: X.stack) s2 H2 E0 (hr.deeper _)).nox
      refine PySem.W.kla_codeExpr (wpAny_mono (hb.run [] _ _ H2 Q J q2) (fun v s' hq => ?_) fun e s' hq => hq)
      obtain ⟨w', H', J', rv, q⟩ := hq
      exact ⟨w', H', J'.os, J'.bare, J'.base, J'.hok, rv, q⟩
    refine wpAny_call (codeAny_mono rc fun r s' hq => ?_)
    cases r with
    | error e => exact hq
    | ok fl =>
      cases fl with
      | ret u => exact I2.after hq
      | next => exact False.elim hq
      | brk => exact False.elim hq
      | cont => exact False.elim hq
end
end Cw
set_option Elab.async false
set_option linter.all false
set_option maxRecDepth 100000
set_option maxHeartbeats 4000000
namespace Cw
open PySem PySem.Spec PyProof.Rows L2 Evl
theorem inV_txt (l : List Bool) (ls : List (List Bool)) : inV (txt l) (ls.map txt) = decide (l ∈ ls) := by
  unfold inV
  rw [List.any_map, Bool.eq_iff_iff, List.any_eq_true, decide_eq_true_eq]
  constructor
  · rintro ⟨m, hm, e⟩
    have e : (bS m == bS l) = true := e
    rw [beq_iff_eq] at e
    exact bS_inj e ▸ hm
  · exact fun h => ⟨l, h, (beq_iff_eq (a := bS l) (b := bS l)).mpr rfl⟩
theorem flat_txt (ls : List (List Bool)) : (ls.map txt).all flatV = true := by
  rw [List.all_map]
  exact List.all_eq_true.mpr fun _ _ => rfl
theorem q_forI {wi : TI} {g : TG} {tb tz : TS} {D : Ends} {σ : L2.St} {H : Hp} {n : Nat} {Y : Nat → V → Hp → Prop} (hi : EvI wi σ H n Y) (Pv : Hp → Nat → L2.St → Hp → Prop) (h0 : ∀ H1, Ex H H1 → Pv H1 0 σ H1) (hx : ∀ H1 i σ' H', Pv H1 i σ' H' → Ex H1 H')
    (hs : ∀ H1 i x σ' Ha Hb, Ex H H1 → i < n → Pv H1 i σ' Ha → Ex Ha Hb → Y i x Hb → g x σ' Hb fun σ2 H2 => tb { D with nx := Pv H1 (i + 1), ct := Pv H1 (i + 1), bk := tz D } σ2 H2) (hd : ∀ H1 σ' H', Ex H H1 → Pv H1 n σ' H' → tz D σ' H') : tSeq (tFor wi g tb) tz D σ H :=
  hi H (Ex.refl _) _ fun J G H1 e1 w hG => for_it w (Pv H1) (h0 H1 e1) (fun i σ' H' _ p => hG H' (hx H1 i σ' H' p)) (fun i x σ' Ha Hb hi p y => hs H1 i x σ' Ha Hb e1 hi p y.1 y.2) fun σ' H' p => hd H1 σ' H' e1 p
section
variable {P : Program} {w : World} {K : PySem.W.Frag} {mg : Str → Option Value} {base : Heap}
abbrev Nfw : List Str := ["some", "is_right", "position", "element"]
theorem fw_walk {g f c' : Addr} {cdg : Value} {A : Around} {outer : List Env} {s : Shared} {H : Hp} {q : Str} {ws : List (Option V)} {tb : TE} (B : Bt mg)
    (act : ∀ p1 p2 p3, PE (cxOf CX0 P w K mg base Nfw "first_wrong" (defScope s_first_wrong) g cdg A outer s H E0).nox (.Call (.Name "is_right" p1) [.Name "element" p2] [] p3) (tAct 1 f c' q ws tb (tCons (tVar 3) tNil))) :
    ∃ t, PSs (cxOf CX0 P w K mg base Nfw "first_wrong" (defScope s_first_wrong) g cdg A outer s H E0).nox (defBody s_first_wrong) t ∧ ∀ (a : Addr) (ls : List (List Bool)) (Q : VK), LT H a (ls.map txt) → ls.Nodup → H c' = some (LamX.CodeO c' q) →
      (∀ l ∈ ls, ∀ H', Ex H H' → Ev tb (NdefX.startF ["one", "width"] [txt l] ws) H' (.bl true)) → (∀ H', Ex H H' → Q .non H') → t { nx := fun _ H' => Q .non H', rt := Q } (L2.start Nfw [.ref a, .ref f]) H := by
  refine ⟨_, pss_cons (ps_for PassesOwn.never rfl (pi_enumS (by rfl) B.enumerate (pa_cons (pv 0) pa_nil)) (pg_tup (by rfl) (pgs_cons (pg_name (i := 2) sc_first_wrong.nd rfl (.inl rfl)) (pgs_cons (pg_name (i := 3) sc_first_wrong.nd rfl (.inl rfl)) pgs_nil)))
    (pss_one (ps_if (PW.pt (pw_or (pt_not (pt_val (act _ _ _))) (pw_or1 (pt_cmpR op_in_seq (pv 3) (pe_slice sl_any (pv 0) po_none (po_some (pv 2))) (by rfl))))) (pss_one (ps_ret (pv 2))) pss_nil)))
    (pss_one (ps_ret pe_non)), ?_⟩
  intro a ls Q hl nd hc hb hQ
  refine q_forI (ei_enum (K := K) (ea_cons (ev_var rfl) ea_nil) hl) (fun H2 i σ H' => ∃ v2 v3, σ = [some (.ref a), some (.ref f), v2, v3] ∧ Ex H2 H') (fun H2 _ => ⟨none, none, rfl, Ex.refl _⟩) (fun H2 i σ H' ⟨_, _, _, e⟩ => e) ?_ ?_
  · rintro H2 i x σ Ha Hb e2 hi ⟨v2, v3, rfl, e⟩ y1 ⟨T, y, hy, rfl, hT⟩
    rw [List.getElem?_map] at hy
    obtain ⟨l, hll, rfl⟩ := Option.map_eq_some_iff.mp hy
    have eB : Ex H Hb := e2.trans (e.trans y1)
    refine eg_tup (st_of hT) rfl (egs_cons eg_name (egs_cons eg_name egs_nil)) Hb (Ex.refl _) _ ?_
    have no : inV (txt l) ((ls.map txt).take i) = false := by
      rw [← List.map_take, inV_txt]
      refine decide_eq_false fun hm => ?_
      obtain ⟨j, hj⟩ := List.mem_iff_getElem?.mp hm
      have hji : j < i := by
        have := (List.getElem?_eq_some_iff.mp hj).1
        rw [List.length_take] at this
        omega
      rw [List.getElem?_take_of_lt hji] at hj
      have h1 := (List.getElem?_eq_some_iff.mp hj)
      have h2 := (List.getElem?_eq_some_iff.mp hll)
      exact (List.pairwise_iff_getElem.mp nd) j i h1.1 h2.1 hji (by rw [h1.2, h2.2])
    refine s_when (b := false) (et_is (et_or (a := false) (b := false) (et_not (a := true) (et_B ?_)) fun _ => et_test (ev_is (ev_inSl (i := i) (ev_var rfl) (ev_var rfl) (ev_var rfl) (LT.ex eB hl) hi rfl (flat_txt ls)) (by rw [no]))) rfl) (fun z => absurd z Bool.false_ne_true) fun _ H3 e3 => ⟨_, _, rfl, e.trans (y1.trans e3)⟩
    intro H3 e3 Q3 q3
    refine ⟨rfl, _, rfl, _, rfl, (eB.trans e3) _ _ hc, ?_⟩
    exact hb l (List.mem_of_getElem? hll) H3 (eB.trans e3) H3 (Ex.refl _) Q3 q3
  · rintro H2 σ H' e2 ⟨v2, v3, rfl, e⟩
    exact s_ret ev_c fun H3 e3 => hQ H3 (e2.trans (e.trans e3))
/-- the table of want_free's code object -/
def WT (K : PySem.W.Frag) : Addr := He.tabOf K (He.codeOf K ("want_free", none))
def lq : Str := "want_free.<locals>.<lambda>"
def TK (K : PySem.W.Frag) (H : Hp) : Prop := LamX.Tabs [(WT K, lq)] H
/-- all that was tracked stays, but the tables; they are told still -/
def Fx (K : PySem.W.Frag) (H H' : Hp) : Prop := LamX.ExtN H H' ∧ (TK K H → TK K H')
theorem Fx.refl (H : Hp) : Fx K H H := ⟨LamX.ExtN.refl H, id⟩
theorem Fx.trans {H H1 H2 : Hp} (a : Fx K H H1) (b : Fx K H1 H2) : Fx K H H2 := ⟨a.1.trans b.1, fun t => b.2 (a.2 t)⟩
theorem Fx.of {H H' : Hp} (e : Ex H H') : Fx K H H' := ⟨LamX.ExtN.of e, fun t => LamX.Tabs.ext t e⟩
theorem LT.fx {H H' : Hp} {a : Addr} {xs : List V} (e : Fx K H H') (h : LT H a xs) : LT H' a xs := h.imp (fun z => e.1 _ _ z fun _ q => by cases q) fun z => e.1 _ _ z fun _ q => by cases q
def tFw (K : PySem.W.Frag) : TE := fun σ H Q => ∃ (n : Nat) (a : Addr) (ls : List (List Bool)), σ[0]? = some (some (.int (n : Int))) ∧ σ[1]? = some (some (.ref a)) ∧ (1 ≤ n ∧ n ≤ 100) ∧ LT H a (ls.map txt) ∧ ls.Nodup ∧ (∀ l ∈ ls, l.length ≤ n) ∧ TK K H ∧ ∀ H', Fx K H H' → Q .non H'
abbrev Nwf : List Str := ["width", "free", "position"]
theorem lam_free : NdefX.ndefB (defScope s_want_free) lamD.2.2.1 ["width"] = true := by decide +kernel
theorem pe_fw {g : Addr} {cdv : Value} {c : Addr} {A : Around} {outer : List Env} {s0 : Shared} {H0 : Hp} {E : XK} {p p2 pos lpos : Pos} (hcd : cdv = .ref c) (TB : LamX.TabB base mg c (WT K)) (B : Bt mg) (D : Df K mg "first_wrong" s_first_wrong) (kst : Kp P w K mg base 4 "is_stretch" ["width", "value"] spIsStr)
    (hr : Room 6 (A.deeper (envOfC "want_free" (defScope s_want_free) s0.heap.objs.size g cdv))) :
    PE (cxOf CX0 P w K mg base Nwf "want_free" (defScope s_want_free) g cdv A outer s0 H0 E).nox (.Call (.Name "first_wrong" p) [.Name "free" p2, .Lambda lamD.1 lamD.2.1 lamD.2.2.1 lpos] [] pos) (tFw K) := by
  subst hcd
  refine ⟨fun pins s σ H Q I h => ?_⟩
  obtain ⟨n, a, ls, h0, h1, hn, hl, nd, hle, hT, hQ⟩ := h
  obtain ⟨fd, F, gm⟩ := D
  have hB : L2.Binds K fd ["some", "is_right"] [] := F.bindsN fun _ _ _ _ _ _ us hl => match us, hl with | [_, _], _ => rfl
  obtain ⟨oc, od, dV, kV, doc, pm, an, cdg, ct, osl, rfl, lk, hcg, _, _⟩ := F.ex
  refine wpAny_Call_Name_kw (ld_glob I (by rfl) gm ?_ (by decide))
  refine PySem.W.callWith_K (h₀ := base) I.ok.mod.kin F.kp ?_ (by rfl) (by rfl)
  show wpAny _ _ (spliced ((false, eval (.Name "free" p2) (cxOf CX0 P w K mg base Nwf "want_free" (defScope s_want_free) g (.ref c) A outer s0 H0 E).nox.env) :: (false, eval (.Lambda lamD.1 lamD.2.1 lamD.2.2.1 lpos) (cxOf CX0 P w K mg base Nwf "want_free" (defScope s_want_free) g (.ref c) A outer s0 H0 E).nox.env) :: [])) _ _ s
  refine Calls.spliced_cons (thn ((pv (X := (cxOf CX0 P w K mg base Nwf "want_free" (defScope s_want_free) g (.ref c) A outer s0 H0 E).nox) 1 (x := "free")).run pins s σ H (fun v H1 => v = .ref a ∧ H1 = H) I ⟨.ref a, h1, rfl, rfl⟩) fun u s1 ⟨v, H1, I1, r1, ev, eH⟩ => ?_)
  subst ev eH
  obtain rfl : u = Value.ref a := r1
  have free2 : ∀ y ∈ lamD.2.2.1.names, y.2 = .free → ∃ c', (cxOf CX0 P w K mg base Nwf "want_free" (defScope s_want_free) g (.ref c) A outer s0 H0 E).nox.env.cells.lookup y.1 = some c' := fun y hy e => (NdefX.ndef_free lam_free y hy e).elim (fun z => I1.ok.has _ (.inl z)) fun z => I1.ok.has _ (.inr z)
  refine Calls.spliced_cons (LamX.lam_make2 (T := [(WT K, lq)]) I1 TB rfl (List.mem_singleton.mpr rfl) (fun p hp e => by rw [List.mem_singleton.mp hp] <;> rfl) hT (by rfl) free2 fun f c' pm' ctv H2 s' I2 eN T1 hf hfn hfr hco => ?_)
  refine Calls.spliced_nil ⟨I2.kIn, ?_⟩
  have C := NdefX.cells_of I2 (NdefX.Caps.made (fr := ["width"]) (js := [0]) I2.ok (NdefX.ndef_free lam_free) (NdefX.ndef_fr lam_free) (by rfl))
  have hs0 : [0].map (NdefX.slotAt σ) = [some (.int (n : Int))] := by
    show [NdefX.slotAt σ 0] = _
    rw [NdefX.slotAt_of h0]
  rw [hs0] at C
  have e12 : Fx K H1 H2 := ⟨eN, fun _ => T1⟩
  have rc : codeAny (model P w) (cxOf CX0 P w K mg base Nwf "want_free" (defScope s_want_free) g (.ref c) A outer s0 H0 E).nox.A (.call (.ref (He.ga K "first_wrong")) ⟨[.ref a, .ref f], []⟩) (CR CX0 (cxOf CX0 P w K mg base Nwf "want_free" (defScope s_want_free) g (.ref c) A outer s0 H0 E).nox.stack P w H2 s' Q E0) s' := by
    refine LamX.run_ofS (N := Nfw) (ps := ["some", "is_right"]) (us := [.ref a, .ref f]) (vs := [.ref a, .ref f]) lk hcg sc_first_wrong hr I2.env0 (hB s' [.ref a, .ref f] I2.kIn rfl) (.cons rfl (.cons rfl .nil)) rfl fun hr' => ?_
    obtain ⟨t, ht, hq⟩ := fw_walk (P := P) (w := w) (K := K) (mg := mg) (base := base) (g := He.ga K "first_wrong") (f := f) (c' := c') (cdg := cdg) (A := (cxOf CX0 P w K mg base Nwf "want_free" (defScope s_want_free) g (.ref c) A outer s0 H0 E).nox.A) (outer := (cxOf CX0 P w K mg base Nwf "want_free" (defScope s_want_free) g (.ref c) A outer s0 H0 E).nox.stack) (s := s') (H := H2) (q := lq) (ws := [some (.int (n : Int))])
      (tb := tCall spIsStr [] E0 (tCons (tVar 1) (tCons (tVar 0) tNil))) B fun p1 p2 p3 => pe_actL (X := (cxOf CX0 P w K mg base Nwf "want_free" (defScope s_want_free) g (.ref c) A outer s0 H0 E).nox) (k := 4) hf hfn hfr C (fun u => rfl) hr'
        (fun A outer s H E hr2 => by
          show PE _ (.Call (.Name "is_stretch" _) [.Name "width" _, .Name "one" _] [] _) _
          exact pe_k (X := (NdefX.ncx CX0 P w K mg base ["one", "width"] (lamF lq _ c') f A outer s H E).nox) kst hr2 (pa_cons (pv 1) (pa_cons (pv 0) pa_nil)))
        rfl (.inl rfl) (pa_cons (pv 3) pa_nil)
    exact ⟨t, ht.nox, hq a ls Q (LT.fx e12 hl) nd hco (fun l hl1 H' e' => ev_call0 (ea_cons (ev_var rfl) (ea_cons (ev_var rfl) ea_nil)) fun H3 e3 Q q E => ⟨n, l, rfl, hn, hle l hl1, fun H4 e4 => q H4 e4⟩) fun H' e' => hQ H' (e12.trans (Fx.of e'))⟩
  refine wpAny_call (codeAny_mono rc fun r s2 hq => ?_)
  cases r with
  | error e => exact (show False from hq).elim
  | ok fl =>
    cases fl with
    | ret u => exact I2.after hq
    | next => exact False.elim hq
    | brk => exact False.elim hq
    | cont => exact False.elim hq
def rNotN : R2 := fun x y H Q => y = .non ∧ Q (.bl (!decide (x = .non))) H
def rIsN : R2 := fun x y H Q => y = .non ∧ Q (.bl (decide (x = .non))) H
theorem op_nN {X : Cx} : OpR X (compareOp .IsNot) rNotN := op_notN
theorem op_iN {X : Cx} : OpR X (compareOp .Is) rIsN := op_isN
theorem rv_nN {x : V} {H : Hp} : RV rNotN x .non H (.bl (!decide (x = .non))) := fun H1 _ Q q => ⟨rfl, q H1 (Ex.refl _)⟩
theorem rv_iN {x : V} {H : Hp} : RV rIsN x .non H (.bl (decide (x = .non))) := fun H1 _ Q q => ⟨rfl, q H1 (Ex.refl _)⟩
theorem rc_lenLT {H : Hp} {f : Addr} {xs : List V} (h : LT H f xs) : RC (rLenS K) [.ref f] H (.int (xs.length : Int)) := fun H1 e Q q => (LT.ex e h).elim (fun z => rc_lenL (sq_of z) H1 (Ex.refl _) Q q) fun z => rc_lenU (st_of z) H1 (Ex.refl _) Q q
/-- a def whose own code object is named -/
theorem kp_ofC {x : Str} {st : Stmt} {N ps : List Str} {k : Nat} {sp : Sp} (D : Df K mg x st) (S : FnScope N ps (defScope st))
    (hb : ∀ (kV doc pm : Value) (an : Option Addr) (cdv ct : Value) (us : List Value), us.length = ps.length → bindArgs (PySem.W.fnOf x x (defArgs st) (defBody st) (defScope st) .none kV doc pm an cdv ct) ⟨us, []⟩ = pure (ps.zip us))
    (len : ∀ vs H Q E, sp vs H Q E → vs.length = ps.length)
    (body : ∀ (cdv : Value) (A : Around) (outer : List Env) (s : Shared) (H : Hp) (vs : List V) (Q : VK) (E : XK), cdv = .ref (He.codeOf K (x, none)) → Room k (A.deeper (envOfC x (defScope st) s.heap.objs.size (He.ga K x) cdv)) → sp vs H Q E →
      ∃ t, PSs (cxOf CX0 P w K mg base N x (defScope st) (He.ga K x) cdv A outer s H E).nox (defBody st) t ∧ t { nx := fun _ H' => Q .non H', rt := Q } (start N vs) H) :
    Kp P w K mg base (k + 1) x ps sp := by
  obtain ⟨fd, F, g⟩ := D
  have hB := F.bindsN hb
  obtain ⟨oc, od, dV, kV, doc, pm, an, cdv, ct, osl, rfl, lk, hcd, _, _⟩ := F.ex
  obtain ⟨c, ec⟩ := He.codeIn_ref hcd
  have e2 : He.codeOf K (x, none) = c := He.codeOf_eq (p := (x, none)) lk ec
  exact ⟨_, fn_of lk hcd S len fun A outer s H vs Q E hr hsp => by
    obtain ⟨t, ht, hq⟩ := body cdv A outer s H vs Q E (by rw [ec, e2]) hr hsp
    exact ⟨t, ht.nox, hq⟩, hB, F.kp, g⟩
def RetX (K : PySem.W.Frag) (v : V) (H : Hp) (Q : VK) : Prop := ∀ H', Fx K H H' → Q v H'
def spWantF (K : PySem.W.Frag) : Sp := fun vs H Q _ => ∃ (n : Nat) (f : Addr) (ls : List (List Bool)), vs = [.int (n : Int), .ref f] ∧ (1 ≤ n ∧ n ≤ 100) ∧ LT H f (ls.map txt) ∧ ls.Nodup ∧ (∀ l ∈ ls, l.length ≤ n) ∧ ls.length ≤ 20 ∧ TK K H ∧ RetX K .non H Q
theorem kp_want_free (B : Bt mg) (G : Gv K mg) (D : Df K mg "want_free" s_want_free) (D1 : Df K mg "first_wrong" s_first_wrong) (TB : LamX.TabB base mg (He.codeOf K ("want_free", none)) (WT K)) (k1 : Kp P w K mg base 6 "is_list" ["value"] spIsList) (kst : Kp P w K mg base 4 "is_stretch" ["width", "value"] spIsStr) :
    Kp P w K mg base 7 "want_free" ["width", "free"] (spWantF K) := by
  refine kp_ofC D sc_want_free (fun _ _ _ _ _ _ us hl => match us, hl with | [_, _], _ => rfl) (fun vs H Q E h => ?_) (fun cdv A outer s H vs Q E hc hr h => ?_)
  · obtain ⟨n, f, ls, rfl, _⟩ := h
    rfl
  · obtain ⟨n, f, ls, rfl, hn, hl, nd, hle, h20, hT, q⟩ := h
    obtain ⟨t20, g20⟩ := G.mostF
    refine ⟨_, pss_cons (ps_if (pt_not (pt_val (pe_k k1 hr (pa_cons (pv 1) pa_nil)))) (pss_one ps_never) pss_nil)
      (pss_cons (ps_set (i := 2) sc_want_free.nd rfl (Or.inl rfl) (pe_fw hc TB B D1 kst hr))
      (pss_cons (ps_if (pt_cmpR op_nN (pv 2) pe_non (nomark _)) (pss_one ps_never) pss_nil)
      (pss_one (ps_if (pt_cmpR op_gt (pe_callB cr_lenS (by rfl) B.len boot_len (pa_cons (pv 1) pa_nil)) (pe_glob (v := .int 20) (by rfl) g20 ⟨t20, rfl⟩) (nomark _)) (pss_one ps_never) pss_nil)))), ?_⟩
    refine q_when (b := false) (et_not (a := true) (et_B (ev_call0 (ea_cons (ev_var rfl) ea_nil) fun H1 e Q q E => ⟨f, _, rfl, LT.ex e hl, fun H2 e2 => q H2 e2⟩))) (fun z => absurd z Bool.false_ne_true) fun _ H1 e1 => ?_
    refine ⟨n, f, ls, rfl, rfl, hn, LT.ex e1 hl, nd, hle, LamX.Tabs.ext hT e1, fun H2 e2 => ?_⟩
    have l2 := LT.fx e2 (LT.ex e1 hl)
    refine q_when (b := false) (et_test (ev_op (x := .non) (ev_var rfl) ev_c rv_nN)) (fun z => absurd z Bool.false_ne_true) fun _ H3 e3 => ?_
    refine s_when (b := false) (et_is (et_test (ev_op (ev_cb (ea_cons (ev_var rfl) ea_nil) (rc_lenLT (LT.ex e3 l2))) ev_c rv_I0)) ?_) (fun z => absurd z Bool.false_ne_true) fun _ H4 e4 => q H4 ((Fx.of e1).trans (e2.trans (Fx.of (e3.trans e4))))
    rw [List.length_map]
    exact decide_eq_false (by omega)
end
end Cw
set_option Elab.async false
set_option linter.all false
set_option maxRecDepth 100000
set_option maxHeartbeats 4000000
namespace Cw
open PySem PySem.Spec PyProof.Rows L2 Evl
/-! ### sorted of a dict's keys -/
def rSortD : List V → Hp → VK → Prop := fun xs H Q => ∃ (a : Addr) (kvs : List (Key × V)) (ks : List Str), xs = [.ref a] ∧ Rd H a (.dK kvs) ∧ kvs.map (·.1) = ks.map Sum.inr ∧ ks.length < 64 ∧
    ∀ ys p, ys.Perm ks → sortedS ys = true → H p = none → Q (.ref p) (upd H p (.lst (ys.map V.str)))
def rSortDR : List V → List V → Hp → VK → Prop := fun xs zs H Q => ∃ (a : Addr) (kvs : List (Key × V)) (ks : List Int), xs = [.ref a] ∧ zs = [.bl true] ∧ Rd H a (.dK kvs) ∧ kvs.map (·.1) = ks.map Sum.inl ∧ ks.length < 64 ∧
    ∀ (ys : List Int) p, ys.Perm ks → ys.Pairwise (· ≥ ·) → H p = none → Q (.ref p) (upd H p (.lst (ys.map V.int)))
section
variable {X : Cx}
theorem cr_sortD (hc : X.calm = true) : CallR X (.builtin "sorted") rSortD := call_sortedD hc
theorem ints_keys : ∀ {us : List Value} {ks : List Int}, us.length = ks.length → (∀ (j : Nat) (v : Value), us[j]? = some v → ∃ (x : Int) (t : Tok), ks[j]? = some x ∧ v = Value.int x t) → IntsAre us ks
  | [], [], _, _ => .nil
  | u :: us, k :: ks, hl, h => by
    obtain ⟨x, t, e1, rfl⟩ := h 0 u rfl
    obtain rfl : k = x := Option.some.inj e1
    exact .cons _ _ (ints_keys (by simpa using hl) fun j v e => by
      obtain ⟨x, t, a, b⟩ := h (j + 1) v (by simpa using e)
      exact ⟨x, t, by simpa using a, b⟩)
  | [], _ :: _, hl, _ => by simp at hl
  | _ :: _, [], hl, _ => by simp at hl
theorem cr_sortDR (hc : X.calm = true) : CallRK X (.builtin "sorted") [Str.ofString "reverse"] rSortDR := by
  intro pins s σ H xs zs us ws Q I r rz q
  obtain ⟨a, kvs, ks, rfl, rfl, hd, hks, h64, q⟩ := q
  obtain rfl := Vals.ref1 r
  obtain ⟨w, rfl, rw'⟩ := rz.one
  obtain rfl : w = Value.bool true := rw'
  obtain ⟨z, lo, vs, rel, dd⟩ := dk_rd I.hok hd
  obtain ⟨ep, hat⟩ := dd.dictAt
  have keys : vs.map (·.1) = ks.map Sum.inl := rel.keys.symm.trans hks
  have hl : vs.length = ks.length := by
    have e := congrArg List.length keys
    rw [List.length_map, List.length_map] at e
    exact e
  show wpAny _ _ (call (.builtin "sorted") [.ref a] [(Str.ofString "reverse", .bool true)]) _ _ _
  refine PyProof.Rows.call_function_entry_kw kind_sorted plain_sorted entry_sorted (args_sorted_rev _ _) ?_
  unfold Builtin.«sorted»
  refine wpAny_bind (m := checkCount "sorted" 1 1 _) (wpAny_pure (wpAny_bind (PySem.W.kdu_collect (A := X.A.in1) (PySem.W.kdl_dict (knd := mixKind X.prog X.w) (kvs := vs) (ep := ep) lo) (I.ok.hd hc) hat (by rw [hl, sizeLine_eq]; omega) fun h' tk acc hk hacc => ?_)))
  have al : acc.toList.length = ks.length := by rw [Array.length_toList, hacc.1, hl]
  have hI : IntsAre acc.toList ks := ints_keys al fun j v e => by
    obtain ⟨k, x, e1, e2⟩ := hacc.2 j v (by rw [← Array.getElem?_toList]; exact e)
    have e3 : (vs.map (·.1))[j]? = some k := by
      rw [List.getElem?_map, e1]
      rfl
    rw [keys, List.getElem?_map] at e3
    obtain ⟨y, hy, e4⟩ := Option.map_eq_some_iff.mp e3
    subst e4
    obtain ⟨t, ev⟩ := Value.isInt_shape (show Value.isInt y v = true from e2)
    exact ⟨y, t, hy, ev⟩
  have I1 : Inv X pins σ H { s with heap := h', toks := tk } := I.kept hk
  refine wpAny_bind (wpAny_newList ?_ (by rw [al, sizeLine_eq]; omega))
  have atL : (h'.push (seqObj "list" acc.toList.toArray 0)).get? h'.objs.size = some (seqObj "list" acc.toList.toArray 0) := Heap.get?_push_size _ rfl
  show wpAny _ _ _ _ _ { s with heap := h'.push (seqObj "list" acc.toList.toArray 0), toks := tk }
  refine wpAny_bind (wpAny_holding (wpAny_call_entry_kw slot_list_sort ⟨_, atL, rfl⟩ entry_list_sort (list_sort_tree_rev (s := { s with heap := h'.push (seqObj "list" acc.toList.toArray 0), toks := tk }) atL hI (by rw [al]; exact h64) fun out ns' a1 a2 a3 => ⟨_, rfl, ?_⟩) (args_list_sort_rev _ _)))
  obtain ⟨c, hc'⟩ := sortedHeap_at (vs := acc.toList) (out := out) atL
  have few : (ns'.map V.int).length ≤ sizeLine := by rw [List.length_map, a2.length_eq, sizeLine_eq]; omega
  refine wpAny_pure ⟨_, rfl, .ref h'.objs.size, upd H h'.objs.size (.lst (ns'.map V.int)), I1.laid (t' := tk) (fun b u e => ?_) (Nat.le_refl _) (show ObjOk X.prog X.w _ _ _ (.lst (ns'.map V.int)) from ⟨few, out.toList, c, vals_of_ints a1, by rw [Array.toArray_toList]; exact hc'⟩), rfl, q ns' _ a2 a3 (I1.hok.fresh (Nat.le_refl _))⟩
  have lt := Heap.lt_size e
  refine (sortedHeap_old (vs := acc.toList) (Nat.ne_of_lt lt) (by rw [size_push']; exact Nat.lt_succ_of_lt lt)).trans ?_
  exact Heap.get?_push_of_some _ e
end
end Cw
set_option Elab.async false
set_option linter.all false
set_option maxRecDepth 100000
set_option maxHeartbeats 4000000
namespace Cw
open PySem PySem.Spec PyProof.Rows L2 Evl
/-! ### rows, tables -/
abbrev Row := List Bool × Str
def rowKV (r : Row) : Key × V := (.inr (bS r.1), .str r.2)
def look (rs : List Row) (l : List Bool) : Option Str := (rs.find? fun r => r.1 == l).map (·.2)
theorem look_kv (rs : List Row) (l : List Bool) : valV (rs.map rowKV) (.inr (bS l)) = (look rs l).map V.str := by
  induction rs with
  | nil => rfl
  | cons r rs ih =>
    by_cases e : r.1 = l
    · have h1 : (rowKV r).1 = .inr (bS l) := by rw [← e] <;> rfl
      rw [List.map_cons, valV_pos h1]
      unfold look
      rw [List.find?_cons, show (r.1 == l) = true from beq_iff_eq.mpr e] <;> rfl
    · have h1 : ¬ (rowKV r).1 = .inr (bS l) := fun z => e (bS_inj (Sum.inr.inj z))
      rw [List.map_cons, valV_neg h1, ih]
      unfold look
      rw [List.find?_cons, show (r.1 == l) = false from beq_eq_false_iff_ne.mpr e]
section
variable {K : PySem.W.Frag} {σ : L2.St} {H H' : Hp} {ta tb te : TE} {x y v : V}
theorem ev_fld {T C dx : Addr} {fs : List (Str × V)} {f : Str} (h : Ev ta σ H (.ref T)) (hT : H T = some (.ins C dx fs)) (c : Cls K C) (n : NoAttr K C f) (l : fs.lookup f = some v) : Ev (tFld K ta f) σ H v := fun H1 e Q q =>
  h H1 e _ fun H2 e2 => ⟨T, C, dx, fs, v, rfl, e2 _ _ (e _ _ hT), c, n, l, q H2 e2⟩
theorem ev_con {T C dx : Addr} {fs : List (Str × V)} {f : Str} {u : Value} (h : Ev ta σ H (.ref T)) (hT : H T = some (.ins C dx fs)) (c : Cls K C) (n : Con K C f v u) (l : fs.lookup f = none) : Ev (tCon K ta f) σ H v := fun H1 e Q q =>
  h H1 e _ fun H2 e2 => ⟨T, C, dx, fs, v, u, rfl, e2 _ _ (e _ _ hT), c, n, l, q H2 e2⟩
theorem ev_meth {T C dx : Addr} {fs : List (Str × V)} {m : Str} {sp : Sp} {E : XK} {tr : TA} {vs : List V} (h : Ev ta σ H (.ref T)) (hT : H T = some (.ins C dx fs)) (l : fs.lookup m = none) (ha : EvA tr σ H vs) (hs : SpV sp (.ref T :: vs) H v) : Ev (tMeth C m sp [] E ta tr) σ H v := fun H1 e Q q =>
  h H1 e _ fun H2 e2 => ⟨T, dx, fs, rfl, e2 _ _ (e _ _ hT), l, ha H2 (e.trans e2) _ fun H3 e3 => by
    rw [List.append_nil]
    exact hs H3 ((e.trans e2).trans e3) Q (fun H4 e4 => q H4 ((e2.trans e3).trans e4)) E⟩
end
/-- the class and its methods, as they stand behind the top -/
structure TbC (K : PySem.W.Frag) (mg : Str → Option Value) (C : Addr) : Prop where
  cls : Cls K C
  g : mg "Table" = some (.ref C)
  nw : NoAttr K C "own_width"
  nr : NoAttr K C "own_rows"
  ns : NoAttr K C "own_sizes"
  most : ∃ u, Con K C "MOST_ROWS" (.int 40) u
def Dm (K : PySem.W.Frag) (C : Addr) (m q : Str) (st : Stmt) : Prop := ∃ f fd, FunD K m q (defArgs st) (defBody st) (defScope st) [] [] f fd ∧ Meth K C m f
def Kpm (P : Program) (w : World) (K : PySem.W.Frag) (mg : Str → Option Value) (base : Heap) (k : Nat) (C : Addr) (m : Str) (ps : List Str) (sp : Sp) : Prop := ∃ f fd, FnOk P w K mg base CX0 k f fd ps sp ∧ Binds K fd ps [] ∧ Meth K C m f
def tbFs (n : Nat) (d sa : Addr) : List (Str × V) := [("own_width", .int (n : Int)), ("own_rows", .ref d), ("own_sizes", .ref sa)]
/-- a table at T -/
def TbAt (C : Addr) (H : Hp) (T : Addr) (n : Nat) (rs : List Row) (szs : List Nat) : Prop :=
  ∃ dx d sa, H T = some (.ins C dx (tbFs n d sa)) ∧ H d = some (.dK (rs.map rowKV)) ∧ H sa = some (.lst (szs.map fun (k : Nat) => V.int (k : Int)))
theorem TbAt.ex {C : Addr} {H H' : Hp} {T : Addr} {n : Nat} {rs : List Row} {szs : List Nat} (e : Ex H H') (h : TbAt C H T n rs szs) : TbAt C H' T n rs szs := let ⟨dx, d, sa, h1, h2, h3⟩ := h; ⟨dx, d, sa, e _ _ h1, e _ _ h2, e _ _ h3⟩
theorem TbAt.fx {K : PySem.W.Frag} {C : Addr} {H H' : Hp} {T : Addr} {n : Nat} {rs : List Row} {szs : List Nat} (e : Fx K H H') (h : TbAt C H T n rs szs) : TbAt C H' T n rs szs := let ⟨dx, d, sa, h1, h2, h3⟩ := h; ⟨dx, d, sa, e.1 _ _ h1 (fun _ q => by cases q), e.1 _ _ h2 (fun _ q => by cases q), e.1 _ _ h3 (fun _ q => by cases q)⟩
/-- which row's stretch, which goal: the sizes from the left -/
def rowM (rs : List Row) (szs : List Nat) (a : List Bool) : Option Nat := szs.find? fun k => (look rs (a.take k)).isSome
def goalM (rs : List Row) (szs : List Nat) (a : List Bool) : Str := match rowM rs szs a with
  | some k => (look rs (a.take k)).getD "hole"
  | none => "hole"
section
variable {P : Program} {w : World} {K : PySem.W.Frag} {mg : Str → Option Value} {base : Heap} {C : Addr}
theorem kpm_of {m q : Str} {st : Stmt} {N ps : List Str} {k : Nat} {sp : Sp} (D : Dm K C m q st) (S : FnScope N ps (defScope st))
    (hb : ∀ (kV doc pm : Value) (an : Option Addr) (cdv ct : Value) (us : List Value), us.length = ps.length → bindArgs (PySem.W.fnOf m q (defArgs st) (defBody st) (defScope st) .none kV doc pm an cdv ct) ⟨us, []⟩ = pure (ps.zip us))
    (len : ∀ vs H Q E, sp vs H Q E → vs.length = ps.length)
    (body : ∀ (f : Addr) (cdv : Value) (A : Around) (outer : List Env) (s : Shared) (H : Hp) (vs : List V) (Q : VK) (E : XK), Room k (A.deeper (envOfC q (defScope st) s.heap.objs.size f cdv)) → sp vs H Q E →
      ∃ t, PSs (cxOf CX0 P w K mg base N q (defScope st) f cdv A outer s H E).nox (defBody st) t ∧ t { nx := fun _ H' => Q .non H', rt := Q } (start N vs) H) : Kpm P w K mg base (k + 1) C m ps sp := by
  obtain ⟨f, fd, F, M⟩ := D
  refine ⟨f, fd, F.ok S len fun cdv A outer s H vs Q E hr hsp => ?_, F.bindsN hb, M⟩
  obtain ⟨t, ht, hq⟩ := body f cdv A outer s H vs Q E hr hsp
  exact ⟨t, ht.nox, hq⟩
theorem Kpm.up {j k : Nat} {m : Str} {ps : List Str} {sp : Sp} (h : Kpm P w K mg base j C m ps sp) (l : j ≤ k) : Kpm P w K mg base k C m ps sp := by
  obtain ⟨f, fd, F, b, M⟩ := h
  exact ⟨f, fd, F.mono l, b, M⟩
theorem pe_km {X : Cx} {k : Nat} {m : Str} {ps : List Str} {sp : Sp} {o e : Expr} {es : List Expr} {ta : TE} {t : TA} {apos pos : Pos} {pl : Sem Bool} (he : PE X o ta) (c : Cls X.K C) (h : Kpm X.prog X.w X.K X.mg X.base k C m ps sp) (hr : Room k X.A) (ha : PA X (e :: es) t)
    (hst : starEach (e :: es) X.env = (false, eval e X.env) :: starEach es X.env := by rfl) (hpl : (backTo pos (starEach es X.env)).any (·.1) = false := by rfl)
    (ht : eval (.Call (.Attribute o m apos) (e :: es) [] pos) X.env = (do
      let ov ← eval o X.env
      standAt apos.atName
      let (f, first) ← holding [ov] (getMethod ov m pl)
      callWith pos f first (backTo pos (starEach (e :: es) X.env)) (backToKw pos (keywordEach [] X.env))) := by rfl) :
    PE X (.Call (.Attribute o m apos) (e :: es) [] pos) (tMeth C m sp [] E0 ta t) := by
  obtain ⟨f, fd, F, b, M⟩ := h
  exact pe_meth he c M F hr b .nil pass0 ha hst hpl ht
def spRowOf (C : Addr) : Sp := fun vs H Q _ => ∃ (T : Addr) (n : Nat) (rs : List Row) (szs : List Nat) (a : List Bool), vs = [.ref T, .str (bS a)] ∧ TbAt C H T n rs szs ∧ a.length ≤ 1000 ∧ (∀ k ∈ szs, k ≤ 1000) ∧ RetV (match rowM rs szs a with | some k => .str (bS (a.take k)) | none => .non) H Q
theorem kp_row_of (tc : TbC K mg C) (D : Dm K C "row_of" "Table.row_of" s_T_row_of) : Kpm P w K mg base 1 C "row_of" ["self", "address"] (spRowOf C) := by
  refine kpm_of D sc_T_row_of (fun _ _ _ _ _ _ us hl => match us, hl with | [_, _], _ => rfl) (fun vs H Q E h => ?_) (fun f cdv A outer s H vs Q E hr h => ?_)
  · obtain ⟨T, n, rs, szs, a, rfl, _⟩ := h
    rfl
  · obtain ⟨T, n, rs, szs, a, rfl, ⟨dx, d, sa, h1, h2, h3⟩, ha, hsz, q⟩ := h
    refine ⟨_, pss_cons (ps_for PassesOwn.never rfl (pi_list (pe_fld (pv 0) (by rfl))) (pg_name (i := 2) sc_T_row_of.nd rfl (.inl rfl))
        (pss_one (ps_if (pt_cmp (pc_din (u1 hr) (pe_slice sl_str (pv 1) po_none (po_some (pv 2))) (pe_fld (pv 0) (by rfl))) (by rfl)) (pss_one (ps_ret (pe_slice sl_str (pv 1) po_none (po_some (pv 2))))) pss_nil)))
      (pss_one (ps_ret pe_non)), ?_⟩
    refine q_forI (ei_list (K := K) (ev_fld (ev_var rfl) h1 tc.cls tc.ns rfl) (sq_of h3)) (fun H2 i σ H' => ∃ v2, σ = [some (.ref T), some (.str (bS a)), v2] ∧ Ex H2 H' ∧ ∀ j, j < i → ∀ k, szs[j]? = some k → (look rs (a.take k)).isSome = false) (fun H2 _ => ⟨none, rfl, Ex.refl _, fun j hj => absurd hj (Nat.not_lt_zero _)⟩) (fun H2 i σ H' ⟨_, _, e, _⟩ => e) ?_ ?_
    · rintro H2 i x σ Ha Hb e2 hi ⟨v2, rfl, e, hno⟩ y1 hx
      rw [List.getElem?_map] at hx
      obtain ⟨k, hk, rfl⟩ := Option.map_eq_some_iff.mp hx
      have eB : Ex H Hb := e2.trans (e.trans y1)
      show tIfS _ _ _ _ [some (.ref T), some (.str (bS a)), some (.int (k : Int))] Hb
      have cut : ∀ {H'}, Ev (tSl L2.rSlS (tVar 1) tNoPart (tPart (tVar 2))) [some (.ref T), some (.str (bS a)), some (.int (k : Int))] H' (.str (bS (a.take k))) := fun {H'} => ev_is (ev_slS (ev_var rfl) eo_none (eo_some (ev_var rfl)) (by rw [bS_len]; omega)) (by rw [bS_take])
      refine s_when (b := (look rs (a.take k)).isSome) (et_is (et_B (ev_din (k := .inr (bS (a.take k))) cut (ev_fld (ev_var rfl) (eB _ _ h1) tc.cls tc.nr rfl) (eB _ _ h2))) ?_) (fun hb H3 e3 => ?_) fun hb H3 e3 => ?_
      · rw [look_kv]
        cases look rs (a.take k) <;> rfl
      · have found : rowM rs szs a = some k := by
          unfold rowM
          refine List.find?_eq_some_iff_getElem.mpr ⟨hb, i, (List.getElem?_eq_some_iff.mp hk).1, (List.getElem?_eq_some_iff.mp hk).2, fun j hj => ?_⟩
          have := hno j hj (szs[j]'(by have := (List.getElem?_eq_some_iff.mp hk).1; omega)) (List.getElem?_eq_getElem _)
          rw [this]
          rfl
        rw [found] at q
        exact s_ret cut fun H4 e4 => q H4 (eB.trans (e3.trans e4))
      · refine ⟨_, rfl, e.trans (y1.trans e3), fun j hj k' hk' => ?_⟩
        rcases Nat.lt_or_ge j i with h | h
        · exact hno j h k' hk'
        · obtain rfl : j = i := by omega
          rw [hk] at hk'
          cases hk'
          exact hb
    · rintro H2 σ H' e2 ⟨v2, rfl, e, hno⟩
      have none' : rowM rs szs a = none := by
        unfold rowM
        refine List.find?_eq_none.mpr fun k hk => ?_
        obtain ⟨j, hj⟩ := List.mem_iff_getElem?.mp hk
        have := hno j (by rw [List.length_map]; exact (List.getElem?_eq_some_iff.mp hj).1) k hj
        rw [this]
        decide
      rw [none'] at q
      exact s_ret ev_c fun H3 e3 => q H3 (e2.trans (e.trans e3))
def spGoalOf (C : Addr) : Sp := fun vs H Q _ => ∃ (T : Addr) (n : Nat) (rs : List Row) (szs : List Nat) (a : List Bool), vs = [.ref T, .str (bS a)] ∧ TbAt C H T n rs szs ∧ a.length ≤ 1000 ∧ (∀ k ∈ szs, k ≤ 1000) ∧ RetV (.str (goalM rs szs a)) H Q
theorem kp_goal_of (G : Gv K mg) (tc : TbC K mg C) (D : Dm K C "goal_of" "Table.goal_of" s_T_goal_of) (k1 : Kpm P w K mg base 1 C "row_of" ["self", "address"] (spRowOf C)) : Kpm P w K mg base 2 C "goal_of" ["self", "address"] (spGoalOf C) := by
  refine kpm_of D sc_T_goal_of (fun _ _ _ _ _ _ us hl => match us, hl with | [_, _], _ => rfl) (fun vs H Q E h => ?_) (fun f cdv A outer s H vs Q E hr h => ?_)
  · obtain ⟨T, n, rs, szs, a, rfl, _⟩ := h
    rfl
  · obtain ⟨T, n, rs, szs, a, rfl, tb, ha, hsz, q⟩ := h
    obtain ⟨dx, d, sa, h1, h2, h3⟩ := id tb
    obtain ⟨to, go⟩ := G.hole
    refine ⟨_, pss_cons (ps_set (i := 2) sc_T_goal_of.nd rfl (.inl rfl) (pe_km (pv 0) tc.cls k1 hr (pa_cons (pv 1) pa_nil)))
      (pss_one (ps_ret (pe_ifExp (pt_cmpR op_iN (pv 2) pe_non (nomark _)) (pe_glob (v := .str "hole") (by rfl) go ⟨to, rfl⟩) (pe_dget (u1 hr) (pe_fld (pv 0) (by rfl)) (pv 2) (by intro _ _; rfl))))), ?_⟩
    refine q_asg (ev_meth (ev_var rfl) h1 rfl (ea_cons (ev_var rfl) ea_nil) fun H1 e Q q E => ⟨T, n, rs, szs, a, rfl, TbAt.ex e tb, ha, hsz, fun H2 e2 => q H2 e2⟩) fun H1 e1 => ?_
    refine s_ret (v := .str (goalM rs szs a)) ?_ fun H2 e2 => q H2 (e1.trans e2)
    unfold goalM
    cases hm : rowM rs szs a with
    | none => exact ev_if (b := true) (et_is (et_test (ev_op (x := .non) (ev_var rfl) ev_c rv_iN)) rfl) (fun _ => ev_c) fun z => absurd z (by decide)
    | some k =>
      have hl : (look rs (a.take k)).isSome = true := by
        unfold rowM at hm
        exact List.find?_some (p := fun k => (look rs (a.take k)).isSome) hm
      obtain ⟨g, hg⟩ := Option.isSome_iff_exists.mp hl
      refine ev_if (b := false) (et_is (et_test (ev_op (x := .str (bS (a.take k))) (ev_var rfl) ev_c rv_iN)) (decide_eq_false fun z => by cases z)) (fun z => absurd z Bool.false_ne_true) fun _ => ?_
      refine ev_dget (k := .inr (bS (a.take k))) (ev_fld (ev_var rfl) (e1 _ _ h1) tc.cls tc.nr rfl) (ev_var rfl) (e1 _ _ h2) ?_
      rw [look_kv]
      show (look rs (a.take k)).map V.str = some (V.str ((look rs (a.take k)).getD "hole"))
      rw [hg]
      rfl
end
end Cw
set_option Elab.async false
set_option linter.all false
set_option maxRecDepth 100000
set_option maxHeartbeats 4000000
namespace Cw
open PySem PySem.Spec PyProof.Rows L2 Evl
/-! ### is_row, are_rows, Table's __init__ -/
section
variable {K : PySem.W.Frag} {σ : L2.St} {H H' : Hp} {ta tb tk tv te tl : TE} {tt : TT} {g : TG} {x y v : V} {D : Ends} {tz tu : TS} {vs : List Nat} {N M : Addr → Hp → Prop}
theorem el_is {xs ys : List V} (h : EvL te σ H xs) (e : xs = ys) : EvL te σ H ys := e ▸ h
theorem lc_of (h : EvN tl σ H N) (k : ∀ p H1, H p = none → Ex H H1 → N p H1 → EvN (tLc (iList K (tC (.ref p))) g tt te vs) σ H1 M) : EvN (tLc (iList K tl) g tt te vs) σ H M := fun H1 e Q q =>
  h H1 e _ fun p H2 hp e2 hN => k p H2 (fresh_back e hp) (e.trans e2) hN H2 (Ex.refl _) Q fun r H3 hr e3 hM => q r H3 (fresh_back e2 hr) (e2.trans e3) hM
theorem dc_of (h : EvN tl σ H N) (k : ∀ p H1, H p = none → Ex H H1 → N p H1 → EvN (tDc (iList K (tC (.ref p))) g tt tk tv vs) σ H1 M) : EvN (tDc (iList K tl) g tt tk tv vs) σ H M := fun H1 e Q q =>
  h H1 e _ fun p H2 hp e2 hN => k p H2 (fresh_back e hp) (e.trans e2) hN H2 (Ex.refl _) Q fun r H3 hr e3 hM => q r H3 (fresh_back e2 hr) (e2.trans e3) hM
theorem en_newK : EvN tDNewK σ H (fun p H' => H' p = some (.dK [])) := fun H1 e Q q p hp => q p _ hp (Ex.new hp) upd_same
theorem en_sortD {a : Addr} {kvs : List (Key × V)} {ks : List Str} (h : Ev ta σ H (.ref a)) (hd : H a = some (.dK kvs)) (hk : kvs.map (·.1) = ks.map Sum.inr) (h64 : ks.length < 64) :
    EvN (tCB rSortD (tCons ta tNil)) σ H (fun p H' => ∃ ys : List Str, ys.Perm ks ∧ sortedS ys = true ∧ H' p = some (.lst (ys.map V.str))) := fun H1 e Q q =>
  h H1 e _ fun H2 e2 => ⟨a, kvs, ks, rfl, .inl (e2 _ _ (e _ _ hd)), hk, h64, fun ys p y1 y2 hp => q p _ (fresh_back e2 hp) (e2.trans (Ex.new hp)) ⟨ys, y1, y2, upd_same⟩⟩
theorem en_sortDR {tz : TE} {a : Addr} {kvs : List (Key × V)} {ks : List Int} (h : Ev ta σ H (.ref a)) (h2 : Ev tz σ H (.bl true)) (hd : H a = some (.dK kvs)) (hk : kvs.map (·.1) = ks.map Sum.inl) (h64 : ks.length < 64) :
    EvN (tCKw rSortDR (tCons ta tNil) (tCons tz tNil)) σ H (fun p H' => ∃ ys : List Int, ys.Perm ks ∧ ys.Pairwise (· ≥ ·) ∧ H' p = some (.lst (ys.map V.int))) := fun H1 e Q q =>
  h H1 e _ fun H2 e2 => h2 H2 (e.trans e2) _ fun H3 e3 => ⟨a, kvs, ks, rfl, rfl, .inl (e3 _ _ (e2 _ _ (e _ _ hd))), hk, h64, fun ys p y1 y2 hp => q p _ (fresh_back (e2.trans e3) hp) ((e2.trans e3).trans (Ex.new hp)) ⟨ys, y1, y2, upd_same⟩⟩
theorem q_fld {T C dx : Addr} {fs : List (Str × V)} {f : Str} (hv : Ev tv σ H y) (ho : Ev ta σ H (.ref T)) (hT : H T = some (.ins C dx fs)) (c : Cls K C) (n : NoAttr K C f) (hl : fs.length < 1000) (k : ∀ H1, Ex H H1 → tz D σ (upd H1 T (.ins C dx (putF f y fs)))) : tSeq (sFld K ta tv f) tz D σ H :=
  hv H (Ex.refl _) _ fun H1 e1 => ho H1 e1 _ fun H2 e2 => ⟨T, C, dx, fs, rfl, e2 _ _ (e1 _ _ hT), c, n, hl, k H2 (e1.trans e2)⟩
theorem q_fldN {i : Nat} {T C dx : Addr} {fs : List (Str × V)} {f : Str} (hv : EvN tv σ H N) (ho : σ[i]? = some (some (.ref T))) (hT : H T = some (.ins C dx fs)) (c : Cls K C) (n : NoAttr K C f) (hl : fs.length < 1000) (k : ∀ p H1, H p = none → Ex H H1 → N p H1 → tz D σ (upd H1 T (.ins C dx (putF f (.ref p) fs)))) : tSeq (sFld K (tVar i) tv f) tz D σ H :=
  hv H (Ex.refl _) _ fun p H1 hp e1 hN => ⟨.ref T, ho, T, C, dx, fs, rfl, e1 _ _ hT, c, n, hl, k p H1 hp e1 hN⟩
theorem s_fldN {i : Nat} {T C dx : Addr} {fs : List (Str × V)} {f : Str} (hv : EvN tv σ H N) (ho : σ[i]? = some (some (.ref T))) (hT : H T = some (.ins C dx fs)) (c : Cls K C) (n : NoAttr K C f) (hl : fs.length < 1000) (k : ∀ p H1, H p = none → Ex H H1 → N p H1 → D.nx σ (upd H1 T (.ins C dx (putF f (.ref p) fs)))) : sFld K (tVar i) tv f D σ H :=
  hv H (Ex.refl _) _ fun p H1 hp e1 hN => ⟨.ref T, ho, T, C, dx, fs, rfl, e1 _ _ hT, c, n, hl, k p H1 hp e1 hN⟩
end
section
variable {P : Program} {w : World} {K : PySem.W.Frag} {mg : Str → Option Value} {base : Heap} {C : Addr}
def spIsRow : Sp := fun vs H Q _ => ∃ (n : Nat) (T : Addr) (r : Row), vs = [.int (n : Int), .ref T] ∧ H T = some (.tup [.str (bS r.1), .str r.2]) ∧ (1 ≤ n ∧ n ≤ 100) ∧ r.1.length ≤ n ∧ GoalOk r.2 ∧ RetV (.bl true) H Q
theorem kp_is_row (B : Bt mg) (D : Df K mg "is_row" s_is_row) (k1 : Kp P w K mg base 4 "is_stretch" ["width", "value"] spIsStr) (k2 : Kp P w K mg base 4 "is_goal" ["value"] spIsGoal) : Kp P w K mg base 5 "is_row" ["width", "value"] spIsRow := by
  refine kp_of D sc_is_row (fun _ _ _ _ _ _ us hl => match us, hl with | [_, _], _ => rfl) (fun vs H Q E h => ?_) (fun cdv A outer s H vs Q E hr h => ?_)
  · obtain ⟨n, T, r, rfl, _⟩ := h
    rfl
  · obtain ⟨n, T, r, rfl, hT, hn, hl, hg, q⟩ := h
    refine ⟨_, pss_cons (ps_if (PW.pt (pw_or (pt_not (pt_val (pe_isi (T := "tuple") (pv 1) B.isinstance B.tuple))) (pw_or1 (pt_cmpR op_ne (pe_callB cr_lenS (by rfl) B.len boot_len (pa_cons (pv 1) pa_nil)) pe_int (nomark _))))) (pss_one (ps_ret pe_bl)) pss_nil)
      (pss_one (ps_ret (pe_and (pe_k k1 hr (pa_cons (pv 0) (pa_cons (pe_ix ix_tup (pv 1) pe_int (by intro _ _; rfl)) pa_nil))) (pe_one (pe_k k2 hr (pa_cons (pe_ix ix_tup (pv 1) pe_int (by intro _ _; rfl)) pa_nil)))))), ?_⟩
    refine q_when (b := false) (et_is (et_or (a := false) (b := false) (et_not (a := true) (et_B (ev_isi (ev_var rfl) (fun H' e => .base (.tup (e _ _ hT))) (kit_ty (by decide +kernel))))) fun _ => et_is (et_test (ev_op (ev_cb (ea_cons (ev_var rfl) ea_nil) (rc_lenU (st_of hT))) ev_c (rv_ne rfl))) (show (!decide (V.int ((2 : Nat) : Int) = V.int 2)) = false by decide)) rfl) (fun z => absurd z Bool.false_ne_true) fun _ H1 e1 => ?_
    have hT1 := e1 _ _ hT
    refine s_ret (v := .bl true) (ev_andV (a := true) (b := true) (ev_call0 (ea_cons (ev_var rfl) (ea_cons (ev_op (ev_var rfl) ev_c (rv_ixT (st_of hT1) rfl)) ea_nil)) fun H2 e Q q E => ⟨n, r.1, rfl, hn, hl, fun H3 e3 => q H3 e3⟩) fun _ => ev_call0 (ea_cons (ev_op (ev_var rfl) ev_c (rv_ixT (st_of hT1) rfl)) ea_nil) fun H2 e Q q E => ⟨r.2, rfl, hg, fun H3 e3 => q H3 e3⟩) fun H2 e2 => q H2 (e1.trans e2)
def spAreRows : Sp := fun vs H Q _ => ∃ (n : Nat) (d : Addr) (rs : List Row), vs = [.int (n : Int), .ref d] ∧ H d = some (.dK (rs.map rowKV)) ∧ (1 ≤ n ∧ n ≤ 100) ∧ (∀ r ∈ rs, r.1.length ≤ n ∧ GoalOk r.2) ∧ rs.length ≤ 1000 ∧ RetV (.bl true) H Q
theorem kp_are_rows (B : Bt mg) (D : Df K mg "are_rows" s_are_rows) (k1 : Kp P w K mg base 5 "is_row" ["width", "value"] spIsRow) : Kp P w K mg base 6 "are_rows" ["width", "value"] spAreRows := by
  refine kp_of D sc_are_rows (fun _ _ _ _ _ _ us hl => match us, hl with | [_, _], _ => rfl) (fun vs H Q E h => ?_) (fun cdv A outer s H vs Q E hr h => ?_)
  · obtain ⟨n, d, rs, rfl, _⟩ := h
    rfl
  · obtain ⟨n, d, rs, rfl, hd, hn, hrs, hz, q⟩ := h
    refine ⟨_, pss_one (ps_ret (pe_and (pe_isi (T := "dict") (pv 1) B.isinstance B.dict) (pe_one (pe_callB (cr_all rfl) (by rfl) B.all (by decide +kernel) (pa_cons
      (pe_lock (pe_lc (own := [("row", 2)]) (g := gName 2) (by rfl) sc_are_rows.nd (pi_items1 (pv 1)) (blkOk_by (N := ["width", "value", "row"]) (sc := defScope s_are_rows) (by decide +kernel)) (fun _ _ _ _ _ => pg_name (i := 2) sc_are_rows.nd rfl (Or.inl rfl)) (fun _ _ _ _ _ => pts_nil)
        (fun _ _ _ _ _ => pe_k k1 hr (pa_cons (pv 0) (pa_cons (pv 2) pa_nil))))) pa_nil))))), ?_⟩
    refine s_ret (v := .bl true) (ev_andV (a := true) (b := true) (ev_isi (ev_var rfl) (fun H' e => .base (.dK (e _ _ hd))) (kit_ty (by decide +kernel))) fun _ => ?_) fun H1 e => q H1 e
    refine ev_cbN (N := fun p H' => H' p = some (.lst ((List.range rs.length).map fun _ => .bl true))) (en_lock hd trivial (fun od => en_l (el_is (el_lcV (ei_items (ev_var rfl) upd_same) (by rw [List.length_map]; omega) (fun _ => .bl true) fun i x H1 hi e hx => ?_) (by rw [List.length_map]))) fun p Ha od h1 h2 h3 => (upd_ne h2).trans h3) fun p H1 e h1 H2 e2 Q q => ⟨p, (List.range rs.length).map fun _ => true, rfl, ?_, ?_⟩
    · obtain ⟨T, k, v, hkv, rfl, hT⟩ := hx
      rw [List.getElem?_map] at hkv
      obtain ⟨r, hr1, hr2⟩ := Option.map_eq_some_iff.mp hkv
      obtain ⟨rfl, rfl⟩ : Sum.inr (bS r.1) = k ∧ V.str r.2 = v := ⟨congrArg Prod.fst hr2, congrArg Prod.snd hr2⟩
      have ok := hrs r (List.mem_of_getElem? hr1)
      refine ⟨_, ?_, eg_name, ?_⟩
      · rfl
      · exact ev_call0 (ea_cons (ev_var rfl) (ea_cons (ev_var rfl) ea_nil)) fun H2 e2 Q q E => ⟨n, T, r, rfl, e2 _ _ hT, hn, ok.1, ok.2, fun H3 e3 => q H3 e3⟩
    · rw [List.map_map]
      exact ex_l e2 (sq_of h1)
    · rw [all_true]
      exact q _ (Ex.refl _)
end
end Cw
set_option Elab.async false
set_option linter.all false
set_option maxRecDepth 100000
set_option maxHeartbeats 4000000
namespace Cw
open PySem PySem.Spec PyProof.Rows L2 Evl
/-! ### Table: __init__, width, __call__ -/
structure SzOf (rs : List Row) (szs : List Nat) : Prop where
  down : szs.Pairwise (· > ·)
  mem : ∀ k, k ∈ szs ↔ ∃ r ∈ rs, r.1.length = k
structure RsOf (rs rs' : List Row) : Prop where
  perm : (rs'.map (·.1)).Perm (rs.map (·.1))
  lex : (rs'.map (·.1)).Pairwise LexB
  val : ∀ l, look rs' l = look rs l
theorem look_some {rs : List Row} {l : List Bool} : l ∈ rs.map (·.1) → ∃ g, look rs l = some g := by
  intro h
  obtain ⟨r, hr, rfl⟩ := List.mem_map.mp h
  unfold look
  cases hf : rs.find? (fun x => x.1 == r.1) with
  | some x => exact ⟨x.2, rfl⟩
  | none =>
    have := List.find?_eq_none.mp hf r hr
    exact absurd (beq_self_eq_true r.1) this
theorem look_none {rs : List Row} {l : List Bool} (h : l ∉ rs.map (·.1)) : look rs l = none := by
  unfold look
  rw [List.find?_eq_none.mpr]
  · rfl
  · intro x hx e
    exact h (List.mem_map.mpr ⟨x, hx, beq_iff_eq.mp e⟩)
theorem look_mk (zs : List (List Bool)) (f : List Bool → Str) (l : List Bool) : look (zs.map fun z => (z, f z)) l = if l ∈ zs then some (f l) else none := by
  induction zs with
  | nil => rfl
  | cons z zs ih =>
    by_cases e : z = l
    · subst e
      rw [if_pos List.mem_cons_self]
      unfold look
      rw [List.map_cons, List.find?_cons, show ((z, f z).1 == z) = true from beq_self_eq_true z] <;> rfl
    · have : look ((z :: zs).map fun z => (z, f z)) l = look (zs.map fun z => (z, f z)) l := by
        unfold look
        rw [List.map_cons, List.find?_cons, show ((z, f z).1 == l) = false from beq_eq_false_iff_ne.mpr e]
      rw [this, ih]
      by_cases h : l ∈ zs
      · rw [if_pos h, if_pos (List.mem_cons_of_mem _ h)]
      · rw [if_neg h, if_neg (fun x => (List.mem_cons.mp x).elim (fun y => e y.symm) h)]
theorem rsOf_mk {rs : List Row} {zs : List (List Bool)} (hp : zs.Perm (rs.map (·.1))) (hl : zs.Pairwise LexB) : RsOf rs (zs.map fun z => (z, (look rs z).getD "hole")) := by
  have e : (zs.map fun z => (z, (look rs z).getD "hole")).map (·.1) = zs := by rw [List.map_map]; exact List.map_id zs
  refine ⟨by rw [e]; exact hp, by rw [e]; exact hl, fun l => ?_⟩
  rw [look_mk zs (fun z => (look rs z).getD "hole")]
  by_cases h : l ∈ zs
  · rw [if_pos h]
    obtain ⟨g, hg⟩ := look_some (hp.mem_iff.mp h)
    rw [hg] <;> rfl
  · rw [if_neg h, look_none fun x => h (hp.mem_iff.mpr x)]
theorem ints_nat : ∀ {ys : List Int}, (∀ y ∈ ys, ∃ k : Nat, y = (k : Int)) → ∃ zs : List Nat, ys = zs.map fun k : Nat => (k : Int)
  | [], _ => ⟨[], rfl⟩
  | y :: ys, h => by
    obtain ⟨k, rfl⟩ := h y List.mem_cons_self
    obtain ⟨zs, rfl⟩ := ints_nat fun x hx => h x (List.mem_cons_of_mem _ hx)
    exact ⟨k :: zs, rfl⟩
/-- the keys that a dict of lengths has -/
theorem lens_keys : ∀ (ps : List (Key × V)) (ls : List Nat) (kvs : List (Key × V)) (ks : List Nat), ps.map (·.1) = ls.map (fun k : Nat => (.inl (k : Int) : Key)) → kvs.map (·.1) = ks.map (fun k : Nat => (.inl (k : Int) : Key)) → ks.Nodup →
    ∃ ks' : List Nat, (mergeK kvs ps).map (·.1) = ks'.map (fun k : Nat => (.inl (k : Int) : Key)) ∧ ks'.Nodup ∧ (∀ k, k ∈ ks' ↔ k ∈ ks ∨ k ∈ ls) ∧ ks'.length ≤ ks.length + ls.length
  | [], ls, kvs, ks, h, hk, nd => by
    have : ls = [] := by
      cases ls with
      | nil => rfl
      | cons a b => simp at h
    subst this
    exact ⟨ks, hk, nd, fun k => by simp, by simp⟩
  | p :: ps, [], kvs, ks, h, _, _ => by simp at h
  | p :: ps, l :: ls, kvs, ks, h, hk, nd => by
    rw [List.map_cons, List.map_cons] at h
    injection h with h1 h2
    have step : ∃ ks1 : List Nat, (putK kvs p.1 p.2).map (·.1) = ks1.map (fun k : Nat => (.inl (k : Int) : Key)) ∧ ks1.Nodup ∧ (∀ k, k ∈ ks1 ↔ k ∈ ks ∨ k = l) ∧ ks1.length ≤ ks.length + 1 := by
      by_cases hl : l ∈ ks
      · refine ⟨ks, ?_, nd, fun k => ⟨.inl, fun z => z.elim id fun e => e ▸ hl⟩, by omega⟩
        have any1 : (kvs.any fun kv => decide (kv.1 = p.1)) = true := by
          have : p.1 ∈ kvs.map (·.1) := by rw [hk, h1]; exact List.mem_map.mpr ⟨l, hl, rfl⟩
          obtain ⟨kv, k1, k2⟩ := List.mem_map.mp this
          exact List.any_eq_true.mpr ⟨kv, k1, decide_eq_true k2⟩
        unfold putK
        rw [if_pos any1, List.map_map, ← hk]
        refine List.map_congr_left fun kv _ => ?_
        show (if kv.1 = p.1 then (kv.1, p.2) else kv).1 = kv.1
        split <;> rfl
      · refine ⟨ks ++ [l], ?_, List.nodup_append.mpr ⟨nd, by simp, fun a ha b hb e => hl (by rw [← List.mem_singleton.mp hb, ← e]; exact ha)⟩, fun k => by simp, by simp⟩
        have no : valV kvs p.1 = none := by
          have h3 := valV_any p.1 kvs
          cases hv : valV kvs p.1 with
          | none => rfl
          | some v =>
            rw [hv] at h3
            obtain ⟨kv, hkv, e⟩ := List.any_eq_true.mp h3
            have e := of_decide_eq_true e
            have : p.1 ∈ ks.map (fun k : Nat => (.inl (k : Int) : Key)) := by rw [← hk, ← e]; exact List.mem_map_of_mem hkv
            obtain ⟨k, k1, k2⟩ := List.mem_map.mp this
            rw [h1] at k2
            have : k = l := by
              have := Sum.inl.inj k2
              omega
            exact absurd (this ▸ k1) hl
        rw [putK_new _ no, List.map_append, hk, List.map_append]
        show ks.map _ ++ [p.1] = ks.map _ ++ [_]
        rw [h1]
    obtain ⟨ks1, s1, s2, s3, s4⟩ := step
    obtain ⟨ks', t1, t2, t3, t4⟩ := lens_keys ps ls (putK kvs p.1 p.2) ks1 h2 s1 s2
    refine ⟨ks', t1, t2, fun k => ?_, by rw [List.length_cons]; omega⟩
    rw [t3, s3, List.mem_cons, or_assoc]
section
variable {K : PySem.W.Frag} {σ : L2.St} {H H' : Hp} {ta tb te : TE} {t : TT} {D : Ends} {tz : TS} {E : V → Hp → Prop} {N : Addr → Hp → Prop}
theorem ep_if {b : Bool} (h : EvT t σ H b) (h1 : b = true → EvP ta σ H E) (h2 : b = false → EvP tb σ H E) : EvP (tIf t ta tb) σ H E := fun H1 e Q q => h H1 e _ fun H2 e2 => by
  cases b with
  | true => exact h1 rfl H2 (e.trans e2) Q fun v H3 e3 p => q v H3 (e2.trans e3) p
  | false => exact h2 rfl H2 (e.trans e2) Q fun v H3 e3 p => q v H3 (e2.trans e3) p
theorem q_asgP {i : Nat} (h : EvP te σ H E) (k : ∀ v H1, Ex H H1 → E v H1 → tz D (σ.set i (some v)) H1) : tSeq (tAsg te (gName i)) tz D σ H := h H (Ex.refl H) _ fun v H1 e p => k v H1 e p
theorem s_retP (h : EvP te σ H E) (k : ∀ v H1, Ex H H1 → E v H1 → D.rt v H1) : tRet te D σ H := h H (Ex.refl H) _ k
theorem q_lockN {i : Nat} {d : Addr} {u : HO} (hd : H d = some u) (hm : Mut (some u)) (h : ∀ od, EvN te σ (upd H d (.frz od u)) N) (hN : ∀ p Ha od, Ha d = some (.frz od u) → p ≠ d → N p Ha → N p (upd Ha d u)) (k : ∀ p H1, H p = none → Ex H H1 → N p H1 → tz D (σ.set i (some (.ref p))) H1) :
    tSeq (tLock (tAsg te (gName i))) tz D σ H := by
  refine ⟨d, u, hd, hm, fun od => h od _ (Ex.refl _) _ fun p H2 hp e2 hn => ?_⟩
  have hd2 := e2 d _ upd_same
  have npd : p ≠ d := fun z => by
    rw [z, upd_same] at hp
    cases hp
  refine ⟨hd2, k p _ (by rw [upd_ne npd] at hp; exact hp) (fun a o ha => ?_) (hN p H2 od hd2 npd hn)⟩
  by_cases ea : a = d
  · subst ea
    rw [hd] at ha
    cases ha
    exact upd_same
  · rw [upd_ne ea]
    exact e2 a o (by rw [upd_ne ea]; exact ha)
theorem ents_fn {is : List Nat} {key : Nat → Key} {val : Nat → V} {ps : List (Key × V)} (h : Ents is key (fun i v _ => v = val i) ps H) : ps = is.map fun i => (key i, val i) := by
  unfold Ents at h
  induction h with
  | nil => rfl
  | cons h _ ih => rw [List.map_cons, ← ih, ← h.1, ← h.2]
end
section
variable {P : Program} {w : World} {K : PySem.W.Frag} {mg : Str → Option Value} {base : Heap} {C : Addr}
/-- all but T stays -/
def ExB (T : Addr) (H H' : Hp) : Prop := ∀ b o, b ≠ T → H b = some o → H' b = some o
theorem ExB.ex {T : Addr} {H H1 H2 : Hp} (a : ExB T H H1) (e : Ex H1 H2) : ExB T H H2 := fun b o n h => e _ _ (a b o n h)
theorem ExB.of {T : Addr} {H H1 : Hp} (e : Ex H H1) : ExB T H H1 := fun b o _ h => e _ _ h
theorem ExB.write {T : Addr} {H H1 : Hp} {o : HO} (a : ExB T H H1) : ExB T H (upd H1 T o) := fun b u n h => (upd_ne n).trans (a b u n h)
def RowsIn (n : Nat) (rs : List Row) : Prop := (rs.map (·.1)).Nodup ∧ (∀ r ∈ rs, r.1.length ≤ n ∧ GoalOk r.2) ∧ rs.length ≤ 40
def spInit (C : Addr) : Sp := fun vs H Q _ => ∃ (T dx : Addr) (n : Nat) (r : V) (rs : List Row), vs = [.ref T, .int (n : Int), r] ∧ H T = some (.ins C dx []) ∧ (1 ≤ n ∧ n ≤ 100) ∧ ((r = .non ∧ rs = []) ∨ ∃ d, d ≠ T ∧ r = .ref d ∧ H d = some (.dK (rs.map rowKV))) ∧ RowsIn n rs ∧
  ∀ H' rs' szs, ExB T H H' → RsOf rs rs' → SzOf rs szs → TbAt C H' T n rs' szs → Q .non H'
set_option maxHeartbeats 8000000 in
theorem ok_init (B : Bt mg) (tc : TbC K mg C) {f : Addr} {fd : FuncData} {dvs : List V} (F : FunD K "__init__" "Table.__init__" (defArgs s_T_init) (defBody s_T_init) (defScope s_T_init) dvs [] f fd) (k1 : Kp P w K mg base 6 "want_width" ["width"] spWantW) (k2 : Kp P w K mg base 6 "are_rows" ["width", "value"] spAreRows) :
    FnOk P w K mg base CX0 7 f fd ["self", "width", "rows"] (spInit C) := by
  refine F.ok sc_T_init (fun vs H Q E h => ?_) fun cdv A outer s H vs Q E hr h => ?_
  · obtain ⟨T, dx, n, r, rs, rfl, _⟩ := h
    rfl
  · obtain ⟨T, dx, n, r, rs, rfl, hT, hn, hrs, ⟨nd, hrow, h40⟩, q⟩ := h
    obtain ⟨u40, con⟩ := tc.most
    refine (fun ⟨t, ht, hq⟩ => ⟨t, PSs.nox ht, hq⟩ : (∃ t, PSs (cxOf CX0 P w K mg base ["self", "width", "rows", "given", "sizes", "stretch"] "Table.__init__" (defScope s_T_init) f cdv A outer s H E).nox (defBody s_T_init) t ∧ t { nx := fun _ H' => Q .non H', rt := Q } (start ["self", "width", "rows", "given", "sizes", "stretch"] [.ref T, .int (n : Int), r]) H) → _) ?_
    refine ⟨_, pss_cons (ps_expr (pe_k k1 hr (pa_cons (pv 1) pa_nil)))
      (pss_cons (ps_set (i := 3) sc_T_init.nd rfl (.inr rfl) (pe_ifExp (pt_cmpR op_iN (pv 2) pe_non (nomark _)) pe_dnewK (pv 2)))
      (pss_cons (ps_if (pt_not (pt_val (pe_k k2 hr (pa_cons (pv 1) (pa_cons (pv 3) pa_nil))))) (pss_one ps_never) pss_nil)
      (pss_cons (ps_if (pt_cmpR op_gt (pe_callB cr_lenD (by rfl) B.len boot_len (pa_cons (pv 3) pa_nil)) (pe_con (pv 0) (by rfl)) (nomark _)) (pss_one ps_never) pss_nil)
      (pss_cons (ps_fld (pv 0) (pv 1) (by rfl))
      (pss_cons (ps_fld (pv 0) (pe_dc (own := [("stretch", 5)]) (g := gName 5) (by rfl) sc_T_init.nd (pi_list (pe_callB (cr_sortD rfl) (by rfl) B.sorted boot_sorted (pa_cons (pv 3) pa_nil))) (blkOk_by (N := ["self", "width", "rows", "given", "sizes", "stretch"]) (sc := defScope s_T_init) (by decide +kernel))
        (fun _ _ _ _ _ => pg_name (i := 5) sc_T_init.nd rfl (Or.inl rfl)) (fun _ _ _ _ _ => pts_nil) (fun _ _ _ _ _ => pv 5) (fun _ _ _ _ _ => pe_dget (u1 hr) (pv 3) (pv 5) (by intro _ _; rfl))) (by rfl))
      (pss_cons (ps_lock (ps_setDc (i := 4) (own := [("stretch", 5)]) (g := gName 5) (by rfl) sc_T_init.nd rfl rfl (by rfl) (pi_keys (pv 3)) (blkOk_by (N := ["self", "width", "rows", "given", "sizes", "stretch"]) (sc := defScope s_T_init) (by decide +kernel))
        (fun _ _ _ _ _ => pg_name (i := 5) sc_T_init.nd rfl (Or.inl rfl)) (fun _ _ _ _ _ => pts_nil) (fun _ _ _ _ _ => pe_callB cr_lenT (by rfl) B.len boot_len (pa_cons (pv 5) pa_nil)) (fun _ _ _ _ _ => pe_bl)))
      (pss_one (ps_fld (pv 0) (pe_callBK (cr_sortDR rfl) (by rfl) B.sorted boot_sorted (pa_cons (pv 4) pa_nil) (pk_cons pe_bl pk_nil)) (by rfl))))))))), ?_⟩
    have keysE : (rs.map rowKV).map (·.1) = (rs.map fun r => bS r.1).map (Sum.inr : Str → Key) := by rw [List.map_map, List.map_map] <;> rfl
    refine q_drop (ev_call0 (ea_cons (ev_var rfl) ea_nil) fun H1 e Q q E => ⟨n, rfl, hn, fun H2 e2 => q H2 e2⟩) fun H1 e1 => ?_
    refine q_asgP (E := fun v H' => ∃ d, v = .ref d ∧ d ≠ T ∧ H' d = some (.dK (rs.map rowKV))) (ep_if (b := decide (r = .non)) (et_test (ev_op (ev_var rfl) ev_c rv_iN)) (fun hb => ?_) fun hb => ?_) fun v H2 e2 ⟨d, ev, hdT, hd⟩ => ?_
    · rcases hrs with ⟨_, rfl⟩ | ⟨d, _, rfl, _⟩
      · exact fun H2 e2 Q2 q2 => en_newK H2 (Ex.refl _) Q2 fun p H3 hp e3 hN => q2 _ H3 e3 ⟨p, rfl, (fun z => by rw [z, e2 _ _ (e1 _ _ hT)] at hp; cases hp), hN⟩
      · exact absurd (of_decide_eq_true hb) (fun z => by cases z)
    · rcases hrs with ⟨rfl, _⟩ | ⟨d, h1, rfl, h2⟩
      · exact absurd rfl (of_decide_eq_false hb)
      · exact fun H2 e2 Q2 q2 => ev_var (i := 2) rfl H2 (Ex.refl _) Q2 fun H3 e3 => q2 _ H3 e3 ⟨d, rfl, h1, e3 _ _ (e2 _ _ (e1 _ _ h2))⟩
    subst ev
    have hT2 := e2 _ _ (e1 _ _ hT)
    refine q_when (b := false) (et_not (a := true) (et_B (ev_call0 (ea_cons (ev_var rfl) (ea_cons (ev_var rfl) ea_nil)) fun H3 e3 Q q E => ⟨n, d, rs, rfl, e3 _ _ hd, hn, hrow, by omega, fun H4 e4 => q H4 e4⟩))) (fun z => absurd z Bool.false_ne_true) fun _ H3 e3 => ?_
    have hd3 := e3 _ _ hd
    have hT3 := e3 _ _ hT2
    refine q_when (b := false) (et_is (et_test (ev_op (ev_cb (ea_cons (ev_var rfl) ea_nil) (rc_lenD hd3)) (ev_con (ev_var rfl) hT3 tc.cls con rfl) rv_I0)) (by rw [List.length_map]; exact decide_eq_false (by omega))) (fun z => absurd z Bool.false_ne_true) fun _ H4 e4 => ?_
    have hd4 := e4 _ _ hd3
    have hT4 := e4 _ _ hT3
    refine q_fld (ev_var rfl) (ev_var rfl) hT4 tc.cls tc.nw (by decide) fun H5 e5 => ?_
    have hd5 : upd H5 T (.ins C dx (putF "own_width" (.int (n : Int)) [])) d = some (.dK (rs.map rowKV)) := (upd_ne hdT).trans (e5 _ _ hd4)
    have X5 : ExB T H (upd H5 T (.ins C dx (putF "own_width" (.int (n : Int)) []))) := (ExB.of (e1.trans (e2.trans (e3.trans (e4.trans e5))))).write
    generalize hA : upd H5 T (.ins C dx (putF "own_width" (.int (n : Int)) [])) = HA at hd5 X5
    have hTA : HA T = some (.ins C dx [("own_width", .int (n : Int))]) := by rw [← hA]; exact upd_same
    refine q_fldN (i := 0) (N := fun p H' => ∃ zs : List (List Bool), zs.Perm (rs.map (·.1)) ∧ zs.Pairwise LexB ∧ H' p = some (.dK ((zs.map fun z => (z, (look rs z).getD "hole")).map rowKV))) (dc_of (en_sortD (ev_var rfl) hd5 keysE (by rw [List.length_map]; omega)) fun p H6 hp e6 ⟨ys, y1, y2, y3⟩ => ?_) rfl hTA tc.cls tc.nr (by show 1 < 1000; decide) fun d2 H6 hd2 e6 ⟨zs, z1, z2, z3⟩ => ?_
    · obtain ⟨zs, rfl⟩ : ∃ zs : List (List Bool), ys = zs.map bS := strs_bits fun k hk => by
        obtain ⟨r, _, e⟩ := List.mem_map.mp (y1.mem_iff.mp hk)
        exact ⟨r.1, e.symm⟩
      have big : (rs.map fun r => bS r.1) = (rs.map (·.1)).map bS := by rw [List.map_map] <;> rfl
      have ynd : (zs.map bS).Nodup := y1.nodup_iff.mpr (by rw [big]; exact List.Pairwise.map _ (fun a b ne e => ne (bS_inj e)) nd)
      have znd := nodup_bS ynd
      have zp : zs.Perm (rs.map (·.1)) := (List.perm_ext_iff_of_nodup znd nd).mpr fun l => by
        have h1 := y1.mem_iff (a := bS l)
        rw [big] at h1
        constructor
        · intro hl
          obtain ⟨m, hm, e⟩ := List.mem_map.mp (h1.mp (List.mem_map_of_mem hl))
          exact bS_inj e ▸ hm
        · intro hl
          obtain ⟨m, hm, e⟩ := List.mem_map.mp (h1.mpr (List.mem_map_of_mem hl))
          exact bS_inj e ▸ hm
      have zlen : zs.length ≤ 40 := by rw [zp.length_eq, List.length_map]; exact h40
      refine (en_dc (f := fun _ => true) (key := fun i => (.inr (bS ((zs[i]?).getD [])) : Key)) (E := fun i v _ => v = .str ((look rs ((zs[i]?).getD [])).getD "hole")) (ei_list (K := K) ev_c (sq_of y3)) (by rw [List.length_map, List.length_map]; omega) (fun _ _ _ _ _ h => h) fun i x H7 hi e7 hx => ?_).imp fun p2 H7 e7 ⟨ps, p1, p3⟩ => ⟨zs, zp, sorted_lex y2 znd, ?_⟩
      · rw [List.map_map, List.getElem?_map] at hx
        obtain ⟨l, hl, rfl⟩ := Option.map_eq_some_iff.mp hx
        refine ⟨_, ?_, eg_name, et_yes, fun _ => ⟨?_, ?_⟩⟩
        · rfl
        · rw [hl]
          exact ev_var rfl
        · rw [hl]
          refine ep_ev (ev_dget (k := .inr (bS l)) (ev_var rfl) (ev_var rfl) (e7 _ _ (e6 _ _ hd5)) ?_)
          obtain ⟨g, hg⟩ := look_some (zp.mem_iff.mp (List.mem_of_getElem? hl))
          rw [look_kv]
          show (look rs l).map V.str = some (.str ((look rs l).getD "hole"))
          rw [hg]
          rfl
      · rw [List.length_map, List.length_map, List.filter_eq_self.mpr fun _ _ => rfl] at p3
        have e9 := ents_fn p3
        have e10 : ps = (zs.map fun z => (z, (look rs z).getD "hole")).map rowKV := by
          rw [e9, List.map_map]
          have := congrArg (List.map fun z => rowKV (z, (look rs z).getD "hole")) (range_getD zs)
          rw [List.map_map] at this
          exact this
        rw [p1, ← e10, merge_nd ps]
        rw [e10, List.map_map, List.map_map]
        exact List.Pairwise.map _ (fun a b ne e => ne (bS_inj (Sum.inr.inj e))) znd
    · have hd2T : d2 ≠ T := fun z => by
        rw [z, hTA] at hd2
        cases hd2
      have XB : ExB T H (upd H6 T (.ins C dx (putF "own_rows" (.ref d2) [("own_width", .int (n : Int))]))) := (X5.ex e6).write
      have hdB : upd H6 T (.ins C dx (putF "own_rows" (.ref d2) [("own_width", .int (n : Int))])) d = some (.dK (rs.map rowKV)) := (upd_ne hdT).trans (e6 _ _ hd5)
      have hd2B : upd H6 T (.ins C dx (putF "own_rows" (.ref d2) [("own_width", .int (n : Int))])) d2 = some (.dK ((zs.map fun z => (z, (look rs z).getD "hole")).map rowKV)) := (upd_ne hd2T).trans z3
      generalize hB : upd H6 T (.ins C dx (putF "own_rows" (.ref d2) [("own_width", .int (n : Int))])) = HB at XB hdB hd2B
      have hTB : HB T = some (.ins C dx [("own_width", .int (n : Int)), ("own_rows", .ref d2)]) := by rw [← hB]; exact upd_same
      refine q_lockN (N := fun p H' => ∃ ps, H' p = some (.dK (mergeK [] ps)) ∧ ps.map (·.1) = (rs.map fun r => r.1.length).map fun k : Nat => (.inl (k : Int) : Key)) hdB trivial (fun od => (en_dc (f := fun _ => true) (key := fun i => (.inl ((((rs[i]?).getD ([], "")).1.length : Nat) : Int) : Key)) (E := fun i v _ => v = .bl true) (ei_keys (ev_var rfl) upd_same) (by rw [List.length_map]; omega) (fun _ _ _ _ _ h => h) fun i x H7 hi e7 hx => ?_).imp fun p2 H7 e7 ⟨ps, p1, p3⟩ => ⟨ps, p1, ?_⟩)
        (fun p Ha od h1 h2 ⟨ps, h3, h4⟩ => ⟨ps, (upd_ne h2).trans h3, h4⟩) fun p H7 hp7 e7 ⟨ps, p1, p2⟩ => ?_
      · obtain ⟨k, v, hkv, rfl⟩ := hx
        rw [List.getElem?_map] at hkv
        obtain ⟨r2, hr1, hr2⟩ := Option.map_eq_some_iff.mp hkv
        obtain rfl : Sum.inr (bS r2.1) = k := congrArg Prod.fst hr2
        have ok := hrow r2 (List.mem_of_getElem? hr1)
        refine ⟨_, ?_, eg_name, et_yes, fun _ => ⟨?_, ep_ev ev_c⟩⟩
        · rfl
        · rw [hr1]
          exact ev_is (ev_cb (ea_cons (ev_var rfl) ea_nil) (rc_lenT (by rw [bS_len]; omega))) (by rw [bS_len] <;> rfl)
      · rw [List.length_map, List.filter_eq_self.mpr fun _ _ => rfl] at p3
        rw [ents_fn p3, List.map_map, List.map_map]
        refine List.ext_getElem (by simp) fun i h1 h2 => ?_
        rw [List.getElem_map, List.getElem_map, List.getElem_range]
        have h3 : i < rs.length := by simpa using h2
        show (Sum.inl (((rs[i]?.getD ([], "")).1.length : Nat) : Int) : Key) = Sum.inl ((rs[i].1.length : Nat) : Int)
        rw [List.getElem?_eq_getElem h3]
        rfl
      · obtain ⟨ks, t1, t2, t3, t4⟩ := lens_keys ps _ [] [] p2 rfl List.nodup_nil
        have t1' : (mergeK [] ps).map (·.1) = (ks.map fun k : Nat => (k : Int)).map (Sum.inl : Int → Key) := by rw [t1, List.map_map] <;> rfl
        refine s_fldN (i := 0) (en_sortDR (ev_var rfl) ev_c p1 t1' (by rw [List.length_map]; simp at t4; omega)) rfl (e7 _ _ hTB) tc.cls tc.ns (by show 2 < 1000; decide) fun sa H8 hsa e8 ⟨ys, y1, y2, y3⟩ => ?_
        obtain ⟨szs, rfl⟩ : ∃ szs : List Nat, ys = szs.map fun k : Nat => (k : Int) := ints_nat fun y hy => by
          obtain ⟨k, _, e⟩ := List.mem_map.mp (y1.mem_iff.mp hy)
          exact ⟨k, e.symm⟩
        have memS : ∀ k, k ∈ szs ↔ k ∈ ks := fun k => by
          have h1 := y1.mem_iff (a := (k : Int))
          constructor
          · intro hk
            obtain ⟨m, hm, e⟩ := List.mem_map.mp (h1.mp (List.mem_map.mpr ⟨k, hk, rfl⟩))
            have : m = k := by omega
            exact this ▸ hm
          · intro hk
            obtain ⟨m, hm, e⟩ := List.mem_map.mp (h1.mpr (List.mem_map.mpr ⟨k, hk, rfl⟩))
            have : m = k := by omega
            exact this ▸ hm
        have ndS : szs.Nodup := by
          have : (szs.map fun k : Nat => (k : Int)).Nodup := y1.nodup_iff.mpr (List.Pairwise.map _ (fun a b ne e => ne (by omega)) t2)
          exact List.Pairwise.of_map _ (fun a b ne e => ne (by rw [e])) this
        have downS : szs.Pairwise (· > ·) := by
          have h1 : szs.Pairwise (· ≥ ·) := (List.Pairwise.of_map (fun k : Nat => (k : Int)) (fun a b h => by simpa using h) y2)
          exact (h1.and ndS).imp fun {x y} h => by
            have a : y ≤ x := h.1
            have b : x ≠ y := h.2
            show y < x
            omega
        have saT : sa ≠ T := fun z => by
          rw [z, e7 _ _ hTB] at hsa
          cases hsa
        refine q _ _ szs ((XB.ex (e7.trans e8)).write) (rsOf_mk z1 z2) ⟨downS, fun k => by rw [memS, t3]; simp⟩ ⟨dx, d2, sa, ?_, (upd_ne hd2T).trans (e8 _ _ (e7 _ _ hd2B)), ?_⟩
        · exact upd_same
        · refine (upd_ne saT).trans ?_
          rw [y3, List.map_map]
          rfl
end
end Cw
set_option Elab.async false
set_option linter.all false
set_option maxRecDepth 100000
set_option maxHeartbeats 4000000
namespace Cw
open PySem PySem.Spec PyProof.Rows L2
/-! ### min(texts, default=None) -/
def noBefore (b : Str) (ys : List Str) : Prop := ∀ y ∈ ys, ¬ y.cps.toList < b.cps.toList
/-- the best so far -/
def BestAt (h : Heap) (S : Addr) (seen : List Str) : Prop :=
  (seen = [] ∧ ∃ c, h.get? S = some { cls := .type "list", dict := none, data := .seq #[] c, slots := #[] }) ∨
  ∃ b t c, b ∈ seen ∧ noBefore b seen ∧ h.get? S = some { cls := .type "list", dict := none, data := .seq #[.str b t, .str b t] c, slots := #[] }
theorem before_snoc {b k : Str} {seen : List Str} (h : noBefore b seen) (hk : ¬ k.cps.toList < b.cps.toList) : noBefore b (seen ++ [k]) := fun y hy => by
  rcases List.mem_append.mp hy with z | z
  · exact h y z
  · rw [List.mem_singleton.mp z]
    exact hk
theorem before_new {b k : Str} {seen : List Str} (h : noBefore b seen) (hk : k.cps.toList < b.cps.toList) : noBefore k (seen ++ [k]) := fun y hy => by
  rcases List.mem_append.mp hy with z | z
  · exact fun lt => h y z (List.lt_trans lt hk)
  · rw [List.mem_singleton.mp z]
    exact List.lt_irrefl _
section
variable {P : Program} {w : World} {A : Around} {E : Value → Shared → Prop} {s : Shared}
theorem min_round {I : Addr} {fp wr : List Addr} {n : Nat} {Pv : Nat → Value → Prop} {St : Nat → Heap → Prop} {R : Result → Shared → Prop} (W : Walks P w A.in1 I fp wr n Pv St) (S : Addr) (away : S ∉ fp) (xs : List Str) (hn : n = xs.length)
    (hval : ∀ i v, Pv i v → ∃ k t, xs[i]? = some k ∧ v = .str k t) :
    ∀ (m i : Nat) (s : Shared), n - i = m → i ≤ n → St i s.heap → BestAt s.heap S (xs.take i) →
      (∀ v h' tk, ((xs = [] ∧ v = .none) ∨ ∃ b t, b ∈ xs ∧ noBefore b xs ∧ v = .str b t) → (∀ b o, b ∉ wr → b ≠ S → s.heap.get? b = some o → h'.get? b = some o) → R (.ok (.ret v)) { s with heap := h', toks := tk }) →
      codeAny (model P w) A (.builtin "min.loop" ⟨[.ref I, .none, .ref S], [("default", .none)]⟩) R s := by
  have offW : S ∉ wr := fun h => away (W.sub _ h)
  have hname : (toString "min" ++ toString ".loop" : String) = "min.loop" := by decide
  intro m
  induction m with
  | zero =>
    intro i s hm hi hst hB hR
    obtain rfl : i = n := by omega
    have all' : xs.take i = xs := List.take_of_length_le (by omega)
    rw [all'] at hB
    refine codeAny_builtin F.entry_min_loop ?_
    rw [Around.under_plainId F.plain_min_loop _]
    show wpAny _ A.in1 (seqItems? (.ref S) >>= _) _ _ s
    rcases hB with ⟨he, c, hS⟩ | ⟨b, t, c, hb, hno, hS⟩
    · refine wpAny_bind (wpAny_seqItems hS rfl ?_)
      show wpAny _ A.in1 (tryCatch (pyNext (.ref I)) _ >>= _) _ _ s
      refine wpAny_bind (wpAny_tryCatch (W.done s _ _ hst fun h' tk hk => ?_))
      show wpAny _ A.in1 (rule _ >>= _) _ _ _
      exact wpAny_bind (wpAny_rule (wpAny_pure (hR .none h' tk (.inl ⟨he, rfl⟩) fun b o hbw _ e => hk b o hbw e)))
    · refine wpAny_bind (wpAny_seqItems hS rfl ?_)
      show wpAny _ A.in1 (tryCatch (pyNext (.ref I)) _ >>= _) _ _ s
      refine wpAny_bind (wpAny_tryCatch (W.done s _ _ hst fun h' tk hk => ?_))
      have hS' := hk S _ offW hS
      show wpAny _ A.in1 (updateSeq S (fun _ => #[]) >>= _) _ _ _
      refine wpAny_bind (wpAny_updateSeq hS' rfl (wpAny_bind (wpAny_letGo (wpAny_pure ?_))))
      exact hR (.str b t) _ tk (.inr ⟨b, t, hb, hno, rfl⟩) fun b o hbw hbS e => (Heap.get?_update_other _ _ (Ne.symm hbS)).trans (hk b o hbw e)
  | succ m ih =>
    intro i s hm hi hst hB hR
    have lt' : i < n := by omega
    refine codeAny_builtin F.entry_min_loop ?_
    rw [Around.under_plainId F.plain_min_loop _]
    show wpAny _ A.in1 (seqItems? (.ref S) >>= _) _ _ s
    rcases hB with ⟨he, c, hS⟩ | ⟨b, t, c, hb, hno, hS⟩
    · refine wpAny_bind (wpAny_seqItems hS rfl ?_)
      show wpAny _ A.in1 (tryCatch (pyNext (.ref I)) _ >>= _) _ _ s
      refine wpAny_bind (wpAny_tryCatch (W.item i s _ _ lt' hst fun v h' tk hP hst' hk => ?_))
      obtain ⟨k, u, hki, rfl⟩ := hval i v hP
      have hS' := hk S _ offW hS
      have next : xs.take (i + 1) = [k] := by rw [List.take_add_one, hki, he] <;> rfl
      show wpAny _ A.in1 (updateSeq S (fun _ => #[.str k u, .str k u]) >>= _) _ _ _
      refine wpAny_bind (wpAny_updateSeq hS' rfl ?_)
      rw [hname]
      refine wpAny_pure ⟨plainId_quiet F.plain_min_loop _, ih (i + 1) _ (by omega) lt' (W.frame _ _ _ hst' fun b hbf o e => ?_) (.inr ⟨k, u, _, by rw [next]; exact List.mem_cons_self, ?_, Heap.get?_update_self _ hS' rfl⟩) fun v' h'' tk'' hv hk'' => ?_⟩
      · exact (Heap.get?_update_other _ _ (fun h : S = b => away (by rw [h]; exact hbf))).trans e
      · rw [next]
        intro y hy
        rw [List.mem_singleton.mp hy]
        exact List.lt_irrefl _
      · exact hR v' h'' tk'' hv fun b o hbw hbS e => hk'' b o hbw hbS ((Heap.get?_update_other _ _ (Ne.symm hbS)).trans (hk b o hbw e))
    · refine wpAny_bind (wpAny_seqItems hS rfl ?_)
      show wpAny _ A.in1 (tryCatch (pyNext (.ref I)) _ >>= _) _ _ s
      refine wpAny_bind (wpAny_tryCatch (W.item i s _ _ lt' hst fun v h' tk hP hst' hk => ?_))
      obtain ⟨k, u, hki, rfl⟩ := hval i v hP
      have hS' := hk S _ offW hS
      have next : xs.take (i + 1) = xs.take i ++ [k] := by rw [List.take_add_one, hki] <;> rfl
      show wpAny _ A.in1 (tryCatch (holding [Value.str k u, Value.str k u] (richCompare .Lt (.str k u) (.str b t) >>= _)) _ >>= _) _ _ _
      refine wpAny_bind (wpAny_tryCatch (wpAny_holding (wpAny_bind ?_)))
      refine PyProof.Rows.lt_str ?_
      refine wpAny_bind (wpAny_holding (wpAny_truthy_bool (wpAny_bind (wpAny_letGo (wpAny_pure ?_)))))
      by_cases hlt : k.cps.toList < b.cps.toList
      · rw [decide_eq_true hlt]
        simp only [if_true]
        refine wpAny_bind ?_
        refine wpAny_updateSeq hS' rfl (wpAny_bind (wpAny_letGo ?_))
        rw [hname]
        refine wpAny_pure ⟨plainId_quiet F.plain_min_loop _, ih (i + 1) _ (by omega) lt' (W.frame _ _ _ hst' fun b hbf o e => ?_) (.inr ⟨k, u, _, by rw [next]; simp, by rw [next]; exact before_new hno hlt, Heap.get?_update_self _ hS' rfl⟩) fun v' h'' tk'' hv hk'' => ?_⟩
        · exact (Heap.get?_update_other _ _ (fun h : S = b => away (by rw [h]; exact hbf))).trans e
        · exact hR v' h'' tk'' hv fun b o hbw hbS e => hk'' b o hbw hbS ((Heap.get?_update_other _ _ (Ne.symm hbS)).trans (hk b o hbw e))
      · rw [decide_eq_false hlt]
        simp only [Bool.false_eq_true, if_false]
        refine wpAny_bind (wpAny_letGo ?_)
        rw [hname]
        refine wpAny_pure ⟨plainId_quiet F.plain_min_loop _, ih (i + 1) _ (by omega) lt' hst' (.inr ⟨b, t, c, by rw [next]; exact List.mem_append_left _ hb, by rw [next]; exact before_snoc hno hlt, hS'⟩) fun v' h'' tk'' hv hk'' => ?_⟩
        exact hR v' h'' tk'' hv fun b o hbw hbS e => hk'' b o hbw hbS (hk b o hbw e)
theorem call_tree_kw {id : String} {b : Builtin} {args : List Value} {kw : List (Str × Value)} {Q : Value → Shared → Prop} (hk : builtinKind id = none) (hp : plainId id = true) (hb : entryFor table id = some b) (ha : argsOk id ⟨args, kw⟩)
    (hc : wpAny (model P w) A.in1 (b ⟨args, kw⟩) (fun fin s' => match fin with
      | .done f => (match (Except.ok f : Result) with | .ok (.ret v) => Q v s' | .ok _ => False | .error e => E e s')
      | .again c' => c'.quiet = true ∧ codeAny (model P w) A c' (fun r s' => match r with | .ok (.ret v) => Q v s' | .ok _ => False | .error e => E e s') s') E s) : wpAny (model P w) A (call (.builtin id) args kw) Q E s := by
  refine wpAny_call (codeAny_call_builtin hp hb ?_)
  simp only [checkBuiltinCall, hk]
  cases hsig : Manifest.signature? id with
  | none => exact wpAny_pure hc
  | some sig =>
    have fine : Bind.checkArgs id sig ⟨args, kw⟩ = pure () := by simpa only [argsOk, hsig] using ha
    simp only [fine]
    exact wpAny_pure hc
theorem args_minD (a d : Value) : argsOk "min" ⟨[a], [("default", d)]⟩ := by unfold argsOk; kernel_rfl
theorem min_txs {l : Addr} {items : Array Value} {xs : List Str} {Q : Value → Shared → Prop} (hh : A.handled = none) (hl : s.heap.IsList l items) (hi : StrsAre items.toList xs)
    (h : ∀ v h' tk, ((xs = [] ∧ v = .none) ∨ ∃ b t, b ∈ xs ∧ noBefore b xs ∧ v = .str b t) → (∀ b o, s.heap.get? b = some o → h'.get? b = some o) → Q v { s with heap := h', toks := tk }) :
    wpAny (model P w) A (call (.builtin "min") [.ref l] [((Str.ofString "default"), .none)]) Q E s := by
  have hname : (toString "min" ++ toString ".loop" : String) = "min.loop" := by decide
  refine call_tree_kw F.kind_min F.plain_min F.entry_min (args_minD _ _) ?_
  show wpAny _ A.in1 (Builtin.Builtins.bindParams "min" ["key", "default"] 0 ⟨[], [((Str.ofString "default"), .none)]⟩ >>= _) _ _ s
  refine wpAny_bind (wpAny_of_eq (show Builtin.Builtins.bindParams "min" ["key", "default"] 0 ⟨[], [((Str.ofString "default"), Value.none)]⟩ = pure [none, some .none] from rfl) ?_)
  refine wpAny_bind (wpAny_pure ?_)
  refine wpAny_bind (wpAny_pyIter_list hl ?_)
  refine wpAny_bind (wpAny_newObj_type ?_)
  rw [hname]
  have below : l < s.heap.objs.size := let ⟨_, e, _⟩ := hl; Heap.lt_size e
  have size1 : (s.heap.push { cls := .type "list_iterator", data := .fields #[.ref l, .int 0 0] }).objs.size = s.heap.objs.size + 1 := Heap.size_push ..
  have neI : l ≠ s.heap.objs.size := Nat.ne_of_lt below
  have size_eq : items.size = xs.length := by
    have q := StrsAre.len_eq hi
    rw [Array.length_toList] at q
    exact q
  refine wpAny_pure ⟨plainId_quiet F.plain_min_loop _, min_round (A := A) (Walks.list (A := A.in1) hh _ l neI items) (s.heap.push { cls := .type "list_iterator", data := .fields #[.ref l, .int 0 0] }).objs.size ?_ xs size_eq (fun i v hv => ?_) (items.size - 0) 0 _ (by omega) (Nat.zero_le _) ?_ (.inl ⟨rfl, 0, Heap.get?_push_size _ rfl⟩) fun v h' tk hv hk => ?_⟩
  · rw [size1]
    intro z
    rcases List.mem_cons.mp z with e | e
    · exact Nat.ne_of_gt (Nat.lt_succ_self _) e
    · exact Nat.ne_of_gt (Nat.lt_succ_of_lt below) (List.mem_singleton.mp e)
  · have hlt : i < xs.length := by rw [← size_eq]; exact (Array.getElem?_eq_some_iff.mp hv).1
    obtain ⟨t, e⟩ := SS.strs_at hi i v (by rw [Array.getElem?_toList]; exact hv)
    refine ⟨xs[i], t, List.getElem?_eq_getElem hlt, ?_⟩
    rw [e, List.getD_eq_getElem?_getD, List.getElem?_eq_getElem hlt] <;> rfl
  · exact ⟨⟨_, Heap.get?_push_of_some _ (Heap.get?_push_size _ rfl), rfl, rfl⟩, (hl.push _).push _⟩
  · refine h v h' tk hv fun b o e => ?_
    have lt := Heap.lt_size e
    refine hk b o (fun z => ?_) (fun z => ?_) (Heap.get?_push_of_some _ (Heap.get?_push_of_some _ e))
    · exact Nat.ne_of_lt lt (List.mem_singleton.mp z)
    · rw [size1] at z
      exact Nat.ne_of_lt (Nat.lt_succ_of_lt lt) z
end
def rMinTx (K : PySem.W.Frag) : List V → List V → Hp → VK → Prop := fun xs zs H Q => ∃ (a : Addr) (ss : List Str), xs = [.ref a] ∧ zs = [.non] ∧ SqL K H a (ss.map V.str) ∧ (ss = [] → Q .non H) ∧ ∀ b, b ∈ ss → noBefore b ss → Q (.str b) H
theorem cr_minTx {X : Cx} (hc : X.calm = true) : CallRK X (.builtin "min") [Str.ofString "default"] (rMinTx X.K) := by
  intro pins s σ H xs zs us ws Q I r rz q
  obtain ⟨a, ss, rfl, rfl, hs, q0, q1⟩ := q
  obtain rfl := Vals.ref1 r
  obtain ⟨w, rfl, rw'⟩ := rz.one
  obtain rfl : w = Value.none := rw'
  obtain ⟨its, rv, pl, _⟩ := I.list hs
  refine min_txs (I.ok.hd hc) pl.isList (by simpa using strsAre_of rv) fun v h' tk hv hk => ?_
  rcases hv with ⟨e, rfl⟩ | ⟨b, t, hb, hno, rfl⟩
  · exact ⟨.non, H, I.kept hk, rfl, q0 e⟩
  · exact ⟨.str b, H, I.kept hk, ⟨t, rfl⟩, q1 b hb hno⟩
end Cw
set_option Elab.async false
set_option linter.all false
set_option maxRecDepth 100000
set_option maxHeartbeats 4000000
namespace Cw
open PySem PySem.Spec PyProof.Rows L2 Evl
/-! ### tallies -/
def Ty (ks : List Str) (F : Str → Int) : List (Key × V) := ks.map fun g => (.inr g, .int (F g))
theorem ty_val (ks : List Str) (F : Str → Int) (g : Str) : valV (Ty ks F) (.inr g) = if g ∈ ks then some (.int (F g)) else none := by
  induction ks with
  | nil => rfl
  | cons k ks ih =>
    show valV ((.inr k, .int (F k)) :: Ty ks F) (.inr g) = _
    by_cases e : k = g
    · subst e
      rw [valV_pos rfl, if_pos List.mem_cons_self]
    · rw [valV_neg (fun z => e (Sum.inr.inj z)), ih]
      by_cases h : g ∈ ks
      · rw [if_pos h, if_pos (List.mem_cons_of_mem _ h)]
      · rw [if_neg h, if_neg (fun z => (List.mem_cons.mp z).elim (fun y => e y.symm) h)]
theorem ty_any (ks : List Str) (F : Str → Int) (g : Str) : ((Ty ks F).any fun kv => decide (kv.1 = .inr g)) = decide (g ∈ ks) := by
  rw [valV_any, ty_val]
  by_cases h : g ∈ ks
  · rw [if_pos h, decide_eq_true h] <;> rfl
  · rw [if_neg h, decide_eq_false h] <;> rfl
theorem ty_put (ks : List Str) (F : Str → Int) (g : Str) (x : Int) : putK (Ty ks F) (.inr g) (.int x) = Ty (addU ks g) (fun h => if h = g then x else F h) := by
  unfold addU
  by_cases h : g ∈ ks
  · rw [if_pos h]
    unfold putK
    rw [ty_any, decide_eq_true h, if_pos rfl]
    unfold Ty
    rw [List.map_map]
    refine List.map_congr_left fun k _ => ?_
    show (if (Sum.inr k : Key) = .inr g then ((.inr k : Key), V.int x) else (.inr k, .int (F k))) = (.inr k, .int (if k = g then x else F k))
    by_cases e : k = g
    · rw [if_pos e, if_pos (congrArg Sum.inr e)]
    · rw [if_neg e, if_neg (fun z => e (Sum.inr.inj z))]
  · rw [if_neg h, putK_new _ (by rw [ty_val, if_neg h])]
    unfold Ty
    rw [List.map_append]
    congr 1
    · refine List.map_congr_left fun k hk => ?_
      show ((.inr k : Key), V.int (F k)) = (.inr k, .int (if k = g then x else F k))
      rw [if_neg (fun e : k = g => h (by rw [← e]; exact hk))]
    · show [((.inr g : Key), V.int x)] = [(.inr g, .int (if g = g then x else F g))]
      rw [if_pos rfl]
def names (ps : List (Str × Int)) : List Str := allU (ps.map (·.1))
def tot (ps : List (Str × Int)) (g : Str) : Int := ((ps.filter fun p => p.1 == g).map (·.2)).sum
theorem names_snoc (ps : List (Str × Int)) (p : Str × Int) : names (ps ++ [p]) = addU (names ps) p.1 := by
  unfold names allU
  rw [List.map_append, List.foldl_append] <;> rfl
theorem names_nd (ps : List (Str × Int)) : (names ps).Nodup := by
  have := (foldU (xs := ps.map (fun p : Str × Int => p.1)) (l := []) List.nodup_nil).1
  exact this
theorem names_mem (ps : List (Str × Int)) (g : Str) : g ∈ names ps ↔ ∃ p ∈ ps, p.1 = g := by
  unfold names allU
  rw [(foldU (xs := ps.map (·.1)) (l := []) List.nodup_nil).2.1 g]
  simp
theorem names_len (ps : List (Str × Int)) : (names ps).length ≤ ps.length := by
  have := (foldU (xs := ps.map (·.1)) (l := []) List.nodup_nil).2.2
  unfold names allU
  simpa using this
theorem tot_snoc (ps : List (Str × Int)) (p : Str × Int) (g : Str) : tot (ps ++ [p]) g = if g = p.1 then tot ps g + p.2 else tot ps g := by
  unfold tot
  rw [List.filter_append, List.map_append, List.sum_append]
  by_cases e : g = p.1
  · rw [if_pos e, List.filter_cons, show (p.1 == g) = true from beq_iff_eq.mpr e.symm]
    simp
  · rw [if_neg e, List.filter_cons, show (p.1 == g) = false from beq_eq_false_iff_ne.mpr fun z => e z.symm]
    simp
theorem tot_none (ps : List (Str × Int)) (g : Str) (h : g ∉ names ps) : tot ps g = 0 := by
  unfold tot
  rw [List.filter_eq_nil_iff.mpr]
  · rfl
  · intro p hp e
    exact h ((names_mem ps g).mpr ⟨p, hp, beq_iff_eq.mp e⟩)
/-- one more: the tally's next state -/
theorem tally_put (ps : List (Str × Int)) (g : Str) (m : Int) : putK (Ty (names ps) (tot ps)) (.inr g) (.int (tot ps g + m)) = Ty (names (ps ++ [(g, m)])) (tot (ps ++ [(g, m)])) := by
  rw [ty_put, names_snoc]
  unfold Ty
  refine List.map_congr_left fun k _ => ?_
  show ((.inr k : Key), V.int (if k = g then tot ps g + m else tot ps k)) = (.inr k, .int (tot (ps ++ [(g, m)]) k))
  rw [tot_snoc]
  by_cases e : k = g
  · subst e
    simp
  · rw [if_neg e, if_neg e]
theorem tally_get (ps : List (Str × Int)) (g : Str) : (valV (Ty (names ps) (tot ps)) (.inr g)).getD (.int 0) = .int (tot ps g) := by
  rw [ty_val]
  by_cases h : g ∈ names ps
  · rw [if_pos h] <;> rfl
  · rw [if_neg h, tot_none ps g h] <;> rfl
section
variable {K : PySem.W.Frag} {σ : L2.St} {H H' : Hp} {ta tb tk tv te tf tl : TE} {tt : TT} {g : TG} {x y v : V} {D : Ends} {tz tu : TS} {vs : List Nat} {N M : Addr → Hp → Prop} {sp : Sp} {E : XK}
theorem for_of (h : EvN tl σ H N) (k : ∀ p H1, H p = none → Ex H H1 → N p H1 → tSeq (tFor (iList K (tC (.ref p))) g tu) tz D σ H1) : tSeq (tFor (iList K tl) g tu) tz D σ H := h H (Ex.refl _) _ k
theorem en_callM (h : Ev ta σ H x) (h2 : EvN tl σ H M) (h3 : ∀ H1, Ex H H1 → Ev tf σ H1 y) (hM : ∀ p H1 H2, Ex H1 H2 → M p H1 → M p H2) (hs : ∀ p H1, Ex H H1 → M p H1 → SpN sp [x, .ref p, y] H1 N) : EvN (tCall sp [] E (tCons ta (tCons tl (tCons tf tNil)))) σ H N := fun H1 e Q q =>
  h H1 e _ fun H2 e2 => h2 H2 (e.trans e2) _ fun p H3 hp e3 m3 => h3 H3 ((e.trans e2).trans e3) H3 (Ex.refl _) _ fun H4 e4 => hs p H4 (((e.trans e2).trans e3).trans e4) (hM p _ _ e4 m3) H4 (Ex.refl _) Q (fun r H5 hr e5 hN => q r H5 (fresh_back ((e2.trans e3).trans e4) hr) (((e2.trans e3).trans e4).trans e5) hN) E
theorem en_lst1L {xs : List V} (h : EvL te σ H xs) : EvN (tLst (tCons te tNil)) σ H (fun p H' => ∃ q, H' p = some (.lst [.ref q]) ∧ H' q = some (.lst xs)) := fun H1 e Q q =>
  h H1 e _ fun p H2 hp e2 h2 => ⟨by show 1 ≤ sizeLine; decide, fun r hr => q r _ (fresh_back e2 hr) (e2.trans (Ex.new hr)) ⟨p, upd_same, (upd_ne (fun z => by rw [z, hr] at h2; cases h2)).trans h2⟩⟩
theorem ep_cbN {r : List V → Hp → VK → Prop} {P : V → Prop} (h : EvN ta σ H N) (hr : ∀ p H1, Ex H H1 → N p H1 → ∃ z, RC r [.ref p] H1 z ∧ P z) : EvP (tCB r (tCons ta tNil)) σ H (fun z _ => P z) := fun H1 e Q q =>
  h H1 e _ fun p H2 _ e2 hn => by
    obtain ⟨z, h1, h2⟩ := hr p H2 (e.trans e2) hn
    exact h1 H2 (Ex.refl _) Q fun H3 e3 => q z H3 (e2.trans e3) h2
theorem q_wantF {n : Nat} {f : Addr} {ls : List (List Bool)} {tr : TA} (h : EvA tr σ H [.int (n : Int), .ref f]) (hn : 1 ≤ n ∧ n ≤ 100) (hl : LT H f (ls.map txt)) (nd : ls.Nodup) (hle : ∀ l ∈ ls, l.length ≤ n) (h20 : ls.length ≤ 20) (hT : TK K H)
    (k : ∀ H1, Fx K H H1 → tz D σ H1) : tSeq (tDrop (tCall (spWantF K) [] E tr)) tz D σ H := h H (Ex.refl _) _ fun H1 e1 => ⟨n, f, ls, rfl, hn, LT.ex e1 hl, nd, hle, h20, LamX.Tabs.ext hT e1, fun H2 e2 => k H2 ((Fx.of e1).trans e2)⟩
end
section
variable {P : Program} {w : World} {K : PySem.W.Frag} {mg : Str → Option Value} {base : Heap} {C : Addr}
structure FreeIn (n : Nat) (ls : List (List Bool)) : Prop where
  nd : ls.Nodup
  le : ∀ l ∈ ls, l.length ≤ n
  few : ls.length ≤ 20
def spIsUsed (K : PySem.W.Frag) : Sp := fun vs H Q _ => ∃ (n : Nat) (f : Addr) (ls : List (List Bool)) (a : List Bool), vs = [.int (n : Int), .ref f, .str (bS a)] ∧ (1 ≤ n ∧ n ≤ 100) ∧ LT H f (ls.map txt) ∧ FreeIn n ls ∧ a.length = n ∧ TK K H ∧ RetX K (.bl (!freeB ls a)) H Q
theorem kp_is_used (D : Df K mg "is_used" s_is_used) (k1 : Kp P w K mg base 7 "want_width" ["width"] spWantW) (k2 : Kp P w K mg base 7 "want_free" ["width", "free"] (spWantF K)) (k3 : Kp P w K mg base 7 "want_address" ["width", "value"] spWantA) (k4 : Kp P w K mg base 7 "is_free" ["free", "stretch"] spIsFree) :
    Kp P w K mg base 8 "is_used" ["width", "free", "address"] (spIsUsed K) := by
  refine kp_of D sc_is_used (fun _ _ _ _ _ _ us hl => match us, hl with | [_, _, _], _ => rfl) (fun vs H Q E h => ?_) (fun cdv A outer s H vs Q E hr h => ?_)
  · obtain ⟨n, f, ls, a, rfl, _⟩ := h
    rfl
  · obtain ⟨n, f, ls, a, rfl, hn, hl, hf, ha, hT, q⟩ := h
    refine ⟨_, pss_cons (ps_expr (pe_k k1 hr (pa_cons (pv 0) pa_nil)))
      (pss_cons (ps_expr (pe_k k2 hr (pa_cons (pv 0) (pa_cons (pv 1) pa_nil))))
      (pss_cons (ps_expr (pe_k k3 hr (pa_cons (pv 0) (pa_cons (pv 2) pa_nil))))
      (pss_one (ps_ret (pe_not (pe_k k4 hr (pa_cons (pv 1) (pa_cons (pv 2) pa_nil)))))))), ?_⟩
    refine q_drop (ev_call0 (ea_cons (ev_var rfl) ea_nil) fun H1 e Q q E => ⟨n, rfl, hn, fun H2 e2 => q H2 e2⟩) fun H1 e1 => ?_
    refine q_wantF (n := n) (f := f) (ls := ls) (ea_cons (ev_var rfl) (ea_cons (ev_var rfl) ea_nil)) hn (LT.ex e1 hl) hf.nd hf.le hf.few (LamX.Tabs.ext hT e1) fun H2 x2 => ?_
    refine q_drop (ev_call0 (ea_cons (ev_var rfl) (ea_cons (ev_var rfl) ea_nil)) fun H1 e Q q E => ⟨n, a, rfl, hn, ha, fun H2 e2 => q H2 e2⟩) fun H3 e3 => ?_
    refine s_ret (ev_notV (ev_call0 (ea_cons (ev_var rfl) (ea_cons (ev_var rfl) ea_nil)) fun H4 e Q q E => ⟨f, ls, a, rfl, LT.ex (e3.trans e) (LT.fx x2 (LT.ex e1 hl)), by have := hf.few; omega, fun H2 e2 => q H2 e2⟩)) fun H4 e4 => q H4 ((Fx.of e1).trans (x2.trans (Fx.of (e3.trans e4))))
def spUsedN (K : PySem.W.Frag) : Sp := fun vs H Q _ => ∃ (n : Nat) (f : Addr) (ls : List (List Bool)), vs = [.int (n : Int), .ref f] ∧ (1 ≤ n ∧ n ≤ 100) ∧ LT H f (ls.map txt) ∧ FreeIn n ls ∧ TK K H ∧ ∀ zs, ZsOf ls zs → RetX K (.int ((usedOf ls (cellsOf n zs)).map (·.2.1)).sum) H Q
end
end Cw
set_option Elab.async false
set_option linter.all false
set_option maxRecDepth 100000
set_option maxHeartbeats 4000000
namespace Cw
open PySem PySem.Spec PyProof.Rows L2 Evl
/-! ### defs with a default, calls by keywords alone -/
def swU (_ : List Value) (ws : List Value) : List Value := [ws.getD 1 .none, ws.getD 0 .none]
def swV (_ : List V) (zs : List V) : List V := [zs.getD 1 .non, zs.getD 0 .non]
theorem sw_rel {vs : List V} {us : List Value} {zs : List V} {ws : List Value} (_ : Vals vs us) (r : Vals zs ws) : Vals (swV vs zs) (swU us ws) := by
  cases r with
  | nil => exact .cons rfl (.cons rfl .nil)
  | cons a r =>
    cases r with
    | nil => exact .cons rfl (.cons a .nil)
    | cons b r => exact .cons b (.cons a .nil)
def Kp2 (P : Program) (w : World) (K : PySem.W.Frag) (mg : Str → Option Value) (base : Heap) (k : Nat) (x : Str) (ps ks : List Str) (sp : Sp) : Prop :=
  ∃ fd, FnOk P w K mg base CX0 k (He.ga K x) fd ps sp ∧ Binds K fd ps [] ∧ KBn K fd ps 0 ks swU swV ∧ PySem.W.keepIn K (.ref (He.ga K x)) = true ∧ mg x = some (.ref (He.ga K x))
def Df1 (K : PySem.W.Frag) (mg : Str → Option Value) (x : Str) (st : Stmt) (v : V) : Prop :=
  ∃ fd, FunD K x x (defArgs st) (defBody st) (defScope st) [v] [] (He.ga K x) fd ∧ mg x = some (.ref (He.ga K x))
section
variable {P : Program} {w : World} {K : PySem.W.Frag} {mg : Str → Option Value} {base : Heap}
theorem Kp2.kp {k : Nat} {x : Str} {ps ks : List Str} {sp : Sp} (h : Kp2 P w K mg base k x ps ks sp) : Kp P w K mg base k x ps sp := let ⟨fd, F, b, _, kp, g⟩ := h; ⟨fd, F, b, kp, g⟩
theorem kp_of2 {x : Str} {st : Stmt} {N ps ks : List Str} {k : Nat} {sp : Sp} (D : Df K mg x st) (S : FnScope N ps (defScope st)) (h2 : ks.length = 2)
    (hb : ∀ (kV doc pm : Value) (an : Option Addr) (cdv ct : Value) (us : List Value), us.length = ps.length → bindArgs (PySem.W.fnOf x x (defArgs st) (defBody st) (defScope st) .none kV doc pm an cdv ct) ⟨us, []⟩ = pure (ps.zip us))
    (hk : ∀ (kV doc pm : Value) (an : Option Addr) (cdv ct : Value) (u v : Value), bindArgs (PySem.W.fnOf x x (defArgs st) (defBody st) (defScope st) .none kV doc pm an cdv ct) ⟨[], ks.zip [u, v]⟩ = pure (ps.zip [v, u]))
    (len : ∀ vs H Q E, sp vs H Q E → vs.length = ps.length)
    (body : ∀ (cdv : Value) (A : Around) (outer : List Env) (s : Shared) (H : Hp) (vs : List V) (Q : VK) (E : XK), Room k (A.deeper (envOfC x (defScope st) s.heap.objs.size (He.ga K x) cdv)) → sp vs H Q E →
      ∃ t, PSs (cxOf CX0 P w K mg base N x (defScope st) (He.ga K x) cdv A outer s H E).nox (defBody st) t ∧ t { nx := fun _ H' => Q .non H', rt := Q } (start N vs) H) :
    Kp2 P w K mg base (k + 1) x ps ks sp := by
  obtain ⟨fd, F, g⟩ := D
  have hB := F.bindsN hb
  refine ⟨fd, F.ok S len fun cdv A outer s H vs Q E hr hsp => ?_, hB, ⟨fun s us ws X l1 l2 => ?_, sw_rel⟩, F.kp, g⟩
  · obtain ⟨t, ht, hq⟩ := body cdv A outer s H vs Q E hr hsp
    exact ⟨t, ht.nox, hq⟩
  · obtain ⟨oc, od, dV, kV, doc, pm, an, cdv, ct, osl, rfl, lk, hcd, hD, hK⟩ := F.ex
    rw [h2] at l2
    match us, ws, l1, l2 with
    | [], [u, v], _, _ =>
      rcases hD with ⟨_, rfl⟩ | ⟨e, _⟩
      · exact .of_eq (hk kV doc pm an cdv ct u v)
      · exact absurd rfl e
theorem kp_of1 {x : Str} {st : Stmt} {N ps ks : List Str} {k : Nat} {sp : Sp} {dv : V} (D : Df1 K mg x st dv) (S : FnScope N ps (defScope st)) (h2 : ks.length = 2)
    (hb : ∀ (T : Addr) (kV doc pm : Value) (an : Option Addr) (cdv ct : Value) (us its : List Value), us.length = ps.length → its.length = 1 →
      ∃ k, bindArgs (PySem.W.fnOf x x (defArgs st) (defBody st) (defScope st) (.ref T) kV doc pm an cdv ct) ⟨us, []⟩ = seqItems? (.ref T) >>= k ∧ k (some its.toArray) = pure (ps.zip (us ++ its.drop 1)))
    (hk : ∀ (T : Addr) (kV doc pm : Value) (an : Option Addr) (cdv ct : Value) (u v d : Value), ps.length = 2 →
      ∃ k, bindArgs (PySem.W.fnOf x x (defArgs st) (defBody st) (defScope st) (.ref T) kV doc pm an cdv ct) ⟨[], ks.zip [u, v]⟩ = seqItems? (.ref T) >>= k ∧ k (some #[d]) = pure (ps.zip [v, u]))
    (len : ∀ vs H Q E, sp vs H Q E → vs.length = ps.length) (hp : ps.length = 2)
    (body : ∀ (cdv : Value) (A : Around) (outer : List Env) (s : Shared) (H : Hp) (vs : List V) (Q : VK) (E : XK), Room k (A.deeper (envOfC x (defScope st) s.heap.objs.size (He.ga K x) cdv)) → sp vs H Q E →
      ∃ t, PSs (cxOf CX0 P w K mg base N x (defScope st) (He.ga K x) cdv A outer s H E).nox (defBody st) t ∧ t { nx := fun _ H' => Q .non H', rt := Q } (start N vs) H) :
    Kp2 P w K mg base (k + 1) x ps ks sp := by
  obtain ⟨fd, F, g⟩ := D
  have hB : Binds K fd ps [] := by
    obtain ⟨ds, h1, h3⟩ := F.binds1 (ps := ps) ps.length 1 (by simp) (by simp) hb
    cases h1
    exact h3
  refine ⟨fd, F.ok S len fun cdv A outer s H vs Q E hr hsp => ?_, hB, ⟨fun s us ws X l1 l2 => ?_, sw_rel⟩, F.kp, g⟩
  · obtain ⟨t, ht, hq⟩ := body cdv A outer s H vs Q E hr hsp
    exact ⟨t, ht.nox, hq⟩
  · obtain ⟨oc, od, dV, kV, doc, pm, an, cdv, ct, osl, rfl, lk, hcd, hD, hK⟩ := F.ex
    rw [h2] at l2
    match us, ws, l1, l2 with
    | [], [u, v], _, _ =>
      rcases hD with ⟨e, _⟩ | ⟨_, T, o, its, m, rfl, lT, oT, rT⟩
      · cases e
      · have l3 := rT.length
        match its, l3, oT with
        | [d], _, oT =>
          obtain ⟨k', e1, e2⟩ := hk T kV doc pm an cdv ct u v d hp
          refine BindsTo.of_looks fun M => ?_
          rw [e1]
          exact looks_items X lT oT (.of_pure e2)
/-- a def with one default, all written -/
theorem kp_of1a {x : Str} {st : Stmt} {N ps : List Str} {k : Nat} {sp : Sp} {dv : V} (D : Df1 K mg x st dv) (S : FnScope N ps (defScope st))
    (hb : ∀ (T : Addr) (kV doc pm : Value) (an : Option Addr) (cdv ct : Value) (us its : List Value), us.length = ps.length → its.length = 1 →
      ∃ k, bindArgs (PySem.W.fnOf x x (defArgs st) (defBody st) (defScope st) (.ref T) kV doc pm an cdv ct) ⟨us, []⟩ = seqItems? (.ref T) >>= k ∧ k (some its.toArray) = pure (ps.zip (us ++ its.drop 1)))
    (len : ∀ vs H Q E, sp vs H Q E → vs.length = ps.length)
    (body : ∀ (cdv : Value) (A : Around) (outer : List Env) (s : Shared) (H : Hp) (vs : List V) (Q : VK) (E : XK), Room k (A.deeper (envOfC x (defScope st) s.heap.objs.size (He.ga K x) cdv)) → sp vs H Q E →
      ∃ t, PSs (cxOf CX0 P w K mg base N x (defScope st) (He.ga K x) cdv A outer s H E).nox (defBody st) t ∧ t { nx := fun _ H' => Q .non H', rt := Q } (start N vs) H) :
    Kp P w K mg base (k + 1) x ps sp := by
  obtain ⟨fd, F, g⟩ := D
  have hB : Binds K fd ps [] := by
    obtain ⟨ds, h1, h3⟩ := F.binds1 (ps := ps) ps.length 1 (by simp) (by simp) hb
    cases h1
    exact h3
  refine ⟨fd, F.ok S len fun cdv A outer s H vs Q E hr hsp => ?_, hB, F.kp, g⟩
  obtain ⟨t, ht, hq⟩ := body cdv A outer s H vs Q E hr hsp
  exact ⟨t, ht.nox, hq⟩
end
section
variable {X : Cx} {k : Nat} {f : Addr} {fd : FuncData} {ps ks : List Str} {sp : Sp} {x : Str} {p pos : Pos} {kws : List Keyword} {tk : TA}
theorem pe_k2 (h : Kp2 X.prog X.w X.K X.mg X.base k x ps ks sp) (hr : Room k X.A) (hkw : PK X kws tk) (hg : Gl X x := by rfl)
    (hall : (backToKw pos (keywordEach kws X.env)).all (·.1.isSome) = true := by rfl) (hks : (backToKw pos (keywordEach kws X.env)).filterMap (·.1) = ks := by rfl) (hdb : (x == ("__debug__" : Str)) = false := by decide)
    (hpl : ((backTo pos (starEach [] X.env)).any (·.1) || (backToKw pos (keywordEach kws X.env)).any (·.1.isNone)) = false := by rfl) :
    PE X (.Call (.Name x p) [] kws pos) (tCallN 0 ks.length sp swV E0 tNil tk) := by
  obtain ⟨fd, F, _, hb, hk, hm⟩ := h
  refine ⟨fun pins s σ H Q I h => ?_⟩
  refine wpAny_Call_Name_kw (ld_glob I hg hm ?_ hdb)
  refine PySem.W.callWith_KW0 (h₀ := X.base) I.ok.mod.kin hk hall ?_ hpl
  refine thn (hkw.run pos pins s σ H _ I h) fun ws s2 ⟨zs, H2, I2, rz, l1, l2, q2⟩ => ⟨I2.kIn, ?_⟩
  rw [hks]
  exact run_fnN (us := []) (vs := []) F hr hb pass0 I2 .nil rz l1 l2 q2
end
/-! ### the property, the call of a table -/
def TbP (K : PySem.W.Frag) (C : Addr) : Prop := ∃ p g fd, PropOf K C "width" p g ∧ FunD K "width" "Table.width" (defArgs s_T_width) (defBody s_T_width) (defScope s_T_width) [] [] g fd
section
variable {K : PySem.W.Frag} {σ : L2.St} {H H' : Hp} {ta tb te : TE} {x y v : V}
theorem ev_prop {T C dx : Addr} {fs : List (Str × V)} {f : Str} {E : XK} (h : Ev ta σ H (.ref T)) (hT : H T = some (.ins C dx fs)) (l : fs.lookup f = some v) : Ev (tProp C (getSp C f) [] E ta) σ H v := fun H1 e Q q =>
  h H1 e _ fun H2 e2 => ⟨T, dx, fs, rfl, e2 _ _ (e _ _ hT), T, dx, fs, v, rfl, e2 _ _ (e _ _ hT), l, q H2 e2⟩
theorem pe_w {X : Cx} {C : Addr} {e : Expr} {te : TE} {pos : Pos} (tc : TbC X.K X.mg C) (tp : TbP X.K C) (hr : Room 2 X.A) (he : PE X e te) (hab : attributeBase e "width" X.env (eval e X.env) = eval e X.env) : PE X (.Attribute e "width" pos) (tProp C (getSp C "own_width") [] E0 te) := by
  obtain ⟨p, g, fd, hp, F⟩ := tp
  have hB : Binds X.K fd ["self"] [] := F.bindsN fun _ _ _ _ _ _ us hl => match us, hl with | [_], _ => rfl
  obtain ⟨oc, od, dV, kV, doc, pm, an, cdv, ct, osl, rfl, lk, hcd, _, _⟩ := F.ex
  exact pe_prop he tc.cls hp (fn_getter (k := 0) lk hcd sc_T_width rfl rfl tc.cls tc.nw) hr hB .nil pass0 hab
theorem ev_propW {C dx T d sa : Addr} {n : Nat} {E : XK} (h : Ev ta σ H (.ref T)) (hT : H T = some (.ins C dx (tbFs n d sa))) : Ev (tProp C (getSp C "own_width") [] E ta) σ H (.int (n : Int)) := fun H1 e Q q =>
  h H1 e _ fun H2 e2 => ⟨T, dx, _, rfl, e2 _ _ (e _ _ hT), T, dx, _, _, rfl, e2 _ _ (e _ _ hT), rfl, q H2 e2⟩
end
end Cw
set_option Elab.async false
set_option linter.all false
set_option maxRecDepth 100000
set_option maxHeartbeats 4000000
namespace Cw
open PySem PySem.Spec PyProof.Rows L2 Evl
section
variable {P : Program} {w : World} {K : PySem.W.Frag} {mg : Str → Option Value} {base : Heap} {C : Addr}
theorem kp_used_number (B : Bt mg) (D : Df K mg "used_number" s_used_number) (k1 : Kp P w K mg base 7 "want_width" ["width"] spWantW) (k2 : Kp P w K mg base 7 "want_free" ["width", "free"] (spWantF K)) (k3 : Kp P w K mg base 7 "used_cells" ["width", "lists", "free"] spUsedC) :
    Kp2 P w K mg base 8 "used_number" ["width", "free"] ["free", "width"] (spUsedN K) := by
  refine kp_of2 D sc_used_number rfl (fun _ _ _ _ _ _ us hl => match us, hl with | [_, _], _ => rfl) (fun _ _ _ _ _ _ _ _ => rfl) (fun vs H Q E h => ?_) (fun cdv A outer s H vs Q E hr h => ?_)
  · obtain ⟨n, f, ls, rfl, _⟩ := h
    rfl
  · obtain ⟨n, f, ls, rfl, hn, hl, hf, hT, q⟩ := h
    refine ⟨_, pss_cons (ps_expr (pe_k k1 hr (pa_cons (pv 0) pa_nil)))
      (pss_cons (ps_expr (pe_k k2 hr (pa_cons (pv 0) (pa_cons (pv 1) pa_nil))))
      (pss_one (ps_ret (pe_callB (cr_sum rfl) (by rfl) B.sum (by decide +kernel) (pa_cons
        (pe_lc (own := [("many", 2), ("start", 3)]) (g := gTup K 2 (gCons (gName 2) (gCons (gName 3) gNil))) (by rfl) sc_used_number.nd (pi_list (pe_k k3 hr (pa_cons (pv 0) (pa_cons (pe_lst pa_nil) (pa_cons (pv 1) pa_nil))))) (blkOk_by (N := ["width", "free", "many", "start"]) (sc := defScope s_used_number) (by decide +kernel))
          (fun _ _ _ _ _ => pg_tupK (K := K) rfl (by rfl) (pgs_cons (pg_name (i := 2) sc_used_number.nd rfl (.inl rfl)) (pgs_cons (pg_name (i := 3) sc_used_number.nd rfl (.inl rfl)) pgs_nil))) (fun _ _ _ _ _ => pts_nil) (fun _ _ _ _ _ => pv 2)) pa_nil))))), ?_⟩
    refine q_drop (ev_call0 (ea_cons (ev_var rfl) ea_nil) fun H1 e Q q E => ⟨n, rfl, hn, fun H2 e2 => q H2 e2⟩) fun H1 e1 => ?_
    refine q_wantF (n := n) (f := f) (ls := ls) (ea_cons (ev_var rfl) (ea_cons (ev_var rfl) ea_nil)) hn (LT.ex e1 hl) hf.nd hf.le hf.few (LamX.Tabs.ext hT e1) fun H2 x2 => ?_
    have l2 := LT.fx x2 (LT.ex e1 hl)
    have h20 := hf.few
    refine s_retP (E := fun v _ => ∃ zs, ZsOf ls zs ∧ v = .int ((usedOf ls (cellsOf n zs)).map (·.2.1)).sum) (ep_cbN (N := fun p H' => ∃ zs, ZsOf ls zs ∧ H' p = some (.lst (((usedOf ls (cellsOf n zs)).map (·.2.1)).map V.int))) (lc_of (en_callM (ev_var rfl) (en_l (el_lst ea_nil (by decide))) (fun H3 e3 => ev_var rfl) (fun p Ha Hb e h => e _ _ h) fun p H3 e3 hp H4 e4 Q4 q4 E4 => ⟨n, p, f, [], [], ls, rfl, hn, e4 _ _ hp, .nil, LT.ex (e3.trans e4) l2, by simp; omega, by simp, by simpa using hf.le, q4⟩) fun p H3 hp e3 ⟨zs, hz, ys, y1, y2⟩ => ?_) fun p H3 e3 ⟨zs, hz, h⟩ => ⟨_, fun H4 e4 Q4 q4 => ⟨p, _, rfl, sq_of (e4 _ _ h), q4 H4 (Ex.refl _)⟩, zs, hz, rfl⟩) fun v H3 e3 ⟨zs, hz, ev⟩ => by
        rw [ev]
        exact q zs hz H3 ((Fx.of e1).trans (x2.trans (Fx.of e3)))
    have hz : ZsOf ls zs := by simpa using hz
    have few : (usedOf ls (cellsOf n zs)).length ≤ zs.length := by
      have := congrArg List.length (cellsOf_keys n zs)
      rw [List.length_map] at this
      rw [← this]
      exact List.length_filter_le _ _
    have hzf := hz.few
    have yl := paired_len y2
    refine (en_l (el_lcV (ei_list (K := K) ev_c (sq_of y1)) (by omega) (fun i => .int ((usedOf ls (cellsOf n zs))[i]?.getD ([], 0, 0)).2.1) fun i x H4 hi e4 hx => ?_)).imp fun r H4 e4 hr2 => ⟨zs, hz, ?_⟩
    · obtain ⟨c, hc, T, rfl, hT2⟩ := paired_mem y2 i x hx
      refine ⟨_, ?_, eg_tup (st_of (e4 _ _ hT2)) rfl (egs_cons eg_name (egs_cons eg_name egs_nil)), ?_⟩
      · rfl
      rw [hc]
      exact ev_var rfl
    · rw [hr2, ← yl, List.map_map]
      refine congrArg (fun l => some (HO.lst l)) (List.ext_getElem (by simp) fun i h1 h2 => ?_)
      have h3 : i < (usedOf ls (cellsOf n zs)).length := by simpa using h2
      rw [List.getElem_map, List.getElem_map, List.getElem_range]
      show V.int ((usedOf ls (cellsOf n zs))[i]?.getD ([], 0, 0)).2.1 = _
      rw [List.getElem?_eq_getElem h3]
      rfl
end
end Cw
set_option Elab.async false
set_option linter.all false
set_option maxRecDepth 100000
set_option maxHeartbeats 4000000
namespace Cw
open PySem PySem.Spec PyProof.Rows L2 Evl
/-! ### numbers, first_with, a table's call -/
/-- what is to be tallied -/
def tallyOf (n : Nat) (rs : List Row) (szs : List Nat) (ls zs : List (List Bool)) : List (Str × Int) := (usedOf ls (cellsOf n zs)).map fun c => (goalM rs szs (numB n c.2.2), c.2.1)
theorem tally_len (n : Nat) (rs : List Row) (szs : List Nat) (ls zs : List (List Bool)) : (tallyOf n rs szs ls zs).length ≤ zs.length := by
  unfold tallyOf usedOf
  rw [List.length_map]
  refine Nat.le_trans (List.length_filter_le _ _) ?_
  have := congrArg List.length (cellsOf_keys n zs)
  rw [List.length_map] at this
  omega
structure TabIn (n : Nat) (rs : List Row) (szs : List Nat) : Prop where
  hn : 1 ≤ n ∧ n ≤ 100
  le : ∀ r ∈ rs, r.1.length ≤ n
  few : rs.length ≤ 39
  sz : ∀ k ∈ szs, k ≤ 1000
section
variable {P : Program} {w : World} {K : PySem.W.Frag} {mg : Str → Option Value} {base : Heap} {C : Addr}
theorem exB_new {H H1 H2 : Hp} {p : Addr} (e : Ex H H1) (b : ExB p H1 H2) (h : H p = none) : Ex H H2 := fun a o ha => b a o (fun z => by rw [z, h] at ha; cases ha) (e a o ha)
def spNumbers (K : PySem.W.Frag) (C : Addr) : Sp := fun vs H Q _ => ∃ (T : Addr) (n : Nat) (rs : List Row) (szs : List Nat) (f : Addr) (ls : List (List Bool)), vs = [.ref T, .ref f] ∧ TbAt C H T n rs szs ∧ TabIn n rs szs ∧ LT H f (ls.map txt) ∧ FreeIn n ls ∧ TK K H ∧
  ∀ zs ks p H', ZsOf (rs.map (·.1) ++ ls) zs → ks.Perm (names (tallyOf n rs szs ls zs)) → sortedS ks = true → Fx K H H' → H' p = some (.dK (Ty ks (tot (tallyOf n rs szs ls zs)))) → Q (.ref p) H'
theorem kp_numbers {dv : V} (B : Bt mg) (tc : TbC K mg C) (tp : TbP K C) (D : Df1 K mg "numbers" s_numbers dv) (k2 : Kp P w K mg base 7 "want_free" ["width", "free"] (spWantF K)) (k3 : Kp P w K mg base 7 "used_cells" ["width", "lists", "free"] spUsedC) (k4 : Kpm P w K mg base 7 C "goal_of" ["self", "address"] (spGoalOf C)) :
    Kp2 P w K mg base 8 "numbers" ["table", "free"] ["free", "table"] (spNumbers K C) := by
  refine kp_of1 D sc_numbers rfl (fun _ _ _ _ _ _ _ us its h1 h2 => match us, its, h1, h2 with | [_, _], [_], _, _ => ⟨_, rfl, rfl⟩) (fun _ _ _ _ _ _ _ u v d _ => ⟨_, rfl, rfl⟩) (fun vs H Q E h => ?_) rfl (fun cdv A outer s H vs Q E hr h => ?_)
  · obtain ⟨T, n, rs, szs, f, ls, rfl, _⟩ := h
    rfl
  · obtain ⟨T, n, rs, szs, f, ls, rfl, tb, ti, hl, hf, hT, q⟩ := h
    refine ⟨_, pss_cons (ps_expr (pe_k k2 hr (pa_cons (pe_w tc tp (hr.mono (by decide)) (pv 0) (by rfl)) (pa_cons (pv 1) pa_nil))))
      (pss_cons (ps_set (i := 2) sc_numbers.nd rfl (.inr rfl) pe_dnewK)
      (pss_cons (ps_for PassesOwn.never rfl (pi_list (pe_k k3 hr (pa_cons (pe_w tc tp (hr.mono (by decide)) (pv 0) (by rfl)) (pa_cons (pe_lst (pa_cons (pe_callTy (cr_listD rfl) (by rfl) B.list boot_list (pa_cons (pe_fld (pv 0) (by rfl)) pa_nil)) pa_nil)) (pa_cons (pv 1) pa_nil))))) (pg_tup (by rfl) (pgs_cons (pg_name (i := 3) sc_numbers.nd rfl (.inl rfl)) (pgs_cons (pg_name (i := 4) sc_numbers.nd rfl (.inl rfl)) pgs_nil)))
        (pss_cons (ps_set (i := 5) sc_numbers.nd rfl (.inl rfl) (pe_km (pv 0) tc.cls k4 hr (pa_cons (pv 4) pa_nil)))
        (pss_one (ps_dput (u1 hr) (pv 2) (pv 5) (pe_op op_add (pe_dget2 (u1 hr) (pv 2) (pv 5) pe_int ⟨by rfl, by rfl, by rfl, by rfl⟩) (pv 3)) (by rfl)))))
      (pss_one (ps_ret (pe_dc (own := [("goal", 5)]) (g := gName 5) (by rfl) sc_numbers.nd (pi_list (pe_callB (cr_sortD rfl) (by rfl) B.sorted boot_sorted (pa_cons (pv 2) pa_nil))) (blkOk_by (N := ["table", "free", "found", "many", "start", "goal"]) (sc := defScope s_numbers) (by decide +kernel))
        (fun _ _ _ _ _ => pg_name (i := 5) sc_numbers.nd rfl (Or.inl rfl)) (fun _ _ _ _ _ => pts_nil) (fun _ _ _ _ _ => pv 5) (fun _ _ _ _ _ => pe_dget (u1 hr) (pv 2) (pv 5) (by intro _ _; rfl))))))), ?_⟩
    have h20 := hf.few
    have h39 := ti.few
    obtain ⟨dx, d, sa, t1, t2, t3⟩ := id tb
    refine q_wantF (n := n) (f := f) (ls := ls) (ea_cons (ev_propW (ev_var rfl) t1) (ea_cons (ev_var rfl) ea_nil)) ti.hn hl hf.nd hf.le hf.few hT fun H2 x2 => ?_
    have l2 := LT.fx x2 hl
    have tb2 := TbAt.fx x2 tb
    obtain ⟨dx, d, sa, t1, t2, t3⟩ := id tb2
    refine q_asgN en_newK fun p H3 hp e3 hp3 => ?_
    refine for_of (N := fun o H' => ∃ zs, ZsOf (rs.map (·.1) ++ ls) zs ∧ UsedL n (usedOf ls (cellsOf n zs)) o H') (en_callM (ev_propW (ev_var rfl) (e3 _ _ t1)) (en_lst1L (el_listD (ea_cons (ev_fld (ev_var rfl) (e3 _ _ t1) tc.cls tc.nr rfl) ea_nil) (e3 _ _ t2))) (fun H4 e4 => ev_var rfl) (fun p Ha Hb e ⟨q', h1, h2⟩ => ⟨q', e _ _ h1, e _ _ h2⟩) fun o H4 e4 ⟨q', o1, o2⟩ H5 e5 Q5 q5 E5 => ⟨n, o, f, [q'], [rs.map (·.1)], ls, rfl, ti.hn, e5 _ _ o1, .cons (.inl ?_) .nil, LT.ex (e3.trans (e4.trans e5)) l2, ?_, by show 1 < 50; decide, ?_, ?_⟩) fun o H4 ho e4 ⟨zs, hz, ys, y1, y2⟩ => ?_
    · rw [e5 _ _ o2, List.map_map]
      show some (HO.lst (rs.map _)) = some (HO.lst ((rs.map (·.1)).map txt))
      rw [List.map_map] <;> rfl
    · simp
      omega
    · intro l hl
      simp at hl
      rcases hl with ⟨g, hg⟩ | hl
      · exact ti.le _ hg
      · exact hf.le l hl
    · intro r H6 hr6 e6 h6
      refine q5 r H6 hr6 e6 ?_
      simpa using h6
    have zf := hz.few
    have tl := tally_len n rs szs ls zs
    have yl := paired_len y2
    have tlen : (tallyOf n rs szs ls zs).length = ys.length := by
      unfold tallyOf
      rw [List.length_map, yl]
    have eA := e3.trans e4
    let ps := tallyOf n rs szs ls zs
    have psE : ∀ (i : Nat) (c : Cell), (usedOf ls (cellsOf n zs))[i]? = some c → ps[i]? = some (goalM rs szs (numB n c.2.2), c.2.1) := fun i c h => by
      show ((usedOf ls (cellsOf n zs)).map _)[i]? = _
      rw [List.getElem?_map, h] <;> rfl
    have nlt : ∀ i, (names (ps.take i)).length < 64 := fun i => by
      have h1 := names_len (ps.take i)
      rw [List.length_take] at h1
      have : ps.length = ys.length := tlen
      omega
    refine q_forL (K := K) (xs := ys) (a := o) ev_c (sq_of y1) (fun i σ H' => ∃ v3 v4 v5, σ = [some (.ref T), some (.ref f), some (.ref p), v3, v4, v5] ∧ ExB p H4 H' ∧ H' p = some (.dK (Ty (names (ps.take i)) (tot (ps.take i)))))
      (fun H5 e5 => ⟨none, none, none, rfl, ExB.of e5, e5 _ _ (e4 _ _ hp3)⟩) (fun i σ H' _ ⟨_, _, _, _, x, _⟩ => sq_of (x _ _ (fun z => by rw [z, e4 _ _ hp3] at y1; cases y1) y1)) (fun i x σ H' hx ⟨v3, v4, v5, hσ, xb, hp'⟩ => ?_) (fun σ H' ⟨v3, v4, v5, hσ, xb, hp'⟩ => ?_)
    · subst hσ
      obtain ⟨c, hc, U, rfl, hU⟩ := paired_mem y2 i x hx
      have hUp : U ≠ p := fun z => by
        rw [z, e4 _ _ hp3] at hU
        cases hU
      have hU' := xb _ _ hUp hU
      have tbN : ∀ {H''}, Ex H' H'' → TbAt C H'' T n rs szs := fun {H''} e => by
        have a1 : T ≠ p := fun z => by
          rw [z, hp] at t1
          cases t1
        have a2 : d ≠ p := fun z => by
          rw [z, hp] at t2
          cases t2
        have a3 : sa ≠ p := fun z => by
          rw [z, hp] at t3
          cases t3
        exact ⟨dx, d, sa, e _ _ (xb _ _ a1 (eA _ _ t1)), e _ _ (xb _ _ a2 (eA _ _ t2)), e _ _ (xb _ _ a3 (eA _ _ t3))⟩
      refine eg_tup (st_of hU') rfl (egs_cons eg_name (egs_cons eg_name egs_nil)) H' (Ex.refl _) _ ?_
      obtain ⟨dx', d', sa', u1', _, _⟩ := tbN (Ex.refl _)
      refine q_asg (ev_meth (ev_var rfl) u1' rfl (ea_cons (ev_var rfl) ea_nil) fun H6 e6 Q6 q6 E6 => ⟨T, n, rs, szs, numB n c.2.2, rfl, tbN e6, by rw [numB_len]; have := ti.hn; omega, ti.sz, fun H7 e7 => q6 H7 e7⟩) fun H6 e6 => ?_
      refine ev_op (ev_dget2 (k := .inr (goalM rs szs (numB n c.2.2))) (ev_var rfl) (ev_var rfl) ev_c (e6 _ _ hp')) (ev_var rfl) (by rw [tally_get]; exact rv_I0) _ (Ex.refl _) _ fun H7 e7 => ⟨.ref p, rfl, .str (goalM rs szs (numB n c.2.2)), rfl, p, _, rfl, DPut.k (k := .inr (goalM rs szs (numB n c.2.2))) (e7 _ _ (e6 _ _ hp')) ?_, ?_⟩
      · unfold Ty
        rw [List.length_map]
        have := nlt i
        exact sz_lt (by omega)
      · refine ⟨_, _, _, rfl, (xb.ex (e6.trans e7)).write, ?_⟩
        rw [upd_same, tally_put]
        have : ps.take (i + 1) = ps.take i ++ [(goalM rs szs (numB n c.2.2), c.2.1)] := by rw [List.take_add_one, psE i c hc] <;> rfl
        rw [this]
    · subst hσ
      have tall : ps.take ys.length = ps := List.take_of_length_le (Nat.le_of_eq tlen)
      rw [tall] at hp'
      have nl : (names ps).length < 64 := by
        have := nlt ys.length
        rwa [tall] at this
      refine s_retN (N := fun r H5 => ∃ ks : List Str, ks.Perm (names ps) ∧ sortedS ks = true ∧ H5 r = some (.dK (Ty ks (tot ps)))) (dc_of (en_sortD (ev_var rfl) hp' (ks := names ps) (by unfold Ty; rw [List.map_map] <;> rfl) nl) fun r H5 hr5 e5 ⟨ks, k1, k2', k3'⟩ => ?_) fun r H5 hr5 e5 ⟨ks, k1, k2', k3'⟩ => q zs ks r H5 hz k1 k2' (x2.trans (Fx.of ((exB_new eA xb hp).trans e5))) k3'
      · have kl := k1.length_eq
        refine (en_dc (f := fun _ => true) (key := fun i => (.inr ((ks[i]?).getD "") : Key)) (E := fun i v _ => v = .int (tot ps ((ks[i]?).getD ""))) (ei_list (K := K) ev_c (sq_of k3')) (by rw [List.length_map]; omega) (fun _ _ _ _ _ h => h) fun i x H6 hi e6 hx => ?_).imp fun p2 H6 e6 ⟨es, p1, p3⟩ => ⟨ks, k1, k2', ?_⟩
        · rw [List.getElem?_map] at hx
          obtain ⟨g, hg, rfl⟩ := Option.map_eq_some_iff.mp hx
          refine ⟨_, ?_, eg_name, et_yes, fun _ => ⟨?_, ?_⟩⟩
          · rfl
          · rw [hg]
            exact ev_var rfl
          · rw [hg]
            refine ep_ev (ev_dget (k := .inr g) (ev_var rfl) (ev_var rfl) (e6 _ _ (e5 _ _ hp')) ?_)
            rw [ty_val, if_pos (k1.mem_iff.mp (List.mem_of_getElem? hg))] <;> rfl
        · rw [List.length_map, List.filter_eq_self.mpr fun _ _ => rfl] at p3
          have e9 := ents_fn p3
          have e10 : es = Ty ks (tot ps) := by
            rw [e9]
            unfold Ty
            refine List.ext_getElem (by simp) fun i h1 h2 => ?_
            have h3 : i < ks.length := by simpa using h2
            rw [List.getElem_map, List.getElem_map, List.getElem_range, List.getElem?_eq_getElem h3] <;> rfl
          rw [p1, e10, merge_nd]
          unfold Ty
          rw [List.map_map]
          exact List.Pairwise.map _ (fun a b ne e => ne (Sum.inr.inj e)) (k1.nodup_iff.mpr (names_nd ps))
end
end Cw
set_option Elab.async false
set_option linter.all false
set_option maxRecDepth 100000
set_option maxHeartbeats 4000000
namespace Cw
open PySem PySem.Spec PyProof.Rows L2 Evl
def startsOf (n : Nat) (rs : List Row) (szs : List Nat) (ls zs : List (List Bool)) (g : Str) : List (List Bool) := ((usedOf ls (cellsOf n zs)).filter fun c => decide (goalM rs szs (numB n c.2.2) = g)).map fun c => numB n c.2.2
def FirstOf (as : List (List Bool)) (v : V) : Prop := (as = [] ∧ v = .non) ∨ ∃ b ∈ as, (∀ a ∈ as, ¬ a.map cb < b.map cb) ∧ v = txt b
theorem bS_cps (l : List Bool) : (bS l).cps.toList = l.map cb := by
  unfold bS
  simp
section
variable {K : PySem.W.Frag} {σ : L2.St} {H H' : Hp} {ta tb tc te tl : TE} {tk : TA} {x y : V} {N : Addr → Hp → Prop}
theorem ep_minN (h : EvN ta σ H N) (h2 : ∀ H1, Ex H H1 → Ev tb σ H1 .non) {as : Addr → Hp → List (List Bool) → Prop} (hN : ∀ p H1, Ex H H1 → N p H1 → ∃ l, as p H1 l ∧ ∀ H2, Ex H1 H2 → SqL K H2 p (l.map txt)) :
    EvP (tCKw (rMinTx K) (tCons ta tNil) (tCons tb tNil)) σ H (fun v _ => ∃ p H1 l, as p H1 l ∧ FirstOf l v) := fun H1 e Q q =>
  h H1 e _ fun p H2 hp e2 hn => h2 H2 (e.trans e2) H2 (Ex.refl _) _ fun H3 e3 => by
    obtain ⟨l, h1, h4⟩ := hN p H2 (e.trans e2) hn
    refine ⟨p, l.map bS, rfl, rfl, ?_, fun z => ?_, fun b hb hno => ?_⟩
    · rw [List.map_map]
      exact h4 H3 e3
    · have : l = [] := List.map_eq_nil_iff.mp z
      exact q _ H3 (e2.trans e3) ⟨p, H2, l, h1, .inl ⟨this, rfl⟩⟩
    · obtain ⟨b', hb', rfl⟩ := List.mem_map.mp hb
      refine q _ H3 (e2.trans e3) ⟨p, H2, l, h1, .inr ⟨b', hb', fun a ha z => hno _ (List.mem_map_of_mem ha) ?_, rfl⟩⟩
      rw [bS_cps, bS_cps]
      exact z
end
section
variable {P : Program} {w : World} {K : PySem.W.Frag} {mg : Str → Option Value} {base : Heap} {C : Addr}
def spFirst (K : PySem.W.Frag) (C : Addr) : Sp := fun vs H Q _ => ∃ (T : Addr) (n : Nat) (rs : List Row) (szs : List Nat) (f : Addr) (ls : List (List Bool)) (g : Str), vs = [.ref T, .str g, .ref f] ∧ TbAt C H T n rs szs ∧ TabIn n rs szs ∧ GoalOk g ∧ LT H f (ls.map txt) ∧ FreeIn n ls ∧ TK K H ∧
  ∀ zs v H', ZsOf (rs.map (·.1) ++ ls) zs → FirstOf (startsOf n rs szs ls zs g) v → Fx K H H' → Q v H'
theorem kp_first {dv : V} (B : Bt mg) (tc : TbC K mg C) (tp : TbP K C) (D : Df1 K mg "first_with" s_first_with dv) (k1 : Kp P w K mg base 7 "want_goal" ["value"] spWantG) (k2 : Kp P w K mg base 7 "want_free" ["width", "free"] (spWantF K)) (k3 : Kp P w K mg base 7 "used_cells" ["width", "lists", "free"] spUsedC) (k4 : Kpm P w K mg base 7 C "goal_of" ["self", "address"] (spGoalOf C)) :
    Kp P w K mg base 8 "first_with" ["table", "goal", "free"] (spFirst K C) := by
  refine kp_of1a D sc_first_with (fun _ _ _ _ _ _ _ us its h1 h2 => match us, its, h1, h2 with | [_, _, _], [_], _, _ => ⟨_, rfl, rfl⟩) (fun vs H Q E h => ?_) (fun cdv A outer s H vs Q E hr h => ?_)
  · obtain ⟨T, n, rs, szs, f, ls, g, rfl, _⟩ := h
    rfl
  · obtain ⟨T, n, rs, szs, f, ls, g, rfl, tb, ti, hg, hl, hf, hT, q⟩ := h
    refine ⟨_, pss_cons (ps_expr (pe_k k1 hr (pa_cons (pv 1) pa_nil)))
      (pss_cons (ps_expr (pe_k k2 hr (pa_cons (pe_w tc tp (hr.mono (by decide)) (pv 0) (by rfl)) (pa_cons (pv 2) pa_nil))))
      (pss_cons (ps_set (i := 3) sc_first_with.nd rfl (.inl rfl) (pe_k k3 hr (pa_cons (pe_w tc tp (hr.mono (by decide)) (pv 0) (by rfl)) (pa_cons (pe_lst (pa_cons (pe_callTy (cr_listD rfl) (by rfl) B.list boot_list (pa_cons (pe_fld (pv 0) (by rfl)) pa_nil)) pa_nil)) (pa_cons (pv 2) pa_nil)))))
      (pss_one (ps_ret (pe_callBK (cr_minTx rfl) (by rfl) B.min (by decide +kernel) (pa_cons
        (pe_lc (own := [("many", 4), ("start", 5)]) (g := gTup K 2 (gCons (gName 4) (gCons (gName 5) gNil))) (by rfl) sc_first_with.nd (pi_list (pv 3)) (blkOk_by (N := ["table", "goal", "free", "cells", "many", "start"]) (sc := defScope s_first_with) (by decide +kernel))
          (fun _ _ _ _ _ => pg_tupK (K := K) rfl (by rfl) (pgs_cons (pg_name (i := 4) sc_first_with.nd rfl (.inl rfl)) (pgs_cons (pg_name (i := 5) sc_first_with.nd rfl (.inl rfl)) pgs_nil)))
          (fun _ _ _ _ _ => pts_one (pt_cmpR op_eq (pe_km (pv 0) tc.cls k4 hr (pa_cons (pv 5) pa_nil)) (pv 1) (nomark _)))
          (fun _ _ _ _ _ => pv 5)) pa_nil) (pk_cons pe_non pk_nil)))))), ?_⟩
    have h20 := hf.few
    have h39 := ti.few
    refine q_drop (ev_call0 (ea_cons (ev_var rfl) ea_nil) fun H1 e Q q E => ⟨g, rfl, hg, fun H2 e2 => q H2 e2⟩) fun H1 e1 => ?_
    obtain ⟨dx, d, sa, t1, t2, t3⟩ := id (TbAt.ex e1 tb)
    refine q_wantF (n := n) (f := f) (ls := ls) (ea_cons (ev_propW (ev_var rfl) t1) (ea_cons (ev_var rfl) ea_nil)) ti.hn (LT.ex e1 hl) hf.nd hf.le hf.few (LamX.Tabs.ext hT e1) fun H2 x2 => ?_
    have l2 := LT.fx x2 (LT.ex e1 hl)
    have tb2 := TbAt.fx x2 (TbAt.ex e1 tb)
    obtain ⟨dx, d, sa, t1, t2, t3⟩ := id tb2
    refine q_asgN (N := fun o H' => ∃ zs, ZsOf (rs.map (·.1) ++ ls) zs ∧ UsedL n (usedOf ls (cellsOf n zs)) o H') (en_callM (ev_propW (ev_var rfl) t1) (en_lst1L (el_listD (ea_cons (ev_fld (ev_var rfl) t1 tc.cls tc.nr rfl) ea_nil) t2)) (fun H4 e4 => ev_var rfl) (fun p Ha Hb e ⟨q', h1, h2⟩ => ⟨q', e _ _ h1, e _ _ h2⟩) fun o H4 e4 ⟨q', o1, o2⟩ H5 e5 Q5 q5 E5 => ⟨n, o, f, [q'], [rs.map (·.1)], ls, rfl, ti.hn, e5 _ _ o1, .cons (.inl ?_) .nil, LT.ex (e4.trans e5) l2, ?_, by show 1 < 50; decide, ?_, ?_⟩) fun o H4 ho e4 ⟨zs, hz, ys, y1, y2⟩ => ?_
    · rw [e5 _ _ o2, List.map_map]
      show some (HO.lst (rs.map _)) = some (HO.lst ((rs.map (·.1)).map txt))
      rw [List.map_map] <;> rfl
    · simp
      omega
    · intro l hl
      simp at hl
      rcases hl with ⟨g, hg⟩ | hl
      · exact ti.le _ hg
      · exact hf.le l hl
    · intro r H6 hr6 e6 h6
      refine q5 r H6 hr6 e6 ?_
      simpa using h6
    have zf := hz.few
    have yl := paired_len y2
    have few : (usedOf ls (cellsOf n zs)).length ≤ zs.length := by
      have := congrArg List.length (cellsOf_keys n zs)
      rw [List.length_map] at this
      rw [← this]
      exact List.length_filter_le _ _
    let cs := usedOf ls (cellsOf n zs)
    refine s_retP (E := fun v _ => FirstOf (startsOf n rs szs ls zs g) v) ((ep_minN (K := K) (N := fun p H' => H' p = some (.lst ((startsOf n rs szs ls zs g).map txt))) (as := fun _ _ l => l = startsOf n rs szs ls zs g) ((en_lc (f := fun i => decide (goalM rs szs (numB n (cs[i]?.getD ([], 0, 0)).2.2) = g)) (E := fun i v _ => v = txt (numB n (cs[i]?.getD ([], 0, 0)).2.2)) (ei_list (K := K) (ev_var rfl) (sq_of y1)) (by omega) (fun _ _ _ _ _ h => h) fun i x H5 hi e5 hx => ?_).imp fun p H5 e5 ⟨vs, v1, v2⟩ => ?_) (fun H5 e5 => ev_c) fun p H5 e5 h5 => ⟨_, rfl, fun H6 e6 => sq_of (e6 _ _ h5)⟩).imp fun v H5 e5 ⟨_, _, l, h1, h2⟩ => by rw [← h1]; exact h2) fun v H5 e5 hv => q zs v H5 hz hv ((Fx.of e1).trans (x2.trans (Fx.of (e4.trans e5))))
    · obtain ⟨c, hc, U, rfl, hU⟩ := paired_mem y2 i x hx
      have hc' : cs[i]? = some c := hc
      refine ⟨_, ?_, eg_tup (st_of (e5 _ _ hU)) rfl (egs_cons eg_name (egs_cons eg_name egs_nil)), ?_, fun _ => ?_⟩
      · rfl
      · rw [hc']
        refine et_is (et_test (ev_op (ev_meth (ev_var rfl) ((e4.trans e5) _ _ t1) rfl (ea_cons (ev_var rfl) ea_nil) fun H6 e6 Q6 q6 E6 => ⟨T, n, rs, szs, numB n c.2.2, rfl, TbAt.ex (e4.trans (e5.trans e6)) tb2, by rw [numB_len]; have := ti.hn; omega, ti.sz, fun H7 e7 => q6 H7 e7⟩) (ev_var rfl) (rv_eq rfl))) ?_
        rw [Bool.eq_iff_iff, decide_eq_true_eq, decide_eq_true_eq]
        exact ⟨fun z => V.str.inj z, fun z => congrArg V.str z⟩
      · rw [hc']
        exact ep_ev (ev_var rfl)
    · rw [v1, paired_fn v2]
      refine congrArg (fun l => some (HO.lst l)) ?_
      unfold startsOf
      rw [List.map_map]
      have hp : Paired (fun (c : Cell) (b : V) => b = txt (numB n c.2.2)) (cs.filter fun c => decide (goalM rs szs (numB n c.2.2) = g)) vs := by
        rw [← yl] at v2
        exact paired_filter (d := (([], 0, 0) : Cell)) (F := fun (c : Cell) (b : V) => b = txt (numB n c.2.2)) (g := fun c => decide (goalM rs szs (numB n c.2.2) = g)) v2
      have key : ∀ {cs : List Cell} {vs : List V}, Paired (fun (c : Cell) (b : V) => b = txt (numB n c.2.2)) cs vs → vs = cs.map fun c => txt (numB n c.2.2) := by
        intro cs vs h
        induction h with
        | nil => rfl
        | cons a _ ih => rw [List.map_cons, ← ih, ← a]
      rw [← paired_fn v2, key hp]
      rfl
end
end Cw
set_option Elab.async false
set_option linter.all false
set_option maxRecDepth 100000
set_option maxHeartbeats 4000000
namespace Cw
open PySem PySem.Spec PyProof.Rows L2 Evl
/-! ### a table called, a table made -/
def KpO (P : Program) (w : World) (K : PySem.W.Frag) (mg : Str → Option Value) (base : Heap) (k : Nat) (C : Addr) (sp : Sp) : Prop := ∃ g, StX.CallO K C g ∧ FnR P w K mg base CX0 k g sp
def DCall (K : PySem.W.Frag) (C : Addr) : Prop := ∃ f fd, FunD K "__call__" "Table.__call__" (defArgs s_T_call) (defBody s_T_call) (defScope s_T_call) [] [] f fd ∧ StX.CallO K C f
structure KpT (P : Program) (w : World) (K : PySem.W.Frag) (mg : Str → Option Value) (base : Heap) (C : Addr) : Prop where
  ex : ∃ f fd, Mk K C f ∧ FnOk P w K mg base CX0 7 f fd ["self", "width", "rows"] (spInit C) ∧ Binds K fd ["self", "width", "rows"] [] ∧ Binds K fd ["self", "width", "rows"] [.none]
def DMake (K : PySem.W.Frag) (C : Addr) : Prop := ∃ f fd, FunD K "__init__" "Table.__init__" (defArgs s_T_init) (defBody s_T_init) (defScope s_T_init) [.non] [] f fd ∧ Mk K C f
section
variable {P : Program} {w : World} {K : PySem.W.Frag} {mg : Str → Option Value} {base : Heap} {C : Addr}
def spCall (C : Addr) : Sp := fun vs H Q _ => ∃ (T : Addr) (n : Nat) (rs : List Row) (szs : List Nat) (a : List Bool), vs = [.ref T, .str (bS a)] ∧ TbAt C H T n rs szs ∧ TabIn n rs szs ∧ a.length = n ∧ RetV (.str (goalM rs szs a)) H Q
theorem kpo_call (tc : TbC K mg C) (D : DCall K C) (k1 : Kp P w K mg base 5 "want_address" ["width", "value"] spWantA) (k4 : Kpm P w K mg base 5 C "goal_of" ["self", "address"] (spGoalOf C)) : KpO P w K mg base 6 C (spCall C) := by
  obtain ⟨f, fd, F, cO⟩ := D
  refine ⟨f, cO, ?_⟩
  have hB : Binds K fd ["self", "address"] [] := F.bindsN fun _ _ _ _ _ _ us hl => match us, hl with | [_, _], _ => rfl
  have ok : FnOk P w K mg base CX0 6 f fd ["self", "address"] (spCall C) := by
    refine F.ok sc_T_call (fun vs H Q E h => ?_) fun cdv A outer s H vs Q E hr h => ?_
    · obtain ⟨T, n, rs, szs, a, rfl, _⟩ := h
      rfl
    · obtain ⟨T, n, rs, szs, a, rfl, tb, ti, ha, q⟩ := h
      refine (fun ⟨t, ht, hq⟩ => ⟨t, PSs.nox ht, hq⟩ : (∃ t, PSs (cxOf CX0 P w K mg base ["self", "address"] "Table.__call__" (defScope s_T_call) f cdv A outer s H E).nox (defBody s_T_call) t ∧ t { nx := fun _ H' => Q .non H', rt := Q } (start ["self", "address"] [.ref T, .str (bS a)]) H) → _) ?_
      refine ⟨_, pss_cons (ps_expr (pe_k k1 hr (pa_cons (pe_fld (pv 0) (by rfl)) (pa_cons (pv 1) pa_nil))))
        (pss_one (ps_ret (pe_km (pv 0) tc.cls k4 hr (pa_cons (pv 1) pa_nil)))), ?_⟩
      obtain ⟨dx, d, sa, t1, t2, t3⟩ := id tb
      refine q_drop (ev_call0 (ea_cons (ev_fld (ev_var rfl) t1 tc.cls tc.nw rfl) (ea_cons (ev_var rfl) ea_nil)) fun H1 e Q q E => ⟨n, a, rfl, ti.hn, ha, fun H2 e2 => q H2 e2⟩) fun H1 e1 => ?_
      refine s_ret (ev_meth (ev_var rfl) (e1 _ _ t1) rfl (ea_cons (ev_var rfl) ea_nil) fun H6 e6 Q6 q6 E6 => ⟨T, n, rs, szs, a, rfl, TbAt.ex (e1.trans e6) tb, by have := ti.hn; omega, ti.sz, fun H7 e7 => q6 H7 e7⟩) fun H2 e2 => q H2 (e1.trans e2)
  have := ok.raw hB .nil
  exact FnR.imp this fun vs H Q E h => by rw [List.append_nil]; exact h
theorem kpt_table (B : Bt mg) (tc : TbC K mg C) (D : DMake K C) (k1 : Kp P w K mg base 6 "want_width" ["width"] spWantW) (k2 : Kp P w K mg base 6 "are_rows" ["width", "value"] spAreRows) : KpT P w K mg base C := by
  obtain ⟨f, fd, F, M⟩ := D
  refine ⟨f, fd, M, ok_init B tc F k1 k2, ?_, ?_⟩
  · obtain ⟨ds, h1, h3⟩ := F.binds1 (ps := ["self", "width", "rows"]) 3 1 (by simp) (by simp) fun _ _ _ _ _ _ _ us its h1 h2 => match us, its, h1, h2 with | [_, _, _], [_], _, _ => ⟨_, rfl, rfl⟩
    cases h1
    exact h3
  · obtain ⟨ds, h1, h3⟩ := F.binds1 (ps := ["self", "width", "rows"]) 2 0 (by simp) (by simp) fun _ _ _ _ _ _ _ us its h1 h2 => match us, its, h1, h2 with | [_, _], [_], _, _ => ⟨_, rfl, rfl⟩
    have h1 : Vals [V.non] ds := h1
    obtain ⟨u, rfl, ru⟩ := h1.one
    obtain rfl : u = Value.none := ru
    exact h3
end
section
variable {X : Cx} {C : Addr} {e : Expr} {es : List Expr} {p pos : Pos} {t : TA}
theorem pe_T (h : KpT X.prog X.w X.K X.mg X.base C) (hg : X.mg "Table" = some (.ref C)) (hr : Room 8 X.A) (ha : PA X (e :: es) t) (hgl : Gl X "Table" := by rfl)
    (he : starEach (e :: es) X.env = (false, eval e X.env) :: starEach es X.env := by rfl) (hpl : (backTo pos (starEach es X.env)).any (·.1) = false := by rfl) : PE X (.Call (.Name "Table" p) (e :: es) [] pos) (tMake C (spInit C) [] E0 t) := by
  obtain ⟨f, fd, M, F, b, _⟩ := h.ex
  exact pe_make M F hr hgl hg b .nil pass0 ha (by decide) he hpl
theorem pe_T1 (h : KpT X.prog X.w X.K X.mg X.base C) (hg : X.mg "Table" = some (.ref C)) (hr : Room 8 X.A) (ha : PA X (e :: es) t) (hgl : Gl X "Table" := by rfl)
    (he : starEach (e :: es) X.env = (false, eval e X.env) :: starEach es X.env := by rfl) (hpl : (backTo pos (starEach es X.env)).any (·.1) = false := by rfl) : PE X (.Call (.Name "Table" p) (e :: es) [] pos) (tMake C (spInit C) [.non] E0 t) := by
  obtain ⟨f, fd, M, F, _, b⟩ := h.ex
  exact pe_make M F hr hgl hg b (.cons rfl .nil) pass0 ha (by decide) he hpl
end
section
variable {σ : L2.St} {H : Hp} {C : Addr} {t : TA} {E : XK}
def NewT (C : Addr) (n : Nat) (rs : List Row) (T : Addr) (H : Hp) : Prop := ∃ rs' szs, RsOf rs rs' ∧ SzOf rs szs ∧ TbAt C H T n rs' szs
theorem en_make {vs dvs : List V} {n : Nat} {r : V} {rs : List Row} (h : EvA t σ H vs) (hv : vs ++ dvs = [.int (n : Int), r]) (hn : 1 ≤ n ∧ n ≤ 100) (hr : (r = .non ∧ rs = []) ∨ ∃ d, r = .ref d ∧ H d = some (.dK (rs.map rowKV))) (hin : RowsIn n rs) : EvN (tMake C (spInit C) dvs E t) σ H (NewT C n rs) := fun H1 e Q q =>
  h H1 e _ fun H2 e2 x dx hx hdx ne => by
    rw [hv]
    refine ⟨x, dx, n, r, rs, rfl, upd_same, hn, ?_, hin, fun H' rs' szs xb h1 h2 h3 => ⟨rfl, q x H' (fresh_back e2 hx) (e2.trans fun b o hb => ?_) ⟨rs', szs, h1, h2, h3⟩⟩⟩
    · refine hr.imp id fun ⟨d, h1, h2⟩ => ?_
      have h3 := (e.trans e2) _ _ h2
      have a1 : d ≠ x := fun z => by rw [z, hx] at h3; cases h3
      have a2 : d ≠ dx := fun z => by rw [z, hdx] at h3; cases h3
      exact ⟨d, a1, h1, (upd_ne a1).trans ((upd_ne a2).trans h3)⟩
    · have a1 : b ≠ x := fun z => by rw [z, hx] at hb; cases hb
      have a2 : b ≠ dx := fun z => by rw [z, hdx] at hb; cases hb
      exact xb b o a1 ((upd_ne a1).trans ((upd_ne a2).trans hb))
end
end Cw
set_option Elab.async false
set_option linter.all false
set_option maxRecDepth 100000
set_option maxHeartbeats 4000000
namespace Cw
open PySem PySem.Spec PyProof.Rows L2 Evl
/-! ### the law's pot: all but the pot (and the tables) stays -/
def Pt (p : Addr) (H : Hp) : Prop := ∃ a b : Nat, H p = some (.lst [.int (a : Int), .int (b : Int)]) ∧ b < 2147483648
def Gx (K : PySem.W.Frag) (p : Addr) (H H' : Hp) : Prop := (∀ b o, b ≠ p → H b = some o → (∀ ps, o ≠ .tbl ps) → H' b = some o) ∧ (TK K H → TK K H') ∧ (Pt p H → Pt p H')
section
variable {K : PySem.W.Frag} {p : Addr} {H H1 H2 H' : Hp}
theorem Gx.refl (H : Hp) : Gx K p H H := ⟨fun _ _ _ h _ => h, id, id⟩
theorem Gx.trans (a : Gx K p H H1) (b : Gx K p H1 H2) : Gx K p H H2 := ⟨fun c o n h t => b.1 c o n (a.1 c o n h t) t, fun t => b.2.1 (a.2.1 t), fun t => b.2.2 (a.2.2 t)⟩
theorem Gx.fx (e : Fx K H H') : Gx K p H H' := ⟨fun b o _ h t => e.1 b o h t, e.2, fun ⟨a, b, h, l⟩ => ⟨a, b, e.1 _ _ h (fun _ z => by cases z), l⟩⟩
theorem Gx.of (e : Ex H H') : Gx K p H H' := Gx.fx (Fx.of e)
theorem TK.upd {o : HO} {xs : List V} (h : H p = some (.lst xs)) (t : TK K H) (ho : ∀ q, LamX.CodeO q lq ≠ .lst xs) : TK K (upd H p o) := fun q hq => by
  obtain ⟨ps, h1, h2, h3⟩ := t q hq
  refine ⟨ps, (upd_ne (fun z => by rw [z, h] at h1; cases h1)).trans h1, h2, fun pos cv hc => ?_⟩
  obtain ⟨c, e1, e2⟩ := h3 pos cv hc
  refine ⟨c, e1, (upd_ne (fun z => ?_)).trans e2⟩
  rw [z, h] at e2
  rw [List.mem_singleton.mp hq] at e2
  exact ho p (Option.some.inj e2).symm
theorem codeO_lst {q : Addr} {xs : List V} : LamX.CodeO q lq ≠ .lst xs := fun z => by cases z
theorem Gx.pot {a b a2 b2 : Nat} (h : H p = some (.lst [.int (a : Int), .int (b : Int)])) (hb : b2 < 2147483648) : Gx K p H (upd H p (.lst [.int (a2 : Int), .int (b2 : Int)])) :=
  ⟨fun c o n h _ => (upd_ne n).trans h, fun t => TK.upd h t fun _ => codeO_lst, fun _ => ⟨a2, b2, upd_same, hb⟩⟩
theorem Gx.tk (g : Gx K p H H') (hp : Pt p H) : Tk H H' := fun a xs h => g.1 a _ (fun z => by
  obtain ⟨_, _, h2, _⟩ := hp
  rw [z, h2] at h
  cases h) h (fun _ z => by cases z)
theorem LT.gx {a : Addr} {xs : List V} (e : Gx K p H H') (n : a ≠ p) (h : LT H a xs) : LT H' a xs := h.imp (fun z => e.1 _ _ n z fun _ q => by cases q) fun z => e.1 _ _ n z fun _ q => by cases q
end
section
variable {P : Program} {w : World} {K : PySem.W.Frag} {mg : Str → Option Value} {base : Heap}
def spDraw (K : PySem.W.Frag) : Sp := fun vs H Q _ => ∃ (p : Addr) (m : Nat), vs = [.ref p, .int (m : Int)] ∧ Pt p H ∧ (1 ≤ m ∧ m ≤ 100000) ∧ ∀ (d : Nat) H', d < m → Gx K p H H' → Q (.int (d : Int)) H'
theorem kp_draw (B : Bt mg) (D : Df K mg "_law_draw" s_law_draw) : Kp P w K mg base 1 "_law_draw" ["_law_pot_here", "_law_many"] (spDraw K) := by
  refine kp_of D sc_law_draw (fun _ _ _ _ _ _ us hl => match us, hl with | [_, _], _ => rfl) (fun vs H Q E h => ?_) (fun cdv A outer s H vs Q E hr h => ?_)
  · obtain ⟨p, m, rfl, _⟩ := h
    rfl
  · obtain ⟨p, m, rfl, ⟨a, b, hp, hb⟩, hm, q⟩ := h
    refine ⟨_, pss_cons (ps_if (pt_cmpR op_gt (pe_ix ix_list (pv 0) pe_int (by intro _ _; rfl)) pe_int (nomark _))
        (pss_cons (ps_asg (pe_callB cr_divmod (by rfl) B.divmod (by decide +kernel) (pa_cons (pe_ix ix_list (pv 0) pe_int (by intro _ _; rfl)) (pa_cons (pv 1) pa_nil))) (pg_tup (by rfl) (pgs_cons (pg_sub (pv 0) pe_int set_list) (pgs_cons (pg_name (i := 2) sc_law_draw.nd rfl (.inl rfl)) pgs_nil))))
        (pss_one (ps_ret (pv 2)))) pss_nil)
      (pss_cons (ps_asg (pe_op op_mod (pe_callTy cr_int1 (by rfl) B.int (by decide +kernel) (pa_cons (pe_op op_add (pe_op op_mul (pe_ix ix_list (pv 0) pe_int (by intro _ _; rfl)) pe_int) pe_int) pa_nil)) pe_int) (pg_sub (pv 0) pe_int set_list))
      (pss_one (ps_ret (pe_op op_mod (pe_callTy cr_int1 (by rfl) B.int (by decide +kernel) (pa_cons (pe_op op_fdiv (pe_op op_mod (pe_callTy cr_int1 (by rfl) B.int (by decide +kernel) (pa_cons (pe_op op_mul (pe_ix ix_list (pv 0) pe_int (by intro _ _; rfl)) (pe_ix ix_list (pv 0) pe_int (by intro _ _; rfl))) pa_nil)) pe_int) pe_int) pa_nil)) (pv 1))))), ?_⟩
    refine q_when (b := decide ((a : Int) > 0)) (et_test (ev_op (ev_op (ev_var rfl) ev_c (rv_ixL (sq_of hp) rfl)) ev_c rv_I0)) (fun hpos H1 e1 => ?_) (fun hpos H1 e1 => ?_)
    · refine eu_divmod (ea_cons (ev_op (ev_var rfl) ev_c (rv_ixL (sq_of (e1 _ _ hp)) rfl)) (ea_cons (ev_var rfl) ea_nil)) ⟨by omega, by omega⟩ _ (Ex.refl _) _ fun T H2 hT e2 hT2 => ?_
      have hp2 := e2 _ _ (e1 _ _ hp)
      refine ⟨T, _, rfl, st_of hT2, rfl, _, _, rfl, ?_⟩
      refine ⟨.ref p, rfl, ⟨p, _, 0, 0, rfl, rfl, hp2, rfl, ?_⟩⟩
      refine ⟨_, _, rfl, ⟨rfl, ?_⟩⟩
      refine ⟨.int ((a : Int) % (m : Int)), rfl, ?_⟩
      have e3 : ((a : Int) / (m : Int)) = ((a / m : Nat) : Int) := by simp
      have e4 : ((a : Int) % (m : Int)) = ((a % m : Nat) : Int) := by simp
      rw [e3, e4]
      exact q _ _ (Nat.mod_lt _ (by omega)) ((Gx.of (e1.trans e2)).trans (Gx.pot hp2 hb))
    · have hp1 := e1 _ _ hp
      let b2 : Nat := (b * 39373 + 12241) % 2147483629
      have hb2 : b2 < 2147483629 := Nat.mod_lt _ (by decide)
      refine ev_op (ev_cb (ea_cons (ev_op (ev_op (ev_op (ev_var rfl) ev_c (rv_ixL (sq_of hp1) rfl)) ev_c (rv_I (.inr (by decide)))) ev_c rv_I0) ea_nil) rc_int1) ev_c (rv_I (by decide)) _ (Ex.refl _) _ fun H2 e2 => ?_
      have hp2 := e2 _ _ hp1
      refine ⟨.ref p, rfl, ⟨p, _, 1, 1, rfl, rfl, hp2, rfl, ?_⟩⟩
      have e5 : (((b : Int) * 39373 + 12241) % 2147483629) = ((b2 : Nat) : Int) := by
        show _ = (((b * 39373 + 12241) % 2147483629 : Nat) : Int)
        omega
      rw [e5]
      have hp3 : (upd H2 p (.lst [.int (a : Int), .int (b2 : Int)])) p = some (.lst [.int (a : Int), .int (b2 : Int)]) := upd_same
      have G3 : Gx K p H (upd H2 p (.lst [.int (a : Int), .int (b2 : Int)])) := (Gx.of (e1.trans e2)).trans (Gx.pot hp2 (by omega))
      have hbI : (-(2 ^ 64) < (b2 : Int) ∧ (b2 : Int) < 2 ^ 64) := by omega
      refine s_ret (ev_op (ev_cb (ea_cons (ev_op (ev_op (ev_cb (ea_cons (ev_op (ev_op (ev_var rfl) ev_c (rv_ixL (sq_of hp3) rfl)) (ev_op (ev_var rfl) ev_c (rv_ixL (sq_of hp3) rfl)) (rv_I (.inl hbI))) ea_nil) rc_int1) ev_c (rv_I (by decide))) ev_c (rv_I ⟨by decide, by decide⟩)) ea_nil) rc_int1) (ev_var rfl) (rv_I (by omega))) fun H3 e3 => ?_
      have e6 : ((b2 : Int) * (b2 : Int) % 2147483549 / 13 % (m : Int)) = (((b2 * b2 % 2147483549 / 13) % m : Nat) : Int) := by
        simp
      rw [e6]
      exact q _ _ (Nat.mod_lt _ (by omega)) (G3.trans (Gx.of e3))
end
end Cw
set_option Elab.async false
set_option linter.all false
set_option maxRecDepth 100000
set_option maxHeartbeats 4000000
namespace Cw
open PySem PySem.Spec PyProof.Rows L2 Evl
def EvJ (K : PySem.W.Frag) (p : Addr) (wi : TI) (σ : L2.St) (H : Hp) (n : Nat) (Y : Nat → V → Hp → Prop) : Prop :=
  ∀ R : It → Hp → Prop, (∀ J (G : Hp → Prop) H2, Ex H H2 → Walk J n G (fun i Ha x Hb => Ex Ha Hb ∧ Y i x Hb) → (∀ H3, Gx K p H2 H3 → G H3) → R J H2) → wi σ H R
section
variable {K : PySem.W.Frag} {p D : Addr} {H H1 H2 H' : Hp} {σ : L2.St} {ta : TA} {te tl : TE} {g : TG} {tt : TT} {vs : List Nat} {Q : VK}
theorem Gx.mut {xs : List V} {o : HO} (e : Gx K p H H1) (hD : H D = none) (h1 : H1 D = some (.lst xs)) (hp : Pt p H) : Gx K p H (upd H1 D o) := by
  have ne : p ≠ D := fun z => by
    obtain ⟨_, _, h, _⟩ := hp
    rw [z, hD] at h
    cases h
  refine ⟨fun b u n h t => (upd_ne (fun z => by rw [z, hD] at h; cases h)).trans (e.1 b u n h t), fun t => TK.upd h1 (e.2.1 t) fun _ => codeO_lst, fun q => ?_⟩
  obtain ⟨a, b, h, l⟩ := e.2.2 q
  exact ⟨a, b, (upd_ne ne).trans h, l⟩
theorem Gx.back (e : Gx K p H H1) (hn : H1 D = none) (hD : D ≠ p) (nt : ∀ ps, H D ≠ some (.tbl ps)) : H D = none := by
  cases h : H D with
  | none => rfl
  | some o =>
    have := e.1 D o hD h (fun ps z => nt ps (by rw [h, z]))
    rw [this] at hn
    cases hn
theorem ej_range {n : Nat} (h : EvA ta σ H [.int (n : Int)]) (hn : n ≤ 100000) : EvJ K p (iRng1 ta) σ H n (fun i x _ => x = .int (i : Int)) := fun R q =>
  h H (Ex.refl _) _ fun H2 e2 => ⟨(n : Int), rfl, by omega, by omega, q _ _ H2 e2 ((walk_range (lo := 0) (n := n)).mono (G' := fun _ => True) (fun _ g => g) fun i Ha x Hb _ _ y => ⟨by rw [y.1]; exact Ex.refl _, by rw [y.2]; simp⟩) fun _ _ => trivial⟩
theorem ej_list {a : Addr} {xs : List V} (h : Ev tl σ H (.ref a)) (hs : H a = some (.lst xs)) (n : a ≠ p) : EvJ K p (iList K tl) σ H xs.length (fun i x _ => xs[i]? = some x) := fun R q =>
  h H (Ex.refl _) _ fun H2 e2 => ⟨a, rfl, ⟨xs, sq_of (e2 _ _ hs)⟩, q _ _ H2 e2 (walk_list.mono (G' := fun H => SqL K H a xs) (fun _ g => g) fun i Ha x Hb _ _ y => ⟨by rw [y.1]; exact Ex.refl _, y.2⟩) fun H3 g3 => sq_of (g3.1 _ _ n (e2 _ _ hs) fun _ z => by cases z)⟩
theorem lc_rngG {P : Nat → Prop} (h : ∀ Q : List V → Hp → Prop, (∀ (n : Nat) H2, P n → Gx K p H H2 → Q [.int (n : Int)] H2) → ta σ H Q) (k : ∀ (n : Nat) H2, P n → Gx K p H H2 → tLc (iRng1 (tCons (tC (.int (n : Int))) tNil)) g tt te vs σ H2 Q) : tLc (iRng1 ta) g tt te vs σ H Q :=
  h _ fun n H2 hp e => k n H2 hp e
theorem lc_lstG {N : Addr → Hp → Prop} (h : ∀ Q : VK, (∀ q H2, N q H2 → Gx K p H H2 → Q (.ref q) H2) → tl σ H Q) (k : ∀ q H2, N q H2 → Gx K p H H2 → tLc (iList K (tC (.ref q))) g tt te vs σ H2 Q) : tLc (iList K tl) g tt te vs σ H Q :=
  h _ fun q H2 hp e => k q H2 hp e
theorem lc_gx {wi : TI} {n : Nat} {Y : Nat → V → Hp → Prop} {f : Nat → Bool} {E : Nat → V → Hp → Prop} (hp : Pt p H) (hi : EvJ K p wi σ H n Y) (hn : n ≤ 100000) (hE : ∀ i y Ha Hb, Tk Ha Hb → E i y Ha → E i y Hb)
    (ht : ∀ i x H1, i < n → Gx K p H H1 → Y i x H1 → ∃ σ2, wipe σ2 vs = wipe σ vs ∧ EvG g x (wipe σ vs) H1 σ2 ∧ EvT tt σ2 H1 (f i) ∧ (f i = true → ∀ H2, Ex H1 H2 → ∀ Q : VK, (∀ v H3, Gx K p H2 H3 → E i v H3 → Q v H3) → te σ2 H2 Q))
    (k : ∀ D H', H D = none → Gx K p H H' → Made ((List.range n).filter f) E D H' → Q (.ref D) H') : tLc wi g tt te vs σ H Q :=
  hi _ fun J G H2 e2 w hG D hD => by
    have hp2 : Pt p H2 := (Gx.of (K := K) e2).2.2 hp
    have dp : D ≠ p := fun z => by
      obtain ⟨_, _, h, _⟩ := hp2
      rw [← z, hD] at h
      cases h
    refine lc_it w (fun i H' => Gx K p H2 H' ∧ Made ((List.range i).filter f) E D H') ⟨Gx.of (Ex.new hD), [], upd_same, .nil⟩ (fun i H' _ p => hG H' p.1) (fun i x Ha Hb hlt q y => ?_) (fun H' q => k D H' (fresh_back e2 hD) ((Gx.of e2).trans q.1) q.2)
    obtain ⟨p1, ys, p2, p3⟩ := q
    obtain ⟨y1, y2⟩ := y
    obtain ⟨σ2, s1, s2, s3, s4⟩ := ht i x Hb hlt (((Gx.of e2).trans p1).trans (Gx.of y1)) y2
    refine s2 Hb (Ex.refl _) _ ⟨s1, s3 Hb (Ex.refl _) _ fun H3 e3 => ?_⟩
    have m3 : Paired (fun i y => E i y H3) ((List.range i).filter f) ys := paired_ex hE (tk_ex (y1.trans e3)) p3
    have hl : ys.length < sizeLine := by
      have := paired_len p3
      have := List.length_filter_le f (List.range i)
      rw [List.length_range] at this
      exact sz_lt (by omega)
    have G3 : Gx K p H2 H3 := p1.trans (Gx.of (y1.trans e3))
    have hp3 : Pt p H3 := G3.2.2 hp2
    have hD3 : H3 D = some (.lst ys) := e3 _ _ (y1 _ _ p2)
    cases hf : f i with
    | true =>
      show te σ2 H3 _
      refine s4 hf H3 e3 _ fun v H4 g4 hv => ?_
      have hD4 : H4 D = some (.lst ys) := g4.1 _ _ dp hD3 fun _ z => by cases z
      refine ⟨ys, hD4, hl, (G3.trans g4).mut hD hD4 hp2, ys ++ [v], upd_same, ?_⟩
      have e5 : Tk H4 (upd H4 D (.lst (ys ++ [v]))) := tk_upd hD4 fun xs z => by cases z
      rw [ixs_yes hf]
      exact paired_app (paired_ex hE (tk_trans (g4.tk hp3) e5) m3) (.cons (hE i v _ _ e5 hv) .nil)
    | false =>
      show Gx K p H2 H3 ∧ _
      rw [ixs_no hf]
      exact ⟨G3, ys, hD3, m3⟩
end
section
variable {P : Program} {w : World} {K : PySem.W.Frag} {mg : Str → Option Value} {base : Heap}
theorem pt_ne {p a : Addr} {H : Hp} (h : Pt p H) (hn : H a = none) : a ≠ p := fun z => by
  obtain ⟨_, _, h2, _⟩ := h
  rw [← z, hn] at h2
  cases h2
def spPickL (K : PySem.W.Frag) : Sp := fun vs H Q _ => ∃ (p a : Addr) (xs : List V), vs = [.ref p, .ref a] ∧ Pt p H ∧ H a = some (.lst xs) ∧ a ≠ p ∧ (1 ≤ xs.length ∧ xs.length ≤ 100000) ∧ ∀ x H', x ∈ xs → Gx K p H H' → Q x H'
def spPickS (K : PySem.W.Frag) : Sp := fun vs H Q _ => ∃ (p : Addr) (z : Str), vs = [.ref p, .str z] ∧ Pt p H ∧ (1 ≤ z.length ∧ z.length ≤ 1000) ∧ ∀ c H', c ∈ z.cps.toList → Gx K p H H' → Q (.str ⟨#[c]⟩) H'
theorem kp_pickL (B : Bt mg) (D : Df K mg "_law_pick" s_law_pick) (k1 : Kp P w K mg base 1 "_law_draw" ["_law_pot_here", "_law_many"] (spDraw K)) : Kp P w K mg base 2 "_law_pick" ["_law_pot_here", "_law_some_here"] (spPickL K) := by
  refine kp_of D sc_law_pick (fun _ _ _ _ _ _ us hl => match us, hl with | [_, _], _ => rfl) (fun vs H Q E h => ?_) (fun cdv A outer s H vs Q E hr h => ?_)
  · obtain ⟨p, a, xs, rfl, _⟩ := h
    rfl
  · obtain ⟨p, a, xs, rfl, hp, ha, hap, hx, q⟩ := h
    refine ⟨_, pss_one (ps_ret (pe_ix ix_list (pv 1) (pe_k k1 hr (pa_cons (pv 0) (pa_cons (pe_callB cr_lenS (by rfl) B.len boot_len (pa_cons (pv 1) pa_nil)) pa_nil))) (by intro _ _; rfl))), ?_⟩
    refine ⟨.ref a, rfl, ?_⟩
    refine (ea_cons (ev_var rfl) (ea_cons (ev_cb (ea_cons (ev_var rfl) ea_nil) (rc_lenL (sq_of ha))) ea_nil)) H (Ex.refl _) _ fun H1 e1 => ⟨p, xs.length, rfl, (Gx.of (K := K) e1).2.2 hp, hx, fun d H' hd g => ?_⟩
    have g2 := (Gx.of (K := K) (p := p) e1).trans g
    exact ⟨a, xs, (d : Int), xs[d], rfl, rfl, sq_of (g2.1 _ _ hap ha fun _ z => by cases z), atI_nat (List.getElem?_eq_getElem hd), q _ H' (List.getElem_mem hd) g2⟩
theorem kp_pickS (B : Bt mg) (D : Df K mg "_law_pick" s_law_pick) (k1 : Kp P w K mg base 1 "_law_draw" ["_law_pot_here", "_law_many"] (spDraw K)) : Kp P w K mg base 2 "_law_pick" ["_law_pot_here", "_law_some_here"] (spPickS K) := by
  refine kp_of D sc_law_pick (fun _ _ _ _ _ _ us hl => match us, hl with | [_, _], _ => rfl) (fun vs H Q E h => ?_) (fun cdv A outer s H vs Q E hr h => ?_)
  · obtain ⟨p, z, rfl, _⟩ := h
    rfl
  · obtain ⟨p, z, rfl, hp, hz, q⟩ := h
    refine ⟨_, pss_one (ps_ret (pe_ix ix_str (pv 1) (pe_k k1 hr (pa_cons (pv 0) (pa_cons (pe_callB cr_lenT (by rfl) B.len boot_len (pa_cons (pv 1) pa_nil)) pa_nil))) (by intro _ _; rfl))), ?_⟩
    refine ⟨.str z, rfl, ?_⟩
    refine (ea_cons (ev_var rfl) (ea_cons (ev_cb (ea_cons (ev_var rfl) ea_nil) (rc_lenT (by omega))) ea_nil)) H (Ex.refl _) _ fun H1 e1 => ⟨p, z.length, rfl, (Gx.of (K := K) e1).2.2 hp, ⟨hz.1, by omega⟩, fun d H' hd g => ?_⟩
    have g2 := (Gx.of (K := K) (p := p) e1).trans g
    have hd2 : d < z.cps.toList.length := by rw [Array.length_toList]; exact hd
    exact ⟨z, (d : Int), z.cps.toList[d], rfl, rfl, sz_of (by omega), atI_nat (List.getElem?_eq_getElem hd2), q _ H' (List.getElem_mem hd2) g2⟩
end
end Cw
set_option Elab.async false
set_option linter.all false
set_option maxRecDepth 100000
set_option maxHeartbeats 4000000
namespace Cw
open PySem PySem.Spec PyProof.Rows L2 Evl
/-! ### bits, goals, sizes drawn -/
def sgn (c : Nat) : Str := ⟨#[c]⟩
theorem signs_of {R : Nat → Prop} {is : List Nat} {ys : List V} (h : Paired (fun (_ : Nat) y => ∃ c, R c ∧ y = .str (sgn c)) is ys) : ∃ cs : List Nat, ys = cs.map (fun c => .str (sgn c)) ∧ cs.length = is.length ∧ ∀ c ∈ cs, R c := by
  induction h with
  | nil => exact ⟨[], rfl, rfl, fun _ h => by cases h⟩
  | cons a _ ih =>
    obtain ⟨c, h1, rfl⟩ := a
    obtain ⟨cs, rfl, h2, h3⟩ := ih
    exact ⟨c :: cs, rfl, by simp [h2], fun d hd => (List.mem_cons.mp hd).elim (fun e => e ▸ h1) (h3 d)⟩
theorem sum_sgn (cs : List Nat) : ((cs.map sgn).map (·.length)).sum = cs.length := by
  induction cs with
  | nil => rfl
  | cons c cs ih =>
    rw [List.map_cons, List.map_cons, List.sum_cons, ih, List.length_cons]
    show 1 + cs.length = _
    omega
theorem bits_of {cs : List Nat} (h : ∀ c ∈ cs, c = 48 ∨ c = 49) : ∃ l : List Bool, cs = l.map cb := by
  induction cs with
  | nil => exact ⟨[], rfl⟩
  | cons c cs ih =>
    obtain ⟨l, rfl⟩ := ih fun d hd => h d (List.mem_cons_of_mem _ hd)
    rcases h c List.mem_cons_self with rfl | rfl
    · exact ⟨false :: l, rfl⟩
    · exact ⟨true :: l, rfl⟩
section
variable {K : PySem.W.Frag} {p D : Addr} {H H1 H2 H' : Hp} {σ : L2.St} {ta : TA} {te tl : TE} {g : TG} {tt : TT} {vs : List Nat} {Q : VK} {wi : TI}
/-- a drawn text -/
theorem join_draw {n : Nat} {R : Nat → Prop} {Y : Nat → V → Hp → Prop} (hp : Pt p H) (hi : EvJ K p wi σ H n Y) (hn : n ≤ 1000)
    (ht : ∀ i x H1, i < n → Gx K p H H1 → Y i x H1 → ∃ σ2, wipe σ2 vs = wipe σ vs ∧ EvG g x (wipe σ vs) H1 σ2 ∧ (∀ H2, Ex H1 H2 → ∀ Q : VK, (∀ c H3, Gx K p H2 H3 → R c → Q (.str (sgn c)) H3) → te σ2 H2 Q))
    (k : ∀ (cs : List Nat) H', cs.length = n → (∀ c ∈ cs, R c) → Gx K p H H' → Q (.str ⟨cs.toArray⟩) H') : tM1 (rJoin K) (tC (.str "")) (tLc wi g tYes te vs) σ H Q := by
  refine ⟨⟨_, rfl⟩, ?_⟩
  refine lc_gx (f := fun _ => true) (E := fun _ y _ => ∃ c, R c ∧ y = .str (sgn c)) hp hi (by omega) (fun _ _ _ _ _ h => h) (fun i x H1 h1 h2 h3 => ?_) fun D H' hD gD ⟨ys, y1, y2⟩ => ?_
  · obtain ⟨σ2, s1, s2, s3⟩ := ht i x H1 h1 h2 h3
    exact ⟨σ2, s1, s2, et_yes, fun _ H2 e2 Q q => s3 H2 e2 Q fun c H3 g3 hc => q _ H3 g3 ⟨c, hc, rfl⟩⟩
  · obtain ⟨cs, rfl, hl, hR⟩ := signs_of y2
    rw [List.filter_eq_self.mpr fun _ _ => rfl, List.length_range] at hl
    refine ⟨_, D, cs.map sgn, rfl, rfl, .inl ?_, ?_, ?_⟩
    · rw [List.map_map]
      exact sq_of y1
    · rw [sum_sgn, List.length_map]
      have : (Str.ofString "").length = 0 := by decide +kernel
      rw [this]
      omega
    · show Q (.str (Txt.join (Str.ofString "") (cs.map fun c => (⟨#[c]⟩ : Str)))) H'
      rw [join_signs]
      exact k cs H' hl hR gD
end
section
variable {P : Program} {w : World} {K : PySem.W.Frag} {mg : Str → Option Value} {base : Heap}
def spBits (K : PySem.W.Frag) : Sp := fun vs H Q _ => ∃ (p : Addr) (n : Nat), vs = [.ref p, .int (n : Int)] ∧ Pt p H ∧ n ≤ 100 ∧ ∀ (l : List Bool) H', l.length = n → Gx K p H H' → Q (.str (bS l)) H'
theorem kp_bits (D : Df K mg "_law_bits" s_law_bits) (k1 : Kp P w K mg base 2 "_law_pick" ["_law_pot_here", "_law_some_here"] (spPickS K)) (B : Bt mg) : Kp P w K mg base 3 "_law_bits" ["_law_pot_here", "_law_size_here"] (spBits K) := by
  refine kp_of D sc_law_bits (fun _ _ _ _ _ _ us hl => match us, hl with | [_, _], _ => rfl) (fun vs H Q E h => ?_) (fun cdv A outer s H vs Q E hr h => ?_)
  · obtain ⟨p, n, rfl, _⟩ := h
    rfl
  · obtain ⟨p, n, rfl, hp, hn, q⟩ := h
    refine ⟨_, pss_one (ps_ret (pe_m1 F.slot_str_join F.type_str_join mt_joinS pe_str
      (pe_lc (own := [("_law_turn", 2)]) (g := gName 2) (by rfl) sc_law_bits.nd (pi_range1 (by rfl) B.range (pa_cons (pv 1) pa_nil)) (blkOk_by (N := ["_law_pot_here", "_law_size_here", "_law_turn"]) (sc := defScope s_law_bits) (by decide +kernel))
        (fun _ _ _ _ _ => pg_name (i := 2) sc_law_bits.nd rfl (Or.inl rfl)) (fun _ _ _ _ _ => pts_nil) (fun _ _ _ _ _ => pe_k k1 hr (pa_cons (pv 0) (pa_cons pe_str pa_nil)))))), ?_⟩
    refine join_draw (K := K) (p := p) (n := n) (R := fun c => c = 48 ∨ c = 49) hp (ej_range (ea_cons (ev_var rfl) ea_nil) (by omega)) (by omega) (fun i x H1 hi g1 hx => ?_) fun cs H' hl hc g => ?_
    · refine ⟨_, ?_, eg_name, fun H2 e2 Q q => ?_⟩
      · rfl
      refine (ea_cons (ev_var rfl) (ea_cons ev_c ea_nil)) H2 (Ex.refl _) _ fun H3 e3 => ⟨p, _, rfl, (g1.trans (Gx.of (e2.trans e3))).2.2 hp, by decide +kernel, fun c H4 hc g4 => q c H4 ((Gx.of e3).trans g4) ?_⟩
      have : (Str.ofString "01").cps.toList = [48, 49] := by decide +kernel
      rw [this] at hc
      simpa using hc
    · obtain ⟨l, rfl⟩ := bits_of hc
      exact q l H' (by simpa using hl) g
end
end Cw
set_option Elab.async false
set_option linter.all false
set_option maxRecDepth 100000
set_option maxHeartbeats 4000000
namespace Cw
open PySem PySem.Spec PyProof.Rows L2 Evl
section
variable {K : PySem.W.Frag} {p D : Addr} {H H1 H2 H' : Hp} {σ : L2.St} {ta : TA} {te tl tb : TE} {g : TG} {tt : TT} {vs : List Nat} {Q : VK} {wi : TI} {Ds : Ends} {tz : TS}
theorem join_rngG {m : Nat} {R : Nat → Prop} {P : Nat → Prop} (hP : ∀ n, P n → n ≤ 1000) (hp : Pt p H) (h : ∀ Q : List V → Hp → Prop, (∀ (n : Nat) H2, P n → Gx K p H H2 → Q [.int (n : Int)] H2) → ta σ H Q)
    (ht : ∀ (i : Nat) H1, Gx K p H H1 → ∃ σ2, wipe σ2 vs = wipe σ vs ∧ EvG g (.int (i : Int)) (wipe σ vs) H1 σ2 ∧ (∀ H2, Ex H1 H2 → ∀ Q : VK, (∀ c H3, Gx K p H2 H3 → R c → Q (.str (sgn c)) H3) → te σ2 H2 Q))
    (k : ∀ (cs : List Nat) H', P cs.length → (∀ c ∈ cs, R c) → Gx K p H H' → Q (.str ⟨cs.toArray⟩) H') : tM1 (rJoin K) (tC (.str "")) (tLc (iRng1 ta) g tYes te vs) σ H Q := by
  refine ⟨⟨_, rfl⟩, ?_⟩
  refine lc_rngG (p := p) h fun n H2 hn g2 => ?_
  have := join_draw (K := K) (p := p) (n := n) (R := R) (σ := σ) (Q := Q) (te := te) (g := g) (vs := vs) (wi := iRng1 (tCons (tC (.int (n : Int))) tNil)) (g2.2.2 hp) (ej_range (ea_cons ev_c ea_nil) (by have := hP n hn; omega)) (hP n hn) (fun i x H1 hi g1 hx => by
    subst hx
    exact ht i H1 (g2.trans g1)) fun cs H' hl hc g => k cs H' (hl ▸ hn) hc (g2.trans g)
  exact this.2
theorem q_asgG {i : Nat} {P : V → Hp → Prop} (h : ∀ Q : VK, (∀ v H2, Gx K p H H2 → P v H2 → Q v H2) → te σ H Q) (k : ∀ v H1, Gx K p H H1 → P v H1 → tz Ds (σ.set i (some v)) H1) : tSeq (tAsg te (gName i)) tz Ds σ H := h _ fun v H1 e hv => k v H1 e hv
theorem gx_en {N : Addr → Hp → Prop} (h : EvN te σ H N) : ∀ Q : VK, (∀ v H2, Gx K p H H2 → (∃ q, v = .ref q ∧ H q = none ∧ N q H2) → Q v H2) → te σ H Q := fun Q q => h H (Ex.refl _) _ fun r H2 hr e hN => q _ H2 (Gx.of e) ⟨r, rfl, hr, hN⟩
end
theorem rows_letters {cs : List Nat} (h : ∀ c ∈ cs, 97 ≤ c ∧ c ≤ 122) (hl : 1 ≤ cs.length ∧ cs.length ≤ 6) : Letters ⟨cs.toArray⟩ := by
  refine ⟨fun c hc => h c (by simpa using hc), ?_⟩
  show 1 ≤ cs.toArray.size ∧ cs.toArray.size ≤ 6
  simpa using hl
theorem good_a : GoalOk "a" := by
  refine ⟨⟨?_, ?_⟩, ?_, ?_, ?_⟩ <;> decide +kernel
theorem good_b : GoalOk "b" := by
  refine ⟨⟨?_, ?_⟩, ?_, ?_, ?_⟩ <;> decide +kernel
theorem good_hole : GoalOk "hole" := by
  refine ⟨⟨?_, ?_⟩, ?_, ?_, ?_⟩ <;> decide +kernel
theorem good_home : GoalOk "home" := by
  refine ⟨⟨?_, ?_⟩, ?_, ?_, ?_⟩ <;> decide +kernel
theorem letters_in : ∀ c ∈ (Str.ofString "abcdefghijklmnopqrstuvwxyz").cps.toList, 97 ≤ c ∧ c ≤ 122 := by decide +kernel
section
variable {P : Program} {w : World} {K : PySem.W.Frag} {mg : Str → Option Value} {base : Heap}
def spSize (K : PySem.W.Frag) : Sp := fun vs H Q _ => ∃ (p : Addr), vs = [.ref p] ∧ Pt p H ∧ ∀ (n : Nat) H', (1 ≤ n ∧ n ≤ 100) → Gx K p H H' → Q (.int (n : Int)) H'
theorem kp_size (D : Df K mg "_law_size" s_law_size) (k1 : Kp P w K mg base 2 "_law_pick" ["_law_pot_here", "_law_some_here"] (spPickL K)) (k0 : Kp P w K mg base 2 "_law_draw" ["_law_pot_here", "_law_many"] (spDraw K)) : Kp P w K mg base 3 "_law_size" ["_law_pot_here"] (spSize K) := by
  refine kp_of D sc_law_size (fun _ _ _ _ _ _ us hl => match us, hl with | [_], _ => rfl) (fun vs H Q E h => ?_) (fun cdv A outer s H vs Q E hr h => ?_)
  · obtain ⟨p, rfl, _⟩ := h
    rfl
  · obtain ⟨p, rfl, hp, q⟩ := h
    refine ⟨_, pss_one (ps_ret (pe_k k1 hr (pa_cons (pv 0) (pa_cons (pe_lst (pa_cons pe_int (pa_cons pe_int (pa_cons pe_int (pa_cons pe_int (pa_cons pe_int (pa_cons pe_int (pa_cons pe_int (pa_cons pe_int (pa_cons (pe_op op_add pe_int (pe_k k0 hr (pa_cons (pv 0) (pa_cons pe_int pa_nil)))) pa_nil)))))))))) pa_nil)))), ?_⟩
    refine ⟨_, rfl, _, rfl, p, 100, rfl, hp, by decide, fun d H1 hd g1 => ⟨1, (d : Int), rfl, rfl, sz_of (by show 9 ≤ 100000; decide), fun a ha => ?_⟩⟩
    have g2 := g1.trans (Gx.of (Ex.new ha (o := .lst [.int 1, .int 2, .int 7, .int 31, .int 64, .int 99, .int 100, .int 100, .int (1 + (d : Int))])))
    refine ⟨p, a, _, rfl, g2.2.2 hp, upd_same, pt_ne (g1.2.2 hp) ha, by show 1 ≤ 9 ∧ 9 ≤ 100000; decide, fun x H' hx g' => ?_⟩
    have : ∃ n : Nat, x = .int (n : Int) ∧ 1 ≤ n ∧ n ≤ 100 := by
      simp only [List.mem_cons, List.not_mem_nil, or_false] at hx
      rcases hx with rfl | rfl | rfl | rfl | rfl | rfl | rfl | rfl | rfl
      · exact ⟨1, rfl, by decide⟩
      · exact ⟨2, rfl, by decide⟩
      · exact ⟨7, rfl, by decide⟩
      · exact ⟨31, rfl, by decide⟩
      · exact ⟨64, rfl, by decide⟩
      · exact ⟨99, rfl, by decide⟩
      · exact ⟨100, rfl, by decide⟩
      · exact ⟨100, rfl, by decide⟩
      · exact ⟨1 + d, by rw [Int.natCast_add] <;> rfl, by omega⟩
    obtain ⟨n, rfl, hn⟩ := this
    exact q n H' hn (g2.trans g')
def spGoals (K : PySem.W.Frag) : Sp := fun vs H Q _ => ∃ (p : Addr), vs = [.ref p] ∧ Pt p H ∧ ∀ (gs : List Str) D H', D ≠ p → H' D = some (.lst (gs.map V.str)) → (∀ g ∈ gs, GoalOk g) → (1 ≤ gs.length ∧ gs.length ≤ 5) → Gx K p H H' → Q (.ref D) H'
theorem kp_goals (B : Bt mg) (D : Df K mg "_law_goals" s_law_goals) (k1 : Kp P w K mg base 2 "_law_pick" ["_law_pot_here", "_law_some_here"] (spPickS K)) (k0 : Kp P w K mg base 2 "_law_draw" ["_law_pot_here", "_law_many"] (spDraw K)) : Kp P w K mg base 3 "_law_goals" ["_law_pot_here"] (spGoals K) := by
  refine kp_of D sc_law_goals (fun _ _ _ _ _ _ us hl => match us, hl with | [_], _ => rfl) (fun vs H Q E h => ?_) (fun cdv A outer s H vs Q E hr h => ?_)
  · obtain ⟨p, rfl, _⟩ := h
    rfl
  · obtain ⟨p, rfl, hp, q⟩ := h
    refine ⟨_, pss_cons (ps_set (i := 1) sc_law_goals.nd rfl (.inr rfl) pe_str)
      (pss_cons (ps_set (i := 2) sc_law_goals.nd rfl (.inr rfl) (pe_m1 F.slot_str_join F.type_str_join mt_joinS pe_str
        (pe_lc (own := [("_law_turn", 3)]) (g := gName 3) (by rfl) sc_law_goals.nd (pi_range1 (by rfl) B.range (pa_cons (pe_op op_add pe_int (pe_k k0 hr (pa_cons (pv 0) (pa_cons pe_int pa_nil)))) pa_nil)) (blkOk_by (N := ["_law_pot_here", "_law_letters", "_law_label", "_law_turn"]) (sc := defScope s_law_goals) (by decide +kernel))
          (fun _ _ _ _ _ => pg_name (i := 3) sc_law_goals.nd rfl (Or.inl rfl)) (fun _ _ _ _ _ => pts_nil) (fun _ _ _ _ _ => pe_k k1 hr (pa_cons (pv 0) (pa_cons (pv 1) pa_nil))))))
      (pss_one (ps_ret (pe_op op_cat (pe_lst (pa_cons pe_str (pa_cons pe_str (pa_cons pe_str (pa_cons pe_str pa_nil)))))
        (pe_lc (own := [("_law_turn", 3)]) (g := gName 3) (by rfl) sc_law_goals.nd (pi_range1 (by rfl) B.range (pa_cons pe_int pa_nil)) (blkOk_by (N := ["_law_pot_here", "_law_letters", "_law_label", "_law_turn"]) (sc := defScope s_law_goals) (by decide +kernel))
          (fun _ _ _ _ _ => pg_name (i := 3) sc_law_goals.nd rfl (Or.inl rfl)) (fun _ _ _ _ _ => pts_one (pt_cmpR (op_niK (K := K) rfl) (pv 2) (pe_tup (pa_cons pe_str (pa_cons pe_str (pa_cons pe_str pa_nil)))) (by rfl))) (fun _ _ _ _ _ => pv 2)))))), ?_⟩
    refine q_asg ev_c fun H1 e1 => ?_
    have hp1 : Pt p H1 := (Gx.of (K := K) e1).2.2 hp
    refine q_asgG (K := K) (p := p) (P := fun v _ => ∃ z, v = .str z ∧ Letters z) (fun Q1 q1 => join_rngG (K := K) (p := p) (m := 0) (R := fun c => 97 ≤ c ∧ c ≤ 122) (P := fun n => 1 ≤ n ∧ n ≤ 6) (fun n h => by omega) hp1 (fun Q2 q2 => ?_) (fun i H2 g2 => ⟨_, ?_, eg_name, fun H3 e3 Q3 q3 => ?_⟩) fun cs H2 hl hc g2 => q1 _ H2 g2 ⟨_, rfl, rows_letters hc hl⟩) fun v H2 g2 ⟨z, ez, hz⟩ => ?_
    · refine ⟨_, rfl, p, 6, rfl, hp1, by decide, fun d H2 hd g2 => ⟨1, (d : Int), rfl, rfl, ?_⟩⟩
      have := q2 (1 + d) H2 (by omega) g2
      rw [Int.natCast_add] at this
      exact this
    · rfl
    · refine (ea_cons (ev_var rfl) (ea_cons (ev_var rfl) ea_nil)) H3 (Ex.refl _) _ fun H4 e4 => ⟨p, _, rfl, (g2.trans (Gx.of (e3.trans e4))).2.2 hp1, by decide +kernel, fun c H5 hc g5 => q3 c H5 ((Gx.of e4).trans g5) (letters_in c hc)⟩
    subst ez
    let b : Bool := !inV (.str z) [.str "ring", .str "all", .str "none"]
    have hb : b = true → GoalOk z := fun h => by
      have h1 : inV (.str z) [.str "ring", .str "all", .str "none"] = false := by
        show inV (.str z) [.str "ring", .str "all", .str "none"] = false
        exact Bool.not_eq_true' _ ▸ h
      unfold inV at h1
      simp only [List.any_cons, List.any_nil, eqV, Bool.or_false, Bool.or_eq_false_iff, beq_eq_false_iff_ne] at h1
      exact ⟨hz, h1.1.symm, h1.2.1.symm, h1.2.2.symm⟩
    let gs2 : List Str := ((List.range 1).filter fun _ => b).map fun _ => z
    have l2 : gs2.length ≤ 1 := by
      show (((List.range 1).filter fun _ => b).map fun _ => z).length ≤ 1
      rw [List.length_map]
      exact List.length_filter_le _ _
    refine el_cat (xs := (["a", "b", "hole", "home"] : List Str).map V.str) (ys := gs2.map V.str) (el_lst (ea_cons ev_c (ea_cons ev_c (ea_cons ev_c (ea_cons ev_c ea_nil)))) (by show 4 ≤ 100000; decide)) (el_n ((en_lc (f := fun _ => b) (E := fun _ y _ => y = .str z) (ei_range (n := 1) (ea_cons ev_c ea_nil) (by decide)) (by decide) (fun _ _ _ _ _ h => h) fun i x H3 hi e3 hx => ?_).imp fun D H3 e3 ⟨ys, y1, y2⟩ => ?_)) ?_ _ (Ex.refl _) _ fun D H3 hD e3 h3 => ?_
    · refine ⟨_, ?_, eg_name, ?_, fun _ => ep_ev (ev_var rfl)⟩
      · rfl
      · exact et_test (ev_niU (K := K) (ev_var rfl) (eu_tup (ea_cons ev_c (ea_cons ev_c (ea_cons ev_c ea_nil))) (by show 3 ≤ 100000; decide)) rfl rfl)
    · rw [y1, paired_fn (v := fun _ => .str z) y2]
      show _ = some (HO.lst ((((List.range 1).filter fun _ => b).map fun _ => z).map V.str))
      rw [List.map_map] <;> rfl
    · rw [List.length_map, List.length_map]
      show 4 + gs2.length ≤ 100000
      omega
    · rw [← List.map_append] at h3
      refine q _ D H3 ?_ h3 (fun g hg => ?_) ?_ ((Gx.of e1).trans (g2.trans (Gx.of e3)))
      · exact pt_ne (((Gx.of (K := K) e1).trans g2).2.2 hp) hD
      · rcases List.mem_append.mp hg with h | h
        · simp only [List.mem_cons, List.not_mem_nil, or_false] at h
          rcases h with rfl | rfl | rfl | rfl
          · exact good_a
          · exact good_b
          · exact good_hole
          · exact good_home
        · obtain ⟨i, hi, rfl⟩ := List.mem_map.mp h
          exact hb (List.mem_filter.mp hi).2
      · rw [List.length_append]
        show 1 ≤ 4 + gs2.length ∧ 4 + gs2.length ≤ 5
        omega
end
end Cw
set_option Elab.async false
set_option linter.all false
set_option maxRecDepth 100000
set_option maxHeartbeats 4000000
namespace Cw
open PySem PySem.Spec PyProof.Rows L2 Evl
theorem erase_map {α β : Type} (f : α → β) : ∀ (L : List α) (k : Nat), (L.map f).eraseIdx k = (L.eraseIdx k).map f
  | [], _ => rfl
  | _ :: _, 0 => rfl
  | a :: L, k + 1 => by
    rw [List.map_cons, List.eraseIdx_cons_succ, List.eraseIdx_cons_succ, List.map_cons, erase_map f L k]
theorem erase_perm {α : Type} : ∀ (L : List α) (k : Nat) (h : k < L.length), (L[k] :: L.eraseIdx k).Perm L
  | [], _, h => absurd h (Nat.not_lt_zero _)
  | _ :: _, 0, _ => .refl _
  | a :: L, k + 1, h => by
    have := erase_perm L k (Nat.lt_of_succ_lt_succ h)
    rw [List.eraseIdx_cons_succ, List.getElem_cons_succ]
    exact (List.Perm.swap a _ _).trans (this.cons a)
section
variable {K : PySem.W.Frag} {p : Addr} {H H1 H2 H' : Hp} {σ : L2.St} {ta : TA} {te tl tb : TE} {g : TG} {tt : TT} {vs : List Nat} {Q : VK} {wi : TI} {Ds : Ends} {tz tu : TS}
/-- for i in range(..), any heaps -/
theorem q_rng {n j : Nat} (h : EvA ta σ H [.int (n : Int)]) (hn : n ≤ 100000) (Pv : Nat → L2.St → Hp → Prop) (h0 : ∀ H1, Ex H H1 → Pv 0 σ H1)
    (hs : ∀ i σ' H', i < n → Pv i σ' H' → tu { Ds with nx := Pv (i + 1), ct := Pv (i + 1), bk := tz Ds } (σ'.set j (some (.int (i : Int)))) H') (hd : ∀ σ' H', Pv n σ' H' → tz Ds σ' H') : tSeq (tFor (iRng1 ta) (gName j) tu) tz Ds σ H :=
  h H (Ex.refl _) _ fun H1 e1 => ⟨(n : Int), rfl, by omega, by omega, for_it (D := { Ds with nx := tz Ds }) ((walk_range (lo := 0) (n := n)).mono (G' := fun _ => True) (fun _ g => g) fun i Ha x Hb _ _ y => y) Pv (h0 H1 e1) (fun _ _ _ _ _ => trivial) (fun i x σ' Ha Hb hi p y => by
    obtain ⟨rfl, rfl⟩ := y
    have := hs i σ' Hb hi p
    show gName j (.int (0 + (i : Int))) σ' Hb _
    rw [Int.zero_add]
    exact this) hd⟩
theorem ta_one {Qa : List V → Hp → Prop} (h : te σ H (fun x H1 => Qa [x] H1)) : tCons te tNil σ H Qa := h
theorem call_of {sp : Sp} {E : XK} {us : List V} (h : EvA ta σ H us) (k : ∀ H1, Ex H H1 → sp us H1 Q E) : tCall sp [] E ta σ H Q := h H (Ex.refl _) _ fun H1 e1 => by
  rw [List.append_nil]
  exact k H1 e1
end
section
variable {P : Program} {w : World} {K : PySem.W.Frag} {mg : Str → Option Value} {base : Heap}
def spSome (K : PySem.W.Frag) : Sp := fun vs H Q _ => ∃ (p a : Addr) (ls : List (List Bool)) (m : Nat), vs = [.ref p, .ref a, .int (m : Int)] ∧ Pt p H ∧ H a = some (.lst (ls.map txt)) ∧ ls.length ≤ 1000 ∧ m ≤ 1000 ∧
  ∀ (fs rest : List (List Bool)) D H', D ≠ p → H' D = some (.lst (fs.map txt)) → (fs ++ rest).Perm ls → fs.length ≤ m → Gx K p H H' → Q (.ref D) H'
theorem kp_some (B : Bt mg) (D : Df K mg "_law_some" s_law_some) (k0 : Kp P w K mg base 1 "_law_draw" ["_law_pot_here", "_law_many"] (spDraw K)) : Kp P w K mg base 2 "_law_some" ["_law_pot_here", "_law_parts", "_law_many"] (spSome K) := by
  refine kp_of D sc_law_some (fun _ _ _ _ _ _ us hl => match us, hl with | [_, _, _], _ => rfl) (fun vs H Q E h => ?_) (fun cdv A outer s H vs Q E hr h => ?_)
  · obtain ⟨p, a, ls, m, rfl, _⟩ := h
    rfl
  · obtain ⟨p, a, ls, m, rfl, hp, ha, hz, hm, q⟩ := h
    refine ⟨_, pss_cons (ps_par (i := 3) (j := 4) (by rfl) sc_law_some.nd rfl rfl (by decide) rfl rfl (pa_cons (pe_callTy cr_listS (by rfl) B.list boot_list (pa_cons (pv 1) pa_nil)) (pa_cons (pe_lst pa_nil) pa_nil)) (by rfl))
      (pss_cons (ps_for PassesOwn.never rfl (pi_range1 (by rfl) B.range (pa_cons (pe_callB (cr_min2 rfl) (by rfl) B.min (by decide +kernel) (pa_cons (pv 2) (pa_cons (pe_callB cr_lenS (by rfl) B.len boot_len (pa_cons (pv 3) pa_nil)) pa_nil))) pa_nil)) (pg_name (i := 5) sc_law_some.nd rfl (.inl rfl))
        (pss_one (ps_expr (pe_bm F.plainAttrs_list F.slot_list_append F.type_list_append mt_append (pv 4) (pa_cons (pe_bm F.plainAttrs_list F.slot_list_pop F.type_list_pop mt_popAt (pv 3) (pa_cons (pe_k k0 hr (pa_cons (pv 0) (pa_cons (pe_callB cr_lenS (by rfl) B.len boot_len (pa_cons (pv 3) pa_nil)) pa_nil))) pa_nil)) pa_nil)))))
      (pss_one (ps_ret (pv 4)))), ?_⟩
    refine el_listS (K := K) (ea_cons (ev_var (i := 1) rfl) ea_nil) (.inl (sq_of ha)) H (Ex.refl _) _ fun l H1 hl e1 hl1 => ?_
    refine el_lst ea_nil (by decide) H1 (Ex.refl _) _ fun d H2 hd e2 hd2 => ⟨_, _, rfl, ?_⟩
    have hdl : d ≠ l := fun z => by
      rw [z, hl1] at hd
      cases hd
    have hd0 : H d = none := fresh_back e1 hd
    have lp : l ≠ p := pt_ne hp hl
    have dp : d ≠ p := pt_ne hp hd0
    refine q_rng (n := min m ls.length) (j := 5) (ea_cons (ev_is (ev_cb (ea_cons (ev_var rfl) (ea_cons (ev_cb (ea_cons (ev_var rfl) ea_nil) (rc_lenL (sq_of (e2 _ _ hl1)))) ea_nil)) rc_min2) ?_) ea_nil) (by omega) (fun i σ H' => ∃ v5 L F, σ = [some (.ref p), some (.ref a), some (.int (m : Int)), some (.ref l), some (.ref d), v5] ∧ Gx K p H H' ∧ H' l = some (.lst (L.map txt)) ∧ H' d = some (.lst (F.map txt)) ∧ (F ++ L).Perm ls ∧ F.length = i)
      (fun H3 e3 => ⟨none, ls, [], rfl, Gx.of (e1.trans (e2.trans e3)), e3 _ _ (e2 _ _ hl1), e3 _ _ hd2, .refl _, rfl⟩) (fun i σ H' hi ⟨v5, L, F, hσ, g, x1, x2, x3, x4⟩ => ?_) (fun σ H' ⟨v5, L, F, hσ, g, x1, x2, x3, x4⟩ => ?_)
    · rw [List.length_map]
      by_cases h : (ls.length : Int) < m
      · rw [if_pos h, Nat.min_eq_right (by omega)]
      · rw [if_neg h, Nat.min_eq_left (by omega)]
    · subst hσ
      have hlen := x3.length_eq
      rw [List.length_append] at hlen
      have hL : 1 ≤ L.length := by omega
      refine ⟨.ref d, rfl, .inl ⟨rfl, _, sq_of x2⟩, ?_⟩
      refine ⟨.ref l, rfl, .inl ⟨rfl, _, sq_of x1⟩, ?_⟩
      refine ta_one (call_of (ea_cons (ev_var rfl) (ea_cons (ev_cb (ea_cons (ev_var rfl) ea_nil) (rc_lenL (sq_of x1))) ea_nil)) fun H3 e3 => ⟨p, (L.map txt).length, rfl, (g.trans (Gx.of e3)).2.2 hp, by rw [List.length_map]; omega, fun k H4 hk g4 => ?_⟩)
      rw [List.length_map] at hk
      have G4 := g.trans ((Gx.of e3).trans g4)
      have y1 : H4 l = some (.lst (L.map txt)) := g4.1 _ _ lp (e3 _ _ x1) fun _ z => by cases z
      have y2 : H4 d = some (.lst (F.map txt)) := g4.1 _ _ dp (e3 _ _ x2) fun _ z => by cases z
      refine ⟨l, L.map txt, (k : Int), k, txt L[k], rfl, rfl, y1, by omega, by omega, ?_, by rw [List.getElem?_map, List.getElem?_eq_getElem hk] <;> rfl, ?_⟩
      · unfold seqIndex?
        rw [List.length_map]
        have h0 : ¬ ((k : Int) < 0) := by omega
        simp [h0, hk]
      have G5 := G4.mut (o := .lst ((L.map txt).eraseIdx k)) hl y1 hp
      have y3 : (upd H4 l (.lst ((L.map txt).eraseIdx k))) d = some (.lst (F.map txt)) := (upd_ne hdl).trans y2
      refine ⟨d, F.map txt, txt L[k], rfl, rfl, y3, ?_, ?_⟩
      · rw [List.length_map]
        exact sz_lt (by omega)
      · refine ⟨_, L.eraseIdx k, F ++ [L[k]], rfl, G5.mut hd0 y3 hp, ?_, ?_, ?_, by simp [x4]⟩
        · refine (upd_ne (Ne.symm hdl)).trans (upd_same.trans ?_)
          rw [erase_map]
        · rw [upd_same, List.map_append] <;> rfl
        · rw [List.append_assoc]
          exact ((erase_perm L k hk).append_left F).trans x3
    · subst hσ
      refine ⟨.ref d, rfl, q F L d H' dp x2 x3 (by omega) g⟩
end
end Cw
set_option Elab.async false
set_option linter.all false
set_option maxRecDepth 100000
set_option maxHeartbeats 4000000
namespace Cw
open PySem PySem.Spec PyProof.Rows L2 Evl
section
variable {K : PySem.W.Frag} {p : Addr} {H H1 H2 H' : Hp} {σ : L2.St} {ta : TA} {te tl tb : TE} {g : TG} {tt : TT} {vs : List Nat} {Q : VK} {wi : TI} {Ds : Ends} {tz tu : TS}
theorem ta_two {Qa : List V → Hp → Prop} (h : te σ H (fun x H1 => tb σ H1 (fun y H2 => Qa [x, y] H2))) : tCons te (tCons tb tNil) σ H Qa := h
theorem call_g {sp : Sp} {E : XK} (h : ta σ H (fun us H1 => sp (us ++ []) H1 Q E)) : tCall sp [] E ta σ H Q := h
theorem q_parG {i j : Nat} (h : ta σ H (fun vs H1 => ∃ v w, vs = [v, w] ∧ tz Ds ((σ.set i (some v)).set j (some w)) H1)) : tSeq (tPar i j ta) tz Ds σ H := h
theorem q_ifK {b : Bool} {Iv : L2.St → Hp → Prop} (h : EvT tt σ H b) (h1 : ∀ D' : Ends, (∀ σ' H', Iv σ' H' → D'.nx σ' H') → b = true → ∀ H1, Ex H H1 → tu D' σ H1) (h2 : b = false → ∀ H1, Ex H H1 → Iv σ H1) (k : ∀ σ' H', Iv σ' H' → tz Ds σ' H') : tSeq (tIfS tt tu tNext) tz Ds σ H :=
  q_when h (fun hb H1 e1 => h1 { Ds with nx := tz Ds } k hb H1 e1) fun hb H1 e1 => k _ _ (h2 hb H1 e1)
end
theorem int_bit (b : Bool) : PySem.intText? (bS [b]) = some (if b then 1 else 0) := by cases b <;> decide +kernel
theorem str_bit (b : Bool) : (toString (1 - (if b then 1 else 0) : Int) : Str) = bS [!b] := by cases b <;> decide +kernel
section
variable {P : Program} {w : World} {K : PySem.W.Frag} {mg : Str → Option Value} {base : Heap}
def spGrown (K : PySem.W.Frag) : Sp := fun vs H Q _ => ∃ (p : Addr) (n m : Nat), vs = [.ref p, .int (n : Int), .int (m : Int)] ∧ Pt p H ∧ n ≤ 100 ∧ m ≤ 1000 ∧
  ∀ (ls : List (List Bool)) D H', D ≠ p → H' D = some (.lst (ls.map txt)) → ls.Nodup → (∀ l ∈ ls, l.length ≤ n) → (1 ≤ ls.length ∧ ls.length ≤ m + 1) → Gx K p H H' → Q (.ref D) H'
set_option maxHeartbeats 8000000 in
theorem kp_grown (B : Bt mg) (D : Df K mg "_law_grown" s_law_grown) (k0 : Kp P w K mg base 3 "_law_draw" ["_law_pot_here", "_law_many"] (spDraw K)) (k1 : Kp P w K mg base 3 "_law_pick" ["_law_pot_here", "_law_some_here"] (spPickL K)) (k2 : Kp P w K mg base 3 "_law_bits" ["_law_pot_here", "_law_size_here"] (spBits K)) :
    Kp P w K mg base 4 "_law_grown" ["_law_pot_here", "_law_size_here", "_law_many"] (spGrown K) := by
  refine kp_of D sc_law_grown (fun _ _ _ _ _ _ us hl => match us, hl with | [_, _, _], _ => rfl) (fun vs H Q E h => ?_) (fun cdv A outer s H vs Q E hr h => ?_)
  · obtain ⟨p, n, m, rfl, _⟩ := h
    rfl
  · obtain ⟨p, n, m, rfl, hp, hn, hm, q⟩ := h
    refine ⟨_, pss_cons (ps_set (i := 3) sc_law_grown.nd rfl (.inl rfl) (pe_lst (pa_cons pe_str pa_nil)))
      (pss_cons (ps_for PassesOwn.never rfl (pi_range1 (by rfl) B.range (pa_cons (pv 2) pa_nil)) (pg_name (i := 4) sc_law_grown.nd rfl (.inl rfl))
        (pss_cons (ps_par (i := 5) (j := 6) (by rfl) sc_law_grown.nd rfl rfl (by decide) rfl rfl (pa_cons (pe_k k1 hr (pa_cons (pv 0) (pa_cons (pv 3) pa_nil))) (pa_cons (pe_k k0 hr (pa_cons (pv 0) (pa_cons pe_int pa_nil))) pa_nil)) (by rfl))
        (pss_cons (ps_set (i := 7) sc_law_grown.nd rfl (.inl rfl) (pe_op op_catS (pv 5) (pe_k k2 hr (pa_cons (pv 0) (pa_cons (pe_k k0 hr (pa_cons (pv 0) (pa_cons (pe_op op_add (pe_op op_sub (pv 1) (pe_callB cr_lenT (by rfl) B.len boot_len (pa_cons (pv 5) pa_nil))) pe_int) pa_nil))) pa_nil)))))
        (pss_cons (ps_if (pt_cmpR op_eq (pv 6) pe_int (nomark _)) (pss_one (ps_set (i := 7) sc_law_grown.nd rfl (.inl rfl) (pe_slice sl_str (pv 5) po_none (po_some (pe_k k0 hr (pa_cons (pv 0) (pa_cons (pe_op op_add (pe_callB cr_lenT (by rfl) B.len boot_len (pa_cons (pv 5) pa_nil)) pe_int) pa_nil))))))) pss_nil)
        (pss_cons (ps_if (PW.pt (pw_and (pt_cmpR op_eq (pv 6) pe_int (nomark _)) (pw_and1 (pt_cmpR op_ne (pv 5) pe_str (nomark _))))) (pss_one (ps_set (i := 7) sc_law_grown.nd rfl (.inl rfl) (pe_op op_catS (pe_slice sl_str (pv 5) po_none (po_some (pe_un un_neg pe_int))) (pe_callTy cr_strI (by rfl) B.str (by decide +kernel) (pa_cons (pe_op op_sub pe_int (pe_callTy cr_intS (by rfl) B.int (by decide +kernel) (pa_cons (pe_ix ix_str (pv 5) (pe_un un_neg pe_int) (by intro _ _; rfl)) pa_nil))) pa_nil))))) pss_nil)
        (pss_cons (ps_if (pt_cmpR op_eq (pv 6) pe_int (nomark _)) (pss_one (ps_set (i := 7) sc_law_grown.nd rfl (.inl rfl) (pe_op op_catS (pv 5) (pe_k k2 hr (pa_cons (pv 0) (pa_cons (pe_op op_sub (pv 1) (pe_callB cr_lenT (by rfl) B.len boot_len (pa_cons (pv 5) pa_nil))) pa_nil)))))) pss_nil)
        (pss_one (ps_if (pt_cmpR (op_niK (K := K) rfl) (pv 7) (pv 3) (by rfl)) (pss_one (ps_expr (pe_bm F.plainAttrs_list F.slot_list_append F.type_list_append mt_append (pv 3) (pa_cons (pv 7) pa_nil)))) pss_nil))))))))
      (pss_one (ps_ret (pv 3)))), ?_⟩
    refine q_asgL (el_lst (ea_cons ev_c ea_nil) (by show 1 ≤ 100000; decide)) fun d H1 hd e1 hd1 => ?_
    have dp : d ≠ p := pt_ne hp hd
    refine q_rng (n := m) (j := 4) (ea_cons (ev_var rfl) ea_nil) (by omega) (fun i σ H' => ∃ v4 v5 v6 v7 L, σ = [some (.ref p), some (.int (n : Int)), some (.int (m : Int)), some (.ref d), v4, v5, v6, v7] ∧ Gx K p H H' ∧ H' d = some (.lst (L.map txt)) ∧ L.Nodup ∧ (∀ l ∈ L, l.length ≤ n) ∧ 1 ≤ L.length ∧ L.length ≤ i + 1)
      (fun H2 e2 => ⟨none, none, none, none, [[]], rfl, Gx.of (e1.trans e2), e2 _ _ (by rw [hd1, bS_nil] <;> rfl), by simp, by simp, by simp, by simp⟩) (fun i σ H' hi ⟨v4, v5, v6, v7, L, hσ, g, x1, x2, x3, x4, x5⟩ => ?_) (fun σ H' ⟨v4, v5, v6, v7, L, hσ, g, x1, x2, x3, x4, x5⟩ => ?_)
    · subst hσ
      refine q_parG (ta_two (call_of (ea_cons (ev_var rfl) (ea_cons (ev_var rfl) ea_nil)) fun H2 e2 => ⟨p, d, L.map txt, rfl, (g.trans (Gx.of e2)).2.2 hp, e2 _ _ x1, dp, by rw [List.length_map]; omega, fun x H3 hx g3 => ?_⟩))
      obtain ⟨b, hb, rfl⟩ := List.mem_map.mp hx
      have hbn := x3 b hb
      have G3 := g.trans ((Gx.of e2).trans g3)
      refine call_of (ea_cons (ev_var rfl) (ea_cons ev_c ea_nil)) fun H4 e4 => ⟨p, 5, rfl, (G3.trans (Gx.of e4)).2.2 hp, by decide, fun way H5 hway g5 => ⟨_, _, rfl, ?_⟩⟩
      have G5 := G3.trans ((Gx.of e4).trans g5)
      have blen : ∀ {σ : L2.St} {H'}, σ[5]? = some (some (txt b)) → Ev (tCB rLenT (tCons (tVar 5) tNil)) σ H' (.int (b.length : Int)) := fun {σ H'} h => ev_is (ev_cb (ea_cons (ev_var h) ea_nil) (rc_lenT (by rw [bS_len]; omega))) (by rw [bS_len])
      have x1' : H5 d = some (.lst (L.map txt)) := g5.1 _ _ dp (e4 _ _ (g3.1 _ _ dp (e2 _ _ x1) fun _ z => by cases z)) fun _ z => by cases z
      let Iv : L2.St → Hp → Prop := fun σ H' => ∃ t : List Bool, σ = [some (.ref p), some (.int (n : Int)), some (.int (m : Int)), some (.ref d), some (.int (i : Int)), some (txt b), some (.int (way : Int)), some (txt t)] ∧ t.length ≤ n ∧ Gx K p H H' ∧ H' d = some (.lst (L.map txt))
      have on : ∀ {Ha Hb : Hp}, Gx K p Ha Hb → Ha d = some (.lst (L.map txt)) → Hb d = some (.lst (L.map txt)) := fun e h => e.1 _ _ dp h fun _ z => by cases z
      /- base + bits(pot, k): what comes -/
      have grow : ∀ {σ : L2.St} {Ha : Hp} {k : Nat} {te : TE} {Q : VK}, σ[0]? = some (some (.ref p)) → σ[5]? = some (some (txt b)) → Pt p Ha → (∀ Q : VK, (∀ (k : Nat) Hb, b.length + k ≤ n → Gx K p Ha Hb → Q (.int (k : Int)) Hb) → te σ Ha Q) →
          (∀ (t : List Bool) Hb, t.length ≤ n → Gx K p Ha Hb → Q (txt t) Hb) → tOp rCatS (tVar 5) (tCall (spBits K) [] E0 (tCons (tVar 0) (tCons te tNil))) σ Ha Q := fun {σ Ha k te Q} h0 h5 hpa ht hq =>
        ⟨txt b, h5, call_g (ta_two ⟨.ref p, h0, ht _ fun k Hb hk gb => ⟨p, k, rfl, gb.2.2 hpa, by omega, fun l Hc hl gc => ⟨bS b, bS l, rfl, rfl, sz_of (by rw [bS_len, bS_len]; omega), by
          rw [bS_app]
          exact hq (b ++ l) Hc (by rw [List.length_append]; omega) (gb.trans gc)⟩⟩⟩)⟩
      show tSeq _ _ _ [some (.ref p), some (.int (n : Int)), some (.int (m : Int)), some (.ref d), some (.int (i : Int)), some (txt b), some (.int (way : Int)), v7] H5
      refine q_asgG (K := K) (p := p) (P := fun v _ => ∃ t : List Bool, v = txt t ∧ t.length ≤ n) (fun Q6 q6 => grow (k := 0) rfl rfl (G5.2.2 hp) (fun Q7 q7 => ?_) fun t Hb ht gb => q6 _ Hb gb ⟨t, rfl, ht⟩) fun v H6 g6 ⟨t, ev, ht⟩ => ?_
      · refine call_of (ea_cons (ev_var rfl) (ea_cons (ev_is (ev_op (ev_op (ev_var rfl) (blen rfl) rv_I0) ev_c rv_I0) ?_) ea_nil)) fun H6 e6 => ⟨p, n - b.length + 1, rfl, (G5.trans (Gx.of e6)).2.2 hp, by omega, fun k H7 hk g7 => q7 k H7 (by omega) ((Gx.of e6).trans g7)⟩
        exact congrArg V.int (by omega)
      subst ev
      have c1 : Iv [some (.ref p), some (.int (n : Int)), some (.int (m : Int)), some (.ref d), some (.int (i : Int)), some (txt b), some (.int (way : Int)), some (txt t)] H6 := ⟨t, rfl, ht, G5.trans g6, on g6 x1'⟩
      show tSeq _ _ _ [some (.ref p), some (.int (n : Int)), some (.int (m : Int)), some (.ref d), some (.int (i : Int)), some (txt b), some (.int (way : Int)), some (txt t)] H6
      refine q_ifK (Iv := Iv) (b := decide (V.int (way : Int) = V.int 0)) (et_test (ev_op (ev_var rfl) ev_c (rv_eq rfl))) (fun D' hD hb7 H7 e7 => ?_) (fun _ H7 e7 => ⟨t, rfl, ht, (G5.trans g6).trans (Gx.of e7), e7 _ _ (on g6 x1')⟩) fun σ H7 ⟨t7, hσ7, ht7, g7, d7⟩ => ?_
      · refine ⟨txt b, rfl, ?_⟩
        refine call_of (ea_cons (ev_var rfl) (ea_cons (ev_is (ev_op (blen rfl) ev_c rv_I0) (show _ = V.int ((b.length + 1 : Nat) : Int) from congrArg V.int (by omega))) ea_nil)) fun H8 e8 => ⟨p, b.length + 1, rfl, ((G5.trans g6).trans (Gx.of (e7.trans e8))).2.2 hp, by omega, fun k H9 hk g9 => ⟨(k : Int), rfl, bS b, rfl, sz_of (by rw [bS_len]; omega), ?_⟩⟩
        rw [bS_take]
        exact hD _ _ ⟨b.take k, rfl, by rw [List.length_take]; omega, ((G5.trans g6).trans (Gx.of (e7.trans e8))).trans g9, on ((Gx.of (e7.trans e8)).trans g9) (on g6 x1')⟩
      subst hσ7
      refine q_ifK (Iv := Iv) (et_and (a := decide (V.int (way : Int) = V.int 1)) (b := !decide (txt b = V.str "")) (et_test (ev_op (ev_var rfl) ev_c (rv_eq rfl))) fun _ => et_test (ev_op (ev_var rfl) ev_c (rv_ne rfl))) (fun D' hD hb7 H8 e8 => ?_) (fun _ H8 e8 => ⟨t7, rfl, ht7, g7.trans (Gx.of e8), e8 _ _ d7⟩) fun σ H8 ⟨t8, hσ8, ht8, g8, d8⟩ => ?_
      · have bne : b ≠ [] := fun z => by
          rw [z] at hb7
          have : (txt [] = V.str "") := by
            show V.str (bS []) = V.str ""
            rw [← bS_nil] <;> rfl
          rw [decide_eq_true this, Bool.not_true, Bool.and_false] at hb7
          cases hb7
        obtain ⟨c, hc⟩ : ∃ c, b.getLast? = some c := by
          cases h : b.getLast? with
          | none => exact absurd (List.getLast?_eq_none_iff.mp h) bne
          | some c => exact ⟨c, rfl⟩
        refine ev_op (z := txt (b.dropLast ++ [!c])) (ev_is (ev_slS (ev_var rfl) eo_none (eo_some ev_m1) (by rw [bS_len]; omega)) (by rw [bS_butlast b bne])) (ev_is (ev_cb (ea_cons (ev_op ev_c (ev_cb (ea_cons (ev_op (ev_var rfl) ev_m1 (rv_ixS (by rw [bS_len]; omega) (bS_last b c hc))) ea_nil) (rc_intS (n := if c then 1 else 0) (int_bit c) (by show 1 ≤ 640; decide))) rv_I0) ea_nil) (rc_strI (by cases c <;> decide))) (congrArg V.str (str_bit c))) (fun H9 e9 Q9 q9 => ?_) H8 (Ex.refl _) _ fun H9 e9 => ?_
        · have := rv_catS (H := H9) (a := bS b.dropLast) (b := bS [!c]) (by rw [bS_len, bS_len, List.length_dropLast]; simp; omega) H9 (Ex.refl _) Q9
          rw [bS_app] at this
          exact this q9
        · refine hD _ _ ⟨b.dropLast ++ [!c], rfl, ?_, g7.trans (Gx.of (e8.trans e9)), e9 _ _ (e8 _ _ d7)⟩
          have := List.length_pos_iff.mpr bne
          simp
          omega
      subst hσ8
      refine q_ifK (Iv := Iv) (b := decide (V.int (way : Int) = V.int 2)) (et_test (ev_op (ev_var rfl) ev_c (rv_eq rfl))) (fun D' hD hb7 H9 e9 => ?_) (fun _ H9 e9 => ⟨t8, rfl, ht8, g8.trans (Gx.of e9), e9 _ _ d8⟩) fun σ H9 ⟨t9, hσ9, ht9, g9, d9⟩ => ?_
      · refine grow (k := 0) rfl rfl ((g8.trans (Gx.of e9)).2.2 hp) (fun Q7 q7 => ?_) fun t Hb ht gb => hD _ _ ⟨t, rfl, ht, (g8.trans (Gx.of e9)).trans gb, on gb (e9 _ _ d8)⟩
        refine (ev_is (ev_op (ev_var rfl) (blen rfl) rv_I0) (show _ = V.int ((n - b.length : Nat) : Int) from congrArg V.int (by omega))) H9 (Ex.refl _) _ fun Ha ea => q7 _ Ha (by omega) (Gx.of ea)
      subst hσ9
      refine s_when (b := !decide (t9 ∈ L)) (et_is (et_test (ev_op (ev_var rfl) (ev_var rfl) (rv_niL (K := K) (sq_of d9) rfl (flat_txt L)))) (by rw [inV_txt])) (fun hb Ha ea => s_app (ea _ _ d9) (ev_var rfl) (ev_var rfl) (by rw [List.length_map]; omega) fun Hb eb => ?_) fun hb Ha ea => ⟨_, _, _, _, L, rfl, g9.trans (Gx.of ea), ea _ _ d9, x2, x3, x4, by omega⟩
      have nin : t9 ∉ L := by
        have : decide (t9 ∈ L) = false := by
          cases h : decide (t9 ∈ L) with
          | false => rfl
          | true =>
            rw [h] at hb
            cases hb
        exact of_decide_eq_false this
      refine ⟨_, _, _, _, L ++ [t9], rfl, (g9.trans (Gx.of (ea.trans eb))).mut hd (eb _ _ (ea _ _ d9)) hp, ?_, ?_, ?_, ?_, ?_⟩
      · rw [upd_same, List.map_append] <;> rfl
      · refine List.nodup_append.mpr ⟨x2, by simp, fun a ha c hc => ?_⟩
        rw [List.mem_singleton.mp hc]
        exact fun z => nin (z ▸ ha)
      · intro l hl
        rcases List.mem_append.mp hl with h | h
        · exact x3 l h
        · rw [List.mem_singleton.mp h]
          exact ht9
      · simp
      · rw [List.length_append, List.length_singleton]
        omega
    · subst hσ
      exact ⟨.ref d, rfl, q L d H' dp x1 x2 x3 ⟨x4, x5⟩ g⟩
end
end Cw
set_option Elab.async false
set_option linter.all false
set_option maxRecDepth 100000
set_option maxHeartbeats 4000000
namespace Cw
open PySem PySem.Spec PyProof.Rows L2 Evl
/-! ### pieces by halving, in plain lists -/
abbrev Piece := List Bool × Str
def aimOf (rs : List Row) (part : List Bool) (aim : Str) : Str := (look rs part).getD aim
def pcs (rs : List Row) (ins ls : List (List Bool)) : Nat → List Bool → Str → List Piece
  | 0, part, aim => if part ∈ ls then [] else [(part, aimOf rs part aim)]
  | d + 1, part, aim => if part ∈ ins ∧ part ∉ ls then pcs rs ins ls d (part ++ [false]) (aimOf rs part aim) ++ pcs rs ins ls d (part ++ [true]) (aimOf rs part aim) else if part ∈ ls then [] else [(part, aimOf rs part aim)]
def ncs (ins ls : List (List Bool)) : Nat → List Bool → Nat
  | 0, _ => 1
  | d + 1, part => if part ∈ ins ∧ part ∉ ls then 1 + ncs ins ls d (part ++ [false]) + ncs ins ls d (part ++ [true]) else 1
theorem ncs_pos (ins ls : List (List Bool)) (d : Nat) (part : List Bool) : 1 ≤ ncs ins ls d part := by
  cases d with
  | zero => exact Nat.le_refl _
  | succ d =>
    unfold ncs
    split <;> omega
theorem pcs_len (rs : List Row) (ins ls : List (List Bool)) : ∀ (d : Nat) (part : List Bool) (aim : Str), (pcs rs ins ls d part aim).length ≤ ncs ins ls d part
  | 0, part, aim => by
    unfold pcs ncs
    split <;> simp
  | d + 1, part, aim => by
    unfold pcs ncs
    split
    · rw [List.length_append]
      have h1 := pcs_len rs ins ls d (part ++ [false]) (aimOf rs part aim)
      have h2 := pcs_len rs ins ls d (part ++ [true]) (aimOf rs part aim)
      omega
    · split <;> simp
def under (part : List Bool) (ins : List (List Bool)) : Nat := ins.countP fun q => part.isPrefixOf q
theorem pre_app {a b : Bool} {part q : List Bool} (h : (part ++ [a]).isPrefixOf q = true) : part.isPrefixOf q = true ∧ part ≠ q ∧ (a ≠ b → (part ++ [b]).isPrefixOf q = false) := by
  obtain ⟨r, rfl⟩ := List.isPrefixOf_iff_prefix.mp h
  refine ⟨List.isPrefixOf_iff_prefix.mpr ⟨a :: r, by simp⟩, fun z => ?_, fun hab => ?_⟩
  · have := congrArg List.length z
    simp at this
  · cases hb : (part ++ [b]).isPrefixOf (part ++ [a] ++ r) with
    | false => rfl
    | true =>
      obtain ⟨s, hs⟩ := List.isPrefixOf_iff_prefix.mp hb
      rw [List.append_assoc, List.append_assoc] at hs
      have := List.append_cancel_left hs
      simp at this
      exact absurd this.1.symm hab
theorem under_split (part : List Bool) : ∀ (ins : List (List Bool)), under (part ++ [false]) ins + under (part ++ [true]) ins + ins.countP (fun q => q == part) ≤ under part ins
  | [] => Nat.le_refl _
  | q :: ins => by
    have ih := under_split part ins
    unfold under at *
    rw [List.countP_cons, List.countP_cons, List.countP_cons, List.countP_cons]
    have key : (if (part ++ [false]).isPrefixOf q = true then 1 else 0) + (if (part ++ [true]).isPrefixOf q = true then 1 else 0) + (if (q == part) = true then 1 else 0) ≤ (if part.isPrefixOf q = true then 1 else 0) := by
      by_cases h0 : (part ++ [false]).isPrefixOf q = true
      · obtain ⟨a1, a2, a3⟩ := pre_app (b := true) h0
        have a4 := a3 (by decide)
        have a5 : ¬ (q == part) = true := fun z => a2 (beq_iff_eq.mp z).symm
        rw [if_pos h0, if_neg (by rw [a4]; decide), if_neg a5, if_pos a1]
        omega
      · rw [if_neg h0]
        by_cases h1 : (part ++ [true]).isPrefixOf q = true
        · obtain ⟨a1, a2, _⟩ := pre_app (b := false) h1
          have a5 : ¬ (q == part) = true := fun z => a2 (beq_iff_eq.mp z).symm
          rw [if_pos h1, if_neg a5, if_pos a1]
          omega
        · rw [if_neg h1]
          by_cases h2 : (q == part) = true
          · have e := beq_iff_eq.mp h2
            have : part.isPrefixOf q = true := by
              rw [e]
              exact List.isPrefixOf_iff_prefix.mpr (List.prefix_refl _)
            rw [if_pos h2, if_pos this]
            omega
          · rw [if_neg h2]
            omega
    omega
theorem ncs_le (ins ls : List (List Bool)) : ∀ (d : Nat) (part : List Bool), ncs ins ls d part ≤ 1 + 2 * under part ins
  | 0, part => by
    unfold ncs
    omega
  | d + 1, part => by
    unfold ncs
    split
    · rename_i h
      have h1 := ncs_le ins ls d (part ++ [false])
      have h2 := ncs_le ins ls d (part ++ [true])
      have h3 := under_split part ins
      have h4 : 1 ≤ ins.countP (fun q => q == part) := List.countP_pos_iff.mpr ⟨part, h.1, beq_iff_eq.mpr rfl⟩
      omega
    · omega
theorem under_le (part : List Bool) (ins : List (List Bool)) : under part ins ≤ ins.length := List.countP_le_length
/-- all cuts that are shorter -/
def cuts (l : List Bool) : List (List Bool) := (List.range l.length).map fun i => l.take i
def addL (L : List (List Bool)) (l : List Bool) : List (List Bool) := if l ∈ L then L else L ++ [l]
theorem addL_mem (L : List (List Bool)) (l q : List Bool) : q ∈ addL L l ↔ q ∈ L ∨ q = l := by
  unfold addL
  split
  · rename_i h
    exact ⟨.inl, fun z => z.elim id fun e => e ▸ h⟩
  · rw [List.mem_append, List.mem_singleton]
theorem foldL_mem : ∀ (xs L : List (List Bool)) (q : List Bool), q ∈ xs.foldl addL L ↔ q ∈ L ∨ q ∈ xs
  | [], L, q => by simp
  | x :: xs, L, q => by
    rw [List.foldl_cons, foldL_mem xs, addL_mem, List.mem_cons]
    constructor
    · rintro ((h | h) | h)
      · exact .inl h
      · exact .inr (.inl h)
      · exact .inr (.inr h)
    · rintro (h | h | h)
      · exact .inl (.inl h)
      · exact .inl (.inr h)
      · exact .inr h
theorem foldL_len : ∀ (xs L : List (List Bool)), (xs.foldl addL L).length ≤ L.length + xs.length
  | [], L => Nat.le_refl _
  | x :: xs, L => by
    rw [List.foldl_cons]
    have h1 := foldL_len xs (addL L x)
    have h2 : (addL L x).length ≤ L.length + 1 := by
      unfold addL
      split <;> simp
    rw [List.length_cons]
    omega
def allCuts (ks : List (List Bool)) : List (List Bool) := ks.flatMap cuts
def insOf (ks : List (List Bool)) : List (List Bool) := (allCuts ks).foldl addL []
theorem insOf_mem (ks : List (List Bool)) (q : List Bool) : q ∈ insOf ks ↔ ∃ k ∈ ks, ∃ i, i < k.length ∧ q = k.take i := by
  unfold insOf
  rw [foldL_mem]
  unfold allCuts cuts
  simp only [List.not_mem_nil, false_or, List.mem_flatMap, List.mem_map, List.mem_range]
  constructor
  · rintro ⟨k, hk, i, hi, rfl⟩
    exact ⟨k, hk, i, hi, rfl⟩
  · rintro ⟨k, hk, i, hi, rfl⟩
    exact ⟨k, hk, i, hi, rfl⟩
theorem cuts_len {n : Nat} : ∀ (ks : List (List Bool)), (∀ k ∈ ks, k.length ≤ n) → (allCuts ks).length ≤ ks.length * n
  | [], _ => by simp [allCuts]
  | k :: ks, h => by
    have h1 := cuts_len ks fun x hx => h x (List.mem_cons_of_mem _ hx)
    have h2 := h k List.mem_cons_self
    unfold allCuts at *
    rw [List.flatMap_cons, List.length_append, List.length_cons]
    have : (cuts k).length = k.length := by simp [cuts]
    rw [this, Nat.add_mul]
    omega
theorem insOf_len {n : Nat} (ks : List (List Bool)) (h : ∀ k ∈ ks, k.length ≤ n) : (insOf ks).length ≤ ks.length * n := by
  have h1 := foldL_len (allCuts ks) []
  have h2 := cuts_len ks h
  unfold insOf
  simp at h1
  omega
theorem insOf_lt {n : Nat} {ks : List (List Bool)} (h : ∀ k ∈ ks, k.length ≤ n) {q : List Bool} (hq : q ∈ insOf ks) : q.length < n := by
  obtain ⟨k, hk, i, hi, rfl⟩ := (insOf_mem ks q).mp hq
  have := h k hk
  rw [List.length_take]
  omega
/-! the loop's state: found, waiting (the top ahead) -/
structure PcInv (n : Nat) (rs : List Row) (ins ls : List (List Bool)) (F W : List Piece) : Prop where
  eq : F ++ W.flatMap (fun w => pcs rs ins ls (n - w.1.length) w.1 w.2) = pcs rs ins ls n [] "hole"
  sum : F.length + (W.map fun w => ncs ins ls (n - w.1.length) w.1).sum ≤ ncs ins ls n []
  le : ∀ w ∈ W, w.1.length ≤ n ∧ (w.2 = "hole" ∨ ∃ r ∈ rs, r.2 = w.2)
def msr (n : Nat) (ins ls : List (List Bool)) (W : List Piece) : Nat := (W.map fun w => ncs ins ls (n - w.1.length) w.1).sum
theorem W_len (n : Nat) (ins ls : List (List Bool)) : ∀ W : List Piece, W.length ≤ msr n ins ls W
  | [] => Nat.zero_le _
  | w :: W => by
    have h1 := W_len n ins ls W
    have h2 := ncs_pos ins ls (n - w.1.length) w.1
    unfold msr at *
    rw [List.map_cons, List.sum_cons, List.length_cons]
    omega
theorem aim_in (rs : List Row) (part : List Bool) (aim : Str) (h : aim = "hole" ∨ ∃ r ∈ rs, r.2 = aim) : aimOf rs part aim = "hole" ∨ ∃ r ∈ rs, r.2 = aimOf rs part aim := by
  unfold aimOf
  cases hl : look rs part with
  | none => exact h
  | some g =>
    unfold look at hl
    obtain ⟨r, h1, h2⟩ := Option.map_eq_some_iff.mp hl
    exact .inr ⟨r, List.mem_of_find?_eq_some h1, h2⟩
section
variable {n : Nat} {rs : List Row} {ins ls : List (List Bool)} {F W : List Piece} {part : List Bool} {aim : Str}
theorem pc_init : PcInv n rs ins ls [] [([], "hole")] := ⟨by simp, by simp, fun w hw => by
  rw [List.mem_singleton.mp hw]
  exact ⟨Nat.zero_le _, .inl rfl⟩⟩
theorem pc_done (h : PcInv n rs ins ls F []) : F = pcs rs ins ls n [] "hole" := by
  have := h.eq
  simpa using this
theorem pc_open (hins : ∀ q ∈ ins, q.length < n) (h : PcInv n rs ins ls F ((part, aim) :: W)) (h1 : part ∈ ins) (h2 : part ∉ ls) :
    PcInv n rs ins ls F ((part ++ [false], aimOf rs part aim) :: (part ++ [true], aimOf rs part aim) :: W) ∧ msr n ins ls ((part ++ [false], aimOf rs part aim) :: (part ++ [true], aimOf rs part aim) :: W) < msr n ins ls ((part, aim) :: W) := by
  have hl := hins part h1
  obtain ⟨d, hd⟩ : ∃ d, n - part.length = d + 1 := ⟨n - part.length - 1, by omega⟩
  have hd2 : ∀ b, n - (part ++ [b]).length = d := fun b => by
    rw [List.length_append, List.length_singleton]
    omega
  have pe : pcs rs ins ls (n - part.length) part aim = pcs rs ins ls d (part ++ [false]) (aimOf rs part aim) ++ pcs rs ins ls d (part ++ [true]) (aimOf rs part aim) := by
    rw [hd, pcs, if_pos ⟨h1, h2⟩]
  have ne : ncs ins ls (n - part.length) part = 1 + ncs ins ls d (part ++ [false]) + ncs ins ls d (part ++ [true]) := by
    rw [hd, ncs, if_pos ⟨h1, h2⟩]
  have e := h.eq
  have s := h.sum
  have l := h.le
  refine ⟨⟨?_, ?_, ?_⟩, ?_⟩
  · rw [List.flatMap_cons, List.flatMap_cons, hd2, hd2]
    rw [List.flatMap_cons, pe] at e
    simp only [List.append_assoc] at e ⊢
    exact e
  · rw [List.map_cons, List.map_cons, List.sum_cons, List.sum_cons, hd2, hd2]
    rw [List.map_cons, List.sum_cons, ne] at s
    dsimp only
    omega
  · intro w hw
    have ha := aim_in rs part aim (l _ List.mem_cons_self).2
    rcases List.mem_cons.mp hw with rfl | hw
    · exact ⟨by rw [List.length_append, List.length_singleton]; omega, ha⟩
    · rcases List.mem_cons.mp hw with rfl | hw
      · exact ⟨by rw [List.length_append, List.length_singleton]; omega, ha⟩
      · exact l w (List.mem_cons_of_mem _ hw)
  · unfold msr
    simp only [List.map_cons, List.sum_cons, hd2, ne]
    omega
theorem pcs_shut {d : Nat} (h : ¬ (part ∈ ins ∧ part ∉ ls)) : pcs rs ins ls d part aim = if part ∈ ls then [] else [(part, aimOf rs part aim)] := by
  cases d with
  | zero => rfl
  | succ d => rw [pcs, if_neg h]
theorem pc_take (h : PcInv n rs ins ls F ((part, aim) :: W)) (h1 : part ∉ ins) (h2 : part ∉ ls) : PcInv n rs ins ls (F ++ [(part, aimOf rs part aim)]) W ∧ msr n ins ls W < msr n ins ls ((part, aim) :: W) := by
  have e := h.eq
  have s := h.sum
  have np := ncs_pos ins ls (n - part.length) part
  rw [List.flatMap_cons, pcs_shut (fun z => h1 z.1), if_neg h2] at e
  simp only [List.map_cons, List.sum_cons] at s
  refine ⟨⟨by rw [List.append_assoc]; exact e, by rw [List.length_append, List.length_singleton]; omega, fun w hw => h.le w (List.mem_cons_of_mem _ hw)⟩, ?_⟩
  unfold msr
  simp only [List.map_cons, List.sum_cons]
  omega
theorem pc_skip (h : PcInv n rs ins ls F ((part, aim) :: W)) (h2 : part ∈ ls) : PcInv n rs ins ls F W ∧ msr n ins ls W < msr n ins ls ((part, aim) :: W) := by
  have e := h.eq
  have s := h.sum
  have np := ncs_pos ins ls (n - part.length) part
  rw [List.flatMap_cons, pcs_shut (fun z => z.2 h2), if_pos h2, List.nil_append] at e
  simp only [List.map_cons, List.sum_cons] at s
  refine ⟨⟨e, by omega, fun w hw => h.le w (List.mem_cons_of_mem _ hw)⟩, ?_⟩
  unfold msr
  simp only [List.map_cons, List.sum_cons]
  omega
end
end Cw
set_option Elab.async false
set_option linter.all false
set_option maxRecDepth 100000
set_option maxHeartbeats 4000000
namespace Cw
open PySem PySem.Spec PyProof.Rows L2 Evl
/-! ### the law's pieces, walked -/
def TL_ (L : List (List Bool)) : List (Key × V) := L.map fun l => (.inr (bS l), .bl true)
theorem tl_val (L : List (List Bool)) (l : List Bool) : valV (TL_ L) (.inr (bS l)) = if l ∈ L then some (.bl true) else none := by
  induction L with
  | nil => rfl
  | cons k L ih =>
    show valV ((.inr (bS k), .bl true) :: TL_ L) (.inr (bS l)) = _
    by_cases e : k = l
    · subst e
      rw [valV_pos rfl, if_pos List.mem_cons_self]
    · rw [valV_neg (fun z => e (bS_inj (Sum.inr.inj z))), ih]
      by_cases h : l ∈ L
      · rw [if_pos h, if_pos (List.mem_cons_of_mem _ h)]
      · rw [if_neg h, if_neg (fun z => (List.mem_cons.mp z).elim (fun y => e y.symm) h)]
theorem tl_put (L : List (List Bool)) (l : List Bool) : putK (TL_ L) (.inr (bS l)) (.bl true) = TL_ (addL L l) := by
  unfold addL
  by_cases h : l ∈ L
  · rw [if_pos h]
    unfold putK
    rw [valV_any, tl_val, if_pos h]
    show (if true = true then _ else _) = _
    rw [if_pos rfl]
    unfold TL_
    rw [List.map_map]
    refine List.map_congr_left fun k _ => ?_
    show (if (Sum.inr (bS k) : Key) = .inr (bS l) then ((.inr (bS k) : Key), V.bl true) else (.inr (bS k), .bl true)) = (.inr (bS k), .bl true)
    split <;> rfl
  · rw [if_neg h, putK_new _ (by rw [tl_val, if_neg h])]
    unfold TL_
    rw [List.map_append] <;> rfl
def WtV (H : Hp) (w : Piece) (v : V) : Prop := ∃ T, v = .ref T ∧ H T = some (.tup [txt w.1, .str w.2])
def PcV (n : Nat) (H : Hp) (w : Piece) (v : V) : Prop := ∃ T, v = .ref T ∧ H T = some (.tup [txt w.1, .str w.2, .int ((2 ^ (n - w.1.length) : Nat) : Int)])
theorem paired_concat {α β : Type} {F : α → β → Prop} : ∀ {as : List α} {a : α} {bs : List β}, Paired F (as ++ [a]) bs → ∃ bs' b, bs = bs' ++ [b] ∧ Paired F as bs' ∧ F a b
  | [], a, _, h => by
    cases h with
    | cons r t =>
      cases t
      exact ⟨[], _, rfl, .nil, r⟩
  | x :: as, a, _, h => by
    cases h with
    | cons r t =>
      obtain ⟨bs', b, rfl, h1, h2⟩ := paired_concat t
      exact ⟨_ :: bs', b, rfl, .cons r h1, h2⟩
theorem wt_tk {H H' : Hp} (e : Tk H H') {W : List Piece} {ws : List V} (h : Paired (WtV H) W ws) : Paired (WtV H') W ws := L2.Paired.mapP h fun w v ⟨T, h1, h2⟩ => ⟨T, h1, e _ _ h2⟩
theorem pc_tk {n : Nat} {H H' : Hp} (e : Tk H H') {W : List Piece} {ws : List V} (h : Paired (PcV n H) W ws) : Paired (PcV n H') W ws := L2.Paired.mapP h fun w v ⟨T, h1, h2⟩ => ⟨T, h1, e _ _ h2⟩
def pcD (w : Piece) : PyData := .tuple [.str (bS w.1), .str w.2]
theorem dps_wt {K : PySem.W.Frag} {H : Hp} {W : List Piece} {ws : List V} (h : Paired (WtV H) W ws) : DpAll K H ws (W.map pcD) := by
  induction h with
  | nil => exact .nil
  | cons r _ ih =>
    obtain ⟨T, rfl, hT⟩ := r
    exact .cons (.tup (st_of hT) (.cons (.str _) (.cons (.str _) .nil))) ih
theorem shaped_wt {W : List Piece} (h : ∀ w ∈ W, PyData.strOk w.2 = true) : SeqAt.shaped (.list (W.map pcD)) = true := by
  have key : PyData.canLayAll0 (W.map pcD) = true ∧ PyData.depthAll (W.map pcD) ≤ 1 := by
    induction W with
    | nil => exact ⟨rfl, by decide⟩
    | cons w W ih =>
      obtain ⟨h1, h2⟩ := ih fun x hx => h x (List.mem_cons_of_mem _ hx)
      refine ⟨?_, ?_⟩
      · show (PyData.canLay0 (pcD w) && PyData.canLayAll0 (W.map pcD)) = true
        rw [h1, Bool.and_true]
        show (PyData.strOk (bS w.1) && (PyData.strOk w.2 && true)) = true
        rw [bS_ok, h w List.mem_cons_self] <;> rfl
      · show max (PyData.depth (pcD w)) (PyData.depthAll (W.map pcD)) ≤ 1
        have : PyData.depth (pcD w) = 1 := rfl
        omega
  show (PyData.canLayAll0 (W.map pcD) && decide (PyData.depthAll (W.map pcD) + 1 ≤ 64)) = true
  rw [key.1, Bool.true_and]
  exact decide_eq_true (by omega)
theorem goal_ok {z : Str} (h : Letters z) : PyData.strOk z = true := by
  unfold PyData.strOk
  rw [← Array.all_toList, List.all_eq_true]
  intro c hc
  obtain ⟨h1, h2⟩ := h.1 c hc
  have : PyData.strOk ⟨#[c]⟩ = true := by
    unfold PyData.strOk
    simp
    omega
  unfold PyData.strOk at this
  simpa using this
section
variable {K : PySem.W.Frag} {p : Addr} {H H1 H2 H' : Hp} {σ : L2.St} {ta : TA} {te tl tb : TE} {g : TG} {tt : TT} {vs : List Nat} {Q : VK} {wi : TI} {Ds : Ends} {tz tu : TS}
theorem s_rng {n j : Nat} (h : EvA ta σ H [.int (n : Int)]) (hn : n ≤ 100000) (Pv : Nat → L2.St → Hp → Prop) (h0 : ∀ H1, Ex H H1 → Pv 0 σ H1)
    (hs : ∀ i σ' H', i < n → Pv i σ' H' → tu { Ds with nx := Pv (i + 1), ct := Pv (i + 1), bk := Ds.nx } (σ'.set j (some (.int (i : Int)))) H') (hd : ∀ σ' H', Pv n σ' H' → Ds.nx σ' H') : tFor (iRng1 ta) (gName j) tu Ds σ H :=
  h H (Ex.refl _) _ fun H1 e1 => ⟨(n : Int), rfl, by omega, by omega, for_it (D := Ds) ((walk_range (lo := 0) (n := n)).mono (G' := fun _ => True) (fun _ g => g) fun i Ha x Hb _ _ y => y) Pv (h0 H1 e1) (fun _ _ _ _ _ => trivial) (fun i x σ' Ha Hb hi p y => by
    obtain ⟨rfl, rfl⟩ := y
    have := hs i σ' Hb hi p
    show gName j (.int (0 + (i : Int))) σ' Hb _
    rw [Int.zero_add]
    exact this) hd⟩
theorem ta_three {Qa : List V → Hp → Prop} (h : te σ H (fun x H1 => tb σ H1 (fun y H2 => tl σ H2 fun z H3 => Qa [x, y, z] H3))) : tCons te (tCons tb (tCons tl tNil)) σ H Qa := h
theorem q_par3G {i j l : Nat} (h : ta σ H (fun vs H1 => ∃ u v w, vs = [u, v, w] ∧ tz Ds (((σ.set i (some u)).set j (some v)).set l (some w)) H1)) : tSeq (tPar3 i j l ta) tz Ds σ H := h
theorem lst_one {xs : List V} (h : EvU te σ H xs) (k : ∀ w0 H1, H w0 = none → Ex H H1 → H1 w0 = some (.tup xs) → ∀ c, H1 c = none → Q (.ref c) (upd H1 c (.lst [.ref w0]))) : tLst (tCons te tNil) σ H Q :=
  h H (Ex.refl _) _ fun w0 H1 hw e h1 => ⟨sz_of (by show 1 ≤ 100000; decide), fun c hc => k w0 H1 hw e h1 c hc⟩
theorem lst_two {xs ys : List V} (h : EvU te σ H xs) (h2 : EvU tb σ H ys) (k : ∀ T1 T2 H1 l, Ex H H1 → H1 T1 = some (.tup xs) → H1 T2 = some (.tup ys) → H1 l = none → Q (.ref l) (upd H1 l (.lst [.ref T1, .ref T2]))) : tLst (tCons te (tCons tb tNil)) σ H Q :=
  h H (Ex.refl _) _ fun T1 H1 hT1 e1 h1 => h2 H1 e1 _ fun T2 H2 hT2 e2 h2 => ⟨sz_of (by show 2 ≤ 100000; decide), fun c hc => k T1 T2 H2 c (e1.trans e2) (e2 _ _ h1) h2 hc⟩
end
section
variable {P : Program} {w : World} {K : PySem.W.Frag} {mg : Str → Option Value} {base : Heap}
def spPieces : Sp := fun vs H Q _ => ∃ (n : Nat) (r f : Addr) (rs : List Row) (ls : List (List Bool)), vs = [.int (n : Int), .ref r, .ref f] ∧ n ≤ 100 ∧ H r = some (.dK (rs.map rowKV)) ∧ H f = some (.lst (ls.map txt)) ∧ rs.length ≤ 40 ∧ ls.length ≤ 20 ∧ (∀ x ∈ rs, x.1.length ≤ n ∧ GoalOk x.2) ∧ (∀ l ∈ ls, l.length ≤ n) ∧
  RetN (fun D H' => ∃ ys, H' D = some (.lst ys) ∧ Paired (PcV n H') (pcs rs (insOf (rs.map (·.1) ++ ls)) ls n [] "hole") ys) H Q
set_option maxHeartbeats 8000000 in
theorem kp_pieces (B : Bt mg) (D : Df K mg "_law_pieces" s_law_pieces) : Kp P w K mg base 1 "_law_pieces" ["_law_size_here", "_law_rows", "_law_idle"] spPieces := by
  refine kp_of D sc_law_pieces (fun _ _ _ _ _ _ us hl => match us, hl with | [_, _, _], _ => rfl) (fun vs H Q E h => ?_) (fun cdv A outer s H vs Q E hr h => ?_)
  · obtain ⟨n, r, f, rs, ls, rfl, _⟩ := h
    rfl
  · obtain ⟨n, r, f, rs, ls, rfl, hn, hr1, hf, h40, h20, hrs, hls, kq⟩ := h
    refine ⟨_, pss_cons (ps_par3 (i := 3) (j := 4) (l := 5) (by rfl) sc_law_pieces.nd rfl rfl rfl (by decide) (by decide) (by decide) rfl rfl rfl (pa_cons pe_dnewK (pa_cons (pe_lst pa_nil) (pa_cons (pe_lst (pa_cons (pe_tup (pa_cons pe_str (pa_cons pe_str pa_nil))) pa_nil)) pa_nil))) (by rfl))
      (pss_cons (ps_for PassesOwn.never rfl (pi_list (pe_op op_cat (pe_callTy (cr_listD rfl) (by rfl) B.list boot_list (pa_cons (pv 1) pa_nil)) (pe_callTy cr_listS (by rfl) B.list boot_list (pa_cons (pv 2) pa_nil)))) (pg_name (i := 6) sc_law_pieces.nd rfl (.inl rfl))
        (pss_one (ps_for PassesOwn.never rfl (pi_range1 (by rfl) B.range (pa_cons (pe_callB cr_lenT (by rfl) B.len boot_len (pa_cons (pv 6) pa_nil)) pa_nil)) (pg_name (i := 7) sc_law_pieces.nd rfl (.inl rfl))
          (pss_one (ps_dput (u1 hr) (pv 3) (pe_slice sl_str (pv 6) po_none (po_some (pv 7))) pe_bl (by rfl))))))
      (pss_cons (ps_while PassesOwn.never (pt_cmpR (op_neD (u64 hr)) (pv 5) (pe_lst pa_nil) (nomark _))
        (pss_cons (ps_asg (pe_bm0 F.plainAttrs_list F.slot_list_pop F.type_list_pop mt_pop (pv 5)) (pg_tup (by rfl) (pgs_cons (pg_name (i := 6) sc_law_pieces.nd rfl (.inl rfl)) (pgs_cons (pg_name (i := 8) sc_law_pieces.nd rfl (.inl rfl)) pgs_nil))))
        (pss_cons (ps_set (i := 8) sc_law_pieces.nd rfl (.inl rfl) (pe_dget2 (u1 hr) (pv 1) (pv 6) (pv 8) ⟨by rfl, by rfl, by rfl, by rfl⟩))
        (pss_one (ps_if (PW.pt (pw_and (pt_cmp (pc_din (u1 hr) (pv 6) (pv 3)) (by rfl)) (pw_and1 (pt_cmpR (op_niK (K := K) rfl) (pv 6) (pv 2) (by rfl)))))
          (pss_one (ps_expr (pe_bm F.plainAttrs_list F.slot_list_extend F.type_list_extend mt_extend (pv 5) (pa_cons (pe_lst (pa_cons (pe_tup (pa_cons (pe_op op_catS (pv 6) pe_str) (pa_cons (pv 8) pa_nil))) (pa_cons (pe_tup (pa_cons (pe_op op_catS (pv 6) pe_str) (pa_cons (pv 8) pa_nil))) pa_nil))) pa_nil))))
          (pss_one (ps_if (pt_cmpR (op_niK (K := K) rfl) (pv 6) (pv 2) (by rfl))
            (pss_one (ps_expr (pe_bm F.plainAttrs_list F.slot_list_append F.type_list_append mt_append (pv 4) (pa_cons (pe_tup (pa_cons (pv 6) (pa_cons (pv 8) (pa_cons (pe_op op_shl1 pe_int (pe_op op_sub (pv 0) (pe_callB cr_lenT (by rfl) B.len boot_len (pa_cons (pv 6) pa_nil)))) pa_nil)))) pa_nil)))) pss_nil)))))))
      (pss_one (ps_ret (pv 4))))), ?_⟩
    let ks : List (List Bool) := rs.map (·.1) ++ ls
    have hks : ∀ k ∈ ks, k.length ≤ n := fun k hk => by
      rcases List.mem_append.mp hk with h | h
      · obtain ⟨x, hx, rfl⟩ := List.mem_map.mp h
        exact (hrs x hx).1
      · exact hls k h
    have kl : ks.length ≤ 60 := by
      show (rs.map (·.1) ++ ls).length ≤ 60
      rw [List.length_append, List.length_map]
      omega
    have cutle : ∀ (ks' : List (List Bool)), (∀ k ∈ ks', k.length ≤ n) → ks'.length ≤ 60 → (allCuts ks').length ≤ 6000 := fun ks' h1 h2 => by
      have h3 := cuts_len ks' h1
      have h4 : ks'.length * n ≤ 60 * 100 := Nat.mul_le_mul h2 hn
      omega
    /- the three new objects -/
    refine q_par3G (ta_three (en_newK H (Ex.refl _) _ fun a H1 ha e1 h1 => el_lst ea_nil (by decide) H1 (Ex.refl _) _ fun b H2 hb e2 h2 => lst_one (xs := [txt [], .str "hole"]) (eu_tup (ea_cons (ev_is ev_c (by show V.str "" = V.str (bS []); rw [← bS_nil] <;> rfl)) (ea_cons ev_c ea_nil)) (by show 2 ≤ 100000; decide)) fun w0 H3 hw e3 h3 c hc => ⟨_, _, _, rfl, ?_⟩))
    obtain ⟨H4, hH4⟩ : ∃ H4, H4 = upd H3 c (.lst [.ref w0]) := ⟨_, rfl⟩
    have e4 : Ex H3 H4 := hH4 ▸ Ex.new hc
    have h4 : H4 c = some (.lst [.ref w0]) := hH4 ▸ upd_same
    rw [← hH4]
    have hb0 : H b = none := fresh_back e1 hb
    have hc0 : H c = none := fresh_back (e1.trans (e2.trans e3)) hc
    have hba : b ≠ a := fun z => by rw [z, h1] at hb; cases hb
    have hca : c ≠ a := fun z => by rw [z, e3 _ _ (e2 _ _ h1)] at hc; cases hc
    have hcb : c ≠ b := fun z => by rw [z, e3 _ _ h2] at hc; cases hc
    have hwa : w0 ≠ a := fun z => by rw [z, e2 _ _ h1] at hw; cases hw
    have E4 := e1.trans (e2.trans (e3.trans e4))
    have a4 := e4 _ _ (e3 _ _ (e2 _ _ h1))
    have b4 := e4 _ _ (e3 _ _ h2)
    have w4 := e4 _ _ h3
    show tSeq _ _ _ [some (.int (n : Int)), some (.ref r), some (.ref f), some (.ref a), some (.ref b), some (.ref c), none, none, none] H4
    refine q_forNLn (K := K) (xs := ks.map txt) (el_is (el_cat (el_listD (ea_cons (ev_var rfl) ea_nil) (E4 _ _ hr1)) (el_listS (K := K) (ea_cons (ev_var rfl) ea_nil) (.inl (sq_of (E4 _ _ hf)))) ?_) ?_)
      (fun q i σ H' => ∃ v6 v7 v8, σ = [some (.int (n : Int)), some (.ref r), some (.ref f), some (.ref a), some (.ref b), some (.ref c), v6, v7, v8] ∧ q ≠ a ∧ Ex H H' ∧ H' q = some (.lst (ks.map txt)) ∧ H' a = some (.dK (TL_ ((allCuts (ks.take i)).foldl addL []))) ∧ H' b = some (.lst []) ∧ H' c = some (.lst [.ref w0]) ∧ H' w0 = some (.tup [txt [], .str "hole"]))
      (fun q H5 hq e5 h5 => ⟨none, none, none, rfl, (fun z => by rw [z, a4] at hq; cases hq), E4.trans e5, h5, e5 _ _ a4, e5 _ _ b4, e5 _ _ h4, e5 _ _ w4⟩)
      (fun q i σ H' _ ⟨_, _, _, _, _, _, h, _⟩ => sq_of h) (fun q i x σ H' hx ⟨v6, v7, v8, hσ, qa, ex, x1, x2, x3, x4, x5⟩ => ?_) (fun q σ H' ⟨v6, v7, v8, hσ, qa, ex, x1, x2, x3, x4, x5⟩ => ?_)
    · rw [List.length_map, List.length_map, List.length_map]
      omega
    · rw [List.map_map]
      show _ = (rs.map (·.1) ++ ls).map txt
      rw [List.map_append, List.map_map] <;> rfl
    · subst hσ
      rw [List.getElem?_map] at hx
      obtain ⟨k, hk, rfl⟩ := Option.map_eq_some_iff.mp hx
      have hkn := hks k (List.mem_of_getElem? hk)
      refine s_rng (n := k.length) (j := 7) (ea_cons (ev_is (ev_cb (ea_cons (ev_var rfl) ea_nil) (rc_lenT (by rw [bS_len]; omega))) (by rw [bS_len] <;> rfl)) ea_nil) (by omega)
        (fun j σ H' => ∃ v7 v8, σ = [some (.int (n : Int)), some (.ref r), some (.ref f), some (.ref a), some (.ref b), some (.ref c), some (txt k), v7, v8] ∧ Ex H H' ∧ H' q = some (.lst (ks.map txt)) ∧ H' a = some (.dK (TL_ (((cuts k).take j).foldl addL ((allCuts (ks.take i)).foldl addL [])))) ∧ H' b = some (.lst []) ∧ H' c = some (.lst [.ref w0]) ∧ H' w0 = some (.tup [txt [], .str "hole"]))
        (fun H5 e5 => ⟨_, _, rfl, ex.trans e5, e5 _ _ x1, e5 _ _ x2, e5 _ _ x3, e5 _ _ x4, e5 _ _ x5⟩) (fun j σ H5 hj ⟨v7, v8, hσ, ex, x1, x2, x3, x4, x5⟩ => ?_) (fun σ H5 ⟨v7, v8, hσ, ex, x1, x2, x3, x4, x5⟩ => ?_)
      · subst hσ
        have cj : (cuts k)[j]? = some (k.take j) := by
          unfold cuts
          rw [List.getElem?_map, List.getElem?_range hj] <;> rfl
        have nextj : (cuts k).take (j + 1) = (cuts k).take j ++ [k.take j] := by rw [List.take_add_one, cj] <;> rfl
        refine ⟨.ref a, rfl, ?_⟩
        refine (ev_is (ev_slS (ev_var rfl) eo_none (eo_some (ev_var rfl)) (by rw [bS_len]; omega)) (show _ = txt (k.take j) by rw [bS_take])) H5 (Ex.refl _) _ fun H6 e6 => ⟨a, _, rfl, DPut.k (k := .inr (bS (k.take j))) (e6 _ _ x2) ?_, ?_⟩
        · unfold TL_
          rw [List.length_map]
          have g1 := foldL_len ((cuts k).take j) ((allCuts (ks.take i)).foldl addL [])
          have g2 := foldL_len (allCuts (ks.take i)) []
          have g3 := cutle (ks.take i) (fun y hy => hks y (List.mem_of_mem_take hy)) (by rw [List.length_take]; omega)
          have g4 : ((cuts k).take j).length ≤ j := List.length_take_le _ _
          simp at g2
          exact sz_lt (by omega)
        · rw [tl_put]
          refine ⟨_, _, rfl, Ex.mut (ex.trans e6) ha, (upd_ne qa).trans (e6 _ _ x1), ?_, (upd_ne hba).trans (e6 _ _ x3), (upd_ne hca).trans (e6 _ _ x4), (upd_ne hwa).trans (e6 _ _ x5)⟩
          rw [upd_same, nextj, List.foldl_append] <;> rfl
      · subst hσ
        refine ⟨_, _, _, rfl, qa, ex, x1, ?_, x3, x4, x5⟩
        have ct : (cuts k).take k.length = cuts k := List.take_of_length_le (by simp [cuts])
        rw [ct] at x2
        rw [x2, ← List.foldl_append]
        have : allCuts (ks.take (i + 1)) = allCuts (ks.take i) ++ cuts k := by
          unfold allCuts
          rw [List.take_add_one, hk, List.flatMap_append]
          simp
        rw [this]
    · subst hσ
      rw [List.length_map, List.take_length] at x2
      let ins := insOf ks
      have x2 : H' a = some (.dK (TL_ ins)) := x2
      have insl : ins.length ≤ 6000 := by
        have h1 := insOf_len ks hks
        have h2 : ks.length * n ≤ 60 * 100 := Nat.mul_le_mul kl hn
        show (insOf ks).length ≤ 6000
        omega
      have tot : ncs ins ls n [] ≤ 12001 := by
        have h1 := ncs_le ins ls n []
        have h2 := under_le [] ins
        omega
      have okS : ∀ z : Str, (z = "hole" ∨ ∃ x ∈ rs, x.2 = z) → PyData.strOk z = true := fun z hz => by
        rcases hz with rfl | ⟨x, hx, rfl⟩
        · exact goal_ok good_hole.1
        · exact goal_ok (hrs x hx).2.1
      refine q_while (fun m σ H' => ∃ v6 v7 v8 F W ys ws, m = msr n ins ls W ∧ σ = [some (.int (n : Int)), some (.ref r), some (.ref f), some (.ref a), some (.ref b), some (.ref c), v6, v7, v8] ∧ PcInv n rs ins ls F W ∧ Ex H H' ∧ H' a = some (.dK (TL_ ins)) ∧ H' b = some (.lst ys) ∧ Paired (PcV n H') F ys ∧ H' c = some (.lst ws) ∧ Paired (WtV H') W.reverse ws)
        (msr n ins ls [([], "hole")]) ⟨v6, v7, v8, [], [([], "hole")], [], [.ref w0], rfl, rfl, pc_init, ex, x2, x3, .nil, x4, .cons ⟨w0, rfl, x5⟩ .nil⟩ ?_
      rintro m σ H5 ⟨v6, v7, v8, F, W, ys, ws, rfl, rfl, inv, ex5, a5, b5, p5, c5, q5⟩
      have wl : ws.length = W.length := by
        have := paired_len q5
        rw [List.length_reverse] at this
        exact this.symm
      have Wl := W_len n ins ls W
      have sumB := inv.sum
      have msrB : F.length + msr n ins ls W ≤ 12001 := by
        unfold msr
        omega
      refine ⟨!ws.isEmpty, et_test (ev_neE (ev_var rfl) (sq_of c5) (fun H6 e6 => dps_wt (wt_tk (tk_ex e6) q5)) (shaped_wt fun w hw => okS w.2 (inv.le w (List.mem_reverse.mp hw)).2) (el_lst ea_nil (by decide))), fun hne H6 e6 => ?_, fun hemp H6 e6 => ?_⟩
      · cases W with
        | nil =>
          cases q5
          cases hne
        | cons w W =>
          obtain ⟨part, aim⟩ := w
          rw [List.reverse_cons] at q5
          obtain ⟨ws', v, rfl, q6, T, rfl, hT⟩ := paired_concat q5
          have hpn := (inv.le _ List.mem_cons_self).1
          have hpn : part.length ≤ n := hpn
          refine ⟨fun σ2 H2 => ∃ m', m' < msr n ins ls ((part, aim) :: W) ∧ ∃ v6 v7 v8 F W ys ws, m' = msr n ins ls W ∧ σ2 = [some (.int (n : Int)), some (.ref r), some (.ref f), some (.ref a), some (.ref b), some (.ref c), v6, v7, v8] ∧ PcInv n rs ins ls F W ∧ Ex H H2 ∧ H2 a = some (.dK (TL_ ins)) ∧ H2 b = some (.lst ys) ∧ Paired (PcV n H2) F ys ∧ H2 c = some (.lst ws) ∧ Paired (WtV H2) W.reverse ws, fun σ2 H2 h => h, ?_⟩
          have c6 := e6 _ _ c5
          refine ⟨.ref c, rfl, .inl ⟨rfl, _, sq_of c6⟩, c, ws' ++ [.ref T], .ref T, rfl, rfl, c6, by simp, ?_⟩
          rw [List.dropLast_concat]
          have hTc : T ≠ c := fun z => by
            rw [z, c5] at hT
            cases hT
          have t7 : (upd H6 c (.lst ws')) T = some (.tup [txt part, .str aim]) := (upd_ne hTc).trans (e6 _ _ hT)
          have ex7 : Ex H (upd H6 c (.lst ws')) := Ex.mut (ex5.trans e6) hc0
          have a7 : (upd H6 c (.lst ws')) a = some (.dK (TL_ ins)) := (upd_ne (Ne.symm hca)).trans (e6 _ _ a5)
          have b7 : (upd H6 c (.lst ws')) b = some (.lst ys) := (upd_ne (Ne.symm hcb)).trans (e6 _ _ b5)
          have tk7 : Tk H5 (upd H6 c (.lst ws')) := tk_trans (tk_ex e6) (tk_upd c6 fun xs z => by cases z)
          have p7 := pc_tk tk7 p5
          have q7 := wt_tk tk7 q6
          have c7 : (upd H6 c (.lst ws')) c = some (.lst ws') := upd_same
          generalize upd H6 c (.lst ws') = H7 at t7 ex7 a7 b7 p7 q7 c7
          refine eg_tup (st_of t7) rfl (egs_cons eg_name (egs_cons eg_name egs_nil)) H7 (Ex.refl _) _ ?_
          refine q_asg (v := .str (aimOf rs part aim)) (ev_is (ev_dget2 (k := .inr (bS part)) (ev_var rfl) (ev_var rfl) (ev_var rfl) (ex7 _ _ hr1)) ?_) fun H8 e8 => ?_
          · rw [look_kv]
            unfold aimOf
            cases look rs part <;> rfl
          refine s_if (b := decide (part ∈ ins) && !decide (part ∈ ls)) (et_is (et_and (a := decide (part ∈ ins)) (b := !decide (part ∈ ls)) (et_is (et_B (ev_din (k := .inr (bS part)) (ev_var rfl) (ev_var rfl) (e8 _ _ a7))) ?_) fun _ => et_is (et_test (ev_op (ev_var rfl) (ev_var rfl) (rv_niL (K := K) (sq_of (e8 _ _ (ex7 _ _ hf))) rfl (flat_txt ls)))) (by rw [inV_txt])) rfl) (fun hin H9 e9 => ?_) fun hout H9 e9 => ?_
          · rw [tl_val]
            by_cases h : part ∈ ins
            · rw [if_pos h, decide_eq_true h] <;> rfl
            · rw [if_neg h, decide_eq_false h] <;> rfl
          · rw [Bool.and_eq_true, Bool.not_eq_true', decide_eq_true_eq, decide_eq_false_iff_not] at hin
            obtain ⟨i1, i2⟩ := hin
            obtain ⟨inv2, less⟩ := pc_open (fun q hq => insOf_lt hks hq) inv i1 i2
            have E9 := e8.trans e9
            refine ⟨.ref c, rfl, .inl ⟨rfl, _, sq_of (E9 _ _ c7)⟩, ?_⟩
            refine ta_one (lst_two (xs := [txt (part ++ [true]), .str (aimOf rs part aim)]) (ys := [txt (part ++ [false]), .str (aimOf rs part aim)]) (eu_tup (ea_cons (ev_is (ev_op (ev_var rfl) ev_c (rv_catS (by rw [bS_len, bS_1, bS_len]; simp; omega))) (by rw [bS_1, bS_app])) (ea_cons (ev_var rfl) ea_nil)) (by show 2 ≤ 100000; decide))
              (eu_tup (ea_cons (ev_is (ev_op (ev_var rfl) ev_c (rv_catS (by rw [bS_len, bS_0, bS_len]; simp; omega))) (by rw [bS_0, bS_app])) (ea_cons (ev_var rfl) ea_nil)) (by show 2 ≤ 100000; decide)) fun T1 T2 Hb l eb t1 t2 hl => ?_)
            have EL := E9.trans (eb.trans (Ex.new hl (o := .lst [.ref T1, .ref T2])))
            have tt1 : (upd Hb l (.lst [.ref T1, .ref T2])) T1 = some (.tup [txt (part ++ [true]), .str (aimOf rs part aim)]) := (Ex.new hl) _ _ t1
            have tt2 : (upd Hb l (.lst [.ref T1, .ref T2])) T2 = some (.tup [txt (part ++ [false]), .str (aimOf rs part aim)]) := (Ex.new hl) _ _ t2
            have cL := EL _ _ c7
            refine ⟨c, l, ws', [.ref T1, .ref T2], rfl, rfl, cL, upd_same, sz_of ?_, ?_⟩
            · have := paired_len q6
              rw [List.length_reverse] at this
              rw [List.length_cons] at Wl
              show ws'.length + 2 ≤ 100000
              omega
            have tkL : Tk H7 (upd (upd Hb l (.lst [.ref T1, .ref T2])) c (.lst (ws' ++ [.ref T1, .ref T2]))) := tk_trans (tk_ex EL) (tk_upd cL fun xs z => by cases z)
            have tkM : Tk (upd Hb l (.lst [.ref T1, .ref T2])) (upd (upd Hb l (.lst [.ref T1, .ref T2])) c (.lst (ws' ++ [.ref T1, .ref T2]))) := tk_upd cL fun xs z => by cases z
            refine ⟨_, less, _, _, _, F, _, ys, ws' ++ [.ref T1, .ref T2], rfl, rfl, inv2, Ex.mut (ex7.trans EL) hc0, (upd_ne (Ne.symm hca)).trans (EL _ _ a7), (upd_ne (Ne.symm hcb)).trans (EL _ _ b7), pc_tk tkL p7, upd_same, ?_⟩
            rw [List.reverse_cons, List.reverse_cons, List.append_assoc]
            exact paired_app (wt_tk tkL q7) (.cons ⟨T1, rfl, tkM _ _ tt1⟩ (.cons ⟨T2, rfl, tkM _ _ tt2⟩ .nil))
          · refine s_when (b := !decide (part ∈ ls)) (et_is (et_test (ev_op (ev_var rfl) (ev_var rfl) (rv_niL (K := K) (sq_of ((e8.trans e9) _ _ (ex7 _ _ hf))) rfl (flat_txt ls)))) (by rw [inV_txt])) (fun hb Ha ea => ?_) fun hb Ha ea => ?_
            · have i2 : part ∉ ls := by
                rw [Bool.not_eq_true', decide_eq_false_iff_not] at hb
                exact hb
              have i1 : part ∉ ins := fun z => by
                rw [decide_eq_true z, Bool.true_and, hb] at hout
                cases hout
              obtain ⟨inv2, less⟩ := pc_take inv i1 i2
              have EA := e8.trans (e9.trans ea)
              refine s_appU (ys := [txt part, .str (aimOf rs part aim), .int ((2 ^ (n - part.length) : Nat) : Int)]) (EA _ _ b7) (ev_var rfl) (eu_tup (ea_cons (ev_var rfl) (ea_cons (ev_var rfl) (ea_cons (ev_is (ev_op ev_c (ev_is (ev_op (ev_var rfl) (ev_cb (ea_cons (ev_var rfl) ea_nil) (rc_lenT (by rw [bS_len]; omega))) rv_I0) (show _ = V.int ((n - part.length : Nat) : Int) from congrArg V.int (by rw [bS_len]; omega))) (rv_shl1 (by omega))) (by simp)) ea_nil))) (by show 3 ≤ 100000; decide)) (by have := paired_len p5; omega) fun T3 Hb hT3 eb t3 => ?_
              have EB := EA.trans eb
              have tkB : Tk H7 (upd Hb b (.lst (ys ++ [.ref T3]))) := tk_trans (tk_ex EB) (tk_upd (EB _ _ b7) fun xs z => by cases z)
              refine ⟨_, less, _, _, _, _, W, ys ++ [.ref T3], ws', rfl, rfl, inv2, Ex.mut (ex7.trans EB) hb0, (upd_ne (Ne.symm hba)).trans (EB _ _ a7), upd_same, paired_app (pc_tk tkB p7) (.cons ⟨T3, rfl, tk_upd (EB _ _ b7) (fun xs z => by cases z) _ _ t3⟩ .nil), (upd_ne hcb).trans (EB _ _ c7), wt_tk tkB q7⟩
            · have i2 : part ∈ ls := by
                rw [Bool.not_eq_false', decide_eq_true_eq] at hb
                exact hb
              obtain ⟨inv2, less⟩ := pc_skip inv i2
              have EA := e8.trans (e9.trans ea)
              exact ⟨_, less, _, _, _, F, W, ys, ws', rfl, rfl, inv2, ex7.trans EA, EA _ _ a7, EA _ _ b7, pc_tk (tk_ex EA) p7, EA _ _ c7, wt_tk (tk_ex EA) q7⟩
      · cases W with
        | cons w W =>
          rw [List.length_cons] at wl
          cases ws with
          | nil => cases wl
          | cons _ _ => cases hemp
        | nil =>
          have hF := pc_done inv
          refine ⟨.ref b, rfl, kq b H6 hb0 (ex5.trans e6) ⟨ys, e6 _ _ b5, ?_⟩⟩
          rw [← hF]
          exact pc_tk (tk_ex e6) p5
end
end Cw
set_option Elab.async false
set_option linter.all false
set_option maxRecDepth 100000
set_option maxHeartbeats 4000000
namespace Cw
open PySem PySem.Spec PyProof.Rows L2 Evl
/-! ### defs that show objects: nothing is being shown around them -/
def FnG (P : Program) (w : World) (K : PySem.W.Frag) (mg : Str → Option Value) (base : Heap) (k : Nat) (f : Addr) (sp : Sp) : Prop :=
  ∀ (A : Around) (outer : List Env) (s : Shared) (H : Hp) (us : List Value) (vs : List V) (Q : VK) (E : XK), A.guards = some [] → Room k A → Env0 P w K mg base A outer s H → Vals vs us → sp vs H Q E → codeAny (model P w) A (.call (.ref f) ⟨us, []⟩) (CR CX0 outer P w H s Q E) s
def KpG (P : Program) (w : World) (K : PySem.W.Frag) (mg : Str → Option Value) (base : Heap) (k : Nat) (x : Str) (sp : Sp) : Prop :=
  FnG P w K mg base k (He.ga K x) sp ∧ PySem.W.keepIn K (.ref (He.ga K x)) = true ∧ mg x = some (.ref (He.ga K x))
section
variable {P : Program} {w : World} {K : PySem.W.Frag} {mg : Str → Option Value} {base : Heap}
theorem kpg_of {x : Str} {st : Stmt} {N ps : List Str} {k : Nat} {sp : Sp} (D : Df K mg x st) (S : FnScope N ps (defScope st))
    (hb : ∀ (kV doc pm : Value) (an : Option Addr) (cdv ct : Value) (us : List Value), us.length = ps.length → bindArgs (PySem.W.fnOf x x (defArgs st) (defBody st) (defScope st) .none kV doc pm an cdv ct) ⟨us, []⟩ = pure (ps.zip us))
    (len : ∀ vs H Q E, sp vs H Q E → vs.length = ps.length)
    (body : ∀ (cdv : Value) (A : Around) (outer : List Env) (s : Shared) (H : Hp) (vs : List V) (Q : VK) (E : XK), A.guards = some [] → Room k (A.deeper (envOfC x (defScope st) s.heap.objs.size (He.ga K x) cdv)) → sp vs H Q E →
      ∃ t, PSs (cxOf CX0 P w K mg base N x (defScope st) (He.ga K x) cdv A outer s H E).nox (defBody st) t ∧ t { nx := fun _ H' => Q .non H', rt := Q } (start N vs) H) :
    KpG P w K mg base (k + 1) x sp := by
  obtain ⟨fd, F, g⟩ := D
  have hB := F.bindsN hb
  obtain ⟨oc, od, dV, kV, doc, pm, an, cdv, ct, osl, rfl, lk, hcd, _, _⟩ := F.ex
  refine ⟨fun A outer s H us vs Q E hg hr e0 r hsp => ?_, F.kp, g⟩
  have hl := len _ _ _ _ hsp
  refine LamX.run_ofS lk hcd S hr e0 (ps := ps) (us := us) ?_ r hl fun hr' => ?_
  · have := hB s us (e0.mod.kin.keeps fun b o e => (e0.bs b o e).1) (by rw [List.append_nil, ← r.length, hl])
    rw [List.append_nil] at this
    exact this
  · obtain ⟨t, ht, hq⟩ := body cdv A outer s H vs Q E hg hr' hsp
    exact ⟨t, ht.nox, hq⟩
end
section
variable {X : Cx} {k : Nat} {x : Str} {sp : Sp} {e : Expr} {es : List Expr} {t : TA} {p pos : Pos}
theorem pe_kg (h : KpG X.prog X.w X.K X.mg X.base k x sp) (hgu : X.A.guards = some []) (hr : Room k X.A) (ha : PA X (e :: es) t) (hg : Gl X x := by rfl)
    (hdb : (x == ("__debug__" : Str)) = false := by decide)
    (he : starEach (e :: es) X.env = (false, eval e X.env) :: starEach es X.env := by rfl) (hpl : (backTo pos (starEach es X.env)).any (·.1) = false := by rfl) :
    PE X (.Call (.Name x p) (e :: es) [] pos) (tCall sp [] E0 t) := by
  obtain ⟨F, kp, hm⟩ := h
  refine ⟨fun pins s σ H Q I h => ?_⟩
  refine wpAny_Call_Name_kw (ld_glob I hg hm ?_ hdb)
  refine PySem.W.callWith_K (h₀ := X.base) I.ok.mod.kin kp (thn (ha.run pos pins s σ H _ I h) fun us s1 ⟨vs, H1, I1, r, q⟩ => ⟨I1.kIn, ?_⟩) he hpl
  have q : sp (vs ++ []) H1 Q E0 := q
  rw [List.append_nil] at q
  refine wpAny_call (codeAny_mono (F X.A X.stack s1 H1 us vs Q E0 hgu hr I1.env0 r q) fun r s2 hq => ?_)
  cases r with
  | error e => exact (show False from hq).elim
  | ok fl =>
    cases fl with
    | ret u => exact I1.after hq
    | next => exact False.elim hq
    | brk => exact False.elim hq
    | cont => exact False.elim hq
end
/-! ### repr of a tally, of a list of numbers -/
def tyD (ks : List Str) (F : Str → Int) : PyData := .dict (ks.map fun g => (.str g, .int (F g)))
def tyText (ks : List Str) (F : Str → Int) : Str := (tyD ks F).shown
def inText (is : List Int) : Str := (PyData.list (is.map PyData.int)).shown
def ShortG (g : Str) : Prop := (∀ c ∈ g.cps.toList, c < 16 ^ 8) ∧ g.length ≤ 6
theorem letters_short {g : Str} (h : Letters g) : ShortG g := ⟨fun c hc => by have := h.1 c hc; omega, h.2.2⟩
theorem int_len {i : Int} (h : i.natAbs.log2 < 1920) : ((toString i : Str)).length ≤ 1921 := by
  have e := int_text_length_le (a := i) (k := 1920) (by decide) h
  show (Str.ofString (toString i)).length ≤ 1921
  rw [PySem.ofString_length]
  exact e
theorem shownKv_sum : ∀ (ks : List Str) (F : Str → Int), (∀ g ∈ ks, ShortG g) → (∀ g ∈ ks, (F g).natAbs.log2 < 1920) → ((PyData.shownKv (ks.map fun g => (PyData.str g, PyData.int (F g)))).map (·.length)).sum ≤ ks.length * 1990 ∧ (PyData.shownKv (ks.map fun g => (PyData.str g, PyData.int (F g)))).length = ks.length
  | [], _, _, _ => ⟨by simp [PyData.shownKv], by simp [PyData.shownKv]⟩
  | g :: ks, F, h1, h2 => by
    obtain ⟨a, b⟩ := shownKv_sum ks F (fun x hx => h1 x (List.mem_cons_of_mem _ hx)) (fun x hx => h2 x (List.mem_cons_of_mem _ hx))
    have h3 := StrLaws.reprText_len g (h1 g List.mem_cons_self).1
    have h4 := (h1 g List.mem_cons_self).2
    have h5 := int_len (h2 g List.mem_cons_self)
    have h6 : ((": " : Str)).length = 2 := rfl
    rw [List.map_cons, PyData.shownKv, List.map_cons, List.sum_cons, List.length_cons, List.length_cons]
    refine ⟨?_, by rw [b]⟩
    show (PyData.shown (.str g) ++ ": " ++ PyData.shown (.int (F g))).length + _ ≤ _
    rw [strLen_append, strLen_append]
    have e1 : PyData.shown (.str g) = reprText g := rfl
    have e2 : PyData.shown (.int (F g)) = toString (F g) := rfl
    rw [e1, e2, h6]
    omega
theorem shownAll_sum : ∀ (is : List Int), (∀ i ∈ is, i.natAbs.log2 < 1920) → ((PyData.shownAll (is.map PyData.int)).map (·.length)).sum ≤ is.length * 1921 ∧ (PyData.shownAll (is.map PyData.int)).length = is.length
  | [], _ => ⟨by simp [PyData.shownAll], by simp [PyData.shownAll]⟩
  | i :: is, h => by
    obtain ⟨a, b⟩ := shownAll_sum is fun x hx => h x (List.mem_cons_of_mem _ hx)
    have h5 := int_len (h i List.mem_cons_self)
    rw [List.map_cons, PyData.shownAll, List.map_cons, List.sum_cons, List.length_cons, List.length_cons]
    refine ⟨?_, by rw [b]⟩
    have e2 : PyData.shown (.int i) = toString i := rfl
    rw [e2]
    omega
theorem showKv (ks : List Str) (F : Str → Int) (h : ∀ g ∈ ks, (F g).natAbs.log2 < 1920) : PyData.showableKv (ks.map fun g => (PyData.str g, PyData.int (F g))) = true := by
  induction ks with
  | nil => rfl
  | cons g ks ih =>
    show (PyData.showable (.str g) && PyData.showable (.int (F g)) && PyData.showableKv _) = true
    rw [ih fun x hx => h x (List.mem_cons_of_mem _ hx), Bool.and_true]
    show (true && decide ((F g).natAbs.log2 < 1920)) = true
    rw [decide_eq_true (h g List.mem_cons_self)] <;> rfl
theorem showAll (is : List Int) (h : ∀ i ∈ is, i.natAbs.log2 < 1920) : PyData.showableAll (is.map PyData.int) = true := by
  induction is with
  | nil => rfl
  | cons i is ih =>
    show (PyData.showable (.int i) && PyData.showableAll _) = true
    rw [ih fun x hx => h x (List.mem_cons_of_mem _ hx), Bool.and_true]
    exact decide_eq_true (h i List.mem_cons_self)
theorem depthKv_ty (ks : List Str) (F : Str → Int) : PyData.depthKv (ks.map fun g => (PyData.str g, PyData.int (F g))) = 0 := by
  induction ks with
  | nil => rfl
  | cons g ks ih =>
    show max (max (PyData.depth (.str g)) (PyData.depth (.int (F g)))) (PyData.depthKv _) = 0
    rw [ih]
    rfl
theorem depthAll_int (is : List Int) : PyData.depthAll (is.map PyData.int) = 0 := by
  induction is with
  | nil => rfl
  | cons i is ih =>
    show max (PyData.depth (.int i)) (PyData.depthAll _) = 0
    rw [ih]
    rfl
theorem hasDict_int (is : List Int) : PyData.hasDictAll (is.map PyData.int) = false := by
  induction is with
  | nil => rfl
  | cons i is ih =>
    show (PyData.hasDict (.int i) || PyData.hasDictAll _) = false
    rw [ih]
    rfl
theorem reads_ty {P : Program} {w : World} {h : Heap} {ks : List Str} {F : Str → Int} : ∀ {es : List DictEntry} {vs : List (Key × Value)}, Pairs (mixKind P w) es vs → KV (Ty ks F) vs → ReadsAll h (es.map (·.key)) (ks.map PyData.str) [] ∧ ReadsAll h (es.map (·.val)) (ks.map fun g => PyData.int (F g)) [] := by
  induction ks with
  | nil =>
    intro es vs hp hk
    cases hk
    cases hp
    exact ⟨.nil, .nil⟩
  | cons g ks ih =>
    intro es vs hp hk
    have hk : Paired _ (((.inr g, .int (F g)) : Key × V) :: Ty ks F) vs := hk
    cases hk with
    | cons r t =>
      cases hp with
      | cons h1 h2 h3 =>
        obtain ⟨a, b⟩ := ih h3 t
        obtain ⟨r1, r2⟩ := r
        have r1 : (Sum.inr g : Key) = _ := r1
        rw [← r1] at h1
        obtain ⟨t2, r2⟩ := r2
        rw [r2] at h2
        have h1 : keyIs (Sum.inr g : Key) _ = true := h1
        rcases keyIs_shape h1 with ⟨_, _, q, _⟩ | ⟨x, t, q, e⟩
        · cases q
        · cases q
          refine ⟨?_, ?_⟩
          · rw [List.map_cons, List.map_cons, e]
            exact ReadsAll.cons (.str g t) a
          · rw [List.map_cons, List.map_cons, h2]
            exact ReadsAll.cons (.int (F g) t2) b
def rReprT : List V → Hp → VK → Prop := fun xs H Q => ∃ (a : Addr) (ks : List Str) (F : Str → Int), xs = [.ref a] ∧ H a = some (.dK (Ty ks F)) ∧ ks.length ≤ 64 ∧ (∀ g ∈ ks, ShortG g) ∧ (∀ g ∈ ks, (F g).natAbs.log2 < 1920) ∧ Q (.str (tyText ks F)) H
def rReprI (K : PySem.W.Frag) : List V → Hp → VK → Prop := fun xs H Q => ∃ (a : Addr) (is : List Int), xs = [.ref a] ∧ SqL K H a (is.map V.int) ∧ is.length ≤ 64 ∧ (∀ i ∈ is, i.natAbs.log2 < 1920) ∧ Q (.str (inText is)) H
theorem dp_ints {K : PySem.W.Frag} {H : Hp} : ∀ is : List Int, DpAll K H (is.map V.int) (is.map PyData.int)
  | [] => .nil
  | i :: is => .cons (.int i) (dp_ints is)
section
variable {X : Cx}
theorem cr_reprT {k : Nat} (hg : X.A.guards = some []) (hr : Room k X.A) : CallR X (.builtin "repr") rReprT := by
  intro pins s σ H xs us Q I r h
  obtain ⟨a, ks, F, rfl, ha, h64, hs, hF, q⟩ := h
  obtain rfl := Vals.ref1 r
  obtain ⟨_, lo, vs, rel, o, es, ep, ho, ex, hdat, hko, hp, hnd⟩ := dk_of I.hok ha
  obtain ⟨r1, r2⟩ := reads_ty (h := s.heap) hp rel
  have rd : Reads s.heap (.ref a) (tyD ks F) [a] := by
    refine Reads.dict ho ex.1 hdat (as := []) (bs := []) ?_ ?_
    · rw [List.map_map]
      exact r1
    · rw [List.map_map]
      exact r2
  have hu := hr.un
  obtain ⟨s1, s2⟩ := shownKv_sum ks F hs hF
  have dep : (tyD ks F).depth = 1 := by
    show PyData.depthKv _ + 1 = 1
    rw [depthKv_ty]
  refine repr_of_reads' rd (showKv ks F hF) (fun _ hm => ?_) hg (by rw [dep]; omega) (fun _ _ e => e) (fun h' u tk hk => ⟨.str (tyText ks F), H, I.kept (t' := tk) hk, ⟨u, rfl⟩, q⟩) ?_
  · have := List.mem_singleton.mp hm
    rw [← this] at lo
    simp at lo
  · have h1 := dictText_len_le (PyData.shownKv (ks.map fun g => (PyData.str g, PyData.int (F g))))
    show (dictText (PyData.shownKv (ks.map fun g => (PyData.str g, PyData.int (F g))))).length ≤ sizeLine
    rw [s2] at h1
    rw [sizeLine_eq]
    omega
theorem cr_reprI {k : Nat} (hg : X.A.guards = some []) (hr : Room k X.A) : CallR X (.builtin "repr") (rReprI X.K) := by
  intro pins s σ H xs us Q I r h
  obtain ⟨a, is, rfl, ha, h64, hF, q⟩ := h
  obtain rfl := Vals.ref1 r
  obtain ⟨as, rd⟩ := Dp.reads I (.list (is.map PyData.int)) (.ref a) (.ref a) (.lst ha (dp_ints is)) rfl
  have hu := hr.un
  obtain ⟨s1, s2⟩ := shownAll_sum is hF
  have dep : (PyData.list (is.map PyData.int)).depth = 1 := by
    show PyData.depthAll _ + 1 = 1
    rw [depthAll_int]
  refine repr_of_reads' rd (showAll is hF) (PyData.noDict_hsm (hasDict_int is)) hg (by rw [dep]; omega) (fun _ _ e => e) (fun h' u tk hk => ⟨.str (inText is), H, I.kept (t' := tk) hk, ⟨u, rfl⟩, q⟩) ?_
  have h1 := listText_len_le (PyData.shownAll (is.map PyData.int))
  show (listText (PyData.shownAll (is.map PyData.int))).length ≤ sizeLine
  rw [s2] at h1
  rw [sizeLine_eq]
  omega
end
end Cw
set_option Elab.async false
set_option linter.all false
set_option maxRecDepth 100000
set_option maxHeartbeats 4000000
namespace Cw
open PySem PySem.Spec PyProof.Rows L2 Evl
/-! ### list(d.values()), dict of pairs, turned round, repeated -/
def tListVals (td : TE) : TE := fun σ H Q => td σ H fun x H1 => ∃ a kvs, x = V.ref a ∧ H1 a = some (.dK kvs) ∧ ∀ p, H1 p = none → Q (.ref p) (upd H1 p (.lst (kvs.map (·.2))))
theorem vals_at {vs : List (Key × Value)} {kvs : List (Key × V)} (rel : KV kvs vs) {us : List Value} (hl : us.length = vs.length) (h : ∀ (j : Nat) (u : Value), us[j]? = some u → ∃ k, vs[j]? = some (k, u)) : Vals (kvs.map (·.2)) us := by
  unfold KV at rel
  induction rel generalizing us with
  | nil =>
    cases us with
    | nil => exact .nil
    | cons _ _ => cases hl
  | cons r t ih =>
    cases us with
    | nil => cases hl
    | cons u us =>
      obtain ⟨k, e⟩ := h 0 u rfl
      have e := Option.some.inj e
      have r2 := r.2
      rw [e] at r2
      exact .cons r2 (ih (Nat.succ.inj hl) fun j v hv => h (j + 1) v hv)
section
variable {X : Cx} {o : Expr} {p pos apos mpos : Pos} {td : TE}
theorem pe_listVals (hc : X.calm = true) (hg : Gl X "list") (hm : X.mg "list" = none) (hd : PE X o td) (hbase : attributeBase o "values" X.env (eval o X.env) = eval o X.env := by rfl) (hline : (apos.endLine == mpos.line) = true := by rfl)
    (hse : starEach [Expr.Call (.Attribute o "values" apos) [] [] mpos] X.env = [(false, eval (Expr.Call (.Attribute o "values" apos) [] [] mpos) X.env)] := by rfl) :
    PE X (.Call (.Name "list" p) [.Call (.Attribute o "values" apos) [] [] mpos] [] pos) (tListVals td) := by
  refine ⟨fun pins s σ H Q I h => ?_⟩
  refine wpAny_Call_Name_kw (ld_blt I hg hm (u := .type "list") (by first | rfl | decide +kernel) ?_ (by first | decide +kernel | decide) (by first | decide +kernel | decide))
  rw [hse]
  refine PySem.callWith_type1 (wpAny_Call_method0_late hbase hline (thn (hd.run pins s σ H _ I h) fun v s1 ⟨x, H1, I1, r1, a, kvs, ex, ha, q⟩ => ?_))
  subst ex
  obtain rfl : v = Value.ref a := r1
  obtain ⟨hz, hsys, vs, rel, dof⟩ := dk_of I1.hok ha
  obtain ⟨ep, dat⟩ := dof.dictAt
  obtain ⟨ob, es, ho, ex, _⟩ := id dat
  refine ⟨"dict", "dict.values", F.plainAttrs_dict, F.slot_dict_values, F.type_dict_values, ⟨ob, ho, ex.1⟩, fun b e => ?_, Calls.callWith_builtin rfl (PySem.evalArgs_none ?_)⟩
  · cases e
    exact ⟨ob, ho, ex.2.1⟩
  refine call_meetsIn F.slot_dict_values ⟨ob, ho, ex.1⟩ F.entry_dict_values (F.args_dict_values_1 _) (meets_dict_values (mixKind X.prog X.w) a hsys) ⟨⟨vs, dof⟩, ?_⟩
  let view : Obj := { cls := .type "dict_values", data := .fields #[.ref a] }
  have kp : ∀ b u, s1.heap.get? b = some u → (s1.heap.push view).get? b = some u := fun b u e => Heap.get?_push_of_some _ e
  have at1 : (s1.heap.push view).DictAt (mixKind X.prog X.w) a vs ep := dat.keep kp
  have I2 : L2.Inv X pins σ H1 { s1 with heap := s1.heap.push view } := I1.kept (t' := s1.toks) kp
  refine PySem.W.kdl_call (s := { s1 with heap := s1.heap.push view }) (PySem.W.kdl_values (r := s1.heap.objs.size) (d := a) (knd := mixKind X.prog X.w) (kvs := vs) (ep := ep)) (I1.ok.hd hc) ⟨⟨_, Heap.get?_push_size _ rfl, rfl, rfl⟩, at1⟩ (by rw [← rel.length]; exact hz) fun h' tk acc c' hk hD hacc => ?_
  have hv : Vals (kvs.map (·.2)) acc.toList := vals_at rel (by rw [Array.length_toList]; exact hacc.1) fun j v e => hacc.2 j v (by rw [← Array.getElem?_toList]; exact e)
  exact ⟨.ref (s1.heap.push view).objs.size, upd H1 (s1.heap.push view).objs.size (.lst (kvs.map (·.2))), I2.laid (t' := tk) hk (Nat.le_refl _)
    (show ObjOk X.prog X.w _ _ _ (.lst (kvs.map (·.2))) from ⟨by rw [List.length_map]; exact hz, acc.toList, c', hv, by rw [Array.toArray_toList]; exact hD⟩), rfl, q _ (I2.hok.fresh (Nat.le_refl _))⟩
def rDictP (K : PySem.W.Frag) : List V → Hp → VK → Prop := fun xs H Q => ∃ (a : Addr) (ps : List Addr) (kvs : List (Key × V)), xs = [.ref a] ∧ SqL K H a (ps.map V.ref) ∧ Paired (fun p kv => SqT K H p [kV kv.1, kv.2]) ps kvs ∧ ∀ p, H p = none → Q (.ref p) (upd H p (.dK (mergeK [] kvs)))
theorem cr_dictP (hc : X.calm = true) : CallR X (.type "dict") (rDictP X.K) := call_dictP hc
end
section
variable {K : PySem.W.Frag} {σ : L2.St} {H H' : Hp} {ta tb tc te tl : TE} {N : Addr → Hp → Prop}
theorem el_listVals {a : Addr} {kvs : List (Key × V)} (h : Ev te σ H (.ref a)) (hd : H a = some (.dK kvs)) : EvL (tListVals te) σ H (kvs.map (·.2)) := fun H1 e Q q =>
  h H1 e _ fun H2 e2 => ⟨a, kvs, rfl, e2 _ _ (e _ _ hd), fun p hp => q p _ (fresh_back e2 hp) (e2.trans (Ex.new hp)) upd_same⟩
theorem el_rev {a : Addr} {xs : List V} (h : Ev te σ H (.ref a)) (ha : H a = some (.lst xs)) : EvL (tRevL K te) σ H xs.reverse := fun H1 e Q q =>
  h H1 e _ fun H2 e2 => ⟨a, xs, rfl, sq_of (e2 _ _ (e _ _ ha)), fun p hp => q p _ (fresh_back e2 hp) (e2.trans (Ex.new hp)) upd_same⟩
theorem rep_one (x : V) : ∀ n : Nat, (List.replicate n [x]).flatten = List.replicate n x
  | 0 => rfl
  | n + 1 => by
    rw [List.replicate_succ, List.flatten_cons, rep_one x n, List.replicate_succ] <;> rfl
/-- [x] * n -/
theorem el_rep {x : V} {n : Nat} (h : EvL ta σ H [x]) (h2 : ∀ H1, Ex H H1 → Ev tb σ H1 (.int (n : Int))) (hn : n ≤ 100000) : EvL (tOp rRep ta tb) σ H (List.replicate n x) := fun H1 e Q q =>
  h H1 e _ fun p H2 hp e2 h3 => h2 H2 (e.trans e2) H2 (Ex.refl _) _ fun H3 e3 => ⟨p, n, [x], rfl, rfl, e3 _ _ h3, by omega, by omega, by
    show 1 * (n : Int).toNat ≤ sizeLine
    exact sz_of (by omega), fun r hr => by
    rw [Int.toNat_natCast, rep_one]
    exact q r _ (fresh_back (e2.trans e3) hr) ((e2.trans e3).trans (Ex.new hr)) upd_same⟩
theorem en_sortSL {xs : List Str} (h : EvL te σ H (xs.map V.str)) (h64 : xs.length < 64) : EvN (tCB (rSortedS K) (tCons te tNil)) σ H (fun p H' => ∃ ys : List Str, ys.Perm xs ∧ sortedS ys = true ∧ H' p = some (.lst (ys.map V.str))) := fun H1 e Q q =>
  h H1 e _ fun p H2 hp e2 h2 => ⟨p, xs, rfl, sq_of h2, h64, fun ys r y1 y2 hr => q r _ (fresh_back e2 hr) (e2.trans (Ex.new hr)) ⟨ys, y1, y2, upd_same⟩⟩
theorem ev_sumL {is : List Int} (h : EvL te σ H (is.map V.int)) : Ev (tCB (rSum K) (tCons te tNil)) σ H (.int is.sum) := ev_cbN (en_l h) fun p H1 e hp H2 e2 Q q => ⟨p, is, rfl, sq_of (e2 _ _ hp), q H2 (Ex.refl _)⟩
theorem en_dictP (h : EvN te σ H N) (hN : ∀ p H1, Ex H H1 → N p H1 → ∃ ps kvs, H1 p = some (.lst (ps.map V.ref)) ∧ Paired (fun r kv => H1 r = some (.tup [kV kv.1, kv.2])) ps kvs ∧ ∀ o H2, H1 o = none → H2 o = some (.dK (mergeK [] kvs)) → N' o H2) : EvN (tCB (rDictP K) (tCons te tNil)) σ H N' := fun H1 e Q q =>
  h H1 e _ fun p H2 hp e2 hn => by
    obtain ⟨ps, kvs, h1, h2, h3⟩ := hN p H2 (e.trans e2) hn
    exact ⟨p, ps, kvs, rfl, sq_of h1, L2.Paired.mapP h2 fun _ _ z => st_of z, fun o ho => q o _ (fresh_back e2 ho) (e2.trans (Ex.new ho)) (h3 o _ ho upd_same)⟩
end
end Cw
set_option Elab.async false
set_option linter.all false
set_option maxRecDepth 100000
set_option maxHeartbeats 4000000
namespace Cw
open PySem PySem.Spec PyProof.Rows L2 Evl
/-! ### _law_told_right -/
def psOf (n : Nat) (Pc : List Piece) : List (Str × Int) := Pc.map fun q => (q.2, ((2 ^ (n - q.1.length) : Nat) : Int))
def fillF (n : Nat) (l : List Bool) : List Bool := l ++ List.replicate (n - l.length) false
def bgF (n : Nat) (Pc : List Piece) (g : Str) : List Bool := ((Pc.find? fun q => q.2 == g).map fun q => fillF n q.1).getD []
def everyOf (ps : List (Str × Int)) : Int := ((names ps).map (tot ps)).sum
def pcOf (n : Nat) (rs : List Row) (ls : List (List Bool)) : List Piece := pcs rs (insOf (rs.map (·.1) ++ ls)) ls n [] "hole"
/-- what is to be known of the numbers in plain lists -/
structure Sound (n : Nat) (rs rs' : List Row) (szs : List Nat) (ls : List (List Bool)) : Prop where
  nm : ∀ fr zs, (fr = ls ∨ fr = ls.reverse) → ZsOf (rs'.map (·.1) ++ fr) zs → ∀ g, g ∈ names (tallyOf n rs' szs fr zs) ↔ g ∈ names (psOf n (pcOf n rs ls))
  tt : ∀ fr zs, (fr = ls ∨ fr = ls.reverse) → ZsOf (rs'.map (·.1) ++ fr) zs → ∀ g, tot (tallyOf n rs' szs fr zs) g = tot (psOf n (pcOf n rs ls)) g
  us : ∀ zs, ZsOf ls zs → ((usedOf ls (cellsOf n zs)).map (·.2.1)).sum = everyOf (psOf n (pcOf n rs ls))
  fs : ∀ fr zs g v, (fr = ls ∨ fr = ls.reverse) → ZsOf (rs'.map (·.1) ++ fr) zs → FirstOf (startsOf n rs' szs fr zs g) v → v = if g ∈ names (psOf n (pcOf n rs ls)) then txt (bgF n (pcOf n rs ls) g) else .non
  bg : ∀ g ∈ names (psOf n (pcOf n rs ls)), (bgF n (pcOf n rs ls) g).length = n ∧ freeB ls (bgF n (pcOf n rs ls) g) = false ∧ goalM rs' szs (bgF n (pcOf n rs ls) g) = g
  few : (names (psOf n (pcOf n rs ls))).length < 64
  sg : ∀ g ∈ names (psOf n (pcOf n rs ls)), ShortG g
  lg : ∀ g, (tot (psOf n (pcOf n rs ls)) g).natAbs.log2 < 1920
  ev : (everyOf (psOf n (pcOf n rs ls))).natAbs.log2 < 1920
/-! tallies of any values -/
def TyV (ks : List Str) (F : Str → V) : List (Key × V) := ks.map fun g => (.inr g, F g)
theorem tyv_val (ks : List Str) (F : Str → V) (g : Str) : valV (TyV ks F) (.inr g) = if g ∈ ks then some (F g) else none := by
  induction ks with
  | nil => rfl
  | cons k ks ih =>
    show valV ((.inr k, F k) :: TyV ks F) (.inr g) = _
    by_cases e : k = g
    · subst e
      rw [valV_pos rfl, if_pos List.mem_cons_self]
    · rw [valV_neg (fun z => e (Sum.inr.inj z)), ih]
      by_cases h : g ∈ ks
      · rw [if_pos h, if_pos (List.mem_cons_of_mem _ h)]
      · rw [if_neg h, if_neg (fun z => (List.mem_cons.mp z).elim (fun y => e y.symm) h)]
theorem bg_snoc_old {n : Nat} {Pc : List Piece} {q : Piece} {g : Str} (h : ∃ x ∈ Pc, x.2 = g) : bgF n (Pc ++ [q]) g = bgF n Pc g := by
  unfold bgF
  rw [List.find?_append]
  cases hf : Pc.find? (fun x => x.2 == g) with
  | some x => rfl
  | none =>
    obtain ⟨x, hx, e⟩ := h
    have := List.find?_eq_none.mp hf x hx
    exact absurd (beq_iff_eq.mpr e) this
theorem bg_snoc_new {n : Nat} {Pc : List Piece} {q : Piece} (h : ¬ ∃ x ∈ Pc, x.2 = q.2) : bgF n (Pc ++ [q]) q.2 = fillF n q.1 := by
  unfold bgF
  rw [List.find?_append]
  have hf : Pc.find? (fun x => x.2 == q.2) = none := List.find?_eq_none.mpr fun x hx e => h ⟨x, hx, beq_iff_eq.mp e⟩
  rw [hf, List.find?_cons, beq_self_eq_true] <;> rfl
theorem ps_mem (n : Nat) (Pc : List Piece) (g : Str) : g ∈ names (psOf n Pc) ↔ ∃ x ∈ Pc, x.2 = g := by
  rw [names_mem]
  unfold psOf
  constructor
  · rintro ⟨p, hp, rfl⟩
    obtain ⟨x, hx, rfl⟩ := List.mem_map.mp hp
    exact ⟨x, hx, rfl⟩
  · rintro ⟨x, hx, rfl⟩
    exact ⟨_, List.mem_map_of_mem hx, rfl⟩
theorem beg_put (n : Nat) (Pc : List Piece) (q : Piece) : putK (TyV (names (psOf n Pc)) fun g => txt (bgF n Pc g)) (.inr q.2) ((valV (TyV (names (psOf n Pc)) fun g => txt (bgF n Pc g)) (.inr q.2)).getD (txt (fillF n q.1))) = TyV (names (psOf n (Pc ++ [q]))) fun g => txt (bgF n (Pc ++ [q]) g) := by
  have hs : names (psOf n (Pc ++ [q])) = addU (names (psOf n Pc)) q.2 := by
    unfold psOf
    rw [List.map_append]
    exact names_snoc _ _
  rw [hs, tyv_val]
  unfold addU
  by_cases h : q.2 ∈ names (psOf n Pc)
  · have h' := (ps_mem n Pc q.2).mp h
    rw [if_pos h, if_pos h]
    unfold putK
    rw [valV_any, tyv_val, if_pos h]
    show (if true = true then _ else _) = _
    rw [if_pos rfl]
    unfold TyV
    rw [List.map_map]
    refine List.map_congr_left fun k hk => ?_
    have hk' := (ps_mem n Pc k).mp hk
    show (if (Sum.inr k : Key) = .inr q.2 then ((.inr k : Key), txt (bgF n Pc q.2)) else (.inr k, txt (bgF n Pc k))) = (.inr k, txt (bgF n (Pc ++ [q]) k))
    rw [bg_snoc_old hk']
    split
    · rename_i e
      rw [Sum.inr.inj e]
    · rfl
  · have h' : ¬ ∃ x ∈ Pc, x.2 = q.2 := fun z => h ((ps_mem n Pc q.2).mpr z)
    rw [if_neg h, if_neg h, putK_new _ (by rw [tyv_val, if_neg h])]
    unfold TyV
    rw [List.map_append]
    congr 1
    · refine List.map_congr_left fun k hk => ?_
      show ((.inr k : Key), txt (bgF n Pc k)) = (.inr k, txt (bgF n (Pc ++ [q]) k))
      rw [bg_snoc_old ((ps_mem n Pc k).mp hk)]
    · show [((.inr q.2 : Key), txt (fillF n q.1))] = [(.inr q.2, txt (bgF n (Pc ++ [q]) q.2))]
      rw [bg_snoc_new h']
theorem ps_snoc (n : Nat) (Pc : List Piece) (q : Piece) : psOf n (Pc ++ [q]) = psOf n Pc ++ [(q.2, ((2 ^ (n - q.1.length) : Nat) : Int))] := by
  unfold psOf
  rw [List.map_append] <;> rfl
section
variable {K : PySem.W.Frag} {p : Addr} {H H1 H2 H' : Hp} {σ : L2.St} {ta : TA} {te tl tb tc' td : TE} {g : TG} {tt tu' : TT} {vs : List Nat} {Q : VK} {wi : TI} {Ds : Ends} {tz tu : TS}
theorem ta_four {Qa : List V → Hp → Prop} (h : te σ H (fun x H1 => tb σ H1 (fun y H2 => tc' σ H2 fun z H3 => td σ H3 fun u H4 => Qa [x, y, z, u] H4))) : tCons te (tCons tb (tCons tc' (tCons td tNil))) σ H Qa := h
theorem tt_op {r : R2} {Kc : Bool → Hp → Prop} (h : te σ H fun x H1 => tb σ H1 fun y H2 => r x y H2 fun v H3 => ∃ b, v = .bl b ∧ Kc b H3) : tTest (tOp r te tb) σ H Kc := h
theorem cb_one {r : List V → Hp → VK → Prop} (h : te σ H fun x H1 => r [x] H1 Q) : tCB r (tCons te tNil) σ H Q := h
theorem callN_two {n m : Nat} {sp : Sp} {gV : List V → List V → List V} {E : XK} (h : te σ H fun x H1 => tb σ H1 fun y H2 => ([] : List V).length = n ∧ [x, y].length = m ∧ sp (gV [] [x, y]) H2 Q E) : tCallN n m sp gV E tNil (tCons te (tCons tb tNil)) σ H Q := h
theorem q_asgT (h : ta σ H (fun us H1 => us.length ≤ sizeLine ∧ ∀ p, H1 p = none → g (.ref p) σ (upd H1 p (.tup us)) (tz Ds))) : tSeq (tAsg (tTup ta) g) tz Ds σ H := h
theorem q_ifC {R : Hp → Prop} (h : ∀ Kc : Bool → Hp → Prop, (∀ H2, R H2 → Kc false H2) → tt σ H Kc) (k : ∀ H2, R H2 → tz Ds σ H2) : tSeq (tIfS tt tu tNext) tz Ds σ H := h _ fun H2 r => k H2 r
theorem s_ifC {R : Hp → Prop} (h : ∀ Kc : Bool → Hp → Prop, (∀ H2, R H2 → Kc false H2) → tt σ H Kc) (k : ∀ H2, R H2 → Ds.nx σ H2) : tIfS tt tu tNext Ds σ H := h _ fun H2 r => k H2 r
theorem t_orF {Kc : Bool → Hp → Prop} (h1 : EvT tt σ H false) (h2 : ∀ H1, Ex H H1 → tu' σ H1 Kc) : tOr tt tu' σ H Kc := h1 H (Ex.refl _) _ fun H1 e1 => h2 H1 e1
theorem q_asgX {i : Nat} {P : V → Hp → Prop} (h : ∀ Q : VK, (∀ v H2, Fx K H H2 → P v H2 → Q v H2) → te σ H Q) (k : ∀ v H1, Fx K H H1 → P v H1 → tz Ds (σ.set i (some v)) H1) : tSeq (tAsg te (gName i)) tz Ds σ H := h _ fun v H1 e hv => k v H1 e hv
theorem lc_fx {xs : List V} {a : Addr} {v : Nat → V} (ha : H a = some (.lst xs)) (hn : xs.length ≤ 100000)
    (ht : ∀ i x H1, xs[i]? = some x → Fx K H H1 → ∃ σ2, wipe σ2 vs = wipe σ vs ∧ EvG g x (wipe σ vs) H1 σ2 ∧ ∀ Q : VK, (∀ H3, Fx K H1 H3 → Q (v i) H3) → te σ2 H1 Q) (h : Ev tl σ H (.ref a))
    (k : ∀ D H', Fx K H H' → H' D = some (.lst ((List.range xs.length).map v)) → Q (.ref D) H') : tLc (iList K tl) g tYes te vs σ H Q :=
  h H (Ex.refl _) _ fun H2 e2 => ⟨a, rfl, ⟨xs, sq_of (e2 _ _ ha)⟩, fun D hD => by
    refine lc_it (walk_list (K := K) (a := a) (xs := xs)) (fun i H' => Fx K H2 H' ∧ H' D = some (.lst ((List.range i).map v))) ⟨Fx.of (Ex.new hD), upd_same⟩ (fun i H' _ q => sq_of (q.1.1 _ _ (e2 _ _ ha) fun _ z => by cases z)) (fun i x Ha Hb hlt q y => ?_) (fun H' q => k D H' ((Fx.of e2).trans q.1) q.2)
    obtain ⟨p1, p2⟩ := q
    obtain ⟨rfl, hx⟩ := y
    obtain ⟨σ2, s1, s2, s4⟩ := ht i x Hb hx ((Fx.of e2).trans p1)
    refine s2 Hb (Ex.refl _) _ ⟨s1, ?_⟩
    show te σ2 Hb _
    refine s4 _ fun H4 g4 => ?_
    have hD4 : H4 D = some (.lst ((List.range i).map v)) := g4.1 _ _ p2 fun _ z => by cases z
    refine ⟨_, hD4, by rw [List.length_map, List.length_range]; exact sz_lt (by omega), ?_, ?_⟩
    · have g5 := p1.trans g4
      refine ⟨fun b o hb t => (upd_ne (fun z => by rw [z, hD] at hb; cases hb)).trans (g5.1 b o hb t), fun t => TK.upd hD4 (g5.2 t) fun _ => codeO_lst⟩
    · rw [upd_same, List.range_succ, List.map_append] <;> rfl⟩
end
theorem str_cps {a b : Str} (h : a.cps.toList = b.cps.toList) : a = b := TL.ext_tl h
theorem rising_ltS : ∀ {zs : List Str} {p : Str}, risingS p zs = true → (p :: zs).Nodup → (∀ z ∈ zs, p.cps.toList < z.cps.toList) ∧ List.Pairwise (fun a b : Str => a.cps.toList < b.cps.toList) zs
  | [], _, _, _ => ⟨fun _ h => by simp at h, List.Pairwise.nil⟩
  | z :: zs, p, h, nd => by
    have h : (!ltCps z.cps.toList p.cps.toList && risingS z zs) = true := h
    obtain ⟨ha, hb⟩ := Bool.and_eq_true_iff.mp h
    obtain ⟨nda, ndb⟩ := List.nodup_cons.mp nd
    obtain ⟨ra, rb⟩ := rising_ltS hb ndb
    have notlt : ¬ z.cps.toList < p.cps.toList := fun x => by
      rw [ltCps_eq, decide_eq_true x] at ha
      cases ha
    have diff : z.cps.toList ≠ p.cps.toList := fun e => nda (by rw [str_cps e]; exact List.mem_cons_self)
    have lt : p.cps.toList < z.cps.toList := Classical.byContradiction fun x => diff (List.le_antisymm (List.not_lt.mp x) (List.not_lt.mp notlt))
    refine ⟨fun y hy => ?_, List.pairwise_cons.mpr ⟨ra, rb⟩⟩
    rcases List.mem_cons.mp hy with rfl | hy
    · exact lt
    · exact List.lt_trans lt (ra y hy)
theorem strict_eq : ∀ {xs ys : List Str}, xs.Pairwise (fun a b : Str => a.cps.toList < b.cps.toList) → ys.Pairwise (fun a b : Str => a.cps.toList < b.cps.toList) → (∀ g, g ∈ xs ↔ g ∈ ys) → xs = ys
  | [], [], _, _, _ => rfl
  | [], y :: _, _, _, h => absurd ((h y).mpr List.mem_cons_self) (by simp)
  | x :: _, [], _, _, h => absurd ((h x).mp List.mem_cons_self) (by simp)
  | x :: xs, y :: ys, px, py, h => by
    obtain ⟨px1, px2⟩ := List.pairwise_cons.mp px
    obtain ⟨py1, py2⟩ := List.pairwise_cons.mp py
    have e : x = y := by
      rcases List.mem_cons.mp ((h x).mp List.mem_cons_self) with e | hx
      · exact e
      · rcases List.mem_cons.mp ((h y).mpr List.mem_cons_self) with e | hy
        · exact e.symm
        · exact absurd (List.lt_trans (px1 y hy) (py1 x hx)) (List.lt_irrefl _)
    subst e
    refine congrArg (List.cons x) (strict_eq px2 py2 fun g => ⟨fun hg => ?_, fun hg => ?_⟩)
    · rcases List.mem_cons.mp ((h g).mp (List.mem_cons_of_mem _ hg)) with e | hg2
      · exact absurd (e ▸ px1 g hg) (List.lt_irrefl _)
      · exact hg2
    · rcases List.mem_cons.mp ((h g).mpr (List.mem_cons_of_mem _ hg)) with e | hg2
      · exact absurd (e ▸ py1 g hg) (List.lt_irrefl _)
      · exact hg2
theorem sorted_pw {xs : List Str} (nd : xs.Nodup) (s : sortedS xs = true) : xs.Pairwise (fun a b : Str => a.cps.toList < b.cps.toList) := by
  cases xs with
  | nil => exact List.Pairwise.nil
  | cons x xs =>
    obtain ⟨a, b⟩ := rising_ltS (show risingS x xs = true from s) nd
    exact List.pairwise_cons.mpr ⟨a, b⟩
theorem sorted_eq {xs ys : List Str} (nx : xs.Nodup) (ny : ys.Nodup) (sx : sortedS xs = true) (sy : sortedS ys = true) (h : ∀ g, g ∈ xs ↔ g ∈ ys) : xs = ys :=
  strict_eq (sorted_pw nx sx) (sorted_pw ny sy) h
theorem pcs_le (rs : List Row) (ins ls : List (List Bool)) : ∀ (d : Nat) (part : List Bool) (aim : Str), ∀ q ∈ pcs rs ins ls d part aim, q.1.length ≤ part.length + d
  | 0, part, aim, q, hq => by
    unfold pcs at hq
    split at hq
    · cases hq
    · rw [List.mem_singleton.mp hq]
      exact Nat.le_refl _
  | d + 1, part, aim, q, hq => by
    unfold pcs at hq
    split at hq
    · rcases List.mem_append.mp hq with h | h
      · have := pcs_le rs ins ls d _ _ q h
        rw [List.length_append, List.length_singleton] at this
        omega
      · have := pcs_le rs ins ls d _ _ q h
        rw [List.length_append, List.length_singleton] at this
        omega
    · split at hq
      · cases hq
      · rw [List.mem_singleton.mp hq]
        show part.length ≤ _
        omega
theorem pcOf_le (n : Nat) (rs : List Row) (ls : List (List Bool)) {q : Piece} (h : q ∈ pcOf n rs ls) : q.1.length ≤ n := by
  have := pcs_le rs _ ls n [] "hole" q h
  simpa using this
theorem pcOf_len {n : Nat} {rs : List Row} {ls : List (List Bool)} (hn : n ≤ 100) (h1 : ∀ r ∈ rs, r.1.length ≤ n) (h2 : ∀ l ∈ ls, l.length ≤ n) (h3 : rs.length + ls.length ≤ 60) : (pcOf n rs ls).length ≤ 12001 := by
  have hks : ∀ k ∈ rs.map (·.1) ++ ls, k.length ≤ n := fun k hk => by
    rcases List.mem_append.mp hk with h | h
    · obtain ⟨x, hx, rfl⟩ := List.mem_map.mp h
      exact h1 x hx
    · exact h2 k h
  have a1 := insOf_len (rs.map (·.1) ++ ls) hks
  have a2 : (rs.map (·.1) ++ ls).length * n ≤ 60 * 100 := Nat.mul_le_mul (by rw [List.length_append, List.length_map]; exact h3) hn
  have a3 := pcs_len rs (insOf (rs.map (·.1) ++ ls)) ls n [] "hole"
  have a4 := ncs_le (insOf (rs.map (·.1) ++ ls)) ls n []
  have a5 := under_le [] (insOf (rs.map (·.1) ++ ls))
  unfold pcOf
  omega
def ExN2 (a b : Addr) (H H' : Hp) : Prop := ∀ c o, c ≠ a → c ≠ b → H c = some o → H' c = some o
structure Bd (K : PySem.W.Frag) (C T f gl b du to : Addr) (n : Nat) (rs' : List Row) (szs : List Nat) (ls : List (List Bool)) (gs ks : List Str) (Pc : List Piece) (H : Hp) : Prop where
  tb : TbAt C H T n rs' szs
  fl : H f = some (.lst (ls.map txt))
  gl : H gl = some (.lst (gs.map V.str))
  bg : H b = some (.dK (TyV (names (psOf n Pc)) fun g => txt (bgF n Pc g)))
  du : H du = some (.dK (Ty ks (tot (psOf n Pc))))
  to : H to = some (.dK (Ty ks (tot (psOf n Pc))))
  tk : TK K H
theorem Bd.fx {K : PySem.W.Frag} {C T f gl b du to : Addr} {n : Nat} {rs' : List Row} {szs : List Nat} {ls : List (List Bool)} {gs ks : List Str} {Pc : List Piece} {H H' : Hp} (x : Bd K C T f gl b du to n rs' szs ls gs ks Pc H) (e : Fx K H H') : Bd K C T f gl b du to n rs' szs ls gs ks Pc H' :=
  ⟨TbAt.fx e x.tb, e.1 _ _ x.fl (fun _ z => by cases z), e.1 _ _ x.gl (fun _ z => by cases z), e.1 _ _ x.bg (fun _ z => by cases z), e.1 _ _ x.du (fun _ z => by cases z), e.1 _ _ x.to (fun _ z => by cases z), e.2 x.tk⟩
theorem ty_vals (ks : List Str) (F : Str → Int) : (Ty ks F).map (·.2) = (ks.map F).map V.int := by
  unfold Ty
  rw [List.map_map, List.map_map] <;> rfl
theorem good_q : GoalOk "qqqqqq" := by
  refine ⟨⟨?_, ?_⟩, ?_, ?_, ?_⟩ <;> decide +kernel
theorem free_in {ls : List (List Bool)} {l : List Bool} (h : l ∈ ls) (m : List Bool) : freeB ls (l ++ m) = true := List.any_eq_true.mpr ⟨l, h, List.isPrefixOf_iff_prefix.mpr ⟨m, rfl⟩⟩
theorem dp_bools {K : PySem.W.Frag} {H : Hp} (b : Bool) : ∀ n, DpAll K H (List.replicate n (.bl b)) (List.replicate n (.bool b))
  | 0 => .nil
  | n + 1 => .cons (.bl b) (dp_bools b n)
theorem lay_bools (b : Bool) : ∀ n, PyData.canLayAll0 (List.replicate n (.bool b)) = true ∧ PyData.depthAll (List.replicate n (.bool b)) = 0
  | 0 => ⟨rfl, rfl⟩
  | n + 1 => by
    obtain ⟨a, c⟩ := lay_bools b n
    refine ⟨?_, ?_⟩
    · show (PyData.canLay0 (.bool b) && PyData.canLayAll0 (List.replicate n (.bool b))) = true
      rw [a] <;> rfl
    · show max (PyData.depth (.bool b)) (PyData.depthAll (List.replicate n (.bool b))) = 0
      rw [c] <;> rfl
theorem shaped_bools (b : Bool) (n : Nat) : SeqAt.shaped (.list (List.replicate n (.bool b))) = true := by
  obtain ⟨a, c⟩ := lay_bools b n
  show (PyData.canLayAll0 (List.replicate n (.bool b)) && decide (PyData.depthAll (List.replicate n (.bool b)) + 1 ≤ 64)) = true
  rw [a, c]
  decide
theorem eqv_bools (b : Bool) (n : Nat) : PyData.eqv (.list (List.replicate n (.bool b))) (.list (List.replicate n (.bool b))) = true := SeqAt.eqv_refl _ (lay_bools b n).1
theorem ev_fill {σ : L2.St} {H : Hp} {i j n : Nat} {l : List Bool} {b : Bool} {s : Str} (h0 : σ[j]? = some (some (.int (n : Int)))) (h1 : σ[i]? = some (some (txt l))) (hl : l.length ≤ n) (hn : n ≤ 100) (hs : s = bS [b]) :
    Ev (tOp rCatS (tVar i) (tOp rMulS (tC (.str s)) (tOp (rI0 fun i j => .int (i - j)) (tVar j) (tCB rLenT (tCons (tVar i) tNil))))) σ H (txt (l ++ List.replicate (n - l.length) b)) := by
  subst hs
  have e1 : Ev (tOp (rI0 fun i j => .int (i - j)) (tVar j) (tCB rLenT (tCons (tVar i) tNil))) σ H (.int ((n - l.length : Nat) : Int)) := ev_is (ev_op (ev_var h0) (ev_cb (ea_cons (ev_var h1) ea_nil) (rc_lenT (by rw [bS_len]; omega))) rv_I0) (congrArg V.int (by rw [bS_len]; omega))
  have e2 : Ev (tOp rMulS (tC (.str (bS [b]))) (tOp (rI0 fun i j => .int (i - j)) (tVar j) (tCB rLenT (tCons (tVar i) tNil)))) σ H (txt (List.replicate (n - l.length) b)) := ev_is (ev_op ev_c e1 (rv_mulS rfl (by omega))) (congrArg V.str (bS_rep b _))
  exact ev_is (ev_op (ev_var h1) e2 (rv_catS (by rw [bS_len, bS_len, List.length_replicate]; omega))) (congrArg V.str (bS_app _ _))
theorem perm_sum {xs ys : List Int} (h : xs.Perm ys) : xs.sum = ys.sum := by
  induction h with
  | nil => rfl
  | cons x _ ih => rw [List.sum_cons, List.sum_cons, ih]
  | swap x y l =>
    rw [List.sum_cons, List.sum_cons, List.sum_cons, List.sum_cons]
    omega
  | trans _ _ ih1 ih2 => exact ih1.trans ih2
theorem boot_dict : bootBuiltins "dict" = some (.type "dict") := by decide +kernel
theorem boot_tuple : bootBuiltins "tuple" = some (.type "tuple") := by decide +kernel
theorem boot_repr : bootBuiltins "repr" = some (.builtin "repr") := by decide +kernel
theorem boot_sum : bootBuiltins "sum" = some (.builtin "sum") := by decide +kernel
abbrev Ntr : List Str := ["_law_size_here", "_law_rows", "_law_idle", "_law_goals_here", "_law_sheet", "_law_pieces_here", "_law_counts", "_law_begins", "_law_part", "_law_aim", "_law_many", "_law_due", "_law_told", "_law_every", "_law_spot"]
section
variable {P : Program} {w : World} {K : PySem.W.Frag} {mg : Str → Option Value} {base : Heap} {C : Addr}
def spTold (K : PySem.W.Frag) : Sp := fun vs H Q _ => ∃ (n : Nat) (r f gl : Addr) (rs : List Row) (ls : List (List Bool)) (gs : List Str), vs = [.int (n : Int), .ref r, .ref f, .ref gl] ∧ (1 ≤ n ∧ n ≤ 100) ∧ H r = some (.dK (rs.map rowKV)) ∧ H f = some (.lst (ls.map txt)) ∧ H gl = some (.lst (gs.map V.str)) ∧
  RowsIn n rs ∧ rs.length ≤ 20 ∧ FreeIn n ls ∧ (∀ g ∈ gs, GoalOk g) ∧ gs.length ≤ 10 ∧ TK K H ∧ (∀ rs' szs, RsOf rs rs' → SzOf rs szs → Sound n rs rs' szs ls) ∧ RetX K (.bl true) H Q
set_option maxHeartbeats 16000000 in
theorem kpg_told (B : Bt mg) (tc : TbC K mg C) (kT : KpT P w K mg base C) (D : Df K mg "_law_told_right" s_law_told_right) (kp : Kp P w K mg base 8 "_law_pieces" ["_law_size_here", "_law_rows", "_law_idle"] spPieces)
    (kn : Kp2 P w K mg base 8 "numbers" ["table", "free"] ["free", "table"] (spNumbers K C)) (ku : Kp2 P w K mg base 8 "used_number" ["width", "free"] ["free", "width"] (spUsedN K)) (kf : Kp P w K mg base 8 "first_with" ["table", "goal", "free"] (spFirst K C)) (ki : Kp P w K mg base 8 "is_used" ["width", "free", "address"] (spIsUsed K)) (ko : KpO P w K mg base 8 C (spCall C)) :
    KpG P w K mg base 9 "_law_told_right" (spTold K) := by
  refine kpg_of D sc_law_told_right (fun _ _ _ _ _ _ us hl => match us, hl with | [_, _, _, _], _ => rfl) (fun vs H Q E h => ?_) (fun cdv A outer s H vs Q E hgu hr h => ?_)
  · obtain ⟨n, r, f, gl, rs, ls, gs, rfl, _⟩ := h
    rfl
  · obtain ⟨n, r, f, gl, rs, ls, gs, rfl, hn, h1, h2, h3, hrs, hr20, hf, hgs, hg10, hT, snd, kq⟩ := h
    obtain ⟨fo, cO, Fo⟩ := ko
    refine ⟨_, pss_cons (ps_asg (pe_tup (pa_cons (pe_T kT tc.g hr (pa_cons (pv 0) (pa_cons (pv 1) pa_nil))) (pa_cons (pe_k kp hr (pa_cons (pv 0) (pa_cons (pv 1) (pa_cons (pv 2) pa_nil)))) (pa_cons pe_dnewK (pa_cons pe_dnewK pa_nil)))))
        (pg_tup (by rfl) (pgs_cons (pg_name (i := 4) sc_law_told_right.nd rfl (.inl rfl)) (pgs_cons (pg_name (i := 5) sc_law_told_right.nd rfl (.inl rfl)) (pgs_cons (pg_name (i := 6) sc_law_told_right.nd rfl (.inr rfl)) (pgs_cons (pg_name (i := 7) sc_law_told_right.nd rfl (.inl rfl)) pgs_nil))))))
      (pss_cons (ps_for PassesOwn.never rfl (pi_list (pv 5)) (pg_tup (by rfl) (pgs_cons (pg_name (i := 8) sc_law_told_right.nd rfl (.inl rfl)) (pgs_cons (pg_name (i := 9) sc_law_told_right.nd rfl (.inl rfl)) (pgs_cons (pg_name (i := 10) sc_law_told_right.nd rfl (.inl rfl)) pgs_nil))))
        (pss_cons (ps_dput (u1 hr) (pv 6) (pv 9) (pe_op op_add (pe_dget2 (u1 hr) (pv 6) (pv 9) pe_int ⟨by rfl, by rfl, by rfl, by rfl⟩) (pv 10)) (by rfl))
        (pss_one (ps_dput (u1 hr) (pv 7) (pv 9) (pe_dget2 (u1 hr) (pv 7) (pv 9) (pe_op op_catS (pv 8) (pe_op op_mulS pe_str (pe_op op_sub (pv 0) (pe_callB cr_lenT (by rfl) B.len boot_len (pa_cons (pv 8) pa_nil))))) ⟨by rfl, by rfl, by rfl, by rfl⟩) (by rfl)))))
      (pss_cons (ps_set (i := 11) sc_law_told_right.nd rfl (.inl rfl) (pe_callTy (cr_dictP rfl) (by rfl) B.dict boot_dict (pa_cons
        (pe_lc (own := [("_law_aim", 9)]) (g := gName 9) (by rfl) sc_law_told_right.nd (pi_list (pe_callB cr_sortedS (by rfl) B.sorted boot_sorted (pa_cons (pe_callTy (cr_listD rfl) (by rfl) B.list boot_list (pa_cons (pv 6) pa_nil)) pa_nil))) (blkOk_by (N := Ntr) (sc := defScope s_law_told_right) (by decide +kernel))
          (fun _ _ _ _ _ => pg_name (i := 9) sc_law_told_right.nd rfl (Or.inl rfl)) (fun _ _ _ _ _ => pts_nil) (fun _ _ _ _ _ => pe_tup (pa_cons (pv 9) (pa_cons (pe_dget (u1 hr) (pv 6) (pv 9) (by intro _ _; rfl)) pa_nil)))) pa_nil)))
      (pss_cons (ps_par (i := 12) (j := 13) (by rfl) sc_law_told_right.nd rfl rfl (by decide) rfl rfl (pa_cons (pe_k kn.kp hr (pa_cons (pv 4) (pa_cons (pv 2) pa_nil))) (pa_cons (pe_callB (cr_sum rfl) (by rfl) B.sum boot_sum (pa_cons (pe_listVals rfl (by rfl) B.list (pv 6)) pa_nil)) pa_nil)) (by rfl))
      (pss_cons (ps_if (PW.pt (pw_or (pt_cmpR op_ne (pe_callB (cr_reprT hgu hr) (by rfl) B.repr boot_repr (pa_cons (pv 12) pa_nil)) (pe_callB (cr_reprT hgu hr) (by rfl) B.repr boot_repr (pa_cons (pv 11) pa_nil)) (nomark _))
          (pw_or1 (pt_cmpR op_ne (pe_callB (cr_reprT hgu hr) (by rfl) B.repr boot_repr (pa_cons (pe_k2 kn hr (pk_cons (pe_revL (pv 2)) (pk_cons (pv 4) pk_nil))) pa_nil)) (pe_callB (cr_reprT hgu hr) (by rfl) B.repr boot_repr (pa_cons (pv 11) pa_nil)) (nomark _))))) (pss_one (ps_ret pe_bl)) pss_nil)
      (pss_cons (ps_if (pt_cmpR op_ne (pe_callB (cr_reprI hgu hr) (by rfl) B.repr boot_repr (pa_cons (pe_lst (pa_cons (pe_k ku.kp hr (pa_cons (pv 0) (pa_cons (pv 2) pa_nil))) (pa_cons (pe_k2 ku hr (pk_cons (pe_callTy cr_tupOf (by rfl) B.tuple boot_tuple (pa_cons (pv 2) pa_nil)) (pk_cons (pv 0) pk_nil))) pa_nil))) pa_nil)) (pe_callB (cr_reprI hgu hr) (by rfl) B.repr boot_repr (pa_cons (pe_lst (pa_cons (pv 13) (pa_cons (pv 13) pa_nil))) pa_nil)) (nomark _)) (pss_one (ps_ret pe_bl)) pss_nil)
      (pss_cons (ps_if (pt_cmpR op_ne (pe_callB (cr_sum rfl) (by rfl) B.sum boot_sum (pa_cons (pe_listVals rfl (by rfl) B.list (pv 12)) pa_nil)) (pv 13) (nomark _)) (pss_one (ps_ret pe_bl)) pss_nil)
      (pss_cons (ps_for PassesOwn.never rfl (pi_list (pe_op op_cat (pv 3) (pe_lst (pa_cons pe_str pa_nil)))) (pg_name (i := 9) sc_law_told_right.nd rfl (.inl rfl))
        (pss_cons (ps_set (i := 14) sc_law_told_right.nd rfl (.inl rfl) (pe_k kf hr (pa_cons (pv 4) (pa_cons (pv 9) (pa_cons (pv 2) pa_nil)))))
        (pss_cons (ps_if (PW.pt (pw_or (pt_cmpR op_ne (pv 14) (pe_dget1 (u1 hr) (pv 7) (pv 9) ⟨by rfl, by rfl, by rfl, by rfl⟩) (nomark _)) (pw_or1 (pt_cmpR op_ne (pe_k kf hr (pa_cons (pv 4) (pa_cons (pv 9) (pa_cons (pe_revL (pv 2)) pa_nil)))) (pv 14) (nomark _))))) (pss_one (ps_ret pe_bl)) pss_nil)
        (pss_one (ps_if (PW.pt (pw_and (pt_cmpR op_nN (pv 14) pe_non (nomark _)) (pw_and1 (pt_not (PW.pt (pw_and (pt_val (pe_k ki hr (pa_cons (pv 0) (pa_cons (pv 2) (pa_cons (pv 14) pa_nil))))) (pw_and1 (pt_cmpR op_eq (StX.pe_callO (pv 4) cO Fo hr pass0 (pa_cons (pv 14) pa_nil)) (pv 9) (nomark _))))))))) (pss_one (ps_ret pe_bl)) pss_nil)))))
      (pss_one (ps_ret (pe_cmpR (op_eqD (u64 hr)) (pe_lc (own := [("_law_part", 8)]) (g := gName 8) (by rfl) sc_law_told_right.nd (pi_list (pv 2)) (blkOk_by (N := Ntr) (sc := defScope s_law_told_right) (by decide +kernel))
          (fun _ _ _ _ _ => pg_name (i := 8) sc_law_told_right.nd rfl (Or.inl rfl)) (fun _ _ _ _ _ => pts_nil) (fun _ _ _ _ _ => pe_k ki hr (pa_cons (pv 0) (pa_cons (pv 2) (pa_cons (pe_op op_catS (pv 8) (pe_op op_mulS pe_str (pe_op op_sub (pv 0) (pe_callB cr_lenT (by rfl) B.len boot_len (pa_cons (pv 8) pa_nil))))) pa_nil)))))
        (pe_op op_rep (pe_lst (pa_cons pe_bl pa_nil)) (pe_callB cr_lenS (by rfl) B.len boot_len (pa_cons (pv 2) pa_nil))) (nomark _))))))))))), ?_⟩
    have h20 := hf.few
    let Pc := pcOf n rs ls
    let ps := psOf n Pc
    refine q_asgT (ta_four (en_make (C := C) (rs := rs) (ea_cons (ev_var rfl) (ea_cons (ev_var rfl) ea_nil)) rfl hn (.inr ⟨r, rfl, h1⟩) hrs H (Ex.refl _) _ fun T H1 hT0 e1 ⟨rs', szs, hR, hS, tb⟩ =>
      call_of (ea_cons (ev_var rfl) (ea_cons (ev_var rfl) (ea_cons (ev_var rfl) ea_nil))) fun H1' e1' => ⟨n, r, f, rs, ls, rfl, hn.2, (e1.trans e1') _ _ h1, (e1.trans e1') _ _ h2, by omega, h20, hrs.2.1, hf.le, fun D H2 hD e2 ⟨ys, y1, y2⟩ =>
      en_newK H2 (Ex.refl _) _ fun a H3 ha e3 ha3 => en_newK H3 (Ex.refl _) _ fun b H4 hb e4 hb4 => ⟨sz_of (by show 4 ≤ 100000; decide), fun p hp => ?_⟩⟩))
    have S := snd rs' szs hR hS
    refine eg_tup (st_of upd_same) rfl (egs_cons eg_name (egs_cons eg_name (egs_cons eg_name (egs_cons eg_name egs_nil)))) _ (Ex.refl _) _ ?_
    obtain ⟨H5, hH5⟩ : ∃ H5, H5 = upd H4 p (.tup [.ref T, .ref D, .ref a, .ref b]) := ⟨_, rfl⟩
    have e5 : Ex H4 H5 := hH5 ▸ Ex.new hp
    rw [← hH5]
    have e25 : Ex H2 H5 := e3.trans (e4.trans e5)
    have e12 : Ex H1 H2 := e1'.trans e2
    have e02 : Ex H H2 := e1.trans e12
    have ha0 : H a = none := fresh_back e02 ha
    have hb2 : H2 b = none := fresh_back e3 hb
    have hb0 : H b = none := fresh_back e02 hb2
    have hba : b ≠ a := fun z => by rw [z, ha3] at hb; cases hb
    have tb2 := TbAt.ex e12 tb
    have a5 : H5 a = some (.dK []) := e5 _ _ (e4 _ _ ha3)
    have b5 : H5 b = some (.dK []) := e5 _ _ hb4
    have y5 : H5 D = some (.lst ys) := e25 _ _ y1
    have p5 : Paired (PcV n H5) Pc ys := pc_tk (tk_ex e25) y2
    have ab2 : ∀ {c o}, H2 c = some o → c ≠ a ∧ c ≠ b := fun {c o} hc => ⟨(fun z => by rw [z, ha] at hc; cases hc), (fun z => by rw [z, hb2] at hc; cases hc)⟩
    have pcl : Pc.length ≤ 12001 := pcOf_len hn.2 (fun r hr => (hrs.2.1 r hr).1) hf.le (by omega)
    have yl : Pc.length = ys.length := paired_len p5
    have nml : ∀ i, (names (psOf n (Pc.take i))).length ≤ 12001 := fun i => by
      have g1 := names_len (psOf n (Pc.take i))
      have g2 : (psOf n (Pc.take i)).length ≤ Pc.length := by
        unfold psOf
        rw [List.length_map, List.length_take]
        omega
      omega
    refine q_forL (K := K) (xs := ys) (a := D) (ev_var rfl) (sq_of y5) (fun i σ H' => ∃ v8 v9 v10, σ = [some (.int (n : Int)), some (.ref r), some (.ref f), some (.ref gl), some (.ref T), some (.ref D), some (.ref a), some (.ref b), v8, v9, v10, none, none, none, none] ∧ ExN2 a b H5 H' ∧
        H' a = some (.dK (Ty (names (psOf n (Pc.take i))) (tot (psOf n (Pc.take i))))) ∧ H' b = some (.dK (TyV (names (psOf n (Pc.take i))) fun g => txt (bgF n (Pc.take i) g))))
      (fun H6 e6 => ⟨none, none, none, rfl, fun c o _ _ h => e6 _ _ h, e6 _ _ a5, e6 _ _ b5⟩) (fun i σ H' _ ⟨_, _, _, _, x, _, _⟩ => sq_of (x _ _ (fun z => by rw [z, a5] at y5; cases y5) (fun z => by rw [z, b5] at y5; cases y5) y5)) (fun i x σ H' hx ⟨v8, v9, v10, hσ, xn, xa, xb⟩ => ?_) (fun σ H6 ⟨v8, v9, v10, hσ, xn, xa, xb⟩ => ?_)
    · subst hσ
      obtain ⟨qq, hq, U, rfl, hU⟩ := paired_mem p5 i x hx
      have hU' := xn _ _ (fun z => by rw [z, a5] at hU; cases hU) (fun z => by rw [z, b5] at hU; cases hU) hU
      have qn : qq.1.length ≤ n := pcOf_le n rs ls (List.mem_of_getElem? hq)
      have nx : Pc.take (i + 1) = Pc.take i ++ [qq] := by rw [List.take_add_one, hq] <;> rfl
      refine eg_tup (st_of hU') rfl (egs_cons eg_name (egs_cons eg_name (egs_cons eg_name egs_nil))) H' (Ex.refl _) _ ?_
      refine ev_op (ev_dget2 (k := .inr qq.2) (ev_var rfl) (ev_var rfl) ev_c xa) (ev_var rfl) (by rw [tally_get]; exact rv_I0) H' (Ex.refl _) _ fun H7 e7 => ⟨.ref a, rfl, .str qq.2, rfl, a, _, rfl, DPut.k (k := .inr qq.2) (e7 _ _ xa) ?_, ?_⟩
      · unfold Ty
        rw [List.length_map]
        have := nml i
        exact sz_lt (by omega)
      rw [tally_put, ← ps_snoc, ← nx]
      have xb7 : (upd H7 a (.dK (Ty (names (psOf n (Pc.take (i + 1)))) (tot (psOf n (Pc.take (i + 1))))))) b = some (.dK (TyV (names (psOf n (Pc.take i))) fun g => txt (bgF n (Pc.take i) g))) := (upd_ne hba).trans (e7 _ _ xb)
      show sDPut (tVar 7) (tVar 9) (tDGet2 (tVar 7) (tVar 9) _) _ _ _
      refine ev_dget2 (k := .inr qq.2) (ev_var rfl) (ev_var rfl) (show Ev _ _ _ (txt (fillF n qq.1)) from ev_fill (b := false) (by rfl) (by rfl) qn hn.2 bS_0) xb7 _ (Ex.refl _) _ fun H8 e8 => ⟨.ref b, rfl, .str qq.2, rfl, b, _, rfl, DPut.k (k := .inr qq.2) (e8 _ _ xb7) ?_, ?_⟩
      · unfold TyV
        rw [List.length_map]
        have := nml i
        exact sz_lt (by omega)
      rw [beg_put, ← nx]
      refine ⟨_, _, _, rfl, fun c o ca cb h => (upd_ne cb).trans (e8 _ _ ((upd_ne ca).trans (e7 _ _ (xn c o ca cb h)))), ?_, upd_same⟩
      exact (upd_ne (Ne.symm hba)).trans (e8 _ _ upd_same)
    · subst hσ
      have tall : Pc.take ys.length = Pc := List.take_of_length_le (Nat.le_of_eq yl)
      rw [tall] at xa xb
      have up : ∀ {c o}, H2 c = some o → H6 c = some o := fun {c o} hc => xn _ _ (ab2 hc).1 (ab2 hc).2 (e25 _ _ hc)
      have E6 : Ex H H6 := fun c o hc => up (e02 _ _ hc)
      have tb6 : TbAt C H6 T n rs' szs := let ⟨dx, d, sa, t1, t2, t3⟩ := tb2; ⟨dx, d, sa, up t1, up t2, up t3⟩
      have few := S.few
      have rl : (rs'.map (·.1)).Perm (rs.map (·.1)) := hR.perm
      have rl2 : rs'.length = rs.length := by
        have := rl.length_eq
        rwa [List.length_map, List.length_map] at this
      have ti : TabIn n rs' szs := ⟨hn, fun x hx => by
        obtain ⟨y, hy, e⟩ := List.mem_map.mp (rl.mem_iff.mp (List.mem_map_of_mem hx))
        rw [← e]
        exact (hrs.2.1 y hy).1, by omega, fun k hk => by
        obtain ⟨y, hy, e⟩ := (hS.mem k).mp hk
        have := (hrs.2.1 y hy).1
        omega⟩
      have frev : FreeIn n ls.reverse := ⟨(List.reverse_perm ls).nodup_iff.mpr hf.nd, fun l hl => hf.le l (List.mem_reverse.mp hl), by rw [List.length_reverse]; exact hf.few⟩
      refine q_asgN (N := fun o H' => ∃ ks : List Str, ks.Perm (names ps) ∧ sortedS ks = true ∧ H' o = some (.dK (Ty ks (tot ps)))) (en_dictP (N := fun o H' => ∃ ks : List Str, ks.Perm (names ps) ∧ sortedS ks = true ∧ ∃ us, H' o = some (.lst us) ∧ Paired (fun i v => ∃ U, v = .ref U ∧ H' U = some (.tup [.str ((ks[i]?).getD ""), .int (tot ps ((ks[i]?).getD ""))])) (List.range ks.length) us)
        (lc_of (en_sortSL (K := K) (xs := names ps) (el_is (el_listD (ea_cons (ev_var rfl) ea_nil) xa) (by unfold Ty; rw [List.map_map] <;> rfl)) few) fun o H7 ho e7 ⟨ks, k1, k2, k3⟩ => ?_) fun o H7 e7 ⟨ks, k1, k2, us, u1, u2⟩ => ?_) fun du H7 hdu e7 ⟨ks, k1, k2, k3⟩ => ?_
      · have kl := k1.length_eq
        have big : names ps = names (psOf n (pcOf n rs ls)) := rfl
        rw [big] at kl
        refine (en_lc (f := fun _ => true) (E := fun i v H' => ∃ U, v = .ref U ∧ H' U = some (.tup [.str ((ks[i]?).getD ""), .int (tot ps ((ks[i]?).getD ""))])) (ei_list (K := K) ev_c (sq_of k3)) (by rw [List.length_map]; omega) (fun i v Ha Hb tk ⟨U, u1, u2⟩ => ⟨U, u1, tk _ _ u2⟩) fun i x H8 hi e8 hx => ?_).imp fun o2 H8 e8 ⟨us, u1, u2⟩ => ⟨ks, k1, k2, us, u1, ?_⟩
        · rw [List.getElem?_map] at hx
          obtain ⟨g, hg, rfl⟩ := Option.map_eq_some_iff.mp hx
          refine ⟨_, ?_, eg_name, et_yes, fun _ => ?_⟩
          · rfl
          · rw [hg]
            refine EvN.p (en_u (eu_tup (ea_cons (ev_var rfl) (ea_cons (ev_dget (k := .inr g) (v := .int (tot ps g)) (ev_var rfl) (ev_var rfl) (e8 _ _ (e7 _ _ xa)) ?_) ea_nil)) (by show 2 ≤ 100000; decide)))
            rw [ty_val, if_pos (k1.mem_iff.mp (List.mem_of_getElem? hg))]
        · rw [List.length_map, List.filter_eq_self.mpr fun _ _ => rfl] at u2
          exact u2
      · obtain ⟨us2, hus, hp2⟩ : ∃ us2 : List Addr, us = us2.map V.ref ∧ Paired (fun r (g : Str) => H7 r = some (.tup [.str g, .int (tot ps g)])) us2 ks := by
          have key : ∀ (is : List Nat) (us : List V), Paired (fun (i : Nat) v => ∃ U, v = V.ref U ∧ H7 U = some (.tup [.str ((ks[i]?).getD ""), .int (tot ps ((ks[i]?).getD ""))])) is us → ∃ us2 : List Addr, us = us2.map V.ref ∧ Paired (fun r (g : Str) => H7 r = some (.tup [.str g, .int (tot ps g)])) us2 (is.map fun i => (ks[i]?).getD "") := by
            intro is us h
            induction h with
            | nil => exact ⟨[], rfl, .nil⟩
            | cons a _ ih =>
              obtain ⟨U, rfl, hU⟩ := a
              obtain ⟨us2, rfl, h2⟩ := ih
              exact ⟨U :: us2, rfl, .cons hU h2⟩
          obtain ⟨us2, x1, x2⟩ := key _ _ u2
          refine ⟨us2, x1, ?_⟩
          have er : (List.range ks.length).map (fun i : Nat => (ks[i]?).getD ("" : Str)) = ks := by
            refine List.ext_getElem (by simp) fun i y1 y2 => ?_
            rw [List.getElem_map, List.getElem_range, List.getElem?_eq_getElem y2] <;> rfl
          rw [er] at x2
          exact x2
        refine ⟨us2, Ty ks (tot ps), by rw [u1, hus], ?_, fun o H8 _ h8 => ⟨ks, k1, k2, ?_⟩⟩
        · have key : ∀ {us2 : List Addr} {ks : List Str}, Paired (fun r (g : Str) => H7 r = some (.tup [.str g, .int (tot ps g)])) us2 ks → Paired (fun r (kv : Key × V) => H7 r = some (.tup [kV kv.1, kv.2])) us2 (Ty ks (tot ps)) := by
            intro us2 ks h
            induction h with
            | nil => exact .nil
            | cons a _ ih => exact .cons a ih
          exact key hp2
        · rw [h8, merge_nd]
          unfold Ty
          rw [List.map_map]
          exact List.Pairwise.map _ (fun a b ne e => ne (Sum.inr.inj e)) (k1.nodup_iff.mpr (names_nd ps))
      · have knd : ks.Nodup := k1.nodup_iff.mpr (names_nd ps)
        have ksm : ∀ g, g ∈ ks ↔ g ∈ names ps := fun g => k1.mem_iff
        have klen : ks.length < 64 := by
          rw [k1.length_eq]
          exact few
        have E7 : Ex H H7 := E6.trans e7
        /- what numbers(..) gives is due -/
        have same : ∀ fr zs ks2, (fr = ls ∨ fr = ls.reverse) → ZsOf (rs'.map (·.1) ++ fr) zs → ks2.Perm (names (tallyOf n rs' szs fr zs)) → sortedS ks2 = true → ks2 = ks ∧ Ty ks2 (tot (tallyOf n rs' szs fr zs)) = Ty ks (tot ps) := fun fr zs ks2 hfr hz hp hs => by
          have e1 : ks2 = ks := sorted_eq (hp.nodup_iff.mpr (names_nd _)) knd hs k2 fun g => by rw [hp.mem_iff, S.nm fr zs hfr hz g, ksm]
          refine ⟨e1, ?_⟩
          rw [e1]
          unfold Ty
          refine List.map_congr_left fun g _ => ?_
          rw [S.tt fr zs hfr hz g]
        have shg : ∀ g ∈ ks, ShortG g := fun g hg => S.sg g ((ksm g).mp hg)
        have lgg : ∀ g ∈ ks, (tot ps g).natAbs.log2 < 1920 := fun g _ => S.lg g
        show tSeq _ _ _ [some (.int (n : Int)), some (.ref r), some (.ref f), some (.ref gl), some (.ref T), some (.ref D), some (.ref a), some (.ref b), v8, v9, v10, some (.ref du), none, none, none] H7
        refine q_parG (ta_two (call_of (ea_cons (ev_var rfl) (ea_cons (ev_var rfl) ea_nil)) fun H8 e8 => ⟨T, n, rs', szs, f, ls, rfl, TbAt.ex (e7.trans e8) tb6, ti, .inl ((E7.trans e8) _ _ h2), hf, LamX.Tabs.ext hT (E7.trans e8), fun zs ks2 to H9 hz hp2 hs2 x9 hto => ?_⟩))
        obtain ⟨kse, tye⟩ := same ls zs ks2 (.inl rfl) hz hp2 hs2
        rw [tye] at hto
        have X79 : Fx K H7 H9 := (Fx.of e8).trans x9
        have B9 : Bd K C T f gl b du to n rs' szs ls gs ks Pc H9 := ⟨TbAt.fx X79 (TbAt.ex e7 tb6), X79.1 _ _ (E7 _ _ h2) (fun _ z => by cases z), X79.1 _ _ (E7 _ _ h3) (fun _ z => by cases z), X79.1 _ _ (e7 _ _ xb) (fun _ z => by cases z), X79.1 _ _ k3 (fun _ z => by cases z), hto, X79.2 (LamX.Tabs.ext hT E7)⟩
        have xa9 : H9 a = some (.dK (Ty (names ps) (tot ps))) := X79.1 _ _ (e7 _ _ xa) (fun _ z => by cases z)
        have XH9 : Fx K H H9 := (Fx.of E7).trans X79
        refine ev_sumL (K := K) (is := (names ps).map (tot ps)) (el_is (el_listVals (ev_var rfl) xa9) (ty_vals _ _)) H9 (Ex.refl _) _ fun H10 e10 => ⟨_, _, rfl, ?_⟩
        have B10 := B9.fx (Fx.of e10)
        have X10 : Fx K H H10 := XH9.trans (Fx.of e10)
        let σ0 : L2.St := [some (.int (n : Int)), some (.ref r), some (.ref f), some (.ref gl), some (.ref T), some (.ref D), some (.ref a), some (.ref b), v8, v9, v10, some (.ref du), some (.ref to), some (.int (everyOf ps)), none]
        show tSeq _ _ _ σ0 H10
        have rcT : ∀ {Ha : Hp} {z : Addr}, Ha z = some (.dK (Ty ks (tot ps))) → RC rReprT [.ref z] Ha (.str (tyText ks (tot ps))) := fun {Ha z} h H1 e Q q => ⟨z, ks, tot ps, rfl, e _ _ h, by omega, shg, lgg, q H1 (Ex.refl _)⟩
        refine q_ifC (R := fun H2 => Fx K H10 H2) (fun Kc kc => t_orF (et_is (et_test (ev_op (ev_cb (ea_cons (ev_var rfl) ea_nil) (rcT B10.to)) (ev_cb (ea_cons (ev_var rfl) ea_nil) (rcT B10.du)) (rv_ne rfl))) (by simp)) fun H11 e11 => ?_) fun H11 X11 => ?_
        · have B11 := B10.fx (Fx.of e11)
          refine tt_op (cb_one (callN_two (el_rev (K := K) (ev_var rfl) B11.fl H11 (Ex.refl _) _ fun rv H12 hrv e12 h12 => ?_)))
          have B12 := B11.fx (Fx.of e12)
          refine ⟨.ref T, rfl, rfl, rfl, T, n, rs', szs, rv, ls.reverse, rfl, B12.tb, ti, .inl (by rw [h12, List.map_reverse]), frev, B12.tk, fun zs ks3 o H13 hz hp3 hs3 x13 ho => ?_⟩
          obtain ⟨_, tye2⟩ := same ls.reverse zs ks3 (.inr rfl) hz hp3 hs3
          rw [tye2] at ho
          have B13 := B12.fx x13
          refine rcT ho H13 (Ex.refl _) _ fun H14 e14 => ?_
          refine cb_one ⟨.ref du, rfl, rcT (e14 _ _ B13.du) H14 (Ex.refl _) _ fun H15 e15 => ⟨rfl, false, by simp, kc H15 ((Fx.of (e11.trans e12)).trans (x13.trans (Fx.of (e14.trans e15))))⟩⟩
        have B11 := B10.fx X11
        refine q_ifC (R := fun H2 => Fx K H11 H2) (fun Kc kc => ?_) fun H12 X12 => ?_
        · refine tt_op (cb_one (show tLst (tCons (tCall (spUsedN K) [] E0 (tCons (tVar 0) (tCons (tVar 2) tNil))) (tCons _ tNil)) σ0 H11 _ from ta_two ?_))
          refine call_of (ea_cons (ev_var rfl) (ea_cons (ev_var rfl) ea_nil)) fun H12 e12 => ⟨n, f, ls, rfl, hn, .inl (e12 _ _ B11.fl), hf, (B11.fx (Fx.of e12)).tk, fun zs hz H13 x13 => ?_⟩
          have B13 := (B11.fx (Fx.of e12)).fx x13
          refine callN_two ?_
          refine eu_tupOf (K := K) (ea_cons (ev_var rfl) ea_nil) (sq_of B13.fl) H13 (Ex.refl _) _ fun tp H14 htp e14 h14 => ⟨.int (n : Int), rfl, rfl, rfl, n, tp, ls, rfl, hn, .inr h14, hf, (B13.fx (Fx.of e14)).tk, fun zs2 hz2 H15 x15 => ⟨sz_of (by show 2 ≤ 100000; decide), fun L hL => ?_⟩⟩
          rw [S.us zs hz, S.us zs2 hz2]
          have two : ∀ i ∈ [everyOf ps, everyOf ps], i.natAbs.log2 < 1920 := fun i hi => by
            simp only [List.mem_cons, List.not_mem_nil, or_false, or_self] at hi
            rw [hi]
            exact S.ev
          refine ⟨L, [everyOf ps, everyOf ps], rfl, sq_of upd_same, by show 2 ≤ 64; decide, two, ?_⟩
          refine ⟨_, rfl, _, rfl, sz_of (by show 2 ≤ 100000; decide), fun L2 hL2 => ⟨L2, [everyOf ps, everyOf ps], rfl, sq_of upd_same, by show 2 ≤ 64; decide, two, rfl, false, by simp, kc _ ?_⟩⟩
          exact (Fx.of e12).trans (x13.trans ((Fx.of e14).trans (x15.trans ((Fx.of (Ex.new hL)).trans (Fx.of (Ex.new hL2))))))
        have B12 := B11.fx X12
        have evs : (ks.map (tot ps)).sum = everyOf ps := perm_sum (k1.map _)
        refine q_when (b := false) (et_is (et_test (ev_op (ev_sumL (K := K) (is := ks.map (tot ps)) (el_is (el_listVals (ev_var rfl) B12.to) (ty_vals _ _))) (ev_var rfl) (rv_ne rfl))) (by rw [evs]; simp)) (fun z => absurd z Bool.false_ne_true) fun _ H13 e13 => ?_
        have B13 := B12.fx (Fx.of e13)
        have X13 : Fx K H H13 := X10.trans (X11.trans (X12.trans (Fx.of e13)))
        let spot : Str → V := fun g => if g ∈ names ps then txt (bgF n Pc g) else .non
        let xs : List Str := gs ++ [("qqqqqq" : Str)]
        have hxs : (xs.map V.str).length ≤ 100000 := by
          rw [List.length_map]
          show (gs ++ [_]).length ≤ 100000
          rw [List.length_append]
          show gs.length + 1 ≤ 100000
          omega
        refine q_forNLn (K := K) (xs := xs.map V.str) (el_is (el_catA (ev_var rfl) B13.gl (el_lst (ea_cons ev_c ea_nil) (by show 1 ≤ 100000; decide)) (by rw [List.length_map]; show gs.length + 1 ≤ 100000; omega)) (by show _ = (gs ++ [_]).map V.str; rw [List.map_append] <;> rfl))
          (fun q i σ H' => ∃ v9 v14, σ = [some (.int (n : Int)), some (.ref r), some (.ref f), some (.ref gl), some (.ref T), some (.ref D), some (.ref a), some (.ref b), v8, v9, v10, some (.ref du), some (.ref to), some (.int (everyOf ps)), v14] ∧ Fx K H13 H' ∧ H' q = some (.lst (xs.map V.str)))
          (fun q H14 hq e14 h14 => ⟨_, _, rfl, Fx.of e14, h14⟩) (fun q i σ H' _ ⟨_, _, _, _, h⟩ => sq_of h) (fun q i x σ H14 hx ⟨v9, v14, hσ, x14, h14⟩ => ?_) (fun q σ H14 ⟨v9, v14, hσ, x14, h14⟩ => ?_)
        · subst hσ
          rw [List.getElem?_map] at hx
          obtain ⟨g, hg, rfl⟩ := Option.map_eq_some_iff.mp hx
          have hgo : GoalOk g := by
            rcases List.mem_append.mp (List.mem_of_getElem? hg) with h | h
            · exact hgs g h
            · rw [List.mem_singleton.mp h]
              exact good_q
          have B14 := B13.fx x14
          have bgv : ∀ {Ha : Hp}, Bd K C T f gl b du to n rs' szs ls gs ks Pc Ha → (valV (TyV (names ps) fun g => txt (bgF n Pc g)) (.inr g)).getD .non = spot g := fun {Ha} _ => by
            rw [tyv_val]
            show (if g ∈ names ps then some (txt (bgF n Pc g)) else none).getD .non = if g ∈ names ps then txt (bgF n Pc g) else .non
            split <;> rfl
          have sc : scal (spot g) (spot g) = true := by
            show scal (if g ∈ names ps then txt (bgF n Pc g) else .non) (if g ∈ names ps then txt (bgF n Pc g) else .non) = true
            split <;> rfl
          refine q_asgX (K := K) (P := fun v _ => v = spot g) (fun Q9 q9 => call_of (ea_cons (ev_var rfl) (ea_cons (ev_var rfl) (ea_cons (ev_var rfl) ea_nil))) fun H15 e15 => ⟨T, n, rs', szs, f, ls, g, rfl, (B14.fx (Fx.of e15)).tb, ti, hgo, .inl (e15 _ _ B14.fl), hf, (B14.fx (Fx.of e15)).tk, fun zs v H16 hz hv x16 => q9 v H16 ((Fx.of e15).trans x16) (S.fs ls zs g v (.inl rfl) hz hv)⟩) fun v H15 x15 hv => ?_
          subst hv
          have B15 := B14.fx x15
          let σ1 : L2.St := [some (.int (n : Int)), some (.ref r), some (.ref f), some (.ref gl), some (.ref T), some (.ref D), some (.ref a), some (.ref b), v8, some (.str g), v10, some (.ref du), some (.ref to), some (.int (everyOf ps)), some (spot g)]
          show tSeq _ _ _ σ1 H15
          refine q_ifC (R := fun H2 => Fx K H15 H2) (fun Kc kc => t_orF (et_is (et_test (ev_op (ev_var rfl) (ev_is (ev_dget1 (k := .inr g) (ev_var rfl) (ev_var rfl) B15.bg) (bgv B15)) (rv_ne sc))) (by simp)) fun H16 e16 => ?_) fun H16 X16 => ?_
          · have B16 := B15.fx (Fx.of e16)
            refine tt_op (call_g (ta_three ⟨_, rfl, _, rfl, el_rev (K := K) (ev_var rfl) B16.fl H16 (Ex.refl _) _ fun rv H17 hrv e17 h17 => ?_⟩))
            have B17 := B16.fx (Fx.of e17)
            refine ⟨T, n, rs', szs, rv, ls.reverse, g, rfl, B17.tb, ti, hgo, .inl (by rw [h17, List.map_reverse]), frev, B17.tk, fun zs v H18 hz hv x18 => ?_⟩
            have hv2 : v = spot g := S.fs ls.reverse zs g v (.inr rfl) hz hv
            subst hv2
            exact ⟨_, rfl, sc, false, by simp, kc H18 ((Fx.of (e16.trans e17)).trans x18)⟩
          have B16 := B15.fx X16
          refine s_ifC (R := fun H2 => Fx K H16 H2) (fun Kc kc => ?_) fun H17 X17 => ⟨_, _, rfl, x14.trans (x15.trans (X16.trans X17)), x15.1 _ _ h14 (fun _ z => by cases z) |> fun h => X17.1 _ _ (X16.1 _ _ h (fun _ z => by cases z)) (fun _ z => by cases z)⟩
          by_cases hgn : g ∈ names ps
          · obtain ⟨bl, bf, bgo⟩ := S.bg g hgn
            have sp : spot g = txt (bgF n Pc g) := if_pos hgn
            refine (et_is (et_test (ev_op (ev_var rfl) ev_c rv_nN)) (show (!decide (spot g = .non)) = true by rw [sp] <;> rfl)) H16 (Ex.refl _) _ fun H17 e17 => ?_
            have B17 := B16.fx (Fx.of e17)
            show tCall (spIsUsed K) [] E0 (tCons (tVar 0) (tCons (tVar 2) (tCons (tVar 14) tNil))) σ1 H17 _
            refine call_of (ea_cons (ev_var rfl) (ea_cons (ev_var rfl) (ea_cons (ev_var rfl) ea_nil))) fun H18 e18 => ?_
            have B18 := B17.fx (Fx.of e18)
            rw [sp]
            refine ⟨n, f, ls, bgF n Pc g, rfl, hn, .inl B18.fl, hf, bl, B18.tk, fun H19 x19 => ?_⟩
            have B19 := B18.fx x19
            have bf' : freeB ls (bgF n Pc g) = false := bf
            rw [bf']
            refine ⟨true, rfl, ?_⟩
            obtain ⟨dx, dd, sa, t1, t2, t3⟩ := id B19.tb
            show tTest (tOp rEq _ (tVar 9)) σ1 H19 _
            refine tt_op ⟨.ref T, rfl, T, rfl, ta_one ⟨spot g, rfl, .inr ⟨dx, _, t1⟩, T, n, rs', szs, bgF n Pc g, by rw [sp], B19.tb, ti, bl, fun H20 e20 => ?_⟩⟩
            have bgo' : goalM rs' szs (bgF n Pc g) = g := bgo
            rw [bgo']
            exact ⟨.str g, rfl, rfl, true, by rw [decide_eq_true rfl], kc H20 ((Fx.of (e17.trans e18)).trans (x19.trans (Fx.of e20)))⟩
          · have sp : spot g = .non := if_neg hgn
            refine (et_is (et_test (ev_op (ev_var rfl) ev_c rv_nN)) (show (!decide (spot g = .non)) = false by rw [sp] <;> rfl)) H16 (Ex.refl _) _ fun H17 e17 => ?_
            exact kc H17 (Fx.of e17)
        · subst hσ
          have B14 := B13.fx x14
          have X14 : Fx K H H14 := X13.trans x14
          show tOp (rEqD K) (tLc (iList K (tVar 2)) (gName 8) tYes _ _) _ _ H14 _
          refine lc_fx (K := K) (xs := ls.map txt) (a := f) (v := fun _ => .bl false) B14.fl (by rw [List.length_map]; omega) (fun i x H15 hx x15 => ?_) (ev_var rfl) fun L H15 x15 hL => ?_
          · have B15 := B14.fx x15
            rw [List.getElem?_map] at hx
            obtain ⟨l, hl, rfl⟩ := Option.map_eq_some_iff.mp hx
            have hli := List.mem_of_getElem? hl
            refine ⟨_, ?_, eg_name, fun Q9 q9 => ?_⟩
            · rfl
            refine call_of (ea_cons (ev_var rfl) (ea_cons (ev_var rfl) (ea_cons (ev_fill (b := true) (by rfl) (by rfl) (hf.le l hli) hn.2 bS_1) ea_nil))) fun H16 e16 => ⟨n, f, ls, l ++ List.replicate (n - l.length) true, rfl, hn, .inl (e16 _ _ B15.fl), hf, ?_, (B15.fx (Fx.of e16)).tk, fun H17 x17 => ?_⟩
            · rw [List.length_append, List.length_replicate]
              have := hf.le l hli
              omega
            · rw [free_in hli]
              exact q9 H17 ((Fx.of e16).trans x17)
          · have B15 := B14.fx x15
            have hL2 : (List.range (ls.map txt).length).map (fun _ => V.bl false) = List.replicate ls.length (.bl false) := by
              rw [List.length_map]
              refine List.ext_getElem (by simp) fun i a1 a2 => ?_
              simp
            rw [hL2] at hL
            refine el_rep (n := ls.length) (x := .bl false) (el_lst (ea_cons ev_c ea_nil) (by show 1 ≤ 100000; decide)) (fun H16 e16 => ev_is (ev_cb (ea_cons (ev_var rfl) ea_nil) (rc_lenL (sq_of (e16 _ _ B15.fl)))) (by rw [List.length_map])) (by omega) H15 (Ex.refl _) _ fun M H16 hM e16 hM2 => ?_
            refine ⟨_, _, .lst (sq_of (e16 _ _ hL)) (dp_bools false _), .lst (sq_of hM2) (dp_bools false _), shaped_bools _ _, shaped_bools _ _, ?_⟩
            rw [eqv_bools]
            exact kq H16 (X14.trans (x15.trans (Fx.of e16)))
end
end Cw
set_option Elab.async false
set_option linter.all false
set_option maxRecDepth 100000
set_option maxHeartbeats 4000000
namespace Cw
open PySem PySem.Spec PyProof.Rows L2 Evl
theorem boot_max : bootBuiltins "max" = some (.builtin "max") := by decide +kernel
theorem boot_min : bootBuiltins "min" = some (.builtin "min") := by decide +kernel
theorem boot_abs : bootBuiltins "abs" = some (.builtin "abs") := by decide +kernel
theorem boot_int : bootBuiltins "int" = some (.type "int") := by decide +kernel
theorem boot_all : bootBuiltins "all" = some (.builtin "all") := by decide +kernel
section
variable {P : Program} {w : World} {K : PySem.W.Frag} {mg : Str → Option Value} {base : Heap} {C : Addr}
def spPot (K : PySem.W.Frag) : Sp := fun vs H Q _ => ∃ (a : Addr) (ns : List Int) (k : Nat), vs = [.ref a, .int (k : Int)] ∧ SqL K H a (ns.map V.int) ∧ k ≤ 1000 ∧ ∀ p H', H p = none → Ex H H' → Pt p H' → Q (.ref p) H'
theorem pot_pos (c : Int) (hc : 0 ≤ c) (k : Nat) : ∃ a b : Nat, (if c - 10 ^ 18 > 0 then c - 10 ^ 18 else 0) = (a : Int) ∧ (c % 2147483587 * 40692 + 6037 * (k : Int) + 83) % 2147483477 + 1 = (b : Int) ∧ b < 2147483648 := by
  have h1 : 0 ≤ (c % 2147483587 * 40692 + 6037 * (k : Int) + 83) % 2147483477 := Int.emod_nonneg _ (by decide)
  have h2 : (c % 2147483587 * 40692 + 6037 * (k : Int) + 83) % 2147483477 < 2147483477 := Int.emod_lt_of_pos _ (by decide)
  refine ⟨(if c - 10 ^ 18 > 0 then c - 10 ^ 18 else 0).toNat, ((c % 2147483587 * 40692 + 6037 * (k : Int) + 83) % 2147483477 + 1).toNat, ?_, ?_, ?_⟩
  · split <;> omega
  · omega
  · omega
theorem kp_pot (B : Bt mg) (D : Df K mg "_law_pot" s_law_pot) : Kp P w K mg base 1 "_law_pot" ["_law_script", "_law_k"] (spPot K) := by
  refine kp_of D sc_law_pot (fun _ _ _ _ _ _ us hl => match us, hl with | [_, _], _ => rfl) (fun vs H Q E h => ?_) (fun cdv A outer s H vs Q E hr h => ?_)
  · obtain ⟨a, ns, k, rfl, _⟩ := h
    rfl
  · obtain ⟨a, ns, k, rfl, ha, hk, q⟩ := h
    refine ⟨_, pss_cons (ps_set (i := 2) sc_law_pot.nd rfl (.inl rfl) (pe_ifExp (pt_cmpR op_lt (pv 1) (pe_callB cr_lenS (by rfl) B.len boot_len (pa_cons (pv 0) pa_nil)) (nomark _)) (pe_callB cr_abs (by rfl) B.abs boot_abs (pa_cons (pe_ix ix_list (pv 0) (pv 1) (by intro _ _; rfl)) pa_nil)) (pe_op op_add (pe_op op_mul pe_int (pv 1)) pe_int)))
      (pss_one (ps_ret (pe_lst (pa_cons (pe_callB (cr_max2 rfl) (by rfl) B.max boot_max (pa_cons pe_int (pa_cons (pe_op op_sub (pv 2) (pe_op op_pow pe_int pe_int)) pa_nil)))
        (pa_cons (pe_op op_add (pe_op op_mod (pe_callTy cr_int1 (by rfl) B.int boot_int (pa_cons (pe_op op_add (pe_op op_add (pe_op op_mul (pe_op op_mod (pe_callTy cr_int1 (by rfl) B.int boot_int (pa_cons (pv 2) pa_nil)) pe_int) pe_int) (pe_op op_mul pe_int (pv 1))) pe_int) pa_nil)) pe_int) pe_int) pa_nil))))), ?_⟩
    refine q_asgP (E := fun v _ => ∃ c : Int, v = .int c ∧ 0 ≤ c) (ep_if (b := decide ((k : Int) < ((ns.map V.int).length : Int))) (et_test (ev_op (ev_var rfl) (ev_cb (ea_cons (ev_var rfl) ea_nil) (rc_lenL ha)) rv_I0)) (fun hb => ?_) fun hb => ?_) fun v H1 e1 ⟨c, ec, hc⟩ => ?_
    · have hlt : k < ns.length := by
        have := of_decide_eq_true hb
        rw [List.length_map] at this
        omega
      refine (ep_ev (ev_cb (ea_cons (ev_op (ev_var rfl) (ev_var rfl) (rv_ixL ha (v := .int ns[k]) (atI_nat (by rw [List.getElem?_map, List.getElem?_eq_getElem hlt] <;> rfl)))) ea_nil) rc_abs)).imp fun v H1 e1 hv => ⟨_, hv, ?_⟩
      split <;> omega
    · exact (ep_ev (ev_op (ev_op ev_c (ev_var rfl) (rv_I (.inl (by decide)))) ev_c rv_I0)).imp fun v H1 e1 hv => ⟨_, hv, by omega⟩
    subst ec
    obtain ⟨x, y, hx, hy, hb⟩ := pot_pos c hc k
    have hm : (0 : Int) ≤ c % 2147483587 := Int.emod_nonneg _ (by decide)
    refine el_lst (vs := [.int (x : Int), .int (y : Int)]) (ea_cons (ev_is (ev_cb (ea_cons ev_c (ea_cons (ev_op (ev_var rfl) (ev_op ev_c ev_c (rv_I ⟨by decide, by decide, by decide⟩)) rv_I0) ea_nil)) rc_max2) (congrArg V.int hx))
      (ea_cons (ev_is (ev_op (ev_op (ev_cb (ea_cons (ev_op (ev_op (ev_op (ev_op (ev_cb (ea_cons (ev_var rfl) ea_nil) rc_int1) ev_c (rv_I (by decide))) ev_c (rv_I (.inr (by decide)))) (ev_op ev_c (ev_var rfl) (rv_I (.inl (by decide)))) rv_I0) ev_c rv_I0) ea_nil) rc_int1) ev_c (rv_I (by decide))) ev_c rv_I0) (congrArg V.int hy)) ea_nil)) (by show 2 ≤ 100000; decide) H1 (Ex.refl _) _ fun p H2 hp e2 h2 => q p H2 (fresh_back e1 hp) (e1.trans e2) ⟨x, y, h2, hb⟩
end
end Cw
set_option Elab.async false
set_option linter.all false
set_option maxRecDepth 100000
set_option maxHeartbeats 4000000
namespace Cw
open PySem PySem.Spec PyProof.Rows L2 Evl
/-! ### _law_right: the last two checks in plain lists -/
theorem zs_free {zs : List (List Bool)} (n : Nat) : ((usedOf [[]] (cellsOf n zs)).map (·.2.1)).sum = 0 := by
  have : usedOf [[]] (cellsOf n zs) = [] := by
    unfold usedOf
    refine List.filter_eq_nil_iff.mpr fun c _ h => ?_
    have : freeB [[]] c.1 = true := rfl
    rw [this, Bool.not_true, Bool.and_false] at h
    cases h
  rw [this] <;> rfl
theorem zs_two {zs : List (List Bool)} (h : ZsOf [[false]] zs) : zs = [[], [false]] := by
  have hp : zs.Perm [[], [false]] := (List.perm_ext_iff_of_nodup h.nd (by decide)).mpr fun l => by
    rw [h.mem l]
    simp
    exact Or.comm
  have hl := hp.length_eq
  match zs, hl, h, hp with
  | [a, b], _, h, hp =>
    have ha := hp.mem_iff.mp (show a ∈ [a, b] by simp)
    have hb := hp.mem_iff.mp (show b ∈ [a, b] by simp)
    have hne : a ≠ b := fun e => by
      have := h.nd
      rw [e] at this
      simp at this
    have hlt : LexB a b := (List.pairwise_cons.mp h.lex).1 b (by simp)
    simp only [List.mem_cons, List.not_mem_nil, or_false] at ha hb
    rcases ha with rfl | rfl <;> rcases hb with rfl | rfl
    · exact absurd rfl hne
    · rfl
    · exfalso
      rcases hlt with ⟨c, h1, h2⟩ | ⟨p, x, y, h1, h2⟩
      · simp at h2
      · have := congrArg List.length h2
        simp at this
    · exact absurd rfl hne
theorem tally_two {n : Nat} (hn : 1 ≤ n) {zs : List (List Bool)} (h : ZsOf [[false]] zs) : tallyOf n [] [] [[false]] zs = [(("hole" : Str), ((2 ^ (n - 1) : Nat) : Int))] := by
  rw [zs_two h]
  have b0 : beginOf n [] = 0 := by
    show 0 * _ = 0
    rw [Nat.zero_mul]
  have b1 : beginOf n [false] = 0 := by
    show 0 * _ = 0
    rw [Nat.zero_mul]
  have e : cellsOf n [[], [false]] = [([], ((2 ^ n : Nat) : Int) - ((2 ^ (n - 1) : Nat) : Int), 2 ^ (n - 1)), ([false], ((2 ^ (n - 1) : Nat) : Int), 0)] := by
    show (stepC n (stepC n (initC n [[], [false]], []) []) [false]).1 = _
    show updC n (initC n [[], [false]]) [] [false] = _
    unfold initC updC
    simp only [List.map_cons, List.map_nil, List.length_nil, List.length_singleton, Nat.sub_zero, b0, b1]
    simp
  have h2 : ((2 ^ n : Nat) : Int) - ((2 ^ (n - 1) : Nat) : Int) = ((2 ^ (n - 1) : Nat) : Int) := by
    obtain ⟨m, rfl⟩ : ∃ m, n = m + 1 := ⟨n - 1, by omega⟩
    rw [Nat.add_sub_cancel, Nat.pow_succ]
    omega
  have pos : 0 < 2 ^ (n - 1) := Nat.two_pow_pos _
  unfold tallyOf
  rw [e, h2]
  have u : usedOf [[false]] [(([], ((2 ^ (n - 1) : Nat) : Int), 2 ^ (n - 1)) : Cell), ([false], ((2 ^ (n - 1) : Nat) : Int), 0)] = [([], ((2 ^ (n - 1) : Nat) : Int), 2 ^ (n - 1))] := by
    unfold usedOf
    have f1 : freeB [[false]] [] = false := rfl
    have f2 : freeB [[false]] [false] = true := rfl
    rw [List.filter_cons, List.filter_cons, List.filter_nil]
    rw [if_pos, if_neg]
    · show ¬ (decide (0 < ((2 ^ (n - 1) : Nat) : Int)) && !freeB [[false]] [false]) = true
      rw [f2, Bool.not_true, Bool.and_false]
      decide
    · show (decide (0 < ((2 ^ (n - 1) : Nat) : Int)) && !freeB [[false]] []) = true
      rw [f1, decide_eq_true (by omega)] <;> rfl
  rw [u] <;> rfl
theorem rs_nil {rs' : List Row} (h : RsOf [] rs') : rs' = [] := by
  have := h.perm.length_eq
  rw [List.length_map] at this
  exact List.eq_nil_of_length_eq_zero this
theorem sz_nil {szs : List Nat} (h : SzOf [] szs) : szs = [] := by
  cases szs with
  | nil => rfl
  | cons k szs =>
    obtain ⟨r, hr, _⟩ := (h.mem k).mp List.mem_cons_self
    cases hr
theorem last_ok {n : Nat} (hn : 1 ≤ n) {rs' : List Row} {szs : List Nat} (h1 : RsOf [] rs') (h2 : SzOf [] szs) {zs : List (List Bool)} (hz : ZsOf (rs'.map (·.1) ++ [[false]]) zs) {ks : List Str} (hk : ks.Perm (names (tallyOf n rs' szs [[false]] zs))) :
    Ty ks (tot (tallyOf n rs' szs [[false]] zs)) = [(.inr "hole", .int ((2 ^ (n - 1) : Nat) : Int))] := by
  have e1 := rs_nil h1
  have e2 := sz_nil h2
  subst e1 e2
  have ht := tally_two hn (zs := zs) hz
  rw [ht] at hk ⊢
  have hn1 : names [(("hole" : Str), ((2 ^ (n - 1) : Nat) : Int))] = [("hole" : Str)] := rfl
  rw [hn1] at hk
  have : ks = [("hole" : Str)] := List.perm_singleton.mp hk
  rw [this]
  show [((.inr "hole" : Key), V.int (tot [(("hole" : Str), ((2 ^ (n - 1) : Nat) : Int))] "hole"))] = _
  have ht2 : tot [(("hole" : Str), ((2 ^ (n - 1) : Nat) : Int))] "hole" = ((2 ^ (n - 1) : Nat) : Int) := by
    unfold tot
    have : ((("hole" : Str), ((2 ^ (n - 1) : Nat) : Int)).1 == ("hole" : Str)) = true := beq_self_eq_true _
    rw [List.filter_cons, if_pos this]
    simp
  rw [ht2]
theorem cut_one (xs : List V) : cutV xs (some 1) none = xs.drop 1 := by
  unfold cutV
  rw [HT.sIx_none]
  have : HT.sIx xs.length 0 (some 1) = min 1 xs.length := HT.sIx_nat xs.length 0 1
  rw [this]
  cases xs with
  | nil => rfl
  | cons x xs => simp
/-! ### and its walk -/
section
variable {K : PySem.W.Frag} {p : Addr} {H H1 H2 H' : Hp} {σ : L2.St} {ta : TA} {te tl tb : TE} {Q : VK}
theorem op_c {r : R2} {v : V} (h : tb σ H fun y H2 => r v y H2 Q) : tOp r (tC v) tb σ H Q := h
theorem tup_of (h : ta σ H (fun vs H1 => vs.length ≤ sizeLine ∧ ∀ p, H1 p = none → Q (.ref p) (upd H1 p (.tup vs)))) : tTup ta σ H Q := h
theorem rows_made {fs : List (List Bool)} : ∀ {is : List Nat} {us : List V}, Paired (fun (i : Nat) v => ∃ U g, v = V.ref U ∧ GoalOk g ∧ H U = some (.tup [txt ((fs[i]?).getD []), .str g])) is us → ∃ (ps : List Addr) (rs : List Row), us = ps.map V.ref ∧ Paired (fun r (kv : Key × V) => H r = some (.tup [kV kv.1, kv.2])) ps (rs.map rowKV) ∧ rs.map (·.1) = is.map (fun i => (fs[i]?).getD []) ∧ ∀ r ∈ rs, GoalOk r.2
  | [], _, .nil => ⟨[], [], rfl, .nil, rfl, fun _ h => by cases h⟩
  | i :: is, _, .cons a t => by
    obtain ⟨U, g, rfl, hg, hU⟩ := a
    obtain ⟨ps, rs, rfl, h1, h2, h3⟩ := rows_made t
    refine ⟨U :: ps, ((fs[i]?).getD [], g) :: rs, rfl, .cons hU h1, by rw [List.map_cons, List.map_cons, h2], fun r hr => ?_⟩
    rcases List.mem_cons.mp hr with rfl | hr
    · exact hg
    · exact h3 r hr
end
section
variable {P : Program} {w : World} {K : PySem.W.Frag} {mg : Str → Option Value} {base : Heap} {C : Addr}
def spRight (K : PySem.W.Frag) : Sp := fun vs H Q _ => ∃ p : Addr, vs = [.ref p] ∧ Pt p H ∧ TK K H ∧ ∀ H', Gx K p H H' → Q (.bl true) H'
abbrev Nri : List Str := ["_law_pot_here", "_law_size_here", "_law_goals_here", "_law_turn", "_law_parts", "_law_rows", "_law_idle", "_law_part"]
def SoundAll : Prop := ∀ (n : Nat) (rs : List Row) (ls : List (List Bool)), (1 ≤ n ∧ n ≤ 100) → RowsIn n rs → rs.length ≤ 20 → FreeIn n ls → ∀ rs' szs, RsOf rs rs' → SzOf rs szs → Sound n rs rs' szs ls
set_option maxHeartbeats 16000000 in
theorem kpg_right (snd : SoundAll) (B : Bt mg) (tc : TbC K mg C) (kT : KpT P w K mg base C) (D : Df K mg "_law_right" s_law_right) (ks : Kp P w K mg base 9 "_law_size" ["_law_pot_here"] (spSize K)) (kg : Kp P w K mg base 9 "_law_goals" ["_law_pot_here"] (spGoals K))
    (kgr : Kp P w K mg base 9 "_law_grown" ["_law_pot_here", "_law_size_here", "_law_many"] (spGrown K)) (kd : Kp P w K mg base 9 "_law_draw" ["_law_pot_here", "_law_many"] (spDraw K)) (kso : Kp P w K mg base 9 "_law_some" ["_law_pot_here", "_law_parts", "_law_many"] (spSome K))
    (kpl : Kp P w K mg base 9 "_law_pick" ["_law_pot_here", "_law_some_here"] (spPickL K)) (kt : KpG P w K mg base 9 "_law_told_right" (spTold K)) (ku : Kp P w K mg base 9 "used_number" ["width", "free"] (spUsedN K)) (kn : Kp P w K mg base 9 "numbers" ["table", "free"] (spNumbers K C)) :
    KpG P w K mg base 10 "_law_right" (spRight K) := by
  refine kpg_of D sc_law_right (fun _ _ _ _ _ _ us hl => match us, hl with | [_], _ => rfl) (fun vs H Q E h => ?_) (fun cdv A outer s H vs Q E hgu hr h => ?_)
  · obtain ⟨p, rfl, _⟩ := h
    rfl
  · obtain ⟨p, rfl, hp, hT, kq⟩ := h
    refine ⟨_, pss_cons (ps_asg (pe_tup (pa_cons (pe_k ks hr (pa_cons (pv 0) pa_nil)) (pa_cons (pe_k kg hr (pa_cons (pv 0) pa_nil)) pa_nil))) (pg_tup (by rfl) (pgs_cons (pg_name (i := 1) sc_law_right.nd rfl (.inl rfl)) (pgs_cons (pg_name (i := 2) sc_law_right.nd rfl (.inr rfl)) pgs_nil))))
      (pss_cons (ps_for PassesOwn.never rfl (pi_range1 (by rfl) B.range (pa_cons pe_int pa_nil)) (pg_name (i := 3) sc_law_right.nd rfl (.inl rfl))
        (pss_cons (ps_set (i := 4) sc_law_right.nd rfl (.inl rfl) (pe_k kgr hr (pa_cons (pv 0) (pa_cons (pv 1) (pa_cons (pe_op op_add pe_int (pe_k kd hr (pa_cons (pv 0) (pa_cons pe_int pa_nil)))) pa_nil)))))
        (pss_cons (ps_set (i := 5) sc_law_right.nd rfl (.inl rfl) (pe_callTy (cr_dictP rfl) (by rfl) B.dict boot_dict (pa_cons
          (pe_lc (own := [("_law_part", 7)]) (g := gName 7) (by rfl) sc_law_right.nd (pi_list (pe_k kso hr (pa_cons (pv 0) (pa_cons (pv 4) (pa_cons (pe_k kd hr (pa_cons (pv 0) (pa_cons pe_int pa_nil))) pa_nil))))) (blkOk_by (N := Nri) (sc := defScope s_law_right) (by decide +kernel))
            (fun _ _ _ _ _ => pg_name (i := 7) sc_law_right.nd rfl (Or.inl rfl)) (fun _ _ _ _ _ => pts_nil) (fun _ _ _ _ _ => pe_tup (pa_cons (pv 7) (pa_cons (pe_k kpl hr (pa_cons (pv 0) (pa_cons (pv 2) pa_nil))) pa_nil)))) pa_nil)))
        (pss_cons (ps_set (i := 6) sc_law_right.nd rfl (.inl rfl) (pe_k kso hr (pa_cons (pv 0) (pa_cons (pe_slice sl_list (pv 4) (po_some pe_int) po_none) (pa_cons (pe_k kd hr (pa_cons (pv 0) (pa_cons pe_int pa_nil))) pa_nil)))))
        (pss_one (ps_if (PW.pt (pw_or (pt_not (pt_val (pe_kg kt hgu hr (pa_cons (pv 1) (pa_cons (pv 5) (pa_cons (pv 6) (pa_cons (pv 2) pa_nil))))))) (pw_or1 (pt_not (pt_val (pe_kg kt hgu hr (pa_cons (pv 1) (pa_cons (pv 5) (pa_cons (pe_lst pa_nil) (pa_cons (pv 2) pa_nil)))))))))) (pss_one (ps_ret pe_bl)) pss_nil))))))
      (pss_one (ps_ret (pe_and (pe_cmpR op_eq (pe_k ku hr (pa_cons (pv 1) (pa_cons (pe_lst (pa_cons pe_str pa_nil)) pa_nil))) pe_int (nomark _))
        (pe_one (pe_cmpR (op_eq_dict (Nat.lt_of_succ_lt (u1 hr))) (pe_k kn hr (pa_cons (pe_T1 kT tc.g (hr.mono (by decide)) (pa_cons (pv 1) pa_nil)) (pa_cons (pe_lst (pa_cons pe_str pa_nil)) pa_nil))) (pe_disp (pps_cons pe_str (pe_op op_shl1 pe_int (pe_op op_sub (pv 1) pe_int)) pps_nil) (by rfl) (by rfl) (by simp) (by show 1 ≤ 15; decide)) (nomark _))))))), ?_⟩
    refine q_asgT (ta_two (call_of (ea_cons (ev_var rfl) ea_nil) fun H1 e1 => ⟨p, rfl, (Gx.of (K := K) e1).2.2 hp, fun n H2 hn g2 => call_of (ea_cons (ev_var rfl) ea_nil) fun H3 e3 => ⟨p, rfl, ((Gx.of (K := K) e1).trans (g2.trans (Gx.of e3))).2.2 hp, fun gs D H4 hDp hD hgs hgl g4 => ⟨sz_of (by show 2 ≤ 100000; decide), fun t ht => ?_⟩⟩⟩))
    refine eg_tup (st_of upd_same) rfl (egs_cons eg_name (egs_cons eg_name egs_nil)) _ (Ex.refl _) _ ?_
    obtain ⟨H5, hH5⟩ : ∃ H5, H5 = upd H4 t (.tup [.int (n : Int), .ref D]) := ⟨_, rfl⟩
    have e45 : Ex H4 H5 := hH5 ▸ Ex.new ht
    rw [← hH5]
    have G5 : Gx K p H H5 := (Gx.of e1).trans (g2.trans ((Gx.of e3).trans (g4.trans (Gx.of e45))))
    have D5 : H5 D = some (.lst (gs.map V.str)) := e45 _ _ hD
    show tSeq _ _ _ [some (.ref p), some (.int (n : Int)), some (.ref D), none, none, none, none, none] H5
    refine q_rng (n := 2) (j := 3) (ea_cons ev_c ea_nil) (by decide) (fun i σ H' => ∃ v3 v4 v5 v6, σ = [some (.ref p), some (.int (n : Int)), some (.ref D), v3, v4, v5, v6, none] ∧ Gx K p H5 H') (fun H6 e6 => ⟨none, none, none, none, rfl, Gx.of e6⟩) (fun i σ H6 hi ⟨v3, v4, v5, v6, hσ, g6⟩ => ?_) (fun σ H6 ⟨v3, v4, v5, v6, hσ, g6⟩ => ?_)
    · subst hσ
      have G6 := G5.trans g6
      have D6 : H6 D = some (.lst (gs.map V.str)) := g6.1 _ _ hDp D5 fun _ z => by cases z
      have keepL : ∀ {Ha Hb : Hp} {z : Addr} {xs : List V}, Gx K p Ha Hb → z ≠ p → Ha z = some (.lst xs) → Hb z = some (.lst xs) := fun g n h => g.1 _ _ n h fun _ z => by cases z
      refine q_asgG (K := K) (p := p) (P := fun v H' => ∃ q ls, v = .ref q ∧ q ≠ p ∧ H' q = some (.lst (ls.map txt)) ∧ ls.Nodup ∧ (∀ l ∈ ls, l.length ≤ n) ∧ ls.length ≤ 24) (fun Q7 q7 => call_g (ta_three ⟨.ref p, rfl, .int (n : Int), rfl, op_c (call_of (ea_cons (ev_var rfl) (ea_cons ev_c ea_nil)) fun H7 e7 => ⟨p, 20, rfl, (G6.trans (Gx.of e7)).2.2 hp, by decide, fun d H8 hd g8 => ⟨4, (d : Int), rfl, rfl, p, n, 4 + d, by rw [Int.natCast_add] <;> rfl, (G6.trans ((Gx.of e7).trans g8)).2.2 hp, hn.2, by omega, fun ls D2 H9 d2p hd2 nd le len g9 => q7 _ H9 ((Gx.of e7).trans (g8.trans g9)) ⟨D2, ls, rfl, d2p, hd2, nd, le, by omega⟩⟩⟩)⟩)) fun v H7 g7 ⟨q, ls, ev, qp, hq, lnd, lle, llen⟩ => ?_
      subst ev
      have G7 := G6.trans g7
      have D7 := keepL g7 hDp D6
      refine q_asgG (K := K) (p := p) (P := fun v H' => ∃ o rs, v = .ref o ∧ o ≠ p ∧ H' o = some (.dK (rs.map rowKV)) ∧ RowsIn n rs ∧ rs.length ≤ 14) (fun Q8 q8 => cb_one (lc_lstG (K := K) (p := p) (N := fun q2 H2 => q2 ≠ p ∧ ∃ fs rest, H2 q2 = some (.lst (fs.map txt)) ∧ (fs ++ rest).Perm ls ∧ fs.length ≤ 14)
          (fun Q9 q9 => call_g (ta_three ⟨.ref p, rfl, .ref q, rfl, call_of (ea_cons (ev_var rfl) (ea_cons ev_c ea_nil)) fun H8 e8 => ⟨p, 15, rfl, (G7.trans (Gx.of e8)).2.2 hp, by decide, fun d H9 hd g9 => ⟨p, q, ls, d, rfl, (G7.trans ((Gx.of e8).trans g9)).2.2 hp, keepL g9 qp (e8 _ _ hq), by omega, by omega, fun fs rest D2 H10 d2p hd2 pm len g10 => q9 D2 H10 ⟨d2p, fs, rest, hd2, pm, by omega⟩ ((Gx.of e8).trans (g9.trans g10))⟩⟩⟩))
          fun q2 H8 ⟨q2p, fs, rest, hq2, pm, fl⟩ g8 => ?_)) fun v H8 g8 ⟨o, rs, ev, op, ho, hrs, rl⟩ => ?_
      · have G8 := G7.trans g8
        have D8 := keepL g8 hDp D7
        have fnd : fs.Nodup := (List.nodup_append.mp (pm.nodup_iff.mpr lnd)).1
        have fle : ∀ l ∈ fs, l.length ≤ n := fun l hl => lle l (pm.mem_iff.mp (List.mem_append_left _ hl))
        refine lc_gx (K := K) (p := p) (f := fun _ => true) (E := fun i v H' => ∃ U g, v = .ref U ∧ GoalOk g ∧ H' U = some (.tup [txt ((fs[i]?).getD []), .str g])) (G8.2.2 hp) (ej_list ev_c hq2 q2p) (by rw [List.length_map]; omega) (fun i v Ha Hb tk ⟨U, g, u1, u2, u3⟩ => ⟨U, g, u1, u2, tk _ _ u3⟩) (fun i x H9 hi g9 hx => ?_) fun L H9 hL g9 ⟨us, u1, u2⟩ => ?_
        · rw [List.getElem?_map] at hx
          obtain ⟨l, hl, rfl⟩ := Option.map_eq_some_iff.mp hx
          refine ⟨_, ?_, eg_name, et_yes, fun _ H10 e10 Q11 q11 => ?_⟩
          · rfl
          refine tup_of (ta_two ⟨txt l, rfl, call_of (ea_cons (ev_var rfl) (ea_cons (ev_var rfl) ea_nil)) fun H11 e11 => ⟨p, D, gs.map V.str, rfl, (G8.trans (g9.trans (Gx.of (e10.trans e11)))).2.2 hp, (e10.trans e11) _ _ (keepL g9 hDp D8), hDp, by rw [List.length_map]; omega, fun x H12 hx g12 => ⟨sz_of (by show 2 ≤ 100000; decide), fun U hU => ?_⟩⟩⟩)
          obtain ⟨g, hg, rfl⟩ := List.mem_map.mp hx
          refine q11 _ _ ((Gx.of e11).trans (g12.trans (Gx.of (Ex.new hU)))) ⟨U, g, rfl, hgs g hg, ?_⟩
          rw [hl]
          exact upd_same
        · rw [List.length_map, List.filter_eq_self.mpr fun _ _ => rfl] at u2
          obtain ⟨ps, rs, hus, hp2, hk, hgo⟩ := rows_made u2
          have er : (List.range fs.length).map (fun i => (fs[i]?).getD []) = fs := range_getD fs
          rw [er] at hk
          have rl : rs.length = fs.length := by
            have := congrArg List.length hk
            rwa [List.length_map] at this
          have G9 := G8.trans g9
          refine ⟨L, ps, rs.map rowKV, rfl, sq_of (by rw [u1, hus]), L2.Paired.mapP hp2 fun _ _ z => st_of z, fun o ho => q8 _ _ (g8.trans (g9.trans (Gx.of (Ex.new ho)))) ⟨o, rs, rfl, pt_ne (G9.2.2 hp) ho, ?_, ⟨by rw [hk]; exact fnd, fun r hr => ⟨fle _ (by rw [← hk]; exact List.mem_map_of_mem hr), hgo r hr⟩, by omega⟩, by omega⟩⟩
          rw [upd_same, merge_nd]
          rw [List.map_map]
          have : (rs.map (Prod.fst ∘ rowKV)) = (rs.map (·.1)).map fun l => (.inr (bS l) : Key) := by rw [List.map_map] <;> rfl
          rw [this, hk]
          exact List.Pairwise.map _ (fun a b ne e => ne (bS_inj (Sum.inr.inj e))) fnd
      subst ev
      have G8 := G7.trans g8
      have D8 := keepL g8 hDp D7
      have q8 := keepL g8 qp hq
      refine q_asgG (K := K) (p := p) (P := fun v H' => ∃ f fs, v = .ref f ∧ f ≠ p ∧ H' f = some (.lst (fs.map txt)) ∧ FreeIn n fs) (fun Q9 q9 => call_g (ta_three ⟨.ref p, rfl, el_sl (K := K) (ev_var rfl) (eo_some ev_c) eo_none (sq_of q8) H8 (Ex.refl _) _ fun c H9 hc e9 hc9 => call_of (ea_cons (ev_var rfl) (ea_cons ev_c ea_nil)) fun H10 e10 => ⟨p, 11, rfl, (G8.trans (Gx.of (e9.trans e10))).2.2 hp, by decide, fun d H11 hd g11 => ⟨p, c, ls.drop 1, d, rfl, (G8.trans ((Gx.of (e9.trans e10)).trans g11)).2.2 hp, ?_, ?_, by omega, fun fs rest D2 H12 d2p hd2 pm len g12 => q9 _ H12 ((Gx.of (e9.trans e10)).trans (g11.trans g12)) ⟨D2, fs, rfl, d2p, hd2, ?_⟩⟩⟩⟩)) fun v H9 g9 ⟨f, fs, ev, fp, hfq, hf⟩ => ?_
      · rw [cut_one, ← List.map_drop] at hc9
        exact keepL g11 (pt_ne (G8.2.2 hp) hc) (e10 _ _ hc9)
      · rw [List.length_drop]
        omega
      · have nd : (fs ++ rest).Nodup := pm.nodup_iff.mpr (lnd.sublist (List.drop_sublist _ _))
        exact ⟨(List.nodup_append.mp nd).1, fun l hl => lle l ((List.drop_sublist _ _).subset (pm.mem_iff.mp (List.mem_append_left _ hl))), by omega⟩
      subst ev
      have G9 := G8.trans g9
      have D9 := keepL g9 hDp D8
      have o9 : H9 o = some (.dK (rs.map rowKV)) := g9.1 _ _ op ho fun _ z => by cases z
      have T9 : TK K H9 := G9.2.1 hT
      have hf0 : FreeIn n [] := ⟨List.nodup_nil, (fun l hl => by cases hl), Nat.zero_le _⟩
      refine s_ifC (R := fun H2 => Gx K p H9 H2) (fun Kc kc => ?_) fun H10 g10 => ⟨_, _, _, _, rfl, g6.trans (g7.trans (g8.trans (g9.trans g10)))⟩
      show tCall (spTold K) [] E0 (tCons (tVar 1) (tCons (tVar 5) (tCons (tVar 6) (tCons (tVar 2) tNil)))) _ H9 _
      refine call_of (ea_cons (ev_var rfl) (ea_cons (ev_var rfl) (ea_cons (ev_var rfl) (ea_cons (ev_var rfl) ea_nil)))) fun H10 e10 => ⟨n, o, f, D, rs, fs, gs, rfl, hn, e10 _ _ o9, e10 _ _ hfq, e10 _ _ D9, hrs, by omega, hf, hgs, by omega, LamX.Tabs.ext T9 e10, snd n rs fs hn hrs (by omega) hf, fun H11 x11 => ⟨true, rfl, ?_⟩⟩
      have g11 : Gx K p H9 H11 := (Gx.of e10).trans (Gx.fx x11)
      have o11 : H11 o = some (.dK (rs.map rowKV)) := g11.1 _ _ op o9 fun _ z => by cases z
      show tCall (spTold K) [] E0 (tCons (tVar 1) (tCons (tVar 5) (tCons (tLst tNil) (tCons (tVar 2) tNil)))) _ H11 _
      refine call_g (ta_four ⟨.int (n : Int), rfl, .ref o, rfl, el_lst ea_nil (by decide) H11 (Ex.refl _) _ fun em H12 hem e12 h12 => ⟨.ref D, rfl, n, o, em, D, rs, [], gs, rfl, hn, e12 _ _ o11, h12, e12 _ _ (keepL g11 hDp D9), hrs, by omega, hf0, hgs, by omega, LamX.Tabs.ext (g11.2.1 T9) e12, snd n rs [] hn hrs (by omega) hf0, fun H13 x13 => ⟨true, rfl, ?_⟩⟩⟩)
      exact kc H13 (g11.trans ((Gx.of e12).trans (Gx.fx x13)))
    · subst hσ
      have G6 := G5.trans g6
      have T6 : TK K H6 := G6.2.1 hT
      show tOp rEq (tCall (spUsedN K) [] E0 (tCons (tVar 1) (tCons (tLst (tCons (tC (.str "")) tNil)) tNil))) (tC (.int 0)) _ H6 _
      refine call_g (ta_two ⟨.int (n : Int), rfl, el_lst (vs := [txt []]) (ea_cons (ev_is ev_c (by show V.str "" = V.str (bS []); rw [← bS_nil] <;> rfl)) ea_nil) (by show 1 ≤ 100000; decide) H6 (Ex.refl _) _ fun q H7 hq e7 h7 => ⟨n, q, [[]], rfl, hn, .inl h7, ⟨by simp, (fun l hl => by rw [List.mem_singleton.mp hl]; exact Nat.zero_le _), by show 1 ≤ 20; decide⟩, LamX.Tabs.ext T6 e7, fun zs hz H8 x8 => ?_⟩⟩)
      rw [zs_free]
      refine ⟨rfl, true, by rw [decide_eq_true rfl], ?_⟩
      have g8 : Gx K p H6 H8 := (Gx.of e7).trans (Gx.fx x8)
      have T8 := g8.2.1 T6
      rw [if_pos rfl]
      show tOp _ (tCall (spNumbers K C) [] E0 (tCons (tMake C (spInit C) [.non] E0 (tCons (tVar 1) tNil)) (tCons (tLst (tCons (tC (.str "0")) tNil)) tNil))) (tDisp _) _ H8 _
      refine call_g (ta_two (en_make (C := C) (rs := []) (ea_cons (ev_var rfl) ea_nil) rfl hn (.inl ⟨rfl, rfl⟩) ⟨List.nodup_nil, (fun r hr => by cases hr), Nat.zero_le _⟩ H8 (Ex.refl _) _ fun T H9 hT9 e9 ⟨rs', szs, hR, hS, tb⟩ =>
        el_lst (vs := [txt [false]]) (ea_cons (ev_is ev_c (by rw [bS_0])) ea_nil) (by show 1 ≤ 100000; decide) H9 (Ex.refl _) _ fun q2 H10 hq2 e10 h10 => ⟨T, n, rs', szs, q2, [[false]], rfl, TbAt.ex e10 tb, ?_, .inl h10, ⟨by simp, (fun l hl => by rw [List.mem_singleton.mp hl]; exact hn.1), by show 1 ≤ 20; decide⟩, LamX.Tabs.ext T8 (e9.trans e10), fun zs ks o H11 hz hk hs x11 ho => ?_⟩))
      · rw [rs_nil hR, sz_nil hS]
        exact ⟨hn, (fun r hr => by cases hr), Nat.zero_le _, fun k hk => by cases hk⟩
      · rw [last_ok hn.1 hR hS hz hk] at ho
        intro o2 ho2
        have o11 : (upd H11 o2 (.dK [])) o = some (.dK [(.inr "hole", .int ((2 ^ (n - 1) : Nat) : Int))]) := Ex.new ho2 _ _ ho
        show tOp rShl1 (tC (.int 1)) (tOp _ (tVar 1) (tC (.int 1))) _ (upd H11 o2 (.dK [])) _
        refine (ev_is (ev_op ev_c (ev_is (ev_op (ev_var rfl) ev_c rv_I0) (show _ = V.int ((n - 1 : Nat) : Int) from congrArg V.int (by omega))) (rv_shl1 (by omega))) (show _ = V.int ((2 ^ (n - 1) : Nat) : Int) by simp)) _ (Ex.refl _) _ fun H12 e12 => ⟨e12 _ _ upd_same, [(.inr "hole", .int ((2 ^ (n - 1) : Nat) : Int))], rfl, by show 1 ≤ 15; decide, ?_⟩
        have ne : o ≠ o2 := fun z => by
          rw [z, ho2] at ho
          cases ho
        refine ⟨o, o2, [(.inr "hole", .int ((2 ^ (n - 1) : Nat) : Int))], rfl, rfl, (upd_ne ne).trans (e12 _ _ o11), upd_same, by simp, fun x hx => by rw [List.mem_singleton.mp hx] <;> rfl, ?_⟩
        have ge : Ex H11 (upd H12 o2 (.dK (mergeK [] [(.inr "hole", .int ((2 ^ (n - 1) : Nat) : Int))]))) := Ex.mut ((Ex.new ho2).trans e12) ho2
        exact kq _ (G6.trans (g8.trans ((Gx.of (e9.trans e10)).trans ((Gx.fx x11).trans (Gx.of ge)))))
end
end Cw
set_option Elab.async false
set_option linter.all false
set_option maxRecDepth 100000
set_option maxHeartbeats 4000000
namespace Cw
open PySem PySem.Spec PyProof.Rows L2 Evl
section
variable {K : PySem.W.Frag} {p : Addr} {H H1 H2 H' : Hp} {σ : L2.St} {ta : TA} {te tl tb : TE} {Q : VK} {g : TG} {vs : List Nat}
theorem fx_of_gx (e : Ex H H1) (hp : H p = none) (x : Gx K p H1 H2) : Fx K H H2 := ⟨fun b o hb t => x.1 b o (fun z => by rw [z, hp] at hb; cases hb) (e b o hb) t, fun t => x.2.1 (LamX.Tabs.ext t e)⟩
theorem sql_fx {a : Addr} {xs : List V} (e : Fx K H H1) (h : SqL K H a xs) : SqL K H1 a xs := by
  rcases h with (h | ⟨o, h⟩) | h
  · exact .inl (.inl (e.1 _ _ h fun _ z => by cases z))
  · exact .inl (.inr ⟨o, e.1 _ _ h fun _ z => by cases z⟩)
  · exact .inr h
theorem lc_fxr {n : Nat} {v : Nat → V} (hn : n ≤ 100000) (h : EvA ta σ H [.int (n : Int)])
    (ht : ∀ i H1, i < n → Fx K H H1 → ∃ σ2, wipe σ2 vs = wipe σ vs ∧ EvG g (.int (i : Int)) (wipe σ vs) H1 σ2 ∧ ∀ Q : VK, (∀ H3, Fx K H1 H3 → Q (v i) H3) → te σ2 H1 Q)
    (k : ∀ D H', Fx K H H' → H' D = some (.lst ((List.range n).map v)) → Q (.ref D) H') : tLc (iRng1 ta) g tYes te vs σ H Q :=
  h H (Ex.refl _) _ fun H2 e2 => ⟨(n : Int), rfl, by omega, by omega, fun D hD => by
    refine lc_it (walk_range (lo := 0) (n := n)) (fun i H' => Fx K H2 H' ∧ H' D = some (.lst ((List.range i).map v))) ⟨Fx.of (Ex.new hD), upd_same⟩ (fun _ _ _ _ => trivial) (fun i x Ha Hb hlt q y => ?_) (fun H' q => k D H' ((Fx.of e2).trans q.1) q.2)
    obtain ⟨pa, pb⟩ := q
    obtain ⟨rfl, rfl⟩ := y
    obtain ⟨σ2, s1, s2, s4⟩ := ht i Hb hlt ((Fx.of e2).trans pa)
    show g (.int (0 + (i : Int))) _ _ _
    rw [Int.zero_add]
    refine s2 Hb (Ex.refl _) _ ⟨s1, ?_⟩
    show te σ2 Hb _
    refine s4 _ fun H4 g4 => ?_
    have held : H4 D = some (.lst ((List.range i).map v)) := g4.1 _ _ pb fun _ z => by cases z
    refine ⟨_, held, by rw [List.length_map, List.length_range]; exact sz_lt (by omega), ?_, ?_⟩
    · have gs := pa.trans g4
      exact ⟨fun b o hb t => (upd_ne (fun z => by rw [z, hD] at hb; cases hb)).trans (gs.1 b o hb t), fun t => TK.upd held (gs.2 t) fun _ => codeO_lst⟩
    · rw [upd_same, List.range_succ, List.map_append] <;> rfl⟩
end
section
variable {P : Program} {w : World} {K : PySem.W.Frag} {mg : Str → Option Value} {base : Heap}
def spLaw (K : PySem.W.Frag) : Sp := fun vs H Q _ => ∃ (a : Addr) (ns : List Int), vs = [.ref a] ∧ SqL K H a (ns.map V.int) ∧ TK K H ∧ ∀ H', Q (.bl true) H'
theorem kpg_law (B : Bt mg) (D : Df K mg "law" s_law) (kp : Kp P w K mg base 10 "_law_pot" ["_law_script", "_law_k"] (spPot K)) (kr : KpG P w K mg base 10 "_law_right" (spRight K)) : KpG P w K mg base 11 "law" (spLaw K) := by
  refine kpg_of D sc_law (fun _ _ _ _ _ _ us hl => match us, hl with | [_], _ => rfl) (fun vs H Q E h => ?_) (fun cdv A outer s H vs Q E hgu hr h => ?_)
  · obtain ⟨a, ns, rfl, _⟩ := h
    rfl
  · obtain ⟨a, ns, rfl, ha, hT, kq⟩ := h
    refine ⟨_, pss_one (ps_ret (pe_callB (cr_all rfl) (by rfl) B.all boot_all (pa_cons
      (pe_lc (own := [("_law_k", 1)]) (g := gName 1) (by rfl) sc_law.nd (pi_range1 (by rfl) B.range (pa_cons (pe_callB (cr_max2 rfl) (by rfl) B.max boot_max (pa_cons pe_int (pa_cons (pe_callB (cr_min2 rfl) (by rfl) B.min boot_min (pa_cons (pe_callB cr_lenS (by rfl) B.len boot_len (pa_cons (pv 0) pa_nil)) (pa_cons pe_int pa_nil))) pa_nil))) pa_nil)) (blkOk_by (N := ["_law_script", "_law_k"]) (sc := defScope s_law) (by decide +kernel))
        (fun _ _ _ _ _ => pg_name (i := 1) sc_law.nd rfl (Or.inl rfl)) (fun _ _ _ _ _ => pts_nil) (fun _ _ _ _ _ => pe_kg kr hgu hr (pa_cons (pe_k kp hr (pa_cons (pv 0) (pa_cons (pv 1) pa_nil))) pa_nil))) pa_nil))), ?_⟩
    let m : Nat := max 1 (min ns.length 4)
    refine cb_one (lc_fxr (K := K) (n := m) (v := fun _ => .bl true) (by omega) (ea_cons (ev_is (ev_cb (ea_cons ev_c (ea_cons (ev_cb (ea_cons (ev_cb (ea_cons (ev_var rfl) ea_nil) (rc_lenL ha)) (ea_cons ev_c ea_nil)) rc_min2) ea_nil)) rc_max2) ?_) ea_nil) (fun i H1 hi x1 => ⟨_, ?_, eg_name, fun Q1 q1 => ?_⟩) fun L H1 x1 hL => ?_)
    · rw [List.length_map]
      refine congrArg V.int ?_
      show (if (if (4 : Int) < ns.length then (4 : Int) else ns.length) > 1 then (if (4 : Int) < ns.length then (4 : Int) else ns.length) else 1) = ((max 1 (min ns.length 4) : Nat) : Int)
      split <;> split <;> omega
    · rfl
    · refine call_g (ta_one (call_of (ea_cons (ev_var rfl) (ea_cons (ev_var rfl) ea_nil)) fun H2 e2 => ⟨a, ns, i, rfl, sql_fx (x1.trans (Fx.of e2)) ha, by omega, fun p H3 hp e3 pt => ⟨p, rfl, pt, LamX.Tabs.ext (x1.2 hT) (e2.trans e3), fun H4 g4 => q1 H4 (fx_of_gx (e2.trans e3) (fresh_back e2 hp) g4)⟩⟩))
    · refine ⟨L, (List.range m).map fun _ => true, rfl, ?_, ?_⟩
      · rw [List.map_map]
        exact sq_of hL
      · rw [all_true]
        exact kq H1
end
end Cw
set_option Elab.async false
set_option linter.all false
set_option maxRecDepth 100000
set_option maxHeartbeats 4000000
namespace Cw
open PySem PySem.Spec PyProof.Rows L2
/-! ### all promises from the facts behind the top -/
structure Facts (K : PySem.W.Frag) (mg : Str → Option Value) (C : Addr) : Prop where
  B : Bt mg
  G : Gv K mg
  tc : TbC K mg C
  tp : TbP K C
  row : Dm K C "row_of" "Table.row_of" s_T_row_of
  goal : Dm K C "goal_of" "Table.goal_of" s_T_goal_of
  call : DCall K C
  make : DMake K C
  is_integer : Df K mg "is_integer" s_is_integer
  is_list : Df K mg "is_list" s_is_list
  is_width : Df K mg "is_width" s_is_width
  is_bits : Df K mg "is_bits" s_is_bits
  is_name : Df K mg "is_name" s_is_name
  is_goal : Df K mg "is_goal" s_is_goal
  is_address : Df K mg "is_address" s_is_address
  is_stretch : Df K mg "is_stretch" s_is_stretch
  first_wrong : Df K mg "first_wrong" s_first_wrong
  want_width : Df K mg "want_width" s_want_width
  want_address : Df K mg "want_address" s_want_address
  want_goal : Df K mg "want_goal" s_want_goal
  want_free : Df K mg "want_free" s_want_free
  size_of : Df K mg "size_of" s_size_of
  begin_of : Df K mg "begin_of" s_begin_of
  address_of : Df K mg "address_of" s_address_of
  cell_rows : Df K mg "cell_rows" s_cell_rows
  is_row : Df K mg "is_row" s_is_row
  are_rows : Df K mg "are_rows" s_are_rows
  is_free : Df K mg "is_free" s_is_free
  shared_cells : Df K mg "shared_cells" s_shared_cells
  used_cells : Df K mg "used_cells" s_used_cells
  is_used : Df K mg "is_used" s_is_used
  used_number : Df K mg "used_number" s_used_number
  numbers : ∃ v, Df1 K mg "numbers" s_numbers v
  first_with : ∃ v, Df1 K mg "first_with" s_first_with v
  l_pot : Df K mg "_law_pot" s_law_pot
  l_draw : Df K mg "_law_draw" s_law_draw
  l_pick : Df K mg "_law_pick" s_law_pick
  l_bits : Df K mg "_law_bits" s_law_bits
  l_goals : Df K mg "_law_goals" s_law_goals
  l_grown : Df K mg "_law_grown" s_law_grown
  l_some : Df K mg "_law_some" s_law_some
  l_size : Df K mg "_law_size" s_law_size
  l_pieces : Df K mg "_law_pieces" s_law_pieces
  l_told_right : Df K mg "_law_told_right" s_law_told_right
  l_right : Df K mg "_law_right" s_law_right
  l_law : Df K mg "law" s_law
theorem law_kpg {P : Program} {w : World} {K : PySem.W.Frag} {mg : Str → Option Value} {base : Heap} {C : Addr} (snd : SoundAll) (F : Facts K mg C) (TB : LamX.TabB base mg (He.codeOf K ("want_free", none)) (WT K)) : KpG P w K mg base 11 "law" (spLaw K) := by
  have u : ∀ {j k : Nat} {x : Str} {ps : List Str} {sp : Sp}, Kp P w K mg base j x ps sp → j ≤ k → Kp P w K mg base k x ps sp := fun h l => h.up l
  have a1 := kp_is_integer (P := P) (w := w) (base := base) F.B F.is_integer
  have a2 := kp_is_list (P := P) (w := w) (base := base) F.B F.is_list
  have a3 := kp_is_width F.G F.is_width a1
  have a4 := kp_is_bits (P := P) (w := w) (base := base) F.B F.is_bits
  have a5 := kp_is_name (P := P) (w := w) (base := base) F.B F.G F.is_name
  have a6 := kp_is_goal F.B F.G F.is_goal a5
  have a7 := kp_want_width F.want_width a3
  have a8 := kp_is_address F.B F.is_address a7 a4
  have a9 := kp_is_stretch F.B F.is_stretch a7 a4
  have a10 := kp_want_address F.want_address a8
  have a11 := kp_want_goal F.want_goal a6
  have b1 := kp_size_of (P := P) (w := w) (base := base) F.B F.size_of
  have b2 := kp_begin_of F.B F.begin_of b1
  have b3 := kp_address_of (P := P) (w := w) (base := base) F.B F.address_of
  have b4 := kp_cell_rows F.B F.cell_rows (u b1 (by decide)) b2 (u b3 (by decide))
  have b5 := kp_is_row F.B F.is_row a9 (u a6 (by decide))
  have b6 := kp_are_rows F.B F.are_rows b5
  have c1 := kp_row_of (P := P) (w := w) (base := base) F.tc F.row
  have c2 := kp_goal_of F.G F.tc F.goal c1
  have c3 := kp_is_free (P := P) (w := w) (base := base) F.B F.is_free
  have c4 := kp_shared_cells F.B F.shared_cells b4
  have c5 := kp_used_cells F.B F.used_cells c4 (u c3 (by decide))
  have c6 := kp_want_free F.B F.G F.want_free F.first_wrong TB (u a2 (by decide)) a9
  have c7 := kp_is_used F.is_used (u a7 (by decide)) c6 (u a10 (by decide)) (u c3 (by decide))
  have c8 := kp_used_number F.B F.used_number (u a7 (by decide)) c6 (u c5 (by decide))
  obtain ⟨v1, hv1⟩ := F.numbers
  obtain ⟨v2, hv2⟩ := F.first_with
  have c9 := kp_numbers F.B F.tc F.tp hv1 c6 (u c5 (by decide)) (c2.up (by decide))
  have c10 := kp_first F.B F.tc F.tp hv2 (u a11 (by decide)) c6 (u c5 (by decide)) (c2.up (by decide))
  obtain ⟨g, cO, fR⟩ := kpo_call F.tc F.call a10 (c2.up (by decide))
  have c11 : KpO P w K mg base 8 C (spCall C) := ⟨g, cO, fR.mono (by decide)⟩
  have c12 := kpt_table F.B F.tc F.make (u a7 (by decide)) b6
  have d1 := kp_draw (P := P) (w := w) (base := base) F.B F.l_draw
  have d2 := kp_pickL F.B F.l_pick d1
  have d3 := kp_pickS F.B F.l_pick d1
  have d4 := kp_bits F.l_bits d3 F.B
  have d5 := kp_size F.l_size d2 (u d1 (by decide))
  have d6 := kp_goals F.B F.l_goals d3 (u d1 (by decide))
  have d7 := kp_some F.B F.l_some d1
  have d8 := kp_grown F.B F.l_grown (u d1 (by decide)) (u d2 (by decide)) d4
  have d9 := kp_pieces (P := P) (w := w) (base := base) F.B F.l_pieces
  have d10 := kp_pot (P := P) (w := w) (base := base) F.B F.l_pot
  have e1 := kpg_told F.B F.tc c12 F.l_told_right (u d9 (by decide)) c9 c8 c10 c7 c11
  have e2 := kpg_right snd F.B F.tc c12 F.l_right (u d5 (by decide)) (u d6 (by decide)) (u d8 (by decide)) (u d1 (by decide)) (u d7 (by decide)) (u d2 (by decide)) e1 (u c8.kp (by decide)) (u c9.kp (by decide))
  exact kpg_law F.B F.l_law (u d10 (by decide)) e2
end Cw
set_option Elab.async false
set_option linter.all false
set_option maxRecDepth 100000
set_option maxHeartbeats 4000000
namespace Cw
open PySem PySem.Spec PyProof.Rows L2
/-! ### the law's call, nothing being shown around it, one table of code objects -/
/-- what is tracked at the entry: the table; the script, if no constant -/
def H0 (K : PySem.W.Frag) (T a : Addr) (o : Obj) (xs : List V) : Hp := fun b => if b = T then some (.tbl #[]) else if b = a ∧ (K.lookup a).isNone = true then some (.frz o (.lst xs)) else none
section
variable {K : PySem.W.Frag} {T a b : Addr} {o : Obj} {xs : List V} {u : HO}
theorem h0_T : H0 K T a o xs T = some (.tbl #[]) := if_pos rfl
theorem h0_is (h : H0 K T a o xs b = some u) : (b = T ∧ u = .tbl #[]) ∨ (b = a ∧ b ≠ T ∧ u = .frz o (.lst xs) ∧ K.lookup a = none) := by
  unfold H0 at h
  by_cases e : b = T
  · rw [if_pos e] at h
    exact .inl ⟨e, (Option.some.inj h).symm⟩
  · rw [if_neg e] at h
    by_cases e2 : b = a ∧ (K.lookup a).isNone = true
    · rw [if_pos e2] at h
      exact .inr ⟨e2.1, e, (Option.some.inj h).symm, Option.isNone_iff_eq_none.mp e2.2⟩
    · rw [if_neg e2] at h
      cases h
theorem h0_none (h1 : b ≠ T) (h2 : b ≠ a) : H0 K T a o xs b = none := by
  cases h : H0 K T a o xs b with
  | none => rfl
  | some u =>
    rcases h0_is h with ⟨e, _⟩ | ⟨e, _⟩
    · exact absurd e h1
    · exact absurd e h2
theorem h0_a (h1 : a ≠ T) (h2 : K.lookup a = none) : H0 K T a o xs a = some (.frz o (.lst xs)) := by
  unfold H0
  rw [if_neg h1, if_pos ⟨rfl, by rw [h2] <;> rfl⟩]
end
theorem law_g {P : Program} {w : World} {K : PySem.W.Frag} {mg mb : Str → Option Value} {k : Nat} {fa a c T : Addr} {sp : Sp} {s : Shared} {vs : List Value} {ns : List Int}
    (kin : K.In s.heap) (gl : s.heap.Ns mainGlobals mg) (bl : s.heap.Ns builtinsNs mb) (bb : ∀ x : Str, x ≠ "__name__" → mb x = bootBuiltins x) (nl : s.heap.NoLimit) (ge : s.gens = #[])
    (tT : s.heap.get? T = some { cls := .none, data := .fields #[] }) (tN : K.lookup T = none) (cd : PySem.W.codeHdIn K c T = true)
    (bm : ∃ (m : Addr) (ob : Obj), mg "__builtins__" = some (.ref m) ∧ m ≠ builtinsNs ∧ s.heap.get? m = some ob ∧ ob.cls = .type "module" ∧ ob.dict = some builtinsNs ∧ ob.data = .plain)
    (la : s.heap.get? a = some { cls := .type "list", data := .seq vs.toArray }) (li : IntsAre vs ns) (ll : ns.length ≤ sizeLine) (hr : Room k callerA)
    (F : ∀ base : Heap, K.In base → base.Ns mainGlobals mg → LamX.TabB base mg c T → FnG P w K mg base k fa sp)
    (hs : ∀ H : Hp, H T = some (.tbl #[]) → SqL K H a (ns.map V.int) → sp [.ref a] H (fun v _ => v = .bl true) fun _ _ _ => False) :
    codeAny (model P w) callerA (.call (.ref fa) ⟨[.ref a], []⟩) (fun r s' => r = .ok (.ret (.bool true)) ∧ OldK s.heap s'.heap ∧ s'.os = s.os ∧ AllBare s'.gens) s := by
  have rel := vals_ints li
  have lv := li.length
  have aT : a ≠ T := fun z => by
    rw [z, tT] at la
    injection la with la
    injection la with _ _ e3 _
    cases e3
  let ol : Obj := { cls := .type "list", data := .seq vs.toArray }
  let H : Hp := H0 K T a ol (ns.map V.int)
  have free : ∀ {b o}, s.heap.get? b = some o → b ≠ T → b ≠ a → (hidT s.heap H).get? b = some o := fun e h1 h2 => hidT_get e (h0_none h1 h2)
  /- an object that is a dict, a module, .. is neither the table nor the script -/
  have far : ∀ {b : Addr} {o : Obj}, s.heap.get? b = some o → (∀ xs n, o.data ≠ .seq xs n) → (∀ xs, o.data ≠ .fields xs) → b ≠ T ∧ b ≠ a := fun {b o} e h1 h2 => by
    refine ⟨fun z => ?_, fun z => ?_⟩
    · rw [z, tT] at e
      cases e
      exact h2 _ rfl
    · rw [z, la] at e
      cases e
      exact h1 _ _ rfl
  have kinB : K.In (hidT s.heap H) := fun b o e => hidT_get (kin b o e) (by
    cases q : H b with
    | none => rfl
    | some u =>
      rcases h0_is q with ⟨z, _⟩ | ⟨z, _, _, z2⟩
      · rw [z, tN] at e
        cases e
      · rw [z, z2] at e
        cases e)
  have nsB : ∀ {b : Addr} {m : Str → Option Value}, s.heap.Ns b m → (hidT s.heap H).Ns b m := fun {b m} ⟨o, es, ep, e, d, r⟩ => by
    obtain ⟨f1, f2⟩ := far e (fun xs n z => by rw [d] at z; cases z) (fun xs z => by rw [d] at z; cases z)
    exact ⟨o, es, ep, free e f1 f2, d, r⟩
  have modB : L2.Mod K mg (hidT s.heap H) := ⟨kinB, nsB gl, ⟨mb, nsB bl, bb⟩, let ⟨mc, x1, x2⟩ := nl; ⟨mc, nsB x1, x2⟩⟩
  have gT : mainGlobals ≠ T := fun z => by
    obtain ⟨o, es, ep, e, d, _⟩ := gl
    rw [z, tT] at e
    cases e
    cases d
  have bat : (hidT s.heap H).BuiltinsAt mg T := by
    obtain ⟨m, ob, m1, m2, m3, m4, m5, m6⟩ := bm
    obtain ⟨f1, f2⟩ := far m3 (fun xs n z => by rw [m6] at z; cases z) (fun xs z => by rw [m6] at z; cases z)
    refine ⟨m, ob, m1, m2, fun z => ?_, f1, free m3 f1 f2, m4, m5, m6⟩
    obtain ⟨o, es, ep, e, d, _⟩ := gl
    rw [z, e] at m3
    cases m3
    rw [d] at m6
    cases m6
  have tab : LamX.TabB (hidT s.heap H) mg c T := NdefX.tabB_of_K kinB cd bat gT
  have okH : HOk P w H s.heap := fun b u q => by
    rcases h0_is q with ⟨z1, z2⟩ | ⟨z1, _, z2, _⟩
    · rw [z1, z2]
      exact tT
    · rw [z1, z2]
      exact ⟨la, by rw [List.length_map]; exact ll, vs, _, rel, la⟩
  have sq : SqL K H a (ns.map V.int) := by
    cases q : K.lookup a with
    | none => exact .inl (.inr ⟨ol, h0_a aT q⟩)
    | some o =>
      have e := kin a o q
      rw [la] at e
      have e := (Option.some.inj e).symm
      subst e
      exact .inr ⟨_, vs.toArray, _, q, rfl, rfl, rfl, by rw [List.size_toArray, lv]; exact ll, by simpa using rel⟩
  have e0 : Env0 P w K mg (hidT s.heap H) callerA [] s H := ⟨rfl, modB, fun b o e => of_hidT e, Nat.le_of_eq (hidT_size _ _), trivial, (fun b hb => by cases hb), okH, .of_eq ge⟩
  refine codeAny_mono (F _ kinB (nsB gl) tab callerA [] s H [.ref a] [.ref a] (fun v _ => v = .bl true) (fun _ _ _ => False) rfl hr e0 (.cons rfl .nil) (hs H h0_T sq)) fun r s' h => ?_
  cases r with
  | error e => exact (show False from h).elim
  | ok fl =>
    cases fl with
    | next => exact False.elim h
    | brk => exact False.elim h
    | cont => exact False.elim h
    | ret u =>
      obtain ⟨v, H', os, bare, un, ok2, rv, ev⟩ := h
      have ev : v = .bl true := ev
      subst ev
      obtain rfl : u = Value.bool true := rv
      obtain ⟨more, hm⟩ := un.tbls T #[] h0_T
      have tabT : s'.heap.get? T = some { cls := .none, data := .fields (#[] ++ more) } := ok2 T _ hm
      have stays : ∀ b o, b ≠ T → s.heap.get? b = some o → s'.heap.get? b = some o := fun b o n e => by
        cases q : H b with
        | none => exact un.keep b o e q (by intro z; cases z) (by intro z; cases z)
        | some u =>
          rcases h0_is q with ⟨z, _⟩ | ⟨z1, _, z2, _⟩
          · exact absurd z n
          · have q2 := un.frzs b ol _ (z2 ▸ q)
            have q3 := (ok2 b _ q2).1
            rw [z1, la] at e
            rw [q3]
            exact e
      refine ⟨rfl, ⟨fun b o e => ?_, fun b o e => ?_⟩, os, bare⟩
      · by_cases n : b = T
        · subst n
          rw [tT] at e
          cases e
          exact .inr (.inl ⟨((PySem.W.codeHd_of_K kin cd).tab tT).isCodeTable, rfl, #[], more, rfl, tabT.trans (by rw [Array.empty_append])⟩)
        · exact .inl (stays b o n e)
      · by_cases n : b = T
        · subst n
          exact ⟨_, tabT⟩
        · exact ⟨o, stays b o n e⟩
end Cw
set_option Elab.async false
set_option linter.all false
set_option maxRecDepth 100000
set_option maxHeartbeats 0
namespace Cw
open PySem PySem.Spec PyProof.Rows L2
/-! ### the head: defs, facts, the getter -/
abbrev dOf (x : Str) (st : Stmt) : He.DefD := ⟨(x, none), x, x, defArgs st, defBody st, defScope st, [], []⟩
abbrev dM (m q : Str) (st : Stmt) (dfl : List He.Dv) : He.DefD := ⟨("Table", some m), m, q, defArgs st, defBody st, defScope st, dfl, []⟩
abbrev dD (x : Str) (st : Stmt) : He.DefD := ⟨(x, none), x, x, defArgs st, defBody st, defScope st, [.adr (He.dflAt (x, none) 0)], []⟩
def hFn_0 : List He.DefD := [dOf "is_integer" s_is_integer, dOf "is_list" s_is_list, dOf "is_width" s_is_width, dOf "is_bits" s_is_bits, dOf "is_name" s_is_name, dOf "is_goal" s_is_goal, dOf "is_address" s_is_address, dOf "is_stretch" s_is_stretch]
def hFn_1 : List He.DefD := [dOf "first_wrong" s_first_wrong, dOf "want_width" s_want_width, dOf "want_address" s_want_address, dOf "want_goal" s_want_goal, dOf "want_free" s_want_free, dOf "size_of" s_size_of, dOf "begin_of" s_begin_of, dOf "address_of" s_address_of]
def hFn_2 : List He.DefD := [dOf "cell_rows" s_cell_rows, dOf "is_row" s_is_row, dOf "are_rows" s_are_rows, dOf "is_free" s_is_free, dOf "shared_cells" s_shared_cells, dOf "used_cells" s_used_cells, dOf "is_used" s_is_used, dOf "used_number" s_used_number]
def hFn_3 : List He.DefD := [dD "numbers" s_numbers, dD "first_with" s_first_with, dOf "_law_pot" s_law_pot, dOf "_law_draw" s_law_draw, dOf "_law_pick" s_law_pick, dOf "_law_bits" s_law_bits, dOf "_law_goals" s_law_goals, dOf "_law_grown" s_law_grown]
def hFn_4 : List He.DefD := [dOf "_law_some" s_law_some, dOf "_law_size" s_law_size, dOf "_law_pieces" s_law_pieces, dOf "_law_told_right" s_law_told_right, dOf "_law_right" s_law_right, dOf "law" s_law, dM "__init__" "Table.__init__" s_T_init [.non], dM "row_of" "Table.row_of" s_T_row_of []]
def hFn_5 : List He.DefD := [dM "goal_of" "Table.goal_of" s_T_goal_of [], dM "__call__" "Table.__call__" s_T_call []]
def hFn : List He.DefD := hFn_0 ++ hFn_1 ++ hFn_2 ++ hFn_3 ++ hFn_4 ++ hFn_5
def hGlo_0 : List Str := ["is_integer", "is_list", "is_width", "is_bits", "is_name", "is_goal", "is_address", "is_stretch"]
def hGlo_1 : List Str := ["first_wrong", "want_width", "want_address", "want_goal", "want_free", "size_of", "begin_of", "address_of"]
def hGlo_2 : List Str := ["cell_rows", "is_row", "are_rows", "is_free", "shared_cells", "used_cells", "is_used", "used_number"]
def hGlo_3 : List Str := ["numbers", "first_with", "_law_pot", "_law_draw", "_law_pick", "_law_bits", "_law_goals", "_law_grown"]
def hGlo_4 : List Str := ["_law_some", "_law_size", "_law_pieces", "_law_told_right", "_law_right", "law", "Table", "KEPT_WORDS"]
def hGlo : List Str := hGlo_0 ++ hGlo_1 ++ hGlo_2 ++ hGlo_3 ++ hGlo_4
def hFree_0 : List Str := ["isinstance", "int", "bool", "list", "tuple", "str", "dict", "all"]
def hFree_1 : List Str := ["any", "len", "range", "enumerate", "sorted", "set", "divmod", "min"]
def hFree_2 : List Str := ["max", "abs", "sum", "repr"]
def hFree : List Str := hFree_0 ++ hFree_1 ++ hFree_2
def hFa : List He.Fa := (hGlo.map fun x => .glo x) ++ (hFree.map fun x => .free x) ++ [.int "MOST_WIDTH" 100, .int "MOST_FREE" 20, .int "LONGEST_NAME" 6, .str "LETTERS" "abcdefghijklmnopqrstuvwxyz", .str "HOME" "home", .str "HOLE" "hole", .cls "Table", .noat "Table" "own_width", .noat "Table" "own_rows", .noat "Table" "own_sizes", .meth "Table" "row_of", .meth "Table" "goal_of", .meth "Table" "__call__", .mkr "Table"]
def hTf : List He.Defn := [("want_free", none)]
/-- the property's object, its getter -/
def propA (K : PySem.W.Frag) : Addr := He.ma K (He.ga K "Table") "width"
def getA (K : PySem.W.Frag) : Addr := match PySem.W.recIn K (propA K) "property" with
  | some (.ref g :: _) => g
  | _ => 0
def propB (K : PySem.W.Frag) : Bool := He.eqO (PySem.W.findIn K (.ref (He.ga K "Table")) "width") (some (some (.ref (propA K)))) && (He.eqO (PySem.W.specialIn K (.ref (propA K)) "__get__") (some (some (.builtin "property.__get__"))) && (decide (PySem.W.takesIn K (.ref (propA K)) = some true) && (match PySem.W.recIn K (propA K) "property" with
  | some (.ref _ :: _) => true
  | _ => false)))
def getB (K : PySem.W.Frag) : Bool := PySem.W.keepIn K (.ref (getA K)) && (match K.lookup (getA K) with
  | some ⟨_, _, .func fd, _⟩ => PySem.W.codeIn K fd.code "Table.width" && (He.dflB K fd.defaults [] && He.kwdB K fd.kwdefaults [])
  | _ => false)
def getW (K : PySem.W.Frag) : He.FnW := match K.lookup (getA K) with
  | some ⟨_, _, .func fd, _⟩ => some (fd.name, fd.qualname, fd.params, fd.body, fd.scope, fd.globals, fd.closure, fd.builtins)
  | _ => none
def getV : He.FnW := some ("width", "Table.width", defArgs s_T_width, .stmts (defBody s_T_width), defScope s_T_width, mainGlobals, [], builtinsNs)
def hEx (K : PySem.W.Frag) : Bool := He.conB K "Table" "MOST_ROWS" (.int 40) && (He.tupB K "KEPT_WORDS" [.str "home", .str "hole", .str "ring", .str "all", .str "none"] && (propB K && (getB K && PySem.W.fnIn K (He.ma K (He.ga K "Table") "__call__"))))
abbrev hN : Nat := 7
def hObs (g : Addr → Option Obj) : He.AlX × He.FnW := (He.obsX hN hFa hFn [] hTf hEx g, getW (He.frT g (He.asD g hN)))
theorem hOf {w : World} {s : Shared} (e : hObs s.heap.get? = (He.valX hFn [] w, getV)) : ∃ K : PySem.W.Frag, K.In s.heap ∧ He.SaysX hFa hFn [] hTf hEx w s.heap K ∧ getW K = getV := by
  have e1 : He.obsX hN hFa hFn [] hTf hEx s.heap.get? = He.valX hFn [] w := (Prod.mk.inj e).1
  have e2 : getW (He.frT s.heap.get? (He.asD s.heap.get? hN)) = getV := (Prod.mk.inj e).2
  exact ⟨_, He.frT_in, He.saysX_of e1, e2⟩
theorem hKeep {w : World} {h h' : Heap} : (∃ K : PySem.W.Frag, K.In h ∧ He.SaysX hFa hFn [] hTf hEx w h K ∧ getW K = getV) → (∀ b o, h.get? b = some o → h'.get? b = some o) → ∃ K : PySem.W.Frag, K.In h' ∧ He.SaysX hFa hFn [] hTf hEx w h' K ∧ getW K = getV :=
  fun ⟨K, hK, c, gv⟩ k => ⟨K, PySem.W.Frag.In.keeps hK k, ⟨c.t, c.more, c.hd, c.out, fun p hp => k _ _ (c.empty p hp)⟩, gv⟩
def hHook : PySem.W.Hook where
  α := He.AlX × He.FnW
  obs := fun s => hObs s.heap.get?
  val := fun w => (He.valX hFn [] w, getV)
  says := fun w h => ∃ K : PySem.W.Frag, K.In h ∧ He.SaysX hFa hFn [] hTf hEx w h K ∧ getW K = getV
  of := fun _ _ e => hOf e
  keeps := fun _ _ _ c k => hKeep c k
abbrev hR : PySem.W.OpenRow := PySem.W.OpenLaw.row PySem.Challenge.rw_coverways_k23_whole_great_widths_counted
abbrev hV : Program := PySem.W.view hR.prog [63]
def hOb (s : PySem.W.SharedT) : He.AlX × He.FnW := hObs (HandSHeadRun.getT s)
theorem hOb_eq (s : PySem.W.SharedT) : hOb s = hHook.obs s.abs := by
  have e : HandSHeadRun.getT s = s.abs.heap.get? := funext (HandSHeadRun.getT_eq s)
  show hObs _ = hObs _
  rw [e]
def nm0_0 : List Str := ["CoverError", "InvalidWidth", "InvalidAddress", "InvalidGoal", "InvalidRows", "InvalidFree", "MissingError", "UnknownStretch"]
def nm0_1 : List Str := ["StateError", "OtherWidth", "LimitError", "TooMany", "MOST_WIDTH", "MOST_FREE", "LETTERS", "LONGEST_NAME"]
def nm0_2 : List Str := ["HOME", "HOLE", "KEPT_WORDS", "is_integer", "is_list", "is_width", "is_bits", "is_name"]
def nm0_3 : List Str := ["is_goal", "is_address", "is_stretch", "first_wrong", "want_width", "want_address", "want_goal", "want_free"]
def nm0_4 : List Str := ["want_same_width", "size_of", "begin_of", "address_of", "cell_rows", "is_row", "are_rows", "Table"]
def nm0_5 : List Str := ["is_free", "shared_cells", "used_cells", "is_used", "used_number", "numbers", "first_with", "_law_pot"]
def nm0_6 : List Str := ["_law_draw", "_law_pick", "_law_bits", "_law_goals", "_law_grown", "_law_some", "_law_size", "_law_pieces"]
def nm0_7 : List Str := ["_law_told_right", "_law_right"]
def nm0 : List Str := nm0_0 ++ nm0_1 ++ nm0_2 ++ nm0_3 ++ nm0_4 ++ nm0_5 ++ nm0_6 ++ nm0_7
end Cw
set_option Elab.async false
set_option linter.all false
set_option maxRecDepth 100000
set_option maxHeartbeats 0
namespace Cw
open PySem PySem.Spec PyProof.Rows L2
theorem hRun (w : World) : HandSHeadRun.RunEq hR hV hHook hOb 20000 nm0 w := by
  intro os
  kernel_rfl
end Cw
set_option Elab.async false
set_option linter.all false
set_option maxRecDepth 100000
set_option maxHeartbeats 0
namespace Cw
open PySem PySem.Spec PyProof.Rows L2
section
variable {K : PySem.W.Frag} {h : Heap} {mg : Str → Option Value}
theorem df_of (X : K.In h) (G : h.Ns mainGlobals mg) (c : He.SaysD hFa hFn K) {x : Str} {st : Stmt} (i j : Nat) (hd : hFn[i]? = some (dOf x st)) (hg : hFa[j]? = some (.glo x)) : Df K mg x st := by
  obtain ⟨fd, F⟩ := c.def_ i hd
  exact ⟨fd, F, He.glo_ok X G (c.fact j hg)⟩
theorem df1_of (X : K.In h) (G : h.Ns mainGlobals mg) (c : He.SaysD hFa hFn K) {x : Str} {st : Stmt} (i j : Nat) (hd : hFn[i]? = some (dD x st)) (hg : hFa[j]? = some (.glo x)) : ∃ v, Df1 K mg x st v := by
  obtain ⟨fd, F⟩ := c.def_ i hd
  exact ⟨_, fd, F, He.glo_ok X G (c.fact j hg)⟩
theorem prop_of (h1 : propB K = true) (h2 : getB K = true) (h3 : getW K = getV) : TbP K (He.ga K "Table") := by
  obtain ⟨p1, p⟩ := He.ba h1
  obtain ⟨p2, p⟩ := He.ba p
  obtain ⟨p3, p4⟩ := He.ba p
  obtain ⟨g1, g2⟩ := He.ba h2
  have hrec : ∃ rest, PySem.W.recIn K (propA K) "property" = some (.ref (getA K) :: rest) := by
    unfold getA
    split at p4
    · rename_i g rest e
      rw [e]
      exact ⟨rest, rfl⟩
    · cases p4
  refine ⟨propA K, getA K, ?_⟩
  unfold getW at h3
  cases q : K.lookup (getA K) with
  | none =>
    rw [q] at g2
    cases g2
  | some o =>
    obtain ⟨oc, od, dt, osl⟩ := o
    rw [q] at g2 h3
    cases dt with
    | func fd =>
      obtain ⟨g3, g4⟩ := He.ba g2
      obtain ⟨g5, g6⟩ := He.ba g4
      cases fd with
      | mk nm ql pr bd sc gl cl dV kV doc pm an cdv ct bi =>
        have h3 : (some (nm, ql, pr, bd, sc, gl, cl, bi) : He.FnW) = getV := h3
        unfold getV at h3
        injection h3 with h3
        injection h3 with x1 h3
        injection h3 with x2 h3
        injection h3 with x3 h3
        injection h3 with x4 h3
        injection h3 with x5 h3
        injection h3 with x6 h3
        injection h3 with x7 x8
        subst x1 x2 x3 x4 x5 x6 x7 x8
        exact ⟨_, ⟨He.eqO_ok p1, He.eqO_ok p2, of_decide_eq_true p3, hrec⟩, ⟨⟨oc, od, dV, kV, doc, pm, an, cdv, ct, osl, rfl, q, g3, He.dflB_ok g5, He.kwdB_ok g6⟩, g1⟩⟩
    | _ => cases g2
end
theorem facts_of {w : World} {K : PySem.W.Frag} {h : Heap} {mg : Str → Option Value} (X : K.In h) (G : h.Ns mainGlobals mg) (s : He.SaysX hFa hFn [] hTf hEx w h K) (gv : getW K = getV) : Facts K mg (He.ga K "Table") := by
  have c : He.SaysD hFa hFn K := s.t.d
  obtain ⟨m1, m⟩ := He.ba s.more
  obtain ⟨m2, m⟩ := He.ba m
  obtain ⟨m3, m⟩ := He.ba m
  obtain ⟨m4, m5⟩ := He.ba m
  have B : Bt mg := ⟨He.free_ok X G (c.fact 40 (f := .free "isinstance") rfl), He.free_ok X G (c.fact 41 (f := .free "int") rfl), He.free_ok X G (c.fact 42 (f := .free "bool") rfl), He.free_ok X G (c.fact 43 (f := .free "list") rfl), He.free_ok X G (c.fact 44 (f := .free "tuple") rfl), He.free_ok X G (c.fact 45 (f := .free "str") rfl), He.free_ok X G (c.fact 46 (f := .free "dict") rfl), He.free_ok X G (c.fact 47 (f := .free "all") rfl), He.free_ok X G (c.fact 48 (f := .free "any") rfl), He.free_ok X G (c.fact 49 (f := .free "len") rfl), He.free_ok X G (c.fact 50 (f := .free "range") rfl), He.free_ok X G (c.fact 51 (f := .free "enumerate") rfl), He.free_ok X G (c.fact 52 (f := .free "sorted") rfl), He.free_ok X G (c.fact 53 (f := .free "set") rfl), He.free_ok X G (c.fact 54 (f := .free "divmod") rfl), He.free_ok X G (c.fact 55 (f := .free "min") rfl), He.free_ok X G (c.fact 56 (f := .free "max") rfl), He.free_ok X G (c.fact 57 (f := .free "abs") rfl), He.free_ok X G (c.fact 58 (f := .free "sum") rfl), He.free_ok X G (c.fact 59 (f := .free "repr") rfl)⟩
  have V : Gv K mg := ⟨He.int_ok X G (c.fact 60 (f := .int "MOST_WIDTH" 100) rfl), He.int_ok X G (c.fact 61 (f := .int "MOST_FREE" 20) rfl), He.str_ok X G (c.fact 63 (f := .str "LETTERS" "abcdefghijklmnopqrstuvwxyz") rfl), He.int_ok X G (c.fact 62 (f := .int "LONGEST_NAME" 6) rfl), He.str_ok X G (c.fact 64 (f := .str "HOME" "home") rfl), He.str_ok X G (c.fact 65 (f := .str "HOLE" "hole") rfl), He.glo_ok X G (c.fact 39 (f := .glo "KEPT_WORDS") rfl), fun H => He.tupB_ok m2 H⟩
  have tc : TbC K mg (He.ga K "Table") := ⟨He.cls_ok (c.fact 66 (f := .cls "Table") rfl), He.glo_ok X G (c.fact 38 (f := .glo "Table") rfl), He.noat_ok (c.fact 67 (f := .noat "Table" "own_width") rfl), He.noat_ok (c.fact 68 (f := .noat "Table" "own_rows") rfl), He.noat_ok (c.fact 69 (f := .noat "Table" "own_sizes") rfl), He.conB_ok m1⟩
  have mr := He.meth_ok (c.fact 70 (f := .meth "Table" "row_of") rfl)
  have mo := He.meth_ok (c.fact 71 (f := .meth "Table" "goal_of") rfl)
  have mc := He.meth_ok (c.fact 72 (f := .meth "Table" "__call__") rfl)
  have mk := He.mkr_ok (c.fact 73 (f := .mkr "Table") rfl)
  obtain ⟨fi, Fi⟩ := c.def_ 38 (d := dM "__init__" "Table.__init__" s_T_init [.non]) rfl
  obtain ⟨fr, Fr⟩ := c.def_ 39 (d := dM "row_of" "Table.row_of" s_T_row_of []) rfl
  obtain ⟨fg, Fg⟩ := c.def_ 40 (d := dM "goal_of" "Table.goal_of" s_T_goal_of []) rfl
  obtain ⟨fc, Fc⟩ := c.def_ 41 (d := dM "__call__" "Table.__call__" s_T_call []) rfl
  exact ⟨B,
    V,
    tc,
    prop_of m3 m4 gv,
    ⟨_, fr, Fr, mr⟩,
    ⟨_, fg, Fg, mo⟩,
    ⟨_, fc, Fc, ⟨mc.at_, mc.fn, m5⟩⟩,
    ⟨_, fi, Fi, mk⟩,
    df_of X G c 0 0 rfl rfl,
    df_of X G c 1 1 rfl rfl,
    df_of X G c 2 2 rfl rfl,
    df_of X G c 3 3 rfl rfl,
    df_of X G c 4 4 rfl rfl,
    df_of X G c 5 5 rfl rfl,
    df_of X G c 6 6 rfl rfl,
    df_of X G c 7 7 rfl rfl,
    df_of X G c 8 8 rfl rfl,
    df_of X G c 9 9 rfl rfl,
    df_of X G c 10 10 rfl rfl,
    df_of X G c 11 11 rfl rfl,
    df_of X G c 12 12 rfl rfl,
    df_of X G c 13 13 rfl rfl,
    df_of X G c 14 14 rfl rfl,
    df_of X G c 15 15 rfl rfl,
    df_of X G c 16 16 rfl rfl,
    df_of X G c 17 17 rfl rfl,
    df_of X G c 18 18 rfl rfl,
    df_of X G c 19 19 rfl rfl,
    df_of X G c 20 20 rfl rfl,
    df_of X G c 21 21 rfl rfl,
    df_of X G c 22 22 rfl rfl,
    df_of X G c 23 23 rfl rfl,
    df1_of X G c 24 24 rfl rfl,
    df1_of X G c 25 25 rfl rfl,
    df_of X G c 26 26 rfl rfl,
    df_of X G c 27 27 rfl rfl,
    df_of X G c 28 28 rfl rfl,
    df_of X G c 29 29 rfl rfl,
    df_of X G c 30 30 rfl rfl,
    df_of X G c 31 31 rfl rfl,
    df_of X G c 32 32 rfl rfl,
    df_of X G c 33 33 rfl rfl,
    df_of X G c 34 34 rfl rfl,
    df_of X G c 35 35 rfl rfl,
    df_of X G c 36 36 rfl rfl,
    df_of X G c 37 37 rfl rfl⟩
end Cw
set_option Elab.async false
set_option linter.all false
set_option maxRecDepth 100000
set_option maxHeartbeats 0
open PySem PySem.W PySem.Calls PyProof.Rows
namespace Cw
open L2
theorem room11 : Room 11 callerA := ⟨rfl, by decide, by decide⟩
theorem small63 : 63 ≤ sizeLine := by rw [sizeLine_eq]; decide
theorem law_run (snd : SoundAll) {P : Program} {w : World} {K : PySem.W.Frag} {mg mb : Str → Option Value} {fa a : Addr} {s : Shared} {vs : List Value} {ns : List Int}
    (kin : K.In s.heap) (gl : s.heap.Ns mainGlobals mg) (bl : s.heap.Ns builtinsNs mb) (bb : ∀ x : Str, x ≠ "__name__" → mb x = bootBuiltins x) (nl : s.heap.NoLimit) (ge : s.gens = #[])
    (c : He.SaysX hFa hFn [] hTf hEx w s.heap K) (gv : getW K = getV)
    (bm : ∃ (m : Addr) (ob : Obj), mg "__builtins__" = some (.ref m) ∧ m ≠ builtinsNs ∧ s.heap.get? m = some ob ∧ ob.cls = .type "module" ∧ ob.dict = some builtinsNs ∧ ob.data = .plain)
    (la : s.heap.get? a = some { cls := .type "list", data := .seq vs.toArray }) (li : IntsAre vs ns) (ll : ns.length ≤ 63) (hm : mg ("law" : Str) = some (.ref fa)) :
    codeAny (model P w) callerA (.call (.ref fa) ⟨[.ref a], []⟩) (fun r s' => r = .ok (.ret (.bool true)) ∧ OldK s.heap s'.heap ∧ s'.os = s.os ∧ AllBare s'.gens) s := by
  have F := facts_of kin gl c gv
  have hfa : fa = He.ga K "law" := by
    obtain ⟨_, _, g⟩ := F.l_law
    rw [hm] at g
    injection g with g
    injection g
  have hp : (("want_free", none) : He.Defn) ∈ hTf := List.mem_singleton.mpr rfl
  subst hfa
  refine law_g (k := 11) (sp := spLaw K) (c := He.codeOf K ("want_free", none)) (T := WT K) (mb := mb) kin gl bl bb nl ge (c.empty _ hp) (c.out _ hp) (c.hd _ hp) bm la li (Nat.le_trans ll small63) room11 (fun base _ _ TB => (law_kpg snd F TB).1) fun H hT hS => ⟨a, ns, rfl, hS, ?_, fun _ => rfl⟩
  intro p hp
  rw [List.mem_singleton.mp hp]
  exact LamX.TabS.nil hT
end Cw
set_option Elab.async false
set_option linter.all false
set_option maxRecDepth 100000
set_option maxHeartbeats 0
open PySem PySem.W PySem.Calls PyProof.Rows
theorem Cw.holds_of (snd : Cw.SoundAll) : PySem.Challenge.rw_coverways_k23_whole_great_widths_counted.Holds := by
  w_on; o_law
  refine HandSHeadRun.head_any (r := OpenLaw.row PySem.Challenge.rw_coverways_k23_whole_great_widths_counted) (q := view (OpenLaw.row PySem.Challenge.rw_coverways_k23_whole_great_widths_counted).prog [63]) (H := Cw.hHook) (ob := Cw.hOb) (M := 20000) (loose := Cw.nm0) (d := HandSHeadRun.topDef (OpenLaw.row PySem.Challenge.rw_coverways_k23_whole_great_widths_counted).prog 63) (kwd := []) Cw.hOb_eq
    (by kernel_rfl) (fun s => by kernel_rfl) Cw.hRun (by kernel_rfl) (by kernel_rfl) (by kernel_rfl) (by rfl) (by first | assumption | decide +kernel) (by decide +kernel) ⟨rfl, rfl, rfl, rfl, rfl, by decide +kernel⟩ ?hw ?hc
  case hw => w_witness2
  case hc =>
    refine Att.attach_callB (n := 63) rfl (by kernel_rfl) fun w s₀ s₁ mg mb fa o pm cd doc a vs ns G Y ho hd hcd hmg0 hobj hints hlen hbits hg => ?_
    obtain ⟨K, KX, c, gv⟩ := Y
    have hmg : mg ("law" : PySem.Str) = some (.ref fa) := by
      have e : (HandSHeadRun.topDef (OpenLaw.row PySem.Challenge.rw_coverways_k23_whole_great_widths_counted).prog 63).name = ("law" : PySem.Str) := by kernel_rfl
      rw [← e]
      exact hmg0
    exact Cw.law_run snd (mb := mb) KX G.T.g G.T.b G.T.builtins G.T.nolimit hg c gv G.T.bmain hobj hints hlen hmg
set_option Elab.async false
set_option linter.all false
set_option maxRecDepth 100000
set_option maxHeartbeats 4000000
namespace Cw
open PySem PySem.Spec PyProof.Rows L2
/-! ### all addresses; numbers of them -/
def adr : Nat → List (List Bool)
  | 0 => [[]]
  | n + 1 => (adr n).map (false :: ·) ++ (adr n).map (true :: ·)
theorem adr_mem : ∀ {n : Nat} {a : List Bool}, a ∈ adr n ↔ a.length = n
  | 0, a => by
    unfold adr
    rw [List.mem_singleton, List.length_eq_zero_iff]
  | n + 1, a => by
    unfold adr
    rw [List.mem_append, List.mem_map, List.mem_map]
    constructor
    · rintro (⟨w, hw, rfl⟩ | ⟨w, hw, rfl⟩)
      · rw [List.length_cons, adr_mem.mp hw]
      · rw [List.length_cons, adr_mem.mp hw]
    · intro h
      match a, h with
      | false :: w, h => exact .inl ⟨w, adr_mem.mpr (by simpa using h), rfl⟩
      | true :: w, h => exact .inr ⟨w, adr_mem.mpr (by simpa using h), rfl⟩
theorem adr_len : ∀ n : Nat, (adr n).length = 2 ^ n
  | 0 => rfl
  | n + 1 => by
    unfold adr
    rw [List.length_append, List.length_map, List.length_map, adr_len n, Nat.pow_succ]
    omega
/-- how many addresses under a stretch, with so many bits yet, have a property -/
def cntU (P : List Bool → Bool) (d : Nat) (part : List Bool) : Nat := (adr d).countP fun w => P (part ++ w)
theorem cntU_zero (P : List Bool → Bool) (part : List Bool) : cntU P 0 part = if P part then 1 else 0 := by
  unfold cntU adr
  rw [List.countP_cons, List.countP_nil, List.append_nil, Nat.zero_add]
theorem cntU_succ (P : List Bool → Bool) (d : Nat) (part : List Bool) : cntU P (d + 1) part = cntU P d (part ++ [false]) + cntU P d (part ++ [true]) := by
  unfold cntU
  rw [adr, List.countP_append, List.countP_map, List.countP_map]
  congr 1
  · refine List.countP_congr fun w _ => ?_
    simp
  · refine List.countP_congr fun w _ => ?_
    simp
theorem cntU_all {P : List Bool → Bool} {d : Nat} {part : List Bool} (h : ∀ w, w.length = d → P (part ++ w) = true) : cntU P d part = 2 ^ d := by
  unfold cntU
  rw [List.countP_eq_length.mpr fun w hw => h w (adr_mem.mp hw), adr_len]
theorem cntU_none {P : List Bool → Bool} {d : Nat} {part : List Bool} (h : ∀ w, w.length = d → P (part ++ w) = false) : cntU P d part = 0 := by
  unfold cntU
  rw [List.countP_eq_zero.mpr fun w hw z => by rw [h w (adr_mem.mp hw)] at z; cases z]
theorem cntU_top (P : List Bool → Bool) (n : Nat) : cntU P n [] = (adr n).countP P := by
  unfold cntU
  exact List.countP_congr fun w _ => by rw [List.nil_append]
/-- those that begin with a stretch -/
theorem cnt_pre : ∀ (n : Nat) (s : List Bool), s.length ≤ n → (adr n).countP (fun a => s.isPrefixOf a) = 2 ^ (n - s.length)
  | n, [], _ => by
    rw [List.countP_eq_length.mpr fun w _ => by rfl, adr_len] <;> rfl
  | 0, b :: s, h => by simp at h
  | n + 1, b :: s, h => by
    have ih := cnt_pre n s (by simpa using h)
    rw [adr, List.countP_append, List.countP_map, List.countP_map, List.length_cons, Nat.add_sub_add_right, ← ih]
    cases b
    · have e2 : (adr n).countP ((fun a => (false :: s).isPrefixOf a) ∘ fun x => true :: x) = 0 := List.countP_eq_zero.mpr fun w _ z => by simp [List.isPrefixOf] at z
      rw [e2, Nat.add_zero]
      exact List.countP_congr fun w _ => by simp [List.isPrefixOf]
    · have e2 : (adr n).countP ((fun a => (true :: s).isPrefixOf a) ∘ fun x => false :: x) = 0 := List.countP_eq_zero.mpr fun w _ z => by simp [List.isPrefixOf] at z
      rw [e2, Nat.zero_add]
      exact List.countP_congr fun w _ => by simp [List.isPrefixOf]
/-! ### numbers that bits tell -/
theorem valB_go : ∀ (l : List Bool) (m : Nat), l.foldl (fun a b => 2 * a + b.toNat) m = m * 2 ^ l.length + valB l
  | [], m => by simp [valB]
  | b :: l, m => by
    unfold valB
    rw [List.foldl_cons, List.foldl_cons, valB_go l, valB_go l (2 * 0 + b.toNat), List.length_cons, Nat.pow_succ, Nat.add_mul]
    have : 2 * m * 2 ^ l.length = m * (2 ^ l.length * 2) := by rw [Nat.mul_comm 2 m, Nat.mul_assoc, Nat.mul_comm 2]
    rw [this]
    simp only [Nat.mul_zero, Nat.zero_add]
    omega
theorem valB_cons (b : Bool) (l : List Bool) : valB (b :: l) = b.toNat * 2 ^ l.length + valB l := by
  show (b :: l).foldl _ 0 = _
  rw [List.foldl_cons, valB_go]
  simp
theorem valB_app (l m : List Bool) : valB (l ++ m) = valB l * 2 ^ m.length + valB m := by
  show (l ++ m).foldl _ 0 = _
  rw [List.foldl_append, valB_go] <;> rfl
theorem valB_num : ∀ (i n : Nat), n < 2 ^ i → valB (numB i n) = n
  | 0, n, h => by
    have : n = 0 := by simpa using h
    subst this
    rfl
  | i + 1, n, h => by
    have key : ∀ j m : Nat, numB j (m % 2 ^ j) = numB j m := fun j => by
      induction j with
      | zero => exact fun _ => rfl
      | succ j ih =>
        intro m
        unfold numB
        have e1 : m % 2 ^ (j + 1) / 2 ^ j % 2 = m / 2 ^ j % 2 := by
          rw [Nat.pow_succ, Nat.mod_mul_right_div_self]
          omega
        have e2 : numB j (m % 2 ^ (j + 1)) = numB j m := by
          rw [← ih (m % 2 ^ (j + 1)), ← ih m]
          congr 1
          exact Nat.mod_mod_of_dvd _ (Nat.pow_dvd_pow 2 (Nat.le_succ j))
        rw [e1, e2]
    unfold numB
    rw [valB_cons, numB_len, ← key i n, valB_num i _ (Nat.mod_lt _ (Nat.two_pow_pos i))]
    have h1 : n / 2 ^ i < 2 := by
      rw [Nat.div_lt_iff_lt_mul (Nat.two_pow_pos i), Nat.mul_comm, ← Nat.pow_succ]
      exact h
    have h2 := Nat.div_add_mod n (2 ^ i)
    have h3 : n / 2 ^ i = 0 ∨ n / 2 ^ i = 1 := by
      generalize n / 2 ^ i = z at h1
      omega
    rcases h3 with h3 | h3
    · rw [h3] at h2 ⊢
      simp at h2 ⊢
      exact h2
    · rw [h3] at h2 ⊢
      simp at h2 ⊢
      exact h2
theorem valB_inj : ∀ {a b : List Bool}, a.length = b.length → valB a = valB b → a = b
  | [], [], _, _ => rfl
  | [], _ :: _, h, _ => by simp at h
  | _ :: _, [], h, _ => by simp at h
  | x :: a, y :: b, h, e => by
    have hl : a.length = b.length := by simpa using h
    rw [valB_cons, valB_cons, hl] at e
    have h1 := valB_lt a
    have h2 := valB_lt b
    rw [hl] at h1
    cases x <;> cases y <;> simp at e
    · rw [valB_inj hl (by omega)]
    · omega
    · omega
    · rw [valB_inj hl (by omega)]
theorem num_val {n : Nat} {a : List Bool} (h : a.length = n) : numB n (valB a) = a := by
  refine valB_inj (by rw [numB_len, h]) ?_
  have := valB_lt a
  rw [h] at this
  exact valB_num n _ this
/-- a stretch holds an address just if the number lies within -/
theorem pre_num {n : Nat} {s a : List Bool} (ha : a.length = n) (hs : s.length ≤ n) : s <+: a ↔ beginOf n s ≤ valB a ∧ valB a < beginOf n s + 2 ^ (n - s.length) := by
  unfold beginOf
  constructor
  · rintro ⟨w, rfl⟩
    have hw : w.length = n - s.length := by
      rw [List.length_append] at ha
      omega
    have h1 := valB_lt w
    rw [valB_app, hw]
    rw [hw] at h1
    omega
  · rintro ⟨h1, h2⟩
    have e : a = a.take s.length ++ a.drop s.length := (List.take_append_drop _ _).symm
    have hd : (a.drop s.length).length = n - s.length := by rw [List.length_drop, ha]
    have hv : valB a = valB (a.take s.length) * 2 ^ (n - s.length) + valB (a.drop s.length) := by
      conv => lhs; rw [e]
      rw [valB_app, hd]
    have h3 := valB_lt (a.drop s.length)
    rw [hd] at h3
    have p := Nat.two_pow_pos (n - s.length)
    have q : valB (a.take s.length) = valB s := by
      have l1 : valB s < valB (a.take s.length) + 1 := by
        apply Nat.lt_of_mul_lt_mul_right (a := 2 ^ (n - s.length))
        rw [Nat.add_mul]
        omega
      have l2 : valB (a.take s.length) < valB s + 1 := by
        apply Nat.lt_of_mul_lt_mul_right (a := 2 ^ (n - s.length))
        rw [Nat.add_mul]
        omega
      omega
    have : a.take s.length = s := valB_inj (by rw [List.length_take, ha]; omega) q
    rw [← this]
    exact List.take_prefix _ _
theorem begin_le {n : Nat} {s : List Bool} (hs : s.length ≤ n) : beginOf n s + 2 ^ (n - s.length) ≤ 2 ^ n := by
  unfold beginOf
  have h := valB_lt s
  have e : 2 ^ n = 2 ^ s.length * 2 ^ (n - s.length) := by
    rw [← Nat.pow_add]
    congr 1
    omega
  rw [e, ← Nat.succ_mul]
  exact Nat.mul_le_mul_right _ h
/-! ### the order -/
theorem lexB_nil {a : List Bool} : ¬ LexB a [] := by
  rintro (⟨c, h1, h2⟩ | ⟨p, x, y, h1, h2⟩)
  · have := congrArg List.length h2
    have h3 := List.length_pos_iff.mpr h1
    simp at this
    omega
  · have := congrArg List.length h2
    simp at this
/-- a stretch that holds a later one holds all between -/
theorem lex_between {q a b : List Bool} (h1 : LexB q a) (h2 : LexB a b) (h : q <+: b) : q <+: a := by
  rcases h1 with ⟨c, _, rfl⟩ | ⟨p, x, y, rfl, rfl⟩
  · exact List.prefix_append _ _
  · exfalso
    obtain ⟨r, rfl⟩ := h
    rcases h2 with ⟨c, _, h3⟩ | ⟨p2, x2, y2, h3, h4⟩
    · simp only [List.append_assoc, List.cons_append] at h3
      have := List.append_cancel_left h3
      simp at this
    · simp only [List.append_assoc, List.cons_append] at h4
      rcases List.append_eq_append_iff.mp h3 with ⟨e, he1, he2⟩ | ⟨e, he1, he2⟩
      · subst he1
        rw [List.append_assoc] at h4
        have h5 := List.append_cancel_left h4
        cases e with
        | nil =>
          simp at he2
        | cons z e =>
          rw [List.cons_append] at he2 h5
          have z1 := (List.cons.inj he2).1
          have z2 := (List.cons.inj h5).1
          rw [← z1] at z2
          cases z2
      · subst he1
        rw [List.append_assoc] at h4
        have h5 := List.append_cancel_left h4
        cases e with
        | nil =>
          simp at he2
        | cons z e =>
          rw [List.cons_append] at he2 h5
          have z1 := (List.cons.inj he2).1
          have z2 := (List.cons.inj h5).1
          rw [← z1] at z2
          cases z2
theorem lexB_irr {a : List Bool} : ¬ LexB a a := by
  rintro (⟨c, h1, h2⟩ | ⟨p, x, y, h1, h2⟩)
  · have := List.append_cancel_left (as := a) (bs := []) (cs := c) (by simpa using h2)
    exact h1 this.symm
  · rw [h1] at h2
    have := List.append_cancel_left h2
    simp at this
theorem lexB_pre {a b : List Bool} (h : LexB a b) : ¬ b <+: a := by
  rintro ⟨c, rfl⟩
  rcases h with ⟨d, h1, h2⟩ | ⟨p, x, y, h1, h2⟩
  · rw [List.append_assoc] at h2
    have := List.append_cancel_left (as := b) (bs := []) (cs := c ++ d) (by simpa using h2)
    simp at this
    exact h1 this.2
  · subst h2
    simp only [List.append_assoc, List.cons_append] at h1
    have := List.append_cancel_left h1
    simp at this
/-- apart: the one's numbers end ahead of the other's -/
theorem lex_apart {n : Nat} {a b : List Bool} (h : LexB a b) (hp : ¬ a <+: b) (ha : a.length ≤ n) (hb : b.length ≤ n) : beginOf n a + 2 ^ (n - a.length) ≤ beginOf n b := by
  rcases h with ⟨c, _, rfl⟩ | ⟨p, x, y, rfl, rfl⟩
  · exact absurd (List.prefix_append _ _) hp
  · unfold beginOf
    rw [valB_app, valB_app, valB_cons, valB_cons]
    simp only [List.length_append, List.length_cons, Bool.toNat_false, Bool.toNat_true, Nat.zero_mul, Nat.zero_add, Nat.one_mul] at *
    have hx := valB_lt x
    obtain ⟨k, hk⟩ : ∃ k, n = p.length + 1 + k := ⟨n - p.length - 1, by omega⟩
    have e1 : 2 ^ k = 2 ^ x.length * 2 ^ (n - (p.length + (x.length + 1))) := by
      rw [← Nat.pow_add]
      congr 1
      omega
    have e2 : 2 ^ k = 2 ^ y.length * 2 ^ (n - (p.length + (y.length + 1))) := by
      rw [← Nat.pow_add]
      congr 1
      omega
    have l1 : (valB p * 2 ^ (x.length + 1) + valB x + 1) * 2 ^ (n - (p.length + (x.length + 1))) ≤ (valB p * 2 + 1) * 2 ^ k := by
      rw [e1, ← Nat.mul_assoc]
      refine Nat.mul_le_mul_right _ ?_
      rw [Nat.add_mul, Nat.one_mul, Nat.mul_assoc, Nat.pow_succ, Nat.mul_comm 2]
      omega
    have l2 : (valB p * 2 + 1) * 2 ^ k ≤ (valB p * 2 ^ (y.length + 1) + (2 ^ y.length + valB y)) * 2 ^ (n - (p.length + (y.length + 1))) := by
      rw [e2, ← Nat.mul_assoc]
      refine Nat.mul_le_mul_right _ ?_
      rw [Nat.add_mul, Nat.one_mul, Nat.mul_assoc, Nat.pow_succ, Nat.mul_comm 2]
      omega
    rw [Nat.add_mul, Nat.one_mul] at l1
    omega
theorem lex_lt : ∀ {a b : List Bool}, a.length = b.length → valB a < valB b → a.map cb < b.map cb
  | [], [], _, h => absurd h (Nat.lt_irrefl _)
  | [], _ :: _, h, _ => by simp at h
  | _ :: _, [], h, _ => by simp at h
  | x :: a, y :: b, h, e => by
    have hl : a.length = b.length := by simpa using h
    rw [valB_cons, valB_cons, hl] at e
    have h1 := valB_lt a
    have h2 := valB_lt b
    rw [hl] at h1
    rw [List.map_cons, List.map_cons, List.cons_lt_cons_iff]
    cases x <;> cases y <;> simp at e
    · exact .inr ⟨rfl, lex_lt hl (by omega)⟩
    · exact .inl (by decide)
    · omega
    · exact .inr ⟨rfl, lex_lt hl (by omega)⟩
end Cw
set_option Elab.async false
set_option linter.all false
set_option maxRecDepth 100000
set_option maxHeartbeats 4000000
namespace Cw
open PySem PySem.Spec PyProof.Rows L2
/-! ### the goal of a stretch, bit by bit -/
def Gr (rs : List Row) : List Bool → Str
  | [] => aimOf rs [] "hole"
  | b :: r => aimOf rs (b :: r).reverse (Gr rs r)
def Gp (rs : List Row) (s : List Bool) : Str := Gr rs s.reverse
theorem gp_nil (rs : List Row) : Gp rs [] = aimOf rs [] "hole" := rfl
theorem gp_snoc (rs : List Row) (s : List Bool) (b : Bool) : Gp rs (s ++ [b]) = aimOf rs (s ++ [b]) (Gp rs s) := by
  unfold Gp
  rw [List.reverse_append]
  show aimOf rs (b :: s.reverse).reverse (Gr rs s.reverse) = _
  rw [List.reverse_cons, List.reverse_reverse]
theorem gp_look {rs : List Row} {s : List Bool} {g : Str} (h : look rs s = some g) : Gp rs s = g := by
  unfold Gp
  cases e : s.reverse with
  | nil =>
    have : s = [] := by simpa using e
    subst this
    show aimOf rs [] "hole" = g
    unfold aimOf
    rw [h] <;> rfl
  | cons b r =>
    show aimOf rs (b :: r).reverse (Gr rs r) = g
    rw [← e, List.reverse_reverse]
    unfold aimOf
    rw [h] <;> rfl
theorem gp_ext {rs : List Row} {s : List Bool} : ∀ (w : List Bool), (∀ v, v ≠ [] → v <+: w → s ++ v ∉ rs.map (·.1)) → Gp rs (s ++ w) = Gp rs s := by
  have key : ∀ r : List Bool, (∀ v, v ≠ [] → v <+: r.reverse → s ++ v ∉ rs.map (·.1)) → Gp rs (s ++ r.reverse) = Gp rs s := fun r => by
    induction r with
    | nil =>
      intro _
      rw [List.reverse_nil, List.append_nil]
    | cons b r ih =>
      intro h
      rw [List.reverse_cons, ← List.append_assoc, gp_snoc]
      have h1 := h (r.reverse ++ [b]) (by simp) (by rw [List.reverse_cons]; exact List.prefix_refl _)
      unfold aimOf
      rw [List.append_assoc, look_none h1]
      exact ih fun v hv hp => h v hv (by rw [List.reverse_cons]; exact hp.trans (List.prefix_append _ _))
  intro w h
  have := key w.reverse
  rw [List.reverse_reverse] at this
  exact this h
theorem look_isSome {rs : List Row} {l : List Bool} : (look rs l).isSome = true ↔ l ∈ rs.map (·.1) := by
  constructor
  · intro h
    by_cases e : l ∈ rs.map (·.1)
    · exact e
    · rw [look_none e] at h
      cases h
  · intro h
    obtain ⟨g, hg⟩ := look_some h
    rw [hg] <;> rfl
theorem take_pre {r a : List Bool} (h : r <+: a) : a.take r.length = r := by
  obtain ⟨w, rfl⟩ := h
  exact List.take_left
/-- the table's answer is that goal -/
theorem goal_gp {n : Nat} {rs rs' : List Row} {szs : List Nat} (h1 : RsOf rs rs') (h2 : SzOf rs szs) (hle : ∀ r ∈ rs, r.1.length ≤ n) {a : List Bool} (ha : a.length = n) : goalM rs' szs a = Gp rs a := by
  have rv : look rs' = look rs := funext h1.val
  unfold goalM rowM
  rw [rv]
  cases hf : szs.find? (fun k => (look rs (a.take k)).isSome) with
  | none =>
    have no : ∀ v, v <+: a → v ∉ rs.map (·.1) := fun v hv hm => by
      obtain ⟨r, hr, e⟩ := List.mem_map.mp hm
      subst e
      have := List.find?_eq_none.mp hf _ ((h2.mem _).mpr ⟨r, hr, rfl⟩)
      rw [take_pre hv] at this
      exact this (look_isSome.mpr hm)
    show ("hole" : Str) = _
    have e := gp_ext (rs := rs) (s := []) a fun v _ hv => by
      rw [List.nil_append]
      exact no v hv
    rw [List.nil_append] at e
    rw [e, gp_nil]
    unfold aimOf
    rw [look_none (no [] (List.nil_prefix)) ] <;> rfl
  | some k =>
    obtain ⟨hk, as, bs, e, hno⟩ := List.find?_eq_some_iff_append.mp hf
    have hm := look_isSome.mp hk
    obtain ⟨g, hg⟩ := look_some hm
    have hkn : k ≤ n := by
      have : k ∈ szs := by
        rw [e]
        simp
      obtain ⟨r, hr, e2⟩ := (h2.mem k).mp this
      rw [← e2]
      exact hle r hr
    show (look rs (a.take k)).getD "hole" = _
    rw [hg]
    show g = _
    have eq := gp_ext (rs := rs) (s := a.take k) (a.drop k) fun v hv hp hmem => by
      obtain ⟨r, hr, er⟩ := List.mem_map.mp hmem
      have hpre : a.take k ++ v <+: a := by
        conv => rhs; rw [← List.take_append_drop k a]
        exact (List.prefix_append_right_inj _).mpr hp
      have hl : (a.take k ++ v).length = k + v.length := by
        rw [List.length_append, List.length_take, ha, Nat.min_eq_left hkn]
      have hs : k + v.length ∈ szs := (h2.mem _).mpr ⟨r, hr, by rw [er, hl]⟩
      have hv0 := List.length_pos_iff.mpr hv
      have ht := take_pre hpre
      rw [hl] at ht
      have dn := h2.down
      rw [e] at hs dn
      rcases List.mem_append.mp hs with h | h
      · have := hno _ h
        rw [ht, look_isSome.mpr hmem] at this
        cases this
      · rcases List.mem_cons.mp h with h | h
        · omega
        · have := (List.pairwise_cons.mp (List.pairwise_append.mp dn).2.1).1 _ h
          omega
    rw [List.take_append_drop] at eq
    rw [eq, gp_look hg]
/-! ### pieces by halving: numbers, first ones -/
theorem freeB_iff {ls : List (List Bool)} {a : List Bool} : freeB ls a = true ↔ ∃ f ∈ ls, f <+: a := by
  unfold freeB
  rw [List.any_eq_true]
  constructor
  · rintro ⟨f, h1, h2⟩
    exact ⟨f, h1, List.isPrefixOf_iff_prefix.mp h2⟩
  · rintro ⟨f, h1, h2⟩
    exact ⟨f, h1, List.isPrefixOf_iff_prefix.mpr h2⟩
theorem freeB_not {ls : List (List Bool)} {a : List Bool} : freeB ls a = false ↔ ∀ f ∈ ls, ¬ f <+: a := by
  constructor
  · intro h f hf hp
    rw [freeB_iff.mpr ⟨f, hf, hp⟩] at h
    cases h
  · intro h
    cases e : freeB ls a with
    | false => rfl
    | true =>
      obtain ⟨f, h1, h2⟩ := freeB_iff.mp e
      exact absurd h2 (h f h1)
theorem in_insOf {ks : List (List Bool)} {part v : List Bool} (h : part ++ v ∈ ks) (hv : v ≠ []) : part ∈ insOf ks :=
  (insOf_mem _ _).mpr ⟨_, h, part.length, by have := List.length_pos_iff.mpr hv; rw [List.length_append]; omega, by rw [List.take_left]⟩
section
variable {n : Nat} {rs : List Row} {ls : List (List Bool)}
/-- a piece: nothing else lies in it -/
theorem leaf_ok {part : List Bool} {d : Nat} (hn : part.length + d = n) (hk : ∀ k ∈ rs.map (·.1) ++ ls, k.length ≤ n) (hf : ∀ f ∈ ls, f <+: part → f = part) (h1 : part ∉ ls) (h2 : d = 0 ∨ part ∉ insOf (rs.map (·.1) ++ ls)) :
    ∀ w : List Bool, w.length = d → freeB ls (part ++ w) = false ∧ Gp rs (part ++ w) = Gp rs part := fun w hw => by
  have no : ∀ v, v ≠ [] → part ++ v ∉ rs.map (·.1) ++ ls := fun v hv hm => by
    rcases h2 with h2 | h2
    · have := hk _ hm
      have := List.length_pos_iff.mpr hv
      rw [List.length_append] at *
      omega
    · exact h2 (in_insOf hm hv)
  refine ⟨freeB_not.mpr fun f hfl hp => ?_, gp_ext w fun v hv _ hm => no v hv (List.mem_append_left _ hm)⟩
  rcases Nat.le_total f.length part.length with hl | hl
  · have := hf f hfl (List.prefix_of_prefix_length_le hp (List.prefix_append _ _) hl)
    exact h1 (this ▸ hfl)
  · obtain ⟨v, rfl⟩ := List.prefix_of_prefix_length_le (List.prefix_append _ _) hp hl
    by_cases hv : v = []
    · subst hv
      rw [List.append_nil] at hfl
      exact h1 hfl
    · exact no v hv (List.mem_append_right _ hfl)
theorem down_free {part : List Bool} {b : Bool} (hf : ∀ f ∈ ls, f <+: part → f = part) (h1 : part ∉ ls) : ∀ f ∈ ls, f <+: part ++ [b] → f = part ++ [b] := fun f hfl hp => by
  rcases List.prefix_concat_iff.mp hp with h | h
  · exact h
  · exact absurd (hf f hfl h ▸ hfl) h1
theorem pcs_cnt (hk : ∀ k ∈ rs.map (·.1) ++ ls, k.length ≤ n) (q : Str → Bool) : ∀ (d : Nat) (part : List Bool) (aim : Str), part.length + d = n → aimOf rs part aim = Gp rs part → (∀ f ∈ ls, f <+: part → f = part) →
    (((pcs rs (insOf (rs.map (·.1) ++ ls)) ls d part aim).filter fun x => q x.2).map fun x => ((2 ^ (n - x.1.length) : Nat) : Int)).sum = ((cntU (fun a => !freeB ls a && q (Gp rs a)) d part : Nat) : Int) := by
  have leaf : ∀ (d : Nat) (part : List Bool) (aim : Str), part.length + d = n → aimOf rs part aim = Gp rs part → (∀ f ∈ ls, f <+: part → f = part) → (part ∉ ls → d = 0 ∨ part ∉ insOf (rs.map (·.1) ++ ls)) →
      (((if part ∈ ls then [] else [((part, aimOf rs part aim) : Piece)]).filter fun x => q x.2).map fun x => ((2 ^ (n - x.1.length) : Nat) : Int)).sum = ((cntU (fun a => !freeB ls a && q (Gp rs a)) d part : Nat) : Int) := fun d part aim hn ha hf h2 => by
    by_cases h1 : part ∈ ls
    · rw [if_pos h1, cntU_none (P := fun a => !freeB ls a && q (Gp rs a)) fun w _ => ?_]
      · rfl
      · rw [freeB_iff.mpr ⟨part, h1, List.prefix_append _ _⟩] <;> rfl
    · have ok := leaf_ok hn hk hf h1 (h2 h1)
      have hd : n - part.length = d := by omega
      rw [if_neg h1, ha]
      cases hq : q (Gp rs part) with
      | true =>
        rw [cntU_all (P := fun a => !freeB ls a && q (Gp rs a)) fun w hw => ?_]
        · rw [List.filter_cons, if_pos hq, List.filter_nil, List.map_cons, List.map_nil, List.sum_cons, List.sum_nil, hd, Int.add_zero]
        · rw [(ok w hw).1, (ok w hw).2, hq] <;> rfl
      | false =>
        rw [cntU_none (P := fun a => !freeB ls a && q (Gp rs a)) fun w hw => ?_]
        · rw [List.filter_cons, if_neg (by rw [hq]; exact Bool.false_ne_true), List.filter_nil] <;> rfl
        · rw [(ok w hw).1, (ok w hw).2, hq] <;> rfl
  intro d
  induction d with
  | zero =>
    intro part aim hn ha hf
    exact leaf 0 part aim hn ha hf fun _ => .inl rfl
  | succ d ih =>
    intro part aim hn ha hf
    rw [pcs]
    by_cases h : part ∈ insOf (rs.map (·.1) ++ ls) ∧ part ∉ ls
    · rw [if_pos h, List.filter_append, List.map_append, List.sum_append, cntU_succ, Int.natCast_add]
      rw [ih (part ++ [false]) _ (by rw [List.length_append, List.length_singleton]; omega) (by rw [gp_snoc, ha]) (down_free hf h.2),
        ih (part ++ [true]) _ (by rw [List.length_append, List.length_singleton]; omega) (by rw [gp_snoc, ha]) (down_free hf h.2)]
    · rw [if_neg h]
      exact leaf (d + 1) part aim hn ha hf fun h1 => .inr fun h2 => h ⟨h2, h1⟩
theorem fill_len {s : List Bool} (h : s.length ≤ n) : (fillF n s).length = n := by
  unfold fillF
  rw [List.length_append, List.length_replicate]
  omega
theorem valB_zeros (k : Nat) : valB (List.replicate k false) = 0 := by
  induction k with
  | zero => rfl
  | succ k ih =>
    rw [List.replicate_succ, valB_cons, ih]
    simp
theorem fill_val {s : List Bool} : valB (fillF n s) = beginOf n s := by
  unfold fillF beginOf
  rw [valB_app, valB_zeros, List.length_replicate, Nat.add_zero]
theorem fill_pre {s : List Bool} : s <+: fillF n s := List.prefix_append _ _
def Pg (rs : List Row) (ls : List (List Bool)) (g : Str) (a : List Bool) : Bool := !freeB ls a && (Gp rs a == g)
structure FstAt (n : Nat) (rs : List Row) (ls : List (List Bool)) (part : List Bool) (g : Str) (x : List Bool) : Prop where
  pre : part <+: x
  len : x.length = n
  ok : Pg rs ls g x = true
  least : ∀ a : List Bool, a.length = n → part <+: a → Pg rs ls g a = true → valB x ≤ valB a
theorem half {part a : List Bool} {d : Nat} (hn : part.length + (d + 1) = n) (ha : a.length = n) (hp : part <+: a) : part ++ [false] <+: a ∨ part ++ [true] <+: a := by
  obtain ⟨w, rfl⟩ := hp
  cases w with
  | nil =>
    rw [List.append_nil] at ha
    omega
  | cons b w =>
    cases b
    · exact .inl ⟨w, by simp⟩
    · exact .inr ⟨w, by simp⟩
theorem pcs_fst (hk : ∀ k ∈ rs.map (·.1) ++ ls, k.length ≤ n) (g : Str) : ∀ (d : Nat) (part : List Bool) (aim : Str), part.length + d = n → aimOf rs part aim = Gp rs part → (∀ f ∈ ls, f <+: part → f = part) →
    (∀ x, (pcs rs (insOf (rs.map (·.1) ++ ls)) ls d part aim).find? (fun x => x.2 == g) = some x → FstAt n rs ls part g (fillF n x.1)) ∧
    ((pcs rs (insOf (rs.map (·.1) ++ ls)) ls d part aim).find? (fun x => x.2 == g) = none → ∀ a : List Bool, a.length = n → part <+: a → Pg rs ls g a = false) := by
  have leaf : ∀ (d : Nat) (part : List Bool) (aim : Str), part.length + d = n → aimOf rs part aim = Gp rs part → (∀ f ∈ ls, f <+: part → f = part) → (part ∉ ls → d = 0 ∨ part ∉ insOf (rs.map (·.1) ++ ls)) →
      (∀ x, (if part ∈ ls then [] else [((part, aimOf rs part aim) : Piece)]).find? (fun x => x.2 == g) = some x → FstAt n rs ls part g (fillF n x.1)) ∧
      ((if part ∈ ls then [] else [((part, aimOf rs part aim) : Piece)]).find? (fun x => x.2 == g) = none → ∀ a : List Bool, a.length = n → part <+: a → Pg rs ls g a = false) := fun d part aim hn ha hf h2 => by
    by_cases h1 : part ∈ ls
    · rw [if_pos h1]
      refine ⟨fun x hx => (by cases hx), fun _ a _ hp => ?_⟩
      unfold Pg
      rw [freeB_iff.mpr ⟨part, h1, hp⟩] <;> rfl
    · have ok := leaf_ok hn hk hf h1 (h2 h1)
      rw [if_neg h1, ha, List.find?_cons]
      have under : ∀ a : List Bool, a.length = n → part <+: a → Pg rs ls g a = (Gp rs part == g) := fun a hl hp => by
        obtain ⟨w, rfl⟩ := hp
        have := ok w (by rw [List.length_append] at hl; omega)
        unfold Pg
        rw [this.1, this.2] <;> rfl
      have fl := fill_len (n := n) (s := part) (by omega)
      cases hq : (Gp rs part == g) with
      | true =>
        refine ⟨fun x hx => ?_, fun hx => by cases hx⟩
        have hx := (Option.some.inj hx).symm
        subst hx
        refine ⟨fill_pre, fl, by rw [under _ fl fill_pre, hq], fun a hl hp _ => ?_⟩
        rw [fill_val]
        exact ((pre_num hl (by omega)).mp hp).1
      | false =>
        refine ⟨fun x hx => (by cases hx), fun _ a hl hp => by rw [under a hl hp, hq]⟩
  intro d
  induction d with
  | zero =>
    intro part aim hn ha hf
    exact leaf 0 part aim hn ha hf fun _ => .inl rfl
  | succ d ih =>
    intro part aim hn ha hf
    rw [pcs]
    by_cases h : part ∈ insOf (rs.map (·.1) ++ ls) ∧ part ∉ ls
    · rw [if_pos h, List.find?_append]
      have hn2 : ∀ b : Bool, (part ++ [b]).length + d = n := fun b => by
        rw [List.length_append, List.length_singleton]
        omega
      have i1 := ih (part ++ [false]) (aimOf rs part aim) (hn2 _) (by rw [gp_snoc, ha]) (down_free hf h.2)
      have i2 := ih (part ++ [true]) (aimOf rs part aim) (hn2 _) (by rw [gp_snoc, ha]) (down_free hf h.2)
      cases hf1 : (pcs rs (insOf (rs.map (·.1) ++ ls)) ls d (part ++ [false]) (aimOf rs part aim)).find? (fun x => x.2 == g) with
      | some y =>
        refine ⟨fun x hx => ?_, fun hx => by cases hx⟩
        have hx := (Option.some.inj hx).symm
        subst hx
        have F := i1.1 x hf1
        refine ⟨(List.prefix_append _ _).trans F.pre, F.len, F.ok, fun a hl hp ho => ?_⟩
        rcases half hn hl hp with h1 | h1
        · exact F.least a hl h1 ho
        · have b0 := hn2 false
          have b1 := hn2 true
          have l1 := ((pre_num F.len (by omega)).mp F.pre).2
          have l2 := ((pre_num hl (by omega)).mp h1).1
          have l3 := lex_apart (n := n) (a := part ++ [false]) (b := part ++ [true]) (.inr ⟨part, [], [], rfl, rfl⟩) (fun z => by
            have := z.eq_of_length (by simp)
            simp at this) (by omega) (by omega)
          omega
      | none =>
        have e : ∀ o : Option Piece, (none : Option Piece).or o = o := fun o => rfl
        rw [e]
        refine ⟨fun x hx => ?_, fun hx a hl hp => ?_⟩
        · have F := i2.1 x hx
          refine ⟨(List.prefix_append _ _).trans F.pre, F.len, F.ok, fun a hl hp ho => ?_⟩
          rcases half hn hl hp with h1 | h1
          · rw [i1.2 hf1 a hl h1] at ho
            cases ho
          · exact F.least a hl h1 ho
        · rcases half hn hl hp with h1 | h1
          · exact i1.2 hf1 a hl h1
          · exact i2.2 hx a hl h1
    · rw [if_neg h]
      exact leaf (d + 1) part aim hn ha hf fun h1 => .inr fun h2 => h ⟨h2, h1⟩
end
end Cw
set_option Elab.async false
set_option linter.all false
set_option maxRecDepth 100000
set_option maxHeartbeats 4000000
namespace Cw
open PySem PySem.Spec PyProof.Rows L2
/-! ### cells: numbers and first addresses -/
/-- the address lies in the cell of s, as far as the stretches are told -/
def inB (done : List (List Bool)) (s a : List Bool) : Bool := s.isPrefixOf a && done.all fun t => !(s.isPrefixOf t && t != s && t.isPrefixOf a)
theorem inB_iff {done : List (List Bool)} {s a : List Bool} : inB done s a = true ↔ s <+: a ∧ ∀ t ∈ done, s <+: t → t ≠ s → ¬ t <+: a := by
  unfold inB
  rw [Bool.and_eq_true, List.isPrefixOf_iff_prefix, List.all_eq_true]
  refine and_congr Iff.rfl (forall_congr' fun t => forall_congr' fun _ => ?_)
  rw [Bool.not_eq_true', Bool.and_eq_false_iff, Bool.and_eq_false_iff]
  constructor
  · rintro ((h | h) | h) h1 h2 h3
    · rw [List.isPrefixOf_iff_prefix.mpr h1] at h
      cases h
    · rw [bne_eq_false_iff_eq] at h
      exact h2 h
    · rw [List.isPrefixOf_iff_prefix.mpr h3] at h
      cases h
  · intro h
    by_cases h1 : s <+: t
    · by_cases h2 : t = s
      · exact .inl (.inr (bne_eq_false_iff_eq.mpr h2))
      · refine .inr ?_
        cases e : t.isPrefixOf a with
        | false => rfl
        | true => exact absurd (List.isPrefixOf_iff_prefix.mp e) (h h1 h2)
    · refine .inl (.inl ?_)
      cases e : s.isPrefixOf t with
      | false => rfl
      | true => exact absurd (List.isPrefixOf_iff_prefix.mp e) h1
theorem inB_false {done : List (List Bool)} {s a : List Bool} (h : ¬ (s <+: a ∧ ∀ t ∈ done, s <+: t → t ≠ s → ¬ t <+: a)) : inB done s a = false := by
  cases e : inB done s a with
  | false => rfl
  | true => exact absurd (inB_iff.mp e) h
theorem inB_nil (s a : List Bool) : inB [] s a = s.isPrefixOf a := by
  unfold inB
  rw [List.all_nil, Bool.and_true]
/-- a stretch more that says nothing of the cell -/
theorem inB_same {done : List (List Bool)} {s t a : List Bool} (h : s <+: t → t ≠ s → t <+: a → inB done s a = false) : inB (done ++ [t]) s a = inB done s a := by
  cases e : inB done s a with
  | false =>
    refine inB_false fun z => ?_
    have : inB done s a = true := inB_iff.mpr ⟨z.1, fun u hu => z.2 u (List.mem_append_left _ hu)⟩
    rw [e] at this
    cases this
  | true =>
    have z := inB_iff.mp e
    refine inB_iff.mpr ⟨z.1, fun u hu h1 h2 h3 => ?_⟩
    rcases List.mem_append.mp hu with hu | hu
    · exact z.2 u hu h1 h2 h3
    · have hu := List.mem_singleton.mp hu
      subst hu
      rw [h h1 h2 h3] at e
      cases e
theorem cnt_add {α : Type} {P Q R : α → Bool} : ∀ {L : List α}, (∀ a ∈ L, (if P a then 1 else 0) = (if Q a then 1 else 0) + (if R a then 1 else 0)) → L.countP P = L.countP Q + L.countP R
  | [], _ => rfl
  | a :: L, h => by
    rw [List.countP_cons, List.countP_cons, List.countP_cons, cnt_add fun x hx => h x (List.mem_cons_of_mem _ hx), h a List.mem_cons_self]
    omega
structure CellAt (n : Nat) (done : List (List Bool)) (c : Cell) : Prop where
  many : c.2.1 = (((adr n).countP (inB done c.1) : Nat) : Int)
  lo : beginOf n c.1 ≤ c.2.2
  hi : c.2.2 ≤ beginOf n c.1 + 2 ^ (n - c.1.length)
  gone : ∀ a : List Bool, a.length = n → c.1 <+: a → valB a < c.2.2 → inB done c.1 a = false
  here : ∀ a : List Bool, a.length = n → c.1 <+: a → valB a = c.2.2 → inB done c.1 a = true
structure CellInv (n : Nat) (zs done : List (List Bool)) (f : List Cell) (stk : List (List Bool)) : Prop where
  keys : f.map (·.1) = zs
  cell : ∀ c ∈ f, CellAt n done c
  sub : ∀ q ∈ stk, q ∈ done
  chain : stk.Pairwise fun x y => y <+: x ∧ y ≠ x
  has : ∀ t, (∀ d ∈ done, LexB d t) → ∀ q ∈ done, q <+: t → q ∈ stk
theorem mem_dropWhile {α : Type} {p : α → Bool} {x : α} : ∀ {l : List α}, x ∈ l → p x = false → x ∈ l.dropWhile p
  | [], h, _ => by cases h
  | y :: l, h, hx => by
    rw [List.dropWhile_cons]
    split
    · rename_i hy
      rcases List.mem_cons.mp h with rfl | h
      · rw [hx] at hy
        cases hy
      · exact mem_dropWhile h hx
    · exact h
theorem head_dropWhile {α : Type} {p : α → Bool} {x : α} {r : List α} : ∀ {l : List α}, l.dropWhile p = x :: r → p x = false
  | [], h => by cases h
  | y :: l, h => by
    rw [List.dropWhile_cons] at h
    split at h
    · exact head_dropWhile h
    · rename_i hy
      cases h
      cases e : p x with
      | false => rfl
      | true => exact absurd e hy
theorem pre_anti {a b : List Bool} (h1 : a <+: b) (h2 : b <+: a) : a = b := h1.eq_of_length (Nat.le_antisymm h1.length_le h2.length_le)
theorem pre_either {a b c : List Bool} (h1 : a <+: c) (h2 : b <+: c) : a <+: b ∨ b <+: a := by
  rcases Nat.le_total a.length b.length with h | h
  · exact .inl (List.prefix_of_prefix_length_le h1 h2 h)
  · exact .inr (List.prefix_of_prefix_length_le h2 h1 h)
section
variable {n : Nat} {zs done todo : List (List Bool)} {f : List Cell} {stk : List (List Bool)} {t : List Bool}
theorem cell_init (hle : ∀ l ∈ zs, l.length ≤ n) : CellInv n zs [] (initC n zs) [] := by
  refine ⟨?_, fun c hc => ?_, (fun q hq => by cases hq), .nil, (fun t _ q hq => by cases hq)⟩
  · unfold initC
    rw [List.map_map]
    exact List.map_id zs
  · unfold initC at hc
    obtain ⟨s, hs, rfl⟩ := List.mem_map.mp hc
    have hl := hle s hs
    refine ⟨?_, Nat.le_refl _, Nat.le_add_right _ _, fun a ha hp hv => ?_, fun a ha hp hv => ?_⟩
    · show ((2 ^ (n - s.length) : Nat) : Int) = _
      rw [← cnt_pre n s hl]
      refine congrArg _ (List.countP_congr fun a _ => ?_)
      rw [inB_nil]
    · have := ((pre_num ha hl).mp hp).1
      exact absurd hv (by exact Nat.not_lt.mpr this)
    · rw [inB_nil]
      exact List.isPrefixOf_iff_prefix.mpr hp
theorem cell_step (hle : ∀ l ∈ zs, l.length ≤ n) (hlex : zs.Pairwise LexB) (hz : zs = done ++ t :: todo) (I : CellInv n zs done f stk) : CellInv n zs (done ++ [t]) (stepC n (f, stk) t).1 (stepC n (f, stk) t).2 := by
  have hd : ∀ d ∈ done, LexB d t := fun d h => by
    rw [hz] at hlex
    exact (List.pairwise_append.mp hlex).2.2 d h t List.mem_cons_self
  have ht : t ∈ zs := by
    rw [hz]
    simp
  have old : ∀ s ∈ zs, s <+: t → t ≠ s → s ∈ done := fun s hs hp hne => by
    rw [hz] at hs
    rcases List.mem_append.mp hs with h | h
    · exact h
    · rcases List.mem_cons.mp h with h | h
      · exact absurd h.symm hne
      · rw [hz] at hlex
        have := (List.pairwise_cons.mp (List.pairwise_append.mp hlex).2.1).1 s h
        exact absurd hp (lexB_pre this)
  have tnd : t ∉ done := fun h => lexB_irr (hd t h)
  have hsub : ∀ q ∈ stk.dropWhile (fun p => !p.isPrefixOf t), q ∈ stk := fun q hq => (List.dropWhile_sublist _).subset hq
  have hch : (stk.dropWhile fun p => !p.isPrefixOf t).Pairwise fun x y => y <+: x ∧ y ≠ x := I.chain.sublist (List.dropWhile_sublist _)
  have hmem : ∀ q, q ∈ done → q <+: t → q ∈ stk.dropWhile (fun p => !p.isPrefixOf t) := fun q hq hp => mem_dropWhile (I.has t hd q hq hp) (by rw [List.isPrefixOf_iff_prefix.mpr hp] <;> rfl)
  have hpre : ∀ q ∈ stk.dropWhile (fun p => !p.isPrefixOf t), q <+: t := fun q hq => by
    cases e : stk.dropWhile (fun p => !p.isPrefixOf t) with
    | nil =>
      rw [e] at hq
      cases hq
    | cons p r =>
      have h1 := head_dropWhile e
      have h2 : p <+: t := by
        refine List.isPrefixOf_iff_prefix.mp ?_
        cases z : p.isPrefixOf t with
        | true => rfl
        | false =>
          have h1 : (!p.isPrefixOf t) = false := h1
          rw [z] at h1
          cases h1
      rw [e] at hq hch
      rcases List.mem_cons.mp hq with rfl | hq
      · exact h2
      · exact ((List.pairwise_cons.mp hch).1 q hq).1.trans h2
  have stkI : (∀ q ∈ (stepC n (f, stk) t).2, q ∈ done ++ [t]) ∧ ((stepC n (f, stk) t).2.Pairwise fun x y => y <+: x ∧ y ≠ x) ∧ (∀ u, (∀ d ∈ done ++ [t], LexB d u) → ∀ q ∈ done ++ [t], q <+: u → q ∈ (stepC n (f, stk) t).2) := by
    show (∀ q ∈ t :: stk.dropWhile (fun p => !p.isPrefixOf t), _) ∧ (List.Pairwise _ (t :: stk.dropWhile fun p => !p.isPrefixOf t)) ∧ (∀ u, _ → ∀ q ∈ done ++ [t], q <+: u → q ∈ t :: stk.dropWhile (fun p => !p.isPrefixOf t))
    refine ⟨fun q hq => ?_, List.pairwise_cons.mpr ⟨fun q hq => ⟨hpre q hq, fun z => tnd (z ▸ I.sub q (hsub q hq))⟩, hch⟩, fun u hu q hq hp => ?_⟩
    · rcases List.mem_cons.mp hq with rfl | hq
      · simp
      · exact List.mem_append_left _ (I.sub q (hsub q hq))
    · rcases List.mem_append.mp hq with hq | hq
      · exact List.mem_cons_of_mem _ (hmem q hq (lex_between (hd q hq) (hu t (by simp)) hp))
      · rw [List.mem_singleton.mp hq]
        exact List.mem_cons_self
  obtain ⟨k1, k2, k3⟩ := stkI
  /- a cell of which the further stretch says nothing -/
  have same : ∀ c ∈ f, (c.1 <+: t → t ≠ c.1 → ∀ a, t <+: a → inB done c.1 a = false) → CellAt n (done ++ [t]) c := fun c hc h => by
    have A := I.cell c hc
    have e : ∀ a, inB (done ++ [t]) c.1 a = inB done c.1 a := fun a => inB_same fun h1 h2 h3 => h h1 h2 a h3
    have e2 : inB (done ++ [t]) c.1 = inB done c.1 := funext e
    exact ⟨by rw [e2]; exact A.many, A.lo, A.hi, by rw [e2]; exact A.gone, by rw [e2]; exact A.here⟩
  have inz : ∀ c ∈ f, c.1 ∈ zs := fun c hc => by
    rw [← I.keys]
    exact List.mem_map_of_mem hc
  cases e : stk.dropWhile (fun p => !p.isPrefixOf t) with
  | nil =>
    have e1 : (stepC n (f, stk) t).1 = f := by
      show topC n f t (stk.dropWhile fun p => !p.isPrefixOf t) = f
      rw [e] <;> rfl
    refine ⟨by rw [e1]; exact I.keys, fun c hc => ?_, k1, k2, k3⟩
    rw [e1] at hc
    refine same c hc fun h1 h2 a _ => ?_
    have := hmem c.1 (old c.1 (inz c hc) h1 h2) h1
    rw [e] at this
    cases this
  | cons p r =>
    have e1 : (stepC n (f, stk) t).1 = updC n f p t := by
      show topC n f t (stk.dropWhile fun p => !p.isPrefixOf t) = _
      rw [e] <;> rfl
    have pin : p ∈ stk.dropWhile (fun p => !p.isPrefixOf t) := by
      rw [e]
      exact List.mem_cons_self
    have pd := I.sub p (hsub p pin)
    have pt := hpre p pin
    have pne : t ≠ p := fun z => tnd (z ▸ pd)
    have top : ∀ q ∈ done, q <+: t → q = p ∨ (q <+: p ∧ q ≠ p) := fun q hq hp => by
      have := hmem q hq hp
      rw [e] at this hch
      rcases List.mem_cons.mp this with h | h
      · exact .inl h
      · exact .inr ((List.pairwise_cons.mp hch).1 q h)
    have tl := hle t ht
    have pl : p.length ≤ n := Nat.le_trans pt.length_le tl
    /- under t nothing was taken from p's cell -/
    have U : ∀ a, t <+: a → inB done p a = true := fun a ha => by
      refine inB_iff.mpr ⟨pt.trans ha, fun u hu h1 h2 h3 => ?_⟩
      rcases pre_either h3 ha with h | h
      · rcases top u hu h with z | ⟨z1, z2⟩
        · exact h2 z
        · exact z2 (pre_anti z1 h1)
      · exact lexB_pre (hd u hu) h
    have pz : inB (done ++ [t]) p = fun a => inB done p a && !t.isPrefixOf a := funext fun a => by
      cases h : t.isPrefixOf a with
      | true =>
        rw [Bool.not_true, Bool.and_false]
        exact inB_false fun z => z.2 t (by simp) pt pne (List.isPrefixOf_iff_prefix.mp h)
      | false =>
        rw [Bool.not_false, Bool.and_true]
        exact inB_same fun _ _ h3 => by
          rw [List.isPrefixOf_iff_prefix.mpr h3] at h
          cases h
    refine ⟨?_, fun c' hc' => ?_, k1, k2, k3⟩
    · rw [e1]
      have : (updC n f p t).map (·.1) = f.map (·.1) := updC_keys n f p t
      rw [this]
      exact I.keys
    · rw [e1] at hc'
      unfold updC at hc'
      obtain ⟨c, hc, rfl⟩ := List.mem_map.mp hc'
      by_cases hp : c.1 = p
      · rw [if_pos hp]
        have A := I.cell c hc
        obtain ⟨s, m, x⟩ := c
        have hp : s = p := hp
        subst hp
        have A1 : m = (((adr n).countP (inB done s) : Nat) : Int) := A.many
        have A2 : beginOf n s ≤ x := A.lo
        have A3 : x ≤ beginOf n s + 2 ^ (n - s.length) := A.hi
        have A4 : ∀ a : List Bool, a.length = n → s <+: a → valB a < x → inB done s a = false := A.gone
        have A5 : ∀ a : List Bool, a.length = n → s <+: a → valB a = x → inB done s a = true := A.here
        have fl := fill_len (n := n) (s := t) tl
        have fv := fill_val (n := n) (s := t)
        have b1 := (pre_num fl pl).mp (pt.trans fill_pre)
        /- the last address of t -/
        have b2 : beginOf n t + 2 ^ (n - t.length) ≤ beginOf n s + 2 ^ (n - s.length) := by
          have lt := Nat.two_pow_pos (n - t.length)
          have l2 := begin_le (n := n) tl
          have vn := valB_num n (beginOf n t + 2 ^ (n - t.length) - 1) (by omega)
          have ln := numB_len n (beginOf n t + 2 ^ (n - t.length) - 1)
          have h1 : t <+: numB n (beginOf n t + 2 ^ (n - t.length) - 1) := (pre_num ln tl).mpr (by rw [vn]; omega)
          have h2 := (pre_num ln pl).mp (pt.trans h1)
          rw [vn] at h2
          omega
        have tpos := Nat.two_pow_pos (n - t.length)
        have le : x ≤ beginOf n t := by
          refine Nat.not_lt.mp fun h => ?_
          have := A4 (fillF n t) fl (pt.trans fill_pre) (by rw [fv]; exact h)
          rw [U _ fill_pre] at this
          cases this
        refine ⟨?_, ?_, ?_, ?_, ?_⟩
        · show m - ((2 ^ (n - t.length) : Nat) : Int) = (((adr n).countP (inB (done ++ [t]) s) : Nat) : Int)
          have := cnt_add (L := adr n) (P := inB done s) (Q := inB (done ++ [t]) s) (R := fun a => t.isPrefixOf a) fun a _ => by
            rw [pz]
            show (if inB done s a = true then 1 else 0) = (if (inB done s a && !t.isPrefixOf a) = true then 1 else 0) + (if t.isPrefixOf a = true then 1 else 0)
            cases h : t.isPrefixOf a with
            | true =>
              rw [U a (List.isPrefixOf_iff_prefix.mp h)]
              decide
            | false =>
              rw [Bool.not_false, Bool.and_true, if_neg Bool.false_ne_true]
              exact (Nat.add_zero _).symm
          rw [cnt_pre n t tl] at this
          omega
        · show beginOf n s ≤ if x = beginOf n t then beginOf n t + 2 ^ (n - t.length) else x
          split <;> omega
        · show (if x = beginOf n t then beginOf n t + 2 ^ (n - t.length) else x) ≤ beginOf n s + 2 ^ (n - s.length)
          split <;> omega
        · show ∀ a : List Bool, a.length = n → s <+: a → valB a < (if x = beginOf n t then beginOf n t + 2 ^ (n - t.length) else x) → inB (done ++ [t]) s a = false
          intro a ha hpa hv
          rw [pz]
          show (inB done s a && !t.isPrefixOf a) = false
          by_cases h : valB a < x
          · rw [A4 a ha hpa h] <;> rfl
          · split at hv
            · rename_i hx
              have : t <+: a := (pre_num ha tl).mpr (by omega)
              rw [List.isPrefixOf_iff_prefix.mpr this, Bool.not_true, Bool.and_false]
            · exact absurd hv h
        · show ∀ a : List Bool, a.length = n → s <+: a → valB a = (if x = beginOf n t then beginOf n t + 2 ^ (n - t.length) else x) → inB (done ++ [t]) s a = true
          intro a ha hpa hv
          rw [pz]
          show (inB done s a && !t.isPrefixOf a) = true
          have np : ¬ t <+: a := fun z => by
            have := (pre_num ha tl).mp z
            split at hv <;> omega
          have np2 : t.isPrefixOf a = false := by
            cases z : t.isPrefixOf a with
            | false => rfl
            | true => exact absurd (List.isPrefixOf_iff_prefix.mp z) np
          rw [np2, Bool.not_false, Bool.and_true]
          split at hv
          · refine inB_iff.mpr ⟨hpa, fun u hu h1 h2 h3 => ?_⟩
            have hul := hle u (by rw [hz]; exact List.mem_append_left _ hu)
            have nu : ¬ u <+: t := fun z => by
              rcases top u hu z with y | ⟨y1, y2⟩
              · exact h2 y
              · exact y2 (pre_anti y1 h1)
            have := lex_apart (hd u hu) nu hul tl
            have := (pre_num ha hul).mp h3
            have := Nat.two_pow_pos (n - t.length)
            omega
          · exact A5 a ha hpa hv
      · rw [if_neg hp]
        refine same c hc fun h1 h2 a ha => ?_
        have cd := old c.1 (inz c hc) h1 h2
        rcases top c.1 cd h1 with z | ⟨z1, z2⟩
        · exact absurd z hp
        · exact inB_false fun y => y.2 p pd z1 (fun z => z2 z.symm) (pt.trans ha)
theorem cell_fold (hle : ∀ l ∈ zs, l.length ≤ n) (hlex : zs.Pairwise LexB) : ∀ (todo done : List (List Bool)) (f : List Cell) (stk : List (List Bool)), zs = done ++ todo → CellInv n zs done f stk → CellInv n zs zs (todo.foldl (stepC n) (f, stk)).1 (todo.foldl (stepC n) (f, stk)).2
  | [], done, f, stk, hz, I => by
    rw [List.append_nil] at hz
    rw [← hz] at I
    exact I
  | t :: todo, done, f, stk, hz, I => by
    have := cell_step hle hlex hz I
    rw [List.foldl_cons]
    exact cell_fold hle hlex todo (done ++ [t]) _ _ (by rw [hz]; simp) this
theorem cells_all (hle : ∀ l ∈ zs, l.length ≤ n) (hlex : zs.Pairwise LexB) {c : Cell} (hc : c ∈ cellsOf n zs) : CellAt n zs c :=
  (cell_fold hle hlex zs [] (initC n zs) [] rfl (cell_init hle)).cell c hc
/-- the first address of a cell that is not empty -/
theorem cell_first {c : Cell} (A : CellAt n zs c) (hs : c.1.length ≤ n) (h : 0 < c.2.1) : inB zs c.1 (numB n c.2.2) = true ∧ valB (numB n c.2.2) = c.2.2 ∧ ∀ a : List Bool, a.length = n → inB zs c.1 a = true → c.2.2 ≤ valB a := by
  have low : ∀ a : List Bool, a.length = n → inB zs c.1 a = true → c.2.2 ≤ valB a := fun a ha hi => Nat.not_lt.mp fun z => by
    rw [A.gone a ha (inB_iff.mp hi).1 z] at hi
    cases hi
  have hm := A.many
  have : 0 < (adr n).countP (inB zs c.1) := by omega
  obtain ⟨a, ha, hi⟩ := List.countP_pos_iff.mp this
  have ha := adr_mem.mp ha
  have l1 := low a ha hi
  have l2 := ((pre_num ha hs).mp (inB_iff.mp hi).1).2
  have l3 := begin_le (n := n) hs
  have vn := valB_num n c.2.2 (by omega)
  have ln := numB_len n c.2.2
  exact ⟨A.here _ ln ((pre_num ln hs).mpr (by rw [vn]; exact ⟨A.lo, by omega⟩)) vn, vn, low⟩
end
end Cw
set_option Elab.async false
set_option linter.all false
set_option maxRecDepth 100000
set_option maxHeartbeats 4000000
namespace Cw
open PySem PySem.Spec PyProof.Rows L2
/-! ### sums over cells -/
section
variable {n : Nat} {zs fr : List (List Bool)}
theorem inB_one {s s' a : List Bool} (h1 : s ∈ zs) (h2 : s' ∈ zs) (i1 : inB zs s a = true) (i2 : inB zs s' a = true) : s = s' := by
  have j1 := inB_iff.mp i1
  have j2 := inB_iff.mp i2
  rcases pre_either j1.1 j2.1 with h | h
  · exact Classical.byContradiction fun ne => j1.2 s' h2 h (fun z => ne z.symm) j2.1
  · exact Classical.byContradiction fun ne => j2.2 s h1 h ne j1.1
theorem inB_some {a : List Bool} : ∀ (k : Nat) (s : List Bool), s ∈ zs → s <+: a → a.length - s.length ≤ k → ∃ s' ∈ zs, inB zs s' a = true
  | k, s, hs, hp, hk => by
    by_cases h : ∀ t ∈ zs, s <+: t → t ≠ s → ¬ t <+: a
    · exact ⟨s, hs, inB_iff.mpr ⟨hp, h⟩⟩
    · have : ∃ t ∈ zs, s <+: t ∧ t ≠ s ∧ t <+: a := Classical.byContradiction fun z => h fun t h1 h2 h3 h4 => z ⟨t, h1, h2, h3, h4⟩
      obtain ⟨t, h1, h2, h3, h4⟩ := this
      have l1 : s.length ≠ t.length := fun z => h3 (h2.eq_of_length z).symm
      have l2 := h2.length_le
      have l3 := h4.length_le
      cases k with
      | zero => omega
      | succ k => exact inB_some k t h1 h4 (by omega)
theorem free_cell (hfr : ∀ f ∈ fr, f ∈ zs) {s a : List Bool} (i : inB zs s a = true) : freeB fr a = freeB fr s := by
  have j := inB_iff.mp i
  cases e : freeB fr s with
  | true =>
    obtain ⟨f, h1, h2⟩ := freeB_iff.mp e
    exact freeB_iff.mpr ⟨f, h1, h2.trans j.1⟩
  | false =>
    refine freeB_not.mpr fun f hf hp => ?_
    rcases pre_either hp j.1 with h | h
    · exact freeB_not.mp e f hf h
    · by_cases ne : f = s
      · exact freeB_not.mp e f hf (ne ▸ List.prefix_refl _)
      · exact j.2 f (hfr f hf) h ne hp
theorem gp_cell {rs : List Row} (hr : ∀ l ∈ rs.map (·.1), l ∈ zs) {s a : List Bool} (i : inB zs s a = true) : Gp rs a = Gp rs s := by
  have j := inB_iff.mp i
  obtain ⟨w, rfl⟩ := j.1
  refine gp_ext w fun v hv hp hm => j.2 _ (hr _ hm) (List.prefix_append _ _) (fun z => hv ?_) ((List.prefix_append_right_inj _).mpr hp)
  exact List.append_cancel_left (as := s) (by rw [List.append_nil]; exact z)
theorem sum_cells : ∀ (L : List Cell), (∀ c ∈ L, c.2.1 = (((adr n).countP (inB zs c.1) : Nat) : Int)) → (L.map (·.1)).Nodup → (∀ c ∈ L, c.1 ∈ zs) → (L.map (·.2.1)).sum = (((adr n).countP (fun a => L.any fun c => inB zs c.1 a) : Nat) : Int)
  | [], _, _, _ => by
    have : (adr n).countP (fun a => ([] : List Cell).any fun c => inB zs c.1 a) = 0 := List.countP_eq_zero.mpr fun a _ z => by cases z
    rw [this] <;> rfl
  | c :: L, h1, h2, h3 => by
    rw [List.map_cons, List.nodup_cons] at h2
    have ih := sum_cells L (fun x hx => h1 x (List.mem_cons_of_mem _ hx)) h2.2 fun x hx => h3 x (List.mem_cons_of_mem _ hx)
    rw [List.map_cons, List.sum_cons, ih, h1 c List.mem_cons_self, ← Int.natCast_add]
    refine congrArg _ (Eq.symm (cnt_add fun a _ => ?_))
    rw [List.any_cons]
    cases e1 : inB zs c.1 a with
    | false =>
      rw [Bool.false_or, if_neg Bool.false_ne_true, Nat.zero_add]
    | true =>
      have e2 : (L.any fun c => inB zs c.1 a) = false := by
        cases e2 : L.any fun c => inB zs c.1 a with
        | false => rfl
        | true =>
          obtain ⟨x, hx, ix⟩ := List.any_eq_true.mp e2
          have := inB_one (h3 c List.mem_cons_self) (h3 x (List.mem_cons_of_mem _ hx)) e1 ix
          exact absurd (this ▸ List.mem_map_of_mem hx) h2.1
      rw [e2] <;> rfl
structure ZsIn (n : Nat) (zs : List (List Bool)) : Prop where
  nd : zs.Nodup
  le : ∀ l ∈ zs, l.length ≤ n
  lex : zs.Pairwise LexB
  nil : [] ∈ zs
theorem cell_in {c : Cell} (hc : c ∈ cellsOf n zs) : c.1 ∈ zs := by
  have := List.mem_map_of_mem (f := fun c : Cell => c.1) hc
  rw [cellsOf_keys] at this
  exact this
theorem cell_for {s : List Bool} (hs : s ∈ zs) : ∃ c ∈ cellsOf n zs, c.1 = s := by
  have : s ∈ (cellsOf n zs).map (·.1) := by
    rw [cellsOf_keys]
    exact hs
  obtain ⟨c, hc, e⟩ := List.mem_map.mp this
  exact ⟨c, hc, e⟩
theorem mem_used {c : Cell} : c ∈ usedOf fr (cellsOf n zs) ↔ c ∈ cellsOf n zs ∧ 0 < c.2.1 ∧ freeB fr c.1 = false := by
  unfold usedOf
  rw [List.mem_filter, Bool.and_eq_true, decide_eq_true_iff, Bool.not_eq_true']
/-- a used cell's first address -/
theorem used_start (Z : ZsIn n zs) (hfr : ∀ f ∈ fr, f ∈ zs) {c : Cell} (hc : c ∈ usedOf fr (cellsOf n zs)) : inB zs c.1 (numB n c.2.2) = true ∧ freeB fr (numB n c.2.2) = false ∧ valB (numB n c.2.2) = c.2.2 ∧ ∀ a : List Bool, a.length = n → inB zs c.1 a = true → c.2.2 ≤ valB a := by
  obtain ⟨h1, h2, h3⟩ := mem_used.mp hc
  obtain ⟨f1, f2, f3⟩ := cell_first (cells_all Z.le Z.lex h1) (Z.le _ (cell_in h1)) h2
  exact ⟨f1, by rw [free_cell hfr f1]; exact h3, f2, f3⟩
/-- a used address lies in a used cell -/
theorem used_cell (Z : ZsIn n zs) (hfr : ∀ f ∈ fr, f ∈ zs) {a : List Bool} (ha : a.length = n) (hu : freeB fr a = false) : ∃ c ∈ usedOf fr (cellsOf n zs), inB zs c.1 a = true := by
  obtain ⟨s, hs, i⟩ := inB_some (zs := zs) (a := a) a.length [] Z.nil (List.nil_prefix) (by simp)
  obtain ⟨c, hc, rfl⟩ := cell_for (n := n) hs
  refine ⟨c, mem_used.mpr ⟨hc, ?_, by rw [← free_cell hfr i]; exact hu⟩, i⟩
  rw [(cells_all Z.le Z.lex hc).many]
  have : 0 < (adr n).countP (inB zs c.1) := List.countP_pos_iff.mpr ⟨a, adr_mem.mpr ha, i⟩
  omega
theorem cells_sum (Z : ZsIn n zs) (hfr : ∀ f ∈ fr, f ∈ zs) (G : List Bool → Str) (hG : ∀ s a a', s ∈ zs → inB zs s a = true → inB zs s a' = true → G a = G a') (q : Str → Bool) :
    (((usedOf fr (cellsOf n zs)).filter fun c => q (G (numB n c.2.2))).map (·.2.1)).sum = (((adr n).countP (fun a => !freeB fr a && q (G a)) : Nat) : Int) := by
  have sub : ∀ c ∈ (usedOf fr (cellsOf n zs)).filter (fun c => q (G (numB n c.2.2))), c ∈ usedOf fr (cellsOf n zs) ∧ q (G (numB n c.2.2)) = true := fun c hc => List.mem_filter.mp hc
  have nd : (((usedOf fr (cellsOf n zs)).filter fun c => q (G (numB n c.2.2))).map (·.1)).Nodup := by
    have s1 : ((usedOf fr (cellsOf n zs)).filter fun c => q (G (numB n c.2.2))).Sublist (cellsOf n zs) := List.filter_sublist.trans List.filter_sublist
    have s2 := s1.map (fun c : Cell => c.1)
    rw [cellsOf_keys] at s2
    exact s2.nodup Z.nd
  rw [sum_cells (n := n) (zs := zs) _ (fun c hc => (cells_all Z.le Z.lex (mem_used.mp (sub c hc).1).1).many) nd fun c hc => cell_in (mem_used.mp (sub c hc).1).1]
  refine congrArg _ (List.countP_congr fun a ha => ?_)
  have ha := adr_mem.mp ha
  rw [List.any_eq_true, Bool.and_eq_true, Bool.not_eq_true']
  constructor
  · rintro ⟨c, hc, i⟩
    obtain ⟨h1, h2⟩ := sub c hc
    obtain ⟨u1, u2, _, _⟩ := used_start Z hfr h1
    refine ⟨?_, ?_⟩
    · rw [free_cell hfr i]
      exact (mem_used.mp h1).2.2
    · rw [hG c.1 a (numB n c.2.2) (cell_in (mem_used.mp h1).1) i u1]
      exact h2
  · rintro ⟨h1, h2⟩
    obtain ⟨c, hc, i⟩ := used_cell Z hfr ha h1
    obtain ⟨u1, _, _, _⟩ := used_start Z hfr hc
    refine ⟨c, List.mem_filter.mpr ⟨hc, ?_⟩, i⟩
    rw [hG c.1 (numB n c.2.2) a (cell_in (mem_used.mp hc).1) u1 i]
    exact h2
end
/-! ### tallies -/
theorem sum_pos : ∀ {L : List Int}, (∀ x ∈ L, 0 < x) → L ≠ [] → 0 < L.sum
  | [], _, h => absurd rfl h
  | x :: L, h, _ => by
    rw [List.sum_cons]
    have h1 := h x List.mem_cons_self
    by_cases e : L = []
    · rw [e]
      simpa using h1
    · have := sum_pos (fun y hy => h y (List.mem_cons_of_mem _ hy)) e
      omega
theorem names_pos {ps : List (Str × Int)} (h : ∀ p ∈ ps, 0 < p.2) (g : Str) : g ∈ names ps ↔ 0 < tot ps g := by
  constructor
  · intro hg
    obtain ⟨p, hp, e⟩ := (names_mem ps g).mp hg
    unfold tot
    have hm : p ∈ ps.filter fun p => p.1 == g := List.mem_filter.mpr ⟨hp, beq_iff_eq.mpr e⟩
    refine sum_pos (fun x hx => ?_) (fun z => ?_)
    · obtain ⟨y, hy, rfl⟩ := List.mem_map.mp hx
      exact h y (List.mem_filter.mp hy).1
    · have := List.mem_map_of_mem (f := fun p : Str × Int => p.2) hm
      rw [z] at this
      cases this
  · intro hg
    refine Classical.byContradiction fun z => ?_
    rw [tot_none ps g z] at hg
    exact absurd hg (by decide)
theorem tot_cons (p : Str × Int) (ps : List (Str × Int)) (g : Str) : tot (p :: ps) g = (if g = p.1 then p.2 else 0) + tot ps g := by
  unfold tot
  rw [List.filter_cons]
  by_cases e : g = p.1
  · rw [if_pos e, if_pos (beq_iff_eq.mpr e.symm), List.map_cons, List.sum_cons]
  · rw [if_neg e, if_neg fun z => e (beq_iff_eq.mp z).symm, Int.zero_add]
theorem sum_if (g : Str) (m : Int) : ∀ {L : List Str}, L.Nodup → (L.map fun x => if x = g then m else 0).sum = if g ∈ L then m else 0
  | [], _ => by simp
  | x :: L, nd => by
    obtain ⟨h1, h2⟩ := List.nodup_cons.mp nd
    rw [List.map_cons, List.sum_cons, sum_if g m h2]
    by_cases e : x = g
    · subst e
      rw [if_pos rfl, if_neg h1, if_pos List.mem_cons_self, Int.add_zero]
    · rw [if_neg e, Int.zero_add]
      by_cases h : g ∈ L
      · rw [if_pos h, if_pos (List.mem_cons_of_mem _ h)]
      · rw [if_neg h, if_neg fun z => (List.mem_cons.mp z).elim (fun y => e y.symm) h]
theorem sum_add2 {α : Type} (f g : α → Int) : ∀ L : List α, (L.map fun x => f x + g x).sum = (L.map f).sum + (L.map g).sum
  | [] => rfl
  | x :: L => by
    rw [List.map_cons, List.map_cons, List.map_cons, List.sum_cons, List.sum_cons, List.sum_cons, sum_add2 f g L]
    omega
theorem zero_sum {α : Type} : ∀ L : List α, (L.map fun _ => (0 : Int)).sum = 0
  | [] => rfl
  | x :: L => by
    rw [List.map_cons, List.sum_cons, zero_sum L] <;> rfl
theorem every_go {L : List Str} (nd : L.Nodup) : ∀ ps : List (Str × Int), (∀ p ∈ ps, p.1 ∈ L) → (L.map (tot ps)).sum = (ps.map (·.2)).sum
  | [], _ => by
    have : L.map (tot []) = L.map fun _ => (0 : Int) := List.map_congr_left fun g _ => rfl
    rw [this, List.map_nil, List.sum_nil]
    exact zero_sum L
  | p :: ps, h => by
    have e : L.map (tot (p :: ps)) = L.map fun g => (if g = p.1 then p.2 else 0) + tot ps g := List.map_congr_left fun g _ => tot_cons p ps g
    rw [e, sum_add2, sum_if p.1 p.2 nd, if_pos (h p List.mem_cons_self), every_go nd ps fun q hq => h q (List.mem_cons_of_mem _ hq), List.map_cons, List.sum_cons]
theorem every_sum (ps : List (Str × Int)) : everyOf ps = (ps.map (·.2)).sum :=
  every_go (names_nd ps) ps fun p hp => (names_mem ps p.1).mpr ⟨p, hp, rfl⟩
theorem len_sub {α : Type} [BEq α] [LawfulBEq α] : ∀ {L M : List α}, L.Nodup → (∀ x ∈ L, x ∈ M) → L.length ≤ M.length
  | [], _, _, _ => Nat.zero_le _
  | x :: L, M, nd, h => by
    obtain ⟨h1, h2⟩ := List.nodup_cons.mp nd
    have hx := h x List.mem_cons_self
    have := len_sub (L := L) (M := M.erase x) h2 fun y hy => (List.mem_erase_of_ne (fun z : y = x => h1 (z ▸ hy))).mpr (h y (List.mem_cons_of_mem _ hy))
    rw [List.length_erase_of_mem hx] at this
    have := List.length_pos_of_mem hx
    rw [List.length_cons]
    omega
theorem pcs_aim (rs : List Row) (ins ls : List (List Bool)) : ∀ (d : Nat) (part : List Bool) (aim : Str), (aim = "hole" ∨ ∃ r ∈ rs, r.2 = aim) → ∀ x ∈ pcs rs ins ls d part aim, x.2 = "hole" ∨ ∃ r ∈ rs, r.2 = x.2
  | 0, part, aim, h, x, hx => by
    unfold pcs at hx
    split at hx
    · cases hx
    · rw [List.mem_singleton.mp hx]
      exact aim_in rs part aim h
  | d + 1, part, aim, h, x, hx => by
    unfold pcs at hx
    split at hx
    · rcases List.mem_append.mp hx with hx | hx
      · exact pcs_aim rs ins ls d _ _ (aim_in rs part aim h) x hx
      · exact pcs_aim rs ins ls d _ _ (aim_in rs part aim h) x hx
    · split at hx
      · cases hx
      · rw [List.mem_singleton.mp hx]
        exact aim_in rs part aim h
theorem log_le {m n : Nat} (hn : n ≤ 100) (h : m ≤ 2 ^ n) : m.log2 < 1920 := by
  by_cases e : m = 0
  · subst e
    decide
  · refine (Nat.log2_lt e).mpr (Nat.lt_of_le_of_lt h ?_)
    exact Nat.pow_lt_pow_right (by decide) (by omega)
end Cw
set_option Elab.async false
set_option linter.all false
set_option maxRecDepth 100000
set_option maxHeartbeats 4000000
namespace Cw
open PySem PySem.Spec PyProof.Rows L2
/-! ### the plain law -/
theorem tot_map {α : Type} (f : α → Str) (m : α → Int) (L : List α) (g : Str) : tot (L.map fun x => (f x, m x)) g = ((L.filter fun x => f x == g).map m).sum := by
  unfold tot
  rw [List.filter_map, List.map_map] <;> rfl
theorem rows_le {n : Nat} {rs : List Row} {ls : List (List Bool)} (h : RowsIn n rs) (hf : FreeIn n ls) : ∀ k ∈ rs.map (·.1) ++ ls, k.length ≤ n := fun k hk => by
  rcases List.mem_append.mp hk with hk | hk
  · obtain ⟨r, hr, rfl⟩ := List.mem_map.mp hk
    exact (h.2.1 r hr).1
  · exact hf.le k hk
section
variable {n : Nat} {rs rs' : List Row} {szs : List Nat} {ls fr zs : List (List Bool)}
theorem zsIn_of {ss : List (List Bool)} (h : ∀ k ∈ ss, k.length ≤ n) (hz : ZsOf ss zs) : ZsIn n zs :=
  ⟨hz.nd, fun l hl => by
    rcases (hz.mem l).mp hl with h1 | h1
    · exact h l h1
    · subst h1
      exact Nat.zero_le _, hz.lex, (hz.mem []).mpr (.inr rfl)⟩
theorem free_rev (h : fr = ls ∨ fr = ls.reverse) : freeB fr = freeB ls ∧ ∀ l, l ∈ fr ↔ l ∈ ls := by
  rcases h with rfl | rfl
  · exact ⟨rfl, fun _ => Iff.rfl⟩
  · refine ⟨funext fun a => ?_, fun l => List.mem_reverse⟩
    unfold freeB
    exact List.any_reverse
theorem pc_sum (h : RowsIn n rs) (hf : FreeIn n ls) (q : Str → Bool) : (((pcOf n rs ls).filter fun x => q x.2).map fun x => ((2 ^ (n - x.1.length) : Nat) : Int)).sum = (((adr n).countP (fun a => !freeB ls a && q (Gp rs a)) : Nat) : Int) := by
  have := pcs_cnt (rows_le h hf) q n [] "hole" (by simp) rfl fun f _ hp => by
    have := hp.length_le
    simpa using this
  rw [cntU_top] at this
  exact this
theorem pc_tot (h : RowsIn n rs) (hf : FreeIn n ls) (g : Str) : tot (psOf n (pcOf n rs ls)) g = (((adr n).countP (Pg rs ls g) : Nat) : Int) := by
  unfold psOf
  rw [tot_map (fun q : Piece => q.2) (fun q => ((2 ^ (n - q.1.length) : Nat) : Int)), pc_sum h hf fun x => x == g] <;> rfl
theorem pc_every (h : RowsIn n rs) (hf : FreeIn n ls) : everyOf (psOf n (pcOf n rs ls)) = (((adr n).countP (fun a => !freeB ls a) : Nat) : Int) := by
  rw [every_sum]
  unfold psOf
  rw [List.map_map]
  have := pc_sum h hf fun _ => true
  rw [List.filter_eq_self.mpr fun _ _ => rfl] at this
  refine this.trans ?_
  refine congrArg _ (List.countP_congr fun a _ => ?_)
  rw [Bool.and_true]
theorem pc_fst (h : RowsIn n rs) (hf : FreeIn n ls) {g : Str} (hg : g ∈ names (psOf n (pcOf n rs ls))) : FstAt n rs ls [] g (bgF n (pcOf n rs ls) g) := by
  obtain ⟨x, hx, e⟩ := (ps_mem n _ g).mp hg
  have := (pcs_fst (rows_le h hf) g n [] "hole" (by simp) rfl fun f _ hp => by
    have := hp.length_le
    simpa using this).1
  unfold bgF
  cases hq : (pcOf n rs ls).find? (fun q => q.2 == g) with
  | none => exact absurd (beq_iff_eq.mpr e) (List.find?_eq_none.mp hq x hx)
  | some y => exact this y hq
theorem ps_names (h : RowsIn n rs) (hf : FreeIn n ls) (g : Str) : g ∈ names (psOf n (pcOf n rs ls)) ↔ ∃ a : List Bool, a.length = n ∧ Pg rs ls g a = true := by
  rw [names_pos, pc_tot h hf]
  · constructor
    · intro z
      have : 0 < (adr n).countP (Pg rs ls g) := by omega
      obtain ⟨a, ha, hp⟩ := List.countP_pos_iff.mp this
      exact ⟨a, adr_mem.mp ha, hp⟩
    · rintro ⟨a, ha, hp⟩
      have : 0 < (adr n).countP (Pg rs ls g) := List.countP_pos_iff.mpr ⟨a, adr_mem.mpr ha, hp⟩
      omega
  · intro p hp
    unfold psOf at hp
    obtain ⟨x, _, rfl⟩ := List.mem_map.mp hp
    have := Nat.two_pow_pos (n - x.1.length)
    show (0 : Int) < ((2 ^ (n - x.1.length) : Nat) : Int)
    omega
theorem tally_gp (h : RowsIn n rs) (h1 : RsOf rs rs') (h2 : SzOf rs szs) : tallyOf n rs' szs fr zs = (usedOf fr (cellsOf n zs)).map fun c => (Gp rs (numB n c.2.2), c.2.1) := by
  unfold tallyOf
  refine List.map_congr_left fun c _ => ?_
  rw [goal_gp h1 h2 (fun r hr => (h.2.1 r hr).1) (numB_len n c.2.2)]
theorem zs_in (h : RowsIn n rs) (hf : FreeIn n ls) (h1 : RsOf rs rs') (hfr : fr = ls ∨ fr = ls.reverse) (hz : ZsOf (rs'.map (·.1) ++ fr) zs) : ZsIn n zs ∧ (∀ f ∈ fr, f ∈ zs) ∧ (∀ l ∈ rs.map (·.1), l ∈ zs) := by
  obtain ⟨_, m⟩ := free_rev hfr
  refine ⟨zsIn_of (fun k hk => ?_) hz, fun f hf => (hz.mem f).mpr (.inl (List.mem_append_right _ hf)), fun l hl => (hz.mem l).mpr (.inl (List.mem_append_left _ (h1.perm.mem_iff.mpr hl)))⟩
  rcases List.mem_append.mp hk with hk | hk
  · exact rows_le h hf k (List.mem_append_left _ (h1.perm.mem_iff.mp hk))
  · exact hf.le k ((m k).mp hk)
theorem tally_tot (h : RowsIn n rs) (hf : FreeIn n ls) (h1 : RsOf rs rs') (h2 : SzOf rs szs) (hfr : fr = ls ∨ fr = ls.reverse) (hz : ZsOf (rs'.map (·.1) ++ fr) zs) (g : Str) : tot (tallyOf n rs' szs fr zs) g = (((adr n).countP (Pg rs ls g) : Nat) : Int) := by
  obtain ⟨Z, z1, z2⟩ := zs_in h hf h1 hfr hz
  rw [tally_gp h h1 h2, tot_map (fun c : Cell => Gp rs (numB n c.2.2)) (fun c => c.2.1), cells_sum Z z1 (Gp rs) (fun s a a' _ i1 i2 => (gp_cell z2 i1).trans (gp_cell z2 i2).symm) fun x => x == g, (free_rev hfr).1] <;> rfl
theorem tally_names (h : RowsIn n rs) (hf : FreeIn n ls) (h1 : RsOf rs rs') (h2 : SzOf rs szs) (hfr : fr = ls ∨ fr = ls.reverse) (hz : ZsOf (rs'.map (·.1) ++ fr) zs) (g : Str) : g ∈ names (tallyOf n rs' szs fr zs) ↔ g ∈ names (psOf n (pcOf n rs ls)) := by
  rw [names_pos, names_pos, tally_tot h hf h1 h2 hfr hz, pc_tot h hf]
  · intro p hp
    unfold psOf at hp
    obtain ⟨x, _, rfl⟩ := List.mem_map.mp hp
    have := Nat.two_pow_pos (n - x.1.length)
    show (0 : Int) < ((2 ^ (n - x.1.length) : Nat) : Int)
    omega
  · intro p hp
    unfold tallyOf at hp
    obtain ⟨c, hc, rfl⟩ := List.mem_map.mp hp
    exact (mem_used.mp hc).2.1
theorem starts_mem {g : Str} {b : List Bool} (h : RowsIn n rs) (h1 : RsOf rs rs') (h2 : SzOf rs szs) : b ∈ startsOf n rs' szs fr zs g ↔ ∃ c ∈ usedOf fr (cellsOf n zs), Gp rs (numB n c.2.2) = g ∧ numB n c.2.2 = b := by
  have gp : ∀ c : Cell, goalM rs' szs (numB n c.2.2) = Gp rs (numB n c.2.2) := fun c => goal_gp h1 h2 (fun r hr => (h.2.1 r hr).1) (numB_len n c.2.2)
  unfold startsOf
  rw [List.mem_map]
  constructor
  · rintro ⟨c, hc, e⟩
    obtain ⟨c1, c2⟩ := List.mem_filter.mp hc
    exact ⟨c, c1, by rw [← gp c]; exact of_decide_eq_true c2, e⟩
  · rintro ⟨c, c1, c2, e⟩
    exact ⟨c, List.mem_filter.mpr ⟨c1, decide_eq_true (by rw [gp c]; exact c2)⟩, e⟩
theorem first_right (h : RowsIn n rs) (hf : FreeIn n ls) (h1 : RsOf rs rs') (h2 : SzOf rs szs) (hfr : fr = ls ∨ fr = ls.reverse) (hz : ZsOf (rs'.map (·.1) ++ fr) zs) {g : Str} {v : V} (hv : FirstOf (startsOf n rs' szs fr zs g) v) :
    v = if g ∈ names (psOf n (pcOf n rs ls)) then txt (bgF n (pcOf n rs ls) g) else .non := by
  obtain ⟨Z, z1, z2⟩ := zs_in h hf h1 hfr hz
  have fe := (free_rev hfr).1
  have F1 : ∀ b ∈ startsOf n rs' szs fr zs g, b.length = n ∧ Pg rs ls g b = true := fun b hb => by
    obtain ⟨c, hc, e1, rfl⟩ := (starts_mem h h1 h2).mp hb
    refine ⟨numB_len n c.2.2, ?_⟩
    have := (used_start Z z1 hc).2.1
    rw [fe] at this
    unfold Pg
    rw [this, e1, beq_self_eq_true] <;> rfl
  have F2 : ∀ a : List Bool, a.length = n → Pg rs ls g a = true → ∃ b ∈ startsOf n rs' szs fr zs g, valB b ≤ valB a := fun a ha hp => by
    unfold Pg at hp
    rw [Bool.and_eq_true, Bool.not_eq_true', ← fe] at hp
    obtain ⟨c, hc, i⟩ := used_cell Z z1 ha hp.1
    obtain ⟨u1, _, u3, u4⟩ := used_start Z z1 hc
    refine ⟨numB n c.2.2, (starts_mem h h1 h2).mpr ⟨c, hc, ?_, rfl⟩, ?_⟩
    · rw [(gp_cell z2 u1).trans (gp_cell z2 i).symm]
      exact beq_iff_eq.mp hp.2
    · rw [u3]
      exact u4 a ha i
  rcases hv with ⟨e, rfl⟩ | ⟨b, hb, hno, rfl⟩
  · rw [if_neg]
    intro hg
    obtain ⟨a, ha, hp⟩ := (ps_names h hf g).mp hg
    obtain ⟨b, hb, _⟩ := F2 a ha hp
    rw [e] at hb
    cases hb
  · obtain ⟨bl, bp⟩ := F1 b hb
    have hg := (ps_names h hf g).mpr ⟨b, bl, bp⟩
    rw [if_pos hg]
    have F := pc_fst h hf hg
    have l1 := F.least b bl List.nil_prefix bp
    obtain ⟨b', hb', l2⟩ := F2 _ F.len F.ok
    have l3 : valB b ≤ valB b' := Nat.not_lt.mp fun z => hno b' hb' (lex_lt (by rw [(F1 b' hb').1, bl]) z)
    have : b = bgF n (pcOf n rs ls) g := valB_inj (by rw [bl, F.len]) (by omega)
    rw [← this]
end
theorem ps_goals {n : Nat} {rs : List Row} {ls : List (List Bool)} {g : Str} (hg : g ∈ names (psOf n (pcOf n rs ls))) : g = "hole" ∨ ∃ r ∈ rs, r.2 = g := by
  obtain ⟨x, hx, rfl⟩ := (ps_mem n _ g).mp hg
  exact pcs_aim rs _ ls n [] "hole" (.inl rfl) x hx
theorem sound_all : SoundAll := fun n rs ls hn h h20 hf rs' szs h1 h2 => by
  have hc : ∀ P : List Bool → Bool, (adr n).countP P ≤ 2 ^ n := fun P => by
    have : (adr n).countP P ≤ (adr n).length := List.countP_le_length
    rw [adr_len] at this
    exact this
  refine ⟨fun fr zs hfr hz g => tally_names h hf h1 h2 hfr hz g, fun fr zs hfr hz g => ?_, fun zs hz => ?_, fun fr zs g v hfr hz hv => first_right h hf h1 h2 hfr hz hv, fun g hg => ?_, ?_, fun g hg => ?_, fun g => ?_, ?_⟩
  · rw [tally_tot h hf h1 h2 hfr hz, pc_tot h hf]
  · rw [pc_every h hf]
    have Z : ZsIn n zs := zsIn_of hf.le hz
    have := cells_sum Z (fr := ls) (fun f hfl => (hz.mem f).mpr (.inl hfl)) (fun _ => ("" : Str)) (fun _ _ _ _ _ _ => rfl) fun _ => true
    rw [List.filter_eq_self.mpr fun _ _ => rfl] at this
    rw [this]
    refine congrArg _ (List.countP_congr fun a _ => ?_)
    rw [Bool.and_true]
  · have F := pc_fst h hf hg
    have ok := F.ok
    unfold Pg at ok
    rw [Bool.and_eq_true, Bool.not_eq_true'] at ok
    exact ⟨F.len, ok.1, by rw [goal_gp h1 h2 (fun r hr => (h.2.1 r hr).1) F.len]; exact beq_iff_eq.mp ok.2⟩
  · have := len_sub (M := ("hole" : Str) :: rs.map (·.2)) (names_nd (psOf n (pcOf n rs ls))) fun g hg => by
      rcases ps_goals hg with rfl | ⟨r, hr, rfl⟩
      · exact List.mem_cons_self
      · exact List.mem_cons_of_mem _ (List.mem_map_of_mem hr)
    rw [List.length_cons, List.length_map] at this
    omega
  · rcases ps_goals hg with rfl | ⟨r, hr, rfl⟩
    · refine ⟨?_, by decide +kernel⟩
      decide +kernel
    · exact letters_short (h.2.1 r hr).2.1
  · rw [pc_tot h hf]
    exact log_le hn.2 (hc _)
  · rw [pc_every h hf]
    exact log_le hn.2 (hc _)
end Cw
theorem PySem.Challenge.cw_coverways_k23_whole_great_widths_counted_holds : PySem.Challenge.rw_coverways_k23_whole_great_widths_counted.Holds := by
  exact Cw.holds_of Cw.sound_all
