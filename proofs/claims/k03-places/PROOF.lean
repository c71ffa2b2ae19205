import PyProof.Rows.All
import Wide.All
import OpenK.AllK
import Wide.FinOn
import HandS.ForMost
import HandS.Walk
import HandS.Deep
import HandS.Codes
import HandS.IsInst
import HandS.More
import HandS.EndBits
import HandS.Wide
import HandS.Style
import HandS.TupAny
import HandS.DictComp
import HandS.SortInts
import HandS.Conv
import HandS.Zip
import HandS.Defaults
import HandS.Head0
import HandS.Head1
import HandS.Head2
import HandS.HeadEnd
import HandS.HeadHook1
import HandS.HeadHook2
import HandS.HeadHook3
import HandS.HeadHook4
import PySem.Challenge.RW_movinglocks_k03_places
set_option Elab.async false
set_option linter.all false
set_option maxRecDepth 100000
set_option maxHeartbeats 4000000
namespace Ml
open PySem L2
def topS (i : Nat) : Stmt := PySem.Challenge.pw_movinglocks_k03_places.main.body.getD i (.Pass ⟨0, 0, 0, 0⟩)
abbrev s_NoThing__init_ : Stmt := L2.inClass (topS 3) 0
abbrev nm_NoThing__init_ : List Str := ["self", "number"]
abbrev sc_NoThing__init_ : Scope := C8.fnScope s_NoThing__init_
abbrev s_is_number : Stmt := topS 6
abbrev nm_is_number : List Str := ["value"]
abbrev sc_is_number : Scope := C8.fnScope s_is_number
theorem fs_is_number : FnScope nm_is_number ["value"] sc_is_number := C8.fnScope_by (by decide +kernel)
abbrev s_reaches_root : Stmt := topS 7
abbrev nm_reaches_root : List Str := ["parents", "folder", "here", "turn"]
abbrev sc_reaches_root : Scope := C8.fnScope s_reaches_root
theorem fs_reaches_root : FnScope nm_reaches_root ["parents", "folder"] sc_reaches_root := C8.fnScope_by (by decide +kernel)
abbrev s_fits : Stmt := topS 8
abbrev nm_fits : List Str := ["folders", "files", "number", "spots", "folder"]
abbrev sc_fits : Scope := C8.fnScope s_fits
theorem fs_fits : FnScope nm_fits ["folders", "files"] sc_fits := C8.fnScope_by (by decide +kernel)
abbrev s_Tree__init_ : Stmt := L2.inClass (topS 9) 0
abbrev nm_Tree__init_ : List Str := ["self", "folders", "files", "number"]
abbrev sc_Tree__init_ : Scope := C8.fnScope s_Tree__init_
theorem fs_Tree__init_ : FnScope nm_Tree__init_ ["self", "folders", "files"] sc_Tree__init_ := C8.fnScope_by (by decide +kernel)
abbrev s_Tree__eq_ : Stmt := L2.inClass (topS 9) 1
abbrev nm_Tree__eq_ : List Str := ["self", "other"]
abbrev sc_Tree__eq_ : Scope := C8.fnScope s_Tree__eq_
theorem fs_Tree__eq_ : FnScope nm_Tree__eq_ ["self", "other"] sc_Tree__eq_ := C8.fnScope_by (by decide +kernel)
abbrev s_Tree__len_ : Stmt := L2.inClass (topS 9) 2
abbrev nm_Tree__len_ : List Str := ["self"]
abbrev sc_Tree__len_ : Scope := C8.fnScope s_Tree__len_
theorem fs_Tree__len_ : FnScope nm_Tree__len_ ["self"] sc_Tree__len_ := C8.fnScope_by (by decide +kernel)
abbrev s_Tree_folders : Stmt := L2.inClass (topS 9) 3
abbrev nm_Tree_folders : List Str := ["self", "number"]
abbrev sc_Tree_folders : Scope := C8.fnScope s_Tree_folders
theorem fs_Tree_folders : FnScope nm_Tree_folders ["self"] sc_Tree_folders := C8.fnScope_by (by decide +kernel)
abbrev s_Tree_files : Stmt := L2.inClass (topS 9) 4
abbrev nm_Tree_files : List Str := ["self", "number"]
abbrev sc_Tree_files : Scope := C8.fnScope s_Tree_files
theorem fs_Tree_files : FnScope nm_Tree_files ["self"] sc_Tree_files := C8.fnScope_by (by decide +kernel)
abbrev s_Tree_is_folder : Stmt := L2.inClass (topS 9) 5
abbrev nm_Tree_is_folder : List Str := ["self", "number"]
abbrev sc_Tree_is_folder : Scope := C8.fnScope s_Tree_is_folder
theorem fs_Tree_is_folder : FnScope nm_Tree_is_folder ["self", "number"] sc_Tree_is_folder := C8.fnScope_by (by decide +kernel)
abbrev s_Tree_is_file : Stmt := L2.inClass (topS 9) 6
abbrev nm_Tree_is_file : List Str := ["self", "number"]
abbrev sc_Tree_is_file : Scope := C8.fnScope s_Tree_is_file
theorem fs_Tree_is_file : FnScope nm_Tree_is_file ["self", "number"] sc_Tree_is_file := C8.fnScope_by (by decide +kernel)
abbrev s_Tree_parent : Stmt := L2.inClass (topS 9) 7
abbrev nm_Tree_parent : List Str := ["self", "folder"]
abbrev sc_Tree_parent : Scope := C8.fnScope s_Tree_parent
theorem fs_Tree_parent : FnScope nm_Tree_parent ["self", "folder"] sc_Tree_parent := C8.fnScope_by (by decide +kernel)
abbrev s_Tree_names : Stmt := L2.inClass (topS 9) 8
abbrev nm_Tree_names : List Str := ["self", "file"]
abbrev sc_Tree_names : Scope := C8.fnScope s_Tree_names
theorem fs_Tree_names : FnScope nm_Tree_names ["self", "file"] sc_Tree_names := C8.fnScope_by (by decide +kernel)
abbrev s_Tree_inside : Stmt := L2.inClass (topS 9) 9
abbrev nm_Tree_inside : List Str := ["self", "folder", "found", "number"]
abbrev sc_Tree_inside : Scope := C8.fnScope s_Tree_inside
theorem fs_Tree_inside : FnScope nm_Tree_inside ["self", "folder"] sc_Tree_inside := C8.fnScope_by (by decide +kernel)
abbrev s_Tree_is_above : Stmt := L2.inClass (topS 9) 10
abbrev nm_Tree_is_above : List Str := ["self", "upper", "lower", "here"]
abbrev sc_Tree_is_above : Scope := C8.fnScope s_Tree_is_above
theorem fs_Tree_is_above : FnScope nm_Tree_is_above ["self", "upper", "lower"] sc_Tree_is_above := C8.fnScope_by (by decide +kernel)
abbrev s_Tree_place : Stmt := L2.inClass (topS 9) 11
abbrev nm_Tree_place : List Str := ["self", "one", "other", "folder"]
abbrev sc_Tree_place : Scope := C8.fnScope s_Tree_place
theorem fs_Tree_place : FnScope nm_Tree_place ["self", "one", "other"] sc_Tree_place := C8.fnScope_by (by decide +kernel)
abbrev s_law_bag : Stmt := topS 11
abbrev nm_law_bag : List Str := ["_law_script", "_law_at", "_law_number_here", "_law_large"]
abbrev sc_law_bag : Scope := C8.fnScope s_law_bag
theorem fs_law_bag : FnScope nm_law_bag ["_law_script", "_law_at"] sc_law_bag := C8.fnScope_by (by decide +kernel)
abbrev s_law_take : Stmt := topS 12
abbrev nm_law_take : List Str := ["_law_bag_here", "_law_many", "_law_digit", "_law_mixed"]
abbrev sc_law_take : Scope := C8.fnScope s_law_take
theorem fs_law_take : FnScope nm_law_take ["_law_bag_here", "_law_many"] sc_law_take := C8.fnScope_by (by decide +kernel)
abbrev s_law_number : Stmt := topS 13
abbrev nm_law_number : List Str := ["_law_bag_here", "_law_used", "_law_number_here"]
abbrev sc_law_number : Scope := C8.fnScope s_law_number
theorem fs_law_number : FnScope nm_law_number ["_law_bag_here", "_law_used"] sc_law_number := C8.fnScope_by (by decide +kernel)
abbrev s_law_tree : Stmt := topS 14
abbrev nm_law_tree : List Str := ["_law_bag_here", "_law_most", "_law_more", "_law_folders", "_law_files", "_law_way", "_law_k", "_law_spots", "_law_number_here", "_law_folder"]
abbrev sc_law_tree : Scope := C8.fnScope s_law_tree
theorem fs_law_tree : FnScope nm_law_tree ["_law_bag_here", "_law_most", "_law_more"] sc_law_tree := C8.fnScope_by (by decide +kernel)
abbrev s_law_ancestors : Stmt := topS 15
abbrev nm_law_ancestors : List Str := ["_law_folders", "_law_folder", "_law_found"]
abbrev sc_law_ancestors : Scope := C8.fnScope s_law_ancestors
theorem fs_law_ancestors : FnScope nm_law_ancestors ["_law_folders", "_law_folder"] sc_law_ancestors := C8.fnScope_by (by decide +kernel)
abbrev s_law_place : Stmt := topS 16
abbrev nm_law_place : List Str := ["_law_folders", "_law_one", "_law_other", "_law_above_one", "_law_above_other"]
abbrev sc_law_place : Scope := C8.fnScope s_law_place
theorem fs_law_place : FnScope nm_law_place ["_law_folders", "_law_one", "_law_other"] sc_law_place := C8.fnScope_by (by decide +kernel)
abbrev s_law : Stmt := topS 17
abbrev nm_law : List Str := ["_law_script", "_law_k", "_law_bag_here", "_law_folders", "_law_files", "_law_tree_here", "_law_some", "_law_one", "_law_other", "_law_found", "_law_turn"]
abbrev sc_law : Scope := C8.fnScope s_law
theorem fs_law : FnScope nm_law ["_law_script"] sc_law := C8.fnScope_by (by decide +kernel)

/-! general -/
section
variable {X : Cx} {k j : Nat} {x : Str} {sp : Sp} {dvs : List V} {p pos : Pos}
theorem pe_c0 (c : C8.Cal X.prog X.w X.K X.mg X.base k x sp dvs) (hr : Room j X.A) (hk : k ≤ j) (hg : Gl X x) (hdb : (x == ("__debug__" : Str)) = false := by decide) :
    PE X (.Call (.Name x p) [] [] pos) (tCall sp dvs C8.E0 tNil) := by
  obtain ⟨f, fd, ps, ds, F, hm, kp, b, d⟩ := c.ex
  exact pe_call0 F (hr.mono hk) hg hm kp b d C8.pass0 hdb
end
/-- an expression, with a word behind it: what follows is shown once -/
def tJoin (t : TE) : TE := fun σ H Q => ∃ P : VK, t σ H P ∧ ∀ v H', P v H' → Q v H'
theorem pe_join1 {X : Cx} {e : Expr} {t : TE} (h : PE X e t) : PE X e (tJoin t) := ⟨fun pins s σ H Q I ⟨P, h1, h2⟩ =>
  thn (h.run pins s σ H P I h1) fun _ _ ⟨v, H', I', r, q⟩ => ⟨v, H', I', r, h2 v H' q⟩⟩
theorem q_join {t : TE} {σ : L2.St} {H : Hp} {Q : VK} (P : VK) (h : t σ H P) (q : ∀ v H', P v H' → Q v H') : tJoin t σ H Q := ⟨P, h, q⟩
/-- a test, with a word behind it -/
def tJoinT (t : TT) : TT := fun σ H Q => ∃ P : Bool → Hp → Prop, t σ H P ∧ ∀ b H', P b H' → Q b H'
theorem pt_join1 {X : Cx} {e : Expr} {t : TT} (h : PT X e t) : PT X e (tJoinT t) := ⟨fun pins s σ H Q I ⟨P, h1, h2⟩ =>
  thn (h.run pins s σ H P I h1) fun _ _ ⟨H', I', q⟩ => ⟨H', I', h2 _ H' q⟩⟩
theorem q_joinT {t : TT} {σ : L2.St} {H : Hp} {Q : Bool → Hp → Prop} (P : Bool → Hp → Prop) (h : t σ H P) (q : ∀ b H', P b H' → Q b H') : tJoinT t σ H Q := ⟨P, h, q⟩
/-- the heap keeps what it told -/
theorem same_new {H : Hp} {p : Addr} {o : HO} (h : H p = none) : Same H (upd H p o) := fun b u e => by
  rw [upd_ne (ne_of_none e h)]
  exact e
/-- all but one object is as it was -/
def But (p : Addr) (H H' : Hp) : Prop := ∀ b o, H b = some o → b ≠ p → H' b = some o
theorem but_upd {H : Hp} {p : Addr} {o : HO} : But p H (upd H p o) := fun b u e h => by
  rw [upd_ne h]
  exact e
theorem same_seqT {K : PySem.W.Frag} {H H' : Hp} {a : Addr} {xs : List V} (e : Same H H') (h : SqT K H a xs) : SqT K H' a xs := by
  rcases h with (h | ⟨o, h⟩) | h
  · exact .inl (.inl (e _ _ h))
  · exact .inl (.inr ⟨o, e _ _ h⟩)
  · exact .inr h
/-- what a def has made since its entry, each at a place of its own -/
structure Own (H0 H : Hp) (l : List (Addr × HO)) : Prop where
  same : Same H0 H
  get : ∀ x ∈ l, H x.1 = some x.2
  new : ∀ x ∈ l, H0 x.1 = none
  nd : (l.map (·.1)).Nodup
section
variable {H0 H H2 : Hp} {l : List (Addr × HO)} {p a : Addr} {ob ob' : HO} {x0 x1 x2 x3 : Addr × HO} {K : PySem.W.Frag} {xs : List V}
theorem Own.start (H : Hp) : Own H H [] := ⟨Same.refl H, (fun _ h => nomatch h), (fun _ h => nomatch h), List.nodup_nil⟩
theorem Own.fresh (o : Own H0 H l) (hp : H p = none) : p ∉ l.map (·.1) := fun h => by
  obtain ⟨x, hx, e⟩ := List.mem_map.mp h
  have := o.get x hx
  rw [e, hp] at this
  cases this
theorem Own.alloc (o : Own H0 H l) (hp : H p = none) (s : Same H H2) (h2 : H2 p = some ob) : Own H0 H2 ((p, ob) :: l) where
  same := o.same.trans s
  get := fun x hx => by
    rcases List.mem_cons.mp hx with e | hx
    · rw [e]; exact h2
    · exact s _ _ (o.get x hx)
  new := fun x hx => by
    rcases List.mem_cons.mp hx with e | hx
    · rw [e]; exact o.same.free hp
    · exact o.new x hx
  nd := List.nodup_cons.mpr ⟨o.fresh hp, o.nd⟩
theorem Own.ext (o : Own H0 H l) (s : Same H H2) : Own H0 H2 l := ⟨o.same.trans s, fun x hx => s _ _ (o.get x hx), o.new, o.nd⟩
theorem Own.tail (o : Own H0 H (x0 :: l)) : Own H0 H l := ⟨o.same, fun x hx => o.get x (List.mem_cons_of_mem _ hx), fun x hx => o.new x (List.mem_cons_of_mem _ hx), (List.nodup_cons.mp o.nd).2⟩
theorem Own.swap (o : Own H0 H (x0 :: x1 :: l)) : Own H0 H (x1 :: x0 :: l) := by
  obtain ⟨n1, n2⟩ := List.nodup_cons.mp o.nd
  obtain ⟨n3, n4⟩ := List.nodup_cons.mp n2
  refine ⟨o.same, fun x hx => o.get x ?_, fun x hx => o.new x ?_, ?_⟩
  · simp only [List.mem_cons] at hx ⊢
    rcases hx with h | h | h
    · exact .inr (.inl h)
    · exact .inl h
    · exact .inr (.inr h)
  · simp only [List.mem_cons] at hx ⊢
    rcases hx with h | h | h
    · exact .inr (.inl h)
    · exact .inl h
    · exact .inr (.inr h)
  · refine List.nodup_cons.mpr ⟨fun h => ?_, List.nodup_cons.mpr ⟨fun h => n1 (List.mem_cons_of_mem _ h), n4⟩⟩
    rcases List.mem_cons.mp h with e | h
    · exact n1 (List.mem_cons.mpr (.inl e.symm))
    · exact n3 h
theorem Own.rot (o : Own H0 H (x0 :: x1 :: x2 :: l)) : Own H0 H (x2 :: x0 :: x1 :: l) := by
  have o1 : Own H0 H (x0 :: x2 :: x1 :: l) := by
    have t := o.tail.swap
    obtain ⟨n1, n2⟩ := List.nodup_cons.mp o.nd
    refine ⟨o.same, fun x hx => o.get x ?_, fun x hx => o.new x ?_, List.nodup_cons.mpr ⟨fun h => n1 ?_, t.nd⟩⟩
    · simp only [List.mem_cons] at hx ⊢
      rcases hx with h | h | h | h
      · exact .inl h
      · exact .inr (.inr (.inl h))
      · exact .inr (.inl h)
      · exact .inr (.inr (.inr h))
    · simp only [List.mem_cons] at hx ⊢
      rcases hx with h | h | h | h
      · exact .inl h
      · exact .inr (.inr (.inl h))
      · exact .inr (.inl h)
      · exact .inr (.inr (.inr h))
    · simp only [List.map_cons, List.mem_cons] at h ⊢
      rcases h with h | h | h
      · exact .inr (.inl h)
      · exact .inl h
      · exact .inr (.inr h)
  exact o1.swap
/-- the first one is changed -/
theorem Own.put (o : Own H0 H ((a, ob) :: l)) (b : But a H H2) (h2 : H2 a = some ob') : Own H0 H2 ((a, ob') :: l) := by
  obtain ⟨n1, n2⟩ := List.nodup_cons.mp o.nd
  have na : H0 a = none := o.new (a, ob) List.mem_cons_self
  refine ⟨fun c u e => b c u (o.same c u e) (ne_of_none e na), fun x hx => ?_, fun x hx => ?_, o.nd⟩
  · rcases List.mem_cons.mp hx with e | hx
    · rw [e]; exact h2
    · exact b _ _ (o.get x (List.mem_cons_of_mem _ hx)) fun e => n1 (by show a ∈ _; rw [← e]; exact List.mem_map_of_mem hx)
  · rcases List.mem_cons.mp hx with e | hx
    · rw [e]; exact na
    · exact o.new x (List.mem_cons_of_mem _ hx)
theorem Own.put1 (o : Own H0 H (x0 :: (a, ob) :: l)) (b : But a H H2) (h2 : H2 a = some ob') : Own H0 H2 (x0 :: (a, ob') :: l) := (o.swap.put b h2).swap
theorem Own.put2 (o : Own H0 H (x0 :: x1 :: (a, ob) :: l)) (b : But a H H2) (h2 : H2 a = some ob') : Own H0 H2 (x0 :: x1 :: (a, ob') :: l) := (o.rot.put b h2).rot.rot
theorem Own.at0 (o : Own H0 H ((a, ob) :: l)) : H a = some ob := o.get (a, ob) List.mem_cons_self
theorem Own.at1 (o : Own H0 H (x0 :: (a, ob) :: l)) : H a = some ob := o.tail.at0
theorem Own.at2 (o : Own H0 H (x0 :: x1 :: (a, ob) :: l)) : H a = some ob := o.tail.at1
theorem Own.at3 (o : Own H0 H (x0 :: x1 :: x2 :: (a, ob) :: l)) : H a = some ob := o.tail.at2
theorem Own.at4 (o : Own H0 H (x0 :: x1 :: x2 :: x3 :: (a, ob) :: l)) : H a = some ob := o.tail.at3
theorem Own.seq (o : Own H0 H l) (h : SqL K H0 a xs) : SqL K H a xs := o.same.seq h
theorem Own.seqT (o : Own H0 H l) (h : SqT K H0 a xs) : SqT K H a xs := same_seqT o.same h
theorem Own.old (o : Own H0 H l) (h : H0 a = some ob) : H a = some ob := o.same _ _ h
end
/-- what a builtin's name tells -/
abbrev Free (mg : Str → Option Value) (x : Str) : Prop := mg x = none
/-! ### readings, step by step -/
/-- behind d[y] = v, d[y], y in d -/
def kPut (N : Hp → Prop) (x y v : V) (H : Hp) : Prop := ∃ a H4, x = .ref a ∧ DPut H a y v H4 ∧ N H4
def kGet (Q : VK) (x y : V) (H : Hp) : Prop := ∃ a v, x = .ref a ∧ DGet H a y (some v) ∧ Q v H
def kIn (F : Bool → Hp → Prop) (x y : V) (H : Hp) : Prop := ∃ a o, x = .ref a ∧ DGet H a y o ∧ F o.isSome H
/-- behind a display -/
def kNew (mk : List V → HO) (Q : VK) : List V → Hp → Prop := fun xs H1 => xs.length ≤ sizeLine ∧ ∀ p, H1 p = none → Q (.ref p) (upd H1 p (mk xs))
section
variable {K : PySem.W.Frag} {σ : L2.St} {H : Hp} {Q : VK} {R : Bool → Hp → Prop} {D : Ends} {ta tb tc te tv tx td ty : TE} {t u : TT} {ts us : TS} {r r' : R2} {x y z v : V} {i j : Nat} {g : TG} {G : L2.St → Hp → Prop} {QA : List V → Hp → Prop} {tA tr : TA} {sp : Sp} {E : XK}
theorem q_var (h : σ[i]? = some (some v)) (q : Q v H) : tVar i σ H Q := ⟨v, h, q⟩
theorem q_c (q : Q v H) : tC v σ H Q := q
theorem q_op (q : ta σ H fun x H1 => tb σ H1 fun y H2 => r x y H2 Q) : tOp r ta tb σ H Q := q
theorem q_I0 {f : Int → Int → V} {a b : Int} (q : Q (f a b) H) : rI0 f (.int a) (.int b) H Q := ⟨a, b, rfl, rfl, q⟩
theorem q_I {C : Int → Int → Prop} {f : Int → Int → V} {a b : Int} (c : C a b) (q : Q (f a b) H) : rI C f (.int a) (.int b) H Q := ⟨a, b, rfl, rfl, c, q⟩
theorem q_mul {f : Int → Int → V} {a b : Int} (c : (-18446744073709551616 < a ∧ a < 18446744073709551616) ∨ (-18446744073709551616 < b ∧ b < 18446744073709551616)) (q : Q (f a b) H) : rI CMul f (.int a) (.int b) H Q := ⟨a, b, rfl, rfl, c, q⟩
theorem q_div {f : Int → Int → V} {a b : Int} (c : 0 < b ∧ b < 1073741824) (q : Q (f a b) H) : rI CDiv f (.int a) (.int b) H Q := ⟨a, b, rfl, rfl, c, q⟩
theorem q_pow {f : Int → Int → V} {a b : Int} (c : 0 ≤ b ∧ b ≤ 1000000 ∧ a.natAbs < 18446744073709551616) (q : Q (f a b) H) : rI CPow f (.int a) (.int b) H Q := ⟨a, b, rfl, rfl, c, q⟩
theorem q_un {f : Int → V} {a : Int} (q : Q (f a) H) : rU f (.int a) H Q := ⟨a, rfl, q⟩
theorem q_unop {ru : V → Hp → VK → Prop} (q : ta σ H fun x H1 => ru x H1 Q) : tUn ru ta σ H Q := q
theorem q_eq (h : scal x y = true) (q : Q (.bl (decide (x = y))) H) : rEq x y H Q := ⟨h, q⟩
theorem q_ne (h : scal x y = true) (q : Q (.bl (!decide (x = y))) H) : rNe x y H Q := ⟨h, q⟩
theorem q_test (q : ta σ H fun x H' => ∃ k, x = .bl k ∧ R k H') : tTest ta σ H R := q
theorem q_B (q : ta σ H fun x H' => ∃ k, x = .bl k ∧ R k H') : tB ta σ H R := q
theorem q_k {b : Bool} {F : Bool → Prop} (q : F b) : ∃ k, V.bl b = .bl k ∧ F k := ⟨b, rfl, q⟩
theorem q_and (q : t σ H fun c H1 => if c = true then u σ H1 R else R false H1) : tAnd t u σ H R := q
theorem q_or (q : t σ H fun c H1 => if c = true then R true H1 else u σ H1 R) : tOr t u σ H R := q
theorem q_not (q : t σ H fun c H1 => R (!c) H1) : tNot t σ H R := q
theorem q_andV (q : ta σ H fun x H1 => ∃ c, x = .bl c ∧ if c = true then tb σ H1 Q else Q (.bl false) H1) : tAndV ta tb σ H Q := q
theorem q_orV (q : ta σ H fun x H1 => ∃ c, x = .bl c ∧ if c = true then Q (.bl true) H1 else tb σ H1 Q) : tOrV ta tb σ H Q := q
theorem q_notV (q : ta σ H fun x H1 => ∃ c, x = .bl c ∧ Q (.bl (!c)) H1) : tNotV ta σ H Q := q
theorem q_if (q : t σ H fun c H1 => if c = true then ta σ H1 Q else tb σ H1 Q) : tIf t ta tb σ H Q := q
theorem q_next (q : D.nx σ H) : tNext D σ H := q
theorem q_seq (q : ts { D with nx := us D } σ H) : tSeq ts us D σ H := q
theorem q_cut (Mid : L2.St → Hp → Prop) (h : ts { D with nx := Mid } σ H) (q : ∀ σ' H', Mid σ' H' → us D σ' H') : C8.tCut ts us D σ H := ⟨Mid, h, q⟩
theorem q_drop (q : te σ H fun _ H1 => D.nx σ H1) : tDrop te D σ H := q
theorem q_ret (q : te σ H D.rt) : tRet te D σ H := q
theorem q_ifS (q : t σ H fun b H1 => if b = true then ts D σ H1 else us D σ H1) : tIfS t ts us D σ H := q
theorem q_name (q : G (σ.set i (some v)) H) : gName i v σ H G := q
theorem q_sub {to ti : TE} {tset : TSet} (q : to σ H fun o H1 => ti σ H1 fun i H2 => tset o i v H2 fun H3 => G σ H3) : gSub to ti tset v σ H G := q
theorem q_asg (q : te σ H fun x H1 => g x σ H1 D.nx) : tAsg te g D σ H := q
theorem q_par (q : tA σ H fun vs H1 => ∃ v w, vs = [v, w] ∧ D.nx ((σ.set i (some v)).set j (some w)) H1) : tPar i j tA D σ H := q
theorem q_par2 {w : V} {F : V → V → Prop} (q : F v w) : ∃ v' w', [v, w] = [v', w'] ∧ F v' w' := ⟨v, w, rfl, q⟩
theorem q_nil (q : QA [] H) : tNil σ H QA := q
theorem q_cons (q : ta σ H fun x H1 => tr σ H1 fun xs H2 => QA (x :: xs) H2) : tCons ta tr σ H QA := q
theorem q_tup (q : tA σ H (kNew HO.tup Q)) : tTup tA σ H Q := q
theorem q_lst (q : tA σ H (kNew HO.lst Q)) : tLst tA σ H Q := q
theorem q_new {xs : List V} {mk : List V → HO} (h : xs.length ≤ sizeLine) (q : ∀ p H2, H p = none → Same H H2 → H2 p = some (mk xs) → Q (.ref p) H2) : kNew mk Q xs H := ⟨h, fun p hp => q p _ hp (same_new hp) upd_same⟩
theorem q_cb {rc : List V → Hp → VK → Prop} (q : tA σ H fun vs H1 => rc vs H1 Q) : tCB rc tA σ H Q := q
theorem q_call {dvs : List V} (q : tA σ H fun vs H1 => sp (vs ++ dvs) H1 Q E) : tCall sp dvs E tA σ H Q := q
theorem q_int1 {n : Int} {F : Int → Prop} (q : F n) : ∃ i, [V.int n] = [.int i] ∧ F i := ⟨n, rfl, q⟩
theorem q_int {n : Int} {F : Int → Prop} {F2 : Prop} (q : F n) : (∃ i, [V.int n] = [.int i] ∧ F i) ∨ F2 := .inl ⟨n, rfl, q⟩
theorem q_ixL {p : Addr} {xs : List V} {n : Int} (h : SqL K H p xs) (e : atI xs n = some v) (q : Q v H) : rIxL K (.ref p) (.int n) H Q := ⟨p, xs, n, v, rfl, rfl, h, e, q⟩
theorem q_ixT {p : Addr} {xs : List V} {n : Int} (h : SqT K H p xs) (e : atI xs n = some v) (q : Q v H) : rIxT K (.ref p) (.int n) H Q := ⟨p, xs, n, v, rfl, rfl, h, e, q⟩
theorem q_setL {p : Addr} {xs : List V} {n : Int} {QH : Hp → Prop} (h : H p = some (.lst xs)) (e : ixN xs.length n = some j) (q : ∀ H2, But p H H2 → H2 p = some (.lst (xs.set j v)) → QH H2) : rSetL (.ref p) (.int n) v H QH := ⟨p, xs, n, j, rfl, rfl, h, e, q _ but_upd upd_same⟩
theorem q_len {p : Addr} {xs : List V} {F : List V → Prop} (h : SqL K H p xs) (q : F xs) : ∃ p' ys, [V.ref p] = [.ref p'] ∧ (SqL K H p' ys ∨ SqT K H p' ys) ∧ F ys := ⟨p, xs, rfl, .inl h, q⟩
theorem q_inL {neg : Bool} {p : Addr} {xs : List V} (h : SqL K H p xs) (hx : flatV x = true) (ha : xs.all flatV = true) (q : Q (.bl (if neg then !inV x xs else inV x xs)) H) : rIn K neg x (.ref p) H Q := ⟨p, xs, rfl, .inl h, hx, ha, q⟩
theorem q_inT {neg : Bool} {p : Addr} {xs : List V} (h : SqT K H p xs) (hx : flatV x = true) (ha : xs.all flatV = true) (q : Q (.bl (if neg then !inV x xs else inV x xs)) H) : rIn K neg x (.ref p) H Q := ⟨p, xs, rfl, .inr h, hx, ha, q⟩
theorem q_bm {T : String} {rm : V → List V → Hp → VK → Prop} {to : TE} (q : to σ H fun x H1 => tyV K T x H1 ∧ tA σ H1 fun xs H2 => rm x xs H2 Q) : tBM K T rm to tA σ H Q := q
theorem q_tyL {p : Addr} {xs : List V} {F : Prop} (h : SqL K H p xs) (q : F) : tyV K "list" (.ref p) H ∧ F := ⟨.inl ⟨rfl, xs, h⟩, q⟩
theorem q_append {p : Addr} {xs : List V} (h : H p = some (.lst xs)) (hl : xs.length < sizeLine) (q : ∀ H2, But p H H2 → H2 p = some (.lst (xs ++ [y])) → Q .non H2) : rAppend (.ref p) [y] H Q := ⟨p, xs, y, rfl, rfl, h, hl, q _ but_upd upd_same⟩
theorem q_extend {p b : Addr} {xs zs : List V} (h : H p = some (.lst xs)) (hb : H b = some (.lst zs)) (hl : xs.length + zs.length ≤ sizeLine) (q : ∀ H2, But p H H2 → H2 p = some (.lst (xs ++ zs)) → Q .non H2) : rExtend (.ref p) [.ref b] H Q := ⟨p, b, xs, zs, rfl, rfl, h, hb, hl, q _ but_upd upd_same⟩
theorem q_dput (q : tv σ H fun v H1 => td σ H1 fun x H2 => ty σ H2 fun y H3 => kPut (D.nx σ) x y v H3) : sDPut td ty tv D σ H := q
theorem q_putT {a b : Addr} {kvs : List (List Key × V)} {k : List Key} {N : Hp → Prop} (h : H a = some (.dT kvs)) (hb : H b = some (.tup (k.map kV))) (hl : kvs.length < sizeLine) (q : ∀ H2, But a H H2 → H2 a = some (.dT (putK kvs k v)) → N H2) : kPut N (.ref a) (.ref b) v H :=
  ⟨a, _, rfl, DPut.t h hb hl, q _ but_upd upd_same⟩
theorem q_putI {a : Addr} {kvs : List (Key × V)} {n : Int} {N : Hp → Prop} (h : H a = some (.dK kvs)) (hl : kvs.length < sizeLine) (q : ∀ H2, But a H H2 → H2 a = some (.dK (putK kvs (.inl n) v)) → N H2) : kPut N (.ref a) (.int n) v H :=
  ⟨a, _, rfl, DPut.k (k := .inl n) h hl, q _ but_upd upd_same⟩
theorem q_putS {a : Addr} {kvs : List (Key × V)} {n : Str} {N : Hp → Prop} (h : H a = some (.dK kvs)) (hl : kvs.length < sizeLine) (q : ∀ H2, But a H H2 → H2 a = some (.dK (putK kvs (.inr n) v)) → N H2) : kPut N (.ref a) (.str n) v H :=
  ⟨a, _, rfl, DPut.k (k := .inr n) h hl, q _ but_upd upd_same⟩
theorem q_dget (q : td σ H fun x H1 => ty σ H1 fun y H2 => kGet Q x y H2) : tDGet td ty σ H Q := q
theorem q_getT {a b : Addr} {kvs : List (List Key × V)} {k : List Key} (h : H a = some (.dT kvs)) (hb : H b = some (.tup (k.map kV))) (e : valV kvs k = some v) (q : Q v H) : kGet Q (.ref a) (.ref b) H := ⟨a, v, rfl, e ▸ DGet.t h hb, q⟩
theorem q_getI {a : Addr} {kvs : List (Key × V)} {n : Int} (h : H a = some (.dK kvs)) (e : valV kvs (.inl n) = some v) (q : Q v H) : kGet Q (.ref a) (.int n) H := ⟨a, v, rfl, e ▸ DGet.k (k := .inl n) h, q⟩
theorem q_getS {a : Addr} {kvs : List (Key × V)} {n : Str} (h : H a = some (.dK kvs)) (e : valV kvs (.inr n) = some v) (q : Q v H) : kGet Q (.ref a) (.str n) H := ⟨a, v, rfl, e ▸ DGet.k (k := .inr n) h, q⟩
theorem q_din (q : ty σ H fun y H1 => td σ H1 fun x H2 => kIn (fun b => Q (.bl b)) x y H2) : tDIn ty td σ H Q := q
theorem q_dnotin (q : ty σ H fun y H1 => td σ H1 fun x H2 => kIn (fun b => Q (.bl (!b))) x y H2) : tDNotIn ty td σ H Q := q
theorem q_inT' {a b : Addr} {kvs : List (List Key × V)} {k : List Key} {F : Bool → Hp → Prop} (h : H a = some (.dT kvs)) (hb : H b = some (.tup (k.map kV))) (q : F (valV kvs k).isSome H) : kIn F (.ref a) (.ref b) H := ⟨a, _, rfl, DGet.t h hb, q⟩
theorem q_inI' {a : Addr} {kvs : List (Key × V)} {n : Int} {F : Bool → Hp → Prop} (h : H a = some (.dK kvs)) (q : F (valV kvs (.inl n)).isSome H) : kIn F (.ref a) (.int n) H := ⟨a, _, rfl, DGet.k (k := .inl n) h, q⟩
theorem q_inS' {a : Addr} {kvs : List (Key × V)} {n : Str} {F : Bool → Hp → Prop} (h : H a = some (.dK kvs)) (q : F (valV kvs (.inr n)).isSome H) : kIn F (.ref a) (.str n) H := ⟨a, _, rfl, DGet.k (k := .inr n) h, q⟩
theorem q_dnewT (q : ∀ p H2, H p = none → Same H H2 → H2 p = some (.dT []) → Q (.ref p) H2) : tDNewT σ H Q := fun p hp => q p _ hp (same_new hp) upd_same
theorem q_dnewK (q : ∀ p H2, H p = none → Same H H2 → H2 p = some (.dK []) → Q (.ref p) H2) : tDNewK σ H Q := fun p hp => q p _ hp (same_new hp) upd_same
theorem q_gtup {n : Nat} {gs : TGs} {a : Addr} {xs : List V} (h : SqT K H a xs) (hl : xs.length = n) (q : gs xs σ H G) : gTup K n gs (.ref a) σ H G := ⟨a, xs, rfl, h, hl, q⟩
theorem q_gcons {gs : TGs} {xs : List V} (q : g x σ H fun σ' H' => gs xs σ' H' G) : gCons g gs (x :: xs) σ H G := ⟨x, xs, rfl, q⟩
theorem q_gnil (q : G σ H) : gNil [] σ H G := ⟨rfl, q⟩
theorem q_for {wi : TI} {tb : TS} (q : wi σ H fun J H1 => ∃ W : Nat → Nat → L2.St → Hp → Prop, (∃ m, W 0 m σ H1) ∧ ∀ i m σ H, W i m σ H →
  (J.stop i H ∧ D.nx σ H) ∨ (J.go i H ∧ ∃ N : L2.St → Hp → Prop, (∀ σ' H', N σ' H' → ∃ m', m' < m ∧ W (i + 1) m' σ' H') ∧ ∀ x H', J.yld i H x H' → g x σ H' fun σ2 H2 => tb { D with nx := N, ct := N, bk := D.nx } σ2 H2)) : tFor wi g tb D σ H := q
theorem q_iList {R : It → Hp → Prop} {tl : TE} (q : tl σ H fun x H1 => ∃ a, x = .ref a ∧ (∃ xs, SqL K H1 a xs) ∧ R (Itl K a) H1) : iList K tl σ H R := q
theorem q_iTup {R : It → Hp → Prop} {tl : TE} (q : tl σ H fun x H1 => ∃ a, x = .ref a ∧ (∃ xs, SqT K H1 a xs) ∧ R (Itt K a) H1) : iTup K tl σ H R := q
theorem q_itl {a : Addr} {xs : List V} {F : Addr → Prop} (h : SqL K H a xs) (q : F a) : ∃ a', V.ref a = .ref a' ∧ (∃ xs, SqL K H a' xs) ∧ F a' := ⟨a, rfl, ⟨xs, h⟩, q⟩
theorem q_itt {a : Addr} {xs : List V} {F : Addr → Prop} (h : SqT K H a xs) (q : F a) : ∃ a', V.ref a = .ref a' ∧ (∃ xs, SqT K H a' xs) ∧ F a' := ⟨a, rfl, ⟨xs, h⟩, q⟩
theorem q_rng1 {R : It → Hp → Prop} (q : tA σ H fun vs H1 => ∃ j : Int, vs = [.int j] ∧ -(2 ^ 62) ≤ j ∧ j < 2 ^ 62 ∧ R (Itr 0 j.toNat) H1) : iRng1 tA σ H R := q
theorem q_rng2 {R : It → Hp → Prop} (q : tA σ H fun vs H1 => ∃ i j : Int, vs = [.int i, .int j] ∧ (-(2 ^ 62) ≤ i ∧ i < 2 ^ 62 ∧ -(2 ^ 62) ≤ j ∧ j < 2 ^ 62) ∧ R (Itr i (j - i).toNat) H1) : iRng2 tA σ H R := q
theorem q_rng1' {n : Int} {F : Int → Prop} (h1 : -4611686018427387904 ≤ n) (h2 : n < 4611686018427387904) (q : F n) : ∃ j : Int, [V.int n] = [.int j] ∧ -(2 ^ 62) ≤ j ∧ j < 2 ^ 62 ∧ F j := ⟨n, rfl, h1, h2, q⟩
theorem q_rng2' {m n : Int} {F : Int → Int → Prop} (h0 : -4611686018427387904 ≤ m) (h1 : m < 4611686018427387904) (h2 : -4611686018427387904 ≤ n) (h3 : n < 4611686018427387904) (q : F m n) : ∃ i j : Int, [V.int m, V.int n] = [.int i, .int j] ∧ (-(2 ^ 62) ≤ i ∧ i < 2 ^ 62 ∧ -(2 ^ 62) ≤ j ∧ j < 2 ^ 62) ∧ F i j := ⟨m, n, rfl, ⟨h0, h1, h2, h3⟩, q⟩
theorem q_cat {p b : Addr} {xs zs : List V} (h : H p = some (.lst xs)) (hb : H b = some (.lst zs)) (hl : xs.length + zs.length ≤ sizeLine) (q : ∀ r H2, H r = none → Same H H2 → H2 r = some (.lst (xs ++ zs)) → Q (.ref r) H2) : rCat (.ref p) (.ref b) H Q := ⟨p, b, xs, zs, rfl, rfl, h, hb, hl, fun r hr => q r _ hr (same_new hr) upd_same⟩
theorem q_sl {rs : V → Option Int → Option Int → Hp → VK → Prop} {tl th : TO} (q : te σ H fun x H1 => tl σ H1 fun l H2 => th σ H2 fun u H3 => rs x l u H3 Q) : tSl rs te tl th σ H Q := q
theorem q_noPart {F : Option Int → Hp → Prop} (q : F none H) : tNoPart σ H F := q
theorem q_part {F : Option Int → Hp → Prop} (q : te σ H fun x H1 => ∃ i, x = .int i ∧ F (some i) H1) : tPart te σ H F := q
theorem q_part' {n : Int} {F : Int → Prop} (q : F n) : ∃ i, V.int n = .int i ∧ F i := ⟨n, rfl, q⟩
theorem q_slL {p : Addr} {xs : List V} {lo hi : Option Int} (h : SqL K H p xs) (q : ∀ r H2, H r = none → Same H H2 → H2 r = some (.lst (cutV xs lo hi)) → Q (.ref r) H2) : rSlL K (.ref p) lo hi H Q := ⟨p, xs, rfl, h, fun r hr => q r _ hr (same_new hr) upd_same⟩
theorem q_lc {wi : TI} {vs : List Nat} (q : wi σ H fun J H1 => ∀ D, H1 D = none → ∃ W : Nat → Nat → Hp → Prop, (∃ m, W 0 m (upd H1 D (.lst []))) ∧ ∀ i m H, W i m H →
  (J.stop i H ∧ Q (.ref D) H) ∨ (J.go i H ∧ ∃ Nx : Hp → Prop, (∀ H', Nx H' → ∃ m', m' < m ∧ W (i + 1) m' H') ∧ ∀ x H', J.yld i H x H' → g x (wipe σ vs) H' fun σ2 H2 => wipe σ2 vs = wipe σ vs ∧ t σ2 H2 fun b H3 =>
    if b = true then te σ2 H3 fun y H4 => ∃ acc, H4 D = some (.lst acc) ∧ acc.length < sizeLine ∧ Nx (upd H4 D (.lst (acc ++ [y]))) else Nx H3)) : tLc wi g t te vs σ H Q := q
theorem q_dc {wi : TI} {vs : List Nat} {tk : TE} (q : wi σ H fun J H1 => ∀ D, H1 D = none → ∃ W : Nat → Nat → Hp → Prop, (∃ m, W 0 m (upd H1 D (.dK []))) ∧ ∀ i m H, W i m H →
  (J.stop i H ∧ Q (.ref D) H) ∨ (J.go i H ∧ ∃ Nx : Hp → Prop, (∀ H', Nx H' → ∃ m', m' < m ∧ W (i + 1) m' H') ∧ ∀ x H', J.yld i H x H' → g x (wipe σ vs) H' fun σ2 H2 => wipe σ2 vs = wipe σ vs ∧ t σ2 H2 fun b H3 =>
    if b = true then tk σ2 H3 fun y H4 => tv σ2 H4 fun z H5 => ∃ kvs k, y = kV k ∧ H5 D = some (.dK kvs) ∧ kvs.length < sizeLine ∧ Nx (upd H5 D (.dK (putK kvs k z))) else Nx H3)) : tDc wi g t tk tv vs σ H Q := q
theorem q_meth {C : Addr} {m : Str} {dvs : List V} (q : ta σ H fun x H1 => ∃ a dx fs, x = .ref a ∧ H1 a = some (.ins C dx fs) ∧ fs.lookup m = none ∧ tA σ H1 fun vs H2 => sp (x :: (vs ++ dvs)) H2 Q E) : tMeth C m sp dvs E ta tA σ H Q := q
theorem q_make {C : Addr} {dvs : List V} (q : tA σ H fun vs H1 => ∀ x dx, H1 x = none → H1 dx = none → dx ≠ x → sp (.ref x :: (vs ++ dvs)) (upd (upd H1 dx (.own x)) x (.ins C dx [])) (fun v H2 => v = .non ∧ Q (.ref x) H2) E) : tMake C sp dvs E tA σ H Q := q
theorem q_eqD {d e : PyData} (hd : Dp K H x d) (he : Dp K H y e) (sd : SeqAt.shaped d = true) (se : SeqAt.shaped e = true) (q : Q (.bl (PyData.eqv d e)) H) : rEqD K x y H Q := ⟨d, e, hd, he, sd, se, q⟩
theorem q_neD {d e : PyData} (hd : Dp K H x d) (he : Dp K H y e) (sd : SeqAt.shaped d = true) (se : SeqAt.shaped e = true) (q : Q (.bl (!PyData.eqv d e)) H) : rNeD K x y H Q := ⟨d, e, hd, he, sd, se, q⟩
theorem q_m0 {rm : V → List V → Hp → VK → Prop} {to : TE} (q : to σ H fun x H1 => (∃ a, x = .str a) ∧ rm x [] H1 Q) : tM0 rm to σ H Q := q
theorem q_m1 {rm : V → List V → Hp → VK → Prop} {to : TE} (q : to σ H fun x H1 => (∃ a, x = .str a) ∧ te σ H1 fun y H2 => rm x [y] H2 Q) : tM1 rm to te σ H Q := q
theorem q_isS {s : Str} {F : Prop} (q : F) : (∃ a, V.str s = .str a) ∧ F := ⟨⟨s, rfl⟩, q⟩
theorem q_yes (q : R true H) : tYes σ H R := q
theorem q_isN (q : Q (.bl (decide (x = .non))) H) : V.non = .non ∧ Q (.bl (decide (x = .non))) H := ⟨rfl, q⟩
theorem q_non {F : Prop} (q : F) : V.non = .non ∧ F := ⟨rfl, q⟩
end

def rLenQ (K : PySem.W.Frag) : List V → Hp → VK → Prop := fun xs H Q => ∃ p ys, xs = [V.ref p] ∧ (SqL K H p ys ∨ SqT K H p ys) ∧ Q (.int ys.length) H
def rListQ (K : PySem.W.Frag) : List V → Hp → VK → Prop := fun xs H Q => ∃ p ys, xs = [V.ref p] ∧ (SqL K H p ys ∨ SqT K H p ys) ∧ ∀ l, H l = none → Q (.ref l) (upd H l (.lst ys))
theorem pe_fldK {X : Cx} {K : PySem.W.Frag} {e : Expr} {f : Str} {pos : Pos} {ta : TE} (hK : X.K = K) (he : PE X e ta) (hb : attributeBase e f X.env (eval e X.env) = eval e X.env) : PE X (.Attribute e f pos) (tFld K ta f) := by
  subst hK
  exact pe_fld he hb
/-! ### fields -/
def kFld (K : PySem.W.Frag) (f : Str) (Q : VK) (x : V) (H : Hp) : Prop := ∃ a C dx fs v, x = .ref a ∧ H a = some (.ins C dx fs) ∧ Cls K C ∧ NoAttr K C f ∧ fs.lookup f = some v ∧ Q v H
def kSet (K : PySem.W.Frag) (f : Str) (y : V) (N : Hp → Prop) (x : V) (H : Hp) : Prop := ∃ a C dx fs, x = .ref a ∧ H a = some (.ins C dx fs) ∧ Cls K C ∧ NoAttr K C f ∧ fs.length < 1000 ∧ N (upd H a (.ins C dx (putF f y fs)))
section
variable {K : PySem.W.Frag} {σ : L2.St} {H : Hp} {Q : VK} {D : Ends} {ta tv : TE} {f : Str} {y v : V} {a C dx : Addr} {fs : List (Str × V)}
theorem q_fld (q : ta σ H fun x H1 => kFld K f Q x H1) : tFld K ta f σ H Q := q
theorem q_fld' (h : H a = some (.ins C dx fs)) (cl : Cls K C) (na : NoAttr K C f) (l : fs.lookup f = some v) (q : Q v H) : kFld K f Q (.ref a) H := ⟨a, C, dx, fs, v, rfl, h, cl, na, l, q⟩
theorem q_sfld (q : tv σ H fun y H1 => ta σ H1 fun x H2 => kSet K f y (D.nx σ) x H2) : sFld K ta tv f D σ H := q
theorem q_sfld' {N : Hp → Prop} (h : H a = some (.ins C dx fs)) (cl : Cls K C) (na : NoAttr K C f) (l : fs.length < 1000) (q : ∀ H2, But a H H2 → H2 a = some (.ins C dx (putF f y fs)) → N H2) : kSet K f y N (.ref a) H := ⟨a, C, dx, fs, rfl, h, cl, na, l, q _ but_upd upd_same⟩
end
section
variable {K : PySem.W.Frag} {σ : L2.St} {H : Hp} {Q : VK} {v : V}
theorem q_iKeys {R : It → Hp → Prop} {td : TE} (q : td σ H fun x H1 => ∃ d o, x = .ref d ∧ ((∃ kvs, H1 d = some (.frz o (.dK kvs)) ∧ R (Itk d o kvs) H1) ∨ ∃ kvs, H1 d = some (.frz o (.dT kvs)) ∧ R (Itkt d o kvs) H1)) : iKeys td σ H R := q
theorem q_itk {d : Addr} {o : Obj} {kvs : List (Key × V)} {F : Addr → Obj → List (Key × V) → Prop} {G : Addr → Obj → Prop} (h : H d = some (.frz o (.dK kvs))) (q : F d o kvs) : ∃ d' o', V.ref d = .ref d' ∧ ((∃ kvs, H d' = some (.frz o' (.dK kvs)) ∧ F d' o' kvs) ∨ G d' o') := ⟨d, o, rfl, .inl ⟨kvs, h, q⟩⟩
end

/-! ### data that stays: at a base B below the heap -/
section
variable {K : PySem.W.Frag} {H H' : Hp}
mutual
theorem dp_same (s : Same H H') : ∀ (d : PyData) (v : V), Dp K H v d → Dp K H' v d
  | .none, _, h => by cases h; exact .non
  | .bool b, _, h => by cases h; exact .bl b
  | .int i, _, h => by cases h; exact .int i
  | .str x, _, h => by cases h; exact .str x
  | .list ds, _, h => by
    cases h with
    | lst hs ha => exact .lst (s.seq hs) (dpAll_same s ds _ ha)
  | .tuple ds, _, h => by
    cases h with
    | tup hs ha => exact .tup (same_seqT s hs) (dpAll_same s ds _ ha)
  | .dict _, _, h => by cases h
theorem dpAll_same (s : Same H H') : ∀ (ds : List PyData) (vs : List V), DpAll K H vs ds → DpAll K H' vs ds
  | [], _, h => by cases h; exact .nil
  | d :: ds, _, h => by
    cases h with
    | cons h1 h2 => exact .cons (dp_same s d _ h1) (dpAll_same s ds _ h2)
end
theorem dpa_len {vs : List V} : ∀ {ds : List PyData}, DpAll K H vs ds → vs.length = ds.length := fun {ds} h => by
  induction ds generalizing vs with
  | nil => cases h; rfl
  | cons d ds ih =>
    cases h with
    | cons h1 h2 => rw [List.length_cons, List.length_cons, ih h2]
theorem dpa_app : ∀ {vs ws : List V} {ds es : List PyData}, DpAll K H vs ds → DpAll K H ws es → DpAll K H (vs ++ ws) (ds ++ es) := fun {vs ws ds es} h k => by
  induction ds generalizing vs with
  | nil => cases h; exact k
  | cons d ds ih =>
    cases h with
    | cons h1 h2 => exact .cons h1 (ih h2)
theorem dpa_get {vs : List V} {ds : List PyData} (h : DpAll K H vs ds) {i : Nat} {v : V} (hv : vs[i]? = some v) : ∃ d, ds[i]? = some d ∧ Dp K H v d := by
  induction ds generalizing vs i with
  | nil => cases h; simp at hv
  | cons d ds ih =>
    cases h with
    | cons h1 h2 =>
      cases i with
      | zero =>
        simp at hv
        subst hv
        exact ⟨d, rfl, h1⟩
      | succ i => exact ih h2 (by simpa using hv)
theorem dpa_at {vs : List V} {ds : List PyData} (h : DpAll K H vs ds) {i : Nat} {d : PyData} (hd : ds[i]? = some d) : ∃ v, vs[i]? = some v ∧ Dp K H v d := by
  induction ds generalizing vs i with
  | nil => simp at hd
  | cons e ds ih =>
    cases h with
    | cons h1 h2 =>
      cases i with
      | zero =>
        simp at hd
        subst hd
        exact ⟨_, rfl, h1⟩
      | succ i => exact ih h2 (by simpa using hd)
theorem dp_list {v : V} {ds : List PyData} (h : Dp K H v (.list ds)) : ∃ a xs, v = .ref a ∧ SqL K H a xs ∧ DpAll K H xs ds := by
  cases h with
  | lst hs ha => exact ⟨_, _, rfl, hs, ha⟩
theorem dp_tuple {v : V} {ds : List PyData} (h : Dp K H v (.tuple ds)) : ∃ a xs, v = .ref a ∧ SqT K H a xs ∧ DpAll K H xs ds := by
  cases h with
  | tup hs ha => exact ⟨_, _, rfl, hs, ha⟩
theorem dp_int {v : V} {i : Int} (h : Dp K H v (.int i)) : v = .int i := by cases h; rfl
theorem dp_str {v : V} {x : Str} (h : Dp K H v (.str x)) : v = .str x := by cases h; rfl
theorem dp_bool {v : V} {b : Bool} (h : Dp K H v (.bool b)) : v = .bl b := by cases h; rfl
theorem dp_none {v : V} (h : Dp K H v .none) : v = .non := by cases h; rfl
end
/-- the base and the heap grow; what is not in ex stays -/
structure Grow (ex : List Addr) (B H B' H' : Hp) : Prop where
  same : ∀ a o, H a = some o → a ∉ ex → H' a = some o
  base : Same B B'
  sub : Same B' H'
  new : ∀ a, B' a ≠ none → B a ≠ none ∨ H a = none
/-- within a def: entry B0, H0; now B, H; l: what it may change -/
structure Fs (ex : List Addr) (B0 H0 B H : Hp) (l : List (Addr × HO)) : Prop where
  same : ∀ a o, H0 a = some o → a ∉ ex → H a = some o
  base : Same B0 B
  own : Own B H l
  new : ∀ a, B a ≠ none → B0 a ≠ none ∨ H0 a = none
  lnew : ∀ x ∈ l, x.1 ∈ ex ∨ H0 x.1 = none
section
variable {ex : List Addr} {B0 H0 B H B' H' B2 H2 : Hp} {l : List (Addr × HO)} {p a : Addr} {ob ob' : HO} {x0 x1 x2 x3 : Addr × HO} {K : PySem.W.Frag} {xs : List V} {v : V} {d : PyData}
theorem Grow.refl (s : Same B H) : Grow ex B H B H := ⟨fun _ _ h _ => h, Same.refl B, s, fun _ h => .inl h⟩
theorem Grow.all (g : Grow [] B H B' H') : Same H H' := fun b o h => g.same b o h (by simp)
theorem Fs.start (s : Same B H) : Fs ex B H B H [] := ⟨fun _ _ h _ => h, Same.refl B, ⟨s, (fun _ h => nomatch h), (fun _ h => nomatch h), List.nodup_nil⟩, fun _ h => .inl h, fun _ h => nomatch h⟩
theorem Fs.start1 (s : Same B H) (ha : H a = some ob) (hb : B a = none) : Fs [a] B H B H [(a, ob)] :=
  ⟨fun _ _ h _ => h, Same.refl B, ⟨s, (fun x h => by rw [List.mem_singleton.mp h]; exact ha), (fun x h => by rw [List.mem_singleton.mp h]; exact hb), by simp⟩, fun _ h => .inl h, fun x h => .inl (by rw [List.mem_singleton.mp h]; simp)⟩
theorem Fs.done (f : Fs ex B0 H0 B H l) : Grow ex B0 H0 B H := ⟨f.same, f.base, f.own.same, f.new⟩
theorem Fs.weak (f : Fs ex B0 H0 B H (x0 :: l)) : Fs ex B0 H0 B H l := ⟨f.same, f.base, f.own.tail, f.new, fun x hx => f.lnew x (List.mem_cons_of_mem _ hx)⟩
/-- nothing of H0 outside of ex is among l -/
theorem Fs.old (f : Fs ex B0 H0 B H l) {o : HO} (h0 : H0 a = some o) (he : a ∉ ex) : a ∉ l.map (·.1) := fun h => by
  obtain ⟨x, hx, e⟩ := List.mem_map.mp h
  rcases f.lnew x hx with z | z
  · rw [e] at z
    exact he z
  · rw [e, h0] at z
    cases z
theorem Fs.swap (f : Fs ex B0 H0 B H (x0 :: x1 :: l)) : Fs ex B0 H0 B H (x1 :: x0 :: l) := ⟨f.same, f.base, f.own.swap, f.new, fun x hx => f.lnew x (by
  simp only [List.mem_cons] at hx ⊢
  rcases hx with h | h | h
  · exact .inr (.inl h)
  · exact .inl h
  · exact .inr (.inr h))⟩
theorem Fs.rot (f : Fs ex B0 H0 B H (x0 :: x1 :: x2 :: l)) : Fs ex B0 H0 B H (x2 :: x0 :: x1 :: l) := ⟨f.same, f.base, f.own.rot, f.new, fun x hx => f.lnew x (by
  simp only [List.mem_cons] at hx ⊢
  rcases hx with h | h | h | h
  · exact .inr (.inr (.inl h))
  · exact .inl h
  · exact .inr (.inl h)
  · exact .inr (.inr (.inr h)))⟩
/-- a new thing that may change -/
theorem Fs.mut (f : Fs ex B0 H0 B H l) (hp : H p = none) (s : Same H H2) (h2 : H2 p = some ob) (h0 : H0 p = none := by assumption) : Fs ex B0 H0 B H2 ((p, ob) :: l) :=
  ⟨fun b o h he => s b o (f.same b o h he), f.base, f.own.alloc hp s h2, f.new, fun x hx => by
    rcases List.mem_cons.mp hx with e | hx
    · rw [e]; exact .inr h0
    · exact f.lnew x hx⟩
/-- the heap alone grows -/
theorem Fs.ext (f : Fs ex B0 H0 B H l) (s : Same H H2) : Fs ex B0 H0 B H2 l := ⟨fun b o h he => s b o (f.same b o h he), f.base, f.own.ext s, f.new, f.lnew⟩
/-- a new place is new for the entry, too -/
theorem Fs.fresh (f : Fs [] B0 H0 B H l) (hp : H p = none) : H0 p = none := by
  cases q : H0 p with
  | none => rfl
  | some o =>
    rw [f.same p o q (by simp)] at hp
    cases hp
theorem Fs.fresh1 (f : Fs [a] B0 H0 B H ((a, ob) :: l)) (hp : H p = none) : H0 p = none := by
  cases q : H0 p with
  | none => rfl
  | some o =>
    by_cases e : p = a
    · subst e
      rw [f.own.at0] at hp
      cases hp
    · rw [f.same p o q (by simpa using e)] at hp
      cases hp
/-- a new thing that stays -/
theorem Fs.stay (f : Fs ex B0 H0 B H l) (hp : H p = none) (s : Same H H2) (h2 : H2 p = some ob) (h0 : H0 p = none := by assumption) : Fs ex B0 H0 (upd B p ob) H2 l := by
  have bp : B p = none := by
    cases q : B p with
    | none => rfl
    | some o =>
      rw [f.own.same p o q] at hp
      cases hp
  refine ⟨fun b o h he => s b o (f.same b o h he), fun b o h => ?_, ⟨fun b o h => ?_, fun x hx => s _ _ (f.own.get x hx), fun x hx => ?_, f.own.nd⟩, fun b h => ?_, f.lnew⟩
  · exact same_new bp b o (f.base b o h)
  · by_cases e : b = p
    · subst e
      rw [upd_same] at h
      cases h
      exact h2
    · rw [upd_ne e] at h
      exact s b o (f.own.same b o h)
  · rw [upd_ne]
    · exact f.own.new x hx
    · intro e
      have z := f.own.get x hx
      rw [e, hp] at z
      cases z
  · by_cases e : b = p
    · subst e
      exact .inr h0
    · rw [upd_ne e] at h
      exact f.new b h
/-- the first thing changes no more -/
theorem Fs.freeze (f : Fs ex B0 H0 B H ((p, ob) :: l)) (h0 : H0 p = none := by assumption) : Fs ex B0 H0 (upd B p ob) H l := by
  obtain ⟨n1, n2⟩ := List.nodup_cons.mp f.own.nd
  have bp : B p = none := f.own.new (p, ob) List.mem_cons_self
  refine ⟨f.same, fun b o h => same_new bp b o (f.base b o h), ⟨fun b o h => ?_, fun x hx => f.own.get x (List.mem_cons_of_mem _ hx), fun x hx => ?_, n2⟩, fun b h => ?_, fun x hx => f.lnew x (List.mem_cons_of_mem _ hx)⟩
  · by_cases e : b = p
    · subst e
      rw [upd_same] at h
      cases h
      exact f.own.at0
    · rw [upd_ne e] at h
      exact f.own.same b o h
  · rw [upd_ne]
    · exact f.own.new x (List.mem_cons_of_mem _ hx)
    · intro e
      exact n1 (by show p ∈ _; rw [← e]; exact List.mem_map_of_mem hx)
  · by_cases e : b = p
    · subst e
      exact .inr h0
    · rw [upd_ne e] at h
      exact f.new b h
theorem Fs.put (f : Fs ex B0 H0 B H ((a, ob) :: l)) (b : But a H H2) (h2 : H2 a = some ob') : Fs ex B0 H0 B H2 ((a, ob') :: l) :=
  ⟨fun c o h he => b c o (f.same c o h he) (by
    rintro rfl
    rcases f.lnew (c, ob) List.mem_cons_self with z | z
    · exact he z
    · rw [h] at z
      cases z), f.base, f.own.put b h2, f.new, fun x hx => by
    rcases List.mem_cons.mp hx with e | hx
    · rw [e]; exact f.lnew (a, ob) List.mem_cons_self
    · exact f.lnew x (List.mem_cons_of_mem _ hx)⟩
theorem Fs.put1 (f : Fs ex B0 H0 B H (x0 :: (a, ob) :: l)) (b : But a H H2) (h2 : H2 a = some ob') : Fs ex B0 H0 B H2 (x0 :: (a, ob') :: l) := (f.swap.put b h2).swap
theorem Fs.put2 (f : Fs ex B0 H0 B H (x0 :: x1 :: (a, ob) :: l)) (b : But a H H2) (h2 : H2 a = some ob') : Fs ex B0 H0 B H2 (x0 :: x1 :: (a, ob') :: l) := (f.rot.put b h2).rot.rot
/-- behind a call that changes nothing -/
theorem Fs.call (f : Fs ex B0 H0 B H l) (g : Grow [] B H B' H') (hn : ∀ p, H p = none → H0 p = none := by intro p hp; first | exact Fs.fresh (by assumption) hp | exact Fs.fresh1 (by assumption) hp) : Fs ex B0 H0 B' H' l :=
  have key : ∀ x ∈ l, B' x.1 = none := fun x hx => by
    cases q : B' x.1 with
    | none => rfl
    | some o =>
      rcases g.new x.1 (by rw [q]; simp) with z | z
      · exact absurd (f.own.new x hx) z
      · have y := f.own.get x hx
        rw [z] at y
        cases y
  ⟨fun b o h he => g.all b o (f.same b o h he), f.base.trans g.base, ⟨g.sub, (fun x hx => g.all _ _ (f.own.get x hx)), key, f.own.nd⟩, (fun b h => (g.new b h).elim (fun z => f.new b z) (fun z => .inr (hn b z))), f.lnew⟩
/-- behind a call that changes the first one -/
theorem Fs.callBut (f : Fs ex B0 H0 B H ((a, ob) :: l)) (g : Grow [a] B H B' H') (h2 : H' a = some ob') (hn : ∀ p, H p = none → H0 p = none := by intro p hp; first | exact Fs.fresh (by assumption) hp | exact Fs.fresh1 (by assumption) hp) : Fs ex B0 H0 B' H' ((a, ob') :: l) := by
  obtain ⟨n1, n2⟩ := List.nodup_cons.mp f.own.nd
  have key : ∀ x ∈ (a, ob) :: l, B' x.1 = none := fun x hx => by
    cases q : B' x.1 with
    | none => rfl
    | some o =>
      rcases g.new x.1 (by rw [q]; simp) with z | z
      · exact absurd (f.own.new x hx) z
      · have y := f.own.get x hx
        rw [z] at y
        cases y
  refine ⟨fun b o h he => g.same b o (f.same b o h he) ?_, f.base.trans g.base, ⟨g.sub, fun x hx => ?_, fun x hx => ?_, f.own.nd⟩, fun b h => ?_, fun x hx => ?_⟩
  · intro e
    have e : b = a := by simpa using e
    subst e
    rcases f.lnew (b, ob) List.mem_cons_self with z | z
    · exact he z
    · rw [h] at z
      cases z
  · rcases List.mem_cons.mp hx with e | hx
    · rw [e]; exact h2
    · refine g.same _ _ (f.own.get x (List.mem_cons_of_mem _ hx)) fun e => ?_
      have e : x.1 = a := by simpa using e
      exact n1 (by show a ∈ _; rw [← e]; exact List.mem_map_of_mem hx)
  · rcases List.mem_cons.mp hx with e | hx
    · rw [e]; exact key (a, ob) List.mem_cons_self
    · exact key x (List.mem_cons_of_mem _ hx)
  · rcases g.new b h with z | z
    · exact f.new b z
    · exact .inr (hn b z)
  · rcases List.mem_cons.mp hx with e | hx
    · rw [e]; exact f.lnew (a, ob) List.mem_cons_self
    · exact f.lnew x (List.mem_cons_of_mem _ hx)
theorem Fs.at0 (f : Fs ex B0 H0 B H ((a, ob) :: l)) : H a = some ob := f.own.at0
theorem Fs.at1 (f : Fs ex B0 H0 B H (x0 :: (a, ob) :: l)) : H a = some ob := f.own.at1
theorem Fs.at2 (f : Fs ex B0 H0 B H (x0 :: x1 :: (a, ob) :: l)) : H a = some ob := f.own.at2
theorem Fs.at3 (f : Fs ex B0 H0 B H (x0 :: x1 :: x2 :: (a, ob) :: l)) : H a = some ob := f.own.at3
theorem Fs.seq (f : Fs ex B0 H0 B H l) (h : SqL K B a xs) : SqL K H a xs := f.own.seq h
theorem Fs.seqT (f : Fs ex B0 H0 B H l) (h : SqT K B a xs) : SqT K H a xs := f.own.seqT h
theorem Fs.seq0 (f : Fs ex B0 H0 B H l) (h : SqL K B0 a xs) : SqL K H a xs := f.own.seq (f.base.seq h)
theorem Fs.seqT0 (f : Fs ex B0 H0 B H l) (h : SqT K B0 a xs) : SqT K H a xs := f.own.seqT (same_seqT f.base h)
theorem Fs.get (f : Fs ex B0 H0 B H l) (h : B a = some ob) : H a = some ob := f.own.same _ _ h
theorem Fs.dp (f : Fs ex B0 H0 B H l) (h : Dp K B v d) : Dp K H v d := dp_same f.own.same _ _ h
theorem Fs.up (f : Fs ex B0 H0 B H l) (h : Dp K B0 v d) : Dp K B v d := dp_same f.base _ _ h
end
/-! ### lists by what their items are -/
section
variable {α β : Type} {R R' : α → β → Prop}
theorem pr_app : ∀ {xs ys : List α} {us ws : List β}, Paired R xs us → Paired R ys ws → Paired R (xs ++ ys) (us ++ ws)
  | _, _, _, _, .nil, k => k
  | _, _, _, _, .cons h t, k => .cons h (pr_app t k)
theorem pr_mono (f : ∀ a b, R a b → R' a b) : ∀ {xs : List α} {us : List β}, Paired R xs us → Paired R' xs us
  | _, _, .nil => .nil
  | _, _, .cons h t => .cons (f _ _ h) (pr_mono f t)
theorem pr_len : ∀ {xs : List α} {us : List β}, Paired R xs us → xs.length = us.length
  | _, _, .nil => rfl
  | _, _, .cons _ t => by rw [List.length_cons, List.length_cons, pr_len t]
theorem pr_at : ∀ {xs : List α} {us : List β} {i : Nat} {u : β}, Paired R xs us → us[i]? = some u → ∃ x, xs[i]? = some x ∧ R x u
  | _, _, i, u, .nil, e => by simp at e
  | _, _, 0, u, .cons h t, e => by simp at e; subst e; exact ⟨_, rfl, h⟩
  | _, _, i + 1, u, .cons h t, e => by
    obtain ⟨x, h1, h2⟩ := pr_at (i := i) (u := u) t (by simpa using e)
    exact ⟨x, by simpa using h1, h2⟩
theorem pr_get : ∀ {xs : List α} {us : List β} {i : Nat} {x : α}, Paired R xs us → xs[i]? = some x → ∃ u, us[i]? = some u ∧ R x u
  | _, _, i, u, .nil, e => by simp at e
  | _, _, 0, u, .cons h t, e => by simp at e; subst e; exact ⟨_, rfl, h⟩
  | _, _, i + 1, u, .cons h t, e => by
    obtain ⟨x, h1, h2⟩ := pr_get (i := i) (x := u) t (by simpa using e)
    exact ⟨x, by simpa using h1, h2⟩
end
theorem dpAll_of {K : PySem.W.Frag} {H : Hp} : ∀ {vs : List V} {ds : List PyData}, Paired (Dp K H) vs ds → DpAll K H vs ds
  | _, _, .nil => .nil
  | _, _, .cons h t => .cons h (dpAll_of t)
theorem of_dpAll {K : PySem.W.Frag} {H : Hp} : ∀ {ds : List PyData} {vs : List V}, DpAll K H vs ds → Paired (Dp K H) vs ds
  | [], _, h => by cases h; exact .nil
  | d :: ds, _, h => by
    cases h with
    | cons h1 h2 => exact .cons h1 (of_dpAll h2)
/-- a comprehension: outs tells for each turn what it gives, if anything; R B v o: v is o at the base B -/
theorem lcR {α : Type} {R : Hp → V → α → Prop} (mono : ∀ B B' v o, Same B B' → R B v o → R B' v o) {J : It} {G : Hp → Prop} {Y : Nat → Hp → V → Hp → Prop} {g : TG} {tt : TT} {te : TE} {vs : List Nat} {σ : L2.St} {B1 H1 : Hp} {D : Addr} {Qd : Hp → Prop} {outs : List (Option α)} {n : Nat}
    (w : Walk J n G Y) (hn : n = outs.length) (hB : Same B1 H1) (hD : H1 D = none) (hG : ∀ H, Same B1 H → G H) (hsz : outs.length ≤ 1000000)
    (hs : ∀ (i : Nat) (x : V) (H H' B : Hp) (ws : List V) (Nx : V → Hp → Prop) (Nf : Hp → Prop), i < outs.length → Fs [] B1 H1 B H [(D, .lst ws)] → Y i H x H' →
      (∀ (y : V) (B' H4 : Hp) (d : α), outs[i]? = some (some d) → Grow [] B H B' H4 → R B' y d → Nx y H4) → (∀ B' H4, outs[i]? = some none → Grow [] B H B' H4 → Nf H4) →
      g x (wipe σ vs) H' fun σ2 H2 => wipe σ2 vs = wipe σ vs ∧ tt σ2 H2 fun b H3 => if b = true then te σ2 H3 Nx else Nf H3)
    (hd : ∀ B2 H2 ws, Fs [] B1 H1 B2 H2 [(D, .lst ws)] → Paired (R B2) ws (outs.filterMap id) → Qd H2) :
    ∃ W : Nat → Nat → Hp → Prop, (∃ m, W 0 m (upd H1 D (.lst []))) ∧ ∀ i m H, W i m H →
      (J.stop i H ∧ Qd H) ∨ (J.go i H ∧ ∃ Nx : Hp → Prop, (∀ H', Nx H' → ∃ m', m' < m ∧ W (i + 1) m' H') ∧ ∀ x H', J.yld i H x H' → g x (wipe σ vs) H' fun σ2 H2 => wipe σ2 vs = wipe σ vs ∧ tt σ2 H2 fun b H3 =>
        if b = true then te σ2 H3 fun y H4 => ∃ acc, H4 D = some (.lst acc) ∧ acc.length < sizeLine ∧ Nx (upd H4 D (.lst (acc ++ [y]))) else Nx H3) := by
  subst hn
  have f0 : Fs [] B1 H1 B1 (upd H1 D (.lst [])) [(D, .lst [])] := (Fs.start hB).mut hD (same_new hD) upd_same
  refine lc_it w (fun i H => ∃ B ws, Fs [] B1 H1 B H [(D, .lst ws)] ∧ Paired (R B) ws ((outs.take i).filterMap id) ∧ ws.length ≤ i) ⟨B1, [], f0, .nil, Nat.le_refl _⟩ ?_ ?_ ?_
  · rintro i H _ ⟨B, ws, f, _, _⟩
    exact hG H (f.base.trans f.own.same)
  · rintro i x H H' hi ⟨B, ws, f, da, hl⟩ y
    have hsl : (1000000 : Nat) < sizeLine := by decide
    have et : outs.take (i + 1) = outs.take i ++ [outs[i]] := by rw [List.take_succ_eq_append_getElem hi]
    refine hs i x H H' B ws _ _ hi f y (fun z B' H4 d e gr dp => ?_) (fun B' H4 e gr => ?_)
    · have f4 := f.call gr
      refine ⟨ws, f4.at0, by omega, B', ws ++ [z], f4.put but_upd upd_same, ?_, by simp; omega⟩
      have e2 : outs[i] = some d := by
        rw [List.getElem?_eq_getElem hi] at e
        exact Option.some.inj e
      rw [et, e2, List.filterMap_append]
      exact pr_app (pr_mono (fun a b h => mono _ _ _ _ gr.base h) da) (.cons dp .nil)
    · have f4 := f.call gr
      refine ⟨B', ws, f4, ?_, by omega⟩
      have e2 : outs[i] = none := by
        rw [List.getElem?_eq_getElem hi] at e
        exact Option.some.inj e
      rw [et, e2, List.filterMap_append]
      have z := pr_mono (fun a b h => mono _ _ _ _ gr.base h) da
      simpa using z
  · rintro H ⟨B, ws, f, da, hl⟩
    rw [List.take_length] at da
    exact hd _ H ws f da
/-- .. of data -/
theorem Fs.list {K : PySem.W.Frag} {B0 H0 B H : Hp} {l : List (Addr × HO)} {p : Addr} {ws : List V} {ds : List PyData} {ex : List Addr} (f : Fs ex B0 H0 B H ((p, .lst ws) :: l)) (h : Paired (Dp K B) ws ds) : Dp K (upd B p (.lst ws)) (.ref p) (.list ds) :=
  .lst (.inl (.inl upd_same)) (dpAll_same (same_new (f.own.new (p, .lst ws) List.mem_cons_self)) _ _ (dpAll_of h))
theorem dp_mono {K : PySem.W.Frag} : ∀ (B B' : Hp) (v : V) (d : PyData), Same B B' → Dp K B v d → Dp K B' v d := fun _ _ _ _ s h => dp_same s _ _ h

local macro_rules | `(tactic| walk_at "side") => `(tactic| first | with_reducible rfl | assumption | omega | (dsimp only; omega) | decide | (refine ⟨?_, ?_⟩ <;> omega) | (refine ⟨?_, ?_, ?_⟩ <;> first | omega | decide) | (left; refine ⟨?_, ?_⟩ <;> omega) | (right; refine ⟨?_, ?_⟩ <;> omega))
local macro_rules | `(tactic| walk_at "hp") => `(tactic| first | assumption | exact Own.at0 (by assumption) | exact Own.at1 (by assumption) | exact Own.at2 (by assumption) | exact Own.at3 (by assumption) | exact Own.at4 (by assumption) | exact Own.old (by assumption) (by assumption) | exact Fs.at0 (by assumption) | exact Fs.at1 (by assumption) | exact Fs.at2 (by assumption) | exact Fs.at3 (by assumption) | exact Fs.get (by assumption) (by assumption))
local macro_rules | `(tactic| walk_at "sq") => `(tactic| first | assumption | exact Own.seq (by assumption) (by assumption) | exact Own.seqT (by assumption) (by assumption) | exact Fs.seq (by assumption) (by assumption) | exact Fs.seqT (by assumption) (by assumption) | exact Fs.seq0 (by assumption) (by assumption) | exact Fs.seqT0 (by assumption) (by assumption) | exact SqL.of (by walk_at "hp") | exact SqT.of (by walk_at "hp"))
local macro_rules | `(tactic| walk_at "rd1") => `(tactic| first
  | ((with_reducible refine' q_var ?hv ?_); (case hv => rfl))
  | with_reducible refine' q_c ?_
  | with_reducible refine' q_op ?_
  | with_reducible refine' q_cons ?_
  | with_reducible refine' q_nil ?_
  | with_reducible refine' q_seq ?_
  | with_reducible refine' q_asg ?_
  | with_reducible refine' q_name ?_
  | with_reducible refine' q_test ?_
  | with_reducible refine' q_B ?_
  | with_reducible refine' q_k ?_
  | with_reducible refine' q_I0 ?_
  | ((with_reducible refine' q_mul ?hc ?_); (case hc => walk_at "side"))
  | ((with_reducible refine' q_div ?hc ?_); (case hc => walk_at "side"))
  | ((with_reducible refine' q_pow ?hc ?_); (case hc => walk_at "side"))
  | ((with_reducible refine' q_I ?hc ?_); (case hc => walk_at "side"))
  | ((with_reducible refine' q_eq ?hc ?_); (case hc => rfl))
  | ((with_reducible refine' q_ne ?hc ?_); (case hc => rfl))
  | with_reducible refine' q_ifS ?_
  | with_reducible refine' q_if ?_
  | with_reducible refine' q_and ?_
  | with_reducible refine' q_or ?_
  | with_reducible refine' q_not ?_
  | with_reducible refine' q_andV ?_
  | with_reducible refine' q_orV ?_
  | with_reducible refine' q_notV ?_
  | with_reducible refine' q_un ?_
  | with_reducible refine' q_unop ?_
  | with_reducible refine' q_next ?_
  | with_reducible refine' q_drop ?_
  | with_reducible refine' q_ret ?_
  | with_reducible refine' q_sub ?_
  | with_reducible refine' q_par ?_
  | with_reducible refine' q_par2 ?_
  | with_reducible refine' q_tup ?_
  | with_reducible refine' q_lst ?_
  | ((with_reducible refine' q_new ?hc ?_); (case hc => exact Nat.le_of_ble_eq_true rfl))
  | with_reducible refine' q_cb ?_
  | with_reducible refine' q_call ?_
  | with_reducible refine' q_bm ?_
  | ((with_reducible refine' q_rng1' ?ha ?hb ?_); (case ha => walk_at "side"); (case hb => walk_at "side"))
  | with_reducible refine' q_int1 ?_
  | with_reducible refine' q_int ?_
  | with_reducible refine' q_non ?_
  | ((with_reducible refine' q_ixL ?hs ?he ?_); (case hs => walk_at "sq"); (case he => first | rfl | exact atI_nat (j := 0) rfl | exact atI_nat (j := 1) rfl | exact atI_nat (j := 2) rfl))
  | ((with_reducible refine' q_ixT ?hs ?he ?_); (case hs => walk_at "sq"); (case he => first | rfl | exact atI_nat (j := 0) rfl | exact atI_nat (j := 1) rfl | exact atI_nat (j := 2) rfl))
  | ((with_reducible refine' q_setL ?hs ?he ?_); (case hs => walk_at "hp"); (case he => rfl))
  | ((with_reducible refine' q_len ?hs ?_); (case hs => walk_at "sq"))
  | ((with_reducible refine' q_tyL ?hs ?_); (case hs => walk_at "sq"))
  | with_reducible refine' q_fld ?_
  | with_reducible refine' q_meth ?_
  | with_reducible refine' q_make ?_
  | with_reducible refine' q_sfld ?_
  | with_reducible refine' q_iKeys ?_
  | with_reducible refine' q_m0 ?_
  | with_reducible refine' q_m1 ?_
  | with_reducible refine' q_isS ?_
  | with_reducible refine' q_dput ?_
  | with_reducible refine' q_dget ?_
  | with_reducible refine' q_din ?_
  | with_reducible refine' q_dnotin ?_
  | with_reducible refine' q_dnewT ?_
  | with_reducible refine' q_dnewK ?_
  | with_reducible refine' q_for ?_
  | with_reducible refine' q_iList ?_
  | with_reducible refine' q_iTup ?_
  | with_reducible refine' q_rng1 ?_
  | with_reducible refine' q_rng2 ?_
  | with_reducible refine' q_sl ?_
  | with_reducible refine' q_noPart ?_
  | with_reducible refine' q_part ?_
  | with_reducible refine' q_part' ?_
  | with_reducible refine' q_lc ?_
  | with_reducible refine' q_yes ?_
  | with_reducible refine' q_gcons ?_
  | with_reducible refine' q_gnil ?_
  | ((with_reducible refine' q_gtup ?hs ?hl ?_); (case hs => walk_at "sq"); (case hl => rfl))
  | ((with_reducible refine' q_rng2' ?ha ?hb ?hc ?hd ?_); (case ha => walk_at "side"); (case hb => walk_at "side"); (case hc => walk_at "side"); (case hd => walk_at "side"))
  | ((with_reducible refine' q_itl ?hs ?_); (case hs => walk_at "sq"))
  | ((with_reducible refine' q_itt ?hs ?_); (case hs => walk_at "sq"))
  | ((with_reducible refine' q_slL ?hs ?_); (case hs => walk_at "sq"))
  | ((with_reducible refine' q_append ?hs ?hl ?_); (case hs => walk_at "hp"); (case hl => walk_at "side")))
local macro_rules | `(tactic| walk_at "rd") => `(tactic| repeat walk_at "rd1")
/-! ### a dict that is walked, or read while it is walked -/
theorem call_lenR {X : Cx} : CallR X (.builtin "len") (fun xs H Q => ∃ (a : Addr) (kvs : List (Key × V)), xs = [V.ref a] ∧ Rd H a (.dK kvs) ∧ Q (.int kvs.length) H) := by
  intro pins s σ H xs us Q I r ⟨a, kvs, e, ha, q⟩
  subst e
  obtain ⟨u, e, ru⟩ := vals1 r
  subst e
  cases ru
  exact d_len I ha fun t s' I' => ⟨.int kvs.length, H, I', ⟨t, rfl⟩, q⟩
section
variable {B H B' H' : Hp} {d : Addr} {u : HO} {od : Obj} {σ : L2.St} {Q : VK} {D : Ends} {te : TE} {ts : TS} {K : PySem.W.Frag} {kvs : List (Key × V)} {v : V}
theorem same_upd (s : Same B H) (o : HO) : Same (upd B d o) (upd H d o) := fun a x h => by
  by_cases e : a = d
  · subst e
    rw [upd_same] at h ⊢
    exact h
  · rw [upd_ne e] at h ⊢
    exact s a x h
theorem q_lockE (hd : H d = some u) (mu : Mut (some u)) (q : ∀ od, te σ (upd H d (.frz od u)) fun v H' => H' d = some (.frz od u) ∧ Q v (upd H' d u)) : tLockE te σ H Q := ⟨d, u, hd, mu, q⟩
/-- behind the walk -/
theorem unlock (hd : B d = some u) (hH : H d = some u) (g : Grow [] (upd B d (.frz od u)) (upd H d (.frz od u)) B' H') : H' d = some (.frz od u) ∧ Grow [] B H (upd B' d u) (upd H' d u) := by
  refine ⟨g.all _ _ upd_same, fun a o h _ => ?_, fun a o h => ?_, fun a o h => ?_, fun a h => ?_⟩
  · by_cases e : a = d
    · subst e
      rw [upd_same, ← hH, h]
    · rw [upd_ne e]
      exact g.all a o (by rw [upd_ne e]; exact h)
  · by_cases e : a = d
    · subst e
      rw [upd_same, ← hd, h]
    · rw [upd_ne e]
      exact g.base a o (by rw [upd_ne e]; exact h)
  · by_cases e : a = d
    · subst e
      rw [upd_same] at h ⊢
      exact h
    · rw [upd_ne e] at h ⊢
      exact g.sub a o h
  · by_cases e : a = d
    · subst e
      exact .inl (by rw [hd]; simp)
    · rw [upd_ne e] at h
      rcases g.new a h with z | z
      · rw [upd_ne e] at z
        exact .inl z
      · rw [upd_ne e] at z
        exact .inr z
mutual
theorem dp_unlock (hd : B d = some (.frz od (.dK kvs))) (o : HO) : ∀ (x : PyData) (v : V), Dp K B v x → Dp K (upd B d o) v x
  | .none, _, h => by cases h; exact .non
  | .bool b, _, h => by cases h; exact .bl b
  | .int i, _, h => by cases h; exact .int i
  | .str x, _, h => by cases h; exact .str x
  | .list ds, _, h => by
    cases h with
    | lst hs ha =>
      refine .lst ?_ (dpAll_unlock hd o ds _ ha)
      rcases hs with (h | ⟨ob, h⟩) | h
      · exact .inl (.inl (by rw [upd_ne (by rintro rfl; rw [hd] at h; cases h)]; exact h))
      · exact .inl (.inr ⟨ob, by rw [upd_ne (by rintro rfl; rw [hd] at h; cases h)]; exact h⟩)
      · exact .inr h
  | .tuple ds, _, h => by
    cases h with
    | tup hs ha =>
      refine .tup ?_ (dpAll_unlock hd o ds _ ha)
      rcases hs with (h | ⟨ob, h⟩) | h
      · exact .inl (.inl (by rw [upd_ne (by rintro rfl; rw [hd] at h; cases h)]; exact h))
      · exact .inl (.inr ⟨ob, by rw [upd_ne (by rintro rfl; rw [hd] at h; cases h)]; exact h⟩)
      · exact .inr h
  | .dict _, _, h => by cases h
theorem dpAll_unlock (hd : B d = some (.frz od (.dK kvs))) (o : HO) : ∀ (ds : List PyData) (vs : List V), DpAll K B vs ds → DpAll K (upd B d o) vs ds
  | [], _, h => by cases h; exact .nil
  | x :: ds, _, h => by
    cases h with
    | cons h1 h2 => exact .cons (dp_unlock hd o x _ h1) (dpAll_unlock hd o ds _ h2)
end
end
section
variable {K : PySem.W.Frag} {σ : L2.St} {H : Hp} {Q : VK} {v : V}
theorem q_getIR {a : Addr} {kvs : List (Key × V)} {n : Int} (h : Rd H a (.dK kvs)) (e : valV kvs (.inl n) = some v) (q : Q v H) : kGet Q (.ref a) (.int n) H := ⟨a, v, rfl, e ▸ .inl ⟨kvs, .inl n, h, rfl, rfl⟩, q⟩
theorem q_inIR {a : Addr} {kvs : List (Key × V)} {n : Int} {F : Bool → Hp → Prop} (h : Rd H a (.dK kvs)) (q : F (valV kvs (.inl n)).isSome H) : kIn F (.ref a) (.int n) H := ⟨a, _, rfl, .inl ⟨kvs, .inl n, h, rfl, rfl⟩, q⟩
theorem rd_same {H H' : Hp} (s : Same H H') {a : Addr} {u : HO} (h : Rd H a u) : Rd H' a u := by
  rcases h with h | ⟨o, h⟩
  · exact .inl (s _ _ h)
  · exact .inr ⟨o, s _ _ h⟩
end

/-- a dict comprehension: outs tells key and value of each turn; the keys differ -/
theorem dcR {α : Type} {R : Hp → V → α → Prop} (mono : ∀ B B' v o, Same B B' → R B v o → R B' v o) {J : It} {G : Hp → Prop} {Y : Nat → Hp → V → Hp → Prop} {g : TG} {tt : TT} {tk tv : TE} {vs : List Nat} {σ : L2.St} {B1 H1 : Hp} {D : Addr} {Qd : Hp → Prop} {outs : List (Key × α)} {n : Nat}
    (w : Walk J n G Y) (hn : n = outs.length) (nd : (outs.map (·.1)).Nodup) (hB : Same B1 H1) (hD : H1 D = none) (hG : ∀ H, Same B1 H → G H) (hsz : outs.length ≤ 1000000)
    (hs : ∀ (i : Nat) (x : V) (H H' B : Hp) (kv : List (Key × V)) (Nx : V → V → Hp → Prop) (Nf : Hp → Prop), i < outs.length → Fs [] B1 H1 B H [(D, .dK kv)] → Y i H x H' →
      (∀ (z : V) (B' H4 : Hp) (k : Key) (o : α), outs[i]? = some (k, o) → Grow [] B H B' H4 → R B' z o → Nx (kV k) z H4) →
      g x (wipe σ vs) H' fun σ2 H2 => wipe σ2 vs = wipe σ vs ∧ tt σ2 H2 fun b H3 => if b = true then tk σ2 H3 fun y H4 => tv σ2 H4 fun z H5 => Nx y z H5 else Nf H3)
    (hd : ∀ B2 H2 kv, Fs [] B1 H1 B2 H2 [(D, .dK kv)] → Paired (fun (p : Key × V) (o : Key × α) => p.1 = o.1 ∧ R B2 p.2 o.2) kv outs → Qd H2) :
    ∃ W : Nat → Nat → Hp → Prop, (∃ m, W 0 m (upd H1 D (.dK []))) ∧ ∀ i m H, W i m H →
      (J.stop i H ∧ Qd H) ∨ (J.go i H ∧ ∃ Nx : Hp → Prop, (∀ H', Nx H' → ∃ m', m' < m ∧ W (i + 1) m' H') ∧ ∀ x H', J.yld i H x H' → g x (wipe σ vs) H' fun σ2 H2 => wipe σ2 vs = wipe σ vs ∧ tt σ2 H2 fun b H3 =>
        if b = true then tk σ2 H3 fun y H4 => tv σ2 H4 fun z H5 => ∃ kvs k, y = kV k ∧ H5 D = some (.dK kvs) ∧ kvs.length < sizeLine ∧ Nx (upd H5 D (.dK (putK kvs k z))) else Nx H3) := by
  subst hn
  have f0 : Fs [] B1 H1 B1 (upd H1 D (.dK [])) [(D, .dK [])] := (Fs.start hB).mut hD (same_new hD) upd_same
  refine ⟨fun i m H => m = outs.length - i ∧ i ≤ outs.length ∧ ∃ B kv, Fs [] B1 H1 B H [(D, .dK kv)] ∧ Paired (fun (p : Key × V) (o : Key × α) => p.1 = o.1 ∧ R B p.2 o.2) kv (outs.take i), ⟨outs.length, by simp, Nat.zero_le _, B1, [], f0, .nil⟩, ?_⟩
  rintro i m H ⟨rfl, hi, B, kv, f, pk⟩
  have hGH := hG H (f.base.trans f.own.same)
  by_cases hlt : i < outs.length
  · have hsl : (1000000 : Nat) < sizeLine := by decide
    have et : outs.take (i + 1) = outs.take i ++ [outs[i]] := by rw [List.take_succ_eq_append_getElem hlt]
    have hlen : kv.length = i := by
      rw [pr_len pk, List.length_take]
      omega
    refine .inr ⟨w.goes i H hlt hGH, fun H' => ∃ B kv, Fs [] B1 H1 B H' [(D, .dK kv)] ∧ Paired (fun (p : Key × V) (o : Key × α) => p.1 = o.1 ∧ R B p.2 o.2) kv (outs.take (i + 1)), fun H' p' => ⟨outs.length - (i + 1), by omega, rfl, hlt, p'⟩, fun x H' y => ?_⟩
    refine hs i x H H' B kv _ _ hlt f (w.yields i H x H' hlt hGH y) fun z B' H4 k o e gr r => ?_
    have f4 := f.call gr
    have e2 : outs[i] = (k, o) := by
      rw [List.getElem?_eq_getElem hlt] at e
      exact Option.some.inj e
    have keq : ∀ {kv : List (Key × V)} {l : List (Key × α)}, Paired (fun (p : Key × V) (o : Key × α) => p.1 = o.1 ∧ R B p.2 o.2) kv l → kv.map (·.1) = l.map (·.1) := fun {kv l} h => by
      induction h with
      | nil => rfl
      | cons h _ ih => rw [List.map_cons, List.map_cons, ih, h.1]
    have hnew : valV kv k = none := by
      cases hv : valV kv k with
      | none => rfl
      | some v0 =>
        have hm : k ∈ kv.map (·.1) := by
          unfold valV at hv
          cases hf : kv.find? fun kv => decide (kv.1 = k) with
          | none => rw [hf] at hv; cases hv
          | some p =>
            have h1 := List.find?_some hf
            have h2 := List.mem_of_find?_eq_some hf
            exact List.mem_map.mpr ⟨p, h2, of_decide_eq_true h1⟩
        rw [keq pk] at hm
        have hnd : ((outs.take (i + 1)).map (·.1)).Nodup := by
          rw [List.map_take]
          exact (List.take_sublist _ _).nodup nd
        rw [et, e2, List.map_append] at hnd
        have := (List.nodup_append.mp hnd).2.2 k hm k (by simp)
        exact absurd rfl this
    refine ⟨kv, k, rfl, f4.at0, by omega, B', kv ++ [(k, z)], ?_, ?_⟩
    · rw [putK_new z hnew]
      exact f4.put but_upd upd_same
    · rw [et, e2]
      exact pr_app (pr_mono (fun a b h => ⟨h.1, mono _ _ _ _ gr.base h.2⟩) pk) (.cons ⟨rfl, r⟩ .nil)
  · have e : i = outs.length := by omega
    subst e
    rw [List.take_length] at pk
    exact .inl ⟨w.stops H hGH, hd B H kv f pk⟩

/-! ### trees: the dicts of folders and files -/
abbrev Fo := List (Int × Int)
abbrev Fl := List (Int × List Int)
def encFo (fo : Fo) : List (Key × V) := fo.map fun p => (Sum.inl p.1, V.int p.2)
def look (fo : Fo) (n : Int) : Option Int := (fo.find? fun p => decide (p.1 = n)).map (·.2)
theorem val_fo (fo : Fo) (n : Int) : valV (encFo fo) (.inl n) = (look fo n).map V.int := by
  unfold valV encFo look
  induction fo with
  | nil => rfl
  | cons p r ih =>
    rw [List.map_cons, List.find?_cons, List.find?_cons]
    have e : decide ((Sum.inl p.1 : Key) = Sum.inl n) = decide (p.1 = n) := by
      rw [key_ll]
      by_cases h : p.1 = n
      · rw [h]; simp
      · rw [decide_eq_false h]; simpa using h
    rw [show decide (((Sum.inl p.1 : Key), V.int p.2).1 = Sum.inl n) = decide (p.1 = n) from e]
    cases decide (p.1 = n) with
    | true => rfl
    | false => exact ih
def reachF (fo : Fo) : Nat → Int → Bool
  | 0, _ => false
  | k + 1, h => if h = 0 then true else match look fo h with
    | none => false
    | some p => reachF fo k p
def spNum : Sp := fun vs H Q _ => ∃ n : Int, vs = [.int n] ∧ Q (.bl (decide (1 ≤ n ∧ n ≤ 1000000000))) H
def spReach : Sp := fun vs H Q _ => ∃ (d : Addr) (fo : Fo) (n : Int), vs = [.ref d, .int n] ∧ Rd H d (.dK (encFo fo)) ∧ fo.length ≤ 100000 ∧ Q (.bl (reachF fo (fo.length + 1) n)) H
structure TxNum (mg : Str → Option Value) : Prop where
  isinstance : Free mg "isinstance"
  int : Free mg "int"
  bool : Free mg "bool"
  MOST : ∃ u, mg "MOST" = some u ∧ RelV (.int 1000000000) u
structure TxReach (mg : Str → Option Value) : Prop where
  range : Free mg "range"
  len : Free mg "len"
section
variable {P : Program} {w : World} {K : PySem.W.Frag} {mg : Str → Option Value} {base : Heap}
theorem ok_num {f : Addr} {fd : FuncData} (F : C8.Def K mg "is_number" s_is_number f fd) (b : Binds K fd ["value"] []) (T : TxNum mg) : C8.Cal P w K mg base 1 "is_number" spNum [] := by
  refine C8.cal0 F b .nil fs_is_number (fun vs H Q E h => ?_) (fun cdv A outer s H vs Q E hr h => ?_)
  · obtain ⟨n, rfl, _⟩ := h
    rfl
  · obtain ⟨n, rfl, q⟩ := h
    refine ⟨_, (pss_one (ps_ret (pe_and (pe_callB call_isi (by rfl) T.isinstance (by decide +kernel) (pa_cons (pv 0) (pa_cons (pe_bltn (v := .ty "int") (by rfl) T.int (by decide +kernel) rfl) pa_nil))) (pe_and (pe_not (pe_callB call_isi (by rfl) T.isinstance (by decide +kernel) (pa_cons (pv 0) (pa_cons (pe_bltn (v := .ty "bool") (by rfl) T.bool (by decide +kernel) rfl) pa_nil)))) (pe_one (pe_chain op_le op_le pe_int (pv 0) (C8.pe_gc rfl T.MOST))))))), ?_⟩
    walk_at "rd"
    refine ⟨.int n, .ty "int", .type "int", .type "int", true, rfl, .ty "int", .base (.int n), kit_ty (by decide +kernel), ?_⟩
    walk_at "rd"
    refine iteT ?_
    walk_at "rd"
    refine ⟨.int n, .ty "bool", .type "int", .type "bool", false, rfl, .ty "bool", .base (.int n), kit_ty (by decide +kernel), ?_⟩
    walk_at "rd"
    refine iteT ?_
    refine ⟨_, rfl, 1, n, rfl, rfl, _, rfl, ?_⟩
    refine ite2 (fun h => ?_) (fun h => ?_)
    · have h := of_decide_eq_true h
      refine ⟨n, 1000000000, rfl, rfl, ?_⟩
      have e : decide (n ≤ 1000000000) = decide (1 ≤ n ∧ n ≤ 1000000000) := by
        by_cases h2 : n ≤ 1000000000
        · rw [decide_eq_true h2, decide_eq_true ⟨h, h2⟩]
        · rw [decide_eq_false h2, decide_eq_false (fun z => h2 z.2)]
      show Q (V.bl (decide (n ≤ 1000000000))) H
      rw [e]
      exact q
    · have h : ¬ 1 ≤ n := fun z => h (decide_eq_true z)
      rw [decide_eq_false (fun z => h z.1)] at q
      exact q
theorem ok_reach {f : Addr} {fd : FuncData} (F : C8.Def K mg "reaches_root" s_reaches_root f fd) (b : Binds K fd ["parents", "folder"] []) (T : TxReach mg) : C8.Cal P w K mg base 1 "reaches_root" spReach [] := by
  refine C8.cal0 F b .nil fs_reaches_root (fun vs H Q E h => ?_) (fun cdv A outer s H vs Q E hr h => ?_)
  · obtain ⟨d, fo, n, rfl, _⟩ := h
    rfl
  · obtain ⟨d, fo, n, rfl, hd, hl, q⟩ := h
    have hu := hu_of hr
    refine ⟨_, (pss_cons (ps_set (i := 2) fs_reaches_root.nd rfl (Or.inl rfl) (pv 1))
      (pss_cons (ps_for PassesOwn.never rfl (pi_range1 rfl T.range (pa_cons (pe_op op_add (pe_callB call_lenR (by rfl) T.len (by decide +kernel) (pa_cons (pv 0) pa_nil)) pe_int) pa_nil)) (pg_name (i := 3) fs_reaches_root.nd rfl (Or.inl rfl))
       (pss_cons (ps_if (pt_cmpR op_eq (pv 2) pe_int (nomark _))
        (pss_one (ps_ret pe_bl))
        pss_nil)
       (pss_cons (ps_if (pt_cmp (pc_dnotin hu (pv 2) (pv 0)))
        (pss_one (ps_ret pe_bl))
        pss_nil)
       (pss_one (ps_set (i := 2) fs_reaches_root.nd rfl (Or.inl rfl) (pe_dget hu (pv 0) (pv 2) (fun _ _ => rfl)))))))
      (pss_one (ps_ret pe_bl)))), ?_⟩
    walk_at "rd"
    refine ⟨d, encFo fo, rfl, hd, ?_⟩
    have el : (encFo fo).length = fo.length := by unfold encFo; rw [List.length_map]
    rw [el]
    walk_at "rd"
    have en : ((fo.length : Int) + 1).toNat = fo.length + 1 := by omega
    rw [en]
    refine for_it walk_range (fun i σ H2 => ∃ (h : Int) (x3 : Option V), σ = [some (.ref d), some (.int n), some (.int h), x3] ∧ H2 = H ∧ reachF fo (fo.length + 1 - i) h = reachF fo (fo.length + 1) n)
      ⟨n, _, rfl, rfl, rfl⟩ (fun _ _ _ _ _ => trivial) ?_ ?_
    · rintro i x σ H1 H2 hi ⟨h, x3, rfl, e1, e⟩ ⟨rfl, rfl⟩
      subst e1
      obtain ⟨k, hk⟩ : ∃ k, fo.length + 1 - i = k + 1 := ⟨fo.length - i, by omega⟩
      have hk2 : fo.length + 1 - (i + 1) = k := by omega
      rw [hk] at e
      walk_at "rd"
      refine ite2 (fun h0 => ?_) (fun h0 => ?_)
      · have h0 : h = 0 := by
          have z := of_decide_eq_true h0
          injection z
        walk_at "rd"
        have e2 : reachF fo (k + 1) h = true := by
          unfold reachF
          rw [if_pos h0]
        rw [← e, e2] at q
        exact q
      · have h0 : ¬ h = 0 := fun z => h0 (decide_eq_true (by rw [z]))
        have e2 : reachF fo (k + 1) h = match look fo h with
          | none => false
          | some p => reachF fo k p := by
          rw [reachF, if_neg h0]
        walk_at "rd"
        refine q_inIR hd ?_
        walk_at "rd"
        rw [val_fo]
        cases hp : look fo h with
        | none =>
          rw [hp] at e2
          refine iteT ?_
          walk_at "rd"
          rw [← e, e2] at q
          exact q
        | some p =>
          rw [hp] at e2
          refine iteF ?_
          walk_at "rd"
          refine q_getIR hd (v := .int p) (by rw [val_fo, hp]; rfl) ?_
          walk_at "rd"
          exact ⟨p, _, rfl, rfl, by rw [hk2, ← e, e2]⟩
    · rintro σ H2 ⟨h, x3, rfl, rfl, e⟩
      walk_at "rd"
      rw [Nat.sub_self] at e
      rw [← e] at q
      exact q
end

/-- a file's entry: its number, the list of its folders -/
def FileV (B : Hp) (kv : Key × V) (q : Int × List Int) : Prop := kv.1 = .inl q.1 ∧ ∃ a, kv.2 = .ref a ∧ B a = some (.lst (q.2.map V.int))
theorem fileV_mono {B B' : Hp} (s : Same B B') {kv : Key × V} {q : Int × List Int} (h : FileV B kv q) : FileV B' kv q := by
  obtain ⟨h1, a, h2, h3⟩ := h
  exact ⟨h1, a, h2, s _ _ h3⟩
structure GoodT (fo : Fo) (fl : Fl) : Prop where
  num : ∀ p ∈ fo, 1 ≤ p.1 ∧ p.1 ≤ 1000000000
  numl : ∀ q ∈ fl, 1 ≤ q.1 ∧ q.1 ≤ 1000000000
  dis : ∀ q ∈ fl, look fo q.1 = none
  rch : ∀ p ∈ fo, reachF fo (fo.length + 1) p.1 = true
  spo : ∀ q ∈ fl, q.2 ≠ [] ∧ q.2.Nodup ∧ q.2.length ≤ 1000 ∧ ∀ s ∈ q.2, s = 0 ∨ (look fo s).isSome = true
  few : fo.length ≤ 1000
  fewl : fl.length ≤ 1000
  nd : (fo.map (·.1)).Nodup
  ndl : (fl.map (·.1)).Nodup
def spFits : Sp := fun vs H Q _ => ∃ (B : Hp) (d e : Addr) (fo : Fo) (fl : Fl) (kvs : List (Key × V)), vs = [.ref d, .ref e] ∧ Same B H ∧ B d = some (.dK (encFo fo)) ∧ B e = some (.dK kvs) ∧ d ≠ e ∧ Paired (FileV B) kvs fl ∧ GoodT fo fl ∧
  ∀ H', Same H H' → Q (.bl true) H'
structure TxFits (mg : Str → Option Value) : Prop where
  all : Free mg "all"
  list : Free mg "list"
  len : Free mg "len"
  set : Free mg "set"
theorem bl_true {B : Hp} : ∀ {ws : List V} {n : Nat}, Paired (fun (v : V) (_ : Unit) => v = .bl true) ws (List.replicate n ()) → ws = (List.replicate n true).map V.bl
  | _, 0, .nil => rfl
  | _, n + 1, .cons h t => by
    rw [h, bl_true (B := B) t]
    rfl
theorem fm_some {α β : Type} (f : α → β) (xs : List α) : (xs.map fun x => some (f x)).filterMap id = xs.map f := by
  induction xs with
  | nil => rfl
  | cons x r ih => simp
theorem fm_none {α β : Type} (xs : List α) : (xs.map fun _ => (none : Option β)).filterMap id = [] := by
  induction xs with
  | nil => rfl
  | cons x r ih => simp
theorem all_rep (n : Nat) : (List.replicate n true).all id = true := by
  induction n with
  | zero => rfl
  | succ n ih => rw [List.replicate_succ, List.all_cons, ih]; rfl
theorem val_at {kvs : List (Key × V)} (nd : (kvs.map (·.1)).Nodup) {i : Nat} {k : Key} {v : V} (h : kvs[i]? = some (k, v)) : valV kvs k = some v := by
  unfold valV
  induction kvs generalizing i with
  | nil => simp at h
  | cons p r ih =>
    obtain ⟨n1, n2⟩ := List.nodup_cons.mp nd
    cases i with
    | zero =>
      simp at h
      subst h
      simp
    | succ i =>
      have h' : r[i]? = some (k, v) := by simpa using h
      have hne : ¬ p.1 = k := fun e => n1 (by
        show p.1 ∈ r.map (·.1)
        rw [e]
        exact List.mem_map.mpr ⟨(k, v), List.mem_of_getElem? h', rfl⟩)
      rw [List.find?_cons, decide_eq_false hne]
      exact ih n2 h'
theorem keys_eq {B : Hp} : ∀ {kvs : List (Key × V)} {fl : Fl}, Paired (FileV B) kvs fl → kvs.map (·.1) = fl.map fun q => Sum.inl q.1
  | _, _, .nil => rfl
  | _, _, .cons h t => by rw [List.map_cons, List.map_cons, keys_eq t, h.1]
theorem keys_nd {B : Hp} {kvs : List (Key × V)} {fl : Fl} (h : Paired (FileV B) kvs fl) (nd : (fl.map (·.1)).Nodup) : (kvs.map (·.1)).Nodup := by
  rw [keys_eq h]
  have e : (fl.map fun q => (Sum.inl q.1 : Key)) = (fl.map (·.1)).map Sum.inl := by rw [List.map_map]; rfl
  rw [e]
  exact List.Pairwise.map _ (fun a b h z => h (Sum.inl.inj z)) nd
theorem dpI {K : PySem.W.Frag} {H : Hp} : ∀ ns : List Int, DpAll K H (ns.map V.int) (ns.map PyData.int)
  | [] => .nil
  | n :: ns => .cons (.int n) (dpI ns)
theorem shaped_ints (ns : List Int) : SeqAt.shaped (.list (ns.map PyData.int)) = true := by
  have h1 : ∀ ns : List Int, PyData.canLayAll0 (ns.map PyData.int) = true := fun ns => by
    induction ns with
    | nil => rfl
    | cons n r ih => rw [List.map_cons, PyData.canLayAll0, ih]; rfl
  have h2 : ∀ ns : List Int, PyData.depthAll (ns.map PyData.int) ≤ 1 := fun ns => by
    induction ns with
    | nil => simp [PyData.depthAll]
    | cons n r ih => rw [List.map_cons, PyData.depthAll, PyData.depth]; omega
  unfold SeqAt.shaped
  rw [PyData.canLay0, h1, Bool.true_and, decide_eq_true_eq, PyData.depth]
  have := h2 ns
  omega
section
variable {P : Program} {w : World} {K : PySem.W.Frag} {mg : Str → Option Value} {base : Heap}
theorem ok_fits {f : Addr} {fd : FuncData} (F : C8.Def K mg "fits" s_fits f fd) (b : Binds K fd ["folders", "files"] []) (T : TxFits mg) (c_is_number : C8.Cal P w K mg base 1 "is_number" spNum []) (c_reaches_root : C8.Cal P w K mg base 1 "reaches_root" spReach []) : C8.Cal P w K mg base 2 "fits" spFits [] := by
  refine C8.cal0 F b .nil fs_fits (fun vs H Q E h => ?_) (fun cdv A outer s H vs Q E hr h => ?_)
  · obtain ⟨B, d, e, fo, fl, kvs, rfl, _⟩ := h
    rfl
  · obtain ⟨B, d, e, fo, fl, kvs, rfl, hB, hd, he, nde, pf, gt, q⟩ := h
    have hu := hu_of hr
    have hsl : (1000000 : Nat) < sizeLine := by decide
    have lfo : (encFo fo).length = fo.length := by unfold encFo; rw [List.length_map]
    have lkv : kvs.length = fl.length := pr_len pf
    refine ⟨_, (pss_cons (ps_if (pt_not (pt_val (pe_callB (cr_all rfl) (by rfl) T.all (by decide +kernel) (pa_cons (pe_lc (own := [("number", 2)]) (g := gName 2) rfl fs_fits.nd (pi_list (pe_op op_cat (pe_callTy (call_list_dK rfl) (by rfl) T.list (by decide +kernel) (pa_cons (pv 0) pa_nil)) (pe_callTy (call_list_dK rfl) (by rfl) T.list (by decide +kernel) (pa_cons (pv 1) pa_nil)))) (blkOk_by (own := [("number", 2)]) (N := nm_fits) (sc := sc_fits) (by decide +kernel)) (fun _ _ _ _ _ => (pg_name (i := 2) fs_fits.nd rfl (Or.inl rfl))) (fun _ _ _ _ _ => pts_nil) (fun _ _ _ _ _ => (C8.pe_c c_is_number hr (by decide) rfl (pa_cons (pv 2) pa_nil)))) pa_nil))))
       (pss_one (ps_ret pe_bl))
       pss_nil)
      (pss_cons (ps_if (pt_cmpR (op_neD hr.units) (pe_lock (pe_lc (own := [("number", 2)]) (g := gName 2) rfl fs_fits.nd (pi_keys (pv 1)) (blkOk_by (own := [("number", 2)]) (N := nm_fits) (sc := sc_fits) (by decide +kernel)) (fun _ _ _ _ _ => (pg_name (i := 2) fs_fits.nd rfl (Or.inl rfl))) (fun _ _ _ _ _ => (pts_one (pt_cmp (pc_din hu (pv 2) (pv 0))))) (fun _ _ _ _ _ => (pv 2)))) (pe_lst pa_nil) (nomark _))
       (pss_one (ps_ret pe_bl))
       pss_nil)
      (pss_cons (ps_if (pt_not (pt_val (pe_callB (cr_all rfl) (by rfl) T.all (by decide +kernel) (pa_cons (pe_lock (pe_lc (own := [("number", 2)]) (g := gName 2) rfl fs_fits.nd (pi_keys (pv 0)) (blkOk_by (own := [("number", 2)]) (N := nm_fits) (sc := sc_fits) (by decide +kernel)) (fun _ _ _ _ _ => (pg_name (i := 2) fs_fits.nd rfl (Or.inl rfl))) (fun _ _ _ _ _ => pts_nil) (fun _ _ _ _ _ => (C8.pe_c c_reaches_root hr (by decide) rfl (pa_cons (pv 0) (pa_cons (pv 2) pa_nil)))))) pa_nil))))
       (pss_one (ps_ret pe_bl))
       pss_nil)
      (pss_cons (ps_lock (ps_for PassesOwn.never rfl (pi_keys (pv 1)) (pg_name (i := 2) fs_fits.nd rfl (Or.inl rfl))
       (pss_cons (ps_set (i := 3) fs_fits.nd rfl (Or.inl rfl) (pe_dget hu (pv 1) (pv 2) (fun _ _ => rfl)))
       (pss_cons (ps_if (PW.pt (pw_or (pt_cmpR (op_eqD hr.units) (pv 3) (pe_lst pa_nil) (nomark _)) (pw_or1 (pt_cmpR op_lt (RZ.pe_lenSetI (by rfl) T.len (by rfl) T.set (pv 3)) (pe_callB call_len_seq (by rfl) T.len (by decide +kernel) (pa_cons (pv 3) pa_nil)) (nomark _)))))
        (pss_one (ps_ret pe_bl))
        pss_nil)
       (pss_one (ps_if (pt_cmpR (op_neD hr.units) (pe_lc (own := [("folder", 4)]) (g := gName 4) rfl fs_fits.nd (pi_list (pv 3)) (blkOk_by (own := [("folder", 4)]) (N := nm_fits) (sc := sc_fits) (by decide +kernel)) (fun _ _ _ _ _ => (pg_name (i := 4) fs_fits.nd rfl (Or.inl rfl))) (fun _ _ _ _ _ => (pts_one (PW.pt (pw_and (pt_cmpR op_ne (pv 4) pe_int (nomark _)) (pw_and1 (pt_cmp (pc_dnotin hu (pv 4) (pv 0)))))))) (fun _ _ _ _ _ => (pv 4))) (pe_lst pa_nil) (nomark _))
        (pss_one (ps_ret pe_bl))
        pss_nil))))))
      (pss_one (ps_ret pe_bl)))))), ?_⟩
    have f1 : Fs [] B H B H [] := Fs.start hB
    have fewl := gt.fewl
    have few := gt.few
    walk_at "rd"
    -- list(folders) + list(files)
    refine ⟨d, _, rfl, hB _ _ hd, fun r1 hr1 => ?_⟩
    have s1 : Same H (upd H r1 _) := same_new (o := .lst ((encFo fo).map fun kv => kV kv.1)) hr1
    have f2 := f1.mut (ob := .lst ((encFo fo).map fun kv => kV kv.1)) hr1 s1 upd_same
    walk_at "rd"
    refine ⟨e, _, rfl, f2.get he, fun r2 hr2 => ?_⟩
    have f3 := f2.mut (ob := .lst (kvs.map fun kv => kV kv.1)) hr2 (same_new hr2) upd_same (f2.fresh hr2)
    refine q_cat f3.at1 f3.at0 (by rw [List.length_map, List.length_map]; omega) ?_
    intro r3 H3 hr3 s3 h3
    have f4 := f3.stay hr3 s3 h3 (f3.fresh hr3)
    generalize hxs : ((encFo fo).map fun kv => kV kv.1) ++ (kvs.map fun kv => kV kv.1) = xs at f4 h3
    have hnum : ∀ x ∈ xs, ∃ n : Int, x = .int n ∧ 1 ≤ n ∧ n ≤ 1000000000 := fun x hx => by
      rw [← hxs] at hx
      rcases List.mem_append.mp hx with hx | hx
      · obtain ⟨kv, h1, h2⟩ := List.mem_map.mp hx
        obtain ⟨p, h3, h4⟩ := List.mem_map.mp h1
        subst h4
        exact ⟨p.1, h2.symm, gt.num p h3⟩
      · obtain ⟨kv, h1, h2⟩ := List.mem_map.mp hx
        obtain ⟨i, hi⟩ := List.getElem?_of_mem h1
        obtain ⟨q, h3, h4, _⟩ := pr_get pf hi
        refine ⟨q.1, ?_, gt.numl q (List.mem_of_getElem? h3)⟩
        rw [← h2, h4]
        rfl
    have lxs : xs.length ≤ 2000 := by
      rw [← hxs, List.length_append, List.length_map, List.length_map]
      omega
    walk_at "rd"
    generalize hB1 : upd B r3 (HO.lst xs) = B1 at f4
    have hr1' : B1 r3 = some (.lst xs) := by rw [← hB1]; exact upd_same
    intro D hD
    have ew : xs.length = (List.replicate xs.length (some ())).length := by rw [List.length_replicate]
    refine lcR (α := Unit) (R := fun B v _ => v = .bl true) (B1 := B1) (fun B B' v o sm h => h) (outs := List.replicate xs.length (some ())) (walk_list (xs := xs)) ew f4.own.same hD (fun H sm => .inl (.inl (sm _ _ hr1'))) (by rw [List.length_replicate]; omega) ?_ ?_
    · rintro k y _ H7 B7 zs Nx Nf hk f8 ⟨rfl, hy⟩ hNx hNf
      obtain ⟨n, rfl, hn⟩ := hnum y (List.mem_of_getElem? hy)
      walk_at "rd"
      refine ⟨rfl, ?_⟩
      walk_at "rd"
      refine iteT ?_
      walk_at "rd"
      refine ⟨n, rfl, ?_⟩
      rw [decide_eq_true hn]
      rw [List.length_replicate] at hk
      exact hNx _ B7 _ () (by rw [List.getElem?_replicate, if_pos hk]) (Grow.refl f8.own.same) rfl
    intro B5 H5 ws f5 pw
    have f6 := f4.call (f5.freeze hD).done
    walk_at "rd"
    have ew2 : ws = (List.replicate xs.length true).map V.bl := by
      have e : (List.replicate xs.length (some ())).filterMap id = List.replicate xs.length () := by
        generalize xs.length = m
        induction m with
        | zero => rfl
        | succ m ih => rw [List.replicate_succ, List.filterMap_cons, ih]; rfl
      rw [e] at pw
      exact bl_true (B := B) pw
    refine ⟨D, List.replicate xs.length true, rfl, by rw [← ew2]; exact SqL.of f5.at0, ?_⟩
    rw [all_rep]
    walk_at "rd"
    refine iteF ?_
    have f7 : Fs [] B H _ H5 [] := f6.weak.weak
    generalize hB5 : upd B5 D (HO.lst ws) = B6 at f7
    have hd6 : B6 d = some (.dK (encFo fo)) := f7.base _ _ hd
    have he6 : B6 e = some (.dK kvs) := f7.base _ _ he
    clear hB5 f6 f5 f4 f3 f2
    -- [number for number in files if number in folders] != []
    walk_at "rd"
    refine q_lockE (d := e) (f7.get he6) trivial (fun od => ?_)
    have sm1 := same_upd (d := e) f7.own.same (.frz od (.dK kvs))
    have hd7 : (upd B6 e (.frz od (.dK kvs))) d = some (.dK (encFo fo)) := by rw [upd_ne nde]; exact hd6
    refine q_lc ?_
    refine q_iKeys ?_
    walk_at "rd"
    refine q_itk upd_same ?_
    intro D2 hD2
    have ew : kvs.length = (kvs.map fun _ => (none : Option Unit)).length := by rw [List.length_map]
    refine lcR (α := Unit) (R := fun B v _ => False) (B1 := upd B6 e (.frz od (.dK kvs))) (fun B B' v o sm h => h) (outs := kvs.map fun _ => (none : Option Unit)) walk_keys ew sm1 hD2 (fun H sm => sm _ _ upd_same) (by rw [List.length_map]; omega) ?_ ?_
    · rintro k y _ H8 B8 zs Nx Nf hk f8 ⟨rfl, ky, vy, hy, rfl⟩ hNx hNf
      obtain ⟨q0, hq0, hq1, _⟩ := pr_get pf hy
      have hq1 : ky = .inl q0.1 := hq1
      subst hq1
      have hdis := gt.dis q0 (List.mem_of_getElem? hq0)
      walk_at "rd"
      refine ⟨rfl, ?_⟩
      walk_at "rd"
      refine q_inIR (.inl (f8.get (f8.base _ _ hd7))) ?_
      walk_at "rd"
      rw [val_fo, hdis]
      refine iteF ?_
      rw [List.length_map] at hk
      exact hNf B8 _ (by rw [List.getElem?_map, List.getElem?_eq_getElem hk]; rfl) (Grow.refl f8.own.same)
    intro B9 H9 ws9 f9 pw9
    rw [fm_none] at pw9
    cases pw9
    obtain ⟨hfz, gr⟩ := unlock he6 (f7.get he6) (f9.freeze hD2).done
    refine ⟨hfz, ?_⟩
    have f10 := f7.call gr
    have ne2 : D2 ≠ e := fun z => by
      rw [z, upd_same] at hD2
      cases hD2
    generalize hB10 : upd (upd B9 D2 (HO.lst [])) e (HO.dK kvs) = B10 at f10
    generalize hH10 : upd H9 e (HO.dK kvs) = H10 at f10
    have hD10 : B10 D2 = some (.lst []) := by rw [← hB10, upd_ne ne2]; exact upd_same
    have hd10 : B10 d = some (.dK (encFo fo)) := f10.base _ _ hd
    have he10 : B10 e = some (.dK kvs) := f10.base _ _ he
    clear hB10 hH10 gr hfz f9 f7
    walk_at "rd"
    intro r4 H11 hr4 s11 h11
    have f11 := f10.ext s11
    refine q_neD (d := .list []) (e := .list []) (.lst (.inl (.inl (f11.get hD10))) .nil) (.lst (.inl (.inl h11)) .nil) rfl rfl ?_
    walk_at "rd"
    refine iteF ?_
    -- all([reaches_root(folders, number) for number in folders])
    walk_at "rd"
    refine q_lockE (d := d) (f11.get hd10) trivial (fun od => ?_)
    have sm2 := same_upd (d := d) f11.own.same (.frz od (.dK (encFo fo)))
    refine q_lc ?_
    refine q_iKeys ?_
    walk_at "rd"
    refine q_itk upd_same ?_
    intro D3 hD3
    have ew : (encFo fo).length = (List.replicate (encFo fo).length (some ())).length := by rw [List.length_replicate]
    refine lcR (α := Unit) (R := fun B v _ => v = .bl true) (B1 := upd B10 d (.frz od (.dK (encFo fo)))) (fun B B' v o sm h => h) (outs := List.replicate (encFo fo).length (some ())) walk_keys ew sm2 hD3 (fun H sm => sm _ _ upd_same) (by rw [List.length_replicate]; omega) ?_ ?_
    · rintro k y _ H8 B8 zs Nx Nf hk f8 ⟨rfl, ky, vy, hy, rfl⟩ hNx hNf
      obtain ⟨p, hp, hpe⟩ : ∃ p ∈ fo, (ky, vy) = (Sum.inl p.1, V.int p.2) := by
        have hm := List.mem_of_getElem? hy
        obtain ⟨p, h1, h2⟩ := List.mem_map.mp hm
        exact ⟨p, h1, h2.symm⟩
      cases hpe
      walk_at "rd"
      refine ⟨rfl, ?_⟩
      walk_at "rd"
      refine iteT ?_
      walk_at "rd"
      refine ⟨d, fo, p.1, rfl, .inr ⟨od, f8.get (f8.base _ _ upd_same)⟩, by omega, ?_⟩
      rw [gt.rch p hp]
      rw [List.length_replicate] at hk
      exact hNx _ B8 _ () (by rw [List.getElem?_replicate, if_pos hk]) (Grow.refl f8.own.same) rfl
    intro B12 H12 ws f12 pw
    have ew2 : ws = (List.replicate (encFo fo).length true).map V.bl := by
      have e : (List.replicate (encFo fo).length (some ())).filterMap id = List.replicate (encFo fo).length () := by
        generalize (encFo fo).length = m
        induction m with
        | zero => rfl
        | succ m ih => rw [List.replicate_succ, List.filterMap_cons, ih]; rfl
      rw [e] at pw
      exact bl_true (B := B) pw
    obtain ⟨hfz, gr⟩ := unlock hd10 (f11.get hd10) (f12.freeze hD3).done
    refine ⟨hfz, ?_⟩
    have f13 := f11.call gr
    have ne3 : D3 ≠ d := fun z => by
      rw [z, upd_same] at hD3
      cases hD3
    generalize hB13 : upd (upd B12 D3 (HO.lst ws)) d (HO.dK (encFo fo)) = B13 at f13
    generalize hH13 : upd H12 d (HO.dK (encFo fo)) = H13 at f13
    have hD13 : B13 D3 = some (.lst ws) := by rw [← hB13, upd_ne ne3]; exact upd_same
    have hd13 : B13 d = some (.dK (encFo fo)) := f13.base _ _ hd
    have he13 : B13 e = some (.dK kvs) := f13.base _ _ he
    have pf13 : Paired (FileV B13) kvs fl := pr_mono (fun _ _ h => fileV_mono f13.base h) pf
    clear hB13 hH13 gr hfz f12 f11 f10
    walk_at "rd"
    refine ⟨D3, List.replicate (encFo fo).length true, rfl, by rw [← ew2]; exact SqL.of (f13.get hD13), ?_⟩
    rw [all_rep]
    walk_at "rd"
    refine iteF ?_
    -- for number in files
    walk_at "rd"
    refine ⟨e, _, f13.get he13, trivial, fun od => ?_⟩
    have sm3 := same_upd (d := e) f13.own.same (.frz od (.dK kvs))
    have hd14 : (upd B13 e (.frz od (.dK kvs))) d = some (.dK (encFo fo)) := by rw [upd_ne nde]; exact hd13
    have g0 : Fs [] (upd B13 e (.frz od (.dK kvs))) (upd H13 e (.frz od (.dK kvs))) _ _ [] := Fs.start sm3
    refine q_for ?_
    refine q_iKeys ?_
    walk_at "rd"
    refine q_itk upd_same ?_
    refine for_it (n := kvs.length) walk_keys (fun i σ Hc => ∃ (Bc : Hp) (x2 x3 x4 : Option V), σ = [some (.ref d), some (.ref e), x2, x3, x4] ∧ Fs [] (upd B13 e (.frz od (.dK kvs))) (upd H13 e (.frz od (.dK kvs))) Bc Hc [])
      ⟨_, _, _, _, rfl, g0⟩ (fun i σ Hc _ ⟨Bc, _, _, _, _, g⟩ => g.get (g.base _ _ upd_same)) ?_ ?_
    · rintro i y σ _ Hc hi ⟨Bc, x2, x3, x4, rfl, g1⟩ ⟨rfl, ky, vy, hy, rfl⟩
      obtain ⟨q0, hq0, hq1, a, hq2, hq3⟩ := pr_get pf13 hy
      have hq1 : ky = .inl q0.1 := hq1
      have hq2 : vy = .ref a := hq2
      subst hq1 hq2
      obtain ⟨ne, nd, hl, hs⟩ := gt.spo q0 (List.mem_of_getElem? hq0)
      have hae : a ≠ e := fun z => by
        rw [z, he13] at hq3
        cases hq3
      have haB : (upd B13 e (.frz od (.dK kvs))) a = some (.lst (q0.2.map V.int)) := by rw [upd_ne hae]; exact hq3
      walk_at "rd"
      refine q_getIR (.inr ⟨od, g1.get (g1.base _ _ upd_same)⟩) (val_at (keys_nd pf13 gt.ndl) hy) ?_
      walk_at "rd"
      intro r5 H15 hr5 s15 h15
      have g2 := g1.ext s15
      have haH : H15 a = some (.lst (q0.2.map V.int)) := g2.get (g2.base _ _ haB)
      refine q_eqD (d := .list (q0.2.map PyData.int)) (e := .list []) (.lst (.inl (.inl haH)) (dpI _)) (.lst (.inl (.inl h15)) .nil) (shaped_ints _) rfl ?_
      walk_at "rd"
      have ene : PyData.eqv (.list (q0.2.map PyData.int)) (.list []) = false := by
        cases e0 : q0.2 with
        | nil => exact absurd e0 ne
        | cons z zs => rfl
      rw [ene]
      refine iteF ?_
      walk_at "rd"
      refine ⟨_, rfl, a, q0.2, rfl, .inl (.inl haH), nd, by omega, ?_⟩
      walk_at "rd"
      rw [List.length_map, decide_eq_false (Int.lt_irrefl _)]
      refine iteF ?_
      walk_at "rd"
      intro D4 hD4
      have ew : (q0.2.map V.int).length = (q0.2.map fun _ => (none : Option Unit)).length := by rw [List.length_map, List.length_map]
      refine lcR (α := Unit) (R := fun B v _ => False) (B1 := Bc) (fun B B' v o sm h => h) (outs := q0.2.map fun _ => (none : Option Unit)) (walk_list (xs := q0.2.map V.int)) ew g2.own.same hD4 (fun H sm => .inl (.inl (sm _ _ (g1.base _ _ haB)))) (by rw [List.length_map]; omega) ?_ ?_
      · rintro k y _ H8 B8 zs Nx Nf hk f8 ⟨rfl, hyk⟩ hNx hNf
        rw [List.length_map] at hk
        rw [List.getElem?_map, List.getElem?_eq_getElem hk] at hyk
        have hyk : y = .int q0.2[k] := (Option.some.inj hyk).symm
        subst hyk
        have hsk := hs q0.2[k] (List.getElem_mem hk)
        have fin : Nf H8 := hNf B8 _ (by rw [List.getElem?_map, List.getElem?_eq_getElem hk]; rfl) (Grow.refl f8.own.same)
        walk_at "rd"
        refine ⟨rfl, ?_⟩
        walk_at "rd"
        refine ite2 (fun h0 => ?_) (fun h0 => ?_)
        · have h0 : ¬ q0.2[k] = 0 := fun z => by
            rw [z] at h0
            cases h0
          have hsm : (look fo q0.2[k]).isSome = true := hsk.resolve_left h0
          walk_at "rd"
          refine q_inIR (.inl (f8.get (f8.base _ _ (g1.base _ _ hd14)))) ?_
          walk_at "rd"
          rw [val_fo]
          cases hlk : look fo q0.2[k] with
          | none => rw [hlk] at hsm; cases hsm
          | some z =>
            refine iteF ?_
            exact fin
        · refine iteF ?_
          exact fin
      intro B9 H9 ws9 f9 pw9
      rw [fm_none] at pw9
      cases pw9
      have g3 := g2.call (f9.freeze hD4).done
      walk_at "rd"
      intro r6 H16 hr6 s16 h16
      have g4 := g3.ext s16
      refine q_neD (d := .list []) (e := .list []) (.lst (.inl (.inl (g4.get upd_same))) .nil) (.lst (.inl (.inl h16)) .nil) rfl rfl ?_
      walk_at "rd"
      refine iteF ?_
      walk_at "rd"
      exact ⟨_, _, _, _, rfl, g4⟩
    · rintro σ Hc ⟨Bc, x2, x3, x4, rfl, g1⟩
      obtain ⟨hfz, gr⟩ := unlock he13 (f13.get he13) g1.done
      refine ⟨hfz, ?_⟩
      have f14 := f13.call gr
      walk_at "rd"
      exact q _ f14.done.all
end

/-! ### the class Tree -/
def fldT (pa sp : Addr) : List (Str × V) := [("parents", .ref pa), ("spots", .ref sp)]
/-- sorted lists of the same folders -/
def SortF (q q' : Int × List Int) : Prop := q'.1 = q.1 ∧ q'.2.Perm q.2 ∧ q'.2.Pairwise (· ≤ ·)
structure TreeAt (C : Addr) (B : Hp) (t : Addr) (fo : Fo) (fl : Fl) : Prop where
  ex : ∃ dx pa sp kvs, B t = some (.ins C dx (fldT pa sp)) ∧ B pa = some (.dK (encFo fo)) ∧ B sp = some (.dK kvs) ∧ Paired (FileV B) kvs fl
theorem treeAt_mono {C : Addr} {B B' : Hp} {t : Addr} {fo : Fo} {fl : Fl} (s : Same B B') (h : TreeAt C B t fo fl) : TreeAt C B' t fo fl := by
  obtain ⟨dx, pa, sp, kvs, h1, h2, h3, h4⟩ := h.ex
  exact ⟨dx, pa, sp, kvs, s _ _ h1, s _ _ h2, s _ _ h3, pr_mono (fun _ _ h => fileV_mono s h) h4⟩
structure TxCls (K : PySem.W.Frag) (C : Addr) : Prop where
  cl : Cls K C
  nP : NoAttr K C "parents"
  nS : NoAttr K C "spots"
structure TxInit (mg : Str → Option Value) : Prop where
  sorted : Free mg "sorted"
def spInit (C : Addr) : Sp := fun vs H Q _ => ∃ (B : Hp) (x dx d e : Addr) (fo : Fo) (fl : Fl) (kvs : List (Key × V)), vs = [.ref x, .ref d, .ref e] ∧ Same B H ∧ H x = some (.ins C dx []) ∧ B x = none ∧ B d = some (.dK (encFo fo)) ∧ B e = some (.dK kvs) ∧ d ≠ e ∧ Paired (FileV B) kvs fl ∧ GoodT fo fl ∧
  ∀ B' H' pa sp kvs' fl', Grow [x] B H B' H' → H' x = some (.ins C dx (fldT pa sp)) → B' x = none → B' pa = some (.dK (encFo fo)) → B' sp = some (.dK kvs') → Paired (FileV B') kvs' fl' → Paired SortF fl fl' → Q .non H'
section
variable {P : Program} {w : World} {K : PySem.W.Frag} {mg : Str → Option Value} {base : Heap} {C : Addr}
theorem ok_init {f : Addr} {fd : FuncData} (F : C8.Fun K "__init__" "Tree.__init__" s_Tree__init_ f fd) (T : TxInit mg) (TC : TxCls K C) (c_fits : C8.Cal P w K mg base 2 "fits" spFits []) : FnOk P w K mg base C8.CX0 3 f fd ["self", "folders", "files"] (spInit C) := by
  refine C8.fn0 F fs_Tree__init_ (fun vs H Q E h => ?_) (fun cdv A outer s H vs Q E hr h => ?_)
  · obtain ⟨B, x, dx, d, e, fo, fl, kvs, rfl, _⟩ := h
    rfl
  · obtain ⟨B, x, dx, d, e, fo, fl, kvs, rfl, hB, hx, hxB, hd, he, nde, pf, gt, q⟩ := h
    have hu := hu_of hr
    have few := gt.few
    have fewl := gt.fewl
    have lfo : (encFo fo).length = fo.length := by unfold encFo; rw [List.length_map]
    have lkv : kvs.length = fl.length := pr_len pf
    refine ⟨_, (pss_cons (ps_if (pt_not (pt_val (C8.pe_c c_fits hr (by decide) rfl (pa_cons (pv 1) (pa_cons (pv 2) pa_nil)))))
       (pss_one ps_never)
       pss_nil)
      (pss_cons (ps_fld (pv 0) (pe_lock (pe_dc (own := [("number", 3)]) (g := gName 3) rfl fs_Tree__init_.nd (pi_keys (pv 1)) (blkOk_by (own := [("number", 3)]) (N := nm_Tree__init_) (sc := sc_Tree__init_) (by decide +kernel)) (fun _ _ _ _ _ => (pg_name (i := 3) fs_Tree__init_.nd rfl (Or.inl rfl))) (fun _ _ _ _ _ => pts_nil) (fun _ _ _ _ _ => (pv 3)) (fun _ _ _ _ _ => (pe_dget hu (pv 1) (pv 3) (fun _ _ => rfl))))) rfl)
      (pss_one (ps_fld (pv 0) (pe_lock (pe_dc (own := [("number", 3)]) (g := gName 3) rfl fs_Tree__init_.nd (pi_keys (pv 2)) (blkOk_by (own := [("number", 3)]) (N := nm_Tree__init_) (sc := sc_Tree__init_) (by decide +kernel)) (fun _ _ _ _ _ => (pg_name (i := 3) fs_Tree__init_.nd rfl (Or.inl rfl))) (fun _ _ _ _ _ => pts_nil) (fun _ _ _ _ _ => (pv 3)) (fun _ _ _ _ _ => (pe_callB (r := rSortedI K) (id := "sorted") cr_sortedI (by rfl) T.sorted (by decide +kernel) (pa_cons (pe_dget hu (pv 2) (pv 3) (fun _ _ => rfl)) pa_nil))))) rfl)))), ?_⟩
    have f1 : Fs [x] B H B H [(x, .ins C dx [])] := Fs.start1 hB hx hxB
    walk_at "rd"
    refine ⟨B, d, e, fo, fl, kvs, rfl, hB, hd, he, nde, pf, gt, fun H1 s1 => ?_⟩
    have f2 := f1.ext s1
    walk_at "rd"
    refine iteF ?_
    walk_at "rd"
    -- the parents
    refine q_lockE (d := d) (f2.get hd) trivial (fun od => ?_)
    have sm2 := same_upd (d := d) f2.own.same (.frz od (.dK (encFo fo)))
    refine q_dc ?_
    walk_at "rd"
    refine q_itk upd_same ?_
    intro D hD
    have ndk : ((fo.map fun p => ((Sum.inl p.1 : Key), p.2)).map (·.1)).Nodup := by
      rw [List.map_map]
      have e : (fo.map ((·.1) ∘ fun p => ((Sum.inl p.1 : Key), p.2))) = (fo.map (·.1)).map Sum.inl := by rw [List.map_map]; rfl
      rw [e]
      exact List.Pairwise.map _ (fun a b h z => h (Sum.inl.inj z)) gt.nd
    refine dcR (α := Int) (R := fun B v n => v = .int n) (B1 := upd B d (.frz od (.dK (encFo fo)))) (fun B B' v o sm h => h) (outs := fo.map fun p => (Sum.inl p.1, p.2)) walk_keys (by unfold encFo; rw [List.length_map, List.length_map]) ndk sm2 hD (fun H sm => sm _ _ upd_same) (by rw [List.length_map]; omega) ?_ ?_
    · rintro k y _ H8 B8 kv Nx Nf hk f8 ⟨rfl, ky, vy, hy, rfl⟩ hNx
      rw [List.length_map] at hk
      have hy2 : (ky, vy) = (Sum.inl fo[k].1, V.int fo[k].2) := by
        unfold encFo at hy
        rw [List.getElem?_map, List.getElem?_eq_getElem hk] at hy
        exact (Option.some.inj hy).symm
      cases hy2
      walk_at "rd"
      refine ⟨rfl, ?_⟩
      walk_at "rd"
      refine iteT ?_
      walk_at "rd"
      have hv : valV (encFo fo) (.inl fo[k].1) = some (V.int fo[k].2) := val_at (by
        have e : (encFo fo).map (·.1) = (fo.map fun p => ((Sum.inl p.1 : Key), p.2)).map (·.1) := by unfold encFo; rw [List.map_map, List.map_map]; rfl
        rw [e]
        exact ndk) hy
      refine q_getIR (.inr ⟨od, f8.get (f8.base _ _ upd_same)⟩) hv ?_
      exact hNx _ B8 _ (.inl fo[k].1) fo[k].2 (by rw [List.getElem?_map, List.getElem?_eq_getElem hk]; rfl) (Grow.refl f8.own.same) rfl
    intro B3 H3 kv3 f3 pk3
    have ekv : kv3 = encFo fo := by
      unfold encFo
      have go : ∀ {kv : List (Key × V)} {fo : Fo}, Paired (fun (p : Key × V) (o : Key × Int) => p.1 = o.1 ∧ p.2 = .int o.2) kv (fo.map fun p => (Sum.inl p.1, p.2)) → kv = fo.map fun p => (Sum.inl p.1, V.int p.2) := fun {kv fo} h => by
        induction fo generalizing kv with
        | nil => cases h; rfl
        | cons p r ih =>
          cases h with
          | cons h1 h2 =>
            rw [ih h2, List.map_cons]
            congr 1
            exact Prod.ext h1.1 h1.2
      exact go pk3
    subst ekv
    obtain ⟨hfz, gr⟩ := unlock hd (f2.get hd) (f3.freeze hD).done
    refine ⟨hfz, ?_⟩
    have f4 := f2.call gr
    have neD : D ≠ d := fun z => by
      rw [z, upd_same] at hD
      cases hD
    generalize hB4 : upd (upd B3 D (HO.dK (encFo fo))) d (HO.dK (encFo fo)) = B4 at f4
    generalize hH4 : upd H3 d (HO.dK (encFo fo)) = H4 at f4
    have hpa : B4 D = some (.dK (encFo fo)) := by rw [← hB4, upd_ne neD]; exact upd_same
    clear hB4 hH4 gr hfz f3 f2
    walk_at "rd"
    refine q_sfld' f4.at0 TC.cl TC.nP (by decide) ?_
    intro H5 b5 h5
    have f5 := f4.put b5 h5
    have he5 : B4 e = some (.dK kvs) := f5.base _ _ he
    have pf5 : Paired (FileV B4) kvs fl := pr_mono (fun _ _ h => fileV_mono f5.base h) pf
    -- the spots
    walk_at "rd"
    refine q_lockE (d := e) (f5.get he5) trivial (fun od => ?_)
    have sm3 := same_upd (d := e) f5.own.same (.frz od (.dK kvs))
    refine q_dc ?_
    walk_at "rd"
    refine q_itk upd_same ?_
    intro D2 hD2
    have ndk2 : ((fl.map fun q => ((Sum.inl q.1 : Key), q)).map (·.1)).Nodup := by
      rw [List.map_map]
      have e : (fl.map ((·.1) ∘ fun q => ((Sum.inl q.1 : Key), q))) = (fl.map (·.1)).map Sum.inl := by rw [List.map_map]; rfl
      rw [e]
      exact List.Pairwise.map _ (fun a b h z => h (Sum.inl.inj z)) gt.ndl
    refine dcR (α := Int × List Int) (R := fun B v q => ∃ (a : Addr) (ns : List Int), v = .ref a ∧ B a = some (.lst (ns.map V.int)) ∧ ns.Perm q.2 ∧ ns.Pairwise (· ≤ ·)) (B1 := upd B4 e (.frz od (.dK kvs))) (fun B B' v o sm ⟨a, ns, h1, h2, h3⟩ => ⟨a, ns, h1, sm _ _ h2, h3⟩) (outs := fl.map fun q => (Sum.inl q.1, q)) walk_keys (by rw [List.length_map]; exact lkv) ndk2 sm3 hD2 (fun H sm => sm _ _ upd_same) (by rw [List.length_map]; omega) ?_ ?_
    · rintro k y _ H8 B8 kv Nx Nf hk f8 ⟨rfl, ky, vy, hy, rfl⟩ hNx
      rw [List.length_map] at hk
      obtain ⟨q0, hq0, hq1, a, hq2, hq3⟩ := pr_get pf5 hy
      have hq1 : ky = .inl q0.1 := hq1
      have hq2 : vy = .ref a := hq2
      subst hq1 hq2
      have hae : a ≠ e := fun z => by
        rw [z, he5] at hq3
        cases hq3
      have haB : (upd B4 e (.frz od (.dK kvs))) a = some (.lst (q0.2.map V.int)) := by rw [upd_ne hae]; exact hq3
      have g0 : Fs [] B8 H8 B8 H8 [] := Fs.start f8.own.same
      walk_at "rd"
      refine ⟨rfl, ?_⟩
      walk_at "rd"
      refine iteT ?_
      walk_at "rd"
      refine q_getIR (.inr ⟨od, f8.get (f8.base _ _ upd_same)⟩) (val_at (keys_nd pf5 gt.ndl) hy) ?_
      walk_at "rd"
      refine ⟨a, q0.2, rfl, .inl (.inl (f8.get (f8.base _ _ haB))), fun ns p pm ps hp => ?_⟩
      have g1 := g0.stay (ob := .lst (ns.map V.int)) hp (same_new hp) upd_same
      exact hNx _ _ _ (.inl q0.1) q0 (by rw [List.getElem?_map, hq0]; rfl) g1.done ⟨p, ns, rfl, upd_same, pm, ps⟩
    intro B6 H6 kv6 f6 pk6
    obtain ⟨hfz, gr⟩ := unlock he5 (f5.get he5) (f6.freeze hD2).done
    refine ⟨hfz, ?_⟩
    have f7 := f5.call gr
    have neD2 : D2 ≠ e := fun z => by
      rw [z, upd_same] at hD2
      cases hD2
    have hkv7 : ∀ (a : Addr) (ns : List Int), B6 a = some (.lst (ns.map V.int)) → upd (upd B6 D2 (HO.dK kv6)) e (HO.dK kvs) a = some (.lst (ns.map V.int)) := fun a ns h => by
      have h1 : a ≠ e := fun z => by
        have he6 := f6.base _ _ (upd_same (H := B4) (a := e) (o := HO.frz od (.dK kvs)))
        rw [z, he6] at h
        cases h
      rw [upd_ne h1]
      exact same_new (f6.own.new (D2, .dK kv6) List.mem_cons_self) _ _ h
    generalize hB7 : upd (upd B6 D2 (HO.dK kv6)) e (HO.dK kvs) = B7 at f7 hkv7
    generalize hH7 : upd H6 e (HO.dK kvs) = H7 at f7
    have hsp : B7 D2 = some (.dK kv6) := by rw [← hB7, upd_ne neD2]; exact upd_same
    have hpa7 : B7 D = some (.dK (encFo fo)) := gr.base _ _ hpa |> fun h => by rw [← hB7]; exact h
    clear hB7 hH7 gr hfz
    walk_at "rd"
    refine q_sfld' f7.at0 TC.cl TC.nS (by show 1 < 1000; decide) ?_
    intro H8 b8 h8
    have f8 := f7.put b8 h8
    obtain ⟨fl', p1, p2⟩ : ∃ fl', Paired (FileV B7) kv6 fl' ∧ Paired SortF fl fl' := by
      have go : ∀ {kv : List (Key × V)} {l : Fl}, Paired (fun (p : Key × V) (o : Key × (Int × List Int)) => p.1 = o.1 ∧ ∃ (a : Addr) (ns : List Int), p.2 = .ref a ∧ B6 a = some (.lst (ns.map V.int)) ∧ ns.Perm o.2.2 ∧ ns.Pairwise (· ≤ ·)) kv (l.map fun q => (Sum.inl q.1, q)) → ∃ fl', Paired (FileV B7) kv fl' ∧ Paired SortF l fl' := fun {kv l} h => by
        induction l generalizing kv with
        | nil => cases h; exact ⟨[], .nil, .nil⟩
        | cons q r ih =>
          cases h with
          | cons h1 h2 =>
            obtain ⟨fl', i1, i2⟩ := ih h2
            obtain ⟨e1, a, ns, e2, e3, e4, e5⟩ := h1
            exact ⟨(q.1, ns) :: fl', .cons ⟨e1, a, e2, hkv7 a ns e3⟩ i1, .cons ⟨rfl, e4, e5⟩ i2⟩
      exact go pk6
    exact q _ _ D D2 kv6 fl' f8.done f8.at0 (f8.own.new (x, _) List.mem_cons_self) hpa7 hsp p1 p2
end

/-! ### places -/
/-- the folders above one, from its parent on -/
def anc (fo : Fo) : Nat → Int → List Int
  | 0, _ => []
  | k + 1, h => if h = 0 then [] else match look fo h with
    | none => []
    | some p => p :: anc fo k p
def isFo (fo : Fo) (n : Int) : Bool := decide (n = 0) || (look fo n).isSome
def spIsFo (C : Addr) : Sp := fun vs H Q _ => ∃ (t : Addr) (fo : Fo) (fl : Fl) (n : Int), vs = [.ref t, .int n] ∧ TreeAt C H t fo fl ∧ Q (.bl (isFo fo n)) H
def spAboveT (C : Addr) : Sp := fun vs H Q _ => ∃ (t : Addr) (fo : Fo) (fl : Fl) (u n : Int) (k : Nat), vs = [.ref t, .int u, .int n] ∧ TreeAt C H t fo fl ∧ reachF fo k n = true ∧ Q (.bl (decide (u ∈ anc fo k n))) H
def placeT (fo : Fo) (k : Nat) (one other : Int) : Str :=
  if one = other then "same" else if other ≠ 0 ∧ look fo other = some one then "child" else if one ≠ 0 ∧ look fo one = some other then "parent"
  else if one ∈ anc fo k other then "inside" else if other ∈ anc fo k one then "around" else if look fo one = look fo other then "sibling" else "apart"
def spPlaceT (C : Addr) : Sp := fun vs H Q _ => ∃ (t : Addr) (fo : Fo) (fl : Fl) (one other : Int) (k : Nat), vs = [.ref t, .int one, .int other] ∧ TreeAt C H t fo fl ∧ reachF fo k one = true ∧ reachF fo k other = true ∧ ∀ H', Same H H' → Q (.str (placeT fo k one other)) H'
theorem reach_look {fo : Fo} {k : Nat} {n : Int} (h : reachF fo k n = true) (h0 : ¬ n = 0) : ∃ k' p, k = k' + 1 ∧ look fo n = some p ∧ reachF fo k' p = true ∧ anc fo k n = p :: anc fo k' p := by
  cases k with
  | zero => cases h
  | succ k =>
    unfold reachF at h
    rw [if_neg h0] at h
    cases hl : look fo n with
    | none => rw [hl] at h; cases h
    | some p =>
      rw [hl] at h
      refine ⟨k, p, rfl, rfl, h, ?_⟩
      rw [anc, if_neg h0, hl]
theorem anc_zero {fo : Fo} {k : Nat} : anc fo k 0 = [] := by
  cases k with
  | zero => rfl
  | succ k => rw [anc, if_pos rfl]
theorem zero_anc {fo : Fo} : ∀ {k : Nat} {n : Int}, reachF fo k n = true → ¬ n = 0 → (0 : Int) ∈ anc fo k n
  | 0, _, h, _ => by cases h
  | k + 1, n, h, h0 => by
    obtain ⟨k', p, e, _, e2, e3⟩ := reach_look h h0
    cases e
    rw [e3]
    by_cases z : p = 0
    · rw [z]; exact List.mem_cons_self
    · exact List.mem_cons_of_mem _ (zero_anc e2 z)
theorem reach_isFo {fo : Fo} {k : Nat} {n : Int} (h : reachF fo k n = true) : isFo fo n = true := by
  unfold isFo
  by_cases h0 : n = 0
  · rw [decide_eq_true h0]; rfl
  · obtain ⟨k', p, _, e, _⟩ := reach_look h h0
    rw [e, Bool.or_eq_true]
    exact .inr rfl
section
variable {P : Program} {w : World} {K : PySem.W.Frag} {mg : Str → Option Value} {base : Heap} {C : Addr}
theorem lookP (pa sp : Addr) : (fldT pa sp).lookup ("parents" : Str) = some (.ref pa) := by
  unfold fldT
  rw [List.lookup_cons, beq_self_eq_true]
theorem lookNo (pa sp : Addr) {m : Str} (h1 : (m == ("parents" : Str)) = false) (h2 : (m == ("spots" : Str)) = false) : (fldT pa sp).lookup m = none := by
  unfold fldT
  rw [List.lookup_cons, h1, List.lookup_cons, h2]
  rfl
theorem ok_isFo {f : Addr} {fd : FuncData} (F : C8.Fun K "is_folder" "Tree.is_folder" s_Tree_is_folder f fd) (b : Binds K fd ["self", "number"] []) (me : Meth K C "is_folder" f) (TC : TxCls K C) : C8.Met P w K mg base 1 C "is_folder" (spIsFo C) [] := by
  refine C8.met0 TC.cl me F b fs_Tree_is_folder (fun vs H Q E h => ?_) (fun cdv A outer s H vs Q E hr h => ?_)
  · obtain ⟨t, fo, fl, n, rfl, _⟩ := h
    rfl
  · obtain ⟨t, fo, fl, n, rfl, ht, q⟩ := h
    obtain ⟨dx, pa, sp, kvs, h1, h2, h3, h4⟩ := ht.ex
    have hu := hu_of hr
    refine ⟨_, (pss_one (ps_ret (pe_or (pe_cmpR op_eq (pv 1) pe_int (nomark _)) (pe_one (pe_cmp (pc_din hu (pv 1) (pe_fld (pv 0) rfl))))))), ?_⟩
    walk_at "rd"
    unfold isFo at q
    refine ite2 (fun h => ?_) (fun h => ?_)
    · have h : n = 0 := by
        have z := of_decide_eq_true h
        injection z
      rw [decide_eq_true h] at q
      exact q
    · have h : ¬ n = 0 := fun z => h (decide_eq_true (by rw [z]))
      rw [decide_eq_false h] at q
      walk_at "rd"
      refine q_fld' h1 TC.cl TC.nP (lookP pa sp) ?_
      refine q_inIR (.inl h2) ?_
      rw [val_fo]
      have e : ((look fo n).map V.int).isSome = (look fo n).isSome := by cases look fo n <;> rfl
      rw [e]
      exact q
theorem ok_aboveT {f : Addr} {fd : FuncData} (F : C8.Fun K "is_above" "Tree.is_above" s_Tree_is_above f fd) (b : Binds K fd ["self", "upper", "lower"] []) (me : Meth K C "is_above" f) (TC : TxCls K C) : C8.Met P w K mg base 1 C "is_above" (spAboveT C) [] := by
  refine C8.met0 TC.cl me F b fs_Tree_is_above (fun vs H Q E h => ?_) (fun cdv A outer s H vs Q E hr h => ?_)
  · obtain ⟨t, fo, fl, u, n, k, rfl, _⟩ := h
    rfl
  · obtain ⟨t, fo, fl, u, n, k, rfl, ht, hre, q⟩ := h
    obtain ⟨dx, pa, sp, kvs, h1, h2, h3, h4⟩ := ht.ex
    have hu := hu_of hr
    refine ⟨_, (pss_cons (ps_set (i := 3) fs_Tree_is_above.nd rfl (Or.inl rfl) (pv 2))
      (pss_cons (ps_while PassesOwn.never (pt_cmpR op_ne (pv 3) pe_int (nomark _))
       (pss_cons (ps_set (i := 3) fs_Tree_is_above.nd rfl (Or.inl rfl) (pe_dget hu (pe_fld (pv 0) rfl) (pv 3) (fun _ _ => rfl)))
       (pss_one (ps_if (pt_cmpR op_eq (pv 3) (pv 1) (nomark _))
        (pss_one (ps_ret pe_bl))
        pss_nil))))
      (pss_one (ps_ret pe_bl)))), ?_⟩
    walk_at "rd"
    refine ⟨fun m σ H2 => ∃ h : Int, σ = [some (.ref t), some (.int u), some (.int n), some (.int h)] ∧ H2 = H ∧ reachF fo m h = true ∧ decide (u ∈ anc fo m h) = decide (u ∈ anc fo k n), ⟨k, n, rfl, rfl, hre, rfl⟩, ?_⟩
    rintro m σ H2 ⟨h, rfl, rfl, hr2, he⟩
    walk_at "rd"
    refine ite2 (fun h0 => ?_) (fun h0 => ?_)
    · have h0 : ¬ h = 0 := fun z => by
        rw [z] at h0
        cases h0
      obtain ⟨m', p, rfl, e1, e2, e3⟩ := reach_look hr2 h0
      refine ⟨_, fun σ' H' z => z, ?_⟩
      walk_at "rd"
      refine q_fld' h1 TC.cl TC.nP (lookP pa sp) ?_
      walk_at "rd"
      refine q_getIR (.inl h2) (v := .int p) (by rw [val_fo, e1]; rfl) ?_
      walk_at "rd"
      refine ite2 (fun h5 => ?_) (fun h5 => ?_)
      · have h5 : p = u := by
          have z := of_decide_eq_true h5
          injection z
        walk_at "rd"
        rw [← he, e3, decide_eq_true (by rw [h5]; exact List.mem_cons_self)] at q
        exact q
      · have h5 : ¬ p = u := fun z => h5 (decide_eq_true (by rw [z]))
        walk_at "rd"
        refine ⟨m', Nat.lt_succ_self _, p, rfl, rfl, e2, ?_⟩
        rw [← he, e3]
        by_cases h6 : u ∈ anc fo m' p
        · rw [decide_eq_true h6, decide_eq_true (List.mem_cons_of_mem _ h6)]
        · rw [decide_eq_false h6, decide_eq_false (fun z => by
            rcases List.mem_cons.mp z with z | z
            · exact h5 z.symm
            · exact h6 z)]
    · have h0 : h = 0 := by
        by_cases z : h = 0
        · exact z
        · exact absurd (by rw [decide_eq_false (by intro y; injection y with y; exact z y)]; rfl) h0
      subst h0
      rw [anc_zero] at he
      walk_at "rd"
      rw [← he] at q
      exact q
theorem ok_placeT {f : Addr} {fd : FuncData} (F : C8.Fun K "place" "Tree.place" s_Tree_place f fd) (b : Binds K fd ["self", "one", "other"] []) (me : Meth K C "place" f) (TC : TxCls K C) (t_Tree_is_folder : C8.Met P w K mg base 1 C "is_folder" (spIsFo C) []) (t_Tree_is_above : C8.Met P w K mg base 1 C "is_above" (spAboveT C) []) : C8.Met P w K mg base 2 C "place" (spPlaceT C) [] := by
  refine C8.met0 TC.cl me F b fs_Tree_place (fun vs H Q E h => ?_) (fun cdv A outer s H vs Q E hr h => ?_)
  · obtain ⟨t, fo, fl, one, other, k, rfl, _⟩ := h
    rfl
  · obtain ⟨t, fo, fl, one, other, k, rfl, ht, hr1, hr2, q⟩ := h
    obtain ⟨dx, pa, sp, kvs, h1, h2, h3, h4⟩ := ht.ex
    have hu := hu_of hr
    refine ⟨_, (pss_cons (ps_for PassesOwn.never rfl (pi_tup (pe_tup (pa_cons (pv 1) (pa_cons (pv 2) pa_nil)))) (pg_name (i := 3) fs_Tree_place.nd rfl (Or.inl rfl))
       (pss_one (ps_if (pt_not (pt_val (C8.pe_mt t_Tree_is_folder hr (by decide) (pv 0) (pa_cons (pv 3) pa_nil))))
        (pss_one ps_never)
        pss_nil)))
      (pss_cons (ps_if (pt_cmpR op_eq (pv 1) (pv 2) (nomark _))
       (pss_one (ps_ret pe_str))
       pss_nil)
      (pss_cons (ps_if (pt_join1 (PW.pt (pw_and (pt_cmpR op_ne (pv 2) pe_int (nomark _)) (pw_and1 (pt_cmpR op_eq (pe_dget hu (pe_fld (pv 0) rfl) (pv 2) (fun _ _ => rfl)) (pv 1) (nomark _))))))
       (pss_one (ps_ret pe_str))
       pss_nil)
      (pss_cons (ps_if (pt_join1 (PW.pt (pw_and (pt_cmpR op_ne (pv 1) pe_int (nomark _)) (pw_and1 (pt_cmpR op_eq (pe_dget hu (pe_fld (pv 0) rfl) (pv 1) (fun _ _ => rfl)) (pv 2) (nomark _))))))
       (pss_one (ps_ret pe_str))
       pss_nil)
      (pss_cons (ps_if (pt_val (C8.pe_mt t_Tree_is_above hr (by decide) (pv 0) (pa_cons (pv 1) (pa_cons (pv 2) pa_nil))))
       (pss_one (ps_ret pe_str))
       pss_nil)
      (pss_cons (ps_if (pt_val (C8.pe_mt t_Tree_is_above hr (by decide) (pv 0) (pa_cons (pv 2) (pa_cons (pv 1) pa_nil))))
       (pss_one (ps_ret pe_str))
       pss_nil)
      (pss_one (ps_ret (pe_ifExp (pt_cmpR op_eq (pe_dget hu (pe_fld (pv 0) rfl) (pv 1) (fun _ _ => rfl)) (pe_dget hu (pe_fld (pv 0) rfl) (pv 2) (fun _ _ => rfl)) (nomark _)) pe_str pe_str))))))))), ?_⟩
    walk_at "rd"
    intro tp H1 htp s1 h5
    walk_at "rd"
    refine for_it (n := 2) (walk_tup (xs := [.int one, .int other])) (fun i σ H2 => ∃ x3, σ = [some (.ref t), some (.int one), some (.int other), x3] ∧ H2 = H1) ⟨_, rfl, rfl⟩ (fun i σ H2 _ ⟨_, _, e⟩ => by rw [e]; exact .inl (.inl h5)) ?_ ?_
    · rintro i x σ H2 H3 hi ⟨x3, rfl, e1⟩ ⟨rfl, hx⟩
      subst e1
      obtain ⟨n, rfl, hn⟩ : ∃ n, x = .int n ∧ reachF fo k n = true := by
        have hm := List.mem_of_getElem? hx
        simp only [List.mem_cons, List.not_mem_nil, or_false] at hm
        rcases hm with rfl | rfl
        · exact ⟨one, rfl, hr1⟩
        · exact ⟨other, rfl, hr2⟩
      walk_at "rd"
      refine ⟨t, dx, _, rfl, s1 _ _ h1, lookNo pa sp (by decide +kernel) (by decide +kernel), ?_⟩
      walk_at "rd"
      refine ⟨t, fo, fl, n, rfl, treeAt_mono s1 ht, ?_⟩
      rw [reach_isFo hn]
      walk_at "rd"
      refine iteF ?_
      walk_at "rd"
      exact ⟨_, rfl, rfl⟩
    rintro σ H2 ⟨x3, rfl, rfl⟩
    have g1 := s1 _ _ h1
    have g2 := s1 _ _ h2
    have ht2 := treeAt_mono s1 ht
    unfold placeT at q
    walk_at "rd"
    refine ite2 (fun h => ?_) (fun h => ?_)
    · have h : one = other := by
        have z := of_decide_eq_true h
        injection z
      rw [if_pos h] at q
      exact q _ s1
    have h : ¬ one = other := fun z => h (decide_eq_true (by rw [z]))
    rw [if_neg h] at q
    have getP : ∀ {n p : Int} {Q : VK}, look fo n = some p → Q (.int p) H2 → kGet Q (.ref pa) (.int n) H2 := fun {n p Q} e q => q_getIR (.inl g2) (v := .int p) (by rw [val_fo, e]; rfl) q
    walk_at "rd"
    -- child
    refine q_joinT (fun b H' => b = decide (other ≠ 0 ∧ look fo other = some one) ∧ H2 = H') ?_ ?_
    · walk_at "rd"
      refine ite2 (fun h0 => ?_) (fun h0 => ?_)
      · have h0 : ¬ other = 0 := fun z => by
          rw [z] at h0
          cases h0
        obtain ⟨k', p, _, e1, _⟩ := reach_look hr2 h0
        walk_at "rd"
        refine q_fld' g1 TC.cl TC.nP (lookP pa sp) ?_
        walk_at "rd"
        refine getP e1 ?_
        walk_at "rd"
        refine ⟨?_, rfl⟩
        rw [e1]
        by_cases z : p = one
        · rw [decide_eq_true (by rw [z]), decide_eq_true ⟨h0, by rw [z]⟩]
        · rw [decide_eq_false (by intro y; injection y with y; exact z y), decide_eq_false (fun y => z (Option.some.inj y.2))]
      · have h0 : other = 0 := by
          by_cases z : other = 0
          · exact z
          · exact absurd (by rw [decide_eq_false (by intro y; injection y with y; exact z y)]; rfl) h0
        exact ⟨(decide_eq_false (fun y => y.1 h0)).symm, rfl⟩
    rintro _ _ ⟨rfl, rfl⟩
    refine ite2 (fun h6 => ?_) (fun h6 => ?_)
    · rw [if_pos (of_decide_eq_true h6)] at q
      exact q _ s1
    have h6 : ¬ (other ≠ 0 ∧ look fo other = some one) := fun z => h6 (decide_eq_true z)
    rw [if_neg h6] at q
    walk_at "rd"
    refine q_joinT (fun b H' => b = decide (one ≠ 0 ∧ look fo one = some other) ∧ H2 = H') ?_ ?_
    · walk_at "rd"
      refine ite2 (fun h0 => ?_) (fun h0 => ?_)
      · have h0 : ¬ one = 0 := fun z => by
          rw [z] at h0
          cases h0
        obtain ⟨k', p, _, e1, _⟩ := reach_look hr1 h0
        walk_at "rd"
        refine q_fld' g1 TC.cl TC.nP (lookP pa sp) ?_
        walk_at "rd"
        refine getP e1 ?_
        walk_at "rd"
        refine ⟨?_, rfl⟩
        rw [e1]
        by_cases z : p = other
        · rw [decide_eq_true (by rw [z]), decide_eq_true ⟨h0, by rw [z]⟩]
        · rw [decide_eq_false (by intro y; injection y with y; exact z y), decide_eq_false (fun y => z (Option.some.inj y.2))]
      · have h0 : one = 0 := by
          by_cases z : one = 0
          · exact z
          · exact absurd (by rw [decide_eq_false (by intro y; injection y with y; exact z y)]; rfl) h0
        exact ⟨(decide_eq_false (fun y => y.1 h0)).symm, rfl⟩
    rintro _ _ ⟨rfl, rfl⟩
    refine ite2 (fun h7 => ?_) (fun h7 => ?_)
    · rw [if_pos (of_decide_eq_true h7)] at q
      exact q _ s1
    have h7 : ¬ (one ≠ 0 ∧ look fo one = some other) := fun z => h7 (decide_eq_true z)
    rw [if_neg h7] at q
    walk_at "rd"
    refine ⟨t, dx, _, rfl, g1, lookNo pa sp (by decide +kernel) (by decide +kernel), ?_⟩
    walk_at "rd"
    refine ⟨t, fo, fl, one, other, k, rfl, ht2, hr2, ?_⟩
    walk_at "rd"
    refine ite2 (fun h8 => ?_) (fun h8 => ?_)
    · rw [if_pos (of_decide_eq_true h8)] at q
      exact q _ s1
    have h8 : ¬ one ∈ anc fo k other := fun z => h8 (decide_eq_true z)
    rw [if_neg h8] at q
    walk_at "rd"
    refine ⟨t, dx, _, rfl, g1, lookNo pa sp (by decide +kernel) (by decide +kernel), ?_⟩
    walk_at "rd"
    refine ⟨t, fo, fl, other, one, k, rfl, ht2, hr1, ?_⟩
    walk_at "rd"
    refine ite2 (fun h9 => ?_) (fun h9 => ?_)
    · rw [if_pos (of_decide_eq_true h9)] at q
      exact q _ s1
    have h9 : ¬ other ∈ anc fo k one := fun z => h9 (decide_eq_true z)
    rw [if_neg h9] at q
    have n1 : ¬ one = 0 := fun z => h8 (by rw [z]; exact zero_anc hr2 (fun y => h (by rw [z, y])))
    have n2 : ¬ other = 0 := fun z => h9 (by rw [z]; exact zero_anc hr1 n1)
    obtain ⟨k1, p1, _, e1, _⟩ := reach_look hr1 n1
    obtain ⟨k2, p2, _, e2, _⟩ := reach_look hr2 n2
    rw [e1, e2] at q
    walk_at "rd"
    refine q_fld' g1 TC.cl TC.nP (lookP pa sp) ?_
    walk_at "rd"
    refine getP e1 ?_
    walk_at "rd"
    refine q_fld' g1 TC.cl TC.nP (lookP pa sp) ?_
    walk_at "rd"
    refine getP e2 ?_
    walk_at "rd"
    refine ite2 (fun h => ?_) (fun h => ?_)
    · have h : p1 = p2 := by
        have z := of_decide_eq_true h
        injection z
      rw [if_pos (by rw [h])] at q
      walk_at "rd"
      exact q _ s1
    · have h : ¬ p1 = p2 := fun z => h (decide_eq_true (by rw [z]))
      rw [if_neg (fun z => h (Option.some.inj z))] at q
      walk_at "rd"
      exact q _ s1
end

/-! the bag and its draws (second kind: three numbers) -/
/-- the bag at b: its third number is at most n -/
def BagB (o : HO) (n : Int) : Prop := ∃ L m c : Int, o = .lst [.int L, .int m, .int c] ∧ 0 ≤ L ∧ 0 ≤ m ∧ m ≤ 7000000000001000000 ∧ 0 ≤ c ∧ c ≤ n
theorem BagB.mono {o : HO} {n n' : Int} (h : BagB o n) (l : n ≤ n') : BagB o n' := by
  obtain ⟨L, m, c, e, h1, h2, h3, h4, h5⟩ := h
  exact ⟨L, m, c, e, h1, h2, h3, h4, by omega⟩
def spTakeB : Sp := fun vs H Q _ => ∃ (b : Addr) (o : HO) (n k : Int), vs = [.ref b, .int n] ∧ H b = some o ∧ BagB o k ∧ k ≤ 1000000 ∧ 1 ≤ n ∧ n < 1073741824 ∧
  ∀ (H' : Hp) (o' : HO) (d : Int), But b H H' → H' b = some o' → BagB o' (k + 1) → 0 ≤ d → d < n → Q (.int d) H'
structure TxTakeB (mg : Str → Option Value) : Prop where
  int : Free mg "int"
def spBagB (K : PySem.W.Frag) : Sp := fun vs H Q _ => ∃ (a : Addr) (ns : List Int) (at_ : Nat), vs = [.ref a, .int (at_ : Int)] ∧ SqL K H a (ns.map V.int) ∧ at_ < 64 ∧
  ∀ (b : Addr) (H' : Hp) (o : HO), H b = none → Same H H' → H' b = some o → BagB o 0 → Q (.ref b) H'
structure TxBagB (mg : Str → Option Value) : Prop where
  int : Free mg "int"
  abs : Free mg "abs"
  len : Free mg "len"
section
variable {P : Program} {w : World} {K : PySem.W.Frag} {mg : Str → Option Value} {base : Heap}
theorem ok_takeB {f : Addr} {fd : FuncData} (F : C8.Def K mg "_law_take" s_law_take f fd) (b : Binds K fd ["_law_bag_here", "_law_many"] []) (T : TxTakeB mg) : C8.Cal P w K mg base 1 "_law_take" spTakeB [] := by
  refine C8.cal0 F b .nil fs_law_take (fun vs H Q E h => ?_) (fun cdv A outer s H vs Q E hr h => ?_)
  · obtain ⟨b, o, n, k, rfl, _⟩ := h
    rfl
  · obtain ⟨b, o, n, k, rfl, hb, ⟨L, m, c, rfl, hL, hm, hm2, hc, hck⟩, hk, hn, hn2, q⟩ := h
    have hu := hu_of hr
    refine ⟨_, (pss_cons (ps_if (pt_cmpR op_gt (pe_ix ix_list (pv 0) pe_int (fun _ _ => rfl)) pe_int (nomark _))
       (pss_cons (ps_set (i := 2) fs_law_take.nd rfl (Or.inl rfl) (pe_op op_mod (pe_callTy call_int1 (by rfl) T.int (by decide +kernel) (pa_cons (pe_ix ix_list (pv 0) pe_int (fun _ _ => rfl)) pa_nil)) (pv 1)))
       (pss_cons (ps_asg (pe_op op_fdiv (pe_ix ix_list (pv 0) pe_int (fun _ _ => rfl)) (pv 1)) (pg_sub (pv 0) pe_int set_list))
       (pss_one (ps_ret (pv 2)))))
       pss_nil)
      (pss_cons (ps_asg (pe_op op_add (pe_ix ix_list (pv 0) pe_int (fun _ _ => rfl)) pe_int) (pg_sub (pv 0) pe_int set_list))
      (pss_cons (ps_set (i := 3) fs_law_take.nd rfl (Or.inl rfl) (pe_op op_mod (pe_callTy call_int1 (by rfl) T.int (by decide +kernel) (pa_cons (pe_op op_pow (pe_op op_add (pe_ix ix_list (pv 0) pe_int (fun _ _ => rfl)) (pe_op op_mul (pe_op op_mul pe_int (pe_ix ix_list (pv 0) pe_int (fun _ _ => rfl))) (pe_ix ix_list (pv 0) pe_int (fun _ _ => rfl)))) pe_int) pa_nil)) pe_int))
      (pss_one (ps_ret (pe_op op_mod (pe_op op_fdiv (pe_op op_mod (pe_callTy call_int1 (by rfl) T.int (by decide +kernel) (pa_cons (pe_op op_mul (pv 3) (pe_op op_add (pe_op op_fdiv (pv 3) pe_int) (pe_op op_mul pe_int (pe_ix ix_list (pv 0) pe_int (fun _ _ => rfl))))) pa_nil)) pe_int) pe_int) (pv 1))))))), ?_⟩
    walk_at "rd"
    refine ite2 (fun h0 => ?_) (fun h0 => ?_)
    · walk_at "rd"
      intro H2 b2 h2
      walk_at "rd"
      have h1 : 0 < L := of_decide_eq_true h0
      exact q _ _ _ b2 h2 ⟨_, m, c, rfl, Int.ediv_nonneg hL (by omega), hm, hm2, hc, by omega⟩ (Int.emod_nonneg _ (by omega)) (Int.emod_lt_of_pos _ (by omega))
    · walk_at "rd"
      intro H2 b2 h2
      have h3 : H2 b = some (.lst [.int L, .int m, .int (c + 1)]) := h2
      walk_at "rd"
      have hq : 0 ≤ 7919 * (c + 1) * (c + 1) ∧ 7919 * (c + 1) * (c + 1) ≤ 7919 * 1000001 * 1000001 := by
        have h5 : 0 ≤ 7919 * (c + 1) := by omega
        have h6 : 7919 * (c + 1) ≤ 7919 * 1000001 := by omega
        refine ⟨Int.mul_nonneg h5 (by omega), ?_⟩
        exact Int.le_trans (Int.mul_le_mul_of_nonneg_right h6 (by omega)) (Int.mul_le_mul_of_nonneg_left (by omega) (by omega))
      generalize 7919 * (c + 1) * (c + 1) = z at hq
      walk_at "rd"
      exact q _ _ _ b2 h3 ⟨L, m, c + 1, rfl, hL, hm, hm2, by omega, by omega⟩ (Int.emod_nonneg _ (by omega)) (Int.emod_lt_of_pos _ (by omega))
theorem ok_bagB {f : Addr} {fd : FuncData} (F : C8.Def K mg "_law_bag" s_law_bag f fd) (b : Binds K fd ["_law_script", "_law_at"] []) (T : TxBagB mg) : C8.Cal P w K mg base 1 "_law_bag" (spBagB K) [] := by
  refine C8.cal0 F b .nil fs_law_bag (fun vs H Q E h => ?_) (fun cdv A outer s H vs Q E hr h => ?_)
  · obtain ⟨a, ns, at_, rfl, _⟩ := h
    rfl
  · obtain ⟨a, ns, at_, rfl, ha, hat, q⟩ := h
    have hu := hu_of hr
    refine ⟨_, (C8.pss_cut (ps_set (i := 2) fs_law_bag.nd rfl (Or.inl rfl) (pe_ifExp (pt_cmpR op_lt (pv 1) (pe_callB call_len_seq (by rfl) T.len (by decide +kernel) (pa_cons (pv 0) pa_nil)) (nomark _)) (pe_ix ix_list (pv 0) (pv 1) (fun _ _ => rfl)) pe_int))
      (C8.pss_cut (ps_set (i := 3) fs_law_bag.nd rfl (Or.inl rfl) (pe_ifExp (pt_cmpR op_ge (pe_callB call_abs (by rfl) T.abs (by decide +kernel) (pa_cons (pv 2) pa_nil)) (pe_op op_pow pe_int pe_int) (nomark _)) (pe_callB call_abs (by rfl) T.abs (by decide +kernel) (pa_cons (pv 2) pa_nil)) pe_int))
      (pss_one (ps_ret (pe_lst (pa_cons (pv 3) (pa_cons (pe_op op_add (pe_op op_add (pe_op op_mul (pe_op op_mod (pe_callTy call_int1 (by rfl) T.int (by decide +kernel) (pa_cons (pv 2) pa_nil)) (pe_op op_add (pe_op op_pow pe_int pe_int) pe_int)) pe_int) (pe_op op_mul pe_int (pv 1))) pe_int) (pa_cons pe_int pa_nil)))))))), ?_⟩
    refine q_cut (fun σ' H' => ∃ z : Int, σ' = [some (.ref a), some (.int at_), some (.int z), none] ∧ H = H') ?_ ?_
    · walk_at "rd"
      refine ite2 (fun h0 => ?_) (fun h0 => ?_)
      · walk_at "rd"
        have h2 : (at_ : Int) < ((ns.map V.int).length : Int) := of_decide_eq_true h0
        have h3 : at_ < ns.length := by rw [List.length_map] at h2; omega
        refine q_ixL ha (atI_nat (v := .int ns[at_]) (by rw [List.getElem?_map, List.getElem?_eq_getElem h3]; rfl)) ?_
        walk_at "rd"
        exact ⟨_, rfl, rfl⟩
      · walk_at "rd"
        exact ⟨_, rfl, rfl⟩
    rintro σ' H' ⟨z, rfl, rfl⟩
    refine q_cut (fun σ' H' => ∃ L : Int, 0 ≤ L ∧ σ' = [some (.ref a), some (.int at_), some (.int z), some (.int L)] ∧ H = H') ?_ ?_
    · walk_at "rd"
      refine ite2 (fun h0 => ?_) (fun h0 => ?_)
      · walk_at "rd"
        exact ⟨_, by split <;> omega, rfl, rfl⟩
      · walk_at "rd"
        exact ⟨0, by omega, rfl, rfl⟩
    rintro σ' H' ⟨L, hL, rfl, rfl⟩
    walk_at "rd"
    intro b H2 hb s2 h2
    have m1 : 0 ≤ z % (10 ^ Int.toNat 18 + 9) := Int.emod_nonneg _ (by decide)
    have m2 : z % (10 ^ Int.toNat 18 + 9) < 10 ^ Int.toNat 18 + 9 := Int.emod_lt_of_pos _ (by decide)
    have e18 : (10 : Int) ^ Int.toNat 18 + 9 = 1000000000000000009 := by decide
    rw [e18] at m1 m2 h2
    exact q b H2 _ hb s2 h2 ⟨L, _, 0, rfl, hL, by omega, by omega, by omega, by omega⟩
end

/-! ### the law's numbers -/
theorem inV_int (n : Int) (ns : List Int) : inV (.int n) (ns.map V.int) = decide (n ∈ ns) := by
  unfold inV
  induction ns with
  | nil => rfl
  | cons m r ih =>
    rw [List.map_cons, List.any_cons, ih]
    have e : eqV (.int m) (.int n) = decide (m = n) := by
      by_cases h : m = n
      · rw [decide_eq_true h, h]; simp [eqV]
      · rw [decide_eq_false h]; simp [eqV, h]
    rw [e]
    by_cases h : n ∈ r
    · rw [decide_eq_true h, decide_eq_true (List.mem_cons_of_mem _ h), Bool.or_true]
    · rw [decide_eq_false h, Bool.or_false]
      by_cases h2 : m = n
      · rw [decide_eq_true h2, decide_eq_true (by rw [h2]; exact List.mem_cons_self)]
      · rw [decide_eq_false h2, decide_eq_false (fun z => by
          rcases List.mem_cons.mp z with z | z
          · exact h2 z.symm
          · exact h z)]
theorem flat_ints (ns : List Int) : (ns.map V.int).all flatV = true := by
  induction ns with
  | nil => rfl
  | cons n r ih => rw [List.map_cons, List.all_cons, ih]; rfl
theorem nd_le {l us : List Int} (nd : l.Nodup) (hs : ∀ x ∈ l, x ∈ us) : l.length ≤ us.length := by
  induction l generalizing us with
  | nil => simp
  | cons a r ih =>
    obtain ⟨n1, n2⟩ := List.nodup_cons.mp nd
    have ha := hs a List.mem_cons_self
    have h := ih (us := us.erase a) n2 fun x hx => by
      rw [List.mem_erase_of_ne (fun e => n1 (by rw [← e]; exact hx))]
      exact hs x (List.mem_cons_of_mem _ hx)
    rw [List.length_erase_of_mem ha] at h
    have : 0 < us.length := List.length_pos_of_mem ha
    rw [List.length_cons]
    omega
def itN (m : Nat) (h : Int) : Int := (h - 1 + m) % 1000000000 + 1
theorem itN_free (us : List Int) (h : Int) (hl : us.length < 1000000) : ∃ m, itN m h ∉ us := by
  by_cases z : ∃ m, itN m h ∉ us
  · exact z
  · exfalso
    have hall : ∀ m, itN m h ∈ us := fun m => by
      by_cases y : itN m h ∈ us
      · exact y
      · exact absurd ⟨m, y⟩ z
    have h1 := nd_le (l := (List.range (us.length + 1)).map fun m => itN m h) (us := us) (by
      unfold List.Nodup
      rw [List.pairwise_map]
      refine List.Pairwise.imp_of_mem ?_ List.nodup_range
      intro a b ha hb hne e
      rw [List.mem_range] at ha hb
      unfold itN at e
      exact hne (by omega)) (fun x hx => by
        obtain ⟨m, _, rfl⟩ := List.mem_map.mp hx
        exact hall m)
    rw [List.length_map, List.length_range] at h1
    omega
theorem itN_zero {h : Int} (h1 : 1 ≤ h) (h2 : h ≤ 1000000000) : itN 0 h = h := by unfold itN; omega
theorem itN_succ {h : Int} {m : Nat} : itN m (h % 1000000000 + 1) = itN (m + 1) h := by unfold itN; omega
def spNumB : Sp := fun vs H Q _ => ∃ (b u : Addr) (o : HO) (us : List Int) (k : Int), vs = [.ref b, .ref u] ∧ H b = some o ∧ BagB o k ∧ k ≤ 999990 ∧ H u = some (.lst (us.map V.int)) ∧ us.length ≤ 1000 ∧ u ≠ b ∧
  ∀ (H' : Hp) (o' : HO) (n : Int), But b H H' → H' b = some o' → BagB o' (k + 2) → 1 ≤ n → n ≤ 1000000000 → n ∉ us → Q (.int n) H'
theorem But.trans {p : Addr} {H H1 H2 : Hp} (a : But p H H1) (b : But p H1 H2) : But p H H2 := fun x o h n => b x o (a x o h n) n
theorem But.same {p : Addr} {H H1 H2 : Hp} (a : But p H H1) (b : Same H1 H2) : But p H H2 := fun x o h n => b x o (a x o h n)
theorem But.of {p : Addr} {H H1 : Hp} (b : Same H H1) : But p H H1 := fun x o h _ => b x o h
section
variable {P : Program} {w : World} {K : PySem.W.Frag} {mg : Str → Option Value} {base : Heap}
theorem ok_numB {f : Addr} {fd : FuncData} (F : C8.Def K mg "_law_number" s_law_number f fd) (b : Binds K fd ["_law_bag_here", "_law_used"] []) (T : TxTakeB mg) (c_law_take : C8.Cal P w K mg base 1 "_law_take" spTakeB []) : C8.Cal P w K mg base 2 "_law_number" spNumB [] := by
  refine C8.cal0 F b .nil fs_law_number (fun vs H Q E h => ?_) (fun cdv A outer s H vs Q E hr h => ?_)
  · obtain ⟨b, u, o, us, k, rfl, _⟩ := h
    rfl
  · obtain ⟨b, u, o, us, k, rfl, hb, bb, hk, hus, hl, nbu, q⟩ := h
    have hu := hu_of hr
    have e9 : (10 : Int) ^ Int.toNat 9 = 1000000000 := by decide
    refine ⟨_, (pss_cons (ps_set (i := 2) fs_law_number.nd rfl (Or.inl rfl) (pe_op op_add pe_int (C8.pe_c c_law_take hr (by decide) rfl (pa_cons (pv 0) (pa_cons (pe_ix ix_list (pe_lst (pa_cons pe_int (pa_cons (pe_op op_pow pe_int pe_int) pa_nil))) (C8.pe_c c_law_take hr (by decide) rfl (pa_cons (pv 0) (pa_cons pe_int pa_nil))) (fun _ _ => rfl)) pa_nil)))))
      (pss_cons (ps_while PassesOwn.never (pt_cmpR op_in_seq (pv 2) (pv 1) (by rfl))
       (pss_one (ps_set (i := 2) fs_law_number.nd rfl (Or.inl rfl) (pe_op op_add (pe_op op_mod (pe_callTy call_int1 (by rfl) T.int (by decide +kernel) (pa_cons (pv 2) pa_nil)) (pe_op op_pow pe_int pe_int)) pe_int))))
      (pss_one (ps_ret (pv 2))))), ?_⟩
    walk_at "rd"
    intro p H1 hp s1 h1
    have npb : p ≠ b := fun e => by
      rw [e, hb] at hp
      cases hp
    walk_at "rd"
    refine ⟨b, o, 2, k, rfl, s1 _ _ hb, bb, by omega, by omega, by omega, fun H2 o2 d b2 h2 bb2 hd0 hd1 => ?_⟩
    have h3 := b2 _ _ h1 npb
    obtain ⟨z, hz, z1, z2⟩ : ∃ z, atI [V.int 30, V.int (10 ^ Int.toNat 9)] d = some (.int z) ∧ 1 ≤ z ∧ z ≤ 1000000000 := by
      have : d = 0 ∨ d = 1 := by omega
      rcases this with rfl | rfl
      · exact ⟨30, rfl, by omega, by omega⟩
      · exact ⟨1000000000, by rw [e9]; rfl, by omega, by omega⟩
    refine q_ixL (SqL.of h3) hz ?_
    walk_at "rd"
    refine ⟨b, o2, z, k + 1, rfl, h2, bb2, by omega, by omega, by omega, fun H3 o3 d3 b3 h3 bb3 hd30 hd31 => ?_⟩
    have bt : But b H H3 := ((But.of s1).trans b2).trans b3
    walk_at "rd"
    obtain ⟨m0, hm0⟩ := itN_free us (1 + d3) (by omega)
    refine ⟨fun m σ H2 => ∃ n : Int, σ = [some (.ref b), some (.ref u), some (.int n)] ∧ H2 = H3 ∧ 1 ≤ n ∧ n ≤ 1000000000 ∧ itN m n ∉ us, ⟨m0, 1 + d3, rfl, rfl, by omega, by omega, hm0⟩, ?_⟩
    rintro m σ H4 ⟨n, rfl, rfl, n1, n2, hm⟩
    walk_at "rd"
    refine q_inL (SqL.of (bt _ _ hus nbu)) rfl (flat_ints us) ?_
    rw [inV_int]
    walk_at "rd"
    refine ite2 (fun h0 => ?_) (fun h0 => ?_)
    · have h0 : n ∈ us := of_decide_eq_true h0
      refine ⟨_, fun σ' H' z => z, ?_⟩
      walk_at "rd"
      cases m with
      | zero =>
        rw [itN_zero n1 n2] at hm
        exact absurd h0 hm
      | succ m =>
        refine ⟨m, Nat.lt_succ_self _, _, rfl, rfl, ?_, ?_, ?_⟩
        · rw [e9]; omega
        · rw [e9]; omega
        · rw [e9, itN_succ]; exact hm
    · have h0 : ¬ n ∈ us := fun y => h0 (decide_eq_true y)
      walk_at "rd"
      exact q _ o3 n bt h3 (bb3.mono (by omega)) n1 n2 h0
end

/-! ### the law's places -/
theorem anc_fuel {fo : Fo} : ∀ {k j : Nat} {n : Int}, reachF fo k n = true → reachF fo j n = true → anc fo k n = anc fo j n
  | 0, _, _, h, _ => by cases h
  | k + 1, j, n, h, h2 => by
    by_cases h0 : n = 0
    · rw [h0, anc_zero, anc_zero]
    · obtain ⟨k', p, e, l1, r1, a1⟩ := reach_look h h0
      obtain ⟨j', p', e', l2, r2, a2⟩ := reach_look h2 h0
      rw [l1] at l2
      cases l2
      cases e
      rw [a1, a2, anc_fuel r1 r2]
theorem anc_mem {fo : Fo} : ∀ {k : Nat} {n x : Int}, reachF fo k n = true → x ∈ anc fo k n → ∃ j, reachF fo j x = true ∧ (anc fo j x).length < (anc fo k n).length
  | 0, _, _, h, _ => by cases h
  | k + 1, n, x, h, hx => by
    by_cases h0 : n = 0
    · rw [h0, anc_zero] at hx
      cases hx
    · obtain ⟨k', p, e, l1, r1, a1⟩ := reach_look h h0
      cases e
      rw [a1] at hx ⊢
      rcases List.mem_cons.mp hx with z | z
      · subst z
        exact ⟨k, r1, by rw [List.length_cons]; omega⟩
      · obtain ⟨j, h1, h2⟩ := anc_mem r1 z
        exact ⟨j, h1, by rw [List.length_cons]; omega⟩
theorem anc_one {fo : Fo} {k : Nat} {a b : Int} (ha : reachF fo k a = true) (hb : reachF fo k b = true) (h1 : a ∈ anc fo k b) : ¬ b ∈ anc fo k a := fun h2 => by
  obtain ⟨j, r1, l1⟩ := anc_mem hb h1
  obtain ⟨i, r2, l2⟩ := anc_mem ha h2
  rw [anc_fuel r1 ha] at l1
  rw [anc_fuel r2 hb] at l2
  omega
theorem anc_look {fo : Fo} {k : Nat} {n p : Int} (h : reachF fo k n = true) (h0 : ¬ n = 0) (l : look fo n = some p) : p ∈ anc fo k n := by
  obtain ⟨k', p', e, l1, r1, a1⟩ := reach_look h h0
  rw [l] at l1
  cases l1
  rw [a1]
  exact List.mem_cons_self
theorem anc_le {fo : Fo} : ∀ {k : Nat} {n : Int}, (anc fo k n).length ≤ k
  | 0, _ => Nat.le_refl _
  | k + 1, n => by
    unfold anc
    split
    · simp
    · split
      · simp
      · rw [List.length_cons]
        exact Nat.succ_le_succ anc_le
def spAncL (K : PySem.W.Frag) : Sp := fun vs H Q _ => ∃ (d : Addr) (fo : Fo) (n : Int) (k : Nat), vs = [.ref d, .int n] ∧ H d = some (.dK (encFo fo)) ∧ reachF fo k n = true ∧ k ≤ 5000 ∧ ∀ (r : Addr) (H' : Hp), H r = none → Same H H' → H' r = some (.lst ((anc fo k n).map V.int)) → Q (.ref r) H'
def spPlaceL : Sp := fun vs H Q _ => ∃ (d : Addr) (fo : Fo) (one other : Int) (k : Nat), vs = [.ref d, .int one, .int other] ∧ H d = some (.dK (encFo fo)) ∧ reachF fo k one = true ∧ reachF fo k other = true ∧ k ≤ 5000 ∧ ∀ H', Same H H' → Q (.str (placeT fo k one other)) H'
section
variable {P : Program} {w : World} {K : PySem.W.Frag} {mg : Str → Option Value} {base : Heap}
theorem ok_ancL {f : Addr} {fd : FuncData} (F : C8.Def K mg "_law_ancestors" s_law_ancestors f fd) (b : Binds K fd ["_law_folders", "_law_folder"] []) : C8.Cal P w K mg base 1 "_law_ancestors" (spAncL K) [] := by
  refine C8.cal0 F b .nil fs_law_ancestors (fun vs H Q E h => ?_) (fun cdv A outer s H vs Q E hr h => ?_)
  · obtain ⟨d, fo, n, k, rfl, _⟩ := h
    rfl
  · obtain ⟨d, fo, n, k, rfl, hd, hre, hk, q⟩ := h
    have hu := hu_of hr
    have hsl : (1000000 : Nat) < sizeLine := by decide
    refine ⟨_, (pss_cons (ps_set (i := 2) fs_law_ancestors.nd rfl (Or.inl rfl) (pe_lst pa_nil))
      (pss_cons (ps_while PassesOwn.never (pt_cmpR op_ne (pv 1) pe_int (nomark _))
       (pss_cons (ps_set (i := 1) fs_law_ancestors.nd rfl (Or.inl rfl) (pe_dget hu (pv 0) (pv 1) (fun _ _ => rfl)))
       (pss_one (ps_expr (pe_bm PySem.F.plainAttrs_list PySem.F.slot_list_append PySem.F.type_list_append mt_append (pv 2) (pa_cons (pv 1) pa_nil))))))
      (pss_one (ps_ret (pv 2))))), ?_⟩
    walk_at "rd"
    intro r H1 hr1 s1 h1
    have o1 := (Own.start H).alloc hr1 s1 h1
    walk_at "rd"
    refine ⟨fun m σ H2 => ∃ (h : Int) (acc : List Int), σ = [some (.ref d), some (.int h), some (.ref r)] ∧ Own H H2 [(r, .lst (acc.map V.int))] ∧ reachF fo m h = true ∧ acc ++ anc fo m h = anc fo k n, ⟨k, n, [], rfl, o1, hre, rfl⟩, ?_⟩
    rintro m σ H2 ⟨h, acc, rfl, o2, hr2, he⟩
    have hlen : acc.length ≤ k := by
      have := anc_le (fo := fo) (k := k) (n := n)
      rw [← he, List.length_append] at this
      omega
    walk_at "rd"
    refine ite2 (fun h0 => ?_) (fun h0 => ?_)
    · have h0 : ¬ h = 0 := fun z => by
        rw [z] at h0
        cases h0
      obtain ⟨m', p, rfl, e1, e2, e3⟩ := reach_look hr2 h0
      refine ⟨_, fun σ' H' z => z, ?_⟩
      walk_at "rd"
      refine q_getIR (.inl (o2.old hd)) (v := .int p) (by rw [val_fo, e1]; rfl) ?_
      walk_at "rd"
      refine q_append o2.at0 (by rw [List.length_map]; omega) ?_
      intro H3 b3 h3
      have o3 := o2.put b3 h3
      walk_at "rd"
      refine ⟨m', Nat.lt_succ_self _, p, acc ++ [p], rfl, by rw [List.map_append]; exact o3, e2, ?_⟩
      rw [← he, e3, List.append_assoc]
      rfl
    · have h0 : h = 0 := by
        by_cases z : h = 0
        · exact z
        · exact absurd (by rw [decide_eq_false (by intro y; injection y with y; exact z y)]; rfl) h0
      subst h0
      rw [anc_zero, List.append_nil] at he
      walk_at "rd"
      subst he
      exact q r H2 hr1 o2.same o2.at0
theorem ok_placeL {f : Addr} {fd : FuncData} (F : C8.Def K mg "_law_place" s_law_place f fd) (b : Binds K fd ["_law_folders", "_law_one", "_law_other"] []) (c_law_ancestors : C8.Cal P w K mg base 1 "_law_ancestors" (spAncL K) []) : C8.Cal P w K mg base 2 "_law_place" spPlaceL [] := by
  refine C8.cal0 F b .nil fs_law_place (fun vs H Q E h => ?_) (fun cdv A outer s H vs Q E hr h => ?_)
  · obtain ⟨d, fo, one, other, k, rfl, _⟩ := h
    rfl
  · obtain ⟨d, fo, one, other, k, rfl, hd, hr1, hr2, hk, q⟩ := h
    have hu := hu_of hr
    refine ⟨_, (pss_cons (ps_par (i := 3) (j := 4) rfl fs_law_place.nd rfl rfl (by decide) rfl rfl (pa_cons (C8.pe_c c_law_ancestors hr (by decide) rfl (pa_cons (pv 0) (pa_cons (pv 1) pa_nil))) (pa_cons (C8.pe_c c_law_ancestors hr (by decide) rfl (pa_cons (pv 0) (pa_cons (pv 2) pa_nil))) pa_nil)) rfl)
      (pss_cons (ps_if (pt_cmpR op_eq (pv 1) (pv 2) (nomark _))
       (pss_one (ps_ret pe_str))
       pss_nil)
      (pss_cons (ps_if (pt_cmpR op_in_seq (pv 1) (pv 4) (by rfl))
       (pss_one (ps_ret (pe_ifExp (pt_cmpR op_eq (pe_ix ix_list (pv 4) pe_int (fun _ _ => rfl)) (pv 1) (nomark _)) pe_str pe_str)))
       pss_nil)
      (pss_cons (ps_if (pt_cmpR op_in_seq (pv 2) (pv 3) (by rfl))
       (pss_one (ps_ret (pe_ifExp (pt_cmpR op_eq (pe_ix ix_list (pv 3) pe_int (fun _ _ => rfl)) (pv 2) (nomark _)) pe_str pe_str)))
       pss_nil)
      (pss_one (ps_ret (pe_ifExp (pt_cmpR op_eq (pe_ix ix_list (pv 3) pe_int (fun _ _ => rfl)) (pe_ix ix_list (pv 4) pe_int (fun _ _ => rfl)) (nomark _)) pe_str pe_str))))))), ?_⟩
    walk_at "rd"
    refine ⟨d, fo, one, k, rfl, hd, hr1, hk, fun a1 H1 ha1 s1 h1 => ?_⟩
    have o1 := (Own.start H).alloc ha1 s1 h1
    walk_at "rd"
    refine ⟨d, fo, other, k, rfl, o1.old hd, hr2, hk, fun a2 H2 ha2 s2 h2 => ?_⟩
    have o2 := o1.alloc ha2 s2 h2
    have qq := q H2 o2.same
    clear q
    unfold placeT at qq
    walk_at "rd"
    refine ite2 (fun h => ?_) (fun h => ?_)
    · have h : one = other := by
        have z := of_decide_eq_true h
        injection z
      rw [if_pos h] at qq
      exact qq
    have h : ¬ one = other := fun z => h (decide_eq_true (by rw [z]))
    rw [if_neg h] at qq
    walk_at "rd"
    refine q_inL (SqL.of o2.at0) rfl (flat_ints _) ?_
    rw [inV_int]
    walk_at "rd"
    refine ite2 (fun h3 => ?_) (fun h3 => ?_)
    · have h3 : one ∈ anc fo k other := of_decide_eq_true h3
      have h0 : ¬ other = 0 := fun z => by
        rw [z, anc_zero] at h3
        cases h3
      obtain ⟨k', p, _, l1, r1, a1⟩ := reach_look hr2 h0
      have h4 : ¬ (one ≠ 0 ∧ look fo one = some other) := fun ⟨z1, z2⟩ => anc_one hr1 hr2 h3 (anc_look hr1 z1 z2)
      walk_at "rd"
      refine q_ixL (SqL.of o2.at0) (v := .int p) (by rw [a1]; exact atI_nat (j := 0) rfl) ?_
      walk_at "rd"
      rw [if_neg h4, if_pos h3, l1] at qq
      refine ite2 (fun h5 => ?_) (fun h5 => ?_)
      · have h5 : p = one := by
          have z := of_decide_eq_true h5
          injection z
        rw [if_pos ⟨h0, by rw [h5]⟩] at qq
        exact qq
      · have h5 : ¬ p = one := fun z => h5 (decide_eq_true (by rw [z]))
        rw [if_neg (fun y => h5 (Option.some.inj y.2))] at qq
        exact qq
    have h3 : ¬ one ∈ anc fo k other := fun z => h3 (decide_eq_true z)
    have h6 : ¬ (other ≠ 0 ∧ look fo other = some one) := fun ⟨z1, z2⟩ => h3 (anc_look hr2 z1 z2)
    rw [if_neg h6] at qq
    walk_at "rd"
    refine q_inL (SqL.of o2.at1) rfl (flat_ints _) ?_
    rw [inV_int]
    walk_at "rd"
    refine ite2 (fun h4 => ?_) (fun h4 => ?_)
    · have h4 : other ∈ anc fo k one := of_decide_eq_true h4
      have h0 : ¬ one = 0 := fun z => by
        rw [z, anc_zero] at h4
        cases h4
      obtain ⟨k', p, _, l1, r1, a1⟩ := reach_look hr1 h0
      walk_at "rd"
      refine q_ixL (SqL.of o2.at1) (v := .int p) (by rw [a1]; exact atI_nat (j := 0) rfl) ?_
      walk_at "rd"
      rw [if_neg h3, if_pos h4, l1] at qq
      refine ite2 (fun h5 => ?_) (fun h5 => ?_)
      · have h5 : p = other := by
          have z := of_decide_eq_true h5
          injection z
        rw [if_pos ⟨h0, by rw [h5]⟩] at qq
        exact qq
      · have h5 : ¬ p = other := fun z => h5 (decide_eq_true (by rw [z]))
        rw [if_neg (fun y => h5 (Option.some.inj y.2))] at qq
        exact qq
    have h4 : ¬ other ∈ anc fo k one := fun z => h4 (decide_eq_true z)
    have n1 : ¬ one = 0 := fun z => by
      subst z
      exact h3 (zero_anc hr2 (fun y => h y.symm))
    have n2 : ¬ other = 0 := fun z => by
      subst z
      exact h4 (zero_anc hr1 h)
    obtain ⟨k1, p1, _, l1, r1, a1⟩ := reach_look hr1 n1
    obtain ⟨k2, p2, _, l2, r2, a2⟩ := reach_look hr2 n2
    have h7 : ¬ (one ≠ 0 ∧ look fo one = some other) := fun ⟨z1, z2⟩ => h4 (anc_look hr1 z1 z2)
    rw [if_neg h7, if_neg h3, if_neg h4, l1, l2] at qq
    walk_at "rd"
    refine q_ixL (SqL.of o2.at1) (v := .int p1) (by rw [a1]; exact atI_nat (j := 0) rfl) ?_
    walk_at "rd"
    refine q_ixL (SqL.of o2.at0) (v := .int p2) (by rw [a2]; exact atI_nat (j := 0) rfl) ?_
    walk_at "rd"
    refine ite2 (fun h5 => ?_) (fun h5 => ?_)
    · have h5 : p1 = p2 := by
        have z := of_decide_eq_true h5
        injection z
      rw [if_pos (by rw [h5])] at qq
      exact qq
    · have h5 : ¬ p1 = p2 := fun z => h5 (decide_eq_true (by rw [z]))
      rw [if_neg (fun y => h5 (Option.some.inj y))] at qq
      exact qq
end

/-! ### folders put together -/
structure GoodF (fo : Fo) : Prop where
  num : ∀ p ∈ fo, 1 ≤ p.1 ∧ p.1 ≤ 1000000000
  nd : (fo.map (·.1)).Nodup
  rch : ∀ p ∈ fo, reachF fo (fo.length + 1) p.1 = true
theorem nd_rev {α : Type} {l : List α} (h : l.Nodup) : l.reverse.Nodup := by
  unfold List.Nodup
  rw [List.pairwise_reverse]
  exact h.imp fun a e => a e.symm
theorem look_none {fo : Fo} {n : Int} (h : n ∉ fo.map (·.1)) : look fo n = none := by
  unfold look
  rw [Option.map_eq_none_iff, List.find?_eq_none]
  intro p hp e
  exact h (List.mem_map.mpr ⟨p, hp, of_decide_eq_true e⟩)
theorem look_mem {fo : Fo} {n p : Int} (h : look fo n = some p) : (n, p) ∈ fo := by
  unfold look at h
  cases e : fo.find? fun p => decide (p.1 = n) with
  | none => rw [e] at h; cases h
  | some q =>
    rw [e] at h
    have h1 : q.1 = n := of_decide_eq_true (List.find?_some (p := fun p : Int × Int => decide (p.1 = n)) e)
    have h2 : q.2 = p := Option.some.inj h
    have h3 := List.mem_of_find?_eq_some e
    rw [← h1, ← h2]
    exact h3
theorem mem_look {fo : Fo} {n p : Int} (nd : (fo.map (·.1)).Nodup) (h : (n, p) ∈ fo) : look fo n = some p := by
  unfold look
  induction fo with
  | nil => cases h
  | cons q r ih =>
    obtain ⟨n1, n2⟩ := List.nodup_cons.mp nd
    rcases List.mem_cons.mp h with e | h
    · subst e
      rw [List.find?_cons, decide_eq_true rfl]
      rfl
    · have hne : ¬ q.1 = n := fun e => n1 (List.mem_map.mpr ⟨(n, p), h, e.symm⟩)
      rw [List.find?_cons, decide_eq_false hne]
      exact ih n2 h
theorem key_look {fo : Fo} {n : Int} (h : n ∈ fo.map (·.1)) : ∃ p, look fo n = some p := by
  cases e : look fo n with
  | some p => exact ⟨p, rfl⟩
  | none =>
    exfalso
    unfold look at e
    rw [Option.map_eq_none_iff, List.find?_eq_none] at e
    obtain ⟨p, hp, e2⟩ := List.mem_map.mp h
    exact e p hp (decide_eq_true e2)
theorem look_key {fo : Fo} {n p : Int} (h : look fo n = some p) : n ∈ fo.map (·.1) := List.mem_map.mpr ⟨_, look_mem h, rfl⟩
theorem look_app {fo x : Fo} {n p : Int} (h : look fo n = some p) : look (fo ++ x) n = some p := by
  unfold look at h ⊢
  cases e : fo.find? fun p => decide (p.1 = n) with
  | none => rw [e] at h; cases h
  | some q => rw [List.find?_append, e]; rw [e] at h; exact h
theorem look_new {fo : Fo} {n p : Int} (h : n ∉ fo.map (·.1)) : look (fo ++ [(n, p)]) n = some p := by
  unfold look
  rw [List.find?_append]
  have e := look_none h
  unfold look at e
  rw [Option.map_eq_none_iff] at e
  rw [e]
  simp
theorem reach_app {fo x : Fo} : ∀ {k : Nat} {n : Int}, reachF fo k n = true → reachF (fo ++ x) k n = true
  | 0, _, h => by cases h
  | k + 1, n, h => by
    by_cases h0 : n = 0
    · unfold reachF
      rw [if_pos h0]
    · obtain ⟨k', p, e, l1, r1, _⟩ := reach_look h h0
      cases e
      unfold reachF
      rw [if_neg h0, look_app l1]
      exact reach_app r1
theorem reach_fuel {fo : Fo} : ∀ {k j : Nat} {n : Int}, k ≤ j → reachF fo k n = true → reachF fo j n = true
  | 0, _, _, _, h => by cases h
  | k + 1, 0, _, hl, _ => by omega
  | k + 1, j + 1, n, hl, h => by
    by_cases h0 : n = 0
    · unfold reachF
      rw [if_pos h0]
    · obtain ⟨k', p, e, l1, r1, _⟩ := reach_look h h0
      cases e
      unfold reachF
      rw [if_neg h0, l1]
      exact reach_fuel (by omega) r1
theorem reach_zero {fo : Fo} {k : Nat} : reachF fo (k + 1) 0 = true := by
  unfold reachF
  rw [if_pos rfl]
theorem GoodF.key {fo : Fo} (g : GoodF fo) {n : Int} (h : n = 0 ∨ n ∈ fo.map (·.1)) : reachF fo (fo.length + 1) n = true := by
  rcases h with h | h
  · rw [h]; exact reach_zero
  · obtain ⟨p, hp, rfl⟩ := List.mem_map.mp h
    exact g.rch p hp
theorem GoodF.nil : GoodF [] := ⟨fun _ h => (nomatch h), List.nodup_nil, fun _ h => (nomatch h)⟩
theorem GoodF.add {fo : Fo} (g : GoodF fo) {n p : Int} (h1 : 1 ≤ n) (h2 : n ≤ 1000000000) (hn : n ∉ fo.map (·.1)) (hp : p = 0 ∨ p ∈ fo.map (·.1)) : GoodF (fo ++ [(n, p)]) := by
  refine ⟨fun q hq => ?_, ?_, fun q hq => ?_⟩
  · rcases List.mem_append.mp hq with h | h
    · exact g.num q h
    · rw [List.mem_singleton.mp h]; exact ⟨h1, h2⟩
  · rw [List.map_append]
    refine List.nodup_append.mpr ⟨g.nd, by simp, fun a ha b hb => ?_⟩
    rw [List.map_cons, List.map_nil, List.mem_singleton] at hb
    rintro rfl
    have hb : a = n := hb
    exact hn (by rw [← hb]; exact ha)
  · have el : (fo ++ [(n, p)]).length + 1 = (fo.length + 1) + 1 := by rw [List.length_append]; rfl
    rw [el]
    rcases List.mem_append.mp hq with h | h
    · exact reach_fuel (Nat.le_succ _) (reach_app (g.rch q h))
    · rw [List.mem_singleton.mp h]
      show reachF _ _ n = true
      unfold reachF
      rw [if_neg (by omega), look_new hn]
      exact reach_app (g.key hp)
theorem look_rev {fo : Fo} (nd : (fo.map (·.1)).Nodup) (n : Int) : look fo.reverse n = look fo n := by
  have nd2 : (fo.reverse.map (·.1)).Nodup := by rw [List.map_reverse]; exact nd_rev nd
  cases e : look fo n with
  | some p => exact mem_look nd2 (List.mem_reverse.mpr (look_mem e))
  | none =>
    cases e2 : look fo.reverse n with
    | none => rfl
    | some p =>
      rw [mem_look nd (List.mem_reverse.mp (look_mem e2))] at e
      cases e
theorem reach_congr {fo fo' : Fo} (h : ∀ n, look fo n = look fo' n) : ∀ (k : Nat) (n : Int), reachF fo k n = reachF fo' k n
  | 0, _ => rfl
  | k + 1, n => by
    unfold reachF
    rw [h n]
    split
    · rfl
    · split
      · rfl
      · exact reach_congr h k _
theorem GoodF.rev {fo : Fo} (g : GoodF fo) : GoodF fo.reverse := by
  refine ⟨fun p hp => g.num p (List.mem_reverse.mp hp), by rw [List.map_reverse]; exact nd_rev g.nd, fun p hp => ?_⟩
  rw [List.length_reverse, reach_congr (look_rev g.nd)]
  exact g.rch p (List.mem_reverse.mp hp)
theorem keys_fo (fo : Fo) : ((encFo fo).map fun kv => kV kv.1) = (fo.map (·.1)).map V.int := by
  unfold encFo
  rw [List.map_map, List.map_map]
  rfl
theorem keys_fl {B : Hp} : ∀ {kvs : List (Key × V)} {fl : Fl}, Paired (FileV B) kvs fl → (kvs.map fun kv => kV kv.1) = (fl.map (·.1)).map V.int
  | _, _, .nil => rfl
  | _, _, .cons h t => by
    rw [List.map_cons, List.map_cons, List.map_cons, keys_fl t, h.1]
    rfl
theorem put_fo {fo : Fo} {n p : Int} (h : n ∉ fo.map (·.1)) : putK (encFo fo) (.inl n) (.int p) = encFo (fo ++ [(n, p)]) := by
  rw [putK_new]
  · unfold encFo
    rw [List.map_append]
    rfl
  · rw [val_fo, look_none h]
    rfl
structure GoodL (fo : Fo) (fl : Fl) : Prop where
  numl : ∀ q ∈ fl, 1 ≤ q.1 ∧ q.1 ≤ 1000000000
  dis : ∀ q ∈ fl, q.1 ∉ fo.map (·.1)
  spo : ∀ q ∈ fl, q.2 ≠ [] ∧ q.2.Nodup ∧ q.2.length ≤ 1000 ∧ ∀ s ∈ q.2, s = 0 ∨ s ∈ fo.map (·.1)
  ndl : (fl.map (·.1)).Nodup
theorem GoodL.nil {fo : Fo} : GoodL fo [] := ⟨fun _ h => (nomatch h), fun _ h => (nomatch h), fun _ h => (nomatch h), List.nodup_nil⟩
theorem GoodL.add {fo : Fo} {fl : Fl} (g : GoodL fo fl) {n : Int} {ss : List Int} (h1 : 1 ≤ n) (h2 : n ≤ 1000000000) (hn : n ∉ fo.map (·.1)) (hl : n ∉ fl.map (·.1)) (s1 : ss ≠ []) (s2 : ss.Nodup) (s3 : ss.length ≤ 1000) (s4 : ∀ s ∈ ss, s = 0 ∨ s ∈ fo.map (·.1)) : GoodL fo (fl ++ [(n, ss)]) := by
  refine ⟨fun q hq => ?_, fun q hq => ?_, fun q hq => ?_, ?_⟩
  · rcases List.mem_append.mp hq with h | h
    · exact g.numl q h
    · rw [List.mem_singleton.mp h]; exact ⟨h1, h2⟩
  · rcases List.mem_append.mp hq with h | h
    · exact g.dis q h
    · rw [List.mem_singleton.mp h]; exact hn
  · rcases List.mem_append.mp hq with h | h
    · exact g.spo q h
    · rw [List.mem_singleton.mp h]; exact ⟨s1, s2, s3, s4⟩
  · rw [List.map_append]
    refine List.nodup_append.mpr ⟨g.ndl, by simp, fun a ha b hb => ?_⟩
    rw [List.map_cons, List.map_nil, List.mem_singleton] at hb
    rintro rfl
    have hb : a = n := hb
    exact hl (by rw [← hb]; exact ha)
theorem GoodL.rev {fo : Fo} {fl : Fl} (g : GoodL fo fl) : GoodL fo.reverse fl := by
  have e : ∀ n, n ∈ fo.reverse.map (·.1) ↔ n ∈ fo.map (·.1) := fun n => by rw [List.map_reverse, List.mem_reverse]
  exact ⟨g.numl, fun q hq h => g.dis q hq ((e _).mp h), fun q hq => ⟨(g.spo q hq).1, (g.spo q hq).2.1, (g.spo q hq).2.2.1, fun s hs => ((g.spo q hq).2.2.2 s hs).imp id (e _).mpr⟩, g.ndl⟩
theorem goodT {fo : Fo} {fl : Fl} (g : GoodF fo) (l : GoodL fo fl) (few : fo.length ≤ 1000) (fewl : fl.length ≤ 1000) : GoodT fo fl where
  num := g.num
  numl := l.numl
  dis := fun q hq => look_none (l.dis q hq)
  rch := g.rch
  spo := fun q hq => ⟨(l.spo q hq).1, (l.spo q hq).2.1, (l.spo q hq).2.2.1, fun s hs => ((l.spo q hq).2.2.2 s hs).imp id fun h => by
    obtain ⟨p, e⟩ := key_look h
    rw [e]; rfl⟩
  few := few
  fewl := fewl
  nd := g.nd
  ndl := l.ndl

/-! ### the law's trees -/
structure TxTreeB (mg : Str → Option Value) : Prop where
  dict : Free mg "dict"
  len : Free mg "len"
  list : Free mg "list"
  range : Free mg "range"
def spTreeB : Sp := fun vs H Q _ => ∃ (B : Hp) (b : Addr) (o : HO) (most more : Nat) (k : Int), vs = [.ref b, .int most, .int more] ∧ Same B H ∧ H b = some o ∧ B b = none ∧ BagB o k ∧ 0 ≤ k ∧ k ≤ 900000 ∧ most ≤ 50 ∧ more ≤ 10 ∧
  ∀ (B' H' : Hp) (o' : HO) (t d e : Addr) (fo : Fo) (fl : Fl) (kvs : List (Key × V)), Grow [b] B H B' H' → H' b = some o' → BagB o' (k + 5000) → B' b = none → H' t = some (.tup [.ref d, .ref e]) → B' d = some (.dK (encFo fo)) → B' e = some (.dK kvs) → d ≠ e → Paired (FileV B') kvs fl → GoodT fo fl → H t = none →
    fo.length ≤ most → fl.length ≤ more → (kvs.map (·.2)).Nodup → Q (.ref t) H'
/-- a part of a list of whole numbers -/
def cutI (xs : List Int) (lo hi : Option Int) : List Int := (xs.drop (HT.sIx xs.length 0 lo)).take (HT.sIx xs.length xs.length hi - HT.sIx xs.length 0 lo)
theorem cutV_map (xs : List Int) (lo hi : Option Int) : cutV (xs.map V.int) lo hi = (cutI xs lo hi).map V.int := by
  unfold cutV cutI
  rw [List.map_take, List.map_drop, List.length_map]
theorem cutI_mem {x : Int} {xs : List Int} {lo hi : Option Int} (h : x ∈ cutI xs lo hi) : x ∈ xs := List.mem_of_mem_drop (List.mem_of_mem_take h)
theorem cutI_len (xs : List Int) (lo hi : Option Int) : (cutI xs lo hi).length ≤ xs.length := by
  unfold cutI
  rw [List.length_take, List.length_drop]
  omega
theorem valV_none {kvs : List (Key × V)} {k : Key} (h : k ∉ kvs.map (·.1)) : valV kvs k = none := by
  cases y : valV kvs k with
  | none => rfl
  | some u =>
    exfalso
    unfold valV at y
    cases y2 : kvs.find? fun kv => decide (kv.1 = k) with
    | none => rw [y2] at y; cases y
    | some kv =>
      have y3 : kv.1 = k := of_decide_eq_true (List.find?_some (p := fun kv : Key × V => decide (kv.1 = k)) y2)
      exact h (List.mem_map.mpr ⟨kv, List.mem_of_find?_eq_some y2, y3⟩)
theorem merge_nd : ∀ (more kvs : List (Key × V)), ((kvs ++ more).map (·.1)).Nodup → mergeK kvs more = kvs ++ more
  | [], kvs, _ => by rw [List.append_nil]; rfl
  | p :: r, kvs, nd => by
    have e : mergeK kvs (p :: r) = mergeK (putK kvs p.1 p.2) r := rfl
    have hn : p.1 ∉ kvs.map (·.1) := fun h => by
      rw [List.map_append] at nd
      exact (List.nodup_append.mp nd).2.2 _ h p.1 (by simp) rfl
    rw [e, putK_new _ (valV_none hn), merge_nd r (kvs ++ [(p.1, p.2)]) (by rw [List.append_assoc]; exact nd), List.append_assoc]
    rfl
theorem keysN_fo {fo : Fo} (nd : (fo.map (·.1)).Nodup) : ((encFo fo).map (·.1)).Nodup := by
  unfold encFo
  rw [List.map_map]
  have e : (fo.map ((·.1) ∘ fun p => ((Sum.inl p.1 : Key), V.int p.2))) = (fo.map (·.1)).map Sum.inl := by rw [List.map_map]; rfl
  rw [e]
  exact List.Pairwise.map _ (fun a b h z => h (Sum.inl.inj z)) nd
/-- a list of pairs -/
theorem pairsL {K : PySem.W.Frag} {B H : Hp} (s : Same B H) : ∀ {ws : List V} {fo : Fo}, Paired (fun (v : V) (p : Int × Int) => ∃ t, v = .ref t ∧ B t = some (.tup [.int p.1, .int p.2])) ws fo → ∃ ps : List Addr, ws = ps.map V.ref ∧ Paired (fun p kv => SqT K H p [kV kv.1, kv.2]) ps (encFo fo)
  | _, [], .nil => ⟨[], rfl, .nil⟩
  | _, p :: r, .cons ⟨t, h1, h2⟩ tl => by
    obtain ⟨ps, e1, e2⟩ := pairsL s tl
    exact ⟨t :: ps, by rw [h1, e1]; rfl, .cons (SqT.of (s _ _ h2)) e2⟩
def kRev (K : PySem.W.Frag) (Q : VK) (x : V) (H : Hp) : Prop := ∃ a xs, x = .ref a ∧ SqL K H a xs ∧ ∀ p, H p = none → Q (.ref p) (upd H p (.lst xs.reverse))
theorem q_revL {K : PySem.W.Frag} {σ : L2.St} {H : Hp} {Q : VK} {te : TE} (q : te σ H fun x H1 => kRev K Q x H1) : tRevL K te σ H Q := q
theorem atI_ints {ss : List Int} {j : Int} (h0 : 0 ≤ j) (h1 : j < ss.length) : ∃ z, atI (ss.map V.int) j = some (.int z) ∧ z ∈ ss := by
  obtain ⟨m, rfl⟩ : ∃ m : Nat, j = (m : Int) := ⟨j.toNat, by omega⟩
  have hm : m < ss.length := by omega
  exact ⟨ss[m], atI_nat (by rw [List.getElem?_map, List.getElem?_eq_getElem hm]; rfl), List.getElem_mem _⟩
section
variable {P : Program} {w : World} {K : PySem.W.Frag} {mg : Str → Option Value} {base : Heap}
theorem ok_treeB {f : Addr} {fd : FuncData} (F : C8.Def K mg "_law_tree" s_law_tree f fd) (b : Binds K fd ["_law_bag_here", "_law_most", "_law_more"] []) (T : TxTreeB mg) (c_law_take : C8.Cal P w K mg base 1 "_law_take" spTakeB []) (c_law_number : C8.Cal P w K mg base 2 "_law_number" spNumB []) : C8.Cal P w K mg base 3 "_law_tree" spTreeB [] := by
  refine C8.cal0 F b .nil fs_law_tree (fun vs H Q E h => ?_) (fun cdv A outer s H vs Q E hr h => ?_)
  · obtain ⟨B, b, o, most, more, k, rfl, _⟩ := h
    rfl
  · obtain ⟨B, b, o, most, more, k, rfl, hB, hb, hBb, bb, hk0, hk, hmost, hmore, q⟩ := h
    have hu := hu_of hr
    have hsl : (1000000 : Nat) < sizeLine := by decide
    refine ⟨_, (pss_cons (ps_asg (pe_tup (pa_cons pe_dnewK (pa_cons pe_dnewK pa_nil))) (pg_tup rfl (pgs_cons (pg_name (i := 3) fs_law_tree.nd rfl (Or.inr rfl)) (pgs_cons (pg_name (i := 4) fs_law_tree.nd rfl (Or.inl rfl)) pgs_nil))))
      (pss_cons (ps_set (i := 5) fs_law_tree.nd rfl (Or.inl rfl) (C8.pe_c c_law_take hr (by decide) rfl (pa_cons (pv 0) (pa_cons pe_int pa_nil))))
      (pss_cons (ps_for PassesOwn.never rfl (pi_range1 rfl T.range (pa_cons (C8.pe_c c_law_take hr (by decide) rfl (pa_cons (pv 0) (pa_cons (pe_op op_add (pv 1) pe_int) pa_nil))) pa_nil)) (pg_name (i := 6) fs_law_tree.nd rfl (Or.inl rfl))
       (C8.pss_cut (ps_set (i := 7) fs_law_tree.nd rfl (Or.inl rfl) (pe_ix ix_list (pe_lst (pa_cons (pe_op op_cat (pe_lst (pa_cons pe_int pa_nil)) (pe_callTy (call_list_dK rfl) (by rfl) T.list (by decide +kernel) (pa_cons (pv 3) pa_nil))) (pa_cons (pe_slice sl_list (pe_op op_cat (pe_lst (pa_cons pe_int pa_nil)) (pe_callTy (call_list_dK rfl) (by rfl) T.list (by decide +kernel) (pa_cons (pv 3) pa_nil))) (po_some (pe_un un_neg pe_int)) po_none) (pa_cons (pe_op op_cat (pe_lst (pa_cons pe_int pa_nil)) (pe_slice sl_list (pe_callTy (call_list_dK rfl) (by rfl) T.list (by decide +kernel) (pa_cons (pv 3) pa_nil)) po_none (po_some pe_int))) pa_nil)))) (pv 5) (fun _ _ => rfl)))
       (pss_cons (ps_set (i := 8) fs_law_tree.nd rfl (Or.inl rfl) (C8.pe_c c_law_number hr (by decide) rfl (pa_cons (pv 0) (pa_cons (pe_op op_cat (pe_callTy (call_list_dK rfl) (by rfl) T.list (by decide +kernel) (pa_cons (pv 3) pa_nil)) (pe_lst (pa_cons pe_int pa_nil))) pa_nil))))
       (pss_one (ps_dput hu (pv 3) (pv 8) (pe_ix ix_list (pv 7) (C8.pe_c c_law_take hr (by decide) rfl (pa_cons (pv 0) (pa_cons (pe_callB call_len_seq (by rfl) T.len (by decide +kernel) (pa_cons (pv 7) pa_nil)) pa_nil))) (fun _ _ => rfl)) rfl)))))
      (pss_cons (ps_for PassesOwn.never rfl (pi_range1 rfl T.range (pa_cons (C8.pe_c c_law_take hr (by decide) rfl (pa_cons (pv 0) (pa_cons (pe_op op_add (pv 2) pe_int) pa_nil))) pa_nil)) (pg_name (i := 6) fs_law_tree.nd rfl (Or.inl rfl))
       (pss_cons (ps_setLc (i := 7) (own := [("_law_folder", 9)]) (g := gName 9) rfl fs_law_tree.nd rfl rfl (sw_true rfl rfl rfl (by decide +kernel)) (pi_list (pe_op op_cat (pe_lst (pa_cons pe_int pa_nil)) (pe_callTy (call_list_dK rfl) (by rfl) T.list (by decide +kernel) (pa_cons (pv 3) pa_nil)))) (blkOk_by (own := [("_law_folder", 9)]) (N := nm_law_tree) (sc := sc_law_tree) (by decide +kernel)) (fun _ _ _ _ _ => (pg_name (i := 9) fs_law_tree.nd rfl (Or.inl rfl))) (fun _ _ _ _ _ => (pts_one (pt_cmpR op_eq (C8.pe_c c_law_take hr (by decide) rfl (pa_cons (pv 0) (pa_cons pe_int pa_nil))) pe_int (nomark _)))) (fun _ _ _ _ _ => (pv 9)))
       (pss_cons (ps_set (i := 8) fs_law_tree.nd rfl (Or.inl rfl) (C8.pe_c c_law_number hr (by decide) rfl (pa_cons (pv 0) (pa_cons (pe_op op_cat (pe_op op_cat (pe_callTy (call_list_dK rfl) (by rfl) T.list (by decide +kernel) (pa_cons (pv 3) pa_nil)) (pe_callTy (call_list_dK rfl) (by rfl) T.list (by decide +kernel) (pa_cons (pv 4) pa_nil))) (pe_lst (pa_cons pe_int pa_nil))) pa_nil))))
       (pss_one (ps_dput hu (pv 4) (pv 8) (pe_join1 (pe_ifExp (pt_cmpR (op_neD hr.units) (pv 7) (pe_lst pa_nil) (nomark _)) (pv 7) (pe_lst (pa_cons (pe_ix ix_list (pe_op op_cat (pe_lst (pa_cons pe_int pa_nil)) (pe_callTy (call_list_dK rfl) (by rfl) T.list (by decide +kernel) (pa_cons (pv 3) pa_nil))) (C8.pe_c c_law_take hr (by decide) rfl (pa_cons (pv 0) (pa_cons (pe_op op_add pe_int (pe_callB call_lenR (by rfl) T.len (by decide +kernel) (pa_cons (pv 3) pa_nil))) pa_nil))) (fun _ _ => rfl)) pa_nil)))) rfl)))))
      (C8.pss_cut (ps_if (pt_cmpR op_eq (C8.pe_c c_law_take hr (by decide) rfl (pa_cons (pv 0) (pa_cons pe_int pa_nil))) pe_int (nomark _))
       (pss_one (ps_set (i := 3) fs_law_tree.nd rfl (Or.inr rfl) (pe_callTy (call_dictP rfl) (by rfl) T.dict (by decide +kernel) (pa_cons (pe_lc (own := [("_law_number_here", 8)]) (g := gName 8) rfl fs_law_tree.nd (pi_list (pe_revL (pe_callTy (call_list_dK rfl) (by rfl) T.list (by decide +kernel) (pa_cons (pv 3) pa_nil)))) (blkOk_by (own := [("_law_number_here", 8)]) (N := nm_law_tree) (sc := sc_law_tree) (by decide +kernel)) (fun _ _ _ _ _ => (pg_name (i := 8) fs_law_tree.nd rfl (Or.inl rfl))) (fun _ _ _ _ _ => pts_nil) (fun _ _ _ _ _ => (pe_tup (pa_cons (pv 8) (pa_cons (pe_dget hu (pv 3) (pv 8) (fun _ _ => rfl)) pa_nil))))) pa_nil))))
       pss_nil)
      (pss_one (ps_ret (pe_tup (pa_cons (pv 3) (pa_cons (pv 4) pa_nil)))))))))), ?_⟩
    have f0 : Fs [b] B H B H [(b, o)] := Fs.start1 hB hb hBb
    walk_at "rd"
    intro d H1 hd s1 h1
    have hd0 := f0.fresh1 hd
    have f1 := (f0.mut hd s1 h1 hd0).swap
    walk_at "rd"
    intro e H2 he s2 h2
    have he0 := f1.fresh1 he
    have f2 := (f1.mut he s2 h2 he0).rot.rot
    walk_at "rd"
    intro t0 H3 ht0 s3 h3
    have f3 := f2.ext s3
    walk_at "rd"
    refine ⟨b, o, 3, k, rfl, f3.at0, bb, by omega, by omega, by omega, fun H4 o4 way b4 h4 bb4 hw0 hw1 => ?_⟩
    have f4 := f3.put b4 h4
    clear f3 f2 f1 h3 h2 h1 s3 s2 s1 b4 bb
    walk_at "rd"
    refine ⟨b, o4, _, k + 1, rfl, f4.at0, bb4, by omega, by omega, by omega, fun H5 o5 cnt b5 h5 bb5 hc0 hc1 => ?_⟩
    have f5 := f4.put b5 h5
    clear f4 h4 h5 b5 bb4
    walk_at "rd"
    refine for_it walk_range (fun i σ Hc => ∃ (oc : HO) (fo : Fo) (x6 x7 x8 : Option V), σ = [some (.ref b), some (.int most), some (.int more), some (.ref d), some (.ref e), some (.int way), x6, x7, x8, none] ∧ Fs [b] B H B Hc [(b, oc), (d, .dK (encFo fo)), (e, .dK [])] ∧ BagB oc (k + 2 + 3 * i) ∧ GoodF fo ∧ fo.length = i)
      ⟨o5, [], _, _, _, rfl, f5, bb5.mono (by omega), GoodF.nil, rfl⟩ (fun _ _ _ _ _ => trivial) ?_ ?_
    · rintro i x σ H6 H7 hi ⟨oc, fo, x6, x7, x8, rfl, f6, bb6, gf, hl⟩ ⟨rfl, rfl⟩
      walk_at "rd"
      refine q_cut (fun σ' H' => ∃ (r : Addr) (ss : List Int), σ' = [some (.ref b), some (.int most), some (.int more), some (.ref d), some (.ref e), some (.int way), some (.int (0 + (i : Int))), some (.ref r), x8, none] ∧ Fs [b] B H B H' [(b, oc), (d, .dK (encFo fo)), (e, .dK [])] ∧ H' r = some (.lst (ss.map V.int)) ∧ r ≠ b ∧ ss ≠ [] ∧ ss.length ≤ fo.length + 1 ∧ ∀ z ∈ ss, z = 0 ∨ z ∈ fo.map (·.1)) ?_ ?_
      · have hlk : ((encFo fo).map fun kv => kV kv.1) = (fo.map (·.1)).map V.int := keys_fo fo
        have nb : ∀ {r : Addr} {G : Hp}, Fs [b] B H B G [(b, oc), (d, .dK (encFo fo)), (e, .dK [])] → G r = none → r ≠ b := fun {r G} f h z => by
          have y := f.at0
          rw [← z, h] at y
          cases y
        have hlf : ((encFo fo).map fun kv => kV kv.1).length ≤ 60 := by rw [hlk, List.length_map, List.length_map]; omega
        generalize hks : ((encFo fo).map fun kv => kV kv.1) = ks at hlk hlf
        walk_at "rd"
        intro r1 G1 hr1 t1 g1
        have f7 := f6.ext t1
        walk_at "rd"
        refine ⟨d, _, rfl, f7.at1, fun r2 hr2 => ?_⟩
        rw [hks]
        have t2 : Same G1 (upd G1 r2 (.lst ks)) := same_new hr2
        have f8 := f7.ext t2
        refine q_cat (t2 _ _ g1) upd_same (by rw [List.length_singleton]; omega) ?_
        intro r3 G3 hr3 t3 g3
        have n3 := nb f8 hr3
        have f9 := f8.ext t3
        clear f7 f8 t2 g1 t1 hr3
        walk_at "rd"
        intro r4 G4 hr4 t4 g4
        have f10 := f9.ext t4
        walk_at "rd"
        refine ⟨d, _, rfl, f10.at1, fun r5 hr5 => ?_⟩
        rw [hks]
        have t5 : Same G4 (upd G4 r5 (.lst ks)) := same_new hr5
        have f11 := f10.ext t5
        refine q_cat (t5 _ _ g4) upd_same (by rw [List.length_singleton]; omega) ?_
        intro r6 G6 hr6 t6 g6
        have f12 := f11.ext t6
        have g3' := t6 _ _ (t5 _ _ (t4 _ _ g3))
        clear f9 f10 f11 t5 g4 t4 hr6 t6 g3
        walk_at "rd"
        intro r7 G7 hr7 t7 g7
        have n7 := nb f12 hr7
        have f13 := f12.ext t7
        have g3 := t7 _ _ g3'
        clear f12 g3' t7
        walk_at "rd"
        intro r8 G8 hr8 t8 g8
        have f14 := f13.ext t8
        walk_at "rd"
        refine ⟨d, _, rfl, f14.at1, fun r9 hr9 => ?_⟩
        rw [hks]
        have t9 : Same G8 (upd G8 r9 (.lst ks)) := same_new hr9
        have f15 := f14.ext t9
        walk_at "rd"
        refine q_slL (SqL.of upd_same) ?_
        intro r10 G10 hr10 t10 g10
        have f16 := f15.ext t10
        refine q_cat (t10 _ _ (t9 _ _ g8)) g10 (by
          have h1 := cutV_length ks none (some 2)
          rw [List.length_singleton]; omega) ?_
        intro r11 G11 hr11 t11 g11
        have n11 := nb f16 hr11
        have f17 := f16.ext t11
        have g3' := t11 _ _ (t10 _ _ (t9 _ _ (t8 _ _ g3)))
        have g7' := t11 _ _ (t10 _ _ (t9 _ _ (t8 _ _ g7)))
        clear g3 g7 f13 f14 f15 f16 t11 t10 t9 t8 g8 g10
        walk_at "rd"
        intro r12 G12 hr12 t12 g12
        have f18 := f17.ext t12
        have g3 := t12 _ _ g3'
        have g7 := t12 _ _ g7'
        have g11' := t12 _ _ g11
        walk_at "rd"
        subst hlk
        have e3 : ([V.int 0] ++ (fo.map (·.1)).map V.int) = (0 :: fo.map (·.1)).map V.int := rfl
        rw [e3] at g3 g7
        rw [cutV_map] at g7 g11'
        have e11 : [V.int 0] ++ (cutI (fo.map (·.1)) none (some 2)).map V.int = (0 :: cutI (fo.map (·.1)) none (some 2)).map V.int := rfl
        rw [e11] at g11'
        have hm : ∀ z ∈ (0 :: fo.map (·.1) : List Int), z = 0 ∨ z ∈ fo.map (·.1) := fun z h => List.mem_cons.mp h
        obtain ⟨r, ss, hat, hrr, hnb, hne, hsl2, hss⟩ : ∃ (r : Addr) (ss : List Int), atI [V.ref r3, V.ref r7, V.ref r11] way = some (.ref r) ∧ G12 r = some (.lst (ss.map V.int)) ∧ r ≠ b ∧ ss ≠ [] ∧ ss.length ≤ fo.length + 1 ∧ ∀ z ∈ ss, z = 0 ∨ z ∈ fo.map (·.1) := by
          have hc : way = 0 ∨ way = 1 ∨ way = 2 := by omega
          rcases hc with rfl | rfl | rfl
          · exact ⟨r3, _, rfl, g3, n3, by simp, by rw [List.length_cons, List.length_map]; omega, hm⟩
          · refine ⟨r7, _, rfl, g7, n7, ?_, ?_, fun z hz => hm z (cutI_mem hz)⟩
            · intro z
              have y := congrArg List.length z
              unfold cutI HT.sIx at y
              rw [List.length_take, List.length_drop, List.length_cons] at y
              simp at y
              omega
            · refine Nat.le_trans (cutI_len _ _ _) ?_
              rw [List.length_cons, List.length_map]; omega
          · refine ⟨r11, _, rfl, g11', n11, by simp, ?_, ?_⟩
            · rw [List.length_cons]
              have := cutI_len (fo.map (·.1)) none (some 2)
              rw [List.length_map] at this
              omega
            · intro z hz
              rcases List.mem_cons.mp hz with hz | hz
              · exact .inl hz
              · exact .inr (cutI_mem hz)
        refine q_ixL (SqL.of g12) hat ?_
        walk_at "rd"
        exact ⟨r, ss, rfl, f18, hrr, hnb, hne, hsl2, hss⟩
      rintro σ' H8 ⟨r, ss, rfl, f7, hrr, hnb, hne, hsl2, hss⟩
      clear f6
      have hlk := keys_fo fo
      walk_at "rd"
      refine ⟨d, _, rfl, f7.at1, fun r2 hr2 => ?_⟩
      rw [hlk]
      have t2 : Same H8 (upd H8 r2 (.lst ((fo.map (·.1)).map V.int))) := same_new hr2
      have f8 := f7.ext t2
      walk_at "rd"
      intro r3 G3 hr3 t3 g3
      have f9 := f8.ext t3
      refine q_cat (t3 _ _ upd_same) g3 (by rw [List.length_map, List.length_map, List.length_singleton]; omega) ?_
      intro r4 G4 hr4 t4 g4
      have n4 : r4 ≠ b := fun z => by
        have y := f9.at0
        rw [← z, hr4] at y
        cases y
      have f10 := f9.ext t4
      walk_at "rd"
      have e4 : (fo.map (·.1)).map V.int ++ [V.int 0] = ((fo.map fun p : Int × Int => p.1) ++ [0]).map V.int := by rw [List.map_append]; rfl
      rw [e4] at g4
      refine ⟨b, r4, oc, _, _, rfl, f10.at0, bb6, by omega, g4, by rw [List.length_append, List.length_map, List.length_singleton]; omega, n4, fun H11 o11 n b11 h11 bb11 hn1 hn2 hn => ?_⟩
      have f11 := f10.put b11 h11
      have hrr2 : H11 r = some (.lst (ss.map V.int)) := b11 _ _ (t4 _ _ (t3 _ _ (t2 _ _ hrr))) hnb
      have hnk : n ∉ fo.map (·.1) := fun z => hn (List.mem_append_left _ z)
      clear f7 f8 f9 f10 t4 t3 t2 b11
      walk_at "rd"
      refine ⟨b, o11, _, _, rfl, f11.at0, bb11, by omega, ?_, ?_, fun H12 o12 j b12 h12 bb12 hj0 hj1 => ?_⟩
      · rw [List.length_map]
        have := List.length_pos_iff.mpr hne
        omega
      · rw [List.length_map]; omega
      have f12 := f11.put b12 h12
      have hrr3 := b12 _ _ hrr2 hnb
      rw [List.length_map] at hj1
      obtain ⟨z, hz1, hz2⟩ := atI_ints (ss := ss) hj0 hj1
      refine q_ixL (SqL.of hrr3) hz1 ?_
      walk_at "rd"
      refine q_putI f12.at1 (by unfold encFo; rw [List.length_map]; omega) ?_
      intro H13 b13 h13
      have f13 := f12.put1 b13 h13
      rw [put_fo hnk] at f13
      walk_at "rd"
      refine ⟨o12, _, _, _, _, rfl, f13, bb12.mono (by omega), gf.add hn1 hn2 hnk (hss z hz2), by rw [List.length_append, hl]; rfl⟩
    rintro σ H6 ⟨oc, fo, x6, x7, x8, rfl, f6, bb6, gf, hl⟩
    walk_at "rd"
    refine ⟨b, oc, _, _, rfl, f6.at0, bb6, by omega, by omega, by omega, fun H7 o7 cnt2 b7 h7 bb7 hd0' hd1' => ?_⟩
    have f7 := f6.put b7 h7
    have hlf : fo.length ≤ 50 := by omega
    have bb8 : BagB o7 (k + 200) := bb7.mono (by omega)
    clear f6 b7 bb6 bb7 f5 bb5 h7
    walk_at "rd"
    refine for_it walk_range (fun i σ Hc => ∃ (Bc : Hp) (oc : HO) (fl : Fl) (kvs : List (Key × V)) (x6 x7 x8 : Option V), σ = [some (.ref b), some (.int most), some (.int more), some (.ref d), some (.ref e), some (.int way), x6, x7, x8, none] ∧ Fs [b] B H Bc Hc [(b, oc), (d, .dK (encFo fo)), (e, .dK kvs)] ∧ BagB oc (k + 200 + 60 * i) ∧ GoodL fo fl ∧ fl.length = i ∧ Paired (FileV Bc) kvs fl ∧ (kvs.map (·.2)).Nodup)
      ⟨B, o7, [], [], _, _, _, rfl, f7, bb8.mono (by omega), GoodL.nil, rfl, .nil, List.nodup_nil⟩ (fun _ _ _ _ _ => trivial) ?_ ?_
    · rintro i x σ H8 H9 hi ⟨Bc, oc, fl, kvs, x6, x7, x8, rfl, f8, bb8, gl, hll, pf, ndv⟩ ⟨rfl, rfl⟩
      have hlk := keys_fo fo
      walk_at "rd"
      intro r1 G1 hr1 t1 g1
      have f9 := f8.ext t1
      walk_at "rd"
      refine ⟨d, _, rfl, f9.at1, fun r2 hr2 => ?_⟩
      rw [hlk]
      have t2 : Same G1 (upd G1 r2 (.lst ((fo.map (·.1)).map V.int))) := same_new hr2
      have f10 := f9.ext t2
      refine q_cat (t2 _ _ g1) upd_same (by rw [List.length_singleton, List.length_map, List.length_map]; omega) ?_
      intro r3 G3 hr3 t3 g3
      have n3 : r3 ≠ b := fun z => by
        have y := f10.at0
        rw [← z, hr3] at y
        cases y
      have f11 := f10.ext t3
      have e3 : ([V.int 0] ++ (fo.map (·.1)).map V.int) = (0 :: fo.map (·.1)).map V.int := rfl
      rw [e3] at g3
      clear f8 f9 f10 t1 t2 t3 g1
      walk_at "rd"
      intro D hD
      have hD0 := f11.fresh1 hD
      have n3D : r3 ≠ D := fun z => by
        rw [← z, g3] at hD
        cases hD
      have nz : (0 :: fo.map (·.1) : List Int).Nodup := List.nodup_cons.mpr ⟨fun z => by
        obtain ⟨p, hp, e0⟩ := List.mem_map.mp z
        have := (gf.num p hp).1
        omega, gf.nd⟩
      have hbd : D ≠ b := fun z => by
        have y := f11.at0
        rw [← z, hD] at y
        cases y
      refine lc_it (walk_list (xs := (0 :: fo.map (·.1)).map V.int)) (fun j Hc => ∃ (o : HO) (ns : List Int), Fs [b] B H Bc Hc [(D, .lst (ns.map V.int)), (b, o), (d, .dK (encFo fo)), (e, .dK kvs)] ∧ Hc r3 = some (.lst ((0 :: fo.map (·.1)).map V.int)) ∧ BagB o (k + 200 + 60 * i + j) ∧ ns.Sublist ((0 :: fo.map (·.1)).take j))
        ⟨oc, [], f11.mut hD (same_new hD) upd_same hD0, same_new hD _ _ g3, bb8.mono (by omega), List.nil_sublist _⟩ (fun j Hc _ ⟨o, ns, _, h, _⟩ => .inl (.inl h)) ?_ ?_
      · rintro j x Ha Hb hj ⟨o, ns, fa, ha, ba, sa⟩ ⟨rfl, hx⟩
        rw [List.length_map] at hj
        have hx2 : x = .int (0 :: fo.map (·.1))[j] := by
          rw [List.getElem?_map, List.getElem?_eq_getElem hj] at hx
          exact (Option.some.inj hx).symm
        subst hx2
        have hj2 : j ≤ 50 := by
          rw [List.length_cons, List.length_map] at hj
          omega
        have et : (0 :: fo.map (·.1)).take (j + 1) = (0 :: fo.map (·.1)).take j ++ [(0 :: fo.map (·.1))[j]] := by rw [List.take_succ_eq_append_getElem hj]
        have hln : ns.length ≤ 60 := by
          have h1 := sa.length_le
          rw [List.length_take] at h1
          omega
        generalize (0 :: fo.map (·.1))[j] = z at et
        walk_at "rd"
        refine ⟨rfl, ?_⟩
        walk_at "rd"
        refine ⟨b, o, 3, _, rfl, fa.at1, ba, by omega, by omega, by omega, fun Hc oc2 dd bc hc bbc hdd0 hdd1 => ?_⟩
        have fb := fa.put1 bc hc
        have hr3 := bc _ _ ha n3
        walk_at "rd"
        refine ite2 (fun h0 => ?_) (fun h0 => ?_)
        · walk_at "rd"
          refine ⟨_, fb.at0, by rw [List.length_map]; omega, oc2, ns ++ [z], ?_, ?_, bbc.mono (by omega), ?_⟩
          · rw [List.map_append]
            exact fb.put but_upd upd_same
          · rw [upd_ne n3D]; exact hr3
          · rw [et]
            exact List.Sublist.append sa (List.Sublist.refl _)
        · refine ⟨oc2, ns, fb, hr3, bbc.mono (by omega), ?_⟩
          rw [et]
          exact sa.trans (List.sublist_append_left _ _)
      rintro Hd ⟨o12, ns, f12, hr3, bb12, sub12⟩
      rw [List.length_map, List.take_length] at sub12
      rw [List.length_map, List.length_cons, List.length_map] at bb12
      have hns : ∀ z ∈ ns, z = 0 ∨ z ∈ fo.map (·.1) := fun z hz => List.mem_cons.mp (sub12.subset hz)
      have hnn : ns.Nodup := sub12.nodup nz
      have hnl : ns.length ≤ 60 := by
        have h1 := sub12.length_le
        rw [List.length_cons, List.length_map] at h1
        omega
      clear hr3 g3 n3 n3D f11
      have hkl := keys_fl pf
      have lkv := pr_len pf
      walk_at "rd"
      refine ⟨d, _, rfl, f12.at2, fun r4 hr4 => ?_⟩
      rw [hlk]
      have t4 : Same Hd (upd Hd r4 (.lst ((fo.map (·.1)).map V.int))) := same_new hr4
      have f13 := f12.ext t4
      walk_at "rd"
      refine ⟨e, _, rfl, f13.at3, fun r5 hr5 => ?_⟩
      rw [hkl]
      have t5 : Same (upd Hd r4 (.lst ((fo.map (·.1)).map V.int))) (upd (upd Hd r4 (.lst ((fo.map (·.1)).map V.int))) r5 (.lst ((fl.map (·.1)).map V.int))) := same_new hr5
      have f14 := f13.ext t5
      refine q_cat (t5 _ _ upd_same) upd_same (by rw [List.length_map, List.length_map, List.length_map, List.length_map]; omega) ?_
      intro r6 G6 hr6 t6 g6
      have f15 := f14.ext t6
      walk_at "rd"
      intro r7 G7 hr7 t7 g7
      have f16 := f15.ext t7
      refine q_cat (t7 _ _ g6) g7 (by rw [List.length_append, List.length_map, List.length_map, List.length_map, List.length_map, List.length_singleton]; omega) ?_
      intro r8 G8 hr8 t8 g8
      have n8 : r8 ≠ b := fun z => by
        have y := f16.at1
        rw [← z, hr8] at y
        cases y
      have f17 := f16.ext t8
      clear f16 f15 f14 f13 f12 t8 t7 t6 t5 t4 g6 g7
      have e8 : (fo.map (·.1)).map V.int ++ (fl.map (·.1)).map V.int ++ [V.int 0] = ((fo.map fun p : Int × Int => p.1) ++ (fl.map fun p : Int × List Int => p.1) ++ [0]).map V.int := by rw [List.map_append, List.map_append]; rfl
      rw [e8] at g8
      walk_at "rd"
      refine ⟨b, r8, o12, _, _, rfl, f17.at1, bb12, by omega, g8, by rw [List.length_append, List.length_append, List.length_map, List.length_map, List.length_singleton]; omega, n8, fun H18 o18 n b18 h18 bb18 hn1 hn2 hn => ?_⟩
      have f18 := f17.put1 b18 h18
      have hnk : n ∉ fo.map (·.1) := fun z => hn (List.mem_append_left _ (List.mem_append_left _ z))
      have hnl2 : n ∉ fl.map (·.1) := fun z => hn (List.mem_append_left _ (List.mem_append_right _ z))
      clear f17 g8 b18 hn
      walk_at "rd"
      refine q_join (fun v H' => ∃ (a : Addr) (Bx : Hp) (ox : HO) (ss : List Int), v = .ref a ∧ Fs [b] B H Bx H' [(b, ox), (d, .dK (encFo fo)), (e, .dK kvs)] ∧ Same Bc Bx ∧ Bx a = some (.lst (ss.map V.int)) ∧ Bc a = none ∧ BagB ox (k + 200 + 60 * (i + 1 : Nat)) ∧ ss ≠ [] ∧ ss.Nodup ∧ ss.length ≤ 1000 ∧ ∀ z ∈ ss, z = 0 ∨ z ∈ fo.map (·.1)) ?_ ?_
      · walk_at "rd"
        intro r9 G9 hr9 t9 g9
        have f19 := f18.ext t9
        refine q_neD (d := .list (ns.map PyData.int)) (e := .list []) (.lst (.inl (.inl f19.at0)) (dpI _)) (.lst (.inl (.inl g9)) .nil) (shaped_ints _) rfl ?_
        walk_at "rd"
        cases ns with
        | cons z zs =>
          refine iteT ?_
          walk_at "rd"
          have hDB := f19.own.new _ List.mem_cons_self
          exact ⟨D, _, o18, z :: zs, rfl, f19.freeze hD0, same_new hDB, upd_same, hDB, bb18.mono (by omega), by simp, hnn, by omega, hns⟩
        | nil =>
          refine iteF ?_
          walk_at "rd"
          intro r1 G1 hr1 t1 g1
          have f20 := f19.weak.ext t1
          walk_at "rd"
          refine ⟨d, _, rfl, f20.at1, fun r2 hr2 => ?_⟩
          rw [hlk]
          have t2 : Same G1 (upd G1 r2 (.lst ((fo.map (·.1)).map V.int))) := same_new hr2
          have f21 := f20.ext t2
          refine q_cat (t2 _ _ g1) upd_same (by rw [List.length_singleton, List.length_map, List.length_map]; omega) ?_
          intro r3 G3 hr3 t3 g3
          have n3 : r3 ≠ b := fun z => by
            have y := f21.at0
            rw [← z, hr3] at y
            cases y
          have f22 := f21.ext t3
          have e3 : ([V.int 0] ++ (fo.map (·.1)).map V.int) = (0 :: fo.map (·.1)).map V.int := rfl
          rw [e3] at g3
          clear f19 f20 f21 f18 t1 t2 t3 g1
          walk_at "rd"
          refine ⟨d, _, rfl, .inl f22.at1, ?_⟩
          have el : (encFo fo).length = fo.length := by unfold encFo; rw [List.length_map]
          rw [el]
          walk_at "rd"
          refine ⟨b, o18, _, _, rfl, f22.at0, bb18, by omega, by omega, by omega, fun H23 o23 j b23 h23 bb23 hj0 hj1 => ?_⟩
          have f23 := f22.put b23 h23
          have g3' := b23 _ _ g3 n3
          obtain ⟨z, hz1, hz2⟩ := atI_ints (ss := 0 :: fo.map (·.1)) hj0 (by rw [List.length_cons, List.length_map]; omega)
          refine q_ixL (SqL.of g3') hz1 ?_
          walk_at "rd"
          intro r10 G10 hr10 t10 g10
          have h10 := f23.fresh1 hr10
          have f24 := f23.stay hr10 t10 g10 h10
          have hB10 : Bc r10 = none := by
            cases y : Bc r10 with
            | none => rfl
            | some u =>
              rw [f23.get y] at hr10
              cases hr10
          exact ⟨r10, _, o23, [z], rfl, f24, same_new hB10, upd_same, hB10, bb23.mono (by omega), by simp, by simp, by simp, fun y hy => by
            rw [List.mem_singleton.mp hy]
            exact List.mem_cons.mp hz2⟩
      rintro v H19 ⟨a, Bx, ox, ss, rfl, f19, sx, ha, hBa, bbx, s1, s2, s3, s4⟩
      walk_at "rd"
      refine q_putI f19.at2 (by omega) ?_
      intro H20 b20 h20
      have f20 := f19.put2 b20 h20
      have hnew : valV kvs (.inl n) = none := by
        cases y : valV kvs (.inl n) with
        | none => rfl
        | some u =>
          exfalso
          unfold valV at y
          cases y2 : kvs.find? fun kv => decide (kv.1 = .inl n) with
          | none => rw [y2] at y; cases y
          | some kv =>
            have y3 : kv.1 = .inl n := of_decide_eq_true (List.find?_some (p := fun kv : Key × V => decide (kv.1 = .inl n)) y2)
            have y4 := List.mem_of_find?_eq_some y2
            obtain ⟨m, hm⟩ := List.getElem?_of_mem y4
            obtain ⟨q0, hq0, hq1, _⟩ := pr_get pf hm
            rw [y3] at hq1
            exact hnl2 (List.mem_map.mpr ⟨q0, List.mem_of_getElem? hq0, (Sum.inl.inj hq1).symm⟩)
      rw [putK_new _ hnew] at f20
      walk_at "rd"
      refine ⟨Bx, ox, fl ++ [(n, ss)], _, _, _, _, rfl, f20, bbx, gl.add hn1 hn2 hnk hnl2 s1 s2 s3 s4, by rw [List.length_append, hll]; rfl, pr_app (pr_mono (fun _ _ h => fileV_mono sx h) pf) (.cons ⟨rfl, a, rfl, ha⟩ .nil), ?_⟩
      rw [List.map_append]
      refine List.nodup_append.mpr ⟨ndv, by simp, fun u hu2 w2 hw => ?_⟩
      have hw : w2 = .ref a := by simpa using hw
      subst hw
      rintro rfl
      obtain ⟨kv, hkv, e1⟩ := List.mem_map.mp hu2
      obtain ⟨m, hm⟩ := List.getElem?_of_mem hkv
      obtain ⟨q0, hq0, hq1, a', hq2, hq3⟩ := pr_get pf hm
      rw [e1] at hq2
      cases hq2
      rw [hBa] at hq3
      cases hq3
    rintro σ H8 ⟨Bc, oc, fl, kvs, x6, x7, x8, rfl, f8, bb8, gl, hll, pf, ndv⟩
    have f9 := ((f8.rot.freeze he0).swap.freeze hd0)
    have heB := f8.rot.own.new _ List.mem_cons_self
    have hne : d ≠ e := fun z => by
      have y := f8.own.nd
      simp [z] at y
    have hdB := (f8.rot.freeze he0).swap.own.new _ List.mem_cons_self
    have pf9 : Paired (FileV (upd (upd Bc e (.dK kvs)) d (.dK (encFo fo)))) kvs fl := pr_mono (fun _ _ h => fileV_mono ((same_new heB).trans (same_new hdB)) h) pf
    have hd9 : (upd (upd Bc e (.dK kvs)) d (.dK (encFo fo))) d = some (.dK (encFo fo)) := upd_same
    have he9 : (upd (upd Bc e (.dK kvs)) d (.dK (encFo fo))) e = some (.dK kvs) := by rw [upd_ne hne.symm]; exact upd_same
    generalize upd (upd Bc e (.dK kvs)) d (.dK (encFo fo)) = B9 at f9 pf9 hd9 he9
    clear f8 pf heB hdB
    have hi2 : (cnt2.toNat : Int) ≤ 10 := by omega
    have bb9 : BagB oc (k + 1000) := bb8.mono (by omega)
    clear bb8
    refine q_cut (fun σ' H' => ∃ (Bx : Hp) (ox : HO) (d' : Addr) (fo' : Fo) (x8 : Option V), σ' = [some (.ref b), some (.int most), some (.int more), some (.ref d'), some (.ref e), some (.int way), x6, x7, x8, none] ∧ Fs [b] B H Bx H' [(b, ox)] ∧ BagB ox (k + 2000) ∧ Bx d' = some (.dK (encFo fo')) ∧ Same B9 Bx ∧ d' ≠ e ∧ (fo' = fo ∨ fo' = fo.reverse)) ?_ ?_
    · walk_at "rd"
      refine ⟨b, oc, 2, _, rfl, f9.at0, bb9, by omega, by omega, by omega, fun H10 o10 j b10 h10 bb10 hj0 hj1 => ?_⟩
      have f10 := f9.put b10 h10
      clear f9 b10
      walk_at "rd"
      refine ite2 (fun h0 => ?_) (fun h0 => ?_)
      · walk_at "rd"
        refine q_revL ?_
        walk_at "rd"
        refine ⟨d, _, rfl, f10.get hd9, fun r1 hr1 => ?_⟩
        rw [keys_fo]
        have f11 := f10.ext (same_new (o := .lst ((fo.map (·.1)).map V.int)) hr1)
        refine ⟨r1, _, rfl, SqL.of upd_same, fun r2 hr2 => ?_⟩
        have f12 := f11.stay (ob := .lst ((fo.map (·.1)).map V.int).reverse) hr2 (same_new hr2) upd_same (f11.fresh1 hr2)
        have hr2B : B9 r2 = none := by
          cases y : B9 r2 with
          | none => rfl
          | some u => rw [f11.get y] at hr2; cases hr2
        have e12 : ((fo.map (·.1)).map V.int).reverse = (fo.reverse.map (·.1)).map V.int := by rw [← List.map_reverse, ← List.map_reverse]
        rw [e12] at f12 ⊢
        have s12 : Same B9 (upd B9 r2 (.lst ((fo.reverse.map (·.1)).map V.int))) := same_new hr2B
        have hr12 : (upd B9 r2 (.lst ((fo.reverse.map (·.1)).map V.int))) r2 = some (.lst ((fo.reverse.map (·.1)).map V.int)) := upd_same
        generalize upd B9 r2 (.lst ((fo.reverse.map (·.1)).map V.int)) = B12 at f12 s12 hr12
        generalize upd (upd H10 r1 _) r2 _ = H12 at f12
        clear f11 f10 hr2 hr1 hr2B
        walk_at "rd"
        intro D hD
        have hd12 : B12 d = some (.dK (encFo fo)) := s12 _ _ hd9
        have ew : ((fo.reverse.map (·.1)).map V.int).length = (fo.reverse.map some).length := by rw [List.length_map, List.length_map, List.length_map]
        refine lcR (α := Int × Int) (R := fun B v p => ∃ t, v = .ref t ∧ B t = some (.tup [.int p.1, .int p.2])) (B1 := B12) (fun B B' v o sm ⟨t, h1, h2⟩ => ⟨t, h1, sm _ _ h2⟩) (outs := fo.reverse.map some) (walk_list (xs := (fo.reverse.map (·.1)).map V.int)) ew f12.own.same hD (fun H sm => .inl (.inl (sm _ _ hr12))) (by rw [List.length_map, List.length_reverse]; omega) ?_ ?_
        · rintro m y _ H7 B7 zs Nx Nf hm g7 ⟨rfl, hy⟩ hNx hNf
          rw [List.length_map] at hm
          have hy2 : y = .int fo.reverse[m].1 := by
            rw [List.getElem?_map, List.getElem?_map, List.getElem?_eq_getElem hm] at hy
            exact (Option.some.inj hy).symm
          subst hy2
          have hlook : look fo fo.reverse[m].1 = some fo.reverse[m].2 := mem_look gf.nd (List.mem_reverse.mp (List.getElem_mem hm))
          have eo : (fo.reverse.map some)[m]? = some (some fo.reverse[m]) := by rw [List.getElem?_map, List.getElem?_eq_getElem hm]; rfl
          generalize fo.reverse[m] = pp at hlook eo
          have g0 : Fs [] B7 H7 B7 H7 [] := Fs.start g7.own.same
          walk_at "rd"
          refine ⟨rfl, ?_⟩
          walk_at "rd"
          refine iteT ?_
          walk_at "rd"
          refine q_getIR (.inl (g7.get (g7.base _ _ hd12))) (v := .int pp.2) (by rw [val_fo, hlook]; rfl) ?_
          walk_at "rd"
          intro t8 H8 ht8 s8 h8
          have g1 := g0.stay ht8 s8 h8
          exact hNx _ _ _ pp eo g1.done ⟨t8, rfl, upd_same⟩
        intro B13 H13 ws g13 pw
        have epw : (fo.reverse.map some).filterMap id = fo.reverse := by
          generalize fo.reverse = l
          induction l with
          | nil => rfl
          | cons x r ih => rw [List.map_cons, List.filterMap_cons, ih]; rfl
        rw [epw] at pw
        obtain ⟨ps, ews, pps⟩ := pairsL (K := K) g13.own.same pw
        have f13 := f12.call (g13.freeze hD).done
        walk_at "rd"
        refine ⟨D, ps, _, rfl, by rw [← ews]; exact SqL.of g13.at0, pps, fun p hp => ?_⟩
        have em : mergeK [] (encFo fo.reverse) = encFo fo.reverse := merge_nd _ [] (by rw [List.nil_append]; exact keysN_fo gf.rev.nd)
        rw [em]
        have f14 := f13.stay (ob := .dK (encFo fo.reverse)) hp (same_new hp) upd_same (f13.fresh1 hp)
        have hpe : p ≠ e := fun z => by
          rw [z, f13.get ((g13.freeze hD).base _ _ (s12 _ _ he9))] at hp
          cases hp
        have hpB : (upd B13 D (.lst ws)) p = none := by
          cases y : (upd B13 D (.lst ws)) p with
          | none => rfl
          | some u => rw [f13.get y] at hp; cases hp
        walk_at "rd"
        exact ⟨_, o10, p, fo.reverse, _, rfl, f14, bb10.mono (by omega), upd_same, (s12.trans (g13.freeze hD).base).trans (same_new hpB), hpe, .inr rfl⟩
      · walk_at "rd"
        exact ⟨B9, o10, d, fo, _, rfl, f10, bb10.mono (by omega), hd9, Same.refl _, hne, .inl rfl⟩
    rintro σ H10 ⟨Bx, ox, d', fo', x8, rfl, f10, bbx, hdx, sx, hne2, hfo⟩
    walk_at "rd"
    intro t G1 ht t1 g1
    have f11 := f10.ext t1
    have gft : GoodT fo' fl := by
      rcases hfo with rfl | rfl
      · exact goodT gf gl (by omega) (by omega)
      · exact goodT gf.rev gl.rev (by rw [List.length_reverse]; omega) (by omega)
    exact q Bx G1 ox t d' e fo' fl kvs f11.done f11.at0 (bbx.mono (by omega)) (f11.own.new _ List.mem_cons_self) g1 hdx (sx _ _ he9) hne2 (pr_mono (fun _ _ h => fileV_mono sx h) pf9) gft (f10.fresh1 ht)
      (by rcases hfo with rfl | rfl
          · omega
          · rw [List.length_reverse]; omega) (by omega) ndv
end

/-! ### the law -/
theorem mk_tree {C : Addr} {B H : Hp} {x dx d e : Addr} {fo : Fo} {fl : Fl} {kvs : List (Key × V)} {N : Hp → Prop} {E : XK} (s : Same B H) (hx : H x = none) (hdx : H dx = none) (ne : dx ≠ x) (hd : B d = some (.dK (encFo fo))) (he : B e = some (.dK kvs)) (nde : d ≠ e) (pf : Paired (FileV B) kvs fl) (gt : GoodT fo fl)
    (q : ∀ B' H' fl', Grow [] B H B' H' → TreeAt C B' x fo fl' → Paired SortF fl fl' → N H') : spInit C [.ref x, .ref d, .ref e] (upd (upd H dx (.own x)) x (.ins C dx [])) (fun v H2 => v = .non ∧ N H2) E := by
  have s2 : Same H (upd (upd H dx (.own x)) x (.ins C dx [])) := (same_new hdx).trans (same_new (by rw [upd_ne ne.symm]; exact hx))
  have bx : B x = none := by
    cases y : B x with
    | none => rfl
    | some u => rw [s _ _ y] at hx; cases hx
  refine ⟨B, x, dx, d, e, fo, fl, kvs, rfl, s.trans s2, upd_same, bx, hd, he, nde, pf, gt, fun B' H' pa sp kvs' fl' g h1 h2 h3 h4 h5 h6 => ⟨rfl, q (upd B' x (.ins C dx (fldT pa sp))) H' fl' ⟨fun a o ha _ => ?_, g.base.trans (same_new h2), fun a o ha => ?_, fun a ha => ?_⟩ ⟨dx, pa, sp, kvs', upd_same, same_new h2 _ _ h3, same_new h2 _ _ h4, pr_mono (fun _ _ h => fileV_mono (same_new h2) h) h5⟩ h6⟩⟩
  · refine g.same a o (s2 _ _ ha) ?_
    intro z
    rw [List.mem_singleton.mp z, hx] at ha
    cases ha
  · by_cases z : a = x
    · subst z
      rw [upd_same] at ha
      cases ha
      exact h1
    · rw [upd_ne z] at ha
      exact g.sub a o ha
  · by_cases z : a = x
    · exact .inr (by rw [z]; exact hx)
    · rw [upd_ne z] at ha
      rcases g.new a ha with y | y
      · exact .inl y
      · rw [upd_ne z] at y
        by_cases z2 : a = dx
        · exact .inr (by rw [z2]; exact hdx)
        · rw [upd_ne z2] at y
          exact .inr y
structure TxLaw03 (mg : Str → Option Value) : Prop where
  isinstance : Free mg "isinstance"
  list : Free mg "list"
  len : Free mg "len"
  max : Free mg "max"
  min : Free mg "min"
  range : Free mg "range"
  str : Free mg "str"
def spLaw (K : PySem.W.Frag) : Sp := fun vs H Q _ => ∃ (a : Addr) (ns : List Int), vs = [.ref a] ∧ SqL K H a (ns.map V.int) ∧ ns.length ≤ 63 ∧ ∀ H', Q (.bl true) H'
theorem GoodT.key {fo : Fo} {fl : Fl} (g : GoodT fo fl) {n : Int} (h : n = 0 ∨ n ∈ fo.map (·.1)) : reachF fo (fo.length + 1) n = true := by
  rcases h with h | h
  · rw [h]; exact reach_zero
  · obtain ⟨p, hp, rfl⟩ := List.mem_map.mp h
    exact g.rch p hp
section
variable {P : Program} {w : World} {K : PySem.W.Frag} {mg : Str → Option Value} {base : Heap} {C : Addr}
theorem ok_law {f : Addr} {fd : FuncData} (F : C8.Def K mg "law" s_law f fd) (T : TxLaw03 mg) (TC : TxCls K C) (c_law_bag : C8.Cal P w K mg base 1 "_law_bag" (spBagB K) []) (c_law_take : C8.Cal P w K mg base 1 "_law_take" spTakeB [])
    (c_law_tree : C8.Cal P w K mg base 3 "_law_tree" spTreeB []) (m_Tree : C8.Mak P w K mg base 3 "Tree" C (spInit C) []) (t_Tree_place : C8.Met P w K mg base 2 C "place" (spPlaceT C) []) (c_law_place : C8.Cal P w K mg base 2 "_law_place" spPlaceL []) : FnOk P w K mg base C8.CX0 5 f fd ["_law_script"] (spLaw K) := by
  refine C8.fn0 F.fn fs_law (fun vs H Q E h => ?_) (fun cdv A outer s H vs Q E hr h => ?_)
  · obtain ⟨a, ns, rfl, _⟩ := h
    rfl
  · obtain ⟨a, ns, rfl, hS, hlen, q⟩ := h
    have hu := hu_of hr
    refine ⟨_, (pss_cons (ps_for PassesOwn.never rfl (pi_range1 rfl T.range (pa_cons (pe_callB (call_max2 rfl) (by rfl) T.max (by decide +kernel) (pa_cons pe_int (pa_cons (pe_callB (call_min2 rfl) (by rfl) T.min (by decide +kernel) (pa_cons pe_int (pa_cons (pe_callB call_len_seq (by rfl) T.len (by decide +kernel) (pa_cons (pv 0) pa_nil)) pa_nil))) pa_nil))) pa_nil)) (pg_name (i := 1) fs_law.nd rfl (Or.inl rfl))
       (pss_cons (ps_set (i := 2) fs_law.nd rfl (Or.inr rfl) (C8.pe_c c_law_bag hr (by decide) rfl (pa_cons (pv 0) (pa_cons (pv 1) pa_nil))))
       (pss_cons (ps_asg (C8.pe_c c_law_tree hr (by decide) rfl (pa_cons (pv 2) (pa_cons (pe_ix ix_list (pe_lst (pa_cons pe_int (pa_cons pe_int (pa_cons pe_int (pa_cons pe_int (pa_cons pe_int (pa_cons pe_int (pa_cons pe_int (pa_cons pe_int pa_nil))))))))) (C8.pe_c c_law_take hr (by decide) rfl (pa_cons (pv 2) (pa_cons pe_int pa_nil))) (fun _ _ => rfl)) (pa_cons pe_int pa_nil)))) (pg_tup rfl (pgs_cons (pg_name (i := 3) fs_law.nd rfl (Or.inl rfl)) (pgs_cons (pg_name (i := 4) fs_law.nd rfl (Or.inl rfl)) pgs_nil))))
       (pss_cons (ps_set (i := 5) fs_law.nd rfl (Or.inl rfl) (C8.pe_mk m_Tree hr (by decide) rfl (pa_cons (pv 3) (pa_cons (pv 4) pa_nil))))
       (pss_cons (ps_set (i := 6) fs_law.nd rfl (Or.inr rfl) (pe_op op_cat (pe_lst (pa_cons pe_int pa_nil)) (pe_callTy (call_list_dK rfl) (by rfl) T.list (by decide +kernel) (pa_cons (pv 3) pa_nil))))
       (C8.pss_cut (ps_if (pt_cmpR op_gt (pe_callB call_len_seq (by rfl) T.len (by decide +kernel) (pa_cons (pv 6) pa_nil)) pe_int (nomark _))
        (pss_one (ps_set (i := 6) fs_law.nd rfl (Or.inr rfl) (pe_lc (own := [("_law_turn", 10)]) (g := gName 10) rfl fs_law.nd (pi_range1 rfl T.range (pa_cons pe_int pa_nil)) (blkOk_by (own := [("_law_turn", 10)]) (N := nm_law) (sc := sc_law) (by decide +kernel)) (fun _ _ _ _ _ => (pg_name (i := 10) fs_law.nd rfl (Or.inl rfl))) (fun _ _ _ _ _ => pts_nil) (fun _ _ _ _ _ => (pe_ix (r := rIxL K) ix_list (pv 6) (C8.pe_c c_law_take hr (by decide) rfl (pa_cons (pv 2) (pa_cons (pe_callB (r := rLenQ K) (id := "len") call_len_seq (by rfl) T.len (by decide +kernel) (pa_cons (pv 6) pa_nil)) pa_nil))) (fun _ _ => rfl))))))
        pss_nil)
       (pss_one (ps_for PassesOwn.never rfl (pi_list (pv 6)) (pg_name (i := 7) fs_law.nd rfl (Or.inl rfl))
        (pss_one (ps_for PassesOwn.never rfl (pi_list (pv 6)) (pg_name (i := 8) fs_law.nd rfl (Or.inl rfl))
         (pss_cons (ps_set (i := 9) fs_law.nd rfl (Or.inl rfl) (C8.pe_mt t_Tree_place hr (by decide) (pv 5) (pa_cons (pv 7) (pa_cons (pv 8) pa_nil))))
         (pss_one (ps_if (PW.pt (pw_or (pt_not (pt_val (pe_callB call_isi (by rfl) T.isinstance (by decide +kernel) (pa_cons (pv 9) (pa_cons (pe_bltn (v := .ty "str") (by rfl) T.str (by decide +kernel) rfl) pa_nil))))) (pw_or1 (pt_cmpR op_ne (pv 9) (C8.pe_c c_law_place hr (by decide) rfl (pa_cons (pv 3) (pa_cons (pv 7) (pa_cons (pv 8) pa_nil)))) (nomark _)))))
          (pss_one (ps_ret pe_bl))
          pss_nil)))))))))))))
      (pss_one (ps_ret pe_bl))), ?_⟩
    have hsl : (1000000 : Nat) < sizeLine := by decide
    have f1 : Fs [] H H H H [] := Fs.start (Same.refl H)
    walk_at "rd"
    refine ⟨3, _, rfl, ?_⟩
    walk_at "rd"
    refine ⟨1, _, rfl, ?_⟩
    rw [List.length_map]
    generalize hcnt : (if (if (ns.length : Int) < 3 then (ns.length : Int) else 3) > 1 then (if (ns.length : Int) < 3 then (ns.length : Int) else 3) else 1) = cnt
    have hc3 : cnt ≤ 3 := by rw [← hcnt]; split <;> (try split) <;> omega
    walk_at "rd"
    refine for_it walk_range (fun i σ Hc => ∃ (B : Hp) (x1 x2 x3 x4 x5 x6 x7 x8 x9 : Option V), σ = [some (.ref a), x1, x2, x3, x4, x5, x6, x7, x8, x9, none] ∧ Fs [] H H B Hc [])
      ⟨H, _, _, _, _, _, _, _, _, _, rfl, f1⟩ (fun _ _ _ _ _ => trivial) ?_ ?_
    · rintro i x σ H2 H3 hi ⟨B, x1, x2, x3, x4, x5, x6, x7, x8, x9, rfl, f2⟩ ⟨rfl, rfl⟩
      walk_at "rd"
      refine ⟨a, ns, i, by simp, f2.seq0 hS, by omega, fun b H4 o hb s4 h4 bb => ?_⟩
      have f4 := f2.mut hb s4 h4 (f2.fresh hb)
      clear f2
      walk_at "rd"
      intro r1 G1 hr1 t1 g1
      have n1 : r1 ≠ b := fun z => by
        rw [z, h4] at hr1
        cases hr1
      have f5 := f4.ext t1
      walk_at "rd"
      refine ⟨b, o, 8, 0, rfl, f5.at0, bb, by omega, by omega, by omega, fun H6 o6 j b6 h6 bb6 hj0 hj1 => ?_⟩
      have f6 := f5.put b6 h6
      have g6 := b6 _ _ g1 n1
      obtain ⟨mo, hmo, hmo2⟩ : ∃ mo : Nat, atI [V.int 12, V.int 12, V.int 8, V.int 8, V.int 5, V.int 18, V.int 40, V.int 40] j = some (.int mo) ∧ mo ≤ 50 := by
        have hc : j = 0 ∨ j = 1 ∨ j = 2 ∨ j = 3 ∨ j = 4 ∨ j = 5 ∨ j = 6 ∨ j = 7 := by omega
        rcases hc with rfl | rfl | rfl | rfl | rfl | rfl | rfl | rfl
        · exact ⟨12, rfl, by omega⟩
        · exact ⟨12, rfl, by omega⟩
        · exact ⟨8, rfl, by omega⟩
        · exact ⟨8, rfl, by omega⟩
        · exact ⟨5, rfl, by omega⟩
        · exact ⟨18, rfl, by omega⟩
        · exact ⟨40, rfl, by omega⟩
        · exact ⟨40, rfl, by omega⟩
      refine q_ixL (SqL.of g6) hmo ?_
      walk_at "rd"
      refine ⟨B, b, o6, mo, 2, 0 + 1, rfl, f6.own.same, f6.at0, f6.own.new _ List.mem_cons_self, bb6, by omega, by omega, hmo2, by omega, fun B7 H7 o7 t d e fo fl kvs g7 hb7 bb7 hbb7 ht hd he nde pf gt _ _ _ _ => ?_⟩
      have f7 := f6.callBut g7 hb7
      have few := gt.few
      clear f4 f5 f6 g6 g1 t1 b6 bb6
      walk_at "rd"
      intro x dx hx hdx nex
      refine mk_tree f7.own.same hx hdx nex hd he nde pf gt fun B8 H8 fl' g8 tr _ => ?_
      have f8 := f7.call g8
      have hd8 : B8 d = some (.dK (encFo fo)) := g8.base _ _ hd
      clear f7 hx hdx ht
      walk_at "rd"
      intro r2 G2 hr2 t2 g2
      have f9 := f8.ext t2
      walk_at "rd"
      refine ⟨d, _, rfl, f9.get hd8, fun r3 hr3 => ?_⟩
      rw [keys_fo]
      have t3 : Same G2 (upd G2 r3 (.lst ((fo.map (·.1)).map V.int))) := same_new hr3
      have f10 := f9.ext t3
      refine q_cat (t3 _ _ g2) upd_same (by rw [List.length_singleton, List.length_map, List.length_map]; omega) ?_
      intro r4 G4 hr4 t4 g4
      have e4 : ([V.int 0] ++ (fo.map (·.1)).map V.int) = (0 :: fo.map (·.1)).map V.int := rfl
      rw [e4] at g4
      have h40 := f10.fresh hr4
      have f11 := f10.stay hr4 t4 g4 h40
      have hB4 : B8 r4 = none := by
        cases y : B8 r4 with
        | none => rfl
        | some u => rw [f10.get y] at hr4; cases hr4
      have s11 : Same B8 (upd B8 r4 (.lst ((0 :: fo.map (·.1)).map V.int))) := same_new hB4
      have h11 : (upd B8 r4 (.lst ((0 :: fo.map (·.1)).map V.int))) r4 = some (.lst ((0 :: fo.map (·.1)).map V.int)) := upd_same
      generalize upd B8 r4 (.lst ((0 :: fo.map (·.1)).map V.int)) = B11 at f11 s11 h11
      clear f8 f9 f10 t2 t3 t4 g4 hr4 hr3 hr2 g2
      have tr11 := treeAt_mono s11 tr
      have hd11 := s11 _ _ hd8
      walk_at "rd"
      refine q_cut (fun σ' H' => ∃ (Bx : Hp) (ox : HO) (r : Addr) (ss : List Int), σ' = [some (.ref a), some (.int (0 + (i : Int))), some (.ref b), some (.ref d), some (.ref e), some (.ref x), some (.ref r), x7, x8, x9, none] ∧ Fs [] H H Bx H' [(b, ox)] ∧ Same B11 Bx ∧ Bx r = some (.lst (ss.map V.int)) ∧ ∀ z ∈ ss, z = 0 ∨ z ∈ fo.map (·.1)) ?_ ?_
      · walk_at "rd"
        refine ite2 (fun h0 => ?_) (fun h0 => ?_)
        · walk_at "rd"
          intro D hD
          have hD0 := f11.fresh hD
          refine lc_it walk_range (fun j Hc => ∃ (o : HO) (ns : List Int), Fs [] H H B11 Hc [(D, .lst (ns.map V.int)), (b, o)] ∧ BagB o (6000 + j) ∧ ns.length ≤ j ∧ ∀ z ∈ ns, z = 0 ∨ z ∈ fo.map (·.1))
            ⟨o7, [], f11.mut hD (same_new hD) upd_same hD0, bb7.mono (by omega), Nat.le_refl _, fun _ h => nomatch h⟩ (fun _ _ _ _ => trivial) ?_ ?_
          · rintro j y Ha Hb hj ⟨o, ms, fa, ba, la, ma⟩ ⟨rfl, rfl⟩
            have hj : j < 12 := hj
            walk_at "rd"
            refine ⟨rfl, ?_⟩
            walk_at "rd"
            refine iteT ?_
            walk_at "rd"
            refine ⟨r4, _, rfl, .inl (fa.seq (.inl (.inl h11))), ?_⟩
            walk_at "rd"
            refine ⟨b, o, _, _, rfl, fa.at1, ba, by omega, ?_, ?_, fun Hc oc2 dd bc hc bbc hdd0 hdd1 => ?_⟩
            · rw [List.length_map, List.length_cons]; omega
            · rw [List.length_map, List.length_cons, List.length_map]; omega
            have fb := fa.put1 bc hc
            rw [List.length_map] at hdd1
            obtain ⟨z, hz1, hz2⟩ := atI_ints hdd0 hdd1
            refine q_ixL (SqL.of (fb.get h11)) hz1 ?_
            refine ⟨_, fb.at0, by rw [List.length_map]; omega, oc2, ms ++ [z], ?_, bbc.mono (by omega), by rw [List.length_append, List.length_singleton]; omega, ?_⟩
            · rw [List.map_append]
              exact fb.put but_upd upd_same
            · intro y hy
              rcases List.mem_append.mp hy with hy | hy
              · exact ma y hy
              · rw [List.mem_singleton.mp hy]
                exact List.mem_cons.mp hz2
          rintro Hd ⟨o12, ms, f12, bb12, _, ma⟩
          walk_at "rd"
          exact ⟨_, o12, D, ms, rfl, f12.freeze hD0, same_new (f12.own.new _ List.mem_cons_self), upd_same, ma⟩
        · walk_at "rd"
          exact ⟨B11, o7, r4, _, rfl, f11, Same.refl _, h11, fun z hz => List.mem_cons.mp hz⟩
      rintro σ' H12 ⟨Bx, ox, r, ss, rfl, f12, sx, hr12, hss⟩
      have trx := treeAt_mono sx tr11
      have hdx2 := sx _ _ hd11
      clear f11 tr11 hd11 tr hd8
      have f13 : Fs [] H H Bx H12 [] := f12.weak
      obtain ⟨tdx, tpa, tsp, tkv, th1, th2, th3, th4⟩ := trx.ex
      walk_at "rd"
      refine for_it (walk_list (xs := ss.map V.int)) (fun j σ Hc => ∃ (y7 y8 y9 : Option V), σ = [some (.ref a), some (.int (0 + (i : Int))), some (.ref b), some (.ref d), some (.ref e), some (.ref x), some (.ref r), y7, y8, y9, none] ∧ Fs [] H H Bx Hc [])
        ⟨_, _, _, rfl, f13⟩ (fun j σ Hc _ ⟨_, _, _, _, f⟩ => f.seq (.inl (.inl hr12))) ?_ ?_
      · rintro j u σ Ha Hb hj ⟨y7, y8, y9, rfl, f14⟩ ⟨rfl, hu1⟩
        obtain ⟨one, hone, rfl⟩ : ∃ z, z ∈ ss ∧ V.int z = u := List.mem_map.mp (List.mem_of_getElem? hu1)
        have hr1 := gt.key (hss one hone)
        walk_at "rd"
        refine for_it (walk_list (xs := ss.map V.int)) (fun j σ Hc => ∃ (y8 y9 : Option V), σ = [some (.ref a), some (.int (0 + (i : Int))), some (.ref b), some (.ref d), some (.ref e), some (.ref x), some (.ref r), some (.int one), y8, y9, none] ∧ Fs [] H H Bx Hc [])
          ⟨_, _, rfl, f14⟩ (fun j σ Hc _ ⟨_, _, _, f⟩ => f.seq (.inl (.inl hr12))) ?_ ?_
        · rintro j2 u σ Hc Hd hj2 ⟨y8, y9, rfl, f15⟩ ⟨rfl, hu2⟩
          obtain ⟨other, hoth, rfl⟩ : ∃ z, z ∈ ss ∧ V.int z = u := List.mem_map.mp (List.mem_of_getElem? hu2)
          have hr2 := gt.key (hss other hoth)
          walk_at "rd"
          refine ⟨x, tdx, _, rfl, f15.get th1, lookNo tpa tsp (by decide +kernel) (by decide +kernel), ?_⟩
          walk_at "rd"
          refine ⟨x, fo, fl', one, other, fo.length + 1, rfl, treeAt_mono f15.own.same trx, hr1, hr2, fun H16 s16 => ?_⟩
          have f16 := f15.ext s16
          walk_at "rd"
          refine ⟨.str _, .ty "str", .type "str", .type "str", true, rfl, .ty "str", .base (.str _), kit_ty (by decide +kernel), ?_⟩
          walk_at "rd"
          refine iteF ?_
          walk_at "rd"
          refine ⟨d, fo, one, other, fo.length + 1, rfl, f16.get hdx2, hr1, hr2, by omega, fun H17 s17 => ?_⟩
          have f17 := f16.ext s17
          walk_at "rd"
          rw [decide_eq_true rfl]
          refine iteF ?_
          walk_at "rd"
          exact ⟨_, _, rfl, f17⟩
        · rintro σ Hc ⟨y8, y9, rfl, f15⟩
          exact ⟨_, _, _, rfl, f15⟩
      · rintro σ Hc ⟨y7, y8, y9, rfl, f14⟩
        exact ⟨Bx, _, _, _, _, _, _, _, _, _, rfl, f14⟩
    · rintro σ Hc ⟨B, x1, x2, x3, x4, x5, x6, x7, x8, x9, rfl, f2⟩
      exact q _
end

/-! ### the head: facts by names -/
def d_is_number : He.DefD := ⟨("is_number", none), "is_number", "is_number", C8.fnArgs s_is_number, C8.fnBody s_is_number, C8.fnScope s_is_number, [], []⟩
def d_reaches_root : He.DefD := ⟨("reaches_root", none), "reaches_root", "reaches_root", C8.fnArgs s_reaches_root, C8.fnBody s_reaches_root, C8.fnScope s_reaches_root, [], []⟩
def d_fits : He.DefD := ⟨("fits", none), "fits", "fits", C8.fnArgs s_fits, C8.fnBody s_fits, C8.fnScope s_fits, [], []⟩
def d_law_bag : He.DefD := ⟨("_law_bag", none), "_law_bag", "_law_bag", C8.fnArgs s_law_bag, C8.fnBody s_law_bag, C8.fnScope s_law_bag, [], []⟩
def d_law_take : He.DefD := ⟨("_law_take", none), "_law_take", "_law_take", C8.fnArgs s_law_take, C8.fnBody s_law_take, C8.fnScope s_law_take, [], []⟩
def d_law_number : He.DefD := ⟨("_law_number", none), "_law_number", "_law_number", C8.fnArgs s_law_number, C8.fnBody s_law_number, C8.fnScope s_law_number, [], []⟩
def d_law_tree : He.DefD := ⟨("_law_tree", none), "_law_tree", "_law_tree", C8.fnArgs s_law_tree, C8.fnBody s_law_tree, C8.fnScope s_law_tree, [], []⟩
def d_law_ancestors : He.DefD := ⟨("_law_ancestors", none), "_law_ancestors", "_law_ancestors", C8.fnArgs s_law_ancestors, C8.fnBody s_law_ancestors, C8.fnScope s_law_ancestors, [], []⟩
def d_law_place : He.DefD := ⟨("_law_place", none), "_law_place", "_law_place", C8.fnArgs s_law_place, C8.fnBody s_law_place, C8.fnScope s_law_place, [], []⟩
def d_law : He.DefD := ⟨("law", none), "law", "law", C8.fnArgs s_law, C8.fnBody s_law, C8.fnScope s_law, [], []⟩
def d_Tree__init_ : He.DefD := ⟨("Tree", some "__init__"), "__init__", "Tree.__init__", C8.fnArgs s_Tree__init_, C8.fnBody s_Tree__init_, C8.fnScope s_Tree__init_, [], []⟩
def d_Tree_is_folder : He.DefD := ⟨("Tree", some "is_folder"), "is_folder", "Tree.is_folder", C8.fnArgs s_Tree_is_folder, C8.fnBody s_Tree_is_folder, C8.fnScope s_Tree_is_folder, [], []⟩
def d_Tree_is_above : He.DefD := ⟨("Tree", some "is_above"), "is_above", "Tree.is_above", C8.fnArgs s_Tree_is_above, C8.fnBody s_Tree_is_above, C8.fnScope s_Tree_is_above, [], []⟩
def d_Tree_place : He.DefD := ⟨("Tree", some "place"), "place", "Tree.place", C8.fnArgs s_Tree_place, C8.fnBody s_Tree_place, C8.fnScope s_Tree_place, [], []⟩
def fnL : List He.DefD := [d_is_number, d_reaches_root, d_fits, d_law_bag, d_law_take, d_law_number, d_law_tree, d_law_ancestors, d_law_place, d_law, d_Tree__init_, d_Tree_is_folder, d_Tree_is_above, d_Tree_place]
def faL : List He.Fa := [.glo "is_number", .glo "reaches_root", .glo "fits", .glo "_law_bag", .glo "_law_take", .glo "_law_number", .glo "_law_tree", .glo "_law_ancestors", .glo "_law_place", .glo "law", .free "int", .free "bool", .free "abs", .free "len", .free "range", .free "isinstance", .free "list", .free "dict", .free "all", .free "set", .free "sorted", .free "max", .free "min", .free "str", .int "MOST" 1000000000, .cls "Tree", .noat "Tree" "parents", .noat "Tree" "spots", .meth "Tree" "is_folder", .meth "Tree" "is_above", .meth "Tree" "place", .mkr "Tree", .glo "Tree"]
def loose0 : List Str := ["LockError", "BadTree", "NoThing", "MOST", "is_number", "reaches_root", "fits", "Tree", "_law_bag", "_law_take", "_law_number", "_law_tree", "_law_ancestors", "_law_place"]
def looseL : List Str := loose0
abbrev lawAt : Nat := 17

theorem def_of {K : PySem.W.Frag} {mg : Str → Option Value} {x : Str} {st : Stmt} {f : Addr} {fd : FuncData} (F : FunD K x x (C8.fnArgs st) (C8.fnBody st) (C8.fnScope st) [] [] f fd) (hm : mg x = some (.ref f)) : C8.Def K mg x st f fd := by
  obtain ⟨⟨oc, od, dV, kV, doc, pm, an, cdv, ct, osl, e, lk, hcd, _, _⟩, kp⟩ := F
  exact ⟨⟨oc, od, dV, kV, doc, pm, an, cdv, ct, osl, e, lk, hcd⟩, hm, kp⟩
/-- a tuple of the written part, at an address found by a path -/
def tupAt (K : PySem.W.Frag) (a : Addr) (vs : List V) : Bool := match K.lookup a with
  | some ⟨.type c, none, .seq its _, _⟩ => decide (c = "tuple") && (decide (its.size ≤ sizeLine) && He.relAll vs its.toList)
  | _ => false
theorem tupAt_ok {K : PySem.W.Frag} {a : Addr} {vs : List V} (h : tupAt K a vs = true) : (∀ H, SqT K H a vs) ∧ ∃ o, K.lookup a = some o ∧ o.cls = .type "tuple" ∧ o.dict = none := by
  unfold tupAt at h
  split at h
  · rename_i c its n sl q
    obtain ⟨h1, h2⟩ := He.ba h
    obtain ⟨h3, h4⟩ := He.ba h2
    have e : Value.type c = Value.type "tuple" := congrArg Value.type (of_decide_eq_true h1)
    exact ⟨fun H => .inr ⟨_, its, n, q, e, rfl, of_decide_eq_true h3, He.relAll_ok h4⟩, _, q, e, rfl⟩
  · cases h
abbrev rowR : PySem.W.OpenRow := PySem.W.OpenLaw.row PySem.Challenge.rw_movinglocks_k03_places

theorem fun_of {K : PySem.W.Frag} {x qual : Str} {st : Stmt} {f : Addr} {fd : FuncData} (F : FunD K x qual (C8.fnArgs st) (C8.fnBody st) (C8.fnScope st) [] [] f fd) : C8.Fun K x qual st f fd := by
  obtain ⟨⟨oc, od, dV, kV, doc, pm, an, cdv, ct, osl, e, lk, hcd, _, _⟩, kp⟩ := F
  exact ⟨oc, od, dV, kV, doc, pm, an, cdv, ct, osl, e, lk, hcd⟩

def exB (K : PySem.W.Frag) : Bool := true
def tsL : List He.Tab := []
abbrev hk : PySem.W.Hook := He.hookX 4 faL fnL tsL [] exB
def ob (s : PySem.W.SharedT) : He.AlX := He.obsX 4 faL fnL tsL [] exB (HandSHeadRun.getT s)
theorem ob_eq (s : PySem.W.SharedT) : ob s = hk.obs s.abs := He.obsX_eq (HandSHeadRun.getT_eq s)
theorem run (w : World) : HandSHeadRun.RunEq rowR (PySem.W.view rowR.prog [lawAt]) hk ob 3000 looseL w :=
  PySem.W.byRow2 "special-get-raises" (P := fun w => HandSHeadRun.RunEq rowR (PySem.W.view rowR.prog [lawAt]) hk ob 3000 looseL w) (fun w os => by kernel_rfl) (fun w os => by kernel_rfl) w
theorem facts {P : Program} {w : World} {K : PySem.W.Frag} {h : Heap} {mg : Str → Option Value} {f : Addr} (X : K.In h) (G : h.Ns mainGlobals mg) (hfa : mg ("law" : Str) = some (.ref f)) (c : He.SaysX faL fnL tsL [] exB w h K) :
    ∃ fd : FuncData, (∀ (s : Shared) (v : Value), BindsTo s fd ⟨[v], []⟩ [("_law_script", v)]) ∧ ∀ base : Heap, K.In base → base.Ns mainGlobals mg → FnOk P w K mg base C8.CX0 5 f fd ["_law_script"] (spLaw K) := by
  obtain ⟨tM, hM⟩ := He.int_ok X G (c.t.d.fact 24 (f := .int "MOST" 1000000000) rfl)
  have TC : TxCls K (He.ga K "Tree") := ⟨He.cls_ok (c.t.d.fact 25 (f := .cls "Tree") rfl), He.noat_ok (c.t.d.fact 26 (f := .noat "Tree" "parents") rfl), He.noat_ok (c.t.d.fact 27 (f := .noat "Tree" "spots") rfl)⟩
  obtain ⟨fd1, F1⟩ := (c.t.d.def_ 0 (d := d_is_number) rfl)
  obtain ⟨fd2, F2⟩ := (c.t.d.def_ 1 (d := d_reaches_root) rfl)
  obtain ⟨fd3, F3⟩ := (c.t.d.def_ 2 (d := d_fits) rfl)
  obtain ⟨fd4, F4⟩ := (c.t.d.def_ 10 (d := d_Tree__init_) rfl)
  obtain ⟨fd5, F5⟩ := (c.t.d.def_ 11 (d := d_Tree_is_folder) rfl)
  obtain ⟨fd6, F6⟩ := (c.t.d.def_ 12 (d := d_Tree_is_above) rfl)
  obtain ⟨fd7, F7⟩ := (c.t.d.def_ 13 (d := d_Tree_place) rfl)
  obtain ⟨fd8, F8⟩ := (c.t.d.def_ 3 (d := d_law_bag) rfl)
  obtain ⟨fd9, F9⟩ := (c.t.d.def_ 4 (d := d_law_take) rfl)
  obtain ⟨fd10, F10⟩ := (c.t.d.def_ 5 (d := d_law_number) rfl)
  obtain ⟨fd11, F11⟩ := (c.t.d.def_ 6 (d := d_law_tree) rfl)
  obtain ⟨fd12, F12⟩ := (c.t.d.def_ 7 (d := d_law_ancestors) rfl)
  obtain ⟨fd13, F13⟩ := (c.t.d.def_ 8 (d := d_law_place) rfl)
  obtain ⟨fd, F⟩ := (c.t.d.def_ 9 (d := d_law) rfl)
  have e := hfa.symm.trans (He.glo_ok X G (c.t.d.fact 9 (f := .glo "law") rfl))
  cases e
  have b := FunD.bindsA (ps := ["_law_script"]) F fun _ _ _ _ _ _ us hl => match us, hl with | [_], _ => rfl
  have b1 : Binds K fd1 ["value"] [] := F1.bindsN fun _ _ _ _ _ _ us hl => match us, hl with | [_], _ => rfl
  have b2 : Binds K fd2 ["parents", "folder"] [] := F2.bindsN fun _ _ _ _ _ _ us hl => match us, hl with | [_, _], _ => rfl
  have b3 : Binds K fd3 ["folders", "files"] [] := F3.bindsN fun _ _ _ _ _ _ us hl => match us, hl with | [_, _], _ => rfl
  have b4 : Binds K fd4 ["self", "folders", "files"] [] := F4.bindsN fun _ _ _ _ _ _ us hl => match us, hl with | [_, _, _], _ => rfl
  have b5 : Binds K fd5 ["self", "number"] [] := F5.bindsN fun _ _ _ _ _ _ us hl => match us, hl with | [_, _], _ => rfl
  have b6 : Binds K fd6 ["self", "upper", "lower"] [] := F6.bindsN fun _ _ _ _ _ _ us hl => match us, hl with | [_, _, _], _ => rfl
  have b7 : Binds K fd7 ["self", "one", "other"] [] := F7.bindsN fun _ _ _ _ _ _ us hl => match us, hl with | [_, _, _], _ => rfl
  have b8 : Binds K fd8 ["_law_script", "_law_at"] [] := F8.bindsN fun _ _ _ _ _ _ us hl => match us, hl with | [_, _], _ => rfl
  have b9 : Binds K fd9 ["_law_bag_here", "_law_many"] [] := F9.bindsN fun _ _ _ _ _ _ us hl => match us, hl with | [_, _], _ => rfl
  have b10 : Binds K fd10 ["_law_bag_here", "_law_used"] [] := F10.bindsN fun _ _ _ _ _ _ us hl => match us, hl with | [_, _], _ => rfl
  have b11 : Binds K fd11 ["_law_bag_here", "_law_most", "_law_more"] [] := F11.bindsN fun _ _ _ _ _ _ us hl => match us, hl with | [_, _, _], _ => rfl
  have b12 : Binds K fd12 ["_law_folders", "_law_folder"] [] := F12.bindsN fun _ _ _ _ _ _ us hl => match us, hl with | [_, _], _ => rfl
  have b13 : Binds K fd13 ["_law_folders", "_law_one", "_law_other"] [] := F13.bindsN fun _ _ _ _ _ _ us hl => match us, hl with | [_, _, _], _ => rfl
  refine ⟨fd, fun s v => b s [v] rfl, fun base _ _ => ?_⟩
  have C1 : C8.Cal P w K mg base 1 "is_number" spNum [] := ok_num (def_of F1 (He.glo_ok X G (c.t.d.fact 0 (f := .glo "is_number") rfl))) b1 ⟨(He.free_ok X G (c.t.d.fact 15 (f := .free "isinstance") rfl)), (He.free_ok X G (c.t.d.fact 10 (f := .free "int") rfl)), (He.free_ok X G (c.t.d.fact 11 (f := .free "bool") rfl)), ⟨_, hM, tM, rfl⟩⟩
  have C2 : C8.Cal P w K mg base 1 "reaches_root" spReach [] := ok_reach (def_of F2 (He.glo_ok X G (c.t.d.fact 1 (f := .glo "reaches_root") rfl))) b2 ⟨(He.free_ok X G (c.t.d.fact 14 (f := .free "range") rfl)), (He.free_ok X G (c.t.d.fact 13 (f := .free "len") rfl))⟩
  have C3 : C8.Cal P w K mg base 2 "fits" spFits [] := ok_fits (def_of F3 (He.glo_ok X G (c.t.d.fact 2 (f := .glo "fits") rfl))) b3 ⟨(He.free_ok X G (c.t.d.fact 18 (f := .free "all") rfl)), (He.free_ok X G (c.t.d.fact 16 (f := .free "list") rfl)), (He.free_ok X G (c.t.d.fact 13 (f := .free "len") rfl)), (He.free_ok X G (c.t.d.fact 19 (f := .free "set") rfl))⟩ C1 C2
  have C4 : C8.Mak P w K mg base 3 "Tree" (He.ga K "Tree") (spInit (He.ga K "Tree")) [] := ⟨_, fd4, _, [], He.mkr_ok (c.t.d.fact 31 (f := .mkr "Tree") rfl), ok_init (fun_of F4) ⟨(He.free_ok X G (c.t.d.fact 20 (f := .free "sorted") rfl))⟩ TC C3, (He.glo_ok X G (c.t.d.fact 32 (f := .glo "Tree") rfl)), b4, .nil⟩
  have C5 : C8.Met P w K mg base 1 (He.ga K "Tree") "is_folder" (spIsFo (He.ga K "Tree")) [] := ok_isFo (fun_of F5) b5 (He.meth_ok (c.t.d.fact 28 (f := .meth "Tree" "is_folder") rfl)) TC
  have C6 : C8.Met P w K mg base 1 (He.ga K "Tree") "is_above" (spAboveT (He.ga K "Tree")) [] := ok_aboveT (fun_of F6) b6 (He.meth_ok (c.t.d.fact 29 (f := .meth "Tree" "is_above") rfl)) TC
  have C7 : C8.Met P w K mg base 2 (He.ga K "Tree") "place" (spPlaceT (He.ga K "Tree")) [] := ok_placeT (fun_of F7) b7 (He.meth_ok (c.t.d.fact 30 (f := .meth "Tree" "place") rfl)) TC C5 C6
  have C8' : C8.Cal P w K mg base 1 "_law_bag" (spBagB K) [] := ok_bagB (def_of F8 (He.glo_ok X G (c.t.d.fact 3 (f := .glo "_law_bag") rfl))) b8 ⟨(He.free_ok X G (c.t.d.fact 10 (f := .free "int") rfl)), (He.free_ok X G (c.t.d.fact 12 (f := .free "abs") rfl)), (He.free_ok X G (c.t.d.fact 13 (f := .free "len") rfl))⟩
  have C9 : C8.Cal P w K mg base 1 "_law_take" spTakeB [] := ok_takeB (def_of F9 (He.glo_ok X G (c.t.d.fact 4 (f := .glo "_law_take") rfl))) b9 ⟨(He.free_ok X G (c.t.d.fact 10 (f := .free "int") rfl))⟩
  have C10 : C8.Cal P w K mg base 2 "_law_number" spNumB [] := ok_numB (def_of F10 (He.glo_ok X G (c.t.d.fact 5 (f := .glo "_law_number") rfl))) b10 ⟨(He.free_ok X G (c.t.d.fact 10 (f := .free "int") rfl))⟩ C9
  have C11 : C8.Cal P w K mg base 3 "_law_tree" spTreeB [] := ok_treeB (def_of F11 (He.glo_ok X G (c.t.d.fact 6 (f := .glo "_law_tree") rfl))) b11 ⟨(He.free_ok X G (c.t.d.fact 17 (f := .free "dict") rfl)), (He.free_ok X G (c.t.d.fact 13 (f := .free "len") rfl)), (He.free_ok X G (c.t.d.fact 16 (f := .free "list") rfl)), (He.free_ok X G (c.t.d.fact 14 (f := .free "range") rfl))⟩ C9 C10
  have C12 : C8.Cal P w K mg base 1 "_law_ancestors" (spAncL K) [] := ok_ancL (def_of F12 (He.glo_ok X G (c.t.d.fact 7 (f := .glo "_law_ancestors") rfl))) b12
  have C13 : C8.Cal P w K mg base 2 "_law_place" spPlaceL [] := ok_placeL (def_of F13 (He.glo_ok X G (c.t.d.fact 8 (f := .glo "_law_place") rfl))) b13 C12
  exact ok_law (def_of F (He.glo_ok X G (c.t.d.fact 9 (f := .glo "law") rfl))) ⟨(He.free_ok X G (c.t.d.fact 15 (f := .free "isinstance") rfl)), (He.free_ok X G (c.t.d.fact 16 (f := .free "list") rfl)), (He.free_ok X G (c.t.d.fact 13 (f := .free "len") rfl)), (He.free_ok X G (c.t.d.fact 21 (f := .free "max") rfl)), (He.free_ok X G (c.t.d.fact 22 (f := .free "min") rfl)), (He.free_ok X G (c.t.d.fact 14 (f := .free "range") rfl)), (He.free_ok X G (c.t.d.fact 23 (f := .free "str") rfl))⟩ TC C8' C9 C11 C4 C7 C13

end Ml
open PySem PySem.W PySem.Calls PyProof.Rows
theorem PySem.Challenge.cw_movinglocks_k03_places_holds : PySem.Challenge.rw_movinglocks_k03_places.Holds := by
  w_on; o_law
  refine HandSHeadRun.head_any (r := Ml.rowR) (q := view Ml.rowR.prog [Ml.lawAt]) (H := Ml.hk) (ob := Ml.ob) (M := 3000) (loose := Ml.looseL) (d := HandSHeadRun.topDef Ml.rowR.prog Ml.lawAt) (kwd := []) Ml.ob_eq
    (by kernel_rfl) (fun s => by kernel_rfl) Ml.run (by kernel_rfl) (by kernel_rfl) (by kernel_rfl) (by rfl) (by first | assumption | decide +kernel) (by decide +kernel) ⟨rfl, rfl, rfl, rfl, rfl, by decide +kernel⟩ ?hw ?hc
  case hw => w_witness2
  case hc =>
    refine L2.walk_ofE (l := PySem.Challenge.rw_movinglocks_k03_places) (n := 63) (k := 5) (x := "_law_script") (CX := C8.CX0) rfl (by decide) (by kernel_rfl) ⟨rfl, by decide, by decide⟩ ?F (fun _ _ _ _ z => z)
    intro w mg fa h Y G hmg0
    obtain ⟨K, KX, c⟩ := Y
    have hmg : mg ("law" : PySem.Str) = some (.ref fa) := by
      have e : (HandSHeadRun.topDef Ml.rowR.prog Ml.lawAt).name = ("law" : PySem.Str) := by kernel_rfl
      rw [← e]
      exact hmg0
    obtain ⟨fd, hb, hF⟩ := Ml.facts (P := (PySem.Challenge.rw_movinglocks_k03_places).prog) (w := w) KX G hmg c
    exact ⟨K, fd, Ml.spLaw K, KX, hb, fun H a ns hl _ hS => ⟨a, ns, rfl, hS, hl, fun _ => rfl⟩, hF⟩
