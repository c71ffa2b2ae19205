import PyProof.Rows.All
import Wide.All
import OpenK.AllK
import Wide.FinOn
import HandS.ForMost
import HandS.Walk
import HandS.Deep
import HandS.Codes
import HandS.Strs
import HandS.IsInst
import HandS.More
import HandS.EndBits
import HandS.Wide
import HandS.Style
import HandS.TupAny
import HandS.Defaults
import HandS.Head0
import HandS.Head1
import HandS.Head2
import HandS.HeadEnd
import HandS.HeadHook1
import HandS.HeadHook2
import HandS.HeadHook3
import HandS.HeadHook4
import PySem.Challenge.RW_movinglocks_k36_places_put_together
set_option Elab.async false
set_option linter.all false
set_option maxRecDepth 100000
set_option maxHeartbeats 4000000
namespace Ml
open PySem L2
def topS (i : Nat) : Stmt := PySem.Challenge.pw_movinglocks_k36_places_put_together.main.body.getD i (.Pass ⟨0, 0, 0, 0⟩)
abbrev s_followed : Stmt := topS 3
abbrev nm_followed : List Str := ["place", "step_place"]
abbrev sc_followed : Scope := C8.fnScope s_followed
theorem fs_followed : FnScope nm_followed ["place", "step_place"] sc_followed := C8.fnScope_by (by decide +kernel)
abbrev s_law_bag : Stmt := topS 5
abbrev nm_law_bag : List Str := ["_law_script", "_law_at", "_law_primes", "_law_cell", "_law_large", "_law_mixed"]
abbrev sc_law_bag : Scope := C8.fnScope s_law_bag
theorem fs_law_bag : FnScope nm_law_bag ["_law_script", "_law_at"] sc_law_bag := C8.fnScope_by (by decide +kernel)
abbrev s_law_take : Stmt := topS 6
abbrev nm_law_take : List Str := ["_law_bag_here", "_law_size", "_law_digit"]
abbrev sc_law_take : Scope := C8.fnScope s_law_take
theorem fs_law_take : FnScope nm_law_take ["_law_bag_here", "_law_size"] sc_law_take := C8.fnScope_by (by decide +kernel)
abbrev s_law_trees : Stmt := topS 7
abbrev nm_law_trees : List Str := ["_law_found", "_law_folder", "_law_longer", "_law_parents", "_law_one"]
abbrev sc_law_trees : Scope := C8.fnScope s_law_trees
theorem fs_law_trees : FnScope nm_law_trees [] sc_law_trees := C8.fnScope_by (by decide +kernel)
abbrev s_law_above : Stmt := topS 8
abbrev nm_law_above : List Str := ["_law_parents", "_law_folder", "_law_found"]
abbrev sc_law_above : Scope := C8.fnScope s_law_above
theorem fs_law_above : FnScope nm_law_above ["_law_parents", "_law_folder"] sc_law_above := C8.fnScope_by (by decide +kernel)
abbrev s_law_place : Stmt := topS 9
abbrev nm_law_place : List Str := ["_law_parents", "_law_one", "_law_other", "_law_upper", "_law_lower"]
abbrev sc_law_place : Scope := C8.fnScope s_law_place
theorem fs_law_place : FnScope nm_law_place ["_law_parents", "_law_one", "_law_other"] sc_law_place := C8.fnScope_by (by decide +kernel)
abbrev s_law_wide : Stmt := topS 10
abbrev nm_law_wide : List Str := ["_law_place_here", "_law_wide_here"]
abbrev sc_law_wide : Scope := C8.fnScope s_law_wide
theorem fs_law_wide : FnScope nm_law_wide ["_law_place_here"] sc_law_wide := C8.fnScope_by (by decide +kernel)
abbrev s_law_places : Stmt := topS 11
abbrev nm_law_places : List Str := ["_law_parents", "_law_found", "_law_one", "_law_other"]
abbrev sc_law_places : Scope := C8.fnScope s_law_places
theorem fs_law_places : FnScope nm_law_places ["_law_parents"] sc_law_places := C8.fnScope_by (by decide +kernel)
abbrev s_law_seen : Stmt := topS 12
abbrev nm_law_seen : List Str := ["_law_seen_here", "_law_parents", "_law_places_here", "_law_first", "_law_last", "_law_lies", "_law_new", "_law_now"]
abbrev sc_law_seen : Scope := C8.fnScope s_law_seen
theorem fs_law_seen : FnScope nm_law_seen [] sc_law_seen := C8.fnScope_by (by decide +kernel)
abbrev s_law : Stmt := topS 13
abbrev nm_law : List Str := ["_law_script", "_law_seen_here", "_law_asks", "_law_lies", "_law_begin", "_law_place_here", "_law_due", "_law_told", "_law_now"]
abbrev sc_law : Scope := C8.fnScope s_law
theorem fs_law : FnScope nm_law ["_law_script"] sc_law := C8.fnScope_by (by decide +kernel)

/-! general -/
section
variable {X : Cx} {k j : Nat} {x : Str} {sp : Sp} {dvs : List V} {p pos : Pos}
theorem pe_c0 (c : C8.Cal X.prog X.w X.K X.mg X.base k x sp dvs) (hr : Room j X.A) (hk : k ≤ j) (hg : Gl X x) (hdb : (x == ("__debug__" : Str)) = false := by decide) :
    PE X (.Call (.Name x p) [] [] pos) (tCall sp dvs C8.E0 tNil) := by
  obtain ⟨f, fd, ps, ds, F, hm, kp, b, d⟩ := c.ex
  exact pe_call0 F (hr.mono hk) hg hm kp b d C8.pass0 hdb
end
/-- an expression, with a word behind it: what follows is shown once -/
def tJoin (t : TE) : TE := fun σ H Q => ∃ P : VK, t σ H P ∧ ∀ v H', P v H' → Q v H'
theorem pe_join1 {X : Cx} {e : Expr} {t : TE} (h : PE X e t) : PE X e (tJoin t) := ⟨fun pins s σ H Q I ⟨P, h1, h2⟩ =>
  thn (h.run pins s σ H P I h1) fun _ _ ⟨v, H', I', r, q⟩ => ⟨v, H', I', r, h2 v H' q⟩⟩
theorem q_join {t : TE} {σ : L2.St} {H : Hp} {Q : VK} (P : VK) (h : t σ H P) (q : ∀ v H', P v H' → Q v H') : tJoin t σ H Q := ⟨P, h, q⟩
/-- the heap keeps what it told -/
theorem same_new {H : Hp} {p : Addr} {o : HO} (h : H p = none) : Same H (upd H p o) := fun b u e => by
  rw [upd_ne (ne_of_none e h)]
  exact e
/-- all but one object is as it was -/
def But (p : Addr) (H H' : Hp) : Prop := ∀ b o, H b = some o → b ≠ p → H' b = some o
theorem but_upd {H : Hp} {p : Addr} {o : HO} : But p H (upd H p o) := fun b u e h => by
  rw [upd_ne h]
  exact e
theorem same_seqT {K : PySem.W.Frag} {H H' : Hp} {a : Addr} {xs : List V} (e : Same H H') (h : SqT K H a xs) : SqT K H' a xs := by
  rcases h with (h | ⟨o, h⟩) | h
  · exact .inl (.inl (e _ _ h))
  · exact .inl (.inr ⟨o, e _ _ h⟩)
  · exact .inr h
/-- what a def has made since its entry, each at a place of its own -/
structure Own (H0 H : Hp) (l : List (Addr × HO)) : Prop where
  same : Same H0 H
  get : ∀ x ∈ l, H x.1 = some x.2
  new : ∀ x ∈ l, H0 x.1 = none
  nd : (l.map (·.1)).Nodup
section
variable {H0 H H2 : Hp} {l : List (Addr × HO)} {p a : Addr} {ob ob' : HO} {x0 x1 x2 x3 : Addr × HO} {K : PySem.W.Frag} {xs : List V}
theorem Own.start (H : Hp) : Own H H [] := ⟨Same.refl H, (fun _ h => nomatch h), (fun _ h => nomatch h), List.nodup_nil⟩
theorem Own.fresh (o : Own H0 H l) (hp : H p = none) : p ∉ l.map (·.1) := fun h => by
  obtain ⟨x, hx, e⟩ := List.mem_map.mp h
  have := o.get x hx
  rw [e, hp] at this
  cases this
theorem Own.alloc (o : Own H0 H l) (hp : H p = none) (s : Same H H2) (h2 : H2 p = some ob) : Own H0 H2 ((p, ob) :: l) where
  same := o.same.trans s
  get := fun x hx => by
    rcases List.mem_cons.mp hx with e | hx
    · rw [e]; exact h2
    · exact s _ _ (o.get x hx)
  new := fun x hx => by
    rcases List.mem_cons.mp hx with e | hx
    · rw [e]; exact o.same.free hp
    · exact o.new x hx
  nd := List.nodup_cons.mpr ⟨o.fresh hp, o.nd⟩
theorem Own.ext (o : Own H0 H l) (s : Same H H2) : Own H0 H2 l := ⟨o.same.trans s, fun x hx => s _ _ (o.get x hx), o.new, o.nd⟩
theorem Own.tail (o : Own H0 H (x0 :: l)) : Own H0 H l := ⟨o.same, fun x hx => o.get x (List.mem_cons_of_mem _ hx), fun x hx => o.new x (List.mem_cons_of_mem _ hx), (List.nodup_cons.mp o.nd).2⟩
theorem Own.swap (o : Own H0 H (x0 :: x1 :: l)) : Own H0 H (x1 :: x0 :: l) := by
  obtain ⟨n1, n2⟩ := List.nodup_cons.mp o.nd
  obtain ⟨n3, n4⟩ := List.nodup_cons.mp n2
  refine ⟨o.same, fun x hx => o.get x ?_, fun x hx => o.new x ?_, ?_⟩
  · simp only [List.mem_cons] at hx ⊢
    rcases hx with h | h | h
    · exact .inr (.inl h)
    · exact .inl h
    · exact .inr (.inr h)
  · simp only [List.mem_cons] at hx ⊢
    rcases hx with h | h | h
    · exact .inr (.inl h)
    · exact .inl h
    · exact .inr (.inr h)
  · refine List.nodup_cons.mpr ⟨fun h => ?_, List.nodup_cons.mpr ⟨fun h => n1 (List.mem_cons_of_mem _ h), n4⟩⟩
    rcases List.mem_cons.mp h with e | h
    · exact n1 (List.mem_cons.mpr (.inl e.symm))
    · exact n3 h
theorem Own.rot (o : Own H0 H (x0 :: x1 :: x2 :: l)) : Own H0 H (x2 :: x0 :: x1 :: l) := by
  have o1 : Own H0 H (x0 :: x2 :: x1 :: l) := by
    have t := o.tail.swap
    obtain ⟨n1, n2⟩ := List.nodup_cons.mp o.nd
    refine ⟨o.same, fun x hx => o.get x ?_, fun x hx => o.new x ?_, List.nodup_cons.mpr ⟨fun h => n1 ?_, t.nd⟩⟩
    · simp only [List.mem_cons] at hx ⊢
      rcases hx with h | h | h | h
      · exact .inl h
      · exact .inr (.inr (.inl h))
      · exact .inr (.inl h)
      · exact .inr (.inr (.inr h))
    · simp only [List.mem_cons] at hx ⊢
      rcases hx with h | h | h | h
      · exact .inl h
      · exact .inr (.inr (.inl h))
      · exact .inr (.inl h)
      · exact .inr (.inr (.inr h))
    · simp only [List.map_cons, List.mem_cons] at h ⊢
      rcases h with h | h | h
      · exact .inr (.inl h)
      · exact .inl h
      · exact .inr (.inr h)
  exact o1.swap
/-- the first one is changed -/
theorem Own.put (o : Own H0 H ((a, ob) :: l)) (b : But a H H2) (h2 : H2 a = some ob') : Own H0 H2 ((a, ob') :: l) := by
  obtain ⟨n1, n2⟩ := List.nodup_cons.mp o.nd
  have na : H0 a = none := o.new (a, ob) List.mem_cons_self
  refine ⟨fun c u e => b c u (o.same c u e) (ne_of_none e na), fun x hx => ?_, fun x hx => ?_, o.nd⟩
  · rcases List.mem_cons.mp hx with e | hx
    · rw [e]; exact h2
    · exact b _ _ (o.get x (List.mem_cons_of_mem _ hx)) fun e => n1 (by show a ∈ _; rw [← e]; exact List.mem_map_of_mem hx)
  · rcases List.mem_cons.mp hx with e | hx
    · rw [e]; exact na
    · exact o.new x (List.mem_cons_of_mem _ hx)
theorem Own.put1 (o : Own H0 H (x0 :: (a, ob) :: l)) (b : But a H H2) (h2 : H2 a = some ob') : Own H0 H2 (x0 :: (a, ob') :: l) := (o.swap.put b h2).swap
theorem Own.put2 (o : Own H0 H (x0 :: x1 :: (a, ob) :: l)) (b : But a H H2) (h2 : H2 a = some ob') : Own H0 H2 (x0 :: x1 :: (a, ob') :: l) := (o.rot.put b h2).rot.rot
theorem Own.at0 (o : Own H0 H ((a, ob) :: l)) : H a = some ob := o.get (a, ob) List.mem_cons_self
theorem Own.at1 (o : Own H0 H (x0 :: (a, ob) :: l)) : H a = some ob := o.tail.at0
theorem Own.at2 (o : Own H0 H (x0 :: x1 :: (a, ob) :: l)) : H a = some ob := o.tail.at1
theorem Own.at3 (o : Own H0 H (x0 :: x1 :: x2 :: (a, ob) :: l)) : H a = some ob := o.tail.at2
theorem Own.at4 (o : Own H0 H (x0 :: x1 :: x2 :: x3 :: (a, ob) :: l)) : H a = some ob := o.tail.at3
theorem Own.seq (o : Own H0 H l) (h : SqL K H0 a xs) : SqL K H a xs := o.same.seq h
theorem Own.seqT (o : Own H0 H l) (h : SqT K H0 a xs) : SqT K H a xs := same_seqT o.same h
theorem Own.old (o : Own H0 H l) (h : H0 a = some ob) : H a = some ob := o.same _ _ h
end
/-- what a builtin's name tells -/
abbrev Free (mg : Str → Option Value) (x : Str) : Prop := mg x = none
/-! ### readings, step by step -/
/-- behind d[y] = v, d[y], y in d -/
def kPut (N : Hp → Prop) (x y v : V) (H : Hp) : Prop := ∃ a H4, x = .ref a ∧ DPut H a y v H4 ∧ N H4
def kGet (Q : VK) (x y : V) (H : Hp) : Prop := ∃ a v, x = .ref a ∧ DGet H a y (some v) ∧ Q v H
def kIn (F : Bool → Hp → Prop) (x y : V) (H : Hp) : Prop := ∃ a o, x = .ref a ∧ DGet H a y o ∧ F o.isSome H
/-- behind a display -/
def kNew (mk : List V → HO) (Q : VK) : List V → Hp → Prop := fun xs H1 => xs.length ≤ sizeLine ∧ ∀ p, H1 p = none → Q (.ref p) (upd H1 p (mk xs))
section
variable {K : PySem.W.Frag} {σ : L2.St} {H : Hp} {Q : VK} {R : Bool → Hp → Prop} {D : Ends} {ta tb tc te tv tx td ty : TE} {t u : TT} {ts us : TS} {r r' : R2} {x y z v : V} {i j : Nat} {g : TG} {G : L2.St → Hp → Prop} {QA : List V → Hp → Prop} {tA tr : TA} {sp : Sp} {E : XK}
theorem q_var (h : σ[i]? = some (some v)) (q : Q v H) : tVar i σ H Q := ⟨v, h, q⟩
theorem q_c (q : Q v H) : tC v σ H Q := q
theorem q_op (q : ta σ H fun x H1 => tb σ H1 fun y H2 => r x y H2 Q) : tOp r ta tb σ H Q := q
theorem q_I0 {f : Int → Int → V} {a b : Int} (q : Q (f a b) H) : rI0 f (.int a) (.int b) H Q := ⟨a, b, rfl, rfl, q⟩
theorem q_I {C : Int → Int → Prop} {f : Int → Int → V} {a b : Int} (c : C a b) (q : Q (f a b) H) : rI C f (.int a) (.int b) H Q := ⟨a, b, rfl, rfl, c, q⟩
theorem q_mul {f : Int → Int → V} {a b : Int} (c : (-18446744073709551616 < a ∧ a < 18446744073709551616) ∨ (-18446744073709551616 < b ∧ b < 18446744073709551616)) (q : Q (f a b) H) : rI CMul f (.int a) (.int b) H Q := ⟨a, b, rfl, rfl, c, q⟩
theorem q_div {f : Int → Int → V} {a b : Int} (c : 0 < b ∧ b < 1073741824) (q : Q (f a b) H) : rI CDiv f (.int a) (.int b) H Q := ⟨a, b, rfl, rfl, c, q⟩
theorem q_pow {f : Int → Int → V} {a b : Int} (c : 0 ≤ b ∧ b ≤ 1000000 ∧ a.natAbs < 18446744073709551616) (q : Q (f a b) H) : rI CPow f (.int a) (.int b) H Q := ⟨a, b, rfl, rfl, c, q⟩
theorem q_un {f : Int → V} {a : Int} (q : Q (f a) H) : rU f (.int a) H Q := ⟨a, rfl, q⟩
theorem q_unop {ru : V → Hp → VK → Prop} (q : ta σ H fun x H1 => ru x H1 Q) : tUn ru ta σ H Q := q
theorem q_eq (h : scal x y = true) (q : Q (.bl (decide (x = y))) H) : rEq x y H Q := ⟨h, q⟩
theorem q_ne (h : scal x y = true) (q : Q (.bl (!decide (x = y))) H) : rNe x y H Q := ⟨h, q⟩
theorem q_test (q : ta σ H fun x H' => ∃ k, x = .bl k ∧ R k H') : tTest ta σ H R := q
theorem q_B (q : ta σ H fun x H' => ∃ k, x = .bl k ∧ R k H') : tB ta σ H R := q
theorem q_k {b : Bool} {F : Bool → Prop} (q : F b) : ∃ k, V.bl b = .bl k ∧ F k := ⟨b, rfl, q⟩
theorem q_and (q : t σ H fun c H1 => if c = true then u σ H1 R else R false H1) : tAnd t u σ H R := q
theorem q_or (q : t σ H fun c H1 => if c = true then R true H1 else u σ H1 R) : tOr t u σ H R := q
theorem q_not (q : t σ H fun c H1 => R (!c) H1) : tNot t σ H R := q
theorem q_andV (q : ta σ H fun x H1 => ∃ c, x = .bl c ∧ if c = true then tb σ H1 Q else Q (.bl false) H1) : tAndV ta tb σ H Q := q
theorem q_orV (q : ta σ H fun x H1 => ∃ c, x = .bl c ∧ if c = true then Q (.bl true) H1 else tb σ H1 Q) : tOrV ta tb σ H Q := q
theorem q_notV (q : ta σ H fun x H1 => ∃ c, x = .bl c ∧ Q (.bl (!c)) H1) : tNotV ta σ H Q := q
theorem q_if (q : t σ H fun c H1 => if c = true then ta σ H1 Q else tb σ H1 Q) : tIf t ta tb σ H Q := q
theorem q_next (q : D.nx σ H) : tNext D σ H := q
theorem q_seq (q : ts { D with nx := us D } σ H) : tSeq ts us D σ H := q
theorem q_cut (Mid : L2.St → Hp → Prop) (h : ts { D with nx := Mid } σ H) (q : ∀ σ' H', Mid σ' H' → us D σ' H') : C8.tCut ts us D σ H := ⟨Mid, h, q⟩
theorem q_drop (q : te σ H fun _ H1 => D.nx σ H1) : tDrop te D σ H := q
theorem q_ret (q : te σ H D.rt) : tRet te D σ H := q
theorem q_ifS (q : t σ H fun b H1 => if b = true then ts D σ H1 else us D σ H1) : tIfS t ts us D σ H := q
theorem q_name (q : G (σ.set i (some v)) H) : gName i v σ H G := q
theorem q_sub {to ti : TE} {tset : TSet} (q : to σ H fun o H1 => ti σ H1 fun i H2 => tset o i v H2 fun H3 => G σ H3) : gSub to ti tset v σ H G := q
theorem q_asg (q : te σ H fun x H1 => g x σ H1 D.nx) : tAsg te g D σ H := q
theorem q_par (q : tA σ H fun vs H1 => ∃ v w, vs = [v, w] ∧ D.nx ((σ.set i (some v)).set j (some w)) H1) : tPar i j tA D σ H := q
theorem q_par2 {w : V} {F : V → V → Prop} (q : F v w) : ∃ v' w', [v, w] = [v', w'] ∧ F v' w' := ⟨v, w, rfl, q⟩
theorem q_nil (q : QA [] H) : tNil σ H QA := q
theorem q_cons (q : ta σ H fun x H1 => tr σ H1 fun xs H2 => QA (x :: xs) H2) : tCons ta tr σ H QA := q
theorem q_tup (q : tA σ H (kNew HO.tup Q)) : tTup tA σ H Q := q
theorem q_lst (q : tA σ H (kNew HO.lst Q)) : tLst tA σ H Q := q
theorem q_new {xs : List V} {mk : List V → HO} (h : xs.length ≤ sizeLine) (q : ∀ p H2, H p = none → Same H H2 → H2 p = some (mk xs) → Q (.ref p) H2) : kNew mk Q xs H := ⟨h, fun p hp => q p _ hp (same_new hp) upd_same⟩
theorem q_cb {rc : List V → Hp → VK → Prop} (q : tA σ H fun vs H1 => rc vs H1 Q) : tCB rc tA σ H Q := q
theorem q_call {dvs : List V} (q : tA σ H fun vs H1 => sp (vs ++ dvs) H1 Q E) : tCall sp dvs E tA σ H Q := q
theorem q_int1 {n : Int} {F : Int → Prop} (q : F n) : ∃ i, [V.int n] = [.int i] ∧ F i := ⟨n, rfl, q⟩
theorem q_int {n : Int} {F : Int → Prop} {F2 : Prop} (q : F n) : (∃ i, [V.int n] = [.int i] ∧ F i) ∨ F2 := .inl ⟨n, rfl, q⟩
theorem q_ixL {p : Addr} {xs : List V} {n : Int} (h : SqL K H p xs) (e : atI xs n = some v) (q : Q v H) : rIxL K (.ref p) (.int n) H Q := ⟨p, xs, n, v, rfl, rfl, h, e, q⟩
theorem q_ixT {p : Addr} {xs : List V} {n : Int} (h : SqT K H p xs) (e : atI xs n = some v) (q : Q v H) : rIxT K (.ref p) (.int n) H Q := ⟨p, xs, n, v, rfl, rfl, h, e, q⟩
theorem q_setL {p : Addr} {xs : List V} {n : Int} {QH : Hp → Prop} (h : H p = some (.lst xs)) (e : ixN xs.length n = some j) (q : ∀ H2, But p H H2 → H2 p = some (.lst (xs.set j v)) → QH H2) : rSetL (.ref p) (.int n) v H QH := ⟨p, xs, n, j, rfl, rfl, h, e, q _ but_upd upd_same⟩
theorem q_len {p : Addr} {xs : List V} {F : List V → Prop} (h : SqL K H p xs) (q : F xs) : ∃ p' ys, [V.ref p] = [.ref p'] ∧ (SqL K H p' ys ∨ SqT K H p' ys) ∧ F ys := ⟨p, xs, rfl, .inl h, q⟩
theorem q_inL {neg : Bool} {p : Addr} {xs : List V} (h : SqL K H p xs) (hx : flatV x = true) (ha : xs.all flatV = true) (q : Q (.bl (if neg then !inV x xs else inV x xs)) H) : rIn K neg x (.ref p) H Q := ⟨p, xs, rfl, .inl h, hx, ha, q⟩
theorem q_inT {neg : Bool} {p : Addr} {xs : List V} (h : SqT K H p xs) (hx : flatV x = true) (ha : xs.all flatV = true) (q : Q (.bl (if neg then !inV x xs else inV x xs)) H) : rIn K neg x (.ref p) H Q := ⟨p, xs, rfl, .inr h, hx, ha, q⟩
theorem q_bm {T : String} {rm : V → List V → Hp → VK → Prop} {to : TE} (q : to σ H fun x H1 => tyV K T x H1 ∧ tA σ H1 fun xs H2 => rm x xs H2 Q) : tBM K T rm to tA σ H Q := q
theorem q_tyL {p : Addr} {xs : List V} {F : Prop} (h : SqL K H p xs) (q : F) : tyV K "list" (.ref p) H ∧ F := ⟨.inl ⟨rfl, xs, h⟩, q⟩
theorem q_append {p : Addr} {xs : List V} (h : H p = some (.lst xs)) (hl : xs.length < sizeLine) (q : ∀ H2, But p H H2 → H2 p = some (.lst (xs ++ [y])) → Q .non H2) : rAppend (.ref p) [y] H Q := ⟨p, xs, y, rfl, rfl, h, hl, q _ but_upd upd_same⟩
theorem q_extend {p b : Addr} {xs zs : List V} (h : H p = some (.lst xs)) (hb : H b = some (.lst zs)) (hl : xs.length + zs.length ≤ sizeLine) (q : ∀ H2, But p H H2 → H2 p = some (.lst (xs ++ zs)) → Q .non H2) : rExtend (.ref p) [.ref b] H Q := ⟨p, b, xs, zs, rfl, rfl, h, hb, hl, q _ but_upd upd_same⟩
theorem q_dput (q : tv σ H fun v H1 => td σ H1 fun x H2 => ty σ H2 fun y H3 => kPut (D.nx σ) x y v H3) : sDPut td ty tv D σ H := q
theorem q_putT {a b : Addr} {kvs : List (List Key × V)} {k : List Key} {N : Hp → Prop} (h : H a = some (.dT kvs)) (hb : H b = some (.tup (k.map kV))) (hl : kvs.length < sizeLine) (q : ∀ H2, But a H H2 → H2 a = some (.dT (putK kvs k v)) → N H2) : kPut N (.ref a) (.ref b) v H :=
  ⟨a, _, rfl, DPut.t h hb hl, q _ but_upd upd_same⟩
theorem q_putI {a : Addr} {kvs : List (Key × V)} {n : Int} {N : Hp → Prop} (h : H a = some (.dK kvs)) (hl : kvs.length < sizeLine) (q : ∀ H2, But a H H2 → H2 a = some (.dK (putK kvs (.inl n) v)) → N H2) : kPut N (.ref a) (.int n) v H :=
  ⟨a, _, rfl, DPut.k (k := .inl n) h hl, q _ but_upd upd_same⟩
theorem q_putS {a : Addr} {kvs : List (Key × V)} {n : Str} {N : Hp → Prop} (h : H a = some (.dK kvs)) (hl : kvs.length < sizeLine) (q : ∀ H2, But a H H2 → H2 a = some (.dK (putK kvs (.inr n) v)) → N H2) : kPut N (.ref a) (.str n) v H :=
  ⟨a, _, rfl, DPut.k (k := .inr n) h hl, q _ but_upd upd_same⟩
theorem q_dget (q : td σ H fun x H1 => ty σ H1 fun y H2 => kGet Q x y H2) : tDGet td ty σ H Q := q
theorem q_getT {a b : Addr} {kvs : List (List Key × V)} {k : List Key} (h : H a = some (.dT kvs)) (hb : H b = some (.tup (k.map kV))) (e : valV kvs k = some v) (q : Q v H) : kGet Q (.ref a) (.ref b) H := ⟨a, v, rfl, e ▸ DGet.t h hb, q⟩
theorem q_getI {a : Addr} {kvs : List (Key × V)} {n : Int} (h : H a = some (.dK kvs)) (e : valV kvs (.inl n) = some v) (q : Q v H) : kGet Q (.ref a) (.int n) H := ⟨a, v, rfl, e ▸ DGet.k (k := .inl n) h, q⟩
theorem q_getS {a : Addr} {kvs : List (Key × V)} {n : Str} (h : H a = some (.dK kvs)) (e : valV kvs (.inr n) = some v) (q : Q v H) : kGet Q (.ref a) (.str n) H := ⟨a, v, rfl, e ▸ DGet.k (k := .inr n) h, q⟩
theorem q_din (q : ty σ H fun y H1 => td σ H1 fun x H2 => kIn (fun b => Q (.bl b)) x y H2) : tDIn ty td σ H Q := q
theorem q_dnotin (q : ty σ H fun y H1 => td σ H1 fun x H2 => kIn (fun b => Q (.bl (!b))) x y H2) : tDNotIn ty td σ H Q := q
theorem q_inT' {a b : Addr} {kvs : List (List Key × V)} {k : List Key} {F : Bool → Hp → Prop} (h : H a = some (.dT kvs)) (hb : H b = some (.tup (k.map kV))) (q : F (valV kvs k).isSome H) : kIn F (.ref a) (.ref b) H := ⟨a, _, rfl, DGet.t h hb, q⟩
theorem q_inI' {a : Addr} {kvs : List (Key × V)} {n : Int} {F : Bool → Hp → Prop} (h : H a = some (.dK kvs)) (q : F (valV kvs (.inl n)).isSome H) : kIn F (.ref a) (.int n) H := ⟨a, _, rfl, DGet.k (k := .inl n) h, q⟩
theorem q_inS' {a : Addr} {kvs : List (Key × V)} {n : Str} {F : Bool → Hp → Prop} (h : H a = some (.dK kvs)) (q : F (valV kvs (.inr n)).isSome H) : kIn F (.ref a) (.str n) H := ⟨a, _, rfl, DGet.k (k := .inr n) h, q⟩
theorem q_dnewT (q : ∀ p H2, H p = none → Same H H2 → H2 p = some (.dT []) → Q (.ref p) H2) : tDNewT σ H Q := fun p hp => q p _ hp (same_new hp) upd_same
theorem q_dnewK (q : ∀ p H2, H p = none → Same H H2 → H2 p = some (.dK []) → Q (.ref p) H2) : tDNewK σ H Q := fun p hp => q p _ hp (same_new hp) upd_same
theorem q_gtup {n : Nat} {gs : TGs} {a : Addr} {xs : List V} (h : SqT K H a xs) (hl : xs.length = n) (q : gs xs σ H G) : gTup K n gs (.ref a) σ H G := ⟨a, xs, rfl, h, hl, q⟩
theorem q_gcons {gs : TGs} {xs : List V} (q : g x σ H fun σ' H' => gs xs σ' H' G) : gCons g gs (x :: xs) σ H G := ⟨x, xs, rfl, q⟩
theorem q_gnil (q : G σ H) : gNil [] σ H G := ⟨rfl, q⟩
theorem q_for {wi : TI} {tb : TS} (q : wi σ H fun J H1 => ∃ W : Nat → Nat → L2.St → Hp → Prop, (∃ m, W 0 m σ H1) ∧ ∀ i m σ H, W i m σ H →
  (J.stop i H ∧ D.nx σ H) ∨ (J.go i H ∧ ∃ N : L2.St → Hp → Prop, (∀ σ' H', N σ' H' → ∃ m', m' < m ∧ W (i + 1) m' σ' H') ∧ ∀ x H', J.yld i H x H' → g x σ H' fun σ2 H2 => tb { D with nx := N, ct := N, bk := D.nx } σ2 H2)) : tFor wi g tb D σ H := q
theorem q_iList {R : It → Hp → Prop} {tl : TE} (q : tl σ H fun x H1 => ∃ a, x = .ref a ∧ (∃ xs, SqL K H1 a xs) ∧ R (Itl K a) H1) : iList K tl σ H R := q
theorem q_iTup {R : It → Hp → Prop} {tl : TE} (q : tl σ H fun x H1 => ∃ a, x = .ref a ∧ (∃ xs, SqT K H1 a xs) ∧ R (Itt K a) H1) : iTup K tl σ H R := q
theorem q_itl {a : Addr} {xs : List V} {F : Addr → Prop} (h : SqL K H a xs) (q : F a) : ∃ a', V.ref a = .ref a' ∧ (∃ xs, SqL K H a' xs) ∧ F a' := ⟨a, rfl, ⟨xs, h⟩, q⟩
theorem q_itt {a : Addr} {xs : List V} {F : Addr → Prop} (h : SqT K H a xs) (q : F a) : ∃ a', V.ref a = .ref a' ∧ (∃ xs, SqT K H a' xs) ∧ F a' := ⟨a, rfl, ⟨xs, h⟩, q⟩
theorem q_rng1 {R : It → Hp → Prop} (q : tA σ H fun vs H1 => ∃ j : Int, vs = [.int j] ∧ -(2 ^ 62) ≤ j ∧ j < 2 ^ 62 ∧ R (Itr 0 j.toNat) H1) : iRng1 tA σ H R := q
theorem q_rng2 {R : It → Hp → Prop} (q : tA σ H fun vs H1 => ∃ i j : Int, vs = [.int i, .int j] ∧ (-(2 ^ 62) ≤ i ∧ i < 2 ^ 62 ∧ -(2 ^ 62) ≤ j ∧ j < 2 ^ 62) ∧ R (Itr i (j - i).toNat) H1) : iRng2 tA σ H R := q
theorem q_rng1' {n : Int} {F : Int → Prop} (h1 : -4611686018427387904 ≤ n) (h2 : n < 4611686018427387904) (q : F n) : ∃ j : Int, [V.int n] = [.int j] ∧ -(2 ^ 62) ≤ j ∧ j < 2 ^ 62 ∧ F j := ⟨n, rfl, h1, h2, q⟩
theorem q_rng2' {m n : Int} {F : Int → Int → Prop} (h0 : -4611686018427387904 ≤ m) (h1 : m < 4611686018427387904) (h2 : -4611686018427387904 ≤ n) (h3 : n < 4611686018427387904) (q : F m n) : ∃ i j : Int, [V.int m, V.int n] = [.int i, .int j] ∧ (-(2 ^ 62) ≤ i ∧ i < 2 ^ 62 ∧ -(2 ^ 62) ≤ j ∧ j < 2 ^ 62) ∧ F i j := ⟨m, n, rfl, ⟨h0, h1, h2, h3⟩, q⟩
theorem q_cat {p b : Addr} {xs zs : List V} (h : H p = some (.lst xs)) (hb : H b = some (.lst zs)) (hl : xs.length + zs.length ≤ sizeLine) (q : ∀ r H2, H r = none → Same H H2 → H2 r = some (.lst (xs ++ zs)) → Q (.ref r) H2) : rCat (.ref p) (.ref b) H Q := ⟨p, b, xs, zs, rfl, rfl, h, hb, hl, fun r hr => q r _ hr (same_new hr) upd_same⟩
theorem q_sl {rs : V → Option Int → Option Int → Hp → VK → Prop} {tl th : TO} (q : te σ H fun x H1 => tl σ H1 fun l H2 => th σ H2 fun u H3 => rs x l u H3 Q) : tSl rs te tl th σ H Q := q
theorem q_noPart {F : Option Int → Hp → Prop} (q : F none H) : tNoPart σ H F := q
theorem q_part {F : Option Int → Hp → Prop} (q : te σ H fun x H1 => ∃ i, x = .int i ∧ F (some i) H1) : tPart te σ H F := q
theorem q_part' {n : Int} {F : Int → Prop} (q : F n) : ∃ i, V.int n = .int i ∧ F i := ⟨n, rfl, q⟩
theorem q_slL {p : Addr} {xs : List V} {lo hi : Option Int} (h : SqL K H p xs) (q : ∀ r H2, H r = none → Same H H2 → H2 r = some (.lst (cutV xs lo hi)) → Q (.ref r) H2) : rSlL K (.ref p) lo hi H Q := ⟨p, xs, rfl, h, fun r hr => q r _ hr (same_new hr) upd_same⟩
theorem q_lc {wi : TI} {vs : List Nat} (q : wi σ H fun J H1 => ∀ D, H1 D = none → ∃ W : Nat → Nat → Hp → Prop, (∃ m, W 0 m (upd H1 D (.lst []))) ∧ ∀ i m H, W i m H →
  (J.stop i H ∧ Q (.ref D) H) ∨ (J.go i H ∧ ∃ Nx : Hp → Prop, (∀ H', Nx H' → ∃ m', m' < m ∧ W (i + 1) m' H') ∧ ∀ x H', J.yld i H x H' → g x (wipe σ vs) H' fun σ2 H2 => wipe σ2 vs = wipe σ vs ∧ t σ2 H2 fun b H3 =>
    if b = true then te σ2 H3 fun y H4 => ∃ acc, H4 D = some (.lst acc) ∧ acc.length < sizeLine ∧ Nx (upd H4 D (.lst (acc ++ [y]))) else Nx H3)) : tLc wi g t te vs σ H Q := q
theorem q_eqD {d e : PyData} (hd : Dp K H x d) (he : Dp K H y e) (sd : SeqAt.shaped d = true) (se : SeqAt.shaped e = true) (q : Q (.bl (PyData.eqv d e)) H) : rEqD K x y H Q := ⟨d, e, hd, he, sd, se, q⟩
theorem q_neD {d e : PyData} (hd : Dp K H x d) (he : Dp K H y e) (sd : SeqAt.shaped d = true) (se : SeqAt.shaped e = true) (q : Q (.bl (!PyData.eqv d e)) H) : rNeD K x y H Q := ⟨d, e, hd, he, sd, se, q⟩
theorem q_m0 {rm : V → List V → Hp → VK → Prop} {to : TE} (q : to σ H fun x H1 => (∃ a, x = .str a) ∧ rm x [] H1 Q) : tM0 rm to σ H Q := q
theorem q_m1 {rm : V → List V → Hp → VK → Prop} {to : TE} (q : to σ H fun x H1 => (∃ a, x = .str a) ∧ te σ H1 fun y H2 => rm x [y] H2 Q) : tM1 rm to te σ H Q := q
theorem q_isS {s : Str} {F : Prop} (q : F) : (∃ a, V.str s = .str a) ∧ F := ⟨⟨s, rfl⟩, q⟩
theorem q_yes (q : R true H) : tYes σ H R := q
theorem q_isN (q : Q (.bl (decide (x = .non))) H) : V.non = .non ∧ Q (.bl (decide (x = .non))) H := ⟨rfl, q⟩
theorem q_non {F : Prop} (q : F) : V.non = .non ∧ F := ⟨rfl, q⟩
end

/-! ### data that stays: at a base B below the heap -/
section
variable {K : PySem.W.Frag} {H H' : Hp}
mutual
theorem dp_same (s : Same H H') : ∀ (d : PyData) (v : V), Dp K H v d → Dp K H' v d
  | .none, _, h => by cases h; exact .non
  | .bool b, _, h => by cases h; exact .bl b
  | .int i, _, h => by cases h; exact .int i
  | .str x, _, h => by cases h; exact .str x
  | .list ds, _, h => by
    cases h with
    | lst hs ha => exact .lst (s.seq hs) (dpAll_same s ds _ ha)
  | .tuple ds, _, h => by
    cases h with
    | tup hs ha => exact .tup (same_seqT s hs) (dpAll_same s ds _ ha)
  | .dict _, _, h => by cases h
theorem dpAll_same (s : Same H H') : ∀ (ds : List PyData) (vs : List V), DpAll K H vs ds → DpAll K H' vs ds
  | [], _, h => by cases h; exact .nil
  | d :: ds, _, h => by
    cases h with
    | cons h1 h2 => exact .cons (dp_same s d _ h1) (dpAll_same s ds _ h2)
end
theorem dpa_len {vs : List V} : ∀ {ds : List PyData}, DpAll K H vs ds → vs.length = ds.length := fun {ds} h => by
  induction ds generalizing vs with
  | nil => cases h; rfl
  | cons d ds ih =>
    cases h with
    | cons h1 h2 => rw [List.length_cons, List.length_cons, ih h2]
theorem dpa_app : ∀ {vs ws : List V} {ds es : List PyData}, DpAll K H vs ds → DpAll K H ws es → DpAll K H (vs ++ ws) (ds ++ es) := fun {vs ws ds es} h k => by
  induction ds generalizing vs with
  | nil => cases h; exact k
  | cons d ds ih =>
    cases h with
    | cons h1 h2 => exact .cons h1 (ih h2)
theorem dpa_get {vs : List V} {ds : List PyData} (h : DpAll K H vs ds) {i : Nat} {v : V} (hv : vs[i]? = some v) : ∃ d, ds[i]? = some d ∧ Dp K H v d := by
  induction ds generalizing vs i with
  | nil => cases h; simp at hv
  | cons d ds ih =>
    cases h with
    | cons h1 h2 =>
      cases i with
      | zero =>
        simp at hv
        subst hv
        exact ⟨d, rfl, h1⟩
      | succ i => exact ih h2 (by simpa using hv)
theorem dpa_at {vs : List V} {ds : List PyData} (h : DpAll K H vs ds) {i : Nat} {d : PyData} (hd : ds[i]? = some d) : ∃ v, vs[i]? = some v ∧ Dp K H v d := by
  induction ds generalizing vs i with
  | nil => simp at hd
  | cons e ds ih =>
    cases h with
    | cons h1 h2 =>
      cases i with
      | zero =>
        simp at hd
        subst hd
        exact ⟨_, rfl, h1⟩
      | succ i => exact ih h2 (by simpa using hd)
theorem dp_list {v : V} {ds : List PyData} (h : Dp K H v (.list ds)) : ∃ a xs, v = .ref a ∧ SqL K H a xs ∧ DpAll K H xs ds := by
  cases h with
  | lst hs ha => exact ⟨_, _, rfl, hs, ha⟩
theorem dp_tuple {v : V} {ds : List PyData} (h : Dp K H v (.tuple ds)) : ∃ a xs, v = .ref a ∧ SqT K H a xs ∧ DpAll K H xs ds := by
  cases h with
  | tup hs ha => exact ⟨_, _, rfl, hs, ha⟩
theorem dp_int {v : V} {i : Int} (h : Dp K H v (.int i)) : v = .int i := by cases h; rfl
theorem dp_str {v : V} {x : Str} (h : Dp K H v (.str x)) : v = .str x := by cases h; rfl
theorem dp_bool {v : V} {b : Bool} (h : Dp K H v (.bool b)) : v = .bl b := by cases h; rfl
theorem dp_none {v : V} (h : Dp K H v .none) : v = .non := by cases h; rfl
end
/-- the base and the heap grow; what is not in ex stays -/
structure Grow (ex : List Addr) (B H B' H' : Hp) : Prop where
  same : ∀ a o, H a = some o → a ∉ ex → H' a = some o
  base : Same B B'
  sub : Same B' H'
  new : ∀ a, B' a ≠ none → B a ≠ none ∨ H a = none
/-- within a def: entry B0, H0; now B, H; l: what it may change -/
structure Fs (ex : List Addr) (B0 H0 B H : Hp) (l : List (Addr × HO)) : Prop where
  same : ∀ a o, H0 a = some o → a ∉ ex → H a = some o
  base : Same B0 B
  own : Own B H l
  new : ∀ a, B a ≠ none → B0 a ≠ none ∨ H0 a = none
  lnew : ∀ x ∈ l, x.1 ∈ ex ∨ H0 x.1 = none
section
variable {ex : List Addr} {B0 H0 B H B' H' B2 H2 : Hp} {l : List (Addr × HO)} {p a : Addr} {ob ob' : HO} {x0 x1 x2 x3 : Addr × HO} {K : PySem.W.Frag} {xs : List V} {v : V} {d : PyData}
theorem Grow.refl (s : Same B H) : Grow ex B H B H := ⟨fun _ _ h _ => h, Same.refl B, s, fun _ h => .inl h⟩
theorem Grow.all (g : Grow [] B H B' H') : Same H H' := fun b o h => g.same b o h (by simp)
theorem Fs.start (s : Same B H) : Fs ex B H B H [] := ⟨fun _ _ h _ => h, Same.refl B, ⟨s, (fun _ h => nomatch h), (fun _ h => nomatch h), List.nodup_nil⟩, fun _ h => .inl h, fun _ h => nomatch h⟩
theorem Fs.start1 (s : Same B H) (ha : H a = some ob) (hb : B a = none) : Fs [a] B H B H [(a, ob)] :=
  ⟨fun _ _ h _ => h, Same.refl B, ⟨s, (fun x h => by rw [List.mem_singleton.mp h]; exact ha), (fun x h => by rw [List.mem_singleton.mp h]; exact hb), by simp⟩, fun _ h => .inl h, fun x h => .inl (by rw [List.mem_singleton.mp h]; simp)⟩
theorem Fs.done (f : Fs ex B0 H0 B H l) : Grow ex B0 H0 B H := ⟨f.same, f.base, f.own.same, f.new⟩
theorem Fs.weak (f : Fs ex B0 H0 B H (x0 :: l)) : Fs ex B0 H0 B H l := ⟨f.same, f.base, f.own.tail, f.new, fun x hx => f.lnew x (List.mem_cons_of_mem _ hx)⟩
/-- nothing of H0 outside of ex is among l -/
theorem Fs.old (f : Fs ex B0 H0 B H l) {o : HO} (h0 : H0 a = some o) (he : a ∉ ex) : a ∉ l.map (·.1) := fun h => by
  obtain ⟨x, hx, e⟩ := List.mem_map.mp h
  rcases f.lnew x hx with z | z
  · rw [e] at z
    exact he z
  · rw [e, h0] at z
    cases z
theorem Fs.swap (f : Fs ex B0 H0 B H (x0 :: x1 :: l)) : Fs ex B0 H0 B H (x1 :: x0 :: l) := ⟨f.same, f.base, f.own.swap, f.new, fun x hx => f.lnew x (by
  simp only [List.mem_cons] at hx ⊢
  rcases hx with h | h | h
  · exact .inr (.inl h)
  · exact .inl h
  · exact .inr (.inr h))⟩
theorem Fs.rot (f : Fs ex B0 H0 B H (x0 :: x1 :: x2 :: l)) : Fs ex B0 H0 B H (x2 :: x0 :: x1 :: l) := ⟨f.same, f.base, f.own.rot, f.new, fun x hx => f.lnew x (by
  simp only [List.mem_cons] at hx ⊢
  rcases hx with h | h | h | h
  · exact .inr (.inr (.inl h))
  · exact .inl h
  · exact .inr (.inl h)
  · exact .inr (.inr (.inr h)))⟩
/-- a new thing that may change -/
theorem Fs.mut (f : Fs ex B0 H0 B H l) (hp : H p = none) (s : Same H H2) (h2 : H2 p = some ob) (h0 : H0 p = none := by assumption) : Fs ex B0 H0 B H2 ((p, ob) :: l) :=
  ⟨fun b o h he => s b o (f.same b o h he), f.base, f.own.alloc hp s h2, f.new, fun x hx => by
    rcases List.mem_cons.mp hx with e | hx
    · rw [e]; exact .inr h0
    · exact f.lnew x hx⟩
/-- the heap alone grows -/
theorem Fs.ext (f : Fs ex B0 H0 B H l) (s : Same H H2) : Fs ex B0 H0 B H2 l := ⟨fun b o h he => s b o (f.same b o h he), f.base, f.own.ext s, f.new, f.lnew⟩
/-- a new place is new for the entry, too -/
theorem Fs.fresh (f : Fs [] B0 H0 B H l) (hp : H p = none) : H0 p = none := by
  cases q : H0 p with
  | none => rfl
  | some o =>
    rw [f.same p o q (by simp)] at hp
    cases hp
theorem Fs.fresh1 (f : Fs [a] B0 H0 B H ((a, ob) :: l)) (hp : H p = none) : H0 p = none := by
  cases q : H0 p with
  | none => rfl
  | some o =>
    by_cases e : p = a
    · subst e
      rw [f.own.at0] at hp
      cases hp
    · rw [f.same p o q (by simpa using e)] at hp
      cases hp
/-- a new thing that stays -/
theorem Fs.stay (f : Fs ex B0 H0 B H l) (hp : H p = none) (s : Same H H2) (h2 : H2 p = some ob) (h0 : H0 p = none := by assumption) : Fs ex B0 H0 (upd B p ob) H2 l := by
  have bp : B p = none := by
    cases q : B p with
    | none => rfl
    | some o =>
      rw [f.own.same p o q] at hp
      cases hp
  refine ⟨fun b o h he => s b o (f.same b o h he), fun b o h => ?_, ⟨fun b o h => ?_, fun x hx => s _ _ (f.own.get x hx), fun x hx => ?_, f.own.nd⟩, fun b h => ?_, f.lnew⟩
  · exact same_new bp b o (f.base b o h)
  · by_cases e : b = p
    · subst e
      rw [upd_same] at h
      cases h
      exact h2
    · rw [upd_ne e] at h
      exact s b o (f.own.same b o h)
  · rw [upd_ne]
    · exact f.own.new x hx
    · intro e
      have z := f.own.get x hx
      rw [e, hp] at z
      cases z
  · by_cases e : b = p
    · subst e
      exact .inr h0
    · rw [upd_ne e] at h
      exact f.new b h
/-- the first thing changes no more -/
theorem Fs.freeze (f : Fs ex B0 H0 B H ((p, ob) :: l)) (h0 : H0 p = none := by assumption) : Fs ex B0 H0 (upd B p ob) H l := by
  obtain ⟨n1, n2⟩ := List.nodup_cons.mp f.own.nd
  have bp : B p = none := f.own.new (p, ob) List.mem_cons_self
  refine ⟨f.same, fun b o h => same_new bp b o (f.base b o h), ⟨fun b o h => ?_, fun x hx => f.own.get x (List.mem_cons_of_mem _ hx), fun x hx => ?_, n2⟩, fun b h => ?_, fun x hx => f.lnew x (List.mem_cons_of_mem _ hx)⟩
  · by_cases e : b = p
    · subst e
      rw [upd_same] at h
      cases h
      exact f.own.at0
    · rw [upd_ne e] at h
      exact f.own.same b o h
  · rw [upd_ne]
    · exact f.own.new x (List.mem_cons_of_mem _ hx)
    · intro e
      exact n1 (by show p ∈ _; rw [← e]; exact List.mem_map_of_mem hx)
  · by_cases e : b = p
    · subst e
      exact .inr h0
    · rw [upd_ne e] at h
      exact f.new b h
theorem Fs.put (f : Fs ex B0 H0 B H ((a, ob) :: l)) (b : But a H H2) (h2 : H2 a = some ob') : Fs ex B0 H0 B H2 ((a, ob') :: l) :=
  ⟨fun c o h he => b c o (f.same c o h he) (by
    rintro rfl
    rcases f.lnew (c, ob) List.mem_cons_self with z | z
    · exact he z
    · rw [h] at z
      cases z), f.base, f.own.put b h2, f.new, fun x hx => by
    rcases List.mem_cons.mp hx with e | hx
    · rw [e]; exact f.lnew (a, ob) List.mem_cons_self
    · exact f.lnew x (List.mem_cons_of_mem _ hx)⟩
theorem Fs.put1 (f : Fs ex B0 H0 B H (x0 :: (a, ob) :: l)) (b : But a H H2) (h2 : H2 a = some ob') : Fs ex B0 H0 B H2 (x0 :: (a, ob') :: l) := (f.swap.put b h2).swap
theorem Fs.put2 (f : Fs ex B0 H0 B H (x0 :: x1 :: (a, ob) :: l)) (b : But a H H2) (h2 : H2 a = some ob') : Fs ex B0 H0 B H2 (x0 :: x1 :: (a, ob') :: l) := (f.rot.put b h2).rot.rot
/-- behind a call that changes nothing -/
theorem Fs.call (f : Fs ex B0 H0 B H l) (g : Grow [] B H B' H') (hn : ∀ p, H p = none → H0 p = none := by intro p hp; first | exact Fs.fresh (by assumption) hp | exact Fs.fresh1 (by assumption) hp) : Fs ex B0 H0 B' H' l :=
  have key : ∀ x ∈ l, B' x.1 = none := fun x hx => by
    cases q : B' x.1 with
    | none => rfl
    | some o =>
      rcases g.new x.1 (by rw [q]; simp) with z | z
      · exact absurd (f.own.new x hx) z
      · have y := f.own.get x hx
        rw [z] at y
        cases y
  ⟨fun b o h he => g.all b o (f.same b o h he), f.base.trans g.base, ⟨g.sub, (fun x hx => g.all _ _ (f.own.get x hx)), key, f.own.nd⟩, (fun b h => (g.new b h).elim (fun z => f.new b z) (fun z => .inr (hn b z))), f.lnew⟩
/-- behind a call that changes the first one -/
theorem Fs.callBut (f : Fs ex B0 H0 B H ((a, ob) :: l)) (g : Grow [a] B H B' H') (h2 : H' a = some ob') (hn : ∀ p, H p = none → H0 p = none := by intro p hp; first | exact Fs.fresh (by assumption) hp | exact Fs.fresh1 (by assumption) hp) : Fs ex B0 H0 B' H' ((a, ob') :: l) := by
  obtain ⟨n1, n2⟩ := List.nodup_cons.mp f.own.nd
  have key : ∀ x ∈ (a, ob) :: l, B' x.1 = none := fun x hx => by
    cases q : B' x.1 with
    | none => rfl
    | some o =>
      rcases g.new x.1 (by rw [q]; simp) with z | z
      · exact absurd (f.own.new x hx) z
      · have y := f.own.get x hx
        rw [z] at y
        cases y
  refine ⟨fun b o h he => g.same b o (f.same b o h he) ?_, f.base.trans g.base, ⟨g.sub, fun x hx => ?_, fun x hx => ?_, f.own.nd⟩, fun b h => ?_, fun x hx => ?_⟩
  · intro e
    have e : b = a := by simpa using e
    subst e
    rcases f.lnew (b, ob) List.mem_cons_self with z | z
    · exact he z
    · rw [h] at z
      cases z
  · rcases List.mem_cons.mp hx with e | hx
    · rw [e]; exact h2
    · refine g.same _ _ (f.own.get x (List.mem_cons_of_mem _ hx)) fun e => ?_
      have e : x.1 = a := by simpa using e
      exact n1 (by show a ∈ _; rw [← e]; exact List.mem_map_of_mem hx)
  · rcases List.mem_cons.mp hx with e | hx
    · rw [e]; exact key (a, ob) List.mem_cons_self
    · exact key x (List.mem_cons_of_mem _ hx)
  · rcases g.new b h with z | z
    · exact f.new b z
    · exact .inr (hn b z)
  · rcases List.mem_cons.mp hx with e | hx
    · rw [e]; exact f.lnew (a, ob) List.mem_cons_self
    · exact f.lnew x (List.mem_cons_of_mem _ hx)
theorem Fs.at0 (f : Fs ex B0 H0 B H ((a, ob) :: l)) : H a = some ob := f.own.at0
theorem Fs.at1 (f : Fs ex B0 H0 B H (x0 :: (a, ob) :: l)) : H a = some ob := f.own.at1
theorem Fs.at2 (f : Fs ex B0 H0 B H (x0 :: x1 :: (a, ob) :: l)) : H a = some ob := f.own.at2
theorem Fs.at3 (f : Fs ex B0 H0 B H (x0 :: x1 :: x2 :: (a, ob) :: l)) : H a = some ob := f.own.at3
theorem Fs.seq (f : Fs ex B0 H0 B H l) (h : SqL K B a xs) : SqL K H a xs := f.own.seq h
theorem Fs.seqT (f : Fs ex B0 H0 B H l) (h : SqT K B a xs) : SqT K H a xs := f.own.seqT h
theorem Fs.seq0 (f : Fs ex B0 H0 B H l) (h : SqL K B0 a xs) : SqL K H a xs := f.own.seq (f.base.seq h)
theorem Fs.seqT0 (f : Fs ex B0 H0 B H l) (h : SqT K B0 a xs) : SqT K H a xs := f.own.seqT (same_seqT f.base h)
theorem Fs.get (f : Fs ex B0 H0 B H l) (h : B a = some ob) : H a = some ob := f.own.same _ _ h
theorem Fs.dp (f : Fs ex B0 H0 B H l) (h : Dp K B v d) : Dp K H v d := dp_same f.own.same _ _ h
theorem Fs.up (f : Fs ex B0 H0 B H l) (h : Dp K B0 v d) : Dp K B v d := dp_same f.base _ _ h
end
/-! ### lists by what their items are -/
section
variable {α β : Type} {R R' : α → β → Prop}
theorem pr_app : ∀ {xs ys : List α} {us ws : List β}, Paired R xs us → Paired R ys ws → Paired R (xs ++ ys) (us ++ ws)
  | _, _, _, _, .nil, k => k
  | _, _, _, _, .cons h t, k => .cons h (pr_app t k)
theorem pr_mono (f : ∀ a b, R a b → R' a b) : ∀ {xs : List α} {us : List β}, Paired R xs us → Paired R' xs us
  | _, _, .nil => .nil
  | _, _, .cons h t => .cons (f _ _ h) (pr_mono f t)
theorem pr_len : ∀ {xs : List α} {us : List β}, Paired R xs us → xs.length = us.length
  | _, _, .nil => rfl
  | _, _, .cons _ t => by rw [List.length_cons, List.length_cons, pr_len t]
theorem pr_at : ∀ {xs : List α} {us : List β} {i : Nat} {u : β}, Paired R xs us → us[i]? = some u → ∃ x, xs[i]? = some x ∧ R x u
  | _, _, i, u, .nil, e => by simp at e
  | _, _, 0, u, .cons h t, e => by simp at e; subst e; exact ⟨_, rfl, h⟩
  | _, _, i + 1, u, .cons h t, e => by
    obtain ⟨x, h1, h2⟩ := pr_at (i := i) (u := u) t (by simpa using e)
    exact ⟨x, by simpa using h1, h2⟩
theorem pr_get : ∀ {xs : List α} {us : List β} {i : Nat} {x : α}, Paired R xs us → xs[i]? = some x → ∃ u, us[i]? = some u ∧ R x u
  | _, _, i, u, .nil, e => by simp at e
  | _, _, 0, u, .cons h t, e => by simp at e; subst e; exact ⟨_, rfl, h⟩
  | _, _, i + 1, u, .cons h t, e => by
    obtain ⟨x, h1, h2⟩ := pr_get (i := i) (x := u) t (by simpa using e)
    exact ⟨x, by simpa using h1, h2⟩
end
theorem dpAll_of {K : PySem.W.Frag} {H : Hp} : ∀ {vs : List V} {ds : List PyData}, Paired (Dp K H) vs ds → DpAll K H vs ds
  | _, _, .nil => .nil
  | _, _, .cons h t => .cons h (dpAll_of t)
theorem of_dpAll {K : PySem.W.Frag} {H : Hp} : ∀ {ds : List PyData} {vs : List V}, DpAll K H vs ds → Paired (Dp K H) vs ds
  | [], _, h => by cases h; exact .nil
  | d :: ds, _, h => by
    cases h with
    | cons h1 h2 => exact .cons h1 (of_dpAll h2)
/-- a comprehension: outs tells for each turn what it gives, if anything; R B v o: v is o at the base B -/
theorem lcR {α : Type} {R : Hp → V → α → Prop} (mono : ∀ B B' v o, Same B B' → R B v o → R B' v o) {J : It} {G : Hp → Prop} {Y : Nat → Hp → V → Hp → Prop} {g : TG} {tt : TT} {te : TE} {vs : List Nat} {σ : L2.St} {B1 H1 : Hp} {D : Addr} {Qd : Hp → Prop} {outs : List (Option α)}
    (w : Walk J outs.length G Y) (hB : Same B1 H1) (hD : H1 D = none) (hG : ∀ H, Same B1 H → G H) (hsz : outs.length ≤ 1000000)
    (hs : ∀ (i : Nat) (x : V) (H H' B : Hp) (ws : List V) (Nx : V → Hp → Prop) (Nf : Hp → Prop), i < outs.length → Fs [] B1 H1 B H [(D, .lst ws)] → Y i H x H' →
      (∀ (y : V) (B' H4 : Hp) (d : α), outs[i]? = some (some d) → Grow [] B H B' H4 → R B' y d → Nx y H4) → (∀ B' H4, outs[i]? = some none → Grow [] B H B' H4 → Nf H4) →
      g x (wipe σ vs) H' fun σ2 H2 => wipe σ2 vs = wipe σ vs ∧ tt σ2 H2 fun b H3 => if b = true then te σ2 H3 Nx else Nf H3)
    (hd : ∀ B2 H2 ws, Fs [] B1 H1 B2 H2 [(D, .lst ws)] → Paired (R B2) ws (outs.filterMap id) → Qd H2) :
    ∃ W : Nat → Nat → Hp → Prop, (∃ m, W 0 m (upd H1 D (.lst []))) ∧ ∀ i m H, W i m H →
      (J.stop i H ∧ Qd H) ∨ (J.go i H ∧ ∃ Nx : Hp → Prop, (∀ H', Nx H' → ∃ m', m' < m ∧ W (i + 1) m' H') ∧ ∀ x H', J.yld i H x H' → g x (wipe σ vs) H' fun σ2 H2 => wipe σ2 vs = wipe σ vs ∧ tt σ2 H2 fun b H3 =>
        if b = true then te σ2 H3 fun y H4 => ∃ acc, H4 D = some (.lst acc) ∧ acc.length < sizeLine ∧ Nx (upd H4 D (.lst (acc ++ [y]))) else Nx H3) := by
  have f0 : Fs [] B1 H1 B1 (upd H1 D (.lst [])) [(D, .lst [])] := (Fs.start hB).mut hD (same_new hD) upd_same
  refine lc_it w (fun i H => ∃ B ws, Fs [] B1 H1 B H [(D, .lst ws)] ∧ Paired (R B) ws ((outs.take i).filterMap id) ∧ ws.length ≤ i) ⟨B1, [], f0, .nil, Nat.le_refl _⟩ ?_ ?_ ?_
  · rintro i H _ ⟨B, ws, f, _, _⟩
    exact hG H (f.base.trans f.own.same)
  · rintro i x H H' hi ⟨B, ws, f, da, hl⟩ y
    have hsl : (1000000 : Nat) < sizeLine := by decide
    have et : outs.take (i + 1) = outs.take i ++ [outs[i]] := by rw [List.take_succ_eq_append_getElem hi]
    refine hs i x H H' B ws _ _ hi f y (fun z B' H4 d e gr dp => ?_) (fun B' H4 e gr => ?_)
    · have f4 := f.call gr
      refine ⟨ws, f4.at0, by omega, B', ws ++ [z], f4.put but_upd upd_same, ?_, by simp; omega⟩
      have e2 : outs[i] = some d := by
        rw [List.getElem?_eq_getElem hi] at e
        exact Option.some.inj e
      rw [et, e2, List.filterMap_append]
      exact pr_app (pr_mono (fun a b h => mono _ _ _ _ gr.base h) da) (.cons dp .nil)
    · have f4 := f.call gr
      refine ⟨B', ws, f4, ?_, by omega⟩
      have e2 : outs[i] = none := by
        rw [List.getElem?_eq_getElem hi] at e
        exact Option.some.inj e
      rw [et, e2, List.filterMap_append]
      have z := pr_mono (fun a b h => mono _ _ _ _ gr.base h) da
      simpa using z
  · rintro H ⟨B, ws, f, da, hl⟩
    rw [List.take_length] at da
    exact hd _ H ws f da
/-- .. of data -/
theorem Fs.list {K : PySem.W.Frag} {B0 H0 B H : Hp} {l : List (Addr × HO)} {p : Addr} {ws : List V} {ds : List PyData} {ex : List Addr} (f : Fs ex B0 H0 B H ((p, .lst ws) :: l)) (h : Paired (Dp K B) ws ds) : Dp K (upd B p (.lst ws)) (.ref p) (.list ds) :=
  .lst (.inl (.inl upd_same)) (dpAll_same (same_new (f.own.new (p, .lst ws) List.mem_cons_self)) _ _ (dpAll_of h))
theorem dp_mono {K : PySem.W.Frag} : ∀ (B B' : Hp) (v : V) (d : PyData), Same B B' → Dp K B v d → Dp K B' v d := fun _ _ _ _ s h => dp_same s _ _ h

local macro_rules | `(tactic| walk_at "side") => `(tactic| first | with_reducible rfl | assumption | omega | (dsimp only; omega) | decide | (refine ⟨?_, ?_⟩ <;> omega) | (refine ⟨?_, ?_, ?_⟩ <;> first | omega | decide) | (left; refine ⟨?_, ?_⟩ <;> omega) | (right; refine ⟨?_, ?_⟩ <;> omega))
local macro_rules | `(tactic| walk_at "hp") => `(tactic| first | assumption | exact Own.at0 (by assumption) | exact Own.at1 (by assumption) | exact Own.at2 (by assumption) | exact Own.at3 (by assumption) | exact Own.at4 (by assumption) | exact Own.old (by assumption) (by assumption) | exact Fs.at0 (by assumption) | exact Fs.at1 (by assumption) | exact Fs.at2 (by assumption) | exact Fs.at3 (by assumption) | exact Fs.get (by assumption) (by assumption))
local macro_rules | `(tactic| walk_at "sq") => `(tactic| first | assumption | exact Own.seq (by assumption) (by assumption) | exact Own.seqT (by assumption) (by assumption) | exact Fs.seq (by assumption) (by assumption) | exact Fs.seqT (by assumption) (by assumption) | exact Fs.seq0 (by assumption) (by assumption) | exact Fs.seqT0 (by assumption) (by assumption) | exact SqL.of (by walk_at "hp") | exact SqT.of (by walk_at "hp"))
local macro_rules | `(tactic| walk_at "rd1") => `(tactic| first
  | ((with_reducible refine' q_var ?hv ?_); (case hv => rfl))
  | with_reducible refine' q_c ?_
  | with_reducible refine' q_op ?_
  | with_reducible refine' q_cons ?_
  | with_reducible refine' q_nil ?_
  | with_reducible refine' q_seq ?_
  | with_reducible refine' q_asg ?_
  | with_reducible refine' q_name ?_
  | with_reducible refine' q_test ?_
  | with_reducible refine' q_B ?_
  | with_reducible refine' q_k ?_
  | with_reducible refine' q_I0 ?_
  | ((with_reducible refine' q_mul ?hc ?_); (case hc => walk_at "side"))
  | ((with_reducible refine' q_div ?hc ?_); (case hc => walk_at "side"))
  | ((with_reducible refine' q_pow ?hc ?_); (case hc => walk_at "side"))
  | ((with_reducible refine' q_I ?hc ?_); (case hc => walk_at "side"))
  | ((with_reducible refine' q_eq ?hc ?_); (case hc => rfl))
  | ((with_reducible refine' q_ne ?hc ?_); (case hc => rfl))
  | with_reducible refine' q_ifS ?_
  | with_reducible refine' q_if ?_
  | with_reducible refine' q_and ?_
  | with_reducible refine' q_or ?_
  | with_reducible refine' q_not ?_
  | with_reducible refine' q_andV ?_
  | with_reducible refine' q_orV ?_
  | with_reducible refine' q_notV ?_
  | with_reducible refine' q_un ?_
  | with_reducible refine' q_unop ?_
  | with_reducible refine' q_next ?_
  | with_reducible refine' q_drop ?_
  | with_reducible refine' q_ret ?_
  | with_reducible refine' q_sub ?_
  | with_reducible refine' q_par ?_
  | with_reducible refine' q_par2 ?_
  | with_reducible refine' q_tup ?_
  | with_reducible refine' q_lst ?_
  | ((with_reducible refine' q_new ?hc ?_); (case hc => exact Nat.le_of_ble_eq_true rfl))
  | with_reducible refine' q_cb ?_
  | with_reducible refine' q_call ?_
  | with_reducible refine' q_bm ?_
  | ((with_reducible refine' q_rng1' ?ha ?hb ?_); (case ha => walk_at "side"); (case hb => walk_at "side"))
  | with_reducible refine' q_int1 ?_
  | with_reducible refine' q_int ?_
  | with_reducible refine' q_non ?_
  | ((with_reducible refine' q_ixL ?hs ?he ?_); (case hs => walk_at "sq"); (case he => first | rfl | exact atI_nat (j := 0) rfl | exact atI_nat (j := 1) rfl | exact atI_nat (j := 2) rfl))
  | ((with_reducible refine' q_ixT ?hs ?he ?_); (case hs => walk_at "sq"); (case he => first | rfl | exact atI_nat (j := 0) rfl | exact atI_nat (j := 1) rfl | exact atI_nat (j := 2) rfl))
  | ((with_reducible refine' q_setL ?hs ?he ?_); (case hs => walk_at "hp"); (case he => rfl))
  | ((with_reducible refine' q_len ?hs ?_); (case hs => walk_at "sq"))
  | ((with_reducible refine' q_tyL ?hs ?_); (case hs => walk_at "sq"))
  | with_reducible refine' q_m0 ?_
  | with_reducible refine' q_m1 ?_
  | with_reducible refine' q_isS ?_
  | with_reducible refine' q_dput ?_
  | with_reducible refine' q_dget ?_
  | with_reducible refine' q_din ?_
  | with_reducible refine' q_dnotin ?_
  | with_reducible refine' q_dnewT ?_
  | with_reducible refine' q_dnewK ?_
  | with_reducible refine' q_for ?_
  | with_reducible refine' q_iList ?_
  | with_reducible refine' q_iTup ?_
  | with_reducible refine' q_rng1 ?_
  | with_reducible refine' q_rng2 ?_
  | with_reducible refine' q_sl ?_
  | with_reducible refine' q_noPart ?_
  | with_reducible refine' q_part ?_
  | with_reducible refine' q_part' ?_
  | with_reducible refine' q_lc ?_
  | with_reducible refine' q_yes ?_
  | with_reducible refine' q_gcons ?_
  | with_reducible refine' q_gnil ?_
  | ((with_reducible refine' q_gtup ?hs ?hl ?_); (case hs => walk_at "sq"); (case hl => rfl))
  | ((with_reducible refine' q_rng2' ?ha ?hb ?hc ?hd ?_); (case ha => walk_at "side"); (case hb => walk_at "side"); (case hc => walk_at "side"); (case hd => walk_at "side"))
  | ((with_reducible refine' q_itl ?hs ?_); (case hs => walk_at "sq"))
  | ((with_reducible refine' q_itt ?hs ?_); (case hs => walk_at "sq"))
  | ((with_reducible refine' q_slL ?hs ?_); (case hs => walk_at "sq"))
  | ((with_reducible refine' q_append ?hs ?hl ?_); (case hs => walk_at "hp"); (case hl => walk_at "side")))
local macro_rules | `(tactic| walk_at "rd") => `(tactic| repeat walk_at "rd1")
/-! the bag and its draws (first kind: two numbers) -/
def spTake : Sp := fun vs H Q _ => ∃ (b : Addr) (L m n : Int), vs = [.ref b, .int n] ∧ H b = some (.lst [.int L, .int m]) ∧ 0 ≤ L ∧ 1 ≤ n ∧ n < 1073741824 ∧
  ∀ (H' : Hp) (L' m' d : Int), But b H H' → H' b = some (.lst [.int L', .int m']) → 0 ≤ L' → 0 ≤ d → d < n → Q (.int d) H'
structure TxTake (mg : Str → Option Value) : Prop where
  int : Free mg "int"
section
variable {P : Program} {w : World} {K : PySem.W.Frag} {mg : Str → Option Value} {base : Heap}
theorem ok_take {f : Addr} {fd : FuncData} (F : C8.Def K mg "_law_take" s_law_take f fd) (b : Binds K fd ["_law_bag_here", "_law_size"] []) (T : TxTake mg) : C8.Cal P w K mg base 1 "_law_take" spTake [] := by
  refine C8.cal0 F b .nil fs_law_take (fun vs H Q E h => ?_) (fun cdv A outer s H vs Q E hr h => ?_)
  · obtain ⟨b, L, m, n, rfl, _⟩ := h
    rfl
  · obtain ⟨b, L, m, n, rfl, hb, hL, hn, hn2, q⟩ := h
    have hu := hu_of hr
    refine ⟨_, (pss_cons (ps_if (pt_cmpR op_gt (pe_ix ix_list (pv 0) pe_int (fun _ _ => rfl)) pe_int (nomark _))
       (pss_cons (ps_set (i := 2) fs_law_take.nd rfl (Or.inl rfl) (pe_op op_mod (pe_callTy call_int1 (by rfl) T.int (by decide +kernel) (pa_cons (pe_ix ix_list (pv 0) pe_int (fun _ _ => rfl)) pa_nil)) (pv 1)))
       (pss_cons (ps_asg (pe_op op_fdiv (pe_ix ix_list (pv 0) pe_int (fun _ _ => rfl)) (pv 1)) (pg_sub (pv 0) pe_int set_list))
       (pss_one (ps_ret (pv 2)))))
       pss_nil)
      (pss_cons (ps_asg (pe_op op_mod (pe_callTy call_int1 (by rfl) T.int (by decide +kernel) (pa_cons (pe_op op_mul (pe_ix ix_list (pv 0) pe_int (fun _ _ => rfl)) pe_int) pa_nil)) pe_int) (pg_sub (pv 0) pe_int set_list))
      (pss_one (ps_ret (pe_op op_mod (pe_callTy call_int1 (by rfl) T.int (by decide +kernel) (pa_cons (pe_op op_fdiv (pe_op op_mod (pe_callTy call_int1 (by rfl) T.int (by decide +kernel) (pa_cons (pe_op op_mul (pe_ix ix_list (pv 0) pe_int (fun _ _ => rfl)) pe_int) pa_nil)) pe_int) (pe_op op_pow pe_int pe_int)) pa_nil)) (pv 1)))))), ?_⟩
    walk_at "rd"
    refine ite2 (fun h0 => ?_) (fun h0 => ?_)
    · walk_at "rd"
      intro H2 b2 h2
      walk_at "rd"
      have h1 : 0 < L := of_decide_eq_true h0
      exact q _ _ _ _ b2 h2 (Int.ediv_nonneg hL (by omega)) (Int.emod_nonneg _ (by omega)) (Int.emod_lt_of_pos _ (by omega))
    · walk_at "rd"
      intro H2 b2 h2
      have h3 : H2 b = some (.lst [.int L, .int (m * 48271 % 2147483647)]) := h2
      walk_at "rd"
      exact q H2 L _ _ b2 h3 hL (Int.emod_nonneg _ (by omega)) (Int.emod_lt_of_pos _ (by omega))
/-- the bag of a cell: its script may have any numbers -/
def spBag (K : PySem.W.Frag) : Sp := fun vs H Q _ => ∃ (a : Addr) (ns : List Int) (at_ : Nat), vs = [.ref a, .int (at_ : Int)] ∧ SqL K H a (ns.map V.int) ∧ at_ < 64 ∧
  ∀ (b : Addr) (H' : Hp) (L m : Int), H b = none → Same H H' → H' b = some (.lst [.int L, .int m]) → 0 ≤ L → Q (.ref b) H'
structure TxBag (mg : Str → Option Value) : Prop where
  int : Free mg "int"
  abs : Free mg "abs"
  len : Free mg "len"
theorem prime_at (i : Int) (h : 0 ≤ i) (h2 : i < 7) : ∃ v : Int, atI [V.int 2147483647, V.int 2147483629, V.int 2147483587, V.int 2147483579, V.int 2147483563, V.int 2147483549, V.int 2147483543] i = some (.int v) ∧ 0 < v ∧ v ≤ 2147483647 := by
  have e : i = 0 ∨ i = 1 ∨ i = 2 ∨ i = 3 ∨ i = 4 ∨ i = 5 ∨ i = 6 := by omega
  rcases e with rfl | rfl | rfl | rfl | rfl | rfl | rfl <;> exact ⟨_, rfl, by decide, by decide⟩
theorem ok_bag {f : Addr} {fd : FuncData} (F : C8.Def K mg "_law_bag" s_law_bag f fd) (b : Binds K fd ["_law_script", "_law_at"] []) (T : TxBag mg) : C8.Cal P w K mg base 1 "_law_bag" (spBag K) [] := by
  refine C8.cal0 F b .nil fs_law_bag (fun vs H Q E h => ?_) (fun cdv A outer s H vs Q E hr h => ?_)
  · obtain ⟨a, ns, at_, rfl, _⟩ := h
    rfl
  · obtain ⟨a, ns, at_, rfl, ha, hat, q⟩ := h
    have hu := hu_of hr
    refine ⟨_, (pss_cons (ps_set (i := 2) fs_law_bag.nd rfl (Or.inl rfl) (pe_tup (pa_cons pe_int (pa_cons pe_int (pa_cons pe_int (pa_cons pe_int (pa_cons pe_int (pa_cons pe_int (pa_cons pe_int pa_nil)))))))))
      (C8.pss_cut (ps_set (i := 3) fs_law_bag.nd rfl (Or.inl rfl) (pe_ifExp (pt_cmpR op_lt (pv 1) (pe_callB call_len_seq (by rfl) T.len (by decide +kernel) (pa_cons (pv 0) pa_nil)) (nomark _)) (pe_ix ix_list (pv 0) (pv 1) (fun _ _ => rfl)) pe_int))
      (C8.pss_cut (ps_set (i := 4) fs_law_bag.nd rfl (Or.inl rfl) (pe_ifExp (pt_cmpR op_ge (pe_callB call_abs (by rfl) T.abs (by decide +kernel) (pa_cons (pv 3) pa_nil)) (pe_op op_pow pe_int pe_int) (nomark _)) (pe_callB call_abs (by rfl) T.abs (by decide +kernel) (pa_cons (pv 3) pa_nil)) pe_int))
      (pss_cons (ps_set (i := 5) fs_law_bag.nd rfl (Or.inl rfl) (pe_op op_add (pe_op op_add (pe_op op_mod (pe_callTy call_int1 (by rfl) T.int (by decide +kernel) (pa_cons (pv 3) pa_nil)) pe_int) (pe_op op_mul pe_int (pv 1))) pe_int))
      (pss_cons (ps_set (i := 5) fs_law_bag.nd rfl (Or.inl rfl) (pe_op op_mod (pe_callTy call_int1 (by rfl) T.int (by decide +kernel) (pa_cons (pe_op op_pow (pv 5) pe_int) pa_nil)) (pe_ix ix_tup (pv 2) (pe_op op_mod (pe_callTy call_int1 (by rfl) T.int (by decide +kernel) (pa_cons (pv 1) pa_nil)) pe_int) (fun _ _ => rfl))))
      (pss_one (ps_ret (pe_lst (pa_cons (pv 4) (pa_cons (pe_op op_add (pe_op op_mod (pe_callTy call_int1 (by rfl) T.int (by decide +kernel) (pa_cons (pe_op op_mul (pv 5) (pe_op op_add (pe_op op_add (pe_op op_fdiv (pv 5) pe_int) (pe_op op_mul pe_int (pv 1))) pe_int)) pa_nil)) (pe_ix ix_tup (pv 2) (pe_op op_mod (pe_callTy call_int1 (by rfl) T.int (by decide +kernel) (pa_cons (pe_op op_add (pv 1) pe_int) pa_nil)) pe_int) (fun _ _ => rfl))) pe_int) pa_nil)))))))))), ?_⟩
    have o0 := Own.start H
    walk_at "rd"
    intro p H1 hp s1 h1
    have o1 := o0.alloc hp s1 h1
    walk_at "rd"
    refine q_cut (fun σ' H' => ∃ z : Int, σ' = [some (.ref a), some (.int at_), some (.ref p), some (.int z), none, none] ∧ H1 = H') ?_ ?_
    · walk_at "rd"
      refine ite2 (fun h0 => ?_) (fun h0 => ?_)
      · walk_at "rd"
        have h2 : (at_ : Int) < ((ns.map V.int).length : Int) := of_decide_eq_true h0
        have h3 : at_ < ns.length := by rw [List.length_map] at h2; omega
        refine q_ixL (o1.seq ha) (atI_nat (v := .int ns[at_]) (by rw [List.getElem?_map, List.getElem?_eq_getElem h3]; rfl)) ?_
        walk_at "rd"
        exact ⟨_, rfl, rfl⟩
      · walk_at "rd"
        exact ⟨_, rfl, rfl⟩
    rintro σ' H' ⟨z, rfl, rfl⟩
    refine q_cut (fun σ' H' => ∃ L : Int, 0 ≤ L ∧ σ' = [some (.ref a), some (.int at_), some (.ref p), some (.int z), some (.int L), none] ∧ H1 = H') ?_ ?_
    · walk_at "rd"
      refine ite2 (fun h0 => ?_) (fun h0 => ?_)
      · walk_at "rd"
        exact ⟨_, by split <;> omega, rfl, rfl⟩
      · walk_at "rd"
        exact ⟨0, by omega, rfl, rfl⟩
    rintro σ' H' ⟨L, hL, rfl, rfl⟩
    walk_at "rd"
    obtain ⟨v1, e1, a1, b1⟩ := prime_at (at_ % 7) (by omega) (by omega)
    obtain ⟨v2, e2, a2, b2⟩ := prime_at ((at_ + 2) % 7) (by omega) (by omega)
    generalize (z % 2305843009213693951 + 62417 * (at_ : Int) + 29) ^ Int.toNat 3 = X
    refine q_ixT (SqT.of h1) e1 ?_
    refine q_I a1 ?_
    have m1 : 0 ≤ X % v1 := Int.emod_nonneg _ (by omega)
    have m2 : X % v1 < v1 := Int.emod_lt_of_pos _ a1
    generalize X % v1 = mm at m1 m2 ⊢
    walk_at "rd"
    refine q_ixT (SqT.of h1) e2 ?_
    walk_at "rd"
    intro b H2 hb s2 h2
    exact q b H2 _ _ (o1.same.free hb) (o1.same.trans s2) h2 hL
end

/-! ### the law's trees of five folders -/
def encO : Option Nat → PyData
  | none => .none
  | some n => .int n
def encP (ps : List (Option Nat)) : List PyData := ps.map encO
abbrev vN (n : Nat) : V := V.int n
def encN (ns : List Nat) : List PyData := ns.map fun (n : Nat) => PyData.int n
/-- a parent is less than its child -/
def WfP (ps : List (Option Nat)) : Prop := ∀ (f p : Nat), ps[f]? = some (some p) → p < f
def aboveF (ps : List (Option Nat)) : Nat → Nat → List Nat
  | 0, _ => []
  | n + 1, f => match ps[f]? with
    | some (some p) => p :: aboveF ps n p
    | _ => []
theorem encP_at {ps : List (Option Nat)} {f : Nat} {o : Option Nat} (h : ps[f]? = some o) : (encP ps)[f]? = some (encO o) := by
  unfold encP
  rw [List.getElem?_map, h]
  rfl
def spAbove (K : PySem.W.Frag) : Sp := fun vs H Q _ => ∃ (B : Hp) (v : V) (ps : List (Option Nat)) (f : Nat), vs = [v, .int f] ∧ Same B H ∧ Dp K B v (.list (encP ps)) ∧ WfP ps ∧ f < ps.length ∧ f < 5 ∧
  ∀ B' H' r, Grow [] B H B' H' → Dp K B' r (.list (encN (aboveF ps 5 f))) → Q r H'
section
variable {P : Program} {w : World} {K : PySem.W.Frag} {mg : Str → Option Value} {base : Heap}
theorem dpN {H : Hp} : ∀ ns : List Nat, DpAll K H (ns.map vN) (encN ns)
  | [] => .nil
  | n :: ns => .cons (.int n) (dpN ns)
theorem ok_above {f : Addr} {fd : FuncData} (F : C8.Def K mg "_law_above" s_law_above f fd) (b : Binds K fd ["_law_parents", "_law_folder"] []) : C8.Cal P w K mg base 1 "_law_above" (spAbove K) [] := by
  refine C8.cal0 F b .nil fs_law_above (fun vs H Q E h => ?_) (fun cdv A outer s H vs Q E hr h => ?_)
  · obtain ⟨B, v, ps, f, rfl, _⟩ := h
    rfl
  · obtain ⟨B, v, ps, f0, rfl, hB, dv, wf, hf, hf5, q⟩ := h
    have hu := hu_of hr
    refine ⟨_, (pss_cons (ps_set (i := 2) fs_law_above.nd rfl (Or.inl rfl) (pe_lst pa_nil))
      (pss_cons (ps_while PassesOwn.never (pt_cmpR op_notN (pe_ix ix_list (pv 0) (pv 1) (fun _ _ => rfl)) pe_non (nomark _))
       (pss_cons (ps_set (i := 1) fs_law_above.nd rfl (Or.inl rfl) (pe_ix ix_list (pv 0) (pv 1) (fun _ _ => rfl)))
       (pss_one (ps_expr (pe_bm PySem.F.plainAttrs_list PySem.F.slot_list_append PySem.F.type_list_append mt_append (pv 2) (pa_cons (pv 1) pa_nil))))))
      (pss_one (ps_ret (pv 2))))), ?_⟩
    obtain ⟨a, xs, rfl, sq, da⟩ := dp_list dv
    have f1 : Fs [] B H B H [] := Fs.start hB
    walk_at "rd"
    intro l H1 hl s1 h1
    have f2 := f1.mut hl s1 h1
    walk_at "rd"
    refine while_by (fun σ H2 => ∃ (f n : Nat) (acc : List Nat), σ = [some (.ref a), some (.int f), some (.ref l)] ∧ Fs [] B H B H2 [(l, .lst (acc.map vN))] ∧ acc ++ aboveF ps n f = aboveF ps 5 f0 ∧ f < n ∧ n ≤ 5 ∧ f < ps.length ∧ acc.length + n = 5)
      (fun σ _ => match σ[1]? with | some (some (V.int f)) => f.toNat | _ => 0) ⟨f0, 5, [], rfl, f2, rfl, hf5, Nat.le_refl _, hf, rfl⟩ ?_ ?_
    · rintro σ H2 ⟨f, n, acc, rfl, f3, e, hn, hn5, hfl, hlen⟩
      have hps : ps[f]? = some ps[f] := List.getElem?_eq_getElem hfl
      obtain ⟨v, hv, dv2⟩ := dpa_at da (encP_at hps)
      have ix : atI xs (f : Int) = some v := atI_nat hv
      obtain ⟨n', rfl⟩ : ∃ n', n = n' + 1 := ⟨n - 1, by omega⟩
      walk_at "rd"
      refine q_ixL (f3.seq sq) ix ?_
      walk_at "rd"
      cases hp : ps[f] with
      | none =>
        rw [hp] at dv2 hps
        cases dp_none dv2
        refine iteF ?_
        have e2 : aboveF ps (n' + 1) f = [] := by
          unfold aboveF
          rw [hps]
        rw [e2, List.append_nil] at e
        walk_at "rd"
        refine q _ _ _ (f3.freeze (f1.fresh hl)).done (.lst (.inl (.inl upd_same)) ?_)
        rw [← e]
        exact dpN acc
      | some p =>
        rw [hp] at dv2 hps
        cases dp_int dv2
        have hlt := wf f p hps
        refine iteT ?_
        walk_at "rd"
        refine q_ixL (f3.seq sq) ix ?_
        walk_at "rd"
        refine q_append f3.at0 (by rw [List.length_map]; exact Nat.lt_of_le_of_lt (show acc.length ≤ 5 by omega) (by decide)) ?_
        intro H4 b4 h4
        have f4 := f3.put b4 h4
        refine ⟨⟨p, n', acc ++ [p], rfl, ?_, ?_, by omega, by omega, by omega, by simp; omega⟩, ?_⟩
        · rw [List.map_append]
          exact f4
        · have e2 : aboveF ps (n' + 1) f = p :: aboveF ps n' p := by
            rw [aboveF, hps]
          rw [← e, e2, List.append_assoc]
          rfl
        · show (p : Int).toNat < (f : Int).toNat
          omega
    · intro σ H2 Q1 Q2 hQ h
      obtain ⟨v1, e1, v2, e2, p, xs, i, v, e3, e4, e5, e6, h7, k, h8, h9⟩ := h
      exact ⟨v1, e1, v2, e2, p, xs, i, v, e3, e4, e5, e6, h7, k, h8, hQ _ _ h9⟩
end

def placeM (ps : List (Option Nat)) (one other : Nat) : Option Str :=
  if one ∈ aboveF ps 5 other then (aboveF ps 5 other).head?.map fun x => if x = one then "child" else "inside"
  else if other ∈ aboveF ps 5 one then (aboveF ps 5 one).head?.map fun x => if x = other then "parent" else "around"
  else match (aboveF ps 5 one).head?, (aboveF ps 5 other).head? with
    | some x, some y => some (if x = y then "sibling" else "apart")
    | _, _ => none
theorem inV_nat (n : Nat) (ns : List Nat) : inV (.int (n : Int)) (ns.map vN) = decide (n ∈ ns) := by
  unfold inV
  rw [List.any_map]
  induction ns with
  | nil => rfl
  | cons m ms ih =>
    rw [List.any_cons, ih]
    have e : (fun y => eqV y (.int (n : Int))) (vN m) = decide (m = n) := by
      show decide ((m : Int) = (n : Int)) = decide (m = n)
      by_cases h : m = n
      · rw [h]; simp
      · rw [decide_eq_false h, decide_eq_false (by omega)]
    show ((fun y => eqV y (.int (n : Int))) (vN m) || _) = _
    rw [e]
    by_cases h : m = n
    · subst h; simp
    · have h' : ¬ n = m := fun z => h z.symm
      simp [h, h']
theorem flatN (ns : List Nat) : (ns.map vN).all flatV = true := by
  induction ns with
  | nil => rfl
  | cons m ms ih => rw [List.map_cons, List.all_cons, ih]; rfl
theorem dpN_inv {K : PySem.W.Frag} {H : Hp} : ∀ {ns : List Nat} {vs : List V}, DpAll K H vs (encN ns) → vs = ns.map vN
  | [], _, h => by cases h; rfl
  | n :: ns, _, h => by
    cases h with
    | cons h1 h2 =>
      rw [dp_int h1, dpN_inv h2]
      rfl
def spPlace (K : PySem.W.Frag) : Sp := fun vs H Q _ => ∃ (B : Hp) (v : V) (ps : List (Option Nat)) (i j : Nat) (z : Str), vs = [v, .int i, .int j] ∧ Same B H ∧ Dp K B v (.list (encP ps)) ∧ WfP ps ∧ ps.length = 5 ∧ i < 5 ∧ j < 5 ∧
  placeM ps i j = some z ∧ ∀ H', Same H H' → Q (.str z) H'
section
variable {P : Program} {w : World} {K : PySem.W.Frag} {mg : Str → Option Value} {base : Heap}
theorem ok_place {f : Addr} {fd : FuncData} (F : C8.Def K mg "_law_place" s_law_place f fd) (b : Binds K fd ["_law_parents", "_law_one", "_law_other"] []) (c_law_above : C8.Cal P w K mg base 1 "_law_above" (spAbove K) []) : C8.Cal P w K mg base 2 "_law_place" (spPlace K) [] := by
  refine C8.cal0 F b .nil fs_law_place (fun vs H Q E h => ?_) (fun cdv A outer s H vs Q E hr h => ?_)
  · obtain ⟨B, v, ps, i, j, z, rfl, _⟩ := h
    rfl
  · obtain ⟨B, v, ps, i, j, z, rfl, hB, dv, wf, hl, hi, hj, hz, q⟩ := h
    have hu := hu_of hr
    refine ⟨_, (pss_cons (ps_par (i := 3) (j := 4) rfl fs_law_place.nd rfl rfl (by decide) rfl rfl (pa_cons (C8.pe_c c_law_above hr (by decide) rfl (pa_cons (pv 0) (pa_cons (pv 1) pa_nil))) (pa_cons (C8.pe_c c_law_above hr (by decide) rfl (pa_cons (pv 0) (pa_cons (pv 2) pa_nil))) pa_nil)) rfl)
      (pss_cons (ps_if (pt_cmpR op_in_seq (pv 1) (pv 4) (by rfl))
       (pss_one (ps_ret (pe_ifExp (pt_cmpR op_eq (pe_ix ix_list (pv 4) pe_int (fun _ _ => rfl)) (pv 1) (nomark _)) pe_str pe_str)))
       pss_nil)
      (pss_cons (ps_if (pt_cmpR op_in_seq (pv 2) (pv 3) (by rfl))
       (pss_one (ps_ret (pe_ifExp (pt_cmpR op_eq (pe_ix ix_list (pv 3) pe_int (fun _ _ => rfl)) (pv 2) (nomark _)) pe_str pe_str)))
       pss_nil)
      (pss_one (ps_ret (pe_ifExp (pt_cmpR op_eq (pe_ix ix_list (pv 3) pe_int (fun _ _ => rfl)) (pe_ix ix_list (pv 4) pe_int (fun _ _ => rfl)) (nomark _)) pe_str pe_str)))))), ?_⟩
    have f1 : Fs [] B H B H [] := Fs.start hB
    walk_at "rd"
    refine ⟨B, v, ps, i, rfl, hB, dv, wf, by omega, hi, fun B1 H1 r1 g1 d1 => ?_⟩
    have f2 := f1.call g1
    walk_at "rd"
    refine ⟨B1, v, ps, j, rfl, f2.own.same, f2.up dv, wf, by omega, hj, fun B2 H2 r2 g2 d2 => ?_⟩
    have f3 := f2.call g2
    obtain ⟨a1, xs1, rfl, sq1, da1⟩ := dp_list (dp_same g2.base _ _ d1)
    obtain ⟨a2, xs2, rfl, sq2, da2⟩ := dp_list d2
    cases dpN_inv da1
    cases dpN_inv da2
    have sm : Same H H2 := f3.done.all
    walk_at "rd"
    refine q_inL (f3.seq sq2) rfl (flatN _) ?_
    walk_at "rd"
    rw [inV_nat]
    unfold placeM at hz
    by_cases h1 : i ∈ aboveF ps 5 j
    · rw [if_pos h1] at hz
      cases e2 : aboveF ps 5 j with
      | nil => rw [e2] at h1; cases h1
      | cons x r =>
        rw [e2] at sq2 hz
        rw [← e2, decide_eq_true h1]
        refine iteT ?_
        walk_at "rd"
        refine ite2 (fun h => ?_) (fun h => ?_)
        · have e : x = i := by
            have := of_decide_eq_true h
            injection this with this
            omega
          simp [e] at hz
          walk_at "rd"
          rw [← hz] at q
          exact q _ sm
        · have e : ¬ x = i := fun e => h (decide_eq_true (by rw [e]))
          simp [e] at hz
          walk_at "rd"
          rw [← hz] at q
          exact q _ sm
    · rw [if_neg h1] at hz
      rw [decide_eq_false h1]
      refine iteF ?_
      walk_at "rd"
      refine q_inL (f3.seq sq1) rfl (flatN _) ?_
      walk_at "rd"
      rw [inV_nat]
      by_cases h2 : j ∈ aboveF ps 5 i
      · rw [if_pos h2] at hz
        cases e2 : aboveF ps 5 i with
        | nil => rw [e2] at h2; cases h2
        | cons x r =>
          rw [e2] at sq1 hz
          rw [← e2, decide_eq_true h2]
          refine iteT ?_
          walk_at "rd"
          refine ite2 (fun h => ?_) (fun h => ?_)
          · have e : x = j := by
              have := of_decide_eq_true h
              injection this with this
              omega
            simp [e] at hz
            walk_at "rd"
            rw [← hz] at q
            exact q _ sm
          · have e : ¬ x = j := fun e => h (decide_eq_true (by rw [e]))
            simp [e] at hz
            walk_at "rd"
            rw [← hz] at q
            exact q _ sm
      · rw [if_neg h2] at hz
        rw [decide_eq_false h2]
        refine iteF ?_
        cases e1 : aboveF ps 5 i with
        | nil => rw [e1] at hz; simp at hz
        | cons x r =>
          cases e2 : aboveF ps 5 j with
          | nil => rw [e1, e2] at hz; simp at hz
          | cons y t =>
            rw [e1] at sq1 hz
            rw [e2] at sq2 hz
            walk_at "rd"
            refine ite2 (fun h => ?_) (fun h => ?_)
            · have e : x = y := by
                have := of_decide_eq_true h
                injection this with this
                omega
              simp [e] at hz
              walk_at "rd"
              rw [← hz] at q
              exact q _ sm
            · have e : ¬ x = y := fun e => h (decide_eq_true (by rw [e]))
              simp [e] at hz
              walk_at "rd"
              rw [← hz] at q
              exact q _ sm
end

def six : List Str := ["child", "inside", "parent", "around", "sibling", "apart"]
def wideM (z : Str) : Str := if z = "child" ∨ z = "inside" then "over" else if z = "parent" ∨ z = "around" then "under" else "apart"
def spWide : Sp := fun vs H Q _ => ∃ z : Str, vs = [.str z] ∧ z ∈ six ∧ ∀ H', Same H H' → Q (.str (wideM z)) H'
def treesN : Nat → List (List (Option Nat)) → List (List (Option Nat)) := fun f found => found.flatMap fun ps => (List.range f).map fun o => ps ++ [some o]
def treesM : List (List (Option Nat)) := treesN 4 (treesN 3 (treesN 2 [[none, some 0]]))
def spTrees (K : PySem.W.Frag) : Sp := fun vs H Q _ => ∃ B, vs = [] ∧ Same B H ∧ ∀ B' H' v, Grow [] B H B' H' → Dp K B' v (.list (treesM.map fun ps => .list (encP ps))) → Q v H'
/-- treesM, by the turns -/
def treesI : Nat → List (List (Option Nat))
  | 0 => [[none, some 0]]
  | i + 1 => treesN (i + 2) (treesI i)
def pV : Option Nat → V
  | none => .non
  | some n => .int n
def TreeV (B : Hp) (v : V) (ps : List (Option Nat)) : Prop := ∃ a, v = .ref a ∧ B a = some (.lst (ps.map pV))
structure TxRange (mg : Str → Option Value) : Prop where
  range : Free mg "range"
section
variable {P : Program} {w : World} {K : PySem.W.Frag} {mg : Str → Option Value} {base : Heap}
theorem ok_wide {f : Addr} {fd : FuncData} (F : C8.Def K mg "_law_wide" s_law_wide f fd) (b : Binds K fd ["_law_place_here"] []) : C8.Cal P w K mg base 1 "_law_wide" spWide [] := by
  refine C8.cal0 F b .nil fs_law_wide (fun vs H Q E h => ?_) (fun cdv A outer s H vs Q E hr h => ?_)
  · obtain ⟨z, rfl, _⟩ := h
    rfl
  · obtain ⟨z, rfl, hz, q⟩ := h
    have hu := hu_of hr
    refine ⟨_, (pss_cons (ps_set (i := 1) fs_law_wide.nd rfl (Or.inl rfl) (pe_disp (pps_cons pe_str pe_str (pps_cons pe_str pe_str (pps_cons pe_str pe_str (pps_cons pe_str pe_str (pps_cons pe_str pe_str pps_nil))))) (by rfl) (by rfl) (fun z => by cases z) (by decide)))
      (pss_one (ps_ret (pe_dget2 hu (pv 1) (pv 0) pe_str ⟨rfl, rfl, rfl, rfl⟩)))), ?_⟩
    walk_at "rd"
    intro p hp
    refine ⟨upd_same, [(.inr "child", .str "over"), (.inr "inside", .str "over"), (.inr "parent", .str "under"), (.inr "around", .str "under"), (.inr "sibling", .str "apart")], rfl, by decide, ?_⟩
    walk_at "rd"
    refine ⟨_, rfl, p, rfl, .inl ⟨_, .inl upd_same⟩, _, rfl, _, DGet.k (k := .inr z) upd_same, ?_⟩
    have sm : ∀ o u, Same H (upd (upd H p o) p u) := fun o u c e h => by
      rw [upd_upd]
      exact same_new hp c e h
    unfold six at hz
    simp only [List.mem_cons, List.not_mem_nil, or_false] at hz
    rcases hz with rfl | rfl | rfl | rfl | rfl | rfl <;> exact q _ (sm _ _)
theorem ok_trees {f : Addr} {fd : FuncData} (F : C8.Def K mg "_law_trees" s_law_trees f fd) (b : Binds K fd [] []) (T : TxRange mg) : C8.Cal P w K mg base 1 "_law_trees" (spTrees K) [] := by
  refine C8.cal0 F b .nil fs_law_trees (fun vs H Q E h => ?_) (fun cdv A outer s H vs Q E hr h => ?_)
  · obtain ⟨B, rfl, _⟩ := h
    rfl
  · obtain ⟨B, rfl, hB, q⟩ := h
    have hu := hu_of hr
    refine ⟨_, (pss_cons (ps_set (i := 0) fs_law_trees.nd rfl (Or.inl rfl) (pe_lst (pa_cons (pe_lst (pa_cons pe_non (pa_cons pe_int pa_nil))) pa_nil)))
      (pss_cons (ps_for PassesOwn.never rfl (pi_range2 rfl T.range (pa_cons pe_int (pa_cons pe_int pa_nil))) (pg_name (i := 1) fs_law_trees.nd rfl (Or.inl rfl))
       (pss_cons (ps_set (i := 2) fs_law_trees.nd rfl (Or.inl rfl) (pe_lst pa_nil))
       (pss_cons (ps_for PassesOwn.never rfl (pi_list (pv 0)) (pg_name (i := 3) fs_law_trees.nd rfl (Or.inr rfl))
        (pss_one (ps_expr (pe_bm PySem.F.plainAttrs_list PySem.F.slot_list_extend PySem.F.type_list_extend mt_extend (pv 2) (pa_cons (pe_lc (own := [("_law_one", 4)]) (g := gName 4) rfl fs_law_trees.nd (pi_range1 rfl T.range (pa_cons (pv 1) pa_nil)) (blkOk_by (own := [("_law_one", 4)]) (N := nm_law_trees) (sc := sc_law_trees) (by decide +kernel)) (fun _ _ _ _ _ => (pg_name (i := 4) fs_law_trees.nd rfl (Or.inl rfl))) (fun _ _ _ _ _ => pts_nil) (fun _ _ _ _ _ => (pe_op op_cat (pv 3) (pe_lst (pa_cons (pv 4) pa_nil))))) pa_nil)))))
       (pss_one (ps_set (i := 0) fs_law_trees.nd rfl (Or.inl rfl) (pv 2))))))
      (pss_one (ps_ret (pv 0))))), ?_⟩
    have f1 : Fs [] B H B H [] := Fs.start hB
    walk_at "rd"
    intro p H1 hp s1 h1
    have f2 := f1.stay hp s1 h1
    walk_at "rd"
    intro l H2 hl s2 h2
    have f3 := f2.stay hl s2 h2 (f2.fresh hl)
    walk_at "rd"
    refine for_it (n := 3) walk_range (fun i σ H3 => ∃ (B3 : Hp) (l : Addr) (vs : List V) (x1 x2 x3 x4 : Option V), σ = [some (.ref l), x1, x2, x3, x4] ∧ Fs [] B H B3 H3 [] ∧ B3 l = some (.lst vs) ∧ Paired (TreeV B3) vs (treesI i) ∧ vs.length ≤ 30)
      ⟨_, l, _, _, _, _, _, rfl, f3, upd_same, .cons ⟨p, rfl, ?_⟩ .nil, Nat.le_of_ble_eq_true rfl⟩ (fun _ _ _ _ _ => trivial) ?_ ?_
    · rw [upd_ne (ne_of_none upd_same (f2.own.same.free hl))]
      exact upd_same
    · rintro i x σ _ H3 hi ⟨B3, l, vs, x1, x2, x3, x4, rfl, f4, hl, hp4, hv⟩ ⟨rfl, rfl⟩
      walk_at "rd"
      intro l2 H4 hl2 s4 h4
      have f5 := f4.mut hl2 s4 h4 (f4.fresh hl2)
      walk_at "rd"
      have hplen : ∀ ps ∈ treesI i, ps.length ≤ 10 := by
        have e : i = 0 ∨ i = 1 ∨ i = 2 := by omega
        rcases e with rfl | rfl | rfl <;> decide
      have el : (treesI i).length = vs.length := (pr_len hp4).symm
      refine for_it (n := vs.length) (walk_list (xs := vs)) (fun j σ H5 => ∃ (B5 : Hp) (ws : List V) (x3 x4 : Option V), σ = [some (.ref l), some (.int (2 + i)), some (.ref l2), x3, x4] ∧ Fs [] B H B5 H5 [(l2, .lst ws)] ∧ Same B3 B5 ∧ Paired (TreeV B5) ws (treesN (i + 2) ((treesI i).take j)) ∧ ws.length ≤ 4 * j)
        ⟨B3, [], _, _, rfl, f5, Same.refl B3, .nil, Nat.le_refl _⟩ ?_ ?_ ?_
      · rintro j σ H5 _ ⟨B5, ws, x3, x4, rfl, f6, sb, _, _⟩
        exact .inl (.inl (f6.get (sb _ _ hl)))
      · rintro j x σ _ H5 hj ⟨B5, ws, x3, x4, rfl, f6, sb, pw, hw⟩ ⟨rfl, hx⟩
        obtain ⟨ps, hps, a, rfl, ha⟩ := pr_get hp4 hx
        have ha5 := sb _ _ ha
        walk_at "rd"
        intro D hD
        have hsl : (1000000 : Nat) < sizeLine := by decide
        have en : (2 + (i : Int)).toNat = ((List.range (i + 2)).map fun o => some (ps ++ [some o])).length := by
          rw [List.length_map, List.length_range]
          omega
        rw [en]
        refine lcR (R := TreeV) (B1 := B5) (fun B B' v o sm ⟨a, e, h⟩ => ⟨a, e, sm _ _ h⟩) (outs := (List.range (i + 2)).map fun o => some (ps ++ [some o])) walk_range f6.own.same hD (fun _ _ => trivial) (by rw [List.length_map, List.length_range]; omega) ?_ ?_
        · rintro k x _ H6 B6 zs Nx Nf hk f7 ⟨rfl, rfl⟩ hNx hNf
          walk_at "rd"
          refine ⟨rfl, ?_⟩
          walk_at "rd"
          refine iteT ?_
          have g0 : Fs [] B6 H6 B6 H6 [] := Fs.start f7.own.same
          walk_at "rd"
          intro r H7 hr7 s7 h7
          have g1 := g0.mut hr7 s7 h7
          refine q_cat (g1.get (f7.base _ _ ha5)) g1.at0 ?_ ?_
          · rw [List.length_map]
            exact Nat.le_trans (Nat.add_le_add_right (hplen _ (List.mem_of_getElem? hps)) 1) (by decide)
          intro r2 H8 hr8 s8 h8
          have g2 := g1.stay hr8 s8 h8 (g1.fresh hr8)
          refine hNx _ _ _ (ps ++ [some k]) ?_ g2.done ⟨r2, rfl, ?_⟩
          · rw [List.length_map, List.length_range] at hk
            rw [List.getElem?_map, List.getElem?_range hk]
            rfl
          · rw [upd_same, List.map_append]
            show some (HO.lst (ps.map pV ++ [V.int (0 + k)])) = some (HO.lst (ps.map pV ++ [V.int k]))
            rw [Int.zero_add]
        · intro B6 H6 zs f7 pz
          have f8 := f7.freeze hD
          have f9 := f6.call f8.done
          walk_at "rd"
          have ez : zs.length = i + 2 := by
            rw [pr_len pz]
            simp
          refine q_extend f9.at0 f7.at0 (by omega) ?_
          intro H7 b7 h7
          have f10 := f9.put b7 h7
          refine ⟨_, _, _, _, rfl, f10, sb.trans f8.base, ?_, by rw [List.length_append]; omega⟩
          have hj2 : j < (treesI i).length := by omega
          have e1 : (treesI i).take (j + 1) = (treesI i).take j ++ [ps] := by
            rw [List.take_succ_eq_append_getElem hj2]
            rw [List.getElem?_eq_getElem hj2] at hps
            rw [Option.some.inj hps]
          have e2 : treesN (i + 2) ((treesI i).take (j + 1)) = treesN (i + 2) ((treesI i).take j) ++ (List.range (i + 2)).map (fun o => ps ++ [some o]) := by
            unfold treesN
            rw [e1, List.flatMap_append]
            simp
          have e3 : ((List.range (i + 2)).map fun o => some (ps ++ [some o])).filterMap id = (List.range (i + 2)).map (fun o => ps ++ [some o]) := by
            rw [List.filterMap_map]
            exact congrFun List.filterMap_eq_map _
          rw [e2]
          rw [e3] at pz
          have mono : ∀ (B B' : Hp), Same B B' → ∀ v o, TreeV B v o → TreeV B' v o := fun B B' sm v o ⟨a, e, h⟩ => ⟨a, e, sm _ _ h⟩
          exact pr_app (pr_mono (mono _ _ f8.base) pw) (pr_mono (mono _ _ (same_new (f7.own.new (D, .lst zs) List.mem_cons_self))) pz)
      · rintro σ H5 ⟨B5, ws, x3, x4, rfl, f6, sb, pw, hw⟩
        walk_at "rd"
        have f7 := f6.freeze (f4.fresh hl2)
        refine ⟨_, l2, ws, _, _, _, _, rfl, f7, upd_same, ?_, ?_⟩
        · rw [← el, List.take_length] at pw
          have e : treesN (i + 2) (treesI i) = treesI (i + 1) := rfl
          rw [← e]
          exact pr_mono (fun v o ⟨a, e, h⟩ => ⟨a, e, same_new (f6.own.new (l2, .lst ws) List.mem_cons_self) _ _ h⟩) pw
        · rw [pr_len pw, ← el, List.take_length]
          have e : i = 0 ∨ i = 1 ∨ i = 2 := by omega
          rcases e with rfl | rfl | rfl <;> decide
    · rintro σ H3 ⟨B3, l, vs, x1, x2, x3, x4, rfl, f4, hl, hp4, hv⟩
      walk_at "rd"
      refine q _ _ _ f4.done (.lst (.inl (.inl hl)) (dpAll_of ?_))
      show Paired (Dp K B3) vs ((treesI 3).map fun ps => .list (encP ps))
      have key : ∀ {vs : List V} {l : List (List (Option Nat))}, Paired (TreeV B3) vs l → Paired (Dp K B3) vs (l.map fun ps => PyData.list (encP ps)) := fun {vs l} h => by
        induction h with
        | nil => exact .nil
        | @cons v ps vs l h1 _ ih =>
          obtain ⟨a, rfl, ha⟩ := h1
          refine .cons (.lst (.inl (.inl ha)) ?_) ih
          have go : ∀ ps : List (Option Nat), DpAll K B3 (ps.map pV) (encP ps) := fun ps => by
            induction ps with
            | nil => exact .nil
            | cons o r ih =>
              cases o with
              | none => exact .cons .non ih
              | some n => exact .cons (.int n) ih
          exact go ps
      exact key hp4
end

abbrev KT := List (List Key × V)
def kN (n : Nat) : Key := .inl (n : Int)
def plc (ps : List (Option Nat)) (a b : Nat) : Str := if a = b then "same" else (placeM ps a b).getD "apart"
def rowI (ps : List (Option Nat)) (a : Nat) (kvs : KT) : Nat → KT
  | 0 => kvs
  | j + 1 => putK (rowI ps a kvs j) [kN a, kN j] (.str (plc ps a j))
def placesI (ps : List (Option Nat)) : Nat → KT
  | 0 => []
  | i + 1 => rowI ps i (placesI ps i) 5
def GoodP (ps : List (Option Nat)) : Prop := WfP ps ∧ ps.length = 5 ∧ ∀ a, a < 5 → ∀ b, b < 5 → a ≠ b → (placeM ps a b).isSome = true
def spPlaces (K : PySem.W.Frag) : Sp := fun vs H Q _ => ∃ (B : Hp) (v : V) (ps : List (Option Nat)), vs = [v] ∧ Same B H ∧ Dp K B v (.list (encP ps)) ∧ GoodP ps ∧
  ∀ H' d, H d = none → Same H H' → H' d = some (.dT (placesI ps 5)) → Q (.ref d) H'
section
variable {P : Program} {w : World} {K : PySem.W.Frag} {mg : Str → Option Value} {base : Heap}
theorem ok_places {f : Addr} {fd : FuncData} (F : C8.Def K mg "_law_places" s_law_places f fd) (b : Binds K fd ["_law_parents"] []) (T : TxRange mg) (c_law_place : C8.Cal P w K mg base 2 "_law_place" (spPlace K) []) : C8.Cal P w K mg base 3 "_law_places" (spPlaces K) [] := by
  refine C8.cal0 F b .nil fs_law_places (fun vs H Q E h => ?_) (fun cdv A outer s H vs Q E hr h => ?_)
  · obtain ⟨B, v, ps, rfl, _⟩ := h
    rfl
  · obtain ⟨B, v, ps, rfl, hB, dv, ⟨wf, hl, hp⟩, q⟩ := h
    have hu := hu_of hr
    refine ⟨_, (pss_cons (ps_set (i := 1) fs_law_places.nd rfl (Or.inl rfl) pe_dnewT)
      (pss_cons (ps_for PassesOwn.never rfl (pi_range1 rfl T.range (pa_cons pe_int pa_nil)) (pg_name (i := 2) fs_law_places.nd rfl (Or.inl rfl))
       (pss_one (ps_for PassesOwn.never rfl (pi_range1 rfl T.range (pa_cons pe_int pa_nil)) (pg_name (i := 3) fs_law_places.nd rfl (Or.inl rfl))
        (pss_one (ps_dput hu (pv 1) (pe_tup (pa_cons (pv 2) (pa_cons (pv 3) pa_nil))) (pe_join1 (pe_ifExp (pt_cmpR op_eq (pv 2) (pv 3) (nomark _)) pe_str (C8.pe_c c_law_place hr (by decide) rfl (pa_cons (pv 0) (pa_cons (pv 2) (pa_cons (pv 3) pa_nil)))))) rfl)))))
      (pss_one (ps_ret (pv 1))))), ?_⟩
    have f1 : Fs [] B H B H [] := Fs.start hB
    walk_at "rd"
    intro d H1 hd s1 h1
    have f2 := f1.mut hd s1 h1
    walk_at "rd"
    refine for_it (n := 5) walk_range (fun i σ H2 => ∃ (x2 x3 : Option V), σ = [some v, some (.ref d), x2, x3] ∧ Fs [] B H B H2 [(d, .dT (placesI ps i))] ∧ (placesI ps i).length ≤ 5 * i)
      ⟨_, _, rfl, f2, Nat.le_refl _⟩ (fun _ _ _ _ _ => trivial) ?_ ?_
    · rintro i x σ _ H2 hi ⟨x2, x3, rfl, f3, hlen⟩ ⟨rfl, rfl⟩
      walk_at "rd"
      refine for_it (n := 5) walk_range (fun j σ H2 => ∃ (x3 : Option V), σ = [some v, some (.ref d), some (.int (0 + i)), x3] ∧ Fs [] B H B H2 [(d, .dT (rowI ps i (placesI ps i) j))] ∧ (rowI ps i (placesI ps i) j).length ≤ 5 * i + j)
        ⟨_, rfl, f3, hlen⟩ (fun _ _ _ _ _ => trivial) ?_ ?_
      · rintro j x σ _ H3 hj ⟨x3, rfl, f4, hlen2⟩ ⟨rfl, rfl⟩
        walk_at "rd"
        refine q_join (fun v H4 => v = .str (plc ps i j) ∧ Same H3 H4) ?_ ?_
        · walk_at "rd"
          unfold plc
          refine ite2 (fun h => ?_) (fun h => ?_)
          · have e : i = j := by
              have h := of_decide_eq_true h
              injection h with h
              omega
            rw [if_pos e]
            exact ⟨rfl, Same.refl _⟩
          · have e : ¬ i = j := fun e => h (decide_eq_true (by rw [e]))
            rw [if_neg e]
            cases hz : placeM ps i j with
            | none =>
              have z := hp i hi j hj e
              rw [hz] at z
              cases z
            | some z =>
              walk_at "rd"
              refine ⟨B, v, ps, i, j, z, ?_, f4.own.same, dv, wf, hl, hi, hj, hz, fun H' sm => ⟨rfl, sm⟩⟩
              simp
        · rintro _ H4 ⟨rfl, s4⟩
          have f5 := f4.ext s4
          walk_at "rd"
          intro t H5 ht s5 h5
          have f6 := f5.ext s5
          refine q_putT (k := [kN i, kN j]) f6.at0 ?_ ?_ ?_
          · rw [h5]
            simp [kN, kV]
          · exact Nat.lt_of_le_of_lt (show _ ≤ 100 by omega) (by decide)
          · intro H6 b6 h6
            refine ⟨_, rfl, f6.put b6 h6, ?_⟩
            have := length_putK (rowI ps i (placesI ps i) j) [kN i, kN j] (.str (plc ps i j))
            show (putK (rowI ps i (placesI ps i) j) [kN i, kN j] (.str (plc ps i j))).length ≤ _
            omega
      · rintro σ H3 ⟨x3, rfl, f4, hlen2⟩
        exact ⟨_, _, rfl, f4, by show (rowI ps i (placesI ps i) 5).length ≤ _; omega⟩
    · rintro σ H2 ⟨x2, x3, rfl, f3, hlen⟩
      walk_at "rd"
      exact q H2 d hd f3.done.all f3.at0
end

def lies (ps : List (Option Nat)) (a b : Nat) : Str := if a = b then "same" else wideM (plc ps a b)
def newI (ps : List (Option Nat)) (a b : Nat) (kvs : KT) : Nat → KT
  | 0 => kvs
  | c + 1 => if c = b then newI ps a b kvs c else putK (newI ps a b kvs c) [.inr (lies ps a b), .inr (plc ps b c), .inr (lies ps a c)] (.bl true)
def lastI (ps : List (Option Nat)) (a : Nat) (kvs : KT) : Nat → KT
  | 0 => kvs
  | b + 1 => newI ps a b (lastI ps a kvs b) 5
def firstI (ps : List (Option Nat)) (kvs : KT) : Nat → KT
  | 0 => kvs
  | a + 1 => lastI ps a (firstI ps kvs a) 5
def seenI (l : List (List (Option Nat))) : KT := l.foldl (fun acc ps => firstI ps acc 5) []
theorem newI_len (ps : List (Option Nat)) (a b : Nat) (kvs : KT) : ∀ c, (newI ps a b kvs c).length ≤ kvs.length + c
  | 0 => Nat.le_refl _
  | c + 1 => by
    have ih := newI_len ps a b kvs c
    unfold newI
    split
    · omega
    · have := length_putK (newI ps a b kvs c) [.inr (lies ps a b), .inr (plc ps b c), .inr (lies ps a c)] (.bl true)
      omega
theorem lastI_len (ps : List (Option Nat)) (a : Nat) (kvs : KT) : ∀ b, (lastI ps a kvs b).length ≤ kvs.length + 5 * b
  | 0 => Nat.le_refl _
  | b + 1 => by
    have ih := lastI_len ps a kvs b
    have := newI_len ps a b (lastI ps a kvs b) 5
    show (newI ps a b (lastI ps a kvs b) 5).length ≤ _
    omega
theorem firstI_len (ps : List (Option Nat)) (kvs : KT) : ∀ a, (firstI ps kvs a).length ≤ kvs.length + 25 * a
  | 0 => Nat.le_refl _
  | a + 1 => by
    have ih := firstI_len ps kvs a
    have := lastI_len ps a (firstI ps kvs a) 5
    show (lastI ps a (firstI ps kvs a) 5).length ≤ _
    omega
/-- a tree's places, as the law asks them -/
def FullP (ps : List (Option Nat)) : Prop := GoodP ps ∧ ∀ a, a < 5 → ∀ b, b < 5 → valV (placesI ps 5) [kN a, kN b] = some (.str (plc ps a b)) ∧ (a ≠ b → plc ps a b ∈ six)
def wfB (ps : List (Option Nat)) : Bool := (List.range ps.length).all fun f => match ps[f]? with
  | some (some p) => decide (p < f)
  | _ => true
def goodB (ps : List (Option Nat)) : Bool := wfB ps && decide (ps.length = 5) && (List.range 5).all fun a => (List.range 5).all fun b => (decide (a = b) || (placeM ps a b).isSome && decide (plc ps a b ∈ six)) && decide (valV (placesI ps 5) [kN a, kN b] = some (.str (plc ps a b)))
theorem full_of {ps : List (Option Nat)} (h : goodB ps = true) : FullP ps := by
  unfold goodB at h
  rw [Bool.and_eq_true, Bool.and_eq_true] at h
  obtain ⟨⟨h1, h2⟩, h3⟩ := h
  have h3 : ∀ a, a < 5 → ∀ b, b < 5 → ((decide (a = b) || (placeM ps a b).isSome && decide (plc ps a b ∈ six)) && decide (valV (placesI ps 5) [kN a, kN b] = some (.str (plc ps a b)))) = true := fun a ha b hb =>
    List.all_eq_true.mp (List.all_eq_true.mp h3 a (List.mem_range.mpr ha)) b (List.mem_range.mpr hb)
  refine ⟨⟨fun f p e => ?_, of_decide_eq_true h2, fun a ha b hb ne => ?_⟩, fun a ha b hb => ⟨?_, fun ne => ?_⟩⟩
  · have hf : f < ps.length := (List.getElem?_eq_some_iff.mp e).1
    have z := List.all_eq_true.mp h1 f (List.mem_range.mpr hf)
    rw [e] at z
    exact of_decide_eq_true z
  · have z := (Bool.and_eq_true_iff.mp (h3 a ha b hb)).1
    rw [decide_eq_false ne, Bool.false_or] at z
    exact (Bool.and_eq_true_iff.mp z).1
  · exact of_decide_eq_true (Bool.and_eq_true_iff.mp (h3 a ha b hb)).2
  · have z := (Bool.and_eq_true_iff.mp (h3 a ha b hb)).1
    rw [decide_eq_false ne, Bool.false_or] at z
    exact of_decide_eq_true (Bool.and_eq_true_iff.mp z).2
theorem trees_good : treesM.all goodB = true := by decide +kernel
theorem trees_len : treesM.length = 24 := by decide +kernel
theorem trees_full {ps : List (Option Nat)} (h : ps ∈ treesM) : FullP ps := full_of (List.all_eq_true.mp trees_good ps h)
@[irreducible] def seenM : KT := seenI treesM
theorem seenM_eq : seenM = seenI treesM := by unfold seenM; rfl
def spSeen : Sp := fun vs H Q _ => ∃ B, vs = [] ∧ Same B H ∧ ∀ H' d, H d = none → Same H H' → H' d = some (.dT seenM) → Q (.ref d) H'
section
variable {P : Program} {w : World} {K : PySem.W.Frag} {mg : Str → Option Value} {base : Heap}
theorem ok_seen {f : Addr} {fd : FuncData} (F : C8.Def K mg "_law_seen" s_law_seen f fd) (b : Binds K fd [] []) (T : TxRange mg) (c_law_places : C8.Cal P w K mg base 3 "_law_places" (spPlaces K) []) (c_law_trees : C8.Cal P w K mg base 1 "_law_trees" (spTrees K) []) (c_law_wide : C8.Cal P w K mg base 1 "_law_wide" spWide []) : C8.Cal P w K mg base 4 "_law_seen" spSeen [] := by
  refine C8.cal0 F b .nil fs_law_seen (fun vs H Q E h => ?_) (fun cdv A outer s H vs Q E hr h => ?_)
  · obtain ⟨B, rfl, _⟩ := h
    rfl
  · obtain ⟨B, rfl, hB, q⟩ := h
    have hu := hu_of hr
    refine ⟨_, (pss_cons (ps_set (i := 0) fs_law_seen.nd rfl (Or.inl rfl) pe_dnewT)
      (pss_cons (ps_for PassesOwn.never rfl (pi_list (pe_c0 c_law_trees hr (by decide) rfl)) (pg_name (i := 1) fs_law_seen.nd rfl (Or.inl rfl))
       (pss_cons (ps_set (i := 2) fs_law_seen.nd rfl (Or.inl rfl) (C8.pe_c c_law_places hr (by decide) rfl (pa_cons (pv 1) pa_nil)))
       (pss_one (ps_for PassesOwn.never rfl (pi_range1 rfl T.range (pa_cons pe_int pa_nil)) (pg_name (i := 3) fs_law_seen.nd rfl (Or.inl rfl))
        (pss_one (ps_for PassesOwn.never rfl (pi_range1 rfl T.range (pa_cons pe_int pa_nil)) (pg_name (i := 4) fs_law_seen.nd rfl (Or.inl rfl))
         (pss_cons (ps_set (i := 5) fs_law_seen.nd rfl (Or.inl rfl) (pe_join1 (pe_ifExp (pt_cmpR op_eq (pv 3) (pv 4) (nomark _)) pe_str (C8.pe_c c_law_wide hr (by decide) rfl (pa_cons (pe_dget hu (pv 2) (pe_tup (pa_cons (pv 3) (pa_cons (pv 4) pa_nil))) (fun _ _ => rfl)) pa_nil)))))
         (pss_one (ps_for PassesOwn.never rfl (pi_range1 rfl T.range (pa_cons pe_int pa_nil)) (pg_name (i := 6) fs_law_seen.nd rfl (Or.inl rfl))
          (pss_one (ps_if (pt_cmpR op_ne (pv 6) (pv 4) (nomark _))
           (pss_cons (ps_set (i := 7) fs_law_seen.nd rfl (Or.inl rfl) (pe_join1 (pe_ifExp (pt_cmpR op_eq (pv 3) (pv 6) (nomark _)) pe_str (C8.pe_c c_law_wide hr (by decide) rfl (pa_cons (pe_dget hu (pv 2) (pe_tup (pa_cons (pv 3) (pa_cons (pv 6) pa_nil))) (fun _ _ => rfl)) pa_nil)))))
           (pss_one (ps_dput hu (pv 0) (pe_tup (pa_cons (pv 5) (pa_cons (pe_dget hu (pv 2) (pe_tup (pa_cons (pv 4) (pa_cons (pv 6) pa_nil))) (fun _ _ => rfl)) (pa_cons (pv 7) pa_nil)))) pe_bl rfl)))
           pss_nil)))))))))))
      (pss_one (ps_ret (pv 0))))), ?_⟩
    have f1 : Fs [] B H B H [] := Fs.start hB
    walk_at "rd"
    intro d H1 hd s1 h1
    have f2 := f1.mut hd s1 h1
    walk_at "rd"
    refine ⟨B, rfl, f2.own.same, fun B2 H2 v g2 dv => ?_⟩
    have f3 := f2.call g2
    obtain ⟨a, xs, rfl, sq, da⟩ := dp_list dv
    walk_at "rd"
    refine for_it (n := xs.length) (walk_list (xs := xs)) (fun i σ H3 => ∃ (x1 x2 x3 x4 x5 x6 x7 : Option V), σ = [some (.ref d), x1, x2, x3, x4, x5, x6, x7] ∧ Fs [] B H B2 H3 [(d, .dT (seenI (treesM.take i)))] ∧ (seenI (treesM.take i)).length ≤ 125 * i)
      ⟨_, _, _, _, _, _, _, rfl, f3, Nat.le_refl _⟩ (fun i σ H3 _ ⟨_, _, _, _, _, _, _, _, f4, _⟩ => f4.seq sq) ?_ ?_
    · rintro i x σ _ H3 hi ⟨x1, x2, x3, x4, x5, x6, x7, rfl, f4, hlen⟩ ⟨rfl, hx⟩
      have exl : xs.length = 24 := by
        rw [dpa_len da, List.length_map, trees_len]
      obtain ⟨dd, hdd, dx⟩ := dpa_get da hx
      rw [List.getElem?_map] at hdd
      cases hps : treesM[i]? with
      | none => rw [hps] at hdd; cases hdd
      | some ps =>
      rw [hps] at hdd
      cases hdd
      obtain ⟨gp, gv⟩ := trees_full (List.mem_of_getElem? hps)
      walk_at "rd"
      refine ⟨B2, x, ps, rfl, f4.own.same, dx, gp, fun H4 e he s4 h4 => ?_⟩
      have f5 := (f4.mut he s4 h4 (f4.fresh he)).swap
      walk_at "rd"
      have kt : ∀ (H : Hp) (t : Addr) (m n : Nat), H t = some (.tup [.int (0 + m), .int (0 + n)]) → H t = some (.tup (([kN m, kN n] : List Key).map kV)) := fun H t m n h => by
        rw [h]
        simp [kN, kV]
      generalize hS : seenI (treesM.take i) = S0 at f5 hlen
      refine for_it (n := 5) walk_range (fun a σ H5 => ∃ (x3 x4 x5 x6 x7 : Option V), σ = [some (.ref d), some x, some (.ref e), x3, x4, x5, x6, x7] ∧ Fs [] B H B2 H5 [(d, .dT (firstI ps S0 a)), (e, .dT (placesI ps 5))])
        ⟨_, _, _, _, _, rfl, f5⟩ (fun _ _ _ _ _ => trivial) ?_ ?_
      · rintro m y σ _ H5 hm ⟨x3, x4, x5, x6, x7, rfl, f6⟩ ⟨rfl, rfl⟩
        have len1 := firstI_len ps S0 m
        walk_at "rd"
        refine for_it (n := 5) walk_range (fun b σ H5 => ∃ (x4 x5 x6 x7 : Option V), σ = [some (.ref d), some x, some (.ref e), some (.int (0 + m)), x4, x5, x6, x7] ∧ Fs [] B H B2 H5 [(d, .dT (lastI ps m (firstI ps S0 m) b)), (e, .dT (placesI ps 5))])
          ⟨_, _, _, _, rfl, f6⟩ (fun _ _ _ _ _ => trivial) ?_ ?_
        · rintro n y σ _ H6 hn ⟨x4, x5, x6, x7, rfl, f7⟩ ⟨rfl, rfl⟩
          have len2 := lastI_len ps m (firstI ps S0 m) n
          walk_at "rd"
          refine q_join (fun v H' => v = .str (lies ps m n) ∧ Same H6 H') ?_ ?_
          · walk_at "rd"
            unfold lies
            refine ite2 (fun h => ?_) (fun h => ?_)
            · have e1 : m = n := by
                have h := of_decide_eq_true h
                injection h with h
                omega
              rw [if_pos e1]
              exact ⟨rfl, Same.refl _⟩
            · have e1 : ¬ m = n := fun e1 => h (decide_eq_true (by rw [e1]))
              rw [if_neg e1]
              walk_at "rd"
              intro t H7 ht s7 h7
              have f8 := f7.ext s7
              refine q_getT f8.at1 (kt _ _ _ _ h7) (gv m hm n hn).1 ?_
              walk_at "rd"
              exact ⟨_, rfl, (gv m hm n hn).2 e1, fun H' s8 => ⟨rfl, s7.trans s8⟩⟩
          · rintro _ H7 ⟨rfl, s7⟩
            have f8 := f7.ext s7
            walk_at "rd"
            refine for_it (n := 5) walk_range (fun c σ H5 => ∃ (x6 x7 : Option V), σ = [some (.ref d), some x, some (.ref e), some (.int (0 + m)), some (.int (0 + n)), some (.str (lies ps m n)), x6, x7] ∧ Fs [] B H B2 H5 [(d, .dT (newI ps m n (lastI ps m (firstI ps S0 m) n) c)), (e, .dT (placesI ps 5))])
              ⟨_, _, rfl, f8⟩ (fun _ _ _ _ _ => trivial) ?_ ?_
            · rintro k y σ _ H8 hk ⟨x6, x7, rfl, f9⟩ ⟨rfl, rfl⟩
              have len3 := newI_len ps m n (lastI ps m (firstI ps S0 m) n) k
              walk_at "rd"
              refine ite2 (fun h => ?_) (fun h => ?_)
              · have e1 : ¬ k = n := fun e1 => by
                  rw [e1] at h
                  simp at h
                walk_at "rd"
                refine q_join (fun v H' => v = .str (lies ps m k) ∧ Same H8 H') ?_ ?_
                · walk_at "rd"
                  unfold lies
                  refine ite2 (fun h => ?_) (fun h => ?_)
                  · have e1 : m = k := by
                      have h := of_decide_eq_true h
                      injection h with h
                      omega
                    rw [if_pos e1]
                    exact ⟨rfl, Same.refl _⟩
                  · have e1 : ¬ m = k := fun e1 => h (decide_eq_true (by rw [e1]))
                    rw [if_neg e1]
                    walk_at "rd"
                    intro t H9 ht s9 h9
                    have f10 := f9.ext s9
                    refine q_getT f10.at1 (kt _ _ _ _ h9) (gv m hm k hk).1 ?_
                    walk_at "rd"
                    exact ⟨_, rfl, (gv m hm k hk).2 e1, fun H' s8 => ⟨rfl, s9.trans s8⟩⟩
                · rintro _ H9 ⟨rfl, s9⟩
                  have f10 := f9.ext s9
                  walk_at "rd"
                  intro t Ha ht sa ha
                  have f11 := f10.ext sa
                  refine q_getT f11.at1 (kt _ _ _ _ ha) (gv n hn k hk).1 ?_
                  walk_at "rd"
                  intro t2 Hb ht2 sb hb
                  have f12 := f11.ext sb
                  refine q_putT (k := [.inr (lies ps m n), .inr (plc ps n k), .inr (lies ps m k)]) f12.at0 hb ?_ ?_
                  · exact Nat.lt_of_le_of_lt (show _ ≤ 100000 by omega) (by decide)
                  · intro Hc bc hc
                    refine ⟨_, _, rfl, ?_⟩
                    have e2 : newI ps m n (lastI ps m (firstI ps S0 m) n) (k + 1) = putK (newI ps m n (lastI ps m (firstI ps S0 m) n) k) [.inr (lies ps m n), .inr (plc ps n k), .inr (lies ps m k)] (.bl true) := by
                      show (if k = n then _ else _) = _
                      rw [if_neg e1]
                    rw [e2]
                    exact f12.put bc hc
              · have e1 : k = n := by
                  have h : ¬ (!decide (V.int (0 + (k : Int)) = V.int (0 + (n : Int)))) = true := h
                  by_cases e1 : k = n
                  · exact e1
                  · exact absurd (by rw [decide_eq_false (by intro z; injection z with z; omega)]; rfl) h
                walk_at "rd"
                refine ⟨_, _, rfl, ?_⟩
                have e2 : newI ps m n (lastI ps m (firstI ps S0 m) n) (k + 1) = newI ps m n (lastI ps m (firstI ps S0 m) n) k := by
                  show (if k = n then _ else _) = _
                  rw [if_pos e1]
                rw [e2]
                exact f9
            · rintro σ H8 ⟨x6, x7, rfl, f9⟩
              exact ⟨_, _, _, _, rfl, f9⟩
        · rintro σ H6 ⟨x4, x5, x6, x7, rfl, f7⟩
          exact ⟨_, _, _, _, _, rfl, f7⟩
      · rintro σ H5 ⟨x3, x4, x5, x6, x7, rfl, f6⟩
        have hi2 : i < treesM.length := (List.getElem?_eq_some_iff.mp hps).1
        have e1 : treesM.take (i + 1) = treesM.take i ++ [ps] := by
          rw [List.take_succ_eq_append_getElem hi2]
          rw [List.getElem?_eq_getElem hi2] at hps
          rw [Option.some.inj hps]
        have e2 : seenI (treesM.take (i + 1)) = firstI ps S0 5 := by
          rw [← hS]
          unfold seenI
          rw [e1, List.foldl_append, List.foldl_cons, List.foldl_nil]
        have := firstI_len ps S0 5
        refine ⟨_, _, _, _, _, _, _, rfl, ?_, ?_⟩
        · rw [e2]
          exact f6.swap.weak
        · rw [e2]
          omega
    · rintro σ H3 ⟨x1, x2, x3, x4, x5, x6, x7, rfl, f4, hlen⟩
      have exl : xs.length = treesM.length := by
        rw [dpa_len da, List.length_map]
      rw [exl, List.take_length] at f4
      walk_at "rd"
      rw [← seenM_eq] at f4
      exact q H3 d hd f4.done.all f4.at0
end

/-! ### followed -/
def liesL : List Str := ["same", "over", "under", "apart"]
def fTable : List (Str × List Str) := [("child", ["over", "over", "apart same under", "apart"]), ("inside", ["over", "over", "apart over same under", "apart"]), ("parent", ["under", "over same", "under", "apart under"]),
  ("around", ["under", "over same under", "under", "apart under"]), ("sibling", ["apart", "over", "apart", "apart same under"]), ("apart", ["apart", "apart over", "apart", "apart over same under"])]
def lIdx (l : Str) : Nat := (liesL.findIdx? fun x => decide (x = l)).getD 0
def fRow (p : Str) : List Str := ((fTable.find? fun x => decide (x.1 = p)).map (·.2)).getD []
def fCell (l p : Str) : Str := (fRow p).getD (lIdx l) ""
def folM (l p : Str) : List Str := if p = "other" then (if l = "same" then ["other"] else ["other", "same"]) else Txt.words (fCell l p)
theorem fol_facts : ∀ l ∈ liesL, ∀ p ∈ six, (liesL[lIdx l]? = some l ∧ (∀ m, m < lIdx l → liesL[m]? ≠ some l)) ∧ ((p, fRow p) ∈ fTable ∧ (fRow p)[lIdx l]? = some (fCell l p)) ∧ (¬ p = "other" ∧ (fCell l p).length ≤ 100) := by decide +kernel
structure TxFol (K : PySem.W.Frag) (w : World) (mg : Str → Option Value) (la fo : Addr) : Prop where
  LIES : ∃ u, mg "LIES" = some u ∧ RelV (.ref la) u
  FOLLOWED : ∃ u, mg "FOLLOWED" = some u ∧ RelV (.ref fo) u
  lie : (∀ H, SqT K H la (liesL.map V.str)) ∧ ∃ o, K.lookup la = some o ∧ o.cls = .type "tuple" ∧ o.dict = none
  row : ∀ x ∈ fTable, ∃ t, KDct K w fo x.1 (.ref t) ∧ ∀ H, SqT K H t (x.2.map V.str)
def spFol : Sp := fun vs H Q _ => ∃ l p : Str, vs = [.str l, .str p] ∧ (p = "other" ∨ (l ∈ liesL ∧ p ∈ six)) ∧ ∀ r H', H r = none → Same H H' → H' r = some (.lst ((folM l p).map V.str)) → Q (.ref r) H'
section
variable {P : Program} {w : World} {K : PySem.W.Frag} {mg : Str → Option Value} {base : Heap} {la fo : Addr}
theorem ok_followed {f : Addr} {fd : FuncData} (F : C8.Def K mg "followed" s_followed f fd) (b : Binds K fd ["place", "step_place"] []) (T : TxFol K w mg la fo) : C8.Cal P w K mg base 1 "followed" spFol [] := by
  refine C8.cal0 F b .nil fs_followed (fun vs H Q E h => ?_) (fun cdv A outer s H vs Q E hr h => ?_)
  · obtain ⟨l, p, rfl, _⟩ := h
    rfl
  · obtain ⟨l, p, rfl, hp, q⟩ := h
    have hu := hu_of hr
    refine ⟨_, (pss_cons (ps_if (pt_cmpR op_eq (pv 1) pe_str (nomark _))
       (pss_one (ps_ret (pe_ifExp (pt_cmpR op_eq (pv 0) pe_str (nomark _)) (pe_lst (pa_cons pe_str pa_nil)) (pe_lst (pa_cons pe_str (pa_cons pe_str pa_nil))))))
       pss_nil)
      (pss_one (ps_ret (pe_words (pe_ix ix_tup (pe_ix ix_kdict (C8.pe_gc rfl T.FOLLOWED) (pv 1) (fun _ _ => rfl)) (pe_bm PySem.F.plainAttrs_tuple PySem.F.slot_tuple_index PySem.F.type_tuple_index mt_tup_index (C8.pe_gc rfl T.LIES) (pa_cons (pv 0) pa_nil)) (fun _ _ => rfl)))))), ?_⟩
    walk_at "rd"
    refine ite2 (fun h => ?_) (fun h => ?_)
    · have e : p = "other" := by
        have h := of_decide_eq_true h
        injection h
      unfold folM at q
      rw [if_pos e] at q
      walk_at "rd"
      refine ite2 (fun h => ?_) (fun h => ?_)
      · have e : l = "same" := by
          have h := of_decide_eq_true h
          injection h
        rw [if_pos e] at q
        walk_at "rd"
        exact q
      · have e : ¬ l = "same" := fun e => h (decide_eq_true (by rw [e]))
        rw [if_neg e] at q
        walk_at "rd"
        exact q
    · have e : ¬ p = "other" := fun e => h (decide_eq_true (by rw [e]))
      rcases hp with hp | ⟨hl, hp⟩
      · exact absurd hp e
      obtain ⟨⟨a1, a2⟩, ⟨a3, a4⟩, a5, a6⟩ := fol_facts l hl p hp
      obtain ⟨t, k1, k2⟩ := T.row _ a3
      walk_at "rd"
      refine ⟨fo, p, .ref t, rfl, rfl, k1, ?_⟩
      walk_at "rd"
      refine ⟨.inr (.inl ⟨rfl, T.lie.2⟩), ?_⟩
      walk_at "rd"
      refine ⟨la, liesL, l, lIdx l, rfl, rfl, T.lie.1 _, a1, a2, ?_⟩
      refine q_ixT (k2 _) (atI_nat (v := .str (fCell l p)) (by rw [List.getElem?_map, a4]; rfl)) ?_
      walk_at "rd"
      refine ⟨_, rfl, rfl, Nat.le_trans (Nat.add_le_add_right a6 2) (by decide), fun r hr => ?_⟩
      refine q r _ hr (same_new hr) ?_
      rw [upd_same]
      unfold folM
      rw [if_neg e]
end

def four : List Str := ["apart", "over", "same", "under"]
def seenL : KT := [([.inr "same", .inr "child", .inr "over"], .bl true), ([.inr "over", .inr "parent", .inr "same"], .bl true), ([.inr "over", .inr "sibling", .inr "over"], .bl true), ([.inr "under", .inr "child", .inr "same"], .bl true), ([.inr "under", .inr "child", .inr "apart"], .bl true), ([.inr "same", .inr "parent", .inr "under"], .bl true), ([.inr "same", .inr "sibling", .inr "apart"], .bl true), ([.inr "apart", .inr "parent", .inr "under"], .bl true), ([.inr "apart", .inr "sibling", .inr "same"], .bl true), ([.inr "apart", .inr "sibling", .inr "apart"], .bl true), ([.inr "same", .inr "inside", .inr "over"], .bl true), ([.inr "over", .inr "child", .inr "over"], .bl true), ([.inr "over", .inr "apart", .inr "over"], .bl true), ([.inr "over", .inr "around", .inr "same"], .bl true), ([.inr "over", .inr "parent", .inr "over"], .bl true), ([.inr "under", .inr "inside", .inr "over"], .bl true), ([.inr "apart", .inr "apart", .inr "over"], .bl true), ([.inr "over", .inr "around", .inr "under"], .bl true), ([.inr "over", .inr "apart", .inr "apart"], .bl true), ([.inr "under", .inr "inside", .inr "apart"], .bl true), ([.inr "apart", .inr "child", .inr "apart"], .bl true), ([.inr "same", .inr "apart", .inr "apart"], .bl true), ([.inr "apart", .inr "apart", .inr "apart"], .bl true), ([.inr "apart", .inr "around", .inr "under"], .bl true), ([.inr "apart", .inr "parent", .inr "apart"], .bl true), ([.inr "apart", .inr "apart", .inr "same"], .bl true), ([.inr "under", .inr "child", .inr "under"], .bl true), ([.inr "under", .inr "inside", .inr "same"], .bl true), ([.inr "under", .inr "parent", .inr "under"], .bl true), ([.inr "under", .inr "sibling", .inr "apart"], .bl true), ([.inr "apart", .inr "sibling", .inr "under"], .bl true), ([.inr "same", .inr "around", .inr "under"], .bl true), ([.inr "under", .inr "apart", .inr "apart"], .bl true), ([.inr "apart", .inr "apart", .inr "under"], .bl true), ([.inr "over", .inr "inside", .inr "over"], .bl true), ([.inr "over", .inr "around", .inr "over"], .bl true), ([.inr "apart", .inr "inside", .inr "apart"], .bl true), ([.inr "apart", .inr "around", .inr "apart"], .bl true), ([.inr "under", .inr "inside", .inr "under"], .bl true), ([.inr "under", .inr "around", .inr "under"], .bl true)]
theorem seen_eq0 : seenI treesM = seenL := by decide +kernel
theorem seen_eq : seenM = seenL := seenM_eq.trans seen_eq0
theorem fm_filter {α : Type} (f : α → Bool) (qs : List α) : (qs.map fun n => if f n = true then some n else none).filterMap id = qs.filter f := by
  rw [List.filterMap_map]
  induction qs with
  | nil => rfl
  | cons z zs ih =>
    rw [List.filterMap_cons, List.filter_cons, ih]
    by_cases h : f z = true
    · simp [h]
    · simp [h]
theorem law36_facts0 : ∀ l ∈ liesL, ∀ p ∈ six, four.filter (fun n => (valV seenL [.inr l, .inr p, .inr n]).isSome) = folM l p := by decide +kernel
theorem law36_facts : ∀ l ∈ liesL, ∀ p ∈ six, four.filter (fun n => (valV seenM [.inr l, .inr p, .inr n]).isSome) = folM l p := by
  rw [seen_eq]
  exact law36_facts0
theorem law36_shaped : ∀ l ∈ liesL, ∀ p ∈ six, SeqAt.shaped (.list ((folM l p).map PyData.str)) = true := by decide +kernel
theorem law36_len : ∀ l ∈ liesL, ∀ p ∈ six, (folM l p).length ≤ 10 := by decide +kernel
theorem law36_last : folM "same" "other" = (["other"] : List Str) ∧ folM "other" "other" = (["other", "same"] : List Str) := by decide +kernel
def AskV (B : Hp) (v : V) : Prop := ∃ (t : Addr) (l p : Str), v = .ref t ∧ B t = some (.tup [.str l, .str p]) ∧ l ∈ liesL ∧ p ∈ six
theorem askV_mono {B B' : Hp} (s : Same B B') {v : V} (h : AskV B v) : AskV B' v := by
  obtain ⟨t, l, p, h1, h2, h3⟩ := h
  exact ⟨t, l, p, h1, s _ _ h2, h3⟩
theorem mem_cutV {x : V} {xs : List V} {lo hi : Option Int} (h : x ∈ cutV xs lo hi) : x ∈ xs := List.mem_of_mem_drop (List.mem_of_mem_take h)
theorem dpS {K : PySem.W.Frag} {H : Hp} : ∀ ss : List Str, DpAll K H (ss.map V.str) (ss.map PyData.str)
  | [] => .nil
  | x :: ss => .cons (.str x) (dpS ss)
theorem dpSL {K : PySem.W.Frag} {H : Hp} {a : Addr} {ss : List Str} (h : H a = some (.lst (ss.map V.str))) : Dp K H (.ref a) (.list (ss.map PyData.str)) := .lst (.inl (.inl h)) (dpS ss)
structure TxLaw36 (mg : Str → Option Value) : Prop where
  isinstance : Free mg "isinstance"
  list : Free mg "list"
def spLaw (K : PySem.W.Frag) : Sp := fun vs H Q _ => ∃ (a : Addr) (ns : List Int), vs = [.ref a] ∧ SqL K H a (ns.map V.int) ∧ ns.length ≤ 63 ∧ ∀ H', Q (.bl true) H'
section
variable {P : Program} {w : World} {K : PySem.W.Frag} {mg : Str → Option Value} {base : Heap}
theorem ok_law {f : Addr} {fd : FuncData} (F : C8.Def K mg "law" s_law f fd) (T : TxLaw36 mg) (c_law_bag : C8.Cal P w K mg base 1 "_law_bag" (spBag K) []) (c_law_take : C8.Cal P w K mg base 1 "_law_take" spTake [])
    (c_law_seen : C8.Cal P w K mg base 4 "_law_seen" spSeen []) (c_followed : C8.Cal P w K mg base 1 "followed" spFol []) : FnOk P w K mg base C8.CX0 5 f fd ["_law_script"] (spLaw K) := by
  refine C8.fn0 F.fn fs_law (fun vs H Q E h => ?_) (fun cdv A outer s H vs Q E hr h => ?_)
  · obtain ⟨a, ns, rfl, _⟩ := h
    rfl
  · obtain ⟨a, ns, rfl, hS, hlen, q⟩ := h
    have hu := hu_of hr
    refine ⟨_, (pss_cons (ps_asg (pe_tup (pa_cons (pe_c0 c_law_seen hr (by decide) rfl) (pa_cons (pe_lst pa_nil) pa_nil))) (pg_tup rfl (pgs_cons (pg_name (i := 1) fs_law.nd rfl (Or.inr rfl)) (pgs_cons (pg_name (i := 2) fs_law.nd rfl (Or.inl rfl)) pgs_nil))))
      (pss_cons (ps_for PassesOwn.never rfl (pi_tup (pe_tup (pa_cons pe_str (pa_cons pe_str (pa_cons pe_str (pa_cons pe_str pa_nil)))))) (pg_name (i := 3) fs_law.nd rfl (Or.inr rfl))
       (pss_one (ps_expr (pe_bm PySem.F.plainAttrs_list PySem.F.slot_list_extend PySem.F.type_list_extend mt_extend (pv 2) (pa_cons (pe_lc (own := [("_law_place_here", 5)]) (g := gName 5) rfl fs_law.nd (pi_tup (pe_tup (pa_cons pe_str (pa_cons pe_str (pa_cons pe_str (pa_cons pe_str (pa_cons pe_str (pa_cons pe_str pa_nil)))))))) (blkOk_by (own := [("_law_place_here", 5)]) (N := nm_law) (sc := sc_law) (by decide +kernel)) (fun _ _ _ _ _ => (pg_name (i := 5) fs_law.nd rfl (Or.inl rfl))) (fun _ _ _ _ _ => pts_nil) (fun _ _ _ _ _ => (pe_tup (pa_cons (pv 3) (pa_cons (pv 5) pa_nil))))) pa_nil)))))
      (pss_cons (ps_set (i := 4) fs_law.nd rfl (Or.inl rfl) (C8.pe_c c_law_take hr (by decide) rfl (pa_cons (C8.pe_c c_law_bag hr (by decide) rfl (pa_cons (pv 0) (pa_cons pe_int pa_nil))) (pa_cons pe_int pa_nil))))
      (pss_cons (ps_for PassesOwn.never rfl (pi_list (pe_op op_cat (pe_slice sl_list (pv 2) (po_some (pv 4)) po_none) (pe_slice sl_list (pv 2) po_none (po_some (pv 4))))) (pg_tup rfl (pgs_cons (pg_name (i := 3) fs_law.nd rfl (Or.inr rfl)) (pgs_cons (pg_name (i := 5) fs_law.nd rfl (Or.inr rfl)) pgs_nil)))
       (pss_cons (ps_setLc (i := 6) (own := [("_law_now", 8)]) (g := gName 8) rfl fs_law.nd rfl rfl (sw_true rfl rfl rfl (by decide +kernel)) (pi_tup (pe_tup (pa_cons pe_str (pa_cons pe_str (pa_cons pe_str (pa_cons pe_str pa_nil)))))) (blkOk_by (own := [("_law_now", 8)]) (N := nm_law) (sc := sc_law) (by decide +kernel)) (fun _ _ _ _ _ => (pg_name (i := 8) fs_law.nd rfl (Or.inl rfl))) (fun _ _ _ _ _ => (pts_one (pt_cmp (pc_din hu (pe_tup (pa_cons (pv 3) (pa_cons (pv 5) (pa_cons (pv 8) pa_nil)))) (pv 1))))) (fun _ _ _ _ _ => (pv 8)))
       (pss_cons (ps_set (i := 7) fs_law.nd rfl (Or.inl rfl) (C8.pe_c c_followed hr (by decide) rfl (pa_cons (pv 3) (pa_cons (pv 5) pa_nil))))
       (pss_cons (ps_if (PW.pt (pw_or (pt_not (pt_val (pe_callB call_isi (by rfl) T.isinstance (by decide +kernel) (pa_cons (pv 7) (pa_cons (pe_bltn (v := .ty "list") (by rfl) T.list (by decide +kernel) rfl) pa_nil))))) (pw_or1 (pt_cmpR (op_neD hr.units) (pv 7) (pv 6) (nomark _)))))
        (pss_one (ps_ret pe_bl))
        pss_nil)
       (pss_cons (ps_expr (pe_bm PySem.F.plainAttrs_list PySem.F.slot_list_append PySem.F.type_list_append mt_append (pv 7) (pa_cons pe_str pa_nil)))
       (pss_one (ps_if (pt_cmpR (op_neD hr.units) (C8.pe_c c_followed hr (by decide) rfl (pa_cons (pv 3) (pa_cons (pv 5) pa_nil))) (pv 6) (nomark _))
        (pss_one (ps_ret pe_bl))
        pss_nil)))))))
      (pss_one (ps_ret (pe_and (pe_cmpR (op_eqD hr.units) (C8.pe_c c_followed hr (by decide) rfl (pa_cons pe_str (pa_cons pe_str pa_nil))) (pe_lst (pa_cons pe_str pa_nil)) (nomark _)) (pe_one (pe_cmpR (op_eqD hr.units) (C8.pe_c c_followed hr (by decide) rfl (pa_cons pe_str (pa_cons pe_str pa_nil))) (pe_lst (pa_cons pe_str (pa_cons pe_str pa_nil))) (nomark _)))))))))), ?_⟩
    have hsl : (1000000 : Nat) < sizeLine := by decide
    have f1 : Fs [] H H H H [] := Fs.start (Same.refl H)
    walk_at "rd"
    refine ⟨H, rfl, f1.own.same, fun H1 d hd s1 h1 => ?_⟩
    have f2 := f1.mut hd s1 h1
    walk_at "rd"
    intro as H2 has s2 h2
    have f3 := f2.mut has s2 h2 (f2.fresh has)
    walk_at "rd"
    intro tp H3 htp s3 h3
    have f4 := f3.ext s3
    walk_at "rd"
    intro tt H4 htt s4 h4
    have f5 := f4.stay htt s4 h4 (f4.fresh htt)
    generalize hB1 : upd H tt (HO.tup [V.str "same", V.str "over", V.str "under", V.str "apart"]) = B1 at f5
    have ht1 : B1 tt = some (HO.tup [V.str "same", V.str "over", V.str "under", V.str "apart"]) := by rw [← hB1]; exact upd_same
    walk_at "rd"
    refine for_it (n := 4) (walk_tup (xs := [V.str "same", V.str "over", V.str "under", V.str "apart"])) (fun i σ Hc => ∃ (B : Hp) (ws : List V) (x3 : Option V), σ = [some (.ref a), some (.ref d), some (.ref as), x3, none, none, none, none, none] ∧ Fs [] H H B Hc [(as, .lst ws), (d, .dT seenM)] ∧ Same B1 B ∧ (∀ v ∈ ws, AskV B v) ∧ ws.length = 6 * i)
      ⟨B1, [], _, rfl, f5, Same.refl _, (fun v hv => nomatch hv), rfl⟩ ?_ ?_ ?_
    · rintro i σ Hc _ ⟨B, ws, x3, _, f, sb, _⟩
      exact f.seqT (.inl (.inl (sb _ _ ht1)))
    · rintro i x σ _ Hc hi ⟨B, ws, x3, rfl, f6, sb, ha, hw⟩ ⟨rfl, hx⟩
      obtain ⟨l, rfl, hl⟩ : ∃ l : Str, x = .str l ∧ l ∈ liesL := by
        have e : ([V.str "same", V.str "over", V.str "under", V.str "apart"] : List V) = liesL.map V.str := rfl
        rw [e] at hx
        obtain ⟨l, h1, h2⟩ := List.mem_map.mp (List.mem_of_getElem? hx)
        exact ⟨l, h2.symm, h1⟩
      walk_at "rd"
      intro t6 H6 ht6 s6 h6
      have f7 := f6.stay ht6 s6 h6 (f6.fresh ht6)
      generalize hB2 : upd B t6 (HO.tup [V.str "child", V.str "inside", V.str "parent", V.str "around", V.str "sibling", V.str "apart"]) = B2 at f7
      have ht2 : B2 t6 = some (HO.tup (six.map V.str)) := by rw [← hB2]; exact upd_same
      have sb2 : Same B B2 := by
        rw [← hB2]
        exact same_new (f6.own.same.free ht6)
      walk_at "rd"
      intro D hD
      refine lcR (α := Str) (R := fun B v p => ∃ t, v = .ref t ∧ B t = some (.tup [.str l, .str p])) (B1 := B2) (fun B B' v o sm ⟨t, e, h⟩ => ⟨t, e, sm _ _ h⟩) (outs := six.map some) (walk_tup (xs := six.map V.str)) f7.own.same hD (fun H sm => .inl (.inl (sm _ _ ht2))) (by decide) ?_ ?_
      · rintro k y _ H7 B7 zs Nx Nf hk f8 ⟨rfl, hy⟩ hNx hNf
        rw [List.getElem?_map] at hy
        obtain ⟨p, hp1, rfl⟩ : ∃ p, six[k]? = some p ∧ V.str p = y := by
          cases e : six[k]? with
          | none => rw [e] at hy; cases hy
          | some p => rw [e] at hy; exact ⟨p, rfl, Option.some.inj hy⟩
        have g0 : Fs [] B7 H7 B7 H7 [] := Fs.start f8.own.same
        walk_at "rd"
        refine ⟨rfl, ?_⟩
        walk_at "rd"
        refine iteT ?_
        walk_at "rd"
        intro t9 H9 ht9 s9 h9
        have g1 := g0.stay ht9 s9 h9 ht9
        exact hNx _ _ _ p (by rw [List.getElem?_map, hp1]; rfl) g1.done ⟨t9, rfl, upd_same⟩
      · intro B7 H7 zs f8 pz
        have f9 := f8.freeze hD
        have f10 := f7.call f9.done
        walk_at "rd"
        have ez : zs.length = 6 := by
          rw [pr_len pz]
          rfl
        refine q_extend f10.at0 f8.at0 (by omega) ?_
        intro H8 b8 h8
        refine ⟨_, _, _, rfl, f10.put b8 h8, (sb.trans sb2).trans f9.base, fun v hv => ?_, by rw [List.length_append]; omega⟩
        rcases List.mem_append.mp hv with hv | hv
        · exact askV_mono (sb2.trans f9.base) (ha v hv)
        · obtain ⟨k, hk⟩ := List.getElem?_of_mem hv
          obtain ⟨p, hp1, t, rfl, ht⟩ := pr_get pz hk
          refine ⟨t, l, p, rfl, same_new (f8.own.new (D, .lst zs) List.mem_cons_self) _ _ ht, hl, ?_⟩
          have := List.mem_of_getElem? hp1
          simpa using this
    rintro σ Hc ⟨B, ws, x3, rfl, f6, sb, ha, hw⟩
    walk_at "rd"
    refine ⟨a, ns, 0, rfl, f6.seq0 hS, by omega, fun bg H7 L m hbg s7 h7 hL => ?_⟩
    have f7 := f6.mut hbg s7 h7 (f6.fresh hbg)
    walk_at "rd"
    refine ⟨bg, L, m, 24, rfl, h7, hL, by omega, by omega, fun H8 L' m' bn b8 h8 hL' hn0 hn1 => ?_⟩
    have f8 := (f7.put b8 h8).weak
    walk_at "rd"
    intro r1 H9 hr1 s9 h9
    have f9 := f8.mut hr1 s9 h9 (f8.fresh hr1)
    walk_at "rd"
    intro r2 Ha hr2 sa hha
    have f10 := f9.mut hr2 sa hha (f9.fresh hr2)
    refine q_cat f10.at1 f10.at0 ?_ ?_
    · have h1 := cutV_length ws (some bn) none
      have h2 := cutV_length ws none (some bn)
      exact Nat.le_trans (Nat.add_le_add h1 h2) (by rw [hw]; decide)
    intro r3 Hb hr3 sb3 hb3
    have f11 := f10.stay hr3 sb3 hb3 (f10.fresh hr3)
    generalize hxs : cutV ws (some bn) none ++ cutV ws none (some bn) = xs at f11
    generalize hB5 : upd B r3 (HO.lst xs) = B5 at f11
    have hr5 : B5 r3 = some (.lst xs) := by rw [← hB5]; exact upd_same
    have sb5 : Same B B5 := by
      rw [← hB5]
      exact same_new (f10.own.same.free hr3)
    have hxa : ∀ v ∈ xs, AskV B5 v := fun v hv => by
      rw [← hxs] at hv
      rcases List.mem_append.mp hv with hv | hv
      · exact askV_mono sb5 (ha v (mem_cutV hv))
      · exact askV_mono sb5 (ha v (mem_cutV hv))
    have f12 : Fs [] H H B5 Hb [(d, .dT seenM)] := f11.weak.weak.weak
    walk_at "rd"
    refine for_it (n := xs.length) (walk_list (xs := xs)) (fun j σ Hc => ∃ (B : Hp) (x3 x5 x6 x7 : Option V), σ = [some (.ref a), some (.ref d), some (.ref as), x3, some (.int bn), x5, x6, x7, none] ∧ Fs [] H H B Hc [(d, .dT seenM)] ∧ Same B5 B)
      ⟨B5, _, _, _, _, rfl, f12, Same.refl _⟩ ?_ ?_ ?_
    · rintro i σ Hc _ ⟨B, x3, x5, x6, x7, _, f, sb⟩
      exact f.seq (.inl (.inl (sb _ _ hr5)))
    · rintro j x σ _ Hc hj ⟨B, x3, x5, x6, x7, rfl, f13, sb⟩ ⟨rfl, hx⟩
      obtain ⟨t, l, p, rfl, ht, hl, hp⟩ := askV_mono sb (hxa x (List.mem_of_getElem? hx))
      have fact := law36_facts l hl p hp
      have shp := law36_shaped l hl p hp
      have ht' := f13.get ht
      walk_at "rd"
      intro t4 Hd ht4 sd hd4
      have f14 := f13.stay ht4 sd hd4 (f13.fresh ht4)
      generalize hB6 : upd B t4 _ = B6 at f14
      have ht6 : B6 t4 = some (HO.tup (four.map V.str)) := by rw [← hB6]; exact upd_same
      have sb6 : Same B B6 := by
        rw [← hB6]
        exact same_new (f13.own.same.free ht4)
      walk_at "rd"
      intro D hD
      refine lcR (α := Str) (R := fun B v p => v = .str p) (B1 := B6) (fun B B' v o sm h => h) (outs := four.map fun n => if (valV seenM [.inr l, .inr p, .inr n]).isSome then some n else none) (walk_tup (xs := four.map V.str)) f14.own.same hD (fun H sm => .inl (.inl (sm _ _ ht6))) (by rw [List.length_map]; decide) ?_ ?_
      · rintro k y _ H7 B7 zs Nx Nf hk f8 ⟨rfl, hy⟩ hNx hNf
        rw [List.getElem?_map] at hy
        obtain ⟨n, hn1, rfl⟩ : ∃ n, four[k]? = some n ∧ V.str n = y := by
          cases e : four[k]? with
          | none => rw [e] at hy; cases hy
          | some p => rw [e] at hy; exact ⟨p, rfl, Option.some.inj hy⟩
        have g0 : Fs [] B7 H7 B7 H7 [] := Fs.start f8.own.same
        have hd7 : H7 d = some (.dT seenM) := f8.done.all _ _ f14.at0
        walk_at "rd"
        refine ⟨rfl, ?_⟩
        walk_at "rd"
        intro t9 H9 ht9 s9 h9
        have g1 := g0.ext s9
        walk_at "rd"
        refine q_inT' (k := [.inr l, .inr p, .inr n]) (s9 _ _ hd7) h9 ?_
        walk_at "rd"
        have eo : (four.map fun n => if (valV seenM [.inr l, .inr p, .inr n]).isSome then some n else none)[k]? = some (if (valV seenM [.inr l, .inr p, .inr n]).isSome then some n else none) := by
          rw [List.getElem?_map, hn1]
          rfl
        by_cases hq : (valV seenM [.inr l, .inr p, .inr n]).isSome = true
        · rw [if_pos hq] at eo
          rw [hq]
          refine iteT ?_
          walk_at "rd"
          exact hNx _ _ _ n eo g1.done rfl
        · rw [if_neg hq] at eo
          rw [Bool.not_eq_true] at hq
          rw [hq]
          refine iteF ?_
          exact hNf _ _ eo g1.done
      · intro B7 H7 zs f8 pz
        have f9 := f8.freeze hD
        have f15 := f14.call f9.done
        have ez : zs = (folM l p).map V.str := by
          rw [← fact]
          have e1 : (four.map fun n => if (valV seenM [.inr l, .inr p, .inr n]).isSome then some n else none).filterMap id = four.filter (fun n => (valV seenM [.inr l, .inr p, .inr n]).isSome) := by
            exact fm_filter _ _
          rw [e1] at pz
          have go : ∀ {zs : List V} {qs : List Str}, Paired (fun v p => v = V.str p) zs qs → zs = qs.map V.str := fun {zs qs} h => by
            induction h with
            | nil => rfl
            | cons h _ ih => rw [h, ih]; rfl
          exact go pz
        subst ez
        generalize hB7 : upd B7 D _ = B8 at f9 f15
        have hD8 : B8 D = some (.lst ((folM l p).map V.str)) := by rw [← hB7]; exact upd_same
        have sb8 : Same B5 B8 := (sb.trans sb6).trans f9.base
        walk_at "rd"
        refine ⟨l, p, rfl, .inr ⟨hl, hp⟩, fun r H8 hr s8 h8 => ?_⟩
        have f16 := f15.mut hr s8 h8 (f15.fresh hr)
        walk_at "rd"
        refine ⟨.ref r, .ty "list", .type "list", .type "list", true, rfl, .ty "list", .base (.lst h8), kit_ty (by decide +kernel), ?_⟩
        walk_at "rd"
        refine iteF ?_
        walk_at "rd"
        refine q_neD (dpSL h8) (dpSL (f16.get hD8)) shp shp ?_
        walk_at "rd"
        rw [SeqAt.eqv_refl _ (SeqAt.canLay_of_shaped shp)]
        refine iteF ?_
        walk_at "rd"
        refine q_append h8 (by rw [List.length_map]; exact Nat.lt_of_le_of_lt (law36_len l hl p hp) (by decide)) ?_
        intro H9 b9 h9
        have f17 := (f16.put b9 h9).weak
        walk_at "rd"
        refine ⟨l, p, rfl, .inr ⟨hl, hp⟩, fun r2 Ha hr2 sa hha => ?_⟩
        have f18 := f17.ext sa
        walk_at "rd"
        refine q_neD (dpSL hha) (dpSL (f18.get hD8)) shp shp ?_
        walk_at "rd"
        rw [SeqAt.eqv_refl _ (SeqAt.canLay_of_shaped shp)]
        refine iteF ?_
        walk_at "rd"
        exact ⟨B8, _, _, _, _, rfl, f18, sb8⟩
    · rintro σ Hc ⟨B, x3, x5, x6, x7, rfl, f13, sb⟩
      walk_at "rd"
      refine ⟨"same", "other", rfl, .inl rfl, fun r H8 hr s8 h8 => ?_⟩
      walk_at "rd"
      intro r2 H9 hr2 s9 h9
      rw [law36_last.1] at h8
      refine q_eqD (dpSL (s9 _ _ h8)) (dpSL (ss := ["other"]) h9) (by decide +kernel) (by decide +kernel) ?_
      rw [SeqAt.eqv_refl _ (by decide +kernel)]
      walk_at "rd"
      refine iteT ?_
      walk_at "rd"
      refine ⟨"other", "other", rfl, .inl rfl, fun r H8 hr s8 h8 => ?_⟩
      walk_at "rd"
      intro r2 H9 hr2 s9 h9
      rw [law36_last.2] at h8
      refine q_eqD (dpSL (s9 _ _ h8)) (dpSL (ss := ["other", "same"]) h9) (by decide +kernel) (by decide +kernel) ?_
      rw [SeqAt.eqv_refl _ (by decide +kernel)]
      exact q _
end

/-! ### the head: facts by names -/
def d_followed : He.DefD := ⟨("followed", none), "followed", "followed", C8.fnArgs s_followed, C8.fnBody s_followed, C8.fnScope s_followed, [], []⟩
def d_law_bag : He.DefD := ⟨("_law_bag", none), "_law_bag", "_law_bag", C8.fnArgs s_law_bag, C8.fnBody s_law_bag, C8.fnScope s_law_bag, [], []⟩
def d_law_take : He.DefD := ⟨("_law_take", none), "_law_take", "_law_take", C8.fnArgs s_law_take, C8.fnBody s_law_take, C8.fnScope s_law_take, [], []⟩
def d_law_trees : He.DefD := ⟨("_law_trees", none), "_law_trees", "_law_trees", C8.fnArgs s_law_trees, C8.fnBody s_law_trees, C8.fnScope s_law_trees, [], []⟩
def d_law_above : He.DefD := ⟨("_law_above", none), "_law_above", "_law_above", C8.fnArgs s_law_above, C8.fnBody s_law_above, C8.fnScope s_law_above, [], []⟩
def d_law_place : He.DefD := ⟨("_law_place", none), "_law_place", "_law_place", C8.fnArgs s_law_place, C8.fnBody s_law_place, C8.fnScope s_law_place, [], []⟩
def d_law_wide : He.DefD := ⟨("_law_wide", none), "_law_wide", "_law_wide", C8.fnArgs s_law_wide, C8.fnBody s_law_wide, C8.fnScope s_law_wide, [], []⟩
def d_law_places : He.DefD := ⟨("_law_places", none), "_law_places", "_law_places", C8.fnArgs s_law_places, C8.fnBody s_law_places, C8.fnScope s_law_places, [], []⟩
def d_law_seen : He.DefD := ⟨("_law_seen", none), "_law_seen", "_law_seen", C8.fnArgs s_law_seen, C8.fnBody s_law_seen, C8.fnScope s_law_seen, [], []⟩
def d_law : He.DefD := ⟨("law", none), "law", "law", C8.fnArgs s_law, C8.fnBody s_law, C8.fnScope s_law, [], []⟩
def fnL : List He.DefD := [d_followed, d_law_bag, d_law_take, d_law_trees, d_law_above, d_law_place, d_law_wide, d_law_places, d_law_seen, d_law]
def faL : List He.Fa := [.glo "followed", .glo "_law_bag", .glo "_law_take", .glo "_law_trees", .glo "_law_above", .glo "_law_place", .glo "_law_wide", .glo "_law_places", .glo "_law_seen", .glo "law", .free "int", .free "abs", .free "len", .free "range", .free "isinstance", .free "list", .glo "LIES", .glo "FOLLOWED"]
def loose0 : List Str := ["LIES", "FOLLOWED", "followed", "_law_bag", "_law_take", "_law_trees", "_law_above", "_law_place", "_law_wide", "_law_places", "_law_seen"]
def looseL : List Str := loose0
abbrev lawAt : Nat := 13

theorem def_of {K : PySem.W.Frag} {mg : Str → Option Value} {x : Str} {st : Stmt} {f : Addr} {fd : FuncData} (F : FunD K x x (C8.fnArgs st) (C8.fnBody st) (C8.fnScope st) [] [] f fd) (hm : mg x = some (.ref f)) : C8.Def K mg x st f fd := by
  obtain ⟨⟨oc, od, dV, kV, doc, pm, an, cdv, ct, osl, e, lk, hcd, _, _⟩, kp⟩ := F
  exact ⟨⟨oc, od, dV, kV, doc, pm, an, cdv, ct, osl, e, lk, hcd⟩, hm, kp⟩
/-- a tuple of the written part, at an address found by a path -/
def tupAt (K : PySem.W.Frag) (a : Addr) (vs : List V) : Bool := match K.lookup a with
  | some ⟨.type c, none, .seq its _, _⟩ => decide (c = "tuple") && (decide (its.size ≤ sizeLine) && He.relAll vs its.toList)
  | _ => false
theorem tupAt_ok {K : PySem.W.Frag} {a : Addr} {vs : List V} (h : tupAt K a vs = true) : (∀ H, SqT K H a vs) ∧ ∃ o, K.lookup a = some o ∧ o.cls = .type "tuple" ∧ o.dict = none := by
  unfold tupAt at h
  split at h
  · rename_i c its n sl q
    obtain ⟨h1, h2⟩ := He.ba h
    obtain ⟨h3, h4⟩ := He.ba h2
    have e : Value.type c = Value.type "tuple" := congrArg Value.type (of_decide_eq_true h1)
    exact ⟨fun H => .inr ⟨_, its, n, q, e, rfl, of_decide_eq_true h3, He.relAll_ok h4⟩, _, q, e, rfl⟩
  · cases h
abbrev rowR : PySem.W.OpenRow := PySem.W.OpenLaw.row PySem.Challenge.rw_movinglocks_k36_places_put_together

def foAt (x : Str) (K : PySem.W.Frag) : Addr := match PySem.W.nsIn K (He.ga K "FOLLOWED") x with
  | some (some (.ref t)) => t
  | _ => 0
def tsL : List He.Tab := [(fun K => He.ga K "FOLLOWED", fTable.map (·.1))]
def exB (K : PySem.W.Frag) : Bool := tupAt K (He.ga K "LIES") (liesL.map V.str) && fTable.all fun x => (match PySem.W.nsIn K (He.ga K "FOLLOWED") x.1 with
  | some (some (.ref t)) => tupAt K t (x.2.map V.str)
  | _ => false)
abbrev hk : PySem.W.Hook := He.hookX 4 faL fnL tsL [] exB
def ob (s : PySem.W.SharedT) : He.AlX := He.obsX 4 faL fnL tsL [] exB (HandSHeadRun.getT s)
theorem ob_eq (s : PySem.W.SharedT) : ob s = hk.obs s.abs := He.obsX_eq (HandSHeadRun.getT_eq s)
theorem run (w : World) : HandSHeadRun.RunEq rowR (PySem.W.view rowR.prog [lawAt]) hk ob 3000 looseL w :=
  PySem.W.byRow2 "special-get-raises" (P := fun w => HandSHeadRun.RunEq rowR (PySem.W.view rowR.prog [lawAt]) hk ob 3000 looseL w) (fun w os => by kernel_rfl) (fun w os => by kernel_rfl) w
theorem facts {P : Program} {w : World} {K : PySem.W.Frag} {h : Heap} {mg : Str → Option Value} {f : Addr} (X : K.In h) (G : h.Ns mainGlobals mg) (hfa : mg ("law" : Str) = some (.ref f)) (c : He.SaysX faL fnL tsL [] exB w h K) :
    ∃ fd : FuncData, (∀ (s : Shared) (v : Value), BindsTo s fd ⟨[v], []⟩ [("_law_script", v)]) ∧ ∀ base : Heap, K.In base → base.Ns mainGlobals mg → FnOk P w K mg base C8.CX0 5 f fd ["_law_script"] (spLaw K) := by
  obtain ⟨x1, h1⟩ := He.ba (show (_ && _) = true from c.more)
  have T : TxFol K w mg (He.ga K "LIES") (He.ga K "FOLLOWED") := ⟨⟨_, (He.glo_ok X G (c.t.d.fact 16 (f := .glo "LIES") rfl)), rfl⟩, ⟨_, (He.glo_ok X G (c.t.d.fact 17 (f := .glo "FOLLOWED") rfl)), rfl⟩, tupAt_ok x1, fun x hx => by
    have z := List.all_eq_true.mp h1 x hx
    obtain ⟨es, n, kd⟩ := c.t.tab 0 (t := (fun K => He.ga K "FOLLOWED", fTable.map (·.1))) rfl
    cases e : PySem.W.nsIn K (He.ga K "FOLLOWED") x.1 with
    | none => rw [e] at z; cases z
    | some o =>
      rw [e] at z
      cases o with
      | none => cases z
      | some u =>
        cases u with
        | ref t => exact ⟨t, ⟨es, n, .ref t, kd.at_, kd.lit, e, rfl⟩, (tupAt_ok z).1⟩
        | _ => cases z⟩
  obtain ⟨fd1, F1⟩ := (c.t.d.def_ 1 (d := d_law_bag) rfl)
  obtain ⟨fd2, F2⟩ := (c.t.d.def_ 2 (d := d_law_take) rfl)
  obtain ⟨fd3, F3⟩ := (c.t.d.def_ 3 (d := d_law_trees) rfl)
  obtain ⟨fd4, F4⟩ := (c.t.d.def_ 4 (d := d_law_above) rfl)
  obtain ⟨fd5, F5⟩ := (c.t.d.def_ 5 (d := d_law_place) rfl)
  obtain ⟨fd6, F6⟩ := (c.t.d.def_ 6 (d := d_law_wide) rfl)
  obtain ⟨fd7, F7⟩ := (c.t.d.def_ 7 (d := d_law_places) rfl)
  obtain ⟨fd8, F8⟩ := (c.t.d.def_ 8 (d := d_law_seen) rfl)
  obtain ⟨fd9, F9⟩ := (c.t.d.def_ 0 (d := d_followed) rfl)
  obtain ⟨fd, F⟩ := (c.t.d.def_ 9 (d := d_law) rfl)
  have e := hfa.symm.trans (He.glo_ok X G (c.t.d.fact 9 (f := .glo "law") rfl))
  cases e
  have b := FunD.bindsA (ps := ["_law_script"]) F fun _ _ _ _ _ _ us hl => match us, hl with | [_], _ => rfl
  have b1 : Binds K fd1 ["_law_script", "_law_at"] [] := F1.bindsN fun _ _ _ _ _ _ us hl => match us, hl with | [_, _], _ => rfl
  have b2 : Binds K fd2 ["_law_bag_here", "_law_size"] [] := F2.bindsN fun _ _ _ _ _ _ us hl => match us, hl with | [_, _], _ => rfl
  have b3 : Binds K fd3 [] [] := F3.bindsN fun _ _ _ _ _ _ us hl => match us, hl with | [], _ => rfl
  have b4 : Binds K fd4 ["_law_parents", "_law_folder"] [] := F4.bindsN fun _ _ _ _ _ _ us hl => match us, hl with | [_, _], _ => rfl
  have b5 : Binds K fd5 ["_law_parents", "_law_one", "_law_other"] [] := F5.bindsN fun _ _ _ _ _ _ us hl => match us, hl with | [_, _, _], _ => rfl
  have b6 : Binds K fd6 ["_law_place_here"] [] := F6.bindsN fun _ _ _ _ _ _ us hl => match us, hl with | [_], _ => rfl
  have b7 : Binds K fd7 ["_law_parents"] [] := F7.bindsN fun _ _ _ _ _ _ us hl => match us, hl with | [_], _ => rfl
  have b8 : Binds K fd8 [] [] := F8.bindsN fun _ _ _ _ _ _ us hl => match us, hl with | [], _ => rfl
  have b9 : Binds K fd9 ["place", "step_place"] [] := F9.bindsN fun _ _ _ _ _ _ us hl => match us, hl with | [_, _], _ => rfl
  have TR : TxRange mg := ⟨(He.free_ok X G (c.t.d.fact 13 (f := .free "range") rfl))⟩
  refine ⟨fd, fun s v => b s [v] rfl, fun base _ _ => ?_⟩
  have C1 : C8.Cal P w K mg base 1 "_law_bag" (spBag K) [] := ok_bag (def_of F1 (He.glo_ok X G (c.t.d.fact 1 (f := .glo "_law_bag") rfl))) b1 ⟨(He.free_ok X G (c.t.d.fact 10 (f := .free "int") rfl)), (He.free_ok X G (c.t.d.fact 11 (f := .free "abs") rfl)), (He.free_ok X G (c.t.d.fact 12 (f := .free "len") rfl))⟩
  have C2 : C8.Cal P w K mg base 1 "_law_take" spTake [] := ok_take (def_of F2 (He.glo_ok X G (c.t.d.fact 2 (f := .glo "_law_take") rfl))) b2 ⟨(He.free_ok X G (c.t.d.fact 10 (f := .free "int") rfl))⟩
  have C3 : C8.Cal P w K mg base 1 "_law_trees" (spTrees K) [] := ok_trees (def_of F3 (He.glo_ok X G (c.t.d.fact 3 (f := .glo "_law_trees") rfl))) b3 TR
  have C4 : C8.Cal P w K mg base 1 "_law_above" (spAbove K) [] := ok_above (def_of F4 (He.glo_ok X G (c.t.d.fact 4 (f := .glo "_law_above") rfl))) b4
  have C5 : C8.Cal P w K mg base 2 "_law_place" (spPlace K) [] := ok_place (def_of F5 (He.glo_ok X G (c.t.d.fact 5 (f := .glo "_law_place") rfl))) b5 C4
  have C6 : C8.Cal P w K mg base 1 "_law_wide" spWide [] := ok_wide (def_of F6 (He.glo_ok X G (c.t.d.fact 6 (f := .glo "_law_wide") rfl))) b6
  have C7 : C8.Cal P w K mg base 3 "_law_places" (spPlaces K) [] := ok_places (def_of F7 (He.glo_ok X G (c.t.d.fact 7 (f := .glo "_law_places") rfl))) b7 TR C5
  have C8' : C8.Cal P w K mg base 4 "_law_seen" spSeen [] := ok_seen (def_of F8 (He.glo_ok X G (c.t.d.fact 8 (f := .glo "_law_seen") rfl))) b8 TR C7 C3 C6
  have C9 : C8.Cal P w K mg base 1 "followed" spFol [] := ok_followed (def_of F9 (He.glo_ok X G (c.t.d.fact 0 (f := .glo "followed") rfl))) b9 T
  exact ok_law (def_of F (He.glo_ok X G (c.t.d.fact 9 (f := .glo "law") rfl))) ⟨(He.free_ok X G (c.t.d.fact 14 (f := .free "isinstance") rfl)), (He.free_ok X G (c.t.d.fact 15 (f := .free "list") rfl))⟩ C1 C2 C8' C9

end Ml
open PySem PySem.W PySem.Calls PyProof.Rows
theorem PySem.Challenge.cw_movinglocks_k36_places_put_together_holds : PySem.Challenge.rw_movinglocks_k36_places_put_together.Holds := by
  w_on; o_law
  refine HandSHeadRun.head_any (r := Ml.rowR) (q := view Ml.rowR.prog [Ml.lawAt]) (H := Ml.hk) (ob := Ml.ob) (M := 3000) (loose := Ml.looseL) (d := HandSHeadRun.topDef Ml.rowR.prog Ml.lawAt) (kwd := []) Ml.ob_eq
    (by kernel_rfl) (fun s => by kernel_rfl) Ml.run (by kernel_rfl) (by kernel_rfl) (by kernel_rfl) (by rfl) (by first | assumption | decide +kernel) (by decide +kernel) ⟨rfl, rfl, rfl, rfl, rfl, by decide +kernel⟩ ?hw ?hc
  case hw => w_witness2
  case hc =>
    refine L2.walk_ofE (l := PySem.Challenge.rw_movinglocks_k36_places_put_together) (n := 63) (k := 5) (x := "_law_script") (CX := C8.CX0) rfl (by decide) (by kernel_rfl) ⟨rfl, by decide, by decide⟩ ?F (fun _ _ _ _ z => z)
    intro w mg fa h Y G hmg0
    obtain ⟨K, KX, c⟩ := Y
    have hmg : mg ("law" : PySem.Str) = some (.ref fa) := by
      have e : (HandSHeadRun.topDef Ml.rowR.prog Ml.lawAt).name = ("law" : PySem.Str) := by kernel_rfl
      rw [← e]
      exact hmg0
    obtain ⟨fd, hb, hF⟩ := Ml.facts (P := (PySem.Challenge.rw_movinglocks_k36_places_put_together).prog) (w := w) KX G hmg c
    exact ⟨K, fd, Ml.spLaw K, KX, hb, fun H a ns hl _ hS => ⟨a, ns, rfl, hS, hl, fun _ => rfl⟩, hF⟩
