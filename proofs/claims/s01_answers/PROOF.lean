import PyProof.Rows.All
import Wide.All
import OpenK.AllK
import Wide.FinOn
import Open.SpecLaws
import KE.OsGo
import HandS.ForSpec
import HandS.Codes
import HandS.Comp
import HandS.Zip
import HandS.TupAny
import HandS.TupSets
import HandS.NoneIn
import HandS.Style
import HandS.Flow
import KE.GoesMore
import PySem.Challenge.RW_flourashes_s01_answers
set_option Elab.async false
set_option maxRecDepth 100000
set_option maxHeartbeats 4000000
set_option linter.unusedVariables false
namespace Fa
open PySem PySem.Spec PyProof.Rows L2
/-- the i-th statement of the program -/
def top (i : Nat) : Stmt := PySem.Challenge.pw_flourashes_s01_answers.main.body.getD i (.Pass ⟨0, 0, 0, 0⟩)
/-- a def of the module behind the top -/
def DefX (K : PySem.W.Frag) (x : Str) (st : Stmt) : Prop := ∃ (f : Addr) (fd : FuncData), PySem.W.nsIn K mainGlobals x = some (some (.ref f)) ∧ C8.Fun K x x st f fd ∧ fd.defaults = .none ∧ PySem.W.keepIn K (.ref f) = true
theorem defX {K : PySem.W.Frag} {x : Str} {st : Stmt} {f : Addr} {oc : Value} {od an : Option Addr} {osl : Array (Option Value)} {kV doc pm cdv ct : Value} (a : PySem.W.nsIn K mainGlobals x = some (some (.ref f)))
    (l : K.lookup f = some ⟨oc, od, .func (PySem.W.fnOf x x (C8.fnArgs st) (C8.fnBody st) (C8.fnScope st) .none kV doc pm an cdv ct), osl⟩) (c : PySem.W.codeIn K cdv x = true) (k : PySem.W.keepIn K (.ref f) = true) : DefX K x st :=
  ⟨f, _, a, ⟨⟨oc, od, .none, kV, doc, pm, an, cdv, ct, osl, rfl, l, c⟩⟩, rfl, k⟩
/-- a method -/
def MetX (K : PySem.W.Frag) (C : Addr) (x qual : Str) (st : Stmt) : Prop := ∃ (f : Addr) (fd : FuncData), PySem.W.findIn K (.ref C) x = some (some (.ref f)) ∧ PySem.W.isFn K (.ref f) = true ∧ C8.Fun K x qual st f fd ∧ fd.defaults = .none ∧ PySem.W.keepIn K (.ref f) = true
theorem metX {K : PySem.W.Frag} {C : Addr} {x qual : Str} {st : Stmt} {f : Addr} {oc : Value} {od an : Option Addr} {osl : Array (Option Value)} {kV doc pm cdv ct : Value} (a : PySem.W.findIn K (.ref C) x = some (some (.ref f))) (i : PySem.W.isFn K (.ref f) = true)
    (l : K.lookup f = some ⟨oc, od, .func (PySem.W.fnOf x qual (C8.fnArgs st) (C8.fnBody st) (C8.fnScope st) .none kV doc pm an cdv ct), osl⟩) (c : PySem.W.codeIn K cdv qual = true) (k : PySem.W.keepIn K (.ref f) = true) : MetX K C x qual st :=
  ⟨f, _, a, i, ⟨⟨oc, od, .none, kV, doc, pm, an, cdv, ct, osl, rfl, l, c⟩⟩, rfl, k⟩
/-- a whole number of the module -/
def IntX (K : PySem.W.Frag) (x : Str) (i : Int) : Prop := ∃ t, PySem.W.nsIn K mainGlobals x = some (some (.int i t))
theorem intX {K : PySem.W.Frag} {x : Str} {i : Int} {t : Tok} (a : PySem.W.nsIn K mainGlobals x = some (some (.int i t))) : IntX K x i := ⟨t, a⟩
/-- a written tuple of whole numbers -/
def TupX (K : PySem.W.Frag) (a : Addr) (ns : List Int) : Prop := ∃ (o : Obj) (its : Array Value) (n : Nat), K.lookup a = some o ∧ o.cls = .type "tuple" ∧ o.data = .seq its n ∧ its.size ≤ sizeLine ∧ Vals (ns.map V.int) its.toList
structure ClsX (K : PySem.W.Frag) (x : Str) (C : Addr) : Prop where
  nm : PySem.W.nsIn K mainGlobals x = some (some (.ref C))
  pg : PySem.W.plainGet K C Str.empty = true
  hd : PySem.W.hasDictIn K C = true
  po : PySem.W.plainOver K C = true
  sa : PySem.W.findIn K (.ref C) "__setattr__" = some (some (.builtin "object.__setattr__"))
  mks : PySem.W.makesIn K C = true
  kc : PySem.W.keepIn K (.ref C) = true
structure BleX (K : PySem.W.Frag) (C : Addr) : Prop where
  c : ClsX K "Blender" C
  nM : PySem.W.findIn K (.ref C) "mill" = some none
  nA : PySem.W.findIn K (.ref C) "assignment" = some none
  ini : MetX K C "__init__" "Blender.__init__" (inClass (top 31) 0)
  cha : MetX K C "changed" "Blender.changed" (inClass (top 31) 1)
structure DesX (K : PySem.W.Frag) (C : Addr) : Prop where
  c : ClsX K "Desk" C
  nB : PySem.W.findIn K (.ref C) "blender" = some none
  ini : MetX K C "__init__" "Desk.__init__" (inClass (top 75) 0)
  ans : MetX K C "answer" "Desk.answer" (inClass (top 75) 1)
/-- what stands in COUNTS -/
def entryView (e : DictEntry) : Option (Int × Int × Int) := match e.key, e.val with
  | .int k _, .int v _ => some (e.hash, k, v)
  | _, _ => none
def countsL : List (Int × Int) := [(0, 1), (1, 2), (2, 1), (3, 3), (4, 3), (5, 1), (6, 1), (8, 0), (9, 2), (10, 1), (11, 1), (12, 0), (13, 0), (14, 0), (15, 0), (17, 0), (18, 0), (19, 2), (20, 1), (21, 2)]
def CntX (K : PySem.W.Frag) : Prop := ∃ (D : Addr) (es : Array DictEntry) (n : Nat), PySem.W.nsIn K mainGlobals "COUNTS" = some (some (.ref D)) ∧ K.lookup D = some ⟨.type "dict", none, .dict es n, #[]⟩ ∧ (D == sysModules) = false ∧ es.toList.map entryView = countsL.map fun kv => some (hashInt kv.1, kv.1, kv.2)
theorem cntX {K : PySem.W.Frag} {D : Addr} {es : Array DictEntry} {n : Nat} (a : PySem.W.nsIn K mainGlobals "COUNTS" = some (some (.ref D))) (l : K.lookup D = some ⟨.type "dict", none, .dict es n, #[]⟩) (b : (D == sysModules) = false)
    (c : es.toList.map entryView = countsL.map fun kv => some (hashInt kv.1, kv.1, kv.2)) : CntX K := ⟨D, es, n, a, l, b, c⟩
def WliX (K : PySem.W.Frag) : Prop := ∃ a, PySem.W.nsIn K mainGlobals "WITH_LIST" = some (some (.ref a)) ∧ TupX K a [7, 16]
theorem wliX {K : PySem.W.Frag} {a : Addr} (h : PySem.W.nsIn K mainGlobals "WITH_LIST" = some (some (.ref a))) (t : TupX K a [7, 16]) : WliX K := ⟨a, h, t⟩
theorem tupX0 {K : PySem.W.Frag} {a : Addr} {i j : Int} {t u : Tok} {c : Option Addr} {sl : Array (Option Value)} {n : Nat} (l : K.lookup a = some ⟨.type "tuple", c, .seq #[.int i t, .int j u] n, sl⟩) : TupX K a [i, j] :=
  ⟨_, _, _, l, rfl, rfl, (by show 2 ≤ sizeLine; decide), .cons ⟨t, rfl⟩ (.cons ⟨u, rfl⟩ .nil)⟩
def NofX (K : PySem.W.Frag) : Prop := ∃ a b c d, PySem.W.nsIn K mainGlobals "NO_FLOURS" = some (some (.ref a)) ∧ (∃ (o : Obj) (its : Array Value) (n : Nat), K.lookup a = some o ∧ o.cls = .type "tuple" ∧ o.data = .seq its n ∧ its.size ≤ sizeLine ∧ Vals [.ref b, .ref c, .ref d] its.toList) ∧ TupX K b [0, 0] ∧ TupX K c [0, 0] ∧ TupX K d [0, 0]
theorem nofX {K : PySem.W.Frag} {a b c d : Addr} {od : Option Addr} {sl : Array (Option Value)} {n : Nat} (h : PySem.W.nsIn K mainGlobals "NO_FLOURS" = some (some (.ref a))) (l : K.lookup a = some ⟨.type "tuple", od, .seq #[.ref b, .ref c, .ref d] n, sl⟩)
    (tb : TupX K b [0, 0]) (tc : TupX K c [0, 0]) (td : TupX K d [0, 0]) : NofX K := ⟨a, b, c, d, h, ⟨_, _, _, l, rfl, rfl, (by show 3 ≤ sizeLine; decide), .cons rfl (.cons rfl (.cons rfl .nil))⟩, tb, tc, td⟩
/-- all of it -/
structure Facts (K : PySem.W.Frag) : Prop where
  d_new_mill : DefX K "new_mill" (top 7)
  d_has_stream : DefX K "has_stream" (top 8)
  d_are_amount_and_ash : DefX K "are_amount_and_ash" (top 9)
  d_replaced : DefX K "replaced" (top 10)
  d_without : DefX K "without" (top 11)
  d_with_streams : DefX K "with_streams" (top 12)
  d_with_flour : DefX K "with_flour" (top 13)
  d_with_feed_price : DefX K "with_feed_price" (top 14)
  d_amounts_of : DefX K "amounts_of" (top 18)
  d_ashes_of : DefX K "ashes_of" (top 19)
  d_margin_of : DefX K "margin_of" (top 20)
  d_is_feasible : DefX K "is_feasible" (top 21)
  d_revenue_of : DefX K "revenue_of" (top 22)
  d_fits : DefX K "fits" (top 23)
  d_longer : DefX K "longer" (top 34)
  d_all_assignments : DefX K "all_assignments" (top 35)
  d_feasible_ones : DefX K "feasible_ones" (top 36)
  d_first_greatest : DefX K "first_greatest" (top 37)
  d_best_of : DefX K "best_of" (top 38)
  d_most_first_flour : DefX K "most_first_flour" (top 39)
  d_add_stream : DefX K "add_stream" (top 41)
  d_remove_stream : DefX K "remove_stream" (top 42)
  d_set_stream : DefX K "set_stream" (top 43)
  d_set_flour : DefX K "set_flour" (top 44)
  d_set_feed_price : DefX K "set_feed_price" (top 45)
  d_set_assignment : DefX K "set_assignment" (top 46)
  d_move_stream : DefX K "move_stream" (top 47)
  d_apply_best_assignment : DefX K "apply_best_assignment" (top 48)
  d_greatest_divisor : DefX K "greatest_divisor" (top 50)
  d_lowest_terms : DefX K "lowest_terms" (top 51)
  d_by_ash : DefX K "by_ash" (top 52)
  d_split_total : DefX K "split_total" (top 53)
  d_get_stream : DefX K "get_stream" (top 55)
  d_get_assignment : DefX K "get_assignment" (top 56)
  d_flour_quality : DefX K "flour_quality" (top 57)
  d_ash_margin : DefX K "ash_margin" (top 58)
  d_revenue : DefX K "revenue" (top 59)
  d_best_assignment : DefX K "best_assignment" (top 60)
  d_feasible_count : DefX K "feasible_count" (top 61)
  d_evaluate_assignment : DefX K "evaluate_assignment" (top 62)
  d_max_first_flour : DefX K "max_first_flour" (top 63)
  d_max_first_flour_split : DefX K "max_first_flour_split" (top 64)
  d_best_revenue_for_limit : DefX K "best_revenue_for_limit" (top 65)
  d_value_of_stream : DefX K "value_of_stream" (top 66)
  d_best_revenue_for_price : DefX K "best_revenue_for_price" (top 67)
  d_create : DefX K "create" (top 70)
  d_change_answered : DefX K "change_answered" (top 71)
  d_state_answered : DefX K "state_answered" (top 72)
  d_search_answered : DefX K "search_answered" (top 73)
  d_answered : DefX K "answered" (top 74)
  d_call_at : DefX K "call_at" (top 79)
  d_answers : DefX K "answers" (top 80)
  i_MOST_STREAMS : IntX K "MOST_STREAMS" (6)
  i_FLOURS : IntX K "FLOURS" (3)
  i_GREATEST_AMOUNT : IntX K "GREATEST_AMOUNT" (99)
  i_GREATEST_ASH : IntX K "GREATEST_ASH" (300)
  i_GREATEST_PRICE : IntX K "GREATEST_PRICE" (99)
  i_FEED : IntX K "FEED" (3)
  i_DESTINATIONS : IntX K "DESTINATIONS" (4)
  i_NO_BLENDER : IntX K "NO_BLENDER" (-11)
  i_NOT_THERE : IntX K "NOT_THERE" (-2)
  i_OUTSIDE : IntX K "OUTSIDE" (-22)
  i_TOO_MANY : IntX K "TOO_MANY" (-28)
  i_EMPTY : IntX K "EMPTY" (-33)
  i_EXCEEDS : IntX K "EXCEEDS" (-30)
  i_FIRST_FLOUR : IntX K "FIRST_FLOUR" (0)
  i_CREATE : IntX K "CREATE" (0)
  b_len : PySem.W.nsIn K mainGlobals "len" = some none
  b_all : PySem.W.nsIn K mainGlobals "all" = some none
  b_sum : PySem.W.nsIn K mainGlobals "sum" = some none
  b_zip : PySem.W.nsIn K mainGlobals "zip" = some none
  b_range : PySem.W.nsIn K mainGlobals "range" = some none
  b_sorted : PySem.W.nsIn K mainGlobals "sorted" = some none
  b_enumerate : PySem.W.nsIn K mainGlobals "enumerate" = some none
  b_tuple : PySem.W.nsIn K mainGlobals "tuple" = some none
  b_list : PySem.W.nsIn K mainGlobals "list" = some none
  ble : ∃ C, BleX K C
  des : ∃ C, DesX K C
  nof : NofX K
  wli : WliX K
  cnt : CntX K
end Fa
/-! Data over the heap; what evaluates to which data. -/
namespace Fa
open PySem PySem.Spec PyProof.Rows L2

/-! ### data -/
/-- None, truth values, whole numbers, tuples, lists -/
inductive D where
  | non
  | bl (b : Bool)
  | int (i : Int)
  | tup (l : List D)
  | lst (l : List D)
mutual
inductive Rep (K : PySem.W.Frag) (H : Hp) : D → V → Prop
  | non : Rep K H .non .non
  | bl {b : Bool} : Rep K H (.bl b) (.bl b)
  | int {i : Int} : Rep K H (.int i) (.int i)
  | tup {l : List D} {a : Addr} {vs : List V} : SqT K H a vs → Reps K H l vs → Rep K H (.tup l) (.ref a)
  | lst {l : List D} {a : Addr} {vs : List V} : SqL K H a vs → Reps K H l vs → Rep K H (.lst l) (.ref a)
inductive Reps (K : PySem.W.Frag) (H : Hp) : List D → List V → Prop
  | nil : Reps K H [] []
  | cons {d : D} {v : V} {l : List D} {vs : List V} : Rep K H d v → Reps K H l vs → Reps K H (d :: l) (v :: vs)
end
variable {K : PySem.W.Frag} {H H' H1 H2 : Hp}
/-- every tuple stands -/
def KeepT (H H' : Hp) : Prop := ∀ a xs, Rd H a (.tup xs) → Rd H' a (.tup xs)
theorem KeepT.refl (H : Hp) : KeepT H H := fun _ _ h => h
theorem KeepT.trans (a : KeepT H H1) (b : KeepT H1 H2) : KeepT H H2 := fun x xs h => b x xs (a x xs h)
theorem keepT_of (s : Same H H') : KeepT H H' := fun a xs h => by
  rcases h with h | ⟨o, h⟩
  · exact .inl (s _ _ h)
  · exact .inr ⟨o, s _ _ h⟩
theorem keepT_upd {a : Addr} {o : HO} (h : ∀ xs, ¬ Rd H a (.tup xs)) : KeepT H (upd H a o) := fun b xs hb => by
  by_cases e : b = a
  · subst e; exact absurd hb (h xs)
  · rcases hb with hb | ⟨u, hb⟩
    · exact .inl (by rw [upd_ne e]; exact hb)
    · exact .inr ⟨u, by rw [upd_ne e]; exact hb⟩
theorem keepT_but {a : Addr} (h : ∀ xs, ¬ Rd H a (.tup xs)) (k : ∀ b o, H b = some o → b ≠ a → H' b = some o) : KeepT H H' := fun b xs hb => by
  by_cases e : b = a
  · subst e; exact absurd hb (h xs)
  · rcases hb with hb | ⟨u, hb⟩
    · exact .inl (k _ _ hb e)
    · exact .inr ⟨u, k _ _ hb e⟩
theorem noRd_lst {a : Addr} {vs : List V} (h : H a = some (.lst vs)) (xs : List V) : ¬ Rd H a (.tup xs) := by
  rintro (q | ⟨o, q⟩) <;> rw [h] at q <;> cases q
theorem noRd_ins {a C dx : Addr} {fs : List (Str × V)} (h : H a = some (.ins C dx fs)) (xs : List V) : ¬ Rd H a (.tup xs) := by
  rintro (q | ⟨o, q⟩) <;> rw [h] at q <;> cases q
theorem noRd_none {a : Addr} (h : H a = none) (xs : List V) : ¬ Rd H a (.tup xs) := by
  rintro (q | ⟨o, q⟩) <;> rw [h] at q <;> cases q
theorem KeepT.seq {a : Addr} {xs : List V} (k : KeepT H H') (h : SqT K H a xs) : SqT K H' a xs := by
  rcases h with h | h
  · exact .inl (k _ _ h)
  · exact .inr h
theorem same_new {p : Addr} {o : HO} (h : H p = none) : Same H (upd H p o) := fun b x e => by
  rw [upd_ne (ne_of_none e h)]; exact e
theorem same_mut {p : Addr} {o : HO} (e : Same H H') (h : H p = none) : Same H (upd H' p o) := fun a u ha => by
  rw [upd_ne (ne_of_none ha h)]; exact e a u ha
mutual
theorem Rep.same (s : Same H H') : ∀ {d : D} {v : V}, Rep K H d v → Rep K H' d v
  | _, _, .non => .non
  | _, _, .bl => .bl
  | _, _, .int => .int
  | _, _, .tup h r => .tup ((keepT_of s).seq h) (Reps.same s r)
  | _, _, .lst h r => .lst (s.seq h) (Reps.same s r)
theorem Reps.same (s : Same H H') : ∀ {l : List D} {vs : List V}, Reps K H l vs → Reps K H' l vs
  | _, _, .nil => .nil
  | _, _, .cons h r => .cons (Rep.same s h) (Reps.same s r)
end
theorem Reps.length : ∀ {l : List D} {vs : List V}, Reps K H l vs → vs.length = l.length
  | _, _, .nil => rfl
  | _, _, .cons _ r => congrArg (· + 1) (Reps.length r)
theorem Reps.get : ∀ {l : List D} {vs : List V} {i : Nat} {d : D}, Reps K H l vs → l[i]? = some d → ∃ v, vs[i]? = some v ∧ Rep K H d v
  | _, _, _, _, .nil, e => by simp at e
  | _, _, 0, _, .cons h _, e => by simp at e; subst e; exact ⟨_, rfl, h⟩
  | _, _, i + 1, _, .cons _ r, e => by
    obtain ⟨v, h1, h2⟩ := Reps.get (i := i) r (by simpa using e)
    exact ⟨v, by simpa using h1, h2⟩
theorem Reps.getV : ∀ {l : List D} {vs : List V} {i : Nat} {v : V}, Reps K H l vs → vs[i]? = some v → ∃ d, l[i]? = some d ∧ Rep K H d v
  | _, _, _, _, .nil, e => by simp at e
  | _, _, 0, _, .cons h _, e => by simp at e; subst e; exact ⟨_, rfl, h⟩
  | _, _, i + 1, _, .cons _ r, e => by
    obtain ⟨v, h1, h2⟩ := Reps.getV (i := i) r (by simpa using e)
    exact ⟨v, by simpa using h1, h2⟩
theorem Reps.append : ∀ {l : List D} {vs : List V} {m : List D} {ws : List V}, Reps K H l vs → Reps K H m ws → Reps K H (l ++ m) (vs ++ ws)
  | _, _, _, _, .nil, s => s
  | _, _, _, _, .cons h r, s => .cons h (Reps.append r s)
theorem Reps.take : ∀ {l : List D} {vs : List V} (n : Nat), Reps K H l vs → Reps K H (l.take n) (vs.take n)
  | _, _, 0, _ => .nil
  | _, _, _ + 1, .nil => .nil
  | _, _, n + 1, .cons h r => .cons h (Reps.take n r)
theorem Reps.drop : ∀ {l : List D} {vs : List V} (n : Nat), Reps K H l vs → Reps K H (l.drop n) (vs.drop n)
  | _, _, 0, r => r
  | _, _, _ + 1, .nil => .nil
  | _, _, n + 1, .cons _ r => Reps.drop n r
theorem Reps.set {d : D} {v : V} (q : Rep K H d v) : ∀ {l : List D} {vs : List V} (n : Nat), Reps K H l vs → Reps K H (l.set n d) (vs.set n v)
  | _, _, _, .nil => .nil
  | _, _, 0, .cons _ r => .cons q r
  | _, _, n + 1, .cons h r => .cons h (Reps.set q n r)
theorem Reps.ints : ∀ (ns : List Int), Reps K H (ns.map D.int) (ns.map V.int)
  | [] => .nil
  | _ :: r => .cons .int (Reps.ints r)
theorem Reps.ints_eq : ∀ {ns : List Int} {vs : List V}, Reps K H (ns.map D.int) vs → vs = ns.map V.int
  | [], _, .nil => rfl
  | _ :: _, _, .cons .int r => congrArg (_ :: ·) (Reps.ints_eq r)
theorem Reps.bls_eq : ∀ {bs : List Bool} {vs : List V}, Reps K H (bs.map D.bl) vs → vs = bs.map V.bl
  | [], _, .nil => rfl
  | _ :: _, _, .cons .bl r => congrArg (_ :: ·) (Reps.bls_eq r)
/-- data that stand whatever becomes of lists and instances -/
def Stab (d : D) : Prop := ∀ (K : PySem.W.Frag) (H H' : Hp) (v : V), KeepT H H' → Rep K H d v → Rep K H' d v
theorem stab_int {i : Int} : Stab (.int i) := fun _ _ _ _ _ h => by cases h; exact .int
theorem stab_bl {b : Bool} : Stab (.bl b) := fun _ _ _ _ _ h => by cases h; exact .bl
theorem reps_keep {l : List D} (hl : ∀ d ∈ l, Stab d) (k : KeepT H H') : ∀ {vs : List V}, Reps K H l vs → Reps K H' l vs := by
  induction l with
  | nil => intro vs h; cases h; exact .nil
  | cons d l ih =>
    intro vs h
    cases h with
    | cons h r => exact .cons (hl d (List.mem_cons_self ..) _ _ _ _ k h) (ih (fun x hx => hl x (List.mem_cons_of_mem _ hx)) r)
theorem stab_tup {l : List D} (hl : ∀ d ∈ l, Stab d) : Stab (.tup l) := fun _ _ _ _ k h => by
  cases h with
  | tup h r => exact .tup (k.seq h) (reps_keep hl k r)

/-! ### what evaluates to which data -/
def EvD (K : PySem.W.Frag) (te : TE) (σ : L2.St) (H : Hp) (d : D) : Prop := ∀ H1, Same H H1 → ∀ Q : VK, (∀ v H2, Same H1 H2 → Rep K H2 d v → Q v H2) → te σ H1 Q
/-- a new list -/
def EvN (K : PySem.W.Frag) (te : TE) (σ : L2.St) (H : Hp) (ds : List D) : Prop := ∀ H1, Same H H1 → ∀ Q : VK, (∀ p vs H2, H1 p = none → Same H1 H2 → H2 p = some (.lst vs) → Reps K H2 ds vs → Q (.ref p) H2) → te σ H1 Q
def EvA (K : PySem.W.Frag) (ta : TA) (σ : L2.St) (H : Hp) (ds : List D) : Prop := ∀ H1, Same H H1 → ∀ Q : List V → Hp → Prop, (∀ vs H2, Same H1 H2 → Reps K H2 ds vs → Q vs H2) → ta σ H1 Q
def EvB (tt : TT) (σ : L2.St) (H : Hp) (b : Bool) : Prop := ∀ H1, Same H H1 → ∀ Q : Bool → Hp → Prop, (∀ H2, Same H1 H2 → Q b H2) → tt σ H1 Q
def EvO (to : TO) (σ : L2.St) (H : Hp) (o : Option Int) : Prop := ∀ H1, Same H H1 → ∀ Q : Option Int → Hp → Prop, (∀ H2, Same H1 H2 → Q o H2) → to σ H1 Q
variable {σ : L2.St} {ta tb te tc : TE} {t u : TT} {d d1 d2 : D} {r : R2}
theorem sq_of {a : Addr} {vs : List V} (h : H a = some (.lst vs)) : SqL K H a vs := .inl (.inl h)
theorem st_of {a : Addr} {vs : List V} (h : H a = some (.tup vs)) : SqT K H a vs := .inl (.inl h)
theorem EvN.toD {ds : List D} (h : EvN K te σ H ds) : EvD K te σ H (.lst ds) := fun H1 s Q q => h H1 s Q fun p vs H2 _ s2 hp r => q _ H2 s2 (.lst (sq_of hp) r)
theorem EvD.mono (s : Same H H') (h : EvD K te σ H d) : EvD K te σ H' d := fun H1 a Q q => h H1 (s.trans a) Q q
theorem EvD.is (h : EvD K te σ H d) (e : d = d1) : EvD K te σ H d1 := e ▸ h
theorem EvN.is {ds ds' : List D} (h : EvN K te σ H ds) (e : ds = ds') : EvN K te σ H ds' := e ▸ h
theorem EvB.is {b b' : Bool} (h : EvB t σ H b) (e : b = b') : EvB t σ H b' := e ▸ h
theorem ed_var {i : Nat} {v : V} (h : σ[i]? = some (some v)) (r : Rep K H d v) : EvD K (tVar i) σ H d := fun H1 s _ q => ⟨v, h, q v H1 (.refl _) (r.same s)⟩
theorem ed_int {i : Int} : EvD K (tC (.int i)) σ H (.int i) := fun H1 _ _ q => q _ H1 (.refl _) .int
theorem ed_bl {b : Bool} : EvD K (tC (.bl b)) σ H (.bl b) := fun H1 _ _ q => q _ H1 (.refl _) .bl
theorem ed_c {v : V} (r : Rep K H d v) : EvD K (tC v) σ H d := fun H1 s _ q => q _ H1 (.refl _) (r.same s)
/-- a two-place operation on data -/
def RD (K : PySem.W.Frag) (r : R2) (d1 d2 d : D) : Prop := ∀ H x y, Rep K H d1 x → Rep K H d2 y → ∀ Q : VK, (∀ v H2, Same H H2 → Rep K H2 d v → Q v H2) → r x y H Q
theorem ed_op (ha : EvD K ta σ H d1) (hb : EvD K tb σ H d2) (hr : RD K r d1 d2 d) : EvD K (tOp r ta tb) σ H d := fun H1 s Q q =>
  ha H1 s _ fun x H2 s2 rx => hb H2 (s.trans s2) _ fun y H3 s3 ry => hr H3 x y (rx.same s3) ry Q fun v H4 s4 rv => q v H4 ((s2.trans s3).trans s4) rv
theorem rd_I0 {g : Int → Int → Int} {i j : Int} : RD K (rI0 fun i j => .int (g i j)) (.int i) (.int j) (.int (g i j)) := fun H x y rx ry Q q => by
  cases rx; cases ry; exact ⟨_, _, rfl, rfl, q _ _ (.refl _) .int⟩
theorem rd_B0 {g : Int → Int → Bool} {i j : Int} : RD K (rI0 fun i j => .bl (g i j)) (.int i) (.int j) (.bl (g i j)) := fun H x y rx ry Q q => by
  cases rx; cases ry; exact ⟨_, _, rfl, rfl, q _ _ (.refl _) .bl⟩
theorem rd_I {C : Int → Int → Prop} {g : Int → Int → Int} {i j : Int} (c : C i j) : RD K (rI C fun i j => .int (g i j)) (.int i) (.int j) (.int (g i j)) := fun H x y rx ry Q q => by
  cases rx; cases ry; exact ⟨_, _, rfl, rfl, c, q _ _ (.refl _) .int⟩
theorem rd_eq {i j : Int} : RD K rEq (.int i) (.int j) (.bl (decide (i = j))) := fun H x y rx ry Q q => by
  cases rx; cases ry
  refine ⟨rfl, ?_⟩
  have e : decide (V.int i = V.int j) = decide (i = j) := by
    rw [dec_int]; by_cases h : i = j <;> simp [h]
  rw [e]
  exact q _ _ (.refl _) .bl
theorem rd_ixT {l : List D} {i : Int} {n : Nat} (hi : i = (n : Int)) (h : l[n]? = some d) : RD K (rIxT K) (.tup l) (.int i) d := fun H x y rx ry Q q => by
  cases ry
  cases rx with
  | tup s r =>
    obtain ⟨v, hv, rv⟩ := r.get h
    exact ⟨_, _, _, v, rfl, rfl, s, by rw [hi]; exact atI_nat hv, q _ _ (.refl _) rv⟩
theorem rd_ixL {l : List D} {i : Int} {n : Nat} (hi : i = (n : Int)) (h : l[n]? = some d) : RD K (rIxL K) (.lst l) (.int i) d := fun H x y rx ry Q q => by
  cases ry
  cases rx with
  | lst s r =>
    obtain ⟨v, hv, rv⟩ := r.get h
    exact ⟨_, _, _, v, rfl, rfl, s, by rw [hi]; exact atI_nat hv, q _ _ (.refl _) rv⟩
theorem Reps.nil_iff {l : List D} {vs : List V} (r : Reps K H l vs) : vs = [] ↔ l = [] := by
  cases r with
  | nil => simp
  | cons _ _ => simp
theorem rd_catA {a b : List D} (hz : a.length + b.length ≤ 1000) : RD K (rCatA K) (.tup a) (.tup b) (.tup (a ++ b)) := fun H x y rx ry Q q => by
  cases rx with
  | tup s1 r1 =>
  cases ry with
  | tup s2 r2 =>
    refine ⟨_, _, _, _, rfl, rfl, s1, s2, ?_, fun e => ?_, fun _ e => ?_, fun _ _ p hp => ?_⟩
    · rw [r1.length, r2.length]; exact Nat.le_trans hz (by decide)
    · have := r1.nil_iff.mp e; subst this
      exact q _ _ (.refl _) (.tup s2 r2)
    · have := r2.nil_iff.mp e; subst this
      rw [List.append_nil] at q
      exact q _ _ (.refl _) (.tup s1 r1)
    · exact q _ _ (same_new hp) (.tup (st_of upd_same) ((r1.append r2).same (same_new hp)))
/-- slices -/
def RS (K : PySem.W.Frag) (r : V → Option Int → Option Int → Hp → VK → Prop) (d1 : D) (lo hi : Option Int) (d : D) : Prop := ∀ H x, Rep K H d1 x → ∀ Q : VK, (∀ v H2, Same H H2 → Rep K H2 d v → Q v H2) → r x lo hi H Q
theorem eo_none : EvO tNoPart σ H none := fun H1 _ _ q => q H1 (.refl _)
theorem eo_some {i : Int} (h : EvD K te σ H (.int i)) : EvO (tPart te) σ H (some i) := fun H1 e _ q => h H1 e _ fun v H2 e2 rv => by
  cases rv; exact ⟨i, rfl, q H2 e2⟩
theorem ed_sl {tl th : TO} {lo hi : Option Int} {r : V → Option Int → Option Int → Hp → VK → Prop} (h : EvD K te σ H d1) (h1 : EvO tl σ H lo) (h2 : EvO th σ H hi) (hr : RS K r d1 lo hi d) : EvD K (tSl r te tl th) σ H d := fun H1 e Q q =>
  h H1 e _ fun x H2 e2 rx => h1 H2 (e.trans e2) _ fun H3 e3 => h2 H3 ((e.trans e2).trans e3) _ fun H4 e4 =>
    hr H4 x (rx.same (e3.trans e4)) Q fun v H5 e5 rv => q v H5 ((e2.trans e3).trans (e4.trans e5)) rv
theorem cutV_len {l : List D} {vs : List V} (r : Reps K H l vs) (lo hi : Option Int) : Reps K H ((l.drop (HT.sIx l.length 0 lo)).take (HT.sIx l.length l.length hi - HT.sIx l.length 0 lo)) (cutV vs lo hi) := by
  unfold cutV
  rw [r.length]
  exact (r.drop _).take _
theorem rs_tup {l m : List D} {lo hi : Option Int} (e : (l.drop (HT.sIx l.length 0 lo)).take (HT.sIx l.length l.length hi - HT.sIx l.length 0 lo) = m) : RS K (rSlA K) (.tup l) lo hi (.tup m) := fun H x rx Q q => by
  cases rx with
  | tup s r =>
    have c := cutV_len r lo hi
    refine ⟨_, _, rfl, s, fun w => ?_, fun _ p hp => ?_⟩
    · rw [r.length] at w
      rw [w.1, w.2, List.drop_zero, Nat.sub_zero, List.take_length] at e
      subst e
      exact q _ _ (.refl _) (.tup s r)
    · subst e
      exact q _ _ (same_new hp) (.tup (st_of upd_same) (c.same (same_new hp)))
theorem rs_lst {l m : List D} {lo hi : Option Int} (e : (l.drop (HT.sIx l.length 0 lo)).take (HT.sIx l.length l.length hi - HT.sIx l.length 0 lo) = m) : RS K (rSlL K) (.lst l) lo hi (.lst m) := fun H x rx Q q => by
  cases rx with
  | lst s r =>
    have c := cutV_len r lo hi
    refine ⟨_, _, rfl, s, fun p hp => ?_⟩
    subst e
    exact q _ _ (same_new hp) (.lst (sq_of upd_same) (c.same (same_new hp)))
/-! arguments, calls -/
theorem ea_nil : EvA K tNil σ H [] := fun H1 _ _ q => q [] H1 (.refl _) .nil
theorem ea_cons {tr : TA} {ds : List D} (h : EvD K te σ H d) (hr : EvA K tr σ H ds) : EvA K (tCons te tr) σ H (d :: ds) := fun H1 e _ q =>
  h H1 e _ fun x H2 e2 rx => hr H2 (e.trans e2) _ fun vs H3 e3 rs => q (x :: vs) H3 (e2.trans e3) (.cons (rx.same e3) rs)
/-- the promise of a def that reads data and hands data back -/
def spD (K : PySem.W.Frag) (R : List D → D → Prop) : Sp := fun vs H Q _ => ∃ ds d, Reps K H ds vs ∧ R ds d ∧ ∀ v H', Same H H' → Rep K H' d v → Q v H'
/-- .. a new list back -/
def spN (K : PySem.W.Frag) (R : List D → List D → Prop) : Sp := fun vs H Q _ => ∃ ds l, Reps K H ds vs ∧ R ds l ∧ ∀ p ws H', H p = none → Same H H' → H' p = some (.lst ws) → Reps K H' l ws → Q (.ref p) H'
theorem ed_call {R : List D → D → Prop} {E : XK} {ta : TA} {ds : List D} (h : EvA K ta σ H ds) (hR : R ds d) : EvD K (tCall (spD K R) [] E ta) σ H d := fun H1 e Q q =>
  h H1 e _ fun vs H2 e2 rs => ⟨ds, d, by rw [List.append_nil]; exact rs, hR, fun v H3 e3 rv => q v H3 (e2.trans e3) rv⟩
theorem fresh_back {p : Addr} (e : Same H H') (h : H' p = none) : H p = none := e.free h
theorem en_call {R : List D → List D → Prop} {E : XK} {ta : TA} {ds l : List D} (h : EvA K ta σ H ds) (hR : R ds l) : EvN K (tCall (spN K R) [] E ta) σ H l := fun H1 e Q q =>
  h H1 e _ fun vs H2 e2 rs => ⟨ds, l, by rw [List.append_nil]; exact rs, hR, fun p ws H3 hp e3 h3 rv => q p ws H3 (fresh_back e2 hp) (e2.trans e3) h3 rv⟩
/-- a built-in on data -/
def RC (K : PySem.W.Frag) (r : List V → Hp → VK → Prop) (ds : List D) (d : D) : Prop := ∀ H vs, Reps K H ds vs → ∀ Q : VK, (∀ v H2, Same H H2 → Rep K H2 d v → Q v H2) → r vs H Q
def RCN (K : PySem.W.Frag) (r : List V → Hp → VK → Prop) (ds l : List D) : Prop := ∀ H vs, Reps K H ds vs → ∀ Q : VK, (∀ p ws H2, H p = none → Same H H2 → H2 p = some (.lst ws) → Reps K H2 l ws → Q (.ref p) H2) → r vs H Q
theorem ed_cb {r : List V → Hp → VK → Prop} {ta : TA} {ds : List D} (h : EvA K ta σ H ds) (hr : RC K r ds d) : EvD K (tCB r ta) σ H d := fun H1 e Q q =>
  h H1 e _ fun vs H2 e2 rs => hr H2 vs rs Q fun v H3 e3 rv => q v H3 (e2.trans e3) rv
theorem en_cb {r : List V → Hp → VK → Prop} {ta : TA} {ds l : List D} (h : EvA K ta σ H ds) (hr : RCN K r ds l) : EvN K (tCB r ta) σ H l := fun H1 e Q q =>
  h H1 e _ fun vs H2 e2 rs => hr H2 vs rs Q fun p ws H3 hp e3 h3 rv => q p ws H3 (fresh_back e2 hp) (e2.trans e3) h3 rv
theorem reps1 {vs : List V} (r : Reps K H [d] vs) : ∃ v, vs = [v] ∧ Rep K H d v := by
  cases r with
  | cons h r => cases r; exact ⟨_, rfl, h⟩
theorem reps2 {vs : List V} (r : Reps K H [d, d1] vs) : ∃ v w, vs = [v, w] ∧ Rep K H d v ∧ Rep K H d1 w := by
  cases r with
  | cons h r => cases r with | cons h2 r => cases r; exact ⟨_, _, rfl, h, h2⟩
theorem reps3 {vs : List V} (r : Reps K H [d, d1, d2] vs) : ∃ v w z, vs = [v, w, z] ∧ Rep K H d v ∧ Rep K H d1 w ∧ Rep K H d2 z := by
  cases r with
  | cons h r => cases r with | cons h2 r => cases r with | cons h3 r => cases r; exact ⟨_, _, _, rfl, h, h2, h3⟩
theorem reps4 {d3 : D} {vs : List V} (r : Reps K H [d, d1, d2, d3] vs) : ∃ v w z y, vs = [v, w, z, y] ∧ Rep K H d v ∧ Rep K H d1 w ∧ Rep K H d2 z ∧ Rep K H d3 y := by
  cases r with
  | cons h r => cases r with | cons h2 r => cases r with | cons h3 r => cases r with | cons h4 r => cases r; exact ⟨_, _, _, _, rfl, h, h2, h3, h4⟩
def rLenS (K : PySem.W.Frag) : List V → Hp → VK → Prop := fun xs H Q => ∃ p ys, xs = [.ref p] ∧ (SqL K H p ys ∨ SqT K H p ys) ∧ Q (.int ys.length) H
theorem rc_lenL {l : List D} : RC K (rLenS K) [.lst l] (.int (l.length : Int)) := fun H vs r Q q => by
  obtain ⟨v, rfl, h⟩ := reps1 r
  cases h with
  | lst s r' => exact ⟨_, _, rfl, .inl s, by rw [r'.length]; exact q _ _ (.refl _) .int⟩
theorem rc_lenT {l : List D} : RC K (rLenS K) [.tup l] (.int (l.length : Int)) := fun H vs r Q q => by
  obtain ⟨v, rfl, h⟩ := reps1 r
  cases h with
  | tup s r' => exact ⟨_, _, rfl, .inr s, by rw [r'.length]; exact q _ _ (.refl _) .int⟩
theorem rc_all {bs : List Bool} : RC K (rAll K) [.lst (bs.map D.bl)] (.bl (bs.all id)) := fun H vs r Q q => by
  obtain ⟨v, rfl, h⟩ := reps1 r
  cases h with
  | lst s r' => exact ⟨_, bs, rfl, by rw [← r'.bls_eq]; exact s, q _ _ (.refl _) .bl⟩
theorem rc_sum {ns : List Int} : RC K (rSum K) [.lst (ns.map D.int)] (.int ns.sum) := fun H vs r Q q => by
  obtain ⟨v, rfl, h⟩ := reps1 r
  cases h with
  | lst s r' => exact ⟨_, ns, rfl, by rw [← r'.ints_eq]; exact s, q _ _ (.refl _) .int⟩
def rListS (K : PySem.W.Frag) : List V → Hp → VK → Prop := fun xs H Q => ∃ p ys, xs = [.ref p] ∧ (SqL K H p ys ∨ SqT K H p ys) ∧ ∀ l, H l = none → Q (.ref l) (upd H l (.lst ys))
theorem rcn_listT {l : List D} : RCN K (rListS K) [.tup l] l := fun H vs r Q q => by
  obtain ⟨v, rfl, h⟩ := reps1 r
  cases h with
  | tup s r' => exact ⟨_, _, rfl, .inr s, fun p hp => q _ _ _ hp (same_new hp) upd_same (r'.same (same_new hp))⟩
def rTupS (K : PySem.W.Frag) : List V → Hp → VK → Prop := fun xs H Q => ∃ p ys, xs = [.ref p] ∧ ((SqL K H p ys ∧ ∀ l, H l = none → Q (.ref l) (upd H l (.tup ys))) ∨ (SqT K H p ys ∧ Q (.ref p) H))
theorem rc_tupleL {l : List D} : RC K (rTupS K) [.lst l] (.tup l) := fun H vs r Q q => by
  obtain ⟨v, rfl, h⟩ := reps1 r
  cases h with
  | lst s r' => exact ⟨_, _, rfl, .inl ⟨s, fun p hp => q _ _ (same_new hp) (.tup (st_of upd_same) (r'.same (same_new hp)))⟩⟩
/-! displays -/
theorem ed_tup {ta : TA} {ds : List D} (h : EvA K ta σ H ds) (hz : ds.length ≤ 1000) : EvD K (tTup ta) σ H (.tup ds) := fun H1 e Q q =>
  h H1 e _ fun vs H2 e2 rs => ⟨by rw [rs.length]; exact Nat.le_trans hz (by decide), fun p hp => q _ _ (e2.trans (same_new hp)) (.tup (st_of upd_same) (rs.same (same_new hp)))⟩
theorem en_lst {ta : TA} {ds : List D} (h : EvA K ta σ H ds) (hz : ds.length ≤ 1000) : EvN K (tLst ta) σ H ds := fun H1 e Q q =>
  h H1 e _ fun vs H2 e2 rs => ⟨by rw [rs.length]; exact Nat.le_trans hz (by decide), fun p hp => q p vs _ (fresh_back e2 hp) (e2.trans (same_new hp)) upd_same (rs.same (same_new hp))⟩
/-- two new lists -/
theorem en_cat {a b : List D} (ha : EvN K ta σ H a) (hb : EvN K tb σ H b) (hz : a.length + b.length ≤ 100000) : EvN K (tOp rCat ta tb) σ H (a ++ b) := fun H1 s Q q =>
  ha H1 s _ fun p vs H2 hp s2 h2 r2 => hb H2 (s.trans s2) _ fun p' ws H3 hp' s3 h3 r3 =>
    ⟨p, p', vs, ws, rfl, rfl, s3 _ _ h2, h3, by rw [r2.length, r3.length]; exact Nat.le_trans hz (by decide), fun l hl => q l _ _ (fresh_back (s2.trans s3) hl) ((s2.trans s3).trans (same_new hl)) upd_same (((r2.same s3).append r3).same (same_new hl))⟩
/-! tests -/
theorem et_B {b : Bool} (h : EvD K te σ H (.bl b)) : EvB (tB te) σ H b := fun H1 e _ q => h H1 e _ fun v H2 e2 rv => by
  cases rv; exact ⟨b, rfl, q H2 e2⟩
theorem et_test {b : Bool} (h : EvD K te σ H (.bl b)) : EvB (tTest te) σ H b := fun H1 e _ q => h H1 e _ fun v H2 e2 rv => by
  cases rv; exact ⟨b, rfl, q H2 e2⟩
theorem et_and {a b : Bool} (h1 : EvB t σ H a) (h2 : a = true → EvB u σ H b) : EvB (tAnd t u) σ H (a && b) := fun H1 e Q q => h1 H1 e _ fun H2 e2 => by
  cases a with
  | true => exact h2 rfl H2 (e.trans e2) Q fun H3 e3 => q H3 (e2.trans e3)
  | false => exact q H2 e2
theorem et_or {a b : Bool} (h1 : EvB t σ H a) (h2 : a = false → EvB u σ H b) : EvB (tOr t u) σ H (a || b) := fun H1 e Q q => h1 H1 e _ fun H2 e2 => by
  cases a with
  | true => exact q H2 e2
  | false => exact h2 rfl H2 (e.trans e2) Q fun H3 e3 => q H3 (e2.trans e3)
theorem et_not {a : Bool} (h1 : EvB t σ H a) : EvB (tNot t) σ H (!a) := fun H1 e _ q => h1 H1 e _ fun H2 e2 => q H2 e2
theorem ed_andV {a b : Bool} (h1 : EvD K ta σ H (.bl a)) (h2 : a = true → EvD K tb σ H (.bl b)) : EvD K (tAndV ta tb) σ H (.bl (a && b)) := fun H1 e Q q => h1 H1 e _ fun v H2 e2 rv => by
  cases rv
  refine ⟨a, rfl, ?_⟩
  cases a with
  | true => exact h2 rfl H2 (e.trans e2) Q fun v H3 e3 => q v H3 (e2.trans e3)
  | false => exact q _ H2 e2 .bl
/-! statements -/
variable {Z : Ends} {tu tw : TS} {g : TG}
theorem s_asg {i : Nat} (h : EvD K te σ H d) (k : ∀ v H1, Same H H1 → Rep K H1 d v → Z.nx (σ.set i (some v)) H1) : tAsg te (gName i) Z σ H := h H (.refl _) _ k
theorem s_asgN {i : Nat} {ds : List D} (h : EvN K te σ H ds) (k : ∀ p vs H1, H p = none → Same H H1 → H1 p = some (.lst vs) → Reps K H1 ds vs → Z.nx (σ.set i (some (.ref p))) H1) : tAsg te (gName i) Z σ H := h H (.refl _) _ fun p vs H1 hp s h1 r => k p vs H1 hp s h1 r
theorem s_ret (h : EvD K te σ H d) (k : ∀ v H1, Same H H1 → Rep K H1 d v → Z.rt v H1) : tRet te Z σ H := h H (.refl _) _ k
theorem s_retN {ds : List D} (h : EvN K te σ H ds) (k : ∀ p vs H1, H p = none → Same H H1 → H1 p = some (.lst vs) → Reps K H1 ds vs → Z.rt (.ref p) H1) : tRet te Z σ H := h H (.refl _) _ fun p vs H1 hp s h1 r => k p vs H1 hp s h1 r
theorem s_if {b : Bool} (h : EvB t σ H b) (h1 : b = true → ∀ H1, Same H H1 → tu Z σ H1) (h2 : b = false → ∀ H1, Same H H1 → tw Z σ H1) : tIfS t tu tw Z σ H := h H (.refl _) _ fun H1 e => by
  cases b with
  | true => exact h1 rfl H1 e
  | false => exact h2 rfl H1 e
/-- a, b = a tuple; a list -/
theorem s_unp {n : Nat} {gs : TGs} {l : List D} (h : EvD K te σ H (.tup l)) (hn : l.length = n) (k : ∀ vs H1, Same H H1 → Reps K H1 l vs → gs vs σ H1 Z.nx) : tAsg te (gTup K n gs) Z σ H := h H (.refl _) _ fun v H1 s r => by
  cases r with
  | tup q r => exact ⟨_, _, rfl, q, r.length.trans hn, k _ H1 s r⟩
theorem s_unl {n : Nat} {gs : TGs} {l : List D} (h : EvD K te σ H (.lst l)) (hn : l.length = n) (k : ∀ vs H1, Same H H1 → Reps K H1 l vs → gs vs σ H1 Z.nx) : tAsg te (gUnl K n gs) Z σ H := h H (.refl _) _ fun v H1 s r => by
  cases r with
  | lst q r => exact ⟨_, _, rfl, q, r.length.trans hn, k _ H1 s r⟩
theorem s_par {i j : Nat} {ta : TA} {d e : D} (h : EvA K ta σ H [d, e]) (k : ∀ v w H1, Same H H1 → Rep K H1 d v → Rep K H1 e w → Z.nx ((σ.set i (some v)).set j (some w)) H1) : tPar i j ta Z σ H := h H (.refl _) _ fun vs H1 s r => by
  obtain ⟨v, w, rfl, r1, r2⟩ := reps2 r
  exact ⟨v, w, rfl, k v w H1 s r1 r2⟩
end Fa
/-! The program's data, and what each def is worth. -/
namespace Fa
open PySem PySem.Spec PyProof.Rows L2
open Kp412 (Stream Blender)

def strD (s : Stream) : D := .tup [.int s.amount, .int s.ash]
def floD (l p : Nat) : D := .tup [.int l, .int p]
def natD (n : Nat) : D := .int n
def asgD (l : List Nat) : D := .tup (l.map natD)
def strsD (ss : List Stream) : D := .tup (ss.map strD)
def flosD (ls ps : List Nat) : D := .tup (List.zipWith floD ls ps)
def millD (b : Blender) : D := .tup [strsD b.streams, flosD b.limits b.prices, .int b.feedPrice]
theorem stab_str (s : Stream) : Stab (strD s) := stab_tup fun d h => by
  simp only [List.mem_cons, List.not_mem_nil, or_false] at h
  rcases h with rfl | rfl <;> exact stab_int
theorem stab_flo (l p : Nat) : Stab (floD l p) := stab_tup fun d h => by
  simp only [List.mem_cons, List.not_mem_nil, or_false] at h
  rcases h with rfl | rfl <;> exact stab_int
theorem stab_asg (l : List Nat) : Stab (asgD l) := stab_tup fun d h => by
  obtain ⟨n, _, rfl⟩ := List.mem_map.mp h
  exact stab_int
theorem stab_strs (ss : List Stream) : Stab (strsD ss) := stab_tup fun d h => by
  obtain ⟨n, _, rfl⟩ := List.mem_map.mp h
  exact stab_str n
theorem mem_zipWith {α β γ : Type} {f : α → β → γ} : ∀ {l : List α} {m : List β} {c : γ}, c ∈ List.zipWith f l m → ∃ a b, c = f a b
  | [], _, _, h => by simp at h
  | _ :: _, [], _, h => by simp at h
  | a :: l, b :: m, c, h => by
    rw [List.zipWith_cons_cons, List.mem_cons] at h
    rcases h with h | h
    · exact ⟨a, b, h⟩
    · exact mem_zipWith h
theorem stab_flos (ls ps : List Nat) : Stab (flosD ls ps) := stab_tup fun d h => by
  obtain ⟨a, b, rfl⟩ := mem_zipWith h
  exact stab_flo a b
theorem stab_mill (b : Blender) : Stab (millD b) := stab_tup fun d h => by
  simp only [List.mem_cons, List.not_mem_nil, or_false] at h
  rcases h with rfl | rfl | rfl
  · exact stab_strs _
  · exact stab_flos _ _
  · exact stab_int

/-- numbers that are handed in -/
abbrev big : Nat := 4294967296
/-- what is known of a mill whatever it is -/
structure Sm (b : Blender) : Prop where
  ns : b.streams.length ≤ 6
  am : ∀ s ∈ b.streams, s.amount < big
  nl : b.limits.length = 3
  np : b.prices.length = 3
  li : ∀ x ∈ b.limits, x < big
  pr : ∀ x ∈ b.prices, x < big
  fe : b.feedPrice < big
/-- an assignment for it -/
structure As (b : Blender) (l : List Nat) : Prop where
  len : l.length = b.streams.length
  le : ∀ x ∈ l, x ≤ 3

/-! ### mills -/
inductive R_new_mill : List D → D → Prop
  | mk (f : Nat) : R_new_mill [.int f] (millD ⟨[], [0, 0, 0], [0, 0, 0], f, []⟩)
inductive R_has_stream : List D → D → Prop
  | mk (b : Blender) (i : Nat) : R_has_stream [millD b, .int i] (.bl (Kp412.isStream b i))
inductive R_are_amount_and_ash : List D → D → Prop
  | mk (a s : Nat) : R_are_amount_and_ash [.int a, .int s] (.bl (Kp412.validStream a s))
inductive R_replaced : List D → D → Prop
  | mk (l : List D) (n : Nat) (x : D) (h : n < l.length) (hz : l.length ≤ 100) : R_replaced [.tup l, .int n, x] (.tup (l.set n x))
inductive R_without : List D → D → Prop
  | mk (l : List D) (n : Nat) (h : n < l.length) (hz : l.length ≤ 100) : R_without [.tup l, .int n] (.tup (l.eraseIdx n))
inductive R_with_streams : List D → D → Prop
  | mk (b : Blender) (ss : List Stream) : R_with_streams [millD b, strsD ss] (millD { b with streams := ss })
inductive R_with_flour : List D → D → Prop
  | mk (b : Blender) (k l p : Nat) (hk : k < 3) (h1 : b.limits.length = 3) (h2 : b.prices.length = 3) : R_with_flour [millD b, .int k, .int l, .int p] (millD { b with limits := b.limits.set k l, prices := b.prices.set k p })
inductive R_with_feed_price : List D → D → Prop
  | mk (b : Blender) (p : Nat) : R_with_feed_price [millD b, .int p] (millD { b with feedPrice := p })
/-! ### assignments -/
/-- for each destination a number -/
def four (f : Nat → Nat) : List D := [.int (f 0 : Nat), .int (f 1 : Nat), .int (f 2 : Nat), .int (f 3 : Nat)]
def amt (b : Blender) (l : List Nat) (k : Nat) : Nat := Kp412.amountOf b (Kp412.streamsOf b l k)
def ash (b : Blender) (l : List Nat) (k : Nat) : Nat := Kp412.ashOf b (Kp412.streamsOf b l k)
inductive R_amounts_of : List D → List D → Prop
  | mk (b : Blender) (l : List Nat) (h : As b l) : R_amounts_of [millD b, asgD l] (four (amt b l))
inductive R_ashes_of : List D → List D → Prop
  | mk (b : Blender) (l : List Nat) (h : As b l) (s : Sm b) : R_ashes_of [millD b, asgD l] (four (ash b l))
inductive R_margin_of : List D → D → Prop
  | mk (b : Blender) (l : List Nat) (k : Nat) (hk : k < 3) (h : As b l) (s : Sm b) : R_margin_of [millD b, asgD l, .int k] (.int ((b.limits.getD k 0 : Nat) * (amt b l k : Nat) - (ash b l k : Nat)))
inductive R_is_feasible : List D → D → Prop
  | mk (b : Blender) (l : List Nat) (h : As b l) (s : Sm b) : R_is_feasible [millD b, asgD l] (.bl (Kp412.feasible b l))
inductive R_revenue_of : List D → D → Prop
  | mk (b : Blender) (l : List Nat) (h : As b l) (s : Sm b) : R_revenue_of [millD b, asgD l] (.int (Kp412.revenue b l : Nat))
inductive R_fits : List D → D → Prop
  | mk (b : Blender) (l : List Nat) (hl : l.length ≤ 8) : R_fits [millD b, .lst (l.map natD)] (.bl (Kp412.validAssignment b l))
/-! ### choices -/
inductive R_longer : List D → List D → Prop
  | mk (ls : List (List Nat)) (h : ls.length ≤ 10000) (h2 : ∀ l ∈ ls, l.length ≤ 10) : R_longer [.lst (ls.map asgD)] ((ls.flatMap fun l => (List.range 4).map fun x => l ++ [x]).map asgD)
inductive R_all_assignments : List D → List D → Prop
  | mk (n : Nat) (h : n ≤ 6) : R_all_assignments [.int n] ((Kp412.allAssignments n).map asgD)
inductive R_feasible_ones : List D → List D → Prop
  | mk (b : Blender) (s : Sm b) : R_feasible_ones [millD b] ((Kp412.feasibleAssignments b).map asgD)
def pairD (p : Nat × List Nat) : D := .tup [.int p.1, asgD p.2]
/-- the first one with the greatest number -/
def firstGreatest (p : Nat × List Nat) (r : List (Nat × List Nat)) : Nat × List Nat := r.foldl (fun f x => if f.1 < x.1 then x else f) p
inductive R_first_greatest : List D → D → Prop
  | mk (p : Nat × List Nat) (r : List (Nat × List Nat)) : R_first_greatest [.lst ((p :: r).map pairD)] (pairD (firstGreatest p r))
inductive R_best_of : List D → D → Prop
  | mk (b : Blender) (s : Sm b) (l : List Nat) (h : Kp412.bestAssignment b = some l) : R_best_of [millD b] (pairD (Kp412.revenue b l, l))
inductive R_most_first_flour : List D → D → Prop
  | mk (b : Blender) (s : Sm b) (l : List Nat) (h : Kp412.maxFirstFlour b = some l) : R_most_first_flour [millD b] (pairD (Kp412.firstFlourAmount b l, l))
/-! ### fractions -/
inductive R_greatest_divisor : List D → D → Prop
  | mk (m n : Nat) : R_greatest_divisor [.int m, .int n] (.int (Nat.gcd m n : Nat))
inductive R_lowest_terms : List D → List D → Prop
  | mk (m n : Nat) (hn : 0 < n) (hz : n < 1000000) : R_lowest_terms [.int m, .int n] [.int (m / Nat.gcd m n : Nat), .int (n / Nat.gcd m n : Nat)]
/-- a stream's ash, its number, its amount -/
def triD (b : Blender) (i : Nat) : D := .tup [.int (Kp412.streamAt b i).ash, .int i, .int (Kp412.streamAt b i).amount]
inductive R_by_ash : List D → List D → Prop
  | mk (b : Blender) (s : Sm b) (ha : ∀ s ∈ b.streams, s.ash < 1000 ∧ s.amount < 1000) : R_by_ash [strsD b.streams] ((Kp412.byAsh b).map (triD b))
inductive R_split_total : List D → List D → Prop
  | mk (b : Blender) (s : Sm b) (ha : ∀ s ∈ b.streams, 1 ≤ s.amount ∧ s.amount < 100 ∧ s.ash < 1000) (hl : ∀ x ∈ b.limits, x < 1000) : R_split_total [strsD b.streams, .int (b.limits.getD 0 0 : Nat)] [.int (Kp412.maxFirstFlourSplit b).num, .int (Kp412.maxFirstFlourSplit b).den]

/-! ### the blender -/
/-- what holds of a blender behind each call -/
structure WF (b : Blender) : Prop where
  sm : Sm b
  st : ∀ s ∈ b.streams, 1 ≤ s.amount ∧ s.amount < 100 ∧ s.ash < 1000
  li : ∀ x ∈ b.limits, x < 1000
  as : As b b.assignment
  fea : Kp412.feasible b b.assignment = true
def bleF (vm va : V) : List (Str × V) := [("mill", vm), ("assignment", va)]
def BleAt (K : PySem.W.Frag) (C : Addr) (H : Hp) (a : Addr) (b : Blender) : Prop := ∃ dx vm va, H a = some (.ins C dx (bleF vm va)) ∧ Rep K H (millD b) vm ∧ Rep K H (asgD b.assignment) va
/-- all but the object at a is as it was -/
def But (a : Addr) (H H' : Hp) : Prop := ∀ c o, H c = some o → c ≠ a → H' c = some o
def spIniB (K : PySem.W.Frag) (C : Addr) : Sp := fun vs H Q _ => ∃ (p dx : Addr) (f : Nat), vs = [.ref p, .int f] ∧ H p = some (.ins C dx []) ∧
  ∀ H', BleAt K C H' p ⟨[], [0, 0, 0], [0, 0, 0], f, []⟩ → But p H H' → Q .non H'
def spChanged (K : PySem.W.Frag) (C : Addr) : Sp := fun vs H Q _ => ∃ (a dx : Addr) (m s vm va : V) (b : Blender) (l : List Nat), vs = [.ref a, m, s] ∧ H a = some (.ins C dx (bleF vm va)) ∧ Rep K H (millD b) m ∧ Rep K H (asgD l) s ∧ As b l ∧ Sm b ∧
  (Kp412.feasible b l = true → ∀ H', BleAt K C H' a { b with assignment := l } → But a H H' → Q (.bl true) H') ∧
  (Kp412.feasible b l = false → ∀ H', Same H H' → Q (.bl false) H')
/-- a call of the specification -/
def StepIs (b : Blender) (c : Kp412.Call) (b' : Blender) (out : List Int) : Prop := (Kp412.step (some b) c).1 = some b' ∧ out = (Kp412.step (some b) c).2.num :: (Kp412.step (some b) c).2.nums
def spOp (K : PySem.W.Frag) (C : Addr) (R : Blender → List Int → Blender → List Int → Prop) : Sp := fun vs H Q _ => ∃ (a : Addr) (x : V) (b b' : Blender) (ns out : List Int), vs = [.ref a, x] ∧ BleAt K C H a b ∧ Rep K H (.lst (ns.map D.int)) x ∧ R b ns b' out ∧
  ∀ p H', H p = none → But a H H' → BleAt K C H' a b' → H' p = some (.lst (out.map V.int)) → Q (.ref p) H'
inductive R_add_stream : Blender → List Int → Blender → List Int → Prop
  | mk {b b' : Blender} {out : List Int} (m s : Nat) (w : WF b) (hm : m < big) (hs : s < big) (h : StepIs b (.addStream m s) b' out) : R_add_stream b [(m : Int), (s : Int)] b' out
inductive R_remove_stream : Blender → List Int → Blender → List Int → Prop
  | mk {b b' : Blender} {out : List Int} (i : Nat) (w : WF b) (h : StepIs b (.removeStream i) b' out) : R_remove_stream b [(i : Int)] b' out
inductive R_set_stream : Blender → List Int → Blender → List Int → Prop
  | mk {b b' : Blender} {out : List Int} (i m s : Nat) (w : WF b) (hm : m < big) (hs : s < big) (h : StepIs b (.setStream i m s) b' out) : R_set_stream b [(i : Int), (m : Int), (s : Int)] b' out
inductive R_set_flour : Blender → List Int → Blender → List Int → Prop
  | mk {b b' : Blender} {out : List Int} (k l p : Nat) (w : WF b) (h : StepIs b (.setFlour k l p) b' out) : R_set_flour b [(k : Int), (l : Int), (p : Int)] b' out
inductive R_set_feed_price : Blender → List Int → Blender → List Int → Prop
  | mk {b b' : Blender} {out : List Int} (p : Nat) (w : WF b) (h : StepIs b (.setFeedPrice p) b' out) : R_set_feed_price b [(p : Int)] b' out
inductive R_get_stream : Blender → List Int → Blender → List Int → Prop
  | mk {b b' : Blender} {out : List Int} (i : Nat) (w : WF b) (h : StepIs b (.getStream i) b' out) : R_get_stream b [(i : Int)] b' out
inductive R_set_assignment : Blender → List Int → Blender → List Int → Prop
  | mk {b b' : Blender} {out : List Int} (l : List Nat) (w : WF b) (hl : l.length ≤ 8) (h : StepIs b (.setAssignment l) b' out) : R_set_assignment b (l.map fun (n : Nat) => (n : Int)) b' out
inductive R_get_assignment : Blender → List Int → Blender → List Int → Prop
  | mk {b b' : Blender} {out : List Int} (w : WF b) (h : StepIs b .getAssignment b' out) : R_get_assignment b [] b' out
inductive R_move_stream : Blender → List Int → Blender → List Int → Prop
  | mk {b b' : Blender} {out : List Int} (i k : Nat) (w : WF b) (h : StepIs b (.moveStream i k) b' out) : R_move_stream b [(i : Int), (k : Int)] b' out
inductive R_flour_quality : Blender → List Int → Blender → List Int → Prop
  | mk {b b' : Blender} {out : List Int} (k : Nat) (w : WF b) (h : StepIs b (.flourQuality k) b' out) : R_flour_quality b [(k : Int)] b' out
inductive R_ash_margin : Blender → List Int → Blender → List Int → Prop
  | mk {b b' : Blender} {out : List Int} (k : Nat) (w : WF b) (h : StepIs b (.ashMargin k) b' out) : R_ash_margin b [(k : Int)] b' out
inductive R_revenue : Blender → List Int → Blender → List Int → Prop
  | mk {b b' : Blender} {out : List Int} (w : WF b) (h : StepIs b .revenue b' out) : R_revenue b [] b' out
inductive R_best_assignment : Blender → List Int → Blender → List Int → Prop
  | mk {b b' : Blender} {out : List Int} (w : WF b) (h : StepIs b .bestAssignment b' out) : R_best_assignment b [] b' out
inductive R_apply_best_assignment : Blender → List Int → Blender → List Int → Prop
  | mk {b b' : Blender} {out : List Int} (w : WF b) (h : StepIs b .applyBestAssignment b' out) : R_apply_best_assignment b [] b' out
inductive R_feasible_count : Blender → List Int → Blender → List Int → Prop
  | mk {b b' : Blender} {out : List Int} (w : WF b) (h : StepIs b .feasibleCount b' out) : R_feasible_count b [] b' out
inductive R_evaluate_assignment : Blender → List Int → Blender → List Int → Prop
  | mk {b b' : Blender} {out : List Int} (l : List Nat) (w : WF b) (hl : l.length ≤ 8) (h : StepIs b (.evaluateAssignment l) b' out) : R_evaluate_assignment b (l.map fun (n : Nat) => (n : Int)) b' out
inductive R_max_first_flour : Blender → List Int → Blender → List Int → Prop
  | mk {b b' : Blender} {out : List Int} (w : WF b) (h : StepIs b .maxFirstFlour b' out) : R_max_first_flour b [] b' out
inductive R_max_first_flour_split : Blender → List Int → Blender → List Int → Prop
  | mk {b b' : Blender} {out : List Int} (w : WF b) (h : StepIs b .maxFirstFlourSplit b' out) : R_max_first_flour_split b [] b' out
inductive R_best_revenue_for_limit : Blender → List Int → Blender → List Int → Prop
  | mk {b b' : Blender} {out : List Int} (k l : Nat) (w : WF b) (h : StepIs b (.bestRevenueForLimit k l) b' out) : R_best_revenue_for_limit b [(k : Int), (l : Int)] b' out
inductive R_value_of_stream : Blender → List Int → Blender → List Int → Prop
  | mk {b b' : Blender} {out : List Int} (i : Nat) (w : WF b) (h : StepIs b (.valueOfStream i) b' out) : R_value_of_stream b [(i : Int)] b' out
inductive R_best_revenue_for_price : Blender → List Int → Blender → List Int → Prop
  | mk {b b' : Blender} {out : List Int} (k p : Nat) (w : WF b) (h : StepIs b (.bestRevenueForPrice k p) b' out) : R_best_revenue_for_price b [(k : Int), (p : Int)] b' out

theorem spD_len {K : PySem.W.Frag} {R : List D → D → Prop} {n : Nat} (hR : ∀ ds d, R ds d → ds.length = n) {vs : List V} {H : Hp} {Q : VK} {E : XK} (h : spD K R vs H Q E) : vs.length = n := by
  obtain ⟨ds, d, r, q, _⟩ := h
  rw [r.length]; exact hR _ _ q
theorem spN_len {K : PySem.W.Frag} {R : List D → List D → Prop} {n : Nat} (hR : ∀ ds d, R ds d → ds.length = n) {vs : List V} {H : Hp} {Q : VK} {E : XK} (h : spN K R vs H Q E) : vs.length = n := by
  obtain ⟨ds, d, r, q, _⟩ := h
  rw [r.length]; exact hR _ _ q
theorem spOp_len {K : PySem.W.Frag} {C : Addr} {R : Blender → List Int → Blender → List Int → Prop} {vs : List V} {H : Hp} {Q : VK} {E : XK} (h : spOp K C R vs H Q E) : vs.length = 2 := by
  obtain ⟨_, _, _, _, _, _, rfl, _⟩ := h
  rfl
end Fa
/-! Rules that the layer lacks: enumerate of a tuple; xs[i] op= e of a list; an item of a written dict of whole numbers; loops and comprehensions on data. -/
namespace Fa
open PySem PySem.Spec PyProof.Rows L2

/-! ### xs[i] += e -/
/-- xs[j], 0 ≤ j -/
def rGetL (K : PySem.W.Frag) : R2 := fun x y H Q => ∃ (p : Addr) (xs : List V) (j : Nat) (v : V), x = .ref p ∧ y = .int (j : Int) ∧ SqL K H p xs ∧ xs[j]? = some v ∧ Q v H
theorem get_list {X : Cx} : PGet X (rGetL X.K) := by
  intro pins s σ H o i ov iv Q I ro ri h
  obtain ⟨p, xs, j, z, rfl, rfl, hq, he, q⟩ := h
  cases ro
  obtain ⟨t, rfl⟩ := ri
  obtain ⟨its, r, pl, hz⟩ := I.list hq
  obtain ⟨w, ew, rw'⟩ := r.get he
  have hn := line63
  have hj := (List.getElem?_eq_some_iff.mp he).1
  exact wpAny_getItem_list pl.isList (by omega) (by omega) (by simpa using ew) ⟨z, H, I, rw', q⟩

/-! ### COUNTS[k] -/
theorem counts_find : ∀ {l : List DictEntry} {m : List (Int × Int)}, l.map entryView = m.map (fun kv => some (hashInt kv.1, kv.1, kv.2)) →
    (∀ e ∈ l, ∃ k, Value.isInt k e.key = true ∧ e.hash = hashInt k) ∧ ∀ k v, m.lookup k = some v → ∃ t, (l.find? fun e => Value.isInt k e.key).map (·.val) = some (.int v t)
  | [], [], _ => ⟨fun e h => by simp at h, fun k v h => by simp at h⟩
  | [], _ :: _, h => by simp at h
  | _ :: _, [], h => by simp at h
  | e :: l, (k0, v0) :: m, h => by
    rw [List.map_cons, List.map_cons, List.cons.injEq] at h
    obtain ⟨h1, h2⟩ := h
    obtain ⟨a, b⟩ := counts_find h2
    have he : ∃ t u, e.key = .int k0 t ∧ e.val = .int v0 u ∧ e.hash = hashInt k0 := by
      obtain ⟨eh, ek, ev⟩ := e
      unfold entryView at h1
      dsimp only at h1
      split at h1
      · simp only [Option.some.injEq, Prod.mk.injEq] at h1
        obtain ⟨rfl, rfl, rfl⟩ := h1
        exact ⟨_, _, rfl, rfl, rfl⟩
      · cases h1
    obtain ⟨t, u, e1, e2, e3⟩ := he
    refine ⟨fun x hx => ?_, fun k v hv => ?_⟩
    · rcases List.mem_cons.mp hx with rfl | hx
      · exact ⟨k0, by rw [e1]; simp [Value.isInt], e3⟩
      · exact a x hx
    · rw [List.lookup_cons] at hv
      by_cases c : k = k0
      · subst c
        rw [show (k == k) = true from beq_self_eq_true k] at hv
        cases hv
        refine ⟨u, ?_⟩
        rw [List.find?_cons_of_pos (by rw [e1]; simp [Value.isInt])]
        rw [Option.map_some, e2]
      · rw [show (k == k0) = false from beq_eq_false_iff_ne.mpr c] at hv
        obtain ⟨t', h'⟩ := b k v hv
        refine ⟨t', ?_⟩
        rw [List.find?_cons_of_neg (by rw [e1]; simp [Value.isInt, Ne.symm c])]
        exact h'
def rCnt (D : Addr) : R2 := fun x y H Q => ∃ (k v : Int), x = .ref D ∧ y = .int k ∧ countsL.lookup k = some v ∧ Q (.int v) H
structure CntAt (K : PySem.W.Frag) (D : Addr) : Prop where
  ex : ∃ (es : Array DictEntry) (n : Nat), K.lookup D = some ⟨.type "dict", none, .dict es n, #[]⟩ ∧ es.toList.map entryView = countsL.map fun kv => some (hashInt kv.1, kv.1, kv.2)
theorem ix_counts {X : Cx} {D : Addr} (h : CntAt X.K D) : IxR X (rCnt D) := by
  intro value slice pins s σ H x y v u Q I rx ry hh hs
  obtain ⟨k, z, rfl, rfl, hl, q⟩ := hh
  obtain ⟨es, n, hk, hv⟩ := h.ex
  obtain rfl : v = Value.ref D := rx
  obtain ⟨t, rfl⟩ := (show ∃ t, u = Value.int k t from ry)
  obtain ⟨h1, h2⟩ := counts_find hv
  obtain ⟨t', h3⟩ := h2 k z hl
  have hm : s.heap.MapOf (intKind X.prog X.w) D (findBy (intKind X.prog X.w).is es) := ⟨_, es, n, I.kIn _ _ hk, ⟨rfl, rfl, rfl⟩, rfl, fun e he => h1 e (Array.mem_toList_iff.mpr he), fun _ => rfl⟩
  refine tail_any hm.typeIs slot_dict_getitem.lookup (wpAny_getItem_of (k := k) (by show Value.isInt k (.int k t) = true; simp [Value.isInt]) hm (v := .int z t') ?_ ⟨.int z, H, I.tok _, ⟨_, rfl⟩, q⟩) hs
  unfold findBy
  rw [← Array.find?_toList]
  exact h3

/-! ### enumerate(a tuple) -/
theorem meets_enumerate_newT (l : Addr) (items : Array Value) (n : Nat) (dct : Option Addr) (sl : Array (Option Value)) :
    Meets (Builtin.«enumerate.__new__» ⟨[.type "enumerate", .ref l], []⟩) (fun _ R s => s.heap.get? l = some { cls := .type "tuple", dict := dct, data := .seq items n, slots := sl } ∧
      R (.ok (.ret (.ref (s.heap.push { cls := .type "tuple_iterator", data := .fields #[.ref l, .int 0 0] }).objs.size)))
        { s with heap := (s.heap.push { cls := .type "tuple_iterator", data := .fields #[.ref l, .int 0 0] }).push { cls := .type "enumerate", data := .fields #[.none, .bool false, .ref s.heap.objs.size, rawInt 0, .none, .none] } }) :=
  .of_wp fun prog w A R s h => by
    obtain ⟨hp, g, d, tk, os⟩ := s; obtain ⟨hl, h⟩ := h
    have hsub := sub_enumerate
    have hL : Heap.IsTuple (Shared.heap ⟨hp, g, d, tk, os⟩) l items := ⟨_, hl, rfl, n, rfl⟩
    wp_walk using AutoSeq1.wpAny_loadPart' hl
    refine wpAny_stack_any fun st => wpAny_pure ?_
    split
    · rename_i c _ _ _ _ _
      cases (c == Value.type "enumerate")
      · wp_walk using AutoSeq1.wpAny_loadPart' hl, wpAny_pyIter_tuple hL
        exact ⟨_, rfl, h⟩
      · wp_walk using AutoSeq1.wpAny_loadPart' hl, wpAny_pyIter_tuple hL
        exact ⟨_, rfl, h⟩
    · wp_walk using AutoSeq1.wpAny_loadPart' hl, wpAny_pyIter_tuple hL
      exact ⟨_, rfl, h⟩
section
variable {prog : Program} {w : World} {A : Around} {E : Value → Shared → Prop} {s : Shared}
theorem call_enumerate_tuple {l : Addr} {items : Array Value} {Q : Value → Shared → Prop} (hL : s.heap.IsTuple l items)
    (h : ∀ h', IsEnum h' (s.heap.objs.size + 1) s.heap.objs.size 0 .none → h'.IsTupleIter s.heap.objs.size l 0 → h'.objs.size = s.heap.objs.size + 2 →
      (∀ b o, s.heap.get? b = some o → h'.get? b = some o) → Q (.ref (s.heap.objs.size + 1)) { s with heap := h' }) :
    wpAny (model prog w) A (call (.type "enumerate") [.ref l]) Q E s := by
  obtain ⟨⟨c, dct, dt, sl⟩, hl, hc, n, hd⟩ := hL
  replace hc : c = .type "tuple" := hc
  replace hd : dt = .seq items n := hd
  subst hc hd
  refine callType_new F.called_enumerate (by decide) (F.typeCall_enumerate_1 _) (F.newCall_enumerate_1 _) (fun obj => F.args_object_init_2 obj _) F.entry_enumerate_new
    (meets_enumerate_newT l items n dct sl) ⟨hl, ?_⟩
  have hz : (s.heap.push { cls := .type "tuple_iterator", data := .fields #[.ref l, .int 0 0] }).objs.size = s.heap.objs.size + 1 := Heap.size_push ..
  show _ ∧ _
  rw [hz]
  have he : IsEnum ((s.heap.push { cls := .type "tuple_iterator", data := .fields #[.ref l, .int 0 0] }).push
      { cls := .type "enumerate", data := .fields #[.none, .bool false, .ref s.heap.objs.size, rawInt 0, .none, .none] }) (s.heap.objs.size + 1) s.heap.objs.size 0 .none := by
    have := Heap.get?_push_size (s.heap.push { cls := .type "tuple_iterator", data := .fields #[.ref l, .int 0 0] })
      (o := { cls := .type "enumerate", data := .fields #[.none, .bool false, .ref s.heap.objs.size, rawInt 0, .none, .none] }) rfl
    rw [hz] at this; exact this
  refine ⟨⟨_, he, rfl⟩, h _ he ⟨_, Heap.get?_push_of_some _ (Heap.get?_push_size _ rfl), rfl, rfl⟩ (by rw [Heap.size_push, hz]) fun b o x => Heap.get?_push_of_some _ (Heap.get?_push_of_some _ x)⟩
end
/-- the tuple at a as it stands, its items with their numbers in new pairs -/
def IteT (K : PySem.W.Frag) (a : Addr) : It :=
  ⟨fun i H => ∃ (xs : List V) (x : V), SqT K H a xs ∧ xs[i]? = some x, fun i H v H' => ∃ T x, v = .ref T ∧ H T = none ∧ H' = upd H T (.tup [.int (i : Nat), x]) ∧ ∀ xs, SqT K H a xs → xs[i]? = some x, fun i H => ∃ xs : List V, SqT K H a xs ∧ xs.length ≤ i⟩
theorem pyNext_enum_endT {prog : Program} {w : World} {A : Around} {E : Value → Shared → Prop} {s : Shared} {e it t : Addr} {i : Int} {j : Nat} {old : Value} {items : Array Value} {Q : Option Value → Shared → Prop} (hh : A.handled = none)
    (he : IsEnum s.heap e it i old) (hit : s.heap.IsTupleIter it t j) (ht : s.heap.IsTuple t items) (hx : items[j]? = none)
    (hQ : ∀ h', Heap.ExtBut it s.heap h' → Q none { s with heap := h' }) : wpAny (model prog w) A (pyNext (.ref e)) Q E s := by
  have hT : s.TypeIs (.ref e) "enumerate" := ⟨_, he, rfl⟩
  unfold pyNext
  refine wpAny_bind (wpAny_attempt (wpAny_callSpecial?_slot (name := Str.ofString "__next__") hT F.slot_enumerate_next
    (wpAny_call_entry F.slot_enumerate_next hT F.entry_enumerate_next ?_ (F.args_enumerate_next_1 _))))
  show wpAny _ _ (field (.ref e) 2 >>= _) _ _ _
  refine wpAny_bind (wpAny_field he rfl (x := .ref it) rfl ?_)
  refine wpAny_bind (wpAny_nextOf_tuple_end hh hit ht hx fun h' x he' hx' => ?_)
  obtain ⟨o, ho, hc⟩ := hx'
  refine wpAny_bind (wpAny_isInstance (T := "StopIteration") (b := true) ⟨o, ho, hc⟩ isSubtype_stop ?_)
  exact wpAny_pure (hQ _ he')
theorem turn_enumT {P : Program} {w : World} {K : PySem.W.Frag} {elts : List Expr} {kk : Nat} {tpos : Pos} (a e it : Addr) :
    Turn P w K (.Tuple elts kk tpos) (IteT K a) [e, it] e (fun i h => (∃ old, IsEnum h e it ((i : Nat) : Int) old) ∧ h.IsTupleIter it a i ∧ e ≠ it) where
  mem := by simp
  obj := fun i h st b hb => by
    obtain ⟨⟨old, he⟩, ⟨o, ho, hc, hd⟩, _⟩ := st
    have e' : b = e ∨ b = it := by simpa using hb
    rcases e' with z | z
    · rw [z]; exact ⟨_, he, fun v q => nomatch q⟩
    · rw [z]; exact ⟨o, ho, fun v q => by rw [hd] at q; cases q⟩
  keep := fun i h h' st k => let ⟨⟨old, he⟩, hi, hne⟩ := st; ⟨⟨old, k e (by simp) _ he⟩, hi.at fun o q => k it (by simp) o q, hne⟩
  item := by
    intro X hP hw hK hc i pins s σ H E I hf st hg
    subst hP hw hK
    obtain ⟨⟨old, he⟩, hit, hne⟩ := st
    obtain ⟨xs, x, hq, hx⟩ := hg
    obtain ⟨its, rv, p, hz⟩ := I.tuple hq
    obtain ⟨u, hu, ru⟩ := rv.get hx
    have hel : e < s.heap.objs.size := Heap.lt_size he
    have hil : it < s.heap.objs.size := by obtain ⟨_, q, _⟩ := hit; exact Heap.lt_size q
    have pt : s.heap.IsTuple a its.toArray := by obtain ⟨o, h1, h2, h3⟩ := p; exact ⟨o, h1, h2, h3⟩
    have hai : a ≠ it := by
      rintro rfl
      obtain ⟨o, h1, h2, _⟩ := pt
      obtain ⟨o', h1', h2', _⟩ := hit
      rw [h1] at h1'; cases h1'
      exact absurd (Value.type.inj (h2.symm.trans h2')) (by decide)
    have hae : e ≠ a := by
      rintro rfl
      obtain ⟨o, h1, h2, _⟩ := pt
      unfold IsEnum at he
      rw [h1] at he; cases he
      exact absurd (Value.type.inj h2) (by decide)
    have hlt : i < its.toArray.size := by
      have := (List.getElem?_eq_some_iff.mp hu).1
      simpa using this
    refine wpAny_pyNext_enum_itemD (fp := [it, a]) (i := i) (n := its.toArray.size) (Draws.tuple (A := X.A.in1) (I.ok.hd hc) it a hai its.toArray) he ⟨hit, pt⟩ hlt hne (by simp [hne, hae]) fun x' h' tk hx' ho hst hT hsz hk => ?_
    obtain rfl : x' = u := by
      have : its.toArray[i]? = some u := by simpa using hu
      rw [this] at hx'
      exact (Option.some.inj hx').symm
    refine ⟨_, rfl, wpAny_letOwnedTupleGo_enum (s := { s with heap := h', toks := tk + 1 }) ho fun h'' he' sb => ?_⟩
    have hT2 : h''.get? s.heap.objs.size = some { cls := .type "tuple", data := .seq #[.int i tk, x'] } := (sb.2 _ (Nat.ne_of_gt hel)).trans hT
    have new : ObjOk X.prog X.w (upd H s.heap.objs.size (.tup [.int (i : Nat), x])) h'' s.heap.objs.size (.tup [.int (i : Nat), x]) :=
      ⟨by show 2 ≤ sizeLine; decide, [.int i tk, x'], .cons ⟨_, rfl⟩ (.cons ru .nil), ⟨_, hT2, rfl, _, rfl⟩⟩
    have I1 : Inv X pins σ (upd H s.heap.objs.size (.tup [.int (i : Nat), x])) { s with heap := h'', toks := tk + 1 } :=
      I.turnedNew (ch := [e, it]) (fun b ob hb q => (sb.2 b (fun z => hb (by simp [z]))).trans (hk b ob (fun z => hb (by simp [z])) (fun z => hb (by simp [z])) q)) hf (Nat.le_refl _) new
    refine ⟨.ref s.heap.objs.size, _, I1, rfl, ⟨_, x, rfl, I.hok.fresh (Nat.le_refl _), rfl, fun ys hy => by rw [I.tuple_inj hy hq]; exact hx⟩, ⟨⟨x', ?_⟩, hst.1.at fun o q => (sb.2 it (Ne.symm hne)).trans q, hne⟩, fun b hb => ?_⟩
    · have e1 : ((i + 1 : Nat) : Int) = (i : Int) + 1 := by omega
      rw [e1]; exact he'
    · have hb' : b < s.heap.objs.size := by
        have e' : b = e ∨ b = it := by simpa using hb
        rcases e' with z | z
        · rw [z]; exact hel
        · rw [z]; exact hil
      rw [upd_ne (Nat.ne_of_lt hb')]
      exact (hf b hb).1
  done := by
    intro X hP hw hK hc i pins s σ H E I hf st hg
    subst hP hw hK
    obtain ⟨⟨old, he⟩, hit, hne⟩ := st
    obtain ⟨xs, hq, hx⟩ := hg
    obtain ⟨its, rv, p, hz⟩ := I.tuple hq
    obtain ⟨f0, f1, f2, f3, f4, f5⟩ := hf it (by simp)
    have hl := rv.length
    have pt : s.heap.IsTuple a its.toArray := by obtain ⟨o, h1, h2, h3⟩ := p; exact ⟨o, h1, h2, h3⟩
    refine pyNext_enum_endT (I.ok.hd hc) he hit pt (by simp; omega) fun h' eb => ⟨rfl, I.turned (t' := s.toks) (fun b o hb q => eb b o hb q) f0 f1 f3 f4 f5⟩
  self := fun A i s Q E st h => let ⟨⟨_, he⟩, _⟩ := st; wpAny_pyIter_enum he h
def iEnumT (K : PySem.W.Frag) (ta : TA) : TI := fun σ H R => ta σ H fun vs H1 => ∃ a xs, vs = [.ref a] ∧ SqT K H1 a xs ∧ R (IteT K a) H1
theorem pi_enumT {X : Cx} {e : Expr} {ta : TA} {p pos tpos : Pos} {elts : List Expr} {kk : Nat} (hg : Gl X "enumerate") (hm : X.mg "enumerate" = none) (ha : PA X [e] ta) (hs : starEach [e] X.env = [(false, eval e X.env)] := by rfl) :
    PI X (.Tuple elts kk tpos) (.Call (.Name "enumerate" p) [e] [] pos) (iEnumT X.K ta) := by
  refine ⟨fun pins s σ H R I h => ?_⟩
  refine Call_ (ld_blt I hg hm boot_enumerate (PyProof.Rows.callWith_type1 (thn (ha.run pos pins s σ H _ I h) fun us s1 ⟨vs, H1, I1, r1, q1⟩ => ?_) hs rfl))
  obtain ⟨a, xs, ex, hq, q⟩ := q1
  subst ex
  cases r1 with
  | cons r rr =>
    cases rr
    cases r
    obtain ⟨its, rv, p', hz⟩ := I1.tuple hq
    have pt : s1.heap.IsTuple a its.toArray := by obtain ⟨o, h1, h2, h3⟩ := p'; exact ⟨o, h1, h2, h3⟩
    refine call_enumerate_tuple pt fun h' he hit hsz hk => wpAny_pyIter_enum he ?_
    have I2 : Inv X pins σ H1 { s1 with heap := h' } := I1.kept (t' := s1.toks) hk
    refine ⟨s1.heap.objs.size + 1, [s1.heap.objs.size + 1, s1.heap.objs.size], _, _, H1, rfl, I2, turn_enumT a (s1.heap.objs.size + 1) s1.heap.objs.size, ⟨⟨.none, he⟩, hit, Nat.succ_ne_self _⟩, fun b hb => ?_, q⟩
    have e' : b = s1.heap.objs.size + 1 ∨ b = s1.heap.objs.size := by simpa using hb
    have hle : s1.heap.objs.size ≤ b := by
      rcases e' with z | z
      · rw [z]; exact Nat.le_add_right _ _
      · rw [z]; exact Nat.le_refl _
    exact I1.fpOk hle (I1.hok.fresh hle)
end Fa
/-! Loops and comprehensions on data; the facts of the top in short. -/
namespace Fa
open PySem PySem.Spec PyProof.Rows L2
variable {K : PySem.W.Frag} {H H' H1 H2 : Hp} {σ : L2.St} {ta tb te tc : TE} {t u : TT} {d d1 d2 : D} {Z : Ends} {tu tw : TS}
/-- the top's facts over a heap's module -/
structure Tx (K : PySem.W.Frag) (mg : Str → Option Value) : Prop where
  F : Facts K
  yes : ∀ (x : Str) (v : Value), PySem.W.nsIn K mainGlobals x = some (some v) → mg x = some v
  no : ∀ {x : Str}, PySem.W.nsIn K mainGlobals x = some none → mg x = none
theorem Tx.int {mg : Str → Option Value} (T : Tx K mg) {x : Str} {i : Int} (h : IntX K x i) : ∃ u, mg x = some u ∧ RelV (.int i) u := by
  obtain ⟨t, h⟩ := h
  exact ⟨_, T.yes _ _ h, t, rfl⟩
theorem tx_of {h : Heap} {mg : Str → Option Value} (X : K.In h) (G : h.Ns mainGlobals mg) (F : Facts K) : Tx K mg := ⟨F, fun _ _ e => PySem.W.mg_of X G e, fun e => PySem.W.mg_none_of X G e⟩

theorem eb_yes : EvB tYes σ H true := fun H1 _ _ q => q H1 (.refl _)
theorem yes_of {A B : Hp → Prop} (h : A H) : tYes σ H fun b H3 => if b = true then A H3 else B H3 := @iteT (A H) (B H) h
theorem wipe_one (σ : L2.St) (i : Nat) (v : V) : wipe ((wipe σ [i]).set i (some v)) [i] = wipe σ [i] := by
  show ((σ.set i none).set i (some v)).set i none = σ.set i none
  rw [List.set_set, List.set_set]
theorem reps_map_get {α : Type} {g : α → D} {xs : List α} {vs : List V} {i : Nat} {v : V} (r : Reps K H (xs.map g) vs) (h : vs[i]? = some v) : ∃ x, xs[i]? = some x ∧ Rep K H (g x) v := by
  obtain ⟨d, h1, h2⟩ := r.getV h
  rw [List.getElem?_map] at h1
  cases e : xs[i]? with
  | none => rw [e] at h1; cases h1
  | some x => rw [e] at h1; cases h1; exact ⟨x, rfl, h2⟩
theorem take_snoc {α : Type} {l : List α} {i : Nat} {x : α} (h : l[i]? = some x) : l.take (i + 1) = l.take i ++ [x] := by
  rw [List.take_add_one, h]; rfl
theorem keepT_lst {a : Addr} {vs ws : List V} (h : H a = some (.lst vs)) : KeepT H (upd H a (.lst ws)) := keepT_upd (noRd_lst h)
/-- [te for x in a list if tt] -/
theorem en_lc {α : Type} {g f : α → D} {p : α → Bool} {xs : List α} {i : Nat} {tl : TE} {tt : TT} (h : EvD K tl σ H (.lst (xs.map g))) (hz : xs.length ≤ 100000) (st : ∀ x ∈ xs, Stab (f x))
    (hs : ∀ x ∈ xs, ∀ v H1, Same H H1 → Rep K H1 (g x) v → EvB tt ((σ.set i none).set i (some v)) H1 (p x) ∧ (p x = true → EvD K te ((σ.set i none).set i (some v)) H1 (f x))) :
    EvN K (tLc (iList K tl) (gName i) tt te [i]) σ H ((xs.filter p).map f) := fun H1 s Q q => h H1 s _ fun v H2 s2 r => by
  cases r with
  | lst sq r =>
    rename_i a vs
    refine ⟨a, rfl, ⟨_, sq⟩, fun D hD => ?_⟩
    refine lc_list (K := K) (a := a) (xs := vs) (fun n H' => ∃ acc, Same H2 H' ∧ H' D = some (.lst acc) ∧ Reps K H' (((xs.take n).filter p).map f) acc) ⟨[], same_new hD, upd_same, .nil⟩ (fun n H' _ ⟨_, s3, _, _⟩ => s3.seq sq) ?_ ?_
    · rintro n v H' hn ⟨acc, s3, hacc, ra⟩
      obtain ⟨x, hx, rx⟩ := reps_map_get (r.same s3) hn
      have hmem : x ∈ xs := List.mem_of_getElem? hx
      have hlt := (List.getElem?_eq_some_iff.mp hx).1
      obtain ⟨e1, e2⟩ := hs x hmem v H' (s.trans (s2.trans s3)) rx
      refine ⟨wipe_one σ i v, e1 H' (.refl _) _ fun H3 s4 => ?_⟩
      rw [take_snoc hx, List.filter_append, List.map_append]
      cases hp : p x with
      | false =>
        refine iteF ⟨acc, s3.trans s4, s4 _ _ hacc, ?_⟩
        rw [List.filter_cons_of_neg (by rw [hp]; exact Bool.false_ne_true)]
        simpa using ra.same s4
      | true =>
        refine iteT (e2 hp H3 s4 _ fun y H4 s5 ry => ?_)
        have hD4 : H4 D = some (.lst acc) := s5 _ _ (s4 _ _ hacc)
        refine ⟨acc, hD4, ?_, acc ++ [y], ?_, upd_same, ?_⟩
        · have e := ra.length
          rw [List.length_map] at e
          have e2 : ((xs.take n).filter p).length ≤ (xs.take n).length := List.length_filter_le _ _
          rw [List.length_take] at e2
          have e3 : (100000 : Nat) < sizeLine := by decide
          omega
        · exact same_mut (s3.trans (s4.trans s5)) hD
        · have k := keepT_lst (ws := acc ++ [y]) hD4
          refine Reps.append (reps_keep (fun d hd => ?_) k (ra.same (s4.trans s5))) ?_
          · obtain ⟨z, hz1, rfl⟩ := List.mem_map.mp hd
            exact st z (List.mem_of_mem_take (List.mem_filter.mp hz1).1)
          · rw [List.filter_cons_of_pos hp]
            exact .cons (st x hmem _ _ _ _ k ry) .nil
    · rintro H' ⟨acc, s3, hacc, ra⟩
      have e : xs.take vs.length = xs := by
        rw [r.length, List.length_map, List.take_length]
      rw [e] at ra
      exact q D acc H' (fresh_back s2 hD) (s2.trans s3) hacc ra
theorem en_lc1 {α : Type} {g f : α → D} {xs : List α} {i : Nat} {tl : TE} (h : EvD K tl σ H (.lst (xs.map g))) (hz : xs.length ≤ 100000) (st : ∀ x ∈ xs, Stab (f x))
    (hs : ∀ x ∈ xs, ∀ v H1, Same H H1 → Rep K H1 (g x) v → EvD K te ((σ.set i none).set i (some v)) H1 (f x)) :
    EvN K (tLc (iList K tl) (gName i) tYes te [i]) σ H (xs.map f) :=
  (en_lc (p := fun _ => true) h hz st fun x hx v H1 s r => ⟨eb_yes, fun _ => hs x hx v H1 s r⟩).is (by rw [List.filter_eq_self.mpr fun _ _ => rfl])
/-- [te for x in range(n)] -/
theorem en_lcR {f : Nat → D} {n : Nat} {i : Nat} {ta : TA} (h : EvA K ta σ H [.int (n : Int)]) (hz : n ≤ 100000) (st : ∀ x, x < n → Stab (f x))
    (hs : ∀ x, x < n → ∀ H1, Same H H1 → EvD K te ((σ.set i none).set i (some (.int (x : Int)))) H1 (f x)) :
    EvN K (tLc (iRng1 ta) (gName i) tYes te [i]) σ H ((List.range n).map f) := fun H1 s Q q => h H1 s _ fun vs H2 s2 r => by
  obtain ⟨v, rfl, rv⟩ := reps1 r
  cases rv
  refine ⟨(n : Int), rfl, by omega, by omega, fun D hD => ?_⟩
  rw [Int.toNat_natCast]
  refine lc_range (lo := 0) (n := n) (fun m H' => ∃ acc, Same H2 H' ∧ H' D = some (.lst acc) ∧ Reps K H' ((List.range m).map f) acc) ⟨[], same_new hD, upd_same, .nil⟩ ?_ ?_
  · rintro m H' hm ⟨acc, s3, hacc, ra⟩
    rw [Int.zero_add]
    refine ⟨wipe_one σ i _, ?_⟩
    refine yes_of (hs m hm H' (s.trans (s2.trans s3)) H' (.refl _) _ fun y H4 s5 ry => ?_)
    have hD4 : H4 D = some (.lst acc) := s5 _ _ hacc
    refine ⟨acc, hD4, ?_, acc ++ [y], same_mut (s3.trans s5) hD, upd_same, ?_⟩
    · have e := ra.length
      rw [List.length_map, List.length_range] at e
      have e3 : (100000 : Nat) < sizeLine := by decide
      omega
    · have k := keepT_lst (ws := acc ++ [y]) hD4
      rw [List.range_succ, List.map_append]
      refine Reps.append (reps_keep (fun d hd => ?_) k (ra.same s5)) (.cons (st m hm _ _ _ _ k ry) .nil)
      obtain ⟨z, hz1, rfl⟩ := List.mem_map.mp hd
      exact st z (Nat.lt_trans (List.mem_range.mp hz1) hm)
  · rintro H' ⟨acc, s3, hacc, ra⟩
    exact q D acc H' (fresh_back s2 hD) (s2.trans s3) hacc ra
/-- for x in a list -/
theorem s_forL {α : Type} {g : α → D} {xs : List α} {j : Nat} {tl : TE} (h : EvD K tl σ H (.lst (xs.map g))) (Pv : Hp → Nat → L2.St → Hp → Prop) (h0 : ∀ H1, Same H H1 → Pv H1 0 σ H1) (hk : ∀ H1 i σ' H', Pv H1 i σ' H' → Same H1 H')
    (hs : ∀ H1, Same H H1 → ∀ i x v σ' H', xs[i]? = some x → Pv H1 i σ' H' → Rep K H' (g x) v → tu { Z with nx := Pv H1 (i + 1), ct := Pv H1 (i + 1), bk := Z.nx } (σ'.set j (some v)) H')
    (hd : ∀ H1, Same H H1 → ∀ σ' H', Pv H1 xs.length σ' H' → Z.nx σ' H') : tFor (iList K tl) (gName j) tu Z σ H := h H (.refl _) _ fun v H1 s r => by
  cases r with
  | lst sq r =>
    rename_i a vs
    have e : vs.length = xs.length := by rw [r.length, List.length_map]
    refine ⟨a, rfl, ⟨_, sq⟩, for_list (K := K) (a := a) (xs := vs) (Pv H1) (h0 H1 s) (fun i σ' H' _ p => (hk H1 i σ' H' p).seq sq) (fun i v σ' H' hi p => ?_) (fun σ' H' p => hd H1 s σ' H' (e ▸ p))⟩
    obtain ⟨x, hx, rx⟩ := reps_map_get (r.same (hk H1 i σ' H' p)) hi
    exact hs H1 s i x v σ' H' hx p rx
/-- for i in range(n) -/
theorem s_forR {n j : Nat} {ta : TA} (h : EvA K ta σ H [.int (n : Int)]) (hn : n ≤ 100000) (Pv : Nat → L2.St → Hp → Prop) (h0 : ∀ H1, Same H H1 → Pv 0 σ H1)
    (hs : ∀ i σ' H', i < n → Pv i σ' H' → tu { Z with nx := Pv (i + 1), ct := Pv (i + 1), bk := Z.nx } (σ'.set j (some (.int (i : Int)))) H') (hd : ∀ σ' H', Pv n σ' H' → Z.nx σ' H') : tFor (iRng1 ta) (gName j) tu Z σ H :=
  h H (.refl _) _ fun vs H1 s r => by
    obtain ⟨v, rfl, rv⟩ := reps1 r
    cases rv
    refine ⟨(n : Int), rfl, by omega, by omega, ?_⟩
    rw [Int.toNat_natCast]
    exact for_range (lo := 0) (n := n) Pv (h0 H1 s) (fun i σ' H' hi p => by
      show tu { Z with nx := Pv (i + 1), ct := Pv (i + 1), bk := Z.nx } (σ'.set j (some (.int ((0 : Int) + (i : Int))))) H'
      rw [Int.zero_add]
      exact hs i σ' H' hi p) hd
theorem s_while {c : TT} {tb : TS} (Pv : Nat → L2.St → Hp → Prop) (h0 : ∃ m, Pv m σ H)
    (hs : ∀ m σ H, Pv m σ H → ∃ b, EvB c σ H b ∧ (b = true → ∀ H1, Same H H1 → tb { Z with nx := fun σ' H' => ∃ m', m' < m ∧ Pv m' σ' H', ct := fun σ' H' => ∃ m', m' < m ∧ Pv m' σ' H', bk := Z.nx } σ H1) ∧ (b = false → ∀ H1, Same H H1 → Z.nx σ H1)) : tWhile c tb Z σ H := by
  refine ⟨Pv, h0, fun m σ H p => ?_⟩
  obtain ⟨b, e, h1, h2⟩ := hs m σ H p
  refine e H (.refl _) _ fun H1 s => ?_
  cases b with
  | true => exact iteT ⟨_, fun _ _ z => z, h1 rfl H1 s⟩
  | false => exact iteF (h2 rfl H1 s)
/-- found.append(e), found.extend(e): the name in slot i -/
theorem s_appV {i : Nat} {l : Addr} {xs : List V} (hi : σ[i]? = some (some (.ref l))) (hl : H l = some (.lst xs)) (h : EvD K te σ H d) (hz : xs.length < sizeLine) (k : ∀ v H1, Same H H1 → Rep K H1 d v → Z.nx σ (upd H1 l (.lst (xs ++ [v])))) :
    tDrop (tBM K "list" rAppend (tVar i) (tCons te tNil)) Z σ H :=
  ⟨.ref l, hi, Or.inl ⟨rfl, xs, sq_of hl⟩, h H (.refl _) _ fun v H1 s r => ⟨l, xs, v, rfl, rfl, s _ _ hl, hz, k v H1 s r⟩⟩
theorem s_extN {i : Nat} {l : Addr} {xs : List V} {ys : List D} (hi : σ[i]? = some (some (.ref l))) (hl : H l = some (.lst xs)) (h : EvN K te σ H ys) (hz : xs.length + ys.length ≤ 100000) (k : ∀ vs H1, Same H H1 → Reps K H1 ys vs → Z.nx σ (upd H1 l (.lst (xs ++ vs)))) :
    tDrop (tBM K "list" rExtend (tVar i) (tCons te tNil)) Z σ H :=
  ⟨.ref l, hi, Or.inl ⟨rfl, xs, sq_of hl⟩, h H (.refl _) _ fun p vs H1 hp s h1 r => ⟨l, p, xs, vs, rfl, rfl, s _ _ hl, h1, by rw [r.length]; exact Nat.le_trans hz (by decide), k vs H1 s r⟩⟩
theorem s_extV {i j : Nat} {l l2 : Addr} {xs ys : List V} (hi : σ[i]? = some (some (.ref l))) (hj : σ[j]? = some (some (.ref l2))) (hl : H l = some (.lst xs)) (hl2 : H l2 = some (.lst ys)) (hz : xs.length + ys.length ≤ sizeLine) (k : Z.nx σ (upd H l (.lst (xs ++ ys)))) :
    tDrop (tBM K "list" rExtend (tVar i) (tCons (tVar j) tNil)) Z σ H :=
  ⟨.ref l, hi, Or.inl ⟨rfl, xs, sq_of hl⟩, .ref l2, hj, l, l2, xs, ys, rfl, rfl, hl, hl2, hz, k⟩
end Fa
/-! for (amount, ash), destination in zip(streams, assignment): found[destination] += .. -/
namespace Fa
open PySem PySem.Spec PyProof.Rows L2
open Kp412 (Stream Blender)
variable {K : PySem.W.Frag} {H H' H1 H2 : Hp} {σ : L2.St} {ta tb te tc : TE} {Z : Ends}

/-- what a destination has of pairs (stream, destination) -/
def part (e : Stream → Nat) (k : Nat) (zs : List (Stream × Nat)) : Nat := (zs.map fun p => if p.2 = k then e p.1 else 0).sum
theorem part_snoc (e : Stream → Nat) (k : Nat) (zs : List (Stream × Nat)) (s : Stream) (d : Nat) : part e k (zs ++ [(s, d)]) = part e k zs + if d = k then e s else 0 := by
  unfold part
  rw [List.map_append, List.sum_append]
  simp
def fourV (f : Nat → Nat) : List V := [.int (f 0 : Nat), .int (f 1 : Nat), .int (f 2 : Nat), .int (f 3 : Nat)]
theorem fourV_rep {f : Nat → Nat} : Reps K H (four f) (fourV f) := .cons .int (.cons .int (.cons .int (.cons .int .nil)))
theorem fourV_set (f g : Nat → Nat) (d n : Nat) (hd : d ≤ 3) (hg : ∀ k, g k = f k + if d = k then n else 0) : ((fourV f).set d (.int ((f d : Nat) + (n : Nat)))) = fourV g := by
  have h : d = 0 ∨ d = 1 ∨ d = 2 ∨ d = 3 := by omega
  rcases h with rfl | rfl | rfl | rfl <;> simp [fourV, hg]
theorem fourV_get (f : Nat → Nat) (d : Nat) (hd : d ≤ 3) : (fourV f)[d]? = some (.int (f d : Nat)) := by
  have h : d = 0 ∨ d = 1 ∨ d = 2 ∨ d = 3 := by omega
  rcases h with rfl | rfl | rfl | rfl <;> rfl
theorem fourV_len (f : Nat → Nat) : (fourV f).length = 4 := rfl
theorem but_refl (a : Addr) (H : Hp) : But a H H := fun _ _ h _ => h
theorem But.trans {a : Addr} (x : But a H H1) (y : But a H1 H2) : But a H H2 := fun c o h n => y c o (x c o h n) n
theorem But.of {a : Addr} (s : Same H H1) : But a H H1 := fun c o h _ => s c o h
theorem but_upd {a : Addr} {o : HO} : But a H (upd H a o) := fun c u h n => by rw [upd_ne n]; exact h
theorem rep_str {s : Stream} {v : V} (r : Rep K H (strD s) v) : ∃ a, v = .ref a ∧ SqT K H a [.int (s.amount : Nat), .int (s.ash : Nat)] := by
  cases r with
  | tup q r =>
    obtain ⟨x, y, rfl, h1, h2⟩ := reps2 r
    cases h1; cases h2
    exact ⟨_, rfl, q⟩
theorem s_zip {e : Stream → Nat} {ss : List Stream} {l : List Nat} {vm va v3 v4 v5 : Option V} {fo : Addr} {ta : TA} (hl : l.length = ss.length) (hd : ∀ x ∈ l, x ≤ 3)
    (h : EvA K ta [vm, va, some (.ref fo), v3, v4, v5] H [strsD ss, asgD l]) (hf : H fo = some (.lst (fourV fun _ => 0)))
    (hb : ∀ s ∈ ss, ∀ (d : Nat) H1, EvD K te [vm, va, some (.ref fo), some (.int (s.amount : Nat)), some (.int (s.ash : Nat)), some (.int (d : Nat))] H1 (.int (e s : Nat)))
    (hn : ∀ v3 v4 v5 H1, But fo H H1 → H1 fo = some (.lst (fourV fun k => part e k (ss.zip l))) → Z.nx [vm, va, some (.ref fo), v3, v4, v5] H1) :
    tFor (RZ.iZipA K ta) (gTup K 2 (gCons (gTup K 2 (gCons (gName 3) (gCons (gName 4) gNil))) (gCons (gName 5) gNil))) (tAugS (tVar 2) (tVar 5) te (rGetL K) (ipI fun i j => i + j) rSetL) Z [vm, va, some (.ref fo), v3, v4, v5] H :=
  h H (.refl _) _ fun vs H1 s r => by
    obtain ⟨x, y, rfl, r1, r2⟩ := reps2 r
    cases r1 with
    | tup q1 r1 =>
    cases r2 with
    | tup q2 r2 =>
    rename_i a xs b ys
    have hx : xs.length = ss.length := by rw [r1.length, List.length_map]
    have hy : ys.length = l.length := by rw [r2.length, List.length_map]
    have nfo : ∀ H', But fo H1 H' → KeepT H1 H' := fun H' k => keepT_but (noRd_lst (s _ _ hf)) k
    refine ⟨a, b, xs, ys, rfl, .inr ⟨q1, q2, ?_⟩⟩
    refine RZ.for_zipT (K := K) (xs := xs) (ys := ys) (by omega) (fun i σ' H' => ∃ v3 v4 v5, σ' = [vm, va, some (.ref fo), v3, v4, v5] ∧ But fo H1 H' ∧ H' fo = some (.lst (fourV fun k => part e k ((ss.zip l).take i))))
      ⟨v3, v4, v5, rfl, but_refl _ _, by rw [s _ _ hf]; rfl⟩ (fun i σ' H' ⟨_, _, _, _, k, _⟩ => ⟨(nfo H' k).seq q1, (nfo H' k).seq q2⟩) ?_ ?_
    · rintro i x y T σ' H' hx' hy' ⟨w3, w4, w5, rfl, k, hfo⟩ hT
      obtain ⟨s0, hs0, rs⟩ := reps_map_get (reps_keep (fun d hd => by obtain ⟨z, _, rfl⟩ := List.mem_map.mp hd; exact stab_str z) (nfo H' k) r1) hx'
      obtain ⟨d0, hd0, rd⟩ := reps_map_get (reps_keep (fun d hd => by obtain ⟨z, _, rfl⟩ := List.mem_map.mp hd; exact stab_int) (nfo H' k) r2) hy'
      obtain ⟨c, rfl, sq⟩ := rep_str rs
      cases rd
      have hTf : fo ≠ T := ne_of_none hfo hT
      have hle := hd d0 (List.mem_of_getElem? hd0)
      refine ⟨T, _, rfl, st_of upd_same, rfl, _, _, rfl, ⟨c, _, rfl, (keepT_of (same_new hT)).seq sq, rfl, _, _, rfl, _, _, rfl, rfl, _, _, rfl, rfl, ?_⟩⟩
      refine ⟨_, rfl, _, rfl, fo, _, d0, _, rfl, rfl, sq_of (by rw [upd_ne hTf]; exact hfo), fourV_get _ d0 hle, ?_⟩
      refine hb s0 (List.mem_of_getElem? hs0) d0 _ _ (.refl _) _ fun v H3 s3 rv => ?_
      cases rv
      have hf3 := s3 _ _ (show upd H' T _ fo = _ by rw [upd_ne hTf]; exact hfo)
      refine ⟨_, _, rfl, rfl, fo, _, _, d0, rfl, rfl, hf3, ?_, _, _, _, rfl, ?_, upd_same.trans ?_⟩
      · rw [fourV_len]
        unfold ixN
        rw [if_pos (by omega), if_pos (by omega), Int.toNat_natCast]
      · exact (k.trans ((But.of (same_new hT)).trans (But.of s3))).trans but_upd
      · have hz : (ss.zip l)[i]? = some (s0, d0) := List.getElem?_zip_eq_some.mpr ⟨hs0, hd0⟩
        rw [take_snoc hz]
        exact congrArg (fun q => some (HO.lst q)) (fourV_set _ _ d0 (e s0) hle fun k => part_snoc e k _ s0 d0)
    · rintro σ' H' ⟨w3, w4, w5, rfl, k, hfo⟩
      refine hn w3 w4 w5 H' ((But.of s).trans k) ?_
      rw [hfo, List.take_of_length_le]
      rw [List.length_zip]
      omega
end Fa
/-! Lists. -/
namespace Fa
open L2
theorem cut_to {α : Type} {l : List α} {n : Nat} (h : n < l.length) : (l.drop (HT.sIx l.length 0 none)).take (HT.sIx l.length l.length (some (n : Int)) - HT.sIx l.length 0 none) = l.take n := by
  rw [HT.sIx_none, HT.sIx_nat, List.drop_zero, Nat.sub_zero, Nat.min_eq_left (Nat.le_of_lt h)]
theorem cut_from {α : Type} {l : List α} {n : Nat} (h : n < l.length) : (l.drop (HT.sIx l.length 0 (some ((n : Int) + 1)))).take (HT.sIx l.length l.length none - HT.sIx l.length 0 (some ((n : Int) + 1))) = l.drop (n + 1) := by
  have e : ((n : Int) + 1) = ((n + 1 : Nat) : Int) := by omega
  rw [e, HT.sIx_none, HT.sIx_nat, Nat.min_eq_left h, List.take_of_length_le]
  rw [List.length_drop]
  exact Nat.le_refl _
theorem zipWith_set {α β γ : Type} (f : α → β → γ) : ∀ (l : List α) (m : List β) (n : Nat) (a : α) (b : β), (List.zipWith f l m).set n (f a b) = List.zipWith f (l.set n a) (m.set n b)
  | [], _, _, _, _ => by simp
  | _ :: _, [], _, _, _ => by simp
  | _ :: _, _ :: _, 0, _, _ => rfl
  | x :: l, y :: m, n + 1, a, b => congrArg (f x y :: ·) (zipWith_set f l m n a b)
open PySem in
theorem ix_listK {X : Cx} {K : PySem.W.Frag} (h : X.K = K) : IxR X (rIxL K) := h ▸ ix_list
open PySem in
theorem ix_tupK {X : Cx} {K : PySem.W.Frag} (h : X.K = K) : IxR X (rIxT K) := h ▸ ix_tup
open PySem in
theorem op_catAK {X : Cx} {K : PySem.W.Frag} (h : X.K = K) : OpR X (binaryOp .Add) (rCatA K) := h ▸ op_catA
open PySem in
theorem pg_tupK {X : Cx} {K : PySem.W.Frag} {es : List Expr} {k : Nat} {pos : Pos} {t : TGs} {n : Nat} (hK : X.K = K) (hc : X.calm = true) (h : PGs X es t)
    (hn : (assignEach es X.env).length = n := by rfl) (hst : (assignEach es X.env).findIdx? (·.1) = none := by rfl) : PG X (.Tuple es k pos) (gTup K n t) := hK ▸ pg_tup hc h hn hst
open PySem in
/-- for x in the list that the slot i0 holds; the body may change another list -/
theorem s_forV {K : PySem.W.Frag} {σ : L2.St} {H H0 : Hp} {Z : Ends} {tu : TS} {α : Type} {g : α → D} {xs : List α} {i0 j : Nat} {a : Addr} {vs : List V} (hi : σ[i0]? = some (some (.ref a))) (sq : SqL K H a vs) (r : Reps K H0 (xs.map g) vs) (Pv : Nat → L2.St → Hp → Prop) (h0 : Pv 0 σ H)
    (hl : ∀ i σ' H', Pv i σ' H' → SqL K H' a vs) (hs : ∀ i x v σ' H', xs[i]? = some x → Pv i σ' H' → Rep K H0 (g x) v → tu { Z with nx := Pv (i + 1), ct := Pv (i + 1), bk := Z.nx } (σ'.set j (some v)) H') (hd : ∀ σ' H', Pv xs.length σ' H' → Z.nx σ' H') :
    tFor (iList K (tVar i0)) (gName j) tu Z σ H := by
  have e : vs.length = xs.length := by rw [r.length, List.length_map]
  refine ⟨_, hi, a, rfl, ⟨_, sq⟩, for_list (K := K) (a := a) (xs := vs) Pv h0 (fun i σ' H' _ p => hl i σ' H' p) (fun i v σ' H' hi p => ?_) (fun σ' H' p => hd σ' H' (e ▸ p))⟩
  obtain ⟨x, hx, rx⟩ := reps_map_get r hi
  exact hs i x v σ' H' hx p rx
open PySem in
theorem s_nx {A : L2.St → Hp → Prop} {B : VK} {C D : L2.St → Hp → Prop} {σ : L2.St} {H : Hp} (h : A σ H) : (Ends.mk A B C D).nx σ H := h
open PySem in
theorem s_seq {t u : TS} {Z : Ends} {σ : L2.St} {H : Hp} (h : t { Z with nx := u Z } σ H) : tSeq t u Z σ H := h
open PySem in
theorem but_same {a : Addr} {H H1 H2 : Hp} (n : H a = none) (s : Same H H1) (b : But a H1 H2) : Same H H2 := fun c o h => b c o (s c o h) (ne_of_none h n)
open PySem in
theorem reps_rep {K : PySem.W.Frag} {H : Hp} {ds : List D} {vs : List V} (r : Reps K H ds vs) : ∀ n : Nat, Reps K H (List.replicate n ds).flatten (List.replicate n vs).flatten
  | 0 => .nil
  | n + 1 => by
    rw [List.replicate_succ, List.replicate_succ, List.flatten_cons, List.flatten_cons]
    exact r.append (reps_rep r n)
open PySem in
theorem en_rep {K : PySem.W.Frag} {σ : L2.St} {H : Hp} {ta tb : TE} {ds : List D} {n : Nat} (ha : EvN K ta σ H ds) (hb : EvD K tb σ H (.int (n : Int))) (hz : ds.length * n ≤ 100000) (hn : n ≤ 100000) : EvN K (tOp rRep ta tb) σ H (List.replicate n ds).flatten := fun H1 s Q q =>
  ha H1 s _ fun p vs H2 hp s2 h2 r2 => hb H2 (s.trans s2) _ fun v H3 s3 rv => by
    cases rv
    refine ⟨p, n, vs, rfl, rfl, s3 _ _ h2, by omega, by omega, ?_, fun l hl => ?_⟩
    · rw [r2.length, Int.toNat_natCast]; exact Nat.le_trans hz (by decide)
    · rw [Int.toNat_natCast]
      exact q l _ _ (fresh_back (s2.trans s3) hl) ((s2.trans s3).trans (same_new hl)) upd_same ((reps_rep (r2.same s3) n).same (same_new hl))
end Fa
namespace Fa
open PySem PySem.Spec PyProof.Rows L2
open Kp412 (Stream Blender)
section
variable {P : Program} {w : World} {K : PySem.W.Frag} {mg : Str → Option Value} {base : Heap} {C CD : Addr}
local macro_rules | `(tactic| walk_at "fa_rd") => `(tactic| first
  | exact rd_I0 | exact rd_B0 | exact rd_eq
  | exact rd_ixT (n := 0) rfl rfl | exact rd_ixT (n := 1) rfl rfl | exact rd_ixT (n := 2) rfl rfl
  | exact rd_ixL (n := 0) rfl rfl | exact rd_ixL (n := 1) rfl rfl | exact rd_ixL (n := 2) rfl rfl
  | exact rd_catA (by simp) )
local macro_rules | `(tactic| walk_at "fa_ev") => `(tactic| first
  | exact ed_int | exact ed_bl
  | (refine ed_var rfl ?_; assumption)
  | (refine ed_op ?_ ?_ ?_; focus walk_at "fa_ev"; focus walk_at "fa_ev"; focus walk_at "fa_rd")
  | (refine ed_cb ?_ ?_; focus walk_at "fa_ea"; focus (first | exact rc_lenT | exact rc_lenL))
  | (refine ed_tup ?_ ?_; focus walk_at "fa_ea"; focus (simp; done)))
local macro_rules | `(tactic| walk_at "fa_ea") => `(tactic| first
  | exact ea_nil
  | (refine ea_cons ?_ ?_; focus walk_at "fa_ev"; focus walk_at "fa_ea"))

theorem sc_new_mill : FnScope ["feed_price"] ["feed_price"] (C8.fnScope (top 7)) := C8.fnScope_by (by decide +kernel)
theorem ok_new_mill (T : Tx K mg) : C8.Cal P w K mg base 1 "new_mill" (spD K R_new_mill) [] := by
  obtain ⟨f, fd, h1, h2, h3, h4⟩ := T.F.d_new_mill
  obtain ⟨a, b, c, d, hn, htup, tb, tc, td⟩ := T.F.nof
  have h_NO_FLOURS : ∃ u, mg "NO_FLOURS" = some u ∧ RelV (.ref a) u := ⟨_, T.yes _ _ hn, rfl⟩
  refine C8.cal0 (N := ["feed_price"]) (ps := ["feed_price"]) ⟨h2, T.yes _ _ h1, h4⟩ (h2.binds h3 (fun _ _ _ _ _ _ us hl => match us, hl with | [_], _ => rfl)) .nil sc_new_mill (fun vs H Q E h => spD_len (fun ds d r => by cases r; rfl) h) (fun cdv A outer s H vs Q E hr h => ⟨_, (pss_one (ps_ret (pe_tup (pa_cons (pe_tup pa_nil) (pa_cons (C8.pe_gc rfl h_NO_FLOURS) (pa_cons (pv 0) pa_nil)))))), ?_⟩)
  obtain ⟨ds, d, rs, rR, k⟩ := h
  cases rR with | mk f =>
  obtain ⟨v, rfl, r1⟩ := reps1 rs
  have rep : Rep K H (flosD [0, 0, 0] [0, 0, 0]) (.ref a) := .tup (.inr htup) (.cons (.tup (.inr tb) (Reps.ints [0, 0])) (.cons (.tup (.inr tc) (Reps.ints [0, 0])) (.cons (.tup (.inr td) (Reps.ints [0, 0])) .nil)))
  exact s_ret (K := K) (ed_tup (ea_cons (ed_tup ea_nil (Nat.le_of_ble_eq_true rfl)) (ea_cons (ed_c rep) (ea_cons (ed_var rfl r1) ea_nil))) (Nat.le_of_ble_eq_true rfl)) k
theorem sc_has_stream : FnScope ["mill", "stream"] ["mill", "stream"] (C8.fnScope (top 8)) := C8.fnScope_by (by decide +kernel)
theorem ok_has_stream (T : Tx K mg) : C8.Cal P w K mg base 1 "has_stream" (spD K R_has_stream) [] := by
  obtain ⟨f, fd, h1, h2, h3, h4⟩ := T.F.d_has_stream
  refine C8.cal0 (N := ["mill", "stream"]) (ps := ["mill", "stream"]) ⟨h2, T.yes _ _ h1, h4⟩ (h2.binds h3 (fun _ _ _ _ _ _ us hl => match us, hl with | [_, _], _ => rfl)) .nil sc_has_stream (fun vs H Q E h => spD_len (fun ds d r => by cases r; rfl) h) (fun cdv A outer s H vs Q E hr h => ⟨_, (pss_one (ps_ret (pe_cmpR op_lt (pv 1) (pe_callB call_len_seq (by rfl) (T.no T.F.b_len) (by decide +kernel) (pa_cons (pe_ix ix_tup (pv 0) pe_int (fun _ _ => rfl)) pa_nil)) (nomark _)))), ?_⟩)
  obtain ⟨ds, d, rs, rR, k⟩ := h
  cases rR with | mk b i =>
  obtain ⟨v, w, rfl, r1, r2⟩ := reps2 rs
  refine s_ret (K := K) (EvD.is (d := .bl (decide ((i : Int) < ((b.streams.map strD).length : Nat)))) ?_ ?_) k
  · exact ed_op (ed_var rfl r2) (ed_cb (ea_cons (ed_op (ed_var rfl r1) ed_int (rd_ixT (n := 0) rfl rfl)) ea_nil) rc_lenT) rd_B0
  · unfold Kp412.isStream
    rw [List.length_map]
    exact congrArg D.bl (decide_eq_decide.mpr Int.ofNat_lt)
theorem sc_are_amount_and_ash : FnScope ["amount", "ash"] ["amount", "ash"] (C8.fnScope (top 9)) := C8.fnScope_by (by decide +kernel)
theorem ok_are_amount_and_ash (T : Tx K mg) : C8.Cal P w K mg base 1 "are_amount_and_ash" (spD K R_are_amount_and_ash) [] := by
  obtain ⟨f, fd, h1, h2, h3, h4⟩ := T.F.d_are_amount_and_ash
  refine C8.cal0 (N := ["amount", "ash"]) (ps := ["amount", "ash"]) ⟨h2, T.yes _ _ h1, h4⟩ (h2.binds h3 (fun _ _ _ _ _ _ us hl => match us, hl with | [_, _], _ => rfl)) .nil sc_are_amount_and_ash (fun vs H Q E h => spD_len (fun ds d r => by cases r; rfl) h) (fun cdv A outer s H vs Q E hr h => ⟨_, (pss_one (ps_ret (pe_and (pe_cmpR op_le pe_int (pv 0) (nomark _)) (pe_and (pe_cmpR op_le (pv 0) (C8.pe_gc rfl (T.int T.F.i_GREATEST_AMOUNT)) (nomark _)) (pe_one (pe_cmpR op_le (pv 1) (C8.pe_gc rfl (T.int T.F.i_GREATEST_ASH)) (nomark _))))))), ?_⟩)
  obtain ⟨ds, d, rs, rR, k⟩ := h
  cases rR with | mk a s0 =>
  obtain ⟨v, w, rfl, r1, r2⟩ := reps2 rs
  refine s_ret (K := K) (EvD.is (d := .bl (decide ((1 : Int) ≤ (a : Int)) && (decide ((a : Int) ≤ 99) && decide ((s0 : Int) ≤ 300)))) ?_ ?_) k
  · exact ed_andV (ed_op ed_int (ed_var rfl r1) rd_B0) fun _ => ed_andV (ed_op (ed_var rfl r1) ed_int rd_B0) fun _ => ed_op (ed_var rfl r2) ed_int rd_B0
  · unfold Kp412.validStream
    rw [Bool.and_assoc]
    have e1 : decide ((1 : Int) ≤ (a : Int)) = decide (1 ≤ a) := decide_eq_decide.mpr (by omega)
    have e2 : decide ((a : Int) ≤ 99) = decide (a ≤ 99) := decide_eq_decide.mpr (by omega)
    have e3 : decide ((s0 : Int) ≤ 300) = decide (s0 ≤ 300) := decide_eq_decide.mpr (by omega)
    rw [e1, e2, e3]
theorem sc_replaced : FnScope ["row", "at", "one"] ["row", "at", "one"] (C8.fnScope (top 10)) := C8.fnScope_by (by decide +kernel)
theorem ok_replaced (T : Tx K mg) : C8.Cal P w K mg base 1 "replaced" (spD K R_replaced) [] := by
  obtain ⟨f, fd, h1, h2, h3, h4⟩ := T.F.d_replaced
  refine C8.cal0 (N := ["row", "at", "one"]) (ps := ["row", "at", "one"]) ⟨h2, T.yes _ _ h1, h4⟩ (h2.binds h3 (fun _ _ _ _ _ _ us hl => match us, hl with | [_, _, _], _ => rfl)) .nil sc_replaced (fun vs H Q E h => spD_len (fun ds d r => by cases r; rfl) h) (fun cdv A outer s H vs Q E hr h => ⟨_, (pss_one (ps_ret (pe_op op_catA (pe_op op_catA (pe_slice sl_tupA (pv 0) po_none (po_some (pv 1))) (pe_tup (pa_cons (pv 2) pa_nil))) (pe_slice sl_tupA (pv 0) (po_some (pe_op op_add (pv 1) pe_int)) po_none)))), ?_⟩)
  obtain ⟨ds, d, rs, rR, k⟩ := h
  cases rR with | mk l n x h hz =>
  obtain ⟨v, w, z, rfl, r1, r2, r3⟩ := reps3 rs
  refine s_ret (K := K) (EvD.is (d := .tup (l.take n ++ [x] ++ l.drop (n + 1))) ?_ ?_) k
  · refine ed_op (ed_op (ed_sl (ed_var rfl r1) eo_none (eo_some (ed_var rfl r2)) (rs_tup (cut_to h))) (ed_tup (ea_cons (ed_var rfl r3) ea_nil) (Nat.le_of_ble_eq_true rfl)) (rd_catA ?_)) (ed_sl (ed_var rfl r1) (eo_some (ed_op (ed_var rfl r2) ed_int rd_I0)) eo_none (rs_tup (cut_from h))) (rd_catA ?_)
    · rw [List.length_take, List.length_singleton]; omega
    · rw [List.length_append, List.length_take, List.length_singleton, List.length_drop]; omega
  · rw [List.append_assoc, List.singleton_append, List.set_eq_take_append_cons_drop, if_pos h]
theorem sc_without : FnScope ["row", "at"] ["row", "at"] (C8.fnScope (top 11)) := C8.fnScope_by (by decide +kernel)
theorem ok_without (T : Tx K mg) : C8.Cal P w K mg base 1 "without" (spD K R_without) [] := by
  obtain ⟨f, fd, h1, h2, h3, h4⟩ := T.F.d_without
  refine C8.cal0 (N := ["row", "at"]) (ps := ["row", "at"]) ⟨h2, T.yes _ _ h1, h4⟩ (h2.binds h3 (fun _ _ _ _ _ _ us hl => match us, hl with | [_, _], _ => rfl)) .nil sc_without (fun vs H Q E h => spD_len (fun ds d r => by cases r; rfl) h) (fun cdv A outer s H vs Q E hr h => ⟨_, (pss_one (ps_ret (pe_op op_catA (pe_slice sl_tupA (pv 0) po_none (po_some (pv 1))) (pe_slice sl_tupA (pv 0) (po_some (pe_op op_add (pv 1) pe_int)) po_none)))), ?_⟩)
  obtain ⟨ds, d, rs, rR, k⟩ := h
  cases rR with | mk l n h hz =>
  obtain ⟨v, w, rfl, r1, r2⟩ := reps2 rs
  refine s_ret (K := K) (EvD.is (d := .tup (l.take n ++ l.drop (n + 1))) ?_ ?_) k
  · refine ed_op (ed_sl (ed_var rfl r1) eo_none (eo_some (ed_var rfl r2)) (rs_tup (cut_to h))) (ed_sl (ed_var rfl r1) (eo_some (ed_op (ed_var rfl r2) ed_int rd_I0)) eo_none (rs_tup (cut_from h))) (rd_catA ?_)
    rw [List.length_take, List.length_drop]; omega
  · rw [List.eraseIdx_eq_take_drop_succ]
theorem sc_with_streams : FnScope ["mill", "streams"] ["mill", "streams"] (C8.fnScope (top 12)) := C8.fnScope_by (by decide +kernel)
theorem ok_with_streams (T : Tx K mg) : C8.Cal P w K mg base 1 "with_streams" (spD K R_with_streams) [] := by
  obtain ⟨f, fd, h1, h2, h3, h4⟩ := T.F.d_with_streams
  refine C8.cal0 (N := ["mill", "streams"]) (ps := ["mill", "streams"]) ⟨h2, T.yes _ _ h1, h4⟩ (h2.binds h3 (fun _ _ _ _ _ _ us hl => match us, hl with | [_, _], _ => rfl)) .nil sc_with_streams (fun vs H Q E h => spD_len (fun ds d r => by cases r; rfl) h) (fun cdv A outer s H vs Q E hr h => ⟨_, (pss_one (ps_ret (pe_tup (pa_cons (pv 1) (pa_cons (pe_ix ix_tup (pv 0) pe_int (fun _ _ => rfl)) (pa_cons (pe_ix ix_tup (pv 0) pe_int (fun _ _ => rfl)) pa_nil)))))), ?_⟩)
  obtain ⟨ds, d, rs, rR, k⟩ := h
  cases rR with | mk b ss =>
  obtain ⟨v, w, rfl, r1, r2⟩ := reps2 rs
  exact s_ret (K := K) (ed_tup (ea_cons (ed_var rfl r2) (ea_cons (ed_op (ed_var rfl r1) ed_int (rd_ixT (n := 1) rfl rfl)) (ea_cons (ed_op (ed_var rfl r1) ed_int (rd_ixT (n := 2) rfl rfl)) ea_nil))) (Nat.le_of_ble_eq_true rfl)) k
theorem sc_with_flour : FnScope ["mill", "flour", "ash_limit", "price"] ["mill", "flour", "ash_limit", "price"] (C8.fnScope (top 13)) := C8.fnScope_by (by decide +kernel)
theorem ok_with_flour (T : Tx K mg) (c_replaced : C8.Cal P w K mg base 1 "replaced" (spD K R_replaced) []) : C8.Cal P w K mg base 2 "with_flour" (spD K R_with_flour) [] := by
  obtain ⟨f, fd, h1, h2, h3, h4⟩ := T.F.d_with_flour
  refine C8.cal0 (N := ["mill", "flour", "ash_limit", "price"]) (ps := ["mill", "flour", "ash_limit", "price"]) ⟨h2, T.yes _ _ h1, h4⟩ (h2.binds h3 (fun _ _ _ _ _ _ us hl => match us, hl with | [_, _, _, _], _ => rfl)) .nil sc_with_flour (fun vs H Q E h => spD_len (fun ds d r => by cases r; rfl) h) (fun cdv A outer s H vs Q E hr h => ⟨_, (pss_one (ps_ret (pe_tup (pa_cons (pe_ix ix_tup (pv 0) pe_int (fun _ _ => rfl)) (pa_cons (C8.pe_c c_replaced hr (by decide) rfl (pa_cons (pe_ix ix_tup (pv 0) pe_int (fun _ _ => rfl)) (pa_cons (pv 1) (pa_cons (pe_tup (pa_cons (pv 2) (pa_cons (pv 3) pa_nil))) pa_nil)))) (pa_cons (pe_ix ix_tup (pv 0) pe_int (fun _ _ => rfl)) pa_nil)))))), ?_⟩)
  obtain ⟨ds, d, rs, rR, k⟩ := h
  cases rR with | mk b q l p hk h1 h2 =>
  obtain ⟨v, w, z, y, rfl, r1, r2, r3, r4⟩ := reps4 rs
  have hl : (List.zipWith floD b.limits b.prices).length = 3 := by rw [List.length_zipWith, h1, h2]; rfl
  refine s_ret (K := K) (ed_tup (ea_cons (ed_op (ed_var rfl r1) ed_int (rd_ixT (n := 0) rfl rfl)) (ea_cons (EvD.is (d := .tup ((List.zipWith floD b.limits b.prices).set q (floD l p))) ?_ ?_) (ea_cons (ed_op (ed_var rfl r1) ed_int (rd_ixT (n := 2) rfl rfl)) ea_nil))) (Nat.le_of_ble_eq_true rfl)) k
  · exact ed_call (ea_cons (ed_op (ed_var rfl r1) ed_int (rd_ixT (n := 1) rfl rfl)) (ea_cons (ed_var rfl r2) (ea_cons (ed_tup (ea_cons (ed_var rfl r3) (ea_cons (ed_var rfl r4) ea_nil)) (Nat.le_of_ble_eq_true rfl)) ea_nil))) (.mk _ q (floD l p) (by omega) (by omega))
  · exact congrArg D.tup (zipWith_set floD _ _ _ _ _)
theorem sc_with_feed_price : FnScope ["mill", "price"] ["mill", "price"] (C8.fnScope (top 14)) := C8.fnScope_by (by decide +kernel)
theorem ok_with_feed_price (T : Tx K mg) : C8.Cal P w K mg base 1 "with_feed_price" (spD K R_with_feed_price) [] := by
  obtain ⟨f, fd, h1, h2, h3, h4⟩ := T.F.d_with_feed_price
  refine C8.cal0 (N := ["mill", "price"]) (ps := ["mill", "price"]) ⟨h2, T.yes _ _ h1, h4⟩ (h2.binds h3 (fun _ _ _ _ _ _ us hl => match us, hl with | [_, _], _ => rfl)) .nil sc_with_feed_price (fun vs H Q E h => spD_len (fun ds d r => by cases r; rfl) h) (fun cdv A outer s H vs Q E hr h => ⟨_, (pss_one (ps_ret (pe_tup (pa_cons (pe_ix ix_tup (pv 0) pe_int (fun _ _ => rfl)) (pa_cons (pe_ix ix_tup (pv 0) pe_int (fun _ _ => rfl)) (pa_cons (pv 1) pa_nil)))))), ?_⟩)
  obtain ⟨ds, d, rs, rR, k⟩ := h
  cases rR with | mk b p =>
  obtain ⟨v, w, rfl, r1, r2⟩ := reps2 rs
  exact s_ret (K := K) (ed_tup (ea_cons (ed_op (ed_var rfl r1) ed_int (rd_ixT (n := 0) rfl rfl)) (ea_cons (ed_op (ed_var rfl r1) ed_int (rd_ixT (n := 1) rfl rfl)) (ea_cons (ed_var rfl r2) ea_nil))) (Nat.le_of_ble_eq_true rfl)) k
end
end Fa
/-! Plain laws: the sums of an assignment. -/
namespace Fa
open Kp412 (Stream Blender)
theorem sum_filter {α : Type} (p : α → Bool) (f : α → Nat) : ∀ l : List α, ((l.filter p).map f).sum = (l.map fun x => if p x = true then f x else 0).sum
  | [] => rfl
  | x :: l => by
    rw [List.map_cons, List.sum_cons, ← sum_filter p f l]
    by_cases h : p x = true
    · rw [List.filter_cons_of_pos h, List.map_cons, List.sum_cons, if_pos h]
    · rw [List.filter_cons_of_neg h, if_neg h, Nat.zero_add]
theorem getD_lt {α : Type} {l : List α} {i : Nat} {d : α} (h : i < l.length) : l.getD i d = l[i] := by
  rw [List.getD_eq_getElem?_getD, List.getElem?_eq_getElem h]; rfl
theorem getD_ge {α : Type} {l : List α} {i : Nat} {d : α} (h : l.length ≤ i) : l.getD i d = d := by
  rw [List.getD_eq_getElem?_getD, List.getElem?_eq_none_iff.mpr h]; rfl
theorem range_zip (e : Stream → Nat) (k : Nat) (ss : List Stream) (l : List Nat) (h : l.length = ss.length) :
    (List.range ss.length).map (fun i => if (l.getD i Kp412.feedDestination == k) = true then e (ss.getD i ⟨0, 0⟩) else 0) = (ss.zip l).map (fun p => if p.2 = k then e p.1 else 0) := by
  apply List.ext_getElem
  · rw [List.length_map, List.length_map, List.length_range, List.length_zip]; omega
  · intro i h1 h2
    rw [List.length_map, List.length_range] at h1
    rw [List.getElem_map, List.getElem_map, List.getElem_range, List.getElem_zip, getD_lt (by omega : i < l.length), getD_lt h1]
    simp only [beq_iff_eq]
theorem amt_part {b : Blender} {l : List Nat} (h : As b l) (k : Nat) : part (·.amount) k (b.streams.zip l) = amt b l k := by
  unfold part amt Kp412.amountOf Kp412.streamsOf Kp412.streamAt
  rw [sum_filter]
  exact congrArg List.sum (range_zip (·.amount) k b.streams l h.len).symm
theorem ash_part {b : Blender} {l : List Nat} (h : As b l) (k : Nat) : part (fun s => s.amount * s.ash) k (b.streams.zip l) = ash b l k := by
  unfold part ash Kp412.ashOf Kp412.streamsOf Kp412.streamAt
  rw [sum_filter]
  exact congrArg List.sum (range_zip (fun s => s.amount * s.ash) k b.streams l h.len).symm
theorem flos_get {b : Blender} (s : Sm b) {k : Nat} (hk : k < 3) : (List.zipWith floD b.limits b.prices)[k]? = some (floD (b.limits.getD k 0) (b.prices.getD k 0)) := by
  have h1 : k < b.limits.length := by rw [s.nl]; exact hk
  have h2 : k < b.prices.length := by rw [s.np]; exact hk
  rw [List.getElem?_zipWith, List.getElem?_eq_getElem h1, List.getElem?_eq_getElem h2, getD_lt h1, getD_lt h2]
theorem lim_lt {b : Blender} (s : Sm b) (k : Nat) : b.limits.getD k 0 < big := by
  by_cases h : k < b.limits.length
  · rw [getD_lt h]; exact s.li _ (List.getElem_mem h)
  · rw [getD_ge (Nat.le_of_not_lt h)]; decide
theorem pri_lt {b : Blender} (s : Sm b) (k : Nat) : b.prices.getD k 0 < big := by
  by_cases h : k < b.prices.length
  · rw [getD_lt h]; exact s.pr _ (List.getElem_mem h)
  · rw [getD_ge (Nat.le_of_not_lt h)]; decide
theorem four_get (f : Nat → Nat) {k : Nat} (hk : k ≤ 3) : (four f)[k]? = some (.int (f k : Nat)) := by
  have h : k = 0 ∨ k = 1 ∨ k = 2 ∨ k = 3 := by omega
  rcases h with rfl | rfl | rfl | rfl <;> rfl
theorem sum_cast {α : Type} (f : α → Nat) (l : List α) : ((l.map fun q => ((f q : Nat) : Int)).sum) = (((l.map f).sum : Nat) : Int) := by
  induction l with
  | nil => rfl
  | cons x l ih => rw [List.map_cons, List.map_cons, List.sum_cons, List.sum_cons, ih, Int.natCast_add]
theorem cmul_l {i : Nat} {j : Int} (h : i < big) : L2.CMul (i : Int) j := .inl ⟨by omega, by have h2 : i < 4294967296 := h; omega⟩
end Fa
namespace Fa
open PySem PySem.Spec PyProof.Rows L2
open Kp412 (Stream Blender)
section
variable {P : Program} {w : World} {K : PySem.W.Frag} {mg : Str → Option Value} {base : Heap} {C CD : Addr}
local macro_rules | `(tactic| walk_at "fa_rd") => `(tactic| first
  | exact rd_I0 | exact rd_B0 | exact rd_eq
  | exact rd_ixT (n := 0) rfl rfl | exact rd_ixT (n := 1) rfl rfl | exact rd_ixT (n := 2) rfl rfl
  | exact rd_ixL (n := 0) rfl rfl | exact rd_ixL (n := 1) rfl rfl | exact rd_ixL (n := 2) rfl rfl
  | exact rd_catA (by simp) )
local macro_rules | `(tactic| walk_at "fa_ev") => `(tactic| first
  | exact ed_int | exact ed_bl
  | (refine ed_var rfl ?_; assumption)
  | (refine ed_op ?_ ?_ ?_; focus walk_at "fa_ev"; focus walk_at "fa_ev"; focus walk_at "fa_rd")
  | (refine ed_cb ?_ ?_; focus walk_at "fa_ea"; focus (first | exact rc_lenT | exact rc_lenL))
  | (refine ed_tup ?_ ?_; focus walk_at "fa_ea"; focus (simp; done)))
local macro_rules | `(tactic| walk_at "fa_ea") => `(tactic| first
  | exact ea_nil
  | (refine ea_cons ?_ ?_; focus walk_at "fa_ev"; focus walk_at "fa_ea"))

theorem sc_amounts_of : FnScope ["mill", "assignment", "found", "amount", "ash", "destination"] ["mill", "assignment"] (C8.fnScope (top 18)) := C8.fnScope_by (by decide +kernel)
theorem ok_amounts_of (T : Tx K mg) : C8.Cal P w K mg base 1 "amounts_of" (spN K R_amounts_of) [] := by
  obtain ⟨f, fd, h1, h2, h3, h4⟩ := T.F.d_amounts_of
  refine C8.cal0 (N := ["mill", "assignment", "found", "amount", "ash", "destination"]) (ps := ["mill", "assignment"]) ⟨h2, T.yes _ _ h1, h4⟩ (h2.binds h3 (fun _ _ _ _ _ _ us hl => match us, hl with | [_, _], _ => rfl)) .nil sc_amounts_of (fun vs H Q E h => spN_len (fun ds d r => by cases r; rfl) h) (fun cdv A outer s H vs Q E hr h => ⟨_, (pss_cons (ps_set (i := 2) sc_amounts_of.nd rfl (by first | exact Or.inl rfl | exact Or.inr rfl) (pe_op op_rep (pe_lst (pa_cons pe_int pa_nil)) (C8.pe_gc rfl (T.int T.F.i_DESTINATIONS))))
      (pss_cons (ps_for PassesOwn.never rfl (RZ.pi_zipA (by rfl) (T.no T.F.b_zip) (pa_cons (pe_ix ix_tup (pv 0) pe_int (fun _ _ => rfl)) (pa_cons (pv 1) pa_nil))) (pg_tup (n := 2) rfl (pgs_cons (pg_tup (n := 2) rfl (pgs_cons (pg_name (i := 3) sc_amounts_of.nd rfl (by first | exact Or.inl rfl | exact Or.inr rfl)) (pgs_cons (pg_name (i := 4) sc_amounts_of.nd rfl (by first | exact Or.inl rfl | exact Or.inr rfl)) pgs_nil))) (pgs_cons (pg_name (i := 5) sc_amounts_of.nd rfl (by first | exact Or.inl rfl | exact Or.inr rfl)) pgs_nil))) (pss_one (ps_augS (pv 2) (pv 5) get_list (pv 3) ip_add set_list)))
      (pss_one (ps_ret (pv 2))))), ?_⟩)
  obtain ⟨ds, d, rs, rR, k⟩ := h
  cases rR with | mk b l hA =>
  obtain ⟨v, w, rfl, r1, r2⟩ := reps2 rs
  refine s_seq (s_asgN (K := K) (en_rep (n := 4) (en_lst (ea_cons ed_int ea_nil) (Nat.le_of_ble_eq_true rfl)) ed_int (Nat.le_of_ble_eq_true rfl) (by decide)) fun p vs H1 hp s1 h1 rp => s_seq ?_)
  have e := Reps.ints_eq (ns := [0, 0, 0, 0]) rp
  subst e
  refine s_zip (e := (·.amount)) hA.len hA.le (ea_cons (ed_op (ed_var rfl (r1.same s1)) ed_int (rd_ixT (n := 0) rfl rfl)) (ea_cons (ed_var rfl (r2.same s1)) ea_nil)) h1 (fun s _ d H' => ed_var rfl .int) fun v3 v4 v5 H2 b2 h2 => ?_
  refine ⟨.ref p, rfl, ?_⟩
  have e : (fun k => part (·.amount) k (b.streams.zip l)) = amt b l := funext (amt_part hA)
  rw [e] at h2
  exact k p _ H2 hp (but_same hp s1 b2) h2 fourV_rep
theorem sc_ashes_of : FnScope ["mill", "assignment", "found", "amount", "ash", "destination"] ["mill", "assignment"] (C8.fnScope (top 19)) := C8.fnScope_by (by decide +kernel)
theorem ok_ashes_of (T : Tx K mg) : C8.Cal P w K mg base 1 "ashes_of" (spN K R_ashes_of) [] := by
  obtain ⟨f, fd, h1, h2, h3, h4⟩ := T.F.d_ashes_of
  refine C8.cal0 (N := ["mill", "assignment", "found", "amount", "ash", "destination"]) (ps := ["mill", "assignment"]) ⟨h2, T.yes _ _ h1, h4⟩ (h2.binds h3 (fun _ _ _ _ _ _ us hl => match us, hl with | [_, _], _ => rfl)) .nil sc_ashes_of (fun vs H Q E h => spN_len (fun ds d r => by cases r; rfl) h) (fun cdv A outer s H vs Q E hr h => ⟨_, (pss_cons (ps_set (i := 2) sc_ashes_of.nd rfl (by first | exact Or.inl rfl | exact Or.inr rfl) (pe_op op_rep (pe_lst (pa_cons pe_int pa_nil)) (C8.pe_gc rfl (T.int T.F.i_DESTINATIONS))))
      (pss_cons (ps_for PassesOwn.never rfl (RZ.pi_zipA (by rfl) (T.no T.F.b_zip) (pa_cons (pe_ix ix_tup (pv 0) pe_int (fun _ _ => rfl)) (pa_cons (pv 1) pa_nil))) (pg_tup (n := 2) rfl (pgs_cons (pg_tup (n := 2) rfl (pgs_cons (pg_name (i := 3) sc_ashes_of.nd rfl (by first | exact Or.inl rfl | exact Or.inr rfl)) (pgs_cons (pg_name (i := 4) sc_ashes_of.nd rfl (by first | exact Or.inl rfl | exact Or.inr rfl)) pgs_nil))) (pgs_cons (pg_name (i := 5) sc_ashes_of.nd rfl (by first | exact Or.inl rfl | exact Or.inr rfl)) pgs_nil))) (pss_one (ps_augS (pv 2) (pv 5) get_list (pe_op op_mul (pv 3) (pv 4)) ip_add set_list)))
      (pss_one (ps_ret (pv 2))))), ?_⟩)
  obtain ⟨ds, d, rs, rR, k⟩ := h
  cases rR with | mk b l hA hS =>
  obtain ⟨v, w, rfl, r1, r2⟩ := reps2 rs
  refine s_seq (s_asgN (K := K) (en_rep (n := 4) (en_lst (ea_cons ed_int ea_nil) (Nat.le_of_ble_eq_true rfl)) ed_int (Nat.le_of_ble_eq_true rfl) (by decide)) fun p vs H1 hp s1 h1 rp => s_seq ?_)
  have e := Reps.ints_eq (ns := [0, 0, 0, 0]) rp
  subst e
  refine s_zip (e := fun s => s.amount * s.ash) hA.len hA.le (ea_cons (ed_op (ed_var rfl (r1.same s1)) ed_int (rd_ixT (n := 0) rfl rfl)) (ea_cons (ed_var rfl (r2.same s1)) ea_nil)) h1 (fun s hs d H' => ?_) fun v3 v4 v5 H2 b2 h2 => ?_
  · exact (ed_op (ed_var rfl .int) (ed_var rfl .int) (rd_I (cmul_l (hS.am s hs)))).is (by rw [Int.natCast_mul])
  refine ⟨.ref p, rfl, ?_⟩
  have e : (fun k => part (fun s => s.amount * s.ash) k (b.streams.zip l)) = ash b l := funext (ash_part hA)
  rw [e] at h2
  exact k p _ H2 hp (but_same hp s1 b2) h2 fourV_rep
theorem sc_margin_of : FnScope ["mill", "assignment", "flour", "ash_limit"] ["mill", "assignment", "flour"] (C8.fnScope (top 20)) := C8.fnScope_by (by decide +kernel)
theorem ok_margin_of (T : Tx K mg) (c_amounts_of : C8.Cal P w K mg base 1 "amounts_of" (spN K R_amounts_of) []) (c_ashes_of : C8.Cal P w K mg base 1 "ashes_of" (spN K R_ashes_of) []) : C8.Cal P w K mg base 2 "margin_of" (spD K R_margin_of) [] := by
  obtain ⟨f, fd, h1, h2, h3, h4⟩ := T.F.d_margin_of
  refine C8.cal0 (N := ["mill", "assignment", "flour", "ash_limit"]) (ps := ["mill", "assignment", "flour"]) ⟨h2, T.yes _ _ h1, h4⟩ (h2.binds h3 (fun _ _ _ _ _ _ us hl => match us, hl with | [_, _, _], _ => rfl)) .nil sc_margin_of (fun vs H Q E h => spD_len (fun ds d r => by cases r; rfl) h) (fun cdv A outer s H vs Q E hr h => ⟨_, (pss_cons (ps_set (i := 3) sc_margin_of.nd rfl (by first | exact Or.inl rfl | exact Or.inr rfl) (pe_ix ix_tup (pe_ix ix_tup (pe_ix ix_tup (pv 0) pe_int (fun _ _ => rfl)) (pv 2) (fun _ _ => rfl)) pe_int (fun _ _ => rfl)))
      (pss_one (ps_ret (pe_op op_sub (pe_op op_mul (pv 3) (pe_ix ix_list (C8.pe_c c_amounts_of hr (by decide) rfl (pa_cons (pv 0) (pa_cons (pv 1) pa_nil))) (pv 2) (fun _ _ => rfl))) (pe_ix ix_list (C8.pe_c c_ashes_of hr (by decide) rfl (pa_cons (pv 0) (pa_cons (pv 1) pa_nil))) (pv 2) (fun _ _ => rfl)))))), ?_⟩)
  obtain ⟨ds, d, rs, rR, k⟩ := h
  cases rR with | mk b l q hq hA hS =>
  obtain ⟨v, w, z, rfl, r1, r2, r3⟩ := reps3 rs
  refine s_seq (s_asg (K := K) (ed_op (ed_op (ed_op (ed_var rfl r1) ed_int (rd_ixT (n := 1) rfl rfl)) (ed_var rfl r3) (rd_ixT rfl (flos_get hS hq))) ed_int (rd_ixT (n := 0) rfl rfl)) fun x H1 s1 rx => ?_)
  refine s_ret (K := K) (ed_op (ed_op (ed_var rfl rx) (ed_op (en_call (ea_cons (ed_var rfl (r1.same s1)) (ea_cons (ed_var rfl (r2.same s1)) ea_nil)) (.mk b l hA)).toD (ed_var rfl (r3.same s1)) (rd_ixL rfl (four_get _ (by omega)))) (rd_I (cmul_l (lim_lt hS q)))) (ed_op (en_call (ea_cons (ed_var rfl (r1.same s1)) (ea_cons (ed_var rfl (r2.same s1)) ea_nil)) (.mk b l hA hS)).toD (ed_var rfl (r3.same s1)) (rd_ixL rfl (four_get _ (by omega)))) rd_I0) fun x H2 s2 r => k x H2 (s1.trans s2) r
theorem sc_is_feasible : FnScope ["mill", "assignment", "amounts", "ashes", "flour"] ["mill", "assignment"] (C8.fnScope (top 21)) := C8.fnScope_by (by decide +kernel)
theorem ok_is_feasible (T : Tx K mg) (c_amounts_of : C8.Cal P w K mg base 1 "amounts_of" (spN K R_amounts_of) []) (c_ashes_of : C8.Cal P w K mg base 1 "ashes_of" (spN K R_ashes_of) []) : C8.Cal P w K mg base 2 "is_feasible" (spD K R_is_feasible) [] := by
  obtain ⟨f, fd, h1, h2, h3, h4⟩ := T.F.d_is_feasible
  refine C8.cal0 (N := ["mill", "assignment", "amounts", "ashes", "flour"]) (ps := ["mill", "assignment"]) ⟨h2, T.yes _ _ h1, h4⟩ (h2.binds h3 (fun _ _ _ _ _ _ us hl => match us, hl with | [_, _], _ => rfl)) .nil sc_is_feasible (fun vs H Q E h => spD_len (fun ds d r => by cases r; rfl) h) (fun cdv A outer s H vs Q E hr h => ⟨_, (pss_cons (ps_asg (pe_tup (pa_cons (C8.pe_c c_amounts_of hr (by decide) rfl (pa_cons (pv 0) (pa_cons (pv 1) pa_nil))) (pa_cons (C8.pe_c c_ashes_of hr (by decide) rfl (pa_cons (pv 0) (pa_cons (pv 1) pa_nil))) pa_nil))) (pg_tup (n := 2) rfl (pgs_cons (pg_name (i := 2) sc_is_feasible.nd rfl (by first | exact Or.inl rfl | exact Or.inr rfl)) (pgs_cons (pg_name (i := 3) sc_is_feasible.nd rfl (by first | exact Or.inl rfl | exact Or.inr rfl)) pgs_nil))))
      (pss_one (ps_ret (pe_callB (cr_all rfl) (by rfl) (T.no T.F.b_all) (by decide +kernel) (pa_cons (pe_lc (own := [("flour", 4)]) rfl sc_is_feasible.nd (pi_range1 (by rfl) (T.no T.F.b_range) (pa_cons (C8.pe_gc rfl (T.int T.F.i_FLOURS)) pa_nil)) (blkOk_by (own := [("flour", 4)]) (N := ["mill", "assignment", "amounts", "ashes", "flour"]) (sc := C8.fnScope (top 21)) (by decide +kernel)) (fun _ _ _ _ _ => (pg_name (i := 4) sc_is_feasible.nd rfl (by first | exact Or.inl rfl | exact Or.inr rfl))) (fun _ _ _ _ _ => pts_nil) (fun _ _ _ _ _ => (pe_cmpR op_le (pe_ix (ix_listK (K := K) rfl) (pv 3) (pv 4) (fun _ _ => rfl)) (pe_op op_mul (pe_ix (ix_tupK (K := K) rfl) (pe_ix (ix_tupK (K := K) rfl) (pe_ix (ix_tupK (K := K) rfl) (pv 0) pe_int (fun _ _ => rfl)) (pv 4) (fun _ _ => rfl)) pe_int (fun _ _ => rfl)) (pe_ix (ix_listK (K := K) rfl) (pv 2) (pv 4) (fun _ _ => rfl))) (nomark _)))) pa_nil))))), ?_⟩)
  obtain ⟨ds, d, rs, rR, k⟩ := h
  cases rR with | mk b l hA hS =>
  obtain ⟨v, w, rfl, r1, r2⟩ := reps2 rs
  refine s_seq (s_unp (K := K) (l := [.lst (four (amt b l)), .lst (four (ash b l))]) (ed_tup (ea_cons (en_call (ea_cons (ed_var rfl r1) (ea_cons (ed_var rfl r2) ea_nil)) (.mk b l hA)).toD (ea_cons (en_call (ea_cons (ed_var rfl r1) (ea_cons (ed_var rfl r2) ea_nil)) (.mk b l hA hS)).toD ea_nil)) (Nat.le_of_ble_eq_true rfl)) rfl fun vs H1 s1 rv => ?_)
  obtain ⟨x, y, rfl, rx, ry⟩ := reps2 rv
  refine ⟨x, _, rfl, y, _, rfl, rfl, ?_⟩
  refine s_ret (K := K) (EvD.is (ed_cb (ea_cons (EvN.is (en_lcR (n := 3) (f := fun q => .bl (decide ((ash b l q : Int) ≤ (b.limits.getD q 0 : Int) * (amt b l q : Int)))) (ea_cons ed_int ea_nil) (by decide) (fun _ _ => stab_bl) fun q hq H2 s2 => ?_) ?_).toD ea_nil) (rc_all (bs := (List.range 3).map fun q => decide (ash b l q ≤ b.limits.getD q 0 * amt b l q)))) ?_) fun x H2 s2 r => k x H2 (s1.trans s2) r
  · exact ed_op (ed_op (ed_var rfl (ry.same s2)) (ed_var rfl .int) (rd_ixL rfl (four_get _ (by omega)))) (ed_op (ed_op (ed_op (ed_op (ed_var rfl (r1.same (s1.trans s2))) ed_int (rd_ixT (n := 1) rfl rfl)) (ed_var rfl .int) (rd_ixT rfl (flos_get hS hq))) ed_int (rd_ixT (n := 0) rfl rfl)) (ed_op (ed_var rfl (rx.same s2)) (ed_var rfl .int) (rd_ixL rfl (four_get _ (by omega)))) (rd_I (cmul_l (lim_lt hS q)))) rd_B0
  · rw [List.map_map]
    refine List.map_congr_left fun q _ => congrArg D.bl (decide_eq_decide.mpr ?_)
    rw [← Int.natCast_mul, Int.ofNat_le]
  · exact congrArg D.bl (by unfold Kp412.feasible Kp412.flourCount; rw [List.all_map]; rfl)
theorem sc_revenue_of : FnScope ["mill", "assignment", "amounts", "flour"] ["mill", "assignment"] (C8.fnScope (top 22)) := C8.fnScope_by (by decide +kernel)
theorem ok_revenue_of (T : Tx K mg) (c_amounts_of : C8.Cal P w K mg base 1 "amounts_of" (spN K R_amounts_of) []) : C8.Cal P w K mg base 2 "revenue_of" (spD K R_revenue_of) [] := by
  obtain ⟨f, fd, h1, h2, h3, h4⟩ := T.F.d_revenue_of
  refine C8.cal0 (N := ["mill", "assignment", "amounts", "flour"]) (ps := ["mill", "assignment"]) ⟨h2, T.yes _ _ h1, h4⟩ (h2.binds h3 (fun _ _ _ _ _ _ us hl => match us, hl with | [_, _], _ => rfl)) .nil sc_revenue_of (fun vs H Q E h => spD_len (fun ds d r => by cases r; rfl) h) (fun cdv A outer s H vs Q E hr h => ⟨_, (pss_cons (ps_set (i := 2) sc_revenue_of.nd rfl (by first | exact Or.inl rfl | exact Or.inr rfl) (C8.pe_c c_amounts_of hr (by decide) rfl (pa_cons (pv 0) (pa_cons (pv 1) pa_nil))))
      (pss_one (ps_ret (pe_op op_add (pe_callB (cr_sum rfl) (by rfl) (T.no T.F.b_sum) (by decide +kernel) (pa_cons (pe_lc (own := [("flour", 3)]) rfl sc_revenue_of.nd (pi_range1 (by rfl) (T.no T.F.b_range) (pa_cons (C8.pe_gc rfl (T.int T.F.i_FLOURS)) pa_nil)) (blkOk_by (own := [("flour", 3)]) (N := ["mill", "assignment", "amounts", "flour"]) (sc := C8.fnScope (top 22)) (by decide +kernel)) (fun _ _ _ _ _ => (pg_name (i := 3) sc_revenue_of.nd rfl (by first | exact Or.inl rfl | exact Or.inr rfl))) (fun _ _ _ _ _ => pts_nil) (fun _ _ _ _ _ => (pe_op op_mul (pe_ix (ix_tupK (K := K) rfl) (pe_ix (ix_tupK (K := K) rfl) (pe_ix (ix_tupK (K := K) rfl) (pv 0) pe_int (fun _ _ => rfl)) (pv 3) (fun _ _ => rfl)) pe_int (fun _ _ => rfl)) (pe_ix (ix_listK (K := K) rfl) (pv 2) (pv 3) (fun _ _ => rfl))))) pa_nil)) (pe_op op_mul (pe_ix ix_tup (pv 0) pe_int (fun _ _ => rfl)) (pe_ix ix_list (pv 2) (C8.pe_gc rfl (T.int T.F.i_FEED)) (fun _ _ => rfl))))))), ?_⟩)
  obtain ⟨ds, d, rs, rR, k⟩ := h
  cases rR with | mk b l hA hS =>
  obtain ⟨v, w, rfl, r1, r2⟩ := reps2 rs
  refine s_seq (s_asg (K := K) (en_call (ea_cons (ed_var rfl r1) (ea_cons (ed_var rfl r2) ea_nil)) (.mk b l hA)).toD fun x H1 s1 rx => ?_)
  refine s_ret (K := K) (EvD.is (ed_op (ed_cb (ea_cons (EvN.is (en_lcR (n := 3) (f := fun q => .int ((b.prices.getD q 0 : Int) * (amt b l q : Int))) (ea_cons ed_int ea_nil) (by decide) (fun _ _ => stab_int) fun q hq H2 s2 => ?_) ?_).toD ea_nil) (rc_sum (ns := (List.range 3).map fun q => ((b.prices.getD q 0 * amt b l q : Nat) : Int)))) (ed_op (ed_op (ed_var rfl (r1.same s1)) ed_int (rd_ixT (n := 2) rfl rfl)) (ed_op (ed_var rfl rx) ed_int (rd_ixL (n := 3) rfl (four_get _ (by decide)))) (rd_I (cmul_l hS.fe))) rd_I0) ?_) fun x H2 s2 r => k x H2 (s1.trans s2) r
  · exact ed_op (ed_op (ed_op (ed_op (ed_var rfl (r1.same (s1.trans s2))) ed_int (rd_ixT (n := 1) rfl rfl)) (ed_var rfl .int) (rd_ixT rfl (flos_get hS hq))) ed_int (rd_ixT (n := 1) rfl rfl)) (ed_op (ed_var rfl (rx.same s2)) (ed_var rfl .int) (rd_ixL rfl (four_get _ (by omega)))) (rd_I (cmul_l (pri_lt hS q)))
  · rw [List.map_map]
    exact List.map_congr_left fun q _ => congrArg D.int (Int.natCast_mul _ _).symm
  · refine congrArg D.int ?_
    unfold Kp412.revenue Kp412.flourCount
    rw [sum_cast, Int.natCast_add, Int.natCast_mul]
    rfl
theorem sc_fits : FnScope ["mill", "destinations", "one"] ["mill", "destinations"] (C8.fnScope (top 23)) := C8.fnScope_by (by decide +kernel)
theorem ok_fits (T : Tx K mg) : C8.Cal P w K mg base 1 "fits" (spD K R_fits) [] := by
  obtain ⟨f, fd, h1, h2, h3, h4⟩ := T.F.d_fits
  refine C8.cal0 (N := ["mill", "destinations", "one"]) (ps := ["mill", "destinations"]) ⟨h2, T.yes _ _ h1, h4⟩ (h2.binds h3 (fun _ _ _ _ _ _ us hl => match us, hl with | [_, _], _ => rfl)) .nil sc_fits (fun vs H Q E h => spD_len (fun ds d r => by cases r; rfl) h) (fun cdv A outer s H vs Q E hr h => ⟨_, (pss_one (ps_ret (pe_and (pe_cmpR op_eq (pe_callB call_len_seq (by rfl) (T.no T.F.b_len) (by decide +kernel) (pa_cons (pv 1) pa_nil)) (pe_callB call_len_seq (by rfl) (T.no T.F.b_len) (by decide +kernel) (pa_cons (pe_ix ix_tup (pv 0) pe_int (fun _ _ => rfl)) pa_nil)) (nomark _)) (pe_one (pe_callB (cr_all rfl) (by rfl) (T.no T.F.b_all) (by decide +kernel) (pa_cons (pe_lc (own := [("one", 2)]) rfl sc_fits.nd (pi_list (pv 1)) (blkOk_by (own := [("one", 2)]) (N := ["mill", "destinations", "one"]) (sc := C8.fnScope (top 23)) (by decide +kernel)) (fun _ _ _ _ _ => (pg_name (i := 2) sc_fits.nd rfl (by first | exact Or.inl rfl | exact Or.inr rfl))) (fun _ _ _ _ _ => pts_nil) (fun _ _ _ _ _ => (pe_cmpR op_lt (pv 2) (C8.pe_gc rfl (T.int T.F.i_DESTINATIONS)) (nomark _)))) pa_nil)))))), ?_⟩)
  obtain ⟨ds, d, rs, rR, k⟩ := h
  cases rR with | mk b l hl =>
  obtain ⟨v, w, rfl, r1, r2⟩ := reps2 rs
  refine s_ret (K := K) (EvD.is (ed_andV (ed_op (ed_cb (ea_cons (ed_var rfl r2) ea_nil) rc_lenL) (ed_cb (ea_cons (ed_op (ed_var rfl r1) ed_int (rd_ixT (n := 0) rfl rfl)) ea_nil) rc_lenT) rd_eq) fun _ => ed_cb (ea_cons (EvN.is (en_lc1 (g := natD) (f := fun n : Nat => .bl (decide ((n : Int) < 4))) (ed_var rfl r2) (by omega) (fun _ _ => stab_bl) fun n _ v H1 s1 rv => ?_) ?_).toD ea_nil) (rc_all (bs := l.map fun n => decide (n ≤ 3)))) ?_) k
  · exact ed_op (ed_var rfl rv) ed_int rd_B0
  · rw [List.map_map]
    exact List.map_congr_left fun n _ => congrArg D.bl (decide_eq_decide.mpr (by omega))
  · refine congrArg D.bl ?_
    unfold Kp412.validAssignment Kp412.feedDestination
    rw [List.length_map, List.length_map, List.all_map]
    exact congrArg (· && _) (decide_eq_decide.mpr Int.ofNat_inj)
end
end Fa
/-! Plain laws: all assignments in order, the first best one. -/
namespace Fa
open Kp412 (Stream Blender)
def grow (l : List Nat) : List (List Nat) := (List.range 4).map fun x => l ++ [x]
theorem grow_len (ls : List (List Nat)) : (ls.flatMap grow).length = 4 * ls.length := by
  induction ls with
  | nil => rfl
  | cons l ls ih => rw [List.flatMap_cons, List.length_append, ih, List.length_cons]; simp [grow]; omega
theorem all_snoc : ∀ n : Nat, Kp412.allAssignments (n + 1) = (Kp412.allAssignments n).flatMap grow
  | 0 => by decide
  | n + 1 => by
    show (List.range 4).flatMap (fun x => (Kp412.allAssignments (n + 1)).map fun rest => x :: rest) = ((List.range 4).flatMap fun x => (Kp412.allAssignments n).map fun rest => x :: rest).flatMap grow
    rw [List.flatMap_assoc]
    congr 1
    funext x
    rw [all_snoc n, List.map_flatMap, List.flatMap_map]
    congr 1
theorem all_len : ∀ n : Nat, (Kp412.allAssignments n).length = 4 ^ n
  | 0 => rfl
  | n + 1 => by rw [all_snoc, grow_len, all_len n, Nat.pow_succ]; omega
theorem all_len_le {n : Nat} (h : n ≤ 6) : (Kp412.allAssignments n).length ≤ 4096 := by
  rw [all_len]
  exact Nat.pow_le_pow_right (by decide : 0 < 4) h
theorem mem_all : ∀ {n : Nat} {l : List Nat}, l ∈ Kp412.allAssignments n → l.length = n ∧ ∀ x ∈ l, x ≤ 3
  | 0, l, h => by
    have : l = [] := by simpa [Kp412.allAssignments] using h
    subst this
    exact ⟨rfl, fun x hx => by simp at hx⟩
  | n + 1, l, h => by
    have h' : l ∈ (List.range 4).flatMap (fun x => (Kp412.allAssignments n).map fun rest => x :: rest) := h
    obtain ⟨x, hx, h2⟩ := List.mem_flatMap.mp h'
    obtain ⟨r, hr, rfl⟩ := List.mem_map.mp h2
    obtain ⟨h3, h4⟩ := mem_all hr
    refine ⟨by rw [List.length_cons, h3], fun y hy => ?_⟩
    rcases List.mem_cons.mp hy with rfl | hy
    · exact Nat.le_of_lt_succ (List.mem_range.mp hx)
    · exact h4 y hy
theorem as_mem {b : Blender} {l : List Nat} (h : l ∈ Kp412.allAssignments b.streams.length) : As b l := ⟨(mem_all h).1, (mem_all h).2⟩
theorem as_fea {b : Blender} {l : List Nat} (h : l ∈ Kp412.feasibleAssignments b) : As b l := as_mem (List.mem_filter.mp h).1
theorem mem_all_of : ∀ {n : Nat} {l : List Nat}, l.length = n → (∀ x ∈ l, x ≤ 3) → l ∈ Kp412.allAssignments n
  | 0, l, h, _ => by
    have : l = [] := List.length_eq_zero_iff.mp h
    subst this
    simp [Kp412.allAssignments]
  | n + 1, [], h, _ => by simp at h
  | n + 1, x :: r, h, h2 => by
    show x :: r ∈ (List.range 4).flatMap (fun x => (Kp412.allAssignments n).map fun rest => x :: rest)
    refine List.mem_flatMap.mpr ⟨x, List.mem_range.mpr (Nat.lt_succ_of_le (h2 x (List.mem_cons_self ..))), List.mem_map.mpr ⟨r, mem_all_of (by simpa using h) (fun y hy => h2 y (List.mem_cons_of_mem _ hy)), rfl⟩⟩
theorem fea_len_le {b : Blender} (s : Sm b) : (Kp412.feasibleAssignments b).length ≤ 4096 := Nat.le_trans (List.length_filter_le _ _) (all_len_le s.ns)

theorem stab_pair (p : Nat × List Nat) : Stab (pairD p) := stab_tup fun d h => by
  simp only [List.mem_cons, List.not_mem_nil, or_false] at h
  rcases h with rfl | rfl
  · exact stab_int
  · exact stab_asg _
/-! the first best one -/
def hstep (value : List Nat → Nat) (best : Option (List Nat)) (a : List Nat) : Option (List Nat) := match best with
  | none => some a
  | some c => if value c < value a then some a else best
theorem highest_eq (b : Blender) (value : List Nat → Nat) : Kp412.highest b value = (Kp412.feasibleAssignments b).foldl (hstep value) none := rfl
theorem fold_first (value : List Nat → Nat) : ∀ (ls : List (List Nat)) (c : List Nat), ∃ l, ls.foldl (hstep value) (some c) = some l ∧ firstGreatest (value c, c) (ls.map fun l => (value l, l)) = (value l, l) ∧ (l = c ∨ l ∈ ls)
  | [], c => ⟨c, rfl, rfl, .inl rfl⟩
  | a :: ls, c => by
    rw [List.foldl_cons, List.map_cons]
    show ∃ l, ls.foldl (hstep value) (if value c < value a then some a else some c) = some l ∧ firstGreatest (if value c < value a then (value a, a) else (value c, c)) (ls.map fun l => (value l, l)) = (value l, l) ∧ _
    by_cases h : value c < value a
    · rw [if_pos h, if_pos h]
      obtain ⟨l, h1, h2, h3⟩ := fold_first value ls a
      exact ⟨l, h1, h2, .inr (by rcases h3 with rfl | h3; exact List.mem_cons_self ..; exact List.mem_cons_of_mem _ h3)⟩
    · rw [if_neg h, if_neg h]
      obtain ⟨l, h1, h2, h3⟩ := fold_first value ls c
      exact ⟨l, h1, h2, by rcases h3 with rfl | h3; exact .inl rfl; exact .inr (List.mem_cons_of_mem _ h3)⟩
/-- of the feasible ones in order -/
theorem highest_first {b : Blender} {value : List Nat → Nat} {l : List Nat} (h : Kp412.highest b value = some l) : ∃ l0 ls, Kp412.feasibleAssignments b = l0 :: ls ∧ firstGreatest (value l0, l0) (ls.map fun l => (value l, l)) = (value l, l) ∧ l ∈ Kp412.feasibleAssignments b := by
  rw [highest_eq] at h
  cases e : Kp412.feasibleAssignments b with
  | nil => rw [e] at h; cases h
  | cons l0 ls =>
    rw [e] at h
    obtain ⟨l', h1, h2, h3⟩ := fold_first value ls l0
    have h' : ls.foldl (hstep value) (some l0) = some l := h
    rw [h1] at h'
    cases h'
    refine ⟨l0, ls, rfl, h2, ?_⟩
    rcases h3 with rfl | h3
    · exact List.mem_cons_self ..
    · exact List.mem_cons_of_mem _ h3
theorem first_self (p : Nat × List Nat) (r : List (Nat × List Nat)) : (p :: r).foldl (fun f x => if f.1 < x.1 then x else f) p = firstGreatest p r := by
  rw [List.foldl_cons, if_neg (Nat.lt_irrefl _)]
  rfl
theorem highest_some {b : Blender} {l : List Nat} (h : l ∈ Kp412.feasibleAssignments b) (value : List Nat → Nat) : ∃ m, Kp412.highest b value = some m := by
  rw [highest_eq]
  cases e : Kp412.feasibleAssignments b with
  | nil => rw [e] at h; simp at h
  | cons l0 ls =>
    obtain ⟨l', h1, _⟩ := fold_first value ls l0
    exact ⟨l', h1⟩
end Fa
namespace Fa
open PySem PySem.Spec PyProof.Rows L2
open Kp412 (Stream Blender)
section
variable {P : Program} {w : World} {K : PySem.W.Frag} {mg : Str → Option Value} {base : Heap} {C CD : Addr}
local macro_rules | `(tactic| walk_at "fa_rd") => `(tactic| first
  | exact rd_I0 | exact rd_B0 | exact rd_eq
  | exact rd_ixT (n := 0) rfl rfl | exact rd_ixT (n := 1) rfl rfl | exact rd_ixT (n := 2) rfl rfl
  | exact rd_ixL (n := 0) rfl rfl | exact rd_ixL (n := 1) rfl rfl | exact rd_ixL (n := 2) rfl rfl
  | exact rd_catA (by simp) )
local macro_rules | `(tactic| walk_at "fa_ev") => `(tactic| first
  | exact ed_int | exact ed_bl
  | (refine ed_var rfl ?_; assumption)
  | (refine ed_op ?_ ?_ ?_; focus walk_at "fa_ev"; focus walk_at "fa_ev"; focus walk_at "fa_rd")
  | (refine ed_cb ?_ ?_; focus walk_at "fa_ea"; focus (first | exact rc_lenT | exact rc_lenL))
  | (refine ed_tup ?_ ?_; focus walk_at "fa_ea"; focus (simp; done)))
local macro_rules | `(tactic| walk_at "fa_ea") => `(tactic| first
  | exact ea_nil
  | (refine ea_cons ?_ ?_; focus walk_at "fa_ev"; focus walk_at "fa_ea"))

theorem sc_longer : FnScope ["rows", "found", "row", "destination"] ["rows"] (C8.fnScope (top 34)) := C8.fnScope_by (by decide +kernel)
theorem ok_longer (T : Tx K mg) : C8.Cal P w K mg base 1 "longer" (spN K R_longer) [] := by
  obtain ⟨f, fd, h1, h2, h3, h4⟩ := T.F.d_longer
  refine C8.cal0 (N := ["rows", "found", "row", "destination"]) (ps := ["rows"]) ⟨h2, T.yes _ _ h1, h4⟩ (h2.binds h3 (fun _ _ _ _ _ _ us hl => match us, hl with | [_], _ => rfl)) .nil sc_longer (fun vs H Q E h => spN_len (fun ds d r => by cases r; rfl) h) (fun cdv A outer s H vs Q E hr h => ⟨_, (pss_cons (ps_set (i := 1) sc_longer.nd rfl (by first | exact Or.inl rfl | exact Or.inr rfl) (pe_lst pa_nil))
      (pss_cons (ps_for PassesOwn.never rfl (pi_list (pv 0)) (pg_name (i := 2) sc_longer.nd rfl (by first | exact Or.inl rfl | exact Or.inr rfl)) (pss_one (ps_expr (pe_bm PySem.F.plainAttrs_list PySem.F.slot_list_extend PySem.F.type_list_extend mt_extend (pv 1) (pa_cons (pe_lc (own := [("destination", 3)]) rfl sc_longer.nd (pi_range1 (by rfl) (T.no T.F.b_range) (pa_cons (C8.pe_gc rfl (T.int T.F.i_DESTINATIONS)) pa_nil)) (blkOk_by (own := [("destination", 3)]) (N := ["rows", "found", "row", "destination"]) (sc := C8.fnScope (top 34)) (by decide +kernel)) (fun _ _ _ _ _ => (pg_name (i := 3) sc_longer.nd rfl (by first | exact Or.inl rfl | exact Or.inr rfl))) (fun _ _ _ _ _ => pts_nil) (fun _ _ _ _ _ => (pe_op (op_catAK (K := K) rfl) (pv 2) (pe_tup (pa_cons (pv 3) pa_nil))))) pa_nil)))))
      (pss_one (ps_ret (pv 1))))), ?_⟩)
  obtain ⟨ds, d, rs, rR, k⟩ := h
  cases rR with | mk ls hz hz2 =>
  obtain ⟨v, rfl, r1⟩ := reps1 rs
  cases r1 with
  | lst sq rr =>
  refine s_seq (s_asgN (K := K) (en_lst ea_nil (Nat.le_of_ble_eq_true rfl)) fun p vs0 H1 hp s1 h1 rp => s_seq ?_)
  cases rp
  refine s_forV (K := K) (i0 := 0) (xs := ls) (g := asgD) rfl (s1.seq sq) rr (fun i σ' H' => ∃ ws v2 v3, σ' = [some (.ref _), some (.ref p), v2, v3] ∧ Same H H' ∧ H' p = some (.lst ws) ∧ Reps K H' (((ls.take i).flatMap grow).map asgD) ws) ⟨[], none, none, rfl, s1, h1, .nil⟩ (fun i σ' H' ⟨_, _, _, _, s2, _⟩ => s2.seq sq) ?_ ?_
  · rintro i l x σ' H' hl ⟨ws, v2, v3, rfl, s2, hw, rw'⟩ rx
    have hlen : ws.length = 4 * (ls.take i).length := by rw [rw'.length, List.length_map, grow_len]
    rw [List.length_take] at hlen
    have hlm : l ∈ ls := List.mem_of_getElem? hl
    have rx' : Rep K H' (asgD l) x := rx.same s2
    refine s_extN (K := K) (i := 1) (ys := (grow l).map asgD) rfl hw (EvN.is (en_lcR (n := 4) (f := fun x => asgD (l ++ [x])) (ea_cons ed_int ea_nil) (by decide) (fun _ _ => stab_asg _) fun q hq H3 s3 => ?_) ?_) ?_ fun us H3 s3 ru => ?_
    · refine (ed_op (ed_var rfl (rx'.same s3)) (ed_tup (ea_cons (ed_var rfl .int) ea_nil) (Nat.le_of_ble_eq_true rfl)) (rd_catA ?_)).is ?_
      · rw [List.length_map]; exact Nat.le_trans (Nat.add_le_add_right (hz2 l hlm) 1) (by decide)
      · unfold asgD; rw [List.map_append]; rfl
    · unfold grow; rw [List.map_map]; rfl
    · rw [List.length_map]
      have : (grow l).length = 4 := by simp [grow]
      omega
    · have k1 := keepT_lst (ws := ws ++ us) (s3 _ _ hw)
      refine ⟨ws ++ us, some x, v3, rfl, same_mut (s2.trans s3) hp, upd_same, ?_⟩
      rw [take_snoc hl, List.flatMap_append, List.map_append, List.flatMap_singleton]
      refine Reps.append (reps_keep ?_ k1 (rw'.same s3)) (reps_keep ?_ k1 ru)
      · intro d hd; obtain ⟨z, _, rfl⟩ := List.mem_map.mp hd; exact stab_asg z
      · intro d hd; obtain ⟨z, _, rfl⟩ := List.mem_map.mp hd; exact stab_asg z
  · rintro σ' H' ⟨ws, v2, v3, rfl, s2, hw, rw'⟩
    rw [List.take_length] at rw'
    exact ⟨.ref p, rfl, k p ws H' hp s2 hw rw'⟩
theorem sc_all_assignments : FnScope ["many", "found", "stream"] ["many"] (C8.fnScope (top 35)) := C8.fnScope_by (by decide +kernel)
theorem ok_all_assignments (T : Tx K mg) (c_longer : C8.Cal P w K mg base 1 "longer" (spN K R_longer) []) : C8.Cal P w K mg base 2 "all_assignments" (spN K R_all_assignments) [] := by
  obtain ⟨f, fd, h1, h2, h3, h4⟩ := T.F.d_all_assignments
  refine C8.cal0 (N := ["many", "found", "stream"]) (ps := ["many"]) ⟨h2, T.yes _ _ h1, h4⟩ (h2.binds h3 (fun _ _ _ _ _ _ us hl => match us, hl with | [_], _ => rfl)) .nil sc_all_assignments (fun vs H Q E h => spN_len (fun ds d r => by cases r; rfl) h) (fun cdv A outer s H vs Q E hr h => ⟨_, (pss_cons (ps_set (i := 1) sc_all_assignments.nd rfl (by first | exact Or.inl rfl | exact Or.inr rfl) (pe_lst (pa_cons (pe_tup pa_nil) pa_nil)))
      (pss_cons (ps_for PassesOwn.never rfl (pi_range1 (by rfl) (T.no T.F.b_range) (pa_cons (pv 0) pa_nil)) (pg_name (i := 2) sc_all_assignments.nd rfl (by first | exact Or.inl rfl | exact Or.inr rfl)) (pss_one (ps_set (i := 1) sc_all_assignments.nd rfl (by first | exact Or.inl rfl | exact Or.inr rfl) (C8.pe_c c_longer hr (by decide) rfl (pa_cons (pv 1) pa_nil)))))
      (pss_one (ps_ret (pv 1))))), ?_⟩)
  obtain ⟨ds, d, rs, rR, k⟩ := h
  cases rR with | mk n hn =>
  obtain ⟨v, rfl, r1⟩ := reps1 rs
  refine s_seq (s_asgN (K := K) (en_lst (ea_cons (ed_tup ea_nil (Nat.le_of_ble_eq_true rfl)) ea_nil) (Nat.le_of_ble_eq_true rfl)) fun p vs0 H1 hp s1 h1 rp => s_seq ?_)
  refine s_forR (K := K) (n := n) (ea_cons (ed_var rfl (r1.same s1)) ea_nil) (by omega) (fun i σ' H' => ∃ p ws v2, σ' = [some v, some (.ref p), v2] ∧ H p = none ∧ Same H H' ∧ H' p = some (.lst ws) ∧ Reps K H' ((Kp412.allAssignments i).map asgD) ws) (fun H2 s2 => ⟨p, vs0, none, rfl, hp, s1.trans s2, s2 _ _ h1, rp.same s2⟩) ?_ ?_
  · rintro i σ' H' hi ⟨p, ws, v2, rfl, hp, s2, hw, rw'⟩
    refine s_asgN (K := K) (en_call (ea_cons (ed_var rfl (.lst (sq_of hw) rw')) ea_nil) (.mk (Kp412.allAssignments i) ?_ ?_)) fun p' ws' H3 hp' s3 h3 r3 => ?_
    · exact Nat.le_trans (all_len_le (by omega : i ≤ 6)) (by decide)
    · intro l hl; rw [(mem_all hl).1]; omega
    · exact ⟨p', ws', _, rfl, s2.free hp', s2.trans s3, h3, by rw [all_snoc]; exact r3⟩
  · rintro σ' H' ⟨p, ws, v2, rfl, hp, s2, hw, rw'⟩
    exact ⟨.ref p, rfl, k p ws H' hp s2 hw rw'⟩
theorem sc_feasible_ones : FnScope ["mill", "assignment"] ["mill"] (C8.fnScope (top 36)) := C8.fnScope_by (by decide +kernel)
theorem ok_feasible_ones (T : Tx K mg) (c_all_assignments : C8.Cal P w K mg base 2 "all_assignments" (spN K R_all_assignments) []) (c_is_feasible : C8.Cal P w K mg base 2 "is_feasible" (spD K R_is_feasible) []) : C8.Cal P w K mg base 3 "feasible_ones" (spN K R_feasible_ones) [] := by
  obtain ⟨f, fd, h1, h2, h3, h4⟩ := T.F.d_feasible_ones
  refine C8.cal0 (N := ["mill", "assignment"]) (ps := ["mill"]) ⟨h2, T.yes _ _ h1, h4⟩ (h2.binds h3 (fun _ _ _ _ _ _ us hl => match us, hl with | [_], _ => rfl)) .nil sc_feasible_ones (fun vs H Q E h => spN_len (fun ds d r => by cases r; rfl) h) (fun cdv A outer s H vs Q E hr h => ⟨_, (pss_one (ps_ret (pe_lc (own := [("assignment", 1)]) rfl sc_feasible_ones.nd (pi_list (C8.pe_c c_all_assignments hr (by decide) rfl (pa_cons (pe_callB call_len_seq (by rfl) (T.no T.F.b_len) (by decide +kernel) (pa_cons (pe_ix ix_tup (pv 0) pe_int (fun _ _ => rfl)) pa_nil)) pa_nil))) (blkOk_by (own := [("assignment", 1)]) (N := ["mill", "assignment"]) (sc := C8.fnScope (top 36)) (by decide +kernel)) (fun _ _ _ _ _ => (pg_name (i := 1) sc_feasible_ones.nd rfl (by first | exact Or.inl rfl | exact Or.inr rfl))) (fun _ _ _ _ _ => (pts_one (pt_val (C8.pe_c c_is_feasible hr (by decide) rfl (pa_cons (pv 0) (pa_cons (pv 1) pa_nil)))))) (fun _ _ _ _ _ => (pv 1))))), ?_⟩)
  obtain ⟨ds, d, rs, rR, k⟩ := h
  cases rR with | mk b hS =>
  obtain ⟨v, rfl, r1⟩ := reps1 rs
  refine s_retN (K := K) (en_lc (xs := Kp412.allAssignments b.streams.length) (g := asgD) (f := asgD) (p := Kp412.feasible b) ?_ ?_ (fun l _ => stab_asg l) fun l hl x H1 s1 rx => ⟨?_, fun _ => ed_var rfl rx⟩) k
  · exact (en_call (ea_cons ((ed_cb (ea_cons (ed_op (ed_var rfl r1) ed_int (rd_ixT (n := 0) rfl rfl)) ea_nil) rc_lenT).is (by rw [List.length_map])) ea_nil) (.mk _ hS.ns)).toD
  · exact Nat.le_trans (all_len_le hS.ns) (by decide)
  · exact et_B (ed_call (ea_cons (ed_var rfl (r1.same s1)) (ea_cons (ed_var rfl rx) ea_nil)) (.mk b l (as_mem hl) hS))
theorem sc_first_greatest : FnScope ["rows", "found", "row"] ["rows"] (C8.fnScope (top 37)) := C8.fnScope_by (by decide +kernel)
theorem ok_first_greatest (T : Tx K mg) : C8.Cal P w K mg base 1 "first_greatest" (spD K R_first_greatest) [] := by
  obtain ⟨f, fd, h1, h2, h3, h4⟩ := T.F.d_first_greatest
  refine C8.cal0 (N := ["rows", "found", "row"]) (ps := ["rows"]) ⟨h2, T.yes _ _ h1, h4⟩ (h2.binds h3 (fun _ _ _ _ _ _ us hl => match us, hl with | [_], _ => rfl)) .nil sc_first_greatest (fun vs H Q E h => spD_len (fun ds d r => by cases r; rfl) h) (fun cdv A outer s H vs Q E hr h => ⟨_, (pss_cons (ps_set (i := 1) sc_first_greatest.nd rfl (by first | exact Or.inl rfl | exact Or.inr rfl) (pe_ix ix_list (pv 0) pe_int (fun _ _ => rfl)))
      (pss_cons (ps_for PassesOwn.never rfl (pi_list (pv 0)) (pg_name (i := 2) sc_first_greatest.nd rfl (by first | exact Or.inl rfl | exact Or.inr rfl)) (pss_one (ps_if (pt_cmpR op_gt (pe_ix ix_tup (pv 2) pe_int (fun _ _ => rfl)) (pe_ix ix_tup (pv 1) pe_int (fun _ _ => rfl)) (nomark _)) (pss_one (ps_set (i := 1) sc_first_greatest.nd rfl (by first | exact Or.inl rfl | exact Or.inr rfl) (pv 2))) pss_nil)))
      (pss_one (ps_ret (pv 1))))), ?_⟩)
  obtain ⟨ds, d, rs, rR, k⟩ := h
  cases rR with | mk p r =>
  obtain ⟨v, rfl, r1⟩ := reps1 rs
  refine s_seq (s_asg (K := K) (ed_op (ed_var rfl r1) ed_int (rd_ixL (n := 0) rfl rfl)) fun vf H1 s1 rf => s_seq ?_)
  refine s_forL (K := K) (xs := p :: r) (g := pairD) (ed_var rfl (r1.same s1)) (fun H2 i σ' H' => Same H2 H' ∧ ∃ vf v2, σ' = [some v, some vf, v2] ∧ Rep K H' (pairD (((p :: r).take i).foldl (fun f x => if f.1 < x.1 then x else f) p)) vf) (fun H2 s2 => ⟨.refl _, vf, none, rfl, rf.same s2⟩) (fun _ _ _ _ h => h.1) ?_ ?_
  · rintro H2 s2 i x y σ' H' hx ⟨s3, vf, v2, rfl, rf⟩ ry
    rw [take_snoc hx, List.foldl_append]
    refine s_if (et_test (ed_op (ed_op (ed_var rfl ry) ed_int (rd_ixT (n := 0) rfl rfl)) (ed_op (ed_var rfl rf) ed_int (rd_ixT (n := 0) rfl rfl)) rd_B0)) (fun hb H3 s4 => ?_) (fun hb H3 s4 => ?_)
    · refine s_asg (K := K) (ed_var rfl (ry.same s4)) fun y' H4 s5 ry' => ⟨s3.trans (s4.trans s5), y', some y, rfl, ?_⟩
      have hlt := of_decide_eq_true hb
      rw [List.foldl_cons, List.foldl_nil, if_pos (by omega)]
      exact ry'
    · refine ⟨s3.trans s4, vf, some y, rfl, ?_⟩
      have hlt := of_decide_eq_false hb
      rw [List.foldl_cons, List.foldl_nil, if_neg (by omega)]
      exact rf.same s4
  · rintro H2 s2 σ' H' ⟨s3, vf, v2, rfl, rf⟩
    rw [List.take_length, first_self] at rf
    exact ⟨vf, rfl, k vf H' (s1.trans (s2.trans s3)) rf⟩
theorem sc_best_of : FnScope ["mill", "assignment"] ["mill"] (C8.fnScope (top 38)) := C8.fnScope_by (by decide +kernel)
theorem ok_best_of (T : Tx K mg) (c_first_greatest : C8.Cal P w K mg base 1 "first_greatest" (spD K R_first_greatest) []) (c_feasible_ones : C8.Cal P w K mg base 3 "feasible_ones" (spN K R_feasible_ones) []) (c_revenue_of : C8.Cal P w K mg base 2 "revenue_of" (spD K R_revenue_of) []) : C8.Cal P w K mg base 4 "best_of" (spD K R_best_of) [] := by
  obtain ⟨f, fd, h1, h2, h3, h4⟩ := T.F.d_best_of
  refine C8.cal0 (N := ["mill", "assignment"]) (ps := ["mill"]) ⟨h2, T.yes _ _ h1, h4⟩ (h2.binds h3 (fun _ _ _ _ _ _ us hl => match us, hl with | [_], _ => rfl)) .nil sc_best_of (fun vs H Q E h => spD_len (fun ds d r => by cases r; rfl) h) (fun cdv A outer s H vs Q E hr h => ⟨_, (pss_one (ps_ret (C8.pe_c c_first_greatest hr (by decide) rfl (pa_cons (pe_lc (own := [("assignment", 1)]) rfl sc_best_of.nd (pi_list (C8.pe_c c_feasible_ones hr (by decide) rfl (pa_cons (pv 0) pa_nil))) (blkOk_by (own := [("assignment", 1)]) (N := ["mill", "assignment"]) (sc := C8.fnScope (top 38)) (by decide +kernel)) (fun _ _ _ _ _ => (pg_name (i := 1) sc_best_of.nd rfl (by first | exact Or.inl rfl | exact Or.inr rfl))) (fun _ _ _ _ _ => pts_nil) (fun _ _ _ _ _ => (pe_tup (pa_cons (C8.pe_c c_revenue_of hr (by decide) rfl (pa_cons (pv 0) (pa_cons (pv 1) pa_nil))) (pa_cons (pv 1) pa_nil))))) pa_nil)))), ?_⟩)
  obtain ⟨ds, d, rs, rR, k⟩ := h
  cases rR with | mk b hS l hl =>
  obtain ⟨v, rfl, r1⟩ := reps1 rs
  obtain ⟨l0, ls, e, e2, hm⟩ := highest_first hl
  rw [← e2] at k
  refine s_ret (K := K) (ed_call (ea_cons (EvN.is (en_lc1 (xs := Kp412.feasibleAssignments b) (g := asgD) (f := fun l => pairD (Kp412.revenue b l, l)) (en_call (ea_cons (ed_var rfl r1) ea_nil) (.mk b hS)).toD (Nat.le_trans (fea_len_le hS) (by decide)) (fun l _ => stab_pair _) fun l hl x H1 s1 rx => ?_) ?_).toD ea_nil) (.mk (Kp412.revenue b l0, l0) (ls.map fun l => (Kp412.revenue b l, l)))) k
  · exact ed_tup (ea_cons (ed_call (ea_cons (ed_var rfl (r1.same s1)) (ea_cons (ed_var rfl rx) ea_nil)) (.mk b l (as_fea hl) hS)) (ea_cons (ed_var rfl rx) ea_nil)) (Nat.le_of_ble_eq_true rfl)
  · rw [e, List.map_cons, List.map_cons, List.map_map]; rfl
theorem sc_most_first_flour : FnScope ["mill", "some", "assignment"] ["mill"] (C8.fnScope (top 39)) := C8.fnScope_by (by decide +kernel)
theorem ok_most_first_flour (T : Tx K mg) (c_first_greatest : C8.Cal P w K mg base 1 "first_greatest" (spD K R_first_greatest) []) (c_feasible_ones : C8.Cal P w K mg base 3 "feasible_ones" (spN K R_feasible_ones) []) (c_amounts_of : C8.Cal P w K mg base 1 "amounts_of" (spN K R_amounts_of) []) : C8.Cal P w K mg base 4 "most_first_flour" (spD K R_most_first_flour) [] := by
  obtain ⟨f, fd, h1, h2, h3, h4⟩ := T.F.d_most_first_flour
  refine C8.cal0 (N := ["mill", "some", "assignment"]) (ps := ["mill"]) ⟨h2, T.yes _ _ h1, h4⟩ (h2.binds h3 (fun _ _ _ _ _ _ us hl => match us, hl with | [_], _ => rfl)) .nil sc_most_first_flour (fun vs H Q E h => spD_len (fun ds d r => by cases r; rfl) h) (fun cdv A outer s H vs Q E hr h => ⟨_, (pss_cons (ps_set (i := 1) sc_most_first_flour.nd rfl (by first | exact Or.inl rfl | exact Or.inr rfl) (C8.pe_c c_feasible_ones hr (by decide) rfl (pa_cons (pv 0) pa_nil)))
      (pss_one (ps_ret (C8.pe_c c_first_greatest hr (by decide) rfl (pa_cons (pe_lc (own := [("assignment", 2)]) rfl sc_most_first_flour.nd (pi_list (pv 1)) (blkOk_by (own := [("assignment", 2)]) (N := ["mill", "some", "assignment"]) (sc := C8.fnScope (top 39)) (by decide +kernel)) (fun _ _ _ _ _ => (pg_name (i := 2) sc_most_first_flour.nd rfl (by first | exact Or.inl rfl | exact Or.inr rfl))) (fun _ _ _ _ _ => pts_nil) (fun _ _ _ _ _ => (pe_tup (pa_cons (pe_ix (ix_listK (K := K) rfl) (C8.pe_c c_amounts_of hr (by decide) rfl (pa_cons (pv 0) (pa_cons (pv 2) pa_nil))) (C8.pe_gc rfl (T.int T.F.i_FIRST_FLOUR)) (fun _ _ => rfl)) (pa_cons (pv 2) pa_nil))))) pa_nil))))), ?_⟩)
  obtain ⟨ds, d, rs, rR, k⟩ := h
  cases rR with | mk b hS l hl =>
  obtain ⟨v, rfl, r1⟩ := reps1 rs
  obtain ⟨l0, ls, e, e2, hm⟩ := highest_first hl
  rw [← e2] at k
  refine s_seq (s_asg (K := K) (en_call (ea_cons (ed_var rfl r1) ea_nil) (.mk b hS)).toD fun y H1 s1 ry => ?_)
  refine s_ret (K := K) (ed_call (ea_cons (EvN.is (en_lc1 (xs := Kp412.feasibleAssignments b) (g := asgD) (f := fun l => pairD (Kp412.firstFlourAmount b l, l)) (ed_var rfl ry) (Nat.le_trans (fea_len_le hS) (by decide)) (fun l _ => stab_pair _) fun l hl x H2 s2 rx => ?_) ?_).toD ea_nil) (.mk (Kp412.firstFlourAmount b l0, l0) (ls.map fun l => (Kp412.firstFlourAmount b l, l)))) fun x H2 s2 r => k x H2 (s1.trans s2) r
  · exact ed_tup (ea_cons (ed_op (en_call (ea_cons (ed_var rfl (r1.same (s1.trans s2))) (ea_cons (ed_var rfl rx) ea_nil)) (.mk b l (as_fea hl))).toD ed_int (rd_ixL (n := 0) rfl rfl)) (ea_cons (ed_var rfl rx) ea_nil)) (Nat.le_of_ble_eq_true rfl)
  · rw [e, List.map_cons, List.map_cons, List.map_map]; rfl
end
end Fa
/-! Plain laws: fractions, the order by ash. -/
namespace Fa
open Kp412 (Stream Blender)
theorem frac_num (n d : Nat) (hd : 0 < d) : ((n : Rat) / (d : Rat)).num = ((n / Nat.gcd n d : Nat) : Int) := by
  have e : ((n : Rat) / (d : Rat)) = mkRat (n : Int) d := by rw [Rat.mkRat_eq_div]; rfl
  rw [e, Rat.num_mkRat, if_neg (by omega), Int.natAbs_natCast, Nat.gcd_comm d n]
  rfl
theorem frac_den (n d : Nat) (hd : 0 < d) : ((n : Rat) / (d : Rat)).den = d / Nat.gcd n d := by
  have e : ((n : Rat) / (d : Rat)) = mkRat (n : Int) d := by rw [Rat.mkRat_eq_div]; rfl
  rw [e, Rat.den_mkRat, if_neg (by omega), Int.natAbs_natCast, Nat.gcd_comm d n]
/-! ### the order -/
/-- by ash, then by number -/
def Ro (b : Blender) (i j : Nat) : Prop := (Kp412.streamAt b i).ash < (Kp412.streamAt b j).ash ∨ ((Kp412.streamAt b i).ash = (Kp412.streamAt b j).ash ∧ i < j)
theorem ins_mem (b : Blender) (i : Nat) : ∀ L : List Nat, (Kp412.insertByAsh b i L).Perm (i :: L)
  | [] => List.Perm.refl _
  | j :: r => by
    unfold Kp412.insertByAsh
    by_cases h : (Kp412.streamAt b i).ash ≤ (Kp412.streamAt b j).ash
    · rw [if_pos h]
    · rw [if_neg h]
      exact ((ins_mem b i r).cons j).trans (List.Perm.swap i j r)
theorem ins_ord (b : Blender) (i : Nat) : ∀ L : List Nat, L.Pairwise (Ro b) → (∀ j ∈ L, i < j) → (Kp412.insertByAsh b i L).Pairwise (Ro b)
  | [], _, _ => List.pairwise_singleton _ _
  | j :: r, h, hl => by
    unfold Kp412.insertByAsh
    rw [List.pairwise_cons] at h
    by_cases c : (Kp412.streamAt b i).ash ≤ (Kp412.streamAt b j).ash
    · rw [if_pos c, List.pairwise_cons]
      refine ⟨fun x hx => ?_, List.pairwise_cons.mpr h⟩
      have hix := hl x hx
      rcases List.mem_cons.mp hx with rfl | hx
      · unfold Ro; omega
      · have := h.1 x hx
        unfold Ro at this ⊢; omega
    · rw [if_neg c, List.pairwise_cons]
      refine ⟨fun x hx => ?_, ins_ord b i r h.2 fun x hx => hl x (List.mem_cons_of_mem _ hx)⟩
      rcases List.mem_cons.mp ((ins_mem b i r).mem_iff.mp hx) with rfl | hx
      · unfold Ro; omega
      · exact h.1 x hx
theorem by_ord (b : Blender) : ∀ L : List Nat, L.Pairwise (· < ·) → (L.foldr (Kp412.insertByAsh b) []).Pairwise (Ro b) ∧ (L.foldr (Kp412.insertByAsh b) []).Perm L
  | [], _ => ⟨List.Pairwise.nil, List.Perm.refl _⟩
  | i :: L, h => by
    rw [List.pairwise_cons] at h
    obtain ⟨h1, h2⟩ := by_ord b L h.2
    rw [List.foldr_cons]
    exact ⟨ins_ord b i _ h1 fun j hj => h.1 j (h2.mem_iff.mp hj), (ins_mem b i _).trans (h2.cons i)⟩
theorem byAsh_ord (b : Blender) : (Kp412.byAsh b).Pairwise (Ro b) ∧ (Kp412.byAsh b).Perm (List.range b.streams.length) := by_ord b _ List.pairwise_lt_range
/-- the rank that sorted goes by -/
def rank (b : Blender) (i : Nat) : Int := ((Kp412.streamAt b i).ash : Int) * 1000 ^ 2 + ((i : Int) * 1000 ^ 1 + (((Kp412.streamAt b i).amount : Int) * 1000 ^ 0 + 0))
theorem rank_le {b : Blender} {i j : Nat} (hi : (Kp412.streamAt b i).amount < 1000) (hi2 : i < 1000) (h : Ro b i j) : rank b i ≤ rank b j := by
  unfold rank
  unfold Ro at h
  omega
theorem rank_inj {b : Blender} {i j : Nat} (hi : (Kp412.streamAt b i).amount < 1000) (hj : (Kp412.streamAt b j).amount < 1000) (hi2 : i < 1000) (hj2 : j < 1000) (h1 : rank b i ≤ rank b j) (h2 : rank b j ≤ rank b i) : i = j := by
  unfold rank at h1 h2
  omega
theorem at_mem {b : Blender} {i : Nat} (h : i < b.streams.length) : Kp412.streamAt b i ∈ b.streams := by
  unfold Kp412.streamAt
  rw [getD_lt h]
  exact List.getElem_mem h
/-- what is in order and has all numbers is that -/
theorem byAsh_the {b : Blender} (hn : b.streams.length ≤ 6) (ha : ∀ s ∈ b.streams, s.ash < 1000 ∧ s.amount < 1000) {L : List Nat} (hp : L.Perm (List.range b.streams.length)) (ho : L.Pairwise fun i j => rank b i ≤ rank b j) : L = Kp412.byAsh b := by
  obtain ⟨h1, h2⟩ := byAsh_ord b
  have hm : ∀ i, i ∈ List.range b.streams.length → i < 1000 ∧ (Kp412.streamAt b i).amount < 1000 := fun i hi => by
    have := List.mem_range.mp hi
    exact ⟨by omega, (ha _ (at_mem this)).2⟩
  refine List.Perm.eq_of_pairwise (le := fun i j => rank b i ≤ rank b j) (fun i j hi hj a c => ?_) ho (h1.imp_of_mem fun {i j} hi hj r => ?_) (hp.trans h2.symm)
  · obtain ⟨x1, x2⟩ := hm i (hp.mem_iff.mp hi)
    obtain ⟨y1, y2⟩ := hm j (h2.mem_iff.mp hj)
    exact rank_inj x2 y2 x1 y1 a c
  · obtain ⟨x1, x2⟩ := hm i (h2.mem_iff.mp hi)
    exact rank_le x2 x1 r
/-! ### splitting -/
/-- the program's state: whole, reserve, the part's two numbers -/
structure Spl where
  w : Nat
  r : Nat
  pn : Nat
  pd : Nat
def splStep (lim : Nat) (t : Spl) (s : Stream) : Spl :=
  if s.ash ≤ lim then { t with w := t.w + s.amount, r := t.r + s.amount * (lim - s.ash) }
  else if s.amount * (s.ash - lim) ≤ t.r then { t with w := t.w + s.amount, r := t.r - s.amount * (s.ash - lim) }
  else if 0 < t.r then { t with r := 0, pn := t.r, pd := s.ash - lim }
  else t
def specStep (lim : Nat) (acc : Rat × Rat) (s : Stream) : Rat × Rat :=
  if s.ash ≤ lim then (acc.1 + (s.amount : Rat), acc.2 + ((s.amount * (lim - s.ash) : Nat) : Rat)) else
    let possible := acc.2 / ((s.ash - lim : Nat) : Rat)
    let taken := if possible < (s.amount : Rat) then possible else (s.amount : Rat)
    (acc.1 + taken, acc.2 - taken * ((s.ash - lim : Nat) : Rat))
def SplRel (lim : Nat) (rest : List Stream) (t : Spl) (a : Rat × Rat) : Prop :=
  a.1 = (t.w : Rat) + (t.pn : Rat) / (t.pd : Rat) ∧ a.2 = (t.r : Rat) ∧ 0 < t.pd ∧ t.pd < 1000 ∧ ((t.pn = 0 ∧ t.pd = 1) ∨ (t.r = 0 ∧ ∀ s ∈ rest, lim < s.ash))
theorem spl_step {lim : Nat} {s : Stream} {rest : List Stream} {t : Spl} {a : Rat × Rat} (h : SplRel lim (s :: rest) t a) (ho : ∀ x ∈ rest, s.ash ≤ x.ash) (hs : 1 ≤ s.amount ∧ s.ash < 1000) : SplRel lim rest (splStep lim t s) (specStep lim a s) := by
  obtain ⟨h1, h2, h3, h4, h5⟩ := h
  unfold splStep specStep
  by_cases c : s.ash ≤ lim
  · rw [if_pos c, if_pos c]
    have h6 : t.pn = 0 ∧ t.pd = 1 := by
      rcases h5 with h5 | ⟨_, h5⟩
      · exact h5
      · have := h5 s (List.mem_cons_self ..); omega
    refine ⟨?_, ?_, h3, h4, .inl h6⟩
    · show a.1 + (s.amount : Rat) = ((t.w + s.amount : Nat) : Rat) + (t.pn : Rat) / (t.pd : Rat)
      rw [h1, Rat.natCast_add]; grind
    · show a.2 + _ = ((t.r + s.amount * (lim - s.ash) : Nat) : Rat)
      rw [h2, Rat.natCast_add]
  · rw [if_neg c, if_neg c]
    dsimp -failIfUnchanged only
    have hd : 0 < s.ash - lim := by omega
    have hdr : (0 : Rat) < ((s.ash - lim : Nat) : Rat) := Rat.natCast_pos.mpr hd
    have hrest : ∀ x ∈ rest, lim < x.ash := fun x hx => by have := ho x hx; omega
    by_cases c2 : s.amount * (s.ash - lim) ≤ t.r
    · rw [if_pos c2]
      have hpos : 0 < s.amount * (s.ash - lim) := Nat.mul_pos hs.1 hd
      have h6 : t.pn = 0 ∧ t.pd = 1 := by
        rcases h5 with h5 | ⟨h5, _⟩
        · exact h5
        · omega
      have hn : ¬ a.2 / ((s.ash - lim : Nat) : Rat) < (s.amount : Rat) := by
        rw [Rat.div_lt_iff hdr, h2, ← Rat.natCast_mul, Rat.natCast_lt_natCast]
        omega
      rw [if_neg hn]
      refine ⟨?_, ?_, h3, h4, .inl h6⟩
      · show a.1 + (s.amount : Rat) = ((t.w + s.amount : Nat) : Rat) + (t.pn : Rat) / (t.pd : Rat)
        rw [h1, Rat.natCast_add]; grind
      · show a.2 - (s.amount : Rat) * ((s.ash - lim : Nat) : Rat) = ((t.r - s.amount * (s.ash - lim) : Nat) : Rat)
        have e : t.r = (t.r - s.amount * (s.ash - lim)) + s.amount * (s.ash - lim) := by omega
        rw [h2, ← Rat.natCast_mul]
        conv => lhs; rw [e, Rat.natCast_add]
        grind
    · rw [if_neg c2]
      have hy : a.2 / ((s.ash - lim : Nat) : Rat) < (s.amount : Rat) := by
        rw [Rat.div_lt_iff hdr, h2, ← Rat.natCast_mul, Rat.natCast_lt_natCast]
        omega
      rw [if_pos hy]
      have hcan : a.2 / ((s.ash - lim : Nat) : Rat) * ((s.ash - lim : Nat) : Rat) = a.2 := Rat.div_mul_cancel (Rat.ne_of_gt hdr)
      by_cases c3 : 0 < t.r
      · rw [if_pos c3]
        have h6 : t.pn = 0 ∧ t.pd = 1 := by
          rcases h5 with h5 | ⟨h5, _⟩
          · exact h5
          · omega
        refine ⟨?_, ?_, hd, by show s.ash - lim < 1000; omega, .inr ⟨rfl, hrest⟩⟩
        · show a.1 + a.2 / ((s.ash - lim : Nat) : Rat) = (t.w : Rat) + (t.r : Rat) / ((s.ash - lim : Nat) : Rat)
          rw [h1, h2, h6.1, h6.2]
          have : ((0 : Nat) : Rat) / ((1 : Nat) : Rat) = 0 := by decide +kernel
          rw [this, Rat.add_zero]
        · show a.2 - a.2 / ((s.ash - lim : Nat) : Rat) * ((s.ash - lim : Nat) : Rat) = ((0 : Nat) : Rat)
          rw [hcan, Rat.sub_self]; rfl
      · rw [if_neg c3]
        have hr0 : t.r = 0 := by omega
        have ha0 : a.2 = 0 := by rw [h2, hr0]; rfl
        have hz : a.2 / ((s.ash - lim : Nat) : Rat) = 0 := by rw [ha0, Rat.div_def, Rat.zero_mul]
        refine ⟨?_, ?_, h3, h4, ?_⟩
        · show a.1 + a.2 / ((s.ash - lim : Nat) : Rat) = _
          rw [hz, Rat.add_zero, h1]
        · show a.2 - a.2 / ((s.ash - lim : Nat) : Rat) * ((s.ash - lim : Nat) : Rat) = _
          rw [hcan, Rat.sub_self, hr0]; rfl
        · rcases h5 with h5 | ⟨h5, h7⟩
          · exact .inl h5
          · exact .inr ⟨h5, hrest⟩
theorem spl_fold {lim : Nat} : ∀ (l : List Stream) (t : Spl) (a : Rat × Rat), SplRel lim l t a → l.Pairwise (fun x y => x.ash ≤ y.ash) → (∀ s ∈ l, 1 ≤ s.amount ∧ s.ash < 1000) → SplRel lim [] (l.foldl (splStep lim) t) (l.foldl (specStep lim) a)
  | [], _, _, h, _, _ => h
  | s :: l, t, a, h, ho, hs => by
    rw [List.pairwise_cons] at ho
    exact spl_fold l _ _ (spl_step h ho.1 (hs s (List.mem_cons_self ..))) ho.2 fun x hx => hs x (List.mem_cons_of_mem _ hx)
def spl0 : Spl := ⟨0, 0, 0, 1⟩
theorem split_law {b : Blender} (ha : ∀ s ∈ b.streams, 1 ≤ s.amount ∧ s.ash < 1000) : let t := ((Kp412.byAsh b).map (Kp412.streamAt b)).foldl (splStep (b.limits.getD 0 0)) spl0
    0 < t.pd ∧ t.pd < 1000 ∧ Kp412.maxFirstFlourSplit b = ((t.w * t.pd + t.pn : Nat) : Rat) / (t.pd : Rat) := by
  intro t
  obtain ⟨o1, o2⟩ := byAsh_ord b
  have h0 : SplRel (b.limits.getD 0 0) ((Kp412.byAsh b).map (Kp412.streamAt b)) spl0 ((0, 0) : Rat × Rat) := ⟨by decide +kernel, rfl, by decide, by decide, .inl ⟨rfl, rfl⟩⟩
  obtain ⟨h1, h2, h3, h4, _⟩ := spl_fold _ _ _ h0 (List.pairwise_map.mpr (o1.imp fun {i j} r => by unfold Ro at r; omega)) (fun s hs => by
    obtain ⟨i, hi, rfl⟩ := List.mem_map.mp hs
    exact ha _ (at_mem (List.mem_range.mp (o2.mem_iff.mp hi))))
  refine ⟨h3, h4, ?_⟩
  have e : Kp412.maxFirstFlourSplit b = (((Kp412.byAsh b).map (Kp412.streamAt b)).foldl (specStep (b.limits.getD 0 0)) ((0, 0) : Rat × Rat)).1 := by
    rw [List.foldl_map]; rfl
  rw [e, h1]
  have hp : (0 : Rat) < (t.pd : Rat) := Rat.natCast_pos.mpr h3
  show (t.w : Rat) + (t.pn : Rat) / (t.pd : Rat) = _
  rw [Rat.natCast_add, Rat.natCast_mul]
  grind
end Fa
/-! The comprehension of by_ash, its sort; a for over a list whose target is a tuple. -/
namespace Fa
open PySem PySem.Spec PyProof.Rows L2
open Kp412 (Stream Blender)
variable {K : PySem.W.Frag} {H H' H1 H2 : Hp} {σ : L2.St} {ta tb te tc : TE} {Z : Ends} {tu : TS}
theorem s_forG {α : Type} {g : α → D} {xs : List α} {tg : TG} {tl : TE} (h : EvD K tl σ H (.lst (xs.map g))) (Pv : Hp → Nat → L2.St → Hp → Prop) (h0 : ∀ H1, Same H H1 → Pv H1 0 σ H1) (hk : ∀ H1 i σ' H', Pv H1 i σ' H' → Same H1 H')
    (hs : ∀ H1, Same H H1 → ∀ i x v σ' H', xs[i]? = some x → Pv H1 i σ' H' → Rep K H' (g x) v → tg v σ' H' fun σ2 H2 => tu { Z with nx := Pv H1 (i + 1), ct := Pv H1 (i + 1), bk := Z.nx } σ2 H2)
    (hd : ∀ H1, Same H H1 → ∀ σ' H', Pv H1 xs.length σ' H' → Z.nx σ' H') : tFor (iList K tl) tg tu Z σ H := h H (.refl _) _ fun v H1 s r => by
  cases r with
  | lst sq r =>
    rename_i a vs
    have e : vs.length = xs.length := by rw [r.length, List.length_map]
    refine ⟨a, rfl, ⟨_, sq⟩, for_list (K := K) (a := a) (xs := vs) (Pv H1) (h0 H1 s) (fun i σ' H' _ p => (hk H1 i σ' H' p).seq sq) (fun i v σ' H' hi p => ?_) (fun σ' H' p => hd H1 s σ' H' (e ▸ p))⟩
    obtain ⟨x, hx, rx⟩ := reps_map_get (r.same (hk H1 i σ' H' p)) hi
    exact hs H1 s i x v σ' H' hx p rx
theorem stab_tri (b : Blender) (i : Nat) : Stab (triD b i) := stab_tup fun d h => by
  simp only [List.mem_cons, List.not_mem_nil, or_false] at h
  rcases h with rfl | rfl | rfl <;> exact stab_int
theorem en_lcE {b : Blender} {v : V} {n1 n2 n3 : Option V} {ta : TA} (h : EvA K ta [some v, n1, n2, n3] H [strsD b.streams]) (hz : b.streams.length ≤ 6) :
    EvN K (tLc (iEnumT K ta) (gTup K 2 (gCons (gName 1) (gCons (gTup K 2 (gCons (gName 2) (gCons (gName 3) gNil))) gNil))) tYes (tTup (tCons (tVar 3) (tCons (tVar 1) (tCons (tVar 2) tNil)))) [1, 2, 3]) [some v, n1, n2, n3] H
      ((List.range b.streams.length).map (triD b)) := fun H1 s Q q => h H1 s _ fun vs H2 s2 r => by
  obtain ⟨x, rfl, rx⟩ := reps1 r
  cases rx with
  | tup sq rr =>
  rename_i a vs
  have hlen : vs.length = b.streams.length := by rw [rr.length, List.length_map]
  refine ⟨a, vs, rfl, sq, fun D hD => ⟨fun i m H' => m = vs.length - i ∧ i ≤ vs.length ∧ (∃ acc, Same H2 H' ∧ H' D = some (.lst acc) ∧ Reps K H' ((List.range i).map (triD b)) acc), ⟨vs.length, by simp, Nat.zero_le _, [], same_new hD, upd_same, .nil⟩, ?_⟩⟩
  rintro i m H' ⟨rfl, hi, acc, s3, hacc, ra⟩
  by_cases hlt : i < vs.length
  · refine .inr ⟨⟨vs, vs[i], (keepT_of s3).seq sq, by simp [hlt]⟩, fun H'' => ∃ acc, Same H2 H'' ∧ H'' D = some (.lst acc) ∧ Reps K H'' ((List.range (i + 1)).map (triD b)) acc, fun H'' p => ⟨vs.length - (i + 1), by omega, rfl, hlt, p⟩, fun x H'' y => ?_⟩
    obtain ⟨T, z, rfl, hT, rfl, hz'⟩ := y
    have hz1 := hz' vs ((keepT_of s3).seq sq)
    obtain ⟨s0, hs0, rs0⟩ := reps_map_get (rr.same s3) hz1
    obtain ⟨c, rfl, sq2⟩ := rep_str rs0
    have e0 : Kp412.streamAt b i = s0 := by
      unfold Kp412.streamAt
      rw [List.getD_eq_getElem?_getD, hs0]; rfl
    refine ⟨T, _, rfl, st_of upd_same, rfl, _, _, rfl, _, _, rfl, ⟨c, _, rfl, (keepT_of (same_new hT)).seq sq2, rfl, _, _, rfl, _, _, rfl, rfl, rfl, rfl, ?_⟩⟩
    refine yes_of ((ed_tup (K := K) (ea_cons (ed_var rfl .int) (ea_cons (ed_var rfl .int) (ea_cons (ed_var rfl .int) ea_nil))) (Nat.le_of_ble_eq_true rfl)) _ (.refl _) _ fun y H4 s5 ry => ?_)
    have sT : Same H' H4 := (same_new hT).trans s5
    have hD4 : H4 D = some (.lst acc) := sT _ _ hacc
    refine ⟨acc, hD4, ?_, acc ++ [y], same_mut (s3.trans sT) hD, upd_same, ?_⟩
    · have e := ra.length
      rw [List.length_map, List.length_range] at e
      have e3 : (100000 : Nat) < sizeLine := by decide
      omega
    · have k := keepT_lst (ws := acc ++ [y]) hD4
      rw [List.range_succ, List.map_append]
      refine Reps.append (reps_keep (fun d hd => ?_) k (ra.same sT)) (.cons ?_ .nil)
      · obtain ⟨z, _, rfl⟩ := List.mem_map.mp hd
        exact stab_tri b z
      · refine stab_tri b i _ _ _ _ k ?_
        unfold triD
        rw [e0]
        exact ry
  · have e : i = vs.length := by omega
    subst e
    refine .inl ⟨⟨vs, (keepT_of s3).seq sq, Nat.le_refl _⟩, ?_⟩
    rw [hlen] at ra
    exact q D acc H' (fresh_back s2 hD) (s2.trans s3) hacc ra
theorem reps_perm {α : Type} {g : α → D} {ys vs : List V} (p : ys.Perm vs) : ∀ {l : List α}, Reps K H (l.map g) vs → ∃ l' : List α, l'.Perm l ∧ Reps K H (l'.map g) ys := by
  induction p with
  | nil => intro l r; exact ⟨l, List.Perm.refl _, r⟩
  | cons x p ih =>
    intro l r
    cases l with
    | nil => cases r
    | cons d l =>
      cases r with
      | cons h r =>
        obtain ⟨l', h1, h2⟩ := ih r
        exact ⟨d :: l', h1.cons d, .cons h h2⟩
  | swap x y l0 =>
    intro l r
    cases l with
    | nil => cases r
    | cons d l =>
      cases r with
      | cons h r =>
        cases l with
        | nil => cases r
        | cons d2 l =>
          cases r with
          | cons h2 r => exact ⟨d2 :: d :: l, List.Perm.swap .., .cons h2 (.cons h r)⟩
  | trans p1 p2 ih1 ih2 =>
    intro l r
    obtain ⟨l1, h1, h2⟩ := ih2 r
    obtain ⟨l2, h3, h4⟩ := ih1 h2
    exact ⟨l2, h3.trans h1, h4⟩
theorem tri_ints {b : Blender} {i : Nat} {v : V} (r : Rep K H (triD b i) v) : TupI K H v [((Kp412.streamAt b i).ash : Int), (i : Int), ((Kp412.streamAt b i).amount : Int)] := by
  cases r with
  | tup q r =>
    obtain ⟨x, y, z, rfl, h1, h2, h3⟩ := reps3 r
    cases h1; cases h2; cases h3
    exact ⟨_, rfl, q⟩
theorem reps_memV {α : Type} {g : α → D} : ∀ {l : List α} {vs : List V} {x : α}, Reps K H (l.map g) vs → x ∈ l → ∃ v ∈ vs, Rep K H (g x) v
  | [], _, x, _, h => by simp at h
  | d :: l, _, x, r, h => by
    cases r with
    | cons h1 r =>
      rcases List.mem_cons.mp h with rfl | h
      · exact ⟨_, List.mem_cons_self .., h1⟩
      · obtain ⟨v, hv, h2⟩ := reps_memV r h
        exact ⟨v, List.mem_cons_of_mem _ hv, h2⟩
theorem reps_memD {α : Type} {g : α → D} : ∀ {l : List α} {vs : List V} {v : V}, Reps K H (l.map g) vs → v ∈ vs → ∃ x ∈ l, Rep K H (g x) v
  | [], _, v, r, h => by cases r; simp at h
  | d :: l, _, v, r, h => by
    cases r with
    | cons h1 r =>
      rcases List.mem_cons.mp h with rfl | h
      · exact ⟨d, List.mem_cons_self .., h1⟩
      · obtain ⟨x, hx, h2⟩ := reps_memD r h
        exact ⟨x, List.mem_cons_of_mem _ hx, h2⟩
theorem reps_rank {b : Blender} : ∀ {L : List Nat} {ys : List V}, Reps K H (L.map (triD b)) ys → ys.Pairwise (fun x y => ∀ n m, TupI K H x n → TupI K H y m → TS.code 1000 n ≤ TS.code 1000 m) → L.Pairwise fun i j => rank b i ≤ rank b j
  | [], _, _, _ => List.Pairwise.nil
  | i :: L, _, r, h => by
    cases r with
    | cons h1 r =>
      rw [List.pairwise_cons] at h
      refine List.pairwise_cons.mpr ⟨fun j hj => ?_, reps_rank r h.2⟩
      obtain ⟨v, hv, rv⟩ := reps_memV r hj
      exact h.1 v hv _ _ (tri_ints h1) (tri_ints rv)
/-- sorted(..) of by_ash -/
theorem en_sort {b : Blender} {tl : TE} (h : EvN K tl σ H ((List.range b.streams.length).map (triD b))) (hz : b.streams.length ≤ 6) (ha : ∀ s ∈ b.streams, s.ash < 1000 ∧ s.amount < 1000) :
    EvN K (tCB (rSortU K 3 1000) (tCons tl tNil)) σ H ((Kp412.byAsh b).map (triD b)) := fun H1 s Q q => h H1 s _ fun p vs H2 hp s2 h2 r2 => by
  have hlen : vs.length = b.streams.length := by rw [r2.length, List.length_map, List.length_range]
  refine ⟨p, vs, rfl, sq_of h2, by omega, fun x hx => ?_, fun ys p' hperm hpair hp' => ?_⟩
  · obtain ⟨i, hi, ri⟩ := reps_memD r2 hx
    have := ha _ (at_mem (List.mem_range.mp hi))
    have hi' := List.mem_range.mp hi
    refine ⟨_, tri_ints ri, rfl, fun m hm => ?_⟩
    simp only [List.mem_cons, List.not_mem_nil, or_false] at hm
    rcases hm with rfl | rfl | rfl <;> omega
  · obtain ⟨L, h3, h4⟩ := reps_perm hperm r2
    have e := byAsh_the hz ha h3 (reps_rank h4 hpair)
    subst e
    exact q p' ys _ (fresh_back s2 hp') (s2.trans (same_new hp')) upd_same (h4.same (same_new hp'))
end Fa
namespace Fa
open PySem PySem.Spec PyProof.Rows L2
open Kp412 (Stream Blender)
section
variable {P : Program} {w : World} {K : PySem.W.Frag} {mg : Str → Option Value} {base : Heap} {C CD : Addr}
local macro_rules | `(tactic| walk_at "fa_rd") => `(tactic| first
  | exact rd_I0 | exact rd_B0 | exact rd_eq
  | exact rd_ixT (n := 0) rfl rfl | exact rd_ixT (n := 1) rfl rfl | exact rd_ixT (n := 2) rfl rfl
  | exact rd_ixL (n := 0) rfl rfl | exact rd_ixL (n := 1) rfl rfl | exact rd_ixL (n := 2) rfl rfl
  | exact rd_catA (by simp) )
local macro_rules | `(tactic| walk_at "fa_ev") => `(tactic| first
  | exact ed_int | exact ed_bl
  | (refine ed_var rfl ?_; assumption)
  | (refine ed_op ?_ ?_ ?_; focus walk_at "fa_ev"; focus walk_at "fa_ev"; focus walk_at "fa_rd")
  | (refine ed_cb ?_ ?_; focus walk_at "fa_ea"; focus (first | exact rc_lenT | exact rc_lenL))
  | (refine ed_tup ?_ ?_; focus walk_at "fa_ea"; focus (simp; done)))
local macro_rules | `(tactic| walk_at "fa_ea") => `(tactic| first
  | exact ea_nil
  | (refine ea_cons ?_ ?_; focus walk_at "fa_ev"; focus walk_at "fa_ea"))

theorem sc_greatest_divisor : FnScope ["one", "other"] ["one", "other"] (C8.fnScope (top 50)) := C8.fnScope_by (by decide +kernel)
theorem ok_greatest_divisor (T : Tx K mg) : C8.Cal P w K mg base 1 "greatest_divisor" (spD K R_greatest_divisor) [] := by
  obtain ⟨f, fd, h1, h2, h3, h4⟩ := T.F.d_greatest_divisor
  refine C8.cal0 (N := ["one", "other"]) (ps := ["one", "other"]) ⟨h2, T.yes _ _ h1, h4⟩ (h2.binds h3 (fun _ _ _ _ _ _ us hl => match us, hl with | [_, _], _ => rfl)) .nil sc_greatest_divisor (fun vs H Q E h => spD_len (fun ds d r => by cases r; rfl) h) (fun cdv A outer s H vs Q E hr h => ⟨_, (pss_cons (ps_while PassesOwn.never (pt_cmpR op_gt (pv 1) pe_int (nomark _)) (pss_one (ps_par (i := 0) (j := 1) rfl sc_greatest_divisor.nd rfl rfl (by decide) rfl rfl (pa_cons (pv 1) (pa_cons (pe_op op_modN (pv 0) (pv 1)) pa_nil)) rfl)))
      (pss_one (ps_ret (pv 0)))), ?_⟩)
  obtain ⟨ds, d, rs, rR, k⟩ := h
  cases rR with | mk m n =>
  obtain ⟨v, w', rfl, r1, r2⟩ := reps2 rs
  cases r1; cases r2
  refine s_seq (s_while (fun q σ' H' => ∃ x : Nat, σ' = [some (.int x), some (.int q)] ∧ Same H H' ∧ Nat.gcd x q = Nat.gcd m n) ⟨n, m, rfl, .refl _, rfl⟩ ?_)
  rintro q σ' H' ⟨x, rfl, s1, e⟩
  refine ⟨decide ((0 : Int) < (q : Int)), et_test (ed_op (ed_var (K := K) rfl .int) ed_int rd_B0), fun hb H2 s2 => ?_, fun hb H2 s2 => ?_⟩
  · have hq : 0 < q := by have := of_decide_eq_true hb; omega
    refine s_par (K := K) (ea_cons (ed_var rfl .int) (ea_cons (ed_op (ed_var rfl .int) (ed_var rfl .int) (rd_I (C := fun _ j => j ≠ 0) (g := fun i j => i.fmod j) (by omega))) ea_nil)) fun y z H3 s3 ry rz => ?_
    cases ry; cases rz
    refine ⟨x % q, Nat.mod_lt _ hq, q, ?_, s1.trans (s2.trans s3), ?_⟩
    · rw [Int.ofNat_fmod]; rfl
    · rw [← e, Nat.gcd_comm q, ← Nat.gcd_rec, Nat.gcd_comm]
  · have hq : q = 0 := by have := of_decide_eq_false hb; omega
    subst hq
    rw [Nat.gcd_zero_right] at e
    subst e
    exact s_ret (K := K) (ed_var rfl .int) fun y H3 s3 ry => k y H3 (s1.trans (s2.trans s3)) ry
theorem sc_lowest_terms : FnScope ["numerator", "denominator", "divisor"] ["numerator", "denominator"] (C8.fnScope (top 51)) := C8.fnScope_by (by decide +kernel)
theorem ok_lowest_terms (T : Tx K mg) (c_greatest_divisor : C8.Cal P w K mg base 1 "greatest_divisor" (spD K R_greatest_divisor) []) : C8.Cal P w K mg base 2 "lowest_terms" (spN K R_lowest_terms) [] := by
  obtain ⟨f, fd, h1, h2, h3, h4⟩ := T.F.d_lowest_terms
  refine C8.cal0 (N := ["numerator", "denominator", "divisor"]) (ps := ["numerator", "denominator"]) ⟨h2, T.yes _ _ h1, h4⟩ (h2.binds h3 (fun _ _ _ _ _ _ us hl => match us, hl with | [_, _], _ => rfl)) .nil sc_lowest_terms (fun vs H Q E h => spN_len (fun ds d r => by cases r; rfl) h) (fun cdv A outer s H vs Q E hr h => ⟨_, (pss_cons (ps_set (i := 2) sc_lowest_terms.nd rfl (by first | exact Or.inl rfl | exact Or.inr rfl) (C8.pe_c c_greatest_divisor hr (by decide) rfl (pa_cons (pv 0) (pa_cons (pv 1) pa_nil))))
      (pss_one (ps_ret (pe_lst (pa_cons (pe_op op_fdivN (pv 0) (pv 2)) (pa_cons (pe_op op_fdivN (pv 1) (pv 2)) pa_nil)))))), ?_⟩)
  obtain ⟨ds, d, rs, rR, k⟩ := h
  cases rR with | mk m n hn hz =>
  obtain ⟨v, w', rfl, r1, r2⟩ := reps2 rs
  have hg : 0 < Nat.gcd m n := Nat.gcd_pos_of_pos_right _ hn
  have hle : Nat.gcd m n ≤ n := Nat.le_of_dvd hn (Nat.gcd_dvd_right m n)
  have hc : ∀ i : Int, CDivN i (Nat.gcd m n : Nat) := fun i => ⟨by omega, by rw [Int.natAbs_natCast]; omega⟩
  refine s_seq (s_asg (K := K) (ed_call (ea_cons (ed_var rfl r1) (ea_cons (ed_var rfl r2) ea_nil)) (.mk m n)) fun y H1 s1 ry => ?_)
  refine s_retN (K := K) (en_lst (ea_cons ((ed_op (ed_var rfl (r1.same s1)) (ed_var rfl ry) (rd_I (g := fun i j => i.fdiv j) (hc _))).is ?_) (ea_cons ((ed_op (ed_var rfl (r2.same s1)) (ed_var rfl ry) (rd_I (g := fun i j => i.fdiv j) (hc _))).is ?_) ea_nil)) (Nat.le_of_ble_eq_true rfl)) fun p ws H2 hp s2 h2 r => k p ws H2 (s1.free hp) (s1.trans s2) h2 r
  · rw [Int.ofNat_fdiv]
  · rw [Int.ofNat_fdiv]
theorem sc_by_ash : FnScope ["streams", "number", "amount", "ash"] ["streams"] (C8.fnScope (top 52)) := C8.fnScope_by (by decide +kernel)
theorem ok_by_ash (T : Tx K mg) : C8.Cal P w K mg base 1 "by_ash" (spN K R_by_ash) [] := by
  obtain ⟨f, fd, h1, h2, h3, h4⟩ := T.F.d_by_ash
  refine C8.cal0 (N := ["streams", "number", "amount", "ash"]) (ps := ["streams"]) ⟨h2, T.yes _ _ h1, h4⟩ (h2.binds h3 (fun _ _ _ _ _ _ us hl => match us, hl with | [_], _ => rfl)) .nil sc_by_ash (fun vs H Q E h => spN_len (fun ds d r => by cases r; rfl) h) (fun cdv A outer s H vs Q E hr h => ⟨_, (pss_one (ps_ret (pe_callB (cr_sortT (d := 3) (B := 1000) (by decide)) (by rfl) (T.no T.F.b_sorted) (by decide +kernel) (pa_cons (pe_lc (own := [("number", 1), ("amount", 2), ("ash", 3)]) rfl sc_by_ash.nd (pi_enumT (by rfl) (T.no T.F.b_enumerate) (pa_cons (pv 0) pa_nil)) (blkOk_by (own := [("number", 1), ("amount", 2), ("ash", 3)]) (N := ["streams", "number", "amount", "ash"]) (sc := C8.fnScope (top 52)) (by decide +kernel)) (fun _ _ _ _ _ => (pg_tupK (K := K) (n := 2) rfl rfl (pgs_cons (pg_name (i := 1) sc_by_ash.nd rfl (by first | exact Or.inl rfl | exact Or.inr rfl)) (pgs_cons (pg_tupK (K := K) (n := 2) rfl rfl (pgs_cons (pg_name (i := 2) sc_by_ash.nd rfl (by first | exact Or.inl rfl | exact Or.inr rfl)) (pgs_cons (pg_name (i := 3) sc_by_ash.nd rfl (by first | exact Or.inl rfl | exact Or.inr rfl)) pgs_nil))) pgs_nil)))) (fun _ _ _ _ _ => pts_nil) (fun _ _ _ _ _ => (pe_tup (pa_cons (pv 3) (pa_cons (pv 1) (pa_cons (pv 2) pa_nil)))))) pa_nil)))), ?_⟩)
  obtain ⟨ds, d, rs, rR, k⟩ := h
  cases rR with | mk b hS ha =>
  obtain ⟨v, rfl, r1⟩ := reps1 rs
  exact s_retN (K := K) (en_sort (en_lcE (ea_cons (ed_var rfl r1) ea_nil) hS.ns) hS.ns ha) k
theorem sc_split_total : FnScope ["streams", "ash_limit", "whole", "reserve", "part", "ash", "number", "amount"] ["streams", "ash_limit"] (C8.fnScope (top 53)) := C8.fnScope_by (by decide +kernel)
theorem ok_split_total (T : Tx K mg) (c_by_ash : C8.Cal P w K mg base 1 "by_ash" (spN K R_by_ash) []) (c_lowest_terms : C8.Cal P w K mg base 2 "lowest_terms" (spN K R_lowest_terms) []) : C8.Cal P w K mg base 3 "split_total" (spN K R_split_total) [] := by
  obtain ⟨f, fd, h1, h2, h3, h4⟩ := T.F.d_split_total
  refine C8.cal0 (N := ["streams", "ash_limit", "whole", "reserve", "part", "ash", "number", "amount"]) (ps := ["streams", "ash_limit"]) ⟨h2, T.yes _ _ h1, h4⟩ (h2.binds h3 (fun _ _ _ _ _ _ us hl => match us, hl with | [_, _], _ => rfl)) .nil sc_split_total (fun vs H Q E h => spN_len (fun ds d r => by cases r; rfl) h) (fun cdv A outer s H vs Q E hr h => ⟨_, (pss_cons (ps_asg (pe_tup (pa_cons pe_int (pa_cons pe_int (pa_cons (pe_tup (pa_cons pe_int (pa_cons pe_int pa_nil))) pa_nil)))) (pg_tup (n := 3) rfl (pgs_cons (pg_name (i := 2) sc_split_total.nd rfl (by first | exact Or.inl rfl | exact Or.inr rfl)) (pgs_cons (pg_name (i := 3) sc_split_total.nd rfl (by first | exact Or.inl rfl | exact Or.inr rfl)) (pgs_cons (pg_name (i := 4) sc_split_total.nd rfl (by first | exact Or.inl rfl | exact Or.inr rfl)) pgs_nil)))))
      (pss_cons (ps_for PassesOwn.never rfl (pi_list (C8.pe_c c_by_ash hr (by decide) rfl (pa_cons (pv 0) pa_nil))) (pg_tup (n := 3) rfl (pgs_cons (pg_name (i := 5) sc_split_total.nd rfl (by first | exact Or.inl rfl | exact Or.inr rfl)) (pgs_cons (pg_name (i := 6) sc_split_total.nd rfl (by first | exact Or.inl rfl | exact Or.inr rfl)) (pgs_cons (pg_name (i := 7) sc_split_total.nd rfl (by first | exact Or.inl rfl | exact Or.inr rfl)) pgs_nil)))) (pss_one (ps_if (pt_cmpR op_le (pv 5) (pv 1) (nomark _)) (pss_cons (ps_set (i := 2) sc_split_total.nd rfl (by first | exact Or.inl rfl | exact Or.inr rfl) (pe_op op_add (pv 2) (pv 7)))
      (pss_one (ps_set (i := 3) sc_split_total.nd rfl (by first | exact Or.inl rfl | exact Or.inr rfl) (pe_op op_add (pv 3) (pe_op op_mul (pv 7) (pe_op op_sub (pv 1) (pv 5))))))) (pss_one (ps_if (pt_cmpR op_ge (pv 3) (pe_op op_mul (pv 7) (pe_op op_sub (pv 5) (pv 1))) (nomark _)) (pss_cons (ps_set (i := 2) sc_split_total.nd rfl (by first | exact Or.inl rfl | exact Or.inr rfl) (pe_op op_add (pv 2) (pv 7)))
      (pss_one (ps_set (i := 3) sc_split_total.nd rfl (by first | exact Or.inl rfl | exact Or.inr rfl) (pe_op op_sub (pv 3) (pe_op op_mul (pv 7) (pe_op op_sub (pv 5) (pv 1))))))) (pss_one (ps_if (pt_cmpR op_gt (pv 3) pe_int (nomark _)) (pss_cons (ps_set (i := 4) sc_split_total.nd rfl (by first | exact Or.inl rfl | exact Or.inr rfl) (pe_tup (pa_cons (pv 3) (pa_cons (pe_op op_sub (pv 5) (pv 1)) pa_nil))))
      (pss_one (ps_set (i := 3) sc_split_total.nd rfl (by first | exact Or.inl rfl | exact Or.inr rfl) pe_int))) pss_nil)))))))
      (pss_one (ps_ret (C8.pe_c c_lowest_terms hr (by decide) rfl (pa_cons (pe_op op_add (pe_op op_mul (pv 2) (pe_ix ix_tup (pv 4) pe_int (fun _ _ => rfl))) (pe_ix ix_tup (pv 4) pe_int (fun _ _ => rfl))) (pa_cons (pe_ix ix_tup (pv 4) pe_int (fun _ _ => rfl)) pa_nil))))))), ?_⟩)
  obtain ⟨ds, d, rs, rR, k⟩ := h
  cases rR with | mk b hS ha hl =>
  obtain ⟨v, w', rfl, r1, r2⟩ := reps2 rs
  cases r2
  have hlim : b.limits.getD 0 0 < 1000 := by
    have h0 : 0 < b.limits.length := by rw [hS.nl]; decide
    rw [getD_lt h0]; exact hl _ (List.getElem_mem h0)
  generalize hL : b.limits.getD 0 0 = lim at hlim
  have law := split_law (b := b) fun s hs => ⟨(ha s hs).1, (ha s hs).2.2⟩
  rw [hL] at law
  obtain ⟨o1, o2⟩ := byAsh_ord b
  refine s_seq (s_unp (K := K) (l := [.int 0, .int 0, .tup [.int 0, .int 1]]) (ed_tup (ea_cons ed_int (ea_cons ed_int (ea_cons (ed_tup (ea_cons ed_int (ea_cons ed_int ea_nil)) (Nat.le_of_ble_eq_true rfl)) ea_nil))) (Nat.le_of_ble_eq_true rfl)) rfl fun vs H1 s1 rv => ?_)
  obtain ⟨x, y, z, rfl, rx, ry, rz⟩ := reps3 rv
  cases rx; cases ry
  refine ⟨_, _, rfl, _, _, rfl, _, _, rfl, rfl, s_seq ?_⟩
  refine s_forG (K := K) (xs := Kp412.byAsh b) (g := triD b) (en_call (ea_cons (ed_var rfl (r1.same s1)) ea_nil) (.mk b hS fun s hs => by have := ha s hs; omega)).toD
    (fun H2 i σ' H' => Same H2 H' ∧ ∃ vp v5 v6 v7, σ' = [some v, some (.int lim), some (.int (((Kp412.byAsh b).take i).map (Kp412.streamAt b) |>.foldl (splStep lim) spl0).w), some (.int (((Kp412.byAsh b).take i).map (Kp412.streamAt b) |>.foldl (splStep lim) spl0).r), some vp, v5, v6, v7] ∧
      Rep K H' (.tup [.int (((Kp412.byAsh b).take i).map (Kp412.streamAt b) |>.foldl (splStep lim) spl0).pn, .int (((Kp412.byAsh b).take i).map (Kp412.streamAt b) |>.foldl (splStep lim) spl0).pd]) vp)
    (fun H2 s2 => ⟨.refl _, z, none, none, none, rfl, rz.same s2⟩) (fun _ _ _ _ h => h.1) ?_ ?_
  · rintro H2 s2 i x w σ' H' hx ⟨s3, vp, v5, v6, v7, rfl, rp⟩ rw'
    rw [take_snoc hx, List.map_append, List.foldl_append]
    generalize ht : (((Kp412.byAsh b).take i).map (Kp412.streamAt b)).foldl (splStep lim) spl0 = t at rp
    have hmem := ha _ (at_mem (List.mem_range.mp (o2.mem_iff.mp (List.mem_of_getElem? hx))))
    show gTup K 3 _ w _ H' _
    rw [List.map_cons, List.map_nil, List.foldl_cons, List.foldl_nil]
    generalize hs0 : Kp412.streamAt b x = s0 at hmem
    unfold triD at rw'
    rw [hs0] at rw'
    cases rw' with
    | tup q rq =>
    obtain ⟨a1, a2, a3, rfl, ra1, ra2, ra3⟩ := reps3 rq
    cases ra1; cases ra2; cases ra3
    refine ⟨_, _, rfl, q, rfl, _, _, rfl, _, _, rfl, _, _, rfl, rfl, ?_⟩
    have cm : ∀ j : Int, CMul (s0.amount : Int) j := fun j => cmul_l (by have : s0.amount < 100 := hmem.2.1; show s0.amount < 4294967296; omega)
    refine s_if (et_test (ed_op (ed_var (K := K) rfl .int) (ed_var rfl .int) rd_B0)) (fun hb H3 s4 => ?_) (fun hb H3 s4 => ?_)
    · have hc : s0.ash ≤ lim := by have := of_decide_eq_true hb; omega
      refine s_seq (s_asg (K := K) (ed_op (ed_var rfl .int) (ed_var rfl .int) rd_I0) fun y H4 s5 ry => ?_)
      cases ry
      refine s_asg (K := K) (ed_op (ed_var rfl .int) (ed_op (ed_var rfl .int) (ed_op (ed_var rfl .int) (ed_var rfl .int) rd_I0) (rd_I (cm _))) rd_I0) fun y H5 s6 ry => ?_
      cases ry
      refine ⟨s3.trans (s4.trans (s5.trans s6)), vp, some (.int (s0.ash : Int)), some (.int (x : Int)), some (.int (s0.amount : Int)), ?_, ?_⟩
      · unfold splStep
        rw [if_pos hc]
        have e1 : ((t.w : Int) + (s0.amount : Int)) = ((t.w + s0.amount : Nat) : Int) := by omega
        have e2 : ((t.r : Int) + (s0.amount : Int) * ((lim : Int) - (s0.ash : Int))) = ((t.r + s0.amount * (lim - s0.ash) : Nat) : Int) := by
          rw [Int.natCast_add, Int.natCast_mul, Int.ofNat_sub hc]
        show [some v, some (V.int lim), some (V.int ((t.w : Int) + (s0.amount : Int))), some (V.int ((t.r : Int) + (s0.amount : Int) * ((lim : Int) - (s0.ash : Int)))), some vp, _, _, _] = _
        rw [e1, e2]
      · unfold splStep
        rw [if_pos hc]
        exact rp.same (s4.trans (s5.trans s6))
    · have hc : ¬ s0.ash ≤ lim := by have := of_decide_eq_false hb; omega
      have hle : lim ≤ s0.ash := by omega
      have em : (s0.amount : Int) * ((s0.ash : Int) - (lim : Int)) = ((s0.amount * (s0.ash - lim) : Nat) : Int) := by rw [Int.natCast_mul, Int.ofNat_sub hle]
      refine s_if (et_test (ed_op (ed_var (K := K) rfl .int) ((ed_op (ed_var rfl .int) (ed_op (ed_var rfl .int) (ed_var rfl .int) rd_I0) (rd_I (cm _))).is (congrArg D.int em)) rd_B0)) (fun hb2 H4 s5 => ?_) (fun hb2 H4 s5 => ?_)
      · have hc2 : s0.amount * (s0.ash - lim) ≤ t.r := by have := of_decide_eq_true hb2; omega
        refine s_seq (s_asg (K := K) (ed_op (ed_var rfl .int) (ed_var rfl .int) rd_I0) fun y H5 s6 ry => ?_)
        cases ry
        refine s_asg (K := K) (ed_op (ed_var rfl .int) ((ed_op (ed_var rfl .int) (ed_op (ed_var rfl .int) (ed_var rfl .int) rd_I0) (rd_I (cm _))).is (congrArg D.int em)) rd_I0) fun y H6 s7 ry => ?_
        cases ry
        refine ⟨s3.trans (s4.trans (s5.trans (s6.trans s7))), vp, some (.int (s0.ash : Int)), some (.int (x : Int)), some (.int (s0.amount : Int)), ?_, ?_⟩
        · unfold splStep
          rw [if_neg hc, if_pos hc2]
          have e1 : ((t.w : Int) + (s0.amount : Int)) = ((t.w + s0.amount : Nat) : Int) := by omega
          have e2 : ((t.r : Int) - ((s0.amount * (s0.ash - lim) : Nat) : Int)) = ((t.r - s0.amount * (s0.ash - lim) : Nat) : Int) := by omega
          show [some v, some (V.int lim), some (V.int ((t.w : Int) + (s0.amount : Int))), some (V.int ((t.r : Int) - ((s0.amount * (s0.ash - lim) : Nat) : Int))), some vp, _, _, _] = _
          rw [e1, e2]
        · unfold splStep
          rw [if_neg hc, if_pos hc2]
          exact rp.same (s4.trans (s5.trans (s6.trans s7)))
      · have hc2 : ¬ s0.amount * (s0.ash - lim) ≤ t.r := by have := of_decide_eq_false hb2; omega
        refine s_if (et_test (ed_op (ed_var (K := K) rfl .int) ed_int rd_B0)) (fun hb3 H5 s6 => ?_) (fun hb3 H5 s6 => ?_)
        · have hc3 : 0 < t.r := by have := of_decide_eq_true hb3; omega
          refine s_seq (s_asg (K := K) (ed_tup (ea_cons (ed_var rfl .int) (ea_cons ((ed_op (ed_var rfl .int) (ed_var rfl .int) rd_I0).is (congrArg D.int (Int.ofNat_sub hle).symm)) ea_nil)) (Nat.le_of_ble_eq_true rfl)) fun y H6 s7 ry => ?_)
          refine s_nx (s_asg (K := K) ed_int fun y2 H7 s8 ry2 => ?_)
          cases ry2
          refine ⟨s3.trans (s4.trans (s5.trans (s6.trans (s7.trans s8)))), y, some (.int (s0.ash : Int)), some (.int (x : Int)), some (.int (s0.amount : Int)), ?_, ?_⟩
          · unfold splStep
            rw [if_neg hc, if_neg hc2, if_pos hc3]
            rfl
          · unfold splStep
            rw [if_neg hc, if_neg hc2, if_pos hc3]
            exact ry.same s8
        · have hc3 : ¬ 0 < t.r := by have := of_decide_eq_false hb3; omega
          refine ⟨s3.trans (s4.trans (s5.trans s6)), vp, some (.int (s0.ash : Int)), some (.int (x : Int)), some (.int (s0.amount : Int)), ?_, ?_⟩
          · unfold splStep
            rw [if_neg hc, if_neg hc2, if_neg hc3]
            rfl
          · unfold splStep
            rw [if_neg hc, if_neg hc2, if_neg hc3]
            exact rp.same (s4.trans (s5.trans s6))
  · rintro H2 s2 σ' H' ⟨s3, vp, v5, v6, v7, rfl, rp⟩
    rw [List.take_length] at rp ⊢
    generalize ht : ((Kp412.byAsh b).map (Kp412.streamAt b)).foldl (splStep lim) spl0 = t at rp law
    obtain ⟨l1, l2, l3⟩ := law
    refine s_retN (K := K) (EvN.is (en_call (ea_cons (EvD.is (ed_op (ed_op (ed_var rfl .int) (ed_op (ed_var rfl rp) ed_int (rd_ixT (n := 1) rfl rfl)) (rd_I (.inr ⟨by omega, by omega⟩))) (ed_op (ed_var rfl rp) ed_int (rd_ixT (n := 0) rfl rfl)) rd_I0) ?_) (ea_cons (ed_op (ed_var rfl rp) ed_int (rd_ixT (n := 1) rfl rfl)) ea_nil)) (.mk (t.w * t.pd + t.pn) t.pd l1 (by omega))) ?_) fun p ws H4 hp s4 h4 r => k p ws H4 (s1.free (s2.free (s3.free hp))) (s1.trans (s2.trans (s3.trans s4))) h4 r
    · rw [Int.natCast_add, Int.natCast_mul]
    · rw [l3, frac_num _ _ l1, frac_den _ _ l1]
end
end Fa
/-! Plain laws: what the operations ask of the changed mills. -/
namespace Fa
open Kp412 (Stream Blender)
theorem erase_map {α β : Type} (f : α → β) : ∀ (l : List α) (i : Nat), (l.map f).eraseIdx i = (l.eraseIdx i).map f
  | [], _ => by simp
  | _ :: _, 0 => rfl
  | x :: l, i + 1 => congrArg (f x :: ·) (erase_map f l i)
theorem feas_eq (b : Blender) (l : List Nat) : Kp412.feasible b l = (List.range 3).all fun k => decide (ash b l k ≤ b.limits.getD k 0 * amt b l k) := rfl
theorem feas_add {b : Blender} {l : List Nat} (h : As b l) (s : Stream) : Kp412.feasible { b with streams := b.streams ++ [s] } (l ++ [3]) = Kp412.feasible b l := by
  have hA : As { b with streams := b.streams ++ [s] } (l ++ [3]) := ⟨by rw [List.length_append, List.length_append, h.len]; rfl, fun x hx => by
    rcases List.mem_append.mp hx with hx | hx
    · exact h.le x hx
    · rw [List.mem_singleton.mp hx]; exact Nat.le_refl 3⟩
  have hz : (b.streams ++ [s]).zip (l ++ [3]) = b.streams.zip l ++ [(s, 3)] := by
    rw [List.zip_append h.len.symm]; rfl
  rw [feas_eq, feas_eq, Bool.eq_iff_iff, List.all_eq_true, List.all_eq_true]
  have key : ∀ k, k ∈ List.range 3 → ash { b with streams := b.streams ++ [s] } (l ++ [3]) k = ash b l k ∧ amt { b with streams := b.streams ++ [s] } (l ++ [3]) k = amt b l k := fun k hk => by
    have hk3 := List.mem_range.mp hk
    have h3 : ¬ 3 = k := by omega
    constructor
    · rw [← ash_part hA, ← ash_part h]
      show part _ k ((b.streams ++ [s]).zip (l ++ [3])) = _
      rw [hz, part_snoc, if_neg h3]
      rfl
    · rw [← amt_part hA, ← amt_part h]
      show part _ k ((b.streams ++ [s]).zip (l ++ [3])) = _
      rw [hz, part_snoc, if_neg h3]
      rfl
  constructor
  · intro q k hk
    have := q k hk
    rw [(key k hk).1, (key k hk).2] at this
    exact this
  · intro q k hk
    rw [(key k hk).1, (key k hk).2]
    exact q k hk
theorem as_add {b : Blender} {l : List Nat} (h : As b l) (s : Stream) : As { b with streams := b.streams ++ [s] } (l ++ [3]) := ⟨by rw [List.length_append, List.length_append, h.len]; rfl, fun x hx => by
    rcases List.mem_append.mp hx with hx | hx
    · exact h.le x hx
    · rw [List.mem_singleton.mp hx]; exact Nat.le_refl 3⟩
theorem sm_streams {b : Blender} (h : Sm b) {ss : List Stream} (hn : ss.length ≤ 6) (ha : ∀ s ∈ ss, s.amount < big) : Sm { b with streams := ss } := ⟨hn, ha, h.nl, h.np, h.li, h.pr, h.fe⟩
theorem mem_set {α : Type} {l : List α} {n : Nat} {x y : α} (h : y ∈ l.set n x) : y ∈ l ∨ y = x := List.mem_or_eq_of_mem_set h
theorem sm_flour {b : Blender} (h : Sm b) {k l p : Nat} (hl : l < big) (hp : p < big) : Sm { b with limits := b.limits.set k l, prices := b.prices.set k p } :=
  ⟨h.ns, h.am, by show (b.limits.set k l).length = 3; rw [List.length_set, h.nl], by show (b.prices.set k p).length = 3; rw [List.length_set, h.np], fun x hx => by
    rcases mem_set hx with hx | rfl
    · exact h.li x hx
    · exact hl, fun x hx => by
    rcases mem_set hx with hx | rfl
    · exact h.pr x hx
    · exact hp, h.fe⟩
theorem sm_feed {b : Blender} (h : Sm b) {p : Nat} (hp : p < big) : Sm { b with feedPrice := p } := ⟨h.ns, h.am, h.nl, h.np, h.li, h.pr, hp⟩
theorem as_streams {b : Blender} {l : List Nat} (h : As b l) {ss : List Stream} (hn : ss.length = b.streams.length) : As { b with streams := ss } l := ⟨h.len.trans hn.symm, h.le⟩
theorem as_erase {b : Blender} {l : List Nat} (h : As b l) {i : Nat} (hi : i < b.streams.length) : As { b with streams := b.streams.eraseIdx i } (l.eraseIdx i) :=
  ⟨by show (l.eraseIdx i).length = (b.streams.eraseIdx i).length; rw [List.length_eraseIdx_of_lt hi, List.length_eraseIdx_of_lt (by rw [h.len]; exact hi), h.len], fun x hx => h.le x (List.mem_of_mem_eraseIdx hx)⟩
theorem sm_erase {b : Blender} (h : Sm b) (i : Nat) : Sm { b with streams := b.streams.eraseIdx i } := sm_streams h (Nat.le_trans (List.length_eraseIdx_le _ _) h.ns) fun s hs => h.am s (List.mem_of_mem_eraseIdx hs)
theorem as_set {b : Blender} {l : List Nat} (h : As b l) {i k : Nat} (hk : k ≤ 3) : As b (l.set i k) := ⟨by rw [List.length_set, h.len], fun x hx => by
  rcases mem_set hx with hx | rfl
  · exact h.le x hx
  · exact hk⟩
theorem as_valid {b : Blender} {l : List Nat} (h : Kp412.validAssignment b l = true) : As b l := by
  unfold Kp412.validAssignment at h
  rw [Bool.and_eq_true, List.all_eq_true] at h
  exact ⟨of_decide_eq_true h.1, fun x hx => of_decide_eq_true (h.2 x hx)⟩
theorem cur_mem {b : Blender} (w : WF b) : b.assignment ∈ Kp412.feasibleAssignments b := List.mem_filter.mpr ⟨mem_all_of w.as.len w.as.le, w.fea⟩
theorem best_some {b : Blender} (w : WF b) : ∃ l, Kp412.bestAssignment b = some l := highest_some (cur_mem w) _
theorem max_some {b : Blender} (w : WF b) : ∃ l, Kp412.maxFirstFlour b = some l := highest_some (cur_mem w) _
theorem best_mem {b : Blender} {l : List Nat} (h : Kp412.bestAssignment b = some l) : l ∈ Kp412.feasibleAssignments b := by
  obtain ⟨_, _, _, _, hm⟩ := highest_first h
  exact hm
theorem bestRevenue_of {b : Blender} {l : List Nat} (h : Kp412.bestAssignment b = some l) : Kp412.bestRevenue b = Kp412.revenue b l := by
  unfold Kp412.bestRevenue
  rw [h]
/-- sending all to feed is feasible -/
theorem feed_mem {b : Blender} : List.replicate b.streams.length 3 ∈ Kp412.feasibleAssignments b := by
  have hA : As b (List.replicate b.streams.length 3) := ⟨List.length_replicate, fun x hx => by rw [List.eq_of_mem_replicate hx]; exact Nat.le_refl 3⟩
  refine List.mem_filter.mpr ⟨mem_all_of hA.len hA.le, ?_⟩
  rw [feas_eq, List.all_eq_true]
  intro k hk
  have hk3 := List.mem_range.mp hk
  have z : ∀ (e : Stream → Nat) (ss : List Stream), part e k (ss.zip (List.replicate ss.length 3)) = 0 := fun e ss => by
    unfold part
    induction ss with
    | nil => rfl
    | cons s ss ih =>
      rw [List.length_cons, List.replicate_succ, List.zip_cons_cons, List.map_cons, List.sum_cons, ih, if_neg (by omega)]
  rw [← ash_part hA, z]
  exact decide_eq_true (Nat.zero_le _)
theorem best_any (b : Blender) : ∃ l, Kp412.bestAssignment b = some l := highest_some feed_mem _
end Fa
/-! The blender over the heap; what the operations share. -/
namespace Fa
open PySem PySem.Spec PyProof.Rows L2
open Kp412 (Stream Blender)
variable {K : PySem.W.Frag} {H H' H1 H2 : Hp} {σ : L2.St} {ta : TA} {tb te tc : TE} {Z : Ends} {tu tw : TS} {C : Addr} {a : Addr} {b b' : Blender}
theorem lk_here {k : Str} {v : V} {r : List (Str × V)} : List.lookup k ((k, v) :: r) = some v := by
  have e : (k == k) = true := beq_self_eq_true k
  simp only [List.lookup, e]
theorem lk_past {k g : Str} {v : V} {r : List (Str × V)} (h : (k == g) = false) : List.lookup k ((g, v) :: r) = List.lookup k r := by
  simp only [List.lookup, h]
theorem put_here {f : Str} {v x : V} {r : List (Str × V)} : putF f v ((f, x) :: r) = (f, v) :: r := if_pos rfl
theorem put_past {f g : Str} {v x : V} {r : List (Str × V)} (h : ¬ g = f) : putF f v ((g, x) :: r) = (g, x) :: putF f v r := if_neg h
theorem ble_mill (vm va : V) : (bleF vm va).lookup ("mill" : Str) = some vm := lk_here
theorem ble_asg (vm va : V) : (bleF vm va).lookup ("assignment" : Str) = some va := (lk_past (by decide +kernel)).trans lk_here
theorem ble_cha (vm va : V) : (bleF vm va).lookup ("changed" : Str) = none := (lk_past (by decide +kernel)).trans ((lk_past (by decide +kernel)).trans rfl)
theorem ble_putM (vm va y : V) : putF ("mill" : Str) y (bleF vm va) = bleF y va := put_here
theorem ble_putA (vm va y : V) : putF ("assignment" : Str) y (bleF vm va) = bleF vm y := (put_past (by decide +kernel)).trans (congrArg _ put_here)
theorem ble_new (x y : V) : putF ("assignment" : Str) y (putF ("mill" : Str) x []) = bleF x y := (put_past (by decide +kernel)).trans rfl
theorem BleX.cl (h : BleX K C) : Cls K C := ⟨h.c.pg, h.c.hd, h.c.po, h.c.sa⟩
theorem DesX.cl (h : DesX K C) : Cls K C := ⟨h.c.pg, h.c.hd, h.c.po, h.c.sa⟩
theorem BleAt.same (s : Same H H') (h : BleAt K C H a b) : BleAt K C H' a b := by
  obtain ⟨dx, vm, va, h1, h2, h3⟩ := h
  exact ⟨dx, vm, va, s _ _ h1, h2.same s, h3.same s⟩
theorem BleAt.keepT (h : BleAt K C H a b) (k : But a H H') : KeepT H H' := by
  obtain ⟨dx, vm, va, h1, h2, h3⟩ := h
  exact keepT_but (noRd_ins h1) k
theorem ed_mill (hB : BleX K C) {i : Nat} (hi : σ[i]? = some (some (.ref a))) (h : BleAt K C H a b) : EvD K (tFld K (tVar i) "mill") σ H (millD b) := fun H1 s Q q => by
  obtain ⟨dx, vm, va, h1, h2, h3⟩ := h
  exact ⟨.ref a, hi, a, C, dx, _, vm, rfl, s _ _ h1, hB.cl, hB.nM, ble_mill _ _, q _ _ (.refl _) (h2.same s)⟩
theorem ed_asgn (hB : BleX K C) {i : Nat} (hi : σ[i]? = some (some (.ref a))) (h : BleAt K C H a b) : EvD K (tFld K (tVar i) "assignment") σ H (asgD b.assignment) := fun H1 s Q q => by
  obtain ⟨dx, vm, va, h1, h2, h3⟩ := h
  exact ⟨.ref a, hi, a, C, dx, _, va, rfl, s _ _ h1, hB.cl, hB.nA, ble_asg _ _, q _ _ (.refl _) (h3.same s)⟩
/-- blender.changed(mill, assignment) -/
theorem ev_changed {i : Nat} {b2 : Blender} {l : List Nat} {E : XK} {Q : VK} (hi : σ[i]? = some (some (.ref a))) (hb : BleAt K C H a b) (h : EvA K ta σ H [millD b2, asgD l]) (hA : As b2 l) (hS : Sm b2)
    (h1 : Kp412.feasible b2 l = true → ∀ H', BleAt K C H' a { b2 with assignment := l } → But a H H' → Q (.bl true) H') (h2 : Kp412.feasible b2 l = false → ∀ H', Same H H' → Q (.bl false) H') :
    tMeth C "changed" (spChanged K C) [] E (tVar i) ta σ H Q := by
  obtain ⟨dx, vm, va, e1, e2, e3⟩ := hb
  refine ⟨.ref a, hi, a, dx, _, rfl, e1, ble_cha _ _, h H (.refl _) _ fun vs H2 s2 r => ?_⟩
  obtain ⟨m, s, rfl, rm, rs⟩ := reps2 r
  exact ⟨a, dx, m, s, vm, va, b2, l, rfl, s2 _ _ e1, rm, rs, hA, hS, fun hf H' hb' bt => h1 hf H' hb' ((But.of s2).trans bt), fun hf H' s3 => h2 hf H' (s2.trans s3)⟩
theorem s_changed {i : Nat} {b2 : Blender} {l : List Nat} {E : XK} (hi : σ[i]? = some (some (.ref a))) (hb : BleAt K C H a b) (h : EvA K ta σ H [millD b2, asgD l]) (hA : As b2 l) (hS : Sm b2) (hf : Kp412.feasible b2 l = true)
    (k : ∀ H', BleAt K C H' a { b2 with assignment := l } → But a H H' → Z.nx σ H') : tDrop (tMeth C "changed" (spChanged K C) [] E (tVar i) ta) Z σ H :=
  ev_changed (Q := fun _ H1 => Z.nx σ H1) hi hb h hA hS (fun _ H' x y => k H' x y) fun e => by rw [hf] at e; cases e
theorem s_ifch {i : Nat} {b2 : Blender} {l : List Nat} {E : XK} (hi : σ[i]? = some (some (.ref a))) (hb : BleAt K C H a b) (h : EvA K ta σ H [millD b2, asgD l]) (hA : As b2 l) (hS : Sm b2)
    (h1 : Kp412.feasible b2 l = true → ∀ H', BleAt K C H' a { b2 with assignment := l } → But a H H' → tw Z σ H') (h2 : Kp412.feasible b2 l = false → ∀ H', Same H H' → tu Z σ H') :
    tIfS (tNot (tB (tMeth C "changed" (spChanged K C) [] E (tVar i) ta))) tu tw Z σ H :=
  ev_changed hi hb h hA hS (fun hf H' x y => ⟨true, rfl, iteF (h1 hf H' x y)⟩) fun hf H' s => ⟨false, rfl, iteT (h2 hf H' s)⟩
/-- o.f = e -/
theorem s_fld {i : Nat} {f : Str} {dx : Addr} {fs : List (Str × V)} {tv : TE} {d : D} (hv : EvD K tv σ H d) (hi : σ[i]? = some (some (.ref a))) (ha : H a = some (.ins C dx fs)) (cl : Cls K C) (na : NoAttr K C f) (hl : fs.length < 1000)
    (k : ∀ v H1, Same H H1 → Rep K H1 d v → Z.nx σ (upd H1 a (.ins C dx (putF f v fs)))) : sFld K (tVar i) tv f Z σ H :=
  hv H (.refl _) _ fun v H1 s r => ⟨.ref a, hi, a, C, dx, fs, rfl, s _ _ ha, cl, na, hl, k v H1 s r⟩
theorem s_next (h : Z.nx σ H) : tNext Z σ H := h
theorem stepIs_of {c : Kp412.Call} {b1 : Blender} {out : List Int} {an : Kp412.Ans} (h : StepIs b c b' out) (e : Kp412.step (some b) c = (some b1, an)) : b' = b1 ∧ out = an.num :: an.nums := by
  obtain ⟨h1, h2⟩ := h
  rw [e] at h1 h2
  exact ⟨(Option.some.inj h1).symm, h2⟩
/-- what an operation wants behind it -/
def OpK (K : PySem.W.Frag) (C a : Addr) (H : Hp) (b' : Blender) (out : List Int) (Q : VK) : Prop := ∀ p H', H p = none → But a H H' → BleAt K C H' a b' → H' p = some (.lst (out.map V.int)) → Q (.ref p) H'
theorem But.free {p : Addr} (k : But a H H') (ha : H a ≠ none) (hp : H' p = none) (hpa : H' a ≠ none) : H p = none := by
  cases q : H p with
  | none => rfl
  | some o =>
    by_cases e : p = a
    · subst e; exact absurd hp hpa
    · rw [k p o q e] at hp; cases hp
/-- the answer is made: behind a change, or without one -/
theorem s_ans {c : Kp412.Call} {out : List Int} {Q : VK} {b1 : Blender} {an : Kp412.Ans} {nx : L2.St → Hp → Prop} {bk ct : L2.St → Hp → Prop} (k : OpK K C a H b' out Q) (hs : StepIs b c b' out) (e : Kp412.step (some b) c = (some b1, an)) (ha : H a ≠ none) (t : But a H H1) (hb : BleAt K C H1 a b1)
    (h : EvN K te σ H1 ((an.num :: an.nums).map D.int)) : tRet te ⟨nx, Q, bk, ct⟩ σ H1 := by
  obtain ⟨rfl, rfl⟩ := stepIs_of hs e
  refine h H1 (.refl _) _ fun p vs H2 hp s2 h2 r => ?_
  rw [r.ints_eq] at h2
  have hn : H1 a ≠ none := by
    obtain ⟨dx, vm, va, e1, _⟩ := hb
    rw [e1]; exact fun z => nomatch z
  exact k p H2 (But.free t ha hp hn) (t.trans (But.of s2)) (hb.same s2) h2
theorem BleAt.some (h : BleAt K C H a b) : H a ≠ none := by
  obtain ⟨dx, vm, va, e1, _⟩ := h
  rw [e1]; exact fun z => nomatch z
end Fa
namespace Fa
open PySem PySem.Spec PyProof.Rows L2
open Kp412 (Stream Blender)
section
variable {P : Program} {w : World} {K : PySem.W.Frag} {mg : Str → Option Value} {base : Heap} {C CD : Addr}
local macro_rules | `(tactic| walk_at "fa_rd") => `(tactic| first
  | exact rd_I0 | exact rd_B0 | exact rd_eq
  | exact rd_ixT (n := 0) rfl rfl | exact rd_ixT (n := 1) rfl rfl | exact rd_ixT (n := 2) rfl rfl
  | exact rd_ixL (n := 0) rfl rfl | exact rd_ixL (n := 1) rfl rfl | exact rd_ixL (n := 2) rfl rfl
  | exact rd_catA (by simp) )
local macro_rules | `(tactic| walk_at "fa_ev") => `(tactic| first
  | exact ed_int | exact ed_bl
  | (refine ed_var rfl ?_; assumption)
  | (refine ed_op ?_ ?_ ?_; focus walk_at "fa_ev"; focus walk_at "fa_ev"; focus walk_at "fa_rd")
  | (refine ed_cb ?_ ?_; focus walk_at "fa_ea"; focus (first | exact rc_lenT | exact rc_lenL))
  | (refine ed_tup ?_ ?_; focus walk_at "fa_ea"; focus (simp; done)))
local macro_rules | `(tactic| walk_at "fa_ea") => `(tactic| first
  | exact ea_nil
  | (refine ea_cons ?_ ?_; focus walk_at "fa_ev"; focus walk_at "fa_ea"))

theorem sc_Blender_init : FnScope ["self", "feed_price"] ["self", "feed_price"] (C8.fnScope (inClass (top 31) 0)) := C8.fnScope_by (by decide +kernel)
theorem ok_Blender_init (hB : BleX K C) (T : Tx K mg) (c_new_mill : C8.Cal P w K mg base 1 "new_mill" (spD K R_new_mill) []) : C8.Mak P w K mg base 2 "Blender" C (spIniB K C) [] := by
  obtain ⟨f, fd, h1, h2, h3, h4, h5⟩ := hB.ini
  refine C8.mak0 (N := ["self", "feed_price"]) (ps := ["self", "feed_price"]) ⟨hB.c.mks, h1, h2, hB.c.kc⟩ (T.yes _ _ hB.c.nm) h3 (h3.binds h4 (fun _ _ _ _ _ _ us hl => match us, hl with | [_, _], _ => rfl)) .nil sc_Blender_init (fun vs H Q E h => by obtain ⟨_, _, _, rfl, _⟩ := h; rfl) (fun cdv A outer s H vs Q E hr h => ⟨_, (pss_cons (ps_fld (pv 0) (C8.pe_c c_new_mill hr (by decide) rfl (pa_cons (pv 1) pa_nil)) rfl)
      (pss_one (ps_fld (pv 0) (pe_tup pa_nil) rfl))), ?_⟩)
  obtain ⟨p, dx, q, rfl, hp, k⟩ := h
  refine s_seq (s_fld (K := K) (ed_call (ea_cons (ed_var rfl .int) ea_nil) (.mk q)) rfl hp hB.cl hB.nM (by show 0 < 1000; decide) fun y H1 s1 ry => ?_)
  refine s_nx (s_fld (K := K) (ed_tup ea_nil (Nat.le_of_ble_eq_true rfl)) rfl upd_same hB.cl hB.nA (by show 1 < 1000; decide) fun z H2 s2 rz => ?_)
  have hp1 := s1 _ _ hp
  have hp2 := s2 _ _ (upd_same (H := H1) (a := p) (o := .ins C dx (putF "mill" y [])))
  have kt : KeepT H1 (upd H2 p (.ins C dx (putF "assignment" z (putF "mill" y [])))) := (keepT_upd (noRd_ins hp1)).trans ((keepT_of s2).trans (keepT_upd (noRd_ins hp2)))
  refine k _ ⟨dx, y, z, upd_same.trans (congrArg (fun q => some (HO.ins C dx q)) (ble_new y z)), stab_mill _ _ _ _ _ kt ry, stab_asg [] _ _ _ _ (keepT_upd (noRd_ins hp2)) rz⟩ ?_
  exact ((But.of s1).trans but_upd).trans ((But.of s2).trans but_upd)
theorem sc_Blender_changed : FnScope ["self", "mill", "assignment"] ["self", "mill", "assignment"] (C8.fnScope (inClass (top 31) 1)) := C8.fnScope_by (by decide +kernel)
theorem ok_Blender_changed (hB : BleX K C) (T : Tx K mg) (c_is_feasible : C8.Cal P w K mg base 2 "is_feasible" (spD K R_is_feasible) []) : C8.Met P w K mg base 3 C "changed" (spChanged K C) [] := by
  obtain ⟨f, fd, h1, h2, h3, h4, h5⟩ := hB.cha
  refine C8.met0 (N := ["self", "mill", "assignment"]) (ps := ["self", "mill", "assignment"]) hB.cl ⟨h1, h2, h5⟩ h3 (h3.binds h4 (fun _ _ _ _ _ _ us hl => match us, hl with | [_, _, _], _ => rfl)) sc_Blender_changed (fun vs H Q E h => by obtain ⟨_, _, _, _, _, _, _, _, rfl, _⟩ := h; rfl) (fun cdv A outer s H vs Q E hr h => ⟨_, (pss_cons (ps_if (pt_not (pt_val (C8.pe_c c_is_feasible hr (by decide) rfl (pa_cons (pv 1) (pa_cons (pv 2) pa_nil))))) (pss_one (ps_ret pe_bl)) pss_nil)
      (pss_cons (ps_fld (pv 0) (pv 1) rfl)
      (pss_cons (ps_fld (pv 0) (pv 2) rfl)
      (pss_one (ps_ret pe_bl))))), ?_⟩)
  obtain ⟨a, dx, m, sv, vm, va, b, l, rfl, ha, rm, rsv, hA, hS, k1, k2⟩ := h
  refine s_seq (s_if (et_not (et_B (ed_call (K := K) (ea_cons (ed_var rfl rm) (ea_cons (ed_var rfl rsv) ea_nil)) (.mk b l hA hS)))) (fun hb H1 s1 => ?_) (fun hb H1 s1 => ?_))
  · have hf : Kp412.feasible b l = false := by
      cases hx : Kp412.feasible b l
      · rfl
      · rw [hx] at hb; cases hb
    exact s_ret (K := K) ed_bl fun v H2 s2 rv => by cases rv; exact k2 hf H2 (s1.trans s2)
  · have hf : Kp412.feasible b l = true := by
      cases hx : Kp412.feasible b l
      · rw [hx] at hb; cases hb
      · rfl
    have ha1 := s1 _ _ ha
    refine s_next (s_nx (s_seq (s_fld (K := K) (ed_var rfl (rm.same s1)) rfl ha1 hB.cl hB.nM (by show 2 < 1000; decide) fun y H2 s2 ry => ?_)))
    have ha2 := s2 _ _ ha1
    have kt2 : KeepT H2 (upd H2 a (.ins C dx (putF "mill" y (bleF vm va)))) := keepT_upd (noRd_ins ha2)
    refine s_nx (s_seq (s_fld (K := K) (ed_var rfl (stab_asg l _ _ _ _ kt2 (rsv.same (s1.trans s2)))) rfl upd_same hB.cl hB.nA (by rw [ble_putM]; show 2 < 1000; decide) fun z H3 s3 rz => ?_))
    have ha3 := s3 _ _ (upd_same (H := H2) (a := a) (o := .ins C dx (putF "mill" y (bleF vm va))))
    refine s_nx (s_ret (K := K) ed_bl fun v H4 s4 rv => ?_)
    cases rv
    have kt3 := (keepT_upd (o := .ins C dx (putF "assignment" z (putF "mill" y (bleF vm va)))) (noRd_ins ha3)).trans (keepT_of s4)
    refine k1 hf H4 ⟨dx, y, z, s4 _ _ (upd_same.trans (congrArg (fun q => some (HO.ins C dx q)) ?_)), stab_mill _ _ _ _ _ (kt2.trans ((keepT_of s3).trans kt3)) ry, stab_asg _ _ _ _ _ kt3 rz⟩ ((But.of s1).trans ((But.of s2).trans (but_upd.trans ((But.of s3).trans (but_upd.trans (But.of s4))))))
    rw [ble_putM, ble_putA]
end
end Fa
namespace Fa
open PySem PySem.Spec PyProof.Rows L2
open Kp412 (Stream Blender)
section
variable {P : Program} {w : World} {K : PySem.W.Frag} {mg : Str → Option Value} {base : Heap} {C CD : Addr}
local macro_rules | `(tactic| walk_at "fa_rd") => `(tactic| first
  | exact rd_I0 | exact rd_B0 | exact rd_eq
  | exact rd_ixT (n := 0) rfl rfl | exact rd_ixT (n := 1) rfl rfl | exact rd_ixT (n := 2) rfl rfl
  | exact rd_ixL (n := 0) rfl rfl | exact rd_ixL (n := 1) rfl rfl | exact rd_ixL (n := 2) rfl rfl
  | exact rd_catA (by simp) )
local macro_rules | `(tactic| walk_at "fa_ev") => `(tactic| first
  | exact ed_int | exact ed_bl
  | (refine ed_var rfl ?_; assumption)
  | (refine ed_op ?_ ?_ ?_; focus walk_at "fa_ev"; focus walk_at "fa_ev"; focus walk_at "fa_rd")
  | (refine ed_cb ?_ ?_; focus walk_at "fa_ea"; focus (first | exact rc_lenT | exact rc_lenL))
  | (refine ed_tup ?_ ?_; focus walk_at "fa_ea"; focus (simp; done)))
local macro_rules | `(tactic| walk_at "fa_ea") => `(tactic| first
  | exact ea_nil
  | (refine ea_cons ?_ ?_; focus walk_at "fa_ev"; focus walk_at "fa_ea"))

theorem sc_add_stream : FnScope ["blender", "numbers", "amount", "ash", "streams"] ["blender", "numbers"] (C8.fnScope (top 41)) := C8.fnScope_by (by decide +kernel)
theorem ok_add_stream (T : Tx K mg) (hB : BleX K C) (c_are_amount_and_ash : C8.Cal P w K mg base 1 "are_amount_and_ash" (spD K R_are_amount_and_ash) []) (c_with_streams : C8.Cal P w K mg base 1 "with_streams" (spD K R_with_streams) []) (c_changed : C8.Met P w K mg base 3 C "changed" (spChanged K C) []) : C8.Cal P w K mg base 4 "add_stream" (spOp K C R_add_stream) [] := by
  obtain ⟨f, fd, h1, h2, h3, h4⟩ := T.F.d_add_stream
  refine C8.cal0 (N := ["blender", "numbers", "amount", "ash", "streams"]) (ps := ["blender", "numbers"]) ⟨h2, T.yes _ _ h1, h4⟩ (h2.binds h3 (fun _ _ _ _ _ _ us hl => match us, hl with | [_, _], _ => rfl)) .nil sc_add_stream (fun vs H Q E h => spOp_len h) (fun cdv A outer s H vs Q E hr h => ⟨_, (pss_cons (ps_asg (pv 1) (pg_unl (n := 2) rfl (pgs_cons (pg_name (i := 2) sc_add_stream.nd rfl (by first | exact Or.inl rfl | exact Or.inr rfl)) (pgs_cons (pg_name (i := 3) sc_add_stream.nd rfl (by first | exact Or.inl rfl | exact Or.inr rfl)) pgs_nil))))
      (pss_cons (ps_set (i := 4) sc_add_stream.nd rfl (by first | exact Or.inl rfl | exact Or.inr rfl) (pe_ix ix_tup (pe_fld (pv 0) rfl) pe_int (fun _ _ => rfl)))
      (pss_cons (ps_if (pt_not (pt_val (C8.pe_c c_are_amount_and_ash hr (by decide) rfl (pa_cons (pv 2) (pa_cons (pv 3) pa_nil))))) (pss_one (ps_ret (pe_lst (pa_cons (C8.pe_gc rfl (T.int T.F.i_OUTSIDE)) pa_nil)))) pss_nil)
      (pss_cons (ps_if (pt_cmpR op_eq (pe_callB call_len_seq (by rfl) (T.no T.F.b_len) (by decide +kernel) (pa_cons (pv 4) pa_nil)) (C8.pe_gc rfl (T.int T.F.i_MOST_STREAMS)) (nomark _)) (pss_one (ps_ret (pe_lst (pa_cons (C8.pe_gc rfl (T.int T.F.i_TOO_MANY)) pa_nil)))) pss_nil)
      (pss_cons (ps_expr (C8.pe_mt c_changed hr (by decide) (pv 0) (pa_cons (C8.pe_c c_with_streams hr (by decide) rfl (pa_cons (pe_fld (pv 0) rfl) (pa_cons (pe_op op_catA (pv 4) (pe_tup (pa_cons (pe_tup (pa_cons (pv 2) (pa_cons (pv 3) pa_nil))) pa_nil))) pa_nil))) (pa_cons (pe_op op_catA (pe_fld (pv 0) rfl) (pe_tup (pa_cons (C8.pe_gc rfl (T.int T.F.i_FEED)) pa_nil))) pa_nil))))
      (pss_one (ps_ret (pe_lst (pa_cons (pe_callB call_len_seq (by rfl) (T.no T.F.b_len) (by decide +kernel) (pa_cons (pv 4) pa_nil)) pa_nil))))))))), ?_⟩)
  obtain ⟨a, x, b, b', ns, out, rfl, hb, rx, hR, k⟩ := h
  cases hR with | mk m s0 wf hm hs h =>
  refine s_seq (s_unl (K := K) (l := [.int m, .int s0]) (ed_var rfl rx) rfl fun vs H1 s1 rv => ?_)
  obtain ⟨y, z, rfl, ry, rz⟩ := reps2 rv
  cases ry; cases rz
  have hb1 := hb.same s1
  refine ⟨_, _, rfl, _, _, rfl, rfl, ?_⟩
  refine s_nx (s_seq (s_asg (K := K) (ed_op (ed_mill hB rfl hb1) ed_int (rd_ixT (n := 0) rfl rfl)) fun v4 H2 s2 r4 => ?_))
  have hb2 := hb1.same s2
  refine s_nx (s_seq (s_if (et_not (et_B (ed_call (K := K) (ea_cons (ed_var rfl .int) (ea_cons (ed_var rfl .int) ea_nil)) (.mk m s0)))) (fun hv H3 s3 => ?_) (fun hv H3 s3 => ?_)))
  · have hv' : Kp412.validStream m s0 = false := by simpa using hv
    exact s_ans k h (by exact if_pos hv') hb.some ((But.of s1).trans ((But.of s2).trans (But.of s3))) (hb2.same s3) (en_lst (ea_cons ed_int ea_nil) (Nat.le_of_ble_eq_true rfl))
  · have hv' : ¬ Kp412.validStream m s0 = false := by simpa using hv
    have hb3 := hb2.same s3
    refine s_next (s_nx (s_seq (s_if (et_test (ed_op (ed_cb (ea_cons (ed_var rfl (r4.same s3)) ea_nil) rc_lenT) ed_int rd_eq)) (fun hc H4 s4 => ?_) (fun hc H4 s4 => ?_))))
    · have hc' : Kp412.maxStreams ≤ b.streams.length := by
        have := of_decide_eq_true hc
        rw [List.length_map] at this
        show 6 ≤ _
        omega
      exact s_ans k h ((if_neg hv').trans (if_pos hc')) hb.some ((But.of s1).trans ((But.of s2).trans ((But.of s3).trans (But.of s4)))) (hb3.same s4) (en_lst (ea_cons ed_int ea_nil) (Nat.le_of_ble_eq_true rfl))
    · have hc' : ¬ Kp412.maxStreams ≤ b.streams.length := by
        have := of_decide_eq_false hc
        rw [List.length_map] at this
        have := wf.sm.ns
        show ¬ 6 ≤ _
        omega
      have hb4 := hb3.same s4
      have h6 : b.streams.length ≤ 5 := by have : ¬ 6 ≤ b.streams.length := hc'; omega
      have hS : Sm { b with streams := b.streams ++ [⟨m, s0⟩] } := sm_streams wf.sm (by rw [List.length_append, List.length_singleton]; omega) fun s hs' => by
        rcases List.mem_append.mp hs' with hs' | hs'
        · exact wf.sm.am s hs'
        · rw [List.mem_singleton.mp hs']; exact hm
      refine s_next (s_nx (s_seq (s_changed (b2 := { b with streams := b.streams ++ [⟨m, s0⟩] }) (l := b.assignment ++ [3]) rfl hb4 (ea_cons (ed_call (ea_cons (ed_mill hB rfl hb4) (ea_cons (EvD.is (ed_op (ed_var rfl (r4.same (s3.trans s4))) (ed_tup (ea_cons (ed_tup (ea_cons (ed_var rfl .int) (ea_cons (ed_var rfl .int) ea_nil)) (Nat.le_of_ble_eq_true rfl)) ea_nil) (Nat.le_of_ble_eq_true rfl)) (rd_catA ?_)) ?_) ea_nil)) (.mk b _)) (ea_cons (EvD.is (ed_op (ed_asgn hB rfl hb4) (ed_tup (ea_cons ed_int ea_nil) (Nat.le_of_ble_eq_true rfl)) (rd_catA ?_)) ?_) ea_nil)) (as_add wf.as _) hS ((feas_add wf.as _).trans wf.fea) fun H5 hb5 t5 => ?_)))
      · rw [List.length_map, List.length_singleton]; omega
      · unfold strsD; rw [List.map_append]; rfl
      · rw [List.length_map, List.length_singleton, wf.as.len]; omega
      · unfold asgD; rw [List.map_append]; rfl
      · have r5 := stab_strs b.streams _ _ _ _ (hb4.keepT t5) (r4.same (s3.trans s4))
        refine s_nx (s_ans k h ((if_neg hv').trans (if_neg hc')) hb.some ((But.of s1).trans ((But.of s2).trans ((But.of s3).trans ((But.of s4).trans t5)))) hb5 (en_lst (ea_cons ((ed_cb (ea_cons (ed_var rfl r5) ea_nil) rc_lenT).is ?_) ea_nil) (Nat.le_of_ble_eq_true rfl)))
        rw [List.length_map]; rfl
end
end Fa
namespace Fa
open PySem PySem.Spec PyProof.Rows L2
open Kp412 (Stream Blender)
section
variable {P : Program} {w : World} {K : PySem.W.Frag} {mg : Str → Option Value} {base : Heap} {C CD : Addr}
local macro_rules | `(tactic| walk_at "fa_rd") => `(tactic| first
  | exact rd_I0 | exact rd_B0 | exact rd_eq
  | exact rd_ixT (n := 0) rfl rfl | exact rd_ixT (n := 1) rfl rfl | exact rd_ixT (n := 2) rfl rfl
  | exact rd_ixL (n := 0) rfl rfl | exact rd_ixL (n := 1) rfl rfl | exact rd_ixL (n := 2) rfl rfl
  | exact rd_catA (by simp) )
local macro_rules | `(tactic| walk_at "fa_ev") => `(tactic| first
  | exact ed_int | exact ed_bl
  | (refine ed_var rfl ?_; assumption)
  | (refine ed_op ?_ ?_ ?_; focus walk_at "fa_ev"; focus walk_at "fa_ev"; focus walk_at "fa_rd")
  | (refine ed_cb ?_ ?_; focus walk_at "fa_ea"; focus (first | exact rc_lenT | exact rc_lenL))
  | (refine ed_tup ?_ ?_; focus walk_at "fa_ea"; focus (simp; done)))
local macro_rules | `(tactic| walk_at "fa_ea") => `(tactic| first
  | exact ea_nil
  | (refine ea_cons ?_ ?_; focus walk_at "fa_ev"; focus walk_at "fa_ea"))

theorem sc_remove_stream : FnScope ["blender", "numbers", "stream", "mill"] ["blender", "numbers"] (C8.fnScope (top 42)) := C8.fnScope_by (by decide +kernel)
theorem ok_remove_stream (T : Tx K mg) (hB : BleX K C) (c_has_stream : C8.Cal P w K mg base 1 "has_stream" (spD K R_has_stream) []) (c_with_streams : C8.Cal P w K mg base 1 "with_streams" (spD K R_with_streams) []) (c_without : C8.Cal P w K mg base 1 "without" (spD K R_without) []) (c_changed : C8.Met P w K mg base 3 C "changed" (spChanged K C) []) : C8.Cal P w K mg base 4 "remove_stream" (spOp K C R_remove_stream) [] := by
  obtain ⟨f, fd, h1, h2, h3, h4⟩ := T.F.d_remove_stream
  refine C8.cal0 (N := ["blender", "numbers", "stream", "mill"]) (ps := ["blender", "numbers"]) ⟨h2, T.yes _ _ h1, h4⟩ (h2.binds h3 (fun _ _ _ _ _ _ us hl => match us, hl with | [_, _], _ => rfl)) .nil sc_remove_stream (fun vs H Q E h => spOp_len h) (fun cdv A outer s H vs Q E hr h => ⟨_, (pss_cons (ps_set (i := 2) sc_remove_stream.nd rfl (by first | exact Or.inl rfl | exact Or.inr rfl) (pe_ix ix_list (pv 1) pe_int (fun _ _ => rfl)))
      (pss_cons (ps_if (pt_not (pt_val (C8.pe_c c_has_stream hr (by decide) rfl (pa_cons (pe_fld (pv 0) rfl) (pa_cons (pv 2) pa_nil))))) (pss_one (ps_ret (pe_lst (pa_cons (C8.pe_gc rfl (T.int T.F.i_NOT_THERE)) pa_nil)))) pss_nil)
      (pss_cons (ps_set (i := 3) sc_remove_stream.nd rfl (by first | exact Or.inl rfl | exact Or.inr rfl) (C8.pe_c c_with_streams hr (by decide) rfl (pa_cons (pe_fld (pv 0) rfl) (pa_cons (C8.pe_c c_without hr (by decide) rfl (pa_cons (pe_ix ix_tup (pe_fld (pv 0) rfl) pe_int (fun _ _ => rfl)) (pa_cons (pv 2) pa_nil))) pa_nil))))
      (pss_cons (ps_if (pt_not (pt_val (C8.pe_mt c_changed hr (by decide) (pv 0) (pa_cons (pv 3) (pa_cons (C8.pe_c c_without hr (by decide) rfl (pa_cons (pe_fld (pv 0) rfl) (pa_cons (pv 2) pa_nil))) pa_nil))))) (pss_one (ps_ret (pe_lst (pa_cons (C8.pe_gc rfl (T.int T.F.i_EXCEEDS)) pa_nil)))) pss_nil)
      (pss_one (ps_ret (pe_lst (pa_cons (pe_callB call_len_seq (by rfl) (T.no T.F.b_len) (by decide +kernel) (pa_cons (pe_ix ix_tup (pv 3) pe_int (fun _ _ => rfl)) pa_nil)) pa_nil)))))))), ?_⟩)
  obtain ⟨a, x, b, b', ns, out, rfl, hb, rx, hR, k⟩ := h
  cases hR with | mk i wf h =>
  refine s_seq (s_asg (K := K) (ed_op (ed_var rfl rx) ed_int (rd_ixL (n := 0) rfl rfl)) fun v2 H1 s1 r2 => ?_)
  cases r2
  have hb1 := hb.same s1
  refine s_nx (s_seq (s_if (et_not (et_B (ed_call (K := K) (ea_cons (ed_mill hB rfl hb1) (ea_cons (ed_var rfl .int) ea_nil)) (.mk b i)))) (fun hv H2 s2 => ?_) (fun hv H2 s2 => ?_)))
  · have hv' : ¬ Kp412.isStream b i = true := by simpa using hv
    exact s_ans k h (by exact if_neg hv') hb.some ((But.of s1).trans (But.of s2)) (hb1.same s2) (en_lst (ea_cons ed_int ea_nil) (Nat.le_of_ble_eq_true rfl))
  · have hv' : Kp412.isStream b i = true := by simpa using hv
    have hi : i < b.streams.length := of_decide_eq_true hv'
    have hb2 := hb1.same s2
    have h6 := wf.sm.ns
    refine s_next (s_nx (s_seq (s_asg (K := K) (EvD.is (ed_call (ea_cons (ed_mill hB rfl hb2) (ea_cons (EvD.is (ed_call (ea_cons (ed_op (ed_mill hB rfl hb2) ed_int (rd_ixT (n := 0) rfl rfl)) (ea_cons (ed_var rfl .int) ea_nil)) (.mk (b.streams.map strD) i ?_ ?_)) ?_) ea_nil)) (.mk b (b.streams.eraseIdx i))) rfl) fun v3 H3 s3 r3 => ?_)))
    · rw [List.length_map]; exact hi
    · rw [List.length_map]; omega
    · unfold strsD; rw [erase_map]
    · have hb3 := hb2.same s3
      refine s_nx (s_seq (s_ifch (b2 := { b with streams := b.streams.eraseIdx i }) (l := b.assignment.eraseIdx i) rfl hb3 (ea_cons (ed_var rfl r3) (ea_cons (EvD.is (ed_call (ea_cons (ed_asgn hB rfl hb3) (ea_cons (ed_var rfl .int) ea_nil)) (.mk (b.assignment.map natD) i ?_ ?_)) ?_) ea_nil)) (as_erase wf.as hi) (sm_erase wf.sm i) (fun hf H4 hb4 t4 => ?_) fun hf H4 s4 => ?_))
      · rw [List.length_map, wf.as.len]; exact hi
      · rw [List.length_map, wf.as.len]; omega
      · unfold asgD; rw [erase_map]
      · have r4 := stab_mill _ _ _ _ _ (hb3.keepT t4) r3
        refine s_next (s_nx (s_ans k h ((if_pos hv').trans (if_pos hf)) hb.some ((But.of s1).trans ((But.of s2).trans ((But.of s3).trans t4))) hb4 (en_lst (ea_cons ((ed_cb (ea_cons (ed_op (ed_var rfl r4) ed_int (rd_ixT (n := 0) rfl rfl)) ea_nil) rc_lenT).is ?_) ea_nil) (Nat.le_of_ble_eq_true rfl))))
        rw [List.length_map, List.length_eraseIdx_of_lt hi]; rfl
      · have hf' : ¬ Kp412.feasible { b with streams := b.streams.eraseIdx i } (b.assignment.eraseIdx i) = true := by rw [hf]; exact Bool.false_ne_true
        exact s_ans k h ((if_pos hv').trans (if_neg hf')) hb.some ((But.of s1).trans ((But.of s2).trans ((But.of s3).trans (But.of s4)))) (hb3.same s4) (en_lst (ea_cons ed_int ea_nil) (Nat.le_of_ble_eq_true rfl))
end
end Fa
namespace Fa
open PySem PySem.Spec PyProof.Rows L2
open Kp412 (Stream Blender)
section
variable {P : Program} {w : World} {K : PySem.W.Frag} {mg : Str → Option Value} {base : Heap} {C CD : Addr}
local macro_rules | `(tactic| walk_at "fa_rd") => `(tactic| first
  | exact rd_I0 | exact rd_B0 | exact rd_eq
  | exact rd_ixT (n := 0) rfl rfl | exact rd_ixT (n := 1) rfl rfl | exact rd_ixT (n := 2) rfl rfl
  | exact rd_ixL (n := 0) rfl rfl | exact rd_ixL (n := 1) rfl rfl | exact rd_ixL (n := 2) rfl rfl
  | exact rd_catA (by simp) )
local macro_rules | `(tactic| walk_at "fa_ev") => `(tactic| first
  | exact ed_int | exact ed_bl
  | (refine ed_var rfl ?_; assumption)
  | (refine ed_op ?_ ?_ ?_; focus walk_at "fa_ev"; focus walk_at "fa_ev"; focus walk_at "fa_rd")
  | (refine ed_cb ?_ ?_; focus walk_at "fa_ea"; focus (first | exact rc_lenT | exact rc_lenL))
  | (refine ed_tup ?_ ?_; focus walk_at "fa_ea"; focus (simp; done)))
local macro_rules | `(tactic| walk_at "fa_ea") => `(tactic| first
  | exact ea_nil
  | (refine ea_cons ?_ ?_; focus walk_at "fa_ev"; focus walk_at "fa_ea"))

theorem sc_set_stream : FnScope ["blender", "numbers", "stream", "amount", "ash", "old_amount", "old_ash", "streams"] ["blender", "numbers"] (C8.fnScope (top 43)) := C8.fnScope_by (by decide +kernel)
theorem ok_set_stream (T : Tx K mg) (hB : BleX K C) (c_has_stream : C8.Cal P w K mg base 1 "has_stream" (spD K R_has_stream) []) (c_are_amount_and_ash : C8.Cal P w K mg base 1 "are_amount_and_ash" (spD K R_are_amount_and_ash) []) (c_replaced : C8.Cal P w K mg base 1 "replaced" (spD K R_replaced) []) (c_with_streams : C8.Cal P w K mg base 1 "with_streams" (spD K R_with_streams) []) (c_changed : C8.Met P w K mg base 3 C "changed" (spChanged K C) []) : C8.Cal P w K mg base 4 "set_stream" (spOp K C R_set_stream) [] := by
  obtain ⟨f, fd, h1, h2, h3, h4⟩ := T.F.d_set_stream
  refine C8.cal0 (N := ["blender", "numbers", "stream", "amount", "ash", "old_amount", "old_ash", "streams"]) (ps := ["blender", "numbers"]) ⟨h2, T.yes _ _ h1, h4⟩ (h2.binds h3 (fun _ _ _ _ _ _ us hl => match us, hl with | [_, _], _ => rfl)) .nil sc_set_stream (fun vs H Q E h => spOp_len h) (fun cdv A outer s H vs Q E hr h => ⟨_, (pss_cons (ps_asg (pv 1) (pg_unl (n := 3) rfl (pgs_cons (pg_name (i := 2) sc_set_stream.nd rfl (by first | exact Or.inl rfl | exact Or.inr rfl)) (pgs_cons (pg_name (i := 3) sc_set_stream.nd rfl (by first | exact Or.inl rfl | exact Or.inr rfl)) (pgs_cons (pg_name (i := 4) sc_set_stream.nd rfl (by first | exact Or.inl rfl | exact Or.inr rfl)) pgs_nil)))))
      (pss_cons (ps_if (pt_not (pt_val (C8.pe_c c_has_stream hr (by decide) rfl (pa_cons (pe_fld (pv 0) rfl) (pa_cons (pv 2) pa_nil))))) (pss_one (ps_ret (pe_lst (pa_cons (C8.pe_gc rfl (T.int T.F.i_NOT_THERE)) pa_nil)))) pss_nil)
      (pss_cons (ps_if (pt_not (pt_val (C8.pe_c c_are_amount_and_ash hr (by decide) rfl (pa_cons (pv 3) (pa_cons (pv 4) pa_nil))))) (pss_one (ps_ret (pe_lst (pa_cons (C8.pe_gc rfl (T.int T.F.i_OUTSIDE)) pa_nil)))) pss_nil)
      (pss_cons (ps_asg (pe_ix ix_tup (pe_ix ix_tup (pe_fld (pv 0) rfl) pe_int (fun _ _ => rfl)) (pv 2) (fun _ _ => rfl)) (pg_tup (n := 2) rfl (pgs_cons (pg_name (i := 5) sc_set_stream.nd rfl (by first | exact Or.inl rfl | exact Or.inr rfl)) (pgs_cons (pg_name (i := 6) sc_set_stream.nd rfl (by first | exact Or.inl rfl | exact Or.inr rfl)) pgs_nil))))
      (pss_cons (ps_set (i := 7) sc_set_stream.nd rfl (by first | exact Or.inl rfl | exact Or.inr rfl) (C8.pe_c c_replaced hr (by decide) rfl (pa_cons (pe_ix ix_tup (pe_fld (pv 0) rfl) pe_int (fun _ _ => rfl)) (pa_cons (pv 2) (pa_cons (pe_tup (pa_cons (pv 3) (pa_cons (pv 4) pa_nil))) pa_nil)))))
      (pss_cons (ps_if (pt_not (pt_val (C8.pe_mt c_changed hr (by decide) (pv 0) (pa_cons (C8.pe_c c_with_streams hr (by decide) rfl (pa_cons (pe_fld (pv 0) rfl) (pa_cons (pv 7) pa_nil))) (pa_cons (pe_fld (pv 0) rfl) pa_nil))))) (pss_one (ps_ret (pe_lst (pa_cons (C8.pe_gc rfl (T.int T.F.i_EXCEEDS)) pa_nil)))) pss_nil)
      (pss_one (ps_ret (pe_lst (pa_cons pe_int (pa_cons (pv 5) (pa_cons (pv 6) pa_nil)))))))))))), ?_⟩)
  obtain ⟨a, x, b, b', ns, out, rfl, hb, rx, hR, k⟩ := h
  cases hR with | mk i m s0 wf hm hs h =>
  refine s_seq (s_unl (K := K) (l := [.int i, .int m, .int s0]) (ed_var rfl rx) rfl fun vs H1 s1 rv => ?_)
  obtain ⟨y, z, z2, rfl, ry, rz, rz2⟩ := reps3 rv
  cases ry; cases rz; cases rz2
  have hb1 := hb.same s1
  refine ⟨_, _, rfl, _, _, rfl, _, _, rfl, rfl, ?_⟩
  refine s_nx (s_seq (s_if (et_not (et_B (ed_call (K := K) (ea_cons (ed_mill hB rfl hb1) (ea_cons (ed_var rfl .int) ea_nil)) (.mk b i)))) (fun hv H2 s2 => ?_) (fun hv H2 s2 => ?_)))
  · have hv' : Kp412.isStream b i = false := by simpa using hv
    exact s_ans k h (by exact if_pos hv') hb.some ((But.of s1).trans (But.of s2)) (hb1.same s2) (en_lst (ea_cons ed_int ea_nil) (Nat.le_of_ble_eq_true rfl))
  · have hv0 : Kp412.isStream b i = true := by simpa using hv
    have hv' : ¬ Kp412.isStream b i = false := by rw [hv0]; exact Bool.noConfusion
    have hi : i < b.streams.length := of_decide_eq_true hv0
    have hb2 := hb1.same s2
    have h6 := wf.sm.ns
    refine s_next (s_nx (s_seq (s_if (et_not (et_B (ed_call (K := K) (ea_cons (ed_var rfl .int) (ea_cons (ed_var rfl .int) ea_nil)) (.mk m s0)))) (fun hc H3 s3 => ?_) (fun hc H3 s3 => ?_))))
    · have hc' : Kp412.validStream m s0 = false := by simpa using hc
      exact s_ans k h ((if_neg hv').trans (if_pos hc')) hb.some ((But.of s1).trans ((But.of s2).trans (But.of s3))) (hb2.same s3) (en_lst (ea_cons ed_int ea_nil) (Nat.le_of_ble_eq_true rfl))
    · have hc' : ¬ Kp412.validStream m s0 = false := by simpa using hc
      have hb3 := hb2.same s3
      have hat : Kp412.streamAt b i = b.streams[i] := by unfold Kp412.streamAt; exact getD_lt hi
      refine s_next (s_nx (s_seq (s_unp (K := K) (l := [.int (Kp412.streamAt b i).amount, .int (Kp412.streamAt b i).ash]) (ed_op (ed_op (ed_mill hB rfl hb3) ed_int (rd_ixT (n := 0) rfl rfl)) (ed_var rfl .int) (rd_ixT rfl ?_)) rfl fun vs H4 s4 rv => ?_)))
      · rw [List.getElem?_map, List.getElem?_eq_getElem hi, hat]; rfl
      · obtain ⟨y, z, rfl, ry, rz⟩ := reps2 rv
        cases ry; cases rz
        have hb4 := hb3.same s4
        refine ⟨_, _, rfl, _, _, rfl, rfl, ?_⟩
        refine s_nx (s_seq (s_asg (K := K) (EvD.is (ed_call (ea_cons (ed_op (ed_mill hB rfl hb4) ed_int (rd_ixT (n := 0) rfl rfl)) (ea_cons (ed_var rfl .int) (ea_cons (ed_tup (ea_cons (ed_var rfl .int) (ea_cons (ed_var rfl .int) ea_nil)) (Nat.le_of_ble_eq_true rfl)) ea_nil))) (.mk (b.streams.map strD) i (strD ⟨m, s0⟩) ?_ ?_)) (d1 := strsD (b.streams.set i ⟨m, s0⟩)) ?_) fun v7 H5 s5 r7 => ?_))
        · rw [List.length_map]; exact hi
        · rw [List.length_map]; omega
        · unfold strsD; rw [List.map_set]
        · have hb5 := hb4.same s5
          have hS : Sm { b with streams := b.streams.set i ⟨m, s0⟩ } := sm_streams wf.sm (by rw [List.length_set]; exact h6) fun s hs' => by
            rcases mem_set hs' with hs' | rfl
            · exact wf.sm.am s hs'
            · exact hm
          refine s_nx (s_seq (s_ifch (b2 := { b with streams := b.streams.set i ⟨m, s0⟩ }) (l := b.assignment) rfl hb5 (ea_cons (ed_call (ea_cons (ed_mill hB rfl hb5) (ea_cons (ed_var rfl r7) ea_nil)) (.mk b _)) (ea_cons (ed_asgn hB rfl hb5) ea_nil)) (as_streams wf.as (by rw [List.length_set])) hS (fun hf H6 hb6 t6 => ?_) fun hf H6 s6 => ?_))
          · exact s_next (s_nx (s_ans k h ((if_neg hv').trans ((if_neg hc').trans (if_pos hf))) hb.some ((But.of s1).trans ((But.of s2).trans ((But.of s3).trans ((But.of s4).trans ((But.of s5).trans t6))))) hb6 (en_lst (ea_cons ed_int (ea_cons (ed_var rfl .int) (ea_cons (ed_var rfl .int) ea_nil))) (Nat.le_of_ble_eq_true rfl))))
          · have hf' : ¬ Kp412.feasible { b with streams := b.streams.set i ⟨m, s0⟩ } b.assignment = true := by rw [hf]; exact Bool.false_ne_true
            exact s_ans k h ((if_neg hv').trans ((if_neg hc').trans (if_neg hf'))) hb.some ((But.of s1).trans ((But.of s2).trans ((But.of s3).trans ((But.of s4).trans ((But.of s5).trans (But.of s6)))))) (hb5.same s6) (en_lst (ea_cons ed_int ea_nil) (Nat.le_of_ble_eq_true rfl))
end
end Fa
namespace Fa
open PySem PySem.Spec PyProof.Rows L2
open Kp412 (Stream Blender)
section
variable {P : Program} {w : World} {K : PySem.W.Frag} {mg : Str → Option Value} {base : Heap} {C CD : Addr}
local macro_rules | `(tactic| walk_at "fa_rd") => `(tactic| first
  | exact rd_I0 | exact rd_B0 | exact rd_eq
  | exact rd_ixT (n := 0) rfl rfl | exact rd_ixT (n := 1) rfl rfl | exact rd_ixT (n := 2) rfl rfl
  | exact rd_ixL (n := 0) rfl rfl | exact rd_ixL (n := 1) rfl rfl | exact rd_ixL (n := 2) rfl rfl
  | exact rd_catA (by simp) )
local macro_rules | `(tactic| walk_at "fa_ev") => `(tactic| first
  | exact ed_int | exact ed_bl
  | (refine ed_var rfl ?_; assumption)
  | (refine ed_op ?_ ?_ ?_; focus walk_at "fa_ev"; focus walk_at "fa_ev"; focus walk_at "fa_rd")
  | (refine ed_cb ?_ ?_; focus walk_at "fa_ea"; focus (first | exact rc_lenT | exact rc_lenL))
  | (refine ed_tup ?_ ?_; focus walk_at "fa_ea"; focus (simp; done)))
local macro_rules | `(tactic| walk_at "fa_ea") => `(tactic| first
  | exact ea_nil
  | (refine ea_cons ?_ ?_; focus walk_at "fa_ev"; focus walk_at "fa_ea"))

theorem sc_set_flour : FnScope ["blender", "numbers", "flour", "ash_limit", "price", "old_limit", "old_price"] ["blender", "numbers"] (C8.fnScope (top 44)) := C8.fnScope_by (by decide +kernel)
theorem ok_set_flour (T : Tx K mg) (hB : BleX K C) (c_with_flour : C8.Cal P w K mg base 2 "with_flour" (spD K R_with_flour) []) (c_changed : C8.Met P w K mg base 3 C "changed" (spChanged K C) []) : C8.Cal P w K mg base 4 "set_flour" (spOp K C R_set_flour) [] := by
  obtain ⟨f, fd, h1, h2, h3, h4⟩ := T.F.d_set_flour
  refine C8.cal0 (N := ["blender", "numbers", "flour", "ash_limit", "price", "old_limit", "old_price"]) (ps := ["blender", "numbers"]) ⟨h2, T.yes _ _ h1, h4⟩ (h2.binds h3 (fun _ _ _ _ _ _ us hl => match us, hl with | [_, _], _ => rfl)) .nil sc_set_flour (fun vs H Q E h => spOp_len h) (fun cdv A outer s H vs Q E hr h => ⟨_, (pss_cons (ps_asg (pv 1) (pg_unl (n := 3) rfl (pgs_cons (pg_name (i := 2) sc_set_flour.nd rfl (by first | exact Or.inl rfl | exact Or.inr rfl)) (pgs_cons (pg_name (i := 3) sc_set_flour.nd rfl (by first | exact Or.inl rfl | exact Or.inr rfl)) (pgs_cons (pg_name (i := 4) sc_set_flour.nd rfl (by first | exact Or.inl rfl | exact Or.inr rfl)) pgs_nil)))))
      (pss_cons (ps_if (pt_cmpR op_ge (pv 2) (C8.pe_gc rfl (T.int T.F.i_FLOURS)) (nomark _)) (pss_one (ps_ret (pe_lst (pa_cons (C8.pe_gc rfl (T.int T.F.i_NOT_THERE)) pa_nil)))) pss_nil)
      (pss_cons (ps_if (PW.pt (pw_or (pt_cmpR op_gt (pv 3) (C8.pe_gc rfl (T.int T.F.i_GREATEST_ASH)) (nomark _)) (pw_or1 (pt_cmpR op_gt (pv 4) (C8.pe_gc rfl (T.int T.F.i_GREATEST_PRICE)) (nomark _))))) (pss_one (ps_ret (pe_lst (pa_cons (C8.pe_gc rfl (T.int T.F.i_OUTSIDE)) pa_nil)))) pss_nil)
      (pss_cons (ps_asg (pe_ix ix_tup (pe_ix ix_tup (pe_fld (pv 0) rfl) pe_int (fun _ _ => rfl)) (pv 2) (fun _ _ => rfl)) (pg_tup (n := 2) rfl (pgs_cons (pg_name (i := 5) sc_set_flour.nd rfl (by first | exact Or.inl rfl | exact Or.inr rfl)) (pgs_cons (pg_name (i := 6) sc_set_flour.nd rfl (by first | exact Or.inl rfl | exact Or.inr rfl)) pgs_nil))))
      (pss_cons (ps_if (pt_not (pt_val (C8.pe_mt c_changed hr (by decide) (pv 0) (pa_cons (C8.pe_c c_with_flour hr (by decide) rfl (pa_cons (pe_fld (pv 0) rfl) (pa_cons (pv 2) (pa_cons (pv 3) (pa_cons (pv 4) pa_nil))))) (pa_cons (pe_fld (pv 0) rfl) pa_nil))))) (pss_one (ps_ret (pe_lst (pa_cons (C8.pe_gc rfl (T.int T.F.i_EXCEEDS)) pa_nil)))) pss_nil)
      (pss_one (ps_ret (pe_lst (pa_cons pe_int (pa_cons (pv 5) (pa_cons (pv 6) pa_nil))))))))))), ?_⟩)
  obtain ⟨a, x, b, b', ns, out, rfl, hb, rx, hR, k⟩ := h
  cases hR with | mk q l p wf h =>
  refine s_seq (s_unl (K := K) (l := [.int q, .int l, .int p]) (ed_var rfl rx) rfl fun vs H1 s1 rv => ?_)
  obtain ⟨y, z, z2, rfl, ry, rz, rz2⟩ := reps3 rv
  cases ry; cases rz; cases rz2
  have hb1 := hb.same s1
  refine ⟨_, _, rfl, _, _, rfl, _, _, rfl, rfl, ?_⟩
  refine s_nx (s_seq (s_if (et_test (ed_op (ed_var (K := K) rfl .int) ed_int rd_B0)) (fun hv H2 s2 => ?_) (fun hv H2 s2 => ?_)))
  · have hv' : Kp412.isFlour q = false := by
      have := of_decide_eq_true hv
      exact decide_eq_false (by show ¬ q < 3; omega)
    exact s_ans k h (by exact if_pos hv') hb.some ((But.of s1).trans (But.of s2)) (hb1.same s2) (en_lst (ea_cons ed_int ea_nil) (Nat.le_of_ble_eq_true rfl))
  · have hq : q < 3 := by have := of_decide_eq_false hv; omega
    have hv' : ¬ Kp412.isFlour q = false := by rw [show Kp412.isFlour q = true from decide_eq_true hq]; exact Bool.noConfusion
    have hb2 := hb1.same s2
    refine s_next (s_nx (s_seq (s_if (et_or (et_test (ed_op (ed_var (K := K) rfl .int) ed_int rd_B0)) fun _ => et_test (ed_op (ed_var (K := K) rfl .int) ed_int rd_B0)) (fun hc H3 s3 => ?_) (fun hc H3 s3 => ?_))))
    · have hc' : 300 < l ∨ 99 < p := by
        rcases Bool.or_eq_true_iff.mp hc with hc | hc
        · left; have := of_decide_eq_true hc; omega
        · right; have := of_decide_eq_true hc; omega
      exact s_ans k h ((if_neg hv').trans (if_pos hc')) hb.some ((But.of s1).trans ((But.of s2).trans (But.of s3))) (hb2.same s3) (en_lst (ea_cons ed_int ea_nil) (Nat.le_of_ble_eq_true rfl))
    · obtain ⟨hc1, hc2⟩ := Bool.or_eq_false_iff.mp hc
      have hc1' : l ≤ 300 := by have := of_decide_eq_false hc1; omega
      have hc2' : p ≤ 99 := by have := of_decide_eq_false hc2; omega
      have hc' : ¬ (300 < l ∨ 99 < p) := by omega
      have hb3 := hb2.same s3
      refine s_next (s_nx (s_seq (s_unp (K := K) (l := [.int (b.limits.getD q 0 : Nat), .int (b.prices.getD q 0 : Nat)]) (ed_op (ed_op (ed_mill hB rfl hb3) ed_int (rd_ixT (n := 1) rfl rfl)) (ed_var rfl .int) (rd_ixT rfl (flos_get wf.sm hq))) rfl fun vs H4 s4 rv => ?_)))
      obtain ⟨y, z, rfl, ry, rz⟩ := reps2 rv
      cases ry; cases rz
      have hb4 := hb3.same s4
      refine ⟨_, _, rfl, _, _, rfl, rfl, ?_⟩
      refine s_nx (s_seq (s_ifch (b2 := { b with limits := b.limits.set q l, prices := b.prices.set q p }) (l := b.assignment) rfl hb4 (ea_cons (ed_call (ea_cons (ed_mill hB rfl hb4) (ea_cons (ed_var rfl .int) (ea_cons (ed_var rfl .int) (ea_cons (ed_var rfl .int) ea_nil)))) (.mk b q l p hq wf.sm.nl wf.sm.np)) (ea_cons (ed_asgn hB rfl hb4) ea_nil)) ⟨wf.as.len, wf.as.le⟩ (sm_flour wf.sm (by show l < 4294967296; omega) (by show p < 4294967296; omega)) (fun hf H6 hb6 t6 => ?_) fun hf H6 s6 => ?_))
      · exact s_next (s_nx (s_ans k h ((if_neg hv').trans ((if_neg hc').trans (if_pos hf))) hb.some ((But.of s1).trans ((But.of s2).trans ((But.of s3).trans ((But.of s4).trans t6)))) hb6 (en_lst (ea_cons ed_int (ea_cons (ed_var rfl .int) (ea_cons (ed_var rfl .int) ea_nil))) (Nat.le_of_ble_eq_true rfl))))
      · have hf' : ¬ Kp412.feasible { b with limits := b.limits.set q l, prices := b.prices.set q p } b.assignment = true := by rw [hf]; exact Bool.false_ne_true
        exact s_ans k h ((if_neg hv').trans ((if_neg hc').trans (if_neg hf'))) hb.some ((But.of s1).trans ((But.of s2).trans ((But.of s3).trans ((But.of s4).trans (But.of s6))))) (hb4.same s6) (en_lst (ea_cons ed_int ea_nil) (Nat.le_of_ble_eq_true rfl))
end
end Fa
namespace Fa
open PySem PySem.Spec PyProof.Rows L2
open Kp412 (Stream Blender)
section
variable {P : Program} {w : World} {K : PySem.W.Frag} {mg : Str → Option Value} {base : Heap} {C CD : Addr}
local macro_rules | `(tactic| walk_at "fa_rd") => `(tactic| first
  | exact rd_I0 | exact rd_B0 | exact rd_eq
  | exact rd_ixT (n := 0) rfl rfl | exact rd_ixT (n := 1) rfl rfl | exact rd_ixT (n := 2) rfl rfl
  | exact rd_ixL (n := 0) rfl rfl | exact rd_ixL (n := 1) rfl rfl | exact rd_ixL (n := 2) rfl rfl
  | exact rd_catA (by simp) )
local macro_rules | `(tactic| walk_at "fa_ev") => `(tactic| first
  | exact ed_int | exact ed_bl
  | (refine ed_var rfl ?_; assumption)
  | (refine ed_op ?_ ?_ ?_; focus walk_at "fa_ev"; focus walk_at "fa_ev"; focus walk_at "fa_rd")
  | (refine ed_cb ?_ ?_; focus walk_at "fa_ea"; focus (first | exact rc_lenT | exact rc_lenL))
  | (refine ed_tup ?_ ?_; focus walk_at "fa_ea"; focus (simp; done)))
local macro_rules | `(tactic| walk_at "fa_ea") => `(tactic| first
  | exact ea_nil
  | (refine ea_cons ?_ ?_; focus walk_at "fa_ev"; focus walk_at "fa_ea"))

theorem sc_set_feed_price : FnScope ["blender", "numbers", "price", "old_price"] ["blender", "numbers"] (C8.fnScope (top 45)) := C8.fnScope_by (by decide +kernel)
theorem ok_set_feed_price (T : Tx K mg) (hB : BleX K C) (c_with_feed_price : C8.Cal P w K mg base 1 "with_feed_price" (spD K R_with_feed_price) []) (c_changed : C8.Met P w K mg base 3 C "changed" (spChanged K C) []) : C8.Cal P w K mg base 4 "set_feed_price" (spOp K C R_set_feed_price) [] := by
  obtain ⟨f, fd, h1, h2, h3, h4⟩ := T.F.d_set_feed_price
  refine C8.cal0 (N := ["blender", "numbers", "price", "old_price"]) (ps := ["blender", "numbers"]) ⟨h2, T.yes _ _ h1, h4⟩ (h2.binds h3 (fun _ _ _ _ _ _ us hl => match us, hl with | [_, _], _ => rfl)) .nil sc_set_feed_price (fun vs H Q E h => spOp_len h) (fun cdv A outer s H vs Q E hr h => ⟨_, (pss_cons (ps_set (i := 2) sc_set_feed_price.nd rfl (by first | exact Or.inl rfl | exact Or.inr rfl) (pe_ix ix_list (pv 1) pe_int (fun _ _ => rfl)))
      (pss_cons (ps_if (pt_cmpR op_gt (pv 2) (C8.pe_gc rfl (T.int T.F.i_GREATEST_PRICE)) (nomark _)) (pss_one (ps_ret (pe_lst (pa_cons (C8.pe_gc rfl (T.int T.F.i_OUTSIDE)) pa_nil)))) pss_nil)
      (pss_cons (ps_set (i := 3) sc_set_feed_price.nd rfl (by first | exact Or.inl rfl | exact Or.inr rfl) (pe_ix ix_tup (pe_fld (pv 0) rfl) pe_int (fun _ _ => rfl)))
      (pss_cons (ps_expr (C8.pe_mt c_changed hr (by decide) (pv 0) (pa_cons (C8.pe_c c_with_feed_price hr (by decide) rfl (pa_cons (pe_fld (pv 0) rfl) (pa_cons (pv 2) pa_nil))) (pa_cons (pe_fld (pv 0) rfl) pa_nil))))
      (pss_one (ps_ret (pe_lst (pa_cons (pv 3) pa_nil)))))))), ?_⟩)
  obtain ⟨a, x, b, b', ns, out, rfl, hb, rx, hR, k⟩ := h
  cases hR with | mk p wf h =>
  refine s_seq (s_asg (K := K) (ed_op (ed_var rfl rx) ed_int (rd_ixL (n := 0) rfl rfl)) fun v2 H1 s1 r2 => ?_)
  cases r2
  have hb1 := hb.same s1
  refine s_nx (s_seq (s_if (et_test (ed_op (ed_var (K := K) rfl .int) ed_int rd_B0)) (fun hv H2 s2 => ?_) (fun hv H2 s2 => ?_)))
  · have hv' : 99 < p := by have := of_decide_eq_true hv; omega
    exact s_ans k h (by exact if_pos hv') hb.some ((But.of s1).trans (But.of s2)) (hb1.same s2) (en_lst (ea_cons ed_int ea_nil) (Nat.le_of_ble_eq_true rfl))
  · have hv' : ¬ 99 < p := by have := of_decide_eq_false hv; omega
    have hb2 := hb1.same s2
    refine s_next (s_nx (s_seq (s_asg (K := K) (ed_op (ed_mill hB rfl hb2) ed_int (rd_ixT (n := 2) rfl rfl)) fun v3 H3 s3 r3 => ?_)))
    cases r3
    have hb3 := hb2.same s3
    refine s_nx (s_seq (s_changed (b2 := { b with feedPrice := p }) (l := b.assignment) rfl hb3 (ea_cons (ed_call (ea_cons (ed_mill hB rfl hb3) (ea_cons (ed_var rfl .int) ea_nil)) (.mk b p)) (ea_cons (ed_asgn hB rfl hb3) ea_nil)) ⟨wf.as.len, wf.as.le⟩ (sm_feed wf.sm (by show p < 4294967296; omega)) wf.fea fun H4 hb4 t4 => ?_))
    exact s_nx (s_ans k h (by exact if_neg hv') hb.some ((But.of s1).trans ((But.of s2).trans ((But.of s3).trans t4))) hb4 (en_lst (ea_cons (ed_var rfl .int) ea_nil) (Nat.le_of_ble_eq_true rfl)))
end
end Fa
namespace Fa
open PySem PySem.Spec PyProof.Rows L2
open Kp412 (Stream Blender)
section
variable {P : Program} {w : World} {K : PySem.W.Frag} {mg : Str → Option Value} {base : Heap} {C CD : Addr}
local macro_rules | `(tactic| walk_at "fa_rd") => `(tactic| first
  | exact rd_I0 | exact rd_B0 | exact rd_eq
  | exact rd_ixT (n := 0) rfl rfl | exact rd_ixT (n := 1) rfl rfl | exact rd_ixT (n := 2) rfl rfl
  | exact rd_ixL (n := 0) rfl rfl | exact rd_ixL (n := 1) rfl rfl | exact rd_ixL (n := 2) rfl rfl
  | exact rd_catA (by simp) )
local macro_rules | `(tactic| walk_at "fa_ev") => `(tactic| first
  | exact ed_int | exact ed_bl
  | (refine ed_var rfl ?_; assumption)
  | (refine ed_op ?_ ?_ ?_; focus walk_at "fa_ev"; focus walk_at "fa_ev"; focus walk_at "fa_rd")
  | (refine ed_cb ?_ ?_; focus walk_at "fa_ea"; focus (first | exact rc_lenT | exact rc_lenL))
  | (refine ed_tup ?_ ?_; focus walk_at "fa_ea"; focus (simp; done)))
local macro_rules | `(tactic| walk_at "fa_ea") => `(tactic| first
  | exact ea_nil
  | (refine ea_cons ?_ ?_; focus walk_at "fa_ev"; focus walk_at "fa_ea"))

theorem sc_set_assignment : FnScope ["blender", "destinations"] ["blender", "destinations"] (C8.fnScope (top 46)) := C8.fnScope_by (by decide +kernel)
theorem ok_set_assignment (T : Tx K mg) (hB : BleX K C) (c_fits : C8.Cal P w K mg base 1 "fits" (spD K R_fits) []) (c_changed : C8.Met P w K mg base 3 C "changed" (spChanged K C) []) (c_revenue_of : C8.Cal P w K mg base 2 "revenue_of" (spD K R_revenue_of) []) : C8.Cal P w K mg base 4 "set_assignment" (spOp K C R_set_assignment) [] := by
  obtain ⟨f, fd, h1, h2, h3, h4⟩ := T.F.d_set_assignment
  refine C8.cal0 (N := ["blender", "destinations"]) (ps := ["blender", "destinations"]) ⟨h2, T.yes _ _ h1, h4⟩ (h2.binds h3 (fun _ _ _ _ _ _ us hl => match us, hl with | [_, _], _ => rfl)) .nil sc_set_assignment (fun vs H Q E h => spOp_len h) (fun cdv A outer s H vs Q E hr h => ⟨_, (pss_cons (ps_if (pt_not (pt_val (C8.pe_c c_fits hr (by decide) rfl (pa_cons (pe_fld (pv 0) rfl) (pa_cons (pv 1) pa_nil))))) (pss_one (ps_ret (pe_lst (pa_cons (C8.pe_gc rfl (T.int T.F.i_OUTSIDE)) pa_nil)))) pss_nil)
      (pss_cons (ps_if (pt_not (pt_val (C8.pe_mt c_changed hr (by decide) (pv 0) (pa_cons (pe_fld (pv 0) rfl) (pa_cons (pe_callTy call_tuple_of (by rfl) (T.no T.F.b_tuple) (by decide +kernel) (pa_cons (pv 1) pa_nil)) pa_nil))))) (pss_one (ps_ret (pe_lst (pa_cons (C8.pe_gc rfl (T.int T.F.i_EXCEEDS)) pa_nil)))) pss_nil)
      (pss_one (ps_ret (pe_lst (pa_cons (C8.pe_c c_revenue_of hr (by decide) rfl (pa_cons (pe_fld (pv 0) rfl) (pa_cons (pe_fld (pv 0) rfl) pa_nil))) pa_nil)))))), ?_⟩)
  obtain ⟨a, x, b, b', ns, out, rfl, hb, rx, hR, k⟩ := h
  cases hR with | mk l wf hl h =>
  rw [List.map_map] at rx
  have rx : Rep K H (.lst (l.map natD)) x := rx
  refine s_seq (s_if (et_not (et_B (ed_call (K := K) (ea_cons (ed_mill hB rfl hb) (ea_cons (ed_var rfl rx) ea_nil)) (.mk b l hl)))) (fun hv H1 s1 => ?_) (fun hv H1 s1 => ?_))
  · have hv' : ¬ Kp412.validAssignment b l = true := by simpa using hv
    exact s_ans k h (by exact if_neg hv') hb.some (But.of s1) (hb.same s1) (en_lst (ea_cons ed_int ea_nil) (Nat.le_of_ble_eq_true rfl))
  · have hv' : Kp412.validAssignment b l = true := by simpa using hv
    have hA : As b l := as_valid hv'
    have hb1 := hb.same s1
    refine s_next (s_nx (s_seq (s_ifch (b2 := b) (l := l) rfl hb1 (ea_cons (ed_mill hB rfl hb1) (ea_cons (ed_cb (ea_cons (ed_var rfl (rx.same s1)) ea_nil) rc_tupleL) ea_nil)) hA wf.sm (fun hf H2 hb2 t2 => ?_) fun hf H2 s2 => ?_)))
    · refine s_next (s_nx (s_ans k h ((if_pos hv').trans (if_pos hf)) hb.some ((But.of s1).trans t2) hb2 (en_lst (ea_cons (ed_call (ea_cons (ed_mill hB rfl hb2) (ea_cons (ed_asgn hB rfl hb2) ea_nil)) (.mk { b with assignment := l } l ⟨hA.len, hA.le⟩ ⟨wf.sm.ns, wf.sm.am, wf.sm.nl, wf.sm.np, wf.sm.li, wf.sm.pr, wf.sm.fe⟩)) ea_nil) (Nat.le_of_ble_eq_true rfl))))
    · have hf' : ¬ Kp412.feasible { b with assignment := l } l = true := by
        have : Kp412.feasible { b with assignment := l } l = Kp412.feasible b l := rfl
        rw [this, hf]; exact Bool.false_ne_true
      exact s_ans k h ((if_pos hv').trans (if_neg hf')) hb.some ((But.of s1).trans (But.of s2)) (hb1.same s2) (en_lst (ea_cons ed_int ea_nil) (Nat.le_of_ble_eq_true rfl))
end
end Fa
namespace Fa
open PySem PySem.Spec PyProof.Rows L2
open Kp412 (Stream Blender)
section
variable {P : Program} {w : World} {K : PySem.W.Frag} {mg : Str → Option Value} {base : Heap} {C CD : Addr}
local macro_rules | `(tactic| walk_at "fa_rd") => `(tactic| first
  | exact rd_I0 | exact rd_B0 | exact rd_eq
  | exact rd_ixT (n := 0) rfl rfl | exact rd_ixT (n := 1) rfl rfl | exact rd_ixT (n := 2) rfl rfl
  | exact rd_ixL (n := 0) rfl rfl | exact rd_ixL (n := 1) rfl rfl | exact rd_ixL (n := 2) rfl rfl
  | exact rd_catA (by simp) )
local macro_rules | `(tactic| walk_at "fa_ev") => `(tactic| first
  | exact ed_int | exact ed_bl
  | (refine ed_var rfl ?_; assumption)
  | (refine ed_op ?_ ?_ ?_; focus walk_at "fa_ev"; focus walk_at "fa_ev"; focus walk_at "fa_rd")
  | (refine ed_cb ?_ ?_; focus walk_at "fa_ea"; focus (first | exact rc_lenT | exact rc_lenL))
  | (refine ed_tup ?_ ?_; focus walk_at "fa_ea"; focus (simp; done)))
local macro_rules | `(tactic| walk_at "fa_ea") => `(tactic| first
  | exact ea_nil
  | (refine ea_cons ?_ ?_; focus walk_at "fa_ev"; focus walk_at "fa_ea"))

theorem sc_move_stream : FnScope ["blender", "numbers", "stream", "destination", "old_destination"] ["blender", "numbers"] (C8.fnScope (top 47)) := C8.fnScope_by (by decide +kernel)
theorem ok_move_stream (T : Tx K mg) (hB : BleX K C) (c_has_stream : C8.Cal P w K mg base 1 "has_stream" (spD K R_has_stream) []) (c_replaced : C8.Cal P w K mg base 1 "replaced" (spD K R_replaced) []) (c_changed : C8.Met P w K mg base 3 C "changed" (spChanged K C) []) : C8.Cal P w K mg base 4 "move_stream" (spOp K C R_move_stream) [] := by
  obtain ⟨f, fd, h1, h2, h3, h4⟩ := T.F.d_move_stream
  refine C8.cal0 (N := ["blender", "numbers", "stream", "destination", "old_destination"]) (ps := ["blender", "numbers"]) ⟨h2, T.yes _ _ h1, h4⟩ (h2.binds h3 (fun _ _ _ _ _ _ us hl => match us, hl with | [_, _], _ => rfl)) .nil sc_move_stream (fun vs H Q E h => spOp_len h) (fun cdv A outer s H vs Q E hr h => ⟨_, (pss_cons (ps_asg (pv 1) (pg_unl (n := 2) rfl (pgs_cons (pg_name (i := 2) sc_move_stream.nd rfl (by first | exact Or.inl rfl | exact Or.inr rfl)) (pgs_cons (pg_name (i := 3) sc_move_stream.nd rfl (by first | exact Or.inl rfl | exact Or.inr rfl)) pgs_nil))))
      (pss_cons (ps_if (pt_not (pt_val (C8.pe_c c_has_stream hr (by decide) rfl (pa_cons (pe_fld (pv 0) rfl) (pa_cons (pv 2) pa_nil))))) (pss_one (ps_ret (pe_lst (pa_cons (C8.pe_gc rfl (T.int T.F.i_NOT_THERE)) pa_nil)))) pss_nil)
      (pss_cons (ps_if (pt_cmpR op_ge (pv 3) (C8.pe_gc rfl (T.int T.F.i_DESTINATIONS)) (nomark _)) (pss_one (ps_ret (pe_lst (pa_cons (C8.pe_gc rfl (T.int T.F.i_OUTSIDE)) pa_nil)))) pss_nil)
      (pss_cons (ps_set (i := 4) sc_move_stream.nd rfl (by first | exact Or.inl rfl | exact Or.inr rfl) (pe_ix ix_tup (pe_fld (pv 0) rfl) (pv 2) (fun _ _ => rfl)))
      (pss_cons (ps_if (pt_not (pt_val (C8.pe_mt c_changed hr (by decide) (pv 0) (pa_cons (pe_fld (pv 0) rfl) (pa_cons (C8.pe_c c_replaced hr (by decide) rfl (pa_cons (pe_fld (pv 0) rfl) (pa_cons (pv 2) (pa_cons (pv 3) pa_nil)))) pa_nil))))) (pss_one (ps_ret (pe_lst (pa_cons (C8.pe_gc rfl (T.int T.F.i_EXCEEDS)) pa_nil)))) pss_nil)
      (pss_one (ps_ret (pe_lst (pa_cons (pv 4) pa_nil))))))))), ?_⟩)
  obtain ⟨a, x, b, b', ns, out, rfl, hb, rx, hR, k⟩ := h
  cases hR with | mk i q wf h =>
  refine s_seq (s_unl (K := K) (l := [.int i, .int q]) (ed_var rfl rx) rfl fun vs H1 s1 rv => ?_)
  obtain ⟨y, z, rfl, ry, rz⟩ := reps2 rv
  cases ry; cases rz
  have hb1 := hb.same s1
  refine ⟨_, _, rfl, _, _, rfl, rfl, ?_⟩
  refine s_nx (s_seq (s_if (et_not (et_B (ed_call (K := K) (ea_cons (ed_mill hB rfl hb1) (ea_cons (ed_var rfl .int) ea_nil)) (.mk b i)))) (fun hv H2 s2 => ?_) (fun hv H2 s2 => ?_)))
  · have hv' : Kp412.isStream b i = false := by simpa using hv
    exact s_ans k h (by exact if_pos hv') hb.some ((But.of s1).trans (But.of s2)) (hb1.same s2) (en_lst (ea_cons ed_int ea_nil) (Nat.le_of_ble_eq_true rfl))
  · have hv0 : Kp412.isStream b i = true := by simpa using hv
    have hv' : ¬ Kp412.isStream b i = false := by rw [hv0]; exact Bool.noConfusion
    have hi : i < b.streams.length := of_decide_eq_true hv0
    have hi2 : i < b.assignment.length := by rw [wf.as.len]; exact hi
    have hb2 := hb1.same s2
    have h6 := wf.sm.ns
    refine s_next (s_nx (s_seq (s_if (et_test (ed_op (ed_var (K := K) rfl .int) ed_int rd_B0)) (fun hc H3 s3 => ?_) (fun hc H3 s3 => ?_))))
    · have hc' : Kp412.feedDestination < q := by have := of_decide_eq_true hc; show 3 < q; omega
      exact s_ans k h ((if_neg hv').trans (if_pos hc')) hb.some ((But.of s1).trans ((But.of s2).trans (But.of s3))) (hb2.same s3) (en_lst (ea_cons ed_int ea_nil) (Nat.le_of_ble_eq_true rfl))
    · have hq : q ≤ 3 := by have := of_decide_eq_false hc; omega
      have hc' : ¬ Kp412.feedDestination < q := by show ¬ 3 < q; omega
      have hb3 := hb2.same s3
      refine s_next (s_nx (s_seq (s_asg (K := K) (d := natD (b.assignment.getD i Kp412.feedDestination)) (ed_op (ed_asgn hB rfl hb3) (ed_var rfl .int) (rd_ixT rfl ?_)) fun v4 H4 s4 r4 => ?_)))
      · rw [List.getElem?_map, List.getElem?_eq_getElem hi2, getD_lt hi2]; rfl
      · have hb4 := hb3.same s4
        refine s_nx (s_seq (s_ifch (b2 := b) (l := b.assignment.set i q) rfl hb4 (ea_cons (ed_mill hB rfl hb4) (ea_cons (EvD.is (ed_call (ea_cons (ed_asgn hB rfl hb4) (ea_cons (ed_var rfl .int) (ea_cons (ed_var rfl .int) ea_nil))) (.mk (b.assignment.map natD) i (natD q) ?_ ?_)) (d1 := asgD (b.assignment.set i q)) ?_) ea_nil)) (as_set wf.as hq) wf.sm (fun hf H6 hb6 t6 => ?_) fun hf H6 s6 => ?_))
        · rw [List.length_map]; exact hi2
        · rw [List.length_map, wf.as.len]; omega
        · unfold asgD; rw [List.map_set]
        · cases r4
          exact s_next (s_nx (s_ans k h ((if_neg hv').trans ((if_neg hc').trans (if_pos hf))) hb.some ((But.of s1).trans ((But.of s2).trans ((But.of s3).trans ((But.of s4).trans t6)))) hb6 (en_lst (ea_cons (ed_var rfl .int) ea_nil) (Nat.le_of_ble_eq_true rfl))))
        · have hf' : ¬ Kp412.feasible { b with assignment := b.assignment.set i q } (b.assignment.set i q) = true := by
            have : Kp412.feasible { b with assignment := b.assignment.set i q } (b.assignment.set i q) = Kp412.feasible b (b.assignment.set i q) := rfl
            rw [this, hf]; exact Bool.false_ne_true
          exact s_ans k h ((if_neg hv').trans ((if_neg hc').trans (if_neg hf'))) hb.some ((But.of s1).trans ((But.of s2).trans ((But.of s3).trans ((But.of s4).trans (But.of s6))))) (hb4.same s6) (en_lst (ea_cons ed_int ea_nil) (Nat.le_of_ble_eq_true rfl))
end
end Fa
namespace Fa
open PySem PySem.Spec PyProof.Rows L2
open Kp412 (Stream Blender)
section
variable {P : Program} {w : World} {K : PySem.W.Frag} {mg : Str → Option Value} {base : Heap} {C CD : Addr}
local macro_rules | `(tactic| walk_at "fa_rd") => `(tactic| first
  | exact rd_I0 | exact rd_B0 | exact rd_eq
  | exact rd_ixT (n := 0) rfl rfl | exact rd_ixT (n := 1) rfl rfl | exact rd_ixT (n := 2) rfl rfl
  | exact rd_ixL (n := 0) rfl rfl | exact rd_ixL (n := 1) rfl rfl | exact rd_ixL (n := 2) rfl rfl
  | exact rd_catA (by simp) )
local macro_rules | `(tactic| walk_at "fa_ev") => `(tactic| first
  | exact ed_int | exact ed_bl
  | (refine ed_var rfl ?_; assumption)
  | (refine ed_op ?_ ?_ ?_; focus walk_at "fa_ev"; focus walk_at "fa_ev"; focus walk_at "fa_rd")
  | (refine ed_cb ?_ ?_; focus walk_at "fa_ea"; focus (first | exact rc_lenT | exact rc_lenL))
  | (refine ed_tup ?_ ?_; focus walk_at "fa_ea"; focus (simp; done)))
local macro_rules | `(tactic| walk_at "fa_ea") => `(tactic| first
  | exact ea_nil
  | (refine ea_cons ?_ ?_; focus walk_at "fa_ev"; focus walk_at "fa_ea"))

theorem sc_apply_best_assignment : FnScope ["blender", "numbers", "revenue", "assignment"] ["blender", "numbers"] (C8.fnScope (top 48)) := C8.fnScope_by (by decide +kernel)
theorem ok_apply_best_assignment (T : Tx K mg) (hB : BleX K C) (c_best_of : C8.Cal P w K mg base 4 "best_of" (spD K R_best_of) []) (c_changed : C8.Met P w K mg base 3 C "changed" (spChanged K C) []) : C8.Cal P w K mg base 5 "apply_best_assignment" (spOp K C R_apply_best_assignment) [] := by
  obtain ⟨f, fd, h1, h2, h3, h4⟩ := T.F.d_apply_best_assignment
  refine C8.cal0 (N := ["blender", "numbers", "revenue", "assignment"]) (ps := ["blender", "numbers"]) ⟨h2, T.yes _ _ h1, h4⟩ (h2.binds h3 (fun _ _ _ _ _ _ us hl => match us, hl with | [_, _], _ => rfl)) .nil sc_apply_best_assignment (fun vs H Q E h => spOp_len h) (fun cdv A outer s H vs Q E hr h => ⟨_, (pss_cons (ps_asg (C8.pe_c c_best_of hr (by decide) rfl (pa_cons (pe_fld (pv 0) rfl) pa_nil)) (pg_tup (n := 2) rfl (pgs_cons (pg_name (i := 2) sc_apply_best_assignment.nd rfl (by first | exact Or.inl rfl | exact Or.inr rfl)) (pgs_cons (pg_name (i := 3) sc_apply_best_assignment.nd rfl (by first | exact Or.inl rfl | exact Or.inr rfl)) pgs_nil))))
      (pss_cons (ps_expr (C8.pe_mt c_changed hr (by decide) (pv 0) (pa_cons (pe_fld (pv 0) rfl) (pa_cons (pv 3) pa_nil))))
      (pss_one (ps_ret (pe_lst (pa_cons (pv 2) pa_nil)))))), ?_⟩)
  obtain ⟨a, x, b, b', ns, out, rfl, hb, rx, hR, k⟩ := h
  cases hR with | mk wf h =>
  obtain ⟨l, hl⟩ := best_some wf
  have hm := best_mem hl
  refine s_seq (s_unp (K := K) (l := [.int (Kp412.revenue b l : Nat), asgD l]) (ed_call (ea_cons (ed_mill hB rfl hb) ea_nil) (.mk b wf.sm l hl)) rfl fun vs H1 s1 rv => ?_)
  obtain ⟨y, z, rfl, ry, rz⟩ := reps2 rv
  cases ry
  have hb1 := hb.same s1
  refine ⟨_, _, rfl, _, _, rfl, rfl, ?_⟩
  refine s_nx (s_seq (s_changed (b2 := b) (l := l) rfl hb1 (ea_cons (ed_mill hB rfl hb1) (ea_cons (ed_var rfl rz) ea_nil)) (as_fea hm) wf.sm (List.mem_filter.mp hm).2 fun H2 hb2 t2 => ?_))
  refine s_nx (s_ans (b1 := { b with assignment := l }) (an := Kp412.single (Kp412.revenue b l : Nat)) k h ?_ hb.some ((But.of s1).trans t2) hb2 (en_lst (ea_cons (ed_var rfl .int) ea_nil) (Nat.le_of_ble_eq_true rfl)))
  show (match Kp412.bestAssignment b with
    | none => (some b, Kp412.single (-33))
    | some a => (some { b with assignment := a }, Kp412.single (Kp412.revenue b a : Nat))) = _
  rw [hl]
end
end Fa
/-! Plain laws: what the questions ask. -/
namespace Fa
open Kp412 (Stream Blender)
theorem sum_pos_of {α : Type} {f : α → Nat} : ∀ {l : List α} {x : α}, x ∈ l → 0 < f x → 0 < (l.map f).sum
  | y :: l, x, h, hx => by
    rw [List.map_cons, List.sum_cons]
    rcases List.mem_cons.mp h with rfl | h
    · omega
    · have := sum_pos_of h hx; omega
theorem sum_le_of {α : Type} {f : α → Nat} {c : Nat} : ∀ {l : List α}, (∀ x ∈ l, f x ≤ c) → (l.map f).sum ≤ l.length * c
  | [], _ => Nat.zero_le _
  | y :: l, h => by
    rw [List.map_cons, List.sum_cons, List.length_cons, Nat.add_mul]
    have h1 := h y (List.mem_cons_self ..)
    have h2 := sum_le_of fun x hx => h x (List.mem_cons_of_mem _ hx)
    omega
/-- a flour has streams where the assignment names it -/
theorem of_empty {b : Blender} {l : List Nat} (h : As b l) (k : Nat) : (Kp412.streamsOf b l k).isEmpty = !l.any (· == k) := by
  rw [Bool.eq_iff_iff, List.isEmpty_iff]
  unfold Kp412.streamsOf
  rw [List.filter_eq_nil_iff, Bool.not_eq_true', Bool.eq_false_iff, Ne, List.any_eq_true]
  constructor
  · intro q ⟨x, hx, e⟩
    obtain ⟨i, hi, rfl⟩ := List.getElem_of_mem hx
    have hi2 : i < b.streams.length := by rw [← h.len]; exact hi
    exact q i (List.mem_range.mpr hi2) (by rw [getD_lt hi]; exact e)
  · intro q i hi e
    have hi2 := List.mem_range.mp hi
    have hi3 : i < l.length := by rw [h.len]; exact hi2
    rw [getD_lt hi3] at e
    exact q ⟨l[i], List.getElem_mem hi3, e⟩
theorem amt_pos {b : Blender} {l : List Nat} (h : As b l) (hs : ∀ s ∈ b.streams, 1 ≤ s.amount) {k : Nat} (hk : l.any (· == k) = true) : 0 < amt b l k := by
  have e := of_empty h k
  rw [hk] at e
  cases q : Kp412.streamsOf b l k with
  | nil => rw [q] at e; cases e
  | cons i r =>
    have hi : i ∈ Kp412.streamsOf b l k := by rw [q]; exact List.mem_cons_self ..
    have hi2 := List.mem_range.mp (List.mem_filter.mp hi).1
    exact sum_pos_of hi (hs _ (at_mem hi2))
theorem amt_le {b : Blender} {l : List Nat} (hn : b.streams.length ≤ 6) (hs : ∀ s ∈ b.streams, s.amount < 100) (k : Nat) : amt b l k < 1000 := by
  have h1 : amt b l k ≤ (Kp412.streamsOf b l k).length * 100 := sum_le_of fun i hi => by
    have hi2 := List.mem_range.mp (List.mem_filter.mp hi).1
    exact Nat.le_of_lt (hs _ (at_mem hi2))
  have h2 : (Kp412.streamsOf b l k).length ≤ b.streams.length := by
    have := List.length_filter_le (fun i => l.getD i Kp412.feedDestination == k) (List.range b.streams.length)
    rw [List.length_range] at this
    exact this
  have h3 : (Kp412.streamsOf b l k).length * 100 ≤ 6 * 100 := Nat.mul_le_mul_right _ (Nat.le_trans h2 hn)
  omega
theorem fea_le {b : Blender} {l : List Nat} (h : Kp412.feasible b l = true) {k : Nat} (hk : k < 3) : ash b l k ≤ b.limits.getD k 0 * amt b l k := by
  rw [feas_eq, List.all_eq_true] at h
  exact of_decide_eq_true (h k (List.mem_range.mpr hk))
theorem set_getD {l : List Nat} {k : Nat} (h : k < l.length) : l.set k (l.getD k 0) = l := by
  rw [getD_lt h]
  exact List.set_getElem_self h
end Fa
namespace Fa
open PySem PySem.Spec PyProof.Rows L2
open Kp412 (Stream Blender)
variable {K : PySem.W.Frag} {H : Hp} {σ : L2.St}
theorem inV_nat (k : Nat) (l : List Nat) : inV (.int (k : Int)) ((l.map fun n : Nat => (n : Int)).map V.int) = l.any (· == k) := by
  unfold inV
  rw [List.map_map, List.any_map]
  congr 1
  funext n
  show ((n : Int) == (k : Int)) = (n == k)
  rw [Bool.eq_iff_iff, beq_iff_eq, beq_iff_eq]
  omega
theorem rd_notIn {k : Nat} {l : List Nat} : RD K (rIn K true) (.int (k : Int)) (asgD l) (.bl (!l.any (· == k))) := fun H x y rx ry Q q => by
  cases rx
  cases ry with
  | tup s r =>
    have e : l.map natD = (l.map fun n : Nat => (n : Int)).map D.int := by rw [List.map_map]; rfl
    rw [e] at r
    have e2 := r.ints_eq
    subst e2
    refine ⟨_, _, rfl, .inr s, rfl, ?_, ?_⟩
    · rw [List.all_map]; exact List.all_eq_true.mpr fun _ _ => rfl
    · rw [inV_nat]
      exact q _ _ (.refl _) .bl
theorem nat_out (l : List Nat) : (l.map fun (x : Nat) => (x : Int)).map D.int = l.map natD := by rw [List.map_map]; rfl
end Fa
namespace Fa
open PySem PySem.Spec PyProof.Rows L2
open Kp412 (Stream Blender)
section
variable {P : Program} {w : World} {K : PySem.W.Frag} {mg : Str → Option Value} {base : Heap} {C CD : Addr}
local macro_rules | `(tactic| walk_at "fa_rd") => `(tactic| first
  | exact rd_I0 | exact rd_B0 | exact rd_eq
  | exact rd_ixT (n := 0) rfl rfl | exact rd_ixT (n := 1) rfl rfl | exact rd_ixT (n := 2) rfl rfl
  | exact rd_ixL (n := 0) rfl rfl | exact rd_ixL (n := 1) rfl rfl | exact rd_ixL (n := 2) rfl rfl
  | exact rd_catA (by simp) )
local macro_rules | `(tactic| walk_at "fa_ev") => `(tactic| first
  | exact ed_int | exact ed_bl
  | (refine ed_var rfl ?_; assumption)
  | (refine ed_op ?_ ?_ ?_; focus walk_at "fa_ev"; focus walk_at "fa_ev"; focus walk_at "fa_rd")
  | (refine ed_cb ?_ ?_; focus walk_at "fa_ea"; focus (first | exact rc_lenT | exact rc_lenL))
  | (refine ed_tup ?_ ?_; focus walk_at "fa_ea"; focus (simp; done)))
local macro_rules | `(tactic| walk_at "fa_ea") => `(tactic| first
  | exact ea_nil
  | (refine ea_cons ?_ ?_; focus walk_at "fa_ev"; focus walk_at "fa_ea"))

theorem sc_get_stream : FnScope ["blender", "numbers", "stream", "amount", "ash"] ["blender", "numbers"] (C8.fnScope (top 55)) := C8.fnScope_by (by decide +kernel)
theorem ok_get_stream (T : Tx K mg) (hB : BleX K C) (c_has_stream : C8.Cal P w K mg base 1 "has_stream" (spD K R_has_stream) []) : C8.Cal P w K mg base 2 "get_stream" (spOp K C R_get_stream) [] := by
  obtain ⟨f, fd, h1, h2, h3, h4⟩ := T.F.d_get_stream
  refine C8.cal0 (N := ["blender", "numbers", "stream", "amount", "ash"]) (ps := ["blender", "numbers"]) ⟨h2, T.yes _ _ h1, h4⟩ (h2.binds h3 (fun _ _ _ _ _ _ us hl => match us, hl with | [_, _], _ => rfl)) .nil sc_get_stream (fun vs H Q E h => spOp_len h) (fun cdv A outer s H vs Q E hr h => ⟨_, (pss_cons (ps_set (i := 2) sc_get_stream.nd rfl (by first | exact Or.inl rfl | exact Or.inr rfl) (pe_ix ix_list (pv 1) pe_int (fun _ _ => rfl)))
      (pss_cons (ps_if (pt_not (pt_val (C8.pe_c c_has_stream hr (by decide) rfl (pa_cons (pe_fld (pv 0) rfl) (pa_cons (pv 2) pa_nil))))) (pss_one (ps_ret (pe_lst (pa_cons (C8.pe_gc rfl (T.int T.F.i_NOT_THERE)) pa_nil)))) pss_nil)
      (pss_cons (ps_asg (pe_ix ix_tup (pe_ix ix_tup (pe_fld (pv 0) rfl) pe_int (fun _ _ => rfl)) (pv 2) (fun _ _ => rfl)) (pg_tup (n := 2) rfl (pgs_cons (pg_name (i := 3) sc_get_stream.nd rfl (by first | exact Or.inl rfl | exact Or.inr rfl)) (pgs_cons (pg_name (i := 4) sc_get_stream.nd rfl (by first | exact Or.inl rfl | exact Or.inr rfl)) pgs_nil))))
      (pss_one (ps_ret (pe_lst (pa_cons (pv 3) (pa_cons (pv 4) (pa_cons (pe_ix ix_tup (pe_fld (pv 0) rfl) (pv 2) (fun _ _ => rfl)) pa_nil))))))))), ?_⟩)
  obtain ⟨a, x, b, b', ns, out, rfl, hb, rx, hR, k⟩ := h
  cases hR with | mk i wf h =>
  refine s_seq (s_asg (K := K) (ed_op (ed_var rfl rx) ed_int (rd_ixL (n := 0) rfl rfl)) fun v2 H1 s1 r2 => ?_)
  cases r2
  have hb1 := hb.same s1
  refine s_nx (s_seq (s_if (et_not (et_B (ed_call (K := K) (ea_cons (ed_mill hB rfl hb1) (ea_cons (ed_var rfl .int) ea_nil)) (.mk b i)))) (fun hv H2 s2 => ?_) (fun hv H2 s2 => ?_)))
  · have hv' : ¬ Kp412.isStream b i = true := by simpa using hv
    exact s_ans k h (congrArg (Prod.mk (some b)) (if_neg hv')) hb.some ((But.of s1).trans (But.of s2)) (hb1.same s2) (en_lst (ea_cons ed_int ea_nil) (Nat.le_of_ble_eq_true rfl))
  · have hv' : Kp412.isStream b i = true := by simpa using hv
    have hi : i < b.streams.length := of_decide_eq_true hv'
    have hi2 : i < b.assignment.length := by rw [wf.as.len]; exact hi
    have hb2 := hb1.same s2
    have hat : Kp412.streamAt b i = b.streams[i] := by unfold Kp412.streamAt; exact getD_lt hi
    refine s_next (s_nx (s_seq (s_unp (K := K) (l := [.int (Kp412.streamAt b i).amount, .int (Kp412.streamAt b i).ash]) (ed_op (ed_op (ed_mill hB rfl hb2) ed_int (rd_ixT (n := 0) rfl rfl)) (ed_var rfl .int) (rd_ixT rfl ?_)) rfl fun vs H4 s4 rv => ?_)))
    · rw [List.getElem?_map, List.getElem?_eq_getElem hi, hat]; rfl
    · obtain ⟨y, z, rfl, ry, rz⟩ := reps2 rv
      cases ry; cases rz
      have hb4 := hb2.same s4
      refine ⟨_, _, rfl, _, _, rfl, rfl, ?_⟩
      refine s_nx (s_ans k h (congrArg (Prod.mk (some b)) (if_pos hv')) hb.some ((But.of s1).trans ((But.of s2).trans (But.of s4))) hb4 (en_lst (ea_cons (ed_var rfl .int) (ea_cons (ed_var rfl .int) (ea_cons (ed_op (ed_asgn hB rfl hb4) (ed_var rfl .int) (rd_ixT rfl ?_)) ea_nil))) (Nat.le_of_ble_eq_true rfl)))
      rw [List.getElem?_map, List.getElem?_eq_getElem hi2, getD_lt hi2]; rfl
end
end Fa
namespace Fa
open PySem PySem.Spec PyProof.Rows L2
open Kp412 (Stream Blender)
section
variable {P : Program} {w : World} {K : PySem.W.Frag} {mg : Str → Option Value} {base : Heap} {C CD : Addr}
local macro_rules | `(tactic| walk_at "fa_rd") => `(tactic| first
  | exact rd_I0 | exact rd_B0 | exact rd_eq
  | exact rd_ixT (n := 0) rfl rfl | exact rd_ixT (n := 1) rfl rfl | exact rd_ixT (n := 2) rfl rfl
  | exact rd_ixL (n := 0) rfl rfl | exact rd_ixL (n := 1) rfl rfl | exact rd_ixL (n := 2) rfl rfl
  | exact rd_catA (by simp) )
local macro_rules | `(tactic| walk_at "fa_ev") => `(tactic| first
  | exact ed_int | exact ed_bl
  | (refine ed_var rfl ?_; assumption)
  | (refine ed_op ?_ ?_ ?_; focus walk_at "fa_ev"; focus walk_at "fa_ev"; focus walk_at "fa_rd")
  | (refine ed_cb ?_ ?_; focus walk_at "fa_ea"; focus (first | exact rc_lenT | exact rc_lenL))
  | (refine ed_tup ?_ ?_; focus walk_at "fa_ea"; focus (simp; done)))
local macro_rules | `(tactic| walk_at "fa_ea") => `(tactic| first
  | exact ea_nil
  | (refine ea_cons ?_ ?_; focus walk_at "fa_ev"; focus walk_at "fa_ea"))

theorem sc_get_assignment : FnScope ["blender", "numbers"] ["blender", "numbers"] (C8.fnScope (top 56)) := C8.fnScope_by (by decide +kernel)
theorem ok_get_assignment (T : Tx K mg) (hB : BleX K C) : C8.Cal P w K mg base 1 "get_assignment" (spOp K C R_get_assignment) [] := by
  obtain ⟨f, fd, h1, h2, h3, h4⟩ := T.F.d_get_assignment
  refine C8.cal0 (N := ["blender", "numbers"]) (ps := ["blender", "numbers"]) ⟨h2, T.yes _ _ h1, h4⟩ (h2.binds h3 (fun _ _ _ _ _ _ us hl => match us, hl with | [_, _], _ => rfl)) .nil sc_get_assignment (fun vs H Q E h => spOp_len h) (fun cdv A outer s H vs Q E hr h => ⟨_, (pss_one (ps_ret (pe_op op_cat (pe_lst (pa_cons (pe_callB call_len_seq (by rfl) (T.no T.F.b_len) (by decide +kernel) (pa_cons (pe_fld (pv 0) rfl) pa_nil)) pa_nil)) (pe_callTy call_list_of (by rfl) (T.no T.F.b_list) (by decide +kernel) (pa_cons (pe_fld (pv 0) rfl) pa_nil))))), ?_⟩)
  obtain ⟨a, x, b, b', ns, out, rfl, hb, rx, hR, k⟩ := h
  cases hR with | mk wf h =>
  have hlen : b.assignment.length ≤ 6 := by rw [wf.as.len]; exact wf.sm.ns
  refine s_ans (an := Kp412.listResult b.assignment) k h rfl hb.some (but_refl _ _) hb (EvN.is (en_cat (en_lst (ea_cons (ed_cb (ea_cons (ed_asgn hB rfl hb) ea_nil) rc_lenT) ea_nil) (Nat.le_of_ble_eq_true rfl)) (en_cb (ea_cons (ed_asgn hB rfl hb) ea_nil) rcn_listT) ?_) ?_)
  · rw [List.length_map, List.length_singleton]; omega
  · show [D.int ((b.assignment.map natD).length : Int)] ++ b.assignment.map natD = D.int (b.assignment.length : Int) :: (b.assignment.map fun (x : Nat) => (x : Int)).map D.int
    rw [nat_out, List.length_map]; rfl
end
end Fa
namespace Fa
open PySem PySem.Spec PyProof.Rows L2
open Kp412 (Stream Blender)
section
variable {P : Program} {w : World} {K : PySem.W.Frag} {mg : Str → Option Value} {base : Heap} {C CD : Addr}
local macro_rules | `(tactic| walk_at "fa_rd") => `(tactic| first
  | exact rd_I0 | exact rd_B0 | exact rd_eq
  | exact rd_ixT (n := 0) rfl rfl | exact rd_ixT (n := 1) rfl rfl | exact rd_ixT (n := 2) rfl rfl
  | exact rd_ixL (n := 0) rfl rfl | exact rd_ixL (n := 1) rfl rfl | exact rd_ixL (n := 2) rfl rfl
  | exact rd_catA (by simp) )
local macro_rules | `(tactic| walk_at "fa_ev") => `(tactic| first
  | exact ed_int | exact ed_bl
  | (refine ed_var rfl ?_; assumption)
  | (refine ed_op ?_ ?_ ?_; focus walk_at "fa_ev"; focus walk_at "fa_ev"; focus walk_at "fa_rd")
  | (refine ed_cb ?_ ?_; focus walk_at "fa_ea"; focus (first | exact rc_lenT | exact rc_lenL))
  | (refine ed_tup ?_ ?_; focus walk_at "fa_ea"; focus (simp; done)))
local macro_rules | `(tactic| walk_at "fa_ea") => `(tactic| first
  | exact ea_nil
  | (refine ea_cons ?_ ?_; focus walk_at "fa_ev"; focus walk_at "fa_ea"))

theorem sc_flour_quality : FnScope ["blender", "numbers", "flour", "amount", "ash"] ["blender", "numbers"] (C8.fnScope (top 57)) := C8.fnScope_by (by decide +kernel)
theorem ok_flour_quality (T : Tx K mg) (hB : BleX K C) (c_amounts_of : C8.Cal P w K mg base 1 "amounts_of" (spN K R_amounts_of) []) (c_ashes_of : C8.Cal P w K mg base 1 "ashes_of" (spN K R_ashes_of) []) (c_lowest_terms : C8.Cal P w K mg base 2 "lowest_terms" (spN K R_lowest_terms) []) : C8.Cal P w K mg base 3 "flour_quality" (spOp K C R_flour_quality) [] := by
  obtain ⟨f, fd, h1, h2, h3, h4⟩ := T.F.d_flour_quality
  refine C8.cal0 (N := ["blender", "numbers", "flour", "amount", "ash"]) (ps := ["blender", "numbers"]) ⟨h2, T.yes _ _ h1, h4⟩ (h2.binds h3 (fun _ _ _ _ _ _ us hl => match us, hl with | [_, _], _ => rfl)) .nil sc_flour_quality (fun vs H Q E h => spOp_len h) (fun cdv A outer s H vs Q E hr h => ⟨_, (pss_cons (ps_set (i := 2) sc_flour_quality.nd rfl (by first | exact Or.inl rfl | exact Or.inr rfl) (pe_ix ix_list (pv 1) pe_int (fun _ _ => rfl)))
      (pss_cons (ps_if (pt_cmpR op_ge (pv 2) (C8.pe_gc rfl (T.int T.F.i_FLOURS)) (nomark _)) (pss_one (ps_ret (pe_lst (pa_cons (C8.pe_gc rfl (T.int T.F.i_NOT_THERE)) pa_nil)))) pss_nil)
      (pss_cons (ps_if (pt_cmpR op_notIn_seq (pv 2) (pe_fld (pv 0) rfl) (by rfl)) (pss_one (ps_ret (pe_lst (pa_cons (C8.pe_gc rfl (T.int T.F.i_EMPTY)) pa_nil)))) pss_nil)
      (pss_cons (ps_set (i := 3) sc_flour_quality.nd rfl (by first | exact Or.inl rfl | exact Or.inr rfl) (pe_ix ix_list (C8.pe_c c_amounts_of hr (by decide) rfl (pa_cons (pe_fld (pv 0) rfl) (pa_cons (pe_fld (pv 0) rfl) pa_nil))) (pv 2) (fun _ _ => rfl)))
      (pss_cons (ps_set (i := 4) sc_flour_quality.nd rfl (by first | exact Or.inl rfl | exact Or.inr rfl) (pe_ix ix_list (C8.pe_c c_ashes_of hr (by decide) rfl (pa_cons (pe_fld (pv 0) rfl) (pa_cons (pe_fld (pv 0) rfl) pa_nil))) (pv 2) (fun _ _ => rfl)))
      (pss_one (ps_ret (pe_op op_cat (pe_lst (pa_cons pe_int (pa_cons (pv 3) pa_nil))) (C8.pe_c c_lowest_terms hr (by decide) rfl (pa_cons (pv 4) (pa_cons (pv 3) pa_nil))))))))))), ?_⟩)
  obtain ⟨a, x, b, b', ns, out, rfl, hb, rx, hR, k⟩ := h
  cases hR with | mk q wf h =>
  refine s_seq (s_asg (K := K) (ed_op (ed_var rfl rx) ed_int (rd_ixL (n := 0) rfl rfl)) fun v2 H1 s1 r2 => ?_)
  cases r2
  have hb1 := hb.same s1
  refine s_nx (s_seq (s_if (et_test (ed_op (ed_var (K := K) rfl .int) ed_int rd_B0)) (fun hv H2 s2 => ?_) (fun hv H2 s2 => ?_)))
  · have hv' : Kp412.isFlour q = false := by
      have := of_decide_eq_true hv
      exact decide_eq_false (by show ¬ q < 3; omega)
    exact s_ans k h (congrArg (Prod.mk (some b)) (if_pos hv')) hb.some ((But.of s1).trans (But.of s2)) (hb1.same s2) (en_lst (ea_cons ed_int ea_nil) (Nat.le_of_ble_eq_true rfl))
  · have hq : q < 3 := by have := of_decide_eq_false hv; omega
    have hv' : ¬ Kp412.isFlour q = false := by rw [show Kp412.isFlour q = true from decide_eq_true hq]; exact Bool.noConfusion
    have hb2 := hb1.same s2
    refine s_next (s_nx (s_seq (s_if (et_test (ed_op (ed_var rfl .int) (ed_asgn hB rfl hb2) rd_notIn)) (fun hc H3 s3 => ?_) (fun hc H3 s3 => ?_))))
    · have hc' : (Kp412.streamsOf b b.assignment q).isEmpty = true := (of_empty wf.as q).trans hc
      exact s_ans k h (congrArg (Prod.mk (some b)) ((if_neg hv').trans (if_pos hc'))) hb.some ((But.of s1).trans ((But.of s2).trans (But.of s3))) (hb2.same s3) (en_lst (ea_cons ed_int ea_nil) (Nat.le_of_ble_eq_true rfl))
    · have hc' : ¬ (Kp412.streamsOf b b.assignment q).isEmpty = true := by rw [of_empty wf.as q, hc]; exact Bool.false_ne_true
      have hany : b.assignment.any (· == q) = true := by simpa using hc
      have hpos := amt_pos wf.as (fun s hs => (wf.st s hs).1) hany
      have hlt := amt_le (l := b.assignment) wf.sm.ns (fun s hs => (wf.st s hs).2.1) q
      have hb3 := hb2.same s3
      refine s_next (s_nx (s_seq (s_asg (K := K) (ed_op (en_call (ea_cons (ed_mill hB rfl hb3) (ea_cons (ed_asgn hB rfl hb3) ea_nil)) (.mk b b.assignment wf.as)).toD (ed_var rfl .int) (rd_ixL rfl (four_get _ (by omega)))) fun v3 H4 s4 r3 => ?_)))
      cases r3
      have hb4 := hb3.same s4
      refine s_nx (s_seq (s_asg (K := K) (ed_op (en_call (ea_cons (ed_mill hB rfl hb4) (ea_cons (ed_asgn hB rfl hb4) ea_nil)) (.mk b b.assignment wf.as wf.sm)).toD (ed_var rfl .int) (rd_ixL rfl (four_get _ (by omega)))) fun v4 H5 s5 r4 => ?_))
      cases r4
      have hb5 := hb4.same s5
      refine s_nx (s_ans (an := ⟨0, [(amt b b.assignment q : Int), (((ash b b.assignment q : Nat) : Rat) / ((amt b b.assignment q : Nat) : Rat)).num, ((((ash b b.assignment q : Nat) : Rat) / ((amt b b.assignment q : Nat) : Rat)).den : Int)]⟩) k h (congrArg (Prod.mk (some b)) ((if_neg hv').trans (if_neg hc'))) hb.some ((But.of s1).trans ((But.of s2).trans ((But.of s3).trans ((But.of s4).trans (But.of s5))))) hb5 (EvN.is (en_cat (en_lst (ea_cons ed_int (ea_cons (ed_var rfl .int) ea_nil)) (Nat.le_of_ble_eq_true rfl)) (en_call (ea_cons (ed_var rfl .int) (ea_cons (ed_var rfl .int) ea_nil)) (.mk _ _ hpos (by omega))) (Nat.le_of_ble_eq_true rfl)) ?_))
      show _ = [D.int 0, D.int (amt b b.assignment q : Int), D.int (((ash b b.assignment q : Nat) : Rat) / ((amt b b.assignment q : Nat) : Rat)).num, D.int ((((ash b b.assignment q : Nat) : Rat) / ((amt b b.assignment q : Nat) : Rat)).den : Int)]
      rw [frac_num _ _ hpos, frac_den _ _ hpos]
      rfl
end
end Fa
namespace Fa
open PySem PySem.Spec PyProof.Rows L2
open Kp412 (Stream Blender)
section
variable {P : Program} {w : World} {K : PySem.W.Frag} {mg : Str → Option Value} {base : Heap} {C CD : Addr}
local macro_rules | `(tactic| walk_at "fa_rd") => `(tactic| first
  | exact rd_I0 | exact rd_B0 | exact rd_eq
  | exact rd_ixT (n := 0) rfl rfl | exact rd_ixT (n := 1) rfl rfl | exact rd_ixT (n := 2) rfl rfl
  | exact rd_ixL (n := 0) rfl rfl | exact rd_ixL (n := 1) rfl rfl | exact rd_ixL (n := 2) rfl rfl
  | exact rd_catA (by simp) )
local macro_rules | `(tactic| walk_at "fa_ev") => `(tactic| first
  | exact ed_int | exact ed_bl
  | (refine ed_var rfl ?_; assumption)
  | (refine ed_op ?_ ?_ ?_; focus walk_at "fa_ev"; focus walk_at "fa_ev"; focus walk_at "fa_rd")
  | (refine ed_cb ?_ ?_; focus walk_at "fa_ea"; focus (first | exact rc_lenT | exact rc_lenL))
  | (refine ed_tup ?_ ?_; focus walk_at "fa_ea"; focus (simp; done)))
local macro_rules | `(tactic| walk_at "fa_ea") => `(tactic| first
  | exact ea_nil
  | (refine ea_cons ?_ ?_; focus walk_at "fa_ev"; focus walk_at "fa_ea"))

theorem sc_ash_margin : FnScope ["blender", "numbers", "flour"] ["blender", "numbers"] (C8.fnScope (top 58)) := C8.fnScope_by (by decide +kernel)
theorem ok_ash_margin (T : Tx K mg) (hB : BleX K C) (c_margin_of : C8.Cal P w K mg base 2 "margin_of" (spD K R_margin_of) []) : C8.Cal P w K mg base 3 "ash_margin" (spOp K C R_ash_margin) [] := by
  obtain ⟨f, fd, h1, h2, h3, h4⟩ := T.F.d_ash_margin
  refine C8.cal0 (N := ["blender", "numbers", "flour"]) (ps := ["blender", "numbers"]) ⟨h2, T.yes _ _ h1, h4⟩ (h2.binds h3 (fun _ _ _ _ _ _ us hl => match us, hl with | [_, _], _ => rfl)) .nil sc_ash_margin (fun vs H Q E h => spOp_len h) (fun cdv A outer s H vs Q E hr h => ⟨_, (pss_cons (ps_set (i := 2) sc_ash_margin.nd rfl (by first | exact Or.inl rfl | exact Or.inr rfl) (pe_ix ix_list (pv 1) pe_int (fun _ _ => rfl)))
      (pss_cons (ps_if (pt_cmpR op_ge (pv 2) (C8.pe_gc rfl (T.int T.F.i_FLOURS)) (nomark _)) (pss_one (ps_ret (pe_lst (pa_cons (C8.pe_gc rfl (T.int T.F.i_NOT_THERE)) pa_nil)))) pss_nil)
      (pss_one (ps_ret (pe_lst (pa_cons (C8.pe_c c_margin_of hr (by decide) rfl (pa_cons (pe_fld (pv 0) rfl) (pa_cons (pe_fld (pv 0) rfl) (pa_cons (pv 2) pa_nil)))) pa_nil)))))), ?_⟩)
  obtain ⟨a, x, b, b', ns, out, rfl, hb, rx, hR, k⟩ := h
  cases hR with | mk q wf h =>
  refine s_seq (s_asg (K := K) (ed_op (ed_var rfl rx) ed_int (rd_ixL (n := 0) rfl rfl)) fun v2 H1 s1 r2 => ?_)
  cases r2
  have hb1 := hb.same s1
  refine s_nx (s_seq (s_if (et_test (ed_op (ed_var (K := K) rfl .int) ed_int rd_B0)) (fun hv H2 s2 => ?_) (fun hv H2 s2 => ?_)))
  · have hv' : ¬ Kp412.isFlour q = true := by
      have := of_decide_eq_true hv
      rw [show Kp412.isFlour q = false from decide_eq_false (by show ¬ q < 3; omega)]
      exact Bool.false_ne_true
    exact s_ans k h (congrArg (Prod.mk (some b)) (if_neg hv')) hb.some ((But.of s1).trans (But.of s2)) (hb1.same s2) (en_lst (ea_cons ed_int ea_nil) (Nat.le_of_ble_eq_true rfl))
  · have hq : q < 3 := by have := of_decide_eq_false hv; omega
    have hv' : Kp412.isFlour q = true := decide_eq_true hq
    have hb2 := hb1.same s2
    have hle := fea_le wf.fea hq
    refine s_next (s_nx (s_ans (an := Kp412.single ((b.limits.getD q 0 * amt b b.assignment q - ash b b.assignment q : Nat) : Int)) k h (congrArg (Prod.mk (some b)) (if_pos hv')) hb.some ((But.of s1).trans (But.of s2)) hb2 (en_lst (ea_cons (EvD.is (ed_call (ea_cons (ed_mill hB rfl hb2) (ea_cons (ed_asgn hB rfl hb2) (ea_cons (ed_var rfl .int) ea_nil))) (.mk b b.assignment q hq wf.as wf.sm)) ?_) ea_nil) (Nat.le_of_ble_eq_true rfl))))
    rw [Int.ofNat_sub hle, Int.natCast_mul]
    rfl
end
end Fa
namespace Fa
open PySem PySem.Spec PyProof.Rows L2
open Kp412 (Stream Blender)
section
variable {P : Program} {w : World} {K : PySem.W.Frag} {mg : Str → Option Value} {base : Heap} {C CD : Addr}
local macro_rules | `(tactic| walk_at "fa_rd") => `(tactic| first
  | exact rd_I0 | exact rd_B0 | exact rd_eq
  | exact rd_ixT (n := 0) rfl rfl | exact rd_ixT (n := 1) rfl rfl | exact rd_ixT (n := 2) rfl rfl
  | exact rd_ixL (n := 0) rfl rfl | exact rd_ixL (n := 1) rfl rfl | exact rd_ixL (n := 2) rfl rfl
  | exact rd_catA (by simp) )
local macro_rules | `(tactic| walk_at "fa_ev") => `(tactic| first
  | exact ed_int | exact ed_bl
  | (refine ed_var rfl ?_; assumption)
  | (refine ed_op ?_ ?_ ?_; focus walk_at "fa_ev"; focus walk_at "fa_ev"; focus walk_at "fa_rd")
  | (refine ed_cb ?_ ?_; focus walk_at "fa_ea"; focus (first | exact rc_lenT | exact rc_lenL))
  | (refine ed_tup ?_ ?_; focus walk_at "fa_ea"; focus (simp; done)))
local macro_rules | `(tactic| walk_at "fa_ea") => `(tactic| first
  | exact ea_nil
  | (refine ea_cons ?_ ?_; focus walk_at "fa_ev"; focus walk_at "fa_ea"))

theorem sc_revenue : FnScope ["blender", "numbers"] ["blender", "numbers"] (C8.fnScope (top 59)) := C8.fnScope_by (by decide +kernel)
theorem ok_revenue (T : Tx K mg) (hB : BleX K C) (c_revenue_of : C8.Cal P w K mg base 2 "revenue_of" (spD K R_revenue_of) []) : C8.Cal P w K mg base 3 "revenue" (spOp K C R_revenue) [] := by
  obtain ⟨f, fd, h1, h2, h3, h4⟩ := T.F.d_revenue
  refine C8.cal0 (N := ["blender", "numbers"]) (ps := ["blender", "numbers"]) ⟨h2, T.yes _ _ h1, h4⟩ (h2.binds h3 (fun _ _ _ _ _ _ us hl => match us, hl with | [_, _], _ => rfl)) .nil sc_revenue (fun vs H Q E h => spOp_len h) (fun cdv A outer s H vs Q E hr h => ⟨_, (pss_one (ps_ret (pe_lst (pa_cons (C8.pe_c c_revenue_of hr (by decide) rfl (pa_cons (pe_fld (pv 0) rfl) (pa_cons (pe_fld (pv 0) rfl) pa_nil))) pa_nil)))), ?_⟩)
  obtain ⟨a, x, b, b', ns, out, rfl, hb, rx, hR, k⟩ := h
  cases hR with | mk wf h =>
  exact s_ans (an := Kp412.single (Kp412.revenue b b.assignment : Nat)) k h rfl hb.some (but_refl _ _) hb (en_lst (ea_cons (ed_call (ea_cons (ed_mill hB rfl hb) (ea_cons (ed_asgn hB rfl hb) ea_nil)) (.mk b b.assignment wf.as wf.sm)) ea_nil) (Nat.le_of_ble_eq_true rfl))
end
end Fa
namespace Fa
open PySem PySem.Spec PyProof.Rows L2
open Kp412 (Stream Blender)
section
variable {P : Program} {w : World} {K : PySem.W.Frag} {mg : Str → Option Value} {base : Heap} {C CD : Addr}
local macro_rules | `(tactic| walk_at "fa_rd") => `(tactic| first
  | exact rd_I0 | exact rd_B0 | exact rd_eq
  | exact rd_ixT (n := 0) rfl rfl | exact rd_ixT (n := 1) rfl rfl | exact rd_ixT (n := 2) rfl rfl
  | exact rd_ixL (n := 0) rfl rfl | exact rd_ixL (n := 1) rfl rfl | exact rd_ixL (n := 2) rfl rfl
  | exact rd_catA (by simp) )
local macro_rules | `(tactic| walk_at "fa_ev") => `(tactic| first
  | exact ed_int | exact ed_bl
  | (refine ed_var rfl ?_; assumption)
  | (refine ed_op ?_ ?_ ?_; focus walk_at "fa_ev"; focus walk_at "fa_ev"; focus walk_at "fa_rd")
  | (refine ed_cb ?_ ?_; focus walk_at "fa_ea"; focus (first | exact rc_lenT | exact rc_lenL))
  | (refine ed_tup ?_ ?_; focus walk_at "fa_ea"; focus (simp; done)))
local macro_rules | `(tactic| walk_at "fa_ea") => `(tactic| first
  | exact ea_nil
  | (refine ea_cons ?_ ?_; focus walk_at "fa_ev"; focus walk_at "fa_ea"))

theorem sc_best_assignment : FnScope ["blender", "numbers", "found", "assignment"] ["blender", "numbers"] (C8.fnScope (top 60)) := C8.fnScope_by (by decide +kernel)
theorem ok_best_assignment (T : Tx K mg) (hB : BleX K C) (c_best_of : C8.Cal P w K mg base 4 "best_of" (spD K R_best_of) []) : C8.Cal P w K mg base 5 "best_assignment" (spOp K C R_best_assignment) [] := by
  obtain ⟨f, fd, h1, h2, h3, h4⟩ := T.F.d_best_assignment
  refine C8.cal0 (N := ["blender", "numbers", "found", "assignment"]) (ps := ["blender", "numbers"]) ⟨h2, T.yes _ _ h1, h4⟩ (h2.binds h3 (fun _ _ _ _ _ _ us hl => match us, hl with | [_, _], _ => rfl)) .nil sc_best_assignment (fun vs H Q E h => spOp_len h) (fun cdv A outer s H vs Q E hr h => ⟨_, (pss_cons (ps_asg (C8.pe_c c_best_of hr (by decide) rfl (pa_cons (pe_fld (pv 0) rfl) pa_nil)) (pg_tup (n := 2) rfl (pgs_cons (pg_name (i := 2) sc_best_assignment.nd rfl (by first | exact Or.inl rfl | exact Or.inr rfl)) (pgs_cons (pg_name (i := 3) sc_best_assignment.nd rfl (by first | exact Or.inl rfl | exact Or.inr rfl)) pgs_nil))))
      (pss_one (ps_ret (pe_op op_cat (pe_lst (pa_cons (pv 2) pa_nil)) (pe_callTy call_list_of (by rfl) (T.no T.F.b_list) (by decide +kernel) (pa_cons (pv 3) pa_nil)))))), ?_⟩)
  obtain ⟨a, x, b, b', ns, out, rfl, hb, rx, hR, k⟩ := h
  cases hR with | mk wf h =>
  obtain ⟨l, hl⟩ := best_some wf
  have hlen : l.length ≤ 6 := by rw [(as_fea (best_mem hl)).len]; exact wf.sm.ns
  refine s_seq (s_unp (K := K) (l := [.int (Kp412.revenue b l : Nat), asgD l]) (ed_call (ea_cons (ed_mill hB rfl hb) ea_nil) (.mk b wf.sm l hl)) rfl fun vs H1 s1 rv => ?_)
  obtain ⟨y, z, rfl, ry, rz⟩ := reps2 rv
  cases ry
  have hb1 := hb.same s1
  refine ⟨_, _, rfl, _, _, rfl, rfl, ?_⟩
  refine s_nx (s_ans (an := Kp412.natResult (Kp412.revenue b l) l) k h (congrArg (Prod.mk (some b)) ?_) hb.some (But.of s1) hb1 (EvN.is (en_cat (en_lst (ea_cons (ed_var rfl .int) ea_nil) (Nat.le_of_ble_eq_true rfl)) (en_cb (ea_cons (ed_var rfl rz) ea_nil) rcn_listT) ?_) ?_))
  · show (match Kp412.bestAssignment b with
      | none => Kp412.single (-33)
      | some a => Kp412.natResult (Kp412.revenue b a) a) = _
    rw [hl]
  · rw [List.length_map, List.length_singleton]; omega
  · show [D.int (Kp412.revenue b l : Int)] ++ l.map natD = D.int (Kp412.revenue b l : Int) :: (l.map fun (x : Nat) => (x : Int)).map D.int
    rw [nat_out]; rfl
end
end Fa
namespace Fa
open PySem PySem.Spec PyProof.Rows L2
open Kp412 (Stream Blender)
section
variable {P : Program} {w : World} {K : PySem.W.Frag} {mg : Str → Option Value} {base : Heap} {C CD : Addr}
local macro_rules | `(tactic| walk_at "fa_rd") => `(tactic| first
  | exact rd_I0 | exact rd_B0 | exact rd_eq
  | exact rd_ixT (n := 0) rfl rfl | exact rd_ixT (n := 1) rfl rfl | exact rd_ixT (n := 2) rfl rfl
  | exact rd_ixL (n := 0) rfl rfl | exact rd_ixL (n := 1) rfl rfl | exact rd_ixL (n := 2) rfl rfl
  | exact rd_catA (by simp) )
local macro_rules | `(tactic| walk_at "fa_ev") => `(tactic| first
  | exact ed_int | exact ed_bl
  | (refine ed_var rfl ?_; assumption)
  | (refine ed_op ?_ ?_ ?_; focus walk_at "fa_ev"; focus walk_at "fa_ev"; focus walk_at "fa_rd")
  | (refine ed_cb ?_ ?_; focus walk_at "fa_ea"; focus (first | exact rc_lenT | exact rc_lenL))
  | (refine ed_tup ?_ ?_; focus walk_at "fa_ea"; focus (simp; done)))
local macro_rules | `(tactic| walk_at "fa_ea") => `(tactic| first
  | exact ea_nil
  | (refine ea_cons ?_ ?_; focus walk_at "fa_ev"; focus walk_at "fa_ea"))

theorem sc_feasible_count : FnScope ["blender", "numbers"] ["blender", "numbers"] (C8.fnScope (top 61)) := C8.fnScope_by (by decide +kernel)
theorem ok_feasible_count (T : Tx K mg) (hB : BleX K C) (c_feasible_ones : C8.Cal P w K mg base 3 "feasible_ones" (spN K R_feasible_ones) []) : C8.Cal P w K mg base 4 "feasible_count" (spOp K C R_feasible_count) [] := by
  obtain ⟨f, fd, h1, h2, h3, h4⟩ := T.F.d_feasible_count
  refine C8.cal0 (N := ["blender", "numbers"]) (ps := ["blender", "numbers"]) ⟨h2, T.yes _ _ h1, h4⟩ (h2.binds h3 (fun _ _ _ _ _ _ us hl => match us, hl with | [_, _], _ => rfl)) .nil sc_feasible_count (fun vs H Q E h => spOp_len h) (fun cdv A outer s H vs Q E hr h => ⟨_, (pss_one (ps_ret (pe_lst (pa_cons (pe_callB call_len_seq (by rfl) (T.no T.F.b_len) (by decide +kernel) (pa_cons (C8.pe_c c_feasible_ones hr (by decide) rfl (pa_cons (pe_fld (pv 0) rfl) pa_nil)) pa_nil)) pa_nil)))), ?_⟩)
  obtain ⟨a, x, b, b', ns, out, rfl, hb, rx, hR, k⟩ := h
  cases hR with | mk wf h =>
  exact s_ans (an := Kp412.single ((Kp412.feasibleAssignments b).length : Nat)) k h rfl hb.some (but_refl _ _) hb (en_lst (ea_cons ((ed_cb (ea_cons (en_call (ea_cons (ed_mill hB rfl hb) ea_nil) (.mk b wf.sm)).toD ea_nil) rc_lenL).is (by rw [List.length_map]; rfl)) ea_nil) (Nat.le_of_ble_eq_true rfl))
end
end Fa
namespace Fa
open PySem PySem.Spec PyProof.Rows L2
open Kp412 (Stream Blender)
section
variable {P : Program} {w : World} {K : PySem.W.Frag} {mg : Str → Option Value} {base : Heap} {C CD : Addr}
local macro_rules | `(tactic| walk_at "fa_rd") => `(tactic| first
  | exact rd_I0 | exact rd_B0 | exact rd_eq
  | exact rd_ixT (n := 0) rfl rfl | exact rd_ixT (n := 1) rfl rfl | exact rd_ixT (n := 2) rfl rfl
  | exact rd_ixL (n := 0) rfl rfl | exact rd_ixL (n := 1) rfl rfl | exact rd_ixL (n := 2) rfl rfl
  | exact rd_catA (by simp) )
local macro_rules | `(tactic| walk_at "fa_ev") => `(tactic| first
  | exact ed_int | exact ed_bl
  | (refine ed_var rfl ?_; assumption)
  | (refine ed_op ?_ ?_ ?_; focus walk_at "fa_ev"; focus walk_at "fa_ev"; focus walk_at "fa_rd")
  | (refine ed_cb ?_ ?_; focus walk_at "fa_ea"; focus (first | exact rc_lenT | exact rc_lenL))
  | (refine ed_tup ?_ ?_; focus walk_at "fa_ea"; focus (simp; done)))
local macro_rules | `(tactic| walk_at "fa_ea") => `(tactic| first
  | exact ea_nil
  | (refine ea_cons ?_ ?_; focus walk_at "fa_ev"; focus walk_at "fa_ea"))

theorem sc_evaluate_assignment : FnScope ["blender", "destinations"] ["blender", "destinations"] (C8.fnScope (top 62)) := C8.fnScope_by (by decide +kernel)
theorem ok_evaluate_assignment (T : Tx K mg) (hB : BleX K C) (c_fits : C8.Cal P w K mg base 1 "fits" (spD K R_fits) []) (c_is_feasible : C8.Cal P w K mg base 2 "is_feasible" (spD K R_is_feasible) []) (c_revenue_of : C8.Cal P w K mg base 2 "revenue_of" (spD K R_revenue_of) []) : C8.Cal P w K mg base 3 "evaluate_assignment" (spOp K C R_evaluate_assignment) [] := by
  obtain ⟨f, fd, h1, h2, h3, h4⟩ := T.F.d_evaluate_assignment
  refine C8.cal0 (N := ["blender", "destinations"]) (ps := ["blender", "destinations"]) ⟨h2, T.yes _ _ h1, h4⟩ (h2.binds h3 (fun _ _ _ _ _ _ us hl => match us, hl with | [_, _], _ => rfl)) .nil sc_evaluate_assignment (fun vs H Q E h => spOp_len h) (fun cdv A outer s H vs Q E hr h => ⟨_, (pss_cons (ps_if (pt_not (pt_val (C8.pe_c c_fits hr (by decide) rfl (pa_cons (pe_fld (pv 0) rfl) (pa_cons (pv 1) pa_nil))))) (pss_one (ps_ret (pe_lst (pa_cons (C8.pe_gc rfl (T.int T.F.i_OUTSIDE)) pa_nil)))) pss_nil)
      (pss_cons (ps_if (pt_not (pt_val (C8.pe_c c_is_feasible hr (by decide) rfl (pa_cons (pe_fld (pv 0) rfl) (pa_cons (pe_callTy call_tuple_of (by rfl) (T.no T.F.b_tuple) (by decide +kernel) (pa_cons (pv 1) pa_nil)) pa_nil))))) (pss_one (ps_ret (pe_lst (pa_cons (C8.pe_gc rfl (T.int T.F.i_EXCEEDS)) pa_nil)))) pss_nil)
      (pss_one (ps_ret (pe_lst (pa_cons (C8.pe_c c_revenue_of hr (by decide) rfl (pa_cons (pe_fld (pv 0) rfl) (pa_cons (pe_callTy call_tuple_of (by rfl) (T.no T.F.b_tuple) (by decide +kernel) (pa_cons (pv 1) pa_nil)) pa_nil))) pa_nil)))))), ?_⟩)
  obtain ⟨a, x, b, b', ns, out, rfl, hb, rx, hR, k⟩ := h
  cases hR with | mk l wf hl h =>
  rw [List.map_map] at rx
  have rx : Rep K H (.lst (l.map natD)) x := rx
  refine s_seq (s_if (et_not (et_B (ed_call (K := K) (ea_cons (ed_mill hB rfl hb) (ea_cons (ed_var rfl rx) ea_nil)) (.mk b l hl)))) (fun hv H1 s1 => ?_) (fun hv H1 s1 => ?_))
  · have hv' : Kp412.validAssignment b l = false := by simpa using hv
    exact s_ans k h (congrArg (Prod.mk (some b)) (if_pos hv')) hb.some (But.of s1) (hb.same s1) (en_lst (ea_cons ed_int ea_nil) (Nat.le_of_ble_eq_true rfl))
  · have hv0 : Kp412.validAssignment b l = true := by simpa using hv
    have hv' : ¬ Kp412.validAssignment b l = false := by rw [hv0]; exact Bool.noConfusion
    have hA : As b l := as_valid hv0
    have hb1 := hb.same s1
    refine s_next (s_nx (s_seq (s_if (et_not (et_B (ed_call (K := K) (ea_cons (ed_mill hB rfl hb1) (ea_cons (ed_cb (ea_cons (ed_var rfl (rx.same s1)) ea_nil) rc_tupleL) ea_nil)) (.mk b l hA wf.sm)))) (fun hf H2 s2 => ?_) (fun hf H2 s2 => ?_))))
    · have hf' : ¬ Kp412.feasible b l = true := by simpa using hf
      exact s_ans k h (congrArg (Prod.mk (some b)) ((if_neg hv').trans (if_neg hf'))) hb.some ((But.of s1).trans (But.of s2)) (hb1.same s2) (en_lst (ea_cons ed_int ea_nil) (Nat.le_of_ble_eq_true rfl))
    · have hf' : Kp412.feasible b l = true := by simpa using hf
      have hb2 := hb1.same s2
      exact s_next (s_nx (s_ans k h (congrArg (Prod.mk (some b)) ((if_neg hv').trans (if_pos hf'))) hb.some ((But.of s1).trans (But.of s2)) hb2 (en_lst (ea_cons (ed_call (ea_cons (ed_mill hB rfl hb2) (ea_cons (ed_cb (ea_cons (ed_var rfl (rx.same (s1.trans s2))) ea_nil) rc_tupleL) ea_nil)) (.mk b l hA wf.sm)) ea_nil) (Nat.le_of_ble_eq_true rfl))))
end
end Fa
namespace Fa
open PySem PySem.Spec PyProof.Rows L2
open Kp412 (Stream Blender)
section
variable {P : Program} {w : World} {K : PySem.W.Frag} {mg : Str → Option Value} {base : Heap} {C CD : Addr}
local macro_rules | `(tactic| walk_at "fa_rd") => `(tactic| first
  | exact rd_I0 | exact rd_B0 | exact rd_eq
  | exact rd_ixT (n := 0) rfl rfl | exact rd_ixT (n := 1) rfl rfl | exact rd_ixT (n := 2) rfl rfl
  | exact rd_ixL (n := 0) rfl rfl | exact rd_ixL (n := 1) rfl rfl | exact rd_ixL (n := 2) rfl rfl
  | exact rd_catA (by simp) )
local macro_rules | `(tactic| walk_at "fa_ev") => `(tactic| first
  | exact ed_int | exact ed_bl
  | (refine ed_var rfl ?_; assumption)
  | (refine ed_op ?_ ?_ ?_; focus walk_at "fa_ev"; focus walk_at "fa_ev"; focus walk_at "fa_rd")
  | (refine ed_cb ?_ ?_; focus walk_at "fa_ea"; focus (first | exact rc_lenT | exact rc_lenL))
  | (refine ed_tup ?_ ?_; focus walk_at "fa_ea"; focus (simp; done)))
local macro_rules | `(tactic| walk_at "fa_ea") => `(tactic| first
  | exact ea_nil
  | (refine ea_cons ?_ ?_; focus walk_at "fa_ev"; focus walk_at "fa_ea"))

theorem sc_max_first_flour : FnScope ["blender", "numbers", "found", "assignment"] ["blender", "numbers"] (C8.fnScope (top 63)) := C8.fnScope_by (by decide +kernel)
theorem ok_max_first_flour (T : Tx K mg) (hB : BleX K C) (c_most_first_flour : C8.Cal P w K mg base 4 "most_first_flour" (spD K R_most_first_flour) []) : C8.Cal P w K mg base 5 "max_first_flour" (spOp K C R_max_first_flour) [] := by
  obtain ⟨f, fd, h1, h2, h3, h4⟩ := T.F.d_max_first_flour
  refine C8.cal0 (N := ["blender", "numbers", "found", "assignment"]) (ps := ["blender", "numbers"]) ⟨h2, T.yes _ _ h1, h4⟩ (h2.binds h3 (fun _ _ _ _ _ _ us hl => match us, hl with | [_, _], _ => rfl)) .nil sc_max_first_flour (fun vs H Q E h => spOp_len h) (fun cdv A outer s H vs Q E hr h => ⟨_, (pss_cons (ps_asg (C8.pe_c c_most_first_flour hr (by decide) rfl (pa_cons (pe_fld (pv 0) rfl) pa_nil)) (pg_tup (n := 2) rfl (pgs_cons (pg_name (i := 2) sc_max_first_flour.nd rfl (by first | exact Or.inl rfl | exact Or.inr rfl)) (pgs_cons (pg_name (i := 3) sc_max_first_flour.nd rfl (by first | exact Or.inl rfl | exact Or.inr rfl)) pgs_nil))))
      (pss_one (ps_ret (pe_op op_cat (pe_lst (pa_cons (pv 2) pa_nil)) (pe_callTy call_list_of (by rfl) (T.no T.F.b_list) (by decide +kernel) (pa_cons (pv 3) pa_nil)))))), ?_⟩)
  obtain ⟨a, x, b, b', ns, out, rfl, hb, rx, hR, k⟩ := h
  cases hR with | mk wf h =>
  obtain ⟨l, hl⟩ := max_some wf
  have hm : l ∈ Kp412.feasibleAssignments b := by
    obtain ⟨_, _, _, _, hm⟩ := highest_first hl
    exact hm
  have hlen : l.length ≤ 6 := by rw [(as_fea hm).len]; exact wf.sm.ns
  refine s_seq (s_unp (K := K) (l := [.int (Kp412.firstFlourAmount b l : Nat), asgD l]) (ed_call (ea_cons (ed_mill hB rfl hb) ea_nil) (.mk b wf.sm l hl)) rfl fun vs H1 s1 rv => ?_)
  obtain ⟨y, z, rfl, ry, rz⟩ := reps2 rv
  cases ry
  have hb1 := hb.same s1
  refine ⟨_, _, rfl, _, _, rfl, rfl, ?_⟩
  refine s_nx (s_ans (an := Kp412.natResult (Kp412.firstFlourAmount b l) l) k h (congrArg (Prod.mk (some b)) ?_) hb.some (But.of s1) hb1 (EvN.is (en_cat (en_lst (ea_cons (ed_var rfl .int) ea_nil) (Nat.le_of_ble_eq_true rfl)) (en_cb (ea_cons (ed_var rfl rz) ea_nil) rcn_listT) ?_) ?_))
  · show (match Kp412.maxFirstFlour b with
      | none => Kp412.single (-33)
      | some a => Kp412.natResult (Kp412.firstFlourAmount b a) a) = _
    rw [hl]
  · rw [List.length_map, List.length_singleton]; omega
  · show [D.int (Kp412.firstFlourAmount b l : Int)] ++ l.map natD = D.int (Kp412.firstFlourAmount b l : Int) :: (l.map fun (x : Nat) => (x : Int)).map D.int
    rw [nat_out]; rfl
end
end Fa
namespace Fa
open PySem PySem.Spec PyProof.Rows L2
open Kp412 (Stream Blender)
section
variable {P : Program} {w : World} {K : PySem.W.Frag} {mg : Str → Option Value} {base : Heap} {C CD : Addr}
local macro_rules | `(tactic| walk_at "fa_rd") => `(tactic| first
  | exact rd_I0 | exact rd_B0 | exact rd_eq
  | exact rd_ixT (n := 0) rfl rfl | exact rd_ixT (n := 1) rfl rfl | exact rd_ixT (n := 2) rfl rfl
  | exact rd_ixL (n := 0) rfl rfl | exact rd_ixL (n := 1) rfl rfl | exact rd_ixL (n := 2) rfl rfl
  | exact rd_catA (by simp) )
local macro_rules | `(tactic| walk_at "fa_ev") => `(tactic| first
  | exact ed_int | exact ed_bl
  | (refine ed_var rfl ?_; assumption)
  | (refine ed_op ?_ ?_ ?_; focus walk_at "fa_ev"; focus walk_at "fa_ev"; focus walk_at "fa_rd")
  | (refine ed_cb ?_ ?_; focus walk_at "fa_ea"; focus (first | exact rc_lenT | exact rc_lenL))
  | (refine ed_tup ?_ ?_; focus walk_at "fa_ea"; focus (simp; done)))
local macro_rules | `(tactic| walk_at "fa_ea") => `(tactic| first
  | exact ea_nil
  | (refine ea_cons ?_ ?_; focus walk_at "fa_ev"; focus walk_at "fa_ea"))

theorem sc_max_first_flour_split : FnScope ["blender", "numbers"] ["blender", "numbers"] (C8.fnScope (top 64)) := C8.fnScope_by (by decide +kernel)
theorem ok_max_first_flour_split (T : Tx K mg) (hB : BleX K C) (c_split_total : C8.Cal P w K mg base 3 "split_total" (spN K R_split_total) []) : C8.Cal P w K mg base 4 "max_first_flour_split" (spOp K C R_max_first_flour_split) [] := by
  obtain ⟨f, fd, h1, h2, h3, h4⟩ := T.F.d_max_first_flour_split
  refine C8.cal0 (N := ["blender", "numbers"]) (ps := ["blender", "numbers"]) ⟨h2, T.yes _ _ h1, h4⟩ (h2.binds h3 (fun _ _ _ _ _ _ us hl => match us, hl with | [_, _], _ => rfl)) .nil sc_max_first_flour_split (fun vs H Q E h => spOp_len h) (fun cdv A outer s H vs Q E hr h => ⟨_, (pss_one (ps_ret (pe_op op_cat (pe_lst (pa_cons pe_int pa_nil)) (C8.pe_c c_split_total hr (by decide) rfl (pa_cons (pe_ix ix_tup (pe_fld (pv 0) rfl) pe_int (fun _ _ => rfl)) (pa_cons (pe_ix ix_tup (pe_ix ix_tup (pe_ix ix_tup (pe_fld (pv 0) rfl) pe_int (fun _ _ => rfl)) (C8.pe_gc rfl (T.int T.F.i_FIRST_FLOUR)) (fun _ _ => rfl)) pe_int (fun _ _ => rfl)) pa_nil)))))), ?_⟩)
  obtain ⟨a, x, b, b', ns, out, rfl, hb, rx, hR, k⟩ := h
  cases hR with | mk wf h =>
  exact s_ans (an := ⟨0, [(Kp412.maxFirstFlourSplit b).num, ((Kp412.maxFirstFlourSplit b).den : Int)]⟩) k h rfl hb.some (but_refl _ _) hb (en_cat (en_lst (ea_cons ed_int ea_nil) (Nat.le_of_ble_eq_true rfl)) (en_call (ea_cons (ed_op (ed_mill hB rfl hb) ed_int (rd_ixT (n := 0) rfl rfl)) (ea_cons (ed_op (ed_op (ed_op (ed_mill hB rfl hb) ed_int (rd_ixT (n := 1) rfl rfl)) ed_int (rd_ixT (n := 0) rfl (flos_get wf.sm (by decide)))) ed_int (rd_ixT (n := 0) rfl rfl)) ea_nil)) (.mk b wf.sm wf.st wf.li)) (Nat.le_of_ble_eq_true rfl))
end
end Fa
namespace Fa
open PySem PySem.Spec PyProof.Rows L2
open Kp412 (Stream Blender)
section
variable {P : Program} {w : World} {K : PySem.W.Frag} {mg : Str → Option Value} {base : Heap} {C CD : Addr}
local macro_rules | `(tactic| walk_at "fa_rd") => `(tactic| first
  | exact rd_I0 | exact rd_B0 | exact rd_eq
  | exact rd_ixT (n := 0) rfl rfl | exact rd_ixT (n := 1) rfl rfl | exact rd_ixT (n := 2) rfl rfl
  | exact rd_ixL (n := 0) rfl rfl | exact rd_ixL (n := 1) rfl rfl | exact rd_ixL (n := 2) rfl rfl
  | exact rd_catA (by simp) )
local macro_rules | `(tactic| walk_at "fa_ev") => `(tactic| first
  | exact ed_int | exact ed_bl
  | (refine ed_var rfl ?_; assumption)
  | (refine ed_op ?_ ?_ ?_; focus walk_at "fa_ev"; focus walk_at "fa_ev"; focus walk_at "fa_rd")
  | (refine ed_cb ?_ ?_; focus walk_at "fa_ea"; focus (first | exact rc_lenT | exact rc_lenL))
  | (refine ed_tup ?_ ?_; focus walk_at "fa_ea"; focus (simp; done)))
local macro_rules | `(tactic| walk_at "fa_ea") => `(tactic| first
  | exact ea_nil
  | (refine ea_cons ?_ ?_; focus walk_at "fa_ev"; focus walk_at "fa_ea"))

theorem sc_best_revenue_for_limit : FnScope ["blender", "numbers", "flour", "ash_limit", "price"] ["blender", "numbers"] (C8.fnScope (top 65)) := C8.fnScope_by (by decide +kernel)
theorem ok_best_revenue_for_limit (T : Tx K mg) (hB : BleX K C) (c_best_of : C8.Cal P w K mg base 4 "best_of" (spD K R_best_of) []) (c_with_flour : C8.Cal P w K mg base 2 "with_flour" (spD K R_with_flour) []) : C8.Cal P w K mg base 5 "best_revenue_for_limit" (spOp K C R_best_revenue_for_limit) [] := by
  obtain ⟨f, fd, h1, h2, h3, h4⟩ := T.F.d_best_revenue_for_limit
  refine C8.cal0 (N := ["blender", "numbers", "flour", "ash_limit", "price"]) (ps := ["blender", "numbers"]) ⟨h2, T.yes _ _ h1, h4⟩ (h2.binds h3 (fun _ _ _ _ _ _ us hl => match us, hl with | [_, _], _ => rfl)) .nil sc_best_revenue_for_limit (fun vs H Q E h => spOp_len h) (fun cdv A outer s H vs Q E hr h => ⟨_, (pss_cons (ps_asg (pv 1) (pg_unl (n := 2) rfl (pgs_cons (pg_name (i := 2) sc_best_revenue_for_limit.nd rfl (by first | exact Or.inl rfl | exact Or.inr rfl)) (pgs_cons (pg_name (i := 3) sc_best_revenue_for_limit.nd rfl (by first | exact Or.inl rfl | exact Or.inr rfl)) pgs_nil))))
      (pss_cons (ps_if (pt_cmpR op_ge (pv 2) (C8.pe_gc rfl (T.int T.F.i_FLOURS)) (nomark _)) (pss_one (ps_ret (pe_lst (pa_cons (C8.pe_gc rfl (T.int T.F.i_NOT_THERE)) pa_nil)))) pss_nil)
      (pss_cons (ps_if (pt_cmpR op_gt (pv 3) (C8.pe_gc rfl (T.int T.F.i_GREATEST_ASH)) (nomark _)) (pss_one (ps_ret (pe_lst (pa_cons (C8.pe_gc rfl (T.int T.F.i_OUTSIDE)) pa_nil)))) pss_nil)
      (pss_cons (ps_set (i := 4) sc_best_revenue_for_limit.nd rfl (by first | exact Or.inl rfl | exact Or.inr rfl) (pe_ix ix_tup (pe_ix ix_tup (pe_ix ix_tup (pe_fld (pv 0) rfl) pe_int (fun _ _ => rfl)) (pv 2) (fun _ _ => rfl)) pe_int (fun _ _ => rfl)))
      (pss_one (ps_ret (pe_lst (pa_cons (pe_ix ix_tup (C8.pe_c c_best_of hr (by decide) rfl (pa_cons (C8.pe_c c_with_flour hr (by decide) rfl (pa_cons (pe_fld (pv 0) rfl) (pa_cons (pv 2) (pa_cons (pv 3) (pa_cons (pv 4) pa_nil))))) pa_nil)) pe_int (fun _ _ => rfl)) pa_nil)))))))), ?_⟩)
  obtain ⟨a, x, b, b', ns, out, rfl, hb, rx, hR, k⟩ := h
  cases hR with | mk q l wf h =>
  refine s_seq (s_unl (K := K) (l := [.int q, .int l]) (ed_var rfl rx) rfl fun vs H1 s1 rv => ?_)
  obtain ⟨y, z, rfl, ry, rz⟩ := reps2 rv
  cases ry; cases rz
  have hb1 := hb.same s1
  refine ⟨_, _, rfl, _, _, rfl, rfl, ?_⟩
  refine s_nx (s_seq (s_if (et_test (ed_op (ed_var (K := K) rfl .int) ed_int rd_B0)) (fun hv H2 s2 => ?_) (fun hv H2 s2 => ?_)))
  · have hv' : Kp412.isFlour q = false := by
      have := of_decide_eq_true hv
      exact decide_eq_false (by show ¬ q < 3; omega)
    exact s_ans k h (congrArg (Prod.mk (some b)) (if_pos hv')) hb.some ((But.of s1).trans (But.of s2)) (hb1.same s2) (en_lst (ea_cons ed_int ea_nil) (Nat.le_of_ble_eq_true rfl))
  · have hq : q < 3 := by have := of_decide_eq_false hv; omega
    have hv' : ¬ Kp412.isFlour q = false := by rw [show Kp412.isFlour q = true from decide_eq_true hq]; exact Bool.noConfusion
    have hb2 := hb1.same s2
    refine s_next (s_nx (s_seq (s_if (et_test (ed_op (ed_var (K := K) rfl .int) ed_int rd_B0)) (fun hc H3 s3 => ?_) (fun hc H3 s3 => ?_))))
    · have hc' : 300 < l := by have := of_decide_eq_true hc; omega
      exact s_ans k h (congrArg (Prod.mk (some b)) ((if_neg hv').trans (if_pos hc'))) hb.some ((But.of s1).trans ((But.of s2).trans (But.of s3))) (hb2.same s3) (en_lst (ea_cons ed_int ea_nil) (Nat.le_of_ble_eq_true rfl))
    · have hc' : ¬ 300 < l := by have := of_decide_eq_false hc; omega
      have hb3 := hb2.same s3
      have hk : q < b.prices.length := by rw [wf.sm.np]; exact hq
      have eb : ({ b with limits := b.limits.set q l, prices := b.prices.set q (b.prices.getD q 0) } : Blender) = { b with limits := b.limits.set q l } := by rw [set_getD hk]
      have hS : Sm { b with limits := b.limits.set q l } := by
        rw [← eb]; exact sm_flour wf.sm (by show l < 4294967296; omega) (pri_lt wf.sm q)
      obtain ⟨m, hm⟩ := best_any { b with limits := b.limits.set q l }
      refine s_next (s_nx (s_seq (s_asg (K := K) (ed_op (ed_op (ed_op (ed_mill hB rfl hb3) ed_int (rd_ixT (n := 1) rfl rfl)) (ed_var rfl .int) (rd_ixT rfl (flos_get wf.sm hq))) ed_int (rd_ixT (n := 1) rfl rfl)) fun v4 H4 s4 r4 => ?_)))
      cases r4
      have hb4 := hb3.same s4
      refine s_nx (s_ans (an := Kp412.single (Kp412.bestRevenue { b with limits := b.limits.set q l } : Nat)) k h (congrArg (Prod.mk (some b)) ((if_neg hv').trans (if_neg hc'))) hb.some ((But.of s1).trans ((But.of s2).trans ((But.of s3).trans (But.of s4)))) hb4 (en_lst (ea_cons (EvD.is (ed_op (ed_call (ea_cons (EvD.is (ed_call (ea_cons (ed_mill hB rfl hb4) (ea_cons (ed_var rfl .int) (ea_cons (ed_var rfl .int) (ea_cons (ed_var rfl .int) ea_nil)))) (.mk b q l _ hq wf.sm.nl wf.sm.np)) (congrArg millD eb)) ea_nil) (.mk _ hS m hm)) ed_int (rd_ixT (n := 0) rfl rfl)) ?_) ea_nil) (Nat.le_of_ble_eq_true rfl)))
      rw [bestRevenue_of hm]; rfl
end
end Fa
namespace Fa
open PySem PySem.Spec PyProof.Rows L2
open Kp412 (Stream Blender)
section
variable {P : Program} {w : World} {K : PySem.W.Frag} {mg : Str → Option Value} {base : Heap} {C CD : Addr}
local macro_rules | `(tactic| walk_at "fa_rd") => `(tactic| first
  | exact rd_I0 | exact rd_B0 | exact rd_eq
  | exact rd_ixT (n := 0) rfl rfl | exact rd_ixT (n := 1) rfl rfl | exact rd_ixT (n := 2) rfl rfl
  | exact rd_ixL (n := 0) rfl rfl | exact rd_ixL (n := 1) rfl rfl | exact rd_ixL (n := 2) rfl rfl
  | exact rd_catA (by simp) )
local macro_rules | `(tactic| walk_at "fa_ev") => `(tactic| first
  | exact ed_int | exact ed_bl
  | (refine ed_var rfl ?_; assumption)
  | (refine ed_op ?_ ?_ ?_; focus walk_at "fa_ev"; focus walk_at "fa_ev"; focus walk_at "fa_rd")
  | (refine ed_cb ?_ ?_; focus walk_at "fa_ea"; focus (first | exact rc_lenT | exact rc_lenL))
  | (refine ed_tup ?_ ?_; focus walk_at "fa_ea"; focus (simp; done)))
local macro_rules | `(tactic| walk_at "fa_ea") => `(tactic| first
  | exact ea_nil
  | (refine ea_cons ?_ ?_; focus walk_at "fa_ev"; focus walk_at "fa_ea"))

theorem sc_value_of_stream : FnScope ["blender", "numbers", "stream", "others"] ["blender", "numbers"] (C8.fnScope (top 66)) := C8.fnScope_by (by decide +kernel)
theorem ok_value_of_stream (T : Tx K mg) (hB : BleX K C) (c_has_stream : C8.Cal P w K mg base 1 "has_stream" (spD K R_has_stream) []) (c_with_streams : C8.Cal P w K mg base 1 "with_streams" (spD K R_with_streams) []) (c_without : C8.Cal P w K mg base 1 "without" (spD K R_without) []) (c_best_of : C8.Cal P w K mg base 4 "best_of" (spD K R_best_of) []) : C8.Cal P w K mg base 5 "value_of_stream" (spOp K C R_value_of_stream) [] := by
  obtain ⟨f, fd, h1, h2, h3, h4⟩ := T.F.d_value_of_stream
  refine C8.cal0 (N := ["blender", "numbers", "stream", "others"]) (ps := ["blender", "numbers"]) ⟨h2, T.yes _ _ h1, h4⟩ (h2.binds h3 (fun _ _ _ _ _ _ us hl => match us, hl with | [_, _], _ => rfl)) .nil sc_value_of_stream (fun vs H Q E h => spOp_len h) (fun cdv A outer s H vs Q E hr h => ⟨_, (pss_cons (ps_set (i := 2) sc_value_of_stream.nd rfl (by first | exact Or.inl rfl | exact Or.inr rfl) (pe_ix ix_list (pv 1) pe_int (fun _ _ => rfl)))
      (pss_cons (ps_if (pt_not (pt_val (C8.pe_c c_has_stream hr (by decide) rfl (pa_cons (pe_fld (pv 0) rfl) (pa_cons (pv 2) pa_nil))))) (pss_one (ps_ret (pe_lst (pa_cons (C8.pe_gc rfl (T.int T.F.i_NOT_THERE)) pa_nil)))) pss_nil)
      (pss_cons (ps_set (i := 3) sc_value_of_stream.nd rfl (by first | exact Or.inl rfl | exact Or.inr rfl) (C8.pe_c c_with_streams hr (by decide) rfl (pa_cons (pe_fld (pv 0) rfl) (pa_cons (C8.pe_c c_without hr (by decide) rfl (pa_cons (pe_ix ix_tup (pe_fld (pv 0) rfl) pe_int (fun _ _ => rfl)) (pa_cons (pv 2) pa_nil))) pa_nil))))
      (pss_one (ps_ret (pe_lst (pa_cons pe_int (pa_cons (pe_op op_sub (pe_ix ix_tup (C8.pe_c c_best_of hr (by decide) rfl (pa_cons (pe_fld (pv 0) rfl) pa_nil)) pe_int (fun _ _ => rfl)) (pe_ix ix_tup (C8.pe_c c_best_of hr (by decide) rfl (pa_cons (pv 3) pa_nil)) pe_int (fun _ _ => rfl))) pa_nil)))))))), ?_⟩)
  obtain ⟨a, x, b, b', ns, out, rfl, hb, rx, hR, k⟩ := h
  cases hR with | mk i wf h =>
  refine s_seq (s_asg (K := K) (ed_op (ed_var rfl rx) ed_int (rd_ixL (n := 0) rfl rfl)) fun v2 H1 s1 r2 => ?_)
  cases r2
  have hb1 := hb.same s1
  refine s_nx (s_seq (s_if (et_not (et_B (ed_call (K := K) (ea_cons (ed_mill hB rfl hb1) (ea_cons (ed_var rfl .int) ea_nil)) (.mk b i)))) (fun hv H2 s2 => ?_) (fun hv H2 s2 => ?_)))
  · have hv' : ¬ Kp412.isStream b i = true := by simpa using hv
    exact s_ans k h (congrArg (Prod.mk (some b)) (if_neg hv')) hb.some ((But.of s1).trans (But.of s2)) (hb1.same s2) (en_lst (ea_cons ed_int ea_nil) (Nat.le_of_ble_eq_true rfl))
  · have hv' : Kp412.isStream b i = true := by simpa using hv
    have hi : i < b.streams.length := of_decide_eq_true hv'
    have hb2 := hb1.same s2
    have h6 := wf.sm.ns
    obtain ⟨m, hm⟩ := best_some wf
    obtain ⟨n, hn⟩ := best_any { b with streams := b.streams.eraseIdx i }
    refine s_next (s_nx (s_seq (s_asg (K := K) (EvD.is (ed_call (ea_cons (ed_mill hB rfl hb2) (ea_cons (EvD.is (ed_call (ea_cons (ed_op (ed_mill hB rfl hb2) ed_int (rd_ixT (n := 0) rfl rfl)) (ea_cons (ed_var rfl .int) ea_nil)) (.mk (b.streams.map strD) i ?_ ?_)) ?_) ea_nil)) (.mk b (b.streams.eraseIdx i))) rfl) fun v3 H3 s3 r3 => ?_)))
    · rw [List.length_map]; exact hi
    · rw [List.length_map]; omega
    · unfold strsD; rw [erase_map]
    · have hb3 := hb2.same s3
      refine s_nx (s_ans (an := ⟨0, [(Kp412.bestRevenue b : Int) - (Kp412.bestRevenue (Kp412.withoutStream b i) : Int)]⟩) k h (congrArg (Prod.mk (some b)) (if_pos hv')) hb.some ((But.of s1).trans ((But.of s2).trans (But.of s3))) hb3 (en_lst (ea_cons ed_int (ea_cons (EvD.is (ed_op (ed_op (ed_call (ea_cons (ed_mill hB rfl hb3) ea_nil) (.mk b wf.sm m hm)) ed_int (rd_ixT (n := 0) rfl rfl)) (ed_op (ed_call (ea_cons (ed_var rfl r3) ea_nil) (.mk _ (sm_erase wf.sm i) n hn)) ed_int (rd_ixT (n := 0) rfl rfl)) rd_I0) ?_) ea_nil)) (Nat.le_of_ble_eq_true rfl)))
      have e : Kp412.bestRevenue (Kp412.withoutStream b i) = Kp412.bestRevenue { b with streams := b.streams.eraseIdx i } := rfl
      rw [e, bestRevenue_of hm, bestRevenue_of hn]
end
end Fa
namespace Fa
open PySem PySem.Spec PyProof.Rows L2
open Kp412 (Stream Blender)
section
variable {P : Program} {w : World} {K : PySem.W.Frag} {mg : Str → Option Value} {base : Heap} {C CD : Addr}
local macro_rules | `(tactic| walk_at "fa_rd") => `(tactic| first
  | exact rd_I0 | exact rd_B0 | exact rd_eq
  | exact rd_ixT (n := 0) rfl rfl | exact rd_ixT (n := 1) rfl rfl | exact rd_ixT (n := 2) rfl rfl
  | exact rd_ixL (n := 0) rfl rfl | exact rd_ixL (n := 1) rfl rfl | exact rd_ixL (n := 2) rfl rfl
  | exact rd_catA (by simp) )
local macro_rules | `(tactic| walk_at "fa_ev") => `(tactic| first
  | exact ed_int | exact ed_bl
  | (refine ed_var rfl ?_; assumption)
  | (refine ed_op ?_ ?_ ?_; focus walk_at "fa_ev"; focus walk_at "fa_ev"; focus walk_at "fa_rd")
  | (refine ed_cb ?_ ?_; focus walk_at "fa_ea"; focus (first | exact rc_lenT | exact rc_lenL))
  | (refine ed_tup ?_ ?_; focus walk_at "fa_ea"; focus (simp; done)))
local macro_rules | `(tactic| walk_at "fa_ea") => `(tactic| first
  | exact ea_nil
  | (refine ea_cons ?_ ?_; focus walk_at "fa_ev"; focus walk_at "fa_ea"))

theorem sc_best_revenue_for_price : FnScope ["blender", "numbers", "flour", "price", "ash_limit"] ["blender", "numbers"] (C8.fnScope (top 67)) := C8.fnScope_by (by decide +kernel)
theorem ok_best_revenue_for_price (T : Tx K mg) (hB : BleX K C) (c_best_of : C8.Cal P w K mg base 4 "best_of" (spD K R_best_of) []) (c_with_flour : C8.Cal P w K mg base 2 "with_flour" (spD K R_with_flour) []) : C8.Cal P w K mg base 5 "best_revenue_for_price" (spOp K C R_best_revenue_for_price) [] := by
  obtain ⟨f, fd, h1, h2, h3, h4⟩ := T.F.d_best_revenue_for_price
  refine C8.cal0 (N := ["blender", "numbers", "flour", "price", "ash_limit"]) (ps := ["blender", "numbers"]) ⟨h2, T.yes _ _ h1, h4⟩ (h2.binds h3 (fun _ _ _ _ _ _ us hl => match us, hl with | [_, _], _ => rfl)) .nil sc_best_revenue_for_price (fun vs H Q E h => spOp_len h) (fun cdv A outer s H vs Q E hr h => ⟨_, (pss_cons (ps_asg (pv 1) (pg_unl (n := 2) rfl (pgs_cons (pg_name (i := 2) sc_best_revenue_for_price.nd rfl (by first | exact Or.inl rfl | exact Or.inr rfl)) (pgs_cons (pg_name (i := 3) sc_best_revenue_for_price.nd rfl (by first | exact Or.inl rfl | exact Or.inr rfl)) pgs_nil))))
      (pss_cons (ps_if (pt_cmpR op_ge (pv 2) (C8.pe_gc rfl (T.int T.F.i_FLOURS)) (nomark _)) (pss_one (ps_ret (pe_lst (pa_cons (C8.pe_gc rfl (T.int T.F.i_NOT_THERE)) pa_nil)))) pss_nil)
      (pss_cons (ps_if (pt_cmpR op_gt (pv 3) (C8.pe_gc rfl (T.int T.F.i_GREATEST_PRICE)) (nomark _)) (pss_one (ps_ret (pe_lst (pa_cons (C8.pe_gc rfl (T.int T.F.i_OUTSIDE)) pa_nil)))) pss_nil)
      (pss_cons (ps_set (i := 4) sc_best_revenue_for_price.nd rfl (by first | exact Or.inl rfl | exact Or.inr rfl) (pe_ix ix_tup (pe_ix ix_tup (pe_ix ix_tup (pe_fld (pv 0) rfl) pe_int (fun _ _ => rfl)) (pv 2) (fun _ _ => rfl)) pe_int (fun _ _ => rfl)))
      (pss_one (ps_ret (pe_lst (pa_cons (pe_ix ix_tup (C8.pe_c c_best_of hr (by decide) rfl (pa_cons (C8.pe_c c_with_flour hr (by decide) rfl (pa_cons (pe_fld (pv 0) rfl) (pa_cons (pv 2) (pa_cons (pv 4) (pa_cons (pv 3) pa_nil))))) pa_nil)) pe_int (fun _ _ => rfl)) pa_nil)))))))), ?_⟩)
  obtain ⟨a, x, b, b', ns, out, rfl, hb, rx, hR, k⟩ := h
  cases hR with | mk q p wf h =>
  refine s_seq (s_unl (K := K) (l := [.int q, .int p]) (ed_var rfl rx) rfl fun vs H1 s1 rv => ?_)
  obtain ⟨y, z, rfl, ry, rz⟩ := reps2 rv
  cases ry; cases rz
  have hb1 := hb.same s1
  refine ⟨_, _, rfl, _, _, rfl, rfl, ?_⟩
  refine s_nx (s_seq (s_if (et_test (ed_op (ed_var (K := K) rfl .int) ed_int rd_B0)) (fun hv H2 s2 => ?_) (fun hv H2 s2 => ?_)))
  · have hv' : Kp412.isFlour q = false := by
      have := of_decide_eq_true hv
      exact decide_eq_false (by show ¬ q < 3; omega)
    exact s_ans k h (congrArg (Prod.mk (some b)) (if_pos hv')) hb.some ((But.of s1).trans (But.of s2)) (hb1.same s2) (en_lst (ea_cons ed_int ea_nil) (Nat.le_of_ble_eq_true rfl))
  · have hq : q < 3 := by have := of_decide_eq_false hv; omega
    have hv' : ¬ Kp412.isFlour q = false := by rw [show Kp412.isFlour q = true from decide_eq_true hq]; exact Bool.noConfusion
    have hb2 := hb1.same s2
    refine s_next (s_nx (s_seq (s_if (et_test (ed_op (ed_var (K := K) rfl .int) ed_int rd_B0)) (fun hc H3 s3 => ?_) (fun hc H3 s3 => ?_))))
    · have hc' : 99 < p := by have := of_decide_eq_true hc; omega
      exact s_ans k h (congrArg (Prod.mk (some b)) ((if_neg hv').trans (if_pos hc'))) hb.some ((But.of s1).trans ((But.of s2).trans (But.of s3))) (hb2.same s3) (en_lst (ea_cons ed_int ea_nil) (Nat.le_of_ble_eq_true rfl))
    · have hc' : ¬ 99 < p := by have := of_decide_eq_false hc; omega
      have hb3 := hb2.same s3
      have hk : q < b.limits.length := by rw [wf.sm.nl]; exact hq
      have eb : ({ b with limits := b.limits.set q (b.limits.getD q 0), prices := b.prices.set q p } : Blender) = { b with prices := b.prices.set q p } := by rw [set_getD hk]
      have hS : Sm { b with prices := b.prices.set q p } := by
        rw [← eb]; exact sm_flour wf.sm (lim_lt wf.sm q) (by show p < 4294967296; omega)
      obtain ⟨m, hm⟩ := best_any { b with prices := b.prices.set q p }
      refine s_next (s_nx (s_seq (s_asg (K := K) (ed_op (ed_op (ed_op (ed_mill hB rfl hb3) ed_int (rd_ixT (n := 1) rfl rfl)) (ed_var rfl .int) (rd_ixT rfl (flos_get wf.sm hq))) ed_int (rd_ixT (n := 0) rfl rfl)) fun v4 H4 s4 r4 => ?_)))
      cases r4
      have hb4 := hb3.same s4
      refine s_nx (s_ans (an := Kp412.single (Kp412.bestRevenue { b with prices := b.prices.set q p } : Nat)) k h (congrArg (Prod.mk (some b)) ((if_neg hv').trans (if_neg hc'))) hb.some ((But.of s1).trans ((But.of s2).trans ((But.of s3).trans (But.of s4)))) hb4 (en_lst (ea_cons (EvD.is (ed_op (ed_call (ea_cons (EvD.is (ed_call (ea_cons (ed_mill hB rfl hb4) (ea_cons (ed_var rfl .int) (ea_cons (ed_var rfl .int) (ea_cons (ed_var rfl .int) ea_nil)))) (.mk b q _ p hq wf.sm.nl wf.sm.np)) (congrArg millD eb)) ea_nil) (.mk _ hS m hm)) ed_int (rd_ixT (n := 0) rfl rfl)) ?_) ea_nil) (Nat.le_of_ble_eq_true rfl)))
      rw [bestRevenue_of hm]; rfl
end
end Fa
/-! The desk. -/
namespace Fa
open PySem PySem.Spec PyProof.Rows L2
open Kp412 (Stream Blender)
variable {K : PySem.W.Frag} {H H' H1 H2 : Hp} {σ : L2.St} {ta : TA} {tb te tc : TE} {t : TT} {Z : Ends} {tu tw : TS} {C CD : Addr} {a : Addr} {b b' : Blender}
/-- an operation of the specification, by its number -/
structure AnyR (op : Int) (b : Blender) (ns : List Int) (b' : Blender) (out : List Int) : Prop where
  o1 : op = 1 → R_add_stream b ns b' out
  o2 : op = 2 → R_remove_stream b ns b' out
  o3 : op = 3 → R_set_stream b ns b' out
  o4 : op = 4 → R_set_flour b ns b' out
  o5 : op = 5 → R_set_feed_price b ns b' out
  o6 : op = 6 → R_get_stream b ns b' out
  o7 : op = 7 → R_set_assignment b ns b' out
  o8 : op = 8 → R_get_assignment b ns b' out
  o9 : op = 9 → R_move_stream b ns b' out
  o10 : op = 10 → R_flour_quality b ns b' out
  o11 : op = 11 → R_ash_margin b ns b' out
  o12 : op = 12 → R_revenue b ns b' out
  o13 : op = 13 → R_best_assignment b ns b' out
  o14 : op = 14 → R_apply_best_assignment b ns b' out
  o15 : op = 15 → R_feasible_count b ns b' out
  o16 : op = 16 → R_evaluate_assignment b ns b' out
  o17 : op = 17 → R_max_first_flour b ns b' out
  o18 : op = 18 → R_max_first_flour_split b ns b' out
  o19 : op = 19 → R_best_revenue_for_limit b ns b' out
  o20 : op = 20 → R_value_of_stream b ns b' out
  o21 : op = 21 → R_best_revenue_for_price b ns b' out
  le : 1 ≤ op ∧ op ≤ 21
def chg (op : Int) : Bool := op == 1 || op == 2 || op == 3 || op == 4 || op == 5 || op == 7 || op == 9 || op == 14
def sta (op : Int) : Bool := op == 6 || op == 8 || op == 10 || op == 11 || op == 12 || op == 16
/-- the operations of S are answered, None of others -/
def spSome (K : PySem.W.Frag) (C : Addr) (S : Int → Bool) : Sp := fun vs H Q _ => ∃ (a : Addr) (op : Int) (x : V) (b b' : Blender) (ns out : List Int), vs = [.ref a, .int op, x] ∧ BleAt K C H a b ∧ Rep K H (.lst (ns.map D.int)) x ∧ AnyR op b ns b' out ∧
  (S op = true → OpK K C a H b' out Q) ∧ (S op = false → ∀ H', Same H H' → Q .non H')
/-- all of these are answered -/
def spAll (K : PySem.W.Frag) (C : Addr) (S : Int → Bool) : Sp := fun vs H Q _ => ∃ (a : Addr) (op : Int) (x : V) (b b' : Blender) (ns out : List Int), vs = [.ref a, .int op, x] ∧ BleAt K C H a b ∧ Rep K H (.lst (ns.map D.int)) x ∧ AnyR op b ns b' out ∧ S op = true ∧ OpK K C a H b' out Q
theorem OpK.of {out : List Int} {Q : VK} (k : OpK K C a H b' out Q) (s : Same H H1) : OpK K C a H1 b' out Q := fun p H' hp t hb h => k p H' (s.free hp) ((But.of s).trans t) hb h
theorem s_op {R : Blender → List Int → Blender → List Int → Prop} {i j : Nat} {x : V} {ns out : List Int} {E : XK} {Q : VK} {nx bk ct : L2.St → Hp → Prop} (hi : σ[i]? = some (some (.ref a))) (hj : σ[j]? = some (some x)) (hb : BleAt K C H a b) (rx : Rep K H (.lst (ns.map D.int)) x) (hR : R b ns b' out) (k : OpK K C a H b' out Q) (s : Same H H1) :
    tRet (tCall (spOp K C R) [] E (tCons (tVar i) (tCons (tVar j) tNil))) ⟨nx, Q, bk, ct⟩ σ H1 :=
  ⟨_, hi, _, hj, a, x, b, b', ns, out, rfl, hb.same s, rx.same s, hR, k.of s⟩
theorem v_op {R : Blender → List Int → Blender → List Int → Prop} {i j : Nat} {x : V} {ns out : List Int} {E : XK} {Q : VK} (hi : σ[i]? = some (some (.ref a))) (hj : σ[j]? = some (some x)) (hb : BleAt K C H a b) (rx : Rep K H (.lst (ns.map D.int)) x) (hR : R b ns b' out) (k : OpK K C a H b' out Q) (s : Same H H1) :
    tCall (spOp K C R) [] E (tCons (tVar i) (tCons (tVar j) tNil)) σ H1 Q :=
  ⟨_, hi, _, hj, a, x, b, b', ns, out, rfl, hb.same s, rx.same s, hR, k.of s⟩
/-- return x if t else y -/
theorem s_retIf {c : Bool} (h : EvB t σ H c) (h1 : c = true → ∀ H1, Same H H1 → te σ H1 Z.rt) (h2 : c = false → ∀ H1, Same H H1 → tc σ H1 Z.rt) : tRet (tIf t te tc) Z σ H := h H (.refl _) _ fun H1 s => by
  cases c with
  | true => exact iteT (h1 rfl H1 s)
  | false => exact iteF (h2 rfl H1 s)
/-- if operation == n -/
theorem eb_op {i : Nat} {op n : Int} (hi : σ[i]? = some (some (.int op))) : EvB (tTest (tOp rEq (tVar i) (tC (.int n)))) σ H (decide (op = n)) := et_test (ed_op (K := ([] : PySem.W.Frag)) (ed_var hi .int) ed_int rd_eq)
def rNotN : R2 := fun x y H Q => y = .non ∧ Q (.bl (!decide (x = .non))) H
def rIsN : R2 := fun x y H Q => y = .non ∧ Q (.bl (decide (x = .non))) H
theorem eb_some {i : Nat} {p : Addr} (hi : σ[i]? = some (some (.ref p))) : EvB (tTest (tOp rNotN (tVar i) (tC .non))) σ H true := fun H1 _ Q q =>
  ⟨_, hi, rfl, true, by rw [decide_eq_false (show ¬ (V.ref p = V.non) from fun z => nomatch z)]; rfl, q H1 (.refl _)⟩
theorem eb_none {i : Nat} (hi : σ[i]? = some (some V.non)) : EvB (tTest (tOp rNotN (tVar i) (tC .non))) σ H false := fun H1 _ Q q =>
  ⟨_, hi, rfl, false, by rw [decide_eq_true rfl]; rfl, q H1 (.refl _)⟩

/-! ### the desk over the heap -/
def desF (v : V) : List (Str × V) := [("blender", v)]
theorem des_look (v : V) : (desF v).lookup ("blender" : Str) = some v := lk_here
theorem des_ans (v : V) : (desF v).lookup ("answer" : Str) = none := (lk_past (by decide +kernel)).trans rfl
theorem des_put (v x : V) : putF ("blender" : Str) x (desF v) = desF x := put_here
theorem des_new (x : V) : putF ("blender" : Str) x [] = desF x := rfl
inductive DesV (K : PySem.W.Frag) (C : Addr) (H : Hp) : Option Blender → V → Prop
  | non : DesV K C H none .non
  | ble {a : Addr} {b : Blender} : BleAt K C H a b → DesV K C H (some b) (.ref a)
theorem DesV.same {s : Option Blender} {v : V} (e : Same H H') (h : DesV K C H s v) : DesV K C H' s v := by
  cases h with
  | non => exact .non
  | ble h => exact .ble (h.same e)
def DesAt (K : PySem.W.Frag) (C CD : Addr) (H : Hp) (d : Addr) (s : Option Blender) : Prop := ∃ dx v, H d = some (.ins CD dx (desF v)) ∧ DesV K C H s v
/-- all but instances stand -/
def Hold (H H' : Hp) : Prop := ∀ c o, H c = some o → (∀ C dx fs, o ≠ .ins C dx fs) → H' c = some o
theorem Hold.refl (H : Hp) : Hold H H := fun _ _ h _ => h
theorem Hold.trans (x : Hold H H1) (y : Hold H1 H2) : Hold H H2 := fun c o h n => y c o (x c o h n) n
theorem hold_of (s : Same H H') : Hold H H' := fun c o h _ => s c o h
theorem hold_but {C dx : Addr} {fs : List (Str × V)} (h : H a = some (.ins C dx fs)) (k : But a H H') : Hold H H' := fun c o hc n => k c o hc fun e => by
  subst e
  rw [h] at hc
  cases hc
  exact n _ _ _ rfl
/-- an operation on the desk -/
inductive DeskR : Int → Option Blender → List Int → Option Blender → List Int → Prop
  | bad {s : Option Blender} (f : Nat) (h : 99 < f) : DeskR 0 s [(f : Int)] s [-22]
  | new {s : Option Blender} (f : Nat) (h : ¬ 99 < f) : DeskR 0 s [(f : Int)] (some ⟨[], [0, 0, 0], [0, 0, 0], f, []⟩) [0]
  | no {op : Int} {ns : List Int} (h : op ≠ 0) : DeskR op none ns none [-11]
  | op {op : Int} {b b' : Blender} {ns out : List Int} (h : AnyR op b ns b' out) : DeskR op (some b) ns (some b') out
def spIniD (K : PySem.W.Frag) (CD : Addr) : Sp := fun vs H Q _ => ∃ (p dx : Addr), vs = [.ref p] ∧ H p = some (.ins CD dx []) ∧ Q .non (upd H p (.ins CD dx (desF .non)))
def spCreate (K : PySem.W.Frag) (C CD : Addr) : Sp := fun vs H Q _ => ∃ (d dx : Addr) (v : V) (f : Nat), vs = [.ref d, .int f] ∧ H d = some (.ins CD dx (desF v)) ∧
  (99 < f → ∀ p H', H p = none → Same H H' → H' p = some (.lst [.int (-22)]) → Q (.ref p) H') ∧
  (¬ 99 < f → ∀ p H', H p = none → But d H H' → DesAt K C CD H' d (some ⟨[], [0, 0, 0], [0, 0, 0], f, []⟩) → H' p = some (.lst [.int 0]) → Q (.ref p) H')
def spAnswer (K : PySem.W.Frag) (C CD : Addr) : Sp := fun vs H Q _ => ∃ (d : Addr) (op : Int) (x : V) (s s' : Option Blender) (ns out : List Int), vs = [.ref d, .int op, x] ∧ DesAt K C CD H d s ∧ Rep K H (.lst (ns.map D.int)) x ∧ DeskR op s ns s' out ∧
  ∀ p H', H p = none → Hold H H' → DesAt K C CD H' d s' → H' p = some (.lst (out.map V.int)) → Q (.ref p) H'
/-! ### call_at -/
def CallIs (l : List Int) (at' : Nat) (op : Int) (ns : List Int) (e : Nat) : Prop := l[at']? = some op ∧ e ≤ l.length ∧
  (((op = 7 ∨ op = 16) ∧ ∃ n : Nat, l[at' + 1]? = some (n : Int) ∧ e = at' + 2 + n ∧ ns = (l.drop (at' + 2)).take n) ∨
   (op ≠ 7 ∧ op ≠ 16 ∧ ∃ n : Nat, countsL.lookup op = some (n : Int) ∧ e = at' + 1 + n ∧ ns = (l.drop (at' + 1)).take n))
inductive R_call_at : List D → D → Prop
  | mk (l : List Int) (at' : Nat) (op : Int) (ns : List Int) (e : Nat) (h : CallIs l at' op ns e) : R_call_at [.lst (l.map D.int), .int at'] (.tup [.int op, .lst (ns.map D.int), .int e])
end Fa
namespace Fa
open PySem PySem.Spec PyProof.Rows L2
open Kp412 (Stream Blender)
section
variable {P : Program} {w : World} {K : PySem.W.Frag} {mg : Str → Option Value} {base : Heap} {C CD : Addr}
local macro_rules | `(tactic| walk_at "fa_rd") => `(tactic| first
  | exact rd_I0 | exact rd_B0 | exact rd_eq
  | exact rd_ixT (n := 0) rfl rfl | exact rd_ixT (n := 1) rfl rfl | exact rd_ixT (n := 2) rfl rfl
  | exact rd_ixL (n := 0) rfl rfl | exact rd_ixL (n := 1) rfl rfl | exact rd_ixL (n := 2) rfl rfl
  | exact rd_catA (by simp) )
local macro_rules | `(tactic| walk_at "fa_ev") => `(tactic| first
  | exact ed_int | exact ed_bl
  | (refine ed_var rfl ?_; assumption)
  | (refine ed_op ?_ ?_ ?_; focus walk_at "fa_ev"; focus walk_at "fa_ev"; focus walk_at "fa_rd")
  | (refine ed_cb ?_ ?_; focus walk_at "fa_ea"; focus (first | exact rc_lenT | exact rc_lenL))
  | (refine ed_tup ?_ ?_; focus walk_at "fa_ea"; focus (simp; done)))
local macro_rules | `(tactic| walk_at "fa_ea") => `(tactic| first
  | exact ea_nil
  | (refine ea_cons ?_ ?_; focus walk_at "fa_ev"; focus walk_at "fa_ea"))

theorem sc_change_answered : FnScope ["blender", "operation", "numbers"] ["blender", "operation", "numbers"] (C8.fnScope (top 71)) := C8.fnScope_by (by decide +kernel)
theorem ok_change_answered (T : Tx K mg) (c_add_stream : C8.Cal P w K mg base 4 "add_stream" (spOp K C R_add_stream) []) (c_remove_stream : C8.Cal P w K mg base 4 "remove_stream" (spOp K C R_remove_stream) []) (c_set_stream : C8.Cal P w K mg base 4 "set_stream" (spOp K C R_set_stream) []) (c_set_flour : C8.Cal P w K mg base 4 "set_flour" (spOp K C R_set_flour) []) (c_set_feed_price : C8.Cal P w K mg base 4 "set_feed_price" (spOp K C R_set_feed_price) []) (c_set_assignment : C8.Cal P w K mg base 4 "set_assignment" (spOp K C R_set_assignment) []) (c_move_stream : C8.Cal P w K mg base 4 "move_stream" (spOp K C R_move_stream) []) (c_apply_best_assignment : C8.Cal P w K mg base 5 "apply_best_assignment" (spOp K C R_apply_best_assignment) []) : C8.Cal P w K mg base 6 "change_answered" (spSome K C chg) [] := by
  obtain ⟨f, fd, h1, h2, h3, h4⟩ := T.F.d_change_answered
  refine C8.cal0 (N := ["blender", "operation", "numbers"]) (ps := ["blender", "operation", "numbers"]) ⟨h2, T.yes _ _ h1, h4⟩ (h2.binds h3 (fun _ _ _ _ _ _ us hl => match us, hl with | [_, _, _], _ => rfl)) .nil sc_change_answered (fun vs H Q E h => by obtain ⟨_, _, _, _, _, _, _, rfl, _⟩ := h; rfl) (fun cdv A outer s H vs Q E hr h => ⟨_, (pss_cons (ps_if (pt_cmpR op_eq (pv 1) pe_int (nomark _)) (pss_one (ps_ret (C8.pe_c c_add_stream hr (by decide) rfl (pa_cons (pv 0) (pa_cons (pv 2) pa_nil))))) pss_nil)
      (pss_cons (ps_if (pt_cmpR op_eq (pv 1) pe_int (nomark _)) (pss_one (ps_ret (C8.pe_c c_remove_stream hr (by decide) rfl (pa_cons (pv 0) (pa_cons (pv 2) pa_nil))))) pss_nil)
      (pss_cons (ps_if (pt_cmpR op_eq (pv 1) pe_int (nomark _)) (pss_one (ps_ret (C8.pe_c c_set_stream hr (by decide) rfl (pa_cons (pv 0) (pa_cons (pv 2) pa_nil))))) pss_nil)
      (pss_cons (ps_if (pt_cmpR op_eq (pv 1) pe_int (nomark _)) (pss_one (ps_ret (C8.pe_c c_set_flour hr (by decide) rfl (pa_cons (pv 0) (pa_cons (pv 2) pa_nil))))) pss_nil)
      (pss_cons (ps_if (pt_cmpR op_eq (pv 1) pe_int (nomark _)) (pss_one (ps_ret (C8.pe_c c_set_feed_price hr (by decide) rfl (pa_cons (pv 0) (pa_cons (pv 2) pa_nil))))) pss_nil)
      (pss_cons (ps_if (pt_cmpR op_eq (pv 1) pe_int (nomark _)) (pss_one (ps_ret (C8.pe_c c_set_assignment hr (by decide) rfl (pa_cons (pv 0) (pa_cons (pv 2) pa_nil))))) pss_nil)
      (pss_cons (ps_if (pt_cmpR op_eq (pv 1) pe_int (nomark _)) (pss_one (ps_ret (C8.pe_c c_move_stream hr (by decide) rfl (pa_cons (pv 0) (pa_cons (pv 2) pa_nil))))) pss_nil)
      (pss_one (ps_ret (pe_ifExp (pt_cmpR op_eq (pv 1) pe_int (nomark _)) (C8.pe_c c_apply_best_assignment hr (by decide) rfl (pa_cons (pv 0) (pa_cons (pv 2) pa_nil))) pe_non)))))))))), ?_⟩)
  obtain ⟨a, op, x, b, b', ns, out, rfl, hb, rx, hA, k1, k2⟩ := h
  refine s_seq (s_if (eb_op rfl) (fun e H1 s1 => ?_) (fun e H1 s1 => ?_))
  · have e := of_decide_eq_true e; subst e
    exact s_op rfl rfl hb rx (hA.o1 rfl) (k1 rfl) s1
  have e1 := of_decide_eq_false e
  refine s_next (s_nx (s_seq (s_if (eb_op rfl) (fun e H2 s2 => ?_) (fun e H2 s2 => ?_))))
  · have e := of_decide_eq_true e; subst e
    exact s_op rfl rfl hb rx (hA.o2 rfl) (k1 rfl) (s1.trans s2)
  have e2 := of_decide_eq_false e
  have s2 := s1.trans s2
  refine s_next (s_nx (s_seq (s_if (eb_op rfl) (fun e H3 s3 => ?_) (fun e H3 s3 => ?_))))
  · have e := of_decide_eq_true e; subst e
    exact s_op rfl rfl hb rx (hA.o3 rfl) (k1 rfl) (s2.trans s3)
  have e3 := of_decide_eq_false e
  have s3 := s2.trans s3
  refine s_next (s_nx (s_seq (s_if (eb_op rfl) (fun e H4 s4 => ?_) (fun e H4 s4 => ?_))))
  · have e := of_decide_eq_true e; subst e
    exact s_op rfl rfl hb rx (hA.o4 rfl) (k1 rfl) (s3.trans s4)
  have e4 := of_decide_eq_false e
  have s4 := s3.trans s4
  refine s_next (s_nx (s_seq (s_if (eb_op rfl) (fun e H5 s5 => ?_) (fun e H5 s5 => ?_))))
  · have e := of_decide_eq_true e; subst e
    exact s_op rfl rfl hb rx (hA.o5 rfl) (k1 rfl) (s4.trans s5)
  have e5 := of_decide_eq_false e
  have s5 := s4.trans s5
  refine s_next (s_nx (s_seq (s_if (eb_op rfl) (fun e H6 s6 => ?_) (fun e H6 s6 => ?_))))
  · have e := of_decide_eq_true e; subst e
    exact s_op rfl rfl hb rx (hA.o7 rfl) (k1 rfl) (s5.trans s6)
  have e6 := of_decide_eq_false e
  have s6 := s5.trans s6
  refine s_next (s_nx (s_seq (s_if (eb_op rfl) (fun e H7 s7 => ?_) (fun e H7 s7 => ?_))))
  · have e := of_decide_eq_true e; subst e
    exact s_op rfl rfl hb rx (hA.o9 rfl) (k1 rfl) (s6.trans s7)
  have e7 := of_decide_eq_false e
  have s7 := s6.trans s7
  refine s_next (s_nx (s_retIf (eb_op rfl) (fun e H8 s8 => ?_) (fun e H8 s8 => ?_)))
  · have e := of_decide_eq_true e; subst e
    exact v_op rfl rfl hb rx (hA.o14 rfl) (k1 rfl) (s7.trans s8)
  have e8 := of_decide_eq_false e
  refine k2 ?_ H8 (s7.trans s8)
  unfold chg
  simp [e1, e2, e3, e4, e5, e6, e7, e8]
end
end Fa
namespace Fa
open PySem PySem.Spec PyProof.Rows L2
open Kp412 (Stream Blender)
section
variable {P : Program} {w : World} {K : PySem.W.Frag} {mg : Str → Option Value} {base : Heap} {C CD : Addr}
local macro_rules | `(tactic| walk_at "fa_rd") => `(tactic| first
  | exact rd_I0 | exact rd_B0 | exact rd_eq
  | exact rd_ixT (n := 0) rfl rfl | exact rd_ixT (n := 1) rfl rfl | exact rd_ixT (n := 2) rfl rfl
  | exact rd_ixL (n := 0) rfl rfl | exact rd_ixL (n := 1) rfl rfl | exact rd_ixL (n := 2) rfl rfl
  | exact rd_catA (by simp) )
local macro_rules | `(tactic| walk_at "fa_ev") => `(tactic| first
  | exact ed_int | exact ed_bl
  | (refine ed_var rfl ?_; assumption)
  | (refine ed_op ?_ ?_ ?_; focus walk_at "fa_ev"; focus walk_at "fa_ev"; focus walk_at "fa_rd")
  | (refine ed_cb ?_ ?_; focus walk_at "fa_ea"; focus (first | exact rc_lenT | exact rc_lenL))
  | (refine ed_tup ?_ ?_; focus walk_at "fa_ea"; focus (simp; done)))
local macro_rules | `(tactic| walk_at "fa_ea") => `(tactic| first
  | exact ea_nil
  | (refine ea_cons ?_ ?_; focus walk_at "fa_ev"; focus walk_at "fa_ea"))

theorem sc_state_answered : FnScope ["blender", "operation", "numbers"] ["blender", "operation", "numbers"] (C8.fnScope (top 72)) := C8.fnScope_by (by decide +kernel)
theorem ok_state_answered (T : Tx K mg) (c_get_stream : C8.Cal P w K mg base 2 "get_stream" (spOp K C R_get_stream) []) (c_get_assignment : C8.Cal P w K mg base 1 "get_assignment" (spOp K C R_get_assignment) []) (c_flour_quality : C8.Cal P w K mg base 3 "flour_quality" (spOp K C R_flour_quality) []) (c_ash_margin : C8.Cal P w K mg base 3 "ash_margin" (spOp K C R_ash_margin) []) (c_revenue : C8.Cal P w K mg base 3 "revenue" (spOp K C R_revenue) []) (c_evaluate_assignment : C8.Cal P w K mg base 3 "evaluate_assignment" (spOp K C R_evaluate_assignment) []) : C8.Cal P w K mg base 4 "state_answered" (spSome K C sta) [] := by
  obtain ⟨f, fd, h1, h2, h3, h4⟩ := T.F.d_state_answered
  refine C8.cal0 (N := ["blender", "operation", "numbers"]) (ps := ["blender", "operation", "numbers"]) ⟨h2, T.yes _ _ h1, h4⟩ (h2.binds h3 (fun _ _ _ _ _ _ us hl => match us, hl with | [_, _, _], _ => rfl)) .nil sc_state_answered (fun vs H Q E h => by obtain ⟨_, _, _, _, _, _, _, rfl, _⟩ := h; rfl) (fun cdv A outer s H vs Q E hr h => ⟨_, (pss_cons (ps_if (pt_cmpR op_eq (pv 1) pe_int (nomark _)) (pss_one (ps_ret (C8.pe_c c_get_stream hr (by decide) rfl (pa_cons (pv 0) (pa_cons (pv 2) pa_nil))))) pss_nil)
      (pss_cons (ps_if (pt_cmpR op_eq (pv 1) pe_int (nomark _)) (pss_one (ps_ret (C8.pe_c c_get_assignment hr (by decide) rfl (pa_cons (pv 0) (pa_cons (pv 2) pa_nil))))) pss_nil)
      (pss_cons (ps_if (pt_cmpR op_eq (pv 1) pe_int (nomark _)) (pss_one (ps_ret (C8.pe_c c_flour_quality hr (by decide) rfl (pa_cons (pv 0) (pa_cons (pv 2) pa_nil))))) pss_nil)
      (pss_cons (ps_if (pt_cmpR op_eq (pv 1) pe_int (nomark _)) (pss_one (ps_ret (C8.pe_c c_ash_margin hr (by decide) rfl (pa_cons (pv 0) (pa_cons (pv 2) pa_nil))))) pss_nil)
      (pss_cons (ps_if (pt_cmpR op_eq (pv 1) pe_int (nomark _)) (pss_one (ps_ret (C8.pe_c c_revenue hr (by decide) rfl (pa_cons (pv 0) (pa_cons (pv 2) pa_nil))))) pss_nil)
      (pss_one (ps_ret (pe_ifExp (pt_cmpR op_eq (pv 1) pe_int (nomark _)) (C8.pe_c c_evaluate_assignment hr (by decide) rfl (pa_cons (pv 0) (pa_cons (pv 2) pa_nil))) pe_non)))))))), ?_⟩)
  obtain ⟨a, op, x, b, b', ns, out, rfl, hb, rx, hA, k1, k2⟩ := h
  refine s_seq (s_if (eb_op rfl) (fun e H1 s1 => ?_) (fun e H1 s1 => ?_))
  · have e := of_decide_eq_true e; subst e
    exact s_op rfl rfl hb rx (hA.o6 rfl) (k1 rfl) s1
  have e1 := of_decide_eq_false e
  refine s_next (s_nx (s_seq (s_if (eb_op rfl) (fun e H2 s2 => ?_) (fun e H2 s2 => ?_))))
  · have e := of_decide_eq_true e; subst e
    exact s_op rfl rfl hb rx (hA.o8 rfl) (k1 rfl) (s1.trans s2)
  have e2 := of_decide_eq_false e
  have s2 := s1.trans s2
  refine s_next (s_nx (s_seq (s_if (eb_op rfl) (fun e H3 s3 => ?_) (fun e H3 s3 => ?_))))
  · have e := of_decide_eq_true e; subst e
    exact s_op rfl rfl hb rx (hA.o10 rfl) (k1 rfl) (s2.trans s3)
  have e3 := of_decide_eq_false e
  have s3 := s2.trans s3
  refine s_next (s_nx (s_seq (s_if (eb_op rfl) (fun e H4 s4 => ?_) (fun e H4 s4 => ?_))))
  · have e := of_decide_eq_true e; subst e
    exact s_op rfl rfl hb rx (hA.o11 rfl) (k1 rfl) (s3.trans s4)
  have e4 := of_decide_eq_false e
  have s4 := s3.trans s4
  refine s_next (s_nx (s_seq (s_if (eb_op rfl) (fun e H5 s5 => ?_) (fun e H5 s5 => ?_))))
  · have e := of_decide_eq_true e; subst e
    exact s_op rfl rfl hb rx (hA.o12 rfl) (k1 rfl) (s4.trans s5)
  have e5 := of_decide_eq_false e
  have s5 := s4.trans s5
  refine s_next (s_nx (s_retIf (eb_op rfl) (fun e H8 s8 => ?_) (fun e H8 s8 => ?_)))
  · have e := of_decide_eq_true e; subst e
    exact v_op rfl rfl hb rx (hA.o16 rfl) (k1 rfl) (s5.trans s8)
  have e8 := of_decide_eq_false e
  refine k2 ?_ H8 (s5.trans s8)
  unfold sta
  simp [e1, e2, e3, e4, e5, e8]
end
end Fa
namespace Fa
open PySem PySem.Spec PyProof.Rows L2
open Kp412 (Stream Blender)
section
variable {P : Program} {w : World} {K : PySem.W.Frag} {mg : Str → Option Value} {base : Heap} {C CD : Addr}
local macro_rules | `(tactic| walk_at "fa_rd") => `(tactic| first
  | exact rd_I0 | exact rd_B0 | exact rd_eq
  | exact rd_ixT (n := 0) rfl rfl | exact rd_ixT (n := 1) rfl rfl | exact rd_ixT (n := 2) rfl rfl
  | exact rd_ixL (n := 0) rfl rfl | exact rd_ixL (n := 1) rfl rfl | exact rd_ixL (n := 2) rfl rfl
  | exact rd_catA (by simp) )
local macro_rules | `(tactic| walk_at "fa_ev") => `(tactic| first
  | exact ed_int | exact ed_bl
  | (refine ed_var rfl ?_; assumption)
  | (refine ed_op ?_ ?_ ?_; focus walk_at "fa_ev"; focus walk_at "fa_ev"; focus walk_at "fa_rd")
  | (refine ed_cb ?_ ?_; focus walk_at "fa_ea"; focus (first | exact rc_lenT | exact rc_lenL))
  | (refine ed_tup ?_ ?_; focus walk_at "fa_ea"; focus (simp; done)))
local macro_rules | `(tactic| walk_at "fa_ea") => `(tactic| first
  | exact ea_nil
  | (refine ea_cons ?_ ?_; focus walk_at "fa_ev"; focus walk_at "fa_ea"))

theorem sc_search_answered : FnScope ["blender", "operation", "numbers"] ["blender", "operation", "numbers"] (C8.fnScope (top 73)) := C8.fnScope_by (by decide +kernel)
theorem ok_search_answered (T : Tx K mg) (c_best_assignment : C8.Cal P w K mg base 5 "best_assignment" (spOp K C R_best_assignment) []) (c_feasible_count : C8.Cal P w K mg base 4 "feasible_count" (spOp K C R_feasible_count) []) (c_max_first_flour : C8.Cal P w K mg base 5 "max_first_flour" (spOp K C R_max_first_flour) []) (c_max_first_flour_split : C8.Cal P w K mg base 4 "max_first_flour_split" (spOp K C R_max_first_flour_split) []) (c_best_revenue_for_limit : C8.Cal P w K mg base 5 "best_revenue_for_limit" (spOp K C R_best_revenue_for_limit) []) (c_value_of_stream : C8.Cal P w K mg base 5 "value_of_stream" (spOp K C R_value_of_stream) []) (c_best_revenue_for_price : C8.Cal P w K mg base 5 "best_revenue_for_price" (spOp K C R_best_revenue_for_price) []) : C8.Cal P w K mg base 6 "search_answered" (spAll K C (fun op => !chg op && !sta op)) [] := by
  obtain ⟨f, fd, h1, h2, h3, h4⟩ := T.F.d_search_answered
  refine C8.cal0 (N := ["blender", "operation", "numbers"]) (ps := ["blender", "operation", "numbers"]) ⟨h2, T.yes _ _ h1, h4⟩ (h2.binds h3 (fun _ _ _ _ _ _ us hl => match us, hl with | [_, _, _], _ => rfl)) .nil sc_search_answered (fun vs H Q E h => by obtain ⟨_, _, _, _, _, _, _, rfl, _⟩ := h; rfl) (fun cdv A outer s H vs Q E hr h => ⟨_, (pss_cons (ps_if (pt_cmpR op_eq (pv 1) pe_int (nomark _)) (pss_one (ps_ret (C8.pe_c c_best_assignment hr (by decide) rfl (pa_cons (pv 0) (pa_cons (pv 2) pa_nil))))) pss_nil)
      (pss_cons (ps_if (pt_cmpR op_eq (pv 1) pe_int (nomark _)) (pss_one (ps_ret (C8.pe_c c_feasible_count hr (by decide) rfl (pa_cons (pv 0) (pa_cons (pv 2) pa_nil))))) pss_nil)
      (pss_cons (ps_if (pt_cmpR op_eq (pv 1) pe_int (nomark _)) (pss_one (ps_ret (C8.pe_c c_max_first_flour hr (by decide) rfl (pa_cons (pv 0) (pa_cons (pv 2) pa_nil))))) pss_nil)
      (pss_cons (ps_if (pt_cmpR op_eq (pv 1) pe_int (nomark _)) (pss_one (ps_ret (C8.pe_c c_max_first_flour_split hr (by decide) rfl (pa_cons (pv 0) (pa_cons (pv 2) pa_nil))))) pss_nil)
      (pss_cons (ps_if (pt_cmpR op_eq (pv 1) pe_int (nomark _)) (pss_one (ps_ret (C8.pe_c c_best_revenue_for_limit hr (by decide) rfl (pa_cons (pv 0) (pa_cons (pv 2) pa_nil))))) pss_nil)
      (pss_cons (ps_if (pt_cmpR op_eq (pv 1) pe_int (nomark _)) (pss_one (ps_ret (C8.pe_c c_value_of_stream hr (by decide) rfl (pa_cons (pv 0) (pa_cons (pv 2) pa_nil))))) pss_nil)
      (pss_one (ps_ret (C8.pe_c c_best_revenue_for_price hr (by decide) rfl (pa_cons (pv 0) (pa_cons (pv 2) pa_nil))))))))))), ?_⟩)
  obtain ⟨a, op, x, b, b', ns, out, rfl, hb, rx, hA, hS, k1⟩ := h
  refine s_seq (s_if (eb_op rfl) (fun e H1 s1 => ?_) (fun e H1 s1 => ?_))
  · have e := of_decide_eq_true e; subst e
    exact s_op rfl rfl hb rx (hA.o13 rfl) k1 s1
  have e1 := of_decide_eq_false e
  refine s_next (s_nx (s_seq (s_if (eb_op rfl) (fun e H2 s2 => ?_) (fun e H2 s2 => ?_))))
  · have e := of_decide_eq_true e; subst e
    exact s_op rfl rfl hb rx (hA.o15 rfl) k1 (s1.trans s2)
  have e2 := of_decide_eq_false e
  have s2 := s1.trans s2
  refine s_next (s_nx (s_seq (s_if (eb_op rfl) (fun e H3 s3 => ?_) (fun e H3 s3 => ?_))))
  · have e := of_decide_eq_true e; subst e
    exact s_op rfl rfl hb rx (hA.o17 rfl) k1 (s2.trans s3)
  have e3 := of_decide_eq_false e
  have s3 := s2.trans s3
  refine s_next (s_nx (s_seq (s_if (eb_op rfl) (fun e H4 s4 => ?_) (fun e H4 s4 => ?_))))
  · have e := of_decide_eq_true e; subst e
    exact s_op rfl rfl hb rx (hA.o18 rfl) k1 (s3.trans s4)
  have e4 := of_decide_eq_false e
  have s4 := s3.trans s4
  refine s_next (s_nx (s_seq (s_if (eb_op rfl) (fun e H5 s5 => ?_) (fun e H5 s5 => ?_))))
  · have e := of_decide_eq_true e; subst e
    exact s_op rfl rfl hb rx (hA.o19 rfl) k1 (s4.trans s5)
  have e5 := of_decide_eq_false e
  have s5 := s4.trans s5
  refine s_next (s_nx (s_seq (s_if (eb_op rfl) (fun e H6 s6 => ?_) (fun e H6 s6 => ?_))))
  · have e := of_decide_eq_true e; subst e
    exact s_op rfl rfl hb rx (hA.o20 rfl) k1 (s5.trans s6)
  have e6 := of_decide_eq_false e
  have s6 := s5.trans s6
  have e7 : op = 21 := by
    have hl := hA.le
    simp only [chg, sta, Bool.and_eq_true, Bool.not_eq_true', Bool.or_eq_false_iff, beq_eq_false_iff_ne] at hS
    omega
  subst e7
  exact s_next (s_nx (s_op rfl rfl hb rx (hA.o21 rfl) k1 s6))
end
end Fa
namespace Fa
open PySem PySem.Spec PyProof.Rows L2
open Kp412 (Stream Blender)
section
variable {P : Program} {w : World} {K : PySem.W.Frag} {mg : Str → Option Value} {base : Heap} {C CD : Addr}
local macro_rules | `(tactic| walk_at "fa_rd") => `(tactic| first
  | exact rd_I0 | exact rd_B0 | exact rd_eq
  | exact rd_ixT (n := 0) rfl rfl | exact rd_ixT (n := 1) rfl rfl | exact rd_ixT (n := 2) rfl rfl
  | exact rd_ixL (n := 0) rfl rfl | exact rd_ixL (n := 1) rfl rfl | exact rd_ixL (n := 2) rfl rfl
  | exact rd_catA (by simp) )
local macro_rules | `(tactic| walk_at "fa_ev") => `(tactic| first
  | exact ed_int | exact ed_bl
  | (refine ed_var rfl ?_; assumption)
  | (refine ed_op ?_ ?_ ?_; focus walk_at "fa_ev"; focus walk_at "fa_ev"; focus walk_at "fa_rd")
  | (refine ed_cb ?_ ?_; focus walk_at "fa_ea"; focus (first | exact rc_lenT | exact rc_lenL))
  | (refine ed_tup ?_ ?_; focus walk_at "fa_ea"; focus (simp; done)))
local macro_rules | `(tactic| walk_at "fa_ea") => `(tactic| first
  | exact ea_nil
  | (refine ea_cons ?_ ?_; focus walk_at "fa_ev"; focus walk_at "fa_ea"))

theorem sc_answered : FnScope ["blender", "operation", "numbers", "changed", "told"] ["blender", "operation", "numbers"] (C8.fnScope (top 74)) := C8.fnScope_by (by decide +kernel)
theorem ok_answered (T : Tx K mg) (c_change_answered : C8.Cal P w K mg base 6 "change_answered" (spSome K C chg) []) (c_state_answered : C8.Cal P w K mg base 4 "state_answered" (spSome K C sta) []) (c_search_answered : C8.Cal P w K mg base 6 "search_answered" (spAll K C (fun op => !chg op && !sta op)) []) : C8.Cal P w K mg base 7 "answered" (spAll K C (fun _ => true)) [] := by
  obtain ⟨f, fd, h1, h2, h3, h4⟩ := T.F.d_answered
  refine C8.cal0 (N := ["blender", "operation", "numbers", "changed", "told"]) (ps := ["blender", "operation", "numbers"]) ⟨h2, T.yes _ _ h1, h4⟩ (h2.binds h3 (fun _ _ _ _ _ _ us hl => match us, hl with | [_, _, _], _ => rfl)) .nil sc_answered (fun vs H Q E h => by obtain ⟨_, _, _, _, _, _, _, rfl, _⟩ := h; rfl) (fun cdv A outer s H vs Q E hr h => ⟨_, (pss_cons (ps_set (i := 3) sc_answered.nd rfl (by first | exact Or.inl rfl | exact Or.inr rfl) (C8.pe_c c_change_answered hr (by decide) rfl (pa_cons (pv 0) (pa_cons (pv 1) (pa_cons (pv 2) pa_nil)))))
      (pss_cons (ps_if (pt_cmpR op_notN (pv 3) pe_non (nomark _)) (pss_one (ps_ret (pv 3))) pss_nil)
      (pss_cons (ps_set (i := 4) sc_answered.nd rfl (by first | exact Or.inl rfl | exact Or.inr rfl) (C8.pe_c c_state_answered hr (by decide) rfl (pa_cons (pv 0) (pa_cons (pv 1) (pa_cons (pv 2) pa_nil)))))
      (pss_one (ps_ret (pe_ifExp (pt_cmpR op_notN (pv 4) pe_non (nomark _)) (pv 4) (C8.pe_c c_search_answered hr (by decide) rfl (pa_cons (pv 0) (pa_cons (pv 1) (pa_cons (pv 2) pa_nil)))))))))), ?_⟩)
  obtain ⟨a, op, x, b, b', ns, out, rfl, hb, rx, hA, _, k⟩ := h
  refine s_seq ⟨.ref a, rfl, .int op, rfl, x, rfl, a, op, x, b, b', ns, out, rfl, hb, rx, hA, fun e p H1 hp t1 hb1 h1 => ?_, fun e H1 s1 => ?_⟩
  · refine s_nx (s_seq (s_if (eb_some rfl) (fun _ H2 s2 => ?_) (fun e => nomatch e)))
    exact ⟨.ref p, rfl, k p H2 hp (t1.trans (But.of s2)) (hb1.same s2) (s2 _ _ h1)⟩
  · refine s_nx (s_seq (s_if (eb_none rfl) (fun e => nomatch e) (fun _ H2 s2 => ?_)))
    have s2 := s1.trans s2
    refine s_next (s_nx (s_seq ⟨.ref a, rfl, .int op, rfl, x, rfl, a, op, x, b, b', ns, out, rfl, hb.same s2, rx.same s2, hA, fun e2 p H3 hp t3 hb3 h3 => ?_, fun e2 H3 s3 => ?_⟩))
    · refine s_nx (s_retIf (eb_some rfl) (fun _ H4 s4 => ?_) (fun e => nomatch e))
      exact ⟨.ref p, rfl, k p H4 (s2.free hp) ((But.of s2).trans (t3.trans (But.of s4))) (hb3.same s4) (s4 _ _ h3)⟩
    · refine s_nx (s_retIf (eb_none rfl) (fun e => nomatch e) (fun _ H4 s4 => ?_))
      have s4 := s2.trans (s3.trans s4)
      exact ⟨.ref a, rfl, .int op, rfl, x, rfl, a, op, x, b, b', ns, out, rfl, hb.same s4, rx.same s4, hA, (by show (!chg op && !sta op) = true; rw [e, e2]; rfl), OpK.of k s4⟩
end
end Fa
namespace Fa
open PySem PySem.Spec PyProof.Rows L2
open Kp412 (Stream Blender)
section
variable {P : Program} {w : World} {K : PySem.W.Frag} {mg : Str → Option Value} {base : Heap} {C CD : Addr}
local macro_rules | `(tactic| walk_at "fa_rd") => `(tactic| first
  | exact rd_I0 | exact rd_B0 | exact rd_eq
  | exact rd_ixT (n := 0) rfl rfl | exact rd_ixT (n := 1) rfl rfl | exact rd_ixT (n := 2) rfl rfl
  | exact rd_ixL (n := 0) rfl rfl | exact rd_ixL (n := 1) rfl rfl | exact rd_ixL (n := 2) rfl rfl
  | exact rd_catA (by simp) )
local macro_rules | `(tactic| walk_at "fa_ev") => `(tactic| first
  | exact ed_int | exact ed_bl
  | (refine ed_var rfl ?_; assumption)
  | (refine ed_op ?_ ?_ ?_; focus walk_at "fa_ev"; focus walk_at "fa_ev"; focus walk_at "fa_rd")
  | (refine ed_cb ?_ ?_; focus walk_at "fa_ea"; focus (first | exact rc_lenT | exact rc_lenL))
  | (refine ed_tup ?_ ?_; focus walk_at "fa_ea"; focus (simp; done)))
local macro_rules | `(tactic| walk_at "fa_ea") => `(tactic| first
  | exact ea_nil
  | (refine ea_cons ?_ ?_; focus walk_at "fa_ev"; focus walk_at "fa_ea"))

theorem sc_create : FnScope ["desk", "feed_price"] ["desk", "feed_price"] (C8.fnScope (top 70)) := C8.fnScope_by (by decide +kernel)
theorem ok_create (T : Tx K mg) (c_Blender : C8.Mak P w K mg base 2 "Blender" C (spIniB K C) []) (hD : DesX K CD) : C8.Cal P w K mg base 4 "create" (spCreate K C CD) [] := by
  obtain ⟨f, fd, h1, h2, h3, h4⟩ := T.F.d_create
  refine C8.cal0 (N := ["desk", "feed_price"]) (ps := ["desk", "feed_price"]) ⟨h2, T.yes _ _ h1, h4⟩ (h2.binds h3 (fun _ _ _ _ _ _ us hl => match us, hl with | [_, _], _ => rfl)) .nil sc_create (fun vs H Q E h => by obtain ⟨_, _, _, _, rfl, _⟩ := h; rfl) (fun cdv A outer s H vs Q E hr h => ⟨_, (pss_cons (ps_if (pt_cmpR op_gt (pv 1) (C8.pe_gc rfl (T.int T.F.i_GREATEST_PRICE)) (nomark _)) (pss_one (ps_ret (pe_lst (pa_cons (C8.pe_gc rfl (T.int T.F.i_OUTSIDE)) pa_nil)))) pss_nil)
      (pss_cons (ps_fld (pv 0) (C8.pe_mk c_Blender hr (by decide) rfl (pa_cons (pv 1) pa_nil)) rfl)
      (pss_one (ps_ret (pe_lst (pa_cons pe_int pa_nil)))))), ?_⟩)
  obtain ⟨d, dx, v, q, rfl, hd, k1, k2⟩ := h
  refine s_seq (s_if (et_test (ed_op (K := K) (ed_var rfl .int) ed_int rd_B0)) (fun e H1 s1 => ?_) (fun e H1 s1 => ?_))
  · have hq : 99 < q := by have := of_decide_eq_true e; omega
    exact s_retN (K := K) (en_lst (ea_cons ed_int ea_nil) (Nat.le_of_ble_eq_true rfl)) fun p vs H2 hp s2 h2 r => k1 hq p H2 (s1.free hp) (s1.trans s2) (by rw [h2, Reps.ints_eq (ns := [-22]) r]; rfl)
  · have hq : ¬ 99 < q := by have := of_decide_eq_false e; omega
    refine s_next (s_nx (s_seq ⟨_, rfl, fun x dx2 hx hdx hne => ⟨x, dx2, q, rfl, upd_same, fun H2 hb2 t2 => ⟨rfl, ?_⟩⟩⟩))
    have hd1 := s1 _ _ hd
    have dx' : d ≠ x := ne_of_none hd1 hx
    have ddx : d ≠ dx2 := ne_of_none hd1 hdx
    have sm : ∀ c o, H1 c = some o → c ≠ d → H2 c = some o := fun c o hc _ => t2 c o (by rw [upd_ne (ne_of_none hc hx), upd_ne (ne_of_none hc hdx)]; exact hc) (ne_of_none hc hx)
    have hd2 : H2 d = some (.ins CD dx (desF v)) := t2 d _ (by rw [upd_ne dx', upd_ne ddx]; exact hd1) dx'
    refine ⟨.ref d, rfl, d, CD, dx, _, rfl, hd2, hD.cl, hD.nB, (by show 1 < 1000; decide), ?_⟩
    refine s_nx (s_retN (K := K) (en_lst (ea_cons ed_int ea_nil) (Nat.le_of_ble_eq_true rfl)) fun p vs H3 hp s3 h3 r => ?_)
    have hd3 := s3 _ _ (upd_same (H := H2) (a := d) (o := .ins CD dx (putF "blender" (.ref x) (desF v))))
    have bt : But d H H3 := fun c o hc n => s3 _ _ (by rw [upd_ne n]; exact sm c o (s1 _ _ hc) n)
    have hbx : BleAt K C H3 x ⟨[], [0, 0, 0], [0, 0, 0], q, []⟩ := by
      obtain ⟨dx3, vm, va, e1, e2, e3⟩ := hb2
      have kt : KeepT H2 (upd H2 d (.ins CD dx (putF "blender" (.ref x) (desF v)))) := keepT_upd (noRd_ins hd2)
      have kt := kt.trans (keepT_of s3)
      exact ⟨dx3, vm, va, s3 _ _ (by rw [upd_ne (Ne.symm dx')]; exact e1), stab_mill _ _ _ _ _ kt e2, stab_asg _ _ _ _ _ kt e3⟩
    refine k2 hq p H3 ?_ bt ⟨dx, .ref x, hd3.trans (congrArg (fun z => some (HO.ins CD dx z)) (des_put v (.ref x))), .ble hbx⟩ (by rw [h3, Reps.ints_eq (ns := [0]) r]; rfl)
    cases hz : H p with
    | none => rfl
    | some o =>
      by_cases c : p = d
      · subst c; rw [upd_same] at hp; cases hp
      · have := sm p o (s1 _ _ hz) c
        rw [upd_ne c, this] at hp
        cases hp
end
end Fa
namespace Fa
open PySem PySem.Spec PyProof.Rows L2
open Kp412 (Stream Blender)
section
variable {P : Program} {w : World} {K : PySem.W.Frag} {mg : Str → Option Value} {base : Heap} {C CD : Addr}
local macro_rules | `(tactic| walk_at "fa_rd") => `(tactic| first
  | exact rd_I0 | exact rd_B0 | exact rd_eq
  | exact rd_ixT (n := 0) rfl rfl | exact rd_ixT (n := 1) rfl rfl | exact rd_ixT (n := 2) rfl rfl
  | exact rd_ixL (n := 0) rfl rfl | exact rd_ixL (n := 1) rfl rfl | exact rd_ixL (n := 2) rfl rfl
  | exact rd_catA (by simp) )
local macro_rules | `(tactic| walk_at "fa_ev") => `(tactic| first
  | exact ed_int | exact ed_bl
  | (refine ed_var rfl ?_; assumption)
  | (refine ed_op ?_ ?_ ?_; focus walk_at "fa_ev"; focus walk_at "fa_ev"; focus walk_at "fa_rd")
  | (refine ed_cb ?_ ?_; focus walk_at "fa_ea"; focus (first | exact rc_lenT | exact rc_lenL))
  | (refine ed_tup ?_ ?_; focus walk_at "fa_ea"; focus (simp; done)))
local macro_rules | `(tactic| walk_at "fa_ea") => `(tactic| first
  | exact ea_nil
  | (refine ea_cons ?_ ?_; focus walk_at "fa_ev"; focus walk_at "fa_ea"))

theorem sc_Desk_init : FnScope ["self"] ["self"] (C8.fnScope (inClass (top 75) 0)) := C8.fnScope_by (by decide +kernel)
theorem ok_Desk_init (hD : DesX K CD) (T : Tx K mg) : ∃ f fd, Mk K CD f ∧ FnOk P w K mg base CX0 1 f fd ["self"] (spIniD K CD) ∧ mg "Desk" = some (.ref CD) ∧ Binds K fd ["self"] [] := by
  obtain ⟨f, fd, h1, h2, h3, h4, h5⟩ := hD.ini
  refine ⟨f, fd, ⟨hD.c.mks, h1, h2, hD.c.kc⟩, C8.fn0 (N := ["self"]) h3 sc_Desk_init (fun vs H Q E h => by obtain ⟨_, _, rfl, _⟩ := h; rfl) (fun cdv A outer s H vs Q E hr h => ⟨_, (pss_one (ps_fld (pv 0) pe_non rfl)), ?_⟩), T.yes _ _ hD.c.nm, h3.binds h4 (fun _ _ _ _ _ _ us hl => match us, hl with | [_], _ => rfl)⟩
  obtain ⟨p, dx, rfl, hp, k⟩ := h
  exact ⟨_, rfl, p, CD, dx, _, rfl, hp, hD.cl, hD.nB, (by show 0 < 1000; decide), k⟩
end
end Fa
namespace Fa
open PySem PySem.Spec PyProof.Rows L2
open Kp412 (Stream Blender)
section
variable {P : Program} {w : World} {K : PySem.W.Frag} {mg : Str → Option Value} {base : Heap} {C CD : Addr}
local macro_rules | `(tactic| walk_at "fa_rd") => `(tactic| first
  | exact rd_I0 | exact rd_B0 | exact rd_eq
  | exact rd_ixT (n := 0) rfl rfl | exact rd_ixT (n := 1) rfl rfl | exact rd_ixT (n := 2) rfl rfl
  | exact rd_ixL (n := 0) rfl rfl | exact rd_ixL (n := 1) rfl rfl | exact rd_ixL (n := 2) rfl rfl
  | exact rd_catA (by simp) )
local macro_rules | `(tactic| walk_at "fa_ev") => `(tactic| first
  | exact ed_int | exact ed_bl
  | (refine ed_var rfl ?_; assumption)
  | (refine ed_op ?_ ?_ ?_; focus walk_at "fa_ev"; focus walk_at "fa_ev"; focus walk_at "fa_rd")
  | (refine ed_cb ?_ ?_; focus walk_at "fa_ea"; focus (first | exact rc_lenT | exact rc_lenL))
  | (refine ed_tup ?_ ?_; focus walk_at "fa_ea"; focus (simp; done)))
local macro_rules | `(tactic| walk_at "fa_ea") => `(tactic| first
  | exact ea_nil
  | (refine ea_cons ?_ ?_; focus walk_at "fa_ev"; focus walk_at "fa_ea"))

theorem sc_Desk_answer : FnScope ["self", "operation", "numbers"] ["self", "operation", "numbers"] (C8.fnScope (inClass (top 75) 1)) := C8.fnScope_by (by decide +kernel)
theorem ok_Desk_answer (hB : BleX K C) (hD : DesX K CD) (T : Tx K mg) (c_create : C8.Cal P w K mg base 4 "create" (spCreate K C CD) []) (c_answered : C8.Cal P w K mg base 7 "answered" (spAll K C (fun _ => true)) []) : C8.Met P w K mg base 8 CD "answer" (spAnswer K C CD) [] := by
  obtain ⟨f, fd, h1, h2, h3, h4, h5⟩ := hD.ans
  refine C8.met0 (N := ["self", "operation", "numbers"]) (ps := ["self", "operation", "numbers"]) hD.cl ⟨h1, h2, h5⟩ h3 (h3.binds h4 (fun _ _ _ _ _ _ us hl => match us, hl with | [_, _, _], _ => rfl)) sc_Desk_answer (fun vs H Q E h => by obtain ⟨_, _, _, _, _, _, _, rfl, _⟩ := h; rfl) (fun cdv A outer s H vs Q E hr h => ⟨_, (pss_cons (ps_if (pt_cmpR op_eq (pv 1) (C8.pe_gc rfl (T.int T.F.i_CREATE)) (nomark _)) (pss_one (ps_ret (C8.pe_c c_create hr (by decide) rfl (pa_cons (pv 0) (pa_cons (pe_ix ix_list (pv 2) pe_int (fun _ _ => rfl)) pa_nil))))) pss_nil)
      (pss_cons (ps_if (pt_cmpR op_isN (pe_fld (pv 0) rfl) pe_non (nomark _)) (pss_one (ps_ret (pe_lst (pa_cons (C8.pe_gc rfl (T.int T.F.i_NO_BLENDER)) pa_nil)))) pss_nil)
      (pss_one (ps_ret (C8.pe_c c_answered hr (by decide) rfl (pa_cons (pe_fld (pv 0) rfl) (pa_cons (pv 1) (pa_cons (pv 2) pa_nil)))))))), ?_⟩)
  obtain ⟨d, op, x, st, st', ns, out, rfl, ⟨dx, v, hd, hv⟩, rx, hR, k⟩ := h
  refine s_seq (s_if (eb_op rfl) (fun e H1 s1 => ?_) (fun e H1 s1 => ?_))
  · have e := of_decide_eq_true e
    subst e
    have hd1 := s1 _ _ hd
    have go : ∀ q : Nat, ns = [(q : Int)] → (99 < q → st' = st ∧ out = [-22]) → (¬ 99 < q → st' = some ⟨[], [0, 0, 0], [0, 0, 0], q, []⟩ ∧ out = [0]) → tRet (tCall (spCreate K C CD) [] C8.E0 (tCons (tVar 0) (tCons (tOp (rIxL K) (tVar 2) (tC (.int 0))) tNil))) { nx := fun _ H' => Q .non H', rt := Q } (L2.start ["self", "operation", "numbers"] [.ref d, .int 0, x]) H1 := fun q en k1 k2 => by
      subst en
      refine ⟨.ref d, rfl, (ed_op (ed_var rfl (rx.same s1)) ed_int (rd_ixL (n := 0) rfl rfl)) H1 (.refl _) _ fun y H2 s2 ry => ?_⟩
      cases ry
      refine ⟨d, dx, v, q, rfl, s2 _ _ hd1, fun hq p H3 hp s3 h3 => ?_, fun hq p H3 hp t3 hd3 h3 => ?_⟩
      · obtain ⟨rfl, rfl⟩ := k1 hq
        have sm := s1.trans (s2.trans s3)
        exact k p H3 (s1.free (s2.free hp)) (hold_of sm) ⟨dx, v, sm _ _ hd, hv.same sm⟩ h3
      · obtain ⟨rfl, rfl⟩ := k2 hq
        exact k p H3 (s1.free (s2.free hp)) ((hold_of (s1.trans s2)).trans (hold_but (s2 _ _ hd1) t3)) hd3 h3
    cases hR with
    | bad q hq => exact go q rfl (fun _ => ⟨rfl, rfl⟩) fun h => absurd hq h
    | new q hq => exact go q rfl (fun h => absurd h hq) fun _ => ⟨rfl, rfl⟩
    | no h => exact absurd rfl h
    | op h => have := h.le; omega
  · have hop := of_decide_eq_false e
    have hd1 := s1 _ _ hd
    cases hv with
    | non =>
      refine s_next (s_nx (s_seq ⟨.ref d, rfl, d, CD, dx, _, _, rfl, hd1, hD.cl, hD.nB, des_look _, rfl, _, rfl, ?_⟩))
      rw [decide_eq_true (rfl : V.non = V.non)]
      refine iteT ?_
      cases hR with
      | bad q hq => exact absurd rfl hop
      | new q hq => exact absurd rfl hop
      | no h =>
        refine s_retN (K := K) (en_lst (ea_cons ed_int ea_nil) (Nat.le_of_ble_eq_true rfl)) fun p vs H2 hp s2 h2 r => ?_
        have sm := s1.trans s2
        exact k p H2 (s1.free hp) (hold_of sm) ⟨dx, .non, sm _ _ hd, .non⟩ (by rw [h2, Reps.ints_eq (ns := [-11]) r])
    | ble hb =>
      rename_i a b
      refine s_next (s_nx (s_seq ⟨.ref d, rfl, d, CD, dx, _, _, rfl, hd1, hD.cl, hD.nB, des_look _, rfl, _, rfl, ?_⟩))
      rw [decide_eq_false (show ¬ V.ref a = V.non from fun z => nomatch z)]
      refine iteF (s_next (s_nx ?_))
      cases hR with
      | bad q hq => exact absurd rfl hop
      | new q hq => exact absurd rfl hop
      | op hA =>
        rename_i b'
        refine ⟨.ref d, rfl, d, CD, dx, _, _, rfl, hd1, hD.cl, hD.nB, des_look _, .int op, rfl, x, rfl, a, op, x, b, b', ns, out, rfl, hb.same s1, rx.same s1, hA, rfl, fun p H2 hp t2 hb2 h2 => ?_⟩
        have hda : d ≠ a := by
          rintro rfl
          obtain ⟨dx2, vm, va, e1, _⟩ := hb
          rw [hd] at e1
          have e2 := congrArg (fun o => match o with | some (HO.ins _ _ fs) => fs.length | _ => 0) e1
          exact absurd (show 1 = 2 from e2) (by decide)
        have hd2 := t2 d _ hd1 hda
        obtain ⟨dx2, vm, va, e1, _⟩ := hb.same s1
        exact k p H2 (s1.free hp) ((hold_of s1).trans (hold_but e1 t2)) ⟨dx, .ref a, hd2, .ble hb2⟩ h2
end
end Fa
namespace Fa
open PySem PySem.Spec PyProof.Rows L2
open Kp412 (Stream Blender)
section
variable {P : Program} {w : World} {K : PySem.W.Frag} {mg : Str → Option Value} {base : Heap} {C CD : Addr}
local macro_rules | `(tactic| walk_at "fa_rd") => `(tactic| first
  | exact rd_I0 | exact rd_B0 | exact rd_eq
  | exact rd_ixT (n := 0) rfl rfl | exact rd_ixT (n := 1) rfl rfl | exact rd_ixT (n := 2) rfl rfl
  | exact rd_ixL (n := 0) rfl rfl | exact rd_ixL (n := 1) rfl rfl | exact rd_ixL (n := 2) rfl rfl
  | exact rd_catA (by simp) )
local macro_rules | `(tactic| walk_at "fa_ev") => `(tactic| first
  | exact ed_int | exact ed_bl
  | (refine ed_var rfl ?_; assumption)
  | (refine ed_op ?_ ?_ ?_; focus walk_at "fa_ev"; focus walk_at "fa_ev"; focus walk_at "fa_rd")
  | (refine ed_cb ?_ ?_; focus walk_at "fa_ea"; focus (first | exact rc_lenT | exact rc_lenL))
  | (refine ed_tup ?_ ?_; focus walk_at "fa_ea"; focus (simp; done)))
local macro_rules | `(tactic| walk_at "fa_ea") => `(tactic| first
  | exact ea_nil
  | (refine ea_cons ?_ ?_; focus walk_at "fa_ev"; focus walk_at "fa_ea"))

theorem sc_call_at : FnScope ["calls", "at", "operation", "begin", "end"] ["calls", "at"] (C8.fnScope (top 79)) := C8.fnScope_by (by decide +kernel)
theorem ok_call_at (T : Tx K mg) : C8.Cal P w K mg base 1 "call_at" (spD K R_call_at) [] := by
  obtain ⟨f, fd, h1, h2, h3, h4⟩ := T.F.d_call_at
  obtain ⟨aw, hw, tw⟩ := T.F.wli
  have h_WITH_LIST : ∃ u, mg "WITH_LIST" = some u ∧ RelV (.ref aw) u := ⟨_, T.yes _ _ hw, rfl⟩
  obtain ⟨D0, es, n0, hc1, hc2, hc3, hc4⟩ := T.F.cnt
  have h_COUNTS : ∃ u, mg "COUNTS" = some u ∧ RelV (.ref D0) u := ⟨_, T.yes _ _ hc1, rfl⟩
  have h_cnt : CntAt K D0 := ⟨⟨es, n0, hc2, hc4⟩⟩
  refine C8.cal0 (N := ["calls", "at", "operation", "begin", "end"]) (ps := ["calls", "at"]) ⟨h2, T.yes _ _ h1, h4⟩ (h2.binds h3 (fun _ _ _ _ _ _ us hl => match us, hl with | [_, _], _ => rfl)) .nil sc_call_at (fun vs H Q E h => spD_len (fun ds d r => by cases r; rfl) h) (fun cdv A outer s H vs Q E hr h => ⟨_, (pss_cons (ps_set (i := 2) sc_call_at.nd rfl (by first | exact Or.inl rfl | exact Or.inr rfl) (pe_ix ix_list (pv 0) (pv 1) (fun _ _ => rfl)))
      (pss_cons (ps_if (pt_cmpR op_in_seq (pv 2) (C8.pe_gc rfl h_WITH_LIST) (by rfl)) (pss_cons (ps_set (i := 3) sc_call_at.nd rfl (by first | exact Or.inl rfl | exact Or.inr rfl) (pe_op op_add (pv 1) pe_int))
      (pss_one (ps_set (i := 4) sc_call_at.nd rfl (by first | exact Or.inl rfl | exact Or.inr rfl) (pe_op op_add (pv 3) (pe_ix ix_list (pv 0) (pe_op op_add (pv 1) pe_int) (fun _ _ => rfl)))))) (pss_cons (ps_set (i := 3) sc_call_at.nd rfl (by first | exact Or.inl rfl | exact Or.inr rfl) (pe_op op_add (pv 1) pe_int))
      (pss_one (ps_set (i := 4) sc_call_at.nd rfl (by first | exact Or.inl rfl | exact Or.inr rfl) (pe_op op_add (pv 3) (pe_ix (ix_counts h_cnt) (C8.pe_gc rfl h_COUNTS) (pv 2) (fun _ _ => rfl)))))))
      (pss_one (ps_ret (pe_tup (pa_cons (pv 2) (pa_cons (pe_slice sl_list (pv 0) (po_some (pv 3)) (po_some (pv 4))) (pa_cons (pv 4) pa_nil)))))))), ?_⟩)
  obtain ⟨ds, d, rs, rR, k⟩ := h
  cases rR with | mk l at' op ns e hC =>
  obtain ⟨v, w', rfl, r1, r2⟩ := reps2 rs
  cases r2
  obtain ⟨hop, hle, hcase⟩ := hC
  refine s_seq (s_asg (K := K) (ed_op (ed_var rfl r1) (ed_var rfl .int) (rd_ixL (d := .int op) rfl ?_)) fun y H1 s1 ry => ?_)
  · rw [List.getElem?_map, hop]; rfl
  cases ry
  have hin : ∀ bb : Bool, ([7, 16] : List Int).any (fun z => z == op) = bb → EvB (tTest (tOp (rIn K false) (tVar 2) (tC (.ref aw)))) ((L2.start ["calls", "at", "operation", "begin", "end"] [v, .int (at' : Int)]).set 2 (some (.int op))) H1 bb := fun bb hbb H2 _ Q q => by
    refine ⟨_, rfl, aw, _, rfl, .inr (.inr tw), rfl, rfl, bb, congrArg V.bl ?_, q H2 (.refl _)⟩
    rw [← hbb]; rfl
  have fin : ∀ (bg : Nat) H2, Same H1 H2 → bg ≤ e → ns = (l.drop bg).take (e - bg) → tRet (tTup (tCons (tVar 2) (tCons (tSl (rSlL K) (tVar 0) (tPart (tVar 3)) (tPart (tVar 4))) (tCons (tVar 4) tNil)))) { nx := fun _ H' => Q .non H', rt := Q } [some v, some (.int (at' : Int)), some (.int op), some (.int (bg : Int)), some (.int (e : Int))] H2 := fun bg H2 s2 hbe hns => by
    refine s_ret (K := K) (ed_tup (ea_cons (ed_var rfl .int) (ea_cons (ed_sl (d := .lst (ns.map D.int)) (ed_var rfl (r1.same (s1.trans s2))) (eo_some (K := K) (ed_var rfl .int)) (eo_some (K := K) (ed_var rfl .int)) (rs_lst ?_)) (ea_cons (ed_var rfl .int) ea_nil))) (Nat.le_of_ble_eq_true rfl)) fun x H3 s3 r => k x H3 (s1.trans (s2.trans s3)) r
    rw [HT.sIx_nat, HT.sIx_nat, List.length_map, Nat.min_eq_left hle, Nat.min_eq_left (Nat.le_trans hbe hle), hns, List.map_take, List.map_drop]
  rcases hcase with ⟨h7, n, hn, he, hns⟩ | ⟨h7, h16, n, hn, he, hns⟩
  · refine s_nx (s_seq (s_if (hin true (by rcases h7 with rfl | rfl <;> rfl)) (fun _ H2 s2 => ?_) (fun z => nomatch z)))
    refine s_seq (s_asg (K := K) (d := .int ((at' + 2 : Nat) : Int)) ((ed_op (ed_var rfl .int) ed_int rd_I0).is (by rw [Int.natCast_add]; rfl)) fun y H3 s3 ry => ?_)
    cases ry
    refine s_nx (s_asg (K := K) (d := .int (e : Int)) ((ed_op (ed_var rfl .int) (ed_op (ed_var rfl (r1.same (s1.trans (s2.trans s3)))) ((ed_op (ed_var rfl .int) ed_int rd_I0).is (d1 := .int ((at' + 1 : Nat) : Int)) (by rw [Int.natCast_add]; rfl)) (rd_ixL (d := .int (n : Int)) rfl ?_)) rd_I0).is ?_) fun y H4 s4 ry => ?_)
    · rw [List.getElem?_map, hn]; rfl
    · rw [he]; congr 1
    · cases ry
      exact s_nx (fin (at' + 2) H4 (s2.trans (s3.trans s4)) (by omega) (by rw [hns, he]; congr 1; omega))
  · refine s_nx (s_seq (s_if (hin false (by simp [Ne.symm h7, Ne.symm h16])) (fun z => nomatch z) (fun _ H2 s2 => ?_)))
    refine s_seq (s_asg (K := K) (d := .int ((at' + 1 : Nat) : Int)) ((ed_op (ed_var rfl .int) ed_int rd_I0).is (by rw [Int.natCast_add]; rfl)) fun y H3 s3 ry => ?_)
    cases ry
    refine s_nx (s_asg (K := K) (d := .int (e : Int)) ((ed_op (d2 := .int (n : Int)) (ed_var rfl .int) ?_ rd_I0).is ?_) fun y H4 s4 ry => ?_)
    · exact fun H4 _ Q q => ⟨_, rfl, op, n, rfl, rfl, hn, q _ H4 (.refl _) .int⟩
    · rw [he]; congr 1
    · cases ry
      exact s_nx (fin (at' + 1) H4 (s2.trans (s3.trans s4)) (by omega) (by rw [hns, he]; congr 1; omega))
end
end Fa
/-! Plain laws: each call keeps the blender well, what is read off the list of calls. -/
namespace Fa
open Kp412 (Stream Blender)
theorem wf_new {f : Nat} (h : ¬ 99 < f) : WF ⟨[], [0, 0, 0], [0, 0, 0], f, []⟩ where
  sm := ⟨Nat.zero_le _, fun s hs => by simp at hs, rfl, rfl, (show ∀ x ∈ [0, 0, 0], x < 4294967296 by decide), (show ∀ x ∈ [0, 0, 0], x < 4294967296 by decide), by show f < 4294967296; omega⟩
  st := fun s hs => by simp at hs
  li := (show ∀ x ∈ [0, 0, 0], x < 1000 by decide)
  as := ⟨rfl, fun x hx => by simp at hx⟩
  fea := rfl
/-- numbers of a call as they may be handed in -/
def CallOk : Kp412.Call → Prop
  | .addStream m s => m < big ∧ s < big
  | .setStream _ m s => m < big ∧ s < big
  | _ => True
theorem valid_of {m s : Nat} (h : ¬ Kp412.validStream m s = false) : 1 ≤ m ∧ m ≤ 99 ∧ s ≤ 300 := by
  have h' : Kp412.validStream m s = true := by simpa using h
  unfold Kp412.validStream at h'
  rw [Bool.and_eq_true, Bool.and_eq_true] at h'
  exact ⟨of_decide_eq_true h'.1.1, of_decide_eq_true h'.1.2, of_decide_eq_true h'.2⟩
theorem accept_wf {b n : Blender} {r : Kp412.Ans} (w : WF b) (h : Kp412.feasible n n.assignment = true → WF n) : ∃ b', (Kp412.accept b n r).1 = some b' ∧ WF b' := by
  unfold Kp412.accept
  by_cases c : Kp412.feasible n n.assignment = true
  · rw [if_pos c]; exact ⟨n, rfl, h c⟩
  · rw [if_neg c]; exact ⟨b, rfl, w⟩
theorem step_wf {b : Blender} (w : WF b) : ∀ c : Kp412.Call, CallOk c → ∃ b', (Kp412.step (some b) c).1 = some b' ∧ WF b'
  | .create f, _ => by
    show ∃ b', (if 99 < f then ((some b : Kp412.State), Kp412.single (-22)) else (some ⟨[], [0, 0, 0], [0, 0, 0], f, []⟩, Kp412.single 0)).1 = some b' ∧ WF b'
    by_cases c : 99 < f
    · rw [if_pos c]; exact ⟨b, rfl, w⟩
    · rw [if_neg c]; exact ⟨_, rfl, wf_new c⟩
  | .addStream m s, _ => by
    show ∃ b', (if Kp412.validStream m s = false then ((some b : Kp412.State), Kp412.single (-22)) else if Kp412.maxStreams ≤ b.streams.length then (some b, Kp412.single (-28)) else (some { b with streams := b.streams ++ [⟨m, s⟩], assignment := b.assignment ++ [Kp412.feedDestination] }, Kp412.single (b.streams.length : Nat))).1 = some b' ∧ WF b'
    by_cases c : Kp412.validStream m s = false
    · rw [if_pos c]; exact ⟨b, rfl, w⟩
    · rw [if_neg c]
      by_cases c2 : Kp412.maxStreams ≤ b.streams.length
      · rw [if_pos c2]; exact ⟨b, rfl, w⟩
      · rw [if_neg c2]
        have hv := valid_of c
        have h6 : ¬ 6 ≤ b.streams.length := c2
        have hm : ∀ x ∈ b.streams ++ [⟨m, s⟩], 1 ≤ x.amount ∧ x.amount < 100 ∧ x.ash < 1000 := fun x hx => by
          rcases List.mem_append.mp hx with hx | hx
          · exact w.st x hx
          · rw [List.mem_singleton.mp hx]; show 1 ≤ m ∧ m < 100 ∧ s < 1000; omega
        have hS : Sm { b with streams := b.streams ++ [⟨m, s⟩] } := sm_streams w.sm (by rw [List.length_append, List.length_singleton]; omega) fun x hx => by
          have := hm x hx
          show x.amount < 4294967296
          omega
        have hA := as_add w.as ⟨m, s⟩
        exact ⟨_, rfl, ⟨⟨hS.ns, hS.am, hS.nl, hS.np, hS.li, hS.pr, hS.fe⟩, hm, w.li, ⟨hA.len, hA.le⟩, (feas_add w.as ⟨m, s⟩).trans w.fea⟩⟩
  | .removeStream i, _ => by
    show ∃ b', (if Kp412.isStream b i = true then Kp412.accept b (Kp412.withoutStream b i) (Kp412.single (b.streams.length - 1 : Nat)) else (some b, Kp412.single (-2))).1 = some b' ∧ WF b'
    by_cases c : Kp412.isStream b i = true
    · rw [if_pos c]
      have hi : i < b.streams.length := of_decide_eq_true c
      have hS := sm_erase w.sm i
      have hA := as_erase w.as hi
      exact accept_wf w fun hf => ⟨⟨hS.ns, hS.am, hS.nl, hS.np, hS.li, hS.pr, hS.fe⟩, fun s hs => w.st s (List.mem_of_mem_eraseIdx hs), w.li, ⟨hA.len, hA.le⟩, hf⟩
    · rw [if_neg c]; exact ⟨b, rfl, w⟩
  | .setStream i m s, _ => by
    show ∃ b', (if Kp412.isStream b i = false then ((some b : Kp412.State), Kp412.single (-2)) else if Kp412.validStream m s = false then (some b, Kp412.single (-22)) else Kp412.accept b { b with streams := b.streams.set i ⟨m, s⟩ } (Kp412.natResult 0 [(Kp412.streamAt b i).amount, (Kp412.streamAt b i).ash])).1 = some b' ∧ WF b'
    by_cases c : Kp412.isStream b i = false
    · rw [if_pos c]; exact ⟨b, rfl, w⟩
    · rw [if_neg c]
      by_cases c2 : Kp412.validStream m s = false
      · rw [if_pos c2]; exact ⟨b, rfl, w⟩
      · rw [if_neg c2]
        have hv := valid_of c2
        have hm : ∀ x ∈ b.streams.set i ⟨m, s⟩, 1 ≤ x.amount ∧ x.amount < 100 ∧ x.ash < 1000 := fun x hx => by
          rcases mem_set hx with hx | rfl
          · exact w.st x hx
          · show 1 ≤ m ∧ m < 100 ∧ s < 1000; omega
        have hS : Sm { b with streams := b.streams.set i ⟨m, s⟩ } := sm_streams w.sm (by rw [List.length_set]; exact w.sm.ns) fun x hx => by
          have := hm x hx
          show x.amount < 4294967296
          omega
        exact accept_wf w fun hf => ⟨⟨hS.ns, hS.am, hS.nl, hS.np, hS.li, hS.pr, hS.fe⟩, hm, w.li, ⟨by show b.assignment.length = (b.streams.set i ⟨m, s⟩).length; rw [List.length_set]; exact w.as.len, w.as.le⟩, hf⟩
  | .setFlour k l p, _ => by
    show ∃ b', (if Kp412.isFlour k = false then ((some b : Kp412.State), Kp412.single (-2)) else if 300 < l ∨ 99 < p then (some b, Kp412.single (-22)) else Kp412.accept b { b with limits := b.limits.set k l, prices := b.prices.set k p } (Kp412.natResult 0 [b.limits.getD k 0, b.prices.getD k 0])).1 = some b' ∧ WF b'
    by_cases c : Kp412.isFlour k = false
    · rw [if_pos c]; exact ⟨b, rfl, w⟩
    · rw [if_neg c]
      by_cases c2 : 300 < l ∨ 99 < p
      · rw [if_pos c2]; exact ⟨b, rfl, w⟩
      · rw [if_neg c2]
        have hS := sm_flour (k := k) w.sm (l := l) (p := p) (by show l < 4294967296; omega) (by show p < 4294967296; omega)
        exact accept_wf w fun hf => ⟨hS, w.st, fun x hx => by
          rcases mem_set hx with hx | rfl
          · exact w.li x hx
          · omega, ⟨w.as.len, w.as.le⟩, hf⟩
  | .setFeedPrice p, _ => by
    show ∃ b', (if 99 < p then ((some b : Kp412.State), Kp412.single (-22)) else (some { b with feedPrice := p }, Kp412.single (b.feedPrice : Nat))).1 = some b' ∧ WF b'
    by_cases c : 99 < p
    · rw [if_pos c]; exact ⟨b, rfl, w⟩
    · rw [if_neg c]
      exact ⟨_, rfl, ⟨sm_feed w.sm (by show p < 4294967296; omega), w.st, w.li, ⟨w.as.len, w.as.le⟩, w.fea⟩⟩
  | .getStream _, _ => ⟨b, rfl, w⟩
  | .setAssignment l, _ => by
    show ∃ b', (if Kp412.validAssignment b l = true then Kp412.accept b { b with assignment := l } (Kp412.single (Kp412.revenue b l : Nat)) else (some b, Kp412.single (-22))).1 = some b' ∧ WF b'
    by_cases c : Kp412.validAssignment b l = true
    · rw [if_pos c]
      have hA := as_valid c
      have hS := w.sm
      exact accept_wf w fun hf => ⟨⟨hS.ns, hS.am, hS.nl, hS.np, hS.li, hS.pr, hS.fe⟩, w.st, w.li, ⟨hA.len, hA.le⟩, hf⟩
    · rw [if_neg c]; exact ⟨b, rfl, w⟩
  | .getAssignment, _ => ⟨b, rfl, w⟩
  | .moveStream i k, _ => by
    show ∃ b', (if Kp412.isStream b i = false then ((some b : Kp412.State), Kp412.single (-2)) else if Kp412.feedDestination < k then (some b, Kp412.single (-22)) else Kp412.accept b { b with assignment := b.assignment.set i k } (Kp412.single (b.assignment.getD i Kp412.feedDestination : Nat))).1 = some b' ∧ WF b'
    by_cases c : Kp412.isStream b i = false
    · rw [if_pos c]; exact ⟨b, rfl, w⟩
    · rw [if_neg c]
      by_cases c2 : Kp412.feedDestination < k
      · rw [if_pos c2]; exact ⟨b, rfl, w⟩
      · rw [if_neg c2]
        have hk : ¬ 3 < k := c2
        have hA := as_set (i := i) (k := k) w.as (by omega)
        have hS := w.sm
        exact accept_wf w fun hf => ⟨⟨hS.ns, hS.am, hS.nl, hS.np, hS.li, hS.pr, hS.fe⟩, w.st, w.li, ⟨hA.len, hA.le⟩, hf⟩
  | .flourQuality _, _ => ⟨b, rfl, w⟩
  | .ashMargin _, _ => ⟨b, rfl, w⟩
  | .revenue, _ => ⟨b, rfl, w⟩
  | .bestAssignment, _ => ⟨b, rfl, w⟩
  | .applyBestAssignment, _ => by
    obtain ⟨l, hl⟩ := best_some w
    show ∃ b', (match Kp412.bestAssignment b with
      | none => ((some b : Kp412.State), Kp412.single (-33))
      | some a => (some { b with assignment := a }, Kp412.single (Kp412.revenue b a : Nat))).1 = some b' ∧ WF b'
    rw [hl]
    have hm := best_mem hl
    have hA := as_fea hm
    have hS := w.sm
    exact ⟨_, rfl, ⟨⟨hS.ns, hS.am, hS.nl, hS.np, hS.li, hS.pr, hS.fe⟩, w.st, w.li, ⟨hA.len, hA.le⟩, (List.mem_filter.mp hm).2⟩⟩
  | .feasibleCount, _ => ⟨b, rfl, w⟩
  | .evaluateAssignment _, _ => ⟨b, rfl, w⟩
  | .maxFirstFlour, _ => ⟨b, rfl, w⟩
  | .maxFirstFlourSplit, _ => ⟨b, rfl, w⟩
  | .bestRevenueForLimit _ _, _ => ⟨b, rfl, w⟩
  | .valueOfStream _, _ => ⟨b, rfl, w⟩
  | .bestRevenueForPrice _ _, _ => ⟨b, rfl, w⟩
theorem stepIs_some {b : Blender} (w : WF b) {c : Kp412.Call} (h : CallOk c) : ∃ b' out, StepIs b c b' out ∧ WF b' ∧ Kp412.step (some b) c = (some b', (Kp412.step (some b) c).2) ∧ out = (Kp412.step (some b) c).2.num :: (Kp412.step (some b) c).2.nums := by
  obtain ⟨b', h1, h2⟩ := step_wf w c h
  exact ⟨b', _, ⟨h1, rfl⟩, h2, by rw [← h1], rfl⟩
theorem nat_of {z : Int} (h : Kp412Neutral.natural z = true) : ∃ n : Nat, z = (n : Int) ∧ n < big := by
  unfold Kp412Neutral.natural at h
  rw [Bool.and_eq_true] at h
  have h1 := of_decide_eq_true h.1
  have h2 := of_decide_eq_true h.2
  exact ⟨z.toNat, by omega, by show z.toNat < 4294967296; omega⟩
theorem nats_of : ∀ {l : List Int}, l.all Kp412Neutral.natural = true → ∃ m : List Nat, l = m.map fun (n : Nat) => (n : Int)
  | [], _ => ⟨[], rfl⟩
  | z :: l, h => by
    rw [List.all_cons, Bool.and_eq_true] at h
    obtain ⟨n, rfl, _⟩ := nat_of h.1
    obtain ⟨m, rfl⟩ := nats_of h.2
    exact ⟨n :: m, rfl⟩
/-- one call on the desk -/
structure DeskIs (op : Int) (s : Option Blender) (ns : List Int) : Prop where
  ex : ∃ s' out, Kp412Neutral.step s [op :: ns] = (s', out) ∧ DeskR op s ns s' out ∧ ∀ b, s' = some b → WF b
theorem desk_none {op : Int} {ns : List Int} {c : Kp412.Call} (h : Kp412Neutral.callOf [op :: ns] = some c) (h0 : op ≠ 0) (e : Kp412.step none c = (none, Kp412.single (-11))) : DeskIs op none ns :=
  ⟨⟨none, [-11], by unfold Kp412Neutral.step; rw [h]; show ((Kp412.step none c).1, (Kp412.step none c).2.num :: (Kp412.step none c).2.nums) = _; rw [e]; rfl, .no h0, fun b hb => nomatch hb⟩⟩
theorem desk_some {op : Int} {ns : List Int} {c : Kp412.Call} {b : Blender} (w : WF b) (h : Kp412Neutral.callOf [op :: ns] = some c) (hc : CallOk c) (hR : ∀ b' out, StepIs b c b' out → AnyR op b ns b' out) : DeskIs op (some b) ns := by
  obtain ⟨b', out, h1, h2, h3, h4⟩ := stepIs_some w hc
  refine ⟨⟨some b', out, ?_, .op (hR b' out h1), fun b2 hb => by cases hb; exact h2⟩⟩
  unfold Kp412Neutral.step
  rw [h]
  show ((Kp412.step (some b) c).1, (Kp412.step (some b) c).2.num :: (Kp412.step (some b) c).2.nums) = _
  rw [h4, h1.1]
theorem desk_create {s : Option Blender} (hs : ∀ b, s = some b → WF b) (f : Nat) : DeskIs 0 s [(f : Int)] := by
  by_cases c : 99 < f
  · refine ⟨⟨s, [-22], ?_, .bad f c, hs⟩⟩
    show ((Kp412.step s (.create (f : Int).toNat)).1, (Kp412.step s (.create (f : Int).toNat)).2.num :: (Kp412.step s (.create (f : Int).toNat)).2.nums) = _
    have e : Kp412.step s (.create (f : Int).toNat) = (s, Kp412.single (-22)) := by
      rw [Int.toNat_natCast]
      cases s <;> exact if_pos c
    rw [e]; rfl
  · refine ⟨⟨some ⟨[], [0, 0, 0], [0, 0, 0], f, []⟩, [0], ?_, .new f c, fun b hb => by cases hb; exact wf_new c⟩⟩
    show ((Kp412.step s (.create (f : Int).toNat)).1, (Kp412.step s (.create (f : Int).toNat)).2.num :: (Kp412.step s (.create (f : Int).toNat)).2.nums) = _
    have e : Kp412.step s (.create (f : Int).toNat) = (some ⟨[], [0, 0, 0], [0, 0, 0], f, []⟩, Kp412.single 0) := by
      rw [Int.toNat_natCast]
      cases s <;> exact if_neg c
    rw [e]; rfl
local macro_rules | `(tactic| walk_at "fa_any") => `(tactic| (refine AnyR.mk ?_ ?_ ?_ ?_ ?_ ?_ ?_ ?_ ?_ ?_ ?_ ?_ ?_ ?_ ?_ ?_ ?_ ?_ ?_ ?_ ?_ (by decide) <;> intro e <;> first | exact absurd e (by decide) | skip))
theorem desk_step {s : Option Blender} (hs : ∀ b, s = some b → WF b) {op : Int} {ns : List Int} (ha : Kp412Neutral.asked1 [op :: ns] = true) : DeskIs op s ns := by
  unfold Kp412Neutral.asked1 at ha
  split at ha
  · rename_i z heq
    cases heq
    obtain ⟨f, rfl, _⟩ := nat_of ha
    exact desk_create hs f
  · rename_i z0 z1 heq
    cases heq
    rw [Bool.and_eq_true] at ha
    obtain ⟨n0, rfl, b0⟩ := nat_of ha.1
    obtain ⟨n1, rfl, b1⟩ := nat_of ha.2
    have hc : Kp412Neutral.callOf [[1, (n0 : Int), (n1 : Int)]] = some (Kp412.Call.addStream n0 n1) := rfl
    cases s with
    | none => exact desk_none hc (by decide) rfl
    | some b =>
      have w := hs b rfl
      refine desk_some w hc ⟨b0, b1⟩ fun b' out h => ?_
      walk_at "fa_any"
      exact .mk n0 n1 w b0 b1 h
  · rename_i z0 heq
    cases heq
    obtain ⟨n0, rfl, b0⟩ := nat_of ha
    have hc : Kp412Neutral.callOf [[2, (n0 : Int)]] = some (Kp412.Call.removeStream n0) := rfl
    cases s with
    | none => exact desk_none hc (by decide) rfl
    | some b =>
      have w := hs b rfl
      refine desk_some w hc trivial fun b' out h => ?_
      walk_at "fa_any"
      exact .mk n0 w h
  · rename_i z0 z1 z2 heq
    cases heq
    rw [Bool.and_eq_true, Bool.and_eq_true] at ha
    obtain ⟨n0, rfl, b0⟩ := nat_of ha.1
    obtain ⟨n1, rfl, b1⟩ := nat_of ha.2.1
    obtain ⟨n2, rfl, b2⟩ := nat_of ha.2.2
    have hc : Kp412Neutral.callOf [[3, (n0 : Int), (n1 : Int), (n2 : Int)]] = some (Kp412.Call.setStream n0 n1 n2) := rfl
    cases s with
    | none => exact desk_none hc (by decide) rfl
    | some b =>
      have w := hs b rfl
      refine desk_some w hc ⟨b1, b2⟩ fun b' out h => ?_
      walk_at "fa_any"
      exact .mk n0 n1 n2 w b1 b2 h
  · rename_i z0 z1 z2 heq
    cases heq
    rw [Bool.and_eq_true, Bool.and_eq_true] at ha
    obtain ⟨n0, rfl, b0⟩ := nat_of ha.1
    obtain ⟨n1, rfl, b1⟩ := nat_of ha.2.1
    obtain ⟨n2, rfl, b2⟩ := nat_of ha.2.2
    have hc : Kp412Neutral.callOf [[4, (n0 : Int), (n1 : Int), (n2 : Int)]] = some (Kp412.Call.setFlour n0 n1 n2) := rfl
    cases s with
    | none => exact desk_none hc (by decide) rfl
    | some b =>
      have w := hs b rfl
      refine desk_some w hc trivial fun b' out h => ?_
      walk_at "fa_any"
      exact .mk n0 n1 n2 w h
  · rename_i z0 heq
    cases heq
    obtain ⟨n0, rfl, b0⟩ := nat_of ha
    have hc : Kp412Neutral.callOf [[5, (n0 : Int)]] = some (Kp412.Call.setFeedPrice n0) := rfl
    cases s with
    | none => exact desk_none hc (by decide) rfl
    | some b =>
      have w := hs b rfl
      refine desk_some w hc trivial fun b' out h => ?_
      walk_at "fa_any"
      exact .mk n0 w h
  · rename_i z0 heq
    cases heq
    obtain ⟨n0, rfl, b0⟩ := nat_of ha
    have hc : Kp412Neutral.callOf [[6, (n0 : Int)]] = some (Kp412.Call.getStream n0) := rfl
    cases s with
    | none => exact desk_none hc (by decide) rfl
    | some b =>
      have w := hs b rfl
      refine desk_some w hc trivial fun b' out h => ?_
      walk_at "fa_any"
      exact .mk n0 w h
  · rename_i l0 heq
    cases heq
    rw [Bool.and_eq_true] at ha
    obtain ⟨m, rfl⟩ := nats_of ha.1
    have hl : m.length ≤ 8 := by have := of_decide_eq_true ha.2; rw [List.length_map] at this; exact this
    have hc : Kp412Neutral.callOf [7 :: m.map fun (n : Nat) => (n : Int)] = some (.setAssignment m) := by
      show some (Kp412.Call.setAssignment ((m.map fun (n : Nat) => (n : Int)).map Int.toNat)) = _
      rw [List.map_map]
      congr 2
      exact (List.map_congr_left fun n _ => Int.toNat_natCast n).trans (List.map_id _)
    cases s with
    | none => exact desk_none hc (by decide) rfl
    | some b =>
      have w := hs b rfl
      refine desk_some w hc trivial fun b' out h => ?_
      walk_at "fa_any"
      exact .mk m w hl h
  · rename_i  heq
    cases heq
    have hc : Kp412Neutral.callOf [[8]] = some (Kp412.Call.getAssignment ) := rfl
    cases s with
    | none => exact desk_none hc (by decide) rfl
    | some b =>
      have w := hs b rfl
      refine desk_some w hc trivial fun b' out h => ?_
      walk_at "fa_any"
      exact .mk  w h
  · rename_i z0 z1 heq
    cases heq
    rw [Bool.and_eq_true] at ha
    obtain ⟨n0, rfl, b0⟩ := nat_of ha.1
    obtain ⟨n1, rfl, b1⟩ := nat_of ha.2
    have hc : Kp412Neutral.callOf [[9, (n0 : Int), (n1 : Int)]] = some (Kp412.Call.moveStream n0 n1) := rfl
    cases s with
    | none => exact desk_none hc (by decide) rfl
    | some b =>
      have w := hs b rfl
      refine desk_some w hc trivial fun b' out h => ?_
      walk_at "fa_any"
      exact .mk n0 n1 w h
  · rename_i z0 heq
    cases heq
    obtain ⟨n0, rfl, b0⟩ := nat_of ha
    have hc : Kp412Neutral.callOf [[10, (n0 : Int)]] = some (Kp412.Call.flourQuality n0) := rfl
    cases s with
    | none => exact desk_none hc (by decide) rfl
    | some b =>
      have w := hs b rfl
      refine desk_some w hc trivial fun b' out h => ?_
      walk_at "fa_any"
      exact .mk n0 w h
  · rename_i z0 heq
    cases heq
    obtain ⟨n0, rfl, b0⟩ := nat_of ha
    have hc : Kp412Neutral.callOf [[11, (n0 : Int)]] = some (Kp412.Call.ashMargin n0) := rfl
    cases s with
    | none => exact desk_none hc (by decide) rfl
    | some b =>
      have w := hs b rfl
      refine desk_some w hc trivial fun b' out h => ?_
      walk_at "fa_any"
      exact .mk n0 w h
  · rename_i  heq
    cases heq
    have hc : Kp412Neutral.callOf [[12]] = some (Kp412.Call.revenue ) := rfl
    cases s with
    | none => exact desk_none hc (by decide) rfl
    | some b =>
      have w := hs b rfl
      refine desk_some w hc trivial fun b' out h => ?_
      walk_at "fa_any"
      exact .mk  w h
  · rename_i  heq
    cases heq
    have hc : Kp412Neutral.callOf [[13]] = some (Kp412.Call.bestAssignment ) := rfl
    cases s with
    | none => exact desk_none hc (by decide) rfl
    | some b =>
      have w := hs b rfl
      refine desk_some w hc trivial fun b' out h => ?_
      walk_at "fa_any"
      exact .mk  w h
  · rename_i  heq
    cases heq
    have hc : Kp412Neutral.callOf [[14]] = some (Kp412.Call.applyBestAssignment ) := rfl
    cases s with
    | none => exact desk_none hc (by decide) rfl
    | some b =>
      have w := hs b rfl
      refine desk_some w hc trivial fun b' out h => ?_
      walk_at "fa_any"
      exact .mk  w h
  · rename_i  heq
    cases heq
    have hc : Kp412Neutral.callOf [[15]] = some (Kp412.Call.feasibleCount ) := rfl
    cases s with
    | none => exact desk_none hc (by decide) rfl
    | some b =>
      have w := hs b rfl
      refine desk_some w hc trivial fun b' out h => ?_
      walk_at "fa_any"
      exact .mk  w h
  · rename_i l0 heq
    cases heq
    rw [Bool.and_eq_true] at ha
    obtain ⟨m, rfl⟩ := nats_of ha.1
    have hl : m.length ≤ 8 := by have := of_decide_eq_true ha.2; rw [List.length_map] at this; exact this
    have hc : Kp412Neutral.callOf [16 :: m.map fun (n : Nat) => (n : Int)] = some (.evaluateAssignment m) := by
      show some (Kp412.Call.evaluateAssignment ((m.map fun (n : Nat) => (n : Int)).map Int.toNat)) = _
      rw [List.map_map]
      congr 2
      exact (List.map_congr_left fun n _ => Int.toNat_natCast n).trans (List.map_id _)
    cases s with
    | none => exact desk_none hc (by decide) rfl
    | some b =>
      have w := hs b rfl
      refine desk_some w hc trivial fun b' out h => ?_
      walk_at "fa_any"
      exact .mk m w hl h
  · rename_i  heq
    cases heq
    have hc : Kp412Neutral.callOf [[17]] = some (Kp412.Call.maxFirstFlour ) := rfl
    cases s with
    | none => exact desk_none hc (by decide) rfl
    | some b =>
      have w := hs b rfl
      refine desk_some w hc trivial fun b' out h => ?_
      walk_at "fa_any"
      exact .mk  w h
  · rename_i  heq
    cases heq
    have hc : Kp412Neutral.callOf [[18]] = some (Kp412.Call.maxFirstFlourSplit ) := rfl
    cases s with
    | none => exact desk_none hc (by decide) rfl
    | some b =>
      have w := hs b rfl
      refine desk_some w hc trivial fun b' out h => ?_
      walk_at "fa_any"
      exact .mk  w h
  · rename_i z0 z1 heq
    cases heq
    rw [Bool.and_eq_true] at ha
    obtain ⟨n0, rfl, b0⟩ := nat_of ha.1
    obtain ⟨n1, rfl, b1⟩ := nat_of ha.2
    have hc : Kp412Neutral.callOf [[19, (n0 : Int), (n1 : Int)]] = some (Kp412.Call.bestRevenueForLimit n0 n1) := rfl
    cases s with
    | none => exact desk_none hc (by decide) rfl
    | some b =>
      have w := hs b rfl
      refine desk_some w hc trivial fun b' out h => ?_
      walk_at "fa_any"
      exact .mk n0 n1 w h
  · rename_i z0 heq
    cases heq
    obtain ⟨n0, rfl, b0⟩ := nat_of ha
    have hc : Kp412Neutral.callOf [[20, (n0 : Int)]] = some (Kp412.Call.valueOfStream n0) := rfl
    cases s with
    | none => exact desk_none hc (by decide) rfl
    | some b =>
      have w := hs b rfl
      refine desk_some w hc trivial fun b' out h => ?_
      walk_at "fa_any"
      exact .mk n0 w h
  · rename_i z0 z1 heq
    cases heq
    rw [Bool.and_eq_true] at ha
    obtain ⟨n0, rfl, b0⟩ := nat_of ha.1
    obtain ⟨n1, rfl, b1⟩ := nat_of ha.2
    have hc : Kp412Neutral.callOf [[21, (n0 : Int), (n1 : Int)]] = some (Kp412.Call.bestRevenueForPrice n0 n1) := rfl
    cases s with
    | none => exact desk_none hc (by decide) rfl
    | some b =>
      have w := hs b rfl
      refine desk_some w hc trivial fun b' out h => ?_
      walk_at "fa_any"
      exact .mk n0 n1 w h
  · cases ha
end Fa
/-! Plain laws: the calls read off the list. -/
namespace Fa
theorem shape_of {p : Int} {n k : Nat} (h : PyKp412.shape p = some (n, k)) : (k = 0 ∧ countsL.lookup p = some (n : Int) ∧ p ≠ 7 ∧ p ≠ 16) ∨ (n = 0 ∧ k = 1 ∧ (p = 7 ∨ p = 16)) := by
  unfold PyKp412.shape at h
  by_cases e0 : p = 0
  · subst e0
    rw [if_pos rfl] at h
    cases h
    exact .inl ⟨rfl, rfl, by decide, by decide⟩
  rw [if_neg e0] at h
  by_cases e1 : p = 1
  · subst e1
    rw [if_pos rfl] at h
    cases h
    exact .inl ⟨rfl, rfl, by decide, by decide⟩
  rw [if_neg e1] at h
  by_cases e2 : p = 2
  · subst e2
    rw [if_pos rfl] at h
    cases h
    exact .inl ⟨rfl, rfl, by decide, by decide⟩
  rw [if_neg e2] at h
  by_cases e3 : p = 3
  · subst e3
    rw [if_pos rfl] at h
    cases h
    exact .inl ⟨rfl, rfl, by decide, by decide⟩
  rw [if_neg e3] at h
  by_cases e4 : p = 4
  · subst e4
    rw [if_pos rfl] at h
    cases h
    exact .inl ⟨rfl, rfl, by decide, by decide⟩
  rw [if_neg e4] at h
  by_cases e5 : p = 5
  · subst e5
    rw [if_pos rfl] at h
    cases h
    exact .inl ⟨rfl, rfl, by decide, by decide⟩
  rw [if_neg e5] at h
  by_cases e6 : p = 6
  · subst e6
    rw [if_pos rfl] at h
    cases h
    exact .inl ⟨rfl, rfl, by decide, by decide⟩
  rw [if_neg e6] at h
  by_cases e7 : p = 7
  · subst e7
    rw [if_pos rfl] at h
    cases h
    exact .inr ⟨rfl, rfl, by decide⟩
  rw [if_neg e7] at h
  by_cases e8 : p = 8
  · subst e8
    rw [if_pos rfl] at h
    cases h
    exact .inl ⟨rfl, rfl, by decide, by decide⟩
  rw [if_neg e8] at h
  by_cases e9 : p = 9
  · subst e9
    rw [if_pos rfl] at h
    cases h
    exact .inl ⟨rfl, rfl, by decide, by decide⟩
  rw [if_neg e9] at h
  by_cases e10 : p = 10
  · subst e10
    rw [if_pos rfl] at h
    cases h
    exact .inl ⟨rfl, rfl, by decide, by decide⟩
  rw [if_neg e10] at h
  by_cases e11 : p = 11
  · subst e11
    rw [if_pos rfl] at h
    cases h
    exact .inl ⟨rfl, rfl, by decide, by decide⟩
  rw [if_neg e11] at h
  by_cases e12 : p = 12
  · subst e12
    rw [if_pos rfl] at h
    cases h
    exact .inl ⟨rfl, rfl, by decide, by decide⟩
  rw [if_neg e12] at h
  by_cases e13 : p = 13
  · subst e13
    rw [if_pos rfl] at h
    cases h
    exact .inl ⟨rfl, rfl, by decide, by decide⟩
  rw [if_neg e13] at h
  by_cases e14 : p = 14
  · subst e14
    rw [if_pos rfl] at h
    cases h
    exact .inl ⟨rfl, rfl, by decide, by decide⟩
  rw [if_neg e14] at h
  by_cases e15 : p = 15
  · subst e15
    rw [if_pos rfl] at h
    cases h
    exact .inl ⟨rfl, rfl, by decide, by decide⟩
  rw [if_neg e15] at h
  by_cases e16 : p = 16
  · subst e16
    rw [if_pos rfl] at h
    cases h
    exact .inr ⟨rfl, rfl, by decide⟩
  rw [if_neg e16] at h
  by_cases e17 : p = 17
  · subst e17
    rw [if_pos rfl] at h
    cases h
    exact .inl ⟨rfl, rfl, by decide, by decide⟩
  rw [if_neg e17] at h
  by_cases e18 : p = 18
  · subst e18
    rw [if_pos rfl] at h
    cases h
    exact .inl ⟨rfl, rfl, by decide, by decide⟩
  rw [if_neg e18] at h
  by_cases e19 : p = 19
  · subst e19
    rw [if_pos rfl] at h
    cases h
    exact .inl ⟨rfl, rfl, by decide, by decide⟩
  rw [if_neg e19] at h
  by_cases e20 : p = 20
  · subst e20
    rw [if_pos rfl] at h
    cases h
    exact .inl ⟨rfl, rfl, by decide, by decide⟩
  rw [if_neg e20] at h
  by_cases e21 : p = 21
  · subst e21
    rw [if_pos rfl] at h
    cases h
    exact .inl ⟨rfl, rfl, by decide, by decide⟩
  rw [if_neg e21] at h
  cases h
theorem whole_one (c : List Int) : PyKp412.whole [c] = [c] := by
  unfold PyKp412.whole
  split <;> first | rfl | (rename_i h; cases h; rfl) | (rename_i h; cases h)
theorem whole_row {p : Int} (r : List Int) (h : p = 7 ∨ p = 16) : PyKp412.whole [[p], r] = [p :: r] := by
  rcases h with rfl | rfl <;> rfl
theorem drop_cons {l : List Int} {i : Nat} {p : Int} {r : List Int} (h : l.drop i = p :: r) : l[i]? = some p ∧ r = l.drop (i + 1) ∧ i < l.length := by
  have h1 : (l.drop i)[0]? = some p := by rw [h]; rfl
  rw [List.getElem?_drop] at h1
  refine ⟨h1, ?_, (List.getElem?_eq_some_iff.mp h1).1⟩
  have h2 : (l.drop i).drop 1 = r := by rw [h]; rfl
  rw [List.drop_drop] at h2
  exact h2.symm
/-- one call ahead: what call_at reads -/
theorem decode {l : List Int} {i f : Nat} {c : List (List Int)} {raw : List (List (List Int))} (h : PyFlat.calls PyKp412.shape f (l.drop i) = some (c :: raw)) :
    ∃ op ns e, i < l.length ∧ CallIs l i op ns e ∧ PyKp412.whole c = [op :: ns] ∧ ∃ f', PyFlat.calls PyKp412.shape f' (l.drop e) = some raw := by
  cases hd : l.drop i with
  | nil =>
    rw [hd] at h
    cases f <;> (unfold PyFlat.calls at h; cases h)
  | cons p r =>
    rw [hd] at h
    obtain ⟨h1, h2, h3⟩ := drop_cons hd
    cases f with
    | zero => unfold PyFlat.calls at h; cases h
    | succ f =>
      unfold PyFlat.calls at h
      split at h
      · cases h
      · rename_i c' t hc
        split at h
        · cases h
        · rename_i cs hcs
          cases h
          simp only [PyFlat.call] at hc
          split at hc
          · cases hc
          · rename_i n k hsh
            split at hc
            · cases hc
            · rename_i hn
              have hn' : n ≤ r.length := Nat.le_of_not_lt hn
              have hlen : r.length = l.length - (i + 1) := by rw [h2, List.length_drop]
              rcases shape_of hsh with ⟨rfl, hl, h7, h16⟩ | ⟨rfl, rfl, h7⟩
              · unfold PyFlat.rows at hc
                cases hc
                refine ⟨p, r.take n, i + 1 + n, h3, ⟨h1, by omega, .inr ⟨h7, h16, n, hl, rfl, by rw [h2]⟩⟩, whole_one _, f, ?_⟩
                rw [h2, List.drop_drop] at hcs
                exact hcs
              · unfold PyFlat.rows at hc
                rw [List.drop_zero] at hc
                split at hc
                · cases hc
                · rename_i xs t' hrow
                  cases hc
                  split at hrow
                  · cases hrow
                  · rename_i x s hr
                    unfold PyFlat.rows at hrow
                    dsimp only at hrow
                    cases hrow
                    cases hr0 : r with
                    | nil => rw [hr0] at hr; simp only [PyFlat.row] at hr; cases hr
                    | cons m r' =>
                      rw [hr0] at hr
                      simp only [PyFlat.row] at hr
                      split at hr
                      · rename_i hm
                        cases hr
                        rw [hr0] at h2 hlen
                        obtain ⟨g1, g2, g3⟩ := drop_cons h2.symm
                        have hlen2 : r'.length = l.length - (i + 2) := by rw [g2, List.length_drop]
                        refine ⟨p, r'.take m.toNat, i + 2 + m.toNat, h3, ⟨h1, by omega, .inl ⟨h7, m.toNat, ?_, rfl, by rw [g2]⟩⟩, whole_row _ h7, f, ?_⟩
                        · rw [g1]
                          exact congrArg some (Int.toNat_of_nonneg hm.1).symm
                        · rw [g2, List.drop_drop] at hcs
                          exact hcs
                      · cases hr
/-- no call ahead -/
theorem decode_end {l : List Int} {i f : Nat} (h : PyFlat.calls PyKp412.shape f (l.drop i) = some []) : l.length ≤ i := by
  cases hd : l.drop i with
  | nil =>
    have := congrArg List.length hd
    rw [List.length_drop, List.length_nil] at this
    omega
  | cons p r =>
    rw [hd] at h
    cases f with
    | zero => unfold PyFlat.calls at h; cases h
    | succ f =>
      unfold PyFlat.calls at h
      split at h
      · cases h
      · split at h
        · cases h
        · cases h
/-- what is asked of the list -/
theorem asked_of {l : List Int} (h : PyKp412.answers_asked l = true) : ∃ raw, PyFlat.calls PyKp412.shape l.length l = some raw ∧ (∀ c ∈ raw, Kp412Neutral.asked1 (PyKp412.whole c) = true) ∧
    PyKp412.answers l = PyFlat.told (PyFlat.played Kp412Neutral.step Kp412Neutral.start (raw.map PyKp412.whole)) ∧ (PyKp412.answers l).length ≤ 10000000 := by
  unfold PyKp412.answers_asked at h
  split at h
  · cases h
  · rename_i raw hraw
    simp only [Bool.and_eq_true] at h
    obtain ⟨⟨⟨⟨_, _⟩, _⟩, h4⟩, h5⟩ := h
    refine ⟨raw, hraw, fun c hc => ?_, ?_, of_decide_eq_true h5⟩
    · unfold Kp412Neutral.asked at h4
      simp only [Bool.and_eq_true, List.all_eq_true] at h4
      exact h4.2.2 _ (List.mem_map.mpr ⟨c, hc, rfl⟩)
    · unfold PyKp412.answers PyKp412.calls
      rw [hraw]
theorem told_cons (a : List Int) (l : List (List Int)) : PyFlat.told (a :: l) = (a.length : Int) :: (a ++ PyFlat.told l) := by
  unfold PyFlat.told
  rw [List.flatMap_cons]
  rfl
end Fa
/-! answers: what its loop keeps. -/
namespace Fa
open PySem PySem.Spec PyProof.Rows L2
open Kp412 (Stream Blender)
variable {K : PySem.W.Frag} {H H' H1 : Hp} {C CD : Addr}
/-- the promise of answers -/
def spTop (K : PySem.W.Frag) : Sp := fun vs H Q _ => ∃ (v : V) (l : List Int), vs = [v] ∧ Rep K H (.lst (l.map D.int)) v ∧ PyKp412.answers_asked l = true ∧ ∀ p H', H' p = some (.lst ((PyKp412.answers l).map V.int)) → Q (.ref p) H'
theorem rep_hold {l : List Int} {v : V} (h : Hold H H') (r : Rep K H (.lst (l.map D.int)) v) : Rep K H' (.lst (l.map D.int)) v := by
  cases r with
  | lst sq r =>
    have e := r.ints_eq
    subst e
    refine .lst ?_ (Reps.ints l)
    rcases sq with (sq | ⟨o, sq⟩) | sq
    · exact .inl (.inl (h _ _ sq fun _ _ _ z => nomatch z))
    · exact .inl (.inr ⟨o, h _ _ sq fun _ _ _ z => nomatch z⟩)
    · exact .inr sq
theorem hold_mut {p : Addr} {o : HO} (h : Hold H H') (hp : H p = none) : Hold H (upd H' p o) := fun c u hc n => by
  rw [upd_ne (ne_of_none hc hp)]; exact h c u hc n
theorem des_upd {d p : Addr} {s : Option Blender} {xs ys : List V} (h : DesAt K C CD H d s) (hp : H p = some (.lst xs)) : DesAt K C CD (upd H p (.lst ys)) d s := by
  obtain ⟨dx, v, h1, h2⟩ := h
  refine ⟨dx, v, by rw [upd_ne (ne_of h1 hp (fun z => nomatch z))]; exact h1, ?_⟩
  cases h2 with
  | non => exact .non
  | ble hb =>
    obtain ⟨dx2, vm, va, e1, e2, e3⟩ := hb
    have kt := keepT_lst (ws := ys) hp
    exact .ble ⟨dx2, vm, va, by rw [upd_ne (ne_of e1 hp (fun z => nomatch z))]; exact e1, stab_mill _ _ _ _ _ kt e2, stab_asg _ _ _ _ _ kt e3⟩
theorem DesAt.same {d : Addr} {s : Option Blender} (e : Same H H') (h : DesAt K C CD H d s) : DesAt K C CD H' d s := by
  obtain ⟨dx, v, h1, h2⟩ := h
  exact ⟨dx, v, e _ _ h1, h2.same e⟩
end Fa
namespace Fa
open PySem PySem.Spec PyProof.Rows L2
open Kp412 (Stream Blender)
section
variable {P : Program} {w : World} {K : PySem.W.Frag} {mg : Str → Option Value} {base : Heap} {C CD : Addr}
local macro_rules | `(tactic| walk_at "fa_rd") => `(tactic| first
  | exact rd_I0 | exact rd_B0 | exact rd_eq
  | exact rd_ixT (n := 0) rfl rfl | exact rd_ixT (n := 1) rfl rfl | exact rd_ixT (n := 2) rfl rfl
  | exact rd_ixL (n := 0) rfl rfl | exact rd_ixL (n := 1) rfl rfl | exact rd_ixL (n := 2) rfl rfl
  | exact rd_catA (by simp) )
local macro_rules | `(tactic| walk_at "fa_ev") => `(tactic| first
  | exact ed_int | exact ed_bl
  | (refine ed_var rfl ?_; assumption)
  | (refine ed_op ?_ ?_ ?_; focus walk_at "fa_ev"; focus walk_at "fa_ev"; focus walk_at "fa_rd")
  | (refine ed_cb ?_ ?_; focus walk_at "fa_ea"; focus (first | exact rc_lenT | exact rc_lenL))
  | (refine ed_tup ?_ ?_; focus walk_at "fa_ea"; focus (simp; done)))
local macro_rules | `(tactic| walk_at "fa_ea") => `(tactic| first
  | exact ea_nil
  | (refine ea_cons ?_ ?_; focus walk_at "fa_ev"; focus walk_at "fa_ea"))

theorem sc_answers : FnScope ["calls", "found", "desk", "at", "operation", "numbers", "told"] ["calls"] (C8.fnScope (top 80)) := C8.fnScope_by (by decide +kernel)
theorem ok_answers (hB : BleX K C) (hD : DesX K CD) {f : Addr} {fd : FuncData} (h2 : C8.Fun K "answers" "answers" (top 80) f fd)
    (o_Desk : ∃ f fd, Mk K CD f ∧ FnOk P w K mg base CX0 1 f fd ["self"] (spIniD K CD) ∧ mg "Desk" = some (.ref CD) ∧ Binds K fd ["self"] []) (T : Tx K mg) (c_call_at : C8.Cal P w K mg base 1 "call_at" (spD K R_call_at) []) (c_answer : C8.Met P w K mg base 8 CD "answer" (spAnswer K C CD) []) : FnOk P w K mg base CX0 9 f fd ["calls"] (spTop K) := by
  obtain ⟨fD, fdD, M_Desk, G_Desk, m_Desk, b_Desk⟩ := o_Desk
  refine C8.fn0 (N := ["calls", "found", "desk", "at", "operation", "numbers", "told"]) h2 sc_answers (fun vs H Q E h => by obtain ⟨_, _, rfl, _⟩ := h; rfl) (fun cdv A outer s H vs Q E hr h => ⟨_, (pss_cons (ps_set (i := 1) sc_answers.nd rfl (by first | exact Or.inl rfl | exact Or.inr rfl) (pe_lst pa_nil))
      (pss_cons (ps_set (i := 2) sc_answers.nd rfl (by first | exact Or.inl rfl | exact Or.inr rfl) (pe_make0 M_Desk G_Desk (hr.mono (by decide)) rfl m_Desk b_Desk .nil pass0))
      (pss_cons (ps_set (i := 3) sc_answers.nd rfl (by first | exact Or.inl rfl | exact Or.inr rfl) pe_int)
      (pss_cons (ps_while PassesOwn.never (pt_cmpR op_lt (pv 3) (pe_callB call_len_seq (by rfl) (T.no T.F.b_len) (by decide +kernel) (pa_cons (pv 0) pa_nil)) (nomark _)) (pss_cons (ps_asg (C8.pe_c c_call_at hr (by decide) rfl (pa_cons (pv 0) (pa_cons (pv 3) pa_nil))) (pg_tup (n := 3) rfl (pgs_cons (pg_name (i := 4) sc_answers.nd rfl (by first | exact Or.inl rfl | exact Or.inr rfl)) (pgs_cons (pg_name (i := 5) sc_answers.nd rfl (by first | exact Or.inl rfl | exact Or.inr rfl)) (pgs_cons (pg_name (i := 3) sc_answers.nd rfl (by first | exact Or.inl rfl | exact Or.inr rfl)) pgs_nil)))))
      (pss_cons (ps_set (i := 6) sc_answers.nd rfl (by first | exact Or.inl rfl | exact Or.inr rfl) (C8.pe_mt c_answer hr (by decide) (pv 2) (pa_cons (pv 4) (pa_cons (pv 5) pa_nil))))
      (pss_cons (ps_expr (pe_bm PySem.F.plainAttrs_list PySem.F.slot_list_append PySem.F.type_list_append mt_append (pv 1) (pa_cons (pe_callB call_len_seq (by rfl) (T.no T.F.b_len) (by decide +kernel) (pa_cons (pv 6) pa_nil)) pa_nil)))
      (pss_one (ps_expr (pe_bm PySem.F.plainAttrs_list PySem.F.slot_list_extend PySem.F.type_list_extend mt_extend (pv 1) (pa_cons (pv 6) pa_nil))))))))
      (pss_one (ps_ret (pv 1))))))), ?_⟩)
  obtain ⟨vc, l, rfl, rc, hask, k⟩ := h
  obtain ⟨raw, hraw, hall, htot, hsz⟩ := asked_of hask
  refine s_seq (s_asgN (K := K) (en_lst ea_nil (Nat.le_of_ble_eq_true rfl)) fun pf vs0 H1 hpf s1 h1 rp => ?_)
  cases rp
  refine s_nx (s_seq (fun d dx hd hdx hne => ⟨d, dx, rfl, upd_same, rfl, ?_⟩))
  have sm2 : Same H1 (upd (upd (upd H1 dx (.own d)) d (.ins CD dx [])) d (.ins CD dx (desF .non))) := fun c o hc => by
    rw [upd_ne (ne_of_none hc hd), upd_ne (ne_of_none hc hd), upd_ne (ne_of_none hc hdx)]; exact hc
  refine s_nx (s_seq (s_asg (K := K) ed_int fun y H3 s3 ry => ?_))
  cases ry
  have hd3 := s3 _ _ (upd_same (H := upd (upd H1 dx (.own d)) d (.ins CD dx [])) (a := d) (o := .ins CD dx (desF .non)))
  refine s_nx (s_seq (s_while (fun m σ' H' => ∃ (i : Nat) (st : Option Blender) (rw : List (List (List Int))) (acc : List Int) (v4 v5 v6 : Option V), m = rw.length ∧ σ' = [some vc, some (.ref pf), some (.ref d), some (.int (i : Int)), v4, v5, v6] ∧ DesAt K C CD H' d st ∧ (∀ b, st = some b → WF b) ∧
      H' pf = some (.lst (acc.map V.int)) ∧ Hold H H' ∧ (∃ f, PyFlat.calls PyKp412.shape f (l.drop i) = some rw) ∧ (∀ c ∈ rw, Kp412Neutral.asked1 (PyKp412.whole c) = true) ∧
      acc ++ PyFlat.told (PyFlat.played Kp412Neutral.step st (rw.map PyKp412.whole)) = PyKp412.answers l)
    ⟨raw.length, 0, none, raw, [], none, none, none, rfl, rfl, ⟨dx, .non, hd3, .non⟩, fun b hb => (nomatch hb), s3 _ _ (sm2 _ _ h1), hold_of (s1.trans (sm2.trans s3)), ⟨l.length, hraw⟩, hall, htot.symm⟩ ?_))
  rintro m σ' H' ⟨i, st, rw', acc, v4, v5, v6, rfl, rfl, hdes, hwf, hpf', hold, ⟨fu, hdec⟩, hall, htot⟩
  have rc' := rep_hold hold rc
  refine ⟨decide ((i : Int) < (l.length : Int)), et_test (ed_op (ed_var rfl .int) (EvD.is (ed_cb (ea_cons (ed_var rfl rc') ea_nil) rc_lenL) (by rw [List.length_map])) rd_B0), fun e H2 s2 => ?_, fun e H2 s2 => ?_⟩
  · have hlt := of_decide_eq_true e
    cases rw' with
    | nil => exact absurd (decode_end hdec) (by omega)
    | cons c rw' =>
      obtain ⟨op, ns, en, hi, hcall, hw, fu', hdec'⟩ := decode hdec
      have hask := hall c (List.mem_cons_self ..)
      rw [hw] at hask
      obtain ⟨st', out, hst, hdR, hwf'⟩ := (desk_step hwf hask).ex
      have e1 : PyFlat.played Kp412Neutral.step st ((c :: rw').map PyKp412.whole) = out :: PyFlat.played Kp412Neutral.step st' (rw'.map PyKp412.whole) := by
        show (Kp412Neutral.step st (PyKp412.whole c)).2 :: PyFlat.played Kp412Neutral.step (Kp412Neutral.step st (PyKp412.whole c)).1 (rw'.map PyKp412.whole) = _
        rw [hw, hst]
      rw [e1, told_cons] at htot
      have hlen := congrArg List.length htot
      rw [List.length_append, List.length_cons, List.length_append] at hlen
      have hline : (10000000 : Nat) < sizeLine := by decide
      refine s_seq (s_unp (K := K) (l := [.int op, .lst (ns.map D.int), .int (en : Int)]) (ed_call (ea_cons (ed_var rfl (rc'.same s2)) (ea_cons (ed_var rfl .int) ea_nil)) (.mk l i op ns en hcall)) rfl fun vs H3 s3 rv => ?_)
      obtain ⟨y, z, x3, rfl, ry, rz, rx3⟩ := reps3 rv
      cases ry; cases rx3
      refine ⟨_, _, rfl, _, _, rfl, _, _, rfl, rfl, ?_⟩
      have s23 := s2.trans s3
      obtain ⟨dxx, vv, hd4, hdv⟩ := hdes.same s23
      refine s_nx (s_seq ⟨.ref d, rfl, d, dxx, _, rfl, hd4, des_ans _, .int op, rfl, z, rfl, d, op, z, st, st', ns, out, rfl, ⟨dxx, vv, hd4, hdv⟩, rz, hdR, fun p H4 hp hold4 hdes4 h4 => ?_⟩)
      have hpf3 := s23 _ _ hpf'
      have hpf4 := hold4 _ _ hpf3 (fun _ _ _ z => nomatch z)
      have hpp : p ≠ pf := Ne.symm (ne_of_none hpf3 hp)
      refine s_nx (s_seq (s_appV (K := K) (i := 1) (d := .int (out.length : Int)) rfl hpf4 (EvD.is (ed_cb (ea_cons (ed_var rfl (.lst (sq_of h4) (Reps.ints out))) ea_nil) rc_lenL) (by rw [List.length_map])) (by rw [List.length_map]; omega) fun v H5 s5 rv => ?_))
      cases rv
      refine s_nx (s_extV (i := 1) (j := 6) (l := pf) (l2 := p) rfl rfl upd_same (by rw [upd_ne hpp]; exact s5 _ _ h4) (by rw [List.length_append, List.length_map, List.length_map, List.length_singleton]; omega) ?_)
      refine ⟨rw'.length, Nat.lt_succ_self _, en, st', rw', acc ++ ((out.length : Int) :: out), _, _, _, rfl, rfl, des_upd (des_upd (hdes4.same s5) (s5 _ _ hpf4)) upd_same, hwf', upd_same.trans (congrArg (fun q => some (HO.lst q)) ?_), hold_mut (hold_mut (hold.trans ((hold_of s23).trans (hold4.trans (hold_of s5)))) hpf) hpf, ⟨fu', hdec'⟩, fun c hc => hall c (List.mem_cons_of_mem _ hc), ?_⟩
      · rw [List.map_append, List.map_cons, List.append_assoc]; rfl
      · rw [← htot, List.append_assoc]; rfl
  · have hge := of_decide_eq_false e
    cases rw' with
    | cons c rw' =>
      obtain ⟨_, _, _, hi, _⟩ := decode hdec
      exact absurd hi (by omega)
    | nil =>
      have e2 : acc = PyKp412.answers l := by
        rw [← htot]
        exact (List.append_nil acc).symm
      subst e2
      exact s_nx ⟨.ref pf, rfl, k pf H2 (s2 _ _ hpf')⟩
end
end Fa
/-! All defs together. -/
namespace Fa
open PySem PySem.Spec PyProof.Rows L2
def rooms : Nat := 9
theorem rooms_ok : Room rooms callerA := ⟨rfl, by decide, by decide⟩
theorem key (w : World) (K : PySem.W.Frag) (mg : Str → Option Value) (fa : Addr) (h : Heap) (KX : K.In h) (G : h.Ns mainGlobals mg) (hfa : mg "answers" = some (.ref fa)) (F : Facts K) :
    ∃ fd : FuncData, (∀ (s : Shared) (us : List Value), us.length = (["calls"] : List Str).length → BindsTo s fd ⟨us, []⟩ ((["calls"] : List Str).zip us)) ∧ ∀ base : Heap, K.In base → base.Ns mainGlobals mg → FnOk PySem.Challenge.pw_flourashes_s01_answers w K mg base CX0 rooms fa fd ["calls"] (spTop K) := by
  have T := tx_of KX G F
  obtain ⟨C, hB⟩ := F.ble
  obtain ⟨CD, hD⟩ := F.des
  obtain ⟨f, fd, h1, h2, h3, h4⟩ := F.d_answers
  have e := hfa.symm.trans (T.yes _ _ h1)
  cases e
  refine ⟨fd, fun s us hu => ?_, fun base _ _ => ?_⟩
  · obtain ⟨oc, od, dV, kV, doc, pm, an, cdv, ct, osl, rfl, lk, hcd⟩ := h2.ex
    have e : dV = .none := h3
    subst e
    exact match us, hu with
      | [_], _ => .of_eq rfl
  · skip
    have c_new_mill := ok_new_mill (P := PySem.Challenge.pw_flourashes_s01_answers) (w := w) (base := base) T
    have c_has_stream := ok_has_stream (P := PySem.Challenge.pw_flourashes_s01_answers) (w := w) (base := base) T
    have c_are_amount_and_ash := ok_are_amount_and_ash (P := PySem.Challenge.pw_flourashes_s01_answers) (w := w) (base := base) T
    have c_replaced := ok_replaced (P := PySem.Challenge.pw_flourashes_s01_answers) (w := w) (base := base) T
    have c_without := ok_without (P := PySem.Challenge.pw_flourashes_s01_answers) (w := w) (base := base) T
    have c_with_streams := ok_with_streams (P := PySem.Challenge.pw_flourashes_s01_answers) (w := w) (base := base) T
    have c_with_flour := ok_with_flour (P := PySem.Challenge.pw_flourashes_s01_answers) (w := w) (base := base) T c_replaced
    have c_with_feed_price := ok_with_feed_price (P := PySem.Challenge.pw_flourashes_s01_answers) (w := w) (base := base) T
    have c_amounts_of := ok_amounts_of (P := PySem.Challenge.pw_flourashes_s01_answers) (w := w) (base := base) T
    have c_ashes_of := ok_ashes_of (P := PySem.Challenge.pw_flourashes_s01_answers) (w := w) (base := base) T
    have c_margin_of := ok_margin_of (P := PySem.Challenge.pw_flourashes_s01_answers) (w := w) (base := base) T c_amounts_of c_ashes_of
    have c_is_feasible := ok_is_feasible (P := PySem.Challenge.pw_flourashes_s01_answers) (w := w) (base := base) T c_amounts_of c_ashes_of
    have c_revenue_of := ok_revenue_of (P := PySem.Challenge.pw_flourashes_s01_answers) (w := w) (base := base) T c_amounts_of
    have c_fits := ok_fits (P := PySem.Challenge.pw_flourashes_s01_answers) (w := w) (base := base) T
    have c_longer := ok_longer (P := PySem.Challenge.pw_flourashes_s01_answers) (w := w) (base := base) T
    have c_all_assignments := ok_all_assignments (P := PySem.Challenge.pw_flourashes_s01_answers) (w := w) (base := base) T c_longer
    have c_feasible_ones := ok_feasible_ones (P := PySem.Challenge.pw_flourashes_s01_answers) (w := w) (base := base) T c_all_assignments c_is_feasible
    have c_first_greatest := ok_first_greatest (P := PySem.Challenge.pw_flourashes_s01_answers) (w := w) (base := base) T
    have c_best_of := ok_best_of (P := PySem.Challenge.pw_flourashes_s01_answers) (w := w) (base := base) T c_first_greatest c_feasible_ones c_revenue_of
    have c_most_first_flour := ok_most_first_flour (P := PySem.Challenge.pw_flourashes_s01_answers) (w := w) (base := base) T c_first_greatest c_feasible_ones c_amounts_of
    have c_greatest_divisor := ok_greatest_divisor (P := PySem.Challenge.pw_flourashes_s01_answers) (w := w) (base := base) T
    have c_lowest_terms := ok_lowest_terms (P := PySem.Challenge.pw_flourashes_s01_answers) (w := w) (base := base) T c_greatest_divisor
    have c_by_ash := ok_by_ash (P := PySem.Challenge.pw_flourashes_s01_answers) (w := w) (base := base) T
    have c_split_total := ok_split_total (P := PySem.Challenge.pw_flourashes_s01_answers) (w := w) (base := base) T c_by_ash c_lowest_terms
    have c_Blender := ok_Blender_init (P := PySem.Challenge.pw_flourashes_s01_answers) (w := w) (base := base) hB T c_new_mill
    have c_changed := ok_Blender_changed (P := PySem.Challenge.pw_flourashes_s01_answers) (w := w) (base := base) hB T c_is_feasible
    have c_add_stream := ok_add_stream (P := PySem.Challenge.pw_flourashes_s01_answers) (w := w) (base := base) T hB c_are_amount_and_ash c_with_streams c_changed
    have c_remove_stream := ok_remove_stream (P := PySem.Challenge.pw_flourashes_s01_answers) (w := w) (base := base) T hB c_has_stream c_with_streams c_without c_changed
    have c_set_stream := ok_set_stream (P := PySem.Challenge.pw_flourashes_s01_answers) (w := w) (base := base) T hB c_has_stream c_are_amount_and_ash c_replaced c_with_streams c_changed
    have c_set_flour := ok_set_flour (P := PySem.Challenge.pw_flourashes_s01_answers) (w := w) (base := base) T hB c_with_flour c_changed
    have c_set_feed_price := ok_set_feed_price (P := PySem.Challenge.pw_flourashes_s01_answers) (w := w) (base := base) T hB c_with_feed_price c_changed
    have c_set_assignment := ok_set_assignment (P := PySem.Challenge.pw_flourashes_s01_answers) (w := w) (base := base) T hB c_fits c_changed c_revenue_of
    have c_move_stream := ok_move_stream (P := PySem.Challenge.pw_flourashes_s01_answers) (w := w) (base := base) T hB c_has_stream c_replaced c_changed
    have c_apply_best_assignment := ok_apply_best_assignment (P := PySem.Challenge.pw_flourashes_s01_answers) (w := w) (base := base) T hB c_best_of c_changed
    have c_get_stream := ok_get_stream (P := PySem.Challenge.pw_flourashes_s01_answers) (w := w) (base := base) T hB c_has_stream
    have c_get_assignment := ok_get_assignment (P := PySem.Challenge.pw_flourashes_s01_answers) (w := w) (base := base) T hB
    have c_flour_quality := ok_flour_quality (P := PySem.Challenge.pw_flourashes_s01_answers) (w := w) (base := base) T hB c_amounts_of c_ashes_of c_lowest_terms
    have c_ash_margin := ok_ash_margin (P := PySem.Challenge.pw_flourashes_s01_answers) (w := w) (base := base) T hB c_margin_of
    have c_revenue := ok_revenue (P := PySem.Challenge.pw_flourashes_s01_answers) (w := w) (base := base) T hB c_revenue_of
    have c_best_assignment := ok_best_assignment (P := PySem.Challenge.pw_flourashes_s01_answers) (w := w) (base := base) T hB c_best_of
    have c_feasible_count := ok_feasible_count (P := PySem.Challenge.pw_flourashes_s01_answers) (w := w) (base := base) T hB c_feasible_ones
    have c_evaluate_assignment := ok_evaluate_assignment (P := PySem.Challenge.pw_flourashes_s01_answers) (w := w) (base := base) T hB c_fits c_is_feasible c_revenue_of
    have c_max_first_flour := ok_max_first_flour (P := PySem.Challenge.pw_flourashes_s01_answers) (w := w) (base := base) T hB c_most_first_flour
    have c_max_first_flour_split := ok_max_first_flour_split (P := PySem.Challenge.pw_flourashes_s01_answers) (w := w) (base := base) T hB c_split_total
    have c_best_revenue_for_limit := ok_best_revenue_for_limit (P := PySem.Challenge.pw_flourashes_s01_answers) (w := w) (base := base) T hB c_best_of c_with_flour
    have c_value_of_stream := ok_value_of_stream (P := PySem.Challenge.pw_flourashes_s01_answers) (w := w) (base := base) T hB c_has_stream c_with_streams c_without c_best_of
    have c_best_revenue_for_price := ok_best_revenue_for_price (P := PySem.Challenge.pw_flourashes_s01_answers) (w := w) (base := base) T hB c_best_of c_with_flour
    have c_change_answered := ok_change_answered (P := PySem.Challenge.pw_flourashes_s01_answers) (w := w) (base := base) T c_add_stream c_remove_stream c_set_stream c_set_flour c_set_feed_price c_set_assignment c_move_stream c_apply_best_assignment
    have c_state_answered := ok_state_answered (P := PySem.Challenge.pw_flourashes_s01_answers) (w := w) (base := base) T c_get_stream c_get_assignment c_flour_quality c_ash_margin c_revenue c_evaluate_assignment
    have c_search_answered := ok_search_answered (P := PySem.Challenge.pw_flourashes_s01_answers) (w := w) (base := base) T c_best_assignment c_feasible_count c_max_first_flour c_max_first_flour_split c_best_revenue_for_limit c_value_of_stream c_best_revenue_for_price
    have c_answered := ok_answered (P := PySem.Challenge.pw_flourashes_s01_answers) (w := w) (base := base) T c_change_answered c_state_answered c_search_answered
    have c_create := ok_create (P := PySem.Challenge.pw_flourashes_s01_answers) (w := w) (base := base) T c_Blender hD
    have o_Desk := ok_Desk_init (P := PySem.Challenge.pw_flourashes_s01_answers) (w := w) (base := base) hD T
    have c_answer := ok_Desk_answer (P := PySem.Challenge.pw_flourashes_s01_answers) (w := w) (base := base) hB hD T c_create c_answered
    have c_call_at := ok_call_at (P := PySem.Challenge.pw_flourashes_s01_answers) (w := w) (base := base) T
    exact ok_answers hB hD h2 o_Desk T c_call_at c_answer
theorem answer_side (K : PySem.W.Frag) (H : Hp) (xs : List V) (a : W.Codec.denoteAll PySem.Challenge.rw_flourashes_s01_answers.args) (hO : OnlyF H) (hwi : W.Codec.withinAll PySem.Challenge.rw_flourashes_s01_answers.args a = true) (hask : W.Codec.app PySem.Challenge.rw_flourashes_s01_answers.args PySem.Challenge.rw_flourashes_s01_answers.asked a = true)
    (hx : DwAll K H xs (W.Codec.encAll PySem.Challenge.rw_flourashes_s01_answers.args a)) :
    spTop K xs H (fun v H' => Dw K H' v (PySem.Challenge.rw_flourashes_s01_answers.ret.enc (W.Codec.app PySem.Challenge.rw_flourashes_s01_answers.args PySem.Challenge.rw_flourashes_s01_answers.f a))) fun _ _ _ => False := by
  cases hx with
  | cons h1 h2 =>
    cases h2
    cases h1 with
    | lst hs ha =>
      have e := L2.ints_dw a.1 _ ha
      subst e
      exact ⟨_, a.1, rfl, .lst hs (Reps.ints a.1), hask, fun p H' hp => .lst (L2.SqL.of hp) (L2.dw_ints _)⟩
end Fa
open PySem PySem.W PyProof.Rows

local macro_rules | `(tactic| walk_at "fa_def") => `(tactic| (refine' Fa.defX ?a ?l ?c ?k; (case a => k_is); (case l => k_is); (case c => k_is); (case k => k_is)))
local macro_rules | `(tactic| walk_at "fa_met") => `(tactic| (refine' Fa.metX ?a ?i ?l ?c ?k; (case a => k_is); (case i => k_is); (case l => k_is); (case c => k_is); (case k => k_is)))
local macro_rules | `(tactic| walk_at "fa_int") => `(tactic| (refine' Fa.intX ?a; (case a => k_is)))
local macro_rules | `(tactic| walk_at "fa_tup") => `(tactic| (refine' Fa.tupX0 ?l; (case l => k_is)))
local macro_rules | `(tactic| walk_at "fa_cls") => `(tactic| (refine' Fa.ClsX.mk ?nm ?pg ?hd ?po ?sa ?mks ?kc; (case nm => k_is); (case pg => k_is); (case hd => k_is); (case po => k_is); (case sa => k_is); (case mks => k_is); (case kc => k_is)))

set_option maxRecDepth 100000 in
set_option maxHeartbeats 8000000 in
theorem PySem.Challenge.cw_flourashes_s01_answers_holds : PySem.Challenge.rw_flourashes_s01_answers.Holds := by
  w_on; k_headS; (case hw => exact ⟨[.list [.int 12]], by decide +kernel, by decide +kernel⟩)
  k_fillS
  refine L2.walk_specK (r := PySem.Challenge.rw_flourashes_s01_answers) (k := Fa.rooms) (CX := L2.CX0) (ps := ["calls"]) (sp := Fa.spTop) (by decide +kernel) rfl rfl Fa.rooms_ok (fun w h Y => PySem.W.kIn_of Y) ?F Fa.answer_side (fun _ _ _ _ z => z)
  case F =>
    intro w mg fa h Y KX G hmg
    refine' Fa.key w _ mg fa h KX G hmg ?_
    refine' Fa.Facts.mk ?d_new_mill ?d_has_stream ?d_are_amount_and_ash ?d_replaced ?d_without ?d_with_streams ?d_with_flour ?d_with_feed_price ?d_amounts_of ?d_ashes_of ?d_margin_of ?d_is_feasible ?d_revenue_of ?d_fits ?d_longer ?d_all_assignments ?d_feasible_ones ?d_first_greatest ?d_best_of ?d_most_first_flour ?d_add_stream ?d_remove_stream ?d_set_stream ?d_set_flour ?d_set_feed_price ?d_set_assignment ?d_move_stream ?d_apply_best_assignment ?d_greatest_divisor ?d_lowest_terms ?d_by_ash ?d_split_total ?d_get_stream ?d_get_assignment ?d_flour_quality ?d_ash_margin ?d_revenue ?d_best_assignment ?d_feasible_count ?d_evaluate_assignment ?d_max_first_flour ?d_max_first_flour_split ?d_best_revenue_for_limit ?d_value_of_stream ?d_best_revenue_for_price ?d_create ?d_change_answered ?d_state_answered ?d_search_answered ?d_answered ?d_call_at ?d_answers ?i_MOST_STREAMS ?i_FLOURS ?i_GREATEST_AMOUNT ?i_GREATEST_ASH ?i_GREATEST_PRICE ?i_FEED ?i_DESTINATIONS ?i_NO_BLENDER ?i_NOT_THERE ?i_OUTSIDE ?i_TOO_MANY ?i_EMPTY ?i_EXCEEDS ?i_FIRST_FLOUR ?i_CREATE ?b_len ?b_all ?b_sum ?b_zip ?b_range ?b_sorted ?b_enumerate ?b_tuple ?b_list ?ble ?des ?nof ?wli ?cnt
    (case d_new_mill => walk_at "fa_def")
    (case d_has_stream => walk_at "fa_def")
    (case d_are_amount_and_ash => walk_at "fa_def")
    (case d_replaced => walk_at "fa_def")
    (case d_without => walk_at "fa_def")
    (case d_with_streams => walk_at "fa_def")
    (case d_with_flour => walk_at "fa_def")
    (case d_with_feed_price => walk_at "fa_def")
    (case d_amounts_of => walk_at "fa_def")
    (case d_ashes_of => walk_at "fa_def")
    (case d_margin_of => walk_at "fa_def")
    (case d_is_feasible => walk_at "fa_def")
    (case d_revenue_of => walk_at "fa_def")
    (case d_fits => walk_at "fa_def")
    (case d_longer => walk_at "fa_def")
    (case d_all_assignments => walk_at "fa_def")
    (case d_feasible_ones => walk_at "fa_def")
    (case d_first_greatest => walk_at "fa_def")
    (case d_best_of => walk_at "fa_def")
    (case d_most_first_flour => walk_at "fa_def")
    (case d_add_stream => walk_at "fa_def")
    (case d_remove_stream => walk_at "fa_def")
    (case d_set_stream => walk_at "fa_def")
    (case d_set_flour => walk_at "fa_def")
    (case d_set_feed_price => walk_at "fa_def")
    (case d_set_assignment => walk_at "fa_def")
    (case d_move_stream => walk_at "fa_def")
    (case d_apply_best_assignment => walk_at "fa_def")
    (case d_greatest_divisor => walk_at "fa_def")
    (case d_lowest_terms => walk_at "fa_def")
    (case d_by_ash => walk_at "fa_def")
    (case d_split_total => walk_at "fa_def")
    (case d_get_stream => walk_at "fa_def")
    (case d_get_assignment => walk_at "fa_def")
    (case d_flour_quality => walk_at "fa_def")
    (case d_ash_margin => walk_at "fa_def")
    (case d_revenue => walk_at "fa_def")
    (case d_best_assignment => walk_at "fa_def")
    (case d_feasible_count => walk_at "fa_def")
    (case d_evaluate_assignment => walk_at "fa_def")
    (case d_max_first_flour => walk_at "fa_def")
    (case d_max_first_flour_split => walk_at "fa_def")
    (case d_best_revenue_for_limit => walk_at "fa_def")
    (case d_value_of_stream => walk_at "fa_def")
    (case d_best_revenue_for_price => walk_at "fa_def")
    (case d_create => walk_at "fa_def")
    (case d_change_answered => walk_at "fa_def")
    (case d_state_answered => walk_at "fa_def")
    (case d_search_answered => walk_at "fa_def")
    (case d_answered => walk_at "fa_def")
    (case d_call_at => walk_at "fa_def")
    (case d_answers => walk_at "fa_def")
    (case i_MOST_STREAMS => walk_at "fa_int")
    (case i_FLOURS => walk_at "fa_int")
    (case i_GREATEST_AMOUNT => walk_at "fa_int")
    (case i_GREATEST_ASH => walk_at "fa_int")
    (case i_GREATEST_PRICE => walk_at "fa_int")
    (case i_FEED => walk_at "fa_int")
    (case i_DESTINATIONS => walk_at "fa_int")
    (case i_NO_BLENDER => walk_at "fa_int")
    (case i_NOT_THERE => walk_at "fa_int")
    (case i_OUTSIDE => walk_at "fa_int")
    (case i_TOO_MANY => walk_at "fa_int")
    (case i_EMPTY => walk_at "fa_int")
    (case i_EXCEEDS => walk_at "fa_int")
    (case i_FIRST_FLOUR => walk_at "fa_int")
    (case i_CREATE => walk_at "fa_int")
    (case b_len => k_is)
    (case b_all => k_is)
    (case b_sum => k_is)
    (case b_zip => k_is)
    (case b_range => k_is)
    (case b_sorted => k_is)
    (case b_enumerate => k_is)
    (case b_tuple => k_is)
    (case b_list => k_is)
    (case ble => (refine' ⟨_, ⟨?c, ?nM, ?nA, ?ini, ?cha⟩⟩; (case c => walk_at "fa_cls"); (case nM => k_is); (case nA => k_is); (case ini => walk_at "fa_met"); (case cha => walk_at "fa_met")))
    (case des => (refine' ⟨_, ⟨?c, ?nB, ?ini, ?ans⟩⟩; (case c => walk_at "fa_cls"); (case nB => k_is); (case ini => walk_at "fa_met"); (case ans => walk_at "fa_met")))
    (case nof => (refine' Fa.nofX ?h ?l ?tb ?tc ?td; (case h => k_is); (case l => k_is); (case tb => walk_at "fa_tup"); (case tc => walk_at "fa_tup"); (case td => walk_at "fa_tup")))
    (case wli => (refine' Fa.wliX ?a ?b; (case a => k_is); (case b => walk_at "fa_tup")))
    (case cnt => (refine' Fa.cntX ?a ?l ?b ?c; (case a => k_is); (case l => k_is); (case b => decide +kernel); (case c => rfl)))
