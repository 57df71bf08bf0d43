import PyProof.Rows.All
import Wide.All
import OpenK.AllK
import Wide.FinOn
import HandS.ForMost
import HandS.ClsMeth
import HandS.Codes
import HandS.IsInst
import HandS.Star
import HandS.OwnEq
import HandS.Records
import HandS.Head0
import HandS.Head1
import HandS.Head2
import HandS.HeadEnd
import HandS.HeadHook1
import HandS.HeadHook2
import HandS.HeadNt
import KE.KStateDown
import PyProof.FactsAll.object_0
import HandS.OwnIter
import HandS.IterVal
import HandS.More
import HandS.ListItems
import KE.SortData
import HandS.DictComp
import HandS.TupSets
import HandS.SetFor
import HandS.Style
import HandS.TupLe
import HandS.NoneIn
import HandS.Conv
import HandS.Walk
import HandS.TupAny
import PySem.Challenge.RW_onethrow_k27_whole_pair_tables
set_option Elab.async false
section
set_option Elab.async false
set_option linter.all false
set_option maxRecDepth 100000
set_option maxHeartbeats 0
namespace OT
open PySem
def top (i : Nat) : Stmt := PySem.Challenge.pw_onethrow_k27_whole_pair_tables.main.body.getD i (.Pass ⟨0, 0, 0, 0⟩)
end OT
namespace OTH
open PySem PySem.W
abbrev top := OT.top
def fb : List (Frag → Bool) := [
  fun K => (He.Fa.cls "Ratio").ok K,
  fun K => (He.Fa.mkr "Ratio").ok K,
  fun K => (He.Fa.glo "Ratio").ok K,
  fun K => (He.Fa.cls "Order").ok K,
  fun K => (He.Fa.mkr "Order").ok K,
  fun K => (He.Fa.glo "Order").ok K,
  fun K => (He.Fa.cls "Chance").ok K,
  fun K => (He.Fa.mkr "Chance").ok K,
  fun K => (He.Fa.glo "Chance").ok K,
  fun K => (He.Fa.cls "Flow").ok K,
  fun K => (He.Fa.mkr "Flow").ok K,
  fun K => (He.Fa.glo "Flow").ok K,
  fun K => (He.Fa.noat "Ratio" "top").ok K,
  fun K => (He.Fa.noat "Ratio" "bottom").ok K,
  fun K => (He.Fa.noat "Order" "names").ok K,
  fun K => (He.Fa.noat "Order" "above").ok K,
  fun K => (He.Fa.noat "Chance" "shares").ok K,
  fun K => (He.Fa.noat "Flow" "order").ok K,
  fun K => (He.Fa.noat "Flow" "left").ok K,
  fun K => (He.Fa.noat "Flow" "room").ok K,
  fun K => (He.Fa.noat "Flow" "amounts").ok K,
  fun K => (He.Fa.meth "Ratio" "__add__").ok K,
  fun K => (He.Fa.meth "Ratio" "__sub__").ok K,
  fun K => (He.Fa.meth "Ratio" "__mul__").ok K,
  fun K => (He.Fa.meth "Ratio" "__eq__").ok K,
  fun K => (He.Fa.meth "Ratio" "__bool__").ok K,
  fun K => (He.Fa.meth "Ratio" "under").ok K,
  fun K => (He.Fa.meth "Order" "__contains__").ok K,
  fun K => (He.Fa.meth "Order" "__iter__").ok K,
  fun K => (He.Fa.meth "Order" "below").ok K,
  fun K => (He.Fa.meth "Chance" "__len__").ok K,
  fun K => (He.Fa.meth "Chance" "__iter__").ok K,
  fun K => (He.Fa.meth "Chance" "share").ok K,
  fun K => (He.Fa.meth "Flow" "amount").ok K,
  fun K => (He.Fa.meth "Flow" "way").ok K,
  fun K => (He.Fa.meth "Flow" "send").ok K,
  fun K => (He.Fa.glo "common").ok K,
  fun K => (He.Fa.glo "total").ok K,
  fun K => (He.Fa.glo "check_names_pairs").ok K,
  fun K => (He.Fa.glo "pair_table").ok K,
  fun K => (He.Fa.glo "is_pair_table").ok K,
  fun K => (He.Fa.glo "is_name").ok K,
  fun K => (He.Fa.glo "check_names_orders").ok K,
  fun K => (He.Fa.glo "check_pairs").ok K,
  fun K => (He.Fa.glo "closed").ok K,
  fun K => (He.Fa.glo "_law_pool").ok K,
  fun K => (He.Fa.glo "_law_take").ok K,
  fun K => (He.Fa.glo "_law_cell").ok K,
  fun K => (He.Fa.glo "_law_names").ok K,
  fun K => (He.Fa.glo "_law_pairs").ok K,
  fun K => (He.Fa.glo "_law_above").ok K,
  fun K => (He.Fa.glo "_law_covers").ok K,
  fun K => (He.Fa.glo "_law_weights").ok K,
  fun K => (He.Fa.glo "_law_raised").ok K,
  fun K => (He.Fa.glo "_law_ups").ok K,
  fun K => (He.Fa.glo "_law_mass").ok K,
  fun K => (He.Fa.glo "_law_barring").ok K,
  fun K => (He.Fa.glo "_law_sum").ok K,
  fun K => (He.Fa.glo "_law_adds").ok K,
  fun K => (He.Fa.glo "_law_is_table").ok K,
  fun K => (He.Fa.glo "_law_changed").ok K,
  fun K => (He.Fa.glo "_law_webs").ok K,
  fun K => (He.Fa.glo "_law_told_right").ok K,
  fun K => (He.Fa.glo "law").ok K,
  fun K => (He.Fa.free "len").ok K,
  fun K => (He.Fa.free "list").ok K,
  fun K => (He.Fa.free "sorted").ok K,
  fun K => (He.Fa.free "abs").ok K,
  fun K => (He.Fa.free "bool").ok K,
  fun K => (He.Fa.free "int").ok K,
  fun K => (He.Fa.free "sum").ok K,
  fun K => (He.Fa.free "all").ok K,
  fun K => (He.Fa.free "any").ok K,
  fun K => (He.Fa.free "range").ok K,
  fun K => (He.Fa.free "tuple").ok K,
  fun K => (He.Fa.free "dict").ok K,
  fun K => (He.Fa.free "set").ok K,
  fun K => (He.Fa.free "enumerate").ok K,
  fun K => (He.Fa.free "isinstance").ok K,
  fun K => (He.Fa.free "iter").ok K,
  fun K => (He.Fa.str "LETTERS" "abcdefghijklmnopqrstuvwxyz").ok K,
  fun K => (He.Fa.str "SIGNS" "abcdefghijklmnopqrstuvwxyz0123456789").ok K,
  fun K => (He.Fa.int "MOST_NAMES" 8).ok K,
  fun K => (He.Fa.int "MOST_LETTERS" 8).ok K,
  fun K => selfFirst K (He.ga K "Ratio"),
  fun K => He.eqO (findIn K (.ref (He.ga K "Ratio")) "__ne__") (some (some (.builtin "object.__ne__"))),
  fun K => decide (mroIn K (He.ga K "Ratio") (.type "object") = some true),
  fun K => He.eqO (findIn K (.ref (He.ga K "Ratio")) "__class__") (some (some (.builtin "object.__class__"))),
  fun K => He.eqO (specialIn K (.builtin "object.__class__") "__get__") (some (some (.builtin "getset_descriptor.__get__"))),
  fun K => decide (takesIn K (.builtin "object.__class__") = some true),
  fun K => He5.wrapB K (He.ga K "Ratio") "classmethod" "classmethod.__get__" "whole",
  fun K => readsIn K (He.ga K "Ratio") (.type "type"),
  fun K => He.eqO (specialIn K (.ref (He.ga K "Ratio")) "__getattribute__") (some (some (.builtin "type.__getattribute__"))),
  fun K => fnIn K (He5.wf K (He.ga K "Ratio") "classmethod" "whole")]
def dd (st : Stmt) (at_ : Frag → Addr) (n q : Str) : He5.DefA := ⟨at_, n, q, L2.defArgs st, L2.defBody st, L2.defScope st, [], []⟩
def fn : List He5.DefA := [
  dd (top 12) (fun K => He.ga K "common") "common" "common",
  dd (top 15) (fun K => He.ga K "total") "total" "total",
  dd (top 17) (fun K => He.ga K "check_names_pairs") "check_names" "check_names",
  dd (top 20) (fun K => He.ga K "pair_table") "pair_table" "pair_table",
  dd (top 21) (fun K => He.ga K "is_pair_table") "is_pair_table" "is_pair_table",
  dd (top 27) (fun K => He.ga K "is_name") "is_name" "is_name",
  dd (top 29) (fun K => He.ga K "check_names_orders") "check_names" "check_names",
  dd (top 31) (fun K => He.ga K "check_pairs") "check_pairs" "check_pairs",
  dd (top 32) (fun K => He.ga K "closed") "closed" "closed",
  dd (top 43) (fun K => He.ga K "_law_pool") "_law_pool" "_law_pool",
  dd (top 44) (fun K => He.ga K "_law_take") "_law_take" "_law_take",
  dd (top 45) (fun K => He.ga K "_law_cell") "_law_cell" "_law_cell",
  dd (top 46) (fun K => He.ga K "_law_names") "_law_names" "_law_names",
  dd (top 47) (fun K => He.ga K "_law_pairs") "_law_pairs" "_law_pairs",
  dd (top 48) (fun K => He.ga K "_law_above") "_law_above" "_law_above",
  dd (top 49) (fun K => He.ga K "_law_covers") "_law_covers" "_law_covers",
  dd (top 50) (fun K => He.ga K "_law_weights") "_law_weights" "_law_weights",
  dd (top 51) (fun K => He.ga K "_law_raised") "_law_raised" "_law_raised",
  dd (top 52) (fun K => He.ga K "_law_ups") "_law_ups" "_law_ups",
  dd (top 53) (fun K => He.ga K "_law_mass") "_law_mass" "_law_mass",
  dd (top 54) (fun K => He.ga K "_law_barring") "_law_barring" "_law_barring",
  dd (top 55) (fun K => He.ga K "_law_sum") "_law_sum" "_law_sum",
  dd (top 56) (fun K => He.ga K "_law_adds") "_law_adds" "_law_adds",
  dd (top 57) (fun K => He.ga K "_law_is_table") "_law_is_table" "_law_is_table",
  dd (top 58) (fun K => He.ga K "_law_changed") "_law_changed" "_law_changed",
  dd (top 59) (fun K => He.ga K "_law_webs") "_law_webs" "_law_webs",
  dd (top 60) (fun K => He.ga K "_law_told_right") "_law_told_right" "_law_told_right",
  dd (top 61) (fun K => He.ga K "law") "law" "law",
  dd (L2.inClass (top 14) 3) (fun K => He.ma K (He.ga K "Ratio") "__add__") "__add__" "Ratio.__add__",
  dd (L2.inClass (top 14) 4) (fun K => He.ma K (He.ga K "Ratio") "__sub__") "__sub__" "Ratio.__sub__",
  dd (L2.inClass (top 14) 6) (fun K => He.ma K (He.ga K "Ratio") "__mul__") "__mul__" "Ratio.__mul__",
  dd (L2.inClass (top 14) 7) (fun K => He.ma K (He.ga K "Ratio") "__eq__") "__eq__" "Ratio.__eq__",
  dd (L2.inClass (top 14) 8) (fun K => He.ma K (He.ga K "Ratio") "__bool__") "__bool__" "Ratio.__bool__",
  dd (L2.inClass (top 14) 11) (fun K => He.ma K (He.ga K "Ratio") "under") "under" "Ratio.under",
  dd (L2.inClass (top 34) 4) (fun K => He.ma K (He.ga K "Order") "__contains__") "__contains__" "Order.__contains__",
  dd (L2.inClass (top 34) 5) (fun K => He.ma K (He.ga K "Order") "__iter__") "__iter__" "Order.__iter__",
  dd (L2.inClass (top 34) 9) (fun K => He.ma K (He.ga K "Order") "below") "below" "Order.below",
  dd (L2.inClass (top 40) 4) (fun K => He.ma K (He.ga K "Chance") "__len__") "__len__" "Chance.__len__",
  dd (L2.inClass (top 40) 5) (fun K => He.ma K (He.ga K "Chance") "__iter__") "__iter__" "Chance.__iter__",
  dd (L2.inClass (top 40) 9) (fun K => He.ma K (He.ga K "Chance") "share") "share" "Chance.share",
  dd (L2.inClass (top 19) 1) (fun K => He.ma K (He.ga K "Flow") "amount") "amount" "Flow.amount",
  dd (L2.inClass (top 19) 2) (fun K => He.ma K (He.ga K "Flow") "way") "way" "Flow.way",
  dd (L2.inClass (top 19) 3) (fun K => He.ma K (He.ga K "Flow") "send") "send" "Flow.send",
  dd (L2.inClass (top 14) 0) (fun K => He.ma K (He.ga K "Ratio") "__init__") "__init__" "Ratio.__init__",
  dd (L2.inClass (top 34) 0) (fun K => He.ma K (He.ga K "Order") "__init__") "__init__" "Order.__init__",
  dd (L2.inClass (top 40) 0) (fun K => He.ma K (He.ga K "Chance") "__init__") "__init__" "Chance.__init__",
  dd (L2.inClass (top 19) 0) (fun K => He.ma K (He.ga K "Flow") "__init__") "__init__" "Flow.__init__",
  dd (L2.inClass (top 14) 1) (fun K => He5.wf K (He.ga K "Ratio") "classmethod" "whole") "whole" "Ratio.whole"]
def obsB (fb : List (Frag → Bool)) (fn : List He5.DefA) (K : Frag) : He.AlD := ((fb.all fun f => f K) && fn.all fun d => d.ok K, fn.map fun d => He5.fnA K (d.at_ K))
def SaysB (fb : List (Frag → Bool)) (fn : List He5.DefA) (K : Frag) : Prop := obsB fb fn K = He5.valA fn
/-- the globals' values, then all that the four classes name, four steps deep -/
def step1 (g : Addr → Option Obj) (as : List Addr) : List Addr := (as.flatMap fun a => match g a with
  | some o => He.refsD o
  | none => []).eraseDups
/-- the functions' codes -/
def codesOf (g : Addr → Option Obj) (as : List Addr) : List Addr := (as.flatMap fun a => match g a with
  | some o => (match o.data with
    | .func fd => He.refV fd.code ++ He.refV fd.defaults
    | _ => [])
  | none => []).eraseDups
def asZ (g : Addr → Option Obj) : List Addr :=
  let a1 := step1 g [PySem.mainGlobals]
  let cs : List Addr := (["Ratio", "Order", "Chance", "Flow"] : List Str).map (He.ga (He.frG g [PySem.mainGlobals]))
  let a2 := step1 g cs
  let a3 := step1 g a2
  let a4 := step1 g a3
  [PySem.mainGlobals] ++ a1 ++ codesOf g a1 ++ a2 ++ a3 ++ a4 ++ codesOf g a4 ++ [PySem.cStatics]
def obsBG (fb : List (Frag → Bool)) (fn : List He5.DefA) (g : Addr → Option Obj) : He.AlD := obsB fb fn (He.frG g (asZ g))
def hookB (fb : List (Frag → Bool)) (fn : List He5.DefA) : PySem.W.Hook where
  α := He.AlD
  obs := fun s => obsBG fb fn s.heap.get?
  val := fun _ => He5.valA fn
  says := fun _ h => ∃ K : Frag, K.In h ∧ SaysB fb fn K
  of := fun _ _ e => ⟨_, He.frG_in, e⟩
  keeps := fun _ _ _ ⟨K, hK, c⟩ k => ⟨K, Frag.In.keeps hK k, c⟩
abbrev R : PySem.W.OpenRow := PySem.W.OpenLaw.row PySem.Challenge.rw_onethrow_k27_whole_pair_tables
abbrev hk : PySem.W.Hook := hookB fb fn
def ob (s : PySem.W.SharedT) : He.AlD := obsBG fb fn (HandSHeadRun.getT s)
theorem ob_eq (s : PySem.W.SharedT) : ob s = hk.obs s.abs := by
  have e : HandSHeadRun.getT s = s.abs.heap.get? := funext (HandSHeadRun.getT_eq s)
  show obsBG fb fn (HandSHeadRun.getT s) = obsBG fb fn s.abs.heap.get?
  rw [e]
def n1 : List Str := ["_wall", "ThrowError", "BadNumber", "BadText", "BadName", "DuplicateName", "UnknownName", "Ring", "BadShares", "MOST_DIGITS", "common", "is_integer", "Ratio", "total", "check_names", "check_names_pairs", "Flow", "pair_table", "is_pair_table", "LETTERS", "SIGNS", "MOST_NAMES", "MOST_LETTERS", "is_name", "is_word"]
def n2 : List Str := ["check_names_orders", "check_pairs", "closed", "up_rank", "Order", "strict_pairs", "cover_pairs", "is_weight", "word_fault", "Chance", "unit_of", "_law_pool", "_law_take", "_law_cell", "_law_names", "_law_pairs", "_law_above", "_law_covers", "_law_weights", "_law_raised", "_law_ups", "_law_mass", "_law_barring", "_law_sum", "_law_adds", "_law_is_table", "_law_changed", "_law_webs", "_law_told_right"]
def names : List Str := n1 ++ n2
theorem run (w : World) : HandSHeadRun.RunEq R (PySem.W.view R.prog [61]) hk ob 8000 names w := by
  intro os
  kernel_rfl
end OTH
end

section
set_option autoImplicit false
/-! Ratios as rational numbers: what the class's arithmetic gives, and how large its numbers are. -/
namespace OT

theorem rat_add (q r : Rat) : Rat.divInt (q.num * (r.den : Int) + r.num * (q.den : Int)) ((q.den : Int) * (r.den : Int)) = q + r := by
  have h1 : (q.den : Int) ≠ 0 := by have := q.den_nz; omega
  have h2 : (r.den : Int) ≠ 0 := by have := r.den_nz; omega
  rw [← Rat.divInt_add_divInt _ _ h1 h2, Rat.num_divInt_den, Rat.num_divInt_den]
theorem rat_sub (q r : Rat) : Rat.divInt (q.num * (r.den : Int) - r.num * (q.den : Int)) ((q.den : Int) * (r.den : Int)) = q - r := by
  have h := rat_add q (-r)
  rw [Rat.neg_num, Rat.neg_den] at h
  have e : q.num * (r.den : Int) - r.num * (q.den : Int) = q.num * (r.den : Int) + -r.num * (q.den : Int) := by
    rw [Int.neg_mul, Int.sub_eq_add_neg]
  rw [e, h, Rat.sub_eq_add_neg]
theorem rat_mul (q r : Rat) : Rat.divInt (q.num * r.num) ((q.den : Int) * (r.den : Int)) = q * r := by
  rw [← Rat.divInt_mul_divInt, Rat.num_divInt_den, Rat.num_divInt_den]
theorem rat_under (q r : Rat) : (decide (q.num * (r.den : Int) < r.num * (q.den : Int))) = decide (q < r) := by
  by_cases h : q < r
  · rw [decide_eq_true h, decide_eq_true ((Rat.lt_iff q r).mp h)]
  · rw [decide_eq_false h, decide_eq_false (fun z => h ((Rat.lt_iff q r).mpr z))]
theorem rat_eq (q r : Rat) : (decide (q.num = r.num) && decide ((q.den : Int) = (r.den : Int))) = decide (q = r) := by
  by_cases h : q = r
  · subst h
    simp
  · rw [decide_eq_false h]
    by_cases h1 : q.num = r.num
    · by_cases h2 : (q.den : Int) = (r.den : Int)
      · exact absurd (Rat.ext h1 (by omega)) h
      · rw [decide_eq_false h2, Bool.and_false]
    · rw [decide_eq_false h1, Bool.false_and]
theorem rat_bool (q : Rat) : (q.num != 0) = decide (q ≠ 0) := by
  by_cases h : q = 0
  · subst h
    rfl
  · have : q.num ≠ 0 := fun z => h (Rat.num_eq_zero.mp z)
    rw [decide_eq_true h]
    exact bne_iff_ne.mpr this

/-- lowest terms by the greatest common divisor -/
theorem num_of (a b : Int) (hb : 0 < b) : a / ((Int.gcd a b : Nat) : Int) = (Rat.divInt a b).num := by
  rw [Rat.num_divInt, Int.sign_eq_one_of_pos hb, Int.one_mul, Int.gcd_comm]
theorem den_of (a b : Int) (hb : 0 < b) : b / ((Int.gcd a b : Nat) : Int) = ((Rat.divInt a b).den : Int) := by
  rw [Rat.den_divInt, if_neg (by omega), Int.gcd_comm]
  have e : b = (b.natAbs : Int) := by omega
  conv => lhs; lhs; rw [e]
  omega

/-- a multiple of 1 / M -/
def Frac (M : Nat) (q : Rat) : Prop := ∃ z : Int, q * (M : Rat) = (z : Rat)
theorem Frac.zero (M : Nat) : Frac M 0 := ⟨0, by grind⟩
theorem Frac.int (M : Nat) (n : Int) : Frac M (n : Rat) := ⟨n * M, by rw [Rat.intCast_mul]; rfl⟩
theorem Frac.add {M : Nat} {q r : Rat} (h : Frac M q) (g : Frac M r) : Frac M (q + r) := by
  obtain ⟨a, ha⟩ := h
  obtain ⟨b, hb⟩ := g
  exact ⟨a + b, by rw [Rat.intCast_add]; grind⟩
theorem Frac.sub {M : Nat} {q r : Rat} (h : Frac M q) (g : Frac M r) : Frac M (q - r) := by
  obtain ⟨a, ha⟩ := h
  obtain ⟨b, hb⟩ := g
  exact ⟨a - b, by rw [Rat.intCast_sub]; grind⟩
theorem Frac.mono {M N : Nat} {q : Rat} (h : Frac M q) (k : Nat) (e : N = M * k) : Frac N q := by
  obtain ⟨a, ha⟩ := h
  refine ⟨a * k, ?_⟩
  have e2 : ((M * k : Nat) : Rat) = (M : Rat) * (k : Rat) := Rat.natCast_mul M k
  rw [e, e2, Rat.intCast_mul]
  have : (((k : Nat) : Int) : Rat) = (k : Rat) := rfl
  grind
theorem Frac.den {M : Nat} {q : Rat} (hM : 0 < M) (h : Frac M q) : q.den ≤ M := by
  obtain ⟨z, hz⟩ := h
  have e : q = Rat.divInt z (M : Int) := by
    rw [Rat.divInt_eq_div]
    have : ((M : Int) : Rat) ≠ 0 := by
      intro h0
      have : (M : Int) = 0 := Rat.intCast_inj.mp (by rw [h0]; rfl)
      omega
    have e2 : ((M : Int) : Rat) = (M : Rat) := rfl
    rw [e2] at this ⊢
    rw [← hz]
    grind
  rw [e, Rat.den_divInt, if_neg (by omega)]
  refine Nat.le_trans (Nat.div_le_self _ _) ?_
  omega
theorem frac_div {M : Nat} (hM : 0 < M) (z : Int) : Frac M ((z : Rat) / (M : Rat)) := by
  refine ⟨z, ?_⟩
  have : (M : Rat) ≠ 0 := by
    intro h0
    have h1 : ((M : Int) : Rat) = ((0 : Int) : Rat) := by
      have e2 : ((M : Int) : Rat) = (M : Rat) := rfl
      rw [e2, h0]; rfl
    have := Rat.intCast_inj.mp h1
    omega
  grind
end OT
end

section
set_option autoImplicit false
/-! Finite orders: reachability, Warshall's closure, the law's rounds, covers. -/
namespace OT
section
variable {α : Type}

/-- from x one comes to y by the pairs -/
inductive Reach (ps : List (α × α)) : α → α → Prop where
  | refl (x : α) : Reach ps x x
  | step {x y z : α} : (x, y) ∈ ps → Reach ps y z → Reach ps x z
theorem Reach.trans {ps : List (α × α)} {x y z : α} (h : Reach ps x y) (g : Reach ps y z) : Reach ps x z := by
  induction h with
  | refl _ => exact g
  | step e _ ih => exact .step e (ih g)
theorem Reach.one {ps : List (α × α)} {x y : α} (h : (x, y) ∈ ps) : Reach ps x y := .step h (.refl y)
theorem Reach.least {ps : List (α × α)} {S : α → α → Prop} (hr : ∀ x, S x x) (ht : ∀ x y z, (x, y) ∈ ps → S y z → S x z) {x y : α} (h : Reach ps x y) : S x y := by
  induction h with
  | refl x => exact hr x
  | step e _ ih => exact ht _ _ _ e ih

/-! ### Warshall -/
def wstep (S : α → α → Prop) (m : α) : α → α → Prop := fun x y => S x y ∨ (S x m ∧ S m y)
def wars (S : α → α → Prop) (l : List α) : α → α → Prop := l.foldl wstep S
theorem wars_nil (S : α → α → Prop) : wars S [] = S := rfl
theorem wars_cons (S : α → α → Prop) (m : α) (l : List α) : wars S (m :: l) = wars (wstep S m) l := rfl
theorem wars_snoc (S : α → α → Prop) (l : List α) (m : α) : wars S (l ++ [m]) = wstep (wars S l) m := by
  unfold wars
  rw [List.foldl_append]
  rfl
theorem wars_up {l : List α} : ∀ {S : α → α → Prop} {x y : α}, S x y → wars S l x y := by
  induction l with
  | nil => intro S x y h; exact h
  | cons m l ih => intro S x y h; exact ih (.inl h)
theorem wars_in {ps : List (α × α)} {l : List α} : ∀ {S : α → α → Prop}, (∀ x y, S x y → Reach ps x y) → ∀ {x y : α}, wars S l x y → Reach ps x y := by
  induction l with
  | nil => intro S h x y q; exact h _ _ q
  | cons m l ih =>
    intro S h x y q
    refine ih (S := wstep S m) (fun a b z => ?_) q
    rcases z with z | ⟨z1, z2⟩
    · exact h _ _ z
    · exact (h _ _ z1).trans (h _ _ z2)
theorem wstep_thru {S : α → α → Prop} {P : α → Prop} {m : α} (h : ∀ a, P a → ∀ x y, S x a → S a y → S x y) : ∀ a, (P a ∨ a = m) → ∀ x y, wstep S m x a → wstep S m a y → wstep S m x y := by
  intro a ha x y h1 h2
  rcases ha with ha | rfl
  · rcases h1 with h1 | ⟨h1, h1'⟩
    · rcases h2 with h2 | ⟨h2, h2'⟩
      · exact .inl (h a ha _ _ h1 h2)
      · exact .inr ⟨h a ha _ _ h1 h2, h2'⟩
    · rcases h2 with h2 | ⟨_, h2'⟩
      · exact .inr ⟨h1, h a ha _ _ h1' h2⟩
      · exact .inr ⟨h1, h2'⟩
  · rcases h1 with h1 | ⟨h1, _⟩
    · rcases h2 with h2 | ⟨_, h2'⟩
      · exact .inr ⟨h1, h2⟩
      · exact .inr ⟨h1, h2'⟩
    · rcases h2 with h2 | ⟨_, h2'⟩
      · exact .inr ⟨h1, h2⟩
      · exact .inr ⟨h1, h2'⟩
theorem wars_thru {l : List α} : ∀ {S : α → α → Prop} {P : α → Prop}, (∀ a, P a → ∀ x y, S x a → S a y → S x y) → ∀ a, (P a ∨ a ∈ l) → ∀ x y, wars S l x a → wars S l a y → wars S l x y := by
  induction l with
  | nil =>
    intro S P h a ha x y h1 h2
    rcases ha with ha | ha
    · exact h a ha _ _ h1 h2
    · cases ha
  | cons m l ih =>
    intro S P h a ha x y h1 h2
    refine ih (S := wstep S m) (P := fun a => P a ∨ a = m) (wstep_thru h) a ?_ x y h1 h2
    rcases ha with ha | ha
    · exact .inl (.inl ha)
    · rcases List.mem_cons.mp ha with e | e
      · exact .inl (.inr e)
      · exact .inr e
/-- the closure, as the program's rounds make it -/
theorem wars_reach {ps : List (α × α)} {l : List α} {S : α → α → Prop} (h0 : ∀ x y, S x y ↔ x = y ∨ (x, y) ∈ ps) (hp : ∀ x y, (x, y) ∈ ps → y ∈ l) (x y : α) : wars S l x y ↔ Reach ps x y := by
  constructor
  · intro h
    refine wars_in (fun a b z => ?_) h
    rcases (h0 a b).mp z with z | z
    · subst z; exact .refl a
    · exact .one z
  · intro h
    refine Reach.least (fun x => wars_up ((h0 x x).mpr (.inl rfl))) (fun x y z e q => ?_) h
    exact wars_thru (P := fun _ => False) (fun a ha => ha.elim) y (.inr (hp x y e)) x z (wars_up ((h0 x y).mpr (.inr e))) q

/-! ### the law's rounds -/
/-- the row of lo takes in that of hi -/
def rstep (S : α → α → Prop) (p : α × α) : α → α → Prop := fun x y => S x y ∨ (x = p.1 ∧ S p.2 y)
def rnd (S : α → α → Prop) (ps : List (α × α)) : α → α → Prop := ps.foldl rstep S
theorem rnd_snoc (S : α → α → Prop) (l : List (α × α)) (p : α × α) : rnd S (l ++ [p]) = rstep (rnd S l) p := by
  unfold rnd
  rw [List.foldl_append]
  rfl
theorem rnd_up {l : List (α × α)} : ∀ {S : α → α → Prop} {x y : α}, S x y → rnd S l x y := by
  induction l with
  | nil => intro S x y h; exact h
  | cons m l ih => intro S x y h; exact ih (S := rstep S m) (.inl h)
theorem rnd_takes {l : List (α × α)} : ∀ {S : α → α → Prop} {x y z : α}, (x, y) ∈ l → S y z → rnd S l x z := by
  induction l with
  | nil => intro S x y z h; cases h
  | cons m l ih =>
    intro S x y z h q
    rcases List.mem_cons.mp h with e | e
    · subst e
      exact rnd_up (S := rstep S (x, y)) (.inr ⟨rfl, q⟩)
    · exact ih (S := rstep S m) e (.inl q)
theorem rnd_in {ps l : List (α × α)} (hl : ∀ p ∈ l, p ∈ ps) : ∀ {S : α → α → Prop}, (∀ x y, S x y → Reach ps x y) → ∀ {x y : α}, rnd S l x y → Reach ps x y := by
  induction l with
  | nil => intro S h x y q; exact h _ _ q
  | cons m l ih =>
    intro S h x y q
    refine ih (fun p hp => hl p (List.mem_cons_of_mem _ hp)) (S := rstep S m) (fun a b z => ?_) q
    rcases z with z | ⟨rfl, z⟩
    · exact h _ _ z
    · exact .step (hl m List.mem_cons_self) (h _ _ z)
def rnds (S : α → α → Prop) (ps : List (α × α)) : Nat → α → α → Prop
  | 0 => S
  | k + 1 => rnd (rnds S ps k) ps
theorem rnds_in {ps : List (α × α)} {S : α → α → Prop} (h : ∀ x y, S x y → Reach ps x y) : ∀ (k : Nat) {x y : α}, rnds S ps k x y → Reach ps x y
  | 0, _, _, q => h _ _ q
  | k + 1, _, _, q => rnd_in (fun _ z => z) (fun _ _ z => rnds_in h k z) q
theorem reach_idx {ps : List (α × α)} {ix : α → Nat} (hi : ∀ x y, (x, y) ∈ ps → ix x < ix y) {x y : α} (h : Reach ps x y) : x = y ∨ ix x < ix y := by
  induction h with
  | refl x => exact .inl rfl
  | step e _ ih =>
    have := hi _ _ e
    rcases ih with rfl | ih
    · exact .inr this
    · exact .inr (by omega)
theorem rnds_has {ps : List (α × α)} {S : α → α → Prop} {ix : α → Nat} (hs : ∀ x, S x x) (hi : ∀ x y, (x, y) ∈ ps → ix x < ix y) : ∀ (k : Nat) {x y : α}, Reach ps x y → ix y ≤ ix x + k → rnds S ps k x y
  | 0, x, y, h, hk => by
    rcases reach_idx hi h with e | e
    · subst e; exact hs x
    · omega
  | k + 1, x, y, h, hk => by
    cases h with
    | refl _ => exact rnd_up (rnds_has hs hi k (.refl x) (by omega))
    | step e q =>
      have := hi _ _ e
      exact rnd_takes e (rnds_has hs hi k q (by omega))
/-- after as many rounds as there are names, the rounds have all -/
theorem rnds_reach {ps : List (α × α)} {S : α → α → Prop} {ix : α → Nat} {n : Nat} (hs : ∀ x y, S x y ↔ x = y) (hi : ∀ x y, (x, y) ∈ ps → ix x < ix y) (hn : ∀ x y, (x, y) ∈ ps → ix y < n) (x y : α) : rnds S ps n x y ↔ Reach ps x y := by
  constructor
  · intro h
    refine rnds_in (fun a b z => ?_) n h
    cases (hs a b).mp z
    exact .refl a
  · intro h
    by_cases e : ix y ≤ ix x + n
    · exact rnds_has (fun x => (hs x x).mpr rfl) hi n h e
    · exfalso
      have key : ∀ {a b : α}, Reach ps a b → a = b ∨ ix b < n := by
        intro a b q
        induction q with
        | refl _ => exact .inl rfl
        | step e q ih =>
          rcases ih with rfl | ih
          · exact .inr (hn _ _ e)
          · exact .inr ih
      rcases key h with rfl | q
      · omega
      · omega

/-! ### orders on a list of names -/
structure PO (ns : List α) (R : α → α → Bool) : Prop where
  mem : ∀ x y, R x y = true → x ∈ ns ∧ y ∈ ns
  refl : ∀ x, x ∈ ns → R x x = true
  trans : ∀ x y z, R x y = true → R y z = true → R x z = true
  anti : ∀ x y, R x y = true → R y x = true → x = y
theorem PO.turned {ns : List α} {R : α → α → Bool} (h : PO ns R) : PO ns (fun x y => R y x) :=
  ⟨fun x y z => (h.mem y x z).symm, h.refl, fun x y z a b => h.trans z y x b a, fun x y a b => h.anti x y b a⟩
theorem PO.flat [DecidableEq α] {ns : List α} : PO ns (fun x y => decide (x = y ∧ x ∈ ns)) :=
  ⟨fun x y z => by
    obtain ⟨e, m⟩ := of_decide_eq_true z
    exact ⟨m, e ▸ m⟩, fun x m => decide_eq_true ⟨rfl, m⟩, fun x y z a b => by
    obtain ⟨e, m⟩ := of_decide_eq_true a
    obtain ⟨e', _⟩ := of_decide_eq_true b
    exact decide_eq_true ⟨e.trans e', m⟩, fun x y a _ => (of_decide_eq_true a).1⟩
/-- x is covered by y -/
def Cov (ns : List α) (R : α → α → Bool) (x y : α) : Prop := x ≠ y ∧ R x y = true ∧ ∀ z ∈ ns, R x z = true → R z y = true → z = x ∨ z = y

theorem filter_lt {p q : α → Bool} : ∀ {l : List α}, (∀ x ∈ l, p x = true → q x = true) → (∃ x ∈ l, q x = true ∧ p x = false) → (l.filter p).length < (l.filter q).length
  | [], _, h => by obtain ⟨x, hx, _⟩ := h; cases hx
  | a :: l, hpq, h => by
    have le : ∀ {l : List α}, (∀ x ∈ l, p x = true → q x = true) → (l.filter p).length ≤ (l.filter q).length := by
      intro l
      induction l with
      | nil => intro _; exact Nat.le_refl _
      | cons b l ih =>
        intro hb
        have := ih fun x hx => hb x (List.mem_cons_of_mem _ hx)
        rw [List.filter_cons, List.filter_cons]
        by_cases e : p b = true
        · rw [if_pos e, if_pos (hb b List.mem_cons_self e), List.length_cons, List.length_cons]; omega
        · rw [if_neg e]
          split
          · rw [List.length_cons]; omega
          · exact this
    have hl := fun x hx => hpq x (List.mem_cons_of_mem a hx)
    rw [List.filter_cons, List.filter_cons]
    by_cases e : p a = true
    · rw [if_pos e, if_pos (hpq a List.mem_cons_self e), List.length_cons, List.length_cons]
      have : (l.filter p).length < (l.filter q).length := by
        refine filter_lt hl ?_
        obtain ⟨x, hx, h1, h2⟩ := h
        rcases List.mem_cons.mp hx with rfl | hx
        · rw [e] at h2; cases h2
        · exact ⟨x, hx, h1, h2⟩
      omega
    · rw [if_neg e]
      by_cases e2 : q a = true
      · rw [if_pos e2, List.length_cons]
        have := le hl
        omega
      · rw [if_neg e2]
        refine filter_lt hl ?_
        obtain ⟨x, hx, h1, h2⟩ := h
        rcases List.mem_cons.mp hx with rfl | hx
        · exact absurd h1 e2
        · exact ⟨x, hx, h1, h2⟩
/-- the covers determine the order -/
theorem cov_reach {ns : List α} {R : α → α → Bool} {ps : List (α × α)} (h : PO ns R) (hp : ∀ x y, Cov ns R x y → (x, y) ∈ ps) : ∀ (k : Nat) (x y : α), (ns.filter fun z => R x z && R z y).length ≤ k → R x y = true → Reach ps x y := by
  intro k
  induction k with
  | zero =>
    intro x y hk hxy
    exfalso
    have hm : x ∈ ns.filter fun z => R x z && R z y := List.mem_filter.mpr ⟨(h.mem x y hxy).1, by rw [h.refl x (h.mem x y hxy).1, hxy]; rfl⟩
    have := List.length_pos_of_mem hm
    omega
  | succ k ih =>
    intro x y hk hxy
    by_cases e : x = y
    · subst e; exact .refl x
    · by_cases c : ∀ z ∈ ns, R x z = true → R z y = true → z = x ∨ z = y
      · exact .one (hp x y ⟨e, hxy, c⟩)
      · obtain ⟨z, hz⟩ := Classical.not_forall.mp c
        obtain ⟨m, hz⟩ := Classical.not_imp.mp hz
        obtain ⟨h1, hz⟩ := Classical.not_imp.mp hz
        obtain ⟨h2, hz⟩ := Classical.not_imp.mp hz
        have n1 : z ≠ x := fun e => hz (.inl e)
        have n2 : z ≠ y := fun e => hz (.inr e)
        have l1 : (ns.filter fun w => R x w && R w z).length < (ns.filter fun w => R x w && R w y).length := by
          refine filter_lt (fun w _ q => ?_) ⟨y, (h.mem x y hxy).2, ?_, ?_⟩
          · obtain ⟨q1, q2⟩ := Bool.and_eq_true_iff.mp q
            rw [q1, h.trans w z y q2 h2]; rfl
          · rw [hxy, h.refl y (h.mem x y hxy).2]; rfl
          · cases q : R y z with
            | false => rw [Bool.and_false]
            | true => exact absurd (h.anti z y h2 q) n2
        have l2 : (ns.filter fun w => R z w && R w y).length < (ns.filter fun w => R x w && R w y).length := by
          refine filter_lt (fun w _ q => ?_) ⟨x, (h.mem x y hxy).1, ?_, ?_⟩
          · obtain ⟨q1, q2⟩ := Bool.and_eq_true_iff.mp q
            rw [h.trans x z w h1 q1, q2]; rfl
          · rw [h.refl x (h.mem x y hxy).1, hxy]; rfl
          · cases q : R z x with
            | false => rfl
            | true => exact absurd (h.anti z x q h1) n1
        exact (ih x z (by omega) h1).trans (ih z y (by omega) h2)
theorem covers_reach {ns : List α} {R : α → α → Bool} {ps : List (α × α)} (h : PO ns R) (hp : ∀ x y, (x, y) ∈ ps ↔ Cov ns R x y) (x y : α) (hx : x ∈ ns) : Reach ps x y ↔ R x y = true := by
  constructor
  · intro q
    have key : ∀ {a b : α}, Reach ps a b → a ∈ ns → R a b = true := by
      intro a b q
      induction q with
      | refl a => exact fun m => h.refl a m
      | step e _ ih =>
        intro _
        have c := ((hp _ _).mp e).2.1
        exact h.trans _ _ _ c (ih (h.mem _ _ c).2)
    exact key q hx
  · exact cov_reach h (fun a b c => (hp a b).mpr c) _ x y (Nat.le_refl _)
end
end OT
end

section
set_option autoImplicit false
set_option linter.all false
/-! The flow from one chance to another: sums, a way's sending, what stands when no way is left. -/
namespace OT
section
variable {α β : Type}
def sumL (l : List α) (f : α → Int) : Int := (l.map f).sum
theorem sumL_nil (f : α → Int) : sumL [] f = 0 := rfl
theorem sumL_cons (a : α) (l : List α) (f : α → Int) : sumL (a :: l) f = f a + sumL l f := by
  unfold sumL
  rw [List.map_cons, List.sum_cons]
theorem sumL_append (l k : List α) (f : α → Int) : sumL (l ++ k) f = sumL l f + sumL k f := by
  induction l with
  | nil => rw [List.nil_append, sumL_nil]; omega
  | cons a l ih => rw [List.cons_append, sumL_cons, sumL_cons, ih]; omega
theorem sumL_add (l : List α) (f g : α → Int) : sumL l (fun x => f x + g x) = sumL l f + sumL l g := by
  induction l with
  | nil => rfl
  | cons a l ih => rw [sumL_cons, sumL_cons, sumL_cons, ih]; omega
theorem sumL_sub (l : List α) (f g : α → Int) : sumL l (fun x => f x - g x) = sumL l f - sumL l g := by
  induction l with
  | nil => rfl
  | cons a l ih => rw [sumL_cons, sumL_cons, sumL_cons, ih]; omega
theorem sumL_mul (l : List α) (c : Int) (f : α → Int) : sumL l (fun x => c * f x) = c * sumL l f := by
  induction l with
  | nil => rw [sumL_nil, sumL_nil, Int.mul_zero]
  | cons a l ih => rw [sumL_cons, sumL_cons, ih, Int.mul_add]
theorem sumL_congr {l : List α} {f g : α → Int} (h : ∀ x ∈ l, f x = g x) : sumL l f = sumL l g := by
  induction l with
  | nil => rfl
  | cons a l ih => rw [sumL_cons, sumL_cons, h a List.mem_cons_self, ih fun x hx => h x (List.mem_cons_of_mem _ hx)]
theorem sumL_le {l : List α} {f g : α → Int} (h : ∀ x ∈ l, f x ≤ g x) : sumL l f ≤ sumL l g := by
  induction l with
  | nil => exact Int.le_refl _
  | cons a l ih =>
    rw [sumL_cons, sumL_cons]
    have := h a List.mem_cons_self
    have := ih fun x hx => h x (List.mem_cons_of_mem _ hx)
    omega
theorem sumL_zero {l : List α} {f : α → Int} (h : ∀ x ∈ l, f x = 0) : sumL l f = 0 := by
  rw [sumL_congr (g := fun _ => 0) h]
  induction l with
  | nil => rfl
  | cons a l ih => rw [sumL_cons, ih fun x hx => h x (List.mem_cons_of_mem _ hx)]; omega
theorem sumL_nn {l : List α} {f : α → Int} (h : ∀ x ∈ l, 0 ≤ f x) : 0 ≤ sumL l f := by
  have := sumL_le (f := fun _ => 0) (g := f) h
  rw [sumL_zero (f := fun _ => 0) fun _ _ => rfl] at this
  exact this
theorem sumL_pos {l : List α} {f : α → Int} (h : ∀ x ∈ l, 0 ≤ f x) (hs : sumL l f ≠ 0) : ∃ x ∈ l, 0 < f x := by
  induction l with
  | nil => exact absurd rfl hs
  | cons a l ih =>
    by_cases e : 0 < f a
    · exact ⟨a, List.mem_cons_self, e⟩
    · have h0 := h a List.mem_cons_self
      have e0 : f a = 0 := by omega
      rw [sumL_cons, e0, Int.zero_add] at hs
      obtain ⟨x, hx, q⟩ := ih (fun x hx => h x (List.mem_cons_of_mem _ hx)) hs
      exact ⟨x, List.mem_cons_of_mem _ hx, q⟩
theorem sumL_all0 {l : List α} {f : α → Int} (h : ∀ x ∈ l, 0 ≤ f x) (hs : sumL l f = 0) : ∀ x ∈ l, f x = 0 := by
  induction l with
  | nil => intro x hx; cases hx
  | cons a l ih =>
    have h0 := h a List.mem_cons_self
    have h1 := sumL_nn (l := l) fun x hx => h x (List.mem_cons_of_mem a hx)
    rw [sumL_cons] at hs
    intro x hx
    rcases List.mem_cons.mp hx with e | e
    · rw [e]; omega
    · exact ih (fun x hx => h x (List.mem_cons_of_mem _ hx)) (by omega) x e
theorem sumL_comm (l : List α) (k : List β) (f : α → β → Int) : sumL l (fun x => sumL k (f x)) = sumL k (fun y => sumL l fun x => f x y) := by
  induction l with
  | nil =>
    rw [sumL_nil, sumL_zero]
    intro _ _
    rfl
  | cons a l ih =>
    rw [sumL_cons, ih, ← sumL_add]
    refine sumL_congr fun y _ => ?_
    rw [sumL_cons]
theorem sumL_one [DecidableEq α] {l : List α} (hn : l.Nodup) {a : α} (ha : a ∈ l) (c : Int) : sumL l (fun x => if x = a then c else 0) = c := by
  induction l with
  | nil => cases ha
  | cons b l ih =>
    obtain ⟨h1, h2⟩ := List.nodup_cons.mp hn
    rw [sumL_cons]
    rcases List.mem_cons.mp ha with e | e
    · subst e
      rw [if_pos rfl, sumL_zero]
      · omega
      · intro x hx
        rw [if_neg]
        intro e
        subst e
        exact h1 hx
    · rw [ih h2 e, if_neg]
      · omega
      · intro e2
        subst e2
        exact h1 e
theorem sumL_filter (l : List α) (p : α → Bool) (f : α → Int) : sumL (l.filter p) f = sumL l (fun x => if p x = true then f x else 0) := by
  induction l with
  | nil => rfl
  | cons a l ih =>
    rw [List.filter_cons, sumL_cons]
    by_cases e : p a = true
    · rw [if_pos e, if_pos e, sumL_cons, ih]
    · rw [if_neg e, if_neg e, ih]; omega
theorem sumL_perm {l k : List α} (h : l.Perm k) (f : α → Int) : sumL l f = sumL k f := by
  induction h with
  | nil => rfl
  | cons a _ ih => rw [sumL_cons, sumL_cons, ih]
  | swap a b l => rw [sumL_cons, sumL_cons, sumL_cons, sumL_cons]; omega
  | trans _ _ h1 h2 => exact h1.trans h2
end

section
variable {α : Type} [DecidableEq α]
/-! ### a way and what is sent along it -/
def cntP (ps : List (α × α)) (x y : α) : Int := sumL ps fun p => if p.1 = x ∧ p.2 = y then 1 else 0
def cntA (l : List α) (x : α) : Int := sumL l fun a => if a = x then 1 else 0
/-- the steps down of a way whose steps up are ps -/
def downs : List (α × α) → List (α × α)
  | (_, s) :: (f, t) :: r => (f, s) :: downs ((f, t) :: r)
  | _ => []
theorem downs_two (f s g t : α) (r : List (α × α)) : downs ((f, s) :: (g, t) :: r) = (g, s) :: downs ((g, t) :: r) := by
  rw [downs]
theorem downs_one (p : α × α) : downs [p] = [] := by
  cases p
  rw [downs]
  intro a b c d r h
  cases h
theorem downs_fst : ∀ (p : α × α) (r : List (α × α)), (p :: r).map (·.1) = p.1 :: (downs (p :: r)).map (·.1)
  | p, [] => by rw [downs_one]; rfl
  | (f, s), (g, t) :: r => by
    rw [downs_two, List.map_cons, downs_fst (g, t) r]
    rfl
theorem downs_snd : ∀ (p : α × α) (r : List (α × α)), (p :: r).map (·.2) = (downs (p :: r)).map (·.2) ++ [((p :: r).getLast (List.cons_ne_nil p r)).2]
  | p, [] => by rw [downs_one]; rfl
  | (f, s), (g, t) :: r => by
    rw [downs_two, List.map_cons, downs_snd (g, t) r, List.getLast_cons (List.cons_ne_nil _ _)]
    rfl
theorem downs_snoc : ∀ (p : α × α) (r : List (α × α)) (q : α × α), downs (p :: r ++ [q]) = downs (p :: r) ++ [(q.1, ((p :: r).getLast (List.cons_ne_nil p r)).2)]
  | (f, s), [], (g, t) => by
    rw [List.cons_append, List.nil_append, downs_two, downs_one, downs_one]
    rfl
  | (f, s), (g, t) :: r, q => by
    rw [List.cons_append, List.cons_append, downs_two, downs_two, ← List.cons_append, downs_snoc (g, t) r q, List.cons_append, List.getLast_cons (List.cons_ne_nil _ _)]
theorem row_cnt {ps : List (α × α)} {k : List α} (hn : k.Nodup) (hp : ∀ p ∈ ps, p.2 ∈ k) (x : α) : sumL k (fun y => cntP ps x y) = cntA (ps.map (·.1)) x := by
  unfold cntP cntA
  rw [sumL_comm]
  unfold sumL
  rw [List.map_map]
  refine sumL_congr (l := ps) fun p hp' => ?_
  show sumL k (fun y => if p.1 = x ∧ p.2 = y then (1 : Int) else 0) = if p.1 = x then 1 else 0
  by_cases e : p.1 = x
  · rw [if_pos e]
    refine Eq.trans (sumL_congr fun y _ => ?_) (sumL_one hn (hp p hp') 1)
    by_cases e2 : y = p.2
    · subst e2
      simp [e]
    · rw [if_neg e2, if_neg fun z => e2 z.2.symm]
  · rw [if_neg e]
    exact sumL_zero fun y _ => if_neg fun z => e z.1
theorem col_cnt {ps : List (α × α)} {k : List α} (hn : k.Nodup) (hp : ∀ p ∈ ps, p.1 ∈ k) (y : α) : sumL k (fun x => cntP ps x y) = cntA (ps.map (·.2)) y := by
  unfold cntP cntA
  rw [sumL_comm]
  unfold sumL
  rw [List.map_map]
  refine sumL_congr (l := ps) fun p hp' => ?_
  show sumL k (fun x => if p.1 = x ∧ p.2 = y then (1 : Int) else 0) = if p.2 = y then 1 else 0
  by_cases e : p.2 = y
  · rw [if_pos e]
    refine Eq.trans (sumL_congr fun x _ => ?_) (sumL_one hn (hp p hp') 1)
    by_cases e2 : x = p.1
    · subst e2
      simp [e]
    · rw [if_neg e2, if_neg fun z => e2 z.1.symm]
  · rw [if_neg e]
    exact sumL_zero fun x _ => if_neg fun z => e z.2
theorem cntA_cons (a : α) (l : List α) (x : α) : cntA (a :: l) x = (if a = x then 1 else 0) + cntA l x := sumL_cons _ _ _
theorem cntA_snoc (a : α) (l : List α) (x : α) : cntA (l ++ [a]) x = cntA l x + (if a = x then 1 else 0) := by
  unfold cntA
  rw [sumL_append, sumL_cons, sumL_nil]
  omega
theorem cntP_nn (ps : List (α × α)) (x y : α) : 0 ≤ cntP ps x y := sumL_nn fun p _ => by split <;> omega
theorem cntP_not {ps : List (α × α)} {x y : α} (h : (x, y) ∉ ps) : cntP ps x y = 0 := sumL_zero fun p hp => if_neg fun ⟨e1, e2⟩ => h (by
  have : p = (x, y) := Prod.ext e1 e2
  rw [← this]; exact hp)
theorem cntP_le {ps : List (α × α)} (hn : (ps.map (·.1)).Nodup) (x y : α) : cntP ps x y ≤ 1 := by
  induction ps with
  | nil => rw [cntP, sumL_nil]; omega
  | cons p ps ih =>
    rw [List.map_cons] at hn
    obtain ⟨h1, h2⟩ := List.nodup_cons.mp hn
    show sumL (p :: ps) _ ≤ 1
    rw [sumL_cons]
    by_cases e : p.1 = x ∧ p.2 = y
    · rw [if_pos e]
      have : cntP ps x y = 0 := cntP_not fun hm => h1 (List.mem_map.mpr ⟨(x, y), hm, e.1.symm⟩)
      unfold cntP at this
      omega
    · rw [if_neg e]
      have := ih h2
      unfold cntP at this
      omega

structure FS (α : Type) where
  left : α → Int
  room : α → Int
  amt : α → α → Int
structure FOk (L Rm : List α) (lo hi : α → Int) (le : α → α → Prop) (s : FS α) : Prop where
  lnn : ∀ x ∈ L, 0 ≤ s.left x
  rnn : ∀ y ∈ Rm, 0 ≤ s.room y
  ann : ∀ x y, 0 ≤ s.amt x y
  supp : ∀ x y, s.amt x y ≠ 0 → x ∈ L ∧ y ∈ Rm ∧ le x y
  row : ∀ x ∈ L, s.left x + sumL Rm (s.amt x) = lo x
  col : ∀ y ∈ Rm, s.room y + sumL L (fun x => s.amt x y) = hi y
structure Way (L Rm : List α) (le : α → α → Prop) (s : FS α) (p : α × α) (r : List (α × α)) : Prop where
  ups : ∀ q ∈ p :: r, q.1 ∈ L ∧ q.2 ∈ Rm ∧ le q.1 q.2
  dns : ∀ d ∈ downs (p :: r), s.amt d.1 d.2 ≠ 0
  beg : s.left p.1 ≠ 0
  fin : s.room ((p :: r).getLast (List.cons_ne_nil p r)).2 ≠ 0
  nd : ((p :: r).map (·.1)).Nodup
/-- m is sent along the way -/
def sent (s : FS α) (p : α × α) (r : List (α × α)) (m : Int) : FS α where
  left := fun x => if x = p.1 then s.left x - m else s.left x
  room := fun y => if y = ((p :: r).getLast (List.cons_ne_nil p r)).2 then s.room y - m else s.room y
  amt := fun x y => s.amt x y + m * cntP (p :: r) x y - m * cntP (downs (p :: r)) x y
theorem FOk.sent {L Rm : List α} {lo hi : α → Int} {le : α → α → Prop} {s : FS α} {p : α × α} {r : List (α × α)} {m : Int} (o : FOk L Rm lo hi le s) (w : Way L Rm le s p r) (hL : L.Nodup) (hR : Rm.Nodup) (m0 : 0 ≤ m) (m1 : m ≤ s.left p.1)
    (m2 : m ≤ s.room ((p :: r).getLast (List.cons_ne_nil p r)).2) (m3 : ∀ d ∈ downs (p :: r), m ≤ s.amt d.1 d.2) : FOk L Rm lo hi le (sent s p r m) := by
  have hd1 : ∀ d ∈ downs (p :: r), d.1 ∈ L ∧ d.2 ∈ Rm := fun d hd => let z := o.supp _ _ (w.dns d hd); ⟨z.1, z.2.1⟩
  have hlast := w.ups _ (List.getLast_mem (List.cons_ne_nil p r))
  have hp := w.ups p List.mem_cons_self
  refine ⟨fun x hx => ?_, fun y hy => ?_, fun x y => ?_, fun x y h => ?_, fun x hx => ?_, fun y hy => ?_⟩
  · show 0 ≤ if x = p.1 then s.left x - m else s.left x
    have := o.lnn x hx
    split
    · rename_i e; subst e; omega
    · exact this
  · show 0 ≤ if y = _ then s.room y - m else s.room y
    have := o.rnn y hy
    split
    · rename_i e; subst e; omega
    · exact this
  · show 0 ≤ s.amt x y + m * cntP (p :: r) x y - m * cntP (downs (p :: r)) x y
    have h1 := o.ann x y
    have h2 : 0 ≤ m * cntP (p :: r) x y := Int.mul_nonneg m0 (cntP_nn _ _ _)
    by_cases e : (x, y) ∈ downs (p :: r)
    · have nd : ((downs (p :: r)).map (·.1)).Nodup := by
        have := w.nd
        rw [downs_fst] at this
        exact (List.nodup_cons.mp this).2
      have h3 : m * cntP (downs (p :: r)) x y ≤ m * 1 := Int.mul_le_mul_of_nonneg_left (cntP_le nd x y) m0
      have := m3 _ e
      have h4 : m ≤ s.amt x y := this
      omega
    · rw [cntP_not e, Int.mul_zero]
      omega
  · by_cases e : s.amt x y ≠ 0
    · exact o.supp x y e
    · by_cases e2 : (x, y) ∈ p :: r
      · exact w.ups _ e2
      · exfalso
        have e3 : (x, y) ∉ downs (p :: r) := fun hm => e (w.dns _ hm)
        apply h
        show s.amt x y + m * cntP (p :: r) x y - m * cntP (downs (p :: r)) x y = 0
        rw [cntP_not e2, cntP_not e3, Int.mul_zero]
        omega
  · show (if x = p.1 then s.left x - m else s.left x) + sumL Rm (fun y => s.amt x y + m * cntP (p :: r) x y - m * cntP (downs (p :: r)) x y) = lo x
    rw [sumL_sub, sumL_add, sumL_mul, sumL_mul, row_cnt hR fun q hq => (w.ups q hq).2.1, row_cnt hR fun q hq => (hd1 q hq).2, downs_fst, cntA_cons]
    have := o.row x hx
    by_cases e : x = p.1
    · subst e
      rw [if_pos rfl, if_pos rfl, Int.mul_add]
      omega
    · rw [if_neg e, if_neg fun z => e z.symm, Int.zero_add]
      omega
  · show (if y = _ then s.room y - m else s.room y) + sumL L (fun x => s.amt x y + m * cntP (p :: r) x y - m * cntP (downs (p :: r)) x y) = hi y
    rw [sumL_sub, sumL_add, sumL_mul, sumL_mul, col_cnt hL fun q hq => (w.ups q hq).1, col_cnt hL fun q hq => (hd1 q hq).1, downs_snd, cntA_snoc]
    have := o.col y hy
    by_cases e : y = ((p :: r).getLast (List.cons_ne_nil p r)).2
    · subst e
      rw [if_pos rfl, if_pos rfl, Int.mul_add]
      omega
    · rw [if_neg e, if_neg fun z => e z.symm, Int.add_zero]
      omega
theorem sent_left {L : List α} {s : FS α} {p : α × α} {r : List (α × α)} {m : Int} (hL : L.Nodup) (hp : p.1 ∈ L) : sumL L (sent s p r m).left = sumL L s.left - m := by
  have : sumL L (sent s p r m).left = sumL L (fun x => s.left x - (if x = p.1 then m else 0)) := by
    refine sumL_congr fun x _ => ?_
    show (if x = p.1 then s.left x - m else s.left x) = _
    split
    · rfl
    · omega
  rw [this, sumL_sub, sumL_one hL hp]

/-! ### the end: no way is left -/
/-- what the search has seen: firsts and seconds -/
structure Cut (L Rm : List α) (le : α → α → Prop) (s : FS α) (S T : α → Prop) : Prop where
  beg : ∀ x ∈ L, s.left x ≠ 0 → S x
  sub : ∀ x, S x → x ∈ L
  up : ∀ x y, S x → y ∈ Rm → le x y → T y
  met : ∀ y, T y → y ∈ Rm ∧ ∃ x, S x ∧ le x y
  full : ∀ y, T y → s.room y = 0
  down : ∀ x y, T y → x ∈ L → s.amt x y ≠ 0 → S x
/-- x is in the up-set U -/
def UpSet (ns : List α) (le : α → α → Prop) (U : α → Prop) : Prop := ∀ x y, U x → y ∈ ns → le x y → U y
open Classical in
noncomputable def massOf (ns : List α) (U : α → Prop) (f : α → Int) : Int := sumL ns fun x => if U x then f x else 0

open Classical in
/-- a part of the names, all of whose others have nothing -/
theorem mass_sub {ns L : List α} {U : α → Prop} {f : α → Int} (hn : ns.Nodup) (hL : L.Nodup) (hs : ∀ x ∈ L, x ∈ ns) (h0 : ∀ x ∈ ns, x ∉ L → f x = 0) : massOf ns U f = massOf L U f := by
  unfold massOf
  have key : sumL ns (fun x => if U x then f x else 0) = sumL (ns.filter fun x => decide (x ∈ L)) (fun x => if U x then f x else 0) := by
    rw [sumL_filter]
    refine sumL_congr fun x hx => ?_
    by_cases e : x ∈ L
    · simp [e]
    · simp [e, h0 x hx e]
  rw [key]
  refine sumL_perm ((List.perm_ext_iff_of_nodup (hn.filter _) hL).mpr fun x => ?_) _
  rw [List.mem_filter]
  exact ⟨fun h => of_decide_eq_true h.2, fun h => ⟨hs x h, decide_eq_true h⟩⟩

open Classical in
/-- the search's firsts bar -/
theorem cut_bars {ns L Rm : List α} {lo hi : α → Int} {le : α → α → Prop} {s : FS α} {S T : α → Prop} (o : FOk L Rm lo hi le s) (c : Cut L Rm le s S T) (hn : ns.Nodup) (hL : L.Nodup) (hR : Rm.Nodup) (sL : ∀ x ∈ L, x ∈ ns) (sR : ∀ x ∈ Rm, x ∈ ns)
    (lo0 : ∀ x ∈ ns, x ∉ L → lo x = 0) (hi0 : ∀ x ∈ ns, x ∉ Rm → hi x = 0) (hl : sumL L s.left ≠ 0) (refl : ∀ x ∈ ns, le x x) (trans : ∀ x y z, le x y → le y z → le x z) :
    ∃ U : α → Prop, UpSet ns le U ∧ massOf ns U hi < massOf ns U lo := by
  refine ⟨fun y => ∃ x, S x ∧ le x y, fun x y ⟨a, h1, h2⟩ _ h3 => ⟨a, h1, trans _ _ _ h2 h3⟩, ?_⟩
  rw [mass_sub hn hL sL lo0, mass_sub hn hR sR hi0]
  -- below: the seconds met have all from the firsts seen
  have eR : massOf Rm (fun y => ∃ x, S x ∧ le x y) hi = sumL Rm fun y => if T y then sumL L (fun x => if S x then s.amt x y else 0) else 0 := by
    refine sumL_congr fun y hy => ?_
    show (if (∃ x, S x ∧ le x y) then hi y else 0) = if T y then sumL L (fun x => if S x then s.amt x y else 0) else 0
    by_cases e : ∃ x, S x ∧ le x y
    · obtain ⟨x, h1, h2⟩ := id e
      have t : T y := c.up x y h1 hy h2
      rw [if_pos e, if_pos t, ← o.col y hy, c.full y t, Int.zero_add]
      refine sumL_congr fun x hx => ?_
      by_cases sx : S x
      · rw [if_pos sx]
      · rw [if_neg sx]
        by_cases z : s.amt x y = 0
        · exact z
        · exact absurd (c.down x y t hx z) sx
    · rw [if_neg e, if_neg fun t => e (c.met y t).2]
  have eL : massOf L (fun y => ∃ x, S x ∧ le x y) lo ≥ sumL L fun x => if S x then s.left x + sumL Rm (s.amt x) else 0 := by
    refine sumL_le fun x hx => ?_
    show (if S x then s.left x + sumL Rm (s.amt x) else 0) ≤ if (∃ a, S a ∧ le a x) then lo x else 0
    by_cases sx : S x
    · rw [if_pos sx, if_pos ⟨x, sx, refl x (sL x hx)⟩, o.row x hx]
      exact Int.le_refl _
    · rw [if_neg sx]
      split
      · rw [← o.row x hx]
        have := o.lnn x hx
        have := sumL_nn (l := Rm) fun y (_ : y ∈ Rm) => o.ann x y
        omega
      · exact Int.le_refl _
  have eS : (sumL L fun x => if S x then s.left x + sumL Rm (s.amt x) else 0) = sumL L s.left + sumL L (fun x => if S x then sumL Rm (s.amt x) else 0) := by
    rw [← sumL_add]
    refine sumL_congr fun x hx => ?_
    by_cases sx : S x
    · rw [if_pos sx, if_pos sx]
    · rw [if_neg sx, if_neg sx]
      by_cases z : s.left x = 0
      · rw [z]; rfl
      · exact absurd (c.beg x hx z) sx
  have eT : (sumL L fun x => if S x then sumL Rm (s.amt x) else 0) = sumL Rm fun y => if T y then sumL L (fun x => if S x then s.amt x y else 0) else 0 := by
    have h1 : (sumL L fun x => if S x then sumL Rm (s.amt x) else 0) = sumL L fun x => sumL Rm fun y => if S x then s.amt x y else 0 := by
      refine sumL_congr fun x _ => ?_
      by_cases sx : S x
      · rw [if_pos sx]
        refine sumL_congr fun y _ => ?_
        rw [if_pos sx]
      · rw [if_neg sx, sumL_zero]
        intro y _
        rw [if_neg sx]
    rw [h1, sumL_comm]
    refine sumL_congr fun y hy => ?_
    by_cases t : T y
    · rw [if_pos t]
    · rw [if_neg t]
      refine sumL_zero fun x _ => ?_
      by_cases sx : S x
      · rw [if_pos sx]
        by_cases z : s.amt x y = 0
        · exact z
        · exact absurd (c.up x y sx hy (o.supp x y z).2.2) t
      · rw [if_neg sx]
  have hp : 0 < sumL L s.left := by
    have := sumL_nn (l := L) o.lnn
    omega
  rw [eR]
  omega

open Classical in
/-- where all has flowed no up-set bars -/
theorem full_free {ns L Rm : List α} {lo hi : α → Int} {le : α → α → Prop} {s : FS α} (o : FOk L Rm lo hi le s) (hn : ns.Nodup) (hL : L.Nodup) (hR : Rm.Nodup) (sL : ∀ x ∈ L, x ∈ ns) (sR : ∀ x ∈ Rm, x ∈ ns)
    (lo0 : ∀ x ∈ ns, x ∉ L → lo x = 0) (hi0 : ∀ x ∈ ns, x ∉ Rm → hi x = 0) (hl : sumL L s.left = 0) {U : α → Prop} (hU : UpSet ns le U) : massOf ns U lo ≤ massOf ns U hi := by
  rw [mass_sub hn hL sL lo0, mass_sub hn hR sR hi0]
  have l0 := sumL_all0 o.lnn hl
  have e1 : massOf L U lo = sumL L fun x => sumL Rm fun y => if U x then s.amt x y else 0 := by
    refine sumL_congr fun x hx => ?_
    show (if U x then lo x else 0) = _
    by_cases u : U x
    · rw [if_pos u, ← o.row x hx, l0 x hx, Int.zero_add]
      refine sumL_congr fun y _ => ?_
      rw [if_pos u]
    · rw [if_neg u]
      refine (sumL_zero fun y _ => ?_).symm
      rw [if_neg u]
  rw [e1, sumL_comm]
  refine sumL_le fun y hy => ?_
  show (sumL L fun x => if U x then s.amt x y else 0) ≤ if U y then hi y else 0
  by_cases u : U y
  · rw [if_pos u, ← o.col y hy]
    have h1 : (sumL L fun x => if U x then s.amt x y else 0) ≤ sumL L fun x => s.amt x y := by
      refine sumL_le fun x _ => ?_
      split
      · exact Int.le_refl _
      · exact o.ann x y
    have := o.rnn y hy
    omega
  · rw [if_neg u, sumL_zero]
    · exact Int.le_refl _
    · intro x hx
      by_cases ux : U x
      · rw [if_pos ux]
        by_cases z : s.amt x y = 0
        · exact z
        · exact absurd (hU x y ux (sR y hy) (o.supp x y z).2.2) u
      · rw [if_neg ux]
end
end OT
end

section
set_option Elab.async false
set_option linter.all false
set_option maxRecDepth 100000
set_option maxHeartbeats 4000000
/-! Own classes' operators by their own special methods: + - *, ==, !=, truth, in, not in. -/
namespace OTR
open PySem PySem.Spec PyProof.Rows L2
section
variable {X : Cx} {pins : List (Addr × Obj)} {σ : L2.St} {H : Hp} {s : Shared} {CX : CXT} {n : Nat} {C f : Addr} {fd : FuncData} {ps : List Str} {sp : Sp} {E : XK}

/-- the state at a call that stands deeper than the body (within a builtin) -/
theorem env_sub {A : Around} (sb : Sub X n A) (I : Inv X pins σ H s) : Env0 X.prog X.w X.K X.mg X.base A X.stack s H := by
  have e := I.env0
  exact ⟨by rw [sb.fr]; exact e.frames, e.mod, e.bs, e.bsz, e.funs, e.frf, e.hok, e.bare⟩
/-- a def runs somewhere below the body -/
theorem run_sub {A : Around} {Q : VK} {us : List Value} {vs : List V} (F : FnOk X.prog X.w X.K X.mg X.base CX n f fd ps sp) (sb : Sub X n A) (hb : Binds X.K fd ps []) (hx : Passes CX X E) (I : Inv X pins σ H s) (r : Vals vs us) (h : sp vs H Q E) :
    wpAny (model X.prog X.w) A (call (.ref f) us) (EP X pins σ Q) X.xe s := by
  have hl := F.len _ _ _ _ h
  have hl2 : (us ++ ([] : List Value)).length = ps.length := by rw [List.append_nil, ← r.length]; exact hl
  have hbb := hb s us I.kIn hl2
  rw [List.append_nil] at hbb
  refine wpAny_call (codeAny_mono (F.run A X.stack s H ⟨us, []⟩ us vs Q E sb.room (env_sub sb I) hbb r h) fun z s' hq => ?_)
  cases z with
  | error e => exact hx pins σ H s e s' I hq
  | ok fl =>
    cases fl with
    | ret u => exact I.after hq
    | next => exact False.elim hq
    | brk => exact False.elim hq
    | cont => exact False.elim hq
/-- what a special method may not hand back -/
theorem back_of {v : V} {u : Value} {Q : Value → Shared → Prop} {s' : Shared} (r : RelV v u) (h : Q u s') : PySem.W.CmpBack Q u s' := by
  cases v with
  | non => cases r; exact h
  | bl b => cases r; exact h
  | int i => obtain ⟨t, rfl⟩ := r; exact h
  | str x => obtain ⟨t, rfl⟩ := r; exact h
  | byt b => obtain ⟨t, rfl⟩ := r; exact h
  | flt b => obtain ⟨t, rfl⟩ := r; exact h
  | ref a => cases r; exact h
  | ty m => cases r; exact h
/-- an instance of the class at C, as the library sees it -/
theorem inst_of (I : Inv X pins σ H s) {a dx : Addr} {fs : List (Str × V)} (h : H a = some (.ins C dx fs)) : ∃ ox od, PySem.W.InstAt s.heap a ox C (some od) ∧ ∀ m, fs.lookup m = none → PySem.W.lookIn m od = some none := by
  obtain ⟨mA, J, r, _⟩ := ins_get I.hok h
  obtain ⟨od, J2, hl⟩ := J.look
  refine ⟨_, od, J2, fun m e => ?_⟩
  have q := r m
  rw [e] at q
  rw [hl m, RelO.none_of q]

/-- x op y, both instances of the class at C, by the class's def (two arguments) -/
def rDun (C : Addr) (sp : Sp) (E : XK) : R2 := fun x y H Q => ∃ a b dx dy fs gs, x = .ref a ∧ y = .ref b ∧ H a = some (.ins C dx fs) ∧ H b = some (.ins C dy gs) ∧ sp [.ref a, .ref b] H Q E
theorem op_dun {op : Operator} (F : FnOk X.prog X.w X.K X.mg X.base CX n f fd ps sp) (hr : Room n X.A) (hb : Binds X.K fd ps []) (hx : Passes CX X E) (hc : PySem.W.selfFirst X.K C = true) (hs : PySem.W.findIn X.K (.ref C) (PySem.dunder op.info.2) = some (some (.ref f)))
    (hf : PySem.W.isFn X.K (.ref f) = true) : OpR X (binaryOp op) (rDun C sp E) := by
  intro pins s σ H x y v u Q I rx ry h
  obtain ⟨a, b, dx, dy, fs, gs, rfl, rfl, ha, hb', h⟩ := h
  cases rx
  cases ry
  obtain ⟨ox, od, J, _⟩ := inst_of I ha
  obtain ⟨oy, oe, J2, _⟩ := inst_of I hb'
  obtain ⟨m, hF⟩ := I.fr
  refine PySem.W.binop_K hF I.ok.mod.kin J J2.type hc hs hf ?_
  exact thn (run_sub (vs := [.ref a, .ref b]) F ⟨hr, rfl⟩ hb hx I (.cons rfl (.cons rfl .nil)) h) fun w s' ⟨z, H', I', r, q⟩ => back_of r ⟨z, H', I', r, q⟩
/-- x == y -/
theorem op_deq (F : FnOk X.prog X.w X.K X.mg X.base CX n f fd ps sp) (hr : Room n X.A) (hb : Binds X.K fd ps []) (hx : Passes CX X E) (hs : PySem.W.findIn X.K (.ref C) "__eq__" = some (some (.ref f))) (hf : PySem.W.isFn X.K (.ref f) = true) :
    OpR X (compareOp .Eq) (rDun C sp E) := by
  intro pins s σ H x y v u Q I rx ry h
  obtain ⟨a, b, dx, dy, fs, gs, rfl, rfl, ha, hb', h⟩ := h
  cases rx
  cases ry
  obtain ⟨ox, od, J, _⟩ := inst_of I ha
  obtain ⟨oy, oe, J2, _⟩ := inst_of I hb'
  obtain ⟨m, hF⟩ := I.fr
  show wpAny _ _ (richCompare .Eq _ _) _ _ _
  refine PySem.W.cmp_K (op := .Eq) (tb := .ref C) hr.units0 hF I.ok.mod.kin J J2.type (by simp [PySem.W.notFirst]) hs hf ?_
  exact thn (run_sub (vs := [.ref a, .ref b]) F ⟨hr, rfl⟩ hb hx I (.cons rfl (.cons rfl .nil)) h) fun w s' ⟨z, H', I', r, q⟩ => back_of r ⟨z, H', I', r, q⟩
/-- the truth of an instance with its own __bool__ -/
def rBool (C : Addr) (sp : Sp) (E : XK) : V → Hp → (Bool → Hp → Prop) → Prop := fun x H Q => ∃ a dx fs, x = .ref a ∧ H a = some (.ins C dx fs) ∧ sp [.ref a] H (fun v H' => ∃ b, v = .bl b ∧ Q b H') E
theorem tru_own (F : FnOk X.prog X.w X.K X.mg X.base CX n f fd ps sp) (hr : Room n X.A) (hb : Binds X.K fd ps []) (hx : Passes CX X E) (hs : PySem.W.findIn X.K (.ref C) "__bool__" = some (some (.ref f))) (hf : PySem.W.isFn X.K (.ref f) = true) : TruR X (rBool C sp E) := by
  intro pins s σ H x v Q I rx h
  obtain ⟨a, dx, fs, rfl, ha, h⟩ := h
  cases rx
  obtain ⟨ox, od, J, _⟩ := inst_of I ha
  obtain ⟨m, hF⟩ := I.fr
  refine PySem.W.truthy_K hF I.ok.mod.kin J hs hf ?_
  refine thn (run_sub (vs := [.ref a]) F ⟨hr, rfl⟩ hb hx I (.cons rfl .nil) h) fun w s' ⟨z, H', I', r, q⟩ => ?_
  obtain ⟨b, rfl, q⟩ := q
  cases r
  exact ⟨H', I', q⟩
/-- x in o, x not in o, by o's own __contains__ that answers with a bool -/
def rCont (C : Addr) (sp : Sp) (E : XK) (neg : Bool) : R2 := fun x y H Q => ∃ a dx fs, y = .ref a ∧ H a = some (.ins C dx fs) ∧ sp [.ref a, x] H (fun v H' => ∃ b : Bool, v = .bl b ∧ Q (.bl (if neg = true then !b else b)) H') E
theorem op_cont (F : FnOk X.prog X.w X.K X.mg X.base CX n f fd ps sp) (hr : Room n X.A) (hb : Binds X.K fd ps []) (hx : Passes CX X E) (hs : PySem.W.findIn X.K (.ref C) "__contains__" = some (some (.ref f))) (hf : PySem.W.isFn X.K (.ref f) = true) :
    OpR X (compareOp .In) (rCont C sp E false) := by
  intro pins s σ H x y v u Q I rx ry h
  obtain ⟨a, dx, fs, rfl, ha, h⟩ := h
  cases ry
  obtain ⟨ox, od, J, _⟩ := inst_of I ha
  obtain ⟨m, hF⟩ := I.fr
  refine PySem.W.in_K hF I.ok.mod.kin J hs hf ?_
  refine thn (run_sub (vs := [.ref a, x]) F ⟨hr, rfl⟩ hb hx I (.cons rfl (.cons rx .nil)) h) fun w s' ⟨z, H', I', r, q⟩ => ?_
  obtain ⟨b, rfl, q⟩ := q
  cases r
  exact wpAny_truthy_bool ⟨.bl b, H', I', rfl, q⟩
theorem op_ncont (F : FnOk X.prog X.w X.K X.mg X.base CX n f fd ps sp) (hr : Room n X.A) (hb : Binds X.K fd ps []) (hx : Passes CX X E) (hs : PySem.W.findIn X.K (.ref C) "__contains__" = some (some (.ref f))) (hf : PySem.W.isFn X.K (.ref f) = true) :
    OpR X (compareOp .NotIn) (rCont C sp E true) := by
  intro pins s σ H x y v u Q I rx ry h
  obtain ⟨a, dx, fs, rfl, ha, h⟩ := h
  cases ry
  obtain ⟨ox, od, J, _⟩ := inst_of I ha
  obtain ⟨m, hF⟩ := I.fr
  refine PySem.W.notIn_K hF I.ok.mod.kin J hs hf ?_
  refine thn (run_sub (vs := [.ref a, x]) F ⟨hr, rfl⟩ hb hx I (.cons rfl (.cons rx .nil)) h) fun w s' ⟨z, H', I', r, q⟩ => ?_
  obtain ⟨b, rfl, q⟩ := q
  cases r
  exact wpAny_truthy_bool ⟨.bl (!b), H', I', rfl, q⟩
end
end OTR
end

section
set_option Elab.async false
set_option linter.all false
set_option maxRecDepth 100000
set_option maxHeartbeats 4000000
/-! x != y of instances whose class has its own == alone: object's own != asks that. -/
namespace OTR
open PySem PySem.Spec PyProof.Rows L2
theorem slot_one : Slot "object" (PySem.cmpInfo .NotEq).2.1 "object.__ne__" :=
  Slot.of (owner := "object") (n := "__ne__") (by rw [typeLookup_type, builtinLookup_eq_fast]; kernel_rfl) (by decide +kernel) (by decide +kernel) (by decide +kernel) (by first | exact Or.inl (by decide +kernel) | exact Or.inr (by decide +kernel)) (by rw [isSubtype_type]; kernel_rfl)
theorem entry_one : entryFor table "object.__ne__" = some Builtin.«object.__ne__» := entryFor_of_tree (by kernel_rfl)
theorem kind_one : builtinKind "object.__ne__" = some .slot := by decide +kernel
theorem split_one : splitId "object.__ne__" = some ("object", "__ne__") := by decide +kernel
theorem args_one (a b : Value) : argsOk "object.__ne__" ⟨[a, b], []⟩ := by
  unfold argsOk
  kernel_rfl
section
variable {X : Cx} {pins : List (Addr × Obj)} {σ : L2.St} {H : Hp} {s : Shared} {CX : CXT} {n : Nat} {C f : Addr} {fd : FuncData} {ps : List Str} {sp : Sp} {E : XK}
/-- by object's != : the class's == runs one level further in -/
theorem ne_own {prog : Program} {w : World} {A : Around} {EE : Value → Shared → Prop} {s : Shared} {K : PySem.W.Frag} {x f : Addr} {ox : Obj} {od : Option Obj} {b : Value} {Q : Value → Shared → Prop} (hu : A.units + 1 < cLine) (X : K.In s.heap) (I : PySem.W.InstAt s.heap x ox C od) (hb : PySem.W.Looks (model prog w) s.heap (typeOf b) (.ref C))
    (hne : PySem.W.findIn K (.ref C) "__ne__" = some (some (.builtin "object.__ne__"))) (hm : PySem.W.mroIn K C (.type "object") = some true) (hs : PySem.W.findIn K (.ref C) "__eq__" = some (some (.ref f))) (hf : PySem.W.isFn K (.ref f) = true)
    (h : wpAny (model prog w) A.in1 (call (.ref f) [.ref x, b]) (fun v s' => ∃ k : Bool, v = .bool k ∧ Q (.bool (!k)) s') EE s) : wpAny (model prog w) A (richCompare .NotEq (.ref x) b) Q EE s := by
  have sub : PySem.W.Looks (model prog w) s.heap (isInstance (.ref x) (.type "object")) true := I.type.andThen (PySem.W.looks_mroIn X hm)
  have body : wpAny (model prog w) A (call (.builtin "object.__ne__") [.ref x, b]) (fun v s' => ∃ k : Bool, v = .bool (!k) ∧ Q (.bool (!k)) s') EE s := by
    refine wpAny_call (codeAny_call_builtin slot_one.plain entry_one (PySem.W.check_slot kind_one split_one sub (args_one _ _) ?_))
    show wpAny _ A.in1 (slotArgs "__ne__" 1 ⟨[.ref x, b], []⟩ >>= _) _ _ s
    refine wpAny_bind (wpAny_pure ?_)
    dsimp only
    refine wpAny_bind (wpAny_cRoomFor (by show A.units + 1 < cLine; exact hu) ?_)
    refine wpAny_bind (PySem.W.ifBound_K X I hs hf (thn h fun v s' hv => ?_))
    obtain ⟨k, rfl, q⟩ := hv
    refine wpAny_bind (wpAny_truthy_bool ?_)
    exact wpAny_pure ⟨k, rfl, q⟩
  have one : wpAny (model prog w) A (tryCompare (.ref x) (cmpInfo .NotEq).2.1 b) (fun r s' => ∃ k : Bool, r = some (.bool (!k)) ∧ Q (.bool (!k)) s') EE s := by
    unfold tryCompare
    simp only [callSpecialIfBound?, bindSpecialIfBound?]
    refine wpAny_bind (wpAny_holding (wpAny_bind (wpAny_bind (wpAny_bind (I.type.here ((PySem.W.looks_findIn X hne).here ?_))))))
    refine wpAny_bind (wpAny_askSetting (wpAny_ite ?_))
    have fin : wpAny (model prog w) A (call (.builtin "object.__ne__") ([.ref x] ++ [b]) >>= fun v => pure (some v)) (fun r s' => wpAny (model prog w) A (match r with | some .notImplemented | none => pure none | some v => pure (some v)) (fun r s' => ∃ k : Bool, r = some (.bool (!k)) ∧ Q (.bool (!k)) s') EE s') EE s :=
      wpAny_bind (thn body fun v s' z => wpAny_pure (by
        obtain ⟨k, rfl, q⟩ := z
        exact wpAny_pure ⟨k, rfl, q⟩))
    split
    · rw [slot_one.bind]
      exact wpAny_bind (wpAny_pure (wpAny_pure (by exact fin)))
    · rw [slot_one.bind]
      exact wpAny_tryCatch (wpAny_bind (wpAny_pure (wpAny_pure (by exact fin))))
  unfold richCompare
  simp only [oneThing_ref]
  refine wpAny_holding (wpAny_bind (wpAny_cRoomFor (by omega) ?_))
  refine wpAny_bind (I.type.here (wpAny_bind (hb.here ?_)))
  simp only [bne_self_eq_false, Bool.false_eq_true, if_false]
  refine wpAny_bind (wpAny_pure ?_)
  simp only [Bool.false_eq_true, if_false]
  refine wpAny_bind (thn one fun r s' z => ?_)
  obtain ⟨k, rfl, q⟩ := z
  exact wpAny_pure q
/-- x != y, the own == answers with a bool -/
def rDne (C : Addr) (sp : Sp) (E : XK) : R2 := fun x y H Q => ∃ a b dx dy fs gs, x = .ref a ∧ y = .ref b ∧ H a = some (.ins C dx fs) ∧ H b = some (.ins C dy gs) ∧ sp [.ref a, .ref b] H (fun v H' => ∃ k : Bool, v = .bl k ∧ Q (.bl (!k)) H') E
theorem op_dne (F : FnOk X.prog X.w X.K X.mg X.base CX n f fd ps sp) (hr : Room (n + 1) X.A) (hb : Binds X.K fd ps []) (hx : Passes CX X E) (hne : PySem.W.findIn X.K (.ref C) "__ne__" = some (some (.builtin "object.__ne__"))) (hm : PySem.W.mroIn X.K C (.type "object") = some true)
    (hs : PySem.W.findIn X.K (.ref C) "__eq__" = some (some (.ref f))) (hf : PySem.W.isFn X.K (.ref f) = true) : OpR X (compareOp .NotEq) (rDne C sp E) := by
  intro pins s σ H x y v u Q I rx ry h
  obtain ⟨a, b, dx, dy, fs, gs, rfl, rfl, ha, hb', h⟩ := h
  cases rx
  cases ry
  obtain ⟨ox, od, J, _⟩ := inst_of I ha
  obtain ⟨oy, oe, J2, _⟩ := inst_of I hb'
  show wpAny _ _ (richCompare .NotEq _ _) _ _ _
  refine ne_own (by have := hr.units; omega) I.kIn J J2.type hne hm hs hf ?_
  refine thn (run_sub (vs := [.ref a, .ref b]) F (Sub.in1 ⟨hr, rfl⟩) hb hx I (.cons rfl (.cons rfl .nil)) h) fun w s' ⟨z, H', I', r, q⟩ => ?_
  obtain ⟨k, rfl, q⟩ := q
  cases r
  exact ⟨k, rfl, .bl (!k), H', I', rfl, q⟩
end
end OTR
end

section
set_option Elab.async false
set_option linter.all false
set_option maxRecDepth 100000
set_option maxHeartbeats 4000000
/-! An own class whose __iter__ hands back iter(a tuple or dict of its own): for over it, list(..) of it. -/
namespace OTR
open PySem PySem.Spec PyProof.Rows L2 ItX

/-! ### a def's body run once, at one state -/
section
variable {P : Program} {w : World} {K : PySem.W.Frag} {mg : Str → Option Value} {base : Heap}
theorem body_run {CX : CXT} {x qual : Str} {st : Stmt} {f : Addr} {fd : FuncData} {N ps : List Str} {k : Nat} (F : Fun K x qual st f fd) (S : FnScope N ps (defScope st)) {A : Around} {outer : List Env} {s : Shared} {H : Hp} {args : Args} {us : List Value} {vs : List V} {Q : VK} {E : XK}
    (hr : Room (k + 1) A) (e0 : Env0 P w K mg base A outer s H) (hb : BindsTo s fd args (ps.zip us)) (r : Vals vs us) (hl : vs.length = ps.length)
    (body : ∀ cdv : Value, Room k (A.deeper (envOfC qual (defScope st) s.heap.objs.size f cdv)) → ∃ t, PSs (cxOf CX P w K mg base N qual (defScope st) f cdv A outer s H E) (defBody st) t ∧ t { nx := fun _ H' => Q .non H', rt := Q } (start N vs) H) :
    codeAny (model P w) A (.call (.ref f) args) (CR CX outer P w H s Q E) s := by
  obtain ⟨oc, od, kV, doc, pm, an, cdv, ct, osl, rfl, lk, hcd⟩ := F.ex
  have keepB : ∀ b o, base.get? b = some o → s.heap.get? b = some o := fun b o e => (e0.bs b o e).1
  have KX : K.In s.heap := e0.mod.kin.keeps keepB
  have lim : s.heap.NoLimit := e0.mod.nolimit.keeps keepB
  have kinds : ∀ y ∈ ps.zip us, (defScope st).names.lookup y.1 = some .local ∨ ((defScope st).names.lookup y.1 = some .cell ∧ ((cellsFrom (s.heap.objs.size + 1) (defScope st).names []).lookup y.1).isSome = true) := by
    rintro ⟨m, v⟩ hy
    rcases S.par m (List.of_mem_zip hy).1 with q | q
    · exact .inl q
    · exact .inr ⟨q, PySem.W.cellsFrom_some _ _ _ (.inl q)⟩
  refine codeAny_call_function hr.depth (KX _ _ lk) rfl S.co S.gen rfl (PySem.W.codeRec_of KX hcd) (hb _ _ _ _ ?_)
  refine wpAny_newFunctionEnv_cells S.kind kinds fun env he s1 x1 => ?_
  subst he
  refine ⟨lim.keeps x1.toInCall.keep, codeAny_func ?_⟩
  obtain ⟨t, ht, hq⟩ := body cdv (hr.deeper _)
  have I := inv_start (CX := CX) (E := E) S hr.hd e0 hl r x1
  refine wpAny_mono (ht.run [] s1 (start N vs) H _ I hq) (fun fl s' hs => ?_) fun e s' he => he
  cases fl with
  | ret u =>
    obtain ⟨v, σ', H', J, rv, q⟩ := hs
    exact ⟨v, H', J.os, J.bare, J.base, J.hok, rv, q⟩
  | next =>
    obtain ⟨σ', H', J, q⟩ := hs
    exact ⟨V.non, H', J.os, J.bare, J.base, J.hok, rfl, q⟩
  | brk =>
    obtain ⟨_, _, _, q⟩ := hs
    exact q.elim
  | cont =>
    obtain ⟨_, _, _, q⟩ := hs
    exact q.elim
end

/-! ### iterators as tracked things -/
/-- at a stands the object o -/
def ObA (a : Addr) (o : Obj) : HO := .ext fun h => h.get? a = some o
theorem obA_ok {P : Program} {w : World} {H : Hp} {h : Heap} {a : Addr} {o : Obj} (e : h.get? a = some o) : ObjOk P w H h a (ObA a o) := ⟨e, ⟨_, e⟩, fun _ _ q k => k _ q⟩
def tupIt (t : Addr) : Obj := { cls := .type "tuple_iterator", data := .fields #[.ref t, .int 0 0] }
def keyIt (d : Addr) (n ep : Nat) : Obj := { cls := .type "dict_keyiterator", data := .fields #[.ref d, .int 0 0, .int n 0, .int ep 0] }
section
variable {prog : Program} {w : World} {A : Around} {E : Value → Shared → Prop} {s : Shared}
theorem iter_of {v : Value} {Q : Value → Shared → Prop} (h : wpAny (model prog w) A.in1 (pyIter v) (fun u s' => Q u s') E s) : wpAny (model prog w) A (call (.builtin "iter") [v]) Q E s := by
  refine Calls.call_function_entry (by decide +kernel) (by decide +kernel) PySem.W.kdk_entry_iter (PySem.W.kdk_args_iter _) ?_
  unfold Builtin.«iter»
  refine wpAny_bind (m := someArgs "iter" 1 2 _) (wpAny_of_eq (a := [v]) (by first | rfl | kernel_rfl!) ?_)
  show wpAny _ _ (pyIter v >>= _) _ _ _
  refine wpAny_bind (wpAny_mono h (fun u s' q => ?_) fun _ _ z => z)
  exact wpAny_pure ⟨_, rfl, q⟩
end
section
variable {X : Cx}
/-- iter(t), t a tuple; n: younger than the def's entry -/
def rIterT (K : PySem.W.Frag) (n : Nat) : List V → Hp → VK → Prop := fun xs H Q => ∃ (t : Addr) (zs : List V), xs = [.ref t] ∧ SqT K H t zs ∧ ∀ it, H it = Option.none → n ≤ it → Q (.ref it) (upd H it (ObA it (tupIt t)))
theorem call_iterT : CallR X (.builtin "iter") (rIterT X.K X.s_0.heap.objs.size) := by
  intro pins s σ H xs us Q I r h
  obtain ⟨t, zs, rfl, hq, q⟩ := h
  obtain ⟨u, rfl, ru⟩ := vals1 r
  cases ru
  obtain ⟨its, rv, pl, hz⟩ := I.tuple hq
  refine iter_of (wpAny_pyIter_tuple (show s.heap.IsTuple t its.toArray from pl) ?_)
  exact ⟨.ref s.heap.objs.size, _, I.laid (t' := s.toks) (fun b u e => Heap.get?_push_of_some _ e) (Nat.le_refl _) (obA_ok (Heap.get?_push_size _ rfl)), rfl, q _ (I.hok.fresh (Nat.le_refl _)) I.sz⟩
/-- iter(d), d a dict that is known to the object -/
def rIterD (n : Nat) : List V → Hp → VK → Prop := fun xs H Q => ∃ (d : Addr) (o : Obj) (kvs : List (Key × V)), xs = [.ref d] ∧ H d = some (.frz o (.dK kvs)) ∧
  ∀ it es ep, H it = Option.none → n ≤ it → o.data = .dict es ep → es.size = kvs.length → Q (.ref it) (upd H it (ObA it (keyIt d kvs.length ep)))
theorem call_iterD : CallR X (.builtin "iter") (rIterD X.s_0.heap.objs.size) := by
  intro pins s σ H xs us Q I r h
  obtain ⟨d, o, kvs, rfl, hd, q⟩ := h
  obtain ⟨u, rfl, ru⟩ := vals1 r
  cases ru
  obtain ⟨hs, hgd, hx, es, ep, vs, hdt, hsz, kv, hm⟩ := I.frzK hd
  refine iter_of (iter_keys hs hgd hx hdt ?_)
  have e : ({ cls := .type "dict_keyiterator", data := .fields #[.ref d, .int 0 0, .int es.size 0, .int ep 0] } : Obj) = keyIt d kvs.length ep := by
    unfold keyIt
    rw [hsz] <;> rfl
  rw [e]
  exact ⟨.ref s.heap.objs.size, _, I.laid (t' := s.toks) (fun b u e => Heap.get?_push_of_some _ e) (Nat.le_refl _) (obA_ok (Heap.get?_push_size _ rfl)), rfl, q _ es ep (I.hok.fresh (Nat.le_refl _)) I.sz hdt hsz⟩
end

/-! ### what __iter__ of the text does -/
/-- __iter__ of the class at C hands back iter(self.g), at each state: a tuple's | a locked dict's -/
structure OwnIt (P : Program) (w : World) (K : PySem.W.Frag) (mg : Str → Option Value) (base : Heap) (k : Nat) (C f : Addr) (g : Str) : Prop where
  tup : ∀ {A : Around} {outer : List Env} {s : Shared} {H : Hp} {a dx t : Addr} {fs : List (Str × V)} {zs : List V}, Room k A → Env0 P w K mg base A outer s H → H a = some (.ins C dx fs) → fs.lookup g = some (.ref t) → SqT K H t zs →
    codeAny (model P w) A (.call (.ref f) ⟨[.ref a], []⟩) (CR CX0 outer P w H s (fun v H' => ∃ it, v = .ref it ∧ H it = Option.none ∧ s.heap.objs.size ≤ it ∧ H' = upd H it (ObA it (tupIt t))) E0) s
  dic : ∀ {A : Around} {outer : List Env} {s : Shared} {H : Hp} {a dx d : Addr} {o : Obj} {fs : List (Str × V)} {kvs : List (Key × V)}, Room k A → Env0 P w K mg base A outer s H → H a = some (.ins C dx fs) → fs.lookup g = some (.ref d) → H d = some (.frz o (.dK kvs)) →
    codeAny (model P w) A (.call (.ref f) ⟨[.ref a], []⟩) (CR CX0 outer P w H s (fun v H' => ∃ it es ep, v = .ref it ∧ H it = Option.none ∧ s.heap.objs.size ≤ it ∧ o.data = .dict es ep ∧ es.size = kvs.length ∧ H' = upd H it (ObA it (keyIt d kvs.length ep))) E0) s
/-- the body is «return iter(self.g)» -/
theorem ownIt_of {P : Program} {w : World} {K : PySem.W.Frag} {mg : Str → Option Value} {base : Heap} {qual : Str} {st : Stmt} {f C : Addr} {fd : FuncData} {g : Str} {N : List Str} (F : Fun K "__iter__" qual st f fd) (S : FnScope N ["self"] (defScope st)) (b : Binds K fd ["self"] []) (cl : Cls K C) (na : NoAttr K C g)
    (ht : ∀ (cdv : Value) (A : Around) (outer : List Env) (s : Shared) (H : Hp) (r : List V → Hp → VK → Prop), CallR (cxOf CX0 P w K mg base N qual (defScope st) f cdv A outer s H E0).nox (.builtin "iter") r →
      PSs (cxOf CX0 P w K mg base N qual (defScope st) f cdv A outer s H E0).nox (defBody st) (tRet (tCB r (tCons (tFld K (tVar 0) g) tNil)))) : OwnIt P w K mg base 1 C f g where
  tup := by
    intro A outer s H a dx t fs zs hr e0 ha hl hq
    have KX : K.In s.heap := e0.mod.kin.keeps fun b o e => (e0.bs b o e).1
    have bb := b s [.ref a] KX rfl
    refine body_run (k := 0) F S hr e0 bb (vs := [.ref a]) (.cons rfl .nil) rfl fun cdv _ => ?_
    refine ⟨_, (ht cdv A outer s H (rIterT K s.heap.objs.size) call_iterT).nox, ?_⟩
    refine ⟨.ref a, rfl, a, C, dx, fs, _, rfl, ha, cl, na, hl, t, zs, rfl, hq, fun it n1 n2 => ?_⟩
    exact ⟨it, rfl, n1, n2, rfl⟩
  dic := by
    intro A outer s H a dx d o fs kvs hr e0 ha hl hq
    have KX : K.In s.heap := e0.mod.kin.keeps fun b o e => (e0.bs b o e).1
    have bb := b s [.ref a] KX rfl
    refine body_run (k := 0) F S hr e0 bb (vs := [.ref a]) (.cons rfl .nil) rfl fun cdv _ => ?_
    refine ⟨_, (ht cdv A outer s H (rIterD s.heap.objs.size) call_iterD).nox, ?_⟩
    refine ⟨.ref a, rfl, a, C, dx, fs, _, rfl, ha, cl, na, hl, d, o, kvs, rfl, hq, fun it es ep n1 n2 h1 h2 => ?_⟩
    exact ⟨it, es, ep, rfl, n1, n2, h1, h2, rfl⟩
/-- what of the class is asked -/
structure ItFact (K : PySem.W.Frag) (C f : Addr) : Prop where
  it : PySem.W.findIn K (.ref C) "__iter__" = some (some (.ref f))
  fn : PySem.W.isFn K (.ref f) = true

section
variable {X : Cx} {pins : List (Addr × Obj)} {σ : L2.St} {H : Hp} {s : Shared} {C f : Addr} {g : Str} {k : Nat}
theorem next_tup : typeLookup (.type "tuple_iterator") "__next__" = pure (some (.builtin "tuple_iterator.__next__")) := F.slot_tuple_iterator_next.lookup
theorem next_key : typeLookup (.type "dict_keyiterator") "__next__" = pure (some (.builtin "dict_keyiterator.__next__")) := F.slot_dict_keyiterator_next.lookup
/-- iter(o): a tuple's iterator, new and then no longer tracked -/
theorem pyit_tup {A : Around} {a dx t : Addr} {fs : List (Str × V)} {zs : List V} {Q : Value → Shared → Prop} {n : Nat} (O : OwnIt X.prog X.w X.K X.mg X.base n C f g) (T : ItFact X.K C f) (sb : Sub X n A) (I : Inv X pins σ H s) (ha : H a = some (.ins C dx fs)) (hl : fs.lookup g = some (.ref t)) (hq : SqT X.K H t zs)
    (h : ∀ it s', Inv X pins σ H s' → s'.heap.get? it = some (tupIt t) → FpOk X pins H it → Q (.ref it) s') : wpAny (model X.prog X.w) A (pyIter (.ref a)) Q X.xe s := by
  obtain ⟨ox, od, J, _⟩ := inst_of I ha
  obtain ⟨m, hF⟩ := I.fr
  refine PySem.W.owit_iter hF I.ok.mod.kin J T.it T.fn ?_
  refine wpAny_call (codeAny_mono (O.tup (outer := X.stack) sb.room (env_sub sb I) ha hl hq) fun z s' hz => ?_)
  cases z with
  | error e => exact hz.elim
  | ok fl =>
    cases fl with
    | next => exact hz.elim
    | brk => exact hz.elim
    | cont => exact hz.elim
    | ret u =>
      obtain ⟨v, H', I', rv, it, ev, hn, hge, eH⟩ := I.after hz
      subst ev eH
      cases rv
      have eo : s'.heap.get? it = some (tupIt t) := (I'.hok it _ upd_same).1
      have I2 := inv_drop I' (a := it) upd_same
      rw [dropH_upd hn] at I2
      have fp := inv_fp I' (a := it) upd_same (Nat.le_trans I.sz hge)
      rw [dropH_upd hn] at fp
      unfold PySem.W.OwitIt
      refine wpAny_specialOf ⟨_, eo, rfl⟩ next_tup ?_
      exact h it s' I2 eo fp
theorem pyit_dic {A : Around} {a dx d : Addr} {o : Obj} {fs : List (Str × V)} {kvs : List (Key × V)} {Q : Value → Shared → Prop} {n : Nat} (O : OwnIt X.prog X.w X.K X.mg X.base n C f g) (T : ItFact X.K C f) (sb : Sub X n A) (I : Inv X pins σ H s) (ha : H a = some (.ins C dx fs)) (hl : fs.lookup g = some (.ref d))
    (hq : H d = some (.frz o (.dK kvs))) (h : ∀ it es ep s', Inv X pins σ H s' → o.data = .dict es ep → es.size = kvs.length → s'.heap.get? it = some (keyIt d kvs.length ep) → FpOk X pins H it → Q (.ref it) s') : wpAny (model X.prog X.w) A (pyIter (.ref a)) Q X.xe s := by
  obtain ⟨ox, od, J, _⟩ := inst_of I ha
  obtain ⟨m, hF⟩ := I.fr
  refine PySem.W.owit_iter hF I.ok.mod.kin J T.it T.fn ?_
  refine wpAny_call (codeAny_mono (O.dic (outer := X.stack) sb.room (env_sub sb I) ha hl hq) fun z s' hz => ?_)
  cases z with
  | error e => exact hz.elim
  | ok fl =>
    cases fl with
    | next => exact hz.elim
    | brk => exact hz.elim
    | cont => exact hz.elim
    | ret u =>
      obtain ⟨v, H', I', rv, it, es, ep, ev, hn, hge, h1, h2, eH⟩ := I.after hz
      subst ev eH
      cases rv
      have eo : s'.heap.get? it = some (keyIt d kvs.length ep) := (I'.hok it _ upd_same).1
      have I2 := inv_drop I' (a := it) upd_same
      rw [dropH_upd hn] at I2
      have fp := inv_fp I' (a := it) upd_same (Nat.le_trans I.sz hge)
      rw [dropH_upd hn] at fp
      unfold PySem.W.OwitIt
      refine wpAny_specialOf ⟨_, eo, rfl⟩ next_key ?_
      exact h it es ep s' I2 h1 h2 eo fp

/-! ### for x in o -/
variable {tg e : Expr} {te : TE}
def iOwnT (K : PySem.W.Frag) (C : Addr) (g : Str) (te : TE) : TI := fun σ H R => te σ H fun x H1 => ∃ a dx fs t zs, x = .ref a ∧ H1 a = some (.ins C dx fs) ∧ fs.lookup g = some (.ref t) ∧ SqT K H1 t zs ∧ R (Itt K t) H1
theorem pi_ownT {n : Nat} (O : OwnIt X.prog X.w X.K X.mg X.base n C f g) (T : ItFact X.K C f) (hr : Room n X.A) (he : PE X e te) : PI X tg e (iOwnT X.K C g te) := by
  refine ⟨fun pins s σ H R I h => ?_⟩
  refine thn (he.run pins s σ H _ I h) fun u s1 ⟨x, H1, I1, rx, a, dx, fs, t, zs, ex, ha, hl, hq, q⟩ => ?_
  subst ex
  cases rx
  refine pyit_tup O T ⟨hr, rfl⟩ I1 ha hl hq fun it s2 I2 eo fp => ?_
  refine ⟨it, [it], _, _, H1, rfl, I2, turn_tuple t it, ⟨_, eo, rfl, rfl⟩, fun b hb => ?_, q⟩
  have e : b = it := by simpa using hb
  rw [e]
  exact fp
def iOwnD (C : Addr) (g : Str) (te : TE) : TI := fun σ H R => te σ H fun x H1 => ∃ a dx fs d o kvs, x = .ref a ∧ H1 a = some (.ins C dx fs) ∧ fs.lookup g = some (.ref d) ∧ H1 d = some (.frz o (.dK kvs)) ∧ R (Itk d o kvs) H1
theorem pi_ownD {n : Nat} (O : OwnIt X.prog X.w X.K X.mg X.base n C f g) (T : ItFact X.K C f) (hr : Room n X.A) (he : PE X e te) : PI X tg e (iOwnD C g te) := by
  refine ⟨fun pins s σ H R I h => ?_⟩
  refine thn (he.run pins s σ H _ I h) fun u s1 ⟨x, H1, I1, rx, a, dx, fs, d, o, kvs, ex, ha, hl, hq, q⟩ => ?_
  subst ex
  cases rx
  refine pyit_dic O T ⟨hr, rfl⟩ I1 ha hl hq fun it es ep s2 I2 h1 h2 eo fp => ?_
  refine ⟨it, [it], _, _, H1, rfl, I2, turn_keys it h1, ⟨_, eo, rfl, rfl⟩, fun b hb => ?_, q⟩
  have e : b = it := by simpa using hb
  rw [e]
  exact fp
end
end OTR
end

section
set_option Elab.async false
set_option linter.all false
set_option maxRecDepth 100000
set_option maxHeartbeats 4000000
/-! list(o), o of an own class with __iter__ over its dict and __len__. -/
namespace OTR
open PySem PySem.Spec PyProof.Rows L2 ItX
theorem if_yes {α : Type} {M : Model} {A : Around} {E : Value → Shared → Prop} {s : Shared} {c : Prop} [Decidable c] {x y : Sem α} {Q : α → Shared → Prop} (hc : c) (h : wpAny M A x Q E s) : wpAny M A (if c then x else y) Q E s := by
  rw [if_pos hc]
  exact h
/-- len(d), d a dict that may be locked -/
theorem call_lenR {X : Cx} : CallR X (.builtin "len") (fun xs H Q => ∃ a kvs, xs = [V.ref a] ∧ Rd H a (.dK kvs) ∧ Q (.int kvs.length) H) := by
  intro pins s σ H xs us Q I r h
  obtain ⟨a, kvs, rfl, ha, q⟩ := h
  obtain ⟨u, rfl, ru⟩ := vals1 r
  cases ru
  exact d_len I ha fun t s' I' => ⟨.int kvs.length, H, I', ⟨t, rfl⟩, q⟩
/-- __len__: the number of the pairs of self.g -/
def spLen (C : Addr) (g : Str) : Sp := fun vs H Q _ => ∃ a dx fs d kvs, vs = [.ref a] ∧ H a = some (.ins C dx fs) ∧ fs.lookup g = some (.ref d) ∧ Rd H d (.dK kvs) ∧ Q (.int kvs.length) H
structure LnFact (K : PySem.W.Frag) (C f : Addr) : Prop where
  ln : PySem.W.findIn K (.ref C) "__len__" = some (some (.ref f))
  fn : PySem.W.isFn K (.ref f) = true
section
variable {X : Cx} {pins : List (Addr × Obj)} {σ : L2.St} {H : Hp} {s : Shared} {C f fl : Addr} {g : Str} {k n : Nat} {fdL : FuncData} {A1 : Around}

theorem dic_loop {kvs : List (Key × V)} {d q it : Addr} {o : Obj} {es : Array DictEntry} {ep : Nat} {Rs : Result → Shared → Prop} (hh : A1.handled = Option.none) (hod : o.data = .dict es ep)
 :
    ∀ (m i : Nat) (acc : List V) (s : Shared), kvs.length - i = m → i ≤ kvs.length → acc = (kvs.take i).map (fun kv => kV kv.1) → Inv X pins σ (upd H q (.lst acc)) s → (upd H q (.lst acc)) d = some (.frz o (.dK kvs)) → FpOk X pins (upd H q (.lst acc)) it → s.heap.IsKeyIter it d i kvs.length ep →
      (∀ s, Inv X pins σ (upd H q (.lst (kvs.map fun kv => kV kv.1))) s → Rs (.ok (.ret .none)) s) →
      codeAny (model X.prog X.w) A1 (.builtin "list.extend.loop" ⟨[.ref q, .ref it, .none], []⟩) Rs s := by
  intro m
  induction m with
  | zero =>
    intro i acc s hm hi hacc I hd fp st fin
    obtain ⟨f0, f1, f2, f3, f4, f5⟩ := id fp
    obtain ⟨hs, hgd, hx, es', ep', vs, hdt, hsz, kv, hat⟩ := I.frzK hd
    obtain ⟨rfl, rfl⟩ := dict_ep hod hdt
    refine codeAny_builtin PySem.F.entry_extend_loop ?_
    rw [Around.under_plainId PySem.F.plain_extend_loop _]
    show wpAny _ A1.in1 (pyNext (.ref it) >>= _) _ _ s
    refine wpAny_bind (next_key_end (by exact hh) st hgd hdt hsz (by omega) fun h' eb => ?_)
    have e : i = kvs.length := by omega
    rw [hacc, e, List.take_of_length_le (Nat.le_refl _)] at I
    exact wpAny_pure (fin _ (I.turned (t' := s.toks) (fun b o hb z => eb b o hb z) (by rw [hacc, e, List.take_of_length_le (Nat.le_refl _)] at f0; exact f0) f1 f3 f4 f5))
  | succ m ih =>
    intro i acc s hm hi hacc I hd fp st fin
    obtain ⟨f0, f1, f2, f3, f4, f5⟩ := id fp
    obtain ⟨hs, hgd, hx, es', ep', vs, hdt, hsz, kv, hat⟩ := I.frzK hd
    obtain ⟨rfl, rfl⟩ := dict_ep hod hdt
    have hlt : i < kvs.length := by omega
    obtain ⟨⟨kk, v⟩, hkv⟩ : ∃ p, kvs[i]? = some p := ⟨kvs[i], List.getElem?_eq_getElem hlt⟩
    obtain ⟨u, hu, ru⟩ := kv_get kv hkv
    have hl : kvs.length = vs.length := Paired.length kv
    have st' := st
    rw [hl] at st'
    refine codeAny_builtin PySem.F.entry_extend_loop ?_
    rw [Around.under_plainId PySem.F.plain_extend_loop _]
    show wpAny _ A1.in1 (pyNext (.ref it) >>= _) _ _ s
    refine wpAny_bind (wpAny_pyNext_dict_item st' hat hu fun key h' hkey st2 sb => ?_)
    have I1 : Inv X pins σ (upd H q (.lst acc)) { s with heap := h' } := I.turned (t' := s.toks) (fun b o hb z => (sb.2 b hb).trans z) f0 f1 f3 f4 f5
    show wpAny _ A1.in1 (updateSeq q (·.push key) >>= _) _ _ _
    obtain ⟨z, its, c, r2, hl2, e⟩ := I1.lstM (l := q) upd_same
    have nit : q ≠ it := fun z => by
      rw [← z, upd_same] at f0
      cases f0
    have hsl : acc.length < sizeLine := by
      have h0 : acc.length = i := by rw [hacc, List.length_map, List.length_take]; omega
      have h1 : kvs.length ≤ sizeLine := (I.hok d _ hd).2.1
      omega
    refine wpAny_bind (wpAny_updateSeq e rfl (wpAny_pure ⟨plainId_quiet PySem.F.plain_extend_loop _, ?_⟩) (by rw [List.size_toArray]; omega) (by show (its.toArray.push key).size ≤ sizeLine + 1; rw [Array.size_push, List.size_toArray]; omega))
    have I2 := I1.lset (its' := its ++ [key]) (f := (·.push key)) (t' := s.toks) (ys := acc ++ [kV kk]) upd_same e (by simp) (r2.append (.cons (relV_key (show keyIs kk key = true from hkey)) .nil)) (by rw [List.length_append, List.length_singleton]; omega)
    rw [upd_upd] at I2
    have nqd : d ≠ q := fun z => by
      rw [z, upd_same] at hd
      cases hd
    refine ih (i + 1) (acc ++ [kV kk]) _ (by omega) (by omega) ?_ I2 (by rw [upd_ne nqd] at hd ⊢; exact hd) ⟨by rw [upd_ne nit.symm] at f0 ⊢; exact f0, f1, f2, f3, f4, f5⟩ ?_ fin
    · rw [List.take_add_one, hkv, List.map_append, ← hacc]
      rfl
    · have st3 : h'.IsKeyIter it d (i + 1) kvs.length ep' := by rw [hl]; exact st2
      obtain ⟨oi, e1, c1, d1⟩ := st3
      exact ⟨oi, (Heap.get?_update_other _ _ nit).trans e1, c1, d1⟩

/-- the hint of the length: __len__ runs -/
theorem own_len {a dx d : Addr} {fs : List (Str × V)} {kvs : List (Key × V)} {Q : Bool → Shared → Prop} (LF : LnFact X.K C fl) (FL : FnOk X.prog X.w X.K X.mg X.base CX0 n fl fdL ["self"] (spLen C g)) (bL : Binds X.K fdL ["self"] []) (sb : Sub X (n + 1) A1) (I : Inv X pins σ H s)
    (ha : H a = some (.ins C dx fs)) (hl : fs.lookup g = some (.ref d)) (hd : Rd H d (.dK kvs)) (hz : kvs.length ≤ sizeLine) (h : ∀ (b : Bool) s', Inv X pins σ H s' → Q b s') : wpAny (model X.prog X.w) A1 (Builtin.List.listLengthHint (.ref a)) Q X.xe s := by
  obtain ⟨ox, od, J, _⟩ := inst_of I ha
  obtain ⟨m, hF⟩ := I.fr
  unfold Builtin.List.listLengthHint
  refine wpAny_bind (wpAny_bind (J.type.here ((PySem.W.looks_findIn I.kIn LF.ln).here ?_)))
  refine PySem.W.KFB.if_not rfl ?_
  refine if_yes (by rfl) ?_
  refine wpAny_bind (wpAny_rule ?_)
  refine wpAny_bind (wpAny_attempt ?_)
  refine PySem.W.len_K hF I.ok.mod.kin J LF.ln LF.fn ?_
  have run := run_sub (X := X.nox) (vs := [.ref a]) FL ⟨sb.in1.room, sb.in1.fr⟩ bL (E := E0) pass0 (I.wish _) (.cons rfl .nil) (Q := fun v H' => v = .int kvs.length ∧ H' = H) ⟨a, dx, fs, d, kvs, rfl, ha, hl, hd, rfl, rfl⟩
  refine wpAny_mono run (fun u s' q => ?_) fun e s' q => (show False from q).elim
  obtain ⟨v, H', I', r, ev, eH⟩ := q
  subst ev
  rw [eH] at I'
  obtain ⟨t, rfl⟩ := r
  have h63 := line63
  refine ⟨⟨by omega, by omega⟩, ?_⟩
  refine wpAny_bind (wpAny_pure ?_)
  show wpAny _ _ (if Builtin.List.listTooLong _ = true then _ else _) _ _ _
  rw [show Builtin.List.listTooLong ((kvs.length : Int)).toNat = false from notLongL (by simpa using hz)]
  exact wpAny_pure (h _ _ ((I'.tok _).unwish))

/-- list(o) -/
def rListOwn (C : Addr) (g : Str) : List V → Hp → VK → Prop := fun xs H Q => ∃ a dx fs d kvs, xs = [.ref a] ∧ H a = some (.ins C dx fs) ∧ fs.lookup g = some (.ref d) ∧ H d = some (.dK kvs) ∧ ∀ q, H q = none → Q (.ref q) (upd H q (.lst (kvs.map fun kv => kV kv.1)))
theorem upd_comm {H : Hp} {a b : Addr} {o u : HO} (h : a ≠ b) : upd (upd H a o) b u = upd (upd H b u) a o := by
  funext c
  unfold upd
  by_cases e1 : c = a
  · by_cases e2 : c = b
    · exact absurd (e1.symm.trans e2) h
    · simp [e1, h]
  · by_cases e2 : c = b
    · simp [e2, Ne.symm h]
    · simp [e1, e2]
theorem upd_back {H : Hp} {a : Addr} {o : HO} (h : H a = some o) : upd H a o = H := by
  funext c
  by_cases e : c = a
  · rw [e, upd_same, h]
  · rw [upd_ne e]
theorem call_listOwn (hc : X.calm = true) (O : OwnIt X.prog X.w X.K X.mg X.base n C f g) (T : ItFact X.K C f) (LF : LnFact X.K C fl) (FL : FnOk X.prog X.w X.K X.mg X.base CX0 n fl fdL ["self"] (spLen C g)) (bL : Binds X.K fdL ["self"] []) (hr : Room (n + 3) X.A) : CallR X (.type "list") (rListOwn C g) := by
  intro pins s σ H xs us Q I rv h
  obtain ⟨a, dx, fs, d, kvs, rfl, ha, hl, hd, hq⟩ := h
  obtain ⟨u, rfl, ru⟩ := rv.one
  cases ru
  have sb : Sub X (n + 1) X.A.in1.in1 := Sub.in1 (Sub.in1 (⟨hr, rfl⟩ : Sub X (n + 1 + 2) X.A))
  refine callType_codes (Q₁ := fun obj s₁ => obj = .ref s.heap.objs.size ∧ s₁ = { s with heap := s.heap.push { cls := .type "list", data := .seq #[] } }) PySem.F.called_list (PySem.F.typeCall_list_1 _) PySem.F.entry_list_init
    (code_list_new _ ⟨rfl, rfl⟩) fun obj s₁ h₁ => ?_
  obtain ⟨rfl, rfl⟩ := h₁
  have hS : (s.heap.push { cls := .type "list", data := .seq #[] }).get? s.heap.objs.size = some { cls := .type "list", data := .seq #[] } := Heap.get?_push_size _ rfl
  refine ⟨⟨_, hS, rfl⟩, PySem.F.args_list_init_2 _ _, ?_⟩
  have fr : H s.heap.objs.size = none := I.hok.fresh (Nat.le_refl _)
  have I1 : Inv X pins σ (upd H s.heap.objs.size (.lst [])) { s with heap := s.heap.push { cls := .type "list", data := .seq #[] } } := I.lnew (its := []) (t' := s.toks) .nil (Nat.zero_le _)
  generalize hqq : s.heap.objs.size = q at *
  have hq := hq q fr
  have nqa : a ≠ q := ne_of_none ha fr
  have nqd : d ≠ q := ne_of_none hd fr
  have nad : a ≠ d := ne_of ha hd (fun z => nomatch z)
  show wpAny _ _ (do let old ← Builtin.List.listItems (.ref q); Builtin.List.listUpdate (.ref q) (fun _ => #[]); letGo old.toList.reverse; Builtin.List.listExtendWith (.ref q) (.ref a) .none) _ _ _
  refine wpAny_bind ?_
  unfold Builtin.List.listItems
  refine wpAny_bind (wpAny_seqItems hS rfl (wpAny_pure ?_))
  show wpAny _ _ (updateSeq q (fun _ => #[]) >>= fun _ => letGo (#[] : Array Value).toList.reverse >>= fun _ => Builtin.List.listExtendWith (.ref q) (.ref a) .none) _ _ _
  refine wpAny_bind (wpAny_updateSeq hS rfl ?_)
  have I2 := I1.lset (f := fun _ => #[]) (its := []) (its' := []) (ys := []) (t' := s.toks) upd_same hS rfl .nil (Nat.zero_le _)
  rw [upd_upd] at I2
  refine wpAny_bind (wpAny_letGo ?_)
  -- the dict is locked meanwhile
  have hd2 : upd H q (.lst []) d = some (.dK kvs) := by rw [upd_ne nqd]; exact hd
  have ha2 : upd H q (.lst []) a = some (.ins C dx fs) := by rw [upd_ne nqa]; exact ha
  have hz : kvs.length ≤ sizeLine := (I.hok d _ hd).1
  obtain ⟨od, I3⟩ := I2.lock hd2 True.intro
  have eU : upd (upd H q (.lst [])) d (.frz od (.dK kvs)) = upd (upd H d (.frz od (.dK kvs))) q (.lst []) := upd_comm nqd.symm
  rw [eU] at I3
  have ha3 : upd (upd H d (.frz od (.dK kvs))) q (.lst []) a = some (.ins C dx fs) := by rw [upd_ne nqa, upd_ne nad]; exact ha
  have hd3 : upd (upd H d (.frz od (.dK kvs))) q (.lst []) d = some (.frz od (.dK kvs)) := by rw [upd_ne nqd, upd_same]
  obtain ⟨ox, oe, J, _⟩ := inst_of I3 ha3
  unfold Builtin.List.listExtendWith
  refine wpAny_bind (J.type.here ?_)
  have h1 : Builtin.List.listSameRef (.ref q) (.ref a) = false := by simp [Builtin.List.listSameRef, nqa.symm]
  have h2 : (Value.ref C == Value.type "list") = false := rfl
  have h3 : (Value.ref C == Value.type "tuple") = false := rfl
  simp only [h1, h2, h3, Bool.or_false, Bool.false_eq_true, if_false]
  refine wpAny_bind (pyit_dic O T ⟨sb.room.mono (by omega), sb.fr⟩ I3 ha3 hl hd3 fun it es ep s4 I4 e1 e2 eo fp => ?_)
  have pin4 : ∀ b ∈ [it], FpOk X pins (upd (upd H d (.frz od (.dK kvs))) q (.lst [])) b := fun b hb => by
    have e : b = it := by simpa using hb
    rw [e]
    exact fp
  have I4' := I4.pinned pin4 (fun b hb => by
    have e : b = it := by simpa using hb
    rw [e]
    exact ⟨_, eo, fun v z => nomatch z⟩)
  refine wpAny_bind (wpAny_holding (own_len LF FL bL sb I4' ha3 hl (.inr ⟨od, hd3⟩) hz fun b s5 I5' => ?_))
  have eo5 : s5.heap.get? it = some (keyIt d kvs.length ep) := (I5'.pin (it, keyIt d kvs.length ep) (List.mem_append_right _ (List.mem_append_right _ (mem_pinsAt (by simp) eo)))).1
  have I5 := I5'.unpinned
  -- what stands at the end
  have fin : ∀ s', Inv X pins σ (upd (upd H d (.frz od (.dK kvs))) q (.lst (kvs.map fun kv => kV kv.1))) s' → wants (fun r s₂ => r = .none ∧ EP X pins σ Q (.ref q) s₂) X.xe (.ok (.ret .none)) s' := fun s' I' => by
    have e' : upd (upd H d (.frz od (.dK kvs))) q (.lst (kvs.map fun kv => kV kv.1)) d = some (.frz od (.dK kvs)) := by rw [upd_ne nqd, upd_same]
    have I6 := I'.unlock e' (I2.nofrz hd2 True.intro)
    rw [upd_comm nqd.symm, upd_upd, upd_back hd] at I6
    exact ⟨rfl, .ref q, _, I6, rfl, hq⟩
  have loop : ∀ s6 : Shared, Inv X pins σ (upd (upd H d (.frz od (.dK kvs))) q (.lst [])) s6 → s6.heap.get? it = some (keyIt d kvs.length ep) →
      codeAny (model X.prog X.w) X.A.in1 (.builtin "list.extend.loop" ⟨[.ref q, .ref it, .none], []⟩) (wants (fun r s₂ => r = .none ∧ EP X pins σ Q (.ref q) s₂) X.xe) s6 := fun s6 I6 e6 =>
    dic_loop (A1 := X.A.in1) (I.ok.hd hc) e1 kvs.length 0 [] s6 (Nat.sub_zero _) (Nat.zero_le _) rfl I6 hd3 fp ⟨_, e6, rfl, rfl⟩ fin
  have nit : q ≠ it := fun z => by
    have z0 := fp.1
    rw [← z, upd_same] at z0
    cases z0
  refine wpAny_ite_split (fun _ => ?_) (fun _ => wpAny_pure ⟨plainId_quiet PySem.F.plain_extend_loop _, loop s5 I5 eo5⟩)
  refine wpAny_bind (wpAny_rule ?_)
  refine wpAny_bind ?_
  show wpAny _ _ (updateSeq q (·.push .none) >>= fun _ => updateSeq q (·.pop)) _ _ _
  obtain ⟨z, its, c, r3, hl3, e3⟩ := I5.lstM (l := q) upd_same
  cases r3
  refine wpAny_bind (wpAny_updateSeq e3 rfl ?_)
  have I7 := I5.lset (f := (·.push Value.none)) (its' := [Value.none]) (ys := [.non]) (t' := s5.toks) upd_same e3 (by simp) (.cons rfl .nil) (by rw [List.length_singleton, sizeLine_eq]; decide)
  have e7 := (Heap.get?_update_other s5.heap (Obj.mapSeq (·.push Value.none)) nit).trans eo5
  obtain ⟨z4, its4, k4, r4, hl4, e4⟩ := I7.lstM (l := q) upd_same
  obtain ⟨u4, rfl, ru4⟩ := r4.one
  refine wpAny_updateSeq e4 rfl ?_ (by show 1 ≤ sizeLine; rw [sizeLine_eq]; decide) (by show 0 ≤ sizeLine + 1; exact Nat.zero_le _)
  have I8 := I7.lset (f := (·.pop)) (its := [u4]) (its' := []) (ys := []) (t' := s5.toks) upd_same e4 (by rfl) .nil (Nat.zero_le _)
  rw [upd_upd, upd_upd] at I8
  exact wpAny_pure ⟨plainId_quiet PySem.F.plain_extend_loop _, loop _ I8 ((Heap.get?_update_other _ (Obj.mapSeq (·.pop)) nit).trans e7)⟩
end
end OTR
end

section
set_option Elab.async false
set_option linter.all false
set_option maxRecDepth 100000
set_option maxHeartbeats 4000000
/-! list(d.values()). -/
namespace OTR
open PySem PySem.Spec PyProof.Rows L2
def tListVals (te : TE) : TE := fun σ H Q => te σ H fun x H1 => ∃ d kvs, x = .ref d ∧ H1 d = some (.dK kvs) ∧ ∀ p, H1 p = none → Q (.ref p) (upd H1 p (.lst (kvs.map (·.2))))
theorem vals_snd : ∀ {kvs : List (Key × V)} {vs : List (Key × Value)}, KV kvs vs → Vals (kvs.map (·.2)) (vs.map (·.2))
  | _, _, .nil => .nil
  | _, _, .cons h t => .cons h.2 (vals_snd t)
section
variable {X : Cx} {e : Expr} {te : TE} {p apos cpos pos : Pos}
theorem pe_listVals (hc : X.calm = true) (he : PE X e te) (hg : Gl X "list") (hm : X.mg "list" = none) (hbase : attributeBase e "values" X.env (eval e X.env) = eval e X.env := by rfl) (hline : (apos.endLine == cpos.line) = true := by rfl)
    (hs : starEach [.Call (.Attribute e "values" apos) [] [] cpos] X.env = (false, eval (.Call (.Attribute e "values" apos) [] [] cpos) X.env) :: starEach [] X.env := by rfl) :
    PE X (.Call (.Name "list" p) [.Call (.Attribute e "values" apos) [] [] cpos] [] pos) (tListVals te) := by
  refine ⟨fun pins s σ H Q I hq => ?_⟩
  refine wpAny_Call_Name_kw (ld_blt I hg hm (show bootBuiltins ("list" : Str) = some (.type "list") by decide +kernel) ?_)
  refine PyProof.Rows.callWith_type1 ?_ hs rfl
  rw [hs]
  show wpAny _ _ (spliced ((false, eval (.Call (.Attribute e "values" apos) [] [] cpos) X.env) :: backTo pos (starEach [] X.env))) _ _ s
  refine Calls.spliced_cons ?_
  refine wpAny_Call_method (T := "dict") (id := "dict.values") hbase rfl hline F.plainAttrs_dict F.slot_dict_values F.type_dict_values (thn (he.run pins s σ H _ I hq) fun u s1 ⟨x, H1, I1, rx, d, kvs, ex, hd, q⟩ => ?_)
  subst ex
  obtain rfl : u = Value.ref d := rx
  obtain ⟨hz, hs0, vs, kv, hdo⟩ := I1.hok d _ hd
  obtain ⟨ep, hat⟩ := hdo.dictAt
  have lk : kvs.length = vs.length := Paired.length kv
  have I2 : Inv X pins σ H1 { s1 with heap := s1.heap.push { cls := .type "dict_values", data := .fields #[.ref d] } } := I1.kept (t' := s1.toks) fun b ob q => Heap.get?_push_of_some _ q
  refine ⟨hdo.typeIs, hdo.mapOf.noDict, ?_⟩
  show wpAny _ _ (callWith cpos (.builtin "dict.values") [.ref d] [] []) _ X.xe s1
  refine method_meetsIn F.slot_dict_values F.entry_dict_values rfl (PySem.evalArgs_none ⟨rfl, hdo.typeIs, F.args_dict_values_1 _, _, meets_dict_values (mixKind X.prog X.w) d hs0, ⟨vs, hdo⟩, ?_⟩)
  refine Calls.spliced_nil ?_
  have ne : s1.heap.objs.size ≠ d := fun z => by
    have := I1.hok.lt hd
    rw [z] at this
    exact Nat.lt_irrefl _ this
  refine PySem.W.kdl_call (PySem.W.kdl_values (knd := mixKind X.prog X.w) (kvs := vs) (ep := ep) (d := d) (r := s1.heap.objs.size)) (I1.ok.hd hc) ⟨⟨_, Heap.get?_push_size _ rfl, rfl, rfl⟩, hat.push _⟩ (by omega) fun h' tk acc c hk hS hacc => ?_
  refine ⟨.ref (s1.heap.push { cls := .type "dict_values", data := .fields #[.ref d] }).objs.size, _, I2.laid (t' := tk) hk (Nat.le_refl _) (show ObjOk X.prog X.w _ _ _ (.lst (kvs.map (·.2))) from ⟨by rw [List.length_map]; exact hz, acc.toList, c, ?_, by rw [Array.toArray_toList]; exact hS⟩), rfl, q _ (I2.hok.fresh (Nat.le_refl _))⟩
  have e1 : acc.toList = vs.map (·.2) := PySem.W.kdl_vals_eq acc.toList (by rw [Array.length_toList]; exact hacc.1) fun j v hv => hacc.2 j v (by rw [← Array.getElem?_toList]; exact hv)
  rw [e1]
  exact vals_snd kv
end
end OTR
end

section
set_option Elab.async false
set_option linter.all false
set_option maxRecDepth 100000
set_option maxHeartbeats 4000000
/-! sorted(a list of tuples): a new list of the same tuples, in the order of their data. -/
namespace OTR
open PySem PySem.Spec PyProof.Rows L2
section
variable {β : Type}
def rSortDat (K : PySem.W.Frag) (enc : β → PyData) : List V → Hp → VK → Prop := fun xs H Q => ∃ (l : Addr) (bs : List (Addr × β)), xs = [.ref l] ∧ SqL K H l (bs.map fun b => V.ref b.1) ∧ (∀ b ∈ bs, Dp K H (.ref b.1) (enc b.2)) ∧
  PySem.W.AllAlike (bs.map fun b => enc b.2) ∧ PySem.W.Sortable (bs.map fun b => enc b.2) ∧ (∀ b ∈ bs, (enc b.2).depth ≤ 8) ∧
  ∀ p, H p = none → Q (.ref p) (upd H p (.lst ((bs.mergeSort (PySem.W.dataLe false fun b => enc b.2)).map fun b => V.ref b.1)))
theorem each_refs : ∀ (bs : List (Addr × β)), PySem.W.EachIs (fun (v : Value) (b : Addr × β) => v = .ref b.1) (bs.map fun b => Value.ref b.1) bs
  | [] => .nil
  | _ :: bs => .cons rfl (each_refs bs)
theorem each_ref_eq : ∀ {out : List Value} {bs : List (Addr × β)}, PySem.W.EachIs (fun (v : Value) (b : Addr × β) => v = .ref b.1) out bs → out = bs.map fun b => Value.ref b.1
  | _, _, .nil => rfl
  | _, _, .cons h t => by rw [List.map_cons, ← each_ref_eq t, h]
theorem vals_ref_eq : ∀ {bs : List (Addr × β)} {us : List Value}, Vals (bs.map fun b => V.ref b.1) us → us = bs.map fun b => Value.ref b.1
  | [], _, h => by cases h; rfl
  | _ :: _, _, h => by
    cases h with
    | cons r t =>
      cases r
      rw [vals_ref_eq t] <;> rfl
theorem ref_vals : ∀ (bs : List (Addr × β)), Vals (bs.map fun b => V.ref b.1) (bs.map fun b => Value.ref b.1)
  | [] => .nil
  | _ :: bs => .cons rfl (ref_vals bs)
theorem each_reads {h : Heap} {enc : β → PyData} : ∀ {bs : List (Addr × β)}, (∀ b ∈ bs, ∃ as, Reads h (.ref b.1) (enc b.2) as) → PySem.W.EachIs (fun (v : Value) (b : Addr × β) => ∃ as, Reads h v (enc b.2) as) (bs.map fun b => Value.ref b.1) bs
  | [], _ => .nil
  | b :: bs, h => .cons (h b List.mem_cons_self) (each_reads fun c hc => h c (List.mem_cons_of_mem _ hc))
variable {X : Cx}
theorem cr_sortDat (hu : X.A.units + 64 < cLine) (enc : β → PyData) : CallR X (.builtin "sorted") (rSortDat X.K enc) := by
  intro pins s σ H xs us Q I r h
  obtain ⟨l, bs, rfl, hq, hd, hal, hso, hdep, q⟩ := h
  obtain ⟨u, rfl, ru⟩ := vals1 r
  cases ru
  obtain ⟨its, rv, pl, hz⟩ := I.list hq
  have ei := vals_ref_eq rv
  subst ei
  rw [List.length_map] at hz
  refine PySem.W.sorted_data (β := Addr × β) (R := fun v b => v = .ref b.1) (bs := bs) (enc := fun b => enc b.2) pl.isList (each_refs bs) (each_reads fun b hb => Dp.reads I _ _ _ (hd b hb) rfl) hal hso hz (fun b hb => by have := hdep b hb; omega) fun out ho eo => ?_
  have eo2 := each_ref_eq eo
  obtain ⟨c, hc⟩ := PyProof.Rows.sortedAll_at s.heap (bs.map fun b => Value.ref b.1) out.toArray
  have hn : H (s.heap.objs.size + 1) = none := I.hok.fresh (Nat.le_succ _)
  refine ⟨.ref (s.heap.objs.size + 1), _, I.laid (t' := s.toks) (fun _ _ => PyProof.Rows.sortedAll_old) (Nat.le_succ _) (show ObjOk X.prog X.w _ _ _ (.lst _) from ⟨?_, out, c, ?_, hc⟩), rfl, q _ hn⟩
  · rw [List.length_map, List.length_mergeSort]; exact hz
  · rw [eo2]
    exact ref_vals _
end
end OTR
end

section
set_option Elab.async false
set_option linter.all false
set_option maxRecDepth 100000
set_option maxHeartbeats 4000000
namespace OTR
open PySem PySem.Spec PyProof.Rows L2
section
variable {X : Cx} {CX : CXT} {k i : Nat} {C f : Addr} {fd : FuncData} {ps : List Str} {sp : Sp} {E : XK} {x : Str} {e : Expr} {es : List Expr} {t : TA} {p pos : Pos}
/-- c(e, ..), c a local name that holds the class at C -/
def tMakeV (i : Nat) (C : Addr) (sp : Sp) (E : XK) (t : TA) : TE := fun σ H Q => σ[i]? = some (some (.ref C)) ∧ tMake C sp [] E t σ H Q
theorem pe_makeV (M : Mk X.K C f) (F : FnOk X.prog X.w X.K X.mg X.base CX k f fd ps sp) (hr : Room (k + 1) X.A) (hb : Binds X.K fd ps []) (hx : Passes CX X E) (hN : X.N[i]? = some x) (hv : Vis X.env.scope x) (ha : PA X (e :: es) t)
    (hd : (x == ("__debug__" : Str)) = false := by decide) (hcd : (x == ("__classdict__" : Str)) = false := by decide)
    (he : starEach (e :: es) X.env = (false, eval e X.env) :: starEach es X.env := by rfl) (hpl : (backTo pos (starEach es X.env)).any (·.1) = false := by rfl) : PE X (.Call (.Name x p) (e :: es) [] pos) (tMakeV i C sp E t) := by
  refine ⟨fun pins s σ H Q I h => ?_⟩
  obtain ⟨hs, h⟩ := h
  refine wpAny_Call_Name_kw (thn ((pe_var (pos := p) (i := i) hN hv hd hcd).run pins s σ H (fun v H1 => v = .ref C ∧ H1 = H) I ⟨.ref C, hs, rfl, rfl⟩) fun u s1 ⟨v, H1, I1, r1, ev, eH⟩ => ?_)
  subst ev
  rw [eH] at I1
  cases r1
  refine PySem.W.callWith_K (h₀ := X.base) I.ok.mod.kin M.kp (thn (ha.run pos pins s1 σ H _ I1 h) fun us s2 ⟨vs, H2, I2, r, q⟩ => ⟨I2.kIn, ?_⟩) he hpl
  exact run_make M F hr hb .nil hx I2 r q
/-- a test that is a value's truth by the class's own __bool__ -/
theorem pt_own {ta : TE} {a : Expr} {C : Addr} {r : V → Hp → (Bool → Hp → Prop) → Prop} (hr : TruR X r) (ha : PE X a ta) (he : ∀ whole, isTrue a X.env whole = (do let v ← whole; standAt a.pos; holding [v] (truthy v)) := by intro _; rfl) :
    PT X a (fun σ H Q => ta σ H fun x H' => r x H' Q) := by
  refine ⟨fun pins s σ H Q I h => ?_⟩
  exact isTrue_plain (thn (ha.run pins s σ H _ I h) fun v s1 ⟨x, H1, I1, r1, q1⟩ => hr pins s1 σ H1 x v Q I1 r1 q1) (he _)
end
end OTR
end

section
set_option Elab.async false
set_option linter.all false
set_option maxRecDepth 100000
set_option maxHeartbeats 4000000
/-! y = {k: v for ..} as a statement -/
namespace OTR
open PySem PySem.Spec PyProof.Rows L2
variable {X : Cx}
theorem ps_setDc {i : Nat} {y : Str} {py : Pos} {kx vx tg iter : Expr} {ifs : List Expr} {scope : Scope} {own : List (Str × Nat)} {pos spos : Pos} {wi : TI} {g : TG} {tt : TT} {tk tv : TE} (hc : X.calm = true) (hN : X.N.Nodup) (hy : X.N[i]? = some y) (hyl : X.env.scope.names.lookup y = some .local)
    (hsw : swapsWith (.DictComp kx vx [⟨tg, iter, ifs, 0⟩] scope pos) (some (.Name y py)) spos.line X.env = pure true) (hi : PI X tg iter wi) (ok : BlkOk X.N X.env.scope scope own)
    (hg : ∀ (s : Shared) (H : Hp) (C : Addr) (cl : List (Str × Addr)) (fp : List Addr), PG (X.blk s H scope (compEnvC scope cl C X.env) fp) tg g) (ht : ∀ (s : Shared) (H : Hp) (C : Addr) (cl : List (Str × Addr)) (fp : List Addr), PTs (X.blk s H scope (compEnvC scope cl C X.env) fp) ifs tt)
    (hk : ∀ (s : Shared) (H : Hp) (C : Addr) (cl : List (Str × Addr)) (fp : List Addr), PE (X.blk s H scope (compEnvC scope cl C X.env) fp) kx tk)
    (he : ∀ (s : Shared) (H : Hp) (C : Addr) (cl : List (Str × Addr)) (fp : List Addr), PE (X.blk s H scope (compEnvC scope cl C X.env) fp) vx tv) (hs : ∀ x, foldedSetIterable iter X.env x = pure x := by intro _; rfl) :
    PS X (.Assign [.Name y py] (.DictComp kx vx [⟨tg, iter, ifs, 0⟩] scope pos) spos) (tAsg (tDc wi g tt tk tv (own.map (·.2))) (gName i)) := by
  refine ⟨fun pins s σ H D I h => ?_⟩
  rw [exec_Assign_Name_used _ _ _ _ hsw]
  refine wpAny_bind (wpAny_standAt (wpAny_bind ?_))
  show wpAny _ X.A (do let _ ← comprehension (.DictComp kx vx [⟨tg, iter, ifs, 0⟩] scope pos) scope X.env (firstIterPos [⟨tg, iter, ifs, 0⟩] pos) newDict false (eval iter X.env) (some (assign (.Name y py) X.env))) _ _ s
  have h : tDc wi g tt tk tv (own.map (·.2)) σ H (fun x H1 => gName i x σ H1 D.nx) := h
  refine wpAny_bind (thn (dc_core (Qf := fun _ s' => SP X pins D .next s') hc hN I hi ok hg ht hk he hs h fun L C s' m H' I' q hn f => ?_) fun _ s' hq => wpAny_pure (wpAny_pure hq))
  show wpAny _ _ (assign (.Name y py) X.env (.ref L)) _ _ _
  refine wpAny_assign_Name (store_ok2 (v := V.ref L) I' hN hy (.inl hyl) rfl (fun s2 I2 ⟨a, sb, ha⟩ => ?_) (.inr hyl))
  obtain ⟨f0, f1, f2, f3, f4, f5⟩ := f
  have haC : C ≠ a := by
    rcases ha with z | z
    · rw [z]; exact f1
    · exact fun e => f4 y a z e.symm
  refine ⟨m, hn.sameBut sb haC, fun h3 sb3 => ?_⟩
  exact ⟨_, H', I2.turned (t' := s2.toks) (fun b o hb e => (sb3.2 b hb).trans e) f0 f1 f3 f4 f5, q⟩
theorem swd_true {kx vx : Expr} {gs : List Comprehension} {scope : Scope} {pos py : Pos} {y : Str} {l : Nat} {env : Env} (hk : env.scope.kind = .function) (hy : env.scope.names.lookup y = some .local) (hl : (py.line == pos.line) = true)
    (ha : (scope.names.any fun (n, k) => n == y && (k == .local || k == .cell)) = false) : swapsWith (.DictComp kx vx gs scope pos) (some (.Name y py)) l env = pure true := by
  have ky : env.kindOf y = some .local := hy
  have hb : env.blockKind = .function := by unfold Env.blockKind; rw [hk]; rfl
  unfold swapsWith
  simp only [hb, ky, ha, Expr.pos, hl]
  rfl
end OTR
end

section
set_option Elab.async false
set_option linter.all false
set_option maxRecDepth 100000
set_option maxHeartbeats 4000000
/-! a set of pairs of texts: the questions asked of a pair, the table's record, the search for a pair that is not there -/
namespace OTR
open PySem PySem.Spec PyProof.Rows L2
abbrev hsW (P : Program) (w : World) (k : Str × Str) : Int := tupleKeyHash (PySem.strKind P w) [k.1, k.2]
abbrev IsW (P : Program) (w : World) (h : Heap) (k : Str × Str) (b : Addr) : Prop := IsTupleKey (PySem.strKind P w) h [k.1, k.2] b
section
variable {P : Program} {w : World} {A : Around} {E : Value → Shared → Prop} {s : Shared}
theorem isW_two {h : Heap} {k : Str × Str} {b : Addr} (x : IsW P w h k b) : ∃ o n t1 t2, h.get? b = some o ∧ o.cls = .type "tuple" ∧ o.data = .seq #[.str k.1 t1, .str k.2 t2] n := by
  obtain ⟨o, items, n, ho, hc, hd, hi⟩ := x
  obtain ⟨its⟩ := items
  cases hi with
  | cons h1 r =>
    cases r with
    | cons h2 r2 =>
      cases r2
      obtain ⟨t1, rfl⟩ := Value.isStrOf_shape h1
      obtain ⟨t2, rfl⟩ := Value.isStrOf_shape h2
      exact ⟨o, n, t1, t2, ho, hc, hd⟩
theorem isW_key {h : Heap} {k k' : Str × Str} {b : Addr} (x : IsW P w h k b) (y : IsW P w h k' b) : k = k' := by
  have e : [k.1, k.2] = [k'.1, k'.2] := IsTupleKey.inj x y
  injection e with e1 e2
  injection e2 with e2 _
  exact Prod.ext e1 e2
theorem isW_keep {h h' : Heap} {k : Str × Str} {b : Addr} (x : IsW P w h k b) (q : ∀ o, h.get? b = some o → h'.get? b = some o) : IsW P w h' k b := by
  obtain ⟨o, items, n, ho, r⟩ := x
  exact ⟨o, items, n, q o ho, r⟩
theorem ofClass_str (n : Nat) (k : Str) (t : Tok) : ofAClassStatement n (.str k t) = pure false := by cases n <;> rfl
theorem hashBy_str (n : Nat) (k : Str) (t : Tok) : hashByValue n (.str k t) = pure false := by cases n <;> rfl
theorem ofClass_pair {k : Str × Str} {b : Addr} {Q : Bool → Shared → Prop} (hk : IsW P w s.heap k b) (h : Q false s) : wpAny (model P w) A (ofAClassStatement 8 (.ref b)) Q E s := by
  have hT := hk.typeIs
  obtain ⟨o, n, t1, t2, ho, hc, hd⟩ := isW_two hk
  unfold ofAClassStatement
  refine wpAny_bind (wpAny_typeOf hT ?_)
  dsimp only
  rw [if_pos (show (("tuple" : String) == "tuple") = true by decide)]
  refine wpAny_bind (wpAny_pure ?_)
  rw [if_neg (by decide)]
  refine wpAny_bind (wpAny_seqItems ho hd ?_)
  dsimp only
  refine wpAny_bind ?_
  rw [← Array.forIn_toList, List.forIn_cons, ofClass_str]
  refine wpAny_bind (wpAny_bind (wpAny_pure ?_))
  rw [if_neg (by decide)]
  refine wpAny_pure ?_
  dsimp only
  rw [List.forIn_cons, ofClass_str]
  refine wpAny_bind (wpAny_bind (wpAny_pure ?_))
  rw [if_neg (by decide)]
  refine wpAny_pure ?_
  dsimp only
  rw [List.forIn_nil]
  exact wpAny_pure (wpAny_pure h)
theorem hashBy_pair {k : Str × Str} {b : Addr} {Q : Bool → Shared → Prop} (hk : IsW P w s.heap k b) (h : Q false s) : wpAny (model P w) A (hashByValue 8 (.ref b)) Q E s := by
  have hT := hk.typeIs
  obtain ⟨o, n, t1, t2, ho, hc, hd⟩ := isW_two hk
  unfold hashByValue
  refine wpAny_bind (wpAny_specialOf hT F.slot_tuple_hash.lookup ?_)
  show wpAny _ _ (seqItems? (.ref b) >>= _) _ _ s
  refine wpAny_bind (wpAny_seqItems ho hd ?_)
  refine wpAny_bind ?_
  show wpAny _ _ (forIn (#[Value.str k.1 t1, Value.str k.2 t2] : Array Value) _ _) _ _ s
  rw [← Array.forIn_toList, List.forIn_cons, hashBy_str]
  refine wpAny_bind (wpAny_bind (wpAny_pure ?_))
  rw [if_pos (by decide)]
  refine wpAny_pure ?_
  dsimp only
  exact wpAny_pure (wpAny_pure h)
/-- to look for a pair among pairs shows nothing -/
theorem seen_pair {k : Str × Str} {b : Addr} {Q : Bool → Shared → Prop} (hk : IsW P w s.heap k b) (h : Q false s) : ∀ ys : List Value, (∀ y ∈ ys, ∃ k' c, y = Value.ref c ∧ IsW P w s.heap k' c) →
    wpAny (model P w) A (searchCouldBeSeen (.ref b) ys) Q E s := by
  intro ys hy
  unfold searchCouldBeSeen
  refine wpAny_bind (wpAny_forIn_list _ (fun rest r s' => r.1 = none ∧ s' = s ∧ ∀ y ∈ rest, ∃ k' c, y = Value.ref c ∧ IsW P w s.heap k' c) _ ?_ ?_ _ _ ⟨rfl, rfl, hy⟩)
  · rintro v rest r s' ⟨hr, rfl, hall⟩
    obtain ⟨k', c, rfl, hc⟩ := hall v List.mem_cons_self
    have more := fun u hu => hall u (List.mem_cons_of_mem _ hu)
    dsimp only
    cases hv : (b == c || (carriedByValue (.ref b) && carriedByValue (.ref c))) with
    | true => exact wp_if_pos rfl (wpAny_pure ⟨rfl, rfl, more⟩)
    | false =>
      refine wp_if_neg (by decide) ?_
      refine wpAny_bind (wpAny_eqIsQuiet_tuple hk ?_)
      rw [if_neg (by decide)]
      refine wpAny_bind (wpAny_eqIsQuiet_tuple hc ?_)
      rw [if_neg (by decide)]
      refine wpAny_bind (ofClass_pair hk ?_)
      rw [if_neg (by decide)]
      refine wpAny_bind (ofClass_pair hc ?_)
      rw [if_neg (by decide)]
      exact wpAny_pure ⟨rfl, rfl, more⟩
  · rintro ⟨r1, r2⟩ s' ⟨hr, rfl, _⟩
    simp only at hr
    subst hr
    exact wpAny_pure h

/-! ### the record of a set of pairs -/
def rwW (P : Program) (w : World) (p : Addr × (Str × Str)) : Int × Value := (hsW P w p.2, .ref p.1)
structure Tw (P : Program) (w : World) (h : Heap) (a : Addr) (L : List (Addr × (Str × Str))) (es : Array (Int × Value)) (ep : Nat) (t : SetTable) : Prop where
  ob : ∃ o, h.get? a = some o ∧ o.ExactSet ∧ o.data = .set es ep t
  rows : es.toList = L.map (rwW P w)
  tab : TabOk t (L.map fun p => hsW P w p.2)
  nd : (L.map (·.2)).Nodup
  tup : ∀ p ∈ L, IsW P w h p.2 p.1
  led : w.params.followText "set-order" = true ∨ t.led = true
  room : L.length * 5 < t.mask * 3
  few : L.length < 64
variable {a : Addr} {L : List (Addr × (Str × Str))} {es : Array (Int × Value)} {ep : Nat} {t : SetTable}
theorem rows_len (h : es.toList = L.map (rwW P w)) : es.size = L.length := by
  have e := congrArg List.length h
  rwa [Array.length_toList, List.length_map] at e
theorem rows_at (h : es.toList = L.map (rwW P w)) {i : Nat} {p : Addr × (Str × Str)} (e : L[i]? = some p) : es[i]? = some (rwW P w p) := by
  rw [← Array.getElem?_toList, h, List.getElem?_map, e] <;> rfl
theorem fits_of {n : Nat} {hs : List Int} (T : TabOk t hs) (hn : hs.length = n) (hm : n ≤ t.mask) : t.fits n = true := by
  have hz := T.sz
  unfold SetTable.fits SetTable.fill
  rw [T.dm, Bool.and_eq_true, beq_iff_eq, decide_eq_true_eq]
  show t.place.size = n ∧ t.place.size + 0 ≤ t.mask
  omega
theorem Tw.len (R : Tw P w s.heap a L es ep t) : es.size = L.length := rows_len R.rows
theorem Tw.fits (R : Tw P w s.heap a L es ep t) : t.fits es.size = true := by
  have h2 := R.len
  have h3 := R.room
  exact fits_of R.tab (by rw [List.length_map, h2]) (by omega)
theorem Tw.stays (R : Tw P w s.heap a L es ep t) : ¬ t.gaveWay = true := by
  unfold SetTable.gaveWay
  rw [mask_odd R.tab.mok]
  decide
theorem nth_clean (m : Nat) : ∀ (n : Nat) (p : SetTable.Probe), p.dummy = none → (nth m p n).dummy = none
  | 0, _, h => h
  | n + 1, p, h => by
    refine nth_clean m n (adv m p) ?_
    unfold adv
    split <;> exact h

/-- the search for a pair that the set has not: it ends at the first empty slot of the way -/
theorem srchW (R : Tw P w s.heap a L es ep t) {x : Addr} {k : Str × Str} (hx : IsW P w s.heap k x) (hu : A.units < cLine) (hno : k ∉ L.map (·.2)) {K : Nat} (hKf : K < 10 * SetTable.turns t.mask)
    (hK : way t.mask (hsW P w k) K ∉ t.place.toList) (hKb : ∀ c, c < K → way t.mask (hsW P w k) c ∈ t.place.toList) {Q : SetFound → Shared → Prop} (hQ : Q (.free (way t.mask (hsW P w k) K) false) s) :
    ∀ (f c : Nat) (stand : Option SetTable.Probe), stand.getD (t.probeStart (hsW P w k)) = nth t.mask (runAt t.mask (SetTable.bits (hsW P w k) % (t.mask + 1)) (SetTable.bits (hsW P w k))) c → c ≤ K → K - c < f →
      wpAny (model P w) A (setSearchFrom a (.ref x) (hsW P w k) true f stand) Q E s := by
  intro f
  induction f with
  | zero => intro c stand _ _ hf; exact absurd hf (Nat.not_lt_zero _)
  | succ f ih =>
    intro c stand hst hc hf
    obtain ⟨o, ho, hex, hd⟩ := R.ob
    have hfit := R.fits
    generalize hst0 : runAt t.mask (SetTable.bits (hsW P w k) % (t.mask + 1)) (SetTable.bits (hsW P w k)) = p0 at hst ih
    have hw : ∀ q, way t.mask (hsW P w k) q = (nth t.mask p0 q).j := fun q => by rw [← hst0]
    rw [setSearchFrom_succ]
    refine wpAny_bind (wpAny_setState_of ho hd hfit ?_)
    dsimp only
    refine wp_if_neg R.stays ?_
    have clean : (nth t.mask p0 c).dummy = none := nth_clean _ _ _ (by rw [← hst0]; rfl)
    have sh : ∀ q, nth t.mask (nth t.mask p0 c) q = nth t.mask p0 (c + q) := fun q => (nth_add t.mask c p0 q).symm
    have hKc : c + (K - c) = K := by omega
    have spec := go_spec t R.tab.ris R.tab.dm (fun i => (es[i]?.map (·.1)).getD 0) (hsW P w k) (10 * SetTable.turns t.mask) (K - c) (nth t.mask p0 c) clean (by omega)
      (fun q hq => by rw [sh, ← hw]; exact hKb (c + q) (by omega)) (by rw [sh, ← hw, hKc]; exact hK)
    have probe_is : t.probe (fun i => (es[i]?.map (·.1)).getD 0) (hsW P w k) (stand.getD (t.probeStart (hsW P w k))) = SetTable.probe.go t (fun i => (es[i]?.map (·.1)).getD 0) (hsW P w k) (10 * SetTable.turns t.mask) (nth t.mask p0 c) := by rw [hst] <;> rfl
    rw [probe_is]
    rcases spec with ⟨q, i, hq, hi, hh, hbef, hpr⟩ | ⟨hbef, hpr⟩
    · rw [hpr]
      dsimp only
      rw [sh, ← hw] at hi
      have hil : i < L.length := by
        have h1 := (List.getElem?_eq_some_iff.mp hi).1
        have h2 := R.tab.sz
        rw [List.length_map] at h2
        rw [Array.length_toList] at h1
        omega
      obtain ⟨p, hp⟩ : ∃ p, L[i]? = some p := ⟨_, List.getElem?_eq_getElem hil⟩
      have hm : p ∈ L := List.mem_of_getElem? hp
      have hne : [p.2.1, p.2.2] ≠ [k.1, k.2] := fun e => hno (List.mem_map.mpr ⟨p, hm, by injection e with e1 e2; injection e2 with e2 _; exact Prod.ext e1 e2⟩)
      have go : wpAny (model P w) A (searchRest a (.ref x) (hsW P w k) true f es t (nth t.mask (nth t.mask p0 c) q).j i (nth t.mask (nth t.mask p0 c) (q + 1))) Q E s := by
        unfold searchRest
        rw [rows_at R.rows hp]
        show wpAny _ _ (holding [Value.ref p.1] (eqBool (.ref p.1) (.ref x)) >>= _) _ _ s
        refine wpAny_bind (wpAny_holding (wpAny_eqBool_tuple hu (R.tup p hm) hx ?_))
        rw [decide_eq_false hne]
        refine wpAny_bind (wpAny_setState_of ho hd hfit ?_)
        dsimp only
        refine wp_if_neg (by decide) ?_
        rw [sameMem]
        dsimp only
        rw [if_pos rfl, sh, ← hw, slot_live R.tab.ris hi]
        dsimp only
        rw [rows_at R.rows hp]
        dsimp only [rwW]
        refine wpAny_bind (wpAny_isSame_ref_self (wpAny_bind (wpAny_pure ?_)))
        rw [if_pos rfl]
        dsimp only
        refine wp_if_neg (by decide) ?_
        refine ih (c + (q + 1)) _ ?_ (by omega) (by omega)
        rw [sh] <;> rfl
      by_cases hl : t.led = true
      · refine wp_if_neg (by rw [hl]; decide) ?_
        exact go
      · refine wp_if_pos (by rw [Bool.eq_false_iff.mpr hl]; decide) ?_
        refine wpAny_bind (seen_pair hx ?_ _ fun y hy => ?_)
        · refine wp_if_neg (by decide) ?_
          exact go
        · obtain ⟨e, he, rfl⟩ := List.mem_map.mp hy
          have he2 : e ∈ es := by
            have z : e ∈ es ∧ e.1 = hsW P w k := by simpa using he
            exact z.1
          have he3 : e ∈ es.toList := Array.mem_toList_iff.mpr he2
          rw [R.rows] at he3
          obtain ⟨p2, hp2, rfl⟩ := List.mem_map.mp he3
          exact ⟨p2.2, p2.1, rfl, R.tup p2 hp2⟩
    · rw [hpr, sh, ← hw, hKc]
      exact wpAny_pure hQ
end
end OTR
end

section
set_option Elab.async false
set_option linter.all false
set_option maxRecDepth 100000
set_option maxHeartbeats 4000000
/-! a set of pairs of texts: one more pair, the table laid anew, set(list) -/
namespace OTR
open PySem PySem.Spec PyProof.Rows L2
theorem range_at {α : Type} (L : List α) : (List.range L.length).filterMap (fun i => L[i]?) = L := by
  have e : (List.range L.length).map (fun i => L[i]?) = L.map some := by
    apply List.ext_getElem?
    intro i
    rw [List.getElem?_map, List.getElem?_map]
    rcases Nat.lt_or_ge i L.length with h | h
    · rw [List.getElem?_range h, List.getElem?_eq_getElem h]
      simp [List.getElem?_eq_getElem h]
    · rw [List.getElem?_eq_none (by rw [List.length_range]; exact h), List.getElem?_eq_none h]
      rfl
  have e2 := congrArg (List.filterMap id) e
  rw [List.filterMap_map, List.filterMap_map] at e2
  simpa [Function.comp_def] using e2
theorem pick_rows {α β : Type} (f : α → β) (L : List α) (es : Array β) (hr : es.toList = L.map f) (order : Array Nat) : (order.filterMap (es[·]?)).toList = (order.toList.filterMap (fun i => L[i]?)).map f := by
  rw [Array.toList_filterMap, List.map_filterMap]
  congr 1
  funext i
  rw [← Array.getElem?_toList, hr, List.getElem?_map]
theorem pick_perm {α : Type} (L : List α) (order : Array Nat) (hp : order.toList.Perm (List.range L.length)) : (order.toList.filterMap (fun i => L[i]?)).Perm L := by
  have h := hp.filterMap (fun i => L[i]?)
  rwa [range_at] at h
theorem hashes_at (es : Array (Int × Value)) : ∀ (l : List Nat), (∀ i ∈ l, i < es.size) → l.map (fun i => (es.map (·.1)).getD i 0) = (l.filterMap (fun i => es[i]?)).map (·.1)
  | [], _ => rfl
  | i :: l, h => by
    have hi := h i List.mem_cons_self
    rw [List.map_cons, hashes_at es l fun j hj => h j (List.mem_cons_of_mem _ hj), List.filterMap_cons_some (Array.getElem?_eq_getElem hi), List.map_cons]
    congr 1
    rw [Array.getD_eq_getD_getElem?, Array.getElem?_map, Array.getElem?_eq_getElem hi] <;> rfl
theorem perm_of_map {α β : Type} (f : α → β) : ∀ (L : List α) (l : List β), l.Perm (L.map f) → ∃ L1 : List α, l = L1.map f ∧ L1.Perm L
  | [], l, h => ⟨[], by rw [List.Perm.eq_nil h] <;> rfl, .refl _⟩
  | x :: L, l, h => by
    have hm : f x ∈ l := h.mem_iff.mpr List.mem_cons_self
    obtain ⟨l1, l2, rfl⟩ := List.append_of_mem hm
    have h2 : (l1 ++ l2).Perm (L.map f) := (List.perm_middle.symm.trans h).cons_inv
    obtain ⟨L1, e, p⟩ := perm_of_map f L _ h2
    obtain ⟨A1, A2, rfl, rfl, rfl⟩ := List.append_eq_map_iff.mp e
    exact ⟨A1 ++ x :: A2, by rw [List.map_append, List.map_cons], List.perm_middle.trans (p.cons x)⟩
section
variable {P : Program} {w : World} {A : Around} {E : Value → Shared → Prop} {s : Shared}
variable {a : Addr} {L : List (Addr × (Str × Str))} {es : Array (Int × Value)} {ep : Nat} {t : SetTable}
theorem seekW (R : Tw P w s.heap a L es ep t) {x : Addr} {k : Str × Str} (hx : IsW P w s.heap k x) (hu : A.units < cLine) (hno : k ∉ L.map (·.2)) {Q : SetFound → Shared → Prop}
    (hQ : ∀ K, way t.mask (hsW P w k) K ∉ t.place.toList → (∀ c, c < K → way t.mask (hsW P w k) c ∈ t.place.toList) → Q (.free (way t.mask (hsW P w k) K) false) s) : wpAny (model P w) A (setSearch a (.ref x) (hsW P w k) true) Q E s := by
  have hr := R.room
  obtain ⟨K, h1, h2, h3⟩ := R.tab.first (by rw [List.length_map]; omega) (hsW P w k)
  have hb : SetTable.turns t.mask ≤ 142 := by
    unfold SetTable.turns
    rcases R.tab.mok with e | e | e <;> omega
  exact srchW R hx hu hno h1 h2 h3 (hQ K h2 h3) 100000 0 none rfl (Nat.zero_le _) (by omega)
/-- a pair is no set -/
theorem isW_apart {h h' : Heap} {k : Str × Str} {b : Addr} {o : Obj} (x : IsW P w h k b) (ho : h.get? a = some o) (hd : o.data = .set es ep t) (hs : Heap.SameBut a h h') : IsW P w h' k b := by
  obtain ⟨u, n, t1, t2, hu, hc, hud⟩ := isW_two x
  refine isW_keep x fun v hv => ?_
  have ne : b ≠ a := fun e => by
    rw [e, ho] at hu
    injection hu with hu
    rw [← hu, hd] at hud
    exact nomatch hud
  rw [hs.2 b ne, hv]
/-- the table laid anew -/
theorem layW {o : Obj} (ho : s.heap.get? a = some o) (hex : o.ExactSet) (hd : o.data = .set es ep t) (hr : es.toList = L.map (rwW P w)) (T : TabOk t (L.map fun p => hsW P w p.2)) (nd : (L.map (·.2)).Nodup) (tup : ∀ p ∈ L, IsW P w s.heap p.2 p.1)
    (ld : w.params.followText "set-order" = true ∨ t.led = true) (few : L.length < 64) (hfl : L.length ≤ t.mask) {wanted M : Nat} (hw : SetTable.sizeAbove wanted - 1 = M) (hM : MaskOk M) (hn : L.length * 5 < M * 3) {Q : Unit → Shared → Prop}
    (hQ : ∀ h' L' es' ep' t', Heap.SameBut a s.heap h' → Tw P w h' a L' es' ep' t' → L'.Perm L → Q () { s with heap := h' }) : wpAny (model P w) A (setRelay a wanted) Q E s := by
  have hz := rows_len hr
  have hfit : t.fits es.size = true := fits_of T (by rw [List.length_map, hz]) (by omega)
  have hM' : M ≤ 127 := by rcases hM with e | e | e <;> omega
  obtain ⟨t', order, e, hp, T', em, el, -, -⟩ := relaid_ok t (hs := es.map (·.1)) (wanted := wanted) hw hM (by rw [Array.size_map]; omega)
  rw [Array.size_map, hz] at hp
  have hin : ∀ i ∈ order.toList, i < es.size := fun i hi => by
    rw [hz]
    exact List.mem_range.mp (hp.mem_iff.mp hi)
  have r1 := pick_rows (rwW P w) L es hr order
  have r2 := pick_perm L order hp
  have r3 : order.toList.map (fun i => (es.map (·.1)).getD i 0) = (order.toList.filterMap (fun i => L[i]?)).map fun p => hsW P w p.2 := by
    rw [hashes_at es _ hin, ← Array.toList_filterMap, r1, List.map_map] <;> rfl
  rw [r3] at T'
  generalize order.toList.filterMap (fun i => L[i]?) = L2 at r1 r2 T'
  have hz2 := (rows_len r1).trans r2.length_eq
  rw [setRelay_eq]
  refine wpAny_bind (wpAny_setState_of ho hd hfit ?_)
  dsimp only
  refine wp_if_neg (by rw [sizeLine_eq]; omega) ?_
  rw [e]
  dsimp only
  refine wpAny_bind ?_
  refine wp_if_neg (by rw [hz2, hz]; simp) ?_
  refine wpAny_pure ?_
  dsimp only
  refine wpAny_storeSet_of ho hd ?_ (by rw [hz2, sizeLine_eq]; omega)
  have sb : Heap.SameBut a s.heap (s.heap.update a (Obj.putSet (order.filterMap (es[·]?)) t')) := Heap.SameBut.update ..
  exact hQ _ L2 _ (ep + 1) t' sb { ob := ⟨_, store_at ho hd, ⟨hex.1, hex.2.1, hex.2.2⟩, rfl⟩, rows := r1, tab := T', nd := (r2.map (·.2)).nodup_iff.mpr nd, tup := fun p hpm => isW_apart (tup p (r2.mem_iff.mp hpm)) ho hd sb, led := (by rw [el]; exact ld), room := (by rw [r2.length_eq, em]; exact hn), few := (by rw [r2.length_eq]; exact few) } r2
/-- one more pair -/
theorem addW (R : Tw P w s.heap a L es ep t) {x : Addr} {k : Str × Str} (hx : IsW P w s.heap k x) (hu : A.units < cLine) (hno : k ∉ L.map (·.2)) (hfew : L.length + 1 < 64) {Q : Bool → Shared → Prop}
    (hQ : ∀ h' L' es' ep' t', Heap.SameBut a s.heap h' → Tw P w h' a L' es' ep' t' → L'.Perm ((x, k) :: L) → Q true { s with heap := h' }) : wpAny (model P w) A (setAddHashed a (.ref x) (hsW P w k)) Q E s := by
  obtain ⟨o, ho, hex, hd⟩ := R.ob
  have hfit := R.fits
  have hroom := R.room
  have hlen := R.len
  unfold setAddHashed
  refine wpAny_holding ?_
  rw [show (100000 : Nat) = 99999 + 1 from rfl, setAddHashedIn_succ]
  refine wpAny_bind (wpAny_setState_of ho hd hfit ?_)
  dsimp only
  refine wp_if_neg (by simp [byScan, Value.scannable]) ?_
  refine wpAny_bind (seekW R hx hu hno fun K hK hb => ?_)
  dsimp only
  refine wpAny_bind (wpAny_setState_of ho hd hfit ?_)
  dsimp only
  obtain ⟨q1, q2, q3, q4, q5, -, -, -, q9⟩ := R.tab.put hK hb
  generalize t.put (way t.mask (hsW P w k) K) = pt at q1 q3 q4 q5 q9 ⊢
  obtain ⟨t1, p⟩ := pt
  dsimp only at q1 q3 q4 q5 q9 ⊢
  rw [← q1] at q2 q3
  have pm := put_perm L p (x, k)
  have e3 : (L.map fun p => hsW P w p.2).take p ++ hsW P w k :: (L.map fun p => hsW P w p.2).drop p = (L.take p ++ (x, k) :: L.drop p).map fun p => hsW P w p.2 := by
    rw [List.map_append, List.map_cons, List.map_take, List.map_drop]
  rw [e3] at q3
  have rows1 : (SetTable.insertAt es p (hsW P w k, Value.ref x)).toList = (L.take p ++ (x, k) :: L.drop p).map (rwW P w) := by
    rw [SetTable.toList_insertAt, R.rows, List.map_append, List.map_cons, List.map_take, List.map_drop] <;> rfl
  generalize SetTable.insertAt es p (hsW P w k, Value.ref x) = es1 at rows1 ⊢
  generalize L.take p ++ (x, k) :: L.drop p = L1 at pm rows1 q3
  have n1 : L1.length = L.length + 1 := pm.length_eq
  have z1 := (rows_len rows1).trans n1
  have nd1 : (L1.map (·.2)).Nodup := (pm.map (·.2)).nodup_iff.mpr (List.nodup_cons.mpr ⟨hno, R.nd⟩)
  have bv : ∀ (G : Bool → Sem Bool), (∀ b, wpAny (model P w) A (G b) Q E s) → wpAny (model P w) A (if t1.plain = true then hashByValue 8 (.ref x) >>= G else pure true >>= G) Q E s := fun G h => by
    split
    · exact wpAny_bind (hashBy_pair hx (h _))
    · exact wpAny_bind (wpAny_pure (h _))
  refine bv _ fun b => ?_
  have q10 : t1.fill = L1.length := by rw [q9, List.length_map, n1]
  have two : ∃ t2 : SetTable, t2 = (if b = true then t1 else { t1 with plain := false }) := ⟨_, rfl⟩
  obtain ⟨t2, e2⟩ := two
  have facts : TabOk t2 (L1.map fun p => hsW P w p.2) ∧ t2.mask = t.mask ∧ t2.led = t.led ∧ t2.fill = L1.length := by
    rw [e2]
    cases b with
    | true => exact ⟨q3, q4, q5, q10⟩
    | false => exact ⟨⟨q3.ris, q3.dm, q3.sz, q3.mok, q3.bd, q3.reach⟩, q4, q5, q10⟩
  rw [← e2]
  clear e2 q3 q4 q5 q9 q10 bv
  obtain ⟨q3, q4, q5, q9⟩ := facts
  refine wpAny_bind (wpAny_storeSet_of ho hd ?_ (by rw [z1, sizeLine_eq]; omega))
  have sb : Heap.SameBut a s.heap (s.heap.update a (Obj.putSet es1 t2)) := Heap.SameBut.update ..
  have ho1 := store_at (es' := es1) (t' := t2) ho hd
  generalize s.heap.update a (Obj.putSet es1 t2) = h1 at sb ho1 ⊢
  have tup1 : ∀ p ∈ L1, IsW P w h1 p.2 p.1 := fun p hp => by
    rcases List.mem_cons.mp (pm.mem_iff.mp hp) with e | hp
    · rw [e]; exact isW_apart hx ho hd sb
    · exact isW_apart (R.tup p hp) ho hd sb
  have ld1 : w.params.followText "set-order" = true ∨ t2.led = true := by rw [q5]; exact R.led
  have hex1 : Obj.ExactSet { o with data := .set es1 (ep + 1) t2 } := ⟨hex.1, hex.2.1, hex.2.2⟩
  have tf : t2.tooFull = true ↔ L1.length * 5 ≥ t2.mask * 3 := by
    unfold SetTable.tooFull
    rw [decide_eq_true_eq, q9]
  by_cases hf : t2.tooFull = true
  · have hfull := tf.mp hf
    rw [q4, n1] at hfull
    have big : ∃ M, SetTable.sizeAbove (SetTable.grown (L.length + 1)) - 1 = M ∧ MaskOk M ∧ L1.length * 5 < M * 3 := by
      rcases R.tab.mok with e | e | e
      · have e4 : L.length = 4 := by omega
        exact ⟨31, by rw [e4, size_20], .inr (.inl rfl), by omega⟩
      · have e4 : L.length = 18 := by omega
        exact ⟨127, by rw [e4, size_76], .inr (.inr rfl), by omega⟩
      · omega
    obtain ⟨M, m1, m2, m3⟩ := big
    first
      | (refine wpAny_bind ?_; refine wp_if_pos (by simp [hf]) ?_)
      | (refine wp_if_pos (by simp [hf]) ?_; refine wpAny_bind ?_)
    rw [hlen]
    exact layW (s := { s with heap := h1 }) ho1 hex1 rfl rows1 q3 nd1 tup1 ld1 (by omega) (by rcases R.tab.mok with e | e | e <;> omega) m1 m2 m3 fun h2 L2 es2 ep2 t3 sb2 R2 pm2 => wpAny_pure (hQ h2 L2 es2 ep2 t3 (sb.trans sb2) R2 (pm2.trans pm))
  · first
      | refine wp_if_neg (by simp [hf]) ?_
      | (refine wpAny_bind ?_; refine wp_if_neg (by simp [hf]) ?_; refine wpAny_pure ?_)
    have hroom1 : ¬ L1.length * 5 ≥ t2.mask * 3 := fun z => hf (tf.mpr z)
    exact wpAny_pure (hQ h1 L1 es1 (ep + 1) t2 sb { ob := ⟨_, ho1, hex1, rfl⟩, rows := rows1, tab := q3, nd := nd1, tup := tup1, led := ld1, room := by omega, few := by omega } pm)

/-! ### the loop of set(list) -/
def Fills (P : Program) (w : World) (h0 : Heap) (ks : List (Addr × (Str × Str))) (S : Addr) (i : Nat) (h : Heap) : Prop :=
  (∀ b o, h0.get? b = some o → h.get? b = some o) ∧ ∃ L es ep t, Tw P w h S L es ep t ∧ L.Perm (ks.take i)
theorem Tw.move {h h' : Heap} (R : Tw P w h a L es ep t) (ha : ∀ o, h.get? a = some o → h'.get? a = some o) (ht : ∀ p ∈ L, IsW P w h' p.2 p.1) : Tw P w h' a L es ep t := by
  obtain ⟨o, ho, z⟩ := R.ob
  exact { R with ob := ⟨o, ha o ho, z⟩, tup := ht }
theorem Fills.move {h0 h h' : Heap} {ks : List (Addr × (Str × Str))} {S : Addr} {i : Nat} (F : Fills P w h0 ks S i h) (hk : ∀ p ∈ ks, IsW P w h0 p.2 p.1) (hS : ∀ o, h.get? S = some o → h'.get? S = some o)
    (h0' : ∀ b o, h0.get? b = some o → h'.get? b = some o) : Fills P w h0 ks S i h' := by
  obtain ⟨k, L, es, ep, t, R, pm⟩ := F
  exact ⟨h0', L, es, ep, t, R.move hS fun p hp => isW_keep (hk p (List.mem_of_mem_take (pm.mem_iff.mp hp))) (h0' p.1), pm⟩
theorem bareW {h : Heap} {a : Addr} (ho : h.get? a = some { cls := .type "set", dict := none, data := .set #[] 0 (.fresh 0 0 (!w.params.followText "set-order")) }) : ∃ L es ep t, Tw P w h a L es ep t ∧ L = [] := by
  refine ⟨[], #[], 0, _, { ob := ⟨_, ho, ⟨rfl, rfl, rfl⟩, rfl⟩, rows := rfl, tab := ⟨List.Pairwise.nil, rfl, rfl, .inl rfl, fun x hx => ?_, fun i h j hi => ?_⟩, nd := List.nodup_nil, tup := fun p hp => ?_, led := ?_, room := ?_, few := ?_ }, rfl⟩
  · cases hx
  · simp at hi
  · cases hp
  · show _ ∨ (!w.params.followText "set-order") = true
    cases w.params.followText "set-order" <;> simp
  · show 0 * 5 < 7 * 3
    decide
  · show 0 < 64
    decide
theorem loopW {I : Addr} {fp wr : List Addr} {G : Array GenState → Array GenState → Prop} {n : Nat} {Pv : Nat → Value → Prop} {St : Nat → Shared → Prop} {R : Result → Shared → Prop} (W : WalksS P w A.in1 I fp wr G n Pv St) (S : Addr) (hSf : S ∉ fp)
    (ks : List (Addr × (Str × Str))) (nd : (ks.map (·.2)).Nodup) (hn : n = ks.length) (few : ks.length < 64) (hval : ∀ i v, Pv i v → ∃ p, ks[i]? = some p ∧ v = .ref p.1) (h0 : Heap) (hk : ∀ p ∈ ks, IsW P w h0 p.2 p.1)
    (hS0 : h0.get? S = none) (hw0 : ∀ b ∈ wr, h0.get? b = none) (hu : A.in1.units < cLine) : ∀ (j i : Nat) (s : Shared), n - i = j → i ≤ n → St i s → Fills P w h0 ks S i s.heap →
      (∀ s', Moved (S :: wr) G s s' → Fills P w h0 ks S n s'.heap → R (.ok (.ret .none)) s') → codeAny (model P w) A (.builtin "set.update.loop" ⟨[.ref S, .ref I], []⟩) R s := by
  have far : S ∉ wr := fun h => hSf (W.sub _ h)
  have kept : ∀ {i : Nat} {s s' : Shared}, Moved wr G s s' → Fills P w h0 ks S i s.heap → Fills P w h0 ks S i s'.heap := fun hm F =>
    F.move hk (fun o e => hm.heap S o far e) fun b o e => hm.heap b o (fun hb => by rw [hw0 b hb] at e; cases e) (F.1 b o e)
  intro j
  induction j with
  | zero =>
    intro i s hj hi hst Z hR
    obtain rfl : i = n := by omega
    refine codeAny_builtin PyProof.Rows.F.entry_set_update_loop ?_
    rw [Around.under_plainId PyProof.Rows.F.plain_set_update_loop _]
    unfold Builtin.«set.update.loop»
    show wpAny _ A.in1 (pyNext (.ref I) >>= _) _ _ s
    exact wpAny_bind (W.done s _ _ hst fun s' hm => wpAny_pure (hR s' (hm.mono fun b hb => List.mem_cons_of_mem _ hb) (kept hm Z)))
  | succ j ih =>
    intro i s hj hi hst Z hR
    have hlt : i < n := by omega
    refine codeAny_builtin PyProof.Rows.F.entry_set_update_loop ?_
    rw [Around.under_plainId PyProof.Rows.F.plain_set_update_loop _]
    unfold Builtin.«set.update.loop»
    show wpAny _ A.in1 (pyNext (.ref I) >>= _) _ _ s
    refine wpAny_bind (W.item i s _ _ hlt hst fun v s' hP hst' hm => ?_)
    obtain ⟨p, hp, rfl⟩ := hval i v hP
    obtain ⟨old, L, es, ep, t, T, pm⟩ := kept hm Z
    have hx : IsW P w s'.heap p.2 p.1 := isW_keep (hk p (List.mem_of_getElem? hp)) (old p.1)
    have ke : ks.take (i + 1) = ks.take i ++ [p] := take_next hp
    have hno : p.2 ∉ L.map (·.2) := fun hm => by
      have h1 : p.2 ∈ (ks.take i).map (·.2) := (pm.map _).mem_iff.mp hm
      have h2 : ((ks.take (i + 1)).map (·.2)).Nodup := nd.sublist ((List.take_sublist _ _).map _)
      rw [ke, List.map_append] at h2
      exact (List.nodup_append.mp h2).2.2 _ h1 _ List.mem_cons_self rfl
    have len : L.length ≤ i := by
      rw [pm.length_eq, List.length_take]
      omega
    show wpAny _ A.in1 (holding [Value.ref p.1] (setAdd S (.ref p.1)) >>= _) _ _ s'
    refine wpAny_bind (wpAny_holding ?_)
    unfold setAdd
    refine wpAny_holding ?_
    refine wpAny_bind (wpAny_pyHash_tuple hu hx ?_)
    refine addW (s := { s' with toks := s'.toks + ([p.2.1, p.2.2].length + 1) }) T hx hu hno (by omega) fun h' L' es' ep' t' sb T' pm' => ?_
    have fr : ∀ b o, b ≠ S → s'.heap.get? b = some o → h'.get? b = some o := fun b o ne e => (sb.2 b ne).trans e
    have Z2 : Fills P w h0 ks S (i + 1) h' := ⟨fun b o e => fr b o (fun z => by rw [z, hS0] at e; cases e) (old b o e), L', es', ep', t', T', pm'.trans (by rw [ke]; exact (pm.cons p).trans (List.perm_append_singleton p _).symm)⟩
    refine wpAny_pure ⟨plainId_quiet PyProof.Rows.F.plain_set_update_loop _, ih (i + 1) _ (by omega) hlt (W.frame _ s' _ _ hst' (Nat.le_add_right _ _) fun b hb o e => fr b o (fun z => hSf (z ▸ hb)) e) Z2 fun s'' hm2 Z3 => hR s'' ?_ Z3⟩
    exact Moved.trans W.gtrans ((hm.mono fun b hb => List.mem_cons_of_mem _ hb).then_heap (Nat.le_add_right _ _) fun b o hb e => fr b o (fun z => hb (z ▸ List.mem_cons_self)) e) hm2
end
end OTR
end

section
set_option Elab.async false
set_option linter.all false
set_option maxRecDepth 100000
set_option maxHeartbeats 4000000
/-! set(list of pairs of texts, all different), sorted(that set) -/
namespace OTR
open PySem PySem.Spec PyProof.Rows L2
section
variable {P : Program} {w : World} {A : Around} {E : Value → Shared → Prop} {s : Shared}
abbrev bareO (w : World) : Obj := { cls := .type "set", dict := none, data := .set #[] 0 (.fresh 0 0 (!w.params.followText "set-order")) }
/-- set(list), by what the loop over the list does -/
theorem set_byLoop {l : Addr} {items : Array Value} {Z : Heap → Prop} {Q : Value → Shared → Prop} (hl : s.heap.IsList l items)
    (loop : ∀ R : Result → Shared → Prop, (∀ s', s'.gens = s.gens → s'.drawn = s.drawn → s'.os = s.os → Z s'.heap → R (.ok (.ret .none)) s') →
      codeAny (model P w) A.in1.in1 (.builtin "set.update.loop" ⟨[.ref s.heap.objs.size, .ref (s.heap.push (bareO w)).objs.size], []⟩) R { s with heap := (s.heap.push (bareO w)).push { cls := .type "list_iterator", data := .fields #[.ref l, .int 0 0] } })
    (h : ∀ h' tk, Z h' → Q (.ref s.heap.objs.size) { s with heap := h', toks := tk }) : wpAny (model P w) A (call (.type "set") [.ref l]) Q E s := by
  obtain ⟨mc, mt, a1⟩ := PySem.F.called_set.mro
  have a2 := PySem.F.called_set.made
  have a3 := PySem.F.called_set.sub
  have a4 := PySem.F.called_set.notType
  have a5 := PySem.F.called_set.canCreate
  have a6 := PySem.F.typeCall_set_1 (.ref l)
  refine wpAny_call (codeAny_of_tree ?_)
  show wpAny _ _ (callAny (.type "set") _) _ _ _
  refine wpAny_pure ⟨Code.quiet_builtin _ (by decide +kernel), codeAny_builtin PySem.F.entry_type_call ?_⟩
  rw [Around.under_plain (weight_type_call_type "set" [.ref l] []) rfl]
  repeat (any_goals (first | assumption | wp_step))
  refine codeAny_mono (code_set_led1 (.ref l) (E := E) (Q₁ := fun v s1 => v = .ref s.heap.objs.size ∧ s1 = { s with heap := s.heap.push (bareO w) }) ⟨rfl, rfl⟩) fun r s1 hr => ?_
  match r, hr with
  | .error e, hr => exact hr
  | .ok (.ret v), hr =>
    obtain ⟨rfl, rfl⟩ := hr
    have hS : (s.heap.push (bareO w)).get? s.heap.objs.size = some (bareO w) := Heap.get?_push_size _ rfl
    have hT : Shared.TypeIs { s with heap := s.heap.push (bareO w) } (.ref s.heap.objs.size) "set" := ⟨_, hS, rfl⟩
    have b1 := PySem.F.called_set.init.lookup
    have b2 := PySem.F.called_set.init.bind (.ref s.heap.objs.size)
    repeat (any_goals (first | assumption | wp_step))
    refine codeAny_mono (codeAny_call_builtin (R := wants (fun r s2 => r = .none ∧ ∃ h' tk, s2 = { s with heap := h', toks := tk } ∧ Z h') E) PySem.F.called_set.init.plain PySem.F.entry_set_init (check_set_init_1 hT ?_)) fun r2 s2 hr2 => ?_
    · obtain ⟨⟨lc, ld, lt, lo⟩, hol, hcl, nl, hdl⟩ := hl
      simp only at hcl hdl
      subst hcl; subst hdl
      have hol2 := Heap.get?_push_of_some (bareO w) hol
      have hl2 : (s.heap.push (bareO w)).IsList l items := ⟨_, hol2, rfl, nl, rfl⟩
      have n1 := PySem.F.sub_list_set
      have n2 := PySem.F.sub_list_frozenset
      have n3 : (Value.type "list" == Value.type "dict") = false := by decide
      unfold Builtin.«set.__init__» noKeywords Builtin.Frozenset.updateFrom
      generalize hPI : pyIter = PI
      wp_walk
      subst hPI
      refine wpAny_pyIter_list hl2 ?_
      refine wpAny_bind (wpAny_runValue (loop _ fun s' e1 e2 e3 z => ?_))
      obtain ⟨h', g', d', tk', os'⟩ := s'
      dsimp only at e1 e2 e3 z
      subst e1 e2 e3
      show wpAny _ _ _ _ _ _
      refine wpAny_pure ?_
      show wpAny _ _ (ret Value.none) _ _ _
      exact wpAny_pure ⟨rfl, h', tk', rfl, z⟩
    · match r2, hr2 with
      | .error e, hr2 => exact hr2
      | .ok (.ret v), hr2 =>
        obtain ⟨rfl, h', tk, rfl, z⟩ := hr2
        repeat (any_goals (first | assumption | wp_step))
        exact h _ _ z
/-- set(list of pairs, all different) -/
theorem setW {l : Addr} {items : Array Value} (ks : List (Addr × (Str × Str))) {Q : Value → Shared → Prop} (hh : A.handled = none) (hl : s.heap.IsList l items) (hit : items.toList = ks.map fun p => Value.ref p.1) (nd : (ks.map (·.2)).Nodup)
    (hk : ∀ p ∈ ks, IsW P w s.heap p.2 p.1) (few : ks.length < 64) (hu : A.units + 3 < cLine)
    (h : ∀ h' tk L es ep t, Tw P w h' s.heap.objs.size L es ep t → L.Perm ks → (∀ b o, s.heap.get? b = some o → h'.get? b = some o) → Q (.ref s.heap.objs.size) { s with heap := h', toks := tk }) : wpAny (model P w) A (call (.type "set") [.ref l]) Q E s := by
  have hz : items.size = ks.length := by
    rw [← Array.length_toList, hit, List.length_map]
  have gone : ∀ b, s.heap.objs.size ≤ b → s.heap.get? b = none := fun b hb => by
    cases q : s.heap.get? b with
    | none => rfl
    | some o => exact absurd (Heap.lt_size q) (Nat.not_lt_of_le hb)
  have n1 : (s.heap.push (bareO w)).objs.size = s.heap.objs.size + 1 := Heap.size_push ..
  obtain ⟨ol, hol, _⟩ := id hl
  have hlt := Heap.lt_size hol
  refine set_byLoop (Z := fun h' => Fills P w s.heap ks s.heap.objs.size ks.length h') hl (fun R hR => ?_) fun h' tk z => ?_
  · have hh3 : A.in1.in1.in1.handled = none := by simp [hh]
    have old : ∀ b o, s.heap.get? b = some o → ((s.heap.push (bareO w)).push { cls := .type "list_iterator", data := .fields #[.ref l, .int 0 0] }).get? b = some o := fun b o e => Heap.get?_push_of_some _ (Heap.get?_push_of_some _ e)
    have hS : ((s.heap.push (bareO w)).push { cls := .type "list_iterator", data := .fields #[.ref l, .int 0 0] }).get? s.heap.objs.size = some (bareO w) := Heap.get?_push_of_some _ (Heap.get?_push_size _ rfl)
    have hSf : s.heap.objs.size ∉ [(s.heap.push (bareO w)).objs.size, l] := fun hm => by
      rcases List.mem_cons.mp hm with e | hm
      · rw [n1] at e
        exact absurd e (Nat.ne_of_lt (Nat.lt_succ_self _))
      · exact absurd (List.mem_singleton.mp hm) (Nat.ne_of_gt hlt)
    refine loopW ((Walks.list hh3 _ l (by rw [n1]; exact Nat.ne_of_lt (Nat.lt_succ_of_lt hlt)) items).toS) s.heap.objs.size hSf ks nd hz few (fun i v hv => ?_) s.heap hk (gone _ (Nat.le_refl _)) (fun b hb => gone b (by rw [List.mem_singleton.mp hb, n1]; omega)) hu (items.size - 0) 0 _ (by omega) (Nat.zero_le _)
      ⟨⟨_, Heap.get?_push_size _ rfl, rfl, rfl⟩, ⟨ol, old l ol hol, (by assumption)⟩⟩ ⟨old, ?_⟩ fun s' hm Z => hR s' hm.gens hm.drawn hm.os (by rw [hz] at Z; exact Z)
    · have q : items.toList[i]? = some v := by rw [Array.getElem?_toList]; exact hv
      rw [hit, List.getElem?_map] at q
      obtain ⟨p, hp, e⟩ := Option.map_eq_some_iff.mp q
      exact ⟨p, hp, e.symm⟩
    · obtain ⟨L, es, ep, t, R, e⟩ := bareW (P := P) hS
      exact ⟨L, es, ep, t, R, by rw [e]; exact .refl _⟩
  · obtain ⟨old, L, es, ep, t, R, pm⟩ := z
    rw [List.take_length] at pm
    exact h h' tk L es ep t R pm old
abbrev prP (p : Str × Str) : PyData := .tuple [.str p.1, .str p.2]
theorem reads_isW {h : Heap} {k : Str × Str} {b : Addr} (x : IsW P w h k b) : Reads h (.ref b) (prP k) [] := by
  obtain ⟨o, n, t1, t2, ho, hc, hd⟩ := isW_two x
  exact .tuple ho hc hd (.cons (.str _ _) (.cons (.str _ _) .nil))
theorem each_pairs {h : Heap} {x : Addr} : ∀ (L : List (Addr × (Str × Str))), (∀ p ∈ L, IsW P w h p.2 p.1) → PySem.W.EachIs (fun (v : Value) (b : Addr × (Str × Str)) => ∃ as, Reads h v (prP b.2) as ∧ x ∉ as) (L.map fun b => Value.ref b.1) L
  | [], _ => .nil
  | b :: L, hL => .cons ⟨[], reads_isW (hL b List.mem_cons_self), List.not_mem_nil⟩ (each_pairs L fun c hc => hL c (List.mem_cons_of_mem _ hc))
/-- a set whose items are the tuples at the addresses of L -/
structure SetP0 (w : World) (h : Heap) (a : Addr) (L : List (Addr × (Str × Str))) : Prop where
  ex : ∃ o es ep t, h.get? a = some o ∧ o.ExactSet ∧ o.data = .set es ep t ∧ es.toList.map (·.2) = (L.map fun p => Value.ref p.1) ∧ Ris t.place.toList ∧ t.fits es.size = true ∧ (w.params.followText "set-order" = true ∨ t.led = true)
/-- sorted(a set of pairs) -/
theorem sortW {a : Addr} {L : List (Addr × (Str × Str))} {Q : Value → Shared → Prop} (R : SetP0 w s.heap a L) (hh : A.handled = none) (few : L.length < 64) (tup : ∀ p ∈ L, IsW P w s.heap p.2 p.1) (hu : A.units + 64 < cLine)
    (hQ : ∀ s' p (out : Array Value) (c : Nat) (L1 : List (Addr × (Str × Str))), (∀ b o, s.heap.get? b = some o → s'.heap.get? b = some o) → s'.gens = s.gens → s'.os = s.os → s.heap.objs.size ≤ p → s'.heap.get? p = some (seqObj "list" out c) →
      L1.Perm L → out.toList = ((L1.mergeSort (PySem.W.dataLe false fun b => prP b.2)).map fun b => Value.ref b.1) → Q (.ref p) s') : wpAny (model P w) A (call (.builtin "sorted") [.ref a]) Q E s := by
  obtain ⟨o, es, ep, t, ho, hex, hd, hes, hr, hf, hl⟩ := R.ex
  have hz : es.size = L.length := by
    have e := congrArg List.length hes
    rwa [List.length_map, List.length_map, Array.length_toList] at e
  refine Calls.call_function_entry kind_sorted plain_sorted entry_sorted (args_sorted1 _) ?_
  unfold Builtin.«sorted»
  refine wpAny_bind (m := checkCount "sorted" 1 1 _) (wpAny_pure ?_)
  refine wpAny_bind (collect_set (A := A.in1) hh ⟨o, ho, hex.1, hd⟩ hf (by unfold scanBound; omega) hr hl fun s1 vs k1 hz1 g1 o1 pm => ?_)
  rw [hes] at pm
  obtain ⟨L1, rfl, pL⟩ := perm_of_map _ L _ pm
  have few1 : L1.length < 64 := by rw [pL.length_eq]; exact few
  refine wpAny_bind (wpAny_newList ?_ (by rw [List.length_map, sizeLine_eq]; omega))
  have hoL : (s1.heap.push (seqObj "list" (L1.map fun p => Value.ref p.1).toArray 0)).get? s1.heap.objs.size = some (seqObj "list" (L1.map fun p => Value.ref p.1).toArray 0) := Heap.get?_push_size _ rfl
  have tup1 : ∀ p ∈ L1, IsW P w (s1.heap.push (seqObj "list" (L1.map fun p => Value.ref p.1).toArray 0)) p.2 p.1 := fun p hp => isW_keep (tup p (pL.mem_iff.mp hp)) fun o e => Heap.get?_push_of_some _ (k1 _ _ e)
  refine wpAny_bind (wpAny_holding (PySem.W.list_sort_data (s := { s1 with heap := s1.heap.push (seqObj "list" (L1.map fun p => Value.ref p.1).toArray 0) }) (R := fun v b => v = .ref b.1) (enc := fun b => prP b.2) (bs := L1) hoL (each_refs L1) (each_pairs L1 tup1)
    (PySem.W.AllAlike.of fun b c => by simp [PySem.W.alike, PySem.W.alikeAll]) (.tuples fun b => ⟨_, _, rfl⟩) (by rw [sizeLine_eq]; omega) (fun b _ => ?_) fun out ho2 eo => ?_))
  · have : (prP b.2).depth ≤ 4 := by simp [PyData.depth, PyData.depthAll]
    show A.units + 1 + 1 + (prP b.2).depth < cLine
    omega
  · obtain ⟨c, hc⟩ := sortedHeap_at (vs := L1.map fun p => Value.ref p.1) (out := out.toArray) hoL
    refine wpAny_pure ⟨_, rfl, hQ _ s1.heap.objs.size out.toArray c L1 (fun b u e => ?_) g1 o1 hz1 hc pL (each_ref_eq eo)⟩
    have q := k1 b u e
    have hlt := Heap.lt_size q
    show (sortedHeap (s1.heap.push (seqObj "list" (L1.map fun p => Value.ref p.1).toArray 0)) s1.heap.objs.size _ out.toArray).get? b = some u
    rw [sortedHeap_old (Nat.ne_of_lt hlt) (by rw [size_push']; exact Nat.lt_succ_of_lt hlt)]
    exact Heap.get?_push_of_some _ q
end
def SetPO (w : World) (a : Addr) (L : List (Addr × (Str × Str))) : HO := .ext fun h => SetP0 w h a L
def rSetP (K : PySem.W.Frag) (w : World) : List V → Hp → VK → Prop := fun xs H Q => ∃ (l : Addr) (ks : List (Addr × (Str × Str))), xs = [.ref l] ∧ SqL K H l (ks.map fun p => V.ref p.1) ∧ (∀ p ∈ ks, SqT K H p.1 [.str p.2.1, .str p.2.2]) ∧ (ks.map (·.2)).Nodup ∧ ks.length < 64 ∧
  ∀ a L, L.Perm ks → H a = none → Q (.ref a) (upd H a (SetPO w a L))
def rSortSetP (K : PySem.W.Frag) (w : World) : List V → Hp → VK → Prop := fun xs H Q => ∃ (a : Addr) (L : List (Addr × (Str × Str))), xs = [.ref a] ∧ H a = some (SetPO w a L) ∧ (∀ p ∈ L, SqT K H p.1 [.str p.2.1, .str p.2.2]) ∧ L.length < 64 ∧
  ∀ L1 : List (Addr × (Str × Str)), L1.Perm L → ∀ p, H p = none → Q (.ref p) (upd H p (.lst ((L1.mergeSort (PySem.W.dataLe false fun b => prP b.2)).map fun b => V.ref b.1)))
section
variable {X : Cx} {pins : List (Addr × Obj)} {σ : L2.St} {H : Hp} {s : Shared}
theorem isW_of (I : Inv X pins σ H s) {b : Addr} {k : Str × Str} (h : SqT X.K H b [.str k.1, .str k.2]) : IsW X.prog X.w s.heap k b := by
  obtain ⟨its, r, ⟨o, ho, hc, n, hd⟩, _⟩ := I.tuple h
  refine ⟨o, its.toArray, n, ho, hc, hd, ?_⟩
  show PySem.ItemsAre _ _ its
  cases r with
  | cons r1 r2 =>
    cases r2 with
    | cons r2 r3 =>
      cases r3
      obtain ⟨t1, rfl⟩ := r1
      obtain ⟨t2, rfl⟩ := r2
      exact .cons ((PySem.W.encStr X.prog X.w).is (h := s.heap) (.str k.1 t1)).1 (.cons ((PySem.W.encStr X.prog X.w).is (h := s.heap) (.str k.2 t2)).1 .nil)
theorem setP_new {H : Hp} {h : Heap} {a : Addr} {L : List (Addr × (Str × Str))} (R : SetP0 X.w h a L) : ObjOk X.prog X.w H h a (SetPO X.w a L) := by
  obtain ⟨o, es, ep, t, ho, r⟩ := id R.ex
  refine ⟨R, ⟨o, ho⟩, fun h1 h2 p k => ?_⟩
  obtain ⟨o', es', ep', t', ho', r'⟩ := SetP0.ex p
  exact ⟨o', es', ep', t', k o' ho', r'⟩
theorem cr_setP (hc : X.calm = true) (hu : X.A.units + 64 < cLine) : CallR X (.type "set") (rSetP X.K X.w) := by
  intro pins s σ H xs us Q I r h
  obtain ⟨l, ks, rfl, hl, hk, nd, few, q⟩ := h
  rw [Vals.ref1 r]
  obtain ⟨its, rv, pl, hz⟩ := I.list hl
  have hn : H s.heap.objs.size = none := I.hok.fresh (Nat.le_refl _)
  refine setW (P := X.prog) (w := X.w) ks (I.ok.hd hc) pl.isList (by simpa using vals_ref_eq rv) nd (fun p hp => isW_of I (hk p hp)) few (by omega) fun h' tk L es ep t R pm old => ?_
  have R0 : SetP0 X.w h' s.heap.objs.size L := by
    obtain ⟨o, ho, hex, hd⟩ := R.ob
    exact ⟨o, es, ep, t, ho, hex, hd, by rw [R.rows, List.map_map] <;> rfl, R.tab.ris, R.fits (s := { s with heap := h' }), R.led⟩
  exact ⟨.ref s.heap.objs.size, _, I.laid (t' := tk) old (Nat.le_refl _) (setP_new R0), rfl, q _ L pm hn⟩
theorem cr_sortSetP (hc : X.calm = true) (hu : X.A.units + 64 < cLine) : CallR X (.builtin "sorted") (rSortSetP X.K X.w) := by
  intro pins s σ H xs us Q I r h
  obtain ⟨a, L, rfl, ha, hk, few, q⟩ := h
  have R : SetP0 X.w s.heap a L := (I.hok a _ ha).1
  rw [Vals.ref1 r]
  refine sortW (P := X.prog) R (I.ok.hd hc) few (fun p hp => isW_of I (hk p hp)) hu fun s' p out c L1 old g o hp hg pm hout => ?_
  have hn : H p = none := I.hok.fresh hp
  have len : ((L1.mergeSort (PySem.W.dataLe false fun b => prP b.2)).map fun b => V.ref b.1).length ≤ sizeLine := by
    rw [List.length_map, List.length_mergeSort, pm.length_eq, sizeLine_eq]
    omega
  have hv : Vals ((L1.mergeSort (PySem.W.dataLe false fun b => prP b.2)).map fun b => V.ref b.1) out.toList := by
    rw [hout]
    exact ref_vals _
  have J := I.call (ch := []) (Un.laid (H := H) (o := .lst ((L1.mergeSort (PySem.W.dataLe false fun b => prP b.2)).map fun b => V.ref b.1)) old hp hn) (I.hok.laid old hp ⟨len, out.toList, c, hv, hg⟩) (g' := s'.gens) (d' := s'.drawn) (t' := s'.toks) (by rw [g]; exact I.bare) (fun _ z => nomatch z)
  obtain ⟨h', g', d', tk', os'⟩ := s'
  dsimp only at o J ⊢
  subst o
  exact ⟨.ref p, _, J, rfl, q L1 pm p hn⟩
end
end OTR
end

section
set_option Elab.async false
set_option linter.all false
set_option maxRecDepth 100000
set_option maxHeartbeats 4000000
/-! The text by places, what is asked of each def, the rules as they are used. -/
namespace OT
open PySem PySem.Spec PyProof.Rows L2 OTR
open C8 (Cal Mak Met pe_c pe_mk pe_mt pe_mt0)

/-- a def of the top, under the name x -/
structure DF (K : PySem.W.Frag) (mg : Str → Option Value) (x nm q : Str) (st : Stmt) (ps : List Str) : Prop where
  ex : ∃ (f : Addr) (fd : FuncData), Fun K nm q st f fd ∧ mg x = some (.ref f) ∧ Binds K fd ps []
/-- a method -/
structure MF (K : PySem.W.Frag) (C : Addr) (m q : Str) (st : Stmt) (ps : List Str) : Prop where
  ex : ∃ (f : Addr) (fd : FuncData), Cls K C ∧ Meth K C m f ∧ Fun K m q st f fd ∧ Binds K fd ps []
/-- __init__ -/
structure IF (K : PySem.W.Frag) (mg : Str → Option Value) (x : Str) (C : Addr) (q : Str) (st : Stmt) (ps : List Str) : Prop where
  ex : ∃ (f : Addr) (fd : FuncData), Mk K C f ∧ Fun K "__init__" q st f fd ∧ Binds K fd ps [] ∧ mg x = some (.ref C)
section
variable {P : Program} {w : World} {K : PySem.W.Frag} {mg : Str → Option Value} {base : Heap} {N ps : List Str} {k : Nat} {sp : Sp} {st : Stmt} {x nm q m : Str} {C : Addr}
abbrev Body (P : Program) (w : World) (K : PySem.W.Frag) (mg : Str → Option Value) (base : Heap) (N : List Str) (q : Str) (st : Stmt) (k : Nat) (sp : Sp) : Prop :=
  ∀ (f : Addr) (cdv : Value) (A : Around) (outer : List Env) (s : Shared) (H : Hp) (vs : List V) (Q : VK) (E : XK), Room k (A.deeper (envOfC q (defScope st) s.heap.objs.size f cdv)) → sp vs H Q E →
    ∃ t, PSs (cxOf CX0 P w K mg base N q (defScope st) f cdv A outer s H E).nox (defBody st) t ∧ t { nx := fun _ H' => Q .non H', rt := Q } (start N vs) H
theorem cal_of (D : DF K mg x nm q st ps) (S : FnScope N ps (defScope st)) (len : ∀ vs H Q E, sp vs H Q E → vs.length = ps.length) (b : Body P w K mg base N q st k sp) : Cal P w K mg base (k + 1) x sp [] := by
  obtain ⟨f, fd, F, hm, hb⟩ := D.ex
  exact ⟨f, fd, ps, [], F.ok S len (b f), hm, F.kp, hb, .nil⟩
theorem met_of (D : MF K C m q st ps) (S : FnScope N ps (defScope st)) (len : ∀ vs H Q E, sp vs H Q E → vs.length = ps.length) (b : Body P w K mg base N q st k sp) : Met P w K mg base (k + 1) C m sp [] := by
  obtain ⟨f, fd, c, me, F, hb⟩ := D.ex
  exact ⟨f, fd, ps, [], c, me, F.ok S len (b f), hb, .nil⟩
theorem mak_of (D : IF K mg x C q st ps) (S : FnScope N ps (defScope st)) (len : ∀ vs H Q E, sp vs H Q E → vs.length = ps.length) (b : Body P w K mg base N q st k sp) : Mak P w K mg base (k + 1) x C sp [] := by
  obtain ⟨f, fd, M, F, hb, hm⟩ := D.ex
  exact ⟨f, fd, ps, [], M, F.ok S len (b f), hm, hb, .nil⟩
end
/-! ### own operators, by Met -/
section
variable {X : Cx} {k : Nat} {C : Addr} {sp : Sp}
theorem add_of (m : Met X.prog X.w X.K X.mg X.base k C "__add__" sp []) (hr : Room k X.A) (hc : PySem.W.selfFirst X.K C = true) : OpR X (binaryOp .Add) (rDun C sp E0) := by
  obtain ⟨f, fd, ps, ds, c, me, F, hb, hd⟩ := m.ex
  cases hd
  exact op_dun F hr hb pass0 hc me.at_ me.fn
theorem sub_of (m : Met X.prog X.w X.K X.mg X.base k C "__sub__" sp []) (hr : Room k X.A) (hc : PySem.W.selfFirst X.K C = true) : OpR X (binaryOp .Sub) (rDun C sp E0) := by
  obtain ⟨f, fd, ps, ds, c, me, F, hb, hd⟩ := m.ex
  cases hd
  exact op_dun F hr hb pass0 hc me.at_ me.fn
theorem mul_of (m : Met X.prog X.w X.K X.mg X.base k C "__mul__" sp []) (hr : Room k X.A) (hc : PySem.W.selfFirst X.K C = true) : OpR X (binaryOp .Mult) (rDun C sp E0) := by
  obtain ⟨f, fd, ps, ds, c, me, F, hb, hd⟩ := m.ex
  cases hd
  exact op_dun F hr hb pass0 hc me.at_ me.fn
theorem deq_of (m : Met X.prog X.w X.K X.mg X.base k C "__eq__" sp []) (hr : Room k X.A) : OpR X (compareOp .Eq) (rDun C sp E0) := by
  obtain ⟨f, fd, ps, ds, c, me, F, hb, hd⟩ := m.ex
  cases hd
  exact op_deq F hr hb pass0 me.at_ me.fn
theorem dne_of (m : Met X.prog X.w X.K X.mg X.base k C "__eq__" sp []) (hr : Room (k + 1) X.A) (hne : PySem.W.findIn X.K (.ref C) "__ne__" = some (some (.builtin "object.__ne__"))) (ho : PySem.W.mroIn X.K C (.type "object") = some true) : OpR X (compareOp .NotEq) (rDne C sp E0) := by
  obtain ⟨f, fd, ps, ds, c, me, F, hb, hd⟩ := m.ex
  cases hd
  exact op_dne F hr hb pass0 hne ho me.at_ me.fn
theorem tru_of (m : Met X.prog X.w X.K X.mg X.base k C "__bool__" sp []) (hr : Room k X.A) : TruR X (rBool C sp E0) := by
  obtain ⟨f, fd, ps, ds, c, me, F, hb, hd⟩ := m.ex
  cases hd
  exact tru_own F hr hb pass0 me.at_ me.fn
theorem in_of (m : Met X.prog X.w X.K X.mg X.base k C "__contains__" sp []) (hr : Room k X.A) : OpR X (compareOp .In) (rCont C sp E0 false) := by
  obtain ⟨f, fd, ps, ds, c, me, F, hb, hd⟩ := m.ex
  cases hd
  exact op_cont F hr hb pass0 me.at_ me.fn
theorem nin_of (m : Met X.prog X.w X.K X.mg X.base k C "__contains__" sp []) (hr : Room k X.A) : OpR X (compareOp .NotIn) (rCont C sp E0 true) := by
  obtain ⟨f, fd, ps, ds, c, me, F, hb, hd⟩ := m.ex
  cases hd
  exact op_ncont F hr hb pass0 me.at_ me.fn
end
/-! ### facts of the top that the walks ask -/
structure Ads where
  R : Addr
  O : Addr
  C : Addr
  F : Addr
structure Fx (K : PySem.W.Frag) (mg : Str → Option Value) (a : Ads) : Prop where
  clR : Cls K a.R
  r1 : NoAttr K a.R "top"
  r2 : NoAttr K a.R "bottom"
  sf : PySem.W.selfFirst K a.R = true
  ne : PySem.W.findIn K (.ref a.R) "__ne__" = some (some (.builtin "object.__ne__"))
  ob : PySem.W.mroIn K a.R (.type "object") = some true
  mR : mg "Ratio" = some (.ref a.R)
  k1 : PySem.W.findIn K (.ref a.R) "__class__" = some (some (.builtin "object.__class__"))
  k2 : PySem.W.specialIn K (.builtin "object.__class__") "__get__" = some (some (.builtin "getset_descriptor.__get__"))
  k3 : PySem.W.takesIn K (.builtin "object.__class__") = some true
  clO : Cls K a.O
  o1 : NoAttr K a.O "names"
  o2 : NoAttr K a.O "above"
  clC : Cls K a.C
  c1 : NoAttr K a.C "shares"
  clF : Cls K a.F
  f1 : NoAttr K a.F "order"
  f2 : NoAttr K a.F "left"
  f3 : NoAttr K a.F "room"
  f4 : NoAttr K a.F "amounts"
  nLen : mg "len" = none
  nList : mg "list" = none
  nSorted : mg "sorted" = none
  nAbs : mg "abs" = none
  nBool : mg "bool" = none
  nInt : mg "int" = none
  nSum : mg "sum" = none
  nAll : mg "all" = none
  nAny : mg "any" = none
  nRange : mg "range" = none
  nTuple : mg "tuple" = none
  nDict : mg "dict" = none
  nSet : mg "set" = none
  nEnum : mg "enumerate" = none
  nIsi : mg "isinstance" = none
  nIter : mg "iter" = none
  mLet : ∃ t, mg "LETTERS" = some (.str "abcdefghijklmnopqrstuvwxyz" t)
  mSig : ∃ t, mg "SIGNS" = some (.str "abcdefghijklmnopqrstuvwxyz0123456789" t)
  mMost : ∃ t, mg "MOST_NAMES" = some (.int 8 t)
  mMostL : ∃ t, mg "MOST_LETTERS" = some (.int 8 t)
theorem kit_self {K : PySem.W.Frag} (t : Value) : PySem.W.kitOne K t t = some true := by
  unfold PySem.W.kitOne
  rw [if_pos (by simp)]
/-! ### heaps -/
/-- what stood stands, but at the places of D -/
def Keep (D : Addr → Prop) (H H' : Hp) : Prop := ∀ b o, H b = some o → ¬ D b → H' b = some o
theorem same_new {H : Hp} {p : Addr} {o : HO} (h : H p = none) : Same H (upd H p o) := fun b x e => by
  rw [upd_ne (ne_of_none e h)]
  exact e
theorem Same.new {H H1 : Hp} {p : Addr} {o : HO} (e : Same H H1) (h : H1 p = none) : Same H (upd H1 p o) := e.trans (same_new h)
/-- an object that H does not know may change -/
theorem Same.mut {H H1 : Hp} {p : Addr} {o : HO} (e : Same H H1) (h : H p = none) : Same H (upd H1 p o) := fun b x q => by
  rw [upd_ne (ne_of_none q h)]
  exact e b x q
theorem Same.tseq {K : PySem.W.Frag} {H H' : Hp} {a : Addr} {xs : List V} (e : Same H H') (h : SqT K H a xs) : SqT K H' a xs := by
  rcases h with (h | ⟨o, h⟩) | h
  · exact .inl (.inl (e _ _ h))
  · exact .inl (.inr ⟨o, e _ _ h⟩)
  · exact .inr h
theorem small {n : Nat} (h : n ≤ 100000) : n ≤ sizeLine := Nat.le_trans h (by decide)
theorem smallL {n : Nat} (h : n < 100000) : n < sizeLine := Nat.lt_of_lt_of_le h (by decide)
end OT
end

section
set_option Elab.async false
set_option linter.all false
set_option maxRecDepth 100000
set_option maxHeartbeats 4000000
namespace OT
open PySem PySem.Spec PyProof.Rows L2 OTR
open C8 (Cal Mak Met pe_c pe_mk pe_mt pe_mt0)
section
variable {P : Program} {w : World} {K : PySem.W.Frag} {mg : Str → Option Value} {base : Heap} {a : Ads}
/-! ### common -/
abbrev sCommon : Stmt := top 12
theorem scCommon : FnScope ["a", "b", "first", "second"] ["a", "b"] (defScope sCommon) := ⟨rfl, rfl, rfl, by decide +kernel, rfl, by decide +kernel, by decide +kernel⟩
def spCommon : Sp := fun vs H Q _ => ∃ i j : Int, vs = [.int i, .int j] ∧ Q (.int (Int.gcd i j : Nat)) H
theorem ok_common (T : Fx K mg a) (D : DF K mg "common" "common" "common" sCommon ["a", "b"]) : Cal P w K mg base 1 "common" spCommon [] := by
  refine cal_of D scCommon (fun vs H Q E h => ?_) (fun f cdv A outer s H vs Q E hr h => ?_)
  · obtain ⟨i, j, rfl, _⟩ := h
    rfl
  · obtain ⟨i, j, rfl, q⟩ := h
    refine ⟨_, pss_cons (ps_par (i := 2) (j := 3) rfl scCommon.nd rfl rfl (by decide) rfl rfl (pa_cons (pe_callB call_abs (by rfl) T.nAbs (by decide +kernel) (pa_cons (pv 0) pa_nil)) (pa_cons (pe_callB call_abs (by rfl) T.nAbs (by decide +kernel) (pa_cons (pv 1) pa_nil)) pa_nil)) rfl)
      (pss_cons (ps_while PassesOwn.never (pt_cmpR op_ne (pv 3) pe_int (nomark _))
        (pss_one (ps_par (i := 2) (j := 3) rfl scCommon.nd rfl rfl (by decide) rfl rfl (pa_cons (pv 3) (pa_cons (pe_op op_mod (pv 2) (pv 3)) pa_nil)) rfl)))
      (pss_one (ps_ret (pv 2)))), ?_⟩
    refine ⟨.int i, rfl, i, rfl, .int j, rfl, j, rfl, _, _, rfl, ?_⟩
    refine while_by (fun σ H' => ∃ x y : Nat, σ = [some (.int i), some (.int j), some (.int x), some (.int y)] ∧ H' = H ∧ Nat.gcd x y = Int.gcd i j) (fun σ _ => match σ with | [_, _, _, some (.int y)] => y.toNat | _ => 0) ?_ ?_ ?_
    · refine ⟨i.natAbs, j.natAbs, ?_, rfl, rfl⟩
      have e : ∀ z : Int, (if z < 0 then -z else z) = (z.natAbs : Int) := fun z => by split <;> omega
      rw [e, e]
      rfl
    · rintro σ H' ⟨x, y, rfl, rfl, hg⟩
      refine ⟨.int y, rfl, rfl, _, rfl, ?_⟩
      by_cases hy : y = 0
      · subst hy
        refine iteF ?_
        refine ⟨_, rfl, ?_⟩
        rw [Nat.gcd_zero_right] at hg
        rw [hg]
        exact q
      · rw [decide_eq_false (fun z : V.int (y : Int) = V.int 0 => hy (by injection z with z; omega))]
        refine iteT ?_
        refine ⟨.int y, rfl, .int x, rfl, .int y, rfl, (x : Int), (y : Int), rfl, rfl, (by show (0 : Int) < y; omega), _, _, rfl, ⟨y, x % y, ?_, rfl, ?_⟩, ?_⟩
        · show [some (V.int i), some (V.int j), some (V.int y), some (V.int ((x : Int) % y))] = _
          rw [← Int.natCast_emod]
        · rw [← hg, Nat.gcd_comm x y, Nat.gcd_rec y x, Nat.gcd_comm]
        · show ((x : Int) % y).toNat < (y : Int).toNat
          have := Nat.mod_lt x (show y > 0 by omega)
          rw [← Int.natCast_emod]
          omega
    · rintro σ H' Q1 Q2 hQ ⟨v, e, u, k, e2, q2⟩
      exact ⟨v, e, u, k, e2, hQ _ _ q2⟩

/-! ### Ratio -/
abbrev sRI : Stmt := inClass (top 14) 0
abbrev sRW : Stmt := inClass (top 14) 1
abbrev sRAdd : Stmt := inClass (top 14) 3
abbrev sRSub : Stmt := inClass (top 14) 4
abbrev sRMul : Stmt := inClass (top 14) 6
abbrev sREq : Stmt := inClass (top 14) 7
abbrev sRB : Stmt := inClass (top 14) 8
abbrev sRU : Stmt := inClass (top 14) 11
def ratF (q : Rat) : List (Str × V) := [("top", .int q.num), ("bottom", .int (q.den : Int))]
theorem ratF_put (n d : Int) : putF "bottom" (.int d) (putF "top" (.int n) []) = ([("top", V.int n), ("bottom", V.int d)] : List (Str × V)) := by
  show (if ("top" : Str) = "bottom" then _ else (("top" : Str), V.int n) :: putF "bottom" (.int d) []) = _
  rw [if_neg (by decide +kernel)]
  rfl
theorem ratF_top (q : Rat) : (ratF q).lookup ("top" : Str) = some (.int q.num) := by
  unfold ratF
  rw [List.lookup_cons_self]
theorem ratF_bot (q : Rat) : (ratF q).lookup ("bottom" : Str) = some (.int (q.den : Int)) := by
  unfold ratF
  rw [List.lookup_cons, show (("bottom" : Str) == "top") = false by decide +kernel, List.lookup_cons_self]
theorem ratF_no (q : Rat) {m : Str} (h1 : (m == ("top" : Str)) = false) (h2 : (m == ("bottom" : Str)) = false) : (ratF q).lookup m = none := by
  unfold ratF
  rw [List.lookup_cons, h1, List.lookup_cons, h2]
  rfl
/-- at p a Ratio of the value q -/
def IsR (a : Ads) (H : Hp) (p : Addr) (q : Rat) : Prop := ∃ dx, H p = some (.ins a.R dx (ratF q))
theorem IsR.same {H H' : Hp} {p : Addr} {q : Rat} (h : IsR a H p q) (e : Same H H') : IsR a H' p q := let ⟨dx, h⟩ := h; ⟨dx, e _ _ h⟩
theorem IsR.keep {D : Addr → Prop} {H H' : Hp} {p : Addr} {q : Rat} (h : IsR a H p q) (e : Keep D H H') (n : ¬ D p) : IsR a H' p q := let ⟨dx, h⟩ := h; ⟨dx, e _ _ h n⟩
theorem IsR.inj {H : Hp} {p : Addr} {q r : Rat} (h : IsR a H p q) (h' : IsR a H p r) : q = r := by
  obtain ⟨dx, h⟩ := h
  obtain ⟨dy, h'⟩ := h'
  rw [h] at h'
  simp only [Option.some.injEq, HO.ins.injEq, ratF, List.cons.injEq, Prod.mk.injEq, V.int.injEq, true_and, and_true] at h'
  exact Rat.ext h'.2.1 (by omega)
theorem den_pos (q : Rat) : (0 : Int) < q.den := by
  have := q.den_nz
  omega
theorem cmul_r {i j : Int} (h0 : 0 < j) (h : j < 1073741824) : CMul i j := .inr ⟨by omega, by omega⟩
theorem den_le (q r : Rat) (h : (q.den : Int) * r.den < 1073741824) : (q.den : Int) < 1073741824 ∧ (r.den : Int) < 1073741824 := by
  have h1 := den_pos q
  have h2 := den_pos r
  have h3 : (q.den : Int) * 1 ≤ q.den * r.den := Int.mul_le_mul_of_nonneg_left (by omega) (by omega)
  have h4 : 1 * (r.den : Int) ≤ q.den * r.den := Int.mul_le_mul_of_nonneg_right (by omega) (by omega)
  omega
theorem scRI : FnScope ["self", "top", "bottom", "divisor"] ["self", "top", "bottom"] (defScope sRI) := ⟨rfl, rfl, rfl, by decide +kernel, rfl, by decide +kernel, by decide +kernel⟩
def spRI (a : Ads) : Sp := fun vs H Q _ => ∃ (p dx : Addr) (i j : Int), vs = [.ref p, .int i, .int j] ∧ H p = some (.ins a.R dx []) ∧ 0 < j ∧ j < 1073741824 ∧
  ∀ H', (∀ b o, H b = some o → b ≠ p → H' b = some o) → H' p = some (.ins a.R dx (ratF (Rat.divInt i j))) → Q .non H'
theorem ok_RI (T : Fx K mg a) (C : Cal P w K mg base 1 "common" spCommon []) (D : IF K mg "Ratio" a.R "Ratio.__init__" sRI ["self", "top", "bottom"]) : Mak P w K mg base 2 "Ratio" a.R (spRI a) [] := by
  refine mak_of D scRI (fun vs H Q E h => ?_) (fun f cdv A outer s H vs Q E hr h => ?_)
  · obtain ⟨p, dx, i, j, rfl, _⟩ := h
    rfl
  · obtain ⟨p, dx, i, j, rfl, hp, h0, h1, q⟩ := h
    refine ⟨_, pss_cons (ps_if (pt_cmpR op_eq (pv 2) pe_int (nomark _)) pss_never pss_nil)
      (pss_cons (ps_set (i := 3) scRI.nd rfl (.inl rfl) (pe_c C hr (by decide) (by rfl) (pa_cons (pv 1) (pa_cons (pv 2) pa_nil))))
      (pss_cons (ps_if (pt_cmpR op_lt (pv 2) pe_int (nomark _)) pss_never pss_nil)
      (pss_cons (ps_fld (pv 0) (pe_op op_fdiv (pv 1) (pv 3)) rfl)
      (pss_one (ps_fld (pv 0) (pe_op op_fdiv (pv 2) (pv 3)) rfl))))), ?_⟩
    have g0 : (0 : Int) < (Int.gcd i j : Nat) := by
      have := Int.gcd_pos_of_ne_zero_right i (show j ≠ 0 by omega)
      omega
    have g1 : ((Int.gcd i j : Nat) : Int) < 1073741824 := by
      have := Int.le_of_dvd h0 (Int.gcd_dvd_right i j)
      omega
    refine ⟨.int j, rfl, rfl, _, rfl, ?_⟩
    rw [decide_eq_false (fun z : V.int j = V.int 0 => by injection z with z; omega)]
    refine iteF ?_
    refine ⟨.int i, rfl, .int j, rfl, i, j, rfl, ?_⟩
    refine ⟨.int j, rfl, j, 0, rfl, rfl, _, rfl, ?_⟩
    rw [decide_eq_false (by omega)]
    refine iteF ?_
    refine ⟨.int i, rfl, .int (Int.gcd i j : Nat), rfl, i, (Int.gcd i j : Nat), rfl, rfl, ⟨g0, g1⟩, .ref p, rfl, p, a.R, dx, [], rfl, hp, T.clR, T.r1, by show 0 < 1000; decide, ?_⟩
    refine ⟨.int j, rfl, .int (Int.gcd i j : Nat), rfl, j, (Int.gcd i j : Nat), rfl, rfl, ⟨g0, g1⟩, .ref p, rfl, p, a.R, dx, _, rfl, upd_same, T.clR, T.r2, by show 1 < 1000; decide, ?_⟩
    refine q _ (fun b o e hb => ?_) ?_
    · rw [upd_ne hb, upd_ne hb]
      exact e
    · rw [upd_same, ratF_put, num_of i j h0, den_of i j h0]
      rfl
/-- Ratio(i, j) -/
theorem mkR {H : Hp} {Q : VK} {i j : Int} (h0 : 0 < j) (h1 : j < 1073741824) (q : ∀ p H2, H p = none → Same H H2 → IsR a H2 p (Rat.divInt i j) → Q (.ref p) H2) :
    ∀ x dx, H x = none → H dx = none → dx ≠ x → spRI a (.ref x :: ([.int i, .int j] ++ [])) (upd (upd H dx (.own x)) x (.ins a.R dx [])) (fun v H2 => v = .non ∧ Q (.ref x) H2) E0 := by
  intro x dx nx ndx ne
  refine ⟨x, dx, i, j, rfl, upd_same, h0, h1, fun H' kp at_ => ⟨rfl, q x H' nx (fun b o e => ?_) ⟨dx, at_⟩⟩⟩
  exact kp b o (by rw [upd_ne (ne_of_none e nx), upd_ne (ne_of_none e ndx)]; exact e) (ne_of_none e nx)
/-- of two Ratios a new one -/
def spR2 (a : Ads) (ok : Rat → Rat → Prop) (g : Rat → Rat → Rat) : Sp := fun vs H Q _ => ∃ (x y : Addr) (q r : Rat), vs = [.ref x, .ref y] ∧ IsR a H x q ∧ IsR a H y r ∧ ok q r ∧ ∀ p H2, H p = none → Same H H2 → IsR a H2 p (g q r) → Q (.ref p) H2
abbrev okD (q r : Rat) : Prop := (q.den : Int) * r.den < 1073741824
theorem scRA : FnScope ["self", "other"] ["self", "other"] (defScope sRAdd) := ⟨rfl, rfl, rfl, by decide +kernel, rfl, by decide +kernel, by decide +kernel⟩
theorem scRS : FnScope ["self", "other"] ["self", "other"] (defScope sRSub) := ⟨rfl, rfl, rfl, by decide +kernel, rfl, by decide +kernel, by decide +kernel⟩
theorem scRM : FnScope ["self", "other"] ["self", "other"] (defScope sRMul) := ⟨rfl, rfl, rfl, by decide +kernel, rfl, by decide +kernel, by decide +kernel⟩
theorem ok_RAdd (T : Fx K mg a) (M : Mak P w K mg base 2 "Ratio" a.R (spRI a) []) (D : MF K a.R "__add__" "Ratio.__add__" sRAdd ["self", "other"]) : Met P w K mg base 4 a.R "__add__" (spR2 a okD fun q r => q + r) [] := by
  refine met_of D scRA (fun vs H Q E h => ?_) (fun f cdv A outer s H vs Q E hr h => ?_)
  · obtain ⟨x, y, q, r, rfl, _⟩ := h
    rfl
  · obtain ⟨x, y, q, r, rfl, ⟨dx, hx⟩, ⟨dy, hy⟩, ok, k⟩ := h
    obtain ⟨o1, o2⟩ := den_le q r ok
    refine ⟨_, pss_one (ps_ret (pe_mk M hr (by decide) (by rfl) (pa_cons (pe_op op_add (pe_op op_mul (pe_fld (pv 0) rfl) (pe_fld (pv 1) rfl)) (pe_op op_mul (pe_fld (pv 1) rfl) (pe_fld (pv 0) rfl))) (pa_cons (pe_op op_mul (pe_fld (pv 0) rfl) (pe_fld (pv 1) rfl)) pa_nil)))), ?_⟩
    refine ⟨.ref x, rfl, x, a.R, dx, _, _, rfl, hx, T.clR, T.r1, ratF_top q, ⟨.ref y, rfl, y, a.R, dy, _, _, rfl, hy, T.clR, T.r2, ratF_bot r, ⟨_, _, rfl, rfl, cmul_r (den_pos r) o2, ?_⟩⟩⟩
    refine ⟨.ref y, rfl, y, a.R, dy, _, _, rfl, hy, T.clR, T.r1, ratF_top r, ⟨.ref x, rfl, x, a.R, dx, _, _, rfl, hx, T.clR, T.r2, ratF_bot q, ⟨_, _, rfl, rfl, cmul_r (den_pos q) o1, _, _, rfl, rfl, ?_⟩⟩⟩
    refine ⟨.ref x, rfl, x, a.R, dx, _, _, rfl, hx, T.clR, T.r2, ratF_bot q, ⟨.ref y, rfl, y, a.R, dy, _, _, rfl, hy, T.clR, T.r2, ratF_bot r, ⟨_, _, rfl, rfl, cmul_r (den_pos r) o2, ?_⟩⟩⟩
    refine mkR (Int.mul_pos (den_pos q) (den_pos r)) ok fun p H2 np s hp => ?_
    rw [rat_add] at hp
    exact k p H2 np s hp
theorem ok_RSub (T : Fx K mg a) (M : Mak P w K mg base 2 "Ratio" a.R (spRI a) []) (D : MF K a.R "__sub__" "Ratio.__sub__" sRSub ["self", "other"]) : Met P w K mg base 4 a.R "__sub__" (spR2 a okD fun q r => q - r) [] := by
  refine met_of D scRS (fun vs H Q E h => ?_) (fun f cdv A outer s H vs Q E hr h => ?_)
  · obtain ⟨x, y, q, r, rfl, _⟩ := h
    rfl
  · obtain ⟨x, y, q, r, rfl, ⟨dx, hx⟩, ⟨dy, hy⟩, ok, k⟩ := h
    obtain ⟨o1, o2⟩ := den_le q r ok
    refine ⟨_, pss_one (ps_ret (pe_mk M hr (by decide) (by rfl) (pa_cons (pe_op op_sub (pe_op op_mul (pe_fld (pv 0) rfl) (pe_fld (pv 1) rfl)) (pe_op op_mul (pe_fld (pv 1) rfl) (pe_fld (pv 0) rfl))) (pa_cons (pe_op op_mul (pe_fld (pv 0) rfl) (pe_fld (pv 1) rfl)) pa_nil)))), ?_⟩
    refine ⟨.ref x, rfl, x, a.R, dx, _, _, rfl, hx, T.clR, T.r1, ratF_top q, ⟨.ref y, rfl, y, a.R, dy, _, _, rfl, hy, T.clR, T.r2, ratF_bot r, ⟨_, _, rfl, rfl, cmul_r (den_pos r) o2, ?_⟩⟩⟩
    refine ⟨.ref y, rfl, y, a.R, dy, _, _, rfl, hy, T.clR, T.r1, ratF_top r, ⟨.ref x, rfl, x, a.R, dx, _, _, rfl, hx, T.clR, T.r2, ratF_bot q, ⟨_, _, rfl, rfl, cmul_r (den_pos q) o1, _, _, rfl, rfl, ?_⟩⟩⟩
    refine ⟨.ref x, rfl, x, a.R, dx, _, _, rfl, hx, T.clR, T.r2, ratF_bot q, ⟨.ref y, rfl, y, a.R, dy, _, _, rfl, hy, T.clR, T.r2, ratF_bot r, ⟨_, _, rfl, rfl, cmul_r (den_pos r) o2, ?_⟩⟩⟩
    refine mkR (Int.mul_pos (den_pos q) (den_pos r)) ok fun p H2 np s hp => ?_
    rw [rat_sub] at hp
    exact k p H2 np s hp
abbrev okM (q r : Rat) : Prop := (q.den : Int) * r.den < 1073741824 ∧ (-(2 ^ 64) < r.num ∧ r.num < 2 ^ 64)
theorem ok_RMul (T : Fx K mg a) (M : Mak P w K mg base 2 "Ratio" a.R (spRI a) []) (D : MF K a.R "__mul__" "Ratio.__mul__" sRMul ["self", "other"]) : Met P w K mg base 4 a.R "__mul__" (spR2 a okM fun q r => q * r) [] := by
  refine met_of D scRM (fun vs H Q E h => ?_) (fun f cdv A outer s H vs Q E hr h => ?_)
  · obtain ⟨x, y, q, r, rfl, _⟩ := h
    rfl
  · obtain ⟨x, y, q, r, rfl, ⟨dx, hx⟩, ⟨dy, hy⟩, ⟨ok, om⟩, k⟩ := h
    obtain ⟨o1, o2⟩ := den_le q r ok
    refine ⟨_, pss_one (ps_ret (pe_mk M hr (by decide) (by rfl) (pa_cons (pe_op op_mul (pe_fld (pv 0) rfl) (pe_fld (pv 1) rfl)) (pa_cons (pe_op op_mul (pe_fld (pv 0) rfl) (pe_fld (pv 1) rfl)) pa_nil)))), ?_⟩
    refine ⟨.ref x, rfl, x, a.R, dx, _, _, rfl, hx, T.clR, T.r1, ratF_top q, ⟨.ref y, rfl, y, a.R, dy, _, _, rfl, hy, T.clR, T.r1, ratF_top r, ⟨_, _, rfl, rfl, .inr om, ?_⟩⟩⟩
    refine ⟨.ref x, rfl, x, a.R, dx, _, _, rfl, hx, T.clR, T.r2, ratF_bot q, ⟨.ref y, rfl, y, a.R, dy, _, _, rfl, hy, T.clR, T.r2, ratF_bot r, ⟨_, _, rfl, rfl, cmul_r (den_pos r) o2, ?_⟩⟩⟩
    refine mkR (Int.mul_pos (den_pos q) (den_pos r)) ok fun p H2 np s hp => ?_
    rw [rat_mul] at hp
    exact k p H2 np s hp
/-- == -/
theorem scREq : FnScope ["self", "other"] ["self", "other"] (defScope sREq) := ⟨rfl, rfl, rfl, by decide +kernel, rfl, by decide +kernel, by decide +kernel⟩
def spREq (a : Ads) : Sp := fun vs H Q _ => ∃ (x y : Addr) (q r : Rat), vs = [.ref x, .ref y] ∧ IsR a H x q ∧ IsR a H y r ∧ Q (.bl (decide (q = r))) H
theorem ok_REq (T : Fx K mg a) (D : MF K a.R "__eq__" "Ratio.__eq__" sREq ["self", "other"]) : Met P w K mg base 1 a.R "__eq__" (spREq a) [] := by
  refine met_of D scREq (fun vs H Q E h => ?_) (fun f cdv A outer s H vs Q E hr h => ?_)
  · obtain ⟨x, y, q, r, rfl, _⟩ := h
    rfl
  · obtain ⟨x, y, q, r, rfl, ⟨dx, hx⟩, ⟨dy, hy⟩, k⟩ := h
    refine ⟨_, pss_one (ps_ret (pe_and (pe_callB call_isi (by rfl) T.nIsi (by decide +kernel) (pa_cons (pv 1) (pa_cons (pe_glob (v := .ref a.R) (by rfl) T.mR rfl) pa_nil)))
      (pe_and (pe_cmpR op_eq (pe_fld (pv 0) rfl) (pe_fld (pv 1) rfl) (nomark _)) (pe_one (pe_cmpR op_eq (pe_fld (pv 0) rfl) (pe_fld (pv 1) rfl) (nomark _)))))), ?_⟩
    refine ⟨.ref y, rfl, .ref y, .ref a.R, .ref a.R, .ref a.R, true, rfl, .own a.R, .base (.ins hy T.clR T.k1 T.k2 T.k3 T.ob), kit_self _, true, rfl, iteT ?_⟩
    refine ⟨.ref x, rfl, x, a.R, dx, _, _, rfl, hx, T.clR, T.r1, ratF_top q, ⟨.ref y, rfl, y, a.R, dy, _, _, rfl, hy, T.clR, T.r1, ratF_top r, ⟨rfl, _, rfl, ?_⟩⟩⟩
    have e := rat_eq q r
    by_cases h1 : q.num = r.num
    · rw [decide_eq_true (congrArg V.int h1)]
      refine iteT ?_
      refine ⟨.ref x, rfl, x, a.R, dx, _, _, rfl, hx, T.clR, T.r2, ratF_bot q, ⟨.ref y, rfl, y, a.R, dy, _, _, rfl, hy, T.clR, T.r2, ratF_bot r, ⟨rfl, ?_⟩⟩⟩
      rw [decide_eq_true h1, Bool.true_and] at e
      rw [← e] at k
      rw [show decide (V.int (q.den : Int) = V.int (r.den : Int)) = decide ((q.den : Int) = (r.den : Int)) from by simp]
      exact k
    · rw [decide_eq_false (fun z => h1 (V.int.inj z))]
      refine iteF ?_
      rw [decide_eq_false h1, Bool.false_and] at e
      rw [← e] at k
      exact k
/-- truth -/
theorem scRB : FnScope ["self"] ["self"] (defScope sRB) := ⟨rfl, rfl, rfl, by decide +kernel, rfl, by decide +kernel, by decide +kernel⟩
def spRB (a : Ads) : Sp := fun vs H Q _ => ∃ (x : Addr) (q : Rat), vs = [.ref x] ∧ IsR a H x q ∧ Q (.bl (decide (q ≠ 0))) H
theorem ok_RB (T : Fx K mg a) (D : MF K a.R "__bool__" "Ratio.__bool__" sRB ["self"]) : Met P w K mg base 1 a.R "__bool__" (spRB a) [] := by
  refine met_of D scRB (fun vs H Q E h => ?_) (fun f cdv A outer s H vs Q E hr h => ?_)
  · obtain ⟨x, q, rfl, _⟩ := h
    rfl
  · obtain ⟨x, q, rfl, ⟨dx, hx⟩, k⟩ := h
    refine ⟨_, pss_one (ps_ret (pe_callTy call_bool1 (by rfl) T.nBool (by decide +kernel) (pa_cons (pe_fld (pv 0) rfl) pa_nil))), ?_⟩
    refine ⟨.ref x, rfl, x, a.R, dx, _, _, rfl, hx, T.clR, T.r1, ratF_top q, .inl ⟨_, rfl, ?_⟩⟩
    rw [rat_bool]
    exact k
/-- under -/
theorem scRU : FnScope ["self", "other"] ["self", "other"] (defScope sRU) := ⟨rfl, rfl, rfl, by decide +kernel, rfl, by decide +kernel, by decide +kernel⟩
def spRU (a : Ads) : Sp := fun vs H Q _ => ∃ (x y : Addr) (q r : Rat), vs = [.ref x, .ref y] ∧ IsR a H x q ∧ IsR a H y r ∧ okD q r ∧ Q (.bl (decide (q < r))) H
theorem ok_RU (T : Fx K mg a) (D : MF K a.R "under" "Ratio.under" sRU ["self", "other"]) : Met P w K mg base 1 a.R "under" (spRU a) [] := by
  refine met_of D scRU (fun vs H Q E h => ?_) (fun f cdv A outer s H vs Q E hr h => ?_)
  · obtain ⟨x, y, q, r, rfl, _⟩ := h
    rfl
  · obtain ⟨x, y, q, r, rfl, ⟨dx, hx⟩, ⟨dy, hy⟩, ok, k⟩ := h
    obtain ⟨o1, o2⟩ := den_le q r ok
    refine ⟨_, pss_one (ps_ret (pe_cmpR op_lt (pe_op op_mul (pe_fld (pv 0) rfl) (pe_fld (pv 1) rfl)) (pe_op op_mul (pe_fld (pv 1) rfl) (pe_fld (pv 0) rfl)) (nomark _))), ?_⟩
    refine ⟨.ref x, rfl, x, a.R, dx, _, _, rfl, hx, T.clR, T.r1, ratF_top q, ⟨.ref y, rfl, y, a.R, dy, _, _, rfl, hy, T.clR, T.r2, ratF_bot r, ⟨_, _, rfl, rfl, cmul_r (den_pos r) o2, ?_⟩⟩⟩
    refine ⟨.ref y, rfl, y, a.R, dy, _, _, rfl, hy, T.clR, T.r1, ratF_top r, ⟨.ref x, rfl, x, a.R, dx, _, _, rfl, hx, T.clR, T.r2, ratF_bot q, ⟨_, _, rfl, rfl, cmul_r (den_pos q) o1, _, _, rfl, rfl, ?_⟩⟩⟩
    show Q (.bl (decide (q.num * (r.den : Int) < r.num * (q.den : Int)))) H
    rw [rat_under]
    exact k
/-! ### Ratio.whole -/
theorem scRW : FnScope ["cls", "n"] ["cls", "n"] (defScope sRW) := ⟨rfl, rfl, rfl, by decide +kernel, rfl, by decide +kernel, by decide +kernel⟩
def spRW (a : Ads) : Sp := fun vs H Q _ => ∃ n : Int, vs = [.ref a.R, .int n] ∧ ∀ p H2, H p = none → Same H H2 → IsR a H2 p (n : Rat) → Q (.ref p) H2
/-- the classmethod's def -/
structure WF (K : PySem.W.Frag) (a : Ads) : Prop where
  ex : ∃ (mc : Value) (p g : Addr) (fd : FuncData), ClX.CRead K a.R mc ∧ ClX.CMet K a.R mc "whole" p g ∧ Fun K "whole" "Ratio.whole" sRW g fd ∧ Binds K fd ["cls", "n"] []
/-- Ratio.whole, to be called -/
structure Who (P : Program) (w : World) (K : PySem.W.Frag) (mg : Str → Option Value) (base : Heap) (k : Nat) (a : Ads) : Prop where
  ex : ∃ (mc : Value) (p g : Addr), ClX.CRead K a.R mc ∧ ClX.CMet K a.R mc "whole" p g ∧ FnR P w K mg base CX0 k g (spRW a)
theorem ok_RW (T : Fx K mg a) (M : Mak P w K mg base 2 "Ratio" a.R (spRI a) []) (D : WF K a) : Who P w K mg base 4 a := by
  obtain ⟨mc, p, g, fd, c1, c2, F, hb⟩ := D.ex
  have e0 : (fun vs H Q E => spRW a (vs ++ []) H Q E) = spRW a := by
    funext vs H Q E
    rw [List.append_nil]
  have fin : FnOk P w K mg base CX0 4 g fd ["cls", "n"] (spRW a) → FnR P w K mg base CX0 4 g (spRW a) := fun h => by
    have := h.raw hb .nil
    rw [e0] at this
    exact this
  refine ⟨mc, p, g, c1, c2, fin (F.ok (k := 3) scRW (fun vs H Q E h => ?_) (fun cdv A outer s H vs Q E hr h => ?_))⟩
  · obtain ⟨n, rfl, _⟩ := h
    rfl
  · obtain ⟨n, rfl, k⟩ := h
    obtain ⟨f, fdI, ps, ds, mk, FI, hm, bI, hd⟩ := M.ex
    cases hd
    refine ⟨_, pss_one (ps_ret (pe_makeV (i := 0) mk FI hr bI pass0 rfl (.inl rfl) (pa_cons (pv 1) (pa_cons pe_int pa_nil)))), ?_⟩
    refine ⟨rfl, .int n, rfl, ?_⟩
    refine mkR (by decide) (by decide) fun p H2 np s hp => ?_
    have e : Rat.divInt n 1 = (n : Rat) := by apply Rat.ext <;> simp [Rat.divInt, Rat.num_mkRat, Rat.den_mkRat]
    rw [e] at hp
    exact k p H2 np s hp
/-- Ratio.whole(n) -/
theorem pe_whole {X : Cx} {j : Nat} {p pos apos : Pos} {e : Expr} {te : TE} {pl : Sem Bool} (W : Who X.prog X.w X.K X.mg X.base 4 a) (hr : Room j X.A) (hk : 4 ≤ j) (hg : Gl X "Ratio") (hm : X.mg "Ratio" = some (.ref a.R)) (he : PE X e te)
    (hst : starEach [e] X.env = (false, eval e X.env) :: starEach [] X.env := by rfl)
    (ht : eval (.Call (.Attribute (.Name "Ratio" p) "whole" apos) [e] [] pos) X.env = (do
      let ov ← eval (.Name "Ratio" p) X.env
      standAt apos.atName
      let (f, first) ← holding [ov] (getMethod ov "whole" pl)
      callWith pos f first (backTo pos (starEach [e] X.env)) (backToKw pos (keywordEach [] X.env))) := by rfl) :
    PE X (.Call (.Attribute (.Name "Ratio" p) "whole" apos) [e] [] pos) (ClX.tCMeth a.R (spRW a) E0 (tC (.ref a.R)) (tCons te tNil)) := by
  obtain ⟨mc, pp, g, c1, c2, F⟩ := W.ex
  exact ClX.pe_cmeth (sp := spRW a) (E := E0) (pe_glob (v := .ref a.R) hg hm rfl) c1 c2 F (hr.mono hk) pass0 (pa_cons he pa_nil hst) hst (by rfl) ht
/-! ### total -/
abbrev sTotal : Stmt := top 15
theorem scTotal : FnScope ["ratios", "found", "ratio"] ["ratios"] (defScope sTotal) := ⟨rfl, rfl, rfl, by decide +kernel, rfl, by decide +kernel, by decide +kernel⟩
def sumR : List Rat → Rat
  | [] => 0
  | x :: l => x + sumR l
theorem sumR_append (l m : List Rat) : sumR (l ++ m) = sumR l + sumR m := by
  induction l with
  | nil => simp only [List.nil_append, sumR]; grind
  | cons x l ih => simp only [List.cons_append, sumR, ih]; grind
theorem sumR_take {l : List Rat} {i : Nat} {x : Rat} (h : l[i]? = some x) : sumR (l.take (i + 1)) = sumR (l.take i) + x := by
  rw [List.take_succ, h, sumR_append]
  simp only [Option.toList, sumR]
  grind
theorem frac_sumR {M : Nat} {l : List Rat} (h : ∀ x ∈ l, Frac M x) : Frac M (sumR l) := by
  induction l with
  | nil => exact Frac.zero M
  | cons x l ih => exact (h x List.mem_cons_self).add (ih fun y hy => h y (List.mem_cons_of_mem _ hy))
/-- a value that holds a Ratio -/
def VR (a : Ads) (H : Hp) (v : V) (q : Rat) : Prop := ∃ b, v = .ref b ∧ IsR a H b q
theorem VR.same {H H' : Hp} {v : V} {q : Rat} (h : VR a H v q) (e : Same H H') : VR a H' v q := let ⟨b, e1, h⟩ := h; ⟨b, e1, h.same e⟩
theorem okD_frac {M : Nat} {q r : Rat} (h0 : 0 < M) (hm : M * M < 1073741824) (hq : Frac M q) (hr : Frac M r) : okD q r := by
  have h1 := hq.den h0
  have h2 := hr.den h0
  have h3 : q.den * r.den ≤ M * M := Nat.mul_le_mul h1 h2
  show (q.den : Int) * (r.den : Int) < 1073741824
  rw [← Int.natCast_mul]
  omega
def spTotal (a : Ads) : Sp := fun vs H Q _ => ∃ (p : Addr) (xs : List V) (l : List Rat) (M : Nat), vs = [.ref p] ∧ H p = some (.lst xs) ∧ Paired (VR a H) xs l ∧ 0 < M ∧ M * M < 1073741824 ∧ (∀ q ∈ l, Frac M q) ∧
  ∀ r H2, H r = none → Same H H2 → IsR a H2 r (sumR l) → Q (.ref r) H2
theorem Same.none {H H2 : Hp} (e : Same H H2) {r : Addr} (h : H2 r = none) : H r = none := by
  cases g : H r with
  | none => rfl
  | some o => rw [e _ _ g] at h; cases h
theorem ok_Total (T : Fx K mg a) (W : Who P w K mg base 4 a) (A : Met P w K mg base 4 a.R "__add__" (spR2 a okD fun q r => q + r) []) (D : DF K mg "total" "total" "total" sTotal ["ratios"]) : Cal P w K mg base 5 "total" (spTotal a) [] := by
  refine cal_of D scTotal (fun vs H Q E h => ?_) (fun f cdv B outer s H vs Q E hr h => ?_)
  · obtain ⟨p, xs, l, M, rfl, _⟩ := h
    rfl
  · obtain ⟨p, xs, l, M, rfl, hp, hq, M0, MM, hf, q⟩ := h
    refine ⟨_, pss_cons (ps_set (i := 1) scTotal.nd rfl (.inl rfl) (pe_whole W hr (by decide) (by rfl) T.mR pe_int))
      (pss_cons (ps_for PassesOwn.never rfl (pi_list (pv 0)) (pg_name (i := 2) scTotal.nd rfl (.inl rfl))
        (pss_one (ps_set (i := 1) scTotal.nd rfl (.inl rfl) (pe_op (add_of A hr T.sf) (pv 1) (pv 2)))))
      (pss_one (ps_ret (pv 1)))), ?_⟩
    refine ⟨rfl, 0, rfl, fun r H2 nr s2 h2 => ?_⟩
    refine ⟨.ref p, rfl, p, rfl, ⟨xs, .inl (.inl (s2 _ _ hp))⟩, ?_⟩
    refine for_list (xs := xs) (fun i σ H' => ∃ r v, σ = [some (.ref p), some (.ref r), v] ∧ H r = none ∧ Same H H' ∧ IsR a H' r (sumR (l.take i))) ⟨r, none, rfl, nr, s2, h2⟩ ?_ ?_ ?_
    · rintro i σ H' _ ⟨r, v, rfl, nr, s3, h3⟩
      exact .inl (.inl (s3 _ _ hp))
    · rintro i x σ H' hx ⟨r, v, rfl, nr, s3, h3⟩
      obtain ⟨y, hy, ⟨b, rfl, hb⟩⟩ := paired_get hq hx
      have hb := hb.same s3
      obtain ⟨dr, h4⟩ := h3
      obtain ⟨db, h5⟩ := hb
      have ok : okD (sumR (l.take i)) y := okD_frac M0 MM (frac_sumR fun z hz => hf z (List.mem_of_mem_take hz)) (hf y (List.mem_of_getElem? hy))
      refine ⟨.ref r, rfl, .ref b, rfl, r, b, dr, db, _, _, rfl, rfl, h4, h5, r, b, _, _, rfl, ⟨dr, h4⟩, ⟨db, h5⟩, ok, fun r2 H2 n2 e2 h6 => ?_⟩
      refine ⟨r2, some (.ref b), rfl, ?_, s3.trans e2, ?_⟩
      · cases e : H r2 with
        | none => rfl
        | some o => rw [s3 _ _ e] at n2; cases n2
      · rw [sumR_take hy]
        exact h6
    · rintro σ H' ⟨r, v, rfl, nr, s3, h3⟩
      refine ⟨.ref r, rfl, q r H' nr s3 ?_⟩
      rw [hq.length, List.take_length] at h3
      exact h3
end
end OT
end

section
set_option Elab.async false
set_option linter.all false
set_option maxRecDepth 100000
set_option maxHeartbeats 4000000
namespace OT
open PySem PySem.Spec PyProof.Rows L2 OTR
open C8 (Cal Mak Met pe_c pe_mk pe_mt pe_mt0)
/-- a comprehension that makes nothing new beside its list -/
theorem lc_pure {α : Type} {J : It} {G : Hp → Prop} {Y : Nat → Hp → V → Hp → Prop} (l : List α) (w : Walk J l.length G Y) {g : TG} {tt : TT} {te : TE} {vs : List Nat} {σ : L2.St} {H1 : Hp} {D : Addr} {Qd : Hp → Prop}
    (pb : α → Bool) (f : α → V) (hn : l.length ≤ 100000) (hG : ∀ acc, G (upd H1 D (.lst acc)))
    (hs : ∀ i a x acc H' (Nx : Hp → Prop), l[i]? = some a → Y i (upd H1 D (.lst acc)) x H' → acc.length < sizeLine → (pb a = true → Nx (upd H1 D (.lst (acc ++ [f a])))) → (pb a = false → Nx (upd H1 D (.lst acc))) →
      g x (wipe σ vs) H' fun σ2 H2 => wipe σ2 vs = wipe σ vs ∧ tt σ2 H2 fun b H3 => if b = true then te σ2 H3 fun y H4 => ∃ acc, H4 D = some (.lst acc) ∧ acc.length < sizeLine ∧ Nx (upd H4 D (.lst (acc ++ [y]))) else Nx H3)
    (hd : Qd (upd H1 D (.lst ((l.filter pb).map f)))) :
    ∃ W : Nat → Nat → Hp → Prop, (∃ m, W 0 m (upd H1 D (.lst []))) ∧ ∀ i m H, W i m H →
      (J.stop i H ∧ Qd H) ∨ (J.go i H ∧ ∃ Nx : Hp → Prop, (∀ H', Nx H' → ∃ m', m' < m ∧ W (i + 1) m' H') ∧ ∀ x H', J.yld i H x H' → g x (wipe σ vs) H' fun σ2 H2 => wipe σ2 vs = wipe σ vs ∧ tt σ2 H2 fun b H3 =>
        if b = true then te σ2 H3 fun y H4 => ∃ acc, H4 D = some (.lst acc) ∧ acc.length < sizeLine ∧ Nx (upd H4 D (.lst (acc ++ [y]))) else Nx H3) := by
  refine lc_it w (fun i H => H = upd H1 D (.lst (((l.take i).filter pb).map f))) rfl (fun i H _ e => by rw [e]; exact hG _) ?_ ?_
  · rintro i x H H' hi rfl y
    obtain ⟨a, ha⟩ : ∃ a, l[i]? = some a := ⟨l[i], by simp [hi]⟩
    have hl : (((l.take i).filter pb).map f).length < sizeLine := by
      have h1 : ((l.take i).filter pb).length ≤ (l.take i).length := List.length_filter_le _ _
      have h2 : (l.take i).length ≤ i := by rw [List.length_take]; omega
      rw [List.length_map]
      exact smallL (by omega)
    refine hs i a x _ H' _ ha y hl (fun hp => ?_) (fun hp => ?_)
    · rw [List.take_succ, ha]
      simp only [Option.toList, List.filter_append, List.filter_cons, hp, if_true, List.filter_nil, List.map_append, List.map_cons, List.map_nil]
    · rw [List.take_succ, ha]
      simp only [Option.toList, List.filter_append, List.filter_cons, hp, Bool.false_eq_true, if_false, List.filter_nil, List.append_nil]
  · rintro H rfl
    rw [List.take_length]
    exact hd
/-- no test -/
theorem lcY {te : TE} {σ : L2.St} {H : Hp} {N : VK} {Nx : Hp → Prop} (h : te σ H N) : tYes σ H fun b H3 => if b = true then te σ H3 N else Nx H3 := by
  show (if true = true then te σ H N else Nx H)
  rw [if_pos rfl]
  exact h
theorem inV_str (x : Str) (l : List Str) : inV (.str x) (l.map V.str) = decide (x ∈ l) := by
  unfold inV
  rw [List.any_map]
  show l.any (fun y => y == x) = _
  rw [Bool.eq_iff_iff, List.any_eq_true, decide_eq_true_eq]
  constructor
  · rintro ⟨y, hy, e⟩
    rw [beq_iff_eq] at e
    exact e ▸ hy
  · exact fun h => ⟨x, h, by rw [beq_iff_eq]⟩
theorem flat_strs (l : List Str) : (l.map V.str).all flatV = true := by
  rw [List.all_eq_true]
  intro v hv
  obtain ⟨x, _, rfl⟩ := List.mem_map.mp hv
  rfl
theorem cut_to (xs : List V) (k : Nat) : cutV xs none (some (k : Int)) = xs.take k := by
  unfold cutV
  rw [HT.sIx_none, HT.sIx_nat, List.drop_zero, Nat.sub_zero]
  by_cases h : k ≤ xs.length
  · rw [Nat.min_eq_left h]
  · rw [Nat.min_eq_right (by omega), List.take_length, List.take_of_length_le (by omega)]
theorem cut_from (xs : List V) (k : Nat) : cutV xs (some (k : Int)) none = xs.drop k := by
  unfold cutV
  rw [HT.sIx_none, HT.sIx_nat]
  by_cases h : k ≤ xs.length
  · rw [Nat.min_eq_left h, List.take_of_length_le (by rw [List.length_drop]; omega)]
  · rw [Nat.min_eq_right (by omega), Nat.sub_self, List.take_zero, List.drop_eq_nil_of_le (by omega)]
theorem nodup_take {l : List Str} (h : l.Nodup) {i : Nat} {x : Str} (hx : l[i]? = some x) : x ∉ l.take i := by
  intro hm
  obtain ⟨j, hj, e⟩ := List.mem_iff_getElem.mp hm
  rw [List.length_take] at hj
  rw [List.getElem_take] at e
  obtain ⟨hi, e2⟩ := List.getElem?_eq_some_iff.mp hx
  have := (List.getElem_inj h).mp (e.trans e2.symm)
  omega
theorem get_map {α β : Type} {l : List α} {f : α → β} {i : Nat} {v : β} (h : (l.map f)[i]? = some v) : ∃ z, l[i]? = some z ∧ v = f z := by
  rw [List.getElem?_map] at h
  cases e : l[i]? with
  | none => rw [e] at h; cases h
  | some z =>
    rw [e] at h
    injection h with h
    exact ⟨z, rfl, h.symm⟩
/-- at p the list of the texts ns -/
def LstS (H : Hp) (p : Addr) (ns : List Str) : Prop := H p = some (.lst (ns.map V.str))
theorem LstS.same {H H2 : Hp} {p : Addr} {ns : List Str} (h : LstS H p ns) (e : Same H H2) : LstS H2 p ns := e _ _ h
def menuN : List Str := ["a", "b", "c", "x1", "x10", "y", "abcdefgh", "d9"]
def okN (x : Str) : Bool := !(decide (x = "")) && decide (x.length ≤ 8) && (match atI x.cps.toList 0 with | some c => decide (c ∈ ("abcdefghijklmnopqrstuvwxyz" : Str).cps.toList) | none => false) && x.cps.toList.all fun c => decide (c ∈ ("abcdefghijklmnopqrstuvwxyz0123456789" : Str).cps.toList)
theorem menu_ok : ∀ x ∈ menuN, okN x = true := by
  have h : menuN.all okN = true := by decide +kernel
  exact fun x hx => List.all_eq_true.mp h x hx
section
variable {P : Program} {w : World} {K : PySem.W.Frag} {mg : Str → Option Value} {base : Heap} {a : Ads}
abbrev sIsName : Stmt := top 27
theorem scIsName : FnScope ["text", "sign"] ["text"] (defScope sIsName) := ⟨rfl, rfl, rfl, by decide +kernel, rfl, by decide +kernel, by decide +kernel⟩
def spIsName : Sp := fun vs H Q _ => ∃ x : Str, vs = [.str x] ∧ x ∈ menuN ∧ ∀ H2, Same H H2 → Q (.bl true) H2
theorem ok_IsName (T : Fx K mg a) (D : DF K mg "is_name" "is_name" "is_name" sIsName ["text"]) : Cal P w K mg base 1 "is_name" spIsName [] := by
  obtain ⟨u1, T1⟩ := T.mLet
  obtain ⟨u2, T2⟩ := T.mSig
  obtain ⟨u3, T3⟩ := T.mMostL
  refine cal_of D scIsName (fun vs H Q E h => ?_) (fun f cdv B outer s H vs Q E hr h => ?_)
  · obtain ⟨x, rfl, _⟩ := h
    rfl
  · obtain ⟨x, rfl, hx, q⟩ := h
    refine ⟨_, pss_cons (ps_if (pw_or (pt_cmpR op_eq (pv 0) pe_str (nomark _)) (pw_or (pt_cmpR op_gt (pe_callB call_len (by rfl) T.nLen (by decide +kernel) (pa_cons (pv 0) pa_nil)) (pe_glob (v := .int 8) (by rfl) T3 ⟨_, rfl⟩) (nomark _))
      (pw_or1 (pt_cmpR op_notIn_sign (pe_ix ix_str (pv 0) pe_int fun _ _ => rfl) (pe_glob (v := .str _) (by rfl) T1 ⟨_, rfl⟩) (by rfl))))).pt pss_never pss_nil)
      (pss_one (ps_ret (pe_callB (cr_all rfl) (by rfl) T.nAll (by decide +kernel) (pa_cons (pe_lc rfl scIsName.nd (pi_str (pv 0)) (own := [("sign", 1)]) (blkOk_by (N := ["text", "sign"]) (sc := defScope sIsName) (by decide +kernel)) (fun _ _ _ _ _ => pg_name (i := 1) scIsName.nd rfl (.inl rfl)) (fun _ _ _ _ _ => pts_nil)
        (fun _ _ _ _ _ => pe_cmpR op_in_sign (pv 1) (pe_glob (v := .str _) (by rfl) T2 ⟨_, rfl⟩) (by rfl))) pa_nil)))), ?_⟩
    have hk := menu_ok x hx
    simp only [okN, Bool.and_eq_true, Bool.not_eq_true', decide_eq_false_iff_not, decide_eq_true_eq] at hk
    obtain ⟨⟨⟨k1, k2⟩, k3⟩, k4⟩ := hk
    cases hc : atI x.cps.toList 0 with
    | none => rw [hc] at k3; cases k3
    | some c =>
    rw [hc] at k3
    have k3 := of_decide_eq_true k3
    refine ⟨.str x, rfl, rfl, _, rfl, ?_⟩
    rw [decide_eq_false (fun z : V.str x = V.str "" => k1 (by injection z))]
    refine iteF ?_
    refine ⟨.str x, rfl, .str x, x.length, rfl, ⟨small (by omega), rfl⟩, (x.length : Int), 8, rfl, rfl, _, rfl, ?_⟩
    rw [decide_eq_false (by omega)]
    refine iteF ?_
    refine ⟨.str x, rfl, x, 0, c, rfl, rfl, small (by omega), hc, c, _, rfl, rfl, _, rfl, ?_⟩
    rw [decide_eq_true k3]
    refine iteF ?_
    refine ⟨.str x, rfl, x, rfl, fun D nD => ?_⟩
    refine lc_pure x.cps.toList walk_str (fun _ => true) (fun _ => .bl true) (Nat.le_trans k2 (by decide)) (fun _ => trivial) ?_ ?_
    · rintro i c v acc H' Nx hi ⟨rfl, c', hc', rfl⟩ hl h1 _
      have e : c' = c := by
        rw [Array.getElem?_toList] at hi
        rw [hi] at hc'
        injection hc' with e
        exact e.symm
      subst e
      refine ⟨rfl, lcY ?_⟩
      refine ⟨.str ⟨#[c']⟩, rfl, c', _, rfl, rfl, acc, upd_same, hl, ?_⟩
      rw [upd_upd, List.all_eq_true.mp k4 c' (List.mem_of_getElem? hi)]
      exact h1 rfl
    · refine ⟨D, List.replicate x.cps.toList.length true, rfl, .inl (.inl ?_), ?_⟩
      · rw [upd_same]
        rw [List.filter_eq_self.mpr (fun _ _ => rfl), List.map_replicate, List.map_const']
      · rw [show (List.replicate x.cps.toList.length true).all id = true from List.all_eq_true.mpr fun b hb => (List.mem_replicate.mp hb).2]
        exact q _ (same_new nD)
/-! ### check_names of the orders -/
abbrev sCheckO : Stmt := top 29
theorem scCheckO : FnScope ["names", "at", "name"] ["names"] (defScope sCheckO) := ⟨rfl, rfl, rfl, by decide +kernel, rfl, by decide +kernel, by decide +kernel⟩
/-- names of an order -/
structure OkNs (ns : List Str) : Prop where
  mem : ∀ x ∈ ns, x ∈ menuN
  nd : ns.Nodup
  pos : 1 ≤ ns.length
  le : ns.length ≤ 8
def spCheckO : Sp := fun vs H Q _ => ∃ (p : Addr) (ns : List Str), vs = [.ref p] ∧ LstS H p ns ∧ OkNs ns ∧ ∀ H2, Same H H2 → Q .non H2
theorem ok_CheckO (T : Fx K mg a) (C : Cal P w K mg base 1 "is_name" spIsName []) (D : DF K mg "check_names_orders" "check_names" "check_names" sCheckO ["names"]) : Cal P w K mg base 2 "check_names_orders" spCheckO [] := by
  obtain ⟨u1, T1⟩ := T.mMost
  refine cal_of D scCheckO (fun vs H Q E h => ?_) (fun f cdv B outer s H vs Q E hr h => ?_)
  · obtain ⟨p, ns, rfl, _⟩ := h
    rfl
  · obtain ⟨p, ns, rfl, hp, ok, q⟩ := h
    refine ⟨_, pss_cons (ps_if (pt_not (pt_chain op_le op_le pe_int (pe_callB call_len (by rfl) T.nLen (by decide +kernel) (pa_cons (pv 0) pa_nil)) (pe_glob (v := .int 8) (by rfl) T1 ⟨_, rfl⟩))) pss_never pss_nil)
      (pss_one (ps_for PassesOwn.never rfl (pi_enum (by rfl) T.nEnum (pa_cons (pv 0) pa_nil)) (pg_tup rfl (pgs_cons (pg_name (i := 1) scCheckO.nd rfl (.inl rfl)) (pgs_cons (pg_name (i := 2) scCheckO.nd rfl (.inl rfl)) pgs_nil)))
        (pss_cons (ps_if (pt_not (pt_val (pe_c C hr (by decide) (by rfl) (pa_cons (pv 2) pa_nil)))) pss_never pss_nil)
        (pss_one (ps_if (pt_cmpR op_in_seq (pv 2) (pe_slice sl_list (pv 0) po_none (po_some (pv 1))) (by rfl)) pss_never pss_nil))))), ?_⟩
    have hn : (ns.map V.str).length = ns.length := List.length_map ..
    refine ⟨.ref p, rfl, .ref p, ns.length, rfl, .inl ⟨_, .inl (.inl hp), hn.symm⟩, 1, ns.length, rfl, rfl, _, rfl, ?_⟩
    rw [decide_eq_true (show (1 : Int) ≤ ns.length by have := ok.pos; omega)]
    refine iteT ?_
    refine ⟨ns.length, 8, rfl, rfl, _, rfl, ?_⟩
    rw [decide_eq_true (show (ns.length : Int) ≤ 8 by have := ok.le; omega)]
    refine iteF ?_
    refine ⟨.ref p, rfl, p, _, rfl, .inl (.inl hp), ?_⟩
    refine for_it (walk_enum (xs := ns.map V.str)) (fun i σ H' => ∃ v1 v2, σ = [some (.ref p), v1, v2] ∧ Same H H') ⟨none, none, rfl, fun _ _ e => e⟩ ?_ ?_ ?_
    · rintro i σ H' _ ⟨v1, v2, rfl, e⟩
      exact .inl (.inl (e _ _ hp))
    · rintro i x σ H' H'' hi ⟨v1, v2, rfl, e⟩ ⟨t, i1, x1, rfl, nt, rfl, e1, e2⟩
      injection e1 with e1
      subst e1
      obtain ⟨z, hx, rfl⟩ := get_map e2
      refine ⟨t, _, rfl, .inl (.inl upd_same), rfl, _, _, rfl, _, _, rfl, rfl, ?_⟩
      refine ⟨.str z, rfl, z, rfl, ok.mem z (List.mem_of_getElem? hx), fun H2 e3 => ?_⟩
      refine ⟨true, rfl, iteF ?_⟩
      have hp2 : H2 p = some (.lst (ns.map V.str)) := e3 _ _ (same_new nt _ _ (e _ _ hp))
      refine ⟨.str z, rfl, .ref p, rfl, .int i, rfl, i, rfl, p, _, rfl, .inl (.inl hp2), fun p2 n2 => ?_⟩
      refine ⟨p2, _, rfl, .inl (.inl (.inl upd_same)), rfl, ?_, _, rfl, ?_⟩
      · rw [cut_to, ← List.map_take]
        exact flat_strs _
      · rw [cut_to, ← List.map_take, inV_str, decide_eq_false (nodup_take ok.nd hx)]
        refine iteF ?_
        exact ⟨_, _, rfl, ((e.trans (same_new nt)).trans e3).trans (same_new n2)⟩
    · rintro σ H' ⟨v1, v2, rfl, e⟩
      exact q _ e
end
end OT
end

section
set_option Elab.async false
set_option linter.all false
set_option maxRecDepth 100000
set_option maxHeartbeats 4000000
namespace OT
open PySem PySem.Spec PyProof.Rows L2 OTR
/-! ### dicts with texts for keys -/
def SK (l : List Str) (f : Str → V) : List (Key × V) := l.map fun x => ((.inr x : Key), f x)
abbrev SD (l : List Str) (f : Str → V) : HO := .dK (SK l f)
def addS (l : List Str) (x : Str) : List Str := if x ∈ l then l else l ++ [x]
def setF (f : Str → V) (x : Str) (v : V) : Str → V := fun y => if y = x then v else f y
theorem SK_val (f : Str → V) (x : Str) : ∀ l : List Str, valV (SK l f) (.inr x) = if x ∈ l then some (f x) else none
  | [] => rfl
  | y :: l => by
    by_cases e : y = x
    · subst e
      rw [if_pos List.mem_cons_self]
      exact valV_pos (p := ((.inr y : Key), f y)) rfl
    · have h : valV (SK (y :: l) f) (.inr x) = valV (SK l f) (.inr x) := valV_neg (p := ((.inr y : Key), f y)) (fun z => e (by injection z))
      rw [h, SK_val f x l]
      by_cases m : x ∈ l
      · rw [if_pos m, if_pos (List.mem_cons_of_mem _ m)]
      · rw [if_neg m, if_neg (fun z => (List.mem_cons.mp z).elim (fun q => e q.symm) m)]
theorem SK_in {l : List Str} {f : Str → V} {x : Str} (h : x ∈ l) : valV (SK l f) (.inr x) = some (f x) := by rw [SK_val, if_pos h]
theorem SK_not {l : List Str} {f : Str → V} {x : Str} (h : x ∉ l) : valV (SK l f) (.inr x) = none := by rw [SK_val, if_neg h]
theorem SK_some (l : List Str) (f : Str → V) (x : Str) : (valV (SK l f) (.inr x)).isSome = decide (x ∈ l) := by
  rw [SK_val]
  by_cases m : x ∈ l
  · rw [if_pos m, decide_eq_true m]; rfl
  · rw [if_neg m, decide_eq_false m]; rfl
theorem SK_congr {l : List Str} {f g : Str → V} (h : ∀ x ∈ l, f x = g x) : SK l f = SK l g := List.map_congr_left fun x hx => by rw [h x hx]
theorem SK_put (l : List Str) (f : Str → V) (x : Str) (v : V) : putK (SK l f) (.inr x) v = SK (addS l x) (setF f x v) := by
  by_cases m : x ∈ l
  · unfold putK addS
    rw [if_pos m, valV_any, SK_in m, if_pos (show (some (f x)).isSome = true from rfl)]
    unfold SK
    rw [List.map_map]
    refine List.map_congr_left fun y _ => ?_
    show (if (.inr y : Key) = .inr x then ((.inr y : Key), v) else ((.inr y : Key), f y)) = ((.inr y : Key), setF f x v y)
    unfold setF
    by_cases e : y = x
    · rw [if_pos (by rw [e]), if_pos e]
    · rw [if_neg (fun z => e (by injection z)), if_neg e]
  · rw [putK_new v (SK_not m)]
    unfold addS
    rw [if_neg m]
    unfold SK
    rw [List.map_append]
    congr 1
    · refine List.map_congr_left fun y hy => ?_
      unfold setF
      rw [if_neg (fun z : y = x => m (z ▸ hy))]
    · show _ = [((.inr x : Key), setF f x v x)]
      unfold setF
      rw [if_pos rfl]
theorem SK_length (l : List Str) (f : Str → V) : (SK l f).length = l.length := List.length_map ..
theorem SK_keys (l : List Str) (f : Str → V) : ((SK l f).map fun kv => kV kv.1) = l.map V.str := by
  unfold SK
  rw [List.map_map]
  rfl
theorem SK_vals (l : List Str) (f : Str → V) : ((SK l f).map (·.2)) = l.map f := by
  unfold SK
  rw [List.map_map]
  rfl
theorem SK_merge (l : List Str) (f : Str → V) (h : l.Nodup) : mergeK [] (SK l f) = SK l f := by
  have key : ∀ (m acc : List Str), (acc ++ m).Nodup → mergeK (SK acc f) (SK m f) = SK (acc ++ m) f := by
    intro m
    induction m with
    | nil => intro acc _; rw [List.append_nil]; rfl
    | cons x m ih =>
      intro acc nd
      have hx : x ∉ acc := fun hm => by
        have := (List.nodup_append.mp nd).2.2 x hm x List.mem_cons_self
        exact this rfl
      show mergeK (putK (SK acc f) (.inr x) (f x)) (SK m f) = _
      rw [putK_new _ (SK_not hx)]
      have e : SK acc f ++ [((.inr x : Key), f x)] = SK (acc ++ [x]) f := by unfold SK; rw [List.map_append]; rfl
      rw [e, ih (acc ++ [x]) (by rw [List.append_assoc]; exact nd), List.append_assoc]
      rfl
  have := key l [] (by rw [List.nil_append]; exact h)
  rw [List.nil_append] at this
  exact this
theorem mem_addS {l : List Str} {x y : Str} : y ∈ addS l x ↔ y ∈ l ∨ y = x := by
  unfold addS
  by_cases m : x ∈ l
  · rw [if_pos m]
    constructor
    · exact .inl
    · rintro (h | rfl)
      · exact h
      · exact m
  · rw [if_neg m, List.mem_append, List.mem_singleton]
theorem nodup_addS {l : List Str} {x : Str} (h : l.Nodup) : (addS l x).Nodup := by
  unfold addS
  by_cases m : x ∈ l
  · rw [if_pos m]; exact h
  · rw [if_neg m]
    refine List.nodup_append.mpr ⟨h, by simp, ?_⟩
    rintro a ha b hb rfl
    rw [List.mem_singleton] at hb
    exact m (hb ▸ ha)
/-- the length of a list without doubles in another -/
theorem nodup_le : ∀ {l m : List Str}, l.Nodup → (∀ x ∈ l, x ∈ m) → l.length ≤ m.length := by
  intro l
  induction l with
  | nil => intro m _ _; exact Nat.zero_le _
  | cons x l ih =>
    intro m h hs
    have hx := hs x List.mem_cons_self
    have h1 := List.nodup_cons.mp h
    have := ih (m := m.erase x) h1.2 fun y hy => (List.mem_erase_of_ne (fun e : y = x => h1.1 (e ▸ hy))).mpr (hs y (List.mem_cons_of_mem _ hy))
    rw [List.length_erase_of_mem hx] at this
    have : 0 < m.length := List.length_pos_of_mem hx
    rw [List.length_cons]
    omega
/-! ### dict comprehensions -/
theorem dc_it {J : It} {n : Nat} {G : Hp → Prop} {Y : Nat → Hp → V → Hp → Prop} (w : Walk J n G Y) {g : TG} {tt : TT} {tk tv : TE} {vs : List Nat} {σ : L2.St} {H1 : Hp} {D : Addr} {Qd : Hp → Prop} (Pv : Nat → Hp → Prop) (h0 : Pv 0 (upd H1 D (.dK []))) (hG : ∀ i H, i ≤ n → Pv i H → G H)
    (hs : ∀ i x H H', i < n → Pv i H → Y i H x H' → g x (wipe σ vs) H' fun σ2 H2 => wipe σ2 vs = wipe σ vs ∧ tt σ2 H2 fun b H3 =>
      if b = true then tk σ2 H3 fun y H4 => tv σ2 H4 fun z H5 => ∃ kvs k, y = kV k ∧ H5 D = some (.dK kvs) ∧ kvs.length < sizeLine ∧ Pv (i + 1) (upd H5 D (.dK (putK kvs k z))) else Pv (i + 1) H3) (hd : ∀ H, Pv n H → Qd H) :
    ∃ W : Nat → Nat → Hp → Prop, (∃ m, W 0 m (upd H1 D (.dK []))) ∧ ∀ i m H, W i m H →
      (J.stop i H ∧ Qd H) ∨ (J.go i H ∧ ∃ Nx : Hp → Prop, (∀ H', Nx H' → ∃ m', m' < m ∧ W (i + 1) m' H') ∧ ∀ x H', J.yld i H x H' → g x (wipe σ vs) H' fun σ2 H2 => wipe σ2 vs = wipe σ vs ∧ tt σ2 H2 fun b H3 =>
        if b = true then tk σ2 H3 fun y H4 => tv σ2 H4 fun z H5 => ∃ kvs k, y = kV k ∧ H5 D = some (.dK kvs) ∧ kvs.length < sizeLine ∧ Nx (upd H5 D (.dK (putK kvs k z))) else Nx H3) := by
  refine ⟨fun i m H => m = n - i ∧ i ≤ n ∧ Pv i H, ⟨n, by simp, Nat.zero_le _, h0⟩, ?_⟩
  rintro i m H ⟨rfl, hi, p⟩
  have q := hG i H hi p
  by_cases hlt : i < n
  · refine .inr ⟨w.goes i H hlt q, Pv (i + 1), fun H' p' => ⟨n - (i + 1), by omega, rfl, hlt, p'⟩, fun x H' y => hs i x H H' hlt p (w.yields i H x H' hlt q y)⟩
  · have e : i = n := by omega
    subst e
    exact .inl ⟨w.stops H q, hd H p⟩
/-- no test, of a dict comprehension -/
theorem dcY {te : TE} {σ : L2.St} {H : Hp} {N : VK} {Nx : Hp → Prop} (h : te σ H N) : tYes σ H fun b H3 => if b = true then te σ H3 N else Nx H3 := lcY h
/-! ### lists of pairs of texts -/
def VP (H : Hp) (v : V) (xy : Str × Str) : Prop := ∃ r, v = .ref r ∧ H r = some (.tup [.str xy.1, .str xy.2])
theorem VP.same {H H' : Hp} {v : V} {xy : Str × Str} (h : VP H v xy) (e : Same H H') : VP H' v xy := let ⟨r, e1, h⟩ := h; ⟨r, e1, e _ _ h⟩
def LstP (H : Hp) (p : Addr) (ps : List (Str × Str)) : Prop := ∃ xs, H p = some (.lst xs) ∧ Paired (VP H) xs ps
theorem LstP.same {H H' : Hp} {p : Addr} {ps : List (Str × Str)} (h : LstP H p ps) (e : Same H H') : LstP H' p ps :=
  let ⟨xs, h1, h2⟩ := h
  ⟨xs, e _ _ h1, L2.Paired.mapP h2 fun _ _ q => q.same e⟩
end OT
end

section
set_option Elab.async false
set_option linter.all false
set_option maxRecDepth 100000
set_option maxHeartbeats 4000000
namespace OT
open PySem PySem.Spec PyProof.Rows L2 OTR
open C8 (Cal Mak Met pe_c pe_mk pe_mt pe_mt0)
section
variable {P : Program} {w : World} {K : PySem.W.Frag} {mg : Str → Option Value} {base : Heap} {a : Ads}
/-! ### check_pairs -/
abbrev sCheckP : Stmt := top 31
theorem scCheckP : FnScope ["names", "pairs", "low", "high", "name"] ["names", "pairs"] (defScope sCheckP) := ⟨rfl, rfl, rfl, by decide +kernel, rfl, by decide +kernel, by decide +kernel⟩
def InP (ns : List Str) (ps : List (Str × Str)) : Prop := ∀ x y, (x, y) ∈ ps → x ∈ ns ∧ y ∈ ns
def spCheckP : Sp := fun vs H Q _ => ∃ (p r : Addr) (ns : List Str) (ps : List (Str × Str)), vs = [.ref p, .ref r] ∧ LstS H p ns ∧ LstP H r ps ∧ InP ns ps ∧ ∀ H2, Same H H2 → Q .non H2
theorem ok_CheckP (D : DF K mg "check_pairs" "check_pairs" "check_pairs" sCheckP ["names", "pairs"]) : Cal P w K mg base 1 "check_pairs" spCheckP [] := by
  refine cal_of D scCheckP (fun vs H Q E h => ?_) (fun f cdv B outer s H vs Q E hr h => ?_)
  · obtain ⟨p, r, ns, ps, rfl, _⟩ := h
    rfl
  · obtain ⟨p, r, ns, ps, rfl, hp, ⟨xs, hx, pr⟩, ip, q⟩ := h
    refine ⟨_, pss_one (ps_for PassesOwn.never rfl (pi_list (pv 1)) (pg_tup rfl (pgs_cons (pg_name (i := 2) scCheckP.nd rfl (.inl rfl)) (pgs_cons (pg_name (i := 3) scCheckP.nd rfl (.inl rfl)) pgs_nil)))
      (pss_one (ps_for PassesOwn.never rfl (pi_tup (pe_tup (pa_cons (pv 2) (pa_cons (pv 3) pa_nil)))) (pg_name (i := 4) scCheckP.nd rfl (.inl rfl))
        (pss_one (ps_if (pt_cmpR op_notIn_seq (pv 4) (pv 0) (by rfl)) pss_never pss_nil))))), ?_⟩
    refine ⟨.ref r, rfl, r, rfl, ⟨xs, .inl (.inl hx)⟩, ?_⟩
    refine for_it (walk_list (xs := xs)) (fun i σ H' => ∃ v1 v2 v3, σ = [some (.ref p), some (.ref r), v1, v2, v3] ∧ Same H H') ⟨none, none, none, rfl, fun _ _ e => e⟩ ?_ ?_ ?_
    · rintro i σ H' _ ⟨v1, v2, v3, rfl, e⟩
      exact .inl (.inl (e _ _ hx))
    · rintro i x σ H' H'' hi ⟨v1, v2, v3, rfl, e⟩ ⟨rfl, e2⟩
      obtain ⟨⟨x1, x2⟩, m, r1, rfl, h1⟩ := paired_get pr e2
      obtain ⟨i1, i2⟩ := ip _ _ (List.mem_of_getElem? m)
      have h2 := e _ _ h1
      refine ⟨r1, _, rfl, .inl (.inl h2), rfl, _, _, rfl, _, _, rfl, rfl, ?_⟩
      refine ⟨.str x1, rfl, .str x2, rfl, (by show 2 ≤ sizeLine; decide), fun t nt => ?_⟩
      refine ⟨t, rfl, ⟨_, .inl (.inl upd_same)⟩, ?_⟩
      refine for_it (walk_tup (xs := [.str x1, .str x2])) (fun j σ H' => ∃ v3, σ = [some (.ref p), some (.ref r), some (.str x1), some (.str x2), v3] ∧ Same H H' ∧ H' t = some (.tup [.str x1, .str x2])) ⟨_, rfl, e.trans (same_new nt), upd_same⟩ ?_ ?_ ?_
      · rintro i σ H' _ ⟨v3, rfl, e, g⟩
        exact .inl (.inl g)
      · rintro i x σ H' H'' hi ⟨v3, rfl, e, g⟩ ⟨rfl, e2⟩
        obtain ⟨z, rfl, hz⟩ : ∃ z, x = .str z ∧ z ∈ ns := by
          rcases i with _ | _ | i
          · injection e2 with e2; exact ⟨x1, e2.symm, i1⟩
          · injection e2 with e2; exact ⟨x2, e2.symm, i2⟩
          · cases e2
        refine ⟨.str z, rfl, .ref p, rfl, p, _, rfl, .inl (.inl (.inl (e _ _ hp))), rfl, flat_strs _, _, rfl, ?_⟩
        rw [inV_str, decide_eq_true hz]
        refine iteF ?_
        exact ⟨_, rfl, e, g⟩
      · rintro σ H' ⟨v3, rfl, e, _⟩
        exact ⟨_, _, _, rfl, e⟩
    · rintro σ H' ⟨v1, v2, v3, rfl, e⟩
      exact q _ e
/-! ### closed -/
abbrev sClosed : Stmt := top 32
theorem scClosed : FnScope ["names", "pairs", "above", "name", "low", "high", "middle"] ["names", "pairs"] (defScope sClosed) := ⟨rfl, rfl, rfl, by decide +kernel, rfl, by decide +kernel, by decide +kernel⟩
def tru : Str → V := fun _ => .bl true
/-- the dict of dicts -/
structure Web (H : Hp) (d : Addr) (ns : List Str) (ad : Str → Addr) (L : Str → List Str) : Prop where
  top : H d = some (SD ns fun x => .ref (ad x))
  sub : ∀ x ∈ ns, H (ad x) = some (SD (L x) tru)
  inj : ∀ x ∈ ns, ∀ y ∈ ns, ad x = ad y → x = y
  off : ∀ x ∈ ns, ad x ≠ d
def putL (L : Str → List Str) (x y : Str) : Str → List Str := fun z => if z = x then addS (L x) y else L z
theorem mem_putL {L : Str → List Str} {x y z t : Str} : t ∈ putL L x y z ↔ t ∈ L z ∨ (z = x ∧ t = y) := by
  unfold putL
  by_cases e : z = x
  · subst e
    rw [if_pos rfl, mem_addS]
    constructor
    · rintro (h | h)
      · exact .inl h
      · exact .inr ⟨rfl, h⟩
    · rintro (h | ⟨_, h⟩)
      · exact .inl h
      · exact .inr h
  · rw [if_neg e]
    exact ⟨.inl, fun h => h.elim id fun q => absurd q.1 e⟩
theorem Web.put {H : Hp} {d : Addr} {ns : List Str} {ad : Str → Addr} {L : Str → List Str} (W : Web H d ns ad L) {x : Str} (hx : x ∈ ns) (y : Str) : Web (upd H (ad x) (.dK (putK (SK (L x) tru) (.inr y) (.bl true)))) d ns ad (putL L x y) := by
  have e : putK (SK (L x) tru) (.inr y) (.bl true) = SK (addS (L x) y) tru := by
    rw [SK_put]
    refine SK_congr fun z _ => ?_
    unfold setF
    split <;> rfl
  rw [e]
  refine ⟨?_, fun z hz => ?_, W.inj, W.off⟩
  · rw [upd_ne (W.off x hx).symm]
    exact W.top
  · by_cases q : z = x
    · subst q
      rw [upd_same]
      unfold putL
      rw [if_pos rfl]
    · rw [upd_ne (fun h => q (W.inj z hz x hx h)), W.sub z hz]
      unfold putL
      rw [if_neg q]
/-- the lists of a web: no doubles, within ns, outside of ns themselves alone -/
structure GoodL (ns : List Str) (L : Str → List Str) : Prop where
  nd : ∀ x, (L x).Nodup
  sub : ∀ x ∈ ns, ∀ y ∈ L x, y ∈ ns
  out : ∀ x, x ∉ ns → L x = [x]
theorem GoodL.put {ns : List Str} {L : Str → List Str} (G : GoodL ns L) {x y : Str} (hx : x ∈ ns) (hy : y ∈ ns) : GoodL ns (putL L x y) := by
  refine ⟨fun z => ?_, fun z hz t ht => ?_, fun z hz => ?_⟩
  · unfold putL
    split
    · exact nodup_addS (G.nd x)
    · exact G.nd z
  · rcases mem_putL.mp ht with h | ⟨_, rfl⟩
    · exact G.sub z hz t h
    · exact hy
  · unfold putL
    rw [if_neg (fun e : z = x => hz (e ▸ hx))]
    exact G.out z hz
theorem GoodL.len {ns : List Str} {L : Str → List Str} (G : GoodL ns L) (ok : OkNs ns) {x : Str} (hx : x ∈ ns) : (SK (L x) tru).length < sizeLine := by
  rw [SK_length]
  have h1 := nodup_le (G.nd x) (G.sub x hx)
  have h2 := ok.le
  exact smallL (by omega)
def spClosed : Sp := fun vs H Q _ => ∃ (p r : Addr) (ns : List Str) (ps : List (Str × Str)), vs = [.ref p, .ref r] ∧ LstS H p ns ∧ LstP H r ps ∧ OkNs ns ∧ InP ns ps ∧
  ∀ d ad L H2, Same H H2 → Web H2 d ns ad L → (∀ x ∈ ns, (L x).Nodup ∧ ∀ y, y ∈ L x ↔ y ∈ ns ∧ Reach ps x y) → Q (.ref d) H2
theorem ok_Closed (T : Fx K mg a) (D : DF K mg "closed" "closed" "closed" sClosed ["names", "pairs"]) : Cal P w K mg base 1 "closed" spClosed [] := by
  refine cal_of D scClosed (fun vs H Q E h => ?_) (fun f cdv B outer s H vs Q E hr h => ?_)
  · obtain ⟨p, r, ns, ps, rfl, _⟩ := h
    rfl
  · obtain ⟨p, r, ns, ps, rfl, hp, ⟨xs, hx, pr⟩, ok, ip, q⟩ := h
    have hu := hu_of hr
    refine ⟨_, pss_cons (ps_setDc (i := 2) rfl scClosed.nd rfl rfl (swd_true rfl rfl rfl (by decide +kernel)) (pi_list (pv 0)) (own := [("name", 3)]) (blkOk_by (N := ["names", "pairs", "above", "name", "low", "high", "middle"]) (sc := defScope sClosed) (by decide +kernel)) (fun _ _ _ _ _ => pg_name (i := 3) scClosed.nd rfl (.inl rfl)) (fun _ _ _ _ _ => pts_nil)
        (fun _ _ _ _ _ => pv 3) (fun _ _ _ _ _ => pe_disp (pps_cons (pv 3) pe_bl pps_nil) (by rfl) (by rfl) (fun z => by cases z) (by decide)))
      (pss_cons (ps_for PassesOwn.never rfl (pi_list (pv 1)) (pg_tup rfl (pgs_cons (pg_name (i := 4) scClosed.nd rfl (.inl rfl)) (pgs_cons (pg_name (i := 5) scClosed.nd rfl (.inl rfl)) pgs_nil)))
        (pss_one (ps_dput hu (pe_dget hu (pv 2) (pv 4) (fun _ _ => rfl)) (pv 5) pe_bl rfl)))
      (pss_cons (ps_for PassesOwn.never rfl (pi_list (pv 0)) (pg_name (i := 6) scClosed.nd rfl (.inl rfl))
        (pss_one (ps_for PassesOwn.never rfl (pi_list (pv 0)) (pg_name (i := 4) scClosed.nd rfl (.inl rfl))
          (pss_one (ps_if (pt_cmp (pc_din hu (pv 6) (pe_dget hu (pv 2) (pv 4) (fun _ _ => rfl))))
            (pss_one (ps_for PassesOwn.never rfl (pi_list (pe_callTy (call_listD rfl) (by rfl) T.nList (by decide +kernel) (pa_cons (pe_dget hu (pv 2) (pv 6) (fun _ _ => rfl)) pa_nil))) (pg_name (i := 5) scClosed.nd rfl (.inl rfl))
              (pss_one (ps_dput hu (pe_dget hu (pv 2) (pv 4) (fun _ _ => rfl)) (pv 5) pe_bl rfl)))) pss_nil)))))
      (pss_one (ps_ret (pv 2))))), ?_⟩
    refine ⟨.ref p, rfl, p, rfl, ⟨_, .inl (.inl hp)⟩, fun d nd => ?_⟩
    refine dc_it (walk_list (xs := ns.map V.str)) (fun i H' => ∃ ad : Str → Addr, Same H H' ∧ H' d = some (SD (ns.take i) fun x => .ref (ad x)) ∧ (∀ x ∈ ns.take i, H' (ad x) = some (SD [x] tru) ∧ H (ad x) = none ∧ ad x ≠ d) ∧ ∀ x ∈ ns.take i, ∀ y ∈ ns.take i, ad x = ad y → x = y)
      ⟨fun _ => 0, same_new nd, upd_same, (by intro x hx; cases hx), (by intro x hx; cases hx)⟩ ?_ ?_ ?_
    · rintro i H' _ ⟨ad, e, _⟩
      exact .inl (.inl (e _ _ hp))
    · rintro i x H' _ hi ⟨ad, e, h1, h2, h3⟩ ⟨rfl, e2⟩
      obtain ⟨z, hz, rfl⟩ := get_map e2
      have nz : z ∉ ns.take i := nodup_take ok.nd hz
      refine ⟨rfl, dcY ?_⟩
      refine ⟨.str z, rfl, fun p2 n2 => ?_⟩
      refine ⟨.str z, rfl, upd_same, [(.inr z, .bl true)], rfl, (by show 1 ≤ 15; decide), ?_⟩
      have p2d : p2 ≠ d := fun e => by rw [e, h1] at n2; cases n2
      have ez : (.dK (mergeK [] [((.inr z : Key), V.bl true)]) : HO) = SD [z] tru := rfl
      rw [upd_upd, ez]
      refine ⟨_, .inr z, rfl, (upd_ne p2d.symm).trans h1, ?_, ?_⟩
      · rw [SK_length, List.length_take]
        have := ok.le
        exact smallL (by omega)
      · have et : ns.take (i + 1) = ns.take i ++ [z] := by rw [List.take_succ, hz]; rfl
        refine ⟨fun y => if y = z then p2 else ad y, ?_, ?_, ?_, ?_⟩
        · exact Same.mut (e.trans (same_new n2)) nd
        · rw [upd_same, SK_put, et]
          unfold addS
          rw [if_neg nz]
          refine congrArg (fun l => some (HO.dK l)) (SK_congr fun y _ => ?_)
          unfold setF
          by_cases q : y = z
          · rw [if_pos q]
            exact congrArg V.ref (if_pos q).symm
          · rw [if_neg q]
            exact congrArg V.ref (if_neg q).symm
        · intro x hx
          rw [et] at hx
          by_cases q : x = z
          · subst q
            simp only [if_true]
            rw [upd_ne p2d, upd_same]
            exact ⟨rfl, Same.none e n2, p2d⟩
          · have hx : x ∈ ns.take i := (List.mem_append.mp hx).elim id fun h => absurd (List.mem_singleton.mp h) q
            obtain ⟨k1, k2, k3⟩ := h2 x hx
            simp only [if_neg q]
            refine ⟨?_, k2, k3⟩
            rw [upd_ne k3, upd_ne (fun h => by rw [h, n2] at k1; cases k1)]
            exact k1
        · intro x hx y hy
          rw [et] at hx hy
          by_cases q : x = z <;> by_cases q2 : y = z
          · intro _; rw [q, q2]
          · have hy : y ∈ ns.take i := (List.mem_append.mp hy).elim id fun h => absurd (List.mem_singleton.mp h) q2
            simp only [if_pos q, if_neg q2]
            intro h
            rw [h, (h2 y hy).1] at n2
            cases n2
          · have hx : x ∈ ns.take i := (List.mem_append.mp hx).elim id fun h => absurd (List.mem_singleton.mp h) q
            simp only [if_neg q, if_pos q2]
            intro h
            rw [← h, (h2 x hx).1] at n2
            cases n2
          · have hx : x ∈ ns.take i := (List.mem_append.mp hx).elim id fun h => absurd (List.mem_singleton.mp h) q
            have hy : y ∈ ns.take i := (List.mem_append.mp hy).elim id fun h => absurd (List.mem_singleton.mp h) q2
            simp only [if_neg q, if_neg q2]
            exact h3 x hx y hy
    · rintro H' ⟨ad, e, h1, h2, h3⟩
      rw [List.length_map, List.take_length] at h1 h2 h3
      have nw : ∀ x ∈ ns, H (ad x) = none := fun x hx => (h2 x hx).2.1
      refine ⟨.ref r, rfl, r, rfl, ⟨_, .inl (.inl (e _ _ hx))⟩, ?_⟩
      refine for_it (walk_list (xs := xs)) (fun i σ H' => ∃ v3 v4 v5 v6, σ = [some (.ref p), some (.ref r), some (.ref d), v3, v4, v5, v6] ∧ Same H H' ∧ ∃ L, Web H' d ns ad L ∧ GoodL ns L ∧ ∀ x y, y ∈ L x ↔ x = y ∨ (x, y) ∈ ps.take i)
        ⟨_, _, _, _, rfl, e, fun x => [x], ⟨h1, fun x hx => (h2 x hx).1, h3, fun x hx => (h2 x hx).2.2⟩, ⟨fun x => by simp, fun x hx y hy => by rw [List.mem_singleton] at hy; exact hy ▸ hx, fun _ _ => rfl⟩, fun x y => by simp [eq_comm]⟩ ?_ ?_ ?_
      · rintro i σ H' _ ⟨v3, v4, v5, v6, rfl, e, _⟩
        exact .inl (.inl (e _ _ hx))
      · rintro i x σ H' _ hi ⟨v3, v4, v5, v6, rfl, e, L, W, G, rel⟩ ⟨rfl, e2⟩
        obtain ⟨⟨x1, x2⟩, m, r1, rfl, g1⟩ := paired_get pr e2
        obtain ⟨i1, i2⟩ := ip _ _ (List.mem_of_getElem? m)
        refine ⟨r1, _, rfl, .inl (.inl (e _ _ g1)), rfl, _, _, rfl, _, _, rfl, rfl, ?_⟩
        refine ⟨.ref d, rfl, .str x1, rfl, d, .ref (ad x1), rfl, .inl ⟨_, .inr x1, .inl W.top, rfl, (SK_in (f := fun x => .ref (ad x)) i1).symm⟩, .str x2, rfl, ad x1, _, rfl, DPut.k (k := .inr x2) (W.sub x1 i1) (G.len ok i1), ?_⟩
        refine ⟨_, _, _, _, rfl, Same.mut e (nw _ i1), putL L x1 x2, W.put i1 x2, G.put i1 i2, fun x y => ?_⟩
        rw [mem_putL, rel, List.take_succ, m]
        simp only [Option.toList, List.mem_append, List.mem_singleton, Prod.mk.injEq]
        grind
      · rintro σ H' ⟨v3, v4, v5, v6, rfl, e, L, W, G, rel⟩
        have rel0 : ∀ x y, y ∈ L x ↔ (fun x y => x = y ∨ (x, y) ∈ ps) x y := fun x y => by
          rw [rel, pr.length, List.take_length]
        have inj := W.inj
        refine ⟨.ref p, rfl, p, rfl, ⟨_, .inl (.inl (e _ _ hp))⟩, ?_⟩
        refine for_it (walk_list (xs := ns.map V.str)) (fun i σ H' => ∃ v3 v4 v5 v6, σ = [some (.ref p), some (.ref r), some (.ref d), v3, v4, v5, v6] ∧ Same H H' ∧ ∃ L, Web H' d ns ad L ∧ GoodL ns L ∧ ∀ x y, y ∈ L x ↔ wars (fun x y => x = y ∨ (x, y) ∈ ps) (ns.take i) x y)
          ⟨_, _, _, _, rfl, e, L, W, G, rel0⟩ ?_ ?_ ?_
        · rintro i σ H' _ ⟨v3, v4, v5, v6, rfl, e, _⟩
          exact .inl (.inl (e _ _ hp))
        · rintro i x σ H' _ hi ⟨v3, v4, v5, v6, rfl, e, L, W, G, rel⟩ ⟨rfl, e2⟩
          obtain ⟨m, hm, rfl⟩ := get_map e2
          have mn : m ∈ ns := List.mem_of_getElem? hm
          refine ⟨.ref p, rfl, p, rfl, ⟨_, .inl (.inl (e _ _ hp))⟩, ?_⟩
          have Srefl : ∀ x, wars (fun x y => x = y ∨ (x, y) ∈ ps) (ns.take i) x x := fun x => wars_up (.inl rfl)
          generalize hS : wars (fun x y => x = y ∨ (x, y) ∈ ps) (ns.take i) = S at rel Srefl
          refine for_it (walk_list (xs := ns.map V.str)) (fun j σ H' => ∃ v3 v4 v5, σ = [some (.ref p), some (.ref r), some (.ref d), v3, v4, v5, some (.str m)] ∧ Same H H' ∧ ∃ L, Web H' d ns ad L ∧ GoodL ns L ∧ ∀ x y, y ∈ L x ↔ S x y ∨ (x ∈ ns.take j ∧ S x m ∧ S m y))
            ⟨_, _, _, rfl, e, L, W, G, fun x y => by rw [rel]; simp⟩ ?_ ?_ ?_
          · rintro i σ H' _ ⟨v3, v4, v5, rfl, e, _⟩
            exact .inl (.inl (e _ _ hp))
          · rintro j x σ _ H' hi ⟨v3, v4, v5, rfl, e, L, W, G, rel⟩ ⟨rfl, e2⟩
            obtain ⟨lo, hlo, rfl⟩ := get_map e2
            have ln : lo ∈ ns := List.mem_of_getElem? hlo
            have et : ∀ x, x ∈ ns.take (j + 1) ↔ x ∈ ns.take j ∨ x = lo := fun x => by
              rw [List.take_succ, hlo]
              simp
            refine ⟨.str m, rfl, .ref d, rfl, .str lo, rfl, d, .ref (ad lo), rfl, .inl ⟨_, .inr lo, .inl W.top, rfl, (SK_in (f := fun x => .ref (ad x)) ln).symm⟩, ad lo, _, rfl, .inl ⟨_, .inr m, .inl (W.sub lo ln), rfl, rfl⟩, _, rfl, ?_⟩
            rw [SK_some]
            have hSm : m ∈ L lo ↔ S lo m := by
              rw [rel]
              exact ⟨fun h => h.elim id fun q => q.2.1, .inl⟩
            by_cases c : m ∈ L lo
            · rw [decide_eq_true c]
              refine iteT ?_
              refine ⟨.ref d, rfl, .str m, rfl, d, .ref (ad m), rfl, .inl ⟨_, .inr m, .inl W.top, rfl, (SK_in (f := fun x => .ref (ad x)) mn).symm⟩, ad m, _, rfl, .inl (W.sub m mn), fun l nl => ?_⟩
              refine ⟨l, rfl, ⟨_, .inl (.inl upd_same)⟩, ?_⟩
              rw [SK_keys]
              have hH : ∀ y, y ∈ L m ↔ S m y := fun y => by
                rw [rel]
                exact ⟨fun h => h.elim id fun q => q.2.2, .inl⟩
              have Hin : ∀ y ∈ L m, y ∈ ns := G.sub m mn
              have W2 : Web (upd H' l (.lst ((L m).map V.str))) d ns ad L := ⟨(upd_ne (fun h => by rw [← h, W.top] at nl; cases nl)).trans W.top, fun x hx => (upd_ne (fun h => by rw [← h, W.sub x hx] at nl; cases nl)).trans (W.sub x hx), W.inj, W.off⟩
              generalize hM : L m = M at hH Hin W2
              refine for_it (walk_list (xs := M.map V.str)) (fun k σ H' => ∃ v3 v5, σ = [some (.ref p), some (.ref r), some (.ref d), v3, some (.str lo), v5, some (.str m)] ∧ Same H H' ∧ H' l = some (.lst (M.map V.str)) ∧ (∀ x ∈ ns, ad x ≠ l) ∧ ∃ L2, Web H' d ns ad L2 ∧ GoodL ns L2 ∧ ∀ x y, y ∈ L2 x ↔ y ∈ L x ∨ (x = lo ∧ y ∈ M.take k))
                ⟨_, _, rfl, e.trans (same_new nl), upd_same, fun x hx h => (by rw [← h, W.sub x hx] at nl; cases nl), L, W2, G, fun x y => by simp⟩ ?_ ?_ ?_
              · rintro i σ H' _ ⟨v3, v5, rfl, e, g, _⟩
                exact .inl (.inl g)
              · rintro k x σ H' _ hi ⟨v3, v5, rfl, e, g, nl, L2, W, G, rel2⟩ ⟨rfl, e2⟩
                obtain ⟨h, hh, rfl⟩ := get_map e2
                have hn : h ∈ ns := Hin h (List.mem_of_getElem? hh)
                refine ⟨.ref d, rfl, .str lo, rfl, d, .ref (ad lo), rfl, .inl ⟨_, .inr lo, .inl W.top, rfl, (SK_in (f := fun x => .ref (ad x)) ln).symm⟩, .str h, rfl, ad lo, _, rfl, DPut.k (k := .inr h) (W.sub lo ln) (G.len ok ln), ?_⟩
                refine ⟨_, _, rfl, Same.mut e (nw _ ln), (upd_ne (nl lo ln).symm).trans g, nl, putL L2 lo h, W.put ln h, G.put ln hn, fun x y => ?_⟩
                rw [mem_putL, rel2, List.take_succ, hh]
                simp only [Option.toList, List.mem_append, List.mem_singleton]
                grind
              · rintro σ H' ⟨v3, v5, rfl, e, g, nl, L2, W, G, rel2⟩
                refine ⟨_, _, _, rfl, e, L2, W, G, fun x y => ?_⟩
                rw [rel2, List.length_map, List.take_length, hH, rel, et]
                have c := hSm.mp c
                constructor
                · rintro ((h | h) | ⟨rfl, h⟩)
                  · exact .inl h
                  · exact .inr ⟨.inl h.1, h.2⟩
                  · exact .inr ⟨.inr rfl, c, h⟩
                · rintro (h | ⟨h | rfl, h2⟩)
                  · exact .inl (.inl h)
                  · exact .inl (.inr ⟨h, h2⟩)
                  · exact .inr ⟨rfl, h2.2⟩
            · rw [decide_eq_false c]
              refine iteF ?_
              refine ⟨_, _, _, rfl, e, L, W, G, fun x y => ?_⟩
              rw [rel, et]
              have c : ¬ S lo m := fun h => c (hSm.mpr h)
              constructor
              · rintro (h | h)
                · exact .inl h
                · exact .inr ⟨.inl h.1, h.2⟩
              · rintro (h | ⟨h | rfl, h2⟩)
                · exact .inl h
                · exact .inr ⟨h, h2⟩
                · exact absurd h2.1 c
          · rintro σ H' ⟨v3, v4, v5, rfl, e, L, W, G, rel2⟩
            refine ⟨_, _, _, _, rfl, e, L, W, G, fun x y => ?_⟩
            have et : ns.take (i + 1) = ns.take i ++ [m] := by rw [List.take_succ, hm]; rfl
            rw [et, wars_snoc, hS]
            have r2 := rel2
            rw [rel2]
            unfold wstep
            rw [List.length_map, List.take_length]
            constructor
            · rintro (h | ⟨_, h⟩)
              · exact .inl h
              · exact .inr h
            · rintro (h | ⟨h1, h2⟩)
              · exact .inl h
              · refine .inr ⟨?_, h1, h2⟩
                by_cases c : x ∈ ns
                · exact c
                · have := (r2 x m).mpr (.inl h1)
                  rw [G.out x c, List.mem_singleton] at this
                  exact absurd (this ▸ mn) c
        · rintro σ H' ⟨v3, v4, v5, v6, rfl, e, L, W, G, rel⟩
          refine ⟨.ref d, rfl, q d ad L H' e W fun x hx => ⟨G.nd x, fun y => ?_⟩⟩
          rw [rel, List.length_map, List.take_length, wars_reach (fun _ _ => Iff.rfl) (fun x y h => (ip x y h).2)]
          refine ⟨fun h => ⟨?_, h⟩, fun h => h.2⟩
          clear rel
          induction h with
          | refl _ => exact hx
          | step g _ ih => exact ih (ip _ _ g).2
end
end OT
end

section
set_option Elab.async false
set_option linter.all false
set_option maxRecDepth 100000
set_option maxHeartbeats 4000000
namespace OT
open PySem PySem.Spec PyProof.Rows L2 OTR
open C8 (Cal Mak Met pe_c pe_mk pe_mt pe_mt0)
section
variable {P : Program} {w : World} {K : PySem.W.Frag} {mg : Str → Option Value} {base : Heap} {a : Ads}
/-- tuple(a list) -/
def rTupL (K : PySem.W.Frag) : List V → Hp → VK → Prop := fun xs H Q => ∃ p ys, xs = [.ref p] ∧ SqL K H p ys ∧ ∀ l, H l = none → Q (.ref l) (upd H l (.tup ys))
theorem call_tupL {X : Cx} : CallR X (.type "tuple") (rTupL X.K) := by
  intro pins s σ H vs us Q I r h
  obtain ⟨p, ys, e, h1, h2⟩ := h
  exact call_tuple_of pins s σ H vs us Q I r ⟨p, ys, e, .inl ⟨h1, h2⟩⟩
/-! ### Order.__init__ -/
abbrev sOI : Stmt := inClass (top 34) 0
abbrev nOI : List Str := ["self", "names", "pairs", "above", "round_names", "low", "high"]
theorem scOI : FnScope nOI ["self", "names", "pairs"] (defScope sOI) := ⟨rfl, rfl, rfl, by decide +kernel, rfl, by decide +kernel, by decide +kernel⟩
/-- at o an order of the names sn, y at or above x by R -/
def OrdAt (a : Ads) (H : Hp) (o : Addr) (sn : List Str) (R : Str → Str → Bool) : Prop :=
  ∃ (dx t d : Addr) (td : Str → Addr) (up : Str → List Str), H o = some (.ins a.O dx [("names", .ref t), ("above", .ref d)]) ∧ H t = some (.tup (sn.map V.str)) ∧ H d = some (SD sn fun x => .ref (td x)) ∧
    ∀ x ∈ sn, H (td x) = some (.tup ((up x).map V.str)) ∧ ∀ y, y ∈ up x ↔ y ∈ sn ∧ R x y = true
theorem OrdAt.same {H H' : Hp} {o : Addr} {sn : List Str} {R : Str → Str → Bool} (h : OrdAt a H o sn R) (e : Same H H') : OrdAt a H' o sn R :=
  let ⟨dx, t, d, td, up, h1, h2, h3, h4⟩ := h
  ⟨dx, t, d, td, up, e _ _ h1, e _ _ h2, e _ _ h3, fun x hx => ⟨e _ _ (h4 x hx).1, (h4 x hx).2⟩⟩
theorem ordF_put (t d : V) : putF "above" d (putF "names" t []) = ([("names", t), ("above", d)] : List (Str × V)) := by
  show (if ("names" : Str) = "above" then _ else (("names" : Str), t) :: putF "above" d []) = _
  rw [if_neg (by decide +kernel)]
  rfl
theorem Web.same {H H2 : Hp} {d : Addr} {ns : List Str} {ad : Str → Addr} {L : Str → List Str} (W : Web H d ns ad L) (e : Same H H2) : Web H2 d ns ad L := ⟨e _ _ W.top, fun x hx => e _ _ (W.sub x hx), W.inj, W.off⟩
theorem all_false (bs : List Bool) (h : ∀ b ∈ bs, b = false) : bs.any id = false := by
  rw [List.any_eq_false]
  intro b hb
  rw [h b hb]
  decide
def spOI (a : Ads) : Sp := fun vs H Q _ => ∃ (o dx p r : Addr) (ns : List Str) (ps : List (Str × Str)) (R : Str → Str → Bool), vs = [.ref o, .ref p, .ref r] ∧ H o = some (.ins a.O dx []) ∧ LstS H p ns ∧ LstP H r ps ∧ OkNs ns ∧ InP ns ps ∧
  (∀ x ∈ ns, ∀ y ∈ ns, (Reach ps x y ↔ R x y = true)) ∧ (∀ x ∈ ns, ∀ y ∈ ns, R x y = true → R y x = true → x = y) ∧
  ∀ H' sn, (∀ b z, H b = some z → b ≠ o → H' b = some z) → sn.Perm ns → OrdAt a H' o sn R → Q .non H'
theorem ok_OI (T : Fx K mg a) (C1 : Cal P w K mg base 2 "check_names_orders" spCheckO []) (C2 : Cal P w K mg base 1 "check_pairs" spCheckP []) (C3 : Cal P w K mg base 1 "closed" spClosed [])
    (D : IF K mg "Order" a.O "Order.__init__" sOI ["self", "names", "pairs"]) : Mak P w K mg base 3 "Order" a.O (spOI a) [] := by
  refine mak_of D scOI (fun vs H Q E h => ?_) (fun f cdv A outer s H vs Q E hr h => ?_)
  · obtain ⟨o, dx, p, r, ns, ps, R, rfl, _⟩ := h
    rfl
  · obtain ⟨o, dx, p, r, ns, ps, R, rfl, ho, hp, hps, ok, ip, rel, anti, q⟩ := h
    have hu := hu_of hr
    refine ⟨_, pss_cons (ps_expr (pe_c C1 hr (by decide) (by rfl) (pa_cons (pv 1) pa_nil)))
      (pss_cons (ps_expr (pe_c C2 hr (by decide) (by rfl) (pa_cons (pv 1) (pa_cons (pv 2) pa_nil))))
      (pss_cons (ps_set (i := 3) scOI.nd rfl (.inr rfl) (pe_c C3 hr (by decide) (by rfl) (pa_cons (pv 1) (pa_cons (pv 2) pa_nil))))
      (pss_cons (ps_setLc (i := 4) rfl scOI.nd rfl rfl (sw_true rfl rfl rfl (by decide +kernel)) (pi_list (pv 1)) (own := [("low", 5)]) (blkOk_by (N := nOI) (sc := defScope sOI) (by decide +kernel)) (fun _ _ _ _ _ => pg_name (i := 5) scOI.nd rfl (.inr rfl))
        (fun _ _ _ _ _ => pts_one (pt_val (pe_callB (id := "any") (r := rAny K) (cr_any rfl) (by rfl) T.nAny (by decide +kernel) (pa_cons (pe_lock (pe_lc rfl scOI.nd (pi_keys (pe_dget hu (pv 3) (pv 5) (fun _ _ => rfl))) (own := [("high", 6)]) (blkOk_by (by kernel_rfl)) (fun _ _ _ _ _ => pg_name (i := 6) scOI.nd rfl (.inl rfl)) (fun _ _ _ _ _ => pts_nil)
          (fun _ _ _ _ _ => pe_and (pe_cmpR op_ne (pv 6) (pv 5) (nomark _)) (pe_one (pe_cmp (pc_din hu (pv 5) (pe_dget hu (pv 3) (pv 6) (fun _ _ => rfl)))))))) pa_nil))))
        (fun _ _ _ _ _ => pv 5))
      (pss_cons (ps_if (pt_cmpR (op_neD hr.units) (pv 4) (pe_lst pa_nil) (nomark _)) pss_never pss_nil)
      (pss_cons (ps_fld (pv 0) (pe_callTy call_tupL (by rfl) T.nTuple (by decide +kernel) (pa_cons (pe_callB cr_sortedS (by rfl) T.nSorted (by decide +kernel) (pa_cons (pv 1) pa_nil)) pa_nil)) rfl)
      (pss_one (ps_fld (pv 0) (pe_dc rfl scOI.nd (pi_tup (pe_fld (pv 0) rfl)) (own := [("low", 5)]) (blkOk_by (N := nOI) (sc := defScope sOI) (by decide +kernel)) (fun _ _ _ _ _ => pg_name (i := 5) scOI.nd rfl (.inl rfl)) (fun _ _ _ _ _ => pts_nil)
        (fun _ _ _ _ _ => pv 5) (fun _ _ _ _ _ => pe_callTy (T := "tuple") (r := rTupL K) call_tupL (by rfl) T.nTuple (by decide +kernel) (pa_cons (pe_callB (id := "sorted") (r := rSortedS K) cr_sortedS (by rfl) T.nSorted (by decide +kernel) (pa_cons (pe_callTy (T := "list") (call_listD rfl) (by rfl) T.nList (by decide +kernel) (pa_cons (pe_dget hu (pv 3) (pv 5) (fun _ _ => rfl)) pa_nil)) pa_nil)) pa_nil))) rfl))))))), ?_⟩
    refine ⟨.ref p, rfl, p, ns, rfl, hp, ok, fun H1 e1 => ?_⟩
    refine ⟨.ref p, rfl, .ref r, rfl, p, r, ns, ps, rfl, hp.same e1, hps.same e1, ip, fun H2 e2 => ?_⟩
    have e12 := e1.trans e2
    refine ⟨.ref p, rfl, .ref r, rfl, p, r, ns, ps, rfl, hp.same e12, hps.same e12, ok, ip, fun d ad L H3 e3 W GL => ?_⟩
    have e := e12.trans e3
    clear e12 e1 e2 e3
    have antiL : ∀ x ∈ ns, ∀ y ∈ ns, y ∈ L x → x ∈ L y → x = y := fun x hx y hy h1 h2 =>
      anti x hx y hy ((rel x hx y hy).mp (((GL x hx).2 y).mp h1).2) ((rel y hy x hx).mp (((GL y hy).2 x).mp h2).2)
    have hp3 := hp.same e
    refine ⟨.ref p, rfl, p, rfl, ⟨_, .inl (.inl hp3)⟩, fun D nD => ?_⟩
    refine lc_it (walk_list (xs := ns.map V.str)) (fun i H' => Same H3 H' ∧ H' D = some (.lst [])) ⟨same_new nD, upd_same⟩ ?_ ?_ ?_
    · rintro i H' _ ⟨e, _⟩
      exact .inl (.inl (hp3.same e))
    · rintro i x _ H' hi ⟨e, hD⟩ ⟨rfl, e2⟩
      obtain ⟨x, hx, rfl⟩ := get_map e2
      have xn : x ∈ ns := List.mem_of_getElem? hx
      have W := W.same e
      refine ⟨rfl, ad x, _, W.sub x xn, trivial, fun od => ?_⟩
      refine ⟨.ref d, rfl, .str x, rfl, d, .ref (ad x), rfl, .inl ⟨_, .inr x, .inl ((upd_ne (W.off x xn).symm).trans W.top), rfl, (SK_in (f := fun x => .ref (ad x)) xn).symm⟩, ad x, od, rfl, .inl ⟨_, upd_same, fun D2 nD2 => ?_⟩⟩
      have D2x : D2 ≠ ad x := fun h => by rw [h, upd_same] at nD2; cases nD2
      refine lc_pure (SK (L x) tru) walk_keys (fun _ => true) (fun _ => .bl false) ?_ (fun acc => (upd_ne D2x.symm).trans upd_same) ?_ ?_
      · rw [SK_length]
        have := nodup_le (GL x xn).1 fun y hy => (((GL x xn).2 y).mp hy).1
        have := ok.le
        omega
      · rintro j kv v acc Hx Nx hj ⟨rfl, k, v', hk, rfl⟩ hl h1 _
        obtain ⟨y, hy, rfl⟩ := get_map hj
        rw [hj] at hk
        injection hk with hk
        injection hk with hk hk'
        subst hk
        have yL : y ∈ L x := List.mem_of_getElem? hy
        have yn := (((GL x xn).2 y).mp yL).1
        refine ⟨rfl, lcY ?_⟩
        refine ⟨.str y, rfl, .str x, rfl, rfl, _, rfl, ?_⟩
        by_cases c : y = x
        · subst c
          rw [decide_eq_true rfl]
          refine iteF ?_
          refine ⟨acc, upd_same, hl, ?_⟩
          rw [upd_upd]
          exact h1 rfl
        · rw [decide_eq_false (fun z : V.str y = V.str x => c (by injection z))]
          refine iteT ?_
          have n1 : ad y ≠ ad x := fun h => c (W.inj y yn x xn h)
          have g1 : upd (upd H' (ad x) (.frz od (SD (L x) tru))) D2 (.lst acc) d = some (SD ns fun x => .ref (ad x)) := by
            rw [upd_ne, upd_ne (W.off x xn).symm]
            · exact W.top
            · intro h
              rw [← h, upd_ne (W.off x xn).symm, W.top] at nD2
              cases nD2
          have g2 : upd (upd H' (ad x) (.frz od (SD (L x) tru))) D2 (.lst acc) (ad y) = some (SD (L y) tru) := by
            rw [upd_ne, upd_ne n1]
            · exact W.sub y yn
            · intro h
              rw [← h, upd_ne n1, W.sub y yn] at nD2
              cases nD2
          refine ⟨.str x, rfl, .ref d, rfl, .str y, rfl, d, .ref (ad y), rfl, .inl ⟨_, .inr y, .inl g1, rfl, (SK_in (f := fun x => .ref (ad x)) yn).symm⟩, ad y, _, rfl, .inl ⟨_, .inr x, .inl g2, rfl, rfl⟩, ?_⟩
          rw [SK_some, decide_eq_false (fun h => c (antiL x xn y yn yL h).symm)]
          refine ⟨acc, upd_same, hl, ?_⟩
          rw [upd_upd]
          exact h1 rfl
      · refine ⟨(upd_ne D2x.symm).trans upd_same, ?_⟩
        have eqH : upd (upd (upd H' (ad x) (.frz od (SD (L x) tru))) D2 (.lst ((List.filter (fun _ => true) (SK (L x) tru)).map fun _ => V.bl false))) (ad x) (SD (L x) tru) = upd H' D2 (.lst ((SK (L x) tru).map fun _ => V.bl false)) := by
          rw [upd_comm D2x, upd_upd, upd_back (W.sub x xn), List.filter_eq_self.mpr (fun _ _ => rfl)]
        rw [eqH]
        have nD2 : H' D2 = none := by rw [upd_ne D2x] at nD2; exact nD2
        have D2D : D2 ≠ D := fun h => by rw [h, hD] at nD2; cases nD2
        refine ⟨D2, (SK (L x) tru).map fun _ => false, rfl, .inl (.inl ?_), _, rfl, ?_⟩
        · rw [upd_same, List.map_map]
          rfl
        · rw [all_false _ (by intro b hb; obtain ⟨_, _, rfl⟩ := List.mem_map.mp hb; rfl)]
          refine iteF ?_
          exact ⟨e.trans (same_new nD2), (upd_ne D2D.symm).trans hD⟩
    · rintro H' ⟨e4, hD⟩
      have W := W.same e4
      have e4 := e.trans e4
      refine ⟨.ref D, rfl, Nat.zero_le _, fun l nl => ?_⟩
      have lD : l ≠ D := fun h => by rw [h, hD] at nl; cases nl
      refine ⟨.list [], .list [], .lst (.inl (.inl ((upd_ne lD.symm).trans hD))) .nil, .lst (.inl (.inl upd_same)) .nil, rfl, rfl, _, rfl, iteF ?_⟩
      have W := W.same (same_new (o := .lst []) nl)
      have e4 := e4.trans (same_new (o := .lst []) nl)
      generalize upd H' l (.lst []) = H4 at W e4
      have hp4 := hp.same e4
      refine ⟨.ref p, rfl, p, ns, rfl, .inl (.inl hp4), (by have := ok.le; omega), fun sn q1 pm _ nq => ?_⟩
      have snm : ∀ x, x ∈ sn ↔ x ∈ ns := fun x => pm.mem_iff
      refine ⟨q1, _, rfl, .inl (.inl upd_same), fun t nt => ?_⟩
      have e5 := (e4.trans (same_new nq)).trans (same_new (o := .tup (sn.map V.str)) nt)
      have W := (W.same (same_new (o := .lst (sn.map V.str)) nq)).same (same_new (o := .tup (sn.map V.str)) nt)
      have ht : upd (upd H4 q1 (.lst (sn.map V.str))) t (.tup (sn.map V.str)) t = some (.tup (sn.map V.str)) := upd_same
      generalize upd (upd H4 q1 (.lst (sn.map V.str))) t (.tup (sn.map V.str)) = H5 at e5 W ht
      have ho5 := e5 _ _ ho
      refine ⟨.ref o, rfl, o, a.O, dx, [], rfl, ho5, T.clO, T.o1, (by show 0 < 1000; decide), ?_⟩
      have oW : ∀ x ∈ ns, ad x ≠ o := fun x hx h => by have := W.sub x hx; rw [h, ho5] at this; cases this
      have od : d ≠ o := fun h => by have := W.top; rw [h, ho5] at this; cases this
      have ot : t ≠ o := fun h => by rw [h, ho5] at ht; cases ht
      have W6 : Web (upd H5 o (.ins a.O dx (putF "names" (.ref t) []))) d ns ad L := ⟨(upd_ne od).trans W.top, fun x hx => (upd_ne (oW x hx)).trans (W.sub x hx), W.inj, W.off⟩
      have ht6 : upd H5 o (.ins a.O dx (putF "names" (.ref t) [])) t = some (.tup (sn.map V.str)) := (upd_ne ot).trans ht
      have ho6 : upd H5 o (.ins a.O dx (putF "names" (.ref t) [])) o = some (.ins a.O dx (putF "names" (.ref t) [])) := upd_same
      have e6 : ∀ b z, H b = some z → b ≠ o → upd H5 o (.ins a.O dx (putF "names" (.ref t) [])) b = some z := fun b z hb hn => (upd_ne hn).trans (e5 _ _ hb)
      generalize upd H5 o (.ins a.O dx (putF "names" (.ref t) [])) = H6 at W6 ht6 ho6 e6
      refine ⟨.ref o, rfl, o, a.O, dx, _, _, rfl, ho6, T.clO, T.o1, rfl, t, rfl, ⟨_, .inl (.inl ht6)⟩, fun d2 nd2 => ?_⟩
      refine dc_it (walk_tup (xs := sn.map V.str)) (fun i H' => ∃ (td : Str → Addr) (up : Str → List Str), Same H6 H' ∧ H' d2 = some (SD (sn.take i) fun x => .ref (td x)) ∧ ∀ x ∈ sn.take i, H' (td x) = some (.tup ((up x).map V.str)) ∧ (up x).Perm (L x))
        ⟨fun _ => 0, fun _ => [], same_new nd2, upd_same, (by intro x hx; cases hx)⟩ ?_ ?_ ?_
      · rintro i H' _ ⟨td, up, e, _⟩
        exact .inl (.inl (e _ _ ht6))
      · rintro i x _ H' hi ⟨td, up, e, h1, h2⟩ ⟨rfl, e2⟩
        obtain ⟨z, hz, rfl⟩ := get_map e2
        have zn : z ∈ ns := (snm z).mp (List.mem_of_getElem? hz)
        have nz : z ∉ sn.take i := nodup_take (pm.nodup_iff.mpr ok.nd) hz
        have W := W6.same e
        refine ⟨rfl, dcY ?_⟩
        refine ⟨.str z, rfl, .ref d, rfl, .str z, rfl, d, .ref (ad z), rfl, .inl ⟨_, .inr z, .inl W.top, rfl, (SK_in (f := fun x => .ref (ad x)) zn).symm⟩, ad z, _, rfl, .inl (W.sub z zn), fun l1 n1 => ?_⟩
        rw [SK_keys]
        have len : (L z).length ≤ 8 := by
          have := nodup_le (GL z zn).1 fun y hy => (((GL z zn).2 y).mp hy).1
          have := ok.le
          omega
        refine ⟨l1, L z, rfl, .inl (.inl upd_same), (by omega), fun ys l2 pm2 _ n2 => ?_⟩
        refine ⟨l2, _, rfl, .inl (.inl upd_same), fun t2 nt2 => ?_⟩
        have s3 := ((same_new (o := .lst ((L z).map V.str)) n1).trans (same_new (o := .lst (ys.map V.str)) n2)).trans (same_new (o := .tup (ys.map V.str)) nt2)
        have g1 := s3 _ _ h1
        have g2 : upd (upd (upd H' l1 (.lst ((L z).map V.str))) l2 (.lst (ys.map V.str))) t2 (.tup (ys.map V.str)) t2 = some (.tup (ys.map V.str)) := upd_same
        have td2 : t2 ≠ d2 := fun h => by
          rw [h, ((same_new (o := .lst ((L z).map V.str)) n1).trans (same_new (o := .lst (ys.map V.str)) n2)) _ _ h1] at nt2
          cases nt2
        have e3 := e.trans s3
        generalize upd (upd (upd H' l1 (.lst ((L z).map V.str))) l2 (.lst (ys.map V.str))) t2 (.tup (ys.map V.str)) = H7 at s3 g1 g2 e3
        have et : sn.take (i + 1) = sn.take i ++ [z] := by rw [List.take_succ, hz]; rfl
        refine ⟨_, .inr z, rfl, g1, ?_, fun y => if y = z then t2 else td y, fun y => if y = z then ys else up y, Same.mut e3 nd2, ?_, ?_⟩
        · rw [SK_length, List.length_take]
          have := ok.le
          have := pm.length_eq
          exact smallL (by omega)
        · rw [upd_same, SK_put, et]
          unfold addS
          rw [if_neg nz]
          refine congrArg (fun l => some (HO.dK l)) (SK_congr fun y _ => ?_)
          unfold setF
          by_cases q : y = z
          · rw [if_pos q]
            exact congrArg V.ref (if_pos q).symm
          · rw [if_neg q]
            exact congrArg V.ref (if_neg q).symm
        · intro x hx
          rw [et] at hx
          by_cases q : x = z
          · subst q
            simp only [if_true]
            rw [upd_ne td2, g2]
            exact ⟨rfl, pm2⟩
          · have hx : x ∈ sn.take i := (List.mem_append.mp hx).elim id fun h => absurd (List.mem_singleton.mp h) q
            obtain ⟨k1, k2⟩ := h2 x hx
            simp only [if_neg q]
            refine ⟨?_, k2⟩
            have k3 : td x ≠ d2 := fun h => by rw [h, h1] at k1; cases k1
            rw [upd_ne k3]
            exact s3 _ _ k1
      · rintro H' ⟨td, up, e, h1, h2⟩
        rw [List.length_map, List.take_length] at h1 h2
        have ho7 := e _ _ ho6
        refine ⟨.ref o, rfl, o, a.O, dx, _, rfl, ho7, T.clO, T.o2, (by show 1 < 1000; decide), ?_⟩
        rw [ordF_put]
        refine q _ sn (fun b z hb hn => (upd_ne hn).trans (e _ _ (e6 b z hb hn))) pm ⟨dx, t, d2, td, up, upd_same, ?_, ?_, fun x hx => ⟨?_, fun y => ?_⟩⟩
        · rw [upd_ne (fun h => by have := e _ _ ht6; rw [h, ho7] at this; cases this)]
          exact e _ _ ht6
        · rw [upd_ne (fun h => by rw [h, ho7] at h1; cases h1)]
          exact h1
        · have := (h2 x hx).1
          rw [upd_ne (fun h => by rw [h, ho7] at this; cases this)]
          exact this
        · have xn := (snm x).mp hx
          rw [(h2 x hx).2.mem_iff, (GL x xn).2, snm]
          constructor
          · rintro ⟨h1, h2⟩
            exact ⟨h1, (rel x xn y h1).mp h2⟩
          · rintro ⟨h1, h2⟩
            exact ⟨h1, (rel x xn y h1).mpr h2⟩
end
end OT
end

section
set_option Elab.async false
set_option linter.all false
set_option maxRecDepth 100000
set_option maxHeartbeats 4000000
namespace OT
open PySem PySem.Spec PyProof.Rows L2 OTR
open C8 (Cal Mak Met pe_c pe_mk pe_mt pe_mt0)
section
variable {P : Program} {w : World} {K : PySem.W.Frag} {mg : Str → Option Value} {base : Heap} {a : Ads}
/-- Order(names, pairs) -/
theorem mkO {H : Hp} {Q : VK} {p r : Addr} {ns : List Str} {ps : List (Str × Str)} {R : Str → Str → Bool} (hp : LstS H p ns) (hr : LstP H r ps) (ok : OkNs ns) (ip : InP ns ps)
    (rel : ∀ x ∈ ns, ∀ y ∈ ns, (Reach ps x y ↔ R x y = true)) (anti : ∀ x ∈ ns, ∀ y ∈ ns, R x y = true → R y x = true → x = y)
    (q : ∀ o H2 sn, H o = none → Same H H2 → sn.Perm ns → OrdAt a H2 o sn R → Q (.ref o) H2) :
    ∀ x dx, H x = none → H dx = none → dx ≠ x → spOI a (.ref x :: ([.ref p, .ref r] ++ [])) (upd (upd H dx (.own x)) x (.ins a.O dx [])) (fun v H2 => v = .non ∧ Q (.ref x) H2) E0 := by
  intro x dx nx ndx ne
  have s : Same H (upd (upd H dx (.own x)) x (.ins a.O dx [])) := fun b o e => by rw [upd_ne (ne_of_none e nx), upd_ne (ne_of_none e ndx)]; exact e
  refine ⟨x, dx, p, r, ns, ps, R, rfl, upd_same, hp.same s, hr.same s, ok, ip, rel, anti, fun H' sn kp pm at_ => ⟨rfl, q x H' sn nx (fun b o e => ?_) pm at_⟩⟩
  exact kp b o (s _ _ e) (ne_of_none e nx)
/-! ### name in order -/
abbrev sOC : Stmt := inClass (top 34) 4
theorem scOC : FnScope ["self", "name"] ["self", "name"] (defScope sOC) := ⟨rfl, rfl, rfl, by decide +kernel, rfl, by decide +kernel, by decide +kernel⟩
def spOC (a : Ads) : Sp := fun vs H Q _ => ∃ (o : Addr) (x : Str) (sn : List Str) (R : Str → Str → Bool), vs = [.ref o, .str x] ∧ OrdAt a H o sn R ∧ Q (.bl (decide (x ∈ sn))) H
theorem ok_OC (T : Fx K mg a) (D : MF K a.O "__contains__" "Order.__contains__" sOC ["self", "name"]) : Met P w K mg base 1 a.O "__contains__" (spOC a) [] := by
  refine met_of D scOC (fun vs H Q E h => ?_) (fun f cdv A outer s H vs Q E hr h => ?_)
  · obtain ⟨o, x, sn, R, rfl, _⟩ := h
    rfl
  · obtain ⟨o, x, sn, R, rfl, ⟨dx, t, d, td, up, h1, h2, h3, h4⟩, q⟩ := h
    refine ⟨_, pss_one (ps_ret (pe_cmpR op_in_seq (pv 1) (pe_fld (pv 0) rfl) (by rfl))), ?_⟩
    refine ⟨.str x, rfl, .ref o, rfl, o, a.O, dx, _, _, rfl, h1, T.clO, T.o1, rfl, t, _, rfl, .inr (.inl (.inl h2)), rfl, flat_strs _, ?_⟩
    rw [inV_str]
    exact q
/-! ### below -/
abbrev sOB : Stmt := inClass (top 34) 9
theorem scOB : FnScope ["self", "low", "high", "name"] ["self", "low", "high"] (defScope sOB) := ⟨rfl, rfl, rfl, by decide +kernel, rfl, by decide +kernel, by decide +kernel⟩
def spOB (a : Ads) : Sp := fun vs H Q _ => ∃ (o : Addr) (x y : Str) (sn : List Str) (R : Str → Str → Bool), vs = [.ref o, .str x, .str y] ∧ OrdAt a H o sn R ∧ x ∈ sn ∧ y ∈ sn ∧ ∀ H2, Same H H2 → Q (.bl (R x y)) H2
theorem above_lookup (t d : Addr) : ([("names", .ref t), ("above", .ref d)] : List (Str × V)).lookup ("above" : Str) = some (.ref d) := by
  rw [List.lookup_cons, show (("above" : Str) == "names") = false by decide +kernel, List.lookup_cons_self]
theorem ok_OB (T : Fx K mg a) (D : MF K a.O "below" "Order.below" sOB ["self", "low", "high"]) : Met P w K mg base 1 a.O "below" (spOB a) [] := by
  refine met_of D scOB (fun vs H Q E h => ?_) (fun f cdv A outer s H vs Q E hr h => ?_)
  · obtain ⟨o, x, y, sn, R, rfl, _⟩ := h
    rfl
  · obtain ⟨o, x, y, sn, R, rfl, ⟨dx, t, d, td, up, h1, h2, h3, h4⟩, hx, hy, q⟩ := h
    have hu := hu_of hr
    refine ⟨_, pss_cons (ps_for PassesOwn.never rfl (pi_tup (pe_tup (pa_cons (pv 1) (pa_cons (pv 2) pa_nil)))) (pg_name (i := 3) scOB.nd rfl (.inl rfl))
        (pss_one (ps_if (pt_cmpR op_notIn_seq (pv 3) (pe_fld (pv 0) rfl) (by rfl)) pss_never pss_nil)))
      (pss_one (ps_ret (pe_cmpR op_in_seq (pv 2) (pe_dget hu (pe_fld (pv 0) rfl) (pv 1) (fun _ _ => rfl)) (by rfl)))), ?_⟩
    refine ⟨.str x, rfl, .str y, rfl, (by show 2 ≤ sizeLine; decide), fun t2 nt => ?_⟩
    refine ⟨t2, rfl, ⟨_, .inl (.inl upd_same)⟩, ?_⟩
    refine for_it (walk_tup (xs := [.str x, .str y])) (fun j σ H' => ∃ v3, σ = [some (.ref o), some (.str x), some (.str y), v3] ∧ Same H H' ∧ H' t2 = some (.tup [.str x, .str y])) ⟨_, rfl, same_new nt, upd_same⟩ ?_ ?_ ?_
    · rintro i σ H' _ ⟨v3, rfl, e, g⟩
      exact .inl (.inl g)
    · rintro i v σ _ H' hi ⟨v3, rfl, e, g⟩ ⟨rfl, e2⟩
      obtain ⟨z, rfl, hz⟩ : ∃ z, v = .str z ∧ z ∈ sn := by
        rcases i with _ | _ | i
        · injection e2 with e2; exact ⟨x, e2.symm, hx⟩
        · injection e2 with e2; exact ⟨y, e2.symm, hy⟩
        · cases e2
      refine ⟨.str z, rfl, .ref o, rfl, o, a.O, dx, _, _, rfl, e _ _ h1, T.clO, T.o1, rfl, t, _, rfl, .inr (.inl (.inl (e _ _ h2))), rfl, flat_strs _, _, rfl, ?_⟩
      rw [inV_str, decide_eq_true hz]
      refine iteF ?_
      exact ⟨_, rfl, e, g⟩
    · rintro σ H' ⟨v3, rfl, e, g⟩
      refine ⟨.str y, rfl, .ref o, rfl, o, a.O, dx, _, _, rfl, e _ _ h1, T.clO, T.o2, above_lookup t d, .str x, rfl, d, .ref (td x), rfl, .inl ⟨_, .inr x, .inl (e _ _ h3), rfl, (SK_in (f := fun x => .ref (td x)) hx).symm⟩, td x, _, rfl, .inr (.inl (.inl (e _ _ (h4 x hx).1))), rfl, flat_strs _, ?_⟩
      rw [inV_str]
      have e5 : decide (y ∈ up x) = R x y := by
        rw [Bool.eq_iff_iff, decide_eq_true_eq, (h4 x hx).2]
        exact ⟨fun h => h.2, fun h => ⟨hy, h⟩⟩
      show Q (.bl (decide (y ∈ up x))) H'
      rw [e5]
      exact q _ e
end
end OT
end

section
set_option Elab.async false
set_option linter.all false
set_option maxRecDepth 100000
set_option maxHeartbeats 4000000
namespace OT
open PySem PySem.Spec PyProof.Rows L2 OTR
open C8 (Cal Mak Met pe_c pe_mk pe_mt pe_mt0)
section
variable {P : Program} {w : World} {K : PySem.W.Frag} {mg : Str → Option Value} {base : Heap} {a : Ads}
abbrev WtAt (H : Hp) (p : Addr) (wl : List Str) (W : Str → Int) : Prop := H p = some (SD wl fun x => .int (W x))
structure OkW (wl : List Str) (W : Str → Int) : Prop where
  nd : wl.Nodup
  mem : ∀ x ∈ wl, x ∈ menuN
  le : wl.length ≤ 8
  nn : ∀ x ∈ wl, 0 ≤ W x
  pos : 0 < (wl.map W).sum
  small : (wl.map W).sum ≤ 1000
/-- the share of a name -/
def shr (wl : List Str) (W : Str → Int) (x : Str) : Rat := if x ∈ wl then Rat.divInt (W x) (wl.map W).sum else 0
/-- at c a chance: the names kl, their shares q -/
def ChaAt (a : Ads) (H : Hp) (c : Addr) (kl : List Str) (q : Str → Rat) : Prop :=
  ∃ (dx d : Addr) (sd : Str → Addr), H c = some (.ins a.C dx [("shares", .ref d)]) ∧ H d = some (SD kl fun x => .ref (sd x)) ∧ (∀ x ∈ kl, IsR a H (sd x) (q x)) ∧ ∀ x, x ∉ kl → q x = 0
theorem ChaAt.same {H H' : Hp} {c : Addr} {kl : List Str} {q : Str → Rat} (h : ChaAt a H c kl q) (e : Same H H') : ChaAt a H' c kl q :=
  let ⟨dx, d, sd, h1, h2, h3, h4⟩ := h
  ⟨dx, d, sd, e _ _ h1, e _ _ h2, fun x hx => (h3 x hx).same e, h4⟩
theorem mk_same {H H' : Hp} {x dx : Addr} {o u : HO} (nx : H x = none) (ndx : H dx = none) (kp : ∀ b z, upd (upd H dx o) x u b = some z → b ≠ x → H' b = some z) : Same H H' := fun b z e =>
  kp b z (by rw [upd_ne (ne_of_none e nx), upd_ne (ne_of_none e ndx)]; exact e) (ne_of_none e nx)
abbrev sCI : Stmt := inClass (top 40) 0
abbrev nCI : List Str := ["self", "weights", "name", "whole"]
theorem scCI : FnScope nCI ["self", "weights"] (defScope sCI) := ⟨rfl, rfl, rfl, by decide +kernel, rfl, by decide +kernel, by decide +kernel⟩
def spCI (a : Ads) : Sp := fun vs H Q _ => ∃ (c dx p : Addr) (wl : List Str) (W : Str → Int), vs = [.ref c, .ref p] ∧ H c = some (.ins a.C dx []) ∧ WtAt H p wl W ∧ OkW wl W ∧
  ∀ H' kl, (∀ b z, H b = some z → b ≠ c → H' b = some z) → kl.Nodup → (∀ x, x ∈ kl ↔ x ∈ wl ∧ 0 < W x) → ChaAt a H' c kl (shr wl W) → Q .non H'
theorem ok_CI (T : Fx K mg a) (C1 : Cal P w K mg base 1 "is_name" spIsName []) (M : Mak P w K mg base 2 "Ratio" a.R (spRI a) [])
    (D : IF K mg "Chance" a.C "Chance.__init__" sCI ["self", "weights"]) : Mak P w K mg base 4 "Chance" a.C (spCI a) [] := by
  refine mak_of D scCI (fun vs H Q E h => ?_) (fun f cdv A outer s H vs Q E hr h => ?_)
  · obtain ⟨c, dx, p, wl, W, rfl, _⟩ := h
    rfl
  · obtain ⟨c, dx, p, wl, W, rfl, hc, hp, ok, q⟩ := h
    have hu := hu_of hr
    refine ⟨_, pss_cons (ps_for PassesOwn.never rfl (pi_list (pe_callB cr_sortedS (by rfl) T.nSorted (by decide +kernel) (pa_cons (pe_callTy (call_listD rfl) (by rfl) T.nList (by decide +kernel) (pa_cons (pv 1) pa_nil)) pa_nil))) (pg_name (i := 2) scCI.nd rfl (.inl rfl))
        (pss_cons (ps_if (pt_not (pt_val (pe_c C1 hr (by decide) (by rfl) (pa_cons (pv 2) pa_nil)))) pss_never pss_nil)
        (pss_one (ps_if (pt_cmpR op_lt (pe_dget hu (pv 1) (pv 2) (fun _ _ => rfl)) pe_int (nomark _)) pss_never pss_nil))))
      (pss_cons (ps_set (i := 3) scCI.nd rfl (.inr rfl) (pe_callB (cr_sum rfl) (by rfl) T.nSum (by decide +kernel) (pa_cons (pe_listVals rfl (pv 1) (by rfl) T.nList) pa_nil)))
      (pss_cons (ps_if (pt_cmpR op_eq (pv 3) pe_int (nomark _)) pss_never pss_nil)
      (pss_one (ps_fld (pv 0) (pe_dc rfl scCI.nd (pi_list (pe_callB cr_sortedS (by rfl) T.nSorted (by decide +kernel) (pa_cons (pe_callTy (call_listD rfl) (by rfl) T.nList (by decide +kernel) (pa_cons (pv 1) pa_nil)) pa_nil))) (own := [("name", 2)]) (blkOk_by (by kernel_rfl)) (fun _ _ _ _ _ => pg_name (i := 2) scCI.nd rfl (.inl rfl))
          (fun _ _ _ _ _ => pts_one (pt_cmpR op_gt (pe_dget hu (pv 1) (pv 2) (fun _ _ => rfl)) pe_int (nomark _)))
          (fun _ _ _ _ _ => pv 2) (fun _ _ _ _ _ => pe_mk M hr (by decide) (by rfl) (pa_cons (pe_dget hu (pv 1) (pv 2) (fun _ _ => rfl)) (pa_cons (pv 3) pa_nil)))) rfl)))), ?_⟩
    refine ⟨.ref p, rfl, p, _, rfl, .inl hp, fun l1 n1 => ?_⟩
    rw [SK_keys]
    refine ⟨l1, wl, rfl, .inl (.inl upd_same), (by have := ok.le; omega), fun sn l2 pm _ n2 => ?_⟩
    have snm : ∀ x, x ∈ sn ↔ x ∈ wl := fun x => pm.mem_iff
    have e0 := (same_new (o := .lst (wl.map V.str)) n1).trans (same_new (o := .lst (sn.map V.str)) n2)
    have hl2 : upd (upd H l1 (.lst (wl.map V.str))) l2 (.lst (sn.map V.str)) l2 = some (.lst (sn.map V.str)) := upd_same
    generalize upd (upd H l1 (.lst (wl.map V.str))) l2 (.lst (sn.map V.str)) = H1 at e0 hl2
    refine ⟨l2, rfl, ⟨_, .inl (.inl hl2)⟩, ?_⟩
    refine for_it (walk_list (xs := sn.map V.str)) (fun j σ H' => ∃ v2 v3, σ = [some (.ref c), some (.ref p), v2, v3] ∧ Same H1 H') ⟨_, _, rfl, fun _ _ e => e⟩ ?_ ?_ ?_
    · rintro i σ H' _ ⟨v2, v3, rfl, e⟩
      exact .inl (.inl (e _ _ hl2))
    · rintro i v σ _ H' hi ⟨v2, v3, rfl, e⟩ ⟨rfl, e2⟩
      obtain ⟨x, hx, rfl⟩ := get_map e2
      have xw := (snm x).mp (List.mem_of_getElem? hx)
      refine ⟨.str x, rfl, x, rfl, ok.mem x xw, fun H2 e3 => ?_⟩
      refine ⟨true, rfl, iteF ?_⟩
      refine ⟨.ref p, rfl, .str x, rfl, p, .int (W x), rfl, .inl ⟨_, .inr x, .inl (e3 _ _ (e _ _ (e0 _ _ hp))), rfl, (SK_in (f := fun x => .int (W x)) xw).symm⟩, W x, 0, rfl, rfl, _, rfl, ?_⟩
      rw [decide_eq_false (by have := ok.nn x xw; omega)]
      refine iteF ?_
      exact ⟨_, _, rfl, e.trans e3⟩
    · rintro σ H' ⟨v2, v3, rfl, e⟩
      have e1 := e0.trans e
      refine ⟨.ref p, rfl, p, _, rfl, e1 _ _ hp, fun l3 n3 => ?_⟩
      rw [SK_vals]
      have tot : (wl.map fun x => V.int (W x)) = (wl.map W).map V.int := by rw [List.map_map]; rfl
      refine ⟨l3, wl.map W, rfl, .inl (.inl (by rw [upd_same, tot])), ?_⟩
      have e2 := e1.trans (same_new (o := .lst (wl.map fun x => V.int (W x))) n3)
      generalize upd H' l3 (.lst (wl.map fun x => V.int (W x))) = H2 at e2
      refine ⟨_, rfl, rfl, _, rfl, ?_⟩
      rw [decide_eq_false (fun z : V.int (wl.map W).sum = V.int 0 => by have := ok.pos; injection z with z; omega)]
      refine iteF ?_
      refine ⟨.ref p, rfl, p, _, rfl, .inl (e2 _ _ hp), fun l4 n4 => ?_⟩
      rw [SK_keys]
      refine ⟨l4, wl, rfl, .inl (.inl upd_same), (by have := ok.le; omega), fun sn l5 pm _ n5 => ?_⟩
      have snm : ∀ x, x ∈ sn ↔ x ∈ wl := fun x => pm.mem_iff
      have e3 := e2.trans ((same_new (o := .lst (wl.map V.str)) n4).trans (same_new (o := .lst (sn.map V.str)) n5))
      have hl5 : upd (upd H2 l4 (.lst (wl.map V.str))) l5 (.lst (sn.map V.str)) l5 = some (.lst (sn.map V.str)) := upd_same
      generalize upd (upd H2 l4 (.lst (wl.map V.str))) l5 (.lst (sn.map V.str)) = H3 at e3 hl5
      refine ⟨l5, rfl, ⟨_, .inl (.inl hl5)⟩, fun d nd => ?_⟩
      refine dc_it (walk_list (xs := sn.map V.str)) (fun i H' => ∃ sd : Str → Addr, Same H3 H' ∧ H' d = some (SD ((sn.take i).filter fun x => decide (0 < W x)) fun x => .ref (sd x)) ∧ ∀ x ∈ (sn.take i).filter fun x => decide (0 < W x), IsR a H' (sd x) (shr wl W x))
        ⟨fun _ => 0, same_new nd, upd_same, (by intro x hx; cases hx)⟩ ?_ ?_ ?_
      · rintro i H' _ ⟨sd, e, _⟩
        exact .inl (.inl (e _ _ hl5))
      · rintro i x _ H' hi ⟨sd, e, h1, h2⟩ ⟨rfl, e2⟩
        obtain ⟨z, hz, rfl⟩ := get_map e2
        have zw : z ∈ wl := (snm z).mp (List.mem_of_getElem? hz)
        have nz : z ∉ sn.take i := nodup_take (pm.nodup_iff.mpr ok.nd) hz
        have et : sn.take (i + 1) = sn.take i ++ [z] := by rw [List.take_succ, hz]; rfl
        have hp' := e _ _ (e3 _ _ hp)
        have gz : DGet H' p (.str z) (some (.int (W z))) := .inl ⟨_, .inr z, .inl hp', rfl, (SK_in (f := fun x => .int (W x)) zw).symm⟩
        refine ⟨rfl, .ref p, rfl, .str z, rfl, p, .int (W z), rfl, gz, W z, 0, rfl, rfl, _, rfl, ?_⟩
        by_cases c0 : 0 < W z
        · rw [decide_eq_true (show W z > 0 from c0)]
          refine iteT ?_
          refine ⟨.str z, rfl, .ref p, rfl, .str z, rfl, p, .int (W z), rfl, gz, .int (wl.map W).sum, rfl, ?_⟩
          intro r dr nr ndr ner
          refine ⟨r, dr, _, _, rfl, upd_same, ok.pos, by have := ok.small; omega, fun H5 kp at_ => ⟨rfl, ?_⟩⟩
          have e5 : Same H' H5 := mk_same nr ndr kp
          have hr5 : IsR a H5 r (Rat.divInt (W z) (wl.map W).sum) := ⟨dr, at_⟩
          refine ⟨_, .inr z, rfl, e5 _ _ h1, ?_, fun y => if y = z then r else sd y, Same.mut (e.trans e5) nd, ?_, ?_⟩
          · rw [SK_length]
            have h3 : ((sn.take i).filter fun x => decide (0 < W x)).length ≤ (sn.take i).length := List.length_filter_le _ _
            rw [List.length_take] at h3
            have := ok.le
            have := pm.length_eq
            exact smallL (by omega)
          · rw [upd_same, SK_put, et, List.filter_append, List.filter_cons, if_pos (decide_eq_true c0)]
            unfold addS
            rw [if_neg (fun h => nz (List.mem_filter.mp h).1)]
            refine congrArg (fun l => some (HO.dK l)) (SK_congr fun y _ => ?_)
            unfold setF
            by_cases q : y = z
            · rw [if_pos q]
              exact congrArg V.ref (if_pos q).symm
            · rw [if_neg q]
              exact congrArg V.ref (if_neg q).symm
          · intro x hx
            rw [et, List.filter_append, List.filter_cons, if_pos (decide_eq_true c0)] at hx
            have rd : r ≠ d := fun h => by rw [h, h1] at nr; cases nr
            by_cases q : x = z
            · subst q
              simp only [if_true]
              obtain ⟨dy, g⟩ := hr5
              refine ⟨dy, ?_⟩
              unfold shr
              rw [if_pos zw, upd_ne rd]
              exact g
            · have hx := (List.mem_append.mp hx).elim id fun h => absurd (List.mem_singleton.mp h) q
              obtain ⟨dy, g⟩ := h2 x hx
              simp only [if_neg q]
              refine ⟨dy, ?_⟩
              rw [upd_ne (fun h => by rw [h, h1] at g; cases g)]
              exact e5 _ _ g
        · rw [decide_eq_false (show ¬ W z > 0 from c0)]
          refine iteF ?_
          have ef : (sn.take (i + 1)).filter (fun x => decide (0 < W x)) = (sn.take i).filter fun x => decide (0 < W x) := by
            rw [et, List.filter_append, List.filter_cons, if_neg (by rw [decide_eq_false c0]; decide), List.filter_nil, List.append_nil]
          refine ⟨sd, e, ?_, ?_⟩
          · rw [ef]
            exact h1
          · rw [ef]
            exact h2
      · rintro H' ⟨sd, e, h1, h2⟩
        rw [List.length_map, List.take_length] at h1 h2
        have hc' := e _ _ (e3 _ _ hc)
        have mk : ∀ x, x ∈ sn.filter (fun x => decide (0 < W x)) ↔ x ∈ wl ∧ 0 < W x := fun x => by rw [List.mem_filter, snm, decide_eq_true_eq]
        refine ⟨.ref c, rfl, c, a.C, dx, _, rfl, hc', T.clC, T.c1, (by show 0 < 1000; decide), ?_⟩
        refine q _ (sn.filter fun x => decide (0 < W x)) (fun b z hb hn => (upd_ne hn).trans (e _ _ (e3 _ _ hb))) ((pm.nodup_iff.mpr ok.nd).filter _) mk ⟨dx, d, sd, upd_same, ?_, fun x hx => ?_, fun x hx => ?_⟩
        · rw [upd_ne (fun h => by rw [h, hc'] at h1; cases h1)]
          exact h1
        · obtain ⟨dy, g⟩ := h2 x hx
          refine ⟨dy, ?_⟩
          rw [upd_ne (fun h => by
            rw [h, hc'] at g
            injection g with g
            injection g with _ _ g
            cases g)]
          exact g
        · unfold shr
          by_cases c : x ∈ wl
          · rw [if_pos c]
            have : ¬ 0 < W x := fun h => hx ((mk x).mpr ⟨c, h⟩)
            have : W x = 0 := by have := ok.nn x c; omega
            rw [this, Rat.zero_divInt]
          · rw [if_neg c]
end
end OT
end

section
set_option Elab.async false
set_option linter.all false
set_option maxRecDepth 100000
set_option maxHeartbeats 4000000
namespace OT
open PySem PySem.Spec PyProof.Rows L2 OTR
open C8 (Cal Mak Met pe_c pe_mk pe_mt pe_mt0)
section
variable {P : Program} {w : World} {K : PySem.W.Frag} {mg : Str → Option Value} {base : Heap} {a : Ads}
/-- Chance(weights) -/
theorem mkC {H : Hp} {Q : VK} {p : Addr} {wl : List Str} {W : Str → Int} (hp : WtAt H p wl W) (ok : OkW wl W)
    (q : ∀ c H2 kl, H c = none → Same H H2 → kl.Nodup → (∀ x, x ∈ kl ↔ x ∈ wl ∧ 0 < W x) → ChaAt a H2 c kl (shr wl W) → Q (.ref c) H2) :
    ∀ x dx, H x = none → H dx = none → dx ≠ x → spCI a (.ref x :: ([.ref p] ++ [])) (upd (upd H dx (.own x)) x (.ins a.C dx [])) (fun v H2 => v = .non ∧ Q (.ref x) H2) E0 := by
  intro x dx nx ndx ne
  have s : Same H (upd (upd H dx (.own x)) x (.ins a.C dx [])) := fun b o e => by rw [upd_ne (ne_of_none e nx), upd_ne (ne_of_none e ndx)]; exact e
  exact ⟨x, dx, p, wl, W, rfl, upd_same, s _ _ hp, ok, fun H' kl kp nd mm at_ => ⟨rfl, q x H' kl nx (mk_same nx ndx kp) nd mm at_⟩⟩
/-! ### len, iter -/
abbrev sCL : Stmt := inClass (top 40) 4
abbrev sCIt : Stmt := inClass (top 40) 5
abbrev sOIt : Stmt := inClass (top 34) 5
theorem scCL : FnScope ["self"] ["self"] (defScope sCL) := ⟨rfl, rfl, rfl, by decide +kernel, rfl, by decide +kernel, by decide +kernel⟩
theorem scCIt : FnScope ["self"] ["self"] (defScope sCIt) := ⟨rfl, rfl, rfl, by decide +kernel, rfl, by decide +kernel, by decide +kernel⟩
theorem scOIt : FnScope ["self"] ["self"] (defScope sOIt) := ⟨rfl, rfl, rfl, by decide +kernel, rfl, by decide +kernel, by decide +kernel⟩
/-- a Chance's own iterator and length -/
structure ChaIt (P : Program) (w : World) (K : PySem.W.Frag) (mg : Str → Option Value) (base : Heap) (a : Ads) : Prop where
  ex : ∃ (f fl : Addr) (fdL : FuncData), OwnIt P w K mg base 1 a.C f "shares" ∧ ItFact K a.C f ∧ LnFact K a.C fl ∧ FnOk P w K mg base CX0 1 fl fdL ["self"] (spLen a.C "shares") ∧ Binds K fdL ["self"] []
structure OrdIt (P : Program) (w : World) (K : PySem.W.Frag) (mg : Str → Option Value) (base : Heap) (a : Ads) : Prop where
  ex : ∃ (f : Addr), OwnIt P w K mg base 1 a.O f "names" ∧ ItFact K a.O f
theorem ok_OIt (T : Fx K mg a) (D : MF K a.O "__iter__" "Order.__iter__" sOIt ["self"]) : OrdIt P w K mg base a := by
  obtain ⟨f, fd, c, me, F, hb⟩ := D.ex
  refine ⟨f, ownIt_of F scOIt hb c T.o1 fun cdv A outer s H r hr => ?_, me.at_, me.fn⟩
  exact pss_one (ps_ret (pe_callB hr (by rfl) T.nIter (by decide +kernel) (pa_cons (pe_fld (pv 0) rfl) pa_nil)))
theorem ok_CIt (T : Fx K mg a) (D : MF K a.C "__iter__" "Chance.__iter__" sCIt ["self"]) (DL : MF K a.C "__len__" "Chance.__len__" sCL ["self"]) : ChaIt P w K mg base a := by
  obtain ⟨f, fd, c, me, F, hb⟩ := D.ex
  obtain ⟨fl, fdL, _, meL, FL, hbL⟩ := DL.ex
  refine ⟨f, fl, fdL, ownIt_of F scCIt hb c T.c1 fun cdv A outer s H r hr => ?_, ⟨me.at_, me.fn⟩, ⟨meL.at_, meL.fn⟩, FL.ok (k := 0) scCL (fun vs H Q E h => ?_) (fun cdv A outer s H vs Q E hr h => ?_), hbL⟩
  · exact pss_one (ps_ret (pe_callB hr (by rfl) T.nIter (by decide +kernel) (pa_cons (pe_fld (pv 0) rfl) pa_nil)))
  · obtain ⟨x, dx, fs, d, kvs, rfl, _⟩ := h
    rfl
  · obtain ⟨x, dx, fs, d, kvs, rfl, h1, h2, h3, q⟩ := h
    refine ⟨_, pss_one (ps_ret (pe_callB call_lenR (by rfl) T.nLen (by decide +kernel) (pa_cons (pe_fld (pv 0) rfl) pa_nil))), ?_⟩
    exact ⟨.ref x, rfl, x, a.C, dx, fs, _, rfl, h1, T.clC, T.c1, h2, d, kvs, rfl, h3, q⟩
/-! ### share -/
abbrev sCS : Stmt := inClass (top 40) 9
theorem scCS : FnScope ["self", "name"] ["self", "name"] (defScope sCS) := ⟨rfl, rfl, rfl, by decide +kernel, rfl, by decide +kernel, by decide +kernel⟩
/-- a chance whose dict may be locked -/
def ChaR (a : Ads) (H : Hp) (c : Addr) (kl : List Str) (q : Str → Rat) : Prop :=
  ∃ (dx d : Addr) (sd : Str → Addr), H c = some (.ins a.C dx [("shares", .ref d)]) ∧ Rd H d (SD kl fun x => .ref (sd x)) ∧ (∀ x ∈ kl, IsR a H (sd x) (q x)) ∧ ∀ x, x ∉ kl → q x = 0
theorem ChaAt.rd {H : Hp} {c : Addr} {kl : List Str} {q : Str → Rat} (h : ChaAt a H c kl q) : ChaR a H c kl q := let ⟨dx, d, sd, h1, h2, h3, h4⟩ := h; ⟨dx, d, sd, h1, .inl h2, h3, h4⟩
theorem rd_same {H H2 : Hp} {d : Addr} {u : HO} (h : Rd H d u) (e : Same H H2) : Rd H2 d u := h.elim (fun h => .inl (e _ _ h)) fun ⟨o, h⟩ => .inr ⟨o, e _ _ h⟩
def spCS (a : Ads) : Sp := fun vs H Q _ => ∃ (c : Addr) (x : Str) (kl : List Str) (q : Str → Rat), vs = [.ref c, .str x] ∧ ChaR a H c kl q ∧ ∀ r H2, Same H H2 → IsR a H2 r (q x) → Q (.ref r) H2
theorem ok_CS (T : Fx K mg a) (W : Who P w K mg base 4 a) (D : MF K a.C "share" "Chance.share" sCS ["self", "name"]) : Met P w K mg base 5 a.C "share" (spCS a) [] := by
  refine met_of D scCS (fun vs H Q E h => ?_) (fun f cdv A outer s H vs Q E hr h => ?_)
  · obtain ⟨c, x, kl, q, rfl, _⟩ := h
    rfl
  · obtain ⟨c, x, kl, q, rfl, ⟨dx, d, sd, h1, h2, h3, h4⟩, k⟩ := h
    have hu := hu_of hr
    refine ⟨_, pss_one (ps_ret (pe_dget2 hu (pe_fld (pv 0) rfl) (pv 1) (pe_whole W hr (by decide) (by rfl) T.mR pe_int) (by constructor <;> rfl))), ?_⟩
    refine ⟨.ref c, rfl, c, a.C, dx, _, _, rfl, h1, T.clC, T.c1, rfl, d, rfl, .inl ⟨_, h2⟩, .str x, rfl, rfl, 0, rfl, fun r H2 nr e hr => ?_⟩
    refine ⟨_, .inl ⟨_, .inr x, rd_same h2 e, rfl, rfl⟩, ?_⟩
    by_cases m : x ∈ kl
    · rw [SK_in m]
      exact k _ _ e ((h3 x m).same e)
    · rw [SK_not m]
      refine k _ _ e ?_
      rw [h4 x m]
      exact hr
end
end OT
end

section
set_option Elab.async false
set_option linter.all false
set_option maxRecDepth 100000
set_option maxHeartbeats 4000000
namespace OT
open PySem PySem.Spec PyProof.Rows L2 OTR
open C8 (Cal Mak Met pe_c pe_mk pe_mt pe_mt0)
/-! ### dicts with pairs of texts for keys -/
abbrev kP (p : Str × Str) : List Key := [.inr p.1, .inr p.2]
theorem kP_inj {p q : Str × Str} (h : kP p = kP q) : p = q := by
  simp only [kP, List.cons.injEq, Sum.inr.injEq, and_true] at h
  exact Prod.ext h.1 h.2
def AK (l : List (Str × Str)) (f : Str × Str → V) : List (List Key × V) := l.map fun x => (kP x, f x)
def addP (l : List (Str × Str)) (x : Str × Str) : List (Str × Str) := if x ∈ l then l else l ++ [x]
def setP (f : Str × Str → V) (x : Str × Str) (v : V) : Str × Str → V := fun y => if y = x then v else f y
theorem AK_val (f : Str × Str → V) (x : Str × Str) : ∀ l : List (Str × Str), valV (AK l f) (kP x) = if x ∈ l then some (f x) else none
  | [] => rfl
  | y :: l => by
    by_cases e : y = x
    · subst e
      rw [if_pos List.mem_cons_self]
      exact valV_pos (p := (kP y, f y)) rfl
    · have h : valV (AK (y :: l) f) (kP x) = valV (AK l f) (kP x) := valV_neg (p := (kP y, f y)) (fun z => e (kP_inj z))
      rw [h, AK_val f x l]
      by_cases m : x ∈ l
      · rw [if_pos m, if_pos (List.mem_cons_of_mem _ m)]
      · rw [if_neg m, if_neg (fun z => (List.mem_cons.mp z).elim (fun q => e q.symm) m)]
theorem AK_in {l : List (Str × Str)} {f : Str × Str → V} {x : Str × Str} (h : x ∈ l) : valV (AK l f) (kP x) = some (f x) := by rw [AK_val, if_pos h]
theorem AK_not {l : List (Str × Str)} {f : Str × Str → V} {x : Str × Str} (h : x ∉ l) : valV (AK l f) (kP x) = none := by rw [AK_val, if_neg h]
theorem AK_congr {l : List (Str × Str)} {f g : Str × Str → V} (h : ∀ x ∈ l, f x = g x) : AK l f = AK l g := List.map_congr_left fun x hx => by rw [h x hx]
theorem AK_put (l : List (Str × Str)) (f : Str × Str → V) (x : Str × Str) (v : V) : putK (AK l f) (kP x) v = AK (addP l x) (setP f x v) := by
  by_cases m : x ∈ l
  · unfold putK addP
    rw [if_pos m, valV_any, AK_in m, if_pos (show (some (f x)).isSome = true from rfl)]
    unfold AK
    rw [List.map_map]
    refine List.map_congr_left fun y _ => ?_
    show (if kP y = kP x then (kP y, v) else (kP y, f y)) = (kP y, setP f x v y)
    unfold setP
    by_cases e : y = x
    · rw [if_pos (by rw [e]), if_pos e]
    · rw [if_neg (fun z => e (kP_inj z)), if_neg e]
  · rw [putK_new v (AK_not m)]
    unfold addP
    rw [if_neg m]
    unfold AK
    rw [List.map_append]
    congr 1
    · refine List.map_congr_left fun y hy => ?_
      unfold setP
      rw [if_neg (fun z : y = x => m (z ▸ hy))]
    · show _ = [(kP x, setP f x v x)]
      unfold setP
      rw [if_pos rfl]
theorem AK_length (l : List (Str × Str)) (f : Str × Str → V) : (AK l f).length = l.length := List.length_map ..
theorem mem_addP {l : List (Str × Str)} {x y : Str × Str} : y ∈ addP l x ↔ y ∈ l ∨ y = x := by
  unfold addP
  by_cases m : x ∈ l
  · rw [if_pos m]
    constructor
    · exact .inl
    · rintro (h | rfl)
      · exact h
      · exact m
  · rw [if_neg m, List.mem_append, List.mem_singleton]
theorem nodup_addP {l : List (Str × Str)} {x : Str × Str} (h : l.Nodup) : (addP l x).Nodup := by
  unfold addP
  by_cases m : x ∈ l
  · rw [if_pos m]; exact h
  · rw [if_neg m]
    refine List.nodup_append.mpr ⟨h, by simp, ?_⟩
    rintro a ha b hb rfl
    rw [List.mem_singleton] at hb
    exact m (hb ▸ ha)
theorem nodup_leP : ∀ {l m : List (Str × Str)}, l.Nodup → (∀ x ∈ l, x ∈ m) → l.length ≤ m.length := by
  intro l
  induction l with
  | nil => intro m _ _; exact Nat.zero_le _
  | cons x l ih =>
    intro m h hs
    have hx := hs x List.mem_cons_self
    have h1 := List.nodup_cons.mp h
    have := ih (m := m.erase x) h1.2 fun y hy => (List.mem_erase_of_ne (fun e : y = x => h1.1 (e ▸ hy))).mpr (hs y (List.mem_cons_of_mem _ hy))
    rw [List.length_erase_of_mem hx] at this
    have : 0 < m.length := List.length_pos_of_mem hx
    rw [List.length_cons]
    omega
/-! ### fractions of one bottom -/
def fr (D : Nat) (z : Int) : Rat := (z : Rat) / (D : Rat)
theorem fr_add (D : Nat) (z t : Int) : fr D z + fr D t = fr D (z + t) := by
  unfold fr
  rw [Rat.intCast_add]
  grind
theorem fr_sub (D : Nat) (z t : Int) : fr D z - fr D t = fr D (z - t) := by
  unfold fr
  rw [Rat.intCast_sub]
  grind
theorem fr_frac {D : Nat} (h : 0 < D) (z : Int) : Frac D (fr D z) := frac_div h z
theorem fr_zero (D : Nat) : fr D 0 = 0 := by
  unfold fr
  grind
theorem fr_lt {D : Nat} (h : 0 < D) (z t : Int) : fr D z < fr D t ↔ z < t := by
  have h0 : (0 : Rat) < (D : Rat) := by exact_mod_cast h
  unfold fr
  rw [← Rat.intCast_lt_intCast]
  constructor
  · intro q
    have := Rat.mul_lt_mul_of_pos_right q h0
    have hn : (D : Rat) ≠ 0 := by grind
    have e1 : ∀ x : Rat, x / (D : Rat) * (D : Rat) = x := fun x => by grind
    rw [e1, e1] at this
    exact this
  · intro q
    have := Rat.mul_lt_mul_of_pos_right q (Rat.inv_pos.mpr h0)
    rw [Rat.div_def, Rat.div_def]
    exact this
theorem fr_inj {D : Nat} (h : 0 < D) {z t : Int} (e : fr D z = fr D t) : z = t := by
  have h1 := fr_lt h z t
  have h2 := fr_lt h t z
  rw [e] at h1 h2
  have h3 : ¬ z < t := fun q => by have := h1.mpr q; grind
  have h4 : ¬ t < z := fun q => by have := h2.mpr q; grind
  omega
theorem fr_ne {D : Nat} (h : 0 < D) (z : Int) : (decide (fr D z ≠ 0)) = decide (z ≠ 0) := by
  rw [Bool.eq_iff_iff, decide_eq_true_eq, decide_eq_true_eq]
  constructor
  · intro q e
    exact q (by rw [e, fr_zero])
  · intro q e
    exact q (fr_inj h (e.trans (fr_zero D).symm))
theorem fr_okD {D : Nat} (h : 0 < D) (hm : D * D < 1073741824) (z t : Int) : okD (fr D z) (fr D t) := okD_frac h hm (fr_frac h z) (fr_frac h t)
section
variable {P : Program} {w : World} {K : PySem.W.Frag} {mg : Str → Option Value} {base : Heap} {a : Ads}
def FlObj (a : Ads) (H : Hp) (fl o dl dr da : Addr) : Prop := ∃ dx, H fl = some (.ins a.F dx [("order", .ref o), ("left", .ref dl), ("room", .ref dr), ("amounts", .ref da)])
def LeftAt (a : Ads) (H : Hp) (d : Addr) (kl : List Str) (D : Nat) (f : Str → Int) : Prop := ∃ lf : Str → Addr, H d = some (SD kl fun x => .ref (lf x)) ∧ ∀ x ∈ kl, IsR a H (lf x) (fr D (f x))
def AmtAt (a : Ads) (H : Hp) (d : Addr) (kl kh : List Str) (D : Nat) (g : Str → Str → Int) : Prop := ∃ (ks : List (Str × Str)) (af : Str × Str → Addr), H d = some (.dT (AK ks fun p => .ref (af p))) ∧ ks.Nodup ∧ (∀ p ∈ ks, p.1 ∈ kl ∧ p.2 ∈ kh) ∧ (∀ p ∈ ks, IsR a H (af p) (fr D (g p.1 p.2))) ∧ ∀ x y, (x, y) ∉ ks → g x y = 0
theorem LeftAt.same {H H' : Hp} {d : Addr} {kl : List Str} {D : Nat} {f : Str → Int} (h : LeftAt a H d kl D f) (e : Same H H') : LeftAt a H' d kl D f :=
  let ⟨lf, h1, h2⟩ := h
  ⟨lf, e _ _ h1, fun x hx => (h2 x hx).same e⟩
theorem AmtAt.same {H H' : Hp} {d : Addr} {kl kh : List Str} {D : Nat} {g : Str → Str → Int} (h : AmtAt a H d kl kh D g) (e : Same H H') : AmtAt a H' d kl kh D g :=
  let ⟨ks, af, h1, h2, h3, h4, h5⟩ := h
  ⟨ks, af, e _ _ h1, h2, h3, fun x hx => (h4 x hx).same e, h5⟩
theorem FlObj.same {H H' : Hp} {fl o dl dr da : Addr} (h : FlObj a H fl o dl dr da) (e : Same H H') : FlObj a H' fl o dl dr da := let ⟨dx, h⟩ := h; ⟨dx, e _ _ h⟩
/-! ### Flow.__init__ -/
abbrev sFI : Stmt := inClass (top 19) 0
abbrev nFI : List Str := ["self", "order", "low", "high", "name"]
theorem scFI : FnScope nFI ["self", "order", "low", "high"] (defScope sFI) := ⟨rfl, rfl, rfl, by decide +kernel, rfl, by decide +kernel, by decide +kernel⟩
def zero2 : Str → Str → Int := fun _ _ => 0
def spFI (a : Ads) : Sp := fun vs H Q _ => ∃ (fl dx o cl ch : Addr) (kl kh : List Str) (lo hi : Str → Int) (D : Nat), vs = [.ref fl, .ref o, .ref cl, .ref ch] ∧ H fl = some (.ins a.F dx []) ∧ ChaAt a H cl kl (fun x => fr D (lo x)) ∧ ChaAt a H ch kh (fun x => fr D (hi x)) ∧ kl.Nodup ∧ kh.Nodup ∧ kl.length ≤ 8 ∧ kh.length ≤ 8 ∧
  ∀ H' dl dr da, (∀ b z, H b = some z → b ≠ fl → H' b = some z) → H dl = none → H dr = none → H da = none → dl ≠ dr → dl ≠ da → dr ≠ da → FlObj a H' fl o dl dr da → LeftAt a H' dl kl D lo → LeftAt a H' dr kh D hi → AmtAt a H' da kl kh D zero2 → Q .non H'
theorem flF_1 (o l : V) : putF "left" l (putF "order" o []) = ([("order", o), ("left", l)] : List (Str × V)) := by
  show (if ("order" : Str) = "left" then _ else (("order" : Str), o) :: putF "left" l []) = _
  rw [if_neg (by decide +kernel)]
  rfl
theorem flF_2 (o l r : V) : putF "room" r [("order", o), ("left", l)] = ([("order", o), ("left", l), ("room", r)] : List (Str × V)) := by
  show (if ("order" : Str) = "room" then _ else (("order" : Str), o) :: (if ("left" : Str) = "room" then _ else (("left" : Str), l) :: putF "room" r [])) = _
  rw [if_neg (by decide +kernel), if_neg (by decide +kernel)]
  rfl
theorem flF_3 (o l r m : V) : putF "amounts" m [("order", o), ("left", l), ("room", r)] = ([("order", o), ("left", l), ("room", r), ("amounts", m)] : List (Str × V)) := by
  show (if ("order" : Str) = "amounts" then _ else (("order" : Str), o) :: (if ("left" : Str) = "amounts" then _ else (("left" : Str), l) :: (if ("room" : Str) = "amounts" then _ else (("room" : Str), r) :: putF "amounts" m []))) = _
  rw [if_neg (by decide +kernel), if_neg (by decide +kernel), if_neg (by decide +kernel)]
  rfl
theorem IsR.order {H : Hp} {fl b C dx : Addr} {o : V} {t : List (Str × V)} {q : Rat} (h : IsR a H b q) (hf : H fl = some (.ins C dx (("order", o) :: t))) : b ≠ fl := fun e => by
  obtain ⟨dz, g⟩ := h
  rw [e, hf] at g
  injection g with g
  injection g with _ _ g
  injection g with g
  injection g with g
  exact absurd g (by decide +kernel)
theorem LeftAt.off {H : Hp} {d fl C dx : Addr} {kl : List Str} {D : Nat} {f : Str → Int} {o : V} {t : List (Str × V)} (h : LeftAt a H d kl D f) (hf : H fl = some (.ins C dx (("order", o) :: t))) (u : HO) : LeftAt a (upd H fl u) d kl D f := by
  obtain ⟨lf, h1, h2⟩ := h
  refine ⟨lf, (upd_ne fun e => ?_).trans h1, fun x hx => ?_⟩
  · rw [e, hf] at h1
    cases h1
  · obtain ⟨dz, g⟩ := h2 x hx
    exact ⟨dz, (upd_ne ((h2 x hx).order hf)).trans g⟩
/-- {name: c.share(name) for name in list(c)} -/
theorem share_dict {H1 : Hp} {c l D : Addr} {kl : List Str} {q : Str → Rat} {g : TG} {tk tv : TE} {vs : List Nat} {σ : L2.St} {Qd : Hp → Prop} (hc : ChaAt a H1 c kl q) (nd : kl.Nodup) (hl : kl.length ≤ 8) (hL : H1 l = some (.lst (kl.map V.str))) (nD : H1 D = none)
    (hs : ∀ (x : Str) (H : Hp) (N : Hp → Prop), Same H1 H → x ∈ kl → (∃ kvs, H D = some (.dK kvs) ∧ kvs.length < sizeLine) → (∀ r H5 kvs, Same H H5 → IsR a H5 r (q x) → H5 D = some (.dK kvs) → N (upd H5 D (.dK (putK kvs (.inr x) (.ref r))))) →
      g (.str x) (wipe σ vs) H fun σ2 H2 => wipe σ2 vs = wipe σ vs ∧ tYes σ2 H2 fun b H3 => if b = true then tk σ2 H3 fun y H4 => tv σ2 H4 fun z H5 => ∃ kvs k, y = kV k ∧ H5 D = some (.dK kvs) ∧ kvs.length < sizeLine ∧ N (upd H5 D (.dK (putK kvs k z))) else N H3)
    (hd : ∀ (H : Hp) (sd : Str → Addr), Same H1 H → H D = some (SD kl fun x => .ref (sd x)) → (∀ x ∈ kl, IsR a H (sd x) (q x)) → Qd H) :
    ∃ W : Nat → Nat → Hp → Prop, (∃ m, W 0 m (upd H1 D (.dK []))) ∧ ∀ i m H, W i m H →
      ((Itl K l).stop i H ∧ Qd H) ∨ ((Itl K l).go i H ∧ ∃ Nx : Hp → Prop, (∀ H', Nx H' → ∃ m', m' < m ∧ W (i + 1) m' H') ∧ ∀ x H', (Itl K l).yld i H x H' → g x (wipe σ vs) H' fun σ2 H2 => wipe σ2 vs = wipe σ vs ∧ tYes σ2 H2 fun b H3 =>
        if b = true then tk σ2 H3 fun y H4 => tv σ2 H4 fun z H5 => ∃ kvs k, y = kV k ∧ H5 D = some (.dK kvs) ∧ kvs.length < sizeLine ∧ Nx (upd H5 D (.dK (putK kvs k z))) else Nx H3) := by
  refine dc_it (walk_list (xs := kl.map V.str)) (fun i H' => ∃ sd : Str → Addr, Same H1 H' ∧ H' D = some (SD (kl.take i) fun x => .ref (sd x)) ∧ ∀ x ∈ kl.take i, IsR a H' (sd x) (q x))
    ⟨fun _ => 0, same_new nD, upd_same, (by intro x hx; cases hx)⟩ ?_ ?_ ?_
  · rintro i H' _ ⟨sd, e, _⟩
    exact .inl (.inl (e _ _ hL))
  · rintro i x _ H' hi ⟨sd, e, h1, h2⟩ ⟨rfl, e2⟩
    obtain ⟨z, hz, rfl⟩ := get_map e2
    have nz : z ∉ kl.take i := nodup_take nd hz
    have et : kl.take (i + 1) = kl.take i ++ [z] := by rw [List.take_succ, hz]; rfl
    have len : (SK (kl.take i) fun x => V.ref (sd x)).length < sizeLine := by
      rw [SK_length, List.length_take]
      exact smallL (by omega)
    refine hs z H' _ e (List.mem_of_getElem? hz) ⟨_, h1, len⟩ fun r H5 kvs e5 hr5 hk => ?_
    have hk' := e5 _ _ h1
    rw [hk] at hk'
    injection hk' with hk'
    injection hk' with hk'
    subst hk'
    refine ⟨fun y => if y = z then r else sd y, Same.mut (e.trans e5) nD, ?_, fun x hx => ?_⟩
    · rw [upd_same, SK_put, et]
      unfold addS
      rw [if_neg nz]
      refine congrArg (fun l => some (HO.dK l)) (SK_congr fun y _ => ?_)
      unfold setF
      by_cases q : y = z
      · rw [if_pos q]
        exact congrArg V.ref (if_pos q).symm
      · rw [if_neg q]
        exact congrArg V.ref (if_neg q).symm
    · rw [et] at hx
      have isd : ∀ {b : Addr} {v : Rat}, IsR a H5 b v → IsR a (upd H5 D (.dK (putK (SK (kl.take i) fun x => V.ref (sd x)) (.inr z) (.ref r)))) b v := fun ⟨dy, g⟩ => ⟨dy, by
        rw [upd_ne (fun h => by rw [h, hk] at g; cases g)]
        exact g⟩
      by_cases q : x = z
      · subst q
        simp only [if_true]
        exact isd hr5
      · have hx := (List.mem_append.mp hx).elim id fun h => absurd (List.mem_singleton.mp h) q
        simp only [if_neg q]
        exact isd ((h2 x hx).same e5)
  · rintro H' ⟨sd, e, h1, h2⟩
    rw [List.length_map, List.take_length] at h1 h2
    exact hd H' sd e h1 h2
theorem ChaAt.keep {H H' : Hp} {c fl C dx : Addr} {kl : List Str} {q : Str → Rat} (h : ChaAt a H c kl q) (hf : H fl = some (.ins C dx [])) (kp : ∀ b z, H b = some z → b ≠ fl → H' b = some z) : ChaAt a H' c kl q := by
  obtain ⟨dy, d, sd, h1, h2, h3, h4⟩ := h
  refine ⟨dy, d, sd, kp _ _ h1 fun e => ?_, kp _ _ h2 fun e => ?_, fun x hx => ?_, h4⟩
  · rw [e, hf] at h1
    injection h1 with h1
    injection h1 with _ _ h1
    cases h1
  · rw [e, hf] at h2
    cases h2
  · obtain ⟨dz, g⟩ := h3 x hx
    refine ⟨dz, kp _ _ g fun e => ?_⟩
    rw [e, hf] at g
    injection g with g
    injection g with _ _ g
    cases g
theorem ok_FI (T : Fx K mg a) (I : ChaIt P w K mg base a) (S : Met P w K mg base 5 a.C "share" (spCS a) []) (D : IF K mg "Flow" a.F "Flow.__init__" sFI ["self", "order", "low", "high"]) : Mak P w K mg base 6 "Flow" a.F (spFI a) [] := by
  obtain ⟨fi, fln, fdL, O, IT, LF, FL, bL⟩ := I.ex
  refine mak_of D scFI (fun vs H Q E h => ?_) (fun f cdv A outer s H vs Q E hr h => ?_)
  · obtain ⟨fl, dx, o, cl, ch, kl, kh, lo, hi, D, rfl, _⟩ := h
    rfl
  · obtain ⟨fl, dx, o, cl, ch, kl, kh, lo, hi, D, rfl, hf, hcl, hch, ndl, ndh, ll, lh, q⟩ := h
    have hl4 : Room 4 (A.deeper (envOfC "Flow.__init__" (defScope sFI) s.heap.objs.size f cdv)) := hr.mono (by decide)
    refine ⟨_, pss_cons (ps_fld (pv 0) (pv 1) rfl)
      (pss_cons (ps_fld (pv 0) (pe_dc rfl scFI.nd (pi_list (pe_callTy (call_listOwn rfl O IT LF FL bL hl4) (by rfl) T.nList (by decide +kernel) (pa_cons (pv 2) pa_nil))) (own := [("name", 4)]) (blkOk_by (by kernel_rfl)) (fun _ _ _ _ _ => pg_name (i := 4) scFI.nd rfl (.inl rfl)) (fun _ _ _ _ _ => pts_nil)
          (fun _ _ _ _ _ => pv 4) (fun _ _ _ _ _ => pe_mt S hr (by decide) (pv 2) (pa_cons (pv 4) pa_nil))) rfl)
      (pss_cons (ps_fld (pv 0) (pe_dc rfl scFI.nd (pi_list (pe_callTy (call_listOwn rfl O IT LF FL bL hl4) (by rfl) T.nList (by decide +kernel) (pa_cons (pv 3) pa_nil))) (own := [("name", 4)]) (blkOk_by (by kernel_rfl)) (fun _ _ _ _ _ => pg_name (i := 4) scFI.nd rfl (.inl rfl)) (fun _ _ _ _ _ => pts_nil)
          (fun _ _ _ _ _ => pv 4) (fun _ _ _ _ _ => pe_mt S hr (by decide) (pv 3) (pa_cons (pv 4) pa_nil))) rfl)
      (pss_one (ps_fld (pv 0) pe_dnewT rfl)))), ?_⟩
    refine ⟨.ref o, rfl, .ref fl, rfl, fl, a.F, dx, [], rfl, hf, T.clF, T.f1, (by show 0 < 1000; decide), ?_⟩
    have kp1 : ∀ b z, H b = some z → b ≠ fl → upd H fl (.ins a.F dx (putF "order" (.ref o) [])) b = some z := fun b z hb hn => (upd_ne hn).trans hb
    have hf1 : upd H fl (.ins a.F dx (putF "order" (.ref o) [])) fl = some (.ins a.F dx (putF "order" (.ref o) [])) := upd_same
    generalize upd H fl (.ins a.F dx (putF "order" (.ref o) [])) = H1 at kp1 hf1
    have new1 : ∀ b, H1 b = none → H b = none := fun b hb => by
      cases e : H b with
      | none => rfl
      | some z =>
        by_cases q : b = fl
        · rw [q, hf1] at hb; cases hb
        · rw [kp1 b z e q] at hb; cases hb
    -- left
    obtain ⟨dxl, dl0, sdl, hl1, hl2, hl3, hl4'⟩ := hcl.keep hf kp1
    have hcl1 : ChaAt a H1 cl kl (fun x => fr D (lo x)) := ⟨dxl, dl0, sdl, hl1, hl2, hl3, hl4'⟩
    refine ⟨.ref cl, rfl, cl, dxl, _, dl0, _, rfl, hl1, rfl, hl2, fun l1 nl1 => ?_⟩
    rw [SK_keys]
    refine ⟨l1, rfl, ⟨_, .inl (.inl upd_same)⟩, fun dl ndl' => ?_⟩
    have s1 : Same H1 (upd H1 l1 (.lst (kl.map V.str))) := same_new nl1
    refine share_dict (hcl1.same s1) ndl ll upd_same ndl' (fun x Hx N ex mx ⟨kvs, hk, len⟩ k => ?_) (fun H2 lf e2 hd2 hr2 => ?_)
    · refine ⟨rfl, dcY ?_⟩
      exact ⟨.str x, rfl, .ref cl, rfl, cl, dxl, _, rfl, ex _ _ (s1 _ _ hl1), rfl, .str x, rfl, cl, x, kl, _, rfl, ((hcl1.same s1).same ex).rd, fun r H5 e5 hr5 => ⟨kvs, .inr x, rfl, e5 _ _ hk, len, k r H5 kvs e5 hr5 (e5 _ _ hk)⟩⟩
    have hf2 := e2 _ _ (s1 _ _ hf1)
    have ndlH : H dl = none := new1 dl (Same.none s1 ndl')
    refine ⟨.ref fl, rfl, fl, a.F, dx, _, rfl, hf2, T.clF, T.f2, (by show 1 < 1000; decide), ?_⟩
    have hL2 : LeftAt a H2 dl kl D lo := ⟨lf, hd2, hr2⟩
    have hL3 := hL2.off hf2 (.ins a.F dx (putF "left" (.ref dl) (putF "order" (.ref o) [])))
    have kp3 : ∀ b z, H b = some z → b ≠ fl → upd H2 fl (.ins a.F dx (putF "left" (.ref dl) (putF "order" (.ref o) []))) b = some z := fun b z hb hn => (upd_ne hn).trans (e2 _ _ (s1 _ _ (kp1 b z hb hn)))
    have hf3 : upd H2 fl (.ins a.F dx (putF "left" (.ref dl) (putF "order" (.ref o) []))) fl = some (.ins a.F dx (putF "left" (.ref dl) (putF "order" (.ref o) []))) := upd_same
    generalize upd H2 fl (.ins a.F dx (putF "left" (.ref dl) (putF "order" (.ref o) []))) = H3 at kp3 hf3 hL3
    rw [flF_1] at hf3
    have new3 : ∀ b, H3 b = none → H b = none := fun b hb => by
      cases e : H b with
      | none => rfl
      | some z =>
        by_cases q : b = fl
        · rw [q, hf3] at hb; cases hb
        · rw [kp3 b z e q] at hb; cases hb
    -- room
    obtain ⟨dxh, dh0, sdh, hh1, hh2, hh3, hh4'⟩ := hch.keep hf kp3
    have hch3 : ChaAt a H3 ch kh (fun x => fr D (hi x)) := ⟨dxh, dh0, sdh, hh1, hh2, hh3, hh4'⟩
    refine ⟨.ref ch, rfl, ch, dxh, _, dh0, _, rfl, hh1, rfl, hh2, fun l2 nl2 => ?_⟩
    rw [SK_keys]
    refine ⟨l2, rfl, ⟨_, .inl (.inl upd_same)⟩, fun dr ndr' => ?_⟩
    have s3 : Same H3 (upd H3 l2 (.lst (kh.map V.str))) := same_new nl2
    refine share_dict (hch3.same s3) ndh lh upd_same ndr' (fun x Hx N ex mx ⟨kvs, hk, len⟩ k => ?_) (fun H4 rf e4 hd4 hr4 => ?_)
    · refine ⟨rfl, dcY ?_⟩
      exact ⟨.str x, rfl, .ref ch, rfl, ch, dxh, _, rfl, ex _ _ (s3 _ _ hh1), rfl, .str x, rfl, ch, x, kh, _, rfl, ((hch3.same s3).same ex).rd, fun r H5 e5 hr5 => ⟨kvs, .inr x, rfl, e5 _ _ hk, len, k r H5 kvs e5 hr5 (e5 _ _ hk)⟩⟩
    have hf4 := e4 _ _ (s3 _ _ hf3)
    have ndrH : H dr = none := new3 dr (Same.none s3 ndr')
    have dldr : dl ≠ dr := fun e => by
      obtain ⟨_, g, _⟩ := hL3.same s3
      rw [e, ndr'] at g
      cases g
    refine ⟨.ref fl, rfl, fl, a.F, dx, _, rfl, hf4, T.clF, T.f3, (by show 2 < 1000; decide), ?_⟩
    have hR4 : LeftAt a H4 dr kh D hi := ⟨rf, hd4, hr4⟩
    rw [flF_2]
    have hL5 := ((hL3.same s3).same e4).off hf4 (.ins a.F dx [("order", .ref o), ("left", .ref dl), ("room", .ref dr)])
    have hR5 := hR4.off hf4 (.ins a.F dx [("order", .ref o), ("left", .ref dl), ("room", .ref dr)])
    have kp5 : ∀ b z, H b = some z → b ≠ fl → upd H4 fl (.ins a.F dx [("order", .ref o), ("left", .ref dl), ("room", .ref dr)]) b = some z := fun b z hb hn => (upd_ne hn).trans (e4 _ _ (s3 _ _ (kp3 b z hb hn)))
    have hf5 : upd H4 fl (.ins a.F dx [("order", .ref o), ("left", .ref dl), ("room", .ref dr)]) fl = some (.ins a.F dx [("order", .ref o), ("left", .ref dl), ("room", .ref dr)]) := upd_same
    generalize upd H4 fl (.ins a.F dx [("order", .ref o), ("left", .ref dl), ("room", .ref dr)]) = H5 at hL5 hR5 kp5 hf5
    have new5 : ∀ b, H5 b = none → H b = none := fun b hb => by
      cases e : H b with
      | none => rfl
      | some z =>
        by_cases q : b = fl
        · rw [q, hf5] at hb; cases hb
        · rw [kp5 b z e q] at hb; cases hb
    -- amounts
    intro da nda
    have s5 : Same H5 (upd H5 da (.dT [])) := same_new nda
    have hf6 := s5 _ _ hf5
    refine ⟨.ref fl, rfl, fl, a.F, dx, _, rfl, hf6, T.clF, T.f4, (by show 3 < 1000; decide), ?_⟩
    rw [flF_3]
    have ndaH : H da = none := new5 da nda
    refine q _ dl dr da (fun b z hb hn => (upd_ne hn).trans (s5 _ _ (kp5 b z hb hn))) ndlH ndrH ndaH dldr ?_ ?_ ⟨dx, upd_same⟩ ((hL5.same s5).off hf6 _) ((hR5.same s5).off hf6 _) ⟨[], fun _ => 0, ?_, .nil, (by intro p hp; cases hp), (by intro p hp; cases hp), fun _ _ _ => rfl⟩
    · intro e
      obtain ⟨_, g, _⟩ := hL5
      rw [e, nda] at g
      cases g
    · intro e
      obtain ⟨_, g, _⟩ := hR5
      rw [e, nda] at g
      cases g
    · rw [upd_ne (fun e => by rw [e, hf] at ndaH; cases ndaH), upd_same]
      rfl
end
end OT
end

section
set_option Elab.async false
set_option linter.all false
set_option maxRecDepth 100000
set_option maxHeartbeats 4000000
namespace OT
open PySem PySem.Spec PyProof.Rows L2 OTR
open C8 (Cal Mak Met pe_c pe_mk pe_mt pe_mt0)
section
variable {P : Program} {w : World} {K : PySem.W.Frag} {mg : Str → Option Value} {base : Heap} {a : Ads}
/-- truth of a Ratio -/
def tOwn (C : Addr) (sp : Sp) (ta : TE) : TT := fun σ H Q => ta σ H fun x H' => rBool C sp E0 x H' Q
theorem pt_ownM {X : Cx} {k : Nat} {C : Addr} {sp : Sp} {e : Expr} {ta : TE} (m : Met X.prog X.w X.K X.mg X.base k C "__bool__" sp []) (hr : Room k X.A) (ha : PE X e ta) (he : ∀ whole, isTrue e X.env whole = (do let v ← whole; standAt e.pos; holding [v] (truthy v)) := by intro _; rfl) :
    PT X e (tOwn C sp ta) := pt_own (C := C) (tru_of m hr) ha he
/-! ### amount -/
abbrev sFA : Stmt := inClass (top 19) 1
theorem scFA : FnScope ["self", "first", "second"] ["self", "first", "second"] (defScope sFA) := ⟨rfl, rfl, rfl, by decide +kernel, rfl, by decide +kernel, by decide +kernel⟩
theorem flF_left (o l r m : V) : ([("order", o), ("left", l), ("room", r), ("amounts", m)] : List (Str × V)).lookup ("left" : Str) = some l := by
  rw [List.lookup_cons, show (("left" : Str) == "order") = false by decide +kernel, List.lookup_cons_self]
theorem flF_room (o l r m : V) : ([("order", o), ("left", l), ("room", r), ("amounts", m)] : List (Str × V)).lookup ("room" : Str) = some r := by
  rw [List.lookup_cons, show (("room" : Str) == "order") = false by decide +kernel, List.lookup_cons, show (("room" : Str) == "left") = false by decide +kernel, List.lookup_cons_self]
theorem flF_amt (o l r m : V) : ([("order", o), ("left", l), ("room", r), ("amounts", m)] : List (Str × V)).lookup ("amounts" : Str) = some m := by
  rw [List.lookup_cons, show (("amounts" : Str) == "order") = false by decide +kernel, List.lookup_cons, show (("amounts" : Str) == "left") = false by decide +kernel, List.lookup_cons, show (("amounts" : Str) == "room") = false by decide +kernel, List.lookup_cons_self]
theorem flF_not (o l r m : V) {x : Str} (h : (x == ("order" : Str)) = false ∧ (x == ("left" : Str)) = false ∧ (x == ("room" : Str)) = false ∧ (x == ("amounts" : Str)) = false) : ([("order", o), ("left", l), ("room", r), ("amounts", m)] : List (Str × V)).lookup x = none := by
  obtain ⟨h1, h2, h3, h4⟩ := h
  rw [List.lookup_cons, h1, List.lookup_cons, h2, List.lookup_cons, h3, List.lookup_cons, h4]
  rfl
def spFA (a : Ads) : Sp := fun vs H Q _ => ∃ (fl o dl dr da : Addr) (kl kh : List Str) (D : Nat) (g : Str → Str → Int) (x y : Str), vs = [.ref fl, .str x, .str y] ∧ FlObj a H fl o dl dr da ∧ AmtAt a H da kl kh D g ∧ ∀ r H2, Same H H2 → IsR a H2 r (fr D (g x y)) → Q (.ref r) H2
theorem ok_FA (T : Fx K mg a) (W : Who P w K mg base 4 a) (D : MF K a.F "amount" "Flow.amount" sFA ["self", "first", "second"]) : Met P w K mg base 5 a.F "amount" (spFA a) [] := by
  refine met_of D scFA (fun vs H Q E h => ?_) (fun f cdv A outer s H vs Q E hr h => ?_)
  · obtain ⟨fl, o, dl, dr, da, kl, kh, D, g, x, y, rfl, _⟩ := h
    rfl
  · obtain ⟨fl, o, dl, dr, da, kl, kh, D, g, x, y, rfl, ⟨dx, h1⟩, ⟨ks, af, h2, nd, sub, h3, h4⟩, k⟩ := h
    have hu := hu_of hr
    refine ⟨_, pss_one (ps_ret (pe_dget2 hu (pe_fld (pv 0) rfl) (pe_tup (pa_cons (pv 1) (pa_cons (pv 2) pa_nil))) (pe_whole W hr (by decide) (by rfl) T.mR pe_int) (by constructor <;> rfl))), ?_⟩
    refine ⟨.ref fl, rfl, fl, a.F, dx, _, _, rfl, h1, T.clF, T.f4, flF_amt _ _ _ _, da, rfl, .inr ⟨_, .inl h2⟩, .str x, rfl, .str y, rfl, (by show 2 ≤ sizeLine; decide), fun t nt => ?_⟩
    refine ⟨rfl, 0, rfl, fun r H2 nr e hr => ?_⟩
    have e2 := (same_new (o := .tup [.str x, .str y]) nt).trans e
    refine ⟨_, .inr ⟨_, kP (x, y), t, .inl (e2 _ _ h2), rfl, e _ _ upd_same, rfl⟩, ?_⟩
    by_cases m : (x, y) ∈ ks
    · rw [AK_in m]
      exact k _ _ e2 ((h3 _ m).same e2)
    · rw [AK_not m]
      refine k _ _ e2 ?_
      rw [h4 x y m, fr_zero]
      exact hr
/-! ### way -/
abbrev sFW : Stmt := inClass (top 19) 2
abbrev nFW : List Str := ["self", "ways", "seen", "met", "at", "names", "second", "first", "name"]
theorem scFW : FnScope nFW ["self"] (defScope sFW) := ⟨rfl, rfl, rfl, by decide +kernel, rfl, by decide +kernel, by decide +kernel⟩
/-- the names of a way -/
def flat : List (Str × Str) → List Str
  | [] => []
  | (x, y) :: r => x :: y :: flat r
def RP (R : Str → Str → Bool) : Str → Str → Prop := fun x y => R x y = true
/-! ### the search, in plain words -/
def WD (s : FS Str) : List (Str × Str) → Str → Prop
  | [], x => s.left x ≠ 0
  | p :: r, x => s.left p.1 ≠ 0 ∧ (∀ d ∈ downs (p :: r), s.amt d.1 d.2 ≠ 0) ∧ s.amt x ((p :: r).getLast (List.cons_ne_nil p r)).2 ≠ 0
structure WP (kl kh : List Str) (R : Str → Str → Bool) (s : FS Str) (q : List (Str × Str) × Str) : Prop where
  x : q.2 ∈ kl
  ups : ∀ t ∈ q.1, t.1 ∈ kl ∧ t.2 ∈ kh ∧ R t.1 t.2 = true
  dn : WD s q.1 q.2
  nd : (q.1.map (·.1) ++ [q.2]).Nodup
theorem last_snoc (p : Str × Str) (r : List (Str × Str)) (q : Str × Str) : (p :: (r ++ [q])).getLast (List.cons_ne_nil _ _) = q := by
  have : p :: (r ++ [q]) = (p :: r) ++ [q] := rfl
  simp only [this, List.getLast_append, List.getLast_singleton, List.isEmpty_cons, List.isEmpty_nil] <;> simp
theorem WP.way {kl kh : List Str} {R : Str → Str → Bool} {s : FS Str} {u : List (Str × Str)} {x y : Str} (w : WP kl kh R s (u, x)) (hy : y ∈ kh) (hR : R x y = true) (hr : s.room y ≠ 0) :
    ∃ p r, u ++ [(x, y)] = p :: r ∧ Way kl kh (RP R) s p r := by
  cases u with
  | nil =>
    refine ⟨(x, y), [], rfl, ⟨fun q hq => ?_, fun d hd => ?_, w.dn, hr, by simp⟩⟩
    · rw [List.mem_singleton] at hq
      subst hq
      exact ⟨w.x, hy, hR⟩
    · rw [downs_one] at hd
      cases hd
  | cons p r =>
    obtain ⟨d1, d2, d3⟩ := w.dn
    refine ⟨p, r ++ [(x, y)], rfl, ⟨fun q hq => ?_, fun d hd => ?_, d1, ?_, ?_⟩⟩
    · have hq : q ∈ (p :: r) ++ [(x, y)] := hq
      rcases List.mem_append.mp hq with h | h
      · exact w.ups q h
      · rw [List.mem_singleton] at h
        subst h
        exact ⟨w.x, hy, hR⟩
    · have hd : d ∈ downs (p :: r ++ [(x, y)]) := hd
      rw [downs_snoc] at hd
      rcases List.mem_append.mp hd with h | h
      · exact d2 d h
      · rw [List.mem_singleton] at h
        subst h
        exact d3
    · rw [last_snoc]
      exact hr
    · have := w.nd
      show (((p :: r) ++ [(x, y)]).map (·.1)).Nodup
      rw [List.map_append]
      exact this
theorem WP.ext {kl kh : List Str} {R : Str → Str → Bool} {s : FS Str} {u : List (Str × Str)} {x y x2 : Str} (w : WP kl kh R s (u, x)) (hy : y ∈ kh) (hR : R x y = true) (hx : x2 ∈ kl) (ha : s.amt x2 y ≠ 0) (h1 : x2 ∉ u.map (·.1)) (h2 : x2 ≠ x) : WP kl kh R s (u ++ [(x, y)], x2) := by
  refine ⟨hx, fun q hq => ?_, ?_, ?_⟩
  · rcases List.mem_append.mp hq with h | h
    · exact w.ups q h
    · rw [List.mem_singleton] at h
      subst h
      exact ⟨w.x, hy, hR⟩
  · cases u with
    | nil =>
      refine ⟨w.dn, fun d hd => ?_, ha⟩
      have hd : d ∈ downs [(x, y)] := hd
      rw [downs_one] at hd
      cases hd
    | cons p r =>
      obtain ⟨d1, d2, d3⟩ := w.dn
      refine ⟨d1, fun d hd => ?_, ?_⟩
      · have hd : d ∈ downs (p :: r ++ [(x, y)]) := hd
        rw [downs_snoc] at hd
        rcases List.mem_append.mp hd with h | h
        · exact d2 d h
        · rw [List.mem_singleton] at h
          subst h
          exact d3
      · show s.amt x2 ((p :: (r ++ [(x, y)])).getLast _).2 ≠ 0
        rw [last_snoc]
        exact ha
  · show ((u ++ [(x, y)]).map (·.1) ++ [x2]).Nodup
    rw [List.map_append]
    refine List.nodup_append.mpr ⟨w.nd, by simp, ?_⟩
    rintro a hm b hb rfl
    rw [List.mem_singleton] at hb
    subst hb
    rcases List.mem_append.mp hm with h | h
    · exact h1 h
    · exact h2 (by simpa using h)
structure BI (kl kh : List Str) (R : Str → Str → Bool) (s : FS Str) (pt : List (List (Str × Str) × Str)) (sl : List Str) : Prop where
  path : ∀ q ∈ pt, WP kl kh R s q
  seen : ∀ x, x ∈ sl ↔ x ∈ pt.map (·.2)
  nd : (pt.map (·.2)).Nodup
  snd : sl.Nodup
  fs : ∀ q ∈ pt, ∀ f ∈ q.1.map (·.1), f ∈ sl
  beg : ∀ x ∈ kl, s.left x ≠ 0 → x ∈ sl
theorem BI.sub {kl kh : List Str} {R : Str → Str → Bool} {s : FS Str} {pt : List (List (Str × Str) × Str)} {sl : List Str} (b : BI kl kh R s pt sl) : ∀ x ∈ sl, x ∈ kl := fun x hx => by
  obtain ⟨q, hq, rfl⟩ := List.mem_map.mp ((b.seen x).mp hx)
  exact (b.path q hq).x
theorem BI.len {kl kh : List Str} {R : Str → Str → Bool} {s : FS Str} {pt : List (List (Str × Str) × Str)} {sl : List Str} (b : BI kl kh R s pt sl) : pt.length ≤ kl.length := by
  have := nodup_le b.nd fun x hx => b.sub x ((b.seen x).mpr hx)
  rw [List.length_map] at this
  exact this
theorem BI.slen {kl kh : List Str} {R : Str → Str → Bool} {s : FS Str} {pt : List (List (Str × Str) × Str)} {sl : List Str} (b : BI kl kh R s pt sl) : sl.length ≤ kl.length := nodup_le b.snd b.sub
theorem BI.ext {kl kh : List Str} {R : Str → Str → Bool} {s : FS Str} {pt : List (List (Str × Str) × Str)} {sl : List Str} (b : BI kl kh R s pt sl) {u : List (Str × Str)} {x y x2 : Str} (hq : (u, x) ∈ pt) (hy : y ∈ kh) (hR : R x y = true) (hx : x2 ∈ kl) (ha : s.amt x2 y ≠ 0) (hn : x2 ∉ sl) :
    BI kl kh R s (pt ++ [(u ++ [(x, y)], x2)]) (addS sl x2) := by
  have xs : x ∈ sl := (b.seen x).mpr (List.mem_map.mpr ⟨_, hq, rfl⟩)
  refine ⟨fun q h => ?_, fun z => ?_, ?_, nodup_addS b.snd, fun q h f hf => ?_, fun z hz h => mem_addS.mpr (.inl (b.beg z hz h))⟩
  · rcases List.mem_append.mp h with h | h
    · exact b.path q h
    · rw [List.mem_singleton] at h
      subst h
      exact (b.path _ hq).ext hy hR hx ha (fun m => hn (b.fs _ hq _ m)) (fun e => hn (e ▸ xs))
  · rw [mem_addS, List.map_append, List.mem_append, b.seen]
    simp
  · rw [List.map_append]
    refine List.nodup_append.mpr ⟨b.nd, by simp, ?_⟩
    rintro a hm c hc rfl
    have hc : a = x2 := by simpa using hc
    subst hc
    exact hn ((b.seen _).mpr hm)
  · rcases List.mem_append.mp h with h | h
    · exact mem_addS.mpr (.inl (b.fs q h f hf))
    · rw [List.mem_singleton] at h
      subst h
      rw [List.map_append, List.mem_append] at hf
      rcases hf with hf | hf
      · exact mem_addS.mpr (.inl (b.fs _ hq f hf))
      · have hf : f = x := by simpa using hf
        subst hf
        exact mem_addS.mpr (.inl xs)
structure BM (kl kh : List Str) (R : Str → Str → Bool) (s : FS Str) (sl ml : List Str) : Prop where
  sub : ∀ y ∈ ml, y ∈ kh
  nd : ml.Nodup
  room : ∀ y ∈ ml, s.room y = 0
  le : ∀ y ∈ ml, ∃ x ∈ sl, R x y = true
  down : ∀ y ∈ ml, ∀ x ∈ kl, s.amt x y ≠ 0 → x ∈ sl
theorem BM.up {kl kh : List Str} {R : Str → Str → Bool} {s : FS Str} {sl ml : List Str} (m : BM kl kh R s sl ml) (x : Str) : BM kl kh R s (addS sl x) ml :=
  ⟨m.sub, m.nd, m.room, fun y hy => let ⟨x, h1, h2⟩ := m.le y hy; ⟨x, mem_addS.mpr (.inl h1), h2⟩, fun y hy x hx h => mem_addS.mpr (.inl (m.down y hy x hx h))⟩
theorem BM.add {kl kh : List Str} {R : Str → Str → Bool} {s : FS Str} {sl ml : List Str} {x y : Str} (m : BM kl kh R s sl ml) (hx : x ∈ sl) (hy : y ∈ kh) (hR : R x y = true) (hr : s.room y = 0) (hd : ∀ x ∈ kl, s.amt x y ≠ 0 → x ∈ sl) : BM kl kh R s sl (addS ml y) := by
  refine ⟨fun z hz => ?_, nodup_addS m.nd, fun z hz => ?_, fun z hz => ?_, fun z hz => ?_⟩ <;> rcases mem_addS.mp hz with h | rfl
  · exact m.sub z h
  · exact hy
  · exact m.room z h
  · exact hr
  · exact m.le z h
  · exact ⟨x, hx, hR⟩
  · exact m.down z h
  · exact hd
theorem bfs_cut {kl kh : List Str} {R : Str → Str → Bool} {s : FS Str} {pt : List (List (Str × Str) × Str)} {sl ml : List Str} (b : BI kl kh R s pt sl) (m : BM kl kh R s sl ml) (pr : ∀ q ∈ pt, ∀ y ∈ kh, R q.2 y = true → y ∈ ml) : Cut kl kh (RP R) s (· ∈ sl) (· ∈ ml) := by
  refine ⟨b.beg, b.sub, fun x y hx hy h => ?_, fun y hy => ⟨m.sub y hy, m.le y hy⟩, m.room, fun x y hy hx h => m.down y hy x hx h⟩
  obtain ⟨q, hq, rfl⟩ := List.mem_map.mp ((b.seen x).mp hx)
  exact pr q hq y hy h
/-- the search's objects -/
structure BS (H H' : Hp) (wa sa ma : Addr) (ws : List Addr) (pt : List (List (Str × Str) × Str)) (sl ml : List Str) : Prop where
  same : Same H H'
  n1 : H wa = none
  n2 : H sa = none
  n3 : H ma = none
  w : H' wa = some (.lst (ws.map V.ref))
  s : H' sa = some (SD sl tru)
  m : H' ma = some (SD ml tru)
  sm : sa ≠ ma
  p : Paired (fun b q => H' b = some (.lst ((flat q.1 ++ [q.2]).map V.str)) ∧ b ≠ wa) ws pt
theorem putTru (l : List Str) (x : Str) : putK (SK l tru) (.inr x) (.bl true) = SK (addS l x) tru := by
  rw [SK_put]
  refine SK_congr fun z _ => ?_
  unfold setF
  split <;> rfl
section
variable {H H' : Hp} {wa sa ma : Addr} {ws : List Addr} {pt : List (List (Str × Str) × Str)} {sl ml : List Str}
theorem BS.to {H2 : Hp} (B : BS H H' wa sa ma ws pt sl ml) (e : Same H' H2) : BS H H2 wa sa ma ws pt sl ml :=
  ⟨B.same.trans e, B.n1, B.n2, B.n3, e _ _ B.w, e _ _ B.s, e _ _ B.m, B.sm, L2.Paired.mapP B.p fun _ _ h => ⟨e _ _ h.1, h.2⟩⟩
theorem BS.wsne (B : BS H H' wa sa ma ws pt sl ml) : wa ≠ sa := fun e => by have := B.w; rw [e, B.s] at this; cases this
theorem BS.wmne (B : BS H H' wa sa ma ws pt sl ml) : wa ≠ ma := fun e => by have := B.w; rw [e, B.m] at this; cases this
theorem BS.see (B : BS H H' wa sa ma ws pt sl ml) (x : Str) : BS H (upd H' sa (.dK (putK (SK sl tru) (.inr x) (.bl true)))) wa sa ma ws pt (addS sl x) ml := by
  rw [putTru]
  refine ⟨Same.mut B.same B.n2, B.n1, B.n2, B.n3, (upd_ne B.wsne).trans B.w, upd_same, (upd_ne B.sm.symm).trans B.m, B.sm, L2.Paired.mapP B.p fun b q h => ⟨(upd_ne fun e => ?_).trans h.1, h.2⟩⟩
  have := h.1
  rw [e, B.s] at this
  cases this
theorem BS.mee (B : BS H H' wa sa ma ws pt sl ml) (x : Str) : BS H (upd H' ma (.dK (putK (SK ml tru) (.inr x) (.bl true)))) wa sa ma ws pt sl (addS ml x) := by
  rw [putTru]
  refine ⟨Same.mut B.same B.n3, B.n1, B.n2, B.n3, (upd_ne B.wmne).trans B.w, (upd_ne B.sm).trans B.s, upd_same, B.sm, L2.Paired.mapP B.p fun b q h => ⟨(upd_ne fun e => ?_).trans h.1, h.2⟩⟩
  have := h.1
  rw [e, B.m] at this
  cases this
theorem BS.app (B : BS H H' wa sa ma ws pt sl ml) {b : Addr} {q : List (Str × Str) × Str} (hb : H' b = some (.lst ((flat q.1 ++ [q.2]).map V.str))) (ne : b ≠ wa) : BS H (upd H' wa (.lst (ws.map V.ref ++ [V.ref b]))) wa sa ma (ws ++ [b]) (pt ++ [q]) sl ml := by
  refine ⟨Same.mut B.same B.n1, B.n1, B.n2, B.n3, ?_, (upd_ne B.wsne.symm).trans B.s, (upd_ne B.wmne.symm).trans B.m, B.sm, ?_⟩
  · rw [upd_same, List.map_append]
    rfl
  · exact (L2.Paired.mapP B.p fun b q h => ⟨(upd_ne h.2).trans h.1, h.2⟩).snoc ⟨(upd_ne ne).trans hb, ne⟩
end
theorem flat_snoc : ∀ (u : List (Str × Str)) (x y : Str), flat (u ++ [(x, y)]) = flat u ++ [x, y]
  | [], _, _ => rfl
  | (f, g) :: u, x, y => by
    show f :: g :: flat (u ++ [(x, y)]) = f :: g :: (flat u ++ [x, y])
    rw [flat_snoc u x y]
def spFW (a : Ads) : Sp := fun vs H Q _ => ∃ (fl o dl dr da : Addr) (sn kl kh : List Str) (D : Nat) (R : Str → Str → Bool) (s : FS Str), vs = [.ref fl] ∧ FlObj a H fl o dl dr da ∧ OrdAt a H o sn R ∧ LeftAt a H dl kl D s.left ∧ LeftAt a H dr kh D s.room ∧ AmtAt a H da kl kh D s.amt ∧
  (∀ x ∈ kl, x ∈ sn) ∧ (∀ x ∈ kh, x ∈ sn) ∧ kl.Nodup ∧ kh.Nodup ∧ kl.length ≤ 8 ∧ kh.length ≤ 8 ∧ 0 < D ∧
  (∀ l p r H2, Same H H2 → LstS H2 l (flat (p :: r)) → Way kl kh (RP R) s p r → Q (.ref l) H2) ∧ ∀ S T H2, Same H H2 → Cut kl kh (RP R) s S T → Q .non H2
theorem ok_FW (T : Fx K mg a) (A5 : Met P w K mg base 5 a.F "amount" (spFA a) []) (Bl : Met P w K mg base 1 a.O "below" (spOB a) []) (B1 : Met P w K mg base 1 a.R "__bool__" (spRB a) [])
    (D : MF K a.F "way" "Flow.way" sFW ["self"]) : Met P w K mg base 6 a.F "way" (spFW a) [] := by
  refine met_of D scFW (fun vs H Q E h => ?_) (fun f cdv A outer s H vs Q E hr h => ?_)
  · obtain ⟨fl, o, dl, dr, da, sn, kl, kh, D, R, s, rfl, _⟩ := h
    rfl
  · obtain ⟨fl, o, dl, dr, da, sn, kl, kh, D, R, st, rfl, hfl, ho, hl, hh, ha, hsl, hsh, ndl, ndh, ll, lh, D0, q1, q2⟩ := h
    have hu := hu_of hr
    have hr1 : Room 1 (A.deeper (envOfC "Flow.way" (defScope sFW) s.heap.objs.size f cdv)) := hr.mono (by decide)
    refine ⟨_, pss_cons (ps_setLc (i := 1) (tt := tOwn a.R (spRB a) (tDGet (tFld K (tVar 0) "left") (tVar 8))) rfl scFW.nd rfl rfl (sw_true rfl rfl rfl (by decide +kernel)) (pi_list (pe_callB cr_sortedS (by rfl) T.nSorted (by decide +kernel) (pa_cons (pe_callTy (call_listD rfl) (by rfl) T.nList (by decide +kernel) (pa_cons (pe_fld (pv 0) rfl) pa_nil)) pa_nil))) (own := [("name", 8)]) (blkOk_by (by kernel_rfl)) (fun _ _ _ _ _ => (pg_name (i := 8) scFW.nd rfl (.inl rfl))) (fun _ _ _ _ _ => pts_one (pt_ownM B1 hr1 (pe_dget hu (pe_fld (pv 0) rfl) (pv 8) (fun _ _ => rfl)))) (fun _ _ _ _ _ => pe_lst (pa_cons (pv 8) pa_nil)))
      (pss_cons (ps_setDc (i := 2) rfl scFW.nd rfl rfl (swd_true rfl rfl rfl (by decide +kernel)) (pi_list (pv 1)) (own := [("names", 5)]) (blkOk_by (by kernel_rfl)) (fun _ _ _ _ _ => (pg_name (i := 5) scFW.nd rfl (.inl rfl))) (fun _ _ _ _ _ => pts_nil) (fun _ _ _ _ _ => pe_ix (r := rIxL K) ix_list (pv 5) pe_int (fun _ _ => rfl)) (fun _ _ _ _ _ => pe_bl))
      (pss_cons (ps_set (i := 3) scFW.nd rfl (.inl rfl) pe_dnewK)
      (pss_cons (ps_set (i := 4) scFW.nd rfl (.inl rfl) pe_int)
      (pss_cons (ps_while PassesOwn.never (pt_cmpR op_lt (pv 4) (pe_callB call_len (by rfl) T.nLen (by decide +kernel) (pa_cons (pv 1) pa_nil)) (nomark _))
        (pss_cons (ps_set (i := 5) scFW.nd rfl (.inl rfl) (pe_ix ix_list (pv 1) (pv 4) (fun _ _ => rfl)))
        (pss_cons (ps_aug (i := 4) scFW.nd rfl (.inl rfl) pe_int ip_add)
        (pss_one (ps_for PassesOwn.never rfl (pi_list (pe_callB cr_sortedS (by rfl) T.nSorted (by decide +kernel) (pa_cons (pe_callTy (call_listD rfl) (by rfl) T.nList (by decide +kernel) (pa_cons (pe_fld (pv 0) rfl) pa_nil)) pa_nil))) (pg_name (i := 6) scFW.nd rfl (.inl rfl))
          (pss_one (ps_if (pw_and (pt_cmp (pc_dnotin hu (pv 6) (pv 3))) (pw_and1 (pt_val (pe_mt Bl hr (by decide) (pe_fld (pv 0) rfl) (pa_cons (pe_ix ix_list (pv 5) (pe_un un_neg pe_int) (fun _ _ => rfl)) (pa_cons (pv 6) pa_nil)))))).pt
          (pss_cons (ps_dput hu (pv 3) (pv 6) pe_bl rfl)
            (pss_cons (ps_if (pt_ownM B1 hr1 (pe_dget hu (pe_fld (pv 0) rfl) (pv 6) (fun _ _ => rfl))) (pss_one (ps_ret (pe_lst (StX.pa_star (pv 5) (pa_cons (pv 6) pa_nil))))) pss_nil)
            (pss_one (ps_for PassesOwn.never rfl (pi_list (pe_callB cr_sortedS (by rfl) T.nSorted (by decide +kernel) (pa_cons (pe_callTy (call_listD rfl) (by rfl) T.nList (by decide +kernel) (pa_cons (pe_fld (pv 0) rfl) pa_nil)) pa_nil))) (pg_name (i := 7) scFW.nd rfl (.inl rfl))
              (pss_one (ps_if (pw_and (pt_cmp (pc_dnotin hu (pv 7) (pv 2))) (pw_and1 (pt_ownM B1 hr1 (pe_mt A5 hr (by decide) (pv 0) (pa_cons (pv 7) (pa_cons (pv 6) pa_nil)))))).pt (pss_cons (ps_dput hu (pv 2) (pv 7) pe_bl rfl) (pss_one (ps_expr (pe_bm PySem.F.plainAttrs_list PySem.F.slot_list_append PySem.F.type_list_append mt_append (pv 1) (pa_cons (pe_lst (StX.pa_star (pv 5) (pa_cons (pv 6) (pa_cons (pv 7) pa_nil)))) pa_nil))))) pss_nil)))))) pss_nil)))))))
      (pss_one (ps_ret pe_non)))))), ?_⟩
    obtain ⟨dxf, hfl0⟩ := hfl
    obtain ⟨lf, hl1, hl2⟩ := id hl
    obtain ⟨rm, hh1, hh2⟩ := id hh
    refine ⟨.ref fl, rfl, fl, a.F, dxf, _, _, rfl, hfl0, T.clF, T.f2, flF_left _ _ _ _, dl, _, rfl, .inl hl1, fun l1 n1 => ?_⟩
    rw [SK_keys]
    refine ⟨l1, kl, rfl, .inl (.inl upd_same), (by omega), fun js l2 pm _ n2 => ?_⟩
    have e0 := (same_new (o := .lst (kl.map V.str)) n1).trans (same_new (o := .lst (js.map V.str)) n2)
    have hl2' : upd (upd H l1 (.lst (kl.map V.str))) l2 (.lst (js.map V.str)) l2 = some (.lst (js.map V.str)) := upd_same
    generalize upd (upd H l1 (.lst (kl.map V.str))) l2 (.lst (js.map V.str)) = H1 at e0 hl2'
    have jm : ∀ x, x ∈ js ↔ x ∈ kl := fun x => pm.mem_iff
    refine ⟨l2, rfl, ⟨_, .inl (.inl hl2')⟩, fun wa nwa => ?_⟩
    refine lc_it (walk_list (xs := js.map V.str)) (fun i H' => ∃ ws : List Addr, Same H1 H' ∧ H' wa = some (.lst (ws.map V.ref)) ∧
        Paired (fun b (q : List (Str × Str) × Str) => H' b = some (.lst ((flat q.1 ++ [q.2]).map V.str)) ∧ b ≠ wa) ws (((js.take i).filter fun x => decide (st.left x ≠ 0)).map fun x => (([] : List (Str × Str)), x)))
      ⟨[], same_new nwa, upd_same, .nil⟩ ?_ ?_ ?_
    · rintro i H' _ ⟨ws, e, _⟩
      exact .inl (.inl (e _ _ hl2'))
    · rintro i x _ H' hi ⟨ws, e, hw, hp⟩ ⟨rfl, e2⟩
      obtain ⟨z, hz, rfl⟩ := get_map e2
      have zk : z ∈ kl := (jm z).mp (List.mem_of_getElem? hz)
      have et : js.take (i + 1) = js.take i ++ [z] := by rw [List.take_succ, hz]; rfl
      have e1 := e0.trans e
      obtain ⟨dz, hz2⟩ := (hl2 z zk).same e1
      refine ⟨rfl, .ref fl, rfl, fl, a.F, dxf, _, _, rfl, e1 _ _ hfl0, T.clF, T.f2, flF_left _ _ _ _, .str z, rfl, dl, .ref (lf z), rfl, .inl ⟨_, .inr z, .inl (e1 _ _ hl1), rfl, (SK_in (f := fun x => .ref (lf x)) zk).symm⟩,
        lf z, dz, _, rfl, hz2, lf z, _, rfl, ⟨dz, hz2⟩, _, rfl, ?_⟩
      rw [fr_ne D0]
      have len : ws.length ≤ 8 := by
        have h1 := hp.length
        have h2 : ((js.take i).filter fun x => decide (st.left x ≠ 0)).length ≤ (js.take i).length := List.length_filter_le _ _
        rw [List.length_map] at h1
        rw [List.length_take] at h2
        have := pm.length_eq
        omega
      by_cases c : st.left z ≠ 0
      · rw [decide_eq_true c]
        refine iteT ?_
        refine ⟨.str z, rfl, (by show 1 ≤ sizeLine; decide), fun l nl => ?_⟩
        have lw : l ≠ wa := fun h => by rw [h, hw] at nl; cases nl
        refine ⟨_, (upd_ne lw.symm).trans hw, ?_, ws ++ [l], Same.mut (e.trans (same_new nl)) nwa, ?_, ?_⟩
        · rw [List.length_map]
          exact smallL (by omega)
        · rw [upd_same, List.map_append]
          rfl
        · rw [et, List.filter_append, List.filter_cons, if_pos (decide_eq_true c), List.filter_nil, List.map_append]
          exact (L2.Paired.mapP hp fun b q h => ⟨by
            rw [upd_ne h.2, upd_ne (fun h' => by rw [← h', h.1] at nl; cases nl)]
            exact h.1, h.2⟩).snoc ⟨by
            rw [upd_ne lw, upd_same]
            rfl, lw⟩
      · rw [decide_eq_false c]
        refine iteF ?_
        refine ⟨ws, e, hw, ?_⟩
        rw [et, List.filter_append, List.filter_cons, if_neg (by rw [decide_eq_false c]; decide), List.filter_nil, List.append_nil]
        exact hp
    rintro H2 ⟨ws, e, hw, hp⟩
    rw [List.length_map, List.take_length] at hp
    have e1 := e0.trans e
    have nwaH : H wa = none := Same.none e0 nwa
    -- seen
    obtain ⟨pt, hpt⟩ : ∃ pt : List (List (Str × Str) × Str), pt = (js.filter fun x => decide (st.left x ≠ 0)).map fun x => (([] : List (Str × Str)), x) := ⟨_, rfl⟩
    rw [← hpt] at hp
    have ptn : (pt.map (·.2)).Nodup := by
      rw [hpt, List.map_map]
      show ((js.filter fun x => decide (st.left x ≠ 0)).map id).Nodup
      rw [List.map_id]
      exact (pm.nodup_iff.mpr ndl).filter _
    have ptk : ∀ x, x ∈ pt.map (·.2) ↔ x ∈ kl ∧ st.left x ≠ 0 := fun x => by
      rw [hpt, List.map_map]
      show x ∈ (js.filter fun x => decide (st.left x ≠ 0)).map id ↔ _
      rw [List.map_id, List.mem_filter, jm, decide_eq_true_eq]
    have BI0 : BI kl kh R st pt (pt.map (·.2)) := by
      refine ⟨fun q hq => ?_, fun _ => Iff.rfl, ptn, ptn, fun q hq f hf => ?_, fun x h1 h2 => (ptk x).mpr ⟨h1, h2⟩⟩
      · have := (ptk q.2).mp (List.mem_map.mpr ⟨q, hq, rfl⟩)
        rw [hpt] at hq
        obtain ⟨x, _, rfl⟩ := List.mem_map.mp hq
        exact ⟨this.1, (by intro t ht; cases ht), this.2, by simp⟩
      · rw [hpt] at hq
        obtain ⟨x, _, rfl⟩ := List.mem_map.mp hq
        cases hf
    refine ⟨.ref wa, rfl, wa, rfl, ⟨_, .inl (.inl hw)⟩, fun sa nsa => ?_⟩
    refine dc_it (walk_list (xs := ws.map V.ref)) (fun i H' => Same H2 H' ∧ H' sa = some (SD ((pt.map (·.2)).take i) tru)) ⟨same_new nsa, upd_same⟩ ?_ ?_ ?_
    · rintro i H' _ ⟨e, _⟩
      exact .inl (.inl (e _ _ hw))
    · rintro i x _ H' hi ⟨e3, hs⟩ ⟨rfl, e2⟩
      obtain ⟨b, hb, rfl⟩ := get_map e2
      obtain ⟨q, hq, hb2, _⟩ := paired_get hp hb
      have hq2 : (pt.map (·.2))[i]? = some q.2 := by rw [List.getElem?_map, hq]; rfl
      have hq1 : q.1 = [] := by
        have := List.mem_of_getElem? hq
        rw [hpt] at this
        obtain ⟨x, _, rfl⟩ := List.mem_map.mp this
        rfl
      rw [hq1] at hb2
      have et : (pt.map (·.2)).take (i + 1) = (pt.map (·.2)).take i ++ [q.2] := by rw [List.take_succ, hq2]; rfl
      refine ⟨rfl, dcY ?_⟩
      refine ⟨.ref b, rfl, b, _, 0, .str q.2, rfl, rfl, .inl (.inl (e3 _ _ hb2)), rfl, ?_⟩
      refine ⟨_, .inr q.2, rfl, hs, ?_, Same.mut e3 nsa, ?_⟩
      · have h1 := BI0.len
        rw [SK_length, List.length_take, List.length_map]
        exact smallL (by omega)
      · rw [upd_same, putTru, et]
        unfold addS
        rw [if_neg (nodup_take ptn hq2)]
    rintro H3 ⟨e3, hs⟩
    rw [List.length_map, hp.length, ← List.length_map (f := fun q : List (Str × Str) × Str => q.2), List.take_length] at hs
    have nsaH : H sa = none := Same.none e1 nsa
    intro ma nma
    have nmaH : H ma = none := Same.none (e1.trans e3) nma
    have B0 : BS H (upd H3 ma (.dK [])) wa sa ma ws pt (pt.map (·.2)) [] := by
      have s4 : Same H3 (upd H3 ma (.dK [])) := same_new nma
      refine ⟨(e1.trans e3).trans s4, nwaH, nsaH, nmaH, s4 _ _ (e3 _ _ hw), s4 _ _ hs, upd_same, fun h => ?_, L2.Paired.mapP hp fun b q h => ⟨s4 _ _ (e3 _ _ h.1), h.2⟩⟩
      rw [← h, hs] at nma
      cases nma
    refine while_by (fun σ H' => ∃ (k : Nat) (v5 v6 v7 v8 : Option V) (ws : List Addr) (pt : List (List (Str × Str) × Str)) (sl ml : List Str), σ = [some (.ref fl), some (.ref wa), some (.ref sa), some (.ref ma), some (.int k), v5, v6, v7, v8] ∧
        BS H H' wa sa ma ws pt sl ml ∧ BI kl kh R st pt sl ∧ BM kl kh R st sl ml ∧ k ≤ pt.length ∧ ∀ i q, i < k → pt[i]? = some q → ∀ y ∈ kh, R q.2 y = true → y ∈ ml) (fun σ _ => match σ with | [_, _, _, _, some (.int k), _, _, _, _] => (8 - k).toNat | _ => 0) ?_ ?_ ?_
    · exact ⟨0, _, _, _, _, ws, pt, _, [], rfl, B0, BI0, ⟨(by intro y hy; cases hy), .nil, (by intro y hy; cases hy), (by intro y hy; cases hy), (by intro y hy; cases hy)⟩, Nat.zero_le _, fun i q hi => absurd hi (Nat.not_lt_zero _)⟩
    · clear hp ptn ptk BI0 B0 hpt hs hw nma nsa nwa e e1 e3
      clear pt ws
      rintro σ H' ⟨k, v5, v6, v7, v8, ws, pt, sl, ml, rfl, B, b, m, hk, pr⟩
      have wp := B.p.length
      refine ⟨_, rfl, .ref wa, rfl, .ref wa, ws.length, rfl, .inl ⟨_, .inl (.inl B.w), (List.length_map ..).symm⟩, k, ws.length, rfl, rfl, _, rfl, ?_⟩
      by_cases kl8 : k < ws.length
      · rw [decide_eq_true (by omega)]
        refine iteT ?_
        obtain ⟨b0, hb0⟩ : ∃ b0, ws[k]? = some b0 := ⟨ws[k], by simp [kl8]⟩
        obtain ⟨⟨u, x⟩, hq0, -, -⟩ := paired_get B.p hb0
        have hk8 : pt.length ≤ 8 := by have := b.len; omega
        refine ⟨.ref wa, rfl, .int k, rfl, wa, _, k, .ref b0, rfl, rfl, .inl (.inl B.w), atI_nat (by rw [List.getElem?_map, hb0]; rfl), ?_⟩
        refine ⟨.int k, rfl, k, 1, rfl, rfl, ?_⟩
        refine ⟨.ref fl, rfl, fl, a.F, dxf, _, _, rfl, B.same _ _ hfl0, T.clF, T.f3, flF_room _ _ _ _, dr, _, rfl, .inl (B.same _ _ hh1), fun l1 n1 => ?_⟩
        rw [SK_keys]
        refine ⟨l1, kh, rfl, .inl (.inl upd_same), (by omega), fun ys l2 pmy _ n2 => ?_⟩
        have Ba := B.to (same_new (o := .lst (kh.map V.str)) n1)
        have l2wa : l2 ≠ wa := fun h => by rw [h, Ba.w] at n2; cases n2
        have Bb := Ba.to (same_new (o := .lst (ys.map V.str)) n2)
        have hy2 : upd (upd H' l1 (.lst (kh.map V.str))) l2 (.lst (ys.map V.str)) l2 = some (.lst (ys.map V.str)) := upd_same
        generalize upd (upd H' l1 (.lst (kh.map V.str))) l2 (.lst (ys.map V.str)) = H4 at Bb hy2
        clear Ba n1 n2 B
        have ym : ∀ y, y ∈ ys ↔ y ∈ kh := fun y => pmy.mem_iff
        refine ⟨l2, rfl, ⟨_, .inl (.inl hy2)⟩, ?_⟩
        refine for_it (walk_list (xs := ys.map V.str)) (fun j σ H' => ∃ (v6 v7 v8 : Option V) (ws : List Addr) (pt : List (List (Str × Str) × Str)) (sl ml : List Str), σ = [some (.ref fl), some (.ref wa), some (.ref sa), some (.ref ma), some (.int (k + 1 : Int)), some (.ref b0), v6, v7, v8] ∧
            BS H H' wa sa ma ws pt sl ml ∧ BI kl kh R st pt sl ∧ BM kl kh R st sl ml ∧ H' l2 = some (.lst (ys.map V.str)) ∧ ws[k]? = some b0 ∧ pt[k]? = some (u, x) ∧ (∀ i q, i < k → pt[i]? = some q → ∀ y ∈ kh, R q.2 y = true → y ∈ ml) ∧ ∀ y ∈ ys.take j, R x y = true → y ∈ ml)
          ⟨v6, v7, v8, ws, pt, sl, ml, rfl, Bb, b, m, hy2, hb0, hq0, pr, (by intro y hy; cases hy)⟩ ?_ ?_ ?_
        · rintro i σ H' _ ⟨v6, v7, v8, ws, pt, sl, ml, rfl, B, b, m, h2, _⟩
          exact .inl (.inl h2)
        · clear hb0 hq0 pr b m wp kl8 hk hk8 Bb hy2
          clear ws pt sl ml
          rintro j v σ _ H' hj ⟨v6, v7, v8, ws, pt, sl, ml, rfl, B, b, m, h2, hb0, hq0, pr, pj⟩ ⟨rfl, e2⟩
          obtain ⟨y, hyj, rfl⟩ := get_map e2
          have yk : y ∈ kh := (ym y).mp (List.mem_of_getElem? hyj)
          have et : ys.take (j + 1) = ys.take j ++ [y] := by rw [List.take_succ, hyj]; rfl
          have hq := List.mem_of_getElem? hq0
          have xk : x ∈ kl := (b.path _ hq).x
          have hk8 : pt.length ≤ 8 := by have := b.len; omega
          obtain ⟨q', hq', hpb, bwa⟩ := paired_get B.p hb0
          rw [hq0] at hq'
          injection hq' with hq'
          subst hq'
          refine ⟨.str y, rfl, .ref ma, rfl, ma, _, rfl, .inl ⟨_, .inr y, .inl B.m, rfl, rfl⟩, _, rfl, ?_⟩
          rw [SK_some]
          by_cases cm : y ∈ ml
          · rw [decide_eq_true cm]
            refine iteF (iteF ?_)
            refine ⟨_, _, _, ws, pt, sl, ml, rfl, B, b, m, h2, hb0, hq0, pr, fun z hz hR => ?_⟩
            rw [et] at hz
            rcases List.mem_append.mp hz with h | h
            · exact pj z h hR
            · rw [List.mem_singleton] at h
              exact h ▸ cm
          · rw [decide_eq_false cm]
            refine iteT ?_
            obtain ⟨dxo, t0, d0, td, up, ho1, ho2, ho3, ho4⟩ := ho.same B.same
            refine ⟨.ref fl, rfl, fl, a.F, dxf, _, _, rfl, B.same _ _ hfl0, T.clF, T.f1, rfl, o, dxo, _, rfl, ho1, rfl, .ref b0, rfl, 1, rfl, b0, _, -1, .str x, rfl, rfl, .inl (.inl hpb), ?_, .str y, rfl, o, x, y, sn, R, rfl, ho.same B.same, hsl x xk, hsh y yk, fun H5 e5 => ?_⟩
            · rw [List.map_append]
              exact atI_last _ _
            refine ⟨_, rfl, ?_⟩
            have B5 := B.to e5
            cases cR : R x y with
            | false =>
              refine iteF ?_
              refine ⟨_, _, _, ws, pt, sl, ml, rfl, B5, b, m, e5 _ _ h2, hb0, hq0, pr, fun z hz hR => ?_⟩
              rw [et] at hz
              rcases List.mem_append.mp hz with h | h
              · exact pj z h hR
              · rw [List.mem_singleton] at h
                rw [h, cR] at hR
                cases hR
            | true =>
              refine iteT ?_
              have mlen : (SK ml tru).length < sizeLine := by
                rw [SK_length]
                have := nodup_le m.nd m.sub
                exact smallL (by omega)
              refine ⟨.ref ma, rfl, .str y, rfl, ma, _, rfl, DPut.k (k := .inr y) B5.m mlen, ?_⟩
              have B6 := B5.mee y
              have h26 : upd H5 ma (.dK (putK (SK ml tru) (.inr y) (.bl true))) l2 = some (.lst (ys.map V.str)) := (upd_ne (fun h => by have := e5 _ _ h2; rw [h, B5.m] at this; cases this)).trans (e5 _ _ h2)
              generalize upd H5 ma (.dK (putK (SK ml tru) (.inr y) (.bl true))) = H6 at B6 h26
              clear B5 B ho1 ho2 ho3 ho4
              obtain ⟨dz, hz⟩ := (hh2 y yk).same B6.same
              refine ⟨.ref fl, rfl, fl, a.F, dxf, _, _, rfl, B6.same _ _ hfl0, T.clF, T.f3, flF_room _ _ _ _, .str y, rfl, dr, .ref (rm y), rfl, .inl ⟨_, .inr y, .inl (B6.same _ _ hh1), rfl, (SK_in (f := fun x => .ref (rm x)) yk).symm⟩,
                rm y, dz, _, rfl, hz, rm y, _, rfl, ⟨dz, hz⟩, _, rfl, ?_⟩
              rw [fr_ne D0]
              obtain ⟨q', hq', hpb, bwa⟩ := paired_get B6.p hb0
              rw [hq0] at hq'
              injection hq' with hq'
              subst hq'
              by_cases cr : st.room y ≠ 0
              · rw [decide_eq_true cr]
                refine iteT ?_
                obtain ⟨p0, r0, hpr, way⟩ := (b.path _ hq).way yk cR cr
                have ulen : ∀ v : List (Str × Str), (flat v).length = 2 * v.length := fun v => by
                  induction v with
                  | nil => rfl
                  | cons t v ih => rw [List.length_cons]; show (flat v).length + 1 + 1 = _; rw [ih]; omega
                have u8 : u.length ≤ 8 := by
                  have h1 : (u.map (·.1)).length ≤ kl.length := nodup_le ((List.nodup_append.mp (b.path _ hq).nd).1) fun f hf => b.sub f (b.fs _ hq f hf)
                  rw [List.length_map] at h1
                  omega
                refine ⟨.ref b0, rfl, b0, _, rfl, .inr (.inl (.inl hpb)), .str y, rfl, ?_, fun l nl => ?_⟩
                · rw [List.length_append, List.length_map, List.length_append, ulen]
                  exact small (by simp; omega)
                · refine q1 l p0 r0 _ (B6.same.trans (same_new nl)) ?_ way
                  show upd H6 l _ l = _
                  rw [upd_same, ← hpr, flat_snoc, List.map_append, List.map_append]
                  simp
              · rw [decide_eq_false cr]
                refine iteF ?_
                have cr0 : st.room y = 0 := Decidable.not_not.mp cr
                refine ⟨.ref fl, rfl, fl, a.F, dxf, _, _, rfl, B6.same _ _ hfl0, T.clF, T.f2, flF_left _ _ _ _, dl, _, rfl, .inl (B6.same _ _ hl1), fun l3 n3 => ?_⟩
                rw [SK_keys]
                refine ⟨l3, kl, rfl, .inl (.inl upd_same), (by omega), fun xs l4 pmx _ n4 => ?_⟩
                have Ba := B6.to (same_new (o := .lst (kl.map V.str)) n3)
                have l4wa : l4 ≠ wa := fun h => by rw [h, Ba.w] at n4; cases n4
                have Bb := Ba.to (same_new (o := .lst (xs.map V.str)) n4)
                have h4 : upd (upd H6 l3 (.lst (kl.map V.str))) l4 (.lst (xs.map V.str)) l4 = some (.lst (xs.map V.str)) := upd_same
                have h27 := same_new (o := .lst (xs.map V.str)) n4 _ _ (same_new (o := .lst (kl.map V.str)) n3 _ _ h26)
                generalize upd (upd H6 l3 (.lst (kl.map V.str))) l4 (.lst (xs.map V.str)) = H7 at Bb h4 h27
                have xm : ∀ z, z ∈ xs ↔ z ∈ kl := fun z => pmx.mem_iff
                refine ⟨l4, rfl, ⟨_, .inl (.inl h4)⟩, ?_⟩
                refine for_it (walk_list (xs := xs.map V.str)) (fun n σ H' => ∃ (v7 v8 : Option V) (ws : List Addr) (pt : List (List (Str × Str) × Str)) (sl : List Str), σ = [some (.ref fl), some (.ref wa), some (.ref sa), some (.ref ma), some (.int (k + 1 : Int)), some (.ref b0), some (.str y), v7, v8] ∧
                    BS H H' wa sa ma ws pt sl (addS ml y) ∧ BI kl kh R st pt sl ∧ BM kl kh R st sl ml ∧ H' l2 = some (.lst (ys.map V.str)) ∧ H' l4 = some (.lst (xs.map V.str)) ∧ ws[k]? = some b0 ∧ pt[k]? = some (u, x) ∧ (∀ i q, i < k → pt[i]? = some q → ∀ y ∈ kh, R q.2 y = true → y ∈ ml) ∧ ∀ z ∈ xs.take n, st.amt z y ≠ 0 → z ∈ sl)
                  ⟨v7, v8, ws, pt, sl, rfl, Bb, b, m, h27, h4, hb0, hq0, pr, (by intro y hy; cases hy)⟩ ?_ ?_ ?_
                · rintro i σ H' _ ⟨v7, v8, ws, pt, sl, rfl, B, b, m, h2, h4, _⟩
                  exact .inl (.inl h4)
                · clear hb0 hq0 pr b m hq hk8 Bb h4 h27 hpb B6 h26 Ba h2 e5 n3 n4 hz
                  rintro n v σ _ H' hn ⟨v7, v8, ws, pt, sl, rfl, B, b, m, h2, h4, hb0, hq0, pr, pn⟩ ⟨rfl, e2⟩
                  obtain ⟨z, hzn, rfl⟩ := get_map e2
                  have zk : z ∈ kl := (xm z).mp (List.mem_of_getElem? hzn)
                  have et : xs.take (n + 1) = xs.take n ++ [z] := by rw [List.take_succ, hzn]; rfl
                  have hq := List.mem_of_getElem? hq0
                  have hk8 : pt.length ≤ 8 := by have := b.len; omega
                  have s8 : sl.length ≤ 8 := by have := b.slen; omega
                  refine ⟨.str z, rfl, .ref sa, rfl, sa, _, rfl, .inl ⟨_, .inr z, .inl B.s, rfl, rfl⟩, _, rfl, ?_⟩
                  rw [SK_some]
                  by_cases cs : z ∈ sl
                  · rw [decide_eq_true cs]
                    refine iteF (iteF ?_)
                    refine ⟨_, _, ws, pt, sl, rfl, B, b, m, h2, h4, hb0, hq0, pr, fun t ht hA => ?_⟩
                    rw [et] at ht
                    rcases List.mem_append.mp ht with h | h
                    · exact pn t h hA
                    · rw [List.mem_singleton] at h
                      exact h ▸ cs
                  · rw [decide_eq_false cs]
                    refine iteT ?_
                    refine ⟨.ref fl, rfl, fl, dxf, _, rfl, B.same _ _ hfl0, flF_not _ _ _ _ (by decide +kernel), .str z, rfl, .str y, rfl, fl, o, dl, dr, da, kl, kh, D, st.amt, z, y, rfl, ⟨dxf, B.same _ _ hfl0⟩, ha.same B.same, fun r H8 e8 hr8 => ?_⟩
                    obtain ⟨dz, hz⟩ := hr8
                    refine ⟨r, dz, _, rfl, hz, r, _, rfl, ⟨dz, hz⟩, _, rfl, ?_⟩
                    rw [fr_ne D0]
                    have B8 := B.to e8
                    by_cases ca : st.amt z y ≠ 0
                    · rw [decide_eq_true ca]
                      refine iteT ?_
                      refine ⟨.ref sa, rfl, .str z, rfl, sa, _, rfl, DPut.k (k := .inr z) B8.s (by rw [SK_length]; exact smallL (by omega)), ?_⟩
                      have B9 := B8.see z
                      have ne2 : ∀ {l : Addr} {o : HO}, H8 l = some o → (∀ kvs, o ≠ .dK kvs) → upd H8 sa (.dK (putK (SK sl tru) (.inr z) (.bl true))) l = some o := fun h hn => (upd_ne (fun e => by rw [e, B8.s] at h; injection h with h; exact hn _ h.symm)).trans h
                      have h29 := ne2 (e8 _ _ h2) (fun _ q => by cases q)
                      have h49 := ne2 (e8 _ _ h4) (fun _ q => by cases q)
                      generalize upd H8 sa (.dK (putK (SK sl tru) (.inr z) (.bl true))) = H9 at B9 h29 h49
                      obtain ⟨q', hq', hpb, bwa⟩ := paired_get B9.p hb0
                      rw [hq0] at hq'
                      injection hq' with hq'
                      subst hq'
                      have ulen : ∀ v : List (Str × Str), (flat v).length = 2 * v.length := fun v => by
                        induction v with
                        | nil => rfl
                        | cons t v ih => rw [List.length_cons]; show (flat v).length + 1 + 1 = _; rw [ih]; omega
                      have u8 : u.length ≤ 8 := by
                        have h1 : (u.map (·.1)).length ≤ kl.length := nodup_le ((List.nodup_append.mp (b.path _ hq).nd).1) fun f hf => b.sub f (b.fs _ hq f hf)
                        rw [List.length_map] at h1
                        omega
                      refine ⟨.ref wa, rfl, .inl ⟨rfl, _, .inl (.inl B9.w)⟩, .ref b0, rfl, b0, _, rfl, .inr (.inl (.inl hpb)), .str y, rfl, .str z, rfl, ?_, fun l nl => ?_⟩
                      · rw [List.length_append, List.length_map, List.length_append, ulen]
                        exact small (by simp; omega)
                      have B10 := B9.to (same_new (o := .lst (((flat (u, x).1 ++ [(u, x).2]).map V.str) ++ [V.str y, V.str z])) nl)
                      have lwa : l ≠ wa := fun e => by rw [e, B9.w] at nl; cases nl
                      have wp := B9.p.length
                      refine ⟨wa, _, _, rfl, rfl, B10.w, (by rw [List.length_map]; exact smallL (by omega)), ?_⟩
                      have B11 := B10.app (b := l) (q := (u ++ [(x, y)], z)) (by
                        rw [upd_same, flat_snoc]
                        simp) lwa
                      refine ⟨_, _, ws ++ [l], _, _, rfl, B11, b.ext hq yk cR zk ca cs, m.up z, ?_, ?_, ?_, ?_, fun i q hi hq => pr i q hi ?_, fun t ht hA => ?_⟩
                      · rw [upd_ne l2wa]
                        exact same_new nl _ _ h29
                      · rw [upd_ne l4wa]
                        exact same_new nl _ _ h49
                      · rw [List.getElem?_append_left (List.getElem?_eq_some_iff.mp hb0).1]
                        exact hb0
                      · rw [List.getElem?_append_left (List.getElem?_eq_some_iff.mp hq0).1]
                        exact hq0
                      · rw [List.getElem?_append_left (Nat.lt_trans hi (List.getElem?_eq_some_iff.mp hq0).1)] at hq
                        exact hq
                      · rw [et] at ht
                        rcases List.mem_append.mp ht with h | h
                        · exact mem_addS.mpr (.inl (pn t h hA))
                        · rw [List.mem_singleton] at h
                          exact mem_addS.mpr (.inr h)
                    · rw [decide_eq_false ca]
                      refine iteF ?_
                      refine ⟨_, _, ws, pt, sl, rfl, B8, b, m, e8 _ _ h2, e8 _ _ h4, hb0, hq0, pr, fun t ht hA => ?_⟩
                      rw [et] at ht
                      rcases List.mem_append.mp ht with h | h
                      · exact pn t h hA
                      · rw [List.mem_singleton] at h
                        exact absurd hA (h ▸ ca)
                · rintro σ H' ⟨v7, v8, ws, pt, sl, rfl, B, b, m, h2, h4, hb0, hq0, pr, pn⟩
                  rw [List.length_map, List.take_length] at pn
                  have xs' : x ∈ sl := (b.seen x).mpr (List.mem_map.mpr ⟨_, List.mem_of_getElem? hq0, rfl⟩)
                  refine ⟨_, _, _, ws, pt, sl, addS ml y, rfl, B, b, m.add xs' yk cR cr0 (fun z hz h => pn z ((xm z).mpr hz) h), h2, hb0, hq0, fun i q hi hq z hz hR => mem_addS.mpr (.inl (pr i q hi hq z hz hR)), fun z hz hR => ?_⟩
                  rw [et] at hz
                  rcases List.mem_append.mp hz with h | h
                  · exact mem_addS.mpr (.inl (pj z h hR))
                  · rw [List.mem_singleton] at h
                    exact mem_addS.mpr (.inr h)
        · rintro σ H' ⟨v6, v7, v8, ws, pt, sl, ml, rfl, B, b, m, h2, hb0, hq0, pr, pj⟩
          rw [List.length_map, List.take_length] at pj
          have hk8 : pt.length ≤ 8 := by have := b.len; omega
          have hk : k < pt.length := (List.getElem?_eq_some_iff.mp hq0).1
          refine ⟨⟨k + 1, _, _, _, _, ws, pt, sl, ml, rfl, B, b, m, hk, fun i q hi hq y hy hR => ?_⟩, ?_⟩
          · rcases Nat.lt_succ_iff_lt_or_eq.mp hi with h | h
            · exact pr i q h hq y hy hR
            · subst h
              rw [hq0] at hq
              injection hq with hq
              subst hq
              exact pj y ((ym y).mpr hy) hR
          · show (8 - ((k : Int) + 1)).toNat < (8 - (k : Int)).toNat
            omega
      · rw [decide_eq_false (by omega)]
        refine iteF ?_
        refine q2 _ _ H' B.same (bfs_cut b m fun q hq y hy hR => ?_)
        obtain ⟨i, hi, e⟩ := List.mem_iff_getElem.mp hq
        exact pr i q (by omega) (by rw [List.getElem?_eq_getElem hi, e]) y hy hR
    · rintro σ H' Q1 Q2 hQ ⟨v, e, u, e2, x, n, e3, h, i, j, e4, e5, k, e6, q2⟩
      exact ⟨v, e, u, e2, x, n, e3, h, i, j, e4, e5, k, e6, hQ _ _ q2⟩
end
end OT
end

section
set_option Elab.async false
set_option linter.all false
set_option maxRecDepth 100000
set_option maxHeartbeats 4000000
namespace OT
open PySem PySem.Spec PyProof.Rows L2 OTR
open C8 (Cal Mak Met pe_c pe_mk pe_mt pe_mt0)
/-! ### keeping -/
theorem Keep.rfl' {D : Addr → Prop} {H : Hp} : Keep D H H := fun _ _ h _ => h
theorem Keep.same {D : Addr → Prop} {H H1 H2 : Hp} (k : Keep D H H1) (e : Same H1 H2) : Keep D H H2 := fun b o h n => e _ _ (k b o h n)
theorem Keep.mut {D : Addr → Prop} {H H1 : Hp} (k : Keep D H H1) {p : Addr} (o : HO) (h : D p) : Keep D H (upd H1 p o) := fun b u e n => (upd_ne (fun q : b = p => n (q ▸ h))).trans (k b u e n)
theorem Keep.of {D : Addr → Prop} {H H1 : Hp} (e : Same H H1) : Keep D H H1 := fun b o h _ => e b o h
/-- no instance at b -/
def NotIns (H : Hp) (b : Addr) : Prop := ∀ C dx fs, H b ≠ some (.ins C dx fs)
section
variable {a : Ads}
theorem IsR.upd {H : Hp} {p b : Addr} {q : Rat} (h : IsR a H p q) (n : NotIns H b) (o : HO) : IsR a (upd H b o) p q := let ⟨dx, h⟩ := h; ⟨dx, (upd_ne fun e => n _ _ _ (e ▸ h)).trans h⟩
theorem FlObj.upd {H : Hp} {fl o dl dr da b : Addr} (h : FlObj a H fl o dl dr da) (n : NotIns H b) (u : HO) : FlObj a (upd H b u) fl o dl dr da := let ⟨dx, h⟩ := h; ⟨dx, (upd_ne fun e => n _ _ _ (e ▸ h)).trans h⟩
theorem LeftAt.upd {H : Hp} {d b : Addr} {kl : List Str} {D : Nat} {f : Str → Int} (h : LeftAt a H d kl D f) (ne : d ≠ b) (n : NotIns H b) (u : HO) : LeftAt a (upd H b u) d kl D f :=
  let ⟨lf, h1, h2⟩ := h
  ⟨lf, (upd_ne ne).trans h1, fun x hx => (h2 x hx).upd n u⟩
theorem AmtAt.upd {H : Hp} {d b : Addr} {kl kh : List Str} {D : Nat} {g : Str → Str → Int} (h : AmtAt a H d kl kh D g) (ne : d ≠ b) (n : NotIns H b) (u : HO) : AmtAt a (upd H b u) d kl kh D g :=
  let ⟨ks, af, h1, h2, h3, h4, h5⟩ := h
  ⟨ks, af, (upd_ne ne).trans h1, h2, h3, fun x hx => (h4 x hx).upd n u, h5⟩
theorem LeftAt.ni {H : Hp} {d : Addr} {kl : List Str} {D : Nat} {f : Str → Int} (h : LeftAt a H d kl D f) : NotIns H d := fun C dx fs e => by
  obtain ⟨_, h, _⟩ := h
  rw [h] at e
  cases e
theorem AmtAt.ni {H : Hp} {d : Addr} {kl kh : List Str} {D : Nat} {g : Str → Str → Int} (h : AmtAt a H d kl kh D g) : NotIns H d := fun C dx fs e => by
  obtain ⟨_, _, h, _⟩ := h
  rw [h] at e
  cases e
theorem LeftAt.ne {H : Hp} {d da : Addr} {kl kl' kh : List Str} {D D' : Nat} {f : Str → Int} {g : Str → Str → Int} (h : LeftAt a H d kl D f) (h' : AmtAt a H da kl' kh D' g) : d ≠ da := fun e => by
  obtain ⟨_, h, _⟩ := h
  obtain ⟨_, _, h', _⟩ := h'
  rw [e, h'] at h
  cases h
theorem LeftAt.put {H : Hp} {d r : Addr} {kl : List Str} {D : Nat} {f : Str → Int} {lf : Str → Addr} (h1 : H d = some (SD kl fun x => .ref (lf x))) (h2 : ∀ x ∈ kl, IsR a H (lf x) (fr D (f x))) {x : Str} (hx : x ∈ kl) {z : Int} (hr : IsR a H r (fr D z)) :
    LeftAt a (L2.upd H d (.dK (putK (SK kl fun x => .ref (lf x)) (.inr x) (.ref r)))) d kl D (fun y => if y = x then z else f y) := by
  have ni : NotIns H d := fun C dx fs e => by rw [h1] at e; cases e
  refine ⟨fun y => if y = x then r else lf y, ?_, fun y hy => ?_⟩
  · rw [upd_same, SK_put]
    unfold addS
    rw [if_pos hx]
    refine congrArg (fun l => some (HO.dK l)) (SK_congr fun y _ => ?_)
    unfold setF
    by_cases q : y = x
    · rw [if_pos q]
      exact congrArg V.ref (if_pos q).symm
    · rw [if_neg q]
      exact congrArg V.ref (if_neg q).symm
  · by_cases q : y = x
    · simp only [if_pos q]
      exact hr.upd ni _
    · simp only [if_neg q]
      exact (h2 y hy).upd ni _
theorem AmtAt.put {H : Hp} {d r : Addr} {kl kh : List Str} {D : Nat} {g : Str → Str → Int} {ks : List (Str × Str)} {af : Str × Str → Addr} (h1 : H d = some (.dT (AK ks fun p => .ref (af p)))) (nd : ks.Nodup) (sub : ∀ p ∈ ks, p.1 ∈ kl ∧ p.2 ∈ kh)
    (h2 : ∀ p ∈ ks, IsR a H (af p) (fr D (g p.1 p.2))) (h3 : ∀ x y, (x, y) ∉ ks → g x y = 0) {q : Str × Str} (hx : q.1 ∈ kl) (hy : q.2 ∈ kh) {z : Int} (hr : IsR a H r (fr D z)) :
    AmtAt a (L2.upd H d (.dT (putK (AK ks fun p => .ref (af p)) (kP q) (.ref r)))) d kl kh D (fun x y => if (x, y) = q then z else g x y) := by
  have ni : NotIns H d := fun C dx fs e => by rw [h1] at e; cases e
  refine ⟨addP ks q, fun y => if y = q then r else af y, ?_, nodup_addP nd, fun p hp => ?_, fun p hp => ?_, fun x y hp => ?_⟩
  · rw [upd_same, AK_put]
    refine congrArg (fun l => some (HO.dT l)) (AK_congr fun y _ => ?_)
    unfold setP
    by_cases e : y = q
    · rw [if_pos e]
      exact congrArg V.ref (if_pos e).symm
    · rw [if_neg e]
      exact congrArg V.ref (if_neg e).symm
  · rcases mem_addP.mp hp with h | rfl
    · exact sub p h
    · exact ⟨hx, hy⟩
  · obtain ⟨p1, p2⟩ := p
    by_cases e : (p1, p2) = q
    · simp only [if_pos e]
      exact hr.upd ni _
    · have hp := (mem_addP.mp hp).elim id fun h => absurd h e
      simp only [if_neg e]
      exact (h2 _ hp).upd ni _
  · have h1 : (x, y) ∉ ks := fun h => hp (mem_addP.mpr (.inl h))
    have h2 : (x, y) ≠ q := fun h => hp (mem_addP.mpr (.inr h))
    show (if (x, y) = q then z else g x y) = 0
    rw [if_neg h2]
    exact h3 x y h1
end
/-! ### comprehensions that make pairs of texts -/
theorem lc_pairs {α : Type} {J : It} {G : Hp → Prop} {Y : Nat → Hp → V → Hp → Prop} (l : List α) (w : Walk J l.length G Y) {g : TG} {tt : TT} {te : TE} {vs : List Nat} {σ : L2.St} {H1 : Hp} {D : Addr} {Qd : Hp → Prop}
    (pb : α → Bool) (f : α → Str × Str) (hn : l.length ≤ 100000) (nD : H1 D = none) (hG : ∀ H, Same H1 H → G H)
    (hs : ∀ i x v H H' (Nx : Hp → Prop), l[i]? = some x → Same H1 H → Y i H v H' → (∀ acc, H D = some (.lst acc) → acc.length < sizeLine) → (∃ acc, H D = some (.lst acc) ∧ acc.length < sizeLine) →
      (pb x = true → ∀ H5 t acc, Same H H5 → H5 t = some (.tup [.str (f x).1, .str (f x).2]) → H5 D = some (.lst acc) → Nx (upd H5 D (.lst (acc ++ [.ref t])))) → (pb x = false → ∀ H5, Same H H5 → Nx H5) →
      g v (wipe σ vs) H' fun σ2 H2 => wipe σ2 vs = wipe σ vs ∧ tt σ2 H2 fun b H3 => if b = true then te σ2 H3 fun y H4 => ∃ acc, H4 D = some (.lst acc) ∧ acc.length < sizeLine ∧ Nx (upd H4 D (.lst (acc ++ [y]))) else Nx H3)
    (hd : ∀ H, Same H1 H → LstP H D ((l.filter pb).map f) → Qd H) :
    ∃ W : Nat → Nat → Hp → Prop, (∃ m, W 0 m (upd H1 D (.lst []))) ∧ ∀ i m H, W i m H →
      (J.stop i H ∧ Qd H) ∨ (J.go i H ∧ ∃ Nx : Hp → Prop, (∀ H', Nx H' → ∃ m', m' < m ∧ W (i + 1) m' H') ∧ ∀ x H', J.yld i H x H' → g x (wipe σ vs) H' fun σ2 H2 => wipe σ2 vs = wipe σ vs ∧ tt σ2 H2 fun b H3 =>
        if b = true then te σ2 H3 fun y H4 => ∃ acc, H4 D = some (.lst acc) ∧ acc.length < sizeLine ∧ Nx (upd H4 D (.lst (acc ++ [y]))) else Nx H3) := by
  refine lc_it w (fun i H => Same H1 H ∧ LstP H D (((l.take i).filter pb).map f)) ⟨same_new nD, [], upd_same, .nil⟩ (fun i H _ h => hG H h.1) ?_ ?_
  · rintro i v H H' hi ⟨e, xs, hx, hp⟩ y
    obtain ⟨x, hx2⟩ : ∃ x, l[i]? = some x := ⟨l[i], by simp [hi]⟩
    have len : xs.length < sizeLine := by
      have h1 := hp.length
      have h2 : ((l.take i).filter pb).length ≤ (l.take i).length := List.length_filter_le _ _
      rw [List.length_map] at h1
      rw [List.length_take] at h2
      exact smallL (by omega)
    refine hs i x v H H' _ hx2 e y (fun acc h => ?_) ⟨xs, hx, len⟩ (fun hb H5 t acc e5 ht hD => ?_) (fun hb H5 e5 => ?_)
    · rw [hx] at h
      injection h with h
      injection h with h
      exact h ▸ len
    · have hD' := e5 _ _ hx
      rw [hD] at hD'
      injection hD' with hD'
      injection hD' with hD'
      subst hD'
      refine ⟨Same.mut (e.trans e5) nD, _, upd_same, ?_⟩
      rw [List.take_succ, hx2]
      simp only [Option.toList, List.filter_append, List.filter_cons, hb, if_true, List.filter_nil, List.map_append, List.map_cons, List.map_nil]
      have vp : ∀ {v : V} {xy : Str × Str}, VP H5 v xy → VP (upd H5 D (.lst (acc ++ [.ref t]))) v xy := fun ⟨r, e1, h⟩ => ⟨r, e1, (upd_ne fun e2 => by rw [e2, hD] at h; cases h).trans h⟩
      exact (L2.Paired.mapP hp fun _ _ h => vp (h.same e5)).snoc (vp ⟨t, rfl, ht⟩)
    · refine ⟨e.trans e5, xs, e5 _ _ hx, ?_⟩
      rw [List.take_succ, hx2]
      simp only [Option.toList, List.filter_append, List.filter_cons, hb, Bool.false_eq_true, if_false, List.filter_nil, List.append_nil]
      exact L2.Paired.mapP hp fun _ _ h => h.same e5
  · rintro H ⟨e, h⟩
    rw [List.take_length] at h
    exact hd H e h
theorem rgc0 : ∀ n : Nat, n ≤ 8 → RgC 0 ((2 * n : Nat) : Int) 2 n := by
  have h : ∀ n : Fin 9, RgC 0 ((2 * n.1 : Nat) : Int) 2 n.1 := by
    unfold RgC
    decide +kernel
  exact fun n hn => h ⟨n, by omega⟩
theorem rgc1 : ∀ n : Nat, n ≤ 8 → RgC 1 (((2 * (n + 1) : Nat) : Int) - 1) 2 n := by
  have h : ∀ n : Fin 9, RgC 1 (((2 * (n.1 + 1) : Nat) : Int) - 1) 2 n.1 := by
    unfold RgC
    decide +kernel
  exact fun n hn => h ⟨n, by omega⟩
end OT
end

section
set_option Elab.async false
set_option linter.all false
set_option maxRecDepth 100000
set_option maxHeartbeats 4000000
namespace OT
open PySem PySem.Spec PyProof.Rows L2 OTR
open C8 (Cal Mak Met pe_c pe_mk pe_mt pe_mt0)
section
variable {P : Program} {w : World} {K : PySem.W.Frag} {mg : Str → Option Value} {base : Heap} {a : Ads}
abbrev sFS : Stmt := inClass (top 19) 3
abbrev nFS : List Str := ["self", "names", "ups", "downs", "least", "other", "first", "second", "at"]
theorem scFS : FnScope nFS ["self", "names"] (defScope sFS) := ⟨rfl, rfl, rfl, by decide +kernel, rfl, by decide +kernel, by decide +kernel⟩
def lastS (p : Str × Str) (r : List (Str × Str)) : Str := ((p :: r).getLast (List.cons_ne_nil p r)).2
/-! ### places in a way -/
theorem flat_len : ∀ v : List (Str × Str), (flat v).length = 2 * v.length
  | [] => rfl
  | t :: v => by
    show (flat v).length + 1 + 1 = _
    rw [flat_len v, List.length_cons]
    omega
theorem flat_at : ∀ (v : List (Str × Str)) (i : Nat) (q : Str × Str), v[i]? = some q → (flat v)[2 * i]? = some q.1 ∧ (flat v)[2 * i + 1]? = some q.2
  | [], i, q, h => by cases h
  | t :: v, 0, q, h => by
    injection h with h
    subst h
    exact ⟨rfl, rfl⟩
  | t :: v, i + 1, q, h => by
    have := flat_at v i q h
    exact this
theorem downs_len : ∀ (p : Str × Str) (r : List (Str × Str)), (downs (p :: r)).length = r.length
  | p, [] => by rw [downs_one, List.length_nil]
  | (f, g), (f2, g2) :: r => by
    rw [downs_two, List.length_cons, downs_len (f2, g2) r, List.length_cons]
theorem downs_at : ∀ (p : Str × Str) (r : List (Str × Str)) (i : Nat) (d : Str × Str), (downs (p :: r))[i]? = some d → ∃ q1 q2, (p :: r)[i]? = some q1 ∧ (p :: r)[i + 1]? = some q2 ∧ d = (q2.1, q1.2)
  | p, [], i, d, h => by rw [downs_one] at h; cases h
  | (f, g), (f2, g2) :: r, 0, d, h => by
    rw [downs_two] at h
    injection h with h
    exact ⟨_, _, rfl, rfl, h.symm⟩
  | (f, g), (f2, g2) :: r, i + 1, d, h => by
    rw [downs_two] at h
    have := downs_at (f2, g2) r i d h
    exact this
theorem flat_last (p : Str × Str) (r : List (Str × Str)) : atI ((flat (p :: r)).map V.str) (-1) = some (.str (lastS p r)) := by
  have e : p :: r = (p :: r).dropLast ++ [(p :: r).getLast (List.cons_ne_nil p r)] := (List.dropLast_concat_getLast _).symm
  have e2 : flat (p :: r) = (flat (p :: r).dropLast ++ [((p :: r).getLast (List.cons_ne_nil p r)).1]) ++ [lastS p r] := by
    conv => lhs; rw [e]
    rw [show (p :: r).getLast (List.cons_ne_nil p r) = (((p :: r).getLast (List.cons_ne_nil p r)).1, ((p :: r).getLast (List.cons_ne_nil p r)).2) from rfl, flat_snoc, List.append_assoc]
    rfl
  rw [e2, List.map_append]
  exact atI_last _ _
def NotSeq (H : Hp) (b : Addr) : Prop := (∀ xs, H b ≠ some (.lst xs)) ∧ ∀ xs, H b ≠ some (.tup xs)
theorem LstP.upd {H : Hp} {p b : Addr} {ps : List (Str × Str)} (h : LstP H p ps) (n : NotSeq H b) (o : HO) : LstP (upd H b o) p ps :=
  let ⟨xs, h1, h2⟩ := h
  ⟨xs, (upd_ne fun e => n.1 _ (e ▸ h1)).trans h1, L2.Paired.mapP h2 fun _ _ ⟨r, e1, q⟩ => ⟨r, e1, (upd_ne fun e => n.2 _ (e ▸ q)).trans q⟩⟩
theorem LstS.upd {H : Hp} {p b : Addr} {ns : List Str} (h : LstS H p ns) (n : NotSeq H b) (o : HO) : LstS (upd H b o) p ns := (upd_ne fun e => n.1 _ (e ▸ h)).trans h
theorem LeftAt.ns {H : Hp} {d : Addr} {kl : List Str} {D : Nat} {f : Str → Int} (h : LeftAt a H d kl D f) : NotSeq H d := by
  obtain ⟨_, h, _⟩ := h
  exact ⟨fun xs e => (by rw [h] at e; cases e), fun xs e => (by rw [h] at e; cases e)⟩
theorem AmtAt.ns {H : Hp} {d : Addr} {kl kh : List Str} {D : Nat} {g : Str → Str → Int} (h : AmtAt a H d kl kh D g) : NotSeq H d := by
  obtain ⟨_, _, h, _⟩ := h
  exact ⟨fun xs e => (by rw [h] at e; cases e), fun xs e => (by rw [h] at e; cases e)⟩
/-- what stands while the amounts are changed -/
structure SB (a : Ads) (H H' : Hp) (fl l la lb rl o dl dr da : Addr) (kl kh : List Str) (D : Nat) (ns : List Str) (xa xb : List V) (ups dns : List (Str × Str)) (m : Int) (f1 f2 : Str → Int) (g : Str → Str → Int) : Prop where
  kp : Keep (fun b => b = dl ∨ b = dr ∨ b = da) H H'
  fo : FlObj a H' fl o dl dr da
  le : LeftAt a H' dl kl D f1
  ro : LeftAt a H' dr kh D f2
  am : AmtAt a H' da kl kh D g
  lr : IsR a H' rl (fr D m)
  ua : H' la = some (.lst xa)
  pa : Paired (VP H') xa ups
  ub : H' lb = some (.lst xb)
  pb : Paired (VP H') xb dns
  nm : LstS H' l ns
theorem cntP_snoc (ps : List (Str × Str)) (q : Str × Str) (x y : Str) : cntP (ps ++ [q]) x y = cntP ps x y + (if q.1 = x ∧ q.2 = y then 1 else 0) := by
  unfold cntP
  rw [sumL_append]
  congr 1
  rw [sumL_cons, sumL_nil, Int.add_zero]
theorem vps_upd {H : Hp} {b : Addr} {xs : List V} {ps : List (Str × Str)} (h : Paired (VP H) xs ps) (n : NotSeq H b) (o : HO) : Paired (VP (upd H b o)) xs ps := L2.Paired.mapP h fun _ _ ⟨r, e1, q⟩ => ⟨r, e1, (upd_ne fun e => n.2 _ (e ▸ q)).trans q⟩
theorem lst_upd {H : Hp} {p b : Addr} {xs : List V} (h : H p = some (.lst xs)) (n : NotSeq H b) (o : HO) : upd H b o p = some (.lst xs) := (upd_ne fun e => n.1 _ (e ▸ h)).trans h
section
variable {H H' : Hp} {fl l la lb rl o dl dr da : Addr} {kl kh : List Str} {D : Nat} {ns : List Str} {xa xb : List V} {ups dns : List (Str × Str)} {m : Int} {f1 f2 : Str → Int} {g : Str → Str → Int}
theorem SB.to {H2 : Hp} (B : SB a H H' fl l la lb rl o dl dr da kl kh D ns xa xb ups dns m f1 f2 g) (e : Same H' H2) : SB a H H2 fl l la lb rl o dl dr da kl kh D ns xa xb ups dns m f1 f2 g :=
  ⟨B.kp.same e, B.fo.same e, B.le.same e, B.ro.same e, B.am.same e, B.lr.same e, e _ _ B.ua, L2.Paired.mapP B.pa fun _ _ h => h.same e, e _ _ B.ub, L2.Paired.mapP B.pb fun _ _ h => h.same e, B.nm.same e⟩
theorem SB.putL (B : SB a H H' fl l la lb rl o dl dr da kl kh D ns xa xb ups dns m f1 f2 g) (dlr : dl ≠ dr) {x : Str} (hx : x ∈ kl) (l8 : kl.length ≤ 1000) {z : Int} {r : Addr} (hr : IsR a H' r (fr D z)) :
    ∃ H2, DPut H' dl (.str x) (.ref r) H2 ∧ SB a H H2 fl l la lb rl o dl dr da kl kh D ns xa xb ups dns m (fun y => if y = x then z else f1 y) f2 g := by
  obtain ⟨lf, h1, h2⟩ := B.le
  have ni := B.le.ni
  have ns' := B.le.ns
  exact ⟨_, DPut.k (k := .inr x) h1 (by rw [SK_length]; exact smallL (by omega)), B.kp.mut _ (.inl rfl), B.fo.upd ni _, LeftAt.put h1 h2 hx hr, B.ro.upd dlr.symm ni _, B.am.upd (B.le.ne B.am).symm ni _, B.lr.upd ni _, lst_upd B.ua ns' _, vps_upd B.pa ns' _, lst_upd B.ub ns' _, vps_upd B.pb ns' _, B.nm.upd ns' _⟩
theorem SB.putR (B : SB a H H' fl l la lb rl o dl dr da kl kh D ns xa xb ups dns m f1 f2 g) (dlr : dl ≠ dr) {x : Str} (hx : x ∈ kh) (l8 : kh.length ≤ 1000) {z : Int} {r : Addr} (hr : IsR a H' r (fr D z)) :
    ∃ H2, DPut H' dr (.str x) (.ref r) H2 ∧ SB a H H2 fl l la lb rl o dl dr da kl kh D ns xa xb ups dns m f1 (fun y => if y = x then z else f2 y) g := by
  obtain ⟨lf, h1, h2⟩ := B.ro
  have ni := B.ro.ni
  have ns' := B.ro.ns
  exact ⟨_, DPut.k (k := .inr x) h1 (by rw [SK_length]; exact smallL (by omega)), B.kp.mut _ (.inr (.inl rfl)), B.fo.upd ni _, B.le.upd dlr ni _, LeftAt.put h1 h2 hx hr, B.am.upd (B.ro.ne B.am).symm ni _, B.lr.upd ni _, lst_upd B.ua ns' _, vps_upd B.pa ns' _, lst_upd B.ub ns' _, vps_upd B.pb ns' _, B.nm.upd ns' _⟩
theorem SB.putA (B : SB a H H' fl l la lb rl o dl dr da kl kh D ns xa xb ups dns m f1 f2 g) {q : Str × Str} (hx : q.1 ∈ kl) (hy : q.2 ∈ kh) {z : Int} {r : Addr} (hr : IsR a H' r (fr D z)) {t : Addr} (ht : H' t = some (.tup [.str q.1, .str q.2])) (lk : kl.length ≤ 1000 ∧ kh.length ≤ 1000)
    : ∃ H2, DPut H' da (.ref t) (.ref r) H2 ∧ SB a H H2 fl l la lb rl o dl dr da kl kh D ns xa xb ups dns m f1 f2 (fun x y => if (x, y) = q then z else g x y) := by
  obtain ⟨ks, af, h1, h2, h3, h4, h5⟩ := B.am
  refine ⟨_, DPut.t (k := kP q) h1 ht ?_, B.kp.mut _ (.inr (.inr rfl)), B.fo.upd B.am.ni _, B.le.upd (B.le.ne B.am) B.am.ni _, B.ro.upd (B.ro.ne B.am) B.am.ni _, AmtAt.put h1 h2 h3 h4 h5 hx hy hr, B.lr.upd B.am.ni _, lst_upd B.ua B.am.ns _, vps_upd B.pa B.am.ns _, lst_upd B.ub B.am.ns _, vps_upd B.pb B.am.ns _, B.nm.upd B.am.ns _⟩
  rw [AK_length]
  have := nodup_leP h2 (m := kl.flatMap fun x => kh.map fun y => (x, y)) fun p hp => by
    rw [List.mem_flatMap]
    exact ⟨p.1, (h3 p hp).1, List.mem_map.mpr ⟨p.2, (h3 p hp).2, rfl⟩⟩
  have h6 : (kl.flatMap fun x => kh.map fun y => (x, y)).length = kl.length * kh.length := by
    rw [List.length_flatMap]
    simp only [List.length_map, List.map_const', List.sum_replicate_nat]
  have h7 : kl.length * kh.length ≤ 1000 * 1000 := Nat.mul_le_mul lk.1 lk.2
  rw [sizeLine_eq]
  omega
end
def spFS (a : Ads) : Sp := fun vs H Q _ => ∃ (fl l o dl dr da : Addr) (kl kh : List Str) (D : Nat) (R : Str → Str → Bool) (s : FS Str) (p : Str × Str) (r : List (Str × Str)), vs = [.ref fl, .ref l] ∧ FlObj a H fl o dl dr da ∧ LeftAt a H dl kl D s.left ∧ LeftAt a H dr kh D s.room ∧ AmtAt a H da kl kh D s.amt ∧
  dl ≠ dr ∧ kl.length ≤ 8 ∧ kh.length ≤ 8 ∧ 0 < D ∧ D * D < 1073741824 ∧ (∀ x y, s.amt x y ≠ 0 → x ∈ kl ∧ y ∈ kh) ∧ LstS H l (flat (p :: r)) ∧ Way kl kh (RP R) s p r ∧
  ∀ H' m, Keep (fun b => b = dl ∨ b = dr ∨ b = da) H H' → FlObj a H' fl o dl dr da → LeftAt a H' dl kl D (sent s p r m).left → LeftAt a H' dr kh D (sent s p r m).room → AmtAt a H' da kl kh D (sent s p r m).amt →
    (m ≤ s.left p.1 ∧ m ≤ s.room (lastS p r) ∧ (∀ d ∈ downs (p :: r), m ≤ s.amt d.1 d.2)) → (m = s.left p.1 ∨ m = s.room (lastS p r) ∨ ∃ d ∈ downs (p :: r), m = s.amt d.1 d.2) → Q .non H'
theorem ok_FS (T : Fx K mg a) (A5 : Met P w K mg base 5 a.F "amount" (spFA a) []) (U : Met P w K mg base 1 a.R "under" (spRU a) []) (Ad : Met P w K mg base 4 a.R "__add__" (spR2 a okD fun q r => q + r) []) (Su : Met P w K mg base 4 a.R "__sub__" (spR2 a okD fun q r => q - r) [])
    (D : MF K a.F "send" "Flow.send" sFS ["self", "names"]) : Met P w K mg base 6 a.F "send" (spFS a) [] := by
  refine met_of D scFS (fun vs H Q E h => ?_) (fun f cdv A outer s H vs Q E hr h => ?_)
  · obtain ⟨fl, l, o, dl, dr, da, kl, kh, D, R, st, p, r, rfl, _⟩ := h
    rfl
  · obtain ⟨fl, l, o, dl, dr, da, kl, kh, D, R, st, p, r, rfl, hfl, hl, hh, ha, dlr, ll, lh8, D0, DD, supp, hn, wy, q⟩ := h
    have hu := hu_of hr
    have hr4 : Room 4 (A.deeper (envOfC "Flow.send" (defScope sFS) s.heap.objs.size f cdv)) := hr.mono (by decide)
    refine ⟨_, pss_cons (ps_setLc (i := 2) rfl scFS.nd rfl rfl (sw_true rfl rfl rfl (by decide +kernel)) (pi_range3 (by rfl) T.nRange (pa_cons pe_int (pa_cons (pe_callB call_len (by rfl) T.nLen (by decide +kernel) (pa_cons (pv 1) pa_nil)) (pa_cons pe_int pa_nil)))) (own := [("at", 8)]) (blkOk_by (by kernel_rfl)) (fun _ _ _ _ _ => (pg_name (i := 8) scFS.nd rfl (.inl rfl))) (fun _ _ _ _ _ => pts_nil) (fun _ _ _ _ _ => pe_tup (pa_cons (pe_ix (r := rIxL K) ix_list (pv 1) (pv 8) (fun _ _ => rfl)) (pa_cons (pe_ix (r := rIxL K) ix_list (pv 1) (pe_op op_add (pv 8) pe_int) (fun _ _ => rfl)) pa_nil))))
      (pss_cons (ps_setLc (i := 3) rfl scFS.nd rfl rfl (sw_true rfl rfl rfl (by decide +kernel)) (pi_range3 (by rfl) T.nRange (pa_cons pe_int (pa_cons (pe_op op_sub (pe_callB call_len (by rfl) T.nLen (by decide +kernel) (pa_cons (pv 1) pa_nil)) pe_int) (pa_cons pe_int pa_nil)))) (own := [("at", 8)]) (blkOk_by (by kernel_rfl)) (fun _ _ _ _ _ => (pg_name (i := 8) scFS.nd rfl (.inl rfl))) (fun _ _ _ _ _ => pts_nil) (fun _ _ _ _ _ => pe_tup (pa_cons (pe_ix (r := rIxL K) ix_list (pv 1) (pe_op op_add (pv 8) pe_int) (fun _ _ => rfl)) (pa_cons (pe_ix (r := rIxL K) ix_list (pv 1) (pv 8) (fun _ _ => rfl)) pa_nil))))
      (pss_cons (ps_set (i := 4) scFS.nd rfl (.inl rfl) (pe_dget hu (pe_fld (pv 0) rfl) (pe_ix ix_list (pv 1) pe_int (fun _ _ => rfl)) (fun _ _ => rfl)))
      (pss_cons (ps_for PassesOwn.never rfl (pi_list (pe_lst (pa_cons (pe_dget hu (pe_fld (pv 0) rfl) (pe_ix ix_list (pv 1) (pe_un un_neg pe_int) (fun _ _ => rfl)) (fun _ _ => rfl)) (StX.pa_star (pe_lc rfl scFS.nd (pi_list (pv 3)) (own := [("first", 6), ("second", 7)]) (g := gTup K 2 (gCons (gName 6) (gCons (gName 7) gNil))) (blkOk_by (by kernel_rfl)) (fun _ _ _ _ _ => (pg_tup rfl (pgs_cons (pg_name (i := 6) scFS.nd rfl (.inl rfl)) (pgs_cons (pg_name (i := 7) scFS.nd rfl (.inl rfl)) pgs_nil)))) (fun _ _ _ _ _ => pts_nil) (fun _ _ _ _ _ => pe_mt A5 hr (by decide) (pv 0) (pa_cons (pv 6) (pa_cons (pv 7) pa_nil)))) pa_nil)))) (pg_name (i := 5) scFS.nd rfl (.inl rfl))
        (pss_one (ps_if (pt_val (pe_mt U hr (by decide) (pv 5) (pa_cons (pv 4) pa_nil))) (pss_one (ps_set (i := 4) scFS.nd rfl (.inl rfl) (pv 5))) pss_nil)))
      (pss_cons (ps_for PassesOwn.never rfl (pi_list (pv 2)) (pg_tup rfl (pgs_cons (pg_name (i := 6) scFS.nd rfl (.inl rfl)) (pgs_cons (pg_name (i := 7) scFS.nd rfl (.inl rfl)) pgs_nil)))
        (pss_one (ps_dput hu (pe_fld (pv 0) rfl) (pe_tup (pa_cons (pv 6) (pa_cons (pv 7) pa_nil))) (pe_op (add_of Ad hr4 T.sf) (pe_mt A5 hr (by decide) (pv 0) (pa_cons (pv 6) (pa_cons (pv 7) pa_nil))) (pv 4)) rfl)))
      (pss_cons (ps_for PassesOwn.never rfl (pi_list (pv 3)) (pg_tup rfl (pgs_cons (pg_name (i := 6) scFS.nd rfl (.inl rfl)) (pgs_cons (pg_name (i := 7) scFS.nd rfl (.inl rfl)) pgs_nil)))
        (pss_one (ps_dput hu (pe_fld (pv 0) rfl) (pe_tup (pa_cons (pv 6) (pa_cons (pv 7) pa_nil))) (pe_op (sub_of Su hr4 T.sf) (pe_mt A5 hr (by decide) (pv 0) (pa_cons (pv 6) (pa_cons (pv 7) pa_nil))) (pv 4)) rfl)))
      (pss_cons (ps_dput hu (pe_fld (pv 0) rfl) (pe_ix ix_list (pv 1) pe_int (fun _ _ => rfl)) (pe_op (sub_of Su hr4 T.sf) (pe_dget hu (pe_fld (pv 0) rfl) (pe_ix ix_list (pv 1) pe_int (fun _ _ => rfl)) (fun _ _ => rfl)) (pv 4)) rfl)
      (pss_one (ps_dput hu (pe_fld (pv 0) rfl) (pe_ix ix_list (pv 1) (pe_un un_neg pe_int) (fun _ _ => rfl)) (pe_op (sub_of Su hr4 T.sf) (pe_dget hu (pe_fld (pv 0) rfl) (pe_ix ix_list (pv 1) (pe_un un_neg pe_int) (fun _ _ => rfl)) (fun _ _ => rfl)) (pv 4)) rfl)))))))), ?_⟩
    obtain ⟨dxf, hfl0⟩ := id hfl
    obtain ⟨lf, hl1, hl2⟩ := id hl
    obtain ⟨rm, hh1, hh2⟩ := id hh
    have pk : p.1 ∈ kl := (wy.ups p List.mem_cons_self).1
    have lk : lastS p r ∈ kh := (wy.ups _ (List.getLast_mem (List.cons_ne_nil p r))).2.1
    have n8 : (p :: r).length ≤ 8 := by
      have h1 := nodup_le wy.nd (m := kl) fun f hf => by
        obtain ⟨q, hq, rfl⟩ := List.mem_map.mp hf
        exact (wy.ups q hq).1
      rw [List.length_map] at h1
      omega
    have r8 : r.length + 1 = (p :: r).length := rfl
    have hlen : ((flat (p :: r)).map V.str).length = 2 * (p :: r).length := by rw [List.length_map, flat_len]
    have at0 : atI ((flat (p :: r)).map V.str) 0 = some (.str p.1) := atI_nat (j := 0) rfl
    -- ups
    refine ⟨.ref l, rfl, .ref l, _, rfl, .inl ⟨_, .inl (.inl hn), rfl⟩, 0, _, 2, (p :: r).length, rfl, by rw [hlen]; exact rgc0 _ n8, fun la nla => ?_⟩
    refine lc_pairs (p :: r) walk_rangeC (fun _ => true) (fun q => q) (by omega) nla (fun _ _ => trivial) (fun i q v H1 H2 Nx hi e1 ⟨eH, eV⟩ hacc ⟨acc0, _⟩ k1 _ => ?_) (fun H1 e1 la1 => ?_)
    · subst eH
      subst eV
      obtain ⟨g1, g2⟩ := flat_at _ _ _ hi
      have hn1 := hn.same e1
      refine ⟨rfl, lcY ?_⟩
      refine ⟨.ref l, rfl, _, rfl, l, _, _, .str q.1, rfl, rfl, .inl (.inl hn1), ?_, .ref l, rfl, _, rfl, _, 1, rfl, rfl, l, _, _, .str q.2, rfl, rfl, .inl (.inl hn1), ?_, (by show 2 ≤ sizeLine; decide), fun t nt => ?_⟩
      · rw [show (0 + (i : Int) * 2) = ((2 * i : Nat) : Int) by omega]
        exact atI_nat (by rw [List.getElem?_map, g1]; rfl)
      · show atI _ ((0 + (i : Int) * 2) + 1) = _
        rw [show ((0 + (i : Int) * 2) + 1) = ((2 * i + 1 : Nat) : Int) by omega]
        exact atI_nat (by rw [List.getElem?_map, g2]; rfl)
      · obtain ⟨acc, hD, ha⟩ := ‹∃ acc, H2 la = some (.lst acc) ∧ acc.length < sizeLine›
        have s2 : Same H2 (upd H2 t (.tup [.str q.1, .str q.2])) := same_new nt
        exact ⟨acc, s2 _ _ hD, ha, k1 rfl _ t acc s2 upd_same (s2 _ _ hD)⟩
    rw [List.filter_eq_self.mpr (fun _ _ => rfl), List.map_id'] at la1
    -- downs
    have hn1 := hn.same e1
    refine ⟨.ref l, rfl, .ref l, _, rfl, .inl ⟨_, .inl (.inl hn1), rfl⟩, _, 1, rfl, rfl, 1, _, 2, (downs (p :: r)).length, rfl, by rw [hlen, downs_len, ← r8]; exact rgc1 _ (by omega), fun lb nlb => ?_⟩
    refine lc_pairs (downs (p :: r)) walk_rangeC (fun _ => true) (fun q => q) (by rw [downs_len]; omega) nlb (fun _ _ => trivial) (fun i d v H2 H3 Nx hi e2 ⟨eH, eV⟩ hacc hex k1 _ => ?_) (fun H2 e2 lb2 => ?_)
    · subst eH
      subst eV
      obtain ⟨q1, q2, i1, i2, rfl⟩ := downs_at _ _ _ _ hi
      obtain ⟨-, g2⟩ := flat_at _ _ _ i1
      obtain ⟨g1, -⟩ := flat_at _ _ _ i2
      have hn2 := hn1.same e2
      refine ⟨rfl, lcY ?_⟩
      refine ⟨.ref l, rfl, _, rfl, _, 1, rfl, rfl, l, _, _, .str q2.1, rfl, rfl, .inl (.inl hn2), ?_, .ref l, rfl, _, rfl, l, _, _, .str q1.2, rfl, rfl, .inl (.inl hn2), ?_, (by show 2 ≤ sizeLine; decide), fun t nt => ?_⟩
      · show atI _ ((1 + (i : Int) * 2) + 1) = _
        rw [show ((1 + (i : Int) * 2) + 1) = ((2 * (i + 1) : Nat) : Int) by omega]
        exact atI_nat (by rw [List.getElem?_map, g1]; rfl)
      · rw [show (1 + (i : Int) * 2) = ((2 * i + 1 : Nat) : Int) by omega]
        exact atI_nat (by rw [List.getElem?_map, g2]; rfl)
      · obtain ⟨acc, hD, ha⟩ := hex
        have s2 : Same H3 (upd H3 t (.tup [.str q2.1, .str q1.2])) := same_new nt
        exact ⟨acc, s2 _ _ hD, ha, k1 rfl _ t acc s2 upd_same (s2 _ _ hD)⟩
    rw [List.filter_eq_self.mpr (fun _ _ => rfl), List.map_id'] at lb2
    -- least
    have e12 := e1.trans e2
    have hn2 := hn1.same e2
    refine ⟨.ref fl, rfl, fl, a.F, dxf, _, _, rfl, e12 _ _ hfl0, T.clF, T.f2, flF_left _ _ _ _, .ref l, rfl, l, _, 0, .str p.1, rfl, rfl, .inl (.inl hn2), at0, dl, .ref (lf p.1), rfl, .inl ⟨_, .inr p.1, .inl (e12 _ _ hl1), rfl, (SK_in (f := fun x => .ref (lf x)) pk).symm⟩, ?_⟩
    refine ⟨.ref fl, rfl, fl, a.F, dxf, _, _, rfl, e12 _ _ hfl0, T.clF, T.f3, flF_room _ _ _ _, .ref l, rfl, 1, rfl, l, _, -1, .str (lastS p r), rfl, rfl, .inl (.inl hn2), flat_last p r, dr, .ref (rm (lastS p r)), rfl, .inl ⟨_, .inr (lastS p r), .inl (e12 _ _ hh1), rfl, (SK_in (f := fun x => .ref (rm x)) lk).symm⟩, ?_⟩
    obtain ⟨xb, hxb, pb⟩ := id lb2
    refine ⟨.ref lb, rfl, lb, rfl, ⟨_, .inl (.inl hxb)⟩, fun lq nlq => ?_⟩
    refine lc_it (walk_list (xs := xb)) (fun i H' => ∃ al : List (Addr × Int), Same H2 H' ∧ H' lq = some (.lst (al.map fun b => V.ref b.1)) ∧ al.map (·.2) = ((downs (p :: r)).take i).map (fun d => st.amt d.1 d.2) ∧ ∀ b ∈ al, IsR a H' b.1 (fr D b.2))
      ⟨[], same_new nlq, upd_same, rfl, (by intro b hb; cases hb)⟩ ?_ ?_ ?_
    · rintro i H' _ ⟨al, e, _⟩
      exact .inl (.inl (e _ _ hxb))
    · rintro i v _ H' hi ⟨al, e, hq, hv, hr⟩ ⟨rfl, ev⟩
      obtain ⟨⟨d1, d2⟩, hd, t1, rfl, ht1⟩ := paired_get pb ev
      have e3 := e12.trans e
      refine ⟨t1, _, rfl, .inl (.inl (e _ _ ht1)), rfl, _, _, rfl, _, _, rfl, rfl, rfl, lcY ?_⟩
      refine ⟨.ref fl, rfl, fl, dxf, _, rfl, e3 _ _ hfl0, flF_not _ _ _ _ (by decide +kernel), .str d1, rfl, .str d2, rfl, fl, o, dl, dr, da, kl, kh, D, st.amt, d1, d2, rfl, ⟨dxf, e3 _ _ hfl0⟩, ha.same e3, fun rr H8 e8 hr8 => ?_⟩
      have ql : al.length ≤ 8 := by
        have := congrArg List.length hv
        rw [List.length_map, List.length_map, List.length_take, downs_len] at this
        omega
      refine ⟨_, e8 _ _ hq, by rw [List.length_map]; exact smallL (by omega), al ++ [(rr, st.amt d1 d2)], Same.mut (e.trans e8) nlq, ?_, ?_, ?_⟩
      · rw [upd_same, List.map_append]
        rfl
      · rw [List.map_append, hv, List.take_succ, hd, List.map_append]
        rfl
      · have ni : NotIns H8 lq := fun C dx fs z => by rw [e8 _ _ hq] at z; cases z
        intro b hb
        rcases List.mem_append.mp hb with h | h
        · exact ((hr b h).same e8).upd ni _
        · rw [List.mem_singleton] at h
          subst h
          exact hr8.upd ni _
    rintro H3 ⟨al, e3, hq, hv, hra⟩
    rw [← pb.length.symm, List.take_length] at hv
    have e13 := e12.trans e3
    refine ⟨lq, _, rfl, .inr (.inl (.inl hq)), ?_, fun lz nlz => ?_⟩
    · have := congrArg List.length hv
      rw [List.length_map, List.length_map, downs_len] at this
      rw [List.length_cons, List.append_nil, List.length_map]
      exact small (by omega)
    obtain ⟨bl, hbl⟩ : ∃ bl : List (Addr × Int), bl = (rm (lastS p r), st.room (lastS p r)) :: al := ⟨_, rfl⟩
    have hxs : (V.ref (rm (lastS p r)) :: (al.map (fun b => V.ref b.1) ++ [])) = bl.map fun b => V.ref b.1 := by rw [hbl, List.append_nil]; rfl
    rw [hxs]
    have hrb : ∀ b ∈ bl, IsR a H3 b.1 (fr D b.2) := fun b hb => by
      rw [hbl] at hb
      rcases List.mem_cons.mp hb with rfl | h
      · exact (hh2 _ lk).same e13
      · exact hra b h
    have hvb : ∀ m, (m ∈ bl.map (·.2)) ↔ m = st.room (lastS p r) ∨ ∃ d ∈ downs (p :: r), m = st.amt d.1 d.2 := fun m => by
      rw [hbl, List.map_cons, hv, List.mem_cons, List.mem_map]
      constructor
      · rintro (h | ⟨d, h1, h2⟩)
        · exact .inl h
        · exact .inr ⟨d, h1, h2.symm⟩
      · rintro (h | ⟨d, h1, h2⟩)
        · exact .inl h
        · exact .inr ⟨d, h1, h2.symm⟩
    have e14 : Same H (upd H3 lz (.lst (bl.map fun b => V.ref b.1))) := e13.trans (same_new nlz)
    have hz4 : upd H3 lz (.lst (bl.map fun b => V.ref b.1)) lz = some (.lst (bl.map fun b => V.ref b.1)) := upd_same
    have e34 : Same H3 (upd H3 lz (.lst (bl.map fun b => V.ref b.1))) := same_new nlz
    have hrb4 : ∀ b ∈ bl, IsR a (upd H3 lz (.lst (bl.map fun b => V.ref b.1))) b.1 (fr D b.2) := fun b hb => (hrb b hb).same e34
    have la4 := ((la1.same e2).same e3).same e34
    have lb4 := (lb2.same e3).same e34
    generalize upd H3 lz (.lst (bl.map fun b => V.ref b.1)) = H4 at e14 hz4 hrb4 la4 lb4
    refine ⟨lz, rfl, ⟨_, .inl (.inl hz4)⟩, ?_⟩
    refine for_it (walk_list (xs := bl.map fun b => V.ref b.1)) (fun i σ H' => ∃ (rl : Addr) (v5 v6 v7 v8 : Option V) (m : Int), σ = [some (.ref fl), some (.ref l), some (.ref la), some (.ref lb), some (.ref rl), v5, v6, v7, v8] ∧ Same H4 H' ∧ IsR a H' rl (fr D m) ∧ m ≤ st.left p.1 ∧ (∀ z ∈ (bl.map (·.2)).take i, m ≤ z) ∧ (m = st.left p.1 ∨ m ∈ bl.map (·.2)))
      ⟨lf p.1, _, _, _, _, st.left p.1, rfl, fun _ _ e => e, (hl2 _ pk).same e14, Int.le_refl _, (by intro z hz; cases hz), .inl rfl⟩ ?_ ?_ ?_
    · rintro i σ H' _ ⟨rl, v5, v6, v7, v8, m, rfl, e, _⟩
      exact .inl (.inl (e _ _ hz4))
    · rintro i v σ _ H' hi ⟨rl, v5, v6, v7, v8, m, rfl, e, ⟨dr1, hr1⟩, m1, m2, m3⟩ ⟨rfl, ev⟩
      obtain ⟨⟨b, z⟩, hb, rfl⟩ := get_map ev
      have et : (bl.map (·.2)).take (i + 1) = (bl.map (·.2)).take i ++ [z] := by rw [List.take_succ, List.getElem?_map, hb]; rfl
      obtain ⟨db, hb1⟩ := (hrb4 _ (List.mem_of_getElem? hb)).same e
      refine ⟨.ref b, rfl, b, db, _, rfl, hb1, ratF_no _ (by decide +kernel) (by decide +kernel), .ref rl, rfl, b, rl, _, _, rfl, ⟨db, hb1⟩, ⟨dr1, hr1⟩, fr_okD D0 DD _ _, _, rfl, ?_⟩
      by_cases c : z < m
      · rw [decide_eq_true ((fr_lt D0 _ _).mpr c)]
        refine iteT ?_
        refine ⟨.ref b, rfl, b, _, _, _, _, z, rfl, e, ⟨db, hb1⟩, by omega, fun t ht => ?_, .inr (List.mem_map.mpr ⟨_, List.mem_of_getElem? hb, rfl⟩)⟩
        rw [et] at ht
        rcases List.mem_append.mp ht with h | h
        · have := m2 t h
          omega
        · rw [List.mem_singleton] at h
          omega
      · rw [decide_eq_false (fun h => c ((fr_lt D0 _ _).mp h))]
        refine iteF ?_
        refine ⟨rl, _, _, _, _, m, rfl, e, ⟨dr1, hr1⟩, m1, fun t ht => ?_, m3⟩
        rw [et] at ht
        rcases List.mem_append.mp ht with h | h
        · exact m2 t h
        · rw [List.mem_singleton] at h
          omega
    rintro σ H5 ⟨rl, v5, v6, v7, v8, m, rfl, e5, hrl, m1, m2, m3⟩
    rw [List.length_map, ← List.length_map (f := fun b : Addr × Int => b.2), List.take_length] at m2
    have mlast : m ≤ st.room (lastS p r) := m2 _ ((hvb _).mpr (.inl rfl))
    have mdown : ∀ d ∈ downs (p :: r), m ≤ st.amt d.1 d.2 := fun d hd => m2 _ ((hvb _).mpr (.inr ⟨d, hd, rfl⟩))
    have mone : m = st.left p.1 ∨ m = st.room (lastS p r) ∨ ∃ d ∈ downs (p :: r), m = st.amt d.1 d.2 := m3.elim .inl fun h => .inr ((hvb _).mp h)
    have e15 := e14.trans e5
    obtain ⟨xa, hxa5, pa5⟩ := la4.same e5
    obtain ⟨xb5, hxb5, pb5⟩ := lb4.same e5
    have SB0 : SB a H H5 fl l la lb rl o dl dr da kl kh D (flat (p :: r)) xa xb5 (p :: r) (downs (p :: r)) m st.left st.room st.amt := ⟨Keep.of e15, hfl.same e15, hl.same e15, hh.same e15, ha.same e15, hrl, hxa5, pa5, hxb5, pb5, hn.same e15⟩
    have ll8 : kl.length ≤ 1000 ∧ kh.length ≤ 1000 := ⟨by omega, by omega⟩
    clear hrb4 hz4 hrb la4 lb4 hra hv hq hvb hxs hbl m2 m3 e34 nlz nlq
    -- the amounts go up
    have upk : ∀ q ∈ p :: r, q.1 ∈ kl ∧ q.2 ∈ kh := fun q hq => ⟨(wy.ups q hq).1, (wy.ups q hq).2.1⟩
    have dnk : ∀ q ∈ downs (p :: r), q.1 ∈ kl ∧ q.2 ∈ kh := fun q hq => supp _ _ (wy.dns q hq)
    refine ⟨.ref la, rfl, la, rfl, ⟨_, .inl (.inl SB0.ua)⟩, ?_⟩
    refine for_it (walk_list (xs := xa)) (fun i σ H' => ∃ (v5 v6 v7 v8 : Option V), σ = [some (.ref fl), some (.ref l), some (.ref la), some (.ref lb), some (.ref rl), v5, v6, v7, v8] ∧
        SB a H H' fl l la lb rl o dl dr da kl kh D (flat (p :: r)) xa xb5 (p :: r) (downs (p :: r)) m st.left st.room (fun x y => st.amt x y + m * cntP ((p :: r).take i) x y))
      ⟨_, _, _, _, rfl, by
        have e : (fun x y => st.amt x y + m * cntP ((p :: r).take 0) x y) = st.amt := by
          funext x y
          rw [List.take_zero, show cntP ([] : List (Str × Str)) x y = 0 from rfl]
          omega
        rw [e]
        exact SB0⟩ ?_ ?_ ?_
    · rintro i σ H' _ ⟨v5, v6, v7, v8, rfl, B⟩
      exact .inl (.inl B.ua)
    · rintro i v σ _ H' hi ⟨v5, v6, v7, v8, rfl, B⟩ ⟨rfl, ev⟩
      obtain ⟨⟨x, y⟩, hq, t1, rfl, ht1⟩ := paired_get B.pa ev
      have hqm := List.mem_of_getElem? hq
      refine ⟨t1, _, rfl, .inl (.inl ht1), rfl, _, _, rfl, _, _, rfl, rfl, ?_⟩
      obtain ⟨dx1, f1⟩ := B.fo
      refine ⟨.ref fl, rfl, fl, dx1, _, rfl, f1, flF_not _ _ _ _ (by decide +kernel), .str x, rfl, .str y, rfl, fl, o, dl, dr, da, kl, kh, D, _, x, y, rfl, B.fo, B.am, fun r1 H6 e6 hr1 => ?_⟩
      have B6 := B.to e6
      obtain ⟨d1, g1⟩ := hr1
      obtain ⟨d2, g2⟩ := B6.lr
      refine ⟨.ref rl, rfl, r1, rl, d1, d2, _, _, rfl, rfl, g1, g2, r1, rl, _, _, rfl, ⟨d1, g1⟩, ⟨d2, g2⟩, fr_okD D0 DD _ _, fun r2 H7 n2 e7 hr2 => ?_⟩
      simp only [fr_add] at hr2
      have B7 := B6.to e7
      refine ⟨.ref fl, rfl, fl, a.F, dx1, _, _, rfl, e7 _ _ (e6 _ _ f1), T.clF, T.f4, flF_amt _ _ _ _, .str x, rfl, .str y, rfl, (by show 2 ≤ sizeLine; decide), fun t nt => ?_⟩
      have B8 := B7.to (same_new (o := .tup [.str x, .str y]) nt)
      obtain ⟨H8, dp, B9⟩ := B8.putA (q := (x, y)) (upk _ hqm).1 (upk _ hqm).2 (hr2.same (same_new nt)) (t := t) upd_same ll8
      refine ⟨da, H8, rfl, dp, _, _, _, _, rfl, ?_⟩
      have eg : (fun x' y' => if (x', y') = (x, y) then st.amt x y + m * cntP ((p :: r).take i) x y + m else st.amt x' y' + m * cntP ((p :: r).take i) x' y') = fun x' y' => st.amt x' y' + m * cntP ((p :: r).take (i + 1)) x' y' := by
        funext x' y'
        rw [List.take_succ, hq, Option.toList, cntP_snoc]
        by_cases c : (x', y') = (x, y)
        · obtain ⟨rfl, rfl⟩ := Prod.mk.inj c
          rw [if_pos rfl, if_pos ⟨rfl, rfl⟩, Int.mul_add, Int.mul_one]
          omega
        · rw [if_neg c, if_neg (fun h => c (Prod.ext h.1.symm h.2.symm)), Int.add_zero]
      rw [eg] at B9
      exact B9
    rintro σ H9 ⟨v5, v6, v7, v8, rfl, SB1⟩
    rw [SB1.pa.length, List.take_length] at SB1
    -- and down
    refine ⟨.ref lb, rfl, lb, rfl, ⟨_, .inl (.inl SB1.ub)⟩, ?_⟩
    refine for_it (walk_list (xs := xb5)) (fun i σ H' => ∃ (v5 v6 v7 v8 : Option V), σ = [some (.ref fl), some (.ref l), some (.ref la), some (.ref lb), some (.ref rl), v5, v6, v7, v8] ∧
        SB a H H' fl l la lb rl o dl dr da kl kh D (flat (p :: r)) xa xb5 (p :: r) (downs (p :: r)) m st.left st.room (fun x y => st.amt x y + m * cntP (p :: r) x y - m * cntP ((downs (p :: r)).take i) x y))
      ⟨_, _, _, _, rfl, by
        have e : (fun x y => st.amt x y + m * cntP (p :: r) x y - m * cntP ((downs (p :: r)).take 0) x y) = fun x y => st.amt x y + m * cntP (p :: r) x y := by
          funext x y
          rw [List.take_zero, show cntP ([] : List (Str × Str)) x y = 0 from rfl]
          omega
        rw [e]
        exact SB1⟩ ?_ ?_ ?_
    · rintro i σ H' _ ⟨v5, v6, v7, v8, rfl, B⟩
      exact .inl (.inl B.ub)
    · rintro i v σ _ H' hi ⟨v5, v6, v7, v8, rfl, B⟩ ⟨rfl, ev⟩
      obtain ⟨⟨x, y⟩, hq, t1, rfl, ht1⟩ := paired_get B.pb ev
      have hqm := List.mem_of_getElem? hq
      refine ⟨t1, _, rfl, .inl (.inl ht1), rfl, _, _, rfl, _, _, rfl, rfl, ?_⟩
      obtain ⟨dx1, f1⟩ := B.fo
      refine ⟨.ref fl, rfl, fl, dx1, _, rfl, f1, flF_not _ _ _ _ (by decide +kernel), .str x, rfl, .str y, rfl, fl, o, dl, dr, da, kl, kh, D, _, x, y, rfl, B.fo, B.am, fun r1 H6 e6 hr1 => ?_⟩
      have B6 := B.to e6
      obtain ⟨d1, g1⟩ := hr1
      obtain ⟨d2, g2⟩ := B6.lr
      refine ⟨.ref rl, rfl, r1, rl, d1, d2, _, _, rfl, rfl, g1, g2, r1, rl, _, _, rfl, ⟨d1, g1⟩, ⟨d2, g2⟩, fr_okD D0 DD _ _, fun r2 H7 n2 e7 hr2 => ?_⟩
      simp only [fr_sub] at hr2
      have B7 := B6.to e7
      refine ⟨.ref fl, rfl, fl, a.F, dx1, _, _, rfl, e7 _ _ (e6 _ _ f1), T.clF, T.f4, flF_amt _ _ _ _, .str x, rfl, .str y, rfl, (by show 2 ≤ sizeLine; decide), fun t nt => ?_⟩
      have B8 := B7.to (same_new (o := .tup [.str x, .str y]) nt)
      obtain ⟨H8, dp, B9⟩ := B8.putA (q := (x, y)) (dnk _ hqm).1 (dnk _ hqm).2 (hr2.same (same_new nt)) (t := t) upd_same ll8
      refine ⟨da, H8, rfl, dp, _, _, _, _, rfl, ?_⟩
      have eg : (fun x' y' => if (x', y') = (x, y) then st.amt x y + m * cntP (p :: r) x y - m * cntP ((downs (p :: r)).take i) x y - m else st.amt x' y' + m * cntP (p :: r) x' y' - m * cntP ((downs (p :: r)).take i) x' y') = fun x' y' => st.amt x' y' + m * cntP (p :: r) x' y' - m * cntP ((downs (p :: r)).take (i + 1)) x' y' := by
        funext x' y'
        rw [List.take_succ, hq, Option.toList, cntP_snoc]
        by_cases c : (x', y') = (x, y)
        · obtain ⟨rfl, rfl⟩ := Prod.mk.inj c
          rw [if_pos rfl, if_pos ⟨rfl, rfl⟩, Int.mul_add, Int.mul_one]
          omega
        · rw [if_neg c, if_neg (fun h => c (Prod.ext h.1.symm h.2.symm)), Int.add_zero]
      rw [eg] at B9
      exact B9
    rintro σ H10 ⟨v5, v6, v7, v8, rfl, B⟩
    rw [B.pb.length, List.take_length] at B
    -- left and room
    obtain ⟨dx1, f1⟩ := B.fo
    obtain ⟨lf2, L1, L2'⟩ := B.le
    obtain ⟨d1, g1⟩ := L2' _ pk
    obtain ⟨d2, g2⟩ := B.lr
    refine ⟨.ref fl, rfl, fl, a.F, dx1, _, _, rfl, f1, T.clF, T.f2, flF_left _ _ _ _, .ref l, rfl, l, _, 0, .str p.1, rfl, rfl, .inl (.inl B.nm), at0, dl, .ref (lf2 p.1), rfl, .inl ⟨_, .inr p.1, .inl L1, rfl, (SK_in (f := fun x => .ref (lf2 x)) pk).symm⟩,
      .ref rl, rfl, lf2 p.1, rl, d1, d2, _, _, rfl, rfl, g1, g2, lf2 p.1, rl, _, _, rfl, ⟨d1, g1⟩, ⟨d2, g2⟩, fr_okD D0 DD _ _, fun r2 H11 n2 e11 hr2 => ?_⟩
    simp only [fr_sub] at hr2
    have B11 := B.to e11
    obtain ⟨H12, dp, B12⟩ := B11.putL dlr pk (by omega) hr2
    refine ⟨.ref fl, rfl, fl, a.F, dx1, _, _, rfl, e11 _ _ f1, T.clF, T.f2, flF_left _ _ _ _, .ref l, rfl, l, _, 0, .str p.1, rfl, rfl, .inl (.inl B11.nm), at0, dl, H12, rfl, dp, ?_⟩
    obtain ⟨dx2, f2⟩ := B12.fo
    obtain ⟨rm2, R1, R2'⟩ := B12.ro
    obtain ⟨d3, g3⟩ := R2' _ lk
    obtain ⟨d4, g4⟩ := B12.lr
    have atl := flat_last p r
    refine ⟨.ref fl, rfl, fl, a.F, dx2, _, _, rfl, f2, T.clF, T.f3, flF_room _ _ _ _, .ref l, rfl, 1, rfl, l, _, -1, .str (lastS p r), rfl, rfl, .inl (.inl B12.nm), atl, dr, .ref (rm2 (lastS p r)), rfl, .inl ⟨_, .inr (lastS p r), .inl R1, rfl, (SK_in (f := fun x => .ref (rm2 x)) lk).symm⟩,
      .ref rl, rfl, rm2 (lastS p r), rl, d3, d4, _, _, rfl, rfl, g3, g4, rm2 (lastS p r), rl, _, _, rfl, ⟨d3, g3⟩, ⟨d4, g4⟩, fr_okD D0 DD _ _, fun r3 H13 n3 e13' hr3 => ?_⟩
    simp only [fr_sub] at hr3
    have B13 := B12.to e13'
    obtain ⟨H14, dp2, B14⟩ := B13.putR dlr lk (by omega) hr3
    refine ⟨.ref fl, rfl, fl, a.F, dx2, _, _, rfl, e13' _ _ f2, T.clF, T.f3, flF_room _ _ _ _, .ref l, rfl, 1, rfl, l, _, -1, .str (lastS p r), rfl, rfl, .inl (.inl B13.nm), atl, dr, H14, rfl, dp2, ?_⟩
    have el : (fun y => if y = p.1 then st.left p.1 - m else st.left y) = (sent st p r m).left := by
      funext y
      show _ = if y = p.1 then st.left y - m else st.left y
      by_cases c : y = p.1
      · rw [if_pos c, if_pos c, c]
      · rw [if_neg c, if_neg c]
    have er : (fun y => if y = lastS p r then st.room (lastS p r) - m else st.room y) = (sent st p r m).room := by
      funext y
      show _ = if y = lastS p r then st.room y - m else st.room y
      by_cases c : y = lastS p r
      · rw [if_pos c, if_pos c, c]
      · rw [if_neg c, if_neg c]
    have h1 := B14.le
    have h2 := B14.ro
    rw [el] at h1
    rw [er] at h2
    exact q H14 m B14.kp B14.fo h1 h2 B14.am ⟨m1, mlast, mdown⟩ mone
end
end OT
end

section
set_option Elab.async false
set_option linter.all false
set_option maxRecDepth 100000
set_option maxHeartbeats 4000000
namespace OT
open PySem PySem.Spec PyProof.Rows L2 OTR
/-! ### pairs of texts in order -/
abbrev encP (p : Str × Str) : PyData := .tuple [.str p.1, .str p.2]
def leP : Str × Str → Str × Str → Bool := PySem.W.dataLe false encP
theorem leP_tot : PySem.W.TotalLe leP := PySem.W.sortLe_total (listOrd itemOrd) false fun b => PySem.W.keyToks (encP b)
theorem encP_inj {p q : Str × Str} (h : PySem.W.keyToks (encP p) = PySem.W.keyToks (encP q)) : p = q := by
  simp only [PySem.W.keyToks, PySem.W.keyToksAll, List.cons_append, List.nil_append, List.cons.injEq, Sum.inr.injEq, and_true, true_and] at h
  obtain ⟨⟨p1⟩, ⟨p2⟩⟩ := p
  obtain ⟨⟨q1⟩, ⟨q2⟩⟩ := q
  obtain ⟨h1, h2⟩ := h
  have h1 := Array.toList_inj.mp h1
  have h2 := Array.toList_inj.mp h2
  simp only at h1 h2
  rw [h1, h2]
theorem leP_anti (p q : Str × Str) (h1 : leP p q = true) (h2 : leP q p = true) : p = q := by
  unfold leP PySem.W.dataLe PySem.W.sortLe at h1 h2
  simp only [cond_false, Bool.not_eq_true'] at h1 h2
  exact encP_inj (KeyOrd.kle_antisymm (O := listOrd itemOrd) h1 h2)
/-- there is one row in order -/
theorem sortP_eq {l m : List (Str × Str)} (hp : l.Perm m) (hl : l.Pairwise fun p q => leP p q = true) : m.mergeSort leP = l := by
  have h1 : (m.mergeSort leP).Pairwise fun p q => leP p q = true := List.pairwise_mergeSort (fun a b c => leP_tot.trans a b c) (fun a b => by
    rcases leP_tot.total a b with h | h
    · rw [h]; rfl
    · rw [h, Bool.or_true]) m
  have h2 : (m.mergeSort leP).Perm l := (List.mergeSort_perm m leP).trans hp.symm
  exact h2.eq_of_pairwise (fun p q _ _ h1 h2 => leP_anti p q h1 h2) h1 hl
/-- sorted items with their pairs -/
theorem sortP_snd {β : Type} (bs : List (β × (Str × Str))) : (bs.mergeSort (PySem.W.dataLe false fun b => encP b.2)).map (·.2) = (bs.map (·.2)).mergeSort leP := by
  have tot : PySem.W.TotalLe (PySem.W.dataLe false fun b : β × (Str × Str) => encP b.2) := PySem.W.sortLe_total (listOrd itemOrd) false fun b : β × (Str × Str) => PySem.W.keyToks (encP b.2)
  refine (sortP_eq ((List.mergeSort_perm bs _).map _) ?_).symm
  rw [List.pairwise_map]
  exact List.pairwise_mergeSort (fun a b c => tot.trans a b c) (fun a b => by
    rcases tot.total a b with h | h
    · rw [h]; rfl
    · rw [h, Bool.or_true]) bs
theorem sortP_pw (m : List (Str × Str)) : (m.mergeSort leP).Pairwise fun p q => leP p q = true := List.pairwise_mergeSort (fun a b c => leP_tot.trans a b c) (fun a b => by
    rcases leP_tot.total a b with h | h
    · rw [h]; rfl
    · rw [h, Bool.or_true]) m
theorem encP_alike (p q : Str × Str) : PySem.W.alike (encP p) (encP q) = true := by
  simp [PySem.W.alike, PySem.W.alikeAll]
theorem encP_depth (p : Str × Str) : (encP p).depth ≤ 8 := by
  simp [encP, PyData.depth, PyData.depthAll]
end OT
end

section
set_option Elab.async false
set_option linter.all false
set_option maxRecDepth 100000
set_option maxHeartbeats 4000000
namespace OT
open PySem PySem.Spec PyProof.Rows L2 OTR
open C8 (Cal Mak Met pe_c pe_mk pe_mt pe_mt0)
section
variable {P : Program} {w : World} {K : PySem.W.Frag} {mg : Str → Option Value} {base : Heap} {a : Ads}
/-! ### check_names of the pairs -/
abbrev sCheckPP : Stmt := top 17
theorem scCheckPP : FnScope ["order", "chances", "chance", "name"] ["order", "chances"] (defScope sCheckPP) := ⟨rfl, rfl, rfl, by decide +kernel, rfl, by decide +kernel, by decide +kernel⟩
def spCheckPP (a : Ads) : Sp := fun vs H Q _ => ∃ (o p : Addr) (sn : List Str) (R : Str → Str → Bool) (cs : List Addr), vs = [.ref o, .ref p] ∧ OrdAt a H o sn R ∧ H p = some (.lst (cs.map V.ref)) ∧ (∀ c ∈ cs, ∃ kl q, ChaAt a H c kl q ∧ ∀ x ∈ kl, x ∈ sn) ∧ ∀ H2, Same H H2 → Q .non H2
theorem ok_CheckPP (T : Fx K mg a) (I : ChaIt P w K mg base a) (C : Met P w K mg base 1 a.O "__contains__" (spOC a) []) (D : DF K mg "check_names_pairs" "check_names" "check_names" sCheckPP ["order", "chances"]) : Cal P w K mg base 5 "check_names_pairs" (spCheckPP a) [] := by
  obtain ⟨fi, fln, fdL, O, IT, LF, FL, bL⟩ := I.ex
  refine cal_of D scCheckPP (fun vs H Q E h => ?_) (fun f cdv A outer s H vs Q E hr h => ?_)
  · obtain ⟨o, p, sn, R, cs, rfl, _⟩ := h
    rfl
  · obtain ⟨o, p, sn, R, cs, rfl, ho, hp, hc, q⟩ := h
    have hr1 : Room 1 (A.deeper (envOfC "check_names" (defScope sCheckPP) s.heap.objs.size f cdv)) := hr.mono (by decide)
    refine ⟨_, pss_one (ps_for PassesOwn.never rfl (pi_list (pv 1)) (pg_name (i := 2) scCheckPP.nd rfl (.inl rfl))
      (pss_one (ps_for PassesOwn.never rfl (pi_list (pe_callTy (call_listOwn rfl O IT LF FL bL hr) (by rfl) T.nList (by decide +kernel) (pa_cons (pv 2) pa_nil))) (pg_name (i := 3) scCheckPP.nd rfl (.inl rfl))
        (pss_one (ps_if (pt_cmpR (nin_of C hr1) (pv 3) (pv 0) (by rfl)) pss_never pss_nil))))), ?_⟩
    refine ⟨.ref p, rfl, p, rfl, ⟨_, .inl (.inl hp)⟩, ?_⟩
    refine for_it (walk_list (xs := cs.map V.ref)) (fun i σ H' => ∃ v2 v3, σ = [some (.ref o), some (.ref p), v2, v3] ∧ Same H H') ⟨_, _, rfl, fun _ _ e => e⟩ ?_ ?_ ?_
    · rintro i σ H' _ ⟨v2, v3, rfl, e⟩
      exact .inl (.inl (e _ _ hp))
    · rintro i v σ _ H' hi ⟨v2, v3, rfl, e⟩ ⟨rfl, e2⟩
      obtain ⟨c, hci, rfl⟩ := get_map e2
      obtain ⟨kl, qf, h1, sub⟩ := hc c (List.mem_of_getElem? hci)
      obtain ⟨dx, d, sd, g1, g2, g3, g4⟩ := h1.same e
      refine ⟨.ref c, rfl, c, dx, _, d, _, rfl, g1, rfl, g2, fun l nl => ?_⟩
      rw [SK_keys]
      refine ⟨l, rfl, ⟨_, .inl (.inl upd_same)⟩, ?_⟩
      refine for_it (walk_list (xs := kl.map V.str)) (fun i σ H' => ∃ v3, σ = [some (.ref o), some (.ref p), some (.ref c), v3] ∧ Same H H' ∧ H' l = some (.lst (kl.map V.str))) ⟨_, rfl, e.trans (same_new nl), upd_same⟩ ?_ ?_ ?_
      · rintro i σ H' _ ⟨v3, rfl, e, h⟩
        exact .inl (.inl h)
      · rintro i v σ _ H' hi ⟨v3, rfl, e, h⟩ ⟨rfl, e2⟩
        obtain ⟨x, hx, rfl⟩ := get_map e2
        obtain ⟨dxo, t, d, td, up, o1, o2, o3, o4⟩ := ho.same e
        refine ⟨.str x, rfl, .ref o, rfl, o, dxo, _, rfl, o1, o, x, sn, R, rfl, ho.same e, _, rfl, _, rfl, ?_⟩
        rw [decide_eq_true (sub x (List.mem_of_getElem? hx))]
        refine iteF ?_
        exact ⟨_, rfl, e, h⟩
      · rintro σ H' ⟨v3, rfl, e, h⟩
        exact ⟨_, _, rfl, e⟩
    · rintro σ H' ⟨v2, v3, rfl, e⟩
      exact q _ e
end
end OT
end

section
set_option Elab.async false
set_option linter.all false
set_option maxRecDepth 100000
set_option maxHeartbeats 4000000
namespace OT
open PySem PySem.Spec PyProof.Rows L2 OTR
open C8 (Cal Mak Met pe_c pe_mk pe_mt pe_mt0)
abbrev Row := Str × Str × Rat
def okRow (sn : List Str) (R : Str → Str → Bool) (r : Row) : Bool := decide (r.1 ∈ sn) && (decide (r.2.1 ∈ sn) && (R r.1 r.2.1 && decide (0 < r.2.2)))
def colF (rows : List Row) (n : Str) : Rat := sumR ((rows.filter fun r => decide (r.1 = n)).map (·.2.2))
def colS (rows : List Row) (n : Str) : Rat := sumR ((rows.filter fun r => decide (r.2.1 = n)).map (·.2.2))
def tableB (sn : List Str) (R : Str → Str → Bool) (ql qh : Str → Rat) (rows : List Row) : Bool := rows.all (okRow sn R) && sn.all fun n => decide (colF rows n = ql n) && decide (colS rows n = qh n)
def VRow (a : Ads) (H : Hp) (v : V) (r : Row) : Prop := ∃ (t b : Addr), v = .ref t ∧ H t = some (.tup [.str r.1, .str r.2.1, .ref b]) ∧ IsR a H b r.2.2
section
variable {P : Program} {w : World} {K : PySem.W.Frag} {mg : Str → Option Value} {base : Heap} {a : Ads}
theorem VRow.same {H H' : Hp} {v : V} {r : Row} (h : VRow a H v r) (e : Same H H') : VRow a H' v r := let ⟨t, b, h1, h2, h3⟩ := h; ⟨t, b, h1, e _ _ h2, h3.same e⟩
/-- at p rows, as a list or as a tuple -/
def RowsAt (a : Ads) (H : Hp) (p : Addr) (rows : List Row) : Prop := ∃ ts : List V, (H p = some (.lst ts) ∨ H p = some (.tup ts)) ∧ Paired (VRow a H) ts rows
theorem RowsAt.same {H H' : Hp} {p : Addr} {rows : List Row} (h : RowsAt a H p rows) (e : Same H H') : RowsAt a H' p rows :=
  let ⟨ts, h1, h2⟩ := h
  ⟨ts, h1.imp (e _ _) (e _ _), L2.Paired.mapP h2 fun _ _ h => h.same e⟩
/-! ### is_pair_table -/
abbrev sIT : Stmt := top 21
abbrev nIT : List Str := ["order", "low", "high", "rows", "first", "second", "share", "name"]
theorem scIT : FnScope nIT ["order", "low", "high", "rows"] (defScope sIT) := ⟨rfl, rfl, rfl, by decide +kernel, rfl, by decide +kernel, by decide +kernel⟩
def spIT (a : Ads) : Sp := fun vs H Q _ => ∃ (o c1 c2 p : Addr) (sn kl kh : List Str) (R : Str → Str → Bool) (ql qh : Str → Rat) (rows : List Row) (M : Nat), vs = [.ref o, .ref c1, .ref c2, .ref p] ∧ OrdAt a H o sn R ∧ ChaAt a H c1 kl ql ∧ ChaAt a H c2 kh qh ∧ (∀ x ∈ kl, x ∈ sn) ∧ (∀ x ∈ kh, x ∈ sn) ∧
  RowsAt a H p rows ∧ rows.length ≤ 1000 ∧ 0 < M ∧ M * M < 1073741824 ∧ (∀ r ∈ rows, Frac M r.2.2) ∧ ∀ H2, Same H H2 → Q (.bl (tableB sn R ql qh rows)) H2
structure SeqWalk (X : Cx) (p : Addr) (ts : List V) (G : Hp → Prop) (wi : TI) (J : It) : Prop where
  pi : ∀ tg pos, PI X tg (.Name "rows" pos) wi
  wi : ∀ σ H R, σ[3]? = some (some (.ref p)) → G H → R J H → wi σ H R
  wk : Walk J ts.length G (YAt ts)
theorem IsR.updL {H : Hp} {p b : Addr} {q : Rat} (h : IsR a H p q) {acc : List V} (n : H b = some (.lst acc)) (o : HO) : IsR a (L2.upd H b o) p q := h.upd (fun C dx fs e => by rw [n] at e; cases e) o
/-- [share for first, second, share in rows if ..] -/
theorem col_lc {ts : List V} {rows : List Row} {J : It} {G : Hp → Prop} (w : Walk J ts.length G (YAt ts)) {g : TG} {tt : TT} {te : TE} {vs : List Nat} {σ : L2.St} {H1 : Hp} {D : Addr} {Qd : Hp → Prop} (pb : Row → Bool) (pr : Paired (VRow a H1) ts rows) (hG : ∀ H, Same H1 H → G H) (nD : H1 D = none) (hl : rows.length ≤ 1000)
    (hs : ∀ (r : Row) (t b : Addr) (H' : Hp) (Nx : Hp → Prop), H' t = some (.tup [.str r.1, .str r.2.1, .ref b]) → (∃ acc, H' D = some (.lst acc) ∧ acc.length < sizeLine) → (pb r = true → ∀ acc, H' D = some (.lst acc) → Nx (upd H' D (.lst (acc ++ [.ref b])))) → (pb r = false → Nx H') →
      g (.ref t) (wipe σ vs) H' fun σ2 H2 => wipe σ2 vs = wipe σ vs ∧ tt σ2 H2 fun b H3 => if b = true then te σ2 H3 fun y H4 => ∃ acc, H4 D = some (.lst acc) ∧ acc.length < sizeLine ∧ Nx (upd H4 D (.lst (acc ++ [y]))) else Nx H3)
    (hd : ∀ H' xs, Same H1 H' → H' D = some (.lst xs) → Paired (VR a H') xs ((rows.filter pb).map (·.2.2)) → Qd H') :
    ∃ W : Nat → Nat → Hp → Prop, (∃ m, W 0 m (upd H1 D (.lst []))) ∧ ∀ i m H, W i m H →
      (J.stop i H ∧ Qd H) ∨ (J.go i H ∧ ∃ Nx : Hp → Prop, (∀ H', Nx H' → ∃ m', m' < m ∧ W (i + 1) m' H') ∧ ∀ x H', J.yld i H x H' → g x (wipe σ vs) H' fun σ2 H2 => wipe σ2 vs = wipe σ vs ∧ tt σ2 H2 fun b H3 =>
        if b = true then te σ2 H3 fun y H4 => ∃ acc, H4 D = some (.lst acc) ∧ acc.length < sizeLine ∧ Nx (upd H4 D (.lst (acc ++ [y]))) else Nx H3) := by
  refine lc_it w (fun i H' => ∃ xs, Same H1 H' ∧ H' D = some (.lst xs) ∧ Paired (VR a H') xs (((rows.take i).filter pb).map (·.2.2))) ⟨[], same_new nD, upd_same, .nil⟩ (fun i H' _ ⟨_, e, _⟩ => hG _ e) ?_ ?_
  · rintro i v _ H' hi ⟨xs, e, hD, hp⟩ ⟨rfl, ev⟩
    obtain ⟨r, hr, t, b, rfl, ht, hb⟩ := paired_get pr ev
    have et : rows.take (i + 1) = rows.take i ++ [r] := by rw [List.take_succ, hr]; rfl
    have len : xs.length < sizeLine := by
      have h1 := hp.length
      have h2 : ((rows.take i).filter pb).length ≤ (rows.take i).length := List.length_filter_le _ _
      rw [List.length_map] at h1
      rw [List.length_take] at h2
      exact smallL (by omega)
    refine hs r t b H' _ (e _ _ ht) ⟨xs, hD, len⟩ (fun hb1 acc ha => ?_) (fun hb1 => ?_)
    · rw [hD] at ha
      injection ha with ha
      injection ha with ha
      subst ha
      refine ⟨_, Same.mut e nD, upd_same, ?_⟩
      rw [et]
      simp only [List.filter_append, List.filter_cons, hb1, if_true, List.filter_nil, List.map_append, List.map_cons, List.map_nil]
      exact (L2.Paired.mapP hp fun _ _ ⟨c, e1, h⟩ => ⟨c, e1, h.updL hD _⟩).snoc ⟨b, rfl, (hb.same e).updL hD _⟩
    · refine ⟨xs, e, hD, ?_⟩
      rw [et]
      simp only [List.filter_append, List.filter_cons, hb1, Bool.false_eq_true, if_false, List.filter_nil, List.append_nil]
      exact hp
  · rintro H' ⟨xs, e, hD, hp⟩
    rw [pr.length, List.take_length] at hp
    exact hd H' xs e hD hp
theorem tableB_row {sn : List Str} {R : Str → Str → Bool} {ql qh : Str → Rat} {rows : List Row} {r : Row} (hr : r ∈ rows) (h : okRow sn R r = false) : tableB sn R ql qh rows = false := by
  unfold tableB
  rw [show rows.all (okRow sn R) = false from by
    rw [List.all_eq_false]
    exact ⟨r, hr, by rw [h]; decide⟩]
  rfl
theorem tableB_sum {sn : List Str} {R : Str → Str → Bool} {ql qh : Str → Rat} {rows : List Row} {n : Str} (hn : n ∈ sn) (h : ¬ (colF rows n = ql n ∧ colS rows n = qh n)) : tableB sn R ql qh rows = false := by
  unfold tableB
  rw [show (sn.all fun n => decide (colF rows n = ql n) && decide (colS rows n = qh n)) = false from by
    rw [List.all_eq_false]
    refine ⟨n, hn, fun h1 => h ?_⟩
    rw [Bool.and_eq_true, decide_eq_true_eq, decide_eq_true_eq] at h1
    exact h1]
  rw [Bool.and_false]
theorem ok_IT (T : Fx K mg a) (CN : Cal P w K mg base 5 "check_names_pairs" (spCheckPP a) []) (To : Cal P w K mg base 5 "total" (spTotal a) []) (W : Who P w K mg base 4 a) (U : Met P w K mg base 1 a.R "under" (spRU a) []) (Eq : Met P w K mg base 1 a.R "__eq__" (spREq a) [])
    (Sh : Met P w K mg base 5 a.C "share" (spCS a) []) (Oc : Met P w K mg base 1 a.O "__contains__" (spOC a) []) (Bl : Met P w K mg base 1 a.O "below" (spOB a) []) (OI : OrdIt P w K mg base a) (D : DF K mg "is_pair_table" "is_pair_table" "is_pair_table" sIT ["order", "low", "high", "rows"]) : Cal P w K mg base 6 "is_pair_table" (spIT a) [] := by
  obtain ⟨fi, O, IT⟩ := OI.ex
  refine cal_of D scIT (fun vs H Q E h => ?_) (fun f cdv A outer s H vs Q E hr h => ?_)
  · obtain ⟨o, c1, c2, p, sn, kl, kh, R, ql, qh, rows, M, rfl, _⟩ := h
    rfl
  · obtain ⟨o, c1, c2, p, sn, kl, kh, R, ql, qh, rows, M, rfl, ho, h1, h2, sl, sh, ⟨ts, hts, pr⟩, hl, M0, MM, hf, q⟩ := h
    have hr1 : Room 1 (A.deeper (envOfC "is_pair_table" (defScope sIT) s.heap.objs.size f cdv)) := hr.mono (by decide)
    have hr2 : Room 2 (A.deeper (envOfC "is_pair_table" (defScope sIT) s.heap.objs.size f cdv)) := hr.mono (by decide)
    obtain ⟨G, wi, J, sw, hG, hG0⟩ : ∃ (G : Hp → Prop) (wi : TI) (J : It), SeqWalk (cxOf CX0 P w K mg base nIT "is_pair_table" (defScope sIT) f cdv A outer s H E).nox p ts G wi J ∧ (∀ H1 H2, G H1 → Same H1 H2 → G H2) ∧ G H := by
      rcases hts with hts | hts
      · exact ⟨fun H => SqL K H p ts, _, _, ⟨fun tg pos => pi_list (pv 3), fun σ H R h g k => ⟨.ref p, h, p, rfl, ⟨ts, g⟩, k⟩, walk_list⟩, fun H1 H2 g e => by
          rcases g with (g | ⟨o, g⟩) | g
          · exact .inl (.inl (e _ _ g))
          · exact .inl (.inr ⟨o, e _ _ g⟩)
          · exact .inr g, .inl (.inl hts)⟩
      · exact ⟨fun H => SqT K H p ts, _, _, ⟨fun tg pos => pi_tup (pv 3), fun σ H R h g k => ⟨.ref p, h, p, rfl, ⟨ts, g⟩, k⟩, walk_tup⟩, fun H1 H2 g e => Same.tseq e g, .inl (.inl hts)⟩
    have TG : ∀ (X : Cx) (k : Nat) (p1 p2 p3 p4 : Pos), True := fun _ _ _ _ _ _ => trivial
    refine ⟨_, pss_cons (ps_expr (pe_c CN hr (by decide) (by rfl) (pa_cons (pv 0) (pa_cons (pe_lst (pa_cons (pv 1) (pa_cons (pv 2) pa_nil))) pa_nil))))
      (pss_cons (ps_for PassesOwn.never rfl (sw.pi _ _) (pg_tup rfl (pgs_cons (pg_name (i := 4) scIT.nd rfl (.inl rfl)) (pgs_cons (pg_name (i := 5) scIT.nd rfl (.inl rfl)) (pgs_cons (pg_name (i := 6) scIT.nd rfl (.inl rfl)) pgs_nil))))
        (pss_cons (ps_if (pw_or (pt_cmpR (nin_of Oc hr1) (pv 4) (pv 0) (by rfl)) (pw_or (pt_cmpR (nin_of Oc hr1) (pv 5) (pv 0) (by rfl)) (pw_or1 (pt_not (pt_val (pe_mt Bl hr (by decide) (pv 0) (pa_cons (pv 4) (pa_cons (pv 5) pa_nil)))))))).pt (pss_one (ps_ret pe_bl)) pss_nil)
        (pss_one (ps_if (pt_not (pt_val (pe_mt U hr (by decide) (pe_whole W hr (by decide) (by rfl) T.mR pe_int) (pa_cons (pv 6) pa_nil)))) (pss_one (ps_ret pe_bl)) pss_nil))))
      (pss_cons (ps_for PassesOwn.never rfl (pi_ownT O IT hr1 (pv 0)) (pg_name (i := 7) scIT.nd rfl (.inr rfl))
        (pss_cons (ps_if (pt_cmpR (dne_of Eq hr2 T.ne T.ob) (pe_c To hr (by decide) (by rfl) (pa_cons (pe_lc rfl scIT.nd (sw.pi _ _) (own := [("first", 4), ("second", 5), ("share", 6)]) (g := gTup K 3 (gCons (gName 4) (gCons (gName 5) (gCons (gName 6) gNil)))) (blkOk_by (by kernel_rfl)) (fun _ _ _ _ _ => pg_tup rfl (pgs_cons (pg_name (i := 4) scIT.nd rfl (.inl rfl)) (pgs_cons (pg_name (i := 5) scIT.nd rfl (.inl rfl)) (pgs_cons (pg_name (i := 6) scIT.nd rfl (.inl rfl)) pgs_nil))))
            (fun _ _ _ _ _ => pts_one (pt_cmpR op_eq (pv 4) (pv 7) (nomark _))) (fun _ _ _ _ _ => pv 6)) pa_nil)) (pe_mt Sh hr (by decide) (pv 1) (pa_cons (pv 7) pa_nil)) (nomark _)) (pss_one (ps_ret pe_bl)) pss_nil)
        (pss_one (ps_if (pt_cmpR (dne_of Eq hr2 T.ne T.ob) (pe_c To hr (by decide) (by rfl) (pa_cons (pe_lc rfl scIT.nd (sw.pi _ _) (own := [("first", 4), ("second", 5), ("share", 6)]) (g := gTup K 3 (gCons (gName 4) (gCons (gName 5) (gCons (gName 6) gNil)))) (blkOk_by (by kernel_rfl)) (fun _ _ _ _ _ => pg_tup rfl (pgs_cons (pg_name (i := 4) scIT.nd rfl (.inl rfl)) (pgs_cons (pg_name (i := 5) scIT.nd rfl (.inl rfl)) (pgs_cons (pg_name (i := 6) scIT.nd rfl (.inl rfl)) pgs_nil))))
            (fun _ _ _ _ _ => pts_one (pt_cmpR op_eq (pv 5) (pv 7) (nomark _))) (fun _ _ _ _ _ => pv 6)) pa_nil)) (pe_mt Sh hr (by decide) (pv 2) (pa_cons (pv 7) pa_nil)) (nomark _)) (pss_one (ps_ret pe_bl)) pss_nil))))
      (pss_one (ps_ret pe_bl)))), ?_⟩
    refine ⟨.ref o, rfl, .ref c1, rfl, .ref c2, rfl, (by show 2 ≤ sizeLine; decide), fun lc nlc => ?_⟩
    have e0 : Same H (upd H lc (.lst [.ref c1, .ref c2])) := same_new nlc
    refine ⟨o, lc, sn, R, [c1, c2], rfl, ho.same e0, upd_same, fun c hc => ?_, fun H1 e1 => ?_⟩
    · rcases List.mem_cons.mp hc with rfl | hc
      · exact ⟨kl, ql, h1.same e0, sl⟩
      · rw [List.mem_singleton] at hc
        subst hc
        exact ⟨kh, qh, h2.same e0, sh⟩
    have e01 := e0.trans e1
    refine sw.wi _ _ _ rfl (hG _ _ hG0 e01) ?_
    refine for_it sw.wk (fun i σ H' => ∃ v4 v5 v6 v7, σ = [some (.ref o), some (.ref c1), some (.ref c2), some (.ref p), v4, v5, v6, v7] ∧ Same H H' ∧ ∀ r ∈ rows.take i, okRow sn R r = true) ⟨_, _, _, _, rfl, e01, (by intro r hr; cases hr)⟩ ?_ ?_ ?_
    · rintro i σ H' _ ⟨v4, v5, v6, v7, rfl, e, _⟩
      exact hG _ _ hG0 e
    · rintro i v σ _ H' hi ⟨v4, v5, v6, v7, rfl, e, okp⟩ ⟨rfl, ev⟩
      obtain ⟨⟨x, y, qq⟩, hri, t, b, rfl, ht, hb⟩ := paired_get pr ev
      have hrm := List.mem_of_getElem? hri
      have et : rows.take (i + 1) = rows.take i ++ [(x, y, qq)] := by rw [List.take_succ, hri]; rfl
      obtain ⟨dxo, t0, d0, td, up, o1, o2, o3, o4⟩ := ho.same e
      refine ⟨t, _, rfl, .inl (.inl (e _ _ ht)), rfl, _, _, rfl, _, _, rfl, _, _, rfl, rfl, ?_⟩
      refine ⟨.str x, rfl, .ref o, rfl, o, dxo, _, rfl, o1, o, x, sn, R, rfl, ho.same e, _, rfl, _, rfl, ?_⟩
      by_cases cx : x ∈ sn
      · rw [decide_eq_true cx]
        refine iteF ?_
        refine ⟨.str y, rfl, .ref o, rfl, o, dxo, _, rfl, o1, o, y, sn, R, rfl, ho.same e, _, rfl, _, rfl, ?_⟩
        by_cases cy : y ∈ sn
        · rw [decide_eq_true cy]
          refine iteF ?_
          refine ⟨.ref o, rfl, o, dxo, _, rfl, o1, rfl, .str x, rfl, .str y, rfl, o, x, y, sn, R, rfl, ho.same e, cx, cy, fun H3 e3 => ⟨_, rfl, ?_⟩⟩
          cases cR : R x y with
          | true =>
            refine iteF ?_
            refine ⟨rfl, 0, rfl, fun r0 H4 n4 e4 hr0 => ?_⟩
            obtain ⟨dr0, g0⟩ := hr0
            have hb4 := ((hb.same e).same e3).same e4
            refine ⟨r0, dr0, _, rfl, g0, ratF_no _ (by decide +kernel) (by decide +kernel), .ref b, rfl, r0, b, _, _, rfl, ⟨dr0, g0⟩, hb4, okD_frac M0 MM (Frac.int M 0) (hf _ hrm), _, rfl, ?_⟩
            rw [show ((0 : Int) : Rat) = 0 from rfl]
            by_cases cq : (0 : Rat) < qq
            · rw [decide_eq_true (show (0 : Rat) < (x, y, qq).2.2 from cq)]
              refine iteF ?_
              refine ⟨_, _, _, _, rfl, (e.trans e3).trans e4, fun r hr => ?_⟩
              rw [et] at hr
              rcases List.mem_append.mp hr with h | h
              · exact okp r h
              · rw [List.mem_singleton] at h
                subst h
                unfold okRow
                rw [decide_eq_true cx, decide_eq_true cy, cR, decide_eq_true cq]
                rfl
            · rw [decide_eq_false (show ¬ (0 : Rat) < (x, y, qq).2.2 from cq)]
              refine iteT ?_
              have := q _ ((e.trans e3).trans e4)
              rw [tableB_row hrm (by unfold okRow; rw [decide_eq_false (show ¬ (0 : Rat) < (x, y, qq).2.2 from cq), Bool.and_false, Bool.and_false, Bool.and_false])] at this
              exact this
          | false =>
            refine iteT ?_
            have := q _ (e.trans e3)
            rw [tableB_row hrm (by unfold okRow; rw [show R (x, y, qq).1 (x, y, qq).2.1 = false from cR, Bool.false_and, Bool.and_false, Bool.and_false])] at this
            exact this
        · rw [decide_eq_false cy]
          refine iteT (iteT ?_)
          have := q _ e
          rw [tableB_row hrm (by unfold okRow; rw [decide_eq_false (show ¬ (x, y, qq).2.1 ∈ sn from cy), Bool.false_and, Bool.and_false])] at this
          exact this
      · rw [decide_eq_false cx]
        refine iteT (iteT ?_)
        have := q _ e
        rw [tableB_row hrm (by unfold okRow; rw [decide_eq_false (show ¬ (x, y, qq).1 ∈ sn from cx), Bool.false_and])] at this
        exact this
    rintro σ H5 ⟨v4, v5, v6, v7, rfl, e5, okr⟩
    rw [pr.length, List.take_length] at okr
    obtain ⟨dxo, t0, d0, td, up, o1, o2, o3, o4⟩ := ho.same e5
    refine ⟨.ref o, rfl, o, dxo, _, t0, sn.map V.str, rfl, o1, rfl, .inl (.inl o2), ?_⟩
    refine for_it (walk_tup (xs := sn.map V.str)) (fun i σ H' => ∃ v4 v5 v6 v7, σ = [some (.ref o), some (.ref c1), some (.ref c2), some (.ref p), v4, v5, v6, v7] ∧ Same H5 H' ∧ ∀ n ∈ sn.take i, colF rows n = ql n ∧ colS rows n = qh n) ⟨_, _, _, _, rfl, fun _ _ e => e, (by intro r hr; cases hr)⟩ ?_ ?_ ?_
    · rintro i σ H' _ ⟨v4, v5, v6, v7, rfl, e, _⟩
      exact .inl (.inl (e _ _ o2))
    · rintro i v σ _ H' hi ⟨v4, v5, v6, v7, rfl, e, okn⟩ ⟨rfl, ev⟩
      obtain ⟨n, hn, rfl⟩ := get_map ev
      have hnm := List.mem_of_getElem? hn
      have et : sn.take (i + 1) = sn.take i ++ [n] := by rw [List.take_succ, hn]; rfl
      have e6 := e5.trans e
      have pr6 := L2.Paired.mapP pr fun _ _ h => h.same e6
      refine sw.wi _ _ _ rfl (hG _ _ hG0 e6) fun D nD => ?_
      refine col_lc (rows := rows) sw.wk (fun r => decide (r.1 = n)) pr6 (fun H2 e2 => hG _ _ hG0 (e6.trans e2)) nD hl (fun r t b H6 Nx ht ⟨acc, ha, hal⟩ k1 k2 => ?_) (fun H6 xs e7 hD hp => ?_)
      · refine ⟨t, _, rfl, .inl (.inl ht), rfl, _, _, rfl, _, _, rfl, _, _, rfl, rfl, rfl, ?_⟩
        refine ⟨.str r.1, rfl, .str n, rfl, rfl, _, rfl, ?_⟩
        by_cases c : r.1 = n
        · rw [decide_eq_true (show V.str r.1 = V.str n by rw [c])]
          refine iteT ?_
          exact ⟨.ref b, rfl, acc, ha, hal, k1 (decide_eq_true c) acc ha⟩
        · rw [decide_eq_false (fun z : V.str r.1 = V.str n => c (by injection z))]
          refine iteF ?_
          exact k2 (decide_eq_false c)
      have hf1 : ∀ q ∈ (rows.filter fun r => decide (r.1 = n)).map (·.2.2), Frac M q := fun q hq => by
        obtain ⟨r, hr, rfl⟩ := List.mem_map.mp hq
        exact hf r (List.mem_filter.mp hr).1
      refine ⟨D, xs, _, M, rfl, hD, hp, M0, MM, hf1, fun rt H7 nr e8 hrt => ?_⟩
      have e68 := (e6.trans e7).trans e8
      obtain ⟨dx1, d1, sd1, g1, g2, g3, g4⟩ := h1.same e68
      refine ⟨.ref c1, rfl, c1, dx1, _, rfl, g1, rfl, .str n, rfl, c1, n, kl, ql, rfl, (h1.same e68).rd, fun rs H8 e9 hrs => ?_⟩
      obtain ⟨d3, k3⟩ := hrt.same e9
      obtain ⟨d4, k4⟩ := hrs
      refine ⟨rt, rs, d3, d4, _, _, rfl, rfl, k3, k4, rt, rs, _, _, rfl, ⟨d3, k3⟩, ⟨d4, k4⟩, _, rfl, _, rfl, ?_⟩
      have e69 := e68.trans e9
      by_cases cf : colF rows n = ql n
      · rw [decide_eq_true (show sumR ((rows.filter fun r => decide (r.1 = n)).map (·.2.2)) = ql n from cf)]
        refine iteF ?_
        have pr9 := L2.Paired.mapP pr fun _ _ h => h.same e69
        refine sw.wi _ _ _ rfl (hG _ _ hG0 e69) fun D nD => ?_
        refine col_lc (rows := rows) sw.wk (fun r => decide (r.2.1 = n)) pr9 (fun H2 e2 => hG _ _ hG0 (e69.trans e2)) nD hl (fun r t b H6 Nx ht ⟨acc, ha, hal⟩ k1 k2 => ?_) (fun H9 xs e10 hD hp => ?_)
        · refine ⟨t, _, rfl, .inl (.inl ht), rfl, _, _, rfl, _, _, rfl, _, _, rfl, rfl, rfl, ?_⟩
          refine ⟨.str r.2.1, rfl, .str n, rfl, rfl, _, rfl, ?_⟩
          by_cases c : r.2.1 = n
          · rw [decide_eq_true (show V.str r.2.1 = V.str n by rw [c])]
            refine iteT ?_
            exact ⟨.ref b, rfl, acc, ha, hal, k1 (decide_eq_true c) acc ha⟩
          · rw [decide_eq_false (fun z : V.str r.2.1 = V.str n => c (by injection z))]
            refine iteF ?_
            exact k2 (decide_eq_false c)
        have hf1 : ∀ q ∈ (rows.filter fun r => decide (r.2.1 = n)).map (·.2.2), Frac M q := fun q hq => by
          obtain ⟨r, hr, rfl⟩ := List.mem_map.mp hq
          exact hf r (List.mem_filter.mp hr).1
        refine ⟨D, xs, _, M, rfl, hD, hp, M0, MM, hf1, fun rt H10 nr e11 hrt => ?_⟩
        have e12 := (e69.trans e10).trans e11
        obtain ⟨dx1, d1, sd1, g1, g2, g3, g4⟩ := h2.same e12
        refine ⟨.ref c2, rfl, c2, dx1, _, rfl, g1, rfl, .str n, rfl, c2, n, kh, qh, rfl, (h2.same e12).rd, fun rs H11 e13 hrs => ?_⟩
        obtain ⟨d3, k3⟩ := hrt.same e13
        obtain ⟨d4, k4⟩ := hrs
        refine ⟨rt, rs, d3, d4, _, _, rfl, rfl, k3, k4, rt, rs, _, _, rfl, ⟨d3, k3⟩, ⟨d4, k4⟩, _, rfl, _, rfl, ?_⟩
        have eH : Same H5 H11 := ((((e.trans e7).trans e8).trans e9).trans e10).trans (e11.trans e13)
        by_cases cs : colS rows n = qh n
        · rw [decide_eq_true (show sumR ((rows.filter fun r => decide (r.2.1 = n)).map (·.2.2)) = qh n from cs)]
          refine iteF ?_
          refine ⟨_, _, _, _, rfl, eH, fun z hz => ?_⟩
          rw [et] at hz
          rcases List.mem_append.mp hz with h | h
          · exact okn z h
          · rw [List.mem_singleton] at h
            subst h
            exact ⟨cf, cs⟩
        · rw [decide_eq_false (show ¬ sumR ((rows.filter fun r => decide (r.2.1 = n)).map (·.2.2)) = qh n from cs)]
          refine iteT ?_
          have := q _ (e12.trans e13)
          rw [tableB_sum hnm (fun h => cs h.2)] at this
          exact this
      · rw [decide_eq_false (show ¬ sumR ((rows.filter fun r => decide (r.1 = n)).map (·.2.2)) = ql n from cf)]
        refine iteT ?_
        have := q _ e69
        rw [tableB_sum hnm (fun h => cf h.1)] at this
        exact this
    · rintro σ H6 ⟨v4, v5, v6, v7, rfl, e6, okn⟩
      rw [List.length_map, List.take_length] at okn
      have := q _ (e5.trans e6)
      rw [show tableB sn R ql qh rows = true from by
        unfold tableB
        rw [List.all_eq_true.mpr okr, Bool.true_and, List.all_eq_true]
        intro n hn
        rw [decide_eq_true (okn n hn).1, decide_eq_true (okn n hn).2]
        rfl] at this
      exact this
end
end OT
end

section
set_option Elab.async false
set_option linter.all false
set_option maxRecDepth 100000
set_option maxHeartbeats 4000000
namespace OT
open PySem PySem.Spec PyProof.Rows L2 OTR
open C8 (Cal Mak Met pe_c pe_mk pe_mt pe_mt0)
section
variable {P : Program} {w : World} {K : PySem.W.Frag} {mg : Str → Option Value} {base : Heap} {a : Ads}
def RowsL (a : Ads) (H : Hp) (p : Addr) (rows : List Row) : Prop := ∃ ts : List V, H p = some (.lst ts) ∧ Paired (VRow a H) ts rows
theorem RowsL.same {H H' : Hp} {p : Addr} {rows : List Row} (h : RowsL a H p rows) (e : Same H H') : RowsL a H' p rows :=
  let ⟨ts, h1, h2⟩ := h
  ⟨ts, e _ _ h1, L2.Paired.mapP h2 fun _ _ h => h.same e⟩
/-- the rows of a flow -/
def rowsOf (D : Nat) (g : Str → Str → Int) (l : List (Str × Str)) : List Row := (l.filter fun p => decide (g p.1 p.2 ≠ 0)).map fun p => (p.1, p.2, fr D (g p.1 p.2))
structure Told (kl kh : List Str) (lo hi : Str → Int) (R : Str → Str → Bool) (D : Nat) (rows : List Row) (s : FS Str) (sk : List (Str × Str)) : Prop where
  ok : FOk kl kh lo hi (RP R) s
  full : sumL kl s.left = 0
  pw : sk.Pairwise fun p q => leP p q = true
  nd : sk.Nodup
  all : ∀ x y, s.amt x y ≠ 0 → (x, y) ∈ sk
  rows : rows = rowsOf D s.amt sk
def PTI (a : Ads) (H : Hp) (o c1 c2 fl dl dr da : Addr) (kl kh : List Str) (D : Nat) (lo hi : Str → Int) (R : Str → Str → Bool) (m : Nat) (σ : L2.St) (H' : Hp) : Prop :=
  ∃ (v : V) (v5 v6 v7 : Option V) (st : FS Str), σ = [some (.ref o), some (.ref c1), some (.ref c2), some (.ref fl), some v, v5, v6, v7] ∧ Same H H' ∧ FlObj a H' fl o dl dr da ∧ LeftAt a H' dl kl D st.left ∧ LeftAt a H' dr kh D st.room ∧ AmtAt a H' da kl kh D st.amt ∧
    FOk kl kh lo hi (RP R) st ∧ m = (sumL kl st.left).toNat ∧ ((∃ l p r, v = .ref l ∧ LstS H' l (flat (p :: r)) ∧ Way kl kh (RP R) st p r) ∨ (v = .non ∧ ∃ S T, Cut kl kh (RP R) st S T))
theorem sumR_fr (D : Nat) (f : Str → Int) : ∀ l : List Str, sumR (l.map fun x => fr D (f x)) = fr D (sumL l f)
  | [] => by rw [sumL_nil, fr_zero]; rfl
  | x :: l => by rw [List.map_cons, sumL_cons, ← fr_add, ← sumR_fr D f l]; rfl
theorem keys_bl {H : Hp} (f : Str × Str → V) : ∀ {ks : List (Str × Str)} {bs : List Addr}, IsKeys H (AK ks f) bs → ∃ bl : List (Addr × (Str × Str)), bl.map (·.1) = bs ∧ bl.map (·.2) = ks ∧ ∀ b ∈ bl, H b.1 = some (.tup [.str b.2.1, .str b.2.2])
  | [], bs, h => by
    cases h
    exact ⟨[], rfl, rfl, by intro b hb; cases hb⟩
  | k :: ks, bs, h => by
    cases h with
    | cons h1 h2 =>
      obtain ⟨bl, e1, e2, e3⟩ := keys_bl f h2
      refine ⟨(_, k) :: bl, by rw [List.map_cons, e1], by rw [List.map_cons, e2], fun b hb => ?_⟩
      rcases List.mem_cons.mp hb with rfl | hb
      · exact h1
      · exact e3 b hb
theorem toNat_dec {z k : Int} (h : 0 < k) (h2 : 0 ≤ z - k) : (z - k).toNat < z.toNat := by omega
theorem same_of_keep {D : Addr → Prop} {H H1 H2 : Hp} (e : Same H H1) (k : Keep D H1 H2) (n : ∀ b, D b → H b = none) : Same H H2 := fun b o h => k b o (e _ _ h) fun d => by
  rw [n b d] at h
  cases h
abbrev sPT : Stmt := top 20
abbrev nPT : List Str := ["order", "low", "high", "flow", "names", "found", "first", "second"]
theorem scPT : FnScope nPT ["order", "low", "high"] (defScope sPT) := ⟨rfl, rfl, rfl, by decide +kernel, rfl, by decide +kernel, by decide +kernel⟩
def spPT (a : Ads) : Sp := fun vs H Q _ => ∃ (o c1 c2 : Addr) (sn kl kh : List Str) (R : Str → Str → Bool) (lo hi : Str → Int) (D : Nat), vs = [.ref o, .ref c1, .ref c2] ∧ OrdAt a H o sn R ∧ ChaAt a H c1 kl (fun x => fr D (lo x)) ∧ ChaAt a H c2 kh (fun x => fr D (hi x)) ∧ (∀ x ∈ kl, x ∈ sn) ∧ (∀ x ∈ kh, x ∈ sn) ∧
  kl.Nodup ∧ kh.Nodup ∧ kl.length ≤ 8 ∧ kh.length ≤ 8 ∧ 0 < D ∧ D * D < 1073741824 ∧ (∀ x ∈ kl, 0 ≤ lo x) ∧ (∀ x ∈ kh, 0 ≤ hi x) ∧
  (∀ H2 l rows s sk, Same H H2 → H l = none → RowsL a H2 l rows → Told kl kh lo hi R D rows s sk → Q (.ref l) H2) ∧
  ∀ H2 s S T, Same H H2 → FOk kl kh lo hi (RP R) s → sumL kl s.left ≠ 0 → Cut kl kh (RP R) s S T → Q .non H2
theorem ok_PT (T : Fx K mg a) (CN : Cal P w K mg base 5 "check_names_pairs" (spCheckPP a) []) (To : Cal P w K mg base 5 "total" (spTotal a) []) (B1 : Met P w K mg base 1 a.R "__bool__" (spRB a) []) (MF : Mak P w K mg base 6 "Flow" a.F (spFI a) []) (Wy : Met P w K mg base 6 a.F "way" (spFW a) []) (Se : Met P w K mg base 6 a.F "send" (spFS a) [])
    (D : DF K mg "pair_table" "pair_table" "pair_table" sPT ["order", "low", "high"]) : Cal P w K mg base 8 "pair_table" (spPT a) [] := by
  refine cal_of D scPT (fun vs H Q E h => ?_) (fun f cdv A outer s H vs Q E hr h => ?_)
  · obtain ⟨o, c1, c2, sn, kl, kh, R, lo, hi, D, rfl, _⟩ := h
    rfl
  · obtain ⟨o, c1, c2, sn, kl, kh, R, lo, hi, D, rfl, ho, h1, h2, sl, sh, ndl, ndh, ll, lh, D0, DD, nlo, nhi, q1, q2⟩ := h
    have hu := hu_of hr
    have hr1 : Room 1 (A.deeper (envOfC "pair_table" (defScope sPT) s.heap.objs.size f cdv)) := hr.mono (by decide)
    refine ⟨_, pss_cons (ps_expr (pe_c CN hr (by decide) (by rfl) (pa_cons (pv 0) (pa_cons (pe_lst (pa_cons (pv 1) (pa_cons (pv 2) pa_nil))) pa_nil))))
      (pss_cons (ps_set (i := 3) scPT.nd rfl (.inl rfl) (pe_mk MF hr (by decide) (by rfl) (pa_cons (pv 0) (pa_cons (pv 1) (pa_cons (pv 2) pa_nil)))))
      (pss_cons (ps_set (i := 4) scPT.nd rfl (.inl rfl) (pe_mt0 Wy hr (by decide) (pv 3)))
      (pss_cons (ps_while PassesOwn.never (pt_cmpR op_notN (pv 4) pe_non (nomark _))
        (pss_cons (ps_expr (pe_mt Se hr (by decide) (pv 3) (pa_cons (pv 4) pa_nil)))
        (pss_one (ps_set (i := 4) scPT.nd rfl (.inl rfl) (pe_mt0 Wy hr (by decide) (pv 3))))))
      (pss_cons (ps_if (pt_ownM B1 hr1 (pe_c To hr (by decide) (by rfl) (pa_cons (pe_listVals rfl (pe_fld (pv 3) rfl) (by rfl) T.nList) pa_nil))) (pss_one (ps_ret pe_non)) pss_nil)
      (pss_cons (ps_set (i := 5) scPT.nd rfl (.inl rfl) (pe_lst pa_nil))
      (pss_cons (ps_for PassesOwn.never rfl (pi_list (pe_callB (cr_sortDat hr.units encP) (by rfl) T.nSorted (by decide +kernel) (pa_cons (pe_callTy (call_list_dT rfl) (by rfl) T.nList (by decide +kernel) (pa_cons (pe_fld (pv 3) rfl) pa_nil)) pa_nil))) (pg_tup rfl (pgs_cons (pg_name (i := 6) scPT.nd rfl (.inl rfl)) (pgs_cons (pg_name (i := 7) scPT.nd rfl (.inl rfl)) pgs_nil)))
        (pss_one (ps_if (pt_ownM B1 hr1 (pe_dget hu (pe_fld (pv 3) rfl) (pe_tup (pa_cons (pv 6) (pa_cons (pv 7) pa_nil))) (fun _ _ => rfl)))
          (pss_one (ps_expr (pe_bm PySem.F.plainAttrs_list PySem.F.slot_list_append PySem.F.type_list_append mt_append (pv 5) (pa_cons (pe_tup (pa_cons (pv 6) (pa_cons (pv 7) (pa_cons (pe_dget hu (pe_fld (pv 3) rfl) (pe_tup (pa_cons (pv 6) (pa_cons (pv 7) pa_nil))) (fun _ _ => rfl)) pa_nil)))) pa_nil)))) pss_nil)))
      (pss_one (ps_ret (pv 5))))))))), ?_⟩
    refine ⟨.ref o, rfl, .ref c1, rfl, .ref c2, rfl, (by show 2 ≤ sizeLine; decide), fun lc nlc => ?_⟩
    have e0 : Same H (upd H lc (.lst [.ref c1, .ref c2])) := same_new nlc
    refine ⟨o, lc, sn, R, [c1, c2], rfl, ho.same e0, upd_same, fun c hc => ?_, fun H1 e1 => ?_⟩
    · rcases List.mem_cons.mp hc with rfl | hc
      · exact ⟨kl, _, h1.same e0, sl⟩
      · rw [List.mem_singleton] at hc
        subst hc
        exact ⟨kh, _, h2.same e0, sh⟩
    have e01 := e0.trans e1
    refine ⟨.ref o, rfl, .ref c1, rfl, .ref c2, rfl, ?_⟩
    intro fl dxf nfl ndf nef
    have sF : Same H1 (upd (upd H1 dxf (.own fl)) fl (.ins a.F dxf [])) := fun b o e => by rw [upd_ne (ne_of_none e nfl), upd_ne (ne_of_none e ndf)]; exact e
    refine ⟨fl, dxf, o, c1, c2, kl, kh, lo, hi, D, rfl, upd_same, (h1.same e01).same sF, (h2.same e01).same sF, ndl, ndh, ll, lh, fun H2 dl dr da kp nl nr na dlr dla dra hfl hl hh ha => ⟨rfl, ?_⟩⟩
    have e12 : Same H1 H2 := mk_same nfl ndf kp
    have e02 := e01.trans e12
    have nlH : H dl = none := Same.none (e01.trans sF) nl
    have nrH : H dr = none := Same.none (e01.trans sF) nr
    have naH : H da = none := Same.none (e01.trans sF) na
    have ok0 : FOk kl kh lo hi (RP R) ⟨lo, hi, zero2⟩ := ⟨nlo, nhi, fun _ _ => Int.le_refl _, fun x y h => absurd rfl h, fun x hx => by
      show lo x + sumL kh (fun _ => 0) = lo x
      rw [sumL_zero fun _ _ => rfl, Int.add_zero], fun y hy => by
      show hi y + sumL kl (fun _ => 0) = hi y
      rw [sumL_zero fun _ _ => rfl, Int.add_zero]⟩
    -- the first way
    obtain ⟨dx1, hfl1⟩ := id hfl
    refine ⟨.ref fl, rfl, fl, dx1, _, rfl, hfl1, flF_not _ _ _ _ (by decide +kernel), ?_⟩
    have wayA : ∀ (H3 : Hp) (st : FS Str) (v5 v6 v7 : Option V) (m : Nat) (Q : VK), Same H H3 → FlObj a H3 fl o dl dr da → LeftAt a H3 dl kl D st.left → LeftAt a H3 dr kh D st.room → AmtAt a H3 da kl kh D st.amt → FOk kl kh lo hi (RP R) st → m = (sumL kl st.left).toNat →
        (∀ v H4, PTI a H o c1 c2 fl dl dr da kl kh D lo hi R m [some (.ref o), some (.ref c1), some (.ref c2), some (.ref fl), some v, v5, v6, v7] H4 → Q v H4) → spFW a [.ref fl] H3 Q E0 := by
      intro H3 st v5 v6 v7 m Q e f1 f2 f3 f4 ok hm k
      refine ⟨fl, o, dl, dr, da, sn, kl, kh, D, R, st, rfl, f1, ho.same e, f2, f3, f4, sl, sh, ndl, ndh, ll, lh, D0, fun l p r H4 e4 hl wy => ?_, fun S T H4 e4 cut => ?_⟩
      · exact k _ _ ⟨_, v5, v6, v7, st, rfl, e.trans e4, f1.same e4, f2.same e4, f3.same e4, f4.same e4, ok, hm, .inl ⟨l, p, r, rfl, hl, wy⟩⟩
      · exact k _ _ ⟨_, v5, v6, v7, st, rfl, e.trans e4, f1.same e4, f2.same e4, f3.same e4, f4.same e4, ok, hm, .inr ⟨rfl, S, T, cut⟩⟩
    unfold tNil
    refine wayA H2 ⟨lo, hi, zero2⟩ none none none _ _ e02 hfl hl hh ha ok0 rfl fun v H3 pti => ?_
    -- the loop
    refine ⟨PTI a H o c1 c2 fl dl dr da kl kh D lo hi R, ⟨_, pti⟩, ?_⟩
    rintro m σ H4 ⟨v, v5, v6, v7, st, rfl, e, f1, f2, f3, f4, ok, hm, hv⟩
    obtain ⟨dx2, g1⟩ := id f1
    refine ⟨v, rfl, rfl, _, rfl, ?_⟩
    rcases hv with ⟨l, p, r, rfl, hl, wy⟩ | ⟨rfl, S, T', cut⟩
    · rw [decide_eq_false (fun z => by cases z)]
      refine iteT ?_
      refine ⟨fun σ' H' => ∃ m', m' < m ∧ PTI a H o c1 c2 fl dl dr da kl kh D lo hi R m' σ' H', fun σ' H' h => h, ?_⟩
      refine ⟨.ref fl, rfl, fl, dx2, _, rfl, g1, flF_not _ _ _ _ (by decide +kernel), .ref l, rfl, fl, l, o, dl, dr, da, kl, kh, D, R, st, p, r, rfl, f1, f2, f3, f4, dlr, ll, lh, D0, DD, fun x y h => let z := ok.supp x y h; ⟨z.1, z.2.1⟩, hl, wy, fun H5 k kp h1 h2 h3 h4 ⟨m1, m2, m3⟩ mo => ?_⟩
      have pk := (wy.ups p List.mem_cons_self).1
      have lk := (wy.ups _ (List.getLast_mem (List.cons_ne_nil p r))).2.1
      have kpos : 0 < k := by
        rcases mo with h | h | ⟨d, hd, h⟩
        · have := ok.lnn _ pk
          have := wy.beg
          omega
        · have h7 := ok.rnn _ lk
          have h8 := wy.fin
          unfold lastS at h
          omega
        · have h7 := ok.ann d.1 d.2
          have h8 := wy.dns d hd
          omega
      have ok2 := ok.sent wy ndl ndh (by omega) m1 m2 m3
      have e5 : Same H H5 := same_of_keep e kp (by rintro b (rfl | rfl | rfl) <;> assumption)
      obtain ⟨dx3, g3⟩ := id h1
      refine ⟨.ref fl, rfl, fl, dx3, _, rfl, g3, flF_not _ _ _ _ (by decide +kernel), ?_⟩
      refine wayA H5 _ v5 v6 v7 _ _ e5 h1 h2 h3 h4 ok2 rfl fun v H6 pti => ?_
      refine ⟨_, ?_, pti⟩
      have s1 := sumL_nn (l := kl) (f := (sent st p r k).left) ok2.lnn
      rw [sent_left ndl pk] at s1 ⊢
      rw [hm]
      exact toNat_dec kpos s1
    · rw [decide_eq_true rfl]
      refine iteF ?_
      obtain ⟨lf, L1, L2'⟩ := id f2
      refine ⟨.ref fl, rfl, fl, a.F, dx2, _, _, rfl, g1, T.clF, T.f2, flF_left _ _ _ _, dl, _, rfl, L1, fun lv nlv => ?_⟩
      rw [SK_vals]
      have e5 : Same H4 (upd H4 lv (.lst (kl.map fun x => V.ref (lf x)))) := same_new nlv
      have pv5 : Paired (VR a (upd H4 lv (.lst (kl.map fun x => V.ref (lf x))))) (kl.map fun x => V.ref (lf x)) (kl.map fun x => fr D (st.left x)) := by
        have : ∀ l : List Str, (∀ x ∈ l, x ∈ kl) → Paired (VR a (upd H4 lv (.lst (kl.map fun x => V.ref (lf x))))) (l.map fun x => V.ref (lf x)) (l.map fun x => fr D (st.left x)) := by
          intro l
          induction l with
          | nil => intro _; exact .nil
          | cons x l ih => intro h; exact .cons ⟨_, rfl, (L2' x (h x List.mem_cons_self)).same e5⟩ (ih fun y hy => h y (List.mem_cons_of_mem _ hy))
        exact this kl fun _ h => h
      refine ⟨lv, _, _, D, rfl, upd_same, pv5, D0, DD, fun q hq => ?_, fun rt H6 n6 e6 hrt => ?_⟩
      · obtain ⟨x, _, rfl⟩ := List.mem_map.mp hq
        exact fr_frac D0 _
      rw [sumR_fr] at hrt
      obtain ⟨dt, gt⟩ := hrt
      have e06 := (e.trans e5).trans e6
      have f4' := (f4.same e5).same e6
      have f1' := (f1.same e5).same e6
      refine ⟨rt, dt, _, rfl, gt, rt, _, rfl, ⟨dt, gt⟩, _, rfl, ?_⟩
      rw [fr_ne D0]
      by_cases cz : sumL kl st.left = 0
      · rw [decide_eq_false (fun h => h cz)]
        refine iteF ?_
        refine ⟨Nat.zero_le _, fun lo' nlo' => ?_⟩
        have e7 : Same H6 (upd H6 lo' (.lst [])) := same_new nlo'
        have hlo : upd H6 lo' (.lst []) lo' = some (.lst []) := upd_same
        have f4' := f4'.same e7
        have f1' := f1'.same e7
        have e07 := e06.trans e7
        have nloH : H lo' = none := Same.none e06 nlo'
        generalize upd H6 lo' (.lst []) = H7 at e7 hlo f4' f1' e07
        obtain ⟨dx4, g4⟩ := id f1'
        obtain ⟨ks, af, A1, A2, A3, A4, A5⟩ := f4'
        refine ⟨.ref fl, rfl, fl, a.F, dx4, _, _, rfl, g4, T.clF, T.f4, flF_amt _ _ _ _, da, _, rfl, .inl A1, fun pk bs npk ik => ?_⟩
        obtain ⟨bl, b1, b2, b3⟩ := keys_bl _ ik
        have e8 : Same H7 (upd H7 pk (.lst (bs.map V.ref))) := same_new npk
        have hb : (bs.map V.ref) = bl.map fun b => V.ref b.1 := by rw [← b1, List.map_map]; rfl
        refine ⟨pk, bl, rfl, .inl (.inl (by rw [upd_same, hb])), fun b hb => .tup (.inl (.inl (e8 _ _ (b3 b hb)))) (.cons (.str _) (.cons (.str _) .nil)), PySem.W.AllAlike.of fun b b' => encP_alike _ _, PySem.W.Sortable.tuples fun b => ⟨_, _, rfl⟩, fun b _ => encP_depth _, fun ps nps => ?_⟩
        have hsn := sortP_snd bl
        have hpm := List.mergeSort_perm bl (PySem.W.dataLe false fun b => encP b.2)
        generalize bl.mergeSort (PySem.W.dataLe false fun b => encP b.2) = bl2 at hsn hpm
        rw [b2] at hsn
        have e9 : Same (upd H7 pk (.lst (bs.map V.ref))) (upd (upd H7 pk (.lst (bs.map V.ref))) ps (.lst (bl2.map fun b => V.ref b.1))) := same_new nps
        have hps : upd (upd H7 pk (.lst (bs.map V.ref))) ps (.lst (bl2.map fun b => V.ref b.1)) ps = some (.lst (bl2.map fun b => V.ref b.1)) := upd_same
        have e79 := e8.trans e9
        generalize upd (upd H7 pk (.lst (bs.map V.ref))) ps (.lst (bl2.map fun b => V.ref b.1)) = H9 at e9 hps e79
        have psne : ps ≠ lo' := fun h => by rw [h, e8 _ _ hlo] at nps; cases nps
        refine ⟨ps, rfl, ⟨_, .inl (.inl hps)⟩, ?_⟩
        refine for_it (walk_list (xs := bl2.map fun b => V.ref b.1)) (fun i σ H' => ∃ v6 v7 ts, σ = [some (.ref o), some (.ref c1), some (.ref c2), some (.ref fl), some .non, some (.ref lo'), v6, v7] ∧ Same H H' ∧ H' ps = some (.lst (bl2.map fun b => V.ref b.1)) ∧ FlObj a H' fl o dl dr da ∧ H' da = some (.dT (AK ks fun p => .ref (af p))) ∧ (∀ p ∈ ks, IsR a H' (af p) (fr D (st.amt p.1 p.2))) ∧ (∀ b ∈ bl2, H' b.1 = some (.tup [.str b.2.1, .str b.2.2])) ∧ H' lo' = some (.lst ts) ∧ Paired (VRow a H') ts (rowsOf D st.amt ((bl2.map (·.2)).take i)))
          ⟨_, _, [], rfl, e07.trans e79, hps, f1'.same e79, e79 _ _ A1, fun p hp => (A4 p hp).same e79, fun b hb => e79 _ _ (b3 b (hpm.mem_iff.mp hb)), e79 _ _ hlo, .nil⟩ ?_ ?_ ?_
        · rintro i σ H' _ ⟨v6, v7, ts, rfl, e, h, _⟩
          exact .inl (.inl h)
        · rintro i v σ _ H' hi ⟨v6, v7, ts, rfl, e, hps, f1, A1, A4, B3, hlo, hp⟩ ⟨rfl, ev⟩
          obtain ⟨⟨b, x, y⟩, hbi, rfl⟩ := get_map ev
          have hbm := List.mem_of_getElem? hbi
          have hb1 := B3 _ hbm
          have hxy : (x, y) ∈ ks := by
            rw [← b2]
            exact List.mem_map.mpr ⟨_, hpm.mem_iff.mp hbm, rfl⟩
          have et : (bl2.map (·.2)).take (i + 1) = (bl2.map (·.2)).take i ++ [(x, y)] := by rw [List.take_succ, List.getElem?_map, hbi]; rfl
          obtain ⟨dx5, g5⟩ := id f1
          refine ⟨b, _, rfl, .inl (.inl hb1), rfl, _, _, rfl, _, _, rfl, rfl, ?_⟩
          refine ⟨.ref fl, rfl, fl, a.F, dx5, _, _, rfl, g5, T.clF, T.f4, flF_amt _ _ _ _, .str x, rfl, .str y, rfl, (by show 2 ≤ sizeLine; decide), fun t nt => ?_⟩
          have e10 : Same H' (upd H' t (.tup [.str x, .str y])) := same_new nt
          obtain ⟨d6, g6⟩ := (A4 _ hxy).same e10
          refine ⟨da, .ref (af (x, y)), rfl, .inr ⟨_, kP (x, y), t, .inl (e10 _ _ A1), rfl, upd_same, (AK_in (f := fun p => .ref (af p)) hxy).symm⟩, af (x, y), d6, _, rfl, g6, af (x, y), _, rfl, ⟨d6, g6⟩, _, rfl, ?_⟩
          rw [fr_ne D0]
          by_cases cz : st.amt x y ≠ 0
          · rw [decide_eq_true cz]
            refine iteT ?_
            refine ⟨.ref lo', rfl, .inl ⟨rfl, _, .inl (.inl (e10 _ _ hlo))⟩, .str x, rfl, .str y, rfl, .ref fl, rfl, fl, a.F, dx5, _, _, rfl, e10 _ _ g5, T.clF, T.f4, flF_amt _ _ _ _, .str x, rfl, .str y, rfl, (by show 2 ≤ sizeLine; decide), fun t2 nt2 => ?_⟩
            have e11 := e10.trans (same_new (o := .tup [.str x, .str y]) nt2)
            refine ⟨da, .ref (af (x, y)), rfl, .inr ⟨_, kP (x, y), t2, .inl (e11 _ _ A1), rfl, upd_same, (AK_in (f := fun p => .ref (af p)) hxy).symm⟩, (by show 3 ≤ sizeLine; decide), fun t3 nt3 => ?_⟩
            have e12 := e11.trans (same_new (o := .tup [.str x, .str y, .ref (af (x, y))]) nt3)
            have ht3 : upd (upd (upd H' t (.tup [.str x, .str y])) t2 (.tup [.str x, .str y])) t3 (.tup [.str x, .str y, .ref (af (x, y))]) t3 = some (.tup [.str x, .str y, .ref (af (x, y))]) := upd_same
            generalize upd (upd (upd H' t (.tup [.str x, .str y])) t2 (.tup [.str x, .str y])) t3 (.tup [.str x, .str y, .ref (af (x, y))]) = H12 at e12 ht3
            have hlo12 := e12 _ _ hlo
            have len : ts.length < sizeLine := by
              have h1 := hp.length
              unfold rowsOf at h1
              have h2 : (((bl2.map (·.2)).take i).filter fun p => decide (st.amt p.1 p.2 ≠ 0)).length ≤ ((bl2.map (·.2)).take i).length := List.length_filter_le _ _
              rw [List.length_map] at h1
              rw [List.length_take, List.length_map, hpm.length_eq] at h2
              have h3 : bl.length = ks.length := by rw [← b2, List.length_map]
              have h4 := nodup_leP A2 (m := kl.flatMap fun x => kh.map fun y => (x, y)) fun p hp => by
                rw [List.mem_flatMap]
                exact ⟨p.1, (A3 p hp).1, List.mem_map.mpr ⟨p.2, (A3 p hp).2, rfl⟩⟩
              have h6 : (kl.flatMap fun x => kh.map fun y => (x, y)).length = kl.length * kh.length := by
                rw [List.length_flatMap]
                simp only [List.length_map, List.map_const', List.sum_replicate_nat]
              have h7 : kl.length * kh.length ≤ 8 * 8 := Nat.mul_le_mul ll lh
              exact smallL (by omega)
            refine ⟨lo', _, _, rfl, rfl, hlo12, len, ?_⟩
            have nl : ∀ {c : Addr} {u : HO}, H12 c = some u → (∀ xs, u ≠ .lst xs) → upd H12 lo' (.lst (ts ++ [.ref t3])) c = some u := fun h hn => (upd_ne fun e => by rw [e, hlo12] at h; injection h with h; exact hn _ h.symm).trans h
            have isr : ∀ {c : Addr} {q : Rat}, IsR a H12 c q → IsR a (upd H12 lo' (.lst (ts ++ [.ref t3]))) c q := fun h => h.updL hlo12 _
            have vrow : ∀ {v : V} {r : Row}, VRow a H12 v r → VRow a (upd H12 lo' (.lst (ts ++ [.ref t3]))) v r := fun ⟨t, b, h1, h2, h3⟩ => ⟨t, b, h1, nl h2 (fun _ q => by cases q), isr h3⟩
            refine ⟨_, _, ts ++ [.ref t3], rfl, Same.mut (e.trans e12) nloH, (upd_ne psne).trans (e12 _ _ hps), ⟨dx5, nl (e12 _ _ g5) (fun _ q => by cases q)⟩, nl (e12 _ _ A1) (fun _ q => by cases q), fun p hp => isr ((A4 p hp).same e12), fun b hb => nl (e12 _ _ (B3 b hb)) (fun _ q => by cases q), upd_same, ?_⟩
            rw [et]
            unfold rowsOf
            rw [List.filter_append, List.filter_cons, if_pos (decide_eq_true cz), List.filter_nil, List.map_append]
            exact (L2.Paired.mapP hp fun _ _ h => vrow (h.same e12)).snoc (vrow ⟨t3, _, rfl, ht3, (A4 _ hxy).same e12⟩)
          · rw [decide_eq_false cz]
            refine iteF ?_
            refine ⟨_, _, ts, rfl, e.trans e10, e10 _ _ hps, f1.same e10, e10 _ _ A1, fun p hp => (A4 p hp).same e10, fun b hb => e10 _ _ (B3 b hb), e10 _ _ hlo, ?_⟩
            rw [et]
            unfold rowsOf
            rw [List.filter_append, List.filter_cons, if_neg (by rw [decide_eq_false cz]; decide), List.filter_nil, List.append_nil]
            exact L2.Paired.mapP hp fun _ _ h => h.same e10
        · rintro σ H' ⟨v6, v7, ts, rfl, e, hps, f1, A1, A4, B3, hlo, hp⟩
          have hl2 : (bl2.map fun b => V.ref b.1).length = (bl2.map (·.2)).length := by rw [List.length_map, List.length_map]
          rw [hl2, List.take_length] at hp
          have pmk : (bl2.map (·.2)).Perm ks := by rw [← b2]; exact hpm.map _
          refine ⟨.ref lo', rfl, q1 H' lo' _ st (bl2.map (·.2)) e nloH ⟨ts, hlo, hp⟩ ⟨ok, cz, ?_, pmk.nodup_iff.mpr A2, fun x y h => ?_, rfl⟩⟩
          · rw [hsn]
            exact sortP_pw ks
          · rw [pmk.mem_iff]
            exact Decidable.byContradiction fun hn => h (A5 x y hn)
      · rw [decide_eq_true cz]
        refine iteT ?_
        exact q2 _ st S T' e06 ok cz cut
end
end OT
end

section
set_option Elab.async false
set_option linter.all false
set_option maxRecDepth 100000
set_option maxHeartbeats 4000000
namespace OT
open PySem PySem.Spec PyProof.Rows L2 OTR
open C8 (Cal Mak Met pe_c pe_mk pe_mt pe_mt0)
section
variable {P : Program} {w : World} {K : PySem.W.Frag} {mg : Str → Option Value} {base : Heap} {a : Ads}
/-! ### the pool -/
def PoolAt (H : Hp) (p : Addr) : Prop := ∃ (c k : Int) (b : Bool), H p = some (.lst [.int c, .int k, .bl b])
abbrev sPool : Stmt := top 43
theorem scPool : FnScope ["_law_cell_here"] ["_law_cell_here"] (defScope sPool) := ⟨rfl, rfl, rfl, by decide +kernel, rfl, by decide +kernel, by decide +kernel⟩
def spPool : Sp := fun vs H Q _ => ∃ c : Int, vs = [.int c] ∧ ∀ l H2, H l = none → Same H H2 → PoolAt H2 l → Q (.ref l) H2
theorem ok_Pool (D : DF K mg "_law_pool" "_law_pool" "_law_pool" sPool ["_law_cell_here"]) : Cal P w K mg base 1 "_law_pool" spPool [] := by
  refine cal_of D scPool (fun vs H Q E h => ?_) (fun f cdv B outer s H vs Q E hr h => ?_)
  · obtain ⟨c, rfl, _⟩ := h
    rfl
  · obtain ⟨c, rfl, q⟩ := h
    refine ⟨_, pss_one (ps_ret (pe_lst (pa_cons (pv 0) (pa_cons pe_int (pa_cons (pe_cmpR op_ge (pv 0) (pe_op op_pow pe_int pe_int) (nomark _)) pa_nil))))), ?_⟩
    refine ⟨_, rfl, _, rfl, 10, 18, rfl, rfl, ⟨by decide, by decide, by decide⟩, c, _, rfl, rfl, (by show 3 ≤ sizeLine; decide), fun l nl => ?_⟩
    exact q l _ nl (same_new nl) ⟨_, _, _, upd_same⟩
abbrev sTake : Stmt := top 44
abbrev nTake : List Str := ["_law_pool_here", "_law_limit", "_law_drawn", "_law_mixed"]
theorem scTake : FnScope nTake ["_law_pool_here", "_law_limit"] (defScope sTake) := ⟨rfl, rfl, rfl, by decide +kernel, rfl, by decide +kernel, by decide +kernel⟩
def spTake : Sp := fun vs H Q _ => ∃ (p : Addr) (n : Int), vs = [.ref p, .int n] ∧ PoolAt H p ∧ 0 < n ∧ n < 1073741824 ∧ ∀ (r : Int) H2, 0 ≤ r → r < n → Keep (· = p) H H2 → PoolAt H2 p → Q (.int r) H2
theorem ok_Take (T : Fx K mg a) (D : DF K mg "_law_take" "_law_take" "_law_take" sTake ["_law_pool_here", "_law_limit"]) : Cal P w K mg base 1 "_law_take" spTake [] := by
  refine cal_of D scTake (fun vs H Q E h => ?_) (fun f cdv B outer s H vs Q E hr h => ?_)
  · obtain ⟨p, n, rfl, _⟩ := h
    rfl
  · obtain ⟨p, n, rfl, ⟨c, k, b, hp⟩, n0, n1, q⟩ := h
    refine ⟨_, pss_cons (ps_asg (pe_op op_add (pe_ix ix_list (pv 0) pe_int (fun _ _ => rfl)) pe_int) (pg_sub (pv 0) pe_int set_list))
      (pss_cons (ps_if (pt_val (pe_ix ix_list (pv 0) pe_int (fun _ _ => rfl)))
        (pss_cons (ps_set (i := 2) scTake.nd rfl (.inl rfl) (pe_op op_mod (pe_callTy call_int1 (by rfl) T.nInt (by decide +kernel) (pa_cons (pe_ix ix_list (pv 0) pe_int (fun _ _ => rfl)) pa_nil)) (pv 1)))
        (pss_cons (ps_asg (pe_op op_fdiv (pe_callTy call_int1 (by rfl) T.nInt (by decide +kernel) (pa_cons (pe_ix ix_list (pv 0) pe_int (fun _ _ => rfl)) pa_nil)) (pv 1)) (pg_sub (pv 0) pe_int set_list))
        (pss_one (ps_ret (pv 2))))) pss_nil)
      (pss_cons (ps_set (i := 3) scTake.nd rfl (.inl rfl) (pe_op op_mod (pe_callTy call_int1 (by rfl) T.nInt (by decide +kernel) (pa_cons (pe_op op_add (pe_op op_add (pe_op op_mul (pe_ix ix_list (pv 0) pe_int (fun _ _ => rfl)) pe_int) (pe_op op_mul (pe_ix ix_list (pv 0) pe_int (fun _ _ => rfl)) pe_int)) pe_int) pa_nil)) pe_int))
      (pss_one (ps_ret (pe_op op_mod (pe_op op_fdiv (pe_callTy call_int1 (by rfl) T.nInt (by decide +kernel) (pa_cons (pe_op op_mod (pe_op op_pow (pv 3) pe_int) pe_int) pa_nil)) pe_int) (pv 1)))))), ?_⟩
    refine ⟨.ref p, rfl, p, _, 1, .int k, rfl, rfl, .inl (.inl hp), rfl, k, 1, rfl, rfl, .ref p, rfl, p, _, 1, 1, rfl, rfl, hp, rfl, ?_⟩
    have hp1 : upd H p (.lst [.int c, .int (k + 1), .bl b]) p = some (.lst [.int c, .int (k + 1), .bl b]) := upd_same
    have kp1 : Keep (· = p) H (upd H p (.lst [.int c, .int (k + 1), .bl b])) := Keep.rfl'.mut _ rfl
    show tSeq _ _ _ _ (upd H p (.lst [.int c, .int (k + 1), .bl b]))
    generalize upd H p (.lst [.int c, .int (k + 1), .bl b]) = H1 at hp1 kp1
    refine ⟨.ref p, rfl, p, _, 2, .bl b, rfl, rfl, .inl (.inl hp1), rfl, b, rfl, ?_⟩
    have g1 : ∀ x : Int, 0 ≤ x % n ∧ x % n < n := fun x => ⟨Int.emod_nonneg _ (by omega), Int.emod_lt_of_pos _ n0⟩
    cases b with
    | true =>
      refine iteT ?_
      refine ⟨.ref p, rfl, p, _, 0, .int c, rfl, rfl, .inl (.inl hp1), rfl, .inl ⟨c, rfl, .int n, rfl, c, n, rfl, rfl, n0, ?_⟩⟩
      refine ⟨.ref p, rfl, p, _, 0, .int c, rfl, rfl, .inl (.inl hp1), rfl, .inl ⟨c, rfl, .int n, rfl, c, n, rfl, rfl, ⟨n0, n1⟩, .ref p, rfl, p, _, 0, 0, rfl, rfl, hp1, rfl, ?_⟩⟩
      exact ⟨_, rfl, q _ _ (g1 c).1 (g1 c).2 (kp1.mut _ rfl) ⟨_, _, _, upd_same⟩⟩
    | false =>
      refine iteF ?_
      refine ⟨.ref p, rfl, p, _, 0, .int c, rfl, rfl, .inl (.inl hp1), rfl, c, 7919, rfl, rfl, .inr (by decide), .ref p, rfl, p, _, 1, .int (k + 1), rfl, rfl, .inl (.inl hp1), rfl, k + 1, 104729, rfl, rfl, .inr (by decide), _, _, rfl, rfl, _, 13, rfl, rfl, .inl ⟨_, rfl, _, 2147483647, rfl, rfl, (by show (0 : Int) < 2147483647; decide), ?_⟩⟩
      have m0 := Int.emod_nonneg (c * 7919 + (k + 1) * 104729 + 13) (show (2147483647 : Int) ≠ 0 by decide)
      have m1 := Int.emod_lt_of_pos (c * 7919 + (k + 1) * 104729 + 13) (show (0 : Int) < 2147483647 by decide)
      refine ⟨_, rfl, _, 5, rfl, rfl, ⟨by decide, by decide, by omega⟩, _, 2147483647, rfl, rfl, (by show (0 : Int) < 2147483647; decide), .inl ⟨_, rfl, _, 17, rfl, rfl, ⟨by decide, by decide⟩, .int n, rfl, _, n, rfl, rfl, n0, ?_⟩⟩
      exact q _ _ (g1 _).1 (g1 _).2 kp1 ⟨_, _, _, hp1⟩
/-! ### a cell of the script -/
abbrev sCell : Stmt := top 45
theorem scCell : FnScope ["_law_script", "_law_k"] ["_law_script", "_law_k"] (defScope sCell) := ⟨rfl, rfl, rfl, by decide +kernel, rfl, by decide +kernel, by decide +kernel⟩
def spCell (K : PySem.W.Frag) : Sp := fun vs H Q _ => ∃ (p : Addr) (k : Nat) (zs : List Int), vs = [.ref p, .int k] ∧ SqL K H p (zs.map V.int) ∧ ∀ z, Q (.int z) H
theorem ok_Cell (T : Fx K mg a) (D : DF K mg "_law_cell" "_law_cell" "_law_cell" sCell ["_law_script", "_law_k"]) : Cal P w K mg base 1 "_law_cell" (spCell K) [] := by
  refine cal_of D scCell (fun vs H Q E h => ?_) (fun f cdv B outer s H vs Q E hr h => ?_)
  · obtain ⟨p, k, zs, rfl, _⟩ := h
    rfl
  · obtain ⟨p, k, zs, rfl, hp, q⟩ := h
    refine ⟨_, pss_cons (ps_if (pt_cmpR op_lt (pv 1) (pe_callB call_len (by rfl) T.nLen (by decide +kernel) (pa_cons (pv 0) pa_nil)) (nomark _)) (pss_one (ps_ret (pe_ix ix_list (pv 0) (pv 1) (fun _ _ => rfl)))) pss_nil)
      (pss_one (ps_ret pe_int)), ?_⟩
    refine ⟨.int k, rfl, .ref p, rfl, .ref p, zs.length, rfl, .inl ⟨_, hp, (List.length_map ..).symm⟩, k, zs.length, rfl, rfl, _, rfl, ?_⟩
    by_cases c : k < zs.length
    · rw [decide_eq_true (by omega)]
      refine iteT ?_
      exact ⟨.ref p, rfl, .int k, rfl, p, _, k, .int zs[k], rfl, rfl, hp, atI_nat (by rw [List.getElem?_map, List.getElem?_eq_getElem c]; rfl), q _⟩
    · rw [decide_eq_false (by omega)]
      refine iteF ?_
      exact q 0
/-! ### names -/
abbrev sNames : Stmt := top 46
abbrev nNames : List Str := ["_law_pool_here", "_law_many", "_law_menu", "_law_found", "_law_k"]
theorem scNames : FnScope nNames ["_law_pool_here", "_law_many"] (defScope sNames) := ⟨rfl, rfl, rfl, by decide +kernel, rfl, by decide +kernel, by decide +kernel⟩
def spNames : Sp := fun vs H Q _ => ∃ (p : Addr) (n : Nat), vs = [.ref p, .int n] ∧ PoolAt H p ∧ 1 ≤ n ∧ n ≤ 6 ∧ ∀ l ns H2, H l = none → Keep (· = p) H H2 → PoolAt H2 p → LstS H2 l ns → OkNs ns → ns.length = n → Q (.ref l) H2
theorem PoolAt.ne {H : Hp} {p q : Addr} {l : List Str} (h : PoolAt H p) (g : LstS H q l) : p ≠ q := fun e => by
  obtain ⟨c, k, b, h⟩ := h
  rw [e, g] at h
  injection h with h
  injection h with h
  cases l with
  | nil => cases h
  | cons x l => cases h
theorem PoolAt.upd {H : Hp} {p q : Addr} (h : PoolAt H p) (ne : p ≠ q) (o : HO) : PoolAt (L2.upd H q o) p := let ⟨c, k, b, h⟩ := h; ⟨c, k, b, (upd_ne ne).trans h⟩
/-- moving one item over -/
theorem move_perm {ms fs : List Str} {k : Nat} {y : Str} (h : ms[k]? = some y) : (fs ++ [y] ++ ms.eraseIdx k).Perm (fs ++ ms) := by
  rw [List.append_assoc]
  refine List.Perm.append_left fs ?_
  obtain ⟨hk, rfl⟩ := List.getElem?_eq_some_iff.mp h
  rw [List.eraseIdx_eq_take_drop_succ]
  have e : ms = ms.take k ++ ms[k] :: ms.drop (k + 1) := by rw [← List.drop_eq_getElem_cons hk, List.take_append_drop]
  conv => rhs; rw [e]
  show (ms[k] :: (ms.take k ++ ms.drop (k + 1))).Perm _
  exact List.perm_middle.symm
theorem seqIx {r : Int} {n : Nat} (h0 : 0 ≤ r) (h1 : r < n) : seqIndex? r n = some r.toNat := by
  have h : ixN n r = some r.toNat := by
    unfold ixN
    rw [if_pos h0, if_pos (by omega)]
  exact (ixN_seq h).1
theorem map_erase {α β : Type} (f : α → β) : ∀ (l : List α) (k : Nat), (l.map f).eraseIdx k = (l.eraseIdx k).map f
  | [], _ => rfl
  | _ :: _, 0 => rfl
  | x :: l, k + 1 => by
    show f x :: (l.map f).eraseIdx k = f x :: (l.eraseIdx k).map f
    rw [map_erase f l k]
theorem ok_Names (T : Fx K mg a) (Tk : Cal P w K mg base 1 "_law_take" spTake []) (D : DF K mg "_law_names" "_law_names" "_law_names" sNames ["_law_pool_here", "_law_many"]) : Cal P w K mg base 2 "_law_names" spNames [] := by
  refine cal_of D scNames (fun vs H Q E h => ?_) (fun f cdv B outer s H vs Q E hr h => ?_)
  · obtain ⟨p, n, rfl, _⟩ := h
    rfl
  · obtain ⟨p, n, rfl, hp, n0, n6, q⟩ := h
    refine ⟨_, pss_cons (ps_set (i := 2) scNames.nd rfl (.inl rfl) (pe_lst (pa_cons pe_str (pa_cons pe_str (pa_cons pe_str (pa_cons pe_str (pa_cons pe_str (pa_cons pe_str (pa_cons pe_str (pa_cons pe_str pa_nil))))))))))
      (pss_cons (ps_set (i := 3) scNames.nd rfl (.inl rfl) (pe_lst pa_nil))
      (pss_cons (ps_for PassesOwn.never rfl (pi_range1 (by rfl) T.nRange (pa_cons (pv 1) pa_nil)) (pg_name (i := 4) scNames.nd rfl (.inl rfl))
        (pss_one (ps_expr (pe_bm PySem.F.plainAttrs_list PySem.F.slot_list_append PySem.F.type_list_append mt_append (pv 3) (pa_cons (pe_bm PySem.F.plainAttrs_list PySem.F.slot_list_pop PySem.F.type_list_pop mt_popAt (pv 2)
          (pa_cons (pe_c Tk hr (by decide) (by rfl) (pa_cons (pv 0) (pa_cons (pe_callB call_len (by rfl) T.nLen (by decide +kernel) (pa_cons (pv 2) pa_nil)) pa_nil))) pa_nil)) pa_nil)))))
      (pss_one (ps_ret (pv 3))))), ?_⟩
    refine ⟨(by show 8 ≤ sizeLine; decide), fun m nm => ?_⟩
    have em : Same H (upd H m (.lst (menuN.map V.str))) := same_new nm
    have hm : LstS (upd H m (.lst (menuN.map V.str))) m menuN := upd_same
    have hp1 : PoolAt (upd H m (.lst (menuN.map V.str))) p := let ⟨c, k, b, h⟩ := hp; ⟨c, k, b, em _ _ h⟩
    refine ⟨(by show 0 ≤ sizeLine; decide), fun l nl => ?_⟩
    have e2 : Same (upd H m (.lst (menuN.map V.str))) (upd (upd H m (.lst (menuN.map V.str))) l (.lst [])) := same_new nl
    have lm : l ≠ m := fun e => by
      have nl' : upd H m (.lst (menuN.map V.str)) l = none := nl
      rw [e, hm] at nl'
      cases nl'
    have nlH : H l = none := Same.none em nl
    refine ⟨.int n, rfl, n, rfl, (by omega), (by omega), ?_⟩
    refine for_range (lo := 0) (n := n) (fun i σ H' => ∃ v4 ms fs, σ = [some (.ref p), some (.int n), some (.ref m), some (.ref l), v4] ∧ Keep (· = p) H H' ∧ PoolAt H' p ∧ LstS H' m ms ∧ LstS H' l fs ∧ fs.length = i ∧ (fs ++ ms).Perm menuN)
      ⟨_, menuN, [], rfl, Keep.of (em.trans e2), let ⟨c, k, b, h⟩ := hp1; ⟨c, k, b, e2 _ _ h⟩, e2 _ _ hm, upd_same, rfl, List.Perm.refl _⟩ ?_ ?_
    · rintro i σ H' hi ⟨v4, ms, fs, rfl, kp, hp, hm, hl, fl, pm⟩
      have len : fs.length + ms.length = 8 := by
        have := pm.length_eq
        rw [List.length_append] at this
        exact this
      have pl := hp.ne hl
      have pm' := hp.ne hm
      refine ⟨.ref l, rfl, .inl ⟨rfl, _, .inl (.inl hl)⟩, .ref m, rfl, .inl ⟨rfl, _, .inl (.inl hm)⟩, .ref p, rfl, .ref m, rfl, .ref m, ms.length, rfl, .inl ⟨_, .inl (.inl hm), (List.length_map ..).symm⟩, p, ms.length, rfl, hp, (by omega), (by omega), fun r H2 r0 r1 kp2 hp2 => ?_⟩
      have hm2 := kp2 _ _ hm pm'.symm
      have hl2 := kp2 _ _ hl pl.symm
      obtain ⟨y, hy⟩ : ∃ y, ms[r.toNat]? = some y := ⟨ms[r.toNat]'(by omega), List.getElem?_eq_getElem (by omega)⟩
      refine ⟨m, _, r, r.toNat, .str y, rfl, rfl, hm2, (by omega), (by omega), seqIx r0 (by rw [List.length_map]; exact r1), by rw [List.getElem?_map, hy]; rfl, ?_⟩
      have hl3 : upd H2 m (.lst ((ms.map V.str).eraseIdx r.toNat)) l = some (.lst (fs.map V.str)) := (upd_ne lm).trans hl2
      refine ⟨l, _, _, rfl, rfl, hl3, (by rw [List.length_map]; exact smallL (by omega)), ?_⟩
      have nmH : H m = none := nm
      refine ⟨_, ms.eraseIdx r.toNat, fs ++ [y], rfl, fun b o hb hn => ?_, (hp2.upd pm' _).upd pl _, ?_, ?_, ?_, (move_perm hy).trans pm⟩
      · rw [upd_ne (fun e => by rw [e, nlH] at hb; cases hb), upd_ne (fun e => by rw [e, nmH] at hb; cases hb)]
        exact kp2 _ _ (kp _ _ hb hn) hn
      · show upd _ l _ m = _
        rw [upd_ne lm.symm, upd_same, map_erase]
      · show upd _ l _ l = _
        rw [upd_same, List.map_append]
        rfl
      · rw [List.length_append, fl]
        rfl
    · rintro σ H' ⟨v4, ms, fs, rfl, kp, hp, hm, hl, fl, pm⟩
      refine ⟨.ref l, rfl, q l fs H' nlH kp hp hl ⟨fun x hx => pm.mem_iff.mp (List.mem_append_left _ hx), ?_, by omega, by omega⟩ fl⟩
      exact (List.nodup_append.mp (pm.nodup_iff.mpr (by decide +kernel))).1
end
end OT
end

section
set_option Elab.async false
set_option linter.all false
set_option maxRecDepth 100000
set_option maxHeartbeats 4000000
namespace OT
open PySem PySem.Spec PyProof.Rows L2 OTR
open C8 (Cal Mak Met pe_c pe_mk pe_mt pe_mt0)
section
variable {P : Program} {w : World} {K : PySem.W.Frag} {mg : Str → Option Value} {base : Heap} {a : Ads}
/-! ### pairs -/
structure OkP (ns : List Str) (ps : List (Str × Str)) : Prop where
  ip : InP ns ps
  rk : ∃ rk : Str → Nat, ∀ x y, (x, y) ∈ ps → rk x < rk y ∧ rk y < ns.length
  le : ps.length ≤ 64
abbrev sPairs : Stmt := top 47
abbrev nPairs : List Str := ["_law_pool_here", "_law_names_here", "_law_row", "_law_line", "_law_k", "_law_found", "_law_dense", "_law_i", "_law_j"]
theorem scPairs : FnScope nPairs ["_law_pool_here", "_law_names_here"] (defScope sPairs) := ⟨rfl, rfl, rfl, by decide +kernel, rfl, by decide +kernel, by decide +kernel⟩
def spPairs : Sp := fun vs H Q _ => ∃ (p m : Addr) (ns : List Str), vs = [.ref p, .ref m] ∧ PoolAt H p ∧ LstS H m ns ∧ p ≠ m ∧ OkNs ns ∧ ∀ l ps H2, H l = none → Keep (· = p) H H2 → PoolAt H2 p → LstP H2 l ps → OkP ns ps → Q (.ref l) H2
theorem PoolAt.nt {H : Hp} {p : Addr} (h : PoolAt H p) (xs : List V) : H p ≠ some (.tup xs) := fun e => by
  obtain ⟨c, k, b, h⟩ := h
  rw [h] at e
  cases e
theorem vps_keep {H H2 : Hp} {p : Addr} {xs : List V} {ps : List (Str × Str)} (h : Paired (VP H) xs ps) (hp : PoolAt H p) (kp : Keep (· = p) H H2) : Paired (VP H2) xs ps := L2.Paired.mapP h fun _ _ ⟨r, e1, q⟩ => ⟨r, e1, kp _ _ q fun e => hp.nt _ (e ▸ q)⟩
theorem LstP.keep {H H2 : Hp} {p l : Addr} {ps : List (Str × Str)} (h : LstP H l ps) (hp : PoolAt H p) (kp : Keep (· = p) H H2) (ne : l ≠ p) : LstP H2 l ps := let ⟨xs, h1, h2⟩ := h; ⟨xs, kp _ _ h1 ne, vps_keep h2 hp kp⟩
theorem Keep.trans {D : Addr → Prop} {H H1 H2 : Hp} (k : Keep D H H1) (k2 : Keep D H1 H2) : Keep D H H2 := fun b o h n => k2 b o (k b o h n) n
theorem Keep.newm {D : Addr → Prop} {H H1 : Hp} (k : Keep D H H1) {l : Addr} (h : H l = none) (o : HO) : Keep D H (upd H1 l o) := fun b u e n => (upd_ne (fun q : b = l => by rw [q, h] at e; cases e)).trans (k b u e n)
theorem idx_lt {ls : List Str} (nd : ls.Nodup) {i j : Nat} {x y : Str} (hi : ls[i]? = some x) (hj : ls[j]? = some y) (h : i < j) : ls.idxOf x < ls.idxOf y := by
  obtain ⟨hi1, rfl⟩ := List.getElem?_eq_some_iff.mp hi
  obtain ⟨hj1, rfl⟩ := List.getElem?_eq_some_iff.mp hj
  rw [nd.idxOf_getElem, nd.idxOf_getElem]
  exact h
theorem ok_Pairs (T : Fx K mg a) (Tk : Cal P w K mg base 1 "_law_take" spTake []) (D : DF K mg "_law_pairs" "_law_pairs" "_law_pairs" sPairs ["_law_pool_here", "_law_names_here"]) : Cal P w K mg base 2 "_law_pairs" spPairs [] := by
  refine cal_of D scPairs (fun vs H Q E h => ?_) (fun f cdv B outer s H vs Q E hr h => ?_)
  · obtain ⟨p, m, ns, rfl, _⟩ := h
    rfl
  · obtain ⟨p, m, ns, rfl, hp, hm, pm, ok, q⟩ := h
    refine ⟨_, pss_cons (ps_set (i := 2) scPairs.nd rfl (.inl rfl) (pe_callTy call_list_of (by rfl) T.nList (by decide +kernel) (pa_cons (pv 1) pa_nil)))
      (pss_cons (ps_set (i := 3) scPairs.nd rfl (.inl rfl) (pe_lst pa_nil))
      (pss_cons (ps_for PassesOwn.never rfl (pi_range1 (by rfl) T.nRange (pa_cons (pe_callB call_len (by rfl) T.nLen (by decide +kernel) (pa_cons (pv 1) pa_nil)) pa_nil)) (pg_name (i := 4) scPairs.nd rfl (.inl rfl))
        (pss_one (ps_expr (pe_bm PySem.F.plainAttrs_list PySem.F.slot_list_append PySem.F.type_list_append mt_append (pv 3) (pa_cons (pe_bm PySem.F.plainAttrs_list PySem.F.slot_list_pop PySem.F.type_list_pop mt_popAt (pv 2)
          (pa_cons (pe_c Tk hr (by decide) (by rfl) (pa_cons (pv 0) (pa_cons (pe_callB call_len (by rfl) T.nLen (by decide +kernel) (pa_cons (pv 2) pa_nil)) pa_nil))) pa_nil)) pa_nil)))))
      (pss_cons (ps_set (i := 5) scPairs.nd rfl (.inl rfl) (pe_lst pa_nil))
      (pss_cons (ps_set (i := 6) scPairs.nd rfl (.inl rfl) (pe_op op_add pe_int (pe_c Tk hr (by decide) (by rfl) (pa_cons (pv 0) (pa_cons pe_int pa_nil)))))
      (pss_cons (ps_for PassesOwn.never rfl (pi_range1 (by rfl) T.nRange (pa_cons (pe_callB call_len (by rfl) T.nLen (by decide +kernel) (pa_cons (pv 3) pa_nil)) pa_nil)) (pg_name (i := 7) scPairs.nd rfl (.inl rfl))
        (pss_one (ps_for PassesOwn.never rfl (pi_range2 (by rfl) T.nRange (pa_cons (pe_op op_add (pv 7) pe_int) (pa_cons (pe_callB call_len (by rfl) T.nLen (by decide +kernel) (pa_cons (pv 3) pa_nil)) pa_nil))) (pg_name (i := 8) scPairs.nd rfl (.inl rfl))
          (pss_one (ps_if (pt_cmpR op_eq (pe_c Tk hr (by decide) (by rfl) (pa_cons (pv 0) (pa_cons (pv 6) pa_nil))) pe_int (nomark _))
            (pss_one (ps_expr (pe_bm PySem.F.plainAttrs_list PySem.F.slot_list_append PySem.F.type_list_append mt_append (pv 5) (pa_cons (pe_tup (pa_cons (pe_ix ix_list (pv 3) (pv 7) (fun _ _ => rfl)) (pa_cons (pe_ix ix_list (pv 3) (pv 8) (fun _ _ => rfl)) pa_nil))) pa_nil)))) pss_nil)))))
      (pss_one (ps_ret (pv 5)))))))), ?_⟩
    have hlen : ((ns.map V.str).length : Int) = ns.length := by rw [List.length_map]
    refine ⟨.ref m, rfl, m, _, rfl, .inl (.inl (.inl hm)), fun r nr => ?_⟩
    have e1 : Same H (upd H r (.lst (ns.map V.str))) := same_new nr
    have hr1 : LstS (upd H r (.lst (ns.map V.str))) r ns := upd_same
    have kp1 : Keep (· = p) H (upd H r (.lst (ns.map V.str))) := Keep.of e1
    have hp1 : PoolAt (upd H r (.lst (ns.map V.str))) p := let ⟨c, k, b, h⟩ := hp; ⟨c, k, b, e1 _ _ h⟩
    generalize upd H r (.lst (ns.map V.str)) = H1 at e1 hr1 kp1 hp1
    refine ⟨(by show 0 ≤ sizeLine; decide), fun l nl => ?_⟩
    have e2 : Same H1 (upd H1 l (.lst [])) := same_new nl
    have lr : l ≠ r := fun e => by rw [e, hr1] at nl; cases nl
    have nlH : H l = none := Same.none e1 nl
    refine ⟨.ref m, rfl, .ref m, ns.length, rfl, .inl ⟨_, .inl (.inl (e2 _ _ (e1 _ _ hm))), (List.length_map ..).symm⟩, ns.length, rfl, (by omega), (by have := ok.le; omega), ?_⟩
    refine for_range (lo := 0) (n := ns.length) (fun i σ H' => ∃ v4 v5 v6 v7 v8 ms fs, σ = [some (.ref p), some (.ref m), some (.ref r), some (.ref l), v4, v5, v6, v7, v8] ∧ Keep (· = p) H H' ∧ PoolAt H' p ∧ LstS H' r ms ∧ LstS H' l fs ∧ fs.length = i ∧ (fs ++ ms).Perm ns)
      ⟨_, _, _, _, _, ns, [], rfl, kp1.same e2, let ⟨c, k, b, h⟩ := hp1; ⟨c, k, b, e2 _ _ h⟩, e2 _ _ hr1, upd_same, rfl, List.Perm.refl _⟩ ?_ ?_
    · rintro i σ H' hi ⟨v4, v5, v6, v7, v8, ms, fs, rfl, kp, hp, hm, hl, fl, pm⟩
      have len : fs.length + ms.length = ns.length := by
        have := pm.length_eq
        rw [List.length_append] at this
        exact this
      have n8 := ok.le
      have pl := hp.ne hl
      have pm' := hp.ne hm
      refine ⟨.ref l, rfl, .inl ⟨rfl, _, .inl (.inl hl)⟩, .ref r, rfl, .inl ⟨rfl, _, .inl (.inl hm)⟩, .ref p, rfl, .ref r, rfl, .ref r, ms.length, rfl, .inl ⟨_, .inl (.inl hm), (List.length_map ..).symm⟩, p, ms.length, rfl, hp, (by omega), (by omega), fun z H2 r0 r1 kp2 hp2 => ?_⟩
      have hm2 := kp2 _ _ hm pm'.symm
      have hl2 := kp2 _ _ hl pl.symm
      obtain ⟨y, hy⟩ : ∃ y, ms[z.toNat]? = some y := ⟨ms[z.toNat]'(by omega), List.getElem?_eq_getElem (by omega)⟩
      refine ⟨r, _, z, z.toNat, .str y, rfl, rfl, hm2, (by omega), (by omega), seqIx r0 (by rw [List.length_map]; exact r1), by rw [List.getElem?_map, hy]; rfl, ?_⟩
      have hl3 : upd H2 r (.lst ((ms.map V.str).eraseIdx z.toNat)) l = some (.lst (fs.map V.str)) := (upd_ne lr).trans hl2
      refine ⟨l, _, _, rfl, rfl, hl3, (by rw [List.length_map]; exact smallL (by omega)), ?_⟩
      refine ⟨_, _, _, _, _, ms.eraseIdx z.toNat, fs ++ [y], rfl, ((kp.trans kp2).newm nr _).newm nlH _, (hp2.upd pm' _).upd pl _, ?_, ?_, ?_, (move_perm hy).trans pm⟩
      · show upd _ l _ r = _
        rw [upd_ne lr.symm, upd_same, map_erase]
      · show upd _ l _ l = _
        rw [upd_same, List.map_append]
        rfl
      · rw [List.length_append, fl]
        rfl
    rintro σ H2 ⟨v4, v5, v6, v7, v8, ms, ls, rfl, kp, hp, hm, hl, fl, pmm⟩
    have pm2 : ls.Perm ns := by
      have h := pmm.length_eq
      rw [List.length_append, fl] at h
      have : ms = [] := List.length_eq_zero_iff.mp (by omega)
      rw [this, List.append_nil] at pmm
      exact pmm
    have nd : ls.Nodup := pm2.nodup_iff.mpr ok.nd
    have n8 : ls.length ≤ 8 := by rw [fl]; exact ok.le
    -- found, dense
    refine ⟨(by show 0 ≤ sizeLine; decide), fun f nf => ?_⟩
    have e3 : Same H2 (upd H2 f (.lst [])) := same_new nf
    have hp3 : PoolAt (upd H2 f (.lst [])) p := let ⟨c, k, b, h⟩ := hp; ⟨c, k, b, e3 _ _ h⟩
    have hl3 := e3 _ _ hl
    have hf3 : upd H2 f (.lst []) f = some (.lst []) := upd_same
    have pf : p ≠ f := fun e => by
      obtain ⟨c, k, b, h⟩ := hp
      rw [e, nf] at h
      cases h
    have pl := hp.ne hl
    have fl' : f ≠ l := fun e => by rw [e, hl] at nf; cases nf
    have nfH : H f = none := by
      cases e : H f with
      | none => rfl
      | some o => rw [kp _ _ e (fun h => pf h.symm)] at nf; cases nf
    have kp3 := kp.same e3
    generalize upd H2 f (.lst []) = H3 at e3 hp3 hl3 hf3 kp3
    refine ⟨.ref p, rfl, p, 3, rfl, hp3, (by decide), (by decide), fun d H4 d0 d1 kp4 hp4 => ⟨2, d, rfl, rfl, ?_⟩⟩
    have hl4 := kp4 _ _ hl3 pl.symm
    have hf4 := kp4 _ _ hf3 pf.symm
    have kp4' := kp3.trans kp4
    refine ⟨.ref l, rfl, .ref l, ls.length, rfl, .inl ⟨_, .inl (.inl hl4), (List.length_map ..).symm⟩, ls.length, rfl, (by omega), (by omega), ?_⟩
    have GP : ∀ ps : List (Str × Str), True := fun _ => trivial
    refine for_range (lo := 0) (n := ls.length) (fun i σ H' => ∃ v7 v8 ps, σ = [some (.ref p), some (.ref m), some (.ref r), some (.ref l), v4, some (.ref f), some (.int (2 + d)), v7, v8] ∧ Keep (· = p) H H' ∧ PoolAt H' p ∧ LstS H' l ls ∧ LstP H' f ps ∧ ps.length ≤ 8 * i ∧ ∀ x y, (x, y) ∈ ps → ∃ i j : Nat, i < j ∧ ls[i]? = some x ∧ ls[j]? = some y)
      ⟨_, _, [], rfl, kp4', hp4, hl4, ⟨[], hf4, .nil⟩, Nat.zero_le _, (by intro x y h; cases h)⟩ ?_ ?_
    · rintro i σ H' hi ⟨v7, v8, ps, rfl, kp, hp, hl, hf, pl8, pij⟩
      refine ⟨_, rfl, _, 1, rfl, rfl, .ref l, rfl, .ref l, ls.length, rfl, .inl ⟨_, .inl (.inl hl), (List.length_map ..).symm⟩, (0 + i : Int) + 1, ls.length, rfl, ⟨by omega, by omega, by omega, by omega⟩, ?_⟩
      refine for_range (lo := (0 + i : Int) + 1) (n := ((ls.length : Int) - ((0 + i : Int) + 1)).toNat) (fun t σ H' => ∃ v8 ps, σ = [some (.ref p), some (.ref m), some (.ref r), some (.ref l), v4, some (.ref f), some (.int (2 + d)), some (.int (0 + i : Int)), v8] ∧ Keep (· = p) H H' ∧ PoolAt H' p ∧ LstS H' l ls ∧ LstP H' f ps ∧ ps.length ≤ 8 * i + t ∧ ∀ x y, (x, y) ∈ ps → ∃ i j : Nat, i < j ∧ ls[i]? = some x ∧ ls[j]? = some y)
        ⟨_, ps, rfl, kp, hp, hl, hf, pl8, pij⟩ ?_ ?_
      · rintro t σ H' ht ⟨v8, ps, rfl, kp, hp, hl, hf, pl8, pij⟩
        refine ⟨.ref p, rfl, _, rfl, p, _, rfl, hp, (by omega), (by omega), fun z H5 z0 z1 kp5 hp5 => ?_⟩
        have hl5 := kp5 _ _ hl pl.symm
        have hf5 := hf.keep hp kp5 pf.symm
        refine ⟨rfl, _, rfl, ?_⟩
        by_cases c : z = 0
        · rw [decide_eq_true (congrArg V.int c)]
          refine iteT ?_
          obtain ⟨xs, hx, px⟩ := hf5
          obtain ⟨x, hx1⟩ : ∃ x, ls[i]? = some x := ⟨ls[i], List.getElem?_eq_getElem hi⟩
          obtain ⟨y, hy1⟩ : ∃ y, ls[i + 1 + t]? = some y := ⟨ls[i + 1 + t]'(by omega), List.getElem?_eq_getElem (by omega)⟩
          refine ⟨.ref f, rfl, .inl ⟨rfl, _, .inl (.inl hx)⟩, .ref l, rfl, _, rfl, l, _, _, .str x, rfl, rfl, .inl (.inl hl5), ?_, .ref l, rfl, _, rfl, l, _, _, .str y, rfl, rfl, .inl (.inl hl5), ?_, (by show 2 ≤ sizeLine; decide), fun u nu => ?_⟩
          · rw [Int.zero_add]
            exact atI_nat (by rw [List.getElem?_map, hx1]; rfl)
          · rw [show ((0 + i : Int) + 1 + t) = ((i + 1 + t : Nat) : Int) by omega]
            exact atI_nat (by rw [List.getElem?_map, hy1]; rfl)
          have e6 : Same H5 (upd H5 u (.tup [.str x, .str y])) := same_new nu
          have len := px.length
          refine ⟨f, _, _, rfl, rfl, e6 _ _ hx, smallL (by omega), ?_⟩
          have ft : ∀ {c : Addr} {ys : List V}, upd H5 u (.tup [.str x, .str y]) c = some (.tup ys) → upd (upd H5 u (.tup [.str x, .str y])) f (.lst (xs ++ [.ref u])) c = some (.tup ys) := fun h => (upd_ne fun e => by rw [e, e6 _ _ hx] at h; cases h).trans h
          refine ⟨_, ps ++ [(x, y)], rfl, ((kp.trans kp5).same e6).newm nfH _, ?_, ?_, ⟨_, upd_same, ?_⟩, ?_, fun x' y' h => ?_⟩
          · obtain ⟨c, k, b, h⟩ := hp5
            exact ⟨c, k, b, (upd_ne pf).trans (e6 _ _ h)⟩
          · exact (upd_ne fl'.symm).trans (e6 _ _ hl5)
          · exact (L2.Paired.mapP px fun _ _ ⟨r, e1, h⟩ => ⟨r, e1, ft (e6 _ _ h)⟩).snoc ⟨u, rfl, ft upd_same⟩
          · rw [List.length_append, List.length_cons, List.length_nil]
            omega
          · rcases List.mem_append.mp h with h | h
            · exact pij _ _ h
            · rw [List.mem_singleton] at h
              injection h with h1 h2
              subst h1
              subst h2
              exact ⟨i, i + 1 + t, by omega, hx1, hy1⟩
        · rw [decide_eq_false (fun h => c (V.int.inj h))]
          refine iteF ?_
          exact ⟨_, ps, rfl, kp.trans kp5, hp5, hl5, hf5, by omega, pij⟩
      · rintro σ H' ⟨v8, ps, rfl, kp, hp, hl, hf, pl8, pij⟩
        exact ⟨_, _, ps, rfl, kp, hp, hl, hf, by omega, pij⟩
    · rintro σ H' ⟨v7, v8, ps, rfl, kp, hp, hl, hf, pl8, pij⟩
      refine ⟨.ref f, rfl, q f ps H' nfH kp hp hf ⟨fun x y h => ?_, ⟨ls.idxOf, fun x y h => ?_⟩, by omega⟩⟩
      · obtain ⟨i, j, _, h1, h2⟩ := pij x y h
        exact ⟨pm2.mem_iff.mp (List.mem_of_getElem? h1), pm2.mem_iff.mp (List.mem_of_getElem? h2)⟩
      · obtain ⟨i, j, hij, h1, h2⟩ := pij x y h
        refine ⟨idx_lt nd h1 h2 hij, ?_⟩
        rw [← pm2.length_eq]
        exact List.idxOf_lt_length_iff.mpr (List.mem_of_getElem? h2)
end
end OT
end

section
set_option Elab.async false
set_option linter.all false
set_option maxRecDepth 100000
set_option maxHeartbeats 4000000
namespace OT
open PySem PySem.Spec PyProof.Rows L2 OTR
open C8 (Cal Mak Met pe_c pe_mk pe_mt pe_mt0)
section
variable {P : Program} {w : World} {K : PySem.W.Frag} {mg : Str → Option Value} {base : Heap} {a : Ads}
/-! ### the web -/
/-- at d, for each of ns, the list of what lies above it by R -/
def WebAt (H : Hp) (d : Addr) (ns : List Str) (R : Str → Str → Bool) : Prop := ∃ (wd : Str → Addr) (up : Str → List Str), H d = some (SD ns fun x => .ref (wd x)) ∧ ∀ x ∈ ns, H (wd x) = some (.lst ((up x).map V.str)) ∧ (up x).Nodup ∧ ∀ y, y ∈ up x ↔ y ∈ ns ∧ R x y = true
theorem WebAt.same {H H' : Hp} {d : Addr} {ns : List Str} {R : Str → Str → Bool} (h : WebAt H d ns R) (e : Same H H') : WebAt H' d ns R :=
  let ⟨wd, up, h1, h2⟩ := h
  ⟨wd, up, e _ _ h1, fun x hx => ⟨e _ _ (h2 x hx).1, (h2 x hx).2⟩⟩
open Classical in
noncomputable def relP (ns : List Str) (ps : List (Str × Str)) : Str → Str → Bool := fun x y => decide (x ∈ ns ∧ Reach ps x y)
open Classical in
theorem relP_iff {ns : List Str} {ps : List (Str × Str)} {x y : Str} : relP ns ps x y = true ↔ x ∈ ns ∧ Reach ps x y := by
  unfold relP
  rw [decide_eq_true_eq]
theorem reach_in {ns : List Str} {ps : List (Str × Str)} (ip : InP ns ps) {x y : Str} (hx : x ∈ ns) (h : Reach ps x y) : y ∈ ns := by
  induction h with
  | refl _ => exact hx
  | step g _ ih => exact ih (ip _ _ g).2
theorem relP_po {ns : List Str} {ps : List (Str × Str)} (o : OkP ns ps) : PO ns (relP ns ps) := by
  obtain ⟨rk, hrk⟩ := o.rk
  refine ⟨fun x y h => ?_, fun x hx => relP_iff.mpr ⟨hx, .refl x⟩, fun x y z h1 h2 => ?_, fun x y h1 h2 => ?_⟩
  · obtain ⟨h1, h2⟩ := relP_iff.mp h
    exact ⟨h1, reach_in o.ip h1 h2⟩
  · obtain ⟨h1, h3⟩ := relP_iff.mp h1
    obtain ⟨_, h4⟩ := relP_iff.mp h2
    exact relP_iff.mpr ⟨h1, h3.trans h4⟩
  · obtain ⟨_, h3⟩ := relP_iff.mp h1
    obtain ⟨_, h4⟩ := relP_iff.mp h2
    rcases reach_idx (ix := rk) (fun x y h => (hrk x y h).1) h3 with h | h
    · exact h
    · rcases reach_idx (ix := rk) (fun x y h => (hrk x y h).1) h4 with h' | h'
      · exact h'.symm
      · omega
theorem walk_strs {b : Addr} {l : List Str} : Walk (Itl K b) l.length (fun H => SqL K H b (l.map V.str)) (YAt (l.map V.str)) := by
  have := walk_list (K := K) (a := b) (xs := l.map V.str)
  rw [List.length_map] at this
  exact this
abbrev sAbove : Stmt := top 48
abbrev nAbove : List Str := ["_law_names_here", "_law_pairs_here", "_law_above_here", "_law_name", "_law_turn", "_law_low", "_law_high"]
theorem scAbove : FnScope nAbove ["_law_names_here", "_law_pairs_here"] (defScope sAbove) := ⟨rfl, rfl, rfl, by decide +kernel, rfl, by decide +kernel, by decide +kernel⟩
def spAbove : Sp := fun vs H Q _ => ∃ (m r : Addr) (ns : List Str) (ps : List (Str × Str)), vs = [.ref m, .ref r] ∧ LstS H m ns ∧ LstP H r ps ∧ OkNs ns ∧ OkP ns ps ∧ ∀ d H2, H d = none → Same H H2 → WebAt H2 d ns (relP ns ps) → Q (.ref d) H2
theorem rstep_iff (S : Str → Str → Prop) (p : Str × Str) (x y : Str) : rstep S p x y ↔ S x y ∨ (x = p.1 ∧ S p.2 y) := Iff.rfl
/-- the lists of the web on the way -/
structure AW (H H' : Hp) (d : Addr) (ns : List Str) (wd : Str → Addr) (up : Str → List Str) : Prop where
  same : Same H H'
  n : H d = none
  top : H' d = some (SD ns fun x => .ref (wd x))
  sub : ∀ x ∈ ns, H' (wd x) = some (.lst ((up x).map V.str)) ∧ (up x).Nodup ∧ ∀ y ∈ up x, y ∈ ns
theorem ok_Above (T : Fx K mg a) (D : DF K mg "_law_above" "_law_above" "_law_above" sAbove ["_law_names_here", "_law_pairs_here"]) : Cal P w K mg base 1 "_law_above" spAbove [] := by
  refine cal_of D scAbove (fun vs H Q E h => ?_) (fun f cdv B outer s H vs Q E hr h => ?_)
  · obtain ⟨m, r, ns, ps, rfl, _⟩ := h
    rfl
  · obtain ⟨m, r, ns, ps, rfl, hm, ⟨xs, hx, px⟩, ok, okp, q⟩ := h
    have hu := hu_of hr
    refine ⟨_, pss_cons (ps_set (i := 2) scAbove.nd rfl (.inr rfl) pe_dnewK)
      (pss_cons (ps_for PassesOwn.never rfl (pi_list (pv 0)) (pg_name (i := 3) scAbove.nd rfl (.inl rfl))
        (pss_one (ps_dput hu (pv 2) (pv 3) (pe_lst (pa_cons (pv 3) pa_nil)) rfl)))
      (pss_cons (ps_for PassesOwn.never rfl (pi_range1 (by rfl) T.nRange (pa_cons (pe_callB call_len (by rfl) T.nLen (by decide +kernel) (pa_cons (pv 0) pa_nil)) pa_nil)) (pg_name (i := 4) scAbove.nd rfl (.inl rfl))
        (pss_one (ps_for PassesOwn.never rfl (pi_list (pv 1)) (pg_tup rfl (pgs_cons (pg_name (i := 5) scAbove.nd rfl (.inr rfl)) (pgs_cons (pg_name (i := 6) scAbove.nd rfl (.inl rfl)) pgs_nil)))
          (pss_one (ps_dput hu (pv 2) (pv 5) (pe_op op_cat (pe_dget hu (pv 2) (pv 5) (fun _ _ => rfl)) (pe_lc rfl scAbove.nd (pi_list (pe_dget hu (pv 2) (pv 6) (fun _ _ => rfl))) (own := [("_law_name", 3)]) (blkOk_by (by kernel_rfl)) (fun _ _ _ _ _ => pg_name (i := 3) scAbove.nd rfl (.inl rfl))
            (fun _ _ _ _ _ => pts_one (pt_cmpR (r := rIn K true) op_notIn_seq (pv 3) (pe_dget hu (pv 2) (pv 5) (fun _ _ => rfl)) (by rfl))) (fun _ _ _ _ _ => pv 3))) rfl)))))
      (pss_one (ps_ret (pv 2))))), ?_⟩
    intro d nd
    have e0 : Same H (upd H d (.dK [])) := same_new nd
    refine ⟨.ref m, rfl, m, rfl, ⟨_, .inl (.inl (e0 _ _ hm))⟩, ?_⟩
    refine for_it (walk_list (xs := ns.map V.str)) (fun i σ H' => ∃ v3 v4 v5 v6 wd, σ = [some (.ref m), some (.ref r), some (.ref d), v3, v4, v5, v6] ∧ Same H H' ∧ H' d = some (SD (ns.take i) fun x => .ref (wd x)) ∧ ∀ x ∈ ns.take i, H' (wd x) = some (.lst [.str x]))
      ⟨_, _, _, _, fun _ => 0, rfl, e0, upd_same, (by intro x hx; cases hx)⟩ ?_ ?_ ?_
    · rintro i σ H' _ ⟨v3, v4, v5, v6, wd, rfl, e, _⟩
      exact .inl (.inl (e _ _ hm))
    · rintro i v σ _ H' hi ⟨v3, v4, v5, v6, wd, rfl, e, h1, h2⟩ ⟨rfl, e2⟩
      obtain ⟨z, hz, rfl⟩ := get_map e2
      have nz : z ∉ ns.take i := nodup_take ok.nd hz
      have et : ns.take (i + 1) = ns.take i ++ [z] := by rw [List.take_succ, hz]; rfl
      refine ⟨.str z, rfl, (by show 1 ≤ sizeLine; decide), fun l nl => ?_⟩
      have e3 : Same H' (upd H' l (.lst [.str z])) := same_new nl
      have ld : l ≠ d := fun h => by rw [h, h1] at nl; cases nl
      refine ⟨.ref d, rfl, .str z, rfl, d, _, rfl, DPut.k (k := .inr z) (e3 _ _ h1) (by rw [SK_length, List.length_take]; have := ok.le; exact smallL (by omega)), ?_⟩
      refine ⟨_, _, _, _, fun y => if y = z then l else wd y, rfl, Same.mut (e.trans e3) nd, ?_, fun x hx => ?_⟩
      · rw [upd_same, SK_put, et]
        unfold addS
        rw [if_neg nz]
        refine congrArg (fun l => some (HO.dK l)) (SK_congr fun y _ => ?_)
        unfold setF
        by_cases q : y = z
        · rw [if_pos q]
          exact congrArg V.ref (if_pos q).symm
        · rw [if_neg q]
          exact congrArg V.ref (if_neg q).symm
      · rw [et] at hx
        by_cases q : x = z
        · subst q
          simp only [if_true]
          rw [upd_ne ld, upd_same]
        · have hx := (List.mem_append.mp hx).elim id fun h => absurd (List.mem_singleton.mp h) q
          simp only [if_neg q]
          have := h2 x hx
          rw [upd_ne (fun h => by rw [h, h1] at this; cases this)]
          exact e3 _ _ this
    rintro σ H2 ⟨v3, v4, v5, v6, wd, rfl, e, h1, h2⟩
    rw [List.length_map, List.take_length] at h1 h2
    have A0 : AW H H2 d ns wd (fun x => [x]) := ⟨e, nd, h1, fun x hx => ⟨h2 x hx, by simp, fun y hy => by rw [List.mem_singleton] at hy; exact hy ▸ hx⟩⟩
    obtain ⟨rk, hrk⟩ := okp.rk
    refine ⟨.ref m, rfl, .ref m, ns.length, rfl, .inl ⟨_, .inl (.inl (e _ _ hm)), (List.length_map ..).symm⟩, ns.length, rfl, (by omega), (by have := ok.le; omega), ?_⟩
    refine for_range (lo := 0) (n := ns.length) (fun i σ H' => ∃ v3 v4 v5 v6 wd up, σ = [some (.ref m), some (.ref r), some (.ref d), v3, v4, v5, v6] ∧ AW H H' d ns wd up ∧ ∀ x ∈ ns, ∀ y, y ∈ up x ↔ rnds (fun x y => x = y) ps i x y)
      ⟨_, _, _, _, wd, _, rfl, A0, fun x _ y => by rw [List.mem_singleton]; exact eq_comm⟩ ?_ ?_
    · rintro i σ H' hi ⟨v3, v4, v5, v6, wd, up, rfl, A, rel⟩
      refine ⟨.ref r, rfl, r, rfl, ⟨_, .inl (.inl (A.same _ _ hx))⟩, ?_⟩
      have hrn : rnds (fun x y => x = y) ps (i + 1) = rnd (rnds (fun x y => x = y) ps i) ps := rfl
      rw [hrn]
      generalize rnds (fun x y : Str => x = y) ps i = S at rel
      refine for_it (walk_list (xs := xs)) (fun j σ H' => ∃ v3 v5 v6 wd up, σ = [some (.ref m), some (.ref r), some (.ref d), v3, some (.int (0 + i : Int)), v5, v6] ∧ AW H H' d ns wd up ∧ ∀ x ∈ ns, ∀ y, y ∈ up x ↔ rnd S (ps.take j) x y)
        ⟨_, _, _, wd, up, rfl, A, rel⟩ ?_ ?_ ?_
      · rintro i σ H' _ ⟨v3, v5, v6, wd, up, rfl, A, _⟩
        exact .inl (.inl (A.same _ _ hx))
      · rintro j v σ _ H' hj ⟨v3, v5, v6, wd, up, rfl, A, rel⟩ ⟨rfl, ev⟩
        obtain ⟨⟨x, y⟩, hp, t, rfl, ht⟩ := paired_get px ev
        obtain ⟨xn, yn⟩ := okp.ip x y (List.mem_of_getElem? hp)
        have et : ps.take (j + 1) = ps.take j ++ [(x, y)] := by rw [List.take_succ, hp]; rfl
        obtain ⟨u1, u2, u3⟩ := A.sub x xn
        obtain ⟨w1, w2, w3⟩ := A.sub y yn
        have l1 := nodup_le u2 u3
        have l2 := nodup_le w2 w3
        have n8 := ok.le
        refine ⟨t, _, rfl, .inl (.inl (A.same _ _ ht)), rfl, _, _, rfl, _, _, rfl, rfl, ?_⟩
        have dget : ∀ {H2 : Hp} {z : Str}, z ∈ ns → Same H' H2 → DGet H2 d (.str z) (some (.ref (wd z))) := fun {H2 z} hz e => .inl ⟨_, .inr z, .inl (e _ _ A.top), rfl, (SK_in (f := fun x => .ref (wd x)) hz).symm⟩
        refine ⟨.ref d, rfl, .str x, rfl, d, .ref (wd x), rfl, dget xn (fun _ _ e => e), .ref d, rfl, .str y, rfl, d, .ref (wd y), rfl, dget yn (fun _ _ e => e), wd y, rfl, ⟨_, .inl (.inl w1)⟩, fun D nD => ?_⟩
        have Dd : D ≠ d := fun h => by rw [h, A.top] at nD; cases nD
        have sD : ∀ acc, Same H' (upd H' D (.lst acc)) := fun acc => same_new nD
        refine lc_pure (up y) walk_strs (fun z => decide (z ∉ up x)) V.str (by omega) (fun acc => .inl (.inl (sD acc _ _ w1))) (fun k z v acc Hx Nx hk ⟨eH, ev⟩ hal k1 k2 => ?_) ?_
        · subst eH
          obtain ⟨z', hz', rfl⟩ := get_map ev
          rw [hk] at hz'
          injection hz' with hz'
          subst hz'
          refine ⟨rfl, .str z, rfl, .ref d, rfl, .str x, rfl, d, .ref (wd x), rfl, dget xn (sD acc), wd x, _, rfl, .inl (.inl (.inl (sD acc _ _ u1))), rfl, flat_strs _, _, rfl, ?_⟩
          rw [inV_str]
          by_cases c : z ∈ up x
          · rw [decide_eq_true c]
            refine iteF ?_
            exact k2 (decide_eq_false (fun h => h c))
          · rw [decide_eq_false c]
            refine iteT ?_
            refine ⟨.str z, rfl, acc, upd_same, hal, ?_⟩
            rw [upd_upd]
            exact k1 (decide_eq_true c)
        · refine ⟨wd x, D, _, _, rfl, rfl, sD _ _ _ u1, upd_same, ?_, fun l nl => ?_⟩
          · have := List.length_filter_le (fun z => decide (z ∉ up x)) (up y)
            rw [List.length_map, List.length_map]
            exact small (by omega)
          · have e3 := (sD (((up y).filter fun z => decide (z ∉ up x)).map V.str)).trans (same_new (o := .lst ((up x).map V.str ++ ((up y).filter fun z => decide (z ∉ up x)).map V.str)) nl)
            have hl3 : upd (upd H' D (.lst (((up y).filter fun z => decide (z ∉ up x)).map V.str))) l (.lst ((up x).map V.str ++ ((up y).filter fun z => decide (z ∉ up x)).map V.str)) l = some (.lst ((up x).map V.str ++ ((up y).filter fun z => decide (z ∉ up x)).map V.str)) := upd_same
            generalize upd (upd H' D (.lst (((up y).filter fun z => decide (z ∉ up x)).map V.str))) l (.lst ((up x).map V.str ++ ((up y).filter fun z => decide (z ∉ up x)).map V.str)) = H3 at e3 hl3
            have top3 := e3 _ _ A.top
            refine ⟨.ref d, rfl, .str x, rfl, d, _, rfl, DPut.k (k := .inr x) top3 (by rw [SK_length]; exact smallL (by omega)), ?_⟩
            have ld : l ≠ d := fun h => by rw [h, top3] at hl3; cases hl3
            refine ⟨_, _, _, fun z => if z = x then l else wd z, fun z => if z = x then up x ++ (up y).filter (fun z => decide (z ∉ up x)) else up z, rfl, ⟨Same.mut (A.same.trans e3) nd, nd, ?_, fun z hz => ?_⟩, fun z hz t => ?_⟩
            · rw [upd_same, SK_put]
              unfold addS
              rw [if_pos xn]
              refine congrArg (fun l => some (HO.dK l)) (SK_congr fun y _ => ?_)
              unfold setF
              by_cases q : y = x
              · rw [if_pos q]
                exact congrArg V.ref (if_pos q).symm
              · rw [if_neg q]
                exact congrArg V.ref (if_neg q).symm
            · by_cases q : z = x
              · simp only [if_pos q]
                rw [upd_ne ld, hl3, List.map_append]
                refine ⟨rfl, List.nodup_append.mpr ⟨u2, w2.filter _, ?_⟩, fun t ht => ?_⟩
                · rintro t ht s hs rfl
                  exact of_decide_eq_true (List.mem_filter.mp hs).2 ht
                · rcases List.mem_append.mp ht with h | h
                  · exact u3 t h
                  · exact w3 t (List.mem_filter.mp h).1
              · simp only [if_neg q]
                obtain ⟨s1, s2, s3⟩ := A.sub z hz
                have s4 := e3 _ _ s1
                rw [upd_ne (fun h => by rw [h, top3] at s4; cases s4)]
                exact ⟨s4, s2, s3⟩
            · rw [et, rnd_snoc, rstep_iff]
              by_cases q : z = x
              · subst q
                show t ∈ (if z = z then _ else _) ↔ _
                rw [if_pos rfl, List.mem_append, List.mem_filter, decide_eq_true_eq, rel z hz, rel y yn]
                constructor
                · rintro (h | ⟨h, _⟩)
                  · exact .inl h
                  · exact .inr ⟨rfl, h⟩
                · rintro (h | ⟨_, h⟩)
                  · exact .inl h
                  · by_cases c : rnd S (ps.take j) z t
                    · exact .inl c
                    · exact .inr ⟨h, c⟩
              · simp only [if_neg q]
                rw [rel z hz]
                exact ⟨.inl, fun h => h.elim id fun h => absurd h.1 q⟩
      · rintro σ H' ⟨v3, v5, v6, wd, up, rfl, A, rel⟩
        rw [px.length, List.take_length] at rel
        exact ⟨_, _, _, _, wd, up, rfl, A, rel⟩
    · rintro σ H' ⟨v3, v4, v5, v6, wd, up, rfl, A, rel⟩
      refine ⟨.ref d, rfl, q d H' nd A.same ⟨wd, up, A.top, fun x hx => ⟨(A.sub x hx).1, (A.sub x hx).2.1, fun y => ?_⟩⟩⟩
      rw [rel x hx, rnds_reach (ix := rk) (fun _ _ => Iff.rfl) (fun x y h => (hrk x y h).1) (fun x y h => (hrk x y h).2), relP_iff]
      constructor
      · intro h
        exact ⟨reach_in okp.ip hx h, hx, h⟩
      · exact fun h => h.2.2
end
end OT
end

section
set_option Elab.async false
set_option linter.all false
set_option maxRecDepth 100000
set_option maxHeartbeats 4000000
namespace OT
open PySem PySem.Spec PyProof.Rows L2 OTR
open C8 (Cal Mak Met pe_c pe_mk pe_mt pe_mt0)
theorem lc_grow {α : Type} {J : It} {G : Hp → Prop} {Y : Nat → Hp → V → Hp → Prop} (l : List α) (w : Walk J l.length G Y) {g : TG} {tt : TT} {te : TE} {vs : List Nat} {σ : L2.St} {H1 : Hp} {D : Addr} {Qd : Hp → Prop}
    (pb : α → Bool) (f : α → V) (hn : l.length ≤ 100000) (nD : H1 D = none) (hG : ∀ H, Same H1 H → G H)
    (hs : ∀ i x v H H' (Nx : Hp → Prop), l[i]? = some x → Same H1 H → Y i H v H' → (∃ acc, H D = some (.lst acc) ∧ acc.length < sizeLine) →
      (pb x = true → ∀ H5 acc, Same H H5 → H5 D = some (.lst acc) → Nx (upd H5 D (.lst (acc ++ [f x])))) → (pb x = false → ∀ H5, Same H H5 → Nx H5) →
      g v (wipe σ vs) H' fun σ2 H2 => wipe σ2 vs = wipe σ vs ∧ tt σ2 H2 fun b H3 => if b = true then te σ2 H3 fun y H4 => ∃ acc, H4 D = some (.lst acc) ∧ acc.length < sizeLine ∧ Nx (upd H4 D (.lst (acc ++ [y]))) else Nx H3)
    (hd : ∀ H, Same H1 H → H D = some (.lst ((l.filter pb).map f)) → Qd H) :
    ∃ W : Nat → Nat → Hp → Prop, (∃ m, W 0 m (upd H1 D (.lst []))) ∧ ∀ i m H, W i m H →
      (J.stop i H ∧ Qd H) ∨ (J.go i H ∧ ∃ Nx : Hp → Prop, (∀ H', Nx H' → ∃ m', m' < m ∧ W (i + 1) m' H') ∧ ∀ x H', J.yld i H x H' → g x (wipe σ vs) H' fun σ2 H2 => wipe σ2 vs = wipe σ vs ∧ tt σ2 H2 fun b H3 =>
        if b = true then te σ2 H3 fun y H4 => ∃ acc, H4 D = some (.lst acc) ∧ acc.length < sizeLine ∧ Nx (upd H4 D (.lst (acc ++ [y]))) else Nx H3) := by
  refine lc_it w (fun i H => Same H1 H ∧ H D = some (.lst (((l.take i).filter pb).map f))) ⟨same_new nD, upd_same⟩ (fun i H _ h => hG H h.1) ?_ ?_
  · rintro i v H H' hi ⟨e, hx⟩ y
    obtain ⟨x, hx2⟩ : ∃ x, l[i]? = some x := ⟨l[i], by simp [hi]⟩
    have len : (((l.take i).filter pb).map f).length < sizeLine := by
      have h2 : ((l.take i).filter pb).length ≤ (l.take i).length := List.length_filter_le _ _
      rw [List.length_take] at h2
      rw [List.length_map]
      exact smallL (by omega)
    refine hs i x v H H' _ hx2 e y ⟨_, hx, len⟩ (fun hb H5 acc e5 hD => ?_) (fun hb H5 e5 => ?_)
    · have hD' := e5 _ _ hx
      rw [hD] at hD'
      injection hD' with hD'
      injection hD' with hD'
      subst hD'
      refine ⟨Same.mut (e.trans e5) nD, ?_⟩
      rw [upd_same, List.take_succ, hx2]
      simp only [Option.toList, List.filter_append, List.filter_cons, hb, if_true, List.filter_nil, List.map_append, List.map_cons, List.map_nil]
    · refine ⟨e.trans e5, (e5 _ _ hx).trans ?_⟩
      rw [List.take_succ, hx2]
      simp only [Option.toList, List.filter_append, List.filter_cons, hb, Bool.false_eq_true, if_false, List.filter_nil, List.append_nil]
  · rintro H ⟨e, h⟩
    rw [List.take_length] at h
    exact hd H e h
theorem dp_strs {K : PySem.W.Frag} {H : Hp} : ∀ l : List Str, DpAll K H (l.map V.str) (l.map PyData.str)
  | [] => .nil
  | x :: l => .cons (.str x) (dp_strs l)
theorem depth_strs : ∀ l : List Str, PyData.depthAll (l.map PyData.str) = 0
  | [] => by simp [PyData.depthAll]
  | x :: l => by
    have := depth_strs l
    simp only [List.map_cons, PyData.depthAll, this]
    simp [PyData.depth]
theorem menu_strOk : ∀ x ∈ menuN, PyData.canLay0 (.str x) = true := by
  have h : (menuN.all fun x => PyData.canLay0 (.str x)) = true := by decide +kernel
  exact fun x hx => List.all_eq_true.mp h x hx
theorem lay_strs : ∀ l : List Str, (∀ x ∈ l, x ∈ menuN) → PyData.canLayAll0 (l.map PyData.str) = true
  | [], _ => by simp [PyData.canLayAll0]
  | x :: l, h => by
    rw [List.map_cons, PyData.canLayAll0, menu_strOk x (h x List.mem_cons_self), lay_strs l fun y hy => h y (List.mem_cons_of_mem _ hy)]
    rfl
theorem shaped_strs {l : List Str} (hm : ∀ x ∈ l, x ∈ menuN) : SeqAt.shaped (.list (l.map PyData.str)) = true := by
  simp [SeqAt.shaped, PyData.canLay0, lay_strs l hm, PyData.depth, depth_strs]
theorem eqv_nil (l : List Str) : PyData.eqv (.list (l.map PyData.str)) (.list []) = l.isEmpty := by
  cases l <;> simp [PyData.eqv, PyData.eqvAll]
section
variable {P : Program} {w : World} {K : PySem.W.Frag} {mg : Str → Option Value} {base : Heap} {a : Ads}
/-! ### covers -/
abbrev sCov : Stmt := top 49
abbrev nCov : List Str := ["_law_names_here", "_law_above_here", "_law_found", "_law_low", "_law_high", "_law_between", "_law_name"]
theorem scCov : FnScope nCov ["_law_names_here", "_law_above_here"] (defScope sCov) := ⟨rfl, rfl, rfl, by decide +kernel, rfl, by decide +kernel, by decide +kernel⟩
def spCov : Sp := fun vs H Q _ => ∃ (m d : Addr) (ns : List Str) (R : Str → Str → Bool), vs = [.ref m, .ref d] ∧ LstS H m ns ∧ WebAt H d ns R ∧ OkNs ns ∧ PO ns R ∧ ∀ l ps H2, H l = none → Same H H2 → LstP H2 l ps → (∀ x y, (x, y) ∈ ps ↔ Cov ns R x y) → Q (.ref l) H2
theorem ok_Cov (T : Fx K mg a) (D : DF K mg "_law_covers" "_law_covers" "_law_covers" sCov ["_law_names_here", "_law_above_here"]) : Cal P w K mg base 1 "_law_covers" spCov [] := by
  refine cal_of D scCov (fun vs H Q E h => ?_) (fun f cdv B outer s H vs Q E hr h => ?_)
  · obtain ⟨m, d, ns, R, rfl, _⟩ := h
    rfl
  · obtain ⟨m, d, ns, R, rfl, hm, ⟨wd, up, hd, hw⟩, ok, po, q⟩ := h
    have hu := hu_of hr
    refine ⟨_, pss_cons (ps_set (i := 2) scCov.nd rfl (.inl rfl) (pe_lst pa_nil))
      (pss_cons (ps_for PassesOwn.never rfl (pi_list (pe_callB cr_sortedS (by rfl) T.nSorted (by decide +kernel) (pa_cons (pv 0) pa_nil))) (pg_name (i := 3) scCov.nd rfl (.inr rfl))
        (pss_one (ps_for PassesOwn.never rfl (pi_list (pe_callB cr_sortedS (by rfl) T.nSorted (by decide +kernel) (pa_cons (pe_dget hu (pv 1) (pv 3) (fun _ _ => rfl)) pa_nil))) (pg_name (i := 4) scCov.nd rfl (.inr rfl))
          (pss_cons (ps_setLc (i := 5) rfl scCov.nd rfl rfl (sw_true rfl rfl rfl (by decide +kernel)) (pi_list (pe_dget hu (pv 1) (pv 3) (fun _ _ => rfl))) (own := [("_law_name", 6)]) (blkOk_by (by kernel_rfl)) (fun _ _ _ _ _ => pg_name (i := 6) scCov.nd rfl (.inl rfl))
            (fun _ _ _ _ _ => pts_one (pw_and (pt_cmpR (r := rIn K true) op_notIn_seq (pv 6) (pe_lst (pa_cons (pv 3) (pa_cons (pv 4) pa_nil))) (by rfl)) (pw_and1 (pt_cmpR (r := rIn K false) op_in_seq (pv 4) (pe_dget hu (pv 1) (pv 6) (fun _ _ => rfl)) (by rfl)))).pt) (fun _ _ _ _ _ => pv 6))
          (pss_one (ps_if (pw_and (pt_cmpR op_ne (pv 4) (pv 3) (nomark _)) (pw_and1 (pt_cmpR (op_eqD hr.units) (pv 5) (pe_lst pa_nil) (nomark _)))).pt
            (pss_one (ps_expr (pe_bm PySem.F.plainAttrs_list PySem.F.slot_list_append PySem.F.type_list_append mt_append (pv 2) (pa_cons (pe_tup (pa_cons (pv 3) (pa_cons (pv 4) pa_nil))) pa_nil)))) pss_nil))))))
      (pss_one (ps_ret (pv 2)))), ?_⟩
    refine ⟨(by show 0 ≤ sizeLine; decide), fun f nf => ?_⟩
    have e1 : Same H (upd H f (.lst [])) := same_new nf
    have hf1 : upd H f (.lst []) f = some (.lst []) := upd_same
    generalize upd H f (.lst []) = H1 at e1 hf1
    have n8 := ok.le
    refine ⟨.ref m, rfl, m, ns, rfl, .inl (.inl (e1 _ _ hm)), (by omega), fun sn l1 pm _ n1 => ?_⟩
    have e2 := e1.trans (same_new (o := .lst (sn.map V.str)) n1)
    have hf2 := same_new (o := .lst (sn.map V.str)) n1 _ _ hf1
    have hl1 : upd H1 l1 (.lst (sn.map V.str)) l1 = some (.lst (sn.map V.str)) := upd_same
    have l1f : l1 ≠ f := fun e => by rw [e, hf1] at n1; cases n1
    generalize upd H1 l1 (.lst (sn.map V.str)) = H2 at e2 hf2 hl1
    have sm : ∀ x, x ∈ sn ↔ x ∈ ns := fun x => pm.mem_iff
    refine ⟨l1, rfl, ⟨_, .inl (.inl hl1)⟩, ?_⟩
    refine for_it (walk_list (xs := sn.map V.str)) (fun i σ H' => ∃ v3 v4 v5 v6 ps, σ = [some (.ref m), some (.ref d), some (.ref f), v3, v4, v5, v6] ∧ Same H H' ∧ H' l1 = some (.lst (sn.map V.str)) ∧ LstP H' f ps ∧ ps.length ≤ 8 * i ∧ ∀ x y, (x, y) ∈ ps ↔ x ∈ sn.take i ∧ Cov ns R x y)
      ⟨_, _, _, _, [], rfl, e2, hl1, ⟨[], hf2, .nil⟩, Nat.zero_le _, fun x y => by simp⟩ ?_ ?_ ?_
    · rintro i σ H' _ ⟨v3, v4, v5, v6, ps, rfl, e, h, _⟩
      exact .inl (.inl h)
    · rintro i v σ _ H' hi ⟨v3, v4, v5, v6, ps, rfl, e, hl1, hf, len8, rel⟩ ⟨rfl, ev⟩
      obtain ⟨x, hx, rfl⟩ := get_map ev
      have xn : x ∈ ns := (sm x).mp (List.mem_of_getElem? hx)
      have et : sn.take (i + 1) = sn.take i ++ [x] := by rw [List.take_succ, hx]; rfl
      have dget : ∀ {H2 : Hp} {z : Str}, z ∈ ns → Same H H2 → DGet H2 d (.str z) (some (.ref (wd z))) := fun {H2 z} hz e => .inl ⟨_, .inr z, .inl (e _ _ hd), rfl, (SK_in (f := fun x => .ref (wd x)) hz).symm⟩
      obtain ⟨w1, w2, w3⟩ := hw x xn
      have ul : (up x).length ≤ 8 := by
        have := nodup_le w2 fun y hy => ((w3 y).mp hy).1
        omega
      refine ⟨.ref d, rfl, .str x, rfl, d, .ref (wd x), rfl, dget xn e, wd x, up x, rfl, .inl (.inl (e _ _ w1)), (by omega), fun ys l2 pmy _ n2 => ?_⟩
      have ym : ∀ y, y ∈ ys ↔ y ∈ up x := fun y => pmy.mem_iff
      have s3 : Same H' (upd H' l2 (.lst (ys.map V.str))) := same_new n2
      have hl2 : upd H' l2 (.lst (ys.map V.str)) l2 = some (.lst (ys.map V.str)) := upd_same
      have l2f : l2 ≠ f := fun h => by
        obtain ⟨xs, g, _⟩ := hf
        rw [h, g] at n2
        cases n2
      refine ⟨l2, rfl, ⟨_, .inl (.inl hl2)⟩, ?_⟩
      refine for_it (walk_list (xs := ys.map V.str)) (fun j σ H' => ∃ v4 v5 v6 ps, σ = [some (.ref m), some (.ref d), some (.ref f), some (.str x), v4, v5, v6] ∧ Same H H' ∧ H' l1 = some (.lst (sn.map V.str)) ∧ H' l2 = some (.lst (ys.map V.str)) ∧ LstP H' f ps ∧ ps.length ≤ 8 * i + j ∧ ∀ z y, (z, y) ∈ ps ↔ (z ∈ sn.take i ∧ Cov ns R z y) ∨ (z = x ∧ y ∈ ys.take j ∧ Cov ns R x y))
        ⟨_, _, _, ps, rfl, e.trans s3, s3 _ _ hl1, hl2, hf.same s3, len8, fun z y => by rw [rel]; simp⟩ ?_ ?_ ?_
      · rintro i σ H' _ ⟨v4, v5, v6, ps, rfl, e, h1, h2, _⟩
        exact .inl (.inl h2)
      · clear e hl1 hf len8 rel s3 hl2 n2
        clear ps
        rintro j v σ _ H' hj ⟨v4, v5, v6, ps, rfl, e, hl1, hl2, hf, len8, rel⟩ ⟨rfl, ev⟩
        obtain ⟨y, hy, rfl⟩ := get_map ev
        have yu := (ym y).mp (List.mem_of_getElem? hy)
        obtain ⟨yn, hR⟩ := (w3 y).mp yu
        have et2 : ys.take (j + 1) = ys.take j ++ [y] := by rw [List.take_succ, hy]; rfl
        refine ⟨.ref d, rfl, .str x, rfl, d, .ref (wd x), rfl, dget xn e, wd x, rfl, ⟨_, .inl (.inl (e _ _ w1))⟩, fun D nD => ?_⟩
        refine lc_grow (up x) walk_strs (fun z => !(decide (z = x)) && !(decide (z = y)) && R z y) V.str (by omega) nD (fun H2 e2 => .inl (.inl (e2 _ _ (e _ _ w1)))) (fun k z v Ha Hb Nx hk ea ⟨eH, ev⟩ ⟨acc, hacc, hal⟩ k1 k2 => ?_) (fun H5 e5 hD => ?_)
        · subst eH
          obtain ⟨z', hz', rfl⟩ := get_map ev
          rw [hk] at hz'
          injection hz' with hz'
          subst hz'
          have zn := ((w3 z).mp (List.mem_of_getElem? hk)).1
          refine ⟨rfl, .str z, rfl, .str x, rfl, .str y, rfl, (by show 2 ≤ sizeLine; decide), fun lq nlq => ?_⟩
          have s4 : Same Hb (upd Hb lq (.lst [.str x, .str y])) := same_new nlq
          refine ⟨lq, _, rfl, .inl (.inl (.inl upd_same)), rfl, rfl, _, rfl, ?_⟩
          have ein : inV (.str z) [.str x, .str y] = decide (z = x ∨ z = y) := by
            have := inV_str z [x, y]
            rw [show ([x, y] : List Str).map V.str = [.str x, .str y] from rfl] at this
            rw [this]
            simp
          rw [ein]
          by_cases c : z = x ∨ z = y
          · rw [decide_eq_true c]
            refine iteF (iteF ?_)
            refine k2 ?_ _ s4
            rcases c with rfl | rfl
            · rw [decide_eq_true rfl]; rfl
            · rw [decide_eq_true (show z = z from rfl)]
              simp
          · rw [decide_eq_false c]
            refine iteT ?_
            have c1 : z ≠ x := fun h => c (.inl h)
            have c2 : z ≠ y := fun h => c (.inr h)
            have s5 := ea.trans s4
            refine ⟨.str y, rfl, .ref d, rfl, .str z, rfl, d, .ref (wd z), rfl, dget zn (e.trans s5), wd z, _, rfl, .inl (.inl (.inl (s5 _ _ (e _ _ (hw z zn).1)))), rfl, flat_strs _, _, rfl, ?_⟩
            rw [inV_str]
            have eR : decide (y ∈ up z) = R z y := by
              rw [Bool.eq_iff_iff, decide_eq_true_eq, (hw z zn).2.2]
              exact ⟨fun h => h.2, fun h => ⟨yn, h⟩⟩
            show if decide (y ∈ up z) = true then _ else _
            rw [eR]
            cases cR : R z y with
            | true =>
              refine iteT ?_
              exact ⟨.str z, rfl, acc, s4 _ _ hacc, hal, k1 (by rw [decide_eq_false c1, decide_eq_false c2, cR]; rfl) _ acc s4 (s4 _ _ hacc)⟩
            | false =>
              refine iteF ?_
              exact k2 (by rw [cR, Bool.and_false]) _ s4
        · have e05 := e.trans e5
          have hD5 : D ≠ f := fun h => by
            obtain ⟨xs, g, _⟩ := hf
            rw [h, g] at nD
            cases nD
          have cov : Cov ns R x y ↔ x ≠ y ∧ (up x).filter (fun z => !(decide (z = x)) && !(decide (z = y)) && R z y) = [] := by
            unfold Cov
            rw [List.filter_eq_nil_iff]
            constructor
            · rintro ⟨h1, _, h3⟩
              refine ⟨h1, fun z hz hb => ?_⟩
              obtain ⟨zn, hz2⟩ := (w3 z).mp hz
              simp only [Bool.and_eq_true, Bool.not_eq_true', decide_eq_false_iff_not] at hb
              rcases h3 z zn hz2 hb.2 with h | h
              · exact hb.1.1 h
              · exact hb.1.2 h
            · rintro ⟨h1, h2⟩
              refine ⟨h1, hR, fun z zn hz1 hz2 => ?_⟩
              have := h2 z ((w3 z).mpr ⟨zn, hz1⟩)
              simp only [Bool.and_eq_true, Bool.not_eq_true', decide_eq_false_iff_not] at this
              by_cases a1 : z = x
              · exact .inl a1
              · by_cases a2 : z = y
                · exact .inr a2
                · exact absurd ⟨⟨a1, a2⟩, hz2⟩ this
          refine ⟨.str y, rfl, .str x, rfl, rfl, _, rfl, ?_⟩
          have stay : ¬ Cov ns R x y → ∀ z t, (z, t) ∈ ps ↔ (z ∈ sn.take i ∧ Cov ns R z t) ∨ (z = x ∧ t ∈ ys.take (j + 1) ∧ Cov ns R x t) := fun nc z t => by
            rw [rel, et2, List.mem_append, List.mem_singleton]
            constructor
            · rintro (h | ⟨h1, h2, h3⟩)
              · exact .inl h
              · exact .inr ⟨h1, .inl h2, h3⟩
            · rintro (h | ⟨h1, h2 | rfl, h3⟩)
              · exact .inl h
              · exact .inr ⟨h1, h2, h3⟩
              · exact absurd h3 nc
          by_cases c : y = x
          · rw [decide_eq_true (show V.str y = V.str x by rw [c])]
            refine iteF (iteF ?_)
            exact ⟨_, _, _, ps, rfl, e.trans e5, e5 _ _ hl1, e5 _ _ hl2, hf.same e5, by omega, stay (fun h => h.1 c.symm)⟩
          · rw [decide_eq_false (fun h : V.str y = V.str x => c (by injection h))]
            refine iteT ?_
            refine ⟨.ref D, rfl, Nat.zero_le _, fun le nle => ?_⟩
            have s6 : Same H5 (upd H5 le (.lst [])) := same_new nle
            have menu1 : ∀ z ∈ (up x).filter (fun z => !(decide (z = x)) && !(decide (z = y)) && R z y), z ∈ menuN := fun z hz => ok.mem z ((w3 z).mp (List.mem_filter.mp hz).1).1
            refine ⟨.list _, .list [], .lst (.inl (.inl (s6 _ _ hD))) (dp_strs _), .lst (.inl (.inl upd_same)) .nil, shaped_strs menu1, rfl, _, rfl, ?_⟩
            rw [eqv_nil]
            cases cE : ((up x).filter (fun z => !(decide (z = x)) && !(decide (z = y)) && R z y)).isEmpty with
            | true =>
              refine iteT ?_
              have hC : Cov ns R x y := cov.mpr ⟨fun h => c h.symm, List.isEmpty_iff.mp cE⟩
              have s56 := e5.trans s6
              obtain ⟨xs, hx6, px6⟩ := hf.same s56
              refine ⟨.ref f, rfl, .inl ⟨rfl, _, .inl (.inl hx6)⟩, .str x, rfl, .str y, rfl, (by show 2 ≤ sizeLine; decide), fun t nt => ?_⟩
              have s7 : Same (upd H5 le (.lst [])) (upd (upd H5 le (.lst [])) t (.tup [.str x, .str y])) := same_new nt
              have ht : upd (upd H5 le (.lst [])) t (.tup [.str x, .str y]) t = some (.tup [.str x, .str y]) := upd_same
              have len := px6.length
              have hx7 := s7 _ _ hx6
              have s57 := s56.trans s7
              have p7 := L2.Paired.mapP px6 fun _ _ h => VP.same h s7
              generalize upd (upd H5 le (.lst [])) t (.tup [.str x, .str y]) = H7 at s7 ht hx7 s57 p7
              have q1 : i < sn.length := by rw [List.length_map] at hi; exact hi
              have q2 := pm.length_eq
              have q3 : j < ys.length := by rw [List.length_map] at hj; exact hj
              have q4 := pmy.length_eq
              refine ⟨f, _, _, rfl, rfl, hx7, smallL (by omega), ?_⟩
              have ft : ∀ {c : Addr} {zs : List V}, H7 c = some (.tup zs) → upd H7 f (.lst (xs ++ [.ref t])) c = some (.tup zs) := fun h => (upd_ne fun e => by rw [e, hx7] at h; cases h).trans h
              have nfH : H f = none := nf
              refine ⟨_, _, _, ps ++ [(x, y)], rfl, Same.mut (e.trans s57) nfH, (upd_ne l1f).trans (s57 _ _ hl1), (upd_ne l2f).trans (s57 _ _ hl2), ⟨_, upd_same, (L2.Paired.mapP p7 fun _ _ ⟨r, e1, h⟩ => ⟨r, e1, ft h⟩).snoc ⟨t, rfl, ft ht⟩⟩, by rw [List.length_append, List.length_cons, List.length_nil]; omega, fun z t => ?_⟩
              rw [List.mem_append, List.mem_singleton, rel, et2, List.mem_append, List.mem_singleton, Prod.mk.injEq]
              constructor
              · rintro ((h | ⟨h1, h2, h3⟩) | ⟨rfl, rfl⟩)
                · exact .inl h
                · exact .inr ⟨h1, .inl h2, h3⟩
                · exact .inr ⟨rfl, .inr rfl, hC⟩
              · rintro (h | ⟨h1, h2 | rfl, h3⟩)
                · exact .inl (.inl h)
                · exact .inl (.inr ⟨h1, h2, h3⟩)
                · exact .inr ⟨h1, rfl⟩
            | false =>
              refine iteF ?_
              have s56 := e5.trans s6
              exact ⟨_, _, _, ps, rfl, e.trans s56, s56 _ _ hl1, s56 _ _ hl2, hf.same s56, by omega, stay (fun h => by
                have := (cov.mp h).2
                rw [this] at cE
                cases cE)⟩
      · rintro σ H' ⟨v4, v5, v6, ps, rfl, e, hl1, hl2, hf, len8, rel⟩
        rw [List.length_map] at len8
        have := pmy.length_eq
        refine ⟨_, _, _, _, ps, rfl, e, hl1, hf, by omega, fun z t => ?_⟩
        rw [rel, List.length_map, List.take_length, ym, et, List.mem_append, List.mem_singleton]
        constructor
        · rintro (h | ⟨h1, _, h3⟩)
          · exact ⟨.inl h.1, h.2⟩
          · exact ⟨.inr h1, h1 ▸ h3⟩
        · rintro ⟨h | h, h3⟩
          · exact .inl ⟨h, h3⟩
          · subst h
            exact .inr ⟨rfl, (w3 t).mpr ⟨(po.mem _ _ h3.2.1).2, h3.2.1⟩, h3⟩
    · rintro σ H' ⟨v3, v4, v5, v6, ps, rfl, e, hl1, hf, len8, rel⟩
      refine ⟨.ref f, rfl, q f ps H' nf e hf fun x y => ?_⟩
      rw [rel, List.length_map, List.take_length, sm]
      exact ⟨fun h => h.2, fun h => ⟨(po.mem _ _ h.2.1).1, h⟩⟩
end
end OT
end

section
set_option Elab.async false
set_option linter.all false
set_option maxRecDepth 100000
set_option maxHeartbeats 4000000
namespace OT
open PySem PySem.Spec PyProof.Rows L2 OTR
open C8 (Cal Mak Met pe_c pe_mk pe_mt pe_mt0)
section
variable {P : Program} {w : World} {K : PySem.W.Frag} {mg : Str → Option Value} {base : Heap} {a : Ads}
/-! ### weights -/
abbrev sWt : Stmt := top 50
abbrev nWt : List Str := ["_law_pool_here", "_law_names_here", "_law_found", "_law_name"]
theorem scWt : FnScope nWt ["_law_pool_here", "_law_names_here"] (defScope sWt) := ⟨rfl, rfl, rfl, by decide +kernel, rfl, by decide +kernel, by decide +kernel⟩
def spWt : Sp := fun vs H Q _ => ∃ (p m : Addr) (ns : List Str), vs = [.ref p, .ref m] ∧ PoolAt H p ∧ LstS H m ns ∧ p ≠ m ∧ OkNs ns ∧ ∀ d W H2, H d = none → Keep (· = p) H H2 → PoolAt H2 p → WtAt H2 d ns W → (∀ x ∈ ns, 0 ≤ W x ∧ W x ≤ 4) → (∃ x ∈ ns, 0 < W x) → Q (.ref d) H2
theorem PoolAt.nd {H : Hp} {p d : Addr} {kvs : List (Key × V)} (h : PoolAt H p) (g : H d = some (.dK kvs)) : p ≠ d := fun e => by
  obtain ⟨c, k, b, h⟩ := h
  rw [e, g] at h
  cases h
theorem PoolAt.same {H H2 : Hp} {p : Addr} (h : PoolAt H p) (e : Same H H2) : PoolAt H2 p := let ⟨c, k, b, h⟩ := h; ⟨c, k, b, e _ _ h⟩
theorem SK_setI (l : List Str) (W : Str → Int) (x : Str) (z : Int) : SK l (setF (fun y => .int (W y)) x (.int z)) = SK l fun y => .int (if y = x then z else W y) := SK_congr fun y _ => by
  unfold setF
  by_cases q : y = x
  · rw [if_pos q, if_pos q]
  · rw [if_neg q, if_neg q]
theorem ok_Wt (T : Fx K mg a) (Tk : Cal P w K mg base 1 "_law_take" spTake []) (D : DF K mg "_law_weights" "_law_weights" "_law_weights" sWt ["_law_pool_here", "_law_names_here"]) : Cal P w K mg base 2 "_law_weights" spWt [] := by
  refine cal_of D scWt (fun vs H Q E h => ?_) (fun f cdv B outer s H vs Q E hr h => ?_)
  · obtain ⟨p, m, ns, rfl, _⟩ := h
    rfl
  · obtain ⟨p, m, ns, rfl, hp, hm, pm, ok, q⟩ := h
    have hu := hu_of hr
    refine ⟨_, pss_cons (ps_set (i := 2) scWt.nd rfl (.inl rfl) pe_dnewK)
      (pss_cons (ps_for PassesOwn.never rfl (pi_list (pv 1)) (pg_name (i := 3) scWt.nd rfl (.inl rfl))
        (pss_one (ps_dput hu (pv 2) (pv 3) (pe_ix ix_list (pe_lst (pa_cons pe_int (pa_cons pe_int (pa_cons pe_int (pa_cons pe_int (pa_cons pe_int (pa_cons pe_int pa_nil))))))) (pe_c Tk hr (by decide) (by rfl) (pa_cons (pv 0) (pa_cons pe_int pa_nil))) (fun _ _ => rfl)) rfl)))
      (pss_cons (ps_dput hu (pv 2) (pe_ix ix_list (pv 1) (pe_c Tk hr (by decide) (by rfl) (pa_cons (pv 0) (pa_cons (pe_callB call_len (by rfl) T.nLen (by decide +kernel) (pa_cons (pv 1) pa_nil)) pa_nil))) (fun _ _ => rfl)) (pe_op op_add pe_int (pe_c Tk hr (by decide) (by rfl) (pa_cons (pv 0) (pa_cons pe_int pa_nil)))) rfl)
      (pss_one (ps_ret (pv 2))))), ?_⟩
    intro d nd
    have e0 : Same H (upd H d (.dK [])) := same_new nd
    have n8 := ok.le
    refine ⟨.ref m, rfl, m, rfl, ⟨_, .inl (.inl (e0 _ _ hm))⟩, ?_⟩
    refine for_it (walk_list (xs := ns.map V.str)) (fun i σ H' => ∃ v3 W, σ = [some (.ref p), some (.ref m), some (.ref d), v3] ∧ Keep (· = p) H H' ∧ PoolAt H' p ∧ H' d = some (SD (ns.take i) fun x => .int (W x)) ∧ ∀ x ∈ ns.take i, 0 ≤ W x ∧ W x ≤ 4)
      ⟨_, fun _ => 0, rfl, Keep.of e0, hp.same e0, upd_same, (by intro x hx; cases hx)⟩ ?_ ?_ ?_
    · rintro i σ H' _ ⟨v3, W, rfl, kp, _⟩
      exact .inl (.inl (kp _ _ hm pm.symm))
    · rintro i v σ _ H' hi ⟨v3, W, rfl, kp, hp, h1, h2⟩ ⟨rfl, e2⟩
      obtain ⟨z, hz, rfl⟩ := get_map e2
      have nz : z ∉ ns.take i := nodup_take ok.nd hz
      have et : ns.take (i + 1) = ns.take i ++ [z] := by rw [List.take_succ, hz]; rfl
      refine ⟨(by show 6 ≤ sizeLine; decide), fun l nl => ?_⟩
      have s1 : Same H' (upd H' l (.lst [.int 0, .int 0, .int 1, .int 2, .int 3, .int 1])) := same_new nl
      have pl : p ≠ l := fun e => by
        obtain ⟨c, k, b, h⟩ := hp
        rw [e, nl] at h
        cases h
      refine ⟨.ref p, rfl, p, 6, rfl, hp.same s1, (by decide), (by decide), fun r H3 r0 r1 kp3 hp3 => ?_⟩
      have hl3 := kp3 _ _ upd_same pl.symm
      have hd3 := kp3 _ _ (s1 _ _ h1) (hp.nd h1).symm
      obtain ⟨y, hy, y0, y4⟩ : ∃ y : Int, [V.int 0, V.int 0, V.int 1, V.int 2, V.int 3, V.int 1][r.toNat]? = some (.int y) ∧ 0 ≤ y ∧ y ≤ 4 := by
        obtain ⟨n, rfl⟩ : ∃ n : Nat, r = n := ⟨r.toNat, by omega⟩
        have : n < 6 := by omega
        match n, this with
        | 0, _ => exact ⟨0, rfl, by decide, by decide⟩
        | 1, _ => exact ⟨0, rfl, by decide, by decide⟩
        | 2, _ => exact ⟨1, rfl, by decide, by decide⟩
        | 3, _ => exact ⟨2, rfl, by decide, by decide⟩
        | 4, _ => exact ⟨3, rfl, by decide, by decide⟩
        | 5, _ => exact ⟨1, rfl, by decide, by decide⟩
      refine ⟨l, _, r, .int y, rfl, rfl, .inl (.inl hl3), ?_, .ref d, rfl, .str z, rfl, d, _, rfl, DPut.k (k := .inr z) hd3 (by rw [SK_length, List.length_take]; exact smallL (by omega)), ?_⟩
      · have := atI_nat hy
        rw [show ((r.toNat : Nat) : Int) = r by omega] at this
        exact this
      refine ⟨_, fun t => if t = z then y else W t, rfl, ((kp.same s1).trans kp3).newm nd _, hp3.upd (hp3.nd hd3) _, ?_, fun x hx => ?_⟩
      · rw [upd_same, SK_put, SK_setI, et]
        unfold addS
        rw [if_neg nz]
      · rw [et] at hx
        by_cases q : x = z
        · simp only [if_pos q]
          exact ⟨y0, y4⟩
        · simp only [if_neg q]
          exact h2 x ((List.mem_append.mp hx).elim id fun h => absurd (List.mem_singleton.mp h) q)
    · rintro σ H' ⟨v3, W, rfl, kp, hp, h1, h2⟩
      rw [List.length_map, List.take_length] at h1 h2
      refine ⟨.ref p, rfl, p, 4, rfl, hp, (by decide), (by decide), fun r H3 r0 r1 kp3 hp3 => ⟨1, r, rfl, rfl, ?_⟩⟩
      have hd3 := kp3 _ _ h1 (hp.nd h1).symm
      have kp13 := kp.trans kp3
      have hm3 := kp13 _ _ hm pm.symm
      refine ⟨.ref d, rfl, .ref m, rfl, .ref p, rfl, .ref m, rfl, .ref m, ns.length, rfl, .inl ⟨_, .inl (.inl hm3), (List.length_map ..).symm⟩, p, ns.length, rfl, hp3, (by have := ok.pos; omega), (by omega), fun t H4 t0 t1 kp4 hp4 => ?_⟩
      have hd4 := kp4 _ _ hd3 (hp3.nd hd3).symm
      have hm4 := kp4 _ _ hm3 pm.symm
      obtain ⟨x, hx⟩ : ∃ x, ns[t.toNat]? = some x := ⟨ns[t.toNat]'(by omega), List.getElem?_eq_getElem (by omega)⟩
      have xn := List.mem_of_getElem? hx
      refine ⟨m, _, t, .str x, rfl, rfl, .inl (.inl hm4), ?_, d, _, rfl, DPut.k (k := .inr x) hd4 (by rw [SK_length]; exact smallL (by omega)), .ref d, rfl, ?_⟩
      · have := atI_nat (xs := ns.map V.str) (j := t.toNat) (v := .str x) (by rw [List.getElem?_map, hx]; rfl)
        rw [show ((t.toNat : Nat) : Int) = t by omega] at this
        exact this
      refine q d (fun y => if y = x then 1 + r else W y) _ nd ((kp13.trans kp4).newm nd _) (hp4.upd (hp4.nd hd4) _) ?_ (fun y hy => ?_) ⟨x, xn, ?_⟩
      · show upd _ d _ d = _
        rw [upd_same, SK_put, SK_setI]
        unfold addS
        rw [if_pos xn]
      · by_cases q : y = x
        · simp only [if_pos q]
          omega
        · simp only [if_neg q]
          exact h2 y hy
      · simp only [if_true]
        omega
end
end OT
end

section
set_option Elab.async false
set_option linter.all false
set_option maxRecDepth 100000
set_option maxHeartbeats 4000000
namespace OT
open PySem PySem.Spec PyProof.Rows L2 OTR
open C8 (Cal Mak Met pe_c pe_mk pe_mt pe_mt0)
theorem sum_set {W : Str → Int} {x : Str} {z : Int} : ∀ {l : List Str}, l.Nodup → x ∈ l → (l.map fun y => if y = x then z else W y).sum = (l.map W).sum + (z - W x)
  | [], _, h => by cases h
  | y :: l, nd, h => by
    have h1 := List.nodup_cons.mp nd
    rw [List.map_cons, List.map_cons, List.sum_cons, List.sum_cons]
    by_cases e : y = x
    · subst e
      have : (l.map fun t => if t = y then z else W t) = l.map W := List.map_congr_left fun t ht => if_neg fun e : t = y => h1.1 (e ▸ ht)
      rw [this, if_pos rfl]
      omega
    · rw [sum_set h1.2 ((List.mem_cons.mp h).elim (fun q => absurd q.symm e) id), if_neg e]
      omega
theorem sum_pos_ex {W : Str → Int} : ∀ {l : List Str}, 0 < (l.map W).sum → ∃ x ∈ l, 0 < W x
  | [], h => by simp at h
  | y :: l, h => by
    by_cases c : 0 < W y
    · exact ⟨y, List.mem_cons_self, c⟩
    · rw [List.map_cons, List.sum_cons] at h
      obtain ⟨x, hx, h2⟩ := sum_pos_ex (l := l) (W := W) (by omega)
      exact ⟨x, List.mem_cons_of_mem _ hx, h2⟩
section
variable {P : Program} {w : World} {K : PySem.W.Frag} {mg : Str → Option Value} {base : Heap} {a : Ads}
abbrev sRz : Stmt := top 51
abbrev nRz : List Str := ["_law_pool_here", "_law_weights_here", "_law_above_here", "_law_found", "_law_count", "_law_rich", "_law_name", "_law_low", "_law_high"]
theorem scRz : FnScope nRz ["_law_pool_here", "_law_weights_here", "_law_above_here"] (defScope sRz) := ⟨rfl, rfl, rfl, by decide +kernel, rfl, by decide +kernel, by decide +kernel⟩
def spRz : Sp := fun vs H Q _ => ∃ (p dw da : Addr) (ns : List Str) (R : Str → Str → Bool) (W : Str → Int), vs = [.ref p, .ref dw, .ref da] ∧ PoolAt H p ∧ WtAt H dw ns W ∧ WebAt H da ns R ∧ (∀ x ∈ ns, R x x = true) ∧ OkNs ns ∧ (∀ x ∈ ns, 0 ≤ W x) ∧ 0 < (ns.map W).sum ∧
  ∀ d W' H2, H d = none → Keep (· = p) H H2 → PoolAt H2 p → WtAt H2 d ns W' → (∀ x ∈ ns, 0 ≤ W' x) → (ns.map W').sum = (ns.map W).sum → Q (.ref d) H2
theorem ok_Rz (T : Fx K mg a) (Tk : Cal P w K mg base 1 "_law_take" spTake []) (D : DF K mg "_law_raised" "_law_raised" "_law_raised" sRz ["_law_pool_here", "_law_weights_here", "_law_above_here"]) : Cal P w K mg base 2 "_law_raised" spRz [] := by
  refine cal_of D scRz (fun vs H Q E h => ?_) (fun f cdv B outer s H vs Q E hr h => ?_)
  · obtain ⟨p, dw, da, ns, R, W, rfl, _⟩ := h
    rfl
  · obtain ⟨p, dw, da, ns, R, W, rfl, hp, hw, ⟨wd, up, ha, hup⟩, refl, ok, nn, pos, q⟩ := h
    have hu := hu_of hr
    refine ⟨_, pss_cons (ps_set (i := 3) scRz.nd rfl (.inr rfl) (pe_callTy call_dictD (by rfl) T.nDict (by decide +kernel) (pa_cons (pv 1) pa_nil)))
      (pss_cons (ps_for PassesOwn.never rfl (pi_range1 (by rfl) T.nRange (pa_cons (pe_op op_add pe_int (pe_c Tk hr (by decide) (by rfl) (pa_cons (pv 0) (pa_cons pe_int pa_nil)))) pa_nil)) (pg_name (i := 4) scRz.nd rfl (.inl rfl))
        (pss_cons (ps_setLc (i := 5) rfl scRz.nd rfl rfl (sw_true rfl rfl rfl (by decide +kernel)) (pi_list (pe_callB cr_sortedS (by rfl) T.nSorted (by decide +kernel) (pa_cons (pe_callTy (call_listD rfl) (by rfl) T.nList (by decide +kernel) (pa_cons (pv 3) pa_nil)) pa_nil))) (own := [("_law_name", 6)]) (blkOk_by (by kernel_rfl)) (fun _ _ _ _ _ => pg_name (i := 6) scRz.nd rfl (.inl rfl))
            (fun _ _ _ _ _ => pts_one (pt_cmpR op_gt (pe_dget hu (pv 3) (pv 6) (fun _ _ => rfl)) pe_int (nomark _))) (fun _ _ _ _ _ => pv 6))
        (pss_cons (ps_set (i := 7) scRz.nd rfl (.inl rfl) (pe_ix ix_list (pv 5) (pe_c Tk hr (by decide) (by rfl) (pa_cons (pv 0) (pa_cons (pe_callB call_len (by rfl) T.nLen (by decide +kernel) (pa_cons (pv 5) pa_nil)) pa_nil))) (fun _ _ => rfl)))
        (pss_cons (ps_set (i := 8) scRz.nd rfl (.inl rfl) (pe_ix ix_list (pe_dget hu (pv 2) (pv 7) (fun _ _ => rfl)) (pe_c Tk hr (by decide) (by rfl) (pa_cons (pv 0) (pa_cons (pe_callB call_len (by rfl) T.nLen (by decide +kernel) (pa_cons (pe_dget hu (pv 2) (pv 7) (fun _ _ => rfl)) pa_nil)) pa_nil))) (fun _ _ => rfl)))
        (pss_cons (ps_dput hu (pv 3) (pv 7) (pe_op op_sub (pe_dget hu (pv 3) (pv 7) (fun _ _ => rfl)) pe_int) rfl)
        (pss_one (ps_dput hu (pv 3) (pv 8) (pe_op op_add (pe_dget hu (pv 3) (pv 8) (fun _ _ => rfl)) pe_int) rfl)))))))
      (pss_one (ps_ret (pv 3)))), ?_⟩
    refine ⟨.ref dw, rfl, dw, _, rfl, .inl hw, fun d nd => ?_⟩
    have e0 : Same H (upd H d (SD ns fun x => .int (W x))) := same_new nd
    have n8 := ok.le
    have hd0 : upd H d (SD ns fun x => .int (W x)) d = some (SD ns fun x => .int (W x)) := upd_same
    have hp0 := hp.same e0
    have kp0 : Keep (· = p) H (upd H d (SD ns fun x => .int (W x))) := Keep.of e0
    show tSeq _ _ _ _ (upd H d (SD ns fun x => .int (W x)))
    generalize upd H d (SD ns fun x => .int (W x)) = H1 at e0 hd0 hp0 kp0
    refine ⟨.ref p, rfl, p, 5, rfl, hp0, (by decide), (by decide), fun r H2 r0 r1 kp2 hp2 => ⟨1, r, rfl, rfl, 1 + r, rfl, (by omega), (by omega), ?_⟩⟩
    refine for_range (lo := 0) (n := (1 + r).toNat) (fun i σ H' => ∃ v4 v5 v6 v7 v8 W', σ = [some (.ref p), some (.ref dw), some (.ref da), some (.ref d), v4, v5, v6, v7, v8] ∧ Keep (· = p) H H' ∧ PoolAt H' p ∧ WtAt H' d ns W' ∧ (∀ x ∈ ns, 0 ≤ W' x) ∧ (ns.map W').sum = (ns.map W).sum)
      ⟨_, _, _, _, _, W, rfl, kp0.trans kp2, hp2, kp2 _ _ hd0 (hp0.nd hd0).symm, nn, rfl⟩ ?_ ?_
    · rintro i σ H' hi ⟨v4, v5, v6, v7, v8, W', rfl, kp, hp, hd, nn, sm⟩
      refine ⟨.ref d, rfl, d, _, rfl, .inl hd, fun l1 n1 => ?_⟩
      rw [SK_keys]
      refine ⟨l1, ns, rfl, .inl (.inl upd_same), (by omega), fun sn l2 pm _ n2 => ?_⟩
      have s1 := (same_new (o := .lst (ns.map V.str)) n1).trans (same_new (o := .lst (sn.map V.str)) n2)
      have hl2 : upd (upd H' l1 (.lst (ns.map V.str))) l2 (.lst (sn.map V.str)) l2 = some (.lst (sn.map V.str)) := upd_same
      generalize upd (upd H' l1 (.lst (ns.map V.str))) l2 (.lst (sn.map V.str)) = H3 at s1 hl2
      have smm : ∀ x, x ∈ sn ↔ x ∈ ns := fun x => pm.mem_iff
      have hd3 := s1 _ _ hd
      refine ⟨l2, rfl, ⟨_, .inl (.inl hl2)⟩, fun D nD => ?_⟩
      refine lc_pure sn walk_strs (fun z => decide (0 < W' z)) V.str (by have := pm.length_eq; omega) (fun acc => .inl (.inl (same_new nD _ _ hl2))) (fun k z v acc Hx Nx hk ⟨eH, ev⟩ hal k1 k2 => ?_) ?_
      · subst eH
        obtain ⟨z', hz', rfl⟩ := get_map ev
        rw [hk] at hz'
        injection hz' with hz'
        subst hz'
        have zn := (smm z).mp (List.mem_of_getElem? hk)
        refine ⟨rfl, .ref d, rfl, .str z, rfl, d, .int (W' z), rfl, .inl ⟨_, .inr z, .inl (same_new nD _ _ hd3), rfl, (SK_in (f := fun x => .int (W' x)) zn).symm⟩, W' z, 0, rfl, rfl, _, rfl, ?_⟩
        by_cases c : 0 < W' z
        · rw [decide_eq_true (show W' z > 0 from c)]
          refine iteT ?_
          refine ⟨.str z, rfl, acc, upd_same, hal, ?_⟩
          rw [upd_upd]
          exact k1 (decide_eq_true c)
        · rw [decide_eq_false (show ¬ W' z > 0 from c)]
          refine iteF ?_
          exact k2 (decide_eq_false c)
      have s4 : Same H3 (upd H3 D (.lst ((sn.filter fun z => decide (0 < W' z)).map V.str))) := same_new nD
      have hD4 : upd H3 D (.lst ((sn.filter fun z => decide (0 < W' z)).map V.str)) D = some (.lst ((sn.filter fun z => decide (0 < W' z)).map V.str)) := upd_same
      generalize upd H3 D (.lst ((sn.filter fun z => decide (0 < W' z)).map V.str)) = H4 at s4 hD4
      have s14 := s1.trans s4
      have hp4 := hp.same s14
      have kp4 := kp.same s14
      have hd4 := s14 _ _ hd
      have hDr : LstS H4 D (sn.filter fun z => decide (0 < W' z)) := hD4
      have rl : (sn.filter fun z => decide (0 < W' z)).length ≤ sn.length := List.length_filter_le _ _
      have pml := pm.length_eq
      have r0' : 0 < (sn.filter fun z => decide (0 < W' z)).length := by
        obtain ⟨x, hx, h2⟩ := sum_pos_ex (l := ns) (W := W') (by rw [sm]; exact pos)
        exact List.length_pos_of_mem (List.mem_filter.mpr ⟨(smm x).mpr hx, decide_eq_true h2⟩)
      have rm : ∀ x ∈ sn.filter (fun z => decide (0 < W' z)), x ∈ ns ∧ 0 < W' x := fun x hx => ⟨(smm x).mp (List.mem_filter.mp hx).1, of_decide_eq_true (List.mem_filter.mp hx).2⟩
      generalize sn.filter (fun z => decide (0 < W' z)) = rich at hDr rl r0' rm
      have pD := hp4.ne hDr
      refine ⟨.ref D, rfl, .ref p, rfl, .ref D, rfl, .ref D, rich.length, rfl, .inl ⟨_, .inl (.inl hDr), (List.length_map ..).symm⟩, p, rich.length, rfl, hp4, (by omega), (by omega), fun t H5 t0 t1 kp5 hp5 => ?_⟩
      obtain ⟨x, hx⟩ : ∃ x, rich[t.toNat]? = some x := ⟨rich[t.toNat]'(by omega), List.getElem?_eq_getElem (by omega)⟩
      obtain ⟨xn, xp⟩ := rm x (List.mem_of_getElem? hx)
      refine ⟨D, _, t, .str x, rfl, rfl, .inl (.inl (kp5 _ _ hDr pD.symm)), ?_, ?_⟩
      · have := atI_nat (xs := rich.map V.str) (j := t.toNat) (v := .str x) (by rw [List.getElem?_map, hx]; rfl)
        rw [show ((t.toNat : Nat) : Int) = t by omega] at this
        exact this
      have kp45 := kp4.trans kp5
      obtain ⟨u1, u2, u3⟩ := hup x xn
      have pda : da ≠ p := (hp.nd (H := H') (by
        have := kp _ _ ha
        exact this (fun e => by
          obtain ⟨c, k, b, h⟩ := ‹PoolAt H p›
          rw [e, h] at ha
          cases ha))).symm
      have puw : wd x ≠ p := fun e => by
        have := ‹PoolAt H p›.ne (show LstS H (wd x) (up x) from u1)
        exact this e.symm
      have ha5 := kp45 _ _ ha pda
      have hu5 := kp45 _ _ u1 puw
      have ul := nodup_le u2 fun y hy => ((u3 y).mp hy).1
      have u0 : 0 < (up x).length := List.length_pos_of_mem ((u3 x).mpr ⟨xn, refl x xn⟩)
      have g5 : ∀ {H6 : Hp}, H6 da = some (SD ns fun x => .ref (wd x)) → DGet H6 da (.str x) (some (.ref (wd x))) := fun h => .inl ⟨_, .inr x, .inl h, rfl, (SK_in (f := fun x => .ref (wd x)) xn).symm⟩
      refine ⟨.ref da, rfl, .str x, rfl, da, .ref (wd x), rfl, g5 ha5, .ref p, rfl, .ref da, rfl, .str x, rfl, da, .ref (wd x), rfl, g5 ha5, .ref (wd x), (up x).length, rfl, .inl ⟨_, .inl (.inl hu5), (List.length_map ..).symm⟩, p, (up x).length, rfl, hp5, (by omega), (by omega), fun z H6 z0 z1 kp6 hp6 => ?_⟩
      obtain ⟨y, hy⟩ : ∃ y, (up x)[z.toNat]? = some y := ⟨(up x)[z.toNat]'(by omega), List.getElem?_eq_getElem (by omega)⟩
      have yn := ((u3 y).mp (List.mem_of_getElem? hy)).1
      refine ⟨wd x, _, z, .str y, rfl, rfl, .inl (.inl (kp6 _ _ hu5 puw)), ?_, ?_⟩
      · have := atI_nat (xs := (up x).map V.str) (j := z.toNat) (v := .str y) (by rw [List.getElem?_map, hy]; rfl)
        rw [show ((z.toNat : Nat) : Int) = z by omega] at this
        exact this
      have hd6 := kp6 _ _ (kp5 _ _ hd4 (hp4.nd hd4).symm) (hp5.nd (kp5 _ _ hd4 (hp4.nd hd4).symm)).symm
      have kp46 := kp45.trans kp6
      have len : (SK ns fun x => V.int (W' x)).length < sizeLine := by rw [SK_length]; exact smallL (by omega)
      refine ⟨.ref d, rfl, .str x, rfl, d, .int (W' x), rfl, .inl ⟨_, .inr x, .inl hd6, rfl, (SK_in (f := fun x => .int (W' x)) xn).symm⟩, W' x, 1, rfl, rfl, .ref d, rfl, .str x, rfl, d, _, rfl, DPut.k (k := .inr x) hd6 len, ?_⟩
      have hd7 : upd H6 d (.dK (putK (SK ns fun x => .int (W' x)) (.inr x) (.int (W' x - 1)))) d = some (SD ns fun t => .int (if t = x then W' x - 1 else W' t)) := by
        rw [upd_same, SK_put, SK_setI]
        unfold addS
        rw [if_pos xn]
      have hp7 := hp6.upd (hp6.nd hd6) (.dK (putK (SK ns fun x => .int (W' x)) (.inr x) (.int (W' x - 1))))
      have kp7 := kp46.newm nd (.dK (putK (SK ns fun x => .int (W' x)) (.inr x) (.int (W' x - 1))))
      have len : (SK ns fun t => V.int (if t = x then W' x - 1 else W' t)).length < sizeLine := by rw [SK_length]; exact smallL (by omega)
      refine ⟨.ref d, rfl, .str y, rfl, d, _, rfl, .inl ⟨_, .inr y, .inl hd7, rfl, (SK_in (f := fun t => .int (if t = x then W' x - 1 else W' t)) yn).symm⟩, _, 1, rfl, rfl, .ref d, rfl, .str y, rfl, d, _, rfl, DPut.k (k := .inr y) hd7 len, ?_⟩
      refine ⟨_, _, _, _, _, fun t => if t = y then (if y = x then W' x - 1 else W' y) + 1 else (if t = x then W' x - 1 else W' t), rfl, kp7.newm nd _, hp7.upd (hp7.nd hd7) _, ?_, fun t ht => ?_, ?_⟩
      · show upd _ d _ d = _
        rw [upd_same, SK_put, SK_setI]
        unfold addS
        rw [if_pos yn]
      · have := nn t ht
        have := nn y yn
        by_cases c1 : t = y
        · simp only [if_pos c1]
          split <;> omega
        · simp only [if_neg c1]
          split <;> omega
      · rw [sum_set ok.nd yn, sum_set ok.nd xn, ← sm]
        split <;> omega
    · rintro σ H' ⟨v4, v5, v6, v7, v8, W', rfl, kp, hp, hd, nn, sm⟩
      exact ⟨.ref d, rfl, q d W' H' nd kp hp hd nn sm⟩
end
end OT
end

section
set_option Elab.async false
set_option linter.all false
set_option maxRecDepth 100000
set_option maxHeartbeats 4000000
namespace OT
open PySem PySem.Spec PyProof.Rows L2 OTR
open C8 (Cal Mak Met pe_c pe_mk pe_mt pe_mt0)
theorem mulDen (q : Rat) : q * (q.den : Rat) = (q.num : Rat) := by
  have h := Rat.num_divInt_den q
  rw [Rat.divInt_eq_div] at h
  have hn : (((q.den : Nat) : Int) : Rat) ≠ 0 := by
    have := q.den_nz
    exact_mod_cast this
  have e : ((q.den : Nat) : Rat) = (((q.den : Nat) : Int) : Rat) := rfl
  rw [e]
  have h2 : (q.num : Rat) / (((q.den : Nat) : Int) : Rat) * (((q.den : Nat) : Int) : Rat) = (q.num : Rat) := Rat.div_mul_cancel hn
  rw [h] at h2
  exact h2
/-- q is z / M with a z of bounded size -/
def RowOk (M : Nat) (q : Rat) : Prop := ∃ z : Int, q * (M : Rat) = (z : Rat) ∧ -(2 ^ 60) ≤ z ∧ z ≤ 2 ^ 60
theorem RowOk.frac {M : Nat} {q : Rat} (h : RowOk M q) : Frac M q := let ⟨z, h, _⟩ := h; ⟨z, h⟩
theorem RowOk.num {M : Nat} {q : Rat} (M0 : 0 < M) (h : RowOk M q) : -(2 ^ 64) < q.num ∧ q.num < 2 ^ 64 := by
  have hd := h.frac.den M0
  obtain ⟨z, h1, h2, h3⟩ := h
  have e : q.num * (M : Int) = z * (q.den : Int) := by
    have e1 : (q.num : Rat) = q * (q.den : Rat) := (mulDen q).symm
    have e2 : ((q.num * (M : Int) : Int) : Rat) = ((z * (q.den : Int) : Int) : Rat) := by
      rw [Rat.intCast_mul, Rat.intCast_mul, e1, ← h1]
      show q * (q.den : Rat) * (M : Rat) = q * (M : Rat) * (q.den : Rat)
      grind
    exact Rat.intCast_inj.mp e2
  have dp := den_pos q
  have M1 : (0 : Int) < M := by omega
  have hd' : (q.den : Int) ≤ M := by omega
  constructor
  · refine Decidable.byContradiction fun hc => ?_
    have : q.num ≤ -(2 ^ 64) := by omega
    have h4 : q.num * (M : Int) ≤ -(2 ^ 64) * M := Int.mul_le_mul_of_nonneg_right this (by omega)
    have h5 : -(2 ^ 60) * (q.den : Int) ≤ z * q.den := Int.mul_le_mul_of_nonneg_right h2 (by omega)
    omega
  · refine Decidable.byContradiction fun hc => ?_
    have : 2 ^ 64 ≤ q.num := by omega
    have h4 : 2 ^ 64 * (M : Int) ≤ q.num * M := Int.mul_le_mul_of_nonneg_right this (by omega)
    have h5 : z * (q.den : Int) ≤ 2 ^ 60 * q.den := Int.mul_le_mul_of_nonneg_right h3 (by omega)
    omega
section
variable {P : Program} {w : World} {K : PySem.W.Frag} {mg : Str → Option Value} {base : Heap} {a : Ads}
theorem walk_tstrs {b : Addr} {l : List Str} : Walk (Itt K b) l.length (fun H => SqT K H b (l.map V.str)) (YAt (l.map V.str)) := by
  have := walk_tup (K := K) (a := b) (xs := l.map V.str)
  rw [List.length_map] at this
  exact this
/-! ### mass -/
abbrev sMass : Stmt := top 46
abbrev sLMass : Stmt := top 53
theorem scLMass : FnScope ["_law_weights_here", "_law_row", "_law_name"] ["_law_weights_here", "_law_row"] (defScope sLMass) := ⟨rfl, rfl, rfl, by decide +kernel, rfl, by decide +kernel, by decide +kernel⟩
def spLMass : Sp := fun vs H Q _ => ∃ (dw t : Addr) (ns us : List Str) (W : Str → Int), vs = [.ref dw, .ref t] ∧ WtAt H dw ns W ∧ H t = some (.tup (us.map V.str)) ∧ us.length ≤ 1000 ∧ (∀ x ∈ us, x ∈ ns) ∧ ∀ H2, Same H H2 → Q (.int (us.map W).sum) H2
theorem ok_LMass (T : Fx K mg a) (D : DF K mg "_law_mass" "_law_mass" "_law_mass" sLMass ["_law_weights_here", "_law_row"]) : Cal P w K mg base 1 "_law_mass" spLMass [] := by
  refine cal_of D scLMass (fun vs H Q E h => ?_) (fun f cdv B outer s H vs Q E hr h => ?_)
  · obtain ⟨dw, t, ns, us, W, rfl, _⟩ := h
    rfl
  · obtain ⟨dw, t, ns, us, W, rfl, hw, ht, hl, hs, q⟩ := h
    have hu := hu_of hr
    refine ⟨_, pss_one (ps_ret (pe_callB (cr_sum rfl) (by rfl) T.nSum (by decide +kernel) (pa_cons (pe_lc rfl scLMass.nd (pi_tup (pv 1)) (own := [("_law_name", 2)]) (blkOk_by (by kernel_rfl)) (fun _ _ _ _ _ => pg_name (i := 2) scLMass.nd rfl (.inl rfl)) (fun _ _ _ _ _ => pts_nil)
      (fun _ _ _ _ _ => pe_dget2 hu (pv 0) (pv 2) pe_int (by constructor <;> rfl))) pa_nil))), ?_⟩
    refine ⟨.ref t, rfl, t, rfl, ⟨_, .inl (.inl ht)⟩, fun D nD => ?_⟩
    refine lc_pure us walk_tstrs (fun _ => true) (fun x => .int (W x)) (by omega) (fun acc => .inl (.inl (same_new nD _ _ ht))) (fun k z v acc Hx Nx hk ⟨eH, ev⟩ hal k1 k2 => ?_) ?_
    · subst eH
      obtain ⟨z', hz', rfl⟩ := get_map ev
      rw [hk] at hz'
      injection hz' with hz'
      subst hz'
      have zn := hs z (List.mem_of_getElem? hk)
      refine ⟨rfl, lcY ?_⟩
      refine ⟨.ref dw, rfl, dw, rfl, .inl ⟨_, .inl (same_new nD _ _ hw)⟩, .str z, rfl, some (.int (W z)), .inl ⟨_, .inr z, .inl (same_new nD _ _ hw), rfl, (SK_in (f := fun x => .int (W x)) zn).symm⟩, acc, upd_same, hal, ?_⟩
      rw [upd_upd]
      exact k1 rfl
    · rw [List.filter_eq_self.mpr (fun _ _ => rfl)]
      refine ⟨D, us.map W, rfl, .inl (.inl (by rw [upd_same, List.map_map]; rfl)), ?_⟩
      exact q _ (same_new nD)
/-! ### sum -/
abbrev sLSum : Stmt := top 55
abbrev nLSum : List Str := ["_law_shares", "_law_top", "_law_bottom", "_law_share"]
theorem scLSum : FnScope nLSum ["_law_shares"] (defScope sLSum) := ⟨rfl, rfl, rfl, by decide +kernel, rfl, by decide +kernel, by decide +kernel⟩
def spLSum (a : Ads) : Sp := fun vs H Q _ => ∃ (p : Addr) (xs : List V) (l : List Rat) (M : Nat), vs = [.ref p] ∧ H p = some (.lst xs) ∧ Paired (VR a H) xs l ∧ 0 < M ∧ M * M < 1073741824 ∧ (∀ q ∈ l, RowOk M q) ∧
  ∀ r (t b : Int) H2, Same H H2 → H2 r = some (.lst [.int t, .int b]) → 0 < b → (t : Rat) = sumR l * (b : Rat) → Q (.ref r) H2
theorem ok_LSum (T : Fx K mg a) (D : DF K mg "_law_sum" "_law_sum" "_law_sum" sLSum ["_law_shares"]) : Cal P w K mg base 1 "_law_sum" (spLSum a) [] := by
  refine cal_of D scLSum (fun vs H Q E h => ?_) (fun f cdv B outer s H vs Q E hr h => ?_)
  · obtain ⟨p, xs, l, M, rfl, _⟩ := h
    rfl
  · obtain ⟨p, xs, l, M, rfl, hp, px, M0, MM, ok, q⟩ := h
    refine ⟨_, pss_cons (ps_set (i := 1) scLSum.nd rfl (.inl rfl) pe_int)
      (pss_cons (ps_set (i := 2) scLSum.nd rfl (.inl rfl) pe_int)
      (pss_cons (ps_for PassesOwn.never rfl (pi_list (pv 0)) (pg_name (i := 3) scLSum.nd rfl (.inl rfl))
        (pss_cons (ps_set (i := 1) scLSum.nd rfl (.inl rfl) (pe_op op_add (pe_op op_mul (pv 1) (pe_fld (pv 3) rfl)) (pe_op op_mul (pe_fld (pv 3) rfl) (pv 2))))
        (pss_one (ps_set (i := 2) scLSum.nd rfl (.inl rfl) (pe_op op_mul (pv 2) (pe_fld (pv 3) rfl))))))
      (pss_one (ps_ret (pe_lst (pa_cons (pv 1) (pa_cons (pv 2) pa_nil))))))), ?_⟩
    refine ⟨.ref p, rfl, p, rfl, ⟨_, .inl (.inl hp)⟩, ?_⟩
    refine for_it (walk_list (xs := xs)) (fun i σ H' => ∃ (t b : Int) (v3 : Option V), σ = [some (.ref p), some (.int t), some (.int b), v3] ∧ H' = H ∧ 0 < b ∧ (t : Rat) = sumR (l.take i) * (b : Rat))
      ⟨0, 1, _, rfl, rfl, by decide, by show ((0 : Int) : Rat) = 0 * _; rw [Rat.zero_mul]; rfl⟩ ?_ ?_ ?_
    · rintro i σ H' _ ⟨t, b, v3, rfl, rfl, _⟩
      exact .inl (.inl hp)
    · rintro i v σ _ H' hi ⟨t, b, v3, rfl, rfl, b0, rel⟩ ⟨rfl, ev⟩
      obtain ⟨y, hy, c, rfl, ⟨dc, hc⟩⟩ := paired_get px ev
      have oky := ok y (List.mem_of_getElem? hy)
      have hd := oky.frac.den M0
      have hn := oky.num M0
      have dp := den_pos y
      have dl : (y.den : Int) < 2 ^ 64 := by
        have : M ≤ M * M := Nat.le_mul_of_pos_left M M0
        omega
      refine ⟨.int t, rfl, .ref c, rfl, c, a.R, dc, _, _, rfl, hc, T.clR, T.r2, ratF_bot y, t, _, rfl, rfl, .inr ⟨by omega, dl⟩, .ref c, rfl, c, a.R, dc, _, _, rfl, hc, T.clR, T.r1, ratF_top y, .int b, rfl, _, b, rfl, rfl, .inl hn, _, _, rfl, rfl, ?_⟩
      refine ⟨.int b, rfl, .ref c, rfl, c, a.R, dc, _, _, rfl, hc, T.clR, T.r2, ratF_bot y, b, _, rfl, rfl, .inr ⟨by omega, dl⟩, ?_⟩
      refine ⟨t * y.den + y.num * b, b * y.den, _, rfl, rfl, Int.mul_pos b0 dp, ?_⟩
      rw [sumR_take hy, Rat.intCast_add, Rat.intCast_mul, Rat.intCast_mul, Rat.intCast_mul, rel]
      have e1 : (y.num : Rat) = y * (y.den : Rat) := (mulDen y).symm
      rw [e1]
      show sumR (l.take i) * (b : Rat) * (y.den : Rat) + y * (y.den : Rat) * (b : Rat) = (sumR (l.take i) + y) * ((b : Rat) * (y.den : Rat))
      grind
    · rintro σ H' ⟨t, b, v3, rfl, rfl, b0, rel⟩
      rw [px.length, List.take_length] at rel
      exact ⟨.int t, rfl, .int b, rfl, (by show 2 ≤ sizeLine; decide), fun r nr => q r t b _ (same_new nr) upd_same b0 rel⟩
end
end OT
end

section
set_option Elab.async false
set_option linter.all false
set_option maxRecDepth 100000
set_option maxHeartbeats 4000000
namespace OT
open PySem PySem.Spec PyProof.Rows L2 OTR
open C8 (Cal Mak Met pe_c pe_mk pe_mt pe_mt0)
structure SeqW (X : Cx) (i : Nat) (nm : Str) (p : Addr) (ts : List V) (G : Hp → Prop) (wi : TI) (J : It) : Prop where
  pi : ∀ tg pos, PI X tg (.Name nm pos) wi
  wi : ∀ σ H R, σ[i]? = some (some (.ref p)) → G H → R J H → wi σ H R
  wk : Walk J ts.length G (YAt ts)
def keyP (b : Bool) (r : Row) : Str := if b = true then r.2.1 else r.1
def colP (b : Bool) (rows : List Row) (n : Str) : Rat := sumR ((rows.filter fun r => decide (keyP b r = n)).map (·.2.2))
def plI (b : Bool) : Int := if b = true then 1 else 0
theorem colP_F (rows : List Row) (n : Str) : colP false rows n = colF rows n := rfl
theorem colP_S (rows : List Row) (n : Str) : colP true rows n = colS rows n := rfl
theorem cross {t b W tot : Int} {S : Rat} (hb : 0 < b) (ht : 0 < tot) (h : (t : Rat) = S * (b : Rat)) : t * tot = W * b ↔ S = Rat.divInt W tot := by
  have b0 : (b : Rat) ≠ 0 := by
    intro e
    have : b = 0 := by exact_mod_cast e
    omega
  have t0 : (tot : Rat) ≠ 0 := by
    intro e
    have : tot = 0 := by exact_mod_cast e
    omega
  rw [Rat.divInt_eq_div, ← Rat.intCast_inj, Rat.intCast_mul, Rat.intCast_mul, h]
  constructor
  · intro e
    have e2 : S * (tot : Rat) = (W : Rat) := by
      have : S * (b : Rat) * (tot : Rat) / (b : Rat) = (W : Rat) * (b : Rat) / (b : Rat) := by rw [e]
      grind
    grind
  · intro e
    rw [e]
    grind
section
variable {P : Program} {w : World} {K : PySem.W.Frag} {mg : Str → Option Value} {base : Heap} {a : Ads}
abbrev sAdds : Stmt := top 56
abbrev nAdds : List Str := ["_law_rows", "_law_place", "_law_weights_here", "_law_whole", "_law_name", "_law_top", "_law_bottom", "_law_row"]
theorem scAdds : FnScope nAdds ["_law_rows", "_law_place", "_law_weights_here"] (defScope sAdds) := ⟨rfl, rfl, rfl, by decide +kernel, rfl, by decide +kernel, by decide +kernel⟩
structure RowsOk (rows : List Row) (M : Nat) : Prop where
  len : rows.length ≤ 1000
  m0 : 0 < M
  mm : M * M < 1073741824
  ok : ∀ r ∈ rows, RowOk M r.2.2
def spAdds (a : Ads) : Sp := fun vs H Q _ => ∃ (p dw : Addr) (b : Bool) (rows : List Row) (M : Nat) (wl : List Str) (W : Str → Int), vs = [.ref p, .int (plI b), .ref dw] ∧ RowsAt a H p rows ∧ RowsOk rows M ∧ WtAt H dw wl W ∧ OkW wl W ∧
  ∀ H2, Same H H2 → Q (.bl (wl.all fun n => decide (colP b rows n = shr wl W n))) H2
theorem ok_Adds (T : Fx K mg a) (Su : Cal P w K mg base 1 "_law_sum" (spLSum a) []) (D : DF K mg "_law_adds" "_law_adds" "_law_adds" sAdds ["_law_rows", "_law_place", "_law_weights_here"]) : Cal P w K mg base 2 "_law_adds" (spAdds a) [] := by
  refine cal_of D scAdds (fun vs H Q E h => ?_) (fun f cdv A outer s H vs Q E hr h => ?_)
  · obtain ⟨p, dw, b, rows, M, wl, W, rfl, _⟩ := h
    rfl
  · obtain ⟨p, dw, pb, rows, M, wl, W, rfl, ⟨ts, hts, pr⟩, ro, hw, ok, q⟩ := h
    have hu := hu_of hr
    obtain ⟨G, wi, J, sw, hG, hG0⟩ : ∃ (G : Hp → Prop) (wi : TI) (J : It), SeqW (cxOf CX0 P w K mg base nAdds "_law_adds" (defScope sAdds) f cdv A outer s H E).nox 0 "_law_rows" p ts G wi J ∧ (∀ H1 H2, G H1 → Same H1 H2 → G H2) ∧ G H := by
      rcases hts with hts | hts
      · exact ⟨fun H => SqL K H p ts, _, _, ⟨fun tg pos => pi_list (pv 0), fun σ H R h g k => ⟨.ref p, h, p, rfl, ⟨ts, g⟩, k⟩, walk_list⟩, fun H1 H2 g e => by
          rcases g with (g | ⟨o, g⟩) | g
          · exact .inl (.inl (e _ _ g))
          · exact .inl (.inr ⟨o, e _ _ g⟩)
          · exact .inr g, .inl (.inl hts)⟩
      · exact ⟨fun H => SqT K H p ts, _, _, ⟨fun tg pos => pi_tup (pv 0), fun σ H R h g k => ⟨.ref p, h, p, rfl, ⟨ts, g⟩, k⟩, walk_tup⟩, fun H1 H2 g e => Same.tseq e g, .inl (.inl hts)⟩
    refine ⟨_, pss_cons (ps_set (i := 3) scAdds.nd rfl (.inl rfl) (pe_callB (cr_sum rfl) (by rfl) T.nSum (by decide +kernel) (pa_cons (pe_listVals rfl (pv 2) (by rfl) T.nList) pa_nil)))
      (pss_cons (ps_for PassesOwn.never rfl (pi_list (pe_callB cr_sortedS (by rfl) T.nSorted (by decide +kernel) (pa_cons (pe_callTy (call_listD rfl) (by rfl) T.nList (by decide +kernel) (pa_cons (pv 2) pa_nil)) pa_nil))) (pg_name (i := 4) scAdds.nd rfl (.inr rfl))
        (pss_cons (ps_asg (pe_c Su hr (by decide) (by rfl) (pa_cons (pe_lc rfl scAdds.nd (sw.pi _ _) (own := [("_law_row", 7)]) (blkOk_by (by kernel_rfl)) (fun _ _ _ _ _ => pg_name (i := 7) scAdds.nd rfl (.inl rfl))
            (fun _ _ _ _ _ => pts_one (pt_cmpR op_eq (pe_ix (r := rIxT K) ix_tup (pv 7) (pv 1) (fun _ _ => rfl)) (pv 4) (nomark _))) (fun _ _ _ _ _ => pe_ix (r := rIxT K) ix_tup (pv 7) pe_int (fun _ _ => rfl))) pa_nil)) (pg_unl rfl (pgs_cons (pg_name (i := 5) scAdds.nd rfl (.inl rfl)) (pgs_cons (pg_name (i := 6) scAdds.nd rfl (.inl rfl)) pgs_nil))))
        (pss_one (ps_if (pt_cmpR op_ne (pe_op op_mul (pv 5) (pv 3)) (pe_op op_mul (pe_dget hu (pv 2) (pv 4) (fun _ _ => rfl)) (pv 6)) (nomark _)) (pss_one (ps_ret pe_bl)) pss_nil))))
      (pss_one (ps_ret pe_bl))), ?_⟩
    have tot : (wl.map fun x => V.int (W x)) = (wl.map W).map V.int := by rw [List.map_map]; rfl
    refine ⟨.ref dw, rfl, dw, _, rfl, hw, fun l0 n0 => ?_⟩
    rw [SK_vals]
    refine ⟨l0, wl.map W, rfl, .inl (.inl (by rw [upd_same, tot])), ?_⟩
    have e0 : Same H (upd H l0 (.lst (wl.map fun x => V.int (W x)))) := same_new n0
    generalize upd H l0 (.lst (wl.map fun x => V.int (W x))) = H0 at e0
    refine ⟨.ref dw, rfl, dw, _, rfl, .inl (e0 _ _ hw), fun l1 n1 => ?_⟩
    rw [SK_keys]
    refine ⟨l1, wl, rfl, .inl (.inl upd_same), (by have := ok.le; omega), fun sn l2 pm _ n2 => ?_⟩
    have snm : ∀ x, x ∈ sn ↔ x ∈ wl := fun x => pm.mem_iff
    have e1 := e0.trans ((same_new (o := .lst (wl.map V.str)) n1).trans (same_new (o := .lst (sn.map V.str)) n2))
    have hl2 : upd (upd H0 l1 (.lst (wl.map V.str))) l2 (.lst (sn.map V.str)) l2 = some (.lst (sn.map V.str)) := upd_same
    generalize upd (upd H0 l1 (.lst (wl.map V.str))) l2 (.lst (sn.map V.str)) = H1 at e1 hl2
    refine ⟨l2, rfl, ⟨_, .inl (.inl hl2)⟩, ?_⟩
    have sp := ok.pos
    have ss := ok.small
    refine for_it (walk_list (xs := sn.map V.str)) (fun i σ H' => ∃ v4 v5 v6 v7, σ = [some (.ref p), some (.int (plI pb)), some (.ref dw), some (.int (wl.map W).sum), v4, v5, v6, v7] ∧ Same H1 H' ∧ ∀ n ∈ sn.take i, colP pb rows n = shr wl W n) ⟨_, _, _, _, rfl, fun _ _ e => e, (by intro n hn; cases hn)⟩ ?_ ?_ ?_
    · rintro i σ H' _ ⟨v4, v5, v6, v7, rfl, e, _⟩
      exact .inl (.inl (e _ _ hl2))
    · rintro i v σ _ H' hi ⟨v4, v5, v6, v7, rfl, e, okn⟩ ⟨rfl, ev⟩
      obtain ⟨n, hn, rfl⟩ := get_map ev
      have nw := (snm n).mp (List.mem_of_getElem? hn)
      have et : sn.take (i + 1) = sn.take i ++ [n] := by rw [List.take_succ, hn]; rfl
      have e6 := e1.trans e
      have pr6 := L2.Paired.mapP pr fun _ _ h => h.same e6
      refine sw.wi _ _ _ rfl (hG _ _ hG0 e6) fun D nD => ?_
      refine col_lc (rows := rows) sw.wk (fun r => decide (keyP pb r = n)) pr6 (fun H2 e2 => hG _ _ hG0 (e6.trans e2)) nD ro.len (fun r t b H6 Nx ht ⟨acc, ha, hal⟩ k1 k2 => ?_) (fun H6 xs e7 hD hp => ?_)
      · refine ⟨rfl, .ref t, rfl, .int (plI pb), rfl, t, _, _, .str (keyP pb r), rfl, rfl, .inl (.inl ht), by cases pb <;> rfl, .str n, rfl, rfl, _, rfl, ?_⟩
        by_cases c : keyP pb r = n
        · rw [decide_eq_true (show V.str (keyP pb r) = V.str n by rw [c])]
          refine iteT ?_
          exact ⟨.ref t, rfl, t, _, 2, .ref b, rfl, rfl, .inl (.inl ht), rfl, acc, ha, hal, k1 (decide_eq_true c) acc ha⟩
        · rw [decide_eq_false (fun z : V.str (keyP pb r) = V.str n => c (by injection z))]
          refine iteF ?_
          exact k2 (decide_eq_false c)
      · refine ⟨D, xs, _, M, rfl, hD, hp, ro.m0, ro.mm, fun q hq => ?_, fun r t b H7 e8 h7 b0 hs => ?_⟩
        · obtain ⟨r, hr, rfl⟩ := List.mem_map.mp hq
          exact ro.ok r (List.mem_filter.mp hr).1
        · have e68 := (e.trans e7).trans e8
          have wn : -(2 ^ 64) < W n ∧ W n < 2 ^ 64 := by
            have h1 := ok.nn n nw
            have h2 : ∀ l : List Str, (∀ x ∈ l, 0 ≤ W x) → n ∈ l → W n ≤ (l.map W).sum := by
              intro l
              induction l with
              | nil => intro _ h; cases h
              | cons x l ih =>
                intro h3 h4
                rw [List.map_cons, List.sum_cons]
                have h0 : 0 ≤ (l.map W).sum := by
                  clear ih h4
                  have : ∀ l : List Str, (∀ x ∈ l, 0 ≤ W x) → 0 ≤ (l.map W).sum := by
                    intro l
                    induction l with
                    | nil => intro _; exact Int.le_refl _
                    | cons x l ih =>
                      intro h
                      rw [List.map_cons, List.sum_cons]
                      have := h x List.mem_cons_self
                      have := ih fun y hy => h y (List.mem_cons_of_mem _ hy)
                      omega
                  exact this l fun y hy => h3 y (List.mem_cons_of_mem _ hy)
                rcases List.mem_cons.mp h4 with rfl | h5
                · omega
                · have := ih (fun y hy => h3 y (List.mem_cons_of_mem _ hy)) h5
                  have := h3 x List.mem_cons_self
                  omega
            have := h2 wl ok.nn nw
            omega
          refine ⟨r, _, rfl, .inl (.inl h7), rfl, _, _, rfl, _, _, rfl, rfl, ?_⟩
          refine ⟨.int t, rfl, _, rfl, t, (wl.map W).sum, rfl, rfl, .inr ⟨by omega, by omega⟩, .ref dw, rfl, .str n, rfl, dw, .int (W n), rfl, .inl ⟨_, .inr n, .inl (e68 _ _ (e1 _ _ hw)), rfl, (SK_in (f := fun x => .int (W x)) nw).symm⟩, .int b, rfl, W n, b, rfl, rfl, .inl wn, rfl, _, rfl, ?_⟩
          have cr := cross (W := W n) b0 sp hs
          have hshr : shr wl W n = Rat.divInt (W n) (wl.map W).sum := if_pos nw
          by_cases c : t * (wl.map W).sum = W n * b
          · rw [decide_eq_true (show V.int (t * (wl.map W).sum) = V.int (W n * b) by rw [c])]
            refine iteF ?_
            refine ⟨_, _, _, _, rfl, e68, fun z hz => ?_⟩
            rw [et] at hz
            rcases List.mem_append.mp hz with h | h
            · exact okn z h
            · rw [List.mem_singleton] at h
              subst h
              rw [hshr]
              exact cr.mp c
          · rw [decide_eq_false (fun z : V.int (t * (wl.map W).sum) = V.int (W n * b) => c (V.int.inj z))]
            refine iteT ?_
            have := q _ (e1.trans e68)
            rw [show (wl.all fun n => decide (colP pb rows n = shr wl W n)) = false from by
              rw [List.all_eq_false]
              refine ⟨n, nw, fun h => c (cr.mpr ?_)⟩
              rw [← hshr]
              exact of_decide_eq_true h] at this
            exact this
    · rintro σ H' ⟨v4, v5, v6, v7, rfl, e, okn⟩
      rw [List.length_map, List.take_length] at okn
      have := q _ (e1.trans e)
      rw [show (wl.all fun n => decide (colP pb rows n = shr wl W n)) = true from List.all_eq_true.mpr fun n hn => decide_eq_true (okn n ((snm n).mpr hn))] at this
      exact this
end
end OT
end

section
set_option Elab.async false
set_option linter.all false
set_option maxRecDepth 100000
set_option maxHeartbeats 4000000
namespace OT
open PySem PySem.Spec PyProof.Rows L2 OTR
open C8 (Cal Mak Met pe_c pe_mk pe_mt pe_mt0)
theorem num_pos' (q : Rat) : 0 < q.num ↔ 0 < q := by
  have := rat_under 0 q
  rw [Bool.eq_iff_iff, decide_eq_true_eq, decide_eq_true_eq] at this
  rw [← this]
  show 0 < q.num ↔ (0 : Int) * (q.den : Int) < q.num * 1
  omega
theorem tableB_split (sn : List Str) (R : Str → Str → Bool) (ql qh : Str → Rat) (rows : List Row) : tableB sn R ql qh rows = (rows.all (okRow sn R) && ((sn.all fun n => decide (colP false rows n = ql n)) && (sn.all fun n => decide (colP true rows n = qh n)))) := by
  unfold tableB
  congr 1
  rw [Bool.eq_iff_iff, Bool.and_eq_true, List.all_eq_true, List.all_eq_true, List.all_eq_true]
  constructor
  · intro h
    exact ⟨fun n hn => (Bool.and_eq_true _ _ ▸ h n hn).1, fun n hn => (Bool.and_eq_true _ _ ▸ h n hn).2⟩
  · intro h n hn
    rw [Bool.and_eq_true]
    exact ⟨h.1 n hn, h.2 n hn⟩
section
variable {P : Program} {w : World} {K : PySem.W.Frag} {mg : Str → Option Value} {base : Heap} {a : Ads}
abbrev sLIT : Stmt := top 57
abbrev nLIT : List Str := ["_law_above_here", "_law_low", "_law_high", "_law_rows", "_law_first", "_law_second", "_law_share"]
theorem scLIT : FnScope nLIT ["_law_above_here", "_law_low", "_law_high", "_law_rows"] (defScope sLIT) := ⟨rfl, rfl, rfl, by decide +kernel, rfl, by decide +kernel, by decide +kernel⟩
def spLIT (a : Ads) : Sp := fun vs H Q _ => ∃ (da dl dh p : Addr) (ns : List Str) (R : Str → Str → Bool) (Wl Wh : Str → Int) (rows : List Row) (M : Nat), vs = [.ref da, .ref dl, .ref dh, .ref p] ∧ WebAt H da ns R ∧ WtAt H dl ns Wl ∧ WtAt H dh ns Wh ∧ OkW ns Wl ∧ OkW ns Wh ∧ RowsAt a H p rows ∧ RowsOk rows M ∧
  ∀ H2, Same H H2 → Q (.bl (tableB ns R (shr ns Wl) (shr ns Wh) rows)) H2
theorem ok_LIT (T : Fx K mg a) (Ad : Cal P w K mg base 2 "_law_adds" (spAdds a) []) (D : DF K mg "_law_is_table" "_law_is_table" "_law_is_table" sLIT ["_law_above_here", "_law_low", "_law_high", "_law_rows"]) : Cal P w K mg base 3 "_law_is_table" (spLIT a) [] := by
  refine cal_of D scLIT (fun vs H Q E h => ?_) (fun f cdv A outer s H vs Q E hr h => ?_)
  · obtain ⟨da, dl, dh, p, ns, R, Wl, Wh, rows, M, rfl, _⟩ := h
    rfl
  · obtain ⟨da, dl, dh, p, ns, R, Wl, Wh, rows, M, rfl, ⟨wd, up, hd, hw⟩, hl, hh, okl, okh, ⟨ts, hts, pr⟩, ro, q⟩ := h
    have hu := hu_of hr
    have hra : RowsAt a H p rows := ⟨ts, hts, pr⟩
    obtain ⟨G, wi, J, sw, hG, hG0⟩ : ∃ (G : Hp → Prop) (wi : TI) (J : It), SeqW (cxOf CX0 P w K mg base nLIT "_law_is_table" (defScope sLIT) f cdv A outer s H E).nox 3 "_law_rows" p ts G wi J ∧ (∀ H1 H2, G H1 → Same H1 H2 → G H2) ∧ G H := by
      rcases hts with hts | hts
      · exact ⟨fun H => SqL K H p ts, _, _, ⟨fun tg pos => pi_list (pv 3), fun σ H R h g k => ⟨.ref p, h, p, rfl, ⟨ts, g⟩, k⟩, walk_list⟩, fun H1 H2 g e => by
          rcases g with (g | ⟨o, g⟩) | g
          · exact .inl (.inl (e _ _ g))
          · exact .inl (.inr ⟨o, e _ _ g⟩)
          · exact .inr g, .inl (.inl hts)⟩
      · exact ⟨fun H => SqT K H p ts, _, _, ⟨fun tg pos => pi_tup (pv 3), fun σ H R h g k => ⟨.ref p, h, p, rfl, ⟨ts, g⟩, k⟩, walk_tup⟩, fun H1 H2 g e => Same.tseq e g, .inl (.inl hts)⟩
    refine ⟨_, pss_cons (ps_for PassesOwn.never rfl (sw.pi _ _) (pg_tup rfl (pgs_cons (pg_name (i := 4) scLIT.nd rfl (.inl rfl)) (pgs_cons (pg_name (i := 5) scLIT.nd rfl (.inl rfl)) (pgs_cons (pg_name (i := 6) scLIT.nd rfl (.inl rfl)) pgs_nil))))
        (pss_one (ps_if (pw_or (pt_cmp (pc_dnotin hu (pv 4) (pv 0))) (pw_or (pt_cmpR op_notIn_seq (pv 5) (pe_dget hu (pv 0) (pv 4) (fun _ _ => rfl)) (by rfl)) (pw_or1 (pt_cmpR op_lt (pe_fld (pv 6) rfl) pe_int (nomark _))))).pt (pss_one (ps_ret pe_bl)) pss_nil)))
      (pss_one (ps_ret (pe_and (pe_c Ad hr (by decide) (by rfl) (pa_cons (pv 3) (pa_cons pe_int (pa_cons (pv 1) pa_nil)))) (pe_one (pe_c Ad hr (by decide) (by rfl) (pa_cons (pv 3) (pa_cons pe_int (pa_cons (pv 2) pa_nil)))))))), ?_⟩
    refine sw.wi _ _ _ rfl hG0 ?_
    refine for_it sw.wk (fun i σ H' => ∃ v4 v5 v6, σ = [some (.ref da), some (.ref dl), some (.ref dh), some (.ref p), v4, v5, v6] ∧ H' = H ∧ ∀ r ∈ rows.take i, okRow ns R r = true) ⟨_, _, _, rfl, rfl, (by intro r hr; cases hr)⟩ ?_ ?_ ?_
    · rintro i σ H' _ ⟨v4, v5, v6, rfl, rfl, _⟩
      exact hG0
    · rintro i v σ _ H' hi ⟨v4, v5, v6, rfl, rfl, okp⟩ ⟨rfl, ev⟩
      obtain ⟨⟨x, y, qq⟩, hri, t, b, rfl, ht, ⟨db, hb⟩⟩ := paired_get pr ev
      have hrm := List.mem_of_getElem? hri
      have et : rows.take (i + 1) = rows.take i ++ [(x, y, qq)] := by rw [List.take_succ, hri]; rfl
      have bad : okRow ns R (x, y, qq) = false → Q (.bl false) H' := fun h => by
        have := q _ (fun _ _ e => e)
        rw [tableB_row hrm h] at this
        exact this
      refine ⟨t, _, rfl, .inl (.inl ht), rfl, _, _, rfl, _, _, rfl, _, _, rfl, rfl, ?_⟩
      refine ⟨.str x, rfl, .ref da, rfl, da, _, rfl, .inl ⟨_, .inr x, .inl hd, rfl, rfl⟩, _, rfl, ?_⟩
      rw [SK_some]
      by_cases cx : x ∈ ns
      · rw [decide_eq_true cx]
        refine iteF ?_
        obtain ⟨w1, w2, w3⟩ := hw x cx
        refine ⟨.str y, rfl, .ref da, rfl, .str x, rfl, da, .ref (wd x), rfl, .inl ⟨_, .inr x, .inl hd, rfl, (SK_in (f := fun x => .ref (wd x)) cx).symm⟩, wd x, _, rfl, .inl (.inl (.inl w1)), rfl, flat_strs _, _, rfl, ?_⟩
        rw [inV_str]
        by_cases cy : y ∈ up x
        · rw [decide_eq_true cy]
          refine iteF ?_
          obtain ⟨yn, hR⟩ := (w3 y).mp cy
          refine ⟨.ref b, rfl, b, a.R, db, _, _, rfl, hb, T.clR, T.r1, ratF_top qq, qq.num, 1, rfl, rfl, _, rfl, ?_⟩
          have np := num_pos' qq
          by_cases cq : 0 < qq
          · rw [decide_eq_false (show ¬ qq.num < 1 by have := np.mpr cq; omega)]
            refine iteF ?_
            refine ⟨_, _, _, rfl, rfl, fun r hr => ?_⟩
            rw [et] at hr
            rcases List.mem_append.mp hr with h | h
            · exact okp r h
            · rw [List.mem_singleton] at h
              subst h
              unfold okRow
              rw [decide_eq_true cx, decide_eq_true yn, hR, decide_eq_true cq]
              rfl
          · rw [decide_eq_true (show qq.num < 1 by have h0 : ¬ 0 < qq.num := fun h => cq (np.mp h); omega)]
            refine iteT ?_
            exact bad (by unfold okRow; rw [decide_eq_false (show ¬ (0 : Rat) < (x, y, qq).2.2 from cq), Bool.and_false, Bool.and_false, Bool.and_false])
        · rw [decide_eq_false cy]
          refine iteT (iteT ?_)
          refine bad ?_
          unfold okRow
          by_cases yn : y ∈ ns
          · have : R x y = false := by
              cases c : R x y with
              | false => rfl
              | true => exact absurd ((w3 y).mpr ⟨yn, c⟩) cy
            rw [show R (x, y, qq).1 (x, y, qq).2.1 = false from this, Bool.false_and, Bool.and_false, Bool.and_false]
          · rw [decide_eq_false (show ¬ (x, y, qq).2.1 ∈ ns from yn), Bool.false_and, Bool.and_false]
      · rw [decide_eq_false cx]
        refine iteT (iteT ?_)
        exact bad (by unfold okRow; rw [decide_eq_false (show ¬ (x, y, qq).1 ∈ ns from cx), Bool.false_and])
    · rintro σ H' ⟨v4, v5, v6, rfl, rfl, okr⟩
      rw [pr.length, List.take_length] at okr
      refine ⟨.ref p, rfl, .ref dl, rfl, p, dl, false, rows, M, ns, Wl, rfl, hra, ro, hl, okl, fun H2 e2 => ?_⟩
      refine ⟨_, rfl, ?_⟩
      rw [tableB_split, List.all_eq_true.mpr okr, Bool.true_and] at q
      cases c1 : ns.all fun n => decide (colP false rows n = shr ns Wl n) with
      | false =>
        refine iteF ?_
        have := q _ e2
        rw [c1, Bool.false_and] at this
        exact this
      | true =>
        refine iteT ?_
        refine ⟨.ref p, rfl, .ref dh, rfl, p, dh, true, rows, M, ns, Wh, rfl, hra.same e2, ro, e2 _ _ hh, okh, fun H3 e3 => ?_⟩
        have := q _ (e2.trans e3)
        rw [c1, Bool.true_and] at this
        exact this
end
end OT
end

section
set_option Elab.async false
set_option linter.all false
set_option maxRecDepth 100000
set_option maxHeartbeats 4000000
namespace OT
open PySem PySem.Spec PyProof.Rows L2 OTR
open C8 (Cal Mak Met pe_c pe_mk pe_mt pe_mt0)
section
variable {P : Program} {w : World} {K : PySem.W.Frag} {mg : Str → Option Value} {base : Heap} {a : Ads}
/-! ### up-sets -/
abbrev sUps : Stmt := top 52
abbrev nUps : List Str := ["_law_names_here", "_law_above_here", "_law_found", "_law_name", "_law_row", "_law_good", "_law_low", "_law_many"]
theorem scUps : FnScope nUps ["_law_names_here", "_law_above_here"] (defScope sUps) := ⟨rfl, rfl, rfl, by decide +kernel, rfl, by decide +kernel, by decide +kernel⟩
abbrev encU (us : List Str) : PyData := .tuple [.int us.length, .tuple (us.map .str)]
/-- rows at their addresses -/
def TupsAt (H : Hp) (ts : List (Addr × List Str)) : Prop := ∀ b ∈ ts, H b.1 = some (.tup (b.2.map V.str))
theorem TupsAt.same {H H2 : Hp} {ts : List (Addr × List Str)} (h : TupsAt H ts) (e : Same H H2) : TupsAt H2 ts := fun b hb => e _ _ (h b hb)
structure UpsOk (ns : List Str) (R : Str → Str → Bool) (ts : List (List Str)) : Prop where
  sub : ∀ u ∈ ts, ∀ x ∈ u, x ∈ ns
  nd : ∀ u ∈ ts, u.Nodup
  up : ∀ u ∈ ts, ∀ x ∈ u, ∀ y ∈ ns, R x y = true → y ∈ u
  all : ∀ U : Str → Prop, (∀ x y, x ∈ ns → U x → y ∈ ns → R x y = true → U y) → ∃ u ∈ ts, ∀ x ∈ ns, x ∈ u ↔ U x
theorem alike_strs : ∀ xs ys : List Str, PySem.W.alikeAll (xs.map .str) (ys.map .str) = true
  | [], _ => by simp [PySem.W.alikeAll]
  | _ :: _, [] => by simp [PySem.W.alikeAll]
  | x :: xs, y :: ys => by
    show PySem.W.alikeAll (.str x :: xs.map .str) (.str y :: ys.map .str) = true
    rw [PySem.W.alikeAll, alike_strs xs ys]
    simp [PySem.W.alike]
theorem encU_alike (p q : List Str) : PySem.W.alike (encU p) (encU q) = true := by
  simp [encU, PySem.W.alike, PySem.W.alikeAll, alike_strs]
theorem encU_depth (p : List Str) : (encU p).depth ≤ 8 := by
  simp [encU, PyData.depth, PyData.depthAll, depth_strs]
structure SubS (l : List Str) (fl : List (List Str)) : Prop where
  sub : ∀ u ∈ fl, ∀ x ∈ u, x ∈ l
  nd : ∀ u ∈ fl, u.Nodup
  all : ∀ U : Str → Prop, ∃ u ∈ fl, ∀ x ∈ l, x ∈ u ↔ U x
theorem SubS.nil (l : List Str) : SubS (l.take 0) [[]] := by
  refine ⟨fun u hu x hx => ?_, fun u hu => ?_, fun U => ⟨[], List.mem_cons_self, fun x hx => ?_⟩⟩
  · rw [List.mem_singleton] at hu
    rw [hu] at hx
    cases hx
  · rw [List.mem_singleton] at hu
    rw [hu]
    exact .nil
  · cases hx
theorem SubS.add {l : List Str} {fl : List (List Str)} (S : SubS l fl) {z : Str} (hz : z ∉ l) : SubS (l ++ [z]) (fl ++ fl.map fun u => u ++ [z]) := by
  refine ⟨fun u hu x hx => ?_, fun u hu => ?_, fun U => ?_⟩
  · rcases List.mem_append.mp hu with h | h
    · exact List.mem_append_left _ (S.sub u h x hx)
    · obtain ⟨v, hv, rfl⟩ := List.mem_map.mp h
      rcases List.mem_append.mp hx with h | h
      · exact List.mem_append_left _ (S.sub v hv x h)
      · exact List.mem_append_right _ h
  · rcases List.mem_append.mp hu with h | h
    · exact S.nd u h
    · obtain ⟨v, hv, rfl⟩ := List.mem_map.mp h
      refine List.nodup_append.mpr ⟨S.nd v hv, by simp, ?_⟩
      rintro x hx y hy rfl
      rw [List.mem_singleton] at hy
      subst hy
      exact hz (S.sub v hv _ hx)
  · obtain ⟨u, hu, h⟩ := S.all U
    by_cases c : U z
    · refine ⟨u ++ [z], List.mem_append_right _ (List.mem_map.mpr ⟨u, hu, rfl⟩), fun x hx => ?_⟩
      rw [List.mem_append, List.mem_singleton]
      rcases List.mem_append.mp hx with h1 | h1
      · rw [h x h1]
        exact ⟨fun q => q.elim id fun e => e ▸ c, .inl⟩
      · rw [List.mem_singleton] at h1
        subst h1
        exact ⟨fun _ => c, fun _ => .inr rfl⟩
    · refine ⟨u, List.mem_append_left _ hu, fun x hx => ?_⟩
      rcases List.mem_append.mp hx with h1 | h1
      · exact h x h1
      · rw [List.mem_singleton] at h1
        subst h1
        exact ⟨fun q => absurd (S.sub u hu _ q) hz, fun q => absurd q c⟩
def upB (up : Str → List Str) (us : List Str) : Bool := us.all fun x => ((up x).filter fun z => decide (z ∉ us)).isEmpty
def spUps : Sp := fun vs H Q _ => ∃ (m d : Addr) (ns n2 : List Str) (R : Str → Str → Bool), vs = [.ref m, .ref d] ∧ LstS H m n2 ∧ n2.Perm ns ∧ WebAt H d ns R ∧ OkNs ns ∧ ∀ l ts H2, Same H H2 → H2 l = some (.lst (ts.map fun b : Addr × List Str => V.ref b.1)) → TupsAt H2 ts → UpsOk ns R (ts.map (·.2)) → Q (.ref l) H2
theorem ok_Ups (T : Fx K mg a) (D : DF K mg "_law_ups" "_law_ups" "_law_ups" sUps ["_law_names_here", "_law_above_here"]) : Cal P w K mg base 1 "_law_ups" spUps [] := by
  refine cal_of D scUps (fun vs H Q E h => ?_) (fun f cdv A outer s H vs Q E hr h => ?_)
  · obtain ⟨m, d, ns, n2, R, rfl, _⟩ := h
    rfl
  · obtain ⟨m, d, ns, nn2, R, rfl, hm, pnn, ⟨wd, up, hd, hw⟩, ok, q⟩ := h
    have hu := hu_of hr
    refine ⟨_, pss_cons (ps_set (i := 2) scUps.nd rfl (.inl rfl) (pe_lst (pa_cons (pe_tup pa_nil) pa_nil)))
      (pss_cons (ps_for PassesOwn.never rfl (pi_list (pe_callB cr_sortedS (by rfl) T.nSorted (by decide +kernel) (pa_cons (pv 0) pa_nil))) (pg_name (i := 3) scUps.nd rfl (.inr rfl))
        (pss_one (ps_set (i := 2) scUps.nd rfl (.inl rfl) (pe_op op_cat (pv 2) (pe_lc rfl scUps.nd (pi_list (pv 2)) (own := [("_law_row", 4)]) (blkOk_by (by kernel_rfl)) (fun _ _ _ _ _ => pg_name (i := 4) scUps.nd rfl (.inl rfl)) (fun _ _ _ _ _ => pts_nil)
          (fun _ _ _ _ _ => pe_op (r := rCatA K) op_catA (pv 4) (pe_tup (pa_cons (pv 3) pa_nil))))))))
      (pss_cons (ps_set (i := 5) scUps.nd rfl (.inl rfl) (pe_lst pa_nil))
      (pss_cons (ps_for PassesOwn.never rfl (pi_list (pv 2)) (pg_name (i := 4) scUps.nd rfl (.inr rfl))
        (pss_one (ps_if (pt_val (pe_callB (cr_all rfl) (by rfl) T.nAll (by decide +kernel) (pa_cons (pe_lc rfl scUps.nd (pi_tup (pv 4)) (own := [("_law_low", 6)]) (blkOk_by (by kernel_rfl)) (fun _ _ _ _ _ => pg_name (i := 6) scUps.nd rfl (.inl rfl)) (fun _ _ _ _ _ => pts_nil)
            (fun _ _ _ _ _ => pe_cmpR (r := rEqD K) (op_eqD hr.units) (pe_lc rfl scUps.nd (wi := iList K (tDGet (tVar 1) (tVar 6))) (pi_list (pe_dget hu (pv 1) (pv 6) (fun _ _ => rfl))) (own := [("_law_name", 3)]) (blkOk_by (by kernel_rfl)) (fun _ _ _ _ _ => pg_name (i := 3) scUps.nd rfl (.inl rfl))
              (tt := tTest (tOp (rIn K true) (tVar 3) (tVar 4))) (fun _ _ _ _ _ => pts_one (pt_cmpR (r := rIn K true) op_notIn_seq (pv 3) (pv 4) (by rfl))) (fun _ _ _ _ _ => pv 3)) (pe_lst pa_nil) (nomark _))) pa_nil)))
          (pss_one (ps_expr (pe_bm PySem.F.plainAttrs_list PySem.F.slot_list_append PySem.F.type_list_append mt_append (pv 5) (pa_cons (pe_tup (pa_cons (pe_callB call_len (by rfl) T.nLen (by decide +kernel) (pa_cons (pv 4) pa_nil)) (pa_cons (pv 4) pa_nil))) pa_nil)))) pss_nil)))
      (pss_one (ps_ret (pe_lc rfl scUps.nd (pi_list (pe_callB (cr_sortDat hr.units encU) (by rfl) T.nSorted (by decide +kernel) (pa_cons (pv 5) pa_nil))) (own := [("_law_many", 7), ("_law_row", 4)]) (g := gTup K 2 (gCons (gName 7) (gCons (gName 4) gNil))) (blkOk_by (by kernel_rfl)) (fun _ _ _ _ _ => pg_tup rfl (pgs_cons (pg_name (i := 7) scUps.nd rfl (.inl rfl)) (pgs_cons (pg_name (i := 4) scUps.nd rfl (.inl rfl)) pgs_nil))) (fun _ _ _ _ _ => pts_nil) (fun _ _ _ _ _ => pv 4))))))), ?_⟩
    have n8 := ok.le
    refine ⟨(by show 0 ≤ sizeLine; decide), fun t0 nt0 => ?_⟩
    have e0 : Same H (upd H t0 (.tup [])) := same_new nt0
    have ht0 : upd H t0 (.tup []) t0 = some (.tup []) := upd_same
    generalize upd H t0 (.tup []) = H0 at e0 ht0
    refine ⟨(by show 1 ≤ sizeLine; decide), fun l0 nl0 => ?_⟩
    have e1 := e0.trans (same_new (o := .lst [.ref t0]) nl0)
    have ht1 := same_new (o := .lst [.ref t0]) nl0 _ _ ht0
    have hl1 : upd H0 l0 (.lst [.ref t0]) l0 = some (.lst [.ref t0]) := upd_same
    generalize upd H0 l0 (.lst [.ref t0]) = H1 at e1 ht1 hl1
    refine ⟨.ref m, rfl, m, nn2, rfl, .inl (.inl (e1 _ _ hm)), (by have := pnn.length_eq; omega), fun sn l1 pm0 _ n1 => ?_⟩
    have pm : sn.Perm ns := pm0.trans pnn
    have e2 := e1.trans (same_new (o := .lst (sn.map V.str)) n1)
    have e12 : Same H1 (upd H1 l1 (.lst (sn.map V.str))) := same_new n1
    have hs1 : upd H1 l1 (.lst (sn.map V.str)) l1 = some (.lst (sn.map V.str)) := upd_same
    generalize upd H1 l1 (.lst (sn.map V.str)) = H2 at e2 hs1 e12
    have sm : ∀ x, x ∈ sn ↔ x ∈ ns := fun x => pm.mem_iff
    have sl8 : sn.length ≤ 8 := by have := pm.length_eq; omega
    have snd := pm.nodup_iff.mpr ok.nd
    refine ⟨l1, rfl, ⟨_, .inl (.inl hs1)⟩, ?_⟩
    refine for_it (walk_list (xs := sn.map V.str)) (fun i σ H' => ∃ (l : Addr) (v3 v4 v5 v6 v7 : Option V) (fl : List (Addr × List Str)), σ = [some (.ref m), some (.ref d), some (.ref l), v3, v4, v5, v6, v7] ∧ Same H2 H' ∧ H' l = some (.lst (fl.map fun b => V.ref b.1)) ∧ TupsAt H' fl ∧ fl.length ≤ 2 ^ i ∧ SubS (sn.take i) (fl.map fun b : Addr × List Str => b.2))
      ⟨l0, _, _, _, _, _, [(t0, [])], rfl, fun _ _ e => e, e12 _ _ hl1, fun b hb => by
        rw [List.mem_singleton] at hb
        subst hb
        exact e12 _ _ ht1, Nat.le_refl 1, SubS.nil sn⟩ ?_ ?_ ?_
    · rintro i σ H' _ ⟨l, v3, v4, v5, v6, v7, fl, rfl, e, _⟩
      exact .inl (.inl (e _ _ hs1))
    · rintro i v σ _ H' hi ⟨l, v3, v4, v5, v6, v7, fl, rfl, e, hl, tf, fl2, S⟩ ⟨rfl, ev⟩
      obtain ⟨z, hz, rfl⟩ := get_map ev
      have hi' : i < 8 := by rw [List.length_map] at hi; omega
      have fl256 : fl.length ≤ 256 := Nat.le_trans fl2 (Nat.le_trans (Nat.pow_le_pow_right (by decide) (show i ≤ 8 by omega)) (by decide))
      have et : sn.take (i + 1) = sn.take i ++ [z] := by rw [List.take_succ, hz]; rfl
      refine ⟨.ref l, rfl, .ref l, rfl, l, rfl, ⟨_, .inl (.inl hl)⟩, fun D nD => ?_⟩
      refine lc_it (walk_list (xs := fl.map fun b => V.ref b.1)) (fun k Hk => ∃ gl : List (Addr × List Str), Same H' Hk ∧ Hk D = some (.lst (gl.map fun b => V.ref b.1)) ∧ TupsAt Hk gl ∧ gl.map (·.2) = (fl.take k).map fun b => b.2 ++ [z]) ⟨[], same_new nD, upd_same, (by intro b hb; cases hb), rfl⟩ ?_ ?_ ?_
      · rintro k Hk _ ⟨gl, ek, _⟩
        exact .inl (.inl (ek _ _ hl))
      · rintro k v _ Hk hk ⟨gl, ek, hD, tg, eg⟩ ⟨rfl, ev⟩
        obtain ⟨⟨b, us⟩, hb, rfl⟩ := get_map ev
        have hbt := ek _ _ (tf _ (List.mem_of_getElem? hb))
        have us8 : us.length ≤ 8 := by
          have := nodup_le (S.nd us (List.mem_map.mpr ⟨_, List.mem_of_getElem? hb, rfl⟩)) (fun x hx => List.mem_of_mem_take (S.sub us (List.mem_map.mpr ⟨_, List.mem_of_getElem? hb, rfl⟩) x hx))
          omega
        have gl256 : gl.length ≤ 256 := by
          have := congrArg List.length eg
          rw [List.length_map, List.length_map, List.length_take] at this
          omega
        refine ⟨rfl, lcY ?_⟩
        refine ⟨.ref b, rfl, .str z, rfl, (by show 1 ≤ sizeLine; decide), fun t nt => ?_⟩
        have st : Same Hk (upd Hk t (.tup [.str z])) := same_new nt
        have fin : ∀ (H5 : Hp) (r : Addr), Same Hk H5 → H5 r = some (.tup ((us ++ [z]).map V.str)) → ∃ acc, H5 D = some (.lst acc) ∧ acc.length < sizeLine ∧ ∃ gl : List (Addr × List Str), Same H' (upd H5 D (.lst (acc ++ [.ref r]))) ∧ upd H5 D (.lst (acc ++ [.ref r])) D = some (.lst (gl.map fun b => V.ref b.1)) ∧ TupsAt (upd H5 D (.lst (acc ++ [.ref r]))) gl ∧ gl.map (·.2) = (fl.take (k + 1)).map fun b => b.2 ++ [z] := fun H5 r e5 hr5 => by
          have hD5 := e5 _ _ hD
          have tt : ∀ {c : Addr} {zs : List V} {o : HO}, H5 c = some (.tup zs) → upd H5 D o c = some (.tup zs) := fun h => (upd_ne fun e => by rw [e, hD5] at h; cases h).trans h
          refine ⟨_, hD5, by rw [List.length_map]; exact smallL (by omega), gl ++ [(r, us ++ [z])], Same.mut (ek.trans e5) nD, by rw [upd_same, List.map_append]; rfl, fun c hc => ?_, by rw [List.map_append, eg, List.take_succ, hb, List.map_append]; rfl⟩
          rcases List.mem_append.mp hc with h | h
          · exact tt (e5 _ _ (tg c h))
          · rw [List.mem_singleton] at h
            subst h
            exact tt hr5
        refine ⟨b, t, us.map V.str, [.str z], rfl, rfl, .inl (.inl (st _ _ hbt)), .inl (.inl upd_same), (by rw [List.length_map]; exact small (by simp; omega)), fun h0 => ?_, fun _ h0 => (by cases h0), fun _ _ r nr => ?_⟩
        · have : us = [] := by
            cases us with
            | nil => rfl
            | cons _ _ => cases h0
          subst this
          exact fin _ t st upd_same
        · refine fin _ r (st.trans (same_new nr)) ?_
          rw [upd_same, List.map_append]
          rfl
      · rintro Hk ⟨gl, ek, hD, tg, eg⟩
        rw [List.length_map, List.take_length] at eg
        have gl256 : gl.length = fl.length := by
          have := congrArg List.length eg
          rw [List.length_map, List.length_map] at this
          exact this
        refine ⟨l, D, _, _, rfl, rfl, ek _ _ hl, hD, by rw [List.length_map, List.length_map]; exact small (by omega), fun l2 nl2 => ?_⟩
        have e3 := ek.trans (same_new (o := .lst (fl.map (fun b => V.ref b.1) ++ gl.map fun b => V.ref b.1)) nl2)
        refine ⟨l2, _, _, _, _, _, fl ++ gl, rfl, e.trans e3, by rw [upd_same, List.map_append], fun b hb => ?_, ?_, ?_⟩
        · rcases List.mem_append.mp hb with h | h
          · exact e3 _ _ (tf b h)
          · exact same_new nl2 _ _ (tg b h)
        · rw [List.length_append, gl256, Nat.pow_succ]
          omega
        · rw [List.map_append, eg, et]
          have := S.add (z := z) (nodup_take snd hz)
          rw [List.map_map] at this
          exact this
    rintro σ H3 ⟨l, v3, v4, v5, v6, v7, fl, rfl, e3, hl, tf, fl2, S⟩
    rw [List.length_map, List.take_length] at S
    have fl256 : fl.length ≤ 256 := Nat.le_trans fl2 (Nat.le_trans (Nat.pow_le_pow_right (by decide) (show (sn.map V.str).length ≤ 8 by rw [List.length_map]; exact sl8)) (by decide))
    have e23 := e2.trans e3
    refine ⟨(by show 0 ≤ sizeLine; decide), fun lg nlg => ?_⟩
    have eg0 : Same H3 (upd H3 lg (.lst [])) := same_new nlg
    refine ⟨.ref l, rfl, l, rfl, ⟨_, .inl (.inl (eg0 _ _ hl))⟩, ?_⟩
    have nlgH : H lg = none := Same.none e23 nlg
    have llg : l ≠ lg := fun h => by rw [h, nlg] at hl; cases hl
    have wup : ∀ x ∈ ns, ∀ {H' : Hp}, Same H H' → DGet H' d (.str x) (some (.ref (wd x))) := fun x hx H' e => .inl ⟨_, .inr x, .inl (e _ _ hd), rfl, (SK_in (f := fun x => .ref (wd x)) hx).symm⟩
    have tfs : ∀ b ∈ fl, (∀ x ∈ b.2, x ∈ ns) ∧ b.2.length ≤ 8 := fun b hb => by
      have h1 : b.2 ∈ fl.map fun b : Addr × List Str => b.2 := List.mem_map.mpr ⟨b, hb, rfl⟩
      have h2 := fun x hx => (sm x).mp (S.sub b.2 h1 x hx)
      have := nodup_le (S.nd b.2 h1) h2
      exact ⟨h2, by omega⟩
    refine for_it (walk_list (xs := fl.map fun b => V.ref b.1)) (fun j σ H' => ∃ (v3 v4 v6 v7 : Option V) (gt : List (Addr × List Str)), σ = [some (.ref m), some (.ref d), some (.ref l), v3, v4, some (.ref lg), v6, v7] ∧ Same H H' ∧ H' l = some (.lst (fl.map fun b => V.ref b.1)) ∧ TupsAt H' fl ∧ H' lg = some (.lst (gt.map fun b => V.ref b.1)) ∧
        (∀ b ∈ gt, ∃ ra, H' b.1 = some (.tup [.int b.2.length, .ref ra]) ∧ H' ra = some (.tup (b.2.map V.str))) ∧ gt.map (fun b : Addr × List Str => b.2) = ((fl.take j).filter fun b => upB up b.2).map fun b : Addr × List Str => b.2)
      ⟨_, _, _, _, [], rfl, e23.trans eg0, eg0 _ _ hl, tf.same eg0, upd_same, (by intro b hb; cases hb), rfl⟩ ?_ ?_ ?_
    · rintro j σ H' _ ⟨v3, v4, v6, v7, gt, rfl, e, hl, _⟩
      exact .inl (.inl hl)
    · rintro j v σ _ H' hj ⟨v3, v4, v6, v7, gt, rfl, e, hl, tf, hg, tg, eg⟩ ⟨rfl, ev⟩
      obtain ⟨⟨b, us⟩, hb, rfl⟩ := get_map ev
      have hbm := List.mem_of_getElem? hb
      have usn : ∀ x ∈ us, x ∈ ns := (tfs _ hbm).1
      have us8 : us.length ≤ 8 := (tfs _ hbm).2
      have hbt : H' b = some (.tup (us.map V.str)) := tf _ hbm
      have et : fl.take (j + 1) = fl.take j ++ [(b, us)] := by rw [List.take_succ, hb]; rfl
      refine ⟨.ref b, rfl, b, rfl, ⟨_, .inl (.inl hbt)⟩, fun D nD => ?_⟩
      refine lc_grow us walk_tstrs (fun _ => true) (fun x => .bl ((up x).filter fun z => decide (z ∉ us)).isEmpty) (by omega) nD (fun H2 e2 => .inl (.inl (e2 _ _ hbt))) (fun k x v Ha Hb Nx hk ea ⟨eH, ev⟩ ⟨acc, hacc, hal⟩ k1 _ => ?_) (fun H5 e5 hD => ?_)
      · subst eH
        obtain ⟨x', hx', rfl⟩ := get_map ev
        rw [hk] at hx'
        injection hx' with hx'
        subst hx'
        have xn := usn x (List.mem_of_getElem? hk)
        obtain ⟨w1, w2, w3⟩ := hw x xn
        have eA := e.trans ea
        have ul := nodup_le w2 fun y hy => ((w3 y).mp hy).1
        refine ⟨rfl, lcY ?_⟩
        refine ⟨.ref d, rfl, .str x, rfl, d, .ref (wd x), rfl, wup x xn eA, wd x, rfl, ⟨_, .inl (.inl (eA _ _ w1))⟩, fun D2 nD2 => ?_⟩
        have sD : ∀ acc, Same Hb (upd Hb D2 (.lst acc)) := fun acc => same_new nD2
        refine lc_pure (up x) walk_strs (fun z => decide (z ∉ us)) V.str (by omega) (fun acc => .inl (.inl (sD acc _ _ (eA _ _ w1)))) (fun k z v acc2 Hx Nx2 hk2 ⟨eH, ev⟩ hal2 q1 q2 => ?_) ?_
        · subst eH
          obtain ⟨z', hz', rfl⟩ := get_map ev
          rw [hk2] at hz'
          injection hz' with hz'
          subst hz'
          refine ⟨rfl, .str z, rfl, .ref b, rfl, b, _, rfl, .inr (.inl (.inl (sD acc2 _ _ (ea _ _ hbt)))), rfl, flat_strs _, _, rfl, ?_⟩
          rw [inV_str]
          by_cases c : z ∈ us
          · rw [decide_eq_true c]
            refine iteF ?_
            exact q2 (decide_eq_false (fun h => h c))
          · rw [decide_eq_false c]
            refine iteT ?_
            refine ⟨.str z, rfl, acc2, upd_same, hal2, ?_⟩
            rw [upd_upd]
            exact q1 (decide_eq_true c)
        · have s5 := sD (((up x).filter fun z => decide (z ∉ us)).map V.str)
          have hD2 : upd Hb D2 (.lst (((up x).filter fun z => decide (z ∉ us)).map V.str)) D2 = some (.lst (((up x).filter fun z => decide (z ∉ us)).map V.str)) := upd_same
          refine ⟨Nat.zero_le _, fun le nle => ?_⟩
          have s6 := same_new (o := .lst []) nle
          have s56 := s5.trans s6
          refine ⟨.list _, .list [], .lst (.inl (.inl (s6 _ _ hD2))) (dp_strs _), .lst (.inl (.inl upd_same)) .nil, shaped_strs (fun z hz => ok.mem z ((w3 z).mp (List.mem_filter.mp hz).1).1), rfl, ?_⟩
          rw [eqv_nil]
          exact ⟨acc, s56 _ _ hacc, hal, k1 rfl _ acc s56 (s56 _ _ hacc)⟩
      · rw [List.filter_eq_self.mpr (fun _ _ => rfl)] at hD
        refine ⟨D, us.map fun x => ((up x).filter fun z => decide (z ∉ us)).isEmpty, rfl, .inl (.inl (by rw [hD, List.map_map]; rfl)), _, rfl, ?_⟩
        have eB : ((us.map fun x => ((up x).filter fun z => decide (z ∉ us)).isEmpty).all id) = upB up us := by
          rw [List.all_map]
          rfl
        rw [eB]
        have e' := e.trans e5
        have hg5 := e5 _ _ hg
        cases cB : upB up us with
        | true =>
          refine iteT ?_
          refine ⟨.ref lg, rfl, .inl ⟨rfl, _, .inl (.inl hg5)⟩, .ref b, rfl, .ref b, us.length, rfl, .inr ⟨_, .inl (.inl (e5 _ _ hbt)), (List.length_map ..).symm⟩, .ref b, rfl, (by show 2 ≤ sizeLine; decide), fun t nt => ?_⟩
          have s6 := same_new (o := .tup [.int us.length, .ref b]) nt
          have ht6 : upd H5 t (.tup [.int us.length, .ref b]) t = some (.tup [.int us.length, .ref b]) := upd_same
          have hg6 := s6 _ _ hg5
          have s56 := e5.trans s6
          generalize upd H5 t (.tup [.int us.length, .ref b]) = H6 at s6 ht6 hg6 s56
          have gl : gt.length ≤ 256 := by
            have := congrArg List.length eg
            rw [List.length_map, List.length_map] at this
            have h2 := List.length_filter_le (fun b : Addr × List Str => upB up b.2) (fl.take j)
            rw [List.length_take] at h2
            omega
          have tt : ∀ {c : Addr} {zs : List V} {o : HO}, H6 c = some (.tup zs) → upd H6 lg o c = some (.tup zs) := fun h => (upd_ne fun e => by rw [e, hg6] at h; cases h).trans h
          refine ⟨lg, _, _, rfl, rfl, hg6, by rw [List.length_map]; exact smallL (by omega), ?_⟩
          refine ⟨_, _, _, _, gt ++ [(t, us)], rfl, Same.mut (e.trans s56) nlgH, (upd_ne llg).trans (s56 _ _ hl), fun c hc => tt (s56 _ _ (tf c hc)), by rw [upd_same, List.map_append]; rfl, fun c hc => ?_, by rw [List.map_append, eg, et, List.filter_append, List.filter_cons, if_pos cB, List.map_append]; rfl⟩
          rcases List.mem_append.mp hc with h | h
          · obtain ⟨ra, r1, r2⟩ := tg c h
            exact ⟨ra, tt (s56 _ _ r1), tt (s56 _ _ r2)⟩
          · rw [List.mem_singleton] at h
            subst h
            exact ⟨b, tt ht6, tt (s56 _ _ hbt)⟩
        | false =>
          refine iteF ?_
          refine ⟨_, _, _, _, gt, rfl, e', e5 _ _ hl, tf.same e5, hg5, fun c hc => ?_, by rw [eg, et, List.filter_append, List.filter_cons, if_neg (by rw [cB]; decide), List.filter_nil, List.append_nil]⟩
          obtain ⟨ra, r1, r2⟩ := tg c hc
          exact ⟨ra, e5 _ _ r1, e5 _ _ r2⟩
    rintro σ H4 ⟨v3, v4, v6, v7, gt, rfl, e4, hl, tf, hg, tg, eg⟩
    rw [List.length_map, List.take_length] at eg
    have gmem : ∀ b ∈ gt, ∃ c ∈ fl, c.2 = b.2 ∧ upB up b.2 = true := fun b hb => by
      have : b.2 ∈ gt.map fun b : Addr × List Str => b.2 := List.mem_map.mpr ⟨b, hb, rfl⟩
      rw [eg] at this
      obtain ⟨c, hc, e⟩ := List.mem_map.mp this
      exact ⟨c, (List.mem_filter.mp hc).1, e, e ▸ (List.mem_filter.mp hc).2⟩
    refine ⟨.ref lg, rfl, lg, gt, rfl, .inl (.inl hg), fun b hb => ?_, PySem.W.AllAlike.of fun b b' => encU_alike _ _, PySem.W.Sortable.tuples fun b => ⟨_, _, rfl⟩, fun b _ => encU_depth _, fun ls nls => ?_⟩
    · obtain ⟨ra, r1, r2⟩ := tg b hb
      exact .tup (.inl (.inl r1)) (.cons (.int _) (.cons (.tup (.inl (.inl r2)) (dp_strs _)) .nil))
    have gpm := List.mergeSort_perm gt (PySem.W.dataLe false fun b => encU b.2)
    generalize gt.mergeSort (PySem.W.dataLe false fun b => encU b.2) = g2 at gpm
    have s7 := same_new (o := .lst (g2.map fun b => V.ref b.1)) nls
    have hls : upd H4 ls (.lst (g2.map fun b => V.ref b.1)) ls = some (.lst (g2.map fun b => V.ref b.1)) := upd_same
    generalize upd H4 ls (.lst (g2.map fun b => V.ref b.1)) = H7 at s7 hls
    refine ⟨ls, rfl, ⟨_, .inl (.inl hls)⟩, fun D nD => ?_⟩
    refine lc_it (walk_list (xs := g2.map fun b => V.ref b.1)) (fun k Hk => ∃ ts : List (Addr × List Str), Same H7 Hk ∧ Hk D = some (.lst (ts.map fun b => V.ref b.1)) ∧ TupsAt Hk ts ∧ ts.map (fun b : Addr × List Str => b.2) = (g2.take k).map fun b : Addr × List Str => b.2) ⟨[], same_new nD, upd_same, (by intro b hb; cases hb), rfl⟩ ?_ ?_ ?_
    · rintro k Hk _ ⟨ts, ek, _⟩
      exact .inl (.inl (ek _ _ hls))
    · rintro k v _ Hk hk ⟨ts, ek, hD, tt, es⟩ ⟨rfl, ev⟩
      obtain ⟨⟨b, us⟩, hb, rfl⟩ := get_map ev
      obtain ⟨ra, r1, r2⟩ := tg (b, us) (gpm.mem_iff.mp (List.mem_of_getElem? hb))
      have r1 := ek _ _ (s7 _ _ r1)
      have r2 := ek _ _ (s7 _ _ r2)
      have tl : ts.length ≤ 256 := by
        have := congrArg List.length es
        rw [List.length_map, List.length_map, List.length_take] at this
        have h2 := gpm.length_eq
        have h3 := congrArg List.length eg
        rw [List.length_map, List.length_map] at h3
        have h4 := List.length_filter_le (fun b : Addr × List Str => upB up b.2) fl
        omega
      refine ⟨b, _, rfl, .inl (.inl r1), rfl, _, _, rfl, _, _, rfl, rfl, rfl, lcY ?_⟩
      have tup : ∀ {c : Addr} {zs : List V} {o : HO}, Hk c = some (.tup zs) → upd Hk D o c = some (.tup zs) := fun h => (upd_ne fun e => by rw [e, hD] at h; cases h).trans h
      refine ⟨.ref ra, rfl, _, hD, by rw [List.length_map]; exact smallL (by omega), ts ++ [(ra, us)], Same.mut ek nD, by rw [upd_same, List.map_append]; rfl, fun c hc => ?_, by rw [List.map_append, es, List.take_succ, hb, List.map_append]; rfl⟩
      rcases List.mem_append.mp hc with h | h
      · exact tup (tt c h)
      · rw [List.mem_singleton] at h
        subst h
        exact tup r2
    · rintro Hk ⟨ts, ek, hD, tt, es⟩
      rw [List.length_map, List.take_length] at es
      have mem2 : ∀ u, u ∈ ts.map (fun b : Addr × List Str => b.2) ↔ u ∈ (fl.map fun b : Addr × List Str => b.2) ∧ upB up u = true := fun u => by
        rw [es, (gpm.map _).mem_iff, eg, List.mem_map, List.mem_map]
        constructor
        · rintro ⟨c, hc, rfl⟩
          exact ⟨⟨c, (List.mem_filter.mp hc).1, rfl⟩, (List.mem_filter.mp hc).2⟩
        · rintro ⟨⟨c, hc, rfl⟩, h⟩
          exact ⟨c, List.mem_filter.mpr ⟨hc, h⟩, rfl⟩
      have upIff : ∀ u, (∀ x ∈ u, x ∈ ns) → (upB up u = true ↔ ∀ x ∈ u, ∀ y ∈ ns, R x y = true → y ∈ u) := fun u hu => by
        unfold upB
        rw [List.all_eq_true]
        constructor
        · intro h x hx y hy hR
          have h1 := List.isEmpty_iff.mp (h x hx)
          rw [List.filter_eq_nil_iff] at h1
          have := h1 y (((hw x (hu x hx)).2.2 y).mpr ⟨hy, hR⟩)
          rw [decide_eq_true_eq] at this
          exact Decidable.not_not.mp this
        · intro h x hx
          rw [List.isEmpty_iff, List.filter_eq_nil_iff]
          intro y hy
          obtain ⟨h1, h2⟩ := ((hw x (hu x hx)).2.2 y).mp hy
          rw [decide_eq_true_eq]
          exact fun hn => hn (h x hx y h1 h2)
      refine q D ts Hk ((e4.trans s7).trans ek) hD tt ⟨fun u hu x hx => ?_, fun u hu => ?_, fun u hu => ?_, fun U hU => ?_⟩
      · exact (sm x).mp (S.sub u ((mem2 u).mp hu).1 x hx)
      · exact S.nd u ((mem2 u).mp hu).1
      · exact (upIff u fun x hx => (sm x).mp (S.sub u ((mem2 u).mp hu).1 x hx)).mp ((mem2 u).mp hu).2
      · obtain ⟨u, hu, h⟩ := S.all U
        have hun : ∀ x ∈ u, x ∈ ns := fun x hx => (sm x).mp (S.sub u hu x hx)
        refine ⟨u, (mem2 u).mpr ⟨hu, (upIff u hun).mpr fun x hx y hy hR => ?_⟩, fun x hx => h x ((sm x).mpr hx)⟩
        exact (h y ((sm y).mpr hy)).mpr (hU x y (hun x hx) ((h x ((sm x).mpr (hun x hx))).mp hx) hy hR)
end
end OT
end

section
set_option Elab.async false
set_option linter.all false
set_option maxRecDepth 100000
set_option maxHeartbeats 4000000
namespace OT
open PySem PySem.Spec PyProof.Rows L2 OTR
open C8 (Cal Mak Met pe_c pe_mk pe_mt pe_mt0)
section
variable {P : Program} {w : World} {K : PySem.W.Frag} {mg : Str → Option Value} {base : Heap} {a : Ads}
abbrev sBar : Stmt := top 54
abbrev nBar : List Str := ["_law_ups_here", "_law_low", "_law_high", "_law_whole", "_law_row"]
theorem scBar : FnScope nBar ["_law_ups_here", "_law_low", "_law_high"] (defScope sBar) := ⟨rfl, rfl, rfl, by decide +kernel, rfl, by decide +kernel, by decide +kernel⟩
def Bars (ns : List Str) (Wl Wh : Str → Int) (u : List Str) : Prop := (u.map Wh).sum * (ns.map Wl).sum < (u.map Wl).sum * (ns.map Wh).sum
def spBar : Sp := fun vs H Q _ => ∃ (lu dl dh : Addr) (ns : List Str) (ts : List (Addr × List Str)) (Wl Wh : Str → Int), vs = [.ref lu, .ref dl, .ref dh] ∧ H lu = some (.lst (ts.map fun b => V.ref b.1)) ∧ TupsAt H ts ∧ (∀ b ∈ ts, b.2.length ≤ 1000 ∧ ∀ x ∈ b.2, x ∈ ns) ∧ WtAt H dl ns Wl ∧ WtAt H dh ns Wh ∧ OkW ns Wl ∧ OkW ns Wh ∧
  (∀ H2 r, Same H H2 → (∃ u ∈ ts.map (fun b : Addr × List Str => b.2), Bars ns Wl Wh u) → Q (.ref r) H2) ∧ ∀ H2, Same H H2 → (∀ u ∈ ts.map (fun b : Addr × List Str => b.2), ¬ Bars ns Wl Wh u) → Q .non H2
theorem ok_Bar (T : Fx K mg a) (Ma : Cal P w K mg base 1 "_law_mass" spLMass []) (D : DF K mg "_law_barring" "_law_barring" "_law_barring" sBar ["_law_ups_here", "_law_low", "_law_high"]) : Cal P w K mg base 2 "_law_barring" spBar [] := by
  refine cal_of D scBar (fun vs H Q E h => ?_) (fun f cdv A outer s H vs Q E hr h => ?_)
  · obtain ⟨lu, dl, dh, ns, ts, Wl, Wh, rfl, _⟩ := h
    rfl
  · obtain ⟨lu, dl, dh, ns, ts, Wl, Wh, rfl, hu, tt, sub, hl, hh, okl, okh, q1, q2⟩ := h
    refine ⟨_, pss_cons (ps_set (i := 3) scBar.nd rfl (.inl rfl) (pe_lst (pa_cons (pe_callB (cr_sum rfl) (by rfl) T.nSum (by decide +kernel) (pa_cons (pe_listVals rfl (pv 1) (by rfl) T.nList) pa_nil)) (pa_cons (pe_callB (cr_sum rfl) (by rfl) T.nSum (by decide +kernel) (pa_cons (pe_listVals rfl (pv 2) (by rfl) T.nList) pa_nil)) pa_nil))))
      (pss_cons (ps_for PassesOwn.never rfl (pi_list (pv 0)) (pg_name (i := 4) scBar.nd rfl (.inl rfl))
        (pss_one (ps_if (pt_cmpR op_gt (pe_op op_mul (pe_c Ma hr (by decide) (by rfl) (pa_cons (pv 1) (pa_cons (pv 4) pa_nil))) (pe_ix ix_list (pv 3) pe_int (fun _ _ => rfl))) (pe_op op_mul (pe_c Ma hr (by decide) (by rfl) (pa_cons (pv 2) (pa_cons (pv 4) pa_nil))) (pe_ix ix_list (pv 3) pe_int (fun _ _ => rfl))) (nomark _)) (pss_one (ps_ret (pv 4))) pss_nil)))
      (pss_one (ps_ret pe_non))), ?_⟩
    have tot : ∀ W : Str → Int, (ns.map fun x => V.int (W x)) = (ns.map W).map V.int := fun W => by rw [List.map_map]; rfl
    refine ⟨.ref dl, rfl, dl, _, rfl, hl, fun l0 n0 => ?_⟩
    rw [SK_vals]
    have e0 : Same H (upd H l0 (.lst (ns.map fun x => V.int (Wl x)))) := same_new n0
    refine ⟨l0, ns.map Wl, rfl, .inl (.inl (by rw [upd_same, tot])), ?_⟩
    refine ⟨.ref dh, rfl, dh, _, rfl, e0 _ _ hh, fun l1 n1 => ?_⟩
    rw [SK_vals]
    have e1 := e0.trans (same_new (o := .lst (ns.map fun x => V.int (Wh x))) n1)
    refine ⟨l1, ns.map Wh, rfl, .inl (.inl (by rw [upd_same, tot])), (by show 2 ≤ sizeLine; decide), fun lw nlw => ?_⟩
    have e2 := e1.trans (same_new (o := .lst [.int (ns.map Wl).sum, .int (ns.map Wh).sum]) nlw)
    have hw : upd (upd (upd H l0 (.lst (ns.map fun x => V.int (Wl x)))) l1 (.lst (ns.map fun x => V.int (Wh x)))) lw (.lst [.int (ns.map Wl).sum, .int (ns.map Wh).sum]) lw = some (.lst [.int (ns.map Wl).sum, .int (ns.map Wh).sum]) := upd_same
    generalize upd (upd (upd H l0 (.lst (ns.map fun x => V.int (Wl x)))) l1 (.lst (ns.map fun x => V.int (Wh x)))) lw (.lst [.int (ns.map Wl).sum, .int (ns.map Wh).sum]) = H2 at e2 hw
    have p1 := okl.pos
    have p2 := okl.small
    have p3 := okh.pos
    have p4 := okh.small
    refine ⟨.ref lu, rfl, lu, rfl, ⟨_, .inl (.inl (e2 _ _ hu))⟩, ?_⟩
    refine for_it (walk_list (xs := ts.map fun b => V.ref b.1)) (fun i σ H' => ∃ v4, σ = [some (.ref lu), some (.ref dl), some (.ref dh), some (.ref lw), v4] ∧ Same H2 H' ∧ ∀ b ∈ ts.take i, ¬ Bars ns Wl Wh b.2) ⟨_, rfl, fun _ _ e => e, (by intro b hb; cases hb)⟩ ?_ ?_ ?_
    · rintro i σ H' _ ⟨v4, rfl, e, _⟩
      exact .inl (.inl (e _ _ (e2 _ _ hu)))
    · rintro i v σ _ H' hi ⟨v4, rfl, e, nb⟩ ⟨rfl, ev⟩
      obtain ⟨⟨b, us⟩, hb, rfl⟩ := get_map ev
      have hbm := List.mem_of_getElem? hb
      obtain ⟨u1, u2⟩ := sub _ hbm
      have et : ts.take (i + 1) = ts.take i ++ [(b, us)] := by rw [List.take_succ, hb]; rfl
      have e3 := e2.trans e
      refine ⟨.ref dl, rfl, .ref b, rfl, dl, b, ns, us, Wl, rfl, e3 _ _ hl, e3 _ _ (tt _ hbm), u1, u2, fun H4 e4 => ?_⟩
      have e34 := e3.trans e4
      refine ⟨.ref lw, rfl, lw, _, 1, .int (ns.map Wh).sum, rfl, rfl, .inl (.inl (e4 _ _ (e _ _ hw))), rfl, _, _, rfl, rfl, .inr ⟨by omega, by omega⟩, .ref dh, rfl, .ref b, rfl, dh, b, ns, us, Wh, rfl, e34 _ _ hh, e34 _ _ (tt _ hbm), u1, u2, fun H5 e5 => ?_⟩
      refine ⟨.ref lw, rfl, lw, _, 0, .int (ns.map Wl).sum, rfl, rfl, .inl (.inl (e5 _ _ (e4 _ _ (e _ _ hw)))), rfl, _, _, rfl, rfl, .inr ⟨by omega, by omega⟩, _, _, rfl, rfl, _, rfl, ?_⟩
      by_cases c : Bars ns Wl Wh us
      · rw [decide_eq_true (show (us.map Wl).sum * (ns.map Wh).sum > (us.map Wh).sum * (ns.map Wl).sum from c)]
        refine iteT ?_
        exact ⟨.ref b, rfl, q1 _ b (e34.trans e5) ⟨us, List.mem_map.mpr ⟨_, hbm, rfl⟩, c⟩⟩
      · rw [decide_eq_false (show ¬ (us.map Wl).sum * (ns.map Wh).sum > (us.map Wh).sum * (ns.map Wl).sum from c)]
        refine iteF ?_
        refine ⟨_, rfl, (e.trans e4).trans e5, fun z hz => ?_⟩
        rw [et] at hz
        rcases List.mem_append.mp hz with h | h
        · exact nb z h
        · rw [List.mem_singleton] at h
          subst h
          exact c
    · rintro σ H' ⟨v4, rfl, e, nb⟩
      rw [List.length_map, List.take_length] at nb
      refine q2 _ (e2.trans e) fun u hu => ?_
      obtain ⟨b, hb, rfl⟩ := List.mem_map.mp hu
      exact nb b hb
/-! ### webs -/
theorem web_lc {H1 : Hp} {b D : Addr} {ns : List Str} {F : Str → List Str} {g : TG} {te : TE} {vs : List Nat} {σ : L2.St} {Qd : Hp → Prop} (nd : ns.Nodup) (n8 : ns.length ≤ 8) (hL : H1 b = some (.lst (ns.map V.str))) (nD : H1 D = none)
    (hs : ∀ (x : Str) (H : Hp) (N : Hp → Prop), Same H1 H → x ∈ ns → (∃ acc, H D = some (.lst acc) ∧ acc.length < sizeLine) → (∀ H5 t l acc, Same H H5 → H5 t = some (.tup [.str x, .ref l]) → H5 l = some (.lst ((F x).map V.str)) → l ≠ D → H5 D = some (.lst acc) → N (upd H5 D (.lst (acc ++ [.ref t])))) →
      g (.str x) (wipe σ vs) H fun σ2 H2 => wipe σ2 vs = wipe σ vs ∧ tYes σ2 H2 fun b H3 => if b = true then te σ2 H3 fun y H4 => ∃ acc, H4 D = some (.lst acc) ∧ acc.length < sizeLine ∧ N (upd H4 D (.lst (acc ++ [y]))) else N H3)
    (hd : ∀ (H : Hp) (td wd : Str → Addr), Same H1 H → H D = some (.lst (ns.map fun x => V.ref (td x))) → (∀ x ∈ ns, H (td x) = some (.tup [.str x, .ref (wd x)]) ∧ H (wd x) = some (.lst ((F x).map V.str))) → Qd H) :
    ∃ W : Nat → Nat → Hp → Prop, (∃ m, W 0 m (upd H1 D (.lst []))) ∧ ∀ i m H, W i m H →
      ((Itl K b).stop i H ∧ Qd H) ∨ ((Itl K b).go i H ∧ ∃ Nx : Hp → Prop, (∀ H', Nx H' → ∃ m', m' < m ∧ W (i + 1) m' H') ∧ ∀ x H', (Itl K b).yld i H x H' → g x (wipe σ vs) H' fun σ2 H2 => wipe σ2 vs = wipe σ vs ∧ tYes σ2 H2 fun b H3 =>
        if b = true then te σ2 H3 fun y H4 => ∃ acc, H4 D = some (.lst acc) ∧ acc.length < sizeLine ∧ Nx (upd H4 D (.lst (acc ++ [y]))) else Nx H3) := by
  refine lc_it (walk_list (xs := ns.map V.str)) (fun i H' => ∃ td wd : Str → Addr, Same H1 H' ∧ H' D = some (.lst ((ns.take i).map fun x => V.ref (td x))) ∧ ∀ x ∈ ns.take i, H' (td x) = some (.tup [.str x, .ref (wd x)]) ∧ H' (wd x) = some (.lst ((F x).map V.str)) ∧ wd x ≠ D) ⟨fun _ => 0, fun _ => 0, same_new nD, upd_same, (by intro x hx; cases hx)⟩ ?_ ?_ ?_
  · rintro i H' _ ⟨td, wd, e, _⟩
    exact .inl (.inl (e _ _ hL))
  · rintro i v _ H' hi ⟨td, wd, e, h1, h2⟩ ⟨rfl, ev⟩
    obtain ⟨z, hz, rfl⟩ := get_map ev
    have nz : z ∉ ns.take i := nodup_take nd hz
    have et : ns.take (i + 1) = ns.take i ++ [z] := by rw [List.take_succ, hz]; rfl
    refine hs z H' _ e (List.mem_of_getElem? hz) ⟨_, h1, by rw [List.length_map, List.length_take]; exact smallL (by omega)⟩ fun H5 t l acc e5 ht hl lD hD => ?_
    have hD' := e5 _ _ h1
    rw [hD] at hD'
    injection hD' with hD'
    injection hD' with hD'
    subst hD'
    have tt : ∀ {c : Addr} {zs : List V} {o : HO}, H5 c = some (.tup zs) → upd H5 D o c = some (.tup zs) := fun h => (upd_ne fun e => by rw [e, hD] at h; cases h).trans h
    refine ⟨fun y => if y = z then t else td y, fun y => if y = z then l else wd y, Same.mut (e.trans e5) nD, ?_, fun x hx => ?_⟩
    · rw [upd_same, et, List.map_append]
      refine congrArg (fun l => some (HO.lst l)) ?_
      congr 1
      · refine List.map_congr_left fun y hy => ?_
        have : y ≠ z := fun e => nz (e ▸ hy)
        exact congrArg V.ref (if_neg this).symm
      · show _ = [V.ref (if z = z then t else td z)]
        rw [if_pos rfl]
    · rw [et] at hx
      by_cases q : x = z
      · subst q
        simp only [if_true]
        exact ⟨tt ht, (upd_ne lD).trans hl, lD⟩
      · have hx := (List.mem_append.mp hx).elim id fun h => absurd (List.mem_singleton.mp h) q
        obtain ⟨k1, k2, k3⟩ := h2 x hx
        simp only [if_neg q]
        exact ⟨tt (e5 _ _ k1), (upd_ne k3).trans (e5 _ _ k2), k3⟩
  · rintro H' ⟨td, wd, e, h1, h2⟩
    rw [List.length_map, List.take_length] at h1 h2
    exact hd H' td wd e h1 fun x hx => ⟨(h2 x hx).1, (h2 x hx).2.1⟩
theorem paired_map {α β : Type} {F : α → β → Prop} {γ : Type} {f : γ → α} {g : γ → β} : ∀ {l : List γ}, (∀ x ∈ l, F (f x) (g x)) → Paired F (l.map f) (l.map g)
  | [], _ => .nil
  | x :: l, h => .cons (h x List.mem_cons_self) (paired_map fun y hy => h y (List.mem_cons_of_mem _ hy))
abbrev sWebs : Stmt := top 59
abbrev nWebs : List Str := ["_law_names_here", "_law_above_here", "_law_flat", "_law_turned", "_law_name", "_law_low"]
theorem scWebs : FnScope nWebs ["_law_names_here", "_law_above_here"] (defScope sWebs) := ⟨rfl, rfl, rfl, by decide +kernel, rfl, by decide +kernel, by decide +kernel⟩
def flatR (ns : List Str) : Str → Str → Bool := fun x y => decide (x = y ∧ x ∈ ns)
def turnR (R : Str → Str → Bool) : Str → Str → Bool := fun x y => R y x
def spWebs : Sp := fun vs H Q _ => ∃ (m d : Addr) (ns : List Str) (R : Str → Str → Bool), vs = [.ref m, .ref d] ∧ LstS H m ns ∧ WebAt H d ns R ∧ OkNs ns ∧ ∀ l d1 d2 H2, Same H H2 → H2 l = some (.lst [.ref d, .ref d1, .ref d2]) → WebAt H2 d1 ns (flatR ns) → WebAt H2 d2 ns (turnR R) → Q (.ref l) H2
theorem ok_Webs (T : Fx K mg a) (D : DF K mg "_law_webs" "_law_webs" "_law_webs" sWebs ["_law_names_here", "_law_above_here"]) : Cal P w K mg base 1 "_law_webs" spWebs [] := by
  refine cal_of D scWebs (fun vs H Q E h => ?_) (fun f cdv A outer s H vs Q E hr h => ?_)
  · obtain ⟨m, d, ns, R, rfl, _⟩ := h
    rfl
  · obtain ⟨m, d, ns, R, rfl, hm, ⟨wd, up, hd, hw⟩, ok, q⟩ := h
    have hu := hu_of hr
    refine ⟨_, pss_cons (ps_set (i := 2) scWebs.nd rfl (.inl rfl) (pe_callTy (call_dictP rfl) (by rfl) T.nDict (by decide +kernel) (pa_cons (pe_lc rfl scWebs.nd (pi_list (pv 0)) (own := [("_law_name", 4)]) (blkOk_by (by kernel_rfl)) (fun _ _ _ _ _ => pg_name (i := 4) scWebs.nd rfl (.inl rfl)) (fun _ _ _ _ _ => pts_nil)
        (fun _ _ _ _ _ => pe_tup (pa_cons (pv 4) (pa_cons (pe_lst (pa_cons (pv 4) pa_nil)) pa_nil)))) pa_nil)))
      (pss_cons (ps_set (i := 3) scWebs.nd rfl (.inl rfl) (pe_callTy (call_dictP rfl) (by rfl) T.nDict (by decide +kernel) (pa_cons (pe_lc rfl scWebs.nd (pi_list (pv 0)) (own := [("_law_name", 4)]) (blkOk_by (by kernel_rfl)) (fun _ _ _ _ _ => pg_name (i := 4) scWebs.nd rfl (.inr rfl)) (fun _ _ _ _ _ => pts_nil)
        (fun _ _ _ _ _ => pe_tup (pa_cons (pv 4) (pa_cons (pe_lc rfl scWebs.nd (wi := iList K (tVar 0)) (pi_list (pv 0)) (own := [("_law_low", 5)]) (blkOk_by (by kernel_rfl)) (fun _ _ _ _ _ => pg_name (i := 5) scWebs.nd rfl (.inl rfl))
          (tt := tTest (tOp (rIn K false) (tVar 4) (tDGet (tVar 1) (tVar 5)))) (fun _ _ _ _ _ => pts_one (pt_cmpR (r := rIn K false) op_in_seq (pv 4) (pe_dget hu (pv 1) (pv 5) (fun _ _ => rfl)) (by rfl))) (fun _ _ _ _ _ => pv 5)) pa_nil)))) pa_nil)))
      (pss_one (ps_ret (pe_lst (pa_cons (pv 1) (pa_cons (pv 2) (pa_cons (pv 3) pa_nil))))))), ?_⟩
    have n8 := ok.le
    refine ⟨.ref m, rfl, m, rfl, ⟨_, .inl (.inl hm)⟩, fun D nD => ?_⟩
    refine web_lc (F := fun x => [x]) ok.nd n8 hm nD (fun x Hx N ex mx ⟨acc, hacc, hal⟩ k => ?_) (fun H2 td wd1 e2 hD hx2 => ?_)
    · refine ⟨rfl, lcY ?_⟩
      refine ⟨.str x, rfl, .str x, rfl, (by show 1 ≤ sizeLine; decide), fun l nl => ⟨(by show 2 ≤ sizeLine; decide), fun t nt => ?_⟩⟩
      have s1 : Same Hx (upd Hx l (.lst [.str x])) := same_new nl
      have s2 := same_new (o := .tup [.str x, .ref l]) nt
      have s12 := s1.trans s2
      have lD : l ≠ D := fun e => by rw [e, hacc] at nl; cases nl
      exact ⟨acc, s12 _ _ hacc, hal, k _ t l acc s12 upd_same (s2 _ _ upd_same) lD (s12 _ _ hacc)⟩
    refine ⟨D, ns.map td, SK ns fun x => .ref (wd1 x), rfl, .inl (.inl (by rw [hD, List.map_map]; rfl)), paired_map fun x hx => .inl (.inl (hx2 x hx).1), fun d1 nd1 => ?_⟩
    rw [SK_merge _ _ ok.nd]
    have e3 := e2.trans (same_new (o := .dK (SK ns fun x => .ref (wd1 x))) nd1)
    have W1 : WebAt (upd H2 d1 (.dK (SK ns fun x => .ref (wd1 x)))) d1 ns (flatR ns) := ⟨wd1, fun x => [x], upd_same, fun x hx => ⟨same_new nd1 _ _ (hx2 x hx).2, by simp, fun y => by
      unfold flatR
      rw [List.mem_singleton, decide_eq_true_eq]
      constructor
      · rintro rfl
        exact ⟨hx, rfl, hx⟩
      · exact fun h => h.2.1.symm⟩⟩
    generalize upd H2 d1 (.dK (SK ns fun x => .ref (wd1 x))) = H3 at e3 W1
    refine ⟨.ref m, rfl, m, rfl, ⟨_, .inl (.inl (e3 _ _ hm))⟩, fun D' nD' => ?_⟩
    refine web_lc (F := fun x => ns.filter fun y => decide (x ∈ up y)) ok.nd n8 (e3 _ _ hm) nD' (fun x Hx N ex mx ⟨acc, hacc, hal⟩ k => ?_) (fun H4 td wd2 e4 hD hx2 => ?_)
    · have ex3 := e3.trans ex
      refine ⟨rfl, lcY ?_⟩
      refine ⟨.str x, rfl, .ref m, rfl, m, rfl, ⟨_, .inl (.inl (ex3 _ _ hm))⟩, fun l nl => ?_⟩
      have lD : l ≠ D' := fun e => by rw [e, hacc] at nl; cases nl
      have sD : ∀ acc, Same Hx (upd Hx l (.lst acc)) := fun acc => same_new nl
      refine lc_pure ns walk_strs (fun y => decide (x ∈ up y)) V.str (by omega) (fun acc => .inl (.inl (sD acc _ _ (ex3 _ _ hm)))) (fun j z v acc2 Hy Nx2 hk2 ⟨eH, ev⟩ hal2 q1 q2 => ?_) ?_
      · subst eH
        obtain ⟨z', hz', rfl⟩ := get_map ev
        rw [hk2] at hz'
        injection hz' with hz'
        subst hz'
        have zn := List.mem_of_getElem? hk2
        refine ⟨rfl, .str x, rfl, .ref d, rfl, .str z, rfl, d, .ref (wd z), rfl, .inl ⟨_, .inr z, .inl (sD acc2 _ _ (ex3 _ _ hd)), rfl, (SK_in (f := fun x => .ref (wd x)) zn).symm⟩, wd z, _, rfl, .inl (.inl (.inl (sD acc2 _ _ (ex3 _ _ (hw z zn).1)))), rfl, flat_strs _, _, rfl, ?_⟩
        rw [inV_str]
        by_cases c : x ∈ up z
        · rw [decide_eq_true c]
          refine iteT ?_
          refine ⟨.str z, rfl, acc2, upd_same, hal2, ?_⟩
          rw [upd_upd]
          exact q1 (decide_eq_true c)
        · rw [decide_eq_false c]
          refine iteF ?_
          exact q2 (decide_eq_false c)
      · refine ⟨(by show 2 ≤ sizeLine; decide), fun t nt => ?_⟩
        have s1 := sD ((ns.filter fun y => decide (x ∈ up y)).map V.str)
        have s2 := same_new (o := .tup [.str x, .ref l]) nt
        have s12 := s1.trans s2
        exact ⟨acc, s12 _ _ hacc, hal, k _ t l acc s12 upd_same (s2 _ _ upd_same) lD (s12 _ _ hacc)⟩
    refine ⟨D', ns.map td, SK ns fun x => .ref (wd2 x), rfl, .inl (.inl (by rw [hD, List.map_map]; rfl)), paired_map fun x hx => .inl (.inl (hx2 x hx).1), fun d2 nd2 => ?_⟩
    rw [SK_merge _ _ ok.nd]
    have s5 := same_new (o := .dK (SK ns fun x => .ref (wd2 x))) nd2
    have e5 := (e3.trans e4).trans s5
    have W2 : WebAt (upd H4 d2 (.dK (SK ns fun x => .ref (wd2 x)))) d2 ns (turnR R) := ⟨wd2, fun x => ns.filter fun y => decide (x ∈ up y), upd_same, fun x hx => ⟨same_new nd2 _ _ (hx2 x hx).2, ok.nd.filter _, fun y => by
      rw [List.mem_filter, decide_eq_true_eq]
      constructor
      · rintro ⟨h1, h2⟩
        exact ⟨h1, (((hw y h1).2.2 x).mp h2).2⟩
      · rintro ⟨h1, h2⟩
        exact ⟨h1, ((hw y h1).2.2 x).mpr ⟨hx, h2⟩⟩⟩⟩
    have W1' := (W1.same e4).same s5
    generalize upd H4 d2 (.dK (SK ns fun x => .ref (wd2 x))) = H5 at e5 W2 W1'
    refine ⟨.ref d, rfl, .ref d1, rfl, .ref d2, rfl, (by show 3 ≤ sizeLine; decide), fun lz nlz => ?_⟩
    exact q lz d1 d2 _ (e5.trans (same_new nlz)) upd_same (W1'.same (same_new nlz)) (W2.same (same_new nlz))
end
end OT
end

section
set_option Elab.async false
set_option linter.all false
set_option maxRecDepth 100000
set_option maxHeartbeats 4000000
namespace OT
open PySem PySem.Spec PyProof.Rows L2 OTR
open C8 (Cal Mak Met pe_c pe_mk pe_mt pe_mt0)
theorem p_take {α β : Type} {F : α → β → Prop} : ∀ {l : List α} {m : List β} (n : Nat), Paired F l m → Paired F (l.take n) (m.take n)
  | _, _, 0, _ => by rw [List.take_zero, List.take_zero]; exact .nil
  | _, _, _ + 1, .nil => .nil
  | _, _, n + 1, .cons h t => .cons h (p_take n t)
theorem p_drop {α β : Type} {F : α → β → Prop} : ∀ {l : List α} {m : List β} (n : Nat), Paired F l m → Paired F (l.drop n) (m.drop n)
  | _, _, 0, h => h
  | _, _, _ + 1, .nil => .nil
  | _, _, n + 1, .cons _ t => p_drop n t
theorem p_app {α β : Type} {F : α → β → Prop} : ∀ {l l2 : List α} {m m2 : List β}, Paired F l m → Paired F l2 m2 → Paired F (l ++ l2) (m ++ m2)
  | _, _, _, _, .nil, h => h
  | _, _, _, _, .cons h t, h2 => .cons h (p_app t h2)
theorem p_rev {α β : Type} {F : α → β → Prop} : ∀ {l : List α} {m : List β}, Paired F l m → Paired F l.reverse m.reverse
  | _, _, .nil => .nil
  | _, _, .cons h t => by
    rw [List.reverse_cons, List.reverse_cons]
    exact p_app (p_rev t) (.cons h .nil)
def RowB (D : Nat) (q : Rat) : Prop := ∃ z : Int, q * (D : Rat) = (z : Rat) ∧ -(2 ^ 50) ≤ z ∧ z ≤ 2 ^ 50
theorem ten_cast (D : Nat) : ((10 * D : Nat) : Rat) = 10 * (D : Rat) := by
  have : ((10 * D : Nat) : Rat) = ((10 : Nat) : Rat) * (D : Rat) := by exact_mod_cast rfl
  rw [this]
  rfl
theorem rowB_same {D : Nat} {q : Rat} (h : RowB D q) : RowOk (10 * D) q := by
  obtain ⟨z, h1, h2, h3⟩ := h
  refine ⟨10 * z, ?_, by omega, by omega⟩
  rw [ten_cast, Rat.intCast_mul, ← h1]
  show q * (10 * (D : Rat)) = (10 : Rat) * (q * (D : Rat))
  grind
theorem rowB_half {D : Nat} {q : Rat} (h : RowB D q) : RowOk (10 * D) (q * Rat.divInt 1 2) := by
  obtain ⟨z, h1, h2, h3⟩ := h
  refine ⟨5 * z, ?_, by omega, by omega⟩
  rw [ten_cast, Rat.intCast_mul, ← h1, Rat.divInt_eq_div]
  show q * ((1 : Rat) / (2 : Rat)) * (10 * (D : Rat)) = (5 : Rat) * (q * (D : Rat))
  grind
theorem rowB_plus {D : Nat} (hD : D ≤ 1000) {q : Rat} (h : RowB D q) : RowOk (10 * D) (q + Rat.divInt 1 5) := by
  obtain ⟨z, h1, h2, h3⟩ := h
  refine ⟨10 * z + 2 * (D : Int), ?_, by omega, by omega⟩
  rw [ten_cast, Rat.intCast_add, Rat.intCast_mul, Rat.intCast_mul, ← h1, Rat.divInt_eq_div]
  show (q + (1 : Rat) / (5 : Rat)) * (10 * (D : Rat)) = (10 : Rat) * (q * (D : Rat)) + (2 : Rat) * (D : Rat)
  grind
theorem row_minus {D : Nat} (hD : D ≤ 1000) : RowOk (10 * D) (Rat.divInt (-1) 5) := by
  refine ⟨-(2 * (D : Int)), ?_, by omega, by omega⟩
  rw [ten_cast, Rat.intCast_neg, Rat.intCast_mul, Rat.divInt_eq_div]
  show ((-1 : Rat) / (5 : Rat)) * (10 * (D : Rat)) = -((2 : Rat) * (D : Rat))
  grind
theorem row_zero {D : Nat} : RowOk (10 * D) (Rat.divInt 0 1) := ⟨0, by rw [Rat.zero_divInt, Rat.zero_mul]; rfl, by decide, by decide⟩
section
variable {P : Program} {w : World} {K : PySem.W.Frag} {mg : Str → Option Value} {base : Heap} {a : Ads}
theorem VRow.keep {H H2 : Hp} {p : Addr} {v : V} {r : Row} (h : VRow a H v r) (hp : PoolAt H p) (kp : Keep (· = p) H H2) : VRow a H2 v r := by
  obtain ⟨t, b, e, h1, ⟨dx, h2⟩⟩ := h
  refine ⟨t, b, e, kp _ _ h1 fun e => hp.nt _ (e ▸ h1), ⟨dx, kp _ _ h2 fun e => ?_⟩⟩
  obtain ⟨c, k, bb, h⟩ := hp
  rw [e, h] at h2
  cases h2
theorem IsR.keepP {H H2 : Hp} {p b : Addr} {q : Rat} (h : IsR a H b q) (hp : PoolAt H p) (kp : Keep (· = p) H H2) : IsR a H2 b q := by
  obtain ⟨dx, h2⟩ := h
  refine ⟨dx, kp _ _ h2 fun e => ?_⟩
  obtain ⟨c, k, bb, h⟩ := hp
  rw [e, h] at h2
  cases h2
theorem PoolAt.nrow {H : Hp} {p l : Addr} {ts : List V} {rows : List Row} (hp : PoolAt H p) (hl : H l = some (.lst ts)) (pr : Paired (VRow a H) ts rows) : l ≠ p := fun e => by
  obtain ⟨c, k, b, h⟩ := hp
  rw [e, h] at hl
  injection hl with hl
  injection hl with hl
  subst hl
  cases pr with
  | cons h _ =>
    obtain ⟨_, _, h, _⟩ := h
    cases h
abbrev sChg : Stmt := top 58
abbrev nChg : List Str := ["_law_pool_here", "_law_names_here", "_law_rows", "_law_at", "_law_first", "_law_second", "_law_share", "_law_which", "_law_half"]
theorem scChg : FnScope nChg ["_law_pool_here", "_law_names_here", "_law_rows"] (defScope sChg) := ⟨rfl, rfl, rfl, by decide +kernel, rfl, by decide +kernel, by decide +kernel⟩
def spChg (a : Ads) : Sp := fun vs H Q _ => ∃ (p m l : Addr) (ns : List Str) (rows : List Row) (D : Nat), vs = [.ref p, .ref m, .ref l] ∧ PoolAt H p ∧ LstS H m ns ∧ ns.length ≤ 8 ∧ RowsL a H l rows ∧ rows ≠ [] ∧ rows.length ≤ 100 ∧ 0 < D ∧ D ≤ 1000 ∧ (∀ r ∈ rows, RowB D r.2.2) ∧
  ∀ l2 rows2 H2, Keep (· = p) H H2 → RowsL a H2 l2 rows2 → RowsOk rows2 (10 * D) → Q (.ref l2) H2
theorem ok_Chg (T : Fx K mg a) (Tk : Cal P w K mg base 1 "_law_take" spTake []) (M : Mak P w K mg base 2 "Ratio" a.R (spRI a) []) (Ad : Met P w K mg base 4 a.R "__add__" (spR2 a okD fun q r => q + r) []) (Mu : Met P w K mg base 4 a.R "__mul__" (spR2 a okM fun q r => q * r) [])
    (D : DF K mg "_law_changed" "_law_changed" "_law_changed" sChg ["_law_pool_here", "_law_names_here", "_law_rows"]) : Cal P w K mg base 5 "_law_changed" (spChg a) [] := by
  refine cal_of D scChg (fun vs H Q E h => ?_) (fun f cdv A outer s H vs Q E hr h => ?_)
  · obtain ⟨p, m, l, ns, rows, D, rfl, _⟩ := h
    rfl
  · obtain ⟨p, m, l, ns, rows, D, rfl, hp, hm, n8, ⟨ts, hl, pr⟩, ne, len, D0, D1, rb, q⟩ := h
    have hu := hu_of hr
    refine ⟨_, pss_cons (ps_set (i := 3) scChg.nd rfl (.inl rfl) (pe_c Tk hr (by decide) (by rfl) (pa_cons (pv 0) (pa_cons (pe_callB call_len (by rfl) T.nLen (by decide +kernel) (pa_cons (pv 2) pa_nil)) pa_nil))))
      (pss_cons (ps_asg (pe_ix ix_list (pv 2) (pv 3) (fun _ _ => rfl)) (pg_tup rfl (pgs_cons (pg_name (i := 4) scChg.nd rfl (.inl rfl)) (pgs_cons (pg_name (i := 5) scChg.nd rfl (.inl rfl)) (pgs_cons (pg_name (i := 6) scChg.nd rfl (.inl rfl)) pgs_nil)))))
      (pss_cons (ps_set (i := 7) scChg.nd rfl (.inl rfl) (pe_c Tk hr (by decide) (by rfl) (pa_cons (pv 0) (pa_cons pe_int pa_nil))))
      (pss_cons (ps_if (pt_cmpR op_eq (pv 7) pe_int (nomark _)) (pss_one (ps_ret (pe_op op_cat (pe_slice sl_list (pv 2) po_none (po_some (pv 3))) (pe_slice sl_list (pv 2) (po_some (pe_op op_add (pv 3) pe_int)) po_none)))) pss_nil)
      (pss_cons (ps_if (pt_cmpR op_eq (pv 7) pe_int (nomark _)) (pss_one (ps_ret (pe_op op_cat (pe_op op_cat (pe_slice sl_list (pv 2) po_none (po_some (pv 3))) (pe_lst (pa_cons (pe_ix ix_list (pv 2) (pv 3) (fun _ _ => rfl)) pa_nil))) (pe_slice sl_list (pv 2) (po_some (pv 3)) po_none)))) pss_nil)
      (pss_cons (ps_if (pt_cmpR op_eq (pv 7) pe_int (nomark _)) (pss_cons (ps_set (i := 8) scChg.nd rfl (.inl rfl) (pe_op (mul_of Mu hr T.sf) (pv 6) (pe_mk M hr (by decide) (by rfl) (pa_cons pe_int (pa_cons pe_int pa_nil))))) (pss_one (ps_ret (pe_op op_cat (pe_op op_cat (pe_slice sl_list (pv 2) po_none (po_some (pv 3))) (pe_lst (pa_cons (pe_tup (pa_cons (pv 4) (pa_cons (pv 5) (pa_cons (pv 8) pa_nil)))) (pa_cons (pe_tup (pa_cons (pv 4) (pa_cons (pv 5) (pa_cons (pv 8) pa_nil)))) pa_nil)))) (pe_slice sl_list (pv 2) (po_some (pe_op op_add (pv 3) pe_int)) po_none))))) pss_nil)
      (pss_cons (ps_if (pt_cmpR op_eq (pv 7) pe_int (nomark _)) (pss_one (ps_ret (pe_op op_cat (pe_op op_cat (pe_slice sl_list (pv 2) po_none (po_some (pv 3))) (pe_lst (pa_cons (pe_tup (pa_cons (pv 4) (pa_cons (pe_ix ix_list (pe_op op_cat (pv 1) (pe_lst (pa_cons pe_str pa_nil))) (pe_c Tk hr (by decide) (by rfl) (pa_cons (pv 0) (pa_cons (pe_op op_add (pe_callB call_len (by rfl) T.nLen (by decide +kernel) (pa_cons (pv 1) pa_nil)) pe_int) pa_nil))) (fun _ _ => rfl)) (pa_cons (pv 6) pa_nil)))) pa_nil))) (pe_slice sl_list (pv 2) (po_some (pe_op op_add (pv 3) pe_int)) po_none)))) pss_nil)
      (pss_cons (ps_if (pt_cmpR op_eq (pv 7) pe_int (nomark _)) (pss_one (ps_ret (pe_op op_cat (pe_op op_cat (pe_slice sl_list (pv 2) po_none (po_some (pv 3))) (pe_lst (pa_cons (pe_tup (pa_cons (pv 4) (pa_cons (pv 5) (pa_cons (pe_op (add_of Ad hr T.sf) (pv 6) (pe_mk M hr (by decide) (by rfl) (pa_cons pe_int (pa_cons pe_int pa_nil)))) pa_nil)))) (pa_cons (pe_tup (pa_cons (pv 4) (pa_cons (pv 5) (pa_cons (pe_mk M hr (by decide) (by rfl) (pa_cons (pe_un un_neg pe_int) (pa_cons pe_int pa_nil))) pa_nil)))) pa_nil)))) (pe_slice sl_list (pv 2) (po_some (pe_op op_add (pv 3) pe_int)) po_none)))) pss_nil)
      (pss_cons (ps_if (pt_cmpR op_eq (pv 7) pe_int (nomark _)) (pss_one (ps_ret (pe_op op_cat (pv 2) (pe_lst (pa_cons (pe_tup (pa_cons (pv 4) (pa_cons (pv 5) (pa_cons (pe_mk M hr (by decide) (by rfl) (pa_cons pe_int (pa_cons pe_int pa_nil))) pa_nil)))) pa_nil))))) pss_nil)
      (pss_one (ps_ret (pe_revL (pv 2)))))))))))), ?_⟩
    have tl := pr.length
    have t0 : 0 < ts.length := by
      rw [tl]
      exact List.length_pos_iff.mpr ne
    have lp := hp.nrow hl pr
    have hmp := (hp.ne hm).symm
    refine ⟨.ref p, rfl, .ref l, rfl, .ref l, ts.length, rfl, .inl ⟨_, .inl (.inl hl), rfl⟩, p, ts.length, rfl, hp, (by omega), (by omega), fun i H1 i0 i1 kp1 hp1 => ?_⟩
    have hl1 := kp1 _ _ hl lp
    have pr1 := L2.Paired.mapP pr fun _ _ h => h.keep hp kp1
    have hm1 := kp1 _ _ hm hmp
    obtain ⟨k, rfl⟩ : ∃ k : Nat, i = k := ⟨i.toNat, by omega⟩
    have kl : k < ts.length := by omega
    obtain ⟨v, hv⟩ : ∃ v, ts[k]? = some v := ⟨ts[k], List.getElem?_eq_getElem kl⟩
    obtain ⟨⟨x, y, qq⟩, hr2, t, b, rfl, ht, hb⟩ := paired_get pr1 hv
    have hrm := List.mem_of_getElem? hr2
    refine ⟨.ref l, rfl, .int k, rfl, l, ts, k, .ref t, rfl, rfl, .inl (.inl hl1), atI_nat hv, t, _, rfl, .inl (.inl ht), rfl, _, _, rfl, _, _, rfl, _, _, rfl, rfl, ?_⟩
    refine ⟨.ref p, rfl, p, 7, rfl, hp1, (by decide), (by decide), fun w H2 w0 w1 kp2 hp2 => ?_⟩
    have hl2 := kp2 _ _ hl1 lp
    have pr2 := L2.Paired.mapP pr1 fun _ _ h => h.keep hp1 kp2
    have hm2 := kp2 _ _ hm1 hmp
    have kp12 := kp1.trans kp2
    have ht2 := kp2 _ _ ht (fun e => hp1.nt _ (e ▸ ht))
    have hb2 := hb.keepP hp1 kp2
    have fin : ∀ (H5 : Hp) (l2 : Addr) (ts2 : List V) (rows2 : List Row), Keep (· = p) H H5 → H5 l2 = some (.lst ts2) → Paired (VRow a H5) ts2 rows2 → rows2.length ≤ 1000 → (∀ r ∈ rows2, RowOk (10 * D) r.2.2) → Q (.ref l2) H5 := fun H5 l2 ts2 rows2 e5 h5 p5 len5 ok5 => by
      refine q l2 rows2 H5 e5 ⟨ts2, h5, p5⟩ ⟨len5, by omega, ?_, ok5⟩
      have : (10 * D) * (10 * D) ≤ 10000 * 10000 := Nat.mul_le_mul (by omega) (by omega)
      omega
    have okt : ∀ n, ∀ r ∈ rows.take n, RowOk (10 * D) r.2.2 := fun n r hr => rowB_same (rb r (List.mem_of_mem_take hr))
    have okd : ∀ n, ∀ r ∈ rows.drop n, RowOk (10 * D) r.2.2 := fun n r hr => rowB_same (rb r (List.mem_of_mem_drop hr))
    have okq := rb _ hrm
    have k1c : ((k : Int) + 1) = ((k + 1 : Nat) : Int) := rfl
    have ltk := List.length_take (i := k) (l := ts)
    have ldk := fun n => List.length_drop (i := n) (l := ts)
    have lrk := List.length_take (i := k) (l := rows)
    have lrd := fun n => List.length_drop (i := n) (l := rows)
    have sm : ∀ {n : Nat}, n ≤ 1000 → n ≤ sizeLine := fun h => small (by omega)
    -- 0
    refine ⟨.int w, rfl, rfl, _, rfl, ?_⟩
    by_cases c0 : w = 0
    · rw [decide_eq_true (congrArg V.int c0)]
      refine iteT ?_
      refine ⟨.ref l, rfl, .int k, rfl, k, rfl, l, ts, rfl, .inl (.inl hl2), fun p1 n1 => ?_⟩
      rw [cut_to]
      have s1 := same_new (o := .lst (ts.take k)) n1
      refine ⟨.ref l, rfl, .int k, rfl, k, 1, rfl, rfl, _, rfl, l, ts, rfl, .inl (.inl (s1 _ _ hl2)), fun p2 n2 => ?_⟩
      rw [k1c, cut_from]
      have s2 := same_new (o := .lst (ts.drop (k + 1))) n2
      refine ⟨p1, p2, _, _, rfl, rfl, s2 _ _ upd_same, upd_same, sm (by have := ldk (k + 1); omega), fun p3 n3 => ?_⟩
      have s3 := (s1.trans s2).trans (same_new (o := .lst (ts.take k ++ ts.drop (k + 1))) n3)
      refine fin _ p3 _ (rows.take k ++ rows.drop (k + 1)) (kp12.same s3) upd_same (L2.Paired.mapP (p_app (p_take k pr2) (p_drop (k + 1) pr2)) fun _ _ h => h.same s3) (by rw [List.length_append]; have := lrd (k + 1); omega) fun r hr => ?_
      rcases List.mem_append.mp hr with h | h
      · exact okt _ r h
      · exact okd _ r h
    rw [decide_eq_false (fun h => c0 (V.int.inj h))]
    refine iteF ?_
    -- 1
    refine ⟨.int w, rfl, rfl, _, rfl, ?_⟩
    by_cases c1 : w = 1
    · rw [decide_eq_true (congrArg V.int c1)]
      refine iteT ?_
      refine ⟨.ref l, rfl, .int k, rfl, k, rfl, l, ts, rfl, .inl (.inl hl2), fun p1 n1 => ?_⟩
      rw [cut_to]
      have s1 := same_new (o := .lst (ts.take k)) n1
      refine ⟨.ref l, rfl, .int k, rfl, l, ts, k, .ref t, rfl, rfl, .inl (.inl (s1 _ _ hl2)), atI_nat hv, (by show 1 ≤ sizeLine; decide), fun p2 n2 => ?_⟩
      have s2 := same_new (o := .lst [.ref t]) n2
      refine ⟨p1, p2, _, _, rfl, rfl, s2 _ _ upd_same, upd_same, sm (by simp; omega), fun p3 n3 => ?_⟩
      have s3 := (s1.trans s2).trans (same_new (o := .lst (ts.take k ++ [.ref t])) n3)
      have h3 : upd (upd (upd H2 p1 (.lst (ts.take k))) p2 (.lst [.ref t])) p3 (.lst (ts.take k ++ [.ref t])) p3 = some (.lst (ts.take k ++ [.ref t])) := upd_same
      generalize upd (upd (upd H2 p1 (.lst (ts.take k))) p2 (.lst [.ref t])) p3 (.lst (ts.take k ++ [.ref t])) = H3 at s3 h3
      refine ⟨.ref l, rfl, .int k, rfl, k, rfl, l, ts, rfl, .inl (.inl (s3 _ _ hl2)), fun p4 n4 => ?_⟩
      rw [cut_from]
      have s4 := same_new (o := .lst (ts.drop k)) n4
      refine ⟨p3, p4, _, _, rfl, rfl, s4 _ _ h3, upd_same, sm (by have := ldk k; simp; omega), fun p5 n5 => ?_⟩
      have s5 := (s3.trans s4).trans (same_new (o := .lst ((ts.take k ++ [.ref t]) ++ ts.drop k)) n5)
      refine fin _ p5 _ ((rows.take k ++ [(x, y, qq)]) ++ rows.drop k) (kp12.same s5) upd_same (L2.Paired.mapP (p_app (p_app (p_take k pr2) (.cons ⟨t, b, rfl, ht2, hb2⟩ .nil)) (p_drop k pr2)) fun _ _ h => h.same s5) (by have := lrd k; simp; omega) fun r hr => ?_
      rcases List.mem_append.mp hr with h | h
      · rcases List.mem_append.mp h with h | h
        · exact okt _ r h
        · rw [List.mem_singleton] at h
          subst h
          exact rowB_same okq
      · exact okd _ r h
    rw [decide_eq_false (fun h => c1 (V.int.inj h))]
    refine iteF ?_
    -- 2
    refine ⟨.int w, rfl, rfl, _, rfl, ?_⟩
    by_cases c2 : w = 2
    · rw [decide_eq_true (congrArg V.int c2)]
      refine iteT ?_
      refine ⟨.ref b, rfl, ?_⟩
      intro r1 dr1 nr1 ndr1 ner1
      refine ⟨r1, dr1, 1, 2, rfl, upd_same, by decide, by decide, fun H3 kpr at_ => ⟨rfl, ?_⟩⟩
      have s1 : Same H2 H3 := mk_same nr1 ndr1 kpr
      obtain ⟨db3, hb3⟩ := hb2.same s1
      have qd : (qq.den : Int) ≤ D := by
        obtain ⟨z, h1, _⟩ := okq
        have := Frac.den D0 (⟨z, h1⟩ : Frac D qq)
        omega
      have okm : okM qq (Rat.divInt 1 2) := by
        have e1 : ((Rat.divInt 1 2).den : Int) = 2 := by rw [← den_of 1 2 (by decide)]; decide
        have e2 : (Rat.divInt 1 2).num = 1 := by rw [← num_of 1 2 (by decide)]; decide
        refine ⟨?_, ?_, ?_⟩
        · rw [e1]; omega
        · rw [e2]; decide
        · rw [e2]; decide
      refine ⟨b, r1, db3, dr1, _, _, rfl, rfl, hb3, at_, b, r1, qq, _, rfl, ⟨db3, hb3⟩, ⟨dr1, at_⟩, okm, fun rh H4 n4 s2 hrh => ?_⟩
      have s12 := s1.trans s2
      refine ⟨.ref l, rfl, .int k, rfl, k, rfl, l, ts, rfl, .inl (.inl (s12 _ _ hl2)), fun p1 np1 => ?_⟩
      rw [cut_to]
      have s3 := same_new (o := .lst (ts.take k)) np1
      refine ⟨.str x, rfl, .str y, rfl, .ref rh, rfl, (by show 3 ≤ sizeLine; decide), fun ta nta => ⟨.str x, rfl, .str y, rfl, .ref rh, rfl, (by show 3 ≤ sizeLine; decide), fun tb ntb => ⟨(by show 2 ≤ sizeLine; decide), fun p2 np2 => ?_⟩⟩⟩
      have s4 := same_new (o := .tup [.str x, .str y, .ref rh]) nta
      have s5 := same_new (o := .tup [.str x, .str y, .ref rh]) ntb
      have s6 := same_new (o := .lst [.ref ta, .ref tb]) np2
      have sa := (s4.trans s5).trans s6
      refine ⟨p1, p2, _, _, rfl, rfl, sa _ _ upd_same, upd_same, sm (by simp; omega), fun p3 np3 => ?_⟩
      have s7 := same_new (o := .lst (ts.take k ++ [.ref ta, .ref tb])) np3
      have h7 := upd_same (H := upd (upd (upd (upd H4 p1 (.lst (ts.take k))) ta (.tup [.str x, .str y, .ref rh])) tb (.tup [.str x, .str y, .ref rh])) p2 (.lst [.ref ta, .ref tb])) (a := p3) (o := .lst (ts.take k ++ [.ref ta, .ref tb]))
      have sb := (s3.trans sa).trans s7
      have hta := s7 _ _ (s6 _ _ (s5 _ _ (upd_same (H := upd H4 p1 (.lst (ts.take k))) (a := ta) (o := .tup [.str x, .str y, .ref rh]))))
      have htb := s7 _ _ (s6 _ _ (upd_same (H := upd (upd H4 p1 (.lst (ts.take k))) ta (.tup [.str x, .str y, .ref rh])) (a := tb) (o := .tup [.str x, .str y, .ref rh])))
      generalize upd (upd (upd (upd (upd H4 p1 (.lst (ts.take k))) ta (.tup [.str x, .str y, .ref rh])) tb (.tup [.str x, .str y, .ref rh])) p2 (.lst [.ref ta, .ref tb])) p3 (.lst (ts.take k ++ [.ref ta, .ref tb])) = H7 at s7 h7 sb hta htb
      have sc := s12.trans sb
      refine ⟨.ref l, rfl, .int k, rfl, k, 1, rfl, rfl, _, rfl, l, ts, rfl, .inl (.inl (sc _ _ hl2)), fun p4 np4 => ?_⟩
      rw [k1c, cut_from]
      have s8 := same_new (o := .lst (ts.drop (k + 1))) np4
      refine ⟨p3, p4, _, _, rfl, rfl, s8 _ _ h7, upd_same, sm (by have := ldk (k + 1); simp; omega), fun p5 np5 => ?_⟩
      have s9 := s8.trans (same_new (o := .lst ((ts.take k ++ [.ref ta, .ref tb]) ++ ts.drop (k + 1))) np5)
      have sd := sc.trans s9
      have hrh9 := (hrh.same sb).same s9
      refine fin _ p5 _ ((rows.take k ++ [(x, y, qq * Rat.divInt 1 2), (x, y, qq * Rat.divInt 1 2)]) ++ rows.drop (k + 1)) (kp12.same sd) upd_same (p_app (p_app (L2.Paired.mapP (p_take k pr2) fun _ _ h => h.same sd) (.cons ⟨ta, rh, rfl, s9 _ _ hta, hrh9⟩ (.cons ⟨tb, rh, rfl, s9 _ _ htb, hrh9⟩ .nil))) (L2.Paired.mapP (p_drop (k + 1) pr2) fun _ _ h => h.same sd)) (by have := lrd (k + 1); simp; omega) fun r hr => ?_
      rcases List.mem_append.mp hr with h | h
      · rcases List.mem_append.mp h with h | h
        · exact okt _ r h
        · rcases List.mem_cons.mp h with rfl | h
          · exact rowB_half okq
          · rw [List.mem_singleton] at h
            subst h
            exact rowB_half okq
      · exact okd _ r h
    rw [decide_eq_false (fun h => c2 (V.int.inj h))]
    refine iteF ?_
    -- 3
    refine ⟨.int w, rfl, rfl, _, rfl, ?_⟩
    have np : ∀ {H' : Hp} {c : Addr}, Same H2 H' → H' c = none → c ≠ p := fun e h h2 => by
      obtain ⟨c1, c2, c3, g⟩ := hp2
      rw [h2, e _ _ g] at h
      cases h
    by_cases c3 : w = 3
    · rw [decide_eq_true (congrArg V.int c3)]
      refine iteT ?_
      refine ⟨.ref l, rfl, .int k, rfl, k, rfl, l, ts, rfl, .inl (.inl hl2), fun p1 np1 => ?_⟩
      rw [cut_to]
      have s1 := same_new (o := .lst (ts.take k)) np1
      have p1p := np (fun _ _ e => e) np1
      refine ⟨.str x, rfl, .ref m, rfl, (by show 1 ≤ sizeLine; decide), fun pz npz => ?_⟩
      have s2 := same_new (o := .lst [.str "zz"]) npz
      have s12 := s1.trans s2
      refine ⟨m, pz, ns.map V.str, [.str "zz"], rfl, rfl, s12 _ _ hm2, upd_same, sm (by simp; omega), fun pc npc => ?_⟩
      have s3 := same_new (o := .lst (ns.map V.str ++ [.str "zz"])) npc
      have pcp := np s12 npc
      have s13 := s12.trans s3
      have h1c := s3 _ _ (s2 _ _ (upd_same (H := H2) (a := p1) (o := .lst (ts.take k))))
      have hc := upd_same (H := upd (upd H2 p1 (.lst (ts.take k))) pz (.lst [.str "zz"])) (a := pc) (o := .lst (ns.map V.str ++ [.str "zz"]))
      generalize upd (upd (upd H2 p1 (.lst (ts.take k))) pz (.lst [.str "zz"])) pc (.lst (ns.map V.str ++ [.str "zz"])) = H3 at s13 h1c hc
      have hp3 := hp2.same s13
      refine ⟨.ref p, rfl, .ref m, rfl, .ref m, ns.length, rfl, .inl ⟨_, .inl (.inl (s13 _ _ hm2)), (List.length_map ..).symm⟩, ns.length, 1, rfl, rfl, p, _, rfl, hp3, (by omega), (by omega), fun u H4 u0 u1 kp4 hp4 => ?_⟩
      have hc4 := kp4 _ _ hc pcp
      have h14 := kp4 _ _ h1c p1p
      obtain ⟨y2, hy2⟩ : ∃ y2, (ns ++ [("zz" : Str)])[u.toNat]? = some y2 := ⟨(ns ++ [("zz" : Str)])[u.toNat]'(by simp; omega), List.getElem?_eq_getElem (by simp; omega)⟩
      refine ⟨pc, _, u, .str y2, rfl, rfl, .inl (.inl hc4), ?_, .ref b, rfl, (by show 3 ≤ sizeLine; decide), fun ta nta => ⟨(by show 1 ≤ sizeLine; decide), fun p2 np2 => ?_⟩⟩
      · have := atI_nat (xs := ns.map V.str ++ [.str "zz"]) (j := u.toNat) (v := .str y2) (by
          rw [show ns.map V.str ++ [V.str "zz"] = (ns ++ [("zz" : Str)]).map V.str by rw [List.map_append]; rfl, List.getElem?_map, hy2]
          rfl)
        rw [show ((u.toNat : Nat) : Int) = u by omega] at this
        exact this
      have s4 := same_new (o := .tup [.str x, .str y2, .ref b]) nta
      have s5 := same_new (o := .lst [.ref ta]) np2
      have s45 := s4.trans s5
      refine ⟨p1, p2, _, _, rfl, rfl, s45 _ _ h14, upd_same, sm (by simp; omega), fun p3 np3 => ?_⟩
      have s6 := same_new (o := .lst (ts.take k ++ [.ref ta])) np3
      have h6 := upd_same (H := upd (upd H4 ta (.tup [.str x, .str y2, .ref b])) p2 (.lst [.ref ta])) (a := p3) (o := .lst (ts.take k ++ [.ref ta]))
      have hta := s6 _ _ (s5 _ _ (upd_same (H := H4) (a := ta) (o := .tup [.str x, .str y2, .ref b])))
      have s46 := s45.trans s6
      generalize upd (upd (upd H4 ta (.tup [.str x, .str y2, .ref b])) p2 (.lst [.ref ta])) p3 (.lst (ts.take k ++ [.ref ta])) = H6 at s46 h6 hta
      have k2 : Keep (· = p) H2 H6 := ((Keep.of s13).trans kp4).same s46
      refine ⟨.ref l, rfl, .int k, rfl, k, 1, rfl, rfl, _, rfl, l, ts, rfl, .inl (.inl (k2 _ _ hl2 lp)), fun p4 np4 => ?_⟩
      rw [k1c, cut_from]
      have s8 := same_new (o := .lst (ts.drop (k + 1))) np4
      refine ⟨p3, p4, _, _, rfl, rfl, s8 _ _ h6, upd_same, sm (by have := ldk (k + 1); simp; omega), fun p5 np5 => ?_⟩
      have s9 := s8.trans (same_new (o := .lst ((ts.take k ++ [.ref ta]) ++ ts.drop (k + 1))) np5)
      have k3 := k2.same s9
      refine fin _ p5 _ ((rows.take k ++ [(x, y2, qq)]) ++ rows.drop (k + 1)) (kp12.trans k3) upd_same (p_app (p_app (L2.Paired.mapP (p_take k pr2) fun _ _ h => h.keep hp2 k3) (.cons ⟨ta, b, rfl, s9 _ _ hta, hb2.keepP hp2 k3⟩ .nil)) (L2.Paired.mapP (p_drop (k + 1) pr2) fun _ _ h => h.keep hp2 k3)) (by have := lrd (k + 1); simp; omega) fun r hr => ?_
      rcases List.mem_append.mp hr with h | h
      · rcases List.mem_append.mp h with h | h
        · exact okt _ r h
        · rw [List.mem_singleton] at h
          subst h
          exact rowB_same okq
      · exact okd _ r h
    rw [decide_eq_false (fun h => c3 (V.int.inj h))]
    refine iteF ?_
    -- 4
    refine ⟨.int w, rfl, rfl, _, rfl, ?_⟩
    have qd : (qq.den : Int) ≤ D := by
      obtain ⟨z, h1, _⟩ := okq
      have := Frac.den D0 (⟨z, h1⟩ : Frac D qq)
      omega
    by_cases c4 : w = 4
    · rw [decide_eq_true (congrArg V.int c4)]
      refine iteT ?_
      refine ⟨.ref l, rfl, .int k, rfl, k, rfl, l, ts, rfl, .inl (.inl hl2), fun p1 np1 => ?_⟩
      rw [cut_to]
      have s1 := same_new (o := .lst (ts.take k)) np1
      have h1 := upd_same (H := H2) (a := p1) (o := .lst (ts.take k))
      generalize upd H2 p1 (.lst (ts.take k)) = H3 at s1 h1
      refine ⟨.str x, rfl, .str y, rfl, .ref b, rfl, ?_⟩
      intro r1 dr1 nr1 ndr1 ner1
      refine ⟨r1, dr1, 1, 5, rfl, upd_same, by decide, by decide, fun H4 kpr at_ => ⟨rfl, ?_⟩⟩
      have s2 : Same H3 H4 := mk_same nr1 ndr1 kpr
      obtain ⟨db4, hb4⟩ := (hb2.same s1).same s2
      have okd5 : okD qq (Rat.divInt 1 5) := by
        have e1 : ((Rat.divInt 1 5).den : Int) = 5 := by rw [← den_of 1 5 (by decide)]; decide
        show (qq.den : Int) * ((Rat.divInt 1 5).den : Int) < 1073741824
        rw [e1]
        omega
      refine ⟨b, r1, db4, dr1, _, _, rfl, rfl, hb4, at_, b, r1, qq, _, rfl, ⟨db4, hb4⟩, ⟨dr1, at_⟩, okd5, fun rh H5 n5 s3 hrh => ⟨(by show 3 ≤ sizeLine; decide), fun ta nta => ⟨.str x, rfl, .str y, rfl, ?_⟩⟩⟩
      have s4 := same_new (o := .tup [.str x, .str y, .ref rh]) nta
      have hta := upd_same (H := H5) (a := ta) (o := .tup [.str x, .str y, .ref rh])
      have s14 := ((s1.trans s2).trans s3).trans s4
      have h14 := s4 _ _ (s3 _ _ (s2 _ _ h1))
      have hrh4 := hrh.same s4
      generalize upd H5 ta (.tup [.str x, .str y, .ref rh]) = H6 at s4 hta s14 h14 hrh4
      refine ⟨_, rfl, ?_⟩
      intro r2 dr2 nr2 ndr2 ner2
      refine ⟨r2, dr2, -1, 5, rfl, upd_same, by decide, by decide, fun H7 kpr2 at2 => ⟨rfl, ⟨(by show 3 ≤ sizeLine; decide), fun tb ntb => ⟨(by show 2 ≤ sizeLine; decide), fun p2 np2 => ?_⟩⟩⟩⟩
      have s5 : Same H6 H7 := mk_same nr2 ndr2 kpr2
      have s6 := same_new (o := .tup [.str x, .str y, .ref r2]) ntb
      have s7 := same_new (o := .lst [.ref ta, .ref tb]) np2
      have s67 := s6.trans s7
      have s57 := s5.trans s67
      refine ⟨p1, p2, _, _, rfl, rfl, s57 _ _ h14, upd_same, sm (by simp; omega), fun p3 np3 => ?_⟩
      have s8 := same_new (o := .lst (ts.take k ++ [.ref ta, .ref tb])) np3
      have h8 := upd_same (H := upd (upd H7 tb (.tup [.str x, .str y, .ref r2])) p2 (.lst [.ref ta, .ref tb])) (a := p3) (o := .lst (ts.take k ++ [.ref ta, .ref tb]))
      have htb := s8 _ _ (s7 _ _ (upd_same (H := H7) (a := tb) (o := .tup [.str x, .str y, .ref r2])))
      have s58 := s57.trans s8
      have hr28 : IsR a (upd (upd (upd H7 tb (.tup [.str x, .str y, .ref r2])) p2 (.lst [.ref ta, .ref tb])) p3 (.lst (ts.take k ++ [.ref ta, .ref tb]))) r2 (Rat.divInt (-1) 5) := ⟨dr2, s8 _ _ (s67 _ _ at2)⟩
      generalize upd (upd (upd H7 tb (.tup [.str x, .str y, .ref r2])) p2 (.lst [.ref ta, .ref tb])) p3 (.lst (ts.take k ++ [.ref ta, .ref tb])) = H8 at s58 h8 htb hr28
      have sc := s14.trans s58
      refine ⟨.ref l, rfl, .int k, rfl, k, 1, rfl, rfl, _, rfl, l, ts, rfl, .inl (.inl (sc _ _ hl2)), fun p4 np4 => ?_⟩
      rw [k1c, cut_from]
      have s9 := same_new (o := .lst (ts.drop (k + 1))) np4
      refine ⟨p3, p4, _, _, rfl, rfl, s9 _ _ h8, upd_same, sm (by have := ldk (k + 1); simp; omega), fun p5 np5 => ?_⟩
      have s10 := s9.trans (same_new (o := .lst ((ts.take k ++ [.ref ta, .ref tb]) ++ ts.drop (k + 1))) np5)
      have sd := sc.trans s10
      refine fin _ p5 _ ((rows.take k ++ [(x, y, qq + Rat.divInt 1 5), (x, y, Rat.divInt (-1) 5)]) ++ rows.drop (k + 1)) (kp12.same sd) upd_same (p_app (p_app (L2.Paired.mapP (p_take k pr2) fun _ _ h => h.same sd) (.cons ⟨ta, rh, rfl, s10 _ _ (s58 _ _ hta), (hrh4.same s58).same s10⟩ (.cons ⟨tb, r2, rfl, s10 _ _ htb, hr28.same s10⟩ .nil))) (L2.Paired.mapP (p_drop (k + 1) pr2) fun _ _ h => h.same sd)) (by have := lrd (k + 1); simp; omega) fun r hr => ?_
      rcases List.mem_append.mp hr with h | h
      · rcases List.mem_append.mp h with h | h
        · exact okt _ r h
        · rcases List.mem_cons.mp h with rfl | h
          · exact rowB_plus D1 okq
          · rw [List.mem_singleton] at h
            subst h
            exact row_minus D1
      · exact okd _ r h
    rw [decide_eq_false (fun h => c4 (V.int.inj h))]
    refine iteF ?_
    -- 5
    refine ⟨.int w, rfl, rfl, _, rfl, ?_⟩
    by_cases c5 : w = 5
    · rw [decide_eq_true (congrArg V.int c5)]
      refine iteT ?_
      refine ⟨.ref l, rfl, .str x, rfl, .str y, rfl, ?_⟩
      intro r1 dr1 nr1 ndr1 ner1
      refine ⟨r1, dr1, 0, 1, rfl, upd_same, by decide, by decide, fun H3 kpr at_ => ⟨rfl, ⟨(by show 3 ≤ sizeLine; decide), fun ta nta => ⟨(by show 1 ≤ sizeLine; decide), fun p2 np2 => ?_⟩⟩⟩⟩
      have s1 : Same H2 H3 := mk_same nr1 ndr1 kpr
      have s2 := same_new (o := .tup [.str x, .str y, .ref r1]) nta
      have s3 := same_new (o := .lst [.ref ta]) np2
      have s23 := s2.trans s3
      have s13 := s1.trans s23
      refine ⟨l, p2, _, _, rfl, rfl, s13 _ _ hl2, upd_same, sm (by simp; omega), fun p3 np3 => ?_⟩
      have s4 := same_new (o := .lst (ts ++ [.ref ta])) np3
      have hta := s4 _ _ (s3 _ _ (upd_same (H := H3) (a := ta) (o := .tup [.str x, .str y, .ref r1])))
      have s14 := s13.trans s4
      refine fin _ p3 _ (rows ++ [(x, y, Rat.divInt 0 1)]) (kp12.same s14) upd_same (p_app (L2.Paired.mapP pr2 fun _ _ h => h.same s14) (.cons ⟨ta, r1, rfl, hta, ⟨dr1, s4 _ _ (s23 _ _ at_)⟩⟩ .nil)) (by simp; omega) fun r hr => ?_
      rcases List.mem_append.mp hr with h | h
      · exact rowB_same (rb r h)
      · rw [List.mem_singleton] at h
        subst h
        exact row_zero
    rw [decide_eq_false (fun h => c5 (V.int.inj h))]
    refine iteF ?_
    -- 6
    refine ⟨.ref l, rfl, l, ts, rfl, .inl (.inl hl2), fun p1 np1 => ?_⟩
    have s1 := same_new (o := .lst ts.reverse) np1
    refine fin _ p1 _ rows.reverse (kp12.same s1) upd_same (p_rev (L2.Paired.mapP pr2 fun _ _ h => h.same s1)) (by simp; omega) fun r hr => ?_
    exact rowB_same (rb r (List.mem_reverse.mp hr))
end
end OT
end

section
set_option Elab.async false
set_option linter.all false
set_option maxRecDepth 100000
set_option maxHeartbeats 4000000
namespace OT
open PySem PySem.Spec PyProof.Rows L2 OTR
open C8 (Cal Mak Met pe_c pe_mk pe_mt pe_mt0)
theorem dp_pairs {K : PySem.W.Frag} {H : Hp} : ∀ {xs : List V} {ps : List (Str × Str)}, Paired (VP H) xs ps → DpAll K H xs (ps.map encP)
  | _, _, .nil => .nil
  | _, _, .cons ⟨r, e, h⟩ t => by
    subst e
    exact .cons (.tup (.inl (.inl h)) (.cons (.str _) (.cons (.str _) .nil))) (dp_pairs t)
theorem shaped_pairs {ps : List (Str × Str)} (h : ∀ p ∈ ps, p.1 ∈ menuN ∧ p.2 ∈ menuN) : SeqAt.shaped (.list (ps.map encP)) = true := by
  have h1 : ∀ l : List (Str × Str), (∀ p ∈ l, p.1 ∈ menuN ∧ p.2 ∈ menuN) → PyData.canLayAll0 (l.map encP) = true := by
    intro l
    induction l with
    | nil => intro _; simp [PyData.canLayAll0]
    | cons p l ih =>
      intro h
      have h2 := h p List.mem_cons_self
      rw [List.map_cons, PyData.canLayAll0, ih fun q hq => h q (List.mem_cons_of_mem _ hq)]
      simp [encP, PyData.canLay0, PyData.canLayAll0]
      have := menu_strOk _ h2.1
      have h3 := menu_strOk _ h2.2
      simp only [PyData.canLay0] at this h3
      exact ⟨this, h3⟩
  have h2 : ∀ l : List (Str × Str), PyData.depthAll (l.map encP) ≤ 2 := by
    intro l
    induction l with
    | nil => simp [PyData.depthAll]
    | cons p l ih =>
      simp only [List.map_cons, PyData.depthAll]
      simp [encP, PyData.depth, PyData.depthAll]
      omega
  simp only [SeqAt.shaped, PyData.canLay0, h1 ps h, PyData.depth]
  have := h2 ps
  simp
  omega
section
variable {P : Program} {w : World} {K : PySem.W.Frag} {mg : Str → Option Value} {base : Heap} {a : Ads}
abbrev sTR : Stmt := top 60
abbrev nTR : List Str := ["_law_above_here", "_law_low", "_law_high", "_law_told", "_law_due", "_law_pairs_here", "_law_first", "_law_second", "_law_share"]
theorem scTR : FnScope nTR ["_law_above_here", "_law_low", "_law_high", "_law_told"] (defScope sTR) := ⟨rfl, rfl, rfl, by decide +kernel, rfl, by decide +kernel, by decide +kernel⟩
/-- told is right of the pairs -/
structure RightT (ns : List Str) (R : Str → Str → Bool) (Wl Wh : Str → Int) (rows : List Row) (M : Nat) : Prop where
  ro : RowsOk rows M
  pw : (rows.map fun r => (r.1, r.2.1)).Pairwise fun p q => leP p q = true
  nd : (rows.map fun r => (r.1, r.2.1)).Nodup
  len : rows.length < 64
  menu : ∀ r ∈ rows, r.1 ∈ menuN ∧ r.2.1 ∈ menuN
  tab : tableB ns R (shr ns Wl) (shr ns Wh) rows = true
  free : ∀ u : List Str, u.Nodup → (∀ x ∈ u, x ∈ ns) → (∀ x ∈ u, ∀ y ∈ ns, R x y = true → y ∈ u) → ¬ Bars ns Wl Wh u
def spTR (a : Ads) : Sp := fun vs H Q _ => ∃ (da dl dh : Addr) (v : V) (ns : List Str) (R : Str → Str → Bool) (Wl Wh : Str → Int), vs = [.ref da, .ref dl, .ref dh, v] ∧ WebAt H da ns R ∧ OkNs ns ∧ WtAt H dl ns Wl ∧ WtAt H dh ns Wh ∧ OkW ns Wl ∧ OkW ns Wh ∧
  ((∃ l rows M, v = .ref l ∧ RowsL a H l rows ∧ RightT ns R Wl Wh rows M) ∨
   (v = .non ∧ ∃ U : Str → Prop, (∀ x y, x ∈ ns → U x → y ∈ ns → R x y = true → U y) ∧ ∀ u : List Str, u.Nodup → (∀ x ∈ u, x ∈ ns) → (∀ x ∈ ns, x ∈ u ↔ U x) → Bars ns Wl Wh u)) ∧ ∀ H2, Same H H2 → Q (.bl true) H2
theorem ok_TR (T : Fx K mg a) (Up : Cal P w K mg base 1 "_law_ups" spUps []) (Ba : Cal P w K mg base 2 "_law_barring" spBar []) (It : Cal P w K mg base 3 "_law_is_table" (spLIT a) [])
    (D : DF K mg "_law_told_right" "_law_told_right" "_law_told_right" sTR ["_law_above_here", "_law_low", "_law_high", "_law_told"]) : Cal P w K mg base 4 "_law_told_right" (spTR a) [] := by
  refine cal_of D scTR (fun vs H Q E h => ?_) (fun f cdv A outer s H vs Q E hr h => ?_)
  · obtain ⟨da, dl, dh, v, ns, R, Wl, Wh, rfl, _⟩ := h
    rfl
  · obtain ⟨da, dl, dh, v, ns, R, Wl, Wh, rfl, hw, ok, hl, hh, okl, okh, hv, q⟩ := h
    have hu := hu_of hr
    refine ⟨_, pss_cons (ps_set (i := 4) scTR.nd rfl (.inl rfl) (pe_c Ba hr (by decide) (by rfl) (pa_cons (pe_c Up hr (by decide) (by rfl) (pa_cons (pe_callB cr_sortedS (by rfl) T.nSorted (by decide +kernel) (pa_cons (pe_callTy (call_listD rfl) (by rfl) T.nList (by decide +kernel) (pa_cons (pv 0) pa_nil)) pa_nil)) (pa_cons (pv 0) pa_nil))) (pa_cons (pv 1) (pa_cons (pv 2) pa_nil)))))
      (pss_cons (ps_if (pt_cmpR op_ne (pe_cmpR op_isN (pv 3) pe_non (nomark _)) (pe_cmpR op_notN (pv 4) pe_non (nomark _)) (nomark _)) pss_never pss_nil)
      (pss_cons (ps_if (pt_cmpR op_isN (pv 3) pe_non (nomark _)) (pss_one (ps_ret pe_bl)) pss_nil)
      (pss_cons (ps_setLc (i := 5) rfl scTR.nd rfl rfl (sw_true rfl rfl rfl (by decide +kernel)) (pi_list (pv 3)) (own := [("_law_first", 6), ("_law_second", 7), ("_law_share", 8)]) (g := gTup K 3 (gCons (gName 6) (gCons (gName 7) (gCons (gName 8) gNil)))) (blkOk_by (by kernel_rfl))
          (fun _ _ _ _ _ => pg_tup rfl (pgs_cons (pg_name (i := 6) scTR.nd rfl (.inl rfl)) (pgs_cons (pg_name (i := 7) scTR.nd rfl (.inl rfl)) (pgs_cons (pg_name (i := 8) scTR.nd rfl (.inl rfl)) pgs_nil)))) (fun _ _ _ _ _ => pts_nil) (fun _ _ _ _ _ => pe_tup (pa_cons (pv 6) (pa_cons (pv 7) pa_nil))))
      (pss_one (ps_ret (pe_and (pe_cmpR (op_eqD hr.units) (pv 5) (pe_callB (show CallR _ _ (rSortSetP K w) from cr_sortSetP rfl hr.units) (by rfl) T.nSorted (by decide +kernel) (pa_cons (pe_callTy (show CallR _ _ (rSetP K w) from cr_setP rfl hr.units) (by rfl) T.nSet (by decide +kernel) (pa_cons (pv 5) pa_nil)) pa_nil)) (nomark _))
        (pe_one (pe_c It hr (by decide) (by rfl) (pa_cons (pv 0) (pa_cons (pv 1) (pa_cons (pv 2) (pa_cons (pv 3) pa_nil)))))))))))), ?_⟩
    have n8 := ok.le
    obtain ⟨wd, up, w1, w2⟩ := id hw
    refine ⟨.ref da, rfl, da, _, rfl, .inl w1, fun l1 n1 => ?_⟩
    rw [SK_keys]
    refine ⟨l1, ns, rfl, .inl (.inl upd_same), (by omega), fun sn l2 pm _ n2 => ?_⟩
    have e0 := (same_new (o := .lst (ns.map V.str)) n1).trans (same_new (o := .lst (sn.map V.str)) n2)
    have hl2 : LstS (upd (upd H l1 (.lst (ns.map V.str))) l2 (.lst (sn.map V.str))) l2 sn := upd_same
    generalize upd (upd H l1 (.lst (ns.map V.str))) l2 (.lst (sn.map V.str)) = H1 at e0 hl2
    refine ⟨.ref da, rfl, l2, da, ns, sn, R, rfl, hl2, pm, hw.same e0, ok, fun lu ts H2 e2 hlu tt upok => ?_⟩
    have e02 := e0.trans e2
    have sub : ∀ b ∈ ts, b.2.length ≤ 1000 ∧ ∀ x ∈ b.2, x ∈ ns := fun b hb => by
      have hm : b.2 ∈ ts.map (·.2) := List.mem_map.mpr ⟨b, hb, rfl⟩
      have h1 := upok.sub b.2 hm
      have := nodup_le (upok.nd b.2 hm) h1
      exact ⟨by omega, h1⟩
    refine ⟨.ref dl, rfl, .ref dh, rfl, lu, dl, dh, ns, ts, Wl, Wh, rfl, hlu, tt, sub, e02 _ _ hl, e02 _ _ hh, okl, okh, fun H3 r e3 hbar => ?_, fun H3 e3 nbar => ?_⟩
    · have e03 := e02.trans e3
      rcases hv with ⟨l, rows, M, rfl, hr, rt⟩ | ⟨rfl, _⟩
      · obtain ⟨u, hu', hb⟩ := hbar
        exact absurd hb (rt.free u (upok.nd u hu') (upok.sub u hu') (upok.up u hu'))
      · refine ⟨.non, rfl, rfl, _, rfl, rfl, rfl, _, rfl, ?_⟩
        refine iteF ?_
        refine ⟨.non, rfl, rfl, _, rfl, iteT ?_⟩
        exact q _ e03
    · have e03 := e02.trans e3
      rcases hv with ⟨l, rows, M, rfl, ⟨tz, hlt, pr⟩, rt⟩ | ⟨rfl, U, hU, hbar⟩
      · refine ⟨.ref l, rfl, rfl, .non, rfl, rfl, rfl, _, rfl, ?_⟩
        refine iteF ?_
        refine ⟨.ref l, rfl, rfl, _, rfl, iteF ?_⟩
        have hlt3 := e03 _ _ hlt
        have pr3 := L2.Paired.mapP pr fun _ _ h => h.same e03
        refine ⟨.ref l, rfl, l, rfl, ⟨_, .inl (.inl hlt3)⟩, fun D nD => ?_⟩
        have tl := pr.length
        have wk : Walk (Itl K l) rows.length (fun H => SqL K H l tz) (YAt tz) := by
          rw [← tl]
          exact walk_list
        have r64 := rt.len
        refine lc_pairs rows wk (fun _ => true) (fun r => (r.1, r.2.1)) (by omega) nD (fun H e => .inl (.inl (e _ _ hlt3))) (fun i r v Ha Hb Nx hi ea ⟨eH, ev⟩ _ ⟨acc, hacc, hal⟩ k1 _ => ?_) (fun H5 e5 hP => ?_)
        · subst eH
          obtain ⟨r', hr', t, b, rfl, ht, hb⟩ := paired_get pr3 ev
          rw [hi] at hr'
          injection hr' with hr'
          subst hr'
          refine ⟨t, _, rfl, .inl (.inl (ea _ _ ht)), rfl, _, _, rfl, _, _, rfl, _, _, rfl, rfl, rfl, lcY ?_⟩
          refine ⟨.str r.1, rfl, .str r.2.1, rfl, (by show 2 ≤ sizeLine; decide), fun u nu => ?_⟩
          have s1 := same_new (o := .tup [.str r.1, .str r.2.1]) nu
          exact ⟨acc, s1 _ _ hacc, hal, k1 rfl _ u acc s1 upd_same (s1 _ _ hacc)⟩
        · rw [List.filter_eq_self.mpr (fun _ _ => rfl)] at hP
          obtain ⟨xs, hx, px⟩ := hP
          have eps : ∃ ps : List (Str × Str), ps = rows.map fun r => (r.1, r.2.1) := ⟨_, rfl⟩
          obtain ⟨ps, hps⟩ := eps
          rw [← hps] at px
          have pw := rt.pw
          have pnd := rt.nd
          rw [← hps] at pw pnd
          have pm64 : ps.length < 64 := by rw [hps, List.length_map]; exact r64
          have pmenu : ∀ p ∈ ps, p.1 ∈ menuN ∧ p.2 ∈ menuN := fun p hp => by
            rw [hps] at hp
            obtain ⟨r, hr, rfl⟩ := List.mem_map.mp hp
            exact rt.menu r hr
          have keys : ∃ ks : List (Addr × (Str × Str)), xs = (ks.map fun p => V.ref p.1) ∧ ks.map (·.2) = ps ∧ ∀ p ∈ ks, H5 p.1 = some (.tup [.str p.2.1, .str p.2.2]) := by
            clear pw pnd pm64 pmenu hps hx
            induction px with
            | nil => exact ⟨[], rfl, rfl, by intro p hp; cases hp⟩
            | @cons v p xs ps h _ ih =>
              obtain ⟨ks, k1, k2, k3⟩ := ih
              obtain ⟨r, rfl, hr⟩ := h
              refine ⟨(r, p) :: ks, by rw [k1]; rfl, by rw [← k2]; rfl, fun z hz => ?_⟩
              rcases List.mem_cons.mp hz with rfl | hz
              · exact hr
              · exact k3 z hz
          obtain ⟨ks, k1, k2, k3⟩ := keys
          refine ⟨.ref D, rfl, .ref D, rfl, D, ks, rfl, .inl (.inl (by rw [hx, k1])), fun p hp => .inl (.inl (k3 p hp)), by rw [k2]; exact pnd, by rw [← List.length_map (f := (·.2)) (as := ks), k2]; exact pm64, fun sa L pL nsa => ?_⟩
          have s6 : Same H5 (upd H5 sa (SetPO w sa L)) := same_new nsa
          refine ⟨sa, L, rfl, upd_same, fun p hp => .inl (.inl (s6 _ _ (k3 p (pL.mem_iff.mp hp)))), by rw [pL.length_eq, ← List.length_map (f := (·.2)) (as := ks), k2]; exact pm64, fun L1 pL1 so nso => ?_⟩
          have hmap : (L1.mergeSort (PySem.W.dataLe false fun b => prP b.2)).map (·.2) = ps := by
            rw [show (fun b : Addr × (Str × Str) => prP b.2) = fun b => encP b.2 from rfl, sortP_snd L1]
            refine sortP_eq ?_ pw
            rw [← k2]
            exact ((pL1.trans pL).map _).symm
          have hpm := List.mergeSort_perm L1 (PySem.W.dataLe false fun b => prP b.2)
          generalize L1.mergeSort (PySem.W.dataLe false fun b => prP b.2) = Lz at hmap hpm
          have s7 := s6.trans (same_new (o := .lst (Lz.map fun b => V.ref b.1)) nso)
          have hso := upd_same (H := upd H5 sa (SetPO w sa L)) (a := so) (o := .lst (Lz.map fun b => V.ref b.1))
          generalize upd (upd H5 sa (SetPO w sa L)) so (.lst (Lz.map fun b => V.ref b.1)) = H7 at s7 hso
          have px7 : Paired (VP H7) (Lz.map fun b => V.ref b.1) ps := by
            rw [← hmap]
            exact paired_map fun b hb => ⟨b.1, rfl, s7 _ _ (k3 b (pL.mem_iff.mp (pL1.mem_iff.mp (hpm.mem_iff.mp hb))))⟩
          have e07 := (e03.trans e5).trans s7
          refine ⟨.list (ps.map encP), .list (ps.map encP), .lst (.inl (.inl (s7 _ _ hx))) (dp_pairs (L2.Paired.mapP px fun _ _ h => h.same s7)), .lst (.inl (.inl hso)) (dp_pairs px7), shaped_pairs pmenu, shaped_pairs pmenu, _, rfl, ?_⟩
          have cl : (PyData.list (ps.map encP)).canLay0 = true := by
            have := shaped_pairs pmenu
            simp only [SeqAt.shaped, Bool.and_eq_true] at this
            exact this.1
          rw [SeqAt.eqv_refl _ cl]
          refine iteT ?_
          refine ⟨.ref da, rfl, .ref dl, rfl, .ref dh, rfl, .ref l, rfl, da, dl, dh, l, ns, R, Wl, Wh, rows, M, rfl, hw.same e07, e07 _ _ hl, e07 _ _ hh, okl, okh, ⟨tz, .inl (e07 _ _ hlt), L2.Paired.mapP pr fun _ _ h => h.same e07⟩, rt.ro, fun H8 e8 => ?_⟩
          rw [rt.tab]
          exact q _ (e07.trans e8)
      · obtain ⟨u, hu', h⟩ := upok.all U hU
        exact absurd (hbar u (upok.nd u hu') (upok.sub u hu') h) (nbar u hu')
end
end OT
end

section
set_option Elab.async false
set_option linter.all false
set_option maxRecDepth 100000
set_option maxHeartbeats 4000000
namespace OT
open PySem PySem.Spec PyProof.Rows L2 OTR
/-- two rows that hold all that counts -/
theorem sum_two {α : Type} [DecidableEq α] {l m : List α} {g : α → Int} (hl : l.Nodup) (hm : m.Nodup) (h1 : ∀ x, g x ≠ 0 → x ∈ l) (h2 : ∀ x, g x ≠ 0 → x ∈ m) : sumL l g = sumL m g := by
  have e : ∀ l : List α, sumL l g = sumL (l.filter fun x => decide (g x ≠ 0)) g := fun l => by
    rw [sumL_filter]
    refine sumL_congr fun x _ => ?_
    by_cases c : g x ≠ 0
    · rw [if_pos (decide_eq_true c)]
    · rw [if_neg (by rw [decide_eq_false c]; decide)]
      exact Decidable.not_not.mp c
  rw [e l, e m]
  refine sumL_perm ?_ g
  refine (List.perm_ext_iff_of_nodup (hl.filter _) (hm.filter _)).mpr fun x => ?_
  rw [List.mem_filter, List.mem_filter, decide_eq_true_eq]
  exact ⟨fun h => ⟨h2 x h.2, h.2⟩, fun h => ⟨h1 x h.2, h.2⟩⟩
theorem nodup_inj {α β : Type} {f : α → β} (hf : ∀ a b, f a = f b → a = b) {l : List α} (h : l.Nodup) : (l.map f).Nodup := by
  unfold List.Nodup
  rw [List.pairwise_map]
  exact h.imp fun h e => h (hf _ _ e)
theorem sumL_map {α β : Type} (f : α → β) (g : β → Int) : ∀ l : List α, sumL (l.map f) g = sumL l fun x => g (f x)
  | [] => rfl
  | x :: l => by rw [List.map_cons, sumL_cons, sumL_cons, sumL_map f g l]
theorem sumL_sum (f : Str → Int) : ∀ l : List Str, sumL l f = (l.map f).sum
  | [] => rfl
  | x :: l => by rw [sumL_cons, List.map_cons, List.sum_cons, sumL_sum f l]
theorem sumR_rows (D : Nat) (g : Str → Str → Int) (c : Str × Str → Bool) : ∀ l : List (Str × Str), sumR (((rowsOf D g l).filter fun r => c (r.1, r.2.1)).map (·.2.2)) = fr D (sumL l fun p => if c p = true then g p.1 p.2 else 0)
  | [] => by rw [sumL_nil, fr_zero]; rfl
  | p :: l => by
    have ih := sumR_rows D g c l
    rw [sumL_cons]
    by_cases h : g p.1 p.2 ≠ 0
    · have e : rowsOf D g (p :: l) = (p.1, p.2, fr D (g p.1 p.2)) :: rowsOf D g l := by
        unfold rowsOf
        rw [List.filter_cons, if_pos (decide_eq_true h)]
        rfl
      rw [e, List.filter_cons]
      by_cases hc : c p = true
      · rw [if_pos hc, if_pos (show c (p.1, p.2) = true from hc), List.map_cons, ← fr_add, ← ih]
        rfl
      · rw [if_neg hc, if_neg (show ¬ c (p.1, p.2) = true from hc), Int.zero_add, ih]
    · have e : rowsOf D g (p :: l) = rowsOf D g l := by
        unfold rowsOf
        rw [List.filter_cons, if_neg (by rw [decide_eq_false h]; decide)]
      have h0 : g p.1 p.2 = 0 := Decidable.not_not.mp h
      rw [e, ih, h0]
      simp
/-- shares over one bottom -/
def loW (ns : List Str) (W : Str → Int) (o : Int) : Str → Int := fun x => if x ∈ ns then W x * o else 0
theorem shr_fr {ns : List Str} {W : Str → Int} {o : Int} {D : Nat} (h : (D : Int) = (ns.map W).sum * o) (h1 : 0 < (ns.map W).sum) (h2 : 0 < o) : shr ns W = fun x => fr D (loW ns W o x) := by
  funext x
  unfold shr loW
  by_cases c : x ∈ ns
  · rw [if_pos c, if_pos c, Rat.divInt_eq_div]
    unfold fr
    have e : ((D : Nat) : Rat) = (((ns.map W).sum : Int) : Rat) * ((o : Int) : Rat) := by
      rw [← Rat.intCast_mul, ← h]
      rfl
    rw [e, Rat.intCast_mul]
    have a1 : (((ns.map W).sum : Int) : Rat) ≠ 0 := by
      intro q
      have : (ns.map W).sum = 0 := by exact_mod_cast q
      omega
    have a2 : ((o : Int) : Rat) ≠ 0 := by
      intro q
      have : o = 0 := by exact_mod_cast q
      omega
    grind
  · rw [if_neg c, if_neg c, fr_zero]
structure Wts (ns : List Str) (R : Str → Str → Bool) (Wl Wh : Str → Int) (kl kh : List Str) (D : Nat) : Prop where
  ok : OkNs ns
  n6 : ns.length ≤ 6
  po : PO ns R
  okl : OkW ns Wl
  okh : OkW ns Wh
  mkl : ∀ x, x ∈ kl ↔ x ∈ ns ∧ 0 < Wl x
  mkh : ∀ x, x ∈ kh ↔ x ∈ ns ∧ 0 < Wh x
  ndl : kl.Nodup
  ndh : kh.Nodup
  d : (D : Int) = (ns.map Wl).sum * (ns.map Wh).sum
  d1 : D ≤ 1000
abbrev Wts.lo (ns : List Str) (Wl Wh : Str → Int) : Str → Int := loW ns Wl (ns.map Wh).sum
abbrev Wts.hi (ns : List Str) (Wl Wh : Str → Int) : Str → Int := loW ns Wh (ns.map Wl).sum
section
variable {ns : List Str} {R : Str → Str → Bool} {Wl Wh : Str → Int} {kl kh : List Str} {D : Nat}
theorem Wts.d0 (w : Wts ns R Wl Wh kl kh D) : 0 < D := by
  have := Int.mul_pos w.okl.pos w.okh.pos
  have := w.d
  omega
theorem mass_u {u : List Str} {U : Str → Prop} {f : Str → Int} (hn : ns.Nodup) (hu : u.Nodup) (hs : ∀ x ∈ u, x ∈ ns) (h : ∀ x ∈ ns, x ∈ u ↔ U x) : massOf ns U f = sumL u f := by
  classical
  unfold massOf
  have e : sumL ns (fun x => if U x then f x else 0) = sumL ns (fun x => if x ∈ u then f x else 0) := sumL_congr fun x hx => by
    by_cases c : U x
    · rw [if_pos c, if_pos ((h x hx).mpr c)]
    · rw [if_neg c, if_neg (fun q => c ((h x hx).mp q))]
  refine Eq.trans ?_ (e.trans ?_)
  · exact sumL_congr fun x _ => by congr
  · refine (sum_two hn hu (fun x hx => ?_) (fun x hx => ?_)).trans (sumL_congr fun x hx => if_pos hx)
    · by_cases c : x ∈ u
      · exact hs x c
      · rw [if_neg c] at hx
        exact absurd rfl hx
    · by_cases c : x ∈ u
      · exact c
      · rw [if_neg c] at hx
        exact absurd rfl hx
theorem sum_lo {W : Str → Int} {o : Int} {u : List Str} (hs : ∀ x ∈ u, x ∈ ns) : sumL u (loW ns W o) = (u.map W).sum * o := by
  rw [← sumL_sum]
  have : sumL u (loW ns W o) = sumL u fun x => W x * o := sumL_congr fun x hx => if_pos (hs x hx)
  rw [this]
  clear this hs
  induction u with
  | nil => rw [sumL_nil, sumL_nil, Int.zero_mul]
  | cons x u ih => rw [sumL_cons, sumL_cons, ih, Int.add_mul]
theorem Wts.lo0 (w : Wts ns R Wl Wh kl kh D) : ∀ x ∈ ns, x ∉ kl → Wts.lo ns Wl Wh x = 0 := fun x hx hn => by
  have h1 : ¬ 0 < Wl x := fun h => hn ((w.mkl x).mpr ⟨hx, h⟩)
  have h2 := w.okl.nn x hx
  have h3 : Wl x = 0 := by omega
  show (if x ∈ ns then Wl x * _ else 0) = 0
  rw [if_pos hx, h3, Int.zero_mul]
theorem Wts.hi0 (w : Wts ns R Wl Wh kl kh D) : ∀ x ∈ ns, x ∉ kh → Wts.hi ns Wl Wh x = 0 := fun x hx hn => by
  have h1 : ¬ 0 < Wh x := fun h => hn ((w.mkh x).mpr ⟨hx, h⟩)
  have h2 := w.okh.nn x hx
  have h3 : Wh x = 0 := by omega
  show (if x ∈ ns then Wh x * _ else 0) = 0
  rw [if_pos hx, h3, Int.zero_mul]
theorem Wts.loeq (w : Wts ns R Wl Wh kl kh D) : shr ns Wl = fun x => fr D (Wts.lo ns Wl Wh x) := shr_fr w.d w.okl.pos w.okh.pos
theorem Wts.hieq (w : Wts ns R Wl Wh kl kh D) : shr ns Wh = fun x => fr D (Wts.hi ns Wl Wh x) := shr_fr (by rw [w.d, Int.mul_comm]) w.okh.pos w.okl.pos
theorem Wts.klns (w : Wts ns R Wl Wh kl kh D) : ∀ x ∈ kl, x ∈ ns := fun x hx => ((w.mkl x).mp hx).1
theorem Wts.khns (w : Wts ns R Wl Wh kl kh D) : ∀ x ∈ kh, x ∈ ns := fun x hx => ((w.mkh x).mp hx).1
/-- what no table means -/
theorem Wts.cut (w : Wts ns R Wl Wh kl kh D) {s : FS Str} {S T : Str → Prop} (o : FOk kl kh (Wts.lo ns Wl Wh) (Wts.hi ns Wl Wh) (RP R) s) (h0 : sumL kl s.left ≠ 0) (c : Cut kl kh (RP R) s S T) :
    ∃ U : Str → Prop, (∀ x y, x ∈ ns → U x → y ∈ ns → R x y = true → U y) ∧ ∀ u : List Str, u.Nodup → (∀ x ∈ u, x ∈ ns) → (∀ x ∈ ns, x ∈ u ↔ U x) → Bars ns Wl Wh u := by
  obtain ⟨U, h1, h2⟩ := cut_bars o c w.ok.nd w.ndl w.ndh w.klns w.khns w.lo0 w.hi0 h0 (fun x hx => w.po.refl x hx) (fun x y z a b => w.po.trans x y z a b)
  refine ⟨U, fun x y _ hx hy hR => h1 x y hx hy hR, fun u nd hs hm => ?_⟩
  rw [mass_u w.ok.nd nd hs hm, mass_u w.ok.nd nd hs hm, sum_lo hs, sum_lo hs] at h2
  exact h2
theorem amt_le {s : FS Str} (w : Wts ns R Wl Wh kl kh D) (o : FOk kl kh (Wts.lo ns Wl Wh) (Wts.hi ns Wl Wh) (RP R) s) (x y : Str) : s.amt x y ≤ 1000000 := by
  by_cases c : s.amt x y = 0
  · rw [c]; decide
  · obtain ⟨hx, hy, _⟩ := o.supp x y c
    have h1 := o.row x hx
    have h2 := o.lnn x hx
    have h3 : s.amt x y ≤ sumL kh (s.amt x) := by
      have : ∀ l : List Str, y ∈ l → s.amt x y ≤ sumL l (s.amt x) := by
        intro l
        induction l with
        | nil => intro h; cases h
        | cons z l ih =>
          intro h
          rw [sumL_cons]
          have h4 := sumL_nn (l := l) (f := s.amt x) fun z _ => o.ann x z
          rcases List.mem_cons.mp h with rfl | h
          · omega
          · have := ih h
            have := o.ann x z
            omega
      exact this kh hy
    have h5 : Wts.lo ns Wl Wh x ≤ 1000 * 1000 := by
      have hxn := w.klns x hx
      show (if x ∈ ns then Wl x * (ns.map Wh).sum else 0) ≤ _
      rw [if_pos hxn]
      have h6 : Wl x ≤ 1000 := by
        have : sumL [x] Wl ≤ sumL ns Wl := by
          have e := sum_two (g := fun z => if z = x then Wl z else 0) (l := [x]) (m := ns) (by simp) w.ok.nd (fun z hz => by
            by_cases c : z = x
            · rw [c]; exact List.mem_cons_self
            · rw [if_neg c] at hz; exact absurd rfl hz) (fun z hz => by
            by_cases c : z = x
            · rw [c]; exact hxn
            · rw [if_neg c] at hz; exact absurd rfl hz)
          have e2 : sumL [x] Wl = sumL [x] (fun z => if z = x then Wl z else 0) := sumL_congr fun z hz => by
            rw [List.mem_singleton] at hz
            rw [if_pos hz]
          rw [e2, e]
          exact sumL_le fun z hz => by
            have := w.okl.nn z hz
            split <;> omega
        rw [sumL_cons, sumL_nil, sumL_sum] at this
        have := w.okl.small
        omega
      have h7 := w.okh.small
      have h8 := w.okh.pos
      have h9 := w.okl.nn x hxn
      exact Int.mul_le_mul h6 h7 (by omega) (by omega)
    omega
/-- a table is right -/
theorem Wts.right (w : Wts ns R Wl Wh kl kh D) {rows : List Row} {s : FS Str} {sk : List (Str × Str)} (t : Told kl kh (Wts.lo ns Wl Wh) (Wts.hi ns Wl Wh) R D rows s sk) : RightT ns R Wl Wh rows D ∧ (∀ r ∈ rows, RowB D r.2.2) ∧ rows ≠ [] := by
  have d0 := w.d0
  have o := t.ok
  have hrow : ∀ r ∈ rows, s.amt r.1 r.2.1 ≠ 0 ∧ r.2.2 = fr D (s.amt r.1 r.2.1) := fun r hr => by
    rw [t.rows] at hr
    obtain ⟨p, hp, rfl⟩ := List.mem_map.mp hr
    exact ⟨of_decide_eq_true (List.mem_filter.mp hp).2, rfl⟩
  have hpairs : (rows.map fun r => (r.1, r.2.1)) = sk.filter fun p => decide (s.amt p.1 p.2 ≠ 0) := by
    rw [t.rows]
    unfold rowsOf
    rw [List.map_map]
    exact List.map_id _
  have frM : ∀ z : Int, fr D z * (D : Rat) = (z : Rat) := fun z => by
    unfold fr
    have : (D : Rat) ≠ 0 := by
      intro q
      have : D = 0 := by exact_mod_cast q
      omega
    grind
  have hB : ∀ r ∈ rows, ∃ z : Int, r.2.2 * (D : Rat) = (z : Rat) ∧ 0 ≤ z ∧ z ≤ 1000000 := fun r hr => ⟨s.amt r.1 r.2.1, by rw [(hrow r hr).2, frM], o.ann _ _, amt_le w o _ _⟩
  have left0 : ∀ x ∈ kl, s.left x = 0 := sumL_all0 o.lnn t.full
  have lsum : sumL kl (Wts.lo ns Wl Wh) = sumL kh (Wts.hi ns Wl Wh) := by
    have e1 : sumL kl (Wts.lo ns Wl Wh) = (ns.map Wl).sum * (ns.map Wh).sum := by
      rw [← sum_lo (fun x hx => hx)]
      refine sum_two w.ndl w.ok.nd (fun x hx => ?_) (fun x hx => ?_)
      · refine Decidable.byContradiction fun hn => hx ?_
        by_cases c : x ∈ ns
        · exact w.lo0 x c hn
        · exact if_neg c
      · refine Decidable.byContradiction fun hn => hx (if_neg hn)
    have e2 : sumL kh (Wts.hi ns Wl Wh) = (ns.map Wh).sum * (ns.map Wl).sum := by
      rw [← sum_lo (fun x hx => hx)]
      refine sum_two w.ndh w.ok.nd (fun x hx => ?_) (fun x hx => ?_)
      · refine Decidable.byContradiction fun hn => hx ?_
        by_cases c : x ∈ ns
        · exact w.hi0 x c hn
        · exact if_neg c
      · refine Decidable.byContradiction fun hn => hx (if_neg hn)
    rw [e1, e2, Int.mul_comm]
  have room0 : ∀ y ∈ kh, s.room y = 0 := by
    refine sumL_all0 o.rnn ?_
    have e1 : sumL kl s.left + sumL kl (fun x => sumL kh (s.amt x)) = sumL kl (Wts.lo ns Wl Wh) := by
      rw [← sumL_add]
      exact sumL_congr o.row
    have e2 : sumL kh s.room + sumL kh (fun y => sumL kl fun x => s.amt x y) = sumL kh (Wts.hi ns Wl Wh) := by
      rw [← sumL_add]
      exact sumL_congr o.col
    have e3 : sumL kl (fun x => sumL kh (s.amt x)) = sumL kh (fun y => sumL kl fun x => s.amt x y) := sumL_comm _ _ _
    have := t.full
    omega
  have colf : ∀ n ∈ ns, colF rows n = shr ns Wl n := fun n hn => by
    unfold colF
    rw [t.rows, sumR_rows D s.amt (fun p => decide (p.1 = n)), w.loeq]
    refine congrArg (fr D) ?_
    by_cases c : n ∈ kl
    · have h1 := o.row n c
      rw [left0 n c, Int.zero_add] at h1
      rw [← h1, ← sumL_map (fun y => (n, y)) (fun p : Str × Str => s.amt p.1 p.2) kh]
      have e : sumL (kh.map fun y => (n, y)) (fun p : Str × Str => s.amt p.1 p.2) = sumL (kh.map fun y => (n, y)) (fun p => if decide (p.1 = n) = true then s.amt p.1 p.2 else 0) := sumL_congr fun p hp => by
        obtain ⟨y, _, rfl⟩ := List.mem_map.mp hp
        rw [if_pos (decide_eq_true rfl)]
      rw [e]
      refine sum_two t.nd (nodup_inj (fun a b h => by injection h) w.ndh) (fun p hp => ?_) (fun p hp => ?_)
      · by_cases q : decide (p.1 = n) = true
        · rw [if_pos q] at hp
          exact t.all p.1 p.2 hp
        · rw [if_neg q] at hp
          exact absurd rfl hp
      · by_cases q : decide (p.1 = n) = true
        · rw [if_pos q] at hp
          exact List.mem_map.mpr ⟨p.2, (o.supp p.1 p.2 hp).2.1, by rw [← of_decide_eq_true q]⟩
        · rw [if_neg q] at hp
          exact absurd rfl hp
    · rw [w.lo0 n hn c]
      refine sumL_zero fun p _ => ?_
      by_cases q : decide (p.1 = n) = true
      · rw [if_pos q]
        refine Decidable.byContradiction fun h => c ?_
        rw [← of_decide_eq_true q]
        exact (o.supp p.1 p.2 h).1
      · rw [if_neg q]
  have cols : ∀ n ∈ ns, colS rows n = shr ns Wh n := fun n hn => by
    unfold colS
    rw [t.rows, sumR_rows D s.amt (fun p => decide (p.2 = n)), w.hieq]
    refine congrArg (fr D) ?_
    by_cases c : n ∈ kh
    · have h1 := o.col n c
      rw [room0 n c, Int.zero_add] at h1
      rw [← h1, ← sumL_map (fun x => (x, n)) (fun p : Str × Str => s.amt p.1 p.2) kl]
      have e : sumL (kl.map fun x => (x, n)) (fun p : Str × Str => s.amt p.1 p.2) = sumL (kl.map fun x => (x, n)) (fun p => if decide (p.2 = n) = true then s.amt p.1 p.2 else 0) := sumL_congr fun p hp => by
        obtain ⟨y, _, rfl⟩ := List.mem_map.mp hp
        rw [if_pos (decide_eq_true rfl)]
      rw [e]
      refine sum_two t.nd (nodup_inj (fun a b h => by injection h) w.ndl) (fun p hp => ?_) (fun p hp => ?_)
      · by_cases q : decide (p.2 = n) = true
        · rw [if_pos q] at hp
          exact t.all p.1 p.2 hp
        · rw [if_neg q] at hp
          exact absurd rfl hp
      · by_cases q : decide (p.2 = n) = true
        · rw [if_pos q] at hp
          exact List.mem_map.mpr ⟨p.1, (o.supp p.1 p.2 hp).1, by rw [← of_decide_eq_true q]⟩
        · rw [if_neg q] at hp
          exact absurd rfl hp
    · rw [w.hi0 n hn c]
      refine sumL_zero fun p _ => ?_
      by_cases q : decide (p.2 = n) = true
      · rw [if_pos q]
        refine Decidable.byContradiction fun h => c ?_
        rw [← of_decide_eq_true q]
        exact (o.supp p.1 p.2 h).2.1
      · rw [if_neg q]
  have pos : ∀ r ∈ rows, 0 < r.2.2 := fun r hr => by
    rw [(hrow r hr).2]
    have h1 := (hrow r hr).1
    have h2 := o.ann r.1 r.2.1
    have := (fr_lt d0 0 (s.amt r.1 r.2.1)).mpr (by omega)
    rw [fr_zero] at this
    exact this
  have rne : rows ≠ [] := fun e => by
    obtain ⟨x, hx, hp⟩ := sum_pos_ex w.okl.pos
    have h1 := colf x hx
    rw [e] at h1
    have h2 : colF [] x = 0 := rfl
    rw [h2] at h1
    rw [w.loeq] at h1
    have h3 := fr_inj d0 (h1.symm.trans (fr_zero D).symm)
    have h4 : Wts.lo ns Wl Wh x = Wl x * (ns.map Wh).sum := if_pos hx
    have h5 := Int.mul_pos hp w.okh.pos
    omega
  have rlen : rows.length < 64 := by
    have h1 := nodup_leP (l := rows.map fun r => (r.1, r.2.1)) (m := kl.flatMap fun x => kh.map fun y => (x, y)) (by rw [hpairs]; exact t.nd.filter _) fun p hp => by
      obtain ⟨r, hr, rfl⟩ := List.mem_map.mp hp
      have := o.supp _ _ (hrow r hr).1
      rw [List.mem_flatMap]
      exact ⟨r.1, this.1, List.mem_map.mpr ⟨r.2.1, this.2.1, rfl⟩⟩
    have h6 : (kl.flatMap fun x => kh.map fun y => (x, y)).length = kl.length * kh.length := by
      rw [List.length_flatMap]
      simp only [List.length_map, List.map_const', List.sum_replicate_nat]
    have h7 : kl.length * kh.length ≤ 6 * 6 := Nat.mul_le_mul (Nat.le_trans (nodup_le w.ndl w.klns) w.n6) (Nat.le_trans (nodup_le w.ndh w.khns) w.n6)
    rw [List.length_map] at h1
    omega
  refine ⟨⟨⟨by omega, d0, ?_, fun r hr => ?_⟩, ?_, ?_, rlen, fun r hr => ?_, ?_, fun u nd hs hup hb => ?_⟩, fun r hr => ?_, rne⟩
  · have := Nat.mul_le_mul w.d1 w.d1
    omega
  · obtain ⟨z, h1, h2, h3⟩ := hB r hr
    exact ⟨z, h1, by omega, by omega⟩
  · rw [hpairs]
    exact t.pw.filter _
  · rw [hpairs]
    exact t.nd.filter _
  · have := o.supp _ _ (hrow r hr).1
    exact ⟨w.ok.mem _ (w.klns _ this.1), w.ok.mem _ (w.khns _ this.2.1)⟩
  · unfold tableB
    rw [List.all_eq_true.mpr fun r hr => ?_, Bool.true_and, List.all_eq_true]
    · intro n hn
      rw [decide_eq_true (colf n hn), decide_eq_true (cols n hn)]
      rfl
    · have := o.supp _ _ (hrow r hr).1
      unfold okRow
      rw [decide_eq_true (w.klns _ this.1), decide_eq_true (w.khns _ this.2.1), show R r.1 r.2.1 = true from this.2.2, decide_eq_true (pos r hr)]
      rfl
  · have hU : UpSet ns (RP R) (· ∈ u) := fun x y hx hy hR => hup x hx y hy hR
    have h1 := full_free o w.ok.nd w.ndl w.ndh w.klns w.khns w.lo0 w.hi0 t.full hU
    rw [mass_u w.ok.nd nd hs (fun _ _ => Iff.rfl), mass_u w.ok.nd nd hs (fun _ _ => Iff.rfl), sum_lo hs, sum_lo hs] at h1
    unfold Bars at hb
    omega
  · obtain ⟨z, h1, h2, h3⟩ := hB r hr
    exact ⟨z, h1, by omega, by omega⟩
end
end OT
end

section
set_option Elab.async false
set_option linter.all false
set_option maxRecDepth 100000
set_option maxHeartbeats 8000000
namespace OT
open PySem PySem.Spec PyProof.Rows L2 OTR
open C8 (Cal Mak Met pe_c pe_mk pe_mt pe_mt0)
section
variable {P : Program} {w : World} {K : PySem.W.Frag} {mg : Str → Option Value} {base : Heap} {a : Ads}
/-- a statement, what holds behind it, the rest -/
def tCut (t u : TS) : TS := fun D σ H => ∃ Pm : L2.St → Hp → Prop, t { D with nx := Pm } σ H ∧ ∀ σ' H', Pm σ' H' → u D σ' H'
theorem pss_cut {X : Cx} {st : Stmt} {rest : List Stmt} {t u : TS} (h1 : PS X st t) (h2 : PSs X rest u) : PSs X (st :: rest) (tCut t u) := by
  refine ⟨fun pins s σ H D I ⟨Pm, h, k⟩ => ?_⟩
  refine wpAny_execs_cons (thn (h1.run pins s σ H { D with nx := Pm } I h) fun f s1 q => ?_)
  cases f with
  | next =>
    obtain ⟨σ', H', I', q⟩ := q
    exact h2.run pins s1 σ' H' D I' (k _ _ q)
  | ret v => exact q
  | brk => exact q
  | cont => exact q
theorem Same.lseq {K : PySem.W.Frag} {H H2 : Hp} {p : Addr} {xs : List V} (e : Same H H2) (h : SqL K H p xs) : SqL K H2 p xs := by
  rcases h with (h | ⟨o, h⟩) | h
  · exact .inl (.inl (e _ _ h))
  · exact .inl (.inr ⟨o, e _ _ h⟩)
  · exact .inr h
theorem same_keep {p : Addr} {H H1 H2 : Hp} (e : Same H H1) (k : Keep (· = p) H1 H2) (n : H p = none) : Same H H2 := fun b o h => k b o (e _ _ h) fun q => by rw [q, n] at h; cases h
theorem tableB_perm {sn ns : List Str} (h : sn.Perm ns) (R : Str → Str → Bool) (ql qh : Str → Rat) (rows : List Row) : tableB sn R ql qh rows = tableB ns R ql qh rows := by
  unfold tableB
  have e1 : okRow sn R = okRow ns R := by
    funext r
    unfold okRow
    have m : ∀ x, decide (x ∈ sn) = decide (x ∈ ns) := fun x => by
      rw [Bool.eq_iff_iff, decide_eq_true_eq, decide_eq_true_eq]
      exact h.mem_iff
    rw [m, m]
  rw [e1]
  congr 1
  rw [Bool.eq_iff_iff, List.all_eq_true, List.all_eq_true]
  exact ⟨fun q n hn => q n (h.mem_iff.mpr hn), fun q n hn => q n (h.mem_iff.mp hn)⟩
theorem le_sum {W : Str → Int} {n : Str} : ∀ {l : List Str}, (∀ x ∈ l, 0 ≤ W x) → n ∈ l → W n ≤ (l.map W).sum
  | [], _, h => by cases h
  | x :: l, h3, h4 => by
    have h0 : 0 ≤ (l.map W).sum := by
      rw [← sumL_sum]
      exact sumL_nn fun y hy => h3 y (List.mem_cons_of_mem _ hy)
    have hx := h3 x List.mem_cons_self
    rw [List.map_cons, List.sum_cons]
    rcases List.mem_cons.mp h4 with rfl | h5
    · omega
    · have := le_sum (fun y hy => h3 y (List.mem_cons_of_mem _ hy)) h5
      omega
/-- what was told: a right list of rows, new; or None, and a bar -/
def TD (a : Ads) (HB : Hp) (lat : Addr) (ns : List Str) (R : Str → Str → Bool) (Wl Wh : Str → Int) (D : Nat) (v : V) (H : Hp) : Prop :=
  (∃ l rows, v = .ref l ∧ HB l = none ∧ l ≠ lat ∧ RowsL a H l rows ∧ RightT ns R Wl Wh rows D ∧ (∀ r ∈ rows, RowB D r.2.2) ∧ rows ≠ []) ∨
  (v = .non ∧ ∃ U : Str → Prop, (∀ x y, x ∈ ns → U x → y ∈ ns → R x y = true → U y) ∧ ∀ u : List Str, u.Nodup → (∀ x ∈ u, x ∈ ns) → (∀ x ∈ ns, x ∈ u ↔ U x) → Bars ns Wl Wh u)
abbrev sLaw : Stmt := top 61
abbrev nLaw : List Str := ["_law_script", "_law_pool_here", "_law_names_here", "_law_above_here", "_law_order", "_law_low", "_law_high", "_law_chances", "_law_webs_here", "_law_orders", "_law_at", "_law_told", "_law_cell_here", "_law_rows", "_law_tried", "_law_said", "_law_web", "_law_name"]
theorem scLaw : FnScope nLaw ["_law_script"] (defScope sLaw) := ⟨rfl, rfl, rfl, by decide +kernel, rfl, by decide +kernel, by decide +kernel⟩
def spLaw (K : PySem.W.Frag) : Sp := fun vs H Q _ => ∃ (p : Addr) (zs : List Int), vs = [.ref p] ∧ SqL K H p (zs.map V.int) ∧ ∀ H2, Q (.bl true) H2
structure LawFns (P : Program) (w : World) (K : PySem.W.Frag) (mg : Str → Option Value) (base : Heap) (a : Ads) : Prop where
  Po : Cal P w K mg base 1 "_law_pool" spPool []
  Tk : Cal P w K mg base 1 "_law_take" spTake []
  Ce : Cal P w K mg base 1 "_law_cell" (spCell K) []
  Na : Cal P w K mg base 2 "_law_names" spNames []
  Pa : Cal P w K mg base 2 "_law_pairs" spPairs []
  Ab : Cal P w K mg base 1 "_law_above" spAbove []
  Co : Cal P w K mg base 1 "_law_covers" spCov []
  Wt : Cal P w K mg base 2 "_law_weights" spWt []
  Rz : Cal P w K mg base 2 "_law_raised" spRz []
  We : Cal P w K mg base 1 "_law_webs" spWebs []
  TR : Cal P w K mg base 4 "_law_told_right" (spTR a) []
  Cg : Cal P w K mg base 5 "_law_changed" (spChg a) []
  IL : Cal P w K mg base 3 "_law_is_table" (spLIT a) []
  PT : Cal P w K mg base 8 "pair_table" (spPT a) []
  IP : Cal P w K mg base 6 "is_pair_table" (spIT a) []
  MO : Mak P w K mg base 3 "Order" a.O (spOI a) []
  MC : Mak P w K mg base 4 "Chance" a.C (spCI a) []
  Sh : Met P w K mg base 5 a.C "share" (spCS a) []
theorem ok_Law (T : Fx K mg a) (L : LawFns P w K mg base a) (CI : ChaIt P w K mg base a) {f : Addr} {fd : FuncData} (Fl : Fun K "law" "law" sLaw f fd) : FnOk P w K mg base CX0 9 f fd ["_law_script"] (spLaw K) := by
  obtain ⟨fi, fln, fdL, O, IT, LF, FL, bL⟩ := CI.ex
  obtain ⟨Po, Tk, Ce, Na, Pa, Ab, Co, Wt, Rz, We, TR, Cg, IL, PT, IP, MO, MC, Sh⟩ := L
  refine Fl.ok (k := 8) scLaw (fun vs H Q E h => ?_) (fun cdv A outer s H vs Q E hr h => ?_)
  · obtain ⟨p, zs, rfl, _⟩ := h
    rfl
  · obtain ⟨p, zs, rfl, hp, q⟩ := h
    have hr1 : Room 1 (A.deeper (envOfC "law" (defScope sLaw) s.heap.objs.size f cdv)) := hr.mono (by decide)
    refine ⟨_, (pss_cons (ps_set (i := 1) scLaw.nd rfl (.inl rfl) (pe_c Po hr (by decide) (by rfl) (pa_cons (pe_c Ce hr (by decide) (by rfl) (pa_cons (pv 0) (pa_cons pe_int pa_nil))) pa_nil)))
        (pss_cons (ps_set (i := 2) scLaw.nd rfl (.inr rfl) (pe_c Na hr (by decide) (by rfl) (pa_cons (pv 1) (pa_cons (pe_op op_add pe_int (pe_c Tk hr (by decide) (by rfl) (pa_cons (pv 1) (pa_cons pe_int pa_nil)))) pa_nil))))
        (pss_cons (ps_set (i := 3) scLaw.nd rfl (.inl rfl) (pe_c Ab hr (by decide) (by rfl) (pa_cons (pv 2) (pa_cons (pe_c Pa hr (by decide) (by rfl) (pa_cons (pe_c Po hr (by decide) (by rfl) (pa_cons (pe_c Ce hr (by decide) (by rfl) (pa_cons (pv 0) (pa_cons pe_int pa_nil))) pa_nil)) (pa_cons (pv 2) pa_nil))) pa_nil))))
        (pss_cons (ps_set (i := 4) scLaw.nd rfl (.inl rfl) (pe_mk MO hr (by decide) (by rfl) (pa_cons (pv 2) (pa_cons (pe_c Co hr (by decide) (by rfl) (pa_cons (pv 2) (pa_cons (pv 3) pa_nil))) pa_nil))))
        (pss_cons (ps_set (i := 1) scLaw.nd rfl (.inl rfl) (pe_c Po hr (by decide) (by rfl) (pa_cons (pe_c Ce hr (by decide) (by rfl) (pa_cons (pv 0) (pa_cons pe_int pa_nil))) pa_nil)))
        (pss_cons (ps_set (i := 5) scLaw.nd rfl (.inl rfl) (pe_c Wt hr (by decide) (by rfl) (pa_cons (pv 1) (pa_cons (pv 2) pa_nil))))
        (pss_cons (ps_set (i := 6) scLaw.nd rfl (.inl rfl) (pe_c Wt hr (by decide) (by rfl) (pa_cons (pv 1) (pa_cons (pv 2) pa_nil))))
        (pss_cut (ps_if (pt_cmpR op_gt (pe_c Tk hr (by decide) (by rfl) (pa_cons (pv 1) (pa_cons pe_int pa_nil))) pe_int (nomark _)) (pss_one (ps_set (i := 6) scLaw.nd rfl (.inl rfl) (pe_c Rz hr (by decide) (by rfl) (pa_cons (pv 1) (pa_cons (pv 5) (pa_cons (pv 3) pa_nil)))))) pss_nil)
        (pss_cons (ps_set (i := 7) scLaw.nd rfl (.inr rfl) (pe_lst (pa_cons (pe_mk MC hr (by decide) (by rfl) (pa_cons (pv 5) pa_nil)) (pa_cons (pe_mk MC hr (by decide) (by rfl) (pa_cons (pv 6) pa_nil)) pa_nil))))
        (pss_cons (ps_set (i := 8) scLaw.nd rfl (.inl rfl) (pe_c We hr (by decide) (by rfl) (pa_cons (pv 2) (pa_cons (pv 3) pa_nil))))
        (pss_cons (ps_setLc (i := 9) rfl scLaw.nd rfl rfl (sw_true rfl rfl rfl (by decide +kernel)) (pi_list (pv 8)) (own := [("_law_web", 16)]) (blkOk_by (by kernel_rfl)) (fun _ _ _ _ _ => (pg_name (i := 16) scLaw.nd rfl (.inl rfl))) (fun _ _ _ _ _ => pts_nil) (fun _ _ _ _ _ => (pe_mk MO hr (by decide) (by rfl) (pa_cons (pv 2) (pa_cons (pe_c Co hr (by decide) (by rfl) (pa_cons (pv 2) (pa_cons (pv 16) pa_nil))) pa_nil)))))
        (pss_cons (ps_for PassesOwn.never rfl (pi_list (pe_lst (pa_cons pe_int (pa_cons pe_int (pa_cons pe_int (pa_cons pe_int (pa_cons pe_int pa_nil))))))) (pg_name (i := 10) scLaw.nd rfl (.inl rfl))
        (pss_cut (ps_set (i := 11) scLaw.nd rfl (.inl rfl) (pe_c PT hr (by decide) (by rfl) (pa_cons (pe_ix ix_list (pv 9) (pv 10) (fun _ _ => rfl)) (pa_cons (pe_ix ix_list (pv 7) pe_int (fun _ _ => rfl)) (pa_cons (pe_ix ix_list (pv 7) pe_int (fun _ _ => rfl)) pa_nil)))))
        (pss_cut (ps_if (pw_and (pt_cmpR op_notN (pv 11) pe_non (nomark _)) (pw_and1 (pt_not (pt_val (pe_callB call_isi (by rfl) T.nIsi (by decide +kernel) (pa_cons (pv 11) (pa_cons (pe_bltn (v := .ty "list") (u := .type "list") (by rfl) T.nList (by decide +kernel) rfl) pa_nil))))))).pt (pss_one (ps_ret pe_bl)) pss_nil)
        (pss_cut (ps_if (pt_not (pt_val (pe_c TR hr (by decide) (by rfl) (pa_cons (pe_ix ix_list (pv 8) (pv 10) (fun _ _ => rfl)) (pa_cons (pv 5) (pa_cons (pv 6) (pa_cons (pv 11) pa_nil))))))) (pss_one (ps_ret pe_bl)) pss_nil)
        (pss_cut (ps_if (pt_cmpR op_isN (pv 11) pe_non (nomark _)) (pss_one (ps_lock (ps_setLc (i := 11) rfl scLaw.nd rfl rfl (sw_true rfl rfl rfl (by decide +kernel)) (pi_ownD O IT hr1 (pe_ix ix_list (pv 7) pe_int (fun _ _ => rfl))) (own := [("_law_name", 17)]) (blkOk_by (by kernel_rfl)) (fun _ _ _ _ _ => (pg_name (i := 17) scLaw.nd rfl (.inl rfl))) (fun _ _ _ _ _ => pts_nil) (fun _ _ _ _ _ => (pe_tup (pa_cons (pv 17) (pa_cons (pv 17) (pa_cons (pe_mt Sh hr (by decide) (pe_ix (r := rIxL K) ix_list (pv 7) pe_int (fun _ _ => rfl)) (pa_cons (pv 17) pa_nil)) pa_nil)))))))) pss_nil)
        (pss_cons (ps_for PassesOwn.never rfl (pi_list (pe_op op_cat (pe_lst (pa_cons (pe_c Ce hr (by decide) (by rfl) (pa_cons (pv 0) (pa_cons pe_int pa_nil))) pa_nil)) (pe_callTy call_list_of (by rfl) T.nList (by decide +kernel) (pa_cons (pe_slice sl_list (pv 0) (po_some pe_int) (po_some pe_int)) pa_nil)))) (pg_name (i := 12) scLaw.nd rfl (.inl rfl))
        (pss_cons (ps_set (i := 13) scLaw.nd rfl (.inl rfl) (pe_c Cg hr (by decide) (by rfl) (pa_cons (pe_c Po hr (by decide) (by rfl) (pa_cons (pv 12) pa_nil)) (pa_cons (pv 2) (pa_cons (pv 11) pa_nil)))))
        (pss_one (ps_for PassesOwn.never rfl (pi_list (pe_lst (pa_cons (pv 13) (pa_cons (pv 11) (pa_cons (pe_callTy call_tupL (by rfl) T.nTuple (by decide +kernel) (pa_cons (pv 13) pa_nil)) pa_nil))))) (pg_name (i := 14) scLaw.nd rfl (.inl rfl))
        (pss_cons (ps_set (i := 15) scLaw.nd rfl (.inl rfl) (pe_c IP hr (by decide) (by rfl) (pa_cons (pe_ix ix_list (pv 9) (pv 10) (fun _ _ => rfl)) (pa_cons (pe_ix ix_list (pv 7) pe_int (fun _ _ => rfl)) (pa_cons (pe_ix ix_list (pv 7) pe_int (fun _ _ => rfl)) (pa_cons (pv 14) pa_nil))))))
        (pss_cons (ps_if (pt_not (pt_val (pe_callB call_isi (by rfl) T.nIsi (by decide +kernel) (pa_cons (pv 15) (pa_cons (pe_bltn (v := .ty "bool") (u := .type "bool") (by rfl) T.nBool (by decide +kernel) rfl) pa_nil))))) (pss_one (ps_ret pe_bl)) pss_nil)
        (pss_one (ps_if (pt_cmpR op_ne (pv 15) (pe_c IL hr (by decide) (by rfl) (pa_cons (pe_ix ix_list (pv 8) (pv 10) (fun _ _ => rfl)) (pa_cons (pv 5) (pa_cons (pv 6) (pa_cons (pv 14) pa_nil))))) (nomark _)) (pss_one (ps_ret pe_bl)) pss_nil))))))))
        (pss_one (ps_expr (pe_bm0 PySem.F.plainAttrs_list PySem.F.slot_list_clear PySem.F.type_list_clear mt_clear (pv 11))))))))))
        (pss_one (ps_ret (pe_cmpR op_is_bl (pe_c IP hr (by decide) (by rfl) (pa_cons (pv 4) (pa_cons (pe_ix ix_list (pv 7) pe_int (fun _ _ => rfl)) (pa_cons (pe_ix ix_list (pv 7) pe_int (fun _ _ => rfl)) (pa_cons (pe_lst pa_nil) pa_nil))))) pe_bl (nomark _)))))))))))))))), ?_⟩
    -- the names
    refine ⟨.ref p, rfl, p, 0, zs, rfl, hp, fun z0 => ⟨z0, rfl, fun pl H1 npl e1 hpl => ?_⟩⟩
    refine ⟨.ref pl, rfl, .ref pl, rfl, pl, 6, rfl, hpl, (by decide), (by decide), fun r0 H2 r00 r01 k2 hpl2 => ⟨1, r0, rfl, rfl, ?_⟩⟩
    obtain ⟨n, hn⟩ : ∃ n : Nat, 1 + r0 = n := ⟨(1 + r0).toNat, by omega⟩
    refine ⟨pl, n, (by show [V.ref pl, V.int (1 + r0)] = _; rw [hn]), hpl2, (by omega), (by omega), fun nm ns H3 nnm k3 hpl3 hnm ok hlen => ?_⟩
    have e3 : Same H H3 := same_keep e1 (k2.trans k3) npl
    have n6 : ns.length ≤ 6 := by omega
    -- the web
    refine ⟨.ref nm, rfl, .ref p, rfl, p, 1, zs, rfl, Same.lseq e3 hp, fun z1 => ⟨z1, rfl, fun pl2 H4 npl2 e4 hpl4 => ?_⟩⟩
    have nm4 := hnm.same e4
    have nepl : pl2 ≠ nm := hpl4.ne nm4
    refine ⟨.ref nm, rfl, pl2, nm, ns, rfl, hpl4, nm4, nepl, ok, fun lp ps H5 nlp k5 hpl5 hlp okp => ?_⟩
    have e35 : Same H3 H5 := same_keep e4 k5 npl2
    have e5 := e3.trans e35
    refine ⟨nm, lp, ns, ps, rfl, hnm.same e35, hlp, ok, okp, fun da H6 nda e6 web => ?_⟩
    have po := relP_po okp
    generalize relP ns ps = R at web po
    have e6' := e5.trans e6
    have hnm6 := (hnm.same e35).same e6
    -- what an Order of a web asks
    have ordA : ∀ {R : Str → Str → Bool} {cs : List (Str × Str)}, PO ns R → (∀ x y, (x, y) ∈ cs ↔ Cov ns R x y) → InP ns cs ∧ (∀ x ∈ ns, ∀ y ∈ ns, (Reach cs x y ↔ R x y = true)) ∧ (∀ x ∈ ns, ∀ y ∈ ns, R x y = true → R y x = true → x = y) := fun po hc =>
      ⟨fun x y h => po.mem _ _ ((hc x y).mp h).2.1, fun x hx y _ => covers_reach po hc x y hx, fun x _ y _ => po.anti x y⟩
    refine ⟨.ref nm, rfl, .ref nm, rfl, .ref da, rfl, nm, da, ns, R, rfl, hnm6, web, ok, po, fun lc cs H7 nlc e7 hlc cov => ?_⟩
    obtain ⟨inp, rel, anti⟩ := ordA po cov
    intro o dxo no ndo neo
    have s7 : Same H7 (upd (upd H7 dxo (.own o)) o (.ins a.O dxo [])) := fun b z e => by rw [upd_ne (ne_of_none e no), upd_ne (ne_of_none e ndo)]; exact e
    refine ⟨o, dxo, nm, lc, ns, cs, R, rfl, upd_same, (hnm6.same e7).same s7, hlc.same s7, ok, inp, rel, anti, fun H8 sn0 kp8 pm0 ord => ⟨rfl, ?_⟩⟩
    have e78 : Same H7 H8 := mk_same no ndo kp8
    have e68 := e7.trans e78
    have e8 := e6'.trans e68
    have web8 := web.same e68
    have hnm8 := hnm6.same e68
    -- the weights
    refine ⟨.ref p, rfl, p, 2, zs, rfl, Same.lseq e8 hp, fun z2 => ⟨z2, rfl, fun pw H9 npw e9 hpw => ?_⟩⟩
    have hnm9 := hnm8.same e9
    refine ⟨.ref pw, rfl, .ref nm, rfl, pw, nm, ns, rfl, hpw, hnm9, hpw.ne hnm9, ok, fun dl Wl H10 ndl k10 hpw10 hwl wlb wle => ?_⟩
    have hnm10 := k10 _ _ hnm9 (hpw.ne hnm9).symm
    refine ⟨.ref pw, rfl, .ref nm, rfl, pw, nm, ns, rfl, hpw10, hnm10, hpw10.ne hnm10, ok, fun dh Wh H11 ndh k11 hpw11 hwh whb whe => ?_⟩
    have dlp := (hpw10.nd hwl).symm
    have hwl11 : WtAt H11 dl ns Wl := k11 _ _ hwl dlp
    have sumOk : ∀ W : Str → Int, (∀ x ∈ ns, 0 ≤ W x ∧ W x ≤ 4) → (∃ x ∈ ns, 0 < W x) → 0 < (ns.map W).sum ∧ (ns.map W).sum ≤ 24 := fun W hb ⟨x, hx, hp⟩ => by
      rw [← sumL_sum]
      constructor
      · refine Decidable.byContradiction fun hc => ?_
        have h0 := sumL_nn (l := ns) (f := W) fun y hy => (hb y hy).1
        have := sumL_all0 (l := ns) (f := W) (fun y hy => (hb y hy).1) (by omega) x hx
        omega
      · have h1 := sumL_le (l := ns) (f := W) (g := fun _ => 4) fun y hy => (hb y hy).2
        have h2 : ∀ l : List Str, sumL l (fun _ => (4 : Int)) = 4 * l.length := by
          intro l
          induction l with
          | nil => rfl
          | cons y l ih => rw [sumL_cons, ih, List.length_cons]; omega
        rw [h2] at h1
        omega
    obtain ⟨wl0, wl1⟩ := sumOk Wl wlb wle
    obtain ⟨wh0, wh1⟩ := sumOk Wh whb whe
    have okl : OkW ns Wl := ⟨ok.nd, ok.mem, ok.le, fun x hx => (wlb x hx).1, wl0, by omega⟩
    have e811 : Same H8 H11 := same_keep e9 (k10.trans k11) npw
    refine ⟨fun σ H' => ∃ (dh2 : Addr) (Wh2 : Str → Int), σ = [some (.ref p), some (.ref pw), some (.ref nm), some (.ref da), some (.ref o), some (.ref dl), some (.ref dh2), none, none, none, none, none, none, none, none, none, none, none] ∧ Same H8 H' ∧ WtAt H' dl ns Wl ∧ WtAt H' dh2 ns Wh2 ∧ (∀ x ∈ ns, 0 ≤ Wh2 x) ∧ 0 < (ns.map Wh2).sum ∧ (ns.map Wh2).sum ≤ 24, ?_, ?_⟩
    · refine ⟨.ref pw, rfl, pw, 3, rfl, hpw11, (by decide), (by decide), fun t H12 t0 t1 k12 hpw12 => ⟨t, 0, rfl, rfl, _, rfl, ?_⟩⟩
      have e812 : Same H8 H12 := same_keep e9 ((k10.trans k11).trans k12) npw
      have hwl12 : WtAt H12 dl ns Wl := k12 _ _ hwl11 dlp
      have hwh12 : WtAt H12 dh ns Wh := k12 _ _ hwh (hpw11.nd hwh).symm
      by_cases c : t > 0
      · rw [decide_eq_true c]
        refine iteT ?_
        refine ⟨.ref pw, rfl, .ref dl, rfl, .ref da, rfl, pw, dl, da, ns, R, Wl, rfl, hpw12, hwl12, web8.same e812, fun x hx => po.refl x hx, ok, fun x hx => (wlb x hx).1, wl0, fun d2 W2 H13 nd2 k13 hpw13 hw2 nn2 sm2 => ?_⟩
        exact ⟨d2, W2, rfl, same_keep e9 (((k10.trans k11).trans k12).trans k13) npw, k13 _ _ hwl12 dlp, hw2, nn2, by omega, by omega⟩
      · rw [decide_eq_false c]
        refine iteF ?_
        exact ⟨dh, Wh, rfl, e812, hwl12, hwh12, fun x hx => (whb x hx).1, wh0, wh1⟩
    clear hwl11 wh0 wh1 whb whe hwh hpw11 k11
    clear dh Wh ndh
    rintro σ H14 ⟨dh, Wh, rfl, e814, hwl, hwh, whn, wh0, wh1⟩
    have okh : OkW ns Wh := ⟨ok.nd, ok.mem, ok.le, whn, wh0, by omega⟩
    -- the chances
    refine ⟨.ref dl, rfl, ?_⟩
    intro c1 dx1 nc1 ndx1 nec1
    have s14 : Same H14 (upd (upd H14 dx1 (.own c1)) c1 (.ins a.C dx1 [])) := fun b z e => by rw [upd_ne (ne_of_none e nc1), upd_ne (ne_of_none e ndx1)]; exact e
    refine ⟨c1, dx1, dl, ns, Wl, rfl, upd_same, s14 _ _ hwl, okl, fun H15 kl kp15 ndkl mkl ch1 => ⟨rfl, ?_⟩⟩
    have e15 : Same H14 H15 := mk_same nc1 ndx1 kp15
    refine ⟨.ref dh, rfl, ?_⟩
    intro c2 dx2 nc2 ndx2 nec2
    have s15 : Same H15 (upd (upd H15 dx2 (.own c2)) c2 (.ins a.C dx2 [])) := fun b z e => by rw [upd_ne (ne_of_none e nc2), upd_ne (ne_of_none e ndx2)]; exact e
    refine ⟨c2, dx2, dh, ns, Wh, rfl, upd_same, s15 _ _ (e15 _ _ hwh), okh, fun H16 kh kp16 ndkh mkh ch2 => ⟨rfl, ?_⟩⟩
    have e16 : Same H15 H16 := mk_same nc2 ndx2 kp16
    refine ⟨(by show 2 ≤ sizeLine; decide), fun lch nlch => ?_⟩
    have s16 := same_new (o := .lst [.ref c1, .ref c2]) nlch
    have hch : upd H16 lch (.lst [.ref c1, .ref c2]) lch = some (.lst [.ref c1, .ref c2]) := upd_same
    have ch1 := (ch1.same e16).same s16
    have ch2 := ch2.same s16
    have e1416 := (e15.trans e16).trans s16
    generalize upd H16 lch (.lst [.ref c1, .ref c2]) = H17 at hch ch1 ch2 e1416
    have hwl := e1416 _ _ hwl
    have hwh := e1416 _ _ hwh
    have e817 := e814.trans e1416
    have e17 := e8.trans e817
    -- the webs and their orders
    refine ⟨.ref nm, rfl, .ref da, rfl, nm, da, ns, R, rfl, hnm8.same e817, web8.same e817, ok, fun lw d1 d2 H18 e18 hlw w1 w2 => ?_⟩
    have e818 := e817.trans e18
    have e18' := e8.trans e818
    obtain ⟨RR, hRR⟩ : ∃ RR : Nat → Str → Str → Bool, RR = fun i => match i with | 0 => R | 1 => flatR ns | _ => turnR R := ⟨_, rfl⟩
    obtain ⟨Dd, hDd⟩ : ∃ Dd : Nat → Addr, Dd = fun i => match i with | 0 => da | 1 => d1 | _ => d2 := ⟨_, rfl⟩
    have hWeb : ∀ i, i < 3 → WebAt H18 (Dd i) ns (RR i) ∧ PO ns (RR i) := fun i hi => by
      rw [hRR, hDd]
      match i, hi with
      | 0, _ => exact ⟨(web8.same e817).same e18, po⟩
      | 1, _ => exact ⟨w1, PO.flat⟩
      | 2, _ => exact ⟨w2, po.turned⟩
    have hDl : ∀ i x, ([V.ref da, V.ref d1, V.ref d2] : List V)[i]? = some x → i < 3 ∧ x = .ref (Dd i) := fun i x h => by
      rw [hDd]
      match i, h with
      | 0, h => injection h with h; exact ⟨by decide, h.symm⟩
      | 1, h => injection h with h; exact ⟨by decide, h.symm⟩
      | 2, h => injection h with h; exact ⟨by decide, h.symm⟩
    have hDi : ∀ i : Nat, i < 3 → atI ([V.ref da, V.ref d1, V.ref d2] : List V) (i : Int) = some (.ref (Dd i)) := fun i hi => by
      rw [hDd]
      match i, hi with
      | 0, _ => rfl
      | 1, _ => rfl
      | 2, _ => rfl
    refine ⟨.ref lw, rfl, lw, rfl, ⟨_, .inl (.inl hlw)⟩, fun lo nlo => ?_⟩
    refine lc_it (walk_list (xs := [V.ref da, V.ref d1, V.ref d2])) (fun k H' => ∃ (os : Nat → Addr) (sns : Nat → List Str), Same H18 H' ∧ H' lo = some (.lst ((List.range k).map fun i => V.ref (os i))) ∧ ∀ i, i < k → (sns i).Perm ns ∧ OrdAt a H' (os i) (sns i) (RR i))
      ⟨fun _ => 0, fun _ => [], same_new nlo, upd_same, fun i hi => absurd hi (Nat.not_lt_zero _)⟩ ?_ ?_ ?_
    · rintro k H' _ ⟨os, sns, e, _⟩
      exact .inl (.inl (e _ _ hlw))
    · rintro k x _ H' hk ⟨os, sns, e, hlo, hos⟩ ⟨rfl, ev⟩
      obtain ⟨k3, rfl⟩ := hDl k x ev
      obtain ⟨wb, pk⟩ := hWeb k k3
      have hnm' := (hnm8.same e818).same e
      refine ⟨rfl, lcY ?_⟩
      refine ⟨.ref nm, rfl, .ref nm, rfl, .ref (Dd k), rfl, nm, Dd k, ns, RR k, rfl, hnm', wb.same e, ok, pk, fun lc2 cs2 Hc nlc2 ec hlc2 cov2 => ?_⟩
      obtain ⟨inp2, rel2, anti2⟩ := ordA pk cov2
      intro o2 dxo2 no2 ndo2 neo2
      have sc : Same Hc (upd (upd Hc dxo2 (.own o2)) o2 (.ins a.O dxo2 [])) := fun b z e => by rw [upd_ne (ne_of_none e no2), upd_ne (ne_of_none e ndo2)]; exact e
      refine ⟨o2, dxo2, nm, lc2, ns, cs2, RR k, rfl, upd_same, (hnm'.same ec).same sc, hlc2.same sc, ok, inp2, rel2, anti2, fun Hd sn2 kpd pm2 ord2 => ⟨rfl, ?_⟩⟩
      have ed := ec.trans (mk_same no2 ndo2 kpd)
      have hlod := ed _ _ hlo
      refine ⟨_, hlod, by rw [List.length_map, List.length_range]; exact smallL (by omega), fun i => if i = k then o2 else os i, fun i => if i = k then sn2 else sns i, Same.mut (e.trans ed) nlo, ?_, fun i hi => ?_⟩
      · rw [upd_same, List.range_succ, List.map_append]
        refine congrArg (fun l => some (HO.lst l)) ?_
        congr 1
        · refine List.map_congr_left fun y hy => ?_
          have : y ≠ k := by have := List.mem_range.mp hy; omega
          exact congrArg V.ref (if_neg this).symm
        · show _ = [V.ref (if k = k then o2 else os k)]
          rw [if_pos rfl]
      · have ordU : ∀ {o sn R}, OrdAt a Hd o sn R → OrdAt a (upd Hd lo (.lst (((List.range k).map fun i => V.ref (os i)) ++ [.ref o2]))) o sn R := fun ⟨dx, t, d, td, up, h1, h2, h3, h4⟩ => by
          have nn : ∀ {c : Addr} {u : HO}, Hd c = some u → (∀ xs, u ≠ .lst xs) → upd Hd lo (.lst (((List.range k).map fun i => V.ref (os i)) ++ [.ref o2])) c = some u := fun h hn => (upd_ne fun e => by rw [e, hlod] at h; injection h with h; exact hn _ h.symm).trans h
          exact ⟨dx, t, d, td, up, nn h1 (fun _ q => by cases q), nn h2 (fun _ q => by cases q), nn h3 (fun _ q => by cases q), fun x hx => ⟨nn (h4 x hx).1 (fun _ q => by cases q), (h4 x hx).2⟩⟩
        by_cases c : i = k
        · subst c
          simp only [if_true]
          exact ⟨pm2, ordU ord2⟩
        · simp only [if_neg c]
          obtain ⟨q1, q2⟩ := hos i (by omega)
          exact ⟨q1, ordU (q2.same ed)⟩
    rintro HB ⟨os, sns, eB, hlo, hos⟩
    have hlo : HB lo = some (.lst ((List.range 3).map fun i => V.ref (os i))) := hlo
    have hos : ∀ i, i < 3 → (sns i).Perm ns ∧ OrdAt a HB (os i) (sns i) (RR i) := hos
    have e8B := e818.trans eB
    have eBB := e8.trans e8B
    have hlwB := eB _ _ hlw
    have e17B := e18.trans eB
    have hchB := e17B _ _ hch
    have ch1B := ch1.same e17B
    have ch2B := ch2.same e17B
    have hwlB := e17B _ _ hwl
    have hwhB := e17B _ _ hwh
    have hnmB := hnm8.same e8B
    have ordB := ord.same e8B
    have webB : ∀ i, i < 3 → WebAt HB (Dd i) ns (RR i) ∧ PO ns (RR i) := fun i hi => ⟨(hWeb i hi).1.same eB, (hWeb i hi).2⟩
    have hpB := Same.lseq eBB hp
    have hOi : ∀ i : Nat, i < 3 → atI ((List.range 3).map fun i => V.ref (os i)) (i : Int) = some (.ref (os i)) := fun i hi => by
      match i, hi with
      | 0, _ => rfl
      | 1, _ => rfl
      | 2, _ => rfl
    -- one bottom for all shares
    obtain ⟨Dn, hDn⟩ : ∃ Dn : Nat, (Dn : Int) = (ns.map Wl).sum * (ns.map Wh).sum := ⟨((ns.map Wl).sum * (ns.map Wh).sum).toNat, by have := Int.mul_pos wl0 wh0; omega⟩
    have Dle : Dn ≤ 1000 := by
      have : (ns.map Wl).sum * (ns.map Wh).sum ≤ 24 * 24 := Int.mul_le_mul wl1 wh1 (by omega) (by omega)
      omega
    have wts : ∀ i, i < 3 → Wts ns (RR i) Wl Wh kl kh Dn := fun i hi => ⟨ok, n6, (webB i hi).2, okl, okh, mkl, mkh, ndkl, ndkh, hDn, Dle⟩
    have DM : Dn * Dn < 1073741824 := by
      have := Nat.mul_le_mul Dle Dle
      omega
    clear hWeb w1 w2 hDl
    -- five times
    refine ⟨(by show 5 ≤ sizeLine; decide), fun lat nlat => ?_⟩
    have sB := same_new (o := .lst [.int 0, .int 1, .int 0, .int 2, .int 0]) nlat
    have hlat : upd HB lat (.lst [.int 0, .int 1, .int 0, .int 2, .int 0]) lat = some (.lst [.int 0, .int 1, .int 0, .int 2, .int 0]) := upd_same
    refine ⟨lat, rfl, ⟨_, .inl (.inl hlat)⟩, ?_⟩
    refine for_it (walk_list (xs := [.int 0, .int 1, .int 0, .int 2, .int 0])) (fun k σ H' => ∃ v10 v11 v12 v13 v14 v15 v16 v17, σ = [some (.ref p), some (.ref pw), some (.ref nm), some (.ref da), some (.ref o), some (.ref dl), some (.ref dh), some (.ref lch), some (.ref lw), some (.ref lo), v10, v11, v12, v13, v14, v15, v16, v17] ∧ Same HB H' ∧ H' lat = some (.lst [.int 0, .int 1, .int 0, .int 2, .int 0]))
      ⟨_, _, _, _, _, _, _, _, rfl, sB, hlat⟩ ?_ ?_ ?_
    · rintro k σ H' _ ⟨v10, v11, v12, v13, v14, v15, v16, v17, rfl, e, h⟩
      exact .inl (.inl h)
    · rintro k v σ _ H' hk ⟨v10, v11, v12, v13, v14, v15, v16, v17, rfl, e, hlat⟩ ⟨rfl, ev⟩
      obtain ⟨i, i3, rfl⟩ : ∃ i : Nat, i < 3 ∧ v = .int i := by
        match k, ev with
        | 0, ev => injection ev with ev; exact ⟨0, by decide, ev.symm⟩
        | 1, ev => injection ev with ev; exact ⟨1, by decide, ev.symm⟩
        | 2, ev => injection ev with ev; exact ⟨0, by decide, ev.symm⟩
        | 3, ev => injection ev with ev; exact ⟨2, by decide, ev.symm⟩
        | 4, ev => injection ev with ev; exact ⟨0, by decide, ev.symm⟩
      have hTD : ∀ {H2 : Hp} {v : V}, TD a HB lat ns (RR i) Wl Wh Dn v H2 → ∀ {H3 : Hp}, Same H2 H3 → TD a HB lat ns (RR i) Wl Wh Dn v H3 := fun h H3 e3 => by
        rcases h with ⟨l, rows, h1, h2, h3, h4, h5⟩ | h
        · exact .inl ⟨l, rows, h1, h2, h3, h4.same e3, h5⟩
        · exact .inr h
      have w3 := wts i i3
      obtain ⟨pmi, ordi⟩ := hos i i3
      obtain ⟨webi, poi⟩ := webB i i3
      have klsn : ∀ x ∈ kl, x ∈ sns i := fun x hx => pmi.mem_iff.mpr (w3.klns x hx)
      have khsn : ∀ x ∈ kh, x ∈ sns i := fun x hx => pmi.mem_iff.mpr (w3.khns x hx)
      have lokl : ∀ x ∈ kl, 0 ≤ Wts.lo ns Wl Wh x := fun x hx => by
        show 0 ≤ (if x ∈ ns then Wl x * (ns.map Wh).sum else 0)
        rw [if_pos (w3.klns x hx)]
        exact Int.mul_nonneg (okl.nn x (w3.klns x hx)) (by omega)
      have hikh : ∀ x ∈ kh, 0 ≤ Wts.hi ns Wl Wh x := fun x hx => by
        show 0 ≤ (if x ∈ ns then Wh x * (ns.map Wl).sum else 0)
        rw [if_pos (w3.khns x hx)]
        exact Int.mul_nonneg (okh.nn x (w3.khns x hx)) (by omega)
      have kl8 : kl.length ≤ 8 := by have := nodup_le ndkl w3.klns; omega
      have kh8 : kh.length ≤ 8 := by have := nodup_le ndkh w3.khns; omega
      have cA : ∀ {H2 : Hp}, Same HB H2 → ChaAt a H2 c1 kl (fun x => fr Dn (Wts.lo ns Wl Wh x)) := fun e2 => by
        rw [← w3.loeq]
        exact ch1B.same e2
      have cB : ∀ {H2 : Hp}, Same HB H2 → ChaAt a H2 c2 kh (fun x => fr Dn (Wts.hi ns Wl Wh x)) := fun e2 => by
        rw [← w3.hieq]
        exact ch2B.same e2
      refine ⟨fun σ H2 => ∃ v, TD a HB lat ns (RR i) Wl Wh Dn v H2 ∧ Same HB H2 ∧ H2 lat = some (.lst [.int 0, .int 1, .int 0, .int 2, .int 0]) ∧ σ = [some (.ref p), some (.ref pw), some (.ref nm), some (.ref da), some (.ref o), some (.ref dl), some (.ref dh), some (.ref lch), some (.ref lw), some (.ref lo), some (.int i), some v, v12, v13, v14, v15, v16, v17], ?_, ?_⟩
      · refine ⟨.ref lo, rfl, .int i, rfl, lo, _, i, .ref (os i), rfl, rfl, .inl (.inl (e _ _ hlo)), hOi i i3, .ref lch, rfl, lch, _, 0, .ref c1, rfl, rfl, .inl (.inl (e _ _ hchB)), rfl, .ref lch, rfl, lch, _, 1, .ref c2, rfl, rfl, .inl (.inl (e _ _ hchB)), rfl, ?_⟩
        refine ⟨os i, c1, c2, sns i, kl, kh, RR i, Wts.lo ns Wl Wh, Wts.hi ns Wl Wh, Dn, rfl, ordi.same e, cA e, cB e, klsn, khsn, ndkl, ndkh, kl8, kh8, w3.d0, DM, lokl, hikh, fun H2 l rows s sk e2 nl rl told => ?_, fun H2 s S T2 e2 fo h0 cut => ?_⟩
        · obtain ⟨rt, rb, rne⟩ := w3.right told
          exact ⟨.ref l, .inl ⟨l, rows, rfl, Same.none e nl, fun q => (by rw [q, hlat] at nl; cases nl), rl, rt, rb, rne⟩, e.trans e2, e2 _ _ hlat, rfl⟩
        · exact ⟨.non, .inr ⟨rfl, w3.cut fo h0 cut⟩, e.trans e2, e2 _ _ hlat, rfl⟩
      rintro σ H2 ⟨v, td, e2, hlat2, rfl⟩
      -- it is None or a list
      refine ⟨fun σ H2 => TD a HB lat ns (RR i) Wl Wh Dn v H2 ∧ Same HB H2 ∧ H2 lat = some (.lst [.int 0, .int 1, .int 0, .int 2, .int 0]) ∧ σ = [some (.ref p), some (.ref pw), some (.ref nm), some (.ref da), some (.ref o), some (.ref dl), some (.ref dh), some (.ref lch), some (.ref lw), some (.ref lo), some (.int i), some v, v12, v13, v14, v15, v16, v17], ?_, ?_⟩
      · refine ⟨v, rfl, rfl, _, rfl, ?_⟩
        rcases td with ⟨l, rows, rfl, td2⟩ | ⟨rfl, td2⟩
        · rw [decide_eq_false (fun z => by cases z)]
          refine iteT ?_
          obtain ⟨n1, n2, ⟨ts, hts, pts⟩, n4⟩ := td2
          refine ⟨.ref l, rfl, .ref l, .ty "list", .type "list", .type "list", true, rfl, .ty "list", .base (.lst hts), kit_ty (by decide +kernel), true, rfl, iteF ?_⟩
          exact ⟨.inl ⟨l, rows, rfl, n1, n2, ⟨ts, hts, pts⟩, n4⟩, e2, hlat2, rfl⟩
        · rw [decide_eq_true rfl]
          refine iteF (iteF ?_)
          exact ⟨.inr ⟨rfl, td2⟩, e2, hlat2, rfl⟩
      rintro σ H3 ⟨td, e3, hlat3, rfl⟩
      -- it is told right
      refine ⟨fun σ H2 => TD a HB lat ns (RR i) Wl Wh Dn v H2 ∧ Same HB H2 ∧ H2 lat = some (.lst [.int 0, .int 1, .int 0, .int 2, .int 0]) ∧ σ = [some (.ref p), some (.ref pw), some (.ref nm), some (.ref da), some (.ref o), some (.ref dl), some (.ref dh), some (.ref lch), some (.ref lw), some (.ref lo), some (.int i), some v, v12, v13, v14, v15, v16, v17], ?_, ?_⟩
      · refine ⟨.ref lw, rfl, .int i, rfl, lw, _, i, .ref (Dd i), rfl, rfl, .inl (.inl (e3 _ _ hlwB)), hDi i i3, .ref dl, rfl, .ref dh, rfl, v, rfl, Dd i, dl, dh, v, ns, RR i, Wl, Wh, rfl, webi.same e3, ok, e3 _ _ hwlB, e3 _ _ hwhB, okl, okh, ?_, fun H4 e4 => ⟨true, rfl, iteF ⟨hTD td e4, e3.trans e4, e4 _ _ hlat3, rfl⟩⟩⟩
        rcases td with ⟨l, rows, rfl, n1, n2, n3, rt, n5⟩ | ⟨rfl, td2⟩
        · exact .inl ⟨l, rows, Dn, rfl, n3, rt⟩
        · exact .inr ⟨rfl, td2⟩
      rintro σ H4 ⟨td, e4, hlat4, rfl⟩
      -- a list of rows
      refine ⟨fun σ H2 => ∃ (l : Addr) (rows : List Row) (v17 : Option V), HB l = none ∧ l ≠ lat ∧ RowsL a H2 l rows ∧ RowsOk rows Dn ∧ (∀ r ∈ rows, RowB Dn r.2.2) ∧ rows ≠ [] ∧ rows.length ≤ 100 ∧ Same HB H2 ∧ H2 lat = some (.lst [.int 0, .int 1, .int 0, .int 2, .int 0]) ∧ σ = [some (.ref p), some (.ref pw), some (.ref nm), some (.ref da), some (.ref o), some (.ref dl), some (.ref dh), some (.ref lch), some (.ref lw), some (.ref lo), some (.int i), some (.ref l), v12, v13, v14, v15, v16, v17], ?_, ?_⟩
      · refine ⟨v, rfl, rfl, _, rfl, ?_⟩
        rcases td with ⟨l, rows, rfl, n1, n2, n3, rt, n5, n6⟩ | ⟨rfl, td2⟩
        · rw [decide_eq_false (fun z => by cases z)]
          refine iteF ?_
          exact ⟨l, rows, _, n1, n2, n3, rt.ro, n5, n6, by have := rt.len; omega, e4, hlat4, rfl⟩
        · rw [decide_eq_true rfl]
          refine iteT ?_
          obtain ⟨dxc, dd, sd, g1, g2, g3, g4⟩ := ch1B.same e4
          refine ⟨dd, _, g2, trivial, fun od => ?_⟩
          have hlk : ∀ {b : Addr} {u : HO}, H4 b = some u → b ≠ dd → upd H4 dd (.frz od (SD kl fun x => .ref (sd x))) b = some u := fun h ne => (upd_ne ne).trans h
          have nlst : ∀ {b : Addr} {xs : List V}, H4 b = some (.lst xs) → b ≠ dd := fun h q => by rw [q, g2] at h; cases h
          have nins : ∀ {b C dx : Addr} {fs : List (Str × V)}, H4 b = some (.ins C dx fs) → b ≠ dd := fun h q => by rw [q, g2] at h; cases h
          have hch4 := hlk (e4 _ _ hchB) (nlst (e4 _ _ hchB))
          have hc14 := hlk g1 (nins g1)
          have isL : ∀ x ∈ kl, IsR a (upd H4 dd (.frz od (SD kl fun x => .ref (sd x)))) (sd x) (shr ns Wl x) := fun x hx => by
            obtain ⟨dy, h⟩ := g3 x hx
            exact ⟨dy, hlk h (nins h)⟩
          have hdd : upd H4 dd (.frz od (SD kl fun x => .ref (sd x))) dd = some (.frz od (SD kl fun x => .ref (sd x))) := upd_same
          obtain ⟨Hl, hHl⟩ : ∃ Hl, Hl = upd H4 dd (.frz od (SD kl fun x => .ref (sd x))) := ⟨_, rfl⟩
          rw [← hHl] at hch4 hc14 isL hdd ⊢
          have chR : ∀ {H' : Hp}, Same Hl H' → ChaR a H' c1 kl (shr ns Wl) := fun es => ⟨dxc, dd, sd, es _ _ hc14, .inr ⟨od, es _ _ hdd⟩, fun x hx => (isL x hx).same es, g4⟩
          refine ⟨.ref lch, rfl, lch, _, 0, .ref c1, rfl, rfl, .inl (.inl hch4), rfl, c1, dxc, _, dd, od, _, rfl, hc14, rfl, hdd, fun D nD => ?_⟩
          refine lc_it walk_keys (fun j Hk => ∃ ts, Same Hl Hk ∧ Hk D = some (.lst ts) ∧ Paired (VRow a Hk) ts ((kl.take j).map fun x => (x, x, shr ns Wl x))) ⟨[], same_new nD, upd_same, .nil⟩ ?_ ?_ ?_
          · rintro j Hk _ ⟨ts, es, _⟩
            exact es _ _ hdd
          · rintro j x _ Hk hj ⟨ts, es, hD, pt⟩ ⟨rfl, kk, vv, hkv, rfl⟩
            obtain ⟨y, hy, hkv2⟩ := get_map hkv
            injection hkv2 with hk1 hk2
            subst hk1
            have yk := List.mem_of_getElem? hy
            have tl := pt.length
            rw [List.length_map, List.length_take] at tl
            refine ⟨rfl, lcY ?_⟩
            refine ⟨.str y, rfl, .str y, rfl, .ref lch, rfl, lch, _, 0, .ref c1, rfl, rfl, .inl (.inl (es _ _ hch4)), rfl, c1, dxc, _, rfl, es _ _ hc14, rfl, .str y, rfl, c1, y, kl, shr ns Wl, rfl, chR es, fun r H9 e9 hr9 => ⟨(by show 3 ≤ sizeLine; decide), fun t nt => ?_⟩⟩
            have s1 := e9.trans (same_new (o := .tup [.str y, .str y, .ref r]) nt)
            have ht := upd_same (H := H9) (a := t) (o := .tup [.str y, .str y, .ref r])
            have hr10 := hr9.same (same_new (o := .tup [.str y, .str y, .ref r]) nt)
            generalize upd H9 t (.tup [.str y, .str y, .ref r]) = H10 at s1 ht hr10
            have hD10 := s1 _ _ hD
            have vU : ∀ {v : V} {r : Row} {o : HO}, VRow a H10 v r → VRow a (upd H10 D o) v r := fun ⟨t, b, h1, h2, h3⟩ => ⟨t, b, h1, (upd_ne fun q => by rw [q, hD10] at h2; cases h2).trans h2, h3.updL hD10 _⟩
            refine ⟨_, hD10, smallL (by omega), ts ++ [.ref t], Same.mut (es.trans s1) nD, upd_same, ?_⟩
            rw [List.take_succ, hy, Option.toList, List.map_append]
            exact (L2.Paired.mapP pt fun _ _ h => vU (h.same s1)).snoc (vU ⟨t, r, rfl, ht, hr10⟩)
          · rintro Hk ⟨ts, es, hD, pt⟩
            rw [SK_length, List.take_length] at pt
            have hddk := es _ _ hdd
            have Ddd : D ≠ dd := fun q => by rw [q, hdd] at nD; cases nD
            have nD4 : H4 D = none := by rw [hHl, upd_ne Ddd] at nD; exact nD
            have sEnd : Same H4 (upd Hk dd (SD kl fun x => .ref (sd x))) := fun b u h => by
              by_cases q : b = dd
              · rw [q, upd_same, ← g2, ← q]
                exact h
              · rw [upd_ne q]
                exact es b u (by rw [hHl, upd_ne q]; exact h)
            have rB : ∀ r ∈ kl.map (fun x => (x, x, shr ns Wl x)), ∃ z : Int, r.2.2 * (Dn : Rat) = (z : Rat) ∧ 0 ≤ z ∧ z ≤ 1000 := fun r hr => by
              obtain ⟨x, hx, rfl⟩ := List.mem_map.mp hr
              refine ⟨Wts.lo ns Wl Wh x, ?_, lokl x hx, ?_⟩
              · show shr ns Wl x * (Dn : Rat) = _
                rw [w3.loeq]
                show fr Dn (Wts.lo ns Wl Wh x) * (Dn : Rat) = _
                unfold fr
                have : (Dn : Rat) ≠ 0 := by
                  intro q
                  have h1 : Dn = 0 := by exact_mod_cast q
                  have := w3.d0
                  omega
                grind
              · show (if x ∈ ns then Wl x * (ns.map Wh).sum else 0) ≤ 1000
                rw [if_pos (w3.klns x hx)]
                have h1 := le_sum okl.nn (w3.klns x hx)
                have : Wl x * (ns.map Wh).sum ≤ 24 * 24 := Int.mul_le_mul (by omega) wh1 (by omega) (by omega)
                omega
            have vU : ∀ {v : V} {r : Row} {o : HO}, VRow a Hk v r → VRow a (upd Hk dd o) v r := fun ⟨t, b, h1, h2, ⟨dz, h3⟩⟩ => ⟨t, b, h1, (upd_ne fun q => by rw [q, hddk] at h2; cases h2).trans h2, ⟨dz, (upd_ne fun q => by rw [q, hddk] at h3; cases h3).trans h3⟩⟩
            refine ⟨hddk, D, kl.map fun x => (x, x, shr ns Wl x), _, Same.none e4 nD4, fun q => (by rw [q, hlat4] at nD4; cases nD4), ⟨ts, (upd_ne Ddd).trans hD, L2.Paired.mapP pt fun _ _ h => vU h⟩, ⟨by rw [List.length_map]; omega, w3.d0, DM, fun r hr => ?_⟩, fun r hr => ?_, ?_, by rw [List.length_map]; omega, e4.trans sEnd, sEnd _ _ hlat4, rfl⟩
            · obtain ⟨z, h1, h2, h3⟩ := rB r hr
              exact ⟨z, h1, by omega, by omega⟩
            · obtain ⟨z, h1, h2, h3⟩ := rB r hr
              exact ⟨z, h1, by omega, by omega⟩
            · obtain ⟨x, hx, hxp⟩ := sum_pos_ex wl0
              have : x ∈ kl := (mkl x).mpr ⟨hx, hxp⟩
              intro q
              rw [List.map_eq_nil_iff] at q
              rw [q] at this
              cases this
      rintro σ H5 ⟨l, rows, v17, nl, llat, hrl, ro, rb, rne, rlen, e5, hlat5, rfl⟩
      obtain ⟨ts, hlt, prl⟩ := id hrl
      have pint : ∃ ws : List Int, cutV (zs.map V.int) (some 4) (some 7) = ws.map V.int ∧ ws.length ≤ 3 := by
        refine ⟨(zs.drop (HT.sIx (zs.map V.int).length 0 (some 4))).take (HT.sIx (zs.map V.int).length (zs.map V.int).length (some 7) - HT.sIx (zs.map V.int).length 0 (some 4)), ?_, ?_⟩
        · unfold cutV
          rw [List.map_take, List.map_drop]
        · have h1 : HT.sIx (zs.map V.int).length (zs.map V.int).length (some 7) = min 7 (zs.map V.int).length := HT.sIx_nat _ _ 7
          have h2 : HT.sIx (zs.map V.int).length 0 (some 4) = min 4 (zs.map V.int).length := HT.sIx_nat _ _ 4
          rw [List.length_take, List.length_drop, h1, h2, List.length_map]
          omega
      obtain ⟨ws, hws, wl3⟩ := pint
      refine ⟨.ref p, rfl, p, 3, zs, rfl, Same.lseq e5 hpB, fun z3 => ⟨(by show 1 ≤ sizeLine; decide), fun lz nlz => ?_⟩⟩
      have s1 := same_new (o := .lst [.int z3]) nlz
      have h1 := upd_same (H := H5) (a := lz) (o := .lst [.int z3])
      generalize upd H5 lz (.lst [.int z3]) = H6 at s1 h1
      refine ⟨.ref p, rfl, 4, rfl, 7, rfl, p, _, rfl, Same.lseq (e5.trans s1) hpB, fun ls nls => ?_⟩
      rw [hws]
      have s2 := same_new (o := .lst (ws.map V.int)) nls
      refine ⟨ls, _, rfl, .inl (.inl (.inl upd_same)), fun lt nlt => ?_⟩
      have s3 := s2.trans (same_new (o := .lst (ws.map V.int)) nlt)
      refine ⟨lz, lt, _, _, rfl, rfl, s3 _ _ h1, upd_same, by rw [List.length_map]; exact small (by simp; omega), fun lc9 nlc9 => ?_⟩
      have s4 := (s1.trans s3).trans (same_new (o := .lst ([.int z3] ++ ws.map V.int)) nlc9)
      have hcl := upd_same (H := upd (upd H6 ls (.lst (ws.map V.int))) lt (.lst (ws.map V.int))) (a := lc9) (o := .lst ([.int z3] ++ ws.map V.int))
      generalize upd (upd (upd H6 ls (.lst (ws.map V.int))) lt (.lst (ws.map V.int))) lc9 (.lst ([.int z3] ++ ws.map V.int)) = HC at s4 hcl
      have eC := e5.trans s4
      have hcm : ([V.int z3] ++ ws.map V.int) = (z3 :: ws).map V.int := rfl
      rw [hcm] at hcl
      have rlC := hrl.same s4
      have hlatC := s4 _ _ hlat5
      refine ⟨lc9, rfl, ⟨_, .inl (.inl hcl)⟩, ?_⟩
      refine for_it (walk_list (xs := (z3 :: ws).map V.int)) (fun j σ H' => ∃ v12 v13 v14 v15 v16 v17, σ = [some (.ref p), some (.ref pw), some (.ref nm), some (.ref da), some (.ref o), some (.ref dl), some (.ref dh), some (.ref lch), some (.ref lw), some (.ref lo), some (.int i), some (.ref l), v12, v13, v14, v15, v16, v17] ∧ Same HC H')
        ⟨_, _, _, _, _, _, rfl, fun _ _ e => e⟩ ?_ ?_ ?_
      · rintro j σ H' _ ⟨v12, v13, v14, v15, v16, v17, rfl, e⟩
        exact .inl (.inl (e _ _ hcl))
      · rintro j v σ _ H' hj ⟨v12, v13, v14, v15, v16, v17, rfl, e⟩ ⟨rfl, ev⟩
        obtain ⟨z, hz, rfl⟩ := get_map ev
        refine ⟨.int z, rfl, z, rfl, fun pp Hp npp ep hpp => ?_⟩
        have eP := e.trans ep
        have nmP := hnmB.same (eC.trans eP)
        have rlP := rlC.same eP
        refine ⟨.ref nm, rfl, .ref l, rfl, pp, nm, l, ns, rows, Dn, rfl, hpp, nmP, ok.le, rlP, rne, rlen, w3.d0, Dle, rb, fun l2 rows2 H7 k7 rl2 ro2 => ?_⟩
        have e7 : Same HC H7 := fun b u h => same_keep ep k7 npp b u (e b u h)
        have rl7 := rlC.same e7
        obtain ⟨ts2, hl2, pr2⟩ := id rl2
        refine ⟨.ref l2, rfl, .ref l, rfl, .ref l2, rfl, l2, ts2, rfl, .inl (.inl hl2), fun lt nlt => ⟨(by show 3 ≤ sizeLine; decide), fun lq nlq => ?_⟩⟩
        have s8 := same_new (o := .tup ts2) nlt
        have hlt8 := upd_same (H := H7) (a := lt) (o := .tup ts2)
        have s9 := s8.trans (same_new (o := .lst [.ref l2, .ref l, .ref lt]) nlq)
        have hlt9 := same_new (o := .lst [.ref l2, .ref l, .ref lt]) nlq _ _ hlt8
        have hq9 := upd_same (H := upd H7 lt (.tup ts2)) (a := lq) (o := .lst [.ref l2, .ref l, .ref lt])
        generalize upd (upd H7 lt (.tup ts2)) lq (.lst [.ref l2, .ref l, .ref lt]) = HQ at s9 hlt9 hq9
        have eQ := e7.trans s9
        have hTr : ∀ (k : Nat) (x : V), ([V.ref l2, V.ref l, V.ref lt] : List V)[k]? = some x → ∃ (t : Addr) (rws : List Row) (M : Nat), x = .ref t ∧ RowsAt a HQ t rws ∧ RowsOk rws M := fun k x h => by
          match k, h with
          | 0, h => injection h with h; exact ⟨l2, rows2, 10 * Dn, h.symm, ⟨ts2, .inl (s9 _ _ hl2), L2.Paired.mapP pr2 fun _ _ h => h.same s9⟩, ro2⟩
          | 1, h => injection h with h; exact ⟨l, rows, Dn, h.symm, let ⟨tz, a1, a2⟩ := rlC.same eQ; ⟨tz, .inl a1, a2⟩, ro⟩
          | 2, h => injection h with h; exact ⟨lt, rows2, 10 * Dn, h.symm, ⟨ts2, .inr hlt9, L2.Paired.mapP pr2 fun _ _ h => h.same s9⟩, ro2⟩
        refine ⟨lq, rfl, ⟨_, .inl (.inl hq9)⟩, ?_⟩
        refine for_it (walk_list (xs := [V.ref l2, V.ref l, V.ref lt])) (fun j σ H' => ∃ v14 v15 v16 v17, σ = [some (.ref p), some (.ref pw), some (.ref nm), some (.ref da), some (.ref o), some (.ref dl), some (.ref dh), some (.ref lch), some (.ref lw), some (.ref lo), some (.int i), some (.ref l), some (.int z), some (.ref l2), v14, v15, v16, v17] ∧ Same HQ H')
          ⟨_, _, _, _, rfl, fun _ _ e => e⟩ ?_ ?_ ?_
        · rintro k σ H' _ ⟨v14, v15, v16, v17, rfl, e⟩
          exact .inl (.inl (e _ _ hq9))
        · rintro k v σ _ H' hk ⟨v14, v15, v16, v17, rfl, eK⟩ ⟨rfl, ev⟩
          obtain ⟨t, rws, M, rfl, rt, rok⟩ := hTr k v ev
          have eBK := (eC.trans eQ).trans eK
          have rtK := rt.same eK
          refine ⟨.ref lo, rfl, .int i, rfl, lo, _, i, .ref (os i), rfl, rfl, .inl (.inl (eBK _ _ hlo)), hOi i i3, .ref lch, rfl, lch, _, 0, .ref c1, rfl, rfl, .inl (.inl (eBK _ _ hchB)), rfl, .ref lch, rfl, lch, _, 1, .ref c2, rfl, rfl, .inl (.inl (eBK _ _ hchB)), rfl, .ref t, rfl, ?_⟩
          refine ⟨os i, c1, c2, t, sns i, kl, kh, RR i, shr ns Wl, shr ns Wh, rws, M, rfl, ordi.same eBK, ch1B.same eBK, ch2B.same eBK, klsn, khsn, rtK, rok.len, rok.m0, rok.mm, fun r hr => (rok.ok r hr).frac, fun H11 e11 => ?_⟩
          refine ⟨_, rfl, .bl _, .ty "bool", .type "bool", .type "bool", true, rfl, .ty "bool", .base (.bl _), kit_ty (by decide +kernel), true, rfl, iteF ?_⟩
          have e12 := eBK.trans e11
          refine ⟨_, rfl, .ref lw, rfl, .int i, rfl, lw, _, i, .ref (Dd i), rfl, rfl, .inl (.inl (e12 _ _ hlwB)), hDi i i3, .ref dl, rfl, .ref dh, rfl, .ref t, rfl, Dd i, dl, dh, t, ns, RR i, Wl, Wh, rws, M, rfl, webi.same e12, e12 _ _ hwlB, e12 _ _ hwhB, okl, okh, rtK.same e11, rok, fun H13 e13 => ?_⟩
          refine ⟨rfl, _, rfl, ?_⟩
          rw [tableB_perm pmi, decide_eq_true rfl]
          refine iteF ?_
          exact ⟨_, _, _, _, rfl, (eK.trans e11).trans e13⟩
        · rintro σ H' ⟨v14, v15, v16, v17, rfl, eK⟩
          exact ⟨_, _, _, _, _, _, rfl, eQ.trans eK⟩
      · rintro σ H' ⟨v12, v13, v14, v15, v16, v17, rfl, e⟩
        obtain ⟨tz, hlz, prz⟩ := rlC.same e
        refine ⟨.ref l, rfl, .inl ⟨rfl, _, .inl (.inl hlz)⟩, l, tz, rfl, rfl, hlz, ?_⟩
        exact ⟨_, _, _, _, _, _, _, _, rfl, Same.mut (eC.trans e) nl, (upd_ne llat.symm).trans (e _ _ hlatC)⟩
    · rintro σ H' ⟨v10, v11, v12, v13, v14, v15, v16, v17, rfl, e, hlat⟩
      refine ⟨.ref o, rfl, .ref lch, rfl, lch, _, 0, .ref c1, rfl, rfl, .inl (.inl (e _ _ hchB)), rfl, .ref lch, rfl, lch, _, 1, .ref c2, rfl, rfl, .inl (.inl (e _ _ hchB)), rfl, Nat.zero_le _, fun le nle => ?_⟩
      have s1 := same_new (o := .lst []) nle
      have e1 := e.trans s1
      have w0 := wts 0 (by decide)
      refine ⟨o, c1, c2, le, sn0, kl, kh, R, shr ns Wl, shr ns Wh, [], 1, rfl, ordB.same e1, ch1B.same e1, ch2B.same e1, fun x hx => pm0.mem_iff.mpr (w0.klns x hx), fun x hx => pm0.mem_iff.mpr (w0.khns x hx), ⟨[], .inl upd_same, .nil⟩, Nat.zero_le _, by decide, by decide, (by intro r hr; cases hr), fun H2 e2 => ?_⟩
      have tf : tableB sn0 R (shr ns Wl) (shr ns Wh) [] = false := by
        obtain ⟨x, hx, hxp⟩ := sum_pos_ex wl0
        refine tableB_sum (pm0.mem_iff.mpr hx) fun h => ?_
        have h1 := h.1
        rw [show colF [] x = 0 from rfl, w0.loeq] at h1
        have h3 := fr_inj w0.d0 (h1.symm.trans (fr_zero Dn).symm)
        have h4 : Wts.lo ns Wl Wh x = Wl x * (ns.map Wh).sum := if_pos hx
        have h5 := Int.mul_pos hxp wh0
        omega
      rw [tf]
      exact ⟨_, _, rfl, rfl, q _⟩
end
end OT
end

section
set_option Elab.async false
set_option linter.all false
set_option maxRecDepth 100000
set_option maxHeartbeats 0
namespace OTH
open PySem PySem.W
theorem SaysB.fact {fb : List (Frag → Bool)} {fn : List He5.DefA} {K : Frag} (c : SaysB fb fn K) (i : Nat) {f : Frag → Bool} (h : fb[i]? = some f := by rfl) : f K = true := by
  have e := congrArg Prod.fst c
  have e2 : ((fb.all fun f => f K) && fn.all fun d => d.ok K) = true := e
  rw [Bool.and_eq_true, List.all_eq_true] at e2
  exact e2.1 f (List.mem_of_getElem? h)
theorem SaysB.def_ {fb : List (Frag → Bool)} {fn : List He5.DefA} {K : Frag} (c : SaysB fb fn K) (i : Nat) {d : He5.DefA} (h : fn[i]? = some d := by rfl) : ∃ fd, L2.FunD K d.name d.qual d.params d.body d.scope (d.dvs K) (d.kws K) (d.at_ K) fd := by
  have e := congrArg Prod.fst c
  have e2 : ((fb.all fun f => f K) && fn.all fun d => d.ok K) = true := e
  rw [Bool.and_eq_true, List.all_eq_true, List.all_eq_true] at e2
  have e3 : (fn.map fun d => He5.fnA K (d.at_ K)) = fn.map He5.DefA.val := congrArg Prod.snd c
  have e4 := congrArg (fun l : List He5.FnW => l[i]?) e3
  simp only [List.getElem?_map, h, Option.map_some, Option.some.injEq] at e4
  exact He5.DefA.funD e4 (e2.2 d (List.mem_of_getElem? h))
open L2 OT in
theorem facts {K : Frag} {h : Heap} {mg : Str → Option Value} (X : K.In h) (G : h.Ns mainGlobals mg) (c : SaysB fb fn K) : OT.Fx K mg ⟨He.ga K "Ratio", He.ga K "Order", He.ga K "Chance", He.ga K "Flow"⟩ where
  clR := He.cls_ok (x := "Ratio") (c.fact 0)
  r1 := He.noat_ok (x := "Ratio") (f := "top") (c.fact 12)
  r2 := He.noat_ok (x := "Ratio") (f := "bottom") (c.fact 13)
  sf := (c.fact 84)
  ne := He.eqO_ok (c.fact 85)
  ob := of_decide_eq_true (c.fact 86)
  mR := He.glo_ok X G (x := "Ratio") (c.fact 2)
  k1 := He.eqO_ok (c.fact 87)
  k2 := He.eqO_ok (c.fact 88)
  k3 := of_decide_eq_true (c.fact 89)
  clO := He.cls_ok (x := "Order") (c.fact 3)
  o1 := He.noat_ok (x := "Order") (f := "names") (c.fact 14)
  o2 := He.noat_ok (x := "Order") (f := "above") (c.fact 15)
  clC := He.cls_ok (x := "Chance") (c.fact 6)
  c1 := He.noat_ok (x := "Chance") (f := "shares") (c.fact 16)
  clF := He.cls_ok (x := "Flow") (c.fact 9)
  f1 := He.noat_ok (x := "Flow") (f := "order") (c.fact 17)
  f2 := He.noat_ok (x := "Flow") (f := "left") (c.fact 18)
  f3 := He.noat_ok (x := "Flow") (f := "room") (c.fact 19)
  f4 := He.noat_ok (x := "Flow") (f := "amounts") (c.fact 20)
  nLen := He.free_ok X G (x := "len") (c.fact 64)
  nList := He.free_ok X G (x := "list") (c.fact 65)
  nSorted := He.free_ok X G (x := "sorted") (c.fact 66)
  nAbs := He.free_ok X G (x := "abs") (c.fact 67)
  nBool := He.free_ok X G (x := "bool") (c.fact 68)
  nInt := He.free_ok X G (x := "int") (c.fact 69)
  nSum := He.free_ok X G (x := "sum") (c.fact 70)
  nAll := He.free_ok X G (x := "all") (c.fact 71)
  nAny := He.free_ok X G (x := "any") (c.fact 72)
  nRange := He.free_ok X G (x := "range") (c.fact 73)
  nTuple := He.free_ok X G (x := "tuple") (c.fact 74)
  nDict := He.free_ok X G (x := "dict") (c.fact 75)
  nSet := He.free_ok X G (x := "set") (c.fact 76)
  nEnum := He.free_ok X G (x := "enumerate") (c.fact 77)
  nIsi := He.free_ok X G (x := "isinstance") (c.fact 78)
  nIter := He.free_ok X G (x := "iter") (c.fact 79)
  mLet := He.str_ok X G (x := "LETTERS") (c.fact 80)
  mSig := He.str_ok X G (x := "SIGNS") (c.fact 81)
  mMost := He.int_ok X G (x := "MOST_NAMES") (c.fact 82)
  mMostL := He.int_ok X G (x := "MOST_LETTERS") (c.fact 83)
end OTH
end

section
set_option Elab.async false
set_option linter.all false
set_option maxRecDepth 100000
set_option maxHeartbeats 0
namespace OTH
open PySem PySem.W L2
section
variable {K : Frag} {h : Heap} {mg : Str → Option Value}
theorem d_common (X : K.In h) (G : h.Ns mainGlobals mg) (c : SaysB fb fn K) : OT.DF K mg "common" "common" "common" (OT.top 12) ["a", "b"] := by
  obtain ⟨fd, F⟩ := c.def_ 0 (d := dd (top 12) (fun K => He.ga K "common") "common" "common") rfl
  exact ⟨_, fd, He5.fun_of F, He.glo_ok X G (x := "common") (c.fact 36), FunD.bindsN F fun _ _ _ _ _ _ us hl => match us, hl with | [_, _], _ => rfl⟩
theorem d_total (X : K.In h) (G : h.Ns mainGlobals mg) (c : SaysB fb fn K) : OT.DF K mg "total" "total" "total" (OT.top 15) ["ratios"] := by
  obtain ⟨fd, F⟩ := c.def_ 1 (d := dd (top 15) (fun K => He.ga K "total") "total" "total") rfl
  exact ⟨_, fd, He5.fun_of F, He.glo_ok X G (x := "total") (c.fact 37), FunD.bindsN F fun _ _ _ _ _ _ us hl => match us, hl with | [_], _ => rfl⟩
theorem d_check_names_pairs (X : K.In h) (G : h.Ns mainGlobals mg) (c : SaysB fb fn K) : OT.DF K mg "check_names_pairs" "check_names" "check_names" (OT.top 17) ["order", "chances"] := by
  obtain ⟨fd, F⟩ := c.def_ 2 (d := dd (top 17) (fun K => He.ga K "check_names_pairs") "check_names" "check_names") rfl
  exact ⟨_, fd, He5.fun_of F, He.glo_ok X G (x := "check_names_pairs") (c.fact 38), FunD.bindsN F fun _ _ _ _ _ _ us hl => match us, hl with | [_, _], _ => rfl⟩
theorem d_pair_table (X : K.In h) (G : h.Ns mainGlobals mg) (c : SaysB fb fn K) : OT.DF K mg "pair_table" "pair_table" "pair_table" (OT.top 20) ["order", "low", "high"] := by
  obtain ⟨fd, F⟩ := c.def_ 3 (d := dd (top 20) (fun K => He.ga K "pair_table") "pair_table" "pair_table") rfl
  exact ⟨_, fd, He5.fun_of F, He.glo_ok X G (x := "pair_table") (c.fact 39), FunD.bindsN F fun _ _ _ _ _ _ us hl => match us, hl with | [_, _, _], _ => rfl⟩
theorem d_is_pair_table (X : K.In h) (G : h.Ns mainGlobals mg) (c : SaysB fb fn K) : OT.DF K mg "is_pair_table" "is_pair_table" "is_pair_table" (OT.top 21) ["order", "low", "high", "rows"] := by
  obtain ⟨fd, F⟩ := c.def_ 4 (d := dd (top 21) (fun K => He.ga K "is_pair_table") "is_pair_table" "is_pair_table") rfl
  exact ⟨_, fd, He5.fun_of F, He.glo_ok X G (x := "is_pair_table") (c.fact 40), FunD.bindsN F fun _ _ _ _ _ _ us hl => match us, hl with | [_, _, _, _], _ => rfl⟩
theorem d_is_name (X : K.In h) (G : h.Ns mainGlobals mg) (c : SaysB fb fn K) : OT.DF K mg "is_name" "is_name" "is_name" (OT.top 27) ["text"] := by
  obtain ⟨fd, F⟩ := c.def_ 5 (d := dd (top 27) (fun K => He.ga K "is_name") "is_name" "is_name") rfl
  exact ⟨_, fd, He5.fun_of F, He.glo_ok X G (x := "is_name") (c.fact 41), FunD.bindsN F fun _ _ _ _ _ _ us hl => match us, hl with | [_], _ => rfl⟩
theorem d_check_names_orders (X : K.In h) (G : h.Ns mainGlobals mg) (c : SaysB fb fn K) : OT.DF K mg "check_names_orders" "check_names" "check_names" (OT.top 29) ["names"] := by
  obtain ⟨fd, F⟩ := c.def_ 6 (d := dd (top 29) (fun K => He.ga K "check_names_orders") "check_names" "check_names") rfl
  exact ⟨_, fd, He5.fun_of F, He.glo_ok X G (x := "check_names_orders") (c.fact 42), FunD.bindsN F fun _ _ _ _ _ _ us hl => match us, hl with | [_], _ => rfl⟩
theorem d_check_pairs (X : K.In h) (G : h.Ns mainGlobals mg) (c : SaysB fb fn K) : OT.DF K mg "check_pairs" "check_pairs" "check_pairs" (OT.top 31) ["names", "pairs"] := by
  obtain ⟨fd, F⟩ := c.def_ 7 (d := dd (top 31) (fun K => He.ga K "check_pairs") "check_pairs" "check_pairs") rfl
  exact ⟨_, fd, He5.fun_of F, He.glo_ok X G (x := "check_pairs") (c.fact 43), FunD.bindsN F fun _ _ _ _ _ _ us hl => match us, hl with | [_, _], _ => rfl⟩
theorem d_closed (X : K.In h) (G : h.Ns mainGlobals mg) (c : SaysB fb fn K) : OT.DF K mg "closed" "closed" "closed" (OT.top 32) ["names", "pairs"] := by
  obtain ⟨fd, F⟩ := c.def_ 8 (d := dd (top 32) (fun K => He.ga K "closed") "closed" "closed") rfl
  exact ⟨_, fd, He5.fun_of F, He.glo_ok X G (x := "closed") (c.fact 44), FunD.bindsN F fun _ _ _ _ _ _ us hl => match us, hl with | [_, _], _ => rfl⟩
theorem d_law_pool (X : K.In h) (G : h.Ns mainGlobals mg) (c : SaysB fb fn K) : OT.DF K mg "_law_pool" "_law_pool" "_law_pool" (OT.top 43) ["_law_cell_here"] := by
  obtain ⟨fd, F⟩ := c.def_ 9 (d := dd (top 43) (fun K => He.ga K "_law_pool") "_law_pool" "_law_pool") rfl
  exact ⟨_, fd, He5.fun_of F, He.glo_ok X G (x := "_law_pool") (c.fact 45), FunD.bindsN F fun _ _ _ _ _ _ us hl => match us, hl with | [_], _ => rfl⟩
theorem d_law_take (X : K.In h) (G : h.Ns mainGlobals mg) (c : SaysB fb fn K) : OT.DF K mg "_law_take" "_law_take" "_law_take" (OT.top 44) ["_law_pool_here", "_law_limit"] := by
  obtain ⟨fd, F⟩ := c.def_ 10 (d := dd (top 44) (fun K => He.ga K "_law_take") "_law_take" "_law_take") rfl
  exact ⟨_, fd, He5.fun_of F, He.glo_ok X G (x := "_law_take") (c.fact 46), FunD.bindsN F fun _ _ _ _ _ _ us hl => match us, hl with | [_, _], _ => rfl⟩
theorem d_law_cell (X : K.In h) (G : h.Ns mainGlobals mg) (c : SaysB fb fn K) : OT.DF K mg "_law_cell" "_law_cell" "_law_cell" (OT.top 45) ["_law_script", "_law_k"] := by
  obtain ⟨fd, F⟩ := c.def_ 11 (d := dd (top 45) (fun K => He.ga K "_law_cell") "_law_cell" "_law_cell") rfl
  exact ⟨_, fd, He5.fun_of F, He.glo_ok X G (x := "_law_cell") (c.fact 47), FunD.bindsN F fun _ _ _ _ _ _ us hl => match us, hl with | [_, _], _ => rfl⟩
theorem d_law_names (X : K.In h) (G : h.Ns mainGlobals mg) (c : SaysB fb fn K) : OT.DF K mg "_law_names" "_law_names" "_law_names" (OT.top 46) ["_law_pool_here", "_law_many"] := by
  obtain ⟨fd, F⟩ := c.def_ 12 (d := dd (top 46) (fun K => He.ga K "_law_names") "_law_names" "_law_names") rfl
  exact ⟨_, fd, He5.fun_of F, He.glo_ok X G (x := "_law_names") (c.fact 48), FunD.bindsN F fun _ _ _ _ _ _ us hl => match us, hl with | [_, _], _ => rfl⟩
theorem d_law_pairs (X : K.In h) (G : h.Ns mainGlobals mg) (c : SaysB fb fn K) : OT.DF K mg "_law_pairs" "_law_pairs" "_law_pairs" (OT.top 47) ["_law_pool_here", "_law_names_here"] := by
  obtain ⟨fd, F⟩ := c.def_ 13 (d := dd (top 47) (fun K => He.ga K "_law_pairs") "_law_pairs" "_law_pairs") rfl
  exact ⟨_, fd, He5.fun_of F, He.glo_ok X G (x := "_law_pairs") (c.fact 49), FunD.bindsN F fun _ _ _ _ _ _ us hl => match us, hl with | [_, _], _ => rfl⟩
theorem d_law_above (X : K.In h) (G : h.Ns mainGlobals mg) (c : SaysB fb fn K) : OT.DF K mg "_law_above" "_law_above" "_law_above" (OT.top 48) ["_law_names_here", "_law_pairs_here"] := by
  obtain ⟨fd, F⟩ := c.def_ 14 (d := dd (top 48) (fun K => He.ga K "_law_above") "_law_above" "_law_above") rfl
  exact ⟨_, fd, He5.fun_of F, He.glo_ok X G (x := "_law_above") (c.fact 50), FunD.bindsN F fun _ _ _ _ _ _ us hl => match us, hl with | [_, _], _ => rfl⟩
theorem d_law_covers (X : K.In h) (G : h.Ns mainGlobals mg) (c : SaysB fb fn K) : OT.DF K mg "_law_covers" "_law_covers" "_law_covers" (OT.top 49) ["_law_names_here", "_law_above_here"] := by
  obtain ⟨fd, F⟩ := c.def_ 15 (d := dd (top 49) (fun K => He.ga K "_law_covers") "_law_covers" "_law_covers") rfl
  exact ⟨_, fd, He5.fun_of F, He.glo_ok X G (x := "_law_covers") (c.fact 51), FunD.bindsN F fun _ _ _ _ _ _ us hl => match us, hl with | [_, _], _ => rfl⟩
theorem d_law_weights (X : K.In h) (G : h.Ns mainGlobals mg) (c : SaysB fb fn K) : OT.DF K mg "_law_weights" "_law_weights" "_law_weights" (OT.top 50) ["_law_pool_here", "_law_names_here"] := by
  obtain ⟨fd, F⟩ := c.def_ 16 (d := dd (top 50) (fun K => He.ga K "_law_weights") "_law_weights" "_law_weights") rfl
  exact ⟨_, fd, He5.fun_of F, He.glo_ok X G (x := "_law_weights") (c.fact 52), FunD.bindsN F fun _ _ _ _ _ _ us hl => match us, hl with | [_, _], _ => rfl⟩
theorem d_law_raised (X : K.In h) (G : h.Ns mainGlobals mg) (c : SaysB fb fn K) : OT.DF K mg "_law_raised" "_law_raised" "_law_raised" (OT.top 51) ["_law_pool_here", "_law_weights_here", "_law_above_here"] := by
  obtain ⟨fd, F⟩ := c.def_ 17 (d := dd (top 51) (fun K => He.ga K "_law_raised") "_law_raised" "_law_raised") rfl
  exact ⟨_, fd, He5.fun_of F, He.glo_ok X G (x := "_law_raised") (c.fact 53), FunD.bindsN F fun _ _ _ _ _ _ us hl => match us, hl with | [_, _, _], _ => rfl⟩
theorem d_law_ups (X : K.In h) (G : h.Ns mainGlobals mg) (c : SaysB fb fn K) : OT.DF K mg "_law_ups" "_law_ups" "_law_ups" (OT.top 52) ["_law_names_here", "_law_above_here"] := by
  obtain ⟨fd, F⟩ := c.def_ 18 (d := dd (top 52) (fun K => He.ga K "_law_ups") "_law_ups" "_law_ups") rfl
  exact ⟨_, fd, He5.fun_of F, He.glo_ok X G (x := "_law_ups") (c.fact 54), FunD.bindsN F fun _ _ _ _ _ _ us hl => match us, hl with | [_, _], _ => rfl⟩
theorem d_law_mass (X : K.In h) (G : h.Ns mainGlobals mg) (c : SaysB fb fn K) : OT.DF K mg "_law_mass" "_law_mass" "_law_mass" (OT.top 53) ["_law_weights_here", "_law_row"] := by
  obtain ⟨fd, F⟩ := c.def_ 19 (d := dd (top 53) (fun K => He.ga K "_law_mass") "_law_mass" "_law_mass") rfl
  exact ⟨_, fd, He5.fun_of F, He.glo_ok X G (x := "_law_mass") (c.fact 55), FunD.bindsN F fun _ _ _ _ _ _ us hl => match us, hl with | [_, _], _ => rfl⟩
theorem d_law_barring (X : K.In h) (G : h.Ns mainGlobals mg) (c : SaysB fb fn K) : OT.DF K mg "_law_barring" "_law_barring" "_law_barring" (OT.top 54) ["_law_ups_here", "_law_low", "_law_high"] := by
  obtain ⟨fd, F⟩ := c.def_ 20 (d := dd (top 54) (fun K => He.ga K "_law_barring") "_law_barring" "_law_barring") rfl
  exact ⟨_, fd, He5.fun_of F, He.glo_ok X G (x := "_law_barring") (c.fact 56), FunD.bindsN F fun _ _ _ _ _ _ us hl => match us, hl with | [_, _, _], _ => rfl⟩
theorem d_law_sum (X : K.In h) (G : h.Ns mainGlobals mg) (c : SaysB fb fn K) : OT.DF K mg "_law_sum" "_law_sum" "_law_sum" (OT.top 55) ["_law_shares"] := by
  obtain ⟨fd, F⟩ := c.def_ 21 (d := dd (top 55) (fun K => He.ga K "_law_sum") "_law_sum" "_law_sum") rfl
  exact ⟨_, fd, He5.fun_of F, He.glo_ok X G (x := "_law_sum") (c.fact 57), FunD.bindsN F fun _ _ _ _ _ _ us hl => match us, hl with | [_], _ => rfl⟩
theorem d_law_adds (X : K.In h) (G : h.Ns mainGlobals mg) (c : SaysB fb fn K) : OT.DF K mg "_law_adds" "_law_adds" "_law_adds" (OT.top 56) ["_law_rows", "_law_place", "_law_weights_here"] := by
  obtain ⟨fd, F⟩ := c.def_ 22 (d := dd (top 56) (fun K => He.ga K "_law_adds") "_law_adds" "_law_adds") rfl
  exact ⟨_, fd, He5.fun_of F, He.glo_ok X G (x := "_law_adds") (c.fact 58), FunD.bindsN F fun _ _ _ _ _ _ us hl => match us, hl with | [_, _, _], _ => rfl⟩
theorem d_law_is_table (X : K.In h) (G : h.Ns mainGlobals mg) (c : SaysB fb fn K) : OT.DF K mg "_law_is_table" "_law_is_table" "_law_is_table" (OT.top 57) ["_law_above_here", "_law_low", "_law_high", "_law_rows"] := by
  obtain ⟨fd, F⟩ := c.def_ 23 (d := dd (top 57) (fun K => He.ga K "_law_is_table") "_law_is_table" "_law_is_table") rfl
  exact ⟨_, fd, He5.fun_of F, He.glo_ok X G (x := "_law_is_table") (c.fact 59), FunD.bindsN F fun _ _ _ _ _ _ us hl => match us, hl with | [_, _, _, _], _ => rfl⟩
theorem d_law_changed (X : K.In h) (G : h.Ns mainGlobals mg) (c : SaysB fb fn K) : OT.DF K mg "_law_changed" "_law_changed" "_law_changed" (OT.top 58) ["_law_pool_here", "_law_names_here", "_law_rows"] := by
  obtain ⟨fd, F⟩ := c.def_ 24 (d := dd (top 58) (fun K => He.ga K "_law_changed") "_law_changed" "_law_changed") rfl
  exact ⟨_, fd, He5.fun_of F, He.glo_ok X G (x := "_law_changed") (c.fact 60), FunD.bindsN F fun _ _ _ _ _ _ us hl => match us, hl with | [_, _, _], _ => rfl⟩
theorem d_law_webs (X : K.In h) (G : h.Ns mainGlobals mg) (c : SaysB fb fn K) : OT.DF K mg "_law_webs" "_law_webs" "_law_webs" (OT.top 59) ["_law_names_here", "_law_above_here"] := by
  obtain ⟨fd, F⟩ := c.def_ 25 (d := dd (top 59) (fun K => He.ga K "_law_webs") "_law_webs" "_law_webs") rfl
  exact ⟨_, fd, He5.fun_of F, He.glo_ok X G (x := "_law_webs") (c.fact 61), FunD.bindsN F fun _ _ _ _ _ _ us hl => match us, hl with | [_, _], _ => rfl⟩
theorem d_law_told_right (X : K.In h) (G : h.Ns mainGlobals mg) (c : SaysB fb fn K) : OT.DF K mg "_law_told_right" "_law_told_right" "_law_told_right" (OT.top 60) ["_law_above_here", "_law_low", "_law_high", "_law_told"] := by
  obtain ⟨fd, F⟩ := c.def_ 26 (d := dd (top 60) (fun K => He.ga K "_law_told_right") "_law_told_right" "_law_told_right") rfl
  exact ⟨_, fd, He5.fun_of F, He.glo_ok X G (x := "_law_told_right") (c.fact 62), FunD.bindsN F fun _ _ _ _ _ _ us hl => match us, hl with | [_, _, _, _], _ => rfl⟩
theorem d_law (X : K.In h) (G : h.Ns mainGlobals mg) (c : SaysB fb fn K) : OT.DF K mg "law" "law" "law" (OT.top 61) ["_law_script"] := by
  obtain ⟨fd, F⟩ := c.def_ 27 (d := dd (top 61) (fun K => He.ga K "law") "law" "law") rfl
  exact ⟨_, fd, He5.fun_of F, He.glo_ok X G (x := "law") (c.fact 63), FunD.bindsN F fun _ _ _ _ _ _ us hl => match us, hl with | [_], _ => rfl⟩
theorem m_Ratio_add (c : SaysB fb fn K) : OT.MF K (He.ga K "Ratio") "__add__" "Ratio.__add__" (inClass (OT.top 14) 3) ["self", "other"] := by
  obtain ⟨fd, F⟩ := c.def_ 28 (d := dd (L2.inClass (top 14) 3) (fun K => He.ma K (He.ga K "Ratio") "__add__") "__add__" "Ratio.__add__") rfl
  exact ⟨_, fd, He.cls_ok (x := "Ratio") (c.fact 0), He.meth_ok (x := "Ratio") (m := "__add__") (c.fact 21), He5.fun_of F, FunD.bindsN F fun _ _ _ _ _ _ us hl => match us, hl with | [_, _], _ => rfl⟩
theorem m_Ratio_sub (c : SaysB fb fn K) : OT.MF K (He.ga K "Ratio") "__sub__" "Ratio.__sub__" (inClass (OT.top 14) 4) ["self", "other"] := by
  obtain ⟨fd, F⟩ := c.def_ 29 (d := dd (L2.inClass (top 14) 4) (fun K => He.ma K (He.ga K "Ratio") "__sub__") "__sub__" "Ratio.__sub__") rfl
  exact ⟨_, fd, He.cls_ok (x := "Ratio") (c.fact 0), He.meth_ok (x := "Ratio") (m := "__sub__") (c.fact 22), He5.fun_of F, FunD.bindsN F fun _ _ _ _ _ _ us hl => match us, hl with | [_, _], _ => rfl⟩
theorem m_Ratio_mul (c : SaysB fb fn K) : OT.MF K (He.ga K "Ratio") "__mul__" "Ratio.__mul__" (inClass (OT.top 14) 6) ["self", "other"] := by
  obtain ⟨fd, F⟩ := c.def_ 30 (d := dd (L2.inClass (top 14) 6) (fun K => He.ma K (He.ga K "Ratio") "__mul__") "__mul__" "Ratio.__mul__") rfl
  exact ⟨_, fd, He.cls_ok (x := "Ratio") (c.fact 0), He.meth_ok (x := "Ratio") (m := "__mul__") (c.fact 23), He5.fun_of F, FunD.bindsN F fun _ _ _ _ _ _ us hl => match us, hl with | [_, _], _ => rfl⟩
theorem m_Ratio_eq (c : SaysB fb fn K) : OT.MF K (He.ga K "Ratio") "__eq__" "Ratio.__eq__" (inClass (OT.top 14) 7) ["self", "other"] := by
  obtain ⟨fd, F⟩ := c.def_ 31 (d := dd (L2.inClass (top 14) 7) (fun K => He.ma K (He.ga K "Ratio") "__eq__") "__eq__" "Ratio.__eq__") rfl
  exact ⟨_, fd, He.cls_ok (x := "Ratio") (c.fact 0), He.meth_ok (x := "Ratio") (m := "__eq__") (c.fact 24), He5.fun_of F, FunD.bindsN F fun _ _ _ _ _ _ us hl => match us, hl with | [_, _], _ => rfl⟩
theorem m_Ratio_bool (c : SaysB fb fn K) : OT.MF K (He.ga K "Ratio") "__bool__" "Ratio.__bool__" (inClass (OT.top 14) 8) ["self"] := by
  obtain ⟨fd, F⟩ := c.def_ 32 (d := dd (L2.inClass (top 14) 8) (fun K => He.ma K (He.ga K "Ratio") "__bool__") "__bool__" "Ratio.__bool__") rfl
  exact ⟨_, fd, He.cls_ok (x := "Ratio") (c.fact 0), He.meth_ok (x := "Ratio") (m := "__bool__") (c.fact 25), He5.fun_of F, FunD.bindsN F fun _ _ _ _ _ _ us hl => match us, hl with | [_], _ => rfl⟩
theorem m_Ratio_under (c : SaysB fb fn K) : OT.MF K (He.ga K "Ratio") "under" "Ratio.under" (inClass (OT.top 14) 11) ["self", "other"] := by
  obtain ⟨fd, F⟩ := c.def_ 33 (d := dd (L2.inClass (top 14) 11) (fun K => He.ma K (He.ga K "Ratio") "under") "under" "Ratio.under") rfl
  exact ⟨_, fd, He.cls_ok (x := "Ratio") (c.fact 0), He.meth_ok (x := "Ratio") (m := "under") (c.fact 26), He5.fun_of F, FunD.bindsN F fun _ _ _ _ _ _ us hl => match us, hl with | [_, _], _ => rfl⟩
theorem m_Order_contains (c : SaysB fb fn K) : OT.MF K (He.ga K "Order") "__contains__" "Order.__contains__" (inClass (OT.top 34) 4) ["self", "name"] := by
  obtain ⟨fd, F⟩ := c.def_ 34 (d := dd (L2.inClass (top 34) 4) (fun K => He.ma K (He.ga K "Order") "__contains__") "__contains__" "Order.__contains__") rfl
  exact ⟨_, fd, He.cls_ok (x := "Order") (c.fact 3), He.meth_ok (x := "Order") (m := "__contains__") (c.fact 27), He5.fun_of F, FunD.bindsN F fun _ _ _ _ _ _ us hl => match us, hl with | [_, _], _ => rfl⟩
theorem m_Order_iter (c : SaysB fb fn K) : OT.MF K (He.ga K "Order") "__iter__" "Order.__iter__" (inClass (OT.top 34) 5) ["self"] := by
  obtain ⟨fd, F⟩ := c.def_ 35 (d := dd (L2.inClass (top 34) 5) (fun K => He.ma K (He.ga K "Order") "__iter__") "__iter__" "Order.__iter__") rfl
  exact ⟨_, fd, He.cls_ok (x := "Order") (c.fact 3), He.meth_ok (x := "Order") (m := "__iter__") (c.fact 28), He5.fun_of F, FunD.bindsN F fun _ _ _ _ _ _ us hl => match us, hl with | [_], _ => rfl⟩
theorem m_Order_below (c : SaysB fb fn K) : OT.MF K (He.ga K "Order") "below" "Order.below" (inClass (OT.top 34) 9) ["self", "low", "high"] := by
  obtain ⟨fd, F⟩ := c.def_ 36 (d := dd (L2.inClass (top 34) 9) (fun K => He.ma K (He.ga K "Order") "below") "below" "Order.below") rfl
  exact ⟨_, fd, He.cls_ok (x := "Order") (c.fact 3), He.meth_ok (x := "Order") (m := "below") (c.fact 29), He5.fun_of F, FunD.bindsN F fun _ _ _ _ _ _ us hl => match us, hl with | [_, _, _], _ => rfl⟩
theorem m_Chance_len (c : SaysB fb fn K) : OT.MF K (He.ga K "Chance") "__len__" "Chance.__len__" (inClass (OT.top 40) 4) ["self"] := by
  obtain ⟨fd, F⟩ := c.def_ 37 (d := dd (L2.inClass (top 40) 4) (fun K => He.ma K (He.ga K "Chance") "__len__") "__len__" "Chance.__len__") rfl
  exact ⟨_, fd, He.cls_ok (x := "Chance") (c.fact 6), He.meth_ok (x := "Chance") (m := "__len__") (c.fact 30), He5.fun_of F, FunD.bindsN F fun _ _ _ _ _ _ us hl => match us, hl with | [_], _ => rfl⟩
theorem m_Chance_iter (c : SaysB fb fn K) : OT.MF K (He.ga K "Chance") "__iter__" "Chance.__iter__" (inClass (OT.top 40) 5) ["self"] := by
  obtain ⟨fd, F⟩ := c.def_ 38 (d := dd (L2.inClass (top 40) 5) (fun K => He.ma K (He.ga K "Chance") "__iter__") "__iter__" "Chance.__iter__") rfl
  exact ⟨_, fd, He.cls_ok (x := "Chance") (c.fact 6), He.meth_ok (x := "Chance") (m := "__iter__") (c.fact 31), He5.fun_of F, FunD.bindsN F fun _ _ _ _ _ _ us hl => match us, hl with | [_], _ => rfl⟩
theorem m_Chance_share (c : SaysB fb fn K) : OT.MF K (He.ga K "Chance") "share" "Chance.share" (inClass (OT.top 40) 9) ["self", "name"] := by
  obtain ⟨fd, F⟩ := c.def_ 39 (d := dd (L2.inClass (top 40) 9) (fun K => He.ma K (He.ga K "Chance") "share") "share" "Chance.share") rfl
  exact ⟨_, fd, He.cls_ok (x := "Chance") (c.fact 6), He.meth_ok (x := "Chance") (m := "share") (c.fact 32), He5.fun_of F, FunD.bindsN F fun _ _ _ _ _ _ us hl => match us, hl with | [_, _], _ => rfl⟩
theorem m_Flow_amount (c : SaysB fb fn K) : OT.MF K (He.ga K "Flow") "amount" "Flow.amount" (inClass (OT.top 19) 1) ["self", "first", "second"] := by
  obtain ⟨fd, F⟩ := c.def_ 40 (d := dd (L2.inClass (top 19) 1) (fun K => He.ma K (He.ga K "Flow") "amount") "amount" "Flow.amount") rfl
  exact ⟨_, fd, He.cls_ok (x := "Flow") (c.fact 9), He.meth_ok (x := "Flow") (m := "amount") (c.fact 33), He5.fun_of F, FunD.bindsN F fun _ _ _ _ _ _ us hl => match us, hl with | [_, _, _], _ => rfl⟩
theorem m_Flow_way (c : SaysB fb fn K) : OT.MF K (He.ga K "Flow") "way" "Flow.way" (inClass (OT.top 19) 2) ["self"] := by
  obtain ⟨fd, F⟩ := c.def_ 41 (d := dd (L2.inClass (top 19) 2) (fun K => He.ma K (He.ga K "Flow") "way") "way" "Flow.way") rfl
  exact ⟨_, fd, He.cls_ok (x := "Flow") (c.fact 9), He.meth_ok (x := "Flow") (m := "way") (c.fact 34), He5.fun_of F, FunD.bindsN F fun _ _ _ _ _ _ us hl => match us, hl with | [_], _ => rfl⟩
theorem m_Flow_send (c : SaysB fb fn K) : OT.MF K (He.ga K "Flow") "send" "Flow.send" (inClass (OT.top 19) 3) ["self", "names"] := by
  obtain ⟨fd, F⟩ := c.def_ 42 (d := dd (L2.inClass (top 19) 3) (fun K => He.ma K (He.ga K "Flow") "send") "send" "Flow.send") rfl
  exact ⟨_, fd, He.cls_ok (x := "Flow") (c.fact 9), He.meth_ok (x := "Flow") (m := "send") (c.fact 35), He5.fun_of F, FunD.bindsN F fun _ _ _ _ _ _ us hl => match us, hl with | [_, _], _ => rfl⟩
theorem i_Ratio (X : K.In h) (G : h.Ns mainGlobals mg) (c : SaysB fb fn K) : OT.IF K mg "Ratio" (He.ga K "Ratio") "Ratio.__init__" (inClass (OT.top 14) 0) ["self", "top", "bottom"] := by
  obtain ⟨fd, F⟩ := c.def_ 43 (d := dd (L2.inClass (top 14) 0) (fun K => He.ma K (He.ga K "Ratio") "__init__") "__init__" "Ratio.__init__") rfl
  exact ⟨_, fd, He.mkr_ok (x := "Ratio") (c.fact 1), He5.fun_of F, FunD.bindsN F (fun _ _ _ _ _ _ us hl => match us, hl with | [_, _, _], _ => rfl), He.glo_ok X G (x := "Ratio") (c.fact 2)⟩
theorem i_Order (X : K.In h) (G : h.Ns mainGlobals mg) (c : SaysB fb fn K) : OT.IF K mg "Order" (He.ga K "Order") "Order.__init__" (inClass (OT.top 34) 0) ["self", "names", "pairs"] := by
  obtain ⟨fd, F⟩ := c.def_ 44 (d := dd (L2.inClass (top 34) 0) (fun K => He.ma K (He.ga K "Order") "__init__") "__init__" "Order.__init__") rfl
  exact ⟨_, fd, He.mkr_ok (x := "Order") (c.fact 4), He5.fun_of F, FunD.bindsN F (fun _ _ _ _ _ _ us hl => match us, hl with | [_, _, _], _ => rfl), He.glo_ok X G (x := "Order") (c.fact 5)⟩
theorem i_Chance (X : K.In h) (G : h.Ns mainGlobals mg) (c : SaysB fb fn K) : OT.IF K mg "Chance" (He.ga K "Chance") "Chance.__init__" (inClass (OT.top 40) 0) ["self", "weights"] := by
  obtain ⟨fd, F⟩ := c.def_ 45 (d := dd (L2.inClass (top 40) 0) (fun K => He.ma K (He.ga K "Chance") "__init__") "__init__" "Chance.__init__") rfl
  exact ⟨_, fd, He.mkr_ok (x := "Chance") (c.fact 7), He5.fun_of F, FunD.bindsN F (fun _ _ _ _ _ _ us hl => match us, hl with | [_, _], _ => rfl), He.glo_ok X G (x := "Chance") (c.fact 8)⟩
theorem i_Flow (X : K.In h) (G : h.Ns mainGlobals mg) (c : SaysB fb fn K) : OT.IF K mg "Flow" (He.ga K "Flow") "Flow.__init__" (inClass (OT.top 19) 0) ["self", "order", "low", "high"] := by
  obtain ⟨fd, F⟩ := c.def_ 46 (d := dd (L2.inClass (top 19) 0) (fun K => He.ma K (He.ga K "Flow") "__init__") "__init__" "Flow.__init__") rfl
  exact ⟨_, fd, He.mkr_ok (x := "Flow") (c.fact 10), He5.fun_of F, FunD.bindsN F (fun _ _ _ _ _ _ us hl => match us, hl with | [_, _, _, _], _ => rfl), He.glo_ok X G (x := "Flow") (c.fact 11)⟩
theorem w_whole (c : SaysB fb fn K) (a : OT.Ads) (ha : a.R = He.ga K "Ratio") : OT.WF K a := by
  obtain ⟨fd, F⟩ := c.def_ 47 (d := dd (L2.inClass (top 14) 1) (fun K => He5.wf K (He.ga K "Ratio") "classmethod" "whole") "whole" "Ratio.whole") rfl
  refine ⟨.type "type", He.ma K (He.ga K "Ratio") "whole", _, fd, ?_, ?_, He5.fun_of F, FunD.bindsN F fun _ _ _ _ _ _ us hl => match us, hl with | [_, _], _ => rfl⟩
  · rw [ha]
    exact ⟨c.fact 91, He.eqO_ok (c.fact 92)⟩
  · rw [ha]
    exact He5.cmet_of (c.fact 90) (c.fact 93)
open OT in
theorem all_fns {P : Program} {w : World} {base : Heap} (X : K.In h) (G : h.Ns mainGlobals mg) (c : SaysB fb fn K) {f : Addr} {fd : FuncData} (Fl : Fun K "law" "law" OT.sLaw f fd) : FnOk P w K mg base CX0 9 f fd ["_law_script"] (OT.spLaw K) := by
  have T := facts X G c
  have Cm : C8.Cal P w K mg base 1 "common" OT.spCommon [] := OT.ok_common T (d_common X G c)
  have MR := OT.ok_RI (P := P) (w := w) (base := base) T Cm (i_Ratio X G c)
  have Ad := OT.ok_RAdd T MR (m_Ratio_add c)
  have Su := OT.ok_RSub T MR (m_Ratio_sub c)
  have Mu := OT.ok_RMul T MR (m_Ratio_mul c)
  have Eq := OT.ok_REq (P := P) (w := w) (base := base) T (m_Ratio_eq c)
  have Bo := OT.ok_RB (P := P) (w := w) (base := base) T (m_Ratio_bool c)
  have Un := OT.ok_RU (P := P) (w := w) (base := base) T (m_Ratio_under c)
  have Wh := OT.ok_RW T MR (w_whole c _ rfl)
  have To := OT.ok_Total T Wh Ad (d_total X G c)
  have Na := OT.ok_IsName (P := P) (w := w) (base := base) T (d_is_name X G c)
  have CO := OT.ok_CheckO T Na (d_check_names_orders X G c)
  have CP := OT.ok_CheckP (P := P) (w := w) (base := base) (d_check_pairs X G c)
  have Cl := OT.ok_Closed (P := P) (w := w) (base := base) T (d_closed X G c)
  have MO := OT.ok_OI T CO CP Cl (i_Order X G c)
  have Oc := OT.ok_OC (P := P) (w := w) (base := base) T (m_Order_contains c)
  have Ob := OT.ok_OB (P := P) (w := w) (base := base) T (m_Order_below c)
  have Oi := OT.ok_OIt (P := P) (w := w) (mg := mg) (base := base) T (m_Order_iter c)
  have MC := OT.ok_CI T Na MR (i_Chance X G c)
  have Ci := OT.ok_CIt (P := P) (w := w) (mg := mg) (base := base) T (m_Chance_iter c) (m_Chance_len c)
  have Sh := OT.ok_CS T Wh (m_Chance_share c)
  have MF := OT.ok_FI T Ci Sh (i_Flow X G c)
  have Am := OT.ok_FA T Wh (m_Flow_amount c)
  have Wy := OT.ok_FW T Am Ob Bo (m_Flow_way c)
  have Se := OT.ok_FS T Am Un Ad Su (m_Flow_send c)
  have CN := OT.ok_CheckPP T Ci Oc (d_check_names_pairs X G c)
  have PT := OT.ok_PT T CN To Bo MF Wy Se (d_pair_table X G c)
  have IP := OT.ok_IT T CN To Wh Un Eq Sh Oc Ob Oi (d_is_pair_table X G c)
  have Po := OT.ok_Pool (P := P) (w := w) (base := base) (d_law_pool X G c)
  have Tk := OT.ok_Take (P := P) (w := w) (base := base) T (d_law_take X G c)
  have Ce := OT.ok_Cell (P := P) (w := w) (base := base) T (d_law_cell X G c)
  have LN := OT.ok_Names T Tk (d_law_names X G c)
  have LP := OT.ok_Pairs T Tk (d_law_pairs X G c)
  have LA := OT.ok_Above (P := P) (w := w) (base := base) T (d_law_above X G c)
  have LC := OT.ok_Cov (P := P) (w := w) (base := base) T (d_law_covers X G c)
  have LW := OT.ok_Wt T Tk (d_law_weights X G c)
  have LR := OT.ok_Rz T Tk (d_law_raised X G c)
  have Ma := OT.ok_LMass (P := P) (w := w) (base := base) T (d_law_mass X G c)
  have Ls := OT.ok_LSum (P := P) (w := w) (base := base) T (d_law_sum X G c)
  have La := OT.ok_Adds T Ls (d_law_adds X G c)
  have Li := OT.ok_LIT T La (d_law_is_table X G c)
  have Lu := OT.ok_Ups (P := P) (w := w) (base := base) T (d_law_ups X G c)
  have Lb := OT.ok_Bar T Ma (d_law_barring X G c)
  have Lw := OT.ok_Webs (P := P) (w := w) (base := base) T (d_law_webs X G c)
  have Lt := OT.ok_TR T Lu Lb Li (d_law_told_right X G c)
  have Lg := OT.ok_Chg T Tk MR Ad Mu (d_law_changed X G c)
  exact OT.ok_Law T ⟨Po, Tk, Ce, LN, LP, LA, LC, LW, LR, Lw, Lt, Lg, Li, PT, IP, MO, MC, Sh⟩ Ci Fl
end
theorem law_of {P : Program} {w : World} {K : Frag} {h : Heap} {mg : Str → Option Value} {f : Addr} (X : K.In h) (G : h.Ns mainGlobals mg) (hfa : mg ("law" : Str) = some (.ref f)) (c : SaysB fb fn K) :
    ∃ fd : FuncData, (∀ (s : Shared) (v : Value), BindsTo s fd ⟨[v], []⟩ [("_law_script", v)]) ∧ ∀ base : Heap, K.In base → base.Ns mainGlobals mg → FnOk P w K mg base CX0 9 f fd ["_law_script"] (OT.spLaw K) := by
  obtain ⟨fd, F⟩ := c.def_ 27 (d := dd (top 61) (fun K => He.ga K "law") "law" "law") rfl
  have e := hfa.symm.trans (He.glo_ok X G (x := "law") (c.fact 63))
  cases e
  have b := FunD.bindsA (ps := ["_law_script"]) F fun _ _ _ _ _ _ us hl => match us, hl with | [_], _ => rfl
  exact ⟨fd, fun s v => b s [v] rfl, fun base _ _ => all_fns X G c (He5.fun_of F)⟩
end OTH
open PySem PySem.W PySem.Calls PyProof.Rows
theorem PySem.Challenge.cw_onethrow_k27_whole_pair_tables_holds : PySem.Challenge.rw_onethrow_k27_whole_pair_tables.Holds := by
  w_on; o_law
  refine HandSHeadRun.head_any (r := OpenLaw.row PySem.Challenge.rw_onethrow_k27_whole_pair_tables) (q := view (OpenLaw.row PySem.Challenge.rw_onethrow_k27_whole_pair_tables).prog [61]) (H := OTH.hk) (ob := OTH.ob) (M := 8000) (loose := OTH.names) (d := HandSHeadRun.topDef (OpenLaw.row PySem.Challenge.rw_onethrow_k27_whole_pair_tables).prog 61) (kwd := []) OTH.ob_eq
    (by kernel_rfl) (fun s => by kernel_rfl) OTH.run (by kernel_rfl) (by kernel_rfl) (by kernel_rfl) (by rfl) (by first | assumption | decide +kernel) (by decide +kernel) ⟨rfl, rfl, rfl, rfl, rfl, by decide +kernel⟩ ?hw ?hc
  case hw => w_witness2
  case hc =>
    refine L2.walk_ofE (l := PySem.Challenge.rw_onethrow_k27_whole_pair_tables) (n := 63) (k := 9) (x := "_law_script") (CX := L2.CX0) rfl (by decide) (by kernel_rfl) ⟨rfl, by decide, by decide⟩ ?F (fun _ _ _ _ z => z)
    intro w mg fa h Y G hmg0
    obtain ⟨K, KX, c⟩ := Y
    have hmg : mg ("law" : PySem.Str) = some (.ref fa) := by
      have e : (HandSHeadRun.topDef (OpenLaw.row PySem.Challenge.rw_onethrow_k27_whole_pair_tables).prog 61).name = ("law" : PySem.Str) := by kernel_rfl
      rw [← e]
      exact hmg0
    obtain ⟨fd, hb, hF⟩ := OTH.law_of (P := (PySem.Challenge.rw_onethrow_k27_whole_pair_tables).prog) (w := w) KX G hmg c
    exact ⟨K, fd, OT.spLaw K, KX, hb, fun H a ns hl _ hS => ⟨a, ns, rfl, hS, fun _ => rfl⟩, hF⟩
end
