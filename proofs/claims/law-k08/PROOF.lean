import PyProof.Rows.All
import Wide.All
import OpenK.AllK
import Wide.FinOn
import KE.KStateDown
import Lean
import HandS.Base
import HandS.Call
import HandS.Ends
import HandS.More
import HandS.Words
import HandS.WordsExc
import HandS.Defaults
import HandS.Property
import HandS.Head0
import HandS.Head1
import HandS.Head2
import HandS.HeadEnd
import HandS.HeadHook1
import HandS.HeadHook2
import PySem.Challenge.RW_loneseats_k08_whole_rules_and_worths_cro
import HandS.ForMost
import HandS.IsInst
import HandS.Flow
import HandS.Walk
import HandS.Dict
import HandS.Conv
import HandS.SetFor
import HandS.Strs
import HandS.SetIn
import HandS.SortInts
import HandS.DictComp
import HandS.MakeKwOnly
import HandS.MakeKw
import HandS.Small
import KE.GoesEnum
import HandS.Iter
import HandS.MapSum
import HandS.Deep
import HandS.Style
import HandS.SetKeys
import KE.KDictKeyed
import PyProof.ReprRoads
import PyProof.ReprBulk
import PyProof.P3Eq
set_option Elab.async false
set_option linter.all false
set_option maxRecDepth 100000
set_option maxHeartbeats 0 -- HookM
/-! a Hook whose part of the heap is laid out once, by continuations -/
namespace Ls
open PySem Spec PyProof.Rows L2
section
variable {β : Type}
def frcL : List Addr → (List Addr → β) → β
  | [], k => k []
  | a :: r, k => HandSHeadRun.frNat a fun a => frcL r fun l => k (a :: l)
theorem frcL_eq : ∀ (l : List Addr) (k : List Addr → β), frcL l k = k l
  | [], _ => rfl
  | a :: r, k => by
    show HandSHeadRun.frNat a _ = _
    rw [HandSHeadRun.frNat_eq, frcL_eq r]
def refsAt (g : Addr → Option Obj) (a : Addr) : List Addr := match g a with
  | some o => He.refsD o
  | none => []
/-- the lists of what is reached, level by level; acc: what is reached so far -/
def levels (g : Addr → Option Obj) : Nat → List Addr → List Addr → List Addr
  | 0, acc, _ => acc
  | n + 1, acc, l => levels g n (acc ++ l.flatMap (refsAt g)) (l.flatMap (refsAt g))
def levelsF (g : Addr → Option Obj) : Nat → List Addr → List Addr → (List Addr → β) → β
  | 0, acc, _, k => k acc
  | n + 1, acc, l, k => frcL (l.flatMap (refsAt g)) fun m => frcL (acc ++ m) fun acc => levelsF g n acc m k
theorem levelsF_eq (g : Addr → Option Obj) : ∀ (n : Nat) (acc l : List Addr) (k : List Addr → β), levelsF g n acc l k = k (levels g n acc l)
  | 0, _, _, _ => rfl
  | n + 1, acc, l, k => by
    show frcL _ _ = _
    rw [frcL_eq, frcL_eq, levelsF_eq g n]
    rfl
def mkF (g : Addr → Option Obj) : List Addr → (PySem.W.Frag → β) → β
  | [], k => k []
  | a :: r, k => match g a with
    | some o => mkF g r fun l => k ((a, o) :: l)
    | none => mkF g r k
theorem mkF_eq (g : Addr → Option Obj) : ∀ (as : List Addr) (k : PySem.W.Frag → β), mkF g as k = k (He.frG g as)
  | [], _ => rfl
  | a :: r, k => by
    unfold mkF He.frG
    rw [List.filterMap_cons]
    cases e : g a with
    | none => exact mkF_eq g r k
    | some o => exact mkF_eq g r fun l => k ((a, o) :: l)
end
/-! ### properties -/
/-- a property of the class named c, called f; its getter's text -/
structure PrD where
  c : Str
  f : Str
  d : He.DefD
def pAd (K : PySem.W.Frag) (q : PrD) : Addr := He.ma K (He.ga K q.c) q.f
def gAd (K : PySem.W.Frag) (q : PrD) : Addr := match PySem.W.recIn K (pAd K q) "property" with
  | some (.ref g :: _) => g
  | _ => 0
def isSome1 : Option (List Value) → Bool
  | some (.ref _ :: _) => true
  | _ => false
def prW (K : PySem.W.Frag) (q : PrD) : He.FnW := match K.lookup (gAd K q) with
  | some ⟨_, _, .func fd, _⟩ => some (fd.name, fd.qualname, fd.params, fd.body, fd.scope, fd.globals, fd.closure, fd.builtins)
  | _ => none
def PrD.ok (K : PySem.W.Frag) (q : PrD) : Bool := He.eqO (PySem.W.findIn K (.ref (He.ga K q.c)) q.f) (some (some (.ref (pAd K q)))) &&
  (decide (PySem.W.specialIn K (.ref (pAd K q)) "__get__" = some (some (.builtin "property.__get__"))) && (decide (PySem.W.takesIn K (.ref (pAd K q)) = some true) &&
  (isSome1 (PySem.W.recIn K (pAd K q) "property") && (match K.lookup (gAd K q) with
    | some ⟨_, _, .func fd, _⟩ => PySem.W.codeIn K fd.code q.d.qual && He.dflB K fd.defaults []
    | _ => false))))
theorem PrD.prop {K : PySem.W.Frag} {q : PrD} (c : q.ok K = true) : PropOf K (He.ga K q.c) q.f (pAd K q) (gAd K q) := by
  obtain ⟨h1, c⟩ := He.ba c
  obtain ⟨h2, c⟩ := He.ba c
  obtain ⟨h3, c⟩ := He.ba c
  obtain ⟨h4, _⟩ := He.ba c
  refine ⟨He.eqO_ok h1, of_decide_eq_true h2, of_decide_eq_true h3, ?_⟩
  unfold gAd
  cases e : PySem.W.recIn K (pAd K q) "property" with
  | none =>
    rw [e] at h4
    cases h4
  | some l =>
    rw [e] at h4
    cases l with
    | nil => cases h4
    | cons v r =>
      cases v with
      | ref g => exact ⟨r, rfl⟩
      | _ => cases h4
theorem PrD.fn {K : PySem.W.Frag} {q : PrD} (e : prW K q = q.d.val) (c : q.ok K = true) :
    ∃ oc od osl kV doc pm an cdv ct, K.lookup (gAd K q) = some ⟨oc, od, .func (PySem.W.fnOf q.d.name q.d.qual q.d.params q.d.body q.d.scope .none kV doc pm an cdv ct), osl⟩ ∧ PySem.W.codeIn K cdv q.d.qual = true := by
  obtain ⟨_, c⟩ := He.ba c
  obtain ⟨_, c⟩ := He.ba c
  obtain ⟨_, c⟩ := He.ba c
  obtain ⟨_, c2⟩ := He.ba c
  unfold prW at e
  cases z : K.lookup (gAd K q) with
  | none =>
    rw [z] at c2
    cases c2
  | some o =>
    obtain ⟨oc, od, dt, osl⟩ := o
    rw [z] at c2 e
    cases dt with
    | func fd =>
      obtain ⟨n1, n2, n3, n4, n5, n6, n7, n8, n9, n10, n11, n12, n13, n14, n15⟩ := fd
      have e2 : (some (n1, n2, n3, n4, n5, n6, n7, n15) : He.FnW) = some (q.d.name, q.d.qual, q.d.params, .stmts q.d.body, q.d.scope, mainGlobals, [], builtinsNs) := e
      simp only [Option.some.injEq, Prod.mk.injEq] at e2
      obtain ⟨h1, h2, h3, h4, h5, h6, h7, h8⟩ := e2
      subst h1 h2 h3 h4 h5 h6 h7 h8
      obtain ⟨c3, c4⟩ := He.ba c2
      have e3 : n8 = .none := by
        cases n8 with
        | none => rfl
        | _ => cases c4
      subst e3
      exact ⟨oc, od, osl, n9, n10, n11, n12, n13, n14, rfl, c3⟩
    | _ => cases c2
/-! ### the Hook -/
def obsK (fa : List He.Fa) (fn : List He.DefD) (pr : List PrD) (ex : PySem.W.Frag → Bool) (K : PySem.W.Frag) : He.AlD := ((He.obsD fa fn K).1 && (ex K && pr.all fun q => q.ok K), (He.obsD fa fn K).2 ++ pr.map fun q => prW K q)
def valK (fn : List He.DefD) (pr : List PrD) : He.AlD := (true, fn.map He.DefD.val ++ pr.map fun q => q.d.val)
def SaysM (fa : List He.Fa) (fn : List He.DefD) (pr : List PrD) (ex : PySem.W.Frag → Bool) (K : PySem.W.Frag) : Prop := obsK fa fn pr ex K = valK fn pr
def obsM (n : Nat) (fa : List He.Fa) (fn : List He.DefD) (pr : List PrD) (ex : PySem.W.Frag → Bool) (g : Addr → Option Obj) : He.AlD :=
  levelsF g n [mainGlobals] [mainGlobals] fun as => mkF g as fun K => obsK fa fn pr ex K
theorem obsM_is (n : Nat) (fa : List He.Fa) (fn : List He.DefD) (pr : List PrD) (ex : PySem.W.Frag → Bool) (g : Addr → Option Obj) : obsM n fa fn pr ex g = obsK fa fn pr ex (He.frG g (levels g n [mainGlobals] [mainGlobals])) := by
  unfold obsM
  rw [levelsF_eq, mkF_eq]
def hookM (n : Nat) (fa : List He.Fa) (fn : List He.DefD) (pr : List PrD) (ex : PySem.W.Frag → Bool) : PySem.W.Hook where
  α := He.AlD
  obs := fun s => obsM n fa fn pr ex s.heap.get?
  val := fun _ => valK fn pr
  says := fun _ h => ∃ K : PySem.W.Frag, K.In h ∧ SaysM fa fn pr ex K
  of := fun _ _ e => ⟨_, He.frG_in, (obsM_is _ _ _ _ _ _).symm.trans e⟩
  keeps := fun _ _ _ ⟨K, hK, c⟩ k => ⟨K, PySem.W.Frag.In.keeps hK k, c⟩
theorem obsM_eq {n : Nat} {fa : List He.Fa} {fn : List He.DefD} {pr : List PrD} {ex : PySem.W.Frag → Bool} {g : Addr → Option Obj} {s : Shared} (h : ∀ a, g a = s.heap.get? a) : obsM n fa fn pr ex g = (hookM n fa fn pr ex).obs s := by
  have e : g = s.heap.get? := funext h
  rw [e] <;> rfl
theorem SaysM.parts {fa : List He.Fa} {fn : List He.DefD} {pr : List PrD} {ex : PySem.W.Frag → Bool} {K : PySem.W.Frag} (c : SaysM fa fn pr ex K) :
    He.SaysD fa fn K ∧ ex K = true ∧ ∀ (i : Nat) (q : PrD), pr[i]? = some q → q.ok K = true ∧ prW K q = q.d.val := by
  have c1 : ((He.obsD fa fn K).1 && (ex K && pr.all fun q => q.ok K)) = true := congrArg (fun z : He.AlD => z.1) c
  have c2 : (He.obsD fa fn K).2 ++ (pr.map fun q => prW K q) = fn.map He.DefD.val ++ pr.map fun q => q.d.val := congrArg (fun z : He.AlD => z.2) c
  obtain ⟨h1, h2⟩ := He.ba c1
  obtain ⟨h2, h3⟩ := He.ba h2
  have hl : (He.obsD fa fn K).2.length = (fn.map He.DefD.val).length := by
    show (fn.map fun d => He.fnW K d.at_).length = _
    rw [List.length_map, List.length_map]
  obtain ⟨e1, e2⟩ := List.append_inj c2 hl
  refine ⟨Prod.ext h1 e1, h2, fun i q hq => ⟨List.all_eq_true.mp h3 q (List.mem_of_getElem? hq), ?_⟩⟩
  have e3 : (pr.map fun q => prW K q)[i]? = (pr.map fun q => q.d.val)[i]? := by rw [e2]
  rw [List.getElem?_map, List.getElem?_map, hq] at e3
  exact Option.some.inj e3
end Ls
set_option maxHeartbeats 0 -- Tx
namespace Ls
open PySem Spec PyProof.Rows L2
/-! the text by places -/
def top (i : Nat) : Stmt := PySem.Challenge.pw_loneseats_k08_whole_rules_and_worths_cro.main.body.getD i (.Pass ⟨0, 0, 0, 0⟩)
abbrev s_is_integer : Stmt := top 11
def d_is_integer : He.DefD := ⟨("is_integer", none), "is_integer", "is_integer", defArgs s_is_integer, defBody s_is_integer, defScope s_is_integer, [], []⟩
abbrev s_is_number : Stmt := top 12
def d_is_number : He.DefD := ⟨("is_number", none), "is_number", "is_number", defArgs s_is_number, defBody s_is_number, defScope s_is_number, [], []⟩
abbrev s_is_end : Stmt := top 13
def d_is_end : He.DefD := ⟨("is_end", none), "is_end", "is_end", defArgs s_is_end, defBody s_is_end, defScope s_is_end, [], []⟩
abbrev s_is_size : Stmt := top 14
def d_is_size : He.DefD := ⟨("is_size", none), "is_size", "is_size", defArgs s_is_size, defBody s_is_size, defScope s_is_size, [], []⟩
abbrev s_are_sizes : Stmt := top 15
def d_are_sizes : He.DefD := ⟨("are_sizes", none), "are_sizes", "are_sizes", defArgs s_are_sizes, defBody s_are_sizes, defScope s_are_sizes, [], []⟩
abbrev s_is_choice : Stmt := top 16
def d_is_choice : He.DefD := ⟨("is_choice", none), "is_choice", "is_choice", defArgs s_is_choice, defBody s_is_choice, defScope s_is_choice, [], []⟩
abbrev s_fits : Stmt := top 18
def d_fits : He.DefD := ⟨("fits", none), "fits", "fits", defArgs s_fits, defBody s_fits, defScope s_fits, [], []⟩
abbrev s_parts : Stmt := top 19
def d_parts : He.DefD := ⟨("parts", none), "parts", "parts", defArgs s_parts, defBody s_parts, defScope s_parts, [], []⟩
abbrev s_check_size : Stmt := top 21
def d_check_size : He.DefD := ⟨("check_size", none), "check_size", "check_size", defArgs s_check_size, defBody s_check_size, defScope s_check_size, [], []⟩
abbrev s_possible : Stmt := top 22
def d_possible : He.DefD := ⟨("possible", none), "possible", "possible", defArgs s_possible, defBody s_possible, defScope s_possible, [], []⟩
abbrev s_good_befores : Stmt := top 23
def d_good_befores : He.DefD := ⟨("good_befores", none), "good_befores", "good_befores", defArgs s_good_befores, defBody s_good_befores, defScope s_good_befores, [], []⟩
abbrev s_let : Stmt := top 24
def d_let : He.DefD := ⟨("let", none), "let", "let", defArgs s_let, defBody s_let, defScope s_let, [], []⟩
abbrev s_offered : Stmt := top 25
def d_offered : He.DefD := ⟨("offered", none), "offered", "offered", defArgs s_offered, defBody s_offered, defScope s_offered, [], []⟩
abbrev s_sales : Stmt := top 26
def d_sales : He.DefD := ⟨("sales", none), "sales", "sales", defArgs s_sales, defBody s_sales, defScope s_sales, [], []⟩
abbrev s_is_sold : Stmt := top 27
def d_is_sold : He.DefD := ⟨("is_sold", none), "is_sold", "is_sold", defArgs s_is_sold, defBody s_is_sold, defScope s_is_sold, [], []⟩
abbrev s_refuses : Stmt := top 28
def d_refuses : He.DefD := ⟨("refuses", none), "refuses", "refuses", defArgs s_refuses, defBody s_refuses, defScope s_refuses, [], []⟩
abbrev s_is_stuck : Stmt := top 29
def d_is_stuck : He.DefD := ⟨("is_stuck", none), "is_stuck", "is_stuck", defArgs s_is_stuck, defBody s_is_stuck, defScope s_is_stuck, [], []⟩
abbrev s_is_price : Stmt := top 32
def d_is_price : He.DefD := ⟨("is_price", none), "is_price", "is_price", defArgs s_is_price, defBody s_is_price, defScope s_is_price, [], []⟩
abbrev s_are_prices : Stmt := top 33
def d_are_prices : He.DefD := ⟨("are_prices", none), "are_prices", "are_prices", defArgs s_are_prices, defBody s_are_prices, defScope s_are_prices, [], []⟩
abbrev s_Worth_init : Stmt := inClass (top 34) 0
def d_Worth_init : He.DefD := ⟨("Worth", some "__init__"), "__init__", "Worth.__init__", defArgs s_Worth_init, defBody s_Worth_init, defScope s_Worth_init, [.non, .int 0], [("until", .int 0)]⟩
abbrev s_Worth_price : Stmt := inClass (top 34) 4
def d_Worth_price : He.DefD := ⟨("Worth", some "price"), "price", "Worth.price", defArgs s_Worth_price, defBody s_Worth_price, defScope s_Worth_price, [], []⟩
abbrev s_Worth_total : Stmt := inClass (top 34) 5
def d_Worth_total : He.DefD := ⟨("Worth", some "total"), "total", "Worth.total", defArgs s_Worth_total, defBody s_Worth_total, defScope s_Worth_total, [], []⟩
abbrev s_need_until : Stmt := top 35
def d_need_until : He.DefD := ⟨("need_until", none), "need_until", "need_until", defArgs s_need_until, defBody s_need_until, defScope s_need_until, [], []⟩
abbrev s_may_end : Stmt := top 36
def d_may_end : He.DefD := ⟨("may_end", none), "may_end", "may_end", defArgs s_may_end, defBody s_may_end, defScope s_may_end, [], []⟩
abbrev s_Tables_init : Stmt := inClass (top 39) 0
def d_Tables_init : He.DefD := ⟨("Tables", some "__init__"), "__init__", "Tables.__init__", defArgs s_Tables_init, defBody s_Tables_init, defScope s_Tables_init, [], []⟩
abbrev s_Tables_chosen : Stmt := inClass (top 39) 1
def d_Tables_chosen : He.DefD := ⟨("Tables", some "chosen"), "chosen", "Tables.chosen", defArgs s_Tables_chosen, defBody s_Tables_chosen, defScope s_Tables_chosen, [], []⟩
abbrev s_Tables_row : Stmt := inClass (top 39) 2
def d_Tables_row : He.DefD := ⟨("Tables", some "row"), "row", "Tables.row", defArgs s_Tables_row, defBody s_Tables_row, defScope s_Tables_row, [], []⟩
abbrev s_Tables_ways : Stmt := inClass (top 39) 3
def d_Tables_ways : He.DefD := ⟨("Tables", some "ways"), "ways", "Tables.ways", defArgs s_Tables_ways, defBody s_Tables_ways, defScope s_Tables_ways, [], []⟩
abbrev s_Tables_best : Stmt := inClass (top 39) 4
def d_Tables_best : He.DefD := ⟨("Tables", some "best"), "best", "Tables.best", defArgs s_Tables_best, defBody s_Tables_best, defScope s_Tables_best, [], []⟩
abbrev s_Tables_best_sale : Stmt := inClass (top 39) 5
def d_Tables_best_sale : He.DefD := ⟨("Tables", some "best_sale"), "best_sale", "Tables.best_sale", defArgs s_Tables_best_sale, defBody s_Tables_best_sale, defScope s_Tables_best_sale, [], []⟩
abbrev s_greatest : Stmt := top 40
def d_greatest : He.DefD := ⟨("greatest", none), "greatest", "greatest", defArgs s_greatest, defBody s_greatest, defScope s_greatest, [], []⟩
abbrev s_least : Stmt := top 41
def d_least : He.DefD := ⟨("least", none), "least", "least", defArgs s_least, defBody s_least, defScope s_least, [], []⟩
abbrev s_table : Stmt := top 42
def d_table : He.DefD := ⟨("table", none), "table", "table", defArgs s_table, defBody s_table, defScope s_table, [], [("is_least", .bl false)]⟩
abbrev s_totals_of : Stmt := top 43
def d_totals_of : He.DefD := ⟨("totals_of", none), "totals_of", "totals_of", defArgs s_totals_of, defBody s_totals_of, defScope s_totals_of, [], []⟩
abbrev s_all_totals : Stmt := top 44
def d_all_totals : He.DefD := ⟨("all_totals", none), "all_totals", "all_totals", defArgs s_all_totals, defBody s_all_totals, defScope s_all_totals, [], []⟩
abbrev s_play_for : Stmt := top 45
def d_play_for : He.DefD := ⟨("play_for", none), "play_for", "play_for", defArgs s_play_for, defBody s_play_for, defScope s_play_for, [], [("is_least", .bl false)]⟩
abbrev s_left_behind : Stmt := top 46
def d_left_behind : He.DefD := ⟨("left_behind", none), "left_behind", "left_behind", defArgs s_left_behind, defBody s_left_behind, defScope s_left_behind, [], []⟩
abbrev s_behind_sale : Stmt := top 47
def d_behind_sale : He.DefD := ⟨("behind_sale", none), "behind_sale", "behind_sale", defArgs s_behind_sale, defBody s_behind_sale, defScope s_behind_sale, [], []⟩
abbrev s_total_of : Stmt := top 48
def d_total_of : He.DefD := ⟨("total_of", none), "total_of", "total_of", defArgs s_total_of, defBody s_total_of, defScope s_total_of, [], []⟩
abbrev s_is_row : Stmt := top 53
def d_is_row : He.DefD := ⟨("is_row", none), "is_row", "is_row", defArgs s_is_row, defBody s_is_row, defScope s_is_row, [], []⟩
abbrev s_are_rows : Stmt := top 54
def d_are_rows : He.DefD := ⟨("are_rows", none), "are_rows", "are_rows", defArgs s_are_rows, defBody s_are_rows, defScope s_are_rows, [], []⟩
abbrev s_row_stretches : Stmt := top 55
def d_row_stretches : He.DefD := ⟨("row_stretches", none), "row_stretches", "row_stretches", defArgs s_row_stretches, defBody s_row_stretches, defScope s_row_stretches, [], []⟩
abbrev s_Plan_init : Stmt := inClass (top 56) 0
def d_Plan_init : He.DefD := ⟨("Plan", some "__init__"), "__init__", "Plan.__init__", defArgs s_Plan_init, defBody s_Plan_init, defScope s_Plan_init, [], []⟩
abbrev s_Plan_stretches : Stmt := inClass (top 56) 2
def d_Plan_stretches : He.DefD := ⟨("Plan", some "stretches"), "stretches", "Plan.stretches", defArgs s_Plan_stretches, defBody s_Plan_stretches, defScope s_Plan_stretches, [], []⟩
abbrev s_are_bad : Stmt := top 60
def d_are_bad : He.DefD := ⟨("are_bad", none), "are_bad", "are_bad", defArgs s_are_bad, defBody s_are_bad, defScope s_are_bad, [], []⟩
abbrev s_is_offer : Stmt := top 61
def d_is_offer : He.DefD := ⟨("is_offer", none), "is_offer", "is_offer", defArgs s_is_offer, defBody s_is_offer, defScope s_is_offer, [], []⟩
abbrev s_first_wrong : Stmt := top 62
def d_first_wrong : He.DefD := ⟨("first_wrong", none), "first_wrong", "first_wrong", defArgs s_first_wrong, defBody s_first_wrong, defScope s_first_wrong, [], []⟩
abbrev s_Rule_init : Stmt := inClass (top 63) 0
def d_Rule_init : He.DefD := ⟨("Rule", some "__init__"), "__init__", "Rule.__init__", defArgs s_Rule_init, defBody s_Rule_init, defScope s_Rule_init, [.non], [("soft", .bl false), ("where", .str "any"), ("offer", .int 0)]⟩
abbrev s_Rule_bad_at : Stmt := inClass (top 63) 5
def d_Rule_bad_at : He.DefD := ⟨("Rule", some "bad_at"), "bad_at", "Rule.bad_at", defArgs s_Rule_bad_at, defBody s_Rule_bad_at, defScope s_Rule_bad_at, [], []⟩
abbrev s_sum_of : Stmt := top 65
def d_sum_of : He.DefD := ⟨("sum_of", none), "sum_of", "sum_of", defArgs s_sum_of, defBody s_sum_of, defScope s_sum_of, [], []⟩
abbrev s_greatest_in : Stmt := top 66
def d_greatest_in : He.DefD := ⟨("greatest_in", none), "greatest_in", "greatest_in", defArgs s_greatest_in, defBody s_greatest_in, defScope s_greatest_in, [], []⟩
abbrev s_least_in : Stmt := top 67
def d_least_in : He.DefD := ⟨("least_in", none), "least_in", "least_in", defArgs s_least_in, defBody s_least_in, defScope s_least_in, [], []⟩
abbrev s_plan_play : Stmt := top 68
def d_plan_play : He.DefD := ⟨("plan_play", none), "plan_play", "plan_play", defArgs s_plan_play, defBody s_plan_play, defScope s_plan_play, [], [("is_least", .bl false)]⟩
abbrev s__law_bag : Stmt := top 70
def d__law_bag : He.DefD := ⟨("_law_bag", none), "_law_bag", "_law_bag", defArgs s__law_bag, defBody s__law_bag, defScope s__law_bag, [], []⟩
abbrev s__law_take : Stmt := top 71
def d__law_take : He.DefD := ⟨("_law_take", none), "_law_take", "_law_take", defArgs s__law_take, defBody s__law_take, defScope s__law_take, [], []⟩
abbrev s__law_alike : Stmt := top 72
def d__law_alike : He.DefD := ⟨("_law_alike", none), "_law_alike", "_law_alike", defArgs s__law_alike, defBody s__law_alike, defScope s__law_alike, [], []⟩
abbrev s__law_mixed : Stmt := top 73
def d__law_mixed : He.DefD := ⟨("_law_mixed", none), "_law_mixed", "_law_mixed", defArgs s__law_mixed, defBody s__law_mixed, defScope s__law_mixed, [], []⟩
abbrev s__law_one : Stmt := top 74
def d__law_one : He.DefD := ⟨("_law_one", none), "_law_one", "_law_one", defArgs s__law_one, defBody s__law_one, defScope s__law_one, [], []⟩
abbrev s__law_ends : Stmt := top 75
def d__law_ends : He.DefD := ⟨("_law_ends", none), "_law_ends", "_law_ends", defArgs s__law_ends, defBody s__law_ends, defScope s__law_ends, [], []⟩
abbrev s__law_end : Stmt := top 76
def d__law_end : He.DefD := ⟨("_law_end", none), "_law_end", "_law_end", defArgs s__law_end, defBody s__law_end, defScope s__law_end, [], []⟩
abbrev s__law_lengths : Stmt := top 77
def d__law_lengths : He.DefD := ⟨("_law_lengths", none), "_law_lengths", "_law_lengths", defArgs s__law_lengths, defBody s__law_lengths, defScope s__law_lengths, [], []⟩
abbrev s__law_sizes : Stmt := top 78
def d__law_sizes : He.DefD := ⟨("_law_sizes", none), "_law_sizes", "_law_sizes", defArgs s__law_sizes, defBody s__law_sizes, defScope s__law_sizes, [], []⟩
abbrev s__law_rule : Stmt := top 79
def d__law_rule : He.DefD := ⟨("_law_rule", none), "_law_rule", "_law_rule", defArgs s__law_rule, defBody s__law_rule, defScope s__law_rule, [], []⟩
abbrev s__law_made : Stmt := top 80
def d__law_made : He.DefD := ⟨("_law_made", none), "_law_made", "_law_made", defArgs s__law_made, defBody s__law_made, defScope s__law_made, [], []⟩
abbrev s__law_stretch : Stmt := top 81
def d__law_stretch : He.DefD := ⟨("_law_stretch", none), "_law_stretch", "_law_stretch", defArgs s__law_stretch, defBody s__law_stretch, defScope s__law_stretch, [], []⟩
abbrev s__law_befores : Stmt := top 82
def d__law_befores : He.DefD := ⟨("_law_befores", none), "_law_befores", "_law_befores", defArgs s__law_befores, defBody s__law_befores, defScope s__law_befores, [], []⟩
abbrev s__law_spoils : Stmt := top 83
def d__law_spoils : He.DefD := ⟨("_law_spoils", none), "_law_spoils", "_law_spoils", defArgs s__law_spoils, defBody s__law_spoils, defScope s__law_spoils, [], []⟩
abbrev s__law_offers : Stmt := top 84
def d__law_offers : He.DefD := ⟨("_law_offers", none), "_law_offers", "_law_offers", defArgs s__law_offers, defBody s__law_offers, defScope s__law_offers, [], []⟩
abbrev s__law_all_sales : Stmt := top 85
def d__law_all_sales : He.DefD := ⟨("_law_all_sales", none), "_law_all_sales", "_law_all_sales", defArgs s__law_all_sales, defBody s__law_all_sales, defScope s__law_all_sales, [], []⟩
abbrev s__law_parted : Stmt := top 86
def d__law_parted : He.DefD := ⟨("_law_parted", none), "_law_parted", "_law_parted", defArgs s__law_parted, defBody s__law_parted, defScope s__law_parted, [], []⟩
abbrev s__law_worth : Stmt := top 87
def d__law_worth : He.DefD := ⟨("_law_worth", none), "_law_worth", "_law_worth", defArgs s__law_worth, defBody s__law_worth, defScope s__law_worth, [], []⟩
abbrev s__law_worth_made : Stmt := top 88
def d__law_worth_made : He.DefD := ⟨("_law_worth_made", none), "_law_worth_made", "_law_worth_made", defArgs s__law_worth_made, defBody s__law_worth_made, defScope s__law_worth_made, [], []⟩
abbrev s__law_price : Stmt := top 89
def d__law_price : He.DefD := ⟨("_law_price", none), "_law_price", "_law_price", defArgs s__law_price, defBody s__law_price, defScope s__law_price, [], []⟩
abbrev s__law_may_end : Stmt := top 90
def d__law_may_end : He.DefD := ⟨("_law_may_end", none), "_law_may_end", "_law_may_end", defArgs s__law_may_end, defBody s__law_may_end, defScope s__law_may_end, [], []⟩
abbrev s__law_best : Stmt := top 91
def d__law_best : He.DefD := ⟨("_law_best", none), "_law_best", "_law_best", defArgs s__law_best, defBody s__law_best, defScope s__law_best, [], []⟩
abbrev s__law_tables : Stmt := top 92
def d__law_tables : He.DefD := ⟨("_law_tables", none), "_law_tables", "_law_tables", defArgs s__law_tables, defBody s__law_tables, defScope s__law_tables, [], []⟩
abbrev s__law_led : Stmt := top 93
def d__law_led : He.DefD := ⟨("_law_led", none), "_law_led", "_law_led", defArgs s__law_led, defBody s__law_led, defScope s__law_led, [], []⟩
abbrev s__law_walked : Stmt := top 94
def d__law_walked : He.DefD := ⟨("_law_walked", none), "_law_walked", "_law_walked", defArgs s__law_walked, defBody s__law_walked, defScope s__law_walked, [], []⟩
abbrev s__law_all_end : Stmt := top 95
def d__law_all_end : He.DefD := ⟨("_law_all_end", none), "_law_all_end", "_law_all_end", defArgs s__law_all_end, defBody s__law_all_end, defScope s__law_all_end, [], []⟩
abbrev s__law_total : Stmt := top 96
def d__law_total : He.DefD := ⟨("_law_total", none), "_law_total", "_law_total", defArgs s__law_total, defBody s__law_total, defScope s__law_total, [], []⟩
abbrev s__law_sales_in : Stmt := top 97
def d__law_sales_in : He.DefD := ⟨("_law_sales_in", none), "_law_sales_in", "_law_sales_in", defArgs s__law_sales_in, defBody s__law_sales_in, defScope s__law_sales_in, [], []⟩
abbrev s__law_drawn_play : Stmt := top 98
def d__law_drawn_play : He.DefD := ⟨("_law_drawn_play", none), "_law_drawn_play", "_law_drawn_play", defArgs s__law_drawn_play, defBody s__law_drawn_play, defScope s__law_drawn_play, [], []⟩
abbrev s__law_stretches : Stmt := top 99
def d__law_stretches : He.DefD := ⟨("_law_stretches", none), "_law_stretches", "_law_stretches", defArgs s__law_stretches, defBody s__law_stretches, defScope s__law_stretches, [], []⟩
abbrev s__law_all_totals : Stmt := top 100
def d__law_all_totals : He.DefD := ⟨("_law_all_totals", none), "_law_all_totals", "_law_all_totals", defArgs s__law_all_totals, defBody s__law_all_totals, defScope s__law_all_totals, [], []⟩
abbrev s__law_stretch_right : Stmt := top 101
def d__law_stretch_right : He.DefD := ⟨("_law_stretch_right", none), "_law_stretch_right", "_law_stretch_right", defArgs s__law_stretch_right, defBody s__law_stretch_right, defScope s__law_stretch_right, [], []⟩
abbrev s__law_plan_right : Stmt := top 102
def d__law_plan_right : He.DefD := ⟨("_law_plan_right", none), "_law_plan_right", "_law_plan_right", defArgs s__law_plan_right, defBody s__law_plan_right, defScope s__law_plan_right, [], []⟩
abbrev s_law : Stmt := top 103
def d_law : He.DefD := ⟨("law", none), "law", "law", defArgs s_law, defBody s_law, defScope s_law, [], []⟩
abbrev s_Worth_free : Stmt := inClass (top 34) 1
def d_Worth_free : PrD := ⟨"Worth", "free", ⟨("Worth", some "free"), "free", "Worth.free", defArgs s_Worth_free, defBody s_Worth_free, defScope s_Worth_free, [], []⟩⟩
abbrev s_Worth_until : Stmt := inClass (top 34) 2
def d_Worth_until : PrD := ⟨"Worth", "until", ⟨("Worth", some "until"), "until", "Worth.until", defArgs s_Worth_until, defBody s_Worth_until, defScope s_Worth_until, [], []⟩⟩
abbrev s_Rule_sizes : Stmt := inClass (top 63) 1
def d_Rule_sizes : PrD := ⟨"Rule", "sizes", ⟨("Rule", some "sizes"), "sizes", "Rule.sizes", defArgs s_Rule_sizes, defBody s_Rule_sizes, defScope s_Rule_sizes, [], []⟩⟩
abbrev s_Rule_soft : Stmt := inClass (top 63) 2
def d_Rule_soft : PrD := ⟨"Rule", "soft", ⟨("Rule", some "soft"), "soft", "Rule.soft", defArgs s_Rule_soft, defBody s_Rule_soft, defScope s_Rule_soft, [], []⟩⟩
abbrev s_Rule_where : Stmt := inClass (top 63) 3
def d_Rule_where : PrD := ⟨"Rule", "where", ⟨("Rule", some "where"), "where", "Rule.where", defArgs s_Rule_where, defBody s_Rule_where, defScope s_Rule_where, [], []⟩⟩
abbrev s_Rule_offer : Stmt := inClass (top 63) 4
def d_Rule_offer : PrD := ⟨"Rule", "offer", ⟨("Rule", some "offer"), "offer", "Rule.offer", defArgs s_Rule_offer, defBody s_Rule_offer, defScope s_Rule_offer, [], []⟩⟩
def fn : List He.DefD := [d_is_integer, d_is_number, d_is_end, d_is_size, d_are_sizes, d_is_choice, d_fits, d_parts, d_check_size, d_possible, d_good_befores, d_let, d_offered, d_sales, d_is_sold, d_refuses, d_is_stuck, d_is_price, d_are_prices, d_Worth_init, d_Worth_price, d_Worth_total, d_need_until, d_may_end, d_Tables_init, d_Tables_chosen, d_Tables_row, d_Tables_ways, d_Tables_best, d_Tables_best_sale, d_greatest, d_least, d_table, d_totals_of, d_all_totals, d_play_for, d_left_behind, d_behind_sale, d_total_of, d_is_row, d_are_rows, d_row_stretches, d_Plan_init, d_Plan_stretches, d_are_bad, d_is_offer, d_first_wrong, d_Rule_init, d_Rule_bad_at, d_sum_of, d_greatest_in, d_least_in, d_plan_play, d__law_bag, d__law_take, d__law_alike, d__law_mixed, d__law_one, d__law_ends, d__law_end, d__law_lengths, d__law_sizes, d__law_rule, d__law_made, d__law_stretch, d__law_befores, d__law_spoils, d__law_offers, d__law_all_sales, d__law_parted, d__law_worth, d__law_worth_made, d__law_price, d__law_may_end, d__law_best, d__law_tables, d__law_led, d__law_walked, d__law_all_end, d__law_total, d__law_sales_in, d__law_drawn_play, d__law_stretches, d__law_all_totals, d__law_stretch_right, d__law_plan_right, d_law]
def pr : List PrD := [d_Worth_free, d_Worth_until, d_Rule_sizes, d_Rule_soft, d_Rule_where, d_Rule_offer]
def fa : List He.Fa := [.glo "is_integer", .glo "is_number", .glo "is_end", .glo "is_size", .glo "are_sizes", .glo "is_choice", .glo "fits", .glo "parts", .glo "check_size", .glo "possible", .glo "good_befores", .glo "let", .glo "offered", .glo "sales", .glo "is_sold", .glo "refuses", .glo "is_stuck", .glo "is_price", .glo "are_prices", .glo "need_until", .glo "may_end", .glo "greatest", .glo "least", .glo "table", .glo "totals_of", .glo "all_totals", .glo "play_for", .glo "left_behind", .glo "behind_sale", .glo "total_of", .glo "is_row", .glo "are_rows", .glo "row_stretches", .glo "are_bad", .glo "is_offer", .glo "first_wrong", .glo "sum_of", .glo "greatest_in", .glo "least_in", .glo "plan_play", .glo "_law_bag", .glo "_law_take", .glo "_law_alike", .glo "_law_mixed", .glo "_law_one", .glo "_law_ends", .glo "_law_end", .glo "_law_lengths", .glo "_law_sizes", .glo "_law_rule", .glo "_law_made", .glo "_law_stretch", .glo "_law_befores", .glo "_law_spoils", .glo "_law_offers", .glo "_law_all_sales", .glo "_law_parted", .glo "_law_worth", .glo "_law_worth_made", .glo "_law_price", .glo "_law_may_end", .glo "_law_best", .glo "_law_tables", .glo "_law_led", .glo "_law_walked", .glo "_law_all_end", .glo "_law_total", .glo "_law_sales_in", .glo "_law_drawn_play", .glo "_law_stretches", .glo "_law_all_totals", .glo "_law_stretch_right", .glo "_law_plan_right", .glo "law", .glo "Worth", .cls "Worth", .mkr "Worth", .glo "Tables", .cls "Tables", .mkr "Tables", .glo "Plan", .cls "Plan", .mkr "Plan", .glo "Rule", .cls "Rule", .mkr "Rule", .meth "Worth" "price", .meth "Worth" "total", .meth "Tables" "chosen", .meth "Tables" "row", .meth "Tables" "ways", .meth "Tables" "best", .meth "Tables" "best_sale", .meth "Plan" "stretches", .meth "Rule" "bad_at", .noat "Worth" "its_prices", .noat "Worth" "its_free", .noat "Worth" "its_until", .noat "Tables" "its_rule", .noat "Tables" "its_worth", .noat "Tables" "its_least", .noat "Tables" "its_rows", .noat "Plan" "its_rows", .noat "Plan" "its_seats", .noat "Rule" "its_sizes", .noat "Rule" "its_bad", .noat "Rule" "its_soft", .noat "Rule" "its_where", .noat "Rule" "its_offer", .free "isinstance", .free "all", .free "list", .free "tuple", .free "dict", .free "int", .free "str", .free "bool", .free "len", .free "sorted", .free "range", .free "set", .free "min", .free "max", .free "sum", .free "enumerate", .free "abs", .free "repr", .int "MOST_SIZE" 5, .int "MOST_PRICE" 9, .int "MOST_ROWS" 5, .int "MOST_PARTS" 5, .int "MOST_SEATS" 60, .int "MOST_OFFER" 5, .str "SOLD" "sold", .glo "ENDS", .glo "PLACES"]
def ex (K : PySem.W.Frag) : Bool := He.tupB K "ENDS" [.str "pillar", .str "sold", .str "wall"] && He.tupB K "PLACES" [.str "any", .str "side"]
end Ls
set_option maxHeartbeats 4000000 -- Lo
/-! A layer of types over the hand layer: B, the part of the heap that is laid for good; types speak of B alone. -/
namespace Ls
open PySem Spec PyProof.Rows L2
/-! ### types -/
structure Ty where
  p : Hp → V → Prop
  mono : ∀ {B B' : Hp} {v : V}, Same B B' → p B v → p B' v
inductive Tys (B : Hp) : List Ty → List V → Prop
  | nil : Tys B [] []
  | cons {t : Ty} {v : V} {ts : List Ty} {vs : List V} : t.p B v → Tys B ts vs → Tys B (t :: ts) (v :: vs)
theorem Tys.mono {B B' : Hp} (h : Same B B') : ∀ {ts : List Ty} {vs : List V}, Tys B ts vs → Tys B' ts vs
  | _, _, .nil => .nil
  | _, _, .cons (t := t) a r => .cons (t.mono h a) (r.mono h)
theorem Tys.length {B : Hp} : ∀ {ts : List Ty} {vs : List V}, Tys B ts vs → vs.length = ts.length
  | _, _, .nil => rfl
  | _, _, .cons _ r => congrArg Nat.succ r.length
theorem Tys.get {B : Hp} : ∀ {ts : List Ty} {vs : List V} {i : Nat} {t : Ty}, Tys B ts vs → ts[i]? = some t → ∃ v, vs[i]? = some v ∧ t.p B v
  | _, _, _, _, .nil, e => by simp at e
  | _, _, 0, _, .cons a r, e => by
    simp at e
    subst e
    exact ⟨_, rfl, a⟩
  | _, _, i + 1, _, .cons a r, e => by
    obtain ⟨v, h1, h2⟩ := r.get (i := i) (by simpa using e)
    exact ⟨v, by simpa using h1, h2⟩
theorem Tys.getV {B : Hp} : ∀ {ts : List Ty} {vs : List V} {i : Nat} {v : V}, Tys B ts vs → vs[i]? = some v → ∃ t, ts[i]? = some t ∧ t.p B v
  | _, _, _, _, .nil, e => by simp at e
  | _, _, 0, _, .cons a r, e => by
    simp at e
    subst e
    exact ⟨_, rfl, a⟩
  | _, _, i + 1, _, .cons a r, e => by
    obtain ⟨t, h1, h2⟩ := r.getV (i := i) (by simpa using e)
    exact ⟨t, by simpa using h1, h2⟩
theorem Tys.append {B : Hp} : ∀ {ts us : List Ty} {vs ws : List V}, Tys B ts vs → Tys B us ws → Tys B (ts ++ us) (vs ++ ws)
  | _, _, _, _, .nil, s => s
  | _, _, _, _, .cons a r, s => .cons a (r.append s)
theorem Tys.take {B : Hp} : ∀ {ts : List Ty} {vs : List V} (n : Nat), Tys B ts vs → Tys B (ts.take n) (vs.take n)
  | _, _, 0, _ => .nil
  | _, _, _ + 1, .nil => .nil
  | _, _, n + 1, .cons a r => .cons a (r.take n)
theorem Tys.drop {B : Hp} : ∀ {ts : List Ty} {vs : List V} (n : Nat), Tys B ts vs → Tys B (ts.drop n) (vs.drop n)
  | _, _, 0, r => r
  | _, _, _ + 1, .nil => .nil
  | _, _, n + 1, .cons _ r => r.drop n
theorem Tys.one {B : Hp} {t : Ty} {v : V} (h : t.p B v) : Tys B [t] [v] := .cons h .nil
def tV (x : V) : Ty := ⟨fun _ v => v = x, fun _ h => h⟩
abbrev tI (i : Int) : Ty := tV (.int i)
abbrev tB (b : Bool) : Ty := tV (.bl b)
abbrev tS (s : Str) : Ty := tV (.str s)
abbrev tNone : Ty := tV .non
/-- a list, a tuple of such -/
def tL (ts : List Ty) : Ty := ⟨fun B v => ∃ a vs, v = .ref a ∧ B a = some (.lst vs) ∧ Tys B ts vs, fun h ⟨a, vs, e, b, r⟩ => ⟨a, vs, e, h _ _ b, r.mono h⟩⟩
def tT (ts : List Ty) : Ty := ⟨fun B v => ∃ a vs, v = .ref a ∧ B a = some (.tup vs) ∧ Tys B ts vs, fun h ⟨a, vs, e, b, r⟩ => ⟨a, vs, e, h _ _ b, r.mono h⟩⟩
/-- anything -/
def tAny : Ty := ⟨fun _ _ => True, fun _ h => h⟩
abbrev Ctx := List (Option Ty)
def SOk (Γ : Ctx) (B : Hp) (σ : L2.St) : Prop := σ.length = Γ.length ∧ ∀ (i : Nat) (t : Ty), Γ[i]? = some (some t) → ∃ v, σ[i]? = some (some v) ∧ t.p B v
theorem SOk.mono {Γ : Ctx} {B B' : Hp} {σ : L2.St} (h : Same B B') (s : SOk Γ B σ) : SOk Γ B' σ := ⟨s.1, fun i t e => let ⟨v, a, b⟩ := s.2 i t e; ⟨v, a, t.mono h b⟩⟩
theorem SOk.set {Γ : Ctx} {B : Hp} {σ : L2.St} {v : V} {t : Ty} (s : SOk Γ B σ) (i : Nat) (h : t.p B v) : SOk (Γ.set i (some t)) B (σ.set i (some v)) := by
  refine ⟨by rw [List.length_set, List.length_set]; exact s.1, fun j u e => ?_⟩
  by_cases hj : i = j
  · subst hj
    rw [List.getElem?_set] at e ⊢
    by_cases hl : i < Γ.length
    · rw [if_pos rfl, if_pos hl] at e
      cases e
      rw [if_pos rfl, if_pos (by rw [s.1]; exact hl)]
      exact ⟨v, rfl, h⟩
    · rw [if_pos rfl, if_neg hl] at e
      cases e
  · rw [List.getElem?_set_ne hj] at e ⊢
    exact s.2 j u e
/-- less known -/
theorem SOk.weak {Γ Γ' : Ctx} {B : Hp} {σ : L2.St} (s : SOk Γ B σ) (hl : Γ'.length = Γ.length) (h : ∀ (i : Nat) (t : Ty), Γ'[i]? = some (some t) → Γ[i]? = some (some t)) : SOk Γ' B σ :=
  ⟨s.1.trans hl.symm, fun i t e => s.2 i t (h i t e)⟩
/-- slots forgotten -/
def wipeC (Γ : Ctx) : List Nat → Ctx
  | [] => Γ
  | v :: vs => (wipeC Γ vs).set v none
theorem SOk.wipe {Γ : Ctx} {B : Hp} {σ : L2.St} (s : SOk Γ B σ) : ∀ vs : List Nat, SOk (wipeC Γ vs) B (L2.wipe σ vs)
  | [] => s
  | v :: vs => by
    have r := s.wipe vs
    refine ⟨by unfold wipeC L2.wipe; rw [List.length_set, List.length_set]; exact r.1, fun j u e => ?_⟩
    unfold wipeC at e
    unfold L2.wipe
    by_cases hj : v = j
    · subst hj
      rw [List.getElem?_set] at e
      by_cases hl : v < (wipeC Γ vs).length
      · rw [if_pos rfl, if_pos hl] at e
        cases e
      · rw [if_pos rfl, if_neg hl] at e
        cases e
    · rw [List.getElem?_set_ne hj] at e ⊢
      exact r.2 j u e
/-- a dict that is laid for good: it is locked -/
def Lk (B : Hp) (d : Addr) (u : HO) : Prop := ∃ od, B d = some (.frz od u)
theorem Lk.mono {B B' : Hp} {d : Addr} {u : HO} (h : Same B B') : Lk B d u → Lk B' d u := fun ⟨od, e⟩ => ⟨od, h _ _ e⟩
theorem Lk.rd {B H : Hp} {d : Addr} {u : HO} (h : Same B H) : Lk B d u → Rd H d u := fun ⟨od, e⟩ => .inr ⟨od, h _ _ e⟩
/-! ### what may change all the while: a part of the heap of which something is known at any time -/
class Iv where
  F : Hp → Addr → Prop
  I : Hp → Hp → Prop
  al : ∀ {B H : Hp} {a : Addr}, I B H → F H a → B a = none ∧ ∃ o, H a = some o
  st : ∀ {B H B' H' : Hp}, I B H → Same B B' → Same B' H' → (∀ a, F H a → H' a = H a) → (∀ a, F H a → B' a = none) → I B' H'
  fs : ∀ {B H H' : Hp}, I B H → (∀ a, F H a → H' a = H a) → ∀ a, F H' a → F H a
variable [J : Iv]
structure Sm (B H : Hp) : Prop where
  s : Same B H
  i : Iv.I B H
instance smFun {B H : Hp} : CoeFun (Sm B H) (fun _ => ∀ a o, B a = some o → H a = some o) := ⟨fun h => h.s⟩
instance smCoe {B H : Hp} : CoeOut (Sm B H) (Same B H) := ⟨fun h => h.s⟩
theorem Sm.free {B H : Hp} {p : Addr} (h : Sm B H) (e : H p = none) : B p = none := Same.free h.s e
theorem Sm.nf {B H : Hp} {p : Addr} (h : Sm B H) (e : H p = none) : ¬ Iv.F H p := fun z => by
  obtain ⟨_, o, q⟩ := Iv.al h.i z
  rw [e] at q
  cases q
/-- writing what is not of the invariant keeps what is -/
theorem nfu {B H : Hp} {l a : Addr} {o : HO} (bh : Sm B H) (hn : ¬ Iv.F H l) (h : ¬ Iv.F H a) : ¬ Iv.F (upd H l o) a := fun z => h (Iv.fs bh.i (fun x hx => upd_ne fun (e : x = l) => hn (by rw [← e]; exact hx)) a z)
/-! ### what a step may do: B the part laid for good, H the heap, F what it may write beside -/
structure Nw (F : Addr → Prop) (B H B' H' : Hp) : Prop where
  bb : Same B B'
  bh : Sm B' H'
  hh : ∀ a o, ¬ F a → ¬ Iv.F H a → H a = some o → H' a = some o
  nf : ∀ a o, ¬ Iv.F H a → H a = some o → ¬ Iv.F H' a
  th : ∀ a o, H a = some o → ∃ o', H' a = some o'
  fr : ∀ a o, B a = none → H a = some o → B' a = none
def nF : Addr → Prop := fun _ => False
section
variable {F G : Addr → Prop} {B H B1 H1 B2 H2 : Hp} {a l p : Addr} {o o' : HO}
theorem Nw.refl (h : Sm B H) : Nw F B H B H := ⟨Same.refl B, h, fun _ _ _ _ e => e, fun _ _ m _ => m, fun _ o e => ⟨o, e⟩, fun _ _ n _ => n⟩
theorem Nw.trans (a : Nw F B H B1 H1) (b : Nw F B1 H1 B2 H2) : Nw F B H B2 H2 :=
  ⟨a.bb.trans b.bb, b.bh, fun x o n m e => b.hh x o n (a.nf x o m e) (a.hh x o n m e), fun x o m e => let ⟨_, e1⟩ := a.th x o e; b.nf x _ (a.nf x o m e) e1, fun x o e => let ⟨_, e1⟩ := a.th x o e; b.th x _ e1, fun x o n e => let ⟨_, e1⟩ := a.th x o e; b.fr x _ (a.fr x o n e) e1⟩
theorem Nw.weak (a : Nw F B H B1 H1) (h : ∀ x, F x → G x) : Nw G B H B1 H1 := ⟨a.bb, a.bh, fun x o n m e => a.hh x o (fun z => n (h x z)) m e, a.nf, a.th, a.fr⟩
theorem Nw.any (a : Nw nF B H B1 H1) : Nw F B H B1 H1 := a.weak fun _ z => z.elim
theorem Nw.keep (a : Nw nF B H B1 H1) (x : Addr) (o : HO) (m : ¬ Iv.F H x) (e : H x = some o) : H1 x = some o := a.hh x o (fun z => z) m e
theorem Nw.fresh (a : Nw F B H B1 H1) (h : H1 p = none) : H p = none := by
  cases q : H p with
  | none => rfl
  | some o =>
    obtain ⟨o', e⟩ := a.th p o q
    rw [h] at e
    cases e
/-- a new object, laid for good -/
theorem Nw.lay (h : Sm B H) (hp : H p = none) : Nw F B H (upd B p o) (upd H p o) := by
  have hb : B p = none := h.free hp
  have hn := h.nf hp
  have s1 : Same B (upd B p o) := fun x u e => by
    rw [upd_ne (ne_of_none e hb)]
    exact e
  have s2 : Same (upd B p o) (upd H p o) := fun x u e => by
    by_cases hx : x = p
    · subst hx
      rw [upd_same] at e ⊢
      exact e
    · rw [upd_ne hx] at e ⊢
      exact h.s x u e
  have hk : ∀ x, Iv.F H x → upd H p o x = H x := fun x hx => upd_ne fun (e : x = p) => hn (by rw [← e]; exact hx)
  refine ⟨s1, ⟨s2, Iv.st h.i s1 s2 hk fun x hx => ?_⟩, fun x u _ _ e => ?_, fun x u m e z => m (Iv.fs h.i hk x z), fun x u e => ?_, fun x u n e => ?_⟩
  · rw [upd_ne (fun e : x = p => hn (by rw [← e]; exact hx))]
    exact (Iv.al h.i hx).1
  · rw [upd_ne (ne_of_none e hp)]; exact e
  · exact ⟨u, by rw [upd_ne (ne_of_none e hp)]; exact e⟩
  · rw [upd_ne (ne_of_none e hp)]; exact n
/-- a new object that may change -/
theorem Nw.new (h : Sm B H) (hp : H p = none) : Nw F B H B (upd H p o) := by
  have hn := h.nf hp
  have s2 : Same B (upd H p o) := fun x u e => by
    rw [upd_ne (ne_of_none (h.s x u e) hp)]
    exact h.s x u e
  have hk : ∀ x, Iv.F H x → upd H p o x = H x := fun x hx => upd_ne fun (e : x = p) => hn (by rw [← e]; exact hx)
  refine ⟨Same.refl B, ⟨s2, Iv.st h.i (Same.refl B) s2 hk fun x hx => (Iv.al h.i hx).1⟩, fun x u _ _ e => ?_, fun x u m e z => m (Iv.fs h.i hk x z), fun x u e => ?_, fun x u n e => n⟩
  · rw [upd_ne (ne_of_none e hp)]; exact e
  · exact ⟨u, by rw [upd_ne (ne_of_none e hp)]; exact e⟩
/-- a write, told from the entry -/
theorem Nw.write (w : Nw F B H B1 H1) (hb : B1 l = none) (hl : F l ∨ H l = none) (hn : ¬ Iv.F H1 l) : Nw F B H B1 (upd H1 l o) := by
  have s2 : Same B1 (upd H1 l o) := fun x u e => by
    rw [upd_ne (ne_of_none e hb)]
    exact w.bh.s x u e
  have hk : ∀ x, Iv.F H1 x → upd H1 l o x = H1 x := fun x hx => upd_ne fun (e : x = l) => hn (by rw [← e]; exact hx)
  refine ⟨w.bb, ⟨s2, Iv.st w.bh.i (Same.refl B1) s2 hk fun x hx => (Iv.al w.bh.i hx).1⟩, fun x u n m e => ?_, fun x u m e z => w.nf x u m e (Iv.fs w.bh.i hk x z), fun x u e => ?_, w.fr⟩
  · have hx : x ≠ l := fun z => by
      subst z
      rcases hl with z | z
      · exact n z
      · rw [z] at e; cases e
    rw [upd_ne hx]; exact w.hh x u n m e
  · by_cases hx : x = l
    · exact ⟨o, by rw [hx, upd_same]⟩
    · obtain ⟨u', e'⟩ := w.th x u e
      exact ⟨u', by rw [upd_ne hx]; exact e'⟩
/-- what was made since the entry is laid for good -/
theorem Nw.freeze (w : Nw F B H B1 H1) (hb : B1 l = none) (h1 : H1 l = some o) (h0 : H l = none) (hn : ¬ Iv.F H1 l) : Nw F B H (upd B1 l o) H1 := by
  have s1 : Same B1 (upd B1 l o) := fun x u e => by
    rw [upd_ne (ne_of_none e hb)]
    exact e
  have s2 : Same (upd B1 l o) H1 := fun x u e => by
    by_cases hx : x = l
    · subst hx
      rw [upd_same] at e
      rw [h1]
      exact e
    · rw [upd_ne hx] at e
      exact w.bh.s x u e
  refine ⟨w.bb.trans s1, ⟨s2, Iv.st w.bh.i s1 s2 (fun _ _ => rfl) fun x hx => ?_⟩, w.hh, w.nf, w.th, fun x u n e => ?_⟩
  · rw [upd_ne (fun e : x = l => hn (by rw [← e]; exact hx))]
    exact (Iv.al w.bh.i hx).1
  · rw [upd_ne (ne_of_none e h0)]; exact w.fr x u n e
/-- another invariant -/
theorem Nw.iv {J1 : Iv} {F : Addr → Prop} {B H B' H' : Hp} (n : @Nw J F B H B' H') (i : J1.I B' H') (h : ∀ a, J.F H a → J1.F H a ∨ F a ∨ H a = none) (hf : ∀ a o, ¬ J1.F H a → H a = some o → ¬ J1.F H' a) : @Nw J1 F B H B' H' :=
  @Nw.mk J1 F B H B' H' (@Nw.bb J F B H B' H' n) (@Sm.mk J1 B' H' (@Sm.s J B' H' (@Nw.bh J F B H B' H' n)) i) (fun a o nf ni e => @Nw.hh J F B H B' H' n a o nf (fun z => by
    rcases h a z with q | q | q
    · exact ni q
    · exact nf q
    · rw [e] at q
      cases q) e) hf (@Nw.th J F B H B' H' n) (@Nw.fr J F B H B' H' n)
end
/-! ### expressions, tests, arguments by their syntax -/
section
variable (X : Cx)
def RE (e : Expr) (σ : L2.St) (H : Hp) (Q : VK) : Prop := ∃ te, PE X e te ∧ te σ H Q
def RT (e : Expr) (σ : L2.St) (H : Hp) (Q : Bool → Hp → Prop) : Prop := ∃ tt, PT X e tt ∧ tt σ H Q
def RA (es : List Expr) (σ : L2.St) (H : Hp) (Q : List V → Hp → Prop) : Prop := ∃ ta, PA X es ta ∧ ta σ H Q
def RS (st : List Stmt) (D : Ends) (σ : L2.St) (H : Hp) : Prop := ∃ ts, PSs X st ts ∧ ts D σ H
def EvE (Γ : Ctx) (e : Expr) (t : Ty) : Prop := ∀ (σ : L2.St) (B H : Hp), SOk Γ B σ → Sm B H → ∀ Q : VK, (∀ v B' H', Nw nF B H B' H' → t.p B' v → Q v H') → RE X e σ H Q
def EvT (Γ : Ctx) (e : Expr) (b : Bool) : Prop := ∀ (σ : L2.St) (B H : Hp), SOk Γ B σ → Sm B H → ∀ Q : Bool → Hp → Prop, (∀ B' H', Nw nF B H B' H' → Q b H') → RT X e σ H Q
def EvA (Γ : Ctx) (es : List Expr) (ts : List Ty) : Prop := ∀ (σ : L2.St) (B H : Hp), SOk Γ B σ → Sm B H → ∀ Q : List V → Hp → Prop, (∀ vs B' H', Nw nF B H B' H' → Tys B' ts vs → Q vs H') → RA X es σ H Q
end
section
variable {X : Cx} {Γ : Ctx}
theorem pe_c {e : Expr} : PE X e (RE X e) := ⟨fun pins s σ H Q I ⟨_, h, q⟩ => h.run pins s σ H Q I q⟩
theorem pt_c {e : Expr} : PT X e (RT X e) := ⟨fun pins s σ H Q I ⟨_, h, q⟩ => h.run pins s σ H Q I q⟩
theorem pa_c {es : List Expr} : PA X es (RA X es) := ⟨fun pos pins s σ H Q I ⟨_, h, q⟩ => h.run pos pins s σ H Q I q⟩
theorem pss_c {st : List Stmt} : PSs X st (RS X st) := ⟨fun pins s σ H D I ⟨_, h, q⟩ => h.run pins s σ H D I q⟩
variable {e a b : Expr} {t t1 t2 : Ty} {pos : Pos} {x : Str}
theorem EvE.to (h : EvE X Γ e t1) (k : ∀ B v, t1.p B v → t2.p B v) : EvE X Γ e t2 := fun σ B H s bh Q q => h σ B H s bh Q fun v B' H' n r => q v B' H' n (k B' v r)
theorem ev_name {i : Nat} (hN : X.N[i]? = some x) (hv : Vis X.env.scope x) (hG : Γ[i]? = some (some t)) (hd : (x == ("__debug__" : Str)) = false := by decide) (hcd : (x == ("__classdict__" : Str)) = false := by decide) : EvE X Γ (.Name x pos) t :=
  fun σ B H s bh Q q => ⟨_, pe_var hN hv hd hcd, let ⟨v, e1, e2⟩ := s.2 i t hG; ⟨v, e1, q v B H (.refl bh) e2⟩⟩
theorem ev_int {i : Int} {j : Nat} : EvE X Γ (.Constant (.int i) j pos) (tI i) := fun σ B H s bh Q q => ⟨_, pe_int, q _ B H (.refl bh) rfl⟩
theorem ev_str {i : Str} {j : Nat} : EvE X Γ (.Constant (.str i) j pos) (tS i) := fun σ B H s bh Q q => ⟨_, pe_str, q _ B H (.refl bh) rfl⟩
theorem ev_bl {i : Bool} {j : Nat} : EvE X Γ (.Constant (.bool i) j pos) (tB i) := fun σ B H s bh Q q => ⟨_, pe_bl, q _ B H (.refl bh) rfl⟩
theorem ev_non {j : Nat} : EvE X Γ (.Constant .none j pos) tNone := fun σ B H s bh Q q => ⟨_, pe_non, q _ B H (.refl bh) rfl⟩
/-- a constant of the module -/
theorem ev_glob {v : V} {u : Value} (hg : Gl X x) (hm : X.mg x = some u) (r : RelV v u) (hd : (x == ("__debug__" : Str)) = false := by decide) : EvE X Γ (.Name x pos) (tV v) := fun σ B H s bh Q q => ⟨_, pe_glob hg hm r hd, q _ B H (.refl bh) rfl⟩
/-- a built-in's name as a value -/
theorem ev_blt {v : V} {u : Value} (hg : Gl X x) (hm : X.mg x = none) (hv : bootBuiltins x = some u) (r : RelV v u) (hn : x ≠ "__name__" := by decide) (hd : (x == ("__debug__" : Str)) = false := by decide) : EvE X Γ (.Name x pos) (tV v) :=
  fun σ B H s bh Q q => ⟨_, pe_bltn hg hm hv r hn hd, q _ B H (.refl bh) rfl⟩
/-- two values and an operation on them -/
def Bin (r : R2) (t1 t2 t : Ty) : Prop := ∀ (x y : V) (B H : Hp) (Q : VK), Sm B H → t1.p B x → t2.p B y → (∀ v B' H', Nw nF B H B' H' → t.p B' v → Q v H') → r x y H Q
theorem run2 {r : R2} (ha : EvE X Γ a t1) (hb : EvE X Γ b t2) (hr : Bin r t1 t2 t) {σ : L2.St} {B H : Hp} (s : SOk Γ B σ) (bh : Sm B H) {Q : VK} (q : ∀ v B' H', Nw nF B H B' H' → t.p B' v → Q v H') : tOp r (RE X a) (RE X b) σ H Q :=
  ha σ B H s bh _ fun x B1 H1 n1 r1 => hb σ B1 H1 (s.mono n1.bb) n1.bh _ fun y B2 H2 n2 r2 => hr x y B2 H2 Q n2.bh (t1.mono n2.bb r1) r2 fun v B3 H3 n3 r3 => q v B3 H3 ((n1.trans n2).trans n3) r3
theorem ev_bin {op : Operator} {r : R2} (ho : OpR X (binaryOp op) r) (ha : EvE X Γ a t1) (hb : EvE X Γ b t2) (hr : Bin r t1 t2 t) : EvE X Γ (.BinOp a op b pos) t := fun σ B H s bh Q q => ⟨_, pe_op ho pe_c pe_c, run2 ha hb hr s bh q⟩
theorem ev_cmp {op : CmpOp} {r : R2} (ho : OpR X (compareOp op) r) (ha : EvE X Γ a t1) (hb : EvE X Γ b t2) (hr : Bin r t1 t2 t) (hm : behindInMarks op b = false) : EvE X Γ (.Compare a [op] [b] pos) t :=
  fun σ B H s bh Q q => ⟨_, pe_cmpR ho pe_c pe_c hm, run2 ha hb hr s bh q⟩
theorem et_cmp {op : CmpOp} {r : R2} {k : Bool} (ho : OpR X (compareOp op) r) (ha : EvE X Γ a t1) (hb : EvE X Γ b t2) (hr : Bin r t1 t2 (tB k)) (hm : behindInMarks op b = false) : EvT X Γ (.Compare a [op] [b] pos) k :=
  fun σ B H s bh Q q => ⟨_, pt_cmpR ho pe_c pe_c hm, run2 ha hb hr s bh fun v B' H' n r => ⟨k, r, q B' H' n⟩⟩
theorem ev_sub {r : R2} (ho : IxR X r) (ha : EvE X Γ a t1) (hb : EvE X Γ b t2) (hr : Bin r t1 t2 t) (hs : PlainIx b := by exact fun _ _ => rfl) : EvE X Γ (.Subscript a b pos) t :=
  fun σ B H s bh Q q => ⟨_, pe_ix ho pe_c pe_c hs, run2 ha hb hr s bh q⟩
/-- a < b < c -/
theorem run_chain {r r' : R2} {c : Expr} {k1 k2 : Bool} {t3 : Ty} (ha : EvE X Γ a t1) (hb : EvE X Γ b t2) (hc : EvE X Γ c t3) (hr : Bin r t1 t2 (tB k1)) (hr' : Bin r' t2 t3 (tB k2)) {σ : L2.St} {B H : Hp} (s : SOk Γ B σ) (bh : Sm B H) {Q : VK}
    (q : ∀ v B' H', Nw nF B H B' H' → (tB (k1 && k2)).p B' v → Q v H') : tChain r r' (RE X a) (RE X b) (RE X c) σ H Q :=
  ha σ B H s bh _ fun x B1 H1 n1 r1 => hb σ B1 H1 (s.mono n1.bb) n1.bh _ fun y B2 H2 n2 r2 => hr x y B2 H2 _ n2.bh (t1.mono n2.bb r1) r2 fun v B3 H3 n3 r3 => ⟨k1, r3, by
    cases k1 with
    | false => exact q _ B3 H3 ((n1.trans n2).trans n3) rfl
    | true => exact hc σ B3 H3 (s.mono ((n1.trans n2).trans n3).bb) n3.bh _ fun z B4 H4 n4 r4 => hr' y z B4 H4 Q n4.bh (t2.mono (n3.trans n4).bb r2) r4 fun v B5 H5 n5 r5 => q v B5 H5 ((((n1.trans n2).trans n3).trans n4).trans n5) (by rw [Bool.true_and]; exact r5)⟩
theorem ev_chain {op op' : CmpOp} {r r' : R2} {c : Expr} {k1 k2 : Bool} {t3 : Ty} (ho : OpR X (compareOp op) r) (ho' : OpR X (compareOp op') r') (ha : EvE X Γ a t1) (hb : EvE X Γ b t2) (hc : EvE X Γ c t3) (hr : Bin r t1 t2 (tB k1)) (hr' : Bin r' t2 t3 (tB k2)) (hm : lastMarks [op, op'] [b, c] = false := by rfl) :
    EvE X Γ (.Compare a [op, op'] [b, c] pos) (tB (k1 && k2)) := fun σ B H s bh Q q => ⟨_, pe_chain ho ho' pe_c pe_c pe_c hm, run_chain ha hb hc hr hr' s bh q⟩
theorem et_chain {op op' : CmpOp} {r r' : R2} {c : Expr} {k1 k2 : Bool} {t3 : Ty} (ho : OpR X (compareOp op) r) (ho' : OpR X (compareOp op') r') (ha : EvE X Γ a t1) (hb : EvE X Γ b t2) (hc : EvE X Γ c t3) (hr : Bin r t1 t2 (tB k1)) (hr' : Bin r' t2 t3 (tB k2)) (hm : lastMarks [op, op'] [b, c] = false := by rfl) :
    EvT X Γ (.Compare a [op, op'] [b, c] pos) (k1 && k2) := fun σ B H s bh Q q => ⟨_, pt_chain ho ho' pe_c pe_c pe_c hm, run_chain ha hb hc hr hr' s bh fun v B' H' n r => ⟨_, r, q B' H' n⟩⟩
/-! ### operations on types -/
theorem bin_I0 {g : Int → Int → V} {i j : Int} : Bin (rI0 g) (tI i) (tI j) (tV (g i j)) := fun x y B H Q bh hx hy q => ⟨i, j, hx, hy, q _ B H (.refl bh) rfl⟩
theorem bin_I {C : Int → Int → Prop} {g : Int → Int → V} {i j : Int} (hc : C i j) : Bin (rI C g) (tI i) (tI j) (tV (g i j)) := fun x y B H Q bh hx hy q => ⟨i, j, hx, hy, hc, q _ B H (.refl bh) rfl⟩
theorem bin_eq {x y : V} (h : scal x y = true) : Bin rEq (tV x) (tV y) (tB (decide (x = y))) := fun u v B H Q bh hu hv q => by
  cases hu
  cases hv
  exact ⟨h, q _ B H (.refl bh) rfl⟩
theorem bin_ne {x y : V} (h : scal x y = true) : Bin rNe (tV x) (tV y) (tB (!decide (x = y))) := fun u v B H Q bh hu hv q => by
  cases hu
  cases hv
  exact ⟨h, q _ B H (.refl bh) rfl⟩
theorem bin_ixL {K : PySem.W.Frag} {ts : List Ty} {i : Nat} (h : ts[i]? = some t) (hl : ts.length ≤ 100000) : Bin (rIxL K) (tL ts) (tI (i : Int)) t := fun u v B H Q bh ⟨a, vs, e, ea, r⟩ hv q => by
  obtain ⟨w, e1, e2⟩ := r.get h
  exact ⟨a, vs, (i : Int), w, e, hv, .of (bh _ _ ea), atI_nat e1, q w B H (.refl bh) e2⟩
theorem bin_ixT {K : PySem.W.Frag} {ts : List Ty} {i : Nat} (h : ts[i]? = some t) (hl : ts.length ≤ 100000) : Bin (rIxT K) (tT ts) (tI (i : Int)) t := fun u v B H Q bh ⟨a, vs, e, ea, r⟩ hv q => by
  obtain ⟨w, e1, e2⟩ := r.get h
  exact ⟨a, vs, (i : Int), w, e, hv, .of (bh _ _ ea), atI_nat e1, q w B H (.refl bh) e2⟩
end
end Ls
set_option maxHeartbeats 4000000 -- Lo2
/-! The layer of types, further: truths, displays, calls, sources of loops, comprehensions. -/
namespace Ls
open PySem Spec PyProof.Rows L2
variable [J : Iv]
section
variable {X : Cx} {Γ : Ctx} {e a b c : Expr} {es rest : List Expr} {t t1 t2 : Ty} {ts : List Ty} {pos : Pos} {x : Str} {k1 k2 k : Bool}
/-! ### truths -/
theorem ev_one {op : BoolOp} (ha : EvE X Γ a t) : EvE X Γ (.BoolOp op [a] pos) t := fun σ B H s bh Q q => ⟨_, pe_one pe_c, ha σ B H s bh Q q⟩
theorem ev_and (ha : EvE X Γ a (tB k1)) (hb : k1 = true → EvE X Γ (.BoolOp .And (b :: rest) pos) (tB k2)) : EvE X Γ (.BoolOp .And (a :: b :: rest) pos) (tB (k1 && k2)) := fun σ B H s bh Q q =>
  ⟨_, pe_and pe_c pe_c, ha σ B H s bh _ fun v B1 H1 n1 r1 => ⟨k1, r1, by
    cases k1 with
    | true => exact hb rfl σ B1 H1 (s.mono n1.bb) n1.bh Q fun w B2 H2 n2 r2 => q w B2 H2 (n1.trans n2) r2
    | false => exact q _ B1 H1 n1 rfl⟩⟩
theorem ev_or (ha : EvE X Γ a (tB k1)) (hb : k1 = false → EvE X Γ (.BoolOp .Or (b :: rest) pos) (tB k2)) : EvE X Γ (.BoolOp .Or (a :: b :: rest) pos) (tB (k1 || k2)) := fun σ B H s bh Q q =>
  ⟨_, pe_or pe_c pe_c, ha σ B H s bh _ fun v B1 H1 n1 r1 => ⟨k1, r1, by
    cases k1 with
    | false => exact hb rfl σ B1 H1 (s.mono n1.bb) n1.bh Q fun w B2 H2 n2 r2 => q w B2 H2 (n1.trans n2) r2
    | true => exact q _ B1 H1 n1 rfl⟩⟩
theorem ev_not (ha : EvE X Γ a (tB k)) : EvE X Γ (.UnaryOp .Not a pos) (tB (!k)) := fun σ B H s bh Q q => ⟨_, pe_not pe_c, ha σ B H s bh _ fun v B1 H1 n1 r1 => ⟨k, r1, q _ B1 H1 n1 rfl⟩⟩
def RW (X : Cx) (e : Expr) (σ : L2.St) (H : Hp) (Q : Bool → Hp → Prop) : Prop := ∃ tt, PW X e tt ∧ tt σ H Q
theorem pw_c {e : Expr} : PW X e (RW X e) := ⟨fun wh pins s σ H Q I ⟨_, h, q⟩ => h.run wh pins s σ H Q I q⟩
def EvW (X : Cx) (Γ : Ctx) (e : Expr) (b : Bool) : Prop := ∀ (σ : L2.St) (B H : Hp), SOk Γ B σ → Sm B H → ∀ Q : Bool → Hp → Prop, (∀ B' H', Nw nF B H B' H' → Q b H') → RW X e σ H Q
theorem et_w (h : EvW X Γ e k) : EvT X Γ e k := fun σ B H s bh Q q => ⟨_, PW.pt pw_c, h σ B H s bh Q q⟩
theorem ew_and1 (h : EvT X Γ a k) : EvW X Γ (.BoolOp .And [a] pos) k := fun σ B H s bh Q q => ⟨_, pw_and1 pt_c, h σ B H s bh Q q⟩
theorem ew_or1 (h : EvT X Γ a k) : EvW X Γ (.BoolOp .Or [a] pos) k := fun σ B H s bh Q q => ⟨_, pw_or1 pt_c, h σ B H s bh Q q⟩
theorem ew_and (ha : EvT X Γ a k1) (hb : k1 = true → EvW X Γ (.BoolOp .And (b :: rest) pos) k2) : EvW X Γ (.BoolOp .And (a :: b :: rest) pos) (k1 && k2) := fun σ B H s bh Q q =>
  ⟨_, pw_and pt_c pw_c, ha σ B H s bh _ fun B1 H1 n1 => by
    cases k1 with
    | true => exact hb rfl σ B1 H1 (s.mono n1.bb) n1.bh Q fun B2 H2 n2 => q B2 H2 (n1.trans n2)
    | false => exact q B1 H1 n1⟩
theorem ew_or (ha : EvT X Γ a k1) (hb : k1 = false → EvW X Γ (.BoolOp .Or (b :: rest) pos) k2) : EvW X Γ (.BoolOp .Or (a :: b :: rest) pos) (k1 || k2) := fun σ B H s bh Q q =>
  ⟨_, pw_or pt_c pw_c, ha σ B H s bh _ fun B1 H1 n1 => by
    cases k1 with
    | false => exact hb rfl σ B1 H1 (s.mono n1.bb) n1.bh Q fun B2 H2 n2 => q B2 H2 (n1.trans n2)
    | true => exact q B1 H1 n1⟩
theorem et_not (ha : EvT X Γ a k) : EvT X Γ (.UnaryOp .Not a pos) (!k) := fun σ B H s bh Q q => ⟨_, pt_not pt_c, ha σ B H s bh _ q⟩
theorem et_val (h : EvE X Γ e (tB k)) (he : ∀ whole, isTrue e X.env whole = (do let v ← whole; standAt e.pos; holding [v] (truthy v)) := by intro _; rfl) : EvT X Γ e k := fun σ B H s bh Q q =>
  ⟨_, pt_val pe_c he, h σ B H s bh _ fun v B1 H1 n1 r1 => ⟨k, r1, q B1 H1 n1⟩⟩
theorem EvT.is (h : EvT X Γ e k1) (hk : k1 = k2) : EvT X Γ e k2 := hk ▸ h
theorem EvE.is (h : EvE X Γ e t1) (ht : t1 = t2) : EvE X Γ e t2 := ht ▸ h
theorem EvE.isB (h : EvE X Γ e (tB k1)) (hk : k1 = k2) : EvE X Γ e (tB k2) := hk ▸ h
theorem ev_ifx (hc : EvT X Γ c k) (ha : k = true → EvE X Γ a t) (hb : k = false → EvE X Γ b t) : EvE X Γ (.IfExp c a b pos) t := fun σ B H s bh Q q =>
  ⟨_, pe_ifExp pt_c pe_c pe_c, hc σ B H s bh _ fun B1 H1 n1 => by
    cases k with
    | true => exact ha rfl σ B1 H1 (s.mono n1.bb) n1.bh Q fun w B2 H2 n2 r2 => q w B2 H2 (n1.trans n2) r2
    | false => exact hb rfl σ B1 H1 (s.mono n1.bb) n1.bh Q fun w B2 H2 n2 r2 => q w B2 H2 (n1.trans n2) r2⟩
/-! ### arguments, displays -/
theorem ea_nil : EvA X Γ [] [] := fun σ B H s bh Q q => ⟨_, pa_nil, q [] B H (.refl bh) .nil⟩
theorem ea_cons (ha : EvE X Γ e t) (hr : EvA X Γ es ts) (hs : starEach (e :: es) X.env = (false, eval e X.env) :: starEach es X.env := by rfl) : EvA X Γ (e :: es) (t :: ts) := fun σ B H s bh Q q =>
  ⟨_, pa_cons pe_c pa_c hs, ha σ B H s bh _ fun v B1 H1 n1 r1 => hr σ B1 H1 (s.mono n1.bb) n1.bh _ fun vs B2 H2 n2 r2 => q (v :: vs) B2 H2 (n1.trans n2) (.cons (t.mono n2.bb r1) r2)⟩
theorem sz5 {n : Nat} (h : n ≤ 100000) : n ≤ sizeLine := Nat.le_trans h (by decide)
theorem lt5 {n : Nat} (h : n < 100000) : n < sizeLine := Nat.lt_of_lt_of_le h (by decide)
theorem ev_tup {k : Nat} (h : EvA X Γ es ts) (hl : ts.length ≤ 100000 := by exact Nat.le_of_ble_eq_true rfl) : EvE X Γ (.Tuple es k pos) (tT ts) := fun σ B H s bh Q q =>
  ⟨_, pe_tup pa_c, h σ B H s bh _ fun vs B1 H1 n1 r1 => ⟨by rw [r1.length]; exact sz5 hl, fun p hp => q _ _ _ (n1.trans (.lay n1.bh hp)) ⟨p, vs, rfl, upd_same, r1.mono (Nw.lay (F := nF) (o := .tup vs) n1.bh hp).bb⟩⟩⟩
theorem ev_lst (h : EvA X Γ es ts) (hl : ts.length ≤ 100000 := by exact Nat.le_of_ble_eq_true rfl) : EvE X Γ (.List es pos) (tL ts) := fun σ B H s bh Q q =>
  ⟨_, pe_lst pa_c, h σ B H s bh _ fun vs B1 H1 n1 r1 => ⟨by rw [r1.length]; exact sz5 hl, fun p hp => q _ _ _ (n1.trans (.lay n1.bh hp)) ⟨p, vs, rfl, upd_same, r1.mono (Nw.lay (F := nF) (o := .lst vs) n1.bh hp).bb⟩⟩⟩
/-! ### calls of what is built in -/
def Cb (r : List V → Hp → VK → Prop) (ts : List Ty) (t : Ty) : Prop := ∀ (vs : List V) (B H : Hp) (Q : VK), Sm B H → Tys B ts vs → (∀ v B' H', Nw nF B H B' H' → t.p B' v → Q v H') → r vs H Q
theorem ev_callB {id : String} {r : List V → Hp → VK → Prop} {p : Pos} (hc : CallR X (.builtin id) r) (hg : Gl X x) (hm : X.mg x = none) (hv : bootBuiltins x = some (.builtin id)) (ha : EvA X Γ (e :: es) ts) (hr : Cb r ts t)
    (hn : x ≠ "__name__" := by decide) (hdb : (x == ("__debug__" : Str)) = false := by decide) (he : starEach (e :: es) X.env = (false, eval e X.env) :: starEach es X.env := by rfl) (hpl : (backTo pos (starEach es X.env)).any (·.1) = false := by rfl) :
    EvE X Γ (.Call (.Name x p) (e :: es) [] pos) t := fun σ B H s bh Q q =>
  ⟨_, pe_callB hc hg hm hv pa_c hn hdb he hpl, ha σ B H s bh _ fun vs B1 H1 n1 r1 => hr vs B1 H1 Q n1.bh r1 fun v B2 H2 n2 r2 => q v B2 H2 (n1.trans n2) r2⟩
theorem ev_callTy {T : String} {r : List V → Hp → VK → Prop} {p : Pos} (hc : CallR X (.type T) r) (hg : Gl X x) (hm : X.mg x = none) (hv : bootBuiltins x = some (.type T)) (ha : EvA X Γ (e :: es) ts) (hr : Cb r ts t)
    (hn : x ≠ "__name__" := by decide) (hdb : (x == ("__debug__" : Str)) = false := by decide) (he : starEach (e :: es) X.env = (false, eval e X.env) :: starEach es X.env := by rfl) (hpl : (backTo pos (starEach es X.env)).any (·.1) = false := by rfl) :
    EvE X Γ (.Call (.Name x p) (e :: es) [] pos) t := fun σ B H s bh Q q =>
  ⟨_, pe_callTy hc hg hm hv pa_c hn hdb he hpl, ha σ B H s bh _ fun vs B1 H1 n1 r1 => hr vs B1 H1 Q n1.bh r1 fun v B2 H2 n2 r2 => q v B2 H2 (n1.trans n2) r2⟩
/-! ### calls of the text's own defs -/
/-- the promise of a def that writes nothing: the arguments' types, what a caller must show, the answer's type, by a datum -/
def spF {α : Type} (args : α → List Ty) (pre : α → Prop) (res : α → Ty) : Sp := fun vs H Q _ => ∃ (d : α) (B : Hp), Sm B H ∧ pre d ∧ Tys B (args d) vs ∧ ∀ v B' H', Nw nF B H B' H' → (res d).p B' v → Q v H'
end
/-- a def of the text, by its name -/
structure Cal (P : Program) (w : World) (K : PySem.W.Frag) (mg : Str → Option Value) (base : Heap) (x : Str) (k : Nat) (sp : Sp) : Prop where
  ex : ∃ (f : Addr) (fd : FuncData) (ps : List Str), mg x = some (.ref f) ∧ PySem.W.keepIn K (.ref f) = true ∧ Binds K fd ps [] ∧ FnOk P w K mg base CX0 k f fd ps sp
section
variable {X : Cx} {Γ : Ctx} {e a b c o : Expr} {es rest : List Expr} {t t1 t2 : Ty} {ts : List Ty} {pos p apos : Pos} {x m : Str} {k : Nat}
theorem ev_call {α : Type} {args : α → List Ty} {pre : α → Prop} {res : α → Ty} (C : Cal X.prog X.w X.K X.mg X.base x k (spF args pre res)) {d : α} (hr : Room k X.A) (hg : Gl X x) (ha : EvA X Γ (e :: es) ts) (hp : pre d) (hts : args d = ts := by rfl) (ht : res d = t := by rfl)
    (hdb : (x == ("__debug__" : Str)) = false := by decide) (he : starEach (e :: es) X.env = (false, eval e X.env) :: starEach es X.env := by rfl) (hpl : (backTo pos (starEach es X.env)).any (·.1) = false := by rfl) :
    EvE X Γ (.Call (.Name x p) (e :: es) [] pos) t := fun σ B H s bh Q q => by
  obtain ⟨f, fd, ps, hm, hk, hb, F⟩ := C.ex
  subst hts ht
  refine ⟨_, pe_call F hr hg hm hk hb .nil pass0 pa_c hdb he hpl, ha σ B H s bh _ fun vs B1 H1 n1 r1 => ?_⟩
  rw [List.append_nil]
  exact ⟨d, B1, n1.bh, hp, r1, fun v B2 H2 n2 r2 => q v B2 H2 (n1.trans n2) r2⟩
/-! ### subscripts -/
theorem bin_ixLi {K : PySem.W.Frag} {ts : List Ty} {i : Int} {j : Nat} (hi : i = (j : Int)) (h : ts[j]? = some t) : Bin (rIxL K) (tL ts) (tI i) t := fun u v B H Q bh ⟨a, vs, e, ea, r⟩ hv q => by
  subst hi
  obtain ⟨w, e1, e2⟩ := r.get h
  exact ⟨a, vs, (j : Int), w, e, hv, .of (bh _ _ ea), atI_nat e1, q w B H (.refl bh) e2⟩
theorem bin_ixTi {K : PySem.W.Frag} {ts : List Ty} {i : Int} {j : Nat} (hi : i = (j : Int)) (h : ts[j]? = some t) : Bin (rIxT K) (tT ts) (tI i) t := fun u v B H Q bh ⟨a, vs, e, ea, r⟩ hv q => by
  subst hi
  obtain ⟨w, e1, e2⟩ := r.get h
  exact ⟨a, vs, (j : Int), w, e, hv, .of (bh _ _ ea), atI_nat e1, q w B H (.refl bh) e2⟩
/-! ### targets -/
def RG (X : Cx) (tg : Expr) : TG := fun v σ H Q => ∃ g, PG X tg g ∧ g v σ H Q
theorem pg_c {tg : Expr} : PG X tg (RG X tg) := ⟨fun pins s σ H v u Q I r ⟨_, h, q⟩ => h.run pins s σ H v u Q I r q⟩
def RGs (X : Cx) (tgs : List Expr) : TGs := fun vs σ H Q => ∃ g, PGs X tgs g ∧ g vs σ H Q
theorem pgs_c {tgs : List Expr} : PGs X tgs (RGs X tgs) := ⟨fun pins s σ H v u Q I r ⟨_, h, q⟩ => h.run pins s σ H v u Q I r q⟩
/-- what storing a value of type t does: u the context behind, js the slots stored -/
def Tgt (X : Cx) (tg : Expr) (t : Ty) (u : Ctx → Ctx) (js : List Nat) : Prop := ∀ (v : V) (σ : L2.St) (B H : Hp) (Γ : Ctx) (Q : L2.St → Hp → Prop), SOk Γ B σ → Sm B H → t.p B v →
  (∀ σ', SOk (u Γ) B σ' → σ'.length = σ.length → (∀ i, i ∉ js → σ'[i]? = σ[i]?) → Q σ' H) → RG X tg v σ H Q
theorem tg_name {i : Nat} (hN : X.N.Nodup) (hi : X.N[i]? = some x) (hx : Loc X.env.scope x) (hf : X.fn x = true ∨ X.env.scope.names.lookup x = some .local := by first | exact .inl rfl | exact .inr rfl) : Tgt X (.Name x pos) t (fun Γ => Γ.set i (some t)) [i] :=
  fun v σ B H Γ Q s bh h q => ⟨_, pg_name hN hi hx hf, q _ (s.set i h) (List.length_set ..) fun j hj => List.getElem?_set_ne (fun e => hj (by rw [e]; exact List.mem_cons_self))⟩
def Tgts (X : Cx) (tgs : List Expr) (ts : List Ty) (u : Ctx → Ctx) (js : List Nat) : Prop := ∀ (vs : List V) (σ : L2.St) (B H : Hp) (Γ : Ctx) (Q : L2.St → Hp → Prop), SOk Γ B σ → Sm B H → Tys B ts vs →
  (∀ σ', SOk (u Γ) B σ' → σ'.length = σ.length → (∀ i, i ∉ js → σ'[i]? = σ[i]?) → Q σ' H) → RGs X tgs vs σ H Q
theorem tgs_nil : Tgts X [] [] (fun Γ => Γ) [] := fun vs σ B H Γ Q s bh h q => ⟨_, pgs_nil, by
  cases h
  exact ⟨rfl, q σ s rfl fun _ _ => rfl⟩⟩
theorem tgs_cons {u u' : Ctx → Ctx} {js js' : List Nat} (h1 : Tgt X e t u js) (h2 : Tgts X es ts u' js') (hs : (assignEach (e :: es) X.env).map (·.2) = assign e X.env :: (assignEach es X.env).map (·.2) := by rfl) :
    Tgts X (e :: es) (t :: ts) (fun Γ => u' (u Γ)) (js ++ js') := fun vs σ B H Γ Q s bh h q => ⟨_, pgs_cons pg_c pgs_c hs, by
  cases h with
  | cons a r => exact ⟨_, _, rfl, h1 _ σ B H Γ _ s bh a fun σ1 s1 l1 k1 => h2 _ σ1 B H (u Γ) Q s1 bh r fun σ2 s2 l2 k2 => q σ2 s2 (l2.trans l1) fun i hi => (k2 i (fun z => hi (List.mem_append_right _ z))).trans (k1 i fun z => hi (List.mem_append_left _ z))⟩⟩
theorem tg_tup {n : Nat} {u : Ctx → Ctx} {js : List Nat} (hc : X.calm = true) (h : Tgts X es ts u js) (hl : ts.length = (assignEach es X.env).length := by rfl) (hst : (assignEach es X.env).findIdx? (·.1) = none := by rfl) : Tgt X (.Tuple es n pos) (tT ts) u js :=
  fun v σ B H Γ Q s bh ⟨a, vs, e, ea, r⟩ k => ⟨_, pg_tup hc pgs_c rfl hst, a, vs, e, .of (bh _ _ ea), by rw [r.length]; exact hl, h vs σ B H Γ Q s bh r k⟩
/-! ### what loops walk -/
def RI (X : Cx) (tg e : Expr) (σ : L2.St) (H : Hp) (R : It → Hp → Prop) : Prop := ∃ wi, PI X tg e wi ∧ wi σ H R
theorem pi_c {tg : Expr} : PI X tg e (RI X tg e) := ⟨fun pins s σ H R I ⟨_, h, q⟩ => h.run pins s σ H R I q⟩
/-- J gives values of the types ts, one after another, while B stays -/
structure Src (J : It) (B : Hp) (ts : List Ty) : Prop where
  goes : ∀ (i : Nat) (B2 H2 : Hp), Same B B2 → Sm B2 H2 → i < ts.length → J.go i H2
  stop : ∀ (B2 H2 : Hp), Same B B2 → Sm B2 H2 → J.stop ts.length H2
  yld : ∀ (i : Nat) (t : Ty) (B2 H2 : Hp) (x : V) (H3 : Hp), Same B B2 → Sm B2 H2 → ts[i]? = some t → J.yld i H2 x H3 → ∃ B3, Nw nF B2 H2 B3 H3 ∧ t.p B3 x
def EvI (X : Cx) (Γ : Ctx) (tg e : Expr) (ts : List Ty) : Prop := ∀ (σ : L2.St) (B H : Hp), SOk Γ B σ → Sm B H → ∀ R : It → Hp → Prop, (∀ J B' H', Nw nF B H B' H' → Src J B' ts → R J H') → RI X tg e σ H R
theorem src_list {K : PySem.W.Frag} {B : Hp} {a : Addr} {vs : List V} (ha : B a = some (.lst vs)) (r : Tys B ts vs) : Src (Itl K a) B ts := by
  refine ⟨fun i B2 H2 b1 b2 hi => ?_, fun B2 H2 b1 b2 => ⟨vs, .of (b2 _ _ (b1 _ _ ha)), Nat.le_of_eq r.length⟩, fun i t B2 H2 x H3 b1 b2 hi y => ?_⟩
  · have hv : i < vs.length := by rw [r.length]; exact hi
    exact ⟨vs, vs[i], .of (b2 _ _ (b1 _ _ ha)), by simp [hv]⟩
  · obtain ⟨e, y⟩ := y
    subst e
    have hx := y vs (.of (b2 _ _ (b1 _ _ ha)))
    obtain ⟨t', e1, e2⟩ := r.getV hx
    rw [hi] at e1
    cases e1
    exact ⟨B2, .refl b2, t.mono b1 e2⟩
theorem src_tup {K : PySem.W.Frag} {B : Hp} {a : Addr} {vs : List V} (ha : B a = some (.tup vs)) (r : Tys B ts vs) : Src (Itt K a) B ts := by
  refine ⟨fun i B2 H2 b1 b2 hi => ?_, fun B2 H2 b1 b2 => ⟨vs, .of (b2 _ _ (b1 _ _ ha)), Nat.le_of_eq r.length⟩, fun i t B2 H2 x H3 b1 b2 hi y => ?_⟩
  · have hv : i < vs.length := by rw [r.length]; exact hi
    exact ⟨vs, vs[i], .of (b2 _ _ (b1 _ _ ha)), by simp [hv]⟩
  · obtain ⟨e, y⟩ := y
    subst e
    have hx := y vs (.of (b2 _ _ (b1 _ _ ha)))
    obtain ⟨t', e1, e2⟩ := r.getV hx
    rw [hi] at e1
    cases e1
    exact ⟨B2, .refl b2, t.mono b1 e2⟩
theorem ei_list {tg : Expr} (h : EvE X Γ e (tL ts)) : EvI X Γ tg e ts := fun σ B H s bh R q =>
  ⟨_, pi_list pe_c, h σ B H s bh _ fun v B1 H1 n1 ⟨a, vs, ev, ea, r⟩ => ⟨a, ev, ⟨vs, .of (n1.bh _ _ ea)⟩, q _ B1 H1 n1 (src_list ea r)⟩⟩
theorem ei_tup {tg : Expr} (h : EvE X Γ e (tT ts)) : EvI X Γ tg e ts := fun σ B H s bh R q =>
  ⟨_, pi_tup pe_c, h σ B H s bh _ fun v B1 H1 n1 ⟨a, vs, ev, ea, r⟩ => ⟨a, ev, ⟨vs, .of (n1.bh _ _ ea)⟩, q _ B1 H1 n1 (src_tup ea r)⟩⟩
/-- range(n), range(lo, n) -/
def rgTys (lo : Int) (n : Nat) : List Ty := (List.range n).map fun i : Nat => tI (lo + (i : Int))
theorem src_rng {B : Hp} {lo : Int} {n : Nat} : Src (Itr lo n) B (rgTys lo n) := by
  have hl : (rgTys lo n).length = n := by unfold rgTys; rw [List.length_map, List.length_range]
  refine ⟨fun i B2 H2 b1 b2 hi => by rw [hl] at hi; exact hi, fun B2 H2 b1 b2 => by rw [hl]; exact Nat.le_refl n, fun i t B2 H2 x H3 b1 b2 hi y => ?_⟩
  obtain ⟨e, y⟩ := y
  subst e
  refine ⟨B2, .refl b2, ?_⟩
  unfold rgTys at hi
  rw [List.getElem?_map] at hi
  have hn : i < n := by
    by_cases h : i < n
    · exact h
    · rw [List.getElem?_eq_none (by simpa using Nat.le_of_not_lt h)] at hi
      cases hi
  rw [List.getElem?_range hn] at hi
  cases hi
  exact y
theorem ei_rng1 {tg : Expr} {n : Int} (hg : Gl X "range") (hm : X.mg "range" = none) (h : EvE X Γ a (tI n)) (hn : 0 ≤ n ∧ n ≤ 100000) (hs : starEach [a] X.env = [(false, eval a X.env)] := by rfl) : EvI X Γ tg (.Call (.Name "range" p) [a] [] pos) (rgTys 0 n.toNat) := fun σ B H s bh R q =>
  ⟨_, pi_range1 hg hm pa_c hs, ea_cons h ea_nil hs σ B H s bh _ fun vs B1 H1 n1 r1 => ⟨n, by
    cases r1 with
    | cons r r0 =>
      cases r0
      cases r
      rfl, by omega, by omega, q _ B1 H1 n1 src_rng⟩⟩
theorem ei_rng2 {tg : Expr} {lo n : Int} (hg : Gl X "range") (hm : X.mg "range" = none) (h1 : EvE X Γ a (tI lo)) (h2 : EvE X Γ b (tI n)) (hn : 0 ≤ lo ∧ lo ≤ 100000 ∧ 0 ≤ n ∧ n ≤ 100000)
    (hs : starEach [a, b] X.env = [(false, eval a X.env), (false, eval b X.env)] := by rfl) (hs2 : starEach [b] X.env = [(false, eval b X.env)] := by rfl) : EvI X Γ tg (.Call (.Name "range" p) [a, b] [] pos) (rgTys lo (n - lo).toNat) := fun σ B H s bh R q =>
  ⟨_, pi_range2 hg hm pa_c hs hs2, ea_cons h1 (ea_cons h2 ea_nil hs2) (by rw [hs, hs2]) σ B H s bh _ fun vs B1 H1 n1 r1 => ⟨lo, n, by
    cases r1 with
    | cons r r0 =>
      cases r0 with
      | cons r' r1 =>
        cases r1
        cases r
        cases r'
        rfl, by omega, q _ B1 H1 n1 src_rng⟩⟩
/-- enumerate(list) -/
def enTys (ts : List Ty) : List Ty := ts.zipIdx.map fun q => tT [tI (q.2 : Int), q.1]
theorem enTys_get {ts : List Ty} {i : Nat} : (enTys ts)[i]? = ts[i]?.map fun t => tT [tI (i : Int), t] := by
  unfold enTys
  rw [List.getElem?_map, List.getElem?_zipIdx]
  cases ts[i]? with
  | none => rfl
  | some t => simp
theorem src_enum {K : PySem.W.Frag} {B : Hp} {a : Addr} {vs : List V} (ha : B a = some (.lst vs)) (r : Tys B ts vs) : Src (Ite K a) B (enTys ts) := by
  have hl : (enTys ts).length = ts.length := by unfold enTys; rw [List.length_map, List.length_zipIdx]
  refine ⟨fun i B2 H2 b1 b2 hi => ?_, fun B2 H2 b1 b2 => ⟨vs, .of (b2 _ _ (b1 _ _ ha)), by rw [hl]; exact Nat.le_of_eq r.length⟩, fun i t B2 H2 x H3 b1 b2 hi y => ?_⟩
  · have hv : i < vs.length := by rw [r.length, ← hl]; exact hi
    exact ⟨vs, vs[i], .of (b2 _ _ (b1 _ _ ha)), by simp [hv]⟩
  · obtain ⟨T, z, e, hT, eH, y⟩ := y
    subst e eH
    have hx := y vs (.of (b2 _ _ (b1 _ _ ha)))
    obtain ⟨t', e1, e2⟩ := r.getV hx
    rw [enTys_get, e1] at hi
    cases hi
    have n : Nw nF B2 H2 (upd B2 T (.tup [.int (i : Nat), z])) (upd H2 T (.tup [.int (i : Nat), z])) := .lay b2 hT
    exact ⟨_, n, T, _, rfl, upd_same, .cons rfl (.one (t'.mono (b1.trans n.bb) e2))⟩
theorem ei_enum {elts : List Expr} {kk : Nat} {tpos : Pos} (hg : Gl X "enumerate") (hm : X.mg "enumerate" = none) (h : EvE X Γ e (tL ts)) (hs : starEach [e] X.env = [(false, eval e X.env)] := by rfl) :
    EvI X Γ (.Tuple elts kk tpos) (.Call (.Name "enumerate" p) [e] [] pos) (enTys ts) := fun σ B H s bh R q =>
  ⟨_, pi_enum hg hm pa_c hs, ea_cons h ea_nil hs σ B H s bh _ fun vs B1 H1 n1 r1 => by
    cases r1 with
    | cons r r0 =>
      cases r0
      obtain ⟨a, xs, e1, ea, r2⟩ := r
      subst e1
      exact ⟨a, xs, rfl, .of (n1.bh _ _ ea), q _ B1 H1 n1 (src_enum ea r2)⟩⟩
end
end Ls
set_option maxHeartbeats 4000000 -- Lo3
/-! The layer of types, further: comprehensions, states, statements. -/
namespace Ls
open PySem Spec PyProof.Rows L2
variable [J : Iv]
/-! ### slots forgotten -/
theorem wipe_get (σ : L2.St) : ∀ (vs : List Nat) (i : Nat), (L2.wipe σ vs)[i]? = if i ∈ vs ∧ i < σ.length then some none else σ[i]?
  | [], i => by simp [L2.wipe]
  | v :: vs, i => by
    unfold L2.wipe
    rw [List.getElem?_set, L2.wipe_length, wipe_get σ vs i]
    by_cases h : v = i
    · subst h
      by_cases hl : v < σ.length
      · simp [hl]
      · simp [hl, List.getElem?_eq_none (Nat.le_of_not_lt hl)]
    · have h2 : ¬ i = v := fun e => h e.symm
      simp [h, h2]
theorem wipe_congr {σ σ' : L2.St} {vs : List Nat} (hl : σ'.length = σ.length) (h : ∀ i, i ∉ vs → σ'[i]? = σ[i]?) : L2.wipe σ' vs = L2.wipe σ vs := by
  refine List.ext_getElem? fun i => ?_
  rw [wipe_get, wipe_get, hl]
  by_cases hi : i ∈ vs
  · by_cases hk : i < σ.length
    · rw [if_pos ⟨hi, hk⟩, if_pos ⟨hi, hk⟩]
    · rw [if_neg (fun z => hk z.2), if_neg (fun z => hk z.2), List.getElem?_eq_none (by omega), List.getElem?_eq_none (by omega)]
  · rw [if_neg (fun z => hi z.1), if_neg (fun z => hi z.1)]
    exact h i hi
theorem wipe_wipe (σ : L2.St) (vs : List Nat) : L2.wipe (L2.wipe σ vs) vs = L2.wipe σ vs := wipe_congr (L2.wipe_length σ vs) fun i hi => by
  rw [wipe_get, if_neg (fun z => hi z.1)]
/-! ### a comprehension's block -/
section
variable {X : Cx} {Γ : Ctx} {elt it tg : Expr} {ifs : List Expr} {scope : Scope} {pos : Pos}
def RTs (X : Cx) (ifs : List Expr) (σ : L2.St) (H : Hp) (Q : Bool → Hp → Prop) : Prop := ∃ tt, PTs X ifs tt ∧ tt σ H Q
theorem pts_c : PTs X ifs (RTs X ifs) := ⟨fun pins s σ H Q I ⟨_, h, q⟩ => h.run pins s σ H Q I q⟩
def EvTs (X : Cx) (Γ : Ctx) (ifs : List Expr) (b : Bool) : Prop := ∀ (σ : L2.St) (B H : Hp), SOk Γ B σ → Sm B H → ∀ Q : Bool → Hp → Prop, (∀ B' H', Nw nF B H B' H' → Q b H') → RTs X ifs σ H Q
theorem ets_nil : EvTs X Γ [] true := fun σ B H s bh Q q => ⟨_, pts_nil, q B H (.refl bh)⟩
theorem ets_one {c : Expr} {k : Bool} (h : EvT X Γ c k) : EvTs X Γ [c] k := fun σ B H s bh Q q => ⟨_, pts_one pt_c, h σ B H s bh Q q⟩
abbrev bX (X : Cx) (scope : Scope) (s : Shared) (H : Hp) (C : Addr) (cl : List (Str × Addr)) (fp : List Addr) : Cx := X.blk s H scope (compEnvC scope cl C X.env) fp
def bG (X : Cx) (scope : Scope) (tg : Expr) : TG := fun v σ H Q => ∀ s H0 C cl fp, RG (bX X scope s H0 C cl fp) tg v σ H Q
def bT (X : Cx) (scope : Scope) (ifs : List Expr) : TT := fun σ H Q => ∀ s H0 C cl fp, RTs (bX X scope s H0 C cl fp) ifs σ H Q
def bE (X : Cx) (scope : Scope) (e : Expr) : TE := fun σ H Q => ∀ s H0 C cl fp, RE (bX X scope s H0 C cl fp) e σ H Q
def bI (X : Cx) (scope : Scope) (tg e : Expr) : TI := fun σ H R => ∀ s H0 C cl fp, RI (bX X scope s H0 C cl fp) tg e σ H R
theorem pg_b (s : Shared) (H0 : Hp) (C : Addr) (cl : List (Str × Addr)) (fp : List Addr) : PG (bX X scope s H0 C cl fp) tg (bG X scope tg) := ⟨fun pins t σ H v u Q I r h => (pg_c (X := bX X scope s H0 C cl fp)).run pins t σ H v u Q I r (h s H0 C cl fp)⟩
theorem pt_b (s : Shared) (H0 : Hp) (C : Addr) (cl : List (Str × Addr)) (fp : List Addr) : PTs (bX X scope s H0 C cl fp) ifs (bT X scope ifs) := ⟨fun pins t σ H Q I h => (pts_c (X := bX X scope s H0 C cl fp)).run pins t σ H Q I (h s H0 C cl fp)⟩
theorem pe_b (s : Shared) (H0 : Hp) (C : Addr) (cl : List (Str × Addr)) (fp : List Addr) : PE (bX X scope s H0 C cl fp) elt (bE X scope elt) := ⟨fun pins t σ H Q I h => (pe_c (X := bX X scope s H0 C cl fp)).run pins t σ H Q I (h s H0 C cl fp)⟩
theorem pi_b (s : Shared) (H0 : Hp) (C : Addr) (cl : List (Str × Addr)) (fp : List Addr) : PI (bX X scope s H0 C cl fp) tg it (bI X scope tg it) := ⟨fun pins t σ H Q I h => (pi_c (X := bX X scope s H0 C cl fp)).run pins t σ H Q I (h s H0 C cl fp)⟩
/-- what stands at a comprehension's list behind i turns -/
def LcAt {α : Type} (xs : List α) (p : α → Bool) (g : α → Ty) (B1 H1 : Hp) (D : Addr) (i : Nat) (H : Hp) : Prop :=
  ∃ (B : Hp) (acc : List V), Nw nF B1 H1 B H ∧ B D = none ∧ ¬ Iv.F H D ∧ H D = some (.lst acc) ∧ Tys B (((xs.take i).filter p).map g) acc
theorem take_succ' {α : Type} {xs : List α} {i : Nat} {x : α} (h : xs[i]? = some x) : xs.take (i + 1) = xs.take i ++ [x] := by
  rw [List.take_add_one, h]
  rfl
/-- the reading of a comprehension -/
theorem run_lc {α : Type} {xs : List α} {τ : α → Ty} {p : α → Bool} {g : α → Ty} {u : α → Ctx → Ctx} {js vs : List Nat} (hi : EvI X Γ tg it (xs.map τ)) (hjs : ∀ j ∈ js, j ∈ vs) (hlen : xs.length ≤ 100000)
    (hg : ∀ s H0 C cl fp x, x ∈ xs → Tgt (bX X scope s H0 C cl fp) tg (τ x) (u x) js) (ht : ∀ s H0 C cl fp x, x ∈ xs → EvTs (bX X scope s H0 C cl fp) (u x (wipeC Γ vs)) ifs (p x))
    (he : ∀ s H0 C cl fp x, x ∈ xs → p x = true → EvE (bX X scope s H0 C cl fp) (u x (wipeC Γ vs)) elt (g x)) {σ : L2.St} {B H : Hp} (so : SOk Γ B σ) (bh : Sm B H) {Q : VK} (q : ∀ v B' H', Nw nF B H B' H' → (tL ((xs.filter p).map g)).p B' v → Q v H') :
    tLc (RI X tg it) (bG X scope tg) (bT X scope ifs) (bE X scope elt) vs σ H Q := hi σ B H so bh _ fun J B1 H1 n1 src D hD => by
  have sw : SOk (wipeC Γ vs) B1 (L2.wipe σ vs) := (so.mono n1.bb).wipe vs
  have nD := n1.bh.nf hD
  have hl : (xs.map τ).length = xs.length := List.length_map ..
  have w : Walk J xs.length (fun H => ∃ B2, Same B1 B2 ∧ Sm B2 H) J.yld := ⟨fun i H hi ⟨B2, b1, b2⟩ => src.goes i B2 H b1 b2 (by rw [hl]; exact hi), fun H ⟨B2, b1, b2⟩ => by rw [← hl]; exact src.stop B2 H b1 b2, fun i H x H' _ _ y => y⟩
  refine lc_it w (LcAt xs p g B1 H1 D) ⟨B1, [], .new n1.bh hD, n1.bh.free hD, nfu n1.bh nD nD, upd_same, .nil⟩ (fun i H2 _ ⟨B2, _, n2, _⟩ => ⟨B2, n2.bb, n2.bh⟩) (fun i v H2 H3 hi ⟨B2, acc, n2, bD, fD, hD2, ta⟩ y => ?_) (fun H2 ⟨B2, acc, n2, bD, fD, hD2, ta⟩ => ?_)
  · have hx : xs[i]? = some xs[i] := by simp [hi]
    have hm : xs[i] ∈ xs := List.getElem_mem hi
    obtain ⟨B3, n3, tv⟩ := src.yld i (τ xs[i]) B2 H2 v H3 n2.bb n2.bh (by rw [List.getElem?_map, hx]; rfl) y
    have n23 := n2.trans n3
    intro s H0 C cl fp
    refine hg s H0 C cl fp xs[i] hm v (L2.wipe σ vs) B3 H3 (wipeC Γ vs) _ (sw.mono n23.bb) n3.bh tv fun σ' s' l' k' => ⟨?_, ?_⟩
    · rw [wipe_congr (vs := vs) l' fun j hj => k' j fun z => hj (hjs j z), wipe_wipe]
    · intro s2 H02 C2 cl2 fp2
      refine ht s2 H02 C2 cl2 fp2 xs[i] hm σ' B3 H3 s' n3.bh _ fun B4 H4 n4 => ?_
      have n24 := n23.trans n4
      have n34 := n3.trans n4
      have hD4 : H4 D = some (.lst acc) := n34.keep _ _ fD hD2
      have bD4 : B4 D = none := n34.fr D _ bD hD2
      have fD4 : ¬ Iv.F H4 D := n34.nf _ _ fD hD2
      cases hp : p xs[i] with
      | false =>
        rw [if_neg (by decide)]
        refine ⟨B4, acc, n24, bD4, fD4, hD4, ?_⟩
        rw [take_succ' hx, List.filter_append]
        have e : [xs[i]].filter p = [] := by simp [hp]
        rw [e, List.append_nil]
        exact ta.mono (n3.trans n4).bb
      | true =>
        rw [if_pos rfl]
        intro s3 H03 C3 cl3 fp3
        refine he s3 H03 C3 cl3 fp3 xs[i] hm hp σ' B4 H4 (s'.mono n4.bb) n4.bh _ fun y B5 H5 n5 ty => ?_
        have n25 := n24.trans n5
        have hD5 : H5 D = some (.lst acc) := n5.keep _ _ fD4 hD4
        have fD5 : ¬ Iv.F H5 D := n5.nf _ _ fD4 hD4
        have bD5 : B5 D = none := n5.fr D _ bD4 hD4
        have la : acc.length < 100000 := by
          rw [ta.length, List.length_map]
          have h1 := List.length_filter_le p (xs.take i)
          have h2 : (xs.take i).length ≤ i := List.length_take_le ..
          omega
        refine ⟨acc, hD5, lt5 la, B5, acc ++ [y], n25.write bD5 (.inr hD) fD5, bD5, nfu n5.bh fD5 fD5, upd_same, ?_⟩
        rw [take_succ' hx, List.filter_append, List.map_append]
        have e : ([xs[i]].filter p).map g = [g xs[i]] := by simp [hp]
        rw [e]
        exact (ta.mono ((n3.trans n4).trans n5).bb).append (.one ty)
  · have f := n2.freeze bD hD2 hD fD
    refine q (.ref D) _ H2 (n1.trans f) ⟨D, acc, rfl, upd_same, ?_⟩
    rw [List.take_length] at ta
    have e : Same B2 (upd B2 D (.lst acc)) := fun x o h => by rw [upd_ne (ne_of_none h bD)]; exact h
    exact ta.mono e
theorem ev_lc {α : Type} {xs : List α} {τ : α → Ty} {p : α → Bool} {g : α → Ty} {u : α → Ctx → Ctx} {js : List Nat} {own : List (Str × Nat)} (hc : X.calm = true) (hN : X.N.Nodup) (ok : BlkOk X.N X.env.scope scope own)
    (hi : EvI X Γ tg it (xs.map τ)) (hjs : ∀ j ∈ js, j ∈ own.map (·.2)) (hlen : xs.length ≤ 100000)
    (hg : ∀ s H0 C cl fp x, x ∈ xs → Tgt (bX X scope s H0 C cl fp) tg (τ x) (u x) js) (ht : ∀ s H0 C cl fp x, x ∈ xs → EvTs (bX X scope s H0 C cl fp) (u x (wipeC Γ (own.map (·.2)))) ifs (p x))
    (he : ∀ s H0 C cl fp x, x ∈ xs → p x = true → EvE (bX X scope s H0 C cl fp) (u x (wipeC Γ (own.map (·.2)))) elt (g x)) (hs : ∀ x, foldedSetIterable it X.env x = pure x := by intro _; rfl) :
    EvE X Γ (.ListComp elt [⟨tg, it, ifs, 0⟩] scope pos) (tL ((xs.filter p).map g)) := fun σ B H so bh Q q => ⟨_, pe_lc hc hN pi_c ok pg_b pt_b pe_b hs, run_lc hi hjs hlen hg ht he so bh q⟩
end
/-! ### states -/
/-- what an object that may change holds, told over B -/
structure OT where
  p : Hp → HO → Prop
  mono : ∀ {B B' : Hp} {o : HO}, Same B B' → p B o → p B' o
def oL (ts : List Ty) : OT := ⟨fun B o => ∃ vs, o = .lst vs ∧ Tys B ts vs, fun h ⟨vs, e, r⟩ => ⟨vs, e, r.mono h⟩⟩
abbrev Cells := List (Addr × OT)
structure Owns (F : Addr → Prop) (H0 B H : Hp) (W : Cells) : Prop where
  each : ∀ q ∈ W, (F q.1 ∨ H0 q.1 = none) ∧ (B q.1 = none ∧ ¬ Iv.F H q.1) ∧ ∃ o, H q.1 = some o ∧ q.2.p B o
  apart : (W.map (·.1)).Nodup
/-- a state: F what may be written from the entry (B0, H0) on, Bg what surely stands, the slots' types, the own cells -/
structure At (F : Addr → Prop) (B0 H0 Bg : Hp) (Γ : Ctx) (W : Cells) (σ : L2.St) (B H : Hp) : Prop where
  s : SOk Γ B σ
  n : Nw F B0 H0 B H
  g : Same Bg B
  o : Owns F H0 B H W
section
variable {F : Addr → Prop} {B0 H0 Bg : Hp} {Γ : Ctx} {W : Cells} {σ : L2.St} {B H B' H' : Hp} {i : Nat} {t : Ty} {v : V} {l : Addr} {ot ot' : OT} {o : HO}
theorem At.step (a : At F B0 H0 Bg Γ W σ B H) (n : Nw nF B H B' H') : At F B0 H0 Bg Γ W σ B' H' :=
  ⟨a.s.mono n.bb, a.n.trans n.any, a.g.trans n.bb, fun q hq => let ⟨h1, h2, o, h3, h4⟩ := a.o.each q hq; ⟨h1, ⟨n.fr _ _ h2.1 h3, n.nf _ _ h2.2 h3⟩, o, n.keep _ _ h2.2 h3, q.2.mono n.bb h4⟩, a.o.apart⟩
theorem At.set (a : At F B0 H0 Bg Γ W σ B H) (i : Nat) (h : t.p B v) : At F B0 H0 Bg (Γ.set i (some t)) W (σ.set i (some v)) B H := ⟨a.s.set i h, a.n, a.g, a.o⟩
theorem At.ctx {Γ' : Ctx} (a : At F B0 H0 Bg Γ W σ B H) {σ' : L2.St} (s : SOk Γ' B σ') : At F B0 H0 Bg Γ' W σ' B H := ⟨s, a.n, a.g, a.o⟩
theorem At.perm {W' : Cells} (a : At F B0 H0 Bg Γ W σ B H) (p : W.Perm W') : At F B0 H0 Bg Γ W' σ B H := ⟨a.s, a.n, a.g, fun q hq => a.o.each q (p.mem_iff.mpr hq), (p.map _).nodup_iff.mp a.o.apart⟩
theorem At.tail (a : At F B0 H0 Bg Γ ((l, ot) :: W) σ B H) : At F B0 H0 Bg Γ W σ B H := ⟨a.s, a.n, a.g, fun q hq => a.o.each q (List.mem_cons_of_mem _ hq), (List.nodup_cons.mp a.o.apart).2⟩
theorem At.cell (a : At F B0 H0 Bg Γ ((l, ot) :: W) σ B H) : (F l ∨ H0 l = none) ∧ (B l = none ∧ ¬ Iv.F H l) ∧ ∃ o, H l = some o ∧ ot.p B o := a.o.each _ List.mem_cons_self
theorem At.new (a : At F B0 H0 Bg Γ W σ B H) (hl : H l = none) (h : ot.p B o) : At F B0 H0 Bg Γ ((l, ot) :: W) σ B (upd H l o) := by
  have h0 : H0 l = none := a.n.fresh hl
  refine ⟨a.s, a.n.write (a.n.bh.free hl) (.inr h0) (a.n.bh.nf hl), a.g, fun q hq => ?_, List.nodup_cons.mpr ⟨fun z => ?_, a.o.apart⟩⟩
  · rcases List.mem_cons.mp hq with e | hq
    · subst e
      exact ⟨.inr h0, ⟨a.n.bh.free hl, nfu a.n.bh (a.n.bh.nf hl) (a.n.bh.nf hl)⟩, o, upd_same, h⟩
    · obtain ⟨h1, h2, u, h3, h4⟩ := a.o.each q hq
      exact ⟨h1, ⟨h2.1, nfu a.n.bh (a.n.bh.nf hl) h2.2⟩, u, by rw [upd_ne (ne_of_none h3 hl)]; exact h3, h4⟩
  · obtain ⟨q, hq, e⟩ := List.mem_map.mp z
    have e : q.1 = l := e
    obtain ⟨_, _, u, h3, _⟩ := a.o.each q hq
    rw [e, hl] at h3
    cases h3
theorem At.wr (a : At F B0 H0 Bg Γ ((l, ot) :: W) σ B H) (h : ot'.p B o) : At F B0 H0 Bg Γ ((l, ot') :: W) σ B (upd H l o) := by
  obtain ⟨h1, h2, _⟩ := a.cell
  have ap := List.nodup_cons.mp a.o.apart
  refine ⟨a.s, a.n.write h2.1 h1 h2.2, a.g, fun q hq => ?_, List.nodup_cons.mpr ap⟩
  rcases List.mem_cons.mp hq with e | hq
  · subst e
    exact ⟨h1, ⟨h2.1, nfu a.n.bh h2.2 h2.2⟩, o, upd_same, h⟩
  · obtain ⟨k1, k2, u, k3, k4⟩ := a.o.each q (List.mem_cons_of_mem _ hq)
    have ne : q.1 ≠ l := fun e => ap.1 (List.mem_map.mpr ⟨q, hq, e⟩)
    exact ⟨k1, ⟨k2.1, nfu a.n.bh h2.2 k2.2⟩, u, by rw [upd_ne ne]; exact k3, k4⟩
theorem same_upd (h : B l = none) : Same B (upd B l o) := fun x u e => by rw [upd_ne (ne_of_none e h)]; exact e
/-- a cell laid for good -/
theorem At.frz (a : At F B0 H0 Bg Γ ((l, ot) :: W) σ B H) (h0 : H0 l = none) : ∃ o B', At F B0 H0 Bg Γ W σ B' H ∧ Same B B' ∧ B' l = some o ∧ ot.p B' o := by
  obtain ⟨_, h2, o, h3, h4⟩ := a.cell
  have ap := List.nodup_cons.mp a.o.apart
  refine ⟨o, upd B l o, ⟨a.s.mono (same_upd h2.1), a.n.freeze h2.1 h3 h0 h2.2, a.g.trans (same_upd h2.1), fun q hq => ?_, ap.2⟩, same_upd h2.1, upd_same, ot.mono (same_upd h2.1) h4⟩
  obtain ⟨k1, k2, u, k3, k4⟩ := a.o.each q (List.mem_cons_of_mem _ hq)
  have ne : q.1 ≠ l := fun e => ap.1 (List.mem_map.mpr ⟨q, hq, e⟩)
  exact ⟨k1, ⟨by rw [upd_ne ne]; exact k2.1, k2.2⟩, u, k3, q.2.mono (same_upd h2.1) k4⟩
theorem SOk.re {s : SOk Γ B σ} (hi : Γ[i]? = some (some (tV v))) (h : t.p B v) : SOk (Γ.set i (some t)) B σ := by
  obtain ⟨w, h1, h2⟩ := s.2 i _ hi
  have e : w = v := h2
  subst e
  have k := s.set i h
  have e2 : σ.set i (some w) = σ := by
    refine List.ext_getElem? fun j => ?_
    rw [List.getElem?_set]
    by_cases hj : i = j
    · subst hj
      obtain ⟨hl, _⟩ := List.getElem?_eq_some_iff.mp h1
      rw [if_pos rfl, if_pos hl, h1]
    · rw [if_neg hj]
  rw [e2] at k
  exact k
/-- a list that was filled, laid for good: its slot's type -/
theorem At.frzL {ts : List Ty} (a : At F B0 H0 Bg Γ ((l, oL ts) :: W) σ B H) (h0 : H0 l = none) (hi : Γ[i]? = some (some (tV (.ref l)))) : ∃ B', Same B B' ∧ At F B0 H0 Bg (Γ.set i (some (tL ts))) W σ B' H := by
  obtain ⟨o, B1, a1, b1, h1, vs, e, r⟩ := a.frz h0
  subst e
  exact ⟨B1, b1, a1.ctx (SOk.re (s := a1.s) hi ⟨l, vs, rfl, h1, r⟩)⟩
theorem At.reg (a : At F B0 H0 Bg Γ W σ B H) {B1 : Hp} (h : Same B1 B) : At F B0 H0 B1 Γ W σ B H := ⟨a.s, a.n, h, a.o⟩
end
/-! ### statements -/
section
variable {X : Cx} {F : Addr → Prop} {B0 H0 Bg : Hp} {Γ : Ctx} {W : Cells} {σ : L2.St} {B H : Hp} {i : Nat} {t : Ty} {v : V} {l : Addr} {x : Str} {e c : Expr} {rest thn els body : List Stmt} {D : Ends} {pos p1 p2 p3 : Pos}
theorem rs_nil (q : D.nx σ H) : RS X [] D σ H := ⟨_, pss_nil, q⟩
theorem rs_ps {st : Stmt} {ts : TS} (h : PS X st ts) (q : ts { D with nx := fun σ' H' => RS X rest D σ' H' } σ H) : RS X (st :: rest) D σ H := ⟨_, pss_cons h pss_c, q⟩
/-- x = e -/
theorem rs_set (a : At F B0 H0 Bg Γ W σ B H) (h : EvE X Γ e t) (hN : X.N.Nodup) (hi : X.N[i]? = some x) (hx : Loc X.env.scope x) (k : ∀ σ' B' H', Same B B' → At F B0 H0 Bg (Γ.set i (some t)) W σ' B' H' → RS X rest D σ' H')
    (hs : swapsWith e (some (.Name x p1)) pos.line X.env = pure false := by rfl) (hf : X.fn x = true ∨ X.env.scope.names.lookup x = some .local := by first | exact .inl rfl | exact .inr rfl) : RS X (.Assign [.Name x p1] e pos :: rest) D σ H :=
  rs_ps (ps_set hN hi hx pe_c hs hf) (h σ B H a.s a.n.bh _ fun v B1 H1 n1 r1 => k _ B1 H1 n1.bb ((a.step n1).set i r1))
/-- any target -/
theorem rs_asg {tg : Expr} {u : Ctx → Ctx} {js : List Nat} (a : At F B0 H0 Bg Γ W σ B H) (h : EvE X Γ e t) (ht : Tgt X tg t u js) (k : ∀ σ' B' H', Same B B' → At F B0 H0 Bg (u Γ) W σ' B' H' → RS X rest D σ' H')
    (hs : swapsWithSole [tg] e pos.line X.env = pure false := by rfl) (hw : swappedStores [tg] e X.env = pure none := by rfl) (h1 : (assignEach [tg] X.env).map (·.2) = [assign tg X.env] := by rfl) : RS X (.Assign [tg] e pos :: rest) D σ H :=
  rs_ps (ps_asg pe_c pg_c hs hw h1) (h σ B H a.s a.n.bh _ fun v B1 H1 n1 r1 => ht v σ B1 H1 Γ _ (a.s.mono n1.bb) n1.bh r1 fun σ' s' _ _ => k σ' B1 H1 n1.bb ((a.step n1).ctx s'))
/-- a, b = e1, e2 -/
theorem rs_par {ts1 ts2 : Ty} {i j : Nat} {y : Str} {a b : Expr} {px py pt : Pos} {kt k2 : Nat} {pt2 : Pos} (st : At F B0 H0 Bg Γ W σ B H) (h : EvA X Γ [a, b] [ts1, ts2]) (hc : X.calm = true) (hN : X.N.Nodup) (hi : X.N[i]? = some x) (hj : X.N[j]? = some y) (hij : i ≠ j)
    (hx : X.env.scope.names.lookup x = some .local) (hy : X.env.scope.names.lookup y = some .local) (k : ∀ σ' B' H', Same B B' → At F B0 H0 Bg ((Γ.set i (some ts1)).set j (some ts2)) W σ' B' H' → RS X rest D σ' H')
    (hw : swappedStores [.Tuple [.Name x px, .Name y py] kt pt] (.Tuple [a, b] k2 pt2) X.env = pure (some [x, y]) := by rfl) (hs : swapsWithSole [.Tuple [.Name x px, .Name y py] kt pt] (.Tuple [a, b] k2 pt2) pos.line X.env = pure false := by rfl) :
    RS X (.Assign [.Tuple [.Name x px, .Name y py] kt pt] (.Tuple [a, b] k2 pt2) pos :: rest) D σ H :=
  rs_ps (ps_par hc hN hi hj hij hx hy pa_c hw hs) (h σ B H st.s st.n.bh _ fun vs B1 H1 n1 r1 => by
    cases r1 with
    | cons r r0 =>
      cases r0 with
      | cons r' r1 =>
        cases r1
        exact ⟨_, _, rfl, k _ B1 H1 n1.bb (((st.step n1).set i r).set j r')⟩)
/-- y = [..] on one line -/
theorem rs_setLc {α : Type} {xs : List α} {τ : α → Ty} {p : α → Bool} {g : α → Ty} {u : α → Ctx → Ctx} {js : List Nat} {own : List (Str × Nat)} {elt it tg : Expr} {ifs : List Expr} {scope : Scope} (a : At F B0 H0 Bg Γ W σ B H) (hc : X.calm = true) (hN : X.N.Nodup)
    (hy : X.N[i]? = some x) (hyl : X.env.scope.names.lookup x = some .local) (hsw : swapsWith (.ListComp elt [⟨tg, it, ifs, 0⟩] scope p2) (some (.Name x p1)) pos.line X.env = pure true) (ok : BlkOk X.N X.env.scope scope own)
    (hi : EvI X Γ tg it (xs.map τ)) (hjs : ∀ j ∈ js, j ∈ own.map (·.2)) (hlen : xs.length ≤ 100000)
    (hg : ∀ s H0 C cl fp x, x ∈ xs → Tgt (bX X scope s H0 C cl fp) tg (τ x) (u x) js) (ht : ∀ s H0 C cl fp x, x ∈ xs → EvTs (bX X scope s H0 C cl fp) (u x (wipeC Γ (own.map (·.2)))) ifs (p x))
    (he : ∀ s H0 C cl fp x, x ∈ xs → p x = true → EvE (bX X scope s H0 C cl fp) (u x (wipeC Γ (own.map (·.2)))) elt (g x))
    (k : ∀ σ' B' H', Same B B' → At F B0 H0 Bg (Γ.set i (some (tL ((xs.filter p).map g)))) W σ' B' H' → RS X rest D σ' H') (hs : ∀ x, foldedSetIterable it X.env x = pure x := by intro _; rfl) :
    RS X (.Assign [.Name x p1] (.ListComp elt [⟨tg, it, ifs, 0⟩] scope p2) pos :: rest) D σ H :=
  rs_ps (ps_setLc hc hN hy hyl hsw pi_c ok pg_b pt_b pe_b hs) (run_lc hi hjs hlen hg ht he a.s a.n.bh fun v B1 H1 n1 r1 => k _ B1 H1 n1.bb ((a.step n1).set i r1))
theorem rs_ret (a : At F B0 H0 Bg Γ W σ B H) (h : EvE X Γ e t) (k : ∀ v B' H', Same B B' → At F B0 H0 Bg Γ W σ B' H' → t.p B' v → D.rt v H') : RS X (.Return (some e) pos :: rest) D σ H :=
  rs_ps (ps_ret pe_c) (h σ B H a.s a.n.bh _ fun v B1 H1 n1 r1 => k v B1 H1 n1.bb (a.step n1) r1)
theorem rs_if {b : Bool} (a : At F B0 H0 Bg Γ W σ B H) (h : EvT X Γ c b) (k1 : b = true → ∀ B' H', Same B B' → At F B0 H0 Bg Γ W σ B' H' → RS X thn { D with nx := fun σ' H' => RS X rest D σ' H' } σ H')
    (k2 : b = false → ∀ B' H', Same B B' → At F B0 H0 Bg Γ W σ B' H' → RS X els { D with nx := fun σ' H' => RS X rest D σ' H' } σ H') : RS X (.If c thn els pos :: rest) D σ H :=
  rs_ps (ps_if pt_c pss_c pss_c) (h σ B H a.s a.n.bh _ fun B1 H1 n1 => by
    cases b with
    | true => exact k1 rfl B1 H1 n1.bb (a.step n1)
    | false => exact k2 rfl B1 H1 n1.bb (a.step n1))
/-- an if without else -/
theorem rs_when {b : Bool} (a : At F B0 H0 Bg Γ W σ B H) (h : EvT X Γ c b) (k1 : b = true → ∀ B' H', Same B B' → At F B0 H0 Bg Γ W σ B' H' → RS X thn { D with nx := fun σ' H' => RS X rest D σ' H' } σ H')
    (k2 : b = false → ∀ B' H', Same B B' → At F B0 H0 Bg Γ W σ B' H' → RS X rest D σ H') : RS X (.If c thn [] pos :: rest) D σ H :=
  rs_if a h k1 fun hb B' H' s' a' => rs_nil (k2 hb B' H' s' a')
/-- a for loop: I tells the context and the cells ahead of turn i -/
theorem rs_for {α : Type} {xs : List α} {τ : α → Ty} {u : α → Ctx → Ctx} {js : List Nat} {tg it : Expr} (a : At F B0 H0 Bg Γ W σ B H) (hc : X.calm = true) (hi : EvI X Γ tg it (xs.map τ)) (ht : ∀ x, x ∈ xs → Tgt X tg (τ x) (u x) js)
    (I : Nat → Ctx → Cells → Prop) (h0 : I 0 Γ W)
    (turn : ∀ (B1 : Hp), Same B B1 → ∀ (i : Nat) (x : α) (Γ1 : Ctx) (W1 : Cells) (σ1 : L2.St) (B2 H2 : Hp), xs[i]? = some x → I i Γ1 W1 → At F B0 H0 B1 (u x Γ1) W1 σ1 B2 H2 →
      RS X body ⟨fun σ' H' => ∃ Γ2 W2 B', I (i + 1) Γ2 W2 ∧ At F B0 H0 B1 Γ2 W2 σ' B' H', D.rt, fun σ' H' => RS X rest D σ' H', fun σ' H' => ∃ Γ2 W2 B', I (i + 1) Γ2 W2 ∧ At F B0 H0 B1 Γ2 W2 σ' B' H'⟩ σ1 H2)
    (done : ∀ (Γ1 : Ctx) (W1 : Cells) (σ1 : L2.St) (B1 H1 : Hp), Same B B1 → I xs.length Γ1 W1 → At F B0 H0 Bg Γ1 W1 σ1 B1 H1 → RS X rest D σ1 H1)
    (hp : PassesOwn (model X.prog X.w) X.A X.env X.xe := by exact PassesOwn.never) (hs : ∀ x, foldedSetIterable it X.env x = pure x := by intro _; rfl) : RS X (.For tg it body [] pos :: rest) D σ H :=
  rs_ps (ps_for hp hc pi_c pg_c pss_c hs) (hi σ B H a.s a.n.bh _ fun J B1 H1 n1 src => by
    have hl : (xs.map τ).length = xs.length := List.length_map ..
    have w : Walk J xs.length (fun H => ∃ B2, Same B1 B2 ∧ Sm B2 H) J.yld := ⟨fun i H hi ⟨B2, b1, b2⟩ => src.goes i B2 H b1 b2 (by rw [hl]; exact hi), fun H ⟨B2, b1, b2⟩ => by rw [← hl]; exact src.stop B2 H b1 b2, fun i H x H' _ _ y => y⟩
    refine for_it w (fun i σ' H' => ∃ Γ2 W2 B', I i Γ2 W2 ∧ At F B0 H0 B1 Γ2 W2 σ' B' H') ⟨Γ, W, B1, h0, (a.step n1).reg (Same.refl B1)⟩ (fun i σ' H' _ ⟨_, _, B', _, a'⟩ => ⟨B', a'.g, a'.n.bh⟩) (fun i v σ' H2 H3 hi ⟨Γ2, W2, B2, hI, a2⟩ y => ?_)
      fun σ' H' ⟨Γ2, W2, B', hI, a'⟩ => done Γ2 W2 σ' B' H' (n1.bb.trans a'.g) hI (a'.reg ((a.g.trans n1.bb).trans a'.g))
    have hx : xs[i]? = some xs[i] := by simp [hi]
    obtain ⟨B3, n3, tv⟩ := src.yld i (τ xs[i]) B2 H2 v H3 a2.g a2.n.bh (by rw [List.getElem?_map, hx]; rfl) y
    have a3 := a2.step n3
    exact ht xs[i] (List.getElem_mem hi) v σ' B3 H3 Γ2 _ a3.s a3.n.bh tv fun σ2 s2 _ _ => turn B1 n1.bb i xs[i] Γ2 W2 σ2 B3 H3 hx hI (a3.ctx s2))
/-! ### lists that are filled -/
/-- x = [..], a list that is to be changed -/
theorem rs_setL {es : List Expr} {ts : List Ty} (a : At F B0 H0 Bg Γ W σ B H) (h : EvA X Γ es ts) (hN : X.N.Nodup) (hi : X.N[i]? = some x) (hx : Loc X.env.scope x) (k : ∀ l σ' B' H', Same B B' → H0 l = none → At F B0 H0 Bg (Γ.set i (some (tV (.ref l)))) ((l, oL ts) :: W) σ' B' H' → RS X rest D σ' H')
    (hl : ts.length ≤ 100000 := by exact Nat.le_of_ble_eq_true rfl) (hs : swapsWith (.List es p2) (some (.Name x p1)) pos.line X.env = pure false := by rfl) (hf : X.fn x = true ∨ X.env.scope.names.lookup x = some .local := by first | exact .inl rfl | exact .inr rfl) :
    RS X (.Assign [.Name x p1] (.List es p2) pos :: rest) D σ H :=
  rs_ps (ps_set hN hi hx (pe_lst pa_c) hs hf) (h σ B H a.s a.n.bh _ fun vs B1 H1 n1 r1 => ⟨by rw [r1.length]; exact sz5 hl, fun l hl => by
    have a1 := a.step n1
    exact k l _ B1 _ n1.bb (a1.n.fresh hl) ((a1.new (ot := oL ts) hl ⟨vs, rfl, r1⟩).set i rfl)⟩)
/-- x.append(e) -/
theorem rs_append {ts : List Ty} {W' : Cells} {apos : Pos} (a : At F B0 H0 Bg Γ W σ B H) (hi : EvE X Γ c (tV (.ref l))) (hW : W.Perm ((l, oL ts) :: W')) (h : EvE X Γ e t) (hl : ts.length < 100000)
    (k : ∀ B' H', Same B B' → At F B0 H0 Bg Γ ((l, oL (ts ++ [t])) :: W') σ B' H' → RS X rest D σ H') {he : starEach (e :: []) X.env = (false, eval e X.env) :: starEach [] X.env} {hs : swapsWith (.Call (.Attribute c "append" apos) [e] [] p1) none pos.line X.env = pure false}
    {hm : PE X (.Call (.Attribute c "append" apos) [e] [] p1) (tBM X.K "list" rAppend (RE X c) (RA X [e]))} : RS X (.Expr (.Call (.Attribute c "append" apos) [e] [] p1) pos :: rest) D σ H :=
  rs_ps (ps_expr hm hs) (hi σ B H a.s a.n.bh _ fun v B1 H1 n1 r1 => by
    have e1 : v = .ref l := r1
    subst e1
    have a1 := (a.step n1).perm hW
    obtain ⟨_, _, o, h3, vs, e3, _⟩ := a1.cell
    subst e3
    refine ⟨.inl ⟨rfl, vs, .of h3⟩, ea_cons h ea_nil he σ B1 H1 a1.s a1.n.bh _ fun ws B2 H2 n2 r2 => ?_⟩
    cases r2 with
    | cons r r0 =>
      cases r0
      have a2 := a1.step n2
      obtain ⟨_, _, o, h3, vs, e3, r3⟩ := a2.cell
      subst e3
      exact ⟨l, vs, _, rfl, rfl, h3, by rw [r3.length]; exact lt5 hl, k B2 _ (n1.bb.trans n2.bb) (a2.wr (ot' := oL (ts ++ [t])) ⟨vs ++ [_], rfl, r3.append (.one r)⟩)⟩)
/-- x.extend(e) -/
theorem rs_extend {ts us : List Ty} {W' : Cells} {apos : Pos} (a : At F B0 H0 Bg Γ W σ B H) (hi : EvE X Γ c (tV (.ref l))) (hW : W.Perm ((l, oL ts) :: W')) (h : EvE X Γ e (tL us)) (hl : ts.length + us.length ≤ 100000)
    (k : ∀ B' H', Same B B' → At F B0 H0 Bg Γ ((l, oL (ts ++ us)) :: W') σ B' H' → RS X rest D σ H') {he : starEach (e :: []) X.env = (false, eval e X.env) :: starEach [] X.env} {hs : swapsWith (.Call (.Attribute c "extend" apos) [e] [] p1) none pos.line X.env = pure false}
    {hm : PE X (.Call (.Attribute c "extend" apos) [e] [] p1) (tBM X.K "list" rExtend (RE X c) (RA X [e]))} : RS X (.Expr (.Call (.Attribute c "extend" apos) [e] [] p1) pos :: rest) D σ H :=
  rs_ps (ps_expr hm hs) (hi σ B H a.s a.n.bh _ fun v B1 H1 n1 r1 => by
    have e1 : v = .ref l := r1
    subst e1
    have a1 := (a.step n1).perm hW
    obtain ⟨_, _, o, h3, vs, e3, _⟩ := a1.cell
    subst e3
    refine ⟨.inl ⟨rfl, vs, .of h3⟩, ea_cons h ea_nil he σ B1 H1 a1.s a1.n.bh _ fun ws B2 H2 n2 r2 => ?_⟩
    cases r2 with
    | cons r r0 =>
      cases r0
      have a2 := a1.step n2
      obtain ⟨_, _, o, h3, vs, e3, r3⟩ := a2.cell
      subst e3
      obtain ⟨q, zs, e4, h4, r4⟩ := r
      subst e4
      exact ⟨l, q, vs, zs, rfl, rfl, h3, a2.n.bh _ _ h4, by rw [r3.length, r4.length]; exact sz5 hl, k B2 _ (n1.bb.trans n2.bb) (a2.wr (ot' := oL (ts ++ us)) ⟨vs ++ zs, rfl, r3.append r4⟩)⟩)
end
end Ls
set_option maxHeartbeats 4000000 -- Top
namespace Ls
open PySem Spec PyProof.Rows L2
/-! what the top has left, by names -/
structure Top (K : PySem.W.Frag) (mg : Str → Option Value) : Prop where
  c : He.SaysD fa fn K
  glo : ∀ x : Str, (He.Fa.glo x).ok K = true → mg x = some (.ref (He.ga K x))
  free : ∀ x : Str, (He.Fa.free x).ok K = true → mg x = none
  int : ∀ (x : Str) (i : Int), (He.Fa.int x i).ok K = true → ∃ t, mg x = some (.int i t)
  str : ∀ x z : Str, (He.Fa.str x z).ok K = true → ∃ t, mg x = some (.str z t)
  ex : Ls.ex K = true
  pr : ∀ (i : Nat) (q : PrD), Ls.pr[i]? = some q → q.ok K = true ∧ prW K q = q.d.val
theorem Top.mk' {K : PySem.W.Frag} {h : Heap} {mg : Str → Option Value} (X : K.In h) (G : h.Ns mainGlobals mg) (c : SaysM fa fn Ls.pr Ls.ex K) : Top K mg :=
  ⟨c.parts.1, fun _ e => He.glo_ok X G e, fun _ e => He.free_ok X G e, fun _ _ e => He.int_ok X G e, fun _ _ e => He.str_ok X G e, c.parts.2.1, c.parts.2.2⟩
section
variable {K : PySem.W.Frag} {mg : Str → Option Value}
theorem Top.g_is_integer (T : Top K mg) : mg "is_integer" = some (.ref (He.ga K "is_integer")) := T.glo _ (T.c.fact 0 (f := .glo "is_integer") rfl)
theorem Top.g_is_number (T : Top K mg) : mg "is_number" = some (.ref (He.ga K "is_number")) := T.glo _ (T.c.fact 1 (f := .glo "is_number") rfl)
theorem Top.g_is_end (T : Top K mg) : mg "is_end" = some (.ref (He.ga K "is_end")) := T.glo _ (T.c.fact 2 (f := .glo "is_end") rfl)
theorem Top.g_is_size (T : Top K mg) : mg "is_size" = some (.ref (He.ga K "is_size")) := T.glo _ (T.c.fact 3 (f := .glo "is_size") rfl)
theorem Top.g_are_sizes (T : Top K mg) : mg "are_sizes" = some (.ref (He.ga K "are_sizes")) := T.glo _ (T.c.fact 4 (f := .glo "are_sizes") rfl)
theorem Top.g_is_choice (T : Top K mg) : mg "is_choice" = some (.ref (He.ga K "is_choice")) := T.glo _ (T.c.fact 5 (f := .glo "is_choice") rfl)
theorem Top.g_fits (T : Top K mg) : mg "fits" = some (.ref (He.ga K "fits")) := T.glo _ (T.c.fact 6 (f := .glo "fits") rfl)
theorem Top.g_parts (T : Top K mg) : mg "parts" = some (.ref (He.ga K "parts")) := T.glo _ (T.c.fact 7 (f := .glo "parts") rfl)
theorem Top.g_check_size (T : Top K mg) : mg "check_size" = some (.ref (He.ga K "check_size")) := T.glo _ (T.c.fact 8 (f := .glo "check_size") rfl)
theorem Top.g_possible (T : Top K mg) : mg "possible" = some (.ref (He.ga K "possible")) := T.glo _ (T.c.fact 9 (f := .glo "possible") rfl)
theorem Top.g_good_befores (T : Top K mg) : mg "good_befores" = some (.ref (He.ga K "good_befores")) := T.glo _ (T.c.fact 10 (f := .glo "good_befores") rfl)
theorem Top.g_let (T : Top K mg) : mg "let" = some (.ref (He.ga K "let")) := T.glo _ (T.c.fact 11 (f := .glo "let") rfl)
theorem Top.g_offered (T : Top K mg) : mg "offered" = some (.ref (He.ga K "offered")) := T.glo _ (T.c.fact 12 (f := .glo "offered") rfl)
theorem Top.g_sales (T : Top K mg) : mg "sales" = some (.ref (He.ga K "sales")) := T.glo _ (T.c.fact 13 (f := .glo "sales") rfl)
theorem Top.g_is_sold (T : Top K mg) : mg "is_sold" = some (.ref (He.ga K "is_sold")) := T.glo _ (T.c.fact 14 (f := .glo "is_sold") rfl)
theorem Top.g_refuses (T : Top K mg) : mg "refuses" = some (.ref (He.ga K "refuses")) := T.glo _ (T.c.fact 15 (f := .glo "refuses") rfl)
theorem Top.g_is_stuck (T : Top K mg) : mg "is_stuck" = some (.ref (He.ga K "is_stuck")) := T.glo _ (T.c.fact 16 (f := .glo "is_stuck") rfl)
theorem Top.g_is_price (T : Top K mg) : mg "is_price" = some (.ref (He.ga K "is_price")) := T.glo _ (T.c.fact 17 (f := .glo "is_price") rfl)
theorem Top.g_are_prices (T : Top K mg) : mg "are_prices" = some (.ref (He.ga K "are_prices")) := T.glo _ (T.c.fact 18 (f := .glo "are_prices") rfl)
theorem Top.g_need_until (T : Top K mg) : mg "need_until" = some (.ref (He.ga K "need_until")) := T.glo _ (T.c.fact 19 (f := .glo "need_until") rfl)
theorem Top.g_may_end (T : Top K mg) : mg "may_end" = some (.ref (He.ga K "may_end")) := T.glo _ (T.c.fact 20 (f := .glo "may_end") rfl)
theorem Top.g_greatest (T : Top K mg) : mg "greatest" = some (.ref (He.ga K "greatest")) := T.glo _ (T.c.fact 21 (f := .glo "greatest") rfl)
theorem Top.g_least (T : Top K mg) : mg "least" = some (.ref (He.ga K "least")) := T.glo _ (T.c.fact 22 (f := .glo "least") rfl)
theorem Top.g_table (T : Top K mg) : mg "table" = some (.ref (He.ga K "table")) := T.glo _ (T.c.fact 23 (f := .glo "table") rfl)
theorem Top.g_totals_of (T : Top K mg) : mg "totals_of" = some (.ref (He.ga K "totals_of")) := T.glo _ (T.c.fact 24 (f := .glo "totals_of") rfl)
theorem Top.g_all_totals (T : Top K mg) : mg "all_totals" = some (.ref (He.ga K "all_totals")) := T.glo _ (T.c.fact 25 (f := .glo "all_totals") rfl)
theorem Top.g_play_for (T : Top K mg) : mg "play_for" = some (.ref (He.ga K "play_for")) := T.glo _ (T.c.fact 26 (f := .glo "play_for") rfl)
theorem Top.g_left_behind (T : Top K mg) : mg "left_behind" = some (.ref (He.ga K "left_behind")) := T.glo _ (T.c.fact 27 (f := .glo "left_behind") rfl)
theorem Top.g_behind_sale (T : Top K mg) : mg "behind_sale" = some (.ref (He.ga K "behind_sale")) := T.glo _ (T.c.fact 28 (f := .glo "behind_sale") rfl)
theorem Top.g_total_of (T : Top K mg) : mg "total_of" = some (.ref (He.ga K "total_of")) := T.glo _ (T.c.fact 29 (f := .glo "total_of") rfl)
theorem Top.g_is_row (T : Top K mg) : mg "is_row" = some (.ref (He.ga K "is_row")) := T.glo _ (T.c.fact 30 (f := .glo "is_row") rfl)
theorem Top.g_are_rows (T : Top K mg) : mg "are_rows" = some (.ref (He.ga K "are_rows")) := T.glo _ (T.c.fact 31 (f := .glo "are_rows") rfl)
theorem Top.g_row_stretches (T : Top K mg) : mg "row_stretches" = some (.ref (He.ga K "row_stretches")) := T.glo _ (T.c.fact 32 (f := .glo "row_stretches") rfl)
theorem Top.g_are_bad (T : Top K mg) : mg "are_bad" = some (.ref (He.ga K "are_bad")) := T.glo _ (T.c.fact 33 (f := .glo "are_bad") rfl)
theorem Top.g_is_offer (T : Top K mg) : mg "is_offer" = some (.ref (He.ga K "is_offer")) := T.glo _ (T.c.fact 34 (f := .glo "is_offer") rfl)
theorem Top.g_first_wrong (T : Top K mg) : mg "first_wrong" = some (.ref (He.ga K "first_wrong")) := T.glo _ (T.c.fact 35 (f := .glo "first_wrong") rfl)
theorem Top.g_sum_of (T : Top K mg) : mg "sum_of" = some (.ref (He.ga K "sum_of")) := T.glo _ (T.c.fact 36 (f := .glo "sum_of") rfl)
theorem Top.g_greatest_in (T : Top K mg) : mg "greatest_in" = some (.ref (He.ga K "greatest_in")) := T.glo _ (T.c.fact 37 (f := .glo "greatest_in") rfl)
theorem Top.g_least_in (T : Top K mg) : mg "least_in" = some (.ref (He.ga K "least_in")) := T.glo _ (T.c.fact 38 (f := .glo "least_in") rfl)
theorem Top.g_plan_play (T : Top K mg) : mg "plan_play" = some (.ref (He.ga K "plan_play")) := T.glo _ (T.c.fact 39 (f := .glo "plan_play") rfl)
theorem Top.g__law_bag (T : Top K mg) : mg "_law_bag" = some (.ref (He.ga K "_law_bag")) := T.glo _ (T.c.fact 40 (f := .glo "_law_bag") rfl)
theorem Top.g__law_take (T : Top K mg) : mg "_law_take" = some (.ref (He.ga K "_law_take")) := T.glo _ (T.c.fact 41 (f := .glo "_law_take") rfl)
theorem Top.g__law_alike (T : Top K mg) : mg "_law_alike" = some (.ref (He.ga K "_law_alike")) := T.glo _ (T.c.fact 42 (f := .glo "_law_alike") rfl)
theorem Top.g__law_mixed (T : Top K mg) : mg "_law_mixed" = some (.ref (He.ga K "_law_mixed")) := T.glo _ (T.c.fact 43 (f := .glo "_law_mixed") rfl)
theorem Top.g__law_one (T : Top K mg) : mg "_law_one" = some (.ref (He.ga K "_law_one")) := T.glo _ (T.c.fact 44 (f := .glo "_law_one") rfl)
theorem Top.g__law_ends (T : Top K mg) : mg "_law_ends" = some (.ref (He.ga K "_law_ends")) := T.glo _ (T.c.fact 45 (f := .glo "_law_ends") rfl)
theorem Top.g__law_end (T : Top K mg) : mg "_law_end" = some (.ref (He.ga K "_law_end")) := T.glo _ (T.c.fact 46 (f := .glo "_law_end") rfl)
theorem Top.g__law_lengths (T : Top K mg) : mg "_law_lengths" = some (.ref (He.ga K "_law_lengths")) := T.glo _ (T.c.fact 47 (f := .glo "_law_lengths") rfl)
theorem Top.g__law_sizes (T : Top K mg) : mg "_law_sizes" = some (.ref (He.ga K "_law_sizes")) := T.glo _ (T.c.fact 48 (f := .glo "_law_sizes") rfl)
theorem Top.g__law_rule (T : Top K mg) : mg "_law_rule" = some (.ref (He.ga K "_law_rule")) := T.glo _ (T.c.fact 49 (f := .glo "_law_rule") rfl)
theorem Top.g__law_made (T : Top K mg) : mg "_law_made" = some (.ref (He.ga K "_law_made")) := T.glo _ (T.c.fact 50 (f := .glo "_law_made") rfl)
theorem Top.g__law_stretch (T : Top K mg) : mg "_law_stretch" = some (.ref (He.ga K "_law_stretch")) := T.glo _ (T.c.fact 51 (f := .glo "_law_stretch") rfl)
theorem Top.g__law_befores (T : Top K mg) : mg "_law_befores" = some (.ref (He.ga K "_law_befores")) := T.glo _ (T.c.fact 52 (f := .glo "_law_befores") rfl)
theorem Top.g__law_spoils (T : Top K mg) : mg "_law_spoils" = some (.ref (He.ga K "_law_spoils")) := T.glo _ (T.c.fact 53 (f := .glo "_law_spoils") rfl)
theorem Top.g__law_offers (T : Top K mg) : mg "_law_offers" = some (.ref (He.ga K "_law_offers")) := T.glo _ (T.c.fact 54 (f := .glo "_law_offers") rfl)
theorem Top.g__law_all_sales (T : Top K mg) : mg "_law_all_sales" = some (.ref (He.ga K "_law_all_sales")) := T.glo _ (T.c.fact 55 (f := .glo "_law_all_sales") rfl)
theorem Top.g__law_parted (T : Top K mg) : mg "_law_parted" = some (.ref (He.ga K "_law_parted")) := T.glo _ (T.c.fact 56 (f := .glo "_law_parted") rfl)
theorem Top.g__law_worth (T : Top K mg) : mg "_law_worth" = some (.ref (He.ga K "_law_worth")) := T.glo _ (T.c.fact 57 (f := .glo "_law_worth") rfl)
theorem Top.g__law_worth_made (T : Top K mg) : mg "_law_worth_made" = some (.ref (He.ga K "_law_worth_made")) := T.glo _ (T.c.fact 58 (f := .glo "_law_worth_made") rfl)
theorem Top.g__law_price (T : Top K mg) : mg "_law_price" = some (.ref (He.ga K "_law_price")) := T.glo _ (T.c.fact 59 (f := .glo "_law_price") rfl)
theorem Top.g__law_may_end (T : Top K mg) : mg "_law_may_end" = some (.ref (He.ga K "_law_may_end")) := T.glo _ (T.c.fact 60 (f := .glo "_law_may_end") rfl)
theorem Top.g__law_best (T : Top K mg) : mg "_law_best" = some (.ref (He.ga K "_law_best")) := T.glo _ (T.c.fact 61 (f := .glo "_law_best") rfl)
theorem Top.g__law_tables (T : Top K mg) : mg "_law_tables" = some (.ref (He.ga K "_law_tables")) := T.glo _ (T.c.fact 62 (f := .glo "_law_tables") rfl)
theorem Top.g__law_led (T : Top K mg) : mg "_law_led" = some (.ref (He.ga K "_law_led")) := T.glo _ (T.c.fact 63 (f := .glo "_law_led") rfl)
theorem Top.g__law_walked (T : Top K mg) : mg "_law_walked" = some (.ref (He.ga K "_law_walked")) := T.glo _ (T.c.fact 64 (f := .glo "_law_walked") rfl)
theorem Top.g__law_all_end (T : Top K mg) : mg "_law_all_end" = some (.ref (He.ga K "_law_all_end")) := T.glo _ (T.c.fact 65 (f := .glo "_law_all_end") rfl)
theorem Top.g__law_total (T : Top K mg) : mg "_law_total" = some (.ref (He.ga K "_law_total")) := T.glo _ (T.c.fact 66 (f := .glo "_law_total") rfl)
theorem Top.g__law_sales_in (T : Top K mg) : mg "_law_sales_in" = some (.ref (He.ga K "_law_sales_in")) := T.glo _ (T.c.fact 67 (f := .glo "_law_sales_in") rfl)
theorem Top.g__law_drawn_play (T : Top K mg) : mg "_law_drawn_play" = some (.ref (He.ga K "_law_drawn_play")) := T.glo _ (T.c.fact 68 (f := .glo "_law_drawn_play") rfl)
theorem Top.g__law_stretches (T : Top K mg) : mg "_law_stretches" = some (.ref (He.ga K "_law_stretches")) := T.glo _ (T.c.fact 69 (f := .glo "_law_stretches") rfl)
theorem Top.g__law_all_totals (T : Top K mg) : mg "_law_all_totals" = some (.ref (He.ga K "_law_all_totals")) := T.glo _ (T.c.fact 70 (f := .glo "_law_all_totals") rfl)
theorem Top.g__law_stretch_right (T : Top K mg) : mg "_law_stretch_right" = some (.ref (He.ga K "_law_stretch_right")) := T.glo _ (T.c.fact 71 (f := .glo "_law_stretch_right") rfl)
theorem Top.g__law_plan_right (T : Top K mg) : mg "_law_plan_right" = some (.ref (He.ga K "_law_plan_right")) := T.glo _ (T.c.fact 72 (f := .glo "_law_plan_right") rfl)
theorem Top.g_law (T : Top K mg) : mg "law" = some (.ref (He.ga K "law")) := T.glo _ (T.c.fact 73 (f := .glo "law") rfl)
theorem Top.g_Worth (T : Top K mg) : mg "Worth" = some (.ref (He.ga K "Worth")) := T.glo _ (T.c.fact 74 (f := .glo "Worth") rfl)
theorem Top.c_Worth (T : Top K mg) : Cls K (He.ga K "Worth") := He.cls_ok (T.c.fact 75 (f := .cls "Worth") rfl)
theorem Top.m_Worth (T : Top K mg) : Mk K (He.ga K "Worth") (He.ma K (He.ga K "Worth") "__init__") := He.mkr_ok (T.c.fact 76 (f := .mkr "Worth") rfl)
theorem Top.g_Tables (T : Top K mg) : mg "Tables" = some (.ref (He.ga K "Tables")) := T.glo _ (T.c.fact 77 (f := .glo "Tables") rfl)
theorem Top.c_Tables (T : Top K mg) : Cls K (He.ga K "Tables") := He.cls_ok (T.c.fact 78 (f := .cls "Tables") rfl)
theorem Top.m_Tables (T : Top K mg) : Mk K (He.ga K "Tables") (He.ma K (He.ga K "Tables") "__init__") := He.mkr_ok (T.c.fact 79 (f := .mkr "Tables") rfl)
theorem Top.g_Plan (T : Top K mg) : mg "Plan" = some (.ref (He.ga K "Plan")) := T.glo _ (T.c.fact 80 (f := .glo "Plan") rfl)
theorem Top.c_Plan (T : Top K mg) : Cls K (He.ga K "Plan") := He.cls_ok (T.c.fact 81 (f := .cls "Plan") rfl)
theorem Top.m_Plan (T : Top K mg) : Mk K (He.ga K "Plan") (He.ma K (He.ga K "Plan") "__init__") := He.mkr_ok (T.c.fact 82 (f := .mkr "Plan") rfl)
theorem Top.g_Rule (T : Top K mg) : mg "Rule" = some (.ref (He.ga K "Rule")) := T.glo _ (T.c.fact 83 (f := .glo "Rule") rfl)
theorem Top.c_Rule (T : Top K mg) : Cls K (He.ga K "Rule") := He.cls_ok (T.c.fact 84 (f := .cls "Rule") rfl)
theorem Top.m_Rule (T : Top K mg) : Mk K (He.ga K "Rule") (He.ma K (He.ga K "Rule") "__init__") := He.mkr_ok (T.c.fact 85 (f := .mkr "Rule") rfl)
theorem Top.t_Worth_price (T : Top K mg) : Meth K (He.ga K "Worth") "price" (He.ma K (He.ga K "Worth") "price") := He.meth_ok (T.c.fact 86 (f := .meth "Worth" "price") rfl)
theorem Top.t_Worth_total (T : Top K mg) : Meth K (He.ga K "Worth") "total" (He.ma K (He.ga K "Worth") "total") := He.meth_ok (T.c.fact 87 (f := .meth "Worth" "total") rfl)
theorem Top.t_Tables_chosen (T : Top K mg) : Meth K (He.ga K "Tables") "chosen" (He.ma K (He.ga K "Tables") "chosen") := He.meth_ok (T.c.fact 88 (f := .meth "Tables" "chosen") rfl)
theorem Top.t_Tables_row (T : Top K mg) : Meth K (He.ga K "Tables") "row" (He.ma K (He.ga K "Tables") "row") := He.meth_ok (T.c.fact 89 (f := .meth "Tables" "row") rfl)
theorem Top.t_Tables_ways (T : Top K mg) : Meth K (He.ga K "Tables") "ways" (He.ma K (He.ga K "Tables") "ways") := He.meth_ok (T.c.fact 90 (f := .meth "Tables" "ways") rfl)
theorem Top.t_Tables_best (T : Top K mg) : Meth K (He.ga K "Tables") "best" (He.ma K (He.ga K "Tables") "best") := He.meth_ok (T.c.fact 91 (f := .meth "Tables" "best") rfl)
theorem Top.t_Tables_best_sale (T : Top K mg) : Meth K (He.ga K "Tables") "best_sale" (He.ma K (He.ga K "Tables") "best_sale") := He.meth_ok (T.c.fact 92 (f := .meth "Tables" "best_sale") rfl)
theorem Top.t_Plan_stretches (T : Top K mg) : Meth K (He.ga K "Plan") "stretches" (He.ma K (He.ga K "Plan") "stretches") := He.meth_ok (T.c.fact 93 (f := .meth "Plan" "stretches") rfl)
theorem Top.t_Rule_bad_at (T : Top K mg) : Meth K (He.ga K "Rule") "bad_at" (He.ma K (He.ga K "Rule") "bad_at") := He.meth_ok (T.c.fact 94 (f := .meth "Rule" "bad_at") rfl)
theorem Top.n_Worth_its_prices (T : Top K mg) : NoAttr K (He.ga K "Worth") "its_prices" := He.noat_ok (T.c.fact 95 (f := .noat "Worth" "its_prices") rfl)
theorem Top.n_Worth_its_free (T : Top K mg) : NoAttr K (He.ga K "Worth") "its_free" := He.noat_ok (T.c.fact 96 (f := .noat "Worth" "its_free") rfl)
theorem Top.n_Worth_its_until (T : Top K mg) : NoAttr K (He.ga K "Worth") "its_until" := He.noat_ok (T.c.fact 97 (f := .noat "Worth" "its_until") rfl)
theorem Top.n_Tables_its_rule (T : Top K mg) : NoAttr K (He.ga K "Tables") "its_rule" := He.noat_ok (T.c.fact 98 (f := .noat "Tables" "its_rule") rfl)
theorem Top.n_Tables_its_worth (T : Top K mg) : NoAttr K (He.ga K "Tables") "its_worth" := He.noat_ok (T.c.fact 99 (f := .noat "Tables" "its_worth") rfl)
theorem Top.n_Tables_its_least (T : Top K mg) : NoAttr K (He.ga K "Tables") "its_least" := He.noat_ok (T.c.fact 100 (f := .noat "Tables" "its_least") rfl)
theorem Top.n_Tables_its_rows (T : Top K mg) : NoAttr K (He.ga K "Tables") "its_rows" := He.noat_ok (T.c.fact 101 (f := .noat "Tables" "its_rows") rfl)
theorem Top.n_Plan_its_rows (T : Top K mg) : NoAttr K (He.ga K "Plan") "its_rows" := He.noat_ok (T.c.fact 102 (f := .noat "Plan" "its_rows") rfl)
theorem Top.n_Plan_its_seats (T : Top K mg) : NoAttr K (He.ga K "Plan") "its_seats" := He.noat_ok (T.c.fact 103 (f := .noat "Plan" "its_seats") rfl)
theorem Top.n_Rule_its_sizes (T : Top K mg) : NoAttr K (He.ga K "Rule") "its_sizes" := He.noat_ok (T.c.fact 104 (f := .noat "Rule" "its_sizes") rfl)
theorem Top.n_Rule_its_bad (T : Top K mg) : NoAttr K (He.ga K "Rule") "its_bad" := He.noat_ok (T.c.fact 105 (f := .noat "Rule" "its_bad") rfl)
theorem Top.n_Rule_its_soft (T : Top K mg) : NoAttr K (He.ga K "Rule") "its_soft" := He.noat_ok (T.c.fact 106 (f := .noat "Rule" "its_soft") rfl)
theorem Top.n_Rule_its_where (T : Top K mg) : NoAttr K (He.ga K "Rule") "its_where" := He.noat_ok (T.c.fact 107 (f := .noat "Rule" "its_where") rfl)
theorem Top.n_Rule_its_offer (T : Top K mg) : NoAttr K (He.ga K "Rule") "its_offer" := He.noat_ok (T.c.fact 108 (f := .noat "Rule" "its_offer") rfl)
theorem Top.b_isinstance (T : Top K mg) : mg "isinstance" = none := T.free _ (T.c.fact 109 (f := .free "isinstance") rfl)
theorem Top.b_all (T : Top K mg) : mg "all" = none := T.free _ (T.c.fact 110 (f := .free "all") rfl)
theorem Top.b_list (T : Top K mg) : mg "list" = none := T.free _ (T.c.fact 111 (f := .free "list") rfl)
theorem Top.b_tuple (T : Top K mg) : mg "tuple" = none := T.free _ (T.c.fact 112 (f := .free "tuple") rfl)
theorem Top.b_dict (T : Top K mg) : mg "dict" = none := T.free _ (T.c.fact 113 (f := .free "dict") rfl)
theorem Top.b_int (T : Top K mg) : mg "int" = none := T.free _ (T.c.fact 114 (f := .free "int") rfl)
theorem Top.b_str (T : Top K mg) : mg "str" = none := T.free _ (T.c.fact 115 (f := .free "str") rfl)
theorem Top.b_bool (T : Top K mg) : mg "bool" = none := T.free _ (T.c.fact 116 (f := .free "bool") rfl)
theorem Top.b_len (T : Top K mg) : mg "len" = none := T.free _ (T.c.fact 117 (f := .free "len") rfl)
theorem Top.b_sorted (T : Top K mg) : mg "sorted" = none := T.free _ (T.c.fact 118 (f := .free "sorted") rfl)
theorem Top.b_range (T : Top K mg) : mg "range" = none := T.free _ (T.c.fact 119 (f := .free "range") rfl)
theorem Top.b_set (T : Top K mg) : mg "set" = none := T.free _ (T.c.fact 120 (f := .free "set") rfl)
theorem Top.b_min (T : Top K mg) : mg "min" = none := T.free _ (T.c.fact 121 (f := .free "min") rfl)
theorem Top.b_max (T : Top K mg) : mg "max" = none := T.free _ (T.c.fact 122 (f := .free "max") rfl)
theorem Top.b_sum (T : Top K mg) : mg "sum" = none := T.free _ (T.c.fact 123 (f := .free "sum") rfl)
theorem Top.b_enumerate (T : Top K mg) : mg "enumerate" = none := T.free _ (T.c.fact 124 (f := .free "enumerate") rfl)
theorem Top.b_abs (T : Top K mg) : mg "abs" = none := T.free _ (T.c.fact 125 (f := .free "abs") rfl)
theorem Top.b_repr (T : Top K mg) : mg "repr" = none := T.free _ (T.c.fact 126 (f := .free "repr") rfl)
theorem Top.i_MOST_SIZE (T : Top K mg) : ∃ t, mg "MOST_SIZE" = some (.int 5 t) := T.int _ _ (T.c.fact 127 (f := .int "MOST_SIZE" 5) rfl)
theorem Top.i_MOST_PRICE (T : Top K mg) : ∃ t, mg "MOST_PRICE" = some (.int 9 t) := T.int _ _ (T.c.fact 128 (f := .int "MOST_PRICE" 9) rfl)
theorem Top.i_MOST_ROWS (T : Top K mg) : ∃ t, mg "MOST_ROWS" = some (.int 5 t) := T.int _ _ (T.c.fact 129 (f := .int "MOST_ROWS" 5) rfl)
theorem Top.i_MOST_PARTS (T : Top K mg) : ∃ t, mg "MOST_PARTS" = some (.int 5 t) := T.int _ _ (T.c.fact 130 (f := .int "MOST_PARTS" 5) rfl)
theorem Top.i_MOST_SEATS (T : Top K mg) : ∃ t, mg "MOST_SEATS" = some (.int 60 t) := T.int _ _ (T.c.fact 131 (f := .int "MOST_SEATS" 60) rfl)
theorem Top.i_MOST_OFFER (T : Top K mg) : ∃ t, mg "MOST_OFFER" = some (.int 5 t) := T.int _ _ (T.c.fact 132 (f := .int "MOST_OFFER" 5) rfl)
theorem Top.s_SOLD (T : Top K mg) : ∃ t, mg "SOLD" = some (.str "sold" t) := T.str _ _ (T.c.fact 133 (f := .str "SOLD" "sold") rfl)
theorem Top.g_ENDS (T : Top K mg) : mg "ENDS" = some (.ref (He.ga K "ENDS")) := T.glo _ (T.c.fact 134 (f := .glo "ENDS") rfl)
theorem Top.g_PLACES (T : Top K mg) : mg "PLACES" = some (.ref (He.ga K "PLACES")) := T.glo _ (T.c.fact 135 (f := .glo "PLACES") rfl)
theorem Top.f_is_integer (T : Top K mg) : ∃ fd, FunD K d_is_integer.name d_is_integer.qual d_is_integer.params d_is_integer.body d_is_integer.scope (d_is_integer.dvs K) (d_is_integer.kws K) (He.fAd K d_is_integer.at_) fd := T.c.def_ 0 (d := d_is_integer) rfl
theorem Top.f_is_number (T : Top K mg) : ∃ fd, FunD K d_is_number.name d_is_number.qual d_is_number.params d_is_number.body d_is_number.scope (d_is_number.dvs K) (d_is_number.kws K) (He.fAd K d_is_number.at_) fd := T.c.def_ 1 (d := d_is_number) rfl
theorem Top.f_is_end (T : Top K mg) : ∃ fd, FunD K d_is_end.name d_is_end.qual d_is_end.params d_is_end.body d_is_end.scope (d_is_end.dvs K) (d_is_end.kws K) (He.fAd K d_is_end.at_) fd := T.c.def_ 2 (d := d_is_end) rfl
theorem Top.f_is_size (T : Top K mg) : ∃ fd, FunD K d_is_size.name d_is_size.qual d_is_size.params d_is_size.body d_is_size.scope (d_is_size.dvs K) (d_is_size.kws K) (He.fAd K d_is_size.at_) fd := T.c.def_ 3 (d := d_is_size) rfl
theorem Top.f_are_sizes (T : Top K mg) : ∃ fd, FunD K d_are_sizes.name d_are_sizes.qual d_are_sizes.params d_are_sizes.body d_are_sizes.scope (d_are_sizes.dvs K) (d_are_sizes.kws K) (He.fAd K d_are_sizes.at_) fd := T.c.def_ 4 (d := d_are_sizes) rfl
theorem Top.f_is_choice (T : Top K mg) : ∃ fd, FunD K d_is_choice.name d_is_choice.qual d_is_choice.params d_is_choice.body d_is_choice.scope (d_is_choice.dvs K) (d_is_choice.kws K) (He.fAd K d_is_choice.at_) fd := T.c.def_ 5 (d := d_is_choice) rfl
theorem Top.f_fits (T : Top K mg) : ∃ fd, FunD K d_fits.name d_fits.qual d_fits.params d_fits.body d_fits.scope (d_fits.dvs K) (d_fits.kws K) (He.fAd K d_fits.at_) fd := T.c.def_ 6 (d := d_fits) rfl
theorem Top.f_parts (T : Top K mg) : ∃ fd, FunD K d_parts.name d_parts.qual d_parts.params d_parts.body d_parts.scope (d_parts.dvs K) (d_parts.kws K) (He.fAd K d_parts.at_) fd := T.c.def_ 7 (d := d_parts) rfl
theorem Top.f_check_size (T : Top K mg) : ∃ fd, FunD K d_check_size.name d_check_size.qual d_check_size.params d_check_size.body d_check_size.scope (d_check_size.dvs K) (d_check_size.kws K) (He.fAd K d_check_size.at_) fd := T.c.def_ 8 (d := d_check_size) rfl
theorem Top.f_possible (T : Top K mg) : ∃ fd, FunD K d_possible.name d_possible.qual d_possible.params d_possible.body d_possible.scope (d_possible.dvs K) (d_possible.kws K) (He.fAd K d_possible.at_) fd := T.c.def_ 9 (d := d_possible) rfl
theorem Top.f_good_befores (T : Top K mg) : ∃ fd, FunD K d_good_befores.name d_good_befores.qual d_good_befores.params d_good_befores.body d_good_befores.scope (d_good_befores.dvs K) (d_good_befores.kws K) (He.fAd K d_good_befores.at_) fd := T.c.def_ 10 (d := d_good_befores) rfl
theorem Top.f_let (T : Top K mg) : ∃ fd, FunD K d_let.name d_let.qual d_let.params d_let.body d_let.scope (d_let.dvs K) (d_let.kws K) (He.fAd K d_let.at_) fd := T.c.def_ 11 (d := d_let) rfl
theorem Top.f_offered (T : Top K mg) : ∃ fd, FunD K d_offered.name d_offered.qual d_offered.params d_offered.body d_offered.scope (d_offered.dvs K) (d_offered.kws K) (He.fAd K d_offered.at_) fd := T.c.def_ 12 (d := d_offered) rfl
theorem Top.f_sales (T : Top K mg) : ∃ fd, FunD K d_sales.name d_sales.qual d_sales.params d_sales.body d_sales.scope (d_sales.dvs K) (d_sales.kws K) (He.fAd K d_sales.at_) fd := T.c.def_ 13 (d := d_sales) rfl
theorem Top.f_is_sold (T : Top K mg) : ∃ fd, FunD K d_is_sold.name d_is_sold.qual d_is_sold.params d_is_sold.body d_is_sold.scope (d_is_sold.dvs K) (d_is_sold.kws K) (He.fAd K d_is_sold.at_) fd := T.c.def_ 14 (d := d_is_sold) rfl
theorem Top.f_refuses (T : Top K mg) : ∃ fd, FunD K d_refuses.name d_refuses.qual d_refuses.params d_refuses.body d_refuses.scope (d_refuses.dvs K) (d_refuses.kws K) (He.fAd K d_refuses.at_) fd := T.c.def_ 15 (d := d_refuses) rfl
theorem Top.f_is_stuck (T : Top K mg) : ∃ fd, FunD K d_is_stuck.name d_is_stuck.qual d_is_stuck.params d_is_stuck.body d_is_stuck.scope (d_is_stuck.dvs K) (d_is_stuck.kws K) (He.fAd K d_is_stuck.at_) fd := T.c.def_ 16 (d := d_is_stuck) rfl
theorem Top.f_is_price (T : Top K mg) : ∃ fd, FunD K d_is_price.name d_is_price.qual d_is_price.params d_is_price.body d_is_price.scope (d_is_price.dvs K) (d_is_price.kws K) (He.fAd K d_is_price.at_) fd := T.c.def_ 17 (d := d_is_price) rfl
theorem Top.f_are_prices (T : Top K mg) : ∃ fd, FunD K d_are_prices.name d_are_prices.qual d_are_prices.params d_are_prices.body d_are_prices.scope (d_are_prices.dvs K) (d_are_prices.kws K) (He.fAd K d_are_prices.at_) fd := T.c.def_ 18 (d := d_are_prices) rfl
theorem Top.f_Worth_init (T : Top K mg) : ∃ fd, FunD K d_Worth_init.name d_Worth_init.qual d_Worth_init.params d_Worth_init.body d_Worth_init.scope (d_Worth_init.dvs K) (d_Worth_init.kws K) (He.fAd K d_Worth_init.at_) fd := T.c.def_ 19 (d := d_Worth_init) rfl
theorem Top.f_Worth_price (T : Top K mg) : ∃ fd, FunD K d_Worth_price.name d_Worth_price.qual d_Worth_price.params d_Worth_price.body d_Worth_price.scope (d_Worth_price.dvs K) (d_Worth_price.kws K) (He.fAd K d_Worth_price.at_) fd := T.c.def_ 20 (d := d_Worth_price) rfl
theorem Top.f_Worth_total (T : Top K mg) : ∃ fd, FunD K d_Worth_total.name d_Worth_total.qual d_Worth_total.params d_Worth_total.body d_Worth_total.scope (d_Worth_total.dvs K) (d_Worth_total.kws K) (He.fAd K d_Worth_total.at_) fd := T.c.def_ 21 (d := d_Worth_total) rfl
theorem Top.f_need_until (T : Top K mg) : ∃ fd, FunD K d_need_until.name d_need_until.qual d_need_until.params d_need_until.body d_need_until.scope (d_need_until.dvs K) (d_need_until.kws K) (He.fAd K d_need_until.at_) fd := T.c.def_ 22 (d := d_need_until) rfl
theorem Top.f_may_end (T : Top K mg) : ∃ fd, FunD K d_may_end.name d_may_end.qual d_may_end.params d_may_end.body d_may_end.scope (d_may_end.dvs K) (d_may_end.kws K) (He.fAd K d_may_end.at_) fd := T.c.def_ 23 (d := d_may_end) rfl
theorem Top.f_Tables_init (T : Top K mg) : ∃ fd, FunD K d_Tables_init.name d_Tables_init.qual d_Tables_init.params d_Tables_init.body d_Tables_init.scope (d_Tables_init.dvs K) (d_Tables_init.kws K) (He.fAd K d_Tables_init.at_) fd := T.c.def_ 24 (d := d_Tables_init) rfl
theorem Top.f_Tables_chosen (T : Top K mg) : ∃ fd, FunD K d_Tables_chosen.name d_Tables_chosen.qual d_Tables_chosen.params d_Tables_chosen.body d_Tables_chosen.scope (d_Tables_chosen.dvs K) (d_Tables_chosen.kws K) (He.fAd K d_Tables_chosen.at_) fd := T.c.def_ 25 (d := d_Tables_chosen) rfl
theorem Top.f_Tables_row (T : Top K mg) : ∃ fd, FunD K d_Tables_row.name d_Tables_row.qual d_Tables_row.params d_Tables_row.body d_Tables_row.scope (d_Tables_row.dvs K) (d_Tables_row.kws K) (He.fAd K d_Tables_row.at_) fd := T.c.def_ 26 (d := d_Tables_row) rfl
theorem Top.f_Tables_ways (T : Top K mg) : ∃ fd, FunD K d_Tables_ways.name d_Tables_ways.qual d_Tables_ways.params d_Tables_ways.body d_Tables_ways.scope (d_Tables_ways.dvs K) (d_Tables_ways.kws K) (He.fAd K d_Tables_ways.at_) fd := T.c.def_ 27 (d := d_Tables_ways) rfl
theorem Top.f_Tables_best (T : Top K mg) : ∃ fd, FunD K d_Tables_best.name d_Tables_best.qual d_Tables_best.params d_Tables_best.body d_Tables_best.scope (d_Tables_best.dvs K) (d_Tables_best.kws K) (He.fAd K d_Tables_best.at_) fd := T.c.def_ 28 (d := d_Tables_best) rfl
theorem Top.f_Tables_best_sale (T : Top K mg) : ∃ fd, FunD K d_Tables_best_sale.name d_Tables_best_sale.qual d_Tables_best_sale.params d_Tables_best_sale.body d_Tables_best_sale.scope (d_Tables_best_sale.dvs K) (d_Tables_best_sale.kws K) (He.fAd K d_Tables_best_sale.at_) fd := T.c.def_ 29 (d := d_Tables_best_sale) rfl
theorem Top.f_greatest (T : Top K mg) : ∃ fd, FunD K d_greatest.name d_greatest.qual d_greatest.params d_greatest.body d_greatest.scope (d_greatest.dvs K) (d_greatest.kws K) (He.fAd K d_greatest.at_) fd := T.c.def_ 30 (d := d_greatest) rfl
theorem Top.f_least (T : Top K mg) : ∃ fd, FunD K d_least.name d_least.qual d_least.params d_least.body d_least.scope (d_least.dvs K) (d_least.kws K) (He.fAd K d_least.at_) fd := T.c.def_ 31 (d := d_least) rfl
theorem Top.f_table (T : Top K mg) : ∃ fd, FunD K d_table.name d_table.qual d_table.params d_table.body d_table.scope (d_table.dvs K) (d_table.kws K) (He.fAd K d_table.at_) fd := T.c.def_ 32 (d := d_table) rfl
theorem Top.f_totals_of (T : Top K mg) : ∃ fd, FunD K d_totals_of.name d_totals_of.qual d_totals_of.params d_totals_of.body d_totals_of.scope (d_totals_of.dvs K) (d_totals_of.kws K) (He.fAd K d_totals_of.at_) fd := T.c.def_ 33 (d := d_totals_of) rfl
theorem Top.f_all_totals (T : Top K mg) : ∃ fd, FunD K d_all_totals.name d_all_totals.qual d_all_totals.params d_all_totals.body d_all_totals.scope (d_all_totals.dvs K) (d_all_totals.kws K) (He.fAd K d_all_totals.at_) fd := T.c.def_ 34 (d := d_all_totals) rfl
theorem Top.f_play_for (T : Top K mg) : ∃ fd, FunD K d_play_for.name d_play_for.qual d_play_for.params d_play_for.body d_play_for.scope (d_play_for.dvs K) (d_play_for.kws K) (He.fAd K d_play_for.at_) fd := T.c.def_ 35 (d := d_play_for) rfl
theorem Top.f_left_behind (T : Top K mg) : ∃ fd, FunD K d_left_behind.name d_left_behind.qual d_left_behind.params d_left_behind.body d_left_behind.scope (d_left_behind.dvs K) (d_left_behind.kws K) (He.fAd K d_left_behind.at_) fd := T.c.def_ 36 (d := d_left_behind) rfl
theorem Top.f_behind_sale (T : Top K mg) : ∃ fd, FunD K d_behind_sale.name d_behind_sale.qual d_behind_sale.params d_behind_sale.body d_behind_sale.scope (d_behind_sale.dvs K) (d_behind_sale.kws K) (He.fAd K d_behind_sale.at_) fd := T.c.def_ 37 (d := d_behind_sale) rfl
theorem Top.f_total_of (T : Top K mg) : ∃ fd, FunD K d_total_of.name d_total_of.qual d_total_of.params d_total_of.body d_total_of.scope (d_total_of.dvs K) (d_total_of.kws K) (He.fAd K d_total_of.at_) fd := T.c.def_ 38 (d := d_total_of) rfl
theorem Top.f_is_row (T : Top K mg) : ∃ fd, FunD K d_is_row.name d_is_row.qual d_is_row.params d_is_row.body d_is_row.scope (d_is_row.dvs K) (d_is_row.kws K) (He.fAd K d_is_row.at_) fd := T.c.def_ 39 (d := d_is_row) rfl
theorem Top.f_are_rows (T : Top K mg) : ∃ fd, FunD K d_are_rows.name d_are_rows.qual d_are_rows.params d_are_rows.body d_are_rows.scope (d_are_rows.dvs K) (d_are_rows.kws K) (He.fAd K d_are_rows.at_) fd := T.c.def_ 40 (d := d_are_rows) rfl
theorem Top.f_row_stretches (T : Top K mg) : ∃ fd, FunD K d_row_stretches.name d_row_stretches.qual d_row_stretches.params d_row_stretches.body d_row_stretches.scope (d_row_stretches.dvs K) (d_row_stretches.kws K) (He.fAd K d_row_stretches.at_) fd := T.c.def_ 41 (d := d_row_stretches) rfl
theorem Top.f_Plan_init (T : Top K mg) : ∃ fd, FunD K d_Plan_init.name d_Plan_init.qual d_Plan_init.params d_Plan_init.body d_Plan_init.scope (d_Plan_init.dvs K) (d_Plan_init.kws K) (He.fAd K d_Plan_init.at_) fd := T.c.def_ 42 (d := d_Plan_init) rfl
theorem Top.f_Plan_stretches (T : Top K mg) : ∃ fd, FunD K d_Plan_stretches.name d_Plan_stretches.qual d_Plan_stretches.params d_Plan_stretches.body d_Plan_stretches.scope (d_Plan_stretches.dvs K) (d_Plan_stretches.kws K) (He.fAd K d_Plan_stretches.at_) fd := T.c.def_ 43 (d := d_Plan_stretches) rfl
theorem Top.f_are_bad (T : Top K mg) : ∃ fd, FunD K d_are_bad.name d_are_bad.qual d_are_bad.params d_are_bad.body d_are_bad.scope (d_are_bad.dvs K) (d_are_bad.kws K) (He.fAd K d_are_bad.at_) fd := T.c.def_ 44 (d := d_are_bad) rfl
theorem Top.f_is_offer (T : Top K mg) : ∃ fd, FunD K d_is_offer.name d_is_offer.qual d_is_offer.params d_is_offer.body d_is_offer.scope (d_is_offer.dvs K) (d_is_offer.kws K) (He.fAd K d_is_offer.at_) fd := T.c.def_ 45 (d := d_is_offer) rfl
theorem Top.f_first_wrong (T : Top K mg) : ∃ fd, FunD K d_first_wrong.name d_first_wrong.qual d_first_wrong.params d_first_wrong.body d_first_wrong.scope (d_first_wrong.dvs K) (d_first_wrong.kws K) (He.fAd K d_first_wrong.at_) fd := T.c.def_ 46 (d := d_first_wrong) rfl
theorem Top.f_Rule_init (T : Top K mg) : ∃ fd, FunD K d_Rule_init.name d_Rule_init.qual d_Rule_init.params d_Rule_init.body d_Rule_init.scope (d_Rule_init.dvs K) (d_Rule_init.kws K) (He.fAd K d_Rule_init.at_) fd := T.c.def_ 47 (d := d_Rule_init) rfl
theorem Top.f_Rule_bad_at (T : Top K mg) : ∃ fd, FunD K d_Rule_bad_at.name d_Rule_bad_at.qual d_Rule_bad_at.params d_Rule_bad_at.body d_Rule_bad_at.scope (d_Rule_bad_at.dvs K) (d_Rule_bad_at.kws K) (He.fAd K d_Rule_bad_at.at_) fd := T.c.def_ 48 (d := d_Rule_bad_at) rfl
theorem Top.f_sum_of (T : Top K mg) : ∃ fd, FunD K d_sum_of.name d_sum_of.qual d_sum_of.params d_sum_of.body d_sum_of.scope (d_sum_of.dvs K) (d_sum_of.kws K) (He.fAd K d_sum_of.at_) fd := T.c.def_ 49 (d := d_sum_of) rfl
theorem Top.f_greatest_in (T : Top K mg) : ∃ fd, FunD K d_greatest_in.name d_greatest_in.qual d_greatest_in.params d_greatest_in.body d_greatest_in.scope (d_greatest_in.dvs K) (d_greatest_in.kws K) (He.fAd K d_greatest_in.at_) fd := T.c.def_ 50 (d := d_greatest_in) rfl
theorem Top.f_least_in (T : Top K mg) : ∃ fd, FunD K d_least_in.name d_least_in.qual d_least_in.params d_least_in.body d_least_in.scope (d_least_in.dvs K) (d_least_in.kws K) (He.fAd K d_least_in.at_) fd := T.c.def_ 51 (d := d_least_in) rfl
theorem Top.f_plan_play (T : Top K mg) : ∃ fd, FunD K d_plan_play.name d_plan_play.qual d_plan_play.params d_plan_play.body d_plan_play.scope (d_plan_play.dvs K) (d_plan_play.kws K) (He.fAd K d_plan_play.at_) fd := T.c.def_ 52 (d := d_plan_play) rfl
theorem Top.f__law_bag (T : Top K mg) : ∃ fd, FunD K d__law_bag.name d__law_bag.qual d__law_bag.params d__law_bag.body d__law_bag.scope (d__law_bag.dvs K) (d__law_bag.kws K) (He.fAd K d__law_bag.at_) fd := T.c.def_ 53 (d := d__law_bag) rfl
theorem Top.f__law_take (T : Top K mg) : ∃ fd, FunD K d__law_take.name d__law_take.qual d__law_take.params d__law_take.body d__law_take.scope (d__law_take.dvs K) (d__law_take.kws K) (He.fAd K d__law_take.at_) fd := T.c.def_ 54 (d := d__law_take) rfl
theorem Top.f__law_alike (T : Top K mg) : ∃ fd, FunD K d__law_alike.name d__law_alike.qual d__law_alike.params d__law_alike.body d__law_alike.scope (d__law_alike.dvs K) (d__law_alike.kws K) (He.fAd K d__law_alike.at_) fd := T.c.def_ 55 (d := d__law_alike) rfl
theorem Top.f__law_mixed (T : Top K mg) : ∃ fd, FunD K d__law_mixed.name d__law_mixed.qual d__law_mixed.params d__law_mixed.body d__law_mixed.scope (d__law_mixed.dvs K) (d__law_mixed.kws K) (He.fAd K d__law_mixed.at_) fd := T.c.def_ 56 (d := d__law_mixed) rfl
theorem Top.f__law_one (T : Top K mg) : ∃ fd, FunD K d__law_one.name d__law_one.qual d__law_one.params d__law_one.body d__law_one.scope (d__law_one.dvs K) (d__law_one.kws K) (He.fAd K d__law_one.at_) fd := T.c.def_ 57 (d := d__law_one) rfl
theorem Top.f__law_ends (T : Top K mg) : ∃ fd, FunD K d__law_ends.name d__law_ends.qual d__law_ends.params d__law_ends.body d__law_ends.scope (d__law_ends.dvs K) (d__law_ends.kws K) (He.fAd K d__law_ends.at_) fd := T.c.def_ 58 (d := d__law_ends) rfl
theorem Top.f__law_end (T : Top K mg) : ∃ fd, FunD K d__law_end.name d__law_end.qual d__law_end.params d__law_end.body d__law_end.scope (d__law_end.dvs K) (d__law_end.kws K) (He.fAd K d__law_end.at_) fd := T.c.def_ 59 (d := d__law_end) rfl
theorem Top.f__law_lengths (T : Top K mg) : ∃ fd, FunD K d__law_lengths.name d__law_lengths.qual d__law_lengths.params d__law_lengths.body d__law_lengths.scope (d__law_lengths.dvs K) (d__law_lengths.kws K) (He.fAd K d__law_lengths.at_) fd := T.c.def_ 60 (d := d__law_lengths) rfl
theorem Top.f__law_sizes (T : Top K mg) : ∃ fd, FunD K d__law_sizes.name d__law_sizes.qual d__law_sizes.params d__law_sizes.body d__law_sizes.scope (d__law_sizes.dvs K) (d__law_sizes.kws K) (He.fAd K d__law_sizes.at_) fd := T.c.def_ 61 (d := d__law_sizes) rfl
theorem Top.f__law_rule (T : Top K mg) : ∃ fd, FunD K d__law_rule.name d__law_rule.qual d__law_rule.params d__law_rule.body d__law_rule.scope (d__law_rule.dvs K) (d__law_rule.kws K) (He.fAd K d__law_rule.at_) fd := T.c.def_ 62 (d := d__law_rule) rfl
theorem Top.f__law_made (T : Top K mg) : ∃ fd, FunD K d__law_made.name d__law_made.qual d__law_made.params d__law_made.body d__law_made.scope (d__law_made.dvs K) (d__law_made.kws K) (He.fAd K d__law_made.at_) fd := T.c.def_ 63 (d := d__law_made) rfl
theorem Top.f__law_stretch (T : Top K mg) : ∃ fd, FunD K d__law_stretch.name d__law_stretch.qual d__law_stretch.params d__law_stretch.body d__law_stretch.scope (d__law_stretch.dvs K) (d__law_stretch.kws K) (He.fAd K d__law_stretch.at_) fd := T.c.def_ 64 (d := d__law_stretch) rfl
theorem Top.f__law_befores (T : Top K mg) : ∃ fd, FunD K d__law_befores.name d__law_befores.qual d__law_befores.params d__law_befores.body d__law_befores.scope (d__law_befores.dvs K) (d__law_befores.kws K) (He.fAd K d__law_befores.at_) fd := T.c.def_ 65 (d := d__law_befores) rfl
theorem Top.f__law_spoils (T : Top K mg) : ∃ fd, FunD K d__law_spoils.name d__law_spoils.qual d__law_spoils.params d__law_spoils.body d__law_spoils.scope (d__law_spoils.dvs K) (d__law_spoils.kws K) (He.fAd K d__law_spoils.at_) fd := T.c.def_ 66 (d := d__law_spoils) rfl
theorem Top.f__law_offers (T : Top K mg) : ∃ fd, FunD K d__law_offers.name d__law_offers.qual d__law_offers.params d__law_offers.body d__law_offers.scope (d__law_offers.dvs K) (d__law_offers.kws K) (He.fAd K d__law_offers.at_) fd := T.c.def_ 67 (d := d__law_offers) rfl
theorem Top.f__law_all_sales (T : Top K mg) : ∃ fd, FunD K d__law_all_sales.name d__law_all_sales.qual d__law_all_sales.params d__law_all_sales.body d__law_all_sales.scope (d__law_all_sales.dvs K) (d__law_all_sales.kws K) (He.fAd K d__law_all_sales.at_) fd := T.c.def_ 68 (d := d__law_all_sales) rfl
theorem Top.f__law_parted (T : Top K mg) : ∃ fd, FunD K d__law_parted.name d__law_parted.qual d__law_parted.params d__law_parted.body d__law_parted.scope (d__law_parted.dvs K) (d__law_parted.kws K) (He.fAd K d__law_parted.at_) fd := T.c.def_ 69 (d := d__law_parted) rfl
theorem Top.f__law_worth (T : Top K mg) : ∃ fd, FunD K d__law_worth.name d__law_worth.qual d__law_worth.params d__law_worth.body d__law_worth.scope (d__law_worth.dvs K) (d__law_worth.kws K) (He.fAd K d__law_worth.at_) fd := T.c.def_ 70 (d := d__law_worth) rfl
theorem Top.f__law_worth_made (T : Top K mg) : ∃ fd, FunD K d__law_worth_made.name d__law_worth_made.qual d__law_worth_made.params d__law_worth_made.body d__law_worth_made.scope (d__law_worth_made.dvs K) (d__law_worth_made.kws K) (He.fAd K d__law_worth_made.at_) fd := T.c.def_ 71 (d := d__law_worth_made) rfl
theorem Top.f__law_price (T : Top K mg) : ∃ fd, FunD K d__law_price.name d__law_price.qual d__law_price.params d__law_price.body d__law_price.scope (d__law_price.dvs K) (d__law_price.kws K) (He.fAd K d__law_price.at_) fd := T.c.def_ 72 (d := d__law_price) rfl
theorem Top.f__law_may_end (T : Top K mg) : ∃ fd, FunD K d__law_may_end.name d__law_may_end.qual d__law_may_end.params d__law_may_end.body d__law_may_end.scope (d__law_may_end.dvs K) (d__law_may_end.kws K) (He.fAd K d__law_may_end.at_) fd := T.c.def_ 73 (d := d__law_may_end) rfl
theorem Top.f__law_best (T : Top K mg) : ∃ fd, FunD K d__law_best.name d__law_best.qual d__law_best.params d__law_best.body d__law_best.scope (d__law_best.dvs K) (d__law_best.kws K) (He.fAd K d__law_best.at_) fd := T.c.def_ 74 (d := d__law_best) rfl
theorem Top.f__law_tables (T : Top K mg) : ∃ fd, FunD K d__law_tables.name d__law_tables.qual d__law_tables.params d__law_tables.body d__law_tables.scope (d__law_tables.dvs K) (d__law_tables.kws K) (He.fAd K d__law_tables.at_) fd := T.c.def_ 75 (d := d__law_tables) rfl
theorem Top.f__law_led (T : Top K mg) : ∃ fd, FunD K d__law_led.name d__law_led.qual d__law_led.params d__law_led.body d__law_led.scope (d__law_led.dvs K) (d__law_led.kws K) (He.fAd K d__law_led.at_) fd := T.c.def_ 76 (d := d__law_led) rfl
theorem Top.f__law_walked (T : Top K mg) : ∃ fd, FunD K d__law_walked.name d__law_walked.qual d__law_walked.params d__law_walked.body d__law_walked.scope (d__law_walked.dvs K) (d__law_walked.kws K) (He.fAd K d__law_walked.at_) fd := T.c.def_ 77 (d := d__law_walked) rfl
theorem Top.f__law_all_end (T : Top K mg) : ∃ fd, FunD K d__law_all_end.name d__law_all_end.qual d__law_all_end.params d__law_all_end.body d__law_all_end.scope (d__law_all_end.dvs K) (d__law_all_end.kws K) (He.fAd K d__law_all_end.at_) fd := T.c.def_ 78 (d := d__law_all_end) rfl
theorem Top.f__law_total (T : Top K mg) : ∃ fd, FunD K d__law_total.name d__law_total.qual d__law_total.params d__law_total.body d__law_total.scope (d__law_total.dvs K) (d__law_total.kws K) (He.fAd K d__law_total.at_) fd := T.c.def_ 79 (d := d__law_total) rfl
theorem Top.f__law_sales_in (T : Top K mg) : ∃ fd, FunD K d__law_sales_in.name d__law_sales_in.qual d__law_sales_in.params d__law_sales_in.body d__law_sales_in.scope (d__law_sales_in.dvs K) (d__law_sales_in.kws K) (He.fAd K d__law_sales_in.at_) fd := T.c.def_ 80 (d := d__law_sales_in) rfl
theorem Top.f__law_drawn_play (T : Top K mg) : ∃ fd, FunD K d__law_drawn_play.name d__law_drawn_play.qual d__law_drawn_play.params d__law_drawn_play.body d__law_drawn_play.scope (d__law_drawn_play.dvs K) (d__law_drawn_play.kws K) (He.fAd K d__law_drawn_play.at_) fd := T.c.def_ 81 (d := d__law_drawn_play) rfl
theorem Top.f__law_stretches (T : Top K mg) : ∃ fd, FunD K d__law_stretches.name d__law_stretches.qual d__law_stretches.params d__law_stretches.body d__law_stretches.scope (d__law_stretches.dvs K) (d__law_stretches.kws K) (He.fAd K d__law_stretches.at_) fd := T.c.def_ 82 (d := d__law_stretches) rfl
theorem Top.f__law_all_totals (T : Top K mg) : ∃ fd, FunD K d__law_all_totals.name d__law_all_totals.qual d__law_all_totals.params d__law_all_totals.body d__law_all_totals.scope (d__law_all_totals.dvs K) (d__law_all_totals.kws K) (He.fAd K d__law_all_totals.at_) fd := T.c.def_ 83 (d := d__law_all_totals) rfl
theorem Top.f__law_stretch_right (T : Top K mg) : ∃ fd, FunD K d__law_stretch_right.name d__law_stretch_right.qual d__law_stretch_right.params d__law_stretch_right.body d__law_stretch_right.scope (d__law_stretch_right.dvs K) (d__law_stretch_right.kws K) (He.fAd K d__law_stretch_right.at_) fd := T.c.def_ 84 (d := d__law_stretch_right) rfl
theorem Top.f__law_plan_right (T : Top K mg) : ∃ fd, FunD K d__law_plan_right.name d__law_plan_right.qual d__law_plan_right.params d__law_plan_right.body d__law_plan_right.scope (d__law_plan_right.dvs K) (d__law_plan_right.kws K) (He.fAd K d__law_plan_right.at_) fd := T.c.def_ 85 (d := d__law_plan_right) rfl
theorem Top.f_law (T : Top K mg) : ∃ fd, FunD K d_law.name d_law.qual d_law.params d_law.body d_law.scope (d_law.dvs K) (d_law.kws K) (He.fAd K d_law.at_) fd := T.c.def_ 86 (d := d_law) rfl
theorem Top.p_Worth_free (T : Top K mg) : d_Worth_free.ok K = true ∧ prW K d_Worth_free = d_Worth_free.d.val := T.pr 0 d_Worth_free rfl
theorem Top.p_Worth_until (T : Top K mg) : d_Worth_until.ok K = true ∧ prW K d_Worth_until = d_Worth_until.d.val := T.pr 1 d_Worth_until rfl
theorem Top.p_Rule_sizes (T : Top K mg) : d_Rule_sizes.ok K = true ∧ prW K d_Rule_sizes = d_Rule_sizes.d.val := T.pr 2 d_Rule_sizes rfl
theorem Top.p_Rule_soft (T : Top K mg) : d_Rule_soft.ok K = true ∧ prW K d_Rule_soft = d_Rule_soft.d.val := T.pr 3 d_Rule_soft rfl
theorem Top.p_Rule_where (T : Top K mg) : d_Rule_where.ok K = true ∧ prW K d_Rule_where = d_Rule_where.d.val := T.pr 4 d_Rule_where rfl
theorem Top.p_Rule_offer (T : Top K mg) : d_Rule_offer.ok K = true ∧ prW K d_Rule_offer = d_Rule_offer.d.val := T.pr 5 d_Rule_offer rfl
theorem Top.ends (T : Top K mg) (H : Hp) : SqT K H (He.ga K "ENDS") [.str "pillar", .str "sold", .str "wall"] := He.tupB_ok (He.ba T.ex).1 H
theorem Top.places (T : Top K mg) (H : Hp) : SqT K H (He.ga K "PLACES") [.str "any", .str "side"] := He.tupB_ok (He.ba T.ex).2 H
end
end Ls
set_option maxHeartbeats 4000000 -- Lo4
/-! The layer of types, further: a def's promise by its body; operations of the built-in kinds. -/
namespace Ls
open PySem Spec PyProof.Rows L2
variable [J : Iv]
theorem sok_start {ts : List Ty} {B : Hp} {vs : List V} (N : List Str) (h : Tys B ts vs) (hl : ts.length ≤ N.length) : SOk (ts.map some ++ List.replicate (N.length - ts.length) none) B (L2.start N vs) := by
  unfold L2.start
  refine ⟨by simp [h.length], fun i t e => ?_⟩
  rw [List.getElem?_append] at e ⊢
  rw [List.length_map] at e ⊢
  by_cases hi : i < ts.length
  · rw [if_pos hi] at e
    rw [if_pos (by rw [h.length]; exact hi)]
    rw [List.getElem?_map] at e
    cases q : ts[i]? with
    | none =>
      rw [q] at e
      cases e
    | some u =>
      rw [q] at e
      obtain ⟨v, h1, h2⟩ := h.get q
      have e2 : u = t := by simpa using e
      subst e2
      exact ⟨v, by rw [List.getElem?_map, h1]; rfl, h2⟩
  · rw [if_neg hi, List.getElem?_replicate] at e
    split at e <;> cases e
abbrev cx0 (P : Program) (w : World) (K : PySem.W.Frag) (mg : Str → Option Value) (base : Heap) (N : List Str) (d : He.DefD) (f : Addr) (cdv : Value) (A : Around) (outer : List Env) (s : Shared) (H : Hp) (E : XK) : Cx :=
  (cxOf CX0 P w K mg base N d.qual d.scope f cdv A outer s H E).nox
section
variable {P : Program} {w : World} {K : PySem.W.Frag} {mg : Str → Option Value} {base : Heap}
/-- a def of the text that writes nothing keeps its promise -/
theorem ok_F {α : Type} {args : α → List Ty} {pre : α → Prop} {res : α → Ty} {d : He.DefD} {k : Nat} {N ps : List Str} {fd : FuncData} {f : Addr} {dvs : List V} {kws : List (Str × V)} (F : FunD K d.name d.qual d.params d.body d.scope dvs kws f fd) (S : FnScope N ps d.scope)
    (hl : ∀ a, (args a).length = ps.length) (hN : ps.length ≤ N.length)
    (body : ∀ (cdv : Value) (cd : PySem.W.codeIn K cdv d.qual = true) (A : Around) (outer : List Env) (s : Shared) (H0 : Hp) (E : XK) (a : α) (B0 : Hp) (σ : L2.St) (D : Ends), Room k (A.deeper (envOfC d.qual d.scope s.heap.objs.size f cdv)) → pre a →
      At nF B0 H0 B0 ((args a).map some ++ List.replicate (N.length - (args a).length) none) [] σ B0 H0 → (∀ v B' H', Nw nF B0 H0 B' H' → (res a).p B' v → D.rt v H') → (∀ σ' H', D.rt .non H' → D.nx σ' H') →
      RS (cx0 P w K mg base N d f cdv A outer s H0 E) d.body D σ H0) : FnOk P w K mg base CX0 (k + 1) f fd ps (spF args pre res) := by
  obtain ⟨_, _, _, _, _, _, _, cdv, _, _, rfl, lk, hcd, _⟩ := F.ex
  refine fn_of lk hcd S (fun vs H Q E ⟨a, B, _, _, r, _⟩ => by rw [r.length]; exact hl a) fun A outer s H vs Q E hr ⟨a, B, bh, hp, r, q⟩ => ?_
  obtain ⟨t, h1, h2⟩ := body cdv hcd A outer s H E a B (L2.start N vs) ⟨fun _ H' => Q .non H', Q, fun _ _ => False, fun _ _ => False⟩ hr hp ⟨sok_start N r (by rw [hl a]; exact hN), .refl bh, Same.refl B, ⟨fun _ z => (nomatch z), List.nodup_nil⟩⟩ q fun _ _ z => z
  exact ⟨t, h1.nox, h2⟩
theorem cal_F {α : Type} {args : α → List Ty} {pre : α → Prop} {res : α → Ty} {d : He.DefD} {x : Str} {k : Nat} {N ps : List Str} (F : ∃ fd, FunD K d.name d.qual d.params d.body d.scope [] [] (He.fAd K d.at_) fd) (hm : mg x = some (.ref (He.fAd K d.at_))) (S : FnScope N ps d.scope)
    (hb : ∀ (kV doc pm : Value) (an : Option Addr) (cdv ct : Value) (us : List Value), us.length = ps.length → bindArgs (PySem.W.fnOf d.name d.qual d.params d.body d.scope .none kV doc pm an cdv ct) ⟨us, []⟩ = pure (ps.zip us))
    (hl : ∀ a, (args a).length = ps.length) (hN : ps.length ≤ N.length)
    (body : ∀ (f : Addr) (cdv : Value) (cd : PySem.W.codeIn K cdv d.qual = true) (A : Around) (outer : List Env) (s : Shared) (H0 : Hp) (E : XK) (a : α) (B0 : Hp) (σ : L2.St) (D : Ends), Room k (A.deeper (envOfC d.qual d.scope s.heap.objs.size f cdv)) → pre a →
      At nF B0 H0 B0 ((args a).map some ++ List.replicate (N.length - (args a).length) none) [] σ B0 H0 → (∀ v B' H', Nw nF B0 H0 B' H' → (res a).p B' v → D.rt v H') → (∀ σ' H', D.rt .non H' → D.nx σ' H') →
      RS (cx0 P w K mg base N d f cdv A outer s H0 E) d.body D σ H0) : Cal P w K mg base x (k + 1) (spF args pre res) := by
  obtain ⟨fd, F⟩ := F
  exact ⟨_, fd, ps, hm, F.kp, F.bindsN hb, ok_F F S hl hN (body _)⟩
theorem Cal.mono {x : Str} {j k : Nat} {sp : Sp} (C : Cal P w K mg base x j sp) (h : j ≤ k) : Cal P w K mg base x k sp := let ⟨f, fd, ps, a, b, c, F⟩ := C.ex; ⟨f, fd, ps, a, b, c, F.mono h⟩
end
section
variable {X : Cx} {Γ : Ctx} {e a b : Expr} {t : Ty} {pos p : Pos} {x : Str}
theorem ev_gint {i : Int} (hg : Gl X x) (hm : ∃ u, X.mg x = some (.int i u)) (hd : (x == ("__debug__" : Str)) = false := by decide) : EvE X Γ (.Name x pos) (tI i) := let ⟨u, h⟩ := hm; ev_glob hg h ⟨u, rfl⟩ hd
theorem ev_gstr {i : Str} (hg : Gl X x) (hm : ∃ u, X.mg x = some (.str i u)) (hd : (x == ("__debug__" : Str)) = false := by decide) : EvE X Γ (.Name x pos) (tS i) := let ⟨u, h⟩ := hm; ev_glob hg h ⟨u, rfl⟩ hd
theorem ev_gref {i : Addr} (hg : Gl X x) (hm : X.mg x = some (.ref i)) (hd : (x == ("__debug__" : Str)) = false := by decide) : EvE X Γ (.Name x pos) (tV (.ref i)) := ev_glob hg hm rfl hd
theorem ev_bty {n : String} (hg : Gl X x) (hm : X.mg x = none) (hv : bootBuiltins x = some (.type n)) (hn : x ≠ "__name__" := by decide) (hd : (x == ("__debug__" : Str)) = false := by decide) : EvE X Γ (.Name x pos) (tV (.ty n)) := ev_blt hg hm hv rfl hn hd
/-! ### the built-in names -/
theorem bt_isinstance : bootBuiltins "isinstance" = some (.builtin "isinstance") := by decide +kernel
theorem bt_all : bootBuiltins "all" = some (.builtin "all") := by decide +kernel
theorem bt_len : bootBuiltins "len" = some (.builtin "len") := by decide +kernel
theorem bt_sorted : bootBuiltins "sorted" = some (.builtin "sorted") := by decide +kernel
theorem bt_min : bootBuiltins "min" = some (.builtin "min") := by decide +kernel
theorem bt_max : bootBuiltins "max" = some (.builtin "max") := by decide +kernel
theorem bt_sum : bootBuiltins "sum" = some (.builtin "sum") := by decide +kernel
theorem bt_abs : bootBuiltins "abs" = some (.builtin "abs") := by decide +kernel
theorem bt_repr : bootBuiltins "repr" = some (.builtin "repr") := by decide +kernel
theorem bt_list : bootBuiltins "list" = some (.type "list") := by decide +kernel
theorem bt_tuple : bootBuiltins "tuple" = some (.type "tuple") := by decide +kernel
theorem bt_dict : bootBuiltins "dict" = some (.type "dict") := by decide +kernel
theorem bt_int : bootBuiltins "int" = some (.type "int") := by decide +kernel
theorem bt_str : bootBuiltins "str" = some (.type "str") := by decide +kernel
theorem bt_bool : bootBuiltins "bool" = some (.type "bool") := by decide +kernel
theorem bt_range : bootBuiltins "range" = some (.type "range") := by decide +kernel
theorem bt_set : bootBuiltins "set" = some (.type "set") := by decide +kernel
theorem bt_enumerate : bootBuiltins "enumerate" = some (.type "enumerate") := by decide +kernel
theorem kt_int_int : kitB "int" "int" = some true := by decide +kernel
theorem kt_int_bool : kitB "int" "bool" = some false := by decide +kernel
theorem kt_str_str : kitB "str" "str" = some true := by decide +kernel
theorem kt_list_list : kitB "list" "list" = some true := by decide +kernel
theorem kt_list_tuple : kitB "list" "tuple" = some false := by decide +kernel
theorem kt_tuple_list : kitB "tuple" "list" = some false := by decide +kernel
theorem kt_tuple_tuple : kitB "tuple" "tuple" = some true := by decide +kernel
theorem kt_dict_dict : kitB "dict" "dict" = some true := by decide +kernel
theorem kt_bool_bool : kitB "bool" "bool" = some true := by decide +kernel
theorem kt_int_list : kitB "int" "list" = some false := by decide +kernel
/-! ### isinstance -/
/-- what is of type t is of the built-in class n -/
def IsTy (K : PySem.W.Frag) (t : Ty) (n : String) : Prop := ∀ B v, t.p B v → ∀ H, Same B H → TyX K H v (.type n)
theorem isTy_int {K : PySem.W.Frag} {i : Int} : IsTy K (tI i) "int" := fun B v h H bh => by
  cases h
  exact .base (.int i)
theorem isTy_bl {K : PySem.W.Frag} {i : Bool} : IsTy K (tB i) "bool" := fun B v h H bh => by
  cases h
  exact .base (.bl i)
theorem isTy_str {K : PySem.W.Frag} {i : Str} : IsTy K (tS i) "str" := fun B v h H bh => by
  cases h
  exact .base (.str i)
theorem isTy_lst {K : PySem.W.Frag} {ts : List Ty} : IsTy K (tL ts) "list" := fun B v ⟨a, vs, e, h, _⟩ H bh => by
  subst e
  exact .base (.lst (bh _ _ h))
theorem isTy_tup {K : PySem.W.Frag} {ts : List Ty} : IsTy K (tT ts) "tuple" := fun B v ⟨a, vs, e, h, _⟩ H bh => by
  subst e
  exact .base (.tup (bh _ _ h))
theorem cb_isi {K : PySem.W.Frag} {n m : String} {k : Bool} (ht : IsTy K t n) (h : kitB n m = some k) : Cb (rIsi K) [t, tV (.ty m)] (tB k) := fun vs B H Q bh r q => by
  cases r with
  | cons r1 r0 =>
    cases r0 with
    | cons r2 r0 =>
      cases r0
      cases r2
      exact ⟨_, _, _, _, k, rfl, .ty m, ht B _ r1 H bh, kit_ty h, q _ B H (.refl bh) rfl⟩
/-- isinstance(x, (A, B)) -/
theorem cb_isiT {K : PySem.W.Frag} {n m m' : String} {k k' : Bool} (ht : IsTy K t n) (h : kitB n m = some k) (h' : kitB n m' = some k') : Cb (rIsiT K) [t, tT [tV (.ty m), tV (.ty m')]] (tB (k || k')) := fun vs B H Q bh r q => by
  cases r with
  | cons r1 r0 =>
    cases r0 with
    | cons r2 r0 =>
      cases r0
      obtain ⟨tp, cs, e, hc, rc⟩ := r2
      subst e
      cases rc with
      | cons c1 rc =>
        cases rc with
        | cons c2 rc =>
          cases rc
          cases c1
          cases c2
          refine ⟨_, tp, _, _, [.type m, .type m'], k || k', rfl, bh _ _ hc, .cons (.ty m) (.cons (.ty m') .nil), ht B _ r1 H bh, ?_, q _ B H (.refl bh) rfl⟩
          refine kitAny_cons (kit_ty h) (fun e => ?_) (fun e => by rw [e]; rfl)
          rw [e, Bool.false_or]
          refine kitAny_cons (kit_ty h') (fun e2 => by rw [e2]; rfl) (fun e2 => e2)
/-! ### lists of truths, of numbers -/
theorem tys_bls {B : Hp} : ∀ {bs : List Bool} {vs : List V}, Tys B (bs.map tB) vs → vs = bs.map V.bl
  | [], _, .nil => rfl
  | _ :: _, _, .cons a r => by
    have e : _ = V.bl _ := a
    rw [e, tys_bls r]
    rfl
theorem tys_ints {B : Hp} : ∀ {ns : List Int} {vs : List V}, Tys B (ns.map tI) vs → vs = ns.map V.int
  | [], _, .nil => rfl
  | _ :: _, _, .cons a r => by
    have e : _ = V.int _ := a
    rw [e, tys_ints r]
    rfl
theorem ints_tys {B : Hp} : ∀ {ns : List Int}, Tys B (ns.map tI) (ns.map V.int)
  | [] => .nil
  | _ :: _ => .cons rfl ints_tys
theorem cb_all {K : PySem.W.Frag} {bs : List Bool} : Cb (rAll K) [tL (bs.map tB)] (tB (bs.all id)) := fun vs B H Q bh r q => by
  cases r with
  | cons r1 r0 =>
    cases r0
    obtain ⟨a, xs, e, h, r⟩ := r1
    subst e
    rw [tys_bls r] at h
    exact ⟨a, bs, rfl, .of (bh _ _ h), q _ B H (.refl bh) rfl⟩
theorem cb_sum {K : PySem.W.Frag} {ns : List Int} : Cb (rSum K) [tL (ns.map tI)] (tI ns.sum) := fun vs B H Q bh r q => by
  cases r with
  | cons r1 r0 =>
    cases r0
    obtain ⟨a, xs, e, h, r⟩ := r1
    subst e
    rw [tys_ints r] at h
    exact ⟨a, ns, rfl, .of (bh _ _ h), q _ B H (.refl bh) rfl⟩
def rLenS (K : PySem.W.Frag) : List V → Hp → VK → Prop := fun xs H Q => ∃ p ys, xs = [.ref p] ∧ (SqL K H p ys ∨ SqT K H p ys) ∧ Q (.int ys.length) H
theorem call_lenS : CallR X (.builtin "len") (rLenS X.K) := call_len_seq
theorem cb_lenL {K : PySem.W.Frag} {ts : List Ty} : Cb (rLenS K) [tL ts] (tI (ts.length : Int)) := fun vs B H Q bh r q => by
  cases r with
  | cons r1 r0 =>
    cases r0
    obtain ⟨a, xs, e, h, r⟩ := r1
    subst e
    exact ⟨a, xs, rfl, .inl (.of (bh _ _ h)), q _ B H (.refl bh) (by rw [r.length]; rfl)⟩
theorem cb_lenT {K : PySem.W.Frag} {ts : List Ty} : Cb (rLenS K) [tT ts] (tI (ts.length : Int)) := fun vs B H Q bh r q => by
  cases r with
  | cons r1 r0 =>
    cases r0
    obtain ⟨a, xs, e, h, r⟩ := r1
    subst e
    exact ⟨a, xs, rfl, .inr (.of (bh _ _ h)), q _ B H (.refl bh) (by rw [r.length]; rfl)⟩
/-! ### in -/
/-- x in a list, a tuple of numbers -/
theorem inV_ints (i : Int) : ∀ ns : List Int, inV (.int i) (ns.map V.int) = decide (i ∈ ns)
  | [] => rfl
  | n :: ns => by
    have e : inV (.int i) ((n :: ns).map V.int) = (eqV (.int n) (.int i) || inV (.int i) (ns.map V.int)) := by
      first
        | rfl
        | (unfold inV; rfl)
    rw [e, inV_ints i ns]
    by_cases h : i = n
    · subst h
      simp [eqV]
    · have h2 : ¬ n = i := fun z => h z.symm
      simp [eqV, h, h2]
theorem flat_ints : ∀ ns : List Int, (ns.map V.int).all flatV = true
  | [] => rfl
  | n :: ns => by
    rw [List.map_cons, List.all_cons, flat_ints ns]
    rfl
theorem bin_inL {K : PySem.W.Frag} {i : Int} {ns : List Int} : Bin (rIn K false) (tI i) (tL (ns.map tI)) (tB (decide (i ∈ ns))) := fun u v B H Q bh hu ⟨a, xs, e, h, r⟩ q => by
  cases hu
  subst e
  rw [tys_ints r] at h
  exact ⟨a, _, rfl, .inl (.of (bh _ _ h)), rfl, flat_ints ns, q _ B H (.refl bh) (by rw [if_neg (by decide), inV_ints]; rfl)⟩
theorem bin_inT {K : PySem.W.Frag} {i : Int} {ns : List Int} : Bin (rIn K false) (tI i) (tT (ns.map tI)) (tB (decide (i ∈ ns))) := fun u v B H Q bh hu ⟨a, xs, e, h, r⟩ q => by
  cases hu
  subst e
  rw [tys_ints r] at h
  exact ⟨a, _, rfl, .inr (.of (bh _ _ h)), rfl, flat_ints ns, q _ B H (.refl bh) (by rw [if_neg (by decide), inV_ints]; rfl)⟩
theorem bin_niL {K : PySem.W.Frag} {i : Int} {ns : List Int} : Bin (rIn K true) (tI i) (tL (ns.map tI)) (tB (!decide (i ∈ ns))) := fun u v B H Q bh hu ⟨a, xs, e, h, r⟩ q => by
  cases hu
  subst e
  rw [tys_ints r] at h
  exact ⟨a, _, rfl, .inl (.of (bh _ _ h)), rfl, flat_ints ns, q _ B H (.refl bh) (by rw [if_pos rfl, inV_ints]; rfl)⟩
theorem bin_niT {K : PySem.W.Frag} {i : Int} {ns : List Int} : Bin (rIn K true) (tI i) (tT (ns.map tI)) (tB (!decide (i ∈ ns))) := fun u v B H Q bh hu ⟨a, xs, e, h, r⟩ q => by
  cases hu
  subst e
  rw [tys_ints r] at h
  exact ⟨a, _, rfl, .inr (.of (bh _ _ h)), rfl, flat_ints ns, q _ B H (.refl bh) (by rw [if_pos rfl, inV_ints]; rfl)⟩
/-- a text in a written tuple of the module -/
theorem bin_inK {K : PySem.W.Frag} {s : Str} {g : Addr} {xs : List V} {k : Bool} (hg : ∀ H, SqT K H g xs) (hf : xs.all flatV = true) (hk : inV (.str s) xs = k) : Bin (rIn K false) (tS s) (tV (.ref g)) (tB k) := fun u v B H Q bh hu hv q => by
  cases hu
  cases hv
  exact ⟨g, xs, rfl, .inr (hg H), rfl, hf, q _ B H (.refl bh) (by rw [if_neg (by decide), hk]; rfl)⟩
end
end Ls
set_option maxHeartbeats 1000000 -- Ma
/-! Rules, stretches, worths as plain data; what a rule offers. -/
namespace Ls
open PySem
/-- an end -/
inductive En where
  | P | S | W
  deriving DecidableEq
def En.s : En → Str
  | .P => "pillar"
  | .S => "sold"
  | .W => "wall"
/-- a stretch -/
structure S3 where
  l : En
  n : Nat
  r : En
  deriving DecidableEq
/-- a rule -/
structure Ru where
  sizes : List Nat
  bad : En → List Nat
  soft : Bool
  side : Bool
  offer : Nat
def Ru.wh (R : Ru) : Str := if R.side then "side" else "any"
/-- ascending, from 1 to 5 -/
def Asc (xs : List Nat) : Prop := xs.Pairwise (· < ·) ∧ ∀ x ∈ xs, 1 ≤ x ∧ x ≤ 5
structure Ru.Ok (R : Ru) : Prop where
  sz : Asc R.sizes
  ne : R.sizes ≠ []
  bd : ∀ e, Asc (R.bad e)
  of : R.offer ≤ 5
theorem asc_len : ∀ {xs : List Nat} {a : Nat}, xs.Pairwise (· < ·) → (∀ x ∈ xs, a < x ∧ x ≤ 5) → xs.length + a ≤ 5 ∨ xs = []
  | [], _, _, _ => .inr rfl
  | x :: xs, a, p, h => by
    have hx := h x List.mem_cons_self
    obtain ⟨p1, p2⟩ := List.pairwise_cons.mp p
    rcases asc_len (a := x) p2 (fun y hy => ⟨p1 y hy, (h y (List.mem_cons_of_mem _ hy)).2⟩) with q | q
    · left
      rw [List.length_cons]
      omega
    · subst q
      left
      simp
      omega
theorem Asc.len {xs : List Nat} (h : Asc xs) : xs.length ≤ 5 := by
  rcases asc_len (a := 0) h.1 (fun x hx => ⟨(h.2 x hx).1, (h.2 x hx).2⟩) with q | q
  · omega
  · subst q
    decide
/-- the befores of the possible choices -/
def befs (R : Ru) (s : S3) (z : Nat) : List Nat := if s.n < z then [] else if R.side then (if s.n = z then [0] else [0, s.n - z]) else List.range (s.n - z + 1)
def good (R : Ru) (s : S3) (z b : Nat) : Bool := !decide (b ∈ R.bad s.l) && !decide (s.n - z - b ∈ R.bad s.r)
def goods (R : Ru) (s : S3) (z : Nat) : List Nat := (befs R s z).filter (good R s z)
def lets (R : Ru) (s : S3) (z : Nat) : List Nat := if goods R s z = [] ∧ R.soft = true then befs R s z else goods R s z
def offers (R : Ru) (s : S3) (z : Nat) : List Nat := if 0 < R.offer then (lets R s z).take R.offer else lets R s z
def sales (R : Ru) (s : S3) : List (Nat × Nat) := R.sizes.flatMap fun z => (offers R s z).map fun b => (z, b)
def refuses (R : Ru) (s : S3) (z : Nat) : Bool := decide (offers R s z = [])
def stuck (R : Ru) (s : S3) : Bool := R.sizes.all fun z => refuses R s z
def pL (s : S3) (b : Nat) : S3 := ⟨s.l, b, .S⟩
def pR (s : S3) (z b : Nat) : S3 := ⟨.S, s.n - z - b, s.r⟩
theorem befs_fit {R : Ru} {s : S3} {z b : Nat} (h : b ∈ befs R s z) : b + z ≤ s.n := by
  unfold befs at h
  split at h
  · cases h
  · split at h
    · split at h
      · simp at h
        omega
      · simp at h
        omega
    · have h2 := List.mem_range.mp h
      omega
theorem befs_len (R : Ru) (s : S3) (z : Nat) : (befs R s z).length ≤ s.n + 2 := by
  unfold befs
  split
  · simp
  · split
    · split <;> simp
    · rw [List.length_range]
      omega
theorem goods_sub {R : Ru} {s : S3} {z b : Nat} (h : b ∈ goods R s z) : b ∈ befs R s z := (List.mem_filter.mp h).1
theorem lets_sub {R : Ru} {s : S3} {z b : Nat} (h : b ∈ lets R s z) : b ∈ befs R s z := by
  unfold lets at h
  split at h
  · exact h
  · exact goods_sub h
theorem offers_sub {R : Ru} {s : S3} {z b : Nat} (h : b ∈ offers R s z) : b ∈ befs R s z := by
  unfold offers at h
  split at h
  · exact lets_sub (List.mem_of_mem_take h)
  · exact lets_sub h
theorem offers_fit {R : Ru} {s : S3} {z b : Nat} (h : b ∈ offers R s z) : b + z ≤ s.n := befs_fit (offers_sub h)
theorem lets_len (R : Ru) (s : S3) (z : Nat) : (lets R s z).length ≤ s.n + 2 := by
  unfold lets
  split
  · exact befs_len R s z
  · exact Nat.le_trans (List.length_filter_le ..) (befs_len R s z)
theorem offers_len (R : Ru) (s : S3) (z : Nat) : (offers R s z).length ≤ s.n + 2 := by
  unfold offers
  split
  · exact Nat.le_trans (by rw [List.length_take]; exact Nat.min_le_right _ _) (lets_len R s z)
  · exact lets_len R s z
theorem mem_sales {R : Ru} {s : S3} {q : Nat × Nat} : q ∈ sales R s ↔ q.1 ∈ R.sizes ∧ q.2 ∈ offers R s q.1 := by
  unfold sales
  rw [List.mem_flatMap]
  constructor
  · rintro ⟨z, hz, h⟩
    obtain ⟨b, hb, e⟩ := List.mem_map.mp h
    subst e
    exact ⟨hz, hb⟩
  · rintro ⟨h1, h2⟩
    exact ⟨q.1, h1, List.mem_map.mpr ⟨q.2, h2, rfl⟩⟩
theorem flat_len {α β : Type} (f : α → List β) (m : Nat) : ∀ xs : List α, (∀ x ∈ xs, (f x).length ≤ m) → (xs.flatMap f).length ≤ xs.length * m
  | [], _ => by simp
  | x :: xs, h => by
    rw [List.flatMap_cons, List.length_append, List.length_cons]
    have h1 := h x List.mem_cons_self
    have h2 := flat_len f m xs fun y hy => h y (List.mem_cons_of_mem _ hy)
    rw [Nat.add_mul]
    omega
theorem sales_len {R : Ru} (h : R.Ok) (s : S3) : (sales R s).length ≤ 5 * (s.n + 2) := by
  have h1 := flat_len (fun z => (offers R s z).map fun b => (z, b)) (s.n + 2) R.sizes fun z _ => by
    rw [List.length_map]
    exact offers_len R s z
  have h2 := h.sz.len
  exact Nat.le_trans h1 (Nat.mul_le_mul_right _ h2)
/-- a worth -/
structure Wo where
  price : Nat → Int
  free : Int
  til : Nat
structure Wo.Ok (W : Wo) : Prop where
  p0 : ∀ z, 0 ≤ W.price z ∧ W.price z ≤ 9
  f0 : 0 ≤ W.free ∧ W.free ≤ 9
  t0 : W.til ≤ 5
def mayEnd (R : Ru) (W : Wo) (s : S3) : Bool := if W.til = 0 then stuck R s else refuses R s W.til
/-- the worth waits for nothing, or for a size of the rule -/
def Fits (R : Ru) (W : Wo) : Prop := W.til = 0 ∨ W.til ∈ R.sizes
end Ls
set_option maxHeartbeats 4000000 -- Ob
/-! Types of the program's own data. -/
namespace Ls
open PySem Spec PyProof.Rows L2
variable [J : Iv]
def nI (n : Nat) : V := .int (n : Int)
abbrev nT (n : Nat) : Ty := tI (n : Int)
/-- a list, a tuple of natural numbers -/
def tNs (xs : List Nat) : Ty := tL (xs.map nT)
def tNt (xs : List Nat) : Ty := tT (xs.map nT)
def tSt (s : S3) : Ty := tT [tS s.l.s, nT s.n, tS s.r.s]
theorem nat_tys (xs : List Nat) : xs.map nT = (xs.map fun x : Nat => (x : Int)).map tI := by rw [List.map_map] <;> rfl
theorem tys_nats {B : Hp} {xs : List Nat} {vs : List V} (h : Tys B (xs.map nT) vs) : vs = xs.map nI := by
  rw [nat_tys] at h
  rw [tys_ints h, List.map_map] <;> rfl
theorem nats_tys {B : Hp} (xs : List Nat) : Tys B (xs.map nT) (xs.map nI) := by
  rw [nat_tys]
  have e : xs.map nI = (xs.map fun x : Nat => (x : Int)).map V.int := by rw [List.map_map] <;> rfl
  rw [e]
  exact ints_tys
theorem mem_cast {n : Nat} {xs : List Nat} : (n : Int) ∈ xs.map (fun x : Nat => (x : Int)) ↔ n ∈ xs := by
  rw [List.mem_map]
  constructor
  · rintro ⟨m, hm, e⟩
    have e : (m : Int) = (n : Int) := e
    rw [← Int.ofNat.inj e]
    exact hm
  · exact fun h => ⟨n, h, rfl⟩
section
variable {K : PySem.W.Frag} {i : Int} {n : Nat} {xs : List Nat}
theorem bin_inN (h : i = (n : Int)) : Bin (rIn K false) (tI i) (tNs xs) (tB (decide (n ∈ xs))) := by
  have q := bin_inL (K := K) (i := i) (ns := xs.map fun x : Nat => (x : Int))
  rw [h] at q ⊢
  have e : decide ((n : Int) ∈ xs.map fun x : Nat => (x : Int)) = decide (n ∈ xs) := decide_eq_decide.mpr mem_cast
  rw [e, ← nat_tys] at q
  exact q
theorem bin_niN (h : i = (n : Int)) : Bin (rIn K true) (tI i) (tNs xs) (tB (!decide (n ∈ xs))) := by
  have q := bin_niL (K := K) (i := i) (ns := xs.map fun x : Nat => (x : Int))
  rw [h] at q ⊢
  have e : decide ((n : Int) ∈ xs.map fun x : Nat => (x : Int)) = decide (n ∈ xs) := decide_eq_decide.mpr mem_cast
  rw [e, ← nat_tys] at q
  exact q
theorem bin_inNt (h : i = (n : Int)) : Bin (rIn K false) (tI i) (tNt xs) (tB (decide (n ∈ xs))) := by
  have q := bin_inT (K := K) (i := i) (ns := xs.map fun x : Nat => (x : Int))
  rw [h] at q ⊢
  have e : decide ((n : Int) ∈ xs.map fun x : Nat => (x : Int)) = decide (n ∈ xs) := decide_eq_decide.mpr mem_cast
  rw [e, ← nat_tys] at q
  exact q
theorem bin_niNt (h : i = (n : Int)) : Bin (rIn K true) (tI i) (tNt xs) (tB (!decide (n ∈ xs))) := by
  have q := bin_niT (K := K) (i := i) (ns := xs.map fun x : Nat => (x : Int))
  rw [h] at q ⊢
  have e : decide ((n : Int) ∈ xs.map fun x : Nat => (x : Int)) = decide (n ∈ xs) := decide_eq_decide.mpr mem_cast
  rw [e, ← nat_tys] at q
  exact q
end
/-! ### attributes by their names -/
theorem lk_hd {α : Type} {k : Str} {v : α} {r : List (Str × α)} : ((k, v) :: r).lookup k = some v := by rw [List.lookup_cons, beq_self_eq_true]
theorem lk_tl {α : Type} {k x : Str} {v : α} {r : List (Str × α)} (h : (x == k) = false) : ((k, v) :: r).lookup x = r.lookup x := by rw [List.lookup_cons, h]
theorem putF_tl {g f : Str} {x v : V} {r : List (Str × V)} (h : ¬ g = f) : putF f v ((g, x) :: r) = (g, x) :: putF f v r := by
  show (if g = f then _ else _) = _
  rw [if_neg h]
theorem putF_nil {f : Str} {v : V} : putF f v [] = [(f, v)] := rfl
/-- the three lists of bad lengths in a dict -/
def BadAt (B : Hp) (d : Addr) (bad : En → List Nat) : Prop := ∃ p q r : Addr, Lk B d (.dK [(.inr "pillar", .ref p), (.inr "sold", .ref q), (.inr "wall", .ref r)]) ∧
  B p = some (.lst ((bad .P).map nI)) ∧ B q = some (.lst ((bad .S).map nI)) ∧ B r = some (.lst ((bad .W).map nI))
omit [Iv] in
theorem BadAt.mono {B B' : Hp} {d : Addr} {bad : En → List Nat} (h : Same B B') : BadAt B d bad → BadAt B' d bad := fun ⟨p, q, r, a, b, c, e⟩ => ⟨p, q, r, a.mono h, h _ _ b, h _ _ c, h _ _ e⟩
def ruFs (R : Ru) (t d : Addr) : List (Str × V) := [("its_sizes", .ref t), ("its_bad", .ref d), ("its_soft", .bl R.soft), ("its_where", .str R.wh), ("its_offer", nI R.offer)]
/-- a Rule of the program -/
def tRu (K : PySem.W.Frag) (R : Ru) : Ty := ⟨fun B v => ∃ a dx t d, v = .ref a ∧ B a = some (.ins (He.ga K "Rule") dx (ruFs R t d)) ∧ B t = some (.tup (R.sizes.map nI)) ∧ BadAt B d R.bad,
  fun h ⟨a, dx, t, d, e, i, j, k⟩ => ⟨a, dx, t, d, e, h _ _ i, h _ _ j, k.mono h⟩⟩
theorem ruFs_sizes {R : Ru} {t d : Addr} : (ruFs R t d).lookup ("its_sizes" : Str) = some (.ref t) := lk_hd
theorem ruFs_bad {R : Ru} {t d : Addr} : (ruFs R t d).lookup ("its_bad" : Str) = some (.ref d) := (lk_tl (by decide +kernel)).trans lk_hd
theorem ruFs_soft {R : Ru} {t d : Addr} : (ruFs R t d).lookup ("its_soft" : Str) = some (.bl R.soft) := (lk_tl (by decide +kernel)).trans ((lk_tl (by decide +kernel)).trans lk_hd)
theorem ruFs_where {R : Ru} {t d : Addr} : (ruFs R t d).lookup ("its_where" : Str) = some (.str R.wh) := (lk_tl (by decide +kernel)).trans ((lk_tl (by decide +kernel)).trans ((lk_tl (by decide +kernel)).trans lk_hd))
theorem ruFs_offer {R : Ru} {t d : Addr} : (ruFs R t d).lookup ("its_offer" : Str) = some (nI R.offer) := (lk_tl (by decide +kernel)).trans ((lk_tl (by decide +kernel)).trans ((lk_tl (by decide +kernel)).trans ((lk_tl (by decide +kernel)).trans lk_hd)))
theorem ruFs_bad_at {R : Ru} {t d : Addr} : (ruFs R t d).lookup ("bad_at" : Str) = none := (lk_tl (by decide +kernel)).trans ((lk_tl (by decide +kernel)).trans ((lk_tl (by decide +kernel)).trans ((lk_tl (by decide +kernel)).trans ((lk_tl (by decide +kernel)).trans rfl))))
/-- prices by sizes in a dict -/
def PriAt (B : Hp) (d : Addr) (pr : Nat → Int) : Prop := ∃ kvs : List (Nat × Int), Lk B d (.dK (kvs.map fun q => (.inl (q.1 : Int), .int q.2))) ∧ ∀ z, ((kvs.find? fun q => decide (q.1 = z)).map Prod.snd).getD 0 = pr z
omit [Iv] in
theorem PriAt.mono {B B' : Hp} {d : Addr} {pr : Nat → Int} (h : Same B B') : PriAt B d pr → PriAt B' d pr := fun ⟨p, a, b⟩ => ⟨p, a.mono h, b⟩
def woFs (W : Wo) (d : Addr) : List (Str × V) := [("its_prices", .ref d), ("its_free", .int W.free), ("its_until", nI W.til)]
/-- a Worth of the program -/
def tWo (K : PySem.W.Frag) (W : Wo) : Ty := ⟨fun B v => ∃ a dx d, v = .ref a ∧ B a = some (.ins (He.ga K "Worth") dx (woFs W d)) ∧ PriAt B d W.price, fun h ⟨a, dx, d, e, i, j⟩ => ⟨a, dx, d, e, h _ _ i, j.mono h⟩⟩
theorem woFs_prices {W : Wo} {d : Addr} : (woFs W d).lookup ("its_prices" : Str) = some (.ref d) := lk_hd
theorem woFs_free {W : Wo} {d : Addr} : (woFs W d).lookup ("its_free" : Str) = some (.int W.free) := (lk_tl (by decide +kernel)).trans lk_hd
theorem woFs_until {W : Wo} {d : Addr} : (woFs W d).lookup ("its_until" : Str) = some (nI W.til) := (lk_tl (by decide +kernel)).trans ((lk_tl (by decide +kernel)).trans lk_hd)
theorem woFs_price {W : Wo} {d : Addr} : (woFs W d).lookup ("price" : Str) = none := (lk_tl (by decide +kernel)).trans ((lk_tl (by decide +kernel)).trans ((lk_tl (by decide +kernel)).trans rfl))
theorem woFs_total {W : Wo} {d : Addr} : (woFs W d).lookup ("total" : Str) = none := (lk_tl (by decide +kernel)).trans ((lk_tl (by decide +kernel)).trans ((lk_tl (by decide +kernel)).trans rfl))
/-! ### properties, methods -/
section
variable {P : Program} {w : World} {K : PySem.W.Frag} {mg : Str → Option Value} {base : Heap}
/-- a property of the text: its getter hands back the attribute -/
theorem pr_ok {q : PrD} {N : List Str} {p1 p2 p3 : Pos} {g : Str} (h : q.ok K = true ∧ prW K q = q.d.val) (S : FnScope N ["self"] q.d.scope) (hN : N[0]? = some ("self" : Str)) (hb : q.d.body = [.Return (some (.Attribute (.Name "self" p1) g p2)) p3])
    (hps : ∀ (kV doc pm : Value) (an : Option Addr) (cdv ct u : Value), bindArgs (PySem.W.fnOf q.d.name q.d.qual q.d.params q.d.body q.d.scope .none kV doc pm an cdv ct) ⟨[u], []⟩ = pure [(("self" : Str), u)]) (c : Cls K (He.ga K q.c)) (n : NoAttr K (He.ga K q.c) g) :
    ∃ fd, PropOf K (He.ga K q.c) q.f (pAd K q) (gAd K q) ∧ Binds K fd ["self"] [] ∧ FnOk P w K mg base CX0 1 (gAd K q) fd ["self"] (getSp (He.ga K q.c) g) := by
  obtain ⟨oc, od, osl, kV, doc, pm, an, cdv, ct, lk, hcd⟩ := PrD.fn h.2 h.1
  exact ⟨_, PrD.prop h.1, .all fun us hl => match us, hl with | [u], _ => hps kV doc pm an cdv ct u, fn_getter lk hcd S hN hb c n⟩
/-- what is wanted of a class's property over a type -/
def Prop1 (P : Program) (w : World) (K : PySem.W.Frag) (mg : Str → Option Value) (base : Heap) (C : Addr) (f g : Str) : Prop := ∃ (p ga : Addr) (fd : FuncData), PropOf K C f p ga ∧ Binds K fd ["self"] [] ∧ FnOk P w K mg base CX0 1 ga fd ["self"] (getSp C g)
end
section
variable {X : Cx} {Γ : Ctx} {e a b : Expr} {es : List Expr} {t : Ty} {ts : List Ty} {pos apos : Pos} {f g m : Str} {k : Nat}
theorem ev_prop {C : Addr} {t2 : Ty} (h : Prop1 X.prog X.w X.K X.mg X.base C f g) (c : Cls X.K C) (hr : Room 2 X.A) (he : EvE X Γ e t) (hv : ∀ B v, t.p B v → ∃ a dx fs u, v = .ref a ∧ B a = some (.ins C dx fs) ∧ fs.lookup g = some u ∧ t2.p B u)
    (hab : attributeBase e f X.env (eval e X.env) = eval e X.env := by rfl) : EvE X Γ (.Attribute e f pos) t2 := fun σ B H s bh Q q => by
  obtain ⟨p, ga, fd, hp, hb, F⟩ := h
  refine ⟨_, pe_prop pe_c c hp F hr hb .nil pass0 hab, he σ B H s bh _ fun v B1 H1 n1 r1 => ?_⟩
  obtain ⟨a, dx, fs, u, e1, e2, e3, e4⟩ := hv B1 v r1
  subst e1
  exact ⟨a, dx, fs, rfl, n1.bh _ _ e2, a, dx, fs, u, rfl, n1.bh _ _ e2, e3, q u B1 H1 n1 e4⟩
theorem ev_fld {C : Addr} {t2 : Ty} (c : Cls X.K C) (n : NoAttr X.K C f) (he : EvE X Γ e t) (hv : ∀ B v, t.p B v → ∃ a dx fs u, v = .ref a ∧ B a = some (.ins C dx fs) ∧ fs.lookup f = some u ∧ t2.p B u)
    (hab : attributeBase e f X.env (eval e X.env) = eval e X.env := by rfl) : EvE X Γ (.Attribute e f pos) t2 := fun σ B H s bh Q q =>
  ⟨_, pe_fld pe_c hab, he σ B H s bh _ fun v B1 H1 n1 r1 => by
    obtain ⟨a, dx, fs, u, e1, e2, e3, e4⟩ := hv B1 v r1
    exact ⟨a, C, dx, fs, u, e1, n1.bh _ _ e2, c, n, e3, q u B1 H1 n1 e4⟩⟩
end
/-- a method of the text -/
structure CalM (P : Program) (w : World) (K : PySem.W.Frag) (mg : Str → Option Value) (base : Heap) (C : Addr) (m : Str) (k : Nat) (sp : Sp) : Prop where
  ex : ∃ (f : Addr) (fd : FuncData) (ps : List Str), Meth K C m f ∧ Binds K fd ps [] ∧ FnOk P w K mg base CX0 k f fd ps sp
section
variable {X : Cx} {Γ : Ctx} {e a b o : Expr} {es : List Expr} {t : Ty} {ts : List Ty} {pos apos : Pos} {f g m : Str} {k : Nat}
/-- o.m(e, ..): t, the receiver's type, says that it is an instance of C without an attribute m -/
theorem ev_meth {us : List Ty} {t2 : Ty} {α : Type} {d : α} {args : α → List Ty} {pre : α → Prop} {res : α → Ty} {C : Addr} (M : CalM X.prog X.w X.K X.mg X.base C m k (spF (fun d => t :: args d) pre res)) (c : Cls X.K C) (hr : Room k X.A) (ho : EvE X Γ o t)
    (hv : ∀ B v, t.p B v → ∃ a dx fs, v = .ref a ∧ B a = some (.ins C dx fs) ∧ fs.lookup m = none) (ha : EvA X Γ (e :: es) us) (hp : pre d) {pl : Sem Bool} (hts : args d = us := by rfl) (ht2 : res d = t2 := by rfl) (hst : starEach (e :: es) X.env = (false, eval e X.env) :: starEach es X.env := by rfl)
    (hpl : (backTo pos (starEach es X.env)).any (·.1) = false := by rfl)
    (ht : eval (.Call (.Attribute o m apos) (e :: es) [] pos) X.env = (do
      let ov ← eval o X.env
      standAt apos.atName
      let (f, first) ← holding [ov] (getMethod ov m pl)
      callWith pos f first (backTo pos (starEach (e :: es) X.env)) (backToKw pos (keywordEach [] X.env))) := by rfl) : EvE X Γ (.Call (.Attribute o m apos) (e :: es) [] pos) t2 := fun σ B H s bh Q q => by
  subst hts ht2
  obtain ⟨f, fd, ps, hm, hb, F⟩ := M.ex
  refine ⟨_, pe_meth pe_c c hm F hr hb .nil pass0 pa_c hst hpl ht, ho σ B H s bh _ fun v B1 H1 n1 r1 => ?_⟩
  obtain ⟨a, dx, fs, e1, e2, e3⟩ := hv B1 v r1
  refine ⟨a, dx, fs, e1, n1.bh _ _ e2, e3, ha σ B1 H1 (s.mono n1.bb) n1.bh _ fun vs B2 H2 n2 r2 => ?_⟩
  rw [List.append_nil]
  exact ⟨d, B2, n2.bh, hp, .cons (t.mono n2.bb r1) r2, fun v B3 H3 n3 r3 => q v B3 H3 ((n1.trans n2).trans n3) r3⟩
end
section
variable {P : Program} {w : World} {K : PySem.W.Frag} {mg : Str → Option Value} {base : Heap}
theorem calM_F {α : Type} {args : α → List Ty} {pre : α → Prop} {res : α → Ty} {d : He.DefD} {C : Addr} {m : Str} {k : Nat} {N ps : List Str} (F : ∃ fd, FunD K d.name d.qual d.params d.body d.scope [] [] (He.fAd K d.at_) fd) (hm : Meth K C m (He.fAd K d.at_)) (S : FnScope N ps d.scope)
    (hb : ∀ (kV doc pm : Value) (an : Option Addr) (cdv ct : Value) (us : List Value), us.length = ps.length → bindArgs (PySem.W.fnOf d.name d.qual d.params d.body d.scope .none kV doc pm an cdv ct) ⟨us, []⟩ = pure (ps.zip us))
    (hl : ∀ a, (args a).length = ps.length) (hN : ps.length ≤ N.length)
    (body : ∀ (f : Addr) (cdv : Value) (cd : PySem.W.codeIn K cdv d.qual = true) (A : Around) (outer : List Env) (s : Shared) (H0 : Hp) (E : XK) (a : α) (B0 : Hp) (σ : L2.St) (D : Ends), Room k (A.deeper (envOfC d.qual d.scope s.heap.objs.size f cdv)) → pre a →
      At nF B0 H0 B0 ((args a).map some ++ List.replicate (N.length - (args a).length) none) [] σ B0 H0 → (∀ v B' H', Nw nF B0 H0 B' H' → (res a).p B' v → D.rt v H') → (∀ σ' H', D.rt .non H' → D.nx σ' H') →
      RS (cx0 P w K mg base N d f cdv A outer s H0 E) d.body D σ H0) : CalM P w K mg base C m (k + 1) (spF args pre res) := by
  obtain ⟨fd, F⟩ := F
  exact ⟨_, fd, ps, hm, F.bindsN hb, ok_F F S hl hN (body _)⟩
end
end Ls
set_option maxHeartbeats 4000000 -- D1
/-! kinds, stretches -/
namespace Ls
open PySem Spec PyProof.Rows L2
section
variable [J : Iv] {P : Program} {w : World} {K : PySem.W.Frag} {mg : Str → Option Value} {base : Heap}
def sp_is_integer : Sp := spF (α := Int) (fun i => [tI i]) (fun _ => True) (fun _ => tB true)
theorem sc_is_integer : FnScope ["thing"] ["thing"] (defScope s_is_integer) := ⟨rfl, rfl, rfl, by decide +kernel, rfl, by decide +kernel, by decide +kernel⟩
theorem c_is_integer (T : Top K mg) : Cal P w K mg base "is_integer" 1 sp_is_integer := by
  refine cal_F T.f_is_integer T.g_is_integer sc_is_integer (fun _ _ _ _ _ _ us hl => match us, hl with | [_], _ => rfl) (fun _ => rfl) (by decide) fun f cdv cd A outer s H0 E i B0 σ D hr hp a k hn => ?_
  refine rs_ret a (ev_and (ev_callB call_isi rfl T.b_isinstance bt_isinstance (ea_cons (ev_name (i := 0) rfl (.inl rfl) rfl) (ea_cons (ev_bty rfl T.b_int bt_int) ea_nil)) (cb_isi isTy_int kt_int_int))
    fun _ => ev_one (ev_not (ev_callB call_isi rfl T.b_isinstance bt_isinstance (ea_cons (ev_name (i := 0) rfl (.inl rfl) rfl) (ea_cons (ev_bty rfl T.b_bool bt_bool) ea_nil)) (cb_isi isTy_int kt_int_bool)))) ?_
  exact fun v B' H' _ a' r => k v B' H' a'.n r

def sp_is_number : Sp := spF (α := Int) (fun i => [tI i]) (fun _ => True) (fun i => tB (decide (0 ≤ i)))
theorem sc_is_number : FnScope ["thing"] ["thing"] (defScope s_is_number) := ⟨rfl, rfl, rfl, by decide +kernel, rfl, by decide +kernel, by decide +kernel⟩
theorem c_is_number (T : Top K mg) : Cal P w K mg base "is_number" 2 sp_is_number := by
  have C_is_integer := c_is_integer (P := P) (w := w) (base := base) T
  refine cal_F T.f_is_number T.g_is_number sc_is_number (fun _ _ _ _ _ _ us hl => match us, hl with | [_], _ => rfl) (fun _ => rfl) (by decide) fun f cdv cd A outer s H0 E d B0 σ D hr hp a k hn => ?_
  refine rs_ret a (ev_and (ev_call C_is_integer (hr.mono (by decide)) rfl (ea_cons (ev_name (i := 0) rfl (.inl rfl) rfl) ea_nil) trivial) (fun _ => (ev_one (ev_cmp op_ge (ev_name (i := 0) rfl (.inl rfl) rfl) ev_int bin_I0 (nomark _))))) ?_
  exact fun v B' H' _ a' r => k v B' H' a'.n r

theorem inV_end (e : En) : inV (.str e.s) [.str "pillar", .str "sold", .str "wall"] = true := by cases e <;> decide +kernel
def sp_is_end : Sp := spF (α := En) (fun e => [tS e.s]) (fun _ => True) (fun _ => tB true)
theorem sc_is_end : FnScope ["thing"] ["thing"] (defScope s_is_end) := ⟨rfl, rfl, rfl, by decide +kernel, rfl, by decide +kernel, by decide +kernel⟩
theorem c_is_end (T : Top K mg) : Cal P w K mg base "is_end" 1 sp_is_end := by
  refine cal_F T.f_is_end T.g_is_end sc_is_end (fun _ _ _ _ _ _ us hl => match us, hl with | [_], _ => rfl) (fun _ => rfl) (by decide) fun f cdv cd A outer s H0 E d B0 σ D hr hp a k hn => ?_
  refine rs_ret a (ev_and (ev_callB call_isi rfl T.b_isinstance bt_isinstance (ea_cons (ev_name (i := 0) rfl (.inl rfl) rfl) (ea_cons (ev_bty rfl T.b_str bt_str) ea_nil)) (cb_isi isTy_str kt_str_str)) (fun _ => (ev_one (ev_cmp op_in_seq (ev_name (i := 0) rfl (.inl rfl) rfl) (ev_gref rfl T.g_ENDS) (bin_inK T.ends rfl (inV_end d)) rfl)))) ?_
  exact fun v B' H' _ a' r => k v B' H' a'.n r

def sp_is_size : Sp := spF (α := Int) (fun i => [tI i]) (fun _ => True) (fun i => tB (decide (1 ≤ i) && decide (i ≤ 5)))
theorem sc_is_size : FnScope ["thing"] ["thing"] (defScope s_is_size) := ⟨rfl, rfl, rfl, by decide +kernel, rfl, by decide +kernel, by decide +kernel⟩
theorem c_is_size (T : Top K mg) : Cal P w K mg base "is_size" 2 sp_is_size := by
  have C_is_integer := c_is_integer (P := P) (w := w) (base := base) T
  refine cal_F T.f_is_size T.g_is_size sc_is_size (fun _ _ _ _ _ _ us hl => match us, hl with | [_], _ => rfl) (fun _ => rfl) (by decide) fun f cdv cd A outer s H0 E d B0 σ D hr hp a k hn => ?_
  refine rs_ret a (ev_and (ev_call C_is_integer (hr.mono (by decide)) rfl (ea_cons (ev_name (i := 0) rfl (.inl rfl) rfl) ea_nil) trivial) (fun _ => (ev_one (ev_chain op_le op_le ev_int (ev_name (i := 0) rfl (.inl rfl) rfl) (ev_gint rfl T.i_MOST_SIZE) bin_I0 bin_I0)))) ?_
  exact fun v B' H' _ a' r => k v B' H' a'.n r

def In15 (xs : List Nat) : Prop := ∀ x ∈ xs, 1 ≤ x ∧ x ≤ 5
theorem all_sizes {xs : List Nat} (h : In15 xs) : (xs.map fun x : Nat => decide ((1 : Int) ≤ (x : Int)) && decide ((x : Int) ≤ 5)).all id = true := by
  rw [List.all_map, List.all_eq_true]
  intro x hx
  obtain ⟨h1, h2⟩ := h x hx
  show (decide ((1 : Int) ≤ (x : Int)) && decide ((x : Int) ≤ 5)) = true
  rw [decide_eq_true (by omega), decide_eq_true (by omega)]
  rfl
theorem filter_yes {α : Type} (xs : List α) : xs.filter (fun _ => true) = xs := List.filter_eq_self.mpr fun _ _ => rfl
def sp_are_sizes : Sp := spF (α := List Nat) (fun xs => [tNs xs]) (fun xs => In15 xs ∧ xs.length ≤ 100) (fun _ => tB true)
theorem sc_are_sizes : FnScope ["thing", "one"] ["thing"] (defScope s_are_sizes) := ⟨rfl, rfl, rfl, by decide +kernel, rfl, by decide +kernel, by decide +kernel⟩
theorem c_are_sizes (T : Top K mg) : Cal P w K mg base "are_sizes" 3 sp_are_sizes := by
  have nd := sc_are_sizes.nd
  have C_is_size := c_is_size (P := P) (w := w) (base := base) T
  refine cal_F T.f_are_sizes T.g_are_sizes sc_are_sizes (fun _ _ _ _ _ _ us hl => match us, hl with | [_], _ => rfl) (fun _ => rfl) (by decide) fun f cdv cd A outer s H0 E d B0 σ D hr hp a k hn => ?_
  refine rs_ret a (ev_and (ev_callB call_isiT rfl T.b_isinstance bt_isinstance (ea_cons (ev_name (i := 0) rfl (.inl rfl) rfl) (ea_cons (ev_tup (ea_cons (ev_bty rfl T.b_list bt_list) (ea_cons (ev_bty rfl T.b_tuple bt_tuple) ea_nil))) ea_nil)) (cb_isiT isTy_lst kt_list_list kt_list_tuple)) (fun _ => (ev_one (ev_callB (cr_all rfl) rfl T.b_all bt_all (ea_cons (EvE.is (ev_lc (own := [("one", 1)]) (xs := d) (p := fun _ => true) (g := fun x : Nat => tB (decide ((1 : Int) ≤ (x : Int)) && decide ((x : Int) ≤ 5))) rfl nd (blkOk_by (N := ["thing", "one"]) (sc := defScope s_are_sizes) (by decide +kernel)) (ei_list (ev_name (i := 0) rfl (.inl rfl) rfl)) (by decide) (by have := hp.2; omega)
    (fun _ _ _ _ _ _ _ => (tg_name (i := 1) nd rfl (.inl rfl))) (fun _ _ _ _ _ _ _ => ets_nil) (fun _ _ _ _ _ _ _ => fun _ => (ev_call C_is_size (hr.mono (by decide)) rfl (ea_cons (ev_name (i := 1) rfl (.inl rfl) rfl) ea_nil) trivial))) (t2 := tL ((d.map fun x : Nat => decide ((1 : Int) ≤ (x : Int)) && decide ((x : Int) ≤ 5)).map tB)) (by rw [filter_yes, List.map_map]; rfl)) ea_nil) (cb_all))))) fun v B' H' _ a' r => k v B' H' a'.n (by rw [all_sizes hp.1] at r; exact r)

def sp_is_choice : Sp := spF (α := Int × Int) (fun d => [tT [tI d.1, tI d.2]]) (fun _ => True) (fun d => tB ((decide (1 ≤ d.1) && decide (d.1 ≤ 5)) && decide (0 ≤ d.2)))
theorem sc_is_choice : FnScope ["thing"] ["thing"] (defScope s_is_choice) := ⟨rfl, rfl, rfl, by decide +kernel, rfl, by decide +kernel, by decide +kernel⟩
theorem c_is_choice (T : Top K mg) : Cal P w K mg base "is_choice" 3 sp_is_choice := by
  have C_is_number := c_is_number (P := P) (w := w) (base := base) T
  have C_is_size := c_is_size (P := P) (w := w) (base := base) T
  refine cal_F T.f_is_choice T.g_is_choice sc_is_choice (fun _ _ _ _ _ _ us hl => match us, hl with | [_], _ => rfl) (fun _ => rfl) (by decide) fun f cdv cd A outer s H0 E d B0 σ D hr hp a k hn => ?_
  refine rs_ret a (ev_and (ev_callB call_isi rfl T.b_isinstance bt_isinstance (ea_cons (ev_name (i := 0) rfl (.inl rfl) rfl) (ea_cons (ev_bty rfl T.b_tuple bt_tuple) ea_nil)) (cb_isi isTy_tup kt_tuple_tuple)) (fun _ => (ev_and (ev_cmp op_eq (ev_callB call_lenS rfl T.b_len bt_len (ea_cons (ev_name (i := 0) rfl (.inl rfl) rfl) ea_nil) cb_lenT) ev_int (bin_eq rfl) (nomark _)) (fun _ => (ev_and (ev_call C_is_size (hr.mono (by decide)) rfl (ea_cons (ev_sub ix_tup (ev_name (i := 0) rfl (.inl rfl) rfl) ev_int (bin_ixTi (j := 0) rfl rfl)) ea_nil) trivial) (fun _ => (ev_one (ev_call C_is_number (hr.mono (by decide)) rfl (ea_cons (ev_sub ix_tup (ev_name (i := 0) rfl (.inl rfl) rfl) ev_int (bin_ixTi (j := 1) rfl rfl)) ea_nil) trivial)))))))) ?_
  exact fun v B' H' _ a' r => k v B' H' a'.n r

def Fit (s : S3) (z b : Nat) : Prop := 1 ≤ z ∧ z ≤ 5 ∧ b + z ≤ s.n
def sp_fits : Sp := spF (α := S3 × Nat × Nat) (fun d => [tSt d.1, nT d.2.1, nT d.2.2]) (fun d => Fit d.1 d.2.1 d.2.2) (fun d => tB true)
theorem sc_fits : FnScope ["stretch", "size", "before"] ["stretch", "size", "before"] (defScope s_fits) := ⟨rfl, rfl, rfl, by decide +kernel, rfl, by decide +kernel, by decide +kernel⟩
theorem c_fits (T : Top K mg) : Cal P w K mg base "fits" 3 sp_fits := by
  have C_is_number := c_is_number (P := P) (w := w) (base := base) T
  have C_is_size := c_is_size (P := P) (w := w) (base := base) T
  refine cal_F T.f_fits T.g_fits sc_fits (fun _ _ _ _ _ _ us hl => match us, hl with | [_, _, _], _ => rfl) (fun _ => rfl) (by decide) fun f cdv cd A outer s H0 E ⟨st, z, b⟩ B0 σ D hr hp a k hn => ?_
  refine rs_ret a (ev_and (ev_call C_is_size (hr.mono (by decide)) rfl (ea_cons (ev_name (i := 1) rfl (.inl rfl) rfl) ea_nil) trivial) (fun _ => (ev_and (ev_call C_is_number (hr.mono (by decide)) rfl (ea_cons (ev_name (i := 2) rfl (.inl rfl) rfl) ea_nil) trivial) (fun _ => (ev_one (ev_cmp op_le (ev_bin op_add (ev_name (i := 2) rfl (.inl rfl) rfl) (ev_name (i := 1) rfl (.inl rfl) rfl) bin_I0) (ev_sub ix_tup (ev_name (i := 0) rfl (.inl rfl) rfl) ev_int (bin_ixTi (j := 1) rfl rfl)) bin_I0 (nomark _))))))) fun v B' H' _ a' r => k v B' H' a'.n ?_
  obtain ⟨h1, h2, h3⟩ := hp
  have e1 : decide ((1 : Int) ≤ (z : Int)) = true := decide_eq_true (by have h1 : 1 ≤ z := h1; omega)
  have e2 : decide ((z : Int) ≤ 5) = true := decide_eq_true (by have h2 : z ≤ 5 := h2; omega)
  have e3 : decide ((0 : Int) ≤ (b : Int)) = true := decide_eq_true (by omega)
  have e4 : decide ((b : Int) + (z : Int) ≤ (st.n : Int)) = true := decide_eq_true (by have h3 : b + z ≤ st.n := h3; omega)
  have r2 : v = V.bl ((decide ((1 : Int) ≤ (z : Int)) && decide ((z : Int) ≤ 5)) && (decide ((0 : Int) ≤ (b : Int)) && decide ((b : Int) + (z : Int) ≤ (st.n : Int)))) := r
  rw [e1, e2, e3, e4] at r2
  exact r2

def sp_parts : Sp := spF (α := S3 × Nat × Nat) (fun d => [tSt d.1, nT d.2.1, nT d.2.2]) (fun d => Fit d.1 d.2.1 d.2.2) (fun d => tT [tSt (pL d.1 d.2.2), tSt (pR d.1 d.2.1 d.2.2)])
theorem sc_parts : FnScope ["stretch", "size", "before", "left", "length", "right"] ["stretch", "size", "before"] (defScope s_parts) := ⟨rfl, rfl, rfl, by decide +kernel, rfl, by decide +kernel, by decide +kernel⟩
theorem c_parts (T : Top K mg) : Cal P w K mg base "parts" 4 sp_parts := by
  have nd := sc_parts.nd
  have C_fits := c_fits (P := P) (w := w) (base := base) T
  refine cal_F T.f_parts T.g_parts sc_parts (fun _ _ _ _ _ _ us hl => match us, hl with | [_, _, _], _ => rfl) (fun _ => rfl) (by decide) fun f cdv cd A outer s H0 E ⟨st, z, b⟩ B0 σ D hr hp a k hn => ?_
  refine rs_when a (et_not (et_val (ev_call C_fits (hr.mono (by decide)) rfl (d := (st, z, b)) (ea_cons (ev_name (i := 0) rfl (.inl rfl) rfl) (ea_cons (ev_name (i := 1) rfl (.inl rfl) rfl) (ea_cons (ev_name (i := 2) rfl (.inl rfl) rfl) ea_nil))) hp))) (fun hb B H s1 a => absurd hb (by decide)) fun hb B H s1 a => ?_
  refine rs_asg a (ev_name (i := 0) rfl (.inl rfl) rfl) (tg_tup rfl (tgs_cons (tg_name (i := 3) nd rfl (.inl rfl)) (tgs_cons (tg_name (i := 4) nd rfl (.inl rfl)) (tgs_cons (tg_name (i := 5) nd rfl (.inl rfl)) tgs_nil)))) fun σ B H s1 a => ?_
  obtain ⟨h1, h2, h3⟩ := hp
  have h3 : b + z ≤ st.n := h3
  have e : (st.n : Int) - (z : Int) - (b : Int) = ((st.n - z - b : Nat) : Int) := by omega
  refine rs_ret a (ev_tup (ea_cons (ev_tup (ea_cons (ev_name (i := 3) rfl (.inl rfl) rfl) (ea_cons (ev_name (i := 2) rfl (.inl rfl) rfl) (ea_cons ev_str ea_nil)))) (ea_cons (ev_tup (ea_cons ev_str (ea_cons (EvE.is (ev_bin op_sub (ev_bin op_sub (ev_name (i := 4) rfl (.inl rfl) rfl) (ev_name (i := 1) rfl (.inl rfl) rfl) bin_I0) (ev_name (i := 2) rfl (.inl rfl) rfl) bin_I0) (congrArg tI e)) (ea_cons (ev_name (i := 5) rfl (.inl rfl) rfl) ea_nil)))) ea_nil))) ?_
  exact fun v B' H' _ a' r => k v B' H' a'.n r
end
end Ls
set_option maxHeartbeats 4000000 -- Pr
/-! More rules over types: data, slices, ranges as lists, two clauses. -/
namespace Ls
open PySem Spec PyProof.Rows L2
variable [J : Iv]
/-! ### data -/
def IsD (t : Ty) (d : PyData) : Prop := ∀ (K : PySem.W.Frag) (B H : Hp) (v : V), Same B H → t.p B v → Dp K H v d
def IsDs (ts : List Ty) (ds : List PyData) : Prop := ∀ (K : PySem.W.Frag) (B H : Hp) (vs : List V), Same B H → Tys B ts vs → DpAll K H vs ds
theorem isd_int {i : Int} : IsD (tI i) (.int i) := fun K B H v bh h => by
  cases h
  exact .int i
theorem isd_bl {i : Bool} : IsD (tB i) (.bool i) := fun K B H v bh h => by
  cases h
  exact .bl i
theorem isd_str {i : Str} : IsD (tS i) (.str i) := fun K B H v bh h => by
  cases h
  exact .str i
theorem isd_non : IsD tNone .none := fun K B H v bh h => by
  cases h
  exact .non
theorem isds_nil : IsDs [] [] := fun K B H vs bh h => by
  cases h
  exact .nil
theorem isds_cons {t : Ty} {ts : List Ty} {d : PyData} {ds : List PyData} (h : IsD t d) (r : IsDs ts ds) : IsDs (t :: ts) (d :: ds) := fun K B H vs bh q => by
  cases q with
  | cons a b => exact .cons (h K B H _ bh a) (r K B H _ bh b)
theorem isds_map {α : Type} {τ : α → Ty} {f : α → PyData} : ∀ {xs : List α}, (∀ x ∈ xs, IsD (τ x) (f x)) → IsDs (xs.map τ) (xs.map f)
  | [], _ => isds_nil
  | x :: xs, h => isds_cons (h x List.mem_cons_self) (isds_map fun y hy => h y (List.mem_cons_of_mem _ hy))
theorem isd_L {ts : List Ty} {ds : List PyData} (r : IsDs ts ds) : IsD (tL ts) (.list ds) := fun K B H v bh ⟨a, vs, e, h, q⟩ => by
  subst e
  exact .lst (.of (bh _ _ h)) (r K B H vs bh q)
theorem isd_T {ts : List Ty} {ds : List PyData} (r : IsDs ts ds) : IsD (tT ts) (.tuple ds) := fun K B H v bh ⟨a, vs, e, h, q⟩ => by
  subst e
  exact .tup (.of (bh _ _ h)) (r K B H vs bh q)
theorem isd_nats {xs : List Nat} : IsD (tNs xs) (.list (xs.map fun x : Nat => .int (x : Int))) := isd_L (isds_map fun x _ => isd_int)
theorem isd_ints {xs : List Int} : IsD (tL (xs.map tI)) (.list (xs.map .int)) := isd_L (isds_map fun x _ => isd_int)
theorem lay_map {α : Type} {f : α → PyData} : ∀ {xs : List α}, (∀ x ∈ xs, (f x).canLay0 = true) → PyData.canLayAll0 (xs.map f) = true
  | [], _ => rfl
  | x :: xs, h => by
    rw [List.map_cons, PyData.canLayAll0, h x List.mem_cons_self, lay_map fun y hy => h y (List.mem_cons_of_mem _ hy)]
    rfl
theorem depth_map {α : Type} {f : α → PyData} {m : Nat} : ∀ {xs : List α}, (∀ x ∈ xs, (f x).depth ≤ m) → PyData.depthAll (xs.map f) ≤ m
  | [], _ => Nat.zero_le _
  | x :: xs, h => by
    rw [List.map_cons, PyData.depthAll]
    exact Nat.max_le.mpr ⟨h x List.mem_cons_self, depth_map fun y hy => h y (List.mem_cons_of_mem _ hy)⟩
theorem shaped_list {ds : List PyData} {m : Nat} (h1 : PyData.canLayAll0 ds = true) (h2 : PyData.depthAll ds ≤ m) (h3 : m < 64) : SeqAt.shaped (.list ds) = true := by
  unfold SeqAt.shaped
  rw [PyData.canLay0, h1, PyData.depth, decide_eq_true (by omega)]
  rfl
theorem shaped_ints {xs : List Int} : SeqAt.shaped (.list (xs.map .int)) = true := shaped_list (lay_map fun _ _ => rfl) (depth_map (m := 0) fun _ _ => Nat.le_refl 0) (by decide)
theorem shaped_nats {xs : List Nat} : SeqAt.shaped (.list (xs.map fun x : Nat => .int (x : Int))) = true := shaped_list (lay_map fun _ _ => rfl) (depth_map (m := 0) fun _ _ => Nat.le_refl 0) (by decide)
theorem shaped_nil : SeqAt.shaped (.list []) = true := by decide +kernel
theorem bin_eqD {K : PySem.W.Frag} {t1 t2 : Ty} {d e : PyData} (h1 : IsD t1 d) (h2 : IsD t2 e) (s1 : SeqAt.shaped d = true) (s2 : SeqAt.shaped e = true) : Bin (rEqD K) t1 t2 (tB (PyData.eqv d e)) := fun u v B H Q bh hu hv q =>
  ⟨d, e, h1 K B H u bh hu, h2 K B H v bh hv, s1, s2, q _ B H (.refl bh) rfl⟩
theorem bin_neD {K : PySem.W.Frag} {t1 t2 : Ty} {d e : PyData} (h1 : IsD t1 d) (h2 : IsD t2 e) (s1 : SeqAt.shaped d = true) (s2 : SeqAt.shaped e = true) : Bin (rNeD K) t1 t2 (tB (!PyData.eqv d e)) := fun u v B H Q bh hu hv q =>
  ⟨d, e, h1 K B H u bh hu, h2 K B H v bh hv, s1, s2, q _ B H (.refl bh) rfl⟩
theorem eqv_nil (ds : List PyData) : PyData.eqv (.list ds) (.list []) = ds.isEmpty := by
  cases ds with
  | nil => rfl
  | cons d r =>
    rw [PyData.eqv, PyData.eqvAll]
    rfl
theorem bin_eqNil {K : PySem.W.Frag} {xs : List Nat} : Bin (rEqD K) (tNs xs) (tL []) (tB (decide (xs = []))) := by
  have q := bin_eqD (K := K) (isd_nats (xs := xs)) (isd_L isds_nil) shaped_nats shaped_nil
  rw [eqv_nil] at q
  have e : (xs.map fun x : Nat => PyData.int (x : Int)).isEmpty = decide (xs = []) := by cases xs <;> rfl
  rw [e] at q
  exact q
theorem bin_neNil {K : PySem.W.Frag} {xs : List Nat} : Bin (rNeD K) (tNs xs) (tL []) (tB (!decide (xs = []))) := by
  have q := bin_neD (K := K) (isd_nats (xs := xs)) (isd_L isds_nil) shaped_nats shaped_nil
  rw [eqv_nil] at q
  have e : (xs.map fun x : Nat => PyData.int (x : Int)).isEmpty = decide (xs = []) := by cases xs <;> rfl
  rw [e] at q
  exact q
/-! ### slices -/
section
variable {X : Cx} {Γ : Ctx} {e a b : Expr} {t t1 t2 : Ty} {ts : List Ty} {pos p p2 apos : Pos} {x : Str} {lo hi : Option Expr} {i j : Option Int}
def RO (X : Cx) (o : Option Expr) (σ : L2.St) (H : Hp) (Q : Option Int → Hp → Prop) : Prop := ∃ to, PO X o to ∧ to σ H Q
theorem po_c : PO X lo (RO X lo) := ⟨fun pins s σ H Q I ⟨_, h, q⟩ => h.run pins s σ H Q I q⟩
def EvO (X : Cx) (Γ : Ctx) (o : Option Expr) (i : Option Int) : Prop := ∀ (σ : L2.St) (B H : Hp), SOk Γ B σ → Sm B H → ∀ Q : Option Int → Hp → Prop, (∀ B' H', Nw nF B H B' H' → Q i H') → RO X o σ H Q
theorem eo_none : EvO X Γ none none := fun σ B H s bh Q q => ⟨_, po_none, q B H (.refl bh)⟩
theorem eo_some {n : Int} (h : EvE X Γ e (tI n)) : EvO X Γ (some e) (some n) := fun σ B H s bh Q q => ⟨_, po_some pe_c, h σ B H s bh _ fun v B1 H1 n1 r1 => ⟨n, r1, q B1 H1 n1⟩⟩
def cutT (ts : List Ty) (lo hi : Option Int) : List Ty := (ts.drop (HT.sIx ts.length 0 lo)).take (HT.sIx ts.length ts.length hi - HT.sIx ts.length 0 lo)
theorem tys_cut {B : Hp} {vs : List V} (h : Tys B ts vs) : Tys B (cutT ts i j) (cutV vs i j) := by
  unfold cutT cutV
  rw [h.length]
  exact (h.drop _).take _
theorem ev_sliceL (h : EvE X Γ e (tL ts)) (h1 : EvO X Γ lo i) (h2 : EvO X Γ hi j) : EvE X Γ (.Subscript e (.Slice lo hi none p2) pos) (tL (cutT ts i j)) := fun σ B H s bh Q q =>
  ⟨_, pe_slice sl_list pe_c po_c po_c, h σ B H s bh _ fun v B1 H1 n1 ⟨l, vs, e1, e2, e3⟩ => h1 σ B1 H1 (s.mono n1.bb) n1.bh _ fun B2 H2 n2 => h2 σ B2 H2 (s.mono (n1.trans n2).bb) n2.bh _ fun B3 H3 n3 =>
    ⟨l, vs, e1, .of (n3.bh _ _ ((n2.trans n3).bb _ _ e2)), fun q' hq => q _ _ _ (((n1.trans n2).trans n3).trans (.lay n3.bh hq)) ⟨q', _, rfl, upd_same, tys_cut ((e3.mono (n2.trans n3).bb).mono (Nw.lay (F := nF) (o := .lst (cutV vs i j)) n3.bh hq).bb)⟩⟩⟩
theorem cut_to {k : Nat} : cutT ts none (some (k : Int)) = ts.take k := by
  unfold cutT
  rw [HT.sIx_none, HT.sIx_nat, List.drop_zero, Nat.sub_zero]
  rw [List.take_eq_take_iff]
  omega
theorem cut_from {k : Nat} : cutT ts (some (k : Int)) none = ts.drop k := by
  unfold cutT
  rw [HT.sIx_none, HT.sIx_nat]
  have h : (ts.drop (min k ts.length)).length = ts.length - min k ts.length := by rw [List.length_drop]
  rw [← h, List.take_length]
  by_cases hk : k ≤ ts.length
  · rw [Nat.min_eq_left hk]
  · rw [List.drop_eq_nil_of_le (by omega), List.drop_eq_nil_of_le (by omega)]
theorem take_map {α β : Type} (f : α → β) (n : Nat) (xs : List α) : (xs.map f).take n = (xs.take n).map f := by rw [List.map_take]
/-! ### list(..) -/
def rListS (K : PySem.W.Frag) : List V → Hp → VK → Prop := fun xs H Q => ∃ p ys, xs = [.ref p] ∧ (SqL K H p ys ∨ SqT K H p ys) ∧ ∀ l, H l = none → Q (.ref l) (upd H l (.lst ys))
theorem call_listS : CallR X (.type "list") (rListS X.K) := call_list_of
theorem cb_list {K : PySem.W.Frag} : Cb (rListS K) [tL ts] (tL ts) := fun vs B H Q bh r q => by
  cases r with
  | cons r1 r0 =>
    cases r0
    obtain ⟨a, xs, e, h, r⟩ := r1
    subst e
    exact ⟨a, xs, rfl, .inl (.of (bh _ _ h)), fun l hl => q _ _ _ (.lay bh hl) ⟨l, xs, rfl, upd_same, r.mono (Nw.lay (F := nF) (o := .lst xs) bh hl).bb⟩⟩
/-- list(range(n)) -/
theorem ev_listRg {n : Int} {m : Nat} (hc : X.calm = true) (hgl : Gl X "list") (hml : X.mg "list" = none) (hgr : Gl X "range") (hmr : X.mg "range" = none) (h : EvE X Γ a (tI n)) (hn : n = (m : Int)) (hm : m ≤ 100000)
    (na : starEach [a] X.env = (false, eval a X.env) :: starEach [] X.env := by rfl) (nb : starEach [Expr.Call (.Name "range" p2) [a] [] apos] X.env = (false, eval (.Call (.Name "range" p2) [a] [] apos) X.env) :: starEach [] X.env := by rfl) :
    EvE X Γ (.Call (.Name "list" p) [.Call (.Name "range" p2) [a] [] apos] [] pos) (tNs (List.range m)) := fun σ B H s bh Q q =>
  ⟨_, pe_listRg hc hgl hml (prg_1 hgr hmr pe_c na) nb, h σ B H s bh _ fun v B1 H1 n1 r1 => ⟨n, r1, RgOk.of_le (Int.le_refl 0) (by omega) (by omega) (by omega), fun l hl => by
    have e : rgV 0 n = (List.range m).map nI := by
      unfold rgV
      rw [show (n - 0).toNat = m by omega]
      exact List.map_congr_left fun i _ => by show V.int (0 + (i : Int)) = V.int (i : Int); rw [Int.zero_add]
    rw [e]
    exact q _ _ _ (n1.trans (.lay n1.bh hl)) ⟨l, _, rfl, upd_same, nats_tys _⟩⟩⟩
/-! ### [e for x in xs for y in ys] -/
theorem tys_snoc {B : Hp} {vs : List V} {v : V} (h : Tys B ts vs) (q : t.p B v) : Tys B (ts ++ [t]) (vs ++ [v]) := h.append (.one q)
theorem ev_lc2 {α β : Type} {xs : List α} {τ : α → Ty} {ys : α → List β} {τ1 : α → β → Ty} {g : α → β → Ty} {u : α → Ctx → Ctx} {u1 : α → β → Ctx → Ctx} {js js1 vs1 : List Nat} {own : List (Str × Nat)} {elt it tg it1 tg1 : Expr} {scope : Scope} (hc : X.calm = true) (hN : X.N.Nodup)
    (ok : BlkOk X.N X.env.scope scope own) (hv : ∀ i ∈ vs1, i ∈ own.map (·.2)) (hi : EvI X Γ tg it (xs.map τ)) (hjs : ∀ j ∈ js, j ∈ own.map (·.2)) (hj1 : ∀ j ∈ js1, j ∈ vs1) (hlen : (xs.flatMap ys).length ≤ 100000)
    (hg : ∀ s H0 C cl fp x, x ∈ xs → Tgt (bX X scope s H0 C cl fp) tg (τ x) (u x) js)
    (hi1 : ∀ s H0 C cl fp x, x ∈ xs → EvI (bX X scope s H0 C cl fp) (u x (wipeC Γ (own.map (·.2)))) tg1 it1 ((ys x).map (τ1 x)))
    (hg1 : ∀ s H0 C cl fp x y, x ∈ xs → y ∈ ys x → Tgt (bX X scope s H0 C cl fp) tg1 (τ1 x y) (u1 x y) js1)
    (he : ∀ s H0 C cl fp x y, x ∈ xs → y ∈ ys x → EvE (bX X scope s H0 C cl fp) (u1 x y (wipeC (u x (wipeC Γ (own.map (·.2)))) vs1)) elt (g x y)) (hs : ∀ x, foldedSetIterable it X.env x = pure x := by intro _; rfl) (hs1 : ∀ env x, foldedSetIterable it1 env x = pure x := by intro _ _; rfl) :
    EvE X Γ (.ListComp elt [⟨tg, it, [], 0⟩, ⟨tg1, it1, [], 0⟩] scope pos) (tL (xs.flatMap fun x => (ys x).map (g x))) := fun σ B H so bh Q q =>
  ⟨_, pe_lc2 (vs1 := vs1) hc hN pi_c ok hv pg_b pt_b pi_b pg_b pt_b pe_b hs hs1, hi σ B H so bh _ fun J B1 H1 n1 src D hD => by
    have sw : SOk (wipeC Γ (own.map (·.2))) B1 (L2.wipe σ (own.map (·.2))) := (so.mono n1.bb).wipe _
    have hl : (xs.map τ).length = xs.length := List.length_map ..
    have nD := n1.bh.nf hD
    let Pv : Nat → Hp → Prop := fun i H => ∃ (B : Hp) (acc : List V), Nw nF B1 H1 B H ∧ B D = none ∧ ¬ Iv.F H D ∧ H D = some (.lst acc) ∧ Tys B ((xs.take i).flatMap fun x => (ys x).map (g x)) acc
    refine ⟨fun i m H => m = xs.length - i ∧ i ≤ xs.length ∧ Pv i H, ⟨xs.length, rfl, Nat.zero_le _, B1, [], .new n1.bh hD, n1.bh.free hD, nfu n1.bh nD nD, upd_same, .nil⟩, ?_⟩
    rintro i m H2 ⟨rfl, hi2, B2, acc, n2, bD, fD, hD2, ta⟩
    by_cases hlt : i < xs.length
    · refine .inr ⟨src.goes i B2 H2 n2.bb n2.bh (by rw [hl]; exact hlt), Pv (i + 1), fun H' p' => ⟨xs.length - (i + 1), by omega, rfl, hlt, p'⟩, fun v H3 y => ?_⟩
      have hx : xs[i]? = some xs[i] := by simp [hlt]
      have hm : xs[i] ∈ xs := List.getElem_mem hlt
      obtain ⟨B3, n3, tv⟩ := src.yld i (τ xs[i]) B2 H2 v H3 n2.bb n2.bh (by rw [List.getElem?_map, hx]; rfl) y
      have n23 := n2.trans n3
      intro s H0 C cl fp
      refine hg s H0 C cl fp xs[i] hm v _ B3 H3 _ _ (sw.mono n23.bb) n3.bh tv fun σ' s' l' k' => ⟨?_, ?_⟩
      · rw [wipe_congr (vs := own.map (·.2)) l' fun j hj => k' j fun z => hj (hjs j z), wipe_wipe]
      · intro s2 H02 C2 cl2 fp2
        refine ⟨_, pts_nil, ?_⟩
        unfold tYes
        dsimp only
        rw [if_pos rfl]
        intro s3 H03 C3 cl3 fp3
        refine hi1 s3 H03 C3 cl3 fp3 xs[i] hm σ' B3 H3 s' n3.bh _ fun J1 B4 H4 n4 src1 => ?_
        have n24 := n23.trans n4
        have n34 := n3.trans n4
        have hD4 : H4 D = some (.lst acc) := n34.keep _ _ fD hD2
        have bD4 : B4 D = none := n34.fr D _ bD hD2
        have fD4 : ¬ Iv.F H4 D := n34.nf _ _ fD hD2
        have hl1 : ((ys xs[i]).map (τ1 xs[i])).length = (ys xs[i]).length := List.length_map ..
        have sw1 : SOk (wipeC (u xs[i] (wipeC Γ (own.map (·.2)))) vs1) B4 (L2.wipe σ' vs1) := (s'.mono n4.bb).wipe _
        let P1 : Nat → Hp → Prop := fun j H => ∃ (B : Hp) (acc : List V), Nw nF B1 H1 B H ∧ Same B4 B ∧ B D = none ∧ ¬ Iv.F H D ∧ H D = some (.lst acc) ∧ Tys B (((xs.take i).flatMap fun x => (ys x).map (g x)) ++ ((ys xs[i]).take j).map (g xs[i])) acc
        refine ⟨fun j m H => m = (ys xs[i]).length - j ∧ j ≤ (ys xs[i]).length ∧ P1 j H, ⟨_, rfl, Nat.zero_le _, B4, acc, n24, Same.refl B4, bD4, fD4, hD4, by rw [List.take_zero, List.map_nil, List.append_nil]; exact ta.mono (n3.trans n4).bb⟩, ?_⟩
        rintro j m H5 ⟨rfl, hj5, B5, acc5, n5, g5, bD5, fD5, hD5, ta5⟩
        by_cases hlt1 : j < (ys xs[i]).length
        · refine .inr ⟨src1.goes j B5 H5 g5 n5.bh (by rw [hl1]; exact hlt1), P1 (j + 1), fun H' p' => ⟨_, by omega, rfl, hlt1, p'⟩, fun w H6 y1 => ?_⟩
          have hy : (ys xs[i])[j]? = some (ys xs[i])[j] := by simp [hlt1]
          have hmy : (ys xs[i])[j] ∈ ys xs[i] := List.getElem_mem hlt1
          obtain ⟨B6, n6, tw⟩ := src1.yld j (τ1 xs[i] (ys xs[i])[j]) B5 H5 w H6 g5 n5.bh (by rw [List.getElem?_map, hy]; rfl) y1
          intro s4 H04 C4 cl4 fp4
          refine hg1 s4 H04 C4 cl4 fp4 xs[i] (ys xs[i])[j] hm hmy w _ B6 H6 _ _ (sw1.mono (g5.trans n6.bb)) n6.bh tw fun σ2 s2' l2 k2 => ⟨?_, ?_⟩
          · rw [wipe_congr (vs := vs1) l2 fun j hj => k2 j fun z => hj (hj1 j z), wipe_wipe]
          · intro s5 H05 C5 cl5 fp5
            refine ⟨_, pts_nil, ?_⟩
            unfold tYes
            dsimp only
            rw [if_pos rfl]
            intro s6 H06 C6 cl6 fp6
            refine he s6 H06 C6 cl6 fp6 xs[i] (ys xs[i])[j] hm hmy σ2 B6 H6 s2' n6.bh _ fun z B7 H7 n7 tz => ?_
            have n67 := n6.trans n7
            have hD7 : H7 D = some (.lst acc5) := n67.keep _ _ fD5 hD5
            have bD7 : B7 D = none := n67.fr D _ bD5 hD5
            have fD7 : ¬ Iv.F H7 D := n67.nf _ _ fD5 hD5
            have la : acc5.length < 100000 := by
              rw [ta5.length]
              have e1 : xs.flatMap ys = (xs.take i).flatMap ys ++ (ys xs[i] ++ (xs.drop (i + 1)).flatMap ys) := by
                rw [← List.flatMap_cons, ← List.flatMap_append, List.getElem_cons_drop, List.take_append_drop]
              have e2 : ((xs.take i).flatMap fun x => (ys x).map (g x)).length = ((xs.take i).flatMap ys).length := by
                rw [List.length_flatMap, List.length_flatMap]
                congr 1
                exact List.map_congr_left fun x _ => by rw [List.length_map]
              rw [e1] at hlen
              rw [List.length_append, e2, List.length_map, List.length_take]
              rw [List.length_append, List.length_append] at hlen
              omega
            refine ⟨acc5, hD7, lt5 la, B7, acc5 ++ [z], ((n5.trans n6).trans n7).write bD7 (.inr hD) fD7, (g5.trans n6.bb).trans n7.bb, bD7, nfu n7.bh fD7 fD7, upd_same, ?_⟩
            rw [take_succ' hy, List.map_append, ← List.append_assoc]
            exact tys_snoc (ta5.mono (n6.trans n7).bb) tz
        · have ej : j = (ys xs[i]).length := by omega
          subst ej
          refine .inl ⟨by rw [← hl1]; exact src1.stop B5 H5 g5 n5.bh, B5, acc5, n5, bD5, fD5, hD5, ?_⟩
          rw [take_succ' hx, List.flatMap_append, List.flatMap_cons, List.flatMap_nil, List.append_nil]
          rw [List.take_length] at ta5
          exact ta5
    · have ei : i = xs.length := by omega
      subst ei
      refine .inl ⟨by rw [← hl]; exact src.stop B2 H2 n2.bb n2.bh, ?_⟩
      have f := n2.freeze bD hD2 hD fD
      refine q (.ref D) _ H2 (n1.trans f) ⟨D, acc, rfl, upd_same, ?_⟩
      rw [List.take_length] at ta
      exact ta.mono (same_upd bD)⟩
end
end Ls
set_option maxHeartbeats 4000000 -- Se
/-! Sets of ints: set(list), {a, b}, sorted of them. -/
namespace Ls
open PySem Spec PyProof.Rows L2
abbrev rawSet (led : Bool) : Obj := { cls := .type "set", dict := none, data := .set #[] 0 (.fresh 0 0 led) }
abbrev hotSet (w : World) : Obj := rawSet (!w.params.followText "set-order")
section
variable {P : Program} {w : World} {A : Around} {E : Value → Shared → Prop} {s : Shared}
set_option maxHeartbeats 8000000 in
theorem set_of_list {l : Addr} {its : Array Value} (ns : List Int) {Q : Value → Shared → Prop} (hh : A.handled = none) (hl : s.heap.IsList l its) (hit : IntsAre its.toList ns) (hb : ns.length + 1 < scanBound)
    (h : ∀ (g : Heap) (tk c : Nat), SetR w g s.heap.objs.size (fun j => decide (j ∈ ns)) c → c ≤ ns.length → (∀ b o, s.heap.get? b = some o → g.get? b = some o) → Q (.ref s.heap.objs.size) { s with heap := g, toks := tk }) :
    wpAny (model P w) A (call (.type "set") [.ref l]) Q E s := by
  have isz : its.size = ns.length := by
    have q := IntsAre.length hit
    rw [Array.length_toList] at q
    exact q
  obtain ⟨cc, tl, hmro⟩ := F.called_set.mro
  have hm1 := F.called_set.made
  have hm2 := F.called_set.sub
  refine wpAny_call (codeAny_of_tree ?_)
  show wpAny _ _ (callAny (.type "set") _) _ _ _
  refine wpAny_pure ⟨Code.quiet_builtin _ (by decide +kernel), codeAny_builtin F.entry_type_call ?_⟩
  rw [Around.under_plain (weight_type_call_type "set" [.ref l] []) rfl]
  have hm3 := F.called_set.notType
  have hm4 := F.called_set.canCreate
  have hm5 := F.typeCall_set_1 (.ref l)
  repeat (any_goals (first | assumption | wp_step))
  refine codeAny_mono (code_set_led1 (.ref l) (E := E) (Q₁ := fun ob s₁ => ob = .ref s.heap.objs.size ∧ s₁ = { s with heap := s.heap.push (hotSet w) }) ⟨rfl, rfl⟩) fun r s₁ hr => ?_
  cases r with
  | error e => exact hr
  | ok fl =>
    cases fl with
    | ret ob =>
      obtain ⟨rfl, rfl⟩ := hr
      have hS : (s.heap.push (hotSet w)).get? s.heap.objs.size = some (hotSet w) := Heap.get?_push_size _ rfl
      have hT : Shared.TypeIs { s with heap := s.heap.push (hotSet w) } (.ref s.heap.objs.size) "set" := ⟨_, hS, rfl⟩
      have hm6 := F.called_set.init.lookup
      have hm7 := F.called_set.init.bind (.ref s.heap.objs.size)
      repeat (any_goals (first | assumption | wp_step))
      refine codeAny_mono (codeAny_call_builtin (R := wants (fun r s₂ => r = .none ∧ ∃ g tk c, s₂ = { s with heap := g, toks := tk } ∧ SetR w g s.heap.objs.size (fun j => decide (j ∈ ns)) c ∧ c ≤ ns.length ∧
          (∀ b o, s.heap.get? b = some o → g.get? b = some o)) E) F.called_set.init.plain F.entry_set_init (check_set_init_1 hT ?_)) fun r₂ s₂ hr₂ => ?_
      · obtain ⟨ol, hol, hcl, nl, hdl⟩ := hl
        obtain ⟨ocls, odict, odata, oslots⟩ := ol
        simp only at hcl hdl
        subst hcl
        subst hdl
        have hol2 : (s.heap.push (hotSet w)).get? l = some { cls := .type "list", dict := odict, data := .seq its nl, slots := oslots } := Heap.get?_push_of_some _ hol
        have hm8 := F.sub_list_set
        have hm9 := F.sub_list_frozenset
        have hm0 : (Value.type "list" == Value.type "dict") = false := by decide
        have hl1 : (s.heap.push (hotSet w)).IsList l its := ⟨_, hol2, rfl, nl, rfl⟩
        unfold Builtin.«set.__init__» noKeywords Builtin.Frozenset.updateFrom
        generalize hPI : pyIter = PI
        wp_walk
        subst hPI
        refine wpAny_pyIter_list hl1 ?_
        refine wpAny_bind (wpAny_runValue ?_)
        have hlS : l < s.heap.objs.size := Heap.lt_size hol
        have hh3 : A.in1.in1.in1.handled = none := by simp [hh]
        have hneI : l ≠ (s.heap.push (hotSet w)).objs.size := by
          rw [Heap.size_push]
          exact Nat.ne_of_lt (Nat.lt_succ_of_lt hlS)
        have hSf : s.heap.objs.size ∉ [(s.heap.push (hotSet w)).objs.size, l] := by
          rw [Heap.size_push]
          simp only [List.mem_cons, List.mem_singleton, List.not_mem_nil, or_false, not_or]
          exact ⟨Nat.ne_of_lt (Nat.lt_succ_self _), Nat.ne_of_gt hlS⟩
        have hval : ∀ (i : Nat) (v : Value), its[i]? = some v → ∃ k t, ns[i]? = some k ∧ v = .int k t := fun i v hv => by
          have hi : i < ns.length := by
            rw [← isz]
            exact (Array.getElem?_eq_some_iff.mp hv).1
          obtain ⟨t, e⟩ := PyProof.Rows.IntsAre.int_at hit i v (by rw [Array.getElem?_toList]; exact hv)
          refine ⟨ns[i], t, List.getElem?_eq_getElem hi, ?_⟩
          rw [e, List.getD_eq_getElem?_getD, List.getElem?_eq_getElem hi] <;> rfl
        refine set_update_ints ((Walks.list hh3 _ l hneI its).toS) s.heap.objs.size hSf ns isz hb hval (its.size - 0) 0 _ (by omega) (Nat.zero_le _)
          ⟨⟨_, Heap.get?_push_size _ rfl, rfl, rfl⟩, (hl1.push _)⟩ ?_ ?_
        · have hget : ((s.heap.push (hotSet w)).push { cls := .type "list_iterator", data := .fields #[.ref l, .int 0 0] }).get? s.heap.objs.size = some (hotSet w) := Heap.get?_push_of_some _ hS
          exact ⟨0, Nat.le_refl 0, setR_new_at hget⟩
        · intro z c1 hm hc1 hS1
          obtain ⟨g, g2, d2, tk, os2⟩ := z
          have eg : g2 = s.gens := hm.gens
          have ed : d2 = s.drawn := hm.drawn
          have eo : os2 = s.os := hm.os
          subst eg
          subst ed
          subst eo
          show wpAny _ _ _ _ _ _
          refine wpAny_pure ?_
          show wpAny _ _ (ret Value.none) _ _ _
          rw [isz] at hc1
          refine wpAny_pure ⟨rfl, g, tk, c1, rfl, hS1, hc1, fun b o e => ?_⟩
          have hb0 : b < s.heap.objs.size := Heap.lt_size e
          have hb2 : b ≠ (s.heap.push (hotSet w)).objs.size := by
            rw [Heap.size_push]
            exact Nat.ne_of_lt (Nat.lt_succ_of_lt hb0)
          refine hm.heap b o ?_ (Heap.get?_push_of_some _ (Heap.get?_push_of_some _ e))
          simp only [List.mem_cons, List.mem_singleton, List.not_mem_nil, or_false, not_or]
          exact ⟨Nat.ne_of_lt hb0, hb2⟩
      · cases r₂ with
        | error e => exact hr₂
        | ok fl₂ =>
          cases fl₂ with
          | ret r =>
            obtain ⟨rfl, g, tk, c1, rfl, hS1, hc1, hk1⟩ := hr₂
            repeat (any_goals (first | assumption | wp_step))
            exact h _ _ _ hS1 hc1 hk1
          | _ => exact hr₂.elim
    | _ => exact hr.elim
end
end Ls
set_option maxHeartbeats 4000000 -- Se2
/-! Sets of ints: the rules. -/
namespace Ls
open PySem Spec PyProof.Rows L2
section
variable {X : Cx}
/-- set(list of ints) -/
def rSetI (w : World) : List V → Hp → VK → Prop := fun xs H Q => ∃ (a : Addr) (ns : List Int), xs = [.ref a] ∧ H a = some (.lst (ns.map V.int)) ∧ ns.length ≤ 1000 ∧ ∀ (p : Addr) (n : Nat), H p = none → n ≤ ns.length → Q (.ref p) (upd H p (SetO w p (fun j => decide (j ∈ ns)) n))
theorem ints_of_vals : ∀ {ns : List Int} {us : List Value}, Vals (ns.map V.int) us → IntsAre us ns
  | [], _, .nil => .nil
  | n :: ns, _, .cons r t => by
    obtain ⟨k, rfl⟩ := r
    exact .cons n k (ints_of_vals t)
theorem cr_setI (hc : X.calm = true) : CallR X (.type "set") (rSetI X.w) := by
  intro pins s σ H xs us Q I r h
  obtain ⟨a, ns, rfl, ha, hl, q⟩ := h
  rw [Vals.ref1 r]
  obtain ⟨its, r1, pl, hz⟩ := I.list (.of ha)
  refine set_of_list ns (I.ok.hd hc) pl.isList (by simpa using ints_of_vals r1) (by unfold scanBound; omega) fun g tk c R hn k => ?_
  exact ⟨.ref _, upd H s.heap.objs.size (SetO X.w s.heap.objs.size (fun j => decide (j ∈ ns)) c), I.laid (t' := tk) k (Nat.le_refl _) (setO_new R), rfl, q _ _ (I.hok.fresh (Nat.le_refl _)) hn⟩
/-- {a, b} -/
def tSet2 (w : World) (ta tb : TE) : TE := fun σ H Q => ∀ D, H D = none → ta σ (upd H D (SetO w D (fun _ => false) 0)) fun x H1 => tb σ H1 fun y H2 => ∃ i j, x = .int i ∧ y = .int j ∧ H2 D = some (SetO w D (fun _ => false) 0) ∧
  ∀ n, n ≤ 2 → Q (.ref D) (upd H2 D (SetO w D (fun k => decide (k ∈ [i, j])) n))
variable {a b : Expr} {ta tb : TE} {pos : Pos}
theorem sadd_run {A : Around} {E : Value → Shared → Prop} {pins : List (Addr × Obj)} {σ : L2.St} {H : Hp} {s : Shared} {D : Addr} {S : Int → Bool} {n : Nat} {i : Int} {tk : Tok} {Q : Bool → Shared → Prop} (I : Inv X pins σ H s) (hD : H D = some (SetO X.w D S n)) (room : n + 1 < scanBound)
    (q : ∀ s' m, m ≤ n + 1 → Inv X pins σ (upd H D (SetO X.w D (fun j => S j || decide (j = i)) m)) s' → Q (!S i) s') : wpAny (model X.prog X.w) A (setAdd D (.int i tk)) Q E s := by
  have R := setO_get I hD
  unfold setAdd
  refine wpAny_holding (wpAny_bind ((intKind X.prog X.w).pyHash (k := i) (intKind_is _ _ _ _) ?_))
  refine setR_add_hashed (s := { s with toks := s.toks + 1 }) R room fun h' sb new => ?_
  have he : ∃ u, h'.get? D = some u := by
    have ⟨o, _, _, _, ho, _⟩ := new
    exact ⟨o, ho⟩
  exact q _ _ (by split <;> omega) (I.write (e := D) (t' := s.toks + 1) (by rw [hD]; trivial) (.inl rfl) (fun b u hb hu => (sb.2 b hb).trans hu) he (setO_new new))
theorem newSet_hot {P : Program} {w : World} {A : Around} {E : Value → Shared → Prop} {s : Shared} {Q : Value → Shared → Prop} (h : Q (.ref s.heap.objs.size) { s with heap := s.heap.push (hotSet w) }) : wpAny (model P w) A (newSet (.type "set")) Q E s := by
  unfold newSet setsByText
  refine wpAny_bind (wpAny_bind (wpAny_askSetting (wpAny_pure ?_)))
  dsimp only
  simp only [newObj]
  exact wpAny_bind (wpAny_alloc (wpAny_pure h))
/-- the display of two elements, run -/
theorem disp2 {P : Program} {w : World} {A : Around} {E : Value → Shared → Prop} {s : Shared} {Q : Value → Shared → Prop} {bb : Bool} {t1 t2 : Sem Value}
    (h : wpAny (model P w) A t1 (fun v s1 => wpAny (model P w) A t2 (fun u s2 => wpAny (model P w) A (setAdd s.heap.objs.size v) (fun _ s3 => wpAny (model P w) A (setAdd s.heap.objs.size u) (fun _ s4 => Q (.ref s.heap.objs.size) s4) E s3) E s2) E s1) E { s with heap := s.heap.push (hotSet w) }) :
    wpAny (model P w) A (setDisplay .oneByOne bb [(false, t1), (false, t2)]) Q E s := by
  unfold setDisplay
  try dsimp only
  rw [if_neg (by decide)]
  refine wpAny_bind (newSet_hot ?_)
  dsimp only
  refine wpAny_bind (wpAny_holding ?_)
  show wpAny _ _ (evalAll [t1, t2] >>= _) _ _ _
  refine wpAny_bind ?_
  show wpAny _ _ (t1 >>= fun v => holding [v] (evalAll [t2]) >>= fun r => pure (v :: r)) _ _ _
  refine wpAny_bind (wpAny_mono h (fun v s1 h1 => ?_) fun _ _ x => x)
  refine wpAny_bind (wpAny_holding ?_)
  show wpAny _ _ (t2 >>= fun v => holding [v] (evalAll []) >>= fun r => pure (v :: r)) _ _ _
  refine wpAny_bind (wpAny_mono h1 (fun u s2 h2 => ?_) fun _ _ x => x)
  refine wpAny_bind (wpAny_holding ?_)
  show wpAny _ _ (pure []) _ _ _
  refine wpAny_pure (wpAny_pure (wpAny_pure ?_))
  refine wpAny_bind (wpAny_holding ?_)
  refine wpAny_bind ?_
  rw [List.forIn_cons]
  refine wpAny_bind (wpAny_bind (wpAny_mono h2 (fun _ s3 h3 => ?_) fun _ _ x => x))
  refine wpAny_pure ?_
  dsimp only
  rw [List.forIn_cons]
  refine wpAny_bind (wpAny_bind (wpAny_mono h3 (fun _ s4 h4 => ?_) fun _ _ x => x))
  refine wpAny_pure ?_
  dsimp only
  rw [List.forIn_nil]
  refine wpAny_pure ?_
  rw [if_neg (by decide)]
  refine wpAny_pure ?_
  show wpAny _ _ (forIn [] PUnit.unit _ >>= _) _ _ _
  rw [List.forIn_nil]
  exact wpAny_pure (wpAny_pure h4)
theorem pe_set2 (ha : PE X a ta) (hb : PE X b tb) (hpl : [a, b].all PySem.W.kdsPlain = true) (hcd : PySem.W.kdsCode X.K X.env.code = true) : PE X (.Set [a, b] 0 pos) (tSet2 X.w ta tb) := by
  refine ⟨fun pins s σ H Q I h => ?_⟩
  rw [arm_eval_Set]
  refine wpAny_bind (wpAny_standAt ?_)
  refine wpAny_bind (PySem.W.kds_main I.kIn hcd fun bb => ?_)
  rw [PySem.W.kds_star [a, b] hpl, List.map_map, arm_evalEach_cons, arm_evalEach_cons, arm_evalEach_nil]
  show wpAny _ _ (setDisplay .oneByOne bb [(false, do let v ← eval a X.env; standAt pos; pure v), (false, do let v ← eval b X.env; standAt pos; pure v)]) _ _ _
  have fr : H s.heap.objs.size = none := I.hok.fresh (Nat.le_refl _)
  have I0 : Inv X pins σ (upd H s.heap.objs.size (SetO X.w s.heap.objs.size (fun _ => false) 0)) { s with heap := s.heap.push (hotSet X.w) } :=
    I.laid (t' := s.toks) (fun b u e => Heap.get?_push_of_some _ e) (Nat.le_refl _) (setO_new (setR_fresh X.w))
  have h := h _ fr
  refine disp2 (wpAny_bind (thn (ha.run pins _ σ _ _ I0 h) fun v s1 ⟨x, H1, I1, r1, h1⟩ => wpAny_bind (wpAny_standAt (wpAny_pure ?_))))
  refine wpAny_bind (thn (hb.run pins _ σ _ _ I1 h1) fun u s2 ⟨y, H2, I2, r2, i, j, ex, ey, hD, q⟩ => wpAny_bind (wpAny_standAt (wpAny_pure ?_)))
  subst ex ey
  obtain ⟨k1, rfl⟩ := r1
  obtain ⟨k2, rfl⟩ := r2
  refine sadd_run I2 hD (by decide) fun s3 m hm I3 => ?_
  refine sadd_run I3 upd_same (by unfold scanBound; omega) fun s4 m4 hm4 I4 => ?_
  have e : upd (upd H2 s.heap.objs.size (SetO X.w s.heap.objs.size (fun k => false || decide (k = i)) m)) s.heap.objs.size (SetO X.w s.heap.objs.size (fun k => (false || decide (k = i)) || decide (k = j)) m4) = upd H2 s.heap.objs.size (SetO X.w s.heap.objs.size (fun k => decide (k ∈ [i, j])) m4) := by
    rw [upd_upd]
    congr 1
    congr 1
    funext k
    simp
  rw [e] at I4
  exact ⟨.ref _, _, I4, rfl, q m4 (by omega)⟩
end
variable [J : Iv]
/-- a set of ints: its members are those of ns, at most m -/
def tSI (w : World) (ns : List Int) (m : Nat) : Ty := ⟨fun B v => ∃ a n, v = .ref a ∧ B a = some (SetO w a (fun k => decide (k ∈ ns)) n) ∧ n ≤ m, fun h ⟨a, n, e, i, j⟩ => ⟨a, n, e, h _ _ i, j⟩⟩
theorem cb_setI {w : World} {ns : List Int} (hl : ns.length ≤ 1000) : Cb (rSetI w) [tL (ns.map tI)] (tSI w ns ns.length) := fun vs B H Q bh r q => by
  cases r with
  | cons r1 r0 =>
    cases r0
    obtain ⟨a, xs, e, h, r⟩ := r1
    subst e
    rw [tys_ints r] at h
    exact ⟨a, ns, rfl, bh _ _ h, hl, fun p n hp hn => q _ _ _ (.lay bh hp) ⟨p, n, rfl, upd_same, hn⟩⟩
/-- two ascending lists of the same members -/
theorem asc_uniq : ∀ {xs ys : List Int}, xs.Pairwise (· < ·) → ys.Pairwise (· < ·) → (∀ k, k ∈ xs ↔ k ∈ ys) → xs = ys
  | [], [], _, _, _ => rfl
  | [], y :: ys, _, _, h => absurd ((h y).mpr List.mem_cons_self) (List.not_mem_nil)
  | x :: xs, [], _, _, h => absurd ((h x).mp List.mem_cons_self) (List.not_mem_nil)
  | x :: xs, y :: ys, p, q, h => by
    obtain ⟨p1, p2⟩ := List.pairwise_cons.mp p
    obtain ⟨q1, q2⟩ := List.pairwise_cons.mp q
    have e : x = y := by
      rcases List.mem_cons.mp ((h x).mp List.mem_cons_self) with a | a
      · exact a
      · rcases List.mem_cons.mp ((h y).mpr List.mem_cons_self) with b | b
        · exact b.symm
        · have c := q1 x a
          have d := p1 y b
          omega
    subst e
    rw [asc_uniq p2 q2 fun k => ?_]
    constructor
    · intro hk
      rcases List.mem_cons.mp ((h k).mp (List.mem_cons_of_mem _ hk)) with a | a
      · have c := p1 k hk
        omega
      · exact a
    · intro hk
      rcases List.mem_cons.mp ((h k).mpr (List.mem_cons_of_mem _ hk)) with a | a
      · have c := q1 k hk
        omega
      · exact a
theorem cb_sortedSet {w : World} {ns ms : List Int} {m : Nat} (hm : m < 64) (ha : ms.Pairwise (· < ·)) (hk : ∀ k, k ∈ ms ↔ k ∈ ns) : Cb (rSortedSet w) [tSI w ns m] (tL (ms.map tI)) := fun vs B H Q bh r q => by
  cases r with
  | cons r1 r0 =>
    cases r0
    obtain ⟨a, n, e, h, hn⟩ := r1
    subst e
    refine ⟨a, _, n, rfl, bh _ _ h, by omega, fun zs p hz hz2 _ hp => ?_⟩
    have e : zs = ms := asc_uniq hz ha fun k => by rw [hz2 k, hk k, decide_eq_true_iff]
    subst e
    exact q _ _ _ (.lay bh hp) ⟨p, _, rfl, upd_same, ints_tys⟩
section
variable {X : Cx} {Γ : Ctx} {a b : Expr} {pos : Pos} {i j : Int}
theorem ev_set2 (ha : EvE X Γ a (tI i)) (hb : EvE X Γ b (tI j)) (hcd : PySem.W.kdsCode X.K X.env.code = true) (hpl : [a, b].all PySem.W.kdsPlain = true := by rfl) : EvE X Γ (.Set [a, b] 0 pos) (tSI X.w [i, j] 2) := fun σ B H s bh Q q =>
  ⟨_, pe_set2 pe_c pe_c hpl hcd, fun D hD => by
    have n0 : Nw nF B H B (upd H D (SetO X.w D (fun _ => false) 0)) := .new bh hD
    have nD := bh.nf hD
    refine ha σ B _ s n0.bh _ fun v B1 H1 n1 r1 => hb σ B1 H1 (s.mono n1.bb) n1.bh _ fun u B2 H2 n2 r2 => ?_
    have n12 := n1.trans n2
    have nD0 := nfu (o := SetO X.w D (fun _ => false) 0) bh nD nD
    have h2 := n12.keep D _ nD0 upd_same
    have b2 := n12.fr D _ (bh.free hD) upd_same
    have nD2 := n12.nf D _ nD0 upd_same
    refine ⟨i, j, r1, r2, h2, fun n hn => ?_⟩
    have n3 := (n0.trans n12).write (o := SetO X.w D (fun k => decide (k ∈ [i, j])) n) b2 (.inr hD) nD2
    exact q _ _ _ (n3.freeze b2 upd_same hD (nfu n12.bh nD2 nD2)) ⟨D, n, rfl, upd_same, hn⟩⟩
end
end Ls
set_option maxHeartbeats 4000000 -- Pp
/-! The classes' properties; unknown data. -/
namespace Ls
open PySem Spec PyProof.Rows L2
variable [J : Iv]
section
variable {P : Program} {w : World} {K : PySem.W.Frag} {mg : Str → Option Value} {base : Heap}
theorem p1_sizes (T : Top K mg) : Prop1 P w K mg base (He.ga K "Rule") "sizes" "its_sizes" := by
  obtain ⟨fd, a, b, c⟩ := pr_ok (P := P) (w := w) (mg := mg) (base := base) T.p_Rule_sizes (N := ["self"]) ⟨rfl, rfl, rfl, by decide +kernel, rfl, by decide +kernel, by decide +kernel⟩ rfl rfl (fun _ _ _ _ _ _ _ => rfl) T.c_Rule T.n_Rule_its_sizes
  exact ⟨_, _, fd, a, b, c⟩
theorem p1_soft (T : Top K mg) : Prop1 P w K mg base (He.ga K "Rule") "soft" "its_soft" := by
  obtain ⟨fd, a, b, c⟩ := pr_ok (P := P) (w := w) (mg := mg) (base := base) T.p_Rule_soft (N := ["self"]) ⟨rfl, rfl, rfl, by decide +kernel, rfl, by decide +kernel, by decide +kernel⟩ rfl rfl (fun _ _ _ _ _ _ _ => rfl) T.c_Rule T.n_Rule_its_soft
  exact ⟨_, _, fd, a, b, c⟩
theorem p1_where (T : Top K mg) : Prop1 P w K mg base (He.ga K "Rule") "where" "its_where" := by
  obtain ⟨fd, a, b, c⟩ := pr_ok (P := P) (w := w) (mg := mg) (base := base) T.p_Rule_where (N := ["self"]) ⟨rfl, rfl, rfl, by decide +kernel, rfl, by decide +kernel, by decide +kernel⟩ rfl rfl (fun _ _ _ _ _ _ _ => rfl) T.c_Rule T.n_Rule_its_where
  exact ⟨_, _, fd, a, b, c⟩
theorem p1_offer (T : Top K mg) : Prop1 P w K mg base (He.ga K "Rule") "offer" "its_offer" := by
  obtain ⟨fd, a, b, c⟩ := pr_ok (P := P) (w := w) (mg := mg) (base := base) T.p_Rule_offer (N := ["self"]) ⟨rfl, rfl, rfl, by decide +kernel, rfl, by decide +kernel, by decide +kernel⟩ rfl rfl (fun _ _ _ _ _ _ _ => rfl) T.c_Rule T.n_Rule_its_offer
  exact ⟨_, _, fd, a, b, c⟩
theorem p1_free (T : Top K mg) : Prop1 P w K mg base (He.ga K "Worth") "free" "its_free" := by
  obtain ⟨fd, a, b, c⟩ := pr_ok (P := P) (w := w) (mg := mg) (base := base) T.p_Worth_free (N := ["self"]) ⟨rfl, rfl, rfl, by decide +kernel, rfl, by decide +kernel, by decide +kernel⟩ rfl rfl (fun _ _ _ _ _ _ _ => rfl) T.c_Worth T.n_Worth_its_free
  exact ⟨_, _, fd, a, b, c⟩
theorem p1_until (T : Top K mg) : Prop1 P w K mg base (He.ga K "Worth") "until" "its_until" := by
  obtain ⟨fd, a, b, c⟩ := pr_ok (P := P) (w := w) (mg := mg) (base := base) T.p_Worth_until (N := ["self"]) ⟨rfl, rfl, rfl, by decide +kernel, rfl, by decide +kernel, by decide +kernel⟩ rfl rfl (fun _ _ _ _ _ _ _ => rfl) T.c_Worth T.n_Worth_its_until
  exact ⟨_, _, fd, a, b, c⟩
end
section
variable {X : Cx} {Γ : Ctx} {e : Expr} {pos : Pos} {R : Ru} {W : Wo}
theorem ev_sizes (T : Top X.K X.mg) (hr : Room 2 X.A) (he : EvE X Γ e (tRu X.K R)) (hab : attributeBase e "sizes" X.env (eval e X.env) = eval e X.env := by rfl) : EvE X Γ (.Attribute e "sizes" pos) (tNt R.sizes) :=
  ev_prop (p1_sizes T) T.c_Rule hr he (fun B v ⟨a, dx, t, d, ev, h1, h2, _⟩ => ⟨a, dx, _, _, ev, h1, ruFs_sizes, t, _, rfl, h2, nats_tys _⟩) hab
theorem ev_soft (T : Top X.K X.mg) (hr : Room 2 X.A) (he : EvE X Γ e (tRu X.K R)) (hab : attributeBase e "soft" X.env (eval e X.env) = eval e X.env := by rfl) : EvE X Γ (.Attribute e "soft" pos) (tB R.soft) :=
  ev_prop (p1_soft T) T.c_Rule hr he (fun B v ⟨a, dx, t, d, ev, h1, h2, _⟩ => ⟨a, dx, _, _, ev, h1, ruFs_soft, rfl⟩) hab
theorem ev_where (T : Top X.K X.mg) (hr : Room 2 X.A) (he : EvE X Γ e (tRu X.K R)) (hab : attributeBase e "where" X.env (eval e X.env) = eval e X.env := by rfl) : EvE X Γ (.Attribute e "where" pos) (tS R.wh) :=
  ev_prop (p1_where T) T.c_Rule hr he (fun B v ⟨a, dx, t, d, ev, h1, h2, _⟩ => ⟨a, dx, _, _, ev, h1, ruFs_where, rfl⟩) hab
theorem ev_offer (T : Top X.K X.mg) (hr : Room 2 X.A) (he : EvE X Γ e (tRu X.K R)) (hab : attributeBase e "offer" X.env (eval e X.env) = eval e X.env := by rfl) : EvE X Γ (.Attribute e "offer" pos) (nT R.offer) :=
  ev_prop (p1_offer T) T.c_Rule hr he (fun B v ⟨a, dx, t, d, ev, h1, h2, _⟩ => ⟨a, dx, _, _, ev, h1, ruFs_offer, rfl⟩) hab
theorem ev_free (T : Top X.K X.mg) (hr : Room 2 X.A) (he : EvE X Γ e (tWo X.K W)) (hab : attributeBase e "free" X.env (eval e X.env) = eval e X.env := by rfl) : EvE X Γ (.Attribute e "free" pos) (tI W.free) :=
  ev_prop (p1_free T) T.c_Worth hr he (fun B v ⟨a, dx, d, ev, h1, h2⟩ => ⟨a, dx, _, _, ev, h1, woFs_free, rfl⟩) hab
theorem ev_until (T : Top X.K X.mg) (hr : Room 2 X.A) (he : EvE X Γ e (tWo X.K W)) (hab : attributeBase e "until" X.env (eval e X.env) = eval e X.env := by rfl) : EvE X Γ (.Attribute e "until" pos) (nT W.til) :=
  ev_prop (p1_until T) T.c_Worth hr he (fun B v ⟨a, dx, d, ev, h1, h2⟩ => ⟨a, dx, _, _, ev, h1, woFs_until, rfl⟩) hab
theorem ev_fbad (T : Top X.K X.mg) (he : EvE X Γ e (tRu X.K R)) (hab : attributeBase e "its_bad" X.env (eval e X.env) = eval e X.env := by rfl) : EvE X Γ (.Attribute e "its_bad" pos) ⟨fun B v => ∃ d, v = .ref d ∧ BadAt B d R.bad, fun h ⟨d, e, r⟩ => ⟨d, e, r.mono h⟩⟩ :=
  ev_fld T.c_Rule T.n_Rule_its_bad he (fun B v ⟨a, dx, t, d, ev, h1, h2, h3⟩ => ⟨a, dx, _, _, ev, h1, ruFs_bad, d, rfl, h3⟩) hab
theorem ev_fprices (T : Top X.K X.mg) (he : EvE X Γ e (tWo X.K W)) (hab : attributeBase e "its_prices" X.env (eval e X.env) = eval e X.env := by rfl) : EvE X Γ (.Attribute e "its_prices" pos) ⟨fun B v => ∃ d, v = .ref d ∧ PriAt B d W.price, fun h ⟨d, e, r⟩ => ⟨d, e, r.mono h⟩⟩ :=
  ev_fld T.c_Worth T.n_Worth_its_prices he (fun B v ⟨a, dx, d, ev, h1, h2⟩ => ⟨a, dx, _, _, ev, h1, woFs_prices, d, rfl, h2⟩) hab
theorem ev_ffree (T : Top X.K X.mg) (he : EvE X Γ e (tWo X.K W)) (hab : attributeBase e "its_free" X.env (eval e X.env) = eval e X.env := by rfl) : EvE X Γ (.Attribute e "its_free" pos) (tI W.free) :=
  ev_fld T.c_Worth T.n_Worth_its_free he (fun B v ⟨a, dx, d, ev, h1, h2⟩ => ⟨a, dx, _, _, ev, h1, woFs_free, rfl⟩) hab
end
end Ls
set_option maxHeartbeats 4000000 -- Pe
/-! Values of which not all is known; dicts; calls as statements. -/
namespace Ls
open PySem Spec PyProof.Rows L2
variable [J : Iv]
/-! ### some x -/
def tE {α : Type} (p : α → Prop) (t : α → Ty) : Ty := ⟨fun B v => ∃ x, p x ∧ (t x).p B v, fun h ⟨x, a, b⟩ => ⟨x, a, (t x).mono h b⟩⟩
section
variable {X : Cx} {Γ : Ctx} {e a b c : Expr} {t t1 t2 t3 : Ty} {r : R2} {α : Type} {p q : α → Prop} {f : α → Ty}
theorem EvE.ex (h : EvE X Γ e t) (k : ∀ B v, t.p B v → ∃ x, p x ∧ (f x).p B v) : EvE X Γ e (tE p f) := h.to k
theorem EvE.exi (h : EvE X Γ e (f x)) (k : p x) : EvE X Γ e (tE p f) := h.to fun B v r => ⟨x, k, r⟩
theorem EvE.wid (h : EvE X Γ e (tE p f)) (k : ∀ x, p x → q x) : EvE X Γ e (tE q f) := h.to fun B v ⟨x, a, r⟩ => ⟨x, k x a, r⟩
theorem Bin.e1 (h : ∀ x, p x → Bin r (f x) t2 t3) : Bin r (tE p f) t2 t3 := fun u v B H Q bh ⟨x, a, hu⟩ hv k => h x a u v B H Q bh hu hv k
theorem Bin.e2 (h : ∀ x, p x → Bin r t1 (f x) t3) : Bin r t1 (tE p f) t3 := fun u v B H Q bh hu ⟨x, a, hv⟩ k => h x a u v B H Q bh hu hv k
theorem Bin.to {t4 : Ty} (h : Bin r t1 t2 t3) (k : ∀ B v, t3.p B v → t4.p B v) : Bin r t1 t2 t4 := fun u v B H Q bh hu hv q => h u v B H Q bh hu hv fun w B1 H1 n z => q w B1 H1 n (k B1 w z)
theorem Bin.exi (h : Bin r t1 t2 (f x)) (k : p x) : Bin r t1 t2 (tE p f) := h.to fun B v z => ⟨x, k, z⟩
theorem Bin.is {t4 : Ty} (h : Bin r t1 t2 t3) (e : t3 = t4) : Bin r t1 t2 t4 := e ▸ h
theorem Cb.e1 {rr : List V → Hp → VK → Prop} {ts : List Ty} (h : ∀ x, p x → Cb rr (f x :: ts) t3) : Cb rr (tE p f :: ts) t3 := fun vs B H Q bh r q => by
  cases r with
  | cons r1 r0 =>
    obtain ⟨x, a, r1⟩ := r1
    exact h x a _ B H Q bh (.cons r1 r0) q
theorem At.openE {F : Addr → Prop} {B0 H0 Bg : Hp} {W : Cells} {σ : L2.St} {B H : Hp} (i : Nat) (a : At F B0 H0 Bg Γ W σ B H) (h : Γ[i]? = some (some (tE p f))) : ∃ x, p x ∧ At F B0 H0 Bg (Γ.set i (some (f x))) W σ B H := by
  obtain ⟨v, h1, x, hx, hv⟩ := a.s.2 i _ h
  refine ⟨x, hx, a.ctx ?_⟩
  have e := a.s.set i hv
  have e2 : σ.set i (some v) = σ := by
    refine List.ext_getElem? fun j => ?_
    rw [List.getElem?_set]
    by_cases hj : i = j
    · subst hj
      obtain ⟨hl, _⟩ := List.getElem?_eq_some_iff.mp h1
      rw [if_pos rfl, if_pos hl, h1]
    · rw [if_neg hj]
  rw [e2] at e
  exact e
/-- a truth of which nothing is known -/
def EvTN (X : Cx) (Γ : Ctx) (e : Expr) : Prop := ∀ (σ : L2.St) (B H : Hp), SOk Γ B σ → Sm B H → ∀ Q : Bool → Hp → Prop, (∀ b B' H', Nw nF B H B' H' → Q b H') → RT X e σ H Q
theorem EvT.n {k : Bool} (h : EvT X Γ e k) : EvTN X Γ e := fun σ B H s bh Q q => h σ B H s bh Q (q k)
theorem et_cmpN {op : CmpOp} {pos : Pos} (ho : OpR X (compareOp op) r) (ha : EvE X Γ a t1) (hb : EvE X Γ b t2) (hr : Bin r t1 t2 (tE (fun _ => True) tB)) (hm : behindInMarks op b = false) : EvTN X Γ (.Compare a [op] [b] pos) :=
  fun σ B H s bh Q q => ⟨_, pt_cmpR ho pe_c pe_c hm, run2 ha hb hr s bh fun v B' H' n ⟨k, _, r⟩ => ⟨k, r, q k B' H' n⟩⟩
theorem et_valN {p : Bool → Prop} (h : EvE X Γ e (tE p tB)) (he : ∀ whole, isTrue e X.env whole = (do let v ← whole; standAt e.pos; holding [v] (truthy v)) := by intro _; rfl) : EvTN X Γ e := fun σ B H s bh Q q =>
  ⟨_, pt_val pe_c he, h σ B H s bh _ fun v B1 H1 n1 ⟨k, _, r1⟩ => ⟨k, r1, q k B1 H1 n1⟩⟩
theorem ev_ifxN {pos : Pos} (hc : EvTN X Γ c) (ha : EvE X Γ a t) (hb : EvE X Γ b t) : EvE X Γ (.IfExp c a b pos) t := fun σ B H s bh Q q =>
  ⟨_, pe_ifExp pt_c pe_c pe_c, hc σ B H s bh _ fun k B1 H1 n1 => by
    cases k with
    | true => exact ha σ B1 H1 (s.mono n1.bb) n1.bh Q fun w B2 H2 n2 r2 => q w B2 H2 (n1.trans n2) r2
    | false => exact hb σ B1 H1 (s.mono n1.bb) n1.bh Q fun w B2 H2 n2 r2 => q w B2 H2 (n1.trans n2) r2⟩
end
section
variable {X : Cx} {F : Addr → Prop} {B0 H0 Bg : Hp} {Γ : Ctx} {W : Cells} {σ : L2.St} {B H : Hp} {i : Nat} {t : Ty} {v : V} {l : Addr} {x : Str} {e c : Expr} {rest thn els body : List Stmt} {D : Ends} {pos p1 p2 p3 : Pos}
theorem rs_ifN (a : At F B0 H0 Bg Γ W σ B H) (h : EvTN X Γ c) (k1 : ∀ B' H', Same B B' → At F B0 H0 Bg Γ W σ B' H' → RS X thn { D with nx := fun σ' H' => RS X rest D σ' H' } σ H')
    (k2 : ∀ B' H', Same B B' → At F B0 H0 Bg Γ W σ B' H' → RS X els { D with nx := fun σ' H' => RS X rest D σ' H' } σ H') : RS X (.If c thn els pos :: rest) D σ H :=
  rs_ps (ps_if pt_c pss_c pss_c) (h σ B H a.s a.n.bh _ fun b B1 H1 n1 => by
    cases b with
    | true => exact k1 B1 H1 n1.bb (a.step n1)
    | false => exact k2 B1 H1 n1.bb (a.step n1))
theorem rs_whenN (a : At F B0 H0 Bg Γ W σ B H) (h : EvTN X Γ c) (k1 : ∀ B' H', Same B B' → At F B0 H0 Bg Γ W σ B' H' → RS X thn { D with nx := fun σ' H' => RS X rest D σ' H' } σ H')
    (k2 : ∀ B' H', Same B B' → At F B0 H0 Bg Γ W σ B' H' → RS X rest D σ H') : RS X (.If c thn [] pos :: rest) D σ H :=
  rs_ifN a h k1 fun B' H' s' a' => rs_nil (k2 B' H' s' a')
/-- an expression as a statement -/
theorem rs_expr (a : At F B0 H0 Bg Γ W σ B H) (h : EvE X Γ e t) (k : ∀ B' H', Same B B' → At F B0 H0 Bg Γ W σ B' H' → RS X rest D σ H') (hs : swapsWith e none pos.line X.env = pure false := by rfl) : RS X (.Expr e pos :: rest) D σ H :=
  rs_ps (ps_expr pe_c hs) (h σ B H a.s a.n.bh _ fun v B1 H1 n1 r1 => k B1 H1 n1.bb (a.step n1))
end
/-! ### a comprehension with a test of which nothing is known -/
section
variable {X : Cx} {Γ : Ctx} {elt it tg : Expr} {ifs : List Expr} {scope : Scope} {pos : Pos}
def EvTsN (X : Cx) (Γ : Ctx) (ifs : List Expr) : Prop := ∀ (σ : L2.St) (B H : Hp), SOk Γ B σ → Sm B H → ∀ Q : Bool → Hp → Prop, (∀ b B' H', Nw nF B H B' H' → Q b H') → RTs X ifs σ H Q
theorem ets_oneN {c : Expr} (h : EvTN X Γ c) : EvTsN X Γ [c] := fun σ B H s bh Q q => ⟨_, pts_one pt_c, h σ B H s bh Q q⟩
def LcN {α : Type} (xs : List α) (g : α → Ty) (B1 H1 : Hp) (D : Addr) (i : Nat) (H : Hp) : Prop :=
  ∃ (B : Hp) (acc : List V) (ys : List α), Nw nF B1 H1 B H ∧ B D = none ∧ ¬ Iv.F H D ∧ H D = some (.lst acc) ∧ ys.Sublist (xs.take i) ∧ Tys B (ys.map g) acc
theorem run_lcN {α : Type} {xs : List α} {τ : α → Ty} {g : α → Ty} {u : α → Ctx → Ctx} {js vs : List Nat} (hi : EvI X Γ tg it (xs.map τ)) (hjs : ∀ j ∈ js, j ∈ vs) (hlen : xs.length ≤ 100000)
    (hg : ∀ s H0 C cl fp x, x ∈ xs → Tgt (bX X scope s H0 C cl fp) tg (τ x) (u x) js) (ht : ∀ s H0 C cl fp x, x ∈ xs → EvTsN (bX X scope s H0 C cl fp) (u x (wipeC Γ vs)) ifs)
    (he : ∀ s H0 C cl fp x, x ∈ xs → EvE (bX X scope s H0 C cl fp) (u x (wipeC Γ vs)) elt (g x)) {σ : L2.St} {B H : Hp} (so : SOk Γ B σ) (bh : Sm B H) {Q : VK} (q : ∀ v B' H', Nw nF B H B' H' → (tE (fun ys : List α => ys.Sublist xs) fun ys => tL (ys.map g)).p B' v → Q v H') :
    tLc (RI X tg it) (bG X scope tg) (bT X scope ifs) (bE X scope elt) vs σ H Q := hi σ B H so bh _ fun J1 B1 H1 n1 src D hD => by
  have sw : SOk (wipeC Γ vs) B1 (L2.wipe σ vs) := (so.mono n1.bb).wipe vs
  have nD := n1.bh.nf hD
  have hl : (xs.map τ).length = xs.length := List.length_map ..
  have w : Walk J1 xs.length (fun H => ∃ B2, Same B1 B2 ∧ Sm B2 H) J1.yld := ⟨fun i H hi ⟨B2, b1, b2⟩ => src.goes i B2 H b1 b2 (by rw [hl]; exact hi), fun H ⟨B2, b1, b2⟩ => by rw [← hl]; exact src.stop B2 H b1 b2, fun i H x H' _ _ y => y⟩
  refine lc_it w (LcN xs g B1 H1 D) ⟨B1, [], [], .new n1.bh hD, n1.bh.free hD, nfu n1.bh nD nD, upd_same, List.nil_sublist _, .nil⟩ (fun i H2 _ ⟨B2, _, _, n2, _⟩ => ⟨B2, n2.bb, n2.bh⟩) (fun i v H2 H3 hi ⟨B2, acc, ys, n2, bD, fD, hD2, sub, ta⟩ y => ?_) (fun H2 ⟨B2, acc, ys, n2, bD, fD, hD2, sub, ta⟩ => ?_)
  · have hx : xs[i]? = some xs[i] := by simp [hi]
    have hm : xs[i] ∈ xs := List.getElem_mem hi
    obtain ⟨B3, n3, tv⟩ := src.yld i (τ xs[i]) B2 H2 v H3 n2.bb n2.bh (by rw [List.getElem?_map, hx]; rfl) y
    have n23 := n2.trans n3
    intro s H0 C cl fp
    refine hg s H0 C cl fp xs[i] hm v (L2.wipe σ vs) B3 H3 (wipeC Γ vs) _ (sw.mono n23.bb) n3.bh tv fun σ' s' l' k' => ⟨?_, ?_⟩
    · rw [wipe_congr (vs := vs) l' fun j hj => k' j fun z => hj (hjs j z), wipe_wipe]
    · intro s2 H02 C2 cl2 fp2
      refine ht s2 H02 C2 cl2 fp2 xs[i] hm σ' B3 H3 s' n3.bh _ fun kk B4 H4 n4 => ?_
      have n24 := n23.trans n4
      have n34 := n3.trans n4
      have hD4 : H4 D = some (.lst acc) := n34.keep _ _ fD hD2
      have bD4 : B4 D = none := n34.fr D _ bD hD2
      have fD4 : ¬ Iv.F H4 D := n34.nf _ _ fD hD2
      cases kk with
      | false =>
        rw [if_neg (by decide)]
        refine ⟨B4, acc, ys, n24, bD4, fD4, hD4, ?_, ta.mono (n3.trans n4).bb⟩
        rw [take_succ' hx]
        exact sub.trans (List.sublist_append_left _ _)
      | true =>
        rw [if_pos rfl]
        intro s3 H03 C3 cl3 fp3
        refine he s3 H03 C3 cl3 fp3 xs[i] hm σ' B4 H4 (s'.mono n4.bb) n4.bh _ fun y B5 H5 n5 ty => ?_
        have n25 := n24.trans n5
        have hD5 : H5 D = some (.lst acc) := n5.keep _ _ fD4 hD4
        have fD5 : ¬ Iv.F H5 D := n5.nf _ _ fD4 hD4
        have bD5 : B5 D = none := n5.fr D _ bD4 hD4
        have la : acc.length < 100000 := by
          rw [ta.length, List.length_map]
          have h1 := sub.length_le
          have h2 : (xs.take i).length ≤ i := List.length_take_le ..
          omega
        refine ⟨acc, hD5, lt5 la, B5, acc ++ [y], ys ++ [xs[i]], n25.write bD5 (.inr hD) fD5, bD5, nfu n5.bh fD5 fD5, upd_same, ?_, ?_⟩
        · rw [take_succ' hx]
          exact sub.append (List.Sublist.refl _)
        · rw [List.map_append]
          exact (ta.mono ((n3.trans n4).trans n5).bb).append (.one ty)
  · have f := n2.freeze bD hD2 hD fD
    rw [List.take_length] at sub
    exact q (.ref D) _ H2 (n1.trans f) ⟨ys, sub, D, acc, rfl, upd_same, ta.mono (same_upd bD)⟩
theorem ev_lcN {α : Type} {xs : List α} {τ : α → Ty} {g : α → Ty} {u : α → Ctx → Ctx} {js : List Nat} {own : List (Str × Nat)} (hc : X.calm = true) (hN : X.N.Nodup) (ok : BlkOk X.N X.env.scope scope own)
    (hi : EvI X Γ tg it (xs.map τ)) (hjs : ∀ j ∈ js, j ∈ own.map (·.2)) (hlen : xs.length ≤ 100000)
    (hg : ∀ s H0 C cl fp x, x ∈ xs → Tgt (bX X scope s H0 C cl fp) tg (τ x) (u x) js) (ht : ∀ s H0 C cl fp x, x ∈ xs → EvTsN (bX X scope s H0 C cl fp) (u x (wipeC Γ (own.map (·.2)))) ifs)
    (he : ∀ s H0 C cl fp x, x ∈ xs → EvE (bX X scope s H0 C cl fp) (u x (wipeC Γ (own.map (·.2)))) elt (g x)) (hs : ∀ x, foldedSetIterable it X.env x = pure x := by intro _; rfl) :
    EvE X Γ (.ListComp elt [⟨tg, it, ifs, 0⟩] scope pos) (tE (fun ys : List α => ys.Sublist xs) fun ys => tL (ys.map g)) := fun σ B H so bh Q q => ⟨_, pe_lc hc hN pi_c ok pg_b pt_b pe_b hs, run_lcN hi hjs hlen hg ht he so bh q⟩
end
/-! ### dicts that stand -/
inductive DRel {κ : Type} (B : Hp) : List (κ × Ty) → List (κ × V) → Prop
  | nil : DRel B [] []
  | cons {k : κ} {t : Ty} {v : V} {ps : List (κ × Ty)} {kvs : List (κ × V)} : t.p B v → DRel B ps kvs → DRel B ((k, t) :: ps) ((k, v) :: kvs)
omit [Iv] in
theorem DRel.mono {κ : Type} {B B' : Hp} (h : Same B B') : ∀ {ps : List (κ × Ty)} {kvs : List (κ × V)}, DRel B ps kvs → DRel B' ps kvs
  | _, _, .nil => .nil
  | _, _, .cons (t := t) a r => .cons (t.mono h a) (r.mono h)
def look {κ : Type} [DecidableEq κ] (ps : List (κ × Ty)) (k : κ) : Option Ty := (ps.find? fun q => decide (q.1 = k)).map (·.2)
theorem look_pos {κ : Type} [DecidableEq κ] {ps : List (κ × Ty)} {k j : κ} {t : Ty} (e : k = j) : look ((k, t) :: ps) j = some t := by simp [look, List.find?_cons, e]
theorem look_neg {κ : Type} [DecidableEq κ] {ps : List (κ × Ty)} {k j : κ} {t : Ty} (e : ¬ k = j) : look ((k, t) :: ps) j = look ps j := by simp [look, List.find?_cons, e]
theorem DRel.get {κ : Type} [DecidableEq κ] {B : Hp} {k : κ} {t : Ty} : ∀ {ps : List (κ × Ty)} {kvs : List (κ × V)}, DRel B ps kvs → look ps k = some t → ∃ v, valV kvs k = some v ∧ t.p B v
  | _, _, .nil, h => by cases h
  | _, _, .cons (k := j) (t := u) (v := v) a r, h => by
    by_cases e : j = k
    · rw [look_pos e] at h
      cases h
      exact ⟨v, valV_pos (p := (j, v)) e, a⟩
    · rw [look_neg e] at h
      obtain ⟨w, h1, h2⟩ := r.get h
      exact ⟨w, (valV_neg (p := (j, v)) e).trans h1, h2⟩
theorem DRel.length {κ : Type} {B : Hp} : ∀ {ps : List (κ × Ty)} {kvs : List (κ × V)}, DRel B ps kvs → kvs.length = ps.length
  | _, _, .nil => rfl
  | _, _, .cons _ r => congrArg Nat.succ r.length
def putT {κ : Type} [DecidableEq κ] (ps : List (κ × Ty)) (k : κ) (t : Ty) : List (κ × Ty) := if (ps.any fun q => decide (q.1 = k)) = true then ps.map (fun q => if q.1 = k then (q.1, t) else q) else ps ++ [(k, t)]
theorem DRel.any {κ : Type} [DecidableEq κ] {B : Hp} (k : κ) : ∀ {ps : List (κ × Ty)} {kvs : List (κ × V)}, DRel B ps kvs → (kvs.any fun q => decide (q.1 = k)) = (ps.any fun q => decide (q.1 = k))
  | _, _, .nil => rfl
  | _, _, .cons _ r => by rw [List.any_cons, List.any_cons, r.any k]
theorem DRel.map {κ : Type} [DecidableEq κ] {B : Hp} {k : κ} {t : Ty} {v : V} (h : t.p B v) : ∀ {ps : List (κ × Ty)} {kvs : List (κ × V)}, DRel B ps kvs → DRel B (ps.map fun q => if q.1 = k then (q.1, t) else q) (kvs.map fun q => if q.1 = k then (q.1, v) else q)
  | _, _, .nil => .nil
  | _, _, .cons (k := j) a r => by
    rw [List.map_cons, List.map_cons]
    by_cases e : j = k
    · rw [if_pos e, if_pos e]
      exact .cons h (r.map h)
    · rw [if_neg e, if_neg e]
      exact .cons a (r.map h)
theorem DRel.snoc {κ : Type} {B : Hp} {k : κ} {t : Ty} {v : V} (h : t.p B v) : ∀ {ps : List (κ × Ty)} {kvs : List (κ × V)}, DRel B ps kvs → DRel B (ps ++ [(k, t)]) (kvs ++ [(k, v)])
  | _, _, .nil => .cons h .nil
  | _, _, .cons a r => .cons a (r.snoc h)
theorem DRel.put {κ : Type} [DecidableEq κ] {B : Hp} {k : κ} {t : Ty} {v : V} {ps : List (κ × Ty)} {kvs : List (κ × V)} (r : DRel B ps kvs) (h : t.p B v) : DRel B (putT ps k t) (putK kvs k v) := by
  unfold putT putK
  rw [r.any k]
  by_cases e : (ps.any fun q => decide (q.1 = k)) = true
  · rw [if_pos e, if_pos e]
    exact r.map h
  · rw [if_neg e, if_neg e]
    exact r.snoc h
/-- keys: ints, texts; tuples of them -/
def tDK (ps : List (Key × Ty)) : Ty := ⟨fun B v => ∃ a kvs, v = .ref a ∧ Lk B a (.dK kvs) ∧ DRel B ps kvs, fun h ⟨a, kvs, e, i, r⟩ => ⟨a, kvs, e, i.mono h, r.mono h⟩⟩
def oDK (ps : List (Key × Ty)) : OT := ⟨fun B o => ∃ kvs, o = .dK kvs ∧ DRel B ps kvs, fun h ⟨kvs, e, r⟩ => ⟨kvs, e, r.mono h⟩⟩
def tDT (ps : List (List Key × Ty)) : Ty := ⟨fun B v => ∃ a kvs, v = .ref a ∧ Lk B a (.dT kvs) ∧ DRel B ps kvs, fun h ⟨a, kvs, e, i, r⟩ => ⟨a, kvs, e, i.mono h, r.mono h⟩⟩
def oDT (ps : List (List Key × Ty)) : OT := ⟨fun B o => ∃ kvs, o = .dT kvs ∧ DRel B ps kvs, fun h ⟨kvs, e, r⟩ => ⟨kvs, e, r.mono h⟩⟩
def tKey (k : List Key) : Ty := tT (k.map fun x => tV (kV x))
theorem tys_kV {B : Hp} : ∀ {k : List Key} {vs : List V}, Tys B (k.map fun x => tV (kV x)) vs → vs = k.map kV
  | [], _, .nil => rfl
  | _ :: _, _, .cons a r => by
    have e : _ = kV _ := a
    rw [e, tys_kV r]
    rfl
def S3.key (s : S3) : List Key := [.inr s.l.s, .inl (s.n : Int), .inr s.r.s]
theorem tSt_key (s : S3) : tSt s = tKey s.key := rfl
def tBad (bad : En → List Nat) : Ty := ⟨fun B v => ∃ d, v = .ref d ∧ BadAt B d bad, fun h ⟨d, e, r⟩ => ⟨d, e, r.mono h⟩⟩
def tPri (pr : Nat → Int) : Ty := ⟨fun B v => ∃ d, v = .ref d ∧ PriAt B d pr, fun h ⟨d, e, r⟩ => ⟨d, e, r.mono h⟩⟩
def badPs (bad : En → List Nat) : List (Key × Ty) := [(.inr "pillar", tNs (bad .P)), (.inr "sold", tNs (bad .S)), (.inr "wall", tNs (bad .W))]
theorem tBad_dK {bad : En → List Nat} {B : Hp} {v : V} (h : (tBad bad).p B v) : (tDK (badPs bad)).p B v := by
  obtain ⟨d, e, p, q, r, h0, h1, h2, h3⟩ := h
  exact ⟨d, _, e, h0, .cons ⟨p, _, rfl, h1, nats_tys _⟩ (.cons ⟨q, _, rfl, h2, nats_tys _⟩ (.cons ⟨r, _, rfl, h3, nats_tys _⟩ .nil))⟩
theorem look_bad {bad : En → List Nat} (e : En) : look (badPs bad) (.inr e.s) = some (tNs (bad e)) := by
  cases e with
  | P => exact look_pos rfl
  | S => exact (look_neg (by decide +kernel)).trans (look_pos rfl)
  | W => exact (look_neg (by decide +kernel)).trans ((look_neg (by decide +kernel)).trans (look_pos rfl))
section
variable {X : Cx} {Γ : Ctx} {o i e f : Expr} {t : Ty} {pos apos : Pos}
theorem ev_dget {ps : List (Key × Ty)} {k : Key} {n : Nat} (hr : Room n X.A) (ho : EvE X Γ o (tDK ps)) (hi : EvE X Γ i (tV (kV k))) (h : look ps k = some t) (hs : NoSl i := by exact fun _ _ => rfl) : EvE X Γ (.Subscript o i pos) t := fun σ B H s bh Q q =>
  ⟨_, pe_dget (hu_of hr) pe_c pe_c hs, ho σ B H s bh _ fun v B1 H1 n1 ⟨a, kvs, e1, e2, r⟩ => hi σ B1 H1 (s.mono n1.bb) n1.bh _ fun u B2 H2 n2 e3 => by
    obtain ⟨w, h1, h2⟩ := (r.mono n2.bb).get h
    subst e1
    have e3 : u = kV k := e3
    subst e3
    have g : DGet H2 a (kV k) (valV kvs k) := .inl ⟨kvs, k, (e2.mono n2.bb).rd n2.bh, rfl, rfl⟩
    rw [h1] at g
    exact ⟨a, w, rfl, g, q w B2 H2 (n1.trans n2) h2⟩⟩
theorem ev_dgetT {ps : List (List Key × Ty)} {k : List Key} {n : Nat} (hr : Room n X.A) (ho : EvE X Γ o (tDT ps)) (hi : EvE X Γ i (tKey k)) (h : look ps k = some t) (hs : NoSl i := by exact fun _ _ => rfl) : EvE X Γ (.Subscript o i pos) t := fun σ B H s bh Q q =>
  ⟨_, pe_dget (hu_of hr) pe_c pe_c hs, ho σ B H s bh _ fun v B1 H1 n1 ⟨a, kvs, e1, e2, r⟩ => hi σ B1 H1 (s.mono n1.bb) n1.bh _ fun u B2 H2 n2 ⟨b, xs, e3, e4, r2⟩ => by
    obtain ⟨w, h1, h2⟩ := (r.mono n2.bb).get h
    subst e1 e3
    rw [tys_kV r2] at e4
    have g : DGet H2 a (.ref b) (valV kvs k) := .inr ⟨kvs, k, b, (e2.mono n2.bb).rd n2.bh, rfl, n2.bh _ _ e4, rfl⟩
    rw [h1] at g
    exact ⟨a, w, rfl, g, q w B2 H2 (n1.trans n2) h2⟩⟩
theorem ev_priget {pr : Nat → Int} {z n : Nat} (hr : Room n X.A) (ho : EvE X Γ o (tPri pr)) (he : EvE X Γ e (nT z)) (hf : EvE X Γ f (tI 0)) (m : M2 X o "get" apos e f pos := by exact ⟨rfl, rfl, rfl, rfl⟩) : EvE X Γ (.Call (.Attribute o "get" apos) [e, f] [] pos) (tI (pr z)) := fun σ B H s bh Q q =>
  ⟨_, pe_dget2 (hu_of hr) pe_c pe_c pe_c m, ho σ B H s bh _ fun v B1 H1 n1 ⟨d, e1, kvs, e2, r⟩ => by
    subst e1
    refine ⟨d, rfl, .inl ⟨_, e2.rd n1.bh⟩, he σ B1 H1 (s.mono n1.bb) n1.bh _ fun u B2 H2 n2 e3 => hf σ B2 H2 (s.mono (n1.trans n2).bb) n2.bh _ fun w B3 H3 n3 e4 => ?_⟩
    have e3 : u = kV (.inl (z : Int)) := e3
    have e4 : w = .int 0 := e4
    subst e3 e4
    refine ⟨_, .inl ⟨_, .inl (z : Int), (e2.mono (n2.trans n3).bb).rd n3.bh, rfl, rfl⟩, q _ B3 H3 ((n1.trans n2).trans n3) ?_⟩
    have h0 : ∀ l : List (Nat × Int), (valV (l.map fun q => ((.inl (q.1 : Int) : Key), V.int q.2)) (.inl (z : Int))).getD (.int 0) = .int (((l.find? fun q => decide (q.1 = z)).map Prod.snd).getD 0) := fun l => by
      induction l with
      | nil => rfl
      | cons p l ih =>
        rw [List.map_cons]
        by_cases hz : p.1 = z
        · rw [valV_pos (p := ((.inl (p.1 : Int) : Key), V.int p.2)) (by rw [hz]), List.find?_cons, decide_eq_true hz] <;> rfl
        · rw [valV_neg (p := ((.inl (p.1 : Int) : Key), V.int p.2)) (fun e => hz (by have e2 := Sum.inl.inj e; exact Int.ofNat.inj e2)), ih, List.find?_cons, decide_eq_false hz]
    rw [h0, r z]
    rfl⟩
end
end Ls
set_option maxHeartbeats 4000000 -- D2
/-! choices, worths: what is read alone -/
namespace Ls
open PySem Spec PyProof.Rows L2
/-! the three ways of a comparison that is known -/
theorem et_false {J : Iv} {X : Cx} {Γ : Ctx} {e : Expr} {k : Bool} (h : EvT X Γ e k) (hk : k = false) : EvT X Γ e false := hk ▸ h
section
variable [J : Iv] {P : Program} {w : World} {K : PySem.W.Frag} {mg : Str → Option Value} {base : Heap}
/-- a rule, a size of it -/
def RZ (R : Ru) (z : Nat) : Prop := R.Ok ∧ z ∈ R.sizes
theorem RZ.rng {R : Ru} {z : Nat} (h : RZ R z) : 1 ≤ z ∧ z ≤ 5 := h.1.sz.2 z h.2
def sp_check_size (K : PySem.W.Frag) : Sp := spF (α := Ru × Nat) (fun d => [tRu K d.1, nT d.2]) (fun d => RZ d.1 d.2) (fun d => tNone)
theorem sc_check_size : FnScope ["rule", "size"] ["rule", "size"] (defScope s_check_size) := ⟨rfl, rfl, rfl, by decide +kernel, rfl, by decide +kernel, by decide +kernel⟩
theorem c_check_size (T : Top K mg) : Cal P w K mg base "check_size" 3 (sp_check_size K) := by
  have C_is_size := c_is_size (P := P) (w := w) (base := base) T
  refine cal_F T.f_check_size T.g_check_size sc_check_size (fun _ _ _ _ _ _ us hl => match us, hl with | [_, _], _ => rfl) (fun _ => rfl) (by decide) fun f cdv cd A outer s H0 E ⟨R, z⟩ B0 σ D hr hp a k hn => ?_
  have hz := hp.rng
  refine rs_when a (EvT.is (k2 := false) (et_w (ew_or (et_not (et_val (ev_call C_is_size (hr.mono (by decide)) rfl (ea_cons (ev_name (i := 1) rfl (.inl rfl) rfl) ea_nil) trivial))) (fun _ => (ew_or1 (et_cmp op_notIn_seq (ev_name (i := 1) rfl (.inl rfl) rfl) (ev_sizes T (hr.mono (by decide)) (ev_name (i := 0) rfl (.inl rfl) rfl)) (bin_niNt rfl) rfl))))) ?_) (fun hb => nomatch hb) fun _ B H s1 a => rs_nil (hn _ _ (k .non B H a.n rfl))
  have e1 : decide ((1 : Int) ≤ (z : Int)) = true := decide_eq_true (by omega)
  have e2 : decide ((z : Int) ≤ 5) = true := decide_eq_true (by omega)
  have e3 : decide (z ∈ R.sizes) = true := decide_eq_true hp.2
  show (!(decide ((1 : Int) ≤ (z : Int)) && decide ((z : Int) ≤ 5)) || !decide (z ∈ R.sizes)) = false
  rw [e1, e2, e3]
  rfl

def RSZ (R : Ru) (s : S3) (z : Nat) : Prop := RZ R z ∧ s.n ≤ 100
theorem asc_pair {n : Nat} (h : 0 < n) : ([0, (n : Int)] : List Int).Pairwise (· < ·) := by
  rw [List.pairwise_pair]
  omega
def sp_possible (K : PySem.W.Frag) : Sp := spF (α := Ru × S3 × Nat) (fun d => [tRu K d.1, tSt d.2.1, nT d.2.2]) (fun d => RSZ d.1 d.2.1 d.2.2) (fun d => tNs (befs d.1 d.2.1 d.2.2))
theorem sc_possible : FnScope ["rule", "stretch", "size", "rest"] ["rule", "stretch", "size"] (defScope s_possible) := ⟨rfl, rfl, rfl, by decide +kernel, rfl, by decide +kernel, by decide +kernel⟩
theorem c_possible (T : Top K mg) : Cal P w K mg base "possible" 4 (sp_possible K) := by
  have nd := sc_possible.nd
  have C_check_size := c_check_size (P := P) (w := w) (base := base) T
  refine cal_F T.f_possible T.g_possible sc_possible (fun _ _ _ _ _ _ us hl => match us, hl with | [_, _, _], _ => rfl) (fun _ => rfl) (by decide) fun f cdv cd A outer s H0 E ⟨R, t, z⟩ B0 σ D hr hp a k hn => ?_
  have hz := hp.1.rng
  have hn1 : t.n ≤ 100 := hp.2
  have hz0 : 1 ≤ z := hz.1
  refine rs_expr a (ev_call C_check_size (hr.mono (by decide)) rfl (d := (R, z)) (ea_cons (ev_name (i := 0) rfl (.inl rfl) rfl) (ea_cons (ev_name (i := 2) rfl (.inl rfl) rfl) ea_nil)) hp.1) fun B H s1 a => ?_
  refine rs_set (i := 3) a (ev_bin op_sub (ev_sub ix_tup (ev_name (i := 1) rfl (.inl rfl) rfl) ev_int (bin_ixTi (j := 1) rfl rfl)) (ev_name (i := 2) rfl (.inl rfl) rfl) bin_I0) nd rfl (.inl rfl) fun σ B H s1 a => ?_
  refine rs_when a (et_cmp op_lt (ev_name (i := 3) rfl (.inl rfl) rfl) ev_int bin_I0 (nomark _)) (fun hb B H s1 a => ?_) fun hb B H s1 a => ?_
  · have hb : (t.n : Int) - (z : Int) < 0 := of_decide_eq_true hb
    refine rs_ret a (ev_lst ea_nil) fun v B' H' _ a' r => k v B' H' a'.n ?_
    have e : befs R t z = [] := by unfold befs; rw [if_pos (by omega)]
    show (tNs (befs R t z)).p B' v
    rw [e]
    exact r
  · have hb : ¬ (t.n : Int) - (z : Int) < 0 := of_decide_eq_false hb
    have hle : z ≤ t.n := by omega
    have eb : befs R t z = if R.side then (if t.n = z then [0] else [0, t.n - z]) else List.range (t.n - z + 1) := by unfold befs; rw [if_neg (by omega)]
    have ew : decide (V.str R.wh = V.str "any") = !R.side := by
      unfold Ru.wh
      cases R.side
      · exact decide_eq_true rfl
      · exact decide_eq_false (fun h => absurd (V.str.inj h) (by decide +kernel))
    refine rs_ret a (ev_ifx (et_cmp op_eq (ev_where T (hr.mono (by decide)) (ev_name (i := 0) rfl (.inl rfl) rfl)) ev_str (bin_eq rfl) (nomark _))
      (fun hb => EvE.is (ev_listRg (m := t.n - z + 1) rfl rfl T.b_list rfl T.b_range (ev_bin op_add (ev_name (i := 3) rfl (.inl rfl) rfl) ev_int bin_I0) (by show (t.n : Int) - (z : Int) + 1 = _; omega) (by omega)) (t2 := tNs (befs R t z)) (by
        rw [ew] at hb
        rw [eb, if_neg (by simpa using hb)]))
      (fun hb => EvE.is (ev_callB (cr_sortedSet rfl) rfl T.b_sorted bt_sorted (ea_cons (ev_set2 ev_int (ev_name (i := 3) rfl (.inl rfl) rfl) (kdsCode_of cd)) ea_nil) (cb_sortedSet (ms := (befs R t z).map fun x : Nat => (x : Int)) (by decide) ?_ ?_)) (by rw [← nat_tys] <;> rfl))) fun v B' H' _ a' r => k v B' H' a'.n r
    · rw [ew] at hb
      rw [eb, if_pos (by simpa using hb)]
      split
      · exact List.pairwise_singleton ..
      · have e0 : 0 < t.n - z := by omega
        exact asc_pair e0
    · intro j
      rw [ew] at hb
      rw [eb, if_pos (by simpa using hb)]
      split
      · simp
        omega
      · simp
        omega

def sp_bad_at (K : PySem.W.Frag) (R : Ru) : Sp := spF (α := En) (fun e => tRu K R :: [tS e.s]) (fun _ => True) (fun e => tNs (R.bad e))
theorem sc_Rule_bad_at : FnScope ["self", "end"] ["self", "end"] (defScope s_Rule_bad_at) := ⟨rfl, rfl, rfl, by decide +kernel, rfl, by decide +kernel, by decide +kernel⟩
theorem c_Rule_bad_at (T : Top K mg) (R : Ru) : CalM P w K mg base (He.ga K "Rule") "bad_at" 2 (sp_bad_at K R) := by
  have C_is_end := c_is_end (P := P) (w := w) (base := base) T
  refine calM_F (d := d_Rule_bad_at) (N := ["self", "end"]) (ps := ["self", "end"]) T.f_Rule_bad_at T.t_Rule_bad_at sc_Rule_bad_at (fun _ _ _ _ _ _ us hl => match us, hl with | [_, _], _ => rfl) (fun _ => rfl) (by decide) fun f cdv cd A outer s H0 E e B0 σ D hr hp a k hn => ?_
  refine rs_when a (et_not (et_val (ev_call C_is_end (hr.mono (by decide)) rfl (d := e) (ea_cons (ev_name (i := 1) rfl (.inl rfl) rfl) ea_nil) trivial))) (fun hb => absurd hb (by decide)) fun hb B H s1 a => ?_
  exact rs_ret a (ev_callTy call_listS rfl T.b_list bt_list (ea_cons (ev_dget (ps := badPs R.bad) (k := .inr e.s) hr ((ev_fbad T (ev_name (i := 0) rfl (.inl rfl) rfl)).to fun _ _ h => tBad_dK (bad := R.bad) h) (ev_name (i := 1) rfl (.inl rfl) rfl) (look_bad e)) ea_nil) cb_list) fun v B' H' _ a' r => k v B' H' a'.n r
theorem ru_inst {R : Ru} (B : Hp) (v : V) (h : (tRu K R).p B v) : ∃ a dx fs, v = .ref a ∧ B a = some (.ins (He.ga K "Rule") dx fs) ∧ fs.lookup ("bad_at" : Str) = none := by
  obtain ⟨a, dx, t, d, e, h1, _⟩ := h
  exact ⟨a, dx, _, e, h1, ruFs_bad_at⟩
theorem wo_inst {W : Wo} (B : Hp) (v : V) (h : (tWo K W).p B v) : ∃ a dx fs, v = .ref a ∧ B a = some (.ins (He.ga K "Worth") dx fs) ∧ fs.lookup ("price" : Str) = none := by
  obtain ⟨a, dx, d, e, h1, _⟩ := h
  exact ⟨a, dx, _, e, h1, woFs_price⟩
def sp_price (K : PySem.W.Frag) (W : Wo) : Sp := spF (α := Nat) (fun z => tWo K W :: [nT z]) (fun _ => True) (fun z => tI (W.price z))
theorem sc_Worth_price : FnScope ["self", "size"] ["self", "size"] (defScope s_Worth_price) := ⟨rfl, rfl, rfl, by decide +kernel, rfl, by decide +kernel, by decide +kernel⟩
theorem c_Worth_price (T : Top K mg) (W : Wo) : CalM P w K mg base (He.ga K "Worth") "price" 1 (sp_price K W) := by
  refine calM_F (d := d_Worth_price) (N := ["self", "size"]) (ps := ["self", "size"]) T.f_Worth_price T.t_Worth_price sc_Worth_price (fun _ _ _ _ _ _ us hl => match us, hl with | [_, _], _ => rfl) (fun _ => rfl) (by decide) fun f cdv cd A outer s H0 E z B0 σ D hr hp a k hn => ?_
  exact rs_ret a (ev_priget (pr := W.price) hr ((ev_fprices T (ev_name (i := 0) rfl (.inl rfl) rfl)).to fun _ _ h => h) (ev_name (i := 1) rfl (.inl rfl) rfl) ev_int) fun v B' H' _ a' r => k v B' H' a'.n r

def sp_good_befores (K : PySem.W.Frag) : Sp := spF (α := Ru × S3 × Nat) (fun d => [tRu K d.1, tSt d.2.1, nT d.2.2, tNs (befs d.1 d.2.1 d.2.2)]) (fun d => RSZ d.1 d.2.1 d.2.2) (fun d => tNs (goods d.1 d.2.1 d.2.2))
theorem sc_good_befores : FnScope ["rule", "stretch", "size", "some", "left", "length", "right", "ahead", "behind", "before"] ["rule", "stretch", "size", "some"] (defScope s_good_befores) := ⟨rfl, rfl, rfl, by decide +kernel, rfl, by decide +kernel, by decide +kernel⟩
theorem c_good_befores (T : Top K mg) : Cal P w K mg base "good_befores" 3 (sp_good_befores K) := by
  have nd := sc_good_befores.nd
  refine cal_F T.f_good_befores T.g_good_befores sc_good_befores (fun _ _ _ _ _ _ us hl => match us, hl with | [_, _, _, _], _ => rfl) (fun _ => rfl) (by decide) fun f cdv cd A outer s H0 E ⟨R, t, z⟩ B0 σ D hr hp a k hn => ?_
  have C_bad_at := c_Rule_bad_at (P := P) (w := w) (base := base) T R
  have hn1 : t.n ≤ 100 := hp.2
  refine rs_asg a (ev_name (i := 1) rfl (.inl rfl) rfl) (tg_tup rfl (tgs_cons (tg_name (i := 4) nd rfl (.inl rfl)) (tgs_cons (tg_name (i := 5) nd rfl (.inr rfl)) (tgs_cons (tg_name (i := 6) nd rfl (.inl rfl)) tgs_nil)))) fun σ B H s1 a => ?_
  refine rs_asg a (ev_tup (ea_cons (ev_meth C_bad_at T.c_Rule (hr.mono (by decide)) (ev_name (i := 0) rfl (.inl rfl) rfl) ru_inst (d := t.l) (ea_cons (ev_name (i := 4) rfl (.inl rfl) rfl) ea_nil) trivial) (ea_cons (ev_meth C_bad_at T.c_Rule (hr.mono (by decide)) (ev_name (i := 0) rfl (.inl rfl) rfl) ru_inst (d := t.r) (ea_cons (ev_name (i := 6) rfl (.inl rfl) rfl) ea_nil) trivial) ea_nil)))
    (tg_tup rfl (tgs_cons (tg_name (i := 7) nd rfl (.inr rfl)) (tgs_cons (tg_name (i := 8) nd rfl (.inr rfl)) tgs_nil))) fun σ B H s1 a => ?_
  refine rs_ret a (EvE.is (ev_lc (own := [("before", 9)]) (xs := befs R t z) (τ := nT) (p := good R t z) (g := nT) rfl nd (blkOk_by (N := ["rule", "stretch", "size", "some", "left", "length", "right", "ahead", "behind", "before"]) (sc := defScope s_good_befores) (by decide +kernel)) (ei_list (ev_name (i := 3) rfl (.inl rfl) rfl)) (by decide) (by have := befs_len R t z; omega) (fun _ _ _ _ _ _ _ => (tg_name (i := 9) nd rfl (.inl rfl)))
    (fun _ _ _ _ _ x hx => (ets_one (et_w (ew_and (et_cmp op_notIn_seq (ev_name (i := 9) rfl (.inl rfl) rfl) (ev_name (i := 7) rfl (.inr (.inl rfl)) rfl) (bin_niN rfl) rfl) (fun _ => (ew_and1 (et_cmp op_notIn_seq (ev_bin op_sub (ev_bin op_sub (ev_name (i := 5) rfl (.inr (.inl rfl)) rfl) (ev_name (i := 2) rfl (.inr (.inl rfl)) rfl) bin_I0) (ev_name (i := 9) rfl (.inl rfl) rfl) bin_I0) (ev_name (i := 8) rfl (.inr (.inl rfl)) rfl) (bin_niN (n := t.n - z - x) (by have := befs_fit hx; show (t.n : Int) - (z : Int) - (x : Int) = _; omega)) rfl)))))))
    (fun _ _ _ _ _ _ _ => fun _ => (ev_name (i := 9) rfl (.inl rfl) rfl))) (t2 := tNs (goods R t z)) rfl) fun v B' H' _ a' r => k v B' H' a'.n r

def spRS3 (K : PySem.W.Frag) (f : Ru → S3 → Nat → Ty) : Sp := spF (α := Ru × S3 × Nat) (fun d => [tRu K d.1, tSt d.2.1, nT d.2.2]) (fun d => RSZ d.1 d.2.1 d.2.2) (fun d => f d.1 d.2.1 d.2.2)
theorem sc_let : FnScope ["rule", "stretch", "size", "some", "good"] ["rule", "stretch", "size"] (defScope s_let) := ⟨rfl, rfl, rfl, by decide +kernel, rfl, by decide +kernel, by decide +kernel⟩
theorem c_let (T : Top K mg) : Cal P w K mg base "let" 5 (spRS3 K fun R s z => tNs (lets R s z)) := by
  have nd := sc_let.nd
  have C_possible := c_possible (P := P) (w := w) (base := base) T
  have C_good_befores := c_good_befores (P := P) (w := w) (base := base) T
  refine cal_F T.f_let T.g_let sc_let (fun _ _ _ _ _ _ us hl => match us, hl with | [_, _, _], _ => rfl) (fun _ => rfl) (by decide) fun f cdv cd A outer s H0 E ⟨R, t, z⟩ B0 σ D hr hp a k hn => ?_
  refine rs_set (i := 3) a (ev_call C_possible (hr.mono (by decide)) rfl (d := (R, t, z)) (ea_cons (ev_name (i := 0) rfl (.inl rfl) rfl) (ea_cons (ev_name (i := 1) rfl (.inl rfl) rfl) (ea_cons (ev_name (i := 2) rfl (.inl rfl) rfl) ea_nil))) hp) nd rfl (.inl rfl) fun σ B H s1 a => ?_
  refine rs_set (i := 4) a (ev_call C_good_befores (hr.mono (by decide)) rfl (d := (R, t, z)) (ea_cons (ev_name (i := 0) rfl (.inl rfl) rfl) (ea_cons (ev_name (i := 1) rfl (.inl rfl) rfl) (ea_cons (ev_name (i := 2) rfl (.inl rfl) rfl) (ea_cons (ev_name (i := 3) rfl (.inl rfl) rfl) ea_nil)))) hp) nd rfl (.inl rfl) fun σ B H s1 a => ?_
  have e : (decide (goods R t z = []) && R.soft) = decide (goods R t z = [] ∧ R.soft = true) := by
    cases R.soft <;> simp
  refine rs_ret a (ev_ifx (k := decide (goods R t z = [] ∧ R.soft = true)) (EvT.is (et_w (ew_and (et_cmp (op_eqD hr.units) (ev_name (i := 4) rfl (.inl rfl) rfl) (ev_lst ea_nil) bin_eqNil (nomark _)) (fun _ => (ew_and1 (et_val (ev_soft T (hr.mono (by decide)) (ev_name (i := 0) rfl (.inl rfl) rfl))))))) e) (fun hb => EvE.is (ev_name (i := 3) rfl (.inl rfl) rfl) ?_) (fun hb => EvE.is (ev_name (i := 4) rfl (.inl rfl) rfl) ?_)) fun v B' H' _ a' r => k v B' H' a'.n r
  · show tNs _ = tNs (lets R t z)
    unfold lets
    rw [if_pos (of_decide_eq_true hb)]
  · show tNs _ = tNs (lets R t z)
    unfold lets
    rw [if_neg (of_decide_eq_false hb)]

theorem sc_offered : FnScope ["rule", "stretch", "size", "found"] ["rule", "stretch", "size"] (defScope s_offered) := ⟨rfl, rfl, rfl, by decide +kernel, rfl, by decide +kernel, by decide +kernel⟩
theorem c_offered (T : Top K mg) : Cal P w K mg base "offered" 6 (spRS3 K fun R s z => tNs (offers R s z)) := by
  have nd := sc_offered.nd
  have C_let := c_let (P := P) (w := w) (base := base) T
  refine cal_F T.f_offered T.g_offered sc_offered (fun _ _ _ _ _ _ us hl => match us, hl with | [_, _, _], _ => rfl) (fun _ => rfl) (by decide) fun f cdv cd A outer s H0 E ⟨R, t, z⟩ B0 σ D hr hp a k hn => ?_
  refine rs_set (i := 3) a (ev_call C_let (hr.mono (by decide)) rfl (d := (R, t, z)) (ea_cons (ev_name (i := 0) rfl (.inl rfl) rfl) (ea_cons (ev_name (i := 1) rfl (.inl rfl) rfl) (ea_cons (ev_name (i := 2) rfl (.inl rfl) rfl) ea_nil))) hp) nd rfl (.inl rfl) fun σ B H s1 a => ?_
  refine rs_ret a (ev_ifx (et_cmp op_gt (ev_offer T (hr.mono (by decide)) (ev_name (i := 0) rfl (.inl rfl) rfl)) ev_int bin_I0 (nomark _)) (fun hb => EvE.is (ev_sliceL (ev_name (i := 3) rfl (.inl rfl) rfl) eo_none (eo_some (ev_offer T (hr.mono (by decide)) (ev_name (i := 0) rfl (.inl rfl) rfl)))) ?_) (fun hb => EvE.is (ev_name (i := 3) rfl (.inl rfl) rfl) ?_)) fun v B' H' _ a' r => k v B' H' a'.n r
  · have hb : 0 < (R.offer : Int) := of_decide_eq_true hb
    show tL _ = tNs (offers R t z)
    unfold offers
    rw [if_pos (by omega), cut_to, ← List.map_take]
    rfl
  · have hb : ¬ 0 < (R.offer : Int) := of_decide_eq_false hb
    show tNs _ = tNs (offers R t z)
    unfold offers
    rw [if_neg (by omega)]

def tPz (q : Nat × Nat) : Ty := tT [nT q.1, nT q.2]
def spRS (K : PySem.W.Frag) (f : Ru → S3 → Ty) : Sp := spF (α := Ru × S3) (fun d => [tRu K d.1, tSt d.2]) (fun d => d.1.Ok ∧ d.2.n ≤ 100) (fun d => f d.1 d.2)
theorem sc_sales : FnScope ["rule", "stretch", "size", "before"] ["rule", "stretch"] (defScope s_sales) := ⟨rfl, rfl, rfl, by decide +kernel, rfl, by decide +kernel, by decide +kernel⟩
theorem c_sales (T : Top K mg) : Cal P w K mg base "sales" 7 (spRS K fun R s => tL ((sales R s).map tPz)) := by
  have nd := sc_sales.nd
  have C_offered := c_offered (P := P) (w := w) (base := base) T
  refine cal_F T.f_sales T.g_sales sc_sales (fun _ _ _ _ _ _ us hl => match us, hl with | [_, _], _ => rfl) (fun _ => rfl) (by decide) fun f cdv cd A outer s H0 E ⟨R, t⟩ B0 σ D hr hp a k hn => ?_
  have hR : R.Ok := hp.1
  have hn1 : t.n ≤ 100 := hp.2
  refine rs_ret a (EvE.is (ev_lc2 (own := [("size", 2), ("before", 3)]) (xs := R.sizes) (τ := nT) (ys := fun z => offers R t z) (τ1 := fun _ b => nT b) (g := fun z b => tPz (z, b)) (vs1 := [3]) rfl nd (blkOk_by (N := ["rule", "stretch", "size", "before"]) (sc := defScope s_sales) (by decide +kernel)) (by decide) (ei_tup (ev_sizes T (hr.mono (by decide)) (ev_name (i := 0) rfl (.inr (.inl rfl)) rfl))) (by decide) (by decide) ?_
    (fun _ _ _ _ _ _ _ => (tg_name (i := 2) nd rfl (.inl rfl))) (fun _ _ _ _ _ x hx => ei_list (ev_call C_offered (hr.mono (by decide)) rfl (d := (R, t, x)) (ea_cons (ev_name (i := 0) rfl (.inr (.inl rfl)) rfl) (ea_cons (ev_name (i := 1) rfl (.inr (.inl rfl)) rfl) (ea_cons (ev_name (i := 2) rfl (.inl rfl) rfl) ea_nil))) ⟨⟨hR, hx⟩, hn1⟩))
    (fun _ _ _ _ _ _ _ _ _ => (tg_name (i := 3) nd rfl (.inl rfl))) (fun _ _ _ _ _ _ _ _ _ => ev_tup (ea_cons (ev_name (i := 2) rfl (.inl rfl) rfl) (ea_cons (ev_name (i := 3) rfl (.inl rfl) rfl) ea_nil)))) ?_) fun v B' H' _ a' r => k v B' H' a'.n r
  · have h1 := flat_len (fun z => offers R t z) (t.n + 2) R.sizes fun z _ => offers_len R t z
    have h2 := hR.sz.len
    have h3 := Nat.mul_le_mul_right (t.n + 2) h2
    omega
  · show tL _ = tL ((sales R t).map tPz)
    unfold sales
    rw [List.map_flatMap]
    congr 1
    congr 1
    funext z
    rw [List.map_map]
    rfl
theorem sc_is_sold : FnScope ["rule", "stretch", "thing"] ["rule", "stretch", "thing"] (defScope s_is_sold) := ⟨rfl, rfl, rfl, by decide +kernel, rfl, by decide +kernel, by decide +kernel⟩
/-- a size, a before that may be below 0 -/
def isSold (R : Ru) (s : S3) (z : Nat) (b : Int) : Bool := decide (0 ≤ b) && (decide (z ∈ R.sizes) && decide (b.toNat ∈ offers R s z))
def sp_is_sold (K : PySem.W.Frag) : Sp := spF (α := Ru × S3 × Nat × Int) (fun d => [tRu K d.1, tSt d.2.1, tT [nT d.2.2.1, tI d.2.2.2]]) (fun d => (d.1.Ok ∧ d.2.1.n ≤ 100) ∧ 1 ≤ d.2.2.1 ∧ d.2.2.1 ≤ 5) (fun d => tB (isSold d.1 d.2.1 d.2.2.1 d.2.2.2))
theorem c_is_sold (T : Top K mg) : Cal P w K mg base "is_sold" 7 (sp_is_sold K) := by
  have nd := sc_is_sold.nd
  have C_offered := c_offered (P := P) (w := w) (base := base) T
  have C_is_choice := c_is_choice (P := P) (w := w) (base := base) T
  refine cal_F T.f_is_sold T.g_is_sold sc_is_sold (fun _ _ _ _ _ _ us hl => match us, hl with | [_, _, _], _ => rfl) (fun _ => rfl) (by decide) fun f cdv cd A outer s H0 E ⟨R, t, z, b⟩ B0 σ D hr hp a k hn => ?_
  have hz1 : 1 ≤ z := hp.2.1
  have hz2 : z ≤ 5 := hp.2.2
  have ec : ((decide ((1 : Int) ≤ (z : Int)) && decide ((z : Int) ≤ 5)) && decide (0 ≤ b)) = decide (0 ≤ b) := by
    rw [decide_eq_true (show (1 : Int) ≤ (z : Int) by omega), decide_eq_true (show (z : Int) ≤ 5 by omega)]
    rfl
  refine rs_ret a (ev_and (EvE.isB (ev_call C_is_choice (hr.mono (by decide)) rfl (d := ((z : Int), b)) (ea_cons (ev_name (i := 2) rfl (.inl rfl) rfl) ea_nil) trivial) ec) (fun h0 => (ev_and (ev_cmp op_in_seq (ev_sub ix_tup (ev_name (i := 2) rfl (.inl rfl) rfl) ev_int (bin_ixTi (j := 0) rfl rfl)) (ev_sizes T (hr.mono (by decide)) (ev_name (i := 0) rfl (.inl rfl) rfl)) (bin_inNt rfl) rfl) (fun h1 => (ev_one (ev_cmp op_in_seq (ev_sub ix_tup (ev_name (i := 2) rfl (.inl rfl) rfl) ev_int (bin_ixTi (j := 1) rfl rfl)) (ev_call C_offered (hr.mono (by decide)) rfl (d := (R, t, z)) (ea_cons (ev_name (i := 0) rfl (.inl rfl) rfl) (ea_cons (ev_name (i := 1) rfl (.inl rfl) rfl) (ea_cons (ev_sub ix_tup (ev_name (i := 2) rfl (.inl rfl) rfl) ev_int (bin_ixTi (j := 0) rfl rfl)) ea_nil))) ⟨⟨hp.1.1, of_decide_eq_true h1⟩, hp.1.2⟩) (bin_inN (n := b.toNat) (Int.toNat_of_nonneg (of_decide_eq_true h0)).symm) rfl)))))) fun v B' H' _ a' r => k v B' H' a'.n r
theorem sc_refuses : FnScope ["rule", "stretch", "size"] ["rule", "stretch", "size"] (defScope s_refuses) := ⟨rfl, rfl, rfl, by decide +kernel, rfl, by decide +kernel, by decide +kernel⟩
theorem c_refuses (T : Top K mg) : Cal P w K mg base "refuses" 7 (spRS3 K fun R s z => tB (refuses R s z)) := by
  have C_offered := c_offered (P := P) (w := w) (base := base) T
  refine cal_F T.f_refuses T.g_refuses sc_refuses (fun _ _ _ _ _ _ us hl => match us, hl with | [_, _, _], _ => rfl) (fun _ => rfl) (by decide) fun f cdv cd A outer s H0 E ⟨R, t, z⟩ B0 σ D hr hp a k hn => ?_
  exact rs_ret a (ev_cmp (op_eqD hr.units) (ev_call C_offered (hr.mono (by decide)) rfl (d := (R, t, z)) (ea_cons (ev_name (i := 0) rfl (.inl rfl) rfl) (ea_cons (ev_name (i := 1) rfl (.inl rfl) rfl) (ea_cons (ev_name (i := 2) rfl (.inl rfl) rfl) ea_nil))) hp) (ev_lst ea_nil) bin_eqNil (nomark _)) fun v B' H' _ a' r => k v B' H' a'.n r
theorem sc_is_stuck : FnScope ["rule", "stretch", "size"] ["rule", "stretch"] (defScope s_is_stuck) := ⟨rfl, rfl, rfl, by decide +kernel, rfl, by decide +kernel, by decide +kernel⟩
theorem c_is_stuck (T : Top K mg) : Cal P w K mg base "is_stuck" 8 (spRS K fun R s => tB (stuck R s)) := by
  have nd := sc_is_stuck.nd
  have C_refuses := c_refuses (P := P) (w := w) (base := base) T
  refine cal_F T.f_is_stuck T.g_is_stuck sc_is_stuck (fun _ _ _ _ _ _ us hl => match us, hl with | [_, _], _ => rfl) (fun _ => rfl) (by decide) fun f cdv cd A outer s H0 E ⟨R, t⟩ B0 σ D hr hp a k hn => ?_
  have h5 : R.sizes.length ≤ 5 := hp.1.sz.len
  refine rs_ret a (ev_callB (cr_all rfl) rfl T.b_all bt_all (ea_cons (EvE.is (ev_lc (own := [("size", 2)]) (xs := R.sizes) (τ := nT) (p := fun _ => true) (g := fun z => tB (refuses R t z)) rfl nd (blkOk_by (N := ["rule", "stretch", "size"]) (sc := defScope s_is_stuck) (by decide +kernel)) (ei_tup (ev_sizes T (hr.mono (by decide)) (ev_name (i := 0) rfl (.inr (.inl rfl)) rfl))) (by decide) (by omega) (fun _ _ _ _ _ _ _ => (tg_name (i := 2) nd rfl (.inl rfl))) (fun _ _ _ _ _ _ _ => ets_nil)
    (fun _ _ _ _ _ x hx => fun _ => (ev_call C_refuses (hr.mono (by decide)) rfl (d := (R, t, x)) (ea_cons (ev_name (i := 0) rfl (.inr (.inl rfl)) rfl) (ea_cons (ev_name (i := 1) rfl (.inr (.inl rfl)) rfl) (ea_cons (ev_name (i := 2) rfl (.inl rfl) rfl) ea_nil))) ⟨⟨hp.1, hx⟩, hp.2⟩))) (t2 := tL ((R.sizes.map fun z => refuses R t z).map tB)) (by rw [filter_yes, List.map_map]; rfl)) ea_nil) cb_all) fun v B' H' _ a' r => k v B' H' a'.n ?_
  have e : (R.sizes.map fun z => refuses R t z).all id = stuck R t := by
    unfold stuck
    rw [List.all_map]
    rfl
  rw [e] at r
  exact r
def spRW (K : PySem.W.Frag) : Sp := spF (α := Ru × Wo) (fun d => [tRu K d.1, tWo K d.2]) (fun d => d.1.Ok ∧ Fits d.1 d.2) (fun _ => tNone)
theorem sc_need_until : FnScope ["rule", "worth"] ["rule", "worth"] (defScope s_need_until) := ⟨rfl, rfl, rfl, by decide +kernel, rfl, by decide +kernel, by decide +kernel⟩
theorem nat_eq0 {n : Nat} : decide (V.int (n : Int) = V.int 0) = decide (n = 0) := decide_eq_decide.mpr ⟨fun h => by have := V.int.inj h; omega, fun h => by rw [h]; rfl⟩
theorem c_need_until (T : Top K mg) : Cal P w K mg base "need_until" 3 (spRW K) := by
  refine cal_F T.f_need_until T.g_need_until sc_need_until (fun _ _ _ _ _ _ us hl => match us, hl with | [_, _], _ => rfl) (fun _ => rfl) (by decide) fun f cdv cd A outer s H0 E ⟨R, W⟩ B0 σ D hr hp a k hn => ?_
  refine rs_when a (EvT.is (k2 := false) (et_w (ew_and (et_cmp op_ne (ev_until T (hr.mono (by decide)) (ev_name (i := 1) rfl (.inl rfl) rfl)) ev_int (bin_ne rfl) (nomark _)) (fun _ => (ew_and1 (et_cmp op_notIn_seq (ev_until T (hr.mono (by decide)) (ev_name (i := 1) rfl (.inl rfl) rfl)) (ev_sizes T (hr.mono (by decide)) (ev_name (i := 0) rfl (.inl rfl) rfl)) (bin_niNt rfl) rfl))))) ?_) (fun hb => nomatch hb) fun _ B H s1 a => rs_nil (hn _ _ (k .non B H a.n rfl))
  rw [nat_eq0]
  rcases hp.2 with h | h
  · have h : W.til = 0 := h
    rw [decide_eq_true h]
    rfl
  · have h : W.til ∈ R.sizes := h
    rw [decide_eq_true h]
    cases decide (W.til = 0) <;> rfl
def spRWS (K : PySem.W.Frag) (f : Ru → Wo → S3 → Ty) : Sp := spF (α := Ru × Wo × S3) (fun d => [tRu K d.1, tWo K d.2.1, tSt d.2.2]) (fun d => (d.1.Ok ∧ Fits d.1 d.2.1) ∧ d.2.2.n ≤ 100) (fun d => f d.1 d.2.1 d.2.2)
theorem sc_may_end : FnScope ["rule", "worth", "stretch"] ["rule", "worth", "stretch"] (defScope s_may_end) := ⟨rfl, rfl, rfl, by decide +kernel, rfl, by decide +kernel, by decide +kernel⟩
theorem c_may_end (T : Top K mg) : Cal P w K mg base "may_end" 9 (spRWS K fun R W s => tB (mayEnd R W s)) := by
  have C_is_stuck := c_is_stuck (P := P) (w := w) (base := base) T
  have C_refuses := c_refuses (P := P) (w := w) (base := base) T
  refine cal_F T.f_may_end T.g_may_end sc_may_end (fun _ _ _ _ _ _ us hl => match us, hl with | [_, _, _], _ => rfl) (fun _ => rfl) (by decide) fun f cdv cd A outer s H0 E ⟨R, W, t⟩ B0 σ D hr hp a k hn => ?_
  refine rs_when a (EvT.is (et_cmp op_eq (ev_until T (hr.mono (by decide)) (ev_name (i := 1) rfl (.inl rfl) rfl)) ev_int (bin_eq rfl) (nomark _)) nat_eq0) (fun hb B H s1 a => ?_) fun hb B H s1 a => ?_
  · have hb := of_decide_eq_true hb
    exact rs_ret a (ev_call C_is_stuck (hr.mono (by decide)) rfl (d := (R, t)) (ea_cons (ev_name (i := 0) rfl (.inl rfl) rfl) (ea_cons (ev_name (i := 2) rfl (.inl rfl) rfl) ea_nil)) ⟨hp.1.1, hp.2⟩) fun v B' H' _ a' r => k v B' H' a'.n (by show (tB (mayEnd R W t)).p B' v; unfold mayEnd; rw [if_pos hb]; exact r)
  · have hb := of_decide_eq_false hb
    have hm : W.til ∈ R.sizes := hp.1.2.resolve_left hb
    exact rs_ret a (ev_or (ev_cmp op_notIn_seq (ev_until T (hr.mono (by decide)) (ev_name (i := 1) rfl (.inl rfl) rfl)) (ev_sizes T (hr.mono (by decide)) (ev_name (i := 0) rfl (.inl rfl) rfl)) (bin_niNt rfl) rfl) (fun _ => (ev_one (ev_call C_refuses (hr.mono (by decide)) rfl (d := (R, t, W.til)) (ea_cons (ev_name (i := 0) rfl (.inl rfl) rfl) (ea_cons (ev_name (i := 2) rfl (.inl rfl) rfl) (ea_cons (ev_until T (hr.mono (by decide)) (ev_name (i := 1) rfl (.inl rfl) rfl)) ea_nil))) ⟨⟨hp.1.1, hm⟩, hp.2⟩)))) fun v B' H' _ a' r => k v B' H' a'.n (by
      show (tB (mayEnd R W t)).p B' v
      unfold mayEnd
      rw [if_neg hb]
      rw [decide_eq_true hm] at r
      exact r)
end
end Ls
set_option maxHeartbeats 4000000 -- Q1
/-! Locks, dicts, instances. -/
namespace Ls
open PySem Spec PyProof.Rows L2
/-! ### a lock that stays -/
section
variable {X : Cx}
theorem pe_lockP {e : Expr} {t : TE} (h : PE X e t) : PE X e (fun σ H Q => t σ H fun v H1 => ∃ d u, H1 d = some u ∧ Mut (some u) ∧ ∀ od, Q v (upd H1 d (.frz od u))) :=
  ⟨fun pins s σ H Q I hw => thn (h.run pins s σ H _ I hw) fun v s1 ⟨x, H1, I1, r, d, u, hd, mu, q⟩ => let ⟨od, I2⟩ := I1.lock hd mu; ⟨x, _, I2, r, q od⟩⟩
theorem pss_lockP {st : List Stmt} {t : TS} (h : PSs X st t) : PSs X st (fun D σ H => ∃ d u, H d = some u ∧ Mut (some u) ∧ ∀ od, t D σ (upd H d (.frz od u))) :=
  ⟨fun pins s σ H D I ⟨d, u, hd, mu, q⟩ => let ⟨od, I2⟩ := I.lock hd mu; h.run pins s σ _ D I2 (q od)⟩
end
variable [J : Iv]
section
variable {F : Addr → Prop} {B0 H0 Bg : Hp} {Γ : Ctx} {W : Cells} {σ : L2.St} {B H B1 H1 : Hp} {l : Addr} {ot : OT} {o o' : HO}
theorem Nw.transF {G : Addr → Prop} {B2 H2 : Hp} (a : Nw F B H B1 H1) (b : Nw G B1 H1 B2 H2) (h : ∀ x, G x → F x ∨ H x = none) : Nw F B H B2 H2 :=
  ⟨a.bb.trans b.bb, b.bh, fun x o n m e => b.hh x o (fun z => by
    rcases h x z with q | q
    · exact n q
    · rw [e] at q
      cases q) (a.nf x o m e) (a.hh x o n m e), fun x o m e => let ⟨_, e1⟩ := a.th x o e; b.nf x _ (a.nf x o m e) e1, fun x o e => let ⟨_, e1⟩ := a.th x o e; b.th x _ e1, fun x o n e => let ⟨_, e1⟩ := a.th x o e; b.fr x _ (a.fr x o n e) e1⟩
theorem Nw.wlay (w : Nw F B H B1 H1) (hb : B1 l = none) (h0 : H l = none) (hn : ¬ Iv.F H1 l) : Nw F B H (upd B1 l o) (upd H1 l o) :=
  (w.write (o := o) hb (.inr h0) hn).freeze hb upd_same h0 (nfu w.bh hn hn)
theorem rs_lock {X : Cx} {rest : List Stmt} {D : Ends} (a : At F B0 H0 Bg Γ ((l, ot) :: W) σ B H) (h0 : H0 l = none) (mu : ∀ B o, ot.p B o → Mut (some o))
    (k : ∀ o od B' H', Same B B' → B' l = some (.frz od o) → ot.p B' o → At F B0 H0 Bg Γ W σ B' H' → RS X rest D σ H') : RS X rest D σ H := by
  obtain ⟨_, h2, o, h3, h4⟩ := a.cell
  refine ⟨_, pss_lockP pss_c, l, o, h3, mu B o h4, fun od => ?_⟩
  have sb : Same B (upd B l (.frz od o)) := same_upd h2.1
  refine k o od _ _ sb upd_same (ot.mono sb h4) ⟨a.s.mono sb, a.n.wlay h2.1 h0 h2.2, a.g.trans sb, fun q hq => ?_, (List.nodup_cons.mp a.o.apart).2⟩
  obtain ⟨k1, k2, u, k3, k4⟩ := a.o.each q (List.mem_cons_of_mem _ hq)
  have ne : q.1 ≠ l := fun e => (List.nodup_cons.mp a.o.apart).1 (List.mem_map.mpr ⟨q, hq, e⟩)
  exact ⟨k1, ⟨by rw [upd_ne ne]; exact k2.1, nfu a.n.bh h2.2 k2.2⟩, u, by rw [upd_ne ne]; exact k3, q.2.mono sb k4⟩
end
/-! ### dict comprehensions -/
section
variable {X : Cx} {Γ : Ctx} {kx vx it tg : Expr} {ifs : List Expr} {scope : Scope} {pos : Pos}
def foldPs {α : Type} (key : α → Key) (g : α → Ty) (xs : List α) : List (Key × Ty) := xs.foldl (fun ps x => putT ps (key x) (g x)) []
theorem foldPs_snoc {α : Type} {key : α → Key} {g : α → Ty} {xs : List α} {x : α} : foldPs key g (xs ++ [x]) = putT (foldPs key g xs) (key x) (g x) := by unfold foldPs; rw [List.foldl_append]; rfl
theorem putT_len {ps : List (Key × Ty)} {k : Key} {t : Ty} : (putT ps k t).length ≤ ps.length + 1 := by
  unfold putT
  split
  · rw [List.length_map]; omega
  · rw [List.length_append]; exact Nat.le_refl _
theorem foldPs_len {α : Type} {key : α → Key} {g : α → Ty} (xs : List α) : (foldPs key g xs).length ≤ xs.length := by
  suffices h : ∀ ps : List (Key × Ty), (xs.foldl (fun ps x => putT ps (key x) (g x)) ps).length ≤ ps.length + xs.length by
    have := h []
    simpa [foldPs] using this
  induction xs with
  | nil => intro ps; simp
  | cons x xs ih =>
    intro ps
    rw [List.foldl_cons, List.length_cons]
    have h1 := ih (putT ps (key x) (g x))
    have h2 := putT_len (ps := ps) (k := key x) (t := g x)
    omega
theorem putT_new {ps : List (Key × Ty)} {k : Key} {t : Ty} (h : ∀ q ∈ ps, q.1 ≠ k) : putT ps k t = ps ++ [(k, t)] := by
  unfold putT
  rw [if_neg]
  intro e
  obtain ⟨q, hq, e⟩ := List.any_eq_true.mp e
  exact h q hq (of_decide_eq_true e)
theorem foldPs_map {α : Type} {key : α → Key} {g : α → Ty} {xs : List α} (nd : (xs.map key).Nodup) : foldPs key g xs = xs.map fun x => (key x, g x) := by
  suffices h : ∀ (xs : List α) (ps : List (Key × Ty)), (xs.map key).Nodup → (∀ q ∈ ps, ∀ x ∈ xs, q.1 ≠ key x) → xs.foldl (fun ps x => putT ps (key x) (g x)) ps = ps ++ xs.map fun x => (key x, g x) by
    exact h xs [] nd fun q hq => nomatch hq
  intro xs
  induction xs with
  | nil => intro ps _ _; simp
  | cons x xs ih =>
    intro ps nd h
    obtain ⟨n1, n2⟩ := List.nodup_cons.mp nd
    rw [List.foldl_cons, putT_new fun q hq => h q hq x List.mem_cons_self, ih _ n2, List.append_assoc]
    · rfl
    · intro q hq y hy
      rcases List.mem_append.mp hq with a | a
      · exact h q a y (List.mem_cons_of_mem _ hy)
      · rw [List.mem_singleton] at a
        subst a
        intro e
        exact n1 (List.mem_map.mpr ⟨y, hy, e.symm⟩)
def DcAt {α : Type} (xs : List α) (p : α → Bool) (key : α → Key) (g : α → Ty) (B1 H1 : Hp) (D : Addr) (i : Nat) (H : Hp) : Prop :=
  ∃ (B : Hp) (acc : List (Key × V)), Nw nF B1 H1 B H ∧ B D = none ∧ ¬ Iv.F H D ∧ H D = some (.dK acc) ∧ DRel B (foldPs key g ((xs.take i).filter p)) acc
/-- {k: v for ..}, locked when it is made -/
theorem ev_dc {α : Type} {xs : List α} {τ : α → Ty} {p : α → Bool} {key : α → Key} {g : α → Ty} {u : α → Ctx → Ctx} {js : List Nat} {own : List (Str × Nat)} (hc : X.calm = true) (hN : X.N.Nodup) (ok : BlkOk X.N X.env.scope scope own)
    (hi : EvI X Γ tg it (xs.map τ)) (hjs : ∀ j ∈ js, j ∈ own.map (·.2)) (hlen : xs.length ≤ 100000)
    (hg : ∀ s H0 C cl fp x, x ∈ xs → Tgt (bX X scope s H0 C cl fp) tg (τ x) (u x) js) (ht : ∀ s H0 C cl fp x, x ∈ xs → EvTs (bX X scope s H0 C cl fp) (u x (wipeC Γ (own.map (·.2)))) ifs (p x))
    (hk : ∀ s H0 C cl fp x, x ∈ xs → p x = true → EvE (bX X scope s H0 C cl fp) (u x (wipeC Γ (own.map (·.2)))) kx (tV (kV (key x))))
    (he : ∀ s H0 C cl fp x, x ∈ xs → p x = true → EvE (bX X scope s H0 C cl fp) (u x (wipeC Γ (own.map (·.2)))) vx (g x)) (hs : ∀ x, foldedSetIterable it X.env x = pure x := by intro _; rfl) :
    EvE X Γ (.DictComp kx vx [⟨tg, it, ifs, 0⟩] scope pos) (tDK (foldPs key g (xs.filter p))) := fun σ B H so bh Q q =>
  ⟨_, pe_lockP (pe_dc hc hN pi_c ok pg_b pt_b pe_b pe_b hs), hi σ B H so bh _ fun J1 B1 H1 n1 src D hD => by
    have sw : SOk (wipeC Γ (own.map (·.2))) B1 (L2.wipe σ (own.map (·.2))) := (so.mono n1.bb).wipe _
    have nD := n1.bh.nf hD
    have hl : (xs.map τ).length = xs.length := List.length_map ..
    refine ⟨fun i m H => m = xs.length - i ∧ i ≤ xs.length ∧ DcAt xs p key g B1 H1 D i H, ⟨xs.length, rfl, Nat.zero_le _, B1, [], .new n1.bh hD, n1.bh.free hD, nfu n1.bh nD nD, upd_same, .nil⟩, ?_⟩
    rintro i m H2 ⟨rfl, hi2, B2, acc, n2, bD, fD, hD2, ta⟩
    by_cases hlt : i < xs.length
    · refine .inr ⟨src.goes i B2 H2 n2.bb n2.bh (by rw [hl]; exact hlt), DcAt xs p key g B1 H1 D (i + 1), fun H' p' => ⟨xs.length - (i + 1), by omega, rfl, hlt, p'⟩, fun v H3 y => ?_⟩
      have hx : xs[i]? = some xs[i] := by simp [hlt]
      have hm : xs[i] ∈ xs := List.getElem_mem hlt
      obtain ⟨B3, n3, tv⟩ := src.yld i (τ xs[i]) B2 H2 v H3 n2.bb n2.bh (by rw [List.getElem?_map, hx]; rfl) y
      have n23 := n2.trans n3
      intro s H0 C cl fp
      refine hg s H0 C cl fp xs[i] hm v _ B3 H3 _ _ (sw.mono n23.bb) n3.bh tv fun σ' s' l' k' => ⟨?_, ?_⟩
      · rw [wipe_congr (vs := own.map (·.2)) l' fun j hj => k' j fun z => hj (hjs j z), wipe_wipe]
      · intro s2 H02 C2 cl2 fp2
        refine ht s2 H02 C2 cl2 fp2 xs[i] hm σ' B3 H3 s' n3.bh _ fun B4 H4 n4 => ?_
        have n34 := n3.trans n4
        have n24 := n2.trans n34
        have hD4 : H4 D = some (.dK acc) := n34.keep _ _ fD hD2
        have bD4 : B4 D = none := n34.fr D _ bD hD2
        have fD4 : ¬ Iv.F H4 D := n34.nf _ _ fD hD2
        cases hp : p xs[i] with
        | false =>
          rw [if_neg (by decide)]
          refine ⟨B4, acc, n24, bD4, fD4, hD4, ?_⟩
          rw [take_succ' hx, List.filter_append]
          have e : [xs[i]].filter p = [] := by simp [hp]
          rw [e, List.append_nil]
          exact ta.mono n34.bb
        | true =>
          rw [if_pos rfl]
          intro s3 H03 C3 cl3 fp3
          refine hk s3 H03 C3 cl3 fp3 xs[i] hm hp σ' B4 H4 (s'.mono n4.bb) n4.bh _ fun y B5 H5 n5 ey => ?_
          intro s4 H04 C4 cl4 fp4
          refine he s4 H04 C4 cl4 fp4 xs[i] hm hp σ' B5 H5 (s'.mono (n4.trans n5).bb) n5.bh _ fun z B6 H6 n6 tz => ?_
          have n56 := n5.trans n6
          have hD6 : H6 D = some (.dK acc) := n56.keep _ _ fD4 hD4
          have bD6 : B6 D = none := n56.fr D _ bD4 hD4
          have fD6 : ¬ Iv.F H6 D := n56.nf _ _ fD4 hD4
          have la : acc.length < 100000 := by
            rw [ta.length]
            have h0 := foldPs_len (key := key) (g := g) ((xs.take i).filter p)
            have h1 := List.length_filter_le p (xs.take i)
            have h2 : (xs.take i).length ≤ i := List.length_take_le ..
            omega
          have e : [xs[i]].filter p = [xs[i]] := by simp [hp]
          refine ⟨acc, key xs[i], ey, hD6, lt5 la, B6, _, (n24.trans n56).write bD6 (.inr hD) fD6, bD6, nfu n6.bh fD6 fD6, upd_same, ?_⟩
          rw [take_succ' hx, List.filter_append, e, foldPs_snoc]
          exact (ta.mono (n34.trans n56).bb).put tz
    · have ei : i = xs.length := by omega
      subst ei
      refine .inl ⟨by rw [← hl]; exact src.stop B2 H2 n2.bb n2.bh, D, _, hD2, trivial, fun od => ?_⟩
      have f := n1.trans (n2.wlay (o := .frz od (.dK acc)) bD hD fD)
      rw [List.take_length] at ta
      exact q (.ref D) _ _ f ⟨D, acc, rfl, ⟨od, upd_same⟩, ta.mono (same_upd bD)⟩⟩
end
/-! ### walks over dicts -/
section
variable {X : Cx} {Γ : Ctx} {e : Expr} {ps : List (Key × Ty)}
theorem DRel.getI {κ : Type} {B : Hp} : ∀ {ps : List (κ × Ty)} {kvs : List (κ × V)} {i : Nat} {k : κ} {v : V}, DRel B ps kvs → kvs[i]? = some (k, v) → ∃ t, ps[i]? = some (k, t) ∧ t.p B v
  | _, _, _, _, _, .nil, h => by simp at h
  | _, _, 0, _, _, .cons a _, h => by
    simp at h
    obtain ⟨rfl, rfl⟩ := h
    exact ⟨_, rfl, a⟩
  | _, _, i + 1, _, _, .cons _ r, h => by
    obtain ⟨t, h1, h2⟩ := r.getI (i := i) (by simpa using h)
    exact ⟨t, by simpa using h1, h2⟩
theorem ei_keys {tg : Expr} (h : EvE X Γ e (tDK ps)) : EvI X Γ tg e (ps.map fun q => tV (kV q.1)) := fun σ B H s bh R q =>
  ⟨_, pi_keys pe_c, h σ B H s bh _ fun v B1 H1 n1 ⟨a, kvs, e1, ⟨od, e2⟩, r⟩ => by
    have hl : (ps.map fun q => tV (kV q.1)).length = kvs.length := by rw [List.length_map, r.length]
    refine ⟨a, od, e1, .inl ⟨kvs, n1.bh _ _ e2, q _ B1 H1 n1 ⟨fun i B2 H2 b1 b2 hi => ⟨b2 _ _ (b1 _ _ e2), by rw [← hl]; exact hi⟩, fun B2 H2 b1 b2 => ⟨b2 _ _ (b1 _ _ e2), Nat.le_of_eq hl.symm⟩, fun i t B2 H2 x H3 b1 b2 hi y => ?_⟩⟩⟩
    obtain ⟨eH, k, w, hk, ex⟩ := y
    obtain ⟨t', g1, _⟩ := r.getI hk
    rw [List.getElem?_map, g1] at hi
    cases hi
    rw [eH]
    exact ⟨B2, .refl b2, ex⟩⟩
theorem ei_items {elts : List Expr} {kk : Nat} {tpos apos cpos : Pos} (h : EvE X Γ e (tDK ps)) (hbase : attributeBase e "items" X.env (eval e X.env) = eval e X.env := by rfl) (hline : (apos.endLine == cpos.line) = true := by rfl) :
    EvI X Γ (.Tuple elts kk tpos) (.Call (.Attribute e "items" apos) [] [] cpos) (ps.map fun q => tT [tV (kV q.1), q.2]) := fun σ B H s bh R q =>
  ⟨_, pi_items pe_c hbase hline, h σ B H s bh _ fun v B1 H1 n1 ⟨a, kvs, e1, ⟨od, e2⟩, r⟩ => by
    have hl : (ps.map fun q => tT [tV (kV q.1), q.2]).length = kvs.length := by rw [List.length_map, r.length]
    refine ⟨a, od, kvs, e1, n1.bh _ _ e2, q _ B1 H1 n1 ⟨fun i B2 H2 b1 b2 hi => ⟨b2 _ _ (b1 _ _ e2), by rw [← hl]; exact hi⟩, fun B2 H2 b1 b2 => ⟨b2 _ _ (b1 _ _ e2), Nat.le_of_eq hl.symm⟩, fun i t B2 H2 x H3 b1 b2 hi y => ?_⟩⟩
    obtain ⟨T, k, w, hk, ex, hT, eH⟩ := y
    obtain ⟨t', g1, g2⟩ := r.getI hk
    rw [List.getElem?_map, g1] at hi
    cases hi
    subst eH ex
    have n : Nw nF B2 H2 (upd B2 T (.tup [kV k, w])) (upd H2 T (.tup [kV k, w])) := .lay b2 hT
    exact ⟨_, n, T, _, rfl, upd_same, .cons rfl (.one (t'.mono (b1.trans n.bb) g2))⟩⟩
end
/-! ### instances that are made -/
def oI (C dx : Addr) (fts : List (Str × Ty)) : OT := ⟨fun B o => ∃ fs, o = .ins C dx fs ∧ DRel B fts fs, fun h ⟨fs, e, r⟩ => ⟨fs, e, r.mono h⟩⟩
def tIns (C : Addr) (fts : List (Str × Ty)) : Ty := ⟨fun B v => ∃ a dx fs, v = .ref a ∧ B a = some (.ins C dx fs) ∧ DRel B fts fs, fun h ⟨a, dx, fs, e, i, r⟩ => ⟨a, dx, fs, e, h _ _ i, r.mono h⟩⟩
theorem DRel.putF {B : Hp} {f : Str} {t : Ty} {v : V} (h : t.p B v) : ∀ {fts : List (Str × Ty)} {fs : List (Str × V)}, DRel B fts fs → (∀ q ∈ fts, ¬ q.1 = f) → DRel B (fts ++ [(f, t)]) (L2.putF f v fs)
  | _, _, .nil, _ => .cons h .nil
  | _, _, .cons (k := k) a r, hn => by
    rw [putF_tl (hn (k, _) List.mem_cons_self)]
    exact .cons a (r.putF h fun q hq => hn q (List.mem_cons_of_mem _ hq))
theorem nall {fts : List (Str × Ty)} {f : Str} (h : (fts.all fun q => !decide (q.1 = f)) = true) : ∀ q ∈ fts, ¬ q.1 = f := fun q hq e => by
  have := List.all_eq_true.mp h q hq
  rw [decide_eq_true e] at this
  cases this
section
variable {X : Cx} {F : Addr → Prop} {B0 H0 Bg : Hp} {Γ : Ctx} {W W' : Cells} {σ : L2.St} {B H : Hp} {t : Ty} {x C dx : Addr} {fts : List (Str × Ty)} {f : Str} {o e : Expr} {rest : List Stmt} {D : Ends} {p1 pos : Pos}
/-- self.f = e, a new attribute -/
theorem rs_fld (a : At F B0 H0 Bg Γ W σ B H) (h : EvE X Γ e t) (ho : EvE X Γ o (tV (.ref x))) (hW : W.Perm ((x, oI C dx fts) :: W')) (c : Cls X.K C) (n : NoAttr X.K C f) (hl : fts.length + 1 ≤ 1000) (hf : (fts.all fun q => !decide (q.1 = f)) = true)
    (k : ∀ B' H', Same B B' → At F B0 H0 Bg Γ ((x, oI C dx (fts ++ [(f, t)])) :: W') σ B' H' → RS X rest D σ H') (hs : swapsWith e (some (.Attribute o f p1)) pos.line X.env = pure false := by rfl) : RS X (.Assign [.Attribute o f p1] e pos :: rest) D σ H :=
  rs_ps (ps_fld pe_c pe_c hs) (h σ B H a.s a.n.bh _ fun v B1 H1 n1 r1 => ho σ B1 H1 (a.s.mono n1.bb) n1.bh _ fun u B2 H2 n2 r2 => by
    have a2 := (a.step (n1.trans n2)).perm hW
    obtain ⟨_, _, ob, h3, fs, e3, r3⟩ := a2.cell
    subst e3
    exact ⟨x, C, dx, fs, r2, h3, c, n, by rw [r3.length]; exact hl, k B2 _ (n1.trans n2).bb (a2.wr (ot' := oI C dx (fts ++ [(f, t)])) ⟨_, rfl, r3.putF (t.mono n2.bb r1) (nall hf)⟩)⟩)
end
/-- __init__'s promise: the new instance at x, then its attributes -/
def spI {α : Type} (C : Addr) (args : α → List Ty) (pre : α → Prop) (fts : α → List (Str × Ty)) : Sp := fun vs H Q _ => ∃ (d : α) (B : Hp) (x dx : Addr) (ws : List V), vs = .ref x :: ws ∧ Sm B H ∧ H x = some (.ins C dx []) ∧ B x = none ∧ ¬ Iv.F H x ∧ pre d ∧ Tys B (args d) ws ∧
  ∀ B' H' fs, Nw (fun a => a = x) B H B' H' → B' x = none → ¬ Iv.F H' x → H' x = some (.ins C dx fs) → DRel B' (fts d) fs → Q .non H'
section
variable {P : Program} {w : World} {K : PySem.W.Frag} {mg : Str → Option Value} {base : Heap}
theorem ok_I {α : Type} {args : α → List Ty} {pre : α → Prop} {fts : α → List (Str × Ty)} {d : He.DefD} {k : Nat} {N ps : List Str} {fd : FuncData} {f C : Addr} {dvs : List V} {kws : List (Str × V)} (F : FunD K d.name d.qual d.params d.body d.scope dvs kws f fd) (S : FnScope N ps d.scope)
    (hl : ∀ a, (args a).length + 1 = ps.length) (hN : ps.length ≤ N.length)
    (body : ∀ (cdv : Value) (cd : PySem.W.codeIn K cdv d.qual = true) (A : Around) (outer : List Env) (s : Shared) (H0 : Hp) (E : XK) (a : α) (B0 : Hp) (x dx : Addr) (σ : L2.St) (D : Ends), Room k (A.deeper (envOfC d.qual d.scope s.heap.objs.size f cdv)) → pre a →
      At (fun b => b = x) B0 H0 B0 ((tV (.ref x) :: args a).map some ++ List.replicate (N.length - ((args a).length + 1)) none) [(x, oI C dx [])] σ B0 H0 → (∀ σ' Γ W B' H', At (fun b => b = x) B0 H0 B0 Γ ((x, oI C dx (fts a)) :: W) σ' B' H' → D.nx σ' H') →
      RS (cx0 P w K mg base N d f cdv A outer s H0 E) d.body D σ H0) : FnOk P w K mg base CX0 (k + 1) f fd ps (spI C args pre fts) := by
  obtain ⟨_, _, _, _, _, _, _, cdv, _, _, rfl, lk, hcd, _⟩ := F.ex
  refine fn_of lk hcd S (fun vs H Q E ⟨a, B, x, dx, ws, e, _, _, _, _, _, r, _⟩ => by rw [e, List.length_cons, r.length]; exact hl a) fun A outer s H vs Q E hr ⟨a, B, x, dx, ws, e, bh, hx, bx, fx, hp, r, q⟩ => ?_
  subst e
  have r2 : Tys B (tV (.ref x) :: args a) (.ref x :: ws) := .cons rfl r
  obtain ⟨t, h1, h2⟩ := body cdv hcd A outer s H E a B x dx (L2.start N (.ref x :: ws)) ⟨fun _ H' => Q .non H', Q, fun _ _ => False, fun _ _ => False⟩ hr hp
    ⟨sok_start N r2 (by rw [List.length_cons, hl a]; exact hN), .refl bh, Same.refl B, ⟨fun z hz => by
      rw [List.mem_singleton] at hz
      subst hz
      exact ⟨.inl rfl, ⟨bx, fx⟩, _, hx, [], rfl, .nil⟩, List.nodup_cons.mpr ⟨fun z => (nomatch z), List.nodup_nil⟩⟩⟩ fun σ' Γ W B' H' a' => by
      obtain ⟨_, b2, o, b3, fs, b4, b5⟩ := a'.cell
      subst b4
      exact q B' H' fs a'.n b2.1 b2.2 b3 b5
  exact ⟨t, h1.nox, h2⟩
end
/-- a class of the text by its name, made with arguments and keywords: what is handed on is bound so -/
theorem make_run {α : Type} {args : α → List Ty} {pre : α → Prop} {fts : α → List (Str × Ty)} {C : Addr} {B H : Hp} {d : α} {ws : List V} (bh : Sm B H) (hp : pre d) (r : Tys B (args d) ws) {Q : VK} (q : ∀ v B' H', Nw nF B H B' H' → (tIns C (fts d)).p B' v → Q v H') :
    ∀ x dx, H x = none → H dx = none → dx ≠ x → spI C args pre fts (.ref x :: ws) (upd (upd H dx (.own x)) x (.ins C dx [])) (fun v H2 => v = .non ∧ Q (.ref x) H2) fun _ _ _ => False := by
  intro x dx hx hdx ne
  have n1 : Nw nF B H B (upd H dx (.own x)) := .new bh hdx
  have hx1 : upd H dx (.own x) x = none := by rw [upd_ne (fun e => ne e.symm)]; exact hx
  have n2 : Nw nF B H B (upd (upd H dx (.own x)) x (.ins C dx [])) := n1.trans (.new n1.bh hx1)
  refine ⟨d, B, x, dx, ws, rfl, n2.bh, upd_same, bh.free hx, nfu n1.bh (n1.bh.nf hx1) (n1.bh.nf hx1), hp, r, fun B' H' fs n b f h r' => ⟨rfl, ?_⟩⟩
  have n3 : Nw nF B H B' H' := n2.transF n fun a e => .inr (by rw [e]; exact hx)
  exact q (.ref x) _ H' (n3.freeze b h hx f) ⟨x, dx, fs, rfl, upd_same, r'.mono (same_upd b)⟩
end Ls
set_option maxHeartbeats 4000000 -- Q2
/-! What is read while it may change; new cells; small operations. -/
namespace Ls
open PySem Spec PyProof.Rows L2
/-- nothing changes by itself -/
@[reducible] def Jb : Iv := ⟨fun _ _ => False, fun _ _ => True, fun _ z => z.elim, fun _ _ _ _ _ => trivial, fun _ _ _ z => z⟩
/-- the part laid for good, with the own cells as they are now -/
def fz (W : Cells) (B H : Hp) : Hp := fun a => match B a with
  | some o => some o
  | none => if a ∈ W.map (·.1) then H a else none
/-- .. without them -/
def uz (W : Cells) (B B' : Hp) : Hp := fun a => if B a = none ∧ a ∈ W.map (·.1) then none else B' a
theorem fz_same {W : Cells} {B H : Hp} : Same B (fz W B H) := fun a o e => by unfold fz; rw [e]
theorem fz_in {W : Cells} {B H : Hp} {a : Addr} (h : a ∈ W.map (·.1)) (e : B a = none) : fz W B H a = H a := by unfold fz; rw [e]; exact if_pos h
theorem uz_same {W : Cells} {B B' : Hp} (h : Same B B') : Same B (uz W B B') := fun a o e => by
  unfold uz
  rw [if_neg (fun z => by rw [e] at z; cases z.1)]
  exact h _ _ e
theorem uz_sub {W : Cells} {B B' : Hp} : Same (uz W B B') B' := fun a o e => by
  unfold uz at e
  split at e
  · cases e
  · exact e
/-- a type that stays true when the cells W are left out -/
def Cl (W : Cells) (B B' : Hp) (t : Ty) : Prop := ∀ v, t.p B' v → t.p (uz W B B') v
theorem cl_V {W : Cells} {B B' : Hp} {x : V} : Cl W B B' (tV x) := fun _ h => h
theorem cl_E {α : Type} {p : α → Prop} {f : α → Ty} {W : Cells} {B B' : Hp} (h : ∀ x, p x → Cl W B B' (f x)) : Cl W B B' (tE p f) := fun v ⟨x, a, r⟩ => ⟨x, a, h x a v r⟩
section
variable [J : Iv]
theorem Nw.pure {B Bs H B' H' : Hp} {W : Cells} (bh : Sm B H) (n : @Nw Jb nF Bs H B' H') (hs : Same B Bs) (hb : Bs = fz W B H) : Nw nF B H (uz W B B') H' := by
  have hh : ∀ a o, H a = some o → H' a = some o := fun a o e => @Nw.hh Jb _ _ _ _ _ n a o (fun z => z) (fun z => z) e
  have b1 : Same B (uz W B B') := uz_same (hs.trans (@Nw.bb Jb _ _ _ _ _ n))
  have b2 : Same (uz W B B') H' := uz_sub.trans (@Sm.s Jb _ _ (@Nw.bh Jb _ _ _ _ _ n))
  have hf : ∀ a, Iv.F H a → H' a = H a := fun a hf => by
    obtain ⟨_, o, e⟩ := Iv.al bh.i hf
    rw [e, hh a o e]
  refine ⟨b1, ⟨b2, Iv.st bh.i b1 b2 hf fun a h => ?_⟩, fun a o _ _ e => hh a o e, fun a o m _ z => m (Iv.fs bh.i hf a z), fun a o e => ⟨o, hh a o e⟩, fun a o e1 e2 => ?_⟩
  · have hbn := (Iv.al bh.i h).1
    obtain ⟨_, o, e⟩ := Iv.al bh.i h
    by_cases hw : a ∈ W.map (·.1)
    · unfold uz
      rw [if_pos ⟨hbn, hw⟩]
    · unfold uz
      rw [if_neg fun z => hw z.2]
      have hsn : Bs a = none := by
        rw [hb]
        unfold fz
        rw [hbn]
        exact if_neg hw
      exact @Nw.fr Jb _ _ _ _ _ n a o hsn e
  · by_cases hw : a ∈ W.map (·.1)
    · unfold uz
      rw [if_pos ⟨e1, hw⟩]
    · unfold uz
      rw [if_neg fun z => hw z.2]
      have hsn : Bs a = none := by
        rw [hb]
        unfold fz
        rw [e1]
        exact if_neg hw
      exact @Nw.fr Jb _ _ _ _ _ n a o hsn e2
variable {X : Cx} {F : Addr → Prop} {B0 H0 Bg : Hp} {Γ Γs : Ctx} {W : Cells} {σ : L2.St} {B H : Hp} {t : Ty} {e c : Expr}
theorem At.fzs (a : At F B0 H0 Bg Γ W σ B H) : Same (fz W B H) H := fun x o e => by
  unfold fz at e
  split at e
  · rename_i u h
    cases e
    exact a.n.bh _ _ h
  · split at e
    · exact e
    · cases e
/-- the cell l, read now -/
theorem At.fzl (a : At F B0 H0 Bg Γ W σ B H) {l : Addr} {ot : OT} (h : (l, ot) ∈ W) : ∃ o, fz W B H l = some o ∧ ot.p (fz W B H) o := by
  obtain ⟨_, h2, o, h3, h4⟩ := a.o.each _ h
  exact ⟨o, by rw [fz_in (List.mem_map.mpr ⟨_, h, rfl⟩) h2.1]; exact h3, ot.mono fz_same h4⟩
/-- an expression that reads what may change, and changes nothing -/
theorem ev_pure (a : At F B0 H0 Bg Γ W σ B H) (s : SOk Γs (fz W B H) σ) (h : @EvE Jb X Γs e t) (cl : ∀ B', Same (fz W B H) B' → Cl W B B' t) {Q : VK}
    (q : ∀ v B' H', Nw nF B H B' H' → At F B0 H0 Bg Γ W σ B' H' → t.p B' v → Q v H') : RE X e σ H Q :=
  h σ (fz W B H) H s (@Sm.mk Jb _ _ a.fzs trivial) Q fun v B' H' n r => by
    have n2 := Nw.pure (J := J) a.n.bh n fz_same rfl
    exact q v _ H' n2 (a.step n2) (cl B' (@Nw.bb Jb _ _ _ _ _ n) v r)
theorem et_pure {k : Bool} (a : At F B0 H0 Bg Γ W σ B H) (s : SOk Γs (fz W B H) σ) (h : @EvT Jb X Γs e k) {Q : Bool → Hp → Prop}
    (q : ∀ B' H', Nw nF B H B' H' → At F B0 H0 Bg Γ W σ B' H' → Q k H') : RT X e σ H Q :=
  h σ (fz W B H) H s (@Sm.mk Jb _ _ a.fzs trivial) Q fun B' H' n => by
    have n2 := Nw.pure (J := J) a.n.bh n fz_same rfl
    exact q _ H' n2 (a.step n2)
/-- .. as a judgement at a state -/
def EvS (X : Cx) (F : Addr → Prop) (B0 H0 Bg : Hp) (Γ : Ctx) (W : Cells) (σ : L2.St) (B H : Hp) (e : Expr) (t : Ty) : Prop := ∀ Q : VK, (∀ v B' H', Nw nF B H B' H' → At F B0 H0 Bg Γ W σ B' H' → t.p B' v → Q v H') → RE X e σ H Q
theorem EvE.s (a : At F B0 H0 Bg Γ W σ B H) (h : EvE X Γ e t) : EvS X F B0 H0 Bg Γ W σ B H e t := fun Q q => h σ B H a.s a.n.bh Q fun v B' H' n r => q v B' H' n (a.step n) r
section
variable {rest thn els : List Stmt} {D : Ends} {i : Nat} {x : Str} {pos p1 : Pos} {l : Addr} {ot : OT}
theorem rs_setS (a : At F B0 H0 Bg Γ W σ B H) (h : EvS X F B0 H0 Bg Γ W σ B H e t) (hN : X.N.Nodup) (hi : X.N[i]? = some x) (hx : Loc X.env.scope x) (k : ∀ σ' B' H', Same B B' → At F B0 H0 Bg (Γ.set i (some t)) W σ' B' H' → RS X rest D σ' H')
    (hs : swapsWith e (some (.Name x p1)) pos.line X.env = pure false := by rfl) (hf : X.fn x = true ∨ X.env.scope.names.lookup x = some .local := by first | exact .inl rfl | exact .inr rfl) : RS X (.Assign [.Name x p1] e pos :: rest) D σ H :=
  rs_ps (ps_set hN hi hx pe_c hs hf) (h _ fun v B1 H1 n1 a1 r1 => k _ B1 H1 n1.bb (a1.set i r1))
theorem rs_retS (_a : At F B0 H0 Bg Γ W σ B H) (h : EvS X F B0 H0 Bg Γ W σ B H e t) (k : ∀ v B' H', Same B B' → At F B0 H0 Bg Γ W σ B' H' → t.p B' v → D.rt v H') : RS X (.Return (some e) pos :: rest) D σ H :=
  rs_ps (ps_ret pe_c) (h _ fun v B1 H1 n1 a1 r1 => k v B1 H1 n1.bb a1 r1)
theorem rs_ifS {b : Bool} (a : At F B0 H0 Bg Γ W σ B H) (s : SOk Γs (fz W B H) σ) (h : @EvT Jb X Γs c b) (k1 : b = true → ∀ B' H', Same B B' → At F B0 H0 Bg Γ W σ B' H' → RS X thn { D with nx := fun σ' H' => RS X rest D σ' H' } σ H')
    (k2 : b = false → ∀ B' H', Same B B' → At F B0 H0 Bg Γ W σ B' H' → RS X els { D with nx := fun σ' H' => RS X rest D σ' H' } σ H') : RS X (.If c thn els pos :: rest) D σ H :=
  rs_ps (ps_if pt_c pss_c pss_c) (et_pure a s h fun B1 H1 n1 a1 => by
    cases b with
    | true => exact k1 rfl B1 H1 n1.bb a1
    | false => exact k2 rfl B1 H1 n1.bb a1)
/-- a cell that is new -/
theorem At.addc (a : At F B0 H0 Bg Γ W σ B H) {B' H' : Hp} (n : Nw nF B H B' H') (b : B' l = none) (f : ¬ Iv.F H' l) (h : H l = none) (o : ∃ o, H' l = some o ∧ ot.p B' o) : At F B0 H0 Bg Γ ((l, ot) :: W) σ B' H' := by
  have a' := a.step n
  refine ⟨a'.s, a'.n, a'.g, fun q hq => ?_, List.nodup_cons.mpr ⟨fun z => ?_, a.o.apart⟩⟩
  · rcases List.mem_cons.mp hq with e | hq
    · subst e
      exact ⟨.inr (a.n.fresh h), ⟨b, f⟩, o⟩
    · exact a'.o.each q hq
  · obtain ⟨q, hq, e⟩ := List.mem_map.mp z
    have e : q.1 = l := e
    obtain ⟨_, _, u, h3, _⟩ := a.o.each q hq
    rw [e, h] at h3
    cases h3
/-- an expression that makes a cell -/
def EvN (X : Cx) (Γ : Ctx) (e : Expr) (ot : OT) : Prop := ∀ (σ : L2.St) (B H : Hp), SOk Γ B σ → Sm B H → ∀ Q : VK, (∀ l B' H', Nw nF B H B' H' → B' l = none → ¬ Iv.F H' l → H l = none → (∃ o, H' l = some o ∧ ot.p B' o) → Q (.ref l) H') → RE X e σ H Q
theorem en_lst {es : List Expr} {ts : List Ty} (h : EvA X Γ es ts) (hl : ts.length ≤ 100000 := by exact Nat.le_of_ble_eq_true rfl) : EvN X Γ (.List es pos) (oL ts) := fun σ B H s bh Q q =>
  ⟨_, pe_lst pa_c, h σ B H s bh _ fun vs B1 H1 n1 r1 => ⟨by rw [r1.length]; exact sz5 hl, fun l hl => q l B1 _ (n1.trans (.new n1.bh hl)) (n1.bh.free hl) (nfu n1.bh (n1.bh.nf hl) (n1.bh.nf hl)) (n1.fresh hl) ⟨_, upd_same, vs, rfl, r1⟩⟩⟩
theorem rs_setN (a : At F B0 H0 Bg Γ W σ B H) (h : EvN X Γ e ot) (hN : X.N.Nodup) (hi : X.N[i]? = some x) (hx : Loc X.env.scope x) (k : ∀ l σ' B' H', Same B B' → H0 l = none → At F B0 H0 Bg (Γ.set i (some (tV (.ref l)))) ((l, ot) :: W) σ' B' H' → RS X rest D σ' H')
    (hs : swapsWith e (some (.Name x p1)) pos.line X.env = pure false := by rfl) (hf : X.fn x = true ∨ X.env.scope.names.lookup x = some .local := by first | exact .inl rfl | exact .inr rfl) : RS X (.Assign [.Name x p1] e pos :: rest) D σ H :=
  rs_ps (ps_set hN hi hx pe_c hs hf) (h σ B H a.s a.n.bh _ fun l B1 H1 n1 b f hl o => k l _ B1 H1 n1.bb (a.n.fresh hl) ((a.addc n1 b f hl o).set i rfl))
/-- x, y = e, b: the first one makes a cell -/
theorem rs_parN1 {ts2 : Ty} {j : Nat} {y : Str} {b : Expr} {px py pt pt2 : Pos} {kt k2 : Nat} (st : At F B0 H0 Bg Γ W σ B H) (h1 : EvN X Γ e ot) (h2 : EvE X Γ b ts2) (hc : X.calm = true) (hN : X.N.Nodup) (hi : X.N[i]? = some x) (hj : X.N[j]? = some y) (hij : i ≠ j)
    (hx : X.env.scope.names.lookup x = some .local) (hy : X.env.scope.names.lookup y = some .local) (k : ∀ l σ' B' H', Same B B' → H0 l = none → At F B0 H0 Bg ((Γ.set i (some (tV (.ref l)))).set j (some ts2)) ((l, ot) :: W) σ' B' H' → RS X rest D σ' H')
    (hw : swappedStores [.Tuple [.Name x px, .Name y py] kt pt] (.Tuple [e, b] k2 pt2) X.env = pure (some [x, y]) := by rfl) (hs : swapsWithSole [.Tuple [.Name x px, .Name y py] kt pt] (.Tuple [e, b] k2 pt2) pos.line X.env = pure false := by rfl)
    (s1 : starEach [e, b] X.env = (false, eval e X.env) :: starEach [b] X.env := by rfl) (s2 : starEach [b] X.env = (false, eval b X.env) :: starEach [] X.env := by rfl) :
    RS X (.Assign [.Tuple [.Name x px, .Name y py] kt pt] (.Tuple [e, b] k2 pt2) pos :: rest) D σ H :=
  rs_ps (ps_par hc hN hi hj hij hx hy (pa_cons pe_c (pa_cons pe_c pa_nil s2) s1) hw hs) (h1 σ B H st.s st.n.bh _ fun l B1 H1 n1 bl f hl o => by
    have a1 := st.addc n1 bl f hl o
    exact h2 σ B1 H1 a1.s a1.n.bh _ fun v B2 H2 n2 r2 => ⟨_, _, rfl, k l _ B2 H2 (n1.trans n2).bb (st.n.fresh hl) (((a1.step n2).set i (t := tV (.ref l)) rfl).set j r2)⟩)
theorem rs_parN2 {ts1 : Ty} {j : Nat} {y : Str} {b : Expr} {px py pt pt2 : Pos} {kt k2 : Nat} (st : At F B0 H0 Bg Γ W σ B H) (h1 : EvE X Γ b ts1) (h2 : EvN X Γ e ot) (hc : X.calm = true) (hN : X.N.Nodup) (hi : X.N[i]? = some x) (hj : X.N[j]? = some y) (hij : i ≠ j)
    (hx : X.env.scope.names.lookup x = some .local) (hy : X.env.scope.names.lookup y = some .local) (k : ∀ l σ' B' H', Same B B' → H0 l = none → At F B0 H0 Bg ((Γ.set i (some ts1)).set j (some (tV (.ref l)))) ((l, ot) :: W) σ' B' H' → RS X rest D σ' H')
    (hw : swappedStores [.Tuple [.Name x px, .Name y py] kt pt] (.Tuple [b, e] k2 pt2) X.env = pure (some [x, y]) := by rfl) (hs : swapsWithSole [.Tuple [.Name x px, .Name y py] kt pt] (.Tuple [b, e] k2 pt2) pos.line X.env = pure false := by rfl)
    (s1 : starEach [b, e] X.env = (false, eval b X.env) :: starEach [e] X.env := by rfl) (s2 : starEach [e] X.env = (false, eval e X.env) :: starEach [] X.env := by rfl) :
    RS X (.Assign [.Tuple [.Name x px, .Name y py] kt pt] (.Tuple [b, e] k2 pt2) pos :: rest) D σ H :=
  rs_ps (ps_par hc hN hi hj hij hx hy (pa_cons pe_c (pa_cons pe_c pa_nil s2) s1) hw hs) (h1 σ B H st.s st.n.bh _ fun v B1 H1 n1 r1 => by
    have a1 := st.step n1
    exact h2 σ B1 H1 a1.s a1.n.bh _ fun l B2 H2 n2 bl f hl o => ⟨_, _, rfl, k l _ B2 H2 (n1.trans n2).bb (a1.n.fresh hl) (((a1.addc n2 bl f hl o).set i (ts1.mono n2.bb r1)).set j (t := tV (.ref l)) rfl)⟩)
/-- x += e, numbers -/
theorem rs_addI {m n : Int} (a : At F B0 H0 Bg Γ W σ B H) (hx0 : Γ[i]? = some (some (tI m))) (h : EvE X Γ e (tI n)) (hN : X.N.Nodup) (hi : X.N[i]? = some x) (hx : Loc X.env.scope x) (k : ∀ σ' B' H', Same B B' → At F B0 H0 Bg (Γ.set i (some (tI (m + n)))) W σ' B' H' → RS X rest D σ' H')
    (hf : X.fn x = true ∨ X.env.scope.names.lookup x = some .local := by first | exact .inl rfl | exact .inr rfl) : RS X (.AugAssign (.Name x p1) .Add e pos :: rest) D σ H :=
  rs_ps (ps_aug hN hi hx pe_c ip_add hf) (let ⟨v, e1, e2⟩ := a.s.2 i _ hx0; ⟨v, e1, h σ B H a.s a.n.bh _ fun u B1 H1 n1 r1 => ⟨m, n, e2, r1, k _ B1 H1 n1.bb ((a.step n1).set i rfl)⟩⟩)
end
end
/-! ### operations -/
section
variable [J : Iv] {X : Cx} {Γ : Ctx} {e a b : Expr} {t : Ty} {ts us : List Ty} {pos : Pos} {K : PySem.W.Frag} {rest : List Expr}
def rIsN : R2 := fun x y H Q => y = .non ∧ Q (.bl (decide (x = .non))) H
def rNotN : R2 := fun x y H Q => y = .non ∧ Q (.bl (!decide (x = .non))) H
theorem oq_isN : OpR X (compareOp .Is) rIsN := op_isN
theorem oq_notN : OpR X (compareOp .IsNot) rNotN := op_notN
theorem bin_isN {x : V} : Bin rIsN (tV x) tNone (tB (decide (x = .non))) := fun u v B H Q bh hu hv q => by
  cases hu
  cases hv
  exact ⟨rfl, q _ B H (.refl bh) rfl⟩
theorem bin_notN {x : V} : Bin rNotN (tV x) tNone (tB (!decide (x = .non))) := fun u v B H Q bh hu hv q => by
  cases hu
  cases hv
  exact ⟨rfl, q _ B H (.refl bh) rfl⟩
/-- what is an object is not None -/
def IsR (t : Ty) : Prop := ∀ B v, t.p B v → ∃ a, v = .ref a
theorem isR_L : IsR (tL ts) := fun B v ⟨a, _, e, _⟩ => ⟨a, e⟩
theorem isR_T : IsR (tT ts) := fun B v ⟨a, _, e, _⟩ => ⟨a, e⟩
theorem isR_D {ps : List (Key × Ty)} : IsR (tDK ps) := fun B v ⟨a, _, e, _⟩ => ⟨a, e⟩
theorem bin_isNR (h : IsR t) : Bin rIsN t tNone (tB false) := fun u v B H Q bh hu hv q => by
  obtain ⟨a, rfl⟩ := h B u hu
  cases hv
  exact ⟨rfl, q _ B H (.refl bh) (by rw [decide_eq_false (fun e => nomatch e)]; rfl)⟩
theorem bin_notNR (h : IsR t) : Bin rNotN t tNone (tB true) := fun u v B H Q bh hu hv q => by
  obtain ⟨a, rfl⟩ := h B u hu
  cases hv
  exact ⟨rfl, q _ B H (.refl bh) (by rw [decide_eq_false (fun e => nomatch e)]; rfl)⟩
theorem isTy_dK {ps : List (Key × Ty)} : IsTy K (tDK ps) "dict" := fun B v ⟨a, kvs, e, ⟨od, h⟩, _⟩ H bh => by
  subst e
  exact .fDict (bh _ _ h)
theorem cb_tuple : Cb (fun xs H Q => ∃ p ys, xs = [.ref p] ∧ ((SqL K H p ys ∧ ∀ l, H l = none → Q (.ref l) (upd H l (.tup ys))) ∨ (SqT K H p ys ∧ Q (.ref p) H))) [tL ts] (tT ts) := fun vs B H Q bh r q => by
  cases r with
  | cons r1 r0 =>
    cases r0
    obtain ⟨a, xs, e, h, r⟩ := r1
    subst e
    exact ⟨a, xs, rfl, .inl ⟨.of (bh _ _ h), fun l hl => q _ _ _ (.lay bh hl) ⟨l, xs, rfl, upd_same, r.mono (Nw.lay (F := nF) (o := .tup xs) bh hl).bb⟩⟩⟩
/-- max, min of numbers -/
theorem cb_max {ns : List Int} {m : Int} (h0 : 0 < ns.length) (hm : m ∈ ns) (hle : ∀ y ∈ ns, y ≤ m) : Cb (rMax K) [tL (ns.map tI)] (tI m) := fun vs B H Q bh r q => by
  cases r with
  | cons r1 r0 =>
    cases r0
    obtain ⟨a, xs, e, h, r⟩ := r1
    subst e
    rw [tys_ints r] at h
    refine ⟨a, ns, rfl, .of (bh _ _ h), h0, fun k hk hk2 => q _ B H (.refl bh) ?_⟩
    have e : k = m := Int.le_antisymm (hle k hk) (hk2 m hm)
    rw [e]
    rfl
theorem cb_min {ns : List Int} {m : Int} (h0 : 0 < ns.length) (hm : m ∈ ns) (hle : ∀ y ∈ ns, m ≤ y) : Cb (rMin K) [tL (ns.map tI)] (tI m) := fun vs B H Q bh r q => by
  cases r with
  | cons r1 r0 =>
    cases r0
    obtain ⟨a, xs, e, h, r⟩ := r1
    subst e
    rw [tys_ints r] at h
    refine ⟨a, ns, rfl, .of (bh _ _ h), h0, fun k hk hk2 => q _ B H (.refl bh) ?_⟩
    have e : k = m := Int.le_antisymm (hk2 m hm) (hle k hk)
    rw [e]
    rfl
theorem bin_cat (hl : ts.length + us.length ≤ 100000) : Bin rCat (tL ts) (tL us) (tL (ts ++ us)) := fun u v B H Q bh ⟨a, xs, e1, h1, r1⟩ ⟨b, ys, e2, h2, r2⟩ q => by
  subst e1 e2
  exact ⟨a, b, xs, ys, rfl, rfl, bh _ _ h1, bh _ _ h2, by rw [r1.length, r2.length]; exact sz5 hl, fun p hp => q _ _ _ (.lay bh hp) ⟨p, _, rfl, upd_same, (r1.append r2).mono (Nw.lay (F := nF) (o := .lst (xs ++ ys)) bh hp).bb⟩⟩
theorem ev_neg {i : Int} (h : EvE X Γ e (tI i)) : EvE X Γ (.UnaryOp .USub e pos) (tI (-i)) := fun σ B H s bh Q q => ⟨_, pe_un un_neg pe_c, h σ B H s bh _ fun v B1 H1 n1 r1 => ⟨i, r1, q _ B1 H1 n1 rfl⟩⟩
/-- the last item -/
theorem bin_last {i : Int} (hi : i = -1) (h : ts.getLast? = some t) : Bin (rIxL K) (tL ts) (tI i) t := fun u v B H Q bh ⟨a, vs, e, ea, r⟩ hv q => by
  subst hi
  have hl := r.length
  rw [List.getLast?_eq_getElem?] at h
  obtain ⟨w, e1, e2⟩ := r.get h
  have hlt : ts.length - 1 < ts.length := (List.getElem?_eq_some_iff.mp h).1
  refine ⟨a, vs, -1, w, e, hv, .of (bh _ _ ea), ?_, q w B H (.refl bh) e2⟩
  unfold atI ixN
  rw [if_neg (by decide), if_pos (by omega)]
  have e3 : (((vs.length : Int) + -1).toNat) = ts.length - 1 := by omega
  first
    | (rw [Option.bind_some, e3]; exact e1)
    | (rw [Option.bind_some]; show vs[_]? = _; rw [show ((-1 : Int) + (vs.length : Int)).toNat = ts.length - 1 by omega]; exact e1)
theorem cb_int {i : Int} : Cb (fun xs H Q => (∃ i, xs = [V.int i] ∧ Q (.int i) H) ∨ ∃ k, xs = [V.bl k] ∧ Q (.int (if k then 1 else 0)) H) [tI i] (tI i) := fun vs B H Q bh r q => by
  cases r with
  | cons r1 r0 =>
    cases r0
    cases r1
    exact .inl ⟨i, rfl, q _ B H (.refl bh) rfl⟩
theorem cb_abs {i : Int} : Cb (fun xs H Q => ∃ i, xs = [V.int i] ∧ Q (.int (if i < 0 then -i else i)) H) [tI i] (tI (if i < 0 then -i else i)) := fun vs B H Q bh r q => by
  cases r with
  | cons r1 r0 =>
    cases r0
    cases r1
    exact ⟨i, rfl, q _ B H (.refl bh) rfl⟩
/-- two sorted lists of the same members, each once -/
theorem sort_uniq {xs ys : List Int} (p : ys.Perm xs) (s : ys.Pairwise (· ≤ ·)) (h : xs.Pairwise (· < ·)) : ys = xs :=
  List.Perm.eq_of_pairwise (le := (· ≤ ·)) (fun a b _ _ h1 h2 => Int.le_antisymm h1 h2) s (h.imp fun h => Int.le_of_lt h) p
theorem cb_sortedDI {kvs : List (Int × Ty)} (hk : (kvs.map (·.1)).Pairwise (· < ·)) (hl : kvs.length < 64) : Cb (fun xs H Q => ∃ (a : Addr) (kvs : List (Key × V)) (ks : List Int), xs = [.ref a] ∧ Rd H a (.dK kvs) ∧ kvs.map (·.1) = ks.map Sum.inl ∧ ks.length < 64 ∧
    ∀ (ys : List Int) (p : Addr), ys.Perm ks → ys.Pairwise (· ≤ ·) → H p = none → Q (.ref p) (upd H p (.lst (ys.map V.int)))) [tDK (kvs.map fun q => (.inl q.1, q.2))] (tL ((kvs.map (·.1)).map tI)) := fun vs B H Q bh r q => by
  cases r with
  | cons r1 r0 =>
    cases r0
    obtain ⟨a, ps, e, h, r⟩ := r1
    subst e
    have hkeys : ∀ {qs : List (Key × Ty)} {ps : List (Key × V)}, DRel B qs ps → ps.map (·.1) = qs.map (·.1) := fun {qs ps} r => by
      induction r with
      | nil => rfl
      | cons a r ih => rw [List.map_cons, List.map_cons, ih]
    refine ⟨a, ps, kvs.map (·.1), rfl, h.rd bh, ?_, by rw [List.length_map]; exact hl, fun ys p hp hs hn => ?_⟩
    · rw [hkeys r, List.map_map, List.map_map]
      rfl
    · rw [sort_uniq hp hs hk]
      exact q _ _ _ (.lay bh hn) ⟨p, _, rfl, upd_same, ints_tys⟩
end
end Ls
set_option maxHeartbeats 4000000 -- Q3
/-! Rules at a state: loops, own attributes; dict displays; while. -/
namespace Ls
open PySem Spec PyProof.Rows L2
section
variable [J : Iv] {X : Cx} {F : Addr → Prop} {B0 H0 Bg : Hp} {Γ Γs : Ctx} {W W' : Cells} {σ : L2.St} {B H : Hp} {t : Ty} {ts us : List Ty} {e c o : Expr} {rest body thn els : List Stmt} {D : Ends} {i : Nat} {x f : Str} {pos p p1 p2 : Pos} {l xa C dx : Addr} {ot : OT} {fts : List (Str × Ty)}
theorem At.cs (a : At F B0 H0 Bg Γ W σ B H) (e : W = W') : At F B0 H0 Bg Γ W' σ B H := e ▸ a
theorem At.gs {Γ' : Ctx} (a : At F B0 H0 Bg Γ W σ B H) (e : Γ = Γ') : At F B0 H0 Bg Γ' W σ B H := e ▸ a
def EvIS (X : Cx) (σ : L2.St) (B H : Hp) (tg e : Expr) (ts : List Ty) : Prop := ∀ R : It → Hp → Prop, (∀ J B' H', Nw nF B H B' H' → Src J B' ts → R J H') → RI X tg e σ H R
theorem EvI.s {tg : Expr} (a : At F B0 H0 Bg Γ W σ B H) (h : EvI X Γ tg e ts) : EvIS X σ B H tg e ts := fun R q => h σ B H a.s a.n.bh R q
theorem eis_list {tg : Expr} (h : EvS X F B0 H0 Bg Γ W σ B H e (tL ts)) : EvIS X σ B H tg e ts := fun R q =>
  ⟨_, pi_list pe_c, h _ fun v B1 H1 n1 a1 ⟨a, vs, ev, ea, r⟩ => ⟨a, ev, ⟨vs, .of (n1.bh _ _ ea)⟩, q _ B1 H1 n1 (src_list ea r)⟩⟩
theorem eis_enum {elts : List Expr} {kk : Nat} {tpos : Pos} (hg : Gl X "enumerate") (hm : X.mg "enumerate" = none) (h : EvS X F B0 H0 Bg Γ W σ B H e (tL ts)) (hs : starEach [e] X.env = [(false, eval e X.env)] := by rfl) :
    EvIS X σ B H (.Tuple elts kk tpos) (.Call (.Name "enumerate" p) [e] [] pos) (enTys ts) := fun R q =>
  ⟨_, pi_enum hg hm (pa_cons pe_c pa_nil (by exact hs)) hs, h _ fun v B1 H1 n1 a1 ⟨a, xs, e1, ea, r2⟩ => by
      subst e1
      exact ⟨a, xs, rfl, .of (n1.bh _ _ ea), q _ B1 H1 n1 (src_enum ea r2)⟩⟩
/-- a written tuple of the module -/
theorem ei_K {tg : Expr} {g : Addr} {vs : List V} (hg : ∀ H, SqT X.K H g vs) (hv : ∀ B, Tys B ts vs) (he : EvE X Γ e (tV (.ref g))) : EvI X Γ tg e ts := fun σ B H s bh R q =>
  ⟨_, pi_tup pe_c, he σ B H s bh _ fun v B1 H1 n1 e1 => ⟨g, e1, ⟨vs, hg H1⟩, q _ B1 H1 n1 ⟨fun i B2 H2 b1 b2 hi => by
      have hl : i < vs.length := by rw [(hv B2).length]; exact hi
      exact ⟨vs, vs[i], hg H2, by simp [hl]⟩, fun B2 H2 b1 b2 => ⟨vs, hg H2, Nat.le_of_eq (hv B2).length⟩, fun i t B2 H2 x H3 b1 b2 hi y => by
      obtain ⟨e, y⟩ := y
      subst e
      obtain ⟨t', g1, g2⟩ := (hv B2).getV (y vs (hg _))
      rw [hi] at g1
      cases g1
      exact ⟨B2, .refl b2, g2⟩⟩⟩⟩
theorem rs_forS {α : Type} {xs : List α} {τ : α → Ty} {u : α → Ctx → Ctx} {js : List Nat} {tg it : Expr} (a : At F B0 H0 Bg Γ W σ B H) (hc : X.calm = true) (hi : EvIS X σ B H tg it (xs.map τ)) (ht : ∀ x, x ∈ xs → Tgt X tg (τ x) (u x) js)
    (I : Nat → Ctx → Cells → Prop) (h0 : I 0 Γ W)
    (turn : ∀ (B1 : Hp), Same B B1 → ∀ (i : Nat) (x : α) (Γ1 : Ctx) (W1 : Cells) (σ1 : L2.St) (B2 H2 : Hp), xs[i]? = some x → I i Γ1 W1 → At F B0 H0 B1 (u x Γ1) W1 σ1 B2 H2 →
      RS X body ⟨fun σ' H' => ∃ Γ2 W2 B', I (i + 1) Γ2 W2 ∧ At F B0 H0 B1 Γ2 W2 σ' B' H', D.rt, fun σ' H' => RS X rest D σ' H', fun σ' H' => ∃ Γ2 W2 B', I (i + 1) Γ2 W2 ∧ At F B0 H0 B1 Γ2 W2 σ' B' H'⟩ σ1 H2)
    (done : ∀ (Γ1 : Ctx) (W1 : Cells) (σ1 : L2.St) (B1 H1 : Hp), Same B B1 → I xs.length Γ1 W1 → At F B0 H0 Bg Γ1 W1 σ1 B1 H1 → RS X rest D σ1 H1)
    (hp : PassesOwn (model X.prog X.w) X.A X.env X.xe := by exact PassesOwn.never) (hs : ∀ x, foldedSetIterable it X.env x = pure x := by intro _; rfl) : RS X (.For tg it body [] pos :: rest) D σ H :=
  rs_ps (ps_for hp hc pi_c pg_c pss_c hs) (hi _ fun J B1 H1 n1 src => by
    have hl : (xs.map τ).length = xs.length := List.length_map ..
    have w : Walk J xs.length (fun H => ∃ B2, Same B1 B2 ∧ Sm B2 H) J.yld := ⟨fun i H hi ⟨B2, b1, b2⟩ => src.goes i B2 H b1 b2 (by rw [hl]; exact hi), fun H ⟨B2, b1, b2⟩ => by rw [← hl]; exact src.stop B2 H b1 b2, fun i H x H' _ _ y => y⟩
    refine for_it w (fun i σ' H' => ∃ Γ2 W2 B', I i Γ2 W2 ∧ At F B0 H0 B1 Γ2 W2 σ' B' H') ⟨Γ, W, B1, h0, (a.step n1).reg (Same.refl B1)⟩ (fun i σ' H' _ ⟨_, _, B', _, a'⟩ => ⟨B', a'.g, a'.n.bh⟩) (fun i v σ' H2 H3 hi ⟨Γ2, W2, B2, hI, a2⟩ y => ?_)
      fun σ' H' ⟨Γ2, W2, B', hI, a'⟩ => done Γ2 W2 σ' B' H' (n1.bb.trans a'.g) hI (a'.reg ((a.g.trans n1.bb).trans a'.g))
    have hx : xs[i]? = some xs[i] := by simp [hi]
    obtain ⟨B3, n3, tv⟩ := src.yld i (τ xs[i]) B2 H2 v H3 a2.g a2.n.bh (by rw [List.getElem?_map, hx]; rfl) y
    have a3 := a2.step n3
    exact ht xs[i] (List.getElem_mem hi) v σ' B3 H3 Γ2 _ a3.s a3.n.bh tv fun σ2 s2 _ _ => turn B1 n1.bb i xs[i] Γ2 W2 σ2 B3 H3 hx hI (a3.ctx s2))
theorem dr_look {B : Hp} {f : Str} {t : Ty} : ∀ {fts : List (Str × Ty)} {fs : List (Str × V)}, DRel B fts fs → fts.lookup f = some t → ∃ v, fs.lookup f = some v ∧ t.p B v
  | _, _, .nil, e => by cases e
  | _, _, .cons (k := k) (t := u) a r, e => by
    by_cases h : f = k
    · subst h
      rw [lk_hd] at e
      cases e
      exact ⟨_, lk_hd, a⟩
    · have hb : (f == k) = false := by
        cases q : (f == k) with
        | false => rfl
        | true => exact absurd (beq_iff_eq.mp q) h
      rw [lk_tl hb] at e
      obtain ⟨v, h1, h2⟩ := dr_look r e
      exact ⟨v, (lk_tl hb).trans h1, h2⟩
/-- e.f of an instance that is laid -/
theorem ev_ifld (c : Cls X.K C) (n : NoAttr X.K C f) (he : EvE X Γ e (tIns C fts)) (h : fts.lookup f = some t) (hab : attributeBase e f X.env (eval e X.env) = eval e X.env := by rfl) : EvE X Γ (.Attribute e f pos) t :=
  ev_fld c n he (fun B v ⟨a, dx, fs, e1, e2, r⟩ => let ⟨u, h1, h2⟩ := dr_look r h; ⟨a, dx, fs, u, e1, e2, h1, h2⟩) hab
/-- self.f of the own instance -/
theorem es_own (a : At F B0 H0 Bg Γ W σ B H) (ho : EvE X Γ e (tV (.ref xa))) (hW : (xa, oI C dx fts) ∈ W) (c : Cls X.K C) (n : NoAttr X.K C f) (h : fts.lookup f = some t) (hab : attributeBase e f X.env (eval e X.env) = eval e X.env := by rfl) : EvS X F B0 H0 Bg Γ W σ B H (.Attribute e f pos) t := fun Q q =>
  ⟨_, pe_fld pe_c hab, ho σ B H a.s a.n.bh _ fun v B1 H1 n1 r1 => by
    have a1 := a.step n1
    obtain ⟨_, _, ob, h3, fs, e3, r3⟩ := a1.o.each _ hW
    subst e3
    obtain ⟨u, h1, h2⟩ := dr_look r3 h
    exact ⟨xa, C, dx, fs, u, r1, h3, c, n, h1, q u B1 H1 n1 a1 h2⟩⟩
/-- self.f = e, a new attribute, a new cell -/
theorem rs_fldN (a : At F B0 H0 Bg Γ W σ B H) (h : EvN X Γ e ot) (ho : EvE X Γ o (tV (.ref xa))) (hW : W.Perm ((xa, oI C dx fts) :: W')) (c : Cls X.K C) (n : NoAttr X.K C f) (hl : fts.length + 1 ≤ 1000) (hf : (fts.all fun q => !decide (q.1 = f)) = true)
    (k : ∀ l B' H', Same B B' → H0 l = none → At F B0 H0 Bg Γ ((xa, oI C dx (fts ++ [(f, tV (.ref l))])) :: (l, ot) :: W') σ B' H' → RS X rest D σ H') (hs : swapsWith e (some (.Attribute o f p1)) pos.line X.env = pure false := by rfl) : RS X (.Assign [.Attribute o f p1] e pos :: rest) D σ H :=
  rs_ps (ps_fld pe_c pe_c hs) (h σ B H a.s a.n.bh _ fun l B1 H1 n1 bl fl hl0 ho1 => by
    have a1 := a.addc n1 bl fl hl0 ho1
    exact ho σ B1 H1 a1.s a1.n.bh _ fun u B2 H2 n2 r2 => by
      have a2 := (a1.step n2).perm ((List.Perm.cons _ hW).trans (List.Perm.swap _ _ _))
      obtain ⟨_, _, ob, h3, fs, e3, r3⟩ := a2.cell
      subst e3
      exact ⟨xa, C, dx, fs, r2, h3, c, n, by rw [r3.length]; exact hl, k l B2 _ (n1.trans n2).bb (a.n.fresh hl0) (a2.wr (ot' := oI C dx (fts ++ [(f, tV (.ref l))])) ⟨_, rfl, r3.putF (t := tV (.ref l)) rfl (nall hf)⟩)⟩)
/-- x.extend(e), the receiver read at the state -/
theorem rs_extendS {apos : Pos} (a : At F B0 H0 Bg Γ W σ B H) (hi : EvS X F B0 H0 Bg Γ W σ B H c (tV (.ref l))) (hW : W.Perm ((l, oL ts) :: W')) (h : EvE X Γ e (tL us)) (hl : ts.length + us.length ≤ 100000)
    (k : ∀ B' H', Same B B' → At F B0 H0 Bg Γ ((l, oL (ts ++ us)) :: W') σ B' H' → RS X rest D σ H') {he : starEach (e :: []) X.env = (false, eval e X.env) :: starEach [] X.env} {hs : swapsWith (.Call (.Attribute c "extend" apos) [e] [] p1) none pos.line X.env = pure false}
    {hm : PE X (.Call (.Attribute c "extend" apos) [e] [] p1) (tBM X.K "list" rExtend (RE X c) (RA X [e]))} : RS X (.Expr (.Call (.Attribute c "extend" apos) [e] [] p1) pos :: rest) D σ H :=
  rs_ps (ps_expr hm hs) (hi _ fun v B1 H1 n1 a0 r1 => by
    have e1 : v = .ref l := r1
    subst e1
    have a1 := a0.perm hW
    obtain ⟨_, _, o, h3, vs, e3, _⟩ := a1.cell
    subst e3
    refine ⟨.inl ⟨rfl, vs, .of h3⟩, ea_cons h ea_nil he σ B1 H1 a1.s a1.n.bh _ fun ws B2 H2 n2 r2 => ?_⟩
    cases r2 with
    | cons r r0 =>
      cases r0
      have a2 := a1.step n2
      obtain ⟨_, _, o, h3, vs, e3, r3⟩ := a2.cell
      subst e3
      obtain ⟨q, zs, e4, h4, r4⟩ := r
      subst e4
      exact ⟨l, q, vs, zs, rfl, rfl, h3, a2.n.bh _ _ h4, by rw [r3.length, r4.length]; exact sz5 hl, k B2 _ (n1.trans n2).bb (a2.wr (ot' := oL (ts ++ us)) ⟨vs ++ zs, rfl, r3.append r4⟩)⟩)
/-- while: M tells the context and the cells ahead of a turn, and what falls -/
theorem rs_while (a : At F B0 H0 Bg Γ W σ B H) (M : Nat → Ctx → Cells → Prop) (h0 : ∃ m, M m Γ W)
    (turn : ∀ (m : Nat) (Γ1 : Ctx) (W1 : Cells) (σ1 : L2.St) (B1 H1 : Hp), Same B B1 → M m Γ1 W1 → At F B0 H0 Bg Γ1 W1 σ1 B1 H1 → ∀ Q : Bool → Hp → Prop,
      (∀ H2, RS X body ⟨fun σ' H' => ∃ m' Γ2 W2 B', m' < m ∧ M m' Γ2 W2 ∧ Same B B' ∧ At F B0 H0 Bg Γ2 W2 σ' B' H', D.rt, fun σ' H' => RS X rest D σ' H', fun σ' H' => ∃ m' Γ2 W2 B', m' < m ∧ M m' Γ2 W2 ∧ Same B B' ∧ At F B0 H0 Bg Γ2 W2 σ' B' H'⟩ σ1 H2 → Q true H2) →
      (∀ H2, RS X rest D σ1 H2 → Q false H2) → RT X c σ1 H1 Q)
    (hp : PassesOwn (model X.prog X.w) X.A X.env X.xe := by exact PassesOwn.never) : RS X (.While c body [] pos :: rest) D σ H :=
  rs_ps (ps_while hp pt_c pss_c) ⟨fun m σ' H' => ∃ Γ1 W1 B1, M m Γ1 W1 ∧ Same B B1 ∧ At F B0 H0 Bg Γ1 W1 σ' B1 H', let ⟨m, h⟩ := h0; ⟨m, Γ, W, B, h, Same.refl B, a⟩, fun m σ1 H1 ⟨Γ1, W1, B1, hM, hs, a1⟩ =>
    turn m Γ1 W1 σ1 B1 H1 hs hM a1 _ (fun H2 h => by
      rw [if_pos rfl]
      exact ⟨_, fun σ' H' ⟨m', Γ2, W2, B', l, h1, h2, h3⟩ => ⟨m', l, Γ2, W2, B', h1, h2, h3⟩, h⟩) fun H2 h => by
      rw [if_neg (by decide)]
      exact h⟩
end
/-! ### dict displays -/
section
variable [J : Iv] {X : Cx} {F : Addr → Prop} {B0 H0 Bg : Hp} {Γ : Ctx} {W W' : Cells} {σ : L2.St} {B H : Hp} {t : Ty} {e k v : Expr} {pos : Pos} {ps : List (Key × Ty)} {ks : List (Option Expr)} {vs : List Expr} {key : Key}
def trsOf (X : Cx) : List (Option Expr) → List Expr → List (TE × TE)
  | some k :: ks, v :: vs => (RE X k, RE X v) :: trsOf X ks vs
  | _, _ => []
structure EvPs (X : Cx) (Γ : Ctx) (pos : Pos) (ks : List (Option Expr)) (vs : List Expr) (ps : List (Key × Ty)) : Prop where
  pp : PPs X pos ks vs (trsOf X ks vs)
  ev : ∀ (σ : L2.St) (B H : Hp), SOk Γ B σ → Sm B H → ∀ Q : List (V × V) → Hp → Prop, (∀ kvs B' H', Nw nF B H B' H' → DRel B' ps kvs → Q (kvs.map fun q => (kV q.1, q.2)) H') → tPairs (trsOf X ks vs) σ H Q
theorem eps_nil : EvPs X Γ pos [] [] [] := ⟨pps_nil, fun σ B H s bh Q q => q [] B H (.refl bh) .nil⟩
theorem eps_cons (hk : EvE X Γ k (tV (kV key))) (hv : EvE X Γ v t) (hr : EvPs X Γ pos ks vs ps) : EvPs X Γ pos (some k :: ks) (v :: vs) ((key, t) :: ps) :=
  ⟨pps_cons pe_c pe_c hr.pp, fun σ B H s bh Q q => hk σ B H s bh _ fun x B1 H1 n1 e1 => hv σ B1 H1 (s.mono n1.bb) n1.bh _ fun y B2 H2 n2 r2 => by
    have e1 : x = kV key := e1
    subst e1
    exact hr.ev σ B2 H2 (s.mono (n1.trans n2).bb) n2.bh _ fun kvs B3 H3 n3 r3 => q ((key, y) :: kvs) B3 H3 ((n1.trans n2).trans n3) (.cons (t.mono n3.bb r2) r3)⟩
theorem putT_merge {B : Hp} : ∀ {ps : List (Key × Ty)} {kvs : List (Key × V)} {qs : List (Key × Ty)} {acc : List (Key × V)}, DRel B ps kvs → DRel B qs acc → DRel B (ps.foldl (fun a q => putT a q.1 q.2) qs) (mergeK acc kvs)
  | _, _, _, _, .nil, r => r
  | _, _, _, _, .cons (k := k) a s, r => by
    show DRel _ (List.foldl _ _ _) (List.foldl _ _ _)
    rw [List.foldl_cons, List.foldl_cons]
    exact putT_merge s (r.put a)
theorem DRel.keys {B : Hp} {ps : List (Key × Ty)} {kvs : List (Key × V)} (r : DRel B ps kvs) : kvs.map (·.1) = ps.map (·.1) := by
  induction r with
  | nil => rfl
  | cons a r ih => rw [List.map_cons, List.map_cons, ih]
theorem DRel.merge {B : Hp} {ps : List (Key × Ty)} {kvs : List (Key × V)} (r : DRel B ps kvs) (nd : (ps.map (·.1)).Nodup) : DRel B ps (mergeK [] kvs) := by
  have h := putT_merge r (.nil : DRel B ([] : List (Key × Ty)) [])
  have e : ps.foldl (fun a q => putT a q.1 q.2) [] = ps := by
    have q := foldPs_map (key := fun q : Key × Ty => q.1) (g := fun q => q.2) (xs := ps) nd
    rw [show (fun a (q : Key × Ty) => putT a q.1 q.2) = (fun ps x => putT ps x.1 x.2) from rfl]
    unfold foldPs at q
    rw [q]
    exact List.map_id _
  rw [e] at h
  exact h
/-- {k: v, ..}: a new cell -/
theorem en_disp (h : EvPs X Γ pos ks vs ps) (nd : (ps.map (·.1)).Nodup) (hl : ps.length ≤ 15 := by exact Nat.le_of_ble_eq_true rfl) (hall : ks.all (·.isSome) = true := by rfl) (he : ks.length = vs.length := by rfl) (h0 : ks ≠ [] := by exact fun z => nomatch z) (h15 : ks.length ≤ 15 := by exact Nat.le_of_ble_eq_true rfl) :
    EvN X Γ (.Dict ks vs pos) (oDK ps) := fun σ B H s bh Q q => ⟨_, pe_disp h.pp hall he h0 h15, fun p hp => by
  have n0 : Nw nF B H B (upd H p (.dK [])) := .new bh hp
  have f0 := nfu (o := .dK []) bh (bh.nf hp) (bh.nf hp)
  refine h.ev σ B _ s n0.bh _ fun kvs B1 H1 n1 r1 => ⟨n1.keep p _ f0 upd_same, kvs, rfl, by rw [r1.length]; exact hl, ?_⟩
  have b1 : B1 p = none := n1.fr p _ (bh.free hp) upd_same
  have f1 := n1.nf p _ f0 upd_same
  exact q p B1 _ ((n0.trans n1).write b1 (.inr hp) f1) b1 (nfu n1.bh f1 f1) hp ⟨_, upd_same, _, rfl, r1.merge nd⟩⟩
theorem en_dnew : EvN X Γ (.Dict [] [] pos) (oDK []) := fun σ B H s bh Q q => ⟨_, pe_dnewK, fun p hp =>
  q p B _ (.new bh hp) (bh.free hp) (nfu bh (bh.nf hp) (bh.nf hp)) hp ⟨_, upd_same, [], rfl, .nil⟩⟩
theorem en_dnewT : EvN X Γ (.Dict [] [] pos) (oDT []) := fun σ B H s bh Q q => ⟨_, pe_dnewT, fun p hp =>
  q p B _ (.new bh hp) (bh.free hp) (nfu bh (bh.nf hp) (bh.nf hp)) hp ⟨_, upd_same, [], rfl, .nil⟩⟩
/-- a cell that is made and locked at once -/
theorem EvN.lock (h : EvN X Γ e (oDK ps)) : EvE X Γ e (tDK ps) := fun σ B H s bh Q q => ⟨_, pe_lockP pe_c, h σ B H s bh _ fun l B1 H1 n1 b f h0 ⟨o, e1, kvs, e2, r⟩ => by
  subst e2
  exact ⟨l, _, e1, trivial, fun od => q (.ref l) _ _ (n1.wlay b h0 f) ⟨l, kvs, rfl, ⟨od, upd_same⟩, r.mono (same_upd b)⟩⟩⟩
/-- dict(list of pairs) -/
theorem cb_dictP {K : PySem.W.Frag} (nd : (ps.map (·.1)).Nodup) (hl : ps.length ≤ 100) : ∀ (vs : List V) (B H : Hp) (Q : VK), Sm B H → Tys B [tL (ps.map fun q => tT [tV (kV q.1), q.2])] vs → (∀ l B' H', Nw nF B H B' H' → B' l = none → ¬ Iv.F H' l → H l = none → (∃ o, H' l = some o ∧ (oDK ps).p B' o) → Q (.ref l) H') →
    ∃ (a : Addr) (as : List Addr) (kvs : List (Key × V)), vs = [.ref a] ∧ SqL K H a (as.map V.ref) ∧ Paired (fun p kv => SqT K H p [kV kv.1, kv.2]) as kvs ∧ ∀ p, H p = none → Q (.ref p) (upd H p (.dK (mergeK [] kvs))) := fun vs B H Q bh r q => by
  cases r with
  | cons r1 r0 =>
    cases r0
    obtain ⟨a, xs, e, h, r⟩ := r1
    subst e
    have core : ∀ {ps : List (Key × Ty)} {xs : List V}, Tys B (ps.map fun q => tT [tV (kV q.1), q.2]) xs → ∃ (as : List Addr) (kvs : List (Key × V)), xs = as.map V.ref ∧ Paired (fun p kv => SqT K H p [kV kv.1, kv.2]) as kvs ∧ DRel B ps kvs := fun {ps} => by
      induction ps with
      | nil =>
        intro xs r
        cases r
        exact ⟨[], [], rfl, .nil, .nil⟩
      | cons p ps ih =>
        intro xs r
        cases r with
        | cons r1 r2 =>
          obtain ⟨b, ws, e1, e2, e3⟩ := r1
          obtain ⟨as, kvs, g1, g2, g3⟩ := ih r2
          cases e3 with
          | cons k1 k2 =>
            cases k2 with
            | cons k2 k3 =>
              cases k3
              have k1 : _ = kV p.1 := k1
              subst e1 g1 k1
              exact ⟨b :: as, (p.1, _) :: kvs, rfl, .cons (.of (bh _ _ e2)) g2, .cons k2 g3⟩
    obtain ⟨as, kvs, g1, g2, g3⟩ := core r
    subst g1
    exact ⟨a, as, kvs, rfl, .of (bh _ _ h), g2, fun p hp => q p B _ (.new bh hp) (bh.free hp) (nfu bh (bh.nf hp) (bh.nf hp)) hp ⟨_, upd_same, _, rfl, g3.merge nd⟩⟩
/-- d.get(k, x), the key there -/
theorem ev_dget2 {o f : Expr} {t2 : Ty} {apos : Pos} {n : Nat} (hr : Room n X.A) (ho : EvE X Γ o (tDK ps)) (he : EvE X Γ e (tV (kV key))) (hf : EvE X Γ f t2) (h : look ps key = some t) (m : M2 X o "get" apos e f pos := by exact ⟨rfl, rfl, rfl, rfl⟩) : EvE X Γ (.Call (.Attribute o "get" apos) [e, f] [] pos) t := fun σ B H s bh Q q =>
  ⟨_, pe_dget2 (hu_of hr) pe_c pe_c pe_c m, ho σ B H s bh _ fun v B1 H1 n1 ⟨a, kvs, e1, e2, r⟩ => by
    subst e1
    refine ⟨a, rfl, .inl ⟨_, e2.rd n1.bh⟩, he σ B1 H1 (s.mono n1.bb) n1.bh _ fun u B2 H2 n2 e3 => hf σ B2 H2 (s.mono (n1.trans n2).bb) n2.bh _ fun w B3 H3 n3 _ => ?_⟩
    have e3 : u = kV key := e3
    subst e3
    obtain ⟨z, h1, h2⟩ := (r.mono (n2.trans n3).bb).get h
    have g : DGet H3 a (kV key) (valV kvs key) := .inl ⟨kvs, key, (e2.mono (n2.trans n3).bb).rd n3.bh, rfl, rfl⟩
    rw [h1] at g
    exact ⟨_, g, q z B3 H3 ((n1.trans n2).trans n3) h2⟩⟩
/-- d[k] = v, d an own cell -/
theorem rs_dput {o i : Expr} {l : Addr} {rest : List Stmt} {D : Ends} {p1 : Pos} {n : Nat} (hr : Room n X.A) (a : At F B0 H0 Bg Γ W σ B H) (hv : EvE X Γ v t) (ho : EvE X Γ o (tV (.ref l))) (hi : EvE X Γ i (tV (kV key))) (hW : W.Perm ((l, oDK ps) :: W')) (hl : ps.length < 100000)
    (k : ∀ B' H', Same B B' → At F B0 H0 Bg Γ ((l, oDK (putT ps key t)) :: W') σ B' H' → RS X rest D σ H') (hs : swapsWith v (some (.Subscript o i p1)) pos.line X.env = pure false := by rfl) : RS X (.Assign [.Subscript o i p1] v pos :: rest) D σ H :=
  rs_ps (ps_dput (hu_of hr) pe_c pe_c pe_c hs) (hv σ B H a.s a.n.bh _ fun u B1 H1 n1 r1 => ho σ B1 H1 (a.s.mono n1.bb) n1.bh _ fun w B2 H2 n2 r2 => hi σ B2 H2 (a.s.mono (n1.trans n2).bb) n2.bh _ fun z B3 H3 n3 r3 => by
    have r2 : w = .ref l := r2
    have r3 : z = kV key := r3
    subst r2 r3
    have a3 := (a.step ((n1.trans n2).trans n3)).perm hW
    obtain ⟨_, _, ob, h3, kvs, e3, dr⟩ := a3.cell
    subst e3
    refine ⟨l, _, rfl, .inl ⟨kvs, key, h3, rfl, by rw [dr.length]; exact lt5 hl, rfl⟩, k B3 _ ((n1.trans n2).trans n3).bb (a3.wr (ot' := oDK (putT ps key t)) ⟨_, rfl, dr.put (t.mono (n2.trans n3).bb r1)⟩)⟩)
end
end Ls
set_option maxHeartbeats 4000000 -- D3
/-! Rules are made. -/
namespace Ls
open PySem Spec PyProof.Rows L2
section
variable [J : Iv] {P : Program} {w : World} {K : PySem.W.Frag} {mg : Str → Option Value} {base : Heap}
theorem EvI.is {X : Cx} {Γ : Ctx} {tg e : Expr} {t1 t2 : List Ty} (h : EvI X Γ tg e t1) (ht : t1 = t2) : EvI X Γ tg e t2 := ht ▸ h
theorem Asc.in15 {xs : List Nat} (h : Asc xs) : In15 xs := h.2
def ens : List En := [.P, .S, .W]
def sp_are_bad : Sp := spF (α := En → List Nat) (fun b => [tBad b]) (fun b => ∀ e, Asc (b e)) (fun _ => tB true)
theorem sc_are_bad : FnScope ["thing", "end"] ["thing"] (defScope s_are_bad) := ⟨rfl, rfl, rfl, by decide +kernel, rfl, by decide +kernel, by decide +kernel⟩
theorem isR_bad {b : En → List Nat} : IsR (tBad b) := fun B v ⟨d, e, _⟩ => ⟨d, e⟩
theorem isTy_bad {b : En → List Nat} : IsTy K (tBad b) "dict" := fun B v h H bh => isTy_dK B v (tBad_dK h) H bh
theorem c_are_bad (T : Top K mg) : Cal P w K mg base "are_bad" 4 sp_are_bad := by
  have nd := sc_are_bad.nd
  have C_are_sizes := c_are_sizes (P := P) (w := w) (base := base) T
  have C_is_end := c_is_end (P := P) (w := w) (base := base) T
  refine cal_F T.f_are_bad T.g_are_bad sc_are_bad (fun _ _ _ _ _ _ us hl => match us, hl with | [_], _ => rfl) (fun _ => rfl) (by decide) fun f cdv cd A outer s H0 E b B0 σ D hr hp a k hn => ?_
  refine rs_when a (et_cmp oq_isN (ev_name (i := 0) rfl (.inr (.inl rfl)) rfl) ev_non (bin_isNR isR_bad) (nomark _)) (fun hb => nomatch hb) fun hb B H s1 a => ?_
  refine rs_when a (et_not (et_val (ev_callB call_isi rfl T.b_isinstance bt_isinstance (ea_cons (ev_name (i := 0) rfl (.inr (.inl rfl)) rfl) (ea_cons (ev_bty rfl T.b_dict bt_dict) ea_nil)) (cb_isi isTy_bad kt_dict_dict)))) (fun hb => absurd hb (by decide)) fun hb B H s1 a => ?_
  refine rs_ret a (ev_callB (cr_all rfl) rfl T.b_all bt_all (ea_cons (EvE.is (ev_lc (own := [("end", 1)]) (xs := ens) (τ := fun e => tS e.s) (p := fun _ => true) (g := fun _ => tB true) rfl nd (blkOk_by (N := ["thing", "end"]) (sc := defScope s_are_bad) (by decide +kernel)) (EvI.is (ei_keys (ps := badPs b) ((ev_name (i := 0) rfl (.inr (.inl rfl)) rfl).to fun _ _ h => tBad_dK h)) rfl) (by decide) (by decide)
    (fun _ _ _ _ _ _ _ => (tg_name (i := 1) nd rfl (.inl rfl))) (fun _ _ _ _ _ _ _ => ets_nil) (fun _ _ _ _ _ e _ => fun _ => EvE.isB (ev_and (ev_call C_is_end (hr.mono (by decide)) rfl (d := e) (ea_cons (ev_name (i := 1) rfl (.inl rfl) rfl) ea_nil) trivial) (fun _ => (ev_one (ev_call C_are_sizes (hr.mono (by decide)) rfl (d := b e) (ea_cons (ev_dget (ps := badPs b) (k := .inr e.s) hr ((ev_name (i := 0) rfl (.inr (.inl rfl)) rfl).to fun _ _ h => tBad_dK h) (ev_name (i := 1) rfl (.inl rfl) rfl) (look_bad e)) ea_nil) ⟨(hp e).in15, by have := (hp e).len; omega⟩))))  rfl)) (t2 := tL ([true, true, true].map tB)) rfl) ea_nil) cb_all) fun v B' H' _ a' r => k v B' H' a'.n r
def sp_is_offer : Sp := spF (α := Nat) (fun n => [nT n]) (fun n => n ≤ 5) (fun _ => tB true)
theorem sc_is_offer : FnScope ["thing"] ["thing"] (defScope s_is_offer) := ⟨rfl, rfl, rfl, by decide +kernel, rfl, by decide +kernel, by decide +kernel⟩
theorem c_is_offer (T : Top K mg) : Cal P w K mg base "is_offer" 3 sp_is_offer := by
  have C_is_number := c_is_number (P := P) (w := w) (base := base) T
  refine cal_F T.f_is_offer T.g_is_offer sc_is_offer (fun _ _ _ _ _ _ us hl => match us, hl with | [_], _ => rfl) (fun _ => rfl) (by decide) fun f cdv cd A outer s H0 E n B0 σ D hr hp a k hn => ?_
  refine rs_ret a (EvE.isB (k2 := true) (ev_and (ev_call C_is_number (hr.mono (by decide)) rfl (d := (n : Int)) (ea_cons (ev_name (i := 0) rfl (.inl rfl) rfl) ea_nil) trivial) (fun _ => (ev_one (ev_cmp op_le (ev_name (i := 0) rfl (.inl rfl) rfl) (ev_gint rfl T.i_MOST_OFFER) bin_I0 (nomark _))))) ?_) fun v B' H' _ a' r => k v B' H' a'.n r
  have hp : n ≤ 5 := hp
  show (decide (0 ≤ (n : Int)) && decide ((n : Int) ≤ 5)) = true
  rw [decide_eq_true (by omega), decide_eq_true (by omega)]
  rfl
theorem inV_place (b : Bool) : inV (.str (if b then "side" else "any")) [.str "any", .str "side"] = true := by cases b <;> decide +kernel
def ruArgs (R : Ru) : List Ty := [tNs R.sizes, tBad R.bad, tB R.soft, tS R.wh, nT R.offer]
def sp_first_wrong : Sp := spF (α := Ru) ruArgs (fun R => R.Ok) (fun _ => tNone)
theorem sc_first_wrong : FnScope ["sizes", "bad", "soft", "where", "offer", "good"] ["sizes", "bad", "soft", "where", "offer"] (defScope s_first_wrong) := ⟨rfl, rfl, rfl, by decide +kernel, rfl, by decide +kernel, by decide +kernel⟩
theorem c_first_wrong (T : Top K mg) : Cal P w K mg base "first_wrong" 5 sp_first_wrong := by
  have nd := sc_first_wrong.nd
  have C_are_bad := c_are_bad (P := P) (w := w) (base := base) T
  have C_are_sizes := c_are_sizes (P := P) (w := w) (base := base) T
  have C_is_offer := c_is_offer (P := P) (w := w) (base := base) T
  refine cal_F T.f_first_wrong T.g_first_wrong sc_first_wrong (fun _ _ _ _ _ _ us hl => match us, hl with | [_, _, _, _, _], _ => rfl) (fun _ => rfl) (by decide) fun f cdv cd A outer s H0 E R B0 σ D hr hp a k hn => ?_
  have hpos : 0 < R.sizes.length := by
    have := hp.ne
    cases h : R.sizes with
    | nil => exact absurd h this
    | cons _ _ => simp
  refine rs_setN (i := 5) a (en_lst (ts := [tB true, tB true, tB true]) (ea_cons (EvE.isB (ev_and (ev_call C_are_sizes (hr.mono (by decide)) rfl (d := R.sizes) (ea_cons (ev_name (i := 0) rfl (.inl rfl) rfl) ea_nil) ⟨hp.sz.in15, by have := hp.sz.len; omega⟩) (fun _ => (ev_one (ev_cmp op_gt (ev_callB call_lenS rfl T.b_len bt_len (ea_cons (ev_name (i := 0) rfl (.inl rfl) rfl) ea_nil) (cb_lenL)) ev_int bin_I0 (nomark _))))) (by
        rw [Bool.true_and]
        refine decide_eq_true ?_
        rw [List.length_map]
        omega)) (ea_cons (ev_call C_are_bad (hr.mono (by decide)) rfl (d := R.bad) (ea_cons (ev_name (i := 1) rfl (.inl rfl) rfl) ea_nil) hp.bd) (ea_cons (ev_callB call_isi rfl T.b_isinstance bt_isinstance (ea_cons (ev_name (i := 2) rfl (.inl rfl) rfl) (ea_cons (ev_bty rfl T.b_bool bt_bool) ea_nil)) (cb_isi isTy_bl kt_bool_bool)) ea_nil)))) nd rfl (.inl rfl) fun l σ B' H' s1 hl a => ?_
  refine rs_append (ts := [tB true, tB true, tB true]) (t := tB true) a (ev_name (i := 5) rfl (.inl rfl) rfl) (.refl _) (EvE.isB (ev_and (ev_callB call_isi rfl T.b_isinstance bt_isinstance (ea_cons (ev_name (i := 3) rfl (.inl rfl) rfl) (ea_cons (ev_bty rfl T.b_str bt_str) ea_nil)) (cb_isi isTy_str kt_str_str)) (fun _ => (ev_one (ev_cmp op_in_seq (ev_name (i := 3) rfl (.inl rfl) rfl) (ev_gref rfl T.g_PLACES) (bin_inK T.places rfl (inV_place R.side)) rfl)))) rfl) (by decide) (fun B H s1 a => ?_) (he := rfl) (hs := rfl) (hm := pe_bm PySem.F.plainAttrs_list PySem.F.slot_list_append PySem.F.type_list_append mt_append pe_c pa_c)
  refine rs_append (ts := [tB true, tB true, tB true, tB true]) (t := tB true) a (ev_name (i := 5) rfl (.inl rfl) rfl) (.refl _) (ev_call C_is_offer (hr.mono (by decide)) rfl (d := R.offer) (ea_cons (ev_name (i := 4) rfl (.inl rfl) rfl) ea_nil) hp.of) (by decide) (fun B H s1 a => ?_) (he := rfl) (hs := rfl) (hm := pe_bm PySem.F.plainAttrs_list PySem.F.slot_list_append PySem.F.type_list_append mt_append pe_c pa_c)
  obtain ⟨B1, b1, a⟩ := a.frzL hl (i := 5) rfl
  refine rs_ret a (ev_ifx (k := false) (et_cmp op_in_seq ev_bl (ev_name (i := 5) rfl (.inl rfl) rfl) (t2 := tL [tB true, tB true, tB true, tB true, tB true]) ?_ rfl) (fun h => nomatch h) (fun _ => ev_non)) fun v B' H' _ a' r => k v B' H' a'.n r
  intro u v B H Q bh hu ⟨g, xs, e, h, r⟩ q
  cases hu
  subst e
  have e : xs = [true, true, true, true, true].map V.bl := tys_bls (bs := [true, true, true, true, true]) r
  subst e
  exact ⟨g, _, rfl, .inl (.of (bh _ _ h)), rfl, rfl, q _ B H (.refl bh) rfl⟩
theorem asc_ints {xs : List Nat} (h : Asc xs) : (xs.map fun x : Nat => (x : Int)).Pairwise (· < ·) := List.pairwise_map.mpr (h.1.imp fun h => by omega)
theorem nodup_ens : (ens.map fun e : En => (.inr e.s : Key)).Nodup := by decide +kernel
def ruFts (R : Ru) : List (Str × Ty) := [("its_sizes", tNt R.sizes), ("its_bad", tDK (badPs R.bad)), ("its_soft", tB R.soft), ("its_where", tS R.wh), ("its_offer", nT R.offer)]
def sp_Rule_init (K : PySem.W.Frag) : Sp := spI (He.ga K "Rule") ruArgs (fun R => R.Ok) ruFts
theorem sc_Rule_init : FnScope ["self", "sizes", "bad", "soft", "where", "offer", "found", "told", "end"] ["self", "sizes", "bad", "soft", "where", "offer"] (defScope s_Rule_init) := ⟨rfl, rfl, rfl, by decide +kernel, rfl, by decide +kernel, by decide +kernel⟩
/-- sorted(set(xs)), xs ascending -/
theorem ev_sset {X : Cx} {Γ : Ctx} {e : Expr} {p1 p2 p3 p4 : Pos} {xs : List Nat} (T : Top X.K X.mg) (hc : X.calm = true) (h1 : Gl X "sorted") (h2 : Gl X "set") (h : EvE X Γ e (tNs xs)) (ha : Asc xs)
    (hs : starEach [e] X.env = (false, eval e X.env) :: starEach [] X.env := by rfl) (hs2 : starEach [Expr.Call (.Name "set" p3) [e] [] p4] X.env = (false, eval (Expr.Call (.Name "set" p3) [e] [] p4) X.env) :: starEach [] X.env := by rfl) :
    EvE X Γ (.Call (.Name "sorted" p1) [.Call (.Name "set" p3) [e] [] p4] [] p2) (tNs xs) :=
  EvE.is (ev_callB (cr_sortedSet hc) h1 T.b_sorted bt_sorted (ea_cons (ev_callTy (cr_setI hc) h2 T.b_set bt_set (ea_cons (EvE.is h (congrArg tL (nat_tys xs))) ea_nil hs) (cb_setI (by rw [List.length_map]; have := ha.len; omega)) (he := hs)) ea_nil hs2) (cb_sortedSet (ms := xs.map fun x : Nat => (x : Int)) (by rw [List.length_map]; have := ha.len; omega) (asc_ints ha) fun _ => Iff.rfl) (he := hs2)) (congrArg tL (nat_tys xs)).symm
theorem c_Rule_init (T : Top K mg) : ∃ fd, FunD K d_Rule_init.name d_Rule_init.qual d_Rule_init.params d_Rule_init.body d_Rule_init.scope (d_Rule_init.dvs K) (d_Rule_init.kws K) (He.fAd K d_Rule_init.at_) fd ∧ FnOk P w K mg base CX0 6 (He.fAd K d_Rule_init.at_) fd ["self", "sizes", "bad", "soft", "where", "offer"] (sp_Rule_init K) := by
  have nd := sc_Rule_init.nd
  have C_first_wrong := c_first_wrong (P := P) (w := w) (base := base) T
  obtain ⟨fd, Fd⟩ := T.f_Rule_init
  refine ⟨fd, Fd, ok_I Fd sc_Rule_init (fun _ => rfl) (by decide) fun cdv cd A outer s H0 E R B0 x dx σ D hr hp a k => ?_⟩
  refine rs_set (i := 6) a (ev_call C_first_wrong (hr.mono (by decide)) rfl (d := R) (ea_cons (ev_name (i := 1) rfl (.inl rfl) rfl) (ea_cons (ev_name (i := 2) rfl (.inl rfl) rfl) (ea_cons (ev_name (i := 3) rfl (.inl rfl) rfl) (ea_cons (ev_name (i := 4) rfl (.inl rfl) rfl) (ea_cons (ev_name (i := 5) rfl (.inl rfl) rfl) ea_nil))))) hp) nd rfl (.inl rfl) fun σ B H s1 a => ?_
  refine rs_when a (et_cmp oq_notN (ev_name (i := 6) rfl (.inl rfl) rfl) ev_non bin_notN (nomark _)) (fun hb => absurd hb (by decide)) fun hb B H s1 a => ?_
  refine rs_set (i := 7) a (ev_ifx (k := false) (et_cmp oq_isN (ev_name (i := 2) rfl (.inl rfl) rfl) ev_non (bin_isNR isR_bad) (nomark _)) (fun h => nomatch h) (fun _ => (ev_name (i := 2) rfl (.inl rfl) rfl))) nd rfl (.inr rfl) fun σ B H s1 a => ?_
  refine rs_fld a (ev_callTy call_tuple_of rfl T.b_tuple bt_tuple (ea_cons (ev_sset T rfl rfl rfl (ev_name (i := 1) rfl (.inl rfl) rfl) hp.sz) ea_nil) cb_tuple) (ev_name (i := 0) rfl (.inl rfl) rfl) (.refl _) T.c_Rule T.n_Rule_its_sizes (Nat.le_of_ble_eq_true rfl) (by kernel_rfl) fun B H s1 a => ?_
  refine rs_fld a (EvE.is (ev_dc (own := [("end", 8)]) (xs := ens) (τ := fun e => tS e.s) (p := fun _ => true) (key := fun e => .inr e.s) (g := fun e => tNs (R.bad e)) rfl nd (blkOk_by (N := ["self", "sizes", "bad", "soft", "where", "offer", "found", "told", "end"]) (sc := defScope s_Rule_init) (by decide +kernel)) ?_ (by decide) (by decide) (fun _ _ _ _ _ _ _ => tg_name (i := 8) nd rfl (.inl rfl)) (fun _ _ _ _ _ _ _ => ets_nil) (fun _ _ _ _ _ _ _ _ => ev_name (i := 8) rfl (.inl rfl) rfl)
    (fun _ _ _ _ _ e _ _ => ev_sset T rfl rfl rfl (ev_dget2 (ps := badPs R.bad) (key := .inr e.s) hr ((ev_name (i := 7) rfl (.inr (.inl rfl)) rfl).to fun _ _ h => tBad_dK h) (ev_name (i := 8) rfl (.inl rfl) rfl) (ev_lst ea_nil) (look_bad e)) (hp.bd e))) (t2 := tDK (badPs R.bad)) ?_) (ev_name (i := 0) rfl (.inl rfl) rfl) (.refl _) T.c_Rule T.n_Rule_its_bad (Nat.le_of_ble_eq_true rfl) (by kernel_rfl) fun B H s1 a => ?_
  · exact ei_K T.ends (fun B => .cons rfl (.cons rfl (.cons rfl .nil))) (ev_gref rfl T.g_ENDS)
  · rw [filter_yes, foldPs_map nodup_ens]
    rfl
  refine rs_fld a (ev_name (i := 3) rfl (.inl rfl) rfl) (ev_name (i := 0) rfl (.inl rfl) rfl) (.refl _) T.c_Rule T.n_Rule_its_soft (Nat.le_of_ble_eq_true rfl) (by kernel_rfl) fun B H s1 a => ?_
  refine rs_fld a (ev_name (i := 4) rfl (.inl rfl) rfl) (ev_name (i := 0) rfl (.inl rfl) rfl) (.refl _) T.c_Rule T.n_Rule_its_where (Nat.le_of_ble_eq_true rfl) (by kernel_rfl) fun B H s1 a => ?_
  refine rs_fld a (ev_name (i := 5) rfl (.inl rfl) rfl) (ev_name (i := 0) rfl (.inl rfl) rfl) (.refl _) T.c_Rule T.n_Rule_its_offer (Nat.le_of_ble_eq_true rfl) (by kernel_rfl) fun B H s1 a => ?_
  exact rs_nil (k _ _ _ _ _ a)
end
end Ls
set_option maxHeartbeats 4000000 -- D4
/-! Calls with keywords; Rule(..), Worth(..) -/
namespace Ls
open PySem Spec PyProof.Rows L2
variable [J : Iv]
/-! ### keywords -/
section
variable {X : Cx} {Γ : Ctx} {e : Expr} {es : List Expr} {kws : List Keyword} {t : Ty} {ts us zs : List Ty} {p pos kpos : Pos} {x : Str} {nm : Option Str}
def RK (X : Cx) (kws : List Keyword) (σ : L2.St) (H : Hp) (Q : List V → Hp → Prop) : Prop := ∃ t, PK X kws t ∧ t σ H Q
theorem pk_c : PK X kws (RK X kws) := ⟨fun pos pins s σ H Q I ⟨_, h, q⟩ => h.run pos pins s σ H Q I q⟩
def EvKw (X : Cx) (Γ : Ctx) (kws : List Keyword) (ts : List Ty) : Prop := ∀ (σ : L2.St) (B H : Hp), SOk Γ B σ → Sm B H → ∀ Q : List V → Hp → Prop, (∀ vs B' H', Nw nF B H B' H' → Tys B' ts vs → Q vs H') → RK X kws σ H Q
theorem ek_nil : EvKw X Γ [] [] := fun σ B H s bh Q q => ⟨_, pk_nil, q [] B H (.refl bh) .nil⟩
theorem ek_cons (ha : EvE X Γ e t) (hr : EvKw X Γ kws ts) : EvKw X Γ (⟨nm, e, kpos⟩ :: kws) (t :: ts) := fun σ B H s bh Q q =>
  ⟨_, pk_cons pe_c pk_c, ha σ B H s bh _ fun v B1 H1 n1 r1 => hr σ B1 H1 (s.mono n1.bb) n1.bh _ fun vs B2 H2 n2 r2 => q (v :: vs) B2 H2 (n1.trans n2) (.cons (t.mono n2.bb r1) r2)⟩
/-- C(e, .., k = v, ..) -/
theorem ev_makeK {α : Type} {args : α → List Ty} {pre : α → Prop} {fts : α → List (Str × Ty)} {C f : Addr} {fd : FuncData} {ps ks : List Str} {k n : Nat} {g : List Value → List Value → List Value} {gV : List V → List V → List V} {d : α} (M : Mk X.K C f) (F : FnOk X.prog X.w X.K X.mg X.base CX0 k f fd ps (spI C args pre fts))
    (hb : KBn X.K fd ps (n + 1) ks g gV) (hg : ∀ v vs zs, gV (v :: vs) zs = v :: (vs ++ zs)) (hm : X.mg x = some (.ref C)) (hr : Room (k + 1) X.A) (hgl : Gl X x) (ha : EvA X Γ (e :: es) us) (hk : EvKw X Γ kws zs) (hp : pre d) (hn : us.length = n) (hz : zs.length = ks.length) (hts : args d = us ++ zs)
    (hall : (backToKw pos (keywordEach kws X.env)).all (·.1.isSome) = true := by rfl) (hks : (backToKw pos (keywordEach kws X.env)).filterMap (·.1) = ks := by rfl) (hdb : (x == ("__debug__" : Str)) = false := by decide)
    (he : starEach (e :: es) X.env = (false, eval e X.env) :: starEach es X.env := by rfl) (hpl : ((backTo pos (starEach (e :: es) X.env)).any (·.1) || (backToKw pos (keywordEach kws X.env)).any (·.1.isNone)) = false := by rfl) :
    EvE X Γ (.Call (.Name x p) (e :: es) kws pos) (tIns C (fts d)) := fun σ B H s bh Q q =>
  ⟨_, pe_makeK M F hr hgl hm hb pass0 pa_c pk_c hall hks hdb he hpl, ha σ B H s bh _ fun vs B1 H1 n1 r1 => hk σ B1 H1 (s.mono n1.bb) n1.bh _ fun ws B2 H2 n2 r2 => ⟨by rw [r1.length, hn], by rw [r2.length, hz], by
    have rr : Tys B2 (args d) (vs ++ ws) := by rw [hts]; exact (r1.mono n2.bb).append r2
    intro y dx h1 h2 h3
    rw [hg]
    exact make_run n2.bh hp rr (fun v B3 H3 n3 r3 => q v B3 H3 ((n1.trans n2).trans n3) r3) y dx h1 h2 h3⟩⟩
/-- f(e, .., k = v, ..) -/
theorem ev_callK {α : Type} {args : α → List Ty} {pre : α → Prop} {res : α → Ty} {f : Addr} {fd : FuncData} {ps ks : List Str} {k n : Nat} {g : List Value → List Value → List Value} {gV : List V → List V → List V} {d : α} (F : FnOk X.prog X.w X.K X.mg X.base CX0 k f fd ps (spF args pre res))
    (hb : KBn X.K fd ps n ks g gV) (hg : ∀ vs zs, gV vs zs = vs ++ zs) (hm : X.mg x = some (.ref f)) (hkp : PySem.W.keepIn X.K (.ref f) = true) (hr : Room k X.A) (hgl : Gl X x) (ha : EvA X Γ (e :: es) us) (hk : EvKw X Γ kws zs) (hp : pre d) (hn : us.length = n) (hz : zs.length = ks.length) (hts : args d = us ++ zs) (ht : res d = t)
    (hall : (backToKw pos (keywordEach kws X.env)).all (·.1.isSome) = true := by rfl) (hks : (backToKw pos (keywordEach kws X.env)).filterMap (·.1) = ks := by rfl) (hdb : (x == ("__debug__" : Str)) = false := by decide)
    (he : starEach (e :: es) X.env = (false, eval e X.env) :: starEach es X.env := by rfl) (hpl : ((backTo pos (starEach (e :: es) X.env)).any (·.1) || (backToKw pos (keywordEach kws X.env)).any (·.1.isNone)) = false := by rfl) :
    EvE X Γ (.Call (.Name x p) (e :: es) kws pos) t := fun σ B H s bh Q q =>
  ⟨_, pe_callN F hr hgl hm hkp hb pass0 pa_c pk_c hall hks hdb he hpl, ha σ B H s bh _ fun vs B1 H1 n1 r1 => hk σ B1 H1 (s.mono n1.bb) n1.bh _ fun ws B2 H2 n2 r2 => ⟨by rw [r1.length, hn], by rw [r2.length, hz], by
    rw [hg]
    have rr : Tys B2 (args d) (vs ++ ws) := by rw [hts]; exact (r1.mono n2.bb).append r2
    subst ht
    exact ⟨d, B2, n2.bh, hp, rr, fun v B3 H3 n3 r3 => q v B3 H3 ((n1.trans n2).trans n3) r3⟩⟩⟩
end
section
variable {P : Program} {w : World} {K : PySem.W.Frag} {mg : Str → Option Value} {base : Heap}
theorem tIns_ru {R : Ru} {B : Hp} {v : V} (h : (tIns (He.ga K "Rule") (ruFts R)).p B v) : (tRu K R).p B v := by
  obtain ⟨a, dx, fs, e, h, r⟩ := h
  cases r with
  | cons r1 r =>
  cases r with
  | cons r2 r =>
  cases r with
  | cons r3 r =>
  cases r with
  | cons r4 r =>
  cases r with
  | cons r5 r =>
  cases r
  obtain ⟨t, vs, e1, h1, q1⟩ := r1
  obtain ⟨d, kvs, e2, h2, q2⟩ := r2
  have e3 : _ = V.bl R.soft := r3
  have e4 : _ = V.str R.wh := r4
  have e5 : _ = nI R.offer := r5
  subst e1 e2 e3 e4 e5
  rw [tys_nats q1] at h1
  refine ⟨a, dx, t, d, e, h, h1, ?_⟩
  cases q2 with
  | cons c1 q2 =>
  cases q2 with
  | cons c2 q2 =>
  cases q2 with
  | cons c3 q2 =>
  cases q2
  obtain ⟨p1, v1, g1, k1, l1⟩ := c1
  obtain ⟨p2, v2, g2, k2, l2⟩ := c2
  obtain ⟨p3, v3, g3, k3, l3⟩ := c3
  subst g1 g2 g3
  rw [tys_nats l1] at k1
  rw [tys_nats l2] at k2
  rw [tys_nats l3] at k3
  exact ⟨p1, p2, p3, h2, k1, k2, k3⟩
theorem kb_Rule {fd : FuncData} (F : FunD K d_Rule_init.name d_Rule_init.qual d_Rule_init.params d_Rule_init.body d_Rule_init.scope (d_Rule_init.dvs K) (d_Rule_init.kws K) (He.fAd K d_Rule_init.at_) fd) :
    ∃ g gV, KBn K fd ["self", "sizes", "bad", "soft", "where", "offer"] 3 ["soft", "where", "offer"] g gV ∧ ∀ v vs zs, gV (v :: vs) zs = v :: (vs ++ zs) := by
  obtain ⟨its, mv, h⟩ := F.kbinds 3 ["soft", "where", "offer"] [] (fun us _ _ ws => us ++ ws) (fun e => nomatch e) (fun e => nomatch e) (fun q hq => nomatch hq) (fun h1 _ _ h2 => h1.append h2)
    fun T D doc pm an cdv ct us its mv ws l1 l2 l3 l4 => match us, its, mv, ws, l1, l2, l3, l4 with
      | [_, _, _], [_], [], [_, _, _], _, _, _, _ => ⟨_, rfl, show _ = _ from by kernel_rfl⟩
  exact ⟨_, _, h, fun _ _ _ => rfl⟩
/-! ### Worth(..) -/
/-- the prices as the law writes them -/
structure Pk (kvs : List (Nat × Int)) : Prop where
  asc : Asc (kvs.map (·.1))
  pr : ∀ q ∈ kvs, 0 ≤ q.2 ∧ q.2 ≤ 9
theorem Pk.len {kvs : List (Nat × Int)} (h : Pk kvs) : kvs.length ≤ 5 := by
  have := h.asc.len
  rwa [List.length_map] at this
def pkPs (kvs : List (Nat × Int)) : List (Key × Ty) := kvs.map fun q => (.inl (q.1 : Int), tI q.2)
def pkPr (kvs : List (Nat × Int)) (z : Nat) : Int := ((kvs.find? fun q => decide (q.1 = z)).map Prod.snd).getD 0
def sp_is_price : Sp := spF (α := Int) (fun i => [tI i]) (fun i => 0 ≤ i ∧ i ≤ 9) (fun _ => tB true)
theorem sc_is_price : FnScope ["thing"] ["thing"] (defScope s_is_price) := ⟨rfl, rfl, rfl, by decide +kernel, rfl, by decide +kernel, by decide +kernel⟩
theorem c_is_price (T : Top K mg) : Cal P w K mg base "is_price" 2 sp_is_price := by
  have C_is_integer := c_is_integer (P := P) (w := w) (base := base) T
  refine cal_F T.f_is_price T.g_is_price sc_is_price (fun _ _ _ _ _ _ us hl => match us, hl with | [_], _ => rfl) (fun _ => rfl) (by decide) fun f cdv cd A outer s H0 E i B0 σ D hr hp a k hn => ?_
  refine rs_ret a (EvE.isB (k2 := true) (ev_and (ev_call C_is_integer (hr.mono (by decide)) rfl (d := i) (ea_cons (ev_name (i := 0) rfl (.inl rfl) rfl) ea_nil) trivial) (fun _ => (ev_one (ev_chain op_le op_le ev_int (ev_name (i := 0) rfl (.inl rfl) rfl) (ev_gint rfl T.i_MOST_PRICE) bin_I0 bin_I0)))) ?_) fun v B' H' _ a' r => k v B' H' a'.n r
  rw [decide_eq_true hp.1, decide_eq_true hp.2]
  rfl
def sp_are_prices : Sp := spF (α := List (Nat × Int)) (fun q => [tDK (pkPs q)]) Pk (fun _ => tB true)
theorem sc_are_prices : FnScope ["thing", "size", "price"] ["thing"] (defScope s_are_prices) := ⟨rfl, rfl, rfl, by decide +kernel, rfl, by decide +kernel, by decide +kernel⟩
theorem c_are_prices (T : Top K mg) : Cal P w K mg base "are_prices" 3 sp_are_prices := by
  have nd := sc_are_prices.nd
  have C_is_price := c_is_price (P := P) (w := w) (base := base) T
  have C_is_size := c_is_size (P := P) (w := w) (base := base) T
  refine cal_F T.f_are_prices T.g_are_prices sc_are_prices (fun _ _ _ _ _ _ us hl => match us, hl with | [_], _ => rfl) (fun _ => rfl) (by decide) fun f cdv cd A outer s H0 E d B0 σ D hr hp a k hn => ?_
  refine rs_ret a (ev_and (ev_callB call_isi rfl T.b_isinstance bt_isinstance (ea_cons (ev_name (i := 0) rfl (.inl rfl) rfl) (ea_cons (ev_bty rfl T.b_dict bt_dict) ea_nil)) (cb_isi isTy_dK kt_dict_dict)) (fun _ => (ev_one (ev_callB (cr_all rfl) rfl T.b_all bt_all (ea_cons (EvE.is (ev_lc (own := [("size", 1), ("price", 2)]) (xs := d) (τ := fun q => tT [tV (kV (.inl (q.1 : Int))), tI q.2]) (p := fun _ => true) (g := fun _ => tB true) rfl nd (blkOk_by (N := ["thing", "size", "price"]) (sc := defScope s_are_prices) (by decide +kernel)) (EvI.is (ei_items (ev_name (i := 0) rfl (.inl rfl) rfl)) (by unfold pkPs; rw [List.map_map] <;> rfl)) (by decide) (by have h5 : d.length ≤ 5 := hp.len; omega)
    (fun _ _ _ _ _ _ _ => (tg_tup rfl (tgs_cons (tg_name (i := 1) nd rfl (.inl rfl)) (tgs_cons (tg_name (i := 2) nd rfl (.inl rfl)) tgs_nil)))) (fun _ _ _ _ _ _ _ => ets_nil) (fun _ _ _ _ _ q hq => fun _ => EvE.isB (ev_and (ev_call C_is_size (hr.mono (by decide)) rfl (d := (q.1 : Int)) (ea_cons (ev_name (i := 1) rfl (.inl rfl) rfl) ea_nil) trivial) (fun _ => (ev_one (ev_call C_is_price (hr.mono (by decide)) rfl (d := q.2) (ea_cons (ev_name (i := 2) rfl (.inl rfl) rfl) ea_nil) (hp.pr q hq))))) (by
      obtain ⟨h1, h2⟩ := hp.asc.2 q.1 (List.mem_map.mpr ⟨q, hq, rfl⟩)
      rw [decide_eq_true (by omega), decide_eq_true (by omega)]
      rfl))) (t2 := tL ((d.map fun _ => true).map tB)) (by rw [filter_yes, List.map_map]; rfl)) ea_nil) cb_all)))) fun v B' H' _ a' r => k v B' H' a'.n ?_
  rw [show (d.map fun _ => true).all id = true by rw [List.all_map]; exact List.all_eq_true.mpr fun _ _ => rfl] at r
  exact r
theorem pk_look {kvs : List (Nat × Int)} (hn : (kvs.map (·.1)).Nodup) {q : Nat × Int} (h : q ∈ kvs) : look (pkPs kvs) (.inl (q.1 : Int)) = some (tI q.2) := by
  induction kvs with
  | nil => cases h
  | cons p kvs ih =>
    obtain ⟨n1, n2⟩ := List.nodup_cons.mp hn
    rcases List.mem_cons.mp h with e | h
    · subst e
      exact look_pos rfl
    · have ne : ¬ ((.inl (p.1 : Int) : Key) = .inl (q.1 : Int)) := fun e => n1 (by
        have e2 : p.1 = q.1 := by
          have := Sum.inl.inj e
          omega
        exact List.mem_map.mpr ⟨q, h, e2.symm⟩)
      exact (look_neg ne).trans (ih n2 h)
theorem pk_asc {kvs : List (Nat × Int)} (hk : Pk kvs) : ((kvs.map fun q => ((q.1 : Int), tI q.2)).map (·.1)).Pairwise (· < ·) := by
  have h := asc_ints hk.asc
  rw [List.map_map] at h ⊢
  exact h
theorem Asc.nodup {xs : List Nat} (h : Asc xs) : xs.Nodup := h.1.imp fun h => Nat.ne_of_lt h
def woOf (kvs : List (Nat × Int)) (free : Int) (til : Nat) : Wo := ⟨pkPr kvs, free, til⟩
/-- prices, free, until -/
abbrev WA := List (Nat × Int) × Int × Nat
def WA.Ok (a : WA) : Prop := Pk a.1 ∧ (0 ≤ a.2.1 ∧ a.2.1 ≤ 9) ∧ a.2.2 ≤ 5
def WA.wo (a : WA) : Wo := woOf a.1 a.2.1 a.2.2
def woArgs (a : WA) : List Ty := [tDK (pkPs a.1), tI a.2.1, nT a.2.2]
def woFts (a : WA) : List (Str × Ty) := [("its_prices", tDK (pkPs (a.1.filter fun q => decide (0 < q.2)))), ("its_free", tI a.2.1), ("its_until", nT a.2.2)]
theorem sc_Worth_init : FnScope ["self", "prices", "free", "until", "told", "size"] ["self", "prices", "free", "until"] (defScope s_Worth_init) := ⟨rfl, rfl, rfl, by decide +kernel, rfl, by decide +kernel, by decide +kernel⟩
theorem c_Worth_init (T : Top K mg) : ∃ fd, FunD K d_Worth_init.name d_Worth_init.qual d_Worth_init.params d_Worth_init.body d_Worth_init.scope (d_Worth_init.dvs K) (d_Worth_init.kws K) (He.fAd K d_Worth_init.at_) fd ∧ FnOk P w K mg base CX0 4 (He.fAd K d_Worth_init.at_) fd ["self", "prices", "free", "until"] (spI (He.ga K "Worth") woArgs WA.Ok woFts) := by
  have nd := sc_Worth_init.nd
  have C_are_prices := c_are_prices (P := P) (w := w) (base := base) T
  have C_is_price := c_is_price (P := P) (w := w) (base := base) T
  have C_is_integer := c_is_integer (P := P) (w := w) (base := base) T
  have C_is_size := c_is_size (P := P) (w := w) (base := base) T
  obtain ⟨fd, Fd⟩ := T.f_Worth_init
  refine ⟨fd, Fd, ok_I Fd sc_Worth_init (fun _ => rfl) (by decide) fun cdv cd A outer s H0 E d B0 x dx σ D hr hp a k => ?_⟩
  obtain ⟨hk, hf, hu⟩ := hp
  have h5 : d.1.length ≤ 5 := hk.len
  have ndk : (d.1.map (·.1)).Nodup := hk.asc.nodup
  refine rs_when a (EvT.is (k2 := false) (et_w (ew_and (et_cmp oq_notN (ev_name (i := 1) rfl (.inl rfl) rfl) ev_non (bin_notNR isR_D) (nomark _)) (fun _ => (ew_and1 (et_not (et_val (ev_call C_are_prices (hr.mono (by decide)) rfl (d := d.1) (ea_cons (ev_name (i := 1) rfl (.inl rfl) rfl) ea_nil) hk))))))) rfl) (fun hb => nomatch hb) fun hb B H s1 a => ?_
  refine rs_when a (et_not (et_val (ev_call C_is_price (hr.mono (by decide)) rfl (d := d.2.1) (ea_cons (ev_name (i := 2) rfl (.inl rfl) rfl) ea_nil) hf))) (fun hb => absurd hb (by decide)) fun hb B H s1 a => ?_
  refine rs_when a (EvT.is (k2 := false) (et_w (ew_and (et_not (et_val (ev_call C_is_size (hr.mono (by decide)) rfl (d := (d.2.2 : Int)) (ea_cons (ev_name (i := 3) rfl (.inl rfl) rfl) ea_nil) trivial))) (fun _ => (ew_and1 (et_not (et_w (ew_and (et_val (ev_call C_is_integer (hr.mono (by decide)) rfl (d := (d.2.2 : Int)) (ea_cons (ev_name (i := 3) rfl (.inl rfl) rfl) ea_nil) trivial)) (fun _ => (ew_and1 (et_cmp op_eq (ev_name (i := 3) rfl (.inl rfl) rfl) ev_int (bin_eq rfl) (nomark _))))))))))) ?_) (fun hb => nomatch hb) fun hb B H s1 a => ?_
  · rw [nat_eq0]
    by_cases h0 : d.2.2 = 0
    · rw [decide_eq_true h0]
      simp
    · have h1 : decide ((1 : Int) ≤ (d.2.2 : Int)) = true := decide_eq_true (by omega)
      have h2 : decide ((d.2.2 : Int) ≤ 5) = true := decide_eq_true (by omega)
      rw [h1, h2]
      rfl
  refine rs_set (i := 4) a (ev_ifx (k := false) (et_cmp oq_isN (ev_name (i := 1) rfl (.inl rfl) rfl) ev_non (bin_isNR isR_D) (nomark _)) (fun h => nomatch h) (fun _ => (ev_name (i := 1) rfl (.inl rfl) rfl))) nd rfl (.inr rfl) fun σ B H s1 a => ?_
  refine rs_fld a (EvE.is (ev_dc (own := [("size", 5)]) (xs := d.1) (τ := fun q => nT q.1) (p := fun q => decide (0 < q.2)) (key := fun q => .inl (q.1 : Int)) (g := fun q => tI q.2) rfl nd (blkOk_by (N := ["self", "prices", "free", "until", "told", "size"]) (sc := defScope s_Worth_init) (by decide +kernel))
    (EvI.is (ei_list (ev_callB (call_sortedDI rfl) rfl T.b_sorted bt_sorted (ea_cons (EvE.is (ev_name (i := 4) rfl (.inr (.inl rfl)) rfl) (t2 := tDK ((d.1.map fun q => ((q.1 : Int), tI q.2)).map fun q => (.inl q.1, q.2))) (by unfold pkPs; rw [List.map_map] <;> rfl)) ea_nil) (cb_sortedDI (kvs := d.1.map fun q => ((q.1 : Int), tI q.2)) (pk_asc hk) (by rw [List.length_map]; omega)))) (by rw [List.map_map, List.map_map] <;> rfl)) (by decide) (by omega) (fun _ _ _ _ _ _ _ => tg_name (i := 5) nd rfl (.inl rfl))
    (fun _ _ _ _ _ q hq => ets_one (et_cmp op_gt (ev_dget (ps := pkPs d.1) (k := .inl (q.1 : Int)) hr (ev_name (i := 4) rfl (.inr (.inl rfl)) rfl) (ev_name (i := 5) rfl (.inl rfl) rfl) (pk_look ndk hq)) ev_int bin_I0 (nomark _)))
    (fun _ _ _ _ _ _ _ _ => ev_name (i := 5) rfl (.inl rfl) rfl)
    (fun _ _ _ _ _ q hq _ => ev_dget (ps := pkPs d.1) (k := .inl (q.1 : Int)) hr (ev_name (i := 4) rfl (.inr (.inl rfl)) rfl) (ev_name (i := 5) rfl (.inl rfl) rfl) (pk_look ndk hq))) (t2 := tDK (pkPs (d.1.filter fun q => decide (0 < q.2)))) ?_) (ev_name (i := 0) rfl (.inl rfl) rfl) (.refl _) T.c_Worth T.n_Worth_its_prices (Nat.le_of_ble_eq_true rfl) (by kernel_rfl) fun B H s1 a => ?_
  · rw [foldPs_map]
    · rfl
    · have h1 : (d.1.filter fun q => decide (0 < q.2)).Sublist d.1 := List.filter_sublist
      have h2 := (h1.map (·.1)).nodup ndk
      have h3 : (((d.1.filter fun q => decide (0 < q.2)).map (·.1)).map fun n : Nat => (.inl (n : Int) : Key)).Nodup := List.pairwise_map.mpr (h2.imp fun hab e => hab (by have := Sum.inl.inj e; omega))
      rw [List.map_map] at h3
      exact h3
  refine rs_fld a (ev_name (i := 2) rfl (.inl rfl) rfl) (ev_name (i := 0) rfl (.inl rfl) rfl) (.refl _) T.c_Worth T.n_Worth_its_free (Nat.le_of_ble_eq_true rfl) (by kernel_rfl) fun B H s1 a => ?_
  refine rs_fld a (ev_name (i := 3) rfl (.inl rfl) rfl) (ev_name (i := 0) rfl (.inl rfl) rfl) (.refl _) T.c_Worth T.n_Worth_its_until (Nat.le_of_ble_eq_true rfl) (by kernel_rfl) fun B H s1 a => ?_
  exact rs_nil (k _ _ _ _ _ a)
theorem pkPr_filter {z : Nat} : ∀ {kvs : List (Nat × Int)}, (kvs.map (·.1)).Nodup → (∀ q ∈ kvs, 0 ≤ q.2) → pkPr (kvs.filter fun q => decide (0 < q.2)) z = pkPr kvs z
  | [], _, _ => rfl
  | p :: kvs, nd, h => by
    obtain ⟨n1, n2⟩ := List.nodup_cons.mp nd
    have ih := pkPr_filter (z := z) n2 fun q hq => h q (List.mem_cons_of_mem _ hq)
    have h0 := h p List.mem_cons_self
    unfold pkPr at ih ⊢
    by_cases hp : 0 < p.2
    · rw [List.filter_cons, if_pos (decide_eq_true hp), List.find?_cons, List.find?_cons]
      by_cases hz : p.1 = z
      · rw [decide_eq_true hz]
      · rw [decide_eq_false hz]
        exact ih
    · rw [List.filter_cons, if_neg (by rw [decide_eq_false hp]; decide), ih, List.find?_cons]
      by_cases hz : p.1 = z
      · rw [decide_eq_true hz]
        have e0 : p.2 = 0 := by omega
        have e1 : kvs.find? (fun q => decide (q.1 = z)) = none := List.find?_eq_none.mpr fun q hq e => n1 (List.mem_map.mpr ⟨q, hq, (of_decide_eq_true e).trans hz.symm⟩)
        rw [e1]
        show (0 : Int) = p.2
        rw [e0]
      · rw [decide_eq_false hz]
theorem drel_pk {B : Hp} : ∀ {kvs : List (Nat × Int)} {ws : List (Key × V)}, DRel B (pkPs kvs) ws → ws = kvs.map fun q => (.inl (q.1 : Int), .int q.2)
  | [], _, .nil => rfl
  | _ :: _, _, .cons a r => by
    have e : _ = V.int _ := a
    rw [e, drel_pk r]
    rfl
theorem tIns_wo {d : WA} (hp : d.Ok) {B : Hp} {v : V} (h : (tIns (He.ga K "Worth") (woFts d)).p B v) : (tWo K d.wo).p B v := by
  obtain ⟨a, dx, fs, e, h, r⟩ := h
  cases r with
  | cons r1 r =>
  cases r with
  | cons r2 r =>
  cases r with
  | cons r3 r =>
  cases r
  obtain ⟨t, kvs, e1, h1, q1⟩ := r1
  have e2 : _ = V.int d.2.1 := r2
  have e3 : _ = nI d.2.2 := r3
  subst e1 e2 e3
  rw [drel_pk q1] at h1
  exact ⟨a, dx, t, e, h, _, h1, fun z => pkPr_filter hp.1.asc.nodup fun q hq => (hp.1.pr q hq).1⟩
theorem kb_Worth {fd : FuncData} (F : FunD K d_Worth_init.name d_Worth_init.qual d_Worth_init.params d_Worth_init.body d_Worth_init.scope (d_Worth_init.dvs K) (d_Worth_init.kws K) (He.fAd K d_Worth_init.at_) fd) :
    ∃ g gV, KBn K fd ["self", "prices", "free", "until"] 3 ["until"] g gV ∧ ∀ v vs zs, gV (v :: vs) zs = v :: (vs ++ zs) := by
  obtain ⟨its, mv, h⟩ := F.kbinds 3 ["until"] [] (fun us _ _ ws => us ++ ws) (fun e => nomatch e) (fun e => nomatch e) (fun q hq => nomatch hq) (fun h1 _ _ h2 => h1.append h2)
    fun T D doc pm an cdv ct us its mv ws l1 l2 l3 l4 => match us, its, mv, ws, l1, l2, l3, l4 with
      | [_, _, _], [_, _], [], [_], _, _, _, _ => ⟨_, rfl, show _ = _ from by kernel_rfl⟩
  exact ⟨_, _, h, fun _ _ _ => rfl⟩
end
end Ls
set_option maxHeartbeats 4000000 -- En1
/-! enumerate over a tuple -/
namespace Ls
open PySem Spec PyProof.Rows L2
set_option maxHeartbeats 8000000 in
theorem meets_en1 {v : Value} {ob : Obj} {Hh : Heap → Prop} (Bg : Begins v ob Hh) :
    Meets (Builtin.«enumerate.__new__» ⟨[.type "enumerate", v], []⟩) (fun _ R s => Hh s.heap ∧
      R (.ok (.ret (.ref (s.heap.push ob).objs.size))) { s with heap := (s.heap.push ob).push { cls := .type "enumerate", data := .fields #[.none, .bool false, .ref s.heap.objs.size, rawInt 0, .none, .none] } }) :=
  .of_wp fun prg wd Ar R st hq => by
    obtain ⟨hp, gs, dr, tk, os⟩ := st
    obtain ⟨hb, hq⟩ := hq
    have hsub := sub_enumerate
    have qi : ∀ {A' : Around} {E : Value → Shared → Prop} {Q : Value → Shared → Prop}, Q (.ref hp.objs.size) ⟨hp.push ob, gs, dr, tk, os⟩ → wpAny (model prg wd) A' (pyIter v) Q E ⟨hp, gs, dr, tk, os⟩ :=
      fun z => Bg.iter prg wd _ _ ⟨hp, gs, dr, tk, os⟩ _ hb z
    wp_walk using qi
    refine wpAny_stack_any fun stk => wpAny_pure ?_
    split
    · rename_i cc _ _ _ _ _
      cases (cc == Value.type "enumerate") <;> (wp_walk using qi; exact ⟨_, rfl, hq⟩)
    · wp_walk using qi
      exact ⟨_, rfl, hq⟩
section
variable {prg : Program} {wd : World} {Ar : Around} {E : Value → Shared → Prop} {s : Shared}
theorem call_en1 {v : Value} {ob : Obj} {Hh : Heap → Prop} {Q : Value → Shared → Prop} (Bg : Begins v ob Hh) (hb : Hh s.heap)
    (k : ∀ hn, IsEnum hn (s.heap.objs.size + 1) s.heap.objs.size 0 .none → hn.get? s.heap.objs.size = some ob → hn.objs.size = s.heap.objs.size + 2 → (∀ b o, s.heap.get? b = some o → hn.get? b = some o) → Q (.ref (s.heap.objs.size + 1)) { s with heap := hn }) :
    wpAny (model prg wd) Ar (call (.type "enumerate") [v]) Q E s := by
  refine callType_new F.called_enumerate (by decide) (F.typeCall_enumerate_1 _) (F.newCall_enumerate_1 _) (fun obj => F.args_object_init_2 obj _) F.entry_enumerate_new (meets_en1 Bg) ⟨hb, ?_⟩
  have sz : (s.heap.push ob).objs.size = s.heap.objs.size + 1 := Heap.size_push ..
  show _ ∧ _
  rw [sz]
  have hen : IsEnum ((s.heap.push ob).push { cls := .type "enumerate", data := .fields #[.none, .bool false, .ref s.heap.objs.size, rawInt 0, .none, .none] }) (s.heap.objs.size + 1) s.heap.objs.size 0 .none := by
    have q := Heap.get?_push_size (s.heap.push ob) (o := { cls := .type "enumerate", data := .fields #[.none, .bool false, .ref s.heap.objs.size, rawInt 0, .none, .none] }) rfl
    rw [sz] at q
    exact q
  exact ⟨⟨_, hen, rfl⟩, k _ hen (Heap.get?_push_of_some _ (Heap.get?_push_size _ Bg.free)) (by rw [Heap.size_push, sz]) fun b o x => Heap.get?_push_of_some _ (Heap.get?_push_of_some _ x)⟩
end
theorem next_enT_end {prg : Program} {wd : World} {Ar : Around} {E : Value → Shared → Prop} {s : Shared} {e it a : Addr} {i : Nat} {its : Array Value} {old : Value} {Q : Option Value → Shared → Prop} (hh : Ar.handled = none) (he : IsEnum s.heap e it i old) (hit : s.heap.IsTupleIter it a i) (ht : s.heap.IsTuple a its) (hn : its[i]? = none)
    (k : ∀ h', Heap.ExtBut it s.heap h' → Q none { s with heap := h' }) : wpAny (model prg wd) Ar (pyNext (.ref e)) Q E s := by
  have ty : s.TypeIs (.ref e) "enumerate" := ⟨_, he, rfl⟩
  unfold pyNext
  refine wpAny_bind (wpAny_attempt (wpAny_callSpecial?_slot (name := Str.ofString "__next__") ty F.slot_enumerate_next (wpAny_call_entry F.slot_enumerate_next ty F.entry_enumerate_next ?_ (F.args_enumerate_next_1 _))))
  show wpAny _ _ (field (.ref e) 2 >>= _) _ _ s
  refine wpAny_bind (wpAny_field he rfl (x := .ref it) rfl (wpAny_bind (wpAny_nextOf_tuple_end hh hit ht hn fun h' x he' hx' => ?_)))
  obtain ⟨o, ho, hc⟩ := hx'
  exact wpAny_bind (wpAny_isInstance (T := "StopIteration") (b := true) ⟨o, ho, hc⟩ isSubtype_stop (wpAny_pure (k _ he')))
/-- the tuple at a, each item in a new pair -/
def IteT (K : PySem.W.Frag) (a : Addr) : It :=
  ⟨fun i H => ∃ (xs : List V) (x : V), SqT K H a xs ∧ xs[i]? = some x, fun i H v H' => ∃ T x, v = .ref T ∧ H T = none ∧ H' = upd H T (.tup [.int (i : Nat), x]) ∧ ∀ xs, SqT K H a xs → xs[i]? = some x, fun i H => ∃ xs : List V, SqT K H a xs ∧ xs.length ≤ i⟩
theorem turn_enT {P : Program} {w : World} {K : PySem.W.Frag} {elts : List Expr} {kk : Nat} {tpos : Pos} (a e it : Addr) (hai : a ≠ it) :
    Turn P w K (.Tuple elts kk tpos) (IteT K a) [e, it] e (fun i h => (∃ old, IsEnum h e it ((i : Nat) : Int) old) ∧ h.IsTupleIter it a i ∧ (e ≠ it ∧ a ≠ e)) where
  mem := by simp
  obj := fun i h st b hb => by
    obtain ⟨⟨old, he⟩, ⟨o, ho, hc, hd⟩, _⟩ := st
    rcases (show b = e ∨ b = it by simpa using hb) with z | z
    · rw [z]
      exact ⟨_, he, fun v q => nomatch q⟩
    · rw [z]
      exact ⟨o, ho, fun v q => by rw [hd] at q; cases q⟩
  keep := fun i h h' st k => let ⟨⟨old, he⟩, hi, hne⟩ := st; ⟨⟨old, k e (by simp) _ he⟩, hi.at fun o q => k it (by simp) o q, hne⟩
  item := by
    intro X hP hw hK hc i pins s σ H E I hf st hg
    subst hP hw hK
    obtain ⟨⟨old, he⟩, hit, hne, hae⟩ := st
    obtain ⟨xs, x, hq, hx⟩ := hg
    obtain ⟨its, rv, tp, hz⟩ := I.tuple hq
    obtain ⟨u, hu, ru⟩ := rv.get hx
    have hel : e < s.heap.objs.size := Heap.lt_size he
    have hil : it < s.heap.objs.size := by
      obtain ⟨_, q, _⟩ := hit
      exact Heap.lt_size q
    have hli : i < its.toArray.size := by
      have q := (List.getElem?_eq_some_iff.mp hu).1
      simpa using q
    have Dw := Draws.tuple (prog := X.prog) (w := X.w) (A := X.A.in1) (I.ok.hd hc) it a hai its.toArray
    refine wpAny_pyNext_enum_itemD Dw he ⟨hit, tp⟩ hli hne (by simp [hne, Ne.symm hae]) fun y h' tk hy ho hst' hT hsz hk => ?_
    have ey : y = u := by
      have q : its.toArray[i]? = some u := by simpa using hu
      rw [q] at hy
      cases hy
      rfl
    subst ey
    refine ⟨_, rfl, wpAny_letOwnedTupleGo_enum (s := { s with heap := h', toks := tk + 1 }) ho fun h2 he2 sb => ?_⟩
    have hT2 : h2.get? s.heap.objs.size = some { cls := .type "tuple", data := .seq #[.int i tk, y] } := (sb.2 _ (Nat.ne_of_gt hel)).trans hT
    have new : ObjOk X.prog X.w (upd H s.heap.objs.size (.tup [.int (i : Nat), x])) h2 s.heap.objs.size (.tup [.int (i : Nat), x]) :=
      ⟨by show 2 ≤ sizeLine; decide, [.int i tk, y], .cons ⟨_, rfl⟩ (.cons ru .nil), ⟨_, hT2, rfl, _, rfl⟩⟩
    have I1 : Inv X pins σ (upd H s.heap.objs.size (.tup [.int (i : Nat), x])) { s with heap := h2, toks := tk + 1 } :=
      I.turnedNew (ch := [e, it]) (fun b ob hb q => (sb.2 b (fun z => hb (by simp [z]))).trans (hk b ob (fun z => hb (by simp [z])) (fun z => hb (by simp [z])) q)) hf (Nat.le_refl _) new
    refine ⟨.ref s.heap.objs.size, _, I1, rfl, ⟨_, x, rfl, I.hok.fresh (Nat.le_refl _), rfl, fun ys hy => by rw [I.tuple_inj hy hq]; exact hx⟩, ⟨⟨y, ?_⟩, hst'.1.at fun o q => (sb.2 it (Ne.symm hne)).trans q, hne, hae⟩, fun b hb => ?_⟩
    · have e1 : ((i + 1 : Nat) : Int) = (i : Int) + 1 := by omega
      rw [e1]
      exact he2
    · have hb' : b < s.heap.objs.size := by
        rcases (show b = e ∨ b = it by simpa using hb) with z | z
        · rw [z]; exact hel
        · rw [z]; exact hil
      rw [upd_ne (Nat.ne_of_lt hb')]
      exact (hf b hb).1
  done := by
    intro X hP hw hK hc i pins s σ H E I hf st hg
    subst hP hw hK
    obtain ⟨⟨old, he⟩, hit, hne, hae⟩ := st
    obtain ⟨xs, hq, hx⟩ := hg
    obtain ⟨its, rv, tp, hz⟩ := I.tuple hq
    obtain ⟨f0, f1, f2, f3, f4, f5⟩ := hf it (by simp)
    have hn : its.toArray[i]? = none := by
      have l := rv.length
      simp
      omega
    exact next_enT_end (I.ok.hd hc) he hit tp hn fun h' eb => ⟨rfl, I.turned (t' := s.toks) (fun b o hb q => eb b o hb q) f0 f1 f3 f4 f5⟩
  self := fun A i s Q E st h => let ⟨⟨_, he⟩, _⟩ := st; wpAny_pyIter_enum he h
def iEnT (K : PySem.W.Frag) (ta : TA) : TI := fun σ H R => ta σ H fun vs H1 => ∃ a xs, vs = [.ref a] ∧ SqT K H1 a xs ∧ R (IteT K a) H1
theorem pi_enT {X : Cx} {e : Expr} {ta : TA} {p pos tpos : Pos} {elts : List Expr} {kk : Nat} (hg : Gl X "enumerate") (hm : X.mg "enumerate" = none) (ha : PA X [e] ta) (hs : starEach [e] X.env = [(false, eval e X.env)] := by rfl) :
    PI X (.Tuple elts kk tpos) (.Call (.Name "enumerate" p) [e] [] pos) (iEnT X.K ta) := by
  refine ⟨fun pins s σ H R I hw => ?_⟩
  refine Call_ (ld_blt I hg hm boot_enumerate (PyProof.Rows.callWith_type1 (thn (ha.run pos pins s σ H _ I hw) fun us s1 ⟨vs, H1, I1, r1, a, xs, ex, hq, q⟩ => ?_) hs rfl))
  subst ex
  cases r1 with
  | cons r rr =>
    cases rr
    cases r
    obtain ⟨its, rv, tp, hz⟩ := I1.tuple hq
    have hal : a < s1.heap.objs.size := by
      obtain ⟨_, q, _⟩ := tp
      exact Heap.lt_size q
    refine call_en1 (begins_tuple a its.toArray) tp fun h' he ho hsz hk => wpAny_pyIter_enum he ?_
    have I2 : Inv X pins σ H1 { s1 with heap := h' } := I1.kept (t' := s1.toks) hk
    refine ⟨s1.heap.objs.size + 1, [s1.heap.objs.size + 1, s1.heap.objs.size], _, _, H1, rfl, I2, turn_enT a (s1.heap.objs.size + 1) s1.heap.objs.size (Nat.ne_of_lt hal), ⟨⟨.none, he⟩, ⟨_, ho, rfl, rfl⟩, Nat.succ_ne_self _, Nat.ne_of_lt (Nat.lt_succ_of_lt hal)⟩, fun b hb => ?_, q⟩
    have hle : s1.heap.objs.size ≤ b := by
      rcases (show b = s1.heap.objs.size + 1 ∨ b = s1.heap.objs.size by simpa using hb) with z | z
      · rw [z]; exact Nat.le_add_right _ _
      · rw [z]; exact Nat.le_refl _
    exact I1.fpOk hle (I1.hok.fresh hle)
section
variable [J : Iv] {X : Cx} {Γ : Ctx} {e : Expr} {ts : List Ty} {p pos : Pos}
theorem src_enT {K : PySem.W.Frag} {B : Hp} {a : Addr} {vs : List V} (ha : B a = some (.tup vs)) (r : Tys B ts vs) : Src (IteT K a) B (enTys ts) := by
  have hl : (enTys ts).length = ts.length := by unfold enTys; rw [List.length_map, List.length_zipIdx]
  refine ⟨fun i B2 H2 b1 b2 hi => ?_, fun B2 H2 b1 b2 => ⟨vs, .of (b2 _ _ (b1 _ _ ha)), by rw [hl]; exact Nat.le_of_eq r.length⟩, fun i t B2 H2 x H3 b1 b2 hi y => ?_⟩
  · have hv : i < vs.length := by rw [r.length, ← hl]; exact hi
    exact ⟨vs, vs[i], .of (b2 _ _ (b1 _ _ ha)), by simp [hv]⟩
  · obtain ⟨T, z, e, hT, eH, y⟩ := y
    subst e eH
    obtain ⟨t', e1, e2⟩ := r.getV (y vs (.of (b2 _ _ (b1 _ _ ha))))
    rw [enTys_get, e1] at hi
    cases hi
    have n : Nw nF B2 H2 (upd B2 T (.tup [.int (i : Nat), z])) (upd H2 T (.tup [.int (i : Nat), z])) := .lay b2 hT
    exact ⟨_, n, T, _, rfl, upd_same, .cons rfl (.one (t'.mono (b1.trans n.bb) e2))⟩
theorem ei_enT {elts : List Expr} {kk : Nat} {tpos : Pos} (hg : Gl X "enumerate") (hm : X.mg "enumerate" = none) (h : EvE X Γ e (tT ts)) (hs : starEach [e] X.env = [(false, eval e X.env)] := by rfl) :
    EvI X Γ (.Tuple elts kk tpos) (.Call (.Name "enumerate" p) [e] [] pos) (enTys ts) := fun σ B H s bh R q =>
  ⟨_, pi_enT hg hm pa_c hs, ea_cons h ea_nil hs σ B H s bh _ fun vs B1 H1 n1 r1 => by
    cases r1 with
    | cons r r0 =>
      cases r0
      obtain ⟨a, xs, e1, ea, r2⟩ := r
      subst e1
      exact ⟨a, xs, rfl, .of (n1.bh _ _ ea), q _ B1 H1 n1 (src_enT ea r2)⟩⟩
end
end Ls
set_option maxHeartbeats 4000000 -- D5
/-! Plans. -/
namespace Ls
open PySem Spec PyProof.Rows L2
theorem enTys_map {α : Type} {τ : α → Ty} {xs : List α} : enTys (xs.map τ) = xs.zipIdx.map fun q => tT [nT q.2, τ q.1] := by
  unfold enTys
  rw [List.zipIdx_map, List.map_map]
  rfl
/-- rows of parts -/
structure PlOk (rows : List (List Nat)) : Prop where
  len : 1 ≤ rows.length ∧ rows.length ≤ 5
  row : ∀ r ∈ rows, (1 ≤ r.length ∧ r.length ≤ 5) ∧ ∀ x ∈ r, 1 ≤ x ∧ x ≤ 60
  sum : (rows.map List.sum).sum ≤ 60
def rowStr (row : List Nat) : List (Nat × S3) := (List.range row.length).map fun i => ((row.take i).sum, ⟨if i = 0 then .W else .P, row.getD i 0, if i + 1 = row.length then .W else .P⟩)
def tSe (q : Nat × S3) : Ty := tT [nT q.1, tSt q.2]
def planStr (rows : List (List Nat)) : List (Nat × Nat × S3) := rows.zipIdx.flatMap fun q => (rowStr q.1).map fun p => (q.2, p.1, p.2)
def tRse (q : Nat × Nat × S3) : Ty := tT [nT q.1, nT q.2.1, tSt q.2.2]
theorem rowStr_len (row : List Nat) : (rowStr row).length = row.length := by unfold rowStr; rw [List.length_map, List.length_range]
theorem rowStr_get {row : List Nat} {i x : Nat} (h : row[i]? = some x) : (rowStr row)[i]? = some ((row.take i).sum, ⟨if i = 0 then .W else .P, x, if i + 1 = row.length then .W else .P⟩) := by
  have hl : i < row.length := (List.getElem?_eq_some_iff.mp h).1
  unfold rowStr
  rw [List.getElem?_map, List.getElem?_range hl, Option.map_some, List.getD_eq_getElem?_getD, h]
  rfl
theorem zipIdx_get {α : Type} {xs : List α} {i : Nat} {q : α × Nat} (h : xs.zipIdx[i]? = some q) : q.2 = i ∧ xs[i]? = some q.1 := by
  rw [List.getElem?_zipIdx] at h
  cases e : xs[i]? with
  | none => rw [e] at h; cases h
  | some x =>
    rw [e] at h
    simp at h
    rw [← h]
    exact ⟨rfl, rfl⟩
theorem sum_cast (xs : List Nat) : (xs.map fun x : Nat => (x : Int)).sum = (xs.sum : Int) := by
  induction xs with
  | nil => rfl
  | cons x xs ih => rw [List.map_cons, List.sum_cons, List.sum_cons, ih]; omega
theorem sum_take_succ {xs : List Nat} {i x : Nat} (h : xs[i]? = some x) : (xs.take (i + 1)).sum = (xs.take i).sum + x := by
  rw [take_succ' (J := Jb) h, List.sum_append]
  simp
section
variable [J : Iv] {P : Program} {w : World} {K : PySem.W.Frag} {mg : Str → Option Value} {base : Heap}
def sp_row_stretches : Sp := spF (α := List Nat) (fun r => [tNt r]) (fun r => r.length ≤ 5) (fun r => tL ((rowStr r).map tSe))
theorem sc_row_stretches : FnScope ["row", "found", "seat", "at", "length", "left", "right"] ["row"] (defScope s_row_stretches) := ⟨rfl, rfl, rfl, by decide +kernel, rfl, by decide +kernel, by decide +kernel⟩
theorem nat_eqn {n m : Nat} : decide (V.int (n : Int) = V.int (m : Int)) = decide (n = m) := decide_eq_decide.mpr ⟨fun h => by have := V.int.inj h; omega, fun h => by rw [h]⟩
theorem c_row_stretches (T : Top K mg) : Cal P w K mg base "row_stretches" 1 sp_row_stretches := by
  have nd := sc_row_stretches.nd
  refine cal_F T.f_row_stretches T.g_row_stretches sc_row_stretches (fun _ _ _ _ _ _ us hl => match us, hl with | [_], _ => rfl) (fun _ => rfl) (by decide) fun f cdv cd A outer s H0 E row B0 σ D hr hp a k hn => ?_
  have hp : row.length ≤ 5 := hp
  refine rs_parN1 (i := 1) (j := 2) a (en_lst ea_nil) ev_int rfl nd rfl rfl (by decide) rfl rfl fun l σ B H s1 hl a => ?_
  refine rs_for (xs := row.zipIdx) (τ := fun q => tT [nT q.2, nT q.1]) a rfl (EvI.is (ei_enT rfl T.b_enumerate (ev_name (i := 0) rfl (.inl rfl) rfl)) enTys_map) (fun _ _ => (tg_tup rfl (tgs_cons (tg_name (i := 3) nd rfl (.inl rfl)) (tgs_cons (tg_name (i := 4) nd rfl (.inl rfl)) tgs_nil))))
    (fun i Γ W => (∃ o1 o2 o3 o4, Γ = [some (tNt row), some (tV (.ref l)), some (nT (row.take i).sum), o1, o2, o3, o4]) ∧ W = [(l, oL (((rowStr row).take i).map tSe))]) ⟨⟨_, _, _, _, rfl⟩, rfl⟩ (fun B1 s1 i x Γ1 W1 σ B H hi hI a => ?_) fun Γ1 W1 σ B H s1 hI a => ?_
  · obtain ⟨⟨o1, o2, o3, o4, rfl⟩, rfl⟩ := hI
    obtain ⟨y, j⟩ := x
    obtain ⟨hj, hy⟩ := zipIdx_get hi
    have hj : j = i := hj
    have hy : row[i]? = some y := hy
    subst hj
    refine rs_set (i := 5) (t := tS (En.s (if j = 0 then .W else .P))) a (ev_ifx (EvT.is (et_cmp op_eq (ev_name (i := 3) rfl (.inl rfl) rfl) ev_int (bin_eq rfl) (nomark _)) nat_eq0) (fun hb => EvE.is ev_str ?_) (fun hb => EvE.is ev_str ?_)) nd rfl (.inl rfl) fun σ B H s1 a => ?_
    · rw [if_pos (of_decide_eq_true hb)]
      rfl
    · rw [if_neg (of_decide_eq_false hb)]
      rfl
    have hlen : 1 ≤ row.length := Nat.lt_of_le_of_lt (Nat.zero_le _) (List.getElem?_eq_some_iff.mp hy).1
    refine rs_set (i := 6) (t := tS (En.s (if j + 1 = row.length then .W else .P))) a (ev_ifx (k := decide (j + 1 = row.length)) (EvT.is (et_cmp op_eq (ev_name (i := 3) rfl (.inl rfl) rfl) (ev_bin op_sub (ev_callB call_lenS rfl T.b_len bt_len (ea_cons (ev_name (i := 0) rfl (.inl rfl) rfl) ea_nil) cb_lenT) ev_int bin_I0) (bin_eq rfl) (nomark _)) ?_) (fun hb => EvE.is ev_str ?_) (fun hb => EvE.is ev_str ?_)) nd rfl (.inl rfl) fun σ B H s1 a => ?_
    · refine decide_eq_decide.mpr ⟨fun h => ?_, fun h => ?_⟩
      · have h2 := V.int.inj h
        rw [List.length_map] at h2
        omega
      · rw [List.length_map]
        congr 1
        omega
    · rw [if_pos (of_decide_eq_true hb)]
      rfl
    · rw [if_neg (of_decide_eq_false hb)]
      rfl
    refine rs_append (t := tSe ((row.take j).sum, ⟨if j = 0 then .W else .P, y, if j + 1 = row.length then .W else .P⟩)) a (ev_name (i := 1) rfl (.inl rfl) rfl) (.refl _) (ev_tup (ea_cons (ev_name (i := 2) rfl (.inl rfl) rfl) (ea_cons (ev_tup (ea_cons (ev_name (i := 5) rfl (.inl rfl) rfl) (ea_cons (ev_name (i := 4) rfl (.inl rfl) rfl) (ea_cons (ev_name (i := 6) rfl (.inl rfl) rfl) ea_nil)))) ea_nil))) ?_ (fun B H s1 a => ?_) (he := rfl) (hs := rfl) (hm := pe_bm PySem.F.plainAttrs_list PySem.F.slot_list_append PySem.F.type_list_append mt_append pe_c pa_c)
    · rw [List.length_map, List.length_take, rowStr_len]
      omega
    refine rs_addI (i := 2) a rfl (ev_name (i := 4) rfl (.inl rfl) rfl) nd rfl (.inl rfl) fun σ B H s1 a => rs_nil ?_
    have e1 : ((row.take j).sum : Int) + (y : Int) = ((row.take (j + 1)).sum : Int) := by
      rw [sum_take_succ hy]
      omega
    have e2 : ((rowStr row).take (j + 1)).map tSe = ((rowStr row).take j).map tSe ++ [tSe ((row.take j).sum, ⟨if j = 0 then .W else .P, y, if j + 1 = row.length then .W else .P⟩)] := by
      rw [take_succ' (rowStr_get hy), List.map_append]
      rfl
    rw [e1] at a
    exact ⟨_, _, B, ⟨⟨_, _, _, _, rfl⟩, rfl⟩, a.cs (by rw [e2])⟩
  · obtain ⟨⟨o1, o2, o3, o4, rfl⟩, rfl⟩ := hI
    obtain ⟨B1, b1, a⟩ := a.frzL hl (i := 1) rfl
    refine rs_ret a (ev_name (i := 1) rfl (.inl rfl) rfl) fun v B' H' _ a' r => k v B' H' a'.n ?_
    have e : (rowStr row).take row.zipIdx.length = rowStr row := by
      rw [List.length_zipIdx, ← rowStr_len row, List.take_length]
    rw [e] at r
    exact r
def plFts (rows : List (List Nat)) : List (Str × Ty) := [("its_rows", tL (rows.map tNt)), ("its_seats", tAny)]
def tPl (K : PySem.W.Frag) (rows : List (List Nat)) : Ty := tIns (He.ga K "Plan") (plFts rows)
def sp_Plan_stretches (K : PySem.W.Frag) (rows : List (List Nat)) : Sp := spF (α := Unit) (fun _ => tPl K rows :: []) (fun _ => PlOk rows) (fun _ => tL ((planStr rows).map tRse))
theorem sc_Plan_stretches : FnScope ["self", "found", "at", "row", "seat", "stretch"] ["self"] (defScope s_Plan_stretches) := ⟨rfl, rfl, rfl, by decide +kernel, rfl, by decide +kernel, by decide +kernel⟩
theorem planStr_snoc {rows : List (List Nat)} {i : Nat} {r : List Nat} (h : rows[i]? = some r) : (rows.zipIdx.take (i + 1)).flatMap (fun q => (rowStr q.1).map fun p => (q.2, p.1, p.2)) = (rows.zipIdx.take i).flatMap (fun q => (rowStr q.1).map fun p => (q.2, p.1, p.2)) ++ (rowStr r).map fun p => (i, p.1, p.2) := by
  have e : rows.zipIdx[i]? = some (r, i) := by
    rw [List.getElem?_zipIdx, h]
    simp
  rw [take_succ' e, List.flatMap_append]
  simp
theorem c_Plan_stretches (T : Top K mg) (rows : List (List Nat)) : CalM P w K mg base (He.ga K "Plan") "stretches" 2 (sp_Plan_stretches K rows) := by
  have nd := sc_Plan_stretches.nd
  have C_row_stretches := c_row_stretches (P := P) (w := w) (base := base) T
  refine calM_F (d := d_Plan_stretches) (N := ["self", "found", "at", "row", "seat", "stretch"]) (ps := ["self"]) T.f_Plan_stretches T.t_Plan_stretches sc_Plan_stretches (fun _ _ _ _ _ _ us hl => match us, hl with | [_], _ => rfl) (fun _ => rfl) (by decide) fun f cdv cd A outer s H0 E d B0 σ D hr hp a k hn => ?_
  have hl5 : rows.length ≤ 5 := hp.len.2
  refine rs_setN (i := 1) a (en_lst ea_nil) nd rfl (.inl rfl) fun l σ B H s1 hl a => ?_
  refine rs_for (xs := rows.zipIdx) (τ := fun q => tT [nT q.2, tNt q.1]) a rfl (EvI.is (ei_enum rfl T.b_enumerate (ev_ifld (fts := plFts rows) (t := tL (rows.map tNt)) T.c_Plan T.n_Plan_its_rows (ev_name (i := 0) rfl (.inl rfl) rfl) rfl)) enTys_map) (fun _ _ => (tg_tup rfl (tgs_cons (tg_name (i := 2) nd rfl (.inr rfl)) (tgs_cons (tg_name (i := 3) nd rfl (.inl rfl)) tgs_nil))))
    (fun i Γ W => (∃ o1 o2 o3 o4, Γ = [some (tPl K rows), some (tV (.ref l)), o1, o2, o3, o4]) ∧ W = [(l, oL (((rows.zipIdx.take i).flatMap fun q => (rowStr q.1).map fun p => (q.2, p.1, p.2)).map tRse))]) ⟨⟨_, _, _, _, rfl⟩, rfl⟩ (fun B1 s1 i x Γ1 W1 σ B H hi hI a => ?_) fun Γ1 W1 σ B H s1 hI a => ?_
  · obtain ⟨⟨o1, o2, o3, o4, rfl⟩, rfl⟩ := hI
    obtain ⟨r, j⟩ := x
    obtain ⟨hj, hy⟩ := zipIdx_get hi
    have hj : j = i := hj
    have hy : rows[i]? = some r := hy
    subst hj
    have hr5 : r.length ≤ 5 := (hp.row r (List.mem_of_getElem? hy)).1.2
    refine rs_extend (us := ((rowStr r).map fun p => (j, p.1, p.2)).map tRse) a (ev_name (i := 1) rfl (.inl rfl) rfl) (.refl _) (EvE.is (ev_lc (own := [("seat", 4), ("stretch", 5)]) (xs := rowStr r) (τ := tSe) (p := fun _ => true) (g := fun p => tRse (j, p.1, p.2)) rfl nd (blkOk_by (N := ["self", "found", "at", "row", "seat", "stretch"]) (sc := defScope s_Plan_stretches) (by decide +kernel)) (ei_list (ev_call C_row_stretches (hr.mono (by decide)) rfl (d := r) (ea_cons (ev_name (i := 3) rfl (.inl rfl) rfl) ea_nil) hr5)) (by decide) (by rw [rowStr_len]; omega)
      (fun _ _ _ _ _ _ _ => (tg_tup rfl (tgs_cons (tg_name (i := 4) nd rfl (.inl rfl)) (tgs_cons (tg_name (i := 5) nd rfl (.inl rfl)) tgs_nil)))) (fun _ _ _ _ _ _ _ => ets_nil) (fun _ _ _ _ _ _ _ => fun _ => (ev_tup (ea_cons (ev_name (i := 2) rfl (.inr (.inl rfl)) rfl) (ea_cons (ev_name (i := 4) rfl (.inl rfl) rfl) (ea_cons (ev_name (i := 5) rfl (.inl rfl) rfl) ea_nil)))))) (by rw [filter_yes, List.map_map]; rfl)) ?_ (fun B H s1 a => rs_nil ⟨_, _, B, ⟨⟨_, _, _, _, rfl⟩, rfl⟩, a.cs (by rw [planStr_snoc hy, List.map_append])⟩) (he := rfl) (hs := rfl) (hm := pe_bm PySem.F.plainAttrs_list PySem.F.slot_list_extend PySem.F.type_list_extend mt_extend pe_c pa_c)
    · rw [List.length_map, List.length_map, List.length_map, rowStr_len]
      have h1 := flat_len (fun q : List Nat × Nat => (rowStr q.1).map fun p => (q.2, p.1, p.2)) 5 (rows.zipIdx.take j) fun q hq => by
        rw [List.length_map, rowStr_len]
        obtain ⟨n, hn⟩ := List.mem_iff_getElem?.mp (List.mem_of_mem_take hq)
        exact (hp.row q.1 (List.mem_of_getElem? (zipIdx_get hn).2)).1.2
      have h2 : (rows.zipIdx.take j).length ≤ 5 := Nat.le_trans (List.length_take_le' ..) (by rw [List.length_zipIdx]; exact hl5)
      omega
  · obtain ⟨⟨o1, o2, o3, o4, rfl⟩, rfl⟩ := hI
    obtain ⟨B1, b1, a⟩ := a.frzL hl (i := 1) rfl
    refine rs_ret a (ev_name (i := 1) rfl (.inl rfl) rfl) fun v B' H' _ a' r => k v B' H' a'.n ?_
    rw [List.take_length] at r
    exact r
end
end Ls
set_option maxHeartbeats 4000000 -- Sm1
/-! sum of a tuple of numbers -/
namespace Ls
open PySem Spec PyProof.Rows L2
theorem sum_pre (ns : List Int) : ∀ n, n ≤ ns.length → preSum (fun i => ns.getD i 0) n = (ns.take n).sum
  | 0, _ => rfl
  | n + 1, h => by
    have e : ns[n]? = some ns[n] := by simp [show n < ns.length by omega]
    rw [preSum, sum_pre ns n (by omega), take_succ' (J := Jb) e, List.sum_append, List.getD_eq_getElem?_getD, e]
    simp
theorem sum_tup {prg : Program} {wd : World} {Ar : Around} {E : Value → Shared → Prop} {s : Shared} {a : Addr} {its : List Value} {ns : List Int} {Q : Value → Shared → Prop} (hh : Ar.handled = none) (ht : s.heap.IsTuple a its.toArray) (hi : IntsAre its ns)
    (k : ∀ h' tk t', (∀ b o, s.heap.get? b = some o → h'.get? b = some o) → Q (.int ns.sum t') { s with heap := h', toks := tk }) : wpAny (model prg wd) Ar (call (.builtin "sum") [.ref a]) Q E s := by
  have hal : a < s.heap.objs.size := by
    obtain ⟨_, q, _⟩ := ht
    exact Heap.lt_size q
  refine call_sum_walkG (wpAny_pyIter_tuple ht ?_)
  refine ⟨s.heap.objs.size, _, _, _, _, _, fun i => ns.getD i 0, rfl, Walks.tuple (A := Ar.in1) hh _ a (Nat.ne_of_lt hal) its.toArray, ⟨⟨_, Heap.get?_push_size _ rfl, rfl, rfl⟩, ht.at fun o e => Heap.get?_push_of_some _ e⟩, fun b hb => ?_, fun i v hv => ?_, fun h' tk t' hk => ?_⟩
  · rcases (show b = s.heap.objs.size ∨ b = a by simpa using hb) with z | z
    · rw [z, Heap.size_push]; exact Nat.lt_succ_self _
    · rw [z, Heap.size_push]; exact Nat.lt_succ_of_lt hal
  · exact PyProof.Rows.IntsAre.int_at hi i v (by simpa using hv)
  · have l := hi.length
    have q := k h' tk t' fun b o e => hk b o (by simp only [List.mem_singleton]; exact Nat.ne_of_lt (Heap.lt_size e)) (Heap.get?_push_of_some _ e)
    have e : preSum (fun i => ns.getD i 0) its.toArray.size = ns.sum := by
      rw [List.size_toArray, l, sum_pre ns _ (Nat.le_refl _), List.take_length]
    rw [e]
    exact q
section
variable {X : Cx}
def rSumT (K : PySem.W.Frag) : List V → Hp → VK → Prop := fun vs H Q => ∃ (a : Addr) (ns : List Int), vs = [V.ref a] ∧ SqT K H a (ns.map V.int) ∧ Q (.int ns.sum) H
theorem cr_sumT (hc : X.calm = true) : CallR X (.builtin "sum") (rSumT X.K) := by
  intro pins s σ H vs us Q I r h
  obtain ⟨a, ns, rfl, hs, q⟩ := h
  obtain ⟨its, rv, tp, _⟩ := I.tuple hs
  rw [Vals.ref1 r]
  exact sum_tup (I.ok.hd hc) tp rv.ints fun h' tk t' hk => ⟨.int _, H, I.kept hk, ⟨_, rfl⟩, q⟩
variable [J : Iv]
theorem cb_sumT {K : PySem.W.Frag} {ns : List Int} : Cb (rSumT K) [tT (ns.map tI)] (tI ns.sum) := fun vs B H Q bh r q => by
  cases r with
  | cons r1 r0 =>
    cases r0
    obtain ⟨a, xs, e, h, r⟩ := r1
    subst e
    rw [tys_ints r] at h
    exact ⟨a, ns, rfl, .of (bh _ _ h), q _ B H (.refl bh) rfl⟩
end
end Ls
set_option maxHeartbeats 4000000 -- D6
/-! Plans are made. -/
namespace Ls
open PySem Spec PyProof.Rows L2
section
variable [J : Iv] {P : Program} {w : World} {K : PySem.W.Frag} {mg : Str → Option Value} {base : Heap}
structure RowOk (r : List Nat) : Prop where
  l1 : 1 ≤ r.length
  l5 : r.length ≤ 5
  el : ∀ x ∈ r, 1 ≤ x ∧ x ≤ 60
theorem PlOk.rowOk {rows : List (List Nat)} (h : PlOk rows) {r : List Nat} (hr : r ∈ rows) : RowOk r := ⟨(h.row r hr).1.1, (h.row r hr).1.2, (h.row r hr).2⟩
theorem all_true {α : Type} (xs : List α) : (xs.map fun _ => true).all id = true := by rw [List.all_map]; exact List.all_eq_true.mpr fun _ _ => rfl
theorem At.weakC {F : Addr → Prop} {B0 H0 Bg : Hp} {Γ : Ctx} {W : Cells} {σ : L2.St} {B H : Hp} {l : Addr} {ot ot' : OT} (a : At F B0 H0 Bg Γ ((l, ot) :: W) σ B H) (h : ∀ B o, ot.p B o → ot'.p B o) : At F B0 H0 Bg Γ ((l, ot') :: W) σ B H :=
  ⟨a.s, a.n, a.g, fun q hq => by
    rcases List.mem_cons.mp hq with e | hq
    · subst e
      obtain ⟨h1, h2, o, h3, h4⟩ := a.cell
      exact ⟨h1, h2, o, h3, h B o h4⟩
    · exact a.o.each q (List.mem_cons_of_mem _ hq), a.o.apart⟩
theorem EvIS.is {X : Cx} {σ : L2.St} {B H : Hp} {tg e : Expr} {t1 t2 : List Ty} (h : EvIS X σ B H tg e t1) (ht : t1 = t2) : EvIS X σ B H tg e t2 := ht ▸ h
theorem rg0 {n : Nat} : rgTys 0 ((n : Int).toNat) = (List.range n).map nT := by
  unfold rgTys
  rw [Int.toNat_natCast]
  exact List.map_congr_left fun i _ => by rw [Int.zero_add]
def sp_is_row : Sp := spF (α := List Nat) (fun r => [tNs r]) RowOk (fun _ => tB true)
theorem sc_is_row : FnScope ["thing", "length"] ["thing"] (defScope s_is_row) := ⟨rfl, rfl, rfl, by decide +kernel, rfl, by decide +kernel, by decide +kernel⟩
theorem ends15 {n : Nat} (h1 : 1 ≤ n) (h5 : n ≤ 5) : (!true || !(decide ((1 : Int) ≤ (n : Int)) && decide ((n : Int) ≤ 5))) = false := by
  rw [decide_eq_true (show (1 : Int) ≤ (n : Int) by omega), decide_eq_true (show (n : Int) ≤ 5 by omega)]
  rfl
theorem c_is_row (T : Top K mg) : Cal P w K mg base "is_row" 2 sp_is_row := by
  have nd := sc_is_row.nd
  have C_is_integer := c_is_integer (P := P) (w := w) (base := base) T
  refine cal_F T.f_is_row T.g_is_row sc_is_row (fun _ _ _ _ _ _ us hl => match us, hl with | [_], _ => rfl) (fun _ => rfl) (by decide) fun f cdv cd A outer s H0 E d B0 σ D hr hp a k hn => ?_
  have h5 : d.length ≤ 5 := hp.l5
  refine rs_when a (EvT.is (k2 := false) (et_w (ew_or (et_not (et_val (ev_callB call_isiT rfl T.b_isinstance bt_isinstance (ea_cons (ev_name (i := 0) rfl (.inl rfl) rfl) (ea_cons (ev_tup (ea_cons (ev_bty rfl T.b_list bt_list) (ea_cons (ev_bty rfl T.b_tuple bt_tuple) ea_nil))) ea_nil)) (cb_isiT isTy_lst kt_list_list kt_list_tuple)))) (fun _ => (ew_or1 (et_not (et_chain op_le op_le ev_int (ev_callB call_lenS rfl T.b_len bt_len (ea_cons (ev_name (i := 0) rfl (.inl rfl) rfl) ea_nil) (cb_lenL)) (ev_gint rfl T.i_MOST_PARTS) bin_I0 bin_I0)))))) (by rw [List.length_map]; exact ends15 hp.l1 hp.l5)) (fun hb => nomatch hb) fun hb B H s1 a => ?_
  refine rs_ret a (ev_callB (cr_all rfl) rfl T.b_all bt_all (ea_cons (EvE.is (ev_lc (own := [("length", 1)]) (xs := d) (τ := nT) (p := fun _ => true) (g := fun _ => tB true) rfl nd (blkOk_by (N := ["thing", "length"]) (sc := defScope s_is_row) (by decide +kernel)) (ei_list (ev_name (i := 0) rfl (.inl rfl) rfl)) (by decide) (by omega) (fun _ _ _ _ _ _ _ => (tg_name (i := 1) nd rfl (.inl rfl))) (fun _ _ _ _ _ _ _ => ets_nil)
    (fun _ _ _ _ _ x hx => fun _ => EvE.isB (ev_and (ev_call C_is_integer (hr.mono (by decide)) rfl (d := (x : Int)) (ea_cons (ev_name (i := 1) rfl (.inl rfl) rfl) ea_nil) trivial) (fun _ => (ev_one (ev_chain op_le op_le ev_int (ev_name (i := 1) rfl (.inl rfl) rfl) (ev_gint rfl T.i_MOST_SEATS) bin_I0 bin_I0)))) (by
      obtain ⟨h1, h2⟩ := hp.el x hx
      rw [decide_eq_true (by omega), decide_eq_true (by omega)]
      rfl))) (t2 := tL ((d.map fun _ => true).map tB)) (by rw [filter_yes, List.map_map]; rfl)) ea_nil) cb_all) fun v B' H' _ a' r => k v B' H' a'.n ?_
  rw [all_true] at r
  exact r
def sp_are_rows : Sp := spF (α := List (List Nat)) (fun r => [tL (r.map tNs)]) PlOk (fun _ => tB true)
theorem sc_are_rows : FnScope ["thing", "row"] ["thing"] (defScope s_are_rows) := ⟨rfl, rfl, rfl, by decide +kernel, rfl, by decide +kernel, by decide +kernel⟩
theorem c_are_rows (T : Top K mg) : Cal P w K mg base "are_rows" 3 sp_are_rows := by
  have nd := sc_are_rows.nd
  have C_is_row := c_is_row (P := P) (w := w) (base := base) T
  refine cal_F T.f_are_rows T.g_are_rows sc_are_rows (fun _ _ _ _ _ _ us hl => match us, hl with | [_], _ => rfl) (fun _ => rfl) (by decide) fun f cdv cd A outer s H0 E d B0 σ D hr hp a k hn => ?_
  have h5 : d.length ≤ 5 := hp.len.2
  refine rs_when a (EvT.is (k2 := false) (et_w (ew_or (et_not (et_val (ev_callB call_isiT rfl T.b_isinstance bt_isinstance (ea_cons (ev_name (i := 0) rfl (.inl rfl) rfl) (ea_cons (ev_tup (ea_cons (ev_bty rfl T.b_list bt_list) (ea_cons (ev_bty rfl T.b_tuple bt_tuple) ea_nil))) ea_nil)) (cb_isiT isTy_lst kt_list_list kt_list_tuple)))) (fun _ => (ew_or1 (et_not (et_chain op_le op_le ev_int (ev_callB call_lenS rfl T.b_len bt_len (ea_cons (ev_name (i := 0) rfl (.inl rfl) rfl) ea_nil) (cb_lenL)) (ev_gint rfl T.i_MOST_ROWS) bin_I0 bin_I0)))))) (by rw [List.length_map]; exact ends15 hp.len.1 hp.len.2)) (fun hb => nomatch hb) fun hb B H s1 a => ?_
  refine rs_ret a (EvE.isB (k2 := true) (ev_and (ev_callB (cr_all rfl) rfl T.b_all bt_all (ea_cons (EvE.is (ev_lc (own := [("row", 1)]) (xs := d) (τ := tNs) (p := fun _ => true) (g := fun _ => tB true) rfl nd (blkOk_by (N := ["thing", "row"]) (sc := defScope s_are_rows) (by decide +kernel)) (ei_list (ev_name (i := 0) rfl (.inl rfl) rfl)) (by decide) (by omega) (fun _ _ _ _ _ _ _ => (tg_name (i := 1) nd rfl (.inl rfl))) (fun _ _ _ _ _ _ _ => ets_nil) (fun _ _ _ _ _ r hr2 => fun _ => (ev_call C_is_row (hr.mono (by decide)) rfl (d := r) (ea_cons (ev_name (i := 1) rfl (.inl rfl) rfl) ea_nil) (hp.rowOk hr2)))) (t2 := tL ((d.map fun _ => true).map tB)) (by rw [filter_yes, List.map_map]; rfl)) ea_nil) cb_all)
    (fun _ => (ev_one (ev_cmp op_le (ev_callB (cr_sum rfl) rfl T.b_sum bt_sum (ea_cons (EvE.is (ev_lc (own := [("row", 1)]) (xs := d) (τ := tNs) (p := fun _ => true) (g := fun r => nT r.sum) rfl nd (blkOk_by (N := ["thing", "row"]) (sc := defScope s_are_rows) (by decide +kernel)) (ei_list (ev_name (i := 0) rfl (.inl rfl) rfl)) (by decide) (by omega) (fun _ _ _ _ _ _ _ => (tg_name (i := 1) nd rfl (.inl rfl))) (fun _ _ _ _ _ _ _ => ets_nil) (fun _ _ _ _ _ r _ => fun _ => EvE.is (ev_callB (cr_sum rfl) rfl T.b_sum bt_sum (ea_cons (EvE.is (ev_name (i := 1) rfl (.inl rfl) rfl) (congrArg tL (nat_tys r))) ea_nil) cb_sum) (congrArg tI (sum_cast r)))) (t2 := tL (((d.map List.sum).map fun x : Nat => (x : Int)).map tI)) (by rw [filter_yes, List.map_map, List.map_map]; rfl)) ea_nil) cb_sum) (ev_gint rfl T.i_MOST_SEATS) bin_I0 (nomark _))))) ?_) fun v B' H' _ a' r => k v B' H' a'.n r
  rw [all_true, sum_cast]
  have := hp.sum
  exact decide_eq_true (by omega)
theorem sc_Plan_init : FnScope ["self", "rows", "at", "row", "seat"] ["self", "rows"] (defScope s_Plan_init) := ⟨rfl, rfl, rfl, by decide +kernel, rfl, by decide +kernel, by decide +kernel⟩
def plArgs (rows : List (List Nat)) : List Ty := [tL (rows.map tNs)]
theorem c_Plan_init (T : Top K mg) : ∃ fd, FunD K d_Plan_init.name d_Plan_init.qual d_Plan_init.params d_Plan_init.body d_Plan_init.scope (d_Plan_init.dvs K) (d_Plan_init.kws K) (He.fAd K d_Plan_init.at_) fd ∧ FnOk P w K mg base CX0 4 (He.fAd K d_Plan_init.at_) fd ["self", "rows"] (spI (He.ga K "Plan") plArgs PlOk plFts) := by
  have nd := sc_Plan_init.nd
  have C_are_rows := c_are_rows (P := P) (w := w) (base := base) T
  obtain ⟨fd, Fd⟩ := T.f_Plan_init
  refine ⟨fd, Fd, ok_I Fd sc_Plan_init (fun _ => rfl) (by decide) fun cdv cd A outer s H0 E rows B0 x dx σ D hr hp a k => ?_⟩
  have h5 : rows.length ≤ 5 := hp.len.2
  refine rs_when a (et_not (et_val (ev_call C_are_rows (hr.mono (by decide)) rfl (d := rows) (ea_cons (ev_name (i := 1) rfl (.inl rfl) rfl) ea_nil) hp))) (fun hb => absurd hb (by decide)) fun hb B H s1 a => ?_
  refine rs_fld a (EvE.is (ev_lc (own := [("row", 3)]) (xs := rows) (τ := tNs) (p := fun _ => true) (g := tNt) rfl nd (blkOk_by (N := ["self", "rows", "at", "row", "seat"]) (sc := defScope s_Plan_init) (by decide +kernel)) (ei_list (ev_name (i := 1) rfl (.inl rfl) rfl)) (by decide) (by omega) (fun _ _ _ _ _ _ _ => (tg_name (i := 3) nd rfl (.inl rfl))) (fun _ _ _ _ _ _ _ => ets_nil) (fun _ _ _ _ _ _ _ => fun _ => (ev_callTy call_tuple_of rfl T.b_tuple bt_tuple (ea_cons (ev_name (i := 3) rfl (.inl rfl) rfl) ea_nil) cb_tuple))) (t2 := tL (rows.map tNt)) (by rw [filter_yes])) (ev_name (i := 0) rfl (.inl rfl) rfl) (.refl _) T.c_Plan T.n_Plan_its_rows (Nat.le_of_ble_eq_true rfl) (by kernel_rfl) fun B H s1 a => ?_
  refine rs_fldN a (en_lst ea_nil) (ev_name (i := 0) rfl (.inl rfl) rfl) (.refl _) T.c_Plan T.n_Plan_its_seats (Nat.le_of_ble_eq_true rfl) (by kernel_rfl) fun l B H s1 hl a => ?_
  let fI : Addr → List (Str × Ty) := fun l => [] ++ [(("its_rows" : Str), tL (rows.map tNt))] ++ [(("its_seats" : Str), tV (.ref l))]
  refine rs_forS (xs := rows.zipIdx) (τ := fun q => tT [nT q.2, tNt q.1]) a rfl (EvIS.is (eis_enum rfl T.b_enumerate (es_own a (ev_name (i := 0) rfl (.inl rfl) rfl) List.mem_cons_self T.c_Plan T.n_Plan_its_rows (t := tL (rows.map tNt)) rfl)) enTys_map) (fun _ _ => (tg_tup rfl (tgs_cons (tg_name (i := 2) nd rfl (.inr rfl)) (tgs_cons (tg_name (i := 3) nd rfl (.inl rfl)) tgs_nil))))
    (fun i Γ W => (∃ o1 o2 o3, Γ = [some (tV (.ref x)), some (tL (rows.map tNs)), o1, o2, o3]) ∧ ∃ ts : List Ty, ts.length = ((rows.take i).map List.sum).sum ∧ W = [(x, oI (He.ga K "Plan") dx (fI l)), (l, oL ts)]) ⟨⟨_, _, _, rfl⟩, [], rfl, rfl⟩ (fun B1 s1 i q Γ1 W1 σ B H hi hI a => ?_) fun Γ1 W1 σ B H s1 hI a => ?_
  · obtain ⟨⟨o1, o2, o3, rfl⟩, ts, hts, rfl⟩ := hI
    obtain ⟨r, j⟩ := q
    obtain ⟨hj, hy⟩ := zipIdx_get hi
    have hj : j = i := hj
    have hy : rows[i]? = some r := hy
    subst hj
    have hs2 : ((rows.take (j + 1)).map List.sum).sum = ((rows.take j).map List.sum).sum + r.sum := by
      rw [take_succ' (J := Jb) hy, List.map_append, List.sum_append]
      simp
    have hs3 : ((rows.take (j + 1)).map List.sum).sum ≤ 60 := by
      have h1 := hp.sum
      have h2 : (rows.map List.sum).sum = ((rows.take (j + 1)).map List.sum).sum + ((rows.drop (j + 1)).map List.sum).sum := by
        rw [← List.sum_append, ← List.map_append, List.take_append_drop]
      omega
    refine rs_extendS (us := (List.range r.sum).map fun m => tT [nT j, nT m]) a (es_own a (ev_name (i := 0) rfl (.inl rfl) rfl) List.mem_cons_self T.c_Plan T.n_Plan_its_seats (t := tV (.ref l)) (by kernel_rfl)) (List.Perm.swap _ _ _) (EvE.is (ev_lc (own := [("seat", 4)]) (xs := List.range r.sum) (τ := nT) (p := fun _ => true) (g := fun m => tT [nT j, nT m]) rfl nd (blkOk_by (N := ["self", "rows", "at", "row", "seat"]) (sc := defScope s_Plan_init) (by decide +kernel))
      (EvI.is (ei_rng1 (n := (r.sum : Int)) rfl T.b_range (EvE.is (ev_callB (cr_sumT rfl) rfl T.b_sum bt_sum (ea_cons (EvE.is (ev_name (i := 3) rfl (.inl rfl) rfl) (congrArg tT (nat_tys r))) ea_nil) cb_sumT) (congrArg tI (sum_cast r))) (by omega)) rg0) (by decide) (by rw [List.length_range]; omega) (fun _ _ _ _ _ _ _ => (tg_name (i := 4) nd rfl (.inl rfl))) (fun _ _ _ _ _ _ _ => ets_nil) (fun _ _ _ _ _ _ _ => fun _ => (ev_tup (ea_cons (ev_name (i := 2) rfl (.inr (.inl rfl)) rfl) (ea_cons (ev_name (i := 4) rfl (.inl rfl) rfl) ea_nil))))) (by rw [filter_yes])) ?_ (fun B H s1 a => rs_nil ⟨_, _, B, ⟨⟨_, _, _, rfl⟩, ts ++ _, ?_, rfl⟩, a.perm (List.Perm.swap _ _ _)⟩)
      (he := rfl) (hs := rfl) (hm := pe_bm PySem.F.plainAttrs_list PySem.F.slot_list_extend PySem.F.type_list_extend mt_extend pe_c pa_c)
    · rw [List.length_map, List.length_range]
      omega
    · rw [List.length_append, List.length_map, List.length_range, hs2, hts]
  · obtain ⟨⟨o1, o2, o3, rfl⟩, ts, hts, rfl⟩ := hI
    refine rs_nil (k _ _ _ _ _ (a.weakC (ot' := oI (He.ga K "Plan") dx (plFts rows)) fun B o ⟨fs, e, r⟩ => ⟨fs, e, ?_⟩))
    cases r with
    | cons r1 r =>
    cases r with
    | cons r2 r =>
    cases r
    exact .cons r1 (.cons trivial .nil)
end
end Ls
set_option maxHeartbeats 1000000 -- Ma2
/-! The best totals. -/
namespace Ls
open PySem
/-- the least, the greatest of some numbers -/
def pick (low : Bool) : List Int → Int
  | [] => 0
  | [x] => x
  | x :: y :: r => if low then (if x < pick low (y :: r) then x else pick low (y :: r)) else (if pick low (y :: r) < x then x else pick low (y :: r))
theorem pick_mem (low : Bool) : ∀ {xs : List Int}, xs ≠ [] → pick low xs ∈ xs
  | [], h => absurd rfl h
  | [x], _ => by simp [pick]
  | x :: y :: r, _ => by
    have ih := pick_mem low (xs := y :: r) (by simp)
    rw [pick]
    cases low
    · rw [if_neg (by decide)]
      split
      · exact List.mem_cons_self
      · exact List.mem_cons_of_mem _ ih
    · rw [if_pos rfl]
      split
      · exact List.mem_cons_self
      · exact List.mem_cons_of_mem _ ih
theorem pick_max : ∀ {xs : List Int} {y : Int}, y ∈ xs → y ≤ pick false xs
  | [], _, h => by cases h
  | [x], y, h => by
    simp at h
    simp [pick, h]
  | x :: z :: r, y, h => by
    rw [pick, if_neg (by decide)]
    rcases List.mem_cons.mp h with e | h
    · subst e
      split <;> omega
    · have ih := pick_max h
      split <;> omega
theorem pick_min : ∀ {xs : List Int} {y : Int}, y ∈ xs → pick true xs ≤ y
  | [], _, h => by cases h
  | [x], y, h => by
    simp at h
    simp [pick, h]
  | x :: z :: r, y, h => by
    rw [pick, if_pos rfl]
    rcases List.mem_cons.mp h with e | h
    · subst e
      split <;> omega
    · have ih := pick_min h
      split <;> omega
/-- the ways of a stretch: to end, or a sale and the best behind it -/
def waysV (R : Ru) (W : Wo) (s : S3) (f : S3 → Int) : List (Int × Option (Nat × Nat)) :=
  (if mayEnd R W s = true then [(W.free * (s.n : Int), none)] else []) ++ (sales R s).map fun q => (W.price q.1 + (f (pL s q.2) + f (pR s q.1 q.2)), some q)
def bst (R : Ru) (W : Wo) (low : Bool) : Nat → S3 → Int
  | 0, _ => 0
  | k + 1, s => pick low ((waysV R W s (bst R W low k)).map (·.1))
def best (R : Ru) (W : Wo) (low : Bool) (s : S3) : Int := bst R W low (s.n + 1) s
theorem sale_fit {R : Ru} (h : R.Ok) {s : S3} {q : Nat × Nat} (hq : q ∈ sales R s) : 1 ≤ q.1 ∧ q.1 ≤ 5 ∧ q.2 + q.1 ≤ s.n := by
  obtain ⟨h1, h2⟩ := mem_sales.mp hq
  obtain ⟨h3, h4⟩ := h.sz.2 q.1 h1
  exact ⟨h3, h4, offers_fit h2⟩
theorem ways_congr {R : Ru} (h : R.Ok) {W : Wo} {s : S3} {f g : S3 → Int} (e : ∀ t : S3, t.n < s.n → f t = g t) : waysV R W s f = waysV R W s g := by
  unfold waysV
  congr 1
  refine List.map_congr_left fun q hq => ?_
  obtain ⟨h1, h2, h3⟩ := sale_fit h hq
  rw [e (pL s q.2) (by show q.2 < s.n; omega), e (pR s q.1 q.2) (by show s.n - q.1 - q.2 < s.n; omega)]
theorem bst_eq {R : Ru} (h : R.Ok) {W : Wo} {low : Bool} : ∀ (k : Nat) (s : S3), s.n < k → bst R W low k s = best R W low s := by
  have core : ∀ (n k j : Nat) (s : S3), s.n ≤ n → s.n < k → s.n < j → bst R W low k s = bst R W low j s := by
    intro n
    induction n with
    | zero =>
      intro k j s h0 hk hj
      obtain ⟨k, rfl⟩ : ∃ m, k = m + 1 := ⟨k - 1, by omega⟩
      obtain ⟨j, rfl⟩ : ∃ m, j = m + 1 := ⟨j - 1, by omega⟩
      show pick low _ = pick low _
      rw [ways_congr h fun t ht => by omega]
    | succ n ih =>
      intro k j s h0 hk hj
      obtain ⟨k, rfl⟩ : ∃ m, k = m + 1 := ⟨k - 1, by omega⟩
      obtain ⟨j, rfl⟩ : ∃ m, j = m + 1 := ⟨j - 1, by omega⟩
      show pick low _ = pick low _
      rw [ways_congr h fun t ht => ih k j t (by omega) (by omega) (by omega)]
  intro k s hk
  exact core s.n k (s.n + 1) s (Nat.le_refl _) hk (Nat.lt_succ_self _)
theorem best_eq {R : Ru} (h : R.Ok) (W : Wo) (low : Bool) (s : S3) : best R W low s = pick low ((waysV R W s (best R W low)).map (·.1)) := by
  show pick low ((waysV R W s (bst R W low s.n)).map (·.1)) = _
  rw [ways_congr h fun t ht => bst_eq h s.n t ht]
theorem ways_ne {R : Ru} {W : Wo} (hf : Fits R W) (s : S3) (f : S3 → Int) : waysV R W s f ≠ [] := by
  intro e
  obtain ⟨e1, e2⟩ := List.append_eq_nil_iff.mp e
  have e2 := List.map_eq_nil_iff.mp e2
  have h0 : ∀ z ∈ R.sizes, offers R s z = [] := fun z hz => by
    cases q : offers R s z with
    | nil => rfl
    | cons b r =>
      have hm : (z, b) ∈ sales R s := mem_sales.mpr ⟨hz, by rw [q]; exact List.mem_cons_self⟩
      rw [e2] at hm
      cases hm
  have hm : mayEnd R W s = true := by
    unfold mayEnd
    split
    · exact List.all_eq_true.mpr fun z hz => decide_eq_true (h0 z hz)
    · rename_i ht
      exact decide_eq_true (h0 _ (hf.resolve_left ht))
  rw [if_pos hm] at e1
  cases e1
theorem ways_len {R : Ru} (h : R.Ok) {W : Wo} (s : S3) (f : S3 → Int) : (waysV R W s f).length ≤ 5 * (s.n + 2) + 1 := by
  unfold waysV
  rw [List.length_append, List.length_map]
  have := sales_len h s
  split
  · rw [List.length_singleton]; omega
  · rw [List.length_nil]; omega
/-- the first way that is best -/
def bsale (R : Ru) (W : Wo) (low : Bool) (s : S3) : Option (Nat × Nat) := ((((waysV R W s (best R W low)).filter fun q => decide (q.1 = best R W low s)).map (·.2)).head?).getD none
theorem bsale_ne {R : Ru} (h : R.Ok) {W : Wo} (hf : Fits R W) (low : Bool) (s : S3) : ((waysV R W s (best R W low)).filter fun q => decide (q.1 = best R W low s)) ≠ [] := by
  intro e
  have hm := pick_mem low (xs := (waysV R W s (best R W low)).map (·.1)) (by simp [ways_ne hf])
  rw [← best_eq h] at hm
  obtain ⟨q, hq, e2⟩ := List.mem_map.mp hm
  have : q ∈ ((waysV R W s (best R W low)).filter fun q => decide (q.1 = best R W low s)) := List.mem_filter.mpr ⟨hq, decide_eq_true e2⟩
  rw [e] at this
  cases this
theorem bsale_mem {R : Ru} (h : R.Ok) {W : Wo} (hf : Fits R W) (low : Bool) (s : S3) : (best R W low s, bsale R W low s) ∈ waysV R W s (best R W low) := by
  have hn := bsale_ne h hf low s
  unfold bsale
  cases e : ((waysV R W s (best R W low)).filter fun q => decide (q.1 = best R W low s)) with
  | nil => exact absurd e hn
  | cons q r =>
    have hq : q ∈ ((waysV R W s (best R W low)).filter fun q => decide (q.1 = best R W low s)) := by rw [e]; exact List.mem_cons_self
    obtain ⟨h1, h2⟩ := List.mem_filter.mp hq
    rw [← of_decide_eq_true h2]
    exact h1
/-- the pairs of ends that a row wants, in the order they are written -/
def prs (l r : En) : List (En × En) := [(l, En.S), (En.S, r), (En.S, En.S)].foldl (fun a p => if p ∈ a then a else a ++ [p]) [(l, r)]
/-- where a pair of ends stands: each one of its two is itself, or behind it -/
def prsB (l r : En) : Bool := (List.range (prs l r).length).all fun i => match (prs l r).reverse[i]? with
  | none => true
  | some p => [(p.1, En.S), (En.S, p.2)].all fun q => decide (q = p) || decide (q ∈ (prs l r).reverse.take i)
theorem prsB_ok (l r : En) : prsB l r = true := by cases l <;> cases r <;> decide
theorem prs_ok {l r : En} {i : Nat} {p : En × En} (hp : (prs l r).reverse[i]? = some p) {q : En × En} (hq : q = (p.1, En.S) ∨ q = (En.S, p.2)) : q = p ∨ q ∈ (prs l r).reverse.take i := by
  have h := List.all_eq_true.mp (prsB_ok l r) i (by
    have := (List.getElem?_eq_some_iff.mp hp).1
    rw [List.length_reverse] at this
    exact List.mem_range.mpr this)
  rw [hp] at h
  have h := List.all_eq_true.mp h q (by
    rcases hq with e | e
    · rw [e]; exact List.mem_cons_self
    · rw [e]; exact List.mem_cons_of_mem _ List.mem_cons_self)
  rcases Bool.or_eq_true _ _ ▸ h with h | h
  · exact .inl (of_decide_eq_true h)
  · exact .inr (of_decide_eq_true h)
theorem prs_nodup (l r : En) : (prs l r).Nodup := by cases l <;> cases r <;> decide
theorem prs_mem (l r : En) : (l, r) ∈ prs l r ∧ (l, En.S) ∈ prs l r ∧ (En.S, r) ∈ prs l r := by cases l <;> cases r <;> decide
theorem prs_len (l r : En) : (prs l r).length ≤ 4 := by cases l <;> cases r <;> decide
end Ls
set_option maxHeartbeats 4000000 -- Tb
/-! Tables: the rows as they are read. -/
namespace Ls
open PySem Spec PyProof.Rows L2
section
variable [J : Iv] {P : Program} {w : World} {K : PySem.W.Frag} {mg : Str → Option Value} {base : Heap}
/-- dicts that may be read: locked or not -/
def tDr (ps : List (List Key × Ty)) : Ty := ⟨fun B v => ∃ a kvs, v = .ref a ∧ Rd B a (.dT kvs) ∧ DRel B ps kvs, fun h ⟨a, kvs, e, i, r⟩ => ⟨a, kvs, e, i.elim (fun z => .inl (h _ _ z)) fun ⟨od, z⟩ => .inr ⟨od, h _ _ z⟩, r.mono h⟩⟩
theorem rd_mono {B B' : Hp} {a : Addr} {u : HO} (h : Same B B') (r : Rd B a u) : Rd B' a u := r.elim (fun z => .inl (h _ _ z)) fun ⟨od, z⟩ => .inr ⟨od, h _ _ z⟩
theorem ev_dgetTr {X : Cx} {Γ : Ctx} {o i : Expr} {t : Ty} {pos : Pos} {ps : List (List Key × Ty)} {k : List Key} {n : Nat} (hr : Room n X.A) (ho : EvE X Γ o (tDr ps)) (hi : EvE X Γ i (tKey k)) (h : look ps k = some t) (hs : NoSl i := by exact fun _ _ => rfl) : EvE X Γ (.Subscript o i pos) t := fun σ B H s bh Q q =>
  ⟨_, pe_dget (hu_of hr) pe_c pe_c hs, ho σ B H s bh _ fun v B1 H1 n1 ⟨a, kvs, e1, e2, r⟩ => hi σ B1 H1 (s.mono n1.bb) n1.bh _ fun u B2 H2 n2 ⟨b, xs, e3, e4, r2⟩ => by
    obtain ⟨w, h1, h2⟩ := (r.mono n2.bb).get h
    subst e1 e3
    rw [tys_kV r2] at e4
    have g : DGet H2 a (.ref b) (valV kvs k) := .inr ⟨kvs, k, b, rd_mono ((show Same B1 B2 from n2.bb).trans n2.bh.s) e2, rfl, n2.bh _ _ e4, rfl⟩
    rw [h1] at g
    exact ⟨a, w, rfl, g, q w B2 H2 (n1.trans n2) h2⟩⟩
def pkey (p : En × En) : List Key := [.inr p.1.s, .inr p.2.s]
theorem En.s_inj {a b : En} (h : a.s = b.s) : a = b := by
  cases a <;> cases b <;> first | rfl | exact absurd h (by decide +kernel)
theorem pkey_inj {p q : En × En} (h : pkey p = pkey q) : p = q := by
  unfold pkey at h
  have h1 := List.cons.inj h
  have h2 := List.cons.inj h1.2
  exact Prod.ext (En.s_inj (Sum.inr.inj h1.1)) (En.s_inj (Sum.inr.inj h2.1))
/-- the first m totals of two ends -/
def tRow (R : Ru) (W : Wo) (low : Bool) (p : En × En) (m : Nat) : Ty := tL ((List.range m).map fun i => tI (best R W low ⟨p.1, i, p.2⟩))
def tbFts (K : PySem.W.Frag) (R : Ru) (W : Wo) (low : Bool) (ty : Ty) : List (Str × Ty) := [("its_rule", tRu K R), ("its_worth", tWo K W), ("its_least", tB low), ("its_rows", ty)]
/-- a Tables whose rows are ps -/
def tTab (K : PySem.W.Frag) (R : Ru) (W : Wo) (low : Bool) (ps : List (List Key × Ty)) : Ty := tIns (He.ga K "Tables") (tbFts K R W low (tDr ps))
def tSale : Option (Nat × Nat) → Ty
  | none => tNone
  | some q => tPz q
def tWay (q : Int × Option (Nat × Nat)) : Ty := tT [tI q.1, tSale q.2]
theorem tb_inst {R : Ru} {W : Wo} {low : Bool} {ty : Ty} {x : Str} (hx : ((tbFts K R W low ty).map (·.1)).all (fun y => !decide (y = x)) = true) (B : Hp) (v : V) (h : (tIns (He.ga K "Tables") (tbFts K R W low ty)).p B v) : ∃ a dx fs, v = .ref a ∧ B a = some (.ins (He.ga K "Tables") dx fs) ∧ fs.lookup x = none := by
  obtain ⟨a, dx, fs, e, h1, r⟩ := h
  refine ⟨a, dx, fs, e, h1, ?_⟩
  have hk : ∀ {fts : List (Str × Ty)} {fs : List (Str × V)}, DRel B fts fs → ((fts.map (·.1)).all fun y => !decide (y = x)) = true → fs.lookup x = none := fun {fts fs} r => by
    induction r with
    | nil => intro _; rfl
    | @cons k t v ps kvs a r ih =>
      intro h
      rw [List.map_cons, List.all_cons, Bool.and_eq_true] at h
      have hb : (x == k) = false := by
        cases q : (x == k) with
        | false => rfl
        | true =>
          have e := beq_iff_eq.mp q
          have h1 := h.1
          rw [decide_eq_true e.symm] at h1
          cases h1
      rw [lk_tl hb]
      exact ih h.2
  exact hk r hx
def sp_chosen (K : PySem.W.Frag) (R : Ru) (W : Wo) (low : Bool) (ps : List (List Key × Ty)) : Sp := spF (α := List Int) (fun ns => tTab K R W low ps :: [tL (ns.map tI)]) (fun ns => ns ≠ []) (fun ns => tI (pick low ns))
theorem sc_Tables_chosen : FnScope ["self", "totals"] ["self", "totals"] (defScope s_Tables_chosen) := ⟨rfl, rfl, rfl, by decide +kernel, rfl, by decide +kernel, by decide +kernel⟩
theorem c_chosen (T : Top K mg) (R : Ru) (W : Wo) (low : Bool) (ps : List (List Key × Ty)) : CalM P w K mg base (He.ga K "Tables") "chosen" 1 (sp_chosen K R W low ps) := by
  refine calM_F (d := d_Tables_chosen) (N := ["self", "totals"]) (ps := ["self", "totals"]) T.f_Tables_chosen T.t_Tables_chosen sc_Tables_chosen (fun _ _ _ _ _ _ us hl => match us, hl with | [_, _], _ => rfl) (fun _ => rfl) (by decide) fun f cdv cd A outer s H0 E ns B0 σ D hr hp a k hn => ?_
  have h0 : 0 < ns.length := List.length_pos_iff.mpr hp
  refine rs_ret a (ev_ifx (et_val (ev_ifld T.c_Tables T.n_Tables_its_least (ev_name (i := 0) rfl (.inl rfl) rfl) (t := tB low) (by kernel_rfl))) (fun hb => ev_callB (cr_min rfl) rfl T.b_min bt_min (ea_cons (ev_name (i := 1) rfl (.inl rfl) rfl) ea_nil) (cb_min h0 (pick_mem low hp) ?_)) (fun hb => ev_callB (cr_max rfl) rfl T.b_max bt_max (ea_cons (ev_name (i := 1) rfl (.inl rfl) rfl) ea_nil) (cb_max h0 (pick_mem low hp) ?_))) fun v B' H' _ a' r => k v B' H' a'.n r
  · intro y hy
    rw [hb]
    exact pick_min hy
  · intro y hy
    rw [hb]
    exact pick_max hy
/-- the rows that a stretch of n seats wants -/
def Ready (R : Ru) (W : Wo) (low : Bool) (ps : List (List Key × Ty)) (s : S3) : Prop := (∃ m, s.n ≤ m ∧ m ≤ 200 ∧ look ps (pkey (s.l, .S)) = some (tRow R W low (s.l, .S) m)) ∧ ∃ m, s.n ≤ m ∧ m ≤ 200 ∧ look ps (pkey (.S, s.r)) = some (tRow R W low (.S, s.r) m)
def sp_ways (K : PySem.W.Frag) (R : Ru) (W : Wo) (low : Bool) (ps : List (List Key × Ty)) : Sp := spF (α := S3) (fun s => tTab K R W low ps :: [tSt s]) (fun s => ((R.Ok ∧ Fits R W) ∧ s.n ≤ 100) ∧ Ready R W low ps s) (fun s => tL ((waysV R W s (best R W low)).map tWay))
theorem sc_Tables_ways : FnScope ["self", "stretch", "left", "length", "right", "found", "size", "before", "both"] ["self", "stretch"] (defScope s_Tables_ways) := ⟨rfl, rfl, rfl, by decide +kernel, rfl, by decide +kernel, by decide +kernel⟩
theorem c_ways (T : Top K mg) (R : Ru) (W : Wo) (low : Bool) (ps : List (List Key × Ty)) : CalM P w K mg base (He.ga K "Tables") "ways" 10 (sp_ways K R W low ps) := by
  have nd := sc_Tables_ways.nd
  have C_may_end := c_may_end (P := P) (w := w) (base := base) T
  have C_sales := c_sales (P := P) (w := w) (base := base) T
  have C_price := c_Worth_price (P := P) (w := w) (base := base) T W
  refine calM_F (d := d_Tables_ways) (N := ["self", "stretch", "left", "length", "right", "found", "size", "before", "both"]) (ps := ["self", "stretch"]) T.f_Tables_ways T.t_Tables_ways sc_Tables_ways (fun _ _ _ _ _ _ us hl => match us, hl with | [_, _], _ => rfl) (fun _ => rfl) (by decide) fun f cdv cd A outer s H0 E t B0 σ D hr hp a k hn => ?_
  obtain ⟨⟨⟨hR, hF⟩, hn1⟩, ⟨m1, hm1, hm1', look1⟩, ⟨m2, hm2, hm2', look2⟩⟩ := hp
  have hn1 : t.n ≤ 100 := hn1
  have hsl := sales_len hR t
  refine rs_asg a (ev_name (i := 1) rfl (.inl rfl) rfl) (tg_tup rfl (tgs_cons (tg_name (i := 2) nd rfl (.inl rfl)) (tgs_cons (tg_name (i := 3) nd rfl (.inl rfl)) (tgs_cons (tg_name (i := 4) nd rfl (.inl rfl)) tgs_nil)))) fun σ B H s1 a => ?_
  refine rs_setN (i := 5) a (en_lst ea_nil) nd rfl (.inl rfl) fun l σ B H s1 hl a => ?_
  let w1 : List (Int × Option (Nat × Nat)) := if mayEnd R W t = true then [(W.free * (t.n : Int), none)] else []
  let w2 : Nat × Nat → Int × Option (Nat × Nat) := fun q => (W.price q.1 + (best R W low (pL t q.2) + best R W low (pR t q.1 q.2)), some q)
  suffices rest : ∀ (B H : Hp), At nF B0 H0 B0 [some (tTab K R W low ps), some (tSt t), some (tS t.l.s), some (nT t.n), some (tS t.r.s), some (tV (.ref l)), none, none, none] [(l, oL (w1.map tWay))] σ B H → RS _ _ _ σ H by
    refine rs_when a (et_val (ev_call C_may_end (hr.mono (by decide)) rfl (d := (R, W, t)) (ea_cons (ev_ifld T.c_Tables T.n_Tables_its_rule (ev_name (i := 0) rfl (.inl rfl) rfl) (t := tRu K R) (by kernel_rfl)) (ea_cons (ev_ifld T.c_Tables T.n_Tables_its_worth (ev_name (i := 0) rfl (.inl rfl) rfl) (t := tWo K W) (by kernel_rfl)) (ea_cons (ev_name (i := 1) rfl (.inl rfl) rfl) ea_nil))) ⟨⟨hR, hF⟩, hn1⟩)) (fun hb B H s1 a => ?_) fun hb B H s1 a => rest B H (a.cs (by show _ = [(l, oL (w1.map tWay))]; rw [show w1 = [] from if_neg (by show ¬ mayEnd R W t = true; rw [show mayEnd R W t = false from hb]; decide)]; rfl))
    refine rs_append (t := tWay (W.free * (t.n : Int), none)) a (ev_name (i := 5) rfl (.inl rfl) rfl) (.refl _) (ev_tup (ea_cons (ev_bin op_mul (ev_free T (hr.mono (by decide)) (ev_ifld T.c_Tables T.n_Tables_its_worth (ev_name (i := 0) rfl (.inl rfl) rfl) (t := tWo K W) (by kernel_rfl))) (ev_name (i := 3) rfl (.inl rfl) rfl) (bin_I (.inr ⟨by omega, by omega⟩))) (ea_cons ev_non ea_nil))) (by decide) (fun B H s1 a => rs_nil (rest B H (a.cs (by show _ = [(l, oL (w1.map tWay))]; rw [show w1 = [(W.free * (t.n : Int), none)] from if_pos hb]; rfl)))) (he := rfl) (hs := rfl) (hm := pe_bm PySem.F.plainAttrs_list PySem.F.slot_list_append PySem.F.type_list_append mt_append pe_c pa_c)
  intro B H a
  have hw1 : w1.length ≤ 1 := by
    show (if mayEnd R W t = true then [(W.free * (t.n : Int), none)] else [] : List (Int × Option (Nat × Nat))).length ≤ 1
    split <;> simp
  refine rs_for (xs := sales R t) (τ := tPz) a rfl (ei_list (ev_call C_sales (hr.mono (by decide)) rfl (d := (R, t)) (ea_cons (ev_ifld T.c_Tables T.n_Tables_its_rule (ev_name (i := 0) rfl (.inl rfl) rfl) (t := tRu K R) (by kernel_rfl)) (ea_cons (ev_name (i := 1) rfl (.inl rfl) rfl) ea_nil)) ⟨hR, hn1⟩)) (fun _ _ => (tg_tup rfl (tgs_cons (tg_name (i := 6) nd rfl (.inl rfl)) (tgs_cons (tg_name (i := 7) nd rfl (.inl rfl)) tgs_nil))))
    (fun i Γ C => (∃ o1 o2 o3, Γ = [some (tTab K R W low ps), some (tSt t), some (tS t.l.s), some (nT t.n), some (tS t.r.s), some (tV (.ref l)), o1, o2, o3]) ∧ C = [(l, oL ((w1 ++ ((sales R t).take i).map w2).map tWay))]) ⟨⟨_, _, _, rfl⟩, by rw [List.take_zero, List.map_nil, List.append_nil]⟩ (fun B1 s1 i q Γ1 W1 σ B H hi hI a => ?_) fun Γ1 W1 σ B H s1 hI a => ?_
  · obtain ⟨⟨o1, o2, o3, rfl⟩, rfl⟩ := hI
    obtain ⟨z, b⟩ := q
    have hq : (z, b) ∈ sales R t := List.mem_of_getElem? hi
    obtain ⟨hz1, hz2, hz3⟩ := sale_fit hR hq
    have hz1 : 1 ≤ z := hz1
    have hz3 : b + z ≤ t.n := hz3
    refine rs_set (i := 8) (t := tI (best R W low (pL t b) + best R W low (pR t z b))) a (ev_bin op_add (ev_sub ix_list (ev_dgetTr (k := pkey (t.l, .S)) hr (ev_ifld T.c_Tables T.n_Tables_its_rows (ev_name (i := 0) rfl (.inl rfl) rfl) (t := tDr ps) (by kernel_rfl)) (ev_tup (ea_cons (ev_name (i := 2) rfl (.inl rfl) rfl) (ea_cons (ev_gstr rfl T.s_SOLD) ea_nil))) look1) (ev_name (i := 7) rfl (.inl rfl) rfl) (bin_ixLi (j := b) (t := tI (best R W low (pL t b))) rfl ?_))
      (ev_sub ix_list (ev_dgetTr (k := pkey (.S, t.r)) hr (ev_ifld T.c_Tables T.n_Tables_its_rows (ev_name (i := 0) rfl (.inl rfl) rfl) (t := tDr ps) (by kernel_rfl)) (ev_tup (ea_cons (ev_gstr rfl T.s_SOLD) (ea_cons (ev_name (i := 4) rfl (.inl rfl) rfl) ea_nil))) look2) (ev_bin op_sub (ev_bin op_sub (ev_name (i := 3) rfl (.inl rfl) rfl) (ev_name (i := 6) rfl (.inl rfl) rfl) bin_I0) (ev_name (i := 7) rfl (.inl rfl) rfl) bin_I0) (bin_ixLi (j := t.n - z - b) (t := tI (best R W low (pR t z b))) (by omega) ?_)) bin_I0) nd rfl (.inl rfl) fun σ B H s1 a => ?_
    · rw [List.getElem?_map, List.getElem?_range (by omega)]
      rfl
    · rw [List.getElem?_map, List.getElem?_range (by omega)]
      rfl
    refine rs_append (t := tWay (w2 (z, b))) a (ev_name (i := 5) rfl (.inl rfl) rfl) (.refl _) (ev_tup (ea_cons (ev_bin op_add (ev_meth C_price T.c_Worth (hr.mono (by decide)) (ev_ifld T.c_Tables T.n_Tables_its_worth (ev_name (i := 0) rfl (.inl rfl) rfl) (t := tWo K W) (by kernel_rfl)) wo_inst (d := z) (ea_cons (ev_name (i := 6) rfl (.inl rfl) rfl) ea_nil) trivial) (ev_name (i := 8) rfl (.inl rfl) rfl) bin_I0) (ea_cons (ev_tup (ea_cons (ev_name (i := 6) rfl (.inl rfl) rfl) (ea_cons (ev_name (i := 7) rfl (.inl rfl) rfl) ea_nil))) ea_nil))) ?_ (fun B H s1 a => rs_nil ⟨_, _, B, ⟨⟨_, _, _, rfl⟩, rfl⟩, a.cs (by rw [take_succ' hi]; simp only [List.map_append, List.append_assoc]; rfl)⟩) (he := rfl) (hs := rfl) (hm := pe_bm PySem.F.plainAttrs_list PySem.F.slot_list_append PySem.F.type_list_append mt_append pe_c pa_c)
    rw [List.length_map, List.length_append, List.length_map, List.length_take]
    omega
  · obtain ⟨⟨o1, o2, o3, rfl⟩, rfl⟩ := hI
    obtain ⟨B1, b1, a⟩ := a.frzL hl (i := 5) rfl
    refine rs_ret a (ev_name (i := 5) rfl (.inl rfl) rfl) fun v B' H' _ a' r => k v B' H' a'.n ?_
    rw [List.take_length] at r
    exact r
end
end Ls
set_option maxHeartbeats 4000000 -- Sd
/-! d.setdefault(k, x), the keys tuples -/
namespace Ls
open PySem Spec PyProof.Rows L2
section
variable {X : Cx} {pins : List (Addr × Obj)} {σ : L2.St} {H : Hp} {s : Shared} {a b : Addr} {r : Value} {v : V} {k : List Key} {A : Around} {E : Value → Shared → Prop}
theorem d_setdT {kvs : List (List Key × V)} {Q : Value → Shared → Prop} (hu : A.units + 1 < cLine) (I : Inv X pins σ H s) (e : H a = some (.dT kvs)) (eb : H b = some (.tup (k.map kV))) (rv : RelV v r) (hl : kvs.length < sizeLine)
    (h1 : ∀ u, valV kvs k = some u → ∀ (w' : Value) (s' : Shared), Inv X pins σ H s' → RelV u w' → Q w' s') (h2 : valV kvs k = none → ∀ (w' : Value) (s' : Shared), Inv X pins σ (upd H a (.dT (putK kvs k v))) s' → RelV v w' → Q w' s') :
    wpAny (model X.prog X.w) A (call (.builtin "dict.setdefault") [.ref a, .ref b, r]) Q E s := by
  obtain ⟨z, hd, xs, rel, dd⟩ := dt_of I.hok e
  have hz : xs.length ≤ sizeLine := by rw [← Paired.length rel]; exact z
  have hq := rel.val k
  refine PySem.call_setdefault_heap (hsz := hz) (tupleKind_room_in1 hu) (key_of I.hok eb) hd dd (fun p hp => ?_) fun hn h' dd' hs => ?_
  · rw [hp] at hq
    cases q0 : valV kvs k with
    | none =>
      rw [q0] at hq
      exact (show False from hq).elim
    | some u =>
      rw [q0] at hq
      exact h1 u q0 _ _ (I.tok _) hq
  · rw [hn] at hq
    cases q0 : valV kvs k with
    | some u =>
      rw [q0] at hq
      exact (show False from hq).elim
    | none =>
      have hl2 : (putK kvs k v).length ≤ sizeLine := by
        have := length_putK kvs k v
        omega
      refine h2 q0 _ _ ?_ rv
      obtain ⟨q, es, ep, hq, g2, g3, g4, _, g5⟩ := dd'
      refine d_write I (by rw [e]; exact True.intro) hs ⟨q, hq⟩ ⟨hl2, hd, _, (rel.put k eb rv).keeps fun c ys ec => ?_, q, es, ep, hq, g2, g3, g4, g5⟩
      rw [upd_ne (ne_of ec e (fun z => nomatch z))]
      exact ec
end
end Ls
set_option maxHeartbeats 4000000 -- Tc
/-! Tables: the rows are filled. -/
namespace Ls
open PySem Spec PyProof.Rows L2
theorem nodup_le {α : Type} [DecidableEq α] : ∀ {xs ys : List α}, xs.Nodup → (∀ x ∈ xs, x ∈ ys) → xs.length ≤ ys.length
  | [], _, _, _ => Nat.zero_le _
  | x :: xs, ys, nd, h => by
    obtain ⟨n1, n2⟩ := List.nodup_cons.mp nd
    have hx := h x List.mem_cons_self
    have ih := nodup_le (xs := xs) (ys := ys.erase x) n2 fun y hy => (List.mem_erase_of_ne fun e : y = x => n1 (by rw [← e]; exact hy)).mpr (h y (List.mem_cons_of_mem _ hy))
    rw [List.length_erase_of_mem hx] at ih
    have := List.length_pos_of_mem hx
    rw [List.length_cons]
    omega
def enens : List (En × En) := ens.flatMap fun l => ens.map fun r => (l, r)
theorem enens_all (p : En × En) : p ∈ enens := by
  obtain ⟨l, r⟩ := p
  cases l <;> cases r <;> decide
abbrev Rw := (En × En) × Addr × Nat
theorem rows_le {rows : List Rw} (h : (rows.map (·.1)).Nodup) : rows.length ≤ 9 := by
  have := nodup_le h fun p _ => enens_all p
  rw [List.length_map] at this
  exact this
section
variable [J : Iv]
theorem pe_dsetdT {X : Cx} {o e f : Expr} {td ty tx : TE} {apos cpos : Pos} (hu : X.A.units + 1 < cLine) (ho : PE X o td) (he : PE X e ty) (hf : PE X f tx) (m : M2 X o "setdefault" apos e f cpos) : PE X (.Call (.Attribute o "setdefault" apos) [e, f] [] cpos)
    (fun σ H Q => td σ H fun x H1 => ∃ a, x = .ref a ∧ L2.IsD H1 a ∧ ty σ H1 fun y H2 => tx σ H2 fun z H3 => ∃ (kvs : List (List Key × V)) (k : List Key) (b : Addr), H3 a = some (.dT kvs) ∧ y = .ref b ∧ H3 b = some (.tup (k.map kV)) ∧ kvs.length < sizeLine ∧
      (∀ v, valV kvs k = some v → Q v H3) ∧ (valV kvs k = none → Q z (upd H3 a (.dT (putK kvs k z))))) := by
  refine ⟨fun pins s σ H Q I hw => ?_⟩
  refine wpAny_Call_method m.base m.few m.line PySem.F.plainAttrs_dict PySem.F.slot_dict_setdefault PySem.F.type_dict_setdefault (thn (ho.run pins s σ H _ I hw) fun ov s1 ⟨x, H1, I1, rx, a, ex, d, q1⟩ => ?_)
  subst ex
  obtain rfl : ov = Value.ref a := rx
  obtain ⟨g1, g2, _⟩ := isD_at I1 d
  refine ⟨g1, g2, ?_⟩
  rw [m.trees]
  refine Calls.callWith_builtin rfl (Calls.evalArgs_plain (Calls.spliced_cons (thn (he.run pins s1 σ H1 _ I1 q1) fun iv s2 ⟨y, H2, I2, ry, q2⟩ =>
    Calls.spliced_cons (thn (hf.run pins s2 σ H2 _ I2 q2) fun fv s3 ⟨z, H3, I3, rz, kvs, k, b, ea, ey, eb, hl, q3, q4⟩ => Calls.spliced_nil ?_))))
  subst ey
  obtain rfl : iv = Value.ref b := ry
  exact d_setdT (by show X.A.units + 1 < cLine; exact hu) I3 ea eb rz hl (fun v hv w' s4 I4 rw' => ⟨v, _, I4, rw', q3 v hv⟩) fun hn w' s4 I4 rw' => ⟨z, _, I4, rw', q4 hn⟩
variable {R : Ru} {W : Wo} {low : Bool}
def refs (rows : List Rw) : List (List Key × Ty) := rows.map fun q => (pkey q.1, tV (.ref q.2.1))
def rtys (R : Ru) (W : Wo) (low : Bool) (rows : List Rw) : List (List Key × Ty) := rows.map fun q => (pkey q.1, tRow R W low q.1 q.2.2)
def rTs (R : Ru) (W : Wo) (low : Bool) (p : En × En) (m : Nat) : List Ty := (List.range m).map fun i => tI (best R W low ⟨p.1, i, p.2⟩)
def rCell (R : Ru) (W : Wo) (low : Bool) (q : Rw) : Addr × OT := (q.2.1, oL (rTs R W low q.1 q.2.2))
def tabW (R : Ru) (W : Wo) (low : Bool) (d : Addr) (rows : List Rw) : Cells := (d, oDT (refs rows)) :: rows.map (rCell R W low)
theorem refs_val {B : Hp} {p : En × En} : ∀ {rows : List Rw} {kvs : List (List Key × V)}, DRel B (refs rows) kvs → (∃ q ∈ rows, q.1 = p ∧ valV kvs (pkey p) = some (.ref q.2.1)) ∨ ((∀ q ∈ rows, q.1 ≠ p) ∧ valV kvs (pkey p) = none)
  | [], _, .nil => .inr ⟨fun _ h => (nomatch h), rfl⟩
  | q :: rows, _, .cons (v := v) a r => by
    have a : v = .ref q.2.1 := a
    subst a
    by_cases h : q.1 = p
    · exact .inl ⟨q, List.mem_cons_self, h, valV_pos (p := (pkey q.1, V.ref q.2.1)) (by rw [h])⟩
    · have hn : ¬ pkey q.1 = pkey p := fun e => h (pkey_inj e)
      rcases refs_val (p := p) r with ⟨q', h1, h2, h3⟩ | ⟨h1, h2⟩
      · exact .inl ⟨q', List.mem_cons_of_mem _ h1, h2, (valV_neg (p := (pkey q.1, V.ref q.2.1)) hn).trans h3⟩
      · exact .inr ⟨fun q' hq' => by
          rcases List.mem_cons.mp hq' with e | hq'
          · rw [e]; exact h
          · exact h1 q' hq', (valV_neg (p := (pkey q.1, V.ref q.2.1)) hn).trans h2⟩
theorem look_rtys : ∀ {rows : List Rw}, (rows.map (·.1)).Nodup → ∀ {q : Rw}, q ∈ rows → look (rtys R W low rows) (pkey q.1) = some (tRow R W low q.1 q.2.2)
  | [], _, _, h => by cases h
  | r :: rows, nd, q, h => by
    obtain ⟨n1, n2⟩ := List.nodup_cons.mp nd
    rcases List.mem_cons.mp h with e | h
    · subst e
      exact look_pos rfl
    · exact (look_neg fun e => n1 (List.mem_map.mpr ⟨q, h, (pkey_inj e).symm⟩)).trans (look_rtys n2 h)
theorem look_refs : ∀ {rows : List Rw}, (rows.map (·.1)).Nodup → ∀ {q : Rw}, q ∈ rows → look (refs rows) (pkey q.1) = some (tV (.ref q.2.1))
  | [], _, _, h => by cases h
  | r :: rows, nd, q, h => by
    obtain ⟨n1, n2⟩ := List.nodup_cons.mp nd
    rcases List.mem_cons.mp h with e | h
    · subst e
      exact look_pos rfl
    · exact (look_neg fun e => n1 (List.mem_map.mpr ⟨q, h, (pkey_inj e).symm⟩)).trans (look_refs n2 h)
theorem putT_newT {ps : List (List Key × Ty)} {k : List Key} {t : Ty} (h : ∀ q ∈ ps, q.1 ≠ k) : putT ps k t = ps ++ [(k, t)] := by
  unfold putT
  rw [if_neg]
  intro e
  obtain ⟨q, hq, e⟩ := List.any_eq_true.mp e
  exact h q hq (of_decide_eq_true e)
/-- the instance, its rows' dict at d -/
def tTabM (K : PySem.W.Frag) (R : Ru) (W : Wo) (low : Bool) (d : Addr) : Ty := tIns (He.ga K "Tables") (tbFts K R W low (tV (.ref d)))
variable {K : PySem.W.Frag} {F : Addr → Prop} {B0 H0 Bg : Hp} {Γ : Ctx} {C : Cells} {σ : L2.St} {B H : Hp} {d : Addr} {rows : List Rw}
theorem tabM_to {B Bs : Hp} {v : V} {ty : Ty} (h : (tTabM K R W low d).p B v) (hs : Same B Bs) (ht : ty.p Bs (.ref d)) : (tIns (He.ga K "Tables") (tbFts K R W low ty)).p Bs v := by
  obtain ⟨a, dx, fs, e, h1, r⟩ := h
  refine ⟨a, dx, fs, e, hs _ _ h1, ?_⟩
  cases r with
  | cons r1 r =>
  cases r with
  | cons r2 r =>
  cases r with
  | cons r3 r =>
  cases r with
  | cons r4 r =>
  cases r
  have r4 : _ = V.ref d := r4
  subst r4
  exact .cons ((tRu K R).mono hs r1) (.cons ((tWo K W).mono hs r2) (.cons ((tB low).mono hs r3) (.cons ht .nil)))
/-- the rows, read now -/
theorem fz_rows (a : At F B0 H0 Bg Γ C σ B H) (hC : ∀ c ∈ tabW R W low d rows, c ∈ C) : (tDr (rtys R W low rows)).p (fz C B H) (.ref d) ∧ (tDr (refs rows)).p (fz C B H) (.ref d) := by
  obtain ⟨o, h1, kvs, e1, r⟩ := a.fzl (hC _ List.mem_cons_self)
  subst e1
  refine ⟨⟨d, kvs, rfl, .inl h1, ?_⟩, ⟨d, kvs, rfl, .inl h1, r⟩⟩
  have core : ∀ {rs : List Rw} {kvs : List (List Key × V)}, (∀ q ∈ rs, rCell R W low q ∈ C) → DRel (fz C B H) (refs rs) kvs → DRel (fz C B H) (rtys R W low rs) kvs := fun {rs} => by
    induction rs with
    | nil => intro kvs _ r; cases r; exact .nil
    | cons q rs ih =>
      intro kvs hq r
      cases r with
      | cons a1 r =>
        rename_i v _
        have a1 : v = .ref q.2.1 := a1
        subst a1
        refine .cons ?_ (ih (fun q' h => hq q' (List.mem_cons_of_mem _ h)) r)
        obtain ⟨o, h1, vs, e1, r2⟩ := a.fzl (hq q List.mem_cons_self)
        subst e1
        exact ⟨q.2.1, vs, rfl, h1, r2⟩
  exact core (fun q hq => hC _ (List.mem_cons_of_mem _ (List.mem_map.mpr ⟨q, hq, rfl⟩))) r
theorem SOk.rev {Γ : Ctx} {B : Hp} {σ : L2.St} {i : Nat} {t t2 : Ty} (s : SOk Γ B σ) (hi : Γ[i]? = some (some t)) (h : ∀ v, t.p B v → t2.p B v) : SOk (Γ.set i (some t2)) B σ := by
  obtain ⟨v, h1, h2⟩ := s.2 i _ hi
  have k := s.set i (h v h2)
  have e2 : σ.set i (some v) = σ := by
    refine List.ext_getElem? fun j => ?_
    rw [List.getElem?_set]
    by_cases hj : i = j
    · subst hj
      obtain ⟨hl, _⟩ := List.getElem?_eq_some_iff.mp h1
      rw [if_pos rfl, if_pos hl, h1]
    · rw [if_neg hj]
  rw [e2] at k
  exact k
/-- x.append(e), the value read at the state -/
theorem rs_appendS {X : Cx} {W' : Cells} {c e : Expr} {t : Ty} {ts : List Ty} {l : Addr} {rest : List Stmt} {D : Ends} {p1 pos apos : Pos} (a : At F B0 H0 Bg Γ C σ B H) (hi : EvE X Γ c (tV (.ref l))) (hW : C.Perm ((l, oL ts) :: W')) (h : ∀ B' H', At F B0 H0 Bg Γ C σ B' H' → EvS X F B0 H0 Bg Γ C σ B' H' e t) (hl : ts.length < 100000)
    (k : ∀ B' H', Same B B' → At F B0 H0 Bg Γ ((l, oL (ts ++ [t])) :: W') σ B' H' → RS X rest D σ H') {he : starEach (e :: []) X.env = (false, eval e X.env) :: starEach [] X.env} {hs : swapsWith (.Call (.Attribute c "append" apos) [e] [] p1) none pos.line X.env = pure false}
    {hm : PE X (.Call (.Attribute c "append" apos) [e] [] p1) (tBM X.K "list" rAppend (RE X c) (tCons (RE X e) tNil))} : RS X (.Expr (.Call (.Attribute c "append" apos) [e] [] p1) pos :: rest) D σ H :=
  rs_ps (ps_expr hm hs) (hi σ B H a.s a.n.bh _ fun v B1 H1 n1 r1 => by
    have e1 : v = .ref l := r1
    subst e1
    have a0 := a.step n1
    have a1 := a0.perm hW
    obtain ⟨_, _, o, h3, vs, e3, _⟩ := a1.cell
    subst e3
    refine ⟨.inl ⟨rfl, vs, .of h3⟩, h B1 H1 a0 _ fun w B2 H2 n2 a2 r => ?_⟩
    have a2 := a2.perm hW
    obtain ⟨_, _, o, h3, vs, e3, r3⟩ := a2.cell
    subst e3
    exact ⟨l, vs, _, rfl, rfl, h3, by rw [r3.length]; exact lt5 hl, k B2 _ (n1.trans n2).bb (a2.wr (ot' := oL (ts ++ [t])) ⟨vs ++ [w], rfl, r3.append (.one r)⟩)⟩)
/-- found = rows.setdefault(pair, []) -/
theorem rs_setdef {X : Cx} {i : Nat} {x : Str} {o e : Expr} {p : En × En} {rest : List Stmt} {D : Ends} {p1 p2 pos apos cpos : Pos} {n : Nat} (hr : Room n X.A) (a : At F B0 H0 Bg Γ (tabW R W low d rows) σ B H) (nd : (rows.map (·.1)).Nodup) (ho : EvE X Γ o (tV (.ref d))) (hk : EvE X Γ e (tKey (pkey p))) (hN : X.N.Nodup) (hi : X.N[i]? = some x) (hx : Loc X.env.scope x)
    (k : ∀ rows' q σ' B' H', Same B B' → (rows'.map (·.1)).Nodup → q ∈ rows' → q.1 = p → ((rows' = rows) ∨ (rows' = rows ++ [q] ∧ q.2.2 = 0 ∧ H0 q.2.1 = none)) → At F B0 H0 Bg (Γ.set i (some (tV (.ref q.2.1)))) (tabW R W low d rows') σ' B' H' → RS X rest D σ' H')
    (m : M2 X o "setdefault" apos e (.List [] p2) cpos := by exact ⟨rfl, rfl, rfl, rfl⟩)
    (hs : swapsWith (.Call (.Attribute o "setdefault" apos) [e, .List [] p2] [] cpos) (some (.Name x p1)) pos.line X.env = pure false := by rfl) (hf : X.fn x = true ∨ X.env.scope.names.lookup x = some .local := by first | exact .inl rfl | exact .inr rfl) :
    RS X (.Assign [.Name x p1] (.Call (.Attribute o "setdefault" apos) [e, .List [] p2] [] cpos) pos :: rest) D σ H :=
  rs_ps (ps_set hN hi hx (pe_dsetdT (hu_of hr) pe_c pe_c pe_c m) hs hf) (ho σ B H a.s a.n.bh _ fun v B1 H1 n1 r1 => by
    have r1 : v = .ref d := r1
    subst r1
    have a1 := a.step n1
    obtain ⟨_, _, ob, h3, kvs, e3, _⟩ := a1.cell
    subst e3
    refine ⟨d, rfl, .inr ⟨kvs, .inl h3⟩, hk σ B1 H1 a1.s a1.n.bh _ fun y B2 H2 n2 ⟨b, ws, ey, eb, r2⟩ => ?_⟩
    subst ey
    rw [tys_kV r2] at eb
    have a2 := a1.step n2
    refine (en_lst (ts := []) ea_nil) σ B2 H2 a2.s a2.n.bh _ fun l B3 H3 n3 bl fl hl hO => ?_
    have a3 := a2.addc n3 bl fl hl hO
    obtain ⟨_, _, ob, h4, kvs4, e4, dr⟩ := a3.o.each (d, oDT (refs rows)) (List.mem_cons_of_mem _ List.mem_cons_self)
    subst e4
    have hlen : rows.length ≤ 9 := rows_le nd
    have hkl : kvs4.length = rows.length := by rw [dr.length]; exact List.length_map ..
    refine ⟨kvs4, pkey p, b, h4, rfl, a3.n.bh _ _ (n3.bb _ _ eb), by rw [hkl]; exact lt5 (by omega), fun u hu => ?_, fun hn => ?_⟩
    · rcases refs_val (p := p) dr with ⟨q, g1, g2, g3⟩ | ⟨_, g3⟩
      · rw [hu] at g3
        cases g3
        exact k rows q _ B3 H3 ((n1.trans n2).trans n3).bb nd g1 g2 (.inl rfl) (a3.tail.set i (t := tV (.ref q.2.1)) rfl)
      · rw [hu] at g3
        cases g3
    · rcases refs_val (p := p) dr with ⟨q, g1, g2, g3⟩ | ⟨g1, _⟩
      · rw [hn] at g3
        cases g3
      · have e5 : putT (refs rows) (pkey p) (tV (.ref l)) = refs (rows ++ [(p, l, 0)]) := by
          rw [putT_newT fun q hq e => by
            obtain ⟨r, hr, e2⟩ := List.mem_map.mp hq
            subst e2
            exact g1 r hr (pkey_inj e)]
          unfold refs
          rw [List.map_append]
          rfl
        have a4 := (a3.perm (List.Perm.swap _ _ _)).wr (ot' := oDT (refs (rows ++ [(p, l, 0)]))) (o := .dT (putK kvs4 (pkey p) (.ref l))) ⟨_, rfl, by rw [← e5]; exact dr.put (t := tV (.ref l)) rfl⟩
        have nd2 : ((rows ++ [((p, l, 0) : Rw)]).map (·.1)).Nodup := by
          rw [List.map_append]
          refine List.nodup_append.mpr ⟨nd, List.nodup_cons.mpr ⟨fun z => (nomatch z), List.nodup_nil⟩, fun x hx y hy e => ?_⟩
          obtain ⟨r, hr, e2⟩ := List.mem_map.mp hx
          have e3 : y = p := by simpa using hy
          exact g1 r hr (by rw [e2, e, e3])
        refine k (rows ++ [(p, l, 0)]) (p, l, 0) _ B3 _ ((n1.trans n2).trans n3).bb nd2 (List.mem_append_right _ List.mem_cons_self) rfl (.inr ⟨rfl, rfl, a2.n.fresh hl⟩) ((a4.perm ?_).set i (t := tV (.ref l)) rfl)
        show ((d, oDT (refs (rows ++ [(p, l, 0)]))) :: (l, oL []) :: rows.map (rCell R W low)).Perm ((d, oDT (refs (rows ++ [(p, l, 0)]))) :: (rows ++ [(p, l, 0)]).map (rCell R W low))
        rw [List.map_append]
        exact List.Perm.cons _ (List.perm_append_singleton _ _).symm)
end
end Ls
set_option maxHeartbeats 8000000 -- Td
/-! Tables.row -/
namespace Ls
open PySem Spec PyProof.Rows L2
def edat (p : En × En) : PyData := .tuple [.str p.1.s, .str p.2.s]
theorem edat_eqv (p q : En × En) : PyData.eqv (edat p) (edat q) = decide (p = q) := by
  obtain ⟨a, b⟩ := p
  obtain ⟨c, d⟩ := q
  cases a <;> cases b <;> cases c <;> cases d <;> decide +kernel
theorem edat_any (p : En × En) : ∀ xs : List (En × En), ((xs.map edat).any fun z => PyData.eqv z (edat p)) = decide (p ∈ xs)
  | [] => rfl
  | x :: xs => by
    rw [List.map_cons, List.any_cons, edat_any p xs, edat_eqv]
    by_cases h : x = p
    · subst h
      simp
    · have h2 : ¬ p = x := fun e => h e.symm
      simp [h, h2]
def tEe (p : En × En) : Ty := tKey (pkey p)
section
variable [J : Iv]
theorem isd_ee (p : En × En) : IsD (tEe p) (edat p) := isd_T (isds_cons isd_str (isds_cons isd_str isds_nil))
theorem shaped_ee (p : En × En) : SeqAt.shaped (edat p) = true := by
  obtain ⟨a, b⟩ := p
  cases a <;> cases b <;> decide +kernel
theorem shaped_ees (xs : List (En × En)) : SeqAt.shaped (.list (xs.map edat)) = true := shaped_list (lay_map fun p _ => by
  obtain ⟨a, b⟩ := p
  cases a <;> cases b <;> decide +kernel) (depth_map (m := 1) fun p _ => by
  obtain ⟨a, b⟩ := p
  cases a <;> cases b <;> decide +kernel) (by decide)
theorem bin_niEe {K : PySem.W.Frag} {p : En × En} {xs : List (En × En)} : Bin (rNotInD K) (tEe p) (tL (xs.map tEe)) (tB (!decide (p ∈ xs))) := fun u v B H Q bh hu hv q =>
  ⟨edat p, xs.map edat, isd_ee p K B H u bh hu, isd_L (isds_map fun x _ => isd_ee x) K B H v bh hv, shaped_ee p, shaped_ees xs, q _ B H (.refl bh) (by rw [edat_any]; rfl)⟩
theorem ev_rev {X : Cx} {Γ : Ctx} {e : Expr} {ts : List Ty} {pos p1 p2 p3 : Pos} {k : Nat} (h : EvE X Γ e (tL ts)) : EvE X Γ (.Subscript e (.Slice none none (some (.UnaryOp .USub (.Constant (.int 1) k p1) p2)) p3) pos) (tL ts.reverse) := fun σ B H s bh Q q =>
  ⟨_, pe_revL pe_c, h σ B H s bh _ fun v B1 H1 n1 ⟨a, vs, e1, e2, r⟩ => ⟨a, vs, e1, .of (n1.bh _ _ e2), fun p hp => by
    have n2 : Nw nF B1 H1 (upd B1 p (.lst vs.reverse)) (upd H1 p (.lst vs.reverse)) := .lay n1.bh hp
    have rev : ∀ {ts : List Ty} {vs : List V}, Tys B1 ts vs → Tys B1 ts.reverse vs.reverse := fun {ts vs} r => by
      induction r with
      | nil => exact .nil
      | cons a r ih => rw [List.reverse_cons, List.reverse_cons]; exact ih.append (.one a)
    exact q _ _ _ (n1.trans n2) ⟨p, _, rfl, upd_same, (rev r).mono n2.bb⟩⟩⟩
variable {R : Ru} {W : Wo} {low : Bool}
def tabF (d : Addr) (rows : List Rw) : Addr → Prop := fun a => a = d ∨ ∃ q ∈ rows, a = q.2.1
structure TabAt (R : Ru) (W : Wo) (low : Bool) (d : Addr) (rows : List Rw) (B H : Hp) : Prop where
  own : Owns (fun _ => True) H B H (tabW R W low d rows)
  nd : (rows.map (·.1)).Nodup
  le : ∀ q ∈ rows, q.2.2 ≤ 150
def Has (rows : List Rw) (l r : En) (n : Nat) : Prop := ∀ p ∈ prs l r, ∃ q ∈ rows, q.1 = p ∧ n + 1 ≤ q.2.2
def RW.Ok (R : Ru) (W : Wo) : Prop := R.Ok ∧ Fits R W
def spRow (K : PySem.W.Frag) (R : Ru) (W : Wo) (low : Bool) : Sp := fun vs H Q _ => ∃ (d : Addr) (rows : List Rw) (l r : En) (n : Nat) (B : Hp) (v0 : V), Sm B H ∧ (RW.Ok R W ∧ n ≤ 99) ∧ vs = [v0, .str l.s, .str r.s, nI n] ∧ (tTabM K R W low d).p B v0 ∧ TabAt R W low d rows B H ∧
  ∀ v B' H' rows', Nw (tabF d rows) B H B' H' → TabAt R W low d rows' B' H' → (∀ q ∈ rows', tabF d rows q.2.1 ∨ H q.2.1 = none) → Has rows' l r n → (tRow R W low (l, r) (n + 1)).p B' v → Q v H'
theorem tab_perm {d : Addr} {r1 r2 : List Rw} {q : Rw} : (tabW R W low d (r1 ++ q :: r2)).Perm (rCell R W low q :: ((d, oDT (refs (r1 ++ q :: r2))) :: (r1 ++ r2).map (rCell R W low))) := by
  unfold tabW
  rw [List.map_append, List.map_cons, List.map_append]
  exact (List.Perm.cons _ List.perm_middle).trans (List.Perm.swap _ _ _)
theorem refs_same {r1 r2 : List Rw} {p : En × En} {a : Addr} {m k : Nat} : refs (r1 ++ (p, a, m) :: r2) = refs (r1 ++ (p, a, k) :: r2) := by
  unfold refs
  rw [List.map_append, List.map_append]
  rfl
theorem rTs_succ {p : En × En} {m : Nat} : rTs R W low p (m + 1) = rTs R W low p m ++ [tI (best R W low ⟨p.1, m, p.2⟩)] := by
  unfold rTs
  rw [List.range_succ, List.map_append]
  rfl
variable {P : Program} {w : World} {K : PySem.W.Frag} {mg : Str → Option Value} {base : Heap}
theorem sc_Tables_row : FnScope ["self", "left", "right", "upto", "pairs", "pair", "one", "other", "found", "total", "sale"] ["self", "left", "right", "upto"] (defScope s_Tables_row) := ⟨rfl, rfl, rfl, by decide +kernel, rfl, by decide +kernel, by decide +kernel⟩
def ins (a : List (En × En)) (p : En × En) : List (En × En) := if p ∈ a then a else a ++ [p]
theorem ins_len : ∀ (xs a : List (En × En)), (xs.foldl ins a).length ≤ a.length + xs.length
  | [], _ => Nat.le_refl _
  | x :: xs, a => by
    rw [List.foldl_cons, List.length_cons]
    have h := ins_len xs (ins a x)
    have h2 : (ins a x).length ≤ a.length + 1 := by
      unfold ins
      split
      · omega
      · rw [List.length_append]; exact Nat.le_refl _
    omega
theorem ok_row (T : Top K mg) (R : Ru) (W : Wo) (low : Bool) : ∃ fd, FunD K d_Tables_row.name d_Tables_row.qual d_Tables_row.params d_Tables_row.body d_Tables_row.scope (d_Tables_row.dvs K) (d_Tables_row.kws K) (He.fAd K d_Tables_row.at_) fd ∧ FnOk P w K mg base CX0 11 (He.fAd K d_Tables_row.at_) fd ["self", "left", "right", "upto"] (spRow K R W low) := by
  have nd := sc_Tables_row.nd
  obtain ⟨fd, Fd⟩ := T.f_Tables_row
  refine ⟨fd, Fd, ?_⟩
  obtain ⟨_, _, _, _, _, _, _, cdv, _, _, rfl, lk, hcd, _⟩ := Fd.ex
  refine fn_of lk hcd sc_Tables_row (fun vs H Q E ⟨d, rows, l, r, n, B, v0, _, _, e, _⟩ => by rw [e]; rfl) fun A outer s H0 vs Q E hr ⟨d, rows, l, r, n, B0, v0, bh, ⟨⟨hR, hF⟩, hn⟩, ev, hv0, tab, q⟩ => ?_
  subst ev
  suffices main : ∀ (σ : L2.St) (D : Ends), At (tabF d rows) B0 H0 B0 [some (tTabM K R W low d), some (tS l.s), some (tS r.s), some (nT n), none, none, none, none, none, none, none] (tabW R W low d rows) σ B0 H0 → (∀ v B' H' rows', Nw (tabF d rows) B0 H0 B' H' → Owns (tabF d rows) H0 B' H' (tabW R W low d rows') → (rows'.map (·.1)).Nodup → (∀ q ∈ rows', q.2.2 ≤ 150) → (∀ q ∈ rows', tabF d rows q.2.1 ∨ H0 q.2.1 = none) → Has rows' l r n → (tRow R W low (l, r) (n + 1)).p B' v → D.rt v H') →
      RS (cx0 P w K mg base ["self", "left", "right", "upto", "pairs", "pair", "one", "other", "found", "total", "sale"] d_Tables_row (He.fAd K d_Tables_row.at_) cdv A outer s H0 E) d_Tables_row.body D σ H0 by
    have rr : Tys B0 [tTabM K R W low d, tS l.s, tS r.s, nT n] [v0, .str l.s, .str r.s, nI n] := .cons hv0 (.cons rfl (.cons rfl (.cons rfl .nil)))
    obtain ⟨t, h1, h2⟩ := main (L2.start ["self", "left", "right", "upto", "pairs", "pair", "one", "other", "found", "total", "sale"] [v0, .str l.s, .str r.s, nI n]) ⟨fun _ H' => Q .non H', Q, fun _ _ => False, fun _ _ => False⟩ ⟨sok_start ["self", "left", "right", "upto", "pairs", "pair", "one", "other", "found", "total", "sale"] rr (Nat.le_of_ble_eq_true rfl), .refl bh, Same.refl B0, ⟨fun z hz => by
        obtain ⟨_, h2, h3⟩ := tab.own.each z hz
        refine ⟨.inl ?_, h2, h3⟩
        rcases List.mem_cons.mp hz with e | hz
        · exact .inl (by rw [e])
        · obtain ⟨q, hq, e⟩ := List.mem_map.mp hz
          exact .inr ⟨q, hq, by rw [← e]; rfl⟩, tab.own.apart⟩⟩ fun v B' H' rows' n' o' nd' le' fr' has r' => q v B' H' rows' n' ⟨⟨fun z hz => let ⟨_, h2, h3⟩ := o'.each z hz; ⟨.inl trivial, h2, h3⟩, o'.apart⟩, nd', le'⟩ fr' has r'
    exact ⟨t, h1.nox, h2⟩
  intro σ D a k
  have hu : (A.deeper (envOfC d_Tables_row.qual d_Tables_row.scope s.heap.objs.size (He.fAd K d_Tables_row.at_) cdv)).units + 65 < cLine := by
    have := hr.un
    omega
  -- pairs
  refine rs_setN (i := 4) a (en_lst (ts := [tEe (l, r)]) (ea_cons (ev_tup (ea_cons (ev_name (i := 1) rfl (.inl rfl) rfl) (ea_cons (ev_name (i := 2) rfl (.inl rfl) rfl) ea_nil))) ea_nil)) nd rfl (.inl rfl) fun lp σ B H s1 hlp a => ?_
  refine rs_for (xs := [(l, En.S), (En.S, r), (En.S, En.S)]) (τ := tEe) a rfl (ei_list (ev_lst (ts := [tEe (l, En.S), tEe (En.S, r), tEe (En.S, En.S)]) (ea_cons (ev_tup (ea_cons (ev_name (i := 1) rfl (.inl rfl) rfl) (ea_cons (ev_gstr rfl T.s_SOLD) ea_nil))) (ea_cons (ev_tup (ea_cons (ev_gstr rfl T.s_SOLD) (ea_cons (ev_name (i := 2) rfl (.inl rfl) rfl) ea_nil))) (ea_cons (ev_tup (ea_cons (ev_gstr rfl T.s_SOLD) (ea_cons (ev_gstr rfl T.s_SOLD) ea_nil))) ea_nil))))) (fun _ _ => (tg_name (i := 5) nd rfl (.inl rfl)))
    (fun i Γ C => (∃ o5, Γ = [some (tTabM K R W low d), some (tS l.s), some (tS r.s), some (nT n), some (tV (.ref lp)), o5, none, none, none, none, none]) ∧ C = (lp, oL (((([(l, En.S), (En.S, r), (En.S, En.S)] : List (En × En)).take i).foldl ins [(l, r)]).map tEe)) :: tabW R W low d rows) ⟨⟨_, rfl⟩, rfl⟩ (fun B1 s1 i p Γ1 W1 σ B H hi hI a => ?_) fun Γ1 W1 σ B H s1 hI a => ?_
  · obtain ⟨⟨o5, rfl⟩, rfl⟩ := hI
    have ht : (([(l, En.S), (En.S, r), (En.S, En.S)] : List (En × En)).take (i + 1)).foldl ins [(l, r)] = ins ((([(l, En.S), (En.S, r), (En.S, En.S)] : List (En × En)).take i).foldl ins [(l, r)]) p := by
      rw [take_succ' hi, List.foldl_append]
      rfl
    have hlen := ins_len (([(l, En.S), (En.S, r), (En.S, En.S)] : List (En × En)).take i) [(l, r)]
    have hlen2 := List.length_take_le i ([(l, En.S), (En.S, r), (En.S, En.S)] : List (En × En))
    have hi3 : i < 3 := (List.getElem?_eq_some_iff.mp hi).1
    rw [List.length_singleton] at hlen
    rw [ht]
    generalize (([(l, En.S), (En.S, r), (En.S, En.S)] : List (En × En)).take i).foldl ins [(l, r)] = ac at a hlen
    obtain ⟨o, h1, vs, e1, r2⟩ := a.fzl List.mem_cons_self
    subst e1
    have sf := SOk.re (s := a.s.mono fz_same) (i := 4) (v := .ref lp) (t := tL (ac.map tEe)) rfl ⟨lp, vs, rfl, h1, r2⟩
    refine rs_ifS (b := !decide (p ∈ ac)) a sf (letI : Iv := Jb; et_cmp (op_notInD hu) (ev_name (i := 5) rfl (.inl rfl) rfl) (ev_name (i := 4) rfl (.inl rfl) rfl) bin_niEe rfl) (fun hb B H s1 a => ?_) fun hb B H s1 a => ?_
    · have hn : ¬ p ∈ ac := by simpa using hb
      refine rs_append (t := tEe p) a (ev_name (i := 4) rfl (.inl rfl) rfl) (.refl _) (ev_name (i := 5) rfl (.inl rfl) rfl) (by rw [List.length_map]; omega) (fun B H s1 a => rs_nil (rs_nil ⟨_, _, B, ⟨⟨_, rfl⟩, rfl⟩, a.cs (by unfold ins; rw [if_neg hn, List.map_append]; rfl)⟩)) (he := rfl) (hs := rfl) (hm := pe_bm PySem.F.plainAttrs_list PySem.F.slot_list_append PySem.F.type_list_append mt_append pe_c pa_c)
    · have hn : p ∈ ac := by simpa using hb
      exact rs_nil (rs_nil ⟨_, _, B, ⟨⟨_, rfl⟩, rfl⟩, a.cs (by unfold ins; rw [if_pos hn])⟩)
  obtain ⟨⟨o5, rfl⟩, rfl⟩ := hI
  have a := a.cs (W' := (lp, oL ((prs l r).map tEe)) :: tabW R W low d rows) rfl
  obtain ⟨B1, b1, a⟩ := a.frzL hlp (i := 4) rfl
  have hpl := prs_len l r
  refine rs_for (xs := (prs l r).reverse) (τ := tEe) a rfl (EvI.is (ei_list (ev_rev (ev_name (i := 4) (t := tL ((prs l r).map tEe)) rfl (.inl rfl) rfl))) (by rw [List.map_reverse])) (fun _ _ => (tg_tup rfl (tgs_cons (tg_name (i := 6) nd rfl (.inl rfl)) (tgs_cons (tg_name (i := 7) nd rfl (.inl rfl)) tgs_nil))))
    (fun i Γ C => (∃ o5 o6 o7 o8 o9 o10, Γ = [some (tTabM K R W low d), some (tS l.s), some (tS r.s), some (nT n), some (tL ((prs l r).map tEe)), o5, o6, o7, o8, o9, o10]) ∧ ∃ rs, C = tabW R W low d rs ∧ (rs.map (·.1)).Nodup ∧ (∀ q ∈ rs, q.2.2 ≤ 150) ∧ (∀ q ∈ rs, tabF d rows q.2.1 ∨ H0 q.2.1 = none) ∧ ∀ p ∈ (prs l r).reverse.take i, ∃ q ∈ rs, q.1 = p ∧ n + 1 ≤ q.2.2)
    ⟨⟨_, _, _, _, _, _, rfl⟩, rows, rfl, tab.nd, tab.le, fun q hq => .inl (.inr ⟨q, hq, rfl⟩), fun p hp => by rw [List.take_zero] at hp; cases hp⟩ (fun B1 s1 i p Γ1 W1 σ B H hi hI a => ?_) fun Γ1 W1 σ B H s1 hI a => ?_
  · obtain ⟨⟨o5, o6, o7, o8, o9, o10, rfl⟩, rs, rfl, ndr, ler, frr, hasr⟩ := hI
    refine rs_setdef (i := 8) (p := p) (n := 10) hr a ndr (ev_ifld (fts := tbFts K R W low (tV (.ref d))) T.c_Tables T.n_Tables_its_rows (ev_name (i := 0) rfl (.inl rfl) rfl) (by kernel_rfl)) (ev_tup (ea_cons (ev_name (i := 6) rfl (.inl rfl) rfl) (ea_cons (ev_name (i := 7) rfl (.inl rfl) rfl) ea_nil))) nd rfl (.inl rfl) fun rs2 q σ B H s1 nd2 hq hqp hcase a => ?_
    have le2 : ∀ q ∈ rs2, q.2.2 ≤ 150 := by
      rcases hcase with e | ⟨e, e0, _⟩
      · rw [e]; exact ler
      · intro q' hq'
        rw [e] at hq'
        rcases List.mem_append.mp hq' with z | z
        · exact ler q' z
        · rw [List.mem_singleton] at z
          rw [z, e0]
          omega
    have fr2 : ∀ q ∈ rs2, tabF d rows q.2.1 ∨ H0 q.2.1 = none := by
      rcases hcase with e | ⟨e, _, e0⟩
      · rw [e]; exact frr
      · intro q' hq'
        rw [e] at hq'
        rcases List.mem_append.mp hq' with z | z
        · exact frr q' z
        · rw [List.mem_singleton] at z
          rw [z]
          exact .inr e0
    have has2 : ∀ p ∈ (prs l r).reverse.take i, ∃ q ∈ rs2, q.1 = p ∧ n + 1 ≤ q.2.2 := by
      intro p' hp'
      obtain ⟨q', g1, g2⟩ := hasr p' hp'
      rcases hcase with e | ⟨e, _, _⟩
      · exact ⟨q', by rw [e]; exact g1, g2⟩
      · exact ⟨q', by rw [e]; exact List.mem_append_left _ g1, g2⟩
    obtain ⟨r1, r2, e2⟩ := List.append_of_mem hq
    obtain ⟨p', ad, m0⟩ := q
    have hqp : p' = p := hqp
    subst hqp
    subst e2
    have hm0 : m0 ≤ 150 := le2 _ hq
    refine rs_while a (fun k Γ C => (∃ o5 o9 o10, Γ = [some (tTabM K R W low d), some (tS l.s), some (tS r.s), some (nT n), some (tL ((prs l r).map tEe)), o5, some (tS p'.1.s), some (tS p'.2.s), some (tV (.ref ad)), o9, o10]) ∧ ∃ m, m ≤ 150 ∧ C = tabW R W low d (r1 ++ (p', ad, m) :: r2) ∧ k = n + 1 - m) ⟨_, ⟨_, _, _, rfl⟩, m0, hm0, rfl, rfl⟩ fun k Γ1 W1 σ B H sw hM a Q qt qf => ?_
    obtain ⟨⟨o5, o9, o10, rfl⟩, m, hm, rfl, rfl⟩ := hM
    have hin : rCell R W low (p', ad, m) ∈ tabW R W low d (r1 ++ (p', ad, m) :: r2) := List.mem_cons_of_mem _ (List.mem_map.mpr ⟨_, List.mem_append_right _ List.mem_cons_self, rfl⟩)
    have ndm : ((r1 ++ (p', ad, m) :: r2).map (·.1)).Nodup := by
      have e : (r1 ++ (p', ad, m) :: r2).map (·.1) = (r1 ++ (p', ad, m0) :: r2).map (·.1) := by rw [List.map_append, List.map_append]; rfl
      rw [e]
      exact nd2
    have fsl : ∀ {B H : Hp} (a : At (tabF d rows) B0 H0 B1 [some (tTabM K R W low d), some (tS l.s), some (tS r.s), some (nT n), some (tL ((prs l r).map tEe)), o5, some (tS p'.1.s), some (tS p'.2.s), some (tV (.ref ad)), o9, o10] (tabW R W low d (r1 ++ (p', ad, m) :: r2)) σ B H),
        SOk [some (tTab K R W low (rtys R W low (r1 ++ (p', ad, m) :: r2))), some (tS l.s), some (tS r.s), some (nT n), some (tL ((prs l r).map tEe)), o5, some (tS p'.1.s), some (tS p'.2.s), some (tL (rTs R W low p' m)), o9, o10] (fz (tabW R W low d (r1 ++ (p', ad, m) :: r2)) B H) σ := fun {B H} a => by
      obtain ⟨o, h1, vs, e1, r3⟩ := a.fzl hin
      subst e1
      have s1 := SOk.re (s := a.s.mono fz_same) (i := 8) (v := .ref ad) (t := tL (rTs R W low p' m)) rfl ⟨ad, vs, rfl, h1, r3⟩
      exact SOk.rev s1 (i := 0) (t := tTabM K R W low d) (t2 := tTab K R W low (rtys R W low (r1 ++ (p', ad, m) :: r2))) rfl fun v hv => tabM_to hv (Same.refl _) (fz_rows a fun c hc => hc).1
    refine et_pure (k := decide ((m : Int) ≤ (n : Int))) a (fsl a) ?_ fun B H n1 a => ?_
    · letI : Iv := Jb
      exact EvT.is (et_cmp op_le (ev_callB call_lenS rfl T.b_len bt_len (ea_cons (ev_name (i := 8) (t := tL (rTs R W low p' m)) rfl (.inl rfl) rfl) ea_nil) cb_lenL) (ev_name (i := 3) rfl (.inl rfl) rfl) bin_I0 (nomark _)) (by unfold rTs; rw [List.length_map, List.length_range])
    by_cases hmn : m ≤ n
    · rw [decide_eq_true (show (m : Int) ≤ (n : Int) by omega)]
      refine qt H ?_
      have hready : Ready R W low (rtys R W low (r1 ++ (p', ad, m) :: r2)) ⟨p'.1, m, p'.2⟩ := by
        have one : ∀ q, (q = (p'.1, En.S) ∨ q = (En.S, p'.2)) → ∃ k, m ≤ k ∧ k ≤ 200 ∧ look (rtys R W low (r1 ++ (p', ad, m) :: r2)) (pkey q) = some (tRow R W low q k) := by
          intro q hq
          rcases prs_ok hi hq with e | e
          · exact ⟨m, Nat.le_refl _, by omega, by rw [e]; exact look_rtys ndm (q := (p', ad, m)) (List.mem_append_right _ List.mem_cons_self)⟩
          · obtain ⟨q', g1, g2, g3⟩ := has2 q e
            have g4 := le2 q' g1
            rcases List.mem_append.mp g1 with z | z
            · exact ⟨q'.2.2, by omega, by omega, by rw [← g2]; exact look_rtys ndm (q := q') (List.mem_append_left _ z)⟩
            · rcases List.mem_cons.mp z with z | z
              · have e2 : q = p' := by rw [← g2, z]
                exact ⟨m, Nat.le_refl _, by omega, by rw [e2]; exact look_rtys ndm (q := (p', ad, m)) (List.mem_append_right _ List.mem_cons_self)⟩
              · exact ⟨q'.2.2, by omega, by omega, by rw [← g2]; exact look_rtys ndm (q := q') (List.mem_append_right _ (List.mem_cons_of_mem _ z))⟩
        exact ⟨one _ (.inl rfl), one _ (.inr rfl)⟩
      refine rs_appendS (t := tI (best R W low ⟨p'.1, m, p'.2⟩)) (ts := rTs R W low p' m) a (ev_name (i := 8) rfl (.inl rfl) rfl) tab_perm (fun B H a Q q => ?_) (by unfold rTs; rw [List.length_map, List.length_range]; omega) (fun B' H' sa a => rs_nil ⟨_, _, _, B', ?_, ⟨⟨_, _, _, rfl⟩, m + 1, by omega, rfl, rfl⟩, ?_, a.perm ?_⟩) (he := rfl) (hs := rfl) (hm := pe_bm PySem.F.plainAttrs_list PySem.F.slot_list_append PySem.F.type_list_append mt_append pe_c (pa_cons pe_c pa_nil))
      · refine ev_pure a (fsl a) (letI : Iv := Jb; ?_) (fun _ _ => cl_V) q
        have Cw := c_ways (J := Jb) (P := P) (w := w) (base := base) T R W low (rtys R W low (r1 ++ (p', ad, m) :: r2))
        have Cc := c_chosen (J := Jb) (P := P) (w := w) (base := base) T R W low (rtys R W low (r1 ++ (p', ad, m) :: r2))
        have hwl := ways_len hR (W := W) ⟨p'.1, m, p'.2⟩ (best R W low)
        have hwl : (waysV R W ⟨p'.1, m, p'.2⟩ (best R W low)).length ≤ 5 * (m + 2) + 1 := hwl
        refine EvE.is (ev_meth Cc T.c_Tables (hr.mono (by decide)) (ev_name (i := 0) rfl (.inl rfl) rfl) (tb_inst (by kernel_rfl)) (d := (waysV R W ⟨p'.1, m, p'.2⟩ (best R W low)).map (·.1)) (ea_cons (EvE.is (ev_lc (own := [("total", 9), ("sale", 10)]) (xs := waysV R W ⟨p'.1, m, p'.2⟩ (best R W low)) (τ := tWay) (p := fun _ => true) (g := fun q => tI q.1) rfl nd (blkOk_by (N := ["self", "left", "right", "upto", "pairs", "pair", "one", "other", "found", "total", "sale"]) (sc := defScope s_Tables_row) (by decide +kernel))
          (ei_list (ev_meth Cw T.c_Tables (hr.mono (by decide)) (ev_name (i := 0) rfl (.inl rfl) rfl) (tb_inst (by kernel_rfl)) (d := ⟨p'.1, m, p'.2⟩) (ea_cons (ev_tup (ea_cons (ev_name (i := 6) rfl (.inl rfl) rfl) (ea_cons (EvE.is (ev_callB call_lenS rfl T.b_len bt_len (ea_cons (ev_name (i := 8) (t := tL (rTs R W low p' m)) rfl (.inl rfl) rfl) ea_nil) cb_lenL) (t2 := nT m) (by unfold rTs; rw [List.length_map, List.length_range])) (ea_cons (ev_name (i := 7) rfl (.inl rfl) rfl) ea_nil)))) ea_nil) ⟨⟨⟨hR, hF⟩, by show m ≤ 100; omega⟩, hready⟩)) (by decide) (by omega) (fun _ _ _ _ _ _ _ => (tg_tup rfl (tgs_cons (tg_name (i := 9) nd rfl (.inl rfl)) (tgs_cons (tg_name (i := 10) nd rfl (.inl rfl)) tgs_nil)))) (fun _ _ _ _ _ _ _ => ets_nil) (fun _ _ _ _ _ _ _ => fun _ => (ev_name (i := 9) rfl (.inl rfl) rfl))) (t2 := tL (((waysV R W ⟨p'.1, m, p'.2⟩ (best R W low)).map (·.1)).map tI)) (by rw [filter_yes, List.map_map]; rfl)) ea_nil) (by
            intro e
            exact ways_ne hF _ _ (List.map_eq_nil_iff.mp e))) (congrArg tI (best_eq hR W low ⟨p'.1, m, p'.2⟩).symm)
      · omega
      · exact (sw.trans n1.bb).trans sa
      · rw [← rTs_succ, refs_same (k := m + 1)]
        exact (tab_perm (q := (p', ad, m + 1))).symm
    · rw [decide_eq_false (show ¬ (m : Int) ≤ (n : Int) by omega)]
      refine qf H (rs_nil ⟨_, _, B, ⟨⟨_, _, _, _, _, _, rfl⟩, r1 ++ (p', ad, m) :: r2, rfl, ndm, ?_, ?_, ?_⟩, a⟩)
      · intro q hq
        rcases List.mem_append.mp hq with z | z
        · exact le2 q (List.mem_append_left _ z)
        · rcases List.mem_cons.mp z with z | z
          · rw [z]; exact hm
          · exact le2 q (List.mem_append_right _ (List.mem_cons_of_mem _ z))
      · intro q hq
        rcases List.mem_append.mp hq with z | z
        · exact fr2 q (List.mem_append_left _ z)
        · rcases List.mem_cons.mp z with z | z
          · rw [z]
            exact fr2 (p', ad, m0) (List.mem_append_right _ List.mem_cons_self)
          · exact fr2 q (List.mem_append_right _ (List.mem_cons_of_mem _ z))
      · intro q hq
        rw [take_succ' hi] at hq
        have self : ∃ q' ∈ r1 ++ (p', ad, m) :: r2, q'.1 = p' ∧ n + 1 ≤ q'.2.2 := ⟨_, List.mem_append_right _ List.mem_cons_self, rfl, by show n + 1 ≤ m; omega⟩
        rcases List.mem_append.mp hq with z | z
        · obtain ⟨q', g1, g2, g3⟩ := has2 q z
          rcases List.mem_append.mp g1 with y | y
          · exact ⟨q', List.mem_append_left _ y, g2, g3⟩
          · rcases List.mem_cons.mp y with y | y
            · rw [← g2, y]
              exact self
            · exact ⟨q', List.mem_append_right _ (List.mem_cons_of_mem _ y), g2, g3⟩
        · rw [List.mem_singleton] at z
          rw [z]
          exact self
  · obtain ⟨⟨o5, o6, o7, o8, o9, o10, rfl⟩, rs, rfl, ndr, ler, frr, hasr⟩ := hI
    rw [List.take_length] at hasr
    have has : Has rs l r n := fun p hp => hasr p (List.mem_reverse.mpr hp)
    obtain ⟨q, hq, hqp, hqn⟩ := has (l, r) (prs_mem l r).1
    refine rs_retS (t := tRow R W low (l, r) (n + 1)) a (fun Q qq => ?_) fun v B' H' s1 a r' => k v B' H' rs a.n a.o ndr ler frr has r'
    have sf : SOk [some (tIns (He.ga K "Tables") (tbFts K R W low (tDr (refs rs)))), some (tS l.s), some (tS r.s), some (nT n), some (tL ((prs l r).map tEe)), o5, o6, o7, o8, o9, o10] (fz (tabW R W low d rs) B H) σ :=
      SOk.rev (a.s.mono fz_same) (i := 0) (t := tTabM K R W low d) rfl fun v hv => tabM_to hv (Same.refl _) (fz_rows a fun c hc => hc).2
    refine ⟨_, pe_slice sl_list pe_c po_c po_c, ?_⟩
    refine ev_pure (t := tV (.ref q.2.1)) a sf (letI : Iv := Jb; ev_dgetTr (k := pkey (l, r)) (n := 10) hr (ev_ifld (fts := tbFts K R W low (tDr (refs rs))) T.c_Tables T.n_Tables_its_rows (ev_name (i := 0) rfl (.inl rfl) rfl) (by kernel_rfl)) (ev_tup (ea_cons (ev_name (i := 1) rfl (.inl rfl) rfl) (ea_cons (ev_name (i := 2) rfl (.inl rfl) rfl) ea_nil))) (by rw [← hqp]; exact look_refs ndr hq)) (fun _ _ => cl_V) fun v B1 H1 n1 a1 ev => ?_
    refine eo_none σ B1 H1 a1.s a1.n.bh _ fun B2 H2 n2 => ?_
    have a2 := a1.step n2
    refine (eo_some (n := ((n + 1 : Nat) : Int)) (EvE.is (ev_bin op_add (ev_name (i := 3) rfl (.inl rfl) rfl) ev_int bin_I0) (by congr 1))) σ B2 H2 a2.s a2.n.bh _ fun B3 H3 n3 => ?_
    have a3 := a2.step n3
    have hin : rCell R W low q ∈ tabW R W low d rs := List.mem_cons_of_mem _ (List.mem_map.mpr ⟨_, hq, rfl⟩)
    obtain ⟨_, _, o, h3, vs, e3, r3⟩ := a3.o.each _ hin
    subst e3
    refine ⟨q.2.1, vs, ev, .of h3, fun p hp => ?_⟩
    have n4 : Nw nF B3 H3 (upd B3 p (.lst (cutV vs none (some ((n + 1 : Nat) : Int))))) (upd H3 p (.lst (cutV vs none (some ((n + 1 : Nat) : Int))))) := .lay a3.n.bh hp
    refine qq _ _ _ (((n1.trans n2).trans n3).trans n4) (a3.step n4) ⟨p, _, rfl, upd_same, ?_⟩
    have c := (tys_cut (i := none) (j := some ((n + 1 : Nat) : Int)) r3).mono n4.bb
    rw [cut_to] at c
    have e : ((rTs R W low q.1 q.2.2).take (n + 1)) = (List.range (n + 1)).map fun i => tI (best R W low ⟨l, i, r⟩) := by
      unfold rTs
      rw [← List.map_take, List.take_range, Nat.min_eq_left hqn, hqp]
    rw [e] at c
    exact c
end
end Ls
set_option maxHeartbeats 8000000 -- Te
/-! Tables: made, best, best_sale; as an invariant. -/
namespace Ls
open PySem Spec PyProof.Rows L2
section
variable [J : Iv] {R : Ru} {W : Wo} {low : Bool}
/-- a method of Tables that fills rows: its arguments, what it fills, its answer -/
def spT {α : Type} (K : PySem.W.Frag) (R : Ru) (W : Wo) (low : Bool) (args : α → List Ty) (pre : α → Prop) (fl : α → En × En × Nat) (res : α → Ty) : Sp := fun vs H Q _ => ∃ (d : Addr) (rows : List Rw) (x : α) (B : Hp) (v0 : V) (ws : List V), Sm B H ∧ (RW.Ok R W ∧ pre x) ∧ vs = v0 :: ws ∧ (tTabM K R W low d).p B v0 ∧ Tys B (args x) ws ∧ TabAt R W low d rows B H ∧
  ∀ v B' H' rows', Nw (tabF d rows) B H B' H' → TabAt R W low d rows' B' H' → (∀ q ∈ rows', tabF d rows q.2.1 ∨ H q.2.1 = none) → Has rows' (fl x).1 (fl x).2.1 (fl x).2.2 → (res x).p B' v → Q v H'
def rwArgs (x : En × En × Nat) : List Ty := [tS x.1.s, tS x.2.1.s, nT x.2.2]
def rwPre (x : En × En × Nat) : Prop := x.2.2 ≤ 99
def rwRes (R : Ru) (W : Wo) (low : Bool) (x : En × En × Nat) : Ty := tRow R W low (x.1, x.2.1) (x.2.2 + 1)
variable {P : Program} {w : World} {K : PySem.W.Frag} {mg : Str → Option Value} {base : Heap}
/-- a method, by its function -/
structure CalX (P : Program) (w : World) (K : PySem.W.Frag) (mg : Str → Option Value) (base : Heap) (C : Addr) (m : Str) (k : Nat) (sp : Sp) : Prop where
  ex : ∃ (f : Addr) (fd : FuncData) (ps : List Str), Meth K C m f ∧ Binds K fd ps [] ∧ FnOk P w K mg base CX0 k f fd ps sp
theorem c_row (T : Top K mg) (R : Ru) (W : Wo) (low : Bool) : CalX P w K mg base (He.ga K "Tables") "row" 11 (spT K R W low rwArgs rwPre id (rwRes R W low)) := by
  obtain ⟨fd, Fd, F⟩ := ok_row (P := P) (w := w) (base := base) T R W low
  refine ⟨_, fd, _, T.t_Tables_row, Fd.bindsN (fun _ _ _ _ _ _ us hl => match us, hl with | [_, _, _, _], _ => rfl), F.imp fun vs H Q E ⟨d, rows, ⟨l, r, n⟩, B, v0, ws, bh, ⟨h1, h2⟩, e, h3, h4, h5, q⟩ => ⟨d, rows, l, r, n, B, v0, bh, ⟨h1, h2⟩, ?_, h3, h5, q⟩⟩
  cases h4 with
  | cons a1 h4 =>
  cases h4 with
  | cons a2 h4 =>
  cases h4 with
  | cons a3 h4 =>
  cases h4
  cases a1
  cases a2
  cases a3
  exact e
section
variable {F : Addr → Prop} {B0 H0 Bg : Hp} {Γ : Ctx} {C W' : Cells} {σ : L2.St} {B H B' H' : Hp} {d : Addr} {rows rows' : List Rw}
theorem tabF_mem {x : Addr} : tabF d rows x ↔ x ∈ (tabW R W low d rows).map (·.1) := by
  constructor
  · rintro (e | ⟨q, hq, e⟩)
    · rw [e]; exact List.mem_cons_self
    · rw [e]
      exact List.mem_cons_of_mem _ (List.mem_map.mpr ⟨rCell R W low q, List.mem_map.mpr ⟨q, hq, rfl⟩, rfl⟩)
  · intro h
    rcases List.mem_cons.mp h with e | h
    · exact .inl e
    · obtain ⟨c, hc, e⟩ := List.mem_map.mp h
      obtain ⟨q, hq, e2⟩ := List.mem_map.mp hc
      exact .inr ⟨q, hq, by rw [← e, ← e2]; rfl⟩
theorem At.tab (a : At F B0 H0 Bg Γ (tabW R W low d rows ++ W') σ B H) (n : Nw (tabF d rows) B H B' H') (t : TabAt R W low d rows' B' H') (fr : ∀ q ∈ rows', tabF d rows q.2.1 ∨ H q.2.1 = none) : At F B0 H0 Bg Γ (tabW R W low d rows' ++ W') σ B' H' := by
  have hF : ∀ x, tabF d rows x → F x ∨ H0 x = none := fun x hx => by
    obtain ⟨c, hc, e⟩ := List.mem_map.mp ((tabF_mem (R := R) (W := W) (low := low)).mp hx)
    rw [← e]
    exact (a.o.each c (List.mem_append_left _ hc)).1
  have hT : ∀ c ∈ tabW R W low d rows', tabF d rows c.1 ∨ H c.1 = none := fun c hc => by
    rcases List.mem_cons.mp hc with e | hc
    · rw [e]; exact .inl (.inl rfl)
    · obtain ⟨q, hq, e⟩ := List.mem_map.mp hc
      rw [← e]
      exact fr q hq
  have ap := a.o.apart
  rw [List.map_append] at ap
  obtain ⟨_, ap2, ap3⟩ := List.nodup_append.mp ap
  refine ⟨a.s.mono n.bb, a.n.transF n hF, a.g.trans n.bb, fun c hc => ?_, ?_⟩
  · rcases List.mem_append.mp hc with hc | hc
    · obtain ⟨_, h2, h3⟩ := t.own.each c hc
      refine ⟨?_, h2, h3⟩
      rcases hT c hc with z | z
      · exact hF _ z
      · exact .inr (a.n.fresh z)
    · obtain ⟨h1, h2, o, h3, h4⟩ := a.o.each c (List.mem_append_right _ hc)
      have hn : ¬ tabF d rows c.1 := fun z => ap3 c.1 ((tabF_mem (R := R) (W := W) (low := low)).mp z) c.1 (List.mem_map.mpr ⟨c, hc, rfl⟩) rfl
      exact ⟨h1, ⟨n.fr _ _ h2.1 h3, n.nf _ _ h2.2 h3⟩, o, n.hh _ _ hn h2.2 h3, c.2.mono n.bb h4⟩
  · rw [List.map_append]
    refine List.nodup_append.mpr ⟨t.own.apart, ap2, fun x hx y hy e => ?_⟩
    subst e
    obtain ⟨c, hc, e⟩ := List.mem_map.mp hx
    obtain ⟨c2, hc2, e2⟩ := List.mem_map.mp hy
    rcases hT c hc with z | z
    · rw [e] at z
      exact ap3 x ((tabF_mem (R := R) (W := W) (low := low)).mp z) x hy rfl
    · obtain ⟨_, _, o, h3, _⟩ := a.o.each c2 (List.mem_append_right _ hc2)
      rw [e] at z
      rw [e2, z] at h3
      cases h3
theorem At.tabAt (a : At F B0 H0 Bg Γ (tabW R W low d rows ++ W') σ B H) (nd : (rows.map (·.1)).Nodup) (le : ∀ q ∈ rows, q.2.2 ≤ 150) : TabAt R W low d rows B H :=
  ⟨⟨fun c hc => let ⟨_, h2, h3⟩ := a.o.each c (List.mem_append_left _ hc); ⟨.inl trivial, h2, h3⟩, by have ap := a.o.apart; rw [List.map_append] at ap; exact (List.nodup_append.mp ap).1⟩, nd, le⟩
variable {X : Cx} {α : Type} {args : α → List Ty} {pre : α → Prop} {fl : α → En × En × Nat} {res : α → Ty} {o e : Expr} {es : List Expr} {m : Str} {pos apos : Pos} {k : Nat}
/-- o.m(e, ..), o a Tables -/
theorem run_meth (M : CalX X.prog X.w X.K X.mg X.base (He.ga X.K "Tables") m k (spT X.K R W low args pre fl res)) (c : Cls X.K (He.ga X.K "Tables")) (hr : Room k X.A) (a : At F B0 H0 Bg Γ (tabW R W low d rows ++ W') σ B H) (nd : (rows.map (·.1)).Nodup) (le : ∀ q ∈ rows, q.2.2 ≤ 150) (ho : EvE X Γ o (tTabM X.K R W low d)) (x : α) (ha : EvA X Γ (e :: es) (args x)) (hp : RW.Ok R W ∧ pre x)
    (hx : ((tbFts X.K R W low (tV (.ref d))).map (·.1)).all (fun y => !decide (y = m)) = true) {pl : Sem Bool} {Q : VK} (q : ∀ v B' H' rows', Same B B' → At F B0 H0 Bg Γ (tabW R W low d rows' ++ W') σ B' H' → (rows'.map (·.1)).Nodup → (∀ q ∈ rows', q.2.2 ≤ 150) → Has rows' (fl x).1 (fl x).2.1 (fl x).2.2 → (res x).p B' v → Q v H')
    (hst : starEach (e :: es) X.env = (false, eval e X.env) :: starEach es X.env := by rfl) (hpl : (backTo pos (starEach es X.env)).any (·.1) = false := by rfl)
    (ht : eval (.Call (.Attribute o m apos) (e :: es) [] pos) X.env = (do
      let ov ← eval o X.env
      standAt apos.atName
      let (f, first) ← holding [ov] (getMethod ov m pl)
      callWith pos f first (backTo pos (starEach (e :: es) X.env)) (backToKw pos (keywordEach [] X.env))) := by rfl) : RE X (.Call (.Attribute o m apos) (e :: es) [] pos) σ H Q := by
  obtain ⟨f, fd, ps, hm, hb, Fn⟩ := M.ex
  refine ⟨_, pe_meth pe_c c hm Fn hr hb .nil pass0 pa_c hst hpl ht, ho σ B H a.s a.n.bh _ fun v B1 H1 n1 r1 => ?_⟩
  have a1 := a.step n1
  obtain ⟨ad, dx, fs, e1, e2, e3⟩ := tb_inst hx B1 v r1
  refine ⟨ad, dx, fs, e1, n1.bh _ _ e2, e3, ha σ B1 H1 a1.s a1.n.bh _ fun vs B2 H2 n2 r2 => ?_⟩
  have a2 := a1.step n2
  rw [List.append_nil]
  exact ⟨d, rows, x, B2, v, vs, a2.n.bh, hp, rfl, (tTabM X.K R W low d).mono n2.bb r1, r2, a2.tabAt nd le, fun u B3 H3 rows' n3 t3 fr3 has r3 => q u B3 H3 rows' ((n1.trans n2).bb.trans n3.bb) (a2.tab n3 t3 fr3) t3.nd t3.le has r3⟩
end
theorem ok_T {α : Type} {args : α → List Ty} {pre : α → Prop} {fl : α → En × En × Nat} {res : α → Ty} {d : He.DefD} {k : Nat} {N ps : List Str} {fd : FuncData} {f : Addr} {dvs : List V} {kws : List (Str × V)} (F : FunD K d.name d.qual d.params d.body d.scope dvs kws f fd) (S : FnScope N ps d.scope)
    (hl : ∀ a, (args a).length + 1 = ps.length) (hN : ps.length ≤ N.length)
    (body : ∀ (cdv : Value) (cd : PySem.W.codeIn K cdv d.qual = true) (A : Around) (outer : List Env) (s : Shared) (H0 : Hp) (E : XK) (x : α) (B0 : Hp) (dd : Addr) (rows : List Rw) (σ : L2.St) (D : Ends), Room k (A.deeper (envOfC d.qual d.scope s.heap.objs.size f cdv)) → RW.Ok R W ∧ pre x → (rows.map (·.1)).Nodup → (∀ q ∈ rows, q.2.2 ≤ 150) →
      At (tabF dd rows) B0 H0 B0 ((tTabM K R W low dd :: args x).map some ++ List.replicate (N.length - ((args x).length + 1)) none) (tabW R W low dd rows ++ []) σ B0 H0 →
      (∀ v B' H' rows' Γ' σ' Bg', At (tabF dd rows) B0 H0 Bg' Γ' (tabW R W low dd rows' ++ []) σ' B' H' → (rows'.map (·.1)).Nodup → (∀ q ∈ rows', q.2.2 ≤ 150) → Has rows' (fl x).1 (fl x).2.1 (fl x).2.2 → (res x).p B' v → D.rt v H') →
      RS (cx0 P w K mg base N d f cdv A outer s H0 E) d.body D σ H0) : FnOk P w K mg base CX0 (k + 1) f fd ps (spT K R W low args pre fl res) := by
  obtain ⟨_, _, _, _, _, _, _, cdv, _, _, rfl, lk, hcd, _⟩ := F.ex
  refine fn_of lk hcd S (fun vs H Q E ⟨dd, rows, x, B, v0, ws, _, _, e, _, r, _⟩ => by rw [e, List.length_cons, r.length]; exact hl x) fun A outer s H vs Q E hr ⟨dd, rows, x, B, v0, ws, bh, hp, e, h0, r, tab, q⟩ => ?_
  subst e
  have r2 : Tys B (tTabM K R W low dd :: args x) (v0 :: ws) := .cons h0 r
  obtain ⟨t, h1, h2⟩ := body cdv hcd A outer s H E x B dd rows (L2.start N (v0 :: ws)) ⟨fun _ H' => Q .non H', Q, fun _ _ => False, fun _ _ => False⟩ hr hp tab.nd tab.le
    ⟨sok_start N r2 (by rw [List.length_cons, hl x]; exact hN), .refl bh, Same.refl B, ⟨fun z hz => by
      rw [List.append_nil] at hz
      obtain ⟨_, h2, h3⟩ := tab.own.each z hz
      exact ⟨.inl ((tabF_mem (R := R) (W := W) (low := low)).mpr (List.mem_map.mpr ⟨z, hz, rfl⟩)), h2, h3⟩, by rw [List.append_nil]; exact tab.own.apart⟩⟩ fun v B' H' rows' Γ' σ' Bg' a' nd' le' has r' => q v B' H' rows' a'.n (a'.tabAt nd' le') (fun z hz => by
      have hm : rCell R W low z ∈ tabW R W low dd rows' ++ [] := List.mem_append_left _ (List.mem_cons_of_mem _ (List.mem_map.mpr ⟨z, hz, rfl⟩))
      exact (a'.o.each _ hm).1) has r'
  exact ⟨t, h1.nox, h2⟩
/-! ### best -/
def btArgs (s : S3) : List Ty := [tSt s]
def btPre (s : S3) : Prop := s.n ≤ 99
def btFl (s : S3) : En × En × Nat := (s.l, s.r, s.n)
def btRes (R : Ru) (W : Wo) (low : Bool) (s : S3) : Ty := tI (best R W low s)
theorem sc_Tables_best : FnScope ["self", "stretch", "left", "length", "right"] ["self", "stretch"] (defScope s_Tables_best) := ⟨rfl, rfl, rfl, by decide +kernel, rfl, by decide +kernel, by decide +kernel⟩
theorem c_best (T : Top K mg) (R : Ru) (W : Wo) (low : Bool) : CalX P w K mg base (He.ga K "Tables") "best" 12 (spT K R W low btArgs btPre btFl (btRes R W low)) := by
  have nd := sc_Tables_best.nd
  have C_row := c_row (P := P) (w := w) (base := base) T R W low
  obtain ⟨fd, Fd⟩ := T.f_Tables_best
  refine ⟨_, fd, _, T.t_Tables_best, Fd.bindsN (fun _ _ _ _ _ _ us hl => match us, hl with | [_, _], _ => rfl), ok_T Fd sc_Tables_best (fun _ => rfl) (by decide) fun cdv cd A outer s H0 E t B0 d rows σ D hr hp ndr ler a k => ?_⟩
  refine rs_asg a (ev_name (i := 1) rfl (.inl rfl) rfl) (tg_tup rfl (tgs_cons (tg_name (i := 2) nd rfl (.inl rfl)) (tgs_cons (tg_name (i := 3) nd rfl (.inl rfl)) (tgs_cons (tg_name (i := 4) nd rfl (.inl rfl)) tgs_nil)))) fun σ B H s1 a => ?_
  refine rs_ps (ps_ret pe_c) ?_
  refine ⟨_, pe_ix ix_list pe_c pe_c (fun _ _ => rfl), run_meth C_row T.c_Tables (hr.mono (by decide)) a ndr ler (ev_name (i := 0) rfl (.inl rfl) rfl) (t.l, t.r, t.n) (ea_cons (ev_name (i := 2) rfl (.inl rfl) rfl) (ea_cons (ev_name (i := 4) rfl (.inl rfl) rfl) (ea_cons (ev_name (i := 3) rfl (.inl rfl) rfl) ea_nil))) hp (by kernel_rfl) fun v B' H' rows' sb a' nd' le' has r => ?_⟩
  refine (ev_neg ev_int) σ B' H' a'.s a'.n.bh _ fun u B2 H2 n2 r2 => ?_
  have a2 := a'.step n2
  refine bin_last (ts := (List.range (t.n + 1)).map fun i => tI (best R W low ⟨t.l, i, t.r⟩)) (t := tI (best R W low t)) rfl ?_ v u B2 H2 _ a2.n.bh ((rwRes R W low (t.l, t.r, t.n)).mono n2.bb r) r2 fun z B3 H3 n3 r3 => k z B3 H3 rows' _ _ _ (a2.step n3) nd' le' has r3
  rw [List.range_succ, List.map_append, List.map_cons, List.map_nil, List.getLast?_concat]
/-! ### best_sale -/
def bsRes (R : Ru) (W : Wo) (low : Bool) (s : S3) : Ty := tSale (bsale R W low s)
theorem sc_Tables_best_sale : FnScope ["self", "stretch", "due", "total", "sale"] ["self", "stretch"] (defScope s_Tables_best_sale) := ⟨rfl, rfl, rfl, by decide +kernel, rfl, by decide +kernel, by decide +kernel⟩
theorem Has.ready {rows : List Rw} {s : S3} (h : Has rows s.l s.r s.n) (nd : (rows.map (·.1)).Nodup) (le : ∀ q ∈ rows, q.2.2 ≤ 150) : Ready R W low (rtys R W low rows) s := by
  obtain ⟨_, h1, h2⟩ := prs_mem s.l s.r
  have one : ∀ p ∈ prs s.l s.r, ∃ m, s.n ≤ m ∧ m ≤ 200 ∧ look (rtys R W low rows) (pkey p) = some (tRow R W low p m) := fun p hp => by
    obtain ⟨q, g1, g2, g3⟩ := h p hp
    have := le q g1
    exact ⟨q.2.2, by omega, by omega, by rw [← g2]; exact look_rtys nd g1⟩
  exact ⟨one _ h1, one _ h2⟩
end
end Ls
set_option maxHeartbeats 8000000 -- Tf
/-! Tables: best_sale; made; as an invariant; greatest, least, table. -/
namespace Ls
open PySem Spec PyProof.Rows L2
theorem cl_T {W : Cells} {B B' : Hp} {xs : List V} (hW : ∀ c ∈ W, ∃ o, B' c.1 = some o ∧ ∀ ys, o ≠ .tup ys) : Cl W B B' (tT (xs.map tV)) := fun v ⟨a, vs, e, h, r⟩ => by
  refine ⟨a, vs, e, ?_, ?_⟩
  · unfold uz
    rw [if_neg fun z => by
      obtain ⟨c, hc, e2⟩ := List.mem_map.mp z.2
      obtain ⟨o, h1, h2⟩ := hW c hc
      rw [e2, h] at h1
      cases h1
      exact h2 _ rfl]
    exact h
  · have core : ∀ {xs vs : List V}, Tys B' (xs.map tV) vs → Tys (uz W B B') (xs.map tV) vs := fun {xs} => by
      induction xs with
      | nil => intro vs r; cases r; exact .nil
      | cons x xs ih =>
        intro vs r
        cases r with
        | cons a r => exact .cons a (ih r)
    exact core r
theorem int_eqi {a b : Int} : decide (V.int a = V.int b) = decide (a = b) := decide_eq_decide.mpr ⟨fun h => V.int.inj h, fun h => by rw [h]⟩
section
variable [J : Iv] {R : Ru} {W : Wo} {low : Bool} {P : Program} {w : World} {K : PySem.W.Frag} {mg : Str → Option Value} {base : Heap}
theorem tab_nt {F : Addr → Prop} {B0 H0 Bg : Hp} {Γ : Ctx} {σ : L2.St} {B H B' : Hp} {d : Addr} {rows : List Rw} (a : At F B0 H0 Bg Γ (tabW R W low d rows ++ []) σ B H) (hs : Same (fz (tabW R W low d rows ++ []) B H) B') : ∀ c ∈ tabW R W low d rows ++ [], ∃ o, B' c.1 = some o ∧ ∀ ys, o ≠ .tup ys := fun c hc => by
  obtain ⟨o, h1, h2⟩ := a.fzl (l := c.1) (ot := c.2) hc
  refine ⟨o, hs _ _ h1, fun ys e => ?_⟩
  rw [List.append_nil] at hc
  rcases List.mem_cons.mp hc with z | z
  · rw [z] at h2
    obtain ⟨kvs, e2, _⟩ := h2
    rw [e] at e2
    cases e2
  · obtain ⟨q, _, e3⟩ := List.mem_map.mp z
    rw [← e3] at h2
    obtain ⟨vs, e2, _⟩ := h2
    rw [e] at e2
    cases e2
theorem c_best_sale (T : Top K mg) (R : Ru) (W : Wo) (low : Bool) : CalX P w K mg base (He.ga K "Tables") "best_sale" 13 (spT K R W low btArgs btPre btFl (bsRes R W low)) := by
  have nd := sc_Tables_best_sale.nd
  have C_best := c_best (P := P) (w := w) (base := base) T R W low
  obtain ⟨fd, Fd⟩ := T.f_Tables_best_sale
  refine ⟨_, fd, _, T.t_Tables_best_sale, Fd.bindsN (fun _ _ _ _ _ _ us hl => match us, hl with | [_, _], _ => rfl), ok_T Fd sc_Tables_best_sale (fun _ => rfl) (by decide) fun cdv cd A outer s H0 E t B0 d rows σ D hr hp ndr ler a k => ?_⟩
  refine rs_ps (ps_set (i := 2) nd rfl (.inr rfl) pe_c rfl) (run_meth C_best T.c_Tables (hr.mono (by decide)) a ndr ler (ev_name (i := 0) rfl (.inl rfl) rfl) t (ea_cons (ev_name (i := 1) rfl (.inl rfl) rfl) ea_nil) hp (by kernel_rfl) fun v B H rows sb a nd2 le2 has r => ?_)
  have a := a.set 2 r
  have hready : Ready R W low (rtys R W low rows) t := Has.ready has nd2 le2
  have hn : t.n ≤ 99 := hp.2
  refine rs_retS (t := bsRes R W low t) a (fun Q q => ?_) fun v B' H' s1 a' r' => k v B' H' rows _ _ _ a' nd2 le2 has r'
  have sf := SOk.rev (a.s.mono (fz_same (W := tabW R W low d rows ++ []) (H := H))) (i := 0) (t := tTabM K R W low d) (t2 := tTab K R W low (rtys R W low rows)) rfl fun v hv => tabM_to hv (Same.refl _) (fz_rows (rows := rows) a fun c hc => List.mem_append_left _ hc).1
  refine ev_pure a sf (letI : Iv := Jb; ?_) (fun B' hs => ?_) q
  · have Cw := c_ways (J := Jb) (P := P) (w := w) (base := base) T R W low (rtys R W low rows)
    have hwl := ways_len hp.1.1 (W := W) t (best R W low)
    refine ev_sub ix_list (ev_lc (own := [("total", 3), ("sale", 4)]) (xs := waysV R W t (best R W low)) (τ := tWay) (p := fun q => decide (q.1 = best R W low t)) (g := fun q => tSale q.2) rfl nd (blkOk_by (N := ["self", "stretch", "due", "total", "sale"]) (sc := defScope s_Tables_best_sale) (by decide +kernel))
      (ei_list (ev_meth Cw T.c_Tables (hr.mono (by decide)) (ev_name (i := 0) rfl (.inl rfl) rfl) (tb_inst (by kernel_rfl)) (d := t) (ea_cons (ev_name (i := 1) rfl (.inl rfl) rfl) ea_nil) ⟨⟨hp.1, by omega⟩, hready⟩)) (by decide) (by omega) (fun _ _ _ _ _ _ _ => (tg_tup rfl (tgs_cons (tg_name (i := 3) nd rfl (.inl rfl)) (tgs_cons (tg_name (i := 4) nd rfl (.inl rfl)) tgs_nil))))
      (fun _ _ _ _ _ q _ => (ets_one (EvT.is (et_cmp op_eq (ev_name (i := 3) rfl (.inl rfl) rfl) (ev_name (i := 2) rfl (.inr (.inl rfl)) rfl) (bin_eq rfl) (nomark _)) int_eqi))) (fun _ _ _ _ _ _ _ => fun _ => (ev_name (i := 4) rfl (.inl rfl) rfl))) ev_int (bin_ixLi (j := 0) rfl ?_)
    have hne := bsale_ne hp.1.1 hp.1.2 low t
    unfold bsRes bsale
    cases e : (waysV R W t (best R W low)).filter fun q => decide (q.1 = best R W low t) with
    | nil => exact absurd e hne
    | cons q r => rfl
  · show Cl _ _ _ (tSale (bsale R W low t))
    cases bsale R W low t with
    | none => exact cl_V
    | some q => exact cl_T (xs := [.int (q.1 : Int), .int (q.2 : Int)]) (tab_nt a hs)
/-! ### made -/
def spTI (K : PySem.W.Frag) : Sp := fun vs H Q _ => ∃ (R : Ru) (W : Wo) (low : Bool) (B : Hp) (x dx : Addr) (ws : List V), vs = .ref x :: ws ∧ Sm B H ∧ H x = some (.ins (He.ga K "Tables") dx []) ∧ B x = none ∧ ¬ Iv.F H x ∧ RW.Ok R W ∧ Tys B [tRu K R, tWo K W, tB low] ws ∧
  ∀ B' H' d fs, Nw (fun a => a = x) B H B' H' → B' x = none → ¬ Iv.F H' x → H' x = some (.ins (He.ga K "Tables") dx fs) → DRel B' (tbFts K R W low (tV (.ref d))) fs → B' d = none → ¬ Iv.F H' d → H d = none → H' d = some (.dT []) → Q .non H'
theorem sc_Tables_init : FnScope ["self", "rule", "worth", "is_least"] ["self", "rule", "worth", "is_least"] (defScope s_Tables_init) := ⟨rfl, rfl, rfl, by decide +kernel, rfl, by decide +kernel, by decide +kernel⟩
theorem c_Tables_init (T : Top K mg) : ∃ fd, FunD K d_Tables_init.name d_Tables_init.qual d_Tables_init.params d_Tables_init.body d_Tables_init.scope (d_Tables_init.dvs K) (d_Tables_init.kws K) (He.fAd K d_Tables_init.at_) fd ∧ FnOk P w K mg base CX0 4 (He.fAd K d_Tables_init.at_) fd ["self", "rule", "worth", "is_least"] (spTI K) := by
  have C_need := c_need_until (P := P) (w := w) (base := base) T
  obtain ⟨fd, Fd⟩ := T.f_Tables_init
  refine ⟨fd, Fd, ?_⟩
  obtain ⟨_, _, _, _, _, _, _, cdv, _, _, rfl, lk, hcd, _⟩ := Fd.ex
  refine fn_of lk hcd sc_Tables_init (fun vs H Q E ⟨R, W, low, B, x, dx, ws, e, _, _, _, _, _, r, _⟩ => by rw [e, List.length_cons, r.length]; rfl) fun A outer s H vs Q E hr ⟨R, W, low, B, x, dx, ws, e, bh, hx, bx, fx, hp, r, q⟩ => ?_
  subst e
  have r2 : Tys B [tV (.ref x), tRu K R, tWo K W, tB low] (.ref x :: ws) := .cons rfl r
  suffices main : ∀ (σ : L2.St) (D : Ends), At (fun b => b = x) B H B [some (tV (.ref x)), some (tRu K R), some (tWo K W), some (tB low)] [(x, oI (He.ga K "Tables") dx [])] σ B H → (∀ σ' Γ B' H' d, H d = none → At (fun b => b = x) B H B Γ [(x, oI (He.ga K "Tables") dx (tbFts K R W low (tV (.ref d)))), (d, oDT [])] σ' B' H' → D.nx σ' H') →
      RS (cx0 P w K mg base ["self", "rule", "worth", "is_least"] d_Tables_init (He.fAd K d_Tables_init.at_) cdv A outer s H E) d_Tables_init.body D σ H by
    obtain ⟨t, h1, h2⟩ := main (L2.start ["self", "rule", "worth", "is_least"] (.ref x :: ws)) ⟨fun _ H' => Q .non H', Q, fun _ _ => False, fun _ _ => False⟩
      ⟨sok_start ["self", "rule", "worth", "is_least"] r2 (Nat.le_of_ble_eq_true rfl), .refl bh, Same.refl B, ⟨fun z hz => by
        rw [List.mem_singleton] at hz
        subst hz
        exact ⟨.inl rfl, ⟨bx, fx⟩, _, hx, [], rfl, .nil⟩, List.nodup_cons.mpr ⟨fun z => (nomatch z), List.nodup_nil⟩⟩⟩ fun σ' Γ B' H' d hd a' => by
        obtain ⟨_, b2, o, b3, fs, b4, b5⟩ := a'.cell
        subst b4
        obtain ⟨_, c2, o, c3, kvs, c4, c5⟩ := a'.o.each (d, oDT []) (List.mem_cons_of_mem _ List.mem_cons_self)
        subst c4
        cases c5
        exact q B' H' d fs a'.n b2.1 b2.2 b3 b5 c2.1 c2.2 hd c3
    exact ⟨t, h1.nox, h2⟩
  intro σ D a k
  refine rs_expr a (ev_call C_need (hr.mono (by decide)) rfl (d := (R, W)) (ea_cons (ev_name (i := 1) rfl (.inl rfl) rfl) (ea_cons (ev_name (i := 2) rfl (.inl rfl) rfl) ea_nil)) hp) fun B1 H1 s1 a => ?_
  refine rs_fld a (ev_name (i := 1) rfl (.inl rfl) rfl) (ev_name (i := 0) rfl (.inl rfl) rfl) (.refl _) T.c_Tables T.n_Tables_its_rule (Nat.le_of_ble_eq_true rfl) (by kernel_rfl) fun B1 H1 s1 a => ?_
  refine rs_fld a (ev_name (i := 2) rfl (.inl rfl) rfl) (ev_name (i := 0) rfl (.inl rfl) rfl) (.refl _) T.c_Tables T.n_Tables_its_worth (Nat.le_of_ble_eq_true rfl) (by kernel_rfl) fun B1 H1 s1 a => ?_
  refine rs_fld a (ev_name (i := 3) rfl (.inl rfl) rfl) (ev_name (i := 0) rfl (.inl rfl) rfl) (.refl _) T.c_Tables T.n_Tables_its_least (Nat.le_of_ble_eq_true rfl) (by kernel_rfl) fun B1 H1 s1 a => ?_
  refine rs_fldN a en_dnewT (ev_name (i := 0) rfl (.inl rfl) rfl) (.refl _) T.c_Tables T.n_Tables_its_rows (Nat.le_of_ble_eq_true rfl) (by kernel_rfl) fun l B1 H1 s1 hl a => ?_
  exact rs_nil (k _ _ _ _ l hl a)
/-- Tables(rule, worth, low) -/
theorem run_mkT {X : Cx} {Γ : Ctx} {σ : L2.St} {B H : Hp} {e1 e2 e3 : Expr} {p pos : Pos} (T : Top X.K X.mg) (hr : Room 5 X.A) (hg : Gl X "Tables") (so : SOk Γ B σ) (bh : Sm B H) (ha : EvA X Γ [e1, e2, e3] [tRu X.K R, tWo X.K W, tB low]) (hp : RW.Ok R W) {Q : VK}
    (q : ∀ v B' H' d, Nw nF B H B' H' → (tTabM X.K R W low d).p B' v → B' d = none → ¬ Iv.F H' d → H d = none → H' d = some (.dT []) → Q v H')
    (he : starEach [e1, e2, e3] X.env = (false, eval e1 X.env) :: starEach [e2, e3] X.env := by rfl) (hpl : (backTo pos (starEach [e2, e3] X.env)).any (·.1) = false := by rfl) : RE X (.Call (.Name "Tables" p) [e1, e2, e3] [] pos) σ H Q := by
  obtain ⟨fd, Fd, Fn⟩ := c_Tables_init (P := X.prog) (w := X.w) (base := X.base) T
  refine ⟨_, pe_make T.m_Tables Fn hr hg T.g_Tables (Fd.bindsN (fun _ _ _ _ _ _ us hl => match us, hl with | [_, _, _, _], _ => rfl)) .nil pass0 pa_c (by decide) he hpl, ha σ B H so bh _ fun vs B1 H1 n1 r1 => fun x dx hx hdx ne => ?_⟩
  rw [List.append_nil]
  have m1 : Nw nF B1 H1 B1 (upd H1 dx (.own x)) := .new n1.bh hdx
  have hx1 : upd H1 dx (.own x) x = none := by rw [upd_ne (fun e => ne e.symm)]; exact hx
  have m2 : Nw nF B1 H1 B1 (upd (upd H1 dx (.own x)) x (.ins (He.ga X.K "Tables") dx [])) := m1.trans (.new m1.bh hx1)
  refine ⟨R, W, low, B1, x, dx, vs, rfl, m2.bh, upd_same, n1.bh.free hx, nfu m1.bh (m1.bh.nf hx1) (m1.bh.nf hx1), hp, r1, fun B' H' d fs n b f h r' bd fd' hd hd' => ⟨rfl, ?_⟩⟩
  have n3 : Nw nF B1 H1 B' H' := m2.transF n fun a e => .inr (by rw [e]; exact hx)
  have ne2 : d ≠ x := fun e => by rw [e, h] at hd'; cases hd'
  have hd1 : H1 d = none := m2.fresh hd
  refine q (.ref x) _ H' d (n1.trans (n3.freeze b h hx f)) ⟨x, dx, fs, rfl, upd_same, r'.mono (same_upd b)⟩ ?_ fd' (n1.fresh hd1) hd'
  rw [upd_ne ne2]
  exact bd
end
end Ls
set_option maxHeartbeats 8000000 -- Tg
/-! greatest, least, table; Tables as an invariant; sums. -/
namespace Ls
open PySem Spec PyProof.Rows L2
/-- what changes by itself is always the same -/
class St [J : Iv] : Prop where
  st : ∀ H H' a, J.F H a → J.F H' a
section
variable [J : Iv] {R : Ru} {W : Wo} {low : Bool} {P : Program} {w : World} {K : PySem.W.Frag} {mg : Str → Option Value} {base : Heap}
theorem tabAt0 {B H : Hp} {d : Addr} (bd : B d = none) (fd : ¬ Iv.F H d) (hd : H d = some (.dT [])) : TabAt R W low d [] B H :=
  ⟨⟨fun c hc => by
    have e : c = (d, oDT (refs [])) := by
      rcases List.mem_cons.mp hc with e | h
      · exact e
      · cases h
    subst e
    exact ⟨.inl trivial, ⟨bd, fd⟩, _, hd, [], rfl, .nil⟩, List.nodup_cons.mpr ⟨fun z => (nomatch z), List.nodup_nil⟩⟩, List.nodup_nil, fun q hq => (nomatch hq)⟩
section
variable {X : Cx} {Γ : Ctx} {α : Type} {args : α → List Ty} {pre : α → Prop} {fl : α → En × En × Nat} {res : α → Ty} {e1 e2 e3 e : Expr} {es : List Expr} {m : Str} {p pos apos pos2 : Pos} {k : Nat}
theorem TabAt.step {B H B' H' : Hp} {d : Addr} {rows : List Rw} (t : TabAt R W low d rows B H) (n : Nw nF B H B' H') : TabAt R W low d rows B' H' :=
  ⟨⟨fun c hc => let ⟨_, h2, o, h3, h4⟩ := t.own.each c hc; ⟨.inl trivial, ⟨n.fr _ _ h2.1 h3, n.nf _ _ h2.2 h3⟩, o, n.keep _ _ h2.2 h3, c.2.mono n.bb h4⟩, t.own.apart⟩, t.nd, t.le⟩
/-- Tables(rule, worth, low).m(e, ..) -/
theorem ev_mkm (T : Top X.K X.mg) (M : CalX X.prog X.w X.K X.mg X.base (He.ga X.K "Tables") m k (spT X.K R W low args pre fl res)) (hr : Room k X.A) (h5 : 5 ≤ k) (hg : Gl X "Tables") (h3 : EvA X Γ [e1, e2, e3] [tRu X.K R, tWo X.K W, tB low]) (x : α) (ha : EvA X Γ (e :: es) (args x)) (hp : RW.Ok R W ∧ pre x)
    (hx : ∀ d, ((tbFts X.K R W low (tV (.ref d))).map (·.1)).all (fun y => !decide (y = m)) = true) {pl : Sem Bool} {t : Ty} (hres : res x = t := by rfl)
    (he : starEach [e1, e2, e3] X.env = (false, eval e1 X.env) :: starEach [e2, e3] X.env := by rfl) (hpl2 : (backTo pos2 (starEach [e2, e3] X.env)).any (·.1) = false := by rfl)
    (hst : starEach (e :: es) X.env = (false, eval e X.env) :: starEach es X.env := by rfl) (hpl : (backTo pos (starEach es X.env)).any (·.1) = false := by rfl)
    (ht : eval (.Call (.Attribute (.Call (.Name "Tables" p) [e1, e2, e3] [] pos2) m apos) (e :: es) [] pos) X.env = (do
      let ov ← eval (.Call (.Name "Tables" p) [e1, e2, e3] [] pos2) X.env
      standAt apos.atName
      let (f, first) ← holding [ov] (getMethod ov m pl)
      callWith pos f first (backTo pos (starEach (e :: es) X.env)) (backToKw pos (keywordEach [] X.env))) := by rfl) : EvE X Γ (.Call (.Attribute (.Call (.Name "Tables" p) [e1, e2, e3] [] pos2) m apos) (e :: es) [] pos) t := fun σ B H so bh Q q => by
  subst hres
  obtain ⟨f, fd, ps, hm, hb, Fn⟩ := M.ex
  refine ⟨_, pe_meth pe_c T.c_Tables hm Fn hr hb .nil pass0 pa_c hst hpl ht, run_mkT T (hr.mono h5) hg so bh h3 hp.1 (fun v B1 H1 d n1 hv bd fd1 hd hd' => ?_) he hpl2⟩
  obtain ⟨ad, dx, fs, g1, g2, g3⟩ := tb_inst (x := m) (hx d) B1 v hv
  refine ⟨ad, dx, fs, g1, n1.bh _ _ g2, g3, ha σ B1 H1 (so.mono n1.bb) n1.bh _ fun vs B2 H2 n2 r2 => ?_⟩
  rw [List.append_nil]
  have t1 : TabAt R W low d [] B1 H1 := tabAt0 bd fd1 hd'
  refine ⟨d, [], x, B2, v, vs, n2.bh, hp, rfl, (tTabM X.K R W low d).mono n2.bb hv, r2, t1.step n2, fun u B3 H3 rows' n3 _ _ _ r3 => q u B3 H3 ((n1.trans n2).transF n3 fun y hy => ?_) r3⟩
  rcases hy with z | ⟨q, hq, _⟩
  · rw [z]; exact .inr hd
  · cases hq
end
def spRWT (K : PySem.W.Frag) (f : Ru → Wo → S3 → Ty) : Sp := spF (α := Ru × Wo × S3) (fun d => [tRu K d.1, tWo K d.2.1, tSt d.2.2]) (fun d => RW.Ok d.1 d.2.1 ∧ d.2.2.n ≤ 99) (fun d => f d.1 d.2.1 d.2.2)
theorem sc_greatest : FnScope ["rule", "worth", "stretch"] ["rule", "worth", "stretch"] (defScope s_greatest) := ⟨rfl, rfl, rfl, by decide +kernel, rfl, by decide +kernel, by decide +kernel⟩
theorem sc_least : FnScope ["rule", "worth", "stretch"] ["rule", "worth", "stretch"] (defScope s_least) := ⟨rfl, rfl, rfl, by decide +kernel, rfl, by decide +kernel, by decide +kernel⟩
theorem c_greatest (T : Top K mg) : Cal P w K mg base "greatest" 13 (spRWT K fun R W s => tI (best R W false s)) := by
  refine cal_F T.f_greatest T.g_greatest sc_greatest (fun _ _ _ _ _ _ us hl => match us, hl with | [_, _, _], _ => rfl) (fun _ => rfl) (by decide) fun f cdv cd A outer s H0 E ⟨R, W, t⟩ B0 σ D hr hp a k hn => ?_
  exact rs_ret a (ev_mkm T (c_best (P := P) (w := w) (base := base) T R W false) hr (by decide) (by rfl) (ea_cons (ev_name (i := 0) rfl (.inl rfl) rfl) (ea_cons (ev_name (i := 1) rfl (.inl rfl) rfl) (ea_cons ev_bl ea_nil))) t (ea_cons (ev_name (i := 2) rfl (.inl rfl) rfl) ea_nil) hp (fun _ => by kernel_rfl)) fun v B' H' _ a' r => k v B' H' a'.n r
theorem c_least (T : Top K mg) : Cal P w K mg base "least" 13 (spRWT K fun R W s => tI (best R W true s)) := by
  refine cal_F T.f_least T.g_least sc_least (fun _ _ _ _ _ _ us hl => match us, hl with | [_, _, _], _ => rfl) (fun _ => rfl) (by decide) fun f cdv cd A outer s H0 E ⟨R, W, t⟩ B0 σ D hr hp a k hn => ?_
  exact rs_ret a (ev_mkm T (c_best (P := P) (w := w) (base := base) T R W true) hr (by decide) (by rfl) (ea_cons (ev_name (i := 0) rfl (.inl rfl) rfl) (ea_cons (ev_name (i := 1) rfl (.inl rfl) rfl) (ea_cons ev_bl ea_nil))) t (ea_cons (ev_name (i := 2) rfl (.inl rfl) rfl) ea_nil) hp (fun _ => by kernel_rfl)) fun v B' H' _ a' r => k v B' H' a'.n r
/-- a rule, a worth, a stretch, low -/
abbrev TA4 := Ru × Wo × S3 × Bool
theorem sc_table : FnScope ["rule", "worth", "left", "right", "upto", "is_least"] ["rule", "worth", "left", "right", "upto", "is_least"] (defScope s_table) := ⟨rfl, rfl, rfl, by decide +kernel, rfl, by decide +kernel, by decide +kernel⟩
theorem ok_table (T : Top K mg) : ∃ fd, FunD K d_table.name d_table.qual d_table.params d_table.body d_table.scope (d_table.dvs K) (d_table.kws K) (He.fAd K d_table.at_) fd ∧ FnOk P w K mg base CX0 12 (He.fAd K d_table.at_) fd ["rule", "worth", "left", "right", "upto", "is_least"]
    (spF (α := TA4) (fun d => [tRu K d.1, tWo K d.2.1, tS d.2.2.1.l.s, tS d.2.2.1.r.s, nT d.2.2.1.n, tB d.2.2.2]) (fun d => RW.Ok d.1 d.2.1 ∧ d.2.2.1.n ≤ 99) (fun d => tRow d.1 d.2.1 d.2.2.2 (d.2.2.1.l, d.2.2.1.r) (d.2.2.1.n + 1))) := by
  obtain ⟨fd, Fd⟩ := T.f_table
  refine ⟨fd, Fd, ok_F Fd sc_table (fun _ => rfl) (by decide) fun cdv cd A outer s H0 E ⟨R, W, t, low⟩ B0 σ D hr hp a k hn => ?_⟩
  exact rs_ret a (ev_mkm T (c_row (P := P) (w := w) (base := base) T R W low) hr (by decide) (by rfl) (ea_cons (ev_name (i := 0) rfl (.inl rfl) rfl) (ea_cons (ev_name (i := 1) rfl (.inl rfl) rfl) (ea_cons (ev_name (i := 5) rfl (.inl rfl) rfl) ea_nil))) (t.l, t.r, t.n) (ea_cons (ev_name (i := 2) rfl (.inl rfl) rfl) (ea_cons (ev_name (i := 3) rfl (.inl rfl) rfl) (ea_cons (ev_name (i := 4) rfl (.inl rfl) rfl) ea_nil))) hp (fun _ => by kernel_rfl)) fun v B' H' _ a' r => k v B' H' a'.n r
theorem kb_table {fd : FuncData} (F : FunD K d_table.name d_table.qual d_table.params d_table.body d_table.scope (d_table.dvs K) (d_table.kws K) (He.fAd K d_table.at_) fd) :
    ∃ g gV, KBn K fd ["rule", "worth", "left", "right", "upto", "is_least"] 5 ["is_least"] g gV ∧ ∀ vs zs, gV vs zs = vs ++ zs := by
  obtain ⟨mv, h⟩ := F.kbinds0 5 ["is_least"] [] (fun us _ ws => us ++ ws) (fun e => nomatch e) (fun q hq => nomatch hq) (fun h1 _ h2 => h1.append h2)
    fun D doc pm an cdv ct us mv ws l1 l2 l3 => match us, mv, ws, l1, l2, l3 with
      | [_, _, _, _, _], [], [_], _, _, _ => show _ = _ from by kernel_rfl
  exact ⟨_, _, h, fun _ _ => rfl⟩
/-! ### a Tables as an invariant -/
def jtF (d : Addr) (H : Hp) (a : Addr) : Prop := a = d ∨ ∃ (kvs : List (List Key × V)) (k : List Key), H d = some (.dT kvs) ∧ (k, V.ref a) ∈ kvs
theorem refs_mem {B : Hp} {a : Addr} {k : List Key} : ∀ {rows : List Rw} {kvs : List (List Key × V)}, DRel B (refs rows) kvs → (k, V.ref a) ∈ kvs → ∃ q ∈ rows, a = q.2.1
  | [], _, .nil, h => by cases h
  | q :: rows, _, .cons (v := v) r1 r, h => by
    have r1 : v = .ref q.2.1 := r1
    subst r1
    rcases List.mem_cons.mp h with e | h
    · have e2 := (Prod.mk.inj e).2
      exact ⟨q, List.mem_cons_self, V.ref.inj e2⟩
    · obtain ⟨q', h1, h2⟩ := refs_mem r h
      exact ⟨q', List.mem_cons_of_mem _ h1, h2⟩
theorem mem_refs {B : Hp} {q : Rw} : ∀ {rows : List Rw} {kvs : List (List Key × V)}, DRel B (refs rows) kvs → q ∈ rows → (pkey q.1, V.ref q.2.1) ∈ kvs
  | [], _, .nil, h => by cases h
  | r :: rows, _, .cons (v := v) r1 rr, h => by
    have r1 : v = .ref r.2.1 := r1
    subst r1
    rcases List.mem_cons.mp h with e | h
    · subst e
      exact List.mem_cons_self
    · exact List.mem_cons_of_mem _ (mem_refs rr h)
theorem TabAt.jt {B H : Hp} {d : Addr} {rows : List Rw} (t : TabAt R W low d rows B H) {a : Addr} : jtF d H a ↔ tabF d rows a := by
  obtain ⟨_, _, o, h3, kvs, e, r⟩ := t.own.each _ List.mem_cons_self
  have h3 : H d = some o := h3
  constructor
  · rintro (z | ⟨kvs', k, h4, h5⟩)
    · exact .inl z
    · rw [h3, e] at h4
      cases h4
      exact .inr (refs_mem r h5)
  · rintro (z | ⟨q, hq, z⟩)
    · exact .inl z
    · refine .inr ⟨kvs, pkey q.1, by rw [h3, e], ?_⟩
      rw [z]
      exact mem_refs r hq
theorem TabAt.cellF {B H : Hp} {d : Addr} {rows : List Rw} (t : TabAt R W low d rows B H) {a : Addr} (h : tabF d rows a) : (B a = none ∧ ¬ Iv.F H a) ∧ ∃ o, H a = some o := by
  obtain ⟨c, hc, e⟩ := List.mem_map.mp ((tabF_mem (R := R) (W := W) (low := low)).mp h)
  obtain ⟨_, h2, o, h3, _⟩ := t.own.each c hc
  rw [← e]
  exact ⟨h2, o, h3⟩
variable (R W low) in
@[reducible] def Jt (d : Addr) : Iv where
  F := fun H a => J.F H a ∨ jtF d H a
  I := fun B H => J.I B H ∧ ∃ rows, TabAt R W low d rows B H
  al := fun {B H a} ⟨i, rows, t⟩ h => by
    rcases h with h | h
    · exact J.al i h
    · have c := t.cellF (t.jt.mp h)
      exact ⟨c.1.1, c.2⟩
  st := fun {B H B' H'} ⟨i, rows, t⟩ b1 b2 h1 h2 => by
    refine ⟨J.st i b1 b2 (fun a z => h1 a (.inl z)) (fun a z => h2 a (.inl z)), rows, ⟨fun c hc => ?_, t.own.apart⟩, t.nd, t.le⟩
    obtain ⟨_, g2, o, g3, g4⟩ := t.own.each c hc
    have hj : jtF d H c.1 := t.jt.mpr ((tabF_mem (R := R) (W := W) (low := low)).mpr (List.mem_map.mpr ⟨c, hc, rfl⟩))
    exact ⟨.inl trivial, ⟨h2 _ (.inr hj), fun z => g2.2 (J.fs i (fun a z => h1 a (.inl z)) _ z)⟩, o, by rw [h1 _ (.inr hj)]; exact g3, c.2.mono b1 g4⟩
  fs := fun {B H H'} ⟨i, rows, t⟩ h1 a h => by
    rcases h with h | h
    · exact .inl (J.fs i (fun a z => h1 a (.inl z)) a h)
    · refine .inr ?_
      rcases h with z | ⟨kvs, k, h4, h5⟩
      · exact .inl z
      · rw [h1 d (.inr (.inl rfl))] at h4
        exact .inr ⟨kvs, k, h4, h5⟩
theorem sm_jt {B H : Hp} {d : Addr} {rows : List Rw} (bh : Sm B H) (t : TabAt R W low d rows B H) : @Sm (Jt R W low d) B H := @Sm.mk (Jt R W low d) B H bh.s ⟨bh.i, rows, t⟩
/-- into the invariant -/
theorem nw_jt {B H B' H' : Hp} {d : Addr} {rows rows' : List Rw} (t : TabAt R W low d rows B H) (n : Nw (tabF d rows) B H B' H') (t' : TabAt R W low d rows' B' H') (fr : ∀ q ∈ rows', tabF d rows q.2.1 ∨ H q.2.1 = none) : @Nw (Jt R W low d) nF B H B' H' :=
  @Nw.mk (Jt R W low d) nF B H B' H' n.bb (sm_jt n.bh t') (fun a o _ h e => n.hh a o (fun z => h (.inr (t.jt.mpr z))) (fun z => h (.inl z)) e) (fun a o h e z => by
    rcases z with z | z
    · exact n.nf a o (fun y => h (.inl y)) e z
    · rcases t'.jt.mp z with y | ⟨q, hq, y⟩
      · exact h (.inr (.inl y))
      · rcases fr q hq with x | x
        · rw [← y] at x
          exact h (.inr (t.jt.mpr x))
        · rw [← y, e] at x
          cases x) n.th n.fr
/-- out of it -/
theorem jt_nw [S : St] {B H B' H' : Hp} {d : Addr} {rows : List Rw} (t : TabAt R W low d rows B H) (n : @Nw (Jt R W low d) nF B H B' H') : Nw (tabF d rows) B H B' H' :=
  ⟨@Nw.bb (Jt R W low d) _ _ _ _ _ n, ⟨@Sm.s (Jt R W low d) _ _ (@Nw.bh (Jt R W low d) _ _ _ _ _ n), (@Sm.i (Jt R W low d) _ _ (@Nw.bh (Jt R W low d) _ _ _ _ _ n)).1⟩, fun a o hf hi e => @Nw.hh (Jt R W low d) _ _ _ _ _ n a o (fun z => z) (fun z => by
    rcases z with z | z
    · exact hi z
    · exact hf (t.jt.mp z)) e, fun a o h _ z => h (St.st _ _ _ z), @Nw.th (Jt R W low d) _ _ _ _ _ n, @Nw.fr (Jt R W low d) _ _ _ _ _ n⟩
/-- a method of Tables under the invariant -/
theorem CalX.jt {α : Type} {args : α → List Ty} {pre : α → Prop} {fl : α → En × En × Nat} {res : α → Ty} {m : Str} {k : Nat} {C : Addr} (M : CalX P w K mg base C m k (spT K R W low args pre fl res)) (d : Addr) :
    CalM P w K mg base C m k (@spF (Jt R W low d) α (fun x => tTabM K R W low d :: args x) (fun x => RW.Ok R W ∧ pre x) res) := by
  obtain ⟨f, fd, ps, hm, hb, Fn⟩ := M.ex
  refine CalM.mk ⟨f, fd, ps, hm, hb, Fn.imp fun vs H Q E ⟨x, B, bh, hp, r, q⟩ => ?_⟩
  cases r with
  | cons r0 r =>
    have i := @Sm.i (Jt R W low d) _ _ bh
    obtain ⟨i1, rows, t⟩ := i
    exact ⟨d, rows, x, B, _, _, ⟨@Sm.s (Jt R W low d) _ _ bh, i1⟩, hp, rfl, r0, r, t, fun v B' H' rows' n t' fr _ r' => q v B' H' (nw_jt t n t' fr) r'⟩
end
end Ls
set_option maxHeartbeats 1000000 -- Ma3
/-! A play that is best. -/
namespace Ls
open PySem
def pf (R : Ru) (W : Wo) (low : Bool) : Nat → List (Nat × S3) → List (Nat × Nat)
  | 0, _ => []
  | _ + 1, [] => []
  | k + 1, (a, s) :: r => match bsale R W low s with
    | none => pf R W low k r
    | some q => (a + q.2, q.1) :: pf R W low k ((a, pL s q.2) :: (a + q.2 + q.1, pR s q.1 q.2) :: r)
def wt : List (Nat × S3) → Nat
  | [] => 0
  | q :: r => (2 * q.2.n + 1) + wt r
def play (R : Ru) (W : Wo) (low : Bool) (s : S3) : List (Nat × Nat) := pf R W low (2 * s.n + 1) [(0, s)]
theorem bsale_sale {R : Ru} (h : R.Ok) {W : Wo} (hf : Fits R W) {low : Bool} {s : S3} {q : Nat × Nat} (e : bsale R W low s = some q) : q ∈ sales R s ∧ best R W low s = W.price q.1 + (best R W low (pL s q.2) + best R W low (pR s q.1 q.2)) := by
  have hm := bsale_mem h hf low s
  rw [e] at hm
  unfold waysV at hm
  rcases List.mem_append.mp hm with z | z
  · split at z
    · simp at z
    · cases z
  · obtain ⟨q', h1, h2⟩ := List.mem_map.mp z
    have e1 := (Prod.mk.inj h2).1
    have e2 := Option.some.inj (Prod.mk.inj h2).2
    subst e2
    exact ⟨h1, e1.symm⟩
theorem bsale_none {R : Ru} (h : R.Ok) {W : Wo} (hf : Fits R W) {low : Bool} {s : S3} (e : bsale R W low s = none) : mayEnd R W s = true ∧ best R W low s = W.free * (s.n : Int) := by
  have hm := bsale_mem h hf low s
  rw [e] at hm
  unfold waysV at hm
  rcases List.mem_append.mp hm with z | z
  · split at z
    · rename_i hy
      have z := List.mem_singleton.mp z
      exact ⟨hy, (Prod.mk.inj z).1⟩
    · cases z
  · obtain ⟨q', h1, h2⟩ := List.mem_map.mp z
    cases (Prod.mk.inj h2).2
theorem pf_nil {R : Ru} {W : Wo} {low : Bool} : ∀ k, pf R W low k [] = []
  | 0 => rfl
  | _ + 1 => rfl
theorem pf_none {R : Ru} {W : Wo} {low : Bool} {k a : Nat} {s : S3} {r : List (Nat × S3)} (e : bsale R W low s = none) : pf R W low (k + 1) ((a, s) :: r) = pf R W low k r := by rw [pf, e]
theorem pf_some {R : Ru} {W : Wo} {low : Bool} {k a : Nat} {s : S3} {r : List (Nat × S3)} {q : Nat × Nat} (e : bsale R W low s = some q) : pf R W low (k + 1) ((a, s) :: r) = (a + q.2, q.1) :: pf R W low k ((a, pL s q.2) :: (a + q.2 + q.1, pR s q.1 q.2) :: r) := by rw [pf, e]
theorem wt_some {R : Ru} (h : R.Ok) {W : Wo} (hf : Fits R W) {low : Bool} {a : Nat} {s : S3} {r : List (Nat × S3)} {q : Nat × Nat} (e : bsale R W low s = some q) : wt ((a, pL s q.2) :: (a + q.2 + q.1, pR s q.1 q.2) :: r) + 1 ≤ wt ((a, s) :: r) := by
  obtain ⟨h1, h2, h3⟩ := sale_fit h (bsale_sale h hf e).1
  show (2 * q.2 + 1) + ((2 * (s.n - q.1 - q.2) + 1) + wt r) + 1 ≤ (2 * s.n + 1) + wt r
  omega
theorem pf_fuel {R : Ru} (h : R.Ok) {W : Wo} (hf : Fits R W) {low : Bool} : ∀ (k j : Nat) (st : List (Nat × S3)), wt st ≤ k → wt st ≤ j → pf R W low k st = pf R W low j st := by
  intro k
  induction k with
  | zero =>
    intro j st hk hj
    cases st with
    | nil => rw [pf_nil, pf_nil]
    | cons q r =>
      have : wt (q :: r) = (2 * q.2.n + 1) + wt r := rfl
      omega
  | succ k ih =>
    intro j st hk hj
    cases st with
    | nil => rw [pf_nil, pf_nil]
    | cons q r =>
      obtain ⟨a, s⟩ := q
      have hw : wt ((a, s) :: r) = (2 * s.n + 1) + wt r := rfl
      obtain ⟨j, rfl⟩ : ∃ m, j = m + 1 := ⟨j - 1, by omega⟩
      cases e : bsale R W low s with
      | none => rw [pf_none e, pf_none e, ih j r (by omega) (by omega)]
      | some q =>
        have := wt_some h hf (a := a) (r := r) e
        rw [pf_some e, pf_some e, ih j _ (by omega) (by omega)]
end Ls
set_option maxHeartbeats 600000 -- Th
/-! sums; plays -/
namespace Ls
open PySem Spec PyProof.Rows L2
theorem rowStr_n {row : List Nat} {q : Nat × S3} (h : q ∈ rowStr row) : q.2.n ∈ row ∨ q.2.n = 0 := by
  obtain ⟨i, hi, e⟩ := List.mem_map.mp h
  have hi := List.mem_range.mp hi
  subst e
  left
  show row.getD i 0 ∈ row
  rw [List.getD_eq_getElem?_getD, List.getElem?_eq_getElem hi]
  exact List.getElem_mem hi
theorem planStr_n {rows : List (List Nat)} (h : PlOk rows) {q : Nat × Nat × S3} (hq : q ∈ planStr rows) : q.2.2.n ≤ 60 := by
  obtain ⟨p, hp, hq⟩ := List.mem_flatMap.mp hq
  obtain ⟨r, hr, e⟩ := List.mem_map.mp hq
  subst e
  obtain ⟨i, hi⟩ := List.mem_iff_getElem?.mp hp
  have hm := List.mem_of_getElem? (zipIdx_get hi).2
  rcases rowStr_n hr with z | z
  · exact ((h.row _ hm).2 _ z).2
  · show r.2.n ≤ 60
    omega
theorem planStr_len {rows : List (List Nat)} (h : PlOk rows) : (planStr rows).length ≤ 25 := by
  have h1 := flat_len (fun q : List Nat × Nat => (rowStr q.1).map fun p => (q.2, p.1, p.2)) 5 rows.zipIdx fun q hq => by
    rw [List.length_map, rowStr_len]
    obtain ⟨n, hn⟩ := List.mem_iff_getElem?.mp hq
    exact (h.row q.1 (List.mem_of_getElem? (zipIdx_get hn).2)).1.2
  have h2 := h.len.2
  rw [List.length_zipIdx] at h1
  show (List.flatMap _ _).length ≤ 25
  omega
section
variable [J : Iv] {R : Ru} {W : Wo} {low : Bool} {P : Program} {w : World} {K : PySem.W.Frag} {mg : Str → Option Value} {base : Heap}
/-- o.m() -/
theorem ev_meth0 {X : Cx} {Γ : Ctx} {o : Expr} {t t2 : Ty} {α : Type} {d : α} {pre : α → Prop} {res : α → Ty} {C : Addr} {m : Str} {k : Nat} {pos apos : Pos} (M : CalM X.prog X.w X.K X.mg X.base C m k (spF (fun _ => t :: []) pre res)) (c : Cls X.K C) (hr : Room k X.A) (ho : EvE X Γ o t)
    (hv : ∀ B v, t.p B v → ∃ a dx fs, v = .ref a ∧ B a = some (.ins C dx fs) ∧ fs.lookup m = none) (hp : pre d) {pl : Sem Bool} (ht2 : res d = t2 := by rfl)
    (ht : eval (.Call (.Attribute o m apos) [] [] pos) X.env = (do
      let ov ← eval o X.env
      standAt apos.atName
      let (f, first) ← holding [ov] (getMethod ov m pl)
      callWith pos f first (backTo pos (starEach [] X.env)) (backToKw pos (keywordEach [] X.env))) := by rfl) : EvE X Γ (.Call (.Attribute o m apos) [] [] pos) t2 := fun σ B H s bh Q q => by
  subst ht2
  obtain ⟨f, fd, ps, hm, hb, F⟩ := M.ex
  refine ⟨_, pe_meth0 pe_c c hm F hr hb .nil pass0 ht, ho σ B H s bh _ fun v B1 H1 n1 r1 => ?_⟩
  obtain ⟨a, dx, fs, e1, e2, e3⟩ := hv B1 v r1
  exact ⟨a, dx, fs, e1, n1.bh _ _ e2, e3, d, B1, n1.bh, hp, .cons r1 .nil, fun v B3 H3 n3 r3 => q v B3 H3 (n1.trans n3) r3⟩
theorem ins_look {C : Addr} {fts : List (Str × Ty)} {x : Str} (hx : (fts.map (·.1)).all (fun y => !decide (y = x)) = true) (B : Hp) (v : V) (h : (tIns C fts).p B v) : ∃ a dx fs, v = .ref a ∧ B a = some (.ins C dx fs) ∧ fs.lookup x = none := by
  obtain ⟨a, dx, fs, e, h1, r⟩ := h
  refine ⟨a, dx, fs, e, h1, ?_⟩
  have hk : ∀ {fts : List (Str × Ty)} {fs : List (Str × V)}, DRel B fts fs → ((fts.map (·.1)).all fun y => !decide (y = x)) = true → fs.lookup x = none := fun {fts fs} r => by
    induction r with
    | nil => intro _; rfl
    | @cons k t v ps kvs a r ih =>
      intro h
      rw [List.map_cons, List.all_cons, Bool.and_eq_true] at h
      have hb : (x == k) = false := by
        cases q : (x == k) with
        | false => rfl
        | true =>
          have e := beq_iff_eq.mp q
          have h1 := h.1
          rw [decide_eq_true e.symm] at h1
          cases h1
      rw [lk_tl hb]
      exact ih h.2
  exact hk r hx
theorem sc_sum_of : FnScope ["rule", "worth", "plan", "is_least", "tables", "row", "seat", "stretch"] ["rule", "worth", "plan", "is_least"] (defScope s_sum_of) := ⟨rfl, rfl, rfl, by decide +kernel, rfl, by decide +kernel, by decide +kernel⟩
def sumB (R : Ru) (W : Wo) (low : Bool) (rows : List (List Nat)) : Int := ((planStr rows).map fun q => best R W low q.2.2).sum
abbrev SA4 := Ru × Wo × List (List Nat) × Bool
def sp_sum_of (K : PySem.W.Frag) : Sp := spF (α := SA4) (fun d => [tRu K d.1, tWo K d.2.1, tPl K d.2.2.1, tB d.2.2.2]) (fun d => RW.Ok d.1 d.2.1 ∧ PlOk d.2.2.1) (fun d => tI (sumB d.1 d.2.1 d.2.2.2 d.2.2.1))
/-- sum([e for .. in ..]) -/
theorem ev_sumI {X : Cx} {Γ : Ctx} {e : Expr} {p pos : Pos} {t : Ty} {ns : List Int} (hc : X.calm = true) (hg : Gl X "sum") (hm : X.mg "sum" = none) (h : EvE X Γ e t) (ht : t = tL (ns.map tI)) (he : starEach [e] X.env = (false, eval e X.env) :: starEach [] X.env := by rfl) (hpl : (backTo pos (starEach [] X.env)).any (·.1) = false := by rfl) :
    EvE X Γ (.Call (.Name "sum" p) [e] [] pos) (tI ns.sum) :=
  ev_callB (cr_sum hc) hg hm bt_sum (ea_cons (h.is ht) ea_nil he) cb_sum (he := he) (hpl := hpl)
theorem map_map_I {α : Type} {xs : List α} {f : α → Int} : tL ((xs.filter fun _ => true).map fun q => tI (f q)) = tL ((xs.map f).map tI) := by
  rw [filter_yes, List.map_map]
  rfl
theorem c_sum_of [S : St] (T : Top K mg) : Cal P w K mg base "sum_of" 13 (sp_sum_of K) := by
  have nd := sc_sum_of.nd
  refine cal_F T.f_sum_of T.g_sum_of sc_sum_of (fun _ _ _ _ _ _ us hl => match us, hl with | [_, _, _, _], _ => rfl) (fun _ => rfl) (by decide) fun f cdv cd A outer s H0 E ⟨R, W, rows, low⟩ B0 σ D hr hp a k hn => ?_
  have hp : RW.Ok R W ∧ PlOk rows := hp
  refine rs_ps (ps_set (i := 4) nd rfl (.inr rfl) pe_c rfl) (run_mkT T (hr.mono (by decide)) (by rfl) a.s a.n.bh (ea_cons (ev_name (i := 0) rfl (.inl rfl) rfl) (ea_cons (ev_name (i := 1) rfl (.inl rfl) rfl) (ea_cons (ev_name (i := 3) rfl (.inl rfl) rfl) ea_nil))) hp.1 fun v B1 H1 d n1 hv bd fd hd hd' => ?_)
  have tb : TabAt R W low d [] B1 H1 := tabAt0 bd fd hd'
  have st := (a.s.mono n1.bb).set 4 hv
  have smj := sm_jt n1.bh tb
  have cb := (c_best (P := P) (w := w) (base := base) T R W low).jt d
  have fin : ∀ v B' H', @Nw (Jt R W low d) nF B1 H1 B' H' → (tI (sumB R W low rows)).p B' v → D.rt v H' := fun v B' H' n r => k v B' H' ((a.n.trans n1).transF (jt_nw tb n) fun y hy => by
    rcases hy with z | ⟨q, hq, _⟩
    · rw [z]; exact .inr (a.n.fresh hd)
    · cases hq) r
  clear k
  revert st smj cb fin
  generalize Jt R W low d = jt
  intro st smj cb fin
  have a1 : At nF B1 H1 B1 _ [] _ B1 H1 := ⟨st, .refl smj, Same.refl B1, ⟨fun _ z => (nomatch z), List.nodup_nil⟩⟩
  have cs := c_Plan_stretches (P := P) (w := w) (base := base) T rows
  refine rs_ret (t := tI (sumB R W low rows)) a1 ?_ fun v B' H' _ a' r => fin v B' H' a'.n r
  have hS : sumB R W low rows = ((planStr rows).map fun q => best R W low q.2.2).sum := rfl
  rw [hS]
  clear a1 smj st fin
  refine ev_sumI rfl rfl T.b_sum ?_ map_map_I
  exact (ev_lc (own := [("row", 5), ("seat", 6), ("stretch", 7)]) (xs := planStr rows) (τ := tRse) (p := fun _ => true) (g := fun q => tI (best R W low q.2.2)) rfl nd (blkOk_by (N := ["rule", "worth", "plan", "is_least", "tables", "row", "seat", "stretch"]) (sc := defScope s_sum_of) (by decide +kernel))
    (ei_list (ev_meth0 cs T.c_Plan (hr.mono (by decide)) (ev_name (i := 2) rfl (.inl rfl) rfl) (ins_look (by kernel_rfl)) (d := ()) hp.2)) (by decide) (by have := planStr_len hp.2; show (planStr rows).length ≤ _; omega) (fun _ _ _ _ _ _ _ => (tg_tup rfl (tgs_cons (tg_name (i := 5) nd rfl (.inl rfl)) (tgs_cons (tg_name (i := 6) nd rfl (.inl rfl)) (tgs_cons (tg_name (i := 7) nd rfl (.inl rfl)) tgs_nil))))) (fun _ _ _ _ _ _ _ => ets_nil)
    (fun _ _ _ _ _ q hq => fun _ => (ev_meth cb T.c_Tables (hr.mono (by decide)) (ev_name (i := 4) rfl (.inr (.inl rfl)) rfl) (tb_inst (by kernel_rfl)) (d := q.2.2) (ea_cons (ev_name (i := 7) rfl (.inl rfl) rfl) ea_nil) ⟨hp.1, by have := planStr_n hp.2 hq; show q.2.2.n ≤ 99; omega⟩)))
theorem sc_greatest_in : FnScope ["rule", "worth", "plan"] ["rule", "worth", "plan"] (defScope s_greatest_in) := ⟨rfl, rfl, rfl, by decide +kernel, rfl, by decide +kernel, by decide +kernel⟩
theorem sc_least_in : FnScope ["rule", "worth", "plan"] ["rule", "worth", "plan"] (defScope s_least_in) := ⟨rfl, rfl, rfl, by decide +kernel, rfl, by decide +kernel, by decide +kernel⟩
def spRWP (K : PySem.W.Frag) (f : Ru → Wo → List (List Nat) → Ty) : Sp := spF (α := Ru × Wo × List (List Nat)) (fun d => [tRu K d.1, tWo K d.2.1, tPl K d.2.2]) (fun d => RW.Ok d.1 d.2.1 ∧ PlOk d.2.2) (fun d => f d.1 d.2.1 d.2.2)
theorem c_greatest_in [S : St] (T : Top K mg) : Cal P w K mg base "greatest_in" 14 (spRWP K fun R W rows => tI (sumB R W false rows)) := by
  have C := c_sum_of (P := P) (w := w) (base := base) T
  refine cal_F T.f_greatest_in T.g_greatest_in sc_greatest_in (fun _ _ _ _ _ _ us hl => match us, hl with | [_, _, _], _ => rfl) (fun _ => rfl) (by decide) fun f cdv cd A outer s H0 E ⟨R, W, rows⟩ B0 σ D hr hp a k hn => ?_
  exact rs_ret a (ev_call C (hr.mono (by decide)) rfl (d := (R, W, rows, false)) (ea_cons (ev_name (i := 0) rfl (.inl rfl) rfl) (ea_cons (ev_name (i := 1) rfl (.inl rfl) rfl) (ea_cons (ev_name (i := 2) rfl (.inl rfl) rfl) (ea_cons ev_bl ea_nil)))) hp) fun v B' H' _ a' r => k v B' H' a'.n r
theorem c_least_in [S : St] (T : Top K mg) : Cal P w K mg base "least_in" 14 (spRWP K fun R W rows => tI (sumB R W true rows)) := by
  have C := c_sum_of (P := P) (w := w) (base := base) T
  refine cal_F T.f_least_in T.g_least_in sc_least_in (fun _ _ _ _ _ _ us hl => match us, hl with | [_, _, _], _ => rfl) (fun _ => rfl) (by decide) fun f cdv cd A outer s H0 E ⟨R, W, rows⟩ B0 σ D hr hp a k hn => ?_
  exact rs_ret a (ev_call C (hr.mono (by decide)) rfl (d := (R, W, rows, true)) (ea_cons (ev_name (i := 0) rfl (.inl rfl) rfl) (ea_cons (ev_name (i := 1) rfl (.inl rfl) rfl) (ea_cons (ev_name (i := 2) rfl (.inl rfl) rfl) (ea_cons ev_bl ea_nil)))) hp) fun v B' H' _ a' r => k v B' H' a'.n r
end
end Ls
set_option maxHeartbeats 1000000 -- Ti
/-! play_for -/
namespace Ls
open PySem Spec PyProof.Rows L2
section
variable [J : Iv]
def dS3 (s : S3) : PyData := .tuple [.str s.l.s, .int (s.n : Int), .str s.r.s]
def dIt (q : Nat × S3) : PyData := .tuple [.int (q.1 : Int), dS3 q.2]
def tIt (q : Nat × S3) : Ty := tT [nT q.1, tSt q.2]
theorem isd_St {s : S3} : IsD (tSt s) (dS3 s) := isd_T (isds_cons isd_str (isds_cons isd_int (isds_cons isd_str isds_nil)))
theorem isd_It {q : Nat × S3} : IsD (tIt q) (dIt q) := isd_T (isds_cons isd_int (isds_cons isd_St isds_nil))
omit [Iv] in
theorem lay_En {e : En} : (PyData.str e.s).canLay0 = true := by cases e <;> decide +kernel
omit [Iv] in
theorem lay_S3 {s : S3} : (dS3 s).canLay0 = true := by
  unfold dS3
  rw [PyData.canLay0, PyData.canLayAll0, PyData.canLayAll0, PyData.canLayAll0, lay_En, lay_En]
  rfl
omit [Iv] in
theorem lay_It {q : Nat × S3} : (dIt q).canLay0 = true := by
  unfold dIt
  rw [PyData.canLay0, PyData.canLayAll0, PyData.canLayAll0, lay_S3]
  rfl
omit [Iv] in
theorem dep_It {q : Nat × S3} : (dIt q).depth ≤ 2 := Nat.le_of_eq rfl
theorem bin_neIts {K : PySem.W.Frag} {xs : List (Nat × S3)} : Bin (rNeD K) (tL (xs.map tIt)) (tL []) (tB (!decide (xs = []))) := by
  have q := bin_neD (K := K) (isd_L (isds_map (xs := xs) (τ := tIt) (f := dIt) fun _ _ => isd_It)) (isd_L isds_nil) (shaped_list (lay_map fun _ _ => lay_It) (depth_map (m := 2) fun _ _ => dep_It) (by decide)) shaped_nil
  rw [eqv_nil] at q
  have e : (xs.map dIt).isEmpty = decide (xs = []) := by cases xs <;> rfl
  rw [e] at q
  exact q
omit [Iv] in
theorem tys_pop {B : Hp} {t : Ty} : ∀ {ts : List Ty} {vs : List V}, Tys B (ts ++ [t]) vs → ∃ ws y, vs = ws ++ [y] ∧ Tys B ts ws ∧ t.p B y
  | [], _, .cons a .nil => ⟨[], _, rfl, .nil, a⟩
  | _ :: _, _, .cons a r => by
    obtain ⟨ws, y, e, r1, r2⟩ := tys_pop r
    subst e
    exact ⟨_ :: ws, y, rfl, .cons a r1, r2⟩
section
variable {X : Cx} {F : Addr → Prop} {B0 H0 Bg : Hp} {Γ : Ctx} {W W' : Cells} {σ : L2.St} {B H : Hp} {i : Nat} {t : Ty} {l : Addr} {c tg : Expr} {rest : List Stmt} {D : Ends} {pos p1 apos : Pos} {ts : List Ty} {u : Ctx → Ctx} {js : List Nat}
/-- tg = x.pop() -/
theorem rs_pop (a : At F B0 H0 Bg Γ W σ B H) (hi : EvE X Γ c (tV (.ref l))) (hW : W.Perm ((l, oL (ts ++ [t])) :: W')) (ht : Tgt X tg t u js) (k : ∀ σ' B' H', Same B B' → At F B0 H0 Bg (u Γ) ((l, oL ts) :: W') σ' B' H' → RS X rest D σ' H')
    (hm : PE X (.Call (.Attribute c "pop" apos) [] [] p1) (tBM0 X.K "list" rPop (RE X c)))
    (hs : swapsWithSole [tg] (.Call (.Attribute c "pop" apos) [] [] p1) pos.line X.env = pure false := by rfl) (hw : swappedStores [tg] (.Call (.Attribute c "pop" apos) [] [] p1) X.env = pure none := by rfl) (h1 : (assignEach [tg] X.env).map (·.2) = [assign tg X.env] := by rfl) :
    RS X (.Assign [tg] (.Call (.Attribute c "pop" apos) [] [] p1) pos :: rest) D σ H :=
  rs_ps (ps_asg hm pg_c hs hw h1) (hi σ B H a.s a.n.bh _ fun v B1 H1 n1 r1 => by
    have e1 : v = .ref l := r1
    subst e1
    have a1 := (a.step n1).perm hW
    obtain ⟨_, _, o, h3, vs, e3, r3⟩ := a1.cell
    subst e3
    obtain ⟨ws, y, e, r4, r5⟩ := tys_pop r3
    subst e
    have a2 := a1.wr (ot' := oL ts) ⟨ws, rfl, r4⟩
    refine ⟨.inl ⟨rfl, ws ++ [y], .of h3⟩, l, ws ++ [y], y, rfl, rfl, h3, by rw [List.length_append]; exact List.getElem?_concat_length .., ?_⟩
    rw [List.dropLast_concat]
    exact ht y σ B1 _ Γ _ a2.s a2.n.bh r5 fun σ' s' _ _ => k σ' B1 _ n1.bb (a2.ctx s'))
/-- the list l, read now -/
theorem At.rdL (a : At F B0 H0 Bg Γ W σ B H) (h : (l, oL ts) ∈ W) (hi : Γ[i]? = some (some (tV (.ref l)))) : SOk (Γ.set i (some (tL ts))) (fz W B H) σ := by
  obtain ⟨o, h1, vs, e1, r3⟩ := a.fzl h
  subst e1
  exact SOk.re (s := a.s.mono fz_same) hi ⟨l, vs, rfl, h1, r3⟩
end
variable {R : Ru} {W : Wo} {low : Bool} {P : Program} {w : World} {K : PySem.W.Frag} {mg : Str → Option Value} {base : Heap}
def sp_play_for (K : PySem.W.Frag) : Sp := spF (α := TA4) (fun d => [tRu K d.1, tWo K d.2.1, tSt d.2.2.1, tB d.2.2.2]) (fun d => RW.Ok d.1 d.2.1 ∧ d.2.2.1.n ≤ 99) (fun d => tL ((play d.1 d.2.1 d.2.2.2 d.2.2.1).map tPz))
theorem sc_play_for : FnScope ["rule", "worth", "stretch", "is_least", "tables", "found", "waiting", "seat", "here", "sale", "size", "before", "one", "other"] ["rule", "worth", "stretch", "is_least"] (defScope s_play_for) := ⟨rfl, rfl, rfl, by decide +kernel, rfl, by decide +kernel, by decide +kernel⟩
theorem ok_play_for [S : St] (T : Top K mg) : ∃ fd, FunD K d_play_for.name d_play_for.qual d_play_for.params d_play_for.body d_play_for.scope (d_play_for.dvs K) (d_play_for.kws K) (He.fAd K d_play_for.at_) fd ∧ FnOk P w K mg base CX0 14 (He.fAd K d_play_for.at_) fd ["rule", "worth", "stretch", "is_least"] (sp_play_for K) := by
  obtain ⟨fd, Fd⟩ := T.f_play_for
  have nd := sc_play_for.nd
  refine ⟨fd, Fd, ok_F Fd sc_play_for (fun _ => rfl) (by decide) fun cdv cd A outer s H0 E ⟨R, W, t, low⟩ B0 σ D hr hp a k hn => ?_⟩
  have hp : RW.Ok R W ∧ t.n ≤ 99 := hp
  refine rs_ps (ps_par3 (i := 4) (j := 5) (l := 6) rfl nd rfl rfl rfl (by decide) (by decide) (by decide) (by rfl) (by rfl) (by rfl) (pa_cons pe_c (pa_cons pe_c (pa_cons pe_c pa_nil rfl) rfl) rfl) rfl rfl) (run_mkT T (hr.mono (by decide)) (by rfl) a.s a.n.bh (ea_cons (ev_name (i := 0) rfl (.inl rfl) rfl) (ea_cons (ev_name (i := 1) rfl (.inl rfl) rfl) (ea_cons (ev_name (i := 3) rfl (.inl rfl) rfl) ea_nil))) hp.1 fun v B1 H1 d n1 hv bd fd hd hd' => ?_)
  have tb : TabAt R W low d [] B1 H1 := tabAt0 bd fd hd'
  have st1 := a.s.mono n1.bb
  have smj := sm_jt n1.bh tb
  have cb := (c_best_sale (P := P) (w := w) (base := base) T R W low).jt d
  have fin : ∀ v B' H', @Nw (Jt R W low d) nF B1 H1 B' H' → (tL ((play R W low t).map tPz)).p B' v → D.rt v H' := fun v B' H' n r => k v B' H' ((a.n.trans n1).transF (jt_nw tb n) fun y hy => by
    rcases hy with z | ⟨q, hq, _⟩
    · rw [z]; exact .inr (a.n.fresh hd)
    · cases hq) r
  clear k
  revert st1 smj cb fin
  generalize Jt R W low d = jt
  intro st1 smj cb fin
  have a1 : At nF B1 H1 B1 _ [] _ B1 H1 := ⟨st1, .refl smj, Same.refl B1, ⟨fun _ z => (nomatch z), List.nodup_nil⟩⟩
  refine en_lst ea_nil (Nat.le_of_ble_eq_true rfl) σ B1 H1 a1.s smj _ fun fa B2 H2 n2 bf ff hf of => ?_
  have a2 := a1.addc n2 bf ff hf of
  refine en_lst (ea_cons (ev_tup (ea_cons (ev_int (i := 0)) (ea_cons (ev_name (i := 2) rfl (.inl rfl) rfl) ea_nil))) ea_nil) (Nat.le_of_ble_eq_true rfl) σ B2 H2 a2.s a2.n.bh _ fun wa B3 H3 n3 bw fw hw ow => ?_
  have a3 := a2.addc n3 bw fw hw ow
  refine ⟨_, _, _, rfl, ?_⟩
  have a4 := ((a3.set 4 (t := tTabM K R W low d) ((tTabM K R W low d).mono (n2.trans n3).bb hv)).set 5 (t := tV (.ref fa)) rfl).set 6 (t := tV (.ref wa)) rfl
  clear a1 a2 a3 a of ow
  have hfa : H1 fa = none := hf
  have hR := hp.1.1
  have hF := hp.1.2
  refine rs_while a4 (fun m Γ C => (∃ o7 o8 o9 o10 o11 o12 o13, Γ = [some (tRu K R), some (tWo K W), some (tSt t), some (tB low), some (tTabM K R W low d), some (tV (.ref fa)), some (tV (.ref wa)), o7, o8, o9, o10, o11, o12, o13]) ∧
      ∃ (acc : List (Nat × Nat)) (st : List (Nat × S3)), C = [(wa, oL (st.reverse.map tIt)), (fa, oL (acc.map tPz))] ∧ m = wt st ∧ acc ++ pf R W low (wt st) st = play R W low t ∧ acc.length + wt st ≤ 2 * t.n + 1 ∧ ∀ q ∈ st, q.2.n ≤ 99)
    ⟨_, ⟨_, _, _, _, _, _, _, rfl⟩, [], [(0, t)], rfl, rfl, rfl, by show 0 + ((2 * t.n + 1) + 0) ≤ 2 * t.n + 1; omega, fun q hq => by
      rcases List.mem_cons.mp hq with e | z
      · rw [e]; exact hp.2
      · cases z⟩ fun m Γ1 W1 σ B H sw hM a Q qt qf => ?_
  obtain ⟨⟨o7, o8, o9, o10, o11, o12, o13, rfl⟩, acc, st, rfl, rfl, hpf, hln, hst⟩ := hM
  have hlen : st.length ≤ wt st := by
    clear hpf hln hst a qt qf
    induction st with
    | nil => exact Nat.le_refl _
    | cons q r ih =>
      show r.length + 1 ≤ (2 * q.2.n + 1) + wt r
      omega
  refine et_pure (k := !decide (st.reverse = [])) a (a.rdL (l := wa) (i := 6) List.mem_cons_self rfl) (letI : Iv := Jb; et_cmp (op_neD hr.units) (ev_name (i := 6) (t := tL (st.reverse.map tIt)) rfl (.inl rfl) rfl) (ev_lst ea_nil) bin_neIts (nomark _)) fun B H n1 a => ?_
  cases st with
  | nil =>
    refine qf H ?_
    obtain ⟨B2, s2, a2⟩ := (a.perm (.swap _ _ _)).frzL (i := 5) hfa rfl
    have e : acc = play R W low t := by rw [← hpf, pf_nil, List.append_nil]
    refine rs_ret a2 (EvE.is (ev_name (i := 5) (t := tL (acc.map tPz)) rfl (.inl rfl) rfl) (by rw [e])) fun v B' H' _ a' r => fin v B' H' a'.n r
  | cons q r =>
    obtain ⟨p, s⟩ := q
    have e : (!decide (((p, s) :: r).reverse = [])) = true := by
      rw [List.reverse_cons]
      simp
    rw [e]
    refine qt H ?_
    have hs99 : s.n ≤ 99 := hst _ List.mem_cons_self
    have hrst : ∀ q ∈ r, q.2.n ≤ 99 := fun q hq => hst q (List.mem_cons_of_mem _ hq)
    have hwt : wt ((p, s) :: r) = (2 * s.n + 1) + wt r := rfl
    obtain ⟨k, hk⟩ : ∃ k, wt ((p, s) :: r) = k + 1 := ⟨wt ((p, s) :: r) - 1, by omega⟩
    rw [hk] at hpf
    rw [List.reverse_cons, List.map_append] at a
    -- seat, here = waiting.pop()
    refine rs_pop (t := tIt (p, s)) a (ev_name (i := 6) rfl (.inl rfl) rfl) (.refl _) (tg_tup rfl (tgs_cons (tg_name (i := 7) nd rfl (.inl rfl)) (tgs_cons (tg_name (i := 8) nd rfl (.inl rfl)) tgs_nil))) (fun σ B4 H4 s4 a => ?_) (pe_bm0 PySem.F.plainAttrs_list PySem.F.slot_list_pop PySem.F.type_list_pop mt_pop pe_c)
    -- sale = tables.best_sale(here)
    refine rs_set (i := 9) a (ev_meth cb T.c_Tables (hr.mono (by decide)) (ev_name (i := 4) rfl (.inl rfl) rfl) (tb_inst (by kernel_rfl)) (d := s) (ea_cons (ev_name (i := 8) rfl (.inl rfl) rfl) ea_nil) ⟨hp.1, hs99⟩) nd rfl (.inl rfl) fun σ B5 H5 s5 a => ?_
    have ssum := ((sw.trans n1.bb).trans s4).trans s5
    -- if sale is not None:
    cases eb : bsale R W low s with
    | none =>
      rw [pf_none eb, pf_fuel hR hF k (wt r) r (by omega) (Nat.le_refl _)] at hpf
      rw [show bsRes R W low s = tNone from by unfold bsRes; rw [eb]; rfl] at a
      refine rs_when a (et_cmp oq_notN (ev_name (i := 9) rfl (.inl rfl) rfl) ev_non bin_notN (nomark _)) (fun hb => nomatch hb) fun hb B H s1 a => ?_
      exact rs_nil ⟨wt r, _, _, B, by omega, ⟨⟨_, _, _, _, _, _, _, rfl⟩, acc, r, rfl, rfl, hpf, by omega, hrst⟩, ssum.trans s1, a⟩
    | some q =>
      obtain ⟨z, b⟩ := q
      have hmem := (bsale_sale hR hF eb).1
      have hfit : 1 ≤ z ∧ z ≤ 5 ∧ b + z ≤ s.n := sale_fit hR hmem
      have hw : wt ((p, pL s b) :: (p + b + z, pR s z b) :: r) + 1 ≤ wt ((p, s) :: r) := wt_some hR hF (a := p) (r := r) eb
      rw [pf_some eb] at hpf
      have hpf : acc ++ (p + b, z) :: pf R W low k ((p, pL s b) :: (p + b + z, pR s z b) :: r) = play R W low t := hpf
      rw [show bsRes R W low s = tPz (z, b) from by unfold bsRes; rw [eb]; rfl] at a
      refine rs_when a (et_cmp oq_notN (ev_name (i := 9) rfl (.inl rfl) rfl) ev_non (bin_notNR isR_T) (nomark _)) (fun hb B H s1 a => ?_) (fun hb => nomatch hb)
      refine rs_asg a (ev_name (i := 9) rfl (.inl rfl) rfl) (tg_tup rfl (tgs_cons (tg_name (i := 10) nd rfl (.inl rfl)) (tgs_cons (tg_name (i := 11) nd rfl (.inl rfl)) tgs_nil))) fun σ B6 H6 s6 a => ?_
      have C_parts := c_parts (P := P) (w := w) (base := base) T
      refine rs_asg a (ev_call C_parts (hr.mono (by decide)) rfl (d := (s, z, b)) (ea_cons (ev_name (i := 8) rfl (.inl rfl) rfl) (ea_cons (ev_name (i := 10) rfl (.inl rfl) rfl) (ea_cons (ev_name (i := 11) rfl (.inl rfl) rfl) ea_nil))) hfit) (tg_tup rfl (tgs_cons (tg_name (i := 12) nd rfl (.inl rfl)) (tgs_cons (tg_name (i := 13) nd rfl (.inl rfl)) tgs_nil))) fun σ B7 H7 s7 a => ?_
      refine rs_append (t := tPz (p + b, z)) a (ev_name (i := 5) rfl (.inl rfl) rfl) (.swap _ _ _) (EvE.is (ev_tup (ea_cons (ev_bin op_add (ev_name (i := 7) rfl (.inl rfl) rfl) (ev_name (i := 11) rfl (.inl rfl) rfl) bin_I0) (ea_cons (ev_name (i := 10) rfl (.inl rfl) rfl) ea_nil))) rfl) ?_ (fun B8 H8 s8 a => ?_) (he := rfl) (hs := rfl) (hm := pe_bm PySem.F.plainAttrs_list PySem.F.slot_list_append PySem.F.type_list_append mt_append pe_c pa_c)
      · rw [List.length_map]; omega
      refine rs_append (t := tIt (p + b + z, pR s z b)) a (ev_name (i := 6) rfl (.inl rfl) rfl) (.swap _ _ _) (EvE.is (ev_tup (ea_cons (ev_bin op_add (ev_bin op_add (ev_name (i := 7) rfl (.inl rfl) rfl) (ev_name (i := 11) rfl (.inl rfl) rfl) bin_I0) (ev_name (i := 10) rfl (.inl rfl) rfl) bin_I0) (ea_cons (ev_name (i := 13) rfl (.inl rfl) rfl) ea_nil))) rfl) ?_ (fun B9 H9 s9 a => ?_) (he := rfl) (hs := rfl) (hm := pe_bm PySem.F.plainAttrs_list PySem.F.slot_list_append PySem.F.type_list_append mt_append pe_c pa_c)
      · rw [List.length_map, List.length_reverse]
        have : r.length + 1 ≤ wt ((p, s) :: r) := hlen
        omega
      refine rs_append (t := tIt (p, pL s b)) a (ev_name (i := 6) rfl (.inl rfl) rfl) (.refl _) (ev_tup (ea_cons (ev_name (i := 7) rfl (.inl rfl) rfl) (ea_cons (ev_name (i := 12) rfl (.inl rfl) rfl) ea_nil))) ?_ (fun B10 H10 s10 a => ?_) (he := rfl) (hs := rfl) (hm := pe_bm PySem.F.plainAttrs_list PySem.F.slot_list_append PySem.F.type_list_append mt_append pe_c pa_c)
      · rw [List.length_append, List.length_map, List.length_reverse]
        have : r.length + 1 ≤ wt ((p, s) :: r) := hlen
        show r.length + 1 < _
        omega
      rw [pf_fuel hR hF k (wt ((p, pL s b) :: (p + b + z, pR s z b) :: r)) _ (by omega) (Nat.le_refl _)] at hpf
      refine rs_nil (rs_nil ?_)
      refine ⟨wt ((p, pL s b) :: (p + b + z, pR s z b) :: r), _, _, B10, by omega, ⟨⟨_, _, _, _, _, _, _, rfl⟩, acc ++ [(p + b, z)], (p, pL s b) :: (p + b + z, pR s z b) :: r, rfl, rfl, by rw [List.append_assoc]; exact hpf, ?_, ?_⟩, ((((((ssum.trans s1).trans s6).trans s7).trans s8).trans s9).trans s10), a.cs ?_⟩
      · rw [List.length_append]
        show acc.length + 1 + _ ≤ _
        omega
      · intro q hq
        have hf := hfit
        rcases List.mem_cons.mp hq with e | hq
        · rw [e]
          show b ≤ 99
          have : _ := hf
          omega
        · rcases List.mem_cons.mp hq with e | hq
          · rw [e]
            show s.n - z - b ≤ 99
            omega
          · exact hrst q hq
      · rw [List.reverse_cons, List.reverse_cons, List.map_append, List.map_append, List.map_append]
        rfl
end
end Ls
set_option maxHeartbeats 1000000 -- Tj
/-! plan_play -/
namespace Ls
open PySem Spec PyProof.Rows L2
theorem pf_len (R : Ru) (W : Wo) (low : Bool) : ∀ (k : Nat) (st : List (Nat × S3)), (pf R W low k st).length ≤ k := by
  intro k
  induction k with
  | zero => intro st; exact Nat.le_refl _
  | succ k ih =>
    intro st
    cases st with
    | nil => exact Nat.zero_le _
    | cons q r =>
      obtain ⟨a, s⟩ := q
      cases e : bsale R W low s with
      | none => rw [pf_none e]; exact Nat.le_succ_of_le (ih r)
      | some q => rw [pf_some e]; exact Nat.succ_le_succ (ih _)
theorem play_len (R : Ru) (W : Wo) (low : Bool) (s : S3) : (play R W low s).length ≤ 2 * s.n + 1 := pf_len ..
def ppl (R : Ru) (W : Wo) (low : Bool) (rows : List (List Nat)) : List (Nat × Nat × Nat) := (planStr rows).flatMap fun q => (play R W low q.2.2).map fun s => (q.1, q.2.1 + s.1, s.2)
def tTr (q : Nat × Nat × Nat) : Ty := tT [nT q.1, nT q.2.1, nT q.2.2]
section
variable [J : Iv] {P : Program} {w : World} {K : PySem.W.Frag} {mg : Str → Option Value} {base : Heap}
theorem kb_play_for {fd : FuncData} (F : FunD K d_play_for.name d_play_for.qual d_play_for.params d_play_for.body d_play_for.scope (d_play_for.dvs K) (d_play_for.kws K) (He.fAd K d_play_for.at_) fd) :
    ∃ g gV, KBn K fd ["rule", "worth", "stretch", "is_least"] 3 ["is_least"] g gV ∧ ∀ vs zs, gV vs zs = vs ++ zs := by
  obtain ⟨mv, h⟩ := F.kbinds0 3 ["is_least"] [] (fun us _ ws => us ++ ws) (fun e => nomatch e) (fun q hq => nomatch hq) (fun h1 _ h2 => h1.append h2)
    fun D doc pm an cdv ct us mv ws l1 l2 l3 => match us, mv, ws, l1, l2, l3 with
      | [_, _, _], [], [_], _, _, _ => show _ = _ from by kernel_rfl
  exact ⟨_, _, h, fun _ _ => rfl⟩
theorem kb_plan_play {fd : FuncData} (F : FunD K d_plan_play.name d_plan_play.qual d_plan_play.params d_plan_play.body d_plan_play.scope (d_plan_play.dvs K) (d_plan_play.kws K) (He.fAd K d_plan_play.at_) fd) :
    ∃ ds, Vals [V.bl false] ds ∧ Binds K fd ["rule", "worth", "plan", "is_least"] ds :=
  F.binds0 3 (fun e => nomatch e) rfl fun D doc pm an cdv ct us ks l1 l2 => match us, ks, l1, l2 with
    | [_, _, _], [_], _, _ => ⟨_, _, _, _, _, _, rfl, rfl, show _ = _ from rfl⟩
/-- f(e, ..), the rest by default -/
theorem ev_callD {X : Cx} {Γ : Ctx} {e : Expr} {es : List Expr} {t : Ty} {ts : List Ty} {pos p : Pos} {x : Str} {k : Nat} {α : Type} {args : α → List Ty} {pre : α → Prop} {res : α → Ty} {f : Addr} {fd : FuncData} {ps : List Str} {ds : List Value} {dvs : List V} {us : List Ty} {d : α} (F : FnOk X.prog X.w X.K X.mg X.base CX0 k f fd ps (spF args pre res))
    (hm : X.mg x = some (.ref f)) (hk : PySem.W.keepIn X.K (.ref f) = true) (hb : Binds X.K fd ps ds) (hd : Vals dvs ds) (hus : ∀ B, Tys B us dvs) (hr : Room k X.A) (hg : Gl X x) (ha : EvA X Γ (e :: es) ts) (hp : pre d) (hts : args d = ts ++ us) (ht : res d = t)
    (hdb : (x == ("__debug__" : Str)) = false := by decide) (he : starEach (e :: es) X.env = (false, eval e X.env) :: starEach es X.env := by rfl) (hpl : (backTo pos (starEach es X.env)).any (·.1) = false := by rfl) :
    EvE X Γ (.Call (.Name x p) (e :: es) [] pos) t := fun σ B H s bh Q q => by
  subst ht
  refine ⟨_, pe_call F hr hg hm hk hb hd pass0 pa_c hdb he hpl, ha σ B H s bh _ fun vs B1 H1 n1 r1 => ?_⟩
  exact ⟨d, B1, n1.bh, hp, by rw [hts]; exact r1.append (hus B1), fun v B2 H2 n2 r2 => q v B2 H2 (n1.trans n2) r2⟩
def sp_plan_play (K : PySem.W.Frag) : Sp := spF (α := SA4) (fun d => [tRu K d.1, tWo K d.2.1, tPl K d.2.2.1, tB d.2.2.2]) (fun d => RW.Ok d.1 d.2.1 ∧ PlOk d.2.2.1) (fun d => tL ((ppl d.1 d.2.1 d.2.2.2 d.2.2.1).map tTr))
theorem sc_plan_play : FnScope ["rule", "worth", "plan", "is_least", "found", "row", "seat", "stretch", "place", "size"] ["rule", "worth", "plan", "is_least"] (defScope s_plan_play) := ⟨rfl, rfl, rfl, by decide +kernel, rfl, by decide +kernel, by decide +kernel⟩
theorem ok_plan_play [S : St] (T : Top K mg) : ∃ fd, FunD K d_plan_play.name d_plan_play.qual d_plan_play.params d_plan_play.body d_plan_play.scope (d_plan_play.dvs K) (d_plan_play.kws K) (He.fAd K d_plan_play.at_) fd ∧ FnOk P w K mg base CX0 15 (He.fAd K d_plan_play.at_) fd ["rule", "worth", "plan", "is_least"] (sp_plan_play K) := by
  obtain ⟨fd, Fd⟩ := T.f_plan_play
  have nd := sc_plan_play.nd
  obtain ⟨fp, Fp, okp⟩ := ok_play_for (P := P) (w := w) (base := base) T
  obtain ⟨g, gV, kb, hg⟩ := kb_play_for Fp
  refine ⟨fd, Fd, ok_F Fd sc_plan_play (fun _ => rfl) (by decide) fun cdv cd A outer s H0 E ⟨R, W, rows, low⟩ B0 σ D hr hp a k hn => ?_⟩
  have hp : RW.Ok R W ∧ PlOk rows := hp
  have cs := c_Plan_stretches (P := P) (w := w) (base := base) T rows
  have hl := planStr_len hp.2
  refine rs_setN (i := 4) a (en_lst ea_nil) nd rfl (.inl rfl) fun l σ B H s1 hl0 a => ?_
  refine rs_for (xs := planStr rows) (τ := tRse) a rfl (ei_list (ev_meth0 cs T.c_Plan (hr.mono (by decide)) (ev_name (i := 2) rfl (.inl rfl) rfl) (ins_look (by kernel_rfl)) (d := ()) hp.2)) (fun _ _ => (tg_tup rfl (tgs_cons (tg_name (i := 5) nd rfl (.inl rfl)) (tgs_cons (tg_name (i := 6) nd rfl (.inl rfl)) (tgs_cons (tg_name (i := 7) nd rfl (.inl rfl)) tgs_nil)))))
    (fun i Γ C => (∃ o5 o6 o7 o8 o9, Γ = [some (tRu K R), some (tWo K W), some (tPl K rows), some (tB low), some (tV (.ref l)), o5, o6, o7, o8, o9]) ∧ C = [(l, oL ((((planStr rows).take i).flatMap fun q => (play R W low q.2.2).map fun s => (q.1, q.2.1 + s.1, s.2)).map tTr))]) ⟨⟨_, _, _, _, _, rfl⟩, rfl⟩ (fun B1 s1 i x Γ1 W1 σ B H hi hI a => ?_) fun Γ1 W1 σ B H s1 hI a => ?_
  · obtain ⟨⟨o5, o6, o7, o8, o9, rfl⟩, rfl⟩ := hI
    obtain ⟨rw_, seat, t⟩ := x
    have ht : t.n ≤ 60 := planStr_n hp.2 (List.mem_of_getElem? hi)
    have hpl := play_len R W low t
    have hacc := flat_len (fun q : Nat × Nat × S3 => (play R W low q.2.2).map fun s => (q.1, q.2.1 + s.1, s.2)) 121 ((planStr rows).take i) fun q hq => by
      rw [List.length_map]
      have h1 := play_len R W low q.2.2
      have h2 := planStr_n hp.2 (List.mem_of_mem_take hq)
      omega
    have htk : ((planStr rows).take i).length ≤ 25 := Nat.le_trans (List.length_take_le' ..) hl
    refine rs_for (xs := play R W low t) (τ := tPz) a rfl (ei_list (ev_callK (d := (R, W, t, low)) okp kb hg T.g_play_for Fp.kp (hr.mono (by decide)) rfl (ea_cons (ev_name (i := 0) rfl (.inl rfl) rfl) (ea_cons (ev_name (i := 1) rfl (.inl rfl) rfl) (ea_cons (ev_name (i := 7) rfl (.inl rfl) rfl) ea_nil))) (ek_cons (ev_name (i := 3) rfl (.inl rfl) rfl) ek_nil) ⟨hp.1, by show t.n ≤ 99; omega⟩ rfl rfl rfl rfl)) (fun _ _ => (tg_tup rfl (tgs_cons (tg_name (i := 8) nd rfl (.inl rfl)) (tgs_cons (tg_name (i := 9) nd rfl (.inl rfl)) tgs_nil))))
      (fun j Γ C => (∃ o8 o9, Γ = [some (tRu K R), some (tWo K W), some (tPl K rows), some (tB low), some (tV (.ref l)), some (nT rw_), some (nT seat), some (tSt t), o8, o9]) ∧ C = [(l, oL ((((planStr rows).take i).flatMap (fun q => (play R W low q.2.2).map fun s => (q.1, q.2.1 + s.1, s.2)) ++ ((play R W low t).take j).map fun s => (rw_, seat + s.1, s.2)).map tTr))]) ⟨⟨_, _, rfl⟩, by rw [List.take_zero, List.map_nil, List.append_nil]⟩ (fun B1 s1 j x Γ1 W1 σ B H hj hI a => ?_) fun Γ1 W1 σ B H s1 hI a => ?_
    · obtain ⟨⟨o8, o9, rfl⟩, rfl⟩ := hI
      obtain ⟨b, z⟩ := x
      refine rs_append (t := tTr (rw_, seat + b, z)) a (ev_name (i := 4) rfl (.inl rfl) rfl) (.refl _) (EvE.is (ev_tup (ea_cons (ev_name (i := 5) rfl (.inl rfl) rfl) (ea_cons (ev_bin op_add (ev_name (i := 6) rfl (.inl rfl) rfl) (ev_name (i := 8) rfl (.inl rfl) rfl) bin_I0) (ea_cons (ev_name (i := 9) rfl (.inl rfl) rfl) ea_nil)))) rfl) ?_ (fun B H s1 a => rs_nil ⟨_, _, B, ⟨⟨_, _, rfl⟩, rfl⟩, a.cs (by rw [take_succ' hj, List.map_append, List.map_append, List.map_append, List.map_append, List.append_assoc]; rfl)⟩) (he := rfl) (hs := rfl) (hm := pe_bm PySem.F.plainAttrs_list PySem.F.slot_list_append PySem.F.type_list_append mt_append pe_c pa_c)
      rw [List.length_map, List.length_append, List.length_map]
      have : ((play R W low t).take j).length ≤ (play R W low t).length := List.length_take_le' ..
      omega
    · obtain ⟨⟨o8, o9, rfl⟩, rfl⟩ := hI
      exact rs_nil ⟨_, _, B, ⟨⟨_, _, _, _, _, rfl⟩, rfl⟩, a.cs (by rw [take_succ' hi, List.flatMap_append, List.take_length]; simp)⟩
  · obtain ⟨⟨o5, o6, o7, o8, o9, rfl⟩, rfl⟩ := hI
    obtain ⟨B1, b1, a⟩ := a.frzL hl0 (i := 4) rfl
    refine rs_ret a (ev_name (i := 4) rfl (.inl rfl) rfl) fun v B' H' _ a' r => k v B' H' a'.n ?_
    rw [List.take_length] at r
    exact r
end
end Ls
set_option maxHeartbeats 1000000 -- Tk
/-! behind_sale, left_behind, total, total_of -/
namespace Ls
open PySem Spec PyProof.Rows L2
/-- behind a sale of z at place p -/
def led (R : Ru) (p z : Nat) : List (Nat × S3) → Option (List (Nat × S3))
  | [] => none
  | (a, s) :: r => if isSold R s z ((p : Int) - (a : Int)) = true then some ((a, pL s (p - a)) :: (p + z, pR s z (p - a)) :: r) else (led R p z r).map fun l => (a, s) :: l
def hit (R : Ru) (p z : Nat) (q : Nat × S3) : Bool := isSold R q.2 z ((p : Int) - (q.1 : Int))
theorem led_hit {R : Ru} {p z : Nat} : ∀ {here : List (Nat × S3)} {i a : Nat} {s : S3}, here[i]? = some (a, s) → (∀ j, j < i → ∀ q, here[j]? = some q → hit R p z q = false) → hit R p z (a, s) = true →
    led R p z here = some (here.take i ++ ([(a, pL s (p - a)), (p + z, pR s z (p - a))] ++ here.drop (i + 1)))
  | [], i, _, _, e, _, _ => by simp at e
  | (a', s') :: r, 0, a, s, e, _, h => by
    cases e
    have h : isSold R s' z ((p : Int) - (a' : Int)) = true := h
    rw [led, if_pos h]
    rfl
  | (a', s') :: r, i + 1, a, s, e, hn, h => by
    have h0 : isSold R s' z ((p : Int) - (a' : Int)) = false := hn 0 (Nat.succ_pos i) (a', s') rfl
    rw [led, if_neg (by rw [h0]; exact fun x => nomatch x), led_hit (here := r) (i := i) e (fun j hj q hq => hn (j + 1) (Nat.succ_lt_succ hj) q hq) h]
    rfl
theorem led_no {R : Ru} {p z : Nat} : ∀ {here : List (Nat × S3)}, (∀ q ∈ here, hit R p z q = false) → led R p z here = none
  | [], _ => rfl
  | (a, s) :: r, h => by
    have h0 : isSold R s z ((p : Int) - (a : Int)) = false := h (a, s) List.mem_cons_self
    rw [led, if_neg (by rw [h0]; exact fun x => nomatch x), led_no fun q hq => h q (List.mem_cons_of_mem _ hq)]
    rfl
def tLed : Option (List (Nat × S3)) → Ty
  | none => tNone
  | some l => tL (l.map tIt)
/-- a state of a play: sizes -/
def HOk (here : List (Nat × S3)) : Prop := here.length ≤ 1000 ∧ ∀ q ∈ here, q.2.n ≤ 100
section
variable [J : Iv] {P : Program} {w : World} {K : PySem.W.Frag} {mg : Str → Option Value} {base : Heap}
def sp_behind_sale (K : PySem.W.Frag) : Sp := spF (α := Ru × List (Nat × S3) × Nat × Nat) (fun d => [tRu K d.1, tL (d.2.1.map tIt), tPz d.2.2]) (fun d => d.1.Ok ∧ HOk d.2.1 ∧ 1 ≤ d.2.2.2 ∧ d.2.2.2 ≤ 5) (fun d => tLed (led d.1 d.2.2.1 d.2.2.2 d.2.1))
theorem sc_behind_sale : FnScope ["rule", "here", "sale", "place", "size", "at", "seat", "one", "first", "second"] ["rule", "here", "sale"] (defScope s_behind_sale) := ⟨rfl, rfl, rfl, by decide +kernel, rfl, by decide +kernel, by decide +kernel⟩
theorem c_behind_sale (T : Top K mg) : Cal P w K mg base "behind_sale" 8 (sp_behind_sale K) := by
  have nd := sc_behind_sale.nd
  have C_is_size := c_is_size (P := P) (w := w) (base := base) T
  have C_is_number := c_is_number (P := P) (w := w) (base := base) T
  have C_is_sold := c_is_sold (P := P) (w := w) (base := base) T
  have C_parts := c_parts (P := P) (w := w) (base := base) T
  refine cal_F T.f_behind_sale T.g_behind_sale sc_behind_sale (fun _ _ _ _ _ _ us hl => match us, hl with | [_, _, _], _ => rfl) (fun _ => rfl) (by decide) fun f cdv cd A outer s H0 E ⟨R, here, p, z⟩ B0 σ D hr hp a k hn => ?_
  obtain ⟨hR, ⟨hlen, hn100⟩, hz1, hz5⟩ : R.Ok ∧ HOk here ∧ 1 ≤ z ∧ z ≤ 5 := hp
  have k : ∀ v B H, Nw nF B0 H0 B H → (tLed (led R p z here)).p B v → D.rt v H := k
  refine rs_when a (EvT.is (k2 := false) (et_w (ew_or (et_not (et_val (ev_callB call_isi rfl T.b_isinstance bt_isinstance (ea_cons (ev_name (i := 2) rfl (.inl rfl) rfl) (ea_cons (ev_bty rfl T.b_tuple bt_tuple) ea_nil)) (cb_isi isTy_tup kt_tuple_tuple)))) (fun _ => (ew_or (et_cmp op_ne (ev_callB call_lenS rfl T.b_len bt_len (ea_cons (ev_name (i := 2) rfl (.inl rfl) rfl) ea_nil) cb_lenT) ev_int (bin_ne rfl) (nomark _)) (fun _ => (ew_or (et_not (et_val (ev_call C_is_number (hr.mono (by decide)) rfl (ea_cons (ev_sub ix_tup (ev_name (i := 2) rfl (.inl rfl) rfl) ev_int (bin_ixTi (j := 0) rfl rfl)) ea_nil) trivial))) (fun _ => (ew_or1 (et_not (et_val (ev_call C_is_size (hr.mono (by decide)) rfl (ea_cons (ev_sub ix_tup (ev_name (i := 2) rfl (.inl rfl) rfl) ev_int (bin_ixTi (j := 1) rfl rfl)) ea_nil) trivial))))))))))) ?_) (fun hb => nomatch hb) fun hb B H s1 a => ?_
  · rw [decide_eq_true (show (0 : Int) ≤ (p : Int) by omega), decide_eq_true (show (1 : Int) ≤ (z : Int) by omega), decide_eq_true (show (z : Int) ≤ 5 by omega)]
    rfl
  refine rs_asg a (ev_name (i := 2) rfl (.inl rfl) rfl) (tg_tup rfl (tgs_cons (tg_name (i := 3) nd rfl (.inl rfl)) (tgs_cons (tg_name (i := 4) nd rfl (.inl rfl)) tgs_nil))) fun σ B H s1 a => ?_
  refine rs_for (xs := here.zipIdx) (τ := fun q => tT [nT q.2, tIt q.1]) a rfl (EvI.is (ei_enum rfl T.b_enumerate (ev_name (i := 1) rfl (.inl rfl) rfl)) enTys_map) (fun _ _ => (tg_tup rfl (tgs_cons (tg_name (i := 5) nd rfl (.inl rfl)) (tgs_cons (tg_tup rfl (tgs_cons (tg_name (i := 6) nd rfl (.inl rfl)) (tgs_cons (tg_name (i := 7) nd rfl (.inl rfl)) tgs_nil))) tgs_nil))))
    (fun i Γ C => (∃ o5 o6 o7, Γ = [some (tRu K R), some (tL (here.map tIt)), some (tPz (p, z)), some (nT p), some (nT z), o5, o6, o7, none, none]) ∧ C = [] ∧ ∀ j, j < i → ∀ q, here[j]? = some q → hit R p z q = false) ⟨⟨_, _, _, rfl⟩, rfl, fun j hj => absurd hj (Nat.not_lt_zero j)⟩ (fun B1 s1 i x Γ1 W1 σ B H hi hI a => ?_) fun Γ1 W1 σ B H s1 hI a => ?_
  · obtain ⟨⟨o5, o6, o7, rfl⟩, rfl, hno⟩ := hI
    obtain ⟨⟨seat, t⟩, j⟩ := x
    obtain ⟨hj, hy⟩ := zipIdx_get hi
    have hj : j = i := hj
    have hy : here[i]? = some (seat, t) := hy
    subst hj
    have ht : t.n ≤ 100 := hn100 _ (List.mem_of_getElem? hy)
    have hjl : j < here.length := (List.getElem?_eq_some_iff.mp hy).1
    refine rs_when (b := hit R p z (seat, t)) a (et_val (ev_call C_is_sold (hr.mono (by decide)) rfl (d := (R, t, z, (p : Int) - (seat : Int))) (ea_cons (ev_name (i := 0) rfl (.inl rfl) rfl) (ea_cons (ev_name (i := 7) rfl (.inl rfl) rfl) (ea_cons (ev_tup (ea_cons (ev_name (i := 4) rfl (.inl rfl) rfl) (ea_cons (ev_bin op_sub (ev_name (i := 3) rfl (.inl rfl) rfl) (ev_name (i := 6) rfl (.inl rfl) rfl) bin_I0) ea_nil))) ea_nil))) ⟨⟨hR, ht⟩, hz1, hz5⟩)) (fun hb B H s1 a => ?_) fun hb B H s1 a => ?_
    · have hs : isSold R t z ((p : Int) - (seat : Int)) = true := hb
      unfold isSold at hs
      rw [Bool.and_eq_true, Bool.and_eq_true] at hs
      have h0 := of_decide_eq_true hs.1
      have hm := of_decide_eq_true hs.2.1
      have ho := of_decide_eq_true hs.2.2
      have en : ((p : Int) - (seat : Int)).toNat = p - seat := by omega
      rw [en] at ho
      have hfit : Fit t z (p - seat) := ⟨hz1, hz5, offers_fit ho⟩
      have ei : ((p : Int) - (seat : Int)) = ((p - seat : Nat) : Int) := by omega
      refine rs_asg a (ev_call C_parts (hr.mono (by decide)) rfl (d := (t, z, p - seat)) (ea_cons (ev_name (i := 7) rfl (.inl rfl) rfl) (ea_cons (ev_name (i := 4) rfl (.inl rfl) rfl) (ea_cons (EvE.is (ev_bin op_sub (ev_name (i := 3) rfl (.inl rfl) rfl) (ev_name (i := 6) rfl (.inl rfl) rfl) bin_I0) (t2 := nT (p - seat)) (congrArg tI ei)) ea_nil))) hfit) (tg_tup rfl (tgs_cons (tg_name (i := 8) nd rfl (.inl rfl)) (tgs_cons (tg_name (i := 9) nd rfl (.inl rfl)) tgs_nil))) fun σ B H s1 a => ?_
      have htk : (cutT (here.map tIt) none (some (j : Int))) = (here.take j).map tIt := by rw [cut_to, take_map]
      have hdr : (cutT (here.map tIt) (some ((j + 1 : Nat) : Int)) none) = (here.drop (j + 1)).map tIt := by rw [cut_from, List.map_drop]
      have l1 : ((here.take j).map tIt).length ≤ here.length := by rw [List.length_map]; exact List.length_take_le' ..
      have l2 : ((here.drop (j + 1)).map tIt).length ≤ here.length := by rw [List.length_map, List.length_drop]; omega
      refine rs_ret a (ev_bin op_cat (ev_bin op_cat (EvE.is (ev_sliceL (ev_name (i := 1) rfl (.inl rfl) rfl) eo_none (eo_some (ev_name (i := 5) rfl (.inl rfl) rfl))) (congrArg tL htk)) (ev_lst (ea_cons (ev_tup (ea_cons (ev_name (i := 6) rfl (.inl rfl) rfl) (ea_cons (ev_name (i := 8) rfl (.inl rfl) rfl) ea_nil))) (ea_cons (ev_tup (ea_cons (ev_bin op_add (ev_name (i := 3) rfl (.inl rfl) rfl) (ev_name (i := 4) rfl (.inl rfl) rfl) bin_I0) (ea_cons (ev_name (i := 9) rfl (.inl rfl) rfl) ea_nil))) ea_nil))) (bin_cat ?_)) (EvE.is (ev_sliceL (ev_name (i := 1) rfl (.inl rfl) rfl) (eo_some (EvE.is (ev_bin op_add (ev_name (i := 5) rfl (.inl rfl) rfl) ev_int bin_I0) (t2 := nT (j + 1)) rfl)) eo_none) (congrArg tL hdr)) (bin_cat ?_)) fun v B' H' _ a' r => k v B' H' a'.n ?_
      · show _ + 2 ≤ _
        omega
      · rw [List.length_append]
        show _ + 2 + _ ≤ _
        omega
      · rw [led_hit hy hno hb]
        show (tL ((here.take j ++ ([(seat, pL t (p - seat)), (p + z, pR t z (p - seat))] ++ here.drop (j + 1))).map tIt)).p B' v
        rw [List.map_append, List.map_append, ← List.append_assoc]
        exact r
    · refine rs_nil ⟨_, _, B, ⟨⟨_, _, _, rfl⟩, rfl, fun i hi q hq => ?_⟩, a⟩
      rcases Nat.lt_succ_iff_lt_or_eq.mp hi with z' | z'
      · exact hno i z' q hq
      · rw [z', hy] at hq
        cases hq
        exact hb
  · obtain ⟨⟨o5, o6, o7, rfl⟩, rfl, hno⟩ := hI
    refine rs_ret a ev_non fun v B' H' _ a' r => k v B' H' a'.n ?_
    rw [led_no fun q hq => by
      obtain ⟨i, hi⟩ := List.mem_iff_getElem?.mp hq
      exact hno i (by rw [List.length_zipIdx]; exact (List.getElem?_eq_some_iff.mp hi).1) q hi]
    exact r
end
end Ls
set_option maxHeartbeats 1000000 -- Tl
/-! left_behind, Worth.total, total_of -/
namespace Ls
open PySem Spec PyProof.Rows L2
def leds (R : Ru) : List (Nat × Nat) → List (Nat × S3) → Option (List (Nat × S3))
  | [], h => some h
  | q :: r, h => (led R q.1 q.2 h).bind (leds R r)
theorem led_ok {R : Ru} {p z : Nat} : ∀ {here out : List (Nat × S3)}, led R p z here = some out → out.length = here.length + 1 ∧ ∀ m, (∀ q ∈ here, q.2.n ≤ m) → ∀ q ∈ out, q.2.n ≤ m
  | [], _, e => by cases e
  | (a, s) :: r, out, e => by
    rw [led] at e
    split at e
    · rename_i hs
      cases e
      unfold isSold at hs
      rw [Bool.and_eq_true, Bool.and_eq_true] at hs
      have h0 := of_decide_eq_true hs.1
      have ho := of_decide_eq_true hs.2.2
      have en : ((p : Int) - (a : Int)).toNat = p - a := by omega
      rw [en] at ho
      have hf := offers_fit ho
      refine ⟨rfl, fun m hm q hq => ?_⟩
      have h1 : s.n ≤ m := hm (a, s) List.mem_cons_self
      rcases List.mem_cons.mp hq with e | hq
      · rw [e]
        show p - a ≤ m
        omega
      · rcases List.mem_cons.mp hq with e | hq
        · rw [e]
          show s.n - z - (p - a) ≤ m
          omega
        · exact hm q (List.mem_cons_of_mem _ hq)
    · cases h : led R p z r with
      | none => rw [h] at e; cases e
      | some l =>
        rw [h] at e
        cases e
        obtain ⟨h1, h2⟩ := led_ok h
        refine ⟨by rw [List.length_cons, List.length_cons, h1], fun m hm q hq => ?_⟩
        rcases List.mem_cons.mp hq with e | hq
        · rw [e]
          exact hm (a, s) List.mem_cons_self
        · exact h2 m (fun q hq => hm q (List.mem_cons_of_mem _ hq)) q hq
/-- what is left -/
def lefts (here : List (Nat × S3)) : List (Nat × S3) := here.filter fun q => decide (0 < q.2.n)
section
variable [J : Iv] {P : Program} {w : World} {K : PySem.W.Frag} {mg : Str → Option Value} {base : Heap}
abbrev LB := Ru × S3 × List (Nat × Nat) × List (Nat × S3)
/-- a play that is legal, and where it leads -/
def Legal (R : Ru) (s : S3) (pl : List (Nat × Nat)) (out : List (Nat × S3)) : Prop := R.Ok ∧ s.n ≤ 99 ∧ pl.length ≤ 500 ∧ (∀ q ∈ pl, 1 ≤ q.2 ∧ q.2 ≤ 5) ∧ leds R pl [(0, s)] = some out
def sp_left_behind (K : PySem.W.Frag) : Sp := spF (α := LB) (fun d => [tRu K d.1, tSt d.2.1, tL (d.2.2.1.map tPz)]) (fun d => Legal d.1 d.2.1 d.2.2.1 d.2.2.2) (fun d => tL ((lefts d.2.2.2).map tIt))
theorem sc_left_behind : FnScope ["rule", "stretch", "play", "here", "at", "sale", "seat", "one"] ["rule", "stretch", "play"] (defScope s_left_behind) := ⟨rfl, rfl, rfl, by decide +kernel, rfl, by decide +kernel, by decide +kernel⟩
theorem c_left_behind (T : Top K mg) : Cal P w K mg base "left_behind" 9 (sp_left_behind K) := by
  have nd := sc_left_behind.nd
  have C_behind_sale := c_behind_sale (P := P) (w := w) (base := base) T
  refine cal_F T.f_left_behind T.g_left_behind sc_left_behind (fun _ _ _ _ _ _ us hl => match us, hl with | [_, _, _], _ => rfl) (fun _ => rfl) (by decide) fun f cdv cd A outer s H0 E ⟨R, t, pl, out⟩ B0 σ D hr hp a k hn => ?_
  obtain ⟨hR, ht, hpl, hz, hlg⟩ : Legal R t pl out := hp
  have k : ∀ v B H, Nw nF B0 H0 B H → (tL ((lefts out).map tIt)).p B v → D.rt v H := k
  refine rs_set (i := 3) a (EvE.is (ev_lst (ea_cons (ev_tup (ea_cons (ev_int (i := 0)) (ea_cons (ev_name (i := 1) rfl (.inl rfl) rfl) ea_nil))) ea_nil)) (t2 := tL ([(0, t)].map tIt)) rfl) nd rfl (.inl rfl) fun σ B H s1 a => ?_
  refine rs_for (xs := pl.zipIdx) (τ := fun q => tT [nT q.2, tPz q.1]) a rfl (EvI.is (ei_enum rfl T.b_enumerate (ev_name (i := 2) rfl (.inl rfl) rfl)) enTys_map) (fun _ _ => (tg_tup rfl (tgs_cons (tg_name (i := 4) nd rfl (.inl rfl)) (tgs_cons (tg_name (i := 5) nd rfl (.inl rfl)) tgs_nil))))
    (fun i Γ C => (∃ h o4 o5, Γ = [some (tRu K R), some (tSt t), some (tL (pl.map tPz)), some (tL (h.map tIt)), o4, o5, none, none] ∧ leds R (pl.drop i) h = some out ∧ h.length = i + 1 ∧ ∀ q ∈ h, q.2.n ≤ 99) ∧ C = []) ⟨⟨[(0, t)], _, _, rfl, hlg, rfl, fun q hq => by
      rcases List.mem_cons.mp hq with e | z
      · rw [e]; exact ht
      · cases z⟩, rfl⟩ (fun B1 s1 i x Γ1 W1 σ B H hi hI a => ?_) fun Γ1 W1 σ B H s1 hI a => ?_
  · obtain ⟨⟨h, o4, o5, rfl, hld, hhl, hhn⟩, rfl⟩ := hI
    obtain ⟨⟨p, z⟩, j⟩ := x
    obtain ⟨hj, hy⟩ := zipIdx_get hi
    have hj : j = i := hj
    have hy : pl[i]? = some (p, z) := hy
    subst hj
    obtain ⟨hjl, hge⟩ := List.getElem?_eq_some_iff.mp hy
    rw [List.drop_eq_getElem_cons hjl, hge] at hld
    have hz1 : 1 ≤ z ∧ z ≤ 5 := hz _ (List.mem_of_getElem? hy)
    have hld : (led R p z h).bind (leds R (pl.drop (j + 1))) = some out := hld
    cases e : led R p z h with
    | none => rw [e] at hld; cases hld
    | some h2 =>
      rw [e] at hld
      obtain ⟨k1, k2⟩ := led_ok e
      refine rs_set (i := 3) a (EvE.is (ev_call C_behind_sale (hr.mono (by decide)) rfl (d := (R, h, p, z)) (ea_cons (ev_name (i := 0) rfl (.inl rfl) rfl) (ea_cons (ev_name (i := 3) rfl (.inl rfl) rfl) (ea_cons (ev_name (i := 5) rfl (.inl rfl) rfl) ea_nil))) ⟨hR, ⟨by show h.length ≤ 1000; omega, fun q hq => by have := hhn q hq; omega⟩, hz1⟩) (t2 := tL (h2.map tIt)) (by show tLed (led R p z h) = _; rw [e]; rfl)) nd rfl (.inl rfl) fun σ B H s1 a => ?_
      refine rs_when a (et_cmp oq_isN (ev_name (i := 3) rfl (.inl rfl) rfl) ev_non (bin_isNR isR_L) (nomark _)) (fun hb => nomatch hb) fun hb B H s1 a => ?_
      exact rs_nil ⟨_, _, B, ⟨⟨h2, _, _, rfl, hld, by omega, k2 99 hhn⟩, rfl⟩, a⟩
  · obtain ⟨⟨h, o4, o5, rfl, hld, hhl, hhn⟩, rfl⟩ := hI
    rw [List.length_zipIdx] at hld hhl
    rw [List.drop_length] at hld
    cases hld
    refine rs_ret a (ev_lc (own := [("seat", 6), ("one", 7)]) (xs := out) (τ := tIt) (p := fun q => decide (0 < q.2.n)) (g := tIt) rfl nd (blkOk_by (N := ["rule", "stretch", "play", "here", "at", "sale", "seat", "one"]) (sc := defScope s_left_behind) (by decide +kernel)) (ei_list (ev_name (i := 3) rfl (.inl rfl) rfl)) (by decide) (by omega) (fun _ _ _ _ _ _ _ => (tg_tup rfl (tgs_cons (tg_name (i := 6) nd rfl (.inl rfl)) (tgs_cons (tg_name (i := 7) nd rfl (.inl rfl)) tgs_nil))))
      (fun _ _ _ _ _ q _ => (ets_one (EvT.is (et_cmp op_gt (ev_sub ix_tup (ev_name (i := 7) (t := tSt q.2) rfl (.inl rfl) rfl) ev_int (bin_ixTi (j := 1) rfl rfl)) ev_int bin_I0 (nomark _)) (decide_eq_decide.mpr Int.natCast_pos)))) (fun _ _ _ _ _ _ _ => fun _ => (ev_tup (ea_cons (ev_name (i := 6) rfl (.inl rfl) rfl) (ea_cons (ev_name (i := 7) rfl (.inl rfl) rfl) ea_nil))))) fun v B' H' _ a' r => k v B' H' a'.n r
end
end Ls
set_option maxHeartbeats 1000000 -- Tm
/-! Worth.total, total_of -/
namespace Ls
open PySem Spec PyProof.Rows L2
/-! ### sales counted by size -/
def bump (z : Nat) : List (Nat × Nat) → List (Nat × Nat)
  | [] => [(z, 1)]
  | q :: r => if q.1 = z then (q.1, q.2 + 1) :: r else q :: bump z r
def cnt (z : Nat) (c : List (Nat × Nat)) : Nat := ((c.find? fun q => decide (q.1 = z)).map (·.2)).getD 0
def cT (c : List (Nat × Nat)) : List (Key × Ty) := c.map fun q => (.inl (q.1 : Int), nT q.2)
def tot (f : Nat → Int) (c : List (Nat × Nat)) : Int := (c.map fun q => f q.1 * (q.2 : Int)).sum
structure CI (m : Nat) (c : List (Nat × Nat)) : Prop where
  nd : (c.map (·.1)).Nodup
  le : ∀ q ∈ c, q.2 ≤ m
  ln : c.length ≤ m
theorem bump_keys {z x : Nat} : ∀ {c : List (Nat × Nat)}, x ∈ (bump z c).map (·.1) → x = z ∨ x ∈ c.map (·.1)
  | [], h => by
    rcases List.mem_cons.mp h with e | h
    · exact .inl e
    · cases h
  | q :: r, h => by
    rw [bump] at h
    split at h
    · exact .inr h
    · rcases List.mem_cons.mp h with e | h
      · exact .inr (by rw [e]; exact List.mem_cons_self)
      · rcases bump_keys (c := r) h with e | e
        · exact .inl e
        · exact .inr (List.mem_cons_of_mem _ e)
theorem bump_nd {z : Nat} : ∀ {c : List (Nat × Nat)}, (c.map (·.1)).Nodup → ((bump z c).map (·.1)).Nodup
  | [], _ => List.nodup_cons.mpr ⟨fun h => (nomatch h), List.nodup_nil⟩
  | q :: r, nd => by
    have nd' := List.nodup_cons.mp nd
    rw [bump]
    split
    · exact nd
    · rename_i hq
      refine List.nodup_cons.mpr ⟨fun h => ?_, bump_nd nd'.2⟩
      rcases bump_keys h with e | e
      · exact hq e
      · exact nd'.1 e
theorem bump_le {m z : Nat} : ∀ {c : List (Nat × Nat)}, (∀ q ∈ c, q.2 ≤ m) → ∀ q ∈ bump z c, q.2 ≤ m + 1
  | [], _, q, hq => by
    rcases List.mem_cons.mp hq with e | h
    · rw [e]; exact Nat.succ_le_succ (Nat.zero_le _)
    · cases h
  | p :: r, h, q, hq => by
    rw [bump] at hq
    have h0 := h p List.mem_cons_self
    split at hq
    · rcases List.mem_cons.mp hq with e | hq
      · rw [e]
        show p.2 + 1 ≤ m + 1
        omega
      · have := h q (List.mem_cons_of_mem _ hq)
        omega
    · rcases List.mem_cons.mp hq with e | hq
      · rw [e]
        omega
      · exact bump_le (fun q hq => h q (List.mem_cons_of_mem _ hq)) q hq
theorem bump_ln {z : Nat} : ∀ c : List (Nat × Nat), (bump z c).length ≤ c.length + 1
  | [] => Nat.le_refl _
  | p :: r => by
    rw [bump]
    split
    · exact Nat.le_succ _
    · exact Nat.succ_le_succ (bump_ln r)
theorem CI.bump {m z : Nat} {c : List (Nat × Nat)} (h : CI m c) : CI (m + 1) (Ls.bump z c) := ⟨bump_nd h.nd, bump_le h.le, by have := bump_ln (z := z) c; have := h.ln; omega⟩
theorem tot_bump {f : Nat → Int} {z : Nat} : ∀ c : List (Nat × Nat), tot f (bump z c) = tot f c + f z
  | [] => by
    show f z * 1 + 0 = 0 + f z
    omega
  | q :: r => by
    rw [bump]
    split
    · rename_i e
      show f q.1 * ((q.2 + 1 : Nat) : Int) + tot f r = (f q.1 * (q.2 : Int) + tot f r) + f z
      rw [← e, Int.natCast_add, Int.mul_add]
      show f q.1 * (q.2 : Int) + f q.1 * 1 + tot f r = _
      omega
    · show f q.1 * (q.2 : Int) + tot f (bump z r) = (f q.1 * (q.2 : Int) + tot f r) + f z
      rw [tot_bump r]
      omega
theorem kinl {a b : Nat} : ((.inl (a : Int) : Key) = .inl (b : Int)) ↔ a = b := ⟨fun h => by have := Sum.inl.inj h; omega, fun h => by rw [h]⟩
theorem look_cT {z : Nat} : ∀ {c : List (Nat × Nat)}, (look (cT c) (.inl (z : Int))).getD (tI 0) = nT (cnt z c)
  | [] => rfl
  | q :: r => by
    by_cases e : q.1 = z
    · show (look ((.inl (q.1 : Int), nT q.2) :: cT r) (.inl (z : Int))).getD (tI 0) = _
      rw [look_pos (J := Jb) (kinl.mpr e)]
      unfold cnt
      rw [List.find?_cons_of_pos (by rw [e]; exact decide_eq_true rfl)]
      rfl
    · show (look ((.inl (q.1 : Int), nT q.2) :: cT r) (.inl (z : Int))).getD (tI 0) = _
      rw [look_neg (J := Jb) (fun h => e (kinl.mp h)), look_cT (c := r)]
      unfold cnt
      rw [List.find?_cons_of_neg (by rw [decide_eq_false e]; exact fun x => nomatch x)]
theorem put_cT {z : Nat} : ∀ {c : List (Nat × Nat)}, (c.map (·.1)).Nodup → putT (cT c) (.inl (z : Int)) (nT (cnt z c + 1)) = cT (bump z c)
  | [], _ => rfl
  | q :: r, nd => by
    have nd := List.nodup_cons.mp nd
    have ih := put_cT (z := z) (c := r) nd.2
    by_cases e : q.1 = z
    · have hc : cnt z (q :: r) = q.2 := by
        unfold cnt
        rw [List.find?_cons_of_pos (by rw [e]; exact decide_eq_true rfl)]
        rfl
      rw [hc, bump, if_pos e]
      unfold putT
      have ha : ((cT (q :: r)).any fun p => decide (p.1 = (.inl (z : Int) : Key))) = true := by
        show (decide (_ = _) || _) = true
        rw [decide_eq_true (kinl.mpr e)]
        rfl
      rw [if_pos ha]
      show (if (.inl (q.1 : Int) : Key) = .inl (z : Int) then _ else _) :: (cT r).map _ = _
      rw [if_pos (kinl.mpr e)]
      show _ = ((.inl (q.1 : Int) : Key), nT (q.2 + 1)) :: cT r
      congr 1
      refine (List.map_congr_left fun p hp => ?_).trans (List.map_id _)
      obtain ⟨p', h1, h2⟩ := List.mem_map.mp hp
      subst h2
      have hne : ¬ (.inl (p'.1 : Int) : Key) = .inl (z : Int) := fun h => nd.1 (List.mem_map.mpr ⟨p', h1, (kinl.mp h).trans e.symm⟩)
      show (if (.inl (p'.1 : Int) : Key) = .inl (z : Int) then _ else _) = _
      rw [if_neg hne]
      rfl
    · have hc : cnt z (q :: r) = cnt z r := by
        unfold cnt
        rw [List.find?_cons_of_neg (by rw [decide_eq_false e]; exact fun x => nomatch x)]
      rw [hc, bump, if_neg e]
      show _ = ((.inl (q.1 : Int) : Key), nT q.2) :: cT (bump z r)
      rw [← ih]
      have hne : ¬ (.inl (q.1 : Int) : Key) = .inl (z : Int) := fun h => e (kinl.mp h)
      unfold putT
      have ha : ((cT (q :: r)).any fun p => decide (p.1 = (.inl (z : Int) : Key))) = ((cT r).any fun p => decide (p.1 = (.inl (z : Int) : Key))) := by
        show (decide (_ = _) || _) = _
        rw [decide_eq_false hne]
        rfl
      rw [ha]
      split
      · show (if (.inl (q.1 : Int) : Key) = .inl (z : Int) then _ else _) :: (cT r).map _ = _
        rw [if_neg hne]
      · rfl
section
variable [J : Iv] {P : Program} {w : World} {K : PySem.W.Frag} {mg : Str → Option Value} {base : Heap}
/-- dicts that may be read: locked or not -/
def tDrK (ps : List (Key × Ty)) : Ty := ⟨fun B v => ∃ a kvs, v = .ref a ∧ Rd B a (.dK kvs) ∧ DRel B ps kvs, fun h ⟨a, kvs, e, i, r⟩ => ⟨a, kvs, e, i.elim (fun z => .inl (h _ _ z)) fun ⟨od, z⟩ => .inr ⟨od, h _ _ z⟩, r.mono h⟩⟩
omit [Iv] in
theorem DRel.noget {κ : Type} [DecidableEq κ] {B : Hp} {k : κ} : ∀ {ps : List (κ × Ty)} {kvs : List (κ × V)}, DRel B ps kvs → look ps k = none → valV kvs k = none
  | _, _, .nil, _ => rfl
  | _, _, .cons (k := j) (t := u) (v := v) a r, h => by
    by_cases e : j = k
    · rw [look_pos (J := Jb) e] at h
      cases h
    · rw [look_neg (J := Jb) e] at h
      rw [valV_neg (p := (j, v)) e]
      exact r.noget h
section
variable {X : Cx} {F : Addr → Prop} {B0 H0 Bg : Hp} {Γ : Ctx} {W W' : Cells} {σ : L2.St} {B H : Hp} {i : Nat} {t t2 : Ty} {l : Addr} {rest : List Stmt} {D : Ends} {pos p1 apos : Pos} {ts : List Ty} {ps : List (Key × Ty)} {key : Key} {n : Nat} {o e f v ix : Expr}
/-- d.get(k, x) -/
theorem ev_dgetR (hr : Room n X.A) (ho : EvE X Γ o (tDrK ps)) (he : EvE X Γ e (tV (kV key))) (hf : EvE X Γ f t2) (h : (look ps key).getD t2 = t) (m : M2 X o "get" apos e f pos := by exact ⟨rfl, rfl, rfl, rfl⟩) : EvE X Γ (.Call (.Attribute o "get" apos) [e, f] [] pos) t := fun σ B H s bh Q q =>
  ⟨_, pe_dget2 (hu_of hr) pe_c pe_c pe_c m, ho σ B H s bh _ fun v B1 H1 n1 ⟨a, kvs, e1, e2, r⟩ => by
    subst e1
    refine ⟨a, rfl, .inl ⟨_, rd_mono n1.bh.s e2⟩, he σ B1 H1 (s.mono n1.bb) n1.bh _ fun u B2 H2 n2 e3 => hf σ B2 H2 (s.mono (n1.trans n2).bb) n2.bh _ fun w B3 H3 n3 rw3 => ?_⟩
    have e3 : u = kV key := e3
    subst e3
    have g : DGet H3 a (kV key) (valV kvs key) := .inl ⟨kvs, key, rd_mono (((n2.trans n3).bb : Same B1 B3).trans n3.bh.s) e2, rfl, rfl⟩
    cases hl : look ps key with
    | none =>
      rw [(r.mono (n2.trans n3).bb).noget hl] at g
      rw [hl] at h
      have h : t2 = t := h
      subst h
      exact ⟨_, g, q w B3 H3 ((n1.trans n2).trans n3) rw3⟩
    | some t' =>
      obtain ⟨z, h1, h2⟩ := (r.mono (n2.trans n3).bb).get hl
      rw [h1] at g
      rw [hl] at h
      have h : t' = t := h
      subst h
      exact ⟨_, g, q z B3 H3 ((n1.trans n2).trans n3) h2⟩⟩
/-- d[k], d may change -/
theorem ev_dgetRx (hr : Room n X.A) (ho : EvE X Γ o (tDrK ps)) (hi : EvE X Γ ix (tV (kV key))) (h : look ps key = some t) (hs : NoSl ix := by exact fun _ _ => rfl) : EvE X Γ (.Subscript o ix pos) t := fun σ B H s bh Q q =>
  ⟨_, pe_dget (hu_of hr) pe_c pe_c hs, ho σ B H s bh _ fun v B1 H1 n1 ⟨a, kvs, e1, e2, r⟩ => hi σ B1 H1 (s.mono n1.bb) n1.bh _ fun u B2 H2 n2 e3 => by
    obtain ⟨w, h1, h2⟩ := (r.mono n2.bb).get h
    subst e1
    have e3 : u = kV key := e3
    subst e3
    have g : DGet H2 a (kV key) (valV kvs key) := .inl ⟨kvs, key, rd_mono ((n2.bb : Same B1 B2).trans n2.bh.s) e2, rfl, rfl⟩
    rw [h1] at g
    exact ⟨a, w, rfl, g, q w B2 H2 (n1.trans n2) h2⟩⟩
/-- d[k] = v, the value read from what may change -/
theorem rs_dputS (hr : Room n X.A) (a : At F B0 H0 Bg Γ W σ B H) (hv : EvS X F B0 H0 Bg Γ W σ B H v t) (ho : EvE X Γ o (tV (.ref l))) (hi : EvE X Γ ix (tV (kV key))) (hW : W.Perm ((l, oDK ps) :: W')) (hl : ps.length < 100000)
    (k : ∀ B' H', Same B B' → At F B0 H0 Bg Γ ((l, oDK (putT ps key t)) :: W') σ B' H' → RS X rest D σ H') (hs : swapsWith v (some (.Subscript o ix p1)) pos.line X.env = pure false := by rfl) : RS X (.Assign [.Subscript o ix p1] v pos :: rest) D σ H :=
  rs_ps (ps_dput (hu_of hr) pe_c pe_c pe_c hs) (hv _ fun u B1 H1 n1 a1 r1 => ho σ B1 H1 a1.s a1.n.bh _ fun w B2 H2 n2 r2 => hi σ B2 H2 (a1.s.mono n2.bb) n2.bh _ fun z B3 H3 n3 r3 => by
    have r2 : w = .ref l := r2
    have r3 : z = kV key := r3
    subst r2 r3
    have a3 := (a1.step (n2.trans n3)).perm hW
    obtain ⟨_, _, ob, h3, kvs, e3, dr⟩ := a3.cell
    subst e3
    refine ⟨l, _, rfl, .inl ⟨kvs, key, h3, rfl, by rw [dr.length]; exact lt5 hl, rfl⟩, k B3 _ ((n1.trans n2).trans n3).bb (a3.wr (ot' := oDK (putT ps key t)) ⟨_, rfl, dr.put (t.mono (n2.trans n3).bb r1)⟩)⟩)
/-- the dict l, read now -/
theorem At.rdD (a : At F B0 H0 Bg Γ W σ B H) (h : (l, oDK ps) ∈ W) (hi : Γ[i]? = some (some (tV (.ref l)))) : SOk (Γ.set i (some (tDrK ps))) (fz W B H) σ := by
  obtain ⟨o, h1, kvs, e1, r3⟩ := a.fzl h
  subst e1
  exact SOk.re (s := a.s.mono fz_same) hi ⟨l, kvs, rfl, .inl h1, r3⟩
/-- the dict l, locked -/
theorem rs_lockD (a : At F B0 H0 Bg Γ ((l, oDK ps) :: W) σ B H) (h0 : H0 l = none) (hi : Γ[i]? = some (some (tV (.ref l)))) (k : ∀ B' H', Same B B' → At F B0 H0 Bg (Γ.set i (some (tDK ps))) W σ B' H' → RS X rest D σ H') : RS X rest D σ H :=
  rs_lock a h0 (fun B o ⟨kvs, e, _⟩ => by rw [e]; trivial) fun o od B' H' s h1 ⟨kvs, e, r⟩ a' => k B' H' s (a'.ctx (SOk.re (s := a'.s) hi ⟨l, kvs, rfl, ⟨od, by rw [← e]; exact h1⟩, r⟩))
end
def sp_Worth_total (K : PySem.W.Frag) (W : Wo) : Sp := spF (α := List (Nat × Nat) × Nat) (fun d => tWo K W :: [tDK (cT d.1), nT d.2]) (fun d => CI 1000 d.1 ∧ d.2 ≤ 100000) (fun d => tI (tot W.price d.1 + W.free * (d.2 : Int)))
theorem sc_Worth_total : FnScope ["self", "sold", "seats", "size"] ["self", "sold", "seats"] (defScope s_Worth_total) := ⟨rfl, rfl, rfl, by decide +kernel, rfl, by decide +kernel, by decide +kernel⟩
theorem wo_instT {W : Wo} (B : Hp) (v : V) (h : (tWo K W).p B v) : ∃ a dx fs, v = .ref a ∧ B a = some (.ins (He.ga K "Worth") dx fs) ∧ fs.lookup ("total" : Str) = none := by
  obtain ⟨a, dx, d, e, h1, _⟩ := h
  exact ⟨a, dx, _, e, h1, woFs_total⟩
theorem cT_keys {c : List (Nat × Nat)} : ((cT c).map fun q => tV (kV q.1)) = c.map fun q => nT q.1 := by
  unfold cT
  rw [List.map_map]
  rfl
theorem c_Worth_total (T : Top K mg) (W : Wo) : CalM P w K mg base (He.ga K "Worth") "total" 2 (sp_Worth_total K W) := by
  have nd := sc_Worth_total.nd
  have C_price := c_Worth_price (P := P) (w := w) (base := base) T W
  refine calM_F (d := d_Worth_total) (N := ["self", "sold", "seats", "size"]) (ps := ["self", "sold", "seats"]) T.f_Worth_total T.t_Worth_total sc_Worth_total (fun _ _ _ _ _ _ us hl => match us, hl with | [_, _, _], _ => rfl) (fun _ => rfl) (by decide) fun f cdv cd A outer s H0 E ⟨c, m⟩ B0 σ D hr hp a k hn => ?_
  obtain ⟨hc, hm⟩ : CI 1000 c ∧ m ≤ 100000 := hp
  have hln := hc.ln
  have hlk : ∀ q ∈ c, look (cT c) (.inl (q.1 : Int)) = some (nT q.2) := by
    have nd := hc.nd
    clear hc hln a k hm
    induction c with
    | nil => intro q hq; cases hq
    | cons p r ih =>
      intro q hq
      have nd := List.nodup_cons.mp nd
      show look ((.inl (p.1 : Int), nT p.2) :: cT r) _ = _
      rcases List.mem_cons.mp hq with e | hq
      · rw [e]
        exact look_pos rfl
      · rw [look_neg fun h => nd.1 (List.mem_map.mpr ⟨q, hq, (kinl.mp h).symm⟩)]
        exact ih nd.2 q hq
  have k : ∀ v B H, Nw nF B0 H0 B H → (tI (tot W.price c + W.free * (m : Int))).p B v → D.rt v H := k
  refine rs_ret a (ev_bin op_add (ev_sumI (ns := c.map fun q => W.price q.1 * (q.2 : Int)) rfl rfl T.b_sum (ev_lc (own := [("size", 3)]) (xs := c) (τ := fun q => nT q.1) (p := fun _ => true) (g := fun q => tI (W.price q.1 * (q.2 : Int))) rfl nd (blkOk_by (N := ["self", "sold", "seats", "size"]) (sc := defScope s_Worth_total) (by decide +kernel)) (EvI.is (ei_keys (ev_name (i := 1) rfl (.inr (.inl rfl)) rfl)) cT_keys) (by decide) (by omega) (fun _ _ _ _ _ _ _ => (tg_name (i := 3) nd rfl (.inl rfl))) (fun _ _ _ _ _ _ _ => ets_nil)
    (fun _ _ _ _ _ q hq => fun _ => (ev_bin op_mul (ev_meth C_price T.c_Worth (hr.mono (by decide)) (ev_name (i := 0) rfl (.inr (.inl rfl)) rfl) wo_inst (d := q.1) (ea_cons (ev_name (i := 3) rfl (.inl rfl) rfl) ea_nil) trivial) (ev_dget (ps := cT c) (k := .inl (q.1 : Int)) hr (ev_name (i := 1) rfl (.inr (.inl rfl)) rfl) (ev_name (i := 3) rfl (.inl rfl) rfl) (hlk q hq)) (bin_I (.inr ⟨by omega, by have := hc.le q hq; omega⟩))))) map_map_I) (ev_bin op_mul (ev_ffree T (ev_name (i := 0) rfl (.inr (.inl rfl)) rfl)) (ev_name (i := 2) rfl (.inl rfl) rfl) (bin_I (.inr ⟨by omega, by omega⟩))) bin_I0) fun v B' H' _ a' r => k v B' H' a'.n r
end
end Ls
set_option maxHeartbeats 1000000 -- Tn
/-! total_of -/
namespace Ls
open PySem Spec PyProof.Rows L2
def plTot (W : Wo) (pl : List (Nat × Nat)) (out : List (Nat × S3)) : Int := (pl.map fun q => W.price q.2).sum + W.free * ((((lefts out).map fun q => q.2.n).sum : Nat) : Int)
theorem leds_ok {R : Ru} : ∀ {pl : List (Nat × Nat)} {here out : List (Nat × S3)}, leds R pl here = some out → out.length = here.length + pl.length ∧ ∀ m, (∀ q ∈ here, q.2.n ≤ m) → ∀ q ∈ out, q.2.n ≤ m
  | [], here, out, e => by
    cases e
    exact ⟨rfl, fun m h => h⟩
  | (p, z) :: r, here, out, e => by
    have e : (led R p z here).bind (leds R r) = some out := e
    cases h : led R p z here with
    | none => rw [h] at e; cases e
    | some l =>
      rw [h] at e
      obtain ⟨h1, h2⟩ := led_ok h
      obtain ⟨h3, h4⟩ := leds_ok (pl := r) (here := l) e
      exact ⟨by rw [h3, h1, List.length_cons]; omega, fun m hm => h4 m (h2 m hm)⟩
theorem sum_le_mul {α : Type} {f : α → Nat} {m : Nat} : ∀ {xs : List α}, (∀ x ∈ xs, f x ≤ m) → (xs.map f).sum ≤ xs.length * m
  | [], _ => Nat.zero_le _
  | x :: xs, h => by
    rw [List.map_cons, List.sum_cons, List.length_cons, Nat.succ_mul]
    have h1 := h x List.mem_cons_self
    have h2 := sum_le_mul (xs := xs) fun y hy => h y (List.mem_cons_of_mem _ hy)
    omega
section
variable [J : Iv] {P : Program} {w : World} {K : PySem.W.Frag} {mg : Str → Option Value} {base : Heap}
abbrev TO := Ru × Wo × S3 × List (Nat × Nat) × List (Nat × S3)
def sp_total_of (K : PySem.W.Frag) : Sp := spF (α := TO) (fun d => [tRu K d.1, tWo K d.2.1, tSt d.2.2.1, tL (d.2.2.2.1.map tPz)]) (fun d => Legal d.1 d.2.2.1 d.2.2.2.1 d.2.2.2.2 ∧ Fits d.1 d.2.1 ∧ ∀ q ∈ lefts d.2.2.2.2, mayEnd d.1 d.2.1 q.2 = true) (fun d => tI (plTot d.2.1 d.2.2.2.1 d.2.2.2.2))
theorem sc_total_of : FnScope ["rule", "worth", "stretch", "play", "here", "sold", "seat", "size", "one"] ["rule", "worth", "stretch", "play"] (defScope s_total_of) := ⟨rfl, rfl, rfl, by decide +kernel, rfl, by decide +kernel, by decide +kernel⟩
theorem c_total_of (T : Top K mg) : Cal P w K mg base "total_of" 10 (sp_total_of K) := by
  have nd := sc_total_of.nd
  have C_left_behind := c_left_behind (P := P) (w := w) (base := base) T
  have C_may_end := c_may_end (P := P) (w := w) (base := base) T
  have C_need := c_need_until (P := P) (w := w) (base := base) T
  refine cal_F T.f_total_of T.g_total_of sc_total_of (fun _ _ _ _ _ _ us hl => match us, hl with | [_, _, _, _], _ => rfl) (fun _ => rfl) (by decide) fun f cdv cd A outer s H0 E ⟨R, W, t, pl, out⟩ B0 σ D hr hp a k hn => ?_
  obtain ⟨hlg, hF, hend⟩ : Legal R t pl out ∧ Fits R W ∧ ∀ q ∈ lefts out, mayEnd R W q.2 = true := hp
  have hR := hlg.1
  have ht := hlg.2.1
  have hpl := hlg.2.2.1
  obtain ⟨hol, hon⟩ := leds_ok hlg.2.2.2.2
  have hon := hon 99 fun q hq => by
    rcases List.mem_cons.mp hq with e | z
    · rw [e]; exact ht
    · cases z
  have hol : out.length = 1 + pl.length := hol
  have hll : (lefts out).length ≤ out.length := List.length_filter_le ..
  have hln : ∀ q ∈ lefts out, q.2.n ≤ 99 := fun q hq => hon q (List.mem_filter.mp hq).1
  have C_total := c_Worth_total (P := P) (w := w) (base := base) T W
  have k : ∀ v B H, Nw nF B0 H0 B H → (tI (plTot W pl out)).p B v → D.rt v H := k
  refine rs_expr a (ev_call C_need (hr.mono (by decide)) rfl (d := (R, W)) (ea_cons (ev_name (i := 0) rfl (.inr (.inl rfl)) rfl) (ea_cons (ev_name (i := 1) rfl (.inr (.inl rfl)) rfl) ea_nil)) ⟨hR, hF⟩) fun B1 H1 s1 a => ?_
  refine rs_set (i := 4) a (ev_call C_left_behind (hr.mono (by decide)) rfl (d := (R, t, pl, out)) (ea_cons (ev_name (i := 0) rfl (.inr (.inl rfl)) rfl) (ea_cons (ev_name (i := 2) rfl (.inl rfl) rfl) (ea_cons (ev_name (i := 3) rfl (.inl rfl) rfl) ea_nil))) hlg) nd rfl (.inl rfl) fun σ B H s1 a => ?_
  refine rs_when a (EvT.is (k2 := false) (et_not (et_val (ev_callB (cr_all rfl) rfl T.b_all bt_all (ea_cons (EvE.is (ev_lc (own := [("seat", 6), ("one", 8)]) (xs := lefts out) (τ := tIt) (p := fun _ => true) (g := fun q => tB (mayEnd R W q.2)) rfl nd (blkOk_by (N := ["rule", "worth", "stretch", "play", "here", "sold", "seat", "size", "one"]) (sc := defScope s_total_of) (by decide +kernel)) (ei_list (ev_name (i := 4) rfl (.inl rfl) rfl)) (by decide) (by omega) (fun _ _ _ _ _ _ _ => (tg_tup rfl (tgs_cons (tg_name (i := 6) nd rfl (.inl rfl)) (tgs_cons (tg_name (i := 8) nd rfl (.inl rfl)) tgs_nil)))) (fun _ _ _ _ _ _ _ => ets_nil)
    (fun _ _ _ _ _ q hq => fun _ => (ev_call C_may_end (hr.mono (by decide)) rfl (d := (R, W, q.2)) (ea_cons (ev_name (i := 0) rfl (.inr (.inl rfl)) rfl) (ea_cons (ev_name (i := 1) rfl (.inr (.inl rfl)) rfl) (ea_cons (ev_name (i := 8) rfl (.inl rfl) rfl) ea_nil))) ⟨⟨hR, hF⟩, by have := hln q hq; show q.2.n ≤ 100; omega⟩))) (t2 := tL (((lefts out).map fun q => mayEnd R W q.2).map tB)) (by rw [filter_yes, List.map_map]; rfl)) ea_nil) (cb_all)))) (by
      rw [List.all_map, show ((lefts out).all (id ∘ fun q => mayEnd R W q.2)) = true from List.all_eq_true.mpr (fun q hq => hend q hq)]
      rfl)) (fun hb => nomatch hb) fun hb B H s1 a => ?_
  refine rs_setN (i := 5) a en_dnew nd rfl (.inl rfl) fun l σ B H s1 hl a => ?_
  refine rs_for (xs := pl) (τ := tPz) a rfl (ei_list (ev_name (i := 3) rfl (.inl rfl) rfl)) (fun _ _ => (tg_tup rfl (tgs_cons (tg_name (i := 6) nd rfl (.inl rfl)) (tgs_cons (tg_name (i := 7) nd rfl (.inl rfl)) tgs_nil))))
    (fun i Γ C => (∃ o6 o7, Γ = [some (tRu K R), some (tWo K W), some (tSt t), some (tL (pl.map tPz)), some (tL ((lefts out).map tIt)), some (tV (.ref l)), o6, o7, none]) ∧ ∃ c, C = [(l, oDK (cT c))] ∧ CI i c ∧ tot W.price c = ((pl.take i).map fun q => W.price q.2).sum) ⟨⟨_, _, rfl⟩, [], rfl, ⟨List.nodup_nil, fun q hq => (nomatch hq), Nat.le_refl _⟩, rfl⟩ (fun B1 s1 i x Γ1 W1 σ B H hi hI a => ?_) fun Γ1 W1 σ B H s1 hI a => ?_
  · obtain ⟨⟨o6, o7, rfl⟩, c, rfl, hc, hs⟩ := hI
    obtain ⟨p, z⟩ := x
    have hil : i < pl.length := (List.getElem?_eq_some_iff.mp hi).1
    have hcl := hc.ln
    have sf := a.rdD (l := l) (i := 5) List.mem_cons_self rfl
    refine rs_dputS (t := nT (cnt z c + 1)) (key := .inl (z : Int)) (n := 9) hr a (fun Q q => ev_pure a sf (letI : Iv := Jb; EvE.is (ev_bin op_add (ev_dgetR (key := .inl (z : Int)) (n := 9) hr (ev_name (i := 5) (t := tDrK (cT c)) rfl (.inl rfl) rfl) (ev_name (i := 7) rfl (.inl rfl) rfl) (ev_int (i := 0)) (look_cT (c := c))) (ev_int (i := 1)) bin_I0) (t2 := nT (cnt z c + 1)) rfl) (fun _ _ => cl_V) q) (ev_name (i := 5) rfl (.inl rfl) rfl) (ev_name (i := 7) rfl (.inl rfl) rfl) (.refl _) ?_ fun B H s1 a => rs_nil ⟨_, _, B, ⟨⟨_, _, rfl⟩, bump z c, rfl, hc.bump, ?_⟩, a.cs (by rw [put_cT hc.nd])⟩
    · unfold cT
      rw [List.length_map]
      omega
    · rw [tot_bump, hs, take_succ' hi, List.map_append, List.sum_append]
      show _ = _ + (W.price z + 0)
      omega
  · obtain ⟨⟨o6, o7, rfl⟩, c, rfl, hc, hs⟩ := hI
    rw [List.take_length] at hs
    refine rs_lockD (i := 5) a hl rfl fun B H s1 a => ?_
    have hsm := sum_le_mul (f := fun q : Nat × S3 => q.2.n) hln
    have hsm2 : (lefts out).length * 99 ≤ 501 * 99 := Nat.mul_le_mul_right _ (by omega)
    refine rs_ret a (ev_meth C_total T.c_Worth (hr.mono (by decide)) (ev_name (i := 1) rfl (.inr (.inl rfl)) rfl) wo_instT (d := (c, ((lefts out).map fun q => q.2.n).sum)) (ea_cons (ev_name (i := 5) rfl (.inl rfl) rfl) (ea_cons (EvE.is (ev_sumI (ns := ((lefts out).map fun q => q.2.n).map fun n : Nat => (n : Int)) rfl rfl T.b_sum (ev_lc (own := [("seat", 6), ("one", 8)]) (xs := lefts out) (τ := tIt) (p := fun _ => true) (g := fun q => nT q.2.n) rfl nd (blkOk_by (N := ["rule", "worth", "stretch", "play", "here", "sold", "seat", "size", "one"]) (sc := defScope s_total_of) (by decide +kernel)) (ei_list (ev_name (i := 4) rfl (.inl rfl) rfl)) (by decide) (by omega) (fun _ _ _ _ _ _ _ => (tg_tup rfl (tgs_cons (tg_name (i := 6) nd rfl (.inl rfl)) (tgs_cons (tg_name (i := 8) nd rfl (.inl rfl)) tgs_nil)))) (fun _ _ _ _ _ _ _ => ets_nil)
      (fun _ _ _ _ _ q _ => fun _ => (ev_sub ix_tup (ev_name (i := 8) (t := tSt q.2) rfl (.inl rfl) rfl) ev_int (bin_ixTi (j := 1) rfl rfl)))) (by rw [filter_yes, List.map_map, List.map_map]; rfl)) (t2 := nT (((lefts out).map fun q => q.2.n).sum)) (congrArg tI (sum_cast _))) ea_nil)) ⟨⟨hc.nd, fun q hq => by have := hc.le q hq; omega, by have := hc.ln; show c.length ≤ 1000; omega⟩, by show (((lefts out).map fun q => q.2.n).sum) ≤ 100000; omega⟩) fun v B' H' _ a' r => k v B' H' a'.n ?_
    have r : (tI (tot W.price c + W.free * ((((lefts out).map fun q => q.2.n).sum : Nat) : Int))).p B' v := r
    rw [hs] at r
    exact r
end
end Ls
set_option maxHeartbeats 1000000 -- To
/-! a dict of stretches that changes all the while -/
namespace Ls
open PySem Spec PyProof.Rows L2
theorem key_inj {s t : S3} (h : s.key = t.key) : s = t := by
  have h1 := List.cons.inj h
  have h2 := List.cons.inj h1.2
  have h3 := List.cons.inj h2.2
  have e1 := En.s_inj (J := Jb) (Sum.inr.inj h1.1)
  have e2 := Sum.inl.inj h2.1
  have e3 := En.s_inj (J := Jb) (Sum.inr.inj h3.1)
  obtain ⟨l, n, r⟩ := s
  obtain ⟨l', n', r'⟩ := t
  have e1 : l = l' := e1
  have e3 : r = r' := e3
  have e2 : (n : Int) = (n' : Int) := e2
  have e4 : n = n' := by omega
  subst e1
  subst e4
  subst e3
  rfl
def allS : List S3 := [En.P, En.S, En.W].flatMap fun l => (List.range 100).flatMap fun n => [En.P, En.S, En.W].map fun r => ⟨l, n, r⟩
theorem mem_allS {s : S3} (h : s.n ≤ 99) : s ∈ allS := by
  have he : ∀ e : En, e ∈ [En.P, En.S, En.W] := fun e => by cases e <;> decide
  exact List.mem_flatMap.mpr ⟨s.l, he _, List.mem_flatMap.mpr ⟨s.n, List.mem_range.mpr (by omega), List.mem_map.mpr ⟨s.r, he _, rfl⟩⟩⟩
section
variable [J : Iv]
/-- the dict at d: stretches up to 99 seats, each with what it should have -/
structure KAt (T : S3 → Ty) (d : Addr) (kvs : List (List Key × V)) (B H : Hp) : Prop where
  b : B d = none
  f : ¬ J.F H d
  h : H d = some (.dT kvs)
  nd : (kvs.map (·.1)).Nodup
  ok : ∀ q ∈ kvs, ∃ s : S3, s.n ≤ 99 ∧ q.1 = s.key ∧ (T s).p B q.2
theorem KAt.len {T : S3 → Ty} {d : Addr} {kvs : List (List Key × V)} {B H : Hp} (k : KAt T d kvs B H) : kvs.length ≤ 900 := by
  have h1 := nodup_le (xs := kvs.map (·.1)) (ys := allS.map S3.key) k.nd fun x hx => by
    obtain ⟨q, hq, e⟩ := List.mem_map.mp hx
    obtain ⟨s, h1, h2, _⟩ := k.ok q hq
    exact List.mem_map.mpr ⟨s, mem_allS h1, by rw [← e, h2]⟩
  rw [List.length_map, List.length_map] at h1
  have h2 : allS.length = 900 := by decide +kernel
  omega
variable (T : S3 → Ty)
@[reducible] def Jd (d : Addr) : Iv where
  F := fun H a => J.F H a ∨ a = d
  I := fun B H => J.I B H ∧ ∃ kvs, KAt T d kvs B H
  al := fun {B H a} ⟨i, kvs, k⟩ h => by
    rcases h with h | h
    · exact J.al i h
    · rw [h]; exact ⟨k.b, _, k.h⟩
  st := fun {B H B' H'} ⟨i, kvs, k⟩ b1 b2 h1 h2 => ⟨J.st i b1 b2 (fun a z => h1 a (.inl z)) (fun a z => h2 a (.inl z)), kvs, h2 d (.inr rfl), fun z => k.f (J.fs i (fun a z => h1 a (.inl z)) d z), by rw [h1 d (.inr rfl)]; exact k.h, k.nd, fun q hq => let ⟨s, g1, g2, g3⟩ := k.ok q hq; ⟨s, g1, g2, (T s).mono b1 g3⟩⟩
  fs := fun {B H H'} ⟨i, kvs, k⟩ h1 a h => by
    rcases h with h | h
    · exact .inl (J.fs i (fun a z => h1 a (.inl z)) a h)
    · exact .inr h
variable {T} {d : Addr}
theorem sm_jd {B H : Hp} {kvs : List (List Key × V)} (bh : Sm B H) (k : KAt T d kvs B H) : @Sm (Jd T d) B H := @Sm.mk (Jd T d) B H bh.s ⟨bh.i, kvs, k⟩
/-- out of it -/
theorem jd_nw [S : St] {B H B' H' : Hp} (n : @Nw (Jd T d) nF B H B' H') : Nw (fun a => a = d) B H B' H' :=
  ⟨@Nw.bb (Jd T d) _ _ _ _ _ n, ⟨@Sm.s (Jd T d) _ _ (@Nw.bh (Jd T d) _ _ _ _ _ n), (@Sm.i (Jd T d) _ _ (@Nw.bh (Jd T d) _ _ _ _ _ n)).1⟩, fun a o hf hi e => @Nw.hh (Jd T d) _ _ _ _ _ n a o (fun z => z) (fun z => by
    rcases z with z | z
    · exact hi z
    · exact hf z) e, fun a o h _ z => h (St.st _ _ _ z), @Nw.th (Jd T d) _ _ _ _ _ n, @Nw.fr (Jd T d) _ _ _ _ _ n⟩
/-- the stretch is there -/
def KHas (d : Addr) (s : S3) (v : V) (H : Hp) : Prop := ∃ kvs, H d = some (.dT kvs) ∧ valV kvs s.key = some v
section
variable {X : Cx} {F : Addr → Prop} {B0 H0 Bg : Hp} {Γ : Ctx} {W : Cells} {σ : L2.St} {B H : Hp} {i j : Nat} {t : Ty} {x y : Str} {rest thn : List Stmt} {D : Ends} {pos p1 p2 p3 : Pos} {s : S3} {n : Nat} {v : Expr}
theorem tkey_St : tKey s.key = tSt s := rfl
/-- the slots of the dict and of the stretch -/
theorem look_two (a : @At (Jd T d) F B0 H0 Bg Γ W σ B H) (hi : Γ[i]? = some (some (tSt s))) (hj : Γ[j]? = some (some (tV (.ref d)))) :
    ∃ b, σ[i]? = some (some (.ref b)) ∧ H b = some (.tup (s.key.map kV)) ∧ σ[j]? = some (some (.ref d)) := by
  obtain ⟨v, e1, b, vs, e2, e3, r⟩ := (@At.s (Jd T d) _ _ _ _ _ _ _ _ _ a).2 i _ hi
  obtain ⟨u, e4, e5⟩ := (@At.s (Jd T d) _ _ _ _ _ _ _ _ _ a).2 j _ hj
  have e5 : u = .ref d := e5
  subst e2 e5
  refine ⟨b, e1, ?_, e4⟩
  have h := @Sm.s (Jd T d) _ _ (@Nw.bh (Jd T d) _ _ _ _ _ (@At.n (Jd T d) _ _ _ _ _ _ _ _ _ a)) _ _ e3
  rw [h]
  cases r with
  | cons a1 r =>
    cases r with
    | cons a2 r =>
      cases r with
      | cons a3 r =>
        cases r
        have a1 : _ = V.str s.l.s := a1
        have a2 : _ = V.int (s.n : Int) := a2
        have a3 : _ = V.str s.r.s := a3
        rw [a1, a2, a3]
        rfl
/-- if s not in d: .. -/
theorem rs_kif (hr : Room n X.A) (a : @At (Jd T d) F B0 H0 Bg Γ W σ B H) (hi : Γ[i]? = some (some (tSt s))) (hj : Γ[j]? = some (some (tV (.ref d)))) (hNi : X.N[i]? = some x) (hNj : X.N[j]? = some y) (hvi : Vis X.env.scope x) (hvj : Vis X.env.scope y)
    (k1 : RS X thn { D with nx := fun σ' H' => RS X rest D σ' H' } σ H) (k2 : ∀ v, KHas d s v H → (T s).p B v → RS X rest D σ H)
    (hdx : (x == ("__debug__" : Str)) = false := by decide) (hcx : (x == ("__classdict__" : Str)) = false := by decide) (hdy : (y == ("__debug__" : Str)) = false := by decide) (hcy : (y == ("__classdict__" : Str)) = false := by decide) (hm : behindInMarks .NotIn (.Name y p2) = false := by rfl) :
    RS X (.If (.Compare (.Name x p1) [.NotIn] [.Name y p2] p3) thn [] pos :: rest) D σ H := by
  obtain ⟨b, e1, e2, e3⟩ := look_two a hi hj
  obtain ⟨_, kvs, k⟩ := @Sm.i (Jd T d) _ _ (@Nw.bh (Jd T d) _ _ _ _ _ (@At.n (Jd T d) _ _ _ _ _ _ _ _ _ a))
  have g : DGet H d (.ref b) (valV kvs s.key) := .inr ⟨kvs, s.key, b, .inl k.h, rfl, e2, rfl⟩
  refine rs_ps (ps_if (pt_cmp (pc_dnotin (hu_of hr) (pe_var hNi hvi hdx hcx) (pe_var hNj hvj hdy hcy)) hm) pss_c pss_c) ⟨_, e1, _, e3, d, _, rfl, g, _, rfl, ?_⟩
  cases hv : valV kvs s.key with
  | none => exact k1
  | some v =>
    refine rs_nil (k2 v ⟨kvs, k.h, hv⟩ ?_)
    unfold valV at hv
    obtain ⟨q, h1, h2⟩ := Option.map_eq_some_iff.mp hv
    have hq := List.mem_of_find?_eq_some h1
    have hk := of_decide_eq_true (List.find?_some (p := fun kv : List Key × V => decide (kv.1 = s.key)) h1)
    obtain ⟨s', _, g2, g3⟩ := k.ok q hq
    have e : s' = s := key_inj (by rw [← g2, hk])
    rw [e] at g3
    rw [← h2]
    exact g3
/-- return d[s] -/
theorem rs_kret (hr : Room n X.A) (a : @At (Jd T d) F B0 H0 Bg Γ W σ B H) (hi : Γ[i]? = some (some (tSt s))) (hj : Γ[j]? = some (some (tV (.ref d)))) (hNi : X.N[i]? = some x) (hNj : X.N[j]? = some y) (hvi : Vis X.env.scope x) (hvj : Vis X.env.scope y)
    {v : V} (h : KHas d s v H) (q : D.rt v H)
    (hdx : (x == ("__debug__" : Str)) = false := by decide) (hcx : (x == ("__classdict__" : Str)) = false := by decide) (hdy : (y == ("__debug__" : Str)) = false := by decide) (hcy : (y == ("__classdict__" : Str)) = false := by decide) (hs : NoSl (.Name x p1) := by exact fun _ _ => rfl) :
    RS X (.Return (some (.Subscript (.Name y p2) (.Name x p1) p3)) pos :: rest) D σ H := by
  obtain ⟨b, e1, e2, e3⟩ := look_two a hi hj
  obtain ⟨kvs, h1, h2⟩ := h
  have g : DGet H d (.ref b) (valV kvs s.key) := .inr ⟨kvs, s.key, b, .inl h1, rfl, e2, rfl⟩
  rw [h2] at g
  exact rs_ps (ps_ret (pe_dget (hu_of hr) (pe_var hNj hvj hdy hcy) (pe_var hNi hvi hdx hcx) hs)) ⟨_, e3, _, e1, d, v, rfl, g, q⟩
/-- d[s] = v -/
theorem rs_kput (hr : Room n X.A) (a : @At (Jd T d) F B0 H0 Bg Γ W σ B H) (hv : @EvE (Jd T d) X Γ v (T s)) (hn : s.n ≤ 99) (hi : Γ[i]? = some (some (tSt s))) (hj : Γ[j]? = some (some (tV (.ref d)))) (hNi : X.N[i]? = some x) (hNj : X.N[j]? = some y) (hvi : Vis X.env.scope x) (hvj : Vis X.env.scope y)
    (k : ∀ u B' H', Same B B' → @At (Jd T d) F B0 H0 Bg Γ W σ B' H' → KHas d s u H' → (T s).p B' u → RS X rest D σ H') (hs : swapsWith v (some (.Subscript (.Name y p2) (.Name x p1) p3)) pos.line X.env = pure false := by rfl)
    (hdx : (x == ("__debug__" : Str)) = false := by decide) (hcx : (x == ("__classdict__" : Str)) = false := by decide) (hdy : (y == ("__debug__" : Str)) = false := by decide) (hcy : (y == ("__classdict__" : Str)) = false := by decide) :
    RS X (.Assign [.Subscript (.Name y p2) (.Name x p1) p3] v pos :: rest) D σ H := by
  refine rs_ps (ps_dput (hu_of hr) (pe_var hNj hvj hdy hcy) (pe_var hNi hvi hdx hcx) pe_c hs) (hv σ B H (@At.s (Jd T d) _ _ _ _ _ _ _ _ _ a) (@Nw.bh (Jd T d) _ _ _ _ _ (@At.n (Jd T d) _ _ _ _ _ _ _ _ _ a)) _ fun u B1 H1 n1 r1 => ?_)
  have a1 := @At.step (Jd T d) _ _ _ _ _ _ _ _ _ _ _ a n1
  obtain ⟨b, e1, e2, e3⟩ := look_two a1 hi hj
  have bh1 := @Nw.bh (Jd T d) _ _ _ _ _ n1
  obtain ⟨i1, kvs, kk⟩ := @Sm.i (Jd T d) _ _ bh1
  have hlen := kk.len
  refine ⟨_, e3, _, e1, d, _, rfl, .inr ⟨kvs, s.key, b, kk.h, rfl, e2, lt5 (by omega), rfl⟩, ?_⟩
  have hJ : ∀ a, J.F H1 a → upd H1 d (.dT (putK kvs s.key u)) a = H1 a := fun a z => upd_ne fun e => kk.f (by rw [← e]; exact z)
  have sb : Same B1 (upd H1 d (.dT (putK kvs s.key u))) := fun z o e => by
    rw [upd_ne (ne_of_none e kk.b)]
    exact (@Sm.s (Jd T d) _ _ bh1) _ _ e
  have k2 : KAt T d (putK kvs s.key u) B1 (upd H1 d (.dT (putK kvs s.key u))) := ⟨kk.b, fun z => kk.f (J.fs i1 hJ d z), upd_same, by
      unfold putK
      split
      · have e : (kvs.map fun kv => if kv.1 = s.key then (kv.1, u) else kv).map (·.1) = kvs.map (·.1) := by
          rw [List.map_map]
          refine List.map_congr_left fun q _ => ?_
          show (if q.1 = s.key then (q.1, u) else q).1 = q.1
          split <;> rfl
        rw [e]
        exact kk.nd
      · rename_i hany
        rw [List.map_append]
        refine List.nodup_append.mpr ⟨kk.nd, List.nodup_cons.mpr ⟨fun z => (nomatch z), List.nodup_nil⟩, fun p hp q hq e => ?_⟩
        obtain ⟨q', hq', e'⟩ := List.mem_map.mp hp
        have hq : q = s.key := by
          rcases List.mem_cons.mp hq with z | z
          · exact z
          · cases z
        refine hany (List.any_eq_true.mpr ⟨q', hq', decide_eq_true ?_⟩)
        rw [← hq, ← e]
        exact e', fun q hq => by
      unfold putK at hq
      split at hq
      · obtain ⟨q', h1, h2⟩ := List.mem_map.mp hq
        by_cases e : q'.1 = s.key
        · rw [if_pos e] at h2
          rw [← h2]
          exact ⟨s, hn, e, r1⟩
        · rw [if_neg e] at h2
          rw [← h2]
          exact kk.ok q' h1
      · rcases List.mem_append.mp hq with h | h
        · exact kk.ok q h
        · rcases List.mem_cons.mp h with z | z
          · rw [z]
            exact ⟨s, hn, rfl, r1⟩
          · cases z⟩
  have sm2 : @Sm (Jd T d) B1 (upd H1 d (.dT (putK kvs s.key u))) := @Sm.mk (Jd T d) _ _ sb ⟨J.st i1 (Same.refl B1) sb hJ fun a z => (J.al i1 z).1, _, k2⟩
  have n2 : @Nw (Jd T d) nF B1 H1 B1 (upd H1 d (.dT (putK kvs s.key u))) := @Nw.mk (Jd T d) nF _ _ _ _ (Same.refl B1) sm2 (fun z o _ hF e => by rw [upd_ne fun e => hF (.inr e)]; exact e) (fun z o hF e z' => by
    rcases z' with z' | z'
    · exact hF (.inl (J.fs i1 hJ z z'))
    · exact hF (.inr z')) (fun z o e => by
      by_cases hz : z = d
      · rw [hz]; exact ⟨_, upd_same⟩
      · exact ⟨o, by rw [upd_ne hz]; exact e⟩) (fun _ _ h _ => h)
  exact k u B1 _ (@Nw.bb (Jd T d) _ _ _ _ _ n1) (@At.step (Jd T d) _ _ _ _ _ _ _ _ _ _ _ a1 n2) ⟨_, upd_same, by rw [valV_put, if_pos rfl]⟩ r1
end
end
end Ls
set_option maxHeartbeats 1000000 -- Ma4
/-! All totals of a stretch. -/
namespace Ls
open PySem
/-- one layer: the totals if f tells those of the parts -/
def totF (R : Ru) (W : Wo) (s : S3) (f : S3 → List Int) : List Int :=
  (if mayEnd R W s = true then [W.free * (s.n : Int)] else []) ++ (sales R s).flatMap fun q => (f (pL s q.2)).flatMap fun x => (f (pR s q.1 q.2)).map fun y => W.price q.1 + x + y
def tts (R : Ru) (W : Wo) : Nat → S3 → List Int
  | 0, _ => []
  | k + 1, s => totF R W s (tts R W k)
def tots (R : Ru) (W : Wo) (s : S3) : List Int := tts R W (s.n + 1) s
theorem flatMap_congr' {α β : Type} {f g : α → List β} : ∀ {xs : List α}, (∀ x ∈ xs, f x = g x) → xs.flatMap f = xs.flatMap g
  | [], _ => rfl
  | x :: xs, h => by
    rw [List.flatMap_cons, List.flatMap_cons, h x List.mem_cons_self, flatMap_congr' fun y hy => h y (List.mem_cons_of_mem _ hy)]
theorem totF_congr {R : Ru} (h : R.Ok) {W : Wo} {s : S3} {f g : S3 → List Int} (e : ∀ t : S3, t.n < s.n → f t = g t) : totF R W s f = totF R W s g := by
  unfold totF
  congr 1
  refine flatMap_congr' fun q hq => ?_
  obtain ⟨h1, h2, h3⟩ := sale_fit h hq
  rw [e (pL s q.2) (by show q.2 < s.n; omega), e (pR s q.1 q.2) (by show s.n - q.1 - q.2 < s.n; omega)]
theorem tts_eq {R : Ru} (h : R.Ok) {W : Wo} : ∀ (k : Nat) (s : S3), s.n < k → tts R W k s = tots R W s := by
  have core : ∀ (n k j : Nat) (s : S3), s.n ≤ n → s.n < k → s.n < j → tts R W k s = tts R W j s := by
    intro n
    induction n with
    | zero =>
      intro k j s h0 hk hj
      obtain ⟨k, rfl⟩ : ∃ m, k = m + 1 := ⟨k - 1, by omega⟩
      obtain ⟨j, rfl⟩ : ∃ m, j = m + 1 := ⟨j - 1, by omega⟩
      exact totF_congr h fun t ht => by omega
    | succ n ih =>
      intro k j s h0 hk hj
      obtain ⟨k, rfl⟩ : ∃ m, k = m + 1 := ⟨k - 1, by omega⟩
      obtain ⟨j, rfl⟩ : ∃ m, j = m + 1 := ⟨j - 1, by omega⟩
      exact totF_congr h fun t ht => ih k j t (by omega) (by omega) (by omega)
  intro k s hk
  exact core s.n k (s.n + 1) s (Nat.le_refl _) hk (Nat.lt_succ_self _)
theorem tots_eq {R : Ru} (h : R.Ok) (W : Wo) (s : S3) : tots R W s = totF R W s (tots R W) := by
  show totF R W s (tts R W s.n) = _
  exact totF_congr h fun t ht => tts_eq h s.n t ht
theorem tots_le {R : Ru} (h : R.Ok) {W : Wo} (hW : W.Ok) : ∀ (n : Nat) (s : S3), s.n ≤ n → ∀ x ∈ tots R W s, 0 ≤ x ∧ x ≤ 9 * (s.n : Int) := by
  intro n
  induction n with
  | zero =>
    intro s hs x hx
    rw [tots_eq h] at hx
    rcases List.mem_append.mp hx with z | z
    · split at z
      · have e := List.mem_singleton.mp z
        have h0 : s.n = 0 := by omega
        rw [e, h0]
        show (0 : Int) ≤ W.free * 0 ∧ W.free * 0 ≤ 9 * 0
        omega
      · cases z
    · obtain ⟨q, hq, _⟩ := List.mem_flatMap.mp z
      have := sale_fit h hq
      omega
  | succ n ih =>
    intro s hs x hx
    rw [tots_eq h] at hx
    rcases List.mem_append.mp hx with z | z
    · split at z
      · have e := List.mem_singleton.mp z
        have f0 := hW.f0
        rw [e]
        exact ⟨Int.mul_nonneg f0.1 (by omega), Int.mul_le_mul_of_nonneg_right f0.2 (by omega)⟩
      · cases z
    · obtain ⟨q, hq, z⟩ := List.mem_flatMap.mp z
      obtain ⟨a, ha, z⟩ := List.mem_flatMap.mp z
      obtain ⟨b, hb, z⟩ := List.mem_map.mp z
      obtain ⟨h1, h2, h3⟩ := sale_fit h hq
      have k1 := ih (pL s q.2) (by show q.2 ≤ n; omega) a ha
      have k2 := ih (pR s q.1 q.2) (by show s.n - q.1 - q.2 ≤ n; omega) b hb
      have k1 : 0 ≤ a ∧ a ≤ 9 * (q.2 : Int) := k1
      have k2 : 0 ≤ b ∧ b ≤ 9 * ((s.n - q.1 - q.2 : Nat) : Int) := k2
      have hp := hW.p0 q.1
      have e : ((s.n - q.1 - q.2 : Nat) : Int) = (s.n : Int) - (q.1 : Int) - (q.2 : Int) := by omega
      rw [e] at k2
      rw [← z]
      omega
/-- two ascending lists with the same members -/
theorem asc_ext : ∀ {xs ys : List Int}, xs.Pairwise (· < ·) → ys.Pairwise (· < ·) → (∀ x, x ∈ xs ↔ x ∈ ys) → xs = ys
  | [], [], _, _, _ => rfl
  | [], y :: ys, _, _, h => by
    have := (h y).mpr List.mem_cons_self
    cases this
  | x :: xs, [], _, _, h => by
    have := (h x).mp List.mem_cons_self
    cases this
  | x :: xs, y :: ys, hx, hy, h => by
    have px := List.pairwise_cons.mp hx
    have py := List.pairwise_cons.mp hy
    have e : x = y := by
      rcases List.mem_cons.mp ((h x).mp List.mem_cons_self) with e | e
      · exact e
      · rcases List.mem_cons.mp ((h y).mpr List.mem_cons_self) with e2 | e2
        · exact e2.symm
        · have h1 := py.1 x e
          have h2 := px.1 y e2
          omega
    subst e
    congr 1
    refine asc_ext px.2 py.2 fun z => ⟨fun hz => ?_, fun hz => ?_⟩
    · rcases List.mem_cons.mp ((h z).mp (List.mem_cons_of_mem _ hz)) with e | e
      · have := px.1 z hz
        omega
      · exact e
    · rcases List.mem_cons.mp ((h z).mpr (List.mem_cons_of_mem _ hz)) with e | e
      · have := py.1 z hz
        omega
      · exact e
/-- an ascending list with other members only -/
theorem perm_asc {ys ks : List Int} (p : ys.Perm ks) (nd : ks.Nodup) (s : ys.Pairwise (· ≤ ·)) : ys.Pairwise (· < ·) := by
  have nd2 : ys.Pairwise (· ≠ ·) := p.nodup_iff.mpr nd
  exact (s.and nd2).imp fun h => by omega
end Ls
set_option maxHeartbeats 1000000 -- Tp
/-! all_totals, totals_of -/
namespace Ls
open PySem Spec PyProof.Rows L2
def kD (ks : List Int) : List (Key × Ty) := ks.map fun k => ((.inl k : Key), tB true)
def addK (x : Int) (ks : List Int) : List Int := if x ∈ ks then ks else ks ++ [x]
theorem put_kD {x : Int} {ks : List Int} : putT (kD ks) (.inl x) (tB true) = kD (addK x ks) := by
  have ha : ((kD ks).any fun q => decide (q.1 = (.inl x : Key))) = decide (x ∈ ks) := by
    unfold kD
    rw [List.any_map]
    refine Bool.eq_iff_iff.mpr ⟨fun h => ?_, fun h => ?_⟩
    · obtain ⟨k, h1, h2⟩ := List.any_eq_true.mp h
      have e := Sum.inl.inj (of_decide_eq_true h2)
      exact decide_eq_true (by rw [← e]; exact h1)
    · exact List.any_eq_true.mpr ⟨x, of_decide_eq_true h, decide_eq_true rfl⟩
  unfold putT addK
  rw [ha]
  by_cases h : x ∈ ks
  · rw [if_pos (decide_eq_true h), if_pos h]
    unfold kD
    rw [List.map_map]
    refine List.map_congr_left fun k _ => ?_
    show (if (.inl k : Key) = .inl x then ((.inl k : Key), tB true) else ((.inl k : Key), tB true)) = _
    split <;> rfl
  · rw [if_neg (by rw [decide_eq_false h]; exact fun z => nomatch z), if_neg h]
    unfold kD
    rw [List.map_append]
    rfl
/-- the keys are those numbers -/
def HS (ks L : List Int) : Prop := ks.Nodup ∧ ∀ x, x ∈ ks ↔ x ∈ L
theorem HS.add {ks L : List Int} (h : HS ks L) (x : Int) : HS (addK x ks) (L ++ [x]) := by
  unfold addK
  split
  · rename_i hx
    refine ⟨h.1, fun y => ⟨fun hy => List.mem_append_left _ ((h.2 y).mp hy), fun hy => ?_⟩⟩
    rcases List.mem_append.mp hy with z | z
    · exact (h.2 y).mpr z
    · rw [List.mem_singleton.mp z]
      exact hx
  · rename_i hx
    refine ⟨List.nodup_append.mpr ⟨h.1, List.nodup_cons.mpr ⟨fun z => (nomatch z), List.nodup_nil⟩, fun a ha b hb e => ?_⟩, fun y => ?_⟩
    · rw [e, List.mem_singleton.mp hb] at ha
      exact hx ha
    · rw [List.mem_append, List.mem_append, h.2 y]
theorem HS.to {ks L L' : List Int} (h : HS ks L) (e : ∀ x, x ∈ L ↔ x ∈ L') : HS ks L' := ⟨h.1, fun x => (h.2 x).trans (e x)⟩
def tTot (R : Ru) (W : Wo) (s : S3) : Ty := tE (fun ks : List Int => HS ks (tots R W s)) fun ks => tDK (kD ks)
theorem hs_len {ks : List Int} {m : Nat} (nd : ks.Nodup) (h : ∀ x ∈ ks, 0 ≤ x ∧ x ≤ (m : Int)) : ks.length ≤ m + 1 := by
  have h1 := nodup_le (xs := ks) (ys := (List.range (m + 1)).map fun i : Nat => (i : Int)) nd fun x hx => by
    obtain ⟨h2, h3⟩ := h x hx
    exact List.mem_map.mpr ⟨x.toNat, List.mem_range.mpr (by omega), by omega⟩
  rw [List.length_map, List.length_range] at h1
  exact h1
section
variable [J : Iv] {P : Program} {w : World} {K : PySem.W.Frag} {mg : Str → Option Value} {base : Heap}
section
variable {X : Cx} {F : Addr → Prop} {B0 H0 Bg : Hp} {Γ : Ctx} {W : Cells} {σ : L2.St} {B H : Hp} {rest body : List Stmt} {D : Ends} {pos p : Pos} {e : Expr}
/-- for x in ..: what is walked is known in part -/
theorem rs_forE {κ α : Type} {pr : κ → Prop} {xs : κ → List α} {τ : α → Ty} {u : α → Ctx → Ctx} {js : List Nat} {tg it : Expr} (a : At F B0 H0 Bg Γ W σ B H) (hc : X.calm = true)
    (hi : ∀ R : It → Hp → Prop, (∀ c, pr c → ∀ J B' H', Nw nF B H B' H' → Src J B' ((xs c).map τ) → R J H') → RI X tg it σ H R) (ht : ∀ x, Tgt X tg (τ x) (u x) js)
    (I : κ → Nat → Ctx → Cells → Prop) (h0 : ∀ c, pr c → I c 0 Γ W)
    (turn : ∀ c, pr c → ∀ (B1 : Hp), Same B B1 → ∀ (i : Nat) (x : α) (Γ1 : Ctx) (W1 : Cells) (σ1 : L2.St) (B2 H2 : Hp), (xs c)[i]? = some x → I c i Γ1 W1 → At F B0 H0 B1 (u x Γ1) W1 σ1 B2 H2 →
      RS X body ⟨fun σ' H' => ∃ Γ2 W2 B', I c (i + 1) Γ2 W2 ∧ At F B0 H0 B1 Γ2 W2 σ' B' H', D.rt, fun σ' H' => RS X rest D σ' H', fun σ' H' => ∃ Γ2 W2 B', I c (i + 1) Γ2 W2 ∧ At F B0 H0 B1 Γ2 W2 σ' B' H'⟩ σ1 H2)
    (done : ∀ c, pr c → ∀ (Γ1 : Ctx) (W1 : Cells) (σ1 : L2.St) (B1 H1 : Hp), Same B B1 → I c (xs c).length Γ1 W1 → At F B0 H0 Bg Γ1 W1 σ1 B1 H1 → RS X rest D σ1 H1)
    (hp : PassesOwn (model X.prog X.w) X.A X.env X.xe := by exact PassesOwn.never) (hs : ∀ x, foldedSetIterable it X.env x = pure x := by intro _; rfl) : RS X (.For tg it body [] pos :: rest) D σ H :=
  rs_ps (ps_for hp hc pi_c pg_c pss_c hs) (hi _ fun c hpc J B1 H1 n1 src => by
    have hl : ((xs c).map τ).length = (xs c).length := List.length_map ..
    have w : Walk J (xs c).length (fun H => ∃ B2, Same B1 B2 ∧ Sm B2 H) J.yld := ⟨fun i H hi ⟨B2, b1, b2⟩ => src.goes i B2 H b1 b2 (by rw [hl]; exact hi), fun H ⟨B2, b1, b2⟩ => by rw [← hl]; exact src.stop B2 H b1 b2, fun i H x H' _ _ y => y⟩
    refine for_it w (fun i σ' H' => ∃ Γ2 W2 B', I c i Γ2 W2 ∧ At F B0 H0 B1 Γ2 W2 σ' B' H') ⟨Γ, W, B1, h0 c hpc, (a.step n1).reg (Same.refl B1)⟩ (fun i σ' H' _ ⟨_, _, B', _, a'⟩ => ⟨B', a'.g, a'.n.bh⟩) (fun i v σ' H2 H3 hi ⟨Γ2, W2, B2, hI, a2⟩ y => ?_)
      fun σ' H' ⟨Γ2, W2, B', hI, a'⟩ => done c hpc Γ2 W2 σ' B' H' (n1.bb.trans a'.g) hI (a'.reg ((a.g.trans n1.bb).trans a'.g))
    have hx : (xs c)[i]? = some (xs c)[i] := by simp [hi]
    obtain ⟨B3, n3, tv⟩ := src.yld i (τ (xs c)[i]) B2 H2 v H3 a2.g a2.n.bh (by rw [List.getElem?_map, hx]; rfl) y
    have a3 := a2.step n3
    exact ht (xs c)[i] v σ' B3 H3 Γ2 _ a3.s a3.n.bh tv fun σ2 s2 _ _ => turn c hpc B1 n1.bb i (xs c)[i] Γ2 W2 σ2 B3 H3 hx hI (a3.ctx s2))
/-- the keys of a locked dict that is known in part -/
theorem ek_keysE {pr : List Int → Prop} {tg : Expr} (a : At F B0 H0 Bg Γ W σ B H) (h : EvE X Γ e (tE pr fun ks => tDK (kD ks))) (R : It → Hp → Prop) (q : ∀ ks, pr ks → ∀ J B' H', Nw nF B H B' H' → Src J B' (ks.map tI) → R J H') : RI X tg e σ H R :=
  ⟨_, pi_keys pe_c, h σ B H a.s a.n.bh _ fun v B1 H1 n1 ⟨ks, hk, a, kvs, e1, ⟨od, e2⟩, r⟩ => by
    have hl : (ks.map tI).length = kvs.length := by rw [List.length_map, r.length]; unfold kD; rw [List.length_map]
    refine ⟨a, od, e1, .inl ⟨kvs, n1.bh _ _ e2, q ks hk _ B1 H1 n1 ⟨fun i B2 H2 b1 b2 hi => ⟨b2 _ _ (b1 _ _ e2), by rw [← hl]; exact hi⟩, fun B2 H2 b1 b2 => ⟨b2 _ _ (b1 _ _ e2), Nat.le_of_eq hl.symm⟩, fun i t B2 H2 x H3 b1 b2 hi y => ?_⟩⟩⟩
    obtain ⟨eH, k, w, hk2, ex⟩ := y
    obtain ⟨t', g1, _⟩ := r.getI hk2
    unfold kD at g1
    rw [List.getElem?_map] at g1 hi
    cases hv : ks[i]? with
    | none => rw [hv] at hi; cases hi
    | some z =>
      rw [hv] at g1 hi
      cases hi
      cases g1
      rw [eH]
      exact ⟨B2, .refl b2, ex⟩⟩
end
theorem sc_all_totals : FnScope ["rule", "worth", "stretch", "known", "found", "size", "before", "one", "other", "first", "second"] ["rule", "worth", "stretch", "known"] (defScope s_all_totals) := ⟨rfl, rfl, rfl, by decide +kernel, rfl, by decide +kernel, by decide +kernel⟩
def sp_all (K : PySem.W.Frag) (R : Ru) (W : Wo) (d : Addr) (m : Nat) : Sp := spF (α := S3) (fun s => [tRu K R, tWo K W, tSt s, tV (.ref d)]) (fun s => (RW.Ok R W ∧ W.Ok) ∧ s.n < m ∧ s.n ≤ 99) (fun s => tTot R W s)
theorem ok_all_totals (T : Top K mg) : ∃ fd, FunD K d_all_totals.name d_all_totals.qual d_all_totals.params d_all_totals.body d_all_totals.scope (d_all_totals.dvs K) (d_all_totals.kws K) (He.fAd K d_all_totals.at_) fd ∧ ∀ (R : Ru) (W : Wo) (d : Addr) (m : Nat),
    FnOk P w K mg base CX0 (10 + m) (He.fAd K d_all_totals.at_) fd ["rule", "worth", "stretch", "known"] (@sp_all (Jd (tTot R W) d) K R W d m) := by
  obtain ⟨fd, Fd⟩ := T.f_all_totals
  refine ⟨fd, Fd, fun R W d => ?_⟩
  letI J2 : Iv := Jd (tTot R W) d
  intro m
  induction m with
  | zero =>
    refine ok_F (J := J2) Fd sc_all_totals (fun _ => rfl) (by decide) fun cdv cd A outer s H0 E t B0 σ D hr hp a k hn => ?_
    exact absurd hp.2.1 (Nat.not_lt_zero _)
  | succ m ih =>
    have nd := sc_all_totals.nd
    have ih : Cal P w K mg base "all_totals" (10 + m) (@sp_all J2 K R W d m) := ⟨_, fd, ["rule", "worth", "stretch", "known"], T.g_all_totals, Fd.kp, Fd.bindsN (fun _ _ _ _ _ _ us hl => match us, hl with | [_, _, _, _], _ => rfl), ih⟩
    refine ok_F (J := J2) Fd sc_all_totals (fun _ => rfl) (by decide) fun cdv cd A outer s H0 E t B0 σ D hr hp a k hn => ?_
    have hr := show Room (10 + m) _ from hr
    obtain ⟨⟨⟨hR, hF⟩, hW⟩, htm, ht⟩ : (RW.Ok R W ∧ W.Ok) ∧ t.n < m + 1 ∧ t.n ≤ 99 := hp
    have C_may_end := c_may_end (J := J2) (P := P) (w := w) (base := base) T
    have C_sales := c_sales (J := J2) (P := P) (w := w) (base := base) T
    have C_parts := c_parts (J := J2) (P := P) (w := w) (base := base) T
    have C_price := c_Worth_price (J := J2) (P := P) (w := w) (base := base) T W
    have k : ∀ v B H, Nw nF B0 H0 B H → (tTot R W t).p B v → D.rt v H := k
    refine rs_kif (J := J) (T := tTot R W) (d := d) (i := 2) (j := 3) (s := t) hr a rfl rfl rfl rfl (.inl rfl) (.inl rfl) ?_ fun v hv hT => rs_kret (J := J) (T := tTot R W) (d := d) (i := 2) (j := 3) (s := t) hr a rfl rfl rfl rfl (.inl rfl) (.inl rfl) hv (k v _ _ a.n hT)
    have hR' := hR
    have teq := tots_eq hR W t
    have hsub : ∀ ks : List Int, ks.Nodup → (∀ x ∈ ks, x ∈ tots R W t) → (kD ks).length < 100000 := fun ks h1 h2 => by
      have := hs_len (m := 9 * t.n) h1 fun x hx => by
        have := tots_le hR hW t.n t (Nat.le_refl _) x (h2 x hx)
        omega
      unfold kD
      rw [List.length_map]
      omega
    have hbase : ∀ x ∈ (if mayEnd R W t = true then [W.free * (t.n : Int)] else []), x ∈ tots R W t := fun x hx => by
      rw [teq]
      exact List.mem_append_left _ hx
    have hsale : ∀ q ∈ sales R t, ∀ x ∈ tots R W (pL t q.2), ∀ y ∈ tots R W (pR t q.1 q.2), W.price q.1 + x + y ∈ tots R W t := fun q hq x hx y hy => by
      rw [teq]
      exact List.mem_append_right _ (List.mem_flatMap.mpr ⟨q, hq, List.mem_flatMap.mpr ⟨x, hx, List.mem_map.mpr ⟨y, hy, rfl⟩⟩⟩)
    have hsl := sales_len hR t
    refine rs_setN (i := 4) a en_dnew nd rfl (.inl rfl) fun l σ B H s1 hl a => ?_
    suffices rest : ∀ (B H : Hp) (ks : List Int), HS ks (if mayEnd R W t = true then [W.free * (t.n : Int)] else []) → At nF B0 H0 B0 [some (tRu K R), some (tWo K W), some (tSt t), some (tV (.ref d)), some (tV (.ref l)), none, none, none, none, none, none] [(l, oDK (kD ks))] σ B H → RS _ _ _ σ H by
      refine rs_when a (et_val (ev_call C_may_end (hr.mono (by omega)) rfl (d := (R, W, t)) (ea_cons (ev_name (i := 0) rfl (.inl rfl) rfl) (ea_cons (ev_name (i := 1) rfl (.inl rfl) rfl) (ea_cons (ev_name (i := 2) rfl (.inl rfl) rfl) ea_nil))) ⟨⟨hR, hF⟩, by show t.n ≤ 100; omega⟩)) (fun hb B H s1 a => ?_) fun hb B H s1 a => rest B H [] (by rw [if_neg (by rw [show mayEnd R W t = false from hb]; decide)]; exact ⟨List.nodup_nil, fun x => Iff.rfl⟩) a
      refine rs_dput (ps := []) (key := .inl (W.free * (t.n : Int))) (n := 10 + m) hr a ev_bl (ev_name (i := 4) rfl (.inl rfl) rfl) (EvE.is (t1 := tI (W.free * (t.n : Int))) (ev_bin op_mul (ev_free T (hr.mono (by omega)) (ev_name (i := 1) rfl (.inl rfl) rfl)) (ev_sub ix_tup (ev_name (i := 2) (t := tSt t) rfl (.inl rfl) rfl) ev_int (bin_ixTi (j := 1) rfl rfl)) (bin_I (.inr ⟨by omega, by omega⟩))) rfl) (.refl _) (by decide) fun B H s1 a => rs_nil (rest B H [W.free * (t.n : Int)] (by rw [if_pos (show mayEnd R W t = true from hb)]; exact ⟨List.nodup_cons.mpr ⟨fun z => (nomatch z), List.nodup_nil⟩, fun x => Iff.rfl⟩) a)
    intro B H ks0 hks0 a
    refine rs_for (xs := sales R t) (τ := tPz) a rfl (ei_list (ev_call C_sales (hr.mono (by omega)) rfl (d := (R, t)) (ea_cons (ev_name (i := 0) rfl (.inl rfl) rfl) (ea_cons (ev_name (i := 2) rfl (.inl rfl) rfl) ea_nil)) ⟨hR, by show t.n ≤ 100; omega⟩)) (fun _ _ => (tg_tup rfl (tgs_cons (tg_name (i := 5) nd rfl (.inl rfl)) (tgs_cons (tg_name (i := 6) nd rfl (.inl rfl)) tgs_nil))))
      (fun i Γ C => (∃ o5 o6 o7 o8 o9 o10, Γ = [some (tRu K R), some (tWo K W), some (tSt t), some (tV (.ref d)), some (tV (.ref l)), o5, o6, o7, o8, o9, o10]) ∧ ∃ ks, C = [(l, oDK (kD ks))] ∧ (∀ x ∈ ks, x ∈ tots R W t) ∧ HS ks ((if mayEnd R W t = true then [W.free * (t.n : Int)] else []) ++ ((sales R t).take i).flatMap fun q => (tots R W (pL t q.2)).flatMap fun x => (tots R W (pR t q.1 q.2)).map fun y => W.price q.1 + x + y))
      ⟨⟨_, _, _, _, _, _, rfl⟩, ks0, rfl, fun x hx => hbase x ((hks0.2 x).mp hx), by rw [List.take_zero, List.flatMap_nil, List.append_nil]; exact hks0⟩ (fun B1 s1 i q Γ1 W1 σ B H hi hI a => ?_) fun Γ1 W1 σ B H s1 hI a => ?_
    · obtain ⟨⟨o5, o6, o7, o8, o9, o10, rfl⟩, ks, rfl, hsb, hks⟩ := hI
      obtain ⟨z, b⟩ := q
      have hmem : (z, b) ∈ sales R t := List.mem_of_getElem? hi
      have hfit : 1 ≤ z ∧ z ≤ 5 ∧ b + z ≤ t.n := sale_fit hR hmem
      have hs2 : ∀ x ∈ tots R W (pL t b), ∀ y ∈ tots R W (pR t z b), W.price z + x + y ∈ tots R W t := hsale (z, b) hmem
      rw [take_succ' hi, List.flatMap_append, ← List.append_assoc]
      generalize (if mayEnd R W t = true then [W.free * (t.n : Int)] else []) ++ ((sales R t).take i).flatMap (fun q => (tots R W (pL t q.2)).flatMap fun x => (tots R W (pR t q.1 q.2)).map fun y => W.price q.1 + x + y) = L0 at hks
      refine rs_asg a (ev_call C_parts (hr.mono (by omega)) rfl (d := (t, z, b)) (ea_cons (ev_name (i := 2) rfl (.inl rfl) rfl) (ea_cons (ev_name (i := 5) rfl (.inl rfl) rfl) (ea_cons (ev_name (i := 6) rfl (.inl rfl) rfl) ea_nil))) hfit) (tg_tup rfl (tgs_cons (tg_name (i := 7) nd rfl (.inl rfl)) (tgs_cons (tg_name (i := 8) nd rfl (.inl rfl)) tgs_nil))) fun σ B H s1 a => ?_
      refine rs_forE (pr := fun ks1 => HS ks1 (tots R W (pL t b))) (xs := fun ks1 => ks1) (τ := tI) a rfl (ek_keysE a (ev_call ih (hr.mono (by omega)) rfl (d := pL t b) (ea_cons (ev_name (i := 0) rfl (.inl rfl) rfl) (ea_cons (ev_name (i := 1) rfl (.inl rfl) rfl) (ea_cons (ev_name (i := 7) rfl (.inl rfl) rfl) (ea_cons (ev_name (i := 3) rfl (.inl rfl) rfl) ea_nil)))) ⟨⟨⟨hR, hF⟩, hW⟩, by show b < m; omega, by show b ≤ 99; omega⟩)) (fun _ => (tg_name (i := 9) nd rfl (.inl rfl)))
        (fun ks1 j Γ C => (∃ o9 o10, Γ = [some (tRu K R), some (tWo K W), some (tSt t), some (tV (.ref d)), some (tV (.ref l)), some (nT z), some (nT b), some (tSt (pL t b)), some (tSt (pR t z b)), o9, o10]) ∧ ∃ ks, C = [(l, oDK (kD ks))] ∧ (∀ x ∈ ks, x ∈ tots R W t) ∧ HS ks (L0 ++ (ks1.take j).flatMap fun x => (tots R W (pR t z b)).map fun y => W.price z + x + y))
        (fun ks1 _ => ⟨⟨_, _, rfl⟩, ks, rfl, hsb, by rw [List.take_zero, List.flatMap_nil, List.append_nil]; exact hks⟩) (fun ks1 hks1 B1 s1 j x Γ1 W1 σ B H hj hI a => ?_) fun ks1 hks1 Γ1 W1 σ B H s1 hI a => ?_
      · obtain ⟨⟨o9, o10, rfl⟩, ks, rfl, hsb, hks⟩ := hI
        have hx : x ∈ tots R W (pL t b) := (hks1.2 x).mp (List.mem_of_getElem? hj)
        rw [take_succ' hj, List.flatMap_append, ← List.append_assoc]
        generalize L0 ++ (ks1.take j).flatMap (fun x => (tots R W (pR t z b)).map fun y => W.price z + x + y) = L1 at hks
        refine rs_forE (pr := fun ks2 => HS ks2 (tots R W (pR t z b))) (xs := fun ks2 => ks2) (τ := tI) a rfl (ek_keysE a (ev_call ih (hr.mono (by omega)) rfl (d := pR t z b) (ea_cons (ev_name (i := 0) rfl (.inl rfl) rfl) (ea_cons (ev_name (i := 1) rfl (.inl rfl) rfl) (ea_cons (ev_name (i := 8) rfl (.inl rfl) rfl) (ea_cons (ev_name (i := 3) rfl (.inl rfl) rfl) ea_nil)))) ⟨⟨⟨hR, hF⟩, hW⟩, by show t.n - z - b < m; omega, by show t.n - z - b ≤ 99; omega⟩)) (fun _ => (tg_name (i := 10) nd rfl (.inl rfl)))
          (fun ks2 j Γ C => (∃ o10, Γ = [some (tRu K R), some (tWo K W), some (tSt t), some (tV (.ref d)), some (tV (.ref l)), some (nT z), some (nT b), some (tSt (pL t b)), some (tSt (pR t z b)), some (tI x), o10]) ∧ ∃ ks, C = [(l, oDK (kD ks))] ∧ (∀ x ∈ ks, x ∈ tots R W t) ∧ HS ks (L1 ++ (ks2.take j).map fun y => W.price z + x + y))
          (fun ks2 _ => ⟨⟨_, rfl⟩, ks, rfl, hsb, by rw [List.take_zero, List.map_nil, List.append_nil]; exact hks⟩) (fun ks2 hks2 B1 s1 j y Γ1 W1 σ B H hj hI a => ?_) fun ks2 hks2 Γ1 W1 σ B H s1 hI a => ?_
        · obtain ⟨⟨o10, rfl⟩, ks, rfl, hsb, hks⟩ := hI
          have hy : y ∈ tots R W (pR t z b) := (hks2.2 y).mp (List.mem_of_getElem? hj)
          refine rs_dput (key := .inl (W.price z + x + y)) (n := 10 + m) hr a ev_bl (ev_name (i := 4) rfl (.inl rfl) rfl) (ev_bin op_add (ev_bin op_add (ev_meth C_price T.c_Worth (hr.mono (by omega)) (ev_name (i := 1) rfl (.inl rfl) rfl) wo_inst (d := z) (ea_cons (ev_name (i := 5) rfl (.inl rfl) rfl) ea_nil) trivial) (ev_name (i := 9) rfl (.inl rfl) rfl) bin_I0) (ev_name (i := 10) rfl (.inl rfl) rfl) bin_I0) (.refl _) (hsub ks hks.1 hsb) fun B H s1 a => rs_nil ⟨_, _, B, ⟨⟨_, rfl⟩, addK (W.price z + x + y) ks, rfl, fun u hu => ?_, ?_⟩, a.cs (by rw [put_kD])⟩
          · rcases List.mem_append.mp (((hks.add (W.price z + x + y)).2 u).mp hu) with g | g
            · exact hsb u ((hks.2 u).mpr g)
            · rw [List.mem_singleton.mp g]
              exact hs2 x hx y hy
          · rw [take_succ' hj, List.map_append, ← List.append_assoc]
            exact hks.add _
        · obtain ⟨⟨o10, rfl⟩, ks, rfl, hsb, hks⟩ := hI
          rw [List.take_length] at hks
          refine rs_nil ⟨_, _, B, ⟨⟨_, _, rfl⟩, ks, rfl, hsb, hks.to fun u => ?_⟩, a⟩
          rw [List.mem_append, List.mem_append, List.flatMap_singleton, List.mem_map, List.mem_map]
          refine or_congr Iff.rfl ⟨fun ⟨y, h1, h2⟩ => ⟨y, (hks2.2 y).mp h1, h2⟩, fun ⟨y, h1, h2⟩ => ⟨y, (hks2.2 y).mpr h1, h2⟩⟩
      · obtain ⟨⟨o9, o10, rfl⟩, ks, rfl, hsb, hks⟩ := hI
        rw [List.take_length] at hks
        refine rs_nil ⟨_, _, B, ⟨⟨_, _, _, _, _, _, rfl⟩, ks, rfl, hsb, hks.to fun u => ?_⟩, a⟩
        rw [List.mem_append, List.mem_append, List.flatMap_singleton, List.mem_flatMap, List.mem_flatMap]
        refine or_congr Iff.rfl ⟨fun ⟨y, h1, h2⟩ => ⟨y, (hks1.2 y).mp h1, h2⟩, fun ⟨y, h1, h2⟩ => ⟨y, (hks1.2 y).mpr h1, h2⟩⟩
    · obtain ⟨⟨o5, o6, o7, o8, o9, o10, rfl⟩, ks, rfl, hsb, hks⟩ := hI
      rw [List.take_length] at hks
      have hks : HS ks (tots R W t) := by rw [teq]; exact hks
      refine rs_lockD (i := 4) a hl rfl fun B H s1 a => ?_
      refine rs_kput (J := J) (T := tTot R W) (d := d) (i := 2) (j := 3) (s := t) hr a (EvE.exi (p := fun ks => HS ks (tots R W t)) (f := fun ks => tDK (kD ks)) (x := ks) (ev_name (i := 4) rfl (.inl rfl) rfl) hks) ht rfl rfl rfl rfl (.inl rfl) (.inl rfl) fun v B H s1 a hv hT => rs_nil (rs_kret (J := J) (T := tTot R W) (d := d) (i := 2) (j := 3) (s := t) hr a rfl rfl rfl rfl (.inl rfl) (.inl rfl) hv (k v _ _ a.n hT))
/-- all_totals(.., {}) -/
theorem ev_allTot [S : St] {X : Cx} {Γ : Ctx} {R : Ru} {W : Wo} {t : S3} {m : Nat} {e1 e2 e3 : Expr} {p pos pd : Pos} (T : Top X.K X.mg) (hr : Room (10 + m) X.A) (hg : Gl X "all_totals") (h1 : EvE X Γ e1 (tRu X.K R)) (h2 : EvE X Γ e2 (tWo X.K W)) (h3 : EvE X Γ e3 (tSt t)) (hp : (RW.Ok R W ∧ W.Ok) ∧ t.n < m ∧ t.n ≤ 99)
    (s1 : starEach [e1, e2, e3, .Dict [] [] pd] X.env = (false, eval e1 X.env) :: starEach [e2, e3, .Dict [] [] pd] X.env := by rfl) (s2 : starEach [e2, e3, .Dict [] [] pd] X.env = (false, eval e2 X.env) :: starEach [e3, .Dict [] [] pd] X.env := by rfl)
    (s3 : starEach [e3, .Dict [] [] pd] X.env = (false, eval e3 X.env) :: starEach [.Dict [] [] pd] X.env := by rfl) (s4 : starEach [.Dict [] [] pd] X.env = (false, eval (.Dict [] [] pd) X.env) :: starEach [] X.env := by rfl)
    (hpl : (backTo pos (starEach [e2, e3, .Dict [] [] pd] X.env)).any (·.1) = false := by rfl) :
    EvE X Γ (.Call (.Name "all_totals" p) [e1, e2, e3, .Dict [] [] pd] [] pos) (tTot R W t) := fun σ B H so bh Q q => by
  obtain ⟨fd, Fd, ok⟩ := ok_all_totals (P := X.prog) (w := X.w) (base := X.base) T
  have F : FnOk X.prog X.w X.K X.mg X.base CX0 (10 + m) (He.fAd X.K d_all_totals.at_) fd ["rule", "worth", "stretch", "known"] (fun vs H Q E => ∃ d, @sp_all (Jd (tTot R W) d) X.K R W d m vs H Q E) :=
    ⟨fun vs H Q E ⟨d, h⟩ => (ok R W d m).len vs H Q E h, fun A outer s H args us vs Q E hr e b v ⟨d, h⟩ => (ok R W d m).run A outer s H args us vs Q E hr e b v h⟩
  refine ⟨_, pe_call F hr hg T.g_all_totals Fd.kp (Fd.bindsN (fun _ _ _ _ _ _ us hl => match us, hl with | [_, _, _, _], _ => rfl)) .nil pass0 (pa_cons pe_c (pa_cons pe_c (pa_cons pe_c (pa_cons pe_c pa_nil s4) s3) s2) s1) (by decide) s1 hpl, ?_⟩
  refine h1 σ B H so bh _ fun v1 B1 H1 n1 r1 => h2 σ B1 H1 (so.mono n1.bb) n1.bh _ fun v2 B2 H2 n2 r2 => h3 σ B2 H2 (so.mono (n1.trans n2).bb) n2.bh _ fun v3 B3 H3 n3 r3 => en_dnewT σ B3 H3 (so.mono ((n1.trans n2).trans n3).bb) n3.bh _ fun d B4 H4 n4 bd fd' hd ⟨o, hd', kvs, eo, hk⟩ => ?_
  cases hk
  subst eo
  have ka : KAt (tTot R W) d [] B4 H4 := ⟨bd, fd', hd', List.nodup_nil, fun q hq => (nomatch hq)⟩
  refine ⟨d, t, B4, sm_jd n4.bh ka, hp, .cons ((tRu X.K R).mono ((n2.trans n3).trans n4).bb r1) (.cons ((tWo X.K W).mono (n3.trans n4).bb r2) (.cons ((tSt t).mono n4.bb r3) (.cons rfl .nil))), fun v B5 H5 n5 r5 => q v B5 H5 ((((n1.trans n2).trans n3).trans n4).transF (jd_nw n5) fun y hy => ?_) r5⟩
  rw [hy]
  exact .inr (((n1.trans n2).trans n3).fresh hd)
/-- sorted(d), the keys known in part -/
theorem cb_sortedHS {K : PySem.W.Frag} {L : List Int} (hl : ∀ ks, HS ks L → ks.length < 64) : Cb (fun xs H Q => ∃ (a : Addr) (kvs : List (Key × V)) (ks : List Int), xs = [.ref a] ∧ Rd H a (.dK kvs) ∧ kvs.map (·.1) = ks.map Sum.inl ∧ ks.length < 64 ∧
    ∀ (ys : List Int) (p : Addr), ys.Perm ks → ys.Pairwise (· ≤ ·) → H p = none → Q (.ref p) (upd H p (.lst (ys.map V.int)))) [tE (fun ks : List Int => HS ks L) fun ks => tDK (kD ks)] (tE (fun ys : List Int => ys.Pairwise (· < ·) ∧ ∀ x, x ∈ ys ↔ x ∈ L) fun ys => tL (ys.map tI)) := fun vs B H Q bh r q => by
  cases r with
  | cons r1 r0 =>
    cases r0
    obtain ⟨ks, hks, a, ps, e, h, r⟩ := r1
    subst e
    refine ⟨a, ps, ks, rfl, h.rd bh, ?_, hl ks hks, fun ys p hp hs hn => ?_⟩
    · rw [r.keys]
      unfold kD
      rw [List.map_map]
      rfl
    · exact q _ _ _ (.lay bh hn) ⟨ys, ⟨perm_asc hp hks.1 hs, fun x => (hp.mem_iff).trans (hks.2 x)⟩, p, _, rfl, upd_same, ints_tys⟩
def tAsc (R : Ru) (W : Wo) (s : S3) : Ty := tE (fun ys : List Int => ys.Pairwise (· < ·) ∧ ∀ x, x ∈ ys ↔ x ∈ tots R W s) fun ys => tL (ys.map tI)
def sp_totals_of (K : PySem.W.Frag) : Sp := spF (α := Ru × Wo × S3) (fun d => [tRu K d.1, tWo K d.2.1, tSt d.2.2]) (fun d => (RW.Ok d.1 d.2.1 ∧ d.2.1.Ok) ∧ d.2.2.n ≤ 6) (fun d => tAsc d.1 d.2.1 d.2.2)
theorem sc_totals_of : FnScope ["rule", "worth", "stretch"] ["rule", "worth", "stretch"] (defScope s_totals_of) := ⟨rfl, rfl, rfl, by decide +kernel, rfl, by decide +kernel, by decide +kernel⟩
theorem c_totals_of [S : St] (T : Top K mg) : Cal P w K mg base "totals_of" 18 (sp_totals_of K) := by
  have nd := sc_totals_of.nd
  have C_need := c_need_until (P := P) (w := w) (base := base) T
  refine cal_F T.f_totals_of T.g_totals_of sc_totals_of (fun _ _ _ _ _ _ us hl => match us, hl with | [_, _, _], _ => rfl) (fun _ => rfl) (by decide) fun f cdv cd A outer s H0 E ⟨R, W, t⟩ B0 σ D hr hp a k hn => ?_
  obtain ⟨⟨hRW, hW⟩, ht⟩ : (RW.Ok R W ∧ W.Ok) ∧ t.n ≤ 6 := hp
  have k : ∀ v B H, Nw nF B0 H0 B H → (tAsc R W t).p B v → D.rt v H := k
  refine rs_expr a (ev_call C_need (hr.mono (by decide)) rfl (d := (R, W)) (ea_cons (ev_name (i := 0) rfl (.inl rfl) rfl) (ea_cons (ev_name (i := 1) rfl (.inl rfl) rfl) ea_nil)) ⟨hRW.1, hRW.2⟩) fun B1 H1 s1 a => ?_
  have hlen : ∀ ks, HS ks (tots R W t) → ks.length < 64 := fun ks h => by
    have := hs_len (m := 9 * t.n) h.1 fun x hx => by
      have := tots_le hRW.1 hW t.n t (Nat.le_refl _) x ((h.2 x).mp hx)
      omega
    omega
  refine rs_ret (t := tAsc R W t) a (ev_callB (call_sortedDI rfl) rfl T.b_sorted bt_sorted (ea_cons (ev_allTot (R := R) (W := W) (t := t) (m := 7) T hr rfl (ev_name (i := 0) rfl (.inl rfl) rfl) (ev_name (i := 1) rfl (.inl rfl) rfl) (ev_name (i := 2) rfl (.inl rfl) rfl) ⟨⟨hRW, hW⟩, by omega, by omega⟩) ea_nil) (cb_sortedHS (K := K) hlen)) fun v B' H' _ a' r => k v B' H' a'.n r
end
end Ls
set_option maxHeartbeats 1000000 -- Ua
/-! the bag -/
namespace Ls
open PySem Spec PyProof.Rows L2
section
variable [J : Iv] {X : Cx} {F : Addr → Prop} {B0 H0 Bg : Hp} {Γ : Ctx} {W W' : Cells} {σ : L2.St} {B H : Hp} {i j : Nat} {t : Ty} {l : Addr} {o ix e v : Expr} {rest : List Stmt} {D : Ends} {pos p1 : Pos} {ts : List Ty} {n m : Int}
omit [Iv] in
theorem Tys.upd {B : Hp} {t : Ty} {v : V} (h : t.p B v) : ∀ {ts : List Ty} {vs : List V} (j : Nat), Tys B ts vs → Tys B (ts.set j t) (vs.set j v)
  | _, _, _, .nil => .nil
  | _, _, 0, .cons _ r => .cons h r
  | _, _, j + 1, .cons a r => .cons a (r.upd h j)
/-- x[k] = e, x an own list -/
theorem rs_lputS (a : At F B0 H0 Bg Γ W σ B H) (hv : EvS X F B0 H0 Bg Γ W σ B H v t) (ho : EvE X Γ o (tV (.ref l))) (hi : EvE X Γ ix (tI (j : Int))) (hW : W.Perm ((l, oL ts) :: W')) (hj : j < ts.length)
    (k : ∀ B' H', Same B B' → At F B0 H0 Bg Γ ((l, oL (ts.set j t)) :: W') σ B' H' → RS X rest D σ H')
    (ha : ∀ v, assign (.Subscript o ix p1) X.env v = (do
      let ov ← holding [v] (eval o X.env)
      let iv ← holding [v, ov] (eval ix X.env)
      standAt p1
      holding [v, ov, iv] (setItem ov iv v)
      release [v, ov, iv] []) := by intro _; rfl)
    (hs : swapsWithSole [.Subscript o ix p1] v pos.line X.env = pure false := by rfl) (hw : swappedStores [.Subscript o ix p1] v X.env = pure none := by rfl) (h1 : (assignEach [.Subscript o ix p1] X.env).map (·.2) = [assign (.Subscript o ix p1) X.env] := by rfl) :
    RS X (.Assign [.Subscript o ix p1] v pos :: rest) D σ H :=
  rs_ps (ps_asg pe_c (pg_sub pe_c pe_c set_list ha) hs hw h1) (hv _ fun u B1 H1 n1 a1 r1 => ho σ B1 H1 a1.s a1.n.bh _ fun w B2 H2 n2 r2 => hi σ B2 H2 (a1.s.mono n2.bb) n2.bh _ fun z B3 H3 n3 r3 => by
    have r2 : w = .ref l := r2
    have r3 : z = .int (j : Int) := r3
    subst r2 r3
    have a3 := (a1.step (n2.trans n3)).perm hW
    obtain ⟨_, _, ob, h3, vs, e3, r4⟩ := a3.cell
    subst e3
    refine ⟨l, vs, (j : Int), j, rfl, rfl, h3, ?_, k B3 _ ((n1.trans n2).trans n3).bb (a3.wr (ot' := oL (ts.set j t)) ⟨_, rfl, r4.upd (t.mono (n2.trans n3).bb r1) j⟩)⟩
    unfold ixN
    have := r4.length
    rw [if_pos (by omega), if_pos (by omega)]
    rfl)
def rGetN : V → V → Hp → VK → Prop := fun x y H Q => ∃ (l : Addr) (xs : List V) (k : Nat) (v : V), x = .ref l ∧ y = .int (k : Int) ∧ H l = some (.lst xs) ∧ xs[k]? = some v ∧ Q v H
omit [Iv] in
theorem pget_list : PGet X rGetN := by
  intro pins s σ H x y v u Q I rx ry ⟨l, xs, k, z, e1, e2, hl, hk, q⟩
  subst e1 e2
  cases rx
  obtain ⟨t, rfl⟩ := ry
  obtain ⟨its, r, pl, hz⟩ := I.list (.of hl)
  obtain ⟨w, ew, rw'⟩ := r.get hk
  have hn := line63
  obtain ⟨hlt, _⟩ := List.getElem?_eq_some_iff.mp hk
  have hle := r.length
  exact wpAny_getItem_list pl.isList (by omega) (by omega) (by show its.toArray[((k : Int)).toNat]? = some w; rw [Int.toNat_natCast]; simpa using ew) ⟨z, H, I, rw', q⟩
/-- x[k] += e, x an own list of numbers -/
theorem rs_laddI (a : At F B0 H0 Bg Γ W σ B H) (ho : EvE X Γ o (tV (.ref l))) (hi : EvE X Γ ix (tI (j : Int))) (he : EvE X Γ e (tI m)) (hW : W.Perm ((l, oL ts) :: W')) (hj : ts[j]? = some (tI n))
    (k : ∀ B' H', Same B B' → At F B0 H0 Bg Γ ((l, oL (ts.set j (tI (n + m)))) :: W') σ B' H' → RS X rest D σ H')
    (ha : ∀ ov iv new, augStore ix ov iv new = (do holding [new, ov, iv] (setItem ov iv new); release [new, ov, iv] []; pure .next) := by intros; rfl) :
    RS X (.AugAssign (.Subscript o ix p1) .Add e pos :: rest) D σ H :=
  rs_ps (ps_augS pe_c pe_c pget_list pe_c ip_add set_list ha) (ho σ B H a.s a.n.bh _ fun w B1 H1 n1 r1 => hi σ B1 H1 (a.s.mono n1.bb) n1.bh _ fun z B2 H2 n2 r2 => by
    have r1 : w = .ref l := r1
    have r2 : z = .int (j : Int) := r2
    subst r1 r2
    have a2 := (a.step (n1.trans n2)).perm hW
    obtain ⟨_, _, ob, h3, vs, e3, r3⟩ := a2.cell
    subst e3
    obtain ⟨u, hu, ru⟩ := r3.get hj
    have ru : u = .int n := ru
    subst ru
    refine ⟨l, vs, j, .int n, rfl, rfl, h3, hu, he σ B2 H2 a2.s a2.n.bh _ fun y B3 H3 n3 r4 => ?_⟩
    have a3 := a2.step n3
    obtain ⟨_, _, ob, h4, vs', e4, r5⟩ := a3.cell
    subst e4
    have hlt := (List.getElem?_eq_some_iff.mp hj).1
    refine ⟨n, m, rfl, r4, l, vs', (j : Int), j, rfl, rfl, h4, ?_, k B3 _ ((n1.trans n2).trans n3).bb (a3.wr (ot' := oL (ts.set j (tI (n + m)))) ⟨_, rfl, r5.upd rfl j⟩)⟩
    unfold ixN
    have := r5.length
    rw [if_pos (by omega), if_pos (by omega)]
    rfl)
end
end Ls
set_option maxHeartbeats 1000000 -- Ub
/-! the bag: taking -/
namespace Ls
open PySem Spec PyProof.Rows L2
structure Bg where
  a : Nat
  b : Nat
  c : Nat
  ls : List Nat
structure Bg.Ok (b : Bg) : Prop where
  b1 : b.b < 2147483647
  ln : b.ls.length ≤ 63
section
variable [J : Iv] {P : Program} {w : World} {K : PySem.W.Frag} {mg : Str → Option Value} {base : Heap}
theorem evs_pure {X : Cx} {F : Addr → Prop} {B0 H0 Bg : Hp} {Γ Γs : Ctx} {W : Cells} {σ : L2.St} {B H : Hp} {e : Expr} {t : Ty} (a : At F B0 H0 Bg Γ W σ B H) (s : SOk Γs (fz W B H) σ) (h : @EvE Jb X Γs e t) (cl : ∀ B', Same (fz W B H) B' → Cl W B B' t) : EvS X F B0 H0 Bg Γ W σ B H e t := fun _ q => ev_pure a s h cl q
def oBg (b : Bg) : OT := oL [nT b.a, nT b.b, nT b.c, tNs b.ls]
def sp_take : Sp := fun vs H Q _ => ∃ (g : Addr) (b : Bg) (m : Nat) (B : Hp), Sm B H ∧ (b.Ok ∧ 1 ≤ m ∧ m ≤ 1000) ∧ vs = [.ref g, nI m] ∧ (B g = none ∧ ¬ J.F H g ∧ ∃ o, H g = some o ∧ (oBg b).p B o) ∧
  ∀ B' H' b' r, Nw (fun a => a = g) B H B' H' → b'.Ok → (B' g = none ∧ ¬ J.F H' g ∧ ∃ o, H' g = some o ∧ (oBg b').p B' o) → r < m → Q (nI r) H'
theorem sc__law_take : FnScope ["_law_bag_here", "_law_many", "_law_cell", "_law_mixed_here", "_law_drawn", "_law_begin", "_law_second"] ["_law_bag_here", "_law_many"] (defScope s__law_take) := ⟨rfl, rfl, rfl, by decide +kernel, rfl, by decide +kernel, by decide +kernel⟩
theorem ok_take (T : Top K mg) : ∃ fd, FunD K d__law_take.name d__law_take.qual d__law_take.params d__law_take.body d__law_take.scope (d__law_take.dvs K) (d__law_take.kws K) (He.fAd K d__law_take.at_) fd ∧ FnOk P w K mg base CX0 1 (He.fAd K d__law_take.at_) fd ["_law_bag_here", "_law_many"] sp_take := by
  obtain ⟨fd, Fd⟩ := T.f__law_take
  refine ⟨fd, Fd, ?_⟩
  have nd := sc__law_take.nd
  obtain ⟨_, _, _, _, _, _, _, cdv, _, _, rfl, lk, hcd, _⟩ := Fd.ex
  refine fn_of lk hcd sc__law_take (fun vs H Q E ⟨_, _, _, _, _, _, e, _⟩ => by rw [e]; rfl) fun A outer s H0 vs Q E hr ⟨g, b, m, B0, bh, ⟨hb, hm1, hm2⟩, e, ⟨bg, fg, og⟩, q⟩ => ?_
  subst e
  have rr : Tys B0 [tV (.ref g), nT m] [.ref g, nI m] := .cons rfl (.cons rfl .nil)
  suffices main : ∀ (σ : L2.St) (D : Ends), At (fun a => a = g) B0 H0 B0 [some (tV (.ref g)), some (nT m), none, none, none, none, none] [(g, oBg b)] σ B0 H0 →
      (∀ (B' H' : Hp) (b' : Bg) (r : Nat) (Γ' : Ctx) (σ' : L2.St) (Bg' : Hp), At (fun a => a = g) B0 H0 Bg' Γ' [(g, oBg b')] σ' B' H' → b'.Ok → r < m → D.rt (nI r) H') →
      RS (cx0 P w K mg base ["_law_bag_here", "_law_many", "_law_cell", "_law_mixed_here", "_law_drawn", "_law_begin", "_law_second"] d__law_take (He.fAd K d__law_take.at_) cdv A outer s H0 E) d__law_take.body D σ H0 by
    obtain ⟨t, h1, h2⟩ := main (L2.start ["_law_bag_here", "_law_many", "_law_cell", "_law_mixed_here", "_law_drawn", "_law_begin", "_law_second"] [.ref g, nI m]) ⟨fun _ H' => Q .non H', Q, fun _ _ => False, fun _ _ => False⟩
      ⟨sok_start ["_law_bag_here", "_law_many", "_law_cell", "_law_mixed_here", "_law_drawn", "_law_begin", "_law_second"] rr (Nat.le_of_ble_eq_true rfl), .refl bh, Same.refl B0, ⟨fun z hz => (by
        rcases List.mem_cons.mp hz with e | hz
        · rw [e]; exact ⟨.inl rfl, ⟨bg, fg⟩, og⟩
        · cases hz), List.nodup_cons.mpr ⟨fun z => (nomatch z), List.nodup_nil⟩⟩⟩ fun B' H' b' r Γ' σ' Bg' a' hb' hr' => by
        obtain ⟨_, c2, c3⟩ := a'.o.each _ List.mem_cons_self
        exact q B' H' b' r a'.n hb' ⟨c2.1, c2.2, c3⟩ hr'
    exact ⟨t, h1.nox, h2⟩
  intro σ D a k
  have hsf : ∀ {σ : L2.St} {B H : Hp} {b : Bg} {o2 o3 o4 o5 o6 : Option Ty} {Bg' : Hp}, At (fun a => a = g) B0 H0 Bg' [some (tV (.ref g)), some (nT m), o2, o3, o4, o5, o6] [(g, oBg b)] σ B H → SOk [some (tL [nT b.a, nT b.b, nT b.c, tNs b.ls]), some (nT m), o2, o3, o4, o5, o6] (fz [(g, oBg b)] B H) σ := fun a => a.rdL (i := 0) List.mem_cons_self rfl
  -- the second part
  suffices second : ∀ (σ : L2.St) (B H : Hp) (b : Bg) (o2 o3 : Option Ty) (Bg' : Hp), b.Ok → At (fun a => a = g) B0 H0 Bg' [some (tV (.ref g)), some (nT m), o2, o3, none, none, none] [(g, oBg b)] σ B H → RS _ _ D σ H by
    refine rs_ifS (b := decide (V.int (b.a : Int) = V.int 0)) a (hsf a) (letI : Iv := Jb; et_cmp op_eq (ev_sub ix_list (ev_name (i := 0) rfl (.inl rfl) rfl) ev_int (bin_ixLi (j := 0) rfl rfl)) ev_int (bin_eq rfl) (nomark _)) (fun hb0 B H s1 a => ?_) fun hb0 B H s1 a => rs_nil (second σ B H b _ _ _ hb a)
    refine rs_set (i := 2) a (ev_int (i := 0)) nd rfl (.inl rfl) fun σ B H s1 a => ?_
    -- the cell is known
    suffices third : ∀ (σ : L2.St) (B H : Hp) (c : Nat) (Bg' : Hp), At (fun a => a = g) B0 H0 Bg' [some (tV (.ref g)), some (nT m), some (nT c), none, none, none, none] [(g, oBg b)] σ B H → RS _ _ _ σ H by
      refine rs_ifS (b := decide ((b.c : Int) < ((b.ls.map nT).length : Int))) a (hsf a) (letI : Iv := Jb; et_cmp op_lt (ev_sub ix_list (ev_name (i := 0) rfl (.inl rfl) rfl) ev_int (bin_ixLi (j := 2) rfl rfl)) (ev_callB call_lenS rfl T.b_len bt_len (ea_cons (ev_sub ix_list (ev_name (i := 0) rfl (.inl rfl) rfl) ev_int (bin_ixLi (j := 3) (t := tL (b.ls.map nT)) rfl rfl)) ea_nil) cb_lenL) bin_I0 (nomark _)) (fun hb1 B H s1 a => ?_) fun hb1 B H s1 a => rs_nil (third σ B H 0 _ a)
      have hlt := of_decide_eq_true hb1
      rw [List.length_map] at hlt
      have hlt : b.c < b.ls.length := by omega
      refine rs_setS (i := 2) (t := nT b.ls[b.c]) a (evs_pure a (hsf a) (letI : Iv := Jb; ev_sub ix_list (ev_sub ix_list (ev_name (i := 0) rfl (.inl rfl) rfl) ev_int (bin_ixLi (j := 3) (t := tL (b.ls.map nT)) rfl rfl)) (ev_sub ix_list (ev_name (i := 0) rfl (.inl rfl) rfl) ev_int (bin_ixLi (j := 2) (t := nT b.c) rfl rfl)) (bin_ixLi (j := b.c) rfl (by rw [List.getElem?_map, List.getElem?_eq_getElem hlt]; rfl))) (fun _ _ => cl_V)) nd rfl (.inl rfl) fun σ B H s1 a => rs_nil (third σ B H _ _ a)
    intro σ B H c Bg' a
    refine rs_laddI (j := 2) (n := (b.c : Int)) (m := 1) (ts := [nT b.a, nT b.b, nT b.c, tNs b.ls]) a (ev_name (i := 0) rfl (.inl rfl) rfl) ev_int ev_int (.refl _) rfl fun B H s1 a => ?_
    suffices fourth : ∀ (B H : Hp) (x : Nat), At (fun a => a = g) B0 H0 Bg' [some (tV (.ref g)), some (nT m), some (nT c), none, none, none, none] [(g, oBg ⟨x, b.b, b.c + 1, b.ls⟩)] σ B H → RS _ _ _ σ H by
      refine rs_whenN a (EvT.n (et_cmp op_ge (ev_name (i := 2) rfl (.inl rfl) rfl) (ev_bin op_pow ev_int ev_int (bin_I ⟨by decide, by decide, by decide⟩)) bin_I0 (nomark _))) (fun B H s1 a => ?_) fun B H s1 a => fourth B H b.a a
      refine rs_lputS (j := 0) (t := nT c) a (EvE.s a (ev_name (i := 2) rfl (.inl rfl) rfl)) (ev_name (i := 0) rfl (.inl rfl) rfl) ev_int (.refl _) (Nat.le_of_ble_eq_true rfl) fun B H s1 a => rs_nil (fourth B H c a)
    intro B H x a
    have e1 : (b.b : Int) * 48271 + (c : Int) % 2147483647 + 7919 * ((b.c + 1 : Nat) : Int) = ((b.b * 48271 + c % 2147483647 + 7919 * (b.c + 1) : Nat) : Int) := by omega
    generalize b.b * 48271 + c % 2147483647 + 7919 * (b.c + 1) = mm at e1
    refine rs_setS (i := 3) (t := nT mm) a (evs_pure a (hsf a) (letI : Iv := Jb; EvE.is (ev_bin op_add (ev_bin op_add (ev_bin op_mul (ev_sub ix_list (ev_name (i := 0) rfl (.inl rfl) rfl) ev_int (bin_ixLi (j := 1) (t := nT b.b) rfl rfl)) ev_int (bin_I (.inr ⟨by decide, by decide⟩))) (ev_bin op_mod (ev_callTy call_int1 rfl T.b_int bt_int (ea_cons (ev_name (i := 2) rfl (.inl rfl) rfl) ea_nil) cb_int) ev_int (bin_I (by decide))) bin_I0) (ev_bin op_mul ev_int (ev_sub ix_list (ev_name (i := 0) rfl (.inl rfl) rfl) ev_int (bin_ixLi (j := 2) (t := nT (b.c + 1)) rfl rfl)) (bin_I (.inl ⟨by decide, by decide⟩))) bin_I0) (congrArg tI e1)) (fun _ _ => cl_V)) nd rfl (.inl rfl) fun σ B H s1 a => ?_
    refine rs_lputS (j := 1) (t := nT (mm % 2147483647)) a (EvE.s a (EvE.is (ev_bin op_mod (ev_callTy call_int1 rfl T.b_int bt_int (ea_cons (ev_name (i := 3) rfl (.inl rfl) rfl) ea_nil) cb_int) ev_int (bin_I (by decide))) (congrArg tI (show (mm : Int) % 2147483647 = ((mm % 2147483647 : Nat) : Int) by omega)))) (ev_name (i := 0) rfl (.inl rfl) rfl) ev_int (.refl _) (Nat.le_of_ble_eq_true rfl) fun B H s1 a => rs_nil (second σ B H ⟨x, mm % 2147483647, b.c + 1, b.ls⟩ _ _ _ ⟨Nat.mod_lt _ (by decide), hb.ln⟩ a)
  intro σ B H b o2 o3 Bg' hb a
  refine rs_ifS (b := decide (0 < (b.a : Int))) a (hsf a) (letI : Iv := Jb; et_cmp op_gt (ev_sub ix_list (ev_name (i := 0) rfl (.inl rfl) rfl) ev_int (bin_ixLi (j := 0) (t := nT b.a) rfl rfl)) ev_int bin_I0 (nomark _)) (fun hb0 B H s1 a => ?_) fun hb0 B H s1 a => ?_
  · refine rs_setS (i := 4) (t := nT (b.a % m)) a (evs_pure a (hsf a) (letI : Iv := Jb; EvE.is (ev_bin op_mod (ev_callTy call_int1 rfl T.b_int bt_int (ea_cons (ev_sub ix_list (ev_name (i := 0) rfl (.inl rfl) rfl) ev_int (bin_ixLi (j := 0) (t := nT b.a) rfl rfl)) ea_nil) cb_int) (ev_name (i := 1) rfl (.inl rfl) rfl) (bin_I (by omega))) rfl) (fun _ _ => cl_V)) nd rfl (.inl rfl) fun σ B H s1 a => ?_
    refine rs_lputS (j := 0) (t := nT (b.a / m)) a (evs_pure a (hsf a) (letI : Iv := Jb; EvE.is (ev_bin op_fdiv (ev_sub ix_list (ev_name (i := 0) rfl (.inl rfl) rfl) ev_int (bin_ixLi (j := 0) (t := nT b.a) rfl rfl)) (ev_name (i := 1) rfl (.inl rfl) rfl) (bin_I ⟨by omega, by omega⟩)) rfl) (fun _ _ => cl_V)) (ev_name (i := 0) rfl (.inl rfl) rfl) ev_int (.refl _) (Nat.le_of_ble_eq_true rfl) fun B H s1 a => ?_
    refine rs_ret a (ev_name (i := 4) rfl (.inl rfl) rfl) fun v B' H' _ a' r => ?_
    have r : v = nI (b.a % m) := r
    subst r
    exact k B' H' ⟨b.a / m, b.b, b.c, b.ls⟩ _ _ _ _ a' ⟨hb.b1, hb.ln⟩ (Nat.mod_lt _ (by omega))
  · refine rs_nil ?_
    refine rs_setS (i := 5) (t := nT ((b.b + 1) * 39373 % 1000000007)) a (evs_pure a (hsf a) (letI : Iv := Jb; EvE.is (ev_bin op_mod (ev_callTy call_int1 rfl T.b_int bt_int (ea_cons (ev_bin op_mul (ev_bin op_add (ev_sub ix_list (ev_name (i := 0) rfl (.inl rfl) rfl) ev_int (bin_ixLi (j := 1) (t := nT b.b) rfl rfl)) ev_int bin_I0) ev_int (bin_I (.inr ⟨by decide, by decide⟩))) ea_nil) cb_int) ev_int (bin_I (by decide))) (congrArg tI (by omega))) (fun _ _ => cl_V)) nd rfl (.inl rfl) fun σ B H s1 a => ?_
    have hx : (b.b + 1) * 39373 % 1000000007 < 1000000007 := Nat.mod_lt _ (by decide)
    generalize (b.b + 1) * 39373 % 1000000007 = x at a hx
    refine rs_set (i := 6) (t := nT (x * x % 998244353 * 30011 % 998244353)) a (EvE.is (ev_bin op_mod (ev_callTy call_int1 rfl T.b_int bt_int (ea_cons (ev_bin op_mul (ev_bin op_mod (ev_callTy call_int1 rfl T.b_int bt_int (ea_cons (ev_bin op_mul (ev_name (i := 5) rfl (.inl rfl) rfl) (ev_name (i := 5) rfl (.inl rfl) rfl) (bin_I (.inr ⟨by omega, by omega⟩))) ea_nil) cb_int) ev_int (bin_I (by decide))) ev_int (bin_I (.inr ⟨by decide, by decide⟩))) ea_nil) cb_int) ev_int (bin_I (by decide))) (congrArg tI (by rw [Int.natCast_emod, Int.natCast_mul, Int.natCast_emod, Int.natCast_mul]; rfl))) nd rfl (.inl rfl) fun σ B H s1 a => ?_
    generalize x * x % 998244353 * 30011 % 998244353 = y at a
    refine rs_ret (t := nT (y / 7 % m)) a (EvE.is (ev_bin op_mod (ev_callTy call_int1 rfl T.b_int bt_int (ea_cons (ev_bin op_fdiv (ev_name (i := 6) rfl (.inl rfl) rfl) ev_int (bin_I ⟨by decide, by decide⟩)) ea_nil) cb_int) (ev_name (i := 1) rfl (.inl rfl) rfl) (bin_I (by omega))) rfl) fun v B' H' _ a' r => ?_
    have r : v = nI (y / 7 % m) := r
    subst r
    exact k B' H' b _ _ _ _ a' hb (Nat.mod_lt _ (by omega))
end
end Ls
set_option maxHeartbeats 1000000 -- Uc
/-! the bag as an invariant; what is drawn -/
namespace Ls
open PySem Spec PyProof.Rows L2
section
variable [J : Iv] {P : Program} {w : World} {K : PySem.W.Frag} {mg : Str → Option Value} {base : Heap}
def BgAt (g : Addr) (b : Bg) (B H : Hp) : Prop := B g = none ∧ ¬ J.F H g ∧ ∃ o, H g = some o ∧ (oBg b).p B o
@[reducible] def Jg (g : Addr) : Iv where
  F := fun H a => J.F H a ∨ a = g
  I := fun B H => J.I B H ∧ ∃ b : Bg, b.Ok ∧ BgAt g b B H
  al := fun {B H a} ⟨i, b, hb, h1, h2, o, h3, h4⟩ h => by
    rcases h with h | h
    · exact J.al i h
    · rw [h]; exact ⟨h1, o, h3⟩
  st := fun {B H B' H'} ⟨i, b, hb, k1, k2, o, k3, k4⟩ b1 b2 h1 h2 => ⟨J.st i b1 b2 (fun a z => h1 a (.inl z)) (fun a z => h2 a (.inl z)), b, hb, h2 g (.inr rfl), fun z => k2 (J.fs i (fun a z => h1 a (.inl z)) g z), o, by rw [h1 g (.inr rfl)]; exact k3, (oBg b).mono b1 k4⟩
  fs := fun {B H H'} ⟨i, _⟩ h1 a h => by
    rcases h with h | h
    · exact .inl (J.fs i (fun a z => h1 a (.inl z)) a h)
    · exact .inr h
variable {g : Addr}
instance stJg [S : St] : @St (Jg g) := @St.mk (Jg g) fun H H' a h => by
  rcases h with h | h
  · exact .inl (S.st H H' a h)
  · exact .inr h
theorem sm_jg {B H : Hp} {b : Bg} (bh : Sm B H) (hb : b.Ok) (k : BgAt g b B H) : @Sm (Jg g) B H := @Sm.mk (Jg g) B H bh.s ⟨bh.i, b, hb, k⟩
theorem jg_nw [S : St] {B H B' H' : Hp} (n : @Nw (Jg g) nF B H B' H') : Nw (fun a => a = g) B H B' H' :=
  ⟨@Nw.bb (Jg g) _ _ _ _ _ n, ⟨@Sm.s (Jg g) _ _ (@Nw.bh (Jg g) _ _ _ _ _ n), (@Sm.i (Jg g) _ _ (@Nw.bh (Jg g) _ _ _ _ _ n)).1⟩, fun a o hf hi e => @Nw.hh (Jg g) _ _ _ _ _ n a o (fun z => z) (fun z => by
    rcases z with z | z
    · exact hi z
    · exact hf z) e, fun a o h _ z => h (St.st _ _ _ z), @Nw.th (Jg g) _ _ _ _ _ n, @Nw.fr (Jg g) _ _ _ _ _ n⟩
theorem nw_jg {B H B' H' : Hp} {b' : Bg} (n : Nw (fun a => a = g) B H B' H') (hb : b'.Ok) (k : BgAt g b' B' H') : @Nw (Jg g) nF B H B' H' :=
  @Nw.mk (Jg g) nF B H B' H' n.bb (sm_jg n.bh hb k) (fun a o _ h e => n.hh a o (fun z => h (.inr z)) (fun z => h (.inl z)) e) (fun a o h e z => by
    rcases z with z | z
    · exact n.nf a o (fun y => h (.inl y)) e z
    · exact h (.inr z)) n.th n.fr
/-- what _law_take promises while the bag is an invariant -/
def Tk [J : Iv] (P : Program) (w : World) (K : PySem.W.Frag) (mg : Str → Option Value) (base : Heap) (g : Addr) : Prop :=
  Cal P w K mg base "_law_take" 1 (spF (α := Nat) (fun m => [tV (.ref g), nT m]) (fun m => 1 ≤ m ∧ m ≤ 1000) (fun m => tE (fun r => r < m) nT))
theorem tk_jg (T : Top K mg) (g : Addr) : @Tk (Jg g) P w K mg base g := by
  obtain ⟨fd, Fd, F⟩ := ok_take (P := P) (w := w) (base := base) T
  refine ⟨_, fd, ["_law_bag_here", "_law_many"], T.g__law_take, Fd.kp, Fd.bindsN (fun _ _ _ _ _ _ us hl => match us, hl with | [_, _], _ => rfl), F.imp fun vs H Q E ⟨m, B, bh, hm, r, q⟩ => ?_⟩
  obtain ⟨i, b, hb, k⟩ := @Sm.i (Jg g) _ _ bh
  cases r with
  | cons r1 r =>
    cases r with
    | cons r2 r =>
      cases r
      have r1 : _ = V.ref g := r1
      have r2 : _ = nI m := r2
      subst r1 r2
      exact ⟨g, b, m, B, ⟨@Sm.s (Jg g) _ _ bh, i⟩, ⟨hb, hm⟩, rfl, k, fun B' H' b' r n hb' k' hr => q _ B' H' (nw_jg n hb' k') ⟨r, hr, rfl⟩⟩
/-! ### calls with nothing -/
theorem ev_call0 {X : Cx} {Γ : Ctx} {x : Str} {p pos : Pos} {k : Nat} {t : Ty} {α : Type} {pre : α → Prop} {res : α → Ty} (C : Cal X.prog X.w X.K X.mg X.base x k (spF (fun _ => []) pre res)) {d : α} (hr : Room k X.A) (hg : Gl X x) (hp : pre d) (ht : res d = t := by rfl) (hdb : (x == ("__debug__" : Str)) = false := by decide) :
    EvE X Γ (.Call (.Name x p) [] [] pos) t := fun σ B H s bh Q q => by
  obtain ⟨f, fd, ps, hm, hk, hb, F⟩ := C.ex
  subst ht
  exact ⟨_, pe_call0 F hr hg hm hk hb .nil pass0 hdb, d, B, bh, hp, .nil, fun v B2 H2 n2 r2 => q v B2 H2 n2 r2⟩
theorem sc__law_one : FnScope ["_law_bag_here", "_law_things"] ["_law_bag_here", "_law_things"] (defScope s__law_one) := ⟨rfl, rfl, rfl, by decide +kernel, rfl, by decide +kernel, by decide +kernel⟩
def sp_one {α : Type} (g : Addr) (τ : α → Ty) : Sp := spF (α := List α) (fun xs => [tV (.ref g), tL (xs.map τ)]) (fun xs => xs ≠ [] ∧ xs.length ≤ 1000) (fun xs => tE (fun x => x ∈ xs) τ)
theorem ok_one (T : Top K mg) : ∃ fd, FunD K d__law_one.name d__law_one.qual d__law_one.params d__law_one.body d__law_one.scope (d__law_one.dvs K) (d__law_one.kws K) (He.fAd K d__law_one.at_) fd ∧ ∀ {α : Type} (g : Addr) (τ : α → Ty), Tk P w K mg base g → FnOk P w K mg base CX0 2 (He.fAd K d__law_one.at_) fd ["_law_bag_here", "_law_things"] (sp_one g τ) := by
  obtain ⟨fd, Fd⟩ := T.f__law_one
  refine ⟨fd, Fd, fun g τ tk => ok_F Fd sc__law_one (fun _ => rfl) (by decide) fun cdv cd A outer s H0 E xs B0 σ D hr hp a k hn => ?_⟩
  have tk : Cal P w K mg base "_law_take" 1 (spF (α := Nat) (fun m => [tV (.ref g), nT m]) (fun m => 1 ≤ m ∧ m ≤ 1000) (fun m => tE (fun r => r < m) nT)) := tk
  have hl : 1 ≤ xs.length := List.length_pos_iff.mpr hp.1
  have hl2 : xs.length ≤ 1000 := hp.2
  exact rs_ret a (ev_sub ix_list (ev_name (i := 1) rfl (.inl rfl) rfl) (ev_call tk hr rfl (d := xs.length) (ea_cons (ev_name (i := 0) rfl (.inl rfl) rfl) (ea_cons (EvE.is (ev_callB call_lenS rfl T.b_len bt_len (ea_cons (ev_name (i := 1) (t := tL (xs.map τ)) rfl (.inl rfl) rfl) ea_nil) cb_lenL) (t2 := nT xs.length) (by rw [List.length_map])) ea_nil)) ⟨hl, hl2⟩) (Bin.e2 (t3 := tE (fun x => x ∈ xs) τ) fun r hr => Bin.exi (f := τ) (x := xs[r]) (bin_ixLi (j := r) rfl (by rw [List.getElem?_map, List.getElem?_eq_getElem hr]; rfl)) (List.getElem_mem hr))) fun v B' H' _ a' r => k v B' H' a'.n r
theorem c_one {α : Type} (T : Top K mg) {g : Addr} (tk : Tk P w K mg base g) (τ : α → Ty) : Cal P w K mg base "_law_one" 2 (sp_one g τ) := by
  obtain ⟨fd, Fd, ok⟩ := ok_one (P := P) (w := w) (base := base) T
  exact ⟨_, fd, _, T.g__law_one, Fd.kp, Fd.bindsN (fun _ _ _ _ _ _ us hl => match us, hl with | [_, _], _ => rfl), ok g τ tk⟩
theorem sc__law_ends : FnScope [] [] (defScope s__law_ends) := ⟨rfl, rfl, rfl, by decide +kernel, rfl, by decide +kernel, by decide +kernel⟩
def En3 : List En := [.P, .S, .W]
def tEn (e : En) : Ty := tS e.s
theorem c_ends (T : Top K mg) : Cal P w K mg base "_law_ends" 1 (spF (α := Unit) (fun _ => []) (fun _ => True) (fun _ => tL (En3.map tEn))) := by
  refine cal_F T.f__law_ends T.g__law_ends sc__law_ends (fun _ _ _ _ _ _ us hl => match us, hl with | [], _ => rfl) (fun _ => rfl) (by decide) fun f cdv cd A outer s H0 E d B0 σ D hr hp a k hn => ?_
  exact rs_ret a (ev_lst (ea_cons ev_str (ea_cons ev_str (ea_cons ev_str ea_nil)))) fun v B' H' _ a' r => k v B' H' a'.n r
theorem sc__law_end : FnScope ["_law_bag_here"] ["_law_bag_here"] (defScope s__law_end) := ⟨rfl, rfl, rfl, by decide +kernel, rfl, by decide +kernel, by decide +kernel⟩
theorem c_end (T : Top K mg) {g : Addr} (tk : Tk P w K mg base g) : Cal P w K mg base "_law_end" 3 (spF (α := Unit) (fun _ => [tV (.ref g)]) (fun _ => True) (fun _ => tE (fun _ => True) tEn)) := by
  have C1 := c_one T tk tEn
  have C2 := c_ends (P := P) (w := w) (base := base) T
  refine cal_F T.f__law_end T.g__law_end sc__law_end (fun _ _ _ _ _ _ us hl => match us, hl with | [_], _ => rfl) (fun _ => rfl) (by decide) fun f cdv cd A outer s H0 E d B0 σ D hr hp a k hn => ?_
  exact rs_ret a (EvE.wid (ev_call C1 (hr.mono (by decide)) rfl (d := En3) (ea_cons (ev_name (i := 0) rfl (.inl rfl) rfl) (ea_cons (ev_call0 C2 (hr.mono (by decide)) rfl (d := ()) trivial) ea_nil)) ⟨by decide, by decide⟩) (q := fun _ => True) fun _ _ => trivial) fun v B' H' _ a' r => k v B' H' a'.n r
end
end Ls
set_option maxHeartbeats 1000000 -- Ud
/-! lengths, sizes, stretches, an order -/
namespace Ls
open PySem Spec PyProof.Rows L2
theorem asc_sub5 {ys : List Nat} (h : ys.Sublist [1, 2, 3, 4, 5]) : Asc ys :=
  ⟨List.Pairwise.sublist h (by decide), fun x hx => by
    have h1 := h.subset hx
    have h2 : ∀ x ∈ [1, 2, 3, 4, 5], 1 ≤ x ∧ x ≤ 5 := by decide
    exact h2 x h1⟩
theorem asc_one {x : Nat} (h1 : 1 ≤ x) (h2 : x ≤ 5) : Asc [x] := ⟨List.pairwise_singleton .., fun y hy => by
  rw [List.mem_singleton.mp hy]
  exact ⟨h1, h2⟩⟩
section
variable [J : Iv] {P : Program} {w : World} {K : PySem.W.Frag} {mg : Str → Option Value} {base : Heap} {g : Addr}
theorem rg5 : rgTys 1 ((6 : Int) - 1).toNat = [1, 2, 3, 4, 5].map nT := rfl
def tAl : Ty := tE Asc tNs
def tAs : Ty := tE (fun xs => Asc xs ∧ xs ≠ []) tNs
section
variable {X : Cx} {F : Addr → Prop} {B0 H0 Bg : Hp} {Γ : Ctx} {W : Cells} {σ : L2.St} {B H : Hp} {e e1 e2 a b : Expr} {t t1 t2 : Ty} {pos p : Pos} {x : Str} {k : Nat}
/-- a list of numbers of which something is known, or else .. -/
theorem ev_orE {pr : List Nat → Prop} {q : List Nat → Prop} (ha : EvE X Γ a (tE pr tNs)) (hb : EvE X Γ b (tE q tNs)) (h : ∀ ys, pr ys → ys ≠ [] → q ys) : EvE X Γ (.BoolOp .Or [a, b] pos) (tE q tNs) := fun σ B H s bh Q k =>
  ⟨_, pe_orT pe_c (pe_one pe_c), ha σ B H s bh _ fun v B1 H1 n1 ⟨ys, hy, l, vs, e, h1, r⟩ => by
    subst e
    refine ⟨!vs.isEmpty, .inl ⟨vs, .of (n1.bh _ _ h1), rfl⟩, ?_⟩
    cases hv : vs with
    | nil =>
      rw [if_neg (by decide)]
      exact hb σ B1 H1 (s.mono n1.bb) n1.bh Q fun w B2 H2 n2 r2 => k w B2 H2 (n1.trans n2) r2
    | cons u r' =>
      rw [if_pos (show (!(u :: r').isEmpty) = true from rfl)]
      refine k _ B1 H1 n1 ⟨ys, h ys hy fun e => ?_, l, vs, rfl, h1, r⟩
      rw [e, hv] at r
      cases r⟩
/-- a call with two arguments, the second read from what may change -/
theorem evs_call2 {α : Type} {args : α → List Ty} {pre : α → Prop} {res : α → Ty} (a : At F B0 H0 Bg Γ W σ B H) (C : Cal X.prog X.w X.K X.mg X.base x k (spF args pre res)) {d : α} (hr : Room k X.A) (hg : Gl X x) (h1 : EvE X Γ e1 t1) (h2 : ∀ B' H', At F B0 H0 Bg Γ W σ B' H' → EvS X F B0 H0 Bg Γ W σ B' H' e2 t2) (hp : pre d) (hts : args d = [t1, t2]) (ht : res d = t)
    (hdb : (x == ("__debug__" : Str)) = false := by decide) (s1 : starEach [e1, e2] X.env = (false, eval e1 X.env) :: starEach [e2] X.env := by rfl) (s2 : starEach [e2] X.env = (false, eval e2 X.env) :: starEach [] X.env := by rfl) (hpl : (backTo pos (starEach [e2] X.env)).any (·.1) = false := by rfl) :
    EvS X F B0 H0 Bg Γ W σ B H (.Call (.Name x p) [e1, e2] [] pos) t := fun Q q => by
  obtain ⟨f, fd, ps, hm, hk, hb, Fn⟩ := C.ex
  subst ht
  refine ⟨_, pe_call Fn hr hg hm hk hb .nil pass0 (pa_cons pe_c (pa_cons pe_c pa_nil s2) s1) hdb s1 hpl, h1 σ B H a.s a.n.bh _ fun v1 B1 H1 n1 r1 => h2 B1 H1 (a.step n1) _ fun v2 B2 H2 n2 a2 r2 => ?_⟩
  exact ⟨d, B2, n2.bh, hp, by rw [hts]; exact .cons (t1.mono n2.bb r1) (.cons r2 .nil), fun v B3 H3 n3 r3 => q v B3 H3 ((n1.trans n2).trans n3) (a2.step n3) r3⟩
/-- x.insert(k, y), x an own list -/
theorem rs_insertS {l : Addr} {ts : List Ty} {W' : Cells} {rest : List Stmt} {D : Ends} {c : Expr} {p1 apos : Pos} (a : At F B0 H0 Bg Γ W σ B H) (hi : EvE X Γ c (tV (.ref l))) (hW : W.Perm ((l, oL ts) :: W')) (h1 : ∀ B' H', At F B0 H0 Bg Γ W σ B' H' → EvS X F B0 H0 Bg Γ W σ B' H' e1 (tE (fun r => r < ts.length + 1) nT)) (h2 : EvE X Γ e2 t) (hl : ts.length < 100000)
    (k : ∀ r B' H', r < ts.length + 1 → Same B B' → At F B0 H0 Bg Γ ((l, oL (ts.take r ++ [t] ++ ts.drop r)) :: W') σ B' H' → RS X rest D σ H')
    (hm : PE X (.Call (.Attribute c "insert" apos) [e1, e2] [] p1) (tBM X.K "list" (fun x vs H Q => ∃ (l : Addr) (xs : List V) (i : Int) (y : V), x = .ref l ∧ vs = [.int i, y] ∧ H l = some (.lst xs) ∧ xs.length < sizeLine ∧ 0 ≤ i ∧ i < 2 ^ 63 ∧ Q .non (upd H l (.lst (xs.take i.toNat ++ [y] ++ xs.drop i.toNat)))) (RE X c) (tCons (RE X e1) (tCons (RE X e2) tNil))))
    (hs : swapsWith (.Call (.Attribute c "insert" apos) [e1, e2] [] p1) none pos.line X.env = pure false := by rfl) : RS X (.Expr (.Call (.Attribute c "insert" apos) [e1, e2] [] p1) pos :: rest) D σ H :=
  rs_ps (ps_expr hm hs) (hi σ B H a.s a.n.bh _ fun v B1 H1 n1 r1 => by
    have e1 : v = .ref l := r1
    subst e1
    have a0 := a.step n1
    have a1 := a0.perm hW
    obtain ⟨_, _, o, h3, vs, e3, _⟩ := a1.cell
    subst e3
    refine ⟨.inl ⟨rfl, vs, .of h3⟩, h1 B1 H1 a0 _ fun u B2 H2 n2 a2 ⟨r, hr, er⟩ => h2 σ B2 H2 a2.s a2.n.bh _ fun y B3 H3 n3 r3 => ?_⟩
    have er : u = nI r := er
    subst er
    have a3 := (a2.step n3).perm hW
    obtain ⟨_, _, o, h4, vs, e4, r4⟩ := a3.cell
    subst e4
    refine ⟨l, vs, (r : Int), y, rfl, rfl, h4, by rw [r4.length]; exact lt5 hl, by omega, by omega, ?_⟩
    rw [Int.toNat_natCast]
    exact k r B3 _ hr ((n1.trans n2).trans n3).bb (a3.wr (ot' := oL (ts.take r ++ [t] ++ ts.drop r)) ⟨_, rfl, ((r4.take r).append (.one r3)).append (r4.drop r)⟩))
end
theorem sc__law_lengths : FnScope ["_law_bag_here", "_law_way", "_law_k"] ["_law_bag_here"] (defScope s__law_lengths) := ⟨rfl, rfl, rfl, by decide +kernel, rfl, by decide +kernel, by decide +kernel⟩
theorem c_lengths (T : Top K mg) (tk : Tk P w K mg base g) : Cal P w K mg base "_law_lengths" 2 (spF (α := Unit) (fun _ => [tV (.ref g)]) (fun _ => True) (fun _ => tAl)) := by
  have nd := sc__law_lengths.nd
  unfold Tk at tk
  refine cal_F T.f__law_lengths T.g__law_lengths sc__law_lengths (fun _ _ _ _ _ _ us hl => match us, hl with | [_], _ => rfl) (fun _ => rfl) (by decide) fun f cdv cd A outer s H0 E d B0 σ D hr hp a k hn => ?_
  refine rs_set (i := 1) a (ev_call tk hr rfl (d := 6) (ea_cons (ev_name (i := 0) rfl (.inr (.inl rfl)) rfl) (ea_cons ev_int ea_nil)) ⟨by decide, by decide⟩) nd rfl (.inl rfl) fun σ B H s1 a => ?_
  obtain ⟨way, hw, a⟩ := a.openE 1 rfl
  refine rs_when a (et_cmp op_lt (ev_name (i := 1) rfl (.inl rfl) rfl) ev_int bin_I0 (nomark _)) (fun hb B H s1 a => ?_) fun hb B H s1 a => ?_
  · have h3 : way < 3 := by have := of_decide_eq_true hb; omega
    have hT : ∀ way, way < 3 → ∃ xs, ([[], [1], [1, 2]] : List (List Nat))[way]? = some xs ∧ Asc xs := fun way h => match way, h with
      | 0, _ => ⟨[], rfl, List.Pairwise.nil, fun x hx => nomatch hx⟩
      | 1, _ => ⟨[1], rfl, asc_sub5 (by decide)⟩
      | 2, _ => ⟨[1, 2], rfl, asc_sub5 (by decide)⟩
    obtain ⟨xs, hx, hA⟩ := hT way h3
    refine rs_ret (t := tAl) a (ev_sub ix_list (ev_lst (ts := ([[], [1], [1, 2]] : List (List Nat)).map tNs) (ea_cons (ev_lst ea_nil) (ea_cons (ev_lst (ea_cons ev_int ea_nil)) (ea_cons (ev_lst (ea_cons ev_int (ea_cons ev_int ea_nil))) ea_nil)))) (ev_name (i := 1) rfl (.inl rfl) rfl) (Bin.exi (f := tNs) (x := xs) (bin_ixLi (j := way) rfl (by rw [List.getElem?_map, hx]; rfl)) hA)) fun v B' H' _ a' r => k v B' H' a'.n r
  · refine rs_ret (t := tAl) a (EvE.ex (ev_lcN (own := [("_law_k", 2)]) (xs := [1, 2, 3, 4, 5]) (τ := nT) (g := nT) rfl nd (blkOk_by (N := ["_law_bag_here", "_law_way", "_law_k"]) (sc := defScope s__law_lengths) (by decide +kernel)) (EvI.is (ei_rng2 rfl T.b_range ev_int ev_int (by decide)) rg5) (by decide) (by decide) (fun _ _ _ _ _ _ _ => (tg_name (i := 2) nd rfl (.inl rfl)))
      (fun _ _ _ _ _ _ _ => (ets_oneN (et_cmpN op_eq (ev_call tk hr rfl (d := 3) (ea_cons (ev_name (i := 0) rfl (.inr (.inl rfl)) rfl) (ea_cons ev_int ea_nil)) ⟨by decide, by decide⟩) ev_int (Bin.e1 fun r _ => Bin.exi (f := tB) (bin_eq rfl) trivial) (nomark _)))) (fun _ _ _ _ _ _ _ => (ev_name (i := 2) rfl (.inl rfl) rfl))) fun B v ⟨ys, hy, r⟩ => ⟨ys, asc_sub5 hy, r⟩) fun v B' H' _ a' r => k v B' H' a'.n r
theorem sc__law_sizes : FnScope ["_law_bag_here", "_law_way", "_law_k"] ["_law_bag_here"] (defScope s__law_sizes) := ⟨rfl, rfl, rfl, by decide +kernel, rfl, by decide +kernel, by decide +kernel⟩
theorem c_sizes (T : Top K mg) (tk : Tk P w K mg base g) : Cal P w K mg base "_law_sizes" 2 (spF (α := Unit) (fun _ => [tV (.ref g)]) (fun _ => True) (fun _ => tAs)) := by
  have nd := sc__law_sizes.nd
  unfold Tk at tk
  refine cal_F T.f__law_sizes T.g__law_sizes sc__law_sizes (fun _ _ _ _ _ _ us hl => match us, hl with | [_], _ => rfl) (fun _ => rfl) (by decide) fun f cdv cd A outer s H0 E d B0 σ D hr hp a k hn => ?_
  refine rs_set (i := 1) a (ev_call tk hr rfl (d := 6) (ea_cons (ev_name (i := 0) rfl (.inr (.inl rfl)) rfl) (ea_cons ev_int ea_nil)) ⟨by decide, by decide⟩) nd rfl (.inl rfl) fun σ B H s1 a => ?_
  obtain ⟨way, hw, a⟩ := a.openE 1 rfl
  refine rs_when a (et_cmp op_lt (ev_name (i := 1) rfl (.inl rfl) rfl) ev_int bin_I0 (nomark _)) (fun hb B H s1 a => ?_) fun hb B H s1 a => ?_
  · have h3 : way < 4 := by have := of_decide_eq_true hb; omega
    have hT : ∀ way, way < 4 → ∃ xs, ([[2], [1, 2], [2, 3], [2, 3, 4]] : List (List Nat))[way]? = some xs ∧ Asc xs ∧ xs ≠ [] := fun way h => match way, h with
      | 0, _ => ⟨[2], rfl, asc_sub5 (by decide), fun e => nomatch e⟩
      | 1, _ => ⟨[1, 2], rfl, asc_sub5 (by decide), fun e => nomatch e⟩
      | 2, _ => ⟨[2, 3], rfl, asc_sub5 (by decide), fun e => nomatch e⟩
      | 3, _ => ⟨[2, 3, 4], rfl, asc_sub5 (by decide), fun e => nomatch e⟩
    obtain ⟨xs, hx, hA⟩ := hT way h3
    refine rs_ret (t := tAs) a (ev_sub ix_list (ev_lst (ts := ([[2], [1, 2], [2, 3], [2, 3, 4]] : List (List Nat)).map tNs) (ea_cons (ev_lst (ea_cons ev_int ea_nil)) (ea_cons (ev_lst (ea_cons ev_int (ea_cons ev_int ea_nil))) (ea_cons (ev_lst (ea_cons ev_int (ea_cons ev_int ea_nil))) (ea_cons (ev_lst (ea_cons ev_int (ea_cons ev_int (ea_cons ev_int ea_nil)))) ea_nil))))) (ev_name (i := 1) rfl (.inl rfl) rfl) (Bin.exi (f := tNs) (x := xs) (bin_ixLi (j := way) rfl (by rw [List.getElem?_map, hx]; rfl)) hA)) fun v B' H' _ a' r => k v B' H' a'.n r
  · refine rs_ret (t := tAs) a (ev_orE (pr := fun ys => ys.Sublist [1, 2, 3, 4, 5]) (ev_lcN (own := [("_law_k", 2)]) (xs := [1, 2, 3, 4, 5]) (τ := nT) (g := nT) rfl nd (blkOk_by (N := ["_law_bag_here", "_law_way", "_law_k"]) (sc := defScope s__law_sizes) (by decide +kernel)) (EvI.is (ei_rng2 rfl T.b_range ev_int ev_int (by decide)) rg5) (by decide) (by decide) (fun _ _ _ _ _ _ _ => (tg_name (i := 2) nd rfl (.inl rfl)))
      (fun _ _ _ _ _ _ _ => (ets_oneN (et_cmpN op_eq (ev_call tk hr rfl (d := 2) (ea_cons (ev_name (i := 0) rfl (.inr (.inl rfl)) rfl) (ea_cons ev_int ea_nil)) ⟨by decide, by decide⟩) ev_int (Bin.e1 fun r _ => Bin.exi (f := tB) (bin_eq rfl) trivial) (nomark _)))) (fun _ _ _ _ _ _ _ => (ev_name (i := 2) rfl (.inl rfl) rfl)))
      (EvE.ex (ev_lst (ea_cons (ev_bin op_add ev_int (ev_call tk hr rfl (d := 5) (ea_cons (ev_name (i := 0) rfl (.inr (.inl rfl)) rfl) (ea_cons ev_int ea_nil)) ⟨by decide, by decide⟩) (Bin.e2 (t3 := tE (fun r => 1 ≤ r ∧ r ≤ 5) nT) fun r hr => Bin.exi (f := nT) (x := 1 + r) (Bin.is bin_I0 (congrArg tI (by omega))) ⟨by omega, by omega⟩)) ea_nil)) fun B v ⟨l, vs, e, h1, r⟩ => by
        cases r with
        | cons r1 r0 =>
          cases r0
          obtain ⟨x, hx, r1⟩ := r1
          exact ⟨[x], ⟨asc_one hx.1 hx.2, fun e => nomatch e⟩, l, _, e, h1, .cons r1 .nil⟩) fun ys hy hne => ⟨asc_sub5 hy, hne⟩) fun v B' H' _ a' r => k v B' H' a'.n r
end
end Ls
set_option maxHeartbeats 1000000 -- Ue
/-! stretches, an order, the bag made, rules -/
namespace Ls
open PySem Spec PyProof.Rows L2
theorem ins_perm {α : Type} {ys : List α} {x : α} {r : Nat} : (ys.take r ++ [x] ++ ys.drop r).Perm (ys ++ [x]) := by
  have h1 : (ys.take r ++ [x] ++ ys.drop r).Perm (ys.take r ++ (ys.drop r ++ [x])) := by
    rw [List.append_assoc]
    exact (List.perm_append_comm (l₁ := [x])).append_left _
  rw [← List.append_assoc, List.take_append_drop] at h1
  exact h1
section
variable [J : Iv] {P : Program} {w : World} {K : PySem.W.Frag} {mg : Str → Option Value} {base : Heap} {g : Addr}
theorem sc__law_stretch : FnScope ["_law_bag_here", "_law_upto"] ["_law_bag_here", "_law_upto"] (defScope s__law_stretch) := ⟨rfl, rfl, rfl, by decide +kernel, rfl, by decide +kernel, by decide +kernel⟩
theorem c_stretch (T : Top K mg) (tk : Tk P w K mg base g) : Cal P w K mg base "_law_stretch" 4 (spF (α := Nat) (fun n => [tV (.ref g), nT n]) (fun n => n ≤ 100) (fun n => tE (fun s : S3 => s.n ≤ n) tSt)) := by
  have C1 := c_end T tk
  unfold Tk at tk
  refine cal_F T.f__law_stretch T.g__law_stretch sc__law_stretch (fun _ _ _ _ _ _ us hl => match us, hl with | [_, _], _ => rfl) (fun _ => rfl) (by decide) fun f cdv cd A outer s H0 E n B0 σ D hr hp a k hn => ?_
  refine rs_ret a (EvE.ex (ev_tup (ts := [tE (fun _ => True) tEn, tE (fun r => r < n + 1) nT, tE (fun _ => True) tEn]) (ea_cons (ev_call C1 hr rfl (d := ()) (ea_cons (ev_name (i := 0) rfl (.inl rfl) rfl) ea_nil) trivial) (ea_cons (ev_call tk (hr.mono (by decide)) rfl (d := n + 1) (ea_cons (ev_name (i := 0) rfl (.inl rfl) rfl) (ea_cons (EvE.is (ev_bin op_add (ev_name (i := 1) rfl (.inl rfl) rfl) ev_int bin_I0) (t2 := nT (n + 1)) rfl) ea_nil)) ⟨by omega, by omega⟩) (ea_cons (ev_call C1 hr rfl (d := ()) (ea_cons (ev_name (i := 0) rfl (.inl rfl) rfl) ea_nil) trivial) ea_nil)))) (p := fun s : S3 => s.n ≤ n) (f := tSt) fun B v ⟨l, vs, e, h, r⟩ => ?_) fun v B' H' _ a' r => k v B' H' a'.n r
  cases r with
  | cons r1 r =>
    cases r with
    | cons r2 r =>
      cases r with
      | cons r3 r =>
        cases r
        obtain ⟨e1, _, r1⟩ := r1
        obtain ⟨m, hm, r2⟩ := r2
        obtain ⟨e3, _, r3⟩ := r3
        exact ⟨⟨e1, m, e3⟩, Nat.le_of_lt_succ hm, l, _, e, h, .cons r1 (.cons r2 (.cons r3 .nil))⟩
theorem sc__law_mixed : FnScope ["_law_bag_here", "_law_things", "_law_found", "_law_thing"] ["_law_bag_here", "_law_things"] (defScope s__law_mixed) := ⟨rfl, rfl, rfl, by decide +kernel, rfl, by decide +kernel, by decide +kernel⟩
theorem c_mixed (T : Top K mg) (tk : Tk P w K mg base g) : Cal P w K mg base "_law_mixed" 2 (spF (α := List (Nat × Nat)) (fun xs => [tV (.ref g), tL (xs.map tPz)]) (fun xs => xs.length ≤ 900) (fun xs => tE (fun ys : List (Nat × Nat) => ys.Perm xs) fun ys => tL (ys.map tPz))) := by
  have nd := sc__law_mixed.nd
  unfold Tk at tk
  refine cal_F T.f__law_mixed T.g__law_mixed sc__law_mixed (fun _ _ _ _ _ _ us hl => match us, hl with | [_, _], _ => rfl) (fun _ => rfl) (by decide) fun f cdv cd A outer s H0 E xs B0 σ D hr hp a k hn => ?_
  have hp : xs.length ≤ 900 := hp
  refine rs_setN (i := 2) a (en_lst ea_nil) nd rfl (.inl rfl) fun l σ B H s1 hl a => ?_
  refine rs_for (xs := xs) (τ := tPz) a rfl (ei_list (ev_name (i := 1) rfl (.inl rfl) rfl)) (fun _ _ => (tg_name (i := 3) nd rfl (.inl rfl)))
    (fun i Γ C => (∃ o3, Γ = [some (tV (.ref g)), some (tL (xs.map tPz)), some (tV (.ref l)), o3]) ∧ ∃ ys : List (Nat × Nat), C = [(l, oL (ys.map tPz))] ∧ ys.Perm (xs.take i)) ⟨⟨_, rfl⟩, [], rfl, .refl _⟩ (fun B1 s1 i x Γ1 W1 σ B H hi hI a => ?_) fun Γ1 W1 σ B H s1 hI a => ?_
  · obtain ⟨⟨o3, rfl⟩, ys, rfl, hys⟩ := hI
    have hyl : ys.length ≤ 900 := by
      rw [hys.length_eq]
      exact Nat.le_trans (List.length_take_le' ..) hp
    refine rs_insertS (ts := ys.map tPz) (t := tPz x) a (ev_name (i := 2) rfl (.inl rfl) rfl) (.refl _) (fun B H a => evs_call2 (d := (ys.map tPz).length + 1) a tk hr rfl (ev_name (i := 0) rfl (.inl rfl) rfl) (fun B H a => evs_pure a (a.rdL (l := l) (i := 2) List.mem_cons_self rfl) (letI : Iv := Jb; EvE.is (ev_bin op_add (ev_callB call_lenS rfl T.b_len bt_len (ea_cons (ev_name (i := 2) (t := tL (ys.map tPz)) rfl (.inl rfl) rfl) ea_nil) cb_lenL) (ev_int (i := 1)) bin_I0) (t2 := nT ((ys.map tPz).length + 1)) rfl) (fun _ _ => cl_V)) ⟨by omega, by rw [List.length_map]; omega⟩ rfl rfl) (ev_name (i := 3) rfl (.inl rfl) rfl) (by rw [List.length_map]; omega)
      (fun r B H hr s1 a => rs_nil ⟨_, _, B, ⟨⟨_, rfl⟩, ys.take r ++ [x] ++ ys.drop r, rfl, ?_⟩, a.cs (by rw [List.map_append, List.map_append, List.map_take, List.map_drop]; rfl)⟩) (pe_bm PySem.F.plainAttrs_list PySem.F.slot_list_insert PySem.F.type_list_insert mt_insert pe_c (pa_cons pe_c (pa_cons pe_c pa_nil)))
    rw [take_succ' hi]
    exact ins_perm.trans (hys.append_right _)
  · obtain ⟨⟨o3, rfl⟩, ys, rfl, hys⟩ := hI
    rw [List.take_length] at hys
    obtain ⟨B1, b1, a⟩ := a.frzL hl (i := 2) rfl
    exact rs_ret a (EvE.exi (p := fun ys : List (Nat × Nat) => ys.Perm xs) (f := fun ys => tL (ys.map tPz)) (x := ys) (ev_name (i := 2) rfl (.inl rfl) rfl) hys) fun v B' H' _ a' r => k v B' H' a'.n r
/-! ### defs that give a new cell -/
def oE {α : Type} (p : α → Prop) (f : α → OT) : OT := ⟨fun B o => ∃ x, p x ∧ (f x).p B o, fun h ⟨x, a, b⟩ => ⟨x, a, (f x).mono h b⟩⟩
def spN {α : Type} (args : α → List Ty) (pre : α → Prop) (ot : α → OT) : Sp := fun vs H Q _ => ∃ (d : α) (B : Hp), Sm B H ∧ pre d ∧ Tys B (args d) vs ∧ ∀ l B' H', Nw nF B H B' H' → B' l = none → ¬ Iv.F H' l → H l = none → (∃ o, H' l = some o ∧ (ot d).p B' o) → Q (.ref l) H'
theorem cal_N {α : Type} {args : α → List Ty} {pre : α → Prop} {ot : α → OT} {d : He.DefD} {x : Str} {k : Nat} {N ps : List Str} (F : ∃ fd, FunD K d.name d.qual d.params d.body d.scope [] [] (He.fAd K d.at_) fd) (hm : mg x = some (.ref (He.fAd K d.at_))) (S : FnScope N ps d.scope)
    (hb : ∀ (kV doc pm : Value) (an : Option Addr) (cdv ct : Value) (us : List Value), us.length = ps.length → bindArgs (PySem.W.fnOf d.name d.qual d.params d.body d.scope .none kV doc pm an cdv ct) ⟨us, []⟩ = pure (ps.zip us))
    (hl : ∀ a, (args a).length = ps.length) (hN : ps.length ≤ N.length)
    (body : ∀ (f : Addr) (cdv : Value) (cd : PySem.W.codeIn K cdv d.qual = true) (A : Around) (outer : List Env) (s : Shared) (H0 : Hp) (E : XK) (a : α) (B0 : Hp) (σ : L2.St) (D : Ends), Room k (A.deeper (envOfC d.qual d.scope s.heap.objs.size f cdv)) → pre a →
      At nF B0 H0 B0 ((args a).map some ++ List.replicate (N.length - (args a).length) none) [] σ B0 H0 → (∀ l B' H', Nw nF B0 H0 B' H' → B' l = none → ¬ Iv.F H' l → H0 l = none → (∃ o, H' l = some o ∧ (ot a).p B' o) → D.rt (.ref l) H') →
      RS (cx0 P w K mg base N d f cdv A outer s H0 E) d.body D σ H0) : Cal P w K mg base x (k + 1) (spN args pre ot) := by
  obtain ⟨fd, F⟩ := F
  refine ⟨_, fd, ps, hm, F.kp, F.bindsN hb, ?_⟩
  obtain ⟨_, _, _, _, _, _, _, cdv, _, _, rfl, lk, hcd, _⟩ := F.ex
  refine fn_of lk hcd S (fun vs H Q E ⟨a, B, _, _, r, _⟩ => by rw [r.length]; exact hl a) fun A outer s H vs Q E hr ⟨a, B, bh, hp, r, q⟩ => ?_
  obtain ⟨t, h1, h2⟩ := body _ cdv hcd A outer s H E a B (L2.start N vs) ⟨fun _ H' => Q .non H', Q, fun _ _ => False, fun _ _ => False⟩ hr hp ⟨sok_start N r (by rw [hl a]; exact hN), .refl bh, Same.refl B, ⟨fun _ z => (nomatch z), List.nodup_nil⟩⟩ q
  exact ⟨t, h1.nox, h2⟩
section
variable {X : Cx} {F : Addr → Prop} {B0 H0 Bg : Hp} {Γ : Ctx} {W : Cells} {σ : L2.St} {B H : Hp} {e : Expr} {es rest : List Expr} {t : Ty} {ts : List Ty} {pos p : Pos} {x : Str} {k : Nat} {l : Addr} {ot : OT} {D : Ends} {i : Nat} {st : List Stmt}
theorem en_call {α : Type} {args : α → List Ty} {pre : α → Prop} {oo : α → OT} (C : Cal X.prog X.w X.K X.mg X.base x k (spN args pre oo)) {d : α} (hr : Room k X.A) (hg : Gl X x) (ha : EvA X Γ (e :: es) ts) (hp : pre d) (hts : args d = ts := by rfl) (ht : oo d = ot := by rfl)
    (hdb : (x == ("__debug__" : Str)) = false := by decide) (he : starEach (e :: es) X.env = (false, eval e X.env) :: starEach es X.env := by rfl) (hpl : (backTo pos (starEach es X.env)).any (·.1) = false := by rfl) :
    EvN X Γ (.Call (.Name x p) (e :: es) [] pos) ot := fun σ B H s bh Q q => by
  obtain ⟨f, fd, ps, hm, hk, hb, F⟩ := C.ex
  subst hts ht
  refine ⟨_, pe_call F hr hg hm hk hb .nil pass0 pa_c hdb he hpl, ha σ B H s bh _ fun vs B1 H1 n1 r1 => ?_⟩
  rw [List.append_nil]
  exact ⟨d, B1, n1.bh, hp, r1, fun l B2 H2 n2 h1 h2 h3 h4 => q l B2 H2 (n1.trans n2) h1 h2 (n1.fresh h3) h4⟩
/-- return [..] -/
theorem rs_retN (a : At nF B0 H0 Bg Γ W σ B H) (h : EvN X Γ e ot) (k : ∀ l B' H', Nw nF B0 H0 B' H' → B' l = none → ¬ Iv.F H' l → H0 l = none → (∃ o, H' l = some o ∧ ot.p B' o) → D.rt (.ref l) H') : RS X (.Return (some e) pos :: st) D σ H :=
  rs_ps (ps_ret pe_c) (h σ B H a.s a.n.bh _ fun l B1 H1 n1 h1 h2 h3 h4 => k l B1 H1 (a.n.trans n1) h1 h2 (a.n.fresh h3) h4)
/-- return x, x an own cell -/
theorem rs_retC (a : At nF B0 H0 Bg Γ ((l, ot) :: W) σ B H) (h : EvE X Γ e (tV (.ref l))) (k : ∀ B' H', Nw nF B0 H0 B' H' → B' l = none → ¬ Iv.F H' l → H0 l = none → (∃ o, H' l = some o ∧ ot.p B' o) → D.rt (.ref l) H') : RS X (.Return (some e) pos :: st) D σ H :=
  rs_ps (ps_ret pe_c) (h σ B H a.s a.n.bh _ fun v B1 H1 n1 r1 => by
    have r1 : v = .ref l := r1
    subst r1
    have a1 := a.step n1
    obtain ⟨h1, h2, h3⟩ := a1.cell
    exact k B1 H1 a1.n h2.1 h2.2 (h1.resolve_left fun z => z) h3)
theorem At.openC {α : Type} {p : α → Prop} {f : α → OT} (a : At F B0 H0 Bg Γ ((l, oE p f) :: W) σ B H) : ∃ x, p x ∧ At F B0 H0 Bg Γ ((l, f x) :: W) σ B H := by
  obtain ⟨h1, h2, o, h3, x, hx, h4⟩ := a.cell
  refine ⟨x, hx, a.s, a.n, a.g, fun q hq => ?_, a.o.apart⟩
  rcases List.mem_cons.mp hq with e | hq
  · rw [e]; exact ⟨h1, h2, o, h3, h4⟩
  · exact a.o.each q (List.mem_cons_of_mem _ hq)
end
end
end Ls
set_option maxHeartbeats 1000000 -- Uf
/-! the bag made, rules told and made -/
namespace Ls
open PySem Spec PyProof.Rows L2
section
variable [J : Iv] {P : Program} {w : World} {K : PySem.W.Frag} {mg : Str → Option Value} {base : Heap} {g : Addr}
section
variable {X : Cx} {F : Addr → Prop} {B0 H0 Bg : Hp} {Γ : Ctx} {W W' : Cells} {σ : L2.St} {B H : Hp} {e o1 i1 o2 i2 v : Expr} {rest : List Stmt} {t1 t2 : Ty} {pos p p1 p2 pt : Pos} {kt n : Nat} {l : Addr} {D : Ends} {k1 k2 : Key} {ps : List (Key × Ty)}
theorem en_dictE {κ : Type} {pr : κ → Prop} {ps : κ → List (Key × Ty)} (hc : X.calm = true) (hg : Gl X "dict") (hm : X.mg "dict" = none) (h : EvE X Γ e (tE pr fun c => tL ((ps c).map fun q => tT [tV (kV q.1), q.2]))) (nd : ∀ c, pr c → ((ps c).map (·.1)).Nodup) (hl : ∀ c, pr c → (ps c).length ≤ 100)
    (he : starEach [e] X.env = (false, eval e X.env) :: starEach [] X.env := by rfl) (hpl : (backTo pos (starEach [] X.env)).any (·.1) = false := by rfl) : EvN X Γ (.Call (.Name "dict" p) [e] [] pos) (oE pr fun c => oDK (ps c)) := fun σ B H s bh Q q =>
  ⟨_, pe_callTy (call_dictP hc) hg hm bt_dict (pa_cons pe_c pa_nil he) (by decide) (by decide) he hpl, h σ B H s bh _ fun v B1 H1 n1 ⟨c, hpc, r1⟩ =>
    cb_dictP (nd c hpc) (hl c hpc) [v] B1 H1 Q n1.bh (.one r1) fun l B2 H2 n2 h1 h2 h3 ⟨o, h4, h5⟩ => q l B2 H2 (n1.trans n2) h1 h2 (n1.fresh h3) ⟨o, h4, c, hpc, h5⟩⟩
theorem EvN.lockE {κ : Type} {pr : κ → Prop} {ps : κ → List (Key × Ty)} (h : EvN X Γ e (oE pr fun c => oDK (ps c))) : EvE X Γ e (tE pr fun c => tDK (ps c)) := fun σ B H s bh Q q => ⟨_, pe_lockP pe_c, h σ B H s bh _ fun l B1 H1 n1 b f h0 ⟨o, e1, c, hpc, kvs, e2, r⟩ => by
  subst e2
  exact ⟨l, _, e1, trivial, fun od => q (.ref l) _ _ (n1.wlay b h0 f) ⟨c, hpc, l, kvs, rfl, ⟨od, upd_same⟩, r.mono (same_upd b)⟩⟩⟩
/-- d[k1], d[k2] = .. -/
theorem rs_dput2 (hr : Room n X.A) (a : At F B0 H0 Bg Γ W σ B H) (hc : X.calm = true) (hv : EvE X Γ v (tT [t1, t2])) (h1 : EvE X Γ o1 (tV (.ref l))) (h2 : EvE X Γ i1 (tV (kV k1))) (h3 : EvE X Γ o2 (tV (.ref l))) (h4 : EvE X Γ i2 (tV (kV k2))) (hW : W.Perm ((l, oDK ps) :: W')) (hl : ps.length < 1000)
    (k : ∀ B' H', Same B B' → At F B0 H0 Bg Γ ((l, oDK (putT (putT ps k1 t1) k2 t2)) :: W') σ B' H' → RS X rest D σ H')
    (hs : swapsWithSole [.Tuple [.Subscript o1 i1 p1, .Subscript o2 i2 p2] kt pt] v pos.line X.env = pure false := by rfl) (hw : swappedStores [.Tuple [.Subscript o1 i1 p1, .Subscript o2 i2 p2] kt pt] v X.env = pure none := by rfl) (hh : (assignEach [.Tuple [.Subscript o1 i1 p1, .Subscript o2 i2 p2] kt pt] X.env).map (·.2) = [assign (.Tuple [.Subscript o1 i1 p1, .Subscript o2 i2 p2] kt pt) X.env] := by rfl)
    (ha1 : ∀ v, assign (.Subscript o1 i1 p1) X.env v = (do
      let ov ← holding [v] (eval o1 X.env)
      let iv ← holding [v, ov] (eval i1 X.env)
      standAt p1
      holding [v, ov, iv] (setItem ov iv v)
      release [v, ov, iv] []) := by intro _; rfl)
    (ha2 : ∀ v, assign (.Subscript o2 i2 p2) X.env v = (do
      let ov ← holding [v] (eval o2 X.env)
      let iv ← holding [v, ov] (eval i2 X.env)
      standAt p2
      holding [v, ov, iv] (setItem ov iv v)
      release [v, ov, iv] []) := by intro _; rfl)
    (hs1 : (assignEach [Expr.Subscript o1 i1 p1, .Subscript o2 i2 p2] X.env).map (·.2) = assign (.Subscript o1 i1 p1) X.env :: (assignEach [Expr.Subscript o2 i2 p2] X.env).map (·.2) := by rfl) (hs2 : (assignEach [Expr.Subscript o2 i2 p2] X.env).map (·.2) = assign (.Subscript o2 i2 p2) X.env :: (assignEach [] X.env).map (·.2) := by rfl)
    (hn2 : (assignEach [Expr.Subscript o1 i1 p1, .Subscript o2 i2 p2] X.env).length = 2 := by rfl) (hst : (assignEach [Expr.Subscript o1 i1 p1, .Subscript o2 i2 p2] X.env).findIdx? (·.1) = none := by rfl) :
    RS X (.Assign [.Tuple [.Subscript o1 i1 p1, .Subscript o2 i2 p2] kt pt] v pos :: rest) D σ H :=
  rs_ps (ps_asg pe_c (pg_tup hc (pgs_cons (pg_sub pe_c pe_c (set_dict (hu_of hr)) ha1) (pgs_cons (pg_sub pe_c pe_c (set_dict (hu_of hr)) ha2) pgs_nil hs2) hs1) hn2 hst) hs hw hh) (hv σ B H a.s a.n.bh _ fun u B1 H1 n1 ⟨ad, vs, e, h, r⟩ => by
    subst e
    have a1 := a.step n1
    cases r with
    | cons r1 r =>
    cases r with
    | cons r2 r =>
    cases r
    refine ⟨ad, _, rfl, .of (n1.bh _ _ h), rfl, _, _, rfl, h1 σ B1 H1 a1.s a1.n.bh _ fun w B2 H2 n2 q2 => h2 σ B2 H2 (a1.s.mono n2.bb) n2.bh _ fun z B3 H3 n3 q3 => ?_⟩
    have q2 : w = .ref l := q2
    have q3 : z = kV k1 := q3
    subst q2 q3
    have a3 := (a1.step (n2.trans n3)).perm hW
    obtain ⟨_, _, ob, g3, kvs, e3, dr⟩ := a3.cell
    subst e3
    have hpl : ∀ (ps : List (Key × Ty)) (k : Key) (t : Ty), (putT ps k t).length ≤ ps.length + 1 := fun ps k t => by
      unfold putT
      split
      · rw [List.length_map]; exact Nat.le_succ _
      · rw [List.length_append]; exact Nat.le_refl _
    have h5 := hpl ps k1 t1
    refine ⟨l, _, rfl, .inl ⟨kvs, k1, g3, rfl, by rw [dr.length]; exact lt5 (by omega), rfl⟩, ?_⟩
    have a4 := a3.wr (ot' := oDK (putT ps k1 t1)) ⟨_, rfl, dr.put (t1.mono (n2.trans n3).bb r1)⟩
    refine ⟨_, _, rfl, h3 σ B3 _ a4.s a4.n.bh _ fun w B5 H5 n5 q5 => h4 σ B5 H5 (a4.s.mono n5.bb) n5.bh _ fun z B6 H6 n6 q6 => ?_⟩
    have q5 : w = .ref l := q5
    have q6 : z = kV k2 := q6
    subst q5 q6
    have a6 := a4.step (n5.trans n6)
    obtain ⟨_, _, ob, g6, kvs6, e6, dr6⟩ := a6.cell
    subst e6
    refine ⟨l, _, rfl, .inl ⟨kvs6, k2, g6, rfl, by rw [dr6.length]; exact lt5 (by omega), rfl⟩, rfl, ?_⟩
    exact k B6 _ (n1.bb.trans ((n2.trans n3).bb.trans (n5.trans n6).bb)) (a6.wr (ot' := oDK (putT (putT ps k1 t1) k2 t2)) ⟨_, rfl, dr6.put (t2.mono ((n2.trans n3).bb.trans (n5.trans n6).bb) r2)⟩))
end
end
end Ls
set_option maxHeartbeats 1000000 -- Ug
/-! the bag made, rules told and made -/
namespace Ls
open PySem Spec PyProof.Rows L2
section
variable [J : Iv] {P : Program} {w : World} {K : PySem.W.Frag} {mg : Str → Option Value} {base : Heap} {g : Addr}
theorem cb_absN {i : Int} : Cb (fun xs H Q => ∃ i : Int, xs = [V.int i] ∧ Q (.int (if i < 0 then -i else i)) H) [tI i] (nT i.natAbs) := fun vs B H Q bh r q => by
  cases r with
  | cons r1 r0 =>
    cases r0
    have r1 : _ = V.int i := r1
    subst r1
    refine ⟨i, rfl, q _ B H (.refl bh) ?_⟩
    show V.int _ = V.int _
    congr 1
    split <;> omega
/-- the script, a list of whole numbers; it may be an object of the module -/
def tSc (K : PySem.W.Frag) (ns : List Int) : Ty := ⟨fun B v => ∃ a, v = .ref a ∧ SqL K B a (ns.map V.int), fun h ⟨a, e, q⟩ => ⟨a, e, q.imp (fun z => z.imp (h _ _) fun ⟨o, z⟩ => ⟨o, h _ _ z⟩) id⟩⟩
omit [Iv] in
theorem tys_scI {B : Hp} : ∀ {ns : List Int}, Tys B (ns.map tI) (ns.map V.int)
  | [] => .nil
  | _ :: _ => .cons rfl tys_scI
theorem ev_sliceSc {X : Cx} {Γ : Ctx} {e : Expr} {lo hi : Option Expr} {i j : Option Int} {p2 pos : Pos} {ns : List Int} (h : EvE X Γ e (tSc X.K ns)) (h1 : EvO X Γ lo i) (h2 : EvO X Γ hi j) : EvE X Γ (.Subscript e (.Slice lo hi none p2) pos) (tL (cutT (ns.map tI) i j)) := fun σ B H s bh Q q =>
  ⟨_, pe_slice sl_list pe_c po_c po_c, h σ B H s bh _ fun v B1 H1 n1 ⟨l, e1, e2⟩ => h1 σ B1 H1 (s.mono n1.bb) n1.bh _ fun B2 H2 n2 => h2 σ B2 H2 (s.mono (n1.trans n2).bb) n2.bh _ fun B3 H3 n3 =>
    ⟨l, ns.map V.int, e1, ((tSc X.K ns).mono (fun x o z => n3.bh x o ((n2.trans n3).bb x o z)) ⟨l, rfl, e2⟩).elim fun a ⟨ea, r⟩ => (V.ref.inj ea) ▸ r, fun q' hq => q _ _ _ (((n1.trans n2).trans n3).trans (.lay n3.bh hq)) ⟨q', _, rfl, upd_same, tys_cut tys_scI⟩⟩⟩
theorem sc__law_bag : FnScope ["_law_script", "_law_cell"] ["_law_script"] (defScope s__law_bag) := ⟨rfl, rfl, rfl, by decide +kernel, rfl, by decide +kernel, by decide +kernel⟩
theorem c_bag (T : Top K mg) : Cal P w K mg base "_law_bag" 1 (spN (α := List Int) (fun ns => [tSc K ns]) (fun _ => True) (fun _ => oE Bg.Ok oBg)) := by
  have nd := sc__law_bag.nd
  refine cal_N T.f__law_bag T.g__law_bag sc__law_bag (fun _ _ _ _ _ _ us hl => match us, hl with | [_], _ => rfl) (fun _ => rfl) (by decide) fun f cdv cd A outer s H0 E ns B0 σ D hr hp a k => ?_
  have hc : cutT (ns.map tI) none (some ((63 : Nat) : Int)) = (ns.take 63).map tI := by rw [cut_to, List.map_take]
  have hl : (ns.take 63).length ≤ 63 := List.length_take_le ..
  refine rs_retN (ot := oBg ⟨0, 1234567891, 0, (ns.take 63).map Int.natAbs⟩) a (en_lst (ea_cons (ev_int (i := 0)) (ea_cons (ev_int (i := 1234567891)) (ea_cons (ev_int (i := 0)) (ea_cons (EvE.is (ev_lc (own := [("_law_cell", 1)]) (xs := ns.take 63) (τ := tI) (p := fun _ => true) (g := fun i => nT i.natAbs) rfl nd (blkOk_by (N := ["_law_script", "_law_cell"]) (sc := defScope s__law_bag) (by decide +kernel)) (EvI.is (ei_list (ev_sliceSc (ns := ns) (ev_name (i := 0) rfl (.inl rfl) rfl) eo_none (eo_some (n := ((63 : Nat) : Int)) (ev_int (i := 63))))) hc) (by decide) (by omega) (fun _ _ _ _ _ _ _ => (tg_name (i := 1) nd rfl (.inl rfl))) (fun _ _ _ _ _ _ _ => ets_nil)
    (fun _ _ _ _ _ _ _ => fun _ => (ev_callB call_abs rfl T.b_abs bt_abs (ea_cons (ev_name (i := 1) rfl (.inl rfl) rfl) ea_nil) cb_absN))) (t2 := tNs ((ns.take 63).map Int.natAbs)) (by rw [filter_yes]; unfold tNs; rw [List.map_map]; rfl)) ea_nil))))) fun l B' H' n h1 h2 h3 ⟨o, h4, h5⟩ => k l B' H' n h1 h2 h3 ⟨o, h4, _, ⟨by show (1234567891 : Nat) < 2147483647; decide, by show ((ns.take 63).map Int.natAbs).length ≤ 63; rw [List.length_map]; exact hl⟩, h5⟩
/-! ### rules -/
def toldPs (R : Ru) : List (Key × Ty) := [(.inr "sizes", tNs R.sizes), (.inr "bad", tBad R.bad), (.inr "soft", tB R.soft), (.inr "where", tS R.wh), (.inr "offer", nT R.offer)]
def tTold (R : Ru) : Ty := tDK (toldPs R)
theorem sc__law_rule : FnScope ["_law_bag_here", "_law_found", "_law_end_here"] ["_law_bag_here"] (defScope s__law_rule) := ⟨rfl, rfl, rfl, by decide +kernel, rfl, by decide +kernel, by decide +kernel⟩
theorem bad_of {B : Hp} {v : V} (h : (tDK (En3.map fun e => ((.inr e.s : Key), tAl))).p B v) : ∃ bad : En → List Nat, (∀ e, Asc (bad e)) ∧ (tBad bad).p B v := by
  obtain ⟨d, kvs, e, h1, r⟩ := h
  cases r with
  | cons r1 r =>
  cases r with
  | cons r2 r =>
  cases r with
  | cons r3 r =>
  cases r
  obtain ⟨x1, a1, l1, v1, e1, k1, q1⟩ := r1
  obtain ⟨x2, a2, l2, v2, e2, k2, q2⟩ := r2
  obtain ⟨x3, a3, l3, v3, e3, k3, q3⟩ := r3
  rw [tys_nats q1] at k1
  rw [tys_nats q2] at k2
  rw [tys_nats q3] at k3
  subst e1 e2 e3
  refine ⟨fun e => match e with | .P => x1 | .S => x2 | .W => x3, fun e => by cases e; exact a1; exact a2; exact a3, d, e, l1, l2, l3, h1, k1, k2, k3⟩
def wOf (b : Bool) : Str := if b then "side" else "any"
def tWh : Ty := tE (fun _ : Bool => True) fun b => tS (wOf b)
def tOf : Ty := tE (fun r : Nat => r ≤ 5) nT
def ruPs : List (Key × Ty) := [(.inr "sizes", tAs), (.inr "bad", tDK (En3.map fun e => ((.inr e.s : Key), tAl))), (.inr "soft", tE (fun _ : Bool => True) tB), (.inr "where", tWh), (.inr "offer", tOf)]
theorem told_of {B : Hp} {o : HO} (h : (oDK ruPs).p B o) : (oE (fun R : Ru => R.Ok) fun R => oDK (toldPs R)).p B o := by
  obtain ⟨kvs, e, r⟩ := h
  cases r with
  | cons r1 r =>
  cases r with
  | cons r2 r =>
  cases r with
  | cons r3 r =>
  cases r with
  | cons r4 r =>
  cases r with
  | cons r5 r =>
  cases r
  obtain ⟨sz, ⟨a1, a2⟩, r1⟩ := r1
  obtain ⟨bad, hb, r2⟩ := bad_of r2
  obtain ⟨so, _, r3⟩ := r3
  obtain ⟨sd, _, r4⟩ := r4
  obtain ⟨of, ho, r5⟩ := r5
  exact ⟨⟨sz, bad, so, sd, of⟩, ⟨a1, a2, hb, ho⟩, _, e, .cons r1 (.cons r2 (.cons r3 (.cons r4 (.cons r5 .nil))))⟩
theorem c_rule (T : Top K mg) (tk : Tk P w K mg base g) : Cal P w K mg base "_law_rule" 3 (spN (α := Unit) (fun _ => [tV (.ref g)]) (fun _ => True) (fun _ => oE (fun R : Ru => R.Ok) fun R => oDK (toldPs R))) := by
  have nd := sc__law_rule.nd
  have C1 := c_lengths T tk
  have C2 := c_sizes T tk
  have C3 := c_ends (P := P) (w := w) (base := base) T
  unfold Tk at tk
  refine cal_N T.f__law_rule T.g__law_rule sc__law_rule (fun _ _ _ _ _ _ us hl => match us, hl with | [_], _ => rfl) (fun _ => rfl) (by decide) fun f cdv cd A outer s H0 E d B0 σ D hr hp a k => ?_
  refine rs_setN (i := 1) a (en_disp (ps := [(.inr "sizes", tAs), (.inr "bad", tDK (En3.map fun e => ((.inr e.s : Key), tAl)))]) (eps_cons ev_str (ev_call C2 hr rfl (d := ()) (ea_cons (ev_name (i := 0) rfl (.inr (.inl rfl)) rfl) ea_nil) trivial) (eps_cons ev_str (EvE.to (EvN.lockE (en_dictE (pr := fun _ : Unit => True) (ps := fun _ => En3.map fun e => ((.inr e.s : Key), tAl)) rfl rfl T.b_dict (EvE.to (ev_lc (own := [("_law_end_here", 2)]) (xs := En3) (τ := tEn) (p := fun _ => true) (g := fun e => tT [tEn e, tAl]) rfl nd (blkOk_by (N := ["_law_bag_here", "_law_found", "_law_end_here"]) (sc := defScope s__law_rule) (by decide +kernel)) (ei_list (ev_call0 C3 (hr.mono (by decide)) rfl (d := ()) trivial)) (by decide) (by decide) (fun _ _ _ _ _ _ _ => (tg_name (i := 2) nd rfl (.inl rfl))) (fun _ _ _ _ _ _ _ => ets_nil)
    (fun _ _ _ _ _ _ _ => fun _ => (ev_tup (ea_cons (ev_name (i := 2) rfl (.inl rfl) rfl) (ea_cons (ev_call C1 hr rfl (d := ()) (ea_cons (ev_name (i := 0) rfl (.inr (.inl rfl)) rfl) ea_nil) trivial) ea_nil))))) fun B v h => ⟨(), trivial, by rw [filter_yes] at h; exact h⟩) (fun _ _ => by decide) (fun _ _ => by decide))) fun B v ⟨_, _, h⟩ => h) eps_nil)) (by decide)) nd rfl (.inl rfl) fun l σ B H s1 hl a => ?_
  refine rs_dput2 (t1 := tE (fun _ : Bool => True) tB) (t2 := tWh) (k1 := .inr "soft") (k2 := .inr "where") hr a rfl (ev_tup (ea_cons (ev_cmp op_eq (ev_call tk (hr.mono (by decide)) rfl (d := 3) (ea_cons (ev_name (i := 0) rfl (.inr (.inl rfl)) rfl) (ea_cons ev_int ea_nil)) ⟨by decide, by decide⟩) ev_int (Bin.e1 (t3 := tE (fun _ : Bool => True) tB) fun r _ => Bin.exi (f := tB) (bin_eq rfl) trivial) (nomark _)) (ea_cons (ev_sub ix_list (ev_lst (ea_cons ev_str (ea_cons ev_str (ea_cons ev_str ea_nil)))) (ev_call tk (hr.mono (by decide)) rfl (d := 3) (ea_cons (ev_name (i := 0) rfl (.inr (.inl rfl)) rfl) (ea_cons ev_int ea_nil)) ⟨by decide, by decide⟩) (Bin.e2 (t3 := tWh) fun r hr => ?_)) ea_nil))) (ev_name (i := 1) rfl (.inl rfl) rfl) ev_str (ev_name (i := 1) rfl (.inl rfl) rfl) ev_str (.refl _) (by decide) fun B H s1 a => ?_
  · match r, hr with
    | 0, _ => exact Bin.exi (f := fun b => tS (wOf b)) (x := false) (bin_ixLi (j := 0) rfl rfl) trivial
    | 1, _ => exact Bin.exi (f := fun b => tS (wOf b)) (x := false) (bin_ixLi (j := 1) rfl rfl) trivial
    | 2, _ => exact Bin.exi (f := fun b => tS (wOf b)) (x := true) (bin_ixLi (j := 2) rfl rfl) trivial
  refine rs_dput (t := tOf) (key := .inr "offer") hr a (ev_sub ix_list (ev_lst (ts := [nT 0, nT 0, nT 0, nT 1, nT 2, tOf]) (ea_cons ev_int (ea_cons ev_int (ea_cons ev_int (ea_cons ev_int (ea_cons ev_int (ea_cons (ev_bin op_add ev_int (ev_call tk (hr.mono (by decide)) rfl (d := 5) (ea_cons (ev_name (i := 0) rfl (.inr (.inl rfl)) rfl) (ea_cons ev_int ea_nil)) ⟨by decide, by decide⟩) (Bin.e2 (t3 := tOf) fun r hr => Bin.exi (f := nT) (x := 1 + r) (Bin.is bin_I0 (congrArg tI (by omega))) (by omega))) ea_nil))))))) (ev_call tk (hr.mono (by decide)) rfl (d := 6) (ea_cons (ev_name (i := 0) rfl (.inr (.inl rfl)) rfl) (ea_cons ev_int ea_nil)) ⟨by decide, by decide⟩) (Bin.e2 (t3 := tOf) fun r hr => ?_)) (ev_name (i := 1) rfl (.inl rfl) rfl) ev_str (.refl _) (Nat.le_of_ble_eq_true rfl) fun B H s1 a => ?_
  · match r, hr with
    | 0, _ => exact Bin.exi (f := nT) (x := 0) (bin_ixLi (j := 0) rfl rfl) (by decide)
    | 1, _ => exact Bin.exi (f := nT) (x := 0) (bin_ixLi (j := 1) rfl rfl) (by decide)
    | 2, _ => exact Bin.exi (f := nT) (x := 0) (bin_ixLi (j := 2) rfl rfl) (by decide)
    | 3, _ => exact Bin.exi (f := nT) (x := 1) (bin_ixLi (j := 3) rfl rfl) (by decide)
    | 4, _ => exact Bin.exi (f := nT) (x := 2) (bin_ixLi (j := 4) rfl rfl) (by decide)
    | 5, _ => exact bin_ixLi (j := 5) rfl rfl
  have a2 := a.cs (W' := [(l, oDK ruPs)]) (by kernel_rfl)
  exact rs_retC a2 (ev_name (i := 1) rfl (.inl rfl) rfl) fun B' H' n h1 h2 h3 ⟨o, h4, h5⟩ => k l B' H' n h1 h2 h3 ⟨o, h4, told_of h5⟩
/-- Rule(..) of what is told -/
theorem tBad_of {bad : En → List Nat} {B : Hp} {v : V} (h : (tBad bad).p B v) : (tBad bad).p B v := h
theorem sc__law_made : FnScope ["_law_told"] ["_law_told"] (defScope s__law_made) := ⟨rfl, rfl, rfl, by decide +kernel, rfl, by decide +kernel, by decide +kernel⟩
theorem c_made (T : Top K mg) : Cal P w K mg base "_law_made" 8 (spF (α := Ru) (fun R => [tTold R]) (fun R => R.Ok) (fun R => tRu K R)) := by
  obtain ⟨fd, Fd, ok⟩ := c_Rule_init (P := P) (w := w) (base := base) T
  obtain ⟨_, _, kb, hg⟩ := kb_Rule Fd
  refine cal_F T.f__law_made T.g__law_made sc__law_made (fun _ _ _ _ _ _ us hl => match us, hl with | [_], _ => rfl) (fun _ => rfl) (by decide) fun f cdv cd A outer s H0 E R B0 σ D hr hp a k hn => ?_
  refine rs_ret a (EvE.to (ev_makeK (d := R) T.m_Rule ok kb hg T.g_Rule hr rfl (ea_cons (ev_dget (ps := toldPs R) (k := .inr "sizes") hr (ev_name (i := 0) rfl (.inl rfl) rfl) ev_str rfl) (ea_cons (ev_dget (ps := toldPs R) (k := .inr "bad") hr (ev_name (i := 0) rfl (.inl rfl) rfl) ev_str rfl) ea_nil)) (ek_cons (ev_dget (ps := toldPs R) (k := .inr "soft") hr (ev_name (i := 0) rfl (.inl rfl) rfl) ev_str rfl) (ek_cons (ev_dget (ps := toldPs R) (k := .inr "where") hr (ev_name (i := 0) rfl (.inl rfl) rfl) ev_str rfl) (ek_cons (ev_dget (ps := toldPs R) (k := .inr "offer") hr (ev_name (i := 0) rfl (.inl rfl) rfl) ev_str rfl) ek_nil))) hp rfl rfl rfl) fun B v h => tIns_ru h) fun v B' H' _ a' r => k v B' H' a'.n r
end
end Ls
set_option maxHeartbeats 1000000 -- Uh
/-! worths told and made -/
namespace Ls
open PySem Spec PyProof.Rows L2
section
variable [J : Iv] {P : Program} {w : World} {K : PySem.W.Frag} {mg : Str → Option Value} {base : Heap} {g : Addr}
def tPrE : Ty := tE Pk fun kvs => tDK (pkPs kvs)
def tFr : Ty := tE (fun i : Int => 0 ≤ i ∧ i ≤ 9) tI
def tUn (R : Ru) : Ty := tE (fun u : Nat => u = 0 ∨ u ∈ R.sizes) nT
def wPs (R : Ru) : List (Key × Ty) := [(.inr "prices", tPrE), (.inr "free", tFr), (.inr "until", tUn R)]
def woPs (a : WA) : List (Key × Ty) := [(.inr "prices", tDK (pkPs a.1)), (.inr "free", tI a.2.1), (.inr "until", nT a.2.2)]
def tWT (a : WA) : Ty := tDK (woPs a)
def WFit (R : Ru) (a : WA) : Prop := a.Ok ∧ (a.2.2 = 0 ∨ a.2.2 ∈ R.sizes)
omit [Iv] in
theorem wo_of {R : Ru} (hR : R.Ok) {B : Hp} {v : V} (h : (tDK (wPs R)).p B v) : (tE (WFit R) tWT).p B v := by
  obtain ⟨d, kvs, e, h1, r⟩ := h
  cases r with
  | cons r1 r =>
  cases r with
  | cons r2 r =>
  cases r with
  | cons r3 r =>
  cases r
  obtain ⟨pk, hpk, r1⟩ := r1
  obtain ⟨fr, hfr, r2⟩ := r2
  obtain ⟨u, hu, r3⟩ := r3
  refine ⟨(pk, fr, u), ⟨⟨hpk, hfr, ?_⟩, hu⟩, d, _, e, h1, .cons r1 (.cons r2 (.cons r3 .nil))⟩
  rcases hu with e | h
  · show u ≤ 5
    omega
  · exact (hR.sz.2 u h).2
omit [Iv] in
theorem pk_nil : Pk [] := ⟨⟨List.Pairwise.nil, fun x hx => nomatch hx⟩, fun q hq => nomatch hq⟩
omit [Iv] in
theorem pk_five {f : Nat → Int} (h : ∀ z, 1 ≤ z → z ≤ 5 → 0 ≤ f z ∧ f z ≤ 9) : Pk ([1, 2, 3, 4, 5].map fun z => (z, f z)) := ⟨by
    rw [List.map_map]
    exact asc_sub5 (by rw [show ([1, 2, 3, 4, 5].map ((fun q : Nat × Int => q.1) ∘ fun z => (z, f z))) = [1, 2, 3, 4, 5] from rfl]; exact List.Sublist.refl _), fun q hq => by
    obtain ⟨z, hz, e⟩ := List.mem_map.mp hq
    rw [← e]
    have h2 : ∀ x ∈ [1, 2, 3, 4, 5], 1 ≤ x ∧ x ≤ 5 := by decide
    exact h z (h2 z hz).1 (h2 z hz).2⟩
def tTen : Ty := tE (fun r : Nat => r < 10) nT
omit [Iv] in
theorem pk_of {B : Hp} : ∀ {ys : List Nat} {kvs : List (Key × V)}, DRel B (ys.map fun z : Nat => ((.inl (z : Int) : Key), tTen)) kvs → ∃ ks : List (Nat × Int), ks.map (·.1) = ys ∧ (∀ q ∈ ks, 0 ≤ q.2 ∧ q.2 ≤ 9) ∧ DRel B (pkPs ks) kvs
  | [], _, .nil => ⟨[], rfl, (fun q hq => nomatch hq), .nil⟩
  | z :: ys, _, .cons ⟨r, hr, e⟩ d => by
    obtain ⟨ks, h1, h2, h3⟩ := pk_of d
    refine ⟨(z, (r : Int)) :: ks, by rw [List.map_cons, h1], fun q hq => ?_, .cons e h3⟩
    rcases List.mem_cons.mp hq with e | hq
    · rw [e]
      show 0 ≤ (r : Int) ∧ (r : Int) ≤ 9
      omega
    · exact h2 q hq
omit [Iv] in
theorem pr_of {B : Hp} {v : V} (h : (tE (fun ys : List Nat => ys.Sublist [1, 2, 3, 4, 5]) fun ys => tDK (ys.map fun z : Nat => ((.inl (z : Int) : Key), tTen))).p B v) : tPrE.p B v := by
  obtain ⟨ys, hy, d, kvs, e, h1, r⟩ := h
  obtain ⟨ks, k1, k2, k3⟩ := pk_of r
  exact ⟨ks, ⟨by rw [k1]; exact asc_sub5 hy, k2⟩, d, kvs, e, h1, k3⟩
theorem sc__law_worth : FnScope ["_law_bag_here", "_law_told", "_law_way", "_law_found", "_law_prices", "_law_size"] ["_law_bag_here", "_law_told"] (defScope s__law_worth) := ⟨rfl, rfl, rfl, by decide +kernel, rfl, by decide +kernel, by decide +kernel⟩
theorem nd5 {f : Nat → Ty} : (([1, 2, 3, 4, 5].map fun z : Nat => ((.inl (z : Int) : Key), f z)).map (·.1)).Nodup := by
  rw [List.map_map]
  show ([1, 2, 3, 4, 5].map fun z : Nat => (.inl (z : Int) : Key)).Nodup
  decide
theorem ndS {ys : List Nat} (h : ys.Sublist [1, 2, 3, 4, 5]) {f : Nat → Ty} : ((ys.map fun z : Nat => ((.inl (z : Int) : Key), f z)).map (·.1)).Nodup := by
  rw [List.map_map]
  have h2 : (ys.map fun z : Nat => (.inl (z : Int) : Key)).Sublist ([1, 2, 3, 4, 5].map fun z : Nat => (.inl (z : Int) : Key)) := h.map _
  exact h2.nodup (by decide)
theorem c_worth (T : Top K mg) (tk : Tk P w K mg base g) : Cal P w K mg base "_law_worth" 3 (spF (α := Ru) (fun R => [tV (.ref g), tTold R]) (fun R => R.Ok) (fun R => tE (WFit R) tWT)) := by
  have nd := sc__law_worth.nd
  have C1 := c_one T tk nT
  unfold Tk at tk
  refine cal_F T.f__law_worth T.g__law_worth sc__law_worth (fun _ _ _ _ _ _ us hl => match us, hl with | [_, _], _ => rfl) (fun _ => rfl) (by decide) fun f cdv cd A outer s H0 E R B0 σ D hr hp a k hn => ?_
  have hp : R.Ok := hp
  have k : ∀ v B H, Nw nF B0 H0 B H → (tE (WFit R) tWT).p B v → D.rt v H := k
  have wnd : ((wPs R).map (·.1)).Nodup := by
    show List.Nodup [(.inr "prices" : Key), .inr "free", .inr "until"]
    decide
  refine rs_parN2 (i := 2) (j := 3) (ot := oDK (wPs R)) a (ev_call tk (hr.mono (by decide)) rfl (d := 6) (ea_cons (ev_name (i := 0) rfl (.inr (.inl rfl)) rfl) (ea_cons ev_int ea_nil)) ⟨by decide, by decide⟩) (en_disp (ps := wPs R) (eps_cons ev_str (EvE.ex (EvN.lock en_dnew) (p := Pk) (f := fun kvs => tDK (pkPs kvs)) fun B v h => ⟨[], pk_nil, h⟩) (eps_cons ev_str (EvE.exi (p := fun i : Int => 0 ≤ i ∧ i ≤ 9) (f := tI) (x := 1) ev_int ⟨by decide, by decide⟩) (eps_cons ev_str (EvE.exi (p := fun u : Nat => u = 0 ∨ u ∈ R.sizes) (f := nT) (x := 0) ev_int (.inl rfl)) eps_nil))) wnd) rfl nd rfl rfl (by decide) rfl rfl fun l σ B H s1 hl a => ?_
  obtain ⟨way, hw, a⟩ := a.openE 2 rfl
  -- the last part
  suffices last : ∀ (σ : L2.St) (B H : Hp) (l : Addr) (o4 : Option Ty), H0 l = none → At nF B0 H0 B0 [some (tV (.ref g)), some (tTold R), some (nT way), some (tV (.ref l)), o4, none] [(l, oDK (wPs R))] σ B H → RS _ _ D σ H by
    suffices third : ∀ (σ : L2.St) (B H : Hp) (l : Addr), H0 l = none → At nF B0 H0 B0 [some (tV (.ref g)), some (tTold R), some (nT way), some (tV (.ref l)), none, none] [(l, oDK (wPs R))] σ B H → RS _ _ D σ H by
      suffices second : ∀ (σ : L2.St) (B H : Hp) (l : Addr), H0 l = none → At nF B0 H0 B0 [some (tV (.ref g)), some (tTold R), some (nT way), some (tV (.ref l)), none, none] [(l, oDK (wPs R))] σ B H → RS _ _ D σ H by
        refine rs_whenN a (EvT.n (et_cmp op_eq (ev_name (i := 2) rfl (.inl rfl) rfl) ev_int (bin_eq rfl) (nomark _))) (fun B H s1 a => ?_) fun B H s1 a => second σ B H l hl a
        refine rs_setN (i := 3) (ot := oDK (wPs R)) a (en_disp (ps := wPs R) (eps_cons ev_str (EvE.ex (EvN.lockE (en_dictE (pr := fun _ : Unit => True) (ps := fun _ => [1, 2, 3, 4, 5].map fun z : Nat => ((.inl (z : Int) : Key), tI 1)) rfl rfl T.b_dict (EvE.to (ev_lc (own := [("_law_size", 5)]) (xs := [1, 2, 3, 4, 5]) (τ := nT) (p := fun _ => true) (g := fun z => tT [nT z, tI 1]) rfl nd (blkOk_by (N := ["_law_bag_here", "_law_told", "_law_way", "_law_found", "_law_prices", "_law_size"]) (sc := defScope s__law_worth) (by decide +kernel)) (EvI.is (ei_rng2 rfl T.b_range ev_int ev_int (by decide)) rg5) (by decide) (by decide) (fun _ _ _ _ _ _ _ => (tg_name (i := 5) nd rfl (.inl rfl))) (fun _ _ _ _ _ _ _ => ets_nil)
          (fun _ _ _ _ _ _ _ => fun _ => (ev_tup (ea_cons (ev_name (i := 5) rfl (.inl rfl) rfl) (ea_cons ev_int ea_nil))))) fun B v h => ⟨(), trivial, by rw [filter_yes] at h; exact h⟩) (fun _ _ => nd5) (fun _ _ => Nat.le_of_ble_eq_true rfl))) (p := Pk) (f := fun kvs => tDK (pkPs kvs)) fun B v ⟨_, _, h⟩ => ⟨_, pk_five (f := fun _ => 1) (fun _ _ _ => ⟨by decide, by decide⟩), h⟩) (eps_cons ev_str (EvE.exi (p := fun i : Int => 0 ≤ i ∧ i ≤ 9) (f := tI) (x := 0) ev_int ⟨by decide, by decide⟩) (eps_cons ev_str (EvE.exi (p := fun u : Nat => u = 0 ∨ u ∈ R.sizes) (f := nT) (x := 0) ev_int (.inl rfl)) eps_nil))) wnd) nd rfl (.inl rfl) fun l2 σ B H s1 hl2 a => rs_nil (second σ B H l2 hl2 ((a.perm (.swap _ _ _)).tail))
      intro σ B H l hl a
      refine rs_whenN a (EvT.n (et_cmp op_eq (ev_name (i := 2) rfl (.inl rfl) rfl) ev_int (bin_eq rfl) (nomark _))) (fun B H s1 a => ?_) fun B H s1 a => third σ B H l hl a
      refine rs_setN (i := 3) (ot := oDK (wPs R)) a (en_disp (ps := wPs R) (eps_cons ev_str (EvE.ex (EvN.lockE (en_dictE (pr := fun _ : Unit => True) (ps := fun _ => [1, 2, 3, 4, 5].map fun z : Nat => ((.inl (z : Int) : Key), nT z)) rfl rfl T.b_dict (EvE.to (ev_lc (own := [("_law_size", 5)]) (xs := [1, 2, 3, 4, 5]) (τ := nT) (p := fun _ => true) (g := fun z => tT [nT z, nT z]) rfl nd (blkOk_by (N := ["_law_bag_here", "_law_told", "_law_way", "_law_found", "_law_prices", "_law_size"]) (sc := defScope s__law_worth) (by decide +kernel)) (EvI.is (ei_rng2 rfl T.b_range ev_int ev_int (by decide)) rg5) (by decide) (by decide) (fun _ _ _ _ _ _ _ => (tg_name (i := 5) nd rfl (.inl rfl))) (fun _ _ _ _ _ _ _ => ets_nil)
        (fun _ _ _ _ _ _ _ => fun _ => (ev_tup (ea_cons (ev_name (i := 5) rfl (.inl rfl) rfl) (ea_cons (ev_name (i := 5) rfl (.inl rfl) rfl) ea_nil))))) fun B v h => ⟨(), trivial, by rw [filter_yes] at h; exact h⟩) (fun _ _ => nd5) (fun _ _ => Nat.le_of_ble_eq_true rfl))) (p := Pk) (f := fun kvs => tDK (pkPs kvs)) fun B v ⟨_, _, h⟩ => ⟨_, pk_five (f := fun z => (z : Int)) (fun z h1 h2 => by omega), h⟩) (eps_cons ev_str (EvE.exi (p := fun i : Int => 0 ≤ i ∧ i ≤ 9) (f := tI) (x := 0) ev_int ⟨by decide, by decide⟩) (eps_cons ev_str (EvE.exi (p := fun u : Nat => u = 0 ∨ u ∈ R.sizes) (f := nT) (x := 0) ev_int (.inl rfl)) eps_nil))) wnd) nd rfl (.inl rfl) fun l2 σ B H s1 hl2 a => rs_nil (third σ B H l2 hl2 ((a.perm (.swap _ _ _)).tail))
    intro σ B H l hl a
    refine rs_whenN a (EvT.n (et_cmp op_gt (ev_name (i := 2) rfl (.inl rfl) rfl) ev_int bin_I0 (nomark _))) (fun B H s1 a => ?_) fun B H s1 a => last σ B H l _ hl a
    refine rs_set (i := 4) (t := tPrE) a (EvE.to (EvN.lockE (en_dictE (pr := fun ys : List Nat => ys.Sublist [1, 2, 3, 4, 5]) (ps := fun ys => ys.map fun z : Nat => ((.inl (z : Int) : Key), tTen)) rfl rfl T.b_dict (EvE.to (ev_lcN (own := [("_law_size", 5)]) (xs := [1, 2, 3, 4, 5]) (τ := nT) (g := fun z => tT [nT z, tTen]) rfl nd (blkOk_by (N := ["_law_bag_here", "_law_told", "_law_way", "_law_found", "_law_prices", "_law_size"]) (sc := defScope s__law_worth) (by decide +kernel)) (EvI.is (ei_rng2 rfl T.b_range ev_int ev_int (by decide)) rg5) (by decide) (by decide) (fun _ _ _ _ _ _ _ => (tg_name (i := 5) nd rfl (.inl rfl)))
      (fun _ _ _ _ _ _ _ => (ets_oneN (et_cmpN op_gt (ev_call tk (hr.mono (by decide)) rfl (d := 3) (ea_cons (ev_name (i := 0) rfl (.inr (.inl rfl)) rfl) (ea_cons ev_int ea_nil)) ⟨by decide, by decide⟩) ev_int (Bin.e1 fun r _ => Bin.exi (f := tB) bin_I0 trivial) (nomark _))))
      (fun _ _ _ _ _ _ _ => (ev_tup (ea_cons (ev_name (i := 5) rfl (.inl rfl) rfl) (ea_cons (ev_call tk (hr.mono (by decide)) rfl (d := 10) (ea_cons (ev_name (i := 0) rfl (.inr (.inl rfl)) rfl) (ea_cons ev_int ea_nil)) ⟨by decide, by decide⟩) ea_nil))))) fun B v ⟨ys, hy, h⟩ => ⟨ys, hy, show (tL ((ys.map fun z : Nat => ((.inl (z : Int) : Key), tTen)).map fun q => tT [tV (kV q.1), q.2])).p B v by rw [List.map_map]; exact h⟩) (fun ys hy => ndS hy) (fun ys hy => by rw [List.length_map]; exact Nat.le_trans hy.length_le (by decide)))) fun B v h => pr_of h) nd rfl (.inl rfl) fun σ B H s1 a => ?_
    refine rs_setN (i := 3) (ot := oDK (wPs R)) a (en_disp (ps := wPs R) (eps_cons ev_str (ev_name (i := 4) rfl (.inl rfl) rfl) (eps_cons ev_str (EvE.ex (t := tTen) (ev_call tk (hr.mono (by decide)) rfl (d := 10) (ea_cons (ev_name (i := 0) rfl (.inr (.inl rfl)) rfl) (ea_cons ev_int ea_nil)) ⟨by decide, by decide⟩) (p := fun i : Int => 0 ≤ i ∧ i ≤ 9) (f := tI) fun B v ⟨r, hr, h⟩ => ⟨(r : Int), by omega, h⟩) (eps_cons ev_str (EvE.exi (p := fun u : Nat => u = 0 ∨ u ∈ R.sizes) (f := nT) (x := 0) ev_int (.inl rfl)) eps_nil))) wnd) nd rfl (.inl rfl) fun l2 σ B H s1 hl2 a => rs_nil (last σ B H l2 _ hl2 ((a.perm (.swap _ _ _)).tail))
  intro σ B H l o4 hl a
  suffices ret : ∀ (B H : Hp), At nF B0 H0 B0 [some (tV (.ref g)), some (tTold R), some (nT way), some (tV (.ref l)), o4, none] [(l, oDK (wPs R))] σ B H → RS _ _ D σ H by
    refine rs_whenN a (et_cmpN op_eq (ev_call tk (hr.mono (by decide)) rfl (d := 3) (ea_cons (ev_name (i := 0) rfl (.inr (.inl rfl)) rfl) (ea_cons ev_int ea_nil)) ⟨by decide, by decide⟩) ev_int (Bin.e1 fun r _ => Bin.exi (f := tB) (bin_eq rfl) trivial) (nomark _)) (fun B H s1 a => ?_) fun B H s1 a => ret B H a
    refine rs_dput (t := tUn R) (key := .inr "until") hr a (EvE.wid (ev_call C1 hr rfl (d := R.sizes) (ea_cons (ev_name (i := 0) rfl (.inr (.inl rfl)) rfl) (ea_cons (ev_dget (ps := toldPs R) (k := .inr "sizes") hr (ev_name (i := 1) rfl (.inl rfl) rfl) ev_str rfl) ea_nil)) ⟨hp.ne, by have := hp.sz.len; omega⟩) (q := fun u : Nat => u = 0 ∨ u ∈ R.sizes) fun u hu => .inr hu) (ev_name (i := 3) rfl (.inl rfl) rfl) ev_str (.refl _) (Nat.le_of_ble_eq_true rfl) fun B H s1 a => rs_nil (ret B H (a.cs (by kernel_rfl)))
  intro B H a
  exact rs_lockD (i := 3) a hl rfl fun B H s1 a => rs_ret a (EvE.to (ev_name (i := 3) (t := tDK (wPs R)) rfl (.inl rfl) rfl) fun B v h => wo_of hp h) fun v B' H' _ a' r => k v B' H' a'.n r
theorem sc__law_worth_made : FnScope ["_law_worth_here"] ["_law_worth_here"] (defScope s__law_worth_made) := ⟨rfl, rfl, rfl, by decide +kernel, rfl, by decide +kernel, by decide +kernel⟩
theorem c_worth_made (T : Top K mg) : Cal P w K mg base "_law_worth_made" 6 (spF (α := WA) (fun a => [tWT a]) (fun a => a.Ok) (fun a => tWo K a.wo)) := by
  obtain ⟨fd, Fd, ok⟩ := c_Worth_init (P := P) (w := w) (base := base) T
  obtain ⟨_, _, kb, hg⟩ := kb_Worth Fd
  refine cal_F T.f__law_worth_made T.g__law_worth_made sc__law_worth_made (fun _ _ _ _ _ _ us hl => match us, hl with | [_], _ => rfl) (fun _ => rfl) (by decide) fun f cdv cd A outer s H0 E d B0 σ D hr hp a k hn => ?_
  refine rs_ret a (EvE.to (ev_makeK (d := d) T.m_Worth ok kb hg T.g_Worth hr rfl (ea_cons (ev_dget (ps := woPs d) (k := .inr "prices") hr (ev_name (i := 0) rfl (.inl rfl) rfl) ev_str rfl) (ea_cons (ev_dget (ps := woPs d) (k := .inr "free") hr (ev_name (i := 0) rfl (.inl rfl) rfl) ev_str rfl) ea_nil)) (ek_cons (ev_dget (ps := woPs d) (k := .inr "until") hr (ev_name (i := 0) rfl (.inl rfl) rfl) ev_str rfl) ek_nil) hp rfl rfl rfl) fun B v h => tIns_wo hp h) fun v B' H' _ a' r => k v B' H' a'.n r
end
end Ls
set_option maxHeartbeats 1000000 -- Ui
/-! the law's own sales -/
namespace Ls
open PySem Spec PyProof.Rows L2
section
variable [J : Iv] {P : Program} {w : World} {K : PySem.W.Frag} {mg : Str → Option Value} {base : Heap} {g : Addr}
def spT3 (f : Ru → S3 → Nat → Ty) : Sp := spF (α := Ru × S3 × Nat) (fun d => [tTold d.1, tSt d.2.1, nT d.2.2]) (fun d => RSZ d.1 d.2.1 d.2.2) (fun d => f d.1 d.2.1 d.2.2)
theorem sc__law_befores : FnScope ["_law_told", "_law_stretch_here", "_law_size", "_law_left", "_law_length", "_law_right"] ["_law_told", "_law_stretch_here", "_law_size"] (defScope s__law_befores) := ⟨rfl, rfl, rfl, by decide +kernel, rfl, by decide +kernel, by decide +kernel⟩
theorem wh_any {R : Ru} : decide (V.str R.wh = V.str "any") = !R.side := by
  unfold Ru.wh
  cases R.side
  · exact decide_eq_true rfl
  · exact decide_eq_false (fun h => absurd (V.str.inj h) (by decide +kernel))
theorem c_befores (T : Top K mg) : Cal P w K mg base "_law_befores" 3 (spT3 fun R s z => tNs (befs R s z)) := by
  have nd := sc__law_befores.nd
  refine cal_F T.f__law_befores T.g__law_befores sc__law_befores (fun _ _ _ _ _ _ us hl => match us, hl with | [_, _, _], _ => rfl) (fun _ => rfl) (by decide) fun f cdv cd A outer s H0 E ⟨R, t, z⟩ B0 σ D hr hp a k hn => ?_
  have hp : RSZ R t z := hp
  have hz := hp.1.rng
  have hn1 : t.n ≤ 100 := hp.2
  have hz0 : 1 ≤ z := hz.1
  have k : ∀ v B H, Nw nF B0 H0 B H → (tNs (befs R t z)).p B v → D.rt v H := k
  refine rs_asg a (ev_name (i := 1) rfl (.inl rfl) rfl) (tg_tup rfl (tgs_cons (tg_name (i := 3) nd rfl (.inl rfl)) (tgs_cons (tg_name (i := 4) nd rfl (.inl rfl)) (tgs_cons (tg_name (i := 5) nd rfl (.inl rfl)) tgs_nil)))) fun σ B H s1 a => ?_
  refine rs_when a (et_cmp op_lt (ev_name (i := 4) rfl (.inl rfl) rfl) (ev_name (i := 2) rfl (.inl rfl) rfl) bin_I0 (nomark _)) (fun hb B H s1 a => ?_) fun hb B H s1 a => ?_
  · have hb : (t.n : Int) < (z : Int) := of_decide_eq_true hb
    have e : befs R t z = [] := by unfold befs; rw [if_pos (by omega)]
    rw [e] at k
    exact rs_ret a (ev_lst ea_nil) fun v B' H' _ a' r => k v B' H' a'.n r
  · have hb : ¬ (t.n : Int) < (z : Int) := of_decide_eq_false hb
    have hle : z ≤ t.n := by omega
    have eb : befs R t z = if R.side then (if t.n = z then [0] else [0, t.n - z]) else List.range (t.n - z + 1) := by unfold befs; rw [if_neg (by omega)]
    refine rs_when a (EvT.is (et_cmp op_eq (ev_dget (ps := toldPs R) (k := .inr "where") hr (ev_name (i := 0) rfl (.inl rfl) rfl) ev_str rfl) ev_str (bin_eq rfl) (nomark _)) wh_any) (fun hb B H s1 a => ?_) fun hb B H s1 a => ?_
    · have hs : ¬ R.side = true := by simpa using hb
      rw [eb, if_neg hs] at k
      exact rs_ret a (ev_listRg (m := t.n - z + 1) rfl rfl T.b_list rfl T.b_range (ev_bin op_add (ev_bin op_sub (ev_name (i := 4) rfl (.inl rfl) rfl) (ev_name (i := 2) rfl (.inl rfl) rfl) bin_I0) ev_int bin_I0) (by show (t.n : Int) - (z : Int) + 1 = _; omega) (by omega)) fun v B' H' _ a' r => k v B' H' a'.n r
    · have hs : R.side = true := by simpa using hb
      rw [eb, if_pos hs] at k
      refine rs_ret (t := tNs (if t.n = z then [0] else [0, t.n - z])) a (EvE.is (ev_callB (cr_sortedSet rfl) rfl T.b_sorted bt_sorted (ea_cons (ev_callTy (cr_setI rfl) rfl T.b_set bt_set (ea_cons (EvE.is (ev_lst (ea_cons (ev_int (i := 0)) (ea_cons (ev_bin op_sub (ev_name (i := 4) rfl (.inl rfl) rfl) (ev_name (i := 2) rfl (.inl rfl) rfl) bin_I0) ea_nil))) (t2 := tL ([(0 : Int), (t.n : Int) - (z : Int)].map tI)) rfl) ea_nil) (cb_setI (Nat.le_of_ble_eq_true rfl))) ea_nil) (cb_sortedSet (ms := (if t.n = z then [0] else [0, t.n - z]).map fun x : Nat => (x : Int)) (Nat.le_of_ble_eq_true rfl) ?_ ?_)) (by rw [← nat_tys] <;> rfl)) fun v B' H' _ a' r => k v B' H' a'.n r
      · split
        · exact List.pairwise_singleton ..
        · have e0 : 0 < t.n - z := by omega
          exact asc_pair e0
      · intro j
        split
        · simp
          omega
        · simp
          omega
theorem sc__law_spoils : FnScope ["_law_told", "_law_stretch_here", "_law_size", "_law_before", "_law_left", "_law_length", "_law_right"] ["_law_told", "_law_stretch_here", "_law_size", "_law_before"] (defScope s__law_spoils) := ⟨rfl, rfl, rfl, by decide +kernel, rfl, by decide +kernel, by decide +kernel⟩
theorem c_spoils (T : Top K mg) : Cal P w K mg base "_law_spoils" 3 (spF (α := Ru × S3 × Nat × Nat) (fun d => [tTold d.1, tSt d.2.1, nT d.2.2.1, nT d.2.2.2]) (fun d => d.2.2.2 + d.2.2.1 ≤ d.2.1.n) (fun d => tB (!good d.1 d.2.1 d.2.2.1 d.2.2.2))) := by
  have nd := sc__law_spoils.nd
  refine cal_F T.f__law_spoils T.g__law_spoils sc__law_spoils (fun _ _ _ _ _ _ us hl => match us, hl with | [_, _, _, _], _ => rfl) (fun _ => rfl) (by decide) fun f cdv cd A outer s H0 E ⟨R, t, z, b⟩ B0 σ D hr hp a k hn => ?_
  have hp : b + z ≤ t.n := hp
  have k : ∀ v B H, Nw nF B0 H0 B H → (tB (!good R t z b)).p B v → D.rt v H := k
  have e : (decide (b ∈ R.bad t.l) || decide (t.n - z - b ∈ R.bad t.r)) = !good R t z b := by
    unfold good
    cases decide (b ∈ R.bad t.l) <;> cases decide (t.n - z - b ∈ R.bad t.r) <;> rfl
  refine rs_asg a (ev_name (i := 1) rfl (.inl rfl) rfl) (tg_tup rfl (tgs_cons (tg_name (i := 4) nd rfl (.inl rfl)) (tgs_cons (tg_name (i := 5) nd rfl (.inl rfl)) (tgs_cons (tg_name (i := 6) nd rfl (.inl rfl)) tgs_nil)))) fun σ B H s1 a => ?_
  refine rs_ret a (EvE.isB (ev_or (ev_cmp op_in_seq (ev_name (i := 3) rfl (.inl rfl) rfl) (ev_dget (ps := badPs R.bad) (k := .inr t.l.s) hr (EvE.to (ev_dget (ps := toldPs R) (k := .inr "bad") hr (ev_name (i := 0) rfl (.inl rfl) rfl) ev_str rfl) fun _ _ h => tBad_dK (bad := R.bad) h) (ev_name (i := 4) rfl (.inl rfl) rfl) (look_bad t.l)) (bin_inN rfl) rfl) (fun _ => (ev_one (ev_cmp op_in_seq (ev_bin op_sub (ev_bin op_sub (ev_name (i := 5) rfl (.inl rfl) rfl) (ev_name (i := 2) rfl (.inl rfl) rfl) bin_I0) (ev_name (i := 3) rfl (.inl rfl) rfl) bin_I0) (ev_dget (ps := badPs R.bad) (k := .inr t.r.s) hr (EvE.to (ev_dget (ps := toldPs R) (k := .inr "bad") hr (ev_name (i := 0) rfl (.inl rfl) rfl) ev_str rfl) fun _ _ h => tBad_dK (bad := R.bad) h) (ev_name (i := 6) rfl (.inl rfl) rfl) (look_bad t.r)) (bin_inN (n := t.n - z - b) (by show (t.n : Int) - (z : Int) - (b : Int) = _; omega)) rfl)))) e) fun v B' H' _ a' r => k v B' H' a'.n r
theorem sc__law_offers : FnScope ["_law_told", "_law_stretch_here", "_law_size", "_law_some", "_law_good", "_law_before"] ["_law_told", "_law_stretch_here", "_law_size"] (defScope s__law_offers) := ⟨rfl, rfl, rfl, by decide +kernel, rfl, by decide +kernel, by decide +kernel⟩
theorem c_offers (T : Top K mg) : Cal P w K mg base "_law_offers" 4 (spT3 fun R s z => tNs (offers R s z)) := by
  have nd := sc__law_offers.nd
  have C1 := c_befores (P := P) (w := w) (base := base) T
  have C2 := c_spoils (P := P) (w := w) (base := base) T
  refine cal_F T.f__law_offers T.g__law_offers sc__law_offers (fun _ _ _ _ _ _ us hl => match us, hl with | [_, _, _], _ => rfl) (fun _ => rfl) (by decide) fun f cdv cd A outer s H0 E ⟨R, t, z⟩ B0 σ D hr hp a k hn => ?_
  have hp : RSZ R t z := hp
  have hn1 : t.n ≤ 100 := hp.2
  have k : ∀ v B H, Nw nF B0 H0 B H → (tNs (offers R t z)).p B v → D.rt v H := k
  refine rs_set (i := 3) a (ev_call C1 hr rfl (d := (R, t, z)) (ea_cons (ev_name (i := 0) rfl (.inr (.inl rfl)) rfl) (ea_cons (ev_name (i := 1) rfl (.inr (.inl rfl)) rfl) (ea_cons (ev_name (i := 2) rfl (.inr (.inl rfl)) rfl) ea_nil))) hp) nd rfl (.inl rfl) fun σ B H s1 a => ?_
  refine rs_setLc (i := 4) (own := [("_law_before", 5)]) (xs := befs R t z) (τ := nT) (p := good R t z) (g := nT) a rfl nd rfl rfl rfl (blkOk_by (N := ["_law_told", "_law_stretch_here", "_law_size", "_law_some", "_law_good", "_law_before"]) (sc := defScope s__law_offers) (by decide +kernel)) (ei_list (ev_name (i := 3) (t := tNs (befs R t z)) rfl (.inl rfl) rfl)) (by decide) (by have := befs_len R t z; omega) (fun _ _ _ _ _ _ _ => (tg_name (i := 5) nd rfl (.inl rfl)))
    (fun _ _ _ _ _ x hx => (ets_one (EvT.is (et_not (et_val (ev_call C2 hr rfl (d := (R, t, z, x)) (ea_cons (ev_name (i := 0) rfl (.inr (.inl rfl)) rfl) (ea_cons (ev_name (i := 1) rfl (.inr (.inl rfl)) rfl) (ea_cons (ev_name (i := 2) rfl (.inr (.inl rfl)) rfl) (ea_cons (ev_name (i := 5) rfl (.inl rfl) rfl) ea_nil)))) (befs_fit hx)))) (Bool.not_not _)))) (fun _ _ _ _ _ _ _ => fun _ => (ev_name (i := 5) rfl (.inl rfl) rfl)) fun σ B H s1 a => ?_
  suffices last : ∀ (σ : L2.St) (B H : Hp), At nF B0 H0 B0 [some (tTold R), some (tSt t), some (nT z), some (tNs (befs R t z)), some (tNs (lets R t z)), none] [] σ B H → RS _ _ D σ H by
    have e : (decide (goods R t z = []) && R.soft) = decide (goods R t z = [] ∧ R.soft = true) := by
      cases R.soft <;> simp
    refine rs_when a (EvT.is (et_w (ew_and (et_cmp (op_eqD hr.units) (ev_name (i := 4) rfl (.inl rfl) rfl) (ev_lst ea_nil) bin_eqNil (nomark _)) (fun _ => (ew_and1 (et_val (ev_dget (ps := toldPs R) (k := .inr "soft") (t := tB R.soft) hr (ev_name (i := 0) rfl (.inr (.inl rfl)) rfl) ev_str rfl)))))) e) (fun hb B H s1 a => ?_) fun hb B H s1 a => ?_
    · refine rs_set (i := 4) (t := tNs (lets R t z)) a (EvE.is (ev_name (i := 3) (t := tNs (befs R t z)) rfl (.inl rfl) rfl) (by unfold lets; rw [if_pos (of_decide_eq_true hb)])) nd rfl (.inl rfl) fun σ B H s1 a => rs_nil (last σ B H a)
    · have el : goods R t z = lets R t z := by unfold lets; rw [if_neg (of_decide_eq_false hb)]
      have a2 : At nF B0 H0 B0 [some (tTold R), some (tSt t), some (nT z), some (tNs (befs R t z)), some (tNs (goods R t z)), none] [] σ B H := a
      rw [el] at a2
      exact last σ B H a2
  intro σ B H a
  refine rs_ret a (ev_ifx (et_cmp op_gt (ev_dget (ps := toldPs R) (k := .inr "offer") (t := nT R.offer) hr (ev_name (i := 0) rfl (.inr (.inl rfl)) rfl) ev_str rfl) ev_int bin_I0 (nomark _)) (fun hb => EvE.is (ev_sliceL (ev_name (i := 4) (t := tL ((lets R t z).map nT)) rfl (.inl rfl) rfl) eo_none (eo_some (ev_dget (ps := toldPs R) (k := .inr "offer") (t := nT R.offer) hr (ev_name (i := 0) rfl (.inr (.inl rfl)) rfl) ev_str rfl))) ?_) (fun hb => EvE.is (ev_name (i := 4) rfl (.inl rfl) rfl) ?_)) fun v B' H' _ a' r => k v B' H' a'.n r
  · have hb : 0 < (R.offer : Int) := of_decide_eq_true hb
    show tL _ = tNs (offers R t z)
    unfold offers
    rw [if_pos (by omega), cut_to, ← List.map_take]
    rfl
  · have hb : ¬ 0 < (R.offer : Int) := of_decide_eq_false hb
    show tNs _ = tNs (offers R t z)
    unfold offers
    rw [if_neg (by omega)]
end
end Ls
set_option maxHeartbeats 1000000 -- Uj
/-! the law's own sales, ends, prices -/
namespace Ls
open PySem Spec PyProof.Rows L2
def lsz (R : Ru) (a : WA) : List Nat := if a.2.2 = 0 then R.sizes else [a.2.2]
theorem mayEnd_lsz {R : Ru} {a : WA} {s : S3} : decide ((lsz R a).filter (fun z => !decide (offers R s z = [])) = []) = mayEnd R a.wo s := by
  have h1 : ∀ L : List Nat, decide (L.filter (fun z => !decide (offers R s z = [])) = []) = L.all fun z => refuses R s z := fun L => by
    induction L with
    | nil => rfl
    | cons z L ih =>
      rw [List.all_cons, ← ih, List.filter_cons]
      unfold refuses
      cases decide (offers R s z = []) with
      | true => rfl
      | false => rfl
  rw [h1]
  show _ = if a.2.2 = 0 then stuck R s else refuses R s a.2.2
  unfold lsz
  split
  · rfl
  · show (refuses R s a.2.2 && true) = _
    rw [Bool.and_true]
theorem look_pk {z : Nat} : ∀ {kvs : List (Nat × Int)}, (look (pkPs kvs) (.inl (z : Int))).getD (tI 0) = tI (pkPr kvs z)
  | [] => rfl
  | q :: r => by
    by_cases e : q.1 = z
    · show (look ((.inl (q.1 : Int), tI q.2) :: pkPs r) (.inl (z : Int))).getD (tI 0) = _
      rw [look_pos (J := Jb) (kinl.mpr e)]
      unfold pkPr
      rw [List.find?_cons_of_pos (by rw [e]; exact decide_eq_true rfl)]
      rfl
    · show (look ((.inl (q.1 : Int), tI q.2) :: pkPs r) (.inl (z : Int))).getD (tI 0) = _
      rw [look_neg (J := Jb) (fun h => e (kinl.mp h)), look_pk (kvs := r)]
      unfold pkPr
      rw [List.find?_cons_of_neg (by rw [decide_eq_false e]; exact fun x => nomatch x)]
section
variable [J : Iv] {P : Program} {w : World} {K : PySem.W.Frag} {mg : Str → Option Value} {base : Heap} {g : Addr}
theorem sc__law_all_sales : FnScope ["_law_told", "_law_stretch_here", "_law_found", "_law_size", "_law_before"] ["_law_told", "_law_stretch_here"] (defScope s__law_all_sales) := ⟨rfl, rfl, rfl, by decide +kernel, rfl, by decide +kernel, by decide +kernel⟩
theorem c_all_sales (T : Top K mg) : Cal P w K mg base "_law_all_sales" 5 (spF (α := Ru × S3) (fun d => [tTold d.1, tSt d.2]) (fun d => d.1.Ok ∧ d.2.n ≤ 100) (fun d => tL ((sales d.1 d.2).map tPz))) := by
  have nd := sc__law_all_sales.nd
  have C1 := c_offers (P := P) (w := w) (base := base) T
  refine cal_F T.f__law_all_sales T.g__law_all_sales sc__law_all_sales (fun _ _ _ _ _ _ us hl => match us, hl with | [_, _], _ => rfl) (fun _ => rfl) (by decide) fun f cdv cd A outer s H0 E ⟨R, t⟩ B0 σ D hr hp a k hn => ?_
  obtain ⟨hR, hn1⟩ : R.Ok ∧ t.n ≤ 100 := hp
  have k : ∀ v B H, Nw nF B0 H0 B H → (tL ((sales R t).map tPz)).p B v → D.rt v H := k
  have hsl := hR.sz.len
  refine rs_setN (i := 2) a (en_lst ea_nil) nd rfl (.inl rfl) fun l σ B H s1 hl a => ?_
  refine rs_for (xs := R.sizes) (τ := nT) a rfl (ei_list (ev_dget (ps := toldPs R) (k := .inr "sizes") (t := tL (R.sizes.map nT)) hr (ev_name (i := 0) rfl (.inl rfl) rfl) ev_str rfl)) (fun _ _ => (tg_name (i := 3) nd rfl (.inr rfl)))
    (fun i Γ C => (∃ o3, Γ = [some (tTold R), some (tSt t), some (tV (.ref l)), o3, none]) ∧ C = [(l, oL (((R.sizes.take i).flatMap fun z => (offers R t z).map fun b => (z, b)).map tPz))]) ⟨⟨_, rfl⟩, rfl⟩ (fun B1 s1 i z Γ1 W1 σ B H hi hI a => ?_) fun Γ1 W1 σ B H s1 hI a => ?_
  · obtain ⟨⟨o3, rfl⟩, rfl⟩ := hI
    have hz : z ∈ R.sizes := List.mem_of_getElem? hi
    have hol := offers_len R t z
    refine rs_extend (us := ((offers R t z).map fun b => (z, b)).map tPz) a (ev_name (i := 2) rfl (.inl rfl) rfl) (.refl _) (EvE.is (ev_lc (own := [("_law_before", 4)]) (xs := offers R t z) (τ := nT) (p := fun _ => true) (g := fun b => tPz (z, b)) rfl nd (blkOk_by (N := ["_law_told", "_law_stretch_here", "_law_found", "_law_size", "_law_before"]) (sc := defScope s__law_all_sales) (by decide +kernel)) (ei_list (ev_call C1 hr rfl (d := (R, t, z)) (ea_cons (ev_name (i := 0) rfl (.inl rfl) rfl) (ea_cons (ev_name (i := 1) rfl (.inl rfl) rfl) (ea_cons (ev_name (i := 3) rfl (.inr (.inl rfl)) rfl) ea_nil))) ⟨⟨hR, hz⟩, hn1⟩)) (by decide) (by omega) (fun _ _ _ _ _ _ _ => (tg_name (i := 4) nd rfl (.inl rfl))) (fun _ _ _ _ _ _ _ => ets_nil)
      (fun _ _ _ _ _ _ _ => fun _ => (ev_tup (ea_cons (ev_name (i := 3) rfl (.inr (.inl rfl)) rfl) (ea_cons (ev_name (i := 4) rfl (.inl rfl) rfl) ea_nil))))) (by rw [filter_yes, List.map_map]; rfl)) ?_ (fun B H s1 a => rs_nil ⟨_, _, B, ⟨⟨_, rfl⟩, rfl⟩, a.cs (by rw [take_succ' hi, List.flatMap_append, List.map_append, List.flatMap_singleton])⟩) (he := rfl) (hs := rfl) (hm := pe_bm PySem.F.plainAttrs_list PySem.F.slot_list_extend PySem.F.type_list_extend mt_extend pe_c pa_c)
    rw [List.length_map, List.length_map, List.length_map]
    have h1 := flat_len (fun z => (offers R t z).map fun b => (z, b)) (t.n + 2) (R.sizes.take i) fun z _ => by rw [List.length_map]; exact offers_len R t z
    have h2 : (R.sizes.take i).length ≤ 5 := Nat.le_trans (List.length_take_le' ..) hsl
    have h3 := Nat.mul_le_mul_right (t.n + 2) h2
    omega
  · obtain ⟨⟨o3, rfl⟩, rfl⟩ := hI
    obtain ⟨B1, b1, a⟩ := a.frzL hl (i := 2) rfl
    refine rs_ret a (ev_name (i := 2) rfl (.inl rfl) rfl) fun v B' H' _ a' r => k v B' H' a'.n ?_
    rw [List.take_length] at r
    exact r
theorem sc__law_parted : FnScope ["_law_stretch_here", "_law_size", "_law_before", "_law_left", "_law_length", "_law_right"] ["_law_stretch_here", "_law_size", "_law_before"] (defScope s__law_parted) := ⟨rfl, rfl, rfl, by decide +kernel, rfl, by decide +kernel, by decide +kernel⟩
theorem c_parted (T : Top K mg) : Cal P w K mg base "_law_parted" 1 (spF (α := S3 × Nat × Nat) (fun d => [tSt d.1, nT d.2.1, nT d.2.2]) (fun d => d.2.2 + d.2.1 ≤ d.1.n) (fun d => tT [tSt (pL d.1 d.2.2), tSt (pR d.1 d.2.1 d.2.2)])) := by
  have nd := sc__law_parted.nd
  refine cal_F T.f__law_parted T.g__law_parted sc__law_parted (fun _ _ _ _ _ _ us hl => match us, hl with | [_, _, _], _ => rfl) (fun _ => rfl) (by decide) fun f cdv cd A outer s H0 E ⟨t, z, b⟩ B0 σ D hr hp a k hn => ?_
  have hp : b + z ≤ t.n := hp
  refine rs_asg a (ev_name (i := 0) rfl (.inl rfl) rfl) (tg_tup rfl (tgs_cons (tg_name (i := 3) nd rfl (.inl rfl)) (tgs_cons (tg_name (i := 4) nd rfl (.inl rfl)) (tgs_cons (tg_name (i := 5) nd rfl (.inl rfl)) tgs_nil)))) fun σ B H s1 a => ?_
  exact rs_ret a (ev_tup (ea_cons (ev_tup (ea_cons (ev_name (i := 3) rfl (.inl rfl) rfl) (ea_cons (ev_name (i := 2) rfl (.inl rfl) rfl) (ea_cons ev_str ea_nil)))) (ea_cons (ev_tup (ea_cons ev_str (ea_cons (EvE.is (ev_bin op_sub (ev_bin op_sub (ev_name (i := 4) rfl (.inl rfl) rfl) (ev_name (i := 1) rfl (.inl rfl) rfl) bin_I0) (ev_name (i := 2) rfl (.inl rfl) rfl) bin_I0) (t2 := nT (t.n - z - b)) (congrArg tI (by show (t.n : Int) - (z : Int) - (b : Int) = ((t.n - z - b : Nat) : Int); omega))) (ea_cons (ev_name (i := 5) rfl (.inl rfl) rfl) ea_nil)))) ea_nil))) fun v B' H' _ a' r => k v B' H' a'.n r
theorem sc__law_price : FnScope ["_law_worth_here", "_law_size"] ["_law_worth_here", "_law_size"] (defScope s__law_price) := ⟨rfl, rfl, rfl, by decide +kernel, rfl, by decide +kernel, by decide +kernel⟩
theorem dK_dr {ps : List (Key × Ty)} {B : Hp} {v : V} (h : (tDK ps).p B v) : (tDrK ps).p B v := by
  obtain ⟨a, kvs, e, i, r⟩ := h
  exact ⟨a, kvs, e, .inr i, r⟩
theorem c_lprice (T : Top K mg) : Cal P w K mg base "_law_price" 2 (spF (α := WA × Nat) (fun d => [tWT d.1, nT d.2]) (fun _ => True) (fun d => tI (d.1.wo.price d.2))) := by
  refine cal_F T.f__law_price T.g__law_price sc__law_price (fun _ _ _ _ _ _ us hl => match us, hl with | [_, _], _ => rfl) (fun _ => rfl) (by decide) fun f cdv cd A outer s H0 E ⟨d, z⟩ B0 σ D hr hp a k hn => ?_
  exact rs_ret a (ev_dgetR (ps := pkPs d.1) (key := .inl (z : Int)) hr (EvE.to (ev_dget (ps := woPs d) (k := .inr "prices") hr (ev_name (i := 0) rfl (.inl rfl) rfl) ev_str rfl) fun _ _ h => dK_dr h) (ev_name (i := 1) rfl (.inl rfl) rfl) (ev_int (i := 0)) (look_pk (kvs := d.1))) fun v B' H' _ a' r => k v B' H' a'.n r
theorem sc__law_may_end : FnScope ["_law_told", "_law_worth_here", "_law_stretch_here", "_law_some", "_law_size"] ["_law_told", "_law_worth_here", "_law_stretch_here"] (defScope s__law_may_end) := ⟨rfl, rfl, rfl, by decide +kernel, rfl, by decide +kernel, by decide +kernel⟩
def RWA (R : Ru) (a : WA) : Prop := R.Ok ∧ WFit R a
def spRWt (f : Ru → WA → S3 → Ty) : Sp := spF (α := Ru × WA × S3) (fun d => [tTold d.1, tWT d.2.1, tSt d.2.2]) (fun d => RWA d.1 d.2.1 ∧ d.2.2.n ≤ 100) (fun d => f d.1 d.2.1 d.2.2)
theorem c_lmay (T : Top K mg) : Cal P w K mg base "_law_may_end" 5 (spRWt fun R a s => tB (mayEnd R a.wo s)) := by
  have nd := sc__law_may_end.nd
  have C1 := c_offers (P := P) (w := w) (base := base) T
  refine cal_F T.f__law_may_end T.g__law_may_end sc__law_may_end (fun _ _ _ _ _ _ us hl => match us, hl with | [_, _, _], _ => rfl) (fun _ => rfl) (by decide) fun f cdv cd A outer s H0 E ⟨R, d, t⟩ B0 σ D hr hp a k hn => ?_
  obtain ⟨⟨hR, hW⟩, hn1⟩ : RWA R d ∧ t.n ≤ 100 := hp
  have k : ∀ v B H, Nw nF B0 H0 B H → (tB (mayEnd R d.wo t)).p B v → D.rt v H := k
  have hls : ∀ z ∈ lsz R d, z ∈ R.sizes := fun z hz => by
    unfold lsz at hz
    split at hz
    · exact hz
    · rename_i h0
      rw [List.mem_singleton.mp hz]
      exact hW.2.resolve_left h0
  have hll : (lsz R d).length ≤ 5 := by
    unfold lsz
    split
    · exact hR.sz.len
    · exact Nat.le_of_ble_eq_true rfl
  refine rs_set (i := 3) (t := tNs (lsz R d)) a (ev_ifx (EvT.is (et_cmp op_eq (ev_dget (ps := woPs d) (k := .inr "until") (t := nT d.2.2) hr (ev_name (i := 1) rfl (.inl rfl) rfl) ev_str rfl) ev_int (bin_eq rfl) (nomark _)) nat_eq0) (fun hb => EvE.is (ev_dget (ps := toldPs R) (k := .inr "sizes") (t := tNs R.sizes) hr (ev_name (i := 0) rfl (.inr (.inl rfl)) rfl) ev_str rfl) (by unfold lsz; rw [if_pos (of_decide_eq_true hb)])) (fun hb => EvE.is (ev_lst (ea_cons (ev_dget (ps := woPs d) (k := .inr "until") (t := nT d.2.2) hr (ev_name (i := 1) rfl (.inl rfl) rfl) ev_str rfl) ea_nil)) (by unfold lsz; rw [if_neg (of_decide_eq_false hb)]; rfl))) nd rfl (.inl rfl) fun σ B H s1 a => ?_
  refine rs_ret a (EvE.isB (ev_cmp (op_eqD hr.units) (EvE.is (ev_lc (own := [("_law_size", 4)]) (xs := lsz R d) (τ := nT) (p := fun z => !decide (offers R t z = [])) (g := nT) rfl nd (blkOk_by (N := ["_law_told", "_law_worth_here", "_law_stretch_here", "_law_some", "_law_size"]) (sc := defScope s__law_may_end) (by decide +kernel)) (ei_list (ev_name (i := 3) (t := tNs (lsz R d)) rfl (.inl rfl) rfl)) (by decide) (by omega) (fun _ _ _ _ _ _ _ => (tg_name (i := 4) nd rfl (.inl rfl)))
    (fun _ _ _ _ _ z hz => (ets_one (et_cmp (op_neD hr.units) (ev_call C1 hr rfl (d := (R, t, z)) (ea_cons (ev_name (i := 0) rfl (.inr (.inl rfl)) rfl) (ea_cons (ev_name (i := 2) rfl (.inr (.inl rfl)) rfl) (ea_cons (ev_name (i := 4) rfl (.inl rfl) rfl) ea_nil))) ⟨⟨hR, hls z hz⟩, hn1⟩) (ev_lst ea_nil) bin_neNil (nomark _)))) (fun _ _ _ _ _ _ _ => fun _ => (ev_name (i := 4) rfl (.inl rfl) rfl))) (t2 := tNs ((lsz R d).filter fun z => !decide (offers R t z = []))) rfl) (ev_lst ea_nil) bin_eqNil (nomark _)) mayEnd_lsz) fun v B' H' _ a' r => k v B' H' a'.n r
theorem sc__law_best : FnScope ["_law_found", "_law_is_low"] ["_law_found", "_law_is_low"] (defScope s__law_best) := ⟨rfl, rfl, rfl, by decide +kernel, rfl, by decide +kernel, by decide +kernel⟩
theorem c_lbest (T : Top K mg) : Cal P w K mg base "_law_best" 1 (spF (α := List Int × Bool) (fun d => [tL (d.1.map tI), tB d.2]) (fun d => d.1 ≠ []) (fun d => tI (pick d.2 d.1))) := by
  refine cal_F T.f__law_best T.g__law_best sc__law_best (fun _ _ _ _ _ _ us hl => match us, hl with | [_, _], _ => rfl) (fun _ => rfl) (by decide) fun f cdv cd A outer s H0 E ⟨ns, low⟩ B0 σ D hr hp a k hn => ?_
  have hp : ns ≠ [] := hp
  refine rs_ret a (ev_ifx (et_val (ev_name (i := 1) (t := tB low) rfl (.inl rfl) rfl)) (fun hb => ev_callB (cr_min rfl) rfl T.b_min bt_min (ea_cons (ev_name (i := 0) rfl (.inl rfl) rfl) ea_nil) (cb_min (List.length_pos_iff.mpr hp) (pick_mem low hp) fun y hy => by rw [hb]; exact pick_min hy)) (fun hb => ev_callB (cr_max rfl) rfl T.b_max bt_max (ea_cons (ev_name (i := 0) rfl (.inl rfl) rfl) ea_nil) (cb_max (List.length_pos_iff.mpr hp) (pick_mem low hp) fun y hy => by rw [hb]; exact pick_max hy))) fun v B' H' _ a' r => k v B' H' a'.n r
end
end Ls
set_option maxHeartbeats 1000000 -- Uk
/-! the law's tables -/
namespace Ls
open PySem Spec PyProof.Rows L2
theorem look_put {κ : Type} [DecidableEq κ] {ps : List (κ × Ty)} {k j : κ} {t : Ty} : look (putT ps k t) j = if j = k then some t else look ps j := by
  unfold putT
  by_cases h : (ps.any fun q => decide (q.1 = k)) = true
  · rw [if_pos h]
    induction ps with
    | nil => cases h
    | cons q r ih =>
      obtain ⟨q1, q2⟩ := q
      rw [List.map_cons]
      by_cases e : q1 = k
      · show look ((if q1 = k then (q1, t) else (q1, q2)) :: _) j = _
        rw [if_pos e]
        by_cases ej : j = k
        · rw [if_pos ej, look_pos (J := Jb) (e.trans ej.symm)]
        · rw [if_neg ej, look_neg (J := Jb) (fun x => ej (x.symm.trans e)), look_neg (J := Jb) (fun x => ej (x.symm.trans e))]
          have gen : ∀ l : List (κ × Ty), look (l.map fun q => if q.1 = k then (q.1, t) else q) j = look l j := fun l => by
            induction l with
            | nil => rfl
            | cons p l ih2 =>
              obtain ⟨p1, p2⟩ := p
              rw [List.map_cons]
              show look ((if p1 = k then (p1, t) else (p1, p2)) :: _) j = _
              by_cases e1 : p1 = k
              · rw [if_pos e1, look_neg (J := Jb) (fun x => ej (x.symm.trans e1)), look_neg (J := Jb) (fun x => ej (x.symm.trans e1)), ih2]
              · rw [if_neg e1]
                by_cases e2 : p1 = j
                · rw [look_pos (J := Jb) e2, look_pos (J := Jb) e2]
                · rw [look_neg (J := Jb) e2, look_neg (J := Jb) e2, ih2]
          exact gen r
      · show look ((if q1 = k then (q1, t) else (q1, q2)) :: _) j = _
        rw [if_neg e]
        rw [List.any_cons, decide_eq_false (show ¬ (q1, q2).1 = k from e), Bool.false_or] at h
        by_cases e2 : q1 = j
        · rw [look_pos (J := Jb) e2, look_pos (J := Jb) e2, if_neg (fun x => e (e2.trans x))]
        · rw [look_neg (J := Jb) e2, look_neg (J := Jb) e2]
          exact ih h
  · rw [if_neg h]
    induction ps with
    | nil =>
      show look [(k, t)] j = _
      by_cases e : j = k
      · rw [if_pos e, look_pos (J := Jb) e.symm]
      · rw [if_neg e, look_neg (J := Jb) (fun x => e x.symm)]
    | cons q r ih =>
      obtain ⟨q1, q2⟩ := q
      have h1 : ¬ q1 = k := fun e => h (by rw [List.any_cons, decide_eq_true (show (q1, q2).1 = k from e)]; rfl)
      have h2 : ¬ (r.any fun q => decide (q.1 = k)) = true := fun e => h (by rw [List.any_cons, e, Bool.or_true])
      rw [List.cons_append]
      by_cases e2 : q1 = j
      · rw [look_pos (J := Jb) e2, look_pos (J := Jb) e2, if_neg (fun x => h1 (e2.trans x))]
      · rw [look_neg (J := Jb) e2, look_neg (J := Jb) e2]
        exact ih h2
theorem putT_len2 {κ : Type} [DecidableEq κ] (ps : List (κ × Ty)) (k : κ) (t : Ty) : (putT ps k t).length ≤ ps.length + 1 := by
  unfold putT
  split
  · rw [List.length_map]; exact Nat.le_succ _
  · rw [List.length_append]; exact Nat.le_refl _
/-- these stretches have their totals -/
def Done (R : Ru) (W : Wo) (low : Bool) (ps : List (List Key × Ty)) (m : Nat) (D : S3 → Prop) : Prop := ps.length ≤ m ∧ ∀ s, D s → look ps s.key = some (tI (best R W low s))
theorem Done.add {R : Ru} {W : Wo} {low : Bool} {ps : List (List Key × Ty)} {m : Nat} {D D' : S3 → Prop} (h : Done R W low ps m D) (s : S3) (hD : ∀ t, D' t → t = s ∨ D t) : Done R W low (putT ps s.key (tI (best R W low s))) (m + 1) D' :=
  ⟨by have := putT_len2 ps s.key (tI (best R W low s)); have := h.1; omega, fun t ht => by
    rw [look_put]
    by_cases e : t = s
    · rw [e, if_pos rfl]
    · rw [if_neg fun x => e (key_inj x)]
      exact h.2 t ((hD t ht).resolve_left e)⟩
theorem Done.wid {R : Ru} {W : Wo} {low : Bool} {ps : List (List Key × Ty)} {m m' : Nat} {D D' : S3 → Prop} (h : Done R W low ps m D) (hm : m ≤ m') (hD : ∀ t, D' t → D t) : Done R W low ps m' D' := ⟨Nat.le_trans h.1 hm, fun t ht => h.2 t (hD t ht)⟩
section
variable [J : Iv] {P : Program} {w : World} {K : PySem.W.Frag} {mg : Str → Option Value} {base : Heap} {g : Addr}
section
variable {X : Cx} {F : Addr → Prop} {B0 H0 Bg : Hp} {Γ : Ctx} {W W' : Cells} {σ : L2.St} {B H : Hp} {i n : Nat} {a b c v o ix : Expr} {ot : OT} {t : Ty} {pos p1 : Pos} {l : Addr} {ps : List (List Key × Ty)} {kk : List Key} {k : Bool} {rest : List Stmt} {D : Ends}
theorem en_ifx (hc : EvT X Γ c k) (ha : k = true → EvN X Γ a ot) (hb : k = false → EvN X Γ b ot) : EvN X Γ (.IfExp c a b pos) ot := fun σ B H s bh Q q =>
  ⟨_, pe_ifExp pt_c pe_c pe_c, hc σ B H s bh _ fun B1 H1 n1 => by
    cases k with
    | true => exact ha rfl σ B1 H1 (s.mono n1.bb) n1.bh Q fun l B2 H2 n2 h1 h2 h3 h4 => q l B2 H2 (n1.trans n2) h1 h2 (n1.fresh h3) h4
    | false => exact hb rfl σ B1 H1 (s.mono n1.bb) n1.bh Q fun l B2 H2 n2 h1 h2 h3 h4 => q l B2 H2 (n1.trans n2) h1 h2 (n1.fresh h3) h4⟩
theorem At.rdT (a : At F B0 H0 Bg Γ W σ B H) (h : (l, oDT ps) ∈ W) (hi : Γ[i]? = some (some (tV (.ref l)))) : SOk (Γ.set i (some (tDr ps))) (fz W B H) σ := by
  obtain ⟨o, h1, kvs, e1, r3⟩ := a.fzl h
  subst e1
  exact SOk.re (s := a.s.mono fz_same) hi ⟨l, kvs, rfl, .inl h1, r3⟩
theorem rs_dputT (hr : Room n X.A) (a : At F B0 H0 Bg Γ W σ B H) (hv : EvE X Γ v t) (ho : EvE X Γ o (tV (.ref l))) (hi : EvE X Γ ix (tKey kk)) (hW : W.Perm ((l, oDT ps) :: W')) (hl : ps.length < 100000)
    (k : ∀ B' H', Same B B' → At F B0 H0 Bg Γ ((l, oDT (putT ps kk t)) :: W') σ B' H' → RS X rest D σ H') (hs : swapsWith v (some (.Subscript o ix p1)) pos.line X.env = pure false := by rfl) : RS X (.Assign [.Subscript o ix p1] v pos :: rest) D σ H :=
  rs_ps (ps_dput (hu_of hr) pe_c pe_c pe_c hs) (hv σ B H a.s a.n.bh _ fun u B1 H1 n1 r1 => ho σ B1 H1 (a.s.mono n1.bb) n1.bh _ fun w B2 H2 n2 r2 => hi σ B2 H2 (a.s.mono (n1.trans n2).bb) n2.bh _ fun z B3 H3 n3 ⟨b, xs, e3, e4, r3⟩ => by
    have r2 : w = .ref l := r2
    subst r2 e3
    rw [tys_kV r3] at e4
    have a3 := (a.step ((n1.trans n2).trans n3)).perm hW
    obtain ⟨_, _, ob, h3, kvs, e5, dr⟩ := a3.cell
    subst e5
    refine ⟨l, _, rfl, .inr ⟨kvs, kk, b, h3, rfl, n3.bh _ _ e4, by rw [dr.length]; exact lt5 hl, rfl⟩, k B3 _ ((n1.trans n2).trans n3).bb (a3.wr (ot' := oDT (putT ps kk t)) ⟨_, rfl, dr.put (t.mono (n2.trans n3).bb r1)⟩)⟩)
/-- the dict l, locked -/
theorem rs_lockT (a : At F B0 H0 Bg Γ ((l, oDT ps) :: W) σ B H) (h0 : H0 l = none) (hi : Γ[i]? = some (some (tV (.ref l)))) (k : ∀ B' H', Same B B' → At F B0 H0 Bg (Γ.set i (some (tDT ps))) W σ B' H' → RS X rest D σ H') : RS X rest D σ H :=
  rs_lock a h0 (fun B o ⟨kvs, e, _⟩ => by rw [e]; trivial) fun o od B' H' s h1 ⟨kvs, e, r⟩ a' => k B' H' s (a'.ctx (SOk.re (s := a'.s) hi ⟨l, kvs, rfl, ⟨od, by rw [← e]; exact h1⟩, r⟩))
end
theorem sc__law_tables : FnScope ["_law_told", "_law_worth_here", "_law_upto", "_law_is_low", "_law_known", "_law_length", "_law_left", "_law_right", "_law_stretch_here", "_law_found", "_law_size", "_law_before", "_law_one_here", "_law_other"] ["_law_told", "_law_worth_here", "_law_upto", "_law_is_low"] (defScope s__law_tables) := ⟨rfl, rfl, rfl, by decide +kernel, rfl, by decide +kernel, by decide +kernel⟩
/-- the table of the stretches up to m seats -/
def tTb (R : Ru) (W : Wo) (low : Bool) (m : Nat) : Ty := tE (fun ps => Done R W low ps 1000 fun s => s.n ≤ m) fun ps => tDT ps
def sp_tables : Sp := spF (α := Ru × WA × Nat × Bool) (fun d => [tTold d.1, tWT d.2.1, nT d.2.2.1, tB d.2.2.2]) (fun d => RWA d.1 d.2.1 ∧ d.2.2.1 ≤ 90) (fun d => tTb d.1 d.2.1.wo d.2.2.2 d.2.2.1)
theorem WFit.fits {R : Ru} {d : WA} (h : WFit R d) : Fits R d.wo := h.2
theorem c_tables (T : Top K mg) : Cal P w K mg base "_law_tables" 6 sp_tables := by
  have nd := sc__law_tables.nd
  have C0 := c_ends (P := P) (w := w) (base := base) T
  have C1 := c_lmay (P := P) (w := w) (base := base) T
  have C2 := c_all_sales (P := P) (w := w) (base := base) T
  have C3 := c_parted (P := P) (w := w) (base := base) T
  have C5 := c_lbest (P := P) (w := w) (base := base) T
  refine cal_F T.f__law_tables T.g__law_tables sc__law_tables (fun _ _ _ _ _ _ us hl => match us, hl with | [_, _, _, _], _ => rfl) (fun _ => rfl) (by decide) fun f cdv cd A outer s H0 E ⟨R, d, m, low⟩ B0 σ D hr hp a k hn => ?_
  obtain ⟨⟨hR, hW⟩, hm⟩ : RWA R d ∧ m ≤ 90 := hp
  have k : ∀ v B H, Nw nF B0 H0 B H → (tTb R d.wo low m).p B v → D.rt v H := k
  have e3 : ∀ {i : Nat} {x : En}, En3[i]? = some x → i < 3 := fun h => (List.getElem?_eq_some_iff.mp h).1
  have h3 : En3.length = 3 := rfl
  have all3 : ∀ e : En, e ∈ En3 := fun e => by cases e <;> decide
  refine rs_setN (i := 4) a en_dnewT nd rfl (.inl rfl) fun lk σ B H s1 hlk a => ?_
  refine rs_for (xs := List.range (m + 1)) (τ := nT) a rfl (EvI.is (ei_rng1 (n := ((m + 1 : Nat) : Int)) rfl T.b_range (EvE.is (ev_bin op_add (ev_name (i := 2) rfl (.inl rfl) rfl) ev_int bin_I0) rfl) (by omega)) rg0) (fun _ _ => (tg_name (i := 5) nd rfl (.inl rfl)))
    (fun i Γ C => (∃ o5 o6 o7 o8 o9 o10 o11 o12 o13, Γ = [some (tTold R), some (tWT d), some (nT m), some (tB low), some (tV (.ref lk)), o5, o6, o7, o8, o9, o10, o11, o12, o13]) ∧ ∃ ps, C = [(lk, oDT ps)] ∧ Done R d.wo low ps (9 * i) fun s => s.n < i) ⟨⟨_, _, _, _, _, _, _, _, _, rfl⟩, [], rfl, Nat.le_refl _, fun s hs => absurd hs (Nat.not_lt_zero _)⟩ (fun B1 s1 i n Γ1 W1 σ B H hi hI a => ?_) fun Γ1 W1 σ B H s1 hI a => ?_
  · obtain ⟨⟨o5, o6, o7, o8, o9, o10, o11, o12, o13, rfl⟩, ps, rfl, hd⟩ := hI
    obtain ⟨hil, hin⟩ := List.getElem?_eq_some_iff.mp hi
    rw [List.length_range] at hil
    rw [List.getElem_range] at hin
    subst hin
    refine rs_for (xs := En3) (τ := tEn) a rfl (ei_list (ev_call0 C0 (hr.mono (by decide)) rfl (d := ()) trivial)) (fun _ _ => (tg_name (i := 6) nd rfl (.inl rfl)))
      (fun j Γ C => (∃ o6 o7 o8 o9 o10 o11 o12 o13, Γ = [some (tTold R), some (tWT d), some (nT m), some (tB low), some (tV (.ref lk)), some (nT i), o6, o7, o8, o9, o10, o11, o12, o13]) ∧ ∃ ps, C = [(lk, oDT ps)] ∧ Done R d.wo low ps (9 * i + 3 * j) fun s => s.n < i ∨ (s.n = i ∧ s.l ∈ En3.take j)) ⟨⟨_, _, _, _, _, _, _, _, rfl⟩, ps, rfl, hd.wid (Nat.le_refl _) fun s hs => hs.resolve_right fun z => by rw [List.take_zero] at z; cases z.2⟩ (fun B1 s1 j el Γ1 W1 σ B H hj hI a => ?_) fun Γ1 W1 σ B H s1 hI a => ?_
    · obtain ⟨⟨o6, o7, o8, o9, o10, o11, o12, o13, rfl⟩, ps, rfl, hd⟩ := hI
      have hj3 := e3 hj
      refine rs_for (xs := En3) (τ := tEn) a rfl (ei_list (ev_call0 C0 (hr.mono (by decide)) rfl (d := ()) trivial)) (fun _ _ => (tg_name (i := 7) nd rfl (.inl rfl)))
        (fun k Γ C => (∃ o7 o8 o9 o10 o11 o12 o13, Γ = [some (tTold R), some (tWT d), some (nT m), some (tB low), some (tV (.ref lk)), some (nT i), some (tEn el), o7, o8, o9, o10, o11, o12, o13]) ∧ ∃ ps, C = [(lk, oDT ps)] ∧ Done R d.wo low ps (9 * i + 3 * j + k) fun s => s.n < i ∨ (s.n = i ∧ (s.l ∈ En3.take j ∨ (s.l = el ∧ s.r ∈ En3.take k)))) ⟨⟨_, _, _, _, _, _, _, rfl⟩, ps, rfl, hd.wid (Nat.le_refl _) fun s hs => hs.imp id fun z => ⟨z.1, z.2.resolve_right fun y => by rw [List.take_zero] at y; cases y.2⟩⟩ (fun B1 s1 k' er Γ1 W1 σ B H hk hI a => ?_) fun Γ1 W1 σ B H s1 hI a => ?_
      · obtain ⟨⟨o7, o8, o9, o10, o11, o12, o13, rfl⟩, ps, rfl, hd⟩ := hI
        have hk3 := e3 hk
        let t : S3 := ⟨el, i, er⟩
        have hn1 : t.n ≤ 100 := by show i ≤ 100; omega
        refine rs_set (i := 8) (t := tSt t) a (ev_tup (ea_cons (ev_name (i := 6) rfl (.inl rfl) rfl) (ea_cons (ev_name (i := 5) rfl (.inl rfl) rfl) (ea_cons (ev_name (i := 7) rfl (.inl rfl) rfl) ea_nil)))) nd rfl (.inl rfl) fun σ B H s1 a => ?_
        refine rs_setN (i := 9) (ot := oL ((if mayEnd R d.wo t = true then [d.wo.free * (i : Int)] else []).map tI)) a (en_ifx (et_val (ev_call C1 hr rfl (d := (R, d, t)) (ea_cons (ev_name (i := 0) rfl (.inl rfl) rfl) (ea_cons (ev_name (i := 1) rfl (.inl rfl) rfl) (ea_cons (ev_name (i := 8) rfl (.inl rfl) rfl) ea_nil))) ⟨⟨hR, hW⟩, hn1⟩)) (fun hb => by
          rw [if_pos hb]
          exact en_lst (ea_cons (ev_bin op_mul (ev_dget (ps := woPs d) (k := .inr "free") (t := tI d.2.1) hr (ev_name (i := 1) rfl (.inl rfl) rfl) ev_str rfl) (ev_name (i := 5) rfl (.inl rfl) rfl) (bin_I (.inr ⟨by omega, by omega⟩))) ea_nil)) (fun hb => by
          rw [if_neg (by rw [hb]; exact fun x => nomatch x)]
          exact en_lst ea_nil)) nd rfl (.inl rfl) fun lf σ B H s1 hlf a => ?_
        have hsl := sales_len hR t
        refine rs_for (xs := sales R t) (τ := tPz) a rfl (ei_list (ev_call C2 hr rfl (d := (R, t)) (ea_cons (ev_name (i := 0) rfl (.inl rfl) rfl) (ea_cons (ev_name (i := 8) rfl (.inl rfl) rfl) ea_nil)) ⟨hR, hn1⟩)) (fun _ _ => (tg_tup rfl (tgs_cons (tg_name (i := 10) nd rfl (.inl rfl)) (tgs_cons (tg_name (i := 11) nd rfl (.inl rfl)) tgs_nil))))
          (fun i' Γ C => (∃ o10 o11 o12 o13, Γ = [some (tTold R), some (tWT d), some (nT m), some (tB low), some (tV (.ref lk)), some (nT i), some (tEn el), some (tEn er), some (tSt t), some (tV (.ref lf)), o10, o11, o12, o13]) ∧ C = [(lf, oL (((if mayEnd R d.wo t = true then [d.wo.free * (i : Int)] else []) ++ ((sales R t).take i').map fun q => d.wo.price q.1 + (best R d.wo low (pL t q.2) + best R d.wo low (pR t q.1 q.2))).map tI)), (lk, oDT ps)]) ⟨⟨_, _, _, _, rfl⟩, by rw [List.take_zero, List.map_nil, List.append_nil]⟩ (fun B1 s1 i' q Γ1 W1 σ B H hi' hI a => ?_) fun Γ1 W1 σ B H s1 hI a => ?_
        · obtain ⟨⟨o10, o11, o12, o13, rfl⟩, rfl⟩ := hI
          obtain ⟨z, b⟩ := q
          have hmem := List.mem_of_getElem? hi'
          have hfit : 1 ≤ z ∧ z ≤ 5 ∧ b + z ≤ i := sale_fit hR hmem
          refine rs_asg a (ev_call C3 (hr.mono (by decide)) rfl (d := (t, z, b)) (ea_cons (ev_name (i := 8) rfl (.inl rfl) rfl) (ea_cons (ev_name (i := 10) rfl (.inl rfl) rfl) (ea_cons (ev_name (i := 11) rfl (.inl rfl) rfl) ea_nil))) hfit.2.2) (tg_tup rfl (tgs_cons (tg_name (i := 12) nd rfl (.inl rfl)) (tgs_cons (tg_name (i := 13) nd rfl (.inl rfl)) tgs_nil))) fun σ B H s1 a => ?_
          refine rs_appendS (t := tI (d.wo.price z + (best R d.wo low (pL t b) + best R d.wo low (pR t z b)))) a (ev_name (i := 9) rfl (.inl rfl) rfl) (.refl _) (fun B H a => evs_pure a (a.rdT (l := lk) (i := 4) (List.mem_cons_of_mem _ List.mem_cons_self) rfl) (letI : Iv := Jb; ?_) (fun _ _ => cl_V)) ?_ (fun B H s1 a => rs_nil ⟨_, _, B, ⟨⟨_, _, _, _, rfl⟩, rfl⟩, a.cs (by rw [take_succ' hi', List.map_append, List.map_append, List.map_append, List.append_assoc, List.map_append]; rfl)⟩) (he := rfl) (hs := rfl) (hm := pe_bm PySem.F.plainAttrs_list PySem.F.slot_list_append PySem.F.type_list_append mt_append pe_c (pa_cons pe_c pa_nil))
          · have C4 := c_lprice (J := Jb) (P := P) (w := w) (base := base) T
            exact EvE.is (ev_bin op_add (ev_bin op_add (ev_call C4 (hr.mono (by decide)) rfl (d := (d, z)) (ea_cons (ev_name (i := 1) rfl (.inl rfl) rfl) (ea_cons (ev_name (i := 10) rfl (.inl rfl) rfl) ea_nil)) trivial) (ev_dgetTr (ps := ps) (k := (pL t b).key) (t := tI (best R d.wo low (pL t b))) hr (ev_name (i := 4) rfl (.inl rfl) rfl) (ev_name (i := 12) (t := tSt (pL t b)) rfl (.inl rfl) rfl) (hd.2 _ (.inl (by show b < i; omega)))) bin_I0) (ev_dgetTr (ps := ps) (k := (pR t z b).key) (t := tI (best R d.wo low (pR t z b))) hr (ev_name (i := 4) rfl (.inl rfl) rfl) (ev_name (i := 13) (t := tSt (pR t z b)) rfl (.inl rfl) rfl) (hd.2 _ (.inl (by show i - z - b < i; omega)))) bin_I0) (congrArg tI (Int.add_assoc ..))
          · rw [List.length_map, List.length_append, List.length_map]
            have h1 : ((sales R t).take i').length ≤ (sales R t).length := List.length_take_le' ..
            have h2 : (if mayEnd R d.wo t = true then [d.wo.free * (i : Int)] else []).length ≤ 1 := by split <;> exact Nat.le_of_ble_eq_true rfl
            omega
        · obtain ⟨⟨o10, o11, o12, o13, rfl⟩, rfl⟩ := hI
          rw [List.take_length] at a
          have ew : (if mayEnd R d.wo t = true then [d.wo.free * (i : Int)] else []) ++ (sales R t).map (fun q => d.wo.price q.1 + (best R d.wo low (pL t q.2) + best R d.wo low (pR t q.1 q.2))) = (waysV R d.wo t (best R d.wo low)).map (·.1) := by
            unfold waysV
            rw [List.map_append, List.map_map]
            congr 1
            split <;> rfl
          rw [ew] at a
          obtain ⟨B2, s2, a⟩ := a.frzL hlf (i := 9) rfl
          refine rs_dputT (t := tI (best R d.wo low t)) (kk := t.key) hr a (EvE.is (ev_call C5 (hr.mono (by decide)) rfl (d := ((waysV R d.wo t (best R d.wo low)).map (·.1), low)) (ea_cons (ev_name (i := 9) rfl (.inl rfl) rfl) (ea_cons (ev_name (i := 3) rfl (.inl rfl) rfl) ea_nil)) (fun e => ways_ne hW.fits t (best R d.wo low) (List.map_eq_nil_iff.mp e))) (congrArg tI (best_eq hR d.wo low t).symm)) (ev_name (i := 4) rfl (.inl rfl) rfl) (ev_name (i := 8) (t := tSt t) rfl (.inl rfl) rfl) (.refl _) (by have := hd.1; omega) fun B H s1 a => rs_nil ⟨_, _, B, ⟨⟨_, _, _, _, _, _, _, rfl⟩, _, rfl, (hd.add t fun s hs => ?_)⟩, a⟩
          rcases hs with h | ⟨h1, h⟩
          · exact .inr (.inl h)
          · rcases h with h | ⟨h2, h⟩
            · exact .inr (.inr ⟨h1, .inl h⟩)
            · rw [take_succ' hk] at h
              rcases List.mem_append.mp h with h | h
              · exact .inr (.inr ⟨h1, .inr ⟨h2, h⟩⟩)
              · left
                obtain ⟨sl, sn, sr⟩ := s
                have h1 : sn = i := h1
                have h2 : sl = el := h2
                have h4 : sr = er := List.mem_singleton.mp h
                rw [h1, h2, h4]
      · obtain ⟨⟨o7, o8, o9, o10, o11, o12, o13, rfl⟩, ps, rfl, hd⟩ := hI
        refine rs_nil ⟨_, _, B, ⟨⟨_, _, _, _, _, _, _, _, rfl⟩, ps, rfl, hd.wid (by rw [h3]; omega) fun s hs => ?_⟩, a⟩
        rcases hs with h | ⟨h1, h⟩
        · exact .inl h
        · rw [take_succ' hj] at h
          rcases List.mem_append.mp h with h | h
          · exact .inr ⟨h1, .inl h⟩
          · exact .inr ⟨h1, .inr ⟨List.mem_singleton.mp h, by rw [List.take_length]; exact all3 _⟩⟩
    · obtain ⟨⟨o6, o7, o8, o9, o10, o11, o12, o13, rfl⟩, ps, rfl, hd⟩ := hI
      refine rs_nil ⟨_, _, B, ⟨⟨_, _, _, _, _, _, _, _, _, rfl⟩, ps, rfl, hd.wid (by rw [h3]; omega) fun s hs => ?_⟩, a⟩
      rcases Nat.lt_succ_iff_lt_or_eq.mp hs with h | h
      · exact .inl h
      · exact .inr ⟨h, by rw [List.take_length]; exact all3 _⟩
  · obtain ⟨⟨o5, o6, o7, o8, o9, o10, o11, o12, o13, rfl⟩, ps, rfl, hd⟩ := hI
    rw [List.length_range] at hd
    refine rs_lockT (i := 4) a hlk rfl fun B H s1 a => rs_ret a (EvE.exi (p := fun ps => Done R d.wo low ps 1000 fun s => s.n ≤ m) (f := fun ps => tDT ps) (x := ps) (ev_name (i := 4) rfl (.inl rfl) rfl) (hd.wid (by omega) fun s hs => by omega)) fun v B' H' _ a' r => k v B' H' a'.n r
end
end Ls
set_option maxHeartbeats 1000000 -- Ul
/-! the law's states of a play, stretches of rows -/
namespace Ls
open PySem Spec PyProof.Rows L2
/-- the sales of a state, by place -/
def pls (R : Ru) (here : List (Nat × S3)) : List (Nat × Nat) := here.flatMap fun q => (sales R q.2).map fun s => (q.1 + s.2, s.1)
section
variable [J : Iv] {P : Program} {w : World} {K : PySem.W.Frag} {mg : Str → Option Value} {base : Heap} {g : Addr}
theorem sc__law_all_end : FnScope ["_law_told", "_law_worth_here", "_law_here", "_law_seat", "_law_one_here"] ["_law_told", "_law_worth_here", "_law_here"] (defScope s__law_all_end) := ⟨rfl, rfl, rfl, by decide +kernel, rfl, by decide +kernel, by decide +kernel⟩
theorem c_all_end (T : Top K mg) : Cal P w K mg base "_law_all_end" 6 (spF (α := Ru × WA × List (Nat × S3)) (fun d => [tTold d.1, tWT d.2.1, tL (d.2.2.map tIt)]) (fun d => RWA d.1 d.2.1 ∧ ∀ q ∈ d.2.2, q.2.n ≤ 100) (fun d => tB (d.2.2.all fun q => mayEnd d.1 d.2.1.wo q.2))) := by
  have nd := sc__law_all_end.nd
  have C1 := c_lmay (P := P) (w := w) (base := base) T
  refine cal_F T.f__law_all_end T.g__law_all_end sc__law_all_end (fun _ _ _ _ _ _ us hl => match us, hl with | [_, _, _], _ => rfl) (fun _ => rfl) (by decide) fun f cdv cd A outer s H0 E ⟨R, d, here⟩ B0 σ D hr hp a k hn => ?_
  obtain ⟨hRW, hh⟩ : RWA R d ∧ ∀ q ∈ here, q.2.n ≤ 100 := hp
  have k : ∀ v B H, Nw nF B0 H0 B H → (tB (here.all fun q => mayEnd R d.wo q.2)).p B v → D.rt v H := k
  refine rs_for (xs := here) (τ := tIt) a rfl (ei_list (ev_name (i := 2) rfl (.inl rfl) rfl)) (fun _ _ => (tg_tup rfl (tgs_cons (tg_name (i := 3) nd rfl (.inl rfl)) (tgs_cons (tg_name (i := 4) nd rfl (.inl rfl)) tgs_nil))))
    (fun i Γ C => (∃ o3 o4, Γ = [some (tTold R), some (tWT d), some (tL (here.map tIt)), o3, o4]) ∧ C = [] ∧ ∀ q ∈ here.take i, mayEnd R d.wo q.2 = true) ⟨⟨_, _, rfl⟩, rfl, fun q hq => by rw [List.take_zero] at hq; cases hq⟩ (fun B1 s1 i q Γ1 W1 σ B H hi hI a => ?_) fun Γ1 W1 σ B H s1 hI a => ?_
  · obtain ⟨⟨o3, o4, rfl⟩, rfl, hall⟩ := hI
    have hq := List.mem_of_getElem? hi
    refine rs_when (b := !mayEnd R d.wo q.2) a (et_not (et_val (ev_call C1 hr rfl (d := (R, d, q.2)) (ea_cons (ev_name (i := 0) rfl (.inl rfl) rfl) (ea_cons (ev_name (i := 1) rfl (.inl rfl) rfl) (ea_cons (ev_name (i := 4) rfl (.inl rfl) rfl) ea_nil))) ⟨hRW, hh q hq⟩))) (fun hb B H s1 a => ?_) fun hb B H s1 a => ?_
    · refine rs_ret a (ev_bl (i := false)) fun v B' H' _ a' r => k v B' H' a'.n ?_
      have e : (here.all fun q => mayEnd R d.wo q.2) = false := List.all_eq_false.mpr ⟨q, hq, fun z => by rw [z] at hb; cases hb⟩
      rw [e]
      exact r
    · refine rs_nil ⟨_, _, B, ⟨⟨_, _, rfl⟩, rfl, fun p hp => ?_⟩, a⟩
      rw [take_succ' hi] at hp
      rcases List.mem_append.mp hp with h | h
      · exact hall p h
      · rw [List.mem_singleton.mp h]
        cases hm : mayEnd R d.wo q.2 with
        | true => rfl
        | false => rw [hm] at hb; cases hb
  · obtain ⟨⟨o3, o4, rfl⟩, rfl, hall⟩ := hI
    rw [List.take_length] at hall
    refine rs_ret a (ev_bl (i := true)) fun v B' H' _ a' r => k v B' H' a'.n ?_
    rw [List.all_eq_true.mpr hall]
    exact r
theorem sc__law_sales_in : FnScope ["_law_told", "_law_here", "_law_found", "_law_seat", "_law_one_here", "_law_size", "_law_before"] ["_law_told", "_law_here"] (defScope s__law_sales_in) := ⟨rfl, rfl, rfl, by decide +kernel, rfl, by decide +kernel, by decide +kernel⟩
theorem c_sales_in (T : Top K mg) : Cal P w K mg base "_law_sales_in" 6 (spF (α := Ru × List (Nat × S3)) (fun d => [tTold d.1, tL (d.2.map tIt)]) (fun d => d.1.Ok ∧ d.2.length ≤ 100 ∧ ∀ q ∈ d.2, q.2.n ≤ 100) (fun d => tL ((pls d.1 d.2).map tPz))) := by
  have nd := sc__law_sales_in.nd
  have C1 := c_all_sales (P := P) (w := w) (base := base) T
  refine cal_F T.f__law_sales_in T.g__law_sales_in sc__law_sales_in (fun _ _ _ _ _ _ us hl => match us, hl with | [_, _], _ => rfl) (fun _ => rfl) (by decide) fun f cdv cd A outer s H0 E ⟨R, here⟩ B0 σ D hr hp a k hn => ?_
  obtain ⟨hR, hl100, hh⟩ : R.Ok ∧ here.length ≤ 100 ∧ ∀ q ∈ here, q.2.n ≤ 100 := hp
  have k : ∀ v B H, Nw nF B0 H0 B H → (tL ((pls R here).map tPz)).p B v → D.rt v H := k
  refine rs_setN (i := 2) a (en_lst ea_nil) nd rfl (.inl rfl) fun l σ B H s1 hl a => ?_
  refine rs_for (xs := here) (τ := tIt) a rfl (ei_list (ev_name (i := 1) rfl (.inl rfl) rfl)) (fun _ _ => (tg_tup rfl (tgs_cons (tg_name (i := 3) nd rfl (.inr rfl)) (tgs_cons (tg_name (i := 4) nd rfl (.inl rfl)) tgs_nil))))
    (fun i Γ C => (∃ o3 o4, Γ = [some (tTold R), some (tL (here.map tIt)), some (tV (.ref l)), o3, o4, none, none]) ∧ C = [(l, oL ((pls R (here.take i)).map tPz))]) ⟨⟨_, _, rfl⟩, rfl⟩ (fun B1 s1 i q Γ1 W1 σ B H hi hI a => ?_) fun Γ1 W1 σ B H s1 hI a => ?_
  · obtain ⟨⟨o3, o4, rfl⟩, rfl⟩ := hI
    obtain ⟨p, t⟩ := q
    have hq : t.n ≤ 100 := hh _ (List.mem_of_getElem? hi)
    have hsl := sales_len hR t
    refine rs_extend (us := ((sales R t).map fun s => (p + s.2, s.1)).map tPz) a (ev_name (i := 2) rfl (.inl rfl) rfl) (.refl _) (EvE.is (ev_lc (own := [("_law_size", 5), ("_law_before", 6)]) (xs := sales R t) (τ := tPz) (p := fun _ => true) (g := fun s => tPz (p + s.2, s.1)) rfl nd (blkOk_by (N := ["_law_told", "_law_here", "_law_found", "_law_seat", "_law_one_here", "_law_size", "_law_before"]) (sc := defScope s__law_sales_in) (by decide +kernel)) (ei_list (ev_call C1 hr rfl (d := (R, t)) (ea_cons (ev_name (i := 0) rfl (.inl rfl) rfl) (ea_cons (ev_name (i := 4) rfl (.inl rfl) rfl) ea_nil)) ⟨hR, hq⟩)) (by decide) (by omega) (fun _ _ _ _ _ _ _ => (tg_tup rfl (tgs_cons (tg_name (i := 5) nd rfl (.inl rfl)) (tgs_cons (tg_name (i := 6) nd rfl (.inl rfl)) tgs_nil)))) (fun _ _ _ _ _ _ _ => ets_nil)
      (fun _ _ _ _ _ s _ => fun _ => (EvE.is (ev_tup (ea_cons (ev_bin op_add (ev_name (i := 3) rfl (.inr (.inl rfl)) rfl) (ev_name (i := 6) rfl (.inl rfl) rfl) bin_I0) (ea_cons (ev_name (i := 5) rfl (.inl rfl) rfl) ea_nil))) (t2 := tPz (p + s.2, s.1)) rfl))) (by rw [filter_yes, List.map_map]; rfl)) ?_ (fun B H s1 a => rs_nil ⟨_, _, B, ⟨⟨_, _, rfl⟩, rfl⟩, a.cs (by unfold pls; rw [take_succ' hi, List.flatMap_append, List.map_append, List.flatMap_singleton])⟩) (he := rfl) (hs := rfl) (hm := pe_bm PySem.F.plainAttrs_list PySem.F.slot_list_extend PySem.F.type_list_extend mt_extend pe_c pa_c)
    rw [List.length_map, List.length_map, List.length_map]
    have h1 := flat_len (fun q : Nat × S3 => (sales R q.2).map fun s => (q.1 + s.2, s.1)) 510 (here.take i) fun q hq => by
      rw [List.length_map]
      have := sales_len hR q.2
      have := hh q (List.mem_of_mem_take hq)
      omega
    have h2 : (here.take i).length ≤ 100 := Nat.le_trans (List.length_take_le' ..) hl100
    have h1 : (pls R (here.take i)).length ≤ (here.take i).length * 510 := h1
    omega
  · obtain ⟨⟨o3, o4, rfl⟩, rfl⟩ := hI
    obtain ⟨B1, b1, a⟩ := a.frzL hl (i := 2) rfl
    refine rs_ret a (ev_name (i := 2) rfl (.inl rfl) rfl) fun v B' H' _ a' r => k v B' H' a'.n ?_
    rw [List.take_length] at r
    exact r
end
end Ls
set_option maxHeartbeats 1000000 -- Um
/-! the law's stretches of rows -/
namespace Ls
open PySem Spec PyProof.Rows L2
def lstr (rows : List (List Nat)) : List S3 := rows.flatMap fun r => (rowStr r).map (·.2)
def eL (k : Nat) : En := if k = 0 then .W else .P
def eR (k m : Nat) : En := if k + 1 = m then .W else .P
theorem planStr_lstr (rows : List (List Nat)) : (planStr rows).map (·.2.2) = lstr rows := by
  have gen : ∀ (rows : List (List Nat)) (i : Nat), ((rows.zipIdx i).flatMap fun q => (rowStr q.1).map fun p => (q.2, p.1, p.2)).map (·.2.2) = lstr rows := fun rows => by
    induction rows with
    | nil => intro i; rfl
    | cons r rows ih =>
      intro i
      rw [List.zipIdx_cons, List.flatMap_cons, List.map_append, ih, List.map_map]
      rfl
  exact gen rows 0
section
variable [J : Iv] {P : Program} {w : World} {K : PySem.W.Frag} {mg : Str → Option Value} {base : Heap} {g : Addr}
theorem sc__law_stretches : FnScope ["_law_rows", "_law_found", "_law_row", "_law_k", "_law_length"] ["_law_rows"] (defScope s__law_stretches) := ⟨rfl, rfl, rfl, by decide +kernel, rfl, by decide +kernel, by decide +kernel⟩
theorem c_stretches (T : Top K mg) : Cal P w K mg base "_law_stretches" 1 (spF (α := List (List Nat)) (fun rows => [tL (rows.map tNs)]) PlOk (fun rows => tL ((lstr rows).map tSt))) := by
  have nd := sc__law_stretches.nd
  refine cal_F T.f__law_stretches T.g__law_stretches sc__law_stretches (fun _ _ _ _ _ _ us hl => match us, hl with | [_], _ => rfl) (fun _ => rfl) (by decide) fun f cdv cd A outer s H0 E rows B0 σ D hr hp a k hn => ?_
  have hl5 : rows.length ≤ 5 := hp.len.2
  refine rs_setN (i := 1) a (en_lst ea_nil) nd rfl (.inl rfl) fun l σ B H s1 hl a => ?_
  refine rs_for (xs := rows) (τ := tNs) a rfl (ei_list (ev_name (i := 0) rfl (.inl rfl) rfl)) (fun _ _ => (tg_name (i := 2) nd rfl (.inl rfl)))
    (fun i Γ C => (∃ o2 o3 o4, Γ = [some (tL (rows.map tNs)), some (tV (.ref l)), o2, o3, o4]) ∧ C = [(l, oL ((lstr (rows.take i)).map tSt))]) ⟨⟨_, _, _, rfl⟩, rfl⟩ (fun B1 s1 i r Γ1 W1 σ B H hi hI a => ?_) fun Γ1 W1 σ B H s1 hI a => ?_
  · obtain ⟨⟨o2, o3, o4, rfl⟩, rfl⟩ := hI
    have hr5 : r.length ≤ 5 := (hp.row r (List.mem_of_getElem? hi)).1.2
    have hacc : (lstr (rows.take i)).length ≤ 25 := by
      have h1 := flat_len (fun r : List Nat => (rowStr r).map (·.2)) 5 (rows.take i) fun q hq => by
        rw [List.length_map, rowStr_len]
        exact (hp.row q (List.mem_of_mem_take hq)).1.2
      have h2 : (rows.take i).length ≤ 5 := Nat.le_trans (List.length_take_le' ..) hl5
      have h1 : (lstr (rows.take i)).length ≤ (rows.take i).length * 5 := h1
      omega
    refine rs_for (xs := r.zipIdx) (τ := fun q => tT [nT q.2, nT q.1]) a rfl (EvI.is (ei_enum rfl T.b_enumerate (ev_name (i := 2) (t := tL (r.map nT)) rfl (.inl rfl) rfl)) enTys_map) (fun _ _ => (tg_tup rfl (tgs_cons (tg_name (i := 3) nd rfl (.inl rfl)) (tgs_cons (tg_name (i := 4) nd rfl (.inl rfl)) tgs_nil))))
      (fun j Γ C => (∃ o3 o4, Γ = [some (tL (rows.map tNs)), some (tV (.ref l)), some (tNs r), o3, o4]) ∧ C = [(l, oL ((lstr (rows.take i) ++ ((rowStr r).take j).map (·.2)).map tSt))]) ⟨⟨_, _, rfl⟩, by rw [List.take_zero, List.map_nil, List.append_nil]⟩ (fun B1 s1 j x Γ1 W1 σ B H hj hI a => ?_) fun Γ1 W1 σ B H s1 hI a => ?_
    · obtain ⟨⟨o3, o4, rfl⟩, rfl⟩ := hI
      obtain ⟨n, k'⟩ := x
      obtain ⟨hk, hy⟩ := zipIdx_get hj
      have hk : k' = j := hk
      have hy : r[j]? = some n := hy
      subst hk
      have hlt : k' < r.length := (List.getElem?_eq_some_iff.mp hy).1
      have hg := rowStr_get hy
      have hstep : (rowStr r).take (k' + 1) = (rowStr r).take k' ++ [((r.take k').sum, ⟨eL k', n, eR k' r.length⟩)] := take_succ' hg
      have e2 : decide (V.int (k' : Int) = V.int ((r.map nT).length - 1 : Int)) = decide (k' + 1 = r.length) := by
        rw [List.length_map]
        exact decide_eq_decide.mpr ⟨fun h => by have := V.int.inj h; omega, fun h => by congr 1; omega⟩
      refine rs_append (t := tSt ⟨eL k', n, eR k' r.length⟩) a (ev_name (i := 1) rfl (.inl rfl) rfl) (.refl _) (ev_tup (ea_cons (ev_ifx (EvT.is (et_cmp op_eq (ev_name (i := 3) rfl (.inl rfl) rfl) ev_int (bin_eq rfl) (nomark _)) nat_eq0) (fun hb => EvE.is (ev_str (i := "wall")) (by unfold eL; rw [if_pos (of_decide_eq_true hb)]; rfl)) (fun hb => EvE.is (ev_str (i := "pillar")) (by unfold eL; rw [if_neg (of_decide_eq_false hb)]; rfl))) (ea_cons (ev_name (i := 4) rfl (.inl rfl) rfl) (ea_cons (ev_ifx (EvT.is (et_cmp op_eq (ev_name (i := 3) rfl (.inl rfl) rfl) (ev_bin op_sub (ev_callB call_lenS rfl T.b_len bt_len (ea_cons (ev_name (i := 2) (t := tL (r.map nT)) rfl (.inl rfl) rfl) ea_nil) cb_lenL) ev_int bin_I0) (bin_eq rfl) (nomark _)) e2) (fun hb => EvE.is (ev_str (i := "wall")) (by unfold eR; rw [if_pos (of_decide_eq_true hb)]; rfl)) (fun hb => EvE.is (ev_str (i := "pillar")) (by unfold eR; rw [if_neg (of_decide_eq_false hb)]; rfl))) ea_nil)))) ?_ (fun B H s1 a => rs_nil ⟨_, _, B, ⟨⟨_, _, rfl⟩, rfl⟩, a.cs (by rw [hstep, List.map_append, List.map_append, List.map_append, List.map_append, List.append_assoc]; rfl)⟩) (he := rfl) (hs := rfl) (hm := pe_bm PySem.F.plainAttrs_list PySem.F.slot_list_append PySem.F.type_list_append mt_append pe_c pa_c)
      rw [List.length_map, List.length_append, List.length_map]
      have h1 : ((rowStr r).take k').length ≤ (rowStr r).length := List.length_take_le' ..
      rw [rowStr_len] at h1
      omega
    · obtain ⟨⟨o3, o4, rfl⟩, rfl⟩ := hI
      refine rs_nil ⟨_, _, B, ⟨⟨_, _, _, rfl⟩, rfl⟩, a.cs ?_⟩
      rw [List.length_zipIdx, ← rowStr_len r, List.take_length, take_succ' hi]
      unfold lstr
      rw [List.flatMap_append, List.flatMap_singleton]
  · obtain ⟨⟨o2, o3, o4, rfl⟩, rfl⟩ := hI
    obtain ⟨B1, b1, a⟩ := a.frzL hl (i := 1) rfl
    refine rs_ret a (ev_name (i := 1) rfl (.inl rfl) rfl) fun v B' H' _ a' r => k v B' H' a'.n ?_
    rw [List.take_length] at r
    exact r
end
end Ls
set_option maxHeartbeats 1000000 -- Un
/-! sets of many numbers with few members; how many sums there are -/
namespace Ls
open PySem Spec PyProof.Rows L2
/-- set(list of ints): n is how many members there are -/
def rSetJ (w : World) : List V → Hp → VK → Prop := fun xs H Q => ∃ (a : Addr) (ns : List Int), xs = [.ref a] ∧ H a = some (.lst (ns.map V.int)) ∧ ns.length ≤ 4000 ∧ ∀ (p : Addr) (n : Nat), H p = none → (∃ ys : List Int, ys.Nodup ∧ (∀ y ∈ ys, y ∈ ns) ∧ ys.length = n) → Q (.ref p) (upd H p (SetO w p (fun j => decide (j ∈ ns)) n))
theorem cr_setJ {X : Cx} (hc : X.calm = true) : CallR X (.type "set") (rSetJ X.w) := by
  intro pins s σ H xs us Q I r h
  obtain ⟨a, ns, rfl, ha, hl, q⟩ := h
  rw [Vals.ref1 r]
  obtain ⟨its, r1, pl, hz⟩ := I.list (.of ha)
  refine set_of_list ns (I.ok.hd hc) pl.isList (by simpa using ints_of_vals r1) (by unfold scanBound; omega) fun g tk c R hn k => ?_
  refine ⟨.ref _, upd H s.heap.objs.size (SetO X.w s.heap.objs.size (fun j => decide (j ∈ ns)) c), I.laid (t' := tk) k (Nat.le_refl _) (setO_new R), rfl, q _ _ (I.hok.fresh (Nat.le_refl _)) ?_⟩
  obtain ⟨o, es, ep, t, _, _, _, _, nd, hS, _, _, hsz, _⟩ := R
  refine ⟨es.toList.map keyOf, nd, fun y hy => of_decide_eq_true ((hS y).mpr hy), ?_⟩
  rw [List.length_map, Array.length_toList, hsz]
theorem nodup_sum {α : Type} [DecidableEq α] {f : α → Nat} : ∀ {xs ys : List α}, xs.Nodup → (∀ x ∈ xs, x ∈ ys) → (xs.map f).sum ≤ (ys.map f).sum
  | [], _, _, _ => Nat.zero_le _
  | x :: xs, ys, nd, h => by
    have nd := List.nodup_cons.mp nd
    obtain ⟨y1, y2, e⟩ := List.append_of_mem (h x List.mem_cons_self)
    subst e
    have ih := nodup_sum (f := f) (xs := xs) (ys := y1 ++ y2) nd.2 fun z hz => by
      rcases List.mem_append.mp (h z (List.mem_cons_of_mem _ hz)) with g | g
      · exact List.mem_append_left _ g
      · rcases List.mem_cons.mp g with g | g
        · rw [g] at hz
          exact absurd hz nd.1
        · exact List.mem_append_right _ g
    rw [List.map_append, List.sum_append] at ih
    rw [List.map_cons, List.sum_cons, List.map_append, List.sum_append, List.map_cons, List.sum_cons]
    omega
/-- how many sums a sale may give -/
def nS (n : Nat) (q : Nat × Nat) : Nat := (9 * q.2 + 1) * (9 * (n - q.1 - q.2) + 1)
def fullS (n : Nat) : List (Nat × Nat) := [1, 2, 3, 4, 5].flatMap fun z => (List.range (n + 1 - z)).map fun b => (z, b)
theorem fullS_le : ∀ n, n ≤ 6 → ((fullS n).map (nS n)).sum ≤ 3900 := by
  intro n hn
  have h : ∀ n ∈ List.range 7, ((fullS n).map (nS n)).sum ≤ 3900 := by decide +kernel
  exact h n (List.mem_range.mpr (by omega))
theorem befs_nd (R : Ru) (s : S3) (z : Nat) : (befs R s z).Nodup := by
  unfold befs
  split
  · exact List.nodup_nil
  · split
    · split
      · exact List.nodup_cons.mpr ⟨fun h => (nomatch h), List.nodup_nil⟩
      · refine List.nodup_cons.mpr ⟨fun h => ?_, List.nodup_cons.mpr ⟨fun h => (nomatch h), List.nodup_nil⟩⟩
        have := List.mem_singleton.mp h
        omega
    · exact List.nodup_range
theorem lets_nd (R : Ru) (s : S3) (z : Nat) : (lets R s z).Nodup := by
  unfold lets
  split
  · exact befs_nd R s z
  · exact (befs_nd R s z).sublist List.filter_sublist
theorem offers_nd (R : Ru) (s : S3) (z : Nat) : (offers R s z).Nodup := by
  unfold offers
  split
  · exact (lets_nd R s z).sublist (List.take_sublist ..)
  · exact lets_nd R s z
theorem sales_nd {R : Ru} (h : R.Ok) (s : S3) : (sales R s).Nodup := by
  unfold sales
  have gen : ∀ zs : List Nat, zs.Pairwise (· < ·) → (zs.flatMap fun z => (offers R s z).map fun b => (z, b)).Nodup := fun zs => by
    induction zs with
    | nil => intro _; exact List.nodup_nil
    | cons z zs ih =>
      intro hp
      have hp := List.pairwise_cons.mp hp
      rw [List.flatMap_cons]
      refine List.nodup_append.mpr ⟨?_, ih hp.2, fun a ha b hb e => ?_⟩
      · exact List.Pairwise.map (fun b => (z, b)) (fun a b (e : a ≠ b) e2 => e (Prod.mk.inj e2).2) (offers_nd R s z)
      · obtain ⟨x, _, e1⟩ := List.mem_map.mp ha
        obtain ⟨z', hz', hb⟩ := List.mem_flatMap.mp hb
        obtain ⟨y, _, e2⟩ := List.mem_map.mp hb
        rw [← e1, ← e2] at e
        have e := (Prod.mk.inj e).1
        have := hp.1 z' hz'
        omega
  exact gen R.sizes h.sz.1
theorem sales_sum {R : Ru} (h : R.Ok) {s : S3} (hn : s.n ≤ 6) : ((sales R s).map (nS s.n)).sum ≤ 3900 := by
  refine Nat.le_trans (nodup_sum (sales_nd h s) fun q hq => ?_) (fullS_le s.n hn)
  obtain ⟨h1, h2, h3⟩ := sale_fit h hq
  obtain ⟨z, b⟩ := q
  refine List.mem_flatMap.mpr ⟨z, ?_, List.mem_map.mpr ⟨b, List.mem_range.mpr (by show b < s.n + 1 - z; have h3 : b + z ≤ s.n := h3; omega), rfl⟩⟩
  have h1 : 1 ≤ z := h1
  have h2 : z ≤ 5 := h2
  have : z = 1 ∨ z = 2 ∨ z = 3 ∨ z = 4 ∨ z = 5 := by omega
  rcases this with e | e | e | e | e <;> rw [e] <;> decide
section
variable [J : Iv]
theorem cb_setJ {w : World} {ns : List Int} {M : Nat} (hl : ns.length ≤ 4000) (hM : ∀ ys : List Int, ys.Nodup → (∀ y ∈ ys, y ∈ ns) → ys.length ≤ M) : Cb (rSetJ w) [tL (ns.map tI)] (tSI w ns M) := fun vs B H Q bh r q => by
  cases r with
  | cons r1 r0 =>
    cases r0
    obtain ⟨a, xs, e, h, r⟩ := r1
    subst e
    rw [tys_ints r] at h
    exact ⟨a, ns, rfl, bh _ _ h, hl, fun p n hp ⟨ys, h1, h2, h3⟩ => q _ _ _ (.lay bh hp) ⟨p, n, rfl, upd_same, by rw [← h3]; exact hM ys h1 h2⟩⟩
theorem cb_sortedSetE {w : World} {ns : List Int} {m : Nat} (hm : m < 64) : Cb (rSortedSet w) [tSI w ns m] (tE (fun ys : List Int => ys.Pairwise (· < ·) ∧ ∀ x, x ∈ ys ↔ x ∈ ns) fun ys => tL (ys.map tI)) := fun vs B H Q bh r q => by
  cases r with
  | cons r1 r0 =>
    cases r0
    obtain ⟨a, n, e, h, hn⟩ := r1
    subst e
    refine ⟨a, _, n, rfl, bh _ _ h, by omega, fun zs p hz hz2 _ hp => ?_⟩
    exact q _ _ _ (.lay bh hp) ⟨zs, ⟨hz, fun x => (hz2 x).trans decide_eq_true_iff⟩, p, _, rfl, upd_same, ints_tys⟩
end
end Ls
set_option maxHeartbeats 1000000 -- Uo
/-! the law's totals of all plays -/
namespace Ls
open PySem Spec PyProof.Rows L2
def MS (L M : List Int) : Prop := ∀ x, x ∈ L ↔ x ∈ M
theorem MS.add {L M : List Int} (h : MS L M) (x : Int) : MS (L ++ [x]) (M ++ [x]) := fun y => by rw [List.mem_append, List.mem_append, h y]
theorem asc_len9 {R : Ru} (h : R.Ok) {W : Wo} (hW : W.Ok) {s : S3} {ys : List Int} (ha : ys.Pairwise (· < ·)) (hm : ∀ x, x ∈ ys ↔ x ∈ tots R W s) : ys.length ≤ 9 * s.n + 1 :=
  hs_len (m := 9 * s.n) (ha.imp fun h => by omega) fun x hx => by
    have := tots_le h hW s.n s (Nat.le_refl _) x ((hm x).mp hx)
    omega
theorem wa_ok {d : WA} (h : d.Ok) : d.wo.Ok := ⟨fun z => by
    show 0 ≤ pkPr d.1 z ∧ pkPr d.1 z ≤ 9
    unfold pkPr
    cases hf : d.1.find? fun q => decide (q.1 = z) with
    | none => exact ⟨by decide, by decide⟩
    | some q => exact h.1.pr q (List.mem_of_find?_eq_some hf), h.2.1, h.2.2⟩
section
variable [J : Iv] {P : Program} {w : World} {K : PySem.W.Frag} {mg : Str → Option Value} {base : Heap}
section
variable {X : Cx} {F : Addr → Prop} {B0 H0 Bg : Hp} {Γ : Ctx} {W : Cells} {σ : L2.St} {B H : Hp} {e : Expr}
theorem el_listE {κ : Type} {pr : κ → Prop} {ts : κ → List Ty} {tg : Expr} (a : At F B0 H0 Bg Γ W σ B H) (h : EvE X Γ e (tE pr fun c => tL (ts c))) (R : It → Hp → Prop) (q : ∀ c, pr c → ∀ J B' H', Nw nF B H B' H' → Src J B' (ts c) → R J H') : RI X tg e σ H R :=
  ⟨_, pi_list pe_c, h σ B H a.s a.n.bh _ fun v B1 H1 n1 ⟨c, hc, l, vs, ev, ea, r⟩ => ⟨l, ev, ⟨vs, .of (n1.bh _ _ ea)⟩, q c hc _ B1 H1 n1 (src_list ea r)⟩⟩
end
theorem sc__law_all_totals : FnScope ["_law_told", "_law_worth_here", "_law_stretch_here", "_law_known", "_law_found", "_law_size", "_law_before", "_law_one_here", "_law_other", "_law_first", "_law_second"] ["_law_told", "_law_worth_here", "_law_stretch_here", "_law_known"] (defScope s__law_all_totals) := ⟨rfl, rfl, rfl, by decide +kernel, rfl, by decide +kernel, by decide +kernel⟩
def sp_lall (R : Ru) (d : WA) (g : Addr) (m : Nat) : Sp := spF (α := S3) (fun s => [tTold R, tWT d, tSt s, tV (.ref g)]) (fun s => RWA R d ∧ s.n < m ∧ s.n ≤ 6) (fun s => tAsc R d.wo s)
theorem ok_lall (T : Top K mg) : ∃ fd, FunD K d__law_all_totals.name d__law_all_totals.qual d__law_all_totals.params d__law_all_totals.body d__law_all_totals.scope (d__law_all_totals.dvs K) (d__law_all_totals.kws K) (He.fAd K d__law_all_totals.at_) fd ∧ ∀ (R : Ru) (d : WA) (g : Addr) (m : Nat),
    FnOk P w K mg base CX0 (6 + m) (He.fAd K d__law_all_totals.at_) fd ["_law_told", "_law_worth_here", "_law_stretch_here", "_law_known"] (@sp_lall (Jd (tAsc R d.wo) g) R d g m) := by
  obtain ⟨fd, Fd⟩ := T.f__law_all_totals
  refine ⟨fd, Fd, fun R d g => ?_⟩
  letI J2 : Iv := Jd (tAsc R d.wo) g
  intro m
  induction m with
  | zero =>
    refine ok_F (J := J2) Fd sc__law_all_totals (fun _ => rfl) (by decide) fun cdv cd A outer s H0 E t B0 σ D hr hp a k hn => ?_
    exact absurd hp.2.1 (Nat.not_lt_zero _)
  | succ m ih =>
    have nd := sc__law_all_totals.nd
    have ih : Cal P w K mg base "_law_all_totals" (6 + m) (@sp_lall J2 R d g m) := ⟨_, fd, ["_law_told", "_law_worth_here", "_law_stretch_here", "_law_known"], T.g__law_all_totals, Fd.kp, Fd.bindsN (fun _ _ _ _ _ _ us hl => match us, hl with | [_, _, _, _], _ => rfl), ih⟩
    refine ok_F (J := J2) Fd sc__law_all_totals (fun _ => rfl) (by decide) fun cdv cd A outer s H0 E t B0 σ D hr hp a k hn => ?_
    have hr := show Room (6 + m) _ from hr
    obtain ⟨⟨hR, hW⟩, htm, ht⟩ : RWA R d ∧ t.n < m + 1 ∧ t.n ≤ 6 := hp
    have hWo := wa_ok hW.1
    have C1 := c_lmay (J := J2) (P := P) (w := w) (base := base) T
    have C2 := c_all_sales (J := J2) (P := P) (w := w) (base := base) T
    have C3 := c_parted (J := J2) (P := P) (w := w) (base := base) T
    have C4 := c_lprice (J := J2) (P := P) (w := w) (base := base) T
    have k : ∀ v B H, Nw nF B0 H0 B H → (tAsc R d.wo t).p B v → D.rt v H := k
    refine rs_kif (J := J) (T := tAsc R d.wo) (d := g) (i := 2) (j := 3) (s := t) hr a rfl rfl rfl rfl (.inl rfl) (.inl rfl) ?_ fun v hv hT => rs_kret (J := J) (T := tAsc R d.wo) (d := g) (i := 2) (j := 3) (s := t) hr a rfl rfl rfl rfl (.inl rfl) (.inl rfl) hv (k v _ _ a.n hT)
    have teq := tots_eq hR d.wo t
    have hsl := sales_len hR t
    have hsum := sales_sum hR ht
    let b0 : List Int := if mayEnd R d.wo t = true then [d.wo.free * (t.n : Int)] else []
    have hb0 : b0.length ≤ 1 := by
      show (if mayEnd R d.wo t = true then [d.wo.free * (t.n : Int)] else []).length ≤ 1
      split <;> exact Nat.le_of_ble_eq_true rfl
    refine rs_setN (i := 4) (ot := oL (b0.map tI)) a (en_ifx (et_val (ev_call C1 (hr.mono (by omega)) rfl (d := (R, d, t)) (ea_cons (ev_name (i := 0) rfl (.inl rfl) rfl) (ea_cons (ev_name (i := 1) rfl (.inl rfl) rfl) (ea_cons (ev_name (i := 2) rfl (.inl rfl) rfl) ea_nil))) ⟨⟨hR, hW⟩, by show t.n ≤ 100; omega⟩)) (fun hb => by
          have e : b0 = [d.wo.free * (t.n : Int)] := if_pos hb
          rw [e]
          exact en_lst (ea_cons (ev_bin op_mul (ev_dget (ps := woPs d) (k := .inr "free") (t := tI d.2.1) hr (ev_name (i := 1) rfl (.inl rfl) rfl) ev_str rfl) (ev_sub ix_tup (ev_name (i := 2) (t := tSt t) rfl (.inl rfl) rfl) ev_int (bin_ixTi (j := 1) rfl rfl)) (bin_I (.inr ⟨by omega, by omega⟩))) ea_nil)) (fun hb => by
          have e : b0 = [] := if_neg (by rw [hb]; exact fun x => nomatch x)
          rw [e]
          exact en_lst ea_nil)) nd rfl (.inl rfl) fun l σ B H s1 hl a => ?_
    refine rs_for (xs := sales R t) (τ := tPz) a rfl (ei_list (ev_call C2 (hr.mono (by omega)) rfl (d := (R, t)) (ea_cons (ev_name (i := 0) rfl (.inl rfl) rfl) (ea_cons (ev_name (i := 2) rfl (.inl rfl) rfl) ea_nil)) ⟨hR, by show t.n ≤ 100; omega⟩)) (fun _ _ => (tg_tup rfl (tgs_cons (tg_name (i := 5) nd rfl (.inl rfl)) (tgs_cons (tg_name (i := 6) nd rfl (.inl rfl)) tgs_nil))))
      (fun i Γ C => (∃ o5 o6 o7 o8 o9 o10, Γ = [some (tTold R), some (tWT d), some (tSt t), some (tV (.ref g)), some (tV (.ref l)), o5, o6, o7, o8, o9, o10]) ∧ ∃ L, C = [(l, oL (L.map tI))] ∧ L.length ≤ 1 + (((sales R t).take i).map (nS t.n)).sum ∧ MS L (b0 ++ ((sales R t).take i).flatMap fun q => (tots R d.wo (pL t q.2)).flatMap fun x => (tots R d.wo (pR t q.1 q.2)).map fun y => d.wo.price q.1 + x + y))
      ⟨⟨_, _, _, _, _, _, rfl⟩, b0, rfl, by rw [List.take_zero]; exact hb0, fun x => by rw [List.take_zero, List.flatMap_nil, List.append_nil]⟩ (fun B1 s1 i q Γ1 W1 σ B H hi hI a => ?_) fun Γ1 W1 σ B H s1 hI a => ?_
    · obtain ⟨⟨o5, o6, o7, o8, o9, o10, rfl⟩, L, rfl, hLl, hL⟩ := hI
      obtain ⟨z, b⟩ := q
      have hmem : (z, b) ∈ sales R t := List.mem_of_getElem? hi
      have hfit : 1 ≤ z ∧ z ≤ 5 ∧ b + z ≤ t.n := sale_fit hR hmem
      have hpre : (((sales R t).take (i + 1)).map (nS t.n)).sum ≤ 3900 := Nat.le_trans (by
        have h1 : ((sales R t).take (i + 1)).Sublist (sales R t) := List.take_sublist ..
        exact nodup_sum ((sales_nd hR t).sublist h1) fun x hx => h1.subset hx) hsum
      rw [take_succ' hi, List.map_append, List.sum_append] at hpre
      have hpre : (((sales R t).take i).map (nS t.n)).sum + ((9 * b + 1) * (9 * (t.n - z - b) + 1) + 0) ≤ 3900 := hpre
      rw [take_succ' hi, List.flatMap_append, ← List.append_assoc, List.map_append, List.sum_append]
      generalize b0 ++ ((sales R t).take i).flatMap (fun q => (tots R d.wo (pL t q.2)).flatMap fun x => (tots R d.wo (pR t q.1 q.2)).map fun y => d.wo.price q.1 + x + y) = L0 at hL
      generalize (((sales R t).take i).map (nS t.n)).sum = N at hLl hpre
      refine rs_asg a (ev_call C3 (hr.mono (by omega)) rfl (d := (t, z, b)) (ea_cons (ev_name (i := 2) rfl (.inl rfl) rfl) (ea_cons (ev_name (i := 5) rfl (.inl rfl) rfl) (ea_cons (ev_name (i := 6) rfl (.inl rfl) rfl) ea_nil))) hfit.2.2) (tg_tup rfl (tgs_cons (tg_name (i := 7) nd rfl (.inl rfl)) (tgs_cons (tg_name (i := 8) nd rfl (.inl rfl)) tgs_nil))) fun σ B H s1 a => ?_
      refine rs_forE (pr := fun ks1 : List Int => ks1.Pairwise (· < ·) ∧ ∀ x, x ∈ ks1 ↔ x ∈ tots R d.wo (pL t b)) (xs := fun ks1 => ks1) (τ := tI) a rfl (el_listE (ts := fun ks1 : List Int => ks1.map tI) a (ev_call ih hr rfl (d := pL t b) (ea_cons (ev_name (i := 0) rfl (.inl rfl) rfl) (ea_cons (ev_name (i := 1) rfl (.inl rfl) rfl) (ea_cons (ev_name (i := 7) rfl (.inl rfl) rfl) (ea_cons (ev_name (i := 3) rfl (.inl rfl) rfl) ea_nil)))) ⟨⟨hR, hW⟩, by show b < m; omega, by show b ≤ 6; omega⟩)) (fun _ => (tg_name (i := 9) nd rfl (.inl rfl)))
        (fun ks1 j Γ C => (∃ o9 o10, Γ = [some (tTold R), some (tWT d), some (tSt t), some (tV (.ref g)), some (tV (.ref l)), some (nT z), some (nT b), some (tSt (pL t b)), some (tSt (pR t z b)), o9, o10]) ∧ ∃ L, C = [(l, oL (L.map tI))] ∧ L.length ≤ 1 + N + j * (9 * (t.n - z - b) + 1) ∧ MS L (L0 ++ (ks1.take j).flatMap fun x => (tots R d.wo (pR t z b)).map fun y => d.wo.price z + x + y))
        (fun ks1 _ => ⟨⟨_, _, rfl⟩, L, rfl, by rw [Nat.zero_mul]; exact hLl, fun x => by rw [List.take_zero, List.flatMap_nil, List.append_nil]; exact hL x⟩) (fun ks1 hks1 B1 s1 j x Γ1 W1 σ B H hj hI a => ?_) fun ks1 hks1 Γ1 W1 σ B H s1 hI a => ?_
      · obtain ⟨⟨o9, o10, rfl⟩, L, rfl, hLl, hL⟩ := hI
        have hj1 : j < ks1.length := (List.getElem?_eq_some_iff.mp hj).1
        have hk1 : ks1.length ≤ 9 * b + 1 := asc_len9 hR hWo hks1.1 hks1.2
        have hjm : j * (9 * (t.n - z - b) + 1) + (9 * (t.n - z - b) + 1) ≤ (9 * b + 1) * (9 * (t.n - z - b) + 1) := by
          rw [← Nat.succ_mul]
          exact Nat.mul_le_mul_right _ (by omega)
        rw [take_succ' hj, List.flatMap_append, ← List.append_assoc]
        generalize L0 ++ (ks1.take j).flatMap (fun x => (tots R d.wo (pR t z b)).map fun y => d.wo.price z + x + y) = L1 at hL
        refine rs_forE (pr := fun ks2 : List Int => ks2.Pairwise (· < ·) ∧ ∀ x, x ∈ ks2 ↔ x ∈ tots R d.wo (pR t z b)) (xs := fun ks2 => ks2) (τ := tI) a rfl (el_listE (ts := fun ks2 : List Int => ks2.map tI) a (ev_call ih hr rfl (d := pR t z b) (ea_cons (ev_name (i := 0) rfl (.inl rfl) rfl) (ea_cons (ev_name (i := 1) rfl (.inl rfl) rfl) (ea_cons (ev_name (i := 8) rfl (.inl rfl) rfl) (ea_cons (ev_name (i := 3) rfl (.inl rfl) rfl) ea_nil)))) ⟨⟨hR, hW⟩, by show t.n - z - b < m; omega, by show t.n - z - b ≤ 6; omega⟩)) (fun _ => (tg_name (i := 10) nd rfl (.inl rfl)))
          (fun ks2 k Γ C => (∃ o10, Γ = [some (tTold R), some (tWT d), some (tSt t), some (tV (.ref g)), some (tV (.ref l)), some (nT z), some (nT b), some (tSt (pL t b)), some (tSt (pR t z b)), some (tI x), o10]) ∧ ∃ L, C = [(l, oL (L.map tI))] ∧ L.length ≤ 1 + N + j * (9 * (t.n - z - b) + 1) + k ∧ MS L (L1 ++ (ks2.take k).map fun y => d.wo.price z + x + y))
          (fun ks2 _ => ⟨⟨_, rfl⟩, L, rfl, hLl, fun x => by rw [List.take_zero, List.map_nil, List.append_nil]; exact hL x⟩) (fun ks2 hks2 B1 s1 k' y Γ1 W1 σ B H hk hI a => ?_) fun ks2 hks2 Γ1 W1 σ B H s1 hI a => ?_
        · obtain ⟨⟨o10, rfl⟩, L, rfl, hLl, hL⟩ := hI
          have hk2 : ks2.length ≤ 9 * (t.n - z - b) + 1 := asc_len9 hR hWo hks2.1 hks2.2
          have hklt : k' < ks2.length := (List.getElem?_eq_some_iff.mp hk).1
          refine rs_append (t := tI (d.wo.price z + x + y)) a (ev_name (i := 4) rfl (.inl rfl) rfl) (.refl _) (ev_bin op_add (ev_bin op_add (ev_call C4 (hr.mono (by omega)) rfl (d := (d, z)) (ea_cons (ev_name (i := 1) rfl (.inl rfl) rfl) (ea_cons (ev_name (i := 5) rfl (.inl rfl) rfl) ea_nil)) trivial) (ev_name (i := 9) rfl (.inl rfl) rfl) bin_I0) (ev_name (i := 10) rfl (.inl rfl) rfl) bin_I0) (by rw [List.length_map]; omega) (fun B H s1 a => rs_nil ⟨_, _, B, ⟨⟨_, rfl⟩, L ++ [d.wo.price z + x + y], rfl, ?_, ?_⟩, a.cs (by rw [List.map_append]; rfl)⟩) (he := rfl) (hs := rfl) (hm := pe_bm PySem.F.plainAttrs_list PySem.F.slot_list_append PySem.F.type_list_append mt_append pe_c pa_c)
          · rw [List.length_append]
            show L.length + 1 ≤ _
            omega
          · rw [take_succ' hk, List.map_append, ← List.append_assoc]
            exact hL.add _
        · obtain ⟨⟨o10, rfl⟩, L, rfl, hLl, hL⟩ := hI
          rw [List.take_length] at hL
          have hk2 : ks2.length ≤ 9 * (t.n - z - b) + 1 := asc_len9 hR hWo hks2.1 hks2.2
          refine rs_nil ⟨_, _, B, ⟨⟨_, _, rfl⟩, L, rfl, by rw [Nat.succ_mul]; omega, fun u => (hL u).trans ?_⟩, a⟩
          rw [List.mem_append, List.mem_append, List.flatMap_singleton, List.mem_map, List.mem_map]
          refine or_congr Iff.rfl ⟨fun ⟨y, h1, h2⟩ => ⟨y, (hks2.2 y).mp h1, h2⟩, fun ⟨y, h1, h2⟩ => ⟨y, (hks2.2 y).mpr h1, h2⟩⟩
      · obtain ⟨⟨o9, o10, rfl⟩, L, rfl, hLl, hL⟩ := hI
        rw [List.take_length] at hL
        have hk1 : ks1.length ≤ 9 * b + 1 := asc_len9 hR hWo hks1.1 hks1.2
        have hjm : ks1.length * (9 * (t.n - z - b) + 1) ≤ (9 * b + 1) * (9 * (t.n - z - b) + 1) := Nat.mul_le_mul_right _ hk1
        refine rs_nil ⟨_, _, B, ⟨⟨_, _, _, _, _, _, rfl⟩, L, rfl, ?_, fun u => (hL u).trans ?_⟩, a⟩
        · show L.length ≤ 1 + (N + ((9 * b + 1) * (9 * (t.n - z - b) + 1) + 0))
          omega
        · rw [List.mem_append, List.mem_append, List.flatMap_singleton, List.mem_flatMap, List.mem_flatMap]
          refine or_congr Iff.rfl ⟨fun ⟨y, h1, h2⟩ => ⟨y, (hks1.2 y).mp h1, h2⟩, fun ⟨y, h1, h2⟩ => ⟨y, (hks1.2 y).mpr h1, h2⟩⟩
    · obtain ⟨⟨o5, o6, o7, o8, o9, o10, rfl⟩, L, rfl, hLl, hL⟩ := hI
      rw [List.take_length] at hL hLl
      have hL : MS L (tots R d.wo t) := by rw [teq]; exact hL
      have hd55 : ∀ ys : List Int, ys.Nodup → (∀ y ∈ ys, y ∈ L) → ys.length ≤ 55 := fun ys h1 h2 => by
        have := hs_len (m := 9 * t.n) h1 fun x hx => by
          have := tots_le hR hWo t.n t (Nat.le_refl _) x ((hL x).mp (h2 x hx))
          omega
        omega
      obtain ⟨B2, s2, a⟩ := a.frzL hl (i := 4) rfl
      refine rs_kput (J := J) (T := tAsc R d.wo) (d := g) (i := 2) (j := 3) (s := t) hr a (EvE.wid (ev_callB (cr_sortedSet rfl) rfl T.b_sorted bt_sorted (ea_cons (ev_callTy (cr_setJ rfl) rfl T.b_set bt_set (ea_cons (ev_name (i := 4) (t := tL (L.map tI)) rfl (.inl rfl) rfl) ea_nil) (cb_setJ (M := 55) (by omega) hd55)) ea_nil) (cb_sortedSetE (by decide))) fun ys ⟨h1, h2⟩ => ⟨h1, fun x => (h2 x).trans (hL x)⟩) (by omega) rfl rfl rfl rfl (.inl rfl) (.inl rfl) fun v B H s1 a hv hT => rs_nil (rs_kret (J := J) (T := tAsc R d.wo) (d := g) (i := 2) (j := 3) (s := t) hr a rfl rfl rfl rfl (.inl rfl) (.inl rfl) hv (k v _ _ a.n hT))
/-- _law_all_totals(.., {}) -/
theorem ev_lall [S : St] {X : Cx} {Γ : Ctx} {R : Ru} {d : WA} {t : S3} {m : Nat} {e1 e2 e3 : Expr} {p pos pd : Pos} (T : Top X.K X.mg) (hr : Room (6 + m) X.A) (hg : Gl X "_law_all_totals") (h1 : EvE X Γ e1 (tTold R)) (h2 : EvE X Γ e2 (tWT d)) (h3 : EvE X Γ e3 (tSt t)) (hp : RWA R d ∧ t.n < m ∧ t.n ≤ 6)
    (s1 : starEach [e1, e2, e3, .Dict [] [] pd] X.env = (false, eval e1 X.env) :: starEach [e2, e3, .Dict [] [] pd] X.env := by rfl) (s2 : starEach [e2, e3, .Dict [] [] pd] X.env = (false, eval e2 X.env) :: starEach [e3, .Dict [] [] pd] X.env := by rfl)
    (s3 : starEach [e3, .Dict [] [] pd] X.env = (false, eval e3 X.env) :: starEach [.Dict [] [] pd] X.env := by rfl) (s4 : starEach [.Dict [] [] pd] X.env = (false, eval (.Dict [] [] pd) X.env) :: starEach [] X.env := by rfl)
    (hpl : (backTo pos (starEach [e2, e3, .Dict [] [] pd] X.env)).any (·.1) = false := by rfl) :
    EvE X Γ (.Call (.Name "_law_all_totals" p) [e1, e2, e3, .Dict [] [] pd] [] pos) (tAsc R d.wo t) := fun σ B H so bh Q q => by
  obtain ⟨fd, Fd, ok⟩ := ok_lall (P := X.prog) (w := X.w) (base := X.base) T
  have F : FnOk X.prog X.w X.K X.mg X.base CX0 (6 + m) (He.fAd X.K d__law_all_totals.at_) fd ["_law_told", "_law_worth_here", "_law_stretch_here", "_law_known"] (fun vs H Q E => ∃ g, @sp_lall (Jd (tAsc R d.wo) g) R d g m vs H Q E) :=
    ⟨fun vs H Q E ⟨g, h⟩ => (ok R d g m).len vs H Q E h, fun A outer s H args us vs Q E hr e b v ⟨g, h⟩ => (ok R d g m).run A outer s H args us vs Q E hr e b v h⟩
  refine ⟨_, pe_call F hr hg T.g__law_all_totals Fd.kp (Fd.bindsN (fun _ _ _ _ _ _ us hl => match us, hl with | [_, _, _, _], _ => rfl)) .nil pass0 (pa_cons pe_c (pa_cons pe_c (pa_cons pe_c (pa_cons pe_c pa_nil s4) s3) s2) s1) (by decide) s1 hpl, ?_⟩
  refine h1 σ B H so bh _ fun v1 B1 H1 n1 r1 => h2 σ B1 H1 (so.mono n1.bb) n1.bh _ fun v2 B2 H2 n2 r2 => h3 σ B2 H2 (so.mono (n1.trans n2).bb) n2.bh _ fun v3 B3 H3 n3 r3 => en_dnewT σ B3 H3 (so.mono ((n1.trans n2).trans n3).bb) n3.bh _ fun g B4 H4 n4 bd fd' hd ⟨o, hd', kvs, eo, hk⟩ => ?_
  cases hk
  subst eo
  have ka : KAt (tAsc R d.wo) g [] B4 H4 := ⟨bd, fd', hd', List.nodup_nil, fun q hq => (nomatch hq)⟩
  refine ⟨g, t, B4, sm_jd n4.bh ka, hp, .cons ((tTold R).mono ((n2.trans n3).trans n4).bb r1) (.cons ((tWT d).mono (n3.trans n4).bb r2) (.cons ((tSt t).mono n4.bb r3) (.cons rfl .nil))), fun v B5 H5 n5 r5 => q v B5 H5 ((((n1.trans n2).trans n3).trans n4).transF (jd_nw n5) fun y hy => ?_) r5⟩
  rw [hy]
  exact .inr (((n1.trans n2).trans n3).fresh hd)
end
end Ls
set_option maxHeartbeats 1000000 -- Va
/-! defs that are called while no repr is under way -/
namespace Ls
open PySem Spec PyProof.Rows L2
/-- nothing of repr is under way -/
abbrev Quiet (A : Around) : Prop := A.guards = some []
theorem quiet_deeper {A : Around} (q : Quiet A) (env : Env) : Quiet (A.deeper env) := q
/-- a def keeps its promise where nothing of repr is under way -/
structure FnG (P : Program) (w : World) (K : PySem.W.Frag) (mg : Str → Option Value) (base : Heap) (k : Nat) (f : Addr) (fd : FuncData) (ps : List Str) (sp : Sp) : Prop where
  ln : ∀ vs H Q E, sp vs H Q E → vs.length = ps.length
  go : ∀ (A : Around) (fr : List Env) (s0 : Shared) (Hh : Hp) (ar : Args) (zs : List Value) (vs : List V) (Q : VK) (E : XK), Room k A → Quiet A → Env0 P w K mg base A fr s0 Hh → BindsTo s0 fd ar (ps.zip zs) → Vals vs zs → sp vs Hh Q E →
    codeAny (model P w) A (.call (.ref f) ar) (CR CX0 fr P w Hh s0 Q E) s0
section
variable {P : Program} {w : World} {K : PySem.W.Frag} {mg : Str → Option Value} {base : Heap}
theorem FnG.up {i k : Nat} {f : Addr} {fd : FuncData} {ps : List Str} {sp : Sp} (F : FnG P w K mg base i f fd ps sp) (h : i ≤ k) : FnG P w K mg base k f fd ps sp :=
  ⟨F.ln, fun A fr s0 Hh ar zs vs Q E rm => F.go A fr s0 Hh ar zs vs Q E (rm.mono h)⟩
theorem FnG.sub {k : Nat} {f : Addr} {fd : FuncData} {ps : List Str} {sp sp2 : Sp} (F : FnG P w K mg base k f fd ps sp) (h : ∀ vs H Q E, sp2 vs H Q E → sp vs H Q E) : FnG P w K mg base k f fd ps sp2 :=
  ⟨fun vs H Q E q => F.ln vs H Q E (h _ _ _ _ q), fun A fr s0 Hh ar zs vs Q E rm qt e b r q => F.go A fr s0 Hh ar zs vs Q E rm qt e b r (h _ _ _ _ q)⟩
/-- by the body, run where nothing of repr is under way -/
theorem fnG_of {k : Nat} {f : Addr} {nm qual : Str} {pars : Arguments} {body : List Stmt} {sco : Scope} {dV kV doc pm cdv ct oc : Value} {an od : Option Addr} {osl : Array (Option Value)} {N ps : List Str} {sp : Sp}
    (look : K.lookup f = some ⟨oc, od, .func (PySem.W.fnOf nm qual pars body sco dV kV doc pm an cdv ct), osl⟩) (code : PySem.W.codeIn K cdv qual = true) (Sc : FnScope N ps sco) (ln : ∀ vs H Q E, sp vs H Q E → vs.length = ps.length)
    (bd : ∀ (A : Around) (fr : List Env) (s0 : Shared) (Hh : Hp) (vs : List V) (Q : VK) (E : XK), Room k (A.deeper (envOfC qual sco s0.heap.objs.size f cdv)) → Quiet (A.deeper (envOfC qual sco s0.heap.objs.size f cdv)) → sp vs Hh Q E →
      ∃ t, PSs (cxOf CX0 P w K mg base N qual sco f cdv A fr s0 Hh E) body t ∧ t { nx := fun _ G => Q .non G, rt := Q } (start N vs) Hh) :
    FnG P w K mg base (k + 1) f (PySem.W.fnOf nm qual pars body sco dV kV doc pm an cdv ct) ps sp := by
  refine ⟨ln, fun A fr s0 Hh ar zs vs Q E rm qt env0 bnd rel want => ?_⟩
  have eqLen := ln _ _ _ _ want
  have inNow : K.In s0.heap := env0.mod.kin.keeps fun a o h => (env0.bs a o h).1
  have noLim : s0.heap.NoLimit := env0.mod.nolimit.keeps fun a o h => (env0.bs a o h).1
  have kinds : ∀ z ∈ ps.zip zs, sco.names.lookup z.1 = some .local ∨ (sco.names.lookup z.1 = some .cell ∧ ((cellsFrom (s0.heap.objs.size + 1) sco.names []).lookup z.1).isSome = true) := by
    intro ⟨n, u⟩ hz
    rcases Sc.par n (List.of_mem_zip hz).1 with loc | cel
    · exact .inl loc
    · exact .inr ⟨cel, PySem.W.cellsFrom_some _ _ _ (.inl cel)⟩
  refine codeAny_call_function rm.depth (inNow _ _ look) rfl Sc.co Sc.gen rfl (PySem.W.codeRec_of inNow code) (bnd _ _ _ _ ?_)
  refine wpAny_newFunctionEnv_cells Sc.kind kinds fun env ee s2 ic => ?_
  subst ee
  refine ⟨noLim.keeps ic.toInCall.keep, codeAny_func ?_⟩
  obtain ⟨t, pt, tq⟩ := bd A fr s0 Hh vs Q E (rm.deeper _) (quiet_deeper qt _) want
  have I0 : Inv (cxOf CX0 P w K mg base N qual sco f cdv A fr s0 Hh E) [] (start N vs) Hh s2 := inv_start Sc rm.hd env0 eqLen rel ic
  refine wpAny_mono (pt.run [] s2 (start N vs) Hh _ I0 tq) (fun flow s3 got => ?_) fun _ _ got => got
  have last : ∀ {σ2 : L2.St} {H2 : Hp} {x : V} {u : Value}, Inv (cxOf CX0 P w K mg base N qual sco f cdv A fr s0 Hh E) [] σ2 H2 s3 → RelV x u → Q x H2 → CE fr P w Hh s0 Q u s3 := by
    intro σ2 H2 x u I2 rx qx
    exact ⟨x, H2, I2.os, I2.bare, I2.base, I2.hok, rx, qx⟩
  cases flow with
  | ret u =>
    obtain ⟨x, σ2, H2, I2, rx, qx⟩ := got
    exact last I2 rx qx
  | next =>
    obtain ⟨σ2, H2, I2, qx⟩ := got
    exact last (x := V.non) (u := Value.none) I2 rfl qx
  | brk => obtain ⟨_, _, _, no⟩ := got; exact no.elim
  | cont => obtain ⟨_, _, _, no⟩ := got; exact no.elim
/-- an ordinary def, too -/
theorem FnG.of {k : Nat} {f : Addr} {fd : FuncData} {ps : List Str} {sp : Sp} (F : FnOk P w K mg base CX0 k f fd ps sp) : FnG P w K mg base k f fd ps sp := ⟨F.len, fun A fr s0 Hh ar zs vs Q E rm _ e b r q => F.run A fr s0 Hh ar zs vs Q E rm e b r q⟩
/-- such a def, by its name -/
structure CalG (P : Program) (w : World) (K : PySem.W.Frag) (mg : Str → Option Value) (base : Heap) (x : Str) (k : Nat) (sp : Sp) : Prop where
  ex : ∃ (f : Addr) (fd : FuncData) (ps : List Str), mg x = some (.ref f) ∧ PySem.W.keepIn K (.ref f) = true ∧ Binds K fd ps [] ∧ FnG P w K mg base k f fd ps sp
end
section
variable {X : Cx} {k : Nat} {f : Addr} {fd : FuncData} {ps : List Str} {sp : Sp} {dvs : List V} {ds : List Value} {E : XK} {x : Str} {p pos : Pos} {e : Expr} {es : List Expr} {t : TA}
theorem run_G {pins : List (Addr × Obj)} {σ : L2.St} {Hh : Hp} {s0 : Shared} {Q : VK} {zs : List Value} {vs : List V} (F : FnG X.prog X.w X.K X.mg X.base k f fd ps sp) (rm : Room k X.A) (qt : Quiet X.A) (hb : Binds X.K fd ps ds) (hd : Vals dvs ds) (hx : Passes CX0 X E)
    (I : Inv X pins σ Hh s0) (r : Vals vs zs) (want : sp (vs ++ dvs) Hh Q E) : wpAny (model X.prog X.w) X.A (call (.ref f) zs) (EP X pins σ Q) X.xe s0 := by
  have rr : Vals (vs ++ dvs) (zs ++ ds) := r.append hd
  have ll : (zs ++ ds).length = ps.length := rr.length.symm.trans (F.ln _ _ _ _ want)
  refine wpAny_call (codeAny_mono (F.go X.A X.stack s0 Hh ⟨zs, []⟩ (zs ++ ds) (vs ++ dvs) Q E rm qt I.env0 (hb s0 zs I.kIn ll) rr want) fun res s3 got => ?_)
  match res, got with
  | .error e, got => exact hx pins σ Hh s0 e s3 I got
  | .ok (.ret u), got => exact I.after got
  | .ok .next, got => exact False.elim got
  | .ok .brk, got => exact False.elim got
  | .ok .cont, got => exact False.elim got
theorem pe_G (F : FnG X.prog X.w X.K X.mg X.base k f fd ps sp) (rm : Room k X.A) (qt : Quiet X.A) (hg : Gl X x) (hm : X.mg x = some (.ref f)) (hk : PySem.W.keepIn X.K (.ref f) = true) (hb : Binds X.K fd ps ds) (hd : Vals dvs ds) (hx : Passes CX0 X E)
    (ha : PA X (e :: es) t) (hdb : (x == ("__debug__" : Str)) = false := by decide) (he : starEach (e :: es) X.env = (false, eval e X.env) :: starEach es X.env := by rfl) (hpl : (backTo pos (starEach es X.env)).any (·.1) = false := by rfl) :
    PE X (.Call (.Name x p) (e :: es) [] pos) (tCall sp dvs E t) := by
  refine ⟨fun pins s0 σ Hh Q I hw => ?_⟩
  refine wpAny_Call_Name_kw (ld_glob I hg hm ?_ hdb)
  refine PySem.W.callWith_K (h₀ := X.base) I.ok.mod.kin hk (thn (ha.run pos pins s0 σ Hh _ I hw) fun zs s2 ⟨vs, H2, I2, rr, qq⟩ => ⟨I2.kIn, ?_⟩) he hpl
  exact run_G F rm qt hb hd hx I2 rr qq
end
section
variable [J : Iv] {P : Program} {w : World} {K : PySem.W.Frag} {mg : Str → Option Value} {base : Heap}
theorem ok_G {α : Type} {args : α → List Ty} {pre : α → Prop} {res : α → Ty} {d : He.DefD} {k : Nat} {N ps : List Str} {fd : FuncData} {f : Addr} {dvs : List V} {kws : List (Str × V)} (F : FunD K d.name d.qual d.params d.body d.scope dvs kws f fd) (S : FnScope N ps d.scope)
    (hl : ∀ a, (args a).length = ps.length) (hN : ps.length ≤ N.length)
    (body : ∀ (cdv : Value) (cd : PySem.W.codeIn K cdv d.qual = true) (A : Around) (outer : List Env) (s : Shared) (H0 : Hp) (E : XK) (a : α) (B0 : Hp) (σ : L2.St) (D : Ends), Room k (A.deeper (envOfC d.qual d.scope s.heap.objs.size f cdv)) → Quiet (A.deeper (envOfC d.qual d.scope s.heap.objs.size f cdv)) → pre a →
      At nF B0 H0 B0 ((args a).map some ++ List.replicate (N.length - (args a).length) none) [] σ B0 H0 → (∀ v B' H', Nw nF B0 H0 B' H' → (res a).p B' v → D.rt v H') → (∀ σ' H', D.rt .non H' → D.nx σ' H') →
      RS (cx0 P w K mg base N d f cdv A outer s H0 E) d.body D σ H0) : FnG P w K mg base (k + 1) f fd ps (spF args pre res) := by
  obtain ⟨_, _, _, _, _, _, _, cdv, _, _, rfl, lk, hcd, _⟩ := F.ex
  refine fnG_of lk hcd S (fun vs H Q E ⟨a, B, _, _, r, _⟩ => by rw [r.length]; exact hl a) fun A fr s0 Hh vs Q E rm qt ⟨a, B, bh, hp, r, q⟩ => ?_
  obtain ⟨t, h1, h2⟩ := body cdv hcd A fr s0 Hh E a B (L2.start N vs) ⟨fun _ H' => Q .non H', Q, fun _ _ => False, fun _ _ => False⟩ rm qt hp ⟨sok_start N r (by rw [hl a]; exact hN), .refl bh, Same.refl B, ⟨fun _ z => (nomatch z), List.nodup_nil⟩⟩ q fun _ _ z => z
  exact ⟨t, h1.nox, h2⟩
theorem cal_G {α : Type} {args : α → List Ty} {pre : α → Prop} {res : α → Ty} {d : He.DefD} {x : Str} {k : Nat} {N ps : List Str} (F : ∃ fd, FunD K d.name d.qual d.params d.body d.scope [] [] (He.fAd K d.at_) fd) (hm : mg x = some (.ref (He.fAd K d.at_))) (S : FnScope N ps d.scope)
    (hb : ∀ (kV doc pm : Value) (an : Option Addr) (cdv ct : Value) (us : List Value), us.length = ps.length → bindArgs (PySem.W.fnOf d.name d.qual d.params d.body d.scope .none kV doc pm an cdv ct) ⟨us, []⟩ = pure (ps.zip us))
    (hl : ∀ a, (args a).length = ps.length) (hN : ps.length ≤ N.length)
    (body : ∀ (f : Addr) (cdv : Value) (cd : PySem.W.codeIn K cdv d.qual = true) (A : Around) (outer : List Env) (s : Shared) (H0 : Hp) (E : XK) (a : α) (B0 : Hp) (σ : L2.St) (D : Ends), Room k (A.deeper (envOfC d.qual d.scope s.heap.objs.size f cdv)) → Quiet (A.deeper (envOfC d.qual d.scope s.heap.objs.size f cdv)) → pre a →
      At nF B0 H0 B0 ((args a).map some ++ List.replicate (N.length - (args a).length) none) [] σ B0 H0 → (∀ v B' H', Nw nF B0 H0 B' H' → (res a).p B' v → D.rt v H') → (∀ σ' H', D.rt .non H' → D.nx σ' H') →
      RS (cx0 P w K mg base N d f cdv A outer s H0 E) d.body D σ H0) : CalG P w K mg base x (k + 1) (spF args pre res) := by
  obtain ⟨fd, F⟩ := F
  exact ⟨_, fd, ps, hm, F.kp, F.bindsN hb, ok_G F S hl hN (body _)⟩
section
variable {X : Cx} {Γ : Ctx} {e : Expr} {es : List Expr} {t : Ty} {ts : List Ty} {pos p : Pos} {x : Str} {k : Nat}
theorem ev_callG {α : Type} {args : α → List Ty} {pre : α → Prop} {res : α → Ty} (C : CalG X.prog X.w X.K X.mg X.base x k (spF args pre res)) {d : α} (hr : Room k X.A) (qt : Quiet X.A) (hg : Gl X x) (ha : EvA X Γ (e :: es) ts) (hp : pre d) (hts : args d = ts := by rfl) (ht : res d = t := by rfl)
    (hdb : (x == ("__debug__" : Str)) = false := by decide) (he : starEach (e :: es) X.env = (false, eval e X.env) :: starEach es X.env := by rfl) (hpl : (backTo pos (starEach es X.env)).any (·.1) = false := by rfl) :
    EvE X Γ (.Call (.Name x p) (e :: es) [] pos) t := fun σ B H s bh Q q => by
  obtain ⟨f, fd, ps, hm, hk, hb, F⟩ := C.ex
  subst hts ht
  refine ⟨_, pe_G F hr qt hg hm hk hb .nil pass0 pa_c hdb he hpl, ha σ B H s bh _ fun vs B1 H1 n1 r1 => ?_⟩
  rw [List.append_nil]
  exact ⟨d, B1, n1.bh, hp, r1, fun v B2 H2 n2 r2 => q v B2 H2 (n1.trans n2) r2⟩
end
end
end Ls
set_option maxHeartbeats 1000000 -- Vb
/-! repr; _law_alike -/
namespace Ls
open PySem Spec PyProof.Rows L2
/-- small data of numbers and truth values -/
structure Al (m k : Nat) (d : PyData) : Prop where
  lay : d.canLay0 = true
  dep : d.depth ≤ k
  sho : d.showable = true
  lvs : d.leavesShort 13 = true
  blk : d.bulk ≤ m
theorem al_int {i : Int} (h0 : 0 ≤ i) (h : i < 10 ^ 11) : Al 0 0 (.int i) := ⟨rfl, Nat.le_refl _, by
    show decide (i.natAbs.log2 < 1920) = true
    refine decide_eq_true ?_
    by_cases hz : i.natAbs = 0
    · rw [hz]; decide
    · have e1 : (10 : Int) ^ 11 = 100000000000 := by decide
      have e2 : 2 ^ 40 = 1099511627776 := by decide
      have h3 : i.natAbs < 2 ^ 40 := by omega
      have h4 := (Nat.log2_lt hz).mpr h3
      omega, by
    show decide ((PyData.shown (.int i)).length ≤ 13) = true
    exact decide_eq_true (Nat.le_trans (toString_length_le h0 (k := 11) (by decide) h) (by decide)), Nat.le_refl _⟩
theorem al_bool {b : Bool} : Al 0 0 (.bool b) := ⟨rfl, Nat.le_refl _, rfl, rfl, Nat.le_refl _⟩
theorem al_all {m k : Nat} : ∀ {xs : List PyData}, (∀ x ∈ xs, Al m k x) → PyData.canLayAll0 xs = true ∧ PyData.depthAll xs ≤ k ∧ PyData.showableAll xs = true ∧ PyData.leavesShortAll 13 xs = true ∧ PyData.bulkAll xs ≤ xs.length * (m + 1)
  | [], _ => ⟨rfl, Nat.zero_le _, rfl, rfl, Nat.zero_le _⟩
  | x :: xs, h => by
    have hx := h x List.mem_cons_self
    obtain ⟨h1, h2, h3, h4, h5⟩ := al_all (xs := xs) fun y hy => h y (List.mem_cons_of_mem _ hy)
    refine ⟨?_, ?_, ?_, ?_, ?_⟩
    · rw [PyData.canLayAll0, hx.lay, h1]; rfl
    · rw [PyData.depthAll]; exact Nat.max_le.mpr ⟨hx.dep, h2⟩
    · rw [PyData.showableAll, hx.sho, h3]; rfl
    · rw [PyData.leavesShortAll, hx.lvs, h4]; rfl
    · rw [PyData.bulkAll, List.length_cons, Nat.succ_mul]
      have := hx.blk
      omega
theorem al_list {m k n : Nat} {xs : List PyData} (h : ∀ x ∈ xs, Al m k x) (hn : xs.length * (m + 1) ≤ n) : Al n (k + 1) (.list xs) := by
  obtain ⟨h1, h2, h3, h4, h5⟩ := al_all h
  refine ⟨?_, ?_, ?_, ?_, Nat.le_trans ?_ hn⟩
  · rw [PyData.canLay0]; exact h1
  · rw [PyData.depth]; omega
  · rw [PyData.showable]; exact h3
  · rw [PyData.leavesShort]; exact h4
  · rw [PyData.bulk]; exact h5
theorem al_tup {m k n : Nat} {xs : List PyData} (h : ∀ x ∈ xs, Al m k x) (hn : xs.length * (m + 1) ≤ n) : Al n (k + 1) (.tuple xs) := by
  obtain ⟨h1, h2, h3, h4, h5⟩ := al_all h
  refine ⟨?_, ?_, ?_, ?_, Nat.le_trans ?_ hn⟩
  · rw [PyData.canLay0]; exact h1
  · rw [PyData.depth]; omega
  · rw [PyData.showable]; exact h3
  · rw [PyData.leavesShort]; exact h4
  · rw [PyData.bulk]; exact h5
theorem Al.shaped {m k : Nat} {d : PyData} (h : Al m k d) (hk : k ≤ 20) : SeqAt.shaped d = true := by
  unfold SeqAt.shaped
  rw [h.lay, decide_eq_true (by have := h.dep; omega)]
  rfl
theorem Al.fits {m k : Nat} {d : PyData} (h : Al m k d) (hm : m ≤ 1000000) : d.shown.length ≤ sizeLine := PyData.shown_fits_bulk (B := 13) (by decide) (by decide) h.lvs (by have := h.blk; omega)
/-- not a reference, or one: repr of data -/
def Refd : PyData → Prop
  | .list _ => True
  | .tuple _ => True
  | .int _ => True
  | _ => False
def rReprD (K : PySem.W.Frag) : List V → Hp → VK → Prop := fun xs H Q => ∃ (x : V) (d : PyData), xs = [x] ∧ Dp K H x d ∧ Al 1000000 20 d ∧ Refd d ∧ Q (.str d.shown) H
theorem cr_reprD {X : Cx} (qt : Quiet X.A) (hu : X.A.units + 30 < cLine) : CallR X (.builtin "repr") (rReprD X.K) := by
  intro pins s σ H xs us Q I r ⟨x, d, e, hd, al, rf, q⟩
  subst e
  obtain ⟨u, rfl, rx⟩ := vals1 r
  cases hd with
  | int i =>
    obtain ⟨t, rfl⟩ := rx
    exact PySem.P.repr_of_int (of_decide_eq_true al.sho) ⟨.str _, H, I.tok _, ⟨_, rfl⟩, q⟩
  | lst hs ha =>
    obtain ⟨as, rd⟩ := Dp.reads I _ _ _ (.lst hs ha) rx
    cases rx
    exact repr_of_reads' rd al.sho (PyData.noDict_hsm (PyData.hasDict_of_canLay _ al.lay)) qt (by have := al.dep; omega) (fun _ _ h => h) (fun h' u tk hk => ⟨.str _, H, I.kept (t' := tk) hk, ⟨u, rfl⟩, q⟩) (al.fits (Nat.le_refl _))
  | tup hs ha =>
    obtain ⟨as, rd⟩ := Dp.reads I _ _ _ (.tup hs ha) rx
    cases rx
    exact repr_of_reads' rd al.sho (PyData.noDict_hsm (PyData.hasDict_of_canLay _ al.lay)) qt (by have := al.dep; omega) (fun _ _ h => h) (fun h' u tk hk => ⟨.str _, H, I.kept (t' := tk) hk, ⟨u, rfl⟩, q⟩) (al.fits (Nat.le_refl _))
  | non => exact rf.elim
  | bl b => exact rf.elim
  | str x => exact rf.elim
section
variable [J : Iv] {P : Program} {w : World} {K : PySem.W.Frag} {mg : Str → Option Value} {base : Heap}
theorem cb_reprD {K : PySem.W.Frag} {t : Ty} {d : PyData} (h : IsD t d) (al : Al 1000000 20 d) (rf : Refd d) : Cb (rReprD K) [t] (tS d.shown) := fun vs B H Q bh r q => by
  cases r with
  | cons r1 r0 =>
    cases r0
    exact ⟨_, d, rfl, h K B H _ bh r1, al, rf, q _ B H (.refl bh) rfl⟩
/-- two data that are the same, or not equal -/
structure AD where
  t1 : Ty
  t2 : Ty
  d1 : PyData
  d2 : PyData
  b : Bool
structure AD.Ok [J : Iv] (x : AD) : Prop where
  i1 : IsD x.t1 x.d1
  i2 : IsD x.t2 x.d2
  a1 : Al 1000000 20 x.d1
  a2 : Al 1000000 20 x.d2
  r1 : Refd x.d1
  r2 : Refd x.d2
  eq : x.b = true → x.d1 = x.d2
  ne : x.b = false → PyData.eqv x.d1 x.d2 = false
theorem sc__law_alike : FnScope ["_law_found", "_law_due"] ["_law_found", "_law_due"] (defScope s__law_alike) := ⟨rfl, rfl, rfl, by decide +kernel, rfl, by decide +kernel, by decide +kernel⟩
theorem c_alike (T : Top K mg) : CalG P w K mg base "_law_alike" 1 (spF (α := AD) (fun x => [x.t1, x.t2]) (fun x => x.Ok) (fun x => tB x.b)) := by
  refine cal_G T.f__law_alike T.g__law_alike sc__law_alike (fun _ _ _ _ _ _ us hl => match us, hl with | [_, _], _ => rfl) (fun _ => rfl) (by decide) fun f cdv cd A outer s H0 E x B0 σ D hr qt hp a k hn => ?_
  have hp : x.Ok := hp
  have hu := hr.units
  have h1 : PyData.eqv x.d1 x.d2 = x.b := by
    cases hb : x.b with
    | true => rw [← hp.eq hb]; exact SeqAt.eqv_refl _ hp.a1.lay
    | false => exact hp.ne hb
  refine rs_ret a (EvE.isB (k2 := x.b) (ev_and (k2 := true) (EvE.isB (ev_cmp (op_eqD hr.units) (ev_name (i := 0) (t := x.t1) rfl (.inl rfl) rfl) (ev_name (i := 1) (t := x.t2) rfl (.inl rfl) rfl) (bin_eqD hp.i1 hp.i2 (hp.a1.shaped (by decide)) (hp.a2.shaped (by decide))) (nomark _)) h1) (fun hb => (ev_one (EvE.isB (ev_cmp op_eq (ev_callB (cr_reprD qt (Nat.lt_of_le_of_lt (Nat.add_le_add_left (by decide) _) hr.units)) rfl T.b_repr bt_repr (ea_cons (ev_name (i := 0) (t := x.t1) rfl (.inl rfl) rfl) ea_nil) (cb_reprD hp.i1 hp.a1 hp.r1)) (ev_callB (cr_reprD qt (Nat.lt_of_le_of_lt (Nat.add_le_add_left (by decide) _) hr.units)) rfl T.b_repr bt_repr (ea_cons (ev_name (i := 1) (t := x.t2) rfl (.inl rfl) rfl) ea_nil) (cb_reprD hp.i2 hp.a2 hp.r2)) (bin_eq rfl) (nomark _)) (by rw [hp.eq hb]; exact decide_eq_true rfl))))) (Bool.and_true _)) fun v B' H' _ a' r => k v B' H' a'.n r
end
end Ls
set_option maxHeartbeats 1000000 -- Vc
/-! the law's play: a sale -/
namespace Ls
open PySem Spec PyProof.Rows L2
def dPz (q : Nat × Nat) : PyData := .tuple [.int (q.1 : Int), .int (q.2 : Int)]
theorem eqv_Pz {p q : Nat × Nat} (h : ¬ p = q) : PyData.eqv (dPz p) (dPz q) = false := by
  unfold dPz
  rw [PyData.eqv, PyData.eqvAll, PyData.eqvAll, PyData.eqvAll]
  by_cases h1 : p.1 = q.1
  · have h2 : ¬ p.2 = q.2 := fun e => h (Prod.ext h1 e)
    have : PyData.eqv (.int (p.2 : Int)) (.int (q.2 : Int)) = false := by
      rw [PyData.eqv]
      simp
      omega
    rw [this]
    simp
  · have : PyData.eqv (.int (p.1 : Int)) (.int (q.1 : Int)) = false := by
      rw [PyData.eqv]
      simp
      omega
    rw [this]
    rfl
theorem al_Pz {q : Nat × Nat} (h1 : q.1 ≤ 1000000) (h2 : q.2 ≤ 1000000) : Al 2 1 (dPz q) := by
  have e : (10 : Int) ^ 11 = 100000000000 := by decide
  refine al_tup (m := 0) (k := 0) (fun x hx => ?_) (Nat.le_refl _)
  rcases List.mem_cons.mp hx with e1 | hx
  · rw [e1]; exact al_int (by omega) (by omega)
  · rcases List.mem_cons.mp hx with e1 | hx
    · rw [e1]; exact al_int (by omega) (by omega)
    · cases hx
theorem Al.up {m k m' k' : Nat} {d : PyData} (h : Al m k d) (hm : m ≤ m') (hk : k ≤ k') : Al m' k' d := ⟨h.lay, Nat.le_trans h.dep hk, h.sho, h.lvs, Nat.le_trans h.blk hm⟩
theorem hit_sales {R : Ru} {p z : Nat} {q : Nat × S3} : hit R p z q = true ↔ ∃ b, (z, b) ∈ sales R q.2 ∧ q.1 + b = p := by
  unfold hit isSold
  rw [Bool.and_eq_true, Bool.and_eq_true]
  constructor
  · rintro ⟨h1, h2, h3⟩
    have h1 := of_decide_eq_true h1
    have h2 := of_decide_eq_true h2
    have h3 := of_decide_eq_true h3
    have en : ((p : Int) - (q.1 : Int)).toNat = p - q.1 := by omega
    rw [en] at h3
    exact ⟨p - q.1, mem_sales.mpr ⟨h2, h3⟩, by omega⟩
  · rintro ⟨b, h1, h2⟩
    obtain ⟨g1, g2⟩ := mem_sales.mp h1
    have en : ((p : Int) - (q.1 : Int)).toNat = b := by omega
    rw [en]
    exact ⟨decide_eq_true (by omega), decide_eq_true g1, decide_eq_true g2⟩
/-- places -/
def SOkP (here : List (Nat × S3)) : Prop := ∀ q ∈ here, q.1 ≤ 100000
section
variable [J : Iv] {P : Program} {w : World} {K : PySem.W.Frag} {mg : Str → Option Value} {base : Heap}
theorem isd_Pz {q : Nat × Nat} : IsD (tPz q) (dPz q) := isd_T (isds_cons isd_int (isds_cons isd_int isds_nil))
theorem sc__law_led : FnScope ["_law_told", "_law_here", "_law_sale", "_law_at", "_law_seat", "_law_stretch_here", "_law_size", "_law_before", "_law_one_here", "_law_other"] ["_law_told", "_law_here", "_law_sale"] (defScope s__law_led) := ⟨rfl, rfl, rfl, by decide +kernel, rfl, by decide +kernel, by decide +kernel⟩
theorem c_lled (T : Top K mg) : CalG P w K mg base "_law_led" 6 (spF (α := Ru × List (Nat × S3) × Nat × Nat) (fun d => [tTold d.1, tL (d.2.1.map tIt), tPz d.2.2]) (fun d => d.1.Ok ∧ HOk d.2.1 ∧ SOkP d.2.1 ∧ d.2.2.1 ≤ 100000 ∧ d.2.2.2 ≤ 5) (fun d => tLed (led d.1 d.2.2.1 d.2.2.2 d.2.1))) := by
  have nd := sc__law_led.nd
  have C1 := c_all_sales (P := P) (w := w) (base := base) T
  have C2 := c_alike (P := P) (w := w) (base := base) T
  have C3 := c_parted (P := P) (w := w) (base := base) T
  refine cal_G T.f__law_led T.g__law_led sc__law_led (fun _ _ _ _ _ _ us hl => match us, hl with | [_, _, _], _ => rfl) (fun _ => rfl) (by decide) fun f cdv cd A outer s H0 E ⟨R, here, p, z⟩ B0 σ D hr qt hp a k hn => ?_
  obtain ⟨hR, ⟨hlen, hn100⟩, hso, hp1, hz5⟩ : R.Ok ∧ HOk here ∧ SOkP here ∧ p ≤ 100000 ∧ z ≤ 5 := hp
  have k : ∀ v B H, Nw nF B0 H0 B H → (tLed (led R p z here)).p B v → D.rt v H := k
  refine rs_for (xs := here.zipIdx) (τ := fun q => tT [nT q.2, tIt q.1]) a rfl (EvI.is (ei_enum rfl T.b_enumerate (ev_name (i := 1) rfl (.inl rfl) rfl)) enTys_map) (fun _ _ => (tg_tup rfl (tgs_cons (tg_name (i := 3) nd rfl (.inl rfl)) (tgs_cons (tg_tup rfl (tgs_cons (tg_name (i := 4) nd rfl (.inl rfl)) (tgs_cons (tg_name (i := 5) nd rfl (.inl rfl)) tgs_nil))) tgs_nil))))
    (fun i Γ C => (∃ o3 o4 o5 o6 o7 o8 o9, Γ = [some (tTold R), some (tL (here.map tIt)), some (tPz (p, z)), o3, o4, o5, o6, o7, o8, o9]) ∧ C = [] ∧ ∀ j, j < i → ∀ q, here[j]? = some q → hit R p z q = false) ⟨⟨_, _, _, _, _, _, _, rfl⟩, rfl, fun j hj => absurd hj (Nat.not_lt_zero j)⟩ (fun B1 s1 i x Γ1 W1 σ B H hi hI a => ?_) fun Γ1 W1 σ B H s1 hI a => ?_
  · obtain ⟨⟨o3, o4, o5, o6, o7, o8, o9, rfl⟩, rfl, hno⟩ := hI
    obtain ⟨⟨seat, t⟩, j⟩ := x
    obtain ⟨hj, hy⟩ := zipIdx_get hi
    have hj : j = i := hj
    have hy : here[i]? = some (seat, t) := hy
    subst hj
    have hmem := List.mem_of_getElem? hy
    have ht : t.n ≤ 100 := hn100 _ hmem
    have hst : seat ≤ 100000 := hso _ hmem
    have hjl : j < here.length := (List.getElem?_eq_some_iff.mp hy).1
    refine rs_for (xs := sales R t) (τ := tPz) a rfl (ei_list (ev_call C1 hr rfl (d := (R, t)) (ea_cons (ev_name (i := 0) rfl (.inl rfl) rfl) (ea_cons (ev_name (i := 5) rfl (.inl rfl) rfl) ea_nil)) ⟨hR, ht⟩)) (fun _ _ => (tg_tup rfl (tgs_cons (tg_name (i := 6) nd rfl (.inl rfl)) (tgs_cons (tg_name (i := 7) nd rfl (.inl rfl)) tgs_nil))))
      (fun i' Γ C => (∃ o6 o7 o8 o9, Γ = [some (tTold R), some (tL (here.map tIt)), some (tPz (p, z)), some (nT j), some (nT seat), some (tSt t), o6, o7, o8, o9]) ∧ C = [] ∧ ∀ q ∈ (sales R t).take i', ¬ (seat + q.2, q.1) = (p, z)) ⟨⟨_, _, _, _, rfl⟩, rfl, fun q hq => by rw [List.take_zero] at hq; cases hq⟩ (fun B1 s1 i' x Γ1 W1 σ B H hi' hI a => ?_) fun Γ1 W1 σ B H s1 hI a => ?_
    · obtain ⟨⟨o6, o7, o8, o9, rfl⟩, rfl, hne⟩ := hI
      obtain ⟨z', b⟩ := x
      have hsm := List.mem_of_getElem? hi'
      have hfit : 1 ≤ z' ∧ z' ≤ 5 ∧ b + z' ≤ t.n := sale_fit hR hsm
      refine rs_when (b := decide ((seat + b, z') = (p, z))) a (et_val (ev_callG C2 (hr.mono (by decide)) qt rfl (d := ⟨tPz (seat + b, z'), tPz (p, z), dPz (seat + b, z'), dPz (p, z), decide ((seat + b, z') = (p, z))⟩) (ea_cons (EvE.is (ev_tup (ea_cons (ev_bin op_add (ev_name (i := 4) rfl (.inl rfl) rfl) (ev_name (i := 7) rfl (.inl rfl) rfl) bin_I0) (ea_cons (ev_name (i := 6) rfl (.inl rfl) rfl) ea_nil))) (t2 := tPz (seat + b, z')) rfl) (ea_cons (ev_name (i := 2) rfl (.inl rfl) rfl) ea_nil)) ⟨isd_Pz, isd_Pz, (al_Pz (by show seat + b ≤ 1000000; omega) (by show z' ≤ 1000000; omega)).up (by decide) (by decide), (al_Pz (by show p ≤ 1000000; omega) (by show z ≤ 1000000; omega)).up (by decide) (by decide), trivial, trivial, fun h => by rw [of_decide_eq_true h], fun h => eqv_Pz (of_decide_eq_false h)⟩)) (fun hb B H s1 a => ?_) fun hb B H s1 a => ?_
      · have he := of_decide_eq_true hb
        have e1 : seat + b = p := (Prod.mk.inj he).1
        have e2 : z' = z := (Prod.mk.inj he).2
        have hhit : hit R p z (seat, t) = true := hit_sales.mpr ⟨b, by rw [← e2]; exact hsm, e1⟩
        refine rs_asg a (ev_call C3 (hr.mono (by decide)) rfl (d := (t, z', b)) (ea_cons (ev_name (i := 5) rfl (.inl rfl) rfl) (ea_cons (ev_name (i := 6) rfl (.inl rfl) rfl) (ea_cons (ev_name (i := 7) rfl (.inl rfl) rfl) ea_nil))) hfit.2.2) (tg_tup rfl (tgs_cons (tg_name (i := 8) nd rfl (.inl rfl)) (tgs_cons (tg_name (i := 9) nd rfl (.inl rfl)) tgs_nil))) fun σ B H s1 a => ?_
        have htk : (cutT (here.map tIt) none (some (j : Int))) = (here.take j).map tIt := by rw [cut_to, take_map]
        have hdr : (cutT (here.map tIt) (some ((j + 1 : Nat) : Int)) none) = (here.drop (j + 1)).map tIt := by rw [cut_from, List.map_drop]
        have l1 : ((here.take j).map tIt).length ≤ here.length := by rw [List.length_map]; exact List.length_take_le' ..
        have l2 : ((here.drop (j + 1)).map tIt).length ≤ here.length := by rw [List.length_map, List.length_drop]; omega
        refine rs_ret a (ev_bin op_cat (ev_bin op_cat (EvE.is (ev_sliceL (ev_name (i := 1) rfl (.inl rfl) rfl) eo_none (eo_some (ev_name (i := 3) rfl (.inl rfl) rfl))) (congrArg tL htk)) (ev_lst (ea_cons (ev_tup (ea_cons (ev_name (i := 4) rfl (.inl rfl) rfl) (ea_cons (ev_name (i := 8) rfl (.inl rfl) rfl) ea_nil))) (ea_cons (ev_tup (ea_cons (ev_bin op_add (ev_bin op_add (ev_name (i := 4) rfl (.inl rfl) rfl) (ev_name (i := 7) rfl (.inl rfl) rfl) bin_I0) (ev_name (i := 6) rfl (.inl rfl) rfl) bin_I0) (ea_cons (ev_name (i := 9) rfl (.inl rfl) rfl) ea_nil))) ea_nil))) (bin_cat ?_)) (EvE.is (ev_sliceL (ev_name (i := 1) rfl (.inl rfl) rfl) (eo_some (EvE.is (ev_bin op_add (ev_name (i := 3) rfl (.inl rfl) rfl) ev_int bin_I0) (t2 := nT (j + 1)) rfl)) eo_none) (congrArg tL hdr)) (bin_cat ?_)) fun v B' H' _ a' r => k v B' H' a'.n ?_
        · show _ + 2 ≤ _
          omega
        · rw [List.length_append]
          show _ + 2 + _ ≤ _
          omega
        · rw [led_hit hy hno hhit]
          have eb : p - seat = b := by omega
          rw [eb, ← e1, ← e2]
          show (tL ((here.take j ++ ([(seat, pL t b), (seat + b + z', pR t z' b)] ++ here.drop (j + 1))).map tIt)).p B' v
          rw [List.map_append, List.map_append, ← List.append_assoc]
          exact r
      · refine rs_nil ⟨_, _, B, ⟨⟨_, _, _, _, rfl⟩, rfl, fun q hq => ?_⟩, a⟩
        rw [take_succ' hi'] at hq
        rcases List.mem_append.mp hq with h | h
        · exact hne q h
        · rw [List.mem_singleton.mp h]
          exact of_decide_eq_false hb
    · obtain ⟨⟨o6, o7, o8, o9, rfl⟩, rfl, hne⟩ := hI
      rw [List.take_length] at hne
      refine rs_nil ⟨_, _, B, ⟨⟨_, _, _, _, _, _, _, rfl⟩, rfl, fun i' hi2 q hq => ?_⟩, a⟩
      rcases Nat.lt_succ_iff_lt_or_eq.mp hi2 with h | h
      · exact hno i' h q hq
      · rw [h, hy] at hq
        cases hq
        cases hb : hit R p z (seat, t) with
        | false => rfl
        | true =>
          obtain ⟨b, h1, h2⟩ := hit_sales.mp hb
          exact absurd (show (seat + b, z) = (p, z) by rw [show seat + b = p from h2]) (hne (z, b) h1)
  · obtain ⟨⟨o3, o4, o5, o6, o7, o8, o9, rfl⟩, rfl, hno⟩ := hI
    refine rs_ret a ev_non fun v B' H' _ a' r => k v B' H' a'.n ?_
    rw [led_no fun q hq => by
      obtain ⟨i, hi⟩ := List.mem_iff_getElem?.mp hq
      exact hno i (by rw [List.length_zipIdx]; exact (List.getElem?_eq_some_iff.mp hi).1) q hi]
    exact r
end
end Ls
set_option maxHeartbeats 1000000 -- Vd
/-! the law's play walked, its total -/
namespace Ls
open PySem Spec PyProof.Rows L2
theorem led_seats {R : Ru} {p z m : Nat} (hm : p + z ≤ m) : ∀ {here out : List (Nat × S3)}, led R p z here = some out → (∀ q ∈ here, q.1 ≤ m) → ∀ q ∈ out, q.1 ≤ m
  | [], _, e, _ => by cases e
  | (a, s) :: r, out, e, h => by
    rw [led] at e
    have h0 : a ≤ m := h (a, s) List.mem_cons_self
    split at e
    · cases e
      intro q hq
      rcases List.mem_cons.mp hq with e | hq
      · rw [e]; exact h0
      · rcases List.mem_cons.mp hq with e | hq
        · rw [e]; exact hm
        · exact h q (List.mem_cons_of_mem _ hq)
    · cases h1 : led R p z r with
      | none => rw [h1] at e; cases e
      | some l =>
        rw [h1] at e
        cases e
        intro q hq
        rcases List.mem_cons.mp hq with e | hq
        · rw [e]; exact h0
        · exact led_seats hm h1 (fun q hq => h q (List.mem_cons_of_mem _ hq)) q hq
section
variable [J : Iv] {P : Program} {w : World} {K : PySem.W.Frag} {mg : Str → Option Value} {base : Heap}
/-- a legal play at places that are not far -/
def LegP (R : Ru) (s : S3) (pl : List (Nat × Nat)) (out : List (Nat × S3)) : Prop := Legal R s pl out ∧ ∀ q ∈ pl, q.1 ≤ 1000
theorem sc__law_walked : FnScope ["_law_told", "_law_stretch_here", "_law_play", "_law_here", "_law_at", "_law_sale", "_law_one_here"] ["_law_told", "_law_stretch_here", "_law_play"] (defScope s__law_walked) := ⟨rfl, rfl, rfl, by decide +kernel, rfl, by decide +kernel, by decide +kernel⟩
theorem c_walked (T : Top K mg) : CalG P w K mg base "_law_walked" 7 (spF (α := LB) (fun d => [tTold d.1, tSt d.2.1, tL (d.2.2.1.map tPz)]) (fun d => LegP d.1 d.2.1 d.2.2.1 d.2.2.2) (fun d => tL ((lefts d.2.2.2).map tIt))) := by
  have nd := sc__law_walked.nd
  have C1 := c_lled (P := P) (w := w) (base := base) T
  refine cal_G T.f__law_walked T.g__law_walked sc__law_walked (fun _ _ _ _ _ _ us hl => match us, hl with | [_, _, _], _ => rfl) (fun _ => rfl) (by decide) fun f cdv cd A outer s H0 E ⟨R, t, pl, out⟩ B0 σ D hr qt hp a k hn => ?_
  obtain ⟨⟨hR, ht, hpl, hz, hlg⟩, hfar⟩ : LegP R t pl out := hp
  have k : ∀ v B H, Nw nF B0 H0 B H → (tL ((lefts out).map tIt)).p B v → D.rt v H := k
  refine rs_set (i := 3) a (EvE.is (ev_lst (ea_cons (ev_tup (ea_cons (ev_int (i := 0)) (ea_cons (ev_name (i := 1) rfl (.inl rfl) rfl) ea_nil))) ea_nil)) (t2 := tL ([(0, t)].map tIt)) rfl) nd rfl (.inl rfl) fun σ B H s1 a => ?_
  refine rs_for (xs := pl.zipIdx) (τ := fun q => tT [nT q.2, tPz q.1]) a rfl (EvI.is (ei_enum rfl T.b_enumerate (ev_name (i := 2) rfl (.inl rfl) rfl)) enTys_map) (fun _ _ => (tg_tup rfl (tgs_cons (tg_name (i := 4) nd rfl (.inl rfl)) (tgs_cons (tg_name (i := 5) nd rfl (.inl rfl)) tgs_nil))))
    (fun i Γ C => (∃ h o4 o5, Γ = [some (tTold R), some (tSt t), some (tL (pl.map tPz)), some (tL (h.map tIt)), o4, o5, none] ∧ leds R (pl.drop i) h = some out ∧ h.length = i + 1 ∧ (∀ q ∈ h, q.2.n ≤ 99) ∧ ∀ q ∈ h, q.1 ≤ 2000) ∧ C = []) ⟨⟨[(0, t)], _, _, rfl, hlg, rfl, (fun q hq => by
      rcases List.mem_cons.mp hq with e | z
      · rw [e]; exact ht
      · cases z), fun q hq => by
      rcases List.mem_cons.mp hq with e | z
      · rw [e]; exact Nat.zero_le _
      · cases z⟩, rfl⟩ (fun B1 s1 i x Γ1 W1 σ B H hi hI a => ?_) fun Γ1 W1 σ B H s1 hI a => ?_
  · obtain ⟨⟨h, o4, o5, rfl, hld, hhl, hhn, hhs⟩, rfl⟩ := hI
    obtain ⟨⟨p, z⟩, j⟩ := x
    obtain ⟨hj, hy⟩ := zipIdx_get hi
    have hj : j = i := hj
    have hy : pl[i]? = some (p, z) := hy
    subst hj
    obtain ⟨hjl, hge⟩ := List.getElem?_eq_some_iff.mp hy
    rw [List.drop_eq_getElem_cons hjl, hge] at hld
    have hz1 : 1 ≤ z ∧ z ≤ 5 := hz _ (List.mem_of_getElem? hy)
    have hp1 : p ≤ 1000 := hfar _ (List.mem_of_getElem? hy)
    have hld : (led R p z h).bind (leds R (pl.drop (j + 1))) = some out := hld
    cases e : led R p z h with
    | none => rw [e] at hld; cases hld
    | some h2 =>
      rw [e] at hld
      obtain ⟨k1, k2⟩ := led_ok e
      refine rs_set (i := 3) a (EvE.is (ev_callG C1 hr qt rfl (d := (R, h, p, z)) (ea_cons (ev_name (i := 0) rfl (.inl rfl) rfl) (ea_cons (ev_name (i := 3) rfl (.inl rfl) rfl) (ea_cons (ev_name (i := 5) rfl (.inl rfl) rfl) ea_nil))) ⟨hR, ⟨by show h.length ≤ 1000; omega, fun q hq => by have := hhn q hq; omega⟩, fun q hq => by have := hhs q hq; omega, by show p ≤ 100000; omega, hz1.2⟩) (t2 := tL (h2.map tIt)) (by show tLed (led R p z h) = _; rw [e]; rfl)) nd rfl (.inl rfl) fun σ B H s1 a => ?_
      refine rs_when a (et_cmp oq_isN (ev_name (i := 3) rfl (.inl rfl) rfl) ev_non (bin_isNR isR_L) (nomark _)) (fun hb => nomatch hb) fun hb B H s1 a => ?_
      exact rs_nil ⟨_, _, B, ⟨⟨h2, _, _, rfl, hld, by omega, k2 99 hhn, led_seats (by omega) e hhs⟩, rfl⟩, a⟩
  · obtain ⟨⟨h, o4, o5, rfl, hld, hhl, hhn, hhs⟩, rfl⟩ := hI
    rw [List.length_zipIdx] at hld hhl
    rw [List.drop_length] at hld
    cases hld
    refine rs_ret a (EvE.is (ev_lc (own := [("_law_one_here", 6)]) (xs := out) (τ := tIt) (p := fun q => decide (0 < q.2.n)) (g := tIt) rfl nd (blkOk_by (N := ["_law_told", "_law_stretch_here", "_law_play", "_law_here", "_law_at", "_law_sale", "_law_one_here"]) (sc := defScope s__law_walked) (by decide +kernel)) (ei_list (ev_name (i := 3) rfl (.inl rfl) rfl)) (by decide) (by omega) (fun _ _ _ _ _ _ _ => (tg_name (i := 6) nd rfl (.inl rfl)))
      (fun _ _ _ _ _ q _ => (ets_one (EvT.is (et_cmp op_gt (ev_sub ix_tup (ev_sub ix_tup (ev_name (i := 6) (t := tIt q) rfl (.inl rfl) rfl) ev_int (bin_ixTi (j := 1) (t := tSt q.2) rfl rfl)) ev_int (bin_ixTi (j := 1) (t := nT q.2.n) rfl rfl)) ev_int bin_I0 (nomark _)) (decide_eq_decide.mpr Int.natCast_pos)))) (fun _ _ _ _ _ _ _ => fun _ => (ev_name (i := 6) rfl (.inl rfl) rfl))) (t2 := tL ((lefts out).map tIt)) rfl) fun v B' H' _ a' r => k v B' H' a'.n r
theorem sc__law_total : FnScope ["_law_told", "_law_worth_here", "_law_stretch_here", "_law_play", "_law_here", "_law_price_here", "_law_seat", "_law_size", "_law_one_here"] ["_law_told", "_law_worth_here", "_law_stretch_here", "_law_play"] (defScope s__law_total) := ⟨rfl, rfl, rfl, by decide +kernel, rfl, by decide +kernel, by decide +kernel⟩
theorem c_ltotal (T : Top K mg) : CalG P w K mg base "_law_total" 8 (spF (α := Ru × WA × S3 × List (Nat × Nat) × List (Nat × S3)) (fun d => [tTold d.1, tWT d.2.1, tSt d.2.2.1, tL (d.2.2.2.1.map tPz)]) (fun d => LegP d.1 d.2.2.1 d.2.2.2.1 d.2.2.2.2 ∧ RWA d.1 d.2.1 ∧ ∀ q ∈ lefts d.2.2.2.2, mayEnd d.1 d.2.1.wo q.2 = true) (fun d => tI (plTot d.2.1.wo d.2.2.2.1 d.2.2.2.2))) := by
  have nd := sc__law_total.nd
  have C1 := c_walked (P := P) (w := w) (base := base) T
  have C2 := c_all_end (P := P) (w := w) (base := base) T
  have C3 := c_lprice (P := P) (w := w) (base := base) T
  refine cal_G T.f__law_total T.g__law_total sc__law_total (fun _ _ _ _ _ _ us hl => match us, hl with | [_, _, _, _], _ => rfl) (fun _ => rfl) (by decide) fun f cdv cd A outer s H0 E ⟨R, d, t, pl, out⟩ B0 σ D hr qt hp a k hn => ?_
  obtain ⟨hlp, hRW, hend⟩ : LegP R t pl out ∧ RWA R d ∧ ∀ q ∈ lefts out, mayEnd R d.wo q.2 = true := hp
  have k : ∀ v B H, Nw nF B0 H0 B H → (tI (plTot d.wo pl out)).p B v → D.rt v H := k
  have hpl := hlp.1.2.2.1
  obtain ⟨hol, hon⟩ := leds_ok hlp.1.2.2.2.2
  have hon := hon 99 fun q hq => by
    rcases List.mem_cons.mp hq with e | z
    · rw [e]; exact hlp.1.2.1
    · cases z
  have hol : out.length = 1 + pl.length := hol
  have hll : (lefts out).length ≤ out.length := List.length_filter_le ..
  have hln : ∀ q ∈ lefts out, q.2.n ≤ 99 := fun q hq => hon q (List.mem_filter.mp hq).1
  refine rs_set (i := 4) (t := tL ((lefts out).map tIt)) a (ev_ifx (k := true) (et_val (ev_callB call_isi rfl T.b_isinstance bt_isinstance (ea_cons (ev_name (i := 3) rfl (.inl rfl) rfl) (ea_cons (ev_bty rfl T.b_list bt_list) ea_nil)) (cb_isi isTy_lst kt_list_list))) (fun _ => (ev_callG C1 hr qt rfl (d := (R, t, pl, out)) (ea_cons (ev_name (i := 0) rfl (.inl rfl) rfl) (ea_cons (ev_name (i := 2) rfl (.inl rfl) rfl) (ea_cons (ev_name (i := 3) rfl (.inl rfl) rfl) ea_nil))) hlp)) (fun hb => nomatch hb)) nd rfl (.inl rfl) fun σ B H s1 a => ?_
  refine rs_when a (EvT.is (k2 := false) (et_w (ew_or (et_not (et_val (ev_callB call_isi rfl T.b_isinstance bt_isinstance (ea_cons (ev_name (i := 4) rfl (.inl rfl) rfl) (ea_cons (ev_bty rfl T.b_list bt_list) ea_nil)) (cb_isi isTy_lst kt_list_list)))) (fun _ => (ew_or1 (et_not (et_val (ev_call C2 (hr.mono (by decide)) rfl (d := (R, d, lefts out)) (ea_cons (ev_name (i := 0) rfl (.inl rfl) rfl) (ea_cons (ev_name (i := 1) rfl (.inr (.inl rfl)) rfl) (ea_cons (ev_name (i := 4) rfl (.inl rfl) rfl) ea_nil))) ⟨hRW, fun q hq => by have := hln q hq; omega⟩))))))) (by
      show (!true || !((lefts out).all fun q => mayEnd R d.wo q.2)) = false
      rw [List.all_eq_true.mpr hend]
      rfl)) (fun hb => nomatch hb) fun hb B H s1 a => ?_
  refine rs_set (i := 5) (t := tI ((pl.map fun q : Nat × Nat => d.wo.price q.2).sum)) a (ev_sumI (ns := pl.map fun q : Nat × Nat => d.wo.price q.2) rfl rfl T.b_sum (ev_lc (own := [("_law_seat", 6), ("_law_size", 7)]) (xs := pl) (τ := tPz) (p := fun _ => true) (g := fun q => tI (d.wo.price q.2)) rfl nd (blkOk_by (N := ["_law_told", "_law_worth_here", "_law_stretch_here", "_law_play", "_law_here", "_law_price_here", "_law_seat", "_law_size", "_law_one_here"]) (sc := defScope s__law_total) (by decide +kernel)) (ei_list (ev_name (i := 3) rfl (.inl rfl) rfl)) (by decide) (by omega) (fun _ _ _ _ _ _ _ => (tg_tup rfl (tgs_cons (tg_name (i := 6) nd rfl (.inl rfl)) (tgs_cons (tg_name (i := 7) nd rfl (.inl rfl)) tgs_nil)))) (fun _ _ _ _ _ _ _ => ets_nil)
    (fun _ _ _ _ _ q _ => fun _ => (ev_call C3 (hr.mono (by decide)) rfl (d := (d, q.2)) (ea_cons (ev_name (i := 1) rfl (.inr (.inl rfl)) rfl) (ea_cons (ev_name (i := 7) rfl (.inl rfl) rfl) ea_nil)) trivial))) map_map_I) nd rfl (.inl rfl) fun σ B H s1 a => ?_
  have hsm := sum_le_mul (f := fun q : Nat × S3 => q.2.n) hln
  have hsm2 : (lefts out).length * 99 ≤ 501 * 99 := Nat.mul_le_mul_right _ (by omega)
  refine rs_ret a (ev_bin op_add (ev_name (i := 5) rfl (.inl rfl) rfl) (ev_bin op_mul (ev_dget (ps := woPs d) (k := .inr "free") (t := tI d.2.1) hr (ev_name (i := 1) rfl (.inr (.inl rfl)) rfl) ev_str rfl) (EvE.is (ev_sumI (ns := ((lefts out).map fun q : Nat × S3 => q.2.n).map fun n : Nat => (n : Int)) rfl rfl T.b_sum (ev_lc (own := [("_law_seat", 6), ("_law_one_here", 8)]) (xs := lefts out) (τ := tIt) (p := fun _ => true) (g := fun q => nT q.2.n) rfl nd (blkOk_by (N := ["_law_told", "_law_worth_here", "_law_stretch_here", "_law_play", "_law_here", "_law_price_here", "_law_seat", "_law_size", "_law_one_here"]) (sc := defScope s__law_total) (by decide +kernel)) (ei_list (ev_name (i := 4) rfl (.inl rfl) rfl)) (by decide) (by omega) (fun _ _ _ _ _ _ _ => (tg_tup rfl (tgs_cons (tg_name (i := 6) nd rfl (.inl rfl)) (tgs_cons (tg_name (i := 8) nd rfl (.inl rfl)) tgs_nil)))) (fun _ _ _ _ _ _ _ => ets_nil)
      (fun _ _ _ _ _ q _ => fun _ => (ev_sub ix_tup (ev_name (i := 8) (t := tSt q.2) rfl (.inl rfl) rfl) ev_int (bin_ixTi (j := 1) rfl rfl)))) (by rw [filter_yes, List.map_map, List.map_map]; rfl)) (t2 := nT (((lefts out).map fun q : Nat × S3 => q.2.n).sum)) (congrArg tI (sum_cast _))) (bin_I (.inr ⟨by omega, by omega⟩))) bin_I0) fun v B' H' _ a' r => k v B' H' a'.n r
end
end Ls
set_option maxHeartbeats 1000000 -- Ve
/-! the law's drawn play -/
namespace Ls
open PySem Spec PyProof.Rows L2
theorem led_some {R : Ru} {p z : Nat} : ∀ {here : List (Nat × S3)}, (p, z) ∈ pls R here → ∃ out, led R p z here = some out
  | [], h => by cases h
  | (a, s) :: r, h => by
    rw [led]
    split
    · exact ⟨_, rfl⟩
    · rename_i hno
      unfold pls at h
      rw [List.flatMap_cons] at h
      rcases List.mem_append.mp h with h | h
      · obtain ⟨q, h1, h2⟩ := List.mem_map.mp h
        obtain ⟨z', b⟩ := q
        have e1 : a + b = p := (Prod.mk.inj h2).1
        have e2 : z' = z := (Prod.mk.inj h2).2
        exact absurd (hit_sales (q := (a, s)).mpr ⟨b, by rw [← e2]; exact h1, e1⟩) hno
      · obtain ⟨out, e⟩ := led_some (here := r) h
        rw [e]
        exact ⟨_, rfl⟩
/-- the seats that are left -/
def seats (here : List (Nat × S3)) : Nat := (here.map fun q => q.2.n).sum
theorem led_seats2 {R : Ru} {p z m : Nat} : ∀ {here out : List (Nat × S3)}, led R p z here = some out → (∀ q ∈ here, q.1 + q.2.n ≤ m) → seats out + z = seats here ∧ ∀ q ∈ out, q.1 + q.2.n ≤ m
  | [], _, e, _ => by cases e
  | (a, s) :: r, out, e, h => by
    rw [led] at e
    have h0 : a + s.n ≤ m := h (a, s) List.mem_cons_self
    split at e
    · rename_i hs
      cases e
      unfold isSold at hs
      rw [Bool.and_eq_true, Bool.and_eq_true] at hs
      have g0 := of_decide_eq_true hs.1
      have ho := of_decide_eq_true hs.2.2
      have en : ((p : Int) - (a : Int)).toNat = p - a := by omega
      rw [en] at ho
      have hf := offers_fit ho
      refine ⟨?_, fun q hq => ?_⟩
      · show ((p - a) + ((s.n - z - (p - a)) + seats r)) + z = s.n + seats r
        omega
      · rcases List.mem_cons.mp hq with e | hq
        · rw [e]
          show a + (p - a) ≤ m
          omega
        · rcases List.mem_cons.mp hq with e | hq
          · rw [e]
            show p + z + (s.n - z - (p - a)) ≤ m
            omega
          · exact h q (List.mem_cons_of_mem _ hq)
    · cases h1 : led R p z r with
      | none => rw [h1] at e; cases e
      | some l =>
        rw [h1] at e
        cases e
        obtain ⟨k1, k2⟩ := led_seats2 h1 fun q hq => h q (List.mem_cons_of_mem _ hq)
        refine ⟨?_, fun q hq => ?_⟩
        · show (s.n + seats l) + z = s.n + seats r
          omega
        · rcases List.mem_cons.mp hq with e | hq
          · rw [e]; exact h0
          · exact k2 q hq
theorem leds_snoc {R : Ru} {q : Nat × Nat} : ∀ {pl : List (Nat × Nat)} {here h out : List (Nat × S3)}, leds R pl here = some h → led R q.1 q.2 h = some out → leds R (pl ++ [q]) here = some out
  | [], here, h, out, e, e2 => by
    cases e
    show (led R q.1 q.2 here).bind (leds R []) = some out
    rw [e2]
    rfl
  | p :: pl, here, h, out, e, e2 => by
    have e : (led R p.1 p.2 here).bind (leds R pl) = some h := e
    show (led R p.1 p.2 here).bind (leds R (pl ++ [q])) = some out
    cases h1 : led R p.1 p.2 here with
    | none => rw [h1] at e; cases e
    | some l =>
      rw [h1] at e
      exact leds_snoc (pl := pl) e e2
/-- no sale is left -/
def Still (R : Ru) (out : List (Nat × S3)) : Prop := ∀ q ∈ out, sales R q.2 = []
theorem still_of {R : Ru} {out : List (Nat × S3)} (h : pls R out = []) : Still R out := fun q hq => by
  have h2 := List.flatMap_eq_nil_iff.mp h q hq
  exact List.map_eq_nil_iff.mp h2
theorem still_may {R : Ru} {W : Wo} (hF : Fits R W) {s : S3} (h : sales R s = []) : mayEnd R W s = true := by
  have h0 : ∀ z ∈ R.sizes, refuses R s z = true := fun z hz => by
    have h2 := List.flatMap_eq_nil_iff.mp h z hz
    exact decide_eq_true (List.map_eq_nil_iff.mp h2)
  unfold mayEnd
  split
  · exact List.all_eq_true.mpr h0
  · rename_i ht
    exact h0 _ (hF.resolve_left ht)
section
variable [J : Iv] {P : Program} {w : World} {K : PySem.W.Frag} {mg : Str → Option Value} {base : Heap} {g : Addr}
theorem bin_eqPz {K : PySem.W.Frag} {xs : List (Nat × Nat)} : Bin (rEqD K) (tL (xs.map tPz)) (tL []) (tB (decide (xs = []))) := by
  have q := bin_eqD (K := K) (isd_L (isds_map (xs := xs) (τ := tPz) (f := dPz) fun _ _ => isd_Pz)) (isd_L isds_nil) (shaped_list (lay_map fun _ _ => rfl) (depth_map (m := 1) fun _ _ => Nat.le_refl _) (by decide)) shaped_nil
  rw [eqv_nil] at q
  have e : (xs.map dPz).isEmpty = decide (xs = []) := by cases xs <;> rfl
  rw [e] at q
  exact q
omit [Iv] in
theorem tys_perm {α : Type} {τ : α → Ty} {B : Hp} {ys vs : List V} (p : vs.Perm ys) : ∀ {xs : List α}, Tys B (xs.map τ) vs → ∃ xs' : List α, xs'.Perm xs ∧ Tys B (xs'.map τ) ys := by
  induction p with
  | nil => intro xs r; exact ⟨xs, .refl _, r⟩
  | cons v _ ih =>
    intro xs r
    cases xs with
    | nil => cases r
    | cons x xs =>
      cases r with
      | cons a r =>
        obtain ⟨xs', h1, h2⟩ := ih r
        exact ⟨x :: xs', h1.cons x, .cons a h2⟩
  | swap u v l =>
    intro xs r
    match xs, r with
    | [], r => cases r
    | [_], .cons _ r => cases r
    | x :: y :: xs, .cons a (.cons b r) => exact ⟨y :: x :: xs, .swap x y xs, .cons b (.cons a r)⟩
  | trans _ _ ih1 ih2 =>
    intro xs r
    obtain ⟨xs1, h1, r1⟩ := ih1 r
    obtain ⟨xs2, h2, r2⟩ := ih2 r1
    exact ⟨xs2, h2.trans h1, r2⟩
theorem cb_sortedPz {K : PySem.W.Frag} {xs : List (Nat × Nat)} : Cb (rSortedP K) [tL (xs.map tPz)] (tE (fun ys : List (Nat × Nat) => ys.Perm xs) fun ys => tL (ys.map tPz)) := fun vs B H Q bh r q => by
  cases r with
  | cons r1 r0 =>
    cases r0
    obtain ⟨a, us, e, h, r⟩ := r1
    subst e
    refine ⟨a, us, rfl, .of (bh _ _ h), fun x hx => ?_, fun ys p hp hn => ?_⟩
    · obtain ⟨i, hi⟩ := List.mem_iff_getElem?.mp hx
      obtain ⟨t, h1, h2⟩ := r.getV hi
      rw [List.getElem?_map] at h1
      cases hq : xs[i]? with
      | none => rw [hq] at h1; cases h1
      | some q =>
        rw [hq] at h1
        cases h1
        obtain ⟨b, ws, e1, e2, e3⟩ := h2
        cases e3 with
        | cons k1 k2 =>
          cases k2 with
          | cons k2 k3 =>
            cases k3
            have k1 : _ = V.int (q.1 : Int) := k1
            have k2 : _ = V.int (q.2 : Int) := k2
            rw [k1, k2] at e2
            exact ⟨b, _, _, e1, bh _ _ e2⟩
    · obtain ⟨xs', h1, h2⟩ := tys_perm hp.symm r
      exact q _ _ _ (.lay bh hn) ⟨xs', h1, p, ys, rfl, upd_same, h2.mono (Nw.lay (F := nF) (o := .lst ys) bh hn).bb⟩
theorem c_oneE (T : Top K mg) (tk : Tk P w K mg base g) : Cal P w K mg base "_law_one" 2 (spF (α := List (Nat × Nat)) (fun xs => [tV (.ref g), tE (fun ys : List (Nat × Nat) => ys.Perm xs) fun ys => tL (ys.map tPz)]) (fun xs => xs ≠ [] ∧ xs.length ≤ 1000) (fun xs => tE (fun x => x ∈ xs) tPz)) := by
  obtain ⟨fd, Fd, ok⟩ := ok_one (P := P) (w := w) (base := base) T
  refine ⟨_, fd, _, T.g__law_one, Fd.kp, Fd.bindsN (fun _ _ _ _ _ _ us hl => match us, hl with | [_, _], _ => rfl), (ok g tPz tk).imp fun vs H Q E ⟨xs, B, bh, hp, r, q⟩ => ?_⟩
  cases r with
  | cons r1 r =>
    cases r with
    | cons r2 r =>
      cases r
      obtain ⟨ys, hy, r2⟩ := r2
      refine ⟨ys, B, bh, ⟨fun e => hp.1 ?_, by rw [hy.length_eq]; exact hp.2⟩, .cons r1 (.cons r2 .nil), fun v B' H' n ⟨x, hx, r⟩ => q v B' H' n ⟨x, hy.mem_iff.mp hx, r⟩⟩
      rw [e] at hy
      exact hy.symm.eq_nil
section
variable {X : Cx} {F : Addr → Prop} {B0 H0 Bg : Hp} {Γ : Ctx} {W : Cells} {σ : L2.St} {B H : Hp} {e1 e2 e3 : Expr} {t t1 t2 t3 : Ty} {pos p : Pos} {x : Str} {k : Nat} {l : Addr} {ts : List Ty}
theorem evs_callG3 {α : Type} {args : α → List Ty} {pre : α → Prop} {res : α → Ty} (a : At F B0 H0 Bg Γ W σ B H) (C : CalG X.prog X.w X.K X.mg X.base x k (spF args pre res)) {d : α} (hr : Room k X.A) (qt : Quiet X.A) (hg : Gl X x) (h1 : EvE X Γ e1 t1) (h2 : EvE X Γ e2 t2) (h3 : ∀ B' H', At F B0 H0 Bg Γ W σ B' H' → EvS X F B0 H0 Bg Γ W σ B' H' e3 t3) (hp : pre d) (hts : args d = [t1, t2, t3]) (ht : res d = t)
    (hdb : (x == ("__debug__" : Str)) = false := by decide) (s1 : starEach [e1, e2, e3] X.env = (false, eval e1 X.env) :: starEach [e2, e3] X.env := by rfl) (s2 : starEach [e2, e3] X.env = (false, eval e2 X.env) :: starEach [e3] X.env := by rfl) (s3 : starEach [e3] X.env = (false, eval e3 X.env) :: starEach [] X.env := by rfl) (hpl : (backTo pos (starEach [e2, e3] X.env)).any (·.1) = false := by rfl) :
    EvS X F B0 H0 Bg Γ W σ B H (.Call (.Name x p) [e1, e2, e3] [] pos) t := fun Q q => by
  obtain ⟨f, fd, ps, hm, hk, hb, Fn⟩ := C.ex
  subst ht
  refine ⟨_, pe_G Fn hr qt hg hm hk hb .nil pass0 (pa_cons pe_c (pa_cons pe_c (pa_cons pe_c pa_nil s3) s2) s1) hdb s1 hpl, h1 σ B H a.s a.n.bh _ fun v1 B1 H1 n1 r1 => h2 σ B1 H1 (a.s.mono n1.bb) n1.bh _ fun v2 B2 H2 n2 r2 => h3 B2 H2 (a.step (n1.trans n2)) _ fun v3 B3 H3 n3 a3 r3 => ?_⟩
  exact ⟨d, B3, n3.bh, hp, by rw [hts]; exact .cons (t1.mono (n2.trans n3).bb r1) (.cons (t2.mono n3.bb r2) (.cons r3 .nil)), fun v B4 H4 n4 r4 => q v B4 H4 (((n1.trans n2).trans n3).trans n4) (a3.step n4) r4⟩
theorem At.openL {α : Type} {p : α → Prop} {f : α → Ty} (a : At F B0 H0 Bg Γ ((l, oL (ts ++ [tE p f])) :: W) σ B H) : ∃ x, p x ∧ At F B0 H0 Bg Γ ((l, oL (ts ++ [f x])) :: W) σ B H := by
  obtain ⟨h1, h2, o, h3, vs, e, r⟩ := a.cell
  obtain ⟨ws, y, e2, r1, x, hx, r2⟩ := tys_pop r
  refine ⟨x, hx, a.s, a.n, a.g, fun q hq => ?_, a.o.apart⟩
  rcases List.mem_cons.mp hq with e | hq
  · rw [e]; exact ⟨h1, h2, o, h3, vs, by assumption, by rw [e2]; exact r1.append (.one r2)⟩
  · exact a.o.each q (List.mem_cons_of_mem _ hq)
end
theorem sc__law_drawn_play : FnScope ["_law_bag_here", "_law_told", "_law_stretch_here", "_law_most", "_law_here", "_law_found", "_law_k", "_law_some"] ["_law_bag_here", "_law_told", "_law_stretch_here", "_law_most"] (defScope s__law_drawn_play) := ⟨rfl, rfl, rfl, by decide +kernel, rfl, by decide +kernel, by decide +kernel⟩
def tDrawn (R : Ru) (s : S3) : Ty := tE (fun x : List (Nat × Nat) × List (Nat × S3) => LegP R s x.1 x.2 ∧ Still R x.2) fun x => tL (x.1.map tPz)
theorem c_drawn (T : Top K mg) (tk : Tk P w K mg base g) : CalG P w K mg base "_law_drawn_play" 8 (spF (α := Ru × S3) (fun d => [tV (.ref g), tTold d.1, tSt d.2, nT 20]) (fun d => d.1.Ok ∧ d.2.n ≤ 9) (fun d => tDrawn d.1 d.2)) := by
  have nd := sc__law_drawn_play.nd
  have C1 := c_sales_in (P := P) (w := w) (base := base) T
  have C2 := c_oneE T tk
  have C3 := c_lled (P := P) (w := w) (base := base) T
  refine cal_G T.f__law_drawn_play T.g__law_drawn_play sc__law_drawn_play (fun _ _ _ _ _ _ us hl => match us, hl with | [_, _, _, _], _ => rfl) (fun _ => rfl) (by decide) fun f cdv cd A outer s H0 E ⟨R, t⟩ B0 σ D hr qt hp a k hn => ?_
  obtain ⟨hR, ht⟩ : R.Ok ∧ t.n ≤ 9 := hp
  have k : ∀ v B H, Nw nF B0 H0 B H → (tDrawn R t).p B v → D.rt v H := k
  refine rs_parN2 (i := 4) (j := 5) a (EvE.is (ev_lst (ea_cons (ev_tup (ea_cons (ev_int (i := 0)) (ea_cons (ev_name (i := 2) rfl (.inl rfl) rfl) ea_nil))) ea_nil)) (t2 := tL ([(0, t)].map tIt)) rfl) (en_lst ea_nil) rfl nd rfl rfl (by decide) rfl rfl fun l σ B H s1 hl a => ?_
  refine rs_for (xs := List.range 20) (τ := nT) a rfl (EvI.is (ei_rng1 (n := ((20 : Nat) : Int)) rfl T.b_range (ev_name (i := 3) rfl (.inl rfl) rfl) (by decide)) rg0) (fun _ _ => (tg_name (i := 6) nd rfl (.inl rfl)))
    (fun i Γ C => (∃ h o6 o7, Γ = [some (tV (.ref g)), some (tTold R), some (tSt t), some (nT 20), some (tL (h.map tIt)), some (tV (.ref l)), o6, o7] ∧ ∃ pl : List (Nat × Nat), C = [(l, oL (pl.map tPz))] ∧ pl.length = i ∧ h.length = i + 1 ∧ leds R pl [(0, t)] = some h ∧ seats h + i ≤ 9 ∧ (∀ q ∈ h, q.1 + q.2.n ≤ 9) ∧ ∀ q ∈ pl, q.1 ≤ 1000 ∧ 1 ≤ q.2 ∧ q.2 ≤ 5)) ⟨[(0, t)], _, _, rfl, [], rfl, rfl, rfl, rfl, by show (t.n + 0) + 0 ≤ 9; omega, (fun q hq => by
      rw [List.mem_singleton.mp hq]
      show 0 + t.n ≤ 9
      omega), fun q hq => nomatch hq⟩ (fun B1 s1 i x Γ1 W1 σ B H hi hI a => ?_) fun Γ1 W1 σ B H s1 hI a => ?_
  · obtain ⟨h, o6, o7, rfl, pl, rfl, hpl, hhl, hlg, hse, hfar, hok⟩ := hI
    have hn9 : ∀ q ∈ h, q.2.n ≤ 9 := fun q hq => by have := hfar q hq; omega
    refine rs_set (i := 7) a (ev_call C1 (hr.mono (by decide)) rfl (d := (R, h)) (ea_cons (ev_name (i := 1) rfl (.inl rfl) rfl) (ea_cons (ev_name (i := 4) rfl (.inl rfl) rfl) ea_nil)) ⟨hR, by show h.length ≤ 100; omega, fun q hq => by have := hn9 q hq; omega⟩) nd rfl (.inl rfl) fun σ B H s1 a => ?_
    refine rs_when (b := decide (pls R h = [])) a (et_cmp (op_eqD hr.units) (ev_name (i := 7) rfl (.inl rfl) rfl) (ev_lst ea_nil) bin_eqPz (nomark _)) (fun hb B H s1 a => ?_) fun hb B H s1 a => ?_
    · obtain ⟨B2, s2, a⟩ := a.frzL hl (i := 5) rfl
      exact rs_ret a (EvE.exi (p := fun x : List (Nat × Nat) × List (Nat × S3) => LegP R t x.1 x.2 ∧ Still R x.2) (f := fun x => tL (x.1.map tPz)) (x := (pl, h)) (ev_name (i := 5) rfl (.inl rfl) rfl) ⟨⟨⟨hR, by omega, by show pl.length ≤ 500; omega, fun q hq => (hok q hq).2, hlg⟩, fun q hq => (hok q hq).1⟩, still_of (of_decide_eq_true hb)⟩) fun v B' H' _ a' r => k v B' H' a'.n r
    · have hne : pls R h ≠ [] := of_decide_eq_false hb
      have hlen : (pls R h).length ≤ 1000 := by
        have h1 := flat_len (fun q : Nat × S3 => (sales R q.2).map fun s => (q.1 + s.2, s.1)) 55 h fun q hq => by
          rw [List.length_map]
          have := sales_len hR q.2
          have := hn9 q hq
          omega
        have h1 : (pls R h).length ≤ h.length * 55 := h1
        omega
      refine rs_append (t := tE (fun q => q ∈ pls R h) tPz) a (ev_name (i := 5) rfl (.inl rfl) rfl) (.refl _) (ev_call C2 (hr.mono (by decide)) rfl (d := pls R h) (ea_cons (ev_name (i := 0) rfl (.inl rfl) rfl) (ea_cons (ev_callB cr_sortedP rfl T.b_sorted bt_sorted (ea_cons (ev_name (i := 7) rfl (.inl rfl) rfl) ea_nil) cb_sortedPz) ea_nil)) ⟨hne, hlen⟩) (by rw [List.length_map]; omega) (fun B H s1 a => ?_) (he := rfl) (hs := rfl) (hm := pe_bm PySem.F.plainAttrs_list PySem.F.slot_list_append PySem.F.type_list_append mt_append pe_c pa_c)
      obtain ⟨q, hq, a⟩ := a.openL
      obtain ⟨p, z⟩ := q
      obtain ⟨h2, e2⟩ := led_some hq
      obtain ⟨k1, k2⟩ := led_ok e2
      obtain ⟨k3, k4⟩ := led_seats2 e2 hfar
      obtain ⟨qs, hqs, hqm⟩ := List.mem_flatMap.mp hq
      obtain ⟨sl, hsl, esl⟩ := List.mem_map.mp hqm
      have hfit := sale_fit hR hsl
      have ep : qs.1 + sl.2 = p := (Prod.mk.inj esl).1
      have ez : sl.1 = z := (Prod.mk.inj esl).2
      have hqf := hfar qs hqs
      have hz1 : 1 ≤ z ∧ z ≤ 5 := by omega
      have hp9 : p ≤ 9 := by omega
      have hlast : (pl.map tPz ++ [tPz (p, z)]).getLast? = some (tPz (p, z)) := by simp
      refine rs_setS (i := 4) (t := tL (h2.map tIt)) a (evs_callG3 (d := (R, h, p, z)) a C3 (hr.mono (by decide)) qt rfl (ev_name (i := 1) rfl (.inl rfl) rfl) (ev_name (i := 4) rfl (.inl rfl) rfl) (fun B H a => evs_pure a (a.rdL (l := l) (i := 5) List.mem_cons_self rfl) (letI : Iv := Jb; ev_sub ix_list (ev_name (i := 5) (t := tL (pl.map tPz ++ [tPz (p, z)])) rfl (.inl rfl) rfl) (ev_neg (ev_int (i := 1))) (bin_last rfl hlast)) fun B' hs => cl_T (xs := [.int (p : Int), .int (z : Int)]) fun c hc => by
        rw [List.mem_singleton.mp hc]
        obtain ⟨o, g1, vs, g2, _⟩ := a.fzl List.mem_cons_self
        exact ⟨o, hs _ _ g1, fun ys e => by rw [g2] at e; cases e⟩) ⟨hR, ⟨by show h.length ≤ 1000; omega, fun q hq => by have := hn9 q hq; omega⟩, fun q hq => by have := hfar q hq; omega, by show p ≤ 100000; omega, hz1.2⟩ rfl (by show tLed (led R p z h) = _; rw [e2]; rfl)) nd rfl (.inl rfl) fun σ B H s1 a => ?_
      refine rs_nil ⟨_, _, B, ⟨h2, _, _, rfl, pl ++ [(p, z)], rfl, by rw [List.length_append, hpl]; rfl, by omega, leds_snoc hlg e2, by omega, k4, fun q hq => ?_⟩, a.cs (by rw [List.map_append]; rfl)⟩
      rcases List.mem_append.mp hq with h | h
      · exact hok q h
      · rw [List.mem_singleton.mp h]
        exact ⟨by show p ≤ 1000; omega, hz1⟩
  · obtain ⟨h, o6, o7, rfl, pl, rfl, hpl, hhl, hlg, hse, hfar, hok⟩ := hI
    rw [List.length_range] at hse
    omega
end
end Ls
set_option maxHeartbeats 1000000 -- Vf
/-! a best play, walked, comes to its best -/
namespace Ls
open PySem Spec PyProof.Rows L2
theorem led_app {R : Ru} {p z : Nat} : ∀ {fin r : List (Nat × S3)}, (∀ q ∈ fin, hit R p z q = false) → led R p z (fin ++ r) = (led R p z r).map (fin ++ ·)
  | [], r, _ => by
    show led R p z r = _
    cases led R p z r <;> rfl
  | (a, s) :: fin, r, h => by
    have h0 : isSold R s z ((p : Int) - (a : Int)) = false := h (a, s) List.mem_cons_self
    rw [List.cons_append, led, if_neg (by rw [h0]; exact fun x => nomatch x), led_app fun q hq => h q (List.mem_cons_of_mem _ hq)]
    cases led R p z r <;> rfl
/-- one behind another -/
def Ordd : List (Nat × S3) → Prop
  | [] => True
  | (a, s) :: r => (∀ q ∈ r, a + s.n ≤ q.1) ∧ Ordd r
def bestSt (R : Ru) (W : Wo) (low : Bool) (st : List (Nat × S3)) : Int := (st.map fun q => best R W low q.2).sum
theorem seats_app (x y : List (Nat × S3)) : seats (x ++ y) = seats x + seats y := by
  unfold seats
  rw [List.map_append, List.sum_append]
theorem lefts_seats (x : List (Nat × S3)) : (((lefts x).map fun q => q.2.n).sum) = seats x := by
  unfold lefts seats
  induction x with
  | nil => rfl
  | cons q x ih =>
    by_cases h : 0 < q.2.n
    · rw [List.filter_cons_of_pos (p := fun q : Nat × S3 => decide (0 < q.2.n)) (decide_eq_true h), List.map_cons, List.sum_cons, ih, List.map_cons, List.sum_cons]
    · rw [List.filter_cons_of_neg (p := fun q : Nat × S3 => decide (0 < q.2.n)) (by rw [decide_eq_false h]; exact fun x => nomatch x), ih, List.map_cons, List.sum_cons]
      omega
/-- the walk of what a stack of stretches gives -/
theorem pf_walk {R : Ru} {W : Wo} {low : Bool} (h : R.Ok) (hF : Fits R W) : ∀ (k : Nat) (fin st : List (Nat × S3)), wt st ≤ k → (∀ q ∈ fin, ∀ p ∈ st, q.1 + q.2.n ≤ p.1) → Ordd st →
    ∃ out, leds R (pf R W low k st) (fin ++ st) = some (fin ++ out) ∧ (∀ q ∈ out, mayEnd R W q.2 = true) ∧ ((pf R W low k st).map fun q => W.price q.2).sum + W.free * (seats out : Int) = bestSt R W low st ∧ (∀ q ∈ pf R W low k st, (1 ≤ q.2 ∧ q.2 ≤ 5) ∧ ∀ m, (∀ p ∈ st, p.1 + p.2.n ≤ m) → q.1 ≤ m) ∧ seats out + ((pf R W low k st).map (·.2)).sum = seats st := by
  intro k
  induction k with
  | zero =>
    intro fin st hk hfin ho
    cases st with
    | nil => exact ⟨[], rfl, (fun q hq => nomatch hq), by show (0 : Int) + W.free * 0 = 0; omega, (fun q hq => nomatch hq), rfl⟩
    | cons q r =>
      have : wt (q :: r) = (2 * q.2.n + 1) + wt r := rfl
      omega
  | succ k ih =>
    intro fin st hk hfin ho
    cases st with
    | nil => exact ⟨[], rfl, (fun q hq => nomatch hq), by show (0 : Int) + W.free * 0 = 0; omega, (fun q hq => nomatch hq), rfl⟩
    | cons q r =>
      obtain ⟨a, s⟩ := q
      have hw : wt ((a, s) :: r) = (2 * s.n + 1) + wt r := rfl
      obtain ⟨ho1, ho2⟩ : (∀ q ∈ r, a + s.n ≤ q.1) ∧ Ordd r := ho
      cases e : bsale R W low s with
      | none =>
        obtain ⟨hm, hb⟩ := bsale_none h hF e
        obtain ⟨out, k1, k2, k3, k4, k5⟩ := ih (fin ++ [(a, s)]) r (by omega) (fun q hq p hp => by
          rcases List.mem_append.mp hq with hq | hq
          · exact hfin q hq p (List.mem_cons_of_mem _ hp)
          · rw [List.mem_singleton.mp hq]
            exact ho1 p hp) ho2
        rw [pf_none e]
        refine ⟨(a, s) :: out, ?_, fun q hq => ?_, ?_, fun q hq => ⟨(k4 q hq).1, fun m hm => (k4 q hq).2 m fun p hp => hm p (List.mem_cons_of_mem _ hp)⟩, ?_⟩
        · rw [List.append_assoc, List.append_assoc] at k1
          exact k1
        · rcases List.mem_cons.mp hq with e | hq
          · rw [e]; exact hm
          · exact k2 q hq
        · show _ + W.free * ((s.n + seats out : Nat) : Int) = best R W low s + bestSt R W low r
          rw [hb, Int.natCast_add, Int.mul_add]
          omega
        · show s.n + seats out + _ = s.n + seats r
          omega
      | some q =>
        obtain ⟨z, b⟩ := q
        obtain ⟨hmem, hbest⟩ := bsale_sale h hF e
        have hfit : 1 ≤ z ∧ z ≤ 5 ∧ b + z ≤ s.n := sale_fit h hmem
        have hwt : wt ((a, pL s b) :: (a + b + z, pR s z b) :: r) + 1 ≤ wt ((a, s) :: r) := wt_some h hF (a := a) (r := r) e
        have hpL : (pL s b).n = b := rfl
        have hpR : (pR s z b).n = s.n - z - b := rfl
        obtain ⟨out, k1, k2, k3, k4, k5⟩ := ih fin ((a, pL s b) :: (a + b + z, pR s z b) :: r) (by omega) (fun q hq p hp => by
          have h0 : q.1 + q.2.n ≤ a := hfin q hq (a, s) List.mem_cons_self
          rcases List.mem_cons.mp hp with e | hp
          · rw [e]; exact h0
          · rcases List.mem_cons.mp hp with e | hp
            · rw [e]
              show q.1 + q.2.n ≤ a + b + z
              omega
            · have := ho1 p hp
              omega) ⟨fun q hq => by
          rcases List.mem_cons.mp hq with e | hq
          · rw [e]
            show a + b ≤ a + b + z
            omega
          · have := ho1 q hq
            show a + b ≤ q.1
            omega, fun q hq => by
          have := ho1 q hq
          show a + b + z + (s.n - z - b) ≤ q.1
          omega, ho2⟩
        have hled : led R (a + b) z (fin ++ (a, s) :: r) = some (fin ++ (a, pL s b) :: (a + b + z, pR s z b) :: r) := by
          rw [led_app fun q hq => by
            cases hh : hit R (a + b) z q with
            | false => rfl
            | true =>
              obtain ⟨b', g1, g2⟩ := hit_sales.mp hh
              have g3 : 1 ≤ z ∧ z ≤ 5 ∧ b' + z ≤ q.2.n := sale_fit h g1
              have g4 : q.1 + q.2.n ≤ a := hfin q hq (a, s) List.mem_cons_self
              omega]
          have hh : isSold R s z (((a + b : Nat) : Int) - (a : Int)) = true := (hit_sales (q := (a, s)).mpr ⟨b, hmem, rfl⟩)
          have eb : a + b - a = b := by omega
          rw [led, if_pos hh, eb]
          rfl
        have hpf : pf R W low (k + 1) ((a, s) :: r) = (a + b, z) :: pf R W low k ((a, pL s b) :: (a + b + z, pR s z b) :: r) := pf_some e
        rw [hpf]
        generalize pf R W low k ((a, pL s b) :: (a + b + z, pR s z b) :: r) = PL at k1 k3 k4 k5
        refine ⟨out, ?_, k2, ?_, fun q hq => ?_, ?_⟩
        · show (led R (a + b) z (fin ++ (a, s) :: r)).bind (leds R PL) = _
          rw [hled]
          exact k1
        · rw [List.map_cons, List.sum_cons]
          show (W.price z + (PL.map fun q => W.price q.2).sum) + W.free * (seats out : Int) = best R W low s + bestSt R W low r
          have k3 : (PL.map fun q => W.price q.2).sum + W.free * (seats out : Int) = best R W low (pL s b) + (best R W low (pR s z b) + bestSt R W low r) := k3
          have hbest : best R W low s = W.price z + (best R W low (pL s b) + best R W low (pR s z b)) := hbest
          omega
        · rcases List.mem_cons.mp hq with e | hq
          · rw [e]
            refine ⟨⟨hfit.1, hfit.2.1⟩, fun m hm => ?_⟩
            have := hm (a, s) List.mem_cons_self
            have this : a + s.n ≤ m := this
            show a + b ≤ m
            omega
          · refine ⟨(k4 q hq).1, fun m hm => (k4 q hq).2 m fun p hp => ?_⟩
            have h0 : a + s.n ≤ m := hm (a, s) List.mem_cons_self
            rcases List.mem_cons.mp hp with e | hp
            · rw [e]
              show a + b ≤ m
              omega
            · rcases List.mem_cons.mp hp with e | hp
              · rw [e]
                show a + b + z + (s.n - z - b) ≤ m
                omega
              · exact hm p (List.mem_cons_of_mem _ hp)
        · rw [List.map_cons, List.sum_cons]
          show seats out + (z + (PL.map (·.2)).sum) = s.n + seats r
          have k5 : seats out + (PL.map (·.2)).sum = b + ((s.n - z - b) + seats r) := k5
          omega
/-- a best play -/
theorem play_walk {R : Ru} {W : Wo} {low : Bool} (h : R.Ok) (hF : Fits R W) {s : S3} (hn : s.n ≤ 99) : ∃ out, LegP R s (play R W low s) out ∧ (∀ q ∈ lefts out, mayEnd R W q.2 = true) ∧ plTot W (play R W low s) out = best R W low s ∧ seats out + ((play R W low s).map (·.2)).sum = s.n := by
  obtain ⟨out, k1, k2, k3, k4, k5⟩ := pf_walk (low := low) h hF (2 * s.n + 1) [] [(0, s)] (Nat.le_refl _) (fun q hq => nomatch hq) ⟨fun q hq => (nomatch hq), trivial⟩
  refine ⟨out, ⟨⟨h, hn, ?_, fun q hq => (k4 q hq).1, k1⟩, fun q hq => (k4 q hq).2 1000 fun p hp => ?_⟩, fun q hq => k2 q (List.mem_filter.mp hq).1, ?_, ?_⟩
  · have := play_len R W low s
    omega
  · rw [List.mem_singleton.mp hp]
    show 0 + s.n ≤ 1000
    omega
  · unfold plTot
    rw [lefts_seats]
    have k3 : _ = best R W low s + 0 := k3
    rw [Int.add_zero] at k3
    exact k3
  · have k5 : _ = s.n + 0 := k5
    exact k5
end Ls
set_option maxHeartbeats 16000000 -- Vg
/-! _law_stretch_right -/
namespace Ls
open PySem Spec PyProof.Rows L2
theorem best_mem {R : Ru} (h : R.Ok) {W : Wo} (hF : Fits R W) (low : Bool) : ∀ (n : Nat) (s : S3), s.n ≤ n → best R W low s ∈ tots R W s := by
  have step : ∀ s : S3, (∀ t : S3, t.n < s.n → best R W low t ∈ tots R W t) → best R W low s ∈ tots R W s := fun s ih => by
    rw [tots_eq h]
    have h1 := pick_mem low (xs := (waysV R W s (best R W low)).map (·.1)) fun e => ways_ne hF s (best R W low) (List.map_eq_nil_iff.mp e)
    rw [← best_eq h W low s] at h1
    unfold waysV at h1
    rw [List.map_append] at h1
    rcases List.mem_append.mp h1 with z | z
    · refine List.mem_append_left _ ?_
      split at z
      · rename_i hm
        rw [if_pos hm]
        exact z
      · cases z
    · refine List.mem_append_right _ ?_
      rw [List.map_map] at z
      obtain ⟨q, hq, e⟩ := List.mem_map.mp z
      obtain ⟨g1, g2, g3⟩ := sale_fit h hq
      refine List.mem_flatMap.mpr ⟨q, hq, List.mem_flatMap.mpr ⟨best R W low (pL s q.2), ih _ (by show q.2 < s.n; omega), List.mem_map.mpr ⟨best R W low (pR s q.1 q.2), ih _ (by show s.n - q.1 - q.2 < s.n; omega), ?_⟩⟩⟩
      rw [← e]
      exact Int.add_assoc ..
  intro n
  induction n with
  | zero => exact fun s hs => step s fun t ht => by omega
  | succ n ih => exact fun s hs => step s fun t ht => ih t (by omega)
theorem best_le {R : Ru} (h : R.Ok) {W : Wo} (hF : Fits R W) (hW : W.Ok) (low : Bool) (s : S3) : 0 ≤ best R W low s ∧ best R W low s ≤ 9 * (s.n : Int) := tots_le h hW s.n s (Nat.le_refl _) _ (best_mem h hF low s.n s (Nat.le_refl _))
theorem plTot_le {W : Wo} (hW : W.Ok) {pl : List (Nat × Nat)} {out : List (Nat × S3)} : 0 ≤ plTot W pl out ∧ plTot W pl out ≤ 9 * (pl.length : Int) + 9 * (seats out : Int) := by
  have h1 : 0 ≤ (pl.map fun q => W.price q.2).sum ∧ (pl.map fun q => W.price q.2).sum ≤ 9 * (pl.length : Int) := by
    induction pl with
    | nil => exact ⟨Int.le_refl _, Int.le_refl _⟩
    | cons q pl ih =>
      rw [List.map_cons, List.sum_cons, List.length_cons]
      have := hW.p0 q.2
      omega
  unfold plTot
  rw [lefts_seats]
  have h2 := Int.mul_nonneg hW.f0.1 (show (0 : Int) ≤ (seats out : Int) by omega)
  have h3 := Int.mul_le_mul_of_nonneg_right hW.f0.2 (show (0 : Int) ≤ (seats out : Int) by omega)
  omega
theorem al_ints {ns : List Int} (h : ∀ x ∈ ns, 0 ≤ x ∧ x < 10 ^ 11) (hl : ns.length ≤ 1000) : Al 1000 1 (.list (ns.map .int)) := al_list (m := 0) (k := 0) (fun x hx => by
  obtain ⟨i, hi, e⟩ := List.mem_map.mp hx
  rw [← e]
  exact al_int (h i hi).1 (h i hi).2) (by rw [List.length_map]; omega)
section
variable [J : Iv] {P : Program} {w : World} {K : PySem.W.Frag} {mg : Str → Option Value} {base : Heap} {g : Addr}
section
variable {X : Cx} {Γ : Ctx} {o i : Expr} {pos : Pos} {t : Ty}
theorem ev_dgetTE {pr : List (List Key × Ty) → Prop} {k : List Key} {n : Nat} (hr : Room n X.A) (ho : EvE X Γ o (tE pr fun ps => tDT ps)) (hi : EvE X Γ i (tKey k)) (h : ∀ ps, pr ps → look ps k = some t) (hs : NoSl i := by exact fun _ _ => rfl) : EvE X Γ (.Subscript o i pos) t := fun σ B H s bh Q q =>
  ⟨_, pe_dget (hu_of hr) pe_c pe_c hs, ho σ B H s bh _ fun v B1 H1 n1 ⟨ps, hps, a, kvs, e1, e2, r⟩ => hi σ B1 H1 (s.mono n1.bb) n1.bh _ fun u B2 H2 n2 ⟨b, xs, e3, e4, r2⟩ => by
    obtain ⟨w, h1, h2⟩ := (r.mono n2.bb).get (h ps hps)
    subst e1 e3
    rw [tys_kV r2] at e4
    have g : DGet H2 a (.ref b) (valV kvs k) := .inr ⟨kvs, k, b, (e2.mono n2.bb).rd n2.bh, rfl, n2.bh _ _ e4, rfl⟩
    rw [h1] at g
    exact ⟨a, w, rfl, g, q w B2 H2 (n1.trans n2) h2⟩⟩
end
def dInts (ns : List Int) : PyData := .list (ns.map .int)
def tInts (ns : List Int) : Ty := tL (ns.map tI)
theorem isd_Ints {ns : List Int} : IsD (tInts ns) (dInts ns) := isd_ints
theorem bin_eqIts {K : PySem.W.Frag} {xs : List (Nat × S3)} : Bin (rEqD K) (tL (xs.map tIt)) (tL (xs.map tIt)) (tB true) := by
  have hs := shaped_list (ds := xs.map dIt) (lay_map fun _ _ => lay_It) (depth_map (m := 2) fun _ _ => dep_It) (by decide)
  have q := bin_eqD (K := K) (isd_L (isds_map (xs := xs) (τ := tIt) (f := dIt) fun _ _ => isd_It)) (isd_L (isds_map (xs := xs) (τ := tIt) (f := dIt) fun _ _ => isd_It)) hs hs
  rw [SeqAt.eqv_refl _ (show (PyData.list (xs.map dIt)).canLay0 = true by rw [PyData.canLay0]; exact lay_map fun _ _ => lay_It)] at q
  exact q
/-- the same data twice -/
theorem ad_same {t : Ty} {d : PyData} (h : IsD t d) (al : Al 1000000 20 d) (rf : Refd d) : (AD.mk t t d d true).Ok := ⟨h, h, al, al, rf, rf, fun _ => rfl, fun e => nomatch e⟩
def bestRow (R : Ru) (W : Wo) (low : Bool) (s : S3) : List Int := (List.range (s.n + 1)).map fun i => best R W low ⟨s.l, i, s.r⟩
theorem tRow_row {R : Ru} {W : Wo} {low : Bool} {s : S3} : tRow R W low (s.l, s.r) (s.n + 1) = tInts (bestRow R W low s) := by
  unfold tRow tInts bestRow
  rw [List.map_map]
  rfl
theorem Cal.at {α : Type} {args : α → List Ty} {pre : α → Prop} {res : α → Ty} {x : Str} {k : Nat} (C : Cal P w K mg base x k (spF args pre res)) (y : α) (hp : pre y) {us : List Ty} {t : Ty} (h1 : args y = us) (h2 : res y = t) : Cal P w K mg base x k (spF (α := Unit) (fun _ => us) (fun _ => True) (fun _ => t)) := by
  obtain ⟨f, fd, ps, hm, hk, hb, F⟩ := C.ex
  exact ⟨f, fd, ps, hm, hk, hb, F.imp fun vs H Q E ⟨_, B, bh, _, r, q⟩ => ⟨y, B, bh, hp, by rw [h1]; exact r, by rw [h2]; exact q⟩⟩
theorem CalG.at {α : Type} {args : α → List Ty} {pre : α → Prop} {res : α → Ty} {x : Str} {k : Nat} (C : CalG P w K mg base x k (spF args pre res)) (y : α) (hp : pre y) {us : List Ty} {t : Ty} (h1 : args y = us) (h2 : res y = t) : CalG P w K mg base x k (spF (α := Unit) (fun _ => us) (fun _ => True) (fun _ => t)) := by
  obtain ⟨f, fd, ps, hm, hk, hb, F⟩ := C.ex
  exact ⟨f, fd, ps, hm, hk, hb, F.sub fun vs H Q E ⟨_, B, bh, _, r, q⟩ => ⟨y, B, bh, hp, by rw [h1]; exact r, by rw [h2]; exact q⟩⟩
theorem sc__law_stretch_right : FnScope ["_law_bag_here", "_law_told", "_law_worth_here", "_law_made_here", "_law_known", "_law_stretch_here", "_law_rule_here", "_law_one_here", "_law_low", "_law_due", "_law_found", "_law_ends_here", "_law_best_here", "_law_play", "_law_drawn", "_law_at"] ["_law_bag_here", "_law_told", "_law_worth_here", "_law_made_here", "_law_known", "_law_stretch_here"] (defScope s__law_stretch_right) := ⟨rfl, rfl, rfl, by decide +kernel, rfl, by decide +kernel, by decide +kernel⟩
def tMade (K : PySem.W.Frag) (R : Ru) (W : Wo) : Ty := tT [tRu K R, tWo K W]
def tKn (R : Ru) (W : Wo) : Ty := tL [tTb R W false 9, tTb R W true 9]
theorem c_sright [S : St] (T : Top K mg) (tk : Tk P w K mg base g) : CalG P w K mg base "_law_stretch_right" 16 (spF (α := Ru × WA × S3) (fun d => [tV (.ref g), tTold d.1, tWT d.2.1, tMade K d.1 d.2.1.wo, tKn d.1 d.2.1.wo, tSt d.2.2]) (fun d => RWA d.1 d.2.1 ∧ d.2.2.n ≤ 9) (fun _ => tB true)) := by
  have nd := sc__law_stretch_right.nd
  obtain ⟨ft, Ft, okt⟩ := ok_table (P := P) (w := w) (base := base) T
  obtain ⟨_, _, kbt, hgt⟩ := kb_table Ft
  obtain ⟨fp, Fp, okp⟩ := ok_play_for (P := P) (w := w) (base := base) T
  obtain ⟨_, _, kbp, hgp⟩ := kb_play_for Fp
  have C1 := c_lmay (P := P) (w := w) (base := base) T
  have C2 := c_may_end (P := P) (w := w) (base := base) T
  have C3 := c_alike (P := P) (w := w) (base := base) T
  have C4 := c_greatest (P := P) (w := w) (base := base) T
  have C5 := c_least (P := P) (w := w) (base := base) T
  have C6 := c_ltotal (P := P) (w := w) (base := base) T
  have C7 := c_drawn T tk
  have C8 := c_total_of (P := P) (w := w) (base := base) T
  have C9 := c_left_behind (P := P) (w := w) (base := base) T
  have C10 := c_walked (P := P) (w := w) (base := base) T
  unfold Tk at tk
  refine cal_G T.f__law_stretch_right T.g__law_stretch_right sc__law_stretch_right (fun _ _ _ _ _ _ us hl => match us, hl with | [_, _, _, _, _, _], _ => rfl) (fun _ => rfl) (by decide) fun f cdv cd A outer s H0 E ⟨R, d, t⟩ B0 σ D hr qt hp a k hn => ?_
  obtain ⟨hRW, ht⟩ : RWA R d ∧ t.n ≤ 9 := hp
  have hR := hRW.1
  have hF := hRW.2.fits
  have hRF : RW.Ok R d.wo := ⟨hR, hF⟩
  have hWo := wa_ok hRW.2.1
  have k : ∀ v B H, Nw nF B0 H0 B H → (tB true).p B v → D.rt v H := k
  have e11 : (10 : Int) ^ 11 = 100000000000 := by decide
  refine rs_asg a (ev_name (i := 3) rfl (.inl rfl) rfl) (tg_tup rfl (tgs_cons (tg_name (i := 6) nd rfl (.inl rfl)) (tgs_cons (tg_name (i := 7) nd rfl (.inl rfl)) tgs_nil))) fun σ B H s1 a => ?_
  change At _ _ _ _ [_, _, _, _, _, _, _, _, _, _, _, _, _, _, _, _] _ _ _ _ at a
  refine rs_set (i := 8) a (ev_call tk (hr.mono (by decide)) rfl (d := 2) (ea_cons (ev_name (i := 0) rfl (.inl rfl) rfl) (ea_cons ev_int ea_nil)) ⟨by decide, by decide⟩) nd rfl (.inr rfl) fun σ B H s1 a => ?_
  change At _ _ _ _ [_, _, _, _, _, _, _, _, _, _, _, _, _, _, _, _] _ _ _ _ at a
  obtain ⟨low, hlow, a⟩ := a.openE 8 rfl
  have hkn : ([tTb R d.wo false 9, tTb R d.wo true 9] : List Ty)[low]? = some (tTb R d.wo (decide (low = 1)) 9) := match low, hlow with
    | 0, _ => rfl
    | 1, _ => rfl
  have elow : decide (V.int (low : Int) = V.int 1) = decide (low = 1) := decide_eq_decide.mpr ⟨fun h => by have := V.int.inj h; omega, fun h => by rw [h]; rfl⟩
  generalize decide (low = 1) = lb at hkn elow
  refine rs_setLc (i := 9) (own := [("_law_at", 15)]) (xs := List.range (t.n + 1)) (τ := nT) (p := fun _ => true) (g := fun i => tI (best R d.wo lb ⟨t.l, i, t.r⟩)) a rfl nd rfl rfl rfl (blkOk_by (N := ["_law_bag_here", "_law_told", "_law_worth_here", "_law_made_here", "_law_known", "_law_stretch_here", "_law_rule_here", "_law_one_here", "_law_low", "_law_due", "_law_found", "_law_ends_here", "_law_best_here", "_law_play", "_law_drawn", "_law_at"]) (sc := defScope s__law_stretch_right) (by decide +kernel)) (EvI.is (ei_rng1 (n := ((t.n + 1 : Nat) : Int)) rfl T.b_range (EvE.is (ev_bin op_add (ev_sub ix_tup (ev_name (i := 5) (t := tSt t) rfl (.inr (.inl rfl)) rfl) ev_int (bin_ixTi (j := 1) (t := nT t.n) rfl rfl)) ev_int bin_I0) rfl) (by omega)) rg0) (by decide) (by rw [List.length_range]; omega) (fun _ _ _ _ _ _ _ => (tg_name (i := 15) nd rfl (.inl rfl))) (fun _ _ _ _ _ _ _ => ets_nil)
    (fun _ _ _ _ _ i hi => fun _ => (ev_dgetTE (pr := fun ps => Done R d.wo lb ps 1000 fun s => s.n ≤ 9) (k := (⟨t.l, i, t.r⟩ : S3).key) hr (ev_sub ix_list (ev_name (i := 4) (t := tKn R d.wo) rfl (.inr (.inl rfl)) rfl) (ev_name (i := 8) (t := nT low) rfl (.inr (.inl rfl)) rfl) (bin_ixLi (j := low) rfl hkn)) (ev_tup (ea_cons (ev_sub ix_tup (ev_name (i := 5) (t := tSt t) rfl (.inr (.inl rfl)) rfl) ev_int (bin_ixTi (j := 0) rfl rfl)) (ea_cons (ev_name (i := 15) rfl (.inl rfl) rfl) (ea_cons (ev_sub ix_tup (ev_name (i := 5) (t := tSt t) rfl (.inr (.inl rfl)) rfl) ev_int (bin_ixTi (j := 2) rfl rfl)) ea_nil)))) fun ps hps => hps.2 _ (by have := List.mem_range.mp hi; show i ≤ 9; omega))) fun σ B H s1 a => ?_
  have ed : tL (((List.range (t.n + 1)).filter fun _ => true).map fun i => tI (best R d.wo lb ⟨t.l, i, t.r⟩)) = tInts (bestRow R d.wo lb t) := by
    rw [filter_yes]
    unfold tInts bestRow
    rw [List.map_map]
    rfl
  rw [ed] at a
  refine rs_set (i := 10) (t := tInts (bestRow R d.wo lb t)) a (EvE.is (ev_callK (d := (R, d.wo, t, lb)) okt kbt hgt T.g_table Ft.kp (hr.mono (by decide)) rfl (ea_cons (ev_name (i := 6) rfl (.inl rfl) rfl) (ea_cons (ev_name (i := 7) rfl (.inl rfl) rfl) (ea_cons (ev_sub ix_tup (ev_name (i := 5) (t := tSt t) rfl (.inr (.inl rfl)) rfl) ev_int (bin_ixTi (j := 0) rfl rfl)) (ea_cons (ev_sub ix_tup (ev_name (i := 5) (t := tSt t) rfl (.inr (.inl rfl)) rfl) ev_int (bin_ixTi (j := 2) rfl rfl)) (ea_cons (ev_sub ix_tup (ev_name (i := 5) (t := tSt t) rfl (.inr (.inl rfl)) rfl) ev_int (bin_ixTi (j := 1) rfl rfl)) ea_nil))))) (ek_cons (EvE.isB (ev_cmp op_eq (ev_name (i := 8) (t := nT low) rfl (.inr (.inl rfl)) rfl) ev_int (bin_eq rfl) (nomark _)) elow) ek_nil) ⟨hRF, by show t.n ≤ 99; omega⟩ rfl rfl rfl rfl) tRow_row) nd rfl (.inl rfl) fun σ B H s1 a => ?_
  change At _ _ _ _ [_, _, _, _, _, _, _, _, _, _, _, _, _, _, _, _] _ _ _ _ at a
  refine rs_set (i := 11) a (ev_call C1 (hr.mono (by decide)) rfl (d := (R, d, t)) (ea_cons (ev_name (i := 1) rfl (.inl rfl) rfl) (ea_cons (ev_name (i := 2) rfl (.inl rfl) rfl) (ea_cons (ev_name (i := 5) rfl (.inr (.inl rfl)) rfl) ea_nil))) ⟨hRW, by show t.n ≤ 100; omega⟩) nd rfl (.inl rfl) fun σ B H s1 a => ?_
  change At _ _ _ _ [_, _, _, _, _, _, _, _, _, _, _, _, _, _, _, _] _ _ _ _ at a
  have hrow : ∀ x ∈ bestRow R d.wo lb t, 0 ≤ x ∧ x < 10 ^ 11 := fun x hx => by
    obtain ⟨i, hi, e⟩ := List.mem_map.mp hx
    have hi := List.mem_range.mp hi
    have h1 := best_le hR hF hWo lb ⟨t.l, i, t.r⟩
    have h1 : 0 ≤ best R d.wo lb ⟨t.l, i, t.r⟩ ∧ best R d.wo lb ⟨t.l, i, t.r⟩ ≤ 9 * (i : Int) := h1
    rw [← e]
    omega
  have hrl : (bestRow R d.wo lb t).length = t.n + 1 := by unfold bestRow; rw [List.length_map, List.length_range]
  have ok1 : (AD.mk (tL [tInts (bestRow R d.wo lb t), tB (mayEnd R d.wo t)]) (tL [tInts (bestRow R d.wo lb t), tB (mayEnd R d.wo t)]) (.list [dInts (bestRow R d.wo lb t), .bool (mayEnd R d.wo t)]) (.list [dInts (bestRow R d.wo lb t), .bool (mayEnd R d.wo t)]) true).Ok :=
    ad_same (isd_L (isds_cons isd_Ints (isds_cons isd_bl isds_nil))) ((al_list (m := 1000) (k := 1) (n := 2002) (fun x hx => by
      rcases List.mem_cons.mp hx with e | hx
      · rw [e]; exact al_ints hrow (by omega)
      · rw [List.mem_singleton.mp hx]; exact al_bool.up (by decide) (by decide)) (Nat.le_refl _)).up (by decide) (by decide)) trivial
  refine rs_when a (EvT.is (k2 := false) (et_not (et_val (ev_callG C3 (hr.mono (by decide)) qt rfl (d := AD.mk _ _ _ _ true) (ea_cons (ev_lst (ea_cons (ev_name (i := 10) rfl (.inl rfl) rfl) (ea_cons (ev_call C2 (hr.mono (by decide)) rfl (d := (R, d.wo, t)) (ea_cons (ev_name (i := 6) rfl (.inl rfl) rfl) (ea_cons (ev_name (i := 7) rfl (.inl rfl) rfl) (ea_cons (ev_name (i := 5) rfl (.inr (.inl rfl)) rfl) ea_nil))) ⟨⟨hR, hF⟩, by show t.n ≤ 100; omega⟩) ea_nil))) (ea_cons (ev_lst (ea_cons (ev_name (i := 9) rfl (.inl rfl) rfl) (ea_cons (ev_name (i := 11) rfl (.inl rfl) rfl) ea_nil))) ea_nil)) ok1))) rfl) (fun hb => nomatch hb) fun hb B H s1 a => ?_
  change At _ _ _ _ [_, _, _, _, _, _, _, _, _, _, _, _, _, _, _, _] _ _ _ _ at a
  obtain ⟨b1, hb1⟩ : ∃ b, best R d.wo false t = b := ⟨_, rfl⟩
  obtain ⟨b2, hb2⟩ : ∃ b, best R d.wo true t = b := ⟨_, rfl⟩
  have C4 := C4.at (R, d.wo, t) ⟨hRF, by show t.n ≤ 99; omega⟩ (us := [tRu K R, tWo K d.wo, tSt t]) (t := tI b1) rfl (congrArg tI hb1)
  have C5 := C5.at (R, d.wo, t) ⟨hRF, by show t.n ≤ 99; omega⟩ (us := [tRu K R, tWo K d.wo, tSt t]) (t := tI b2) rfl (congrArg tI hb2)
  have hl1 : ∀ ps, Done R d.wo false ps 1000 (fun s => s.n ≤ 9) → look ps t.key = some (tI b1) := fun ps hps => by rw [← hb1]; exact hps.2 t ht
  have hl2 : ∀ ps, Done R d.wo true ps 1000 (fun s => s.n ≤ 9) → look ps t.key = some (tI b2) := fun ps hps => by rw [← hb2]; exact hps.2 t ht
  have hb3 : ∀ x ∈ [b1, b2], 0 ≤ x ∧ x < 10 ^ 11 := fun x hx => by
    have h1 := best_le hR hF hWo false t
    have h2 := best_le hR hF hWo true t
    rcases List.mem_cons.mp hx with e | hx
    · rw [e]; omega
    · rw [List.mem_singleton.mp hx]; omega
  have ok2 : (AD.mk (tInts [b1, b2]) (tInts [b1, b2]) (dInts [b1, b2]) (dInts [b1, b2]) true).Ok :=
    ad_same isd_Ints ((al_ints hb3 (Nat.le_of_ble_eq_true rfl)).up (by decide) (by decide)) trivial
  refine rs_set (i := 12) (t := tInts [b1, b2]) a (EvE.is (ev_lst (ea_cons (ev_call C4 (hr.mono (by decide)) rfl (d := ()) (ea_cons (ev_name (i := 6) rfl (.inl rfl) rfl) (ea_cons (ev_name (i := 7) rfl (.inl rfl) rfl) (ea_cons (ev_name (i := 5) rfl (.inr (.inl rfl)) rfl) ea_nil))) trivial) (ea_cons (ev_call C5 (hr.mono (by decide)) rfl (d := ()) (ea_cons (ev_name (i := 6) rfl (.inl rfl) rfl) (ea_cons (ev_name (i := 7) rfl (.inl rfl) rfl) (ea_cons (ev_name (i := 5) rfl (.inr (.inl rfl)) rfl) ea_nil))) trivial) ea_nil))) rfl) nd rfl (.inl rfl) fun σ B H s1 a => ?_
  change At _ _ _ _ [_, _, _, _, _, _, _, _, _, _, _, _, _, _, _, _] _ _ _ _ at a
  refine rs_when a (EvT.is (k2 := false) (et_not (et_val (ev_callG C3 (hr.mono (by decide)) qt rfl (d := AD.mk _ _ _ _ true) (ea_cons (ev_name (i := 12) rfl (.inl rfl) rfl) (ea_cons (EvE.is (t2 := tInts [b1, b2]) (ev_lst (ea_cons (ev_dgetTE (pr := fun ps => Done R d.wo false ps 1000 fun s => s.n ≤ 9) (k := t.key) (t := tI b1) hr (ev_sub ix_list (ev_name (i := 4) (t := tKn R d.wo) rfl (.inr (.inl rfl)) rfl) ev_int (bin_ixLi (j := 0) rfl rfl)) (ev_name (i := 5) (t := tSt t) rfl (.inr (.inl rfl)) rfl) hl1) (ea_cons (ev_dgetTE (pr := fun ps => Done R d.wo true ps 1000 fun s => s.n ≤ 9) (k := t.key) (t := tI b2) hr (ev_sub ix_list (ev_name (i := 4) (t := tKn R d.wo) rfl (.inr (.inl rfl)) rfl) ev_int (bin_ixLi (j := 1) rfl rfl)) (ev_name (i := 5) (t := tSt t) rfl (.inr (.inl rfl)) rfl) hl2) ea_nil))) rfl) ea_nil)) ok2))) rfl) (fun hb => nomatch hb) fun hb B H s1 a => ?_
  change At _ _ _ _ [_, _, _, _, _, _, _, _, _, _, _, _, _, _, _, _] _ _ _ _ at a
  refine rs_set (i := 13) a (ev_callK (d := (R, d.wo, t, lb)) okp kbp hgp T.g_play_for Fp.kp (hr.mono (by decide)) rfl (ea_cons (ev_name (i := 6) rfl (.inl rfl) rfl) (ea_cons (ev_name (i := 7) rfl (.inl rfl) rfl) (ea_cons (ev_name (i := 5) rfl (.inr (.inl rfl)) rfl) ea_nil))) (ek_cons (EvE.isB (ev_cmp op_eq (ev_name (i := 8) (t := nT low) rfl (.inr (.inl rfl)) rfl) ev_int (bin_eq rfl) (nomark _)) elow) ek_nil) ⟨hRF, by show t.n ≤ 99; omega⟩ rfl rfl rfl rfl) nd rfl (.inl rfl) fun σ B H s1 a => ?_
  change At _ _ _ _ [_, _, _, _, _, _, _, _, _, _, _, _, _, _, _, _] _ _ _ _ at a
  obtain ⟨out, hlp, hend, htot, _⟩ := play_walk (low := lb) hR hF (s := t) (by omega)
  have hlast : ((bestRow R d.wo lb t).map tI).getLast? = some (tI (best R d.wo lb t)) := by
    unfold bestRow
    rw [List.range_succ, List.map_append, List.map_append]
    simp
  refine rs_when (b := false) a (EvT.is (et_cmp op_ne (ev_callG C6 (hr.mono (by decide)) qt rfl (d := (R, d, t, play R d.wo lb t, out)) (ea_cons (ev_name (i := 1) rfl (.inl rfl) rfl) (ea_cons (ev_name (i := 2) rfl (.inl rfl) rfl) (ea_cons (ev_name (i := 5) rfl (.inr (.inl rfl)) rfl) (ea_cons (ev_name (i := 13) rfl (.inl rfl) rfl) ea_nil)))) ⟨hlp, hRW, hend⟩) (ev_sub ix_list (ev_name (i := 9) (t := tL ((bestRow R d.wo lb t).map tI)) rfl (.inl rfl) rfl) (ev_neg (ev_int (i := 1))) (bin_last rfl hlast)) (bin_ne rfl) (nomark _)) (by
    show (!decide (V.int (plTot d.wo (play R d.wo lb t) out) = V.int (best R d.wo lb t))) = false
    rw [htot, decide_eq_true rfl]
    rfl)) (fun hb => nomatch hb) fun hb B H s1 a => ?_
  refine rs_set (i := 14) a (ev_callG C7 (hr.mono (by decide)) qt rfl (d := (R, t)) (ea_cons (ev_name (i := 0) rfl (.inl rfl) rfl) (ea_cons (ev_name (i := 1) rfl (.inl rfl) rfl) (ea_cons (ev_name (i := 5) rfl (.inr (.inl rfl)) rfl) (ea_cons ev_int ea_nil)))) ⟨hR, ht⟩) nd rfl (.inl rfl) fun σ B H s1 a => ?_
  change At _ _ _ _ [_, _, _, _, _, _, _, _, _, _, _, _, _, _, _, _] _ _ _ _ at a
  obtain ⟨⟨dp, dout⟩, ⟨hdl, hds⟩, a⟩ := a.openE 14 rfl
  have hdl : LegP R t dp dout := hdl
  have hdend : ∀ q ∈ lefts dout, mayEnd R d.wo q.2 = true := fun q hq => still_may hF (hds q (List.mem_filter.mp hq).1)
  have htt := plTot_le hWo (pl := dp) (out := dout)
  have hdpl := hdl.1.2.2.1
  obtain ⟨hdol, hdon⟩ := leds_ok hdl.1.2.2.2.2
  have hdon := hdon 99 fun q hq => by
    rw [List.mem_singleton.mp hq]
    show t.n ≤ 99
    omega
  have hdol : dout.length = 1 + dp.length := hdol
  have hsm : seats dout ≤ dout.length * 99 := sum_le_mul (f := fun q : Nat × S3 => q.2.n) hdon
  have hsm2 : dout.length * 99 ≤ 501 * 99 := Nat.mul_le_mul_right _ (by omega)
  have ok3 : (AD.mk (tI (plTot d.wo dp dout)) (tI (plTot d.wo dp dout)) (.int (plTot d.wo dp dout)) (.int (plTot d.wo dp dout)) true).Ok := ad_same isd_int ((al_int htt.1 (by omega)).up (by decide) (by decide)) trivial
  refine rs_when a (EvT.is (k2 := false) (et_not (et_val (ev_callG C3 (hr.mono (by decide)) qt rfl (d := AD.mk _ _ _ _ true) (ea_cons (ev_call C8 (hr.mono (by decide)) rfl (d := (R, d.wo, t, dp, dout)) (ea_cons (ev_name (i := 6) rfl (.inl rfl) rfl) (ea_cons (ev_name (i := 7) rfl (.inl rfl) rfl) (ea_cons (ev_name (i := 5) rfl (.inr (.inl rfl)) rfl) (ea_cons (ev_name (i := 14) rfl (.inl rfl) rfl) ea_nil)))) ⟨hdl.1, hF, hdend⟩) (ea_cons (ev_callG C6 (hr.mono (by decide)) qt rfl (d := (R, d, t, dp, dout)) (ea_cons (ev_name (i := 1) rfl (.inl rfl) rfl) (ea_cons (ev_name (i := 2) rfl (.inl rfl) rfl) (ea_cons (ev_name (i := 5) rfl (.inr (.inl rfl)) rfl) (ea_cons (ev_name (i := 14) rfl (.inl rfl) rfl) ea_nil)))) ⟨hdl, hRW, hdend⟩) ea_nil)) ok3))) rfl) (fun hb => nomatch hb) fun hb B H s1 a => ?_
  change At _ _ _ _ [_, _, _, _, _, _, _, _, _, _, _, _, _, _, _, _] _ _ _ _ at a
  exact rs_ret a (ev_cmp (op_eqD hr.units) (ev_call C9 (hr.mono (by decide)) rfl (d := (R, t, dp, dout)) (ea_cons (ev_name (i := 6) rfl (.inl rfl) rfl) (ea_cons (ev_name (i := 5) rfl (.inr (.inl rfl)) rfl) (ea_cons (ev_name (i := 14) rfl (.inl rfl) rfl) ea_nil))) hdl.1) (ev_callG C10 (hr.mono (by decide)) qt rfl (d := (R, t, dp, dout)) (ea_cons (ev_name (i := 1) rfl (.inl rfl) rfl) (ea_cons (ev_name (i := 5) rfl (.inr (.inl rfl)) rfl) (ea_cons (ev_name (i := 14) rfl (.inl rfl) rfl) ea_nil))) hdl) bin_eqIts (nomark _)) fun v B' H' _ a' r => k v B' H' a'.n r
end
end Ls
set_option maxHeartbeats 1000000 -- Vh
/-! the plain law of a plan -/
namespace Ls
open PySem Spec PyProof.Rows L2
theorem sumB_lstr (R : Ru) (W : Wo) (low : Bool) (rows : List (List Nat)) : sumB R W low rows = ((lstr rows).map (best R W low)).sum := by
  unfold sumB
  rw [← planStr_lstr, List.map_map]
  rfl
/-- the sizes sold -/
def gones (R : Ru) (W : Wo) (low : Bool) (L : List S3) : List Nat := L.flatMap fun s => (play R W low s).map (·.2)
theorem ppl_gones (R : Ru) (W : Wo) (low : Bool) (rows : List (List Nat)) : (ppl R W low rows).map (·.2.2) = gones R W low (lstr rows) := by
  unfold ppl gones
  rw [← planStr_lstr, List.map_flatMap, List.flatMap_map]
  congr 1
  funext q
  rw [List.map_map]
  rfl
theorem gones_law {R : Ru} {W : Wo} {low : Bool} (h : R.Ok) (hF : Fits R W) : ∀ {L : List S3}, (∀ s ∈ L, s.n ≤ 99) →
    ((gones R W low L).map W.price).sum + W.free * ((((L.map (·.n)).sum : Nat) : Int) - ((gones R W low L).sum : Int)) = (L.map (best R W low)).sum
  | [], _ => by
    show (0 : Int) + W.free * (((0 : Nat) : Int) - ((0 : Nat) : Int)) = 0
    simp
  | s :: L, hL => by
    have ih := gones_law (low := low) h hF (L := L) fun t ht => hL t (List.mem_cons_of_mem _ ht)
    obtain ⟨out, _, _, h3, h4⟩ := play_walk (low := low) h hF (hL s List.mem_cons_self)
    have e : gones R W low (s :: L) = (play R W low s).map (·.2) ++ gones R W low L := rfl
    rw [e, List.map_append, List.sum_append, List.sum_append, List.map_cons, List.sum_cons, List.map_cons, List.sum_cons, List.map_map]
    unfold plTot at h3
    rw [lefts_seats] at h3
    have h3 : ((play R W low s).map (W.price ∘ (·.2))).sum + W.free * (seats out : Int) = best R W low s := h3
    rw [← h3, ← ih]
    have e1 : (((s.n + (L.map (·.n)).sum : Nat) : Int) - ((((play R W low s).map (·.2)).sum + (gones R W low L).sum : Nat) : Int)) = (seats out : Int) + ((((L.map (·.n)).sum : Nat) : Int) - ((gones R W low L).sum : Int)) := by omega
    rw [e1, Int.mul_add]
    omega
theorem rowStr_ns (row : List Nat) : (rowStr row).map (·.2.n) = row := by
  refine List.ext_getElem? fun i => ?_
  rw [List.getElem?_map]
  cases e : row[i]? with
  | none =>
    have h : (rowStr row)[i]? = none := List.getElem?_eq_none (by rw [rowStr_len]; exact List.getElem?_eq_none_iff.mp e)
    rw [h]
    rfl
  | some x =>
    rw [rowStr_get e]
    rfl
theorem lstr_ns (rows : List (List Nat)) : ((lstr rows).map (·.n)).sum = (rows.map List.sum).sum := by
  unfold lstr
  induction rows with
  | nil => rfl
  | cons r rows ih =>
    rw [List.flatMap_cons, List.map_append, List.sum_append, ih, List.map_cons, List.sum_cons, List.map_map]
    have e : (rowStr r).map ((·.n) ∘ (·.2)) = r := rowStr_ns r
    rw [e]
end Ls
set_option maxHeartbeats 16000000 -- Vi
/-! _law_plan_right -/
namespace Ls
open PySem Spec PyProof.Rows L2
theorem sums_le {α : Type} {f : α → Int} {c : Int} : ∀ {xs : List α}, (∀ x ∈ xs, 0 ≤ f x ∧ f x ≤ c) → 0 ≤ (xs.map f).sum ∧ (xs.map f).sum ≤ c * (xs.length : Int)
  | [], _ => ⟨Int.le_refl _, by simp⟩
  | x :: xs, h => by
    have ih := sums_le (xs := xs) fun y hy => h y (List.mem_cons_of_mem _ hy)
    have hx := h x List.mem_cons_self
    have e : c * ((x :: xs).length : Int) = c * (xs.length : Int) + c := by
      rw [List.length_cons, Int.natCast_add, Int.mul_add]
      simp
    rw [List.map_cons, List.sum_cons, e]
    omega
theorem lstr_len {rows : List (List Nat)} (h : PlOk rows) : (lstr rows).length ≤ 25 := by
  rw [← planStr_lstr, List.length_map]
  exact planStr_len h
theorem gones_sum {R : Ru} {W : Wo} {low : Bool} (h : R.Ok) (hF : Fits R W) : ∀ {L : List S3}, (∀ s ∈ L, s.n ≤ 99) → (gones R W low L).sum ≤ (L.map (·.n)).sum
  | [], _ => Nat.le_refl _
  | s :: L, hL => by
    have ih := gones_sum (low := low) h hF (L := L) fun t ht => hL t (List.mem_cons_of_mem _ ht)
    obtain ⟨out, _, _, h3, h4⟩ := play_walk (low := low) h hF (hL s List.mem_cons_self)
    have e : gones R W low (s :: L) = (play R W low s).map (·.2) ++ gones R W low L := rfl
    rw [e, List.sum_append, List.map_cons, List.sum_cons]
    omega
section
variable [J : Iv] {P : Program} {w : World} {K : PySem.W.Frag} {mg : Str → Option Value} {base : Heap}
theorem sc__law_plan_right : FnScope ["_law_told", "_law_worth_here", "_law_made_here", "_law_known", "_law_rows", "_law_plan", "_law_rule_here", "_law_one_here", "_law_some", "_law_due", "_law_gone", "_law_free", "_law_way", "_law_stretch_here", "_law_row", "_law_seat", "_law_size"] ["_law_told", "_law_worth_here", "_law_made_here", "_law_known", "_law_rows", "_law_plan"] (defScope s__law_plan_right) := ⟨rfl, rfl, rfl, by decide +kernel, rfl, by decide +kernel, by decide +kernel⟩
theorem c_planright [S : St] (T : Top K mg) : CalG P w K mg base "_law_plan_right" 16 (spF (α := Ru × WA × List (List Nat)) (fun d => [tTold d.1, tWT d.2.1, tMade K d.1 d.2.1.wo, tKn d.1 d.2.1.wo, tL (d.2.2.map tNs), tPl K d.2.2]) (fun d => RWA d.1 d.2.1 ∧ PlOk d.2.2 ∧ ∀ s ∈ lstr d.2.2, s.n ≤ 9) (fun _ => tB true)) := by
  have nd := sc__law_plan_right.nd
  obtain ⟨fp, Fp, okp⟩ := ok_plan_play (P := P) (w := w) (base := base) T
  obtain ⟨ds, vds, bds⟩ := kb_plan_play Fp
  have C1 := c_stretches (P := P) (w := w) (base := base) T
  have C3 := c_alike (P := P) (w := w) (base := base) T
  have C4 := c_greatest_in (P := P) (w := w) (base := base) T
  have C5 := c_least_in (P := P) (w := w) (base := base) T
  have C6 := c_lprice (P := P) (w := w) (base := base) T
  refine cal_G T.f__law_plan_right T.g__law_plan_right sc__law_plan_right (fun _ _ _ _ _ _ us hl => match us, hl with | [_, _, _, _, _, _], _ => rfl) (fun _ => rfl) (by decide) fun f cdv cd A outer s H0 E ⟨R, d, rows⟩ B0 σ D hr qt hp a k hn => ?_
  obtain ⟨hRW, hpl, h9⟩ : RWA R d ∧ PlOk rows ∧ ∀ s ∈ lstr rows, s.n ≤ 9 := hp
  have hR := hRW.1
  have hF := hRW.2.fits
  have hRF : RW.Ok R d.wo := ⟨hR, hF⟩
  have hWo := wa_ok hRW.2.1
  have hl25 := lstr_len hpl
  have k : ∀ v B H, Nw nF B0 H0 B H → (tB true).p B v → D.rt v H := k
  have hb : ∀ low, 0 ≤ sumB R d.wo low rows ∧ sumB R d.wo low rows ≤ 891 * 25 := fun low => by
    rw [sumB_lstr]
    have h := sums_le (c := 891) (f := best R d.wo low) (xs := lstr rows) fun s hs => by
      have h1 := best_le hR hF hWo low s
      have h2 := h9 s hs
      omega
    omega
  refine rs_asg a (ev_name (i := 2) rfl (.inl rfl) rfl) (tg_tup rfl (tgs_cons (tg_name (i := 6) nd rfl (.inl rfl)) (tgs_cons (tg_name (i := 7) nd rfl (.inl rfl)) tgs_nil))) fun σ B H s1 a => ?_
  change At _ _ _ _ [_, _, _, _, _, _, _, _, _, _, _, _, _, _, _, _, _] _ _ _ _ at a
  refine rs_set (i := 8) a (ev_call C1 (hr.mono (by decide)) rfl (d := rows) (ea_cons (ev_name (i := 4) rfl (.inl rfl) rfl) ea_nil) hpl) nd rfl (.inr rfl) fun σ B H s1 a => ?_
  change At _ _ _ _ [_, _, _, _, _, _, _, _, _, _, _, _, _, _, _, _, _] _ _ _ _ at a
  refine rs_setLc (i := 9) (own := [("_law_way", 12)]) (xs := [false, true]) (τ := fun b : Bool => nT (if b then 1 else 0)) (p := fun _ => true) (g := fun b => tI (sumB R d.wo b rows)) a rfl nd rfl rfl rfl (blkOk_by (N := ["_law_told", "_law_worth_here", "_law_made_here", "_law_known", "_law_rows", "_law_plan", "_law_rule_here", "_law_one_here", "_law_some", "_law_due", "_law_gone", "_law_free", "_law_way", "_law_stretch_here", "_law_row", "_law_seat", "_law_size"]) (sc := defScope s__law_plan_right) (by decide +kernel)) (ei_tup (ev_tup (ea_cons ev_int (ea_cons ev_int ea_nil)))) (by decide) (by decide) (fun _ _ _ _ _ _ _ => (tg_name (i := 12) nd rfl (.inr rfl))) (fun _ _ _ _ _ _ _ => ets_nil)
    (fun _ _ _ _ _ b _ => fun _ => ?_) fun σ B H s1 a => ?_
  · skip
    rw [sumB_lstr]
    have okb : BlkOk ["_law_told", "_law_worth_here", "_law_made_here", "_law_known", "_law_rows", "_law_plan", "_law_rule_here", "_law_one_here", "_law_some", "_law_due", "_law_gone", "_law_free", "_law_way", "_law_stretch_here", "_law_row", "_law_seat", "_law_size"] { kind := .function, names := [(".0", .local), ("_law_way", .cell), ("sum", .globalImplicit), ("_law_known", .cell), ("_law_some", .cell)], isGenerator := false, isCoroutine := false } { kind := .function, names := [(".0", .local), ("_law_stretch_here", .local), ("_law_known", .free), ("_law_way", .free)], isGenerator := false, isCoroutine := false } [("_law_stretch_here", 13)] := blkOk_by (by decide +kernel)
    refine ev_sumI (ns := (lstr rows).map (best R d.wo b)) rfl rfl T.b_sum (ev_lc (own := [("_law_stretch_here", 13)]) (xs := lstr rows) (τ := tSt) (p := fun _ => true) (g := fun s => tI (best R d.wo b s)) rfl nd okb (ei_list (ev_name (i := 8) rfl (.inr (.inl rfl)) rfl)) (by decide) (by omega) (fun _ _ _ _ _ _ _ => (tg_name (i := 13) nd rfl (.inl rfl))) (fun _ _ _ _ _ _ _ => ets_nil)
      (fun _ _ _ _ _ t ht => fun _ => ?_)) map_map_I
    have hkn : ([tTb R d.wo false 9, tTb R d.wo true 9] : List Ty)[if b then 1 else 0]? = some (tTb R d.wo b 9) := match b with
      | false => rfl
      | true => rfl
    exact ev_dgetTE (pr := fun ps => Done R d.wo b ps 1000 fun s => s.n ≤ 9) (k := t.key) hr (ev_sub ix_list (ev_name (i := 3) (t := tKn R d.wo) rfl (.inr (.inl rfl)) rfl) (ev_name (i := 12) (t := nT (if b then 1 else 0)) rfl (.inr (.inl rfl)) rfl) (bin_ixLi (j := if b then 1 else 0) rfl hkn)) (ev_name (i := 13) (t := tSt t) rfl (.inl rfl) rfl) fun ps hps => hps.2 t (h9 t ht)
  obtain ⟨b1, hb1⟩ : ∃ b, sumB R d.wo false rows = b := ⟨_, rfl⟩
  obtain ⟨b2, hb2⟩ : ∃ b, sumB R d.wo true rows = b := ⟨_, rfl⟩
  have C4 := C4.at (R, d.wo, rows) ⟨hRF, hpl⟩ (us := [tRu K R, tWo K d.wo, tPl K rows]) (t := tI b1) rfl (congrArg tI hb1)
  have C5 := C5.at (R, d.wo, rows) ⟨hRF, hpl⟩ (us := [tRu K R, tWo K d.wo, tPl K rows]) (t := tI b2) rfl (congrArg tI hb2)
  have ed : tL ((([false, true] : List Bool).filter fun _ => true).map fun b => tI (sumB R d.wo b rows)) = tInts [b1, b2] := by
    rw [← hb1, ← hb2]
    rfl
  rw [ed] at a
  have hb3 : ∀ x ∈ [b1, b2], 0 ≤ x ∧ x < 10 ^ 11 := fun x hx => by
    have e11 : (10 : Int) ^ 11 = 100000000000 := by decide
    have h1 := hb false
    have h2 := hb true
    rcases List.mem_cons.mp hx with e | hx
    · rw [e]; omega
    · rw [List.mem_singleton.mp hx]; omega
  have ok2 : (AD.mk (tInts [b1, b2]) (tInts [b1, b2]) (dInts [b1, b2]) (dInts [b1, b2]) true).Ok :=
    ad_same isd_Ints ((al_ints hb3 (Nat.le_of_ble_eq_true rfl)).up (by decide) (by decide)) trivial
  refine rs_when a (EvT.is (k2 := false) (et_not (et_val (ev_callG C3 (hr.mono (by decide)) qt rfl (d := AD.mk _ _ _ _ true) (ea_cons (EvE.is (t2 := tInts [b1, b2]) (ev_lst (ea_cons (ev_call C4 (hr.mono (by decide)) rfl (d := ()) (ea_cons (ev_name (i := 6) rfl (.inl rfl) rfl) (ea_cons (ev_name (i := 7) rfl (.inl rfl) rfl) (ea_cons (ev_name (i := 5) rfl (.inl rfl) rfl) ea_nil))) trivial) (ea_cons (ev_call C5 (hr.mono (by decide)) rfl (d := ()) (ea_cons (ev_name (i := 6) rfl (.inl rfl) rfl) (ea_cons (ev_name (i := 7) rfl (.inl rfl) rfl) (ea_cons (ev_name (i := 5) rfl (.inl rfl) rfl) ea_nil))) trivial) ea_nil))) rfl) (ea_cons (ev_name (i := 9) rfl (.inl rfl) rfl) ea_nil)) ok2))) rfl) (fun hb => nomatch hb) fun hb B H s1 a => ?_
  change At _ _ _ _ [_, _, _, _, _, _, _, _, _, _, _, _, _, _, _, _, _] _ _ _ _ at a
  have eG : (ppl R d.wo false rows).map (·.2.2) = gones R d.wo false (lstr rows) := ppl_gones R d.wo false rows
  have hG1 : (gones R d.wo false (lstr rows)).length ≤ 1000 := by
    have h1 := flat_len (fun s => (play R d.wo false s).map (·.2)) 19 (lstr rows) fun s hs => by
      have h1 := play_len R d.wo false s
      have h2 := h9 s hs
      rw [List.length_map]
      omega
    have h1 : (gones R d.wo false (lstr rows)).length ≤ _ := h1
    omega
  have hgl : (ppl R d.wo false rows).length ≤ 1000 := by
    have e : (ppl R d.wo false rows).length = (gones R d.wo false (lstr rows)).length := by rw [← eG, List.length_map]
    omega
  have h99 : ∀ s ∈ lstr rows, s.n ≤ 99 := fun s hs => by have := h9 s hs; omega
  have hG2 := gones_sum (low := false) hR hF h99
  have hG3 := gones_law (low := false) hR hF h99
  rw [lstr_ns] at hG2 hG3
  rw [← sumB_lstr, hb1] at hG3
  have hrs := hpl.sum
  generalize gones R d.wo false (lstr rows) = G at eG hG1 hG2 hG3
  refine rs_setLc (i := 10) (own := [("_law_row", 14), ("_law_seat", 15), ("_law_size", 16)]) (xs := ppl R d.wo false rows) (τ := tTr) (p := fun _ => true) (g := fun q => nT q.2.2) a rfl nd rfl rfl rfl (blkOk_by (N := ["_law_told", "_law_worth_here", "_law_made_here", "_law_known", "_law_rows", "_law_plan", "_law_rule_here", "_law_one_here", "_law_some", "_law_due", "_law_gone", "_law_free", "_law_way", "_law_stretch_here", "_law_row", "_law_seat", "_law_size"]) (sc := defScope s__law_plan_right) (by decide +kernel)) (ei_list (ev_callD (d := (R, d.wo, rows, false)) okp T.g_plan_play Fp.kp bds vds (us := [tB false]) (fun B => .one rfl) (hr.mono (by decide)) rfl (ea_cons (ev_name (i := 6) rfl (.inl rfl) rfl) (ea_cons (ev_name (i := 7) rfl (.inl rfl) rfl) (ea_cons (ev_name (i := 5) rfl (.inl rfl) rfl) ea_nil))) ⟨hRF, hpl⟩ rfl rfl)) (by decide) (by omega) (fun _ _ _ _ _ _ _ => (tg_tup rfl (tgs_cons (tg_name (i := 14) nd rfl (.inl rfl)) (tgs_cons (tg_name (i := 15) nd rfl (.inl rfl)) (tgs_cons (tg_name (i := 16) nd rfl (.inl rfl)) tgs_nil))))) (fun _ _ _ _ _ _ _ => ets_nil) (fun _ _ _ _ _ _ _ => fun _ => (ev_name (i := 16) rfl (.inl rfl) rfl)) fun σ B H s1 a => ?_
  change At _ _ _ _ [_, _, _, _, _, _, _, _, _, _, _, _, _, _, _, _, _] _ _ _ _ at a
  have ed : tL (((ppl R d.wo false rows).filter fun _ => true).map fun q => nT q.2.2) = tL ((G.map fun n : Nat => (n : Int)).map tI) := by
    rw [filter_yes, ← eG, List.map_map, List.map_map]
    rfl
  rw [ed] at a
  refine rs_set (i := 11) (t := tI (((rows.map List.sum).sum : Nat) - (G.sum : Nat) : Int)) a (ev_bin op_sub (EvE.is (ev_sumI (ns := (rows.map List.sum).map fun n : Nat => (n : Int)) rfl rfl T.b_sum (ev_lc (own := [("_law_row", 14)]) (xs := rows) (τ := tNs) (p := fun _ => true) (g := fun r => nT r.sum) rfl nd (blkOk_by (N := ["_law_told", "_law_worth_here", "_law_made_here", "_law_known", "_law_rows", "_law_plan", "_law_rule_here", "_law_one_here", "_law_some", "_law_due", "_law_gone", "_law_free", "_law_way", "_law_stretch_here", "_law_row", "_law_seat", "_law_size"]) (sc := defScope s__law_plan_right) (by decide +kernel)) (ei_list (ev_name (i := 4) rfl (.inl rfl) rfl)) (by decide) (by have := hpl.len; omega) (fun _ _ _ _ _ _ _ => (tg_name (i := 14) nd rfl (.inl rfl))) (fun _ _ _ _ _ _ _ => ets_nil) (fun _ _ _ _ _ r _ => fun _ => EvE.is (ev_sumI (ns := r.map fun n : Nat => (n : Int)) rfl rfl T.b_sum (ev_name (i := 14) (t := tNs r) rfl (.inl rfl) rfl) (congrArg tL (nat_tys r))) (congrArg tI (sum_cast r)))) (by rw [filter_yes, List.map_map, List.map_map]; rfl)) (congrArg tI (sum_cast _))) (EvE.is (ev_sumI (ns := G.map fun n : Nat => (n : Int)) rfl rfl T.b_sum (ev_name (i := 10) rfl (.inl rfl) rfl) rfl) (congrArg tI (sum_cast _))) bin_I0) nd rfl (.inl rfl) fun σ B H s1 a => ?_
  change At _ _ _ _ [_, _, _, _, _, _, _, _, _, _, _, _, _, _, _, _, _] _ _ _ _ at a
  refine rs_ret a (EvE.isB (k2 := true) (ev_cmp op_eq (ev_bin op_add (ev_sumI (ns := G.map d.wo.price) rfl rfl T.b_sum (ev_lc (own := [("_law_size", 16)]) (xs := G) (τ := nT) (p := fun _ => true) (g := fun n => tI (d.wo.price n)) rfl nd (blkOk_by (N := ["_law_told", "_law_worth_here", "_law_made_here", "_law_known", "_law_rows", "_law_plan", "_law_rule_here", "_law_one_here", "_law_some", "_law_due", "_law_gone", "_law_free", "_law_way", "_law_stretch_here", "_law_row", "_law_seat", "_law_size"]) (sc := defScope s__law_plan_right) (by decide +kernel)) (ei_list (EvE.is (ev_name (i := 10) rfl (.inl rfl) rfl) (congrArg tL (nat_tys G).symm))) (by decide) (by omega) (fun _ _ _ _ _ _ _ => (tg_name (i := 16) nd rfl (.inl rfl))) (fun _ _ _ _ _ _ _ => ets_nil) (fun _ _ _ _ _ n _ => fun _ => (ev_call C6 (hr.mono (by decide)) rfl (d := (d, n)) (ea_cons (ev_name (i := 1) rfl (.inr (.inl rfl)) rfl) (ea_cons (ev_name (i := 16) rfl (.inl rfl) rfl) ea_nil)) trivial))) map_map_I) (ev_bin op_mul (ev_dget (ps := woPs d) (k := .inr "free") (t := tI d.2.1) hr (ev_name (i := 1) rfl (.inr (.inl rfl)) rfl) ev_str rfl) (ev_name (i := 11) rfl (.inl rfl) rfl) (bin_I (.inr ⟨by omega, by omega⟩))) bin_I0) (ev_sub ix_list (ev_name (i := 9) (t := tInts [b1, b2]) rfl (.inl rfl) rfl) ev_int (bin_ixLi (j := 0) rfl rfl)) (bin_eq rfl) (nomark _)) (by
    have e : ((G.map d.wo.price).sum + d.2.1 * (((rows.map List.sum).sum : Nat) - (G.sum : Nat) : Int)) = b1 := hG3
    rw [e]
    exact decide_eq_true rfl)) fun v B' H' _ a' r => k v B' H' a'.n r
end
end Ls
set_option maxHeartbeats 1000000 -- Vj
/-! the two rules of the law, after their sizes were changed -/
namespace Ls
open PySem Spec PyProof.Rows L2
def Ru.cut3 (R : Ru) : Ru := { R with sizes := R.sizes.take 3 }
theorem cut3_ok {R : Ru} (h : R.Ok) : R.cut3.Ok := ⟨⟨h.sz.1.sublist (List.take_sublist ..), fun x hx => h.sz.2 x (List.mem_of_mem_take hx)⟩, (by
  show R.sizes.take 3 ≠ []
  have := h.ne
  cases e : R.sizes with
  | nil => exact absurd e this
  | cons a r => intro z; cases z), h.bd, h.of⟩
/-- an ascending list of whole numbers that come from naturals is one of naturals -/
theorem asc_nats {ys : List Int} {ns : List Nat} (h : ys.Pairwise (· < ·)) (hm : ∀ x, x ∈ ys ↔ x ∈ ns.map fun n : Nat => (n : Int)) : ∃ zs : List Nat, ys = zs.map (fun n : Nat => (n : Int)) ∧ zs.Pairwise (· < ·) ∧ ∀ n, n ∈ zs ↔ n ∈ ns := by
  have e : ys = (ys.map Int.toNat).map (fun n : Nat => (n : Int)) := by
    rw [List.map_map]
    conv => lhs; rw [← List.map_id ys]
    refine List.map_congr_left fun x hx => ?_
    obtain ⟨n, _, e⟩ := List.mem_map.mp ((hm x).mp hx)
    show x = ((x.toNat : Nat) : Int)
    omega
  refine ⟨ys.map Int.toNat, e, ?_, fun n => ?_⟩
  · rw [e] at h
    exact (List.pairwise_map.mp h).imp fun q => by omega
  · rw [List.mem_map]
    refine ⟨fun ⟨y, hy, q⟩ => ?_, fun hn => ⟨(n : Int), (hm _).mpr (List.mem_map.mpr ⟨n, hn, rfl⟩), by simp⟩⟩
    obtain ⟨m, hm', q2⟩ := List.mem_map.mp ((hm y).mp hy)
    have : m = n := by omega
    exact this ▸ hm'
/-- the other rule: told's sizes and one of its own -/
theorem other_ok {R T : Ru} (hR : R.Ok) (hT : T.Ok) {zs : List Nat} (h : zs.Pairwise (· < ·)) (hm : ∀ n, n ∈ zs ↔ n ∈ R.sizes.take 1 ++ T.sizes) : ({ R with sizes := zs } : Ru).Ok ∧ ∀ n ∈ T.sizes, n ∈ zs := by
  have hs : ∀ n ∈ T.sizes, n ∈ zs := fun n hn => (hm n).mpr (List.mem_append_right _ hn)
  refine ⟨⟨⟨h, fun x hx => ?_⟩, fun e => ?_, hR.bd, hR.of⟩, hs⟩
  · rcases List.mem_append.mp ((hm x).mp hx) with z | z
    · exact hR.sz.2 x (List.mem_of_mem_take z)
    · exact hT.sz.2 x z
  · have e : zs = [] := e
    subst e
    cases e : T.sizes with
    | nil => exact hT.ne e
    | cons a r => exact nomatch hs a (by rw [e]; exact List.mem_cons_self)
theorem WFit.up {R T : Ru} {d : WA} (h : WFit T d) (hs : ∀ n ∈ T.sizes, n ∈ R.sizes) : WFit R d := ⟨h.1, h.2.imp id (hs _)⟩
end Ls
set_option maxHeartbeats 1000000 -- Vj2
/-! a comprehension over what is known in part -/
namespace Ls
open PySem Spec PyProof.Rows L2
section
variable [J : Iv] {X : Cx} {Γ : Ctx} {elt it tg : Expr} {scope : Scope} {pos : Pos}
theorem run_lcE {κ α : Type} {pr : κ → Prop} {xs : κ → List α} {τ : α → Ty} {g : α → Ty} {t : Ty} {u : α → Ctx → Ctx} {js vs : List Nat} (hi : ∀ (σ : L2.St) (B H : Hp), SOk Γ B σ → Sm B H → ∀ R : It → Hp → Prop, (∀ c, pr c → ∀ J B' H', Nw nF B H B' H' → Src J B' ((xs c).map τ) → R J H') → RI X tg it σ H R) (hjs : ∀ j ∈ js, j ∈ vs) (hlen : ∀ c, pr c → (xs c).length ≤ 100000)
    (hg : ∀ s H0 C cl fp x, Tgt (bX X scope s H0 C cl fp) tg (τ x) (u x) js)
    (he : ∀ s H0 C cl fp x, EvE (bX X scope s H0 C cl fp) (u x (wipeC Γ vs)) elt (g x)) (hw : ∀ c, pr c → ∀ B v, (tL ((xs c).map g)).p B v → t.p B v) {σ : L2.St} {B H : Hp} (so : SOk Γ B σ) (bh : Sm B H) {Q : VK} (q : ∀ v B' H', Nw nF B H B' H' → t.p B' v → Q v H') :
    tLc (RI X tg it) (bG X scope tg) (bT X scope []) (bE X scope elt) vs σ H Q := hi σ B H so bh _ fun c hc J B1 H1 n1 src D hD => by
  have hlen := hlen c hc
  have hw := hw c hc
  generalize xs c = xs at src hlen hw
  have sw : SOk (wipeC Γ vs) B1 (L2.wipe σ vs) := (so.mono n1.bb).wipe vs
  have nD := n1.bh.nf hD
  have hl : (xs.map τ).length = xs.length := List.length_map ..
  have w : Walk J xs.length (fun H => ∃ B2, Same B1 B2 ∧ Sm B2 H) J.yld := ⟨fun i H hi ⟨B2, b1, b2⟩ => src.goes i B2 H b1 b2 (by rw [hl]; exact hi), fun H ⟨B2, b1, b2⟩ => by rw [← hl]; exact src.stop B2 H b1 b2, fun i H x H' _ _ y => y⟩
  refine lc_it w (LcAt xs (fun _ => true) g B1 H1 D) ⟨B1, [], .new n1.bh hD, n1.bh.free hD, nfu n1.bh nD nD, upd_same, .nil⟩ (fun i H2 _ ⟨B2, _, n2, _⟩ => ⟨B2, n2.bb, n2.bh⟩) (fun i v H2 H3 hi ⟨B2, acc, n2, bD, fD, hD2, ta⟩ y => ?_) (fun H2 ⟨B2, acc, n2, bD, fD, hD2, ta⟩ => ?_)
  · have hx : xs[i]? = some xs[i] := by simp [hi]
    obtain ⟨B3, n3, tv⟩ := src.yld i (τ xs[i]) B2 H2 v H3 n2.bb n2.bh (by rw [List.getElem?_map, hx]; rfl) y
    have n23 := n2.trans n3
    intro s H0 C cl fp
    refine hg s H0 C cl fp xs[i] v (L2.wipe σ vs) B3 H3 (wipeC Γ vs) _ (sw.mono n23.bb) n3.bh tv fun σ' s' l' k' => ⟨?_, ?_⟩
    · rw [wipe_congr (vs := vs) l' fun j hj => k' j fun z => hj (hjs j z), wipe_wipe]
    · intro s2 H02 C2 cl2 fp2
      refine ets_nil σ' B3 H3 s' n3.bh _ fun B4 H4 n4 => ?_
      have n24 := n23.trans n4
      have n34 := n3.trans n4
      have hD4 : H4 D = some (.lst acc) := n34.keep _ _ fD hD2
      have bD4 : B4 D = none := n34.fr D _ bD hD2
      have fD4 : ¬ Iv.F H4 D := n34.nf _ _ fD hD2
      rw [if_pos rfl]
      intro s3 H03 C3 cl3 fp3
      refine he s3 H03 C3 cl3 fp3 xs[i] σ' B4 H4 (s'.mono n4.bb) n4.bh _ fun y B5 H5 n5 ty => ?_
      have n25 := n24.trans n5
      have hD5 : H5 D = some (.lst acc) := n5.keep _ _ fD4 hD4
      have fD5 : ¬ Iv.F H5 D := n5.nf _ _ fD4 hD4
      have bD5 : B5 D = none := n5.fr D _ bD4 hD4
      have la : acc.length < 100000 := by
        rw [ta.length, List.length_map]
        have h1 := List.length_filter_le (fun _ => true) (xs.take i)
        have h2 : (xs.take i).length ≤ i := List.length_take_le ..
        omega
      refine ⟨acc, hD5, lt5 la, B5, acc ++ [y], n25.write bD5 (.inr hD) fD5, bD5, nfu n5.bh fD5 fD5, upd_same, ?_⟩
      rw [take_succ' hx, List.filter_append, List.map_append]
      have e : ([xs[i]].filter fun _ => true).map g = [g xs[i]] := rfl
      rw [e]
      exact (ta.mono ((n3.trans n4).trans n5).bb).append (.one ty)
  · have f := n2.freeze bD hD2 hD fD
    refine q (.ref D) _ H2 (n1.trans f) (hw _ _ ⟨D, acc, rfl, upd_same, ?_⟩)
    rw [List.take_length, filter_yes] at ta
    have e : Same B2 (upd B2 D (.lst acc)) := fun x o h => by rw [upd_ne (ne_of_none h bD)]; exact h
    exact ta.mono e
theorem ev_lcE {κ α : Type} {pr : κ → Prop} {xs : κ → List α} {τ : α → Ty} {g : α → Ty} {t : Ty} {u : α → Ctx → Ctx} {js : List Nat} {own : List (Str × Nat)} (hc : X.calm = true) (hN : X.N.Nodup) (ok : BlkOk X.N X.env.scope scope own)
    (hi : ∀ (σ : L2.St) (B H : Hp), SOk Γ B σ → Sm B H → ∀ R : It → Hp → Prop, (∀ c, pr c → ∀ J B' H', Nw nF B H B' H' → Src J B' ((xs c).map τ) → R J H') → RI X tg it σ H R) (hjs : ∀ j ∈ js, j ∈ own.map (·.2)) (hlen : ∀ c, pr c → (xs c).length ≤ 100000)
    (hg : ∀ s H0 C cl fp x, Tgt (bX X scope s H0 C cl fp) tg (τ x) (u x) js)
    (he : ∀ s H0 C cl fp x, EvE (bX X scope s H0 C cl fp) (u x (wipeC Γ (own.map (·.2)))) elt (g x)) (hw : ∀ c, pr c → ∀ B v, (tL ((xs c).map g)).p B v → t.p B v) (hs : ∀ x, foldedSetIterable it X.env x = pure x := by intro _; rfl) :
    EvE X Γ (.ListComp elt [⟨tg, it, [], 0⟩] scope pos) t := fun σ B H so bh Q q => ⟨_, pe_lc hc hN pi_c ok pg_b pt_b pe_b hs, run_lcE hi hjs hlen hg he hw so bh q⟩
/-- range of a number that is known in part -/
theorem ei_rngE {pr : Nat → Prop} {a : Expr} {p : Pos} {σ : L2.St} {B H : Hp} {R : It → Hp → Prop} (hg : Gl X "range") (hm : X.mg "range" = none) (h : EvE X Γ a (tE pr nT)) (hn : ∀ n, pr n → n ≤ 100000) (s : SOk Γ B σ) (bh : Sm B H) (q : ∀ c, pr c → ∀ J B' H', Nw nF B H B' H' → Src J B' ((List.range c).map nT) → R J H') (hs : starEach [a] X.env = [(false, eval a X.env)] := by rfl) :
    RI X tg (.Call (.Name "range" p) [a] [] pos) σ H R :=
  ⟨_, pi_range1 hg hm pa_c hs, ea_cons h ea_nil hs σ B H s bh _ fun vs B1 H1 n1 r1 => by
    cases r1 with
    | cons r r0 =>
      cases r0
      obtain ⟨n, hp, r⟩ := r
      cases r
      refine ⟨(n : Int), rfl, by omega, by have := hn n hp; omega, q n hp _ B1 H1 n1 ?_⟩
      have e : (List.range n).map nT = rgTys 0 ((n : Int)).toNat := rg0.symm
      rw [e]
      exact src_rng⟩
end
end Ls
set_option maxHeartbeats 16000000 -- Vj3
/-! the pairs of the law -/
namespace Ls
open PySem Spec PyProof.Rows L2
section
variable [J : Iv] {P : Program} {w : World} {K : PySem.W.Frag} {mg : Str → Option Value} {base : Heap} {g : Addr}
/-- Plan(rows) -/
theorem ev_plan {X : Cx} {Γ : Ctx} {rows : List (List Nat)} {e : Expr} {p pos : Pos} (T : Top X.K X.mg) (hr : Room 5 X.A) (hg : Gl X "Plan") (ha : EvA X Γ [e] [tL (rows.map tNs)]) (hp : PlOk rows) (he : starEach [e] X.env = (false, eval e X.env) :: starEach [] X.env := by rfl) (hpl : (backTo pos (starEach [] X.env)).any (·.1) = false := by rfl) :
    EvE X Γ (.Call (.Name "Plan" p) [e] [] pos) (tPl X.K rows) := fun σ B H so bh Q q => by
  obtain ⟨fd, Fd, Fn⟩ := c_Plan_init (P := X.prog) (w := X.w) (base := X.base) T
  refine ⟨_, pe_make T.m_Plan Fn hr hg T.g_Plan (Fd.bindsN (fun _ _ _ _ _ _ us hl => match us, hl with | [_, _], _ => rfl)) .nil pass0 pa_c (by decide) he hpl, ha σ B H so bh _ fun vs B1 H1 n1 r1 => ?_⟩
  intro x dx hx hdx ne
  rw [List.append_nil]
  exact make_run n1.bh hp r1 (fun v B3 H3 n3 r3 => q v B3 H3 (n1.trans n3) r3) x dx hx hdx ne
theorem Cal.at' {α β : Type} {args : α → List Ty} {pre : α → Prop} {res : α → Ty} {x : Str} {k : Nat} (C : Cal P w K mg base x k (spF args pre res)) (y : β → α) (pr : β → Prop) (hp : ∀ b, pr b → pre (y b)) {us : β → List Ty} {ts : β → Ty} (h1 : ∀ b, args (y b) = us b) (h2 : ∀ b, res (y b) = ts b) : Cal P w K mg base x k (spF us pr ts) := by
  obtain ⟨f, fd, ps, hm, hk, hb, F⟩ := C.ex
  exact ⟨f, fd, ps, hm, hk, hb, F.imp fun vs H Q E ⟨b, B, bh, z, r, q⟩ => ⟨y b, B, bh, hp b z, by rw [h1]; exact r, by rw [h2]; exact q⟩⟩
theorem CalG.at' {α β : Type} {args : α → List Ty} {pre : α → Prop} {res : α → Ty} {x : Str} {k : Nat} (C : CalG P w K mg base x k (spF args pre res)) (y : β → α) (pr : β → Prop) (hp : ∀ b, pr b → pre (y b)) {us : β → List Ty} {ts : β → Ty} (h1 : ∀ b, args (y b) = us b) (h2 : ∀ b, res (y b) = ts b) : CalG P w K mg base x k (spF us pr ts) := by
  obtain ⟨f, fd, ps, hm, hk, hb, F⟩ := C.ex
  exact ⟨f, fd, ps, hm, hk, hb, F.sub fun vs H Q E ⟨b, B, bh, z, r, q⟩ => ⟨y b, B, bh, hp b z, by rw [h1]; exact r, by rw [h2]; exact q⟩⟩
/-- this pair's own -/
theorem pair_of {R1 R3 : Ru} {d1 d2 : WA} (hA : ∀ R ∈ [R1, R3], ∀ d ∈ [d1, d2], RWA R d) {i k : Nat} (hi : i < 2) (hk : k < 2) : ∃ R d, RWA R d ∧ ([tTold R1, tTold R3] : List Ty)[i]? = some (tTold R) ∧ ([tRu K R1, tRu K R3] : List Ty)[i]? = some (tRu K R) ∧ ([tWT d1, tWT d2] : List Ty)[k]? = some (tWT d) ∧ ([tWo K d1.wo, tWo K d2.wo] : List Ty)[k]? = some (tWo K d.wo) := by
  have a1 : R1 ∈ [R1, R3] := List.mem_cons_self
  have a2 : R3 ∈ [R1, R3] := List.mem_cons_of_mem _ List.mem_cons_self
  have b1 : d1 ∈ [d1, d2] := List.mem_cons_self
  have b2 : d2 ∈ [d1, d2] := List.mem_cons_of_mem _ List.mem_cons_self
  match i, k, hi, hk with
  | 0, 0, _, _ => exact ⟨R1, d1, hA _ a1 _ b1, rfl, rfl, rfl, rfl⟩
  | 0, 1, _, _ => exact ⟨R1, d2, hA _ a1 _ b2, rfl, rfl, rfl, rfl⟩
  | 1, 0, _, _ => exact ⟨R3, d1, hA _ a2 _ b1, rfl, rfl, rfl, rfl⟩
  | 1, 1, _, _ => exact ⟨R3, d2, hA _ a2 _ b2, rfl, rfl, rfl, rfl⟩
theorem sc_law : FnScope ["_law_script", "_law_bag_here", "_law_told", "_law_other", "_law_tolds", "_law_worths", "_law_rules", "_law_ones", "_law_rows", "_law_row", "_law_plan", "_law_stretches_here", "_law_i", "_law_k", "_law_known", "_law_made_here", "_law_stretch_here", "_law_due", "_law_one_here", "_law_part", "_law_low"] ["_law_script"] (defScope s_law) := ⟨rfl, rfl, rfl, by decide +kernel, rfl, by decide +kernel, by decide +kernel⟩
abbrev lawN : List Str := ["_law_script", "_law_bag_here", "_law_told", "_law_other", "_law_tolds", "_law_worths", "_law_rules", "_law_ones", "_law_rows", "_law_row", "_law_plan", "_law_stretches_here", "_law_i", "_law_k", "_law_known", "_law_made_here", "_law_stretch_here", "_law_due", "_law_one_here", "_law_part", "_law_low"]
theorem law_tail [S : St] (T : Top K mg) (tk : Tk P w K mg base g) {f : Addr} {cdv : Value} {A : Around} {outer : List Env} {s : Shared} {H0 Hs H : Hp} {E : XK} {D : Ends} {Bs Bg B : Hp} {ns : List Int} {R1 R3 : Ru} {d1 d2 : WA} {rows : List (List Nat)} {s1 s2 : S3} {o9 : Option Ty} {σ : L2.St}
    (hr : Room 19 (A.deeper (envOfC d_law.qual d_law.scope s.heap.objs.size f cdv))) (qt : Quiet (A.deeper (envOfC d_law.qual d_law.scope s.heap.objs.size f cdv)))
    (fin : ∀ v B' H', Nw nF Bs Hs B' H' → (tB true).p B' v → D.rt v H')
    (hA : ∀ R ∈ [R1, R3], ∀ d ∈ [d1, d2], RWA R d) (hpl : PlOk rows) (h9 : ∀ s ∈ lstr rows, s.n ≤ 9) (hs1 : s1.n ≤ 9) (hs2 : s2.n ≤ 6)
    (a : At nF Bs Hs Bg [some (tSc K ns), some (tV (.ref g)), some (tTold R1), some (tTold R3), some (tL [tTold R1, tTold R3]), some (tL [tWT d1, tWT d2]), some (tL [tRu K R1, tRu K R3]), some (tL [tWo K d1.wo, tWo K d2.wo]), some (tL (rows.map tNs)), o9, some (tPl K rows), some (tL [tSt s1, tSt s2]), none, none, none, none, none, none, none, none, none] [] σ B H) :
    RS (cx0 P w K mg base lawN d_law f cdv A outer s H0 E) (d_law.body.drop 9) D σ H := by
  have nd : lawN.Nodup := sc_law.nd
  have C1 := c_mixed T tk
  have C2 := c_tables (P := P) (w := w) (base := base) T
  have C3 := c_sright T tk
  have C4 := c_alike (P := P) (w := w) (base := base) T
  have C5 := c_totals_of (P := P) (w := w) (base := base) T
  have C6 := c_planright (P := P) (w := w) (base := base) T
  refine rs_forE (pr := fun ps : List (Nat × Nat) => ∀ q ∈ ps, q.1 < 2 ∧ q.2 < 2) (xs := fun ps => ps) (τ := tPz) a rfl (el_listE (ts := fun ps : List (Nat × Nat) => ps.map tPz) a (ev_bin op_cat (ev_call C1 (hr.mono (by decide)) rfl (d := [(0, 0), (0, 1), (1, 0), (1, 1)]) (ea_cons (ev_name (i := 1) rfl (.inr (.inl rfl)) rfl) (ea_cons (ev_lst (ea_cons (ev_tup (ea_cons ev_int (ea_cons ev_int ea_nil))) (ea_cons (ev_tup (ea_cons ev_int (ea_cons ev_int ea_nil))) (ea_cons (ev_tup (ea_cons ev_int (ea_cons ev_int ea_nil))) (ea_cons (ev_tup (ea_cons ev_int (ea_cons ev_int ea_nil))) ea_nil))))) ea_nil)) (by decide)) (EvE.is (ev_lst (ea_cons (ev_tup (ea_cons ev_int (ea_cons ev_int ea_nil))) ea_nil)) (t2 := tL ([((0 : Nat), (0 : Nat))].map tPz)) rfl) (Bin.e1 (t3 := tE (fun ps : List (Nat × Nat) => ∀ q ∈ ps, q.1 < 2 ∧ q.2 < 2) fun ps => tL (ps.map tPz)) fun ps hp => Bin.exi (f := fun ps : List (Nat × Nat) => tL (ps.map tPz)) (x := ps ++ [(0, 0)]) (Bin.is (bin_cat (by
      rw [List.length_map, hp.length_eq]
      decide)) (congrArg tL List.map_append.symm)) fun q hq => by
      rcases List.mem_append.mp hq with h | h
      · have h := hp.mem_iff.mp h
        have h4 : ∀ q ∈ [((0 : Nat), (0 : Nat)), (0, 1), (1, 0), (1, 1)], q.1 < 2 ∧ q.2 < 2 := by decide
        exact h4 q h
      · rw [List.mem_singleton.mp h]
        decide)))
    (fun q => (tg_tup rfl (tgs_cons (tg_name (i := 12) nd rfl (.inr rfl)) (tgs_cons (tg_name (i := 13) nd rfl (.inr rfl)) tgs_nil))))
    (fun _ _ Γ C => (∃ o12 o13 o14 o15 o16 o17, Γ = [some (tSc K ns), some (tV (.ref g)), some (tTold R1), some (tTold R3), some (tL [tTold R1, tTold R3]), some (tL [tWT d1, tWT d2]), some (tL [tRu K R1, tRu K R3]), some (tL [tWo K d1.wo, tWo K d2.wo]), some (tL (rows.map tNs)), o9, some (tPl K rows), some (tL [tSt s1, tSt s2]), o12, o13, o14, o15, o16, o17, none, none, none]) ∧ C = [])
    (fun _ _ => ⟨⟨_, _, _, _, _, _, rfl⟩, rfl⟩) (fun ps hps B1 _ i q Γ1 W1 σ B H hi hI a => ?_) fun ps _ Γ1 W1 σ B H _ hI a => ?_
  · obtain ⟨⟨o12, o13, o14, o15, o16, o17, rfl⟩, rfl⟩ := hI
    obtain ⟨hq1, hq2⟩ := hps q (List.mem_of_getElem? hi)
    obtain ⟨R, d, hRW, e1, e2, e3, e4⟩ := pair_of (K := K) hA hq1 hq2
    have hR := hRW.1
    have hF := hRW.2.fits
    have hRF : RW.Ok R d.wo := ⟨hR, hF⟩
    have hWo := wa_ok hRW.2.1
    have e11 : (10 : Int) ^ 11 = 100000000000 := by decide
    have C2 := C2.at' (fun b : Bool => (R, d, 9, b)) (fun _ => True) (fun b _ => ⟨hRW, Nat.le_of_ble_eq_true rfl⟩) (us := fun b => [tTold R, tWT d, nT 9, tB b]) (ts := fun b => tTb R d.wo b 9) (fun _ => rfl) (fun _ => rfl)
    refine rs_setLc (i := 14) (own := [("_law_low", 20)]) (xs := [false, true]) (τ := tB) (p := fun _ => true) (g := fun b => tTb R d.wo b 9) a rfl nd rfl rfl rfl (blkOk_by (N := lawN) (sc := defScope s_law) (by decide +kernel)) (ei_tup (ev_tup (ea_cons ev_bl (ea_cons ev_bl ea_nil)))) (by decide) (by decide) (fun _ _ _ _ _ _ _ => (tg_name (i := 20) nd rfl (.inl rfl))) (fun _ _ _ _ _ _ _ => ets_nil)
      (fun _ _ _ _ _ b _ => fun _ => (ev_call C2 (hr.mono (by decide)) rfl (d := b) (ea_cons (ev_sub ix_list (ev_name (i := 4) (t := tL [tTold R1, tTold R3]) rfl (.inr (.inl rfl)) rfl) (ev_name (i := 12) (t := nT q.1) rfl (.inr (.inl rfl)) rfl) (bin_ixLi (j := q.1) rfl e1)) (ea_cons (ev_sub ix_list (ev_name (i := 5) (t := tL [tWT d1, tWT d2]) rfl (.inr (.inl rfl)) rfl) (ev_name (i := 13) (t := nT q.2) rfl (.inr (.inl rfl)) rfl) (bin_ixLi (j := q.2) rfl e3)) (ea_cons ev_int (ea_cons (ev_name (i := 20) rfl (.inl rfl) rfl) ea_nil)))) trivial)) fun σ B H _ a => ?_
    have ed : tL ((([false, true] : List Bool).filter fun _ => true).map fun b => tTb R d.wo b 9) = tKn R d.wo := rfl
    rw [ed] at a
    refine rs_set (i := 15) (t := tMade K R d.wo) a (EvE.is (ev_tup (ea_cons (ev_sub ix_list (ev_name (i := 6) (t := tL [tRu K R1, tRu K R3]) rfl (.inl rfl) rfl) (ev_name (i := 12) (t := nT q.1) rfl (.inr (.inl rfl)) rfl) (bin_ixLi (j := q.1) rfl e2)) (ea_cons (ev_sub ix_list (ev_name (i := 7) (t := tL [tWo K d1.wo, tWo K d2.wo]) rfl (.inl rfl) rfl) (ev_name (i := 13) (t := nT q.2) rfl (.inr (.inl rfl)) rfl) (bin_ixLi (j := q.2) rfl e4)) ea_nil))) rfl) nd rfl (.inl rfl) fun σ B H _ a => ?_
    have C3 := C3.at' (fun t : S3 => (R, d, t)) (fun t => t.n ≤ 9) (fun t ht => ⟨hRW, ht⟩) (us := fun t => [tV (.ref g), tTold R, tWT d, tMade K R d.wo, tKn R d.wo, tSt t]) (ts := fun _ => tB true) (fun _ => rfl) (fun _ => rfl)
    have C5 := C5.at (R, d.wo, s2) ⟨⟨hRF, hWo⟩, hs2⟩ (us := [tRu K R, tWo K d.wo, tSt s2]) (t := tAsc R d.wo s2) rfl rfl
    have C6 := C6.at (R, d, rows) ⟨hRW, hpl, h9⟩ (us := [tTold R, tWT d, tMade K R d.wo, tKn R d.wo, tL (rows.map tNs), tPl K rows]) (t := tB true) rfl rfl
    refine rs_for (xs := [s1, s2]) (τ := tSt) a rfl (ei_list (ev_name (i := 11) rfl (.inl rfl) rfl)) (fun _ _ => (tg_name (i := 16) nd rfl (.inl rfl)))
      (fun _ Γ C => (∃ o16, Γ = [some (tSc K ns), some (tV (.ref g)), some (tTold R1), some (tTold R3), some (tL [tTold R1, tTold R3]), some (tL [tWT d1, tWT d2]), some (tL [tRu K R1, tRu K R3]), some (tL [tWo K d1.wo, tWo K d2.wo]), some (tL (rows.map tNs)), o9, some (tPl K rows), some (tL [tSt s1, tSt s2]), some (nT q.1), some (nT q.2), some (tKn R d.wo), some (tMade K R d.wo), o16, o17, none, none, none]) ∧ C = []) ⟨⟨_, rfl⟩, rfl⟩ (fun B1 _ j t Γ1 W1 σ B H hj hI a => ?_) fun Γ1 W1 σ B H _ hI a => ?_
    · obtain ⟨⟨o16, rfl⟩, rfl⟩ := hI
      have ht : t.n ≤ 9 := by
        rcases List.mem_cons.mp (List.mem_of_getElem? hj) with z | z
        · rw [z]; exact hs1
        · rw [List.mem_singleton.mp z]; omega
      refine rs_when a (EvT.is (k2 := false) (et_not (et_val (ev_callG C3 (hr.mono (by decide)) qt rfl (d := t) (ea_cons (ev_name (i := 1) rfl (.inr (.inl rfl)) rfl) (ea_cons (ev_sub ix_list (ev_name (i := 4) (t := tL [tTold R1, tTold R3]) rfl (.inr (.inl rfl)) rfl) (ev_name (i := 12) (t := nT q.1) rfl (.inr (.inl rfl)) rfl) (bin_ixLi (j := q.1) rfl e1)) (ea_cons (ev_sub ix_list (ev_name (i := 5) (t := tL [tWT d1, tWT d2]) rfl (.inr (.inl rfl)) rfl) (ev_name (i := 13) (t := nT q.2) rfl (.inr (.inl rfl)) rfl) (bin_ixLi (j := q.2) rfl e3)) (ea_cons (ev_name (i := 15) rfl (.inl rfl) rfl) (ea_cons (ev_name (i := 14) rfl (.inl rfl) rfl) (ea_cons (ev_name (i := 16) rfl (.inl rfl) rfl) ea_nil)))))) ht))) rfl) (fun hb => nomatch hb) fun hb B H _ a => ?_
      exact rs_nil ⟨_, _, B, ⟨⟨_, rfl⟩, rfl⟩, a⟩
    · obtain ⟨⟨o16, rfl⟩, rfl⟩ := hI
      refine rs_set (i := 17) a (ev_lall (R := R) (d := d) (t := s2) (m := 7) T (hr.mono (by decide)) rfl (ev_sub ix_list (ev_name (i := 4) (t := tL [tTold R1, tTold R3]) rfl (.inr (.inl rfl)) rfl) (ev_name (i := 12) (t := nT q.1) rfl (.inr (.inl rfl)) rfl) (bin_ixLi (j := q.1) rfl e1)) (ev_sub ix_list (ev_name (i := 5) (t := tL [tWT d1, tWT d2]) rfl (.inr (.inl rfl)) rfl) (ev_name (i := 13) (t := nT q.2) rfl (.inr (.inl rfl)) rfl) (bin_ixLi (j := q.2) rfl e3)) (ev_sub ix_list (ev_name (i := 11) (t := tL [tSt s1, tSt s2]) rfl (.inl rfl) rfl) ev_int (bin_ixLi (j := 1) rfl rfl)) ⟨hRW, by omega, hs2⟩) nd rfl (.inl rfl) fun σ B H _ a => ?_
      obtain ⟨ys, ⟨hy1, hy2⟩, a⟩ := a.openE 17 rfl
      have hy3 : ∀ x ∈ ys, 0 ≤ x ∧ x ≤ 54 := fun x hx => by
        have h := tots_le hR hWo s2.n s2 (Nat.le_refl _) x ((hy2 x).mp hx)
        omega
      have hyb : ∀ x ∈ ys, 0 ≤ x ∧ x < 10 ^ 11 := fun x hx => by
        have h := hy3 x hx
        omega
      have hyl : ys.length ≤ 54 + 1 := hs_len (m := 54) (hy1.imp fun h => Int.ne_of_lt h) hy3
      have ok1 : (AD.mk (tInts ys) (tInts ys) (dInts ys) (dInts ys) true).Ok := ad_same isd_Ints ((al_ints hyb (by omega)).up (by decide) (by decide)) trivial
      refine rs_when a (EvT.is (k2 := false) (et_not (et_val (ev_callG C4 (hr.mono (by decide)) qt rfl (d := AD.mk _ _ _ _ true) (ea_cons (EvE.to (t2 := tInts ys) (ev_call C5 (hr.mono (by decide)) rfl (d := ()) (ea_cons (ev_sub ix_tup (ev_name (i := 15) (t := tMade K R d.wo) rfl (.inl rfl) rfl) ev_int (bin_ixTi (j := 0) rfl rfl)) (ea_cons (ev_sub ix_tup (ev_name (i := 15) (t := tMade K R d.wo) rfl (.inl rfl) rfl) ev_int (bin_ixTi (j := 1) rfl rfl)) (ea_cons (ev_sub ix_list (ev_name (i := 11) (t := tL [tSt s1, tSt s2]) rfl (.inl rfl) rfl) ev_int (bin_ixLi (j := 1) rfl rfl)) ea_nil))) trivial) fun B v h => by
        obtain ⟨zs, ⟨hz1, hz2⟩, r⟩ : (tAsc R d.wo s2).p B v := h
        rw [asc_ext hy1 hz1 fun x => (hy2 x).trans (hz2 x).symm]
        exact r) (ea_cons (ev_name (i := 17) (t := tInts ys) rfl (.inl rfl) rfl) ea_nil)) ok1))) rfl) (fun hb => nomatch hb) fun hb B H _ a => ?_
      refine rs_when a (EvT.is (k2 := false) (et_not (et_val (ev_callG C6 (hr.mono (by decide)) qt rfl (d := ()) (ea_cons (ev_sub ix_list (ev_name (i := 4) (t := tL [tTold R1, tTold R3]) rfl (.inr (.inl rfl)) rfl) (ev_name (i := 12) (t := nT q.1) rfl (.inr (.inl rfl)) rfl) (bin_ixLi (j := q.1) rfl e1)) (ea_cons (ev_sub ix_list (ev_name (i := 5) (t := tL [tWT d1, tWT d2]) rfl (.inr (.inl rfl)) rfl) (ev_name (i := 13) (t := nT q.2) rfl (.inr (.inl rfl)) rfl) (bin_ixLi (j := q.2) rfl e3)) (ea_cons (ev_name (i := 15) rfl (.inl rfl) rfl) (ea_cons (ev_name (i := 14) rfl (.inl rfl) rfl) (ea_cons (ev_name (i := 8) rfl (.inl rfl) rfl) (ea_cons (ev_name (i := 10) rfl (.inl rfl) rfl) ea_nil)))))) trivial))) rfl) (fun hb => nomatch hb) fun hb B H _ a => ?_
      exact rs_nil ⟨_, _, B, ⟨⟨_, _, _, _, _, _, rfl⟩, rfl⟩, a⟩
  · obtain ⟨⟨o12, o13, o14, o15, o16, o17, rfl⟩, rfl⟩ := hI
    exact rs_ret a ev_bl fun v B' H' _ a' r => fin v B' H' a'.n r
end
end Ls
set_option maxHeartbeats 4000000 -- Vk
/-! law: the bag goes into the invariant -/
namespace Ls
open PySem Spec PyProof.Rows L2
/-- a list of plain values is no own dict -/
theorem cl_L {W : Cells} {B B' : Hp} {xs : List V} (hW : ∀ c ∈ W, ∃ o, B' c.1 = some o ∧ ∀ ys, o ≠ .lst ys) : Cl W B B' (tL (xs.map tV)) := fun v ⟨a, vs, e, h, r⟩ => by
  refine ⟨a, vs, e, ?_, ?_⟩
  · unfold uz
    rw [if_neg fun z => by
      obtain ⟨c, hc, e2⟩ := List.mem_map.mp z.2
      obtain ⟨o, h1, h2⟩ := hW c hc
      rw [e2, h] at h1
      cases h1
      exact h2 _ rfl]
    exact h
  · have core : ∀ {xs vs : List V}, Tys B' (xs.map tV) vs → Tys (uz W B B') (xs.map tV) vs := fun {xs} => by
      induction xs with
      | nil => intro vs r; cases r; exact .nil
      | cons x xs ih =>
        intro vs r
        cases r with
        | cons a r => exact .cons a (ih r)
    exact core r
section
variable [J : Iv] {P : Program} {w : World} {K : PySem.W.Frag} {mg : Str → Option Value} {base : Heap}
theorem cl_Ns {W : Cells} {B B' : Hp} {ys : List Nat} (hW : ∀ c ∈ W, ∃ o, B' c.1 = some o ∧ ∀ ys, o ≠ .lst ys) : Cl W B B' (tNs ys) := by
  have h := cl_L (B := B) (xs := ys.map fun n : Nat => V.int (n : Int)) hW
  rw [List.map_map] at h
  exact h
theorem cl_Is {W : Cells} {B B' : Hp} {ys : List Int} (hW : ∀ c ∈ W, ∃ o, B' c.1 = some o ∧ ∀ ys, o ≠ .lst ys) : Cl W B B' (tL (ys.map tI)) := by
  have h := cl_L (B := B) (xs := ys.map fun n : Int => V.int n) hW
  rw [List.map_map] at h
  exact h
theorem two_nl {F : Addr → Prop} {B0 H0 Bg : Hp} {Γ : Ctx} {σ : L2.St} {B H B' : Hp} {l1 l2 : Addr} {p1 p2 : List (Key × Ty)} (a : At F B0 H0 Bg Γ [(l1, oDK p1), (l2, oDK p2)] σ B H) (hs : Same (fz [(l1, oDK p1), (l2, oDK p2)] B H) B') : ∀ c ∈ ([(l1, oDK p1), (l2, oDK p2)] : Cells), ∃ o, B' c.1 = some o ∧ ∀ ys, o ≠ .lst ys := fun c hc => by
  obtain ⟨o, h1, h2⟩ := a.fzl (l := c.1) (ot := c.2) hc
  refine ⟨o, hs _ _ h1, fun ys e => ?_⟩
  rcases List.mem_cons.mp hc with z | hc
  · rw [z] at h2
    obtain ⟨kvs, e2, _⟩ := h2
    rw [e] at e2
    cases e2
  · rw [List.mem_singleton.mp hc] at h2
    obtain ⟨kvs, e2, _⟩ := h2
    rw [e] at e2
    cases e2
theorem At.openDK {F : Addr → Prop} {B0 H0 Bg : Hp} {Γ : Ctx} {W : Cells} {σ : L2.St} {B H : Hp} {l : Addr} {α : Type} {k : Key} {p : α → Prop} {f : α → Ty} {ps : List (Key × Ty)} (a : At F B0 H0 Bg Γ ((l, oDK ((k, tE p f) :: ps)) :: W) σ B H) : ∃ x, p x ∧ At F B0 H0 Bg Γ ((l, oDK ((k, f x) :: ps)) :: W) σ B H := by
  obtain ⟨h1, h2, o, h3, kvs, e, r⟩ := a.cell
  cases r with
  | cons r1 r =>
    obtain ⟨x, hx, r1⟩ := r1
    refine ⟨x, hx, a.s, a.n, a.g, fun q hq => ?_, a.o.apart⟩
    rcases List.mem_cons.mp hq with z | hq
    · rw [z]; exact ⟨h1, h2, o, h3, _, e, .cons r1 r⟩
    · exact a.o.each q (List.mem_cons_of_mem _ hq)
theorem At.rdD2 {F : Addr → Prop} {B0 H0 Bg : Hp} {Γ : Ctx} {W : Cells} {σ : L2.St} {B H : Hp} {l m : Addr} {i j : Nat} {p1 p2 : List (Key × Ty)} (a : At F B0 H0 Bg Γ W σ B H) (h : (l, oDK p1) ∈ W) (hi : Γ[i]? = some (some (tV (.ref l)))) (h' : (m, oDK p2) ∈ W) (hj : (Γ.set i (some (tDrK p1)))[j]? = some (some (tV (.ref m)))) : SOk ((Γ.set i (some (tDrK p1))).set j (some (tDrK p2))) (fz W B H) σ := by
  obtain ⟨o, h1, kvs, e1, r3⟩ := a.fzl h'
  subst e1
  exact SOk.re (s := a.rdD h hi) hj ⟨m, kvs, rfl, .inl h1, r3⟩
/-- x, y = e, b: both make a cell -/
theorem rs_parNN {X : Cx} {F : Addr → Prop} {B0 H0 Bg : Hp} {Γ : Ctx} {W : Cells} {σ : L2.St} {B H : Hp} {D : Ends} {rest : List Stmt} {e : Expr} {x : Str} {i : Nat} {pos : Pos} {ot ot2 : OT} {j : Nat} {y : Str} {b : Expr} {px py pt pt2 : Pos} {kt k2 : Nat} (st : At F B0 H0 Bg Γ W σ B H) (h1 : EvN X Γ e ot) (h2 : EvN X Γ b ot2) (hc : X.calm = true) (hN : X.N.Nodup) (hi : X.N[i]? = some x) (hj : X.N[j]? = some y) (hij : i ≠ j)
    (hx : X.env.scope.names.lookup x = some .local) (hy : X.env.scope.names.lookup y = some .local) (k : ∀ l l2 σ' B' H', Same B B' → H0 l = none → H0 l2 = none → At F B0 H0 Bg ((Γ.set i (some (tV (.ref l)))).set j (some (tV (.ref l2)))) ((l2, ot2) :: (l, ot) :: W) σ' B' H' → RS X rest D σ' H')
    (hw : swappedStores [.Tuple [.Name x px, .Name y py] kt pt] (.Tuple [e, b] k2 pt2) X.env = pure (some [x, y]) := by rfl) (hs : swapsWithSole [.Tuple [.Name x px, .Name y py] kt pt] (.Tuple [e, b] k2 pt2) pos.line X.env = pure false := by rfl)
    (s1 : starEach [e, b] X.env = (false, eval e X.env) :: starEach [b] X.env := by rfl) (s2 : starEach [b] X.env = (false, eval b X.env) :: starEach [] X.env := by rfl) :
    RS X (.Assign [.Tuple [.Name x px, .Name y py] kt pt] (.Tuple [e, b] k2 pt2) pos :: rest) D σ H :=
  rs_ps (ps_par hc hN hi hj hij hx hy (pa_cons pe_c (pa_cons pe_c pa_nil s2) s1) hw hs) (h1 σ B H st.s st.n.bh _ fun l B1 H1 n1 bl f hl o => by
    have a1 := st.addc n1 bl f hl o
    exact h2 σ B1 H1 a1.s a1.n.bh _ fun l2 B2 H2 n2 bl2 f2 hl2 o2 => ⟨_, _, rfl, k l l2 _ B2 H2 (n1.trans n2).bb (st.n.fresh hl) (a1.n.fresh hl2) (((a1.addc n2 bl2 f2 hl2 o2).set i (t := tV (.ref l)) rfl).set j (t := tV (.ref l2)) rfl)⟩)
theorem At.openW {F : Addr → Prop} {B0 H0 Bg : Hp} {Γ : Ctx} {W : Cells} {σ : L2.St} {B H : Hp} {α : Type} {p : α → Prop} {f : α → Ty} (i : Nat) (a : At F B0 H0 Bg Γ W σ B H) (h : Γ[i]? = some (some (tL [tE p f, tE p f]))) : ∃ x y, p x ∧ p y ∧ At F B0 H0 Bg (Γ.set i (some (tL [f x, f y]))) W σ B H := by
  obtain ⟨v, h1, l, vs, e, hb, r⟩ := a.s.2 i _ h
  have hv : ∃ x y, p x ∧ p y ∧ (tL [f x, f y]).p B v := by
    cases r with
    | cons r1 r =>
      cases r with
      | cons r2 r =>
        cases r
        obtain ⟨x, hx, r1⟩ := r1
        obtain ⟨y, hy, r2⟩ := r2
        exact ⟨x, y, hx, hy, l, _, e, hb, .cons r1 (.one r2)⟩
  obtain ⟨x, y, hx, hy, hv⟩ := hv
  refine ⟨x, y, hx, hy, a.ctx ?_⟩
  have e := a.s.set i hv
  have e2 : σ.set i (some v) = σ := by
    refine List.ext_getElem? fun j => ?_
    rw [List.getElem?_set]
    by_cases hj : i = j
    · subst hj
      obtain ⟨hl, _⟩ := List.getElem?_eq_some_iff.mp h1
      rw [if_pos rfl, if_pos hl, h1]
    · rw [if_neg hj]
  rw [e2] at e
  exact e
theorem At.openW2 {F : Addr → Prop} {B0 H0 Bg : Hp} {Γ : Ctx} {W : Cells} {σ : L2.St} {B H : Hp} {α β : Type} {p : α → Prop} {f : α → Ty} {q : β → Prop} {h : β → Ty} (i : Nat) (a : At F B0 H0 Bg Γ W σ B H) (hi : Γ[i]? = some (some (tL [tE p f, tE q h]))) : ∃ x y, p x ∧ q y ∧ At F B0 H0 Bg (Γ.set i (some (tL [f x, h y]))) W σ B H := by
  obtain ⟨v, h1, l, vs, e, hb, r⟩ := a.s.2 i _ hi
  have hv : ∃ x y, p x ∧ q y ∧ (tL [f x, h y]).p B v := by
    cases r with
    | cons r1 r =>
      cases r with
      | cons r2 r =>
        cases r
        obtain ⟨x, hx, r1⟩ := r1
        obtain ⟨y, hy, r2⟩ := r2
        exact ⟨x, y, hx, hy, l, _, e, hb, .cons r1 (.one r2)⟩
  obtain ⟨x, y, hx, hy, hv⟩ := hv
  refine ⟨x, y, hx, hy, a.ctx ?_⟩
  have e := a.s.set i hv
  have e2 : σ.set i (some v) = σ := by
    refine List.ext_getElem? fun j => ?_
    rw [List.getElem?_set]
    by_cases hj : i = j
    · subst hj
      obtain ⟨hl, _⟩ := List.getElem?_eq_some_iff.mp h1
      rw [if_pos rfl, if_pos hl, h1]
    · rw [if_neg hj]
  rw [e2] at e
  exact e
omit [Iv] in
theorem tys_E {α β : Type} {q : β → Prop} {f : β → Ty} {B : Hp} : ∀ {xs : List α} {vs : List V}, Tys B (xs.map fun _ => tE q f) vs → ∃ ys : List β, ys.length = xs.length ∧ (∀ y ∈ ys, q y) ∧ Tys B (ys.map f) vs
  | [], _, .nil => ⟨[], rfl, fun y hy => (nomatch hy), .nil⟩
  | x :: xs, _, .cons ⟨y, hy, r1⟩ r => by
    obtain ⟨ys, h1, h2, h3⟩ := tys_E (xs := xs) r
    refine ⟨y :: ys, by rw [List.length_cons, List.length_cons, h1], fun z hz => ?_, .cons r1 h3⟩
    rcases List.mem_cons.mp hz with e | hz
    · rw [e]; exact hy
    · exact h2 z hz
omit [Iv] in
theorem row_of {c : Nat} (hc : 1 ≤ c ∧ c ≤ 2) {B : Hp} {v : V} (h : (tL ((List.range c).map fun _ => tE (fun x : Nat => 1 ≤ x ∧ x ≤ 9) nT)).p B v) : (tE (fun r : List Nat => (1 ≤ r.length ∧ r.length ≤ 2) ∧ ∀ x ∈ r, 1 ≤ x ∧ x ≤ 9) tNs).p B v := by
  obtain ⟨a, vs, e, h, r⟩ := h
  obtain ⟨ys, h1, h2, h3⟩ := tys_E r
  rw [List.length_range] at h1
  exact ⟨ys, ⟨by omega, h2⟩, a, vs, e, h, h3⟩
omit [Iv] in
theorem sum_upto {m : Nat} : ∀ {xs : List Nat}, (∀ x ∈ xs, x ≤ m) → xs.sum ≤ xs.length * m
  | [], _ => Nat.zero_le _
  | x :: xs, h => by
    have h1 := h x List.mem_cons_self
    have h2 := sum_upto (xs := xs) fun y hy => h y (List.mem_cons_of_mem _ hy)
    rw [List.sum_cons, List.length_cons, Nat.add_mul]
    omega
omit [Iv] in
theorem rows_plok {rows : List (List Nat)} (hl : 1 ≤ rows.length ∧ rows.length ≤ 2) (h : ∀ r ∈ rows, (1 ≤ r.length ∧ r.length ≤ 2) ∧ ∀ x ∈ r, 1 ≤ x ∧ x ≤ 9) : PlOk rows := by
  refine ⟨by omega, fun r hr => ⟨by have := (h r hr).1; omega, fun x hx => by have := (h r hr).2 x hx; omega⟩, ?_⟩
  have h1 := sum_upto (m := 18) (xs := rows.map List.sum) fun y hy => by
    obtain ⟨r, hr, e⟩ := List.mem_map.mp hy
    have h2 := sum_upto (m := 9) (xs := r) fun x hx => ((h r hr).2 x hx).2
    have h3 := (h r hr).1
    rw [← e]
    have h4 : r.length * 9 ≤ 2 * 9 := Nat.mul_le_mul_right _ h3.2
    omega
  rw [List.length_map] at h1
  have h4 : rows.length * 18 ≤ 2 * 18 := Nat.mul_le_mul_right _ hl.2
  omega
omit [Iv] in
theorem lstr_n {rows : List (List Nat)} {m : Nat} (h : ∀ r ∈ rows, ∀ x ∈ r, x ≤ m) : ∀ s ∈ lstr rows, s.n ≤ m := fun s hs => by
  unfold lstr at hs
  obtain ⟨r, hr, hs⟩ := List.mem_flatMap.mp hs
  obtain ⟨q, hq, e⟩ := List.mem_map.mp hs
  have hm : q.2.n ∈ (rowStr r).map (·.2.n) := List.mem_map.mpr ⟨q, hq, rfl⟩
  rw [rowStr_ns] at hm
  rw [← e]
  exact h r hr _ hm
omit [Iv] in
theorem rwa_all {R1 R3 : Ru} {d1 d2 : WA} (hT : R1.Ok) (hO : R3.Ok) (hsub : ∀ n ∈ R1.sizes, n ∈ R3.sizes) (h1 : WFit R1 d1) (h2 : WFit R1 d2) : ∀ R ∈ [R1, R3], ∀ d ∈ [d1, d2], RWA R d := fun R hR d hd => by
  have hf : WFit R1 d := by
    rcases List.mem_cons.mp hd with e | hd
    · rw [e]; exact h1
    · rw [List.mem_singleton.mp hd]; exact h2
  rcases List.mem_cons.mp hR with e | hR
  · rw [e]; exact ⟨hT, hf⟩
  · rw [List.mem_singleton.mp hR]; exact ⟨hO, hf.up hsub⟩
theorem c_law [S : St] (T : Top K mg) : CalG P w K mg base "law" 20 (spF (α := List Int) (fun ns => [tSc K ns]) (fun _ => True) (fun _ => tB true)) := by
  have nd := sc_law.nd
  have C1 := c_bag (P := P) (w := w) (base := base) T
  refine cal_G T.f_law T.g_law sc_law (fun _ _ _ _ _ _ us hl => match us, hl with | [_], _ => rfl) (fun _ => rfl) (by decide) fun f cdv cd A outer s H0 E ns B0 σ D hr qt hp a k hn => ?_
  have k : ∀ v B H, Nw nF B0 H0 B H → (tB true).p B v → D.rt v H := k
  refine rs_setN (i := 1) a (en_call C1 (hr.mono (by decide)) rfl (d := ns) (ea_cons (ev_name (i := 0) rfl (.inl rfl) rfl) ea_nil) trivial) nd rfl (.inr rfl) fun g σ B H s1 hg0 a => ?_
  obtain ⟨b, hb, a⟩ := a.openC
  have bg : BgAt g b B H := ⟨a.cell.2.1.1, a.cell.2.1.2, a.cell.2.2⟩
  have smj := sm_jg a.n.bh hb bg
  have tk := tk_jg (P := P) (w := w) (base := base) T g
  have stj : @Ls.St (Jg g) := stJg
  have fin : ∀ v B' H', @Nw (Jg g) nF B H B' H' → (tB true).p B' v → D.rt v H' := fun v B' H' n r => k v B' H' (a.n.transF (jg_nw n) fun y hy => by
    rw [hy]
    exact .inr hg0) r
  have st := a.s
  clear k a hb bg
  revert st smj tk stj fin
  generalize Jg g = jg
  intro smj tk stj fin st
  have a : At nF B H B _ [] σ B H := ⟨st, .refl smj, Same.refl B, ⟨fun _ z => (nomatch z), List.nodup_nil⟩⟩
  clear st smj
  have C2 := c_rule T tk
  refine rs_parNN (i := 2) (j := 3) a (en_call C2 (hr.mono (by decide)) rfl (d := ()) (ea_cons (ev_name (i := 1) rfl (.inr (.inl rfl)) rfl) ea_nil) trivial) (en_call C2 (hr.mono (by decide)) rfl (d := ()) (ea_cons (ev_name (i := 1) rfl (.inr (.inl rfl)) rfl) ea_nil) trivial) rfl nd rfl rfl (by decide) rfl rfl fun l1 l2 σ B H s1 h1 h2 a => ?_
  obtain ⟨R2, hR2, a⟩ := a.openC
  obtain ⟨R1, hR1, a⟩ := (a.perm (List.Perm.swap _ _ _)).openC
  refine rs_dputS (key := .inr "sizes") (t := tNs (R1.sizes.take 3)) hr a (evs_pure a (a.rdD (l := l1) (i := 2) List.mem_cons_self rfl) (letI : Iv := Jb; EvE.is (ev_sliceL (ts := R1.sizes.map nT) (ev_dgetRx (ps := toldPs R1) (key := .inr "sizes") (t := tNs R1.sizes) hr (ev_name (i := 2) (t := tDrK (toldPs R1)) rfl (.inl rfl) rfl) ev_str rfl) eo_none (eo_some (ev_int (i := 3)))) (congrArg tL ((cut_to (k := 3)).trans List.map_take.symm))) fun B' hs => cl_Ns (two_nl a hs)) (ev_name (i := 2) rfl (.inl rfl) rfl) ev_str (.refl _) (Nat.le_of_ble_eq_true rfl) fun B H s1 a => ?_
  have a : At nF _ _ _ _ [(l1, oDK (toldPs R1.cut3)), (l2, oDK (toldPs R2))] σ B H := a
  have hT := cut3_ok hR1
  generalize R1.cut3 = R1 at a hT
  have hlen : ((R2.sizes.take 1 ++ R1.sizes).map fun n : Nat => (n : Int)).length ≤ 20 := by
    rw [List.length_map, List.length_append, List.length_take]
    have := hT.sz.len
    omega
  have hM : ∀ ys : List Int, ys.Nodup → (∀ y ∈ ys, y ∈ (R2.sizes.take 1 ++ R1.sizes).map fun n : Nat => (n : Int)) → ys.length ≤ 20 := fun ys hn hm => by
    have := hs_len (m := 5) hn fun x hx => by
      obtain ⟨n, hn', e⟩ := List.mem_map.mp (hm x hx)
      have : 1 ≤ n ∧ n ≤ 5 := by
        rcases List.mem_append.mp hn' with z | z
        · exact hR2.sz.2 n (List.mem_of_mem_take z)
        · exact hT.sz.2 n z
      omega
    omega
  refine rs_dputS (l := l2) (key := .inr "sizes") (t := tE (fun ys : List Int => ys.Pairwise (· < ·) ∧ ∀ x, x ∈ ys ↔ x ∈ (R2.sizes.take 1 ++ R1.sizes).map fun n : Nat => (n : Int)) fun ys => tL (ys.map tI)) hr a (evs_pure a (a.rdD2 (l := l1) (m := l2) (i := 2) (j := 3) List.mem_cons_self rfl (List.mem_cons_of_mem _ List.mem_cons_self) rfl) (letI : Iv := Jb; ev_callB (cr_sortedSet rfl) rfl T.b_sorted bt_sorted (ea_cons (ev_callTy (cr_setJ rfl) rfl T.b_set bt_set (ea_cons (EvE.is (ev_bin op_cat (ev_sliceL (ts := R2.sizes.map nT) (ev_dgetRx (ps := toldPs R2) (key := .inr "sizes") (t := tNs R2.sizes) hr (ev_name (i := 3) (t := tDrK (toldPs R2)) rfl (.inl rfl) rfl) ev_str rfl) eo_none (eo_some (ev_int (i := 1)))) (ev_dgetRx (ps := toldPs R1) (key := .inr "sizes") (t := tNs R1.sizes) hr (ev_name (i := 2) (t := tDrK (toldPs R1)) rfl (.inl rfl) rfl) ev_str rfl) (bin_cat (by rw [show (1 : Int) = ((1 : Nat) : Int) from rfl, cut_to, List.length_take, List.length_map, List.length_map]; have := hT.sz.len; omega))) (by rw [show (1 : Int) = ((1 : Nat) : Int) from rfl, cut_to, ← List.map_take, ← List.map_append, nat_tys])) ea_nil) (cb_setJ (M := 20) (by omega) hM)) ea_nil) (cb_sortedSetE (by decide))) fun B' hs => cl_E fun ys _ => cl_Is (two_nl a hs)) (ev_name (i := 3) rfl (.inl rfl) rfl) ev_str (List.Perm.swap _ _ _) (Nat.le_of_ble_eq_true rfl) fun B H s1 a => ?_
  obtain ⟨ys, ⟨hy1, hy2⟩, a⟩ := a.openDK
  obtain ⟨zs, e, hz1, hz2⟩ := asc_nats hy1 hy2
  obtain ⟨hO, hsub⟩ := other_ok hR2 hT hz1 hz2
  subst e
  rw [show tL ((zs.map fun n : Nat => (n : Int)).map tI) = tNs zs from congrArg tL (nat_tys zs).symm] at a
  have a : At nF _ _ _ _ [(l2, oDK (toldPs ({ R2 with sizes := zs } : Ru))), (l1, oDK (toldPs R1))] σ B H := a
  have hsub : ∀ n ∈ R1.sizes, n ∈ ({ R2 with sizes := zs } : Ru).sizes := hsub
  generalize ({ R2 with sizes := zs } : Ru) = R3 at a hO hsub
  refine rs_lockD (i := 3) a h2 rfl fun B H s1 a => ?_
  refine rs_lockD (i := 2) a h1 rfl fun B H s1 a => ?_
  have C3 := c_worth T tk
  refine rs_asg a (ev_tup (ea_cons (ev_lst (ea_cons (ev_name (i := 2) (t := tTold R1) rfl (.inl rfl) rfl) (ea_cons (ev_name (i := 3) (t := tTold R3) rfl (.inl rfl) rfl) ea_nil))) (ea_cons (ev_lst (ea_cons (ev_call C3 (hr.mono (by decide)) rfl (d := R1) (ea_cons (ev_name (i := 1) rfl (.inr (.inl rfl)) rfl) (ea_cons (ev_name (i := 2) rfl (.inl rfl) rfl) ea_nil)) hT) (ea_cons (ev_call C3 (hr.mono (by decide)) rfl (d := R1) (ea_cons (ev_name (i := 1) rfl (.inr (.inl rfl)) rfl) (ea_cons (ev_name (i := 2) rfl (.inl rfl) rfl) ea_nil)) hT) ea_nil))) ea_nil))) (tg_tup rfl (tgs_cons (tg_name (i := 4) nd rfl (.inr rfl)) (tgs_cons (tg_name (i := 5) nd rfl (.inr rfl)) tgs_nil))) fun σ B H s1 a => ?_
  obtain ⟨d1, d2, hd1, hd2, a⟩ := a.openW 5 rfl
  have C4 := c_made (P := P) (w := w) (base := base) T
  have C5 := c_worth_made (P := P) (w := w) (base := base) T
  refine rs_setLc (i := 6) (own := [("_law_one_here", 18)]) (xs := [R1, R3]) (τ := tTold) (p := fun _ => true) (g := fun R => tRu K R) a rfl nd rfl rfl rfl (blkOk_by (N := ["_law_script", "_law_bag_here", "_law_told", "_law_other", "_law_tolds", "_law_worths", "_law_rules", "_law_ones", "_law_rows", "_law_row", "_law_plan", "_law_stretches_here", "_law_i", "_law_k", "_law_known", "_law_made_here", "_law_stretch_here", "_law_due", "_law_one_here", "_law_part", "_law_low"]) (sc := defScope s_law) (by decide +kernel)) (ei_list (ev_name (i := 4) rfl (.inr (.inl rfl)) rfl)) (by decide) (Nat.le_of_ble_eq_true rfl) (fun _ _ _ _ _ _ _ => (tg_name (i := 18) nd rfl (.inl rfl))) (fun _ _ _ _ _ _ _ => ets_nil)
    (fun _ _ _ _ _ R hR => fun _ => (ev_call C4 (hr.mono (by decide)) rfl (d := R) (ea_cons (ev_name (i := 18) rfl (.inl rfl) rfl) ea_nil) (by
      rcases List.mem_cons.mp hR with z | z
      · exact z ▸ hT
      · exact (List.mem_singleton.mp z) ▸ hO))) fun σ B H s1 a => ?_
  refine rs_parN2 (i := 7) (j := 8) a (ev_lc (own := [("_law_one_here", 18)]) (xs := [d1, d2]) (τ := tWT) (p := fun _ => true) (g := fun d => tWo K d.wo) rfl nd (blkOk_by (N := ["_law_script", "_law_bag_here", "_law_told", "_law_other", "_law_tolds", "_law_worths", "_law_rules", "_law_ones", "_law_rows", "_law_row", "_law_plan", "_law_stretches_here", "_law_i", "_law_k", "_law_known", "_law_made_here", "_law_stretch_here", "_law_due", "_law_one_here", "_law_part", "_law_low"]) (sc := defScope s_law) (by decide +kernel)) (ei_list (ev_name (i := 5) rfl (.inr (.inl rfl)) rfl)) (by decide) (Nat.le_of_ble_eq_true rfl) (fun _ _ _ _ _ _ _ => (tg_name (i := 18) nd rfl (.inl rfl))) (fun _ _ _ _ _ _ _ => ets_nil)
    (fun _ _ _ _ _ d hd => fun _ => (ev_call C5 (hr.mono (by decide)) rfl (d := d) (ea_cons (ev_name (i := 18) rfl (.inl rfl) rfl) ea_nil) (by
      rcases List.mem_cons.mp hd with z | z
      · exact z ▸ hd1.1
      · exact (List.mem_singleton.mp z) ▸ hd2.1)))) (en_lst ea_nil) rfl nd rfl rfl (by decide) rfl rfl fun l σ B H s1 hl a => ?_
  have tk2 := tk
  unfold Tk at tk2
  have C6 := c_stretch T tk
  refine rs_forE (pr := fun c : Nat => 1 ≤ c ∧ c ≤ 2) (xs := fun c => List.range c) (τ := nT) a rfl (fun R q => ei_rngE rfl T.b_range (ev_bin op_add ev_int (ev_call tk2 (hr.mono (by decide)) rfl (d := 2) (ea_cons (ev_name (i := 1) rfl (.inr (.inl rfl)) rfl) (ea_cons ev_int ea_nil)) ⟨by decide, by decide⟩) (Bin.e2 (t3 := tE (fun c : Nat => 1 ≤ c ∧ c ≤ 2) nT) fun r hr => Bin.exi (f := nT) (x := 1 + r) (Bin.is bin_I0 (congrArg tI (by omega))) ⟨by omega, by omega⟩)) (fun n hn => by omega) a.s a.n.bh q) (fun _ => (tg_name (i := 9) nd rfl (.inl rfl)))
    (fun c i Γ C => (∃ o9, Γ = [some (tSc K ns), some (tV (.ref g)), some (tTold R1), some (tTold R3), some (tL [tTold R1, tTold R3]), some (tL [tWT d1, tWT d2]), some (tL [tRu K R1, tRu K R3]), some (tL [tWo K d1.wo, tWo K d2.wo]), some (tV (.ref l)), o9, none, none, none, none, none, none, none, none, none, none, none]) ∧ ∃ rows : List (List Nat), C = [(l, oL (rows.map tNs))] ∧ rows.length = i ∧ ∀ r ∈ rows, (1 ≤ r.length ∧ r.length ≤ 2) ∧ ∀ x ∈ r, 1 ≤ x ∧ x ≤ 9)
    (fun c _ => ⟨⟨_, rfl⟩, [], rfl, rfl, fun r hr => nomatch hr⟩) (fun c hc B1 _ i x Γ1 W1 σ B H hi hI a => ?_) fun c hc Γ1 W1 σ B H _ hI a => ?_
  · obtain ⟨⟨o9, rfl⟩, rows, rfl, hl9, hrow⟩ := hI
    obtain ⟨hil, _⟩ := List.getElem?_eq_some_iff.mp hi
    rw [List.length_range] at hil
    refine rs_append (t := tE (fun r : List Nat => (1 ≤ r.length ∧ r.length ≤ 2) ∧ ∀ x ∈ r, 1 ≤ x ∧ x ≤ 9) tNs) a (ev_name (i := 8) rfl (.inl rfl) rfl) (.refl _) (ev_lcE (own := [("_law_part", 19)]) (pr := fun c : Nat => 1 ≤ c ∧ c ≤ 2) (xs := fun c => List.range c) (τ := nT) (g := fun _ => tE (fun x : Nat => 1 ≤ x ∧ x ≤ 9) nT) rfl nd (blkOk_by (N := lawN) (sc := defScope s_law) (by decide +kernel)) (fun σ B H s bh R q => ei_rngE rfl T.b_range (ev_bin op_add ev_int (ev_call tk2 (hr.mono (by decide)) rfl (d := 2) (ea_cons (ev_name (i := 1) rfl (.inr (.inl rfl)) rfl) (ea_cons ev_int ea_nil)) ⟨by decide, by decide⟩) (Bin.e2 (t3 := tE (fun c : Nat => 1 ≤ c ∧ c ≤ 2) nT) fun r hr => Bin.exi (f := nT) (x := 1 + r) (Bin.is bin_I0 (congrArg tI (by omega))) ⟨by omega, by omega⟩)) (fun n hn => by omega) s bh q) (by decide) (fun c hc => by rw [List.length_range]; omega) (fun _ _ _ _ _ _ => (tg_name (i := 19) nd rfl (.inl rfl))) (fun _ _ _ _ _ _ => (ev_bin op_add ev_int (ev_call tk2 (hr.mono (by decide)) rfl (d := 9) (ea_cons (ev_name (i := 1) rfl (.inr (.inl rfl)) rfl) (ea_cons ev_int ea_nil)) ⟨by decide, by decide⟩) (Bin.e2 (t3 := tE (fun x : Nat => 1 ≤ x ∧ x ≤ 9) nT) fun r hr => Bin.exi (f := nT) (x := 1 + r) (Bin.is bin_I0 (congrArg tI (by omega))) ⟨by omega, by omega⟩))) (fun c hc B v h => row_of hc h)) (by rw [List.length_map]; omega) (fun B H _ a => ?_) (he := rfl) (hs := rfl) (hm := pe_bm PySem.F.plainAttrs_list PySem.F.slot_list_append PySem.F.type_list_append mt_append pe_c pa_c)
    obtain ⟨r, hr9, a⟩ := a.openL
    refine rs_nil ⟨_, _, B, ⟨⟨_, rfl⟩, rows ++ [r], rfl, by rw [List.length_append, hl9]; rfl, fun z hz => ?_⟩, a.cs (by rw [List.map_append]; rfl)⟩
    rcases List.mem_append.mp hz with h | h
    · exact hrow z h
    · rw [List.mem_singleton.mp h]
      exact hr9
  · obtain ⟨⟨o9, rfl⟩, rows, rfl, hl9, hrow⟩ := hI
    rw [List.length_range] at hl9
    obtain ⟨B1, b1, a⟩ := a.frzL hl (i := 8) rfl
    have hpl := rows_plok (by omega) hrow
    have h9 := lstr_n fun r hr x hx => ((hrow r hr).2 x hx).2
    refine rs_par (i := 10) (j := 11) a (ea_cons (ev_plan T (hr.mono (by decide)) rfl (ea_cons (ev_name (i := 8) rfl (.inl rfl) rfl) ea_nil) hpl) (ea_cons (ev_lst (ea_cons (ev_call C6 (hr.mono (by decide)) rfl (d := 9) (ea_cons (ev_name (i := 1) rfl (.inr (.inl rfl)) rfl) (ea_cons ev_int ea_nil)) (by decide)) (ea_cons (ev_call C6 (hr.mono (by decide)) rfl (d := 6) (ea_cons (ev_name (i := 1) rfl (.inr (.inl rfl)) rfl) (ea_cons ev_int ea_nil)) (by decide)) ea_nil))) ea_nil)) rfl nd rfl rfl (by decide) rfl rfl fun σ B H _ a => ?_
    obtain ⟨t1, t2, ht1, ht2, a⟩ := a.openW2 11 rfl
    exact law_tail T tk hr qt fin (rwa_all hT hO hsub hd1 hd2) hpl h9 ht1 ht2 a
end
end Ls
set_option maxHeartbeats 4000000 -- FinA
/-! the end: the law's promise, kept by a def that is called while no repr is under way -/
namespace Ls
open PySem Spec PyProof.Rows L2
section
variable {P : Program} {w : World} {K : PySem.W.Frag} {mg mb : Str → Option Value}
/-- a heap for the walk: it holds the script alone, if that is none of the module's objects -/
theorem some_H {a : Addr} {vs : List Value} {ns : List Int} {s₁ : Shared} (KX : K.In s₁.heap) (ha : s₁.heap.get? a = some { cls := .type "list", data := .seq vs.toArray }) (rv : Vals (ns.map V.int) vs) (lv : vs.length = ns.length) (hl : ns.length ≤ sizeLine) :
    ∃ H : Hp, Only H ∧ SqL K H a (ns.map V.int) ∧ L2.HOk P w H s₁.heap ∧ (∀ b, H b ≠ none → b = a) ∧ (H a ≠ none → K.lookup a = none) := by
  cases hk : K.lookup a with
  | some o =>
    have e := ha.symm.trans (KX a o hk)
    cases e
    exact ⟨fun _ => none, fun _ => .inl rfl, .inr ⟨_, vs.toArray, _, hk, rfl, rfl, rfl, by rw [List.size_toArray, lv]; exact hl, by simpa using rv⟩, fun b u z => (nomatch z), fun b z => absurd rfl z, fun z => absurd rfl z⟩
  | none =>
    let u : HO := .frz { cls := .type "list", data := .seq vs.toArray } (.lst (ns.map V.int))
    have h1 : ∀ {b : Addr}, b = a → (if b = a then some u else none) = some u := fun e => if_pos e
    have h2 : ∀ {b : Addr}, ¬ b = a → (if b = a then some u else none) = none := fun e => if_neg e
    refine ⟨fun b => if b = a then some u else none, fun b => ?_, .inl (.inr ⟨_, h1 rfl⟩), fun b o z => ?_, fun b z => ?_, fun _ => rfl⟩
    · by_cases e : b = a
      · exact .inr ⟨_, _, h1 e⟩
      · exact .inl (h2 e)
    · by_cases e : b = a
      · have z2 : some u = some o := (h1 e).symm.trans z
        cases z2
        rw [e]
        exact ⟨ha, by rw [List.length_map]; exact hl, vs, _, rv, ha⟩
      · exact nomatch (h2 e).symm.trans z
    · by_cases e : b = a
      · exact e
      · exact absurd (h2 e) z
theorem lawG {k : Nat} {fa a : Addr} {x : Str} {sp : Sp} {s₁ : Shared} {vs : List Value} {ns : List Int} (KX : K.In s₁.heap) (nm : s₁.heap.Ns mainGlobals mg) (nb : s₁.heap.Ns builtinsNs mb) (bb : ∀ y : Str, y ≠ "__name__" → mb y = bootBuiltins y) (nl : s₁.heap.NoLimit) (ng : s₁.gens = #[])
    (ha : s₁.heap.get? a = some { cls := .type "list", data := .seq vs.toArray }) (is : IntsAre vs ns) (hl : ns.length ≤ sizeLine) (rm : Room k callerA) (hx : mg x = some (.ref fa)) (C : ∀ base : Heap, K.In base → base.Ns mainGlobals mg → CalG P w K mg base x k sp)
    (hsp : ∀ H : Hp, Only H → SqL K H a (ns.map V.int) → sp [.ref a] H (fun v _ => v = .bl true) fun _ _ _ => False) :
    codeAny (model P w) callerA (.call (.ref fa) ⟨[.ref a], []⟩) (fun r t => r = .ok (.ret (.bool true)) ∧ OldK s₁.heap t.heap ∧ t.os = s₁.os ∧ AllBare t.gens) s₁ := by
  obtain ⟨H, hO, hS, hok, hA, hK⟩ := some_H (P := P) (w := w) KX ha (vals_ints is) is.length hl
  have free : ∀ {b : Addr} {o : Obj} {es : Array DictEntry} {ep : Nat}, s₁.heap.get? b = some o → o.data = .dict es ep → H b = none := fun {b o es ep} g d => by
    cases q : H b with
    | none => rfl
    | some u =>
      have e2 := hA b fun z => nomatch q.symm.trans z
      rw [e2, ha] at g
      cases g
      exact nomatch d
  have ns2 : ∀ {b : Addr} {m : Str → Option Value}, s₁.heap.Ns b m → (hidT s₁.heap H).Ns b m := fun ⟨o, es, ep, g, d, r⟩ => ⟨o, es, ep, hidT_get g (free g d), d, r⟩
  have kin : K.In (hidT s₁.heap H) := fun b o g => hidT_get (KX b o g) (by
    cases q : H b with
    | none => rfl
    | some u =>
      have e2 := hA b fun z => nomatch q.symm.trans z
      have z := hK fun z => nomatch (e2 ▸ q).symm.trans z
      rw [← e2, g] at z
      exact nomatch z)
  obtain ⟨f, fd, ps, hm, hk, hb, F⟩ := C _ kin (ns2 nm)
  rw [hx] at hm
  cases hm
  have pl := F.ln _ _ _ _ (hsp H hO hS)
  have e0 : Env0 P w K mg (hidT s₁.heap H) callerA [] s₁ H := ⟨rfl, ⟨kin, ns2 nm, ⟨mb, ns2 nb, bb⟩, let ⟨m, g, d⟩ := nl; ⟨m, ns2 g, d⟩⟩, fun b o g => of_hidT g, Nat.le_of_eq (hidT_size _ _), trivial, (fun b z => nomatch z), hok, .of_eq ng⟩
  have bs := hb s₁ [.ref a] KX pl
  refine codeAny_mono (F.go callerA [] s₁ H ⟨[.ref a], []⟩ _ [.ref a] _ _ rm rfl e0 bs (.cons rfl .nil) (hsp H hO hS)) fun r t z => ?_
  match r, z with
  | .error _, z => exact False.elim z
  | .ok .next, z => exact False.elim z
  | .ok .brk, z => exact False.elim z
  | .ok .cont, z => exact False.elim z
  | .ok (.ret y), ⟨v, H2, os, br, un, ok2, ry, q⟩ =>
    have q : v = .bl true := q
    rw [q] at ry
    have ry : y = Value.bool true := ry
    rw [ry]
    refine ⟨rfl, .of_keep fun b o g => ?_, os, br⟩
    cases hb : H b with
    | none => exact un.keep b o g hb (fun z => nomatch z) fun z => nomatch z
    | some u =>
      obtain ⟨ob, xs, z⟩ := (hO b).resolve_left fun z => nomatch hb.symm.trans z
      have g1 := (hok b _ z).1
      have g2 := (ok2 b _ (un.frzs b ob _ z)).1
      rw [g] at g1
      cases g1
      exact g2
end
/-- the goal of the head's case hc -/
theorem walkG {l : PySem.W.OpenLaw} {n k : Nat} {q : Program} {loose : List Str} {XP : (Str → Option Value) → Heap → Prop} {YP : World → Heap → Prop} {d : DefRec} (hn : l.most = some n) (hn2 : n ≤ sizeLine) (hdf : d.params.defaults = []) (rm : Room k callerA)
    (F : ∀ (w : World) (mg : Str → Option Value) (h : Heap), YP w h → h.Ns mainGlobals mg → ∃ (K : PySem.W.Frag) (sp : Sp), K.In h ∧ (∀ (H : Hp) (a : Addr) (ns : List Int), ns.length ≤ n → Only H → SqL K H a (ns.map V.int) → sp [.ref a] H (fun v _ => v = .bl true) fun _ _ _ => False) ∧
      ∀ base : Heap, K.In base → base.Ns mainGlobals mg → CalG l.prog w K mg base d.name k sp) : PySem.W.WalkO q loose XP YP l.row.toRowW d [] (fun f vs => PySem.call f vs) := by
  refine Att.attach_call hn hdf fun w s₀ s₁ mg mb fa o pm cd doc a vs ns G Y ho hd hcd hmg obj its len gens => ?_
  obtain ⟨K, sp, KX, hsp, C⟩ := F w mg _ Y G.T.g
  exact lawG KX G.T.g G.T.b G.T.builtins G.T.nolimit gens obj its (Nat.le_trans len hn2) rm hmg C fun H hO hS => hsp H a ns len hO hS
end Ls
set_option maxHeartbeats 0 -- Head
namespace Ls
open PySem Spec PyProof.Rows L2
/-! the head: one kernel run -/
def nm0 : List PySem.Str := ["_wall", "__name__", "LoneError", "Wrong", "NoEnd", "NoSize", "NoChoice", "BadSale", "ENDS", "MOST_SIZE", "is_integer", "is_number", "is_end", "is_size", "are_sizes", "is_choice", "fits", "parts", "check_size", "possible", "good_befores", "let", "offered", "sales", "is_sold", "refuses", "is_stuck", "MOST_PRICE", "is_price", "are_prices"]
def nm1 : List PySem.Str := ["Worth", "need_until", "may_end", "SOLD", "Tables", "greatest", "least", "table", "totals_of", "all_totals", "play_for", "left_behind", "behind_sale", "total_of", "MOST_ROWS", "MOST_PARTS", "MOST_SEATS", "is_row", "are_rows", "row_stretches", "Plan", "PLACES", "MOST_OFFER", "are_bad", "is_offer", "first_wrong", "Rule", "sum_of", "greatest_in", "least_in"]
def nm2 : List PySem.Str := ["plan_play", "_law_bag", "_law_take", "_law_alike", "_law_mixed", "_law_one", "_law_ends", "_law_end", "_law_lengths", "_law_sizes", "_law_rule", "_law_made", "_law_stretch", "_law_befores", "_law_spoils", "_law_offers", "_law_all_sales", "_law_parted", "_law_worth", "_law_worth_made", "_law_price", "_law_may_end", "_law_best", "_law_tables", "_law_led", "_law_walked", "_law_all_end", "_law_total", "_law_sales_in", "_law_drawn_play"]
def nm3 : List PySem.Str := ["_law_stretches", "_law_all_totals", "_law_stretch_right", "_law_plan_right"]
def names : List PySem.Str := nm0 ++ nm1 ++ nm2 ++ nm3
abbrev R : PySem.W.OpenRow := PySem.W.OpenLaw.row PySem.Challenge.rw_loneseats_k08_whole_rules_and_worths_cro
abbrev hk : PySem.W.Hook := hookM 5 fa fn pr ex
def ob (s : PySem.W.SharedT) : He.AlD := obsM 5 fa fn pr ex (HandSHeadRun.getT s)
theorem ob_eq (s : PySem.W.SharedT) : ob s = hk.obs s.abs := obsM_eq (HandSHeadRun.getT_eq s)
theorem run (w : World) : HandSHeadRun.RunEq R (PySem.W.view R.prog [103]) hk ob 20000 names w := by
  intro os
  kernel_rfl
end Ls
set_option maxHeartbeats 4000000 -- Fin
/-! the end -/
namespace Ls
open PySem Spec PyProof.Rows L2
def spLaw (K : PySem.W.Frag) : Sp := @spF Jb (List Int) (fun ns => [tSc K ns]) (fun _ => True) fun _ => tB true
theorem law_name : (HandSHeadRun.topDef R.prog 103).name = ("law" : PySem.Str) := by kernel_rfl
end Ls
open PySem PySem.W PySem.Calls PyProof.Rows
theorem PySem.Challenge.cw_loneseats_k08_whole_rules_and_worths_cro_holds : PySem.Challenge.rw_loneseats_k08_whole_rules_and_worths_cro.Holds := by
  w_on; o_law
  refine HandSHeadRun.head_any (r := Ls.R) (q := view Ls.R.prog [103]) (H := Ls.hk) (ob := Ls.ob) (M := 20000) (loose := Ls.names) (d := HandSHeadRun.topDef Ls.R.prog 103) (kwd := []) Ls.ob_eq
    (by kernel_rfl) (fun s => by kernel_rfl) Ls.run (by kernel_rfl) (by kernel_rfl) (by kernel_rfl) (by rfl) (by first | assumption | decide +kernel) (by decide +kernel) ⟨rfl, rfl, rfl, rfl, rfl, by decide +kernel⟩ ?hw ?hc
  case hw => w_witness2
  case hc =>
    refine Ls.walkG (l := PySem.Challenge.rw_loneseats_k08_whole_rules_and_worths_cro) (n := 63) (k := 20) rfl (by decide) (by kernel_rfl) ⟨rfl, by decide, by decide⟩ ?F
    intro w mg h Y G
    obtain ⟨K, KX, c⟩ := Y
    letI : Ls.Iv := Ls.Jb
    letI : Ls.St := ⟨fun _ _ _ z => z⟩
    refine ⟨K, Ls.spLaw K, KX, fun H a ns _ _ hS => ⟨ns, H, ⟨fun _ _ z => z, trivial⟩, trivial, .one ⟨a, rfl, hS⟩, fun v _ _ _ r => r⟩, fun base hk hg => ?C⟩
    rw [Ls.law_name]
    exact Ls.c_law (Ls.Top.mk' KX G c)
