import PyProof.Rows.All
import HandS.Base
import HandS.Words
import HandS.Head0
import HandS.Head1
import HandS.Head2
import HandS.HeadEnd
import HandS.HeadHook1
import HandS.HeadHook2
import HandS.HeadHook3
import HandS.HeadHook4
import PySem.Challenge.RW_pointsenough_k30_whole_logs
import Wide.All
import OpenK.AllK
import Wide.FinOn
import KE.KStateDown
import HandS.ForMost
import HandS.Walk
import HandS.Deep
import HandS.Rev
import HandS.Zip
import HandS.Defaults
import HandS.Style
import HandS.IsInst
import HandS.Conv
import HandS.TupAny
import HandS.TupMul
import HandS.Wide
import KE.GoesMore
import KE.GoesEnum
import KE.GoesZip
import HandS.Strs
import HandS.WideBits
import HandS.Text
import HandS.Dict
import HandS.Small
import HandS.Codes
import HandS.Star
import HandS.Iter
import HandS.Replace
import KE.SortData
set_option Elab.async false
set_option linter.all false
set_option maxRecDepth 100000
set_option maxHeartbeats 0
/-! MH: looks at the module's constants (for the head). -/
namespace MM
open PySem L2
mutual
def kVal (K : PySem.W.Frag) : Nat → Value → PyData → Bool
  | _, .none, .none => true
  | _, .bool a, .bool b => a == b
  | _, .int i _, .int j => decide (i = j)
  | _, .str x _, .str y => decide (x = y)
  | n + 1, .ref a, .tuple ds => match K.lookup a with
    | some ⟨.type c, none, .seq its _, _⟩ => decide (c = "tuple") && (decide (its.size ≤ sizeLine) && kVals K n its.toList ds)
    | _ => false
  | _, _, _ => false
def kVals (K : PySem.W.Frag) : Nat → List Value → List PyData → Bool
  | _, [], [] => true
  | n, v :: vs, d :: ds => kVal K n v d && kVals K n vs ds
  | _, _, _ => false
end
def gloD (K : PySem.W.Frag) (x : Str) (d : PyData) : Bool := match PySem.W.nsIn K mainGlobals x with
  | some (some u) => kVal K 8 u d
  | _ => false
end MM
/-! MHH: what the run has left: the module's names, their functions, classes, methods; looked at in parts. -/
namespace MM
open PySem PySem.Spec PyProof.Rows L2
def refs1 (g : Addr → Option Obj) (a : Addr) : List Addr := match g a with
  | some o => He.refsD o
  | none => []
def isFn (g : Addr → Option Obj) (a : Addr) : Bool := match g a with
  | some ⟨_, _, .func _, _⟩ => true
  | _ => false
def asM1 (g : Addr → Option Obj) : List Addr := refs1 g mainGlobals
def asM3 (g : Addr → Option Obj) : List Addr := ((asM1 g).filter fun a => !isFn g a).flatMap fun a => (refs1 g a).flatMap (refs1 g)
def asM (g : Addr → Option Obj) : List Addr := mainGlobals :: (asM1 g ++ ((asM1 g).flatMap (refs1 g) ++ (asM3 g ++ ((asM3 g).filter (isFn g)).flatMap (refs1 g))))
def frM (g : Addr → Option Obj) : PySem.W.Frag := He.frG g (asM g)
abbrev AlM : Type := He.AlD × Bool
def obsM (fa : List He.Fa) (fn : List He.DefD) (ex : PySem.W.Frag → Bool) (g : Addr → Option Obj) : AlM := (He.obsD fa fn (frM g), ex (frM g))
def hookM (fa : List He.Fa) (fn : List He.DefD) (ex : PySem.W.Frag → Bool) : PySem.W.Hook where
  α := AlM
  obs := fun s => obsM fa fn ex s.heap.get?
  val := fun _ => (He.valD fn, true)
  says := fun _ h => ∃ K : PySem.W.Frag, K.In h ∧ He.SaysD fa fn K ∧ ex K = true
  of := fun _ _ e => ⟨_, He.frG_in, congrArg (fun z : AlM => z.1) e, congrArg (fun z : AlM => z.2) e⟩
  keeps := fun _ _ _ ⟨K, hK, c⟩ k => ⟨K, PySem.W.Frag.In.keeps hK k, c⟩
theorem obsM_eq {fa : List He.Fa} {fn : List He.DefD} {ex : PySem.W.Frag → Bool} {g : Addr → Option Obj} {s : Shared} (h : ∀ a, g a = s.heap.get? a) : obsM fa fn ex g = (hookM fa fn ex).obs s := by
  have e : g = s.heap.get? := funext h
  rw [e] <;> rfl
def KK (s : PySem.W.SharedT) : PySem.W.Frag := frM (HandSHeadRun.getT s)
def oFa (l : List He.Fa) (s : PySem.W.SharedT) : Bool := l.all fun f => f.ok (KK s)
def oFn (l : List He.DefD) (s : PySem.W.SharedT) : Bool × List He.FnW := (l.all fun d => d.ok (KK s), l.map fun d => He.fnW (KK s) d.at_)
def oEx (ex : PySem.W.Frag → Bool) (s : PySem.W.SharedT) : Bool := ex (KK s)
section
variable {σ : Type} {o : Option σ}
theorem join3 {α β γ : Type} {f : σ → α} {g : σ → β} {k : σ → γ} {a : α} {b : β} {c : γ} (h1 : o.map f = some a) (h2 : o.map g = some b) (h3 : o.map k = some c) : o.map (fun s => (f s, g s, k s)) = some (a, b, c) := by
  cases o with
  | none => cases h1
  | some s =>
    have e1 := Option.some.inj h1
    have e2 := Option.some.inj h2
    have e3 := Option.some.inj h3
    show some (f s, g s, k s) = some (a, b, c)
    rw [e1, e2, e3]
end
variable {o : Option PySem.W.SharedT}
theorem fa_app {l r : List He.Fa} (h1 : o.map (oFa l) = some true) (h2 : o.map (oFa r) = some true) : o.map (oFa (l ++ r)) = some true := by
  cases o with
  | none => cases h1
  | some s =>
    have e1 : oFa l s = true := Option.some.inj h1
    have e2 : oFa r s = true := Option.some.inj h2
    show some (oFa (l ++ r) s) = some true
    unfold oFa at *
    rw [List.all_append, e1, e2]; rfl
theorem fn_app {l r : List He.DefD} (h1 : o.map (oFn l) = some (true, l.map He.DefD.val)) (h2 : o.map (oFn r) = some (true, r.map He.DefD.val)) : o.map (oFn (l ++ r)) = some (true, (l ++ r).map He.DefD.val) := by
  cases o with
  | none => cases h1
  | some s =>
    have e1 : oFn l s = (true, l.map He.DefD.val) := Option.some.inj h1
    have e2 : oFn r s = (true, r.map He.DefD.val) := Option.some.inj h2
    show some (oFn (l ++ r) s) = some _
    unfold oFn at *
    rw [Prod.mk.injEq] at e1 e2
    rw [List.all_append, List.map_append, List.map_append, e1.1, e1.2, e2.1, e2.2]; rfl
theorem ob_join {fa : List He.Fa} {fn : List He.DefD} {ex : PySem.W.Frag → Bool} (h1 : o.map (oFa fa) = some true) (h2 : o.map (oFn fn) = some (true, fn.map He.DefD.val)) (h3 : o.map (oEx ex) = some true) :
    o.map (fun s => obsM fa fn ex (HandSHeadRun.getT s)) = some (He.valD fn, true) := by
  cases o with
  | none => cases h1
  | some s =>
    have e1 : oFa fa s = true := Option.some.inj h1
    have e2 : oFn fn s = (true, fn.map He.DefD.val) := Option.some.inj h2
    have e3 : oEx ex s = true := Option.some.inj h3
    unfold oFa at e1
    unfold oFn at e2
    unfold oEx at e3
    rw [Prod.mk.injEq] at e2
    show some (obsM fa fn ex (HandSHeadRun.getT s)) = some _
    unfold obsM
    change some (He.obsD fa fn (KK s), ex (KK s)) = _
    unfold He.obsD He.valD
    rw [e1, e2.1, e2.2, e3]
    rfl
end MM
/-! the top, printed by gen.py -/
namespace LK
open PySem L2 MM
def top (i : Nat) : Stmt := PySem.Challenge.pw_pointsenough_k30_whole_logs.main.body.getD i (.Pass ⟨0, 0, 0, 0⟩)
def kv_PASSED : PyData := .tuple [.str "passed"]
def k_BASES : List PyData := [.int 2, .int 3, .int 5, .int 7]
end LK
/-! the head, printed by genhead.py -/
namespace LK
open PySem PySem.Spec PyProof.Rows L2 MM
def tupN (K : PySem.W.Frag) (x : Str) : Bool := match K.lookup (He.ga K x) with
  | some ⟨.type c, none, _, _⟩ => decide (c = "tuple")
  | _ => false
theorem tupN_ok {K : PySem.W.Frag} {x : Str} (h : tupN K x = true) : ∃ o, K.lookup (He.ga K x) = some o ∧ o.cls = .type "tuple" ∧ o.dict = none := by
  unfold tupN at h
  split at h
  · rename_i c _ _ e
    exact ⟨_, e, congrArg Value.type (of_decide_eq_true h), rfl⟩
  · cases h
def dd__law_taken : He.DefD := ⟨("_law_taken", none), "_law_taken", "_law_taken", defArgs (top 48), defBody (top 48), defScope (top 48), [], []⟩
def dd__law_pick : He.DefD := ⟨("_law_pick", none), "_law_pick", "_law_pick", defArgs (top 49), defBody (top 49), defScope (top 49), [], []⟩
def dd__law_number : He.DefD := ⟨("_law_number", none), "_law_number", "_law_number", defArgs (top 51), defBody (top 51), defScope (top 51), [], []⟩
def dd__law_numbers : He.DefD := ⟨("_law_numbers", none), "_law_numbers", "_law_numbers", defArgs (top 52), defBody (top 52), defScope (top 52), [], []⟩
def dd__law_log : He.DefD := ⟨("_law_log", none), "_law_log", "_law_log", defArgs (top 55), defBody (top 55), defScope (top 55), [], []⟩
def dd__law_true : He.DefD := ⟨("_law_true", none), "_law_true", "_law_true", defArgs (top 54), defBody (top 54), defScope (top 54), [], []⟩
def dd_is_integer : He.DefD := ⟨("is_integer", none), "is_integer", "is_integer", defArgs (top 10), defBody (top 10), defScope (top 10), [], []⟩
def dd_is_from : He.DefD := ⟨("is_from", none), "is_from", "is_from", defArgs (top 11), defBody (top 11), defScope (top 11), [], []⟩
def dd_raised : He.DefD := ⟨("raised", none), "raised", "raised", defArgs (top 12), defBody (top 12), defScope (top 12), [], []⟩
def dd_passes : He.DefD := ⟨("passes", none), "passes", "passes", defArgs (top 13), defBody (top 13), defScope (top 13), [], []⟩
def dd_is_prime : He.DefD := ⟨("is_prime", none), "is_prime", "is_prime", defArgs (top 14), defBody (top 14), defScope (top 14), [], []⟩
def dd_need_prime : He.DefD := ⟨("need_prime", none), "need_prime", "need_prime", defArgs (top 15), defBody (top 15), defScope (top 15), [.int 5], []⟩
def dd_is_number : He.DefD := ⟨("is_number", none), "is_number", "is_number", defArgs (top 16), defBody (top 16), defScope (top 16), [], []⟩
def dd_are_numbers : He.DefD := ⟨("are_numbers", none), "are_numbers", "are_numbers", defArgs (top 18), defBody (top 18), defScope (top 18), [], []⟩
def dd_need_log : He.DefD := ⟨("need_log", none), "need_log", "need_log", defArgs (top 33), defBody (top 33), defScope (top 33), [], []⟩
def dd_need_last : He.DefD := ⟨("need_last", none), "need_last", "need_last", defArgs (top 34), defBody (top 34), defScope (top 34), [], []⟩
def dd_need_number : He.DefD := ⟨("need_number", none), "need_number", "need_number", defArgs (top 17), defBody (top 17), defScope (top 17), [], []⟩
def dd_late : He.DefD := ⟨("late", none), "late", "late", defArgs (top 39), defBody (top 39), defScope (top 39), [], []⟩
def dd_packed_at : He.DefD := ⟨("packed_at", none), "packed_at", "packed_at", defArgs (top 24), defBody (top 24), defScope (top 24), [], []⟩
def dd_product_at : He.DefD := ⟨("product_at", none), "product_at", "product_at", defArgs (top 25), defBody (top 25), defScope (top 25), [], []⟩
def dd_put_bag : He.DefD := ⟨("put_bag", none), "put_bag", "put_bag", defArgs (top 37), defBody (top 37), defScope (top 37), [], []⟩
def dd_taken_bag : He.DefD := ⟨("taken_bag", none), "taken_bag", "taken_bag", defArgs (top 38), defBody (top 38), defScope (top 38), [], []⟩
def dd_log_judged : He.DefD := ⟨("log_judged", none), "log_judged", "log_judged", defArgs (top 40), defBody (top 40), defScope (top 40), [], []⟩
def dd_is_whole : He.DefD := ⟨("is_whole", none), "is_whole", "is_whole", defArgs (top 42), defBody (top 42), defScope (top 42), [], []⟩
def dd_are_whole_firsts : He.DefD := ⟨("are_whole_firsts", none), "are_whole_firsts", "are_whole_firsts", defArgs (top 43), defBody (top 43), defScope (top 43), [], []⟩
def dd_are_whole_deeds : He.DefD := ⟨("are_whole_deeds", none), "are_whole_deeds", "are_whole_deeds", defArgs (top 44), defBody (top 44), defScope (top 44), [], []⟩
def dd_mended_log : He.DefD := ⟨("mended_log", none), "mended_log", "mended_log", defArgs (top 45), defBody (top 45), defScope (top 45), [], []⟩
def dd__law_bent : He.DefD := ⟨("_law_bent", none), "_law_bent", "_law_bent", defArgs (top 56), defBody (top 56), defScope (top 56), [], []⟩
def dd__law_alike : He.DefD := ⟨("_law_alike", none), "_law_alike", "_law_alike", defArgs (top 50), defBody (top 50), defScope (top 50), [], []⟩
def dd__law_pairs : He.DefD := ⟨("_law_pairs", none), "_law_pairs", "_law_pairs", defArgs (top 47), defBody (top 47), defScope (top 47), [], []⟩
def dd_is_whole_triple : He.DefD := ⟨("is_whole_triple", none), "is_whole_triple", "is_whole_triple", defArgs (top 21), defBody (top 21), defScope (top 21), [], []⟩
def dd_is_any_bag : He.DefD := ⟨("is_any_bag", none), "is_any_bag", "is_any_bag", defArgs (top 22), defBody (top 22), defScope (top 22), [], []⟩
def dd_is_same_bag : He.DefD := ⟨("is_same_bag", none), "is_same_bag", "is_same_bag", defArgs (top 23), defBody (top 23), defScope (top 23), [], []⟩
def dd_common : He.DefD := ⟨("common", none), "common", "common", defArgs (top 27), defBody (top 27), defScope (top 27), [], []⟩
def dd_share : He.DefD := ⟨("share", none), "share", "share", defArgs (top 28), defBody (top 28), defScope (top 28), [], []⟩
def dd_log_loss : He.DefD := ⟨("log_loss", none), "log_loss", "log_loss", defArgs (top 41), defBody (top 41), defScope (top 41), [], []⟩
def dd__law_lowered : He.DefD := ⟨("_law_lowered", none), "_law_lowered", "_law_lowered", defArgs (top 53), defBody (top 53), defScope (top 53), [], []⟩
def dd_memory_behind : He.DefD := ⟨("memory_behind", none), "memory_behind", "memory_behind", defArgs (top 35), defBody (top 35), defScope (top 35), [], []⟩
def dd_is_true_log : He.DefD := ⟨("is_true_log", none), "is_true_log", "is_true_log", defArgs (top 36), defBody (top 36), defScope (top 36), [], []⟩
def dd_law : He.DefD := ⟨("law", none), "law", "law", defArgs (top 57), defBody (top 57), defScope (top 57), [], []⟩
def fn : List He.DefD := [dd__law_taken, dd__law_pick, dd__law_number, dd__law_numbers, dd__law_log, dd__law_true, dd_is_integer, dd_is_from, dd_raised, dd_passes, dd_is_prime, dd_need_prime, dd_is_number, dd_are_numbers, dd_need_log, dd_need_last, dd_need_number, dd_late, dd_packed_at, dd_product_at, dd_put_bag, dd_taken_bag, dd_log_judged, dd_is_whole, dd_are_whole_firsts, dd_are_whole_deeds, dd_mended_log, dd__law_bent, dd__law_alike, dd__law_pairs, dd_is_whole_triple, dd_is_any_bag, dd_is_same_bag, dd_common, dd_share, dd_log_loss, dd__law_lowered, dd_memory_behind, dd_is_true_log, dd_law]
def fa : List He.Fa := [.glo "_law_taken", .glo "_law_pick", .glo "_law_number", .glo "_law_numbers", .glo "_law_log", .glo "_law_true", .glo "is_integer", .glo "is_from", .glo "raised", .glo "passes", .glo "is_prime", .glo "need_prime", .glo "is_number", .glo "are_numbers", .glo "need_log", .glo "need_last", .glo "need_number", .glo "late", .glo "packed_at", .glo "product_at", .glo "put_bag", .glo "taken_bag", .glo "log_judged", .glo "is_whole", .glo "are_whole_firsts", .glo "are_whole_deeds", .glo "mended_log", .glo "_law_bent", .glo "_law_alike", .glo "_law_pairs", .glo "is_whole_triple", .glo "is_any_bag", .glo "is_same_bag", .glo "common", .glo "share", .glo "log_loss", .glo "_law_lowered", .glo "memory_behind", .glo "is_true_log", .glo "law", .free "abs", .free "all", .free "any", .free "bool", .free "dict", .free "enumerate", .free "int", .free "isinstance", .free "len", .free "list", .free "min", .free "range", .free "sorted", .free "str", .free "tuple", .int "MOST_CELLS" 16, .int "MOST_DEEDS" 60, .int "MOST_PRIME" 2147483647, .int "MOST_TRIPLES" 200, .glo "BASES"]
def ex (K : PySem.W.Frag) : Bool := (He.tupB K "BASES" [.int 2, .int 3, .int 5, .int 7] && tupN K "BASES") && gloD K "PASSED" kv_PASSED
abbrev hk : PySem.W.Hook := hookM fa fn ex
def ob (s : PySem.W.SharedT) : AlM := obsM fa fn ex (HandSHeadRun.getT s)
theorem ob_eq (s : PySem.W.SharedT) : ob s = hk.obs s.abs := obsM_eq (HandSHeadRun.getT_eq s)
abbrev Rrow : PySem.W.OpenRow := PySem.W.OpenLaw.row PySem.Challenge.rw_pointsenough_k30_whole_logs
def loose : List PySem.Str := (["PointError", "BadPrime", "BadNumber", "BadFirst", "BadDeeds", "BadLast", "MOST_PRIME", "BASES", "is_integer", "is_from", "raised", "passes", "is_prime", "need_prime", "is_number", "need_number", "are_numbers", "MOST_TRIPLES", "is_whole_triple", "is_any_bag", "is_same_bag", "packed_at", "product_at", "common", "share", "PASSED", "MOST_CELLS", "MOST_DEEDS", "need_log", "need_last"] : List PySem.Str) ++ (["memory_behind", "is_true_log", "put_bag", "taken_bag", "late", "log_judged", "log_loss", "is_whole", "are_whole_firsts", "are_whole_deeds", "mended_log", "_law_pairs", "_law_taken", "_law_pick", "_law_alike", "_law_number", "_law_numbers", "_law_lowered", "_law_true", "_law_log", "_law_bent"] : List PySem.Str)
abbrev Rq : Program := PySem.W.view Rrow.prog [57]
noncomputable abbrev Rend (w : World) (os : OsState) : Option PySem.W.SharedT := HandSHeadRun.endF (HandSHeadRun.stepQ (HandSHeadRun.denQ HandSHeadRun.tabQ) Rrow.prog w) 8000 Rrow.prog w os
theorem run_l (w : World) (os : OsState) : (Rend w os).map (fun s => HandSHeadRun.looksF Rrow.prog (PySem.W.boot_heap w.params) s.abs) = some true := by kernel_rfl
theorem run_s (w : World) (os : OsState) : (Rend w os).map (fun s => HandSHeadRun.seenQ Rq loose (importedModules Rrow.prog.main.body) (fun s => PySem.W.xlAt Rq [] s && PySem.W.recOk Rrow.toRowW.records s) s.abs) = some (PySem.W.openGood Rq loose) := by kernel_rfl
theorem run_o (w : World) (os : OsState) : (Rend w os).map ob = some (hk.val w) := by kernel_rfl
theorem run (w : World) : HandSHeadRun.RunEq Rrow Rq hk ob 8000 loose w := fun os => join3 (run_l w os) (run_s w os) (run_o w os)
end LK
/-! M1: data, frozen data over a frozen sub-heap, slots, the state relation. -/
namespace MM
open PySem L2
abbrev D := PyData
def kD : Key → D
  | .inl i => .int i
  | .inr x => .str x
/-! ### frozen data -/
mutual
inductive Rp (K : PySem.W.Frag) (F : Hp) : V → D → Prop
  | non : Rp K F .non .none
  | bl (b : Bool) : Rp K F (.bl b) (.bool b)
  | int (i : Int) : Rp K F (.int i) (.int i)
  | str (x : Str) : Rp K F (.str x) (.str x)
  | lst {a : Addr} {xs : List V} {ds : List D} : SqL K F a xs → RpAll K F xs ds → Rp K F (.ref a) (.list ds)
  | tup {a : Addr} {xs : List V} {ds : List D} : SqT K F a xs → RpAll K F xs ds → Rp K F (.ref a) (.tuple ds)
  | dK {a : Addr} {l : List (Key × V)} {ds : List (D × D)} : F a = some (.dK l) → RpK K F l ds → Rp K F (.ref a) (.dict ds)
inductive RpAll (K : PySem.W.Frag) (F : Hp) : List V → List D → Prop
  | nil : RpAll K F [] []
  | cons {v : V} {vs : List V} {d : D} {ds : List D} : Rp K F v d → RpAll K F vs ds → RpAll K F (v :: vs) (d :: ds)
inductive RpK (K : PySem.W.Frag) (F : Hp) : List (Key × V) → List (D × D) → Prop
  | nil : RpK K F [] []
  | cons {k : Key} {v : V} {l : List (Key × V)} {d : D} {ds : List (D × D)} : Rp K F v d → RpK K F l ds → RpK K F ((k, v) :: l) ((kD k, d) :: ds)
end
theorem sql_mono {K : PySem.W.Frag} {H H' : Hp} {a : Addr} {xs : List V} (e : Same H H') (h : SqL K H a xs) : SqL K H' a xs := e.seq h
theorem sqt_mono {K : PySem.W.Frag} {H H' : Hp} {a : Addr} {xs : List V} (e : Same H H') (h : SqT K H a xs) : SqT K H' a xs := by
  rcases h with (h | ⟨o, h⟩) | h
  · exact .inl (.inl (e _ _ h))
  · exact .inl (.inr ⟨o, e _ _ h⟩)
  · exact .inr h
section
variable {K : PySem.W.Frag} {F F' : Hp}
mutual
theorem Rp.mono (e : Same F F') : ∀ {v : V} {d : D}, Rp K F v d → Rp K F' v d
  | _, _, .non => .non
  | _, _, .bl b => .bl b
  | _, _, .int i => .int i
  | _, _, .str x => .str x
  | _, _, .lst h r => .lst (sql_mono e h) (RpAll.mono e r)
  | _, _, .tup h r => .tup (sqt_mono e h) (RpAll.mono e r)
  | _, _, .dK h r => .dK (e _ _ h) (RpK.mono e r)
theorem RpAll.mono (e : Same F F') : ∀ {vs : List V} {ds : List D}, RpAll K F vs ds → RpAll K F' vs ds
  | _, _, .nil => .nil
  | _, _, .cons h r => .cons (Rp.mono e h) (RpAll.mono e r)
theorem RpK.mono (e : Same F F') : ∀ {l : List (Key × V)} {ds : List (D × D)}, RpK K F l ds → RpK K F' l ds
  | _, _, .nil => .nil
  | _, _, .cons h r => .cons (Rp.mono e h) (RpK.mono e r)
end
theorem RpAll.length : ∀ {vs : List V} {ds : List D}, RpAll K F vs ds → vs.length = ds.length
  | _, _, .nil => rfl
  | _, _, .cons _ r => by simp [RpAll.length r]
theorem RpK.length : ∀ {vs : List (Key × V)} {ds : List (D × D)}, RpK K F vs ds → vs.length = ds.length
  | _, _, .nil => rfl
  | _, _, .cons _ r => by simp [RpK.length r]
theorem RpAll.get : ∀ {vs : List V} {ds : List D} {i : Nat} {d : D}, RpAll K F vs ds → ds[i]? = some d → ∃ v, vs[i]? = some v ∧ Rp K F v d
  | _, _, _, _, .nil, e => by simp at e
  | _, _, 0, _, .cons r _, e => by simp at e; subst e; exact ⟨_, rfl, r⟩
  | _, _, i + 1, d, .cons _ t, e => by
    obtain ⟨u, h1, h2⟩ := RpAll.get (i := i) (d := d) t (by simpa using e)
    exact ⟨u, by simpa using h1, h2⟩
theorem RpAll.getV : ∀ {vs : List V} {ds : List D} {i : Nat} {v : V}, RpAll K F vs ds → vs[i]? = some v → ∃ d, ds[i]? = some d ∧ Rp K F v d
  | _, _, _, _, .nil, e => by simp at e
  | _, _, 0, _, .cons r _, e => by simp at e; subst e; exact ⟨_, rfl, r⟩
  | _, _, i + 1, d, .cons _ t, e => by
    obtain ⟨u, h1, h2⟩ := RpAll.getV (i := i) (v := d) t (by simpa using e)
    exact ⟨u, by simpa using h1, h2⟩
theorem RpAll.append : ∀ {vs ws : List V} {ds es : List D}, RpAll K F vs ds → RpAll K F ws es → RpAll K F (vs ++ ws) (ds ++ es)
  | _, _, _, _, .nil, s => s
  | _, _, _, _, .cons r t, s => .cons r (RpAll.append t s)
theorem RpAll.take : ∀ {vs : List V} {ds : List D} (n : Nat), RpAll K F vs ds → RpAll K F (vs.take n) (ds.take n)
  | _, _, 0, _ => .nil
  | _, _, _ + 1, .nil => .nil
  | _, _, n + 1, .cons r t => .cons r (RpAll.take n t)
theorem RpAll.drop : ∀ {vs : List V} {ds : List D} (n : Nat), RpAll K F vs ds → RpAll K F (vs.drop n) (ds.drop n)
  | _, _, 0, r => r
  | _, _, _ + 1, .nil => .nil
  | _, _, n + 1, .cons _ t => RpAll.drop n t
theorem RpAll.set {v : V} {d : D} (r : Rp K F v d) : ∀ {vs : List V} {ds : List D} (i : Nat), RpAll K F vs ds → RpAll K F (vs.set i v) (ds.set i d)
  | _, _, _, .nil => .nil
  | _, _, 0, .cons _ t => .cons r t
  | _, _, i + 1, .cons q t => .cons q (RpAll.set r i t)
theorem RpAll.eraseIdx : ∀ {vs : List V} {ds : List D} (i : Nat), RpAll K F vs ds → RpAll K F (vs.eraseIdx i) (ds.eraseIdx i)
  | _, _, _, .nil => .nil
  | _, _, 0, .cons _ t => t
  | _, _, i + 1, .cons q t => .cons q (RpAll.eraseIdx i t)
theorem RpAll.reverse {vs : List V} {ds : List D} (h : RpAll K F vs ds) : RpAll K F vs.reverse ds.reverse := by
  induction vs generalizing ds with
  | nil => cases h; exact .nil
  | cons v vs ih =>
    cases h with
    | cons r t =>
      rw [List.reverse_cons, List.reverse_cons]
      exact (ih t).append (.cons r .nil)
theorem RpAll.rep {vs : List V} {ds : List D} (h : RpAll K F vs ds) : ∀ k : Nat, RpAll K F (List.replicate k vs).flatten (List.replicate k ds).flatten
  | 0 => .nil
  | k + 1 => by
    rw [List.replicate_succ, List.replicate_succ, List.flatten_cons, List.flatten_cons]
    exact h.append (RpAll.rep h k)
theorem RpAll.isEmpty {vs : List V} {ds : List D} (h : RpAll K F vs ds) : vs.isEmpty = ds.isEmpty := by
  cases h <;> rfl
theorem RpAll.ints : ∀ {vs : List V} {ns : List Int}, RpAll K F vs (ns.map PyData.int) → vs = ns.map V.int
  | vs, [], h => by
    have h' : RpAll K F vs [] := h
    cases h'; rfl
  | vs, n :: ns, h => by
    have h' : RpAll K F vs (PyData.int n :: ns.map PyData.int) := h
    cases h' with
    | cons r t =>
      cases r
      rw [RpAll.ints t]; rfl
theorem RpAll.of_ints : ∀ ns : List Int, RpAll K F (ns.map V.int) (ns.map PyData.int)
  | [] => .nil
  | n :: ns => .cons (.int n) (RpAll.of_ints ns)
/- no dict within: deep data of the layer -/
mutual
theorem Rp.dp (e : Same F F') : ∀ (d : D) (v : V), Rp K F v d → d.canLay0 = true → Dp K F' v d
  | .none, _, h, _ => by cases h; exact .non
  | .bool b, _, h, _ => by cases h; exact .bl b
  | .int i, _, h, _ => by cases h; exact .int i
  | .str x, _, h, _ => by cases h; exact .str x
  | .list ds, _, h, l => by
    cases h with
    | lst s r => exact .lst (sql_mono e s) (RpAll.dp e ds _ r (by simpa [PyData.canLay0] using l))
  | .tuple ds, _, h, l => by
    cases h with
    | tup s r => exact .tup (sqt_mono e s) (RpAll.dp e ds _ r (by simpa [PyData.canLay0] using l))
  | .dict ds, _, _, l => by simp [PyData.canLay0] at l
theorem RpAll.dp (e : Same F F') : ∀ (ds : List D) (vs : List V), RpAll K F vs ds → PyData.canLayAll0 ds = true → DpAll K F' vs ds
  | [], _, h, _ => by cases h; exact .nil
  | d :: ds, _, h, l => by
    cases h with
    | cons r t =>
      simp only [PyData.canLayAll0, Bool.and_eq_true] at l
      exact .cons (Rp.dp e d _ r l.1) (RpAll.dp e ds _ t l.2)
end
end
/-! ### slots, the state relation -/
inductive Sl where
  | emp | fz (d : D) | ow (d : D) | io (d : D)
abbrev En := List Sl
abbrev TL := List (Addr × D)
structure Gx where
  K : PySem.W.Frag
  F0 : Hp
  H0 : Hp
  io : Option Addr
/-- the attributes of an instance -/
inductive RpF (K : PySem.W.Frag) (F : Hp) : List (Str × V) → List (D × D) → Prop
  | nil : RpF K F [] []
  | cons {k : Str} {v : V} {l : List (Str × V)} {d : D} {ds : List (D × D)} : Rp K F v d → RpF K F l ds → RpF K F ((k, v) :: l) ((.str k, d) :: ds)
theorem RpF.mono {K : PySem.W.Frag} {F F' : Hp} (e : Same F F') : ∀ {l : List (Str × V)} {ds : List (D × D)}, RpF K F l ds → RpF K F' l ds
  | _, _, .nil => .nil
  | _, _, .cons r t => .cons (r.mono e) (t.mono e)
/-- an instance of the module's class c with these attributes -/
def ObjO (K : PySem.W.Frag) (F H : Hp) (a : Addr) (c : Str) (fs : List (D × D)) : Prop := ∃ C dx l, PySem.W.nsIn K mainGlobals c = some (some (.ref C)) ∧ H a = some (.ins C dx l) ∧ RpF K F l fs
/-- a list of these addresses -/
def RawO (H : Hp) (a : Addr) (ds : List D) : Prop := ∃ as : List Addr, ds = as.map (fun b => .int (b : Nat)) ∧ H a = some (.lst (as.map .ref))
def Own (K : PySem.W.Frag) (F H : Hp) (a : Addr) : D → Prop
  | .list ds => ∃ vs, H a = some (.lst vs) ∧ RpAll K F vs ds
  | .dict ds => ∃ l, H a = some (.dK l) ∧ RpK K F l ds
  | .tuple [.str c, .dict fs] => ObjO K F H a c fs
  | .tuple ds => RawO H a ds
  | _ => False
/-- owned things that are never frozen -/
def objD : D → Bool
  | .tuple _ => true
  | _ => false
theorem own_tup {K : PySem.W.Frag} {F H : Hp} {a : Addr} {ds : List D} (h : Own K F H a (.tuple ds)) : (∃ c fs, ds = [.str c, .dict fs] ∧ ObjO K F H a c fs) ∨ RawO H a ds := by
  unfold Own at h
  split at h
  · rename_i e; cases e
  · rename_i e; cases e
  · rename_i e; cases e; exact .inl ⟨_, _, rfl, h⟩
  · rename_i e; cases e; exact .inr h
  · exact h.elim
theorem own_of_raw {K : PySem.W.Frag} {F H : Hp} {a : Addr} {ds : List D} (h : RawO H a ds) : Own K F H a (.tuple ds) := by
  unfold Own
  split
  · rename_i e; cases e
  · rename_i e; cases e
  · rename_i e; cases e
    obtain ⟨as, e, _⟩ := h
    cases as with
    | nil => cases e
    | cons b r => cases e
  · rename_i e; cases e; exact h
  · rename_i _ _ q; exact absurd rfl (q _)
theorem Own.some {K : PySem.W.Frag} {F H : Hp} {a : Addr} {d : D} (h : Own K F H a d) : ∃ o, H a = some o := by
  cases d with
  | list _ => obtain ⟨vs, e, _⟩ := h; exact ⟨_, e⟩
  | dict _ => obtain ⟨l, e, _⟩ := h; exact ⟨_, e⟩
  | tuple _ =>
    rcases own_tup h with ⟨c, fs, _, C, dx, l, _, e, _⟩ | ⟨as, _, e⟩
    · exact ⟨_, e⟩
    · exact ⟨_, e⟩
  | _ => exact h.elim
theorem Own.mono {K : PySem.W.Frag} {F F' H H' : Hp} {a : Addr} {d : D} (h : Own K F H a d) (e : Same F F') (k : ∀ o, H a = Option.some o → H' a = Option.some o) : Own K F' H' a d := by
  cases d with
  | list _ => obtain ⟨vs, q, r⟩ := h; exact ⟨vs, k _ q, r.mono e⟩
  | dict _ => obtain ⟨l, q, r⟩ := h; exact ⟨l, k _ q, r.mono e⟩
  | tuple _ =>
    rcases own_tup h with ⟨c, fs, rfl, C, dx, l, h1, h2, h3⟩ | ⟨as, h1, h2⟩
    · exact ⟨C, dx, l, h1, k _ h2, h3.mono e⟩
    · exact own_of_raw ⟨as, h1, k _ h2⟩
  | _ => exact h.elim
structure StR (G : Gx) (ρ : En) (σ : St) (T : TL) (F H : Hp) : Prop where
  len : ρ.length = σ.length
  f0 : Same G.F0 F
  fh : Same F H
  keep : ∀ b o, G.H0 b = some o → G.io ≠ some b → H b = some o
  new : ∀ b, F b ≠ none → G.F0 b ≠ none ∨ G.H0 b = none
  fz : ∀ (i : Nat) (d : D), ρ[i]? = some (.fz d) → ∃ v, σ[i]? = some (some v) ∧ Rp G.K F v d
  ow : ∀ (i : Nat) (d : D), ρ[i]? = some (.ow d) → ∃ a, σ[i]? = some (some (.ref a)) ∧ F a = none ∧ G.H0 a = none ∧ Own G.K F H a d
  io : ∀ (i : Nat) (d : D), ρ[i]? = some (.io d) → ∃ a, G.io = some a ∧ σ[i]? = some (some (.ref a)) ∧ Own G.K F H a d
  ap : ∀ (i j : Nat) (a : Addr) (d e : D), ρ[i]? = some (.ow d) → ρ[j]? = some (.ow e) → σ[i]? = some (some (.ref a)) → σ[j]? = some (some (.ref a)) → i = j
  ion : ∀ a, G.io = some a → G.F0 a = none ∧ G.H0 a ≠ none ∧ H a ≠ none
  ii : ∀ (i j : Nat) (d e : D), ρ[i]? = some (.io d) → ρ[j]? = some (.io e) → i = j
  tm : ∀ p ∈ T, F p.1 = none ∧ G.H0 p.1 = none ∧ Own G.K F H p.1 p.2
  ts : ∀ p ∈ T, ∀ (i : Nat) (e : D), ρ[i]? = some (.ow e) → σ[i]? ≠ some (some (.ref p.1))
  tn : (T.map (·.1)).Nodup
section
variable {G : Gx} {ρ : En} {σ : St} {T : TL} {F H F' H' : Hp}
theorem StR.iof (S : StR G ρ σ T F H) {a : Addr} (h : G.io = some a) : F a = none := by
  obtain ⟨h1, h2, _⟩ := S.ion a h
  cases e : F a with
  | none => rfl
  | some o =>
    rcases S.new a (by rw [e]; simp) with q | q
    · exact absurd h1 q
    · exact absurd q h2
/-- the heap has grown, or changed at things that nobody here holds -/
theorem StR.grow (S : StR G ρ σ T F H) (eF : Same F F') (fh : Same F' H') (eH : Same H H') (new : ∀ b, F' b ≠ none → F b ≠ none ∨ H b = none) : StR G ρ σ T F' H' where
  len := S.len
  f0 := S.f0.trans eF
  fh := fh
  keep := fun b o e n => eH b o (S.keep b o e n)
  new := fun b e => by
    rcases new b e with q | q
    · exact S.new b q
    · right
      cases e0 : G.H0 b with
      | none => rfl
      | some o =>
        by_cases hi : G.io = some b
        · exact absurd q (S.ion b hi).2.2
        · rw [S.keep b o e0 hi] at q; cases q
  fz := fun i d e => by
    obtain ⟨v, h1, h2⟩ := S.fz i d e
    exact ⟨v, h1, h2.mono eF⟩
  ow := fun i d e => by
    obtain ⟨a, h1, h2, h3, h4⟩ := S.ow i d e
    refine ⟨a, h1, ?_, h3, h4.mono eF fun o q => eH a o q⟩
    cases q : F' a with
    | none => rfl
    | some o =>
      obtain ⟨o', ho⟩ := h4.some
      rcases new a (by rw [q]; simp) with z | z
      · exact absurd h2 z
      · rw [ho] at z; cases z
  io := fun i d e => by
    obtain ⟨a, h1, h2, h3⟩ := S.io i d e
    exact ⟨a, h1, h2, h3.mono eF fun o q => eH a o q⟩
  ap := S.ap
  ion := fun a e => by
    obtain ⟨h1, h2, h3⟩ := S.ion a e
    refine ⟨h1, h2, fun z => ?_⟩
    cases q : H a with
    | none => exact h3 q
    | some o => rw [eH a o q] at z; cases z
  ii := S.ii
  tm := fun p hp => by
    obtain ⟨h2, h3, h4⟩ := S.tm p hp
    refine ⟨?_, h3, h4.mono eF fun o q => eH _ o q⟩
    cases q : F' p.1 with
    | none => rfl
    | some o =>
      obtain ⟨o', ho⟩ := h4.some
      rcases new p.1 (by rw [q]; simp) with z | z
      · exact absurd h2 z
      · rw [ho] at z; cases z
  ts := S.ts
  tn := S.tn
theorem same_upd {H : Hp} {p : Addr} {o : HO} (h : H p = none) : Same H (upd H p o) := fun b u e => by
  rw [upd_ne (ne_of_none e h)]; exact e
theorem same_upd2 {F H : Hp} {p : Addr} {o : HO} (h : Same F H) (hp : H p = none) : Same (upd F p o) (upd H p o) := fun b u e => by
  by_cases hb : b = p
  · subst hb; rw [upd_same] at e ⊢; exact e
  · rw [upd_ne hb] at e ⊢; exact h b u e
theorem StR.fnone (S : StR G ρ σ T F H) {p : Addr} (h : H p = none) : F p = none := S.fh.free h
theorem StR.h0none (S : StR G ρ σ T F H) {p : Addr} (h : H p = none) : G.H0 p = none := by
  cases e0 : G.H0 p with
  | none => rfl
  | some o =>
    by_cases hi : G.io = some p
    · exact absurd h (S.ion p hi).2.2
    · rw [S.keep p o e0 hi] at h; cases h
/-- a new object, frozen -/
theorem StR.alloc (S : StR G ρ σ T F H) {p : Addr} {o : HO} (h : H p = none) : StR G ρ σ T (upd F p o) (upd H p o) :=
  S.grow (same_upd (S.fnone h)) (same_upd2 S.fh h) (same_upd h) fun b e => by
    by_cases hb : b = p
    · subst hb; exact .inr h
    · rw [upd_ne hb] at e; exact .inl e
/-- a new object that nobody holds -/
theorem StR.junk (S : StR G ρ σ T F H) {p : Addr} {o : HO} (h : H p = none) : StR G ρ σ T F (upd H p o) :=
  S.grow (Same.refl F) (S.fh.trans (same_upd h)) (same_upd h) fun b e => .inl e
/-- a new object, owned -/
theorem StR.allocO (S : StR G ρ σ T F H) {p : Addr} {o : HO} {d : D} (h : H p = none) (w : Own G.K F (upd H p o) p d) : StR G ρ σ ((p, d) :: T) F (upd H p o) := by
  have S1 := S.junk (o := o) h
  have fresh : ∀ q : Addr, (∃ u, H q = some u) → q ≠ p := fun q ⟨u, e⟩ z => by rw [z, h] at e; cases e
  refine { S1 with tm := fun q hq => ?_, ts := fun q hq i e he => ?_, tn := ?_ }
  · rcases List.mem_cons.mp hq with rfl | hq
    · exact ⟨S.fnone h, S.h0none h, w⟩
    · exact S1.tm q hq
  · rcases List.mem_cons.mp hq with rfl | hq
    · intro z
      obtain ⟨a, h1, _, _, h4⟩ := S.ow i e he
      rw [h1] at z
      cases z
      exact fresh _ h4.some rfl
    · exact S1.ts q hq i e he
  · rw [List.map_cons, List.nodup_cons]
    refine ⟨fun hm => ?_, S.tn⟩
    obtain ⟨q, hq, e⟩ := List.mem_map.mp hm
    obtain ⟨_, _, w'⟩ := S.tm q hq
    exact fresh q.1 w'.some e
/-- forgetting what is held -/
theorem StR.drop {p : Addr × D} (S : StR G ρ σ (p :: T) F H) : StR G ρ σ T F H :=
  { S with tm := fun q hq => S.tm q (List.mem_cons_of_mem _ hq), ts := fun q hq => S.ts q (List.mem_cons_of_mem _ hq), tn := (List.nodup_cons.mp (by have := S.tn; rwa [List.map_cons] at this)).2 }
theorem StR.perm {T' : TL} (S : StR G ρ σ T F H) (h : T'.Perm T) : StR G ρ σ T' F H :=
  { S with tm := fun q hq => S.tm q (h.mem_iff.mp hq), ts := fun q hq => S.ts q (h.mem_iff.mp hq), tn := ((h.map _).nodup_iff).mpr S.tn }
/-- what is owned at a (by no slot, no other temporary) becomes frozen -/
theorem own_frz {K : PySem.W.Frag} {a : Addr} {d : D} (w : Own K F H a d) (hF : F a = none) (no : objD d = false) : ∃ o, H a = some o ∧ Rp K (upd F a o) (.ref a) d := by
  cases d <;> first | exact w.elim | (cases no; done) | skip
  · obtain ⟨vs, q, r⟩ := w
    exact ⟨_, q, .lst (SqL.of upd_same) (r.mono (same_upd hF))⟩
  · obtain ⟨l, q, r⟩ := w
    exact ⟨_, q, .dK upd_same (r.mono (same_upd hF))⟩
theorem StR.frz (S : StR G ρ σ T F H) {a : Addr} {o : HO} (hF : F a = none) (h0 : G.H0 a = none) (hH : H a = some o) (ns : ∀ (i : Nat) (e : D), ρ[i]? = some (.ow e) → σ[i]? ≠ some (some (.ref a)))
    (nt : ∀ p ∈ T, p.1 ≠ a) : StR G ρ σ T (upd F a o) H where
  len := S.len
  f0 := S.f0.trans (same_upd hF)
  fh := fun b u e => by
    by_cases hb : b = a
    · subst hb; rw [upd_same] at e; cases e; exact hH
    · rw [upd_ne hb] at e; exact S.fh b u e
  keep := S.keep
  new := fun b e => by
    by_cases hb : b = a
    · subst hb; exact .inr h0
    · rw [upd_ne hb] at e; exact S.new b e
  fz := fun i d e => by
    obtain ⟨v, h1, h2⟩ := S.fz i d e
    exact ⟨v, h1, h2.mono (same_upd hF)⟩
  ow := fun i d e => by
    obtain ⟨b, h1, h2, h3, h4⟩ := S.ow i d e
    have hb : b ≠ a := fun z => ns i d e (by rw [h1, z])
    exact ⟨b, h1, by rw [upd_ne hb]; exact h2, h3, h4.mono (same_upd hF) fun _ q => q⟩
  io := fun i d e => by
    obtain ⟨b, h1, h2, h3⟩ := S.io i d e
    exact ⟨b, h1, h2, h3.mono (same_upd hF) fun _ q => q⟩
  ap := S.ap
  ion := S.ion
  ii := S.ii
  tm := fun p hp => by
    obtain ⟨h2, h3, h4⟩ := S.tm p hp
    exact ⟨by rw [upd_ne (nt p hp)]; exact h2, h3, h4.mono (same_upd hF) fun _ q => q⟩
  ts := S.ts
  tn := S.tn
theorem set_get {α : Type} {l : List α} {i j : Nat} {x y : α} (h : (l.set i x)[j]? = some y) : (j = i ∧ y = x ∧ i < l.length) ∨ (j ≠ i ∧ l[j]? = some y) := by
  by_cases e : j = i
  · subst e
    by_cases hl : j < l.length
    · rw [List.getElem?_set_self hl] at h; cases h; exact .inl ⟨rfl, rfl, hl⟩
    · rw [List.getElem?_eq_none (by simpa using hl)] at h; cases h
  · rw [List.getElem?_set_ne (Ne.symm e)] at h; exact .inr ⟨e, h⟩
/-- a slot is read no more as what it was: less is said -/
theorem StR.forget (S : StR G ρ σ T F H) (i : Nat) : StR G (ρ.set i .emp) σ T F H where
  len := by rw [List.length_set]; exact S.len
  f0 := S.f0
  fh := S.fh
  keep := S.keep
  new := S.new
  fz := fun j d e => by
    rcases set_get e with ⟨_, q, _⟩ | ⟨_, q⟩
    · cases q
    · exact S.fz j d q
  ow := fun j d e => by
    rcases set_get e with ⟨_, q, _⟩ | ⟨_, q⟩
    · cases q
    · exact S.ow j d q
  io := fun j d e => by
    rcases set_get e with ⟨_, q, _⟩ | ⟨_, q⟩
    · cases q
    · exact S.io j d q
  ap := fun i' j a d e h1 h2 => by
    rcases set_get h1 with ⟨_, q, _⟩ | ⟨_, q1⟩
    · cases q
    · rcases set_get h2 with ⟨_, q, _⟩ | ⟨_, q2⟩
      · cases q
      · exact S.ap i' j a d e q1 q2
  ion := S.ion
  ii := fun i' j d e h1 h2 => by
    rcases set_get h1 with ⟨_, q, _⟩ | ⟨_, q1⟩
    · cases q
    · rcases set_get h2 with ⟨_, q, _⟩ | ⟨_, q2⟩
      · cases q
      · exact S.ii i' j d e q1 q2
  tm := S.tm
  ts := fun p hp j e h => by
    rcases set_get h with ⟨_, q, _⟩ | ⟨_, q⟩
    · cases q
    · exact S.ts p hp j e q
  tn := S.tn
/-- an owned slot's thing becomes frozen -/
theorem StR.frzSlot (S : StR G ρ σ T F H) {i : Nat} {d : D} (h : ρ[i]? = some (.ow d)) (no : objD d = false) : ∃ a o, σ[i]? = some (some (.ref a)) ∧ F a = none ∧ StR G (ρ.set i (.fz d)) σ T (upd F a o) H ∧ Rp G.K (upd F a o) (.ref a) d := by
  obtain ⟨a, h1, h2, h3, h4⟩ := S.ow i d h
  obtain ⟨o, h5, h6⟩ := own_frz h4 h2 no
  have S1 := (S.forget i).frz h2 h3 h5 (fun j e hj z => by
    rcases set_get hj with ⟨_, q, _⟩ | ⟨hn, q⟩
    · cases q
    · exact hn (S.ap j i a e d q h z h1)) fun p hp z => S.ts p hp i d h (by rw [h1, z])
  have es : ∀ (j : Nat) (y : Sl), (ρ.set i (.fz d))[j]? = some y → (j = i ∧ y = .fz d) ∨ (ρ.set i .emp)[j]? = some y := fun j y e => by
    rcases set_get e with ⟨q1, q2, _⟩ | ⟨q1, q2⟩
    · exact .inl ⟨q1, q2⟩
    · exact .inr (by rw [List.getElem?_set_ne (Ne.symm q1)]; exact q2)
  refine ⟨a, o, h1, h2, { S1 with len := by rw [List.length_set]; exact S.len, fz := fun j e hj => ?_, ow := fun j e hj => ?_, io := fun j e hj => ?_, ap := fun i' j b e e' q1 q2 => ?_, ii := fun i' j e e' q1 q2 => ?_, ts := fun p hp j e hj => ?_ }, h6⟩
  · rcases es j _ hj with ⟨rfl, q⟩ | q
    · cases q; exact ⟨_, h1, h6⟩
    · exact S1.fz j e q
  · rcases es j _ hj with ⟨rfl, q⟩ | q
    · cases q
    · exact S1.ow j e q
  · rcases es j _ hj with ⟨rfl, q⟩ | q
    · cases q
    · exact S1.io j e q
  · rcases es i' _ q1 with ⟨rfl, q⟩ | q1'
    · cases q
    · rcases es j _ q2 with ⟨rfl, q⟩ | q2'
      · cases q
      · exact S1.ap i' j b e e' q1' q2'
  · rcases es i' _ q1 with ⟨rfl, q⟩ | q1'
    · cases q
    · rcases es j _ q2 with ⟨rfl, q⟩ | q2'
      · cases q
      · exact S1.ii i' j e e' q1' q2'
  · rcases es j _ hj with ⟨rfl, q⟩ | q
    · cases q
    · exact S1.ts p hp j e q
/-- a temporary becomes frozen -/
theorem StR.frzTmp {a : Addr} {d : D} (S : StR G ρ σ ((a, d) :: T) F H) (no : objD d = false) : ∃ o, F a = none ∧ StR G ρ σ T (upd F a o) H ∧ Rp G.K (upd F a o) (.ref a) d := by
  obtain ⟨h2, h3, h4⟩ := S.tm (a, d) List.mem_cons_self
  obtain ⟨o, h5, h6⟩ := own_frz h4 h2 no
  refine ⟨o, h2, S.drop.frz h2 h3 h5 (fun j e hj => S.ts (a, d) List.mem_cons_self j e hj) fun p hp z => ?_, h6⟩
  have q := S.tn
  rw [List.map_cons, List.nodup_cons] at q
  exact q.1 (List.mem_map.mpr ⟨p, hp, z⟩)
/-- what a slot holds is stored: a frozen value -/
theorem StR.setF (S : StR G ρ σ T F H) {i : Nat} {v : V} {d : D} (r : Rp G.K F v d) : StR G (ρ.set i (.fz d)) (σ.set i (some v)) T F H := by
  have es : ∀ (j : Nat) (y : Sl), (ρ.set i (.fz d))[j]? = some y → (j = i ∧ y = .fz d ∧ (σ.set i (some v))[j]? = some (some v)) ∨ (ρ[j]? = some y ∧ (σ.set i (some v))[j]? = σ[j]?) := fun j y e => by
    rcases set_get e with ⟨q1, q2, q3⟩ | ⟨q1, q2⟩
    · subst q1; exact .inl ⟨rfl, q2, List.getElem?_set_self (by rw [← S.len]; exact q3)⟩
    · exact .inr ⟨q2, List.getElem?_set_ne (Ne.symm q1)⟩
  refine { S with len := by rw [List.length_set, List.length_set]; exact S.len, fz := fun j e hj => ?_, ow := fun j e hj => ?_, io := fun j e hj => ?_, ap := fun i' j b e e' q1 q2 z1 z2 => ?_, ii := fun i' j e e' q1 q2 => ?_, ts := fun p hp j e hj => ?_ }
  · rcases es j _ hj with ⟨rfl, q, z⟩ | ⟨q, z⟩
    · cases q; exact ⟨_, z, r⟩
    · rw [z]; exact S.fz j e q
  · rcases es j _ hj with ⟨rfl, q, z⟩ | ⟨q, z⟩
    · cases q
    · rw [z]; exact S.ow j e q
  · rcases es j _ hj with ⟨rfl, q, z⟩ | ⟨q, z⟩
    · cases q
    · rw [z]; exact S.io j e q
  · rcases es i' _ q1 with ⟨rfl, q, z⟩ | ⟨q, z⟩
    · cases q
    · rcases es j _ q2 with ⟨rfl, q', z'⟩ | ⟨q', z'⟩
      · cases q'
      · rw [z] at z1; rw [z'] at z2
        exact S.ap i' j b e e' q q' z1 z2
  · rcases es i' _ q1 with ⟨rfl, q, z⟩ | ⟨q, z⟩
    · cases q
    · rcases es j _ q2 with ⟨rfl, q', z'⟩ | ⟨q', z'⟩
      · cases q'
      · exact S.ii i' j e e' q q'
  · rcases es j _ hj with ⟨rfl, q, z⟩ | ⟨q, z⟩
    · cases q
    · rw [z]; exact S.ts p hp j e q
/-- .. a temporary -/
theorem StR.setO {a : Addr} {d : D} (S : StR G ρ σ ((a, d) :: T) F H) {i : Nat} : StR G (ρ.set i (.ow d)) (σ.set i (some (.ref a))) T F H := by
  have hS := S.drop
  obtain ⟨h2, h3, h4⟩ := S.tm (a, d) List.mem_cons_self
  have es : ∀ (j : Nat) (y : Sl), (ρ.set i (.ow d))[j]? = some y → (j = i ∧ y = .ow d ∧ (σ.set i (some (.ref a)))[j]? = some (some (.ref a))) ∨ (j ≠ i ∧ ρ[j]? = some y ∧ (σ.set i (some (.ref a)))[j]? = σ[j]?) := fun j y e => by
    rcases set_get e with ⟨q1, q2, q3⟩ | ⟨q1, q2⟩
    · subst q1; exact .inl ⟨rfl, q2, List.getElem?_set_self (by rw [← S.len]; exact q3)⟩
    · exact .inr ⟨q1, q2, List.getElem?_set_ne (Ne.symm q1)⟩
  refine { hS with len := by rw [List.length_set, List.length_set]; exact S.len, fz := fun j e hj => ?_, ow := fun j e hj => ?_, io := fun j e hj => ?_, ap := fun i' j b e e' q1 q2 z1 z2 => ?_, ii := fun i' j e e' q1 q2 => ?_, ts := fun p hp j e hj => ?_ }
  · rcases es j _ hj with ⟨rfl, q, z⟩ | ⟨_, q, z⟩
    · cases q
    · rw [z]; exact S.fz j e q
  · rcases es j _ hj with ⟨rfl, q, z⟩ | ⟨_, q, z⟩
    · cases q; exact ⟨a, z, h2, h3, h4⟩
    · rw [z]; exact S.ow j e q
  · rcases es j _ hj with ⟨rfl, q, z⟩ | ⟨_, q, z⟩
    · cases q
    · rw [z]; exact S.io j e q
  · rcases es i' _ q1 with ⟨rfl, q, z⟩ | ⟨n, q, z⟩
    · rw [z] at z1
      cases z1
      rcases es j _ q2 with ⟨rfl, q', z'⟩ | ⟨n', q', z'⟩
      · rfl
      · rw [z'] at z2
        exact absurd z2 (S.ts (a, d) List.mem_cons_self j e' q')
    · rcases es j _ q2 with ⟨rfl, q', z'⟩ | ⟨n', q', z'⟩
      · rw [z'] at z2
        cases z2
        rw [z] at z1
        exact absurd z1 (S.ts (a, d) List.mem_cons_self i' e q)
      · rw [z] at z1; rw [z'] at z2
        exact S.ap i' j b e e' q q' z1 z2
  · rcases es i' _ q1 with ⟨rfl, q, z⟩ | ⟨_, q, z⟩
    · cases q
    · rcases es j _ q2 with ⟨rfl, q', z'⟩ | ⟨_, q', z'⟩
      · cases q'
      · exact S.ii i' j e e' q q'
  · rcases es j _ hj with ⟨rfl, q, z⟩ | ⟨_, q, z⟩
    · rw [z]
      intro y
      have y' : a = p.1 := by cases y; rfl
      have w := S.tn
      rw [List.map_cons, List.nodup_cons] at w
      exact w.1 (List.mem_map.mpr ⟨p, hp, y'.symm⟩)
    · rw [z]; exact S.ts p (List.mem_cons_of_mem _ hp) j e q
end
end MM
/-! M2: mirrors, readings of mirrors, the rules of expressions. -/
namespace L2
open PySem
/-! ### weaker readings -/
section
variable {X : Cx}
theorem PE.weak {e : Expr} {t t' : TE} (h : PE X e t) (w : ∀ σ H Q, t' σ H Q → t σ H Q) : PE X e t' := ⟨fun pins s σ H Q I hw => h.run pins s σ H Q I (w σ H Q hw)⟩
theorem PT.weak {e : Expr} {t t' : TT} (h : PT X e t) (w : ∀ σ H Q, t' σ H Q → t σ H Q) : PT X e t' := ⟨fun pins s σ H Q I hw => h.run pins s σ H Q I (w σ H Q hw)⟩
theorem PW.weak {e : Expr} {t t' : TT} (h : PW X e t) (w : ∀ σ H Q, t' σ H Q → t σ H Q) : PW X e t' := ⟨fun wh pins s σ H Q I hw => h.run wh pins s σ H Q I (w σ H Q hw)⟩
theorem PA.weak {es : List Expr} {t t' : TA} (h : PA X es t) (w : ∀ σ H Q, t' σ H Q → t σ H Q) : PA X es t' := ⟨fun pos pins s σ H Q I hw => h.run pos pins s σ H Q I (w σ H Q hw)⟩
theorem PS.weak {st : Stmt} {t t' : TS} (h : PS X st t) (w : ∀ D σ H, t' D σ H → t D σ H) : PS X st t' := ⟨fun pins s σ H D I hw => h.run pins s σ H D I (w D σ H hw)⟩
theorem PSs.weak {st : List Stmt} {t t' : TS} (h : PSs X st t) (w : ∀ D σ H, t' D σ H → t D σ H) : PSs X st t' := ⟨fun pins s σ H D I hw => h.run pins s σ H D I (w D σ H hw)⟩
theorem PG.weak {e : Expr} {t t' : TG} (h : PG X e t) (w : ∀ v σ H Q, t' v σ H Q → t v σ H Q) : PG X e t' := ⟨fun pins s σ H v u Q I r hw => h.run pins s σ H v u Q I r (w v σ H Q hw)⟩
theorem PI.weak {tg e : Expr} {t t' : TI} (h : PI X tg e t) (w : ∀ σ H R, t' σ H R → t σ H R) : PI X tg e t' := ⟨fun pins s σ H R I hw => h.run pins s σ H R I (w σ H R hw)⟩
theorem PTs.weak {es : List Expr} {t t' : TT} (h : PTs X es t) (w : ∀ σ H Q, t' σ H Q → t σ H Q) : PTs X es t' := ⟨fun pins s σ H Q I hw => h.run pins s σ H Q I (w σ H Q hw)⟩
end
end L2
namespace MM
open PySem L2
abbrev M := En → Option (D × En)
abbrev MT := En → Option (Bool × En)
abbrev MA := En → Option (List D × En)
theorem map2 {α β : Type} {o : Option α} {f : α → β} {z : β} (h : o.map f = some z) : ∃ d, o = some d ∧ f d = z := by
  cases o with
  | none => cases h
  | some d => cases h; exact ⟨d, rfl, rfl⟩
/-! ### readings -/
def rd (G : Gx) (m : M) : TE := fun σ H Q => ∃ ρ T F d ρ', StR G ρ σ T F H ∧ m ρ = some (d, ρ') ∧
  ∀ v F' H', StR G ρ' σ T F' H' → Same F F' → Rp G.K F' v d → Q v H'
def rdo (G : Gx) (m : M) : TE := fun σ H Q => ∃ ρ T F d ρ', StR G ρ σ T F H ∧ m ρ = some (d, ρ') ∧
  ∀ a F' H', StR G ρ' σ ((a, d) :: T) F' H' → Same F F' → Q (.ref a) H'
def rdF (G : Gx) (b : Bool) (m : M) : TE := if b then rdo G m else rd G m
def rdt (G : Gx) (m : MT) : TT := fun σ H Q => ∃ ρ T F b ρ', StR G ρ σ T F H ∧ m ρ = some (b, ρ') ∧
  ∀ F' H', StR G ρ' σ T F' H' → Same F F' → Q b H'
def rda (G : Gx) (m : MA) : TA := fun σ H Q => ∃ ρ T F ds ρ', StR G ρ σ T F H ∧ m ρ = some (ds, ρ') ∧
  ∀ vs F' H', StR G ρ' σ T F' H' → Same F F' → RpAll G.K F' vs ds → Q vs H'
/-! ### mirrors of expressions -/
def mVar (i : Nat) : M := fun ρ => match ρ[i]? with
  | some (.fz d) => some (d, ρ)
  | some (.ow d) => if objD d then none else some (d, ρ.set i (.fz d))
  | _ => none
def mC (d : D) : M := fun ρ => some (d, ρ)
def mBin (g : D → D → Option D) (a b : M) : M := fun ρ => (a ρ).bind fun p => (b p.2).bind fun q => (g p.1 q.1).map fun d => (d, q.2)
def mUn (g : D → Option D) (a : M) : M := fun ρ => (a ρ).bind fun p => (g p.1).map fun d => (d, p.2)
def mIf (c : MT) (a b : M) : M := fun ρ => (c ρ).bind fun p => if p.1 then a p.2 else b p.2
def mNil : MA := fun ρ => some ([], ρ)
def mCons (a : M) (as : MA) : MA := fun ρ => (a ρ).bind fun p => (as p.2).map fun q => (p.1 :: q.1, q.2)
def mTup (as : MA) : M := fun ρ => (as ρ).map fun p => (.tuple p.1, p.2)
def mLst (as : MA) : M := fun ρ => (as ρ).map fun p => (.list p.1, p.2)
/-- a test of a value that is a bool -/
def mB (a : M) : MT := fun ρ => (a ρ).bind fun p => match p.1 with
  | .bool b => some (b, p.2)
  | _ => none
def dTru : D → Option Bool
  | .none => some false
  | .bool b => some b
  | .int i => some (i != 0)
  | .str x => if x.length ≤ sizeLine then some ((x.length : Int) != 0) else none
  | .list ds => some (!ds.isEmpty)
  | .tuple ds => some (!ds.isEmpty)
  | .dict _ => none
def mTru (a : M) : MT := fun ρ => (a ρ).bind fun p => (dTru p.1).map fun b => (b, p.2)
def mNotT (a : MT) : MT := fun ρ => (a ρ).map fun p => (!p.1, p.2)
def mAndT (a b : MT) : MT := fun ρ => (a ρ).bind fun p => if p.1 then b p.2 else some (false, p.2)
def mOrT (a b : MT) : MT := fun ρ => (a ρ).bind fun p => if p.1 then some (true, p.2) else b p.2
/-- a test as a value -/
def mOfT (a : MT) : M := fun ρ => (a ρ).map fun p => (.bool p.1, p.2)
section
variable {G : Gx} {X : Cx} {a b c e : Expr} {es : List Expr} {pos : Pos} {ma mb : M} {mc : MT}
theorem rVar (i : Nat) {x : Str} {pos : Pos} (hN : X.N[i]? = some x := by rfl) (hv : Vis X.env.scope x := by first | exact Or.inl rfl | exact Or.inr (Or.inl rfl) | exact Or.inr (Or.inr rfl)) (hd : (x == ("__debug__" : Str)) = false := by decide)
    (hcd : (x == ("__classdict__" : Str)) = false := by decide) : PE X (.Name x pos) (rd G (mVar i)) := (pe_var hN hv hd hcd).weak fun σ H Q ⟨ρ, T, F, d, ρ', S, e, k⟩ => by
  unfold mVar at e
  split at e
  · rename_i d' h
    cases e
    obtain ⟨v, h1, h2⟩ := S.fz i d h
    exact ⟨v, h1, k v F H S (Same.refl F) h2⟩
  · rename_i d' h
    split at e
    · cases e
    rename_i no
    cases e
    obtain ⟨p, o, h1, h2, h3, h4⟩ := S.frzSlot h (by simpa using no)
    exact ⟨_, h1, k _ _ H h3 (same_upd h2) h4⟩
  · cases e
theorem rC {t : V} {d : D} (h : PE X e (tC t)) (r : ∀ F, Rp G.K F t d) : PE X e (rd G (mC d)) := h.weak fun σ H Q ⟨ρ, T, F, d', ρ', S, e, k⟩ => by
  cases e
  exact k _ F H S (Same.refl F) (r F)
theorem rInt {i j pos} : PE X (.Constant (.int i) j pos) (rd G (mC (.int i))) := rC pe_int fun _ => .int i
theorem rBl {i j pos} : PE X (.Constant (.bool i) j pos) (rd G (mC (.bool i))) := rC pe_bl fun _ => .bl i
theorem rNon {j pos} : PE X (.Constant .none j pos) (rd G (mC .none)) := rC pe_non fun _ => .non
theorem rStr {i j pos} : PE X (.Constant (.str i) j pos) (rd G (mC (.str i))) := rC pe_str fun _ => .str i
theorem rGlob {x : Str} {v : V} {u : Value} {d : D} (hg : Gl X x) (hm : X.mg x = some u) (r : RelV v u) (hr : ∀ F, Rp G.K F v d) (hd : (x == ("__debug__" : Str)) = false := by decide) : PE X (.Name x pos) (rd G (mC d)) :=
  rC (pe_glob hg hm r hd) hr
/-- an owned new thing, taken as frozen -/
class NoObj (m : M) : Prop where
  no : ∀ ρ d ρ', m ρ = some (d, ρ') → objD d = false
instance {as : MA} : NoObj (mLst as) := ⟨fun ρ d ρ' h => by
  obtain ⟨p, _, e⟩ := map2 (show (as ρ).map (fun p => (PyData.list p.1, p.2)) = some (d, ρ') from h)
  cases e; rfl⟩
theorem rFz {m : M} [no : NoObj m] (h : PE X e (rdo G m)) : PE X e (rd G m) := h.weak fun σ H Q ⟨ρ, T, F, d, ρ', S, e, k⟩ =>
  ⟨ρ, T, F, d, ρ', S, e, fun a F' H' S' eF => by
    obtain ⟨o, h2, h3, h4⟩ := S'.frzTmp (no.no _ _ _ e)
    exact k _ _ H' h3 (eF.trans (same_upd h2)) h4⟩
/-- how the heaps may have grown behind an operation -/
inductive Grow (F H : Hp) : Hp → Hp → Prop
  | same : Grow F H F H
  | new {p : Addr} {o : HO} : H p = none → Grow F H (upd F p o) (upd H p o)
theorem Grow.st {ρ : En} {σ : St} {T : TL} {F H F' H' : Hp} (g : Grow F H F' H') (S : StR G ρ σ T F H) : StR G ρ σ T F' H' ∧ Same F F' := by
  cases g with
  | same => exact ⟨S, Same.refl F⟩
  | new h => exact ⟨S.alloc h, same_upd (S.fnone h)⟩
def Op2 (K : PySem.W.Frag) (r : R2) (g : D → D → Option D) : Prop := ∀ (F H : Hp) (x y : V) (dx dy d : D) (Q : VK), Same F H → Rp K F x dx → Rp K F y dy → g dx dy = some d →
  (∀ v F' H', Grow F H F' H' → Rp K F' v d → Q v H') → r x y H Q
def Op1 (K : PySem.W.Frag) (r : V → Hp → VK → Prop) (g : D → Option D) : Prop := ∀ (F H : Hp) (x : V) (dx d : D) (Q : VK), Same F H → Rp K F x dx → g dx = some d →
  (∀ v F' H', Grow F H F' H' → Rp K F' v d → Q v H') → r x H Q
theorem bind2 {m : M} {f : D × En → Option α} {ρ : En} {z : α} (h : (m ρ).bind f = some z) : ∃ d ρ1, m ρ = some (d, ρ1) ∧ f (d, ρ1) = some z := by
  cases e : m ρ with
  | none => rw [e] at h; cases h
  | some p => rw [e] at h; exact ⟨p.1, p.2, rfl, h⟩
theorem bindT {m : MT} {f : Bool × En → Option α} {ρ : En} {z : α} (h : (m ρ).bind f = some z) : ∃ d ρ1, m ρ = some (d, ρ1) ∧ f (d, ρ1) = some z := by
  cases e : m ρ with
  | none => rw [e] at h; cases h
  | some p => rw [e] at h; exact ⟨p.1, p.2, rfl, h⟩
theorem bindA {m : MA} {f : List D × En → Option α} {ρ : En} {z : α} (h : (m ρ).bind f = some z) : ∃ d ρ1, m ρ = some (d, ρ1) ∧ f (d, ρ1) = some z := by
  cases e : m ρ with
  | none => rw [e] at h; cases h
  | some p => rw [e] at h; exact ⟨p.1, p.2, rfl, h⟩
theorem tOp_rd {r : R2} {g : D → D → Option D} (o : Op2 G.K r g) : ∀ σ H Q, rd G (mBin g ma mb) σ H Q → tOp r (rd G ma) (rd G mb) σ H Q := fun σ H Q ⟨ρ, T, F, d, ρ', S, e, k⟩ => by
  obtain ⟨d1, ρ1, e1, e⟩ := bind2 e
  obtain ⟨d2, ρ2, e2, e⟩ := bind2 e
  obtain ⟨d3, e3, e⟩ := map2 e
  cases e
  refine ⟨ρ, T, F, d1, ρ1, S, e1, fun v1 F1 H1 S1 eF1 r1 => ⟨ρ1, T, F1, d2, _, S1, e2, fun v2 F2 H2 S2 eF2 r2 => ?_⟩⟩
  refine o F2 H2 v1 v2 d1 d2 d Q S2.fh (r1.mono eF2) r2 e3 fun v F' H' gr rv => ?_
  obtain ⟨S3, e3⟩ := gr.st S2
  exact k v F' H' S3 ((eF1.trans eF2).trans e3) rv
theorem tUn_rd {r : V → Hp → VK → Prop} {g : D → Option D} (o : Op1 G.K r g) : ∀ σ H Q, rd G (mUn g ma) σ H Q → tUn r (rd G ma) σ H Q := fun σ H Q ⟨ρ, T, F, d, ρ', S, e, k⟩ => by
  obtain ⟨d1, ρ1, e1, e⟩ := bind2 e
  obtain ⟨d3, e3, e⟩ := map2 e
  cases e
  refine ⟨ρ, T, F, d1, ρ1, S, e1, fun v1 F1 H1 S1 eF1 r1 => ?_⟩
  refine o F1 H1 v1 d1 d Q S1.fh r1 e3 fun v F' H' gr rv => ?_
  obtain ⟨S3, e3⟩ := gr.st S1
  exact k v F' H' S3 (eF1.trans e3) rv
theorem rOp {op : Operator} {r : R2} {g : D → D → Option D} (ho : OpR X (binaryOp op) r) (o : Op2 G.K r g) (ha : PE X a (rd G ma)) (hb : PE X b (rd G mb)) : PE X (.BinOp a op b pos) (rd G (mBin g ma mb)) :=
  (pe_op ho ha hb).weak (tOp_rd o)
theorem rUn {op : UnaryOp} {r : V → Hp → VK → Prop} {g : D → Option D} (ho : UnR X (unaryOp op) r) (o : Op1 G.K r g) (ha : PE X a (rd G ma)) : PE X (.UnaryOp op a pos) (rd G (mUn g ma)) :=
  (pe_un ho ha).weak (tUn_rd o)
theorem rCmp {op : CmpOp} {r : R2} {g : D → D → Option D} (ho : OpR X (compareOp op) r) (o : Op2 G.K r g) (ha : PE X a (rd G ma)) (hb : PE X b (rd G mb)) (hm : behindInMarks op b = false := by first | exact nomark _ | with_unfolding_all rfl) : PE X (.Compare a [op] [b] pos) (rd G (mBin g ma mb)) :=
  (pe_cmpR ho ha hb hm).weak (tOp_rd o)
theorem mB_rd {m : M} {t : TE} (w : ∀ σ H Q, rd G m σ H Q → t σ H Q) : ∀ σ H Q, rdt G (mB m) σ H Q → tTest t σ H Q := fun σ H Q ⟨ρ, T, F, b, ρ', S, e, k⟩ => by
  obtain ⟨d1, ρ1, e1, e⟩ := bind2 e
  refine w σ H _ ⟨ρ, T, F, d1, ρ1, S, e1, fun v F' H' S' eF r => ?_⟩
  dsimp only at e
  split at e
  · cases e
    cases r
    exact ⟨_, rfl, k F' H' S' eF⟩
  · cases e
theorem rCmpT {op : CmpOp} {r : R2} {g : D → D → Option D} (ho : OpR X (compareOp op) r) (o : Op2 G.K r g) (ha : PE X a (rd G ma)) (hb : PE X b (rd G mb)) (hm : behindInMarks op b = false := by first | exact nomark _ | with_unfolding_all rfl) : PT X (.Compare a [op] [b] pos) (rdt G (mB (mBin g ma mb))) :=
  (pt_cmpR ho ha hb hm).weak (mB_rd (tOp_rd o))
/-- a value's truth -/
theorem tru_rd {K : PySem.W.Frag} {F H : Hp} {v : V} {d : D} {b : Bool} (fh : Same F H) (r : Rp K F v d) (h : dTru d = some b) : TruV K v H b := by
  cases r with
  | non => cases h; exact rfl
  | bl b => cases h; exact rfl
  | int i => cases h; exact rfl
  | str x =>
    have h' : (if x.length ≤ sizeLine then some ((x.length : Int) != 0) else none) = some b := h
    split at h'
    · cases h'; exact ⟨by assumption, rfl⟩
    · cases h'
  | lst s r => cases h; exact .inl ⟨_, sql_mono fh s, by rw [r.isEmpty]⟩
  | tup s r => cases h; exact .inr (.inl ⟨_, sqt_mono fh s, by rw [r.isEmpty]⟩)
  | dK _ _ => cases h
open PySem.Spec PyProof.Rows in
theorem rTru (ha : PE X a (rd G ma)) (hK : G.K = X.K) (he : ∀ whole, isTrue a X.env whole = (do let v ← whole; standAt a.pos; holding [v] (truthy v)) := by intro _; rfl) : PT X a (rdt G (mTru ma)) := by
  refine ⟨fun pins s σ H Q I ⟨ρ, T, F, b, ρ', S, e, k⟩ => ?_⟩
  obtain ⟨d1, ρ1, e1, e⟩ := bind2 e
  obtain ⟨b', e2, e⟩ := map2 e
  cases e
  refine isTrue_plain (thn (ha.run pins s σ H _ I ⟨ρ, T, F, d1, _, S, e1, fun v F' H' S' eF r => (show ∃ F', StR G ρ1 σ T F' H' ∧ Same F F' ∧ Rp G.K F' v d1 from ⟨F', S', eF, r⟩)⟩) fun v s1 ⟨x, H1, I1, r1, F', S', eF, r⟩ => ?_) (he _)
  exact thn (tru_ok pins s1 σ H1 x v (fun c H2 => c = b ∧ H2 = H1) I1 r1 ⟨b, by rw [← hK]; exact tru_rd S'.fh r e2, rfl, rfl⟩) fun c s2 ⟨H2, I2, h1, h2⟩ => by
    subst h1; subst h2
    exact ⟨H2, I2, k F' H2 S' eF⟩
theorem rNotT (ha : PT X a (rdt G mc)) : PT X (.UnaryOp .Not a pos) (rdt G (mNotT mc)) := (pt_not ha).weak fun σ H Q ⟨ρ, T, F, b, ρ', S, e, k⟩ => by
  obtain ⟨p, e1, e⟩ := map2 e
  cases e
  exact ⟨ρ, T, F, p.1, p.2, S, e1, k⟩
theorem rAnd1 {m : MT} (ha : PT X a (rdt G m)) : PW X (.BoolOp .And [a] pos) (rdt G m) := pw_and1 ha
theorem rOr1 {m : MT} (ha : PT X a (rdt G m)) : PW X (.BoolOp .Or [a] pos) (rdt G m) := pw_or1 ha
theorem rAndT {m m' : MT} {rest : List Expr} (ha : PT X a (rdt G m)) (hb : PW X (.BoolOp .And (b :: rest) pos) (rdt G m')) : PW X (.BoolOp .And (a :: b :: rest) pos) (rdt G (mAndT m m')) :=
  (pw_and ha hb).weak fun σ H Q ⟨ρ, T, F, b, ρ', S, e, k⟩ => by
    obtain ⟨c, ρ1, e1, e⟩ := bindT e
    refine ⟨ρ, T, F, c, ρ1, S, e1, fun F' H' S' eF => ?_⟩
    cases c with
    | true => exact ⟨ρ1, T, F', b, ρ', S', e, fun F2 H2 S2 eF2 => k F2 H2 S2 (eF.trans eF2)⟩
    | false => cases e; exact k F' H' S' eF
theorem rOrT {m m' : MT} {rest : List Expr} (ha : PT X a (rdt G m)) (hb : PW X (.BoolOp .Or (b :: rest) pos) (rdt G m')) : PW X (.BoolOp .Or (a :: b :: rest) pos) (rdt G (mOrT m m')) :=
  (pw_or ha hb).weak fun σ H Q ⟨ρ, T, F, b, ρ', S, e, k⟩ => by
    obtain ⟨c, ρ1, e1, e⟩ := bindT e
    refine ⟨ρ, T, F, c, ρ1, S, e1, fun F' H' S' eF => ?_⟩
    cases c with
    | true => cases e; exact k F' H' S' eF
    | false => exact ⟨ρ1, T, F', b, ρ', S', e, fun F2 H2 S2 eF2 => k F2 H2 S2 (eF.trans eF2)⟩
/-- and, or, not as values: of bools -/
def mAndV (a b : M) : M := fun ρ => (a ρ).bind fun p => match p.1 with
  | .bool true => b p.2
  | .bool false => some (.bool false, p.2)
  | _ => none
def mOrV (a b : M) : M := fun ρ => (a ρ).bind fun p => match p.1 with
  | .bool true => some (.bool true, p.2)
  | .bool false => b p.2
  | _ => none
def dNot : D → Option D
  | .bool b => some (.bool (!b))
  | _ => none
theorem rOne {op} {m : M} (h : PE X a (rd G m)) : PE X (.BoolOp op [a] pos) (rd G m) := pe_one h
theorem rAndV {m m' : M} {rest : List Expr} (ha : PE X a (rd G m)) (hb : PE X (.BoolOp .And (b :: rest) pos) (rd G m')) : PE X (.BoolOp .And (a :: b :: rest) pos) (rd G (mAndV m m')) :=
  (pe_and ha hb).weak fun σ H Q ⟨ρ, T, F, d, ρ', S, e, k⟩ => by
    obtain ⟨c, ρ1, e1, e⟩ := bind2 e
    refine ⟨ρ, T, F, c, ρ1, S, e1, fun v F' H' S' eF r => ?_⟩
    dsimp only at e
    split at e
    · cases r
      exact ⟨_, rfl, ⟨ρ1, T, F', d, ρ', S', e, fun v F2 H2 S2 eF2 r2 => k v F2 H2 S2 (eF.trans eF2) r2⟩⟩
    · cases e; cases r
      exact ⟨_, rfl, k _ F' H' S' eF (.bl _)⟩
    · cases e
theorem rOrV {m m' : M} {rest : List Expr} (ha : PE X a (rd G m)) (hb : PE X (.BoolOp .Or (b :: rest) pos) (rd G m')) : PE X (.BoolOp .Or (a :: b :: rest) pos) (rd G (mOrV m m')) :=
  (pe_or ha hb).weak fun σ H Q ⟨ρ, T, F, d, ρ', S, e, k⟩ => by
    obtain ⟨c, ρ1, e1, e⟩ := bind2 e
    refine ⟨ρ, T, F, c, ρ1, S, e1, fun v F' H' S' eF r => ?_⟩
    dsimp only at e
    split at e
    · cases e; cases r
      exact ⟨_, rfl, k _ F' H' S' eF (.bl _)⟩
    · cases r
      exact ⟨_, rfl, ⟨ρ1, T, F', d, ρ', S', e, fun v F2 H2 S2 eF2 r2 => k v F2 H2 S2 (eF.trans eF2) r2⟩⟩
    · cases e
theorem rNotV {m : M} (ha : PE X a (rd G m)) : PE X (.UnaryOp .Not a pos) (rd G (mUn dNot m)) := (pe_not ha).weak fun σ H Q ⟨ρ, T, F, d, ρ', S, e, k⟩ => by
  obtain ⟨d1, ρ1, e1, e⟩ := bind2 e
  obtain ⟨d3, e3, e⟩ := map2 e
  cases e
  refine ⟨ρ, T, F, d1, _, S, e1, fun v F' H' S' eF r => ?_⟩
  dsimp only at e3
  cases r <;> cases e3
  exact ⟨_, rfl, k _ F' H' S' eF (.bl _)⟩
theorem rIf (hc : PT X c (rdt G mc)) (ha : PE X a (rd G ma)) (hb : PE X b (rd G mb)) : PE X (.IfExp c a b pos) (rd G (mIf mc ma mb)) := (pe_ifExp hc ha hb).weak fun σ H Q ⟨ρ, T, F, d, ρ', S, e, k⟩ => by
  obtain ⟨c, ρ1, e1, e⟩ := bindT e
  refine ⟨ρ, T, F, c, ρ1, S, e1, fun F' H' S' eF => ?_⟩
  cases c with
  | true => exact ⟨ρ1, T, F', d, ρ', S', e, fun v F2 H2 S2 eF2 r2 => k v F2 H2 S2 (eF.trans eF2) r2⟩
  | false => exact ⟨ρ1, T, F', d, ρ', S', e, fun v F2 H2 S2 eF2 r2 => k v F2 H2 S2 (eF.trans eF2) r2⟩
/-! ### arguments, displays -/
def MLen (ms : MA) (n : Nat) : Prop := ∀ ρ ds ρ', ms ρ = some (ds, ρ') → ds.length = n
structure RA (G : Gx) (X : Cx) (es : List Expr) (ms : MA) : Prop where
  pa : PA X es (rda G ms)
  len : MLen ms es.length
theorem rNil : RA G X [] mNil := ⟨pa_nil.weak fun σ H Q ⟨ρ, T, F, ds, ρ', S, e, k⟩ => by
  cases e
  exact k [] F H S (Same.refl F) .nil, fun ρ ds ρ' h => by cases h; rfl⟩
theorem rCons {m : M} {ms : MA} (ha : PE X e (rd G m)) (hr : RA G X es ms) (hs : starEach (e :: es) X.env = (false, eval e X.env) :: starEach es X.env := by rfl) : RA G X (e :: es) (mCons m ms) :=
  ⟨(pa_cons ha hr.pa hs).weak fun σ H Q ⟨ρ, T, F, ds, ρ', S, e, k⟩ => by
    obtain ⟨d1, ρ1, e1, e⟩ := bind2 e
    obtain ⟨q, e2, e⟩ := map2 e
    cases e
    refine ⟨ρ, T, F, d1, ρ1, S, e1, fun v F1 H1 S1 eF1 r1 => ⟨ρ1, T, F1, q.1, q.2, S1, e2, fun vs F2 H2 S2 eF2 r2 => ?_⟩⟩
    exact k _ F2 H2 S2 (eF1.trans eF2) (.cons (r1.mono eF2) r2), fun ρ ds ρ' h => by
    obtain ⟨d1, ρ1, e1, h⟩ := bind2 h
    obtain ⟨q, e2, h⟩ := map2 h
    cases h
    simp [hr.len _ _ _ e2]⟩
theorem rTup {ms : MA} {x1} (h : RA G X es ms) (hl : es.length ≤ sizeLine := by exact (Nat.le_of_ble_eq_true rfl)) : PE X (.Tuple es x1 pos) (rd G (mTup ms)) :=
  (pe_tup h.pa).weak fun σ H Q ⟨ρ, T, F, d, ρ', S, e, k⟩ => by
    obtain ⟨p, e1, e⟩ := map2 e
    cases e
    refine ⟨ρ, T, F, p.1, p.2, S, e1, fun vs F1 H1 S1 eF1 r1 => ⟨by rw [r1.length, h.len _ _ _ e1]; exact hl, fun q hq => ?_⟩⟩
    exact k _ _ _ (S1.alloc hq) (eF1.trans (same_upd (S1.fnone hq))) (.tup (SqT.of upd_same) (r1.mono (same_upd (S1.fnone hq))))
theorem rLst {ms : MA} (h : RA G X es ms) (hl : es.length ≤ sizeLine := by exact (Nat.le_of_ble_eq_true rfl)) : PE X (.List es pos) (rdo G (mLst ms)) :=
  (pe_lst h.pa).weak fun σ H Q ⟨ρ, T, F, d, ρ', S, e, k⟩ => by
    obtain ⟨p, e1, e⟩ := map2 e
    cases e
    refine ⟨ρ, T, F, p.1, p.2, S, e1, fun vs F1 H1 S1 eF1 r1 => ⟨by rw [r1.length, h.len _ _ _ e1]; exact hl, fun q hq => ?_⟩⟩
    exact k _ _ _ (S1.allocO hq ⟨vs, upd_same, r1⟩) eF1
end
end MM
/-! M3: statements, targets, loops, comprehensions, functions and their calls. -/
namespace MM
open PySem L2
inductive Fl where
  | nx | bk | ct | rt (d : D) (o : Bool)
abbrev MS := En → Option (Fl × En)
abbrev MG := D → En → Option En
def FlOk (G : Gx) (T : TL) (W : Ends) (ρ' : En) (F : Hp) : Fl → Prop
  | .nx => ∀ (σ' : L2.St) F' H', StR G ρ' σ' T F' H' → Same F F' → W.nx σ' H'
  | .bk => ∀ (σ' : L2.St) F' H', StR G ρ' σ' T F' H' → Same F F' → W.bk σ' H'
  | .ct => ∀ (σ' : L2.St) F' H', StR G ρ' σ' T F' H' → Same F F' → W.ct σ' H'
  | .rt d false => ∀ v (σ' : L2.St) F' H', StR G ρ' σ' T F' H' → Same F F' → Rp G.K F' v d → W.rt v H'
  | .rt d true => objD d = false → ∀ a (σ' : L2.St) F' H', StR G ρ' σ' ((a, d) :: T) F' H' → Same F F' → W.rt (.ref a) H'
theorem FlOk.mono {G : Gx} {T : TL} {W : Ends} {ρ' : En} {F F1 : Hp} {f : Fl} (h : FlOk G T W ρ' F f) (e : Same F F1) : FlOk G T W ρ' F1 f := by
  cases f with
  | nx => exact fun σ F' H' S q => h σ F' H' S (e.trans q)
  | bk => exact fun σ F' H' S q => h σ F' H' S (e.trans q)
  | ct => exact fun σ F' H' S q => h σ F' H' S (e.trans q)
  | rt d o =>
    cases o with
    | false => exact fun v σ F' H' S q r => h v σ F' H' S (e.trans q) r
    | true => exact fun no v σ F' H' S q => h no v σ F' H' S (e.trans q)
def rds (G : Gx) (m : MS) : TS := fun W σ H => ∃ ρ T F fl ρ', StR G ρ σ T F H ∧ m ρ = some (fl, ρ') ∧ FlOk G T W ρ' F fl
def mSkip : MS := fun ρ => some (.nx, ρ)
def mSeq (a b : MS) : MS := fun ρ => (a ρ).bind fun p => match p.1 with
  | .nx => b p.2
  | f => some (f, p.2)
def mDo (a : M) : MS := fun ρ => (a ρ).map fun p => (.nx, p.2)
def mRet (a : M) : MS := fun ρ => (a ρ).map fun p => (.rt p.1 false, p.2)
def mRetO (a : M) : MS := fun ρ => (a ρ).map fun p => (.rt p.1 true, p.2)
def mRetN : MS := fun ρ => some (.rt .none false, ρ)
def mIfS (c : MT) (a b : MS) : MS := fun ρ => (c ρ).bind fun p => if p.1 then a p.2 else b p.2
def mStuck : MS := fun _ => none
def mSet (i : Nat) (a : M) : MS := fun ρ => (a ρ).map fun p => (.nx, p.2.set i (.fz p.1))
def mSetO (i : Nat) (a : M) : MS := fun ρ => (a ρ).map fun p => (.nx, p.2.set i (.ow p.1))
section
variable {G : Gx} {X : Cx} {e : Expr} {st : Stmt} {rest : List Stmt} {pos : Pos} {m : M} {a b : MS}
theorem bindS {m : MS} {f : Fl × En → Option α} {ρ : En} {z : α} (h : (m ρ).bind f = some z) : ∃ d ρ1, m ρ = some (d, ρ1) ∧ f (d, ρ1) = some z := by
  cases e : m ρ with
  | none => rw [e] at h; cases h
  | some p => rw [e] at h; exact ⟨p.1, p.2, rfl, h⟩
theorem sNil : PSs X [] (rds G mSkip) := pss_nil.weak fun W σ H ⟨ρ, T, F, fl, ρ', S, e, k⟩ => by
  cases e
  exact k σ F H S (Same.refl F)
theorem sOne (h : PS X st (rds G a)) : PSs X [st] (rds G a) := pss_one h
theorem sCons (h : PS X st (rds G a)) (h2 : PSs X rest (rds G b)) : PSs X (st :: rest) (rds G (mSeq a b)) := (pss_cons h h2).weak fun W σ H ⟨ρ, T, F, fl, ρ', S, e, k⟩ => by
  obtain ⟨f1, ρ1, e1, e⟩ := bindS e
  refine ⟨ρ, T, F, f1, ρ1, S, e1, ?_⟩
  cases f1 with
  | nx => exact fun σ' F' H' S' q => ⟨ρ1, T, F', fl, ρ', S', e, k.mono q⟩
  | bk => cases e; exact k
  | ct => cases e; exact k
  | rt d o => cases e; cases o <;> exact k
theorem sPass : PS X (.Pass pos) (rds G mSkip) := ps_pass.weak fun W σ H ⟨ρ, T, F, fl, ρ', S, e, k⟩ => by
  cases e
  exact k σ F H S (Same.refl F)
def mBrk : MS := fun ρ => some (.bk, ρ)
def mCont : MS := fun ρ => some (.ct, ρ)
theorem sBrk : PS X (.Break pos) (rds G mBrk) := ps_break.weak fun W σ H ⟨ρ, T, F, fl, ρ', S, e, k⟩ => by
  cases e
  exact k σ F H S (Same.refl F)
theorem sCont : PS X (.Continue pos) (rds G mCont) := ps_continue.weak fun W σ H ⟨ρ, T, F, fl, ρ', S, e, k⟩ => by
  cases e
  exact k σ F H S (Same.refl F)
theorem sStuck : PS X st (rds G mStuck) := ps_never.weak fun W σ H ⟨ρ, T, F, fl, ρ', S, e, k⟩ => by cases e
theorem sDo (he : PE X e (rd G m)) (hs : swapsWith e none pos.line X.env = pure false := by rfl) : PS X (.Expr e pos) (rds G (mDo m)) := (ps_expr he hs).weak fun W σ H ⟨ρ, T, F, fl, ρ', S, e, k⟩ => by
  obtain ⟨p, e1, e⟩ := map2 e
  cases e
  exact ⟨ρ, T, F, p.1, p.2, S, e1, fun v F' H' S' q _ => k σ F' H' S' q⟩
theorem sRet (he : PE X e (rd G m)) : PS X (.Return (some e) pos) (rds G (mRet m)) := (ps_ret he).weak fun W σ H ⟨ρ, T, F, fl, ρ', S, e, k⟩ => by
  obtain ⟨p, e1, e⟩ := map2 e
  cases e
  exact ⟨ρ, T, F, p.1, p.2, S, e1, fun v F' H' S' q r => k v σ F' H' S' q r⟩
theorem sRetO [no : NoObj m] (he : PE X e (rdo G m)) : PS X (.Return (some e) pos) (rds G (mRetO m)) := (ps_ret he).weak fun W σ H ⟨ρ, T, F, fl, ρ', S, e, k⟩ => by
  obtain ⟨p, e1, e⟩ := map2 e
  cases e
  exact ⟨ρ, T, F, p.1, p.2, S, e1, fun v F' H' S' q => k (no.no _ _ _ e1) v σ F' H' S' q⟩
theorem sRetN : PS X (.Return none pos) (rds G mRetN) := ps_retN.weak fun W σ H ⟨ρ, T, F, fl, ρ', S, e, k⟩ => by
  cases e
  exact k .non σ F H S (Same.refl F) .non
theorem sIf {c : Expr} {mc : MT} {as bs : List Stmt} (hc : PT X c (rdt G mc)) (ha : PSs X as (rds G a)) (hb : PSs X bs (rds G b)) : PS X (.If c as bs pos) (rds G (mIfS mc a b)) := (ps_if hc ha hb).weak fun W σ H ⟨ρ, T, F, fl, ρ', S, e, k⟩ => by
  obtain ⟨c, ρ1, e1, e⟩ := bindT e
  refine ⟨ρ, T, F, c, ρ1, S, e1, fun F' H' S' q => ?_⟩
  cases c with
  | true => exact ⟨ρ1, T, F', fl, ρ', S', e, k.mono q⟩
  | false => exact ⟨ρ1, T, F', fl, ρ', S', e, k.mono q⟩
theorem sSet (i : Nat) {x : Str} {pos' : Pos} (hN : X.N.Nodup) (he : PE X e (rd G m)) (hi : X.N[i]? = some x := by rfl) (hx : Loc X.env.scope x := by first | exact Or.inl rfl | exact Or.inr rfl) (hs : swapsWith e (some (.Name x pos')) pos.line X.env = pure false := by rfl)
    (hf : X.fn x = true ∨ X.env.scope.names.lookup x = some .local := by first | exact .inl rfl | exact .inr rfl) : PS X (.Assign [.Name x pos'] e pos) (rds G (mSet i m)) :=
  (ps_set hN hi hx he hs hf).weak fun W σ H ⟨ρ, T, F, fl, ρ', S, e, k⟩ => by
    obtain ⟨p, e1, e⟩ := map2 e
    cases e
    exact ⟨ρ, T, F, p.1, p.2, S, e1, fun v F' H' S' q r => k _ F' H' (S'.setF r) q⟩
theorem sSetO (i : Nat) {x : Str} {pos' : Pos} (hN : X.N.Nodup) (he : PE X e (rdo G m)) (hi : X.N[i]? = some x := by rfl) (hx : Loc X.env.scope x := by first | exact Or.inl rfl | exact Or.inr rfl) (hs : swapsWith e (some (.Name x pos')) pos.line X.env = pure false := by rfl)
    (hf : X.fn x = true ∨ X.env.scope.names.lookup x = some .local := by first | exact .inl rfl | exact .inr rfl) : PS X (.Assign [.Name x pos'] e pos) (rds G (mSetO i m)) :=
  (ps_set hN hi hx he hs hf).weak fun W σ H ⟨ρ, T, F, fl, ρ', S, e, k⟩ => by
    obtain ⟨p, e1, e⟩ := map2 e
    cases e
    exact ⟨ρ, T, F, p.1, p.2, S, e1, fun v F' H' S' q => k _ F' H' S'.setO q⟩
end
/-! ### targets -/
def rdg (G : Gx) (sl : List Nat) (g : MG) : TG := fun v σ H Q => ∃ ρ T F d ρ', StR G ρ σ T F H ∧ Rp G.K F v d ∧ g d ρ = some ρ' ∧
  ∀ (σ' : L2.St) F' H', StR G ρ' σ' T F' H' → Same F F' → σ'.length = σ.length → (∀ i, i ∉ sl → σ'[i]? = σ[i]?) → Q σ' H'
def gN (i : Nat) : MG := fun d ρ => some (ρ.set i (.fz d))
/-- a tuple of targets -/
def gTs : List MG → List D → En → Option En
  | [], [], ρ => some ρ
  | g :: gs, d :: ds, ρ => (g d ρ).bind fun ρ1 => gTs gs ds ρ1
  | _, _, _ => none
def gT (gs : List MG) : MG := fun d ρ => match d with
  | .tuple ds => gTs gs ds ρ
  | _ => none
def rdgs (G : Gx) (sl : List Nat) (gs : List MG) : TGs := fun vs σ H Q => ∃ ρ T F ds ρ', StR G ρ σ T F H ∧ RpAll G.K F vs ds ∧ gTs gs ds ρ = some ρ' ∧
  ∀ (σ' : L2.St) F' H', StR G ρ' σ' T F' H' → Same F F' → σ'.length = σ.length → (∀ i, i ∉ sl → σ'[i]? = σ[i]?) → Q σ' H'
section
variable {G : Gx} {X : Cx} {e : Expr} {es : List Expr} {pos : Pos}
theorem tgName (i : Nat) {x : Str} (hN : X.N.Nodup) (hi : X.N[i]? = some x := by rfl) (hx : Loc X.env.scope x := by first | exact Or.inl rfl | exact Or.inr rfl) (hf : X.fn x = true ∨ X.env.scope.names.lookup x = some .local := by first | exact .inl rfl | exact .inr rfl) : PG X (.Name x pos) (rdg G [i] (gN i)) :=
  (pg_name hN hi hx hf).weak fun v σ H Q ⟨ρ, T, F, d, ρ', S, r, e, k⟩ => by
    cases e
    refine k _ F H (S.setF r) (Same.refl F) (by rw [List.length_set]) fun j hj => ?_
    exact List.getElem?_set_ne (fun z => hj (by simp [z]))
theorem tgNil : PGs X [] (rdgs G [] []) := ⟨fun pins s σ H vs us Q I r ⟨ρ, T, F, ds, ρ', S, ra, e, k⟩ => by
  cases ds with
  | cons _ _ => cases e
  | nil =>
    cases ra
    cases e
    exact pgs_nil.run pins s σ H [] us Q I r ⟨rfl, k σ F H S (Same.refl F) rfl fun _ _ => rfl⟩⟩
theorem tgCons {sl sl' : List Nat} {g : MG} {gs : List MG} (h1 : PG X e (rdg G sl g)) (h2 : PGs X es (rdgs G sl' gs)) (hs : (assignEach (e :: es) X.env).map (·.2) = assign e X.env :: (assignEach es X.env).map (·.2) := by rfl) : PGs X (e :: es) (rdgs G (sl ++ sl') (g :: gs)) :=
  ⟨fun pins s σ H vs us Q I r ⟨ρ, T, F, ds, ρ', S, ra, e, k⟩ => by
    refine (pgs_cons h1 h2 hs).run pins s σ H vs us Q I r ?_
    cases ra with
    | nil => cases e
    | @cons v vs d ds rv rt =>
      cases e1 : g d ρ with
      | none => rw [gTs, e1] at e; cases e
      | some ρ1 =>
        rw [gTs, e1] at e
        refine ⟨v, vs, rfl, ρ, T, F, d, ρ1, S, rv, e1, fun σ1 F1 H1 S1 q1 l1 n1 => ⟨ρ1, T, F1, ds, ρ', S1, rt.mono q1, e, fun σ2 F2 H2 S2 q2 l2 n2 => ?_⟩⟩
        exact k σ2 F2 H2 S2 (q1.trans q2) (l2.trans l1) fun i hi => (n2 i fun z => hi (List.mem_append_right _ z)).trans (n1 i fun z => hi (List.mem_append_left _ z))⟩
theorem tgTup {k : Nat} {sl : List Nat} {gs : List MG} (hc : X.calm = true) (h : PGs X es (rdgs G sl gs)) (hK : G.K = X.K) (hl : gs.length = (assignEach es X.env).length := by rfl) (hst : (assignEach es X.env).findIdx? (·.1) = none := by rfl) : PG X (.Tuple es k pos) (rdg G sl (gT gs)) := by
  refine ⟨fun pins s σ H v u Q I r ⟨ρ, T, F, d, ρ', S, rv, e, kk⟩ => ?_⟩
  refine (pg_tup (n := gs.length) hc h hl.symm hst).run pins s σ H v u Q I r ?_
  have hlen : ∀ (gs : List MG) (ds : List D) ρ ρ', gTs gs ds ρ = some ρ' → ds.length = gs.length := by
    intro gs
    induction gs with
    | nil =>
      intro ds ρ ρ' h
      cases ds with
      | nil => rfl
      | cons _ _ => cases h
    | cons g gs ih =>
      intro ds ρ ρ' h
      cases ds with
      | nil => cases h
      | cons d ds =>
        cases e1 : g d ρ with
        | none => rw [gTs, e1] at h; cases h
        | some ρ1 =>
          rw [gTs, e1] at h
          rw [List.length_cons, List.length_cons, ih ds ρ1 ρ' h]
  cases d with
  | tuple ds =>
    cases rv with
    | tup hs ra =>
      refine ⟨_, _, rfl, (by rw [← hK]; exact sqt_mono S.fh hs), ?_, ρ, T, F, ds, ρ', S, ra, e, kk⟩
      rw [ra.length]
      exact hlen _ _ _ _ e
  | _ => cases e
end
/-! ### what is walked -/
def Walks (K : PySem.W.Frag) (J : It) (F : Hp) (ds : List D) : Prop := ∀ F1 H, Same F F1 → Same F1 H →
  (∀ i, i < ds.length → J.go i H ∧ ∀ x H', J.yld i H x H' → ∃ d F', ds[i]? = some d ∧ Grow F1 H F' H' ∧ Rp K F' x d) ∧ J.stop ds.length H
abbrev MI := En → Option (List D × En)
def rdi (G : Gx) (m : MI) : TI := fun σ H R => ∃ ρ T F ds ρ', StR G ρ σ T F H ∧ m ρ = some (ds, ρ') ∧
  ∀ J F' H', StR G ρ' σ T F' H' → Same F F' → Walks G.K J F' ds → R J H'
def dSeq : D → Option (List D)
  | .list ds => some ds
  | .tuple ds => some ds
  | _ => none
def dLst : D → Option (List D)
  | .list ds => some ds
  | _ => none
def dTup : D → Option (List D)
  | .tuple ds => some ds
  | _ => none
def iOf (g : D → Option (List D)) (a : M) : MI := fun ρ => (a ρ).bind fun p => (g p.1).map fun ds => (ds, p.2)
def iRange1 (a : M) : MI := fun ρ => (a ρ).bind fun p => match p.1 with
  | .int n => if -(2 ^ 62) ≤ n ∧ n < 2 ^ 62 then some ((List.range n.toNat).map fun i => .int (i : Nat), p.2) else none
  | _ => none
def iRange2 (a b : M) : MI := fun ρ => (a ρ).bind fun p => (b p.2).bind fun q => match p.1, q.1 with
  | .int i, .int j => if -(2 ^ 62) ≤ i ∧ i < 2 ^ 62 ∧ -(2 ^ 62) ≤ j ∧ j < 2 ^ 62 then some ((List.range (j - i).toNat).map fun k => .int (i + (k : Nat)), q.2) else none
  | _, _ => none
def iEnum (a : M) : MI := fun ρ => (a ρ).bind fun p => (dSeq p.1).map fun ds => ((List.range ds.length).zip ds |>.map fun z => .tuple [.int (z.1 : Nat), z.2], p.2)
def iZip (a b : M) : MI := fun ρ => (a ρ).bind fun p => (b p.2).bind fun q => match p.1, q.1 with
  | .list xs, .list ys => some ((xs.zip ys).map fun z => .tuple [z.1, z.2], q.2)
  | .tuple xs, .tuple ys => some ((xs.zip ys).map fun z => .tuple [z.1, z.2], q.2)
  | _, _ => none
def iRevs (a : M) : MI := fun ρ => (a ρ).bind fun p => (dSeq p.1).map fun ds => (ds.reverse, p.2)
section
variable {G : Gx} {X : Cx} {e e2 tg : Expr} {es : List Expr} {p pos : Pos} {a b : M}
theorem walks_list {K : PySem.W.Frag} {F : Hp} {l : Addr} {xs : List V} {ds : List D} (h : SqL K F l xs) (r : RpAll K F xs ds) : Walks K (Itl K l) F ds := fun F1 H e1 e2 => by
  have hH := sql_mono (e1.trans e2) h
  refine ⟨fun i hi => ?_, ⟨xs, hH, Nat.le_of_eq r.length⟩⟩
  obtain ⟨v, hv, rv⟩ := r.get (List.getElem?_eq_getElem hi)
  refine ⟨⟨xs, v, hH, hv⟩, fun x H' ⟨eH, hx⟩ => ?_⟩
  subst eH
  have := hx xs hH
  rw [hv] at this
  cases this
  exact ⟨_, F1, List.getElem?_eq_getElem hi, .same, rv.mono e1⟩
theorem walks_tup {K : PySem.W.Frag} {F : Hp} {l : Addr} {xs : List V} {ds : List D} (h : SqT K F l xs) (r : RpAll K F xs ds) : Walks K (Itt K l) F ds := fun F1 H e1 e2 => by
  have hH := sqt_mono (e1.trans e2) h
  refine ⟨fun i hi => ?_, ⟨xs, hH, Nat.le_of_eq r.length⟩⟩
  obtain ⟨v, hv, rv⟩ := r.get (List.getElem?_eq_getElem hi)
  refine ⟨⟨xs, v, hH, hv⟩, fun x H' ⟨eH, hx⟩ => ?_⟩
  subst eH
  have := hx xs hH
  rw [hv] at this
  cases this
  exact ⟨_, F1, List.getElem?_eq_getElem hi, .same, rv.mono e1⟩
/-- a list, a tuple -/
theorem PI.or {t t' : TI} (h : PI X tg e t) (h' : PI X tg e t') : PI X tg e (fun σ H R => t σ H R ∨ t' σ H R) := ⟨fun pins s σ H R I q => q.elim (h.run pins s σ H R I) (h'.run pins s σ H R I)⟩
theorem wSeq (ha : PE X e (rd G a)) (hK : G.K = X.K) : PI X tg e (rdi G (iOf dSeq a)) := by
  refine (PI.or (pi_list ha) (pi_tup ha)).weak fun σ H R ⟨ρ, T, F, ds, ρ', S, em, k⟩ => ?_
  obtain ⟨d1, ρ1, e1, em⟩ := bind2 em
  obtain ⟨ds', e2, em⟩ := map2 em
  cases em
  cases d1 with
  | list xs =>
    cases e2
    refine .inl ⟨ρ, T, F, _, ρ1, S, e1, fun v F' H' S' q r => ?_⟩
    cases r with
    | lst hs ra => exact ⟨_, rfl, ⟨_, by rw [← hK]; exact sql_mono S'.fh hs⟩, by rw [← hK]; exact k _ F' H' S' q (walks_list hs ra)⟩
  | tuple xs =>
    cases e2
    refine .inr ⟨ρ, T, F, _, ρ1, S, e1, fun v F' H' S' q r => ?_⟩
    cases r with
    | tup hs ra => exact ⟨_, rfl, ⟨_, by rw [← hK]; exact sqt_mono S'.fh hs⟩, by rw [← hK]; exact k _ F' H' S' q (walks_tup hs ra)⟩
  | _ => cases e2
theorem walks_range {K : PySem.W.Frag} {F : Hp} {lo : Int} {n : Nat} : Walks K (Itr lo n) F ((List.range n).map fun k => .int (lo + (k : Nat))) := fun F1 H e1 e2 => by
  refine ⟨fun i hi => ?_, by show n ≤ _; simp⟩
  have hn : i < n := by simpa using hi
  refine ⟨hn, fun x H' ⟨eH, hx⟩ => ?_⟩
  subst eH
  subst hx
  exact ⟨.int (lo + (i : Nat)), F1, by simp [hn], .same, .int _⟩
theorem wRange1 (ha : PE X e (rd G a)) (hg : Gl X "range" := by rfl) (hm : X.mg "range" = none) (h1 : starEach [e] X.env = (false, eval e X.env) :: starEach [] X.env := by rfl) (hs : starEach [e] X.env = [(false, eval e X.env)] := by rfl) : PI X tg (.Call (.Name "range" p) [e] [] pos) (rdi G (iRange1 a)) :=
  (pi_range1 hg hm (pa_cons ha pa_nil h1) hs).weak fun σ H R ⟨ρ, T, F, ds, ρ', S, em, k⟩ => by
    obtain ⟨d1, ρ1, e1, em⟩ := bind2 em
    cases d1 with
    | int n =>
      dsimp only at em
      split at em
      · rename_i hb
        cases em
        refine ⟨ρ, T, F, _, _, S, e1, fun v F' H' S' q r => ?_⟩
        cases r
        refine ⟨n, rfl, hb.1, hb.2, k _ F' H' S' q ?_⟩
        have := walks_range (K := G.K) (F := F') (lo := 0) (n := n.toNat)
        simpa using this
      · cases em
    | _ => cases em
theorem wRange2 (ha : PE X e (rd G a)) (hb : PE X e2 (rd G b)) (hg : Gl X "range" := by rfl) (hm : X.mg "range" = none) (h1 : starEach [e, e2] X.env = (false, eval e X.env) :: starEach [e2] X.env := by rfl) (h2 : starEach [e2] X.env = (false, eval e2 X.env) :: starEach [] X.env := by rfl)
    (hs : starEach [e, e2] X.env = [(false, eval e X.env), (false, eval e2 X.env)] := by rfl) (hs2 : starEach [e2] X.env = [(false, eval e2 X.env)] := by rfl) : PI X tg (.Call (.Name "range" p) [e, e2] [] pos) (rdi G (iRange2 a b)) :=
  (pi_range2 hg hm (pa_cons ha (pa_cons hb pa_nil h2) h1) hs hs2).weak fun σ H R ⟨ρ, T, F, ds, ρ', S, em, k⟩ => by
    obtain ⟨d1, ρ1, e1, em⟩ := bind2 em
    obtain ⟨d2, ρ2, e2, em⟩ := bind2 em
    cases d1 with
    | int i =>
      cases d2 with
      | int j =>
        dsimp only at em
        split at em
        · rename_i hb
          cases em
          refine ⟨ρ, T, F, _, _, S, e1, fun v F' H' S' q r => ⟨ρ1, T, F', _, _, S', e2, fun v2 F2 H2 S2 q2 r2 => ?_⟩⟩
          cases r
          cases r2
          exact ⟨i, j, rfl, hb, k _ F2 H2 S2 (q.trans q2) walks_range⟩
        · cases em
      | _ => cases em
    | _ => cases em
theorem zip_get {α β γ : Type} {f : α × β → γ} {ds : List α} {es : List β} {i : Nat} (h1 : i < ds.length) (h2 : i < es.length) : ((ds.zip es).map f)[i]? = some (f (ds[i], es[i])) := by
  rw [List.getElem?_map, List.getElem?_eq_getElem (show i < (ds.zip es).length by simp; omega), List.getElem_zip]; rfl
theorem walks_zip {K : PySem.W.Frag} {F : Hp} {l l2 : Addr} {xs ys : List V} {ds es : List D} (h : SqL K F l xs) (r : RpAll K F xs ds) (h2 : SqL K F l2 ys) (r2 : RpAll K F ys es) : Walks K (Itz K l l2) F ((ds.zip es).map fun z => .tuple [z.1, z.2]) := fun F1 H e1 e2 => by
  have hH := sql_mono (e1.trans e2) h
  have hH2 := sql_mono (e1.trans e2) h2
  refine ⟨fun i hi => ?_, ⟨xs, ys, hH, hH2, ?_⟩⟩
  · have hi' : i < ds.length ∧ i < es.length := by simp at hi; omega
    obtain ⟨v, hv, rv⟩ := r.get (List.getElem?_eq_getElem hi'.1)
    obtain ⟨v2, hv2, rv2⟩ := r2.get (List.getElem?_eq_getElem hi'.2)
    refine ⟨⟨xs, ys, v, v2, hH, hH2, hv, hv2⟩, fun x H' ⟨Tp, y, y2, ex, hT, eH, hx, hx2⟩ => ?_⟩
    have q1 := hx xs hH
    have q2 := hx2 ys hH2
    rw [hv] at q1; cases q1
    rw [hv2] at q2; cases q2
    subst ex
    subst eH
    have hF := e2.free hT
    refine ⟨.tuple [ds[i]'hi'.1, es[i]'hi'.2], upd F1 Tp (.tup [v, v2]), zip_get hi'.1 hi'.2, .new hT, .tup (SqT.of upd_same) ?_⟩
    exact .cons ((rv.mono e1).mono (same_upd hF)) (.cons ((rv2.mono e1).mono (same_upd hF)) .nil)
  · have l1 := r.length
    have l2' := r2.length
    simp
    omega
theorem walks_zipT {K : PySem.W.Frag} {F : Hp} {l l2 : Addr} {xs ys : List V} {ds es : List D} (h : SqT K F l xs) (r : RpAll K F xs ds) (h2 : SqT K F l2 ys) (r2 : RpAll K F ys es) : Walks K (RZ.ItzT K l l2) F ((ds.zip es).map fun z => .tuple [z.1, z.2]) := fun F1 H e1 e2 => by
  have hH := sqt_mono (e1.trans e2) h
  have hH2 := sqt_mono (e1.trans e2) h2
  refine ⟨fun i hi => ?_, ⟨xs, ys, hH, hH2, ?_⟩⟩
  · have hi' : i < ds.length ∧ i < es.length := by simp at hi; omega
    obtain ⟨v, hv, rv⟩ := r.get (List.getElem?_eq_getElem hi'.1)
    obtain ⟨v2, hv2, rv2⟩ := r2.get (List.getElem?_eq_getElem hi'.2)
    refine ⟨⟨xs, ys, v, v2, hH, hH2, hv, hv2⟩, fun x H' ⟨Tp, y, y2, ex, hT, eH, hx, hx2⟩ => ?_⟩
    have q1 := hx xs hH
    have q2 := hx2 ys hH2
    rw [hv] at q1; cases q1
    rw [hv2] at q2; cases q2
    subst ex
    subst eH
    have hF := e2.free hT
    refine ⟨.tuple [ds[i]'hi'.1, es[i]'hi'.2], upd F1 Tp (.tup [v, v2]), zip_get hi'.1 hi'.2, .new hT, .tup (SqT.of upd_same) ?_⟩
    exact .cons ((rv.mono e1).mono (same_upd hF)) (.cons ((rv2.mono e1).mono (same_upd hF)) .nil)
  · have l1 := r.length
    have l2' := r2.length
    simp
    omega
theorem wZip {elts : List Expr} {kk : Nat} {tpos : Pos} (ha : PE X e (rd G a)) (hb : PE X e2 (rd G b)) (hK : G.K = X.K) (hg : Gl X "zip" := by rfl) (hm : X.mg "zip" = none) (h1 : starEach [e, e2] X.env = (false, eval e X.env) :: starEach [e2] X.env := by rfl) (h2 : starEach [e2] X.env = (false, eval e2 X.env) :: starEach [] X.env := by rfl)
    (hpl : (backTo pos (starEach [e2] X.env)).any (·.1) = false := by rfl) : PI X (.Tuple elts kk tpos) (.Call (.Name "zip" p) [e, e2] [] pos) (rdi G (iZip a b)) :=
  (RZ.pi_zipA hg hm (pa_cons ha (pa_cons hb pa_nil h2) h1) h1 hpl).weak fun σ H R ⟨ρ, T, F, ds, ρ', S, em, k⟩ => by
    obtain ⟨d1, ρ1, e1, em⟩ := bind2 em
    obtain ⟨d2, ρ2, e2, em⟩ := bind2 em
    refine ⟨ρ, T, F, d1, _, S, e1, fun v F' H' S' q r => ⟨ρ1, T, F', d2, _, S', e2, fun v2 F2 H2 S2 q2 r2 => ?_⟩⟩
    have r' := r.mono q2
    dsimp only at em
    split at em
    · cases em
      cases r' with
      | lst hs ra =>
        cases r2 with
        | lst hs2 ra2 =>
          refine ⟨_, _, _, _, rfl, .inl ⟨by rw [← hK]; exact sql_mono S2.fh hs, by rw [← hK]; exact sql_mono S2.fh hs2, ?_⟩⟩
          rw [← hK]
          exact k _ F2 H2 S2 (q.trans q2) (walks_zip hs ra hs2 ra2)
    · cases em
      cases r' with
      | tup hs ra =>
        cases r2 with
        | tup hs2 ra2 =>
          refine ⟨_, _, _, _, rfl, .inr ⟨(by rw [← hK]; exact sqt_mono S2.fh hs), (by rw [← hK]; exact sqt_mono S2.fh hs2), ?_⟩⟩
          rw [← hK]
          exact k _ F2 H2 S2 (q.trans q2) (walks_zipT hs ra hs2 ra2)
    · cases em
theorem walks_rev {K : PySem.W.Frag} {F : Hp} {l : Addr} {xs : List V} {ds : List D} (h : SqL K F l xs) (r : RpAll K F xs ds) : Walks K (Itv K l xs.length) F ds.reverse := fun F1 H e1 e2 => by
  have hH := sql_mono (e1.trans e2) h
  have hl := r.length
  refine ⟨fun i hi => ?_, by show xs.length ≤ _; simp [hl]⟩
  have hi' : i < ds.length := by simpa using hi
  have hj : xs.length - 1 - i < ds.length := by omega
  obtain ⟨v, hv, rv⟩ := r.get (List.getElem?_eq_getElem hj)
  refine ⟨⟨by omega, xs, v, hH, hv⟩, fun x H' ⟨eH, hx⟩ => ?_⟩
  subst eH
  have := hx xs hH
  rw [hv] at this
  cases this
  refine ⟨_, F1, ?_, .same, rv.mono e1⟩
  rw [List.getElem?_reverse hi', ← hl]
  exact List.getElem?_eq_getElem hj
theorem walks_revT {K : PySem.W.Frag} {F : Hp} {l : Addr} {xs : List V} {ds : List D} (h : SqT K F l xs) (r : RpAll K F xs ds) : Walks K (RT.ItvT K l xs.length) F ds.reverse := fun F1 H e1 e2 => by
  have hH := sqt_mono (e1.trans e2) h
  have hl := r.length
  refine ⟨fun i hi => ?_, by show xs.length ≤ _; simp [hl]⟩
  have hi' : i < ds.length := by simpa using hi
  have hj : xs.length - 1 - i < ds.length := by omega
  obtain ⟨v, hv, rv⟩ := r.get (List.getElem?_eq_getElem hj)
  refine ⟨⟨by omega, xs, v, hH, hv⟩, fun x H' ⟨eH, hx⟩ => ?_⟩
  subst eH
  have := hx xs hH
  rw [hv] at this
  cases this
  refine ⟨_, F1, ?_, .same, rv.mono e1⟩
  rw [List.getElem?_reverse hi', ← hl]
  exact List.getElem?_eq_getElem hj
theorem wRevs (ha : PE X e (rd G a)) (hK : G.K = X.K) (hg : Gl X "reversed" := by rfl) (hm : X.mg "reversed" = none) (hs : starEach [e] X.env = (false, eval e X.env) :: starEach [] X.env := by rfl) : PI X tg (.Call (.Name "reversed" p) [e] [] pos) (rdi G (iRevs a)) :=
  (RT.pi_revA hg hm ha hs).weak fun σ H R ⟨ρ, T, F, ds, ρ', S, em, k⟩ => by
    obtain ⟨d1, ρ1, e1, em⟩ := bind2 em
    obtain ⟨ds', e2, em⟩ := map2 em
    cases em
    refine ⟨ρ, T, F, d1, _, S, e1, fun v F' H' S' q r => ?_⟩
    cases r with
    | lst hs ra =>
      cases e2
      refine ⟨_, _, rfl, .inl ⟨by rw [← hK]; exact sql_mono S'.fh hs, ?_⟩⟩
      rw [← hK]
      exact k _ F' H' S' q (walks_rev hs ra)
    | tup hs ra =>
      cases e2
      refine ⟨_, _, rfl, .inr ⟨(by rw [← hK]; exact sqt_mono S'.fh hs), ?_⟩⟩
      rw [← hK]
      exact k _ F' H' S' q (walks_revT hs ra)
    | _ => cases e2
end
/-! ### for, while -/
def forL (g : MG) (b : MS) : List D → En → Option (Fl × En)
  | [], ρ => some (.nx, ρ)
  | x :: xs, ρ => (g x ρ).bind fun ρ1 => (b ρ1).bind fun q => match q.1 with
    | .nx => forL g b xs q.2
    | .ct => forL g b xs q.2
    | .bk => some (.nx, q.2)
    | .rt d o => some (.rt d o, q.2)
def mFor (it : MI) (g : MG) (b : MS) : MS := fun ρ => (it ρ).bind fun p => forL g b p.1 p.2
def whileL (c : MT) (b : MS) : Nat → En → Option (Fl × En)
  | 0, _ => none
  | n + 1, ρ => (c ρ).bind fun p => if p.1 then (b p.2).bind fun q => match q.1 with
    | .nx => whileL c b n q.2
    | .ct => whileL c b n q.2
    | .bk => some (.nx, q.2)
    | .rt d o => some (.rt d o, q.2)
    else some (.nx, p.2)
section
variable {G : Gx} {X : Cx} {iter tg c : Expr} {body : List Stmt} {pos : Pos}
theorem bindI {m : MI} {f : List D × En → Option α} {ρ : En} {z : α} (h : (m ρ).bind f = some z) : ∃ d ρ1, m ρ = some (d, ρ1) ∧ f (d, ρ1) = some z := by
  cases e : m ρ with
  | none => rw [e] at h; cases h
  | some p => rw [e] at h; exact ⟨p.1, p.2, rfl, h⟩
theorem obind {α β : Type} {o : Option α} {f : α → Option β} {z : β} (h : o.bind f = some z) : ∃ d, o = some d ∧ f d = some z := by
  cases o with
  | none => cases h
  | some d => exact ⟨d, rfl, h⟩
theorem sFor {it : MI} {sl : List Nat} {g : MG} {b : MS} (hp : PassesOwn (model X.prog X.w) X.A X.env X.xe) (hc : X.calm = true) (hi : PI X tg iter (rdi G it)) (hg : PG X tg (rdg G sl g)) (hb : PSs X body (rds G b)) (hs : ∀ x, foldedSetIterable iter X.env x = pure x := by intro _; rfl) :
    PS X (.For tg iter body [] pos) (rds G (mFor it g b)) := (ps_for hp hc hi hg hb hs).weak fun W σ H ⟨ρ, T, F, fl, ρ', S, e, k⟩ => by
  obtain ⟨ds, ρ1, e1, e⟩ := bindI e
  refine ⟨ρ, T, F, ds, ρ1, S, e1, fun J F1 H1 S1 q1 w => ?_⟩
  have k1 := k.mono q1
  refine ⟨fun i m σ H => ∃ ρ2 F2, i + m = ds.length ∧ StR G ρ2 σ T F2 H ∧ Same F1 F2 ∧ forL g b (ds.drop i) ρ2 = some (fl, ρ'), ⟨ds.length, ρ1, F1, by simp, S1, Same.refl _, by simpa using e⟩, ?_⟩
  rintro i m σ2 H2 ⟨ρ2, F2, hm, S2, q2, e2⟩
  obtain ⟨wg, ws⟩ := w F2 H2 q2 S2.fh
  by_cases hi : i < ds.length
  · obtain ⟨hgo, hy⟩ := wg i hi
    rw [List.drop_eq_getElem_cons hi] at e2
    obtain ⟨ρ3, e3, e2⟩ := obind e2
    obtain ⟨f4, ρ4, e4, e2⟩ := bindS e2
    refine .inr ⟨hgo, fun σ' H' => ∃ F5, StR G ρ4 σ' T F5 H' ∧ Same F1 F5 ∧ forL g b (ds.drop (i + 1)) ρ4 = some (fl, ρ'), fun σ' H' ⟨F5, h1, h2, h3⟩ => ⟨m - 1, by omega, ρ4, F5, by omega, h1, h2, h3⟩, fun x H' y => ?_⟩
    obtain ⟨d, F3, hd, gr, rx⟩ := hy x H' y
    rw [List.getElem?_eq_getElem hi] at hd
    cases hd
    obtain ⟨S3, q3⟩ := gr.st S2
    refine ⟨ρ2, T, F3, _, ρ3, S3, rx, e3, fun σ4 F4 H4 S4 q4 _ _ => ⟨ρ3, T, F4, f4, ρ4, S4, e4, ?_⟩⟩
    have qq := (q2.trans q3).trans q4
    cases f4 with
    | nx => exact fun σ5 F5 H5 S5 q5 => ⟨F5, S5, qq.trans q5, e2⟩
    | ct => exact fun σ5 F5 H5 S5 q5 => ⟨F5, S5, qq.trans q5, e2⟩
    | bk =>
      cases e2
      exact fun σ5 F5 H5 S5 q5 => k1 σ5 F5 H5 S5 (qq.trans q5)
    | rt d o =>
      cases e2
      have k2 := k1.mono qq
      cases o <;> exact k2
  · have hj : i = ds.length := by omega
    subst hj
    rw [List.drop_length] at e2
    cases e2
    exact .inl ⟨ws, k1 σ2 F2 H2 S2 q2⟩
theorem sWhile (n : Nat) {mc : MT} {b : MS} (hp : PassesOwn (model X.prog X.w) X.A X.env X.xe) (hc : PT X c (rdt G mc)) (hb : PSs X body (rds G b)) : PS X (.While c body [] pos) (rds G (whileL mc b n)) :=
  (ps_while hp hc hb).weak fun W σ H ⟨ρ, T, F, fl, ρ', S, e, k⟩ => by
    refine ⟨fun m σ H => ∃ ρ2 F2, StR G ρ2 σ T F2 H ∧ Same F F2 ∧ whileL mc b m ρ2 = some (fl, ρ'), ⟨n, ρ, F, S, Same.refl _, e⟩, ?_⟩
    rintro m σ2 H2 ⟨ρ2, F2, S2, q2, e2⟩
    cases m with
    | zero => cases e2
    | succ m =>
      obtain ⟨c, ρ3, e3, e2⟩ := bindT e2
      refine ⟨ρ2, T, F2, c, ρ3, S2, e3, fun F3 H3 S3 q3 => ?_⟩
      cases c with
      | false =>
        cases e2
        exact k _ F3 H3 S3 (q2.trans q3)
      | true =>
        obtain ⟨f4, ρ4, e4, e2⟩ := bindS e2
        rw [if_pos rfl]
        refine ⟨fun σ' H' => ∃ F5, StR G ρ4 σ' T F5 H' ∧ Same F F5 ∧ whileL mc b m ρ4 = some (fl, ρ'), fun σ' H' ⟨F5, h1, h2, h3⟩ => ⟨m, by omega, ρ4, F5, h1, h2, h3⟩, ρ3, T, F3, f4, ρ4, S3, e4, ?_⟩
        have qq := q2.trans q3
        cases f4 with
        | nx => exact fun σ5 F5 H5 S5 q5 => ⟨F5, S5, qq.trans q5, e2⟩
        | ct => exact fun σ5 F5 H5 S5 q5 => ⟨F5, S5, qq.trans q5, e2⟩
        | bk =>
          cases e2
          exact fun σ5 F5 H5 S5 q5 => k σ5 F5 H5 S5 (qq.trans q5)
        | rt d o =>
          cases e2
          have k2 := k.mono qq
          cases o <;> exact k2
end
end MM
/-! M4: functions and their calls; comprehensions. -/
namespace MM
open PySem L2
/-! ### functions -/
abbrev FS := List D → Option (D × Bool)
abbrev FSI := D → List D → Option (D × Bool × D)
def ent (n : Nat) (ds : List D) : En := ds.map Sl.fz ++ List.replicate (n - ds.length) Sl.emp
def runF (n : Nat) (b : MS) : FS := fun ds => match b (ent n ds) with
  | some (.rt d o, _) => some (d, o)
  | some (.nx, _) => some (.none, false)
  | _ => none
def runI (n : Nat) (b : MS) : FSI := fun row ds => match b (.io row :: ent (n - 1) ds) with
  | some (f, ρ') => (match (ρ'[0]? : Option Sl) with
    | some (.io row') => (match f with
      | .rt d o => some (d, o, row')
      | .nx => some (.none, false, row')
      | _ => none)
    | _ => none)
  | none => none
def ResOk (K : PySem.W.Frag) (H F' H' : Hp) (v : V) (d : D) : Bool → Prop
  | false => Rp K F' v d
  | true => ∃ a, v = .ref a ∧ F' a = none ∧ H a = none ∧ Own K F' H' a d ∧ objD d = false
def NewF (F H F' : Hp) : Prop := ∀ b, F' b ≠ none → F b ≠ none ∨ H b = none
def spF (K : PySem.W.Frag) (n : Nat) (f : FS) : Sp := fun vs H Q _ => ∃ F ds d o, Same F H ∧ RpAll K F vs ds ∧ ds.length = n ∧ f ds = some (d, o) ∧
  ∀ v F' H', Same F F' → Same F' H' → Same H H' → NewF F H F' → ResOk K H F' H' v d o → Q v H'
def spI (K : PySem.W.Frag) (n : Nat) (f : FSI) : Sp := fun vs H Q _ => ∃ F a us row ds d o row', vs = .ref a :: us ∧ Same F H ∧ F a = none ∧ Own K F H a row ∧ RpAll K F us ds ∧ ds.length + 1 = n ∧ f row ds = some (d, o, row') ∧
  ∀ v F' H', Same F F' → Same F' H' → (∀ b u, b ≠ a → H b = some u → H' b = some u) → NewF F H F' → Own K F' H' a row' → ResOk K H F' H' v d o → Q v H'
theorem ent_get {n : Nat} {ds : List D} {i : Nat} {y : Sl} (h : (ent n ds)[i]? = some y) : (∃ d, ds[i]? = some d ∧ y = .fz d) ∨ y = .emp := by
  unfold ent at h
  by_cases hi : i < ds.length
  · rw [List.getElem?_append_left (by simpa using hi), List.getElem?_map, List.getElem?_eq_getElem hi] at h
    cases h
    exact .inl ⟨_, List.getElem?_eq_getElem hi, rfl⟩
  · rw [List.getElem?_append_right (by simpa using hi), List.getElem?_replicate] at h
    split at h
    · cases h; exact .inr rfl
    · cases h
theorem start_get {N : List Str} {vs : List V} {i : Nat} {v : V} (h : vs[i]? = some v) : (L2.start N vs)[i]? = some (some v) := by
  unfold L2.start
  have hi : i < vs.length := (List.getElem?_eq_some_iff.mp h).1
  rw [List.getElem?_append_left (by simpa using hi), List.getElem?_map, h]; rfl
theorem entS {K : PySem.W.Frag} {F H : Hp} {N : List Str} {vs : List V} {ds : List D} (fh : Same F H) (r : RpAll K F vs ds) (hl : ds.length ≤ N.length) : StR ⟨K, F, H, none⟩ (ent N.length ds) (L2.start N vs) [] F H where
  len := by
    have := r.length
    unfold ent L2.start
    simp
    omega
  f0 := Same.refl F
  fh := fh
  keep := fun b o e _ => e
  new := fun b e => .inl e
  fz := fun i d e => by
    rcases ent_get e with ⟨d', h1, h2⟩ | h
    · cases h2
      obtain ⟨v, h3, h4⟩ := r.get h1
      exact ⟨v, start_get h3, h4⟩
    · cases h
  ow := fun i d e => by rcases ent_get e with ⟨d', h1, h2⟩ | h <;> first | cases h2 | cases h
  io := fun i d e => by rcases ent_get e with ⟨d', h1, h2⟩ | h <;> first | cases h2 | cases h
  ap := fun i j a d e h => by rcases ent_get h with ⟨d', h1, h2⟩ | h <;> first | cases h2 | cases h
  ion := fun a e => by cases e
  ii := fun i j d e h => by rcases ent_get h with ⟨d', h1, h2⟩ | h <;> first | cases h2 | cases h
  tm := fun p hp => by cases hp
  ts := fun p hp => by cases hp
  tn := List.nodup_nil
theorem entI {K : PySem.W.Frag} {F H : Hp} {N : List Str} {a : Addr} {us : List V} {row : D} {ds : List D} (fh : Same F H) (hF : F a = none) (w : Own K F H a row) (r : RpAll K F us ds) (hl : ds.length + 1 ≤ N.length) :
    StR ⟨K, F, H, some a⟩ (.io row :: ent (N.length - 1) ds) (L2.start N (.ref a :: us)) [] F H where
  len := by
    have := r.length
    unfold ent L2.start
    simp
    omega
  f0 := Same.refl F
  fh := fh
  keep := fun b o e _ => e
  new := fun b e => .inl e
  fz := fun i d e => by
    cases i with
    | zero => cases e
    | succ i =>
      rcases ent_get (i := i) (by simpa using e) with ⟨d', h1, h2⟩ | h
      · cases h2
        obtain ⟨v, h3, h4⟩ := r.get h1
        exact ⟨v, start_get (vs := .ref a :: us) (by simpa using h3), h4⟩
      · cases h
  ow := fun i d e => by
    cases i with
    | zero => cases e
    | succ i => rcases ent_get (i := i) (by simpa using e) with ⟨d', h1, h2⟩ | h <;> first | cases h2 | cases h
  io := fun i d e => by
    cases i with
    | zero =>
      cases e
      exact ⟨a, rfl, start_get (vs := .ref a :: us) rfl, w⟩
    | succ i => rcases ent_get (i := i) (by simpa using e) with ⟨d', h1, h2⟩ | h <;> first | cases h2 | cases h
  ap := fun i j b d e h => by
    cases i with
    | zero => cases h
    | succ i => rcases ent_get (i := i) (by simpa using h) with ⟨d', h1, h2⟩ | h <;> first | cases h2 | cases h
  ion := fun b e => by
    cases e
    obtain ⟨o, ho⟩ := w.some
    exact ⟨hF, by show H a ≠ none; rw [ho]; simp, by rw [ho]; simp⟩
  ii := fun i j d e h h' => by
    cases i with
    | zero =>
      cases j with
      | zero => rfl
      | succ j => rcases ent_get (i := j) (by simpa using h') with ⟨d', h1, h2⟩ | h <;> first | cases h2 | cases h
    | succ i => rcases ent_get (i := i) (by simpa using h) with ⟨d', h1, h2⟩ | h <;> first | cases h2 | cases h
  tm := fun p hp => by cases hp
  ts := fun p hp => by cases hp
  tn := List.nodup_nil
section
variable {P : Program} {w : World} {K : PySem.W.Frag} {mg : Str → Option Value} {base : Heap} {x qual : Str} {params : Arguments} {body : List Stmt} {scope : Scope} {dvs : List V} {kws : List (Str × V)} {f : Addr} {fd : FuncData}
/-- the context in which a def's body runs -/
abbrev cxF (P : Program) (w : World) (K : PySem.W.Frag) (mg : Str → Option Value) (base : Heap) (N : List Str) (qual : Str) (scope : Scope) (f : Addr) (cdv : Value) (A : Around) (outer : List Env) (s : Shared) (H : Hp) (E : XK) : Cx :=
  (cxOf CX0 P w K mg base N qual scope f cdv A outer s H E).nox
open PyProof.Rows PySem.Calls PySem.Spec in
/-- a def without changed parameters -/
theorem okF {N ps : List Str} {k : Nat} {b : MS} (Fd : FunD K x qual params body scope dvs kws f fd) (S : FnScope N ps scope)
    (hb : ∀ (cdv : Value) (A : Around) (outer : List Env) (s : Shared) (H : Hp) (E : XK) (G : Gx), G.K = K → Room k (A.deeper (envOfC qual scope s.heap.objs.size f cdv)) → PSs (cxF P w K mg base N qual scope f cdv A outer s H E) body (rds G b)) :
    FnOk P w K mg base CX0 (k + 1) f fd ps (spF K ps.length (runF N.length b)) := by
  have hpl : ps.length ≤ N.length := by have := congrArg List.length S.pre; rw [List.length_take] at this; omega
  refine Fd.ok S (fun vs H Q E ⟨F, ds, d, o, h1, h2, h3, _⟩ => by rw [h2.length, h3]) fun cdv A outer s H vs Q E hr ⟨F, ds, d, o, fh, ra, hl, hf, kq⟩ => ⟨_, PSs.nox (hb cdv A outer s H E ⟨K, F, H, none⟩ rfl hr), ?_⟩
  have S0 := entS (N := N) fh ra (by omega)
  unfold runF at hf
  have fin : ∀ {ρ' : En} {T : TL} {σ' : L2.St} {F' H' : Hp}, StR ⟨K, F, H, none⟩ ρ' σ' T F' H' → Same F F' ∧ Same F' H' ∧ Same H H' ∧ NewF F H F' := fun S' => ⟨S'.f0, S'.fh, fun b u e => S'.keep b u e (by simp), S'.new⟩
  cases e : b (ent N.length ds) with
  | none => rw [e] at hf; cases hf
  | some p =>
    obtain ⟨fl, ρ'⟩ := p
    rw [e] at hf
    refine ⟨_, [], F, fl, ρ', S0, e, ?_⟩
    cases fl with
    | nx =>
      cases hf
      intro σ' F' H' S' _
      obtain ⟨q1, q2, q3, q4⟩ := fin S'
      exact kq _ F' H' q1 q2 q3 q4 .non
    | rt d' o' =>
      cases hf
      cases o with
      | false =>
        intro v σ' F' H' S' _ r
        obtain ⟨q1, q2, q3, q4⟩ := fin S'
        exact kq v F' H' q1 q2 q3 q4 r
      | true =>
        intro no a σ' F' H' S' _
        obtain ⟨q1, q2, q3, q4⟩ := fin S'
        obtain ⟨t1, t2, t3⟩ := S'.tm _ List.mem_cons_self
        exact kq _ F' H' q1 q2 q3 q4 ⟨a, rfl, t1, t2, t3, no⟩
    | bk => cases hf
    | ct => cases hf
open PyProof.Rows PySem.Calls PySem.Spec in
/-- a def that changes its first parameter's thing -/
theorem okI {N ps : List Str} {k : Nat} {b : MS} (Fd : FunD K x qual params body scope dvs kws f fd) (S : FnScope N ps scope)
    (hb : ∀ (cdv : Value) (A : Around) (outer : List Env) (s : Shared) (H : Hp) (E : XK) (G : Gx), G.K = K → Room k (A.deeper (envOfC qual scope s.heap.objs.size f cdv)) → PSs (cxF P w K mg base N qual scope f cdv A outer s H E) body (rds G b)) :
    FnOk P w K mg base CX0 (k + 1) f fd ps (spI K ps.length (runI N.length b)) := by
  have hpl : ps.length ≤ N.length := by have := congrArg List.length S.pre; rw [List.length_take] at this; omega
  refine Fd.ok S (fun vs H Q E ⟨F, a, us, row, ds, d, o, row', h0, h1, hF, w, h2, h3, _⟩ => by rw [h0, List.length_cons, h2.length, h3]) fun cdv A outer s H vs Q E hr ⟨F, a, us, row, ds, d, o, row', h0, fh, hF, w, ra, hl, hf, kq⟩ => ⟨_, PSs.nox (hb cdv A outer s H E ⟨K, F, H, some a⟩ rfl hr), ?_⟩
  subst h0
  have S0 := entI (N := N) fh hF w ra (by omega)
  unfold runI at hf
  have fin : ∀ {ρ' : En} {T : TL} {σ' : L2.St} {F' H' : Hp}, StR ⟨K, F, H, some a⟩ ρ' σ' T F' H' → ρ'[0]? = some (.io row') → Same F F' ∧ Same F' H' ∧ (∀ b u, b ≠ a → H b = some u → H' b = some u) ∧ NewF F H F' ∧ Own K F' H' a row' := fun S' e0 =>
    ⟨S'.f0, S'.fh, fun b u n e => S'.keep b u e (by intro z; cases z; exact n rfl), S'.new, by obtain ⟨a', h1, _, h3⟩ := S'.io 0 row' e0; cases h1; exact h3⟩
  cases e : b (.io row :: ent (N.length - 1) ds) with
  | none => rw [e] at hf; cases hf
  | some p =>
    obtain ⟨fl, ρ'⟩ := p
    rw [e] at hf
    dsimp only at hf
    split at hf
    · rename_i row2 e0
      refine ⟨_, [], F, fl, ρ', S0, e, ?_⟩
      cases fl with
      | nx =>
        cases hf
        intro σ' F' H' S' _
        obtain ⟨q1, q2, q3, q4, q5⟩ := fin S' e0
        exact kq _ F' H' q1 q2 q3 q4 q5 .non
      | rt d' o' =>
        cases hf
        cases o with
        | false =>
          intro v σ' F' H' S' _ r
          obtain ⟨q1, q2, q3, q4, q5⟩ := fin S' e0
          exact kq v F' H' q1 q2 q3 q4 q5 r
        | true =>
          intro no b σ' F' H' S' _
          obtain ⟨q1, q2, q3, q4, q5⟩ := fin S' e0
          obtain ⟨t1, t2, t3⟩ := S'.tm _ List.mem_cons_self
          exact kq _ F' H' q1 q2 q3 q4 q5 ⟨b, rfl, t1, t2, t3, no⟩
      | bk => cases hf
      | ct => cases hf
    · cases hf
end
/-! ### calls of defs -/
/-- the module's name x stands for a def that keeps the promise sp, its last parameters filled by dds -/
def Cal (P : Program) (w : World) (K : PySem.W.Frag) (mg : Str → Option Value) (base : Heap) (k : Nat) (x : Str) (sp : Sp) (dds : List D) : Prop :=
  ∃ f fd ps dvs ds, FnOk P w K mg base CX0 k f fd ps sp ∧ mg x = some (.ref f) ∧ PySem.W.keepIn K (.ref f) = true ∧ Binds K fd ps ds ∧ Vals dvs ds ∧ ∀ F, RpAll K F dvs dds
def mCall (f : FS) (dds : List D) (as : MA) : M := fun ρ => (as ρ).bind fun p => (f (p.1 ++ dds)).map fun r => (r.1, p.2)
def mCallO (f : FS) (dds : List D) (as : MA) : M := fun ρ => (as ρ).bind fun p => (f (p.1 ++ dds)).bind fun r => if r.2 then some (r.1, p.2) else none
/-- i: the slot whose thing is changed -/
def mCallI (f : FSI) (i : Nat) (as : MA) : M := fun ρ => match ρ[i]? with
  | some (.io _) => (as ρ).bind fun p => (match p.2[i]? with
    | some (.io row) => (f row p.1).map fun r => (r.1, p.2.set i (.io r.2.2))
    | _ => none)
  | some (.ow _) => (as ρ).bind fun p => (match p.2[i]? with
    | some (.ow row) => (f row p.1).map fun r => (r.1, p.2.set i (.ow r.2.2))
    | _ => none)
  | _ => none
section
variable {G : Gx} {X : Cx} {e : Expr} {es : List Expr} {p pos : Pos} {x : Str} {ms : MA} {k : Nat}
theorem StR.res {ρ : En} {σ : L2.St} {T : TL} {F H F' H' : Hp} {v : V} {d : D} {o : Bool} (S : StR G ρ σ T F H) (eF : Same F F') (fh : Same F' H') (eH : Same H H') (n : NewF F H F') (r : ResOk G.K H F' H' v d o) :
    ∃ F2, Same F F2 ∧ StR G ρ σ T F2 H' ∧ Rp G.K F2 v d := by
  have S1 := S.grow eF fh eH n
  cases o with
  | false => exact ⟨F', eF, S1, r⟩
  | true =>
    obtain ⟨a, rfl, h1, h2, h3, no⟩ := r
    obtain ⟨u, h4, h5⟩ := own_frz h3 h1 no
    refine ⟨_, eF.trans (same_upd h1), S1.frz h1 (S.h0none h2) h4 (fun i e he z => ?_) (fun q hq z => ?_), h5⟩
    · obtain ⟨b, z1, _, _, z4⟩ := S.ow i e he
      obtain ⟨u', hu⟩ := z4.some
      rw [z1] at z
      cases z
      rw [h2] at hu; cases hu
    · obtain ⟨_, _, z4⟩ := S.tm q hq
      obtain ⟨u', hu⟩ := z4.some
      rw [z, h2] at hu; cases hu
theorem rCall {f : FS} {n : Nat} {dds : List D} (C : Cal X.prog X.w X.K X.mg X.base k x (spF X.K n f) dds) (hr : Room k X.A) (ha : RA G X (e :: es) ms) (hn : (e :: es).length + dds.length = n) (hK : G.K = X.K) (hg : Gl X x := by rfl) (hdb : (x == ("__debug__" : Str)) = false := by decide)
    (he : starEach (e :: es) X.env = (false, eval e X.env) :: starEach es X.env := by rfl) (hpl : (backTo pos (starEach es X.env)).any (·.1) = false := by rfl) : PE X (.Call (.Name x p) (e :: es) [] pos) (rd G (mCall f dds ms)) := by
  obtain ⟨fa, fd, ps, dvs, ds, F0, hm, hk, hb, hd, hdd⟩ := C
  refine (pe_call F0 hr hg hm hk hb hd pass0 ha.pa hdb he hpl).weak fun σ H Q ⟨ρ, T, F, d, ρ', S, em, kk⟩ => ?_
  obtain ⟨as, ρ1, e1, em⟩ := bindA em
  obtain ⟨r, e2, em⟩ := map2 em
  cases em
  refine ⟨ρ, T, F, as, ρ1, S, e1, fun vs F1 H1 S1 q1 ra => ?_⟩
  refine ⟨F1, as ++ dds, r.1, r.2, S1.fh, by rw [← hK]; exact ra.append (by rw [hK]; exact hdd F1), by rw [List.length_append, ha.len _ _ _ e1]; exact hn, e2, fun v F2 H2 eF fh eH nw ro => ?_⟩
  obtain ⟨F3, h1, h2, h3⟩ := S1.res eF fh eH nw (by rw [hK]; exact ro)
  exact kk v F3 H2 h2 (q1.trans h1) h3
theorem rCallO {f : FS} {n : Nat} {dds : List D} (C : Cal X.prog X.w X.K X.mg X.base k x (spF X.K n f) dds) (hr : Room k X.A) (ha : RA G X (e :: es) ms) (hn : (e :: es).length + dds.length = n) (hK : G.K = X.K) (hg : Gl X x := by rfl) (hdb : (x == ("__debug__" : Str)) = false := by decide)
    (he : starEach (e :: es) X.env = (false, eval e X.env) :: starEach es X.env := by rfl) (hpl : (backTo pos (starEach es X.env)).any (·.1) = false := by rfl) : PE X (.Call (.Name x p) (e :: es) [] pos) (rdo G (mCallO f dds ms)) := by
  obtain ⟨fa, fd, ps, dvs, ds, F0, hm, hk, hb, hd, hdd⟩ := C
  refine (pe_call F0 hr hg hm hk hb hd pass0 ha.pa hdb he hpl).weak fun σ H Q ⟨ρ, T, F, d, ρ', S, em, kk⟩ => ?_
  obtain ⟨as, ρ1, e1, em⟩ := bindA em
  obtain ⟨r, e2, em⟩ := obind em
  obtain ⟨rd', ro'⟩ := r
  dsimp only at em
  split at em
  · rename_i hro
    cases em
    refine ⟨ρ, T, F, as, _, S, e1, fun vs F1 H1 S1 q1 ra => ?_⟩
    refine ⟨F1, as ++ dds, d, ro', S1.fh, by rw [← hK]; exact ra.append (by rw [hK]; exact hdd F1), by rw [List.length_append, ha.len _ _ _ e1]; exact hn, e2, fun v F2 H2 eF fh eH nw ro => ?_⟩
    subst hro
    obtain ⟨a, rfl, h1, h2, h3, _⟩ := ro
    have S2 := S1.grow eF fh eH nw
    refine kk a F2 H2 { S2 with tm := fun q hq => ?_, ts := fun q hq i e' he' => ?_, tn := ?_ } (q1.trans eF)
    · rcases List.mem_cons.mp hq with rfl | hq
      · exact ⟨h1, S1.h0none h2, by rw [hK]; exact h3⟩
      · exact S2.tm q hq
    · rcases List.mem_cons.mp hq with rfl | hq
      · intro z
        obtain ⟨b, z1, _, _, z4⟩ := S1.ow i e' he'
        obtain ⟨u', hu⟩ := z4.some
        rw [z1] at z; cases z
        rw [h2] at hu; cases hu
      · exact S2.ts q hq i e' he'
    · rw [List.map_cons, List.nodup_cons]
      refine ⟨fun hmm => ?_, S2.tn⟩
      obtain ⟨q, hq, eq⟩ := List.mem_map.mp hmm
      obtain ⟨_, _, z4⟩ := S1.tm q hq
      obtain ⟨u', hu⟩ := z4.some
      rw [eq, h2] at hu; cases hu
  · cases em
theorem StR.chgO {ρ : En} {σ : L2.St} {T : TL} {F H F' H' : Hp} {i : Nat} {a : Addr} {d d' : D} (S : StR G ρ σ T F H) (hs : ρ[i]? = some (.ow d)) (hi : σ[i]? = some (some (.ref a)))
    (eF : Same F F') (fh : Same F' H') (eH : ∀ b u, b ≠ a → H b = some u → H' b = some u) (n : NewF F H F') (wo : Own G.K F' H' a d') : StR G (ρ.set i (.ow d')) σ T F' H' := by
  obtain ⟨a', q1, hFa, hGa, wa⟩ := S.ow i d hs
  rw [hi] at q1
  cases q1
  obtain ⟨oa, hoa⟩ := wa.some
  have nF : ∀ b, H b ≠ none → F b = none → F' b = none := fun b h1 h2 => by
    cases q : F' b with
    | none => rfl
    | some u =>
      rcases n b (by rw [q]; simp) with z | z
      · exact absurd h2 z
      · exact absurd z h1
  have hil : i < ρ.length := (List.getElem?_eq_some_iff.mp hs).1
  have es : ∀ (j : Nat) (y : Sl), (ρ.set i (.ow d'))[j]? = some y → (j = i ∧ y = .ow d') ∨ (j ≠ i ∧ ρ[j]? = some y) := fun j y e => by
    rcases set_get e with ⟨z1, z2, _⟩ | ⟨z1, z2⟩
    · exact .inl ⟨z1, z2⟩
    · exact .inr ⟨z1, z2⟩
  refine ⟨by rw [List.length_set]; exact S.len, S.f0.trans eF, fh, fun b o e z => eH b o (fun q => by rw [q, hGa] at e; cases e) (S.keep b o e z), fun b e => ?_, fun j e hj => ?_, fun j e hj => ?_, fun j e hj => ?_, fun j1 j2 b e1 e2 h1 h2 z1 z2 => ?_, fun b e => ?_, fun j1 j2 e1 e2 h1 h2 => ?_, fun p hp => ?_, fun p hp j e hj => ?_, S.tn⟩
  · rcases n b e with q | q
    · exact S.new b q
    · exact .inr (S.h0none q)
  · rcases es j _ hj with ⟨_, q⟩ | ⟨_, q⟩
    · cases q
    · obtain ⟨v, y1, y2⟩ := S.fz j e q
      exact ⟨v, y1, y2.mono eF⟩
  · rcases es j _ hj with ⟨rfl, q⟩ | ⟨nj, q⟩
    · cases q
      exact ⟨a, hi, nF a (by rw [hoa]; simp) hFa, hGa, wo⟩
    · obtain ⟨b, y1, y2, y3, y4⟩ := S.ow j e q
      obtain ⟨o, ho⟩ := y4.some
      have hb : b ≠ a := fun z => nj (S.ap j i a e d q hs (by rw [y1, z]) hi)
      exact ⟨b, y1, nF b (by rw [ho]; simp) y2, y3, y4.mono eF fun o q => eH b o hb q⟩
  · rcases es j _ hj with ⟨_, q⟩ | ⟨nj, q⟩
    · cases q
    · obtain ⟨b, y1, y2, y3⟩ := S.io j e q
      have hb : b ≠ a := fun z => (S.ion b y1).2.1 (by rw [z]; exact hGa)
      exact ⟨b, y1, y2, y3.mono eF fun o q => eH b o hb q⟩
  · have c1 : ∃ e, ρ[j1]? = some (.ow e) := by
      rcases es j1 _ h1 with ⟨rfl, _⟩ | ⟨_, q⟩
      · exact ⟨d, hs⟩
      · exact ⟨_, q⟩
    have c2 : ∃ e, ρ[j2]? = some (.ow e) := by
      rcases es j2 _ h2 with ⟨rfl, _⟩ | ⟨_, q⟩
      · exact ⟨d, hs⟩
      · exact ⟨_, q⟩
    obtain ⟨_, c1⟩ := c1
    obtain ⟨_, c2⟩ := c2
    exact S.ap j1 j2 b _ _ c1 c2 z1 z2
  · obtain ⟨y1, y2, y3⟩ := S.ion b e
    have hb : b ≠ a := fun z => y2 (by rw [z]; exact hGa)
    refine ⟨y1, y2, fun z => ?_⟩
    cases q : H b with
    | none => exact y3 q
    | some o => rw [eH b o hb q] at z; cases z
  · rcases es j1 _ h1 with ⟨_, q⟩ | ⟨_, q⟩
    · cases q
    · rcases es j2 _ h2 with ⟨_, q'⟩ | ⟨_, q'⟩
      · cases q'
      · exact S.ii j1 j2 e1 e2 q q'
  · obtain ⟨y2, y3, y4⟩ := S.tm p hp
    obtain ⟨o, ho⟩ := y4.some
    have hb : p.1 ≠ a := fun z => S.ts p hp i d hs (by rw [hi, z])
    exact ⟨nF _ (by rw [ho]; simp) y2, y3, y4.mono eF fun o q => eH _ o hb q⟩
  · rcases es j _ hj with ⟨rfl, _⟩ | ⟨_, q⟩
    · exact S.ts p hp _ d hs
    · exact S.ts p hp j e q
theorem StR.chgI {ρ : En} {σ : L2.St} {T : TL} {F H F' H' : Hp} {i : Nat} {a : Addr} {d d' : D} (S : StR G ρ σ T F H) (hs : ρ[i]? = some (.io d)) (hi : σ[i]? = some (some (.ref a)))
    (eF : Same F F') (fh : Same F' H') (eH : ∀ b u, b ≠ a → H b = some u → H' b = some u) (n : NewF F H F') (wo : Own G.K F' H' a d') : StR G (ρ.set i (.io d')) σ T F' H' := by
  obtain ⟨a', hio, q1, wa⟩ := S.io i d hs
  rw [hi] at q1
  cases q1
  obtain ⟨_, hGa, _⟩ := S.ion a hio
  have nF : ∀ b, H b ≠ none → F b = none → F' b = none := fun b h1 h2 => by
    cases q : F' b with
    | none => rfl
    | some u =>
      rcases n b (by rw [q]; simp) with z | z
      · exact absurd h2 z
      · exact absurd z h1
  have es : ∀ (j : Nat) (y : Sl), (ρ.set i (.io d'))[j]? = some y → (j = i ∧ y = .io d') ∨ (j ≠ i ∧ ρ[j]? = some y) := fun j y e => by
    rcases set_get e with ⟨z1, z2, _⟩ | ⟨z1, z2⟩
    · exact .inl ⟨z1, z2⟩
    · exact .inr ⟨z1, z2⟩
  refine ⟨by rw [List.length_set]; exact S.len, S.f0.trans eF, fh, fun b o e z => eH b o (fun q => z (by rw [hio, q])) (S.keep b o e z), fun b e => ?_, fun j e hj => ?_, fun j e hj => ?_, fun j e hj => ?_, fun j1 j2 b e1 e2 h1 h2 z1 z2 => ?_, fun b e => ?_, fun j1 j2 e1 e2 h1 h2 => ?_, fun p hp => ?_, fun p hp j e hj => ?_, S.tn⟩
  · rcases n b e with q | q
    · exact S.new b q
    · exact .inr (S.h0none q)
  · rcases es j _ hj with ⟨_, q⟩ | ⟨_, q⟩
    · cases q
    · obtain ⟨v, y1, y2⟩ := S.fz j e q
      exact ⟨v, y1, y2.mono eF⟩
  · rcases es j _ hj with ⟨_, q⟩ | ⟨nj, q⟩
    · cases q
    · obtain ⟨b, y1, y2, y3, y4⟩ := S.ow j e q
      obtain ⟨o, ho⟩ := y4.some
      have hb : b ≠ a := fun z => hGa (by rw [← z]; exact y3)
      exact ⟨b, y1, nF b (by rw [ho]; simp) y2, y3, y4.mono eF fun o q => eH b o hb q⟩
  · rcases es j _ hj with ⟨rfl, q⟩ | ⟨nj, q⟩
    · cases q
      exact ⟨a, hio, hi, wo⟩
    · exact absurd (S.ii j i e d q hs) nj
  · rcases es j1 _ h1 with ⟨_, q⟩ | ⟨_, q⟩
    · cases q
    · rcases es j2 _ h2 with ⟨_, q'⟩ | ⟨_, q'⟩
      · cases q'
      · exact S.ap j1 j2 b e1 e2 q q' z1 z2
  · obtain ⟨y1, y2, y3⟩ := S.ion b e
    rw [hio] at e
    cases e
    obtain ⟨o, ho⟩ := wo.some
    exact ⟨y1, y2, by rw [ho]; simp⟩
  · have c1 : ∃ e, ρ[j1]? = some (.io e) := by
      rcases es j1 _ h1 with ⟨rfl, _⟩ | ⟨_, q⟩
      · exact ⟨d, hs⟩
      · exact ⟨_, q⟩
    have c2 : ∃ e, ρ[j2]? = some (.io e) := by
      rcases es j2 _ h2 with ⟨rfl, _⟩ | ⟨_, q⟩
      · exact ⟨d, hs⟩
      · exact ⟨_, q⟩
    obtain ⟨_, c1⟩ := c1
    obtain ⟨_, c2⟩ := c2
    exact S.ii j1 j2 _ _ c1 c2
  · obtain ⟨y2, y3, y4⟩ := S.tm p hp
    obtain ⟨o, ho⟩ := y4.some
    have hb : p.1 ≠ a := fun z => hGa (by rw [← z]; exact y3)
    exact ⟨nF _ (by rw [ho]; simp) y2, y3, y4.mono eF fun o q => eH _ o hb q⟩
  · rcases es j _ hj with ⟨_, q⟩ | ⟨_, q⟩
    · cases q
    · exact S.ts p hp j e q
/-- a result of a call that changed a -/
theorem StR.resI {ρ : En} {σ : L2.St} {T : TL} {H F' H' : Hp} {i : Nat} {a : Addr} {v : V} {d : D} {o : Bool} (hi : σ[i]? = some (some (.ref a))) (S : StR G ρ σ T F' H') (h0 : ∀ b, H b = none → G.H0 b = none)
    (hn : ∀ (j : Nat) e b, ρ[j]? = some (.ow e) → σ[j]? = some (some (.ref b)) → H b ≠ none) (ht : ∀ q ∈ T, H q.1 ≠ none) (r : ResOk G.K H F' H' v d o) :
    ∃ F2, Same F' F2 ∧ StR G ρ σ T F2 H' ∧ Rp G.K F2 v d := by
  cases o with
  | false => exact ⟨F', Same.refl _, S, r⟩
  | true =>
    obtain ⟨b, rfl, h1, h2, h3, no⟩ := r
    obtain ⟨u, h4, h5⟩ := own_frz h3 h1 no
    exact ⟨_, same_upd h1, S.frz h1 (h0 b h2) h4 (fun j e he z => hn j e b he z h2) (fun q hq z => ht q hq (by rw [z]; exact h2)), h5⟩
theorem rCallI (i : Nat) {f : FSI} {n : Nat} {y : Str} {py : Pos} (C : Cal X.prog X.w X.K X.mg X.base k x (spI X.K n f) []) (hr : Room k X.A) (ha : RA G X es ms) (hn : es.length + 1 = n) (hK : G.K = X.K)
    (hN : X.N[i]? = some y := by rfl) (hv : Vis X.env.scope y := by first | exact Or.inl rfl | exact Or.inr (Or.inl rfl) | exact Or.inr (Or.inr rfl)) (hg : Gl X x := by rfl) (hdb : (x == ("__debug__" : Str)) = false := by decide)
    (he : starEach (.Name y py :: es) X.env = (false, eval (.Name y py) X.env) :: starEach es X.env := by rfl) (hpl : (backTo pos (starEach es X.env)).any (·.1) = false := by rfl) (hd : (y == ("__debug__" : Str)) = false := by decide)
    (hcd : (y == ("__classdict__" : Str)) = false := by decide) : PE X (.Call (.Name x p) (.Name y py :: es) [] pos) (rd G (mCallI f i ms)) := by
  obtain ⟨fa, fd, ps, dvs, ds, F0, hm, hk, hb, hdv, hdd⟩ := C
  have e0 := hdd (fun _ => none)
  have dv0 : dvs = [] := by cases dvs with
    | nil => rfl
    | cons _ _ => have := e0.length; simp at this
  subst dv0
  refine (pe_call F0 hr hg hm hk hb hdv pass0 (pa_cons (pe_var hN hv hd hcd) ha.pa he) hdb he hpl).weak fun σ H Q ⟨ρ, T, F, d, ρ', S, em, kk⟩ => ?_
  unfold mCallI at em
  split at em
  · rename_i row0 h0
    obtain ⟨a, hio, hi, w0⟩ := S.io i row0 h0
    refine ⟨_, hi, ?_⟩
    obtain ⟨as, ρ1, e1, em⟩ := bindA em
    dsimp only at em
    split at em
    · rename_i row h1
      obtain ⟨r, e2, em⟩ := map2 em
      cases em
      refine ⟨ρ, T, F, as, ρ1, S, e1, fun vs F1 H1 S1 q1 ra => ?_⟩
      obtain ⟨a', hio', hi', w1⟩ := S1.io i row h1
      rw [hi] at hi'; cases hi'
      refine ⟨F1, a, vs ++ [], row, as, r.1, r.2.1, r.2.2, rfl, S1.fh, S1.iof hio, by rw [← hK]; exact w1, by rw [← hK, List.append_nil]; exact ra, by rw [ha.len _ _ _ e1]; exact hn, e2, fun v F2 H2 eF fh eH nw wo ro => ?_⟩
      have S2 := S1.chgI h1 hi eF fh eH nw (by rw [hK]; exact wo)
      obtain ⟨F3, z1, z2, z3⟩ := S2.resI hi (fun b q => S1.h0none q) (fun j e b hj hb => by
        rcases set_get hj with ⟨_, q, _⟩ | ⟨_, q⟩
        · cases q
        · obtain ⟨b', y1, _, _, y4⟩ := S1.ow j e q
          rw [hb] at y1; cases y1
          obtain ⟨o, ho⟩ := y4.some
          rw [ho]; simp) (fun q hq => by
        obtain ⟨_, _, y4⟩ := S1.tm q hq
        obtain ⟨o, ho⟩ := y4.some
        rw [ho]; simp) (by rw [hK]; exact ro)
      exact kk v F3 H2 z2 ((q1.trans eF).trans z1) z3
    · cases em
  · rename_i row0 h0
    obtain ⟨a, hi, _, _, w0⟩ := S.ow i row0 h0
    refine ⟨_, hi, ?_⟩
    obtain ⟨as, ρ1, e1, em⟩ := bindA em
    dsimp only at em
    split at em
    · rename_i row h1
      obtain ⟨r, e2, em⟩ := map2 em
      cases em
      refine ⟨ρ, T, F, as, ρ1, S, e1, fun vs F1 H1 S1 q1 ra => ?_⟩
      obtain ⟨a', hi', hFa, hGa, w1⟩ := S1.ow i row h1
      rw [hi] at hi'; cases hi'
      refine ⟨F1, a, vs ++ [], row, as, r.1, r.2.1, r.2.2, rfl, S1.fh, hFa, by rw [← hK]; exact w1, by rw [← hK, List.append_nil]; exact ra, by rw [ha.len _ _ _ e1]; exact hn, e2, fun v F2 H2 eF fh eH nw wo ro => ?_⟩
      have S2 := S1.chgO h1 hi eF fh eH nw (by rw [hK]; exact wo)
      obtain ⟨F3, z1, z2, z3⟩ := S2.resI hi (fun b q => S1.h0none q) (fun j e b hj hb => by
        have : ∃ e, ρ1[j]? = some (.ow e) := by
          rcases set_get hj with ⟨q1, q, _⟩ | ⟨_, q⟩
          · rw [q1]; exact ⟨row, h1⟩
          · exact ⟨e, q⟩
        obtain ⟨e', q⟩ := this
        obtain ⟨b', y1, _, _, y4⟩ := S1.ow j e' q
        rw [hb] at y1; cases y1
        obtain ⟨o, ho⟩ := y4.some
        rw [ho]; simp) (fun q hq => by
        obtain ⟨_, _, y4⟩ := S1.tm q hq
        obtain ⟨o, ho⟩ := y4.some
        rw [ho]; simp) (by rw [hK]; exact ro)
      exact kk v F3 H2 z2 ((q1.trans eF).trans z1) z3
    · cases em
  · cases em
end
end MM
/-! M5: comprehensions; several targets; changes of owned things. -/
namespace MM
open PySem L2
def wipeE (ρ : En) : List Nat → En
  | [] => ρ
  | v :: vs => (wipeE ρ vs).set v .emp
section
variable {G : Gx} {ρ : En} {σ σ' : L2.St} {T : TL} {F H : Hp}
theorem StR.wipe (S : StR G ρ σ T F H) : ∀ vs, StR G (wipeE ρ vs) σ T F H
  | [] => S
  | v :: vs => (S.wipe vs).forget v
theorem wipeE_in {i : Nat} {y : Sl} : ∀ {vs : List Nat}, (wipeE ρ vs)[i]? = some y → i ∈ vs → y = .emp
  | [], _, h => by cases h
  | v :: vs, h, hi => by
    rcases set_get h with ⟨_, q, _⟩ | ⟨n, q⟩
    · exact q
    · rcases List.mem_cons.mp hi with z | z
      · exact absurd z n
      · exact wipeE_in q z
/-- where the slots agree on what is said -/
theorem StR.agree (S : StR G ρ σ T F H) (hl : σ'.length = σ.length) (h : ∀ (i : Nat) y, ρ[i]? = some y → y ≠ .emp → σ'[i]? = σ[i]?) : StR G ρ σ' T F H where
  len := S.len.trans hl.symm
  f0 := S.f0
  fh := S.fh
  keep := S.keep
  new := S.new
  fz := fun i d e => by rw [h i _ e (by simp)]; exact S.fz i d e
  ow := fun i d e => by rw [h i _ e (by simp)]; exact S.ow i d e
  io := fun i d e => by rw [h i _ e (by simp)]; exact S.io i d e
  ap := fun i j a d e h1 h2 h3 h4 => by
    rw [h i _ h1 (by simp)] at h3
    rw [h j _ h2 (by simp)] at h4
    exact S.ap i j a d e h1 h2 h3 h4
  ion := S.ion
  ii := S.ii
  tm := S.tm
  ts := fun p hp i e he => by rw [h i _ he (by simp)]; exact S.ts p hp i e he
  tn := S.tn
theorem StR.wiped {vs : List Nat} (S : StR G (wipeE ρ vs) σ T F H) (hl : σ'.length = σ.length) (h : ∀ i, i ∉ vs → σ'[i]? = σ[i]?) : StR G (wipeE ρ vs) σ' T F H :=
  S.agree hl fun i y e n => h i fun hi => n (wipeE_in e hi)
theorem wipe_in {i : Nat} : ∀ {vs : List Nat}, i ∈ vs → (wipe σ vs)[i]? = if i < σ.length then some none else none
  | [], h => by cases h
  | v :: vs, h => by
    unfold wipe
    by_cases hv : i = v
    · subst hv
      by_cases hl : i < σ.length
      · rw [List.getElem?_set_self (by rw [wipe_length]; exact hl), if_pos hl]
      · rw [List.getElem?_eq_none (by rw [List.length_set, wipe_length]; omega), if_neg hl]
    · rw [List.getElem?_set_ne (Ne.symm hv)]
      exact wipe_in ((List.mem_cons.mp h).resolve_left hv)
theorem wipe_eq {vs : List Nat} (hl : σ'.length = σ.length) (h : ∀ i, i ∉ vs → σ'[i]? = σ[i]?) : wipe σ' vs = wipe σ vs := by
  refine List.ext_getElem? fun i => ?_
  by_cases hi : i ∈ vs
  · rw [wipe_in hi, wipe_in hi, hl]
  · rw [wipe_out hi, wipe_out hi, h i hi]
/-- a temporary is changed -/
theorem StR.chgT {a : Addr} {d d' : D} {o : HO} (S : StR G ρ σ ((a, d) :: T) F H) (w : Own G.K F (upd H a o) a d') : StR G ρ σ ((a, d') :: T) F (upd H a o) := by
  obtain ⟨hFa, hGa, wa⟩ := S.tm _ List.mem_cons_self
  have tn := S.tn
  rw [List.map_cons, List.nodup_cons] at tn
  have up : ∀ b u, b ≠ a → H b = some u → upd H a o b = some u := fun b u n e => by rw [upd_ne n]; exact e
  refine ⟨S.len, S.f0, fun b u e => up b u (fun z => by rw [z, hFa] at e; cases e) (S.fh b u e), fun b u e n => up b u (fun z => by rw [z, hGa] at e; cases e) (S.keep b u e n), S.new, S.fz, fun i e h => ?_, fun i e h => ?_, S.ap, fun b e => ?_, S.ii, fun p hp => ?_, fun p hp => ?_, by rw [List.map_cons, List.nodup_cons]; exact tn⟩
  · obtain ⟨b, y1, y2, y3, y4⟩ := S.ow i e h
    have hb : b ≠ a := fun z => S.ts _ List.mem_cons_self i e h (by rw [y1, z])
    exact ⟨b, y1, y2, y3, y4.mono (Same.refl F) fun u q => up b u hb q⟩
  · obtain ⟨b, y1, y2, y3⟩ := S.io i e h
    have hb : b ≠ a := fun z => (S.ion b y1).2.1 (by rw [z]; exact hGa)
    exact ⟨b, y1, y2, y3.mono (Same.refl F) fun u q => up b u hb q⟩
  · obtain ⟨y1, y2, y3⟩ := S.ion b e
    have hb : b ≠ a := fun z => y2 (by rw [z]; exact hGa)
    exact ⟨y1, y2, by rw [upd_ne hb]; exact y3⟩
  · rcases List.mem_cons.mp hp with rfl | hp
    · exact ⟨hFa, hGa, w⟩
    · obtain ⟨y2, y3, y4⟩ := S.tm p (List.mem_cons_of_mem _ hp)
      have hb : p.1 ≠ a := fun z => tn.1 (List.mem_map.mpr ⟨p, hp, z⟩)
      exact ⟨y2, y3, y4.mono (Same.refl F) fun u q => up _ u hb q⟩
  · rcases List.mem_cons.mp hp with rfl | hp
    · exact fun i e h => S.ts (a, d) List.mem_cons_self i e h
    · exact S.ts p (List.mem_cons_of_mem _ hp)
end
/-! ### comprehensions -/
def compL (g : MG) (t : MT) (e : M) (vs : List Nat) : List D → En → Option (List D × En)
  | [], ρ => some ([], ρ)
  | x :: xs, ρ => (g x ρ).bind fun ρ1 => (t ρ1).bind fun p => if p.1 then (e p.2).bind fun q => (compL g t e vs xs (wipeE q.2 vs)).map fun r => (q.1 :: r.1, r.2)
    else compL g t e vs xs (wipeE p.2 vs)
def mComp (it : MI) (g : MG) (t : MT) (e : M) (vs : List Nat) : M := fun ρ => (it ρ).bind fun p => if p.1.length ≤ 16777216 then (compL g t e vs p.1 (wipeE p.2 vs)).map fun r => (.list r.1, r.2) else none
def mYes : MT := fun ρ => some (true, ρ)
section
variable {G : Gx} {X : Cx} {elt tg iter c : Expr} {ifs : List Expr} {scope : Scope} {own : List (Str × Nat)} {pos spos py : Pos}
theorem tsNil : PTs X [] (rdt G mYes) := pts_nil.weak fun σ H Q ⟨ρ, T, F, b, ρ', S, e, k⟩ => by
  cases e
  exact k F H S (Same.refl F)
theorem tsOne {mc : MT} (h : PT X c (rdt G mc)) : PTs X [c] (rdt G mc) := pts_one h
theorem lc_rd {it : MI} {sl : List Nat} {g : MG} {mt : MT} {me : M} {vs : List Nat} (hsl : ∀ i ∈ sl, i ∈ vs) : ∀ σ H Q, rdo G (mComp it g mt me vs) σ H Q → tLc (rdi G it) (rdg G sl g) (rdt G mt) (rd G me) vs σ H Q := fun σ H Q ⟨ρ, T, F, d, ρ', S, em, k⟩ => by
  obtain ⟨ds, ρ1, e1, em⟩ := bindI em
  dsimp only at em
  split at em
  · rename_i hz
    obtain ⟨⟨rl, re⟩, e2, em⟩ := map2 em
    cases em
    refine ⟨ρ, T, F, ds, ρ1, S, e1, fun J F1 H1 S1 q1 w L hL => ?_⟩
    refine ⟨fun i m H => ∃ ρ0 F2 ads rest, i + m = ds.length ∧ StR G (wipeE ρ0 vs) σ ((L, .list ads) :: T) F2 H ∧ Same F1 F2 ∧ ads.length ≤ i ∧ compL g mt me vs (ds.drop i) (wipeE ρ0 vs) = some (rest, re) ∧ ads ++ rest = rl, ?_, ?_⟩
    · refine ⟨ds.length, ρ1, F1, [], rl, by simp, ?_, Same.refl _, Nat.zero_le _, by rw [List.drop_zero]; exact e2, by simp⟩
      exact (S1.wipe vs).allocO hL ⟨[], upd_same, .nil⟩
    · rintro i m H2 ⟨ρ0, F2, ads, rest, hm, S2, q2, ha, e3, er⟩
      obtain ⟨wg, ws⟩ := w F2 H2 q2 S2.fh
      by_cases hi : i < ds.length
      · obtain ⟨hgo, hy⟩ := wg i hi
        rw [List.drop_eq_getElem_cons hi] at e3
        obtain ⟨ρ3, e4, e3⟩ := obind e3
        obtain ⟨b, ρ4, e5, e3⟩ := bindT e3
        refine .inr ⟨hgo, fun H => ∃ ρ0 F2 ads rest, StR G (wipeE ρ0 vs) σ ((L, .list ads) :: T) F2 H ∧ Same F1 F2 ∧ ads.length ≤ i + 1 ∧ compL g mt me vs (ds.drop (i + 1)) (wipeE ρ0 vs) = some (rest, re) ∧ ads ++ rest = rl, fun H' ⟨ρ0, F2, ads, rest, z1, z2, z3, z4, z5⟩ => ⟨m - 1, by omega, ρ0, F2, ads, rest, by omega, z1, z2, z3, z4, z5⟩, fun x H' y => ?_⟩
        obtain ⟨dx, F3, hd, gr, rx⟩ := hy x H' y
        rw [List.getElem?_eq_getElem hi] at hd
        cases hd
        obtain ⟨S3, q3⟩ := gr.st S2
        have S3' : StR G (wipeE ρ0 vs) (wipe σ vs) ((L, .list ads) :: T) F3 H' := S3.wiped (wipe_length σ vs) fun i hi => wipe_out hi
        refine ⟨_, _, F3, _, ρ3, S3', rx, e4, fun σ4 F4 H4 S4 q4 l4 n4 => ?_⟩
        have l4' : σ4.length = σ.length := l4.trans (wipe_length σ vs)
        have n4' : ∀ i, i ∉ vs → σ4[i]? = σ[i]? := fun i hi => (n4 i fun z => hi (hsl i z)).trans (wipe_out hi)
        have back : ∀ {ρ : En} {ads : List D} {F H : Hp}, StR G ρ σ4 ((L, .list ads) :: T) F H → StR G (wipeE ρ vs) σ ((L, .list ads) :: T) F H := fun S => (S.wipe vs).wiped l4'.symm fun i hi => (n4' i hi).symm
        refine ⟨wipe_eq l4' n4', ρ3, _, F4, b, ρ4, S4, e5, fun F5 H5 S5 q5 => ?_⟩
        have qq := ((q2.trans q3).trans q4).trans q5
        cases b with
        | false => exact ⟨ρ4, F5, ads, rest, back S5, qq, by omega, e3, er⟩
        | true =>
          obtain ⟨dy, ρ6, e6, e3⟩ := bind2 e3
          obtain ⟨r2, e7, e3⟩ := map2 e3
          cases e3
          refine ⟨ρ4, _, F5, dy, ρ6, S5, e6, fun y F6 H6 S6 q6 ry => ?_⟩
          obtain ⟨_, _, avs, hav, rav⟩ := S6.tm _ List.mem_cons_self
          refine ⟨avs, hav, by rw [rav.length, sizeLine_eq]; omega, ρ6, F6, ads ++ [dy], r2.1, ?_, qq.trans q6, by simp; omega, e7, by rw [← er]; simp⟩
          exact back (S6.chgT ⟨_, upd_same, rav.append (.cons ry .nil)⟩)
      · have hj : i = ds.length := by omega
        subst hj
        rw [List.drop_length] at e3
        cases e3
        refine .inl ⟨ws, ?_⟩
        rw [List.append_nil] at er
        subst er
        exact k L F2 H2 S2 (q1.trans q2)
  · cases em
theorem rLc {it : MI} {sl : List Nat} {g : MG} {mt : MT} {me : M} (hc : X.calm = true) (hN : X.N.Nodup) (hi : PI X tg iter (rdi G it)) (ok : BlkOk X.N X.env.scope scope own)
    (hg : ∀ (s : Shared) (H : Hp) (C : Addr) (cl : List (Str × Addr)) (fp : List Addr), PG (X.blk s H scope (compEnvC scope cl C X.env) fp) tg (rdg G sl g)) (ht : ∀ (s : Shared) (H : Hp) (C : Addr) (cl : List (Str × Addr)) (fp : List Addr), PTs (X.blk s H scope (compEnvC scope cl C X.env) fp) ifs (rdt G mt))
    (he : ∀ (s : Shared) (H : Hp) (C : Addr) (cl : List (Str × Addr)) (fp : List Addr), PE (X.blk s H scope (compEnvC scope cl C X.env) fp) elt (rd G me)) (hsl : ∀ i ∈ sl, i ∈ own.map (·.2) := by decide) (hs : ∀ x, foldedSetIterable iter X.env x = pure x := by intro _; rfl) :
    PE X (.ListComp elt [⟨tg, iter, ifs, 0⟩] scope pos) (rdo G (mComp it g mt me (own.map (·.2)))) :=
  (pe_lc hc hN hi ok hg ht he hs).weak (lc_rd hsl)
theorem sSetLc (i : Nat) {y : Str} {it : MI} {sl : List Nat} {g : MG} {mt : MT} {me : M} (hc : X.calm = true) (hN : X.N.Nodup) (hi : PI X tg iter (rdi G it)) (ok : BlkOk X.N X.env.scope scope own)
    (hg : ∀ (s : Shared) (H : Hp) (C : Addr) (cl : List (Str × Addr)) (fp : List Addr), PG (X.blk s H scope (compEnvC scope cl C X.env) fp) tg (rdg G sl g)) (ht : ∀ (s : Shared) (H : Hp) (C : Addr) (cl : List (Str × Addr)) (fp : List Addr), PTs (X.blk s H scope (compEnvC scope cl C X.env) fp) ifs (rdt G mt))
    (he : ∀ (s : Shared) (H : Hp) (C : Addr) (cl : List (Str × Addr)) (fp : List Addr), PE (X.blk s H scope (compEnvC scope cl C X.env) fp) elt (rd G me)) (hsw : swapsWith (.ListComp elt [⟨tg, iter, ifs, 0⟩] scope pos) (some (.Name y py)) spos.line X.env = pure true)
    (hy : X.N[i]? = some y := by rfl) (hyl : X.env.scope.names.lookup y = some .local := by rfl) (hsl : ∀ i ∈ sl, i ∈ own.map (·.2) := by decide) (hs : ∀ x, foldedSetIterable iter X.env x = pure x := by intro _; rfl) :
    PS X (.Assign [.Name y py] (.ListComp elt [⟨tg, iter, ifs, 0⟩] scope pos) spos) (rds G (mSetO i (mComp it g mt me (own.map (·.2))))) :=
  (ps_setLc hc hN hy hyl hsw hi ok hg ht he hs).weak fun W σ H ⟨ρ, T, F, fl, ρ', S, e, k⟩ => by
    obtain ⟨p, e1, e⟩ := map2 e
    cases e
    exact lc_rd hsl σ H _ ⟨ρ, T, F, p.1, p.2, S, e1, fun a F' H' S' q => k _ F' H' S'.setO q⟩
end
end MM
/-! M6: several targets at once; slots read without giving them up; changes of owned lists and dicts. -/
namespace MM
open PySem L2
/-! ### several values at once, new ones kept as owned -/
def mArgs : List (Bool × M) → En → Option (List (Bool × D) × En)
  | [], ρ => some ([], ρ)
  | (b, m) :: ms, ρ => (m ρ).bind fun p => (mArgs ms p.2).map fun q => ((b, p.1) :: q.1, q.2)
inductive ArgR (K : PySem.W.Frag) (F : Hp) : List V → List (Bool × D) → TL → Prop
  | nil : ArgR K F [] [] []
  | fz {v d vs rs ts} : Rp K F v d → ArgR K F vs rs ts → ArgR K F (v :: vs) ((false, d) :: rs) ts
  | ow {a d vs rs ts} : ArgR K F vs rs ts → ArgR K F (.ref a :: vs) ((true, d) :: rs) ((a, d) :: ts)
def rdaF (G : Gx) (ms : List (Bool × M)) : TA := fun σ H Q => ∃ ρ T F rs ρ', StR G ρ σ T F H ∧ mArgs ms ρ = some (rs, ρ') ∧
  ∀ vs ts F' H', StR G ρ' σ (ts ++ T) F' H' → Same F F' → ArgR G.K F' vs rs ts → Q vs H'
def setAll : List Nat → List (Bool × D) → En → En
  | i :: is, (b, d) :: rs, ρ => setAll is rs (ρ.set i (if b then .ow d else .fz d))
  | _, _, ρ => ρ
def setAllV : List Nat → List V → L2.St → L2.St
  | i :: is, v :: vs, σ => setAllV is vs (σ.set i (some v))
  | _, _, σ => σ
def mPar (is : List Nat) (ms : List (Bool × M)) : MS := fun ρ => (mArgs ms ρ).map fun p => (.nx, setAll is p.1 p.2)
section
variable {G : Gx} {X : Cx} {e : Expr} {es : List Expr} {pos : Pos}
theorem ArgR.len {K : PySem.W.Frag} {F : Hp} {vs : List V} {rs : List (Bool × D)} {ts : TL} (h : ArgR K F vs rs ts) : vs.length = rs.length := by
  induction h with
  | nil => rfl
  | fz _ _ ih => simp [ih]
  | ow _ ih => simp [ih]
theorem mArgs_len : ∀ {ms : List (Bool × M)} {ρ : En} {rs : List (Bool × D)} {ρ' : En}, mArgs ms ρ = some (rs, ρ') → rs.length = ms.length
  | [], _, _, _, h => by cases h; rfl
  | (b, m) :: ms, ρ, rs, ρ', h => by
    obtain ⟨d, ρ1, e1, h⟩ := bind2 (m := m) h
    obtain ⟨q, e2, h⟩ := map2 h
    cases h
    simp [mArgs_len e2]
theorem afNil : PA X [] (rdaF G []) := pa_nil.weak fun σ H Q ⟨ρ, T, F, rs, ρ', S, e, k⟩ => by
  cases e
  exact k [] [] F H S (Same.refl F) .nil
theorem afCons {m : M} {ms : List (Bool × M)} (ha : PE X e (rd G m)) (hr : PA X es (rdaF G ms)) (hs : starEach (e :: es) X.env = (false, eval e X.env) :: starEach es X.env := by rfl) : PA X (e :: es) (rdaF G ((false, m) :: ms)) :=
  (pa_cons ha hr hs).weak fun σ H Q ⟨ρ, T, F, rs, ρ', S, em, k⟩ => by
    obtain ⟨d1, ρ1, e1, em⟩ := bind2 (m := m) em
    obtain ⟨q, e2, em⟩ := map2 em
    cases em
    refine ⟨ρ, T, F, d1, ρ1, S, e1, fun v F1 H1 S1 q1 r1 => ⟨ρ1, T, F1, q.1, q.2, S1, e2, fun vs ts F2 H2 S2 q2 r2 => ?_⟩⟩
    exact k _ ts F2 H2 S2 (q1.trans q2) (.fz (r1.mono q2) r2)
theorem afConsO {m : M} {ms : List (Bool × M)} (ha : PE X e (rdo G m)) (hr : PA X es (rdaF G ms)) (hs : starEach (e :: es) X.env = (false, eval e X.env) :: starEach es X.env := by rfl) : PA X (e :: es) (rdaF G ((true, m) :: ms)) :=
  (pa_cons ha hr hs).weak fun σ H Q ⟨ρ, T, F, rs, ρ', S, em, k⟩ => by
    obtain ⟨d1, ρ1, e1, em⟩ := bind2 (m := m) em
    obtain ⟨q, e2, em⟩ := map2 em
    cases em
    refine ⟨ρ, T, F, d1, ρ1, S, e1, fun a F1 H1 S1 q1 => ⟨ρ1, (a, d1) :: T, F1, q.1, q.2, S1, e2, fun vs ts F2 H2 S2 q2 r2 => ?_⟩⟩
    refine k _ ((a, d1) :: ts) F2 H2 (S2.perm ?_) (q1.trans q2) (.ow r2)
    exact List.perm_middle.symm
theorem StR.setAll {rs : List (Bool × D)} : ∀ {is : List Nat} {vs : List V} {ρ : En} {σ : L2.St} {ts T : TL} {F H : Hp}, StR G ρ σ (ts ++ T) F H → ArgR G.K F vs rs ts → is.length = rs.length → StR G (setAll is rs ρ) (setAllV is vs σ) T F H := by
  induction rs with
  | nil =>
    intro is vs ρ σ ts T F H S r hl
    cases r
    cases is with
    | nil => exact S
    | cons _ _ => cases hl
  | cons x rs ih =>
    intro is vs ρ σ ts T F H S r hl
    cases is with
    | nil => cases hl
    | cons i is =>
      have hl' : is.length = rs.length := by simpa using hl
      cases r with
      | fz rv rt => exact ih (S.setF rv) rt hl'
      | ow rt => exact ih S.setO rt hl'
/-- a, b = x, y with plain local names -/
theorem sPar2 (i j : Nat) {x y : Str} {a b : Expr} {ms : List (Bool × M)} {px py pt pos : Pos} {kt k2 pt2} (hc : X.calm = true) (hN : X.N.Nodup) (ha : PA X [a, b] (rdaF G ms)) (hl : ms.length = 2)
    (hw : swappedStores [.Tuple [.Name x px, .Name y py] kt pt] (.Tuple [a, b] k2 pt2) X.env = pure (some [x, y])) (hij : i ≠ j := by decide) (hi : X.N[i]? = some x := by rfl) (hj : X.N[j]? = some y := by rfl)
    (hx : X.env.scope.names.lookup x = some .local := by rfl) (hy : X.env.scope.names.lookup y = some .local := by rfl)
    (hs : swapsWithSole [.Tuple [.Name x px, .Name y py] kt pt] (.Tuple [a, b] k2 pt2) pos.line X.env = pure false := by rfl) : PS X (.Assign [.Tuple [.Name x px, .Name y py] kt pt] (.Tuple [a, b] k2 pt2) pos) (rds G (mPar [i, j] ms)) :=
  (ps_par hc hN hi hj hij hx hy ha hw hs).weak fun W σ H ⟨ρ, T, F, fl, ρ', S, e, k⟩ => by
    obtain ⟨p, e1, e⟩ := map2 e
    cases e
    refine ⟨ρ, T, F, p.1, p.2, S, e1, fun vs ts F' H' S' q r => ?_⟩
    have hlen := (r.len.trans (mArgs_len e1)).trans hl
    match vs, hlen with
    | [v, w], _ => exact ⟨v, w, rfl, k _ F' H' (S'.setAll (is := [i, j]) r (by rw [mArgs_len e1, hl]; rfl)) q⟩
theorem sPar3 (i j l : Nat) {x y z : Str} {a b c : Expr} {ms : List (Bool × M)} {px py pz pt pos : Pos} {kt k2 pt2} (hc : X.calm = true) (hN : X.N.Nodup) (ha : PA X [a, b, c] (rdaF G ms)) (hm : ms.length = 3)
    (hw : swappedStores [.Tuple [.Name x px, .Name y py, .Name z pz] kt pt] (.Tuple [a, b, c] k2 pt2) X.env = pure (some [x, y, z])) (hij : i ≠ j := by decide) (hil : i ≠ l := by decide) (hjl : j ≠ l := by decide) (hi : X.N[i]? = some x := by rfl) (hj : X.N[j]? = some y := by rfl) (hl : X.N[l]? = some z := by rfl)
    (hx : X.env.scope.names.lookup x = some .local := by rfl) (hy : X.env.scope.names.lookup y = some .local := by rfl) (hz : X.env.scope.names.lookup z = some .local := by rfl)
    (hs : swapsWithSole [.Tuple [.Name x px, .Name y py, .Name z pz] kt pt] (.Tuple [a, b, c] k2 pt2) pos.line X.env = pure false := by rfl) : PS X (.Assign [.Tuple [.Name x px, .Name y py, .Name z pz] kt pt] (.Tuple [a, b, c] k2 pt2) pos) (rds G (mPar [i, j, l] ms)) :=
  (ps_par3 hc hN hi hj hl hij hil hjl hx hy hz ha hw hs).weak fun W σ H ⟨ρ, T, F, fl, ρ', S, e, k⟩ => by
    obtain ⟨p, e1, e⟩ := map2 e
    cases e
    refine ⟨ρ, T, F, p.1, p.2, S, e1, fun vs ts F' H' S' q r => ?_⟩
    have hlen := (r.len.trans (mArgs_len e1)).trans hm
    match vs, hlen with
    | [v, w, u], _ => exact ⟨v, w, u, rfl, k _ F' H' (S'.setAll (is := [i, j, l]) r (by rw [mArgs_len e1, hm]; rfl)) q⟩
/-- names, one after another -/
def gNs : List Nat → TGs
  | [] => gNil
  | i :: is => gCons (gName i) (gNs is)
theorem gNs_ok : ∀ {is : List Nat} {vs : List V} {σ : L2.St} {H : Hp} {Q : L2.St → Hp → Prop}, is.length = vs.length → Q (setAllV is vs σ) H → gNs is vs σ H Q
  | [], [], _, _, _, _, h => ⟨rfl, h⟩
  | i :: is, v :: vs, σ, H, Q, hl, h => ⟨v, vs, rfl, gNs_ok (is := is) (by simpa using hl) h⟩
  | [], _ :: _, _, _, _, hl, _ => by cases hl
  | _ :: _, [], _, _, _, hl, _ => by cases hl
theorem tnNil : PGs X [] (gNs []) := pgs_nil
theorem tnCons (i : Nat) {x : Str} {is : List Nat} {px : Pos} (hN : X.N.Nodup) (h : PGs X es (gNs is)) (hi : X.N[i]? = some x := by rfl) (hx : Loc X.env.scope x := by first | exact Or.inl rfl | exact Or.inr rfl)
    (hf : X.fn x = true ∨ X.env.scope.names.lookup x = some .local := by first | exact .inl rfl | exact .inr rfl) (hs : (assignEach (.Name x px :: es) X.env).map (·.2) = assign (.Name x px) X.env :: (assignEach es X.env).map (·.2) := by rfl) : PGs X (.Name x px :: es) (gNs (i :: is)) :=
  pgs_cons (pg_name hN hi hx hf) h hs
/-- a, b, .. = x, y, .. through a tuple -/
theorem sParT {ts es : List Expr} {is : List Nat} {ms : List (Bool × M)} {kt k2 : Nat} {pt pt2 : Pos} (hc : X.calm = true) (ha : PA X es (rdaF G ms)) (hg : PGs X ts (gNs is)) (hl : is.length = ms.length)
    (hw : swappedStores [.Tuple ts kt pt] (.Tuple es k2 pt2) X.env = pure none := by rfl) (hn : (assignEach ts X.env).length = is.length := by rfl) (hst : (assignEach ts X.env).findIdx? (·.1) = none := by rfl) (hm : ms.length ≤ sizeLine := by exact (Nat.le_of_ble_eq_true rfl))
    (hs : swapsWithSole [.Tuple ts kt pt] (.Tuple es k2 pt2) pos.line X.env = pure false := by rfl) (h1 : (assignEach [.Tuple ts kt pt] X.env).map (·.2) = [assign (.Tuple ts kt pt) X.env] := by rfl) :
    PS X (.Assign [.Tuple ts kt pt] (.Tuple es k2 pt2) pos) (rds G (mPar is ms)) :=
  (ps_asg (pe_tup ha) (pg_tup hc hg hn hst) hs hw h1).weak fun W σ H ⟨ρ, T, F, fl, ρ', S, e, k⟩ => by
    obtain ⟨p, e1, e⟩ := map2 e
    cases e
    refine ⟨ρ, T, F, p.1, p.2, S, e1, fun vs ts F' H' S' q r => ⟨by rw [r.len, mArgs_len e1]; exact hm, fun u hu => ?_⟩⟩
    have hlen := r.len.trans (mArgs_len e1)
    refine ⟨u, vs, rfl, SqT.of upd_same, hlen.trans hl.symm, gNs_ok (hl.trans hlen.symm) ?_⟩
    have S2 := S'.junk (o := .tup vs) hu
    exact k _ F' _ (S2.setAll r (by rw [mArgs_len e1, hl])) q
/-- a, b = e, e a tuple -/
theorem sUnp {tg : Expr} {m : M} {sl : List Nat} {g : MG} (he : PE X e (rd G m)) (hg : PG X tg (rdg G sl g)) (hs : swapsWithSole [tg] e pos.line X.env = pure false := by rfl) (hw : swappedStores [tg] e X.env = pure none := by rfl)
    (h1 : (assignEach [tg] X.env).map (·.2) = [assign tg X.env] := by rfl) : PS X (.Assign [tg] e pos) (rds G (fun ρ => (m ρ).bind fun p => (g p.1 p.2).map fun ρ1 => (.nx, ρ1))) :=
  (ps_asg he hg hs hw h1).weak fun W σ H ⟨ρ, T, F, fl, ρ', S, e, k⟩ => by
    obtain ⟨d, ρ1, e1, e⟩ := bind2 e
    obtain ⟨ρ2, e2, e⟩ := map2 e
    cases e
    exact ⟨ρ, T, F, d, ρ1, S, e1, fun v F1 H1 S1 q1 r => ⟨ρ1, T, F1, d, _, S1, r, e2, fun σ' F' H' S' q _ _ => k σ' F' H' S' (q1.trans q)⟩⟩
end
def mUnp (m : M) (g : MG) : MS := fun ρ => (m ρ).bind fun p => (g p.1 p.2).map fun ρ1 => (.nx, ρ1)
/-! ### a slot that is read, not given up -/
def slD (ρ : En) (i : Nat) : Option D := match ρ[i]? with
  | some (.fz d) => some d
  | some (.ow d) => if objD d then none else some d
  | some (.io d) => if objD d then none else some d
  | _ => none
def Cp (K : PySem.W.Frag) (F H : Hp) (v : V) (d : D) : Prop := Rp K F v d ∨ ∃ a, v = .ref a ∧ Own K F H a d ∧ objD d = false
theorem Cp.lst {K : PySem.W.Frag} {F H : Hp} {v : V} {ds : List D} (fh : Same F H) (h : Cp K F H v (.list ds)) : ∃ a vs, v = .ref a ∧ SqL K H a vs ∧ RpAll K F vs ds := by
  rcases h with r | ⟨a, rfl, ⟨vs, h1, h2⟩, _⟩
  · cases r with
    | lst s r => exact ⟨_, _, rfl, sql_mono fh s, r⟩
  · exact ⟨a, vs, rfl, SqL.of h1, h2⟩
theorem Cp.tup {K : PySem.W.Frag} {F H : Hp} {v : V} {ds : List D} (fh : Same F H) (h : Cp K F H v (.tuple ds)) : ∃ a vs, v = .ref a ∧ SqT K H a vs ∧ RpAll K F vs ds := by
  rcases h with r | ⟨a, _, w, no⟩
  · cases r with
    | tup s r => exact ⟨_, _, rfl, sqt_mono fh s, r⟩
  · cases no
theorem Cp.str {K : PySem.W.Frag} {F H : Hp} {v : V} {x : Str} (h : Cp K F H v (.str x)) : v = .str x := by
  rcases h with r | ⟨a, _, w, no⟩
  · cases r; rfl
  · exact w.elim
theorem Cp.dp {K : PySem.W.Frag} {F H : Hp} {v : V} {d : D} (fh : Same F H) (h : Cp K F H v d) (l : d.canLay0 = true) : Dp K H v d := by
  rcases h with r | ⟨a, rfl, w, no⟩
  · exact r.dp fh d v l
  · cases d with
    | list ds =>
      obtain ⟨vs, h1, h2⟩ := w
      exact .lst (SqL.of h1) (RpAll.dp fh ds vs h2 (by simpa [PyData.canLay0] using l))
    | dict ds => simp [PyData.canLay0] at l
    | tuple _ => cases no
    | _ => exact w.elim
section
variable {G : Gx} {ρ : En} {σ : L2.St} {T : TL} {F H : Hp}
theorem StR.sl (S : StR G ρ σ T F H) {i : Nat} {d : D} (h : slD ρ i = some d) : ∃ v, σ[i]? = some (some v) ∧ Cp G.K F H v d := by
  unfold slD at h
  split at h
  · rename_i d' e; cases h
    obtain ⟨v, h1, h2⟩ := S.fz i d e
    exact ⟨v, h1, .inl h2⟩
  · rename_i d' e
    split at h
    · cases h
    rename_i no
    cases h
    obtain ⟨a, h1, _, _, h2⟩ := S.ow i d e
    exact ⟨_, h1, .inr ⟨a, rfl, h2, by simpa using no⟩⟩
  · rename_i d' e
    split at h
    · cases h
    rename_i no
    cases h
    obtain ⟨a, _, h1, h2⟩ := S.io i d e
    exact ⟨_, h1, .inr ⟨a, rfl, h2, by simpa using no⟩⟩
  · cases h
end
def dIx : D → D → Option D
  | .list ds, .int k => atI ds k
  | .tuple ds, .int k => atI ds k
  | .str x, .int k => if x.length ≤ sizeLine then (atI x.cps.toList k).map fun c => .str ⟨#[c]⟩ else none
  | _, _ => none
theorem atI_rp {K : PySem.W.Frag} {F : Hp} {vs : List V} {ds : List D} {k : Int} {d : D} (r : RpAll K F vs ds) (h : atI ds k = some d) : ∃ v, atI vs k = some v ∧ Rp K F v d := by
  unfold atI at h ⊢
  rw [r.length]
  cases e : ixN ds.length k with
  | none => rw [e] at h; cases h
  | some j =>
    rw [e] at h
    exact r.get h
/-- an index: a value that stands for the content -/
theorem dIx_ok {K : PySem.W.Frag} {F H : Hp} {v y : V} {d dy r : D} {Q : VK} (fh : Same F H) (c : Cp K F H v d) (ry : Rp K F y dy) (h : dIx d dy = some r) (q : ∀ u, Rp K F u r → Q u H) : rIx K v y H Q := by
  cases d with
  | list ds =>
    cases dy with
    | int k =>
      cases ry
      obtain ⟨a, vs, rfl, h1, h2⟩ := c.lst fh
      obtain ⟨u, h3, h4⟩ := atI_rp h2 h
      exact .inl ⟨a, vs, k, u, rfl, rfl, h1, h3, q u h4⟩
    | _ => cases h
  | tuple ds =>
    cases dy with
    | int k =>
      cases ry
      obtain ⟨a, vs, rfl, h1, h2⟩ := c.tup fh
      obtain ⟨u, h3, h4⟩ := atI_rp h2 h
      exact .inr (.inl ⟨a, vs, k, u, rfl, rfl, h1, h3, q u h4⟩)
    | _ => cases h
  | str x =>
    cases dy with
    | int k =>
      cases ry
      cases c.str
      have h' : (if x.length ≤ sizeLine then (atI x.cps.toList k).map fun c => PyData.str ⟨#[c]⟩ else none) = some r := h
      split at h'
      · rename_i hz
        obtain ⟨z, e1, e2⟩ := map2 h'
        subst e2
        exact .inr (.inr ⟨x, k, z, rfl, rfl, hz, e1, q _ (.str _)⟩)
      · cases h'
    | _ => cases h
  | _ => cases h
def mIx (a b : M) : M := mBin dIx a b
/-- x[e], x a name -/
def mIxV (i : Nat) (b : M) : M := fun ρ => (slD ρ i).bind fun _ => (b ρ).bind fun q => (slD q.2 i).bind fun d => (dIx d q.1).map fun r => (r, q.2)
def dLen : D → Option D
  | .list ds => some (.int ds.length)
  | .tuple ds => some (.int ds.length)
  | .str x => if x.length ≤ sizeLine then some (.int x.length) else none
  | _ => none
def mLenV (i : Nat) : M := fun ρ => (slD ρ i).bind fun d => (dLen d).map fun r => (r, ρ)
def dEq (a b : D) : Option D := if SeqAt.shaped a && SeqAt.shaped b then some (.bool (PyData.eqv a b)) else none
def dNe (a b : D) : Option D := if SeqAt.shaped a && SeqAt.shaped b then some (.bool (!PyData.eqv a b)) else none
/-- x == e, x a name -/
def mCmpV (g : D → D → Option D) (i : Nat) (b : M) : M := fun ρ => (slD ρ i).bind fun _ => (b ρ).bind fun q => (slD q.2 i).bind fun d => (g d q.1).map fun r => (r, q.2)
section
variable {G : Gx} {X : Cx} {a b e : Expr} {es : List Expr} {x : Str} {px pos p : Pos} {ma mb m : M}
theorem Op2_ix : Op2 G.K (rIx G.K) dIx := fun F H x y dx dy d Q fh rx ry h q => dIx_ok fh (.inl rx) ry h fun u ru => q u F H .same ru
theorem rIx (ha : PE X a (rd G ma)) (hb : PE X b (rd G mb)) (hK : G.K = X.K) (hs : PlainIx b := by exact fun _ _ => rfl) : PE X (.Subscript a b pos) (rd G (mIx ma mb)) :=
  (pe_ix ix_seq ha hb hs).weak (by rw [← hK]; exact tOp_rd Op2_ix)
theorem rIxV (i : Nat) (hb : PE X b (rd G mb)) (hK : G.K = X.K) (hN : X.N[i]? = some x := by rfl) (hv : Vis X.env.scope x := by first | exact Or.inl rfl | exact Or.inr (Or.inl rfl) | exact Or.inr (Or.inr rfl)) (hs : PlainIx b := by exact fun _ _ => rfl)
    (hd : (x == ("__debug__" : Str)) = false := by decide) (hcd : (x == ("__classdict__" : Str)) = false := by decide) : PE X (.Subscript (.Name x px) b pos) (rd G (mIxV i mb)) :=
  (pe_ix ix_seq (pe_var hN hv hd hcd) hb hs).weak fun σ H Q ⟨ρ, T, F, d, ρ', S, em, k⟩ => by
    obtain ⟨d0, h0, em⟩ := obind em
    obtain ⟨dk, ρ1, e1, em⟩ := bind2 em
    obtain ⟨d1, h1, em⟩ := obind em
    obtain ⟨r, e2, em⟩ := map2 em
    cases em
    obtain ⟨v, hv, _⟩ := S.sl h0
    refine ⟨v, hv, ρ, T, F, dk, _, S, e1, fun y F1 H1 S1 q1 ry => ?_⟩
    obtain ⟨v', hv', c⟩ := S1.sl h1
    rw [hv] at hv'; cases hv'
    rw [← hK]
    exact dIx_ok S1.fh c ry e2 fun u ru => k u F1 H1 S1 q1 ru
theorem rLenV (i : Nat) (hm : X.mg "len" = none) (hK : G.K = X.K) (hN : X.N[i]? = some x := by rfl) (hv : Vis X.env.scope x := by first | exact Or.inl rfl | exact Or.inr (Or.inl rfl) | exact Or.inr (Or.inr rfl)) (hg : Gl X "len" := by rfl)
    (hd : (x == ("__debug__" : Str)) = false := by decide) (hcd : (x == ("__classdict__" : Str)) = false := by decide) (h1 : starEach [.Name x px] X.env = (false, eval (.Name x px) X.env) :: starEach [] X.env := by rfl) (hpl : (backTo pos (starEach [] X.env)).any (·.1) = false := by rfl) :
    PE X (.Call (.Name "len" p) [.Name x px] [] pos) (rd G (mLenV i)) :=
  (pe_callB (call_len_seq.or call_len_str) hg hm PySem.boot_len (pa_cons (pe_var hN hv hd hcd) pa_nil h1) (by decide) (by decide) h1 hpl).weak fun σ H Q ⟨ρ, T, F, d, ρ', S, em, k⟩ => by
    obtain ⟨d0, h0, em⟩ := obind em
    obtain ⟨r, e2, em⟩ := map2 em
    cases em
    obtain ⟨v, hv, c⟩ := S.sl h0
    refine ⟨v, hv, ?_⟩
    rw [← hK]
    cases d0 with
    | list ds =>
      cases e2
      obtain ⟨a, vs, rfl, z1, z2⟩ := c.lst S.fh
      exact .inl ⟨a, vs, rfl, .inl z1, by rw [z2.length]; exact k _ F H S (Same.refl F) (.int _)⟩
    | tuple ds =>
      cases e2
      obtain ⟨a, vs, rfl, z1, z2⟩ := c.tup S.fh
      exact .inl ⟨a, vs, rfl, .inr (z1), by rw [z2.length]; exact k _ F H S (Same.refl F) (.int _)⟩
    | str x =>
      cases c.str
      have h' : (if x.length ≤ sizeLine then some (PyData.int x.length) else none) = some _ := e2
      split at h'
      · rename_i hz
        cases h'
        exact .inr ⟨x, rfl, hz, k _ F H S (Same.refl F) (.int _)⟩
      · cases h'
    | _ => cases e2
theorem rLen (ha : PE X a (rd G ma)) (hm : X.mg "len" = none) (hK : G.K = X.K) (hg : Gl X "len" := by rfl) (h1 : starEach [a] X.env = (false, eval a X.env) :: starEach [] X.env := by rfl) (hpl : (backTo pos (starEach [] X.env)).any (·.1) = false := by rfl) :
    PE X (.Call (.Name "len" p) [a] [] pos) (rd G (mUn dLen ma)) :=
  (pe_callB (call_len_seq.or call_len_str) hg hm PySem.boot_len (pa_cons ha pa_nil h1) (by decide) (by decide) h1 hpl).weak fun σ H Q ⟨ρ, T, F, d, ρ', S, em, k⟩ => by
    obtain ⟨d0, ρ1, e1, em⟩ := bind2 em
    obtain ⟨r, e2, em⟩ := map2 em
    cases em
    refine ⟨ρ, T, F, d0, _, S, e1, fun v F1 H1 S1 q1 r1 => ?_⟩
    have c : Cp G.K F1 H1 v d0 := .inl r1
    rw [← hK]
    cases d0 with
    | list ds =>
      cases e2
      obtain ⟨a, vs, rfl, z1, z2⟩ := c.lst S1.fh
      exact .inl ⟨a, vs, rfl, .inl z1, by rw [z2.length]; exact k _ F1 H1 S1 q1 (.int _)⟩
    | tuple ds =>
      cases e2
      obtain ⟨a, vs, rfl, z1, z2⟩ := c.tup S1.fh
      exact .inl ⟨a, vs, rfl, .inr (z1), by rw [z2.length]; exact k _ F1 H1 S1 q1 (.int _)⟩
    | str x =>
      cases c.str
      have h' : (if x.length ≤ sizeLine then some (PyData.int x.length) else none) = some _ := e2
      split at h'
      · rename_i hz
        cases h'
        exact .inr ⟨x, rfl, hz, k _ F1 H1 S1 q1 (.int _)⟩
      · cases h'
    | _ => cases e2
theorem Op2_eq : Op2 G.K (rEqD G.K) dEq := fun F H x y dx dy d Q fh rx ry h q => by
  unfold dEq at h
  split at h
  · rename_i hs
    cases h
    rw [Bool.and_eq_true] at hs
    exact ⟨dx, dy, rx.dp fh dx x (SeqAt.canLay_of_shaped hs.1), ry.dp fh dy y (SeqAt.canLay_of_shaped hs.2), hs.1, hs.2, q _ F H .same (.bl _)⟩
  · cases h
theorem Op2_ne : Op2 G.K (rNeD G.K) dNe := fun F H x y dx dy d Q fh rx ry h q => by
  unfold dNe at h
  split at h
  · rename_i hs
    cases h
    rw [Bool.and_eq_true] at hs
    exact ⟨dx, dy, rx.dp fh dx x (SeqAt.canLay_of_shaped hs.1), ry.dp fh dy y (SeqAt.canLay_of_shaped hs.2), hs.1, hs.2, q _ F H .same (.bl _)⟩
  · cases h
theorem tOpV_rd (i : Nat) {r : R2} {g : D → D → Option D} (o : ∀ (F H : Hp) (v y : V) (d dy rr : D) (Q : VK), Same F H → Cp G.K F H v d → Rp G.K F y dy → g d dy = some rr → (∀ u, Rp G.K F u rr → Q u H) → r v y H Q) :
    ∀ σ H Q, rd G (mCmpV g i mb) σ H Q → tOp r (tVar i) (rd G mb) σ H Q := fun σ H Q ⟨ρ, T, F, d, ρ', S, em, k⟩ => by
  obtain ⟨d0, h0, em⟩ := obind em
  obtain ⟨dk, ρ1, e1, em⟩ := bind2 em
  obtain ⟨d1, h1, em⟩ := obind em
  obtain ⟨rr, e2, em⟩ := map2 em
  cases em
  obtain ⟨v, hv, _⟩ := S.sl h0
  refine ⟨v, hv, ρ, T, F, dk, _, S, e1, fun y F1 H1 S1 q1 ry => ?_⟩
  obtain ⟨v', hv', c⟩ := S1.sl h1
  rw [hv] at hv'; cases hv'
  exact o F1 H1 v y d1 dk d Q S1.fh c ry e2 fun u ru => k u F1 H1 S1 q1 ru
theorem eqV_ok (F H : Hp) (v y : V) (d dy rr : D) (Q : VK) (fh : Same F H) (c : Cp G.K F H v d) (ry : Rp G.K F y dy) (h : dEq d dy = some rr) (q : ∀ u, Rp G.K F u rr → Q u H) : rEqD G.K v y H Q := by
  unfold dEq at h
  split at h
  · rename_i hs
    cases h
    rw [Bool.and_eq_true] at hs
    exact ⟨d, dy, c.dp fh (SeqAt.canLay_of_shaped hs.1), ry.dp fh dy y (SeqAt.canLay_of_shaped hs.2), hs.1, hs.2, q _ (.bl _)⟩
  · cases h
theorem neV_ok (F H : Hp) (v y : V) (d dy rr : D) (Q : VK) (fh : Same F H) (c : Cp G.K F H v d) (ry : Rp G.K F y dy) (h : dNe d dy = some rr) (q : ∀ u, Rp G.K F u rr → Q u H) : rNeD G.K v y H Q := by
  unfold dNe at h
  split at h
  · rename_i hs
    cases h
    rw [Bool.and_eq_true] at hs
    exact ⟨d, dy, c.dp fh (SeqAt.canLay_of_shaped hs.1), ry.dp fh dy y (SeqAt.canLay_of_shaped hs.2), hs.1, hs.2, q _ (.bl _)⟩
  · cases h
theorem rEq (ha : PE X a (rd G ma)) (hb : PE X b (rd G mb)) (hu : X.A.units + 64 < cLine) (hK : G.K = X.K) : PE X (.Compare a [.Eq] [b] pos) (rd G (mBin dEq ma mb)) := rCmp (op_eqD hu) (by rw [← hK]; exact Op2_eq) ha hb (nomark _)
theorem rNe (ha : PE X a (rd G ma)) (hb : PE X b (rd G mb)) (hu : X.A.units + 64 < cLine) (hK : G.K = X.K) : PE X (.Compare a [.NotEq] [b] pos) (rd G (mBin dNe ma mb)) := rCmp (op_neD hu) (by rw [← hK]; exact Op2_ne) ha hb (nomark _)
theorem rEqT (ha : PE X a (rd G ma)) (hb : PE X b (rd G mb)) (hu : X.A.units + 64 < cLine) (hK : G.K = X.K) : PT X (.Compare a [.Eq] [b] pos) (rdt G (mB (mBin dEq ma mb))) := rCmpT (op_eqD hu) (by rw [← hK]; exact Op2_eq) ha hb (nomark _)
theorem rNeT (ha : PE X a (rd G ma)) (hb : PE X b (rd G mb)) (hu : X.A.units + 64 < cLine) (hK : G.K = X.K) : PT X (.Compare a [.NotEq] [b] pos) (rdt G (mB (mBin dNe ma mb))) := rCmpT (op_neD hu) (by rw [← hK]; exact Op2_ne) ha hb (nomark _)
theorem rEqV (i : Nat) (hb : PE X b (rd G mb)) (hu : X.A.units + 64 < cLine) (hK : G.K = X.K) (hN : X.N[i]? = some x := by rfl) (hv : Vis X.env.scope x := by first | exact Or.inl rfl | exact Or.inr (Or.inl rfl) | exact Or.inr (Or.inr rfl))
    (hd : (x == ("__debug__" : Str)) = false := by decide) (hcd : (x == ("__classdict__" : Str)) = false := by decide) : PE X (.Compare (.Name x px) [.Eq] [b] pos) (rd G (mCmpV dEq i mb)) :=
  (pe_cmpR (op_eqD hu) (pe_var hN hv hd hcd) hb (nomark _)).weak (by rw [← hK]; exact tOpV_rd i eqV_ok)
theorem rNeV (i : Nat) (hb : PE X b (rd G mb)) (hu : X.A.units + 64 < cLine) (hK : G.K = X.K) (hN : X.N[i]? = some x := by rfl) (hv : Vis X.env.scope x := by first | exact Or.inl rfl | exact Or.inr (Or.inl rfl) | exact Or.inr (Or.inr rfl))
    (hd : (x == ("__debug__" : Str)) = false := by decide) (hcd : (x == ("__classdict__" : Str)) = false := by decide) : PE X (.Compare (.Name x px) [.NotEq] [b] pos) (rd G (mCmpV dNe i mb)) :=
  (pe_cmpR (op_neD hu) (pe_var hN hv hd hcd) hb (nomark _)).weak (by rw [← hK]; exact tOpV_rd i neV_ok)
theorem rEqVT (i : Nat) (hb : PE X b (rd G mb)) (hu : X.A.units + 64 < cLine) (hK : G.K = X.K) (hN : X.N[i]? = some x := by rfl) (hv : Vis X.env.scope x := by first | exact Or.inl rfl | exact Or.inr (Or.inl rfl) | exact Or.inr (Or.inr rfl))
    (hd : (x == ("__debug__" : Str)) = false := by decide) (hcd : (x == ("__classdict__" : Str)) = false := by decide) : PT X (.Compare (.Name x px) [.Eq] [b] pos) (rdt G (mB (mCmpV dEq i mb))) :=
  (pt_cmpR (op_eqD hu) (pe_var hN hv hd hcd) hb (nomark _)).weak (mB_rd (by rw [← hK]; exact tOpV_rd i eqV_ok))
theorem rNeVT (i : Nat) (hb : PE X b (rd G mb)) (hu : X.A.units + 64 < cLine) (hK : G.K = X.K) (hN : X.N[i]? = some x := by rfl) (hv : Vis X.env.scope x := by first | exact Or.inl rfl | exact Or.inr (Or.inl rfl) | exact Or.inr (Or.inr rfl))
    (hd : (x == ("__debug__" : Str)) = false := by decide) (hcd : (x == ("__classdict__" : Str)) = false := by decide) : PT X (.Compare (.Name x px) [.NotEq] [b] pos) (rdt G (mB (mCmpV dNe i mb))) :=
  (pt_cmpR (op_neD hu) (pe_var hN hv hd hcd) hb (nomark _)).weak (mB_rd (by rw [← hK]; exact tOpV_rd i neV_ok))
end
end MM
/-! M7: changes of owned things, operators, built-ins. -/
namespace MM
open PySem L2
/-! ### changes of owned things -/
def ownD (ρ : En) (i : Nat) : Option D := match ρ[i]? with
  | some (.ow d) => some d
  | some (.io d) => some d
  | _ => none
def putD (ρ : En) (i : Nat) (d : D) : En := match ρ[i]? with
  | some (.ow _) => ρ.set i (.ow d)
  | some (.io _) => ρ.set i (.io d)
  | _ => ρ
section
variable {G : Gx} {ρ : En} {σ : L2.St} {T : TL} {F H : Hp}
theorem StR.own (S : StR G ρ σ T F H) {i : Nat} {d : D} (h : ownD ρ i = some d) : ∃ a, σ[i]? = some (some (.ref a)) ∧ F a = none ∧ Own G.K F H a d ∧
    ∀ d' o, Own G.K F (upd H a o) a d' → StR G (putD ρ i d') σ T F (upd H a o) := by
  have gen : ∀ a, F a = none → ∀ o, Same F (upd H a o) ∧ ∀ b u, b ≠ a → H b = some u → upd H a o b = some u := fun a hF o =>
    ⟨fun b u e => by rw [upd_ne (ne_of_none e hF)]; exact S.fh b u e, fun b u n e => by rw [upd_ne n]; exact e⟩
  unfold ownD at h
  split at h
  · rename_i d0 e; cases h
    obtain ⟨a, h1, h2, h3, h4⟩ := S.ow i d e
    refine ⟨a, h1, h2, h4, fun d' o w => ?_⟩
    unfold putD
    rw [e]
    exact S.chgO e h1 (Same.refl F) (gen a h2 o).1 (gen a h2 o).2 (fun b z => .inl z) w
  · rename_i d0 e; cases h
    obtain ⟨a, h0, h1, h4⟩ := S.io i d e
    have h2 := S.iof h0
    refine ⟨a, h1, h2, h4, fun d' o w => ?_⟩
    unfold putD
    rw [e]
    exact S.chgI e h1 (Same.refl F) (gen a h2 o).1 (gen a h2 o).2 (fun b z => .inl z) w
  · cases h
end
def dSetIx : D → D → D → Option D
  | .list ds, .int k, v => (ixN ds.length k).map fun j => .list (ds.set j v)
  | _, _, _ => none
/-- x[e] = v -/
def mSetIx (i : Nat) (mi mv : M) : MS := fun ρ => (mv ρ).bind fun p => (slD p.2 i).bind fun _ => (mi p.2).bind fun q => (ownD q.2 i).bind fun d => (dSetIx d q.1 p.1).map fun d' => (.nx, putD q.2 i d')
def dApp : D → D → Option D
  | .list ds, v => if ds.length < 16777216 then some (.list (ds ++ [v])) else none
  | _, _ => none
def isL : D → Bool
  | .list _ => true
  | _ => false
/-- x.append(e) -/
def mApp (i : Nat) (m : M) : MS := fun ρ => (ownD ρ i).bind fun d0 => if isL d0 then (m ρ).bind fun p => (ownD p.2 i).bind fun d => (dApp d p.1).map fun d' => (.nx, putD p.2 i d') else none
def dPopAt : D → D → Option (D × D)
  | .list ds, .int k => if -(2 ^ 63) ≤ k ∧ k < 2 ^ 63 then (ixN ds.length k).bind fun j => (ds[j]?).map fun d => (d, .list (ds.eraseIdx j)) else none
  | _, _ => none
/-- x.pop(e) -/
def mPopAt (i : Nat) (m : M) : M := fun ρ => (ownD ρ i).bind fun d0 => if isL d0 then (m ρ).bind fun p => (ownD p.2 i).bind fun d => (dPopAt d p.1).map fun r => (r.1, putD p.2 i r.2) else none
def dPop : D → Option (D × D)
  | .list ds => (ds[ds.length - 1]?).map fun d => (d, .list ds.dropLast)
  | _ => none
/-- x.pop() -/
def mPop (i : Nat) : M := fun ρ => (ownD ρ i).bind fun d => (dPop d).map fun r => (r.1, putD ρ i r.2)
section
variable {G : Gx} {X : Cx} {a b e value : Expr} {es : List Expr} {x : Str} {px apos pos pos' p : Pos} {ma mb m mi mv : M}
theorem sSetIx (i : Nat) (hi : PE X e (rd G mi)) (hv : PE X value (rd G mv)) (hN : X.N[i]? = some x := by rfl) (hvs : Vis X.env.scope x := by first | exact Or.inl rfl | exact Or.inr (Or.inl rfl) | exact Or.inr (Or.inr rfl))
    (hd : (x == ("__debug__" : Str)) = false := by decide) (hcd : (x == ("__classdict__" : Str)) = false := by decide)
    (ha : ∀ v, assign (.Subscript (.Name x px) e pos') X.env v = (do
      let ov ← holding [v] (eval (.Name x px) X.env)
      let iv ← holding [v, ov] (eval e X.env)
      standAt pos'
      holding [v, ov, iv] (setItem ov iv v)
      release [v, ov, iv] []) := by intro _; rfl) (hs : swapsWithSole [.Subscript (.Name x px) e pos'] value pos.line X.env = pure false := by rfl) (hw : swappedStores [.Subscript (.Name x px) e pos'] value X.env = pure none := by rfl)
    (h1 : (assignEach [.Subscript (.Name x px) e pos'] X.env).map (·.2) = [assign (.Subscript (.Name x px) e pos') X.env] := by rfl) : PS X (.Assign [.Subscript (.Name x px) e pos'] value pos) (rds G (mSetIx i mi mv)) :=
  (ps_asg hv (pg_sub (pe_var hN hvs hd hcd) hi set_list ha) hs hw h1).weak fun W σ H ⟨ρ, T, F, fl, ρ', S, em, k⟩ => by
    obtain ⟨dv, ρ1, e1, em⟩ := bind2 em
    obtain ⟨d0, h0, em⟩ := obind em
    obtain ⟨dk, ρ2, e2, em⟩ := bind2 em
    obtain ⟨d1, h2, em⟩ := obind em
    obtain ⟨d2, e3, em⟩ := map2 em
    cases em
    refine ⟨ρ, T, F, dv, ρ1, S, e1, fun v F1 H1 S1 q1 rv => ?_⟩
    obtain ⟨u, hu, _⟩ := S1.sl h0
    refine ⟨u, hu, ρ1, T, F1, dk, ρ2, S1, e2, fun y F2 H2 S2 q2 ry => ?_⟩
    obtain ⟨l, hl, hF, w, ch⟩ := S2.own h2
    rw [hu] at hl; cases hl
    cases d1 with
    | list ds =>
      cases dk with
      | int n =>
        cases ry
        obtain ⟨vs, w1, w2⟩ := w
        obtain ⟨j, e4, e5⟩ := map2 (show (ixN ds.length n).map (fun j => PyData.list (ds.set j dv)) = some d2 from e3)
        subst e5
        refine ⟨l, vs, n, j, rfl, rfl, w1, by rw [w2.length]; exact e4, ?_⟩
        exact k _ F2 _ (ch _ _ ⟨_, upd_same, w2.set (rv.mono q2) j⟩) (q1.trans q2)
      | _ => cases e3
    | _ => cases e3
theorem tyL {d : D} {F H : Hp} {l : Addr} (w : Own G.K F H l d) (h : isL d = true) : tyV G.K "list" (.ref l) H := by
  cases d with
  | list ds =>
    obtain ⟨vs, w1, w2⟩ := w
    exact .inl ⟨rfl, vs, SqL.of w1⟩
  | _ => cases h
theorem sApp (i : Nat) (he : PE X e (rd G m)) (hK : G.K = X.K) (hN : X.N[i]? = some x := by rfl) (hvs : Vis X.env.scope x := by first | exact Or.inl rfl | exact Or.inr (Or.inl rfl) | exact Or.inr (Or.inr rfl))
    (hd : (x == ("__debug__" : Str)) = false := by decide) (hcd : (x == ("__classdict__" : Str)) = false := by decide)
    (hbase : attributeBase (.Name x px) "append" X.env (eval (.Name x px) X.env) = eval (.Name x px) X.env := by rfl)
    (hfew : ((backTo pos (starEach [e] X.env)).all (fun x => !x.1) && (backToKw pos (keywordEach [] X.env)).all (fun x => x.1.isSome)
      && decide (([e] : List Expr).length + ([] : List Keyword).length + (if ([] : List Keyword).isEmpty then 0 else 1) < 30)) = true := by rfl)
    (hline : (apos.endLine == pos.line) = true := by rfl) (hs : starEach [e] X.env = (false, eval e X.env) :: starEach [] X.env := by rfl) (hplain : (backTo pos (starEach [] X.env)).any (·.1) = false := by rfl)
    (hsw : swapsWith (.Call (.Attribute (.Name x px) "append" apos) [e] [] pos) none pos'.line X.env = pure false := by rfl) : PS X (.Expr (.Call (.Attribute (.Name x px) "append" apos) [e] [] pos) pos') (rds G (mApp i m)) :=
  (ps_expr (pe_bm PySem.F.plainAttrs_list PySem.F.slot_list_append PySem.F.type_list_append mt_append (pe_var hN hvs hd hcd) (pa_cons he pa_nil hs) hbase hfew hline hs hplain) hsw).weak fun W σ H ⟨ρ, T, F, fl, ρ', S, em, k⟩ => by
    obtain ⟨d0, h0, em⟩ := obind em
    split at em
    · rename_i hl
      obtain ⟨dv, ρ1, e1, em⟩ := bind2 em
      obtain ⟨d1, h1, em⟩ := obind em
      obtain ⟨d2, e2, em⟩ := map2 em
      cases em
      obtain ⟨l, hu, _, w0, _⟩ := S.own h0
      refine ⟨_, hu, by rw [← hK]; exact tyL w0 hl, ρ, T, F, dv, ρ1, S, e1, fun v F1 H1 S1 q1 rv => ?_⟩
      obtain ⟨l', hu', _, w, ch⟩ := S1.own h1
      rw [hu] at hu'; cases hu'
      cases d1 with
      | list ds =>
        obtain ⟨vs, w1, w2⟩ := w
        have e2' : (if ds.length < 16777216 then some (PyData.list (ds ++ [dv])) else none) = some d2 := e2
        split at e2'
        · rename_i hz
          cases e2'
          refine ⟨l, vs, v, rfl, rfl, w1, by rw [w2.length, sizeLine_eq]; exact hz, ?_⟩
          exact k _ F1 _ (ch _ _ ⟨_, upd_same, w2.append (.cons rv .nil)⟩) q1
        · cases e2'
      | _ => cases e2
    · cases em
theorem rPopAt (i : Nat) (he : PE X e (rd G m)) (hK : G.K = X.K) (hN : X.N[i]? = some x := by rfl) (hvs : Vis X.env.scope x := by first | exact Or.inl rfl | exact Or.inr (Or.inl rfl) | exact Or.inr (Or.inr rfl))
    (hd : (x == ("__debug__" : Str)) = false := by decide) (hcd : (x == ("__classdict__" : Str)) = false := by decide)
    (hbase : attributeBase (.Name x px) "pop" X.env (eval (.Name x px) X.env) = eval (.Name x px) X.env := by rfl)
    (hfew : ((backTo pos (starEach [e] X.env)).all (fun x => !x.1) && (backToKw pos (keywordEach [] X.env)).all (fun x => x.1.isSome)
      && decide (([e] : List Expr).length + ([] : List Keyword).length + (if ([] : List Keyword).isEmpty then 0 else 1) < 30)) = true := by rfl)
    (hline : (apos.endLine == pos.line) = true := by rfl) (hs : starEach [e] X.env = (false, eval e X.env) :: starEach [] X.env := by rfl) (hplain : (backTo pos (starEach [] X.env)).any (·.1) = false := by rfl) :
    PE X (.Call (.Attribute (.Name x px) "pop" apos) [e] [] pos) (rd G (mPopAt i m)) :=
  (pe_bm PySem.F.plainAttrs_list PySem.F.slot_list_pop PySem.F.type_list_pop mt_popAt (pe_var hN hvs hd hcd) (pa_cons he pa_nil hs) hbase hfew hline hs hplain).weak fun σ H Q ⟨ρ, T, F, d, ρ', S, em, k⟩ => by
    obtain ⟨d0, h0, em⟩ := obind em
    split at em
    · rename_i hl
      obtain ⟨dv, ρ1, e1, em⟩ := bind2 em
      obtain ⟨d1, h1, em⟩ := obind em
      obtain ⟨r, e2, em⟩ := map2 em
      cases em
      obtain ⟨l, hu, _, w0, _⟩ := S.own h0
      refine ⟨_, hu, by rw [← hK]; exact tyL w0 hl, ρ, T, F, dv, ρ1, S, e1, fun v F1 H1 S1 q1 rv => ?_⟩
      obtain ⟨l', hu', _, w, ch⟩ := S1.own h1
      rw [hu] at hu'; cases hu'
      cases d1 with
      | list ds =>
        cases dv with
        | int n =>
          cases rv
          obtain ⟨vs, w1, w2⟩ := w
          have e2' : (if -(2 ^ 63) ≤ n ∧ n < 2 ^ 63 then (ixN ds.length n).bind fun j => (ds[j]?).map fun d => (d, PyData.list (ds.eraseIdx j)) else none) = some r := e2
          split at e2'
          · rename_i hz
            obtain ⟨j, e3, e4⟩ := obind e2'
            obtain ⟨dj, e5, e6⟩ := map2 e4
            subst e6
            obtain ⟨u, h5, h6⟩ := w2.get e5
            refine ⟨l, vs, n, j, u, rfl, rfl, w1, hz.1, hz.2, by rw [w2.length]; exact (ixN_seq e3).1, h5, ?_⟩
            exact k _ F1 _ (ch _ _ ⟨_, upd_same, w2.eraseIdx j⟩) q1 h6
          · cases e2'
        | _ => cases e2
      | _ => cases e2
    · cases em
/-! ### operators of ints -/
def bInt (g : Int → Int → Option Int) : D → D → Option D
  | .int i, .int j => (g i j).map .int
  | _, _ => none
def rIg (C : Int → Int → Prop) (g : Int → Int → Int) : R2 := rI C fun i j => .int (g i j)
theorem Op2_int {K : PySem.W.Frag} {C : Int → Int → Prop} {f : Int → Int → Int} {g : Int → Int → Option Int} (h : ∀ i j r, g i j = some r → C i j ∧ r = f i j) : Op2 K (rI C fun i j => .int (f i j)) (bInt g) := fun F H x y dx dy d Q fh rx ry e q => by
  cases dx with
  | int i =>
    cases dy with
    | int j =>
      cases rx; cases ry
      obtain ⟨r, e1, e2⟩ := map2 (show (g i j).map PyData.int = some d from e)
      obtain ⟨hC, hr⟩ := h i j r e1
      subst hr
      subst e2
      exact ⟨i, j, rfl, rfl, hC, q _ F H .same (.int _)⟩
    | _ => cases e
  | _ => cases e
theorem Op2_int0 {K : PySem.W.Frag} {f : Int → Int → Int} : Op2 K (rI0 fun i j => .int (f i j)) (bInt fun i j => some (f i j)) := fun F H x y dx dy d Q fh rx ry e q => by
  cases dx with
  | int i =>
    cases dy with
    | int j =>
      cases rx; cases ry; cases e
      exact ⟨i, j, rfl, rfl, q _ F H .same (.int _)⟩
    | _ => cases e
  | _ => cases e
def gMul (i j : Int) : Option Int := if (-(2 ^ 64) < i ∧ i < 2 ^ 64) ∨ (-(2 ^ 64) < j ∧ j < 2 ^ 64) then some (i * j) else none
def gDiv (i j : Int) : Option Int := if 0 < j ∧ j < 1073741824 then some (i / j) else none
def gMod (i j : Int) : Option Int := if 0 < j then some (i % j) else none
def gPow (i j : Int) : Option Int := if 0 ≤ j ∧ j ≤ 1000000 ∧ i.natAbs < 2 ^ 64 then some (i ^ j.toNat) else none
def gShl (i j : Int) : Option Int := if 0 ≤ j ∧ j ≤ 1000000 ∧ i.natAbs < 2 ^ 64 then some (i * 2 ^ j.toNat) else none
def gShr (i j : Int) : Option Int := if 0 ≤ j then some (i / 2 ^ j.toNat) else none
theorem ite_some {c : Prop} [Decidable c] {α : Type} {x r : α} (h : (if c then some x else none) = some r) : c ∧ r = x := by
  split at h
  · cases h; exact ⟨by assumption, rfl⟩
  · cases h
theorem gMul_ok {i j r : Int} (h : gMul i j = some r) : CMul i j ∧ r = i * j := by
  unfold gMul at h
  split at h
  · cases h; exact ⟨by assumption, rfl⟩
  · cases h
theorem gDiv_ok {i j r : Int} (h : gDiv i j = some r) : CDiv i j ∧ r = i / j := by
  unfold gDiv at h
  split at h
  · cases h; exact ⟨by assumption, rfl⟩
  · cases h
theorem gPow_ok {i j r : Int} (h : gPow i j = some r) : CPow i j ∧ r = i ^ j.toNat := by
  unfold gPow at h
  split at h
  · cases h; exact ⟨by assumption, rfl⟩
  · cases h
theorem gShl_ok {i j r : Int} (h : gShl i j = some r) : CPow i j ∧ r = i * 2 ^ j.toNat := by
  unfold gShl at h
  split at h
  · cases h; exact ⟨by assumption, rfl⟩
  · cases h
theorem rSub (ha : PE X a (rd G ma)) (hb : PE X b (rd G mb)) : PE X (.BinOp a .Sub b pos) (rd G (mBin (bInt fun i j => some (i - j)) ma mb)) := rOp op_sub Op2_int0 ha hb
theorem rMul (ha : PE X a (rd G ma)) (hb : PE X b (rd G mb)) : PE X (.BinOp a .Mult b pos) (rd G (mBin (bInt gMul) ma mb)) := rOp op_mul (Op2_int fun i j r h => gMul_ok h) ha hb
theorem rDiv (ha : PE X a (rd G ma)) (hb : PE X b (rd G mb)) : PE X (.BinOp a .FloorDiv b pos) (rd G (mBin (bInt gDiv) ma mb)) := rOp op_fdiv (Op2_int fun i j r h => gDiv_ok h) ha hb
theorem rMod (ha : PE X a (rd G ma)) (hb : PE X b (rd G mb)) : PE X (.BinOp a .Mod b pos) (rd G (mBin (bInt gMod) ma mb)) := rOp op_mod (Op2_int fun i j r h => ite_some h) ha hb
theorem rPow (ha : PE X a (rd G ma)) (hb : PE X b (rd G mb)) : PE X (.BinOp a .Pow b pos) (rd G (mBin (bInt gPow) ma mb)) := rOp op_pow (Op2_int fun i j r h => gPow_ok h) ha hb
theorem rShl (ha : PE X a (rd G ma)) (hb : PE X b (rd G mb)) : PE X (.BinOp a .LShift b pos) (rd G (mBin (bInt gShl) ma mb)) := rOp op_shl (Op2_int fun i j r h => gShl_ok h) ha hb
theorem rShr (ha : PE X a (rd G ma)) (hb : PE X b (rd G mb)) : PE X (.BinOp a .RShift b pos) (rd G (mBin (bInt gShr) ma mb)) := rOp op_shr (Op2_int fun i j r h => ite_some h) ha hb
theorem rAndB (ha : PE X a (rd G ma)) (hb : PE X b (rd G mb)) : PE X (.BinOp a .BitAnd b pos) (rd G (mBin (bInt fun i j => some (Builtin.bitAnd i j)) ma mb)) := rOp op_and Op2_int0 ha hb
def dNeg : D → Option D
  | .int i => some (.int (-i))
  | _ => none
theorem rNeg (ha : PE X a (rd G ma)) : PE X (.UnaryOp .USub a pos) (rd G (mUn dNeg ma)) := rUn un_neg (fun F H x dx d Q fh rx e q => by
  cases dx with
  | int i => cases rx; cases e; exact ⟨i, rfl, q _ F H .same (.int _)⟩
  | _ => cases e) ha
/-! ### + -/
def dAdd : D → D → Option D
  | .int i, .int j => some (.int (i + j))
  | .str x, .str y => if x.length + y.length ≤ sizeLine then some (.str (x ++ y)) else none
  | .tuple xs, .tuple ys => if xs.length + ys.length ≤ 16777216 then some (.tuple (xs ++ ys)) else none
  | .list xs, .list ys => if xs.length + ys.length ≤ 16777216 then some (.list (xs ++ ys)) else none
  | _, _ => none
def rCatL (K : PySem.W.Frag) : R2 := fun x y H Q => ∃ l b xs zs, x = .ref l ∧ y = .ref b ∧ SqL K H l xs ∧ SqL K H b zs ∧ xs.length + zs.length ≤ sizeLine ∧ ∀ p, H p = none → Q (.ref p) (upd H p (.lst (xs ++ zs)))
open PySem.Spec PyProof.Rows in
theorem op_catL : OpR X (binaryOp .Add) (rCatL X.K) := by
  intro pins s σ H x y v u Q I rx ry h
  obtain ⟨l, b, xs, zs, rfl, rfl, hL, hB, hz, q⟩ := h
  cases rx
  cases ry
  obtain ⟨its, r, ⟨⟨cls, dd, data, sl⟩, n, ho, hc, hdd, hd⟩, _⟩ := I.list hL
  obtain ⟨its2, r2, ⟨⟨cls2, dd2, data2, sl2⟩, n2, ho2, hc2, hdd2, hd2⟩, _⟩ := I.list hB
  simp only at hc hd hc2 hd2
  subst hc hd hc2 hd2
  have l1 := r.length
  have l2 := r2.length
  refine concat_meets ⟨_, ho, rfl⟩ ⟨_, ho2, rfl⟩ noFill_list_add seq_list_add PySem.F.slot_list_add PySem.F.entry_list_add (PySem.F.args_list_add_2 _ _) (list_addW l b its.toArray its2.toArray n n2 dd dd2 sl sl2 (by simp only [List.size_toArray]; omega)) ⟨ho, ho2, ?_⟩
  have ea : its.toArray ++ its2.toArray = (its ++ its2).toArray := by simp
  rw [ea]
  exact ⟨.ref _, _, I.lnew (t' := s.toks) (r.append r2) (by rw [List.length_append]; omega), rfl, q _ I.fresh⟩
def rAdds (K : PySem.W.Frag) : R2 := fun x y H Q => (rI0 fun i j => V.int (i + j)) x y H Q ∨ (∃ i j, x = .str i ∧ y = .str j ∧ i.length + j.length ≤ sizeLine ∧ Q (.str (i ++ j)) H) ∨ rCatA K x y H Q ∨ rCatL K x y H Q
theorem op_adds : OpR X (binaryOp .Add) (rAdds X.K) := op_add.or (op_add_str.or (op_catA.or op_catL))
theorem Op2_add {K : PySem.W.Frag} : Op2 K (rAdds K) dAdd := fun F H x y dx dy d Q fh rx ry e q => by
  cases dx with
  | int i =>
    cases dy with
    | int j => cases rx; cases ry; cases e; exact .inl ⟨i, j, rfl, rfl, q _ F H .same (.int _)⟩
    | _ => cases e
  | str i =>
    cases dy with
    | str j =>
      cases rx; cases ry
      obtain ⟨h1, h2⟩ := ite_some (show (if i.length + j.length ≤ sizeLine then some (PyData.str (i ++ j)) else none) = some d from e)
      subst h2
      exact .inr (.inl ⟨i, j, rfl, rfl, h1, q _ F H .same (.str _)⟩)
    | _ => cases e
  | tuple ds =>
    cases dy with
    | tuple es =>
      obtain ⟨h1, h2⟩ := ite_some (show (if ds.length + es.length ≤ 16777216 then some (PyData.tuple (ds ++ es)) else none) = some d from e)
      subst h2
      cases rx with
      | tup s1 r1 =>
        cases ry with
        | tup s2 r2 =>
          have l1 := r1.length
          have l2 := r2.length
          refine .inr (.inr (.inl ⟨_, _, _, _, rfl, rfl, sqt_mono fh s1, sqt_mono fh s2, by rw [sizeLine_eq]; omega, fun z => ?_, fun _ z => ?_, fun _ _ p hp => ?_⟩))
          · subst z
            cases r1
            exact q _ F H .same (.tup s2 r2)
          · subst z
            cases r2
            rw [List.append_nil] at q
            exact q _ F H .same (.tup s1 r1)
          · have hF := fh.free hp
            exact q _ _ _ (.new hp) (.tup (SqT.of upd_same) ((r1.append r2).mono (same_upd hF)))
    | _ => cases e
  | list ds =>
    cases dy with
    | list es =>
      obtain ⟨h1, h2⟩ := ite_some (show (if ds.length + es.length ≤ 16777216 then some (PyData.list (ds ++ es)) else none) = some d from e)
      subst h2
      cases rx with
      | lst s1 r1 =>
        cases ry with
        | lst s2 r2 =>
          have l1 := r1.length
          have l2 := r2.length
          refine .inr (.inr (.inr ⟨_, _, _, _, rfl, rfl, sql_mono fh s1, sql_mono fh s2, by rw [sizeLine_eq]; omega, fun p hp => ?_⟩))
          have hF := fh.free hp
          exact q _ _ _ (.new hp) (.lst (SqL.of upd_same) ((r1.append r2).mono (same_upd hF)))
    | _ => cases e
  | _ => cases e
theorem rAdd (ha : PE X a (rd G ma)) (hb : PE X b (rd G mb)) (hK : G.K = X.K) : PE X (.BinOp a .Add b pos) (rd G (mBin dAdd ma mb)) := rOp op_adds (by rw [← hK]; exact Op2_add) ha hb
/-! ### list * int, an owned new one -/
def dRepL : D → D → Option D
  | .list xs, .int k => if xs.length * k.toNat ≤ 16777216 ∧ -(2 ^ 63) ≤ k ∧ k < 2 ^ 63 then some (.list (List.replicate k.toNat xs).flatten) else none
  | _, _ => none
theorem rRepL (ha : PE X a (rdo G ma)) (hb : PE X b (rd G mb)) : PE X (.BinOp a .Mult b pos) (rdo G (mBin dRepL ma mb)) :=
  (pe_op op_rep ha hb).weak fun σ H Q ⟨ρ, T, F, d, ρ', S, em, k⟩ => by
    obtain ⟨d1, ρ1, e1, em⟩ := bind2 em
    obtain ⟨d2, ρ2, e2, em⟩ := bind2 em
    obtain ⟨d3, e3, em⟩ := map2 em
    cases em
    refine ⟨ρ, T, F, d1, ρ1, S, e1, fun l F1 H1 S1 q1 => ⟨ρ1, (l, d1) :: T, F1, d2, _, S1, e2, fun y F2 H2 S2 q2 ry => ?_⟩⟩
    obtain ⟨_, _, w⟩ := S2.tm _ List.mem_cons_self
    cases d1 with
    | list xs =>
      cases d2 with
      | int n =>
        cases ry
        obtain ⟨vs, w1, w2⟩ := w
        obtain ⟨hz, h2⟩ := ite_some (show (if xs.length * n.toNat ≤ 16777216 ∧ -(2 ^ 63) ≤ n ∧ n < 2 ^ 63 then some (PyData.list (List.replicate n.toNat xs).flatten) else none) = some d from e3)
        subst h2
        refine ⟨l, n, vs, rfl, rfl, w1, hz.2.1, hz.2.2, by rw [w2.length, sizeLine_eq]; exact hz.1, fun p hp => ?_⟩
        exact k p F2 _ (S2.drop.allocO hp ⟨_, upd_same, w2.rep _⟩) (q1.trans q2)
      | _ => cases e3
    | _ => cases e3
/-! ### comparisons of ints -/
def bCmp (p : Int → Int → Bool) : D → D → Option D
  | .int i, .int j => some (.bool (p i j))
  | _, _ => none
theorem Op2_cmp {K : PySem.W.Frag} {p : Int → Int → Bool} : Op2 K (rI0 fun i j => .bl (p i j)) (bCmp p) := fun F H x y dx dy d Q fh rx ry e q => by
  cases dx with
  | int i =>
    cases dy with
    | int j =>
      cases rx; cases ry; cases e
      exact ⟨i, j, rfl, rfl, q _ F H .same (.bl _)⟩
    | _ => cases e
  | _ => cases e
def pLt (i j : Int) : Bool := decide (i < j)
def pLe (i j : Int) : Bool := decide (i ≤ j)
def pGt (i j : Int) : Bool := decide (j < i)
def pGe (i j : Int) : Bool := decide (j ≤ i)
theorem rLt (ha : PE X a (rd G ma)) (hb : PE X b (rd G mb)) : PE X (.Compare a [.Lt] [b] pos) (rd G (mBin (bCmp pLt) ma mb)) := rCmp op_lt Op2_cmp ha hb (nomark _)
theorem rLe (ha : PE X a (rd G ma)) (hb : PE X b (rd G mb)) : PE X (.Compare a [.LtE] [b] pos) (rd G (mBin (bCmp pLe) ma mb)) := rCmp op_le Op2_cmp ha hb (nomark _)
theorem rGt (ha : PE X a (rd G ma)) (hb : PE X b (rd G mb)) : PE X (.Compare a [.Gt] [b] pos) (rd G (mBin (bCmp pGt) ma mb)) := rCmp op_gt Op2_cmp ha hb (nomark _)
theorem rGe (ha : PE X a (rd G ma)) (hb : PE X b (rd G mb)) : PE X (.Compare a [.GtE] [b] pos) (rd G (mBin (bCmp pGe) ma mb)) := rCmp op_ge Op2_cmp ha hb (nomark _)
theorem rLtT (ha : PE X a (rd G ma)) (hb : PE X b (rd G mb)) : PT X (.Compare a [.Lt] [b] pos) (rdt G (mB (mBin (bCmp pLt) ma mb))) := rCmpT op_lt Op2_cmp ha hb (nomark _)
theorem rLeT (ha : PE X a (rd G ma)) (hb : PE X b (rd G mb)) : PT X (.Compare a [.LtE] [b] pos) (rdt G (mB (mBin (bCmp pLe) ma mb))) := rCmpT op_le Op2_cmp ha hb (nomark _)
theorem rGtT (ha : PE X a (rd G ma)) (hb : PE X b (rd G mb)) : PT X (.Compare a [.Gt] [b] pos) (rdt G (mB (mBin (bCmp pGt) ma mb))) := rCmpT op_gt Op2_cmp ha hb (nomark _)
theorem rGeT (ha : PE X a (rd G ma)) (hb : PE X b (rd G mb)) : PT X (.Compare a [.GtE] [b] pos) (rdt G (mB (mBin (bCmp pGe) ma mb))) := rCmpT op_ge Op2_cmp ha hb (nomark _)
end
end MM
/-! M8: chains, in, isinstance, built-in functions, slices, is. -/
namespace MM
open PySem L2
/-! ### a op b op c -/
def mChain (g g' : D → D → Option D) (a b c : M) : M := fun ρ => (a ρ).bind fun p => (b p.2).bind fun q => (g p.1 q.1).bind fun t => match t with
  | .bool true => (c q.2).bind fun r => (g' q.1 r.1).map fun d => (d, r.2)
  | .bool false => some (.bool false, q.2)
  | _ => none
/-- an operation that gives a bool -/
def Op2b (K : PySem.W.Frag) (r : R2) (g : D → D → Option D) : Prop := ∀ (F H : Hp) (x y : V) (dx dy d : D) (Q : VK), Same F H → Rp K F x dx → Rp K F y dy → g dx dy = some d → (∀ b, d = .bool b → Q (.bl b) H) → r x y H Q
theorem Op2b.op2 {K : PySem.W.Frag} {r : R2} {g : D → D → Option D} (o : Op2b K r g) : Op2 K r g := fun F H x y dx dy d Q fh rx ry e q => o F H x y dx dy d Q fh rx ry e fun b eb => q _ F H .same (by rw [eb]; exact .bl b)
theorem Op2b_cmp {K : PySem.W.Frag} {p : Int → Int → Bool} : Op2b K (rI0 fun i j => .bl (p i j)) (bCmp p) := fun F H x y dx dy d Q fh rx ry e q => by
  cases dx with
  | int i =>
    cases dy with
    | int j =>
      cases rx; cases ry; cases e
      exact ⟨i, j, rfl, rfl, q _ rfl⟩
    | _ => cases e
  | _ => cases e
theorem Op2b_eq {K : PySem.W.Frag} : Op2b K (rEqD K) dEq := fun F H x y dx dy d Q fh rx ry h q => by
  unfold dEq at h
  split at h
  · rename_i hs
    cases h
    rw [Bool.and_eq_true] at hs
    exact ⟨dx, dy, rx.dp fh dx x (SeqAt.canLay_of_shaped hs.1), ry.dp fh dy y (SeqAt.canLay_of_shaped hs.2), hs.1, hs.2, q _ rfl⟩
  · cases h
section
variable {G : Gx} {X : Cx} {a b c e e2 : Expr} {es : List Expr} {x : Str} {p px apos pos pos' : Pos} {ma mb mc m : M}
theorem chain_rd {r r' : R2} {g g' : D → D → Option D} (o : Op2b G.K r g) (o' : Op2 G.K r' g') : ∀ σ H Q, rd G (mChain g g' ma mb mc) σ H Q → tChain r r' (rd G ma) (rd G mb) (rd G mc) σ H Q := fun σ H Q ⟨ρ, T, F, d, ρ', S, em, k⟩ => by
  obtain ⟨d1, ρ1, e1, em⟩ := bind2 em
  obtain ⟨d2, ρ2, e2, em⟩ := bind2 em
  obtain ⟨t, e3, em⟩ := obind em
  refine ⟨ρ, T, F, d1, ρ1, S, e1, fun v1 F1 H1 S1 q1 r1 => ⟨ρ1, T, F1, d2, ρ2, S1, e2, fun v2 F2 H2 S2 q2 r2 => ?_⟩⟩
  refine o F2 H2 v1 v2 d1 d2 t _ S2.fh (r1.mono q2) r2 e3 fun bb eb => ?_
  subst eb
  refine ⟨bb, rfl, ?_⟩
  cases bb with
  | false =>
    cases em
    exact k _ F2 H2 S2 (q1.trans q2) (.bl _)
  | true =>
    obtain ⟨d4, ρ4, e4, em⟩ := bind2 em
    obtain ⟨d5, e5, em⟩ := map2 em
    cases em
    refine ⟨ρ2, T, F2, d4, _, S2, e4, fun v4 F4 H4 S4 q4 r4 => ?_⟩
    refine o' F4 H4 v2 v4 d2 d4 d _ S4.fh (r2.mono q4) r4 e5 fun v F' H' gr rv => ?_
    obtain ⟨S5, q5⟩ := gr.st S4
    exact k v F' H' S5 (((q1.trans q2).trans q4).trans q5) rv
theorem rChain {op op' : CmpOp} {r r' : R2} {g g' : D → D → Option D} (ho : OpR X (compareOp op) r) (o : Op2b G.K r g) (ho' : OpR X (compareOp op') r') (o' : Op2 G.K r' g') (ha : PE X a (rd G ma)) (hb : PE X b (rd G mb)) (hc : PE X c (rd G mc))
    (hm : lastMarks [op, op'] [b, c] = false := by with_unfolding_all rfl) : PE X (.Compare a [op, op'] [b, c] pos) (rd G (mChain g g' ma mb mc)) := (pe_chain ho ho' ha hb hc hm).weak (chain_rd o o')
theorem rChainT {op op' : CmpOp} {r r' : R2} {g g' : D → D → Option D} (ho : OpR X (compareOp op) r) (o : Op2b G.K r g) (ho' : OpR X (compareOp op') r') (o' : Op2 G.K r' g') (ha : PE X a (rd G ma)) (hb : PE X b (rd G mb)) (hc : PE X c (rd G mc))
    (hm : lastMarks [op, op'] [b, c] = false := by with_unfolding_all rfl) : PT X (.Compare a [op, op'] [b, c] pos) (rdt G (mB (mChain g g' ma mb mc))) := (pt_chain ho ho' ha hb hc hm).weak (mB_rd (chain_rd o o'))
theorem rLeLe (ha : PE X a (rd G ma)) (hb : PE X b (rd G mb)) (hc : PE X c (rd G mc)) (hm : lastMarks [.LtE, .LtE] [b, c] = false := by with_unfolding_all rfl) : PE X (.Compare a [.LtE, .LtE] [b, c] pos) (rd G (mChain (bCmp pLe) (bCmp pLe) ma mb mc)) :=
  rChain op_le Op2b_cmp op_le Op2_cmp ha hb hc hm
/-! ### in: flat items -/
def dFlat : D → Bool
  | .none => true
  | .bool _ => true
  | .int _ => true
  | .str _ => true
  | _ => false
def dEqF : D → D → Bool
  | .none, .none => true
  | .bool a, .bool b => a == b
  | .bool a, .int b => (if a then 1 else 0) == b
  | .int a, .bool b => a == (if b then 1 else 0)
  | .int a, .int b => a == b
  | .str a, .str b => a == b
  | _, _ => false
def vD : D → V
  | .none => .non
  | .bool b => .bl b
  | .int i => .int i
  | .str x => .str x
  | _ => .non
theorem flat_rp {K : PySem.W.Frag} {F : Hp} {v : V} {d : D} (r : Rp K F v d) (h : dFlat d = true) : v = vD d ∧ flatV v = true := by
  cases r <;> first | exact ⟨rfl, rfl⟩ | cases h
theorem flat_eq {a b : D} (ha : dFlat a = true) (hb : dFlat b = true) : eqV (vD a) (vD b) = dEqF a b := by
  cases a <;> first | (cases ha; done) | (cases b <;> first | (cases hb; done) | rfl)
theorem flats_rp {K : PySem.W.Frag} {F : Hp} : ∀ {vs : List V} {ds : List D}, RpAll K F vs ds → ds.all dFlat = true → vs.all flatV = true ∧ ∀ d, dFlat d = true → inV (vD d) vs = ds.any fun z => dEqF z d
  | _, _, .nil, _ => ⟨rfl, fun _ _ => rfl⟩
  | _, _, .cons r t, h => by
    rw [List.all_cons, Bool.and_eq_true] at h
    obtain ⟨h1, h2⟩ := flat_rp r h.1
    obtain ⟨h3, h4⟩ := flats_rp t h.2
    refine ⟨by rw [List.all_cons, h2, h3]; rfl, fun d hd => ?_⟩
    have e := h4 d hd
    unfold inV at e ⊢
    rw [List.any_cons, List.any_cons, e, h1, flat_eq h.1 hd]
def dIn : D → D → Option D
  | x, .list ds => if dFlat x && ds.all dFlat then some (.bool (ds.any fun z => dEqF z x)) else none
  | x, .tuple ds => if dFlat x && ds.all dFlat then some (.bool (ds.any fun z => dEqF z x)) else none
  | _, _ => none
def dNotIn : D → D → Option D
  | x, .list ds => if dFlat x && ds.all dFlat then some (.bool (!ds.any fun z => dEqF z x)) else none
  | x, .tuple ds => if dFlat x && ds.all dFlat then some (.bool (!ds.any fun z => dEqF z x)) else none
  | _, _ => none
theorem Op2b_in {K : PySem.W.Frag} : Op2b K (rIn K false) dIn := fun F H x y dx dy d Q fh rx ry h q => by
  cases dy with
  | list ds =>
    obtain ⟨h1, h2⟩ := ite_some (show (if (dFlat dx && ds.all dFlat) = true then some (PyData.bool (ds.any fun z => dEqF z dx)) else none) = some d from h)
    rw [Bool.and_eq_true] at h1
    subst h2
    cases ry with
    | lst s r =>
      obtain ⟨z1, z2⟩ := flat_rp rx h1.1
      obtain ⟨z3, z4⟩ := flats_rp r h1.2
      refine ⟨_, _, rfl, .inl (sql_mono fh s), z2, z3, ?_⟩
      rw [z1]
      show Q (.bl (inV (vD dx) _)) H
      rw [z4 dx h1.1]
      exact q _ rfl
  | tuple ds =>
    obtain ⟨h1, h2⟩ := ite_some (show (if (dFlat dx && ds.all dFlat) = true then some (PyData.bool (ds.any fun z => dEqF z dx)) else none) = some d from h)
    rw [Bool.and_eq_true] at h1
    subst h2
    cases ry with
    | tup s r =>
      obtain ⟨z1, z2⟩ := flat_rp rx h1.1
      obtain ⟨z3, z4⟩ := flats_rp r h1.2
      refine ⟨_, _, rfl, .inr (sqt_mono fh s), z2, z3, ?_⟩
      rw [z1]
      show Q (.bl (inV (vD dx) _)) H
      rw [z4 dx h1.1]
      exact q _ rfl
  | _ => cases h
theorem Op2b_notIn {K : PySem.W.Frag} : Op2b K (rIn K true) dNotIn := fun F H x y dx dy d Q fh rx ry h q => by
  cases dy with
  | list ds =>
    obtain ⟨h1, h2⟩ := ite_some (show (if (dFlat dx && ds.all dFlat) = true then some (PyData.bool (!ds.any fun z => dEqF z dx)) else none) = some d from h)
    rw [Bool.and_eq_true] at h1
    subst h2
    cases ry with
    | lst s r =>
      obtain ⟨z1, z2⟩ := flat_rp rx h1.1
      obtain ⟨z3, z4⟩ := flats_rp r h1.2
      refine ⟨_, _, rfl, .inl (sql_mono fh s), z2, z3, ?_⟩
      rw [z1]
      show Q (.bl (!inV (vD dx) _)) H
      rw [z4 dx h1.1]
      exact q _ rfl
  | tuple ds =>
    obtain ⟨h1, h2⟩ := ite_some (show (if (dFlat dx && ds.all dFlat) = true then some (PyData.bool (!ds.any fun z => dEqF z dx)) else none) = some d from h)
    rw [Bool.and_eq_true] at h1
    subst h2
    cases ry with
    | tup s r =>
      obtain ⟨z1, z2⟩ := flat_rp rx h1.1
      obtain ⟨z3, z4⟩ := flats_rp r h1.2
      refine ⟨_, _, rfl, .inr (sqt_mono fh s), z2, z3, ?_⟩
      rw [z1]
      show Q (.bl (!inV (vD dx) _)) H
      rw [z4 dx h1.1]
      exact q _ rfl
  | _ => cases h
theorem rIn (ha : PE X a (rd G ma)) (hb : PE X b (rd G mb)) (hK : G.K = X.K) (hm : behindInMarks .In b = false := by with_unfolding_all rfl) : PE X (.Compare a [.In] [b] pos) (rd G (mBin dIn ma mb)) := rCmp op_in_seq (by rw [← hK]; exact Op2b_in.op2) ha hb hm
theorem rInT (ha : PE X a (rd G ma)) (hb : PE X b (rd G mb)) (hK : G.K = X.K) (hm : behindInMarks .In b = false := by with_unfolding_all rfl) : PT X (.Compare a [.In] [b] pos) (rdt G (mB (mBin dIn ma mb))) := rCmpT op_in_seq (by rw [← hK]; exact Op2b_in.op2) ha hb hm
theorem rNotIn (ha : PE X a (rd G ma)) (hb : PE X b (rd G mb)) (hK : G.K = X.K) (hm : behindInMarks .NotIn b = false := by with_unfolding_all rfl) : PE X (.Compare a [.NotIn] [b] pos) (rd G (mBin dNotIn ma mb)) := rCmp op_notIn_seq (by rw [← hK]; exact Op2b_notIn.op2) ha hb hm
theorem rNotInT (ha : PE X a (rd G ma)) (hb : PE X b (rd G mb)) (hK : G.K = X.K) (hm : behindInMarks .NotIn b = false := by with_unfolding_all rfl) : PT X (.Compare a [.NotIn] [b] pos) (rdt G (mB (mBin dNotIn ma mb))) := rCmpT op_notIn_seq (by rw [← hK]; exact Op2b_notIn.op2) ha hb hm
/-- the module's constant tuple of flat items: x in C -/
def mInC (ds : List D) (a : M) : M := mUn (fun d => dIn d (.tuple ds)) a
def mNotInC (ds : List D) (a : M) : M := mUn (fun d => dNotIn d (.tuple ds)) a
theorem inC_rd {neg : Bool} {t : Addr} {vs : List V} {ds : List D} (ht : ∀ H, SqT G.K H t vs) (hv : vs = ds.map vD) (hf : ds.all dFlat = true) (g : D → Option D) (hg : ∀ d, g d = if dFlat d then some (.bool (if neg then !ds.any fun z => dEqF z d else ds.any fun z => dEqF z d)) else none) :
    ∀ σ H Q, rd G (mUn g ma) σ H Q → tOp (L2.rIn G.K neg) (rd G ma) (tC (.ref t)) σ H Q := fun σ H Q ⟨ρ, T, F, d, ρ', S, em, k⟩ => by
  obtain ⟨d1, ρ1, e1, em⟩ := bind2 em
  obtain ⟨d3, e3, em⟩ := map2 em
  cases em
  rw [hg] at e3
  obtain ⟨h1, h2⟩ := ite_some e3
  refine ⟨ρ, T, F, d1, _, S, e1, fun v F1 H1 S1 q1 r => ?_⟩
  obtain ⟨z1, z2⟩ := flat_rp r h1
  have gen : ∀ l : List D, l.all dFlat = true → (l.map vD).all flatV = true ∧ inV (vD d1) (l.map vD) = l.any fun z => dEqF z d1 := by
    intro l
    induction l with
    | nil => intro _; exact ⟨rfl, rfl⟩
    | cons z l ih =>
      intro hl
      rw [List.all_cons, Bool.and_eq_true] at hl
      obtain ⟨i1, i2⟩ := ih hl.2
      have hz : flatV (vD z) = true := by cases z <;> first | rfl | (cases hl.1; done)
      refine ⟨by rw [List.map_cons, List.all_cons, hz, i1]; rfl, ?_⟩
      unfold inV at i2 ⊢
      rw [List.map_cons, List.any_cons, List.any_cons, i2, flat_eq hl.1 h1]
  obtain ⟨g1, g2⟩ := gen ds hf
  refine ⟨t, vs, rfl, .inr (ht H1), z2, by rw [hv]; exact g1, ?_⟩
  rw [z1, hv]
  have := k _ F1 H1 S1 q1 (by rw [h2]; exact .bl _)
  rw [g2]
  exact this
theorem rInC {t : Addr} {vs : List V} {ds : List D} {y : Str} {u : Value} (ha : PE X a (rd G ma)) (hm : X.mg y = some u) (ru : RelV (.ref t) u) (ht : ∀ H, SqT X.K H t vs) (hv : vs = ds.map vD) (hf : ds.all dFlat = true) (hK : G.K = X.K) (hg : Gl X y := by rfl) (hd : (y == ("__debug__" : Str)) = false := by decide)
    (hb : behindInMarks .In (.Name y px) = false := by with_unfolding_all rfl) : PE X (.Compare a [.In] [.Name y px] pos) (rd G (mInC ds ma)) :=
  (pe_cmpR op_in_seq ha (pe_glob hg hm ru hd) hb).weak (by rw [← hK]; exact inC_rd (neg := false) (by rw [hK]; exact ht) hv hf _ fun d => by simp [dIn, hf])
theorem rInCT {t : Addr} {vs : List V} {ds : List D} {y : Str} {u : Value} (ha : PE X a (rd G ma)) (hm : X.mg y = some u) (ru : RelV (.ref t) u) (ht : ∀ H, SqT X.K H t vs) (hv : vs = ds.map vD) (hf : ds.all dFlat = true) (hK : G.K = X.K) (hg : Gl X y := by rfl) (hd : (y == ("__debug__" : Str)) = false := by decide)
    (hb : behindInMarks .In (.Name y px) = false := by with_unfolding_all rfl) : PT X (.Compare a [.In] [.Name y px] pos) (rdt G (mB (mInC ds ma))) :=
  (pt_cmpR op_in_seq ha (pe_glob hg hm ru hd) hb).weak (mB_rd (by rw [← hK]; exact inC_rd (neg := false) (by rw [hK]; exact ht) hv hf _ fun d => by simp [dIn, hf]))
/-- .. walked -/
def iCon (ds : List D) : MI := fun ρ => some (ds, ρ)
theorem wCon {tg : Expr} {t : Addr} {vs : List V} {ds : List D} {y : Str} {u : Value} (hm : X.mg y = some u) (ru : RelV (.ref t) u) (ht : ∀ H, SqT X.K H t vs) (hr : ∀ F, RpAll X.K F vs ds) (hK : G.K = X.K) (hg : Gl X y := by rfl) (hd : (y == ("__debug__" : Str)) = false := by decide) : PI X tg (.Name y px) (rdi G (iCon ds)) :=
  (pi_tup (pe_glob hg hm ru hd)).weak fun σ H R ⟨ρ, T, F, ds', ρ', S, em, k⟩ => by
    cases em
    exact ⟨t, rfl, ⟨_, ht H⟩, by rw [← hK]; exact k _ F H S (Same.refl F) (walks_tup (by rw [hK]; exact ht F) (by rw [hK]; exact hr F))⟩
/-! ### isinstance -/
def dTy : D → String
  | .none => "NoneType"
  | .bool _ => "bool"
  | .int _ => "int"
  | .str _ => "str"
  | .list _ => "list"
  | .tuple _ => "tuple"
  | .dict _ => "dict"
def dIsi (n : String) (d : D) : Option D := (kitB (dTy d) n).map .bool
theorem ty_rp {K : PySem.W.Frag} {F H : Hp} {v : V} {d : D} (fh : Same F H) (r : Rp K F v d) : TyX K H v (.type (dTy d)) := by
  cases r with
  | non => exact .base .non
  | bl b => exact .base (.bl b)
  | int i => exact .base (.int i)
  | str x => exact .base (.str x)
  | lst s _ =>
    rcases sql_mono fh s with (s | ⟨o, s⟩) | ⟨o, its, n, h1, h2, _⟩
    · exact .base (.lst s)
    · exact .base (.frz s)
    · exact .kList h1 h2
  | tup s _ =>
    rcases sqt_mono fh s with (s | ⟨o, s⟩) | ⟨o, its, n, h1, h2, _⟩
    · exact .base (.tup s)
    · exact .fTuple s
    · exact .kTuple h1 h2
  | dK s _ => exact .base (.dK (fh _ _ s))
theorem rIsi {n : String} {y : Str} (ha : PE X a (rd G ma)) (hm : X.mg "isinstance" = none) (hy : X.mg y = none) (hv : bootBuiltins y = some (.type n)) (hK : G.K = X.K) (hg : Gl X "isinstance" := by rfl) (hgy : Gl X y := by rfl) (hny : y ≠ "__name__" := by decide) (hdy : (y == ("__debug__" : Str)) = false := by decide)
    (h1 : starEach [a, .Name y px] X.env = (false, eval a X.env) :: starEach [.Name y px] X.env := by rfl) (h2 : starEach [.Name y px] X.env = (false, eval (.Name y px) X.env) :: starEach [] X.env := by rfl) (hpl : (backTo pos (starEach [.Name y px] X.env)).any (·.1) = false := by rfl) :
    PE X (.Call (.Name "isinstance" p) [a, .Name y px] [] pos) (rd G (mUn (dIsi n) ma)) :=
  (pe_callB call_isi hg hm (by decide +kernel) (pa_cons ha (pa_cons (pe_bltn (v := .ty n) hgy hy hv rfl hny hdy) pa_nil h2) h1) (by decide) (by decide) h1 hpl).weak fun σ H Q ⟨ρ, T, F, d, ρ', S, em, k⟩ => by
    obtain ⟨d1, ρ1, e1, em⟩ := bind2 em
    obtain ⟨d3, e3, em⟩ := map2 em
    cases em
    obtain ⟨bb, e4, e5⟩ := map2 (show (kitB (dTy d1) n).map PyData.bool = some d from e3)
    subst e5
    refine ⟨ρ, T, F, d1, _, S, e1, fun v F1 H1 S1 q1 r => ?_⟩
    exact ⟨v, .ty n, _, _, bb, rfl, .ty n, by rw [← hK]; exact ty_rp S1.fh r, kit_ty e4, k _ F1 H1 S1 q1 (.bl _)⟩
/-- isinstance(x, (T, U)) -/
def dIsi2 (n n' : String) (d : D) : Option D := (kitB (dTy d) n).bind fun b => if b then some (.bool true) else (kitB (dTy d) n').map .bool
theorem rIsi2 {n n' : String} {y y' : Str} {px' tp : Pos} {k0 : Nat} (ha : PE X a (rd G ma)) (hm : X.mg "isinstance" = none) (hy : X.mg y = none) (hv : bootBuiltins y = some (.type n)) (hy' : X.mg y' = none) (hv' : bootBuiltins y' = some (.type n')) (hK : G.K = X.K) (hg : Gl X "isinstance" := by rfl) (hgy : Gl X y := by rfl) (hgy' : Gl X y' := by rfl)
    (hny : y ≠ "__name__" := by decide) (hdy : (y == ("__debug__" : Str)) = false := by decide) (hny' : y' ≠ "__name__" := by decide) (hdy' : (y' == ("__debug__" : Str)) = false := by decide)
    (h1 : starEach [a, .Tuple [.Name y px, .Name y' px'] k0 tp] X.env = (false, eval a X.env) :: starEach [.Tuple [.Name y px, .Name y' px'] k0 tp] X.env := by rfl) (h2 : starEach [.Tuple [.Name y px, .Name y' px'] k0 tp] X.env = (false, eval (.Tuple [.Name y px, .Name y' px'] k0 tp) X.env) :: starEach [] X.env := by rfl)
    (h3 : starEach [.Name y px, .Name y' px'] X.env = (false, eval (.Name y px) X.env) :: starEach [.Name y' px'] X.env := by rfl) (h4 : starEach [.Name y' px'] X.env = (false, eval (.Name y' px') X.env) :: starEach [] X.env := by rfl) (hpl : (backTo pos (starEach [.Tuple [.Name y px, .Name y' px'] k0 tp] X.env)).any (·.1) = false := by rfl) :
    PE X (.Call (.Name "isinstance" p) [a, .Tuple [.Name y px, .Name y' px'] k0 tp] [] pos) (rd G (mUn (dIsi2 n n') ma)) :=
  (pe_callB call_isiT hg hm (by decide +kernel) (pa_cons ha (pa_cons (pe_tup (pa_cons (pe_bltn (v := .ty n) hgy hy hv rfl hny hdy) (pa_cons (pe_bltn (v := .ty n') hgy' hy' hv' rfl hny' hdy') pa_nil h4) h3)) pa_nil h2) h1) (by decide) (by decide) h1 hpl).weak fun σ H Q ⟨ρ, T, F, d, ρ', S, em, k⟩ => by
    obtain ⟨d1, ρ1, e1, em⟩ := bind2 em
    obtain ⟨d3, e3, em⟩ := map2 em
    cases em
    refine ⟨ρ, T, F, d1, _, S, e1, fun v F1 H1 S1 q1 r => ⟨by show 2 ≤ sizeLine; decide, fun t ht => ?_⟩⟩
    have S2 := S1.junk (o := .tup [.ty n, .ty n']) ht
    obtain ⟨b1, e4, e5⟩ := obind (show (kitB (dTy d1) n).bind _ = some d from e3)
    have ty : TyX X.K (upd H1 t (.tup [V.ty n, V.ty n'])) v (.type (dTy d1)) := by rw [← hK]; exact ty_rp S2.fh r
    cases b1 with
    | true =>
      cases e5
      exact ⟨v, t, _, _, _, true, rfl, upd_same, .cons (.ty n) (.cons (.ty n') .nil), ty, kitAny_cons (kit_ty e4) (fun z => by cases z) fun _ => rfl, k _ F1 _ S2 q1 (.bl _)⟩
    | false =>
      obtain ⟨b2, e6, e7⟩ := map2 (show (kitB (dTy d1) n').map PyData.bool = some d from e5)
      subst e7
      refine ⟨v, t, _, _, _, b2, rfl, upd_same, .cons (.ty n) (.cons (.ty n') .nil), ty, kitAny_cons (kit_ty e4) (fun _ => ?_) (fun z => by cases z), k _ F1 _ S2 q1 (.bl _)⟩
      exact kitAny_cons (kit_ty e6) (fun z => by rw [z]; exact kitAny_nil) fun z => z
/-! ### built-in functions by values -/
def CallD (K : PySem.W.Frag) (r : List V → Hp → VK → Prop) (g : List D → Option D) : Prop := ∀ (F H : Hp) (vs : List V) (ds : List D) (d : D) (Q : VK), Same F H → RpAll K F vs ds → g ds = some d → (∀ v F' H', Grow F H F' H' → Rp K F' v d → Q v H') → r vs H Q
def mApply (g : List D → Option D) (as : MA) : M := fun ρ => (as ρ).bind fun p => (g p.1).map fun d => (d, p.2)
theorem call_rd {r : List V → Hp → VK → Prop} {g : List D → Option D} {ms : MA} (o : CallD G.K r g) : ∀ σ H Q, rd G (mApply g ms) σ H Q → tCB r (rda G ms) σ H Q := fun σ H Q ⟨ρ, T, F, d, ρ', S, em, k⟩ => by
  obtain ⟨ds, ρ1, e1, em⟩ := bindA em
  obtain ⟨d3, e3, em⟩ := map2 em
  cases em
  refine ⟨ρ, T, F, ds, _, S, e1, fun vs F1 H1 S1 q1 ra => ?_⟩
  refine o F1 H1 vs ds d Q S1.fh ra e3 fun v F' H' gr rv => ?_
  obtain ⟨S2, q2⟩ := gr.st S1
  exact k v F' H' S2 (q1.trans q2) rv
theorem rB {id : String} {r : List V → Hp → VK → Prop} {g : List D → Option D} {ms : MA} (hc : CallR X (.builtin id) r) (o : CallD G.K r g) (ha : RA G X (e :: es) ms) (hm : X.mg x = none) (hv : bootBuiltins x = some (.builtin id)) (hg : Gl X x := by rfl) (hn : x ≠ "__name__" := by decide) (hdb : (x == ("__debug__" : Str)) = false := by decide)
    (he : starEach (e :: es) X.env = (false, eval e X.env) :: starEach es X.env := by rfl) (hpl : (backTo pos (starEach es X.env)).any (·.1) = false := by rfl) : PE X (.Call (.Name x p) (e :: es) [] pos) (rd G (mApply g ms)) :=
  (pe_callB hc hg hm hv ha.pa hn hdb he hpl).weak (call_rd o)
theorem rTy {T : String} {r : List V → Hp → VK → Prop} {g : List D → Option D} {ms : MA} (hc : CallR X (.type T) r) (o : CallD G.K r g) (ha : RA G X (e :: es) ms) (hm : X.mg x = none) (hv : bootBuiltins x = some (.type T)) (hg : Gl X x := by rfl) (hn : x ≠ "__name__" := by decide) (hdb : (x == ("__debug__" : Str)) = false := by decide)
    (he : starEach (e :: es) X.env = (false, eval e X.env) :: starEach es X.env := by rfl) (hpl : (backTo pos (starEach es X.env)).any (·.1) = false := by rfl) : PE X (.Call (.Name x p) (e :: es) [] pos) (rd G (mApply g ms)) :=
  (pe_callTy hc hg hm hv ha.pa hn hdb he hpl).weak (call_rd o)
def fAbs : List D → Option D
  | [.int i] => some (.int (if i < 0 then -i else i))
  | _ => none
def fMax2 : List D → Option D
  | [.int i, .int j] => some (.int (if j > i then j else i))
  | _ => none
def fMin2 : List D → Option D
  | [.int i, .int j] => some (.int (if j < i then j else i))
  | _ => none
def fInt : List D → Option D
  | [.int i] => some (.int i)
  | [.bool b] => some (.int (if b then 1 else 0))
  | _ => none
def dBools : List D → Option (List Bool)
  | [] => some []
  | .bool b :: r => (dBools r).map (b :: ·)
  | _ => none
def dInts : List D → Option (List Int)
  | [] => some []
  | .int b :: r => (dInts r).map (b :: ·)
  | _ => none
def fAny : List D → Option D
  | [.list ds] => (dBools ds).map fun bs => .bool (bs.any id)
  | _ => none
def fAll : List D → Option D
  | [.list ds] => (dBools ds).map fun bs => .bool (bs.all id)
  | _ => none
def fSum : List D → Option D
  | [.list ds] => (dInts ds).map fun ns => .int ns.sum
  | _ => none
def fMax1 : List D → Option D
  | [.list ds] => (dInts ds).bind fun ns => ns.max?.map .int
  | _ => none
def fTuple : List D → Option D
  | [.list ds] => some (.tuple ds)
  | [.tuple ds] => some (.tuple ds)
  | _ => none
theorem rp_bools {K : PySem.W.Frag} {F : Hp} : ∀ {vs : List V} {ds : List D} {bs : List Bool}, RpAll K F vs ds → dBools ds = some bs → vs = bs.map V.bl
  | _, _, _, .nil, h => by cases h; rfl
  | _, _, bs, .cons (d := d) (ds := ds) r t, h => by
    cases d with
    | bool b =>
      obtain ⟨bs', e1, e2⟩ := map2 (show (dBools ds).map (b :: ·) = some bs from h)
      subst e2
      cases r
      rw [rp_bools t e1]; rfl
    | _ => cases h
theorem rp_ints {K : PySem.W.Frag} {F : Hp} : ∀ {vs : List V} {ds : List D} {bs : List Int}, RpAll K F vs ds → dInts ds = some bs → vs = bs.map V.int
  | _, _, _, .nil, h => by cases h; rfl
  | _, _, bs, .cons (d := d) (ds := ds) r t, h => by
    cases d with
    | int b =>
      obtain ⟨bs', e1, e2⟩ := map2 (show (dInts ds).map (b :: ·) = some bs from h)
      subst e2
      cases r
      rw [rp_ints t e1]; rfl
    | _ => cases h
theorem rAbs {ms : MA} (ha : RA G X [e] ms) (hm : X.mg "abs" = none) (hg : Gl X "abs" := by rfl) (he : starEach [e] X.env = (false, eval e X.env) :: starEach [] X.env := by rfl) (hpl : (backTo pos (starEach [] X.env)).any (·.1) = false := by rfl) : PE X (.Call (.Name "abs" p) [e] [] pos) (rd G (mApply fAbs ms)) :=
  rB call_abs (fun F H vs ds d Q fh ra h q => by
    match ds, h with
    | [.int i], h =>
      cases h
      cases ra with
      | cons r t =>
        cases t; cases r
        exact ⟨i, rfl, q _ F H .same (.int _)⟩) ha hm (by decide +kernel) hg (by decide) (by decide) he hpl
theorem rMax2 {ms : MA} (hc : X.calm = true) (ha : RA G X [e, e2] ms) (hm : X.mg "max" = none) (hg : Gl X "max" := by rfl) (he : starEach [e, e2] X.env = (false, eval e X.env) :: starEach [e2] X.env := by rfl) (hpl : (backTo pos (starEach [e2] X.env)).any (·.1) = false := by rfl) : PE X (.Call (.Name "max" p) [e, e2] [] pos) (rd G (mApply fMax2 ms)) :=
  rB (call_max2 hc) (fun F H vs ds d Q fh ra h q => by
    match ds, h with
    | [.int i, .int j], h =>
      cases h
      cases ra with
      | cons r t =>
        cases r
        cases t with
        | cons r2 t2 =>
          cases t2; cases r2
          exact ⟨i, j, rfl, q _ F H .same (.int _)⟩) ha hm (by decide +kernel) hg (by decide) (by decide) he hpl
theorem rMin2 {ms : MA} (hc : X.calm = true) (ha : RA G X [e, e2] ms) (hm : X.mg "min" = none) (hg : Gl X "min" := by rfl) (he : starEach [e, e2] X.env = (false, eval e X.env) :: starEach [e2] X.env := by rfl) (hpl : (backTo pos (starEach [e2] X.env)).any (·.1) = false := by rfl) : PE X (.Call (.Name "min" p) [e, e2] [] pos) (rd G (mApply fMin2 ms)) :=
  rB (call_min2 hc) (fun F H vs ds d Q fh ra h q => by
    match ds, h with
    | [.int i, .int j], h =>
      cases h
      cases ra with
      | cons r t =>
        cases r
        cases t with
        | cons r2 t2 =>
          cases t2; cases r2
          exact ⟨i, j, rfl, q _ F H .same (.int _)⟩) ha hm (by decide +kernel) hg (by decide) (by decide) he hpl
theorem rInt1 {ms : MA} (ha : RA G X [e] ms) (hm : X.mg "int" = none) (hg : Gl X "int" := by rfl) (he : starEach [e] X.env = (false, eval e X.env) :: starEach [] X.env := by rfl) (hpl : (backTo pos (starEach [] X.env)).any (·.1) = false := by rfl) : PE X (.Call (.Name "int" p) [e] [] pos) (rd G (mApply fInt ms)) :=
  rTy call_int1 (fun F H vs ds d Q fh ra h q => by
    match ds, h with
    | [.int i], h =>
      cases h
      cases ra with
      | cons r t =>
        cases t; cases r
        exact .inl ⟨i, rfl, q _ F H .same (.int _)⟩
    | [.bool i], h =>
      cases h
      cases ra with
      | cons r t =>
        cases t; cases r
        exact .inr ⟨i, rfl, q _ F H .same (.int _)⟩) ha hm (by decide +kernel) hg (by decide) (by decide) he hpl
theorem rAny {ms : MA} (hc : X.calm = true) (ha : RA G X [e] ms) (hm : X.mg "any" = none) (hK : G.K = X.K) (hg : Gl X "any" := by rfl) (he : starEach [e] X.env = (false, eval e X.env) :: starEach [] X.env := by rfl) (hpl : (backTo pos (starEach [] X.env)).any (·.1) = false := by rfl) : PE X (.Call (.Name "any" p) [e] [] pos) (rd G (mApply fAny ms)) :=
  rB (cr_any hc) (fun F H vs ds d Q fh ra h q => by
    match ds, h with
    | [.list l], h =>
      obtain ⟨bs, e1, e2⟩ := map2 (show (dBools l).map (fun bs => PyData.bool (bs.any id)) = some d from h)
      subst e2
      cases ra with
      | cons r t =>
        cases t
        cases r with
        | lst s rr => exact ⟨_, bs, rfl, by rw [← hK, ← rp_bools rr e1]; exact sql_mono fh s, q _ F H .same (.bl _)⟩) ha hm (by decide +kernel) hg (by decide) (by decide) he hpl
theorem rAll {ms : MA} (hc : X.calm = true) (ha : RA G X [e] ms) (hm : X.mg "all" = none) (hK : G.K = X.K) (hg : Gl X "all" := by rfl) (he : starEach [e] X.env = (false, eval e X.env) :: starEach [] X.env := by rfl) (hpl : (backTo pos (starEach [] X.env)).any (·.1) = false := by rfl) : PE X (.Call (.Name "all" p) [e] [] pos) (rd G (mApply fAll ms)) :=
  rB (cr_all hc) (fun F H vs ds d Q fh ra h q => by
    match ds, h with
    | [.list l], h =>
      obtain ⟨bs, e1, e2⟩ := map2 (show (dBools l).map (fun bs => PyData.bool (bs.all id)) = some d from h)
      subst e2
      cases ra with
      | cons r t =>
        cases t
        cases r with
        | lst s rr => exact ⟨_, bs, rfl, by rw [← hK, ← rp_bools rr e1]; exact sql_mono fh s, q _ F H .same (.bl _)⟩) ha hm (by decide +kernel) hg (by decide) (by decide) he hpl
theorem rSum {ms : MA} (hc : X.calm = true) (ha : RA G X [e] ms) (hm : X.mg "sum" = none) (hK : G.K = X.K) (hg : Gl X "sum" := by rfl) (he : starEach [e] X.env = (false, eval e X.env) :: starEach [] X.env := by rfl) (hpl : (backTo pos (starEach [] X.env)).any (·.1) = false := by rfl) : PE X (.Call (.Name "sum" p) [e] [] pos) (rd G (mApply fSum ms)) :=
  rB (cr_sum hc) (fun F H vs ds d Q fh ra h q => by
    match ds, h with
    | [.list l], h =>
      obtain ⟨bs, e1, e2⟩ := map2 (show (dInts l).map (fun bs => PyData.int bs.sum) = some d from h)
      subst e2
      cases ra with
      | cons r t =>
        cases t
        cases r with
        | lst s rr => exact ⟨_, bs, rfl, by rw [← hK, ← rp_ints rr e1]; exact sql_mono fh s, q _ F H .same (.int _)⟩) ha hm (by decide +kernel) hg (by decide) (by decide) he hpl
theorem rTuple {ms : MA} (ha : RA G X [e] ms) (hm : X.mg "tuple" = none) (hK : G.K = X.K) (hg : Gl X "tuple" := by rfl) (he : starEach [e] X.env = (false, eval e X.env) :: starEach [] X.env := by rfl) (hpl : (backTo pos (starEach [] X.env)).any (·.1) = false := by rfl) : PE X (.Call (.Name "tuple" p) [e] [] pos) (rd G (mApply fTuple ms)) :=
  rTy call_tuple_of (fun F H vs ds d Q fh ra h q => by
    match ds, h with
    | [.list l], h =>
      cases h
      cases ra with
      | cons r t =>
        cases t
        cases r with
        | lst s rr => exact ⟨_, _, rfl, .inl ⟨by rw [← hK]; exact sql_mono fh s, fun p hp => q _ _ _ (.new hp) (.tup (SqT.of upd_same) (rr.mono (same_upd (fh.free hp))))⟩⟩
    | [.tuple l], h =>
      cases h
      cases ra with
      | cons r t =>
        cases t
        cases r with
        | tup s rr => exact ⟨_, _, rfl, .inr ⟨by rw [← hK]; exact sqt_mono fh s, q _ F H .same (.tup s rr)⟩⟩) ha hm (by decide +kernel) hg (by decide) (by decide) he hpl
/-! ### list(x): an owned new one -/
def mListOf (m : M) : M := fun ρ => (m ρ).bind fun p => (dSeq p.1).map fun ds => (.list ds, p.2)
theorem rListOf (ha : PE X e (rd G m)) (hm : X.mg "list" = none) (hK : G.K = X.K) (hg : Gl X "list" := by rfl) (he : starEach [e] X.env = (false, eval e X.env) :: starEach [] X.env := by rfl) (hpl : (backTo pos (starEach [] X.env)).any (·.1) = false := by rfl) : PE X (.Call (.Name "list" p) [e] [] pos) (rdo G (mListOf m)) :=
  (pe_callTy call_list_of hg hm (by decide +kernel) (pa_cons ha pa_nil he) (by decide) (by decide) he hpl).weak fun σ H Q ⟨ρ, T, F, d, ρ', S, em, k⟩ => by
    obtain ⟨d1, ρ1, e1, em⟩ := bind2 em
    obtain ⟨ds, e3, em⟩ := map2 em
    cases em
    refine ⟨ρ, T, F, d1, _, S, e1, fun v F1 H1 S1 q1 r => ?_⟩
    cases r with
    | lst s rr =>
      cases e3
      exact ⟨_, _, rfl, .inl (by rw [← hK]; exact sql_mono S1.fh s), fun l hl => k l F1 _ (S1.allocO hl ⟨_, upd_same, rr⟩) q1⟩
    | tup s rr =>
      cases e3
      exact ⟨_, _, rfl, .inr (by rw [← hK]; exact sqt_mono S1.fh s), fun l hl => k l F1 _ (S1.allocO hl ⟨_, upd_same, rr⟩) q1⟩
    | _ => cases e3
/-- list(range(n)) -/
def mListRange (m : M) : M := fun ρ => (m ρ).bind fun p => match p.1 with
  | .int n => if n ≤ 16777216 ∧ -(2 ^ 62) ≤ n then some (.list ((List.range n.toNat).map fun i => .int (i : Nat)), p.2) else none
  | _ => none
theorem rListRange {p2 pos2 : Pos} (hc : X.calm = true) (ha : PE X e (rd G m)) (hm : X.mg "list" = none) (hmr : X.mg "range" = none) (hg : Gl X "list" := by rfl) (hgr : Gl X "range" := by rfl) (he : starEach [e] X.env = (false, eval e X.env) :: starEach [] X.env := by rfl)
    (he2 : starEach [.Call (.Name "range" p2) [e] [] pos2] X.env = (false, eval (.Call (.Name "range" p2) [e] [] pos2) X.env) :: starEach [] X.env := by rfl) : PE X (.Call (.Name "list" p) [.Call (.Name "range" p2) [e] [] pos2] [] pos) (rdo G (mListRange m)) :=
  (pe_listRg hc hg hm (prg_1 hgr hmr ha he) he2).weak fun σ H Q ⟨ρ, T, F, d, ρ', S, em, k⟩ => by
    obtain ⟨d1, ρ1, e1, em⟩ := bind2 em
    cases d1 with
    | int n =>
      dsimp only at em
      split at em
      · rename_i hn
        cases em
        refine ⟨ρ, T, F, _, _, S, e1, fun v F1 H1 S1 q1 r => ?_⟩
        cases r
        refine ⟨n, rfl, ⟨by omega, by omega, hn.2, by omega, by omega⟩, fun l hl => k l F1 _ (S1.allocO hl ⟨_, upd_same, ?_⟩) q1⟩
        have := RpAll.of_ints (K := G.K) (F := F1) ((List.range (n - 0).toNat).map fun i => (0 : Int) + (i : Nat))
        unfold rgV
        simpa [List.map_map, Function.comp_def] using this
      · cases em
    | _ => cases em
end
end MM
/-! M9: enumerate and zip over lists, tuples, texts in any mix. -/
namespace MM
open PySem PySem.Spec PyProof.Rows L2
inductive Src where
  | ls (a : Addr) | tp (a : Addr) | tx (x : Str) (t : Tok)
def Src.fp : Src → List Addr
  | .ls a => [a]
  | .tp a => [a]
  | .tx _ _ => []
def Src.itr (h : Heap) (it : Addr) (i : Nat) : Src → Prop
  | .ls a => h.IsListIter it a i
  | .tp a => h.IsTupleIter it a i
  | .tx x t => h.IsStrIter it (strIterType x) x t i
def Src.obj : Src → Obj
  | .ls a => { cls := .type "list_iterator", data := .fields #[.ref a, .int 0 0] }
  | .tp a => { cls := .type "tuple_iterator", data := .fields #[.ref a, .int 0 0] }
  | .tx x t => { cls := .type (strIterType x), data := .fields #[.str x t, .int 0 0] }
def sigV (x : Str) : List V := x.cps.toList.map fun c => V.str ⟨#[c]⟩
def Src.at (K : PySem.W.Frag) (H : Hp) (xs : List V) : Src → Prop
  | .ls a => SqL K H a xs
  | .tp a => SqT K H a xs
  | .tx x _ => xs = sigV x
def Src.val : Src → Value
  | .ls a => .ref a
  | .tp a => .ref a
  | .tx x t => .str x t
def Src.hp (s : Heap) (its : Array Value) : Src → Prop
  | .ls a => s.IsList a its
  | .tp a => s.IsTuple a its
  | .tx _ _ => True
theorem Src.itr_obj {src : Src} {h : Heap} {it : Addr} {i : Nat} (x : src.itr h it i) : ∃ o, h.get? it = some o ∧ ∀ v, o.data ≠ .cell v := by
  cases src <;> (obtain ⟨o, e, _, d⟩ := x; exact ⟨o, e, fun v q => by rw [d] at q; cases q⟩)
theorem Src.itr_at {src : Src} {h h' : Heap} {it : Addr} {i : Nat} (x : src.itr h it i) (k : ∀ o, h.get? it = some o → h'.get? it = some o) : src.itr h' it i := by
  cases src <;> (obtain ⟨o, e, c, d⟩ := x; exact ⟨o, k o e, c, d⟩)
section
variable {X : Cx} {pins : List (Addr × Obj)} {σ : L2.St} {H : Hp} {s : Shared} {src : Src} {xs ys : List V} {it : Addr} {i : Nat}
theorem Src.inj (I : Inv X pins σ H s) (h : src.at X.K H xs) (h' : src.at X.K H ys) : xs = ys := by
  cases src with
  | ls a => exact I.list_inj h h'
  | tp a => exact I.tuple_inj h h'
  | tx x t => rw [show xs = sigV x from h, show ys = sigV x from h']
theorem Src.draws (I : Inv X pins σ H s) (hc : X.calm = true) (hit : src.itr s.heap it i) (hq : src.at X.K H xs) (hne : it ∉ src.fp) : ∃ (P : Nat → Value → Prop) (St : Nat → Heap → Prop),
    Draws X.prog X.w X.A.in1 it (it :: src.fp) xs.length P St ∧ St i s.heap ∧ (∀ j h, St j h → src.itr h it j) ∧ ∀ j u, P j u → ∃ x, xs[j]? = some x ∧ RelV x u := by
  have hh : X.A.in1.handled = none := I.ok.hd hc
  cases src with
  | ls a =>
    obtain ⟨its, rv, p, hz⟩ := I.list hq
    have hn : a ≠ it := fun e => hne (by rw [e]; exact List.mem_cons_self)
    have D := Draws.list (prog := X.prog) (w := X.w) hh it a hn its.toArray
    have e : its.toArray.size = xs.length := by rw [List.size_toArray]; exact rv.length.symm
    rw [e] at D
    refine ⟨_, _, D, ⟨hit, p.isList⟩, fun j h st => st.1, fun j u hu => ?_⟩
    have hu' : its[j]? = some u := by simpa using hu
    have hj : j < xs.length := by rw [rv.length]; exact (List.getElem?_eq_some_iff.mp hu').1
    obtain ⟨u2, h1, h2⟩ := rv.get (List.getElem?_eq_getElem hj)
    rw [hu'] at h1; cases h1
    exact ⟨_, List.getElem?_eq_getElem hj, h2⟩
  | tp a =>
    obtain ⟨its, rv, p, hz⟩ := I.tuple hq
    have hn : a ≠ it := fun e => hne (by rw [e]; exact List.mem_cons_self)
    have D := Draws.tuple (prog := X.prog) (w := X.w) hh it a hn its.toArray
    have e : its.toArray.size = xs.length := by rw [List.size_toArray]; exact rv.length.symm
    rw [e] at D
    refine ⟨_, _, D, ⟨hit, p⟩, fun j h st => st.1, fun j u hu => ?_⟩
    have hu' : its[j]? = some u := by simpa using hu
    have hj : j < xs.length := by rw [rv.length]; exact (List.getElem?_eq_some_iff.mp hu').1
    obtain ⟨u2, h1, h2⟩ := rv.get (List.getElem?_eq_getElem hj)
    rw [hu'] at h1; cases h1
    exact ⟨_, List.getElem?_eq_getElem hj, h2⟩
  | tx x t =>
    have hq' : xs = sigV x := hq
    subst hq'
    have D := Draws.text (prog := X.prog) (w := X.w) hh it x t
    have e : x.cps.size = (sigV x).length := by unfold sigV; simp
    rw [e] at D
    refine ⟨_, _, D, hit, fun j h st => st, fun j u ⟨c, k, h1, h2⟩ => ⟨.str ⟨#[c]⟩, ?_, k, h2⟩⟩
    unfold sigV
    rw [List.getElem?_map]
    simp [h1]
end
/-! ### enumerate -/
def ItE (K : PySem.W.Frag) (src : Src) : It :=
  ⟨fun i H => ∃ (xs : List V) (x : V), src.at K H xs ∧ xs[i]? = some x, fun i H v H' => ∃ T x, v = .ref T ∧ H T = none ∧ H' = upd H T (.tup [.int (i : Nat), x]) ∧ ∀ xs, src.at K H xs → xs[i]? = some x, fun i H => ∃ xs : List V, src.at K H xs ∧ xs.length = i⟩
theorem turn_enumS {P : Program} {w : World} {K : PySem.W.Frag} {elts : List Expr} {kk : Nat} {tpos : Pos} (src : Src) (e it : Addr) (hne : e ≠ it) (hef : e ∉ src.fp) (hif : it ∉ src.fp) :
    Turn P w K (.Tuple elts kk tpos) (ItE K src) [e, it] e (fun i h => (∃ old, IsEnum h e it ((i : Nat) : Int) old) ∧ src.itr h it i) where
  mem := by simp
  obj := fun i h st b hb => by
    obtain ⟨⟨old, he⟩, hit⟩ := st
    have e' : b = e ∨ b = it := by simpa using hb
    rcases e' with z | z
    · rw [z]; exact ⟨_, he, fun v q => nomatch q⟩
    · rw [z]; exact Src.itr_obj hit
  keep := fun i h h' st k => let ⟨⟨old, he⟩, hi⟩ := st; ⟨⟨old, k e (by simp) _ he⟩, Src.itr_at hi fun o q => k it (by simp) o q⟩
  item := by
    intro X hP hw hK hc i pins s σ H E I hf st hg
    subst hP hw hK
    obtain ⟨⟨old, he⟩, hit⟩ := st
    obtain ⟨xs, x, hq, hx⟩ := hg
    obtain ⟨Pv, St, D, hst, hback, hP⟩ := Src.draws I hc hit hq hif
    have hel : e < s.heap.objs.size := Heap.lt_size he
    have hil : it < s.heap.objs.size := by obtain ⟨o, q, _⟩ := Src.itr_obj hit; exact Heap.lt_size q
    refine wpAny_pyNext_enum_itemD D he hst (List.getElem?_eq_some_iff.mp hx).1 hne (fun z => (List.mem_cons.mp z).elim hne hef) fun u h' tk hPu ho hst' hT hsz hk => ?_
    obtain ⟨x', hx', ru⟩ := hP i u hPu
    rw [hx] at hx'; cases hx'
    refine ⟨_, rfl, wpAny_letOwnedTupleGo_enum (s := { s with heap := h', toks := tk + 1 }) ho fun h'' he' sb => ?_⟩
    have hT2 : h''.get? s.heap.objs.size = some { cls := .type "tuple", data := .seq #[.int i tk, u] } := (sb.2 _ (Nat.ne_of_gt hel)).trans hT
    have new : ObjOk X.prog X.w (upd H s.heap.objs.size (.tup [.int (i : Nat), x])) h'' s.heap.objs.size (.tup [.int (i : Nat), x]) :=
      ⟨by show 2 ≤ sizeLine; decide, [.int i tk, u], .cons ⟨_, rfl⟩ (.cons ru .nil), ⟨_, hT2, rfl, _, rfl⟩⟩
    have I1 : Inv X pins σ (upd H s.heap.objs.size (.tup [.int (i : Nat), x])) { s with heap := h'', toks := tk + 1 } :=
      I.turnedNew (ch := [e, it]) (fun b ob hb q => (sb.2 b (fun z => hb (by simp [z]))).trans (hk b ob (fun z => hb (by simp [z])) (fun z => hb (by simp [z])) q)) hf (Nat.le_refl _) new
    refine ⟨.ref s.heap.objs.size, _, I1, rfl, ⟨_, x, rfl, I.hok.fresh (Nat.le_refl _), rfl, fun ys hy => by rw [Src.inj I hy hq]; exact hx⟩, ⟨⟨u, ?_⟩, Src.itr_at (hback _ _ hst') fun o q => (sb.2 it (Ne.symm hne)).trans q⟩, fun b hb => ?_⟩
    · have e1 : ((i + 1 : Nat) : Int) = (i : Int) + 1 := by omega
      rw [e1]; exact he'
    · have hb' : b < s.heap.objs.size := by
        have e' : b = e ∨ b = it := by simpa using hb
        rcases e' with z | z
        · rw [z]; exact hel
        · rw [z]; exact hil
      rw [upd_ne (Nat.ne_of_lt hb')]
      exact (hf b hb).1
  done := by
    intro X hP hw hK hc i pins s σ H E I hf st hg
    subst hP hw hK
    obtain ⟨⟨old, he⟩, hit⟩ := st
    obtain ⟨xs, hq, hx⟩ := hg
    subst hx
    obtain ⟨Pv, St, D, hst, hback, hP⟩ := Src.draws I hc hit hq hif
    obtain ⟨f0, f1, f2, f3, f4, f5⟩ := hf it (by simp)
    exact wpAny_pyNext_enum_endD D he hst fun h' eb => ⟨rfl, I.turned (t' := s.toks) (fun b o hb q => eb b o hb q) f0 f1 f3 f4 f5⟩
  self := fun A i s Q E st h => let ⟨⟨_, he⟩, _⟩ := st; wpAny_pyIter_enum he h
theorem meets_enumerate_new1 {v : Value} {o : Obj} {H : Heap → Prop} (B : Begins v o H) :
    Meets (Builtin.«enumerate.__new__» ⟨[.type "enumerate", v], []⟩) (fun _ R s => H s.heap ∧
      R (.ok (.ret (.ref (s.heap.push o).objs.size))) { s with heap := (s.heap.push o).push { cls := .type "enumerate", data := .fields #[.none, .bool false, .ref s.heap.objs.size, rawInt 0, .none, .none] } }) :=
  .of_wp fun prog w A R s h => by
    obtain ⟨hp, g, d, tk, os⟩ := s; obtain ⟨h1, h⟩ := h
    have hsub := sub_enumerate
    have q1 : ∀ {A' : Around} {E : Value → Shared → Prop} {Q : Value → Shared → Prop}, Q (.ref hp.objs.size) ⟨hp.push o, g, d, tk, os⟩ → wpAny (model prog w) A' (pyIter v) Q E ⟨hp, g, d, tk, os⟩ :=
      fun q => B.iter prog w _ _ ⟨hp, g, d, tk, os⟩ _ h1 q
    wp_walk using q1
    refine wpAny_stack_any fun st => wpAny_pure ?_
    split
    · rename_i c _ _ _ _ _
      cases (c == Value.type "enumerate")
      · wp_walk using q1
        exact ⟨_, rfl, h⟩
      · wp_walk using q1
        exact ⟨_, rfl, h⟩
    · wp_walk using q1
      exact ⟨_, rfl, h⟩
theorem enum_begins1 {prog : Program} {w : World} {A : Around} {E : Value → Shared → Prop} {s : Shared} {v : Value} {o : Obj} {H : Heap → Prop} {Q : Value → Shared → Prop} (B : Begins v o H) (h1 : H s.heap)
    (h : ∀ h', IsEnum h' (s.heap.objs.size + 1) s.heap.objs.size 0 .none → h'.get? s.heap.objs.size = some o → h'.objs.size = s.heap.objs.size + 2 →
      (∀ b o, s.heap.get? b = some o → h'.get? b = some o) → Q (.ref (s.heap.objs.size + 1)) { s with heap := h' }) :
    wpAny (model prog w) A (call (.type "enumerate") [v]) Q E s := by
  refine callType_new F.called_enumerate (by decide) (F.typeCall_enumerate_1 _) (F.newCall_enumerate_1 _) (fun obj => F.args_object_init_2 obj _) F.entry_enumerate_new
    (meets_enumerate_new1 B) ⟨h1, ?_⟩
  have hz : (s.heap.push o).objs.size = s.heap.objs.size + 1 := Heap.size_push ..
  show _ ∧ _
  rw [hz]
  have he : IsEnum ((s.heap.push o).push { cls := .type "enumerate", data := .fields #[.none, .bool false, .ref s.heap.objs.size, rawInt 0, .none, .none] }) (s.heap.objs.size + 1) s.heap.objs.size 0 .none := by
    have := Heap.get?_push_size (s.heap.push o) (o := { cls := .type "enumerate", data := .fields #[.none, .bool false, .ref s.heap.objs.size, rawInt 0, .none, .none] }) rfl
    rw [hz] at this; exact this
  refine ⟨⟨_, he, rfl⟩, h _ he (Heap.get?_push_of_some _ (Heap.get?_push_size _ B.free)) (by rw [Heap.size_push, hz]) fun b o x => Heap.get?_push_of_some _ (Heap.get?_push_of_some _ x)⟩
/-- a source that is there -/
theorem Src.begins {X : Cx} {pins : List (Addr × Obj)} {σ : L2.St} {H : Hp} {s : Shared} {src : Src} {xs : List V} (I : Inv X pins σ H s) (hq : src.at X.K H xs) :
    ∃ Hs : Heap → Prop, Begins src.val src.obj Hs ∧ Hs s.heap ∧ (∀ b ∈ src.fp, b < s.heap.objs.size) ∧ ∀ h it, h.get? it = some src.obj → src.itr h it 0 := by
  cases src with
  | ls a =>
    obtain ⟨its, rv, p, hz⟩ := I.list hq
    exact ⟨_, begins_list a its.toArray, p.isList, fun b hb => by rw [List.mem_singleton.mp hb]; exact p.lt, fun h it e => ⟨_, e, rfl, rfl⟩⟩
  | tp a =>
    obtain ⟨its, rv, p, hz⟩ := I.tuple hq
    obtain ⟨o, ho, _⟩ := id p
    exact ⟨_, begins_tuple a its.toArray, p, fun b hb => by rw [List.mem_singleton.mp hb]; exact Heap.lt_size ho, fun h it e => ⟨_, e, rfl, rfl⟩⟩
  | tx x t => exact ⟨fun _ => True, begins_text x t, trivial, fun b hb => (nomatch hb), fun h it e => ⟨_, e, rfl, rfl⟩⟩
/-- what a value is walked as -/
inductive SrcV : V → Value → Src → Prop
  | ls {a : Addr} : SrcV (.ref a) (.ref a) (.ls a)
  | tp {a : Addr} : SrcV (.ref a) (.ref a) (.tp a)
  | tx {x : Str} {t : Tok} : SrcV (.str x) (.str x t) (.tx x t)
theorem SrcV.val {v : V} {u : Value} {src : Src} (h : SrcV v u src) : u = src.val := by cases h <;> rfl
def srcs (K : PySem.W.Frag) (H : Hp) (v : V) (xs : List V) (R : (Tok → Src) → Prop) : Prop :=
  (∃ a, v = .ref a ∧ SqL K H a xs ∧ R (fun _ => .ls a)) ∨ (∃ a, v = .ref a ∧ SqT K H a xs ∧ R (fun _ => .tp a)) ∨ ∃ x, v = .str x ∧ xs = sigV x ∧ R (fun t => .tx x t)
theorem srcs_of {K : PySem.W.Frag} {H : Hp} {v : V} {u : Value} {xs : List V} {R : (Tok → Src) → Prop} (h : srcs K H v xs R) (r : RelV v u) : ∃ f t, R f ∧ (f t).at K H xs ∧ u = (f t).val := by
  rcases h with ⟨a, rfl, h1, h2⟩ | ⟨a, rfl, h1, h2⟩ | ⟨x, rfl, h1, h2⟩
  · cases r; exact ⟨_, 0, h2, h1, rfl⟩
  · cases r; exact ⟨_, 0, h2, h1, rfl⟩
  · obtain ⟨t, rfl⟩ := r; exact ⟨_, t, h2, h1, rfl⟩
def iEnumS (K : PySem.W.Frag) (ta : TA) : TI := fun σ H R => ta σ H fun vs H1 => ∃ v xs, vs = [v] ∧ srcs K H1 v xs fun f => ∀ t, R (ItE K (f t)) H1
theorem pi_enumS {X : Cx} {e : Expr} {ta : TA} {p pos tpos : Pos} {elts : List Expr} {kk : Nat} (hg : Gl X "enumerate") (hm : X.mg "enumerate" = none) (ha : PA X [e] ta) (hs : starEach [e] X.env = [(false, eval e X.env)] := by rfl) :
    PI X (.Tuple elts kk tpos) (.Call (.Name "enumerate" p) [e] [] pos) (iEnumS X.K ta) := by
  refine ⟨fun pins s σ H R I h => ?_⟩
  refine Call_ (ld_blt I hg hm boot_enumerate (PyProof.Rows.callWith_type1 (thn (ha.run pos pins s σ H _ I h) fun us s1 ⟨vs, H1, I1, r1, q1⟩ => ?_) hs rfl))
  obtain ⟨v, xs, ex, q⟩ := q1
  subst ex
  cases r1 with
  | cons r rr =>
    cases rr
    obtain ⟨f, t, hR, hat, ev⟩ := srcs_of q r
    subst ev
    obtain ⟨Hs, B, hH, hlt, hitr⟩ := Src.begins I1 hat
    refine enum_begins1 B hH fun h' he hit hsz hk => wpAny_pyIter_enum he ?_
    have I2 : Inv X pins σ H1 { s1 with heap := h' } := I1.kept (t' := s1.toks) hk
    refine ⟨s1.heap.objs.size + 1, [s1.heap.objs.size + 1, s1.heap.objs.size], _, _, H1, rfl, I2, turn_enumS (f t) (s1.heap.objs.size + 1) s1.heap.objs.size (Nat.succ_ne_self _) (fun z => ?_) (fun z => ?_), ⟨⟨.none, he⟩, hitr _ _ hit⟩, fun b hb => ?_, hR t⟩
    · exact absurd (hlt _ z) (Nat.not_lt.mpr (Nat.le_add_right _ _))
    · exact absurd (hlt _ z) (Nat.lt_irrefl _)
    · have e' : b = s1.heap.objs.size + 1 ∨ b = s1.heap.objs.size := by simpa using hb
      have hle : s1.heap.objs.size ≤ b := by
        rcases e' with z | z
        · rw [z]; exact Nat.le_add_right _ _
        · rw [z]; exact Nat.le_refl _
      exact I1.fpOk hle (I1.hok.fresh hle)
/-! ### zip -/
def ItZ (K : PySem.W.Frag) (s1 s2 : Src) : It :=
  ⟨fun i H => ∃ (xs ys : List V) (x y : V), s1.at K H xs ∧ s2.at K H ys ∧ xs[i]? = some x ∧ ys[i]? = some y,
    fun i H v H' => ∃ T x y, v = .ref T ∧ H T = none ∧ H' = upd H T (.tup [x, y]) ∧ (∀ xs, s1.at K H xs → xs[i]? = some x) ∧ ∀ ys, s2.at K H ys → ys[i]? = some y,
    fun i H => ∃ xs ys : List V, s1.at K H xs ∧ s2.at K H ys ∧ i ≤ xs.length ∧ i ≤ ys.length ∧ (i = xs.length ∨ i = ys.length)⟩
theorem turn_zipS {P : Program} {w : World} {K : PySem.W.Frag} {elts : List Expr} {kk : Nat} {tpos : Pos} (s1 s2 : Src) {z TI TO i1 i2 : Addr} (D : ZipSep2 z TI TO i1 i2 (i1 :: s1.fp) (i2 :: s2.fp)) (hf1 : i1 ∉ s1.fp) (hf2 : i2 ∉ s2.fp) :
    Turn P w K (.Tuple elts kk tpos) (ItZ K s1 s2) [z, TI, TO, i1, i2] z (fun i h => IsZip h z TI TO .none ∧ IsTupOf2 h TI (.ref i1) (.ref i2) ∧ (∃ x y, IsTupOf2 h TO x y) ∧ s1.itr h i1 i ∧ s2.itr h i2 i) where
  mem := by simp
  obj := fun i h st c hc => by
    obtain ⟨hz, hTI, ⟨x, y, hTO⟩, h1, h2⟩ := st
    have e' : c = z ∨ c = TI ∨ c = TO ∨ c = i1 ∨ c = i2 := by simpa using hc
    rcases e' with q | q | q | q | q
    · rw [q]; exact ⟨_, hz, fun v q => nomatch q⟩
    · rw [q]; exact ⟨_, hTI, fun v q => nomatch q⟩
    · rw [q]; exact ⟨_, hTO, fun v q => nomatch q⟩
    · rw [q]; exact Src.itr_obj h1
    · rw [q]; exact Src.itr_obj h2
  keep := fun i h h' st k => by
    obtain ⟨hz, hTI, ⟨x, y, hTO⟩, h1, h2⟩ := st
    exact ⟨k z (by simp) _ hz, k TI (by simp) _ hTI, ⟨x, y, k TO (by simp) _ hTO⟩, Src.itr_at h1 fun o q => k i1 (by simp) o q, Src.itr_at h2 fun o q => k i2 (by simp) o q⟩
  item := by
    intro X hP hw hK hc i pins s σ H E I hf st hg
    subst hP hw hK
    obtain ⟨hz, hTI, ⟨x0, y0, hTO⟩, h1, h2⟩ := st
    obtain ⟨xs, ys, x, y, hqx, hqy, hx, hy⟩ := hg
    obtain ⟨P1, St1, D1, st1, back1, hP1⟩ := Src.draws I hc h1 hqx hf1
    obtain ⟨P2, St2, D2, st2, back2, hP2⟩ := Src.draws I hc h2 hqy hf2
    have hzl : z < s.heap.objs.size := Heap.lt_size hz
    refine wpAny_pyNext_zipD2_item D D1 D2 hz hTI hTO st1 st2 (List.getElem?_eq_some_iff.mp hx).1 (List.getElem?_eq_some_iff.mp hy).1 fun u u2 h' tk hu hu2 z' TO' h1' h2' hT hsz hk => ?_
    obtain ⟨xx, ex, ru⟩ := hP1 i u hu
    rw [hx] at ex; cases ex
    obtain ⟨yy, ey, ru2⟩ := hP2 i u2 hu2
    rw [hy] at ey; cases ey
    refine ⟨_, rfl, wpAny_letOwnedTupleGo_zip (s := { s with heap := h', toks := tk }) z' fun h'' z'' sb => ?_⟩
    have hT2 : h''.get? s.heap.objs.size = some { cls := .type "tuple", data := .seq #[u, u2] } := (sb.2 _ (Nat.ne_of_gt hzl)).trans hT
    have new : ObjOk X.prog X.w (upd H s.heap.objs.size (.tup [x, y])) h'' s.heap.objs.size (.tup [x, y]) :=
      ⟨by show 2 ≤ sizeLine; decide, [u, u2], .cons ru (.cons ru2 .nil), ⟨_, hT2, rfl, _, rfl⟩⟩
    have I1 : Inv X pins σ (upd H s.heap.objs.size (.tup [x, y])) { s with heap := h'', toks := tk } :=
      I.turnedNew (t' := tk) (ch := [z, TI, TO, i1, i2]) (fun c o hb q => (sb.2 c (fun q' => hb (by simp [q']))).trans (hk c o (fun q' => hb (by simp [q'])) (fun q' => hb (by simp [q'])) (fun q' => hb (by simp [q'])) (fun q' => hb (by simp [q'])) q)) hf (Nat.le_refl _) new
    refine ⟨.ref s.heap.objs.size, _, I1, rfl, ⟨_, x, y, rfl, I.hok.fresh (Nat.le_refl _), rfl, fun l hl => by rw [Src.inj I hl hqx]; exact hx, fun l hl => by rw [Src.inj I hl hqy]; exact hy⟩, ⟨z'', ?_, ⟨u, u2, ?_⟩, ?_, ?_⟩, fun c hcm => ?_⟩
    · exact (sb.2 _ D.TIz).trans (hk _ _ D.TIz D.TITO D.TIi1 D.TIi2 hTI)
    · exact (sb.2 _ D.TOz).trans TO'
    · exact Src.itr_at (back1 _ _ h1') fun o q => (sb.2 _ D.zi1.symm).trans q
    · exact Src.itr_at (back2 _ _ h2') fun o q => (sb.2 _ D.zi2.symm).trans q
    · have hlt : c < s.heap.objs.size := by
        have e' : c = z ∨ c = TI ∨ c = TO ∨ c = i1 ∨ c = i2 := by simpa using hcm
        rcases e' with q | q | q | q | q
        · rw [q]; exact hzl
        · rw [q]; exact Heap.lt_size hTI
        · rw [q]; exact Heap.lt_size hTO
        · rw [q]; obtain ⟨_, e1, _⟩ := Src.itr_obj h1; exact Heap.lt_size e1
        · rw [q]; obtain ⟨_, e2, _⟩ := Src.itr_obj h2; exact Heap.lt_size e2
      rw [upd_ne (Nat.ne_of_lt hlt)]
      exact (hf c hcm).1
  done := by
    intro X hP hw hK hc i pins s σ H E I hf st hg
    subst hP hw hK
    obtain ⟨hz, hTI, ⟨x0, y0, hTO⟩, h1, h2⟩ := st
    obtain ⟨xs, ys, hqx, hqy, hl1, hl2, hend⟩ := hg
    obtain ⟨P1, St1, D1, st1, back1, hP1⟩ := Src.draws I hc h1 hqx hf1
    obtain ⟨P2, St2, D2, st2, back2, hP2⟩ := Src.draws I hc h2 hqy hf2
    exact wpAny_pyNext_zipD2_end D D1 D2 hz hTI hTO st1 st2 hl1 hl2 hend fun h' tk hk => ⟨rfl, I.turnedL (t' := tk) (ch := [z, TI, TO, i1, i2]) (fun c o hb q =>
      hk c o (fun q' => hb (by simp [q'])) (fun q' => hb (by simp [q'])) (fun q' => hb (by simp [q'])) (fun q' => hb (by simp [q'])) q) hf⟩
  self := fun A i s Q E st h => wpAny_pyIter_zip st.1 h
def iZipS (K : PySem.W.Frag) (ta : TA) : TI := fun σ H R => ta σ H fun vs H1 => ∃ v v2 xs ys, vs = [v, v2] ∧ srcs K H1 v xs fun f => srcs K H1 v2 ys fun f2 => ∀ t t2, R (ItZ K (f t) (f2 t2)) H1
theorem pi_zipS {X : Cx} {e e2 : Expr} {ta : TA} {p pos tpos : Pos} {elts : List Expr} {kk : Nat} (hg : Gl X "zip") (hm : X.mg "zip" = none) (ha : PA X [e, e2] ta)
    (hs : starEach [e, e2] X.env = (false, eval e X.env) :: starEach [e2] X.env := by rfl) (hpl : (backTo pos (starEach [e2] X.env)).any (·.1) = false := by rfl) :
    PI X (.Tuple elts kk tpos) (.Call (.Name "zip" p) [e, e2] [] pos) (iZipS X.K ta) := by
  refine ⟨fun pins s σ H R I h => ?_⟩
  refine Call_ (ld_blt I hg hm PyProof.Rows.boot_zip (PyProof.Rows.callWith_type1 (thn (ha.run pos pins s σ H _ I h) fun us s1 ⟨vs, H1, I1, r1, q1⟩ => ?_) hs hpl))
  obtain ⟨v, v2, xs, ys, ex, q⟩ := q1
  subst ex
  cases r1 with
  | cons r rr =>
    cases rr with
    | cons r' rr =>
      cases rr
      obtain ⟨f, t, hR, hat, ev⟩ := srcs_of q r
      obtain ⟨f2, t2, hR2, hat2, ev2⟩ := srcs_of hR r'
      subst ev
      subst ev2
      obtain ⟨Hs, B, hH, hlt, hitr⟩ := Src.begins I1 hat
      obtain ⟨Hs2, B2, hH2, hlt2, hitr2⟩ := Src.begins I1 hat2
      have fresh5 : ∀ c, c ∈ [s1.heap.objs.size + 4, s1.heap.objs.size + 2, s1.heap.objs.size + 3, s1.heap.objs.size, s1.heap.objs.size + 1] → FpOk X pins H1 c := fun c hcm => by
        have e' : c = s1.heap.objs.size + 4 ∨ c = s1.heap.objs.size + 2 ∨ c = s1.heap.objs.size + 3 ∨ c = s1.heap.objs.size ∨ c = s1.heap.objs.size + 1 := by simpa using hcm
        have hle : s1.heap.objs.size ≤ c := by
          rcases e' with z | z | z | z | z
          · rw [z]; exact Nat.le_add_right _ _
          · rw [z]; exact Nat.le_add_right _ _
          · rw [z]; exact Nat.le_add_right _ _
          · rw [z]; exact Nat.le_refl _
          · rw [z]; exact Nat.le_add_right _ _
        exact I1.fpOk hle (I1.hok.fresh hle)
      refine zip_begins2 B B2 hH hH2 fun h' hz hTI hTO h1 h2 hsz hk => wpAny_pyIter_zip hz ?_
      have I2 : Inv X pins σ H1 { s1 with heap := h' } := I1.kept (t' := s1.toks) hk
      refine ⟨s1.heap.objs.size + 4, [s1.heap.objs.size + 4, s1.heap.objs.size + 2, s1.heap.objs.size + 3, s1.heap.objs.size, s1.heap.objs.size + 1], _, _, H1, rfl, I2, turn_zipS (f t) (f2 t2) (zip_sep2 hlt hlt2) (fun z => ?_) (fun z => ?_), ⟨hz, hTI, ⟨_, _, hTO⟩, hitr _ _ h1, hitr2 _ _ h2⟩, fresh5, hR2 t t2⟩
      · exact absurd (hlt _ z) (Nat.lt_irrefl _)
      · exact absurd (hlt2 _ z) (Nat.not_lt.mpr (Nat.le_add_right _ _))
/-! ### the rules -/
/-- the items of a list, a tuple, a text -/
def dSq : D → Option (List D)
  | .list ds => some ds
  | .tuple ds => some ds
  | .str x => some (x.cps.toList.map fun c => .str ⟨#[c]⟩)
  | _ => none
def iEn (a : M) : MI := fun ρ => (a ρ).bind fun p => (dSq p.1).map fun ds => (((List.range ds.length).zip ds).map fun z => .tuple [.int (z.1 : Nat), z.2], p.2)
def iZp (a b : M) : MI := fun ρ => (a ρ).bind fun p => (b p.2).bind fun q => (dSq p.1).bind fun xs => (dSq q.1).map fun ys => ((xs.zip ys).map fun z => .tuple [z.1, z.2], q.2)
theorem sig_rp {K : PySem.W.Frag} {F : Hp} (x : Str) : RpAll K F (sigV x) (x.cps.toList.map fun c => PyData.str ⟨#[c]⟩) := by
  unfold sigV
  generalize x.cps.toList = l
  induction l with
  | nil => exact .nil
  | cons c l ih => exact .cons (.str _) ih
/-- a value as a source, and its items -/
theorem srcs_rp {K : PySem.W.Frag} {F H : Hp} {v : V} {d : D} {ds : List D} (fh : Same F H) (r : Rp K F v d) (h : dSq d = some ds) : ∃ xs, RpAll K F xs ds ∧ ∀ R : (Tok → Src) → Prop, (∀ f, (∀ (t : Tok) (F1 H1 : Hp), Same F F1 → Same F1 H1 → (f t).at K H1 xs) → R f) → srcs K H v xs R := by
  cases r with
  | lst s rr => cases h; exact ⟨_, rr, fun R hR => .inl ⟨_, rfl, sql_mono fh s, hR _ fun t F1 H1 e1 e2 => sql_mono (e1.trans e2) s⟩⟩
  | tup s rr => cases h; exact ⟨_, rr, fun R hR => .inr (.inl ⟨_, rfl, sqt_mono fh s, hR _ fun t F1 H1 e1 e2 => sqt_mono (e1.trans e2) s⟩)⟩
  | str x => cases h; exact ⟨_, sig_rp x, fun R hR => .inr (.inr ⟨x, rfl, rfl, hR _ fun t F1 H1 e1 e2 => rfl⟩)⟩
  | _ => cases h
section
variable {G : Gx} {X : Cx} {e e2 : Expr} {p pos tpos : Pos} {elts : List Expr} {kk : Nat} {a b : M}
theorem walks_E {K : PySem.W.Frag} {F : Hp} {src : Src} {xs : List V} {ds : List D} (hat : ∀ F1 H1, Same F F1 → Same F1 H1 → src.at K H1 xs) (r : RpAll K F xs ds) : Walks K (ItE K src) F (((List.range ds.length).zip ds).map fun z => .tuple [.int (z.1 : Nat), z.2]) := fun F1 H e1 e2 => by
  have hq := hat F1 H e1 e2
  have hl := r.length
  refine ⟨fun i hi => ?_, ⟨xs, hq, by simp [hl]⟩⟩
  have hi' : i < ds.length := by simpa using hi
  obtain ⟨v, hv, rv⟩ := r.get (List.getElem?_eq_getElem hi')
  refine ⟨⟨xs, v, hq, hv⟩, fun x H' ⟨Tp, y, ex, hT, eH, hx⟩ => ?_⟩
  have q1 := hx xs hq
  rw [hv] at q1; cases q1
  subst ex
  subst eH
  have hF := e2.free hT
  refine ⟨.tuple [.int (i : Nat), ds[i]], upd F1 Tp (.tup [.int (i : Nat), v]), ?_, .new hT, .tup (SqT.of upd_same) (.cons (.int _) (.cons ((rv.mono e1).mono (same_upd hF)) .nil))⟩
  rw [zip_get (by simpa using hi') hi']
  simp
theorem wEn (ha : PE X e (rd G a)) (hK : G.K = X.K) (hg : Gl X "enumerate" := by rfl) (hm : X.mg "enumerate" = none) (hs0 : starEach [e] X.env = (false, eval e X.env) :: starEach [] X.env := by rfl) (hs : starEach [e] X.env = [(false, eval e X.env)] := by rfl) :
    PI X (.Tuple elts kk tpos) (.Call (.Name "enumerate" p) [e] [] pos) (rdi G (iEn a)) :=
  (pi_enumS hg hm (pa_cons ha pa_nil hs0) hs).weak fun σ H R ⟨ρ, T, F, ds, ρ', S, em, k⟩ => by
    obtain ⟨d1, ρ1, e1, em⟩ := bind2 em
    obtain ⟨xs, e2, em⟩ := map2 em
    cases em
    refine ⟨ρ, T, F, d1, _, S, e1, fun v F1 H1 S1 q1 r => ?_⟩
    obtain ⟨vs, h1, h2⟩ := srcs_rp S1.fh r e2
    refine ⟨v, vs, rfl, ?_⟩
    rw [← hK]
    exact h2 _ fun f hf t => k _ F1 H1 S1 q1 (walks_E (hf t) h1)
theorem walks_Z {K : PySem.W.Frag} {F : Hp} {s1 s2 : Src} {xs ys : List V} {ds es : List D} (hat : ∀ F1 H1, Same F F1 → Same F1 H1 → s1.at K H1 xs) (r : RpAll K F xs ds) (hat2 : ∀ F1 H1, Same F F1 → Same F1 H1 → s2.at K H1 ys) (r2 : RpAll K F ys es) : Walks K (ItZ K s1 s2) F ((ds.zip es).map fun z => .tuple [z.1, z.2]) := fun F1 H e1 e2 => by
  have hH := hat F1 H e1 e2
  have hH2 := hat2 F1 H e1 e2
  have l1 := r.length
  have l2 := r2.length
  refine ⟨fun i hi => ?_, ⟨xs, ys, hH, hH2, ?_, ?_, ?_⟩⟩
  · have hi' : i < ds.length ∧ i < es.length := by simp at hi; omega
    obtain ⟨v, hv, rv⟩ := r.get (List.getElem?_eq_getElem hi'.1)
    obtain ⟨v2, hv2, rv2⟩ := r2.get (List.getElem?_eq_getElem hi'.2)
    refine ⟨⟨xs, ys, v, v2, hH, hH2, hv, hv2⟩, fun x H' ⟨Tp, y, y2, ex, hT, eH, hx, hx2⟩ => ?_⟩
    have q1 := hx xs hH
    have q2 := hx2 ys hH2
    rw [hv] at q1; cases q1
    rw [hv2] at q2; cases q2
    subst ex
    subst eH
    have hF := e2.free hT
    refine ⟨.tuple [ds[i]'hi'.1, es[i]'hi'.2], upd F1 Tp (.tup [v, v2]), zip_get hi'.1 hi'.2, .new hT, .tup (SqT.of upd_same) ?_⟩
    exact .cons ((rv.mono e1).mono (same_upd hF)) (.cons ((rv2.mono e1).mono (same_upd hF)) .nil)
  all_goals (simp; omega)
theorem wZp (ha : PE X e (rd G a)) (hb : PE X e2 (rd G b)) (hK : G.K = X.K) (hg : Gl X "zip" := by rfl) (hm : X.mg "zip" = none) (h1 : starEach [e, e2] X.env = (false, eval e X.env) :: starEach [e2] X.env := by rfl) (h2 : starEach [e2] X.env = (false, eval e2 X.env) :: starEach [] X.env := by rfl)
    (hpl : (backTo pos (starEach [e2] X.env)).any (·.1) = false := by rfl) : PI X (.Tuple elts kk tpos) (.Call (.Name "zip" p) [e, e2] [] pos) (rdi G (iZp a b)) :=
  (pi_zipS hg hm (pa_cons ha (pa_cons hb pa_nil h2) h1) h1 hpl).weak fun σ H R ⟨ρ, T, F, ds, ρ', S, em, k⟩ => by
    obtain ⟨d1, ρ1, e1, em⟩ := bind2 em
    obtain ⟨d2, ρ2, e2, em⟩ := bind2 em
    obtain ⟨xs, e3, em⟩ := obind em
    obtain ⟨ys, e4, em⟩ := map2 em
    cases em
    refine ⟨ρ, T, F, d1, _, S, e1, fun v F1 H1 S1 q1 r => ⟨ρ1, T, F1, d2, _, S1, e2, fun v2 F2 H2 S2 q2 r2 => ?_⟩⟩
    obtain ⟨vs, h1, h2⟩ := srcs_rp S2.fh (r.mono q2) e3
    obtain ⟨vs2, h3, h4⟩ := srcs_rp S2.fh r2 e4
    refine ⟨v, v2, vs, vs2, rfl, ?_⟩
    rw [← hK]
    exact h2 _ fun f hf => h4 _ fun f2 hf2 t t2 => k _ F2 H2 S2 (q1.trans q2) (walks_Z (hf t) h1 (hf2 t2) h3)
end
end MM
/-! M10: slices, is None, x op= e, x.pop(), dicts, subscripts as targets. -/
namespace L2
open PySem
theorem PO.weak {X : Cx} {e : Option Expr} {t t' : TO} (h : PO X e t) (w : ∀ σ H Q, t' σ H Q → t σ H Q) : PO X e t' := ⟨fun pins s σ H Q I hw => h.run pins s σ H Q I (w σ H Q hw)⟩
theorem PSet.or {X : Cx} {t t' : TSet} (h : PSet X t) (h' : PSet X t') : PSet X (fun o i v H Q => t o i v H Q ∨ t' o i v H Q) := fun pins s σ H o i v ov iv u Q I ro ri rv q => q.elim (h pins s σ H o i v ov iv u Q I ro ri rv) (h' pins s σ H o i v ov iv u Q I ro ri rv)
open PySem.Spec PyProof.Rows
def rIxDz : R2 := fun x y H Q => ∃ a v, x = .ref a ∧ DGet H a y (some v) ∧ Q v H
theorem ix_dictz {X : Cx} (hu : X.A.units + 1 < cLine) : IxR X rIxDz := by
  intro value slice pins s σ H x y v u Q I rx ry h hs
  obtain ⟨a, w, rfl, g, q⟩ := h
  cases (show v = Value.ref a from rx)
  exact tail_any (dict_typeIs I g) PySem.F.slot_dict_getitem.lookup (d_getItem hu I g ry fun w' s3 I3 rw' => ⟨w, H, I3, rw', q⟩) hs
def rInDz (neg : Bool) : R2 := fun x y H Q => ∃ a o, y = .ref a ∧ DGet H a x o ∧ Q (.bl (if neg then !o.isSome else o.isSome)) H
theorem op_inDz {X : Cx} (hu : X.A.units + 1 < cLine) : OpR X (compareOp .In) (rInDz false) := by
  intro pins s σ H x y v u Q I rx ry h
  obtain ⟨a, o, rfl, g, q⟩ := h
  cases (show u = Value.ref a from ry)
  exact d_in hu I g rx fun s3 I3 => ⟨.bl o.isSome, H, I3, rfl, q⟩
theorem op_notInDz {X : Cx} (hu : X.A.units + 1 < cLine) : OpR X (compareOp .NotIn) (rInDz true) := by
  intro pins s σ H x y v u Q I rx ry h
  obtain ⟨a, o, rfl, g, q⟩ := h
  cases (show u = Value.ref a from ry)
  exact d_notIn hu I g rx fun s3 I3 => ⟨.bl (!o.isSome), H, I3, rfl, q⟩
end L2
namespace MM
open PySem L2
/-! ### slices -/
def mPart : Option M → En → Option (Option Int × En)
  | none, ρ => some (none, ρ)
  | some m, ρ => (m ρ).bind fun p => match p.1 with
    | .int i => some (some i, p.2)
    | _ => none
def rdp (G : Gx) (m : Option M) : TO := fun σ H Q => ∃ ρ T F i ρ', StR G ρ σ T F H ∧ mPart m ρ = some (i, ρ') ∧ ∀ F' H', StR G ρ' σ T F' H' → Same F F' → Q i H'
def cutD (xs : List D) (lo hi : Option Int) : List D := (xs.drop (HT.sIx xs.length 0 lo)).take (HT.sIx xs.length xs.length hi - HT.sIx xs.length 0 lo)
def dSl (d : D) (lo hi : Option Int) : Option D := match d with
  | .list ds => some (.list (cutD ds lo hi))
  | .tuple ds => some (.tuple (cutD ds lo hi))
  | .str x => if x.length ≤ sizeLine then some (.str (cutS x lo hi)) else none
  | _ => none
def mSl (a : M) (lo hi : Option M) : M := fun ρ => (a ρ).bind fun p => (mPart lo p.2).bind fun q => (mPart hi q.2).bind fun r => (dSl p.1 q.1 r.1).map fun d => (d, r.2)
/-- x[lo:hi], x a name -/
def mSlV (i : Nat) (lo hi : Option M) : M := fun ρ => (slD ρ i).bind fun _ => (mPart lo ρ).bind fun q => (mPart hi q.2).bind fun r => (slD r.2 i).bind fun d => (dSl d q.1 r.1).map fun d => (d, r.2)
section
variable {G : Gx} {X : Cx} {a b e : Expr} {es : List Expr} {x : Str} {px pos p p2 : Pos} {ma mb m : M} {lo hi : Option Expr} {ml mh : Option M}
theorem bindP {m : Option M} {f : Option Int × En → Option α} {ρ : En} {z : α} (h : (mPart m ρ).bind f = some z) : ∃ d ρ1, mPart m ρ = some (d, ρ1) ∧ f (d, ρ1) = some z := by
  cases e : mPart m ρ with
  | none => rw [e] at h; cases h
  | some p => rw [e] at h; exact ⟨p.1, p.2, rfl, h⟩
theorem rpN : PO X none (rdp G none) := po_none.weak fun σ H Q ⟨ρ, T, F, i, ρ', S, em, k⟩ => by
  cases em
  exact k F H S (Same.refl F)
theorem rpS (h : PE X e (rd G m)) : PO X (some e) (rdp G (some m)) := (po_some h).weak fun σ H Q ⟨ρ, T, F, i, ρ', S, em, k⟩ => by
  obtain ⟨d, ρ1, e1, em⟩ := bind2 em
  dsimp only at em
  split at em
  · cases em
    refine ⟨ρ, T, F, _, _, S, e1, fun v F1 H1 S1 q1 r => ?_⟩
    cases r
    exact ⟨_, rfl, k F1 H1 S1 q1⟩
  · cases em
theorem cut_rp {K : PySem.W.Frag} {F : Hp} {vs : List V} {ds : List D} (r : RpAll K F vs ds) (lo hi : Option Int) : RpAll K F (cutV vs lo hi) (cutD ds lo hi) := by
  unfold cutV cutD
  rw [r.length]
  exact (r.drop _).take _
theorem sIx_len (n d : Nat) (hd : d ≤ n) (o : Option Int) : HT.sIx n d o ≤ n := HT.sIx_le n d hd o
def rSlAll (K : PySem.W.Frag) : V → Option Int → Option Int → Hp → VK → Prop := fun x lo hi H Q => rSlL K x lo hi H Q ∨ rSlA K x lo hi H Q ∨ rSlS x lo hi H Q
theorem sl_all : SlR X (rSlAll X.K) := sl_list.or (sl_tupA.or sl_str)
theorem dSl_ok {K : PySem.W.Frag} {F H : Hp} {v : V} {d r : D} {l u : Option Int} {Q : VK} (fh : Same F H) (c : Cp K F H v d) (h : dSl d l u = some r) (q : ∀ w F' H', Grow F H F' H' → Rp K F' w r → Q w H') : rSlAll K v l u H Q := by
  cases d with
  | list ds =>
    cases h
    obtain ⟨a, vs, rfl, h1, h2⟩ := c.lst fh
    exact .inl ⟨a, vs, rfl, h1, fun p hp => q _ _ _ (.new hp) (.lst (SqL.of upd_same) ((cut_rp h2 l u).mono (same_upd (fh.free hp))))⟩
  | tuple ds =>
    cases h
    rcases c with c | ⟨a, rfl, w, no⟩
    · cases c with
      | tup s r =>
        rename_i a vs
        refine .inr (.inl ⟨a, vs, rfl, sqt_mono fh s, fun z => ?_, fun _ p hp => ?_⟩)
        · refine q _ F H .same (.tup s ?_)
          have : cutV vs l u = vs := by
            unfold cutV
            rw [z.1, z.2, List.drop_zero]
            simp
          rw [← this]
          exact cut_rp r l u
        · exact q _ _ _ (.new hp) (.tup (SqT.of upd_same) ((cut_rp r l u).mono (same_upd (fh.free hp))))
    · cases no
  | str x =>
    obtain ⟨h1, h2⟩ := ite_some (show (if x.length ≤ sizeLine then some (PyData.str (cutS x l u)) else none) = some r from h)
    subst h2
    cases c.str
    exact .inr (.inr ⟨x, rfl, h1, q _ F H .same (.str _)⟩)
  | _ => cases h
theorem rSl (ha : PE X a (rd G ma)) (hl : PO X lo (rdp G ml)) (hh : PO X hi (rdp G mh)) (hK : G.K = X.K) : PE X (.Subscript a (.Slice lo hi none p2) pos) (rd G (mSl ma ml mh)) :=
  (pe_slice sl_all ha hl hh).weak fun σ H Q ⟨ρ, T, F, d, ρ', S, em, k⟩ => by
    obtain ⟨d1, ρ1, e1, em⟩ := bind2 em
    obtain ⟨l, ρ2, e2, em⟩ := bindP em
    obtain ⟨u, ρ3, e3, em⟩ := bindP em
    obtain ⟨r, e4, em⟩ := map2 em
    cases em
    refine ⟨ρ, T, F, d1, ρ1, S, e1, fun v F1 H1 S1 q1 rv => ⟨ρ1, T, F1, l, ρ2, S1, e2, fun F2 H2 S2 q2 => ⟨ρ2, T, F2, u, _, S2, e3, fun F3 H3 S3 q3 => ?_⟩⟩⟩
    rw [← hK]
    refine dSl_ok S3.fh (.inl (rv.mono (q2.trans q3))) e4 fun w F' H' gr rw' => ?_
    obtain ⟨S4, q4⟩ := gr.st S3
    exact k w F' H' S4 (((q1.trans q2).trans q3).trans q4) rw'
theorem rSlV (i : Nat) (hl : PO X lo (rdp G ml)) (hh : PO X hi (rdp G mh)) (hK : G.K = X.K) (hN : X.N[i]? = some x := by rfl) (hv : Vis X.env.scope x := by first | exact Or.inl rfl | exact Or.inr (Or.inl rfl) | exact Or.inr (Or.inr rfl))
    (hd : (x == ("__debug__" : Str)) = false := by decide) (hcd : (x == ("__classdict__" : Str)) = false := by decide) : PE X (.Subscript (.Name x px) (.Slice lo hi none p2) pos) (rd G (mSlV i ml mh)) :=
  (pe_slice sl_all (pe_var hN hv hd hcd) hl hh).weak fun σ H Q ⟨ρ, T, F, d, ρ', S, em, k⟩ => by
    obtain ⟨d0, h0, em⟩ := obind em
    obtain ⟨l, ρ2, e2, em⟩ := bindP em
    obtain ⟨u, ρ3, e3, em⟩ := bindP em
    obtain ⟨d1, h1, em⟩ := obind em
    obtain ⟨r, e4, em⟩ := map2 em
    cases em
    obtain ⟨v, hv, _⟩ := S.sl h0
    refine ⟨v, hv, ⟨ρ, T, F, l, ρ2, S, e2, fun F2 H2 S2 q2 => ⟨ρ2, T, F2, u, _, S2, e3, fun F3 H3 S3 q3 => ?_⟩⟩⟩
    obtain ⟨v', hv', c⟩ := S3.sl h1
    rw [hv] at hv'; cases hv'
    rw [← hK]
    refine dSl_ok S3.fh c e4 fun w F' H' gr rw' => ?_
    obtain ⟨S4, q4⟩ := gr.st S3
    exact k w F' H' S4 ((q2.trans q3).trans q4) rw'
/-! ### is None -/
def dIsN : D → Option D
  | .none => some (.bool true)
  | _ => some (.bool false)
def dNotN : D → Option D
  | .none => some (.bool false)
  | _ => some (.bool true)
theorem isN_rp {K : PySem.W.Frag} {F : Hp} {v : V} {d r : D} (rv : Rp K F v d) (h : dIsN d = some r) : r = .bool (decide (v = .non)) := by
  cases rv <;> (cases h; rfl)
theorem notN_rp {K : PySem.W.Frag} {F : Hp} {v : V} {d r : D} (rv : Rp K F v d) (h : dNotN d = some r) : r = .bool (!decide (v = .non)) := by
  cases rv <;> (cases h; rfl)
theorem isN_rd : ∀ σ H Q, rd G (mUn dIsN ma) σ H Q → tIsN (rd G ma) σ H Q := fun σ H Q ⟨ρ, T, F, d, ρ', S, em, k⟩ => by
  obtain ⟨d1, ρ1, e1, em⟩ := bind2 em
  obtain ⟨d3, e3, em⟩ := map2 em
  cases em
  exact ⟨ρ, T, F, d1, _, S, e1, fun v F1 H1 S1 q1 r => k _ F1 H1 S1 q1 (by rw [isN_rp r e3]; exact .bl _)⟩
theorem notN_rd : ∀ σ H Q, rd G (mUn dNotN ma) σ H Q → tNotN (rd G ma) σ H Q := fun σ H Q ⟨ρ, T, F, d, ρ', S, em, k⟩ => by
  obtain ⟨d1, ρ1, e1, em⟩ := bind2 em
  obtain ⟨d3, e3, em⟩ := map2 em
  cases em
  exact ⟨ρ, T, F, d1, _, S, e1, fun v F1 H1 S1 q1 r => k _ F1 H1 S1 q1 (by rw [notN_rp r e3]; exact .bl _)⟩
theorem rIsN {j pos'} (ha : PE X a (rd G ma)) (h1 : behindInMarks .Is (.Constant .none j pos') = false := by first | exact nobehind _ (by decide) (by decide) | rfl) : PE X (.Compare a [.Is] [.Constant .none j pos'] pos) (rd G (mUn dIsN ma)) := (pe_cmp (pc_isN ha) h1).weak isN_rd
theorem rNotN {j pos'} (ha : PE X a (rd G ma)) (h1 : behindInMarks .IsNot (.Constant .none j pos') = false := by first | exact nobehind _ (by decide) (by decide) | rfl) : PE X (.Compare a [.IsNot] [.Constant .none j pos'] pos) (rd G (mUn dNotN ma)) := (pe_cmp (pc_notN ha) h1).weak notN_rd
theorem rIsNT {j pos'} (ha : PE X a (rd G ma)) (h1 : behindInMarks .Is (.Constant .none j pos') = false := by first | exact nobehind _ (by decide) (by decide) | rfl) : PT X (.Compare a [.Is] [.Constant .none j pos'] pos) (rdt G (mB (mUn dIsN ma))) := (pt_cmp (pc_isN ha) h1).weak (mB_rd isN_rd)
theorem rNotNT {j pos'} (ha : PE X a (rd G ma)) (h1 : behindInMarks .IsNot (.Constant .none j pos') = false := by first | exact nobehind _ (by decide) (by decide) | rfl) : PT X (.Compare a [.IsNot] [.Constant .none j pos'] pos) (rdt G (mB (mUn dNotN ma))) := (pt_cmp (pc_notN ha) h1).weak (mB_rd notN_rd)
/-! ### is, is not of bools -/
def dIsB : D → D → Option D
  | .bool a, .bool b => some (.bool (a == b))
  | _, _ => none
/-! ### x op= e -/
def mAug (i : Nat) (g : D → D → Option D) (m : M) : MS := fun ρ => match ρ[i]? with
  | some (.fz x) => (m ρ).bind fun p => (g x p.1).map fun z => (.nx, p.2.set i (.fz z))
  | _ => none
theorem sAug (i : Nat) {op : Operator} {r : R2} {g : D → D → Option D} {pos' : Pos} (ho : OpR X (inplaceOp op) r) (o : Op2 G.K r g) (hN : X.N.Nodup) (he : PE X e (rd G m)) (hi : X.N[i]? = some x := by rfl) (hx : Loc X.env.scope x := by first | exact Or.inl rfl | exact Or.inr rfl)
    (hf : X.fn x = true ∨ X.env.scope.names.lookup x = some .local := by first | exact .inl rfl | exact .inr rfl) : PS X (.AugAssign (.Name x pos') op e pos) (rds G (mAug i g m)) :=
  (ps_aug hN hi hx he ho hf).weak fun W σ H ⟨ρ, T, F, fl, ρ', S, em, k⟩ => by
    unfold mAug at em
    split at em
    · rename_i d h0
      obtain ⟨d1, ρ1, e1, em⟩ := bind2 em
      obtain ⟨z, e2, em⟩ := map2 em
      cases em
      obtain ⟨v, hv, rv⟩ := S.fz i d h0
      refine ⟨v, hv, ρ, T, F, d1, ρ1, S, e1, fun y F1 H1 S1 q1 ry => ?_⟩
      refine o F1 H1 v y d d1 z _ S1.fh (rv.mono q1) ry e2 fun w F' H' gr rw' => ?_
      obtain ⟨S2, q2⟩ := gr.st S1
      exact k _ F' H' (S2.setF rw') (q1.trans q2)
    · cases em
theorem sAugAdd (i : Nat) {pos' : Pos} (hN : X.N.Nodup) (he : PE X e (rd G m)) (hi : X.N[i]? = some x := by rfl) (hx : Loc X.env.scope x := by first | exact Or.inl rfl | exact Or.inr rfl)
    (hf : X.fn x = true ∨ X.env.scope.names.lookup x = some .local := by first | exact .inl rfl | exact .inr rfl) : PS X (.AugAssign (.Name x pos') .Add e pos) (rds G (mAug i (bInt fun i j => some (i + j)) m)) := sAug i iop_add Op2_int0 hN he hi hx hf
theorem sAugSub (i : Nat) {pos' : Pos} (hN : X.N.Nodup) (he : PE X e (rd G m)) (hi : X.N[i]? = some x := by rfl) (hx : Loc X.env.scope x := by first | exact Or.inl rfl | exact Or.inr rfl)
    (hf : X.fn x = true ∨ X.env.scope.names.lookup x = some .local := by first | exact .inl rfl | exact .inr rfl) : PS X (.AugAssign (.Name x pos') .Sub e pos) (rds G (mAug i (bInt fun i j => some (i - j)) m)) := sAug i iop_sub Op2_int0 hN he hi hx hf
/-! ### x.pop() -/
theorem rPop (i : Nat) {apos : Pos} (hK : G.K = X.K) (hN : X.N[i]? = some x := by rfl) (hvs : Vis X.env.scope x := by first | exact Or.inl rfl | exact Or.inr (Or.inl rfl) | exact Or.inr (Or.inr rfl))
    (hd : (x == ("__debug__" : Str)) = false := by decide) (hcd : (x == ("__classdict__" : Str)) = false := by decide)
    (hbase : attributeBase (.Name x px) "pop" X.env (eval (.Name x px) X.env) = eval (.Name x px) X.env := by rfl) (hline : (apos.endLine == pos.line) = true := by rfl) :
    PE X (.Call (.Attribute (.Name x px) "pop" apos) [] [] pos) (rd G (mPop i)) :=
  (pe_bm0 PySem.F.plainAttrs_list PySem.F.slot_list_pop PySem.F.type_list_pop mt_pop (pe_var hN hvs hd hcd) hbase hline).weak fun σ H Q ⟨ρ, T, F, d, ρ', S, em, k⟩ => by
    obtain ⟨d0, h0, em⟩ := obind em
    obtain ⟨r, e2, em⟩ := map2 em
    cases em
    obtain ⟨l, hu, _, w, ch⟩ := S.own h0
    cases d0 with
    | list ds =>
      refine ⟨_, hu, by rw [← hK]; exact tyL w rfl, ?_⟩
      obtain ⟨vs, w1, w2⟩ := w
      obtain ⟨dl, e3, e4⟩ := map2 (show (ds[ds.length - 1]?).map (fun d => (d, PyData.list ds.dropLast)) = some r from e2)
      subst e4
      obtain ⟨u, h5, h6⟩ := w2.get e3
      refine ⟨l, vs, u, rfl, rfl, w1, by rw [w2.length]; exact h5, ?_⟩
      refine k _ F _ (ch _ _ ⟨_, upd_same, ?_⟩) (Same.refl F) h6
      rw [List.dropLast_eq_take, List.dropLast_eq_take, w2.length]
      exact w2.take _
    | _ => cases e2
/-! ### dicts -/
def keyD : D → Option Key
  | .int i => some (.inl i)
  | .str x => some (.inr x)
  | _ => none
theorem keyD_kD (k : Key) : keyD (kD k) = some k := by cases k <;> rfl
def atK (ds : List (D × D)) (k : Key) : Option D := (ds.find? fun p => decide (keyD p.1 = some k)).map (·.2)
def putKD (ds : List (D × D)) (k : Key) (d : D) : List (D × D) :=
  if (ds.any fun p => decide (keyD p.1 = some k)) = true then ds.map (fun p => if keyD p.1 = some k then (p.1, d) else p) else ds ++ [(kD k, d)]
theorem RpK.get {K : PySem.W.Frag} {F : Hp} {k : Key} : ∀ {l : List (Key × V)} {ds : List (D × D)}, RpK K F l ds → ((valV l k).isSome = (atK ds k).isSome) ∧ ∀ d, atK ds k = some d → ∃ v, valV l k = some v ∧ Rp K F v d
  | _, _, .nil => ⟨rfl, fun d h => by cases h⟩
  | _, _, .cons (k := k') (v := v') (l := l) (d := d') (ds := ds) r t => by
    obtain ⟨h1, h2⟩ := RpK.get (k := k) t
    by_cases e : k' = k
    · subst e
      have z : atK ((kD k', d') :: ds) k' = some d' := by simp [atK, List.find?_cons, keyD_kD]
      rw [z, valV_pos (p := (k', v')) rfl]
      exact ⟨rfl, fun d h => by cases h; exact ⟨_, rfl, r⟩⟩
    · have e' : ¬ keyD (kD k') = some k := by rw [keyD_kD]; intro z; cases z; exact e rfl
      have z : atK ((kD k', d') :: ds) k = atK ds k := by simp [atK, List.find?_cons, e']
      rw [z, valV_neg (p := (k', v')) e]
      exact ⟨h1, h2⟩
theorem RpK.anyK {K : PySem.W.Frag} {F : Hp} {k : Key} : ∀ {l : List (Key × V)} {ds : List (D × D)}, RpK K F l ds → (l.any fun kv => decide (kv.1 = k)) = ds.any fun p => decide (keyD p.1 = some k)
  | _, _, .nil => rfl
  | _, _, .cons (k := k') r t => by
    rw [List.any_cons, List.any_cons, RpK.anyK t, keyD_kD]
    congr 1
    simp
theorem RpK.append {K : PySem.W.Frag} {F : Hp} : ∀ {l l' : List (Key × V)} {ds ds' : List (D × D)}, RpK K F l ds → RpK K F l' ds' → RpK K F (l ++ l') (ds ++ ds')
  | _, _, _, _, .nil, h => h
  | _, _, _, _, .cons r t, h => .cons r (RpK.append t h)
theorem RpK.repl {K : PySem.W.Frag} {F : Hp} {k : Key} {v : V} {d : D} (rv : Rp K F v d) : ∀ {l : List (Key × V)} {ds : List (D × D)}, RpK K F l ds → RpK K F (l.map fun kv => if kv.1 = k then (kv.1, v) else kv) (ds.map fun p => if keyD p.1 = some k then (p.1, d) else p)
  | _, _, .nil => .nil
  | _, _, .cons (k := k') r t => by
    rw [List.map_cons, List.map_cons]
    by_cases e : k' = k
    · subst e
      rw [if_pos rfl, if_pos (keyD_kD _)]
      exact .cons rv (RpK.repl rv t)
    · rw [if_neg e, if_neg (by rw [keyD_kD]; intro z; cases z; exact e rfl)]
      exact .cons r (RpK.repl rv t)
theorem RpK.put {K : PySem.W.Frag} {F : Hp} {k : Key} {v : V} {d : D} {l : List (Key × V)} {ds : List (D × D)} (h : RpK K F l ds) (rv : Rp K F v d) : RpK K F (putK l k v) (putKD ds k d) := by
  unfold putK putKD
  rw [h.anyK]
  split
  · exact RpK.repl rv h
  · exact RpK.append h (.cons rv .nil)
theorem key_rp {K : PySem.W.Frag} {F : Hp} {v : V} {d : D} {k : Key} (r : Rp K F v d) (h : keyD d = some k) : v = kV k ∧ d = kD k := by
  cases r with
  | int i => cases h; exact ⟨rfl, rfl⟩
  | str x => cases h; exact ⟨rfl, rfl⟩
  | _ => cases h
theorem Cp.dct {K : PySem.W.Frag} {F H : Hp} {v : V} {ds : List (D × D)} (fh : Same F H) (h : Cp K F H v (.dict ds)) : ∃ a l, v = .ref a ∧ H a = some (.dK l) ∧ RpK K F l ds := by
  rcases h with r | ⟨a, rfl, ⟨l, h1, h2⟩, _⟩
  · cases r with
    | dK s r => exact ⟨_, _, rfl, fh _ _ s, r⟩
  · exact ⟨a, l, rfl, h1, h2⟩
/-- x[y] of all kinds -/
def dIxA (d y : D) : Option D := match d with
  | .dict ds => (keyD y).bind (atK ds)
  | d => dIx d y
def rIxA (K : PySem.W.Frag) : R2 := fun x y H Q => L2.rIx K x y H Q ∨ rIxDz x y H Q
theorem dIxA_ok {K : PySem.W.Frag} {F H : Hp} {v y : V} {d dy r : D} {Q : VK} (fh : Same F H) (c : Cp K F H v d) (ry : Rp K F y dy) (h : dIxA d dy = some r) (q : ∀ u, Rp K F u r → Q u H) : rIxA K v y H Q := by
  unfold dIxA at h
  split at h
  · rename_i ds
    obtain ⟨k, e1, e2⟩ := obind h
    obtain ⟨a, l, rfl, h1, h2⟩ := c.dct fh
    obtain ⟨rfl, rfl⟩ := key_rp ry e1
    obtain ⟨v, e3, e4⟩ := h2.get.2 _ e2
    exact .inr ⟨a, v, rfl, by rw [← e3]; exact DGet.k h1, q v e4⟩
  · exact .inl (dIx_ok fh c ry h q)
def mIxA (a b : M) : M := mBin dIxA a b
def mIxAV (i : Nat) (b : M) : M := fun ρ => (slD ρ i).bind fun _ => (b ρ).bind fun q => (slD q.2 i).bind fun d => (dIxA d q.1).map fun r => (r, q.2)
theorem u1 (hu : X.A.units + 64 < cLine) : X.A.units + 1 < cLine := by omega
theorem Op2_ixA : Op2 G.K (rIxA G.K) dIxA := fun F H x y dx dy d Q fh rx ry h q => dIxA_ok fh (.inl rx) ry h fun u ru => q u F H .same ru
theorem rIxA_ (ha : PE X a (rd G ma)) (hb : PE X b (rd G mb)) (hu : X.A.units + 64 < cLine) (hK : G.K = X.K) (hs : PlainIx b := by exact fun _ _ => rfl) : PE X (.Subscript a b pos) (rd G (mIxA ma mb)) :=
  (pe_ix (ix_seq.or (ix_dictz (u1 hu))) ha hb hs).weak (by rw [← hK]; exact tOp_rd Op2_ixA)
theorem rIxAV (i : Nat) (hb : PE X b (rd G mb)) (hu : X.A.units + 64 < cLine) (hK : G.K = X.K) (hN : X.N[i]? = some x := by rfl) (hv : Vis X.env.scope x := by first | exact Or.inl rfl | exact Or.inr (Or.inl rfl) | exact Or.inr (Or.inr rfl)) (hs : PlainIx b := by exact fun _ _ => rfl)
    (hd : (x == ("__debug__" : Str)) = false := by decide) (hcd : (x == ("__classdict__" : Str)) = false := by decide) : PE X (.Subscript (.Name x px) b pos) (rd G (mIxAV i mb)) :=
  (pe_ix (ix_seq.or (ix_dictz (u1 hu))) (pe_var hN hv hd hcd) hb hs).weak fun σ H Q ⟨ρ, T, F, d, ρ', S, em, k⟩ => by
    obtain ⟨d0, h0, em⟩ := obind em
    obtain ⟨dk, ρ1, e1, em⟩ := bind2 em
    obtain ⟨d1, h1, em⟩ := obind em
    obtain ⟨r, e2, em⟩ := map2 em
    cases em
    obtain ⟨v, hv, _⟩ := S.sl h0
    refine ⟨v, hv, ρ, T, F, dk, _, S, e1, fun y F1 H1 S1 q1 ry => ?_⟩
    obtain ⟨v', hv', c⟩ := S1.sl h1
    rw [hv] at hv'; cases hv'
    rw [← hK]
    exact dIxA_ok S1.fh c ry e2 fun u ru => k u F1 H1 S1 q1 ru
/-- y in x of all kinds -/
def dInA (y d : D) : Option D := match d with
  | .dict ds => (keyD y).map fun k => .bool (atK ds k).isSome
  | .str j => match y with
    | .str i => some (.bool (!(Builtin.Str.occurrences j i 0 j.length 1).isEmpty))
    | _ => none
  | d => dIn y d
def dNotInA (y d : D) : Option D := match d with
  | .dict ds => (keyD y).map fun k => .bool (!(atK ds k).isSome)
  | .str j => match y with
    | .str i => some (.bool (!(!(Builtin.Str.occurrences j i 0 j.length 1).isEmpty)))
    | _ => none
  | d => dNotIn y d
def rInS (neg : Bool) : R2 := fun x y H Q => ∃ i j, x = .str i ∧ y = .str j ∧ Q (.bl (if neg then (!(!(Builtin.Str.occurrences j i 0 j.length 1).isEmpty)) else (!(Builtin.Str.occurrences j i 0 j.length 1).isEmpty))) H
def rInA (K : PySem.W.Frag) (neg : Bool) : R2 := fun x y H Q => L2.rIn K neg x y H Q ∨ rInDz neg x y H Q ∨ rInS neg x y H Q
theorem op_inA (hu : X.A.units + 64 < cLine) : OpR X (compareOp .In) (rInA X.K false) := op_in_seq.or ((op_inDz (u1 hu)).or op_in_str)
theorem op_notInA (hu : X.A.units + 64 < cLine) : OpR X (compareOp .NotIn) (rInA X.K true) := op_notIn_seq.or ((op_notInDz (u1 hu)).or op_notin_str)
/-- a test of a slot's content, behind the other operand -/
theorem inA_ok {K : PySem.W.Frag} {F H : Hp} {x y : V} {dx dy d : D} {Q : VK} (fh : Same F H) (rx : Rp K F x dx) (c : Cp K F H y dy) (h : dInA dx dy = some d) (q : ∀ b, d = .bool b → Q (.bl b) H) : MM.rInA K false x y H Q := by
  unfold dInA at h
  split at h
  · rename_i ds
    obtain ⟨k, e1, e2⟩ := map2 h
    subst e2
    obtain ⟨a, l, rfl, h1, h2⟩ := c.dct fh
    obtain ⟨rfl, rfl⟩ := key_rp rx e1
    refine .inr (.inl ⟨a, _, rfl, DGet.k h1, ?_⟩)
    rw [(h2.get).1]
    exact q _ rfl
  · rename_i j
    split at h
    · cases h
      cases rx
      cases c.str
      exact .inr (.inr ⟨_, _, rfl, rfl, q _ rfl⟩)
    · cases h
  · rcases c with c | ⟨a, rfl, w, no⟩
    · exact .inl (Op2b_in F H _ _ dx dy d Q fh rx c h q)
    · cases dy with
      | list ds =>
        obtain ⟨vs, w1, w2⟩ := w
        obtain ⟨h1, h2⟩ := ite_some (show (if (dFlat dx && ds.all dFlat) = true then some (PyData.bool (ds.any fun z => dEqF z dx)) else none) = some d from h)
        rw [Bool.and_eq_true] at h1
        subst h2
        obtain ⟨z1, z2⟩ := flat_rp rx h1.1
        obtain ⟨z3, z4⟩ := flats_rp w2 h1.2
        refine .inl ⟨_, _, rfl, .inl (SqL.of w1), z2, z3, ?_⟩
        rw [z1]
        show Q (.bl (inV (vD dx) _)) H
        rw [z4 dx h1.1]
        exact q _ rfl
      | dict ds => cases h
      | tuple _ => cases no
      | _ => exact w.elim
theorem notInA_ok {K : PySem.W.Frag} {F H : Hp} {x y : V} {dx dy d : D} {Q : VK} (fh : Same F H) (rx : Rp K F x dx) (c : Cp K F H y dy) (h : dNotInA dx dy = some d) (q : ∀ b, d = .bool b → Q (.bl b) H) : MM.rInA K true x y H Q := by
  unfold dNotInA at h
  split at h
  · rename_i ds
    obtain ⟨k, e1, e2⟩ := map2 h
    subst e2
    obtain ⟨a, l, rfl, h1, h2⟩ := c.dct fh
    obtain ⟨rfl, rfl⟩ := key_rp rx e1
    refine .inr (.inl ⟨a, _, rfl, DGet.k h1, ?_⟩)
    rw [(h2.get).1]
    exact q _ rfl
  · rename_i j
    split at h
    · cases h
      cases rx
      cases c.str
      exact .inr (.inr ⟨_, _, rfl, rfl, q _ rfl⟩)
    · cases h
  · rcases c with c | ⟨a, rfl, w, no⟩
    · exact .inl (Op2b_notIn F H _ _ dx dy d Q fh rx c h q)
    · cases dy with
      | list ds =>
        obtain ⟨vs, w1, w2⟩ := w
        obtain ⟨h1, h2⟩ := ite_some (show (if (dFlat dx && ds.all dFlat) = true then some (PyData.bool (!ds.any fun z => dEqF z dx)) else none) = some d from h)
        rw [Bool.and_eq_true] at h1
        subst h2
        obtain ⟨z1, z2⟩ := flat_rp rx h1.1
        obtain ⟨z3, z4⟩ := flats_rp w2 h1.2
        refine .inl ⟨_, _, rfl, .inl (SqL.of w1), z2, z3, ?_⟩
        rw [z1]
        show Q (.bl (!inV (vD dx) _)) H
        rw [z4 dx h1.1]
        exact q _ rfl
      | dict ds => cases h
      | tuple _ => cases no
      | _ => exact w.elim
end
end MM
/-! M11: in; dict displays; stores by subscripts; bit_length; index. -/
namespace MM
open PySem L2
def mInAV (g : D → D → Option D) (i : Nat) (a : M) : M := fun ρ => (a ρ).bind fun p => (slD p.2 i).bind fun d => (g p.1 d).map fun r => (r, p.2)
def dSetA (d k v : D) : Option D := match d with
  | .list ds => match k with
    | .int k => (ixN ds.length k).map fun j => .list (ds.set j v)
    | _ => none
  | .dict ds => if ds.length < 16777216 then (keyD k).map fun k => .dict (putKD ds k v) else none
  | _ => none
/-- x[e] = v -/
def mSetA (i : Nat) (mi mv : M) : MS := fun ρ => (mv ρ).bind fun p => (slD p.2 i).bind fun _ => (mi p.2).bind fun q => (ownD q.2 i).bind fun d => (dSetA d q.1 p.1).map fun d' => (.nx, putD q.2 i d')
def gSubA (i : Nat) (mi : M) : MG := fun v ρ => (slD ρ i).bind fun _ => (mi ρ).bind fun q => (ownD q.2 i).bind fun d => (dSetA d q.1 v).map fun d' => putD q.2 i d'
def rSetA : TSet := fun o i v H Q => rSetL o i v H Q ∨ rSetD o i v H Q
def dBits : D → Option D
  | .int i => some (.int (Builtin.Int.intBits i : Nat))
  | _ => none
def dIdx (cs : List Str) : D → Option D
  | .str z => (cs.findIdx? fun c => c == z).map fun j => .int (j : Nat)
  | _ => none
def mPairs : List (M × M) → En → Option (List (D × D) × En)
  | [], ρ => some ([], ρ)
  | (a, b) :: r, ρ => (a ρ).bind fun p => (b p.2).bind fun q => (mPairs r q.2).map fun s => ((p.1, q.1) :: s.1, s.2)
def mergeD (ds : List (D × D)) (more : List (D × D)) : List (D × D) := more.foldl (fun acc z => match keyD z.1 with
  | some k => putKD acc k z.2
  | none => acc) ds
def mDict (kms : List (M × M)) : M := fun ρ => (mPairs kms ρ).bind fun p => if p.1.all (fun z => (keyD z.1).isSome) then some (.dict (mergeD [] p.1), p.2) else none
section
variable {G : Gx} {X : Cx} {a b e value : Expr} {es : List Expr} {x : Str} {px apos pos pos' p p2 : Pos} {ma mb m mi mv : M}
theorem Op2b_inA {K : PySem.W.Frag} : Op2b K (MM.rInA K false) dInA := fun F H x y dx dy d Q fh rx ry h q => inA_ok fh rx (.inl ry) h q
theorem Op2b_notInA {K : PySem.W.Frag} : Op2b K (MM.rInA K true) dNotInA := fun F H x y dx dy d Q fh rx ry h q => notInA_ok fh rx (.inl ry) h q
theorem rInA_ (ha : PE X a (rd G ma)) (hb : PE X b (rd G mb)) (hu : X.A.units + 64 < cLine) (hK : G.K = X.K) (hm : behindInMarks .In b = false := by with_unfolding_all rfl) : PE X (.Compare a [.In] [b] pos) (rd G (mBin dInA ma mb)) := rCmp (op_inA hu) (by rw [← hK]; exact Op2b_inA.op2) ha hb hm
theorem rInAT (ha : PE X a (rd G ma)) (hb : PE X b (rd G mb)) (hu : X.A.units + 64 < cLine) (hK : G.K = X.K) (hm : behindInMarks .In b = false := by with_unfolding_all rfl) : PT X (.Compare a [.In] [b] pos) (rdt G (mB (mBin dInA ma mb))) := rCmpT (op_inA hu) (by rw [← hK]; exact Op2b_inA.op2) ha hb hm
theorem rNotInA (ha : PE X a (rd G ma)) (hb : PE X b (rd G mb)) (hu : X.A.units + 64 < cLine) (hK : G.K = X.K) (hm : behindInMarks .NotIn b = false := by with_unfolding_all rfl) : PE X (.Compare a [.NotIn] [b] pos) (rd G (mBin dNotInA ma mb)) := rCmp (op_notInA hu) (by rw [← hK]; exact Op2b_notInA.op2) ha hb hm
theorem rNotInAT (ha : PE X a (rd G ma)) (hb : PE X b (rd G mb)) (hu : X.A.units + 64 < cLine) (hK : G.K = X.K) (hm : behindInMarks .NotIn b = false := by with_unfolding_all rfl) : PT X (.Compare a [.NotIn] [b] pos) (rdt G (mB (mBin dNotInA ma mb))) := rCmpT (op_notInA hu) (by rw [← hK]; exact Op2b_notInA.op2) ha hb hm
theorem inV_rd (i : Nat) {r : R2} {g : D → D → Option D} (o : ∀ (F H : Hp) (x y : V) (dx dy d : D) (Q : VK), Same F H → Rp G.K F x dx → Cp G.K F H y dy → g dx dy = some d → (∀ b, d = .bool b → Q (.bl b) H) → r x y H Q) :
    ∀ σ H Q, rd G (mInAV g i ma) σ H Q → tOp r (rd G ma) (tVar i) σ H Q := fun σ H Q ⟨ρ, T, F, d, ρ', S, em, k⟩ => by
  obtain ⟨d1, ρ1, e1, em⟩ := bind2 em
  obtain ⟨d2, h2, em⟩ := obind em
  obtain ⟨rr, e2, em⟩ := map2 em
  cases em
  refine ⟨ρ, T, F, d1, _, S, e1, fun v F1 H1 S1 q1 rv => ?_⟩
  obtain ⟨y, hy, c⟩ := S1.sl h2
  exact ⟨y, hy, o F1 H1 v y d1 d2 d Q S1.fh rv c e2 fun b eb => k _ F1 H1 S1 q1 (by rw [eb]; exact .bl b)⟩
theorem rInAV (i : Nat) (ha : PE X a (rd G ma)) (hu : X.A.units + 64 < cLine) (hK : G.K = X.K) (hN : X.N[i]? = some x := by rfl) (hv : Vis X.env.scope x := by first | exact Or.inl rfl | exact Or.inr (Or.inl rfl) | exact Or.inr (Or.inr rfl))
    (hd : (x == ("__debug__" : Str)) = false := by decide) (hcd : (x == ("__classdict__" : Str)) = false := by decide) (hm : behindInMarks .In (.Name x px) = false := by with_unfolding_all rfl) : PE X (.Compare a [.In] [.Name x px] pos) (rd G (mInAV dInA i ma)) :=
  (pe_cmpR (op_inA hu) ha (pe_var hN hv hd hcd) hm).weak (by rw [← hK]; exact inV_rd i fun F H x y dx dy d Q fh rx c h q => inA_ok fh rx c h q)
theorem rInAVT (i : Nat) (ha : PE X a (rd G ma)) (hu : X.A.units + 64 < cLine) (hK : G.K = X.K) (hN : X.N[i]? = some x := by rfl) (hv : Vis X.env.scope x := by first | exact Or.inl rfl | exact Or.inr (Or.inl rfl) | exact Or.inr (Or.inr rfl))
    (hd : (x == ("__debug__" : Str)) = false := by decide) (hcd : (x == ("__classdict__" : Str)) = false := by decide) (hm : behindInMarks .In (.Name x px) = false := by with_unfolding_all rfl) : PT X (.Compare a [.In] [.Name x px] pos) (rdt G (mB (mInAV dInA i ma))) :=
  (pt_cmpR (op_inA hu) ha (pe_var hN hv hd hcd) hm).weak (mB_rd (by rw [← hK]; exact inV_rd i fun F H x y dx dy d Q fh rx c h q => inA_ok fh rx c h q))
theorem rNotInAV (i : Nat) (ha : PE X a (rd G ma)) (hu : X.A.units + 64 < cLine) (hK : G.K = X.K) (hN : X.N[i]? = some x := by rfl) (hv : Vis X.env.scope x := by first | exact Or.inl rfl | exact Or.inr (Or.inl rfl) | exact Or.inr (Or.inr rfl))
    (hd : (x == ("__debug__" : Str)) = false := by decide) (hcd : (x == ("__classdict__" : Str)) = false := by decide) (hm : behindInMarks .NotIn (.Name x px) = false := by with_unfolding_all rfl) : PE X (.Compare a [.NotIn] [.Name x px] pos) (rd G (mInAV dNotInA i ma)) :=
  (pe_cmpR (op_notInA hu) ha (pe_var hN hv hd hcd) hm).weak (by rw [← hK]; exact inV_rd i fun F H x y dx dy d Q fh rx c h q => notInA_ok fh rx c h q)
theorem rNotInAVT (i : Nat) (ha : PE X a (rd G ma)) (hu : X.A.units + 64 < cLine) (hK : G.K = X.K) (hN : X.N[i]? = some x := by rfl) (hv : Vis X.env.scope x := by first | exact Or.inl rfl | exact Or.inr (Or.inl rfl) | exact Or.inr (Or.inr rfl))
    (hd : (x == ("__debug__" : Str)) = false := by decide) (hcd : (x == ("__classdict__" : Str)) = false := by decide) (hm : behindInMarks .NotIn (.Name x px) = false := by with_unfolding_all rfl) : PT X (.Compare a [.NotIn] [.Name x px] pos) (rdt G (mB (mInAV dNotInA i ma))) :=
  (pt_cmpR (op_notInA hu) ha (pe_var hN hv hd hcd) hm).weak (mB_rd (by rw [← hK]; exact inV_rd i fun F H x y dx dy d Q fh rx c h q => notInA_ok fh rx c h q))
/-! ### stores by subscripts -/
theorem setA_ok {K : PySem.W.Frag} {F H : Hp} {l : Addr} {y v : V} {d dk dv d' : D} {Q : Hp → Prop} (w : Own K F H l d) (ry : Rp K F y dk) (rv : Rp K F v dv) (h : dSetA d dk dv = some d') (q : ∀ o, Own K F (upd H l o) l d' → Q (upd H l o)) : rSetA (.ref l) y v H Q := by
  cases d with
  | list ds =>
    cases dk with
    | int n =>
      cases ry
      obtain ⟨vs, w1, w2⟩ := w
      obtain ⟨j, e4, e5⟩ := map2 (show (ixN ds.length n).map (fun j => PyData.list (ds.set j dv)) = some d' from h)
      subst e5
      exact .inl ⟨l, vs, n, j, rfl, rfl, w1, by rw [w2.length]; exact e4, q _ ⟨_, upd_same, w2.set rv j⟩⟩
    | _ => cases h
  | dict ds =>
    have h' : (if ds.length < 16777216 then (keyD dk).map fun k => PyData.dict (putKD ds k dv) else none) = some d' := h
    split at h'
    · rename_i hz
      obtain ⟨k, e1, e2⟩ := map2 h'
      subst e2
      obtain ⟨rfl, rfl⟩ := key_rp ry e1
      obtain ⟨vs, w1, w2⟩ := w
      exact .inr ⟨l, _, rfl, DPut.k w1 (by rw [w2.length, sizeLine_eq]; exact hz), q _ ⟨_, upd_same, w2.put rv⟩⟩
    · cases h'
  | _ => cases h
theorem set_all (hu : X.A.units + 64 < cLine) : PSet X rSetA := set_list.or (set_dict (u1 hu))
theorem sSetA (i : Nat) (hi : PE X e (rd G mi)) (hv : PE X value (rd G mv)) (hu : X.A.units + 64 < cLine) (hN : X.N[i]? = some x := by rfl) (hvs : Vis X.env.scope x := by first | exact Or.inl rfl | exact Or.inr (Or.inl rfl) | exact Or.inr (Or.inr rfl))
    (hd : (x == ("__debug__" : Str)) = false := by decide) (hcd : (x == ("__classdict__" : Str)) = false := by decide)
    (ha : ∀ v, assign (.Subscript (.Name x px) e pos') X.env v = (do
      let ov ← holding [v] (eval (.Name x px) X.env)
      let iv ← holding [v, ov] (eval e X.env)
      standAt pos'
      holding [v, ov, iv] (setItem ov iv v)
      release [v, ov, iv] []) := by intro _; rfl) (hs : swapsWithSole [.Subscript (.Name x px) e pos'] value pos.line X.env = pure false := by rfl) (hw : swappedStores [.Subscript (.Name x px) e pos'] value X.env = pure none := by rfl)
    (h1 : (assignEach [.Subscript (.Name x px) e pos'] X.env).map (·.2) = [assign (.Subscript (.Name x px) e pos') X.env] := by rfl) : PS X (.Assign [.Subscript (.Name x px) e pos'] value pos) (rds G (mSetA i mi mv)) :=
  (ps_asg hv (pg_sub (pe_var hN hvs hd hcd) hi (set_all hu) ha) hs hw h1).weak fun W σ H ⟨ρ, T, F, fl, ρ', S, em, k⟩ => by
    obtain ⟨dv, ρ1, e1, em⟩ := bind2 em
    obtain ⟨d0, h0, em⟩ := obind em
    obtain ⟨dk, ρ2, e2, em⟩ := bind2 em
    obtain ⟨d1, h2, em⟩ := obind em
    obtain ⟨d2, e3, em⟩ := map2 em
    cases em
    refine ⟨ρ, T, F, dv, ρ1, S, e1, fun v F1 H1 S1 q1 rv => ?_⟩
    obtain ⟨u, hu, _⟩ := S1.sl h0
    refine ⟨u, hu, ρ1, T, F1, dk, ρ2, S1, e2, fun y F2 H2 S2 q2 ry => ?_⟩
    obtain ⟨l, hl, hF, w, ch⟩ := S2.own h2
    rw [hu] at hl; cases hl
    exact setA_ok w ry (rv.mono q2) e3 fun o wo => k _ F2 _ (ch _ _ wo) (q1.trans q2)
theorem tgSubA (i : Nat) (hi : PE X e (rd G mi)) (hu : X.A.units + 64 < cLine) (hN : X.N[i]? = some x := by rfl) (hvs : Vis X.env.scope x := by first | exact Or.inl rfl | exact Or.inr (Or.inl rfl) | exact Or.inr (Or.inr rfl))
    (hd : (x == ("__debug__" : Str)) = false := by decide) (hcd : (x == ("__classdict__" : Str)) = false := by decide)
    (ha : ∀ v, assign (.Subscript (.Name x px) e pos') X.env v = (do
      let ov ← holding [v] (eval (.Name x px) X.env)
      let iv ← holding [v, ov] (eval e X.env)
      standAt pos'
      holding [v, ov, iv] (setItem ov iv v)
      release [v, ov, iv] []) := by intro _; rfl) : PG X (.Subscript (.Name x px) e pos') (rdg G [] (gSubA i mi)) :=
  (pg_sub (pe_var hN hvs hd hcd) hi (set_all hu) ha).weak fun v σ H Q ⟨ρ, T, F, d, ρ', S, rv, em, k⟩ => by
    obtain ⟨d0, h0, em⟩ := obind em
    obtain ⟨dk, ρ2, e2, em⟩ := bind2 em
    obtain ⟨d1, h2, em⟩ := obind em
    obtain ⟨d2, e3, em⟩ := map2 em
    cases em
    obtain ⟨u, hu, _⟩ := S.sl h0
    refine ⟨u, hu, ρ, T, F, dk, ρ2, S, e2, fun y F2 H2 S2 q2 ry => ?_⟩
    obtain ⟨l, hl, hF, w, ch⟩ := S2.own h2
    rw [hu] at hl; cases hl
    exact setA_ok w ry (rv.mono q2) e3 fun o wo => k σ F2 _ (ch _ _ wo) q2 rfl fun _ _ => rfl
/-! ### bit_length, index -/
theorem rBits (ha : PE X a (rd G ma)) (hbase : attributeBase a "bit_length" X.env (eval a X.env) = eval a X.env := by rfl) (hline : (apos.endLine == pos.line) = true := by rfl) : PE X (.Call (.Attribute a "bit_length" apos) [] [] pos) (rd G (mUn dBits ma)) :=
  (pe_bits ha hbase hline).weak fun σ H Q ⟨ρ, T, F, d, ρ', S, em, k⟩ => by
    obtain ⟨d1, ρ1, e1, em⟩ := bind2 em
    obtain ⟨d3, e3, em⟩ := map2 em
    cases em
    refine ⟨ρ, T, F, d1, _, S, e1, fun v F1 H1 S1 q1 r => ?_⟩
    cases d1 with
    | int i =>
      cases e3
      cases r
      exact ⟨i, rfl, k _ F1 H1 S1 q1 (.int _)⟩
    | _ => cases e3
theorem findIdx_get {cs : List Str} {z : Str} {j : Nat} (h : cs.findIdx? (fun c => c == z) = some j) : cs[j]? = some z ∧ ∀ m, m < j → cs[m]? ≠ some z := by
  rw [List.findIdx?_eq_some_iff_getElem] at h
  obtain ⟨hj, h1, h2⟩ := h
  refine ⟨?_, fun m hm e => ?_⟩
  · rw [List.getElem?_eq_getElem hj]
    exact congrArg some (by simpa using h1)
  · have := h2 m hm
    rw [List.getElem?_eq_getElem (by omega)] at e
    cases e
    simp at this
/-- C.index(e), C the module's constant tuple of texts -/
theorem rIdxC {t : Addr} {cs : List Str} {y : Str} {u : Value} (ha : PE X a (rd G ma)) (hm : X.mg y = some u) (ru : RelV (.ref t) u) (ht : ∀ H, SqT X.K H t (cs.map V.str)) (hky : ∃ o, X.K.lookup t = some o ∧ o.cls = .type "tuple" ∧ o.dict = none) (hK : G.K = X.K) (hg : Gl X y := by rfl) (hd : (y == ("__debug__" : Str)) = false := by decide)
    (hbase : attributeBase (.Name y px) "index" X.env (eval (.Name y px) X.env) = eval (.Name y px) X.env := by rfl)
    (hfew : ((backTo pos (starEach [a] X.env)).all (fun x => !x.1) && (backToKw pos (keywordEach [] X.env)).all (fun x => x.1.isSome)
      && decide (([a] : List Expr).length + ([] : List Keyword).length + (if ([] : List Keyword).isEmpty then 0 else 1) < 30)) = true := by rfl)
    (hline : (apos.endLine == pos.line) = true := by rfl) (hs : starEach [a] X.env = (false, eval a X.env) :: starEach [] X.env := by rfl) (hplain : (backTo pos (starEach [] X.env)).any (·.1) = false := by rfl) :
    PE X (.Call (.Attribute (.Name y px) "index" apos) [a] [] pos) (rd G (mUn (dIdx cs) ma)) :=
  (pe_bm PySem.F.plainAttrs_tuple PySem.F.slot_tuple_index PySem.F.type_tuple_index mt_tup_index (pe_glob hg hm ru hd) (pa_cons ha pa_nil hs) hbase hfew hline hs hplain).weak fun σ H Q ⟨ρ, T, F, d, ρ', S, em, k⟩ => by
    obtain ⟨d1, ρ1, e1, em⟩ := bind2 em
    obtain ⟨d3, e3, em⟩ := map2 em
    cases em
    refine ⟨.inr (.inl ⟨rfl, hky⟩), ρ, T, F, d1, _, S, e1, fun v F1 H1 S1 q1 r => ?_⟩
    cases d1 with
    | str z =>
      obtain ⟨j, e4, e5⟩ := map2 (show (cs.findIdx? fun c => c == z).map (fun j => PyData.int (j : Nat)) = some d from e3)
      subst e5
      cases r
      obtain ⟨h1, h2⟩ := findIdx_get e4
      exact ⟨t, cs, z, j, rfl, rfl, ht H1, h1, h2, k _ F1 H1 S1 q1 (.int _)⟩
    | _ => cases e3
/-! ### dict displays -/
inductive PrOk (K : PySem.W.Frag) (F : Hp) : List (V × V) → List (D × D) → Prop
  | nil : PrOk K F [] []
  | cons {x y a b vs ds} : Rp K F x a → Rp K F y b → PrOk K F vs ds → PrOk K F ((x, y) :: vs) ((a, b) :: ds)
inductive RD (G : Gx) (X : Cx) (pos : Pos) : List (Option Expr) → List Expr → List (M × M) → Prop
  | nil : RD G X pos [] [] []
  | cons {k v : Expr} {ks vs mk mv ms} : PE X k (rd G mk) → PE X v (rd G mv) → RD G X pos ks vs ms → RD G X pos (some k :: ks) (v :: vs) ((mk, mv) :: ms)
theorem RD.pps {pos : Pos} {ks : List (Option Expr)} {vs : List Expr} {ms : List (M × M)} (h : RD G X pos ks vs ms) : PPs X pos ks vs (ms.map fun z => (rd G z.1, rd G z.2)) := by
  induction h with
  | nil => exact pps_nil
  | cons h1 h2 _ ih => exact pps_cons h1 h2 ih
theorem pairs_rd : ∀ {ms : List (M × M)} {σ : L2.St} {ρ ρ' : En} {T : TL} {F H : Hp} {ds : List (D × D)} {Q : List (V × V) → Hp → Prop}, StR G ρ σ T F H → mPairs ms ρ = some (ds, ρ') →
    (∀ ps F' H', StR G ρ' σ T F' H' → Same F F' → PrOk G.K F' ps ds → Q ps H') → tPairs (ms.map fun z => (rd G z.1, rd G z.2)) σ H Q
  | [], σ, ρ, ρ', T, F, H, ds, Q, S, e, k => by
    cases e
    exact k [] F H S (Same.refl F) .nil
  | (a, b) :: ms, σ, ρ, ρ', T, F, H, ds, Q, S, e, k => by
    obtain ⟨d1, ρ1, e1, e⟩ := bind2 (m := a) e
    obtain ⟨d2, ρ2, e2, e⟩ := bind2 (m := b) e
    obtain ⟨q, e3, e⟩ := map2 e
    cases e
    refine ⟨ρ, T, F, d1, ρ1, S, e1, fun x F1 H1 S1 q1 r1 => ⟨ρ1, T, F1, d2, ρ2, S1, e2, fun y F2 H2 S2 q2 r2 => ?_⟩⟩
    exact pairs_rd (ms := ms) S2 e3 fun ps F3 H3 S3 q3 r3 => k _ F3 H3 S3 ((q1.trans q2).trans q3) (.cons (r1.mono (q2.trans q3)) (r2.mono q3) r3)
theorem prOk_keys {K : PySem.W.Frag} {F : Hp} : ∀ {ps : List (V × V)} {ds : List (D × D)}, PrOk K F ps ds → ds.all (fun z => (keyD z.1).isSome) = true → ∃ kvs : List (Key × V), ps = kvs.map (fun kv => (kV kv.1, kv.2)) ∧ RpK K F kvs ds
  | _, _, .nil, _ => ⟨[], rfl, .nil⟩
  | _, _, .cons (a := a) (b := b) (ds := ds) rx ry t, h => by
    rw [List.all_cons, Bool.and_eq_true] at h
    obtain ⟨k, hk⟩ := Option.isSome_iff_exists.mp h.1
    obtain ⟨rfl, rfl⟩ := key_rp rx hk
    obtain ⟨kvs, h1, h2⟩ := prOk_keys t h.2
    exact ⟨(k, _) :: kvs, by rw [h1]; rfl, .cons ry h2⟩
theorem merge_rp {K : PySem.W.Frag} {F : Hp} : ∀ {more : List (Key × V)} {ds : List (D × D)} {acc : List (Key × V)} {das : List (D × D)}, RpK K F more ds → RpK K F acc das → RpK K F (mergeK acc more) (mergeD das ds)
  | _, _, acc, das, .nil, h => h
  | _, _, acc, das, .cons (k := k) (v := v) (d := d) (l := l) (ds := ds) r t, h => by
    have h2 := merge_rp t (h.put (k := k) r)
    show RpK K F (mergeK (putK acc k v) l) (mergeD das ((kD k, d) :: ds))
    have e : mergeD das ((kD k, d) :: ds) = mergeD (putKD das k d) ds := by
      unfold mergeD
      rw [List.foldl_cons, keyD_kD]
    rw [e]
    exact h2
theorem rDict {ks : List (Option Expr)} {vs : List Expr} {ms : List (M × M)} (h : RD G X pos ks vs ms) (hall : ks.all (·.isSome) = true := by rfl) (hl : ks.length = vs.length := by rfl) (h0 : ks ≠ [] := by exact fun z => by cases z) (h15 : ks.length ≤ 15 := by decide) (hm : ms.length ≤ 15 := by decide) :
    PE X (.Dict ks vs pos) (rdo G (mDict ms)) :=
  (pe_disp h.pps hall hl h0 h15).weak fun σ H Q ⟨ρ, T, F, d, ρ', S, em, k⟩ => by
    cases e1 : mPairs ms ρ with
    | none => unfold mDict at em; rw [e1] at em; cases em
    | some p =>
      unfold mDict at em
      rw [e1] at em
      dsimp only [Option.bind_some] at em
      obtain ⟨hk, em⟩ := ite_some em
      cases em
      intro p0 hp
      refine pairs_rd (S.allocO (d := .dict []) hp ⟨[], upd_same, .nil⟩) e1 fun ps F1 H1 S1 q1 r => ?_
      obtain ⟨_, _, l, hl0, rl⟩ := S1.tm _ List.mem_cons_self
      cases rl
      obtain ⟨kvs, h1, h2⟩ := prOk_keys r hk
      refine ⟨hl0, kvs, h1, ?_, ?_⟩
      · have z : ∀ {ms : List (M × M)} {ρ : En} {ds : List (D × D)} {ρ' : En}, mPairs ms ρ = some (ds, ρ') → ds.length = ms.length := by
          intro ms
          induction ms with
          | nil => intro ρ ds ρ' h; cases h; rfl
          | cons a ms ih =>
            intro ρ ds ρ' h
            obtain ⟨a1, a2⟩ := a
            obtain ⟨d1, ρ1, e1, h⟩ := bind2 (m := a1) h
            obtain ⟨d2, ρ2, e2, h⟩ := bind2 (m := a2) h
            obtain ⟨q, e3, h⟩ := map2 h
            cases h
            simp [ih e3]
        have l1 := h2.length
        have l2 := z e1
        omega
      · exact k _ F1 _ (S1.chgT ⟨_, upd_same, merge_rp h2 .nil⟩) q1
def mDictE : M := fun ρ => some (.dict [], ρ)
theorem rDictE : PE X (.Dict [] [] pos) (rdo G mDictE) := pe_dnewK.weak fun σ H Q ⟨ρ, T, F, d, ρ', S, em, k⟩ => by
  cases em
  intro p hp
  exact k p F _ (S.allocO hp ⟨[], upd_same, .nil⟩) (Same.refl F)
end
end MM
/-! M12: the module's constants and defs, as the printed walks take them. -/
namespace MM
open PySem L2
def GlI (mg : Str → Option Value) (x : Str) (v : V) : Prop := ∃ u, mg x = some u ∧ RelV v u
def GlT (K : PySem.W.Frag) (mg : Str → Option Value) (x : Str) (ds : List D) : Prop := ∃ t, mg x = some (.ref t) ∧ (∀ H, SqT K H t (ds.map vD)) ∧ ∃ o, K.lookup t = some o ∧ o.cls = .type "tuple" ∧ o.dict = none
theorem flats_of {K : PySem.W.Frag} : ∀ {ds : List D}, ds.all dFlat = true → ∀ F, RpAll K F (ds.map vD) ds
  | [], _, F => .nil
  | d :: ds, h, F => by
    rw [List.all_cons, Bool.and_eq_true] at h
    refine .cons ?_ (flats_of h.2 F)
    cases d <;> first | (cases h.1; done) | constructor
section
variable {G : Gx} {X : Cx} {a e : Expr} {es : List Expr} {y : Str} {px pos apos : Pos} {ma : M} {ds : List D}
theorem rGl {v : V} {d : D} (h : GlI X.mg y v) (hr : ∀ F, Rp G.K F v d) (hg : Gl X y := by rfl) (hd : (y == ("__debug__" : Str)) = false := by decide) : PE X (.Name y px) (rd G (mC d)) := by
  obtain ⟨u, hm, r⟩ := h
  exact rGlob hg hm r hr hd
theorem rGlN {i : Int} (h : GlI X.mg y (.int i)) (hg : Gl X y := by rfl) (hd : (y == ("__debug__" : Str)) = false := by decide) : PE X (.Name y px) (rd G (mC (.int i))) := rGl h (fun _ => .int i) hg hd
theorem rGlS {i : Str} (h : GlI X.mg y (.str i)) (hg : Gl X y := by rfl) (hd : (y == ("__debug__" : Str)) = false := by decide) : PE X (.Name y px) (rd G (mC (.str i))) := rGl h (fun _ => .str i) hg hd
theorem cIn (h : GlT X.K X.mg y ds) (ha : PE X a (rd G ma)) (hf : ds.all dFlat = true) (hK : G.K = X.K) (hg : Gl X y := by rfl) (hd : (y == ("__debug__" : Str)) = false := by decide)
    (hb : behindInMarks .In (.Name y px) = false := by with_unfolding_all rfl) : PE X (.Compare a [.In] [.Name y px] pos) (rd G (mInC ds ma)) := by
  obtain ⟨t, hm, ht, _⟩ := h
  exact rInC ha hm rfl ht rfl hf hK hg hd hb
theorem cInT (h : GlT X.K X.mg y ds) (ha : PE X a (rd G ma)) (hf : ds.all dFlat = true) (hK : G.K = X.K) (hg : Gl X y := by rfl) (hd : (y == ("__debug__" : Str)) = false := by decide)
    (hb : behindInMarks .In (.Name y px) = false := by with_unfolding_all rfl) : PT X (.Compare a [.In] [.Name y px] pos) (rdt G (mB (mInC ds ma))) := by
  obtain ⟨t, hm, ht, _⟩ := h
  exact rInCT ha hm rfl ht rfl hf hK hg hd hb
theorem cNotIn (h : GlT X.K X.mg y ds) (ha : PE X a (rd G ma)) (hf : ds.all dFlat = true) (hK : G.K = X.K) (hg : Gl X y := by rfl) (hd : (y == ("__debug__" : Str)) = false := by decide)
    (hb : behindInMarks .NotIn (.Name y px) = false := by with_unfolding_all rfl) : PE X (.Compare a [.NotIn] [.Name y px] pos) (rd G (mNotInC ds ma)) := by
  obtain ⟨t, hm, ht, _⟩ := h
  exact (pe_cmpR op_notIn_seq ha (pe_glob (v := .ref t) hg hm rfl hd) hb).weak (by rw [← hK]; exact inC_rd (neg := true) (by rw [hK]; exact ht) rfl hf _ fun d => by simp [dNotIn, hf])
theorem cNotInT (h : GlT X.K X.mg y ds) (ha : PE X a (rd G ma)) (hf : ds.all dFlat = true) (hK : G.K = X.K) (hg : Gl X y := by rfl) (hd : (y == ("__debug__" : Str)) = false := by decide)
    (hb : behindInMarks .NotIn (.Name y px) = false := by with_unfolding_all rfl) : PT X (.Compare a [.NotIn] [.Name y px] pos) (rdt G (mB (mNotInC ds ma))) := by
  obtain ⟨t, hm, ht, _⟩ := h
  exact (pt_cmpR op_notIn_seq ha (pe_glob (v := .ref t) hg hm rfl hd) hb).weak (mB_rd (by rw [← hK]; exact inC_rd (neg := true) (by rw [hK]; exact ht) rfl hf _ fun d => by simp [dNotIn, hf]))
theorem cWalk {tg : Expr} (h : GlT X.K X.mg y ds) (hf : ds.all dFlat = true) (hK : G.K = X.K) (hg : Gl X y := by rfl) (hd : (y == ("__debug__" : Str)) = false := by decide) : PI X tg (.Name y px) (rdi G (iCon ds)) := by
  obtain ⟨t, hm, ht, _⟩ := h
  exact wCon hm rfl ht (flats_of hf) hK hg hd
theorem cIdx {cs : List Str} (h : GlT X.K X.mg y (cs.map .str)) (ha : PE X a (rd G ma)) (hK : G.K = X.K) (hg : Gl X y := by rfl) (hd : (y == ("__debug__" : Str)) = false := by decide)
    (hbase : attributeBase (.Name y px) "index" X.env (eval (.Name y px) X.env) = eval (.Name y px) X.env := by rfl)
    (hfew : ((backTo pos (starEach [a] X.env)).all (fun x => !x.1) && (backToKw pos (keywordEach [] X.env)).all (fun x => x.1.isSome)
      && decide (([a] : List Expr).length + ([] : List Keyword).length + (if ([] : List Keyword).isEmpty then 0 else 1) < 30)) = true := by rfl)
    (hline : (apos.endLine == pos.line) = true := by rfl) (hs : starEach [a] X.env = (false, eval a X.env) :: starEach [] X.env := by rfl) (hplain : (backTo pos (starEach [] X.env)).any (·.1) = false := by rfl) :
    PE X (.Call (.Attribute (.Name y px) "index" apos) [a] [] pos) (rd G (mUn (dIdx cs) ma)) := by
  obtain ⟨t, hm, ht, hk⟩ := h
  refine rIdxC ha hm rfl (fun H => ?_) hk hK hg hd hbase hfew hline hs hplain
  have := ht H
  rwa [List.map_map] at this
end
/-! ### what is never reached -/
def mNev : M := fun _ => none
def mNevT : MT := fun _ => none
def iNev : MI := fun _ => none
theorem rNev {G : Gx} {X : Cx} {e : Expr} : PE X e (rd G mNev) := ⟨fun pins s σ H Q I ⟨ρ, T, F, d, ρ', S, e, k⟩ => by cases e⟩
theorem rNevT {G : Gx} {X : Cx} {e : Expr} : PT X e (rdt G mNevT) := ⟨fun pins s σ H Q I ⟨ρ, T, F, d, ρ', S, e, k⟩ => by cases e⟩
theorem wNev {G : Gx} {X : Cx} {tg e : Expr} : PI X tg e (rdi G iNev) := ⟨fun pins s σ H R I ⟨ρ, T, F, d, ρ', S, e, k⟩ => by cases e⟩
/-! ### defs -/
section
variable {P : Program} {w : World} {K : PySem.W.Frag} {mg : Str → Option Value} {base : Heap} {x qual : Str} {params : Arguments} {body : List Stmt} {scope : Scope} {dvs : List V} {kws : List (Str × V)} {f : Addr} {fd : FuncData}
/-- a def of the module, by its name -/
def HasD (K : PySem.W.Frag) (mg : Str → Option Value) (x : Str) (st : Stmt) (dvs : List V) : Prop := ∃ f fd, FunD K x x (defArgs st) (defBody st) (defScope st) dvs [] f fd ∧ mg x = some (.ref f)
/-- nothing is promised -/
theorem ok_never {N ps : List Str} {k : Nat} {sp : Sp} (Fd : FunD K x qual params body scope dvs kws f fd) (S : FnScope N ps scope) (h : ∀ vs H Q E, ¬ sp vs H Q E) : FnOk P w K mg base CX0 (k + 1) f fd ps sp :=
  Fd.ok S (fun vs H Q E z => (h _ _ _ _ z).elim) fun cdv A outer s H vs Q E hr z => (h _ _ _ _ z).elim
theorem spF_none {n : Nat} : ∀ vs H Q E, ¬ spF K n (fun _ => none) vs H Q E := fun vs H Q E ⟨F, ds, d, o, _, _, _, h, _⟩ => by cases h
theorem spI_none {n : Nat} : ∀ vs H Q E, ¬ spI K n (fun _ _ => none) vs H Q E := fun vs H Q E ⟨F, a, us, row, ds, d, o, row', _, _, _, _, _, _, h, _⟩ => by cases h
/-- every parameter is written -/
theorem Cal.all {st : Stmt} {ps : List Str} {k : Nat} {sp : Sp} (h : HasD K mg x st []) (b : ∀ (kV doc pm : Value) (an : Option Addr) (cdv ct : Value) (us : List Value), us.length = ps.length → bindArgs (PySem.W.fnOf x x (defArgs st) (defBody st) (defScope st) .none kV doc pm an cdv ct) ⟨us, []⟩ = pure (ps.zip us))
    (ok : ∀ f fd, FunD K x x (defArgs st) (defBody st) (defScope st) [] [] f fd → mg x = some (.ref f) → FnOk P w K mg base CX0 k f fd ps sp) : Cal P w K mg base k x sp [] := by
  obtain ⟨f, fd, Fd, hm⟩ := h
  exact ⟨f, fd, ps, [], [], ok f fd Fd hm, hm, Fd.kp, Fd.bindsN b, .nil, fun _ => .nil⟩
/-- n values are written, the defaults behind the first j fill up -/
theorem Cal.dfl {st : Stmt} {ps : List Str} {k : Nat} {sp : Sp} (n j : Nat) {dds : List D} (h : HasD K mg x st dvs) (hd : dvs ≠ []) (hn : n + (dvs.length - j) = ps.length)
    (b : ∀ (T : Addr) (kV doc pm : Value) (an : Option Addr) (cdv ct : Value) (us its : List Value), us.length = n → its.length = dvs.length →
      ∃ k, bindArgs (PySem.W.fnOf x x (defArgs st) (defBody st) (defScope st) (.ref T) kV doc pm an cdv ct) ⟨us, []⟩ = seqItems? (.ref T) >>= k ∧ k (some its.toArray) = pure (ps.zip (us ++ its.drop j))) (hr : ∀ F, RpAll K F (dvs.drop j) dds)
    (ok : ∀ f fd, FunD K x x (defArgs st) (defBody st) (defScope st) dvs [] f fd → mg x = some (.ref f) → FnOk P w K mg base CX0 k f fd ps sp) : Cal P w K mg base k x sp dds := by
  obtain ⟨f, fd, Fd, hm⟩ := h
  obtain ⟨ds, h1, h2⟩ := Fd.binds1 n j hd hn b
  exact ⟨f, fd, ps, _, ds, ok f fd Fd hm, hm, Fd.kp, h2, h1, hr⟩
theorem Cal.mono {j k : Nat} {sp : Sp} {dds : List D} (c : Cal P w K mg base j x sp dds) (h : j ≤ k) : Cal P w K mg base k x sp dds := by
  obtain ⟨f, fd, ps, dvs, ds, F, r⟩ := c
  exact ⟨f, fd, ps, dvs, ds, F.mono h, r⟩
end
end MM
/-! M13: reckoning with mirrors. w?? m ρ Q: m ends at ρ, and its end is in Q. The k?? are what is still to be done. -/
namespace MM
open PySem L2
def wO {α : Type} (o : Option α) (Q : α → Prop) : Prop := ∃ x, o = some x ∧ Q x
def wM (m : M) (ρ : En) (Q : D → En → Prop) : Prop := ∃ d ρ', m ρ = some (d, ρ') ∧ Q d ρ'
def wT (m : MT) (ρ : En) (Q : Bool → En → Prop) : Prop := ∃ d ρ', m ρ = some (d, ρ') ∧ Q d ρ'
def wA (m : MA) (ρ : En) (Q : List D → En → Prop) : Prop := ∃ d ρ', m ρ = some (d, ρ') ∧ Q d ρ'
def wS (m : MS) (ρ : En) (Q : Fl → En → Prop) : Prop := ∃ d ρ', m ρ = some (d, ρ') ∧ Q d ρ'
def wI (m : MI) (ρ : En) (Q : List D → En → Prop) : Prop := ∃ d ρ', m ρ = some (d, ρ') ∧ Q d ρ'
def wG (m : MG) (d : D) (ρ : En) (Q : En → Prop) : Prop := ∃ ρ', m d ρ = some ρ' ∧ Q ρ'
def wGs (m : List MG) (d : List D) (ρ : En) (Q : En → Prop) : Prop := ∃ ρ', gTs m d ρ = some ρ' ∧ Q ρ'
def wP (m : Option M) (ρ : En) (Q : Option Int → En → Prop) : Prop := ∃ d ρ', mPart m ρ = some (d, ρ') ∧ Q d ρ'
def wAF (m : List (Bool × M)) (ρ : En) (Q : List (Bool × D) → En → Prop) : Prop := ∃ d ρ', mArgs m ρ = some (d, ρ') ∧ Q d ρ'
def wPr (m : List (M × M)) (ρ : En) (Q : List (D × D) → En → Prop) : Prop := ∃ d ρ', mPairs m ρ = some (d, ρ') ∧ Q d ρ'
def wF (f : FS) (ds : List D) (Q : D → Bool → Prop) : Prop := ∃ d o, f ds = some (d, o) ∧ Q d o
def wFI (f : FSI) (row : D) (ds : List D) (Q : D → Bool → D → Prop) : Prop := ∃ d o row', f row ds = some (d, o, row') ∧ Q d o row'
section
variable {α β : Type} {ρ : En}
theorem wO_some {x : α} {Q : α → Prop} : wO (some x) Q ↔ Q x := ⟨fun ⟨_, h, q⟩ => by cases h; exact q, fun q => ⟨x, rfl, q⟩⟩
theorem wO_none {Q : α → Prop} : wO none Q ↔ False := ⟨fun ⟨_, h, q⟩ => (by cases h), False.elim⟩
theorem wO_ite {c : Prop} [Decidable c] {x : α} {Q : α → Prop} : wO (if c then some x else none) Q ↔ c ∧ Q x := by
  by_cases h : c
  · rw [if_pos h, wO_some]; exact ⟨fun q => ⟨h, q⟩, fun q => q.2⟩
  · rw [if_neg h, wO_none]; exact ⟨False.elim, fun q => h q.1⟩
def kMap (f : α → β) (Q : β → Prop) (x : α) : Prop := Q (f x)
def kBind (f : α → Option β) (Q : β → Prop) (x : α) : Prop := wO (f x) Q
theorem wO_map {o : Option α} {f : α → β} {Q : β → Prop} : wO (o.map f) Q ↔ wO o (kMap f Q) := by
  cases o with
  | none => rw [Option.map_none, wO_none, wO_none]
  | some x => rw [Option.map_some, wO_some, wO_some]; rfl
theorem wO_bind {o : Option α} {f : α → Option β} {Q : β → Prop} : wO (o.bind f) Q ↔ wO o (kBind f Q) := by
  cases o with
  | none => rw [Option.bind_none, wO_none, wO_none]
  | some x => rw [Option.bind_some, wO_some]; rfl
/-- the end of a bind, of a map -/
theorem ex_bind {γ δ : Type} {o : Option γ} {f : γ → Option δ} {Q : δ → Prop} : (∃ z, o.bind f = some z ∧ Q z) ↔ ∃ x, o = some x ∧ ∃ z, f x = some z ∧ Q z := by
  cases o with
  | none => exact ⟨fun ⟨_, h, _⟩ => (by cases h), fun ⟨_, h, _⟩ => by cases h⟩
  | some x => exact ⟨fun ⟨z, h, q⟩ => ⟨x, rfl, z, h, q⟩, fun ⟨y, h, z, h2, q⟩ => by cases h; exact ⟨z, h2, q⟩⟩
theorem ex_pair {γ δ : Type} {o : Option (γ × δ)} {Q : γ → δ → Prop} : (∃ d ρ', o = some (d, ρ') ∧ Q d ρ') ↔ ∃ z, o = some z ∧ Q z.1 z.2 := ⟨fun ⟨d, r, h, q⟩ => ⟨(d, r), h, q⟩, fun ⟨z, h, q⟩ => ⟨z.1, z.2, h, q⟩⟩
theorem ex_map {γ δ : Type} {o : Option γ} {f : γ → δ} {Q : δ → Prop} : (∃ z, o.map f = some z ∧ Q z) ↔ ∃ x, o = some x ∧ Q (f x) := by
  cases o with
  | none => exact ⟨fun ⟨_, h, _⟩ => (by cases h), fun ⟨_, h, _⟩ => by cases h⟩
  | some x => exact ⟨fun ⟨z, h, q⟩ => by cases h; exact ⟨x, rfl, q⟩, fun ⟨y, h, q⟩ => by cases h; exact ⟨_, rfl, q⟩⟩
/-! ### values -/
variable {Q : D → En → Prop} {a b : M} {c c2 : MT}
theorem wM_C {d : D} : wM (mC d) ρ Q ↔ Q d ρ := ⟨fun ⟨_, _, h, q⟩ => by cases h; exact q, fun q => ⟨_, _, rfl, q⟩⟩
def kVar (i : Nat) (ρ : En) (Q : D → En → Prop) : Option Sl → Prop
  | some (.fz d) => Q d ρ
  | some (.ow d) => objD d = false ∧ Q d (ρ.set i (.fz d))
  | _ => False
theorem wM_Var {i : Nat} : wM (mVar i) ρ Q ↔ kVar i ρ Q ρ[i]? := by
  unfold wM mVar
  cases ρ[i]? with
  | none => exact ⟨fun ⟨_, _, h, q⟩ => (by cases h), False.elim⟩
  | some s =>
    cases s with
    | emp => exact ⟨fun ⟨_, _, h, q⟩ => (by cases h), False.elim⟩
    | fz d => exact ⟨fun ⟨_, _, h, q⟩ => by cases h; exact q, fun q => ⟨_, _, rfl, q⟩⟩
    | ow d =>
      show (∃ d' ρ', (if objD d then none else some (d, ρ.set i (.fz d))) = some (d', ρ') ∧ Q d' ρ') ↔ objD d = false ∧ Q d (ρ.set i (.fz d))
      cases e : objD d with
      | true => exact ⟨fun ⟨_, _, h, q⟩ => (by simp at h), fun q => (by cases q.1)⟩
      | false => exact ⟨fun ⟨_, _, h, q⟩ => (by simp at h; obtain ⟨rfl, rfl⟩ := h; exact ⟨rfl, q⟩), fun q => ⟨_, _, by simp, q.2⟩⟩
    | io d => exact ⟨fun ⟨_, _, h, q⟩ => (by cases h), False.elim⟩
def kR (Q : D → En → Prop) (ρ : En) (d : D) : Prop := Q d ρ
def kB2 (g : D → D → Option D) (x : D) (Q : D → En → Prop) (y : D) (ρ : En) : Prop := wO (g x y) (kR Q ρ)
def kB1 (g : D → D → Option D) (b : M) (Q : D → En → Prop) (x : D) (ρ : En) : Prop := wM b ρ (kB2 g x Q)
theorem wM_Bin {g : D → D → Option D} : wM (mBin g a b) ρ Q ↔ wM a ρ (kB1 g b Q) := by
  unfold wM mBin
  rw [ex_pair, ex_bind]
  refine ⟨fun ⟨x, h, z⟩ => ⟨x.1, x.2, h, ?_⟩, fun ⟨d, r, h, z⟩ => ⟨(d, r), h, ?_⟩⟩
  · rw [ex_bind] at z
    obtain ⟨y, h2, z⟩ := z
    rw [ex_map] at z
    obtain ⟨w, h3, z⟩ := z
    exact ⟨y.1, y.2, h2, w, h3, z⟩
  · obtain ⟨y, r2, h2, w, h3, z⟩ := z
    rw [ex_bind]
    refine ⟨(y, r2), h2, ?_⟩
    rw [ex_map]
    exact ⟨w, h3, z⟩
def kU (g : D → Option D) (Q : D → En → Prop) (x : D) (ρ : En) : Prop := wO (g x) (kR Q ρ)
theorem wM_Un {g : D → Option D} : wM (mUn g a) ρ Q ↔ wM a ρ (kU g Q) := by
  unfold wM mUn
  rw [ex_pair, ex_bind]
  refine ⟨fun ⟨x, h, z⟩ => ⟨x.1, x.2, h, ?_⟩, fun ⟨d, r, h, z⟩ => ⟨(d, r), h, ?_⟩⟩
  · rw [ex_map] at z
    exact z
  · rw [ex_map]
    exact z
def kIf (a b : M) (Q : D → En → Prop) : Bool → En → Prop
  | true, ρ => wM a ρ Q
  | false, ρ => wM b ρ Q
theorem wM_If : wM (mIf c a b) ρ Q ↔ wT c ρ (kIf a b Q) := by
  unfold wM mIf
  rw [ex_pair, ex_bind]
  refine ⟨fun ⟨x, h, z⟩ => ⟨x.1, x.2, h, ?_⟩, fun ⟨d, r, h, z⟩ => ⟨(d, r), h, ?_⟩⟩
  · obtain ⟨x1, x2⟩ := x
    rw [← ex_pair] at z
    cases x1 <;> exact z
  · rw [← ex_pair]
    cases d <;> exact z
def kTup (Q : D → En → Prop) (ds : List D) (ρ : En) : Prop := Q (.tuple ds) ρ
def kLst (Q : D → En → Prop) (ds : List D) (ρ : En) : Prop := Q (.list ds) ρ
theorem wM_Tup {as : MA} : wM (mTup as) ρ Q ↔ wA as ρ (kTup Q) := by
  unfold wM mTup
  rw [ex_pair, ex_map]
  exact ⟨fun ⟨x, h, z⟩ => ⟨x.1, x.2, h, z⟩, fun ⟨d, r, h, z⟩ => ⟨(d, r), h, z⟩⟩
theorem wM_Lst {as : MA} : wM (mLst as) ρ Q ↔ wA as ρ (kLst Q) := by
  unfold wM mLst
  rw [ex_pair, ex_map]
  exact ⟨fun ⟨x, h, z⟩ => ⟨x.1, x.2, h, z⟩, fun ⟨d, r, h, z⟩ => ⟨(d, r), h, z⟩⟩
theorem wA_Nil {Q : List D → En → Prop} : wA mNil ρ Q ↔ Q [] ρ := ⟨fun ⟨_, _, h, q⟩ => by cases h; exact q, fun q => ⟨_, _, rfl, q⟩⟩
def kC2 (x : D) (Q : List D → En → Prop) (ds : List D) (ρ : En) : Prop := Q (x :: ds) ρ
def kC1 (as : MA) (Q : List D → En → Prop) (x : D) (ρ : En) : Prop := wA as ρ (kC2 x Q)
theorem wA_Cons {as : MA} {Q : List D → En → Prop} : wA (mCons a as) ρ Q ↔ wM a ρ (kC1 as Q) := by
  unfold wA mCons
  rw [ex_pair, ex_bind]
  refine ⟨fun ⟨x, h, z⟩ => ⟨x.1, x.2, h, ?_⟩, fun ⟨d, r, h, z⟩ => ⟨(d, r), h, ?_⟩⟩
  · rw [ex_map] at z
    obtain ⟨y, h2, z⟩ := z
    exact ⟨y.1, y.2, h2, z⟩
  · obtain ⟨y, r2, h2, z⟩ := z
    rw [ex_map]
    exact ⟨(y, r2), h2, z⟩
def kAndV (b : M) (Q : D → En → Prop) : D → En → Prop
  | .bool true, ρ => wM b ρ Q
  | .bool false, ρ => Q (.bool false) ρ
  | _, _ => False
theorem wM_AndV : wM (mAndV a b) ρ Q ↔ wM a ρ (kAndV b Q) := by
  unfold wM mAndV
  rw [ex_pair, ex_bind]
  refine ⟨fun ⟨x, h, z⟩ => ⟨x.1, x.2, h, ?_⟩, fun ⟨d, r, h, z⟩ => ⟨(d, r), h, ?_⟩⟩
  · obtain ⟨x1, x2⟩ := x
    rw [← ex_pair] at z
    cases x1 with
    | bool t =>
      cases t with
      | true => exact z
      | false => obtain ⟨_, _, h, q⟩ := z; cases h; exact q
    | _ => obtain ⟨_, _, h, q⟩ := z; cases h
  · rw [← ex_pair]
    cases d with
    | bool t =>
      cases t with
      | true => exact z
      | false => exact ⟨_, _, rfl, z⟩
    | _ => exact z.elim
def kOrV (b : M) (Q : D → En → Prop) : D → En → Prop
  | .bool true, ρ => Q (.bool true) ρ
  | .bool false, ρ => wM b ρ Q
  | _, _ => False
theorem wM_OrV : wM (mOrV a b) ρ Q ↔ wM a ρ (kOrV b Q) := by
  unfold wM mOrV
  rw [ex_pair, ex_bind]
  refine ⟨fun ⟨x, h, z⟩ => ⟨x.1, x.2, h, ?_⟩, fun ⟨d, r, h, z⟩ => ⟨(d, r), h, ?_⟩⟩
  · obtain ⟨x1, x2⟩ := x
    rw [← ex_pair] at z
    cases x1 with
    | bool t =>
      cases t with
      | true => obtain ⟨_, _, h, q⟩ := z; cases h; exact q
      | false => exact z
    | _ => obtain ⟨_, _, h, q⟩ := z; cases h
  · rw [← ex_pair]
    cases d with
    | bool t =>
      cases t with
      | true => exact ⟨_, _, rfl, z⟩
      | false => exact z
    | _ => exact z.elim
/-- a slot read -/
def kIV3 (g : D → D → Option D) (y : D) (Q : D → En → Prop) (ρ : En) (x : D) : Prop := wO (g x y) (kR Q ρ)
def kIV2 (g : D → D → Option D) (i : Nat) (Q : D → En → Prop) (y : D) (ρ : En) : Prop := wO (slD ρ i) (kIV3 g y Q ρ)
def kIV1 (g : D → D → Option D) (i : Nat) (b : M) (Q : D → En → Prop) (ρ : En) (_ : D) : Prop := wM b ρ (kIV2 g i Q)
theorem wM_CmpV {g : D → D → Option D} {i : Nat} : wM (mCmpV g i b) ρ Q ↔ wO (slD ρ i) (kIV1 g i b Q ρ) := by
  unfold wM mCmpV
  rw [ex_pair, ex_bind]
  refine ⟨fun ⟨x, h, z⟩ => ⟨x, h, ?_⟩, fun ⟨x, h, z⟩ => ⟨x, h, ?_⟩⟩
  · rw [ex_bind] at z
    obtain ⟨y, h2, z⟩ := z
    rw [ex_bind] at z
    obtain ⟨w, h3, z⟩ := z
    rw [ex_map] at z
    obtain ⟨v, h4, z⟩ := z
    exact ⟨y.1, y.2, h2, w, h3, v, h4, z⟩
  · obtain ⟨y, r, h2, w, h3, v, h4, z⟩ := z
    rw [ex_bind]
    refine ⟨(y, r), h2, ?_⟩
    rw [ex_bind]
    refine ⟨w, h3, ?_⟩
    rw [ex_map]
    exact ⟨v, h4, z⟩
theorem wM_IxAV {i : Nat} : wM (mIxAV i b) ρ Q ↔ wO (slD ρ i) (kIV1 dIxA i b Q ρ) := wM_CmpV (g := dIxA)
theorem wM_IxA : wM (mIxA a b) ρ Q ↔ wM a ρ (kB1 dIxA b Q) := wM_Bin
def kLenV (Q : D → En → Prop) (ρ : En) (x : D) : Prop := wO (dLen x) (kR Q ρ)
theorem wM_LenV {i : Nat} : wM (mLenV i) ρ Q ↔ wO (slD ρ i) (kLenV Q ρ) := by
  unfold wM mLenV
  rw [ex_pair, ex_bind]
  refine ⟨fun ⟨x, h, z⟩ => ⟨x, h, ?_⟩, fun ⟨x, h, z⟩ => ⟨x, h, ?_⟩⟩
  · rw [ex_map] at z; exact z
  · rw [ex_map]; exact z
def kInV2 (g : D → D → Option D) (x : D) (Q : D → En → Prop) (ρ : En) (y : D) : Prop := wO (g x y) (kR Q ρ)
def kInV (g : D → D → Option D) (i : Nat) (Q : D → En → Prop) (x : D) (ρ : En) : Prop := wO (slD ρ i) (kInV2 g x Q ρ)
theorem wM_InAV {g : D → D → Option D} {i : Nat} : wM (mInAV g i a) ρ Q ↔ wM a ρ (kInV g i Q) := by
  unfold wM mInAV
  rw [ex_pair, ex_bind]
  refine ⟨fun ⟨x, h, z⟩ => ⟨x.1, x.2, h, ?_⟩, fun ⟨d, r, h, z⟩ => ⟨(d, r), h, ?_⟩⟩
  · rw [ex_bind] at z
    obtain ⟨w, h3, z⟩ := z
    rw [ex_map] at z
    obtain ⟨v, h4, z⟩ := z
    exact ⟨w, h3, v, h4, z⟩
  · obtain ⟨w, h3, v, h4, z⟩ := z
    rw [ex_bind]
    refine ⟨w, h3, ?_⟩
    rw [ex_map]
    exact ⟨v, h4, z⟩
/-! slices -/
theorem wP_none {Q : Option Int → En → Prop} : wP none ρ Q ↔ Q none ρ := ⟨fun ⟨_, _, h, q⟩ => by cases h; exact q, fun q => ⟨_, _, rfl, q⟩⟩
def kP (Q : Option Int → En → Prop) : D → En → Prop
  | .int i, ρ => Q (some i) ρ
  | _, _ => False
theorem wP_some {Q : Option Int → En → Prop} : wP (some a) ρ Q ↔ wM a ρ (kP Q) := by
  unfold wP mPart
  rw [ex_pair, ex_bind]
  refine ⟨fun ⟨x, h, z⟩ => ⟨x.1, x.2, h, ?_⟩, fun ⟨d, r, h, z⟩ => ⟨(d, r), h, ?_⟩⟩
  · obtain ⟨x1, x2⟩ := x
    obtain ⟨w, h, q⟩ := z
    cases x1 <;> first | (cases h; exact q) | cases h
  · cases d with
    | int i => exact ⟨_, rfl, z⟩
    | _ => exact z.elim
def kSV3 (l h : Option Int) (Q : D → En → Prop) (ρ : En) (x : D) : Prop := wO (dSl x l h) (kR Q ρ)
def kSV2 (i : Nat) (l : Option Int) (Q : D → En → Prop) (h : Option Int) (ρ : En) : Prop := wO (slD ρ i) (kSV3 l h Q ρ)
def kSV1 (i : Nat) (hi : Option M) (Q : D → En → Prop) (l : Option Int) (ρ : En) : Prop := wP hi ρ (kSV2 i l Q)
def kSV0 (i : Nat) (lo hi : Option M) (Q : D → En → Prop) (ρ : En) (_ : D) : Prop := wP lo ρ (kSV1 i hi Q)
theorem wM_SlV {i : Nat} {lo hi : Option M} : wM (mSlV i lo hi) ρ Q ↔ wO (slD ρ i) (kSV0 i lo hi Q ρ) := by
  unfold wM mSlV
  rw [ex_pair, ex_bind]
  refine ⟨fun ⟨x, h, z⟩ => ⟨x, h, ?_⟩, fun ⟨x, h, z⟩ => ⟨x, h, ?_⟩⟩
  · rw [ex_bind] at z
    obtain ⟨y, h2, z⟩ := z
    rw [ex_bind] at z
    obtain ⟨w, h3, z⟩ := z
    rw [ex_bind] at z
    obtain ⟨u, h4, z⟩ := z
    rw [ex_map] at z
    obtain ⟨v, h5, z⟩ := z
    exact ⟨y.1, y.2, h2, w.1, w.2, h3, u, h4, v, h5, z⟩
  · obtain ⟨y, r, h2, w, r2, h3, u, h4, v, h5, z⟩ := z
    rw [ex_bind]
    refine ⟨(y, r), h2, ?_⟩
    rw [ex_bind]
    refine ⟨(w, r2), h3, ?_⟩
    rw [ex_bind]
    refine ⟨u, h4, ?_⟩
    rw [ex_map]
    exact ⟨v, h5, z⟩
def kS2 (x : D) (l : Option Int) (Q : D → En → Prop) (h : Option Int) (ρ : En) : Prop := wO (dSl x l h) (kR Q ρ)
def kS1 (x : D) (hi : Option M) (Q : D → En → Prop) (l : Option Int) (ρ : En) : Prop := wP hi ρ (kS2 x l Q)
def kS0 (lo hi : Option M) (Q : D → En → Prop) (x : D) (ρ : En) : Prop := wP lo ρ (kS1 x hi Q)
theorem wM_Sl {lo hi : Option M} : wM (mSl a lo hi) ρ Q ↔ wM a ρ (kS0 lo hi Q) := by
  unfold wM mSl
  rw [ex_pair, ex_bind]
  refine ⟨fun ⟨x, h, z⟩ => ⟨x.1, x.2, h, ?_⟩, fun ⟨d, r, h, z⟩ => ⟨(d, r), h, ?_⟩⟩
  · rw [ex_bind] at z
    obtain ⟨y, h2, z⟩ := z
    rw [ex_bind] at z
    obtain ⟨w, h3, z⟩ := z
    rw [ex_map] at z
    obtain ⟨v, h5, z⟩ := z
    exact ⟨y.1, y.2, h2, w.1, w.2, h3, v, h5, z⟩
  · obtain ⟨y, r, h2, w, r2, h3, v, h5, z⟩ := z
    rw [ex_bind]
    refine ⟨(y, r), h2, ?_⟩
    rw [ex_bind]
    refine ⟨(w, r2), h3, ?_⟩
    rw [ex_map]
    exact ⟨v, h5, z⟩
/-! calls -/
def kF (Q : D → En → Prop) (ρ : En) (d : D) (_ : Bool) : Prop := Q d ρ
def kCall (f : FS) (dds : List D) (Q : D → En → Prop) (ds : List D) (ρ : En) : Prop := wF f (ds ++ dds) (kF Q ρ)
theorem wM_Call {f : FS} {dds : List D} {as : MA} : wM (mCall f dds as) ρ Q ↔ wA as ρ (kCall f dds Q) := by
  unfold wM mCall
  rw [ex_pair, ex_bind]
  refine ⟨fun ⟨x, h, z⟩ => ⟨x.1, x.2, h, ?_⟩, fun ⟨d, r, h, z⟩ => ⟨(d, r), h, ?_⟩⟩
  · rw [ex_map] at z
    obtain ⟨y, h2, z⟩ := z
    exact ⟨y.1, y.2, h2, z⟩
  · obtain ⟨y, o, h2, z⟩ := z
    rw [ex_map]
    exact ⟨(y, o), h2, z⟩
def kCI2 (i : Nat) (Q : D → En → Prop) (ρ : En) (d : D) (_ : Bool) (row : D) : Prop := Q d (putD ρ i row)
def kCI1 (f : FSI) (i : Nat) (ds : List D) (Q : D → En → Prop) (ρ : En) (row : D) : Prop := wFI f row ds (kCI2 i Q ρ)
def sameK : Option Sl → Option Sl → Bool
  | some (.ow _), some (.ow _) => true
  | some (.io _), some (.io _) => true
  | _, _ => false
def kCI0 (f : FSI) (i : Nat) (s : Option Sl) (Q : D → En → Prop) (ds : List D) (ρ : En) : Prop := sameK s ρ[i]? = true ∧ wO (ownD ρ i) (kCI1 f i ds Q ρ)
theorem wM_CallI {f : FSI} {i : Nat} {as : MA} (h : wA as ρ (kCI0 f i ρ[i]? Q)) : wM (mCallI f i as) ρ Q := by
  obtain ⟨ds, ρ1, e1, hs, row, e2, d, o, row', e3, q⟩ := h
  unfold wM mCallI
  cases e0 : ρ[i]? with
  | none => rw [e0] at hs; cases hs
  | some s =>
    rw [e0] at hs
    cases e4 : ρ1[i]? with
    | none => rw [e4] at hs; cases s <;> cases hs
    | some s1 =>
      rw [e4] at hs
      unfold ownD at e2
      rw [e4] at e2
      cases s with
      | ow x =>
        cases s1 with
        | ow y =>
          cases e2
          refine ⟨d, _, ?_, q⟩
          simp only [e1, Option.bind_some, e4, e3, Option.map_some, putD]
        | _ => cases hs
      | io x =>
        cases s1 with
        | io y =>
          cases e2
          refine ⟨d, _, ?_, q⟩
          simp only [e1, Option.bind_some, e4, e3, Option.map_some, putD]
        | _ => cases hs
      | _ => cases hs
def kAp (g : List D → Option D) (Q : D → En → Prop) (ds : List D) (ρ : En) : Prop := wO (g ds) (kR Q ρ)
theorem wM_Apply {g : List D → Option D} {as : MA} : wM (mApply g as) ρ Q ↔ wA as ρ (kAp g Q) := by
  unfold wM mApply
  rw [ex_pair, ex_bind]
  refine ⟨fun ⟨x, h, z⟩ => ⟨x.1, x.2, h, ?_⟩, fun ⟨d, r, h, z⟩ => ⟨(d, r), h, ?_⟩⟩
  · rw [ex_map] at z
    exact z
  · rw [ex_map]
    exact z
def kListOf (Q : D → En → Prop) (d : D) (ρ : En) : Prop := wO (dSeq d) (fun ds => Q (.list ds) ρ)
theorem wM_ListOf : wM (mListOf a) ρ Q ↔ wM a ρ (kListOf Q) := by
  unfold wM mListOf
  rw [ex_pair, ex_bind]
  refine ⟨fun ⟨x, h, z⟩ => ⟨x.1, x.2, h, ?_⟩, fun ⟨d, r, h, z⟩ => ⟨(d, r), h, ?_⟩⟩
  · rw [ex_map] at z
    exact z
  · rw [ex_map]
    exact z
def kListRange (Q : D → En → Prop) : D → En → Prop
  | .int n, ρ => (n ≤ 16777216 ∧ -(2 ^ 62) ≤ n) ∧ Q (.list ((List.range n.toNat).map fun i => .int (i : Nat))) ρ
  | _, _ => False
theorem wM_ListRange : wM (mListRange a) ρ Q ↔ wM a ρ (kListRange Q) := by
  unfold wM mListRange
  rw [ex_pair, ex_bind]
  refine ⟨fun ⟨x, h, z⟩ => ⟨x.1, x.2, h, ?_⟩, fun ⟨d, r, h, z⟩ => ⟨(d, r), h, ?_⟩⟩
  · obtain ⟨x1, x2⟩ := x
    obtain ⟨w, h, q⟩ := z
    cases x1 with
    | int n =>
      obtain ⟨h1, h2⟩ := ite_some h
      subst h2
      exact ⟨h1, q⟩
    | _ => cases h
  · cases d with
    | int n => exact ⟨_, if_pos z.1, z.2⟩
    | _ => exact z.elim
theorem wM_DictE : wM mDictE ρ Q ↔ Q (.dict []) ρ := ⟨fun ⟨_, _, h, q⟩ => by cases h; exact q, fun q => ⟨_, _, rfl, q⟩⟩
theorem wPr_nil {Q : List (D × D) → En → Prop} : wPr [] ρ Q ↔ Q [] ρ := ⟨fun ⟨_, _, h, q⟩ => by cases h; exact q, fun q => ⟨_, _, rfl, q⟩⟩
def kPr3 (x y : D) (Q : List (D × D) → En → Prop) (ds : List (D × D)) (ρ : En) : Prop := Q ((x, y) :: ds) ρ
def kPr2 (x : D) (r : List (M × M)) (Q : List (D × D) → En → Prop) (y : D) (ρ : En) : Prop := wPr r ρ (kPr3 x y Q)
def kPr1 (b : M) (r : List (M × M)) (Q : List (D × D) → En → Prop) (x : D) (ρ : En) : Prop := wM b ρ (kPr2 x r Q)
theorem wPr_cons {r : List (M × M)} {Q : List (D × D) → En → Prop} : wPr ((a, b) :: r) ρ Q ↔ wM a ρ (kPr1 b r Q) := by
  unfold wPr mPairs
  rw [ex_pair, ex_bind]
  refine ⟨fun ⟨x, h, z⟩ => ⟨x.1, x.2, h, ?_⟩, fun ⟨d, r, h, z⟩ => ⟨(d, r), h, ?_⟩⟩
  · rw [ex_bind] at z
    obtain ⟨y, h2, z⟩ := z
    rw [ex_map] at z
    obtain ⟨u, h3, z⟩ := z
    exact ⟨y.1, y.2, h2, u.1, u.2, h3, z⟩
  · obtain ⟨y, r, h2, u, r2, h3, z⟩ := z
    rw [ex_bind]
    refine ⟨(y, r), h2, ?_⟩
    rw [ex_map]
    exact ⟨(u, r2), h3, z⟩
def kDict (Q : D → En → Prop) (ds : List (D × D)) (ρ : En) : Prop := ds.all (fun z => (keyD z.1).isSome) = true ∧ Q (.dict (mergeD [] ds)) ρ
theorem wM_Dict {kms : List (M × M)} : wM (mDict kms) ρ Q ↔ wPr kms ρ (kDict Q) := by
  unfold wM mDict
  rw [ex_pair, ex_bind]
  refine ⟨fun ⟨x, h, z⟩ => ⟨x.1, x.2, h, ?_⟩, fun ⟨d, r, h, z⟩ => ⟨(d, r), h, ?_⟩⟩
  · obtain ⟨w, h, q⟩ := z
    obtain ⟨h1, h2⟩ := ite_some h
    subst h2
    exact ⟨h1, q⟩
  · exact ⟨_, if_pos z.1, z.2⟩
def kPop (i : Nat) (Q : D → En → Prop) (ρ : En) (x : D) : Prop := wO (dPop x) (fun r => Q r.1 (putD ρ i r.2))
theorem wM_Pop {i : Nat} : wM (mPop i) ρ Q ↔ wO (ownD ρ i) (kPop i Q ρ) := by
  unfold wM mPop
  rw [ex_pair, ex_bind]
  refine ⟨fun ⟨x, h, z⟩ => ⟨x, h, ?_⟩, fun ⟨x, h, z⟩ => ⟨x, h, ?_⟩⟩
  · rw [ex_map] at z; exact z
  · rw [ex_map]; exact z
def kCh3 (g' : D → D → Option D) (y : D) (Q : D → En → Prop) (z : D) (ρ : En) : Prop := wO (g' y z) (kR Q ρ)
def kChT (g' : D → D → Option D) (y : D) (c : M) (Q : D → En → Prop) (ρ : En) : D → Prop
  | .bool true => wM c ρ (kCh3 g' y Q)
  | .bool false => Q (.bool false) ρ
  | _ => False
def kCh2 (g g' : D → D → Option D) (x : D) (c : M) (Q : D → En → Prop) (y : D) (ρ : En) : Prop := wO (g x y) (kChT g' y c Q ρ)
def kCh1 (g g' : D → D → Option D) (b c : M) (Q : D → En → Prop) (x : D) (ρ : En) : Prop := wM b ρ (kCh2 g g' x c Q)
theorem wM_Chain {g g' : D → D → Option D} {c : M} : wM (mChain g g' a b c) ρ Q ↔ wM a ρ (kCh1 g g' b c Q) := by
  unfold wM mChain
  rw [ex_pair, ex_bind]
  refine ⟨fun ⟨x, h, z⟩ => ⟨x.1, x.2, h, ?_⟩, fun ⟨d, r, h, z⟩ => ⟨(d, r), h, ?_⟩⟩
  · rw [ex_bind] at z
    obtain ⟨y, h2, z⟩ := z
    rw [ex_bind] at z
    obtain ⟨t, h3, z⟩ := z
    refine ⟨y.1, y.2, h2, t, h3, ?_⟩
    cases t with
    | bool t =>
      cases t with
      | true =>
        rw [ex_bind] at z
        obtain ⟨u, h4, z⟩ := z
        rw [ex_map] at z
        obtain ⟨v, h5, z⟩ := z
        exact ⟨u.1, u.2, h4, v, h5, z⟩
      | false => obtain ⟨_, h, q⟩ := z; cases h; exact q
    | _ => obtain ⟨_, h, q⟩ := z; cases h
  · obtain ⟨y, r, h2, t, h3, z⟩ := z
    rw [ex_bind]
    refine ⟨(y, r), h2, ?_⟩
    rw [ex_bind]
    refine ⟨t, h3, ?_⟩
    cases t with
    | bool t =>
      cases t with
      | true =>
        obtain ⟨u, r, h4, v, h5, z⟩ := z
        dsimp only
        rw [ex_bind]
        refine ⟨(u, r), h4, ?_⟩
        rw [ex_map]
        exact ⟨v, h5, z⟩
      | false => exact ⟨_, rfl, z⟩
    | _ => exact z.elim
theorem wM_InC {ds : List D} : wM (mInC ds a) ρ Q ↔ wM a ρ (kU (fun d => dIn d (.tuple ds)) Q) := wM_Un
theorem wM_NotInC {ds : List D} : wM (mNotInC ds a) ρ Q ↔ wM a ρ (kU (fun d => dNotIn d (.tuple ds)) Q) := wM_Un
/-! tests -/
variable {R : Bool → En → Prop}
def kB (R : Bool → En → Prop) : D → En → Prop
  | .bool b, ρ => R b ρ
  | _, _ => False
theorem wT_B : wT (mB a) ρ R ↔ wM a ρ (kB R) := by
  unfold wT mB
  rw [ex_pair, ex_bind]
  refine ⟨fun ⟨x, h, z⟩ => ⟨x.1, x.2, h, ?_⟩, fun ⟨d, r, h, z⟩ => ⟨(d, r), h, ?_⟩⟩
  · obtain ⟨x1, x2⟩ := x
    obtain ⟨w, h, q⟩ := z
    cases x1 <;> first | (cases h; exact q) | cases h
  · cases d with
    | bool i => exact ⟨_, rfl, z⟩
    | _ => exact z.elim
def kTru (R : Bool → En → Prop) (d : D) (ρ : En) : Prop := wO (dTru d) (fun b => R b ρ)
theorem wT_Tru : wT (mTru a) ρ R ↔ wM a ρ (kTru R) := by
  unfold wT mTru
  rw [ex_pair, ex_bind]
  refine ⟨fun ⟨x, h, z⟩ => ⟨x.1, x.2, h, ?_⟩, fun ⟨d, r, h, z⟩ => ⟨(d, r), h, ?_⟩⟩
  · rw [ex_map] at z
    exact z
  · rw [ex_map]
    exact z
def kNot (R : Bool → En → Prop) (b : Bool) (ρ : En) : Prop := R (!b) ρ
theorem wT_Not : wT (mNotT c) ρ R ↔ wT c ρ (kNot R) := by
  unfold wT mNotT
  rw [ex_pair, ex_map]
  exact ⟨fun ⟨x, h, z⟩ => ⟨x.1, x.2, h, z⟩, fun ⟨d, r, h, z⟩ => ⟨(d, r), h, z⟩⟩
def kAnd (c : MT) (R : Bool → En → Prop) : Bool → En → Prop
  | true, ρ => wT c ρ R
  | false, ρ => R false ρ
def kOr (c : MT) (R : Bool → En → Prop) : Bool → En → Prop
  | true, ρ => R true ρ
  | false, ρ => wT c ρ R
theorem wT_And : wT (mAndT c c2) ρ R ↔ wT c ρ (kAnd c2 R) := by
  unfold wT mAndT
  rw [ex_pair, ex_bind]
  refine ⟨fun ⟨x, h, z⟩ => ⟨x.1, x.2, h, ?_⟩, fun ⟨d, r, h, z⟩ => ⟨(d, r), h, ?_⟩⟩
  · obtain ⟨x1, x2⟩ := x
    rw [← ex_pair] at z
    cases x1 with
    | true => exact z
    | false => obtain ⟨_, _, h, q⟩ := z; cases h; exact q
  · rw [← ex_pair]
    cases d with
    | true => exact z
    | false => exact ⟨_, _, rfl, z⟩
theorem wT_Or : wT (mOrT c c2) ρ R ↔ wT c ρ (kOr c2 R) := by
  unfold wT mOrT
  rw [ex_pair, ex_bind]
  refine ⟨fun ⟨x, h, z⟩ => ⟨x.1, x.2, h, ?_⟩, fun ⟨d, r, h, z⟩ => ⟨(d, r), h, ?_⟩⟩
  · obtain ⟨x1, x2⟩ := x
    rw [← ex_pair] at z
    cases x1 with
    | false => exact z
    | true => obtain ⟨_, _, h, q⟩ := z; cases h; exact q
  · rw [← ex_pair]
    cases d with
    | false => exact z
    | true => exact ⟨_, _, rfl, z⟩
theorem wT_Yes : wT mYes ρ R ↔ R true ρ := ⟨fun ⟨_, _, h, q⟩ => by cases h; exact q, fun q => ⟨_, _, rfl, q⟩⟩
end
/-! ### statements -/
section
variable {ρ : En} {Q : Fl → En → Prop} {a b : MS} {m : M} {c : MT}
theorem wS_Skip : wS mSkip ρ Q ↔ Q .nx ρ := ⟨fun ⟨_, _, h, q⟩ => by cases h; exact q, fun q => ⟨_, _, rfl, q⟩⟩
theorem wS_Brk : wS mBrk ρ Q ↔ Q .bk ρ := ⟨fun ⟨_, _, h, q⟩ => by cases h; exact q, fun q => ⟨_, _, rfl, q⟩⟩
theorem wS_Cont : wS mCont ρ Q ↔ Q .ct ρ := ⟨fun ⟨_, _, h, q⟩ => by cases h; exact q, fun q => ⟨_, _, rfl, q⟩⟩
theorem wS_RetN : wS mRetN ρ Q ↔ Q (.rt .none false) ρ := ⟨fun ⟨_, _, h, q⟩ => by cases h; exact q, fun q => ⟨_, _, rfl, q⟩⟩
theorem wS_Stuck : wS mStuck ρ Q ↔ False := ⟨fun ⟨_, _, h, q⟩ => (by cases h), False.elim⟩
def kSeq (b : MS) (Q : Fl → En → Prop) : Fl → En → Prop
  | .nx, ρ => wS b ρ Q
  | .bk, ρ => Q .bk ρ
  | .ct, ρ => Q .ct ρ
  | .rt d o, ρ => Q (.rt d o) ρ
theorem wS_Seq : wS (mSeq a b) ρ Q ↔ wS a ρ (kSeq b Q) := by
  unfold wS mSeq
  rw [ex_pair, ex_bind]
  refine ⟨fun ⟨x, h, z⟩ => ⟨x.1, x.2, h, ?_⟩, fun ⟨d, r, h, z⟩ => ⟨(d, r), h, ?_⟩⟩
  · obtain ⟨x1, x2⟩ := x
    rw [← ex_pair] at z
    cases x1 <;> first | exact z | (obtain ⟨_, _, h, q⟩ := z; cases h; exact q)
  · rw [← ex_pair]
    cases d <;> first | exact z | exact ⟨_, _, rfl, z⟩
def kDo (Q : Fl → En → Prop) (_ : D) (ρ : En) : Prop := Q .nx ρ
def kRet (o : Bool) (Q : Fl → En → Prop) (d : D) (ρ : En) : Prop := Q (.rt d o) ρ
def kSet (i : Nat) (Q : Fl → En → Prop) (d : D) (ρ : En) : Prop := Q .nx (ρ.set i (.fz d))
def kSetO (i : Nat) (Q : Fl → En → Prop) (d : D) (ρ : En) : Prop := Q .nx (ρ.set i (.ow d))
theorem wS_Do : wS (mDo m) ρ Q ↔ wM m ρ (kDo Q) := by
  unfold wS mDo
  rw [ex_pair, ex_map]
  exact ⟨fun ⟨x, h, z⟩ => ⟨x.1, x.2, h, z⟩, fun ⟨d, r, h, z⟩ => ⟨(d, r), h, z⟩⟩
theorem wS_Ret : wS (mRet m) ρ Q ↔ wM m ρ (kRet false Q) := by
  unfold wS mRet
  rw [ex_pair, ex_map]
  exact ⟨fun ⟨x, h, z⟩ => ⟨x.1, x.2, h, z⟩, fun ⟨d, r, h, z⟩ => ⟨(d, r), h, z⟩⟩
theorem wS_RetO : wS (mRetO m) ρ Q ↔ wM m ρ (kRet true Q) := by
  unfold wS mRetO
  rw [ex_pair, ex_map]
  exact ⟨fun ⟨x, h, z⟩ => ⟨x.1, x.2, h, z⟩, fun ⟨d, r, h, z⟩ => ⟨(d, r), h, z⟩⟩
theorem wS_Set {i : Nat} : wS (mSet i m) ρ Q ↔ wM m ρ (kSet i Q) := by
  unfold wS mSet
  rw [ex_pair, ex_map]
  exact ⟨fun ⟨x, h, z⟩ => ⟨x.1, x.2, h, z⟩, fun ⟨d, r, h, z⟩ => ⟨(d, r), h, z⟩⟩
theorem wS_SetO {i : Nat} : wS (mSetO i m) ρ Q ↔ wM m ρ (kSetO i Q) := by
  unfold wS mSetO
  rw [ex_pair, ex_map]
  exact ⟨fun ⟨x, h, z⟩ => ⟨x.1, x.2, h, z⟩, fun ⟨d, r, h, z⟩ => ⟨(d, r), h, z⟩⟩
def kIfS (a b : MS) (Q : Fl → En → Prop) : Bool → En → Prop
  | true, ρ => wS a ρ Q
  | false, ρ => wS b ρ Q
theorem wS_If : wS (mIfS c a b) ρ Q ↔ wT c ρ (kIfS a b Q) := by
  unfold wS mIfS
  rw [ex_pair, ex_bind]
  refine ⟨fun ⟨x, h, z⟩ => ⟨x.1, x.2, h, ?_⟩, fun ⟨d, r, h, z⟩ => ⟨(d, r), h, ?_⟩⟩
  · obtain ⟨x1, x2⟩ := x
    rw [← ex_pair] at z
    cases x1 <;> exact z
  · rw [← ex_pair]
    cases d <;> exact z
theorem wAF_nil {Q : List (Bool × D) → En → Prop} : wAF [] ρ Q ↔ Q [] ρ := ⟨fun ⟨_, _, h, q⟩ => by cases h; exact q, fun q => ⟨_, _, rfl, q⟩⟩
def kAF2 (b : Bool) (x : D) (Q : List (Bool × D) → En → Prop) (ds : List (Bool × D)) (ρ : En) : Prop := Q ((b, x) :: ds) ρ
def kAF1 (b : Bool) (ms : List (Bool × M)) (Q : List (Bool × D) → En → Prop) (x : D) (ρ : En) : Prop := wAF ms ρ (kAF2 b x Q)
theorem wAF_cons {b : Bool} {ms : List (Bool × M)} {Q : List (Bool × D) → En → Prop} : wAF ((b, m) :: ms) ρ Q ↔ wM m ρ (kAF1 b ms Q) := by
  unfold wAF mArgs
  rw [ex_pair, ex_bind]
  refine ⟨fun ⟨x, h, z⟩ => ⟨x.1, x.2, h, ?_⟩, fun ⟨d, r, h, z⟩ => ⟨(d, r), h, ?_⟩⟩
  · rw [ex_map] at z
    obtain ⟨y, h2, z⟩ := z
    exact ⟨y.1, y.2, h2, z⟩
  · obtain ⟨y, r2, h2, z⟩ := z
    rw [ex_map]
    exact ⟨(y, r2), h2, z⟩
def kPar (is : List Nat) (Q : Fl → En → Prop) (rs : List (Bool × D)) (ρ : En) : Prop := Q .nx (setAll is rs ρ)
theorem wS_Par {is : List Nat} {ms : List (Bool × M)} : wS (mPar is ms) ρ Q ↔ wAF ms ρ (kPar is Q) := by
  unfold wS mPar
  rw [ex_pair, ex_map]
  exact ⟨fun ⟨x, h, z⟩ => ⟨x.1, x.2, h, z⟩, fun ⟨d, r, h, z⟩ => ⟨(d, r), h, z⟩⟩
theorem setAll_nil : setAll [] [] ρ = ρ := rfl
theorem setAll_fz {i : Nat} {is : List Nat} {d : D} {rs : List (Bool × D)} : setAll (i :: is) ((false, d) :: rs) ρ = setAll is rs (ρ.set i (.fz d)) := rfl
theorem setAll_ow {i : Nat} {is : List Nat} {d : D} {rs : List (Bool × D)} : setAll (i :: is) ((true, d) :: rs) ρ = setAll is rs (ρ.set i (.ow d)) := rfl
def kNx (Q : Fl → En → Prop) (ρ : En) : Prop := Q .nx ρ
def kUnp (g : MG) (Q : Fl → En → Prop) (d : D) (ρ : En) : Prop := wG g d ρ (kNx Q)
theorem wS_Unp {g : MG} : wS (mUnp m g) ρ Q ↔ wM m ρ (kUnp g Q) := by
  unfold wS mUnp
  rw [ex_pair, ex_bind]
  refine ⟨fun ⟨x, h, z⟩ => ⟨x.1, x.2, h, ?_⟩, fun ⟨d, r, h, z⟩ => ⟨(d, r), h, ?_⟩⟩
  · rw [ex_map] at z
    exact z
  · rw [ex_map]
    exact z
theorem wG_N {i : Nat} {d : D} {Q : En → Prop} : wG (gN i) d ρ Q ↔ Q (ρ.set i (.fz d)) := ⟨fun ⟨_, h, q⟩ => by cases h; exact q, fun q => ⟨_, rfl, q⟩⟩
theorem wG_T {gs : List MG} {ds : List D} {Q : En → Prop} : wG (gT gs) (.tuple ds) ρ Q ↔ wGs gs ds ρ Q := Iff.rfl
theorem wGs_nil {Q : En → Prop} : wGs [] [] ρ Q ↔ Q ρ := ⟨fun ⟨_, h, q⟩ => by cases h; exact q, fun q => ⟨_, rfl, q⟩⟩
def kGs (gs : List MG) (ds : List D) (Q : En → Prop) (ρ : En) : Prop := wGs gs ds ρ Q
theorem wGs_cons {g : MG} {gs : List MG} {d : D} {ds : List D} {Q : En → Prop} : wGs (g :: gs) (d :: ds) ρ Q ↔ wG g d ρ (kGs gs ds Q) := by
  unfold wGs
  rw [gTs, ex_bind]; rfl
def kSt4 (i : Nat) (Q : Fl → En → Prop) (ρ : En) (d : D) : Prop := Q .nx (putD ρ i d)
def kSt3 (i : Nat) (k v : D) (Q : Fl → En → Prop) (ρ : En) (x : D) : Prop := wO (dSetA x k v) (kSt4 i Q ρ)
def kSt2 (i : Nat) (v : D) (Q : Fl → En → Prop) (k : D) (ρ : En) : Prop := wO (ownD ρ i) (kSt3 i k v Q ρ)
def kSt1 (i : Nat) (mi : M) (v : D) (Q : Fl → En → Prop) (ρ : En) (_ : D) : Prop := wM mi ρ (kSt2 i v Q)
def kSt0 (i : Nat) (mi : M) (Q : Fl → En → Prop) (v : D) (ρ : En) : Prop := wO (slD ρ i) (kSt1 i mi v Q ρ)
theorem wS_SetA {i : Nat} {mi : M} : wS (mSetA i mi m) ρ Q ↔ wM m ρ (kSt0 i mi Q) := by
  unfold wS mSetA
  rw [ex_pair, ex_bind]
  refine ⟨fun ⟨x, h, z⟩ => ⟨x.1, x.2, h, ?_⟩, fun ⟨d, r, h, z⟩ => ⟨(d, r), h, ?_⟩⟩
  · rw [ex_bind] at z
    obtain ⟨y, h2, z⟩ := z
    rw [ex_bind] at z
    obtain ⟨w, h3, z⟩ := z
    rw [ex_bind] at z
    obtain ⟨u, h4, z⟩ := z
    rw [ex_map] at z
    obtain ⟨v, h5, z⟩ := z
    exact ⟨y, h2, w.1, w.2, h3, u, h4, v, h5, z⟩
  · obtain ⟨y, h2, w, r2, h3, u, h4, v, h5, z⟩ := z
    rw [ex_bind]
    refine ⟨y, h2, ?_⟩
    rw [ex_bind]
    refine ⟨(w, r2), h3, ?_⟩
    rw [ex_bind]
    refine ⟨u, h4, ?_⟩
    rw [ex_map]
    exact ⟨v, h5, z⟩
def kGS4 (i : Nat) (Q : En → Prop) (ρ : En) (d : D) : Prop := Q (putD ρ i d)
def kGS3 (i : Nat) (k v : D) (Q : En → Prop) (ρ : En) (x : D) : Prop := wO (dSetA x k v) (kGS4 i Q ρ)
def kGS2 (i : Nat) (v : D) (Q : En → Prop) (k : D) (ρ : En) : Prop := wO (ownD ρ i) (kGS3 i k v Q ρ)
def kGS1 (i : Nat) (mi : M) (v : D) (Q : En → Prop) (ρ : En) (_ : D) : Prop := wM mi ρ (kGS2 i v Q)
theorem wG_SubA {i : Nat} {mi : M} {v : D} {Q : En → Prop} : wG (gSubA i mi) v ρ Q ↔ wO (slD ρ i) (kGS1 i mi v Q ρ) := by
  unfold wG gSubA
  rw [ex_bind]
  refine ⟨fun ⟨x, h, z⟩ => ⟨x, h, ?_⟩, fun ⟨d, h, z⟩ => ⟨d, h, ?_⟩⟩
  · rw [ex_bind] at z
    obtain ⟨w, h3, z⟩ := z
    rw [ex_bind] at z
    obtain ⟨u, h4, z⟩ := z
    rw [ex_map] at z
    obtain ⟨v, h5, z⟩ := z
    exact ⟨w.1, w.2, h3, u, h4, v, h5, z⟩
  · obtain ⟨w, r2, h3, u, h4, v, h5, z⟩ := z
    rw [ex_bind]
    refine ⟨(w, r2), h3, ?_⟩
    rw [ex_bind]
    refine ⟨u, h4, ?_⟩
    rw [ex_map]
    exact ⟨v, h5, z⟩
def kAp3 (i : Nat) (v : D) (Q : Fl → En → Prop) (ρ : En) (x : D) : Prop := wO (dApp x v) (kSt4 i Q ρ)
def kAp2 (i : Nat) (Q : Fl → En → Prop) (v : D) (ρ : En) : Prop := wO (ownD ρ i) (kAp3 i v Q ρ)
def kAp1 (i : Nat) (m : M) (Q : Fl → En → Prop) (ρ : En) (x : D) : Prop := isL x = true ∧ wM m ρ (kAp2 i Q)
theorem wS_App {i : Nat} : wS (mApp i m) ρ Q ↔ wO (ownD ρ i) (kAp1 i m Q ρ) := by
  unfold wS mApp
  rw [ex_pair, ex_bind]
  refine ⟨fun ⟨x, h, z⟩ => ⟨x, h, ?_⟩, fun ⟨x, h, z⟩ => ⟨x, h, ?_⟩⟩
  · by_cases hl : isL x = true
    · rw [if_pos hl] at z
      refine ⟨hl, ?_⟩
      rw [ex_bind] at z
      obtain ⟨w, h3, z⟩ := z
      rw [ex_bind] at z
      obtain ⟨u, h4, z⟩ := z
      rw [ex_map] at z
      obtain ⟨v, h5, z⟩ := z
      exact ⟨w.1, w.2, h3, u, h4, v, h5, z⟩
    · rw [if_neg hl] at z
      obtain ⟨_, h, _⟩ := z
      cases h
  · obtain ⟨hl, w, r2, h3, u, h4, v, h5, z⟩ := z
    rw [if_pos hl, ex_bind]
    refine ⟨(w, r2), h3, ?_⟩
    rw [ex_bind]
    refine ⟨u, h4, ?_⟩
    rw [ex_map]
    exact ⟨v, h5, z⟩
def kAug2 (i : Nat) (Q : Fl → En → Prop) (ρ : En) (z : D) : Prop := Q .nx (ρ.set i (.fz z))
def kAug1 (i : Nat) (g : D → D → Option D) (x : D) (Q : Fl → En → Prop) (y : D) (ρ : En) : Prop := wO (g x y) (kAug2 i Q ρ)
def kAug (i : Nat) (g : D → D → Option D) (m : M) (Q : Fl → En → Prop) (ρ : En) : Option Sl → Prop
  | some (.fz x) => wM m ρ (kAug1 i g x Q)
  | _ => False
theorem wS_Aug {i : Nat} {g : D → D → Option D} : wS (mAug i g m) ρ Q ↔ kAug i g m Q ρ ρ[i]? := by
  unfold wS mAug
  cases ρ[i]? with
  | none => exact ⟨fun ⟨_, _, h, q⟩ => (by cases h), False.elim⟩
  | some s =>
    cases s with
    | fz x =>
      dsimp only
      rw [ex_pair, ex_bind]
      refine ⟨fun ⟨y, h, z⟩ => ⟨y.1, y.2, h, ?_⟩, fun ⟨d, r, h, z⟩ => ⟨(d, r), h, ?_⟩⟩
      · rw [ex_map] at z
        exact z
      · rw [ex_map]
        exact z
    | emp => exact ⟨fun ⟨_, _, h, q⟩ => (by cases h), False.elim⟩
    | ow d => exact ⟨fun ⟨_, _, h, q⟩ => (by cases h), False.elim⟩
    | io d => exact ⟨fun ⟨_, _, h, q⟩ => (by cases h), False.elim⟩
/-! loops -/
def kFor (g : MG) (b : MS) (Q : Fl → En → Prop) (ds : List D) (ρ : En) : Prop := wS (forL g b ds) ρ Q
theorem wS_For {it : MI} {g : MG} : wS (mFor it g b) ρ Q ↔ wI it ρ (kFor g b Q) := by
  unfold wS mFor
  rw [ex_pair, ex_bind]
  refine ⟨fun ⟨x, h, z⟩ => ⟨x.1, x.2, h, ?_⟩, fun ⟨d, r, h, z⟩ => ⟨(d, r), h, ?_⟩⟩
  · rw [← ex_pair] at z
    exact z
  · rw [← ex_pair]
    exact z
theorem wS_for0 {g : MG} : wS (forL g b []) ρ Q ↔ Q .nx ρ := ⟨fun ⟨_, _, h, q⟩ => by cases h; exact q, fun q => ⟨_, _, rfl, q⟩⟩
def kF2 (g : MG) (b : MS) (xs : List D) (Q : Fl → En → Prop) : Fl → En → Prop
  | .nx, ρ => wS (forL g b xs) ρ Q
  | .ct, ρ => wS (forL g b xs) ρ Q
  | .bk, ρ => Q .nx ρ
  | .rt d o, ρ => Q (.rt d o) ρ
def kF1 (g : MG) (b : MS) (xs : List D) (Q : Fl → En → Prop) (ρ : En) : Prop := wS b ρ (kF2 g b xs Q)
theorem wS_for1 {g : MG} {x : D} {xs : List D} : wS (forL g b (x :: xs)) ρ Q ↔ wG g x ρ (kF1 g b xs Q) := by
  unfold wS
  rw [forL, ex_pair, ex_bind]
  refine ⟨fun ⟨r, h, z⟩ => ⟨r, h, ?_⟩, fun ⟨r, h, z⟩ => ⟨r, h, ?_⟩⟩
  · rw [ex_bind] at z
    obtain ⟨⟨f, r2⟩, h2, z⟩ := z
    refine ⟨f, r2, h2, ?_⟩
    rw [← ex_pair] at z
    cases f <;> first | exact z | (obtain ⟨_, _, h, q⟩ := z; cases h; exact q)
  · obtain ⟨f, r2, h2, z⟩ := z
    rw [ex_bind]
    refine ⟨(f, r2), h2, ?_⟩
    rw [← ex_pair]
    cases f <;> first | exact z | exact ⟨_, _, rfl, z⟩
/-- a loop by an invariant: I xs ρ with xs still to come -/
theorem wS_forI {g : MG} (I : List D → En → Prop) : ∀ {xs : List D} {ρ : En}, I xs ρ → (∀ x xs ρ, I (x :: xs) ρ → wG g x ρ (fun ρ1 => wS b ρ1 fun f ρ2 => match f with
    | .nx => I xs ρ2
    | .ct => I xs ρ2
    | .bk => Q .nx ρ2
    | .rt d o => Q (.rt d o) ρ2)) → (∀ ρ, I [] ρ → Q .nx ρ) → wS (forL g b xs) ρ Q
  | [], ρ, h, hs, he => wS_for0.mpr (he ρ h)
  | x :: xs, ρ, h, hs, he => by
    rw [wS_for1]
    obtain ⟨r, h1, f, r2, h2, z⟩ := hs x xs ρ h
    refine ⟨r, h1, f, r2, h2, ?_⟩
    cases f with
    | nx => exact wS_forI I z hs he
    | ct => exact wS_forI I z hs he
    | bk => exact z
    | rt d o => exact z
def kW2 (c : MT) (b : MS) (n : Nat) (Q : Fl → En → Prop) : Fl → En → Prop
  | .nx, ρ => wS (whileL c b n) ρ Q
  | .ct, ρ => wS (whileL c b n) ρ Q
  | .bk, ρ => Q .nx ρ
  | .rt d o, ρ => Q (.rt d o) ρ
def kW1 (c : MT) (b : MS) (n : Nat) (Q : Fl → En → Prop) : Bool → En → Prop
  | true, ρ => wS b ρ (kW2 c b n Q)
  | false, ρ => Q .nx ρ
theorem wS_while {n : Nat} : wS (whileL c b (n + 1)) ρ Q ↔ wT c ρ (kW1 c b n Q) := by
  unfold wS
  rw [whileL, ex_pair, ex_bind]
  refine ⟨fun ⟨r, h, z⟩ => ⟨r.1, r.2, h, ?_⟩, fun ⟨d, r, h, z⟩ => ⟨(d, r), h, ?_⟩⟩
  · obtain ⟨t, r⟩ := r
    cases t with
    | false => obtain ⟨_, h, q⟩ := z; cases h; exact q
    | true =>
      dsimp only at z
      rw [if_pos rfl, ex_bind] at z
      obtain ⟨⟨f, r2⟩, h2, z⟩ := z
      refine ⟨f, r2, h2, ?_⟩
      rw [← ex_pair] at z
      cases f <;> first | exact z | (obtain ⟨_, _, h, q⟩ := z; cases h; exact q)
  · cases d with
    | false => exact ⟨_, rfl, z⟩
    | true =>
      obtain ⟨f, r2, h2, z⟩ := z
      dsimp only
      rw [if_pos rfl, ex_bind]
      refine ⟨(f, r2), h2, ?_⟩
      rw [← ex_pair]
      cases f <;> first | exact z | exact ⟨_, _, rfl, z⟩
/-- a while by an invariant with a measure -/
theorem wS_whileI (I : Nat → En → Prop) : ∀ {n : Nat} {ρ : En} {k : Nat}, I k ρ → k < n → (∀ k ρ, I k ρ → wT c ρ fun t ρ1 => match t with
    | true => wS b ρ1 fun f ρ2 => match f with
      | .nx => ∃ j, j < k ∧ I j ρ2
      | .ct => ∃ j, j < k ∧ I j ρ2
      | .bk => Q .nx ρ2
      | .rt d o => Q (.rt d o) ρ2
    | false => Q .nx ρ1) → wS (whileL c b n) ρ Q
  | 0, ρ, k, h, hk, hs => by omega
  | n + 1, ρ, k, h, hk, hs => by
    rw [wS_while]
    obtain ⟨t, r1, h1, z⟩ := hs k ρ h
    refine ⟨t, r1, h1, ?_⟩
    cases t with
    | false => exact z
    | true =>
      obtain ⟨f, r2, h2, z⟩ := z
      refine ⟨f, r2, h2, ?_⟩
      cases f with
      | nx => obtain ⟨j, hj, z⟩ := z; exact wS_whileI I z (by omega) hs
      | ct => obtain ⟨j, hj, z⟩ := z; exact wS_whileI I z (by omega) hs
      | bk => exact z
      | rt d o => exact z
/-! what is walked -/
variable {Qi : List D → En → Prop} {e e2 : M}
def kOf (g : D → Option (List D)) (Qi : List D → En → Prop) (d : D) (ρ : En) : Prop := wO (g d) (fun ds => Qi ds ρ)
theorem wI_Of {g : D → Option (List D)} : wI (iOf g e) ρ Qi ↔ wM e ρ (kOf g Qi) := by
  unfold wI iOf
  rw [ex_pair, ex_bind]
  refine ⟨fun ⟨x, h, z⟩ => ⟨x.1, x.2, h, ?_⟩, fun ⟨d, r, h, z⟩ => ⟨(d, r), h, ?_⟩⟩
  · rw [ex_map] at z
    exact z
  · rw [ex_map]
    exact z
def kRange1 (Qi : List D → En → Prop) : D → En → Prop
  | .int n, ρ => (-(2 ^ 62) ≤ n ∧ n < 2 ^ 62) ∧ Qi ((List.range n.toNat).map fun i => .int (i : Nat)) ρ
  | _, _ => False
theorem wI_Range1 : wI (iRange1 e) ρ Qi ↔ wM e ρ (kRange1 Qi) := by
  unfold wI iRange1
  rw [ex_pair, ex_bind]
  refine ⟨fun ⟨x, h, z⟩ => ⟨x.1, x.2, h, ?_⟩, fun ⟨d, r, h, z⟩ => ⟨(d, r), h, ?_⟩⟩
  · obtain ⟨x1, x2⟩ := x
    obtain ⟨w, h, q⟩ := z
    cases x1 with
    | int n =>
      obtain ⟨h1, h2⟩ := ite_some h
      subst h2
      exact ⟨h1, q⟩
    | _ => cases h
  · cases d with
    | int n => exact ⟨_, if_pos z.1, z.2⟩
    | _ => exact z.elim
def kRange2b (i : D) (Qi : List D → En → Prop) : D → En → Prop
  | .int j, ρ => (match i with
    | .int i => (-(2 ^ 62) ≤ i ∧ i < 2 ^ 62 ∧ -(2 ^ 62) ≤ j ∧ j < 2 ^ 62) ∧ Qi ((List.range (j - i).toNat).map fun k => .int (i + (k : Nat))) ρ
    | _ => False)
  | _, _ => False
def kRange2 (e2 : M) (Qi : List D → En → Prop) (i : D) (ρ : En) : Prop := wM e2 ρ (kRange2b i Qi)
theorem wI_Range2 : wI (iRange2 e e2) ρ Qi ↔ wM e ρ (kRange2 e2 Qi) := by
  unfold wI iRange2
  rw [ex_pair, ex_bind]
  refine ⟨fun ⟨x, h, z⟩ => ⟨x.1, x.2, h, ?_⟩, fun ⟨d, r, h, z⟩ => ⟨(d, r), h, ?_⟩⟩
  · rw [ex_bind] at z
    obtain ⟨y, h2, z⟩ := z
    refine ⟨y.1, y.2, h2, ?_⟩
    obtain ⟨x1, x2⟩ := x
    obtain ⟨y1, y2⟩ := y
    obtain ⟨w, h, q⟩ := z
    cases x1 with
    | int i =>
      cases y1 with
      | int j =>
        obtain ⟨h1, h2⟩ := ite_some h
        subst h2
        exact ⟨h1, q⟩
      | _ => cases h
    | _ => cases y1 <;> cases h
  · obtain ⟨y, r2, h2, z⟩ := z
    rw [ex_bind]
    refine ⟨(y, r2), h2, ?_⟩
    cases y with
    | int j =>
      cases d with
      | int i => exact ⟨_, if_pos z.1, z.2⟩
      | _ => exact z.elim
    | _ => exact z.elim
def enumD (ds : List D) : List D := ((List.range ds.length).zip ds).map fun z => .tuple [.int (z.1 : Nat), z.2]
def zipD (xs ys : List D) : List D := (xs.zip ys).map fun z => .tuple [z.1, z.2]
def kEn (Qi : List D → En → Prop) (d : D) (ρ : En) : Prop := wO (dSq d) (fun ds => Qi (enumD ds) ρ)
theorem wI_En : wI (iEn e) ρ Qi ↔ wM e ρ (kEn Qi) := by
  unfold wI iEn
  rw [ex_pair, ex_bind]
  refine ⟨fun ⟨x, h, z⟩ => ⟨x.1, x.2, h, ?_⟩, fun ⟨d, r, h, z⟩ => ⟨(d, r), h, ?_⟩⟩
  · rw [ex_map] at z
    exact z
  · rw [ex_map]
    exact z
def kZp3 (xs : List D) (Qi : List D → En → Prop) (ρ : En) (ys : List D) : Prop := Qi (zipD xs ys) ρ
def kZp2b (y : D) (Qi : List D → En → Prop) (ρ : En) (xs : List D) : Prop := wO (dSq y) (kZp3 xs Qi ρ)
def kZp2 (x : D) (Qi : List D → En → Prop) (y : D) (ρ : En) : Prop := wO (dSq x) (kZp2b y Qi ρ)
def kZp1 (b : M) (Qi : List D → En → Prop) (x : D) (ρ : En) : Prop := wM b ρ (kZp2 x Qi)
theorem wI_Zp : wI (iZp e e2) ρ Qi ↔ wM e ρ (kZp1 e2 Qi) := by
  unfold wI iZp
  rw [ex_pair, ex_bind]
  refine ⟨fun ⟨x, h, z⟩ => ⟨x.1, x.2, h, ?_⟩, fun ⟨d, r, h, z⟩ => ⟨(d, r), h, ?_⟩⟩
  · rw [ex_bind] at z
    obtain ⟨y, h2, z⟩ := z
    rw [ex_bind] at z
    obtain ⟨w, h3, z⟩ := z
    rw [ex_map] at z
    obtain ⟨u, h4, z⟩ := z
    exact ⟨y.1, y.2, h2, w, h3, u, h4, z⟩
  · obtain ⟨y, r2, h2, w, h3, u, h4, z⟩ := z
    rw [ex_bind]
    refine ⟨(y, r2), h2, ?_⟩
    rw [ex_bind]
    refine ⟨w, h3, ?_⟩
    rw [ex_map]
    exact ⟨u, h4, z⟩
def kRevs (Qi : List D → En → Prop) (d : D) (ρ : En) : Prop := wO (dSeq d) (fun ds => Qi ds.reverse ρ)
theorem wI_Revs : wI (iRevs e) ρ Qi ↔ wM e ρ (kRevs Qi) := by
  unfold wI iRevs
  rw [ex_pair, ex_bind]
  refine ⟨fun ⟨x, h, z⟩ => ⟨x.1, x.2, h, ?_⟩, fun ⟨d, r, h, z⟩ => ⟨(d, r), h, ?_⟩⟩
  · rw [ex_map] at z
    exact z
  · rw [ex_map]
    exact z
theorem wI_Con {ds : List D} : wI (iCon ds) ρ Qi ↔ Qi ds ρ := ⟨fun ⟨_, _, h, q⟩ => by cases h; exact q, fun q => ⟨_, _, rfl, q⟩⟩
/-! comprehensions -/
def wC (g : MG) (t : MT) (e : M) (vs : List Nat) (ds : List D) (ρ : En) (Q : List D → En → Prop) : Prop := ∃ r ρ', compL g t e vs ds ρ = some (r, ρ') ∧ Q r ρ'
def kLi (Q : D → En → Prop) (r : List D) (ρ : En) : Prop := Q (.list r) ρ
def kComp (g : MG) (t : MT) (e : M) (vs : List Nat) (Q : D → En → Prop) (ds : List D) (ρ : En) : Prop := ds.length ≤ 16777216 ∧ wC g t e vs ds (wipeE ρ vs) (kLi Q)
theorem wM_Comp {it : MI} {g : MG} {t : MT} {vs : List Nat} {Q : D → En → Prop} : wM (mComp it g t e vs) ρ Q ↔ wI it ρ (kComp g t e vs Q) := by
  unfold wM mComp
  rw [ex_pair, ex_bind]
  refine ⟨fun ⟨x, h, z⟩ => ⟨x.1, x.2, h, ?_⟩, fun ⟨d, r, h, z⟩ => ⟨(d, r), h, ?_⟩⟩
  · by_cases hl : x.1.length ≤ 16777216
    · rw [if_pos hl, ex_map] at z
      obtain ⟨y, h2, z⟩ := z
      exact ⟨hl, y.1, y.2, h2, z⟩
    · rw [if_neg hl] at z
      obtain ⟨_, h, _⟩ := z
      cases h
  · obtain ⟨hl, y, r2, h2, z⟩ := z
    rw [if_pos hl, ex_map]
    exact ⟨(y, r2), h2, z⟩
theorem wC_nil {g : MG} {t : MT} {vs : List Nat} {Q : List D → En → Prop} : wC g t e vs [] ρ Q ↔ Q [] ρ := ⟨fun ⟨_, _, h, q⟩ => by cases h; exact q, fun q => ⟨_, _, rfl, q⟩⟩
def kCo3 (y : D) (Q : List D → En → Prop) (r : List D) (ρ : En) : Prop := Q (y :: r) ρ
def kCo2 (g : MG) (t : MT) (e : M) (vs : List Nat) (xs : List D) (Q : List D → En → Prop) (y : D) (ρ : En) : Prop := wC g t e vs xs (wipeE ρ vs) (kCo3 y Q)
def kCo1 (g : MG) (t : MT) (e : M) (vs : List Nat) (xs : List D) (Q : List D → En → Prop) : Bool → En → Prop
  | true, ρ => wM e ρ (kCo2 g t e vs xs Q)
  | false, ρ => wC g t e vs xs (wipeE ρ vs) Q
def kCo0 (g : MG) (t : MT) (e : M) (vs : List Nat) (xs : List D) (Q : List D → En → Prop) (ρ : En) : Prop := wT t ρ (kCo1 g t e vs xs Q)
theorem wC_cons {g : MG} {t : MT} {vs : List Nat} {x : D} {xs : List D} {Q : List D → En → Prop} : wC g t e vs (x :: xs) ρ Q ↔ wG g x ρ (kCo0 g t e vs xs Q) := by
  unfold wC
  rw [compL, ex_pair, ex_bind]
  refine ⟨fun ⟨r, h, z⟩ => ⟨r, h, ?_⟩, fun ⟨r, h, z⟩ => ⟨r, h, ?_⟩⟩
  · rw [ex_bind] at z
    obtain ⟨⟨f, r2⟩, h2, z⟩ := z
    refine ⟨f, r2, h2, ?_⟩
    cases f with
    | false =>
      dsimp only at z
      rw [if_neg (by decide), ← ex_pair] at z
      exact z
    | true =>
      dsimp only at z
      rw [if_pos rfl, ex_bind] at z
      obtain ⟨⟨y, r3⟩, h3, z⟩ := z
      rw [ex_map] at z
      obtain ⟨⟨u, r4⟩, h4, z⟩ := z
      exact ⟨y, r3, h3, u, r4, h4, z⟩
  · obtain ⟨f, r2, h2, z⟩ := z
    rw [ex_bind]
    refine ⟨(f, r2), h2, ?_⟩
    cases f with
    | false =>
      dsimp only
      rw [if_neg (by decide), ← ex_pair]
      exact z
    | true =>
      obtain ⟨y, r3, h3, u, r4, h4, z⟩ := z
      dsimp only
      rw [if_pos rfl, ex_bind]
      refine ⟨(y, r3), h3, ?_⟩
      rw [ex_map]
      exact ⟨(u, r4), h4, z⟩
/-- a comprehension that keeps the slots: what each item gives -/
def stepC (g : MG) (t : MT) (e : M) (vs : List Nat) (ρ : En) (x : D) (r : Option D) : Prop := wG g x ρ fun ρ1 => wT t ρ1 fun b ρ2 => match b with
  | true => wM e ρ2 fun y ρ3 => r = some y ∧ wipeE ρ3 vs = ρ
  | false => r = none ∧ wipeE ρ2 vs = ρ
theorem wC_map {g : MG} {t : MT} {vs : List Nat} {Q : List D → En → Prop} (f : D → Option D) : ∀ {xs : List D}, (∀ x ∈ xs, stepC g t e vs ρ x (f x)) → Q (xs.filterMap f) ρ → wC g t e vs xs ρ Q
  | [], _, q => wC_nil.mpr q
  | x :: xs, h, q => by
    rw [wC_cons]
    obtain ⟨r, h1, b, r2, h2, z⟩ := h x List.mem_cons_self
    refine ⟨r, h1, b, r2, h2, ?_⟩
    have hx := fun y hy => h y (List.mem_cons_of_mem _ hy)
    cases b with
    | true =>
      obtain ⟨y, r3, h3, e1, e2⟩ := z
      refine ⟨y, r3, h3, ?_⟩
      unfold kCo2
      rw [e2]
      refine wC_map f hx ?_
      unfold kCo3
      rw [List.filterMap_cons, e1] at q
      exact q
    | false =>
      obtain ⟨e1, e2⟩ := z
      show wC g t e vs xs (wipeE r2 vs) Q
      rw [e2]
      refine wC_map f hx ?_
      rw [List.filterMap_cons, e1] at q
      exact q
/-- .. over a list of things that stand for data -/
theorem wC_maps {α : Type} {g : MG} {t : MT} {vs : List Nat} {Q : List D → En → Prop} (f h : α → D) : ∀ {xs : List α}, (∀ x ∈ xs, stepC g t e vs ρ (f x) (some (h x))) → Q (xs.map h) ρ → wC g t e vs (xs.map f) ρ Q := fun {xs} hs q => by
  induction xs generalizing Q with
  | nil => exact wC_nil.mpr q
  | cons x xs ih =>
    rw [List.map_cons, wC_cons]
    obtain ⟨r, h1, b, r2, h2, z⟩ := hs x List.mem_cons_self
    refine ⟨r, h1, b, r2, h2, ?_⟩
    cases b with
    | true =>
      obtain ⟨y, r3, h3, e1, e2⟩ := z
      refine ⟨y, r3, h3, ?_⟩
      unfold kCo2
      rw [e2]
      cases e1
      exact ih (Q := kCo3 (h x) Q) (fun y hy => hs y (List.mem_cons_of_mem _ hy)) q
    | false =>
      obtain ⟨e1, e2⟩ := z
      cases e1
theorem wC_filt {α : Type} {g : MG} {t : MT} {vs : List Nat} {Q : List D → En → Prop} (f h : α → D) (p : α → Bool) : ∀ {xs : List α}, (∀ x ∈ xs, stepC g t e vs ρ (f x) (if p x then some (h x) else none)) → Q ((xs.filter p).map h) ρ → wC g t e vs (xs.map f) ρ Q := fun {xs} hs q => by
  induction xs generalizing Q with
  | nil => exact wC_nil.mpr q
  | cons x xs ih =>
    rw [List.map_cons, wC_cons]
    obtain ⟨r, h1, b, r2, h2, z⟩ := hs x List.mem_cons_self
    refine ⟨r, h1, b, r2, h2, ?_⟩
    have hr := fun y hy => hs y (List.mem_cons_of_mem x hy)
    cases b with
    | true =>
      obtain ⟨y, r3, h3, e1, e2⟩ := z
      refine ⟨y, r3, h3, ?_⟩
      unfold kCo2
      rw [e2]
      cases hp : p x with
      | true =>
        rw [hp, if_pos rfl] at e1
        cases e1
        rw [List.filter_cons_of_pos hp] at q
        exact ih (Q := kCo3 (h x) Q) hr q
      | false =>
        rw [hp] at e1
        cases e1
    | false =>
      obtain ⟨e1, e2⟩ := z
      cases hp : p x with
      | true =>
        rw [hp, if_pos rfl] at e1
        cases e1
      | false =>
        rw [List.filter_cons_of_neg (by rw [hp]; decide)] at q
        show wC g t e vs _ (wipeE r2 vs) Q
        rw [e2]
        exact ih hr q
/-- a comprehension by an invariant: done, to come -/
theorem wC_inv {g : MG} {t : MT} {vs : List Nat} (I : List D → List D → En → Prop) : ∀ {xs ys : List D} {ρ : En} {Q : List D → En → Prop}, I ys xs ρ → (∀ ys x xs ρ, I ys (x :: xs) ρ → wG g x ρ fun ρ1 => wT t ρ1 fun b ρ2 => match b with
    | true => wM e ρ2 fun y ρ3 => I (ys ++ [y]) xs (wipeE ρ3 vs)
    | false => I ys xs (wipeE ρ2 vs)) → (∀ zs ρ, I (ys ++ zs) [] ρ → Q zs ρ) → wC g t e vs xs ρ Q
  | [], ys, ρ, Q, h, hs, q => wC_nil.mpr (q [] ρ (by rw [List.append_nil]; exact h))
  | x :: xs, ys, ρ, Q, h, hs, q => by
    rw [wC_cons]
    obtain ⟨r, h1, b, r2, h2, z⟩ := hs ys x xs ρ h
    refine ⟨r, h1, b, r2, h2, ?_⟩
    cases b with
    | true =>
      obtain ⟨y, r3, h3, z⟩ := z
      refine ⟨y, r3, h3, ?_⟩
      refine wC_inv I z hs fun zs ρ hz => ?_
      refine q (y :: zs) ρ ?_
      rw [List.append_assoc] at hz
      exact hz
    | false => exact wC_inv I z hs q
end
/-! ### functions -/
def retF : Fl → Option (D × Bool)
  | .rt d o => some (d, o)
  | .nx => some (.none, false)
  | _ => none
def kRun (Q : D → Bool → Prop) : Fl → En → Prop
  | .rt d o, _ => Q d o
  | .nx, _ => Q .none false
  | _, _ => False
theorem wF_run {n : Nat} {b : MS} {ds : List D} {Q : D → Bool → Prop} : wF (runF n b) ds Q ↔ wS b (ent n ds) (kRun Q) := by
  unfold wF runF
  constructor
  · rintro ⟨d, o, h, q⟩
    cases e : b (ent n ds) with
    | none => rw [e] at h; cases h
    | some p =>
      obtain ⟨f, r⟩ := p
      rw [e] at h
      refine ⟨f, r, e, ?_⟩
      cases f <;> first | (cases h; exact q) | cases h
  · rintro ⟨f, r, e, q⟩
    rw [e]
    cases f with
    | rt d o => exact ⟨d, o, rfl, q⟩
    | nx => exact ⟨_, _, rfl, q⟩
    | _ => exact q.elim
def kRunI2 (Q : D → Bool → D → Prop) (d : D) (o : Bool) : Option Sl → Prop
  | some (.io row) => Q d o row
  | _ => False
def kRunI (Q : D → Bool → D → Prop) : Fl → En → Prop
  | .rt d o, ρ => kRunI2 Q d o ρ[0]?
  | .nx, ρ => kRunI2 Q .none false ρ[0]?
  | _, _ => False
theorem wFI_run {n : Nat} {b : MS} {row : D} {ds : List D} {Q : D → Bool → D → Prop} (h : wS b (.io row :: ent (n - 1) ds) (kRunI Q)) : wFI (runI n b) row ds Q := by
  obtain ⟨f, r, e, q⟩ := h
  unfold wFI runI
  rw [e]
  cases f with
  | rt d o =>
    change kRunI2 Q d o r[0]? at q
    dsimp only
    cases e0 : r[0]? with
    | none => rw [e0] at q; exact q.elim
    | some s =>
      rw [e0] at q
      cases s with
      | io row' => exact ⟨d, o, row', rfl, q⟩
      | _ => exact q.elim
  | nx =>
    change kRunI2 Q .none false r[0]? at q
    dsimp only
    cases e0 : r[0]? with
    | none => rw [e0] at q; exact q.elim
    | some s =>
      rw [e0] at q
      cases s with
      | io row' => exact ⟨_, _, row', rfl, q⟩
      | _ => exact q.elim
  | _ => exact q.elim
theorem wF.mono {f : FS} {ds : List D} {Q Q' : D → Bool → Prop} (h : wF f ds Q) (k : ∀ d o, Q d o → Q' d o) : wF f ds Q' := by
  obtain ⟨d, o, e, q⟩ := h
  exact ⟨d, o, e, k _ _ q⟩
theorem wFI.mono {f : FSI} {row : D} {ds : List D} {Q Q' : D → Bool → D → Prop} (h : wFI f row ds Q) (k : ∀ d o r, Q d o r → Q' d o r) : wFI f row ds Q' := by
  obtain ⟨d, o, r, e, q⟩ := h
  exact ⟨d, o, r, e, k _ _ _ q⟩
theorem wS.mono {m : MS} {ρ : En} {Q Q' : Fl → En → Prop} (h : wS m ρ Q) (k : ∀ d o, Q d o → Q' d o) : wS m ρ Q' := by
  obtain ⟨d, o, e, q⟩ := h
  exact ⟨d, o, e, k _ _ q⟩
theorem wF_of {f : FS} {ds : List D} {d : D} {o : Bool} {Q : D → Bool → Prop} (h : f ds = some (d, o)) : wF f ds Q ↔ Q d o := ⟨fun ⟨d', o', e, q⟩ => by rw [h] at e; cases e; exact q, fun q => ⟨d, o, h, q⟩⟩
theorem wF_eq {f : FS} {ds : List D} {d : D} {o : Bool} (h : wF f ds fun d' o' => d' = d ∧ o' = o) : f ds = some (d, o) := by
  obtain ⟨d', o', e, rfl, rfl⟩ := h
  exact e
end MM
/-! M14: what the operations give on data of a known form. -/
namespace MM
open PySem L2
theorem ic {K : PySem.W.Frag} : True := trivial
theorem bInt_ii {g : Int → Int → Option Int} {i j : Int} : bInt g (.int i) (.int j) = (g i j).map .int := rfl
theorem bCmp_ii {p : Int → Int → Bool} {i j : Int} : bCmp p (.int i) (.int j) = some (.bool (p i j)) := rfl
theorem dAdd_ii {i j : Int} : dAdd (.int i) (.int j) = some (.int (i + j)) := rfl
theorem dAdd_ll {xs ys : List D} : dAdd (.list xs) (.list ys) = if xs.length + ys.length ≤ 16777216 then some (.list (xs ++ ys)) else none := rfl
theorem dAdd_tt {xs ys : List D} : dAdd (.tuple xs) (.tuple ys) = if xs.length + ys.length ≤ 16777216 then some (.tuple (xs ++ ys)) else none := rfl
theorem dAdd_ss {x y : Str} : dAdd (.str x) (.str y) = if x.length + y.length ≤ sizeLine then some (.str (x ++ y)) else none := rfl
theorem dIxA_l {ds : List D} {k : Int} : dIxA (.list ds) (.int k) = atI ds k := rfl
theorem dIxA_t {ds : List D} {k : Int} : dIxA (.tuple ds) (.int k) = atI ds k := rfl
theorem dIxA_s {x : Str} {k : Int} : dIxA (.str x) (.int k) = if x.length ≤ sizeLine then (atI x.cps.toList k).map fun c => .str ⟨#[c]⟩ else none := rfl
theorem dIxA_d {ds : List (D × D)} {y : D} : dIxA (.dict ds) y = (keyD y).bind (atK ds) := rfl
theorem atI_nat {α : Type} {xs : List α} {k : Nat} : atI xs (k : Int) = xs[k]? := by
  unfold atI
  by_cases h : k < xs.length
  · have : ixN xs.length (k : Int) = some k := by
      unfold ixN
      simp [h]
    rw [this]; rfl
  · rw [List.getElem?_eq_none (by omega)]
    have : ixN xs.length (k : Int) = none := by
      unfold ixN
      have h1 : ¬ ((k : Int) < xs.length) := by omega
      simp [h1, h]
    rw [this]; rfl
theorem atI_ofNat {α : Type} {xs : List α} {k : Nat} : atI xs (OfNat.ofNat k : Int) = xs[k]? := atI_nat
theorem atI_pos {α : Type} {xs : List α} {k : Int} (h : 0 ≤ k) : atI xs k = xs[k.toNat]? := by
  obtain ⟨n, rfl⟩ := Int.eq_ofNat_of_zero_le h
  exact atI_nat
theorem dLen_l {ds : List D} : dLen (.list ds) = some (.int ds.length) := rfl
theorem dLen_t {ds : List D} : dLen (.tuple ds) = some (.int ds.length) := rfl
theorem fInt_i {i : Int} : fInt [.int i] = some (.int i) := rfl
theorem fInt_b {b : Bool} : fInt [.bool b] = some (.int (if b then 1 else 0)) := rfl
theorem fTuple_l {ds : List D} : fTuple [.list ds] = some (.tuple ds) := rfl
theorem fTuple_t {ds : List D} : fTuple [.tuple ds] = some (.tuple ds) := rfl
theorem dNot_b {b : Bool} : dNot (.bool b) = some (.bool (!b)) := rfl
theorem dTru_b {b : Bool} : dTru (.bool b) = some b := rfl
theorem dTru_i {i : Int} : dTru (.int i) = some (i != 0) := rfl
theorem dSeq_l {ds : List D} : dSeq (.list ds) = some ds := rfl
theorem dSeq_t {ds : List D} : dSeq (.tuple ds) = some ds := rfl
theorem dSq_l {ds : List D} : dSq (.list ds) = some ds := rfl
theorem dSq_t {ds : List D} : dSq (.tuple ds) = some ds := rfl
theorem dSq_s {x : Str} : dSq (.str x) = some (x.cps.toList.map fun c => .str ⟨#[c]⟩) := rfl
theorem dSl_l {ds : List D} {l h : Option Int} : dSl (.list ds) l h = some (.list (cutD ds l h)) := rfl
theorem dSl_t {ds : List D} {l h : Option Int} : dSl (.tuple ds) l h = some (.tuple (cutD ds l h)) := rfl
theorem dSetA_l {ds : List D} {k : Int} {v : D} : dSetA (.list ds) (.int k) v = (ixN ds.length k).map fun j => .list (ds.set j v) := rfl
theorem ixN_nat {n k : Nat} (h : k < n) : ixN n (k : Int) = some k := by
  unfold ixN
  simp [h]
theorem ixN_pos {n : Nat} {k : Int} (h : 0 ≤ k) (h2 : k < n) : ixN n k = some k.toNat := by
  obtain ⟨m, rfl⟩ := Int.eq_ofNat_of_zero_le h
  exact ixN_nat (by omega)
theorem dApp_l {ds : List D} {v : D} : dApp (.list ds) v = if ds.length < 16777216 then some (.list (ds ++ [v])) else none := rfl
theorem isL_l {ds : List D} : isL (.list ds) = true := rfl
theorem dPop_l {ds : List D} : dPop (.list ds) = (ds[ds.length - 1]?).map fun d => (d, .list ds.dropLast) := rfl
theorem dPop_snoc {ds : List D} {d : D} : dPop (.list (ds ++ [d])) = some (d, .list ds) := by
  unfold dPop
  simp
theorem dRepL_li {xs : List D} {k : Int} : dRepL (.list xs) (.int k) = if xs.length * k.toNat ≤ 16777216 ∧ -(2 ^ 63) ≤ k ∧ k < 2 ^ 63 then some (.list (List.replicate k.toNat xs).flatten) else none := rfl
theorem dNeg_i {i : Int} : dNeg (.int i) = some (.int (-i)) := rfl
theorem dIsN_n : dIsN .none = some (.bool true) := rfl
theorem dIsN_i {i : Int} : dIsN (.int i) = some (.bool false) := rfl
theorem dBits_i {i : Int} : dBits (.int i) = some (.int (Builtin.Int.intBits i : Nat)) := rfl
/-! isinstance -/
theorem kit_ii : kitB "int" "int" = some true := by decide +kernel
theorem kit_ib : kitB "int" "bool" = some false := by decide +kernel
theorem kit_bi : kitB "bool" "int" = some true := by decide +kernel
theorem kit_bb : kitB "bool" "bool" = some true := by decide +kernel
theorem dIsi_int_int {i : Int} : dIsi "int" (.int i) = some (.bool true) := by unfold dIsi dTy; dsimp only; rw [kit_ii]; rfl
theorem dIsi_bool_int {i : Int} : dIsi "bool" (.int i) = some (.bool false) := by unfold dIsi dTy; dsimp only; rw [kit_ib]; rfl
theorem dIsi_tuple_tuple {ds : List D} : dIsi "tuple" (.tuple ds) = some (.bool true) := by
  unfold dIsi dTy; dsimp only
  have : kitB "tuple" "tuple" = some true := by decide +kernel
  rw [this]; rfl
theorem dIsi_tuple_list {ds : List D} : dIsi "tuple" (.list ds) = some (.bool false) := by
  unfold dIsi dTy; dsimp only
  have : kitB "list" "tuple" = some false := by decide +kernel
  rw [this]; rfl
theorem dIsi_str_str {x : Str} : dIsi "str" (.str x) = some (.bool true) := by
  unfold dIsi dTy; dsimp only
  have : kitB "str" "str" = some true := by decide +kernel
  rw [this]; rfl
theorem dIsi_int_str {x : Str} : dIsi "int" (.str x) = some (.bool false) := by
  unfold dIsi dTy; dsimp only
  have : kitB "str" "int" = some false := by decide +kernel
  rw [this]; rfl
theorem dIsi_tuple_int {x : Int} : dIsi "tuple" (.int x) = some (.bool false) := by
  unfold dIsi dTy; dsimp only
  have : kitB "int" "tuple" = some false := by decide +kernel
  rw [this]; rfl
/-! equality -/
def shq : Nat → D → Bool
  | _, .none => true
  | _, .bool _ => true
  | _, .int _ => true
  | _, .str x => PyData.strOk x
  | 0, _ => false
  | n + 1, .list ds => ds.all (shq n)
  | n + 1, .tuple ds => ds.all (shq n)
  | _ + 1, .dict _ => false
theorem shq_ok : ∀ (n : Nat), (∀ d : D, shq n d = true → d.canLay0 = true ∧ d.depth ≤ n) ∧ ∀ ds : List D, ds.all (shq n) = true → PyData.canLayAll0 ds = true ∧ PyData.depthAll ds ≤ n := by
  intro n
  induction n with
  | zero =>
    have h0 : ∀ d : D, shq 0 d = true → d.canLay0 = true ∧ d.depth ≤ 0 := fun d h => by
      cases d with
      | list ds => cases h
      | tuple ds => cases h
      | dict ds => cases h
      | none => exact ⟨by simp [PyData.canLay0], by simp [PyData.depth]⟩
      | bool b => exact ⟨by simp [PyData.canLay0], by simp [PyData.depth]⟩
      | int b => exact ⟨by simp [PyData.canLay0], by simp [PyData.depth]⟩
      | str b => exact ⟨by simpa [PyData.canLay0, shq] using h, by simp [PyData.depth]⟩
    refine ⟨h0, fun ds => ?_⟩
    induction ds with
    | nil => intro _; exact ⟨by simp [PyData.canLayAll0], by simp [PyData.depthAll]⟩
    | cons d ds ih =>
      intro h
      rw [List.all_cons, Bool.and_eq_true] at h
      obtain ⟨a1, a2⟩ := h0 d h.1
      obtain ⟨b1, b2⟩ := ih h.2
      exact ⟨by simp [PyData.canLayAll0, a1, b1], by simp only [PyData.depthAll]; omega⟩
  | succ n ih0 =>
    have h0 : ∀ d : D, shq (n + 1) d = true → d.canLay0 = true ∧ d.depth ≤ n + 1 := fun d h => by
      cases d with
      | list ds =>
        obtain ⟨a1, a2⟩ := ih0.2 ds h
        exact ⟨by simpa [PyData.canLay0] using a1, by simp only [PyData.depth]; omega⟩
      | tuple ds =>
        obtain ⟨a1, a2⟩ := ih0.2 ds h
        exact ⟨by simpa [PyData.canLay0] using a1, by simp only [PyData.depth]; omega⟩
      | dict ds => cases h
      | none => exact ⟨by simp [PyData.canLay0], by simp [PyData.depth]⟩
      | bool b => exact ⟨by simp [PyData.canLay0], by simp [PyData.depth]⟩
      | int b => exact ⟨by simp [PyData.canLay0], by simp [PyData.depth]⟩
      | str b => exact ⟨by simpa [PyData.canLay0, shq] using h, by simp [PyData.depth]⟩
    refine ⟨h0, fun ds => ?_⟩
    induction ds with
    | nil => intro _; exact ⟨by simp [PyData.canLayAll0], by simp [PyData.depthAll]⟩
    | cons d ds ih =>
      intro h
      rw [List.all_cons, Bool.and_eq_true] at h
      obtain ⟨a1, a2⟩ := h0 d h.1
      obtain ⟨b1, b2⟩ := ih h.2
      exact ⟨by simp [PyData.canLayAll0, a1, b1], by simp only [PyData.depthAll]; omega⟩
theorem shaped_of {d : D} (h : shq 64 d = true) : SeqAt.shaped d = true := by
  obtain ⟨a, b⟩ := (shq_ok 64).1 d h
  unfold SeqAt.shaped
  rw [a, decide_eq_true b]; rfl
theorem dEq_sh {a b : D} (ha : shq 64 a = true) (hb : shq 64 b = true) : dEq a b = some (.bool (PyData.eqv a b)) := by
  unfold dEq
  rw [shaped_of ha, shaped_of hb]; rfl
theorem dNe_sh {a b : D} (ha : shq 64 a = true) (hb : shq 64 b = true) : dNe a b = some (.bool (!PyData.eqv a b)) := by
  unfold dNe
  rw [shaped_of ha, shaped_of hb]; rfl
theorem wO_eq {a b : D} {Q : D → Prop} (ha : shq 64 a = true) (hb : shq 64 b = true) : wO (dEq a b) Q ↔ Q (.bool (PyData.eqv a b)) := by rw [dEq_sh ha hb, wO_some]
theorem wO_ne {a b : D} {Q : D → Prop} (ha : shq 64 a = true) (hb : shq 64 b = true) : wO (dNe a b) Q ↔ Q (.bool (!PyData.eqv a b)) := by rw [dNe_sh ha hb, wO_some]
theorem dEq_ii {i j : Int} : dEq (.int i) (.int j) = some (.bool (decide (i = j))) := by
  rw [dEq_sh rfl rfl]; simp only [PyData.eqv, Bool.beq_eq_decide_eq]
theorem dNe_ii {i j : Int} : dNe (.int i) (.int j) = some (.bool (!decide (i = j))) := by
  rw [dNe_sh rfl rfl]; simp only [PyData.eqv, Bool.beq_eq_decide_eq]
theorem dEq_bb {i j : Bool} : dEq (.bool i) (.bool j) = some (.bool (i == j)) := by
  rw [dEq_sh rfl rfl]; simp only [PyData.eqv]
theorem dNe_bb {i j : Bool} : dNe (.bool i) (.bool j) = some (.bool (!(i == j))) := by
  rw [dNe_sh rfl rfl]; simp only [PyData.eqv]
theorem eqv_ints : ∀ {xs ys : List Int}, PyData.eqvAll (xs.map .int) (ys.map .int) = decide (xs = ys)
  | [], [] => by simp [PyData.eqvAll]
  | [], _ :: _ => by simp [PyData.eqvAll]
  | _ :: _, [] => by simp [PyData.eqvAll]
  | x :: xs, y :: ys => by
    have := eqv_ints (xs := xs) (ys := ys)
    simp [PyData.eqvAll, PyData.eqv, this, Bool.beq_eq_decide_eq]
theorem shq_ints {n : Nat} {xs : List Int} : (xs.map PyData.int).all (shq n) = true := by
  rw [List.all_map, List.all_eq_true]
  intro x _
  cases n <;> rfl
theorem eqv_nilr {xs : List D} : PyData.eqvAll xs [] = xs.isEmpty := by cases xs <;> simp [PyData.eqvAll]
theorem dIn_c {ds : List D} {x : D} (h : dFlat x = true) (h2 : ds.all dFlat = true) : dIn x (.tuple ds) = some (.bool (ds.any fun z => dEqF z x)) := by
  simp [dIn, h, h2]
theorem dInA_t {x : D} {ds : List D} : dInA x (.tuple ds) = dIn x (.tuple ds) := rfl
theorem dNotInA_t {x : D} {ds : List D} : dNotInA x (.tuple ds) = dNotIn x (.tuple ds) := rfl
theorem dNotIn_c {ds : List D} {x : D} (h : dFlat x = true) (h2 : ds.all dFlat = true) : dNotIn x (.tuple ds) = some (.bool (!ds.any fun z => dEqF z x)) := by
  simp [dNotIn, h, h2]
theorem dBools_map {xs : List Bool} : dBools (xs.map .bool) = some xs := by
  induction xs with
  | nil => rfl
  | cons x xs ih => rw [List.map_cons, dBools, ih]; rfl
theorem dInts_map {xs : List Int} : dInts (xs.map .int) = some xs := by
  induction xs with
  | nil => rfl
  | cons x xs ih => rw [List.map_cons, dInts, ih]; rfl
/-! slots of a known list -/
def slK : Option Sl → Option D
  | some (.fz d) => some d
  | some (.ow d) => if objD d then none else some d
  | some (.io d) => if objD d then none else some d
  | _ => none
theorem slD_k {ρ : En} {i : Nat} : slD ρ i = slK ρ[i]? := by
  unfold slD slK
  cases ρ[i]? with
  | none => rfl
  | some s => cases s <;> rfl
def owK : Option Sl → Option D
  | some (.ow d) => some d
  | some (.io d) => some d
  | _ => none
theorem ownD_k {ρ : En} {i : Nat} : ownD ρ i = owK ρ[i]? := by
  unfold ownD owK
  cases ρ[i]? with
  | none => rfl
  | some s => cases s <;> rfl
def putK_ (ρ : En) (i : Nat) (d : D) : Option Sl → En
  | some (.ow _) => ρ.set i (.ow d)
  | some (.io _) => ρ.set i (.io d)
  | _ => ρ
theorem putD_k {ρ : En} {i : Nat} {d : D} : putD ρ i d = putK_ ρ i d ρ[i]? := by
  unfold putD putK_
  cases ρ[i]? with
  | none => rfl
  | some s => cases s <;> rfl
section
variable {ρ : En} {Q : D → En → Prop} {R : Bool → En → Prop} {S : Fl → En → Prop} {a b : M} {c : MT} {i : Nat} {d d2 : D} {o : Bool}
theorem kVar_f : kVar i ρ Q (some (.fz d)) = Q d ρ := rfl
theorem objD_l {ds : List D} : objD (.list ds) = false := by cases ds <;> rfl
theorem objD_d {ds : List (D × D)} : objD (.dict ds) = false := by cases ds <;> rfl
theorem kVar_o (h : objD d = false) : kVar i ρ Q (some (.ow d)) = Q d (ρ.set i (.fz d)) := propext ⟨fun q => q.2, fun q => ⟨h, q⟩⟩
theorem kIf_t : kIf a b Q true ρ = wM a ρ Q := rfl
theorem kIf_f : kIf a b Q false ρ = wM b ρ Q := rfl
theorem kAndV_t : kAndV b Q (.bool true) ρ = wM b ρ Q := rfl
theorem kAndV_f : kAndV b Q (.bool false) ρ = Q (.bool false) ρ := rfl
theorem kOrV_t : kOrV b Q (.bool true) ρ = Q (.bool true) ρ := rfl
theorem kOrV_f : kOrV b Q (.bool false) ρ = wM b ρ Q := rfl
theorem kP_i {Q : Option Int → En → Prop} {j : Int} : kP Q (.int j) ρ = Q (some j) ρ := rfl
theorem sameK_o : sameK (some (.ow d)) (some (.ow d2)) = true := rfl
theorem sameK_i : sameK (some (.io d)) (some (.io d2)) = true := rfl
theorem kListRange_i {n : Int} : kListRange Q (.int n) ρ = ((n ≤ 16777216 ∧ -(2 ^ 62) ≤ n) ∧ Q (.list ((List.range n.toNat).map fun i => .int (i : Nat))) ρ) := rfl
theorem kChT_t {g' : D → D → Option D} : kChT g' d b Q ρ (.bool true) = wM b ρ (kCh3 g' d Q) := rfl
theorem kChT_f {g' : D → D → Option D} : kChT g' d b Q ρ (.bool false) = Q (.bool false) ρ := rfl
theorem kB_b : kB R (.bool o) ρ = R o ρ := rfl
theorem kAnd_t : kAnd c R true ρ = wT c ρ R := rfl
theorem kAnd_f : kAnd c R false ρ = R false ρ := rfl
theorem kOr_t : kOr c R true ρ = R true ρ := rfl
theorem kOr_f : kOr c R false ρ = wT c ρ R := rfl
variable {x y : MS}
theorem kSeq_n : kSeq y S .nx ρ = wS y ρ S := rfl
theorem kSeq_b : kSeq y S .bk ρ = S .bk ρ := rfl
theorem kSeq_c : kSeq y S .ct ρ = S .ct ρ := rfl
theorem kSeq_r : kSeq y S (.rt d o) ρ = S (.rt d o) ρ := rfl
theorem kIfS_t : kIfS x y S true ρ = wS x ρ S := rfl
theorem kIfS_f : kIfS x y S false ρ = wS y ρ S := rfl
theorem kAug_f {g : D → D → Option D} : kAug i g a S ρ (some (.fz d)) = wM a ρ (kAug1 i g d S) := rfl
variable {g : MG} {xs : List D} {Qi : List D → En → Prop}
theorem kF2_n : kF2 g x xs S .nx ρ = wS (forL g x xs) ρ S := rfl
theorem kF2_c : kF2 g x xs S .ct ρ = wS (forL g x xs) ρ S := rfl
theorem kF2_b : kF2 g x xs S .bk ρ = S .nx ρ := rfl
theorem kF2_r : kF2 g x xs S (.rt d o) ρ = S (.rt d o) ρ := rfl
theorem kW2_n {n : Nat} : kW2 c x n S .nx ρ = wS (whileL c x n) ρ S := rfl
theorem kW2_c {n : Nat} : kW2 c x n S .ct ρ = wS (whileL c x n) ρ S := rfl
theorem kW2_b {n : Nat} : kW2 c x n S .bk ρ = S .nx ρ := rfl
theorem kW2_r {n : Nat} : kW2 c x n S (.rt d o) ρ = S (.rt d o) ρ := rfl
theorem kW1_t {n : Nat} : kW1 c x n S true ρ = wS x ρ (kW2 c x n S) := rfl
theorem kW1_f {n : Nat} : kW1 c x n S false ρ = S .nx ρ := rfl
theorem kRange1_i {n : Int} : kRange1 Qi (.int n) ρ = ((-(2 ^ 62) ≤ n ∧ n < 2 ^ 62) ∧ Qi ((List.range n.toNat).map fun i => .int (i : Nat)) ρ) := rfl
theorem kRange2b_i {n m : Int} : kRange2b (.int n) Qi (.int m) ρ = ((-(2 ^ 62) ≤ n ∧ n < 2 ^ 62 ∧ -(2 ^ 62) ≤ m ∧ m < 2 ^ 62) ∧ Qi ((List.range (m - n).toNat).map fun k => .int (n + (k : Nat))) ρ) := rfl
theorem kCo1_t {vs : List Nat} {Q : List D → En → Prop} : kCo1 g c a vs xs Q true ρ = wM a ρ (kCo2 g c a vs xs Q) := rfl
theorem kCo1_f {vs : List Nat} {Q : List D → En → Prop} : kCo1 g c a vs xs Q false ρ = wC g c a vs xs (wipeE ρ vs) Q := rfl
theorem kRun_r {Q : D → Bool → Prop} : kRun Q (.rt d o) ρ = Q d o := rfl
theorem kRun_n {Q : D → Bool → Prop} : kRun Q .nx ρ = Q .none false := rfl
theorem kRunI_r {Q : D → Bool → D → Prop} : kRunI Q (.rt d o) ρ = kRunI2 Q d o ρ[0]? := rfl
theorem kRunI_n {Q : D → Bool → D → Prop} : kRunI Q .nx ρ = kRunI2 Q .none false ρ[0]? := rfl
theorem kRunI2_i {Q : D → Bool → D → Prop} : kRunI2 Q d o (some (.io d2)) = Q d o d2 := rfl
theorem slK_f : slK (some (.fz d)) = some d := rfl
theorem slK_o (h : objD d = false) : slK (some (.ow d)) = some d := by simp [slK, h]
theorem slK_i (h : objD d = false) : slK (some (.io d)) = some d := by simp [slK, h]
theorem owK_o : owK (some (.ow d)) = some d := rfl
theorem owK_i : owK (some (.io d)) = some d := rfl
theorem putK_o : putK_ ρ i d (some (.ow d2)) = ρ.set i (.ow d) := rfl
theorem putK_i : putK_ ρ i d (some (.io d2)) = ρ.set i (.io d) := rfl
end
theorem gPow_10_18 : gPow 10 18 = some 1000000000000000000 := by decide
theorem gPow_10_6 : gPow 10 6 = some 1000000 := by decide
theorem gPow_sq {x : Int} (h : x.natAbs < 18446744073709551616) : gPow x 2 = some (x * x) := by
  unfold gPow
  rw [if_pos ⟨by decide, by decide, h⟩]
  show some (x ^ 2) = _
  rw [Int.pow_succ, Int.pow_succ, Int.pow_zero, Int.one_mul]
/-! texts -/
theorem strOk_of (s : String) : PyData.strOk (Str.ofString s) = true := by
  rw [Str.ofString_eq_toList]
  unfold PyData.strOk
  rw [← Array.all_toList]
  rw [List.all_eq_true]
  intro n hn
  obtain ⟨c, _, rfl⟩ := List.mem_map.mp hn
  have h : c.toNat < 0x110000 := by
    have := c.valid
    unfold UInt32.isValidChar Nat.isValidChar at this
    show c.val.toNat < _
    omega
  exact decide_eq_true h
theorem ofString_inj {a b : String} (h : Str.ofString a = Str.ofString b) : a = b := by
  rw [Str.ofString_eq_toList, Str.ofString_eq_toList] at h
  injection h with h
  have h2 : a.toList.map Char.toNat = b.toList.map Char.toNat := congrArg Array.toList h
  have inj : ∀ {xs ys : List Char}, xs.map Char.toNat = ys.map Char.toNat → xs = ys := by
    intro xs
    induction xs with
    | nil => intro ys h; cases ys with
      | nil => rfl
      | cons _ _ => cases h
    | cons x xs ih => intro ys h; cases ys with
      | nil => cases h
      | cons y ys =>
        rw [List.map_cons, List.map_cons] at h
        injection h with h1 h2
        rw [ih h2]
        congr 1
        exact Char.ext (UInt32.toNat_inj.mp h1)
  exact String.toList_inj.mp (inj h2)
theorem str_beq {a b : String} : (Str.ofString a == Str.ofString b) = (a == b) := by
  rw [Bool.beq_eq_decide_eq, Bool.beq_eq_decide_eq]
  by_cases h : a = b
  · rw [h, decide_eq_true rfl, decide_eq_true rfl]
  · rw [decide_eq_false h, decide_eq_false fun z => h (ofString_inj z)]
theorem eqv_ii {i j : Int} : PyData.eqv (.int i) (.int j) = decide (i = j) := by simp only [PyData.eqv, Bool.beq_eq_decide_eq]
theorem eqv_ss {i j : Str} : PyData.eqv (.str i) (.str j) = (i == j) := by simp only [PyData.eqv]
theorem eqv_tt {i j : List D} : PyData.eqv (.tuple i) (.tuple j) = PyData.eqvAll i j := by simp only [PyData.eqv]
theorem eqv_ll {i j : List D} : PyData.eqv (.list i) (.list j) = PyData.eqvAll i j := by simp only [PyData.eqv]
theorem eqv_bb {i j : Bool} : PyData.eqv (.bool i) (.bool j) = (i == j) := by simp only [PyData.eqv]
theorem eqv_is {i : Int} {j : Str} : PyData.eqv (.int i) (.str j) = false := by simp only [PyData.eqv]
theorem eqv_si {i : Int} {j : Str} : PyData.eqv (.str j) (.int i) = false := by simp only [PyData.eqv]
theorem eqv_tl {i j : List D} : PyData.eqv (.tuple i) (.list j) = false := by simp only [PyData.eqv]
theorem eqv_lt {i j : List D} : PyData.eqv (.list i) (.tuple j) = false := by simp only [PyData.eqv]
theorem eqvs_nil : PyData.eqvAll [] [] = true := by simp only [PyData.eqvAll]
theorem eqvs_cons {x y : D} {xs ys : List D} : PyData.eqvAll (x :: xs) (y :: ys) = (PyData.eqv x y && PyData.eqvAll xs ys) := by simp only [PyData.eqvAll]
theorem eqvs_nc {y : D} {ys : List D} : PyData.eqvAll [] (y :: ys) = false := by simp only [PyData.eqvAll]
theorem eqvs_cn {y : D} {ys : List D} : PyData.eqvAll (y :: ys) [] = false := by simp only [PyData.eqvAll]
theorem shq_i {n : Nat} {i : Int} : shq n (.int i) = true := by cases n <;> rfl
theorem shq_b {n : Nat} {i : Bool} : shq n (.bool i) = true := by cases n <;> rfl
theorem shq_n {n : Nat} : shq n .none = true := by cases n <;> rfl
theorem shq_s {n : Nat} {s : String} : shq n (.str (Str.ofString s)) = true := by cases n <;> exact strOk_of s
theorem shq_t {n : Nat} {ds : List D} : shq (n + 1) (.tuple ds) = ds.all (shq n) := by cases ds <;> rfl
theorem shq_l {n : Nat} {ds : List D} : shq (n + 1) (.list ds) = ds.all (shq n) := by cases ds <;> rfl
theorem dEqF_ss {i j : Str} : dEqF (.str i) (.str j) = (i == j) := rfl
theorem dEqF_ii {i j : Int} : dEqF (.int i) (.int j) = decide (i = j) := by
  show (i == j) = _
  rw [Bool.beq_eq_decide_eq]
theorem keyD_s {x : Str} : keyD (.str x) = some (.inr x) := rfl
theorem keyD_i {x : Int} : keyD (.int x) = some (.inl x) := rfl
theorem key_ss {a b : String} : ((some (.inr (Str.ofString a)) : Option Key) = some (.inr (Str.ofString b))) = (a = b) := by
  apply propext
  exact ⟨fun h => ofString_inj (by injection h with h; injection h), fun h => by rw [h]⟩
theorem atK_nil {k : Key} : atK [] k = none := rfl
theorem atK_cons {x y : D} {ds : List (D × D)} {k : Key} : atK ((x, y) :: ds) k = if keyD x = some k then some y else atK ds k := by
  unfold atK
  rw [List.find?_cons]
  by_cases h : keyD x = some k
  · rw [if_pos h, decide_eq_true h]; rfl
  · rw [if_neg h, decide_eq_false h]
theorem dInA_d {y : D} {ds : List (D × D)} : dInA y (.dict ds) = (keyD y).map fun k => .bool (atK ds k).isSome := rfl
theorem dNotInA_d {y : D} {ds : List (D × D)} : dNotInA y (.dict ds) = (keyD y).map fun k => .bool (!(atK ds k).isSome) := rfl
theorem dSetA_d {ds : List (D × D)} {k v : D} : dSetA (.dict ds) k v = if ds.length < 16777216 then (keyD k).map fun k => .dict (putKD ds k v) else none := rfl
theorem fAll_l {ds : List D} : fAll [.list ds] = (dBools ds).map fun bs => .bool (bs.all id) := rfl
theorem fAny_l {ds : List D} : fAny [.list ds] = (dBools ds).map fun bs => .bool (bs.any id) := rfl
theorem dBools_n : dBools [] = some [] := rfl
theorem dBools_c {b : Bool} {r : List D} : dBools (.bool b :: r) = (dBools r).map (b :: ·) := rfl
theorem zipD_c {x y : D} {xs ys : List D} : zipD (x :: xs) (y :: ys) = .tuple [x, y] :: zipD xs ys := rfl
theorem zipD_n {ys : List D} : zipD [] ys = [] := rfl
theorem zipD_n2 {xs : List D} : zipD xs [] = [] := by cases xs <;> rfl
def enF : Int → List D → List D
  | _, [] => []
  | n, x :: xs => .tuple [.int n, x] :: enF (n + 1) xs
theorem enF_zip : ∀ (ds : List D) (k : Nat), ((List.range' k ds.length).zip ds).map (fun z => PyData.tuple [.int (z.1 : Nat), z.2]) = enF k ds
  | [], _ => rfl
  | d :: ds, k => by
    rw [List.length_cons, List.range'_succ, List.zip_cons_cons, List.map_cons, enF_zip ds (k + 1), enF]
    rfl
theorem enumD_e {ds : List D} : enumD ds = enF 0 ds := by
  unfold enumD
  rw [List.range_eq_range']
  exact enF_zip ds 0
theorem enF_n {n : Int} : enF n [] = [] := rfl
theorem enF_c {n : Int} {x : D} {xs : List D} : enF n (x :: xs) = .tuple [.int n, x] :: enF (n + 1) xs := rfl
theorem dBools_mapf {α : Type} {f : α → Bool} {xs : List α} : dBools (xs.map fun x => .bool (f x)) = some (xs.map f) := by
  induction xs with
  | nil => rfl
  | cons x xs ih => rw [List.map_cons, dBools, ih]; rfl
theorem all_mapf {α : Type} {f : α → Bool} {xs : List α} (h : ∀ x ∈ xs, f x = true) : (xs.map f).all (fun b => b) = true := by
  rw [List.all_map, List.all_eq_true]
  exact h
theorem dFlat_s {x : Str} : dFlat (.str x) = true := by cases x; rfl
theorem dFlat_i {x : Int} : dFlat (.int x) = true := by cases x <;> rfl
theorem dFlat_b {x : Bool} : dFlat (.bool x) = true := by cases x <;> rfl
end MM
/-! M15: starred displays; is True; x[::-1]; range with a step; the module's constants as data. -/
namespace MM
open PySem L2 StX
/-! ### starred items -/
def mStar (a : M) (as : MA) : MA := fun ρ => (a ρ).bind fun p => (dSeq p.1).bind fun xs => (as p.2).map fun q => (xs ++ q.1, q.2)
def mTupS (as : MA) : M := fun ρ => (as ρ).bind fun p => if p.1.length ≤ 16777216 then some (.tuple p.1, p.2) else none
def mLstS (as : MA) : M := fun ρ => (as ρ).bind fun p => if p.1.length ≤ 16777216 then some (.list p.1, p.2) else none
section
variable {G : Gx} {X : Cx} {a b e : Expr} {es : List Expr} {p pos : Pos} {ma mb m : M} {ms : MA}
theorem aNil : PA X [] (rda G mNil) := rNil.pa
theorem aCons (ha : PE X e (rd G m)) (hr : PA X es (rda G ms)) (hs : starEach (e :: es) X.env = (false, eval e X.env) :: starEach es X.env := by rfl) : PA X (e :: es) (rda G (mCons m ms)) :=
  (pa_cons ha hr hs).weak fun σ H Q ⟨ρ, T, F, ds, ρ', S, em, k⟩ => by
    obtain ⟨d1, ρ1, e1, em⟩ := bind2 em
    obtain ⟨q, e2, em⟩ := map2 em
    cases em
    refine ⟨ρ, T, F, d1, ρ1, S, e1, fun v F1 H1 S1 eF1 r1 => ⟨ρ1, T, F1, q.1, q.2, S1, e2, fun vs F2 H2 S2 eF2 r2 => ?_⟩⟩
    exact k _ F2 H2 S2 (eF1.trans eF2) (.cons (r1.mono eF2) r2)
theorem aStar (ha : PE X e (rd G m)) (hr : PA X es (rda G ms)) (hK : G.K = X.K) (hs : starEach (.Starred e p :: es) X.env = (true, eval e X.env) :: starEach es X.env := by rfl) : PA X (.Starred e p :: es) (rda G (mStar m ms)) :=
  (StX.pa_star ha hr hs).weak fun σ H Q ⟨ρ, T, F, ds, ρ', S, em, k⟩ => by
    obtain ⟨d1, ρ1, e1, em⟩ := bind2 em
    obtain ⟨xs, e2, em⟩ := obind em
    obtain ⟨q, e3, em⟩ := map2 em
    cases em
    refine ⟨ρ, T, F, d1, ρ1, S, e1, fun v F1 H1 S1 q1 r1 => ?_⟩
    have go : ∀ (vs : List V), RpAll G.K F1 vs xs → rda G ms σ H1 fun ys H2 => Q (vs ++ ys) H2 := fun vs rv => ⟨ρ1, T, F1, q.1, q.2, S1, e3, fun ws F2 H2 S2 q2 r2 => k _ F2 H2 S2 (q1.trans q2) ((rv.mono q2).append r2)⟩
    cases r1 with
    | lst s rr => cases e2; exact ⟨_, _, rfl, .inr (by rw [← hK]; exact sql_mono S1.fh s), go _ rr⟩
    | tup s rr => cases e2; exact ⟨_, _, rfl, .inl (by rw [← hK]; exact sqt_mono S1.fh s), go _ rr⟩
    | _ => cases e2
theorem rTupS {x1} (h : PA X es (rda G ms)) : PE X (.Tuple es x1 pos) (rd G (mTupS ms)) :=
  (pe_tup h).weak fun σ H Q ⟨ρ, T, F, d, ρ', S, em, k⟩ => by
    obtain ⟨ds, ρ1, e1, em⟩ := bindA em
    obtain ⟨hz, em⟩ := ite_some em
    cases em
    refine ⟨ρ, T, F, ds, _, S, e1, fun vs F1 H1 S1 eF1 r1 => ⟨by rw [r1.length, sizeLine_eq]; exact hz, fun q hq => ?_⟩⟩
    exact k _ _ _ (S1.alloc hq) (eF1.trans (same_upd (S1.fnone hq))) (.tup (SqT.of upd_same) (r1.mono (same_upd (S1.fnone hq))))
theorem rLstS (h : PA X es (rda G ms)) : PE X (.List es pos) (rdo G (mLstS ms)) :=
  (pe_lst h).weak fun σ H Q ⟨ρ, T, F, d, ρ', S, em, k⟩ => by
    obtain ⟨ds, ρ1, e1, em⟩ := bindA em
    obtain ⟨hz, em⟩ := ite_some em
    cases em
    refine ⟨ρ, T, F, ds, _, S, e1, fun vs F1 H1 S1 eF1 r1 => ⟨by rw [r1.length, sizeLine_eq]; exact hz, fun q hq => ?_⟩⟩
    exact k _ _ _ (S1.allocO hq ⟨vs, upd_same, r1⟩) eF1
/-! ### is True, is not True -/
def dNotB : D → D → Option D
  | .bool a, .bool b => some (.bool (!(a == b)))
  | _, _ => none
theorem Op2b_isB {K : PySem.W.Frag} : Op2b K rIsB dIsB := fun F H x y dx dy d Q fh rx ry h q => by
  cases dx with
  | bool i =>
    cases dy with
    | bool j =>
      cases rx; cases ry; cases h
      exact ⟨i, j, rfl, rfl, by rw [← Bool.beq_eq_decide_eq]; exact q _ rfl⟩
    | _ => cases h
  | _ => cases h
theorem Op2b_notB {K : PySem.W.Frag} : Op2b K rNotB dNotB := fun F H x y dx dy d Q fh rx ry h q => by
  cases dx with
  | bool i =>
    cases dy with
    | bool j =>
      cases rx; cases ry; cases h
      exact ⟨i, j, rfl, rfl, by rw [← Bool.beq_eq_decide_eq]; exact q _ rfl⟩
    | _ => cases h
  | _ => cases h
theorem rIsB_ (ha : PE X a (rd G ma)) (hb : PE X b (rd G mb)) (hm : behindInMarks .Is b = false := by first | exact nomark _ | with_unfolding_all rfl) : PE X (.Compare a [.Is] [b] pos) (rd G (mBin dIsB ma mb)) := rCmp op_isBl Op2b_isB.op2 ha hb hm
theorem rIsBT (ha : PE X a (rd G ma)) (hb : PE X b (rd G mb)) (hm : behindInMarks .Is b = false := by first | exact nomark _ | with_unfolding_all rfl) : PT X (.Compare a [.Is] [b] pos) (rdt G (mB (mBin dIsB ma mb))) := rCmpT op_isBl Op2b_isB.op2 ha hb hm
theorem rNotB_ (ha : PE X a (rd G ma)) (hb : PE X b (rd G mb)) (hm : behindInMarks .IsNot b = false := by first | exact nomark _ | with_unfolding_all rfl) : PE X (.Compare a [.IsNot] [b] pos) (rd G (mBin dNotB ma mb)) := rCmp op_notBl Op2b_notB.op2 ha hb hm
theorem rNotBT (ha : PE X a (rd G ma)) (hb : PE X b (rd G mb)) (hm : behindInMarks .IsNot b = false := by first | exact nomark _ | with_unfolding_all rfl) : PT X (.Compare a [.IsNot] [b] pos) (rdt G (mB (mBin dNotB ma mb))) := rCmpT op_notBl Op2b_notB.op2 ha hb hm
/-! ### x[::-1] of a list -/
def dRevL : D → Option D
  | .list ds => some (.list ds.reverse)
  | _ => none
theorem rRevL {kk : Nat} {p1 p2 p3 : Pos} (ha : PE X e (rd G ma)) (hK : G.K = X.K) : PE X (.Subscript e (.Slice none none (some (.UnaryOp .USub (.Constant (.int 1) kk p1) p2)) p3) pos) (rd G (mUn dRevL ma)) :=
  (pe_revL ha).weak fun σ H Q ⟨ρ, T, F, d, ρ', S, em, k⟩ => by
    obtain ⟨d1, ρ1, e1, em⟩ := bind2 em
    obtain ⟨d3, e3, em⟩ := map2 em
    cases em
    refine ⟨ρ, T, F, d1, _, S, e1, fun v F1 H1 S1 q1 r => ?_⟩
    cases r with
    | lst s rr =>
      cases e3
      refine ⟨_, _, rfl, by rw [← hK]; exact sql_mono S1.fh s, fun p hp => ?_⟩
      exact k _ _ _ (S1.alloc hp) (q1.trans (same_upd (S1.fnone hp))) (.lst (SqL.of upd_same) (rr.reverse.mono (same_upd (S1.fnone hp))))
    | _ => cases e3
/-! ### the module's constants as data -/
end
theorem kVal_ok {K : PySem.W.Frag} : ∀ n : Nat, (∀ v d, kVal K n v d = true → ∃ x : V, RelV x v ∧ ∀ F, Rp K F x d) ∧ ∀ vs ds, kVals K n vs ds = true → ∃ xs : List V, Vals xs vs ∧ ∀ F, RpAll K F xs ds := by
  intro n
  have lists : (∀ v d, kVal K n v d = true → ∃ x : V, RelV x v ∧ ∀ F, Rp K F x d) → ∀ vs ds, kVals K n vs ds = true → ∃ xs : List V, Vals xs vs ∧ ∀ F, RpAll K F xs ds := by
    intro h vs
    induction vs with
    | nil =>
      intro ds e
      cases ds with
      | nil => exact ⟨[], .nil, fun _ => .nil⟩
      | cons _ _ => simp [kVals] at e
    | cons v vs ih =>
      intro ds e
      cases ds with
      | nil => simp [kVals] at e
      | cons d ds =>
        rw [kVals, Bool.and_eq_true] at e
        obtain ⟨x, h1, h2⟩ := h v d e.1
        obtain ⟨xs, h3, h4⟩ := ih ds e.2
        exact ⟨x :: xs, .cons h1 h3, fun F => .cons (h2 F) (h4 F)⟩
  have flat : ∀ v d, (∀ a ds, v = .ref a → d = .tuple ds → False) → kVal K n v d = true → ∃ x : V, RelV x v ∧ ∀ F, Rp K F x d := by
    intro v d hn e
    cases v <;> cases d <;> first
      | exact ⟨.non, rfl, fun _ => .non⟩
      | (simp only [kVal, beq_iff_eq] at e; subst e; exact ⟨.bl _, rfl, fun _ => .bl _⟩)
      | (simp only [kVal, decide_eq_true_eq] at e; subst e; exact ⟨.int _, ⟨_, rfl⟩, fun _ => .int _⟩)
      | (simp only [kVal, decide_eq_true_eq] at e; subst e; exact ⟨.str _, ⟨_, rfl⟩, fun _ => .str _⟩)
      | exact (hn _ _ rfl rfl).elim
      | (cases n <;> simp [kVal] at e)
  induction n with
  | zero =>
    have h0 : ∀ v d, kVal K 0 v d = true → ∃ x : V, RelV x v ∧ ∀ F, Rp K F x d := fun v d e => flat v d (fun a ds h1 h2 => by subst h1; subst h2; simp [kVal] at e) e
    exact ⟨h0, lists h0⟩
  | succ n ih =>
    have ih2 := ih (fun h => by
      intro vs
      induction vs with
      | nil =>
        intro ds e
        cases ds with
        | nil => exact ⟨[], .nil, fun _ => .nil⟩
        | cons _ _ => simp [kVals] at e
      | cons v vs ihv =>
        intro ds e
        cases ds with
        | nil => simp [kVals] at e
        | cons d ds =>
          rw [kVals, Bool.and_eq_true] at e
          obtain ⟨x, h1, h2⟩ := h v d e.1
          obtain ⟨xs, h3, h4⟩ := ihv ds e.2
          exact ⟨x :: xs, .cons h1 h3, fun F => .cons (h2 F) (h4 F)⟩) (fun v d hn e => by
      cases v <;> cases d <;> first
        | exact ⟨.non, rfl, fun _ => .non⟩
        | (simp only [kVal, beq_iff_eq] at e; subst e; exact ⟨.bl _, rfl, fun _ => .bl _⟩)
        | (simp only [kVal, decide_eq_true_eq] at e; subst e; exact ⟨.int _, ⟨_, rfl⟩, fun _ => .int _⟩)
        | (simp only [kVal, decide_eq_true_eq] at e; subst e; exact ⟨.str _, ⟨_, rfl⟩, fun _ => .str _⟩)
        | exact (hn _ _ rfl rfl).elim
        | (cases n <;> simp [kVal] at e))
    have h1 : ∀ v d, kVal K (n + 1) v d = true → ∃ x : V, RelV x v ∧ ∀ F, Rp K F x d := by
      intro v d e
      by_cases hd : ∃ a ds, v = .ref a ∧ d = .tuple ds
      · obtain ⟨a, ds, rfl, rfl⟩ := hd
        rw [kVal] at e
        split at e
        · rename_i c its m sl hk
          rw [Bool.and_eq_true, Bool.and_eq_true] at e
          obtain ⟨xs, h3, h4⟩ := ih2.2 _ _ e.2.2
          exact ⟨.ref a, rfl, fun F => .tup (.inr ⟨_, its, m, hk, congrArg Value.type (of_decide_eq_true e.1), rfl, of_decide_eq_true e.2.1, h3⟩) (h4 F)⟩
        · cases e
      · exact flat v d (fun a ds h1 h2 => hd ⟨a, ds, h1, h2⟩) e
    exact ⟨h1, lists h1⟩
/-- what a name of the module stands for -/
def GlD (K : PySem.W.Frag) (mg : Str → Option Value) (x : Str) (d : D) : Prop := ∃ u v, mg x = some u ∧ RelV v u ∧ ∀ F, Rp K F v d
theorem gloD_ok {K : PySem.W.Frag} {h : Heap} {mg : Str → Option Value} (X : K.In h) (G : h.Ns mainGlobals mg) {x : Str} {d : D} (c : gloD K x d = true) : GlD K mg x d := by
  unfold gloD at c
  split at c
  · rename_i u e
    obtain ⟨v, h1, h2⟩ := (kVal_ok 8).1 u d c
    exact ⟨u, v, PySem.W.mg_of X G e, h1, h2⟩
  · cases c
theorem rGlD {G : Gx} {X : Cx} {y : Str} {px : Pos} {d : D} (h : GlD X.K X.mg y d) (hK : G.K = X.K) (hg : Gl X y := by rfl) (hd : (y == ("__debug__" : Str)) = false := by decide) : PE X (.Name y px) (rd G (mC d)) := by
  obtain ⟨u, v, hm, r, hr⟩ := h
  exact rGlob hg hm r (fun F => by rw [hK]; exact hr F) hd
end MM
/-! M17: more for the calculus. -/
namespace MM
open PySem L2
def kTupS (Q : D → En → Prop) (ds : List D) (ρ : En) : Prop := ds.length ≤ 16777216 ∧ Q (.tuple ds) ρ
theorem mTupS_w {as : MA} {ρ : En} {Q : D → En → Prop} : wM (mTupS as) ρ Q ↔ wA as ρ (kTupS Q) := by
  unfold wM mTupS
  rw [ex_pair, ex_bind]
  refine ⟨fun ⟨x, h, z⟩ => ⟨x.1, x.2, h, ?_⟩, fun ⟨d, r, h, z⟩ => ⟨(d, r), h, ?_⟩⟩
  · obtain ⟨w, h, q⟩ := z
    obtain ⟨h1, h2⟩ := ite_some h
    subst h2
    exact ⟨h1, q⟩
  · exact ⟨_, if_pos z.1, z.2⟩
def kLstS (Q : D → En → Prop) (ds : List D) (ρ : En) : Prop := ds.length ≤ 16777216 ∧ Q (.list ds) ρ
theorem mLstS_w {as : MA} {ρ : En} {Q : D → En → Prop} : wM (mLstS as) ρ Q ↔ wA as ρ (kLstS Q) := by
  unfold wM mLstS
  rw [ex_pair, ex_bind]
  refine ⟨fun ⟨x, h, z⟩ => ⟨x.1, x.2, h, ?_⟩, fun ⟨d, r, h, z⟩ => ⟨(d, r), h, ?_⟩⟩
  · obtain ⟨w, h, q⟩ := z
    obtain ⟨h1, h2⟩ := ite_some h
    subst h2
    exact ⟨h1, q⟩
  · exact ⟨_, if_pos z.1, z.2⟩
def kStar3 (xs : List D) (Q : List D → En → Prop) (ys : List D) (ρ : En) : Prop := Q (xs ++ ys) ρ
def kStar2 (as : MA) (Q : List D → En → Prop) (ρ : En) (xs : List D) : Prop := wA as ρ (kStar3 xs Q)
def kStar1 (as : MA) (Q : List D → En → Prop) (d : D) (ρ : En) : Prop := wO (dSeq d) (kStar2 as Q ρ)
theorem wA_Star {a : M} {as : MA} {ρ : En} {Q : List D → En → Prop} : wA (mStar a as) ρ Q ↔ wM a ρ (kStar1 as Q) := by
  unfold wA mStar
  rw [ex_pair, ex_bind]
  refine ⟨fun ⟨x, h, z⟩ => ⟨x.1, x.2, h, ?_⟩, fun ⟨d, r, h, z⟩ => ⟨(d, r), h, ?_⟩⟩
  · rw [ex_bind] at z
    obtain ⟨w, h3, z⟩ := z
    rw [ex_map] at z
    obtain ⟨v, h4, z⟩ := z
    exact ⟨w, h3, v.1, v.2, h4, z⟩
  · obtain ⟨w, h3, v, r2, h4, z⟩ := z
    rw [ex_bind]
    refine ⟨w, h3, ?_⟩
    rw [ex_map]
    exact ⟨(v, r2), h4, z⟩
/-- a comprehension over things that stand for data; the slots keep P -/
theorem wC_mapsP {α : Type} {g : MG} {t : MT} {e : M} {vs : List Nat} (f h : α → D) (P : En → Prop) : ∀ {xs : List α} {ρ : En} {Q : List D → En → Prop}, P ρ → (∀ x ∈ xs, ∀ ρ, P ρ → wG g (f x) ρ fun ρ1 => wT t ρ1 fun b ρ2 => b = true ∧ wM e ρ2 fun y ρ3 => y = h x ∧ P (wipeE ρ3 vs)) → (∀ ρ, P ρ → Q (xs.map h) ρ) → wC g t e vs (xs.map f) ρ Q := fun {xs} => by
  induction xs with
  | nil => intro ρ Q p _ q; exact wC_nil.mpr (q ρ p)
  | cons x xs ih =>
    intro ρ Q p hs q
    rw [List.map_cons, wC_cons]
    obtain ⟨r, h1, b, r2, h2, hb, z⟩ := hs x List.mem_cons_self ρ p
    subst hb
    refine ⟨r, h1, true, r2, h2, ?_⟩
    obtain ⟨y, r3, h3, e1, e2⟩ := z
    subst e1
    refine ⟨_, r3, h3, ?_⟩
    exact ih (Q := kCo3 (h x) Q) e2 (fun y hy => hs y (List.mem_cons_of_mem _ hy)) q
/-! ### list + list, an owned new one -/
def dCatL : D → D → Option D
  | .list xs, .list ys => if xs.length + ys.length ≤ 16777216 then some (.list (xs ++ ys)) else none
  | _, _ => none
theorem dCatL_ll {xs ys : List D} : dCatL (.list xs) (.list ys) = if xs.length + ys.length ≤ 16777216 then some (.list (xs ++ ys)) else none := rfl
section
variable {G : Gx} {X : Cx} {a b : Expr} {pos : Pos} {ma mb : M}
theorem rCatLO (ha : PE X a (rd G ma)) (hb : PE X b (rd G mb)) (hK : G.K = X.K) : PE X (.BinOp a .Add b pos) (rdo G (mBin dCatL ma mb)) :=
  (pe_op op_catL ha hb).weak fun σ H Q ⟨ρ, T, F, d, ρ', S, em, k⟩ => by
    obtain ⟨d1, ρ1, e1, em⟩ := bind2 em
    obtain ⟨d2, ρ2, e2, em⟩ := bind2 em
    obtain ⟨d3, e3, em⟩ := map2 em
    cases em
    refine ⟨ρ, T, F, d1, ρ1, S, e1, fun v1 F1 H1 S1 q1 r1 => ⟨ρ1, T, F1, d2, _, S1, e2, fun v2 F2 H2 S2 q2 r2 => ?_⟩⟩
    cases d1 with
    | list xs =>
      cases d2 with
      | list ys =>
        obtain ⟨hz, h2⟩ := ite_some (show (if xs.length + ys.length ≤ 16777216 then some (PyData.list (xs ++ ys)) else none) = some d from e3)
        subst h2
        cases r1 with
        | lst s1 r1 =>
          cases r2 with
          | lst s2 r2 =>
            have r1' := r1.mono q2
            have l1 := r1.length
            have l2 := r2.length
            refine ⟨_, _, _, _, rfl, rfl, by rw [← hK]; exact sql_mono S2.fh (sql_mono q2 s1), by rw [← hK]; exact sql_mono S2.fh s2, by rw [sizeLine_eq]; omega, fun p hp => ?_⟩
            exact k p F2 _ (S2.allocO hp ⟨_, upd_same, r1'.append r2⟩) (q1.trans q2)
      | _ => cases e3
    | _ => cases e3
end
theorem wM_CI {f : FSI} {i : Nat} {as : MA} {ρ : En} {Q : D → En → Prop} : wM (mCallI f i as) ρ Q ↔ wA as ρ (kCI0 f i ρ[i]? Q) := by
  refine ⟨fun ⟨d, r, h, q⟩ => ?_, wM_CallI⟩
  unfold mCallI at h
  cases e0 : ρ[i]? with
  | none => rw [e0] at h; cases h
  | some s =>
    rw [e0] at h
    cases s with
    | ow x =>
      dsimp only at h
      obtain ⟨as', r1, e1, h⟩ := bindA h
      dsimp only at h
      cases e2 : r1[i]? with
      | none => rw [e2] at h; cases h
      | some s1 =>
        rw [e2] at h
        cases s1 with
        | ow y =>
          obtain ⟨z, e3, h⟩ := map2 h
          cases h
          refine ⟨as', r1, e1, by rw [e2]; rfl, y, by unfold ownD; rw [e2], z.1, z.2.1, z.2.2, e3, ?_⟩
          show Q z.1 (putD r1 i z.2.2)
          unfold putD
          rw [e2]
          exact q
        | _ => cases h
    | io x =>
      dsimp only at h
      obtain ⟨as', r1, e1, h⟩ := bindA h
      dsimp only at h
      cases e2 : r1[i]? with
      | none => rw [e2] at h; cases h
      | some s1 =>
        rw [e2] at h
        cases s1 with
        | io y =>
          obtain ⟨z, e3, h⟩ := map2 h
          cases h
          refine ⟨as', r1, e1, by rw [e2]; rfl, y, by unfold ownD; rw [e2], z.1, z.2.1, z.2.2, e3, ?_⟩
          show Q z.1 (putD r1 i z.2.2)
          unfold putD
          rw [e2]
          exact q
        | _ => cases h
    | _ => cases h
theorem dIsi2_tl_i {i : Int} : dIsi2 "tuple" "list" (.int i) = some (.bool false) := by
  unfold dIsi2 dTy
  have h1 : kitB "int" "tuple" = some false := by decide +kernel
  have h2 : kitB "int" "list" = some false := by decide +kernel
  dsimp only; rw [h1, h2]; rfl
theorem dIsi2_tl_b {i : Bool} : dIsi2 "tuple" "list" (.bool i) = some (.bool false) := by
  unfold dIsi2 dTy
  have h1 : kitB "bool" "tuple" = some false := by decide +kernel
  have h2 : kitB "bool" "list" = some false := by decide +kernel
  dsimp only; rw [h1, h2]; rfl
theorem dIsi2_tl_s {i : Str} : dIsi2 "tuple" "list" (.str i) = some (.bool false) := by
  unfold dIsi2 dTy
  have h1 : kitB "str" "tuple" = some false := by decide +kernel
  have h2 : kitB "str" "list" = some false := by decide +kernel
  dsimp only; rw [h1, h2]; rfl
theorem dIsi2_tl_n : dIsi2 "tuple" "list" .none = some (.bool false) := by
  unfold dIsi2 dTy
  have h1 : kitB "NoneType" "tuple" = some false := by decide +kernel
  have h2 : kitB "NoneType" "list" = some false := by decide +kernel
  dsimp only; rw [h1, h2]; rfl
theorem dIsi2_tl_t {ds : List D} : dIsi2 "tuple" "list" (.tuple ds) = some (.bool true) := by
  unfold dIsi2 dTy
  have h1 : kitB "tuple" "tuple" = some true := by decide +kernel
  dsimp only; rw [h1]; rfl
theorem dIsi2_tl_l {ds : List D} : dIsi2 "tuple" "list" (.list ds) = some (.bool true) := by
  unfold dIsi2 dTy
  have h1 : kitB "list" "tuple" = some false := by decide +kernel
  have h2 : kitB "list" "list" = some true := by decide +kernel
  dsimp only; rw [h1, h2]; rfl
theorem dIsi_list_t {ds : List D} : dIsi "list" (.tuple ds) = some (.bool false) := by
  unfold dIsi dTy
  have h1 : kitB "tuple" "list" = some false := by decide +kernel
  dsimp only; rw [h1]; rfl
theorem dIsi_list_l {ds : List D} : dIsi "list" (.list ds) = some (.bool true) := by
  unfold dIsi dTy
  have h1 : kitB "list" "list" = some true := by decide +kernel
  dsimp only; rw [h1]; rfl
theorem dIsi_dict_i {i : Int} : dIsi "dict" (.int i) = some (.bool false) := by
  unfold dIsi dTy
  have h1 : kitB "int" "dict" = some false := by decide +kernel
  dsimp only; rw [h1]; rfl
theorem dIsi_dict_b {i : Bool} : dIsi "dict" (.bool i) = some (.bool false) := by
  unfold dIsi dTy
  have h1 : kitB "bool" "dict" = some false := by decide +kernel
  dsimp only; rw [h1]; rfl
theorem dIsi_dict_s {i : Str} : dIsi "dict" (.str i) = some (.bool false) := by
  unfold dIsi dTy
  have h1 : kitB "str" "dict" = some false := by decide +kernel
  dsimp only; rw [h1]; rfl
theorem dIsi_dict_n : dIsi "dict" .none = some (.bool false) := by
  unfold dIsi dTy
  have h1 : kitB "NoneType" "dict" = some false := by decide +kernel
  dsimp only; rw [h1]; rfl
theorem dIsi_str_n : dIsi "str" .none = some (.bool false) := by
  unfold dIsi dTy
  have h1 : kitB "NoneType" "str" = some false := by decide +kernel
  dsimp only; rw [h1]; rfl
theorem dIsi_str_i {i : Int} : dIsi "str" (.int i) = some (.bool false) := by
  unfold dIsi dTy
  have h1 : kitB "int" "str" = some false := by decide +kernel
  dsimp only; rw [h1]; rfl
theorem dIsi_str_b {i : Bool} : dIsi "str" (.bool i) = some (.bool false) := by
  unfold dIsi dTy
  have h1 : kitB "bool" "str" = some false := by decide +kernel
  dsimp only; rw [h1]; rfl
theorem dIsi_int_b {i : Bool} : dIsi "int" (.bool i) = some (.bool true) := by
  unfold dIsi dTy
  have h1 : kitB "bool" "int" = some true := by decide +kernel
  dsimp only; rw [h1]; rfl
theorem dIsi_bool_b {i : Bool} : dIsi "bool" (.bool i) = some (.bool true) := by
  unfold dIsi dTy
  have h1 : kitB "bool" "bool" = some true := by decide +kernel
  dsimp only; rw [h1]; rfl
theorem dIsN_b {i : Bool} : dIsN (.bool i) = some (.bool false) := rfl
theorem dIsN_s {i : Str} : dIsN (.str i) = some (.bool false) := rfl
theorem dIsN_t {ds : List D} : dIsN (.tuple ds) = some (.bool false) := rfl
theorem dIsN_l {ds : List D} : dIsN (.list ds) = some (.bool false) := rfl
theorem eqv_nn : PyData.eqv .none .none = true := by simp only [PyData.eqv]
theorem decide_rfl {α : Type} {a : α} [DecidableEq α] : decide (a = a) = true := decide_eq_true rfl
theorem beq_b {b : Bool} : (b == b) = true := by cases b <;> rfl
/-- data that are alike to themselves -/
def alk : Nat → D → Bool
  | 0, _ => false
  | _ + 1, .none => true
  | _ + 1, .bool _ => true
  | _ + 1, .int _ => true
  | _ + 1, .str x => PyData.strOk x
  | n + 1, .list ds => decide (ds.length ≤ 16777216) && ds.all (alk n)
  | n + 1, .tuple ds => decide (ds.length ≤ 16777216) && ds.all (alk n)
  | _ + 1, .dict _ => false
end MM
/-! M18: texts: join, split, str, int, index, texts times ints, walks over texts. -/
namespace MM
open PySem L2
def dStrs : List D → Option (List Str)
  | [] => some []
  | .str x :: r => (dStrs r).map (x :: ·)
  | _ => none
theorem rp_strs {K : PySem.W.Frag} {F : Hp} : ∀ {vs : List V} {ds : List D} {bs : List Str}, RpAll K F vs ds → dStrs ds = some bs → vs = bs.map V.str
  | _, _, _, .nil, h => by cases h; rfl
  | _, _, bs, .cons (d := d) (ds := ds) r t, h => by
    cases d with
    | str b =>
      obtain ⟨bs', e1, e2⟩ := map2 (show (dStrs ds).map (b :: ·) = some bs from h)
      subst e2
      cases r
      rw [rp_strs t e1]; rfl
    | _ => cases h
theorem RpAll.of_strs {K : PySem.W.Frag} {F : Hp} : ∀ ns : List Str, RpAll K F (ns.map V.str) (ns.map PyData.str)
  | [] => .nil
  | n :: ns => .cons (.str n) (RpAll.of_strs ns)
theorem dStrs_map {xs : List Str} : dStrs (xs.map .str) = some xs := by
  induction xs with
  | nil => rfl
  | cons x xs ih => rw [List.map_cons, dStrs, ih]; rfl
theorem dStrs_mapf {α : Type} {f : α → Str} {xs : List α} : dStrs (xs.map fun x => .str (f x)) = some (xs.map f) := by
  induction xs with
  | nil => rfl
  | cons x xs ih => rw [List.map_cons, dStrs, ih]; rfl
def dJoin : D → D → Option D
  | .str a, .list ds => (dStrs ds).bind fun ys => if (ys.map (·.length)).sum + ys.length * a.length ≤ 16777216 then some (.str (Txt.join a ys)) else none
  | .str a, .tuple ds => (dStrs ds).bind fun ys => if (ys.map (·.length)).sum + ys.length * a.length ≤ 16777216 then some (.str (Txt.join a ys)) else none
  | _, _ => none
def dSplit : D → D → Option D
  | .str a, .str b => if (b.length == 0) = false ∧ a.length + 2 ≤ 16777216 then some (.list ((Txt.split a b).map .str)) else none
  | _, _ => none
def dSIdx : D → D → Option D
  | .str a, .str b => match Builtin.Str.occurrences a b 0 a.length 1 with
    | i :: _ => some (.int (i : Nat))
    | [] => none
  | _, _ => none
section
variable {G : Gx} {X : Cx} {a b e : Expr} {p pos apos : Pos} {ma mb : M}
theorem rJoin (ha : PE X a (rd G ma)) (hb : PE X b (rd G mb)) (hK : G.K = X.K) (hs : starEach [b] X.env = [(false, eval b X.env)] := by rfl) (hbase : attributeBase a "join" X.env (eval a X.env) = eval a X.env := by rfl) (hline : (apos.endLine == pos.line) = true := by rfl) :
    PE X (.Call (.Attribute a "join" apos) [b] [] pos) (rd G (mBin dJoin ma mb)) :=
  (pe_join ha hb hs hbase hline).weak fun σ H Q ⟨ρ, T, F, d, ρ', S, em, k⟩ => by
    obtain ⟨d1, ρ1, e1, em⟩ := bind2 em
    obtain ⟨d2, ρ2, e2, em⟩ := bind2 em
    obtain ⟨d3, e3, em⟩ := map2 em
    cases em
    refine ⟨ρ, T, F, d1, ρ1, S, e1, fun v F1 H1 S1 q1 r => ?_⟩
    cases d1 with
    | str x =>
      cases r
      refine ⟨⟨x, rfl⟩, ρ1, T, F1, d2, _, S1, e2, fun v2 F2 H2 S2 q2 r2 => ?_⟩
      cases d2 with
      | list ds =>
        obtain ⟨ys, e4, e5⟩ := obind (show (dStrs ds).bind _ = some d from e3)
        obtain ⟨hz, e6⟩ := ite_some e5
        subst e6
        cases r2 with
        | lst s ra =>
          rw [rp_strs ra e4] at s
          exact ⟨x, _, ys, rfl, rfl, .inl (by rw [← hK]; exact sql_mono S2.fh s), hz, k _ F2 H2 S2 (q1.trans q2) (.str _)⟩
      | tuple ds =>
        obtain ⟨ys, e4, e5⟩ := obind (show (dStrs ds).bind _ = some d from e3)
        obtain ⟨hz, e6⟩ := ite_some e5
        subst e6
        cases r2 with
        | tup s ra =>
          rw [rp_strs ra e4] at s
          exact ⟨x, _, ys, rfl, rfl, .inr (by rw [← hK]; exact sqt_mono S2.fh s), hz, k _ F2 H2 S2 (q1.trans q2) (.str _)⟩
      | _ => cases e3
    | _ => cases d2 <;> cases e3
theorem rSplitO (ha : PE X a (rd G ma)) (hb : PE X b (rd G mb)) (hs : starEach [b] X.env = [(false, eval b X.env)] := by rfl) (hbase : attributeBase a "split" X.env (eval a X.env) = eval a X.env := by rfl) (hline : (apos.endLine == pos.line) = true := by rfl) :
    PE X (.Call (.Attribute a "split" apos) [b] [] pos) (rdo G (mBin dSplit ma mb)) :=
  (pe_m1 F.slot_str_split F.type_str_split mt_split ha hb hs hbase hline).weak fun σ H Q ⟨ρ, T, F, d, ρ', S, em, k⟩ => by
    obtain ⟨d1, ρ1, e1, em⟩ := bind2 em
    obtain ⟨d2, ρ2, e2, em⟩ := bind2 em
    obtain ⟨d3, e3, em⟩ := map2 em
    cases em
    refine ⟨ρ, T, F, d1, ρ1, S, e1, fun v F1 H1 S1 q1 r => ?_⟩
    cases d1 with
    | str x =>
      cases r
      refine ⟨⟨x, rfl⟩, ρ1, T, F1, d2, _, S1, e2, fun v2 F2 H2 S2 q2 r2 => ?_⟩
      cases d2 with
      | str y =>
        cases r2
        obtain ⟨hz, e6⟩ := ite_some (show (if (y.length == 0) = false ∧ x.length + 2 ≤ 16777216 then some (PyData.list ((Txt.split x y).map .str)) else none) = some d from e3)
        subst e6
        exact ⟨x, y, rfl, rfl, hz.1, by rw [sizeLine_eq]; exact hz.2, fun q hq => k q F2 _ (S2.allocO hq ⟨_, upd_same, RpAll.of_strs _⟩) (q1.trans q2)⟩
      | _ => cases e3
    | _ => cases d2 <;> cases e3
theorem rSIdx (ha : PE X a (rd G ma)) (hb : PE X b (rd G mb)) (hs : starEach [b] X.env = [(false, eval b X.env)] := by rfl) (hbase : attributeBase a "index" X.env (eval a X.env) = eval a X.env := by rfl) (hline : (apos.endLine == pos.line) = true := by rfl) :
    PE X (.Call (.Attribute a "index" apos) [b] [] pos) (rd G (mBin dSIdx ma mb)) :=
  (pe_m1 F.slot_str_index F.type_str_index mt_sindex ha hb hs hbase hline).weak fun σ H Q ⟨ρ, T, F, d, ρ', S, em, k⟩ => by
    obtain ⟨d1, ρ1, e1, em⟩ := bind2 em
    obtain ⟨d2, ρ2, e2, em⟩ := bind2 em
    obtain ⟨d3, e3, em⟩ := map2 em
    cases em
    refine ⟨ρ, T, F, d1, ρ1, S, e1, fun v F1 H1 S1 q1 r => ?_⟩
    cases d1 with
    | str x =>
      cases r
      refine ⟨⟨x, rfl⟩, ρ1, T, F1, d2, _, S1, e2, fun v2 F2 H2 S2 q2 r2 => ?_⟩
      cases d2 with
      | str y =>
        cases r2
        have e4 : (match Builtin.Str.occurrences x y 0 x.length 1 with
          | i :: _ => some (PyData.int (i : Nat))
          | [] => none) = some d := e3
        cases e5 : Builtin.Str.occurrences x y 0 x.length 1 with
        | nil => rw [e5] at e4; cases e4
        | cons i rest =>
          rw [e5] at e4
          cases e4
          exact ⟨x, y, i, rest, rfl, rfl, e5, k _ F2 H2 S2 (q1.trans q2) (.int _)⟩
      | _ => cases e3
    | _ => cases d2 <;> cases e3
def fStr1 : List D → Option D
  | [.int i] => if i.natAbs.log2 < 1920 then some (.str (Str.ofString (toString i))) else none
  | _ => none
theorem rStr1 {ms : MA} (ha : RA G X [e] ms) (hm : X.mg "str" = none) (hg : Gl X "str" := by rfl) (he : starEach [e] X.env = (false, eval e X.env) :: starEach [] X.env := by rfl) (hpl : (backTo pos (starEach [] X.env)).any (·.1) = false := by rfl) : PE X (.Call (.Name "str" p) [e] [] pos) (rd G (mApply fStr1 ms)) :=
  rTy call_str_int (fun F H vs ds d Q fh ra h q => by
    match ds, h with
    | [.int i], h =>
      obtain ⟨hz, e6⟩ := ite_some (show (if i.natAbs.log2 < 1920 then some (PyData.str (Str.ofString (toString i))) else none) = some d from h)
      subst e6
      cases ra with
      | cons r t =>
        cases t; cases r
        exact ⟨i, rfl, hz, q _ F H .same (.str _)⟩) ha hm (by decide +kernel) hg (by decide) (by decide) he hpl
def fIntS : List D → Option D
  | [.str a] => (PySem.intText? a).bind fun n => if a.length ≤ 640 then some (.int n) else none
  | [.int i] => some (.int i)
  | [.bool b] => some (.int (if b then 1 else 0))
  | _ => none
theorem CallR.or {f : Value} {r r' : List V → Hp → VK → Prop} (h : CallR X f r) (h' : CallR X f r') : CallR X f (fun xs H Q => r xs H Q ∨ r' xs H Q) := by
  intro pins s σ H xs us Q I rr q
  exact q.elim (h pins s σ H xs us Q I rr) (h' pins s σ H xs us Q I rr)
theorem rIntS {ms : MA} (ha : RA G X [e] ms) (hm : X.mg "int" = none) (hg : Gl X "int" := by rfl) (he : starEach [e] X.env = (false, eval e X.env) :: starEach [] X.env := by rfl) (hpl : (backTo pos (starEach [] X.env)).any (·.1) = false := by rfl) : PE X (.Call (.Name "int" p) [e] [] pos) (rd G (mApply fIntS ms)) :=
  rTy (CallR.or call_int1 call_int_str) (fun F H vs ds d Q fh ra h q => by
    match ds, h with
    | [.str a], h =>
      obtain ⟨n, e4, e5⟩ := obind (show (PySem.intText? a).bind _ = some d from h)
      obtain ⟨hz, e6⟩ := ite_some e5
      subst e6
      cases ra with
      | cons r t =>
        cases t; cases r
        exact .inr ⟨a, n, rfl, e4, hz, q _ F H .same (.int _)⟩
    | [.int i], h =>
      cases h
      cases ra with
      | cons r t =>
        cases t; cases r
        exact .inl (.inl ⟨i, rfl, q _ F H .same (.int _)⟩)
    | [.bool i], h =>
      cases h
      cases ra with
      | cons r t =>
        cases t; cases r
        exact .inl (.inr ⟨i, rfl, q _ F H .same (.int _)⟩)) ha hm (by decide +kernel) hg (by decide) (by decide) he hpl
/-! ### a text times an int -/
def repS (a : Str) (n : Nat) : Str := ⟨((List.replicate n a.cps.toList).flatten).toArray⟩
theorem foldl_repA (xs : List Nat) : ∀ (k : Nat) (acc : List Nat), List.foldl (fun x1 x2 => x1 ++ x2) acc.toArray (List.replicate k xs.toArray) = (acc ++ (List.replicate k xs).flatten).toArray
  | 0, acc => by simp
  | k + 1, acc => by
    rw [List.replicate_succ, List.foldl_cons]
    have e : acc.toArray ++ xs.toArray = (acc ++ xs).toArray := by simp
    rw [e, foldl_repA xs k, List.replicate_succ, List.flatten_cons, List.append_assoc]
theorem repS_eq (a : Str) (n : Nat) : (⟨(List.replicate n a.cps).foldl (· ++ ·) #[]⟩ : Str) = repS a n := by
  have := foldl_repA a.cps.toList n []
  rw [List.nil_append] at this
  unfold repS
  rw [← this]
theorem repS_zero {a : Str} : repS a 0 = Str.empty := rfl
theorem repS_one {a : Str} : repS a 1 = a := by
  unfold repS
  simp
theorem repS_nil {a : Str} {n : Nat} (h : a.length = 0) : repS a n = a := by
  have e : a.cps.toList = [] := by
    have : a.cps.toList.length = 0 := by simpa [Str.length] using h
    exact List.eq_nil_of_length_eq_zero this
  unfold repS
  rw [e]
  have : (List.replicate n ([] : List Nat)).flatten = [] := by simp
  rw [this]
  have e2 : a.cps = #[] := by
    rw [← Array.toList_inj, e]
  cases a
  simp_all
open PySem.Spec PyProof.Rows in
theorem op_mulS : OpR X (binaryOp .Mult) (fun x y H Q => ∃ a k, x = .str a ∧ y = .int k ∧ -(2 ^ 63) ≤ k ∧ k < 2 ^ 63 ∧ a.length * k.toNat ≤ 16777216 ∧ Q (.str (repS a k.toNat)) H) := by
  intro pins s σ H x y v u Q I rx ry h
  obtain ⟨a, k, rfl, rfl, h1, h2, hz, q⟩ := h
  obtain ⟨t, rfl⟩ := rx
  obtain ⟨t', rfl⟩ := ry
  have hr : (decide (k < -(2 ^ 63 : Int)) || decide (k ≥ 2 ^ 63)) = false := by
    rw [decide_eq_false (by omega), decide_eq_false (by omega)]; rfl
  refine PySem.P.mul_str hr (fun hn hx => ?_) (fun hn hx => ?_) ?_
  · rw [Bool.or_eq_false_iff] at hx
    have hl : a.length ≠ 0 := fun z => by simp [z] at hx
    have hk : 0 < k := by omega
    have : (a.length : Int) * k ≤ 16777216 := by
      have e : k = (k.toNat : Int) := by omega
      rw [e, ← Int.natCast_mul]
      omega
    intro hgt
    have h3 : (a.length : Int) ≤ (2 ^ 63 - 1) / k := by
      rw [Int.le_ediv_iff_mul_le hk]
      omega
    omega
  · show decide (_ > sizeLine) = false
    rw [sizeLine_eq]
    exact decide_eq_false (by omega)
  · by_cases hn : k < 1
    · rw [if_pos hn]
      have e : k.toNat = 0 := by omega
      rw [e, repS_zero] at q
      exact ⟨by decide, ⟨.str _, H, I.tok _, ⟨_, rfl⟩, q⟩⟩
    · rw [if_neg hn]
      cases hx : (k == 1 || a.length == 0)
      · rw [if_neg (by decide)]
        rw [← repS_eq] at q
        refine ⟨?_, ⟨.str _, H, I.tok _, ⟨_, rfl⟩, q⟩⟩
        show (⟨(List.replicate k.toNat a.cps).foldl (· ++ ·) #[]⟩ : Str).length ≤ sizeLine
        rw [repS_eq, sizeLine_eq]
        unfold repS Str.length
        simp only [List.size_toArray]
        have : ((List.replicate k.toNat a.cps.toList).flatten).length = k.toNat * a.cps.toList.length := by simp
        rw [this, Nat.mul_comm]
        simpa [Str.length] using hz
      · rw [if_pos rfl]
        have e : repS a k.toNat = a := by
          rw [Bool.or_eq_true] at hx
          rcases hx with hx | hx
          · have : k = 1 := by simpa using hx
            rw [this]; exact repS_one
          · exact repS_nil (by simpa using hx)
        rw [e] at q
        exact ⟨.str _, H, I, ⟨_, rfl⟩, q⟩
def dMulS : D → D → Option D
  | .str a, .int k => if a.length * k.toNat ≤ 16777216 ∧ -(2 ^ 63) ≤ k ∧ k < 2 ^ 63 then some (.str (repS a k.toNat)) else none
  | _, _ => none
theorem Op2_mulS {K : PySem.W.Frag} : Op2 K (fun x y H Q => ∃ a k, x = .str a ∧ y = .int k ∧ -(2 ^ 63) ≤ k ∧ k < 2 ^ 63 ∧ a.length * k.toNat ≤ 16777216 ∧ Q (.str (repS a k.toNat)) H) dMulS := fun F H x y dx dy d Q fh rx ry e q => by
  cases dx with
  | str a =>
    cases dy with
    | int k =>
      cases rx; cases ry
      obtain ⟨hz, e6⟩ := ite_some (show (if a.length * k.toNat ≤ 16777216 ∧ -(2 ^ 63) ≤ k ∧ k < 2 ^ 63 then some (PyData.str (repS a k.toNat)) else none) = some d from e)
      subst e6
      exact ⟨a, k, rfl, rfl, hz.2.1, hz.2.2, hz.1, q _ F H .same (.str _)⟩
    | _ => cases e
  | _ => cases e
theorem rMulS (ha : PE X a (rd G ma)) (hb : PE X b (rd G mb)) : PE X (.BinOp a .Mult b pos) (rd G (mBin dMulS ma mb)) := rOp op_mulS Op2_mulS ha hb
/-! ### walks over texts -/
theorem walks_str {K : PySem.W.Frag} {F : Hp} {x : Str} : Walks K (Its x) F (x.cps.toList.map fun c => PyData.str ⟨#[c]⟩) := fun F1 H e1 e2 => by
  refine ⟨fun i hi => ?_, by show x.cps.size ≤ _; simp⟩
  have hi' : i < x.cps.size := by simpa using hi
  refine ⟨hi', fun y H' ⟨eH, c, hc, hx⟩ => ?_⟩
  subst eH
  subst hx
  refine ⟨.str ⟨#[c]⟩, F1, ?_, .same, .str _⟩
  rw [List.getElem?_map, Array.getElem?_toList, hc]; rfl
theorem wIter {tg : Expr} (ha : PE X e (rd G ma)) (hK : G.K = X.K) : PI X tg e (rdi G (iOf dSq ma)) := by
  refine (PI.or (wSeq ha hK) (pi_str ha)).weak fun σ H R ⟨ρ, T, F, ds, ρ', S, em, k⟩ => ?_
  obtain ⟨d1, ρ1, e1, em⟩ := bind2 em
  obtain ⟨ds', e2, em⟩ := map2 em
  cases em
  cases d1 with
  | str x =>
    cases e2
    exact .inr ⟨ρ, T, F, _, ρ1, S, e1, fun v F' H' S' q r => by
      cases r
      exact ⟨x, rfl, k _ F' H' S' q walks_str⟩⟩
  | list xs => exact .inl ⟨ρ, T, F, ds, ρ1, S, by unfold iOf; rw [e1]; cases e2; rfl, k⟩
  | tuple xs => exact .inl ⟨ρ, T, F, ds, ρ1, S, by unfold iOf; rw [e1]; cases e2; rfl, k⟩
  | _ => cases e2
end
end MM
/-! M19: what the operations of M18 give on data of known form. -/
namespace MM
open PySem L2
theorem dJoin_sl {a : Str} {ds : List D} : dJoin (.str a) (.list ds) = (dStrs ds).bind fun ys => if (ys.map (·.length)).sum + ys.length * a.length ≤ 16777216 then some (.str (Txt.join a ys)) else none := rfl
theorem dStrs_n : dStrs [] = some [] := rfl
theorem dStrs_c {x : Str} {r : List D} : dStrs (.str x :: r) = (dStrs r).map (x :: ·) := rfl
theorem fStr1_i {i : Int} : fStr1 [.int i] = if i.natAbs.log2 < 1920 then some (.str (Str.ofString (toString i))) else none := rfl
theorem fIntS_s {a : Str} : fIntS [.str a] = (PySem.intText? a).bind fun n => if a.length ≤ 640 then some (.int n) else none := rfl
theorem dSplit_ss {a b : Str} : dSplit (.str a) (.str b) = if (b.length == 0) = false ∧ a.length + 2 ≤ 16777216 then some (.list ((Txt.split a b).map .str)) else none := rfl
theorem dMulS_si {a : Str} {k : Int} : dMulS (.str a) (.int k) = if a.length * k.toNat ≤ 16777216 ∧ -(2 ^ 63) ≤ k ∧ k < 2 ^ 63 then some (.str (repS a k.toNat)) else none := rfl
theorem dAdd_st {x y : Str} : dAdd (.str x) (.str y) = if x.length + y.length ≤ 16777216 then some (.str (x ++ y)) else none := rfl
theorem fMax2_ii {i j : Int} : fMax2 [.int i, .int j] = some (.int (if j > i then j else i)) := rfl
theorem fMin2_ii {i j : Int} : fMin2 [.int i, .int j] = some (.int (if j < i then j else i)) := rfl
theorem dLen_s {x : Str} : dLen (.str x) = if x.length ≤ 16777216 then some (.int x.length) else none := rfl
theorem dInA_ss {i j : Str} : dInA (.str i) (.str j) = some (.bool (!(Builtin.Str.occurrences j i 0 j.length 1).isEmpty)) := rfl
theorem dNotInA_ss {i j : Str} : dNotInA (.str i) (.str j) = some (.bool (!(!(Builtin.Str.occurrences j i 0 j.length 1).isEmpty))) := rfl
theorem dInA_l {x : D} {ds : List D} (h : dFlat x = true) (h2 : ds.all dFlat = true) : dInA x (.list ds) = some (.bool (ds.any fun z => dEqF z x)) := by
  show dIn x (.list ds) = _
  simp [dIn, h, h2]
theorem dFlat_n : dFlat .none = true := by simp only [dFlat]
theorem dEqF_in {i : Int} : dEqF (.int i) .none = false := rfl
theorem dEqF_nn : dEqF .none .none = true := rfl
theorem dEqF_sn {i : Str} : dEqF (.str i) .none = false := rfl
end MM
/-! M20: sorted of a list or a tuple of rows of whole numbers. -/
namespace MM
open PySem L2
section
open PySem.W PySem.Calls PyProof.Rows
variable {prog : Program} {w : World} {A : Around} {E : Value → Shared → Prop} {s : Shared} {vs : List Value} {ds : List PyData} {R : Value → PyData → Prop}
/-- sorted(xs), xs a tuple of alike data -/
theorem sorted_tupD {l : Addr} {o : Obj} {n : Nat} {Q : Value → Shared → Prop} (ho : s.heap.get? l = some o) (hc : o.cls = .type "tuple") (hd : o.data = .seq vs.toArray n)
    (e : EachIs R vs ds) (er : EachIs (fun v b => ∃ as, Reads s.heap v b as) vs ds) (hal : AllAlike ds) (hk : Sortable ds) (hL : ds.length ≤ sizeLine) (hu : ∀ b, b ∈ ds → A.units + 2 + b.depth < cLine)
    (h : ∀ (out : List Value) (h' : Heap) (p ep : Nat), out.length = ds.length → EachIs R out (ds.mergeSort (dataLe false id)) → (∃ h1 : Heap, (∀ b o, s.heap.get? b = some o → h1.get? b = some o) ∧ (∀ b o, h1.get? b = some o → h'.get? b = some o) ∧ h1.objs.size ≤ p) → h'.get? p = some (seqObj "list" out.toArray ep) → Q (.ref p) { s with heap := h' }) :
    wpAny (model prog w) A (call (.builtin "sorted") [.ref l] []) Q E s := by
  have hl : vs.length = ds.length := e.length
  refine call_function_entry_kw kind_sorted plain_sorted entry_sorted (args_sorted1 _) ?_
  unfold Builtin.«sorted»
  refine wpAny_bind (m := checkCount "sorted" 1 1 _) (wpAny_pure ?_)
  refine wpAny_bind (wpAny_collect_seq l (.inr rfl) ho hc hd (fun h1 k1 => ?_) (by rw [List.size_toArray, hl]; exact hL))
  refine wpAny_bind (wpAny_newList ?_ (by simpa [hl] using hL))
  have ev : (vs.toArray.toList) = vs := by simp
  rw [ev]
  have hat : (h1.push (seqObj "list" vs.toArray 0)).get? h1.objs.size = some (seqObj "list" vs.toArray 0) := Heap.get?_push_size _ rfl
  have k2 : ∀ b o, s.heap.get? b = some o → (h1.push (seqObj "list" vs.toArray 0)).get? b = some o := fun b o q => Heap.get?_push_of_some _ (k1 b o q)
  show wpAny _ _ _ _ _ { s with heap := h1.push (seqObj "list" vs.toArray 0) }
  refine wpAny_bind (wpAny_holding (wpAny_call_entry_kw slot_list_sort ⟨_, hat, rfl⟩ entry_list_sort ?body (args_list_sort _)))
  case body =>
    have er' : EachIs (fun v b => ∃ as, Reads (sortingHeap (h1.push (seqObj "list" vs.toArray 0)) h1.objs.size vs) v b as) vs ds := er.mono fun _ _ ⟨as, r⟩ => ⟨as, PyProof.Rows.Reads.keeps (fun b o q => sortingHeap_old (Nat.ne_of_lt (Heap.lt_size (k1 b o q))) (k2 b o q)) r⟩
    refine list_sort_vals (s := { s with heap := h1.push (seqObj "list" vs.toArray 0) }) hat (SortsAt.data (s := { s with heap := sortingHeap (h1.push (seqObj "list" vs.toArray 0)) h1.objs.size vs }) er' hal hk hu) (by rw [hl]; exact hL) ?_
    obtain ⟨ep, he⟩ := sortedHeap_at (vs := vs) (out := (sortVals (dataKind (sortingHeap (h1.push (seqObj "list" vs.toArray 0)) h1.objs.size vs) ds) false vs vs).toArray) hat
    refine ⟨_, rfl, wpAny_pure ⟨_, rfl, h _ _ _ ep ?_ ?_ ⟨h1, k1, ?_, Nat.le_refl _⟩ he⟩⟩
    · rw [sortVals_length false rfl]; exact hl
    · have := sortVals_data (enc := id) (bs := ds) false e (by simpa using er') (by simpa using hal)
      simpa using this
    · intro b o q
      have k3 := Heap.get?_push_of_some (seqObj "list" vs.toArray 0) q
      rw [sortedHeap_old (Nat.ne_of_lt (Heap.lt_size q)) (Heap.lt_size k3)]
      exact k3
end
/-! ### the rule -/
/-- rows of whole numbers, each with one at least -/
def dRow : D → Option (List Int)
  | .tuple (x :: r) => dInts (x :: r)
  | _ => none
def dRows : List D → Option (List (List Int))
  | [] => some []
  | d :: r => (dRow d).bind fun x => (dRows r).map (x :: ·)
def encR (x : List Int) : D := .tuple (x.map .int)
theorem dInts_eq : ∀ {ds : List D} {ns : List Int}, dInts ds = some ns → ds = ns.map .int
  | [], _, h => by cases h; rfl
  | d :: r, ns, h => by
    cases d with
    | int i =>
      obtain ⟨m, e, q⟩ := map2 (show (dInts r).map (i :: ·) = some ns from h)
      subst q
      rw [dInts_eq e]; rfl
    | _ => cases h
theorem dRow_eq {d : D} {x : List Int} (h : dRow d = some x) : d = encR x ∧ x ≠ [] := by
  cases d with
  | tuple l =>
    cases l with
    | nil => cases h
    | cons y r =>
      have e := dInts_eq (show dInts (y :: r) = some x from h)
      refine ⟨congrArg PyData.tuple e, fun z => ?_⟩
      rw [z] at e; cases e
  | _ => cases h
theorem dRows_eq : ∀ {ds : List D} {xs : List (List Int)}, dRows ds = some xs → ds = xs.map encR ∧ ∀ x ∈ xs, x ≠ []
  | [], _, h => by cases h; exact ⟨rfl, fun x hx => by cases hx⟩
  | d :: r, xs, h => by
    obtain ⟨x, e1, e2⟩ := obind (show (dRow d).bind _ = some xs from h)
    obtain ⟨l, e3, e4⟩ := map2 e2
    subst e4
    obtain ⟨q1, q2⟩ := dRow_eq e1
    obtain ⟨q3, q4⟩ := dRows_eq e3
    refine ⟨by rw [q1, q3]; rfl, fun y hy => ?_⟩
    rcases List.mem_cons.mp hy with rfl | hy
    · exact q2
    · exact q4 y hy
theorem rows_alike (xs : List (List Int)) : PySem.W.AllAlike (xs.map encR) := by
  intro d hd d' hd'
  obtain ⟨x, _, rfl⟩ := List.mem_map.mp hd
  obtain ⟨y, _, rfl⟩ := List.mem_map.mp hd'
  show PySem.W.alike (.tuple _) (.tuple _) = true
  simp only [PySem.W.alike]
  exact PySem.W.alike_ints x y
theorem rows_sortable (xs : List (List Int)) (h : ∀ x ∈ xs, x ≠ []) : PySem.W.Sortable (xs.map encR) := .inl fun d hd => by
  obtain ⟨x, hx, rfl⟩ := List.mem_map.mp hd
  cases x with
  | nil => exact absurd rfl (h _ hx)
  | cons y r => exact ⟨_, _, rfl⟩
theorem rows_lt (x y : List Int) : PySem.W.dataLt (encR x) (encR y) = decide (x < y) := by
  show PySem.W.rowLt (x.map .int) (y.map .int) = _
  exact PySem.W.dataLt_ints x y
theorem rows_le : (fun x y => PySem.W.dataLe false id (encR x) (encR y)) = fun x y : List Int => decide (x ≤ y) := by
  funext x y
  rw [PySem.W.dataLe_eq]
  show (!PySem.W.dataLt (encR y) (encR x)) = _
  rw [rows_lt]
  by_cases h : y < x
  · simp [h]
  · simp [h, List.not_lt.mp h]
theorem rows_sort (xs : List (List Int)) : (xs.map encR).mergeSort (PySem.W.dataLe false id) = (xs.mergeSort fun x y => decide (x ≤ y)).map encR := by
  rw [List.map_mergeSort (r := fun x y => decide (x ≤ y)) (s := PySem.W.dataLe false id)]
  intro a _ b _
  exact (congrFun (congrFun rows_le a) b).symm
theorem rows_depth (x : List Int) : (encR x).depth ≤ 8 := by
  show PyData.depth (.tuple _) ≤ 8
  simp [PyData.depth, PySem.W.depth_ints]
theorem rows_lay (x : List Int) : (encR x).canLay0 = true := by
  show PyData.canLay0 (.tuple _) = true
  simp only [PyData.canLay0]
  induction x with
  | nil => simp [PyData.canLayAll0]
  | cons i r ih => simp [PyData.canLayAll0, PyData.canLay0, ih]
def Rv (K : PySem.W.Frag) (F : Hp) (v : Value) (d : D) : Prop := ∃ x, RelV x v ∧ Rp K F x d
theorem each_rv {K : PySem.W.Frag} {F : Hp} : ∀ {xs : List V} {us : List Value} {ds : List D}, Vals xs us → RpAll K F xs ds → PySem.W.EachIs (Rv K F) us ds
  | _, _, _, .nil, .nil => .nil
  | _, _, _, .cons r t, .cons r' t' => .cons ⟨_, r, r'⟩ (each_rv t t')
theorem rv_each {K : PySem.W.Frag} {F : Hp} {us : List Value} {ds : List D} (h : PySem.W.EachIs (Rv K F) us ds) : ∃ xs, Vals xs us ∧ RpAll K F xs ds := by
  induction h with
  | nil => exact ⟨[], .nil, .nil⟩
  | cons h _ ih =>
    obtain ⟨x, r, r'⟩ := h
    obtain ⟨xs, t, t'⟩ := ih
    exact ⟨x :: xs, .cons r t, .cons r' t'⟩
def srt (ns : List (List Int)) : List (List Int) := ns.mergeSort fun x y => decide (x ≤ y)
def rSortedR (K : PySem.W.Frag) : List V → Hp → VK → Prop := fun vs H Q => ∃ (a : Addr) (xs : List V) (ns : List (List Int)) (F : Hp), vs = [V.ref a] ∧ (SqL K H a xs ∨ SqT K H a xs) ∧ Same F H ∧ RpAll K F xs (ns.map encR) ∧ (∀ x ∈ ns, x ≠ []) ∧
  ∀ (ys : List V) (p : Addr), RpAll K F ys ((srt ns).map encR) → H p = none → Q (.ref p) (upd H p (.lst ys))
theorem cr_sortedR {X : Cx} (hu : X.A.units + 64 < cLine) : CallR X (.builtin "sorted") (rSortedR X.K) := by
  intro pins s σ H vs us Q I r h
  obtain ⟨a, xs, ns, F, rfl, hs, fh, rp, hne, q⟩ := h
  rw [Vals.ref1 r]
  have reads : ∀ {us : List Value}, Vals xs us → PySem.W.EachIs (fun v d => ∃ as, PySem.Reads s.heap v d as) us (ns.map encR) := by
    intro us rv
    have go : ∀ {xs : List V} {us : List Value} {ns : List (List Int)}, Vals xs us → RpAll X.K F xs (ns.map encR) → PySem.W.EachIs (fun v d => ∃ as, PySem.Reads s.heap v d as) us (ns.map encR) := by
      intro xs us ns
      induction ns generalizing xs us with
      | nil => intro h1 h2; cases h2; cases h1; exact .nil
      | cons x r ih =>
        intro h1 h2
        rw [List.map_cons] at h2
        cases h2 with
        | cons h3 h4 =>
          cases h1 with
          | cons h5 h6 => exact .cons (Dp.reads I _ _ _ (h3.dp fh _ _ (rows_lay x)) h5) (ih h6 h4)
    exact go rv rp
  have hu' : ∀ b, b ∈ ns.map encR → X.A.units + 2 + b.depth < cLine := fun b hb => by
    obtain ⟨x, _, rfl⟩ := List.mem_map.mp hb
    have := rows_depth x
    omega
  have fin : ∀ {out : List Value}, out.length = (ns.map encR).length → PySem.W.EachIs (Rv X.K F) out ((ns.map encR).mergeSort (PySem.W.dataLe false id)) → ∃ ys, Vals ys out ∧ RpAll X.K F ys ((srt ns).map encR) := by
    intro out _ e
    rw [rows_sort] at e
    exact rv_each e
  rcases hs with hs | hs
  · obtain ⟨its, rv, hl, hz⟩ := I.list hs
    have hz' : (ns.map encR).length ≤ sizeLine := by rw [← rp.length]; exact hz
    have e1 := each_rv rv rp
    have e2 := reads rv
    have b1 : (ns.map encR).map id = ns.map encR := List.map_id _
    refine PySem.W.sorted_data (enc := id) (R := Rv X.K F) hl.isList e1 e2 (by rw [b1]; exact rows_alike ns) (by rw [b1]; exact rows_sortable ns hne) hz' hu' fun out h1 h2 => ?_
    obtain ⟨ys, v1, v2⟩ := fin h1 h2
    obtain ⟨ep, he'⟩ := PyProof.Rows.sortedAll_at s.heap its out.toArray
    have hlen : ys.length ≤ sizeLine := by rw [v1.length, h1]; exact hz'
    exact ⟨.ref _, upd H (s.heap.objs.size + 1) (.lst ys), I.laid (t' := s.toks) (fun _ _ => PyProof.Rows.sortedAll_old) (Nat.le_succ _) ⟨hlen, out, ep, v1, he'⟩, rfl, q _ _ v2 (I.hok.fresh (Nat.le_succ _))⟩
  · obtain ⟨its, rv, ⟨o, ho, hc, n, hd⟩, hz⟩ := I.tuple hs
    have hz' : (ns.map encR).length ≤ sizeLine := by rw [← rp.length]; exact hz
    refine sorted_tupD (R := Rv X.K F) ho hc hd (each_rv rv rp) (reads rv) (rows_alike ns) (rows_sortable ns hne) hz' hu' fun out h' p ep h1 h2 ⟨hh, k1, k2, k3⟩ he' => ?_
    obtain ⟨ys, v1, v2⟩ := fin h1 h2
    have hlen : ys.length ≤ sizeLine := by rw [v1.length, h1]; exact hz'
    have I1 : Inv X pins σ H { s with heap := hh } := I.kept (t' := s.toks) k1
    exact ⟨.ref _, upd H p (.lst ys), I1.laid (t' := s.toks) k2 k3 ⟨hlen, out, ep, v1, he'⟩, rfl, q _ _ v2 (I1.hok.fresh k3)⟩
section
variable {G : Gx} {X : Cx} {e : Expr} {p pos : Pos} {m : M}
def dSorted : D → Option D
  | .list ds => (dRows ds).map fun ns => .list ((srt ns).map encR)
  | .tuple ds => (dRows ds).map fun ns => .list ((srt ns).map encR)
  | _ => none
theorem rSorted (ha : PE X e (rd G m)) (hm : X.mg "sorted" = none) (hu : X.A.units + 64 < cLine) (hK : G.K = X.K) (hg : Gl X "sorted" := by rfl) (he : starEach [e] X.env = (false, eval e X.env) :: starEach [] X.env := by rfl) (hpl : (backTo pos (starEach [] X.env)).any (·.1) = false := by rfl) : PE X (.Call (.Name "sorted" p) [e] [] pos) (rdo G (mUn dSorted m)) :=
  (pe_callB (cr_sortedR hu) hg hm (by decide +kernel) (pa_cons ha pa_nil he) (by decide) (by decide) he hpl).weak fun σ H Q ⟨ρ, T, F, d, ρ', S, em, k⟩ => by
    obtain ⟨d1, ρ1, e1, em⟩ := bind2 em
    obtain ⟨d3, e3, em⟩ := map2 em
    cases em
    refine ⟨ρ, T, F, d1, _, S, e1, fun v F1 H1 S1 q1 r => ?_⟩
    cases r with
    | lst s rr =>
      obtain ⟨ns, e4, e5⟩ := map2 (show (dRows _).map _ = some d from e3)
      subst e5
      obtain ⟨q2, q3⟩ := dRows_eq e4
      subst q2
      exact ⟨_, _, ns, F1, rfl, .inl (by rw [← hK]; exact sql_mono S1.fh s), S1.fh, by rw [← hK]; exact rr, q3, fun ys l h1 hl => k l F1 _ (S1.allocO hl ⟨_, upd_same, by rw [← hK] at h1; exact h1⟩) q1⟩
    | tup s rr =>
      obtain ⟨ns, e4, e5⟩ := map2 (show (dRows _).map _ = some d from e3)
      subst e5
      obtain ⟨q2, q3⟩ := dRows_eq e4
      subst q2
      exact ⟨_, _, ns, F1, rfl, .inr (by rw [← hK]; exact sqt_mono S1.fh s), S1.fh, by rw [← hK]; exact rr, q3, fun ys l h1 hl => k l F1 _ (S1.allocO hl ⟨_, upd_same, by rw [← hK] at h1; exact h1⟩) q1⟩
    | _ => cases e3
end
/-! ### new things that are lists or dicts -/
instance {it : MI} {g : MG} {mt : MT} {me : M} {vs : List Nat} : NoObj (mComp it g mt me vs) := ⟨fun ρ d ρ' h => by
  obtain ⟨p, _, e⟩ := obind (show (it ρ).bind _ = some (d, ρ') from h)
  obtain ⟨_, e⟩ : p.1.length ≤ 16777216 ∧ (compL g mt me vs p.1 (wipeE p.2 vs)).map (fun r => (PyData.list r.1, r.2)) = some (d, ρ') := by
    split at e
    · rename_i q; exact ⟨q, e⟩
    · cases e
  obtain ⟨q, _, e⟩ := map2 e
  cases e; rfl⟩
instance {ms : List (M × M)} : NoObj (mDict ms) := ⟨fun ρ d ρ' h => by
  obtain ⟨p, _, e⟩ := obind (show (mPairs ms ρ).bind _ = some (d, ρ') from h)
  split at e
  · cases e; rfl
  · cases e⟩
instance : NoObj mDictE := ⟨fun ρ d ρ' h => by cases h; rfl⟩
instance {as : MA} : NoObj (mLstS as) := ⟨fun ρ d ρ' h => by
  obtain ⟨p, _, e⟩ := obind (show (as ρ).bind _ = some (d, ρ') from h)
  split at e
  · cases e; rfl
  · cases e⟩
instance {m : M} : NoObj (mListOf m) := ⟨fun ρ d ρ' h => by
  obtain ⟨d1, ρ1, _, e⟩ := bind2 h
  obtain ⟨q, _, e⟩ := map2 e; cases e; rfl⟩
instance {m : M} : NoObj (mListRange m) := ⟨fun ρ d ρ' h => by
  obtain ⟨d1, ρ1, _, e⟩ := bind2 h
  cases d1 with
  | int n =>
    dsimp only at e
    split at e
    · cases e; rfl
    · cases e
  | _ => cases e⟩
class NoObj1 (g : D → Option D) : Prop where
  no : ∀ x d, g x = some d → objD d = false
class NoObj2 (g : D → D → Option D) : Prop where
  no : ∀ x y d, g x y = some d → objD d = false
instance {g : D → Option D} {m : M} [no : NoObj1 g] : NoObj (mUn g m) := ⟨fun ρ d ρ' h => by
  obtain ⟨d1, ρ1, _, e⟩ := bind2 h
  obtain ⟨q, e2, e⟩ := map2 e; cases e; exact no.no _ _ e2⟩
instance {g : D → D → Option D} {a b : M} [no : NoObj2 g] : NoObj (mBin g a b) := ⟨fun ρ d ρ' h => by
  obtain ⟨d1, ρ1, _, e⟩ := bind2 h
  obtain ⟨d2, ρ2, _, e⟩ := bind2 e
  obtain ⟨q, e2, e⟩ := map2 e; cases e; exact no.no _ _ _ e2⟩
instance : NoObj1 dSorted := ⟨fun x d h => by
  cases x with
  | list ds => obtain ⟨q, _, e⟩ := map2 (show (dRows ds).map _ = some d from h); subst e; rfl
  | tuple ds => obtain ⟨q, _, e⟩ := map2 (show (dRows ds).map _ = some d from h); subst e; rfl
  | _ => cases h⟩
instance : NoObj2 dCatL := ⟨fun x y d h => by
  unfold dCatL at h
  split at h
  · split at h <;> cases h
    rfl
  · cases h⟩
instance : NoObj2 dSplit := ⟨fun x y d h => by
  unfold dSplit at h
  split at h
  · split at h <;> cases h
    rfl
  · cases h⟩
instance : NoObj2 dRepL := ⟨fun x y d h => by
  unfold dRepL at h
  split at h
  · split at h <;> cases h
    rfl
  · cases h⟩
end MM
/-! M21: objects: attributes read and stored, methods, new ones. -/
namespace MM
open PySem L2
/-- the attributes of the object that a slot holds -/
def objF (c : Str) (ρ : En) (i : Nat) : Option (List (D × D)) := match ρ[i]? with
  | some (.ow (.tuple [.str c', .dict fs])) => if c' = c then some fs else none
  | some (.io (.tuple [.str c', .dict fs])) => if c' = c then some fs else none
  | _ => none
def obj (c : Str) (fs : List (D × D)) : D := .tuple [.str c, .dict fs]
def lookF (f : Str) : List (D × D) → Option D
  | [] => none
  | (.str k, d) :: r => if f = k then some d else lookF f r
  | _ :: r => lookF f r
def putFD (f : Str) (d : D) : List (D × D) → List (D × D)
  | [] => [(.str f, d)]
  | (.str g, x) :: r => if g = f then (.str g, d) :: r else (.str g, x) :: putFD f d r
  | z :: r => z :: putFD f d r
theorem RpF.look {K : PySem.W.Frag} {F : Hp} {f : Str} : ∀ {l : List (Str × V)} {fs : List (D × D)}, RpF K F l fs → (∀ d, lookF f fs = some d → ∃ v, l.lookup f = some v ∧ Rp K F v d) ∧ (lookF f fs = none → l.lookup f = none)
  | _, _, .nil => ⟨fun d h => (by cases h), fun _ => rfl⟩
  | _, _, .cons (k := k) (v := v) (l := l) (d := d0) (ds := ds) r t => by
    obtain ⟨h1, h2⟩ := RpF.look (f := f) t
    show (∀ d, (if f = k then some d0 else lookF f ds) = some d → ∃ v', List.lookup f ((k, v) :: l) = some v' ∧ Rp K F v' d) ∧ ((if f = k then some d0 else lookF f ds) = none → List.lookup f ((k, v) :: l) = none)
    rw [List.lookup_cons]
    by_cases e : f = k
    · rw [if_pos e, beq_iff_eq.mpr e]
      exact ⟨fun d h => by cases h; exact ⟨v, rfl, r⟩, fun h => by cases h⟩
    · rw [if_neg e, beq_eq_false_iff_ne.mpr e]
      exact ⟨h1, h2⟩
theorem RpF.put {K : PySem.W.Frag} {F : Hp} {f : Str} {v : V} {d : D} (rv : Rp K F v d) : ∀ {l : List (Str × V)} {fs : List (D × D)}, RpF K F l fs → RpF K F (putF f v l) (putFD f d fs)
  | _, _, .nil => .cons rv .nil
  | _, _, .cons (k := k) (v := w) (l := l) (d := d0) (ds := ds) r t => by
    show RpF K F (if k = f then (k, v) :: l else (k, w) :: putF f v l) (if k = f then (.str k, d) :: ds else (.str k, d0) :: putFD f d ds)
    by_cases e : k = f
    · rw [if_pos e, if_pos e]; exact .cons rv t
    · rw [if_neg e, if_neg e]; exact .cons r (RpF.put rv t)
theorem RpF.length {K : PySem.W.Frag} {F : Hp} : ∀ {l : List (Str × V)} {fs : List (D × D)}, RpF K F l fs → l.length = fs.length
  | _, _, .nil => rfl
  | _, _, .cons _ t => by rw [List.length_cons, List.length_cons, t.length]
theorem objF_own {c : Str} {ρ : En} {i : Nat} {fs : List (D × D)} (h : objF c ρ i = some fs) : ownD ρ i = some (obj c fs) := by
  unfold objF at h
  unfold ownD
  split at h
  · rename_i c' fs' e
    split at h
    · rename_i q; cases h; rw [e, q]; rfl
    · cases h
  · rename_i c' fs' e
    split at h
    · rename_i q; cases h; rw [e, q]; rfl
    · cases h
  · cases h
/-- the module's class -/
structure HasC (K : PySem.W.Frag) (c : Str) (fs : List Str) : Prop where
  ex : ∃ C, PySem.W.nsIn K mainGlobals c = some (some (.ref C)) ∧ Cls K C ∧ ∀ f ∈ fs, NoAttr K C f
theorem HasC.at {K : PySem.W.Frag} {c : Str} {ks : List Str} (z : HasC K c ks) {F H : Hp} {a : Addr} {fs : List (D × D)} (w : Own K F H a (obj c fs)) : ∃ C dx l, H a = some (.ins C dx l) ∧ RpF K F l fs ∧ Cls K C ∧ (∀ f ∈ ks, NoAttr K C f) ∧ PySem.W.nsIn K mainGlobals c = some (some (.ref C)) := by
  obtain ⟨C', e, c1, c2⟩ := z.ex
  rcases own_tup w with ⟨c0, fs0, q, C, dx, l, h1, h2, h3⟩ | ⟨as, q, _⟩
  · cases q
    rw [h1] at e; cases e
    exact ⟨_, dx, l, h2, h3, c1, c2, h1⟩
  · cases as with
    | nil => cases q
    | cons x r => cases q
def mFld (c f : Str) (i : Nat) : M := fun ρ => (objF c ρ i).bind fun fs => (lookF f fs).map fun d => (d, ρ)
def mSetF (c f : Str) (i : Nat) (a : M) : MS := fun ρ => (a ρ).bind fun p => (objF c p.2 i).bind fun fs => if fs.length < 1000 then some (.nx, putD p.2 i (obj c (putFD f p.1 fs))) else none
section
variable {G : Gx} {X : Cx} {e value : Expr} {es : List Expr} {x c f : Str} {ks : List Str} {px apos pos pos' p : Pos} {m : M} {ms : MA} {k : Nat}
theorem rFld (i : Nat) (z : HasC X.K c ks) (hf : f ∈ ks) (hK : G.K = X.K) (hN : X.N[i]? = some x := by rfl) (hv : Vis X.env.scope x := by first | exact Or.inl rfl | exact Or.inr (Or.inl rfl) | exact Or.inr (Or.inr rfl)) (hd : (x == ("__debug__" : Str)) = false := by decide) (hcd : (x == ("__classdict__" : Str)) = false := by decide)
    (hb : attributeBase (.Name x px) f X.env (eval (.Name x px) X.env) = eval (.Name x px) X.env := by rfl) : PE X (.Attribute (.Name x px) f pos) (rd G (mFld c f i)) :=
  (pe_fld (pe_var hN hv hd hcd) hb).weak fun σ H Q ⟨ρ, T, F, d, ρ', S, em, k⟩ => by
    obtain ⟨fs, e1, em⟩ := obind em
    obtain ⟨d', e2, em⟩ := map2 em
    cases em
    obtain ⟨a, h1, _, w, _⟩ := S.own (objF_own e1)
    obtain ⟨C, dx, l, h2, h3, h4, h5, _⟩ := z.at (by rw [← hK]; exact w)
    obtain ⟨v, l1, l2⟩ := h3.look.1 d e2
    exact ⟨_, h1, a, C, dx, l, v, rfl, h2, h4, h5 f hf, l1, k v F H S (Same.refl F) (by rw [hK]; exact l2)⟩
theorem sSetF (i : Nat) (z : HasC X.K c ks) (hf : f ∈ ks) (hv : PE X value (rd G m)) (hK : G.K = X.K) (hN : X.N[i]? = some x := by rfl) (hvs : Vis X.env.scope x := by first | exact Or.inl rfl | exact Or.inr (Or.inl rfl) | exact Or.inr (Or.inr rfl)) (hd : (x == ("__debug__" : Str)) = false := by decide) (hcd : (x == ("__classdict__" : Str)) = false := by decide)
    (hs : swapsWith value (some (.Attribute (.Name x px) f pos')) pos.line X.env = pure false := by rfl) : PS X (.Assign [.Attribute (.Name x px) f pos'] value pos) (rds G (mSetF c f i m)) :=
  (ps_fld (pe_var hN hvs hd hcd) hv hs).weak fun W σ H ⟨ρ, T, F, fl, ρ', S, em, k⟩ => by
    obtain ⟨d, ρ1, e1, em⟩ := bind2 em
    obtain ⟨fs, e2, em⟩ := obind em
    obtain ⟨hl, em⟩ := ite_some em
    cases em
    refine ⟨ρ, T, F, d, ρ1, S, e1, fun v F1 H1 S1 q1 r => ?_⟩
    obtain ⟨a, h1, hF, w, ch⟩ := S1.own (objF_own e2)
    obtain ⟨C, dx, l, h2, h3, h4, h5, h6⟩ := z.at (by rw [← hK]; exact w)
    refine ⟨_, h1, a, C, dx, l, rfl, h2, h4, h5 f hf, by rw [h3.length]; exact hl, ?_⟩
    exact k _ F1 _ (ch _ _ ⟨C, dx, _, by rw [hK]; exact h6, upd_same, (by rw [hK]; exact h3 : RpF G.K F1 l fs).put r⟩) q1
/-! methods -/
def CalM (P : Program) (w : World) (K : PySem.W.Frag) (mg : Str → Option Value) (base : Heap) (k : Nat) (c m : Str) (sp : Sp) (dds : List D) : Prop :=
  ∃ C f fd ps dvs ds, PySem.W.nsIn K mainGlobals c = some (some (.ref C)) ∧ Cls K C ∧ Meth K C m f ∧ FnOk P w K mg base CX0 k f fd ps sp ∧ Binds K fd ps ds ∧ Vals dvs ds ∧ ∀ F, RpAll K F dvs dds
def mMeth (c m : Str) (f : FSI) (dds : List D) (i : Nat) (as : MA) : M := fun ρ => (objF c ρ i).bind fun fs => if (lookF m fs).isSome then none else
  (as ρ).bind fun p => (ownD p.2 i).bind fun row => (f row (p.1 ++ dds)).map fun r => (r.1, putD p.2 i r.2.2)
/-- what a method's call leaves -/
theorem StR.meth {ρ : En} {σ : L2.St} {T : TL} {F H F' H' : Hp} {i : Nat} {a : Addr} {row row' d : D} {o : Bool} {v : V} (S : StR G ρ σ T F H) (h : ownD ρ i = some row) (hi : σ[i]? = some (some (.ref a)))
    (eF : Same F F') (fh : Same F' H') (eH : ∀ b u, b ≠ a → H b = some u → H' b = some u) (n : NewF F H F') (wo : Own G.K F' H' a row') (ro : ResOk G.K H F' H' v d o) :
    ∃ F2, Same F' F2 ∧ StR G (putD ρ i row') σ T F2 H' ∧ Rp G.K F2 v d := by
  unfold ownD at h
  unfold putD
  split at h
  · rename_i d0 e; cases h
    have S2 := S.chgO e hi eF fh eH n wo
    obtain ⟨F3, z1, z2, z3⟩ := S2.resI hi (fun b q => S.h0none q) (fun j e' b hj hb => by
      have : ∃ e, ρ[j]? = some (.ow e) := by
        rcases set_get hj with ⟨q1, q, _⟩ | ⟨_, q⟩
        · rw [q1]; exact ⟨row, e⟩
        · exact ⟨e', q⟩
      obtain ⟨e'', q⟩ := this
      obtain ⟨b', y1, _, _, y4⟩ := S.ow j e'' q
      rw [hb] at y1; cases y1
      obtain ⟨o, ho⟩ := y4.some
      rw [ho]; simp) (fun q hq => by
      obtain ⟨_, _, y4⟩ := S.tm q hq
      obtain ⟨o, ho⟩ := y4.some
      rw [ho]; simp) ro
    exact ⟨F3, z1, z2, z3⟩
  · rename_i d0 e; cases h
    have S2 := S.chgI e hi eF fh eH n wo
    obtain ⟨F3, z1, z2, z3⟩ := S2.resI hi (fun b q => S.h0none q) (fun j e' b hj hb => by
      rcases set_get hj with ⟨_, q, _⟩ | ⟨_, q⟩
      · cases q
      · obtain ⟨b', y1, _, _, y4⟩ := S.ow j e' q
        rw [hb] at y1; cases y1
        obtain ⟨o, ho⟩ := y4.some
        rw [ho]; simp) (fun q hq => by
      obtain ⟨_, _, y4⟩ := S.tm q hq
      obtain ⟨o, ho⟩ := y4.some
      rw [ho]; simp) ro
    exact ⟨F3, z1, z2, z3⟩
  · cases h
theorem meth_rd {t : TA} {C : Addr} {f : FSI} {n nn : Nat} {dds : List D} {dvs : List V} {E : XK} {mm : Str} {i : Nat} (ht : ∀ σ H Q, rda G ms σ H Q → t σ H Q) (hl : MLen ms n) (hn : n + dds.length + 1 = nn) (hC : PySem.W.nsIn X.K mainGlobals c = some (some (.ref C))) (hdd : ∀ F, RpAll X.K F dvs dds) (hK : G.K = X.K) :
    ∀ σ H Q, rd G (mMeth c mm f dds i ms) σ H Q → tMeth C mm (spI X.K nn f) dvs E (tVar i) t σ H Q := fun σ H Q ⟨ρ, T, F, d, ρ', S, em, kk⟩ => by
  obtain ⟨fs, e0, em⟩ := obind em
  split at em
  · cases em
  rename_i hm
  obtain ⟨as, ρ1, e1, em⟩ := bindA em
  obtain ⟨row, e2, em⟩ := obind em
  obtain ⟨r, e3, em⟩ := map2 em
  cases em
  obtain ⟨a, h1, _, w, _⟩ := S.own (objF_own e0)
  rcases own_tup w with ⟨c0, fs0, q, C', dx, l, h2, h3, h4⟩ | ⟨as, q, _⟩
  · cases q
    rw [hK, hC] at h2
    cases h2
    refine ⟨_, h1, a, dx, l, rfl, h3, h4.look.2 (by cases q : lookF mm fs <;> simp_all), ht _ _ _ ⟨ρ, T, F, as, ρ1, S, e1, fun vs F1 H1 S1 q1 ra => ?_⟩⟩
    obtain ⟨a', h5, hF, w', _⟩ := S1.own e2
    rw [h1] at h5; cases h5
    refine ⟨F1, a, vs ++ dvs, row, as ++ dds, r.1, r.2.1, r.2.2, rfl, S1.fh, hF, by rw [← hK]; exact w', by rw [← hK]; exact ra.append (by rw [hK]; exact hdd F1), by rw [List.length_append, hl _ _ _ e1]; exact hn, e3, fun v F2 H2 eF fh eH nw wo ro => ?_⟩
    obtain ⟨F3, z1, z2, z3⟩ := S1.meth e2 h1 eF fh eH nw (by rw [hK]; exact wo) (by rw [hK]; exact ro)
    exact kk v F3 H2 z2 ((q1.trans eF).trans z1) z3
  · cases as with
    | nil => cases q
    | cons x r => cases q
theorem rMeth (i : Nat) {f : FSI} {n : Nat} {mm : Str} {dds : List D} {pl : Sem Bool} (Cm : CalM X.prog X.w X.K X.mg X.base k c mm (spI X.K n f) dds) (hr : Room k X.A) (ha : RA G X (e :: es) ms) (hn : (e :: es).length + dds.length + 1 = n) (hK : G.K = X.K)
    (hN : X.N[i]? = some x := by rfl) (hv : Vis X.env.scope x := by first | exact Or.inl rfl | exact Or.inr (Or.inl rfl) | exact Or.inr (Or.inr rfl)) (hd : (x == ("__debug__" : Str)) = false := by decide) (hcd : (x == ("__classdict__" : Str)) = false := by decide)
    (hst : starEach (e :: es) X.env = (false, eval e X.env) :: starEach es X.env := by rfl) (hpl : (backTo pos (starEach es X.env)).any (·.1) = false := by rfl)
    (ht : eval (.Call (.Attribute (.Name x px) mm apos) (e :: es) [] pos) X.env = (do
      let ov ← eval (.Name x px) X.env
      standAt apos.atName
      let (f, first) ← holding [ov] (getMethod ov mm pl)
      callWith pos f first (backTo pos (starEach (e :: es) X.env)) (backToKw pos (keywordEach [] X.env))) := by rfl) : PE X (.Call (.Attribute (.Name x px) mm apos) (e :: es) [] pos) (rd G (mMeth c mm f dds i ms)) := by
  obtain ⟨C, fa, fd, ps, dvs, ds, hC, cl, hm, F0, hb, hdv, hdd⟩ := Cm
  exact (pe_meth (pe_var hN hv hd hcd) cl hm F0 hr hb hdv pass0 ha.pa hst hpl ht).weak (meth_rd (fun _ _ _ h => h) ha.len hn hC hdd hK)
theorem rMeth0 (i : Nat) {f : FSI} {n : Nat} {mm : Str} {dds : List D} {pl : Sem Bool} (Cm : CalM X.prog X.w X.K X.mg X.base k c mm (spI X.K n f) dds) (hr : Room k X.A) (hn : dds.length + 1 = n) (hK : G.K = X.K)
    (hN : X.N[i]? = some x := by rfl) (hv : Vis X.env.scope x := by first | exact Or.inl rfl | exact Or.inr (Or.inl rfl) | exact Or.inr (Or.inr rfl)) (hd : (x == ("__debug__" : Str)) = false := by decide) (hcd : (x == ("__classdict__" : Str)) = false := by decide)
    (ht : eval (.Call (.Attribute (.Name x px) mm apos) [] [] pos) X.env = (do
      let ov ← eval (.Name x px) X.env
      standAt apos.atName
      let (f, first) ← holding [ov] (getMethod ov mm pl)
      callWith pos f first (backTo pos (starEach [] X.env)) (backToKw pos (keywordEach [] X.env))) := by rfl) : PE X (.Call (.Attribute (.Name x px) mm apos) [] [] pos) (rd G (mMeth c mm f dds i mNil)) := by
  obtain ⟨C, fa, fd, ps, dvs, ds, hC, cl, hm, F0, hb, hdv, hdd⟩ := Cm
  exact (pe_meth0 (pe_var hN hv hd hcd) cl hm F0 hr hb hdv pass0 ht).weak (meth_rd (n := 0) (fun σ H Q ⟨ρ, T, F, ds, ρ', S, em, k⟩ => by
    cases em
    exact k [] F H S (Same.refl F) .nil) (fun _ _ _ h => by cases h; rfl) (by omega) hC hdd hK)
/-! a new object -/
def CalC (P : Program) (w : World) (K : PySem.W.Frag) (mg : Str → Option Value) (base : Heap) (k : Nat) (c : Str) (sp : Sp) (dds : List D) : Prop :=
  ∃ C f fd ps dvs ds, PySem.W.nsIn K mainGlobals c = some (some (.ref C)) ∧ mg c = some (.ref C) ∧ Mk K C f ∧ FnOk P w K mg base CX0 k f fd ps sp ∧ Binds K fd ps ds ∧ Vals dvs ds ∧ ∀ F, RpAll K F dvs dds
def mMake (c : Str) (f : FSI) (dds : List D) (as : MA) : M := fun ρ => (as ρ).bind fun p => (f (obj c []) (p.1 ++ dds)).bind fun r => match r with
  | (.none, false, row) => some (row, p.2)
  | _ => none
theorem make_rd {t : TA} {C : Addr} {f : FSI} {n nn : Nat} {dds : List D} {dvs : List V} {E : XK} (ht : ∀ σ H Q, rda G ms σ H Q → t σ H Q) (hl : MLen ms n) (hn : n + dds.length + 1 = nn) (hC : PySem.W.nsIn X.K mainGlobals c = some (some (.ref C))) (hdd : ∀ F, RpAll X.K F dvs dds) (hK : G.K = X.K) :
    ∀ σ H Q, rdo G (mMake c f dds ms) σ H Q → tMake C (spI X.K nn f) dvs E t σ H Q := fun σ H Q ⟨ρ, T, F, d, ρ', S, em, kk⟩ => by
  obtain ⟨as, ρ1, e1, em⟩ := bindA em
  obtain ⟨r, e3, em⟩ := obind em
  split at em
  · rename_i row
    cases em
    refine ht _ _ _ ⟨ρ, T, F, as, ρ1, S, e1, fun vs F1 H1 S1 q1 ra b dx hb hdx hne => ?_⟩
    have fb : F1 b = none := S1.fnone hb
    have old : ∀ q u, H1 q = some u → upd (upd H1 dx (.own b)) b (.ins C dx []) q = some u := fun q u e => by
      rw [upd_ne (ne_of_none e hb), upd_ne (ne_of_none e hdx)]; exact e
    refine ⟨F1, b, vs ++ dvs, obj c [], as ++ dds, .none, false, d, rfl, fun q u e => old q u (S1.fh q u e), fb, ⟨C, dx, [], hC, upd_same, .nil⟩, by rw [← hK]; exact ra.append (by rw [hK]; exact hdd F1), by rw [List.length_append, hl _ _ _ e1]; exact hn, e3, fun v F2 H2 eF fh eH nw wo ro => ?_⟩
    have hv : v = .non := by
      have r' : Rp X.K F2 v .none := ro
      cases r'; rfl
    refine ⟨hv, ?_⟩
    have S2 : StR G ρ1 σ T F2 H2 := S1.grow eF fh (fun q u e => eH q u (ne_of_none e hb) (old q u e)) fun q e => by
      rcases nw q e with z | z
      · exact .inl z
      · right
        cases e0 : H1 q with
        | none => rfl
        | some u => rw [old q u e0] at z; cases z
    have f2 : F2 b = none := by
      cases e0 : F2 b with
      | none => rfl
      | some u =>
        rcases nw b (by rw [e0]; simp) with z | z
        · exact absurd fb z
        · rw [upd_same] at z; cases z
    refine kk b F2 H2 { S2 with tm := fun q hq => ?_, ts := fun q hq i e' he' => ?_, tn := ?_ } (q1.trans eF)
    · rcases List.mem_cons.mp hq with rfl | hq
      · exact ⟨f2, S1.h0none hb, by rw [hK]; exact wo⟩
      · exact S2.tm q hq
    · rcases List.mem_cons.mp hq with rfl | hq
      · intro z
        obtain ⟨b', z1, _, _, z4⟩ := S1.ow i e' he'
        obtain ⟨u', hu⟩ := z4.some
        rw [z1] at z
        cases z
        rw [hb] at hu; cases hu
      · exact S2.ts q hq i e' he'
    · rw [List.map_cons, List.nodup_cons]
      refine ⟨fun hm => ?_, S2.tn⟩
      obtain ⟨q, hq, e⟩ := List.mem_map.mp hm
      obtain ⟨_, _, w'⟩ := S1.tm q hq
      obtain ⟨u', hu⟩ := w'.some
      rw [e, hb] at hu; cases hu
  · cases em
theorem rMake {f : FSI} {n : Nat} {dds : List D} (Cm : CalC X.prog X.w X.K X.mg X.base k c (spI X.K n f) dds) (hr : Room (k + 1) X.A) (ha : RA G X (e :: es) ms) (hn : (e :: es).length + dds.length + 1 = n) (hK : G.K = X.K) (hg : Gl X c := by rfl) (hdb : (c == ("__debug__" : Str)) = false := by decide)
    (he : starEach (e :: es) X.env = (false, eval e X.env) :: starEach es X.env := by rfl) (hpl : (backTo pos (starEach es X.env)).any (·.1) = false := by rfl) : PE X (.Call (.Name c p) (e :: es) [] pos) (rdo G (mMake c f dds ms)) := by
  obtain ⟨C, fa, fd, ps, dvs, ds, hC, hm, mk, F0, hb, hdv, hdd⟩ := Cm
  exact (pe_make mk F0 hr hg hm hb hdv pass0 ha.pa hdb he hpl).weak (make_rd (fun _ _ _ h => h) ha.len hn hC hdd hK)
/-! x.f += e -/
def mAugF (c f : Str) (i : Nat) (g : D → D → Option D) (a : M) : MS := fun ρ => (objF c ρ i).bind fun fs => (lookF f fs).bind fun d => (a ρ).bind fun p => (g d p.1).bind fun d' => (objF c p.2 i).bind fun fs' => if fs'.length < 1000 then some (.nx, putD p.2 i (obj c (putFD f d' fs'))) else none
theorem sAugF (i : Nat) {op : Operator} {r : R2} {g : D → D → Option D} (hop : InOp X op r) (o : Op2 G.K r g) (z : HasC X.K c ks) (hf : f ∈ ks) (hv : PE X value (rd G m)) (hK : G.K = X.K) (hN : X.N[i]? = some x := by rfl) (hvs : Vis X.env.scope x := by first | exact Or.inl rfl | exact Or.inr (Or.inl rfl) | exact Or.inr (Or.inr rfl)) (hd : (x == ("__debug__" : Str)) = false := by decide) (hcd : (x == ("__classdict__" : Str)) = false := by decide) :
    PS X (.AugAssign (.Attribute (.Name x px) f pos') op value pos) (rds G (mAugF c f i g m)) :=
  (ps_fldaug (pe_var hN hvs hd hcd) hv hop).weak fun W σ H ⟨ρ, T, F, fl, ρ', S, em, k⟩ => by
    obtain ⟨fs, e1, em⟩ := obind em
    obtain ⟨d, e2, em⟩ := obind em
    obtain ⟨d1, ρ1, e3, em⟩ := bind2 em
    obtain ⟨d', e4, em⟩ := obind em
    obtain ⟨fs', e5, em⟩ := obind em
    obtain ⟨hl, em⟩ := ite_some em
    cases em
    obtain ⟨a, h1, _, w, _⟩ := S.own (objF_own e1)
    obtain ⟨C, dx, l, h2, h3, h4, h5, h6⟩ := z.at (by rw [← hK]; exact w)
    obtain ⟨v, l1, l2⟩ := h3.look.1 d e2
    refine ⟨_, h1, a, C, dx, l, v, rfl, h2, h4, h5 f hf, l1, ρ, T, F, d1, ρ1, S, e3, fun y F1 H1 S1 q1 ry => ?_⟩
    refine o F1 H1 v y d d1 d' _ S1.fh (by rw [hK]; exact l2.mono q1) ry e4 fun u F2 H2 gr ru => ?_
    obtain ⟨S2, q2⟩ := gr.st S1
    obtain ⟨a', h7, _, w', ch⟩ := S2.own (objF_own e5)
    rw [h1] at h7; cases h7
    obtain ⟨C', dx', l', h8, h9, _, _, h10⟩ := z.at (by rw [← hK]; exact w')
    rw [h6] at h10; cases h10
    refine ⟨dx', l', h8, by rw [h9.length]; exact hl, ?_⟩
    exact k _ F2 _ (ch _ _ ⟨C, dx', _, by rw [hK]; exact h6, upd_same, (by rw [hK]; exact h9 : RpF G.K F2 l' fs').put ru⟩) (q1.trans q2)
end
end MM
/-! M22: reckoning with objects. -/
namespace MM
open PySem L2
section
variable {ρ : En} {Q : D → En → Prop} {S : Fl → En → Prop} {c m f : Str} {i : Nat} {a : M} {as : MA} {fs : List (D × D)} {d : D} {dds : List D}
def objK (c : Str) : Option Sl → Option (List (D × D))
  | some (.ow (.tuple [.str c', .dict fs])) => if c' = c then some fs else none
  | some (.io (.tuple [.str c', .dict fs])) => if c' = c then some fs else none
  | _ => none
theorem objF_k : objF c ρ i = objK c ρ[i]? := by
  unfold objF objK
  cases ρ[i]? with
  | none => rfl
  | some s =>
    cases s <;> rfl
theorem objK_o : objK c (some (.ow (obj c fs))) = some fs := by
  show (if c = c then some fs else none) = some fs
  rw [if_pos rfl]
theorem objK_i : objK c (some (.io (obj c fs))) = some fs := by
  show (if c = c then some fs else none) = some fs
  rw [if_pos rfl]
theorem lookF_n : lookF f [] = none := rfl
theorem lookF_c {k : Str} {r : List (D × D)} : lookF f ((.str k, d) :: r) = if (f == k) = true then some d else lookF f r := by
  show (if f = k then some d else lookF f r) = _
  by_cases h : f = k
  · rw [if_pos h, if_pos (by simp [h])]
  · rw [if_neg h, if_neg (by simp [h])]
theorem putFD_n : putFD f d [] = [(.str f, d)] := rfl
theorem putFD_c {k : Str} {x : D} {r : List (D × D)} : putFD f d ((.str k, x) :: r) = if (k == f) = true then (.str k, d) :: r else (.str k, x) :: putFD f d r := by
  show (if k = f then _ else _) = _
  by_cases h : k = f
  · rw [if_pos h, if_pos (by simp [h])]
  · rw [if_neg h, if_neg (by simp [h])]
def kFld (f : Str) (Q : D → En → Prop) (ρ : En) (fs : List (D × D)) : Prop := wO (lookF f fs) (kR Q ρ)
theorem wM_Fld : wM (mFld c f i) ρ Q ↔ wO (objK c ρ[i]?) (kFld f Q ρ) := by
  unfold wM mFld
  rw [ex_pair, ex_bind, objF_k]
  refine ⟨fun ⟨x, h, z⟩ => ⟨x, h, ?_⟩, fun ⟨x, h, z⟩ => ⟨x, h, ?_⟩⟩
  · rw [ex_map] at z
    exact z
  · rw [ex_map]
    exact z
def kSF2 (c f : Str) (i : Nat) (S : Fl → En → Prop) (d : D) (ρ : En) (fs : List (D × D)) : Prop := fs.length < 1000 ∧ S .nx (putD ρ i (obj c (putFD f d fs)))
def kSF1 (c f : Str) (i : Nat) (S : Fl → En → Prop) (d : D) (ρ : En) : Prop := wO (objK c ρ[i]?) (kSF2 c f i S d ρ)
theorem wS_SetF : wS (mSetF c f i a) ρ S ↔ wM a ρ (kSF1 c f i S) := by
  unfold wS mSetF wM
  rw [ex_pair, ex_bind]
  refine ⟨fun ⟨x, h, z⟩ => ⟨x.1, x.2, h, ?_⟩, fun ⟨d, r, h, z⟩ => ⟨(d, r), h, ?_⟩⟩
  · rw [ex_bind, objF_k] at z
    obtain ⟨fs, h2, y, h3, q⟩ := z
    obtain ⟨h4, h5⟩ := ite_some h3
    subst h5
    exact ⟨fs, h2, h4, q⟩
  · obtain ⟨fs, h2, h4, q⟩ := z
    rw [ex_bind, objF_k]
    exact ⟨fs, h2, _, by rw [if_pos h4], q⟩
def kMe3 (i : Nat) (Q : D → En → Prop) (ρ : En) (d : D) (_ : Bool) (row : D) : Prop := Q d (putD ρ i row)
def kMe2 (f : FSI) (dds : List D) (i : Nat) (Q : D → En → Prop) (ds : List D) (ρ : En) (row : D) : Prop := wFI f row (ds ++ dds) (kMe3 i Q ρ)
def kMe1 (f : FSI) (dds : List D) (i : Nat) (Q : D → En → Prop) (ds : List D) (ρ : En) : Prop := wO (ownD ρ i) (kMe2 f dds i Q ds ρ)
def kMe0 (m : Str) (f : FSI) (dds : List D) (i : Nat) (as : MA) (Q : D → En → Prop) (ρ : En) (fs : List (D × D)) : Prop := (lookF m fs).isSome = false ∧ wA as ρ (kMe1 f dds i Q)
theorem wM_Meth {f : FSI} : wM (mMeth c m f dds i as) ρ Q ↔ wO (objK c ρ[i]?) (kMe0 m f dds i as Q ρ) := by
  unfold wM mMeth
  rw [ex_pair, ex_bind, objF_k]
  refine ⟨fun ⟨x, h, z⟩ => ⟨x, h, ?_⟩, fun ⟨x, h, z1, z⟩ => ⟨x, h, ?_⟩⟩
  · obtain ⟨y, h2, q⟩ := z
    split at h2
    · cases h2
    rename_i hn
    refine ⟨by simpa using hn, ?_⟩
    have h2' : ∃ z, (as ρ).bind (fun p => (ownD p.2 i).bind fun row => (f row (p.1 ++ dds)).map fun r => (r.1, putD p.2 i r.2.2)) = some z ∧ Q z.1 z.2 := ⟨y, h2, q⟩
    rw [ex_bind] at h2'
    obtain ⟨p, e1, e2⟩ := h2'
    rw [ex_bind] at e2
    obtain ⟨row, e3, e4⟩ := e2
    rw [ex_map] at e4
    obtain ⟨r, e5, e6⟩ := e4
    exact ⟨p.1, p.2, e1, row, e3, r.1, r.2.1, r.2.2, e5, e6⟩
  · obtain ⟨ds, r1, e1, row, e3, d, o, row', e5, e6⟩ := z
    rw [if_neg (by simp [z1])]
    rw [ex_bind]
    refine ⟨(ds, r1), e1, ?_⟩
    rw [ex_bind]
    refine ⟨row, e3, ?_⟩
    rw [ex_map]
    exact ⟨(d, o, row'), e5, e6⟩
def kMk2 (Q : D → En → Prop) (ρ : En) (d : D) (o : Bool) (row : D) : Prop := d = .none ∧ o = false ∧ Q row ρ
def kMk1 (c : Str) (f : FSI) (dds : List D) (Q : D → En → Prop) (ds : List D) (ρ : En) : Prop := wFI f (obj c []) (ds ++ dds) (kMk2 Q ρ)
theorem wM_Make {f : FSI} : wM (mMake c f dds as) ρ Q ↔ wA as ρ (kMk1 c f dds Q) := by
  unfold wM mMake
  rw [ex_pair, ex_bind]
  refine ⟨fun ⟨x, h, z⟩ => ⟨x.1, x.2, h, ?_⟩, fun ⟨ds, r, h, z⟩ => ⟨(ds, r), h, ?_⟩⟩
  · rw [ex_bind] at z
    obtain ⟨y, h2, w, h3, q⟩ := z
    split at h3
    · cases h3
      exact ⟨_, _, _, h2, rfl, rfl, q⟩
    · cases h3
  · obtain ⟨d, o, row, h2, rfl, rfl, q⟩ := z
    rw [ex_bind]
    exact ⟨(.none, false, row), h2, _, rfl, q⟩
def kAF4 (c f : Str) (i : Nat) (S : Fl → En → Prop) (ρ : En) (d : D) : Prop := wO (objK c ρ[i]?) (kSF2 c f i S d ρ)
def kAFb (c f : Str) (i : Nat) (g : D → D → Option D) (S : Fl → En → Prop) (x : D) (y : D) (ρ : En) : Prop := wO (g x y) (kAF4 c f i S ρ)
def kAFa (c f : Str) (i : Nat) (g : D → D → Option D) (a : M) (S : Fl → En → Prop) (ρ : En) (x : D) : Prop := wM a ρ (kAFb c f i g S x)
def kAF0 (c f : Str) (i : Nat) (g : D → D → Option D) (a : M) (S : Fl → En → Prop) (ρ : En) (fs : List (D × D)) : Prop := wO (lookF f fs) (kAFa c f i g a S ρ)
theorem wS_AugF {g : D → D → Option D} : wS (mAugF c f i g a) ρ S ↔ wO (objK c ρ[i]?) (kAF0 c f i g a S ρ) := by
  unfold wS mAugF
  rw [ex_pair, ex_bind, objF_k]
  refine ⟨fun ⟨x, h, z⟩ => ⟨x, h, ?_⟩, fun ⟨x, h, z⟩ => ⟨x, h, ?_⟩⟩
  · rw [ex_bind] at z
    obtain ⟨d, h2, z⟩ := z
    rw [ex_bind] at z
    obtain ⟨p, h3, z⟩ := z
    rw [ex_bind] at z
    obtain ⟨d', h4, z⟩ := z
    rw [ex_bind] at z
    obtain ⟨fs', h5, y, h6, q⟩ := z
    obtain ⟨h7, h8⟩ := ite_some h6
    subst h8
    rw [objF_k] at h5
    exact ⟨d, h2, p.1, p.2, h3, d', h4, fs', h5, h7, q⟩
  · obtain ⟨d, h2, y, r, h3, d', h4, fs', h5, h7, q⟩ := z
    rw [ex_bind]
    refine ⟨d, h2, ?_⟩
    rw [ex_bind]
    refine ⟨(y, r), h3, ?_⟩
    rw [ex_bind]
    refine ⟨d', h4, ?_⟩
    rw [ex_bind]
    refine ⟨fs', by rw [objF_k]; exact h5, _, by rw [if_pos h7], q⟩
/-! sorted -/
theorem dRow_e {x : List Int} (h : x ≠ []) : dRow (encR x) = some x := by
  cases x with
  | nil => exact absurd rfl h
  | cons i r =>
    show dInts (.int i :: r.map .int) = _
    rw [show (PyData.int i :: r.map .int) = (i :: r).map .int from rfl, dInts_map]
theorem dRows_e : ∀ {ns : List (List Int)}, (∀ x ∈ ns, x ≠ []) → dRows (ns.map encR) = some ns
  | [], _ => rfl
  | x :: r, h => by
    show (dRow (encR x)).bind (fun y => (dRows (r.map encR)).map (y :: ·)) = _
    rw [dRow_e (h x List.mem_cons_self), dRows_e fun y hy => h y (List.mem_cons_of_mem _ hy)]
    rfl
theorem dSorted_t {ns : List (List Int)} (h : ∀ x ∈ ns, x ≠ []) : dSorted (.tuple (ns.map encR)) = some (.list ((srt ns).map encR)) := by
  show (dRows (ns.map encR)).map _ = _
  rw [dRows_e h]; rfl
theorem dSorted_l {ns : List (List Int)} (h : ∀ x ∈ ns, x ≠ []) : dSorted (.list (ns.map encR)) = some (.list ((srt ns).map encR)) := by
  show (dRows (ns.map encR)).map _ = _
  rw [dRows_e h]; rfl
/-- equal sorted: the same, each as often -/
theorem srt_iff {xs ys : List (List Int)} : srt xs = srt ys ↔ xs.Perm ys := by
  have tr : ∀ a b c : List Int, decide (a ≤ b) = true → decide (b ≤ c) = true → decide (a ≤ c) = true := fun a b c h1 h2 => by
    simp only [decide_eq_true_eq] at h1 h2 ⊢
    exact List.le_trans h1 h2
  have to : ∀ a b : List Int, (decide (a ≤ b) || decide (b ≤ a)) = true := fun a b => by
    rcases List.le_total a b with h | h <;> simp [h]
  refine ⟨fun h => (List.mergeSort_perm xs _).symm.trans ((show (srt xs).Perm (srt ys) by rw [h]).trans (List.mergeSort_perm ys _)), fun h => ?_⟩
  have p : (srt xs).Perm (srt ys) := (List.mergeSort_perm xs _).trans (h.trans (List.mergeSort_perm ys _).symm)
  refine List.Perm.eq_of_pairwise ?_ (List.pairwise_mergeSort tr to xs) (List.pairwise_mergeSort tr to ys) p
  intro a b _ _ h1 h2
  simp only [decide_eq_true_eq] at h1 h2
  exact List.le_antisymm h1 h2
end
end MM
/-! M23: the module's classes: methods, what makes them; facts of the head. -/
namespace MM
open PySem L2
section
variable {P : Program} {w : World} {K : PySem.W.Frag} {mg : Str → Option Value} {base : Heap} {c m qual : Str} {dvs : List V}
/-- a method of the module's class c -/
def HasM (K : PySem.W.Frag) (c m qual : Str) (st : Stmt) (dvs : List V) : Prop := ∃ C f fd, PySem.W.nsIn K mainGlobals c = some (some (.ref C)) ∧ Cls K C ∧ Meth K C m f ∧ FunD K m qual (defArgs st) (defBody st) (defScope st) dvs [] f fd
def HasI (K : PySem.W.Frag) (mg : Str → Option Value) (c m qual : Str) (st : Stmt) (dvs : List V) : Prop := ∃ C f fd, PySem.W.nsIn K mainGlobals c = some (some (.ref C)) ∧ mg c = some (.ref C) ∧ Mk K C f ∧ FunD K m qual (defArgs st) (defBody st) (defScope st) dvs [] f fd
theorem CalM.all {st : Stmt} {ps : List Str} {k : Nat} {sp : Sp} (h : HasM K c m qual st []) (b : ∀ (kV doc pm : Value) (an : Option Addr) (cdv ct : Value) (us : List Value), us.length = ps.length → bindArgs (PySem.W.fnOf m qual (defArgs st) (defBody st) (defScope st) .none kV doc pm an cdv ct) ⟨us, []⟩ = pure (ps.zip us))
    (ok : ∀ f fd, FunD K m qual (defArgs st) (defBody st) (defScope st) [] [] f fd → FnOk P w K mg base CX0 k f fd ps sp) : CalM P w K mg base k c m sp [] := by
  obtain ⟨C, f, fd, h1, h2, h3, Fd⟩ := h
  exact ⟨C, f, fd, ps, [], [], h1, h2, h3, ok f fd Fd, Fd.bindsN b, .nil, fun _ => .nil⟩
theorem CalC.all {st : Stmt} {ps : List Str} {k : Nat} {sp : Sp} (h : HasI K mg c m qual st []) (b : ∀ (kV doc pm : Value) (an : Option Addr) (cdv ct : Value) (us : List Value), us.length = ps.length → bindArgs (PySem.W.fnOf m qual (defArgs st) (defBody st) (defScope st) .none kV doc pm an cdv ct) ⟨us, []⟩ = pure (ps.zip us))
    (ok : ∀ f fd, FunD K m qual (defArgs st) (defBody st) (defScope st) [] [] f fd → FnOk P w K mg base CX0 k f fd ps sp) : CalC P w K mg base k c sp [] := by
  obtain ⟨C, f, fd, h1, h2, h3, Fd⟩ := h
  exact ⟨C, f, fd, ps, [], [], h1, h2, h3, ok f fd Fd, Fd.bindsN b, .nil, fun _ => .nil⟩
theorem CalM.mono {j k : Nat} {sp : Sp} {dds : List D} (z : CalM P w K mg base j c m sp dds) (h : j ≤ k) : CalM P w K mg base k c m sp dds := by
  obtain ⟨C, f, fd, ps, dvs, ds, h1, h2, h3, F, r⟩ := z
  exact ⟨C, f, fd, ps, dvs, ds, h1, h2, h3, F.mono h, r⟩
theorem CalC.mono {j k : Nat} {sp : Sp} {dds : List D} (z : CalC P w K mg base j c sp dds) (h : j ≤ k) : CalC P w K mg base k c sp dds := by
  obtain ⟨C, f, fd, ps, dvs, ds, h1, h2, h3, F, r⟩ := z
  exact ⟨C, f, fd, ps, dvs, ds, h1, h2, h3, F.mono h, r⟩
end
/-! ### range(i, j, -1) -/
def downD (i j : Int) : List D := (List.range (i - j).toNat).map fun k => .int (i - (k : Nat))
def rg3 : List D → Option (List D)
  | [.int i, .int j, .int c] => if (c = -1) ∧ (-(2 ^ 62) ≤ i ∧ i < 2 ^ 62 ∧ -(2 ^ 62) ≤ j ∧ j < 2 ^ 62) then some (downD i j) else none
  | _ => none
def iRange3 (as : MA) : MI := fun ρ => (as ρ).bind fun p => (rg3 p.1).map fun l => (l, p.2)
theorem walks_down {K : PySem.W.Frag} {F : Hp} {i j : Int} : Walks K (Itc i (-1) (i - j).toNat) F (downD i j) := fun F1 H e1 e2 => by
  unfold downD
  refine ⟨fun k hk => ?_, by show (i - j).toNat ≤ _; simp⟩
  have hn : k < (i - j).toNat := by simpa using hk
  refine ⟨hn, fun x H' ⟨eH, hx⟩ => ?_⟩
  subst eH
  subst hx
  have e : i + (k : Nat) * (-1) = i - (k : Nat) := by omega
  exact ⟨.int (i - (k : Nat)), F1, by simp [hn], .same, by rw [e]; exact .int _⟩
section
variable {G : Gx} {X : Cx} {tg a b c : Expr} {p pos : Pos} {ms : MA}
theorem wRange3 (ha : RA G X [a, b, c] ms) (hg : Gl X "range" := by rfl) (hm : X.mg "range" = none) (hs : starEach [a, b, c] X.env = (false, eval a X.env) :: starEach [b, c] X.env := by rfl) (hpl : (backTo pos (starEach [b, c] X.env)).any (·.1) = false := by rfl) :
    PI X tg (.Call (.Name "range" p) [a, b, c] [] pos) (rdi G (iRange3 ms)) :=
  (pi_range3 hg hm ha.pa hs hpl).weak fun σ H R ⟨ρ, T, F, ds, ρ', S, em, k⟩ => by
    obtain ⟨as, ρ1, e1, em⟩ := bindA em
    obtain ⟨l, e2, em⟩ := map2 em
    cases em
    refine ⟨ρ, T, F, as, _, S, e1, fun vs F' H' S' q r => ?_⟩
    replace e2 : rg3 as = some ds := e2
    unfold rg3 at e2
    split at e2
    · rename_i i j c'
      obtain ⟨⟨h1, h2, h3, h4, h5⟩, e3⟩ := ite_some e2
      subst e3 h1
      cases r with
      | cons r1 r =>
        cases r with
        | cons r2 r =>
          cases r with
          | cons r3 r =>
            cases r
            cases r1; cases r2; cases r3
            exact ⟨_, _, -1, _, rfl, RgC.neg h2 h3 h4 h5, k _ F' H' S' q walks_down⟩
    · cases e2
end
section
variable {ρ : En} {Qi : List D → En → Prop} {as : MA}
def kRg (Qi : List D → En → Prop) (ρ : En) (l : List D) : Prop := Qi l ρ
def kRg3 (Qi : List D → En → Prop) (ds : List D) (ρ : En) : Prop := wO (rg3 ds) (kRg Qi ρ)
theorem wI_Range3 : wI (iRange3 as) ρ Qi ↔ wA as ρ (kRg3 Qi) := by
  unfold wI iRange3
  rw [ex_pair, ex_bind]
  refine ⟨fun ⟨x, h, z⟩ => ⟨x.1, x.2, h, ?_⟩, fun ⟨d, r, h, z⟩ => ⟨(d, r), h, ?_⟩⟩
  · rw [ex_map] at z
    exact z
  · rw [ex_map]
    exact z
theorem rg3_i {i j c : Int} : rg3 [.int i, .int j, .int c] = if (c = -1) ∧ (-(2 ^ 62) ≤ i ∧ i < 2 ^ 62 ∧ -(2 ^ 62) ≤ j ∧ j < 2 ^ 62) then some (downD i j) else none := rfl
end
end MM
/-! M24: lists of owned lists (held by the addresses of their items). -/
namespace MM
open PySem L2
def raw (as : List Addr) : D := .tuple (as.map fun b => .int (b : Nat))
theorem own_raw {K : PySem.W.Frag} {F H : Hp} {a : Addr} {as : List Addr} : Own K F H a (raw as) ↔ H a = some (.lst (as.map .ref)) := by
  constructor
  · intro h
    rcases own_tup h with ⟨c, fs, q, _⟩ | ⟨bs, q, e⟩
    · cases as with
      | nil => cases q
      | cons x r => cases q
    · have : as = bs := by
        clear h e
        induction as generalizing bs with
        | nil => cases bs with
          | nil => rfl
          | cons y r => cases q
        | cons x r ih => cases bs with
          | nil => cases q
          | cons y s =>
            simp only [List.map_cons, List.cons.injEq, PyData.int.injEq, Int.natCast_inj] at q
            rw [q.1, ih _ q.2]
      rw [this]; exact e
  · intro h
    exact own_of_raw ⟨as, rfl, h⟩
def rdN (G : Gx) (m : En → Option (List D × En)) : TE := fun σ H Q => ∃ ρ T F ds ρ', StR G ρ σ T F H ∧ m ρ = some (ds, ρ') ∧
  ∀ a as F' H', as.length = ds.length → StR G ρ' σ ((a, raw as) :: (as.zip ds ++ T)) F' H' → Same F F' → Q (.ref a) H'
def mCompN (it : MI) (g : MG) (t : MT) (e : M) (vs : List Nat) : En → Option (List D × En) := fun ρ => (it ρ).bind fun p => if p.1.length ≤ 16777216 then (compL g t e vs p.1 (wipeE p.2 vs)).map fun r => (r.1, r.2) else none
theorem lcN_rd {G : Gx} {it : MI} {sl : List Nat} {g : MG} {mt : MT} {me : M} {vs : List Nat} (hsl : ∀ i ∈ sl, i ∈ vs) : ∀ σ H Q, rdN G (mCompN it g mt me vs) σ H Q → tLc (rdi G it) (rdg G sl g) (rdt G mt) (rdo G me) vs σ H Q := fun σ H Q ⟨ρ, T, F, d, ρ', S, em, k⟩ => by
  obtain ⟨ds, ρ1, e1, em⟩ := bindI em
  dsimp only at em
  split at em
  · rename_i hz
    obtain ⟨⟨rl, re⟩, e2, em⟩ := map2 em
    cases em
    refine ⟨ρ, T, F, ds, ρ1, S, e1, fun J F1 H1 S1 q1 w L hL => ?_⟩
    refine ⟨fun i m H => ∃ ρ0 F2 as ads rest, i + m = ds.length ∧ as.length = ads.length ∧ StR G (wipeE ρ0 vs) σ ((L, raw as) :: (as.zip ads ++ T)) F2 H ∧ Same F1 F2 ∧ ads.length ≤ i ∧ compL g mt me vs (ds.drop i) (wipeE ρ0 vs) = some (rest, re) ∧ ads ++ rest = rl, ?_, ?_⟩
    · refine ⟨ds.length, ρ1, F1, [], [], rl, by simp, rfl, ?_, Same.refl _, Nat.zero_le _, by rw [List.drop_zero]; exact e2, by simp⟩
      exact (S1.wipe vs).allocO hL (own_raw.mpr upd_same)
    · rintro i m H2 ⟨ρ0, F2, as, ads, rest, hm, hl, S2, q2, ha, e3, er⟩
      obtain ⟨wg, ws⟩ := w F2 H2 q2 S2.fh
      by_cases hi : i < ds.length
      · obtain ⟨hgo, hy⟩ := wg i hi
        rw [List.drop_eq_getElem_cons hi] at e3
        obtain ⟨ρ3, e4, e3⟩ := obind e3
        obtain ⟨b, ρ4, e5, e3⟩ := bindT e3
        refine .inr ⟨hgo, fun H => ∃ ρ0 F2 as ads rest, as.length = ads.length ∧ StR G (wipeE ρ0 vs) σ ((L, raw as) :: (as.zip ads ++ T)) F2 H ∧ Same F1 F2 ∧ ads.length ≤ i + 1 ∧ compL g mt me vs (ds.drop (i + 1)) (wipeE ρ0 vs) = some (rest, re) ∧ ads ++ rest = rl, fun H' ⟨ρ0, F2, as, ads, rest, z0, z1, z2, z3, z4, z5⟩ => ⟨m - 1, by omega, ρ0, F2, as, ads, rest, by omega, z0, z1, z2, z3, z4, z5⟩, fun x H' y => ?_⟩
        obtain ⟨dx, F3, hd, gr, rx⟩ := hy x H' y
        rw [List.getElem?_eq_getElem hi] at hd
        cases hd
        obtain ⟨S3, q3⟩ := gr.st S2
        have S3' : StR G (wipeE ρ0 vs) (wipe σ vs) ((L, raw as) :: (as.zip ads ++ T)) F3 H' := S3.wiped (wipe_length σ vs) fun i hi => wipe_out hi
        refine ⟨_, _, F3, _, ρ3, S3', rx, e4, fun σ4 F4 H4 S4 q4 l4 n4 => ?_⟩
        have l4' : σ4.length = σ.length := l4.trans (wipe_length σ vs)
        have n4' : ∀ i, i ∉ vs → σ4[i]? = σ[i]? := fun i hi => (n4 i fun z => hi (hsl i z)).trans (wipe_out hi)
        have back : ∀ {ρ : En} {T' : TL} {F H : Hp}, StR G ρ σ4 T' F H → StR G (wipeE ρ vs) σ T' F H := fun S => (S.wipe vs).wiped l4'.symm fun i hi => (n4' i hi).symm
        refine ⟨wipe_eq l4' n4', ρ3, _, F4, b, ρ4, S4, e5, fun F5 H5 S5 q5 => ?_⟩
        have qq := ((q2.trans q3).trans q4).trans q5
        cases b with
        | false => exact ⟨ρ4, F5, as, ads, rest, hl, back S5, qq, by omega, e3, er⟩
        | true =>
          obtain ⟨dy, ρ6, e6, e3⟩ := bind2 e3
          obtain ⟨r2, e7, e3⟩ := map2 e3
          cases e3
          refine ⟨ρ4, _, F5, dy, ρ6, S5, e6, fun y F6 H6 S6 q6 => ?_⟩
          obtain ⟨_, _, hav⟩ := S6.tm (L, raw as) (by simp)
          have hav' := own_raw.mp hav
          refine ⟨as.map .ref, hav', by rw [List.length_map, sizeLine_eq]; omega, ρ6, F6, as ++ [y], ads ++ [dy], r2.1, by simp [hl], ?_, qq.trans q6, by simp; omega, e7, by rw [← er]; simp⟩
          have S7 : StR G ρ6 σ4 ((L, raw as) :: (y, dy) :: (as.zip ads ++ T)) F6 H6 := S6.perm (List.Perm.swap _ _ _)
          have S8 := S7.chgT (d' := raw (as ++ [y])) (o := .lst (as.map .ref ++ [.ref y])) (own_raw.mpr (by rw [upd_same]; simp))
          refine (back S8).perm ?_
          rw [List.zip_append hl]
          refine List.Perm.cons _ ?_
          rw [List.append_assoc]
          exact List.perm_middle
      · have hj : i = ds.length := by omega
        subst hj
        rw [List.drop_length] at e3
        cases e3
        refine .inl ⟨ws, ?_⟩
        rw [List.append_nil] at er
        subst er
        exact k L as F2 H2 hl S2 (q1.trans q2)
  · cases em
end MM
/-! M25: statements over a list of owned lists: state = the items' addresses, the items, the slots. -/
namespace MM
open PySem L2
abbrev NP := Fl → List Addr → List D → En → Prop
abbrev NS := List Addr → List D → En → NP → Prop
def rdsN (G : Gx) (m : NS) : TS := fun W σ H => ∃ ρ T F as rows P, as.length = rows.length ∧ StR G ρ σ (as.zip rows ++ T) F H ∧ m as rows ρ P ∧
  ∀ fl as' rows' ρ', P fl as' rows' ρ' → as'.length = rows'.length → FlOk G (as'.zip rows' ++ T) W ρ' F fl
def nLift (m : MS) : NS := fun as rows ρ P => ∃ fl ρ', m ρ = some (fl, ρ') ∧ P fl as rows ρ'
def nSeq (a b : NS) : NS := fun as rows ρ P => a as rows ρ fun fl as' rows' ρ' => match fl with
  | .nx => b as' rows' ρ' P
  | f => P f as' rows' ρ'
def nIf (c : MT) (a b : NS) : NS := fun as rows ρ P => ∃ t ρ', c ρ = some (t, ρ') ∧ if t = true then a as rows ρ' P else b as rows ρ' P
def nSkip : NS := fun as rows ρ P => P .nx as rows ρ
section
variable {G : Gx} {X : Cx} {st : Stmt} {rest : List Stmt} {pos : Pos} {a b : NS} {m : MS}
theorem nsLift (h : PS X st (rds G m)) : PS X st (rdsN G (nLift m)) := h.weak fun W σ H ⟨ρ, T, F, as, rows, P, hl, S, ⟨fl, ρ', e, p⟩, k⟩ =>
  ⟨ρ, _, F, fl, ρ', S, e, k fl as rows ρ' p hl⟩
theorem nsNil : PSs X [] (rdsN G nSkip) := pss_nil.weak fun W σ H ⟨ρ, T, F, as, rows, P, hl, S, p, k⟩ => k .nx as rows ρ p hl σ F H S (Same.refl F)
theorem nsOne (h : PS X st (rdsN G a)) : PSs X [st] (rdsN G a) := pss_one h
theorem nsCons (h : PS X st (rdsN G a)) (h2 : PSs X rest (rdsN G b)) : PSs X (st :: rest) (rdsN G (nSeq a b)) := (pss_cons h h2).weak fun W σ H ⟨ρ, T, F, as, rows, P, hl, S, p, k⟩ => by
  refine ⟨ρ, T, F, as, rows, _, hl, S, p, fun fl as' rows' ρ' p' hl' => ?_⟩
  cases fl with
  | nx => exact fun σ' F' H' S' q => ⟨ρ', T, F', as', rows', P, hl', S', p', fun fl as2 rows2 ρ2 p2 hl2 => (k fl as2 rows2 ρ2 p2 hl2).mono q⟩
  | bk => exact k _ as' rows' ρ' p' hl'
  | ct => exact k _ as' rows' ρ' p' hl'
  | rt d o => cases o <;> exact k _ as' rows' ρ' p' hl'
theorem nsIf {c : Expr} {mc : MT} {as bs : List Stmt} (hc : PT X c (rdt G mc)) (ha : PSs X as (rdsN G a)) (hb : PSs X bs (rdsN G b)) : PS X (.If c as bs pos) (rdsN G (nIf mc a b)) := (ps_if hc ha hb).weak fun W σ H ⟨ρ, T, F, as, rows, P, hl, S, ⟨t, ρ', e, p⟩, k⟩ => by
  refine ⟨ρ, _, F, t, ρ', S, e, fun F' H' S' q => ?_⟩
  cases t with
  | true => exact ⟨ρ', T, F', as, rows, P, hl, S', p, fun fl as2 rows2 ρ2 p2 hl2 => (k fl as2 rows2 ρ2 p2 hl2).mono q⟩
  | false => exact ⟨ρ', T, F', as, rows, P, hl, S', p, fun fl as2 rows2 ρ2 p2 hl2 => (k fl as2 rows2 ρ2 p2 hl2).mono q⟩
theorem StR.dropN {G : Gx} {ρ : En} {σ : L2.St} {F H : Hp} {T : TL} : ∀ {U : TL}, StR G ρ σ (U ++ T) F H → StR G ρ σ T F H
  | [], S => S
  | _ :: U, S => StR.dropN (U := U) S.drop
/-- a body that begins and ends without such a list -/
theorem nsBody {n : NS} {ms : MS} {body : List Stmt} (h : PSs X body (rdsN G n)) (w : ∀ ρ fl ρ', ms ρ = some (fl, ρ') → n [] [] ρ fun fl' _ _ ρ2 => fl' = fl ∧ ρ2 = ρ' ∧ ∀ d, fl ≠ .rt d true) : PSs X body (rds G ms) := h.weak fun W σ H ⟨ρ, T, F, fl, ρ', S, e, k⟩ => by
  refine ⟨ρ, T, F, [], [], _, rfl, S, w ρ fl ρ' e, fun fl' as' rows' ρ2 ⟨e1, e2, no⟩ _ => ?_⟩
  subst e1 e2
  cases fl' with
  | nx => exact fun σ' F' H' S' q => k σ' F' H' S'.dropN q
  | bk => exact fun σ' F' H' S' q => k σ' F' H' S'.dropN q
  | ct => exact fun σ' F' H' S' q => k σ' F' H' S'.dropN q
  | rt d o =>
    cases o with
    | false => exact fun v σ' F' H' S' q r => k v σ' F' H' S'.dropN q r
    | true => exact absurd rfl (no d)
/-! freezing all of it: then it is a list of lists like any other -/
theorem StR.frzAll {i : Nat} {ρ : En} {σ : L2.St} {T : TL} : ∀ {as : List Addr} {rows : List D} {F H : Hp}, as.length = rows.length → (∀ r ∈ rows, objD r = false) → StR G ρ σ (as.zip rows ++ T) F H →
    ∃ F', Same F F' ∧ StR G ρ σ T F' H ∧ RpAll G.K F' (as.map .ref) rows
  | [], [], F, H, _, _, S => ⟨F, Same.refl F, S, .nil⟩
  | x :: as, r :: rows, F, H, hl, ho, S => by
    have S1 : StR G ρ σ ((x, r) :: (as.zip rows ++ T)) F H := S
    obtain ⟨o, h1, h2, h3⟩ := S1.frzTmp (ho r List.mem_cons_self)
    obtain ⟨F', h4, h5, h6⟩ := StR.frzAll (i := i) (by simpa using hl) (fun z hz => ho z (List.mem_cons_of_mem _ hz)) h2
    exact ⟨F', (same_upd h1).trans h4, h5, .cons (h3.mono h4) h6⟩
  | [], _ :: _, _, _, hl, _, _ => by cases hl
  | _ :: _, [], _, _, hl, _, _ => by cases hl
/-- what an owned slot holds is said anew -/
theorem StR.resay {ρ : En} {σ : L2.St} {T : TL} {F H : Hp} {i : Nat} {d d' : D} (S : StR G ρ σ T F H) (h : ρ[i]? = some (.ow d)) (w : ∀ a, σ[i]? = some (some (.ref a)) → Own G.K F H a d → Own G.K F H a d') : StR G (ρ.set i (.ow d')) σ T F H := by
  have es : ∀ (j : Nat) (y : Sl), (ρ.set i (.ow d'))[j]? = some y → (j = i ∧ y = .ow d') ∨ (j ≠ i ∧ ρ[j]? = some y) := fun j y e => by
    rcases set_get e with ⟨q1, q2, _⟩ | ⟨q1, q2⟩
    · exact .inl ⟨q1, q2⟩
    · exact .inr ⟨q1, q2⟩
  have ow' : ∀ {j : Nat} {e : D}, (ρ.set i (.ow d'))[j]? = some (.ow e) → ∃ e', ρ[j]? = some (.ow e') := fun {j e} hj => by
    rcases es j _ hj with ⟨q, _⟩ | ⟨_, q⟩
    · exact ⟨d, by rw [q]; exact h⟩
    · exact ⟨e, q⟩
  refine { S with len := by rw [List.length_set]; exact S.len, fz := fun j e hj => ?_, ow := fun j e hj => ?_, io := fun j e hj => ?_, ap := fun i' j b e e' q1 q2 z1 z2 => ?_, ii := fun i' j e e' q1 q2 => ?_, ts := fun p hp j e hj => ?_ }
  · rcases es j _ hj with ⟨_, q⟩ | ⟨_, q⟩
    · cases q
    · exact S.fz j e q
  · rcases es j _ hj with ⟨q, q'⟩ | ⟨_, q⟩
    · cases q'
      subst q
      obtain ⟨a, h1, h2, h3, h4⟩ := S.ow _ _ h
      exact ⟨a, h1, h2, h3, w a h1 h4⟩
    · exact S.ow j e q
  · rcases es j _ hj with ⟨_, q⟩ | ⟨_, q⟩
    · cases q
    · exact S.io j e q
  · obtain ⟨_, c1⟩ := ow' q1
    obtain ⟨_, c2⟩ := ow' q2
    exact S.ap i' j b _ _ c1 c2 z1 z2
  · rcases es i' _ q1 with ⟨_, q⟩ | ⟨_, q⟩
    · cases q
    · rcases es j _ q2 with ⟨_, q'⟩ | ⟨_, q'⟩
      · cases q'
      · exact S.ii i' j e e' q q'
  · obtain ⟨_, c1⟩ := ow' hj
    exact S.ts p hp j _ c1
def nFrz (i : Nat) (m : MS) : NS := fun as rows ρ P => ρ[i]? = some (.ow (raw as)) ∧ (∀ r ∈ rows, objD r = false) ∧ ∃ fl ρ', m (ρ.set i (.ow (.list rows))) = some (fl, ρ') ∧ P fl [] [] ρ'
theorem nsFrz (i : Nat) (h : PS X st (rds G m)) : PS X st (rdsN G (nFrz i m)) := h.weak fun W σ H ⟨ρ, T, F, as, rows, P, hl, S, ⟨hi, ho, fl, ρ', e, p⟩, k⟩ => by
  obtain ⟨F', h1, h2, h3⟩ := StR.frzAll (i := i) hl ho S
  have S2 := h2.resay hi (d' := .list rows) fun a _ w => ⟨_, own_raw.mp w, h3⟩
  exact ⟨_, T, F', fl, ρ', S2, e, (k fl [] [] ρ' p rfl).mono h1⟩
end
end MM
/-! M26: a list of owned lists read, its items stored to. -/
namespace MM
open PySem L2
def isIntD : D → Bool
  | .int _ => true
  | _ => false
theorem raw_all (as : List Addr) : (as.map fun b => PyData.int (b : Nat)).all isIntD = true := by
  induction as with
  | nil => rfl
  | cons x r ih => rw [List.map_cons, List.all_cons, ih]; rfl
def mLenR (i : Nat) : M := fun ρ => match ρ[i]? with
  | some (.ow (.tuple l)) => if l.all isIntD then some (.int (l.length : Nat), ρ) else none
  | _ => none
theorem mLenR_raw {i : Nat} {ρ : En} {as : List Addr} (h : ρ[i]? = some (.ow (raw as))) : mLenR i ρ = some (.int (as.length : Nat), ρ) := by
  unfold mLenR
  rw [h]
  show (if (as.map fun b => PyData.int (b : Nat)).all isIntD = true then some (PyData.int ((as.map fun b => PyData.int (b : Nat)).length : Nat), ρ) else none) = _
  rw [raw_all, List.length_map]; rfl
abbrev NT := List Addr → List D → En → (Bool → En → Prop) → Prop
def rdtN (G : Gx) (c : NT) : TT := fun σ H Q => ∃ ρ T F as rows P, as.length = rows.length ∧ StR G ρ σ (as.zip rows ++ T) F H ∧ c as rows ρ P ∧
  ∀ b ρ' F' H', P b ρ' → StR G ρ' σ (as.zip rows ++ T) F' H' → Same F F' → Q b H'
def tnLift (m : MT) : NT := fun as rows ρ P => ∃ b ρ', m ρ = some (b, ρ') ∧ P b ρ'
def tnOr (a b : NT) : NT := fun as rows ρ P => a as rows ρ fun t ρ' => if t = true then P true ρ' else b as rows ρ' P
def tnEmp (i : Nat) : NT := fun as rows ρ P => ρ[i]? = some (.ow (raw as)) ∧ SeqAt.shaped (.list rows) = true ∧ (∀ r ∈ rows, objD r = false) ∧ P rows.isEmpty ρ
def nIfN (c : NT) (a b : NS) : NS := fun as rows ρ P => c as rows ρ fun t ρ' => if t = true then a as rows ρ' P else b as rows ρ' P
section
variable {G : Gx} {X : Cx} {st : Stmt} {e : Expr} {es rest : List Expr} {x : Str} {p px pos pos' : Pos} {a b : NS}
theorem rLenR (i : Nat) (hm : X.mg "len" = none) (hN : X.N[i]? = some x := by rfl) (hv : Vis X.env.scope x := by first | exact Or.inl rfl | exact Or.inr (Or.inl rfl) | exact Or.inr (Or.inr rfl)) (hg : Gl X "len" := by rfl)
    (hd : (x == ("__debug__" : Str)) = false := by decide) (hcd : (x == ("__classdict__" : Str)) = false := by decide) (h1 : starEach [.Name x px] X.env = (false, eval (.Name x px) X.env) :: starEach [] X.env := by rfl) (hpl : (backTo pos (starEach [] X.env)).any (·.1) = false := by rfl) :
    PE X (.Call (.Name "len" p) [.Name x px] [] pos) (rd G (mLenR i)) :=
  (pe_callB (call_len_seq.or call_len_str) hg hm PySem.boot_len (pa_cons (pe_var hN hv hd hcd) pa_nil h1) (by decide) (by decide) h1 hpl).weak fun σ H Q ⟨ρ, T, F, d, ρ', S, em, k⟩ => by
    unfold mLenR at em
    split at em
    · rename_i l h0
      obtain ⟨hl, em⟩ := ite_some em
      cases em
      obtain ⟨a, h2, _, _, w⟩ := S.ow i _ h0
      rcases own_tup w with ⟨c, fs, q, _⟩ | ⟨as, q, w'⟩
      · subst q
        cases hl
      · subst q
        refine ⟨_, h2, .inl ⟨a, _, rfl, .inl (SqL.of w'), ?_⟩⟩
        have := k (.int ((as.map fun b => PyData.int (b : Nat)).length : Nat)) F H S (Same.refl F) (.int _)
        simpa using this
    · cases em
theorem tnsLift {m : MT} (h : PT X e (rdt G m)) : PT X e (rdtN G (tnLift m)) := h.weak fun σ H Q ⟨ρ, T, F, as, rows, P, hl, S, ⟨b, ρ', e, p⟩, k⟩ =>
  ⟨ρ, _, F, b, ρ', S, e, fun F' H' S' q => k b ρ' F' H' p S' q⟩
theorem tnsOr1 {m : NT} (ha : PT X e (rdtN G m)) : PW X (.BoolOp .Or [e] pos) (rdtN G m) := pw_or1 ha
theorem tnsOr {m m' : NT} {e2 : Expr} (ha : PT X e (rdtN G m)) (hb : PW X (.BoolOp .Or (e2 :: rest) pos) (rdtN G m')) : PW X (.BoolOp .Or (e :: e2 :: rest) pos) (rdtN G (tnOr m m')) :=
  (pw_or ha hb).weak fun σ H Q ⟨ρ, T, F, as, rows, P, hl, S, c, k⟩ => by
    refine ⟨ρ, T, F, as, rows, _, hl, S, c, fun t ρ' F' H' p S' q => ?_⟩
    cases t with
    | true => exact k true ρ' F' H' p S' q
    | false => exact ⟨ρ', T, F', as, rows, P, hl, S', p, fun b ρ2 F2 H2 p2 S2 q2 => k b ρ2 F2 H2 p2 S2 (q.trans q2)⟩
theorem nsIfN {c : Expr} {mc : NT} {as bs : List Stmt} (hc : PT X c (rdtN G mc)) (ha : PSs X as (rdsN G a)) (hb : PSs X bs (rdsN G b)) : PS X (.If c as bs pos) (rdsN G (nIfN mc a b)) := (ps_if hc ha hb).weak fun W σ H ⟨ρ, T, F, as, rows, P, hl, S, p, k⟩ => by
  refine ⟨ρ, T, F, as, rows, _, hl, S, p, fun t ρ' F' H' p' S' q => ?_⟩
  cases t with
  | true => exact ⟨ρ', T, F', as, rows, P, hl, S', p', fun fl as2 rows2 ρ2 p2 hl2 => (k fl as2 rows2 ρ2 p2 hl2).mono q⟩
  | false => exact ⟨ρ', T, F', as, rows, P, hl, S', p', fun fl as2 rows2 ρ2 p2 hl2 => (k fl as2 rows2 ρ2 p2 hl2).mono q⟩
theorem own_dp {K : PySem.W.Frag} {F H : Hp} {a : Addr} {d : D} (fh : Same F H) (w : Own K F H a d) (l : d.canLay0 = true) (no : objD d = false) : Dp K H (.ref a) d := (show Cp K F H (.ref a) d from .inr ⟨a, rfl, w, no⟩).dp fh l
theorem rows_dp {K : PySem.W.Frag} {F H : Hp} (fh : Same F H) : ∀ {as : List Addr} {rows : List D}, as.length = rows.length → (∀ q ∈ as.zip rows, Own K F H q.1 q.2) → PyData.canLayAll0 rows = true → (∀ r ∈ rows, objD r = false) → DpAll K H (as.map .ref) rows
  | [], [], _, _, _, _ => .nil
  | x :: as, r :: rows, hl, w, l, no => by
    simp only [PyData.canLayAll0, Bool.and_eq_true] at l
    exact .cons (own_dp fh (w (x, r) (by simp)) l.1 (no r List.mem_cons_self)) (rows_dp fh (by simpa using hl) (fun q hq => w q (by simp [hq])) l.2 fun z hz => no z (List.mem_cons_of_mem _ hz))
  | [], _ :: _, hl, _, _, _ => by cases hl
  | _ :: _, [], hl, _, _, _ => by cases hl
theorem tnsEmp (i : Nat) (hu : X.A.units + 64 < cLine) (hK : G.K = X.K) (hN : X.N[i]? = some x := by rfl) (hv : Vis X.env.scope x := by first | exact Or.inl rfl | exact Or.inr (Or.inl rfl) | exact Or.inr (Or.inr rfl))
    (hd : (x == ("__debug__" : Str)) = false := by decide) (hcd : (x == ("__classdict__" : Str)) = false := by decide) (hm : behindInMarks .Eq (.List [] pos') = false := by first | exact nomark _ | with_unfolding_all rfl) :
    PT X (.Compare (.Name x px) [.Eq] [.List [] pos'] pos) (rdtN G (tnEmp i)) :=
  (pt_cmpR (op_eqD hu) (pe_var hN hv hd hcd) (rFz (G := G) (rLst (rNil (G := G)))) hm).weak fun σ H Q ⟨ρ, T, F, as, rows, P, hl, S, c, k⟩ => by
    obtain ⟨h0, sh, no', hp⟩ := c
    obtain ⟨a, h1, _, _, _⟩ := S.ow i _ h0
    refine ⟨_, h1, ρ, _, F, .list [], ρ, S, rfl, fun v F' H' S' q r => ?_⟩
    obtain ⟨a', h1', _, _, w⟩ := S'.ow i _ h0
    rw [h1] at h1'; cases h1'
    have w' := own_raw.mp w
    have lay := SeqAt.canLay_of_shaped sh
    have d1 : Dp X.K H' (.ref a) (.list rows) := .lst (SqL.of w') (rows_dp S'.fh hl (fun z hz => by
      have := (S'.tm z (List.mem_append_left _ hz)).2.2
      rw [← hK]; exact this) (by simpa [PyData.canLay0] using lay) no')
    have d2 : Dp X.K H' v (.list []) := by
      rw [← hK]
      exact r.dp S'.fh _ _ (by simp [PyData.canLay0, PyData.canLayAll0])
    refine ⟨.list rows, .list [], d1, d2, sh, by simp [SeqAt.shaped, PyData.canLay0, PyData.canLayAll0, PyData.depth, PyData.depthAll], PyData.eqv (.list rows) (.list []), rfl, ?_⟩
    have e : PyData.eqv (.list rows) (.list []) = rows.isEmpty := by
      cases rows with
      | nil => rw [eqv_ll]; exact eqvs_nil
      | cons r rs => rw [eqv_ll]; exact eqvs_cn
    rw [e]
    exact k _ ρ F' H' hp S' q
end
end MM
/-! M27: stores into a list of owned lists. -/
namespace MM
open PySem L2
theorem erase_perm {α : Type} : ∀ {l : List α} {j : Nat} {x : α}, l[j]? = some x → l.Perm (x :: l.eraseIdx j)
  | [], _, _, h => by simp at h
  | y :: l, 0, x, h => by
    simp at h; subst h
    exact List.Perm.refl _
  | y :: l, j + 1, x, h => by
    have := erase_perm (l := l) (j := j) (x := x) (by simpa using h)
    exact (this.cons y).trans (List.Perm.swap _ _ _)
theorem set_perm {α : Type} : ∀ {l : List α} {j : Nat} {x : α}, j < l.length → (l.set j x).Perm (x :: l.eraseIdx j)
  | [], _, _, h => by simp at h
  | y :: l, 0, x, h => List.Perm.refl _
  | y :: l, j + 1, x, h => ((set_perm (l := l) (j := j) (x := x) (by simpa using h)).cons y).trans (List.Perm.swap _ _ _)
theorem zip_set {as : List Addr} {rows : List D} {j : Nat} {d : D} {b : Addr} (hb : as[j]? = some b) : as.zip (rows.set j d) = (as.zip rows).set j (b, d) := by
  refine List.ext_getElem? fun k => ?_
  by_cases e : j = k
  · subst e
    by_cases h : j < rows.length
    · have h2 : j < as.length := (List.getElem?_eq_some_iff.mp hb).1
      rw [List.getElem?_set_self (by rw [List.length_zip]; omega)]
      simp [List.getElem?_zip_eq_some, hb, h]
    · rw [List.getElem?_eq_none (by rw [List.length_zip, List.length_set]; omega), List.getElem?_eq_none (by rw [List.length_set, List.length_zip]; omega)]
  · rw [List.getElem?_set_ne e]
    simp only [List.zip, List.getElem?_zipWith]
    rw [List.getElem?_set_ne e]
section
variable {G : Gx} {ρ : En} {σ : L2.St} {T : TL} {F H : Hp}
theorem StR.row {as : List Addr} {rows : List D} (S : StR G ρ σ (as.zip rows ++ T) F H) {j : Nat} {b : Addr} {d : D} (hb : as[j]? = some b) (hd : rows[j]? = some d) : F b = none ∧ Own G.K F H b d ∧ (∀ o d', Own G.K F (upd H b o) b d' → StR G ρ σ (as.zip (rows.set j d') ++ T) F (upd H b o)) := by
  have hz : (as.zip rows)[j]? = some (b, d) := List.getElem?_zip_eq_some.mpr ⟨hb, hd⟩
  obtain ⟨hj, he⟩ := List.getElem?_eq_some_iff.mp hz
  have p1 : (as.zip rows).Perm ((b, d) :: (as.zip rows).eraseIdx j) := by
    exact erase_perm hz
  have S1 : StR G ρ σ ((b, d) :: ((as.zip rows).eraseIdx j ++ T)) F H := S.perm (p1.symm.append_right T)
  obtain ⟨h1, _, h3⟩ := S1.tm _ List.mem_cons_self
  refine ⟨h1, h3, fun o d' w => ?_⟩
  have S2 := S1.chgT (o := o) w
  refine S2.perm ?_
  rw [zip_set hb]
  exact (set_perm hj).append_right T
end
def nSet2 (i : Nat) (m1 m2 mv : M) : NS := fun as rows ρ P => ∃ dv ρ1, mv ρ = some (dv, ρ1) ∧ ρ1[i]? = some (.ow (raw as)) ∧ ∃ n ρ2, m1 ρ1 = some (.int n, ρ2) ∧ ρ2[i]? = some (.ow (raw as)) ∧
  ∃ j d, ixN as.length n = some j ∧ rows[j]? = some d ∧ ∃ dk ρ3, m2 ρ2 = some (dk, ρ3) ∧ ∃ d', dSetA d dk dv = some d' ∧ P .nx as (rows.set j d') ρ3
section
variable {G : Gx} {X : Cx} {e1 e2 value : Expr} {x : Str} {p px pos pos' pos2 : Pos} {m1 m2 mv : M}
theorem nsSet2 (i : Nat) (h1 : PE X e1 (rd G m1)) (h2 : PE X e2 (rd G m2)) (hv : PE X value (rd G mv)) (hu : X.A.units + 64 < cLine) (hN : X.N[i]? = some x := by rfl) (hvs : Vis X.env.scope x := by first | exact Or.inl rfl | exact Or.inr (Or.inl rfl) | exact Or.inr (Or.inr rfl))
    (hd : (x == ("__debug__" : Str)) = false := by decide) (hcd : (x == ("__classdict__" : Str)) = false := by decide) (hs1 : PlainIx e1 := by exact fun _ _ => rfl)
    (ha : ∀ v, assign (.Subscript (.Subscript (.Name x px) e1 pos2) e2 pos') X.env v = (do
      let ov ← holding [v] (eval (.Subscript (.Name x px) e1 pos2) X.env)
      let iv ← holding [v, ov] (eval e2 X.env)
      standAt pos'
      holding [v, ov, iv] (setItem ov iv v)
      release [v, ov, iv] []) := by intro _; rfl) (hs : swapsWithSole [.Subscript (.Subscript (.Name x px) e1 pos2) e2 pos'] value pos.line X.env = pure false := by rfl) (hw : swappedStores [.Subscript (.Subscript (.Name x px) e1 pos2) e2 pos'] value X.env = pure none := by rfl)
    (h3 : (assignEach [.Subscript (.Subscript (.Name x px) e1 pos2) e2 pos'] X.env).map (·.2) = [assign (.Subscript (.Subscript (.Name x px) e1 pos2) e2 pos') X.env] := by rfl) :
    PS X (.Assign [.Subscript (.Subscript (.Name x px) e1 pos2) e2 pos'] value pos) (rdsN G (nSet2 i m1 m2 mv)) :=
  (ps_asg hv (pg_sub (pe_ix ix_seq (pe_var hN hvs hd hcd) h1 hs1) h2 (set_all hu) ha) hs hw h3).weak fun W σ H ⟨ρ, T, F, as, rows, P, hl, S, c, k⟩ => by
    obtain ⟨dv, ρ1, q1, r1, n, ρ2, q2, r2, j, d, hj, hr, dk, ρ3, q3, d', q4, hp⟩ := c
    refine ⟨ρ, _, F, dv, ρ1, S, q1, fun v F1 H1 S1 g1 rv => ?_⟩
    obtain ⟨a, h1, _, _, w1⟩ := S1.ow i _ r1
    refine ⟨_, h1, ρ1, _, F1, .int n, ρ2, S1, q2, fun y F2 H2 S2 g2 ry => ?_⟩
    obtain ⟨a', h1', _, _, w2⟩ := S2.ow i _ r2
    rw [h1] at h1'; cases h1'
    cases ry
    have w2' := own_raw.mp w2
    have hjl : j < as.length := by
      have := (List.getElem?_eq_some_iff.mp hr).1
      omega
    have hb : as[j]? = some as[j] := List.getElem?_eq_getElem hjl
    refine .inl ⟨a, as.map .ref, n, .ref as[j], rfl, rfl, SqL.of w2', ?_, ?_⟩
    · unfold atI
      rw [List.length_map, hj]
      show (as.map V.ref)[j]? = _
      rw [List.getElem?_map, hb]; rfl
    · refine ⟨ρ2, _, F2, dk, ρ3, S2, q3, fun z F3 H3 S3 g3 rz => ?_⟩
      obtain ⟨f1, w3, ch⟩ := S3.row hb hr
      refine setA_ok w3 rz (rv.mono (g2.trans g3)) q4 fun o wo => ?_
      exact k .nx as (rows.set j d') ρ3 hp (by rw [List.length_set]; exact hl) σ F3 _ (ch o d' wo) ((g1.trans g2).trans g3)
end
end MM
/-! M28: two items of a list of owned lists change places. -/
namespace MM
open PySem L2
theorem swap_perm {α : Type} {l : List α} {j k : Nat} {x y : α} (hx : l[j]? = some x) (hy : l[k]? = some y) : ((l.set j y).set k x).Perm l := by
  have hj := (List.getElem?_eq_some_iff.mp hx).1
  have hk := (List.getElem?_eq_some_iff.mp hy).1
  have p1 := erase_perm hx
  have p2 := set_perm (l := l) (j := j) (x := y) hj
  have e : (l.set j y)[k]? = some y := by
    by_cases h : j = k
    · subst h; exact List.getElem?_set_self hj
    · rw [List.getElem?_set_ne h]; exact hy
  have p3 := erase_perm e
  have p4 := set_perm (l := l.set j y) (j := k) (x := x) (by rw [List.length_set]; exact hk)
  have p5 : ((l.set j y).eraseIdx k).Perm (l.eraseIdx j) := (p3.symm.trans p2).cons_inv
  exact p4.trans ((p5.cons x).trans p1.symm)
theorem zip_set2 {as : List Addr} {rows : List D} {j : Nat} {d : D} {b : Addr} (h : as.length = rows.length) : (as.set j b).zip (rows.set j d) = (as.zip rows).set j (b, d) := by
  induction as generalizing rows j with
  | nil => cases rows with
    | nil => rfl
    | cons _ _ => cases h
  | cons a as ih => cases rows with
    | nil => cases h
    | cons r rows => cases j with
      | zero => rfl
      | succ j => simp only [List.set_cons_succ, List.zip_cons_cons]; rw [ih (by simpa using h)]
def nSwap (i i1 i2 : Nat) : NS := fun as rows ρ P => ρ[i]? = some (.ow (raw as)) ∧ i ≠ i1 ∧ i ≠ i2 ∧ ∃ n m j k aj ak rj rk, ρ[i1]? = some (.fz (.int n)) ∧ ρ[i2]? = some (.fz (.int m)) ∧ ixN as.length n = some j ∧ ixN as.length m = some k ∧
  as[j]? = some aj ∧ as[k]? = some ak ∧ rows[j]? = some rj ∧ rows[k]? = some rk ∧ P .nx ((as.set j ak).set k aj) ((rows.set j rk).set k rj) (ρ.set i (.ow (raw ((as.set j ak).set k aj))))
section
variable {G : Gx} {X : Cx} {e1 e2 e3 e4 : Expr} {x : Str} {pos pt1 pt2 : Pos} {k1 k2 : Nat} {x1 x2 x3 x4 s1 s2 s3 s4 : Pos}
theorem nsSwap (i i1 i2 : Nat) (hc : X.calm = true) (h1 : PE X e1 (rd G (mVar i1))) (h2 : PE X e2 (rd G (mVar i2))) (h5 : PE X e3 (rd G (mVar i2))) (h6 : PE X e4 (rd G (mVar i1))) (hN : X.N[i]? = some x := by rfl) (hvs : Vis X.env.scope x := by first | exact Or.inl rfl | exact Or.inr (Or.inl rfl) | exact Or.inr (Or.inr rfl))
    (hd : (x == ("__debug__" : Str)) = false := by decide) (hcd : (x == ("__classdict__" : Str)) = false := by decide) (hp1 : PlainIx e1 := by exact fun _ _ => rfl) (hp2 : PlainIx e2 := by exact fun _ _ => rfl) (hp3 : PlainIx e3 := by exact fun _ _ => rfl) (hp4 : PlainIx e4 := by exact fun _ _ => rfl)
    (ha1 : ∀ v, assign (.Subscript (.Name x x1) e1 s1) X.env v = (do
      let ov ← holding [v] (eval (.Name x x1) X.env)
      let iv ← holding [v, ov] (eval e1 X.env)
      standAt s1
      holding [v, ov, iv] (setItem ov iv v)
      release [v, ov, iv] []) := by intro _; rfl)
    (ha2 : ∀ v, assign (.Subscript (.Name x x2) e2 s2) X.env v = (do
      let ov ← holding [v] (eval (.Name x x2) X.env)
      let iv ← holding [v, ov] (eval e2 X.env)
      standAt s2
      holding [v, ov, iv] (setItem ov iv v)
      release [v, ov, iv] []) := by intro _; rfl)
    (hst1 : starEach [.Subscript (.Name x x3) e3 s3, .Subscript (.Name x x4) e4 s4] X.env = (false, eval (.Subscript (.Name x x3) e3 s3) X.env) :: starEach [.Subscript (.Name x x4) e4 s4] X.env := by rfl)
    (hst2 : starEach [.Subscript (.Name x x4) e4 s4] X.env = (false, eval (.Subscript (.Name x x4) e4 s4) X.env) :: starEach [] X.env := by rfl)
    (hg1 : (assignEach [.Subscript (.Name x x1) e1 s1, .Subscript (.Name x x2) e2 s2] X.env).map (·.2) = assign (.Subscript (.Name x x1) e1 s1) X.env :: (assignEach [.Subscript (.Name x x2) e2 s2] X.env).map (·.2) := by rfl)
    (hg2 : (assignEach [.Subscript (.Name x x2) e2 s2] X.env).map (·.2) = assign (.Subscript (.Name x x2) e2 s2) X.env :: (assignEach [] X.env).map (·.2) := by rfl)
    (hn : (assignEach [.Subscript (.Name x x1) e1 s1, .Subscript (.Name x x2) e2 s2] X.env).length = 2 := by rfl) (hst : (assignEach [.Subscript (.Name x x1) e1 s1, .Subscript (.Name x x2) e2 s2] X.env).findIdx? (·.1) = none := by rfl)
    (hs : swapsWithSole [.Tuple [.Subscript (.Name x x1) e1 s1, .Subscript (.Name x x2) e2 s2] k1 pt1] (.Tuple [.Subscript (.Name x x3) e3 s3, .Subscript (.Name x x4) e4 s4] k2 pt2) pos.line X.env = pure false := by rfl)
    (hw : swappedStores [.Tuple [.Subscript (.Name x x1) e1 s1, .Subscript (.Name x x2) e2 s2] k1 pt1] (.Tuple [.Subscript (.Name x x3) e3 s3, .Subscript (.Name x x4) e4 s4] k2 pt2) X.env = pure none := by rfl)
    (h3 : (assignEach [.Tuple [.Subscript (.Name x x1) e1 s1, .Subscript (.Name x x2) e2 s2] k1 pt1] X.env).map (·.2) = [assign (.Tuple [.Subscript (.Name x x1) e1 s1, .Subscript (.Name x x2) e2 s2] k1 pt1) X.env] := by rfl) :
    PS X (.Assign [.Tuple [.Subscript (.Name x x1) e1 s1, .Subscript (.Name x x2) e2 s2] k1 pt1] (.Tuple [.Subscript (.Name x x3) e3 s3, .Subscript (.Name x x4) e4 s4] k2 pt2) pos) (rdsN G (nSwap i i1 i2)) :=
  (ps_asg (pe_tup (pa_cons (pe_ix ix_seq (pe_var hN hvs hd hcd) h5 hp3) (pa_cons (pe_ix ix_seq (pe_var hN hvs hd hcd) h6 hp4) pa_nil hst2) hst1))
    (pg_tup hc (pgs_cons (pg_sub (pe_var hN hvs hd hcd) h1 set_list ha1) (pgs_cons (pg_sub (pe_var hN hvs hd hcd) h2 set_list ha2) pgs_nil hg2) hg1) hn hst) hs hw h3).weak fun W σ H ⟨ρ, T, F, as, rows, P, hl, S, c, kk⟩ => by
    obtain ⟨hi, ne1, ne2, n, m, j, k, aj, ak, rj, rk, q1, q2, hj, hk, haj, hak, hrj, hrk, hp⟩ := c
    obtain ⟨a, ha, _, _, w0⟩ := S.ow i _ hi
    have v1 : mVar i1 ρ = some (.int n, ρ) := by unfold mVar; rw [q1]
    have v2 : mVar i2 ρ = some (.int m, ρ) := by unfold mVar; rw [q2]
    have at1 : ∀ {z : Int} {u : Nat} {b : Addr}, ixN as.length z = some u → as[u]? = some b → atI (as.map V.ref) z = some (.ref b) := fun {z u b} e1 e2 => by
      unfold atI
      rw [List.length_map, e1]
      show (as.map V.ref)[u]? = _
      rw [List.getElem?_map, e2]; rfl
    refine ⟨_, ha, ρ, _, F, .int m, ρ, S, v2, fun y1 F1 H1 S1 g1 r1 => ?_⟩
    cases r1
    obtain ⟨a', ha', _, _, w1⟩ := S1.ow i _ hi
    rw [ha] at ha'; cases ha'
    refine .inl ⟨a, as.map .ref, m, .ref ak, rfl, rfl, SqL.of (own_raw.mp w1), at1 hk hak, ?_⟩
    refine ⟨_, ha, ρ, _, F1, .int n, ρ, S1, v1, fun y2 F2 H2 S2 g2 r2 => ?_⟩
    cases r2
    obtain ⟨a', ha', _, _, w2⟩ := S2.ow i _ hi
    rw [ha] at ha'; cases ha'
    refine .inl ⟨a, as.map .ref, n, .ref aj, rfl, rfl, SqL.of (own_raw.mp w2), at1 hj haj, ?_⟩
    refine ⟨by show 2 ≤ sizeLine; decide, fun t ht => ?_⟩
    have S3 := S2.junk (o := .tup [.ref ak, .ref aj]) ht
    refine ⟨t, _, rfl, SqT.of upd_same, rfl, ?_⟩
    refine ⟨.ref ak, _, rfl, ?_⟩
    refine ⟨_, ha, ρ, _, F2, .int n, ρ, S3, v1, fun y4 F4 H4 S4 g4 r4 => ?_⟩
    cases r4
    obtain ⟨a', ha', hF4, w4, ch4⟩ := S4.own (i := i) (d := raw as) (by unfold ownD; rw [hi])
    rw [ha] at ha'; cases ha'
    refine ⟨a, as.map .ref, n, j, rfl, rfl, own_raw.mp w4, by rw [List.length_map]; exact hj, ?_⟩
    have S5 := ch4 (raw (as.set j ak)) (.lst ((as.map V.ref).set j (.ref ak))) (own_raw.mpr (by rw [upd_same]; simp [List.map_set]))
    have pd : putD ρ i (raw (as.set j ak)) = ρ.set i (.ow (raw (as.set j ak))) := by unfold putD; rw [hi]
    rw [pd] at S5
    refine ⟨.ref aj, [], rfl, ?_⟩
    have hil : i < ρ.length := (List.getElem?_eq_some_iff.mp hi).1
    have v2' : mVar i2 (ρ.set i (.ow (raw (as.set j ak)))) = some (.int m, ρ.set i (.ow (raw (as.set j ak)))) := by
      unfold mVar
      rw [List.getElem?_set_ne ne2, q2]
    refine ⟨_, ha, _, _, F4, .int m, _, S5, v2', fun y6 F6 H6 S6 g6 r6 => ?_⟩
    cases r6
    have hi6 : (ρ.set i (.ow (raw (as.set j ak))))[i]? = some (.ow (raw (as.set j ak))) := List.getElem?_set_self hil
    obtain ⟨a', ha', hF6, w6, ch6⟩ := S6.own (i := i) (d := raw (as.set j ak)) (by unfold ownD; rw [hi6])
    rw [ha] at ha'; cases ha'
    refine ⟨a, (as.set j ak).map .ref, m, k, rfl, rfl, own_raw.mp w6, by rw [List.length_map, List.length_set]; exact hk, ?_⟩
    have S7 := ch6 (raw ((as.set j ak).set k aj)) (.lst (((as.set j ak).map V.ref).set k (.ref aj))) (own_raw.mpr (by rw [upd_same]; simp [List.map_set]))
    have pd2 : putD (ρ.set i (.ow (raw (as.set j ak)))) i (raw ((as.set j ak).set k aj)) = ρ.set i (.ow (raw ((as.set j ak).set k aj))) := by
      unfold putD; rw [hi6]
      show (ρ.set i _).set i _ = _
      rw [List.set_set]
    rw [pd2] at S7
    refine ⟨rfl, ?_⟩
    have hz : ∀ {u : Nat} {b : Addr} {r : D}, as[u]? = some b → rows[u]? = some r → (as.zip rows)[u]? = some (b, r) := fun e1 e2 => List.getElem?_zip_eq_some.mpr ⟨e1, e2⟩
    have pz : (((as.set j ak).set k aj).zip ((rows.set j rk).set k rj)).Perm (as.zip rows) := by
      rw [zip_set2 (by rw [List.length_set, List.length_set]; exact hl), zip_set2 hl]
      exact swap_perm (hz haj hrj) (hz hak hrk)
    exact kk .nx _ _ _ hp (by simp only [List.length_set]; exact hl) σ F6 _ (S7.perm (pz.append_right T)) (((g1.trans g2).trans g4).trans g6)
end
end MM
/-! M29: a list of owned lists is made. -/
namespace MM
open PySem L2
def nMake2 (i j : Nat) (m : M) (mc : En → Option (List D × En)) : NS := fun as rows ρ P => as = [] ∧ rows = [] ∧ ∃ d ρ1 ds ρ2, m ρ = some (d, ρ1) ∧ mc ρ1 = some (ds, ρ2) ∧ ∀ as' : List Addr, as'.length = ds.length → P .nx as' ds ((ρ2.set i (.fz d)).set j (.ow (raw as')))
section
variable {G : Gx} {X : Cx} {elt tg iter : Expr} {ifs : List Expr} {scope : Scope} {own : List (Str × Nat)} {pos : Pos}
theorem rLcN {it : MI} {sl : List Nat} {g : MG} {mt : MT} {me : M} (hc : X.calm = true) (hN : X.N.Nodup) (hi : PI X tg iter (rdi G it)) (ok : BlkOk X.N X.env.scope scope own)
    (hg : ∀ (s : Shared) (H : Hp) (C : Addr) (cl : List (Str × Addr)) (fp : List Addr), PG (X.blk s H scope (compEnvC scope cl C X.env) fp) tg (rdg G sl g)) (ht : ∀ (s : Shared) (H : Hp) (C : Addr) (cl : List (Str × Addr)) (fp : List Addr), PTs (X.blk s H scope (compEnvC scope cl C X.env) fp) ifs (rdt G mt))
    (he : ∀ (s : Shared) (H : Hp) (C : Addr) (cl : List (Str × Addr)) (fp : List Addr), PE (X.blk s H scope (compEnvC scope cl C X.env) fp) elt (rdo G me)) (hsl : ∀ i ∈ sl, i ∈ own.map (·.2) := by decide) (hs : ∀ x, foldedSetIterable iter X.env x = pure x := by intro _; rfl) :
    PE X (.ListComp elt [⟨tg, iter, ifs, 0⟩] scope pos) (rdN G (mCompN it g mt me (own.map (·.2)))) :=
  (pe_lc hc hN hi ok hg ht he hs).weak (lcN_rd hsl)
theorem nsMake2 (i j : Nat) {x y : Str} {a b : Expr} {m : M} {mc : En → Option (List D × En)} {px py pt : Pos} {kt k2 pt2} (hc : X.calm = true) (hN : X.N.Nodup) (ha : PE X a (rd G m)) (hb : PE X b (rdN G mc))
    (hw : swappedStores [.Tuple [.Name x px, .Name y py] kt pt] (.Tuple [a, b] k2 pt2) X.env = pure (some [x, y])) (hij : i ≠ j := by decide) (hi : X.N[i]? = some x := by rfl) (hj : X.N[j]? = some y := by rfl)
    (hx : X.env.scope.names.lookup x = some .local := by rfl) (hy : X.env.scope.names.lookup y = some .local := by rfl)
    (h1 : starEach [a, b] X.env = (false, eval a X.env) :: starEach [b] X.env := by rfl) (h2 : starEach [b] X.env = (false, eval b X.env) :: starEach [] X.env := by rfl)
    (hs : swapsWithSole [.Tuple [.Name x px, .Name y py] kt pt] (.Tuple [a, b] k2 pt2) pos.line X.env = pure false := by rfl) : PS X (.Assign [.Tuple [.Name x px, .Name y py] kt pt] (.Tuple [a, b] k2 pt2) pos) (rdsN G (nMake2 i j m mc)) :=
  (ps_par hc hN hi hj hij hx hy (pa_cons ha (pa_cons hb pa_nil h2) h1) hw hs).weak fun W σ H ⟨ρ, T, F, as, rows, P, hl, S, c, k⟩ => by
    obtain ⟨e1, e2, d, ρ1, ds, ρ2, q1, q2, hp⟩ := c
    subst e1 e2
    refine ⟨ρ, T, F, d, ρ1, S, q1, fun v F1 H1 S1 g1 r => ?_⟩
    refine ⟨ρ1, T, F1, ds, ρ2, S1, q2, fun l as' F2 H2 hl2 S2 g2 => ?_⟩
    refine ⟨v, .ref l, rfl, ?_⟩
    have S3 := (S2.setF (i := i) (r.mono g2)).setO (i := j)
    exact k .nx as' ds _ (hp as' hl2) hl2 _ F2 H2 S3 (g1.trans g2)
end
end MM
/-! M30: x[a:c] = a new list. -/
namespace MM
open PySem L2
def gSlice (to : TE) (tl th : TO) : TG := fun v σ H Q => to σ H fun x H1 => tl σ H1 fun l H2 => th σ H2 fun u H3 => ∃ (p b : Addr) (xs ys : List V) (A C : Int), x = .ref p ∧ v = .ref b ∧ l = some A ∧ u = some C ∧ H3 p = some (.lst xs) ∧ H3 b = some (.lst ys) ∧ p ≠ b ∧ 0 ≤ A ∧ A ≤ C ∧ C ≤ xs.length ∧
  xs.length + ys.length ≤ sizeLine ∧ Q σ (upd H3 p (.lst (xs.take A.toNat ++ ys ++ xs.drop C.toNat)))
section
open PyProof.Rows
variable {X : Cx} {o : Expr} {to : TE} {lo hi : Option Expr} {tl th : TO} {pos p2 : Pos}
theorem pg_slice (ho : PE X o to) (hl : PO X lo tl) (hu : PO X hi th)
    (ha : ∀ v, assign (.Subscript o (.Slice lo hi none p2) pos) X.env v = (do
      let ov ← holding [v] (eval o X.env)
      let iv ← holding [v, ov] (eval (.Slice lo hi none p2) X.env)
      standAt pos
      holding [v, ov, iv] (setItem ov iv v)
      release [iv, v, ov] []) := by intro _; rfl) : PG X (.Subscript o (.Slice lo hi none p2) pos) (gSlice to tl th) := by
  refine ⟨fun pins s σ H v u Q I r h => ?_⟩
  rw [ha]
  refine wpAny_bind (wpAny_holding (thn (ho.run pins s σ H _ I h) fun ov s1 ⟨x, H1, I1, r1, q1⟩ => ?_))
  refine wpAny_bind (wpAny_holding (wpAny_Slice (thn (hl.run pins s1 σ H1 _ I1 q1) fun vl s2 ⟨l, H2, I2, pl, q2⟩ => thn (hu.run pins s2 σ H2 _ I2 q2) fun vu s3 ⟨w, H3, I3, pu, q3⟩ => ?_)))
  rw [evalPart_none]
  refine wpAny_pure ?_
  obtain ⟨p, b, xs, ys, A, C, ex, ev, el, eu, hp, hb, hne, h0, h1, h2, h3, q⟩ := q3
  subst ex ev el eu
  have I4 : Inv X pins σ H3 { s3 with heap := s3.heap.push { cls := .type "slice", data := .fields #[vl, vu, .none] } } := I3.kept (t' := s3.toks) fun b ob q => Heap.get?_push_of_some _ q
  obtain rfl : ov = Value.ref p := r1
  obtain rfl : u = Value.ref b := r
  cases pl
  cases pu
  refine wpAny_bind (wpAny_standAt (wpAny_bind (wpAny_holding ?_)))
  exact set_slice I4 hp hb hne (Heap.IsSliceOf.new ..) ⟨_, rfl⟩ ⟨_, rfl⟩ h0 h1 h2 h3 fun s5 I5 => wpAny_release ⟨σ, _, I5, q⟩
end
end MM
/-! M31: slices of two items of a list of owned lists change places. -/
namespace MM
open PySem L2
def spl (A C : Int) (ds ys : List D) : List D := ds.take A.toNat ++ ys ++ ds.drop C.toNat
def nSwapSl (i i1 i2 : Nat) (A C : Int) : NS := fun as rows ρ P => ρ[i]? = some (.ow (raw as)) ∧ ∃ n m j k aj ak dj dk dk1, ρ[i1]? = some (.fz (.int n)) ∧ ρ[i2]? = some (.fz (.int m)) ∧ ixN as.length n = some j ∧ ixN as.length m = some k ∧
  as[j]? = some aj ∧ as[k]? = some ak ∧ rows[j]? = some (.list dj) ∧ rows[k]? = some (.list dk) ∧ 0 ≤ A ∧ A ≤ C ∧ C ≤ dj.length ∧ dj.length + dk.length ≤ 1000 ∧
  (rows.set j (.list (spl A C dj (cutD dk (some A) (some C)))))[k]? = some (.list dk1) ∧ C ≤ dk1.length ∧ dk1.length ≤ 3000 ∧
  P .nx as ((rows.set j (.list (spl A C dj (cutD dk (some A) (some C))))).set k (.list (spl A C dk1 (cutD dj (some A) (some C))))) ρ
theorem mid2 {α : Type} (Z : List α) (x y : α) (T : List α) : (x :: y :: (Z ++ T)).Perm (Z ++ x :: y :: T) := (List.perm_middle.trans (List.Perm.cons _ List.perm_middle)).symm
theorem cutD_len (ds : List D) (A C : Option Int) : (cutD ds A C).length ≤ ds.length := by
  unfold cutD
  rw [List.length_take, List.length_drop]
  omega
section
variable {G : Gx} {X : Cx} {e1 e2 e3 e4 : Expr} {x : Str} {pos pt1 pt2 : Pos} {k1 k2 : Nat} {x1 x2 x3 x4 s1 s2 s3 s4 u1 u2 u3 u4 p1 p2 p3 p4 c1 c2 c3 c4 d1 d2 d3 d4 : Pos} {A C : Int} {ka kb : Nat}
theorem nsSwapSl (i i1 i2 : Nat) (hK : G.K = X.K) (hc : X.calm = true) (h1 : PE X e1 (rd G (mVar i1))) (h2 : PE X e2 (rd G (mVar i2))) (h5 : PE X e3 (rd G (mVar i2))) (h6 : PE X e4 (rd G (mVar i1))) {lo1 hi1 lo2 hi2 lo3 hi3 lo4 hi4 : Expr}
    (l1 : PE X lo1 (tC (.int A))) (l2 : PE X lo2 (tC (.int A))) (l3 : PE X lo3 (tC (.int A))) (l4 : PE X lo4 (tC (.int A))) (g1 : PE X hi1 (tC (.int C))) (g2 : PE X hi2 (tC (.int C))) (g3 : PE X hi3 (tC (.int C))) (g4 : PE X hi4 (tC (.int C)))
    (hN : X.N[i]? = some x := by rfl) (hvs : Vis X.env.scope x := by first | exact Or.inl rfl | exact Or.inr (Or.inl rfl) | exact Or.inr (Or.inr rfl))
    (hd : (x == ("__debug__" : Str)) = false := by decide) (hcd : (x == ("__classdict__" : Str)) = false := by decide) (hp1 : PlainIx e1 := by exact fun _ _ => rfl) (hp2 : PlainIx e2 := by exact fun _ _ => rfl) (hp3 : PlainIx e3 := by exact fun _ _ => rfl) (hp4 : PlainIx e4 := by exact fun _ _ => rfl)
    (ha1 : ∀ v, assign (.Subscript (.Subscript (.Name x x1) e1 s1) (.Slice (some lo1) (some hi1) none p1) u1) X.env v = (do
      let ov ← holding [v] (eval (.Subscript (.Name x x1) e1 s1) X.env)
      let iv ← holding [v, ov] (eval (.Slice (some lo1) (some hi1) none p1) X.env)
      standAt u1
      holding [v, ov, iv] (setItem ov iv v)
      release [iv, v, ov] []) := by intro _; rfl)
    (ha2 : ∀ v, assign (.Subscript (.Subscript (.Name x x2) e2 s2) (.Slice (some lo2) (some hi2) none p2) u2) X.env v = (do
      let ov ← holding [v] (eval (.Subscript (.Name x x2) e2 s2) X.env)
      let iv ← holding [v, ov] (eval (.Slice (some lo2) (some hi2) none p2) X.env)
      standAt u2
      holding [v, ov, iv] (setItem ov iv v)
      release [iv, v, ov] []) := by intro _; rfl)
    (hst1 : starEach [.Subscript (.Subscript (.Name x x3) e3 s3) (.Slice (some lo3) (some hi3) none p3) u3, .Subscript (.Subscript (.Name x x4) e4 s4) (.Slice (some lo4) (some hi4) none p4) u4] X.env = (false, eval (.Subscript (.Subscript (.Name x x3) e3 s3) (.Slice (some lo3) (some hi3) none p3) u3) X.env) :: starEach [.Subscript (.Subscript (.Name x x4) e4 s4) (.Slice (some lo4) (some hi4) none p4) u4] X.env := by rfl)
    (hst2 : starEach [.Subscript (.Subscript (.Name x x4) e4 s4) (.Slice (some lo4) (some hi4) none p4) u4] X.env = (false, eval (.Subscript (.Subscript (.Name x x4) e4 s4) (.Slice (some lo4) (some hi4) none p4) u4) X.env) :: starEach [] X.env := by rfl)
    (hg1 : (assignEach [.Subscript (.Subscript (.Name x x1) e1 s1) (.Slice (some lo1) (some hi1) none p1) u1, .Subscript (.Subscript (.Name x x2) e2 s2) (.Slice (some lo2) (some hi2) none p2) u2] X.env).map (·.2) = assign (.Subscript (.Subscript (.Name x x1) e1 s1) (.Slice (some lo1) (some hi1) none p1) u1) X.env :: (assignEach [.Subscript (.Subscript (.Name x x2) e2 s2) (.Slice (some lo2) (some hi2) none p2) u2] X.env).map (·.2) := by rfl)
    (hg2 : (assignEach [.Subscript (.Subscript (.Name x x2) e2 s2) (.Slice (some lo2) (some hi2) none p2) u2] X.env).map (·.2) = assign (.Subscript (.Subscript (.Name x x2) e2 s2) (.Slice (some lo2) (some hi2) none p2) u2) X.env :: (assignEach [] X.env).map (·.2) := by rfl)
    (hn : (assignEach [.Subscript (.Subscript (.Name x x1) e1 s1) (.Slice (some lo1) (some hi1) none p1) u1, .Subscript (.Subscript (.Name x x2) e2 s2) (.Slice (some lo2) (some hi2) none p2) u2] X.env).length = 2 := by rfl) (hst : (assignEach [.Subscript (.Subscript (.Name x x1) e1 s1) (.Slice (some lo1) (some hi1) none p1) u1, .Subscript (.Subscript (.Name x x2) e2 s2) (.Slice (some lo2) (some hi2) none p2) u2] X.env).findIdx? (·.1) = none := by rfl)
    (hs : swapsWithSole [.Tuple [.Subscript (.Subscript (.Name x x1) e1 s1) (.Slice (some lo1) (some hi1) none p1) u1, .Subscript (.Subscript (.Name x x2) e2 s2) (.Slice (some lo2) (some hi2) none p2) u2] k1 pt1] (.Tuple [.Subscript (.Subscript (.Name x x3) e3 s3) (.Slice (some lo3) (some hi3) none p3) u3, .Subscript (.Subscript (.Name x x4) e4 s4) (.Slice (some lo4) (some hi4) none p4) u4] k2 pt2) pos.line X.env = pure false := by rfl)
    (hw : swappedStores [.Tuple [.Subscript (.Subscript (.Name x x1) e1 s1) (.Slice (some lo1) (some hi1) none p1) u1, .Subscript (.Subscript (.Name x x2) e2 s2) (.Slice (some lo2) (some hi2) none p2) u2] k1 pt1] (.Tuple [.Subscript (.Subscript (.Name x x3) e3 s3) (.Slice (some lo3) (some hi3) none p3) u3, .Subscript (.Subscript (.Name x x4) e4 s4) (.Slice (some lo4) (some hi4) none p4) u4] k2 pt2) X.env = pure none := by rfl)
    (h3 : (assignEach [.Tuple [.Subscript (.Subscript (.Name x x1) e1 s1) (.Slice (some lo1) (some hi1) none p1) u1, .Subscript (.Subscript (.Name x x2) e2 s2) (.Slice (some lo2) (some hi2) none p2) u2] k1 pt1] X.env).map (·.2) = [assign (.Tuple [.Subscript (.Subscript (.Name x x1) e1 s1) (.Slice (some lo1) (some hi1) none p1) u1, .Subscript (.Subscript (.Name x x2) e2 s2) (.Slice (some lo2) (some hi2) none p2) u2] k1 pt1) X.env] := by rfl) :
    PS X (.Assign [.Tuple [.Subscript (.Subscript (.Name x x1) e1 s1) (.Slice (some lo1) (some hi1) none p1) u1, .Subscript (.Subscript (.Name x x2) e2 s2) (.Slice (some lo2) (some hi2) none p2) u2] k1 pt1] (.Tuple [.Subscript (.Subscript (.Name x x3) e3 s3) (.Slice (some lo3) (some hi3) none p3) u3, .Subscript (.Subscript (.Name x x4) e4 s4) (.Slice (some lo4) (some hi4) none p4) u4] k2 pt2) pos) (rdsN G (nSwapSl i i1 i2 A C)) :=
  (ps_asg (pe_tup (pa_cons (pe_slice sl_list (pe_ix ix_seq (pe_var hN hvs hd hcd) h5 hp3) (po_some l3) (po_some g3)) (pa_cons (pe_slice sl_list (pe_ix ix_seq (pe_var hN hvs hd hcd) h6 hp4) (po_some l4) (po_some g4)) pa_nil hst2) hst1))
    (pg_tup hc (pgs_cons (pg_slice (pe_ix ix_seq (pe_var hN hvs hd hcd) h1 hp1) (po_some l1) (po_some g1) ha1) (pgs_cons (pg_slice (pe_ix ix_seq (pe_var hN hvs hd hcd) h2 hp2) (po_some l2) (po_some g2) ha2) pgs_nil hg2) hg1) hn hst) hs hw h3).weak fun W σ H ⟨ρ, T, F, as, rows, P, hl, S, c, kk⟩ => by
    obtain ⟨hi, n, m, j, k, aj, ak, dj, dk, dk1, q1, q2, hj, hk, haj, hak, hrj, hrk, b0, b1, b2, b3, b4, b5, b6, hp⟩ := c
    obtain ⟨a, ha, _, _, w0⟩ := S.ow i _ hi
    have v1 : mVar i1 ρ = some (.int n, ρ) := by unfold mVar; rw [q1]
    have v2 : mVar i2 ρ = some (.int m, ρ) := by unfold mVar; rw [q2]
    have at1 : ∀ {z : Int} {u : Nat} {b : Addr}, ixN as.length z = some u → as[u]? = some b → atI (as.map V.ref) z = some (.ref b) := fun {z u b} e1 e2 => by
      unfold atI
      rw [List.length_map, e1]
      show (as.map V.ref)[u]? = _
      rw [List.getElem?_map, e2]; rfl
    -- x[e2][A:C]
    refine ⟨_, ha, ρ, _, F, .int m, ρ, S, v2, fun y1 F1 H1 S1 f1 r1 => ?_⟩
    cases r1
    obtain ⟨a', ha', _, _, w1⟩ := S1.ow i _ hi
    rw [ha] at ha'; cases ha'
    refine .inl ⟨a, as.map .ref, m, .ref ak, rfl, rfl, SqL.of (own_raw.mp w1), at1 hk hak, ?_⟩
    refine ⟨A, rfl, C, rfl, ?_⟩
    obtain ⟨_, ⟨vk, wk, rk⟩, _⟩ := S1.row hak hrk
    refine ⟨ak, vk, rfl, SqL.of wk, fun s hs1 => ?_⟩
    have S1' := S1.allocO (d := .list (cutD dk (some A) (some C))) hs1 ⟨_, upd_same, cut_rp rk _ _⟩
    -- x[e1][A:C]
    refine ⟨_, ha, ρ, _, F1, .int n, ρ, S1', v1, fun y2 F2 H2 S2 f2 r2 => ?_⟩
    cases r2
    obtain ⟨a', ha', _, _, w2⟩ := S2.ow i _ hi
    rw [ha] at ha'; cases ha'
    refine .inl ⟨a, as.map .ref, n, .ref aj, rfl, rfl, SqL.of (own_raw.mp w2), at1 hj haj, ?_⟩
    refine ⟨A, rfl, C, rfl, ?_⟩
    have S2z : StR G ρ σ (as.zip rows ++ (s, .list (cutD dk (some A) (some C))) :: T) F2 H2 := S2.perm List.perm_middle
    obtain ⟨_, ⟨vj, wj, rj⟩, _⟩ := S2z.row haj hrj
    refine ⟨aj, vj, rfl, SqL.of wj, fun s' hs2 => ?_⟩
    have S2' := S2z.allocO (d := .list (cutD dj (some A) (some C))) hs2 ⟨_, upd_same, cut_rp rj _ _⟩
    refine ⟨by show 2 ≤ sizeLine; decide, fun t ht => ?_⟩
    have S3 := S2'.junk (o := .tup [.ref s, .ref s']) ht
    refine ⟨t, _, rfl, SqT.of upd_same, rfl, ?_⟩
    -- the first store
    refine ⟨.ref s, _, rfl, ?_⟩
    refine ⟨_, ha, ρ, _, F2, .int n, ρ, S3, v1, fun y4 F4 H4 S4 f4 r4 => ?_⟩
    cases r4
    obtain ⟨a', ha', _, _, w4⟩ := S4.ow i _ hi
    rw [ha] at ha'; cases ha'
    refine .inl ⟨a, as.map .ref, n, .ref aj, rfl, rfl, SqL.of (own_raw.mp w4), at1 hj haj, ?_⟩
    refine ⟨A, rfl, C, rfl, ?_⟩
    have S4z : StR G ρ σ (as.zip rows ++ (s', .list (cutD dj (some A) (some C))) :: (s, .list (cutD dk (some A) (some C))) :: T) F4 H4 := S4.perm (List.perm_middle)
    obtain ⟨_, ⟨vj4, wj4, rj4⟩, ch4⟩ := S4z.row haj hrj
    obtain ⟨_, _, ⟨vs4, ws4, rs4⟩⟩ := S4z.tm (s, .list (cutD dk (some A) (some C))) (by simp)
    have tn4 := S4z.tn
    have nejs : aj ≠ s := by
      intro z
      have hm : (aj, PyData.list dj) ∈ as.zip rows := List.mem_of_getElem? (List.getElem?_zip_eq_some.mpr ⟨haj, hrj⟩)
      rw [List.map_append, List.nodup_append] at tn4
      exact tn4.2.2 aj (List.mem_map.mpr ⟨_, hm, rfl⟩) s (by simp) z
    refine ⟨aj, s, vj4, vs4, A, C, rfl, rfl, rfl, rfl, wj4, ws4, nejs, b0, b1, by rw [rj4.length]; exact b2, ?_, ?_⟩
    · rw [rj4.length, rs4.length, sizeLine_eq]
      have := cutD_len dk (some A) (some C)
      omega
    have S5 := ch4 (.lst (vj4.take A.toNat ++ vs4 ++ vj4.drop C.toNat)) (.list (spl A C dj (cutD dk (some A) (some C)))) ⟨_, upd_same, ((rj4.take _).append rs4).append (rj4.drop _)⟩
    -- the second
    refine ⟨.ref s', [], rfl, ?_⟩
    refine ⟨_, ha, ρ, _, F4, .int m, ρ, S5, v2, fun y6 F6 H6 S6 f6 r6 => ?_⟩
    cases r6
    obtain ⟨a', ha', _, _, w6⟩ := S6.ow i _ hi
    rw [ha] at ha'; cases ha'
    refine .inl ⟨a, as.map .ref, m, .ref ak, rfl, rfl, SqL.of (own_raw.mp w6), at1 hk hak, ?_⟩
    refine ⟨A, rfl, C, rfl, ?_⟩
    obtain ⟨_, ⟨vk6, wk6, rk6⟩, ch6⟩ := S6.row hak b4
    obtain ⟨_, _, ⟨vs6, ws6, rs6⟩⟩ := S6.tm (s', .list (cutD dj (some A) (some C))) (by simp)
    have tn6 := S6.tn
    have neks : ak ≠ s' := by
      intro z
      have hm : (ak, PyData.list dk1) ∈ as.zip (rows.set j (.list (spl A C dj (cutD dk (some A) (some C))))) := List.mem_of_getElem? (List.getElem?_zip_eq_some.mpr ⟨hak, b4⟩)
      rw [List.map_append, List.nodup_append] at tn6
      exact tn6.2.2 ak (List.mem_map.mpr ⟨_, hm, rfl⟩) s' (by simp) z
    refine ⟨ak, s', vk6, vs6, A, C, rfl, rfl, rfl, rfl, wk6, ws6, neks, b0, b1, by rw [rk6.length]; exact b5, ?_, ?_⟩
    · rw [rk6.length, rs6.length, sizeLine_eq]
      have := cutD_len dj (some A) (some C)
      omega
    have S7 := ch6 (.lst (vk6.take A.toNat ++ vs6 ++ vk6.drop C.toNat)) (.list (spl A C dk1 (cutD dj (some A) (some C)))) ⟨_, upd_same, ((rk6.take _).append rs6).append (rk6.drop _)⟩
    refine ⟨rfl, ?_⟩
    have S8 := (S7.perm (mid2 _ _ _ _)).drop.drop
    exact kk .nx _ _ _ hp (by simp only [List.length_set]; exact hl) σ F6 _ S8 (((f1.trans f2).trans f4).trans f6)
end
end MM
/-! M32: a body over lists of owned lists: freezing ahead of a statement, the body's end with the locals forgotten. -/
namespace MM
open PySem L2
def nFrzN (i : Nat) (n : NS) : NS := fun as rows ρ P => ρ[i]? = some (.ow (raw as)) ∧ (∀ r ∈ rows, objD r = false) ∧ n [] [] (ρ.set i (.ow (.list rows))) P
section
variable {G : Gx} {X : Cx} {st : Stmt} {rest : List Stmt} {n : NS}
theorem nsFrzN (i : Nat) (h : PS X st (rdsN G n)) : PS X st (rdsN G (nFrzN i n)) := h.weak fun W σ H ⟨ρ, T, F, as, rows, P, hl, S, ⟨hi, ho, p⟩, k⟩ => by
  obtain ⟨F', h1, h2, h3⟩ := StR.frzAll (i := i) hl ho S
  have S2 := h2.resay hi (d' := .list rows) fun a _ w => ⟨_, own_raw.mp w, h3⟩
  exact ⟨_, T, F', [], [], P, rfl, S2, p, fun fl as2 rows2 ρ2 p2 hl2 => (k fl as2 rows2 ρ2 p2 hl2).mono h1⟩
/-- a body that begins without such a list; behind it the slots vs are forgotten -/
theorem nsBodyW (vs : List Nat) {ms : MS} {body : List Stmt} (h : PSs X body (rdsN G n)) (w : ∀ ρ fl ρ', ms ρ = some (fl, ρ') → n [] [] ρ fun fl' _ _ ρ2 => fl' = fl ∧ wipeE ρ2 vs = ρ' ∧ ∀ d, fl ≠ .rt d true) : PSs X body (rds G ms) := h.weak fun W σ H ⟨ρ, T, F, fl, ρ', S, e, k⟩ => by
  refine ⟨ρ, T, F, [], [], _, rfl, S, w ρ fl ρ' e, fun fl' as' rows' ρ2 ⟨e1, e2, no⟩ _ => ?_⟩
  subst e1 e2
  cases fl' with
  | nx => exact fun σ' F' H' S' q => k σ' F' H' (S'.dropN.wipe vs) q
  | bk => exact fun σ' F' H' S' q => k σ' F' H' (S'.dropN.wipe vs) q
  | ct => exact fun σ' F' H' S' q => k σ' F' H' (S'.dropN.wipe vs) q
  | rt d o =>
    cases o with
    | false => exact fun v σ' F' H' S' q r => k v σ' F' H' (S'.dropN.wipe vs) q r
    | true => exact absurd rfl (no d)
end
end MM
/-! M33: the mirror of a body over lists of owned lists, by choice: an end that the body surely comes to, and that is as R says. -/
namespace MM
open PySem L2
open Classical in
noncomputable def mOfN (n : NS) (vs : List Nat) (R : En → Fl → En → Prop) : MS := fun ρ =>
  if h : ∃ x : Fl × En, (n [] [] ρ fun fl' _ _ ρ2 => fl' = x.1 ∧ wipeE ρ2 vs = x.2 ∧ ∀ d, x.1 ≠ .rt d true) ∧ R ρ x.1 x.2 then some (Classical.choose h) else none
theorem mOfN_h {n : NS} {vs : List Nat} {R : En → Fl → En → Prop} : ∀ ρ fl ρ', mOfN n vs R ρ = some (fl, ρ') → n [] [] ρ fun fl' _ _ ρ2 => fl' = fl ∧ wipeE ρ2 vs = ρ' ∧ ∀ d, fl ≠ .rt d true := fun ρ fl ρ' e => by
  unfold mOfN at e
  split at e
  · rename_i h
    have q := (Classical.choose_spec h).1
    cases e1 : Classical.choose h with
    | mk a b =>
      rw [e1] at e q
      cases e
      exact q
  · cases e
theorem mOfN_w {n : NS} {vs : List Nat} {R : En → Fl → En → Prop} {ρ : En} (h : ∃ fl ρ', (n [] [] ρ fun fl' _ _ ρ2 => fl' = fl ∧ wipeE ρ2 vs = ρ' ∧ ∀ d, fl ≠ .rt d true) ∧ R ρ fl ρ') : ∃ fl ρ', mOfN n vs R ρ = some (fl, ρ') ∧ R ρ fl ρ' := by
  obtain ⟨fl, ρ', h1, h2⟩ := h
  have hh : ∃ x : Fl × En, (n [] [] ρ fun fl' _ _ ρ2 => fl' = x.1 ∧ wipeE ρ2 vs = x.2 ∧ ∀ d, x.1 ≠ .rt d true) ∧ R ρ x.1 x.2 := ⟨(fl, ρ'), h1, h2⟩
  unfold mOfN
  rw [dif_pos hh]
  exact ⟨_, _, rfl, (Classical.choose_spec hh).2⟩
/-! reckoning with such bodies -/
def wMC (mc : En → Option (List D × En)) (ρ : En) (Q : List D → En → Prop) : Prop := ∃ ds ρ', mc ρ = some (ds, ρ') ∧ Q ds ρ'
theorem wMC_Comp {it : MI} {g : MG} {t : MT} {e : M} {vs : List Nat} {ρ : En} {Q : List D → En → Prop} (h : wI it ρ fun ds ρ1 => ds.length ≤ 16777216 ∧ wC g t e vs ds (wipeE ρ1 vs) Q) : wMC (mCompN it g t e vs) ρ Q := by
  obtain ⟨ds, ρ1, e1, hl, r, ρ2, e2, q⟩ := h
  unfold wMC mCompN
  rw [e1]
  show ∃ _ _, (if ds.length ≤ 16777216 then _ else none) = _ ∧ _
  rw [if_pos hl, e2]
  exact ⟨_, _, rfl, q⟩
theorem nMake2_i {i j : Nat} {m : M} {mc : En → Option (List D × En)} {ρ : En} {P : NP} (h : wM m ρ fun d ρ1 => wMC mc ρ1 fun ds ρ2 => ∀ as' : List Addr, as'.length = ds.length → P .nx as' ds ((ρ2.set i (.fz d)).set j (.ow (raw as')))) : nMake2 i j m mc [] [] ρ P := by
  obtain ⟨d, ρ1, e1, ds, ρ2, e2, q⟩ := h
  exact ⟨rfl, rfl, d, ρ1, ds, ρ2, e1, e2, q⟩
theorem nSet2_i {i : Nat} {m1 m2 mv : M} {as : List Addr} {rows : List D} {ρ : En} {P : NP} (h : wM mv ρ fun dv ρ1 => ρ1[i]? = some (.ow (raw as)) ∧ wM m1 ρ1 fun dn ρ2 => ρ2[i]? = some (.ow (raw as)) ∧ ∃ n j d, dn = .int n ∧ ixN as.length n = some j ∧ rows[j]? = some d ∧ wM m2 ρ2 fun dk ρ3 => ∃ d', dSetA d dk dv = some d' ∧ P .nx as (rows.set j d') ρ3) : nSet2 i m1 m2 mv as rows ρ P := by
  obtain ⟨dv, ρ1, e1, h1, dn, ρ2, e2, h2, n, j, d, rfl, h3, h4, dk, ρ3, e3, d', h5, q⟩ := h
  exact ⟨dv, ρ1, e1, h1, n, ρ2, e2, h2, j, d, h3, h4, dk, ρ3, e3, d', h5, q⟩
theorem nLift_i {m : MS} {as : List Addr} {rows : List D} {ρ : En} {P : NP} (h : wS m ρ fun fl ρ' => P fl as rows ρ') : nLift m as rows ρ P := h
theorem tnLift_i {m : MT} {as : List Addr} {rows : List D} {ρ : En} {P : Bool → En → Prop} (h : wT m ρ P) : tnLift m as rows ρ P := h
theorem nFrz_i {i : Nat} {m : MS} {as : List Addr} {rows : List D} {ρ : En} {P : NP} (h : ρ[i]? = some (.ow (raw as)) ∧ (∀ r ∈ rows, objD r = false) ∧ wS m (ρ.set i (.ow (.list rows))) fun fl ρ' => P fl [] [] ρ') : nFrz i m as rows ρ P := h
/-! comprehensions over enumerate -/
def enM {α : Type} (h : Int → α → D) : Int → List α → List D
  | _, [] => []
  | k, x :: xs => h k x :: enM h (k + 1) xs
theorem wC_en {α : Type} {g : MG} {t : MT} {e : M} {vs : List Nat} {ρ : En} (f : α → D) (h : Int → α → D) : ∀ (xs : List α) (k : Int) {Q : List D → En → Prop}, (∀ x ∈ xs, ∀ j, stepC g t e vs ρ (.tuple [.int j, f x]) (some (h j x))) → Q (enM h k xs) ρ → wC g t e vs (enF k (xs.map f)) ρ Q
  | [], k, Q, _, q => wC_nil.mpr q
  | x :: xs, k, Q, hs, q => by
    rw [List.map_cons, enF_c, wC_cons]
    obtain ⟨r, h1, b, r2, h2, z⟩ := hs x List.mem_cons_self k
    refine ⟨r, h1, b, r2, h2, ?_⟩
    cases b with
    | true =>
      obtain ⟨y, r3, h3, e1, e2⟩ := z
      refine ⟨y, r3, h3, ?_⟩
      cases e1
      unfold kCo2
      rw [e2]
      exact wC_en f h xs (k + 1) (Q := kCo3 (h k x) Q) (fun y hy => hs y (List.mem_cons_of_mem _ hy)) q
    | false => exact absurd z.1 (by simp)
theorem enM_len {α : Type} {h : Int → α → D} : ∀ {xs : List α} {k : Int}, (enM h k xs).length = xs.length
  | [], _ => rfl
  | _ :: xs, k => by rw [enM, List.length_cons, List.length_cons, enM_len]
end MM
namespace LK
/-! sums, congruences -/
def sN (f : Nat → Int) : Nat → Int
  | 0 => 0
  | n + 1 => sN f n + f n
theorem sN_add (f : Nat → Int) (m : Nat) : ∀ n, sN f (m + n) = sN f m + sN (fun i => f (m + i)) n
  | 0 => by simp [sN]
  | n + 1 => by
    have := sN_add f m n
    rw [show m + (n + 1) = (m + n) + 1 from rfl, sN, this, sN]
    omega
theorem sN_plus (f g : Nat → Int) : ∀ n, sN f n + sN g n = sN (fun i => f i + g i) n
  | 0 => rfl
  | n + 1 => by
    have := sN_plus f g n
    simp only [sN]
    omega
theorem sN_congr {f g : Nat → Int} : ∀ n, (∀ i, i < n → f i = g i) → sN f n = sN g n
  | 0, _ => rfl
  | n + 1, h => by rw [sN, sN, sN_congr n (fun i hi => h i (by omega)), h n (by omega)]
/-- alike by p -/
def Cg (p a b : Int) : Prop := a % p = b % p
section
variable {p a b c d : Int}
theorem Cg.rfl : Cg p a a := Eq.refl _
theorem Cg.symm (h : Cg p a b) : Cg p b a := Eq.symm h
theorem Cg.trans (h : Cg p a b) (k : Cg p b c) : Cg p a c := Eq.trans h k
theorem Cg.add (h : Cg p a b) (k : Cg p c d) : Cg p (a + c) (b + d) := by
  unfold Cg at *
  rw [Int.add_emod, h, k, ← Int.add_emod]
theorem Cg.sub (h : Cg p a b) (k : Cg p c d) : Cg p (a - c) (b - d) := by
  unfold Cg at *
  rw [Int.sub_emod, h, k, ← Int.sub_emod]
theorem Cg.mul (h : Cg p a b) (k : Cg p c d) : Cg p (a * c) (b * d) := by
  unfold Cg at *
  rw [Int.mul_emod, h, k, ← Int.mul_emod]
theorem Cg.mod : Cg p (a % p) a := Int.emod_emod_of_dvd a (Int.dvd_refl p)
theorem Cg.of (h : a = b) : Cg p a b := by rw [h]; exact Cg.rfl
theorem Cg.sN {f g : Nat → Int} : ∀ n, (∀ i, i < n → Cg p (f i) (g i)) → Cg p (sN f n) (sN g n)
  | 0, _ => Cg.rfl
  | n + 1, h => (Cg.sN n fun i hi => h i (by omega)).add (h n (by omega))
end
/-! spreads: by halves, by weights -/
def hf (p x : Int) (t : List Int) : List Int := (List.range (t.length / 2)).map fun k => (t.getD k 0 + x * (t.getD (t.length / 2 + k) 0 - t.getD k 0)) % p
theorem hf_len {p x : Int} {t : List Int} : (hf p x t).length = t.length / 2 := by unfold hf; rw [List.length_map, List.length_range]
theorem hf_get {p x : Int} {t : List Int} {k : Nat} (h : k < t.length / 2) : (hf p x t).getD k 0 = (t.getD k 0 + x * (t.getD (t.length / 2 + k) 0 - t.getD k 0)) % p := by
  unfold hf
  rw [List.getD_eq_getElem?_getD, List.getElem?_map, List.getElem?_range h]
  rfl
def sp (p : Int) : List Int → List Int → List Int
  | [], t => t
  | x :: xs, t => sp p xs (hf p x t)
def wt : List Int → List Int → Int
  | b :: bs, x :: xs => (if b = 1 then x else 1 - x) * wt bs xs
  | _, _ => 1
def wtf (p : Int) : Int → List Int → List Int → Int
  | f, b :: bs, x :: xs => wtf p (f * (if b = 1 then x else 1 - x) % p) bs xs
  | f, _, _ => f
theorem wtf_wt {p : Int} : ∀ (bs xs : List Int) (f : Int), Cg p (wtf p f bs xs) (f * wt bs xs)
  | b :: bs, x :: xs, f => by
    rw [wtf, wt]
    refine (wtf_wt bs xs _).trans ?_
    refine (Cg.mod.mul Cg.rfl).trans (Cg.of ?_)
    rw [Int.mul_assoc]
  | [], _, f => by rw [wtf, wt, Int.mul_one]; exact Cg.rfl; all_goals simp
  | _ :: _, [], f => by rw [wtf, wt, Int.mul_one]; exact Cg.rfl; all_goals simp
def bitsL (k i : Nat) : List Int := (List.range k).map fun a => ((i / 2 ^ (k - 1 - a) % 2 : Nat) : Int)
theorem bitsL_succ {k i : Nat} : bitsL (k + 1) i = ((i / 2 ^ k % 2 : Nat) : Int) :: bitsL k i := by
  unfold bitsL
  rw [List.range_succ_eq_map, List.map_cons, List.map_map]
  congr 1
  refine List.map_congr_left fun a ha => ?_
  rw [List.mem_range] at ha
  show ((i / 2 ^ (k + 1 - 1 - (a + 1)) % 2 : Nat) : Int) = _
  rw [show k + 1 - 1 - (a + 1) = k - 1 - a by omega]
theorem bitsL_add {k i : Nat} : bitsL k (2 ^ k + i) = bitsL k i := by
  unfold bitsL
  refine List.map_congr_left fun a ha => ?_
  rw [List.mem_range] at ha
  have e : 2 ^ k = 2 ^ (k - 1 - a) * (2 * 2 ^ a) := by
    rw [← Nat.mul_assoc, ← Nat.pow_succ, ← Nat.pow_add]
    congr 1
    omega
  rw [e, Nat.mul_add_div (Nat.two_pow_pos _)]
  rw [Nat.mul_add_mod]
theorem spread_w {p : Int} : ∀ (xs t : List Int), t.length = 2 ^ xs.length → Cg p ((sp p xs t).getD 0 0) (sN (fun i => t.getD i 0 * wt (bitsL xs.length i) xs) (2 ^ xs.length))
  | [], t, h => by
    show Cg p (t.getD 0 0) (0 + t.getD 0 0 * 1)
    rw [Int.zero_add, Int.mul_one]; exact Cg.rfl
  | x :: xs, t, h => by
    have hl : t.length = 2 ^ xs.length + 2 ^ xs.length := by rw [h, List.length_cons, Nat.pow_succ]; omega
    have hh : t.length / 2 = 2 ^ xs.length := by omega
    have h1 := spread_w (p := p) xs (hf p x t) (by rw [hf_len, hh])
    rw [sp]
    refine h1.trans ?_
    rw [List.length_cons, show 2 ^ (xs.length + 1) = 2 ^ xs.length + 2 ^ xs.length by rw [Nat.pow_succ]; omega, sN_add, sN_plus]
    refine Cg.sN _ fun i hi => ?_
    rw [hf_get (by omega), hh]
    refine (Cg.mod.mul Cg.rfl).trans (Cg.of ?_)
    have p1 : 0 < 2 ^ xs.length := Nat.two_pow_pos _
    rw [bitsL_succ, bitsL_succ, bitsL_add, wt, wt]
    have e1 : i / 2 ^ xs.length % 2 = 0 := by rw [Nat.div_eq_of_lt hi]
    have e2 : (2 ^ xs.length + i) / 2 ^ xs.length % 2 = 1 := by
      rw [Nat.add_div_left _ p1, Nat.div_eq_of_lt hi]
    rw [e1, e2]
    rw [if_neg (by decide), if_pos (by decide)]
    generalize wt (bitsL xs.length i) xs = w
    generalize t.getD i 0 = u
    generalize t.getD (2 ^ xs.length + i) 0 = v
    grind
end LK
namespace LK
/-! primes: the inverse by a power -/
def Pr (p : Nat) : Prop := 2 ≤ p ∧ ∀ d, d ∣ p → d = 1 ∨ d = p
def noDiv (p m : Nat) : Bool := (List.range m).all fun i => (List.range m).all fun j => p % (i * m + j + 2) != 0
theorem noDiv_ok {p m : Nat} (h : noDiv p m = true) (d : Nat) (h1 : 2 ≤ d) (h2 : d < m * m + 2) : ¬ d ∣ p := by
  intro h3
  have hm : 0 < m := Nat.pos_of_ne_zero fun z => by subst z; omega
  unfold noDiv at h
  rw [List.all_eq_true] at h
  have hi : (d - 2) / m < m := by rw [Nat.div_lt_iff_lt_mul hm]; omega
  have := h ((d - 2) / m) (List.mem_range.mpr hi)
  rw [List.all_eq_true] at this
  have := this ((d - 2) % m) (List.mem_range.mpr (Nat.mod_lt _ hm))
  have e : (d - 2) / m * m + (d - 2) % m + 2 = d := by rw [Nat.mul_comm, Nat.div_add_mod]; omega
  rw [e, Nat.mod_eq_zero_of_dvd h3] at this
  cases this
theorem pr_of {p m : Nat} (h2 : 2 ≤ p) (h : noDiv p m = true) (hn : p < (m * m + 2) * (m * m + 2)) : Pr p := by
  refine ⟨h2, fun d hd => ?_⟩
  obtain ⟨e, he⟩ := hd
  have hd0 : 0 < d := Nat.pos_of_ne_zero fun z => by subst z; simp at he; omega
  have he0 : 0 < e := Nat.pos_of_ne_zero fun z => by subst z; simp at he; omega
  by_cases h1 : d = 1
  · exact .inl h1
  by_cases h3 : e = 1
  · right; subst h3; omega
  exfalso
  by_cases hd2 : d < m * m + 2
  · exact noDiv_ok h d (by omega) hd2 ⟨e, he⟩
  by_cases he2 : e < m * m + 2
  · exact noDiv_ok h e (by omega) he2 ⟨d, by rw [Nat.mul_comm]; exact he⟩
  have : (m * m + 2) * (m * m + 2) ≤ d * e := Nat.mul_le_mul (by omega) (by omega)
  omega
theorem pr_M : Pr 2147483647 := pr_of (m := 216) (by decide) (by decide +kernel) (by decide)
theorem pr_F : Pr 65537 := pr_of (m := 16) (by decide) (by decide +kernel) (by decide)
theorem pr_5 : Pr 5 := pr_of (m := 1) (by decide) (by decide +kernel) (by decide)
theorem pr_7 : Pr 7 := pr_of (m := 1) (by decide) (by decide +kernel) (by decide)
theorem pr_11 : Pr 11 := pr_of (m := 2) (by decide) (by decide +kernel) (by decide)
theorem pr_13 : Pr 13 := pr_of (m := 2) (by decide) (by decide +kernel) (by decide)
theorem pr_101 : Pr 101 := pr_of (m := 3) (by decide) (by decide +kernel) (by decide)
/-! Bezout -/
theorem bez : ∀ (a b : Nat), ∃ u v : Int, u * a + v * b = (Nat.gcd a b : Nat) := by
  intro a b
  induction a, b using Nat.gcd.induction with
  | H0 n => exact ⟨0, 1, by simp⟩
  | H1 m n h ih =>
    obtain ⟨u, v, e⟩ := ih
    rw [Nat.gcd_rec]
    rw [← e]
    refine ⟨v - u * ((n / m : Nat) : Int), u, ?_⟩
    have : (n : Int) = (m : Int) * ((n / m : Nat) : Int) + ((n % m : Nat) : Int) := by
      have := Nat.div_add_mod n m
      rw [← Int.natCast_mul, ← Int.natCast_add, this]
    grind
theorem Pr.inv {p x : Nat} (h : Pr p) (h0 : 0 < x) (h1 : x < p) : ∃ y : Int, (x * y) % (p : Int) = 1 := by
  have hg : Nat.gcd x p = 1 := by
    rcases h.2 _ (Nat.gcd_dvd_right x p) with e | e
    · exact e
    · have := Nat.le_of_dvd h0 (Nat.gcd_dvd_left x p)
      omega
  obtain ⟨u, v, e⟩ := bez x p
  rw [hg] at e
  refine ⟨u, ?_⟩
  have h2 := h.1
  have : (x : Int) * u = 1 + p * (-v) := by grind
  rw [this, Int.add_mul_emod_self_left]
  exact Int.emod_eq_of_lt (by decide) (by omega)
/-! Fermat -/
def pL : List Int → Int
  | [] => 1
  | x :: xs => x * pL xs
theorem pL_perm {a b : List Int} (h : a.Perm b) : pL a = pL b := by
  induction h with
  | nil => rfl
  | cons x _ ih => simp only [pL, ih]
  | swap x y l => simp only [pL]; grind
  | trans _ _ h1 h2 => rw [h1, h2]
theorem pL_mod {p : Int} : ∀ xs : List Int, Cg p (pL (xs.map fun i => i % p)) (pL xs)
  | [] => Cg.rfl
  | x :: xs => Cg.mod.mul (pL_mod xs)
theorem pL_scale {x : Int} : ∀ xs : List Int, pL (xs.map fun i => x * i) = x ^ xs.length * pL xs
  | [] => by simp [pL]
  | y :: ys => by
    rw [List.map_cons, pL, pL_scale ys, List.length_cons, Int.pow_succ, pL]
    grind
theorem pL_inv {p : Nat} (h : Pr p) : ∀ xs : List Int, (∀ x ∈ xs, 0 < x ∧ x < p) → ∃ y, Cg p (pL xs * y) 1
  | [], _ => ⟨1, Cg.rfl⟩
  | x :: xs, hx => by
    obtain ⟨y, e⟩ := pL_inv h xs fun z hz => hx z (List.mem_cons_of_mem _ hz)
    have h1 := hx x List.mem_cons_self
    obtain ⟨z, ez⟩ := h.inv (x := x.toNat) (by omega) (by omega)
    rw [Int.toNat_of_nonneg (by omega)] at ez
    refine ⟨z * y, ?_⟩
    have e2 : Cg p (x * z) 1 := by
      show (x * z) % (p : Int) = 1 % p
      rw [ez, Int.emod_eq_of_lt (by decide) (by have := h.1; omega)]
    have := e2.mul e
    rw [Int.one_mul] at this
    refine Cg.trans (Cg.of ?_) this
    simp only [pL]
    grind
def upto (n : Nat) : List Int := (List.range n).map fun i => ((i + 1 : Nat) : Int)
theorem mem_upto {n : Nat} {x : Int} : x ∈ upto n ↔ 0 < x ∧ x < n + 1 := by
  unfold upto
  rw [List.mem_map]
  constructor
  · rintro ⟨i, hi, rfl⟩
    rw [List.mem_range] at hi
    omega
  · rintro ⟨h0, h1⟩
    exact ⟨x.toNat - 1, List.mem_range.mpr (by omega), by omega⟩
theorem upto_nodup {n : Nat} : (upto n).Nodup := by
  unfold upto
  rw [List.nodup_iff_pairwise_ne, List.pairwise_map]
  exact List.nodup_range.imp fun h e => h (by omega)
theorem scale_perm {p : Nat} (h : Pr p) {x : Int} (h0 : 0 < x) (h1 : x < p) : ((upto (p - 1)).map fun i => x * i % p).Perm (upto (p - 1)) := by
  have h2 := h.1
  obtain ⟨y, ey⟩ := h.inv (x := x.toNat) (by omega) (by omega)
  rw [Int.toNat_of_nonneg (by omega)] at ey
  have exy : Cg p (x * y) 1 := by
    show (x * y) % (p : Int) = 1 % p
    rw [ey, Int.emod_eq_of_lt (by decide) (by omega)]
  have back : ∀ i : Int, 0 < i → i < p → (y * (x * i % p)) % p = i := by
    intro i i0 i1
    have : Cg p (y * (x * i % p)) i := by
      refine (Cg.rfl.mul Cg.mod).trans ?_
      refine Cg.trans (Cg.of (show y * (x * i) = (x * y) * i by grind)) ?_
      have := exy.mul (Cg.rfl (a := i))
      rwa [Int.one_mul] at this
    have e : (y * (x * i % p)) % p = i % p := this
    rw [e, Int.emod_eq_of_lt (by omega) i1]
  have forw : ∀ i : Int, 0 < i → i < p → (x * (y * i % p)) % p = i := by
    intro i i0 i1
    have : Cg p (x * (y * i % p)) i := by
      refine (Cg.rfl.mul Cg.mod).trans ?_
      refine Cg.trans (Cg.of (show x * (y * i) = (x * y) * i by grind)) ?_
      have := exy.mul (Cg.rfl (a := i))
      rwa [Int.one_mul] at this
    have e : (x * (y * i % p)) % p = i % p := this
    rw [e, Int.emod_eq_of_lt (by omega) i1]
  have rng : ∀ z : Int, 0 ≤ z % p ∧ z % p < p := fun z => ⟨Int.emod_nonneg _ (by omega), Int.emod_lt_of_pos _ (by omega)⟩
  have nz : ∀ i : Int, 0 < i → i < p → x * i % p ≠ 0 := by
    intro i i0 i1 z
    have := back i i0 i1
    rw [z, Int.mul_zero, Int.zero_emod] at this
    omega
  have nz2 : ∀ i : Int, 0 < i → i < p → y * i % p ≠ 0 := by
    intro i i0 i1 z
    have := forw i i0 i1
    rw [z, Int.mul_zero, Int.zero_emod] at this
    omega
  have hp1 : ((p - 1 : Nat) : Int) + 1 = p := by omega
  refine (List.perm_ext_iff_of_nodup ?_ upto_nodup).mpr fun z => ?_
  · rw [List.nodup_iff_pairwise_ne, List.pairwise_map]
    refine List.Pairwise.imp_of_mem ?_ upto_nodup
    intro a b ha hb hab e
    rw [mem_upto, hp1] at ha hb
    have e1 := back a ha.1 ha.2
    have e2 := back b hb.1 hb.2
    rw [e] at e1
    exact hab (e1.symm.trans e2)
  · rw [List.mem_map]
    constructor
    · rintro ⟨a, ha, rfl⟩
      rw [mem_upto, hp1] at ha ⊢
      have := rng (x * a)
      have := nz a ha.1 ha.2
      omega
    · intro hz
      rw [mem_upto, hp1] at hz
      refine ⟨y * z % p, ?_, forw z hz.1 hz.2⟩
      rw [mem_upto, hp1]
      have := rng (y * z)
      have := nz2 z hz.1 hz.2
      omega
theorem fermat {p : Nat} (h : Pr p) {x : Int} (h0 : 0 < x) (h1 : x < p) : Cg p (x ^ (p - 1)) 1 := by
  have e1 := pL_perm (scale_perm h h0 h1)
  have e2 : Cg p (pL ((upto (p - 1)).map fun i => x * i % p)) (pL ((upto (p - 1)).map fun i => x * i)) := by
    have := pL_mod (p := p) ((upto (p - 1)).map fun i => x * i)
    rwa [List.map_map] at this
  rw [e1, pL_scale] at e2
  have hl : (upto (p - 1)).length = p - 1 := by unfold upto; simp
  rw [hl] at e2
  obtain ⟨y, ey⟩ := pL_inv h (upto (p - 1)) fun z hz => by
    rw [mem_upto] at hz
    have := h.1
    omega
  have e3 := e2.symm.mul (Cg.rfl (a := y))
  rw [Int.mul_assoc] at e3
  have e4 := (Cg.rfl (p := p) (a := x ^ (p - 1))).mul ey
  rw [Int.mul_one] at e4
  exact e4.symm.trans (e3.trans ey)
theorem pow_inv {p : Nat} (h : Pr p) {x : Int} (h0 : 0 < x) (h1 : x < p) : Cg p (x * x ^ (p - 2)) 1 := by
  have := fermat h h0 h1
  have h2 := h.1
  rw [show p - 1 = (p - 2) + 1 by omega, Int.pow_succ, Int.mul_comm] at this
  exact this
/-! the power by halving -/
def pw (p : Int) : Nat → Int → Int → Int → Int
  | 0, f, _, _ => f
  | n + 1, f, b, t => if 0 < t then pw p n (if t % 2 = 1 then f * b % p else f) (b * b % p) (t / 2) else f
theorem Cg.pow {p a b : Int} (h : Cg p a b) : ∀ n : Nat, Cg p (a ^ n) (b ^ n)
  | 0 => by simp; exact Cg.rfl
  | n + 1 => by rw [Int.pow_succ, Int.pow_succ]; exact (Cg.pow h n).mul h
theorem pw_pow {p : Int} : ∀ (n : Nat) (f b : Int) (t : Nat), t < 2 ^ n → Cg p (pw p n f b t) (f * b ^ t)
  | 0, f, b, t, h => by
    have : t = 0 := by simp at h; omega
    subst this
    simp [pw]; exact Cg.rfl
  | n + 1, f, b, t, h => by
    rw [pw]
    by_cases h0 : t = 0
    · subst h0; simp; exact Cg.rfl
    · rw [if_pos (by omega)]
      have h2 : t / 2 < 2 ^ n := by rw [Nat.pow_succ] at h; omega
      have ih := pw_pow (p := p) n (if (t : Int) % 2 = 1 then f * b % p else f) (b * b % p) (t / 2) h2
      rw [show ((t / 2 : Nat) : Int) = (t : Int) / 2 by omega] at ih
      refine ih.trans ?_
      have hb : Cg p ((b * b % p) ^ (t / 2)) (b ^ (2 * (t / 2))) := by
        refine (Cg.pow Cg.mod (t / 2)).trans (Cg.of ?_)
        rw [Int.pow_mul]
        congr 1
        rw [Int.pow_succ, Int.pow_succ, Int.pow_zero, Int.one_mul]
      by_cases ho : t % 2 = 1
      · rw [if_pos (by omega)]
        refine (Cg.mod.mul hb).trans (Cg.of ?_)
        have : b ^ t = b ^ (2 * (t / 2)) * b := by rw [← Int.pow_succ]; congr 1; omega
        rw [this]
        grind
      · rw [if_neg (by omega)]
        refine (Cg.rfl.mul hb).trans (Cg.of ?_)
        have : b ^ t = b ^ (2 * (t / 2)) := by congr 1; omega
        rw [this]
theorem pw_inv {p : Nat} (h : Pr p) (h40 : p < 2 ^ 40) {x : Int} (h0 : 0 < x) (h1 : x < p) : x * pw p 40 1 (x % p) (p - 2) % p = 1 := by
  have h2 := h.1
  have e := pw_pow (p := p) 40 1 (x % p) (p - 2) (by omega)
  rw [show ((p - 2 : Nat) : Int) = (p : Int) - 2 by omega] at e
  rw [Int.one_mul] at e
  have e2 := (Cg.rfl (p := p) (a := x)).mul (e.trans (Cg.pow Cg.mod (p - 2)))
  have e3 : x * pw p 40 1 (x % p) (p - 2) % p = 1 % p := e2.trans (pow_inv h h0 h1)
  rw [e3, Int.emod_eq_of_lt (by decide) (by omega)]
end LK
namespace LK
/-! polynomials by a prime: values, roots -/
def evP : List Int → Int → Int
  | [], _ => 0
  | c :: cs, x => c + x * evP cs x
def AllZ (p : Int) (c : List Int) : Prop := ∀ x ∈ c, Cg p x 0
theorem AllZ.nil {p : Int} : AllZ p [] := fun _ h => by cases h
theorem AllZ.cons {p x : Int} {c : List Int} (h : Cg p x 0) (t : AllZ p c) : AllZ p (x :: c) := fun y hy => by
  rcases List.mem_cons.mp hy with rfl | hy
  · exact h
  · exact t y hy
theorem AllZ.ev {p : Int} : ∀ {c : List Int}, AllZ p c → ∀ x, Cg p (evP c x) 0
  | [], _, x => Cg.rfl
  | c :: cs, h, x => by
    have h1 := h c List.mem_cons_self
    have h2 := AllZ.ev (c := cs) (fun y hy => h y (List.mem_cons_of_mem _ hy)) x
    have := h1.add ((Cg.rfl (a := x)).mul h2)
    rw [Int.mul_zero, Int.add_zero] at this
    exact this
/-- by x - a: quotient, rest -/
def dvP (a : Int) : List Int → List Int × Int
  | [] => ([], 0)
  | [c] => ([], c)
  | c :: d :: cs => ((dvP a (d :: cs)).2 :: (dvP a (d :: cs)).1, c + a * (dvP a (d :: cs)).2)
theorem dvP_len {a : Int} : ∀ c : List Int, (dvP a c).1.length = c.length - 1
  | [] => rfl
  | [_] => rfl
  | c :: d :: cs => by
    have := dvP_len (a := a) (d :: cs)
    simp only [dvP, List.length_cons] at this ⊢
    omega
theorem dvP_ev {a x : Int} : ∀ c : List Int, evP c x = (x - a) * evP (dvP a c).1 x + (dvP a c).2
  | [] => by simp [evP, dvP]
  | [c] => by simp [evP, dvP]
  | c :: d :: cs => by
    have := dvP_ev (a := a) (x := x) (d :: cs)
    rw [evP, this]
    simp only [dvP, evP]
    grind
theorem dvP_rest {a : Int} (c : List Int) : (dvP a c).2 = evP c a := by
  have := dvP_ev (a := a) (x := a) c
  rw [Int.sub_self, Int.zero_mul, Int.zero_add] at this
  exact this.symm
theorem dvP_all {p a : Int} : ∀ c : List Int, AllZ p (dvP a c).1 → Cg p (dvP a c).2 0 → AllZ p c
  | [], _, _ => AllZ.nil
  | [c], _, h => AllZ.cons h AllZ.nil
  | c :: d :: cs, h1, h2 => by
    simp only [dvP] at h1 h2
    have h3 := h1 _ List.mem_cons_self
    have h4 : AllZ p (dvP a (d :: cs)).1 := fun y hy => h1 y (List.mem_cons_of_mem _ hy)
    refine AllZ.cons ?_ (dvP_all (d :: cs) h4 h3)
    have h5 := h2.sub ((Cg.rfl (a := a)).mul h3)
    rw [Int.mul_zero, Int.sub_zero, Int.add_sub_cancel] at h5
    exact h5
theorem Pr.zero {p : Nat} (h : Pr p) {x y : Int} (e : Cg p (x * y) 0) (hx : ¬ Cg p x 0) : Cg p y 0 := by
  have h2 := h.1
  have r0 := Int.emod_nonneg x (show (p : Int) ≠ 0 by omega)
  have r1 := Int.emod_lt_of_pos x (show (0 : Int) < p by omega)
  have hx' : x % p ≠ 0 := fun z => hx (by show x % (p : Int) = 0 % p; rw [z, Int.zero_emod])
  obtain ⟨z, ez⟩ := h.inv (x := (x % p).toNat) (by omega) (by omega)
  rw [Int.toNat_of_nonneg r0] at ez
  have e1 : Cg p (x * z) 1 := by
    have a1 : Cg p (x * z) (x % p * z) := (Cg.mod (p := p) (a := x)).symm.mul Cg.rfl
    have a2 : Cg p (x % p * z) 1 := by
      show (x % p * z) % (p : Int) = 1 % p
      rw [ez, Int.emod_eq_of_lt (by decide) (by omega)]
    exact a1.trans a2
  have e2 := e.mul (Cg.rfl (a := z))
  rw [Int.zero_mul] at e2
  have e3 := e1.mul (Cg.rfl (a := y))
  rw [Int.one_mul] at e3
  exact e3.symm.trans ((Cg.of (show x * z * y = x * y * z by grind)).trans e2)
theorem Cg.sub0 {p a b : Int} (h : Cg p a b) : Cg p (a - b) 0 := by
  have := h.sub (Cg.rfl (a := b))
  rwa [Int.sub_self] at this
theorem Cg.of_sub {p a b : Int} (h : Cg p (a - b) 0) : Cg p a b := by
  have := h.add (Cg.rfl (a := b))
  rw [Int.zero_add, Int.sub_add_cancel] at this
  exact this
theorem Cg.small {p a b : Int} (h : Cg p a b) (a0 : 0 ≤ a) (a1 : a < p) (b0 : 0 ≤ b) (b1 : b < p) : a = b := by
  have e : a % p = b % p := h
  rwa [Int.emod_eq_of_lt a0 a1, Int.emod_eq_of_lt b0 b1] at e
/-- as many roots as coefficients: all coefficients are nought -/
theorem roots {p : Nat} (h : Pr p) : ∀ (c xs : List Int), xs.Nodup → (∀ x ∈ xs, 0 ≤ x ∧ x < p ∧ Cg p (evP c x) 0) → c.length ≤ xs.length → AllZ p c
  | [], _, _, _, _ => AllZ.nil
  | c :: cs, [], _, _, hl => by simp at hl
  | c :: cs, a :: xs, hn, hx, hl => by
    have ha := hx a List.mem_cons_self
    have hr : Cg p (dvP a (c :: cs)).2 0 := by rw [dvP_rest]; exact ha.2.2
    rw [List.nodup_cons] at hn
    have hq : AllZ p (dvP a (c :: cs)).1 := by
      refine roots h _ xs hn.2 (fun x hx1 => ?_) (by rw [dvP_len]; simp only [List.length_cons] at hl ⊢; omega)
      have hx2 := hx x (List.mem_cons_of_mem _ hx1)
      refine ⟨hx2.1, hx2.2.1, ?_⟩
      have e := hx2.2.2
      rw [dvP_ev (a := a)] at e
      have e2 := e.sub hr
      rw [Int.add_sub_cancel, Int.sub_zero] at e2
      refine h.zero e2 fun z => ?_
      have : x = a := (Cg.of_sub z).small hx2.1 hx2.2.1 ha.1 ha.2.1
      subst this
      exact hn.1 hx1
    exact dvP_all _ hq hr
  termination_by c => c.length
  decreasing_by rw [dvP_len]; simp
/-- the numbers by p -/
def nums (p : Nat) : List Int := (List.range p).map fun i => ((i : Nat) : Int)
theorem mem_nums {p : Nat} {x : Int} : x ∈ nums p ↔ 0 ≤ x ∧ x < p := by
  unfold nums
  rw [List.mem_map]
  constructor
  · rintro ⟨i, hi, rfl⟩
    rw [List.mem_range] at hi
    omega
  · rintro ⟨h0, h1⟩
    exact ⟨x.toNat, List.mem_range.mpr (by omega), by omega⟩
theorem nums_nodup {p : Nat} : (nums p).Nodup := by
  unfold nums
  rw [List.nodup_iff_pairwise_ne, List.pairwise_map]
  exact List.nodup_range.imp fun h e => h (by omega)
theorem nums_len {p : Nat} : (nums p).length = p := by unfold nums; simp
theorem few_roots {p : Nat} (h : Pr p) {c : List Int} (hc : ¬ AllZ p c) (P : Int → Bool) (hP : ∀ x : Int, 0 ≤ x → x < p → P x = true → Cg p (evP c x) 0) : ((nums p).filter P).length ≤ c.length - 1 := by
  rcases Nat.lt_or_ge ((nums p).filter P).length c.length with hl | hl
  · omega
  · exfalso
    refine hc (roots h c _ (nums_nodup.filter P) (fun x hx => ?_) hl)
    obtain ⟨h1, h2⟩ := List.mem_filter.mp hx
    rw [mem_nums] at h1
    exact ⟨h1.1, h1.2, hP x h1.1 h1.2 h2⟩
/-! sums, products of polynomials -/
def addP : List Int → List Int → List Int
  | [], ds => ds
  | cs, [] => cs
  | c :: cs, d :: ds => (c + d) :: addP cs ds
def scP (k : Int) (c : List Int) : List Int := c.map fun x => k * x
def mulP : List Int → List Int → List Int
  | [], _ => []
  | c :: cs, ds => addP (scP c ds) (0 :: mulP cs ds)
theorem addP_ev {x : Int} : ∀ c d : List Int, evP (addP c d) x = evP c x + evP d x
  | [], ds => by simp [addP, evP]
  | c :: cs, [] => by simp [addP, evP]
  | c :: cs, d :: ds => by
    rw [addP, evP, evP, evP, addP_ev cs ds]
    grind
theorem scP_ev {k x : Int} : ∀ c : List Int, evP (scP k c) x = k * evP c x
  | [] => by simp [scP, evP]
  | c :: cs => by
    have := scP_ev (k := k) (x := x) cs
    unfold scP at this ⊢
    rw [List.map_cons, evP, evP, this]
    grind
theorem mulP_ev {x : Int} : ∀ c d : List Int, evP (mulP c d) x = evP c x * evP d x
  | [], ds => by simp [mulP, evP]
  | c :: cs, ds => by
    rw [mulP, addP_ev, scP_ev, evP, mulP_ev cs ds, evP]
    grind
theorem addP_len : ∀ c d : List Int, (addP c d).length = max c.length d.length
  | [], ds => by simp [addP]
  | c :: cs, [] => by simp [addP]
  | c :: cs, d :: ds => by
    rw [addP, List.length_cons, addP_len cs ds, List.length_cons, List.length_cons]
    omega
theorem scP_len {k : Int} {c : List Int} : (scP k c).length = c.length := by unfold scP; simp
theorem mulP_len {d : List Int} (hd : 1 ≤ d.length) : ∀ c : List Int, (mulP c d).length ≤ c.length + d.length - 1
  | [] => by simp [mulP]
  | c :: cs => by
    have := mulP_len hd cs
    rw [mulP, addP_len, scP_len, List.length_cons, List.length_cons]
    cases cs with
    | nil => simp only [mulP, List.length_nil] at this ⊢; omega
    | cons c2 cs =>
      simp only [List.length_cons] at this ⊢
      omega
end LK
namespace LK
/-! bags: products of z - packed, Schwartz and Zippel -/
structure Tri where
  c : Int
  v : Int
  t : Int
deriving DecidableEq
def Tri.l (x : Tri) : List Int := [x.c, x.v, x.t]
def Tri.at (x : Tri) (w : Int) : Int := x.c + x.v * w + x.t * w * w
theorem Tri.at_ev {x : Tri} {w : Int} : x.at w = evP x.l w := by
  simp only [Tri.at, Tri.l, evP]
  grind
def Tri.In (p : Nat) (x : Tri) : Prop := (0 ≤ x.c ∧ x.c < p) ∧ (0 ≤ x.v ∧ x.v < p) ∧ 0 ≤ x.t ∧ x.t < p
def bagF : List Tri → Int → Int → Int
  | [], _, _ => 1
  | x :: xs, z, w => (z - x.at w) * bagF xs z w
/-! polynomials in z whose coefficients are polynomials in w -/
def evB : List (List Int) → Int → Int → Int
  | [], _, _ => 0
  | c :: cs, z, w => evP c w + z * evB cs z w
def addB : List (List Int) → List (List Int) → List (List Int)
  | [], ds => ds
  | cs, [] => cs
  | c :: cs, d :: ds => addP c d :: addB cs ds
theorem addB_ev {z w : Int} : ∀ c d : List (List Int), evB (addB c d) z w = evB c z w + evB d z w
  | [], ds => by simp [addB, evB]
  | c :: cs, [] => by simp [addB, evB]
  | c :: cs, d :: ds => by
    rw [addB, evB, evB, evB, addB_ev cs ds, addP_ev]
    grind
theorem mulB_ev {q : List Int} {z w : Int} : ∀ c : List (List Int), evB (c.map (mulP q)) z w = evP q w * evB c z w
  | [] => by simp [evB]
  | c :: cs => by
    rw [List.map_cons, evB, evB, mulP_ev, mulB_ev cs]
    grind
theorem scB_ev {k z w : Int} : ∀ c : List (List Int), evB (c.map (scP k)) z w = k * evB c z w
  | [] => by simp [evB]
  | c :: cs => by
    rw [List.map_cons, evB, evB, scP_ev, scB_ev cs]
    grind
theorem evB_list {z w : Int} : ∀ c : List (List Int), evB c z w = evP (c.map fun q => evP q w) z
  | [] => rfl
  | c :: cs => by rw [evB, List.map_cons, evP, evB_list cs]
def pB : List Tri → List (List Int)
  | [] => [[1]]
  | x :: xs => addB ([] :: pB xs) ((pB xs).map (mulP (scP (-1) x.l)))
theorem pB_ev {z w : Int} : ∀ b : List Tri, evB (pB b) z w = bagF b z w
  | [] => by simp [pB, evB, evP, bagF]
  | x :: xs => by
    rw [pB, addB_ev, mulB_ev, scP_ev, evB, pB_ev xs, bagF, Tri.at_ev]
    simp only [evP]
    grind
/-- degrees: in z at most k, of the coefficient of z ^ i at most 2 (k - i) -/
def dgB (k : Nat) : List (List Int) → Prop
  | [] => True
  | c :: cs => c.length ≤ 2 * k + 1 ∧ (k = 0 → cs = []) ∧ dgB (k - 1) cs
theorem dgB_add : ∀ {k : Nat} {c d : List (List Int)}, dgB k c → dgB k d → dgB k (addB c d)
  | _, [], d, _, h => h
  | _, c :: cs, [], h, _ => h
  | k, c :: cs, d :: ds, h1, h2 => by
    have e1 := h1.1
    have e2 := h2.1
    exact ⟨by rw [addP_len]; omega, fun z => by rw [h1.2.1 z, h2.2.1 z]; rfl, dgB_add h1.2.2 h2.2.2⟩
theorem mulP_len' (c d : List Int) : (mulP c d).length ≤ c.length + d.length - 1 ∨ (mulP c d).length ≤ c.length := by
  cases d with
  | nil =>
    right
    induction c with
    | nil => simp [mulP]
    | cons c cs ih =>
      rw [mulP, addP_len, scP_len, List.length_cons, List.length_cons, List.length_nil]
      omega
  | cons d ds => exact .inl (mulP_len (by simp) c)
theorem dgB_mul {q : List Int} (hq : q.length ≤ 3) : ∀ {k : Nat} {c : List (List Int)}, dgB k c → dgB (k + 1) (c.map (mulP q))
  | _, [], _ => True.intro
  | k, c :: cs, h => by
    have e1 := h.1
    refine ⟨by rcases mulP_len' q c with e | e <;> omega, fun z => by omega, ?_⟩
    show dgB (k + 1 - 1) (cs.map (mulP q))
    by_cases hk : k = 0
    · rw [h.2.1 hk]; exact True.intro
    · have := dgB_mul hq h.2.2
      rwa [show k - 1 + 1 = k + 1 - 1 by omega] at this
theorem dgB_sc {x : Int} : ∀ {k : Nat} {c : List (List Int)}, dgB k c → dgB k (c.map (scP x))
  | _, [], _ => True.intro
  | k, c :: cs, h => ⟨by rw [scP_len]; exact h.1, fun z => by rw [h.2.1 z]; rfl, dgB_sc h.2.2⟩
theorem dgB_up : ∀ {k : Nat} {c : List (List Int)}, dgB k c → dgB (k + 1) c
  | _, [], _ => True.intro
  | k, c :: cs, h => by
    have e1 := h.1
    refine ⟨by omega, fun z => by omega, ?_⟩
    show dgB (k + 1 - 1) cs
    by_cases hk : k = 0
    · rw [h.2.1 hk]; exact True.intro
    · have := dgB_up h.2.2
      rwa [show k - 1 + 1 = k + 1 - 1 by omega] at this
theorem dgB_le {k : Nat} {c : List (List Int)} (h : dgB k c) : ∀ {m : Nat}, k ≤ m → dgB m c
  | 0, hm => by
    have : k = 0 := by omega
    subst this
    exact h
  | m + 1, hm => by
    by_cases e : k = m + 1
    · rw [← e]; exact h
    · exact dgB_up (dgB_le h (by omega))
theorem pB_dg : ∀ b : List Tri, dgB b.length (pB b)
  | [] => by simp [pB, dgB]
  | x :: xs => by
    rw [pB, List.length_cons]
    exact dgB_add ⟨by simp, fun z => by omega, pB_dg xs⟩ (dgB_mul (by rw [scP_len]; simp [Tri.l]) (pB_dg xs))
theorem dgB_len : ∀ {k : Nat} {c : List (List Int)}, dgB k c → c.length ≤ k + 1
  | _, [], _ => by simp
  | k, c :: cs, h => by
    have := dgB_len h.2.2
    rw [List.length_cons]
    by_cases hk : k = 0
    · rw [h.2.1 hk]; simp
    · omega
theorem dgB_at : ∀ {U : List (List Int)} {k : Nat} {c : List Int} {V : List (List Int)}, dgB k (U ++ c :: V) → c.length + 2 * U.length ≤ 2 * k + 1
  | [], k, c, V, h => by
    have := h.1
    simp only [List.length_nil]
    omega
  | u :: U, k, c, V, h => by
    have h1 := dgB_at (U := U) h.2.2
    have hk : k ≠ 0 := fun z => by
      have := h.2.1 z
      simp at this
    simp only [List.length_cons]
    omega
def dfB (a b : List Tri) : List (List Int) := addB (pB a) ((pB b).map (scP (-1)))
theorem dfB_ev {a b : List Tri} {z w : Int} : evB (dfB a b) z w = bagF a z w - bagF b z w := by
  unfold dfB
  rw [addB_ev, scB_ev, pB_ev, pB_ev]
  omega
theorem dfB_dg {a b : List Tri} {k : Nat} (ha : a.length ≤ k) (hb : b.length ≤ k) : dgB k (dfB a b) := dgB_add (dgB_le (pB_dg a) ha) (dgB_sc (dgB_le (pB_dg b) hb))
/-! counting pairs -/
def cnt (p : Nat) (P : Int → Bool) : Nat := ((nums p).filter P).length
def sumL : List Nat → Nat
  | [] => 0
  | x :: xs => x + sumL xs
theorem sumL_le {α : Type} {f g : α → Nat} : ∀ xs : List α, (∀ x ∈ xs, f x ≤ g x) → sumL (xs.map f) ≤ sumL (xs.map g)
  | [], _ => Nat.le_refl _
  | x :: xs, h => by
    have h1 := h x List.mem_cons_self
    have h2 := sumL_le xs fun y hy => h y (List.mem_cons_of_mem _ hy)
    simp only [List.map_cons, sumL]
    omega
theorem sumL_ite {α : Type} {P : α → Bool} {a b : Nat} : ∀ xs : List α, sumL (xs.map fun x => if P x = true then a else b) ≤ (xs.filter P).length * a + xs.length * b
  | [] => by simp [sumL]
  | x :: xs => by
    have := sumL_ite (P := P) (a := a) (b := b) xs
    rw [List.map_cons, sumL, List.filter_cons, List.length_cons]
    cases P x with
    | true =>
      simp only [if_true, List.length_cons, Nat.add_mul, Nat.one_mul] at this ⊢
      omega
    | false =>
      simp only [Bool.false_eq_true, if_false, Nat.add_mul, Nat.one_mul] at this ⊢
      omega
theorem cnt_le {p : Nat} {P : Int → Bool} : cnt p P ≤ p := by
  unfold cnt
  have := List.length_filter_le P (nums p)
  rwa [nums_len] at this
instance {p a b : Int} : Decidable (Cg p a b) := inferInstanceAs (Decidable (a % p = b % p))
def ZB (p : Nat) (D : List (List Int)) (z w : Int) : Bool := decide (Cg p (evB D z w) 0)
end LK
namespace LK
theorem top_coef {p : Int} : ∀ D : List (List Int), (∀ c ∈ D, AllZ p c) ∨ ∃ U c V, D = U ++ c :: V ∧ ¬ AllZ p c ∧ ∀ v ∈ V, AllZ p v
  | [] => .inl fun _ h => by cases h
  | c :: cs => by
    rcases top_coef (p := p) cs with h | ⟨U, d, V, e, h1, h2⟩
    · by_cases hc : AllZ p c
      · left
        intro d hd
        rcases List.mem_cons.mp hd with rfl | hd
        · exact hc
        · exact h d hd
      · exact .inr ⟨[], c, cs, rfl, hc, h⟩
    · exact .inr ⟨c :: U, d, V, by rw [e]; rfl, h1, h2⟩
theorem evB_zero {p : Int} {z w : Int} : ∀ {V : List (List Int)}, (∀ v ∈ V, AllZ p v) → Cg p (evB V z w) 0
  | [], _ => Cg.rfl
  | v :: V, h => by
    have h1 := (h v List.mem_cons_self).ev w
    have h2 := evB_zero (z := z) (w := w) (V := V) fun y hy => h y (List.mem_cons_of_mem _ hy)
    have := h1.add ((Cg.rfl (a := z)).mul h2)
    rw [Int.mul_zero, Int.add_zero] at this
    exact this
theorem evB_tail {p : Int} {z w : Int} {c : List Int} {V : List (List Int)} (h : ∀ v ∈ V, AllZ p v) : ∀ U : List (List Int), Cg p (evB (U ++ c :: V) z w) (evB (U ++ [c]) z w)
  | [] => by
    show Cg p (evP c w + z * evB V z w) (evP c w + z * 0)
    exact Cg.rfl.add (Cg.rfl.mul (evB_zero h))
  | u :: U => Cg.rfl.add (Cg.rfl.mul (evB_tail h U))
theorem sz {p : Nat} (h : Pr p) {D : List (List Int)} {k : Nat} (hd : dgB k D) (hn : ¬ ∀ c ∈ D, AllZ p c) (P : Int → Int → Bool) (hP : ∀ z w : Int, P z w = true → Cg p (evB D z w) 0) :
    sumL ((nums p).map fun w => cnt p fun z => P z w) ≤ 2 * k * p := by
  rcases top_coef (p := p) D with h0 | ⟨U, c, V, rfl, h1, h2⟩
  · exact absurd h0 hn
  · have hl := dgB_at hd
    have each : ∀ w ∈ nums p, cnt p (fun z => P z w) ≤ if decide (Cg p (evP c w) 0) = true then p else U.length := by
      intro w hw
      by_cases hz : Cg p (evP c w) 0
      · rw [if_pos (decide_eq_true hz)]; exact cnt_le
      · rw [if_neg (by simpa using hz)]
        have := few_roots h (c := (U ++ [c]).map fun q => evP q w) (fun hall => hz (hall _ (by simp))) (fun z => P z w) fun z z0 z1 hzz => by
          rw [← evB_list]
          exact (evB_tail h2 U).symm.trans (hP z w hzz)
        simpa [cnt] using this
    have s1 := sumL_le (nums p) each
    have s2 := sumL_ite (P := fun w => decide (Cg p (evP c w) 0)) (a := p) (b := U.length) (nums p)
    rw [nums_len] at s2
    have s3 := few_roots h h1 (fun w => decide (Cg p (evP c w) 0)) fun x _ _ hx => of_decide_eq_true hx
    have s4 : ((nums p).filter fun w => decide (Cg p (evP c w) 0)).length * p ≤ (c.length - 1) * p := Nat.mul_le_mul_right _ s3
    have s5 : (c.length - 1) * p + p * U.length ≤ 2 * k * p := by
      rw [Nat.mul_comm p U.length, ← Nat.add_mul]
      exact Nat.mul_le_mul_right _ (by omega)
    omega
theorem bagF_zero {p : Nat} (h : Pr p) {z w : Int} : ∀ {B : List Tri}, Cg p (bagF B z w) 0 → ∃ b ∈ B, Cg p (z - b.at w) 0
  | [], e => by
    have e1 : (1 : Int) % p = 0 % p := e
    have := h.1
    rw [Int.emod_eq_of_lt (by decide) (by omega), Int.zero_emod] at e1
    cases e1
  | b :: B, e => by
    by_cases hb : Cg p (z - b.at w) 0
    · exact ⟨b, List.mem_cons_self, hb⟩
    · obtain ⟨d, hd, e2⟩ := bagF_zero h (h.zero e hb)
      exact ⟨d, List.mem_cons_of_mem _ hd, e2⟩
theorem bagF_perm {z w : Int} {A B : List Tri} (h : A.Perm B) : bagF A z w = bagF B z w := by
  induction h with
  | nil => rfl
  | cons x _ ih => simp only [bagF, ih]
  | swap x y l => simp only [bagF]; grind
  | trans _ _ h1 h2 => rw [h1, h2]
/-- few places at which a triple is one of a bag's, if it is none of it -/
theorem few_at {p : Nat} (h : Pr p) {a : Tri} : ∀ {B : List Tri}, (∀ b ∈ B, ¬ AllZ p (addP a.l (scP (-1) b.l))) → ((nums p).filter fun w => B.any fun b => decide (Cg p (a.at w - b.at w) 0)).length ≤ 2 * B.length
  | [], _ => by simp
  | b :: B, hb => by
    have h1 := few_at h (a := a) (B := B) fun d hd => hb d (List.mem_cons_of_mem _ hd)
    have h2 := few_roots h (hb b List.mem_cons_self) (fun w => decide (Cg p (a.at w - b.at w) 0)) fun x _ _ hx => by
      have := of_decide_eq_true hx
      rw [addP_ev, scP_ev, ← Tri.at_ev, ← Tri.at_ev]
      have e : a.at x + -1 * b.at x = a.at x - b.at x := by omega
      rw [e]; exact this
    have hl : (addP a.l (scP (-1) b.l)).length = 3 := by rw [addP_len, scP_len]; rfl
    rw [hl] at h2
    have h3 : ∀ xs : List Int, (xs.filter fun w => (b :: B).any fun b => decide (Cg p (a.at w - b.at w) 0)).length ≤ (xs.filter fun w => decide (Cg p (a.at w - b.at w) 0)).length + (xs.filter fun w => B.any fun b => decide (Cg p (a.at w - b.at w) 0)).length := by
      intro xs
      induction xs with
      | nil => simp
      | cons x xs ih =>
        simp only [List.filter_cons, List.any_cons]
        cases decide (Cg p (a.at x - b.at x) 0) <;> cases (B.any fun b => decide (Cg p (a.at x - b.at x) 0)) <;> simp only [List.any_cons, Bool.or_true, Bool.or_false, Bool.true_or, Bool.false_or, if_true, if_false, List.length_cons, Bool.false_eq_true] at ih ⊢ <;> omega
    have := h3 (nums p)
    rw [List.length_cons]
    omega
theorem tri_eq {p : Nat} {a b : Tri} (ha : a.In p) (hb : b.In p) (h : AllZ p (addP a.l (scP (-1) b.l))) : a = b := by
  have e0 : Cg p (a.c - b.c) 0 := by have := h (a.c + -1 * b.c) (by simp [Tri.l, addP, scP]); rwa [show a.c + -1 * b.c = a.c - b.c by omega] at this
  have e1 : Cg p (a.v - b.v) 0 := by have := h (a.v + -1 * b.v) (by simp [Tri.l, addP, scP]); rwa [show a.v + -1 * b.v = a.v - b.v by omega] at this
  have e2 : Cg p (a.t - b.t) 0 := by have := h (a.t + -1 * b.t) (by simp [Tri.l, addP, scP]); rwa [show a.t + -1 * b.t = a.t - b.t by omega] at this
  have f0 := (Cg.of_sub e0).small ha.1.1 ha.1.2 hb.1.1 hb.1.2
  have f1 := (Cg.of_sub e1).small ha.2.1.1 ha.2.1.2 hb.2.1.1 hb.2.1.2
  have f2 := (Cg.of_sub e2).small ha.2.2.1 ha.2.2.2 hb.2.2.1 hb.2.2.2
  cases a; cases b
  simp only at f0 f1 f2
  subst f0 f1 f2
  rfl
theorem bag_inj {p : Nat} (h : Pr p) : ∀ (A B : List Tri), (∀ a ∈ A, a.In p) → (∀ b ∈ B, b.In p) → 2 * A.length < p → 2 * B.length < p → (∀ z w : Int, Cg p (bagF A z w) (bagF B z w)) → A.Perm B
  | [], [], _, _, _, _, _ => List.Perm.nil
  | [], b :: B, _, _, _, _, e => by
    have e1 := e (b.at 0) 0
    have e2 : (1 : Int) % p = (bagF (b :: B) (b.at 0) 0) % p := e1
    rw [bagF, Int.sub_self, Int.zero_mul, Int.zero_emod, Int.emod_eq_of_lt (by decide) (by have := h.1; omega)] at e2
    cases e2
  | a :: A, B, ha, hb, la, lb, e => by
    have hx : ∀ w : Int, ∃ b ∈ B, Cg p (a.at w - b.at w) 0 := fun w => by
      refine bagF_zero h ((e (a.at w) w).symm.trans ?_)
      rw [bagF, Int.sub_self, Int.zero_mul]
      exact Cg.rfl
    obtain ⟨b, hbB, hab⟩ : ∃ b ∈ B, AllZ p (addP a.l (scP (-1) b.l)) := by
      by_cases q : ∃ b ∈ B, AllZ p (addP a.l (scP (-1) b.l))
      · exact q
      · exfalso
        have := few_at h (a := a) (B := B) fun b hb z => q ⟨b, hb, z⟩
        have e2 : ((nums p).filter fun w => B.any fun b => decide (Cg p (a.at w - b.at w) 0)) = nums p := by
          rw [List.filter_eq_self]
          intro w _
          obtain ⟨b, hb, z⟩ := hx w
          exact List.any_eq_true.mpr ⟨b, hb, decide_eq_true z⟩
        rw [e2, nums_len] at this
        omega
    have eab : a = b := tri_eq (ha a List.mem_cons_self) (hb b hbB) hab
    subst eab
    have hp := List.perm_cons_erase hbB
    have lB : (B.erase a).length + 1 = B.length := by rw [← List.length_cons (a := a), hp.length_eq]
    have la' : A.length + 1 ≤ p := by simp only [List.length_cons] at la; omega
    -- without a: alike but where z is a(w), so everywhere
    have rest : ∀ z w : Int, Cg p (bagF A z w) (bagF (B.erase a) z w) := by
      intro z w
      have key : AllZ p ((dfB A (B.erase a)).map fun q => evP q w) := by
        have hlen : ((dfB A (B.erase a)).map fun q => evP q w).length ≤ max A.length (B.erase a).length + 1 := by
          rw [List.length_map]
          exact dgB_len (dfB_dg (Nat.le_max_left _ _) (Nat.le_max_right _ _))
        refine roots h _ ((nums p).filter fun y => decide (¬ Cg p (y - a.at w) 0)) (nums_nodup.filter _) (fun x hx => ?_) ?_
        · obtain ⟨h1, h2⟩ := List.mem_filter.mp hx
          rw [mem_nums] at h1
          refine ⟨h1.1, h1.2, ?_⟩
          rw [← evB_list, dfB_ev]
          have e3 := e x w
          rw [bagF_perm hp, bagF, bagF] at e3
          have e4 := e3.sub0
          rw [← Int.mul_sub] at e4
          exact h.zero e4 (of_decide_eq_true h2)
        · have h1 : ((nums p).filter fun y => decide (Cg p (y - a.at w) 0)).length ≤ 1 := by
            have := few_roots h (c := [-(a.at w), 1]) (fun z => by
              have := z 1 (by simp)
              have e1 : (1 : Int) % p = 0 % p := this
              have := h.1
              rw [Int.emod_eq_of_lt (by decide) (by omega), Int.zero_emod] at e1
              cases e1) (fun y => decide (Cg p (y - a.at w) 0)) fun x _ _ hx => by
              have := of_decide_eq_true hx
              simp only [evP]
              have e : -a.at w + x * (1 + x * 0) = x - a.at w := by
                rw [Int.mul_zero, Int.add_zero, Int.mul_one]; omega
              rw [e]; exact this
            simpa using this
          have h2 : ∀ xs : List Int, (xs.filter fun y => decide (Cg p (y - a.at w) 0)).length + (xs.filter fun y => decide (¬ Cg p (y - a.at w) 0)).length = xs.length := by
            intro xs
            induction xs with
            | nil => rfl
            | cons x xs ih =>
              simp only [List.filter_cons]
              by_cases q : Cg p (x - a.at w) 0
              · simp only [q, decide_true, if_true, not_true, decide_false, Bool.false_eq_true, if_false, List.length_cons] at ih ⊢
                omega
              · simp only [q, decide_false, Bool.false_eq_true, if_false, not_false_iff, decide_true, if_true, List.length_cons] at ih ⊢
                omega
          have h3 := h2 (nums p)
          rw [nums_len] at h3
          simp only [List.length_cons] at la
          omega
      have := key.ev z
      rw [← evB_list, dfB_ev] at this
      exact Cg.of_sub this
    have ih := bag_inj h A (B.erase a) (fun x hx => ha x (List.mem_cons_of_mem _ hx)) (fun x hx => hb x (List.mem_of_mem_erase hx)) (by simp only [List.length_cons] at la; omega) (by omega) rest
    exact (ih.cons a).trans hp.symm
theorem sumL_const {α : Type} {n : Nat} : ∀ xs : List α, sumL (xs.map fun _ => n) = xs.length * n
  | [] => by simp [sumL]
  | x :: xs => by
    rw [List.map_cons, sumL, sumL_const xs, List.length_cons, Nat.add_mul, Nat.one_mul]; omega
theorem sumL_swap {α β : Type} {P : α → β → Bool} : ∀ (xs : List α) (ys : List β), sumL (xs.map fun x => (ys.filter (P x)).length) = sumL (ys.map fun y => (xs.filter fun x => P x y).length)
  | [], ys => by
    have := sumL_const (n := 0) ys
    rw [Nat.mul_zero] at this
    exact this.symm
  | x :: xs, ys => by
    rw [List.map_cons, sumL, sumL_swap xs ys]
    clear sumL_swap
    induction ys with
    | nil => rfl
    | cons y ys ih =>
      simp only [List.map_cons, sumL, List.filter_cons] at ih ⊢
      cases P x y <;> simp only [if_true, Bool.false_eq_true, if_false, List.length_cons] at ih ⊢ <;> omega
/-- unlike bags of at most M triples: alike products at 2 M p pairs at most -/
theorem bags_fool {p : Nat} (h : Pr p) {A B : List Tri} {M : Nat} (ha : ∀ a ∈ A, a.In p) (hb : ∀ b ∈ B, b.In p) (la : A.length ≤ M) (lb : B.length ≤ M) (hn : ¬ A.Perm B) :
    sumL ((nums p).map fun z => cnt p fun w => decide (Cg p (bagF A z w) (bagF B z w))) ≤ 2 * M * p := by
  by_cases hp : 2 * M < p
  · have hd := dfB_dg la lb
    have hne : ¬ ∀ c ∈ dfB A B, AllZ p c := fun hall => hn (bag_inj h A B ha hb (by omega) (by omega) fun z w => by
      have := evB_zero (z := z) (w := w) hall
      rw [dfB_ev] at this
      exact Cg.of_sub this)
    have := sz h hd hne (fun z w => decide (Cg p (bagF A z w) (bagF B z w))) fun z w hzw => by
      rw [dfB_ev]
      exact (of_decide_eq_true hzw : Cg p (bagF A z w) (bagF B z w)).sub0
    unfold cnt at this ⊢
    rw [sumL_swap]
    exact this
  · have h1 : sumL ((nums p).map fun z => cnt p fun w => decide (Cg p (bagF A z w) (bagF B z w))) ≤ sumL ((nums p).map fun _ => p) := sumL_le _ fun _ _ => cnt_le
    rw [sumL_const, nums_len] at h1
    have h2 : p * p ≤ 2 * M * p := Nat.mul_le_mul_right _ (by omega)
    omega
end LK
set_option autoImplicit false
/-! P6: memory logs: a log is true just if nothing is late and what is put is what is taken. -/
namespace LK
structure Deed where
  c : Nat
  old : Int
  told : Int
  new : Int
def cellsF : Nat → List (Int × Int) → List (List Int)
  | _, [] => []
  | k, p :: r => [(k : Int), p.1, p.2] :: cellsF (k + 1) r
def putsF : Int → List Deed → List (List Int)
  | _, [] => []
  | t, d :: r => [(d.c : Int), d.new, t + 1] :: putsF (t + 1) r
def taksF (ds : List Deed) : List (List Int) := ds.map fun d => [(d.c : Int), d.old, d.told]
def okLog : List (Int × Int) → Int → List Deed → Option (List (Int × Int))
  | now, _, [] => some now
  | now, t, d :: r => if now[d.c]? = some (d.old, d.told) then okLog (now.set d.c (d.new, t + 1)) (t + 1) r else none
def noLate : Int → List Deed → Prop
  | _, [] => True
  | t, d :: r => d.told ≤ t ∧ noLate (t + 1) r
theorem cellsF_mem {x : List Int} : ∀ {now : List (Int × Int)} {k : Nat}, x ∈ cellsF k now ↔ ∃ j p, now[j]? = some p ∧ x = [((k + j : Nat) : Int), p.1, p.2]
  | [], k => by simp [cellsF]
  | p :: r, k => by
    rw [cellsF, List.mem_cons, cellsF_mem (now := r) (k := k + 1)]
    constructor
    · rintro (h | ⟨j, q, h1, h2⟩)
      · exact ⟨0, p, rfl, by simpa using h⟩
      · exact ⟨j + 1, q, by simpa using h1, by rw [h2]; congr 2; omega⟩
    · rintro ⟨j, q, h1, h2⟩
      cases j with
      | zero => left; simp at h1; subst h1; simpa using h2
      | succ j => right; exact ⟨j, q, by simpa using h1, by rw [h2]; congr 2; omega⟩
theorem cellsF_get {now : List (Int × Int)} {k c : Nat} {a b : Int} (h : [((k + c : Nat) : Int), a, b] ∈ cellsF k now) : now[c]? = some (a, b) := by
  obtain ⟨j, p, h1, h2⟩ := cellsF_mem.mp h
  simp only [List.cons.injEq] at h2
  have : c = j := by omega
  subst this
  rw [h1, h2.2.1, h2.2.2.1]
theorem cellsF_len : ∀ {now : List (Int × Int)} {k : Nat}, (cellsF k now).length = now.length
  | [], _ => rfl
  | _ :: r, k => by rw [cellsF, List.length_cons, List.length_cons, cellsF_len]
theorem cellsF_set : ∀ {now : List (Int × Int)} {k c : Nat} {x : Int × Int}, now[c]? = some x → ∃ rest, (cellsF k now).Perm ([((k + c : Nat) : Int), x.1, x.2] :: rest) ∧ ∀ y : Int × Int, (cellsF k (now.set c y)).Perm ([((k + c : Nat) : Int), y.1, y.2] :: rest)
  | [], _, _, _, h => by simp at h
  | p :: r, k, 0, x, h => by
    simp at h; subst h
    exact ⟨cellsF (k + 1) r, by simp [cellsF], fun y => by simp [cellsF]⟩
  | p :: r, k, c + 1, x, h => by
    obtain ⟨rest, h1, h2⟩ := cellsF_set (now := r) (k := k + 1) (c := c) (x := x) (by simpa using h)
    have e : ((k + 1 + c : Nat) : Int) = ((k + (c + 1) : Nat) : Int) := by omega
    rw [e] at h1
    refine ⟨[(k : Int), p.1, p.2] :: rest, ?_, fun y => ?_⟩
    · rw [cellsF]
      exact (h1.cons _).trans (List.Perm.swap _ _ _)
    · rw [List.set_cons_succ, cellsF]
      have q := h2 y
      rw [e] at q
      exact (q.cons _).trans (List.Perm.swap _ _ _)
theorem cellsF_inj {now last : List (Int × Int)} (hl : last.length = now.length) (h : (cellsF 0 now).Perm (cellsF 0 last)) : now = last := by
  refine List.ext_getElem? fun j => ?_
  cases e : now[j]? with
  | none =>
    rw [List.getElem?_eq_none_iff] at e
    rw [List.getElem?_eq_none (by omega)]
  | some p =>
    have : [((0 + j : Nat) : Int), p.1, p.2] ∈ cellsF 0 now := cellsF_mem.mpr ⟨j, p, e, rfl⟩
    exact (cellsF_get (h.mem_iff.mp this)).symm
theorem putsF_time {x : List Int} : ∀ {ds : List Deed} {t : Int}, x ∈ putsF t ds → ∃ a b s, x = [a, b, s] ∧ t < s
  | [], _, h => by simp [putsF] at h
  | d :: r, t, h => by
    rw [putsF, List.mem_cons] at h
    rcases h with h | h
    · exact ⟨_, _, _, h, by omega⟩
    · obtain ⟨a, b, s, h1, h2⟩ := putsF_time h
      exact ⟨a, b, s, h1, by omega⟩
theorem log_iff : ∀ (ds : List Deed) (now last : List (Int × Int)) (t : Int), (∀ d ∈ ds, d.c < now.length) → last.length = now.length → (∀ p ∈ now, p.2 ≤ t) →
    (okLog now t ds = some last ↔ noLate t ds ∧ (cellsF 0 now ++ putsF t ds).Perm (taksF ds ++ cellsF 0 last))
  | [], now, last, t, _, hl, _ => by
    simp only [okLog, noLate, putsF, taksF, List.map_nil, List.append_nil, List.nil_append, true_and, Option.some.injEq]
    exact ⟨fun h => by rw [h], fun h => cellsF_inj hl h⟩
  | d :: r, now, last, t, hc, hl, ht => by
    have hd := hc d List.mem_cons_self
    have step : now[d.c]? = some (d.old, d.told) → ((cellsF 0 now ++ putsF t (d :: r)).Perm (taksF (d :: r) ++ cellsF 0 last) ↔ (cellsF 0 (now.set d.c (d.new, t + 1)) ++ putsF (t + 1) r).Perm (taksF r ++ cellsF 0 last)) := by
      intro e
      obtain ⟨rest, h1, h2⟩ := cellsF_set (k := 0) e
      have q := h2 (d.new, t + 1)
      rw [Nat.zero_add] at h1 q
      have l1 : (cellsF 0 now ++ putsF t (d :: r)).Perm ([(d.c : Int), d.old, d.told] :: (rest ++ [(d.c : Int), d.new, t + 1] :: putsF (t + 1) r)) := h1.append_right _
      have l2 : (cellsF 0 (now.set d.c (d.new, t + 1)) ++ putsF (t + 1) r).Perm (rest ++ [(d.c : Int), d.new, t + 1] :: putsF (t + 1) r) :=
        (q.append_right _).trans List.perm_middle.symm
      show (cellsF 0 now ++ putsF t (d :: r)).Perm ([(d.c : Int), d.old, d.told] :: (taksF r ++ cellsF 0 last)) ↔ _
      constructor
      · intro h
        exact l2.trans ((l1.symm.trans h).cons_inv)
      · intro h
        exact l1.trans ((l2.symm.trans h).cons _)
    have ih : now[d.c]? = some (d.old, d.told) → _ := fun e => log_iff r (now.set d.c (d.new, t + 1)) last (t + 1) (fun z hz => by rw [List.length_set]; exact hc z (List.mem_cons_of_mem _ hz)) (by rw [List.length_set]; exact hl) (fun p hp => by
      rcases List.mem_or_eq_of_mem_set hp with h | h
      · have := ht p h; omega
      · rw [h]; exact Int.le_refl _)
    rw [okLog]
    by_cases e : now[d.c]? = some (d.old, d.told)
    · rw [if_pos e, ih e, step e, noLate]
      have : d.told ≤ t := ht (d.old, d.told) (List.mem_of_getElem? e)
      exact ⟨fun h => ⟨⟨this, h.1⟩, h.2⟩, fun h => ⟨h.1.2, h.2⟩⟩
    · rw [if_neg e]
      refine ⟨fun h => (by cases h), fun ⟨⟨h1, _⟩, h3⟩ => ?_⟩
      have hm : [(d.c : Int), d.old, d.told] ∈ cellsF 0 now ++ putsF t (d :: r) := h3.mem_iff.mpr (by simp [taksF])
      rcases List.mem_append.mp hm with h | h
      · exact absurd (cellsF_get (k := 0) (c := d.c) (by simpa using h)) e
      · obtain ⟨a, b, s, h4, h5⟩ := putsF_time h
        simp only [List.cons.injEq] at h4
        have := h4.2.2.1
        omega
end LK
/-! the walk, printed by gen.py -/
namespace LK
open PySem L2 MM
/-! ### the mirrors of the module's defs -/
noncomputable section
def m__law_taken_7 : MS := mRet (mBin (bInt gMod) (mApply fInt (mCons (mVar 3) mNil)) (mVar 1))
def m__law_taken_6 : MS := mSeq (mIfS (mB (mBin (bCmp pGe) (mVar 3) (mBin (bInt gPow) (mC (.int 10)) (mC (.int 18))))) (mSetA 0 (mC (.int 3)) (mBin (bInt gDiv) (mVar 3) (mVar 1))) mSkip) m__law_taken_7
def m__law_taken_5 : MS := mSeq (mSetA 0 (mC (.int 2)) (mBin (bInt gMod) (mApply fInt (mCons (mBin dAdd (mBin dAdd (mBin (bInt gMul) (mIxAV 0 (mC (.int 2))) (mC (.int 48271))) (mVar 3)) (mC (.int 11))) mNil)) (mC (.int 2147483647)))) m__law_taken_6
def m__law_taken_4 : MS := mSeq (mSet 3 (mIxA (mIxAV 0 (mC (.int 0))) (mBin (bInt fun i j => some (i - j)) (mIxAV 0 (mC (.int 1))) (mC (.int 1))))) m__law_taken_5
def m__law_taken_3a2 : MS := mRet (mBin (bInt gMod) (mApply fInt (mCons (mBin (bInt gDiv) (mIxAV 0 (mC (.int 2))) (mC (.int 7))) mNil)) (mVar 1))
def m__law_taken_3a1 : MS := mSeq (mSetA 0 (mC (.int 2)) (mBin (bInt gMod) (mApply fInt (mCons (mBin dAdd (mBin (bInt gMul) (mIxAV 0 (mC (.int 2))) (mC (.int 48271))) (mC (.int 11))) mNil)) (mC (.int 2147483647)))) m__law_taken_3a2
def m__law_taken_3 : MS := mSeq (mIfS (mB (mBin (bCmp pGt) (mIxAV 0 (mC (.int 1))) (mUn dLen (mIxAV 0 (mC (.int 0)))))) m__law_taken_3a1 mSkip) m__law_taken_4
def m__law_taken_2 : MS := mSeq (mSetA 0 (mC (.int 1)) (mBin dAdd (mIxAV 0 (mC (.int 1))) (mC (.int 1)))) m__law_taken_3
def m__law_taken_1a3 : MS := mRet (mVar 2)
def m__law_taken_1a2 : MS := mSeq (mSetA 0 (mC (.int 3)) (mBin (bInt gDiv) (mIxAV 0 (mC (.int 3))) (mVar 1))) m__law_taken_1a3
def m__law_taken_1a1 : MS := mSeq (mSet 2 (mBin (bInt gMod) (mApply fInt (mCons (mIxAV 0 (mC (.int 3))) mNil)) (mVar 1))) m__law_taken_1a2
def m__law_taken : MS :=
  mSeq (mIfS (mB (mBin (bCmp pGt) (mIxAV 0 (mC (.int 3))) (mC (.int 0)))) m__law_taken_1a1 mSkip) m__law_taken_2
def S__law_taken : FSI := runI 4 m__law_taken
def m__law_pick : MS :=
  mRet (mIxAV 1 (mCallI S__law_taken 0 (mCons (mLenV 1) mNil)))
def S__law_pick : FSI := runI 2 m__law_pick
def m__law_number_3 : MS := mRet (mBin (bInt gMod) (mBin dAdd (mBin (bInt gMul) (mCallI S__law_taken 0 (mCons (mC (.int 1000)) mNil)) (mC (.int 2147483))) (mCallI S__law_taken 0 (mCons (mC (.int 1000)) mNil))) (mVar 1))
def m__law_number_2 : MS := mSeq (mIfS (mB (mBin (bCmp pLt) (mVar 2) (mC (.int 3)))) (mRet (mIxA (mLst (mCons (mC (.int 0)) (mCons (mC (.int 1)) (mCons (mBin (bInt fun i j => some (i - j)) (mVar 1) (mC (.int 1))) mNil)))) (mVar 2))) mSkip) m__law_number_3
def m__law_number : MS :=
  mSeq (mSet 2 (mCallI S__law_taken 0 (mCons (mC (.int 5)) mNil))) m__law_number_2
def S__law_number : FSI := runI 3 m__law_number
def m__law_numbers : MS :=
  mRet (mApply fTuple (mCons (mComp (iRange1 (mVar 2)) (gN 3) mYes (mCallI S__law_number 0 (mCons (mVar 1) mNil)) [3]) mNil))
def S__law_numbers : FSI := runI 4 m__law_numbers
def m__law_log_4 : MS := mRet (mTup (mCons (mVar 3) (mCons (mApply fTuple (mCons (mVar 4) mNil)) (mCons (mApply fTuple (mCons (mVar 5) mNil)) mNil))))
def m__law_log_3f4 : MS := mSetA 5 (mVar 7) (mTup (mCons (mVar 8) (mCons (mBin dAdd (mVar 6) (mC (.int 1))) mNil)))
def m__law_log_3f3 : MS := mSeq (mApp 4 (mBin dAdd (mBin dAdd (mTup (mCons (mVar 7) mNil)) (mIxAV 5 (mVar 7))) (mTup (mCons (mVar 8) mNil)))) m__law_log_3f4
def m__law_log_3f2 : MS := mSeq (mSet 8 (mCallI S__law_pick 0 (mCons (mLst (mCons (mIxA (mIxAV 5 (mVar 7)) (mC (.int 0))) (mCons (mCallI S__law_number 0 (mCons (mVar 1) mNil)) mNil))) mNil))) m__law_log_3f3
def m__law_log_3f1 : MS := mSeq (mSet 7 (mCallI S__law_taken 0 (mCons (mLenV 3) mNil))) m__law_log_3f2
def m__law_log_3 : MS := mSeq (mFor (iRange1 (mCallI S__law_taken 0 (mCons (mBin dAdd (mVar 2) (mC (.int 1))) mNil))) (gN 6) m__law_log_3f1) m__law_log_4
def m__law_log_2 : MS := mSeq (mSetO 5 (mComp (iOf dSeq (mVar 3)) (gN 9) mYes (mTup (mCons (mVar 9) (mCons (mC (.int 0)) mNil))) [9])) m__law_log_3
def m__law_log : MS :=
  mSeq (mPar [3, 4] [(false, mCallI S__law_numbers 0 (mCons (mVar 1) (mCons (mBin dAdd (mC (.int 1)) (mCallI S__law_taken 0 (mCons (mC (.int 3)) mNil))) mNil))), (true, mLst mNil)]) m__law_log_2
def S__law_log : FSI := runI 10 m__law_log
def m__law_true_3 : MS := mRet (mBin dEq (mApply fTuple (mCons (mVar 3) mNil)) (mVar 2))
def m__law_true_2f2 : MS := mSetA 3 (mVar 5) (mTup (mCons (mVar 8) (mCons (mBin dAdd (mVar 4) (mC (.int 1))) mNil)))
def m__law_true_2f1 : MS := mSeq (mIfS (mB (mBin dNe (mIxAV 3 (mVar 5)) (mTup (mCons (mVar 6) (mCons (mVar 7) mNil))))) (mRet (mC (.bool false))) mSkip) m__law_true_2f2
def m__law_true_2 : MS := mSeq (mFor (iEn (mVar 1)) (gT [gN 4, gT [gN 5, gN 6, gN 7, gN 8]]) m__law_true_2f1) m__law_true_3
def m__law_true : MS :=
  mSeq (mSetO 3 (mComp (iOf dSeq (mVar 0)) (gN 9) mYes (mTup (mCons (mVar 9) (mCons (mC (.int 0)) mNil))) [9])) m__law_true_2
def S__law_true : FS := runF 10 m__law_true
def m_is_integer : MS :=
  mRet (mAndV (mUn (dIsi "int") (mVar 0)) (mUn dNot (mUn (dIsi "bool") (mVar 0))))
def S_is_integer : FS := runF 1 m_is_integer
def m_is_from : MS :=
  mRet (mAndV (mCall S_is_integer [] (mCons (mVar 0) mNil)) (mChain (bCmp pLe) (bCmp pLe) (mVar 1) (mVar 0) (mVar 2)))
def S_is_from : FS := runF 3 m_is_from
def m_raised_3 : MS := mRet (mVar 3)
def m_raised_2w2 : MS := mPar [1, 2] [(false, mBin (bInt gMod) (mBin (bInt gMul) (mVar 1) (mVar 1)) (mVar 0)), (false, mBin (bInt gDiv) (mVar 2) (mC (.int 2)))]
def m_raised_2w1 : MS := mSeq (mIfS (mB (mBin dEq (mBin (bInt gMod) (mVar 2) (mC (.int 2))) (mC (.int 1)))) (mSet 3 (mBin (bInt gMod) (mBin (bInt gMul) (mVar 3) (mVar 1)) (mVar 0))) mSkip) m_raised_2w2
def m_raised_2 : MS := mSeq (whileL (mB (mBin (bCmp pGt) (mVar 2) (mC (.int 0)))) m_raised_2w1 4096) m_raised_3
def m_raised : MS :=
  mSeq (mPar [3, 1] [(false, mC (.int 1)), (false, mBin (bInt gMod) (mVar 1) (mVar 0))]) m_raised_2
def S_raised : FS := runF 4 m_raised
def m_passes_6 : MS := mRet (mC (.bool false))
def m_passes_5f2 : MS := mIfS (mB (mCmpV dEq 4 (mBin (bInt fun i j => some (i - j)) (mVar 0) (mC (.int 1))))) (mRet (mC (.bool true))) mSkip
def m_passes_5f1 : MS := mSeq (mSet 4 (mBin (bInt gMod) (mBin (bInt gMul) (mVar 4) (mVar 4)) (mVar 0))) m_passes_5f2
def m_passes_5 : MS := mSeq (mFor (iRange1 (mBin (bInt fun i j => some (i - j)) (mVar 3) (mC (.int 1)))) (gN 5) m_passes_5f1) m_passes_6
def m_passes_4 : MS := mSeq (mIfS (mB (mBin dInA (mVar 4) (mTup (mCons (mC (.int 1)) (mCons (mBin (bInt fun i j => some (i - j)) (mVar 0) (mC (.int 1))) mNil))))) (mRet (mC (.bool true))) mSkip) m_passes_5
def m_passes_3 : MS := mSeq (mSet 4 (mCall S_raised [] (mCons (mVar 0) (mCons (mVar 1) (mCons (mVar 2) mNil))))) m_passes_4
def m_passes_2 : MS := mSeq (whileL (mB (mBin dEq (mBin (bInt gMod) (mVar 2) (mC (.int 2))) (mC (.int 0)))) (mPar [2, 3] [(false, mBin (bInt gDiv) (mVar 2) (mC (.int 2))), (false, mBin dAdd (mVar 3) (mC (.int 1)))]) 4096) m_passes_3
def m_passes : MS :=
  mSeq (mPar [2, 3] [(false, mBin (bInt fun i j => some (i - j)) (mVar 0) (mC (.int 1))), (false, mC (.int 0))]) m_passes_2
def S_passes : FS := runF 6 m_passes
def m_is_prime_4 : MS := mRet (mApply fAll (mCons (mComp (iCon k_BASES) (gN 1) mYes (mCall S_passes [] (mCons (mVar 0) (mCons (mVar 1) mNil))) [1]) mNil))
def m_is_prime_3 : MS := mSeq (mIfS (mTru (mApply fAny (mCons (mComp (iCon k_BASES) (gN 1) mYes (mBin dEq (mBin (bInt gMod) (mVar 0) (mVar 1)) (mC (.int 0))) [1]) mNil))) (mRet (mC (.bool false))) mSkip) m_is_prime_4
def m_is_prime_2 : MS := mSeq (mIfS (mB (mInC k_BASES (mVar 0))) (mRet (mC (.bool true))) mSkip) m_is_prime_3
def m_is_prime : MS :=
  mSeq (mIfS (mNotT (mTru (mCall S_is_from [] (mCons (mVar 0) (mCons (mC (.int 5)) (mCons (mC (.int 2147483647)) mNil)))))) (mRet (mC (.bool false))) mSkip) m_is_prime_2
def S_is_prime : FS := runF 2 m_is_prime
def m_need_prime : MS :=
  mIfS (mOrT (mNotT (mTru (mCall S_is_prime [] (mCons (mVar 0) mNil)))) (mB (mBin (bCmp pLt) (mVar 0) (mVar 1)))) mStuck mSkip
def S_need_prime : FS := runF 2 m_need_prime
def m_is_number : MS :=
  mRet (mCall S_is_from [] (mCons (mVar 1) (mCons (mC (.int 0)) (mCons (mBin (bInt fun i j => some (i - j)) (mVar 0) (mC (.int 1))) mNil))))
def S_is_number : FS := runF 2 m_is_number
def m_are_numbers : MS :=
  mRet (mAndV (mUn (dIsi "tuple") (mVar 1)) (mAndV (mChain (bCmp pLe) (bCmp pLe) (mVar 2) (mLenV 1) (mVar 3)) (mApply fAll (mCons (mComp (iOf dSeq (mVar 1)) (gN 4) mYes (mCall S_is_number [] (mCons (mVar 0) (mCons (mVar 4) mNil))) [4]) mNil))))
def S_are_numbers : FS := runF 5 m_are_numbers
def m_need_log_3 : MS := mIfS (mNotT (mTru (mApply fAll (mCons (mComp (iOf dSeq (mVar 2)) (gN 3) mYes (mAndV (mCall S_are_numbers [] (mCons (mVar 0) (mCons (mVar 3) (mCons (mC (.int 4)) (mCons (mC (.int 4)) mNil))))) (mBin (bCmp pLt) (mIxAV 3 (mC (.int 0))) (mLenV 1))) [3]) mNil)))) mStuck mSkip
def m_need_log_2 : MS := mSeq (mIfS (mOrT (mNotT (mTru (mUn (dIsi "tuple") (mVar 2)))) (mOrT (mB (mBin (bCmp pGt) (mLenV 2) (mC (.int 60)))) (mB (mBin (bCmp pGe) (mLenV 2) (mVar 0))))) mStuck mSkip) m_need_log_3
def m_need_log : MS :=
  mSeq (mIfS (mNotT (mTru (mCall S_are_numbers [] (mCons (mVar 0) (mCons (mVar 1) (mCons (mC (.int 1)) (mCons (mC (.int 16)) mNil))))))) mStuck mSkip) m_need_log_2
def S_need_log : FS := runF 4 m_need_log
def m_need_last : MS :=
  mIfS (mOrT (mNotT (mTru (mUn (dIsi "tuple") (mVar 2)))) (mOrT (mB (mBin dNe (mLenV 2) (mLenV 1))) (mNotT (mTru (mApply fAll (mCons (mComp (iOf dSeq (mVar 2)) (gN 3) mYes (mCall S_are_numbers [] (mCons (mVar 0) (mCons (mVar 3) (mCons (mC (.int 2)) (mCons (mC (.int 2)) mNil))))) [3]) mNil)))))) mStuck mSkip
def S_need_last : FS := runF 4 m_need_last
def m_need_number : MS :=
  mIfS (mNotT (mTru (mCall S_is_number [] (mCons (mVar 0) (mCons (mVar 1) mNil))))) mStuck mSkip
def S_need_number : FS := runF 2 m_need_number
def m_late_2 : MS := mRet (mC .none)
def m_late : MS :=
  mSeq (mFor (iEn (mVar 0)) (gT [gN 1, gN 2]) (mIfS (mB (mBin (bCmp pGt) (mIxAV 2 (mC (.int 2))) (mVar 1))) (mRet (mVar 1)) mSkip)) m_late_2
def S_late : FS := runF 3 m_late
def m_packed_at : MS :=
  mRet (mBin (bInt gMod) (mBin dAdd (mBin dAdd (mIxAV 1 (mC (.int 0))) (mBin (bInt gMul) (mIxAV 1 (mC (.int 1))) (mVar 2))) (mBin (bInt gMul) (mBin (bInt gMul) (mIxAV 1 (mC (.int 2))) (mVar 2)) (mVar 2))) (mVar 0))
def S_packed_at : FS := runF 3 m_packed_at
def m_product_at_3 : MS := mRet (mVar 4)
def m_product_at_2 : MS := mSeq (mFor (iOf dSeq (mVar 1)) (gN 5) (mSet 4 (mBin (bInt gMod) (mBin (bInt gMul) (mVar 4) (mBin (bInt fun i j => some (i - j)) (mVar 2) (mCall S_packed_at [] (mCons (mVar 0) (mCons (mVar 5) (mCons (mVar 3) mNil)))))) (mVar 0)))) m_product_at_3
def m_product_at : MS :=
  mSeq (mSet 4 (mC (.int 1))) m_product_at_2
def S_product_at : FS := runF 6 m_product_at
def m_put_bag_2 : MS := mRet (mApply fTuple (mCons (mBin dCatL (mVar 2) (mComp (iEn (mVar 1)) (gT [gN 5, gN 6]) mYes (mTup (mCons (mIxAV 6 (mC (.int 0))) (mCons (mIxAV 6 (mC (.int 3))) (mCons (mBin dAdd (mVar 5) (mC (.int 1))) mNil)))) [5, 6])) mNil))
def m_put_bag : MS :=
  mSeq (mSetO 2 (mComp (iEn (mVar 0)) (gT [gN 3, gN 4]) mYes (mTup (mCons (mVar 3) (mCons (mVar 4) (mCons (mC (.int 0)) mNil)))) [3, 4])) m_put_bag_2
def S_put_bag : FS := runF 7 m_put_bag
def m_taken_bag_2 : MS := mRet (mApply fTuple (mCons (mBin dCatL (mVar 2) (mComp (iEn (mVar 1)) (gT [gN 3, gT [gN 7, gN 8]]) mYes (mTup (mCons (mVar 3) (mCons (mVar 7) (mCons (mVar 8) mNil)))) [3, 7, 8])) mNil))
def m_taken_bag : MS :=
  mSeq (mSetO 2 (mComp (iOf dSeq (mVar 0)) (gT [gN 3, gN 4, gN 5, gN 6]) mYes (mTup (mCons (mVar 3) (mCons (mVar 4) (mCons (mVar 5) mNil)))) [3, 4, 5, 6])) m_taken_bag_2
def S_taken_bag : FS := runF 9 m_taken_bag
def m_log_judged_9 : MS := mRet (mC kv_PASSED)
def m_log_judged_8 : MS := mSeq (mIfS (mB (mBin dNe (mCall S_product_at [] (mCons (mVar 0) (mCons (mCall S_put_bag [] (mCons (mVar 1) (mCons (mVar 2) mNil))) (mCons (mVar 4) (mCons (mVar 5) mNil))))) (mCall S_product_at [] (mCons (mVar 0) (mCons (mCall S_taken_bag [] (mCons (mVar 2) (mCons (mVar 3) mNil))) (mCons (mVar 4) (mCons (mVar 5) mNil))))))) (mRet (mTup (mCons (mC (.str "caught")) (mCons (mLenV 2) (mCons (mC (.str "bags")) mNil))))) mSkip) m_log_judged_9
def m_log_judged_7 : MS := mSeq (mIfS (mB (mUn dNotN (mVar 6))) (mRet (mTup (mCons (mC (.str "caught")) (mCons (mVar 6) (mCons (mC (.str "time")) mNil))))) mSkip) m_log_judged_8
def m_log_judged_6 : MS := mSeq (mSet 6 (mCall S_late [] (mCons (mVar 2) mNil))) m_log_judged_7
def m_log_judged_5 : MS := mSeq (mDo (mCall S_need_number [] (mCons (mVar 0) (mCons (mVar 5) mNil)))) m_log_judged_6
def m_log_judged_4 : MS := mSeq (mDo (mCall S_need_number [] (mCons (mVar 0) (mCons (mVar 4) mNil)))) m_log_judged_5
def m_log_judged_3 : MS := mSeq (mDo (mCall S_need_last [] (mCons (mVar 0) (mCons (mVar 1) (mCons (mVar 3) mNil))))) m_log_judged_4
def m_log_judged_2 : MS := mSeq (mDo (mCall S_need_log [] (mCons (mVar 0) (mCons (mVar 1) (mCons (mVar 2) mNil))))) m_log_judged_3
def m_log_judged : MS :=
  mSeq (mDo (mCall S_need_prime [.int 5] (mCons (mVar 0) mNil))) m_log_judged_2
def S_log_judged : FS := runF 7 m_log_judged
def m_is_whole : MS :=
  mRet (mAndV (mUn (dIsi "tuple") (mVar 0)) (mAndV (mBin dEq (mLenV 0) (mVar 1)) (mApply fAll (mCons (mComp (iOf dSeq (mVar 0)) (gN 2) mYes (mAndV (mCall S_is_integer [] (mCons (mVar 2) mNil)) (mBin (bCmp pGe) (mVar 2) (mC (.int 0)))) [2]) mNil))))
def S_is_whole : FS := runF 3 m_is_whole
def m_are_whole_firsts : MS :=
  mRet (mAndV (mUn (dIsi "tuple") (mVar 0)) (mAndV (mChain (bCmp pLe) (bCmp pLe) (mC (.int 1)) (mLenV 0) (mC (.int 16))) (mCall S_is_whole [] (mCons (mVar 0) (mCons (mLenV 0) mNil)))))
def S_are_whole_firsts : FS := runF 1 m_are_whole_firsts
def m_are_whole_deeds_2 : MS := mRet (mApply fAll (mCons (mComp (iOf dSeq (mVar 1)) (gN 2) mYes (mAndV (mCall S_is_whole [] (mCons (mVar 2) (mCons (mC (.int 4)) mNil))) (mBin (bCmp pLt) (mIxAV 2 (mC (.int 0))) (mLenV 0))) [2]) mNil))
def m_are_whole_deeds : MS :=
  mSeq (mIfS (mOrT (mNotT (mTru (mUn (dIsi "tuple") (mVar 1)))) (mB (mBin (bCmp pGt) (mLenV 1) (mC (.int 60))))) (mRet (mC (.bool false))) mSkip) m_are_whole_deeds_2
def S_are_whole_deeds : FS := runF 3 m_are_whole_deeds
def m_mended_log_5 : MS := mRet (mTup (mCons (mApply fTuple (mCons (mVar 3) mNil)) (mCons (mApply fTuple (mCons (mVar 2) mNil)) mNil)))
def m_mended_log_4f3 : MS := mSetA 2 (mVar 5) (mTup (mCons (mIxA (mIxAV 3 (mUn dNeg (mC (.int 1)))) (mC (.int 3))) (mCons (mBin dAdd (mVar 4) (mC (.int 1))) mNil)))
def m_mended_log_4f2 : MS := mSeq (mApp 3 (mTup (mCons (mVar 5) (mCons (mVar 9) (mCons (mVar 10) (mCons (mIf (mB (mCmpV dEq 8 (mVar 6))) (mVar 9) (mVar 8)) mNil)))))) m_mended_log_4f3
def m_mended_log_4f1 : MS := mSeq (mUnp (mIxAV 2 (mVar 5)) (gT [gN 9, gN 10])) m_mended_log_4f2
def m_mended_log_4 : MS := mSeq (mFor (iEn (mVar 1)) (gT [gN 4, gT [gN 5, gN 6, gN 7, gN 8]]) m_mended_log_4f1) m_mended_log_5
def m_mended_log_3 : MS := mSeq (mPar [2, 3] [(true, mComp (iOf dSeq (mVar 0)) (gN 11) mYes (mTup (mCons (mVar 11) (mCons (mC (.int 0)) mNil))) [11]), (true, mLst mNil)]) m_mended_log_4
def m_mended_log_2 : MS := mSeq (mIfS (mNotT (mTru (mCall S_are_whole_deeds [] (mCons (mVar 0) (mCons (mVar 1) mNil))))) mStuck mSkip) m_mended_log_3
def m_mended_log : MS :=
  mSeq (mIfS (mNotT (mTru (mCall S_are_whole_firsts [] (mCons (mVar 0) mNil)))) mStuck mSkip) m_mended_log_2
def S_mended_log : FS := runF 12 m_mended_log
def n__law_bent : NS :=
  nSeq (nMake2 4 5 (mCallI S__law_taken 0 (mCons (mC (.int 6)) mNil)) (mCompN (iOf dSeq (mVar 2)) (gN 9) mYes (mListOf (mVar 9)) [9])) (nSeq (nIfN (tnOr (tnLift (mB (mCmpV dEq 4 (mC (.int 0))))) (tnEmp 5)) (nSeq (nFrzN 5 (nMake2 6 7 (mCallI S__law_taken 0 (mCons (mLenV 3) mNil)) (mCompN (iOf dSeq (mVar 3)) (gN 10) mYes (mListOf (mVar 10)) [10]))) (nSeq (nSet2 7 (mVar 6) (mCallI S__law_taken 0 (mCons (mC (.int 2)) mNil)) (mCallI S__law_number 0 (mCons (mVar 1) mNil))) (nFrz 7 (mRet (mTup (mCons (mVar 2) (mCons (mApply fTuple (mCons (mComp (iOf dSeq (mVar 7)) (gN 10) mYes (mApply fTuple (mCons (mVar 10) mNil)) [10]) mNil)) mNil))))))) nSkip) (nSeq (nLift (mPar [6, 8] [(false, mCallI S__law_taken 0 (mCons (mLenR 5) mNil)), (false, mCallI S__law_taken 0 (mCons (mLenR 5) mNil))])) (nSeq (nIfN (tnLift (mB (mCmpV dEq 4 (mC (.int 1))))) (nSet2 5 (mVar 6) (mBin dAdd (mC (.int 1)) (mCallI S__law_taken 0 (mCons (mC (.int 3)) mNil))) (mCallI S__law_number 0 (mCons (mVar 1) mNil))) nSkip) (nSeq (nIfN (tnLift (mB (mCmpV dEq 4 (mC (.int 2))))) (nSwapSl 5 6 8 1 3) nSkip) (nSeq (nIfN (tnLift (mB (mCmpV dEq 4 (mC (.int 3))))) (nSet2 5 (mVar 6) (mC (.int 2)) (mBin (bInt gMod) (mBin dAdd (mVar 8) (mC (.int 1))) (mVar 1))) nSkip) (nSeq (nIfN (tnLift (mB (mCmpV dEq 4 (mC (.int 4))))) (nSwap 5 6 8) nSkip) (nFrz 5 (mRet (mTup (mCons (mApply fTuple (mCons (mComp (iOf dSeq (mVar 5)) (gN 9) mYes (mApply fTuple (mCons (mVar 9) mNil)) [9]) mNil)) (mCons (mVar 3) mNil)))))))))))
/-- the draws' row -/
def RowOk (row : D) : Prop := ∃ (ns : List Int) (a b c : Int), row = .list [.list (ns.map .int), .int a, .int b, .int c] ∧ 0 ≤ a
def PP (p : Int) : Prop := p = 7 ∨ p = 11 ∨ p = 13 ∨ p = 101 ∨ p = 65537
def deD (d : Deed) : D := .tuple [.int (d.c : Nat), .int d.old, .int d.told, .int d.new]
def prD (q : Int × Int) : D := .tuple [.int q.1, .int q.2]
structure Lg (p : Int) (n : Nat) (ds : List Deed) (ls : List (Int × Int)) : Prop where
  d5 : ds.length ≤ 5
  dc : ∀ d ∈ ds, d.c < n
  dr : ∀ d ∈ ds, (0 ≤ d.old ∧ d.old < p) ∧ (0 ≤ d.told ∧ d.told < p) ∧ 0 ≤ d.new ∧ d.new < p
  ll : ls.length = n
  lr : ∀ q ∈ ls, (0 ≤ q.1 ∧ q.1 < p) ∧ 0 ≤ q.2 ∧ q.2 < p
def bentR (ρ : En) (fl : Fl) (ρ' : En) : Prop := ∀ row p n ds ls, ρ = [.io row, .fz (.int p), .fz (.tuple (ds.map deD)), .fz (.tuple (ls.map prD)), .emp, .emp, .emp, .emp, .emp, .emp, .emp] → RowOk row → PP p → 0 < n → n ≤ 3 → Lg p n ds ls →
  ∃ row' ds' ls', RowOk row' ∧ Lg p n ds' ls' ∧ ρ' = [.io row', .emp, .emp, .emp, .emp, .emp, .emp, .emp, .emp, .emp, .emp] ∧ fl = .rt (.tuple [.tuple (ds'.map deD), .tuple (ls'.map prD)]) false
noncomputable def m__law_bent : MS := mOfN n__law_bent [1, 2, 3, 4, 5, 6, 7, 8, 9, 10] bentR
theorem hw__law_bent : ∀ ρ fl ρ', m__law_bent ρ = some (fl, ρ') → n__law_bent [] [] ρ fun fl' _ _ ρ2 => fl' = fl ∧ wipeE ρ2 [1, 2, 3, 4, 5, 6, 7, 8, 9, 10] = ρ' ∧ ∀ d, fl ≠ .rt d true := mOfN_h
def S__law_bent : FSI := runI 11 m__law_bent
def m__law_alike_4 (rec : FS) : MS := mRet (mAndV (mUn (dIsi "int") (mVar 0)) (mAndV (mBin dEq (mUn (dIsi "bool") (mVar 0)) (mUn (dIsi "bool") (mVar 1))) (mCmpV dEq 0 (mVar 1))))
def m__law_alike_3 (rec : FS) : MS := mSeq (mIfS (mOrT (mB (mUn dIsN (mVar 1))) (mTru (mUn (dIsi "str") (mVar 1)))) (mRet (mAndV (mCmpV dEq 0 (mVar 1)) (mBin dEq (mUn (dIsi "str") (mVar 0)) (mUn (dIsi "str") (mVar 1))))) mSkip) (m__law_alike_4 rec)
def m__law_alike_2a2 (rec : FS) : MS := mRet (mBin dEq (mComp (iOf dSeq (mVar 1)) (gN 3) (mNotT (mTru (mCall rec [] (mCons (mIxAV 0 (mVar 3)) (mCons (mIxAV 1 (mVar 3)) mNil))))) (mVar 3) [3]) (mLst mNil))
def m__law_alike_2a1 (rec : FS) : MS := mSeq (mIfS (mOrT (mNotT (mTru (mUn (dIsi "dict") (mVar 0)))) (mB (mBin dNe mNev mNev))) (mRet (mC (.bool false))) mSkip) (m__law_alike_2a2 rec)
def m__law_alike_2 (rec : FS) : MS := mSeq (mIfS (mTru (mUn (dIsi "dict") (mVar 1))) (m__law_alike_2a1 rec) mSkip) (m__law_alike_3 rec)
def m__law_alike_1a3 (rec : FS) : MS := mRet (mBin dEq (mComp (iRange1 (mLenV 1)) (gN 2) (mNotT (mTru (mCall rec [] (mCons (mIxAV 0 (mVar 2)) (mCons (mIxAV 1 (mVar 2)) mNil))))) (mVar 2) [2]) (mLst mNil))
def m__law_alike_1a2 (rec : FS) : MS := mSeq (mIfS (mB (mBin dNe (mLenV 0) (mLenV 1))) (mRet (mC (.bool false))) mSkip) (m__law_alike_1a3 rec)
def m__law_alike_1a1 (rec : FS) : MS := mSeq (mIfS (mOrT (mNotT (mTru (mUn (dIsi2 "tuple" "list") (mVar 0)))) (mB (mBin dNe (mUn (dIsi "list") (mVar 0)) (mUn (dIsi "list") (mVar 1))))) (mRet (mC (.bool false))) mSkip) (m__law_alike_1a2 rec)
def m__law_alike (rec : FS) : MS :=
  mSeq (mIfS (mTru (mUn (dIsi2 "tuple" "list") (mVar 1))) (m__law_alike_1a1 rec) mSkip) (m__law_alike_2 rec)
def S__law_alike : Nat → FS
  | 0 => fun _ => none
  | n + 1 => runF 4 (m__law_alike (S__law_alike n))
def m__law_pairs_3 : MS := mRet (mVar 2)
def m__law_pairs_2 : MS := mSeq (mFor (iOf dSeq (mVar 0)) (gN 3) (mSetO 2 (mBin dCatL (mVar 2) (mComp (iOf dSeq (mVar 1)) (gN 4) mYes (mTup (mCons (mVar 3) (mCons (mVar 4) mNil))) [4])))) m__law_pairs_3
def m__law_pairs : MS :=
  mSeq (mSetO 2 (mLst mNil)) m__law_pairs_2
def S__law_pairs : FS := runF 5 m__law_pairs
def m_is_whole_triple_2 : MS := mRet (mApply fAll (mCons (mComp (iOf dSeq (mVar 0)) (gN 1) mYes (mAndV (mCall S_is_integer [] (mCons (mVar 1) mNil)) (mBin (bCmp pGe) (mVar 1) (mC (.int 0)))) [1]) mNil))
def m_is_whole_triple : MS :=
  mSeq (mIfS (mOrT (mNotT (mTru (mUn (dIsi "tuple") (mVar 0)))) (mB (mBin dNe (mLenV 0) (mC (.int 3))))) (mRet (mC (.bool false))) mSkip) m_is_whole_triple_2
def S_is_whole_triple : FS := runF 2 m_is_whole_triple
def m_is_any_bag_2 : MS := mRet (mApply fAll (mCons (mComp (iOf dSeq (mVar 0)) (gN 1) mYes (mCall S_is_whole_triple [] (mCons (mVar 1) mNil)) [1]) mNil))
def m_is_any_bag : MS :=
  mSeq (mIfS (mOrT (mNotT (mTru (mUn (dIsi "tuple") (mVar 0)))) (mB (mBin (bCmp pGt) (mLenV 0) (mC (.int 200))))) (mRet (mC (.bool false))) mSkip) m_is_any_bag_2
def S_is_any_bag : FS := runF 2 m_is_any_bag
def m_is_same_bag : MS :=
  mRet (mAndV (mCall S_is_any_bag [] (mCons (mVar 0) mNil)) (mAndV (mCall S_is_any_bag [] (mCons (mVar 1) mNil)) (mBin dEq (mUn dSorted (mVar 0)) (mUn dSorted (mVar 1)))))
def S_is_same_bag : FS := runF 2 m_is_same_bag
def m_common_2 : MS := mRet (mVar 0)
def m_common : MS :=
  mSeq (whileL (mB (mCmpV dNe 1 (mC (.int 0)))) (mPar [0, 1] [(false, mVar 1), (false, mBin (bInt gMod) (mVar 0) (mVar 1))]) 4096) m_common_2
def S_common : FS := runF 2 m_common
def m_share_2 : MS := mRet (mTup (mCons (mBin (bInt gDiv) (mVar 0) (mVar 2)) (mCons (mBin (bInt gDiv) (mVar 1) (mVar 2)) mNil)))
def m_share : MS :=
  mSeq (mSet 2 (mCall S_common [] (mCons (mApply fAbs (mCons (mVar 0) mNil)) (mCons (mVar 1) mNil)))) m_share_2
def S_share : FS := runF 3 m_share
def m_log_loss_3 : MS := mRet (mCall S_share [] (mCons (mApply fMin2 (mCons (mVar 0) (mCons (mBin (bInt gMul) (mC (.int 2)) (mBin dAdd (mLenV 1) (mLenV 2))) mNil))) (mCons (mVar 0) mNil)))
def m_log_loss_2 : MS := mSeq (mDo (mCall S_need_log [] (mCons (mVar 0) (mCons (mVar 1) (mCons (mVar 2) mNil))))) m_log_loss_3
def m_log_loss : MS :=
  mSeq (mDo (mCall S_need_prime [.int 5] (mCons (mVar 0) mNil))) m_log_loss_2
def S_log_loss : FS := runF 3 m_log_loss
def m__law_lowered_3 : MS := mRet (mTup (mCons (mBin (bInt gDiv) (mVar 0) (mVar 2)) (mCons (mBin (bInt gDiv) (mVar 1) (mVar 2)) mNil)))
def m__law_lowered_2 : MS := mSeq (whileL (mB (mBin (bCmp pGt) (mVar 3) (mC (.int 0)))) (mPar [2, 3] [(false, mVar 3), (false, mBin (bInt gMod) (mVar 2) (mVar 3))]) 4096) m__law_lowered_3
def m__law_lowered : MS :=
  mSeq (mPar [2, 3] [(false, mApply fAbs (mCons (mVar 0) mNil)), (false, mVar 1)]) m__law_lowered_2
def S__law_lowered : FS := runF 4 m__law_lowered
def m_memory_behind_3 : MS := mRet (mTup (mCons (mVar 3) (mCons (mVar 2) mNil)))
def m_memory_behind_2f2 : MS := mSetA 2 (mVar 5) (mTup (mCons (mVar 8) (mCons (mBin dAdd (mVar 4) (mC (.int 1))) mNil)))
def m_memory_behind_2f1 : MS := mSeq (mSet 3 (mAndV (mVar 3) (mBin dEq (mIxAV 2 (mVar 5)) (mTup (mCons (mVar 6) (mCons (mVar 7) mNil)))))) m_memory_behind_2f2
def m_memory_behind_2 : MS := mSeq (mFor (iEn (mVar 1)) (gT [gN 4, gT [gN 5, gN 6, gN 7, gN 8]]) m_memory_behind_2f1) m_memory_behind_3
def m_memory_behind : MS :=
  mSeq (mPar [2, 3] [(true, mComp (iOf dSeq (mVar 0)) (gN 9) mYes (mTup (mCons (mVar 9) (mCons (mC (.int 0)) mNil))) [9]), (false, mC (.bool true))]) m_memory_behind_2
def S_memory_behind : FS := runF 10 m_memory_behind
def m_is_true_log_4 : MS := mRet (mAndV (mVar 3) (mBin dEq (mApply fTuple (mCons (mVar 4) mNil)) (mVar 2)))
def m_is_true_log_3 : MS := mSeq (mUnp (mCall S_memory_behind [] (mCons (mVar 0) (mCons (mVar 1) mNil))) (gT [gN 3, gN 4])) m_is_true_log_4
def m_is_true_log_2 : MS := mSeq (mIfS (mOrT (mNotT (mTru (mUn (dIsi "tuple") (mVar 2)))) (mNotT (mTru (mApply fAll (mCons (mComp (iOf dSeq (mVar 2)) (gN 5) mYes (mCall S_is_whole [] (mCons (mVar 5) (mCons (mC (.int 2)) mNil))) [5]) mNil))))) (mRet (mC (.bool false))) mSkip) m_is_true_log_3
def m_is_true_log : MS :=
  mSeq (mIfS (mOrT (mNotT (mTru (mCall S_are_whole_firsts [] (mCons (mVar 0) mNil)))) (mNotT (mTru (mCall S_are_whole_deeds [] (mCons (mVar 0) (mCons (mVar 1) mNil)))))) (mRet (mC (.bool false))) mSkip) m_is_true_log_2
def S_is_true_log : FS := runF 6 m_is_true_log
def m_law_5 : MS := mRet (mC (.bool true))
def m_law_4f16 : MS := mUnp (mCallI S__law_bent 1 (mCons (mVar 2) (mCons (mVar 4) (mCons (mVar 5) mNil)))) (gT [gN 4, gN 5])
def m_law_4f15 : MS := mSeq (mIfS (mB (mBin dNe (mComp (iRange1 (mLenV 4)) (gN 18) (mB (mBin dNe (mIxA (mIxAV 16 (mVar 18)) (mC (.int 3))) (mIf (mB (mBin dEq (mIxA (mIxAV 4 (mVar 18)) (mC (.int 3))) (mIxA (mIxAV 4 (mVar 18)) (mC (.int 1))))) (mIxA (mIxAV 16 (mVar 18)) (mC (.int 1))) (mIxA (mIxAV 4 (mVar 18)) (mC (.int 3)))))) (mVar 18) [18]) (mLst mNil))) (mRet (mC (.bool false))) mSkip) m_law_4f16
def m_law_4f14 : MS := mSeq (mIfS (mOrT (mNotT (mTru (mCall S__law_true [] (mCons (mVar 3) (mCons (mVar 16) (mCons (mVar 17) mNil)))))) (mB (mBin dNe (mComp (iOf dSeq (mVar 16)) (gN 22) mYes (mIxAV 22 (mC (.int 0))) [22]) (mComp (iOf dSeq (mVar 4)) (gN 22) mYes (mIxAV 22 (mC (.int 0))) [22])))) (mRet (mC (.bool false))) mSkip) m_law_4f15
def m_law_4f13 : MS := mSeq (mUnp (mCall S_mended_log [] (mCons (mVar 3) (mCons (mVar 4) mNil))) (gT [gN 16, gN 17])) m_law_4f14
def m_law_4f12a3 : MS := mIfS (mOrT (mAndT (mB (mCmpV dNe 15 (mBin (bInt gMul) (mVar 2) (mVar 2)))) (mTru (mVar 7))) (mAndT (mNotT (mTru (mVar 7))) (mB (mBin (bCmp pGt) (mVar 15) (mBin (bInt gMul) (mApply fMin2 (mCons (mVar 2) (mCons (mBin (bInt gMul) (mC (.int 2)) (mLenV 8)) mNil))) (mVar 2)))))) (mRet (mC (.bool false))) mSkip
def m_law_4f12a2 : MS := mSeq (mSet 15 (mUn dLen (mComp (iOf dSeq (mVar 14)) (gT [gN 11, gN 12]) (mB (mBin dEq (mCall S_log_judged [] (mCons (mVar 2) (mCons (mVar 3) (mCons (mVar 4) (mCons (mVar 5) (mCons (mVar 11) (mCons (mVar 12) mNil))))))) (mTup (mCons (mC (.str "passed")) mNil)))) (mC (.int 1)) [11, 12]))) m_law_4f12a3
def m_law_4f12a1 : MS := mSeq (mSet 14 (mCall S__law_pairs [] (mCons (mListRange (mVar 2)) (mCons (mListRange (mVar 2)) mNil)))) m_law_4f12a2
def m_law_4f12 : MS := mSeq (mIfS (mAndT (mB (mCmpV dEq 10 (mLst mNil))) (mAndT (mB (mBin (bCmp pLt) (mVar 2) (mC (.int 12)))) (mB (mBin (bCmp pLt) (mVar 6) (mC (.int 2)))))) m_law_4f12a1 mSkip) m_law_4f13
def m_law_4f11 : MS := mSeq (mIfS (mNotT (mTru (mCall (S__law_alike 40) [] (mCons (mCall S_log_loss [] (mCons (mVar 2) (mCons (mVar 3) (mCons (mVar 4) mNil)))) (mCons (mCall S__law_lowered [] (mCons (mApply fMin2 (mCons (mVar 2) (mCons (mBin (bInt gMul) (mC (.int 2)) (mLenV 8)) mNil))) (mCons (mVar 2) mNil))) mNil))))) (mRet (mC (.bool false))) mSkip) m_law_4f12
def m_law_4f10 : MS := mSeq (mIfS (mOrT (mAndT (mB (mCmpV dNe 10 (mLst mNil))) (mB (mCmpV dNe 13 (mTup (mCons (mC (.str "caught")) (mCons (mIxAV 10 (mC (.int 0))) (mCons (mC (.str "time")) mNil))))))) (mAndT (mTru (mVar 7)) (mB (mCmpV dNe 13 (mTup (mCons (mC (.str "passed")) mNil)))))) (mRet (mC (.bool false))) mSkip) m_law_4f11
def m_law_4f9 : MS := mSeq (mSet 13 (mCall S_log_judged [] (mCons (mVar 2) (mCons (mVar 3) (mCons (mVar 4) (mCons (mVar 5) (mCons (mVar 11) (mCons (mVar 12) mNil)))))))) m_law_4f10
def m_law_4f8 : MS := mSeq (mPar [11, 12] [(false, mCallI S__law_number 1 (mCons (mVar 2) mNil)), (false, mCallI S__law_number 1 (mCons (mVar 2) mNil))]) m_law_4f9
def m_law_4f7 : MS := mSeq (mIfS (mOrT (mB (mCmpV dNe 7 (mAndV (mCmpV dEq 10 (mLst mNil)) (mBin dEq (mUn dSorted (mVar 8)) (mUn dSorted (mVar 9)))))) (mB (mBin dNe (mCall S_is_same_bag [] (mCons (mVar 8) (mCons (mVar 9) mNil))) (mBin dEq (mUn dSorted (mVar 8)) (mUn dSorted (mVar 9)))))) (mRet (mC (.bool false))) mSkip) m_law_4f8
def m_law_4f6 : MS := mSeq (mIfS (mNotT (mTru (mCall (S__law_alike 40) [] (mCons (mCall S_late [] (mCons (mVar 4) mNil)) (mCons (mIf (mB (mCmpV dNe 10 (mLst mNil))) (mIxAV 10 (mC (.int 0))) (mC .none)) mNil))))) (mRet (mC (.bool false))) mSkip) m_law_4f7
def m_law_4f5 : MS := mSeq (mSetO 10 (mComp (iRange1 (mLenV 4)) (gN 18) (mB (mBin (bCmp pGe) (mIxA (mIxAV 4 (mVar 18)) (mC (.int 2))) (mBin dAdd (mVar 18) (mC (.int 1))))) (mVar 18) [18])) m_law_4f6
def m_law_4f4 : MS := mSeq (mIfS (mOrT (mNotT (mTru (mCall (S__law_alike 40) [] (mCons (mCall S_is_true_log [] (mCons (mVar 3) (mCons (mVar 4) (mCons (mVar 5) mNil)))) (mCons (mVar 7) mNil))))) (mNotT (mTru (mCall (S__law_alike 40) [] (mCons (mLst (mCons (mCall S_put_bag [] (mCons (mVar 3) (mCons (mVar 4) mNil))) (mCons (mCall S_taken_bag [] (mCons (mVar 4) (mCons (mVar 5) mNil))) mNil))) (mCons (mLst (mCons (mVar 8) (mCons (mVar 9) mNil))) mNil)))))) (mRet (mC (.bool false))) mSkip) m_law_4f5
def m_law_4f3 : MS := mSeq (mSet 9 (mApply fTuple (mCons (mBin dCatL (mComp (iOf dSeq (mVar 4)) (gN 21) mYes (mSlV 21 none (some (mC (.int 3)))) [21]) (mComp (iRange1 (mLenV 5)) (gN 19) mYes (mBin dAdd (mTup (mCons (mVar 19) mNil)) (mIxAV 5 (mVar 19))) [19])) mNil))) m_law_4f4
def m_law_4f2 : MS := mSeq (mSet 8 (mApply fTuple (mCons (mBin dCatL (mComp (iEn (mVar 3)) (gT [gN 19, gN 20]) mYes (mTup (mCons (mVar 19) (mCons (mVar 20) (mCons (mC (.int 0)) mNil)))) [19, 20]) (mComp (iRange1 (mLenV 4)) (gN 18) mYes (mTup (mCons (mIxA (mIxAV 4 (mVar 18)) (mC (.int 0))) (mCons (mIxA (mIxAV 4 (mVar 18)) (mC (.int 3))) (mCons (mBin dAdd (mVar 18) (mC (.int 1))) mNil)))) [18])) mNil))) m_law_4f3
def m_law_4f1 : MS := mSeq (mSet 7 (mCall S__law_true [] (mCons (mVar 3) (mCons (mVar 4) (mCons (mVar 5) mNil))))) m_law_4f2
def m_law_4 : MS := mSeq (mFor (iRange1 (mC (.int 3))) (gN 6) m_law_4f1) m_law_5
def m_law_3 : MS := mSeq (mUnp (mCallI S__law_log 1 (mCons (mVar 2) (mCons (mC (.int 5)) mNil))) (gT [gN 3, gN 4, gN 5])) m_law_4
def m_law_2 : MS := mSeq (mSet 2 (mCallI S__law_pick 1 (mCons (mLst (mCons (mC (.int 7)) (mCons (mC (.int 11)) (mCons (mC (.int 13)) (mCons (mC (.int 101)) (mCons (mC (.int 65537)) mNil)))))) mNil))) m_law_3
def m_law : MS :=
  mSeq (mSetO 1 (mLst (mCons (mVar 0) (mCons (mC (.int 0)) (mCons (mC (.int 5630)) (mCons (mC (.int 0)) mNil)))))) m_law_2
def S_law : FS := runF 23 m_law
end
/-! ### what the module's names stand for -/
structure Zs (K : PySem.W.Frag) (mg : Str → Option Value) : Prop where
  d__law_taken : HasD K mg "_law_taken" (top 48) []
  d__law_pick : HasD K mg "_law_pick" (top 49) []
  d__law_number : HasD K mg "_law_number" (top 51) []
  d__law_numbers : HasD K mg "_law_numbers" (top 52) []
  d__law_log : HasD K mg "_law_log" (top 55) []
  d__law_true : HasD K mg "_law_true" (top 54) []
  d_is_integer : HasD K mg "is_integer" (top 10) []
  d_is_from : HasD K mg "is_from" (top 11) []
  d_raised : HasD K mg "raised" (top 12) []
  d_passes : HasD K mg "passes" (top 13) []
  d_is_prime : HasD K mg "is_prime" (top 14) []
  d_need_prime : HasD K mg "need_prime" (top 15) [.int 5]
  d_is_number : HasD K mg "is_number" (top 16) []
  d_are_numbers : HasD K mg "are_numbers" (top 18) []
  d_need_log : HasD K mg "need_log" (top 33) []
  d_need_last : HasD K mg "need_last" (top 34) []
  d_need_number : HasD K mg "need_number" (top 17) []
  d_late : HasD K mg "late" (top 39) []
  d_packed_at : HasD K mg "packed_at" (top 24) []
  d_product_at : HasD K mg "product_at" (top 25) []
  d_put_bag : HasD K mg "put_bag" (top 37) []
  d_taken_bag : HasD K mg "taken_bag" (top 38) []
  d_log_judged : HasD K mg "log_judged" (top 40) []
  d_is_whole : HasD K mg "is_whole" (top 42) []
  d_are_whole_firsts : HasD K mg "are_whole_firsts" (top 43) []
  d_are_whole_deeds : HasD K mg "are_whole_deeds" (top 44) []
  d_mended_log : HasD K mg "mended_log" (top 45) []
  d__law_bent : HasD K mg "_law_bent" (top 56) []
  d__law_alike : HasD K mg "_law_alike" (top 50) []
  d__law_pairs : HasD K mg "_law_pairs" (top 47) []
  d_is_whole_triple : HasD K mg "is_whole_triple" (top 21) []
  d_is_any_bag : HasD K mg "is_any_bag" (top 22) []
  d_is_same_bag : HasD K mg "is_same_bag" (top 23) []
  d_common : HasD K mg "common" (top 27) []
  d_share : HasD K mg "share" (top 28) []
  d_log_loss : HasD K mg "log_loss" (top 41) []
  d__law_lowered : HasD K mg "_law_lowered" (top 53) []
  d_memory_behind : HasD K mg "memory_behind" (top 35) []
  d_is_true_log : HasD K mg "is_true_log" (top 36) []
  d_law : HasD K mg "law" (top 57) []
  f_abs : mg "abs" = none
  f_all : mg "all" = none
  f_any : mg "any" = none
  f_bool : mg "bool" = none
  f_dict : mg "dict" = none
  f_enumerate : mg "enumerate" = none
  f_int : mg "int" = none
  f_isinstance : mg "isinstance" = none
  f_len : mg "len" = none
  f_list : mg "list" = none
  f_min : mg "min" = none
  f_range : mg "range" = none
  f_sorted : mg "sorted" = none
  f_str : mg "str" = none
  f_tuple : mg "tuple" = none
  c_MOST_CELLS : GlI mg "MOST_CELLS" (.int 16)
  c_MOST_DEEDS : GlI mg "MOST_DEEDS" (.int 60)
  c_MOST_PRIME : GlI mg "MOST_PRIME" (.int 2147483647)
  c_MOST_TRIPLES : GlI mg "MOST_TRIPLES" (.int 200)
  c_BASES : GlT K mg "BASES" k_BASES
  v_PASSED : GlD K mg "PASSED" kv_PASSED
section
variable {P : Program} {w : World} {K : PySem.W.Frag} {mg : Str → Option Value} {base : Heap}
theorem sc__law_taken : FnScope (["_law_row", "_law_many", "_law_found", "_law_cell"] : List Str) (["_law_row", "_law_many"] : List Str) (defScope (top 48)) := C8.fnScope_by (by decide +kernel)
theorem ok__law_taken (z : Zs K mg) {f : Addr} {fd : FuncData} (D : FunD K "_law_taken" "_law_taken" (defArgs (top 48)) (defBody (top 48)) (defScope (top 48)) [] [] f fd) : FnOk P w K mg base CX0 1 f fd (["_law_row", "_law_many"] : List Str) (spI K 2 S__law_taken) :=
  okI D sc__law_taken fun cdv A outer s H E G hG hr => sCons (sIf (rGtT (rIxAV 0 rInt hr.units hG) rInt) (sCons (sSet 2 sc__law_taken.nd (rMod (rInt1 (rCons (rIxAV 0 rInt hr.units hG) rNil) z.f_int) (rVar 1)))
  (sCons (sSetA 0 rInt (rDiv (rIxAV 0 rInt hr.units hG) (rVar 1)) hr.units)
  (sOne (sRet (rVar 2))))) sNil)
  (sCons (sSetA 0 rInt (rAdd (rIxAV 0 rInt hr.units hG) rInt hG) hr.units)
  (sCons (sIf (rGtT (rIxAV 0 rInt hr.units hG) (rLen (rIxAV 0 rInt hr.units hG) z.f_len hG)) (sCons (sSetA 0 rInt (rMod (rInt1 (rCons (rAdd (rMul (rIxAV 0 rInt hr.units hG) rInt) rInt hG) rNil) z.f_int) rInt) hr.units)
  (sOne (sRet (rMod (rInt1 (rCons (rDiv (rIxAV 0 rInt hr.units hG) rInt) rNil) z.f_int) (rVar 1))))) sNil)
  (sCons (sSet 3 sc__law_taken.nd (rIxA_ (rIxAV 0 rInt hr.units hG) (rSub (rIxAV 0 rInt hr.units hG) rInt) hr.units hG))
  (sCons (sSetA 0 rInt (rMod (rInt1 (rCons (rAdd (rAdd (rMul (rIxAV 0 rInt hr.units hG) rInt) (rVar 3) hG) rInt hG) rNil) z.f_int) rInt) hr.units)
  (sCons (sIf (rGeT (rVar 3) (rPow rInt rInt)) (sOne (sSetA 0 rInt (rDiv (rVar 3) (rVar 1)) hr.units)) sNil)
  (sOne (sRet (rMod (rInt1 (rCons (rVar 3) rNil) z.f_int) (rVar 1)))))))))
theorem cal__law_taken (z : Zs K mg) : Cal P w K mg base 1 "_law_taken" (spI K 2 S__law_taken) [] := Cal.all z.d__law_taken (fun _ _ _ _ _ _ us hl => match us, hl with | [_, _], _ => rfl) fun f fd D _ => ok__law_taken z D
theorem sc__law_pick : FnScope (["_law_row", "_law_things"] : List Str) (["_law_row", "_law_things"] : List Str) (defScope (top 49)) := C8.fnScope_by (by decide +kernel)
theorem ok__law_pick (z : Zs K mg) {f : Addr} {fd : FuncData} (D : FunD K "_law_pick" "_law_pick" (defArgs (top 49)) (defBody (top 49)) (defScope (top 49)) [] [] f fd) : FnOk P w K mg base CX0 2 f fd (["_law_row", "_law_things"] : List Str) (spI K 2 S__law_pick) :=
  okI D sc__law_pick fun cdv A outer s H E G hG hr => sOne (sRet (rIxAV 1 (rCallI 0 ((cal__law_taken z).mono (by decide)) hr (rCons (rLenV 1 z.f_len hG) rNil) rfl hG) hr.units hG))
theorem cal__law_pick (z : Zs K mg) : Cal P w K mg base 2 "_law_pick" (spI K 2 S__law_pick) [] := Cal.all z.d__law_pick (fun _ _ _ _ _ _ us hl => match us, hl with | [_, _], _ => rfl) fun f fd D _ => ok__law_pick z D
theorem sc__law_number : FnScope (["_law_row", "_law_p", "_law_way"] : List Str) (["_law_row", "_law_p"] : List Str) (defScope (top 51)) := C8.fnScope_by (by decide +kernel)
theorem ok__law_number (z : Zs K mg) {f : Addr} {fd : FuncData} (D : FunD K "_law_number" "_law_number" (defArgs (top 51)) (defBody (top 51)) (defScope (top 51)) [] [] f fd) : FnOk P w K mg base CX0 2 f fd (["_law_row", "_law_p"] : List Str) (spI K 2 S__law_number) :=
  okI D sc__law_number fun cdv A outer s H E G hG hr => sCons (sSet 2 sc__law_number.nd (rCallI 0 ((cal__law_taken z).mono (by decide)) hr (rCons rInt rNil) rfl hG))
  (sCons (sIf (rLtT (rVar 2) rInt) (sOne (sRet (rIxA_ (rFz (rLst (rCons rInt (rCons rInt (rCons (rSub (rVar 1) rInt) rNil))))) (rVar 2) hr.units hG))) sNil)
  (sOne (sRet (rMod (rAdd (rMul (rCallI 0 ((cal__law_taken z).mono (by decide)) hr (rCons rInt rNil) rfl hG) rInt) (rCallI 0 ((cal__law_taken z).mono (by decide)) hr (rCons rInt rNil) rfl hG) hG) (rVar 1)))))
theorem cal__law_number (z : Zs K mg) : Cal P w K mg base 2 "_law_number" (spI K 2 S__law_number) [] := Cal.all z.d__law_number (fun _ _ _ _ _ _ us hl => match us, hl with | [_, _], _ => rfl) fun f fd D _ => ok__law_number z D
theorem sc__law_numbers : FnScope (["_law_row", "_law_p", "_law_many", "_law_at"] : List Str) (["_law_row", "_law_p", "_law_many"] : List Str) (defScope (top 52)) := C8.fnScope_by (by decide +kernel)
theorem ok__law_numbers (z : Zs K mg) {f : Addr} {fd : FuncData} (D : FunD K "_law_numbers" "_law_numbers" (defArgs (top 52)) (defBody (top 52)) (defScope (top 52)) [] [] f fd) : FnOk P w K mg base CX0 3 f fd (["_law_row", "_law_p", "_law_many"] : List Str) (spI K 3 S__law_numbers) :=
  okI D sc__law_numbers fun cdv A outer s H E G hG hr => sOne (sRet (rTuple (rCons (rFz (rLc rfl sc__law_numbers.nd (wRange1 (rVar 2) (hm := z.f_range)) (own := [("_law_at", 3)]) (blkOk_by (by rfl)) (fun _ _ _ _ _ => tgName 3 sc__law_numbers.nd) (fun _ _ _ _ _ => tsNil) (fun _ _ _ _ _ => rCallI 0 ((cal__law_number z).mono (by decide)) hr (rCons (rVar 1) rNil) rfl hG))) rNil) z.f_tuple hG))
theorem cal__law_numbers (z : Zs K mg) : Cal P w K mg base 3 "_law_numbers" (spI K 3 S__law_numbers) [] := Cal.all z.d__law_numbers (fun _ _ _ _ _ _ us hl => match us, hl with | [_, _, _], _ => rfl) fun f fd D _ => ok__law_numbers z D
theorem sc__law_log : FnScope (["_law_row", "_law_p", "_law_most", "_law_first", "_law_deeds", "_law_now", "_law_at", "_law_cell", "_law_new", "_law_value"] : List Str) (["_law_row", "_law_p", "_law_most"] : List Str) (defScope (top 55)) := C8.fnScope_by (by decide +kernel)
theorem ok__law_log (z : Zs K mg) {f : Addr} {fd : FuncData} (D : FunD K "_law_log" "_law_log" (defArgs (top 55)) (defBody (top 55)) (defScope (top 55)) [] [] f fd) : FnOk P w K mg base CX0 4 f fd (["_law_row", "_law_p", "_law_most"] : List Str) (spI K 3 S__law_log) :=
  okI D sc__law_log fun cdv A outer s H E G hG hr => sCons (sPar2 3 4 rfl sc__law_log.nd (afCons (rCallI 0 ((cal__law_numbers z).mono (by decide)) hr (rCons (rVar 1) (rCons (rAdd rInt (rCallI 0 ((cal__law_taken z).mono (by decide)) hr (rCons rInt rNil) rfl hG) hG) rNil)) rfl hG) (afConsO (rLst rNil) afNil)) rfl (by rfl))
  (sCons (sSetLc 5 rfl sc__law_log.nd (wSeq (rVar 3) hG) (own := [("_law_value", 9)]) (blkOk_by (by rfl)) (fun _ _ _ _ _ => tgName 9 sc__law_log.nd) (fun _ _ _ _ _ => tsNil) (fun _ _ _ _ _ => rTup (rCons (rVar 9) (rCons rInt rNil))) (sw_true rfl rfl rfl (by decide +kernel)))
  (sCons (sFor PassesOwn.never rfl (wRange1 (rCallI 0 ((cal__law_taken z).mono (by decide)) hr (rCons (rAdd (rVar 2) rInt hG) rNil) rfl hG) (hm := z.f_range)) (tgName 6 sc__law_log.nd) (sCons (sSet 7 sc__law_log.nd (rCallI 0 ((cal__law_taken z).mono (by decide)) hr (rCons (rLenV 3 z.f_len hG) rNil) rfl hG))
  (sCons (sSet 8 sc__law_log.nd (rCallI 0 ((cal__law_pick z).mono (by decide)) hr (rCons (rFz (rLst (rCons (rIxA_ (rIxAV 5 (rVar 7) hr.units hG) rInt hr.units hG) (rCons (rCallI 0 ((cal__law_number z).mono (by decide)) hr (rCons (rVar 1) rNil) rfl hG) rNil)))) rNil) rfl hG))
  (sCons (sApp 4 (rAdd (rAdd (rTup (rCons (rVar 7) rNil)) (rIxAV 5 (rVar 7) hr.units hG) hG) (rTup (rCons (rVar 8) rNil)) hG) hG)
  (sOne (sSetA 5 (rVar 7) (rTup (rCons (rVar 8) (rCons (rAdd (rVar 6) rInt hG) rNil))) hr.units))))))
  (sOne (sRet (rTup (rCons (rVar 3) (rCons (rTuple (rCons (rVar 4) rNil) z.f_tuple hG) (rCons (rTuple (rCons (rVar 5) rNil) z.f_tuple hG) rNil))))))))
theorem cal__law_log (z : Zs K mg) : Cal P w K mg base 4 "_law_log" (spI K 3 S__law_log) [] := Cal.all z.d__law_log (fun _ _ _ _ _ _ us hl => match us, hl with | [_, _, _], _ => rfl) fun f fd D _ => ok__law_log z D
theorem sc__law_true : FnScope (["_law_first", "_law_deeds", "_law_last", "_law_now", "_law_at", "_law_cell", "_law_old", "_law_told", "_law_new", "_law_value"] : List Str) (["_law_first", "_law_deeds", "_law_last"] : List Str) (defScope (top 54)) := C8.fnScope_by (by decide +kernel)
theorem ok__law_true (z : Zs K mg) {f : Addr} {fd : FuncData} (D : FunD K "_law_true" "_law_true" (defArgs (top 54)) (defBody (top 54)) (defScope (top 54)) [] [] f fd) : FnOk P w K mg base CX0 1 f fd (["_law_first", "_law_deeds", "_law_last"] : List Str) (spF K 3 S__law_true) :=
  okF D sc__law_true fun cdv A outer s H E G hG hr => sCons (sSetLc 3 rfl sc__law_true.nd (wSeq (rVar 0) hG) (own := [("_law_value", 9)]) (blkOk_by (by rfl)) (fun _ _ _ _ _ => tgName 9 sc__law_true.nd) (fun _ _ _ _ _ => tsNil) (fun _ _ _ _ _ => rTup (rCons (rVar 9) (rCons rInt rNil))) (sw_true rfl rfl rfl (by decide +kernel)))
  (sCons (sFor PassesOwn.never rfl (wEn (rVar 1) hG (hm := z.f_enumerate)) (tgTup rfl (tgCons (tgName 4 sc__law_true.nd) (tgCons (tgTup rfl (tgCons (tgName 5 sc__law_true.nd) (tgCons (tgName 6 sc__law_true.nd) (tgCons (tgName 7 sc__law_true.nd) (tgCons (tgName 8 sc__law_true.nd) tgNil)))) hG) tgNil)) hG) (sCons (sIf (rNeT (rIxAV 3 (rVar 5) hr.units hG) (rTup (rCons (rVar 6) (rCons (rVar 7) rNil))) hr.units hG) (sOne (sRet rBl)) sNil)
  (sOne (sSetA 3 (rVar 5) (rTup (rCons (rVar 8) (rCons (rAdd (rVar 4) rInt hG) rNil))) hr.units))))
  (sOne (sRet (rEq (rTuple (rCons (rVar 3) rNil) z.f_tuple hG) (rVar 2) hr.units hG))))
theorem cal__law_true (z : Zs K mg) : Cal P w K mg base 1 "_law_true" (spF K 3 S__law_true) [] := Cal.all z.d__law_true (fun _ _ _ _ _ _ us hl => match us, hl with | [_, _, _], _ => rfl) fun f fd D _ => ok__law_true z D
theorem sc_is_integer : FnScope (["value"] : List Str) (["value"] : List Str) (defScope (top 10)) := C8.fnScope_by (by decide +kernel)
theorem ok_is_integer (z : Zs K mg) {f : Addr} {fd : FuncData} (D : FunD K "is_integer" "is_integer" (defArgs (top 10)) (defBody (top 10)) (defScope (top 10)) [] [] f fd) : FnOk P w K mg base CX0 1 f fd (["value"] : List Str) (spF K 1 S_is_integer) :=
  okF D sc_is_integer fun cdv A outer s H E G hG hr => sOne (sRet (rAndV (rIsi (n := "int") (rVar 0) z.f_isinstance z.f_int (by decide +kernel) hG) (rOne (rNotV (rIsi (n := "bool") (rVar 0) z.f_isinstance z.f_bool (by decide +kernel) hG)))))
theorem cal_is_integer (z : Zs K mg) : Cal P w K mg base 1 "is_integer" (spF K 1 S_is_integer) [] := Cal.all z.d_is_integer (fun _ _ _ _ _ _ us hl => match us, hl with | [_], _ => rfl) fun f fd D _ => ok_is_integer z D
theorem sc_is_from : FnScope (["value", "low", "high"] : List Str) (["value", "low", "high"] : List Str) (defScope (top 11)) := C8.fnScope_by (by decide +kernel)
theorem ok_is_from (z : Zs K mg) {f : Addr} {fd : FuncData} (D : FunD K "is_from" "is_from" (defArgs (top 11)) (defBody (top 11)) (defScope (top 11)) [] [] f fd) : FnOk P w K mg base CX0 2 f fd (["value", "low", "high"] : List Str) (spF K 3 S_is_from) :=
  okF D sc_is_from fun cdv A outer s H E G hG hr => sOne (sRet (rAndV (rCall ((cal_is_integer z).mono (by decide)) hr (rCons (rVar 0) rNil) rfl hG) (rOne (rChain op_le Op2b_cmp op_le Op2_cmp (rVar 1) (rVar 0) (rVar 2)))))
theorem cal_is_from (z : Zs K mg) : Cal P w K mg base 2 "is_from" (spF K 3 S_is_from) [] := Cal.all z.d_is_from (fun _ _ _ _ _ _ us hl => match us, hl with | [_, _, _], _ => rfl) fun f fd D _ => ok_is_from z D
theorem sc_raised : FnScope (["p", "base", "times", "found"] : List Str) (["p", "base", "times"] : List Str) (defScope (top 12)) := C8.fnScope_by (by decide +kernel)
theorem ok_raised (z : Zs K mg) {f : Addr} {fd : FuncData} (D : FunD K "raised" "raised" (defArgs (top 12)) (defBody (top 12)) (defScope (top 12)) [] [] f fd) : FnOk P w K mg base CX0 1 f fd (["p", "base", "times"] : List Str) (spF K 3 S_raised) :=
  okF D sc_raised fun cdv A outer s H E G hG hr => sCons (sPar2 3 1 rfl sc_raised.nd (afCons rInt (afCons (rMod (rVar 1) (rVar 0)) afNil)) rfl (by rfl))
  (sCons (sWhile 4096 PassesOwn.never (rGtT (rVar 2) rInt) (sCons (sIf (rEqT (rMod (rVar 2) rInt) rInt hr.units hG) (sOne (sSet 3 sc_raised.nd (rMod (rMul (rVar 3) (rVar 1)) (rVar 0)))) sNil)
  (sOne (sPar2 1 2 rfl sc_raised.nd (afCons (rMod (rMul (rVar 1) (rVar 1)) (rVar 0)) (afCons (rDiv (rVar 2) rInt) afNil)) rfl (by rfl)))))
  (sOne (sRet (rVar 3))))
theorem cal_raised (z : Zs K mg) : Cal P w K mg base 1 "raised" (spF K 3 S_raised) [] := Cal.all z.d_raised (fun _ _ _ _ _ _ us hl => match us, hl with | [_, _, _], _ => rfl) fun f fd D _ => ok_raised z D
theorem sc_passes : FnScope (["value", "base", "times", "twos", "found", "turn"] : List Str) (["value", "base"] : List Str) (defScope (top 13)) := C8.fnScope_by (by decide +kernel)
theorem ok_passes (z : Zs K mg) {f : Addr} {fd : FuncData} (D : FunD K "passes" "passes" (defArgs (top 13)) (defBody (top 13)) (defScope (top 13)) [] [] f fd) : FnOk P w K mg base CX0 2 f fd (["value", "base"] : List Str) (spF K 2 S_passes) :=
  okF D sc_passes fun cdv A outer s H E G hG hr => sCons (sPar2 2 3 rfl sc_passes.nd (afCons (rSub (rVar 0) rInt) (afCons rInt afNil)) rfl (by rfl))
  (sCons (sWhile 4096 PassesOwn.never (rEqT (rMod (rVar 2) rInt) rInt hr.units hG) (sOne (sPar2 2 3 rfl sc_passes.nd (afCons (rDiv (rVar 2) rInt) (afCons (rAdd (rVar 3) rInt hG) afNil)) rfl (by rfl))))
  (sCons (sSet 4 sc_passes.nd (rCall ((cal_raised z).mono (by decide)) hr (rCons (rVar 0) (rCons (rVar 1) (rCons (rVar 2) rNil))) rfl hG))
  (sCons (sIf (rInAT (rVar 4) (rTup (rCons rInt (rCons (rSub (rVar 0) rInt) rNil))) hr.units hG) (sOne (sRet rBl)) sNil)
  (sCons (sFor PassesOwn.never rfl (wRange1 (rSub (rVar 3) rInt) (hm := z.f_range)) (tgName 5 sc_passes.nd) (sCons (sSet 4 sc_passes.nd (rMod (rMul (rVar 4) (rVar 4)) (rVar 0)))
  (sOne (sIf (rEqVT 4 (rSub (rVar 0) rInt) hr.units hG) (sOne (sRet rBl)) sNil))))
  (sOne (sRet rBl))))))
theorem cal_passes (z : Zs K mg) : Cal P w K mg base 2 "passes" (spF K 2 S_passes) [] := Cal.all z.d_passes (fun _ _ _ _ _ _ us hl => match us, hl with | [_, _], _ => rfl) fun f fd D _ => ok_passes z D
theorem sc_is_prime : FnScope (["value", "base"] : List Str) (["value"] : List Str) (defScope (top 14)) := C8.fnScope_by (by decide +kernel)
theorem ok_is_prime (z : Zs K mg) {f : Addr} {fd : FuncData} (D : FunD K "is_prime" "is_prime" (defArgs (top 14)) (defBody (top 14)) (defScope (top 14)) [] [] f fd) : FnOk P w K mg base CX0 3 f fd (["value"] : List Str) (spF K 1 S_is_prime) :=
  okF D sc_is_prime fun cdv A outer s H E G hG hr => sCons (sIf (rNotT (rTru (rCall ((cal_is_from z).mono (by decide)) hr (rCons (rVar 0) (rCons rInt (rCons (rGlN z.c_MOST_PRIME) rNil))) rfl hG) hG)) (sOne (sRet rBl)) sNil)
  (sCons (sIf (cInT z.c_BASES (rVar 0) (by decide) hG) (sOne (sRet rBl)) sNil)
  (sCons (sIf (rTru (rAny rfl (rCons (rFz (rLc rfl sc_is_prime.nd (cWalk z.c_BASES (by decide) hG) (own := [("base", 1)]) (blkOk_by (by rfl)) (fun _ _ _ _ _ => tgName 1 sc_is_prime.nd) (fun _ _ _ _ _ => tsNil) (fun _ _ _ _ _ => rEq (rMod (rVar 0) (rVar 1)) rInt hr.units hG))) rNil) z.f_any hG) hG) (sOne (sRet rBl)) sNil)
  (sOne (sRet (rAll rfl (rCons (rFz (rLc rfl sc_is_prime.nd (cWalk z.c_BASES (by decide) hG) (own := [("base", 1)]) (blkOk_by (by rfl)) (fun _ _ _ _ _ => tgName 1 sc_is_prime.nd) (fun _ _ _ _ _ => tsNil) (fun _ _ _ _ _ => rCall ((cal_passes z).mono (by decide)) hr (rCons (rVar 0) (rCons (rVar 1) rNil)) rfl hG))) rNil) z.f_all hG)))))
theorem cal_is_prime (z : Zs K mg) : Cal P w K mg base 3 "is_prime" (spF K 1 S_is_prime) [] := Cal.all z.d_is_prime (fun _ _ _ _ _ _ us hl => match us, hl with | [_], _ => rfl) fun f fd D _ => ok_is_prime z D
theorem sc_need_prime : FnScope (["p", "least"] : List Str) (["p", "least"] : List Str) (defScope (top 15)) := C8.fnScope_by (by decide +kernel)
theorem ok_need_prime (z : Zs K mg) {f : Addr} {fd : FuncData} (D : FunD K "need_prime" "need_prime" (defArgs (top 15)) (defBody (top 15)) (defScope (top 15)) [.int 5] [] f fd) : FnOk P w K mg base CX0 4 f fd (["p", "least"] : List Str) (spF K 2 S_need_prime) :=
  okF D sc_need_prime fun cdv A outer s H E G hG hr => sOne (sIf (PW.pt (rOrT (rNotT (rTru (rCall ((cal_is_prime z).mono (by decide)) hr (rCons (rVar 0) rNil) rfl hG) hG)) (rOr1 (rLtT (rVar 0) (rVar 1))))) (sOne sStuck) sNil)
theorem cal1_need_prime (z : Zs K mg) : Cal P w K mg base 4 "need_prime" (spF K 2 S_need_prime) [.int 5] := Cal.dfl 1 0 z.d_need_prime (by simp) rfl (fun _ _ _ _ _ _ _ us its hu hi => match us, its, hu, hi with | [_], [_], _, _ => ⟨_, rfl, rfl⟩) (fun _ => .cons (by constructor) .nil) fun f fd D _ => ok_need_prime z D
theorem sc_is_number : FnScope (["p", "value"] : List Str) (["p", "value"] : List Str) (defScope (top 16)) := C8.fnScope_by (by decide +kernel)
theorem ok_is_number (z : Zs K mg) {f : Addr} {fd : FuncData} (D : FunD K "is_number" "is_number" (defArgs (top 16)) (defBody (top 16)) (defScope (top 16)) [] [] f fd) : FnOk P w K mg base CX0 3 f fd (["p", "value"] : List Str) (spF K 2 S_is_number) :=
  okF D sc_is_number fun cdv A outer s H E G hG hr => sOne (sRet (rCall ((cal_is_from z).mono (by decide)) hr (rCons (rVar 1) (rCons rInt (rCons (rSub (rVar 0) rInt) rNil))) rfl hG))
theorem cal_is_number (z : Zs K mg) : Cal P w K mg base 3 "is_number" (spF K 2 S_is_number) [] := Cal.all z.d_is_number (fun _ _ _ _ _ _ us hl => match us, hl with | [_, _], _ => rfl) fun f fd D _ => ok_is_number z D
theorem sc_are_numbers : FnScope (["p", "value", "low", "high", "one"] : List Str) (["p", "value", "low", "high"] : List Str) (defScope (top 18)) := C8.fnScope_by (by decide +kernel)
theorem ok_are_numbers (z : Zs K mg) {f : Addr} {fd : FuncData} (D : FunD K "are_numbers" "are_numbers" (defArgs (top 18)) (defBody (top 18)) (defScope (top 18)) [] [] f fd) : FnOk P w K mg base CX0 4 f fd (["p", "value", "low", "high"] : List Str) (spF K 4 S_are_numbers) :=
  okF D sc_are_numbers fun cdv A outer s H E G hG hr => sOne (sRet (rAndV (rIsi (n := "tuple") (rVar 1) z.f_isinstance z.f_tuple (by decide +kernel) hG) (rAndV (rChain op_le Op2b_cmp op_le Op2_cmp (rVar 2) (rLenV 1 z.f_len hG) (rVar 3)) (rOne (rAll rfl (rCons (rFz (rLc rfl sc_are_numbers.nd (wSeq (rVar 1) hG) (own := [("one", 4)]) (blkOk_by (by rfl)) (fun _ _ _ _ _ => tgName 4 sc_are_numbers.nd) (fun _ _ _ _ _ => tsNil) (fun _ _ _ _ _ => rCall ((cal_is_number z).mono (by decide)) hr (rCons (rVar 0) (rCons (rVar 4) rNil)) rfl hG))) rNil) z.f_all hG)))))
theorem cal_are_numbers (z : Zs K mg) : Cal P w K mg base 4 "are_numbers" (spF K 4 S_are_numbers) [] := Cal.all z.d_are_numbers (fun _ _ _ _ _ _ us hl => match us, hl with | [_, _, _, _], _ => rfl) fun f fd D _ => ok_are_numbers z D
theorem sc_need_log : FnScope (["p", "first", "deeds", "deed"] : List Str) (["p", "first", "deeds"] : List Str) (defScope (top 33)) := C8.fnScope_by (by decide +kernel)
theorem ok_need_log (z : Zs K mg) {f : Addr} {fd : FuncData} (D : FunD K "need_log" "need_log" (defArgs (top 33)) (defBody (top 33)) (defScope (top 33)) [] [] f fd) : FnOk P w K mg base CX0 5 f fd (["p", "first", "deeds"] : List Str) (spF K 3 S_need_log) :=
  okF D sc_need_log fun cdv A outer s H E G hG hr => sCons (sIf (rNotT (rTru (rCall ((cal_are_numbers z).mono (by decide)) hr (rCons (rVar 0) (rCons (rVar 1) (rCons rInt (rCons (rGlN z.c_MOST_CELLS) rNil)))) rfl hG) hG)) (sOne sStuck) sNil)
  (sCons (sIf (PW.pt (rOrT (rNotT (rTru (rIsi (n := "tuple") (rVar 2) z.f_isinstance z.f_tuple (by decide +kernel) hG) hG)) (rOrT (rGtT (rLenV 2 z.f_len hG) (rGlN z.c_MOST_DEEDS)) (rOr1 (rGeT (rLenV 2 z.f_len hG) (rVar 0)))))) (sOne sStuck) sNil)
  (sOne (sIf (rNotT (rTru (rAll rfl (rCons (rFz (rLc rfl sc_need_log.nd (wSeq (rVar 2) hG) (own := [("deed", 3)]) (blkOk_by (by rfl)) (fun _ _ _ _ _ => tgName 3 sc_need_log.nd) (fun _ _ _ _ _ => tsNil) (fun _ _ _ _ _ => rAndV (rCall ((cal_are_numbers z).mono (by decide)) hr (rCons (rVar 0) (rCons (rVar 3) (rCons rInt (rCons rInt rNil)))) rfl hG) (rOne (rLt (rIxAV 3 rInt hr.units hG) (rLenV 1 z.f_len hG)))))) rNil) z.f_all hG) hG)) (sOne sStuck) sNil)))
theorem cal_need_log (z : Zs K mg) : Cal P w K mg base 5 "need_log" (spF K 3 S_need_log) [] := Cal.all z.d_need_log (fun _ _ _ _ _ _ us hl => match us, hl with | [_, _, _], _ => rfl) fun f fd D _ => ok_need_log z D
theorem sc_need_last : FnScope (["p", "first", "last", "pair"] : List Str) (["p", "first", "last"] : List Str) (defScope (top 34)) := C8.fnScope_by (by decide +kernel)
theorem ok_need_last (z : Zs K mg) {f : Addr} {fd : FuncData} (D : FunD K "need_last" "need_last" (defArgs (top 34)) (defBody (top 34)) (defScope (top 34)) [] [] f fd) : FnOk P w K mg base CX0 5 f fd (["p", "first", "last"] : List Str) (spF K 3 S_need_last) :=
  okF D sc_need_last fun cdv A outer s H E G hG hr => sOne (sIf (PW.pt (rOrT (rNotT (rTru (rIsi (n := "tuple") (rVar 2) z.f_isinstance z.f_tuple (by decide +kernel) hG) hG)) (rOrT (rNeT (rLenV 2 z.f_len hG) (rLenV 1 z.f_len hG) hr.units hG) (rOr1 (rNotT (rTru (rAll rfl (rCons (rFz (rLc rfl sc_need_last.nd (wSeq (rVar 2) hG) (own := [("pair", 3)]) (blkOk_by (by rfl)) (fun _ _ _ _ _ => tgName 3 sc_need_last.nd) (fun _ _ _ _ _ => tsNil) (fun _ _ _ _ _ => rCall ((cal_are_numbers z).mono (by decide)) hr (rCons (rVar 0) (rCons (rVar 3) (rCons rInt (rCons rInt rNil)))) rfl hG))) rNil) z.f_all hG) hG)))))) (sOne sStuck) sNil)
theorem cal_need_last (z : Zs K mg) : Cal P w K mg base 5 "need_last" (spF K 3 S_need_last) [] := Cal.all z.d_need_last (fun _ _ _ _ _ _ us hl => match us, hl with | [_, _, _], _ => rfl) fun f fd D _ => ok_need_last z D
theorem sc_need_number : FnScope (["p", "value"] : List Str) (["p", "value"] : List Str) (defScope (top 17)) := C8.fnScope_by (by decide +kernel)
theorem ok_need_number (z : Zs K mg) {f : Addr} {fd : FuncData} (D : FunD K "need_number" "need_number" (defArgs (top 17)) (defBody (top 17)) (defScope (top 17)) [] [] f fd) : FnOk P w K mg base CX0 4 f fd (["p", "value"] : List Str) (spF K 2 S_need_number) :=
  okF D sc_need_number fun cdv A outer s H E G hG hr => sOne (sIf (rNotT (rTru (rCall ((cal_is_number z).mono (by decide)) hr (rCons (rVar 0) (rCons (rVar 1) rNil)) rfl hG) hG)) (sOne sStuck) sNil)
theorem cal_need_number (z : Zs K mg) : Cal P w K mg base 4 "need_number" (spF K 2 S_need_number) [] := Cal.all z.d_need_number (fun _ _ _ _ _ _ us hl => match us, hl with | [_, _], _ => rfl) fun f fd D _ => ok_need_number z D
theorem sc_late : FnScope (["deeds", "at", "deed"] : List Str) (["deeds"] : List Str) (defScope (top 39)) := C8.fnScope_by (by decide +kernel)
theorem ok_late (z : Zs K mg) {f : Addr} {fd : FuncData} (D : FunD K "late" "late" (defArgs (top 39)) (defBody (top 39)) (defScope (top 39)) [] [] f fd) : FnOk P w K mg base CX0 1 f fd (["deeds"] : List Str) (spF K 1 S_late) :=
  okF D sc_late fun cdv A outer s H E G hG hr => sCons (sFor PassesOwn.never rfl (wEn (rVar 0) hG (hm := z.f_enumerate)) (tgTup rfl (tgCons (tgName 1 sc_late.nd) (tgCons (tgName 2 sc_late.nd) tgNil)) hG) (sOne (sIf (rGtT (rIxAV 2 rInt hr.units hG) (rVar 1)) (sOne (sRet (rVar 1))) sNil)))
  (sOne (sRet rNon))
theorem cal_late (z : Zs K mg) : Cal P w K mg base 1 "late" (spF K 1 S_late) [] := Cal.all z.d_late (fun _ _ _ _ _ _ us hl => match us, hl with | [_], _ => rfl) fun f fd D _ => ok_late z D
theorem sc_packed_at : FnScope (["p", "triple", "w"] : List Str) (["p", "triple", "w"] : List Str) (defScope (top 24)) := C8.fnScope_by (by decide +kernel)
theorem ok_packed_at (z : Zs K mg) {f : Addr} {fd : FuncData} (D : FunD K "packed_at" "packed_at" (defArgs (top 24)) (defBody (top 24)) (defScope (top 24)) [] [] f fd) : FnOk P w K mg base CX0 1 f fd (["p", "triple", "w"] : List Str) (spF K 3 S_packed_at) :=
  okF D sc_packed_at fun cdv A outer s H E G hG hr => sOne (sRet (rMod (rAdd (rAdd (rIxAV 1 rInt hr.units hG) (rMul (rIxAV 1 rInt hr.units hG) (rVar 2)) hG) (rMul (rMul (rIxAV 1 rInt hr.units hG) (rVar 2)) (rVar 2)) hG) (rVar 0)))
theorem cal_packed_at (z : Zs K mg) : Cal P w K mg base 1 "packed_at" (spF K 3 S_packed_at) [] := Cal.all z.d_packed_at (fun _ _ _ _ _ _ us hl => match us, hl with | [_, _, _], _ => rfl) fun f fd D _ => ok_packed_at z D
theorem sc_product_at : FnScope (["p", "bag", "z", "w", "found", "triple"] : List Str) (["p", "bag", "z", "w"] : List Str) (defScope (top 25)) := C8.fnScope_by (by decide +kernel)
theorem ok_product_at (z : Zs K mg) {f : Addr} {fd : FuncData} (D : FunD K "product_at" "product_at" (defArgs (top 25)) (defBody (top 25)) (defScope (top 25)) [] [] f fd) : FnOk P w K mg base CX0 2 f fd (["p", "bag", "z", "w"] : List Str) (spF K 4 S_product_at) :=
  okF D sc_product_at fun cdv A outer s H E G hG hr => sCons (sSet 4 sc_product_at.nd rInt)
  (sCons (sFor PassesOwn.never rfl (wSeq (rVar 1) hG) (tgName 5 sc_product_at.nd) (sOne (sSet 4 sc_product_at.nd (rMod (rMul (rVar 4) (rSub (rVar 2) (rCall ((cal_packed_at z).mono (by decide)) hr (rCons (rVar 0) (rCons (rVar 5) (rCons (rVar 3) rNil))) rfl hG))) (rVar 0)))))
  (sOne (sRet (rVar 4))))
theorem cal_product_at (z : Zs K mg) : Cal P w K mg base 2 "product_at" (spF K 4 S_product_at) [] := Cal.all z.d_product_at (fun _ _ _ _ _ _ us hl => match us, hl with | [_, _, _, _], _ => rfl) fun f fd D _ => ok_product_at z D
theorem sc_put_bag : FnScope (["first", "deeds", "found", "cell", "value", "at", "deed"] : List Str) (["first", "deeds"] : List Str) (defScope (top 37)) := C8.fnScope_by (by decide +kernel)
theorem ok_put_bag (z : Zs K mg) {f : Addr} {fd : FuncData} (D : FunD K "put_bag" "put_bag" (defArgs (top 37)) (defBody (top 37)) (defScope (top 37)) [] [] f fd) : FnOk P w K mg base CX0 1 f fd (["first", "deeds"] : List Str) (spF K 2 S_put_bag) :=
  okF D sc_put_bag fun cdv A outer s H E G hG hr => sCons (sSetLc 2 rfl sc_put_bag.nd (wEn (rVar 0) hG (hm := z.f_enumerate)) (own := [("cell", 3), ("value", 4)]) (blkOk_by (by rfl)) (fun _ _ _ _ _ => tgTup rfl (tgCons (tgName 3 sc_put_bag.nd) (tgCons (tgName 4 sc_put_bag.nd) tgNil)) hG) (fun _ _ _ _ _ => tsNil) (fun _ _ _ _ _ => rTup (rCons (rVar 3) (rCons (rVar 4) (rCons rInt rNil)))) (sw_true rfl rfl rfl (by decide +kernel)))
  (sOne (sRet (rTuple (rCons (rFz (rCatLO (rVar 2) (rFz (rLc rfl sc_put_bag.nd (wEn (rVar 1) hG (hm := z.f_enumerate)) (own := [("at", 5), ("deed", 6)]) (blkOk_by (by rfl)) (fun _ _ _ _ _ => tgTup rfl (tgCons (tgName 5 sc_put_bag.nd) (tgCons (tgName 6 sc_put_bag.nd) tgNil)) hG) (fun _ _ _ _ _ => tsNil) (fun _ _ _ _ _ => rTup (rCons (rIxAV 6 rInt hr.units hG) (rCons (rIxAV 6 rInt hr.units hG) (rCons (rAdd (rVar 5) rInt hG) rNil)))))) hG)) rNil) z.f_tuple hG)))
theorem cal_put_bag (z : Zs K mg) : Cal P w K mg base 1 "put_bag" (spF K 2 S_put_bag) [] := Cal.all z.d_put_bag (fun _ _ _ _ _ _ us hl => match us, hl with | [_, _], _ => rfl) fun f fd D _ => ok_put_bag z D
theorem sc_taken_bag : FnScope (["deeds", "last", "found", "cell", "old", "told", "new", "value", "time"] : List Str) (["deeds", "last"] : List Str) (defScope (top 38)) := C8.fnScope_by (by decide +kernel)
theorem ok_taken_bag (z : Zs K mg) {f : Addr} {fd : FuncData} (D : FunD K "taken_bag" "taken_bag" (defArgs (top 38)) (defBody (top 38)) (defScope (top 38)) [] [] f fd) : FnOk P w K mg base CX0 1 f fd (["deeds", "last"] : List Str) (spF K 2 S_taken_bag) :=
  okF D sc_taken_bag fun cdv A outer s H E G hG hr => sCons (sSetLc 2 rfl sc_taken_bag.nd (wSeq (rVar 0) hG) (own := [("cell", 3), ("old", 4), ("told", 5), ("new", 6)]) (blkOk_by (by rfl)) (fun _ _ _ _ _ => tgTup rfl (tgCons (tgName 3 sc_taken_bag.nd) (tgCons (tgName 4 sc_taken_bag.nd) (tgCons (tgName 5 sc_taken_bag.nd) (tgCons (tgName 6 sc_taken_bag.nd) tgNil)))) hG) (fun _ _ _ _ _ => tsNil) (fun _ _ _ _ _ => rTup (rCons (rVar 3) (rCons (rVar 4) (rCons (rVar 5) rNil)))) (sw_true rfl rfl rfl (by decide +kernel)))
  (sOne (sRet (rTuple (rCons (rFz (rCatLO (rVar 2) (rFz (rLc rfl sc_taken_bag.nd (wEn (rVar 1) hG (hm := z.f_enumerate)) (own := [("cell", 3), ("value", 7), ("time", 8)]) (blkOk_by (by rfl)) (fun _ _ _ _ _ => tgTup rfl (tgCons (tgName 3 sc_taken_bag.nd) (tgCons (tgTup rfl (tgCons (tgName 7 sc_taken_bag.nd) (tgCons (tgName 8 sc_taken_bag.nd) tgNil)) hG) tgNil)) hG) (fun _ _ _ _ _ => tsNil) (fun _ _ _ _ _ => rTup (rCons (rVar 3) (rCons (rVar 7) (rCons (rVar 8) rNil)))))) hG)) rNil) z.f_tuple hG)))
theorem cal_taken_bag (z : Zs K mg) : Cal P w K mg base 1 "taken_bag" (spF K 2 S_taken_bag) [] := Cal.all z.d_taken_bag (fun _ _ _ _ _ _ us hl => match us, hl with | [_, _], _ => rfl) fun f fd D _ => ok_taken_bag z D
theorem sc_log_judged : FnScope (["p", "first", "deeds", "last", "z", "w", "at"] : List Str) (["p", "first", "deeds", "last", "z", "w"] : List Str) (defScope (top 40)) := C8.fnScope_by (by decide +kernel)
theorem ok_log_judged (z : Zs K mg) {f : Addr} {fd : FuncData} (D : FunD K "log_judged" "log_judged" (defArgs (top 40)) (defBody (top 40)) (defScope (top 40)) [] [] f fd) : FnOk P w K mg base CX0 6 f fd (["p", "first", "deeds", "last", "z", "w"] : List Str) (spF K 6 S_log_judged) :=
  okF D sc_log_judged fun cdv A outer s H E G hG hr => sCons (sDo (rCall ((cal1_need_prime z).mono (by decide)) hr (rCons (rVar 0) rNil) rfl hG))
  (sCons (sDo (rCall ((cal_need_log z).mono (by decide)) hr (rCons (rVar 0) (rCons (rVar 1) (rCons (rVar 2) rNil))) rfl hG))
  (sCons (sDo (rCall ((cal_need_last z).mono (by decide)) hr (rCons (rVar 0) (rCons (rVar 1) (rCons (rVar 3) rNil))) rfl hG))
  (sCons (sDo (rCall ((cal_need_number z).mono (by decide)) hr (rCons (rVar 0) (rCons (rVar 4) rNil)) rfl hG))
  (sCons (sDo (rCall ((cal_need_number z).mono (by decide)) hr (rCons (rVar 0) (rCons (rVar 5) rNil)) rfl hG))
  (sCons (sSet 6 sc_log_judged.nd (rCall ((cal_late z).mono (by decide)) hr (rCons (rVar 2) rNil) rfl hG))
  (sCons (sIf (rNotNT (rVar 6)) (sOne (sRet (rTup (rCons rStr (rCons (rVar 6) (rCons rStr rNil)))))) sNil)
  (sCons (sIf (rNeT (rCall ((cal_product_at z).mono (by decide)) hr (rCons (rVar 0) (rCons (rCall ((cal_put_bag z).mono (by decide)) hr (rCons (rVar 1) (rCons (rVar 2) rNil)) rfl hG) (rCons (rVar 4) (rCons (rVar 5) rNil)))) rfl hG) (rCall ((cal_product_at z).mono (by decide)) hr (rCons (rVar 0) (rCons (rCall ((cal_taken_bag z).mono (by decide)) hr (rCons (rVar 2) (rCons (rVar 3) rNil)) rfl hG) (rCons (rVar 4) (rCons (rVar 5) rNil)))) rfl hG) hr.units hG) (sOne (sRet (rTup (rCons rStr (rCons (rLenV 2 z.f_len hG) (rCons rStr rNil)))))) sNil)
  (sOne (sRet (rGlD z.v_PASSED hG))))))))))
theorem cal_log_judged (z : Zs K mg) : Cal P w K mg base 6 "log_judged" (spF K 6 S_log_judged) [] := Cal.all z.d_log_judged (fun _ _ _ _ _ _ us hl => match us, hl with | [_, _, _, _, _, _], _ => rfl) fun f fd D _ => ok_log_judged z D
theorem sc_is_whole : FnScope (["value", "many", "one"] : List Str) (["value", "many"] : List Str) (defScope (top 42)) := C8.fnScope_by (by decide +kernel)
theorem ok_is_whole (z : Zs K mg) {f : Addr} {fd : FuncData} (D : FunD K "is_whole" "is_whole" (defArgs (top 42)) (defBody (top 42)) (defScope (top 42)) [] [] f fd) : FnOk P w K mg base CX0 2 f fd (["value", "many"] : List Str) (spF K 2 S_is_whole) :=
  okF D sc_is_whole fun cdv A outer s H E G hG hr => sOne (sRet (rAndV (rIsi (n := "tuple") (rVar 0) z.f_isinstance z.f_tuple (by decide +kernel) hG) (rAndV (rEq (rLenV 0 z.f_len hG) (rVar 1) hr.units hG) (rOne (rAll rfl (rCons (rFz (rLc rfl sc_is_whole.nd (wSeq (rVar 0) hG) (own := [("one", 2)]) (blkOk_by (by rfl)) (fun _ _ _ _ _ => tgName 2 sc_is_whole.nd) (fun _ _ _ _ _ => tsNil) (fun _ _ _ _ _ => rAndV (rCall ((cal_is_integer z).mono (by decide)) hr (rCons (rVar 2) rNil) rfl hG) (rOne (rGe (rVar 2) rInt))))) rNil) z.f_all hG)))))
theorem cal_is_whole (z : Zs K mg) : Cal P w K mg base 2 "is_whole" (spF K 2 S_is_whole) [] := Cal.all z.d_is_whole (fun _ _ _ _ _ _ us hl => match us, hl with | [_, _], _ => rfl) fun f fd D _ => ok_is_whole z D
theorem sc_are_whole_firsts : FnScope (["value"] : List Str) (["value"] : List Str) (defScope (top 43)) := C8.fnScope_by (by decide +kernel)
theorem ok_are_whole_firsts (z : Zs K mg) {f : Addr} {fd : FuncData} (D : FunD K "are_whole_firsts" "are_whole_firsts" (defArgs (top 43)) (defBody (top 43)) (defScope (top 43)) [] [] f fd) : FnOk P w K mg base CX0 3 f fd (["value"] : List Str) (spF K 1 S_are_whole_firsts) :=
  okF D sc_are_whole_firsts fun cdv A outer s H E G hG hr => sOne (sRet (rAndV (rIsi (n := "tuple") (rVar 0) z.f_isinstance z.f_tuple (by decide +kernel) hG) (rAndV (rChain op_le Op2b_cmp op_le Op2_cmp rInt (rLenV 0 z.f_len hG) (rGlN z.c_MOST_CELLS)) (rOne (rCall ((cal_is_whole z).mono (by decide)) hr (rCons (rVar 0) (rCons (rLenV 0 z.f_len hG) rNil)) rfl hG)))))
theorem cal_are_whole_firsts (z : Zs K mg) : Cal P w K mg base 3 "are_whole_firsts" (spF K 1 S_are_whole_firsts) [] := Cal.all z.d_are_whole_firsts (fun _ _ _ _ _ _ us hl => match us, hl with | [_], _ => rfl) fun f fd D _ => ok_are_whole_firsts z D
theorem sc_are_whole_deeds : FnScope (["first", "value", "deed"] : List Str) (["first", "value"] : List Str) (defScope (top 44)) := C8.fnScope_by (by decide +kernel)
theorem ok_are_whole_deeds (z : Zs K mg) {f : Addr} {fd : FuncData} (D : FunD K "are_whole_deeds" "are_whole_deeds" (defArgs (top 44)) (defBody (top 44)) (defScope (top 44)) [] [] f fd) : FnOk P w K mg base CX0 3 f fd (["first", "value"] : List Str) (spF K 2 S_are_whole_deeds) :=
  okF D sc_are_whole_deeds fun cdv A outer s H E G hG hr => sCons (sIf (PW.pt (rOrT (rNotT (rTru (rIsi (n := "tuple") (rVar 1) z.f_isinstance z.f_tuple (by decide +kernel) hG) hG)) (rOr1 (rGtT (rLenV 1 z.f_len hG) (rGlN z.c_MOST_DEEDS))))) (sOne (sRet rBl)) sNil)
  (sOne (sRet (rAll rfl (rCons (rFz (rLc rfl sc_are_whole_deeds.nd (wSeq (rVar 1) hG) (own := [("deed", 2)]) (blkOk_by (by rfl)) (fun _ _ _ _ _ => tgName 2 sc_are_whole_deeds.nd) (fun _ _ _ _ _ => tsNil) (fun _ _ _ _ _ => rAndV (rCall ((cal_is_whole z).mono (by decide)) hr (rCons (rVar 2) (rCons rInt rNil)) rfl hG) (rOne (rLt (rIxAV 2 rInt hr.units hG) (rLenV 0 z.f_len hG)))))) rNil) z.f_all hG)))
theorem cal_are_whole_deeds (z : Zs K mg) : Cal P w K mg base 3 "are_whole_deeds" (spF K 2 S_are_whole_deeds) [] := Cal.all z.d_are_whole_deeds (fun _ _ _ _ _ _ us hl => match us, hl with | [_, _], _ => rfl) fun f fd D _ => ok_are_whole_deeds z D
theorem sc_mended_log : FnScope (["first", "deeds", "now", "found", "at", "cell", "old", "told", "new", "kept", "time", "value"] : List Str) (["first", "deeds"] : List Str) (defScope (top 45)) := C8.fnScope_by (by decide +kernel)
theorem ok_mended_log (z : Zs K mg) {f : Addr} {fd : FuncData} (D : FunD K "mended_log" "mended_log" (defArgs (top 45)) (defBody (top 45)) (defScope (top 45)) [] [] f fd) : FnOk P w K mg base CX0 4 f fd (["first", "deeds"] : List Str) (spF K 2 S_mended_log) :=
  okF D sc_mended_log fun cdv A outer s H E G hG hr => sCons (sIf (rNotT (rTru (rCall ((cal_are_whole_firsts z).mono (by decide)) hr (rCons (rVar 0) rNil) rfl hG) hG)) (sOne sStuck) sNil)
  (sCons (sIf (rNotT (rTru (rCall ((cal_are_whole_deeds z).mono (by decide)) hr (rCons (rVar 0) (rCons (rVar 1) rNil)) rfl hG) hG)) (sOne sStuck) sNil)
  (sCons (sPar2 2 3 rfl sc_mended_log.nd (afConsO (rLc rfl sc_mended_log.nd (wSeq (rVar 0) hG) (own := [("value", 11)]) (blkOk_by (by rfl)) (fun _ _ _ _ _ => tgName 11 sc_mended_log.nd) (fun _ _ _ _ _ => tsNil) (fun _ _ _ _ _ => rTup (rCons (rVar 11) (rCons rInt rNil)))) (afConsO (rLst rNil) afNil)) rfl (by rfl))
  (sCons (sFor PassesOwn.never rfl (wEn (rVar 1) hG (hm := z.f_enumerate)) (tgTup rfl (tgCons (tgName 4 sc_mended_log.nd) (tgCons (tgTup rfl (tgCons (tgName 5 sc_mended_log.nd) (tgCons (tgName 6 sc_mended_log.nd) (tgCons (tgName 7 sc_mended_log.nd) (tgCons (tgName 8 sc_mended_log.nd) tgNil)))) hG) tgNil)) hG) (sCons (sUnp (rIxAV 2 (rVar 5) hr.units hG) (tgTup rfl (tgCons (tgName 9 sc_mended_log.nd) (tgCons (tgName 10 sc_mended_log.nd) tgNil)) hG))
  (sCons (sApp 3 (rTup (rCons (rVar 5) (rCons (rVar 9) (rCons (rVar 10) (rCons (rIf (rEqVT 8 (rVar 6) hr.units hG) (rVar 9) (rVar 8)) rNil))))) hG)
  (sOne (sSetA 2 (rVar 5) (rTup (rCons (rIxA_ (rIxAV 3 (rNeg rInt) hr.units hG) rInt hr.units hG) (rCons (rAdd (rVar 4) rInt hG) rNil))) hr.units)))))
  (sOne (sRet (rTup (rCons (rTuple (rCons (rVar 3) rNil) z.f_tuple hG) (rCons (rTuple (rCons (rVar 2) rNil) z.f_tuple hG) rNil))))))))
theorem cal_mended_log (z : Zs K mg) : Cal P w K mg base 4 "mended_log" (spF K 2 S_mended_log) [] := Cal.all z.d_mended_log (fun _ _ _ _ _ _ us hl => match us, hl with | [_, _], _ => rfl) fun f fd D _ => ok_mended_log z D
theorem sc__law_bent : FnScope (["_law_row", "_law_p", "_law_deeds", "_law_last", "_law_way", "_law_some", "_law_at", "_law_ends", "_law_to", "_law_deed", "_law_pair"] : List Str) (["_law_row", "_law_p", "_law_deeds", "_law_last"] : List Str) (defScope (top 56)) := C8.fnScope_by (by decide +kernel)
theorem ok__law_bent (z : Zs K mg) {f : Addr} {fd : FuncData} (D : FunD K "_law_bent" "_law_bent" (defArgs (top 56)) (defBody (top 56)) (defScope (top 56)) [] [] f fd) : FnOk P w K mg base CX0 3 f fd (["_law_row", "_law_p", "_law_deeds", "_law_last"] : List Str) (spI K 4 S__law_bent) :=
  okI D sc__law_bent fun cdv A outer s H E G hG hr => nsBodyW [1, 2, 3, 4, 5, 6, 7, 8, 9, 10] (nsCons (nsMake2 4 5 rfl sc__law_bent.nd (rCallI 0 ((cal__law_taken z).mono (by decide)) hr (rCons rInt rNil) rfl hG) (rLcN rfl sc__law_bent.nd (wSeq (rVar 2) hG) (own := [("_law_deed", 9)]) (blkOk_by (by rfl)) (fun _ _ _ _ _ => tgName 9 sc__law_bent.nd) (fun _ _ _ _ _ => tsNil) (fun _ _ _ _ _ => rListOf (rVar 9) z.f_list hG)) rfl)
  (nsCons (nsIfN (PW.pt (tnsOr (tnsLift (rEqVT 4 rInt hr.units hG)) (tnsOr1 (tnsEmp 5 hr.units hG)))) (nsCons (nsFrzN 5 (nsMake2 6 7 rfl sc__law_bent.nd (rCallI 0 ((cal__law_taken z).mono (by decide)) hr (rCons (rLenV 3 z.f_len hG) rNil) rfl hG) (rLcN rfl sc__law_bent.nd (wSeq (rVar 3) hG) (own := [("_law_pair", 10)]) (blkOk_by (by rfl)) (fun _ _ _ _ _ => tgName 10 sc__law_bent.nd) (fun _ _ _ _ _ => tsNil) (fun _ _ _ _ _ => rListOf (rVar 10) z.f_list hG)) rfl))
  (nsCons (nsSet2 7 (rVar 6) (rCallI 0 ((cal__law_taken z).mono (by decide)) hr (rCons rInt rNil) rfl hG) (rCallI 0 ((cal__law_number z).mono (by decide)) hr (rCons (rVar 1) rNil) rfl hG) hr.units)
  (nsOne (nsFrz 7 (sRet (rTup (rCons (rVar 2) (rCons (rTuple (rCons (rFz (rLc rfl sc__law_bent.nd (wSeq (rVar 7) hG) (own := [("_law_pair", 10)]) (blkOk_by (by rfl)) (fun _ _ _ _ _ => tgName 10 sc__law_bent.nd) (fun _ _ _ _ _ => tsNil) (fun _ _ _ _ _ => rTuple (rCons (rVar 10) rNil) z.f_tuple hG))) rNil) z.f_tuple hG) rNil)))))))) nsNil)
  (nsCons (nsLift (sPar2 6 8 rfl sc__law_bent.nd (afCons (rCallI 0 ((cal__law_taken z).mono (by decide)) hr (rCons (rLenR 5 z.f_len) rNil) rfl hG) (afCons (rCallI 0 ((cal__law_taken z).mono (by decide)) hr (rCons (rLenR 5 z.f_len) rNil) rfl hG) afNil)) rfl (by rfl)))
  (nsCons (nsIfN (tnsLift (rEqVT 4 rInt hr.units hG)) (nsOne (nsSet2 5 (rVar 6) (rAdd rInt (rCallI 0 ((cal__law_taken z).mono (by decide)) hr (rCons rInt rNil) rfl hG) hG) (rCallI 0 ((cal__law_number z).mono (by decide)) hr (rCons (rVar 1) rNil) rfl hG) hr.units)) nsNil)
  (nsCons (nsIfN (tnsLift (rEqVT 4 rInt hr.units hG)) (nsOne (nsSwapSl 5 6 8 hG rfl (rVar 6) (rVar 8) (rVar 8) (rVar 6) pe_int pe_int pe_int pe_int pe_int pe_int pe_int pe_int)) nsNil)
  (nsCons (nsIfN (tnsLift (rEqVT 4 rInt hr.units hG)) (nsOne (nsSet2 5 (rVar 6) rInt (rMod (rAdd (rVar 8) rInt hG) (rVar 1)) hr.units)) nsNil)
  (nsCons (nsIfN (tnsLift (rEqVT 4 rInt hr.units hG)) (nsOne (nsSwap 5 6 8 rfl (rVar 6) (rVar 8) (rVar 8) (rVar 6))) nsNil)
  (nsOne (nsFrz 5 (sRet (rTup (rCons (rTuple (rCons (rFz (rLc rfl sc__law_bent.nd (wSeq (rVar 5) hG) (own := [("_law_deed", 9)]) (blkOk_by (by rfl)) (fun _ _ _ _ _ => tgName 9 sc__law_bent.nd) (fun _ _ _ _ _ => tsNil) (fun _ _ _ _ _ => rTuple (rCons (rVar 9) rNil) z.f_tuple hG))) rNil) z.f_tuple hG) (rCons (rVar 3) rNil))))))))))))) hw__law_bent
theorem cal__law_bent (z : Zs K mg) : Cal P w K mg base 3 "_law_bent" (spI K 4 S__law_bent) [] := Cal.all z.d__law_bent (fun _ _ _ _ _ _ us hl => match us, hl with | [_, _, _, _], _ => rfl) fun f fd D _ => ok__law_bent z D
theorem sc__law_alike : FnScope (["_law_found", "_law_due", "_law_k", "_law_key"] : List Str) (["_law_found", "_law_due"] : List Str) (defScope (top 50)) := C8.fnScope_by (by decide +kernel)
theorem ok__law_alike (z : Zs K mg) {f : Addr} {fd : FuncData} (D : FunD K "_law_alike" "_law_alike" (defArgs (top 50)) (defBody (top 50)) (defScope (top 50)) [] [] f fd) (hm : mg "_law_alike" = some (.ref f)) : ∀ n : Nat, FnOk P w K mg base CX0 (0 + n + 1) f fd (["_law_found", "_law_due"] : List Str) (spF K 2 (S__law_alike n))
  | 0 => ok_never D sc__law_alike spF_none
  | n + 1 => by
    have c_rec : Cal P w K mg base (0 + n + 1) "_law_alike" (spF K 2 (S__law_alike n)) [] := ⟨f, fd, _, [], [], ok__law_alike z D hm n, hm, D.kp, D.bindsN (fun _ _ _ _ _ _ us hl => match us, hl with | [_, _], _ => rfl), .nil, fun _ => .nil⟩
    exact okF D sc__law_alike fun cdv A outer s H E G hG hr => sCons (sIf (rTru (rIsi2 (n := "tuple") (n' := "list") (rVar 1) z.f_isinstance z.f_tuple (by decide +kernel) z.f_list (by decide +kernel) hG) hG) (sCons (sIf (PW.pt (rOrT (rNotT (rTru (rIsi2 (n := "tuple") (n' := "list") (rVar 0) z.f_isinstance z.f_tuple (by decide +kernel) z.f_list (by decide +kernel) hG) hG)) (rOr1 (rNeT (rIsi (n := "list") (rVar 0) z.f_isinstance z.f_list (by decide +kernel) hG) (rIsi (n := "list") (rVar 1) z.f_isinstance z.f_list (by decide +kernel) hG) hr.units hG)))) (sOne (sRet rBl)) sNil) (sCons (sIf (rNeT (rLenV 0 z.f_len hG) (rLenV 1 z.f_len hG) hr.units hG) (sOne (sRet rBl)) sNil) (sOne (sRet (rEq (rFz (rLc rfl sc__law_alike.nd (wRange1 (rLenV 1 z.f_len hG) (hm := z.f_range)) (own := [("_law_k", 2)]) (blkOk_by (by rfl)) (fun _ _ _ _ _ => tgName 2 sc__law_alike.nd) (fun _ _ _ _ _ => tsOne (rNotT (rTru (rCall c_rec (hr.mono (by omega)) (rCons (rIxAV 0 (rVar 2) hr.units hG) (rCons (rIxAV 1 (rVar 2) hr.units hG) rNil)) rfl hG) hG))) (fun _ _ _ _ _ => rVar 2))) (rFz (rLst rNil)) hr.units hG))))) sNil) (sCons (sIf (rTru (rIsi (n := "dict") (rVar 1) z.f_isinstance z.f_dict (by decide +kernel) hG) hG) (sCons (sIf (PW.pt (rOrT (rNotT (rTru (rIsi (n := "dict") (rVar 0) z.f_isinstance z.f_dict (by decide +kernel) hG) hG)) (rOr1 (rNeT rNev rNev hr.units hG)))) (sOne (sRet rBl)) sNil) (sOne (sRet (rEq (rFz (rLc rfl sc__law_alike.nd (wSeq (rVar 1) hG) (own := [("_law_key", 3)]) (blkOk_by (by rfl)) (fun _ _ _ _ _ => tgName 3 sc__law_alike.nd) (fun _ _ _ _ _ => tsOne (rNotT (rTru (rCall c_rec (hr.mono (by omega)) (rCons (rIxAV 0 (rVar 3) hr.units hG) (rCons (rIxAV 1 (rVar 3) hr.units hG) rNil)) rfl hG) hG))) (fun _ _ _ _ _ => rVar 3))) (rFz (rLst rNil)) hr.units hG)))) sNil) (sCons (sIf (PW.pt (rOrT (rIsNT (rVar 1)) (rOr1 (rTru (rIsi (n := "str") (rVar 1) z.f_isinstance z.f_str (by decide +kernel) hG) hG)))) (sOne (sRet (rAndV (rEqV 0 (rVar 1) hr.units hG) (rOne (rEq (rIsi (n := "str") (rVar 0) z.f_isinstance z.f_str (by decide +kernel) hG) (rIsi (n := "str") (rVar 1) z.f_isinstance z.f_str (by decide +kernel) hG) hr.units hG))))) sNil) (sOne (sRet (rAndV (rIsi (n := "int") (rVar 0) z.f_isinstance z.f_int (by decide +kernel) hG) (rAndV (rEq (rIsi (n := "bool") (rVar 0) z.f_isinstance z.f_bool (by decide +kernel) hG) (rIsi (n := "bool") (rVar 1) z.f_isinstance z.f_bool (by decide +kernel) hG) hr.units hG) (rOne (rEqV 0 (rVar 1) hr.units hG))))))))
theorem cal__law_alike (z : Zs K mg) : Cal P w K mg base 41 "_law_alike" (spF K 2 (S__law_alike 40)) [] := Cal.all z.d__law_alike (fun _ _ _ _ _ _ us hl => match us, hl with | [_, _], _ => rfl) fun f fd D hm => (ok__law_alike z D hm 40).mono (by decide)
theorem sc__law_pairs : FnScope (["_law_one", "_law_other", "_law_found", "_law_first", "_law_second"] : List Str) (["_law_one", "_law_other"] : List Str) (defScope (top 47)) := C8.fnScope_by (by decide +kernel)
theorem ok__law_pairs (z : Zs K mg) {f : Addr} {fd : FuncData} (D : FunD K "_law_pairs" "_law_pairs" (defArgs (top 47)) (defBody (top 47)) (defScope (top 47)) [] [] f fd) : FnOk P w K mg base CX0 1 f fd (["_law_one", "_law_other"] : List Str) (spF K 2 S__law_pairs) :=
  okF D sc__law_pairs fun cdv A outer s H E G hG hr => sCons (sSetO 2 sc__law_pairs.nd (rLst rNil))
  (sCons (sFor PassesOwn.never rfl (wSeq (rVar 0) hG) (tgName 3 sc__law_pairs.nd) (sOne (sSetO 2 sc__law_pairs.nd (rCatLO (rVar 2) (rFz (rLc rfl sc__law_pairs.nd (wSeq (rVar 1) hG) (own := [("_law_second", 4)]) (blkOk_by (by rfl)) (fun _ _ _ _ _ => tgName 4 sc__law_pairs.nd) (fun _ _ _ _ _ => tsNil) (fun _ _ _ _ _ => rTup (rCons (rVar 3) (rCons (rVar 4) rNil))))) hG))))
  (sOne (sRet (rVar 2))))
theorem cal__law_pairs (z : Zs K mg) : Cal P w K mg base 1 "_law_pairs" (spF K 2 S__law_pairs) [] := Cal.all z.d__law_pairs (fun _ _ _ _ _ _ us hl => match us, hl with | [_, _], _ => rfl) fun f fd D _ => ok__law_pairs z D
theorem sc_is_whole_triple : FnScope (["value", "entry"] : List Str) (["value"] : List Str) (defScope (top 21)) := C8.fnScope_by (by decide +kernel)
theorem ok_is_whole_triple (z : Zs K mg) {f : Addr} {fd : FuncData} (D : FunD K "is_whole_triple" "is_whole_triple" (defArgs (top 21)) (defBody (top 21)) (defScope (top 21)) [] [] f fd) : FnOk P w K mg base CX0 2 f fd (["value"] : List Str) (spF K 1 S_is_whole_triple) :=
  okF D sc_is_whole_triple fun cdv A outer s H E G hG hr => sCons (sIf (PW.pt (rOrT (rNotT (rTru (rIsi (n := "tuple") (rVar 0) z.f_isinstance z.f_tuple (by decide +kernel) hG) hG)) (rOr1 (rNeT (rLenV 0 z.f_len hG) rInt hr.units hG)))) (sOne (sRet rBl)) sNil)
  (sOne (sRet (rAll rfl (rCons (rFz (rLc rfl sc_is_whole_triple.nd (wSeq (rVar 0) hG) (own := [("entry", 1)]) (blkOk_by (by rfl)) (fun _ _ _ _ _ => tgName 1 sc_is_whole_triple.nd) (fun _ _ _ _ _ => tsNil) (fun _ _ _ _ _ => rAndV (rCall ((cal_is_integer z).mono (by decide)) hr (rCons (rVar 1) rNil) rfl hG) (rOne (rGe (rVar 1) rInt))))) rNil) z.f_all hG)))
theorem cal_is_whole_triple (z : Zs K mg) : Cal P w K mg base 2 "is_whole_triple" (spF K 1 S_is_whole_triple) [] := Cal.all z.d_is_whole_triple (fun _ _ _ _ _ _ us hl => match us, hl with | [_], _ => rfl) fun f fd D _ => ok_is_whole_triple z D
theorem sc_is_any_bag : FnScope (["value", "triple"] : List Str) (["value"] : List Str) (defScope (top 22)) := C8.fnScope_by (by decide +kernel)
theorem ok_is_any_bag (z : Zs K mg) {f : Addr} {fd : FuncData} (D : FunD K "is_any_bag" "is_any_bag" (defArgs (top 22)) (defBody (top 22)) (defScope (top 22)) [] [] f fd) : FnOk P w K mg base CX0 3 f fd (["value"] : List Str) (spF K 1 S_is_any_bag) :=
  okF D sc_is_any_bag fun cdv A outer s H E G hG hr => sCons (sIf (PW.pt (rOrT (rNotT (rTru (rIsi (n := "tuple") (rVar 0) z.f_isinstance z.f_tuple (by decide +kernel) hG) hG)) (rOr1 (rGtT (rLenV 0 z.f_len hG) (rGlN z.c_MOST_TRIPLES))))) (sOne (sRet rBl)) sNil)
  (sOne (sRet (rAll rfl (rCons (rFz (rLc rfl sc_is_any_bag.nd (wSeq (rVar 0) hG) (own := [("triple", 1)]) (blkOk_by (by rfl)) (fun _ _ _ _ _ => tgName 1 sc_is_any_bag.nd) (fun _ _ _ _ _ => tsNil) (fun _ _ _ _ _ => rCall ((cal_is_whole_triple z).mono (by decide)) hr (rCons (rVar 1) rNil) rfl hG))) rNil) z.f_all hG)))
theorem cal_is_any_bag (z : Zs K mg) : Cal P w K mg base 3 "is_any_bag" (spF K 1 S_is_any_bag) [] := Cal.all z.d_is_any_bag (fun _ _ _ _ _ _ us hl => match us, hl with | [_], _ => rfl) fun f fd D _ => ok_is_any_bag z D
theorem sc_is_same_bag : FnScope (["one", "other"] : List Str) (["one", "other"] : List Str) (defScope (top 23)) := C8.fnScope_by (by decide +kernel)
theorem ok_is_same_bag (z : Zs K mg) {f : Addr} {fd : FuncData} (D : FunD K "is_same_bag" "is_same_bag" (defArgs (top 23)) (defBody (top 23)) (defScope (top 23)) [] [] f fd) : FnOk P w K mg base CX0 4 f fd (["one", "other"] : List Str) (spF K 2 S_is_same_bag) :=
  okF D sc_is_same_bag fun cdv A outer s H E G hG hr => sOne (sRet (rAndV (rCall ((cal_is_any_bag z).mono (by decide)) hr (rCons (rVar 0) rNil) rfl hG) (rAndV (rCall ((cal_is_any_bag z).mono (by decide)) hr (rCons (rVar 1) rNil) rfl hG) (rOne (rEq (rFz (rSorted (rVar 0) z.f_sorted hr.units hG)) (rFz (rSorted (rVar 1) z.f_sorted hr.units hG)) hr.units hG)))))
theorem cal_is_same_bag (z : Zs K mg) : Cal P w K mg base 4 "is_same_bag" (spF K 2 S_is_same_bag) [] := Cal.all z.d_is_same_bag (fun _ _ _ _ _ _ us hl => match us, hl with | [_, _], _ => rfl) fun f fd D _ => ok_is_same_bag z D
theorem sc_common : FnScope (["one", "other"] : List Str) (["one", "other"] : List Str) (defScope (top 27)) := C8.fnScope_by (by decide +kernel)
theorem ok_common (z : Zs K mg) {f : Addr} {fd : FuncData} (D : FunD K "common" "common" (defArgs (top 27)) (defBody (top 27)) (defScope (top 27)) [] [] f fd) : FnOk P w K mg base CX0 1 f fd (["one", "other"] : List Str) (spF K 2 S_common) :=
  okF D sc_common fun cdv A outer s H E G hG hr => sCons (sWhile 4096 PassesOwn.never (rNeVT 1 rInt hr.units hG) (sOne (sPar2 0 1 rfl sc_common.nd (afCons (rVar 1) (afCons (rMod (rVar 0) (rVar 1)) afNil)) rfl (by rfl))))
  (sOne (sRet (rVar 0)))
theorem cal_common (z : Zs K mg) : Cal P w K mg base 1 "common" (spF K 2 S_common) [] := Cal.all z.d_common (fun _ _ _ _ _ _ us hl => match us, hl with | [_, _], _ => rfl) fun f fd D _ => ok_common z D
theorem sc_share : FnScope (["top", "bottom", "shared"] : List Str) (["top", "bottom"] : List Str) (defScope (top 28)) := C8.fnScope_by (by decide +kernel)
theorem ok_share (z : Zs K mg) {f : Addr} {fd : FuncData} (D : FunD K "share" "share" (defArgs (top 28)) (defBody (top 28)) (defScope (top 28)) [] [] f fd) : FnOk P w K mg base CX0 2 f fd (["top", "bottom"] : List Str) (spF K 2 S_share) :=
  okF D sc_share fun cdv A outer s H E G hG hr => sCons (sSet 2 sc_share.nd (rCall ((cal_common z).mono (by decide)) hr (rCons (rAbs (rCons (rVar 0) rNil) z.f_abs) (rCons (rVar 1) rNil)) rfl hG))
  (sOne (sRet (rTup (rCons (rDiv (rVar 0) (rVar 2)) (rCons (rDiv (rVar 1) (rVar 2)) rNil)))))
theorem cal_share (z : Zs K mg) : Cal P w K mg base 2 "share" (spF K 2 S_share) [] := Cal.all z.d_share (fun _ _ _ _ _ _ us hl => match us, hl with | [_, _], _ => rfl) fun f fd D _ => ok_share z D
theorem sc_log_loss : FnScope (["p", "first", "deeds"] : List Str) (["p", "first", "deeds"] : List Str) (defScope (top 41)) := C8.fnScope_by (by decide +kernel)
theorem ok_log_loss (z : Zs K mg) {f : Addr} {fd : FuncData} (D : FunD K "log_loss" "log_loss" (defArgs (top 41)) (defBody (top 41)) (defScope (top 41)) [] [] f fd) : FnOk P w K mg base CX0 6 f fd (["p", "first", "deeds"] : List Str) (spF K 3 S_log_loss) :=
  okF D sc_log_loss fun cdv A outer s H E G hG hr => sCons (sDo (rCall ((cal1_need_prime z).mono (by decide)) hr (rCons (rVar 0) rNil) rfl hG))
  (sCons (sDo (rCall ((cal_need_log z).mono (by decide)) hr (rCons (rVar 0) (rCons (rVar 1) (rCons (rVar 2) rNil))) rfl hG))
  (sOne (sRet (rCall ((cal_share z).mono (by decide)) hr (rCons (rMin2 rfl (rCons (rVar 0) (rCons (rMul rInt (rAdd (rLenV 1 z.f_len hG) (rLenV 2 z.f_len hG) hG)) rNil)) z.f_min) (rCons (rVar 0) rNil)) rfl hG))))
theorem cal_log_loss (z : Zs K mg) : Cal P w K mg base 6 "log_loss" (spF K 3 S_log_loss) [] := Cal.all z.d_log_loss (fun _ _ _ _ _ _ us hl => match us, hl with | [_, _, _], _ => rfl) fun f fd D _ => ok_log_loss z D
theorem sc__law_lowered : FnScope (["_law_top", "_law_bottom", "_law_one", "_law_other"] : List Str) (["_law_top", "_law_bottom"] : List Str) (defScope (top 53)) := C8.fnScope_by (by decide +kernel)
theorem ok__law_lowered (z : Zs K mg) {f : Addr} {fd : FuncData} (D : FunD K "_law_lowered" "_law_lowered" (defArgs (top 53)) (defBody (top 53)) (defScope (top 53)) [] [] f fd) : FnOk P w K mg base CX0 1 f fd (["_law_top", "_law_bottom"] : List Str) (spF K 2 S__law_lowered) :=
  okF D sc__law_lowered fun cdv A outer s H E G hG hr => sCons (sPar2 2 3 rfl sc__law_lowered.nd (afCons (rAbs (rCons (rVar 0) rNil) z.f_abs) (afCons (rVar 1) afNil)) rfl (by rfl))
  (sCons (sWhile 4096 PassesOwn.never (rGtT (rVar 3) rInt) (sOne (sPar2 2 3 rfl sc__law_lowered.nd (afCons (rVar 3) (afCons (rMod (rVar 2) (rVar 3)) afNil)) rfl (by rfl))))
  (sOne (sRet (rTup (rCons (rDiv (rVar 0) (rVar 2)) (rCons (rDiv (rVar 1) (rVar 2)) rNil))))))
theorem cal__law_lowered (z : Zs K mg) : Cal P w K mg base 1 "_law_lowered" (spF K 2 S__law_lowered) [] := Cal.all z.d__law_lowered (fun _ _ _ _ _ _ us hl => match us, hl with | [_, _], _ => rfl) fun f fd D _ => ok__law_lowered z D
theorem sc_memory_behind : FnScope (["first", "deeds", "now", "good", "at", "cell", "old", "told", "new", "value"] : List Str) (["first", "deeds"] : List Str) (defScope (top 35)) := C8.fnScope_by (by decide +kernel)
theorem ok_memory_behind (z : Zs K mg) {f : Addr} {fd : FuncData} (D : FunD K "memory_behind" "memory_behind" (defArgs (top 35)) (defBody (top 35)) (defScope (top 35)) [] [] f fd) : FnOk P w K mg base CX0 1 f fd (["first", "deeds"] : List Str) (spF K 2 S_memory_behind) :=
  okF D sc_memory_behind fun cdv A outer s H E G hG hr => sCons (sPar2 2 3 rfl sc_memory_behind.nd (afConsO (rLc rfl sc_memory_behind.nd (wSeq (rVar 0) hG) (own := [("value", 9)]) (blkOk_by (by rfl)) (fun _ _ _ _ _ => tgName 9 sc_memory_behind.nd) (fun _ _ _ _ _ => tsNil) (fun _ _ _ _ _ => rTup (rCons (rVar 9) (rCons rInt rNil)))) (afCons rBl afNil)) rfl (by rfl))
  (sCons (sFor PassesOwn.never rfl (wEn (rVar 1) hG (hm := z.f_enumerate)) (tgTup rfl (tgCons (tgName 4 sc_memory_behind.nd) (tgCons (tgTup rfl (tgCons (tgName 5 sc_memory_behind.nd) (tgCons (tgName 6 sc_memory_behind.nd) (tgCons (tgName 7 sc_memory_behind.nd) (tgCons (tgName 8 sc_memory_behind.nd) tgNil)))) hG) tgNil)) hG) (sCons (sSet 3 sc_memory_behind.nd (rAndV (rVar 3) (rOne (rEq (rIxAV 2 (rVar 5) hr.units hG) (rTup (rCons (rVar 6) (rCons (rVar 7) rNil))) hr.units hG))))
  (sOne (sSetA 2 (rVar 5) (rTup (rCons (rVar 8) (rCons (rAdd (rVar 4) rInt hG) rNil))) hr.units))))
  (sOne (sRet (rTup (rCons (rVar 3) (rCons (rVar 2) rNil))))))
theorem cal_memory_behind (z : Zs K mg) : Cal P w K mg base 1 "memory_behind" (spF K 2 S_memory_behind) [] := Cal.all z.d_memory_behind (fun _ _ _ _ _ _ us hl => match us, hl with | [_, _], _ => rfl) fun f fd D _ => ok_memory_behind z D
theorem sc_is_true_log : FnScope (["first", "deeds", "last", "good", "now", "pair"] : List Str) (["first", "deeds", "last"] : List Str) (defScope (top 36)) := C8.fnScope_by (by decide +kernel)
theorem ok_is_true_log (z : Zs K mg) {f : Addr} {fd : FuncData} (D : FunD K "is_true_log" "is_true_log" (defArgs (top 36)) (defBody (top 36)) (defScope (top 36)) [] [] f fd) : FnOk P w K mg base CX0 4 f fd (["first", "deeds", "last"] : List Str) (spF K 3 S_is_true_log) :=
  okF D sc_is_true_log fun cdv A outer s H E G hG hr => sCons (sIf (PW.pt (rOrT (rNotT (rTru (rCall ((cal_are_whole_firsts z).mono (by decide)) hr (rCons (rVar 0) rNil) rfl hG) hG)) (rOr1 (rNotT (rTru (rCall ((cal_are_whole_deeds z).mono (by decide)) hr (rCons (rVar 0) (rCons (rVar 1) rNil)) rfl hG) hG))))) (sOne (sRet rBl)) sNil)
  (sCons (sIf (PW.pt (rOrT (rNotT (rTru (rIsi (n := "tuple") (rVar 2) z.f_isinstance z.f_tuple (by decide +kernel) hG) hG)) (rOr1 (rNotT (rTru (rAll rfl (rCons (rFz (rLc rfl sc_is_true_log.nd (wSeq (rVar 2) hG) (own := [("pair", 5)]) (blkOk_by (by rfl)) (fun _ _ _ _ _ => tgName 5 sc_is_true_log.nd) (fun _ _ _ _ _ => tsNil) (fun _ _ _ _ _ => rCall ((cal_is_whole z).mono (by decide)) hr (rCons (rVar 5) (rCons rInt rNil)) rfl hG))) rNil) z.f_all hG) hG))))) (sOne (sRet rBl)) sNil)
  (sCons (sUnp (rCall ((cal_memory_behind z).mono (by decide)) hr (rCons (rVar 0) (rCons (rVar 1) rNil)) rfl hG) (tgTup rfl (tgCons (tgName 3 sc_is_true_log.nd) (tgCons (tgName 4 sc_is_true_log.nd) tgNil)) hG))
  (sOne (sRet (rAndV (rVar 3) (rOne (rEq (rTuple (rCons (rVar 4) rNil) z.f_tuple hG) (rVar 2) hr.units hG)))))))
theorem cal_is_true_log (z : Zs K mg) : Cal P w K mg base 4 "is_true_log" (spF K 3 S_is_true_log) [] := Cal.all z.d_is_true_log (fun _ _ _ _ _ _ us hl => match us, hl with | [_, _, _], _ => rfl) fun f fd D _ => ok_is_true_log z D
theorem sc_law : FnScope (["_law_script", "_law_row", "_law_p", "_law_first", "_law_deeds", "_law_last", "_law_turn", "_law_due", "_law_put", "_law_taken_here", "_law_some", "_law_z", "_law_w", "_law_where", "_law_pairs_here", "_law_found", "_law_told", "_law_ends", "_law_at", "_law_cell", "_law_value", "_law_deed", "_law_one"] : List Str) (["_law_script"] : List Str) (defScope (top 57)) := C8.fnScope_by (by decide +kernel)
theorem ok_law (z : Zs K mg) {f : Addr} {fd : FuncData} (D : FunD K "law" "law" (defArgs (top 57)) (defBody (top 57)) (defScope (top 57)) [] [] f fd) : FnOk P w K mg base CX0 42 f fd (["_law_script"] : List Str) (spF K 1 S_law) :=
  okF D sc_law fun cdv A outer s H E G hG hr => sCons (sSetO 1 sc_law.nd (rLst (rCons (rVar 0) (rCons rInt (rCons rInt (rCons rInt rNil))))))
  (sCons (sSet 2 sc_law.nd (rCallI 1 ((cal__law_pick z).mono (by decide)) hr (rCons (rFz (rLst (rCons rInt (rCons rInt (rCons rInt (rCons rInt (rCons rInt rNil))))))) rNil) rfl hG))
  (sCons (sUnp (rCallI 1 ((cal__law_log z).mono (by decide)) hr (rCons (rVar 2) (rCons rInt rNil)) rfl hG) (tgTup rfl (tgCons (tgName 3 sc_law.nd) (tgCons (tgName 4 sc_law.nd) (tgCons (tgName 5 sc_law.nd) tgNil))) hG))
  (sCons (sFor PassesOwn.never rfl (wRange1 rInt (hm := z.f_range)) (tgName 6 sc_law.nd) (sCons (sSet 7 sc_law.nd (rCall ((cal__law_true z).mono (by decide)) hr (rCons (rVar 3) (rCons (rVar 4) (rCons (rVar 5) rNil))) rfl hG))
  (sCons (sSet 8 sc_law.nd (rTuple (rCons (rFz (rCatLO (rFz (rLc rfl sc_law.nd (wEn (rVar 3) hG (hm := z.f_enumerate)) (own := [("_law_cell", 19), ("_law_value", 20)]) (blkOk_by (by rfl)) (fun _ _ _ _ _ => tgTup rfl (tgCons (tgName 19 sc_law.nd) (tgCons (tgName 20 sc_law.nd) tgNil)) hG) (fun _ _ _ _ _ => tsNil) (fun _ _ _ _ _ => rTup (rCons (rVar 19) (rCons (rVar 20) (rCons rInt rNil)))))) (rFz (rLc rfl sc_law.nd (wRange1 (rLenV 4 z.f_len hG) (hm := z.f_range)) (own := [("_law_at", 18)]) (blkOk_by (by rfl)) (fun _ _ _ _ _ => tgName 18 sc_law.nd) (fun _ _ _ _ _ => tsNil) (fun _ _ _ _ _ => rTup (rCons (rIxA_ (rIxAV 4 (rVar 18) hr.units hG) rInt hr.units hG) (rCons (rIxA_ (rIxAV 4 (rVar 18) hr.units hG) rInt hr.units hG) (rCons (rAdd (rVar 18) rInt hG) rNil)))))) hG)) rNil) z.f_tuple hG))
  (sCons (sSet 9 sc_law.nd (rTuple (rCons (rFz (rCatLO (rFz (rLc rfl sc_law.nd (wSeq (rVar 4) hG) (own := [("_law_deed", 21)]) (blkOk_by (by rfl)) (fun _ _ _ _ _ => tgName 21 sc_law.nd) (fun _ _ _ _ _ => tsNil) (fun _ _ _ _ _ => rSlV 21 rpN (rpS rInt) hG))) (rFz (rLc rfl sc_law.nd (wRange1 (rLenV 5 z.f_len hG) (hm := z.f_range)) (own := [("_law_cell", 19)]) (blkOk_by (by rfl)) (fun _ _ _ _ _ => tgName 19 sc_law.nd) (fun _ _ _ _ _ => tsNil) (fun _ _ _ _ _ => rAdd (rTup (rCons (rVar 19) rNil)) (rIxAV 5 (rVar 19) hr.units hG) hG))) hG)) rNil) z.f_tuple hG))
  (sCons (sIf (PW.pt (rOrT (rNotT (rTru (rCall ((cal__law_alike z).mono (by decide)) hr (rCons (rCall ((cal_is_true_log z).mono (by decide)) hr (rCons (rVar 3) (rCons (rVar 4) (rCons (rVar 5) rNil))) rfl hG) (rCons (rVar 7) rNil)) rfl hG) hG)) (rOr1 (rNotT (rTru (rCall ((cal__law_alike z).mono (by decide)) hr (rCons (rFz (rLst (rCons (rCall ((cal_put_bag z).mono (by decide)) hr (rCons (rVar 3) (rCons (rVar 4) rNil)) rfl hG) (rCons (rCall ((cal_taken_bag z).mono (by decide)) hr (rCons (rVar 4) (rCons (rVar 5) rNil)) rfl hG) rNil)))) (rCons (rFz (rLst (rCons (rVar 8) (rCons (rVar 9) rNil)))) rNil)) rfl hG) hG))))) (sOne (sRet rBl)) sNil)
  (sCons (sSetLc 10 rfl sc_law.nd (wRange1 (rLenV 4 z.f_len hG) (hm := z.f_range)) (own := [("_law_at", 18)]) (blkOk_by (by rfl)) (fun _ _ _ _ _ => tgName 18 sc_law.nd) (fun _ _ _ _ _ => tsOne (rGeT (rIxA_ (rIxAV 4 (rVar 18) hr.units hG) rInt hr.units hG) (rAdd (rVar 18) rInt hG))) (fun _ _ _ _ _ => rVar 18) (sw_true rfl rfl rfl (by decide +kernel)))
  (sCons (sIf (rNotT (rTru (rCall ((cal__law_alike z).mono (by decide)) hr (rCons (rCall ((cal_late z).mono (by decide)) hr (rCons (rVar 4) rNil) rfl hG) (rCons (rIf (rNeVT 10 (rFz (rLst rNil)) hr.units hG) (rIxAV 10 rInt hr.units hG) rNon) rNil)) rfl hG) hG)) (sOne (sRet rBl)) sNil)
  (sCons (sIf (PW.pt (rOrT (rNeVT 7 (rAndV (rEqV 10 (rFz (rLst rNil)) hr.units hG) (rOne (rEq (rFz (rSorted (rVar 8) z.f_sorted hr.units hG)) (rFz (rSorted (rVar 9) z.f_sorted hr.units hG)) hr.units hG))) hr.units hG) (rOr1 (rNeT (rCall ((cal_is_same_bag z).mono (by decide)) hr (rCons (rVar 8) (rCons (rVar 9) rNil)) rfl hG) (rEq (rFz (rSorted (rVar 8) z.f_sorted hr.units hG)) (rFz (rSorted (rVar 9) z.f_sorted hr.units hG)) hr.units hG) hr.units hG)))) (sOne (sRet rBl)) sNil)
  (sCons (sPar2 11 12 rfl sc_law.nd (afCons (rCallI 1 ((cal__law_number z).mono (by decide)) hr (rCons (rVar 2) rNil) rfl hG) (afCons (rCallI 1 ((cal__law_number z).mono (by decide)) hr (rCons (rVar 2) rNil) rfl hG) afNil)) rfl (by rfl))
  (sCons (sSet 13 sc_law.nd (rCall ((cal_log_judged z).mono (by decide)) hr (rCons (rVar 2) (rCons (rVar 3) (rCons (rVar 4) (rCons (rVar 5) (rCons (rVar 11) (rCons (rVar 12) rNil)))))) rfl hG))
  (sCons (sIf (PW.pt (rOrT (PW.pt (rAndT (rNeVT 10 (rFz (rLst rNil)) hr.units hG) (rAnd1 (rNeVT 13 (rTup (rCons rStr (rCons (rIxAV 10 rInt hr.units hG) (rCons rStr rNil)))) hr.units hG)))) (rOr1 (PW.pt (rAndT (rTru (rVar 7) hG) (rAnd1 (rNeVT 13 (rTup (rCons rStr rNil)) hr.units hG))))))) (sOne (sRet rBl)) sNil)
  (sCons (sIf (rNotT (rTru (rCall ((cal__law_alike z).mono (by decide)) hr (rCons (rCall ((cal_log_loss z).mono (by decide)) hr (rCons (rVar 2) (rCons (rVar 3) (rCons (rVar 4) rNil))) rfl hG) (rCons (rCall ((cal__law_lowered z).mono (by decide)) hr (rCons (rMin2 rfl (rCons (rVar 2) (rCons (rMul rInt (rLenV 8 z.f_len hG)) rNil)) z.f_min) (rCons (rVar 2) rNil)) rfl hG) rNil)) rfl hG) hG)) (sOne (sRet rBl)) sNil)
  (sCons (sIf (PW.pt (rAndT (rEqVT 10 (rFz (rLst rNil)) hr.units hG) (rAndT (rLtT (rVar 2) rInt) (rAnd1 (rLtT (rVar 6) rInt))))) (sCons (sSet 14 sc_law.nd (rCall ((cal__law_pairs z).mono (by decide)) hr (rCons (rFz (rListRange rfl (rVar 2) z.f_list z.f_range)) (rCons (rFz (rListRange rfl (rVar 2) z.f_list z.f_range)) rNil)) rfl hG))
  (sCons (sSet 15 sc_law.nd (rLen (rFz (rLc rfl sc_law.nd (wSeq (rVar 14) hG) (own := [("_law_z", 11), ("_law_w", 12)]) (blkOk_by (by rfl)) (fun _ _ _ _ _ => tgTup rfl (tgCons (tgName 11 sc_law.nd) (tgCons (tgName 12 sc_law.nd) tgNil)) hG) (fun _ _ _ _ _ => tsOne (rEqT (rCall ((cal_log_judged z).mono (by decide)) hr (rCons (rVar 2) (rCons (rVar 3) (rCons (rVar 4) (rCons (rVar 5) (rCons (rVar 11) (rCons (rVar 12) rNil)))))) rfl hG) (rTup (rCons rStr rNil)) hr.units hG)) (fun _ _ _ _ _ => rInt))) z.f_len hG))
  (sOne (sIf (PW.pt (rOrT (PW.pt (rAndT (rNeVT 15 (rMul (rVar 2) (rVar 2)) hr.units hG) (rAnd1 (rTru (rVar 7) hG)))) (rOr1 (PW.pt (rAndT (rNotT (rTru (rVar 7) hG)) (rAnd1 (rGtT (rVar 15) (rMul (rMin2 rfl (rCons (rVar 2) (rCons (rMul rInt (rLenV 8 z.f_len hG)) rNil)) z.f_min) (rVar 2))))))))) (sOne (sRet rBl)) sNil)))) sNil)
  (sCons (sUnp (rCall ((cal_mended_log z).mono (by decide)) hr (rCons (rVar 3) (rCons (rVar 4) rNil)) rfl hG) (tgTup rfl (tgCons (tgName 16 sc_law.nd) (tgCons (tgName 17 sc_law.nd) tgNil)) hG))
  (sCons (sIf (PW.pt (rOrT (rNotT (rTru (rCall ((cal__law_true z).mono (by decide)) hr (rCons (rVar 3) (rCons (rVar 16) (rCons (rVar 17) rNil))) rfl hG) hG)) (rOr1 (rNeT (rFz (rLc rfl sc_law.nd (wSeq (rVar 16) hG) (own := [("_law_one", 22)]) (blkOk_by (by rfl)) (fun _ _ _ _ _ => tgName 22 sc_law.nd) (fun _ _ _ _ _ => tsNil) (fun _ _ _ _ _ => rIxAV 22 rInt hr.units hG))) (rFz (rLc rfl sc_law.nd (wSeq (rVar 4) hG) (own := [("_law_one", 22)]) (blkOk_by (by rfl)) (fun _ _ _ _ _ => tgName 22 sc_law.nd) (fun _ _ _ _ _ => tsNil) (fun _ _ _ _ _ => rIxAV 22 rInt hr.units hG))) hr.units hG)))) (sOne (sRet rBl)) sNil)
  (sCons (sIf (rNeT (rFz (rLc rfl sc_law.nd (wRange1 (rLenV 4 z.f_len hG) (hm := z.f_range)) (own := [("_law_at", 18)]) (blkOk_by (by rfl)) (fun _ _ _ _ _ => tgName 18 sc_law.nd) (fun _ _ _ _ _ => tsOne (rNeT (rIxA_ (rIxAV 16 (rVar 18) hr.units hG) rInt hr.units hG) (rIf (rEqT (rIxA_ (rIxAV 4 (rVar 18) hr.units hG) rInt hr.units hG) (rIxA_ (rIxAV 4 (rVar 18) hr.units hG) rInt hr.units hG) hr.units hG) (rIxA_ (rIxAV 16 (rVar 18) hr.units hG) rInt hr.units hG) (rIxA_ (rIxAV 4 (rVar 18) hr.units hG) rInt hr.units hG)) hr.units hG)) (fun _ _ _ _ _ => rVar 18))) (rFz (rLst rNil)) hr.units hG) (sOne (sRet rBl)) sNil)
  (sOne (sUnp (rCallI 1 ((cal__law_bent z).mono (by decide)) hr (rCons (rVar 2) (rCons (rVar 4) (rCons (rVar 5) rNil))) rfl hG) (tgTup rfl (tgCons (tgName 4 sc_law.nd) (tgCons (tgName 5 sc_law.nd) tgNil)) hG)))))))))))))))))))
  (sOne (sRet rBl)))))
end
end LK
namespace LK
open PySem L2 MM
local macro_rules
  | `(tactic| simp_arith [$xs,*]) => `(tactic| simp only [$xs,*, wI_Range3, wM_Fld, wS_SetF, wM_Meth, wM_Make, wS_AugF, wM_C, wM_Var, wM_Bin, wM_Un, wM_If, wM_Tup, wM_Lst, wA_Nil, wA_Cons, wM_AndV, wM_OrV, wM_CmpV, wM_IxAV, wM_IxA, wM_LenV, wM_InAV, wP_none, wP_some, wM_SlV, wM_Sl, wM_Call, wM_Apply, wM_ListOf, wM_ListRange, wM_DictE, wPr_nil, wPr_cons, wM_Dict, wM_Pop, wM_Chain, wM_InC, wM_NotInC, wT_B, wT_Tru, wT_Not, wT_And, wT_Or, wT_Yes, wS_Skip, wS_Brk, wS_Cont, wS_RetN, wS_Stuck, mTupS_w, mLstS_w, wA_Star, wS_Seq, wS_Do, wS_Ret, wS_RetO, wS_Set, wS_SetO, wS_If, wAF_nil, wAF_cons, wS_Par, setAll_nil, setAll_fz, setAll_ow, wS_Unp, wG_N, wG_T, wGs_nil, wGs_cons, wS_SetA, wG_SubA, wS_App, wS_Aug, wS_For, wS_for0, wS_for1, wI_Of, wI_Range1, wI_Range2, wI_En, wI_Zp, wI_Revs, wI_Con, wM_Comp, wC_nil, wC_cons, wF_run, wO_some, wO_none, wO_ite, wO_map, wO_bind, kRg, kRg3, rg3_i, kFld, kSF2, kSF1, kMe3, kMe2, kMe1, kMe0, kMk2, kMk1, kAF4, kAFb, kAFa, kAF0, objK_o, objK_i, lookF_n, lookF_c, putFD_n, putFD_c, kTupS, kLstS, kStar1, kStar2, kStar3, kMap, kBind, kR, kB2, kB1, kU, kLst, kC2, kC1, kIV3, kIV2, kIV1, kLenV, kInV2, kInV, kSV3, kSV2, kSV1, kSV0, kS2, kS1, kS0, kF, kCall, kCI2, kCI1, kCI0, kAp, kListOf, kPr3, kPr2, kPr1, kDict, kPop, kCh3, kCh2, kCh1, kTru, kNot, kDo, kRet, kSet, kSetO, kAF2, kAF1, kPar, kNx, kUnp, kGs, kSt4, kSt3, kSt2, kSt1, kSt0, kGS4, kGS3, kGS2, kGS1, kAp3, kAp2, kAp1, kAug2, kAug1, kFor, kF1, kOf, kRange2, kEn, kZp3, kZp2b, kZp2, kZp1, kRevs, kLi, kComp, kCo3, kCo2, kCo0, MM.kTup, kVar_f, kVar_o, objD_l, objD_d, kIf_t, kIf_f, kAndV_t, kAndV_f, kOrV_t, kOrV_f, kP_i, sameK_o, sameK_i, kListRange_i, kChT_t, kChT_f, kB_b, kAnd_t, kAnd_f, kOr_t, kOr_f, kSeq_n, kSeq_b, kSeq_c, kSeq_r, kIfS_t, kIfS_f, kAug_f, kF2_n, kF2_c, kF2_b, kF2_r, kW2_n, kW2_c, kW2_b, kW2_r, kW1_t, kW1_f, kRange1_i, kRange2b_i, kCo1_t, kCo1_f, kRun_r, kRun_n, kRunI_r, kRunI_n, kRunI2_i, slK_f, slK_o, slK_i, owK_o, owK_i, putK_o, putK_i, bInt_ii, bCmp_ii, dAdd_ii, dAdd_ll, dAdd_tt, dJoin_sl, dStrs_n, dStrs_c, fStr1_i, fIntS_s, dSplit_ss, dMulS_si, dAdd_st, fMax2_ii, fMin2_ii, dLen_s, dInA_l, dFlat_n, dEqF_in, dEqF_nn, dEqF_sn, dCatL_ll, dIxA_l, dIxA_t, dIxA_d, dLen_l, dLen_t, fInt_i, fInt_b, fTuple_l, fTuple_t, dNot_b, dTru_b, dTru_i, dSeq_l, dSeq_t, dSq_l, dSq_t, dSl_l, dSl_t, dSetA_l, dApp_l, isL_l, dRepL_li, dNeg_i, dIsN_n, dIsN_i, dIsi_int_int, dIsi_bool_int, dIsi_tuple_tuple, dIsi_tuple_list, dIsi_str_str, dIsi_int_str, dIsi_tuple_int, dEq_ii, dNe_ii, dEq_bb, dNe_bb, slD_k, ownD_k, putD_k, atI_pos, ixN_pos, gMul, gDiv, gMod, gPow_10_18, gPow_10_6, gPow_sq, pLt, pLe, pGt, pGe, dFlat_s, dFlat_i, dFlat_b, dInA_t, dNotInA_t, dIn_c, dNotIn_c, List.any_cons, List.any_nil, dBits_i, dBools_mapf, enumD_e, enF_c, enF_n, zipD_c, zipD_n, zipD_n2, wO_eq, wO_ne, eqv_ii, eqv_ss, eqv_tt, eqv_ll, eqv_bb, eqv_is, eqv_si, eqv_tl, eqv_lt, eqvs_nil, eqvs_cons, eqvs_nc, eqvs_cn, shq_i, shq_b, shq_n, shq_s, shq_t, shq_l, dEqF_ss, dEqF_ii, str_beq, String.reduceBEq, String.reduceEq, keyD_s, keyD_i, key_ss, atK_nil, atK_cons, dInA_d, dNotInA_d, fAll_l, fAny_l, dBools_n, dBools_c, List.all_cons, List.all_nil, Option.isSome_some, Option.isSome_none, id, eq_self, false_and, and_false, List.getElem?_cons_succ, List.getElem?_cons_zero, List.set_cons_succ, List.set_cons_zero, List.length_cons, List.length_nil, List.append_nil, List.nil_append, List.cons_append, wipeE, ent, List.map_cons, List.map_nil, List.replicate_succ, List.replicate_zero, Int.cast_ofNat_Int, Int.reduceAdd, Int.reduceSub, Int.reduceMul, Int.reduceDiv, Int.reduceMod, Int.reduceLT, Int.reduceLE, Int.reduceEq, Int.reduceNeg, Int.reducePow, Nat.reducePow, Int.reduceToNat, Int.reduceBNe, Int.reduceBEq, Nat.reduceAdd, Nat.reduceSub, Nat.reduceMul, Nat.reduceLT, Nat.reduceLeDiff, Nat.reduceEqDiff, Nat.zero_add, decide_true, decide_false, Bool.not_true, Bool.not_false, Bool.true_and, Bool.and_true, Bool.false_and, Bool.and_false, Bool.true_or, Bool.or_true, Bool.false_or, Bool.or_false, and_true, true_and, or_true, true_or, or_false, false_or, not_true_eq_false, not_false_eq_true, Bool.false_eq_true, reduceIte, Option.map_some, Option.bind_some, Option.map_none])
local macro_rules
  | `(tactic| simp_arith) => `(tactic| simp only [wI_Range3, wM_Fld, wS_SetF, wM_Meth, wM_Make, wS_AugF, wM_C, wM_Var, wM_Bin, wM_Un, wM_If, wM_Tup, wM_Lst, wA_Nil, wA_Cons, wM_AndV, wM_OrV, wM_CmpV, wM_IxAV, wM_IxA, wM_LenV, wM_InAV, wP_none, wP_some, wM_SlV, wM_Sl, wM_Call, wM_Apply, wM_ListOf, wM_ListRange, wM_DictE, wPr_nil, wPr_cons, wM_Dict, wM_Pop, wM_Chain, wM_InC, wM_NotInC, wT_B, wT_Tru, wT_Not, wT_And, wT_Or, wT_Yes, wS_Skip, wS_Brk, wS_Cont, wS_RetN, wS_Stuck, mTupS_w, mLstS_w, wA_Star, wS_Seq, wS_Do, wS_Ret, wS_RetO, wS_Set, wS_SetO, wS_If, wAF_nil, wAF_cons, wS_Par, setAll_nil, setAll_fz, setAll_ow, wS_Unp, wG_N, wG_T, wGs_nil, wGs_cons, wS_SetA, wG_SubA, wS_App, wS_Aug, wS_For, wS_for0, wS_for1, wI_Of, wI_Range1, wI_Range2, wI_En, wI_Zp, wI_Revs, wI_Con, wM_Comp, wC_nil, wC_cons, wF_run, wO_some, wO_none, wO_ite, wO_map, wO_bind, kRg, kRg3, rg3_i, kFld, kSF2, kSF1, kMe3, kMe2, kMe1, kMe0, kMk2, kMk1, kAF4, kAFb, kAFa, kAF0, objK_o, objK_i, lookF_n, lookF_c, putFD_n, putFD_c, kTupS, kLstS, kStar1, kStar2, kStar3, kMap, kBind, kR, kB2, kB1, kU, kLst, kC2, kC1, kIV3, kIV2, kIV1, kLenV, kInV2, kInV, kSV3, kSV2, kSV1, kSV0, kS2, kS1, kS0, kF, kCall, kCI2, kCI1, kCI0, kAp, kListOf, kPr3, kPr2, kPr1, kDict, kPop, kCh3, kCh2, kCh1, kTru, kNot, kDo, kRet, kSet, kSetO, kAF2, kAF1, kPar, kNx, kUnp, kGs, kSt4, kSt3, kSt2, kSt1, kSt0, kGS4, kGS3, kGS2, kGS1, kAp3, kAp2, kAp1, kAug2, kAug1, kFor, kF1, kOf, kRange2, kEn, kZp3, kZp2b, kZp2, kZp1, kRevs, kLi, kComp, kCo3, kCo2, kCo0, MM.kTup, kVar_f, kVar_o, objD_l, objD_d, kIf_t, kIf_f, kAndV_t, kAndV_f, kOrV_t, kOrV_f, kP_i, sameK_o, sameK_i, kListRange_i, kChT_t, kChT_f, kB_b, kAnd_t, kAnd_f, kOr_t, kOr_f, kSeq_n, kSeq_b, kSeq_c, kSeq_r, kIfS_t, kIfS_f, kAug_f, kF2_n, kF2_c, kF2_b, kF2_r, kW2_n, kW2_c, kW2_b, kW2_r, kW1_t, kW1_f, kRange1_i, kRange2b_i, kCo1_t, kCo1_f, kRun_r, kRun_n, kRunI_r, kRunI_n, kRunI2_i, slK_f, slK_o, slK_i, owK_o, owK_i, putK_o, putK_i, bInt_ii, bCmp_ii, dAdd_ii, dAdd_ll, dAdd_tt, dJoin_sl, dStrs_n, dStrs_c, fStr1_i, fIntS_s, dSplit_ss, dMulS_si, dAdd_st, fMax2_ii, fMin2_ii, dLen_s, dInA_l, dFlat_n, dEqF_in, dEqF_nn, dEqF_sn, dCatL_ll, dIxA_l, dIxA_t, dIxA_d, dLen_l, dLen_t, fInt_i, fInt_b, fTuple_l, fTuple_t, dNot_b, dTru_b, dTru_i, dSeq_l, dSeq_t, dSq_l, dSq_t, dSl_l, dSl_t, dSetA_l, dApp_l, isL_l, dRepL_li, dNeg_i, dIsN_n, dIsN_i, dIsi_int_int, dIsi_bool_int, dIsi_tuple_tuple, dIsi_tuple_list, dIsi_str_str, dIsi_int_str, dIsi_tuple_int, dEq_ii, dNe_ii, dEq_bb, dNe_bb, slD_k, ownD_k, putD_k, atI_pos, ixN_pos, gMul, gDiv, gMod, gPow_10_18, gPow_10_6, gPow_sq, pLt, pLe, pGt, pGe, dFlat_s, dFlat_i, dFlat_b, dInA_t, dNotInA_t, dIn_c, dNotIn_c, List.any_cons, List.any_nil, dBits_i, dBools_mapf, enumD_e, enF_c, enF_n, zipD_c, zipD_n, zipD_n2, wO_eq, wO_ne, eqv_ii, eqv_ss, eqv_tt, eqv_ll, eqv_bb, eqv_is, eqv_si, eqv_tl, eqv_lt, eqvs_nil, eqvs_cons, eqvs_nc, eqvs_cn, shq_i, shq_b, shq_n, shq_s, shq_t, shq_l, dEqF_ss, dEqF_ii, str_beq, String.reduceBEq, String.reduceEq, keyD_s, keyD_i, key_ss, atK_nil, atK_cons, dInA_d, dNotInA_d, fAll_l, fAny_l, dBools_n, dBools_c, List.all_cons, List.all_nil, Option.isSome_some, Option.isSome_none, id, eq_self, false_and, and_false, List.getElem?_cons_succ, List.getElem?_cons_zero, List.set_cons_succ, List.set_cons_zero, List.length_cons, List.length_nil, List.append_nil, List.nil_append, List.cons_append, wipeE, ent, List.map_cons, List.map_nil, List.replicate_succ, List.replicate_zero, Int.cast_ofNat_Int, Int.reduceAdd, Int.reduceSub, Int.reduceMul, Int.reduceDiv, Int.reduceMod, Int.reduceLT, Int.reduceLE, Int.reduceEq, Int.reduceNeg, Int.reducePow, Nat.reducePow, Int.reduceToNat, Int.reduceBNe, Int.reduceBEq, Nat.reduceAdd, Nat.reduceSub, Nat.reduceMul, Nat.reduceLT, Nat.reduceLeDiff, Nat.reduceEqDiff, Nat.zero_add, decide_true, decide_false, Bool.not_true, Bool.not_false, Bool.true_and, Bool.and_true, Bool.false_and, Bool.and_false, Bool.true_or, Bool.or_true, Bool.false_or, Bool.or_false, and_true, true_and, or_true, true_or, or_false, false_or, not_true_eq_false, not_false_eq_true, Bool.false_eq_true, reduceIte, Option.map_some, Option.bind_some, Option.map_none])
/-- the draws' row -/
theorem ints_get {ns : List Int} {k : Nat} (h : k < ns.length) : (ns.map PyData.int)[k]? = some (.int ns[k]) := by
  rw [List.getElem?_map, List.getElem?_eq_getElem h]; rfl
theorem is_integer_ok {i : Int} {Q : D → Bool → Prop} : wF S_is_integer [.int i] Q ↔ Q (.bool true) false := by
  unfold S_is_integer
  simp_arith [m_is_integer]
theorem is_from_ok {i lo hi : Int} {Q : D → Bool → Prop} : wF S_is_from [.int i, .int lo, .int hi] Q ↔ Q (.bool (decide (lo ≤ i ∧ i ≤ hi))) false := by
  unfold S_is_from
  simp_arith [m_is_from, is_integer_ok]
  by_cases h : lo ≤ i
  · simp_arith [h]
  · simp_arith [h]
theorem taken_ok {row : D} {m : Int} (h : RowOk row) (hm : 0 < m) (hm2 : m < 1073741824) {Q : D → Bool → D → Prop} (k : ∀ v row', 0 ≤ v → v < m → RowOk row' → Q (.int v) false row') : wFI S__law_taken row [.int m] Q := by
  obtain ⟨ns, a, b, c, rfl, ha⟩ := h
  refine wFI_run ?_
  simp_arith [m__law_taken]
  have h1 := Int.emod_nonneg c (show m ≠ 0 by omega)
  have h2 := Int.emod_lt_of_pos c hm
  have h3 := fun x : Int => Int.emod_nonneg x (show m ≠ 0 by omega)
  have h4 := fun x : Int => Int.emod_lt_of_pos x hm
  by_cases hc : 0 < c
  · simp_arith [hc, m__law_taken_1a1, m__law_taken_1a2, m__law_taken_1a3, hm, hm2]
    exact k _ _ h1 h2 ⟨ns, a, b, c / m, rfl, ha⟩
  · simp_arith [hc, m__law_taken_2, m__law_taken_3, List.length_map]
    by_cases hn : (ns.length : Int) < a + 1
    · simp_arith [hn, m__law_taken_3a1, m__law_taken_3a2, hm, hm2]
      exact k _ _ (h3 _) (h4 _) ⟨ns, a + 1, _, _, rfl, by omega⟩
    · have e : (ns.map PyData.int)[(a + 1 - 1).toNat]? = some (.int (ns[(a + 1 - 1).toNat]'(by omega))) := ints_get (by omega)
      simp_arith [hn, m__law_taken_4, show (0 : Int) ≤ a + 1 - 1 by omega, e, m__law_taken_5, m__law_taken_6, m__law_taken_7, hm, hm2]
      by_cases hg : (1000000000000000000 : Int) ≤ ns[(a + 1 - 1).toNat]'(by omega)
      · simp_arith [hg, hm, hm2]
        exact k _ _ (h3 _) (h4 _) ⟨ns, a + 1, _, _, rfl, by omega⟩
      · simp_arith [hg, hm, hm2, m__law_taken_7]
        exact k _ _ (h3 _) (h4 _) ⟨ns, a + 1, _, _, rfl, by omega⟩
theorem need_prime_7 : S_need_prime [.int 7, .int 5] = some (.none, false) := by kernel_rfl
theorem need_prime_11 : S_need_prime [.int 11, .int 5] = some (.none, false) := by kernel_rfl
theorem need_prime_13 : S_need_prime [.int 13, .int 5] = some (.none, false) := by kernel_rfl
theorem need_prime_101 : S_need_prime [.int 101, .int 5] = some (.none, false) := by kernel_rfl
theorem need_prime_65537 : S_need_prime [.int 65537, .int 5] = some (.none, false) := by kernel_rfl
theorem need_prime_ok {p : Int} (h : PP p) {Q : D → Bool → Prop} : wF S_need_prime [.int p, .int 5] Q ↔ Q .none false := by
  rcases h with rfl | rfl | rfl | rfl | rfl
  · exact wF_of need_prime_7
  · exact wF_of need_prime_11
  · exact wF_of need_prime_13
  · exact wF_of need_prime_101
  · exact wF_of need_prime_65537
theorem pp_b {p : Int} (h : PP p) : 7 ≤ p ∧ p ≤ 65537 := by rcases h with rfl | rfl | rfl | rfl | rfl <;> decide
theorem pick_ok {row : D} {ds : List D} (h : RowOk row) (h0 : 0 < ds.length) (h1 : ds.length < 1073741824) {Q : D → Bool → D → Prop} (k : ∀ (i : Nat) (hi : i < ds.length) row', RowOk row' → Q ds[i] false row') : wFI S__law_pick row [.list ds] Q := by
  refine wFI_run ?_
  simp_arith [m__law_pick]
  refine wM_CallI ?_
  simp_arith
  refine taken_ok h (by omega) (by omega) fun v row' v0 v1 hr => ?_
  have e : ds[v.toNat]? = some (ds[v.toNat]'(by omega)) := List.getElem?_eq_getElem _
  simp_arith [v0, e]
  exact k v.toNat (by omega) row' hr
theorem number_ok {row : D} {p : Int} (h : RowOk row) (hp : PP p) {Q : D → Bool → D → Prop} (k : ∀ v row', 0 ≤ v → v < p → RowOk row' → Q (.int v) false row') : wFI S__law_number row [.int p] Q := by
  have hp0 : 0 < p := by have := pp_b hp; omega
  refine wFI_run ?_
  simp_arith [m__law_number]
  refine wM_CallI ?_
  simp_arith
  refine taken_ok h (by decide) (by decide) fun v row' v0 v1 hr => ?_
  simp_arith
  by_cases h3 : v < 3
  · have hv : v = 0 ∨ v = 1 ∨ v = 2 := by omega
    rcases hv with rfl | rfl | rfl
    · simp_arith [m__law_number_2]
      exact k _ _ (by omega) (by omega) hr
    · simp_arith [m__law_number_2]
      exact k _ _ (by omega) (by have := pp_b hp; omega) hr
    · simp_arith [m__law_number_2]
      exact k _ _ (by omega) (by omega) hr
  · simp_arith [m__law_number_2, h3, m__law_number_3]
    refine wM_CallI ?_
    simp_arith
    refine taken_ok hr (by decide) (by decide) fun v2 row2 v0 v1 hr2 => ?_
    simp_arith
    refine wM_CallI ?_
    simp_arith
    refine taken_ok hr2 (by decide) (by decide) fun v3 row3 v0 v1 hr3 => ?_
    simp_arith [hp0]
    exact k _ _ (Int.emod_nonneg _ (by omega)) (Int.emod_lt_of_pos _ hp0) hr3
theorem numbers_ok {row : D} {p : Int} {m : Nat} (h : RowOk row) (hp : PP p) (hm : m ≤ 64) {Q : D → Bool → D → Prop} (k : ∀ (ns : List Int) row', ns.length = m → (∀ n ∈ ns, 0 ≤ n ∧ n < p) → RowOk row' → Q (.tuple (ns.map .int)) false row') : wFI S__law_numbers row [.int p, .int (m : Nat)] Q := by
  refine wFI_run ?_
  have hb : -4611686018427387904 ≤ ((m : Nat) : Int) ∧ ((m : Nat) : Int) < 4611686018427387904 := by omega
  have hz : (List.range m).length ≤ 16777216 := by rw [List.length_range]; omega
  simp_arith [hb, m__law_numbers, Int.toNat_natCast, List.length_map, hz]
  refine wC_inv (fun ys xs ρ => ∃ (ns : List Int) (row : D), ρ = [.io row, .fz (.int p), .fz (.int (m : Nat)), .emp] ∧ RowOk row ∧ ys = ns.map .int ∧ (∀ n ∈ ns, 0 ≤ n ∧ n < p) ∧ ns.length + xs.length = m) (ys := []) ⟨[], row, rfl, h, rfl, by simp, by simp⟩ ?_ ?_
  · rintro ys x xs ρ ⟨ns, row1, rfl, hr, rfl, hn, hl⟩
    simp_arith
    refine wM_CallI ?_
    simp_arith
    refine number_ok hr hp fun v row2 v0 v1 hr2 => ?_
    simp_arith
    refine ⟨ns ++ [v], row2, rfl, hr2, by rw [List.map_append]; rfl, fun n hn2 => ?_, ?_⟩
    · rcases List.mem_append.mp hn2 with z | z
      · exact hn n z
      · simp at z; subst z; exact ⟨v0, v1⟩
    · simp only [List.length_append, List.length_cons, List.length_nil] at hl ⊢; omega
  · rintro zs ρ ⟨ns, row1, rfl, hr, e, hn, hl⟩
    rw [List.nil_append] at e
    subst e
    simp_arith
    exact k ns row1 (by simpa using hl) hn hr
theorem is_number_ok {p i : Int} {Q : D → Bool → Prop} : wF S_is_number [.int p, .int i] Q ↔ Q (.bool (decide (0 ≤ i ∧ i ≤ p - 1))) false := by
  unfold S_is_number
  simp_arith [m_is_number, is_from_ok]
theorem are_numbers_ok {p lo hi : Int} {ns : List Int} (h : ∀ n ∈ ns, 0 ≤ n ∧ n < p) (hl : lo ≤ ns.length) (hh : (ns.length : Int) ≤ hi) (hz : ns.length ≤ 16777216) {Q : D → Bool → Prop} : wF S_are_numbers [.int p, .tuple (ns.map .int), .int lo, .int hi] Q ↔ Q (.bool true) false := by
  have e : wF S_are_numbers [.int p, .tuple (ns.map .int), .int lo, .int hi] (fun d o => d = .bool true ∧ o = false) := by
    unfold S_are_numbers
    simp_arith [m_are_numbers, List.length_map, hl, hh, hz]
    refine wC_maps PyData.int (fun n => .bool (decide (0 ≤ n ∧ n ≤ p - 1))) (fun n hn => ?_) ?_
    · show wG _ _ _ _
      simp_arith [is_number_ok]
    · have e : (ns.map fun n => decide (0 ≤ n ∧ n ≤ p - 1)).all id = true := all_mapf fun n hn => decide_eq_true ⟨(h n hn).1, by have := (h n hn).2; omega⟩
      simp_arith [e]
  exact wF_of (wF_eq e)
theorem number_ex {row : D} {p : Int} (h : RowOk row) (hp : PP p) : ∃ v row', S__law_number row [.int p] = some (.int v, false, row') ∧ (0 ≤ v ∧ v < p) ∧ RowOk row' := by
  obtain ⟨d, o, row', e, v, h1, h2, h3, h4, h5⟩ := number_ok h hp (Q := fun d o row' => ∃ v, d = .int v ∧ o = false ∧ 0 ≤ v ∧ v < p ∧ RowOk row') fun v row' a b c => ⟨v, rfl, rfl, a, b, c⟩
  subst h1 h2
  exact ⟨v, row', e, ⟨h3, h4⟩, h5⟩
theorem taken_ex {row : D} {m : Int} (h : RowOk row) (hm : 0 < m) (hm2 : m < 1073741824) : ∃ v row', S__law_taken row [.int m] = some (.int v, false, row') ∧ (0 ≤ v ∧ v < m) ∧ RowOk row' := by
  obtain ⟨d, o, row', e, v, h1, h2, h3, h4, h5⟩ := taken_ok h hm hm2 (Q := fun d o row' => ∃ v, d = .int v ∧ o = false ∧ 0 ≤ v ∧ v < m ∧ RowOk row') fun v row' a b c => ⟨v, rfl, rfl, a, b, c⟩
  subst h1 h2
  exact ⟨v, row', e, ⟨h3, h4⟩, h5⟩
theorem wFI_of {f : FSI} {row : D} {ds : List D} {d row' : D} {o : Bool} (h : f row ds = some (d, o, row')) {Q : D → Bool → D → Prop} : wFI f row ds Q ↔ Q d o row' := ⟨fun ⟨_, _, _, e, q⟩ => by rw [h] at e; cases e; exact q, fun q => ⟨_, _, _, h, q⟩⟩
/-! a log's walks -/
def ini (fs : List Int) : List (Int × Int) := fs.map fun v => (v, 0)
def fsD (fs : List Int) : D := .tuple (fs.map .int)
def dsD (ds : List Deed) : D := .tuple (ds.map deD)
def lsD (ls : List (Int × Int)) : D := .tuple (ls.map prD)
theorem pr_get {now : List (Int × Int)} {c : Nat} (h : c < now.length) : (now.map prD)[c]? = some (prD now[c]) := by
  rw [List.getElem?_map, List.getElem?_eq_getElem h]; rfl
theorem pr_set {now : List (Int × Int)} {c : Nat} {q : Int × Int} : (now.map prD).set c (prD q) = (now.set c q).map prD := by rw [List.map_set]
theorem pr_eq {a b : Int × Int} : PyData.eqv (prD a) (prD b) = decide (a = b) := by
  obtain ⟨a1, a2⟩ := a
  obtain ⟨b1, b2⟩ := b
  simp only [prD, eqv_tt, eqvs_cons, eqvs_nil, eqv_ii, Bool.and_true, Prod.mk.injEq]
  by_cases h : a1 = b1 <;> by_cases h2 : a2 = b2 <;> simp [h, h2]
theorem prs_eq : ∀ {a b : List (Int × Int)}, PyData.eqvAll (a.map prD) (b.map prD) = decide (a = b)
  | [], [] => by simp [eqvs_nil]
  | [], _ :: _ => by simp [eqvs_nc]
  | _ :: _, [] => by simp [eqvs_cn]
  | x :: a, y :: b => by
    rw [List.map_cons, List.map_cons, eqvs_cons, pr_eq, prs_eq]
    by_cases h : x = y <;> by_cases h2 : a = b <;> simp [h, h2]
theorem pr_shq {n : Nat} {q : Int × Int} : shq (n + 1) (prD q) = true := by simp [prD, shq_t, shq_i]
theorem prs_shq {n : Nat} {a : List (Int × Int)} : (a.map prD).all (shq (n + 1)) = true := by
  rw [List.all_eq_true]
  intro x hx
  obtain ⟨q, _, rfl⟩ := List.mem_map.mp hx
  exact pr_shq
theorem prs_shqT {a : List (Int × Int)} : shq 64 (.tuple (a.map prD)) = true := by rw [shq_t]; exact prs_shq
theorem ini_ok {fs : List Int} : (fs.map fun v => PyData.tuple [.int v, .int 0]) = (ini fs).map prD := by
  unfold ini
  rw [List.map_map]; rfl
theorem ini_len {fs : List Int} : (ini fs).length = fs.length := by unfold ini; rw [List.length_map]
theorem true_loop {a0 a1 : D} {ls : List (Int × Int)} {Q : D → Bool → Prop} : ∀ (ds : List Deed) (now : List (Int × Int)) (k : Nat) (e4 e5 e6 e7 e8 : Sl), (∀ d ∈ ds, d.c < now.length) →
    (wS (forL (gT [gN 4, gT [gN 5, gN 6, gN 7, gN 8]]) m__law_true_2f1 (enF (k : Nat) (ds.map deD))) [.fz a0, .fz a1, .fz (lsD ls), .ow (.list (now.map prD)), e4, e5, e6, e7, e8, .emp] (kSeq m__law_true_3 (kRun Q)) ↔ Q (.bool (decide (okLog now (k : Nat) ds = some ls))) false)
  | [], now, k, e4, e5, e6, e7, e8, h => by
    have hs := prs_shqT (a := now)
    have hs2 := prs_shqT (a := ls)
    unfold lsD
    simp_arith [enF_n, m__law_true_3, hs, hs2, prs_eq, okLog, Option.some.injEq]
  | d :: ds, now, k, e4, e5, e6, e7, e8, h => by
    have hc := h d List.mem_cons_self
    have e1 := pr_get hc
    have hq : PyData.tuple [.int d.old, .int d.told] = prD (d.old, d.told) := rfl
    have hq2 : PyData.tuple [.int d.new, .int (((k : Nat) : Int) + 1)] = prD (d.new, ((k : Nat) : Int) + 1) := rfl
    have hk : ((k : Nat) : Int) + 1 = ((k + 1 : Nat) : Int) := by omega
    have hx : ixN (now.map prD).length ((d.c : Nat) : Int) = some d.c := ixN_nat (by rw [List.length_map]; exact hc)
    rw [List.map_cons]
    unfold deD
    by_cases hb : now[d.c] = (d.old, d.told)
    · have ih := true_loop (a0 := a0) (a1 := a1) (ls := ls) (Q := Q) ds (now.set d.c (d.new, ((k : Nat) : Int) + 1)) (k + 1) (.fz (.int (k : Nat))) (.fz (.int (d.c : Nat))) (.fz (.int d.old)) (.fz (.int d.told)) (.fz (.int d.new)) (fun z hz => by rw [List.length_set]; exact h z (List.mem_cons_of_mem _ hz))
      rw [← hk] at ih
      have ho : okLog now (k : Nat) (d :: ds) = okLog (now.set d.c (d.new, ((k : Nat) : Int) + 1)) (((k : Nat) : Int) + 1) ds := by
        rw [okLog, List.getElem?_eq_getElem hc, hb, if_pos rfl]
      rw [ho, ← ih]
      simp_arith [m__law_true_2f1, m__law_true_2f2, MM.atI_nat, e1, hq, hq2, pr_eq, pr_shq, hb, hx, pr_set, decide_rfl]
      rfl
    · have ho : okLog now (k : Nat) (d :: ds) = none := by
        rw [okLog, List.getElem?_eq_getElem hc, if_neg (by simpa using hb)]
      rw [ho]
      simp_arith [m__law_true_2f1, m__law_true_2f2, MM.atI_nat, e1, hq, pr_eq, pr_shq, hb, reduceCtorEq]
theorem ltrue_ok {fs : List Int} {ds : List Deed} {ls : List (Int × Int)} (h : ∀ d ∈ ds, d.c < fs.length) (h3 : fs.length ≤ 16) {Q : D → Bool → Prop} : wF S__law_true [fsD fs, dsD ds, lsD ls] Q ↔ Q (.bool (decide (okLog (ini fs) 0 ds = some ls))) false := by
  have e : wF S__law_true [fsD fs, dsD ds, lsD ls] (fun d o => d = .bool (decide (okLog (ini fs) 0 ds = some ls)) ∧ o = false) := by
    unfold S__law_true fsD dsD
    simp_arith [m__law_true, List.length_map, show fs.length ≤ 16777216 by omega]
    refine wC_maps PyData.int (fun v => .tuple [.int v, .int 0]) (fun v hv => ?_) ?_
    · show wG _ _ _ _
      simp_arith
    simp_arith [ini_ok, m__law_true_2, enumD_e]
    exact (true_loop ds (ini fs) 0 _ _ _ _ _ (fun d hd => by rw [ini_len]; exact h d hd)).mpr ⟨rfl, rfl⟩
  exact wF_of (wF_eq e)
/-! is_true_log -/
def memF : List (Int × Int) → Int → Bool → List Deed → Bool × List (Int × Int)
  | now, _, g, [] => (g, now)
  | now, t, g, d :: r => memF (now.set d.c (d.new, t + 1)) (t + 1) (g && decide (now[d.c]? = some (d.old, d.told))) r
theorem memF_false : ∀ (ds : List Deed) (now : List (Int × Int)) (t : Int), (memF now t false ds).1 = false
  | [], _, _ => rfl
  | d :: r, now, t => by rw [memF, Bool.false_and]; exact memF_false r _ _
theorem memF_ok : ∀ (ds : List Deed) (now : List (Int × Int)) (t : Int), okLog now t ds = if (memF now t true ds).1 = true then some (memF now t true ds).2 else none
  | [], now, t => rfl
  | d :: r, now, t => by
    rw [okLog, memF, Bool.true_and]
    by_cases h : now[d.c]? = some (d.old, d.told)
    · rw [if_pos h, decide_eq_true h]; exact memF_ok r _ _
    · rw [if_neg h, decide_eq_false h, memF_false]; rfl
theorem mem_loop {a0 a1 : D} {Q : D → Bool → Prop} : ∀ (ds : List Deed) (now : List (Int × Int)) (k : Nat) (g : Bool) (e4 e5 e6 e7 e8 : Sl), (∀ d ∈ ds, d.c < now.length) →
    (wS (forL (gT [gN 4, gT [gN 5, gN 6, gN 7, gN 8]]) m_memory_behind_2f1 (enF (k : Nat) (ds.map deD))) [.fz a0, .fz a1, .ow (.list (now.map prD)), .fz (.bool g), e4, e5, e6, e7, e8, .emp] (kSeq m_memory_behind_3 (kRun Q)) ↔ Q (.tuple [.bool (memF now (k : Nat) g ds).1, .list ((memF now (k : Nat) g ds).2.map prD)]) false)
  | [], now, k, g, e4, e5, e6, e7, e8, h => by
    simp_arith [enF_n, m_memory_behind_3, memF]
  | d :: ds, now, k, g, e4, e5, e6, e7, e8, h => by
    have hc := h d List.mem_cons_self
    have e1 := pr_get hc
    have hq : PyData.tuple [.int d.old, .int d.told] = prD (d.old, d.told) := rfl
    have hq2 : PyData.tuple [.int d.new, .int (((k : Nat) : Int) + 1)] = prD (d.new, ((k : Nat) : Int) + 1) := rfl
    have hk : ((k : Nat) : Int) + 1 = ((k + 1 : Nat) : Int) := by omega
    have hx : ixN (now.map prD).length ((d.c : Nat) : Int) = some d.c := ixN_nat (by rw [List.length_map]; exact hc)
    have ih := fun g' => mem_loop (a0 := a0) (a1 := a1) (Q := Q) ds (now.set d.c (d.new, ((k : Nat) : Int) + 1)) (k + 1) g' (.fz (.int (k : Nat))) (.fz (.int (d.c : Nat))) (.fz (.int d.old)) (.fz (.int d.told)) (.fz (.int d.new)) (fun z hz => by rw [List.length_set]; exact h z (List.mem_cons_of_mem _ hz))
    rw [← hk] at ih
    have e0 : decide (now[d.c]? = some (d.old, d.told)) = decide (now[d.c] = (d.old, d.told)) := by rw [List.getElem?_eq_getElem hc]; simp only [Option.some.injEq]
    rw [List.map_cons, memF, e0]
    unfold deD
    cases g with
    | true =>
      rw [← ih]
      simp_arith [m_memory_behind_2f1, m_memory_behind_2f2, MM.atI_nat, e1, hq, hq2, pr_eq, pr_shq, hx, pr_set]
      rfl
    | false =>
      rw [← ih]
      simp_arith [m_memory_behind_2f1, m_memory_behind_2f2, MM.atI_nat, e1, hq, hq2, pr_eq, pr_shq, hx, pr_set]
      rfl
theorem behind_ok {fs : List Int} {ds : List Deed} (h : ∀ d ∈ ds, d.c < fs.length) (h3 : fs.length ≤ 16) {Q : D → Bool → Prop} : wF S_memory_behind [fsD fs, dsD ds] Q ↔ Q (.tuple [.bool (memF (ini fs) 0 true ds).1, .list ((memF (ini fs) 0 true ds).2.map prD)]) false := by
  have e : wF S_memory_behind [fsD fs, dsD ds] (fun d o => d = .tuple [.bool (memF (ini fs) 0 true ds).1, .list ((memF (ini fs) 0 true ds).2.map prD)] ∧ o = false) := by
    unfold S_memory_behind fsD dsD
    simp_arith [m_memory_behind, List.length_map, show fs.length ≤ 16777216 by omega]
    refine wC_maps PyData.int (fun v => .tuple [.int v, .int 0]) (fun v hv => ?_) ?_
    · show wG _ _ _ _
      simp_arith
    simp_arith [ini_ok, m_memory_behind_2, enumD_e]
    exact (mem_loop ds (ini fs) 0 true _ _ _ _ _ (fun d hd => by rw [ini_len]; exact h d hd)).mpr ⟨rfl, rfl⟩
  exact wF_of (wF_eq e)
theorem is_whole_ok {ns : List Int} {m : Nat} (h : ∀ n ∈ ns, 0 ≤ n) (hl : ns.length = m) (hz : m ≤ 16777216) {Q : D → Bool → Prop} : wF S_is_whole [.tuple (ns.map .int), .int (m : Nat)] Q ↔ Q (.bool true) false := by
  have e : wF S_is_whole [.tuple (ns.map .int), .int (m : Nat)] (fun d o => d = .bool true ∧ o = false) := by
    unfold S_is_whole
    simp_arith [m_is_whole, List.length_map, hl, hz, decide_rfl, dEq_ii]
    refine wC_maps PyData.int (fun n => .bool (decide (0 ≤ n))) (fun n hn => ?_) ?_
    · show wG _ _ _ _
      simp_arith [is_integer_ok]
    · have e : (ns.map fun n => decide (0 ≤ n)).all id = true := all_mapf fun n hn => decide_eq_true (h n hn)
      simp_arith [e]
  exact wF_of (wF_eq e)
theorem firsts_ok {fs : List Int} (h : ∀ n ∈ fs, 0 ≤ n) (h1 : 1 ≤ fs.length) (h2 : fs.length ≤ 16) {Q : D → Bool → Prop} : wF S_are_whole_firsts [fsD fs] Q ↔ Q (.bool true) false := by
  unfold S_are_whole_firsts fsD
  have a1 : (1 : Int) ≤ ((fs.length : Nat) : Int) := by omega
  have a2 : ((fs.length : Nat) : Int) ≤ 16 := by omega
  simp_arith [m_are_whole_firsts, List.length_map, a1, a2, is_whole_ok h rfl (by omega)]
/-- a deed's numbers -/
theorem deD_i {d : Deed} : deD d = .tuple ([((d.c : Nat) : Int), d.old, d.told, d.new].map .int) := rfl
theorem prD_i {q : Int × Int} : prD q = .tuple ([q.1, q.2].map .int) := rfl
structure Wh (n : Nat) (ds : List Deed) : Prop where
  d60 : ds.length ≤ 60
  dc : ∀ d ∈ ds, d.c < n
  dr : ∀ d ∈ ds, 0 ≤ d.old ∧ 0 ≤ d.told ∧ 0 ≤ d.new
theorem Lg.wh {p : Int} {n : Nat} {ds : List Deed} {ls : List (Int × Int)} (h : Lg p n ds ls) : Wh n ds := ⟨by have := h.d5; omega, h.dc, fun d hd => by have := h.dr d hd; exact ⟨this.1.1, this.2.1.1, this.2.2.1⟩⟩
theorem deeds_ok {fs : List Int} {ds : List Deed} (h : Wh fs.length ds) {Q : D → Bool → Prop} : wF S_are_whole_deeds [fsD fs, dsD ds] Q ↔ Q (.bool true) false := by
  have e : wF S_are_whole_deeds [fsD fs, dsD ds] (fun d o => d = .bool true ∧ o = false) := by
    have hl := h.d60
    unfold S_are_whole_deeds fsD dsD
    simp_arith [m_are_whole_deeds, m_are_whole_deeds_2, List.length_map, show ¬ (60 : Int) < ((ds.length : Nat) : Int) by omega, show ds.length ≤ 16777216 by omega]
    refine wC_maps deD (fun _ => .bool true) (fun d hd => ?_) ?_
    · show wG _ _ _ _
      have hr := h.dr d hd
      have hc := h.dc d hd
      have hw := fun {Q : D → Bool → Prop} => is_whole_ok (ns := [((d.c : Nat) : Int), d.old, d.told, d.new]) (m := 4) (by
        intro n hn
        simp only [List.mem_cons, List.not_mem_nil, or_false] at hn
        rcases hn with rfl | rfl | rfl | rfl <;> omega) rfl (by decide) (Q := Q)
      have hlt : ((d.c : Nat) : Int) < ((fs.length : Nat) : Int) := by omega
      simp only [wI_Range3, wM_Fld, wS_SetF, wM_Meth, wM_Make, wS_AugF, wM_C, wM_Var, wM_Bin, wM_Un, wM_If, wM_Tup, wM_Lst, wA_Nil, wA_Cons, wM_AndV, wM_OrV, wM_CmpV, wM_IxAV, wM_IxA, wM_LenV, wM_InAV, wP_none, wP_some, wM_SlV, wM_Sl, wM_Call, wM_Apply, wM_ListOf, wM_ListRange, wM_DictE, wPr_nil, wPr_cons, wM_Dict, wM_Pop, wM_Chain, wM_InC, wM_NotInC, wT_B, wT_Tru, wT_Not, wT_And, wT_Or, wT_Yes, wS_Skip, wS_Brk, wS_Cont, wS_RetN, wS_Stuck, mTupS_w, mLstS_w, wA_Star, wS_Seq, wS_Do, wS_Ret, wS_RetO, wS_Set, wS_SetO, wS_If, wAF_nil, wAF_cons, wS_Par, setAll_nil, setAll_fz, setAll_ow, wS_Unp, wG_N, wG_T, wGs_nil, wGs_cons, wS_SetA, wG_SubA, wS_App, wS_Aug, wS_For, wS_for0, wS_for1, wI_Of, wI_Range1, wI_Range2, wI_En, wI_Zp, wI_Revs, wI_Con, wM_Comp, wC_nil, wC_cons, wF_run, wO_some, wO_none, wO_ite, wO_map, wO_bind, kRg, kRg3, rg3_i, kFld, kSF2, kSF1, kMe3, kMe2, kMe1, kMe0, kMk2, kMk1, kAF4, kAFb, kAFa, kAF0, objK_o, objK_i, lookF_n, lookF_c, putFD_n, putFD_c, kTupS, kLstS, kStar1, kStar2, kStar3, kMap, kBind, kR, kB2, kB1, kU, kLst, kC2, kC1, kIV3, kIV2, kIV1, kLenV, kInV2, kInV, kSV3, kSV2, kSV1, kSV0, kS2, kS1, kS0, kF, kCall, kCI2, kCI1, kCI0, kAp, kListOf, kPr3, kPr2, kPr1, kDict, kPop, kCh3, kCh2, kCh1, kTru, kNot, kDo, kRet, kSet, kSetO, kAF2, kAF1, kPar, kNx, kUnp, kGs, kSt4, kSt3, kSt2, kSt1, kSt0, kGS4, kGS3, kGS2, kGS1, kAp3, kAp2, kAp1, kAug2, kAug1, kFor, kF1, kOf, kRange2, kEn, kZp3, kZp2b, kZp2, kZp1, kRevs, kLi, kComp, kCo3, kCo2, kCo0, MM.kTup, kVar_f, kVar_o, objD_l, objD_d, kIf_t, kIf_f, kAndV_t, kAndV_f, kOrV_t, kOrV_f, kP_i, sameK_o, sameK_i, kListRange_i, kChT_t, kChT_f, kB_b, kAnd_t, kAnd_f, kOr_t, kOr_f, kSeq_n, kSeq_b, kSeq_c, kSeq_r, kIfS_t, kIfS_f, kAug_f, kF2_n, kF2_c, kF2_b, kF2_r, kW2_n, kW2_c, kW2_b, kW2_r, kW1_t, kW1_f, kRange1_i, kRange2b_i, kCo1_t, kCo1_f, kRun_r, kRun_n, kRunI_r, kRunI_n, kRunI2_i, slK_f, slK_o, slK_i, owK_o, owK_i, putK_o, putK_i, bInt_ii, bCmp_ii, dAdd_ii, dAdd_ll, dAdd_tt, dJoin_sl, dStrs_n, dStrs_c, fStr1_i, fIntS_s, dSplit_ss, dMulS_si, dAdd_st, fMax2_ii, fMin2_ii, dLen_s, dInA_l, dFlat_n, dEqF_in, dEqF_nn, dEqF_sn, dCatL_ll, dIxA_l, dIxA_t, dIxA_d, dLen_l, dLen_t, fInt_i, fInt_b, fTuple_l, fTuple_t, dNot_b, dTru_b, dTru_i, dSeq_l, dSeq_t, dSq_l, dSq_t, dSl_l, dSl_t, dSetA_l, dApp_l, isL_l, dRepL_li, dNeg_i, dIsN_n, dIsN_i, dIsi_int_int, dIsi_bool_int, dIsi_tuple_tuple, dIsi_tuple_list, dIsi_str_str, dIsi_int_str, dIsi_tuple_int, dEq_ii, dNe_ii, dEq_bb, dNe_bb, slD_k, ownD_k, putD_k, atI_pos, ixN_pos, gMul, gDiv, gMod, gPow_10_18, gPow_10_6, gPow_sq, pLt, pLe, pGt, pGe, dFlat_s, dFlat_i, dFlat_b, dInA_t, dNotInA_t, dIn_c, dNotIn_c, List.any_cons, List.any_nil, dBits_i, dBools_mapf, enumD_e, enF_c, enF_n, zipD_c, zipD_n, zipD_n2, wO_eq, wO_ne, eqv_ii, eqv_ss, eqv_tt, eqv_ll, eqv_bb, eqv_is, eqv_si, eqv_tl, eqv_lt, eqvs_nil, eqvs_cons, eqvs_nc, eqvs_cn, shq_i, shq_b, shq_n, shq_s, shq_t, shq_l, dEqF_ss, dEqF_ii, str_beq, String.reduceBEq, String.reduceEq, keyD_s, keyD_i, key_ss, atK_nil, atK_cons, dInA_d, dNotInA_d, fAll_l, fAny_l, dBools_n, dBools_c, List.all_cons, List.all_nil, Option.isSome_some, Option.isSome_none, id, eq_self, false_and, and_false, List.getElem?_cons_succ, List.getElem?_cons_zero, List.set_cons_succ, List.set_cons_zero, List.length_cons, List.length_nil, List.append_nil, List.nil_append, List.cons_append, wipeE, ent, List.map_cons, List.map_nil, List.replicate_succ, List.replicate_zero, Int.cast_ofNat_Int, Int.reduceAdd, Int.reduceSub, Int.reduceMul, Int.reduceDiv, Int.reduceMod, Int.reduceLT, Int.reduceLE, Int.reduceEq, Int.reduceNeg, Int.reducePow, Nat.reducePow, Int.reduceToNat, Int.reduceBNe, Int.reduceBEq, Nat.reduceAdd, Nat.reduceSub, Nat.reduceMul, Nat.reduceLT, Nat.reduceLeDiff, Nat.reduceEqDiff, Nat.zero_add, decide_true, decide_false, Bool.not_true, Bool.not_false, Bool.true_and, Bool.and_true, Bool.false_and, Bool.and_false, Bool.true_or, Bool.or_true, Bool.false_or, Bool.or_false, and_true, true_and, or_true, true_or, or_false, false_or, not_true_eq_false, not_false_eq_true, Bool.false_eq_true, reduceIte, Option.map_some, Option.bind_some, Option.map_none] at hw
      unfold deD
      simp_arith [hw, List.length_map, hlt]
    · have e : (ds.map fun _ => true).all id = true := all_mapf fun _ _ => rfl
      simp_arith [e]
  exact wF_of (wF_eq e)
theorem is_true_ok {p : Int} {fs : List Int} {ds : List Deed} {ls : List (Int × Int)} (h : Lg p fs.length ds ls) (hf : ∀ n ∈ fs, 0 ≤ n) (h1 : 1 ≤ fs.length) (h2 : fs.length ≤ 16) {Q : D → Bool → Prop} : wF S_is_true_log [fsD fs, dsD ds, lsD ls] Q ↔ Q (.bool (decide (okLog (ini fs) 0 ds = some ls))) false := by
  have e : wF S_is_true_log [fsD fs, dsD ds, lsD ls] (fun d o => d = .bool (decide (okLog (ini fs) 0 ds = some ls)) ∧ o = false) := by
    have hls := h.ll
    unfold S_is_true_log lsD
    simp_arith [m_is_true_log, firsts_ok hf h1 h2, deeds_ok h.wh, m_is_true_log_2, List.length_map, show ls.length ≤ 16777216 by omega]
    refine wC_maps prD (fun _ => .bool true) (fun d hd => ?_) ?_
    · show wG _ _ _ _
      have hr := h.lr d hd
      have hw := fun {Q : D → Bool → Prop} => is_whole_ok (ns := [d.1, d.2]) (m := 2) (by
        intro n hn
        simp only [List.mem_cons, List.not_mem_nil, or_false] at hn
        rcases hn with rfl | rfl <;> omega) rfl (by decide) (Q := Q)
      simp only [wI_Range3, wM_Fld, wS_SetF, wM_Meth, wM_Make, wS_AugF, wM_C, wM_Var, wM_Bin, wM_Un, wM_If, wM_Tup, wM_Lst, wA_Nil, wA_Cons, wM_AndV, wM_OrV, wM_CmpV, wM_IxAV, wM_IxA, wM_LenV, wM_InAV, wP_none, wP_some, wM_SlV, wM_Sl, wM_Call, wM_Apply, wM_ListOf, wM_ListRange, wM_DictE, wPr_nil, wPr_cons, wM_Dict, wM_Pop, wM_Chain, wM_InC, wM_NotInC, wT_B, wT_Tru, wT_Not, wT_And, wT_Or, wT_Yes, wS_Skip, wS_Brk, wS_Cont, wS_RetN, wS_Stuck, mTupS_w, mLstS_w, wA_Star, wS_Seq, wS_Do, wS_Ret, wS_RetO, wS_Set, wS_SetO, wS_If, wAF_nil, wAF_cons, wS_Par, setAll_nil, setAll_fz, setAll_ow, wS_Unp, wG_N, wG_T, wGs_nil, wGs_cons, wS_SetA, wG_SubA, wS_App, wS_Aug, wS_For, wS_for0, wS_for1, wI_Of, wI_Range1, wI_Range2, wI_En, wI_Zp, wI_Revs, wI_Con, wM_Comp, wC_nil, wC_cons, wF_run, wO_some, wO_none, wO_ite, wO_map, wO_bind, kRg, kRg3, rg3_i, kFld, kSF2, kSF1, kMe3, kMe2, kMe1, kMe0, kMk2, kMk1, kAF4, kAFb, kAFa, kAF0, objK_o, objK_i, lookF_n, lookF_c, putFD_n, putFD_c, kTupS, kLstS, kStar1, kStar2, kStar3, kMap, kBind, kR, kB2, kB1, kU, kLst, kC2, kC1, kIV3, kIV2, kIV1, kLenV, kInV2, kInV, kSV3, kSV2, kSV1, kSV0, kS2, kS1, kS0, kF, kCall, kCI2, kCI1, kCI0, kAp, kListOf, kPr3, kPr2, kPr1, kDict, kPop, kCh3, kCh2, kCh1, kTru, kNot, kDo, kRet, kSet, kSetO, kAF2, kAF1, kPar, kNx, kUnp, kGs, kSt4, kSt3, kSt2, kSt1, kSt0, kGS4, kGS3, kGS2, kGS1, kAp3, kAp2, kAp1, kAug2, kAug1, kFor, kF1, kOf, kRange2, kEn, kZp3, kZp2b, kZp2, kZp1, kRevs, kLi, kComp, kCo3, kCo2, kCo0, MM.kTup, kVar_f, kVar_o, objD_l, objD_d, kIf_t, kIf_f, kAndV_t, kAndV_f, kOrV_t, kOrV_f, kP_i, sameK_o, sameK_i, kListRange_i, kChT_t, kChT_f, kB_b, kAnd_t, kAnd_f, kOr_t, kOr_f, kSeq_n, kSeq_b, kSeq_c, kSeq_r, kIfS_t, kIfS_f, kAug_f, kF2_n, kF2_c, kF2_b, kF2_r, kW2_n, kW2_c, kW2_b, kW2_r, kW1_t, kW1_f, kRange1_i, kRange2b_i, kCo1_t, kCo1_f, kRun_r, kRun_n, kRunI_r, kRunI_n, kRunI2_i, slK_f, slK_o, slK_i, owK_o, owK_i, putK_o, putK_i, bInt_ii, bCmp_ii, dAdd_ii, dAdd_ll, dAdd_tt, dJoin_sl, dStrs_n, dStrs_c, fStr1_i, fIntS_s, dSplit_ss, dMulS_si, dAdd_st, fMax2_ii, fMin2_ii, dLen_s, dInA_l, dFlat_n, dEqF_in, dEqF_nn, dEqF_sn, dCatL_ll, dIxA_l, dIxA_t, dIxA_d, dLen_l, dLen_t, fInt_i, fInt_b, fTuple_l, fTuple_t, dNot_b, dTru_b, dTru_i, dSeq_l, dSeq_t, dSq_l, dSq_t, dSl_l, dSl_t, dSetA_l, dApp_l, isL_l, dRepL_li, dNeg_i, dIsN_n, dIsN_i, dIsi_int_int, dIsi_bool_int, dIsi_tuple_tuple, dIsi_tuple_list, dIsi_str_str, dIsi_int_str, dIsi_tuple_int, dEq_ii, dNe_ii, dEq_bb, dNe_bb, slD_k, ownD_k, putD_k, atI_pos, ixN_pos, gMul, gDiv, gMod, gPow_10_18, gPow_10_6, gPow_sq, pLt, pLe, pGt, pGe, dFlat_s, dFlat_i, dFlat_b, dInA_t, dNotInA_t, dIn_c, dNotIn_c, List.any_cons, List.any_nil, dBits_i, dBools_mapf, enumD_e, enF_c, enF_n, zipD_c, zipD_n, zipD_n2, wO_eq, wO_ne, eqv_ii, eqv_ss, eqv_tt, eqv_ll, eqv_bb, eqv_is, eqv_si, eqv_tl, eqv_lt, eqvs_nil, eqvs_cons, eqvs_nc, eqvs_cn, shq_i, shq_b, shq_n, shq_s, shq_t, shq_l, dEqF_ss, dEqF_ii, str_beq, String.reduceBEq, String.reduceEq, keyD_s, keyD_i, key_ss, atK_nil, atK_cons, dInA_d, dNotInA_d, fAll_l, fAny_l, dBools_n, dBools_c, List.all_cons, List.all_nil, Option.isSome_some, Option.isSome_none, id, eq_self, false_and, and_false, List.getElem?_cons_succ, List.getElem?_cons_zero, List.set_cons_succ, List.set_cons_zero, List.length_cons, List.length_nil, List.append_nil, List.nil_append, List.cons_append, wipeE, ent, List.map_cons, List.map_nil, List.replicate_succ, List.replicate_zero, Int.cast_ofNat_Int, Int.reduceAdd, Int.reduceSub, Int.reduceMul, Int.reduceDiv, Int.reduceMod, Int.reduceLT, Int.reduceLE, Int.reduceEq, Int.reduceNeg, Int.reducePow, Nat.reducePow, Int.reduceToNat, Int.reduceBNe, Int.reduceBEq, Nat.reduceAdd, Nat.reduceSub, Nat.reduceMul, Nat.reduceLT, Nat.reduceLeDiff, Nat.reduceEqDiff, Nat.zero_add, decide_true, decide_false, Bool.not_true, Bool.not_false, Bool.true_and, Bool.and_true, Bool.false_and, Bool.and_false, Bool.true_or, Bool.or_true, Bool.false_or, Bool.or_false, and_true, true_and, or_true, true_or, or_false, false_or, not_true_eq_false, not_false_eq_true, Bool.false_eq_true, reduceIte, Option.map_some, Option.bind_some, Option.map_none] at hw
      unfold prD
      simp_arith [hw]
    have e : (ls.map fun _ => true).all id = true := all_mapf fun _ _ => rfl
    have ho := memF_ok ds (ini fs) 0
    have hs := prs_shqT (a := (memF (ini fs) 0 true ds).2)
    have hs2 := prs_shqT (a := ls)
    simp_arith [e, m_is_true_log_3, behind_ok h.dc h2, m_is_true_log_4]
    cases hg : (memF (ini fs) 0 true ds).1 with
    | true =>
      rw [hg, if_pos rfl] at ho
      rw [ho]
      simp_arith [hs, hs2, prs_eq, Option.some.injEq]
    | false =>
      rw [hg] at ho
      rw [ho]
      simp_arith [reduceCtorEq]
  exact wF_of (wF_eq e)
/-! bags -/
def toT : List Int → Tri
  | [c, v, t] => ⟨c, v, t⟩
  | _ => ⟨0, 0, 0⟩
def triD (x : Tri) : D := .tuple [.int x.c, .int x.v, .int x.t]
def is3 (r : List Int) : Prop := r.length = 3
theorem toT_l {r : List Int} (h : is3 r) : (toT r).l = r ∧ encR r = triD (toT r) := by
  match r, h with
  | [a, b, c], _ => exact ⟨rfl, rfl⟩
theorem encR_tri {rows : List (List Int)} (h : ∀ r ∈ rows, is3 r) : rows.map encR = (rows.map toT).map triD := by
  rw [List.map_map]
  exact List.map_congr_left fun r hr => (toT_l (h r hr)).2
theorem perm_tri {A B : List (List Int)} (ha : ∀ r ∈ A, is3 r) (hb : ∀ r ∈ B, is3 r) : (A.map toT).Perm (B.map toT) ↔ A.Perm B := by
  refine ⟨fun h => ?_, fun h => h.map _⟩
  have q := h.map Tri.l
  rw [List.map_map, List.map_map] at q
  have e : ∀ {C : List (List Int)}, (∀ r ∈ C, is3 r) → C.map (Tri.l ∘ toT) = C := fun {C} hc => by
    conv => rhs; rw [← List.map_id C]
    exact List.map_congr_left fun r hr => (toT_l (hc r hr)).1
  rw [e ha, e hb] at q
  exact q
theorem cellsF3 : ∀ (now : List (Int × Int)) (k : Nat), ∀ r ∈ cellsF k now, is3 r
  | [], _, r, h => by simp [cellsF] at h
  | q :: now, k, r, h => by
    rw [cellsF, List.mem_cons] at h
    rcases h with rfl | h
    · rfl
    · exact cellsF3 now _ r h
theorem putsF3 : ∀ (ds : List Deed) (t : Int), ∀ r ∈ putsF t ds, is3 r
  | [], _, r, h => by simp [putsF] at h
  | q :: now, k, r, h => by
    rw [putsF, List.mem_cons] at h
    rcases h with rfl | h
    · rfl
    · exact putsF3 now _ r h
theorem taksF3 (ds : List Deed) : ∀ r ∈ taksF ds, is3 r := fun r h => by
  obtain ⟨d, _, rfl⟩ := List.mem_map.mp h
  rfl
def putL (fs : List Int) (ds : List Deed) : List (List Int) := cellsF 0 (ini fs) ++ putsF 0 ds
def takL (ds : List Deed) (ls : List (Int × Int)) : List (List Int) := taksF ds ++ cellsF 0 ls
def bagD (rows : List (List Int)) : D := .tuple (rows.map encR)
theorem put3 {fs : List Int} {ds : List Deed} : ∀ r ∈ putL fs ds, is3 r := fun r h => by
  rcases List.mem_append.mp h with h | h
  · exact cellsF3 _ _ r h
  · exact putsF3 _ _ r h
theorem tak3 {ds : List Deed} {ls : List (Int × Int)} : ∀ r ∈ takL ds ls, is3 r := fun r h => by
  rcases List.mem_append.mp h with h | h
  · exact taksF3 _ r h
  · exact cellsF3 _ _ r h
theorem cells_enM : ∀ (fs : List Int) (k : Nat), enM (fun j v => PyData.tuple [.int j, .int v, .int 0]) (k : Nat) fs = (cellsF k (ini fs)).map encR
  | [], _ => rfl
  | f :: fs, k => by
    have := cells_enM fs (k + 1)
    rw [show ((k + 1 : Nat) : Int) = ((k : Nat) : Int) + 1 by omega] at this
    show PyData.tuple _ :: enM _ _ _ = _
    rw [this]
    rfl
theorem cells_enM2 : ∀ (fs : List (Int × Int)) (k : Nat), enM (fun j (v : Int × Int) => PyData.tuple [.int j, .int v.1, .int v.2]) (k : Nat) fs = (cellsF k fs).map encR
  | [], _ => rfl
  | f :: fs, k => by
    have := cells_enM2 fs (k + 1)
    rw [show ((k + 1 : Nat) : Int) = ((k : Nat) : Int) + 1 by omega] at this
    show PyData.tuple _ :: enM _ _ _ = _
    rw [this]
    rfl
theorem puts_enM : ∀ (fs : List Deed) (k : Int), enM (fun j (d : Deed) => PyData.tuple [.int (d.c : Nat), .int d.new, .int (j + 1)]) k fs = (putsF k fs).map encR
  | [], _ => rfl
  | f :: fs, k => by
    have := puts_enM fs (k + 1)
    show PyData.tuple _ :: enM _ _ _ = _
    rw [this]
    rfl
theorem taks_map (ds : List Deed) : (ds.map fun d => PyData.tuple [.int (d.c : Nat), .int d.old, .int d.told]) = (taksF ds).map encR := by
  unfold taksF
  rw [List.map_map]; rfl
theorem putsF_len : ∀ {ds : List Deed} {t : Int}, (putsF t ds).length = ds.length
  | [], _ => rfl
  | _ :: ds, t => by rw [putsF, List.length_cons, List.length_cons, putsF_len]
theorem put_len {fs : List Int} {ds : List Deed} : (putL fs ds).length = fs.length + ds.length := by
  unfold putL
  rw [List.length_append, cellsF_len, putsF_len, ini_len]
theorem tak_len {ds : List Deed} {ls : List (Int × Int)} : (takL ds ls).length = ds.length + ls.length := by
  unfold takL taksF
  rw [List.length_append, cellsF_len, List.length_map]
theorem put_ok {fs : List Int} {ds : List Deed} (h3 : fs.length ≤ 16) (hd : ds.length ≤ 60) {Q : D → Bool → Prop} : wF S_put_bag [fsD fs, dsD ds] Q ↔ Q (bagD (putL fs ds)) false := by
  have e : wF S_put_bag [fsD fs, dsD ds] (fun d o => d = bagD (putL fs ds) ∧ o = false) := by
    have hl1 : (enF 0 (fs.map PyData.int)).length ≤ 16777216 := by rw [← enumD_e]; unfold enumD; simp; omega
    have hl2 : (enF 0 (ds.map deD)).length ≤ 16777216 := by rw [← enumD_e]; unfold enumD; simp; omega
    unfold S_put_bag fsD dsD
    simp_arith [m_put_bag, enumD_e, hl1]
    refine wC_en PyData.int (fun j v => PyData.tuple [.int j, .int v, .int 0]) fs 0 (fun x hx j => ?_) ?_
    · show wG _ _ _ _
      simp_arith
    simp_arith [m_put_bag_2, enumD_e, hl2]
    refine wC_en deD (fun j (d : Deed) => PyData.tuple [.int (d.c : Nat), .int d.new, .int (j + 1)]) ds 0 (fun d hx j => ?_) ?_
    · show wG _ _ _ _
      unfold deD
      simp_arith
    simp_arith [enM_len, show fs.length + ds.length ≤ 16777216 by omega]
    have h1 := cells_enM fs 0
    rw [show ((0 : Nat) : Int) = 0 from rfl] at h1
    rw [h1, puts_enM, ← List.map_append]
    rfl
  exact wF_of (wF_eq e)
theorem tak_ok {ds : List Deed} {ls : List (Int × Int)} (h3 : ls.length ≤ 16) (hd : ds.length ≤ 60) {Q : D → Bool → Prop} : wF S_taken_bag [dsD ds, lsD ls] Q ↔ Q (bagD (takL ds ls)) false := by
  have e : wF S_taken_bag [dsD ds, lsD ls] (fun d o => d = bagD (takL ds ls) ∧ o = false) := by
    have hl2 : (enF 0 (ls.map prD)).length ≤ 16777216 := by rw [← enumD_e]; unfold enumD; simp; omega
    unfold S_taken_bag lsD dsD
    simp_arith [m_taken_bag, List.length_map, show ds.length ≤ 16777216 by omega]
    refine wC_maps deD (fun d => PyData.tuple [.int (d.c : Nat), .int d.old, .int d.told]) (fun d hd => ?_) ?_
    · show wG _ _ _ _
      unfold deD
      simp_arith
    simp_arith [m_taken_bag_2, enumD_e, hl2]
    refine wC_en prD (fun j (v : Int × Int) => PyData.tuple [.int j, .int v.1, .int v.2]) ls 0 (fun d hx j => ?_) ?_
    · show wG _ _ _ _
      unfold prD
      simp_arith
    simp_arith [enM_len, List.length_map, show ds.length + ls.length ≤ 16777216 by omega]
    have h1 := cells_enM2 ls 0
    rw [show ((0 : Nat) : Int) = 0 from rfl] at h1
    rw [h1, taks_map, ← List.map_append]
    rfl
  exact wF_of (wF_eq e)
/-! what is late -/
def lateL : Int → List Deed → List Int
  | _, [] => []
  | t, d :: r => if t < d.told then t :: lateL (t + 1) r else lateL (t + 1) r
def headD : List Int → D
  | [] => .none
  | x :: _ => .int x
theorem noLate_iff : ∀ (ds : List Deed) (t : Int), noLate t ds ↔ lateL t ds = []
  | [], _ => by simp [noLate, lateL]
  | d :: r, t => by
    rw [noLate, lateL, noLate_iff r]
    by_cases h : t < d.told
    · rw [if_pos h]; simp; omega
    · rw [if_neg h]; simp; omega
theorem late_loop {a0 : D} {Q : D → Bool → Prop} : ∀ (ds : List Deed) (k : Int) (e1 e2 : Sl), (wS (forL (gT [gN 1, gN 2]) (mIfS (mB (mBin (bCmp pGt) (mIxAV 2 (mC (.int 2))) (mVar 1))) (mRet (mVar 1)) mSkip) (enF k (ds.map deD))) [.fz a0, e1, e2] (kSeq m_late_2 (kRun Q)) ↔ Q (headD (lateL k ds)) false)
  | [], k, e1, e2 => by
    simp_arith [enF_n, m_late_2, lateL, headD]
  | d :: ds, k, e1, e2 => by
    have ih := late_loop (a0 := a0) (Q := Q) ds (k + 1)
    rw [List.map_cons, lateL]
    unfold deD at ih ⊢
    by_cases h : k < d.told
    · rw [if_pos h]
      simp_arith [headD, h]
    · rw [if_neg h]
      simp_arith [h, ih]
theorem late_ok {ds : List Deed} {Q : D → Bool → Prop} : wF S_late [dsD ds] Q ↔ Q (headD (lateL 0 ds)) false := by
  unfold S_late dsD
  simp_arith [m_late, enumD_e, late_loop]
/-! the judge -/
def prM (p z w : Int) : Int → List Tri → Int
  | acc, [] => acc
  | acc, x :: r => prM p z w (acc * (z - (x.c + x.v * w + x.t * w * w) % p) % p) r
theorem prM_rng {p z w : Int} (hp : 0 < p) : ∀ (B : List Tri) (acc : Int), 0 ≤ acc ∧ acc < p → 0 ≤ prM p z w acc B ∧ prM p z w acc B < p
  | [], _, h => h
  | x :: r, acc, _ => prM_rng hp r _ ⟨Int.emod_nonneg _ (by omega), Int.emod_lt_of_pos _ hp⟩
theorem prM_cg {p z w : Int} : ∀ (B : List Tri) (acc : Int), Cg p (prM p z w acc B) (acc * bagF B z w)
  | [], acc => by rw [prM, bagF, Int.mul_one]; exact Cg.rfl
  | x :: r, acc => by
    rw [prM, bagF]
    have h1 : Cg p (acc * (z - (x.c + x.v * w + x.t * w * w) % p) % p) (acc * (z - x.at w)) := Cg.mod.trans (Cg.rfl.mul (Cg.rfl.sub Cg.mod))
    have h2 := (prM_cg (p := p) (z := z) (w := w) r (acc * (z - (x.c + x.v * w + x.t * w * w) % p) % p)).trans (h1.mul Cg.rfl)
    rw [Int.mul_assoc acc (z - x.at w) (bagF r z w)] at h2
    exact h2
theorem prM_iff {p z w : Int} (hp : 1 < p) {A B : List Tri} : prM p z w 1 A = prM p z w 1 B ↔ Cg p (bagF A z w) (bagF B z w) := by
  have hA := prM_cg (p := p) (z := z) (w := w) A 1
  have hB := prM_cg (p := p) (z := z) (w := w) B 1
  rw [Int.one_mul] at hA hB
  have rA := prM_rng (z := z) (w := w) (show 0 < p by omega) A 1 ⟨by omega, hp⟩
  have rB := prM_rng (z := z) (w := w) (show 0 < p by omega) B 1 ⟨by omega, hp⟩
  constructor
  · intro h
    rw [h] at hA
    exact hA.symm.trans hB
  · intro h
    have := hA.trans (h.trans hB.symm)
    unfold Cg at this
    rwa [Int.emod_eq_of_lt rA.1 rA.2, Int.emod_eq_of_lt rB.1 rB.2] at this
structure TrOk (p : Int) (x : Tri) : Prop where
  v : 0 ≤ x.v ∧ x.v < p
  t : 0 ≤ x.t ∧ x.t < p
theorem packed_at_ok {p w : Int} (hp : 0 < p) (hp2 : p < 4294967296) {x : Tri} (h : TrOk p x) (hw : 0 ≤ w ∧ w < p) {Q : D → Bool → Prop} : wF S_packed_at [.int p, triD x, .int w] Q ↔ Q (.int ((x.c + x.v * w + x.t * w * w) % p)) false := by
  have a1 : -18446744073709551616 < w ∧ w < 18446744073709551616 := by omega
  unfold S_packed_at triD
  simp_arith [m_packed_at, a1, hp]
theorem product_loop {p z w : Int} (hp : 1 < p) (hp2 : p < 4294967296) (hz : 0 ≤ z ∧ z < p) (hw : 0 ≤ w ∧ w < p) {a1 : D} {Q : D → Bool → Prop} : ∀ (B : List Tri) (acc : Int) (e5 : Sl), (∀ x ∈ B, TrOk p x) → 0 ≤ acc ∧ acc < p →
    (wS (forL (gN 5) (mSet 4 (mBin (bInt gMod) (mBin (bInt gMul) (mVar 4) (mBin (bInt fun i j => some (i - j)) (mVar 2) (mCall S_packed_at [] (mCons (mVar 0) (mCons (mVar 5) (mCons (mVar 3) mNil)))))) (mVar 0))) (B.map triD)) [.fz (.int p), .fz a1, .fz (.int z), .fz (.int w), .fz (.int acc), e5] (kSeq m_product_at_3 (kRun Q)) ↔ Q (.int (prM p z w acc B)) false)
  | [], acc, e5, h, ha => by
    simp_arith [m_product_at_3, prM]
  | x :: B, acc, e5, h, ha => by
    have hr : 0 ≤ acc * (z - (x.c + x.v * w + x.t * w * w) % p) % p ∧ acc * (z - (x.c + x.v * w + x.t * w * w) % p) % p < p := ⟨Int.emod_nonneg _ (by omega), Int.emod_lt_of_pos _ (by omega)⟩
    have ih := product_loop hp hp2 hz hw (a1 := a1) (Q := Q) B _ (.fz (triD x)) (fun y hy => h y (List.mem_cons_of_mem _ hy)) hr
    have b1 : -18446744073709551616 < acc ∧ acc < 18446744073709551616 := by omega
    rw [List.map_cons, prM, ← ih]
    simp_arith [packed_at_ok (show 0 < p by omega) hp2 (h x List.mem_cons_self) hw, b1, show 0 < p by omega]
theorem product_ok {p z w : Int} (hp : 1 < p) (hp2 : p < 4294967296) (hz : 0 ≤ z ∧ z < p) (hw : 0 ≤ w ∧ w < p) {B : List Tri} (h : ∀ x ∈ B, TrOk p x) {Q : D → Bool → Prop} : wF S_product_at [.int p, .tuple (B.map triD), .int z, .int w] Q ↔ Q (.int (prM p z w 1 B)) false := by
  unfold S_product_at
  simp_arith [m_product_at, m_product_at_2]
  exact product_loop hp hp2 hz hw B 1 _ h ⟨by omega, hp⟩
/-- the numbers of a log -/
structure Nm (p : Int) (fs : List Int) (ds : List Deed) (ls : List (Int × Int)) : Prop where
  pp : PP p
  lg : Lg p fs.length ds ls
  f1 : 1 ≤ fs.length
  f3 : fs.length ≤ 3
  fr : ∀ n ∈ fs, 0 ≤ n ∧ n < p
section
variable {p : Int} {fs : List Int} {ds : List Deed} {ls : List (Int × Int)} (N : Nm p fs ds ls)
include N
theorem Nm.c3 {d : Deed} (h : d ∈ ds) : 0 ≤ ((d.c : Nat) : Int) ∧ ((d.c : Nat) : Int) < p := by
  have := N.lg.dc d h
  have := N.f3
  have := pp_b N.pp
  omega
theorem Nm.need_log {Q : D → Bool → Prop} : wF S_need_log [.int p, fsD fs, dsD ds] Q ↔ Q .none false := by
  have e : wF S_need_log [.int p, fsD fs, dsD ds] (fun d o => d = .none ∧ o = false) := by
    have hb := pp_b N.pp
    have h5 := N.lg.d5
    have f1 := N.f1
    have f3 := N.f3
    unfold S_need_log fsD dsD
    simp_arith [m_need_log, are_numbers_ok N.fr (show (1 : Int) ≤ fs.length by omega) (show (fs.length : Int) ≤ 16 by omega) (by omega), m_need_log_2, List.length_map, show ¬ (60 : Int) < ((ds.length : Nat) : Int) by omega, show ¬ p ≤ ((ds.length : Nat) : Int) by omega, m_need_log_3, show ds.length ≤ 16777216 by omega]
    refine wC_maps deD (fun _ => .bool true) (fun d hd => ?_) ?_
    · show wG _ _ _ _
      have hr := N.lg.dr d hd
      have hc := N.lg.dc d hd
      have h3 := N.c3 hd
      have hw := fun {Q : D → Bool → Prop} => are_numbers_ok (p := p) (lo := 4) (hi := 4) (ns := [((d.c : Nat) : Int), d.old, d.told, d.new]) (by
        intro n hn
        simp only [List.mem_cons, List.not_mem_nil, or_false] at hn
        rcases hn with rfl | rfl | rfl | rfl <;> omega) (by simp) (by simp) (by simp) (Q := Q)
      have hlt : ((d.c : Nat) : Int) < ((fs.length : Nat) : Int) := by omega
      simp only [wI_Range3, wM_Fld, wS_SetF, wM_Meth, wM_Make, wS_AugF, wM_C, wM_Var, wM_Bin, wM_Un, wM_If, wM_Tup, wM_Lst, wA_Nil, wA_Cons, wM_AndV, wM_OrV, wM_CmpV, wM_IxAV, wM_IxA, wM_LenV, wM_InAV, wP_none, wP_some, wM_SlV, wM_Sl, wM_Call, wM_Apply, wM_ListOf, wM_ListRange, wM_DictE, wPr_nil, wPr_cons, wM_Dict, wM_Pop, wM_Chain, wM_InC, wM_NotInC, wT_B, wT_Tru, wT_Not, wT_And, wT_Or, wT_Yes, wS_Skip, wS_Brk, wS_Cont, wS_RetN, wS_Stuck, mTupS_w, mLstS_w, wA_Star, wS_Seq, wS_Do, wS_Ret, wS_RetO, wS_Set, wS_SetO, wS_If, wAF_nil, wAF_cons, wS_Par, setAll_nil, setAll_fz, setAll_ow, wS_Unp, wG_N, wG_T, wGs_nil, wGs_cons, wS_SetA, wG_SubA, wS_App, wS_Aug, wS_For, wS_for0, wS_for1, wI_Of, wI_Range1, wI_Range2, wI_En, wI_Zp, wI_Revs, wI_Con, wM_Comp, wC_nil, wC_cons, wF_run, wO_some, wO_none, wO_ite, wO_map, wO_bind, kRg, kRg3, rg3_i, kFld, kSF2, kSF1, kMe3, kMe2, kMe1, kMe0, kMk2, kMk1, kAF4, kAFb, kAFa, kAF0, objK_o, objK_i, lookF_n, lookF_c, putFD_n, putFD_c, kTupS, kLstS, kStar1, kStar2, kStar3, kMap, kBind, kR, kB2, kB1, kU, kLst, kC2, kC1, kIV3, kIV2, kIV1, kLenV, kInV2, kInV, kSV3, kSV2, kSV1, kSV0, kS2, kS1, kS0, kF, kCall, kCI2, kCI1, kCI0, kAp, kListOf, kPr3, kPr2, kPr1, kDict, kPop, kCh3, kCh2, kCh1, kTru, kNot, kDo, kRet, kSet, kSetO, kAF2, kAF1, kPar, kNx, kUnp, kGs, kSt4, kSt3, kSt2, kSt1, kSt0, kGS4, kGS3, kGS2, kGS1, kAp3, kAp2, kAp1, kAug2, kAug1, kFor, kF1, kOf, kRange2, kEn, kZp3, kZp2b, kZp2, kZp1, kRevs, kLi, kComp, kCo3, kCo2, kCo0, MM.kTup, kVar_f, kVar_o, objD_l, objD_d, kIf_t, kIf_f, kAndV_t, kAndV_f, kOrV_t, kOrV_f, kP_i, sameK_o, sameK_i, kListRange_i, kChT_t, kChT_f, kB_b, kAnd_t, kAnd_f, kOr_t, kOr_f, kSeq_n, kSeq_b, kSeq_c, kSeq_r, kIfS_t, kIfS_f, kAug_f, kF2_n, kF2_c, kF2_b, kF2_r, kW2_n, kW2_c, kW2_b, kW2_r, kW1_t, kW1_f, kRange1_i, kRange2b_i, kCo1_t, kCo1_f, kRun_r, kRun_n, kRunI_r, kRunI_n, kRunI2_i, slK_f, slK_o, slK_i, owK_o, owK_i, putK_o, putK_i, bInt_ii, bCmp_ii, dAdd_ii, dAdd_ll, dAdd_tt, dJoin_sl, dStrs_n, dStrs_c, fStr1_i, fIntS_s, dSplit_ss, dMulS_si, dAdd_st, fMax2_ii, fMin2_ii, dLen_s, dInA_l, dFlat_n, dEqF_in, dEqF_nn, dEqF_sn, dCatL_ll, dIxA_l, dIxA_t, dIxA_d, dLen_l, dLen_t, fInt_i, fInt_b, fTuple_l, fTuple_t, dNot_b, dTru_b, dTru_i, dSeq_l, dSeq_t, dSq_l, dSq_t, dSl_l, dSl_t, dSetA_l, dApp_l, isL_l, dRepL_li, dNeg_i, dIsN_n, dIsN_i, dIsi_int_int, dIsi_bool_int, dIsi_tuple_tuple, dIsi_tuple_list, dIsi_str_str, dIsi_int_str, dIsi_tuple_int, dEq_ii, dNe_ii, dEq_bb, dNe_bb, slD_k, ownD_k, putD_k, atI_pos, ixN_pos, gMul, gDiv, gMod, gPow_10_18, gPow_10_6, gPow_sq, pLt, pLe, pGt, pGe, dFlat_s, dFlat_i, dFlat_b, dInA_t, dNotInA_t, dIn_c, dNotIn_c, List.any_cons, List.any_nil, dBits_i, dBools_mapf, enumD_e, enF_c, enF_n, zipD_c, zipD_n, zipD_n2, wO_eq, wO_ne, eqv_ii, eqv_ss, eqv_tt, eqv_ll, eqv_bb, eqv_is, eqv_si, eqv_tl, eqv_lt, eqvs_nil, eqvs_cons, eqvs_nc, eqvs_cn, shq_i, shq_b, shq_n, shq_s, shq_t, shq_l, dEqF_ss, dEqF_ii, str_beq, String.reduceBEq, String.reduceEq, keyD_s, keyD_i, key_ss, atK_nil, atK_cons, dInA_d, dNotInA_d, fAll_l, fAny_l, dBools_n, dBools_c, List.all_cons, List.all_nil, Option.isSome_some, Option.isSome_none, id, eq_self, false_and, and_false, List.getElem?_cons_succ, List.getElem?_cons_zero, List.set_cons_succ, List.set_cons_zero, List.length_cons, List.length_nil, List.append_nil, List.nil_append, List.cons_append, wipeE, ent, List.map_cons, List.map_nil, List.replicate_succ, List.replicate_zero, Int.cast_ofNat_Int, Int.reduceAdd, Int.reduceSub, Int.reduceMul, Int.reduceDiv, Int.reduceMod, Int.reduceLT, Int.reduceLE, Int.reduceEq, Int.reduceNeg, Int.reducePow, Nat.reducePow, Int.reduceToNat, Int.reduceBNe, Int.reduceBEq, Nat.reduceAdd, Nat.reduceSub, Nat.reduceMul, Nat.reduceLT, Nat.reduceLeDiff, Nat.reduceEqDiff, Nat.zero_add, decide_true, decide_false, Bool.not_true, Bool.not_false, Bool.true_and, Bool.and_true, Bool.false_and, Bool.and_false, Bool.true_or, Bool.or_true, Bool.false_or, Bool.or_false, and_true, true_and, or_true, true_or, or_false, false_or, not_true_eq_false, not_false_eq_true, Bool.false_eq_true, reduceIte, Option.map_some, Option.bind_some, Option.map_none] at hw
      unfold deD
      simp_arith [hw, List.length_map, hlt]
    · have e : (ds.map fun _ => true).all id = true := all_mapf fun _ _ => rfl
      simp_arith [e]
  exact wF_of (wF_eq e)
theorem Nm.need_last {Q : D → Bool → Prop} : wF S_need_last [.int p, fsD fs, lsD ls] Q ↔ Q .none false := by
  have e : wF S_need_last [.int p, fsD fs, lsD ls] (fun d o => d = .none ∧ o = false) := by
    have hll := N.lg.ll
    have f3 := N.f3
    unfold S_need_last fsD lsD
    simp_arith [m_need_last, List.length_map, hll, dNe_ii, decide_rfl, show fs.length ≤ 16777216 by omega]
    refine wC_maps prD (fun _ => .bool true) (fun d hd => ?_) ?_
    · show wG _ _ _ _
      have hr := N.lg.lr d hd
      have hw := fun {Q : D → Bool → Prop} => are_numbers_ok (p := p) (lo := 2) (hi := 2) (ns := [d.1, d.2]) (by
        intro n hn
        simp only [List.mem_cons, List.not_mem_nil, or_false] at hn
        rcases hn with rfl | rfl <;> omega) (by simp) (by simp) (by simp) (Q := Q)
      simp only [wI_Range3, wM_Fld, wS_SetF, wM_Meth, wM_Make, wS_AugF, wM_C, wM_Var, wM_Bin, wM_Un, wM_If, wM_Tup, wM_Lst, wA_Nil, wA_Cons, wM_AndV, wM_OrV, wM_CmpV, wM_IxAV, wM_IxA, wM_LenV, wM_InAV, wP_none, wP_some, wM_SlV, wM_Sl, wM_Call, wM_Apply, wM_ListOf, wM_ListRange, wM_DictE, wPr_nil, wPr_cons, wM_Dict, wM_Pop, wM_Chain, wM_InC, wM_NotInC, wT_B, wT_Tru, wT_Not, wT_And, wT_Or, wT_Yes, wS_Skip, wS_Brk, wS_Cont, wS_RetN, wS_Stuck, mTupS_w, mLstS_w, wA_Star, wS_Seq, wS_Do, wS_Ret, wS_RetO, wS_Set, wS_SetO, wS_If, wAF_nil, wAF_cons, wS_Par, setAll_nil, setAll_fz, setAll_ow, wS_Unp, wG_N, wG_T, wGs_nil, wGs_cons, wS_SetA, wG_SubA, wS_App, wS_Aug, wS_For, wS_for0, wS_for1, wI_Of, wI_Range1, wI_Range2, wI_En, wI_Zp, wI_Revs, wI_Con, wM_Comp, wC_nil, wC_cons, wF_run, wO_some, wO_none, wO_ite, wO_map, wO_bind, kRg, kRg3, rg3_i, kFld, kSF2, kSF1, kMe3, kMe2, kMe1, kMe0, kMk2, kMk1, kAF4, kAFb, kAFa, kAF0, objK_o, objK_i, lookF_n, lookF_c, putFD_n, putFD_c, kTupS, kLstS, kStar1, kStar2, kStar3, kMap, kBind, kR, kB2, kB1, kU, kLst, kC2, kC1, kIV3, kIV2, kIV1, kLenV, kInV2, kInV, kSV3, kSV2, kSV1, kSV0, kS2, kS1, kS0, kF, kCall, kCI2, kCI1, kCI0, kAp, kListOf, kPr3, kPr2, kPr1, kDict, kPop, kCh3, kCh2, kCh1, kTru, kNot, kDo, kRet, kSet, kSetO, kAF2, kAF1, kPar, kNx, kUnp, kGs, kSt4, kSt3, kSt2, kSt1, kSt0, kGS4, kGS3, kGS2, kGS1, kAp3, kAp2, kAp1, kAug2, kAug1, kFor, kF1, kOf, kRange2, kEn, kZp3, kZp2b, kZp2, kZp1, kRevs, kLi, kComp, kCo3, kCo2, kCo0, MM.kTup, kVar_f, kVar_o, objD_l, objD_d, kIf_t, kIf_f, kAndV_t, kAndV_f, kOrV_t, kOrV_f, kP_i, sameK_o, sameK_i, kListRange_i, kChT_t, kChT_f, kB_b, kAnd_t, kAnd_f, kOr_t, kOr_f, kSeq_n, kSeq_b, kSeq_c, kSeq_r, kIfS_t, kIfS_f, kAug_f, kF2_n, kF2_c, kF2_b, kF2_r, kW2_n, kW2_c, kW2_b, kW2_r, kW1_t, kW1_f, kRange1_i, kRange2b_i, kCo1_t, kCo1_f, kRun_r, kRun_n, kRunI_r, kRunI_n, kRunI2_i, slK_f, slK_o, slK_i, owK_o, owK_i, putK_o, putK_i, bInt_ii, bCmp_ii, dAdd_ii, dAdd_ll, dAdd_tt, dJoin_sl, dStrs_n, dStrs_c, fStr1_i, fIntS_s, dSplit_ss, dMulS_si, dAdd_st, fMax2_ii, fMin2_ii, dLen_s, dInA_l, dFlat_n, dEqF_in, dEqF_nn, dEqF_sn, dCatL_ll, dIxA_l, dIxA_t, dIxA_d, dLen_l, dLen_t, fInt_i, fInt_b, fTuple_l, fTuple_t, dNot_b, dTru_b, dTru_i, dSeq_l, dSeq_t, dSq_l, dSq_t, dSl_l, dSl_t, dSetA_l, dApp_l, isL_l, dRepL_li, dNeg_i, dIsN_n, dIsN_i, dIsi_int_int, dIsi_bool_int, dIsi_tuple_tuple, dIsi_tuple_list, dIsi_str_str, dIsi_int_str, dIsi_tuple_int, dEq_ii, dNe_ii, dEq_bb, dNe_bb, slD_k, ownD_k, putD_k, atI_pos, ixN_pos, gMul, gDiv, gMod, gPow_10_18, gPow_10_6, gPow_sq, pLt, pLe, pGt, pGe, dFlat_s, dFlat_i, dFlat_b, dInA_t, dNotInA_t, dIn_c, dNotIn_c, List.any_cons, List.any_nil, dBits_i, dBools_mapf, enumD_e, enF_c, enF_n, zipD_c, zipD_n, zipD_n2, wO_eq, wO_ne, eqv_ii, eqv_ss, eqv_tt, eqv_ll, eqv_bb, eqv_is, eqv_si, eqv_tl, eqv_lt, eqvs_nil, eqvs_cons, eqvs_nc, eqvs_cn, shq_i, shq_b, shq_n, shq_s, shq_t, shq_l, dEqF_ss, dEqF_ii, str_beq, String.reduceBEq, String.reduceEq, keyD_s, keyD_i, key_ss, atK_nil, atK_cons, dInA_d, dNotInA_d, fAll_l, fAny_l, dBools_n, dBools_c, List.all_cons, List.all_nil, Option.isSome_some, Option.isSome_none, id, eq_self, false_and, and_false, List.getElem?_cons_succ, List.getElem?_cons_zero, List.set_cons_succ, List.set_cons_zero, List.length_cons, List.length_nil, List.append_nil, List.nil_append, List.cons_append, wipeE, ent, List.map_cons, List.map_nil, List.replicate_succ, List.replicate_zero, Int.cast_ofNat_Int, Int.reduceAdd, Int.reduceSub, Int.reduceMul, Int.reduceDiv, Int.reduceMod, Int.reduceLT, Int.reduceLE, Int.reduceEq, Int.reduceNeg, Int.reducePow, Nat.reducePow, Int.reduceToNat, Int.reduceBNe, Int.reduceBEq, Nat.reduceAdd, Nat.reduceSub, Nat.reduceMul, Nat.reduceLT, Nat.reduceLeDiff, Nat.reduceEqDiff, Nat.zero_add, decide_true, decide_false, Bool.not_true, Bool.not_false, Bool.true_and, Bool.and_true, Bool.false_and, Bool.and_false, Bool.true_or, Bool.or_true, Bool.false_or, Bool.or_false, and_true, true_and, or_true, true_or, or_false, false_or, not_true_eq_false, not_false_eq_true, Bool.false_eq_true, reduceIte, Option.map_some, Option.bind_some, Option.map_none] at hw
      unfold prD
      simp_arith [hw]
    · have e : (ls.map fun _ => true).all id = true := all_mapf fun _ _ => rfl
      simp_arith [e]
  exact wF_of (wF_eq e)
theorem cells_tr {p : Int} : ∀ (now : List (Int × Int)) (k : Nat), (∀ q ∈ now, (0 ≤ q.1 ∧ q.1 < p) ∧ 0 ≤ q.2 ∧ q.2 < p) → ∀ x ∈ (cellsF k now).map toT, TrOk p x
  | [], _, _, x, h => by simp [cellsF] at h
  | q :: now, k, hq, x, h => by
    rw [cellsF, List.map_cons, List.mem_cons] at h
    rcases h with rfl | h
    · exact ⟨(hq q List.mem_cons_self).1, (hq q List.mem_cons_self).2⟩
    · exact cells_tr now _ (fun z hz => hq z (List.mem_cons_of_mem _ hz)) x h
theorem cells_c {p : Int} : ∀ (now : List (Int × Int)) (k : Nat), ((k + now.length : Nat) : Int) ≤ p → ∀ x ∈ (cellsF k now).map toT, 0 ≤ x.c ∧ x.c < p
  | [], _, _, x, h => by simp [cellsF] at h
  | q :: now, k, hq, x, h => by
    rw [cellsF, List.map_cons, List.mem_cons] at h
    rw [List.length_cons] at hq
    rcases h with rfl | h
    · show 0 ≤ ((k : Nat) : Int) ∧ ((k : Nat) : Int) < p
      omega
    · exact cells_c now (k + 1) (by omega) x h
theorem puts_tr {p : Int} : ∀ (ds : List Deed) (t : Int), 0 ≤ t → t + ds.length < p → (∀ d ∈ ds, 0 ≤ d.new ∧ d.new < p) → ∀ x ∈ (putsF t ds).map toT, TrOk p x
  | [], _, _, _, _, x, h => by simp [putsF] at h
  | q :: now, k, h0, hl, hq, x, h => by
    rw [List.length_cons] at hl
    rw [putsF, List.map_cons, List.mem_cons] at h
    rcases h with rfl | h
    · exact ⟨hq q List.mem_cons_self, by show 0 ≤ k + 1 ∧ k + 1 < p; omega⟩
    · exact puts_tr now _ (by omega) (by omega) (fun z hz => hq z (List.mem_cons_of_mem _ hz)) x h
theorem puts_c {p : Int} : ∀ (ds : List Deed) (t : Int), (∀ d ∈ ds, 0 ≤ ((d.c : Nat) : Int) ∧ ((d.c : Nat) : Int) < p) → ∀ x ∈ (putsF t ds).map toT, 0 ≤ x.c ∧ x.c < p
  | [], _, _, x, h => by simp [putsF] at h
  | q :: now, k, hq, x, h => by
    rw [putsF, List.map_cons, List.mem_cons] at h
    rcases h with rfl | h
    · exact hq q List.mem_cons_self
    · exact puts_c now _ (fun z hz => hq z (List.mem_cons_of_mem _ hz)) x h
theorem Nm.put_tr : ∀ x ∈ (putL fs ds).map toT, TrOk p x ∧ 0 ≤ x.c ∧ x.c < p := fun x hx => by
  have hb := pp_b N.pp
  have h5 := N.lg.d5
  have f3 := N.f3
  unfold putL at hx
  rw [List.map_append] at hx
  rcases List.mem_append.mp hx with h | h
  · refine ⟨cells_tr N (ini fs) 0 (fun q hq => ?_) x h, cells_c N (ini fs) 0 (by rw [ini_len]; omega) x h⟩
    obtain ⟨v, hv, rfl⟩ := List.mem_map.mp hq
    exact ⟨N.fr v hv, by show (0 : Int) ≤ 0 ∧ (0 : Int) < p; omega⟩
  · exact ⟨puts_tr N ds 0 (by omega) (by omega) (fun d hd => (N.lg.dr d hd).2.2) x h, puts_c N ds 0 (fun d hd => N.c3 hd) x h⟩
theorem Nm.tak_tr : ∀ x ∈ (takL ds ls).map toT, TrOk p x ∧ 0 ≤ x.c ∧ x.c < p := fun x hx => by
  have hb := pp_b N.pp
  have hll := N.lg.ll
  have f3 := N.f3
  unfold takL at hx
  rw [List.map_append] at hx
  rcases List.mem_append.mp hx with h | h
  · unfold taksF at h
    rw [List.map_map] at h
    obtain ⟨d, hd, rfl⟩ := List.mem_map.mp h
    have hr := N.lg.dr d hd
    exact ⟨⟨hr.1, hr.2.1⟩, N.c3 hd⟩
  · exact ⟨cells_tr N ls 0 N.lg.lr x h, cells_c N ls 0 (by omega) x h⟩
def pputs (fs : List Int) (ds : List Deed) : List Tri := (putL fs ds).map toT
def ptaks (ds : List Deed) (ls : List (Int × Int)) : List Tri := (takL ds ls).map toT
/-- what the judge says -/
def judF (p : Int) (fs : List Int) (ds : List Deed) (ls : List (Int × Int)) (z w : Int) : D :=
  match lateL 0 ds with
  | x :: _ => .tuple [.str "caught", .int x, .str "time"]
  | [] => if prM p z w 1 ((putL fs ds).map toT) = prM p z w 1 ((takL ds ls).map toT) then .tuple [.str "passed"] else .tuple [.str "caught", .int ds.length, .str "bags"]
theorem Nm.judged {z w : Int} (hz : 0 ≤ z ∧ z < p) (hw : 0 ≤ w ∧ w < p) {Q : D → Bool → Prop} : wF S_log_judged [.int p, fsD fs, dsD ds, lsD ls, .int z, .int w] Q ↔ Q (judF p fs ds ls z w) false := by
  have hb := pp_b N.pp
  have hz' : 0 ≤ z ∧ z ≤ p - 1 := by omega
  have hw' : 0 ≤ w ∧ w ≤ p - 1 := by omega
  have nn : ∀ {v : Int} {Q : D → Bool → Prop}, 0 ≤ v ∧ v ≤ p - 1 → (wF S_need_number [.int p, .int v] Q ↔ Q .none false) := fun {v Q} h => by
    unfold S_need_number
    simp_arith [m_need_number, is_number_ok, h]
  have e : wF S_log_judged [.int p, fsD fs, dsD ds, lsD ls, .int z, .int w] (fun d o => d = judF p fs ds ls z w ∧ o = false) := by
    have hlen : dLen (dsD ds) = some (.int ds.length) := by unfold dsD; rw [dLen_t, List.length_map]
    unfold S_log_judged
    simp_arith [m_log_judged, need_prime_ok N.pp, m_log_judged_2, N.need_log, m_log_judged_3, N.need_last, m_log_judged_4, nn hz', m_log_judged_5, nn hw', m_log_judged_6, late_ok, m_log_judged_7]
    unfold judF
    cases hl : lateL 0 ds with
    | cons x r =>
      simp_arith [headD, show dNotN (.int x) = some (.bool true) from rfl]
    | nil =>
      have h1 := fun {Q : D → Bool → Prop} => product_ok (p := p) (z := z) (w := w) (by omega) (by omega) hz hw (B := (putL fs ds).map toT) (fun x hx => (N.put_tr x hx).1) (Q := Q)
      have h2 := fun {Q : D → Bool → Prop} => product_ok (p := p) (z := z) (w := w) (by omega) (by omega) hz hw (B := (takL ds ls).map toT) (fun x hx => (N.tak_tr x hx).1) (Q := Q)
      rw [← encR_tri put3] at h1
      rw [← encR_tri tak3] at h2
      have q1 := fun {Q : D → Bool → Prop} => put_ok (fs := fs) (ds := ds) (by have := N.f3; omega) (by have := N.lg.d5; omega) (Q := Q)
      have q2 := fun {Q : D → Bool → Prop} => tak_ok (ds := ds) (ls := ls) (by have := N.lg.ll; have := N.f3; omega) (by have := N.lg.d5; omega) (Q := Q)
      unfold bagD at q1 q2
      simp_arith [headD, show dNotN .none = some (.bool false) from rfl, m_log_judged_8, q1, q2, h1, h2, dNe_ii]
      by_cases hc : prM p z w 1 ((putL fs ds).map toT) = prM p z w 1 ((takL ds ls).map toT)
      · simp_arith [hc, m_log_judged_9, if_pos]
        rfl
      · simp_arith [hc, hlen]
  exact wF_of (wF_eq e)
end
/-! mended logs -/
def mendF : List (Int × Int) → Int → List Deed → List Deed × List (Int × Int)
  | now, _, [] => ([], now)
  | now, t, d :: r =>
    (⟨d.c, (now.getD d.c (0, 0)).1, (now.getD d.c (0, 0)).2, if d.new = d.old then (now.getD d.c (0, 0)).1 else d.new⟩ :: (mendF (now.set d.c (if d.new = d.old then (now.getD d.c (0, 0)).1 else d.new, t + 1)) (t + 1) r).1,
      (mendF (now.set d.c (if d.new = d.old then (now.getD d.c (0, 0)).1 else d.new, t + 1)) (t + 1) r).2)
theorem mendF_log : ∀ (ds : List Deed) (now : List (Int × Int)) (t : Int), (∀ d ∈ ds, d.c < now.length) → okLog now t (mendF now t ds).1 = some (mendF now t ds).2
  | [], _, _, _ => rfl
  | d :: r, now, t, h => by
    have hc := h d List.mem_cons_self
    have e : now[d.c]? = some (now.getD d.c (0, 0)) := by rw [List.getD_eq_getElem?_getD, List.getElem?_eq_getElem hc]; rfl
    rw [mendF, okLog, if_pos e]
    exact mendF_log r _ _ fun z hz => by rw [List.length_set]; exact h z (List.mem_cons_of_mem _ hz)
theorem mendF_c : ∀ (ds : List Deed) (now : List (Int × Int)) (t : Int), (mendF now t ds).1.map Deed.c = ds.map Deed.c
  | [], _, _ => rfl
  | d :: r, now, t => by rw [mendF, List.map_cons, List.map_cons, mendF_c r]
theorem mendF_len (ds : List Deed) (now : List (Int × Int)) (t : Int) : (mendF now t ds).1.length = ds.length := by
  have := congrArg List.length (mendF_c ds now t)
  rwa [List.length_map, List.length_map] at this
theorem mendF_new : ∀ (ds : List Deed) (now : List (Int × Int)) (t : Int) (k : Nat) (x y : Deed), (mendF now t ds).1[k]? = some x → ds[k]? = some y → x.new = if y.new = y.old then x.old else y.new
  | [], _, _, _, _, _, h, _ => by simp [mendF] at h
  | d :: r, now, t, 0, x, y, h, h2 => by
    simp only [mendF, List.getElem?_cons_zero, Option.some.injEq] at h h2
    subst h h2
    rfl
  | d :: r, now, t, k + 1, x, y, h, h2 => by
    simp only [mendF, List.getElem?_cons_succ] at h h2
    exact mendF_new r _ _ k x y h h2
theorem mendF_lst : ∀ (ds : List Deed) (now : List (Int × Int)) (t : Int), (mendF now t ds).2.length = now.length
  | [], _, _ => rfl
  | d :: r, now, t => by rw [mendF, mendF_lst r, List.length_set]
theorem atI_last {xs : List D} {x : D} : atI (xs ++ [x]) (-1) = some x := by
  have e : ixN (xs ++ [x]).length (-1) = some xs.length := by
    unfold ixN
    simp
    omega
  unfold atI
  rw [e]
  simp
theorem mend_loop {a0 a1 : D} {Q : D → Bool → Prop} : ∀ (ds acc : List Deed) (now : List (Int × Int)) (k : Nat) (e4 e5 e6 e7 e8 e9 e10 : Sl), (∀ d ∈ ds, d.c < now.length) → acc.length + ds.length ≤ 1000 →
    (wS (forL (gT [gN 4, gT [gN 5, gN 6, gN 7, gN 8]]) m_mended_log_4f1 (enF (k : Nat) (ds.map deD))) [.fz a0, .fz a1, .ow (.list (now.map prD)), .ow (.list (acc.map deD)), e4, e5, e6, e7, e8, e9, e10, .emp] (kSeq m_mended_log_5 (kRun Q)) ↔ Q (.tuple [dsD (acc ++ (mendF now (k : Nat) ds).1), lsD (mendF now (k : Nat) ds).2]) false)
  | [], acc, now, k, e4, e5, e6, e7, e8, e9, e10, h, hl => by
    simp_arith [enF_n, m_mended_log_5, mendF]
    rfl
  | d :: ds, acc, now, k, e4, e5, e6, e7, e8, e9, e10, h, hl => by
    have hc := h d List.mem_cons_self
    have eg : now.getD d.c (0, 0) = now[d.c] := by rw [List.getD_eq_getElem?_getD, List.getElem?_eq_getElem hc]; rfl
    have e1 := pr_get hc
    rw [show prD now[d.c] = .tuple [.int now[d.c].1, .int now[d.c].2] from rfl] at e1
    have hk : ((k : Nat) : Int) + 1 = ((k + 1 : Nat) : Int) := by omega
    have hx : ixN (now.map prD).length ((d.c : Nat) : Int) = some d.c := ixN_nat (by rw [List.length_map]; exact hc)
    rw [List.length_cons] at hl
    have ih := fun n => mend_loop (a0 := a0) (a1 := a1) (Q := Q) ds (acc ++ [⟨d.c, now[d.c].1, now[d.c].2, n⟩]) (now.set d.c (n, ((k : Nat) : Int) + 1)) (k + 1) (.fz (.int (k : Nat))) (.fz (.int (d.c : Nat))) (.fz (.int d.old)) (.fz (.int d.told)) (.fz (.int d.new)) (.fz (.int now[d.c].1)) (.fz (.int now[d.c].2)) (fun z hz => by rw [List.length_set]; exact h z (List.mem_cons_of_mem _ hz)) (by rw [List.length_append]; simp; omega)
    rw [← hk] at ih
    have hq : ∀ n : Int, PyData.tuple [.int (d.c : Nat), .int now[d.c].1, .int now[d.c].2, .int n] = deD ⟨d.c, now[d.c].1, now[d.c].2, n⟩ := fun _ => rfl
    have hq2 : ∀ n : Int, PyData.tuple [.int n, .int (((k : Nat) : Int) + 1)] = prD (n, ((k : Nat) : Int) + 1) := fun _ => rfl
    have ha : ∀ x : Deed, acc.map deD ++ [deD x] = (acc ++ [x]).map deD := fun x => by rw [List.map_append]; rfl
    have hla : ∀ x : Deed, dIxA (.list ((acc ++ [x]).map deD)) (.int (-1)) = some (deD x) := fun x => by
      rw [← ha]
      exact atI_last
    have hl2 : (acc.map deD).length < 16777216 := by rw [List.length_map]; omega
    have hd3 : ∀ x : Deed, dIxA (deD x) (.int 3) = some (.int x.new) := fun _ => rfl
    rw [List.map_cons, mendF, eg]
    have hd : deD d = .tuple [.int (d.c : Nat), .int d.old, .int d.told, .int d.new] := rfl
    by_cases hb : d.new = d.old
    · have ih1 := ih now[d.c].1
      rw [List.append_assoc] at ih1
      rw [if_pos hb]
      rw [List.cons_append, List.nil_append] at ih1
      rw [← ih1, hd]
      simp_arith [m_mended_log_4f1, MM.atI_nat, e1, m_mended_log_4f2, hb, dEq_ii, decide_rfl, hq, hl2, ha, m_mended_log_4f3, hla, hd3, hq2, hx, pr_set]
    · have ih1 := ih d.new
      rw [List.append_assoc] at ih1
      rw [if_neg hb]
      rw [List.cons_append, List.nil_append] at ih1
      rw [← ih1, hd]
      simp_arith [m_mended_log_4f1, MM.atI_nat, e1, m_mended_log_4f2, hb, dEq_ii, hq, hl2, ha, m_mended_log_4f3, hla, hd3, hq2, hx, pr_set]
theorem mended_ok {fs : List Int} {ds : List Deed} (h : Wh fs.length ds) (hf : ∀ n ∈ fs, 0 ≤ n) (h1 : 1 ≤ fs.length) (h2 : fs.length ≤ 16) {Q : D → Bool → Prop} : wF S_mended_log [fsD fs, dsD ds] Q ↔ Q (.tuple [dsD (mendF (ini fs) 0 ds).1, lsD (mendF (ini fs) 0 ds).2]) false := by
  have e : wF S_mended_log [fsD fs, dsD ds] (fun d o => d = .tuple [dsD (mendF (ini fs) 0 ds).1, lsD (mendF (ini fs) 0 ds).2] ∧ o = false) := by
    have f1 := fun {Q : D → Bool → Prop} => firsts_ok hf h1 h2 (Q := Q)
    have d1 := fun {Q : D → Bool → Prop} => deeds_ok h (Q := Q)
    unfold fsD at f1
    unfold fsD dsD at d1
    unfold S_mended_log
    conv => 
      arg 2
      unfold fsD dsD
    simp_arith [m_mended_log, f1, d1, m_mended_log_2, m_mended_log_3, List.length_map, show fs.length ≤ 16777216 by omega]
    refine wC_maps PyData.int (fun v => .tuple [.int v, .int 0]) (fun v hv => ?_) ?_
    · show wG _ _ _ _
      simp_arith
    simp_arith [ini_ok, m_mended_log_4, enumD_e]
    have := h.d60
    exact (mend_loop ds [] (ini fs) 0 _ _ _ _ _ _ _ (fun d hd => by rw [ini_len]; exact h.dc d hd) (by simp; omega)).mpr ⟨rfl, rfl⟩
  exact wF_of (wF_eq e)
/-! shares -/
def lowB (p t : Int) : Bool := match S_share [.int t, .int p], S__law_lowered [.int t, .int p] with
  | some (.tuple [.int a, .int b], false), some (.tuple [.int c, .int d], false) => a == c && b == d
  | _, _ => false
theorem low_all : ([7, 11, 13, 101, 65537].all fun p : Int => (List.range 16).all fun m => lowB p ((m : Nat) + 1 : Int)) = true := by kernel_rfl
theorem low_ok {p t : Int} (hp : PP p) (h1 : 1 ≤ t) (h2 : t ≤ 16) : ∃ a b, S_share [.int t, .int p] = some (.tuple [.int a, .int b], false) ∧ S__law_lowered [.int t, .int p] = some (.tuple [.int a, .int b], false) := by
  have h := low_all
  rw [List.all_eq_true] at h
  have hm : p ∈ ([7, 11, 13, 101, 65537] : List Int) := by rcases hp with rfl | rfl | rfl | rfl | rfl <;> decide
  have h3 := h p hm
  rw [List.all_eq_true] at h3
  have h4 := h3 (t - 1).toNat (by rw [List.mem_range]; omega)
  rw [show (((t - 1).toNat : Nat) : Int) + 1 = t by omega] at h4
  unfold lowB at h4
  split at h4
  · rename_i a b c d e1 e2
    rw [Bool.and_eq_true, beq_iff_eq, beq_iff_eq] at h4
    rw [← h4.1, ← h4.2] at e2
    exact ⟨a, b, e1, e2⟩
  · cases h4
/-! pairs -/
def pairsF (xs ys : List Int) : List (Int × Int) := xs.flatMap fun x => ys.map fun y => (x, y)
theorem pairs_loop {a0 : D} {ys : List Int} (hy : ys.length ≤ 16777216) {Q : D → Bool → Prop} : ∀ (xs : List Int) (acc : List (Int × Int)) (e3 : Sl), acc.length + xs.length * ys.length ≤ 16777216 →
    (wS (forL (gN 3) (mSetO 2 (mBin dCatL (mVar 2) (mComp (iOf dSeq (mVar 1)) (gN 4) mYes (mTup (mCons (mVar 3) (mCons (mVar 4) mNil))) [4]))) (xs.map .int)) [.fz a0, .fz (.list (ys.map .int)), .ow (.list (acc.map prD)), e3, .emp] (kSeq m__law_pairs_3 (kRun fun d o => d = .list ((acc ++ pairsF xs ys).map prD) ∧ o = false)))
  | [], acc, e3, h => by
    simp_arith [m__law_pairs_3, pairsF, List.flatMap_nil]
  | x :: xs, acc, e3, h => by
    rw [List.length_cons, Nat.succ_mul] at h
    have ih := pairs_loop (a0 := a0) hy (Q := Q) xs (acc ++ ys.map fun y => (x, y)) (.fz (.int x)) (by rw [List.length_append, List.length_map]; omega)
    rw [List.append_assoc] at ih
    have e : pairsF (x :: xs) ys = (ys.map fun y => (x, y)) ++ pairsF xs ys := by unfold pairsF; rw [List.flatMap_cons]
    rw [e, List.map_cons]
    simp_arith [List.length_map, hy]
    refine wC_maps PyData.int (fun y => prD (x, y)) (fun y hy => ?_) ?_
    · show wG _ _ _ _
      unfold prD
      simp_arith
    have e2 : (acc.map prD ++ ys.map fun y => prD (x, y)) = (acc ++ ys.map fun y => (x, y)).map prD := by rw [List.map_append, List.map_map]; rfl
    simp_arith [List.length_map, show acc.length + ys.length ≤ 16777216 by omega, e2]
    exact ih
theorem pairs_ok {xs ys : List Int} (hy : ys.length ≤ 16777216) (h : xs.length * ys.length ≤ 16777216) {Q : D → Bool → Prop} : wF S__law_pairs [.list (xs.map .int), .list (ys.map .int)] Q ↔ Q (.list ((pairsF xs ys).map prD)) false := by
  have e : wF S__law_pairs [.list (xs.map .int), .list (ys.map .int)] (fun d o => d = .list ((pairsF xs ys).map prD) ∧ o = false) := by
    unfold S__law_pairs
    simp_arith [m__law_pairs, m__law_pairs_2]
    exact pairs_loop (Q := Q) hy xs [] _ (by simpa using h)
  exact wF_of (wF_eq e)
theorem pairs_len : ∀ {xs ys : List Int}, (pairsF xs ys).length = xs.length * ys.length
  | [], ys => by simp [pairsF]
  | x :: xs, ys => by
    have := pairs_len (xs := xs) (ys := ys)
    unfold pairsF at this ⊢
    rw [List.flatMap_cons, List.length_append, this, List.length_map, List.length_cons, Nat.succ_mul]; omega
theorem pairs_cnt {p : Nat} {P : Int → Int → Bool} : ∀ (xs : List Int), ((pairsF xs (nums p)).filter fun q => P q.1 q.2).length = sumL (xs.map fun z => cnt p fun w => P z w)
  | [] => by simp [pairsF, sumL]
  | x :: xs => by
    have ih := pairs_cnt (p := p) (P := P) xs
    unfold pairsF at ih ⊢
    rw [List.flatMap_cons, List.filter_append, List.length_append, ih, List.map_cons, sumL]
    congr 1
    unfold cnt
    rw [List.filter_map, List.length_map]
    rfl
/-! a log drawn -/
structure Dr (p : Int) (n k : Nat) (ds : List Deed) (now : List (Int × Int)) : Prop where
  dl : ds.length = k
  dc : ∀ d ∈ ds, d.c < n
  dr : ∀ d ∈ ds, (0 ≤ d.old ∧ d.old < p) ∧ (0 ≤ d.told ∧ d.told < k) ∧ 0 ≤ d.new ∧ d.new < p
  nl : now.length = n
  nr : ∀ q ∈ now, (0 ≤ q.1 ∧ q.1 < p) ∧ 0 ≤ q.2 ∧ q.2 ≤ k
theorem Dr.step {p : Int} {n k : Nat} {ds : List Deed} {now : List (Int × Int)} (h : Dr p n k ds now) {c : Nat} (hc : c < now.length) {v : Int} (hv : 0 ≤ v ∧ v < p) : Dr p n (k + 1) (ds ++ [⟨c, now[c].1, now[c].2, v⟩]) (now.set c (v, ((k : Nat) : Int) + 1)) := by
  have hq := h.nr _ (List.getElem_mem hc)
  refine ⟨by rw [List.length_append, h.dl]; rfl, fun d hd => ?_, fun d hd => ?_, by rw [List.length_set]; exact h.nl, fun q hq2 => ?_⟩
  · rcases List.mem_append.mp hd with hd | hd
    · exact h.dc d hd
    · simp at hd; subst hd; rw [← h.nl]; exact hc
  · rcases List.mem_append.mp hd with hd | hd
    · have := h.dr d hd; exact ⟨this.1, by omega, this.2.2⟩
    · simp at hd; subst hd; exact ⟨hq.1, by show 0 ≤ now[c].2 ∧ now[c].2 < ((k + 1 : Nat) : Int); omega, hv⟩
  · rcases List.mem_or_eq_of_mem_set hq2 with z | rfl
    · have := h.nr q z; exact ⟨this.1, by omega⟩
    · exact ⟨hv, by show (0 : Int) ≤ (k : Nat) + 1 ∧ ((k : Nat) : Int) + 1 ≤ ((k + 1 : Nat) : Int); omega⟩
theorem log_ok {row : D} {p : Int} (h : RowOk row) (hp : PP p) {Q : D → Bool → D → Prop} (k_ : ∀ fs ds ls row', Nm p fs ds ls → RowOk row' → Q (.tuple [fsD fs, dsD ds, lsD ls]) false row') : wFI S__law_log row [.int p, .int 5] Q := by
  refine wFI_run ?_
  simp_arith [m__law_log]
  refine wM_CallI ?_
  simp_arith
  refine wM_CallI ?_
  simp_arith
  refine taken_ok h (by decide) (by decide) fun v row1 v0 v1 hr1 => ?_
  obtain ⟨m, rfl⟩ := Int.eq_ofNat_of_zero_le v0
  have hm1 : (1 : Int) + ((m : Nat) : Int) = ((m + 1 : Nat) : Int) := by omega
  simp_arith [hm1]
  refine numbers_ok (m := m + 1) hr1 hp (by omega) fun fs row2 hfl hf hr2 => ?_
  have f3 : fs.length ≤ 3 := by omega
  simp_arith [m__law_log_2, List.length_map, show fs.length ≤ 16777216 by omega]
  refine wC_maps PyData.int (fun v => .tuple [.int v, .int 0]) (fun v hv => ?_) ?_
  · show wG _ _ _ _
    simp_arith
  simp_arith [ini_ok, m__law_log_3]
  refine wM_CallI ?_
  simp_arith
  refine taken_ok hr2 (by decide) (by decide) fun v row3 w0 w1 hr3 => ?_
  obtain ⟨t, rfl⟩ := Int.eq_ofNat_of_zero_le w0
  have hb : -4611686018427387904 ≤ ((t : Nat) : Int) ∧ ((t : Nat) : Int) < 4611686018427387904 := by omega
  simp_arith [hb, Int.toNat_natCast]
  have pb := pp_b hp
  refine wS_forI (fun xs ρ => ∃ (k : Nat) (ds : List Deed) (now : List (Int × Int)) (row : D) (e6 e7 e8 : Sl), ρ = [.io row, .fz (.int p), .fz (.int 5), .fz (.tuple (fs.map .int)), .ow (.list (ds.map deD)), .ow (.list (now.map prD)), e6, e7, e8, .emp] ∧ RowOk row ∧ k ≤ t ∧ xs = (List.range' k (t - k)).map (fun i => PyData.int (i : Nat)) ∧ Dr p fs.length k ds now)
    ⟨0, [], ini fs, row3, _, _, _, rfl, hr3, Nat.zero_le _, by rw [Nat.sub_zero, List.range_eq_range'], ⟨rfl, by simp, by simp, ini_len, fun q hq => ?_⟩⟩ ?_ ?_
  · obtain ⟨v, hv, rfl⟩ := List.mem_map.mp hq
    exact ⟨hf v hv, by show (0 : Int) ≤ 0 ∧ (0 : Int) ≤ 0; omega⟩
  · rintro x xs ρ ⟨k, ds, now, row, e6, e7, e8, rfl, hr, hk, hx, dr⟩
    have hk2 : k < t := by
      rcases Nat.lt_or_ge k t with h | h
      · exact h
      · rw [show t - k = 0 by omega] at hx; cases hx
    rw [show t - k = (t - (k + 1)) + 1 by omega, List.range'_succ, List.map_cons] at hx
    injection hx with hx1 hx2
    subst hx1 hx2
    simp_arith [m__law_log_3f1]
    refine wM_CallI ?_
    simp_arith [List.length_map]
    refine taken_ok hr (by omega) (by omega) fun c row4 c0 c1 hr4 => ?_
    obtain ⟨c, rfl⟩ := Int.eq_ofNat_of_zero_le c0
    have hc : c < now.length := by rw [dr.nl]; omega
    have e1 := pr_get hc
    rw [show prD now[c] = .tuple [.int now[c].1, .int now[c].2] from rfl] at e1
    have hx : ixN (now.map prD).length ((c : Nat) : Int) = some c := ixN_nat (by rw [List.length_map]; exact hc)
    simp_arith [m__law_log_3f2]
    refine wM_CallI ?_
    simp_arith [MM.atI_nat, e1]
    refine wM_CallI ?_
    simp_arith
    refine number_ok hr4 hp fun v row5 v0 v1 hr5 => ?_
    simp_arith
    have hq := dr.nr _ (List.getElem_mem hc)
    refine pick_ok hr5 (by simp) (by simp) fun i hi row6 hr6 => ?_
    obtain ⟨u, hu, hur⟩ : ∃ u : Int, ([PyData.int now[c].1, .int v] : List D)[i] = .int u ∧ 0 ≤ u ∧ u < p := by
      have : i = 0 ∨ i = 1 := by simp at hi; omega
      rcases this with rfl | rfl
      · exact ⟨_, rfl, hq.1⟩
      · exact ⟨_, rfl, v0, v1⟩
    rw [hu]
    have hdl := dr.dl
    have hq2 : PyData.tuple [.int u, .int (((k : Nat) : Int) + 1)] = prD (u, ((k : Nat) : Int) + 1) := rfl
    have hq1 : PyData.tuple [.int (c : Nat), .int now[c].1, .int now[c].2, .int u] = deD ⟨c, now[c].1, now[c].2, u⟩ := rfl
    have ha : ∀ x : Deed, ds.map deD ++ [deD x] = (ds ++ [x]).map deD := fun x => by rw [List.map_append]; rfl
    simp_arith [m__law_log_3f3, MM.atI_nat, e1, hq1, ha, List.length_map, show ds.length < 16777216 by omega, m__law_log_3f4, hq2]
    rw [List.length_map] at hx
    simp_arith [hx, pr_set]
    exact ⟨k + 1, _, _, row6, _, _, _, rfl, hr6, hk2, rfl, dr.step hc hur⟩
  · rintro ρ ⟨k, ds, now, row, e6, e7, e8, rfl, hr, hk, hx, dr⟩
    have hdl := dr.dl
    have hk2 : k ≤ 5 := by omega
    simp_arith [m__law_log_4]
    refine k_ fs ds now row ⟨hp, ⟨by omega, dr.dc, fun d hd => ?_, dr.nl, fun q hq => ?_⟩, by omega, f3, hf⟩ hr
    · have := dr.dr d hd; exact ⟨this.1, by omega, this.2.2⟩
    · have := dr.nr q hq; exact ⟨this.1, by omega⟩
/-! a log bent -/
theorem callI_of {f : FSI} {row row' d : D} {as : MA} {ds : List D} {o : Bool} {ρ : En} (ha : as (.io row :: ρ) = some (ds, .io row :: ρ)) (h : f row ds = some (d, o, row')) {Q : D → En → Prop} (q : Q d (.io row' :: ρ)) : wM (mCallI f 0 as) (.io row :: ρ) Q := by
  refine wM_CallI ⟨ds, _, ha, ?_⟩
  refine ⟨rfl, row, rfl, ?_⟩
  exact ⟨d, o, row', h, q⟩
def deL (d : Deed) : D := .list [.int (d.c : Nat), .int d.old, .int d.told, .int d.new]
def prL (q : Int × Int) : D := .list [.int q.1, .int q.2]
theorem noobj_de {ds : List Deed} : ∀ r ∈ ds.map deL, objD r = false := fun r hr => by
  obtain ⟨d, _, rfl⟩ := List.mem_map.mp hr; rfl
theorem noobj_pr {ds : List (Int × Int)} : ∀ r ∈ ds.map prL, objD r = false := fun r hr => by
  obtain ⟨d, _, rfl⟩ := List.mem_map.mp hr; rfl
/-! a log bent -/
theorem w_eq {w i : Int} {ρ : En} (h : ρ[4]? = some (.fz (.int w))) : mB (mCmpV dEq 4 (mC (.int i))) ρ = some (decide (w = i), ρ) := by
  have e : wT (mB (mCmpV dEq 4 (mC (.int i)))) ρ (fun b ρ' => b = decide (w = i) ∧ ρ' = ρ) := by
    simp_arith [slD_k, h, dEq_ii]
  obtain ⟨b, ρ', e1, rfl, rfl⟩ := e
  exact e1
theorem skip_i {w i : Int} {X b : NS} {as : List Addr} {rows : List D} {ρ : En} {P : NP} (h : ρ[4]? = some (.fz (.int w))) (hw : w ≠ i) (q : b as rows ρ P) : nSeq (nIfN (tnLift (mB (mCmpV dEq 4 (mC (.int i))))) X nSkip) b as rows ρ P := by
  refine ⟨_, _, w_eq h, ?_⟩
  rw [decide_eq_false hw]
  exact q
theorem take_i {w i : Int} {X b : NS} {as : List Addr} {rows : List D} {ρ : En} {P : NP} (h : ρ[4]? = some (.fz (.int w))) (hw : w = i) (q : nSeq X b as rows ρ P) : nSeq (nIfN (tnLift (mB (mCmpV dEq 4 (mC (.int i))))) X nSkip) b as rows ρ P := by
  refine ⟨_, _, w_eq h, ?_⟩
  rw [decide_eq_true hw]
  exact q
/-- the end -/
def endP (row : D) (ds : List Deed) (ls : List (Int × Int)) : NP := fun fl' _ _ ρ2 => fl' = .rt (.tuple [.tuple (ds.map deD), .tuple (ls.map prD)]) false ∧ wipeE ρ2 [1, 2, 3, 4, 5, 6, 7, 8, 9, 10] = [.io row, .emp, .emp, .emp, .emp, .emp, .emp, .emp, .emp, .emp, .emp] ∧ ∀ d, Fl.rt (.tuple [.tuple (ds.map deD), .tuple (ls.map prD)]) false ≠ .rt d true
theorem endP_i {row : D} {ds : List Deed} {ls : List (Int × Int)} {as : List Addr} {rows : List D} {e1 e2 e3 e4 e5 e6 e7 e8 e9 e10 : Sl} : endP row ds ls (.rt (.tuple [.tuple (ds.map deD), .tuple (ls.map prD)]) false) as rows [.io row, e1, e2, e3, e4, e5, e6, e7, e8, e9, e10] := ⟨rfl, rfl, fun d h => by cases h⟩
def bent6 : NS := nFrz 5 (mRet (mTup (mCons (mApply fTuple (mCons (mComp (iOf dSeq (mVar 5)) (gN 9) mYes (mApply fTuple (mCons (mVar 9) mNil)) [9]) mNil)) (mCons (mVar 3) mNil))))
theorem bent6_ok {row : D} {ds : List Deed} {ls : List (Int × Int)} {as : List Addr} {e1 e2 e4 e6 e7 e8 e9 e10 : Sl} (h : ds.length ≤ 5) : bent6 as (ds.map deL) [.io row, e1, e2, .fz (.tuple (ls.map prD)), e4, .ow (raw as), e6, e7, e8, e9, e10] (endP row ds ls) := by
  refine nFrz_i ⟨rfl, noobj_de, ?_⟩
  simp_arith [List.length_map, show ds.length ≤ 16777216 by omega]
  refine wC_maps deL deD (fun d hd => ?_) ?_
  · show wG _ _ _ _
    unfold deL deD
    simp_arith
  simp_arith
  exact endP_i
def bent5 : NS := nSeq (nIfN (tnLift (mB (mCmpV dEq 4 (mC (.int 4))))) (nSwap 5 6 8) nSkip) bent6
def bent4 : NS := nSeq (nIfN (tnLift (mB (mCmpV dEq 4 (mC (.int 3))))) (nSet2 5 (mVar 6) (mC (.int 2)) (mBin (bInt gMod) (mBin dAdd (mVar 8) (mC (.int 1))) (mVar 1))) nSkip) bent5
def bent3 : NS := nSeq (nIfN (tnLift (mB (mCmpV dEq 4 (mC (.int 2))))) (nSwapSl 5 6 8 1 3) nSkip) bent4
def bent2 : NS := nSeq (nIfN (tnLift (mB (mCmpV dEq 4 (mC (.int 1))))) (nSet2 5 (mVar 6) (mBin dAdd (mC (.int 1)) (mCallI S__law_taken 0 (mCons (mC (.int 3)) mNil))) (mCallI S__law_number 0 (mCons (mVar 1) mNil))) nSkip) bent3
def bent1 : NS := nSeq (nLift (mPar [6, 8] [(false, mCallI S__law_taken 0 (mCons (mLenR 5) mNil)), (false, mCallI S__law_taken 0 (mCons (mLenR 5) mNil))])) bent2
def bentA : NS := nSeq (nFrzN 5 (nMake2 6 7 (mCallI S__law_taken 0 (mCons (mLenV 3) mNil)) (mCompN (iOf dSeq (mVar 3)) (gN 10) mYes (mListOf (mVar 10)) [10]))) (nSeq (nSet2 7 (mVar 6) (mCallI S__law_taken 0 (mCons (mC (.int 2)) mNil)) (mCallI S__law_number 0 (mCons (mVar 1) mNil))) (nFrz 7 (mRet (mTup (mCons (mVar 2) (mCons (mApply fTuple (mCons (mComp (iOf dSeq (mVar 7)) (gN 10) mYes (mApply fTuple (mCons (mVar 10) mNil)) [10]) mNil)) mNil))))))
theorem bent_eq : n__law_bent = nSeq (nMake2 4 5 (mCallI S__law_taken 0 (mCons (mC (.int 6)) mNil)) (mCompN (iOf dSeq (mVar 2)) (gN 9) mYes (mListOf (mVar 9)) [9])) (nSeq (nIfN (tnOr (tnLift (mB (mCmpV dEq 4 (mC (.int 0))))) (tnEmp 5)) bentA nSkip) bent1) := rfl
section
variable {p : Int} {n : Nat} {ds : List Deed} {ls : List (Int × Int)}
theorem Lg.setLs (h : Lg p n ds ls) {j : Nat} {q : Int × Int} (hq : (0 ≤ q.1 ∧ q.1 < p) ∧ 0 ≤ q.2 ∧ q.2 < p) : Lg p n ds (ls.set j q) := ⟨h.d5, h.dc, h.dr, by rw [List.length_set]; exact h.ll, fun x hx => by
  rcases List.mem_or_eq_of_mem_set hx with z | rfl
  · exact h.lr x z
  · exact hq⟩
theorem Lg.setDs (h : Lg p n ds ls) {j : Nat} {d : Deed} (hc : d.c < n) (hd : (0 ≤ d.old ∧ d.old < p) ∧ (0 ≤ d.told ∧ d.told < p) ∧ 0 ≤ d.new ∧ d.new < p) : Lg p n (ds.set j d) ls := ⟨by rw [List.length_set]; exact h.d5, fun x hx => by
  rcases List.mem_or_eq_of_mem_set hx with z | rfl
  · exact h.dc x z
  · exact hc, fun x hx => by
  rcases List.mem_or_eq_of_mem_set hx with z | rfl
  · exact h.dr x z
  · exact hd, h.ll, h.lr⟩
theorem bentA_ok {row : D} (hr : RowOk row) (hp : PP p) (hn : 0 < n) (hn3 : n ≤ 3) (h : Lg p n ds ls) : ∃ row' ls', RowOk row' ∧ Lg p n ds ls' ∧ ∀ P : NP, (∀ fl as rows ρ, endP row' ds ls' fl as rows ρ → P fl as rows ρ) → ∀ (as : List Addr) (e4 e6 e7 e8 e9 e10 : Sl), bentA as (ds.map deL) [.io row, .fz (.int p), .fz (.tuple (ds.map deD)), .fz (.tuple (ls.map prD)), e4, .ow (raw as), e6, e7, e8, e9, e10] P := by
  have pb := pp_b hp
  have hll := h.ll
  obtain ⟨j, row1, e1, hj, hr1⟩ := taken_ex hr (m := ((ls.length : Nat) : Int)) (by omega) (by omega)
  obtain ⟨v, row2, e2, hv, hr2⟩ := number_ex hr1 hp
  obtain ⟨k, row3, e3, hk, hr3⟩ := taken_ex hr2 (m := 2) (by decide) (by decide)
  obtain ⟨j, rfl⟩ := Int.eq_ofNat_of_zero_le hj.1
  have hj2 : j < ls.length := by omega
  have hq := h.lr _ (List.getElem_mem hj2)
  refine ⟨row3, ls.set j (if k = 0 then (v, ls[j].2) else (ls[j].1, v)), hr3, h.setLs (by split <;> first | exact ⟨hv, hq.2⟩ | exact ⟨hq.1, hv⟩), fun P hP as e4 e6 e7 e8 e9 e10 => ?_⟩
  refine ⟨rfl, noobj_de, nMake2_i (callI_of (ds := [.int (ls.length : Nat)]) ?_ e1 (wMC_Comp ?_))⟩
  · simp [mCons, mLenV, mNil, slD, dLen, objD, List.set]
  simp_arith [List.length_map, show ls.length ≤ 16777216 by omega]
  refine wC_maps prD prL (fun q hq => ?_) ?_
  · show wG _ _ _ _
    unfold prD prL
    simp_arith
  intro as2 hl2
  rw [List.length_map] at hl2
  have hg : (ls.map prL)[j]? = some (prL ls[j]) := by rw [List.getElem?_map, List.getElem?_eq_getElem hj2]; rfl
  have hx : ixN as2.length ((j : Nat) : Int) = some j := ixN_nat (by omega)
  have hset : ∃ d', dSetA (prL ls[j]) (.int k) (.int v) = some d' ∧ (ls.map prL).set j d' = (ls.set j (if k = 0 then (v, ls[j].2) else (ls[j].1, v))).map prL := by
    have : k = 0 ∨ k = 1 := by omega
    rcases this with rfl | rfl
    · exact ⟨prL (v, ls[j].2), rfl, by rw [List.map_set]; rfl⟩
    · exact ⟨prL (ls[j].1, v), rfl, by rw [List.map_set]; rfl⟩
  obtain ⟨d', hd1, hd2⟩ := hset
  refine nSet2_i (callI_of (ds := [.int p]) rfl e2 ⟨rfl, ?_⟩)
  simp_arith
  refine ⟨j, j, _, rfl, hx, hg, ?_⟩
  refine callI_of (ds := [.int 2]) rfl e3 ⟨d', hd1, ?_⟩
  rw [hd2]
  refine nFrz_i ⟨rfl, noobj_pr, ?_⟩
  simp_arith [List.length_map, List.length_set, show ls.length ≤ 16777216 by omega]
  refine wC_maps prL prD (fun q hq => ?_) ?_
  · show wG _ _ _ _
    unfold prD prL
    simp_arith
  simp_arith
  exact hP _ _ _ _ endP_i
def Bnt (b : NS) (row : D) (p w : Int) (a2 : D) (j k : Nat) (ds : List Deed) (row' : D) (ds' : List Deed) (ls : List (Int × Int)) : Prop :=
  ∀ (as : List Addr) (e7 e9 e10 : Sl), as.length = ds.length → b as (ds.map deL) [.io row, .fz (.int p), .fz a2, .fz (.tuple (ls.map prD)), .fz (.int w), .ow (raw as), .fz (.int (j : Nat)), e7, .fz (.int (k : Nat)), e9, e10] (endP row' ds' ls)
theorem deL_get {j : Nat} (h : j < ds.length) : (ds.map deL)[j]? = some (deL ds[j]) := by rw [List.getElem?_map, List.getElem?_eq_getElem h]; rfl
theorem deL_set {j : Nat} {d : Deed} : (ds.map deL).set j (deL d) = (ds.set j d).map deL := by rw [List.map_set]
theorem bent5_ok {row : D} {w : Int} {a2 : D} {j k : Nat} (hj : j < ds.length) (hk : k < ds.length) (h : Lg p n ds ls) : ∃ ds', Lg p n ds' ls ∧ Bnt bent5 row p w a2 j k ds row ds' ls := by
  by_cases hw : w = 4
  · have hl : Lg p n ((ds.set j ds[k]).set k ds[j]) ls := (h.setDs (h.dc _ (List.getElem_mem hk)) (h.dr _ (List.getElem_mem hk))).setDs (h.dc _ (List.getElem_mem hj)) (h.dr _ (List.getElem_mem hj))
    refine ⟨_, hl, fun as e7 e9 e10 hl2 => ?_⟩
    refine take_i rfl hw ?_
    refine ⟨rfl, by decide, by decide, j, k, j, k, as[j], as[k], deL ds[j], deL ds[k], rfl, rfl, ixN_nat (by omega), ixN_nat (by omega), List.getElem?_eq_getElem _, List.getElem?_eq_getElem _, deL_get hj, deL_get hk, ?_⟩
    rw [deL_set, deL_set]
    exact bent6_ok hl.d5
  · exact ⟨ds, h, fun as e7 e9 e10 hl2 => skip_i rfl hw (bent6_ok h.d5)⟩
theorem bent4_ok {row : D} {w : Int} {a2 : D} {j k : Nat} (hp : PP p) (hj : j < ds.length) (hk : k < ds.length) (h : Lg p n ds ls) : ∃ ds', Lg p n ds' ls ∧ Bnt bent4 row p w a2 j k ds row ds' ls := by
  have pb := pp_b hp
  by_cases hw : w = 3
  · have hr := h.dr _ (List.getElem_mem hj)
    have hcj : ds[j].c < n := h.dc _ (List.getElem_mem hj)
    have hl : Lg p n (ds.set j ⟨ds[j].c, ds[j].old, (((k : Nat) : Int) + 1) % p, ds[j].new⟩) ls := h.setDs hcj ⟨hr.1, ⟨Int.emod_nonneg _ (by omega), Int.emod_lt_of_pos _ (by omega)⟩, hr.2.2⟩
    obtain ⟨ds', h1, h2⟩ := bent5_ok (row := row) (w := w) (a2 := a2) (j := j) (k := k) (by rw [List.length_set]; exact hj) (by rw [List.length_set]; exact hk) hl
    refine ⟨ds', h1, fun as e7 e9 e10 hl2 => take_i rfl hw ?_⟩
    refine nSet2_i ?_
    simp_arith [show 0 < p by omega]
    refine ⟨j, j, _, rfl, ixN_nat (by omega), deL_get hj, deL ⟨ds[j].c, ds[j].old, (((k : Nat) : Int) + 1) % p, ds[j].new⟩, rfl, ?_⟩
    rw [deL_set]
    exact h2 as e7 e9 e10 (by rw [List.length_set]; exact hl2)
  · obtain ⟨ds', h1, h2⟩ := bent5_ok (row := row) (w := w) (a2 := a2) (j := j) (k := k) hj hk h
    exact ⟨ds', h1, fun as e7 e9 e10 hl2 => skip_i rfl hw (h2 as e7 e9 e10 hl2)⟩
theorem bent3_ok {row : D} {w : Int} {a2 : D} {j k : Nat} (hp : PP p) (hj : j < ds.length) (hk : k < ds.length) (h : Lg p n ds ls) : ∃ ds', Lg p n ds' ls ∧ Bnt bent3 row p w a2 j k ds row ds' ls := by
  by_cases hw : w = 2
  · have hr := h.dr _ (List.getElem_mem hj)
    have hs := h.dr _ (List.getElem_mem hk)
    have hcj : ds[j].c < n := h.dc _ (List.getElem_mem hj)
    have l1 : Lg p n (ds.set j ⟨ds[j].c, ds[k].old, ds[k].told, ds[j].new⟩) ls := h.setDs hcj ⟨hs.1, hs.2.1, hr.2.2⟩
    have hk1 : k < (ds.set j ⟨ds[j].c, ds[k].old, ds[k].told, ds[j].new⟩).length := by rw [List.length_set]; exact hk
    have hj1 : j < (ds.set j ⟨ds[j].c, ds[k].old, ds[k].told, ds[j].new⟩).length := by rw [List.length_set]; exact hj
    have e1 := fun (dk : Deed) => deL_set (ds := ds) (j := j) (d := ⟨ds[j].c, dk.old, dk.told, ds[j].new⟩)
    generalize hd1 : ds.set j ⟨ds[j].c, ds[k].old, ds[k].told, ds[j].new⟩ = d1 at l1 hk1 hj1
    have ht := l1.dr _ (List.getElem_mem hk1)
    have hck : d1[k].c < n := l1.dc _ (List.getElem_mem hk1)
    have l2 : Lg p n (d1.set k ⟨d1[k].c, ds[j].old, ds[j].told, d1[k].new⟩) ls := l1.setDs hck ⟨hr.1, hr.2.1, ht.2.2⟩
    obtain ⟨ds', h1, h2⟩ := bent4_ok (row := row) (w := w) (a2 := a2) (j := j) (k := k) hp (by rw [List.length_set]; exact hj1) (by rw [List.length_set]; exact hk1) l2
    refine ⟨ds', h1, fun as e7 e9 e10 hl2 => take_i rfl hw ?_⟩
    have q1 : (ds.map deL).set j (.list (spl 1 3 [PyData.int (ds[j].c : Nat), .int ds[j].old, .int ds[j].told, .int ds[j].new] (cutD [PyData.int (ds[k].c : Nat), .int ds[k].old, .int ds[k].told, .int ds[k].new] (some 1) (some 3)))) = d1.map deL := by
      rw [← hd1, ← deL_set]; rfl
    refine ⟨rfl, j, k, j, k, as[j], as[k], _, _, [PyData.int (d1[k].c : Nat), .int d1[k].old, .int d1[k].told, .int d1[k].new], rfl, rfl, ixN_nat (by omega), ixN_nat (by omega), List.getElem?_eq_getElem _, List.getElem?_eq_getElem _, deL_get hj, deL_get hk, by decide, by decide, by simp, by simp, ?_, by simp, by simp, ?_⟩
    · rw [q1]; exact deL_get hk1
    · rw [q1]
      have q2 : (d1.map deL).set k (.list (spl 1 3 [PyData.int (d1[k].c : Nat), .int d1[k].old, .int d1[k].told, .int d1[k].new] (cutD [PyData.int (ds[j].c : Nat), .int ds[j].old, .int ds[j].told, .int ds[j].new] (some 1) (some 3)))) = (d1.set k ⟨d1[k].c, ds[j].old, ds[j].told, d1[k].new⟩).map deL := by
        rw [← deL_set]; rfl
      rw [q2]
      exact h2 as e7 e9 e10 (by rw [List.length_set, ← hd1, List.length_set]; exact hl2)
  · obtain ⟨ds', h1, h2⟩ := bent4_ok (row := row) (w := w) (a2 := a2) (j := j) (k := k) hp hj hk h
    exact ⟨ds', h1, fun as e7 e9 e10 hl2 => skip_i rfl hw (h2 as e7 e9 e10 hl2)⟩
theorem bent2_ok {row : D} (hrow : RowOk row) {w : Int} {a2 : D} {j k : Nat} (hp : PP p) (hj : j < ds.length) (hk : k < ds.length) (h : Lg p n ds ls) : ∃ row' ds', RowOk row' ∧ Lg p n ds' ls ∧ Bnt bent2 row p w a2 j k ds row' ds' ls := by
  by_cases hw : w = 1
  · obtain ⟨v, row1, e1, hv, hr1⟩ := number_ex hrow hp
    obtain ⟨t, row2, e2, ht, hr2⟩ := taken_ex hr1 (m := 3) (by decide) (by decide)
    have hr := h.dr _ (List.getElem_mem hj)
    have hcj : ds[j].c < n := h.dc _ (List.getElem_mem hj)
    have hd : ∃ d' : Deed, Lg p n (ds.set j d') ls ∧ dSetA (deL ds[j]) (.int (1 + t)) (.int v) = some (deL d') := by
      have : t = 0 ∨ t = 1 ∨ t = 2 := by omega
      rcases this with rfl | rfl | rfl
      · exact ⟨⟨ds[j].c, v, ds[j].told, ds[j].new⟩, h.setDs hcj ⟨hv, hr.2⟩, rfl⟩
      · exact ⟨⟨ds[j].c, ds[j].old, v, ds[j].new⟩, h.setDs hcj ⟨hr.1, hv, hr.2.2⟩, rfl⟩
      · exact ⟨⟨ds[j].c, ds[j].old, ds[j].told, v⟩, h.setDs hcj ⟨hr.1, hr.2.1, hv⟩, rfl⟩
    obtain ⟨d', l1, hd'⟩ := hd
    obtain ⟨ds', h1, h2⟩ := bent3_ok (row := row2) (w := w) (a2 := a2) (j := j) (k := k) hp (by rw [List.length_set]; exact hj) (by rw [List.length_set]; exact hk) l1
    refine ⟨row2, ds', hr2, h1, fun as e7 e9 e10 hl2 => take_i rfl hw ?_⟩
    refine nSet2_i (callI_of (ds := [.int p]) rfl e1 ⟨rfl, ?_⟩)
    simp_arith
    refine ⟨j, j, _, rfl, ixN_nat (by omega), deL_get hj, ?_⟩
    refine wM_CallI ?_
    simp_arith [wFI_of e2]
    refine ⟨deL d', hd', ?_⟩
    rw [deL_set]
    exact h2 as e7 e9 e10 (by rw [List.length_set]; exact hl2)
  · obtain ⟨ds', h1, h2⟩ := bent3_ok (row := row) (w := w) (a2 := a2) (j := j) (k := k) hp hj hk h
    exact ⟨row, ds', hrow, h1, fun as e7 e9 e10 hl2 => skip_i rfl hw (h2 as e7 e9 e10 hl2)⟩
theorem dsD_inj {a b : List Deed} (h : a.map deD = b.map deD) : a = b := (List.map_inj_right fun x y e => by
  cases x; cases y
  simp only [deD, PyData.tuple.injEq, List.cons.injEq, PyData.int.injEq, and_true] at e
  obtain ⟨e1, e2, e3, e4⟩ := e
  have := Int.ofNat_inj.mp e1
  subst this e2 e3 e4
  rfl).mp h
theorem lsD_inj {a b : List (Int × Int)} (h : a.map prD = b.map prD) : a = b := (List.map_inj_right fun x y e => by
  cases x; cases y
  simp only [prD, PyData.tuple.injEq, List.cons.injEq, PyData.int.injEq, and_true] at e
  obtain ⟨e1, e2⟩ := e
  subst e1 e2
  rfl).mp h
theorem bent_core {row : D} (hrow : RowOk row) (hp : PP p) (hn : 0 < n) (hn3 : n ≤ 3) (h : Lg p n ds ls) : ∃ row' ds' ls', RowOk row' ∧ Lg p n ds' ls' ∧ n__law_bent [] [] [.io row, .fz (.int p), .fz (.tuple (ds.map deD)), .fz (.tuple (ls.map prD)), .emp, .emp, .emp, .emp, .emp, .emp, .emp] (endP row' ds' ls') := by
  obtain ⟨w, row1, e1, hw, hr1⟩ := taken_ex hrow (m := 6) (by decide) (by decide)
  have h5 := h.d5
  have top : ∀ {P : NP}, (∀ as : List Addr, as.length = ds.length → nSeq (nIfN (tnOr (tnLift (mB (mCmpV dEq 4 (mC (.int 0))))) (tnEmp 5)) bentA nSkip) bent1 as (ds.map deL) [.io row1, .fz (.int p), .fz (.tuple (ds.map deD)), .fz (.tuple (ls.map prD)), .fz (.int w), .ow (raw as), .emp, .emp, .emp, .emp, .emp] P) →
      n__law_bent [] [] [.io row, .fz (.int p), .fz (.tuple (ds.map deD)), .fz (.tuple (ls.map prD)), .emp, .emp, .emp, .emp, .emp, .emp, .emp] P := fun {P} hk => by
    rw [bent_eq]
    refine nMake2_i (callI_of (ds := [.int 6]) rfl e1 (wMC_Comp ?_))
    simp_arith [List.length_map, show ds.length ≤ 16777216 by omega]
    refine wC_maps deD deL (fun q hq => ?_) ?_
    · show wG _ _ _ _
      unfold deD deL
      simp_arith
    intro as hl
    exact hk as (by rw [hl, List.length_map])
  have sh : SeqAt.shaped (.list (ds.map deL)) = true := shaped_of (by
    rw [shq_l, List.all_eq_true]
    intro x hx
    obtain ⟨d, _, rfl⟩ := List.mem_map.mp hx
    rfl)
  have emp : ∀ {as : List Addr} {P : NP}, w ≠ 0 → (if (ds.map deL).isEmpty = true then bentA as (ds.map deL) [.io row1, .fz (.int p), .fz (.tuple (ds.map deD)), .fz (.tuple (ls.map prD)), .fz (.int w), .ow (raw as), .emp, .emp, .emp, .emp, .emp] (fun fl as' rows' ρ' => match fl with
      | .nx => bent1 as' rows' ρ' P
      | f => P f as' rows' ρ') else bent1 as (ds.map deL) [.io row1, .fz (.int p), .fz (.tuple (ds.map deD)), .fz (.tuple (ls.map prD)), .fz (.int w), .ow (raw as), .emp, .emp, .emp, .emp, .emp] P) →
      nSeq (nIfN (tnOr (tnLift (mB (mCmpV dEq 4 (mC (.int 0))))) (tnEmp 5)) bentA nSkip) bent1 as (ds.map deL) [.io row1, .fz (.int p), .fz (.tuple (ds.map deD)), .fz (.tuple (ls.map prD)), .fz (.int w), .ow (raw as), .emp, .emp, .emp, .emp, .emp] P := fun {as P} h0 hk => by
    refine ⟨_, _, w_eq rfl, ?_⟩
    rw [decide_eq_false h0]
    simp only [Bool.false_eq_true, reduceIte]
    refine ⟨rfl, sh, noobj_de, ?_⟩
    revert hk
    cases hb : (ds.map deL).isEmpty with
    | true => exact fun hk => hk
    | false => exact fun hk => hk
  by_cases h0 : w = 0
  · obtain ⟨row', ls', a1, a2, a3⟩ := bentA_ok hr1 hp hn hn3 h
    refine ⟨row', ds, ls', a1, a2, top fun as hl => ?_⟩
    refine ⟨_, _, w_eq rfl, ?_⟩
    rw [decide_eq_true h0]
    exact a3 _ (fun fl as rows ρ z => by obtain ⟨rfl, z⟩ := z; exact ⟨rfl, z⟩) as _ _ _ _ _ _
  · by_cases hd : ds = []
    · obtain ⟨row', ls', a1, a2, a3⟩ := bentA_ok hr1 hp hn hn3 h
      refine ⟨row', ds, ls', a1, a2, top fun as hl => emp h0 ?_⟩
      rw [if_pos (by rw [hd]; rfl)]
      exact a3 _ (fun fl as rows ρ z => by obtain ⟨rfl, z⟩ := z; exact ⟨rfl, z⟩) as _ _ _ _ _ _
    · have hlen : 0 < ds.length := List.length_pos_iff.mpr hd
      obtain ⟨j, row2, e2, hj, hr2⟩ := taken_ex hr1 (m := ((ds.length : Nat) : Int)) (by omega) (by omega)
      obtain ⟨k, row3, e3, hk, hr3⟩ := taken_ex hr2 (m := ((ds.length : Nat) : Int)) (by omega) (by omega)
      obtain ⟨j, rfl⟩ := Int.eq_ofNat_of_zero_le hj.1
      obtain ⟨k, rfl⟩ := Int.eq_ofNat_of_zero_le hk.1
      obtain ⟨row', ds', a1, a2, a3⟩ := bent2_ok hr3 (w := w) (a2 := .tuple (ds.map deD)) (j := j) (k := k) hp (by omega) (by omega) h
      refine ⟨row', ds', ls, a1, a2, top fun as hl => emp h0 ?_⟩
      rw [if_neg (by rw [List.isEmpty_iff]; intro z; rw [List.map_eq_nil_iff] at z; exact hd z)]
      unfold bent1 nSeq
      refine nLift_i ?_
      have m1 : ∀ (row : D) (e6 e8 : Sl), mCons (mLenR 5) mNil [.io row, .fz (.int p), .fz (.tuple (ds.map deD)), .fz (.tuple (ls.map prD)), .fz (.int w), .ow (raw as), e6, .emp, e8, .emp, .emp] = some ([.int (ds.length : Nat)], [.io row, .fz (.int p), .fz (.tuple (ds.map deD)), .fz (.tuple (ls.map prD)), .fz (.int w), .ow (raw as), e6, .emp, e8, .emp, .emp]) := fun row e6 e8 => by
        unfold mCons
        rw [mLenR_raw rfl, hl]; rfl
      simp_arith
      refine callI_of (m1 _ _ _) e2 ?_
      simp_arith
      refine callI_of (m1 _ _ _) e3 ?_
      simp_arith
      exact a3 as _ _ _ hl
end
theorem bent_ok {row : D} {p : Int} {fs : List Int} {ds : List Deed} {ls : List (Int × Int)} (hrow : RowOk row) (N : Nm p fs ds ls) {Q : D → Bool → D → Prop} (k : ∀ ds' ls' row', Nm p fs ds' ls' → RowOk row' → Q (.tuple [dsD ds', lsD ls']) false row') : wFI S__law_bent row [.int p, dsD ds, lsD ls] Q := by
  obtain ⟨row', ds', ls', h1, h2, h3⟩ := bent_core hrow N.pp (show 0 < fs.length from N.f1) N.f3 N.lg
  have hx : ∃ fl ρ', m__law_bent [.io row, .fz (.int p), .fz (.tuple (ds.map deD)), .fz (.tuple (ls.map prD)), .emp, .emp, .emp, .emp, .emp, .emp, .emp] = some (fl, ρ') ∧ bentR [.io row, .fz (.int p), .fz (.tuple (ds.map deD)), .fz (.tuple (ls.map prD)), .emp, .emp, .emp, .emp, .emp, .emp, .emp] fl ρ' := mOfN_w ⟨_, _, h3, fun rowx px n ds2 ls2 he hr hp hn hn3 hlg => by
    simp only [List.cons.injEq, Sl.io.injEq, Sl.fz.injEq, PyData.int.injEq, PyData.tuple.injEq, and_true] at he
    obtain ⟨a1, a2, a3, a4⟩ := he
    have b3 := dsD_inj a3
    have b4 := lsD_inj a4
    subst a1 a2 b3 b4
    have hn := hlg.ll
    rw [N.lg.ll] at hn
    subst hn
    exact ⟨row', ds', ls', h1, h2, rfl, rfl⟩⟩
  obtain ⟨fl, ρ', e, hR⟩ := hx
  obtain ⟨row', ds', ls', q1, q2, q3, q4⟩ := hR row p fs.length ds ls rfl hrow N.pp N.f1 N.f3 N.lg
  subst q3 q4
  refine wFI_run ⟨_, _, e, ?_⟩
  exact k ds' ls' row' ⟨N.pp, q2, N.f1, N.f3, N.fr⟩ q1
theorem alike_seq {n : Nat} {due : D} {ds : List D} (hd : due = .list ds ∨ due = .tuple ds) (hl : ds.length ≤ 16777216) (ih : ∀ d ∈ ds, ∀ {Q : D → Bool → Prop}, wF (S__law_alike n) [d, d] Q ↔ Q (.bool true) false) : wF (S__law_alike (n + 1)) [due, due] (fun d o => d = .bool true ∧ o = false) := by
  have hb : -4611686018427387904 ≤ ((ds.length : Nat) : Int) ∧ ((ds.length : Nat) : Int) < 4611686018427387904 := by omega
  have hz : (List.range ds.length).length ≤ 16777216 := by rw [List.length_range]; omega
  rw [S__law_alike]
  rcases hd with rfl | rfl
  · simp_arith [m__law_alike, m__law_alike_1a1, m__law_alike_1a2, m__law_alike_1a3, dIsi2_tl_l, dIsi_list_l, beq_b, decide_rfl, hb, hz, Int.toNat_natCast, List.length_map]
    refine wC_map (fun _ => none) (fun x hx => ?_) ?_
    · show wG _ _ _ _
      obtain ⟨k, hk, rfl⟩ := List.mem_map.mp hx
      rw [List.mem_range] at hk
      have e := List.getElem?_eq_getElem hk
      simp_arith [MM.atI_nat, e, ih _ (List.getElem_mem hk)]
    · have e : ((List.range ds.length).map fun i => PyData.int (i : Nat)).filterMap (fun _ => (none : Option D)) = [] := by rw [List.filterMap_eq_nil_iff]; intros; rfl
      simp_arith [e]
  · simp_arith [m__law_alike, m__law_alike_1a1, m__law_alike_1a2, m__law_alike_1a3, dIsi2_tl_t, dIsi_list_t, beq_b, decide_rfl, hb, hz, Int.toNat_natCast, List.length_map]
    refine wC_map (fun _ => none) (fun x hx => ?_) ?_
    · show wG _ _ _ _
      obtain ⟨k, hk, rfl⟩ := List.mem_map.mp hx
      rw [List.mem_range] at hk
      have e := List.getElem?_eq_getElem hk
      simp_arith [MM.atI_nat, e, ih _ (List.getElem_mem hk)]
    · have e : ((List.range ds.length).map fun i => PyData.int (i : Nat)).filterMap (fun _ => (none : Option D)) = [] := by rw [List.filterMap_eq_nil_iff]; intros; rfl
      simp_arith [e]
theorem alike_n : ∀ (n : Nat) (d : D), alk n d = true → ∀ {Q : D → Bool → Prop}, wF (S__law_alike n) [d, d] Q ↔ Q (.bool true) false
  | 0, d, h, Q => by simp [alk] at h
  | n + 1, .none, h, Q => by
    rw [S__law_alike]
    simp_arith [m__law_alike, m__law_alike_2, m__law_alike_3, dIsi2_tl_n, dIsi_dict_n, dIsi_str_n, eqv_nn, beq_b]
  | n + 1, .bool b, h, Q => by
    rw [S__law_alike]
    simp_arith [m__law_alike, m__law_alike_2, m__law_alike_3, m__law_alike_4, dIsi2_tl_b, dIsi_dict_b, dIsi_str_b, dIsi_int_b, dIsi_bool_b, dIsN_b, beq_b]
  | n + 1, .int b, h, Q => by
    rw [S__law_alike]
    simp_arith [m__law_alike, m__law_alike_2, m__law_alike_3, m__law_alike_4, dIsi2_tl_i, dIsi_dict_i, dIsi_str_i, dIsi_int_int, dIsi_bool_int, beq_b, decide_rfl]
  | n + 1, .str x, h, Q => by
    have hs : shq 64 (.str x) = true := h
    have e : (x == x) = true := by rw [Bool.beq_eq_decide_eq]; exact decide_rfl
    rw [S__law_alike]
    simp_arith [m__law_alike, m__law_alike_2, m__law_alike_3, m__law_alike_4, dIsi2_tl_s, dIsi_dict_s, dIsi_str_str, dIsN_s, beq_b, hs, e]
  | n + 1, .list ds, h, Q => by
    rw [alk, Bool.and_eq_true, List.all_eq_true] at h
    exact wF_of (wF_eq (alike_seq (.inl rfl) (of_decide_eq_true h.1) fun d hd {Q} => alike_n n d (h.2 d hd)))
  | n + 1, .tuple ds, h, Q => by
    rw [alk, Bool.and_eq_true, List.all_eq_true] at h
    exact wF_of (wF_eq (alike_seq (.inr rfl) (of_decide_eq_true h.1) fun d hd {Q} => alike_n n d (h.2 d hd)))
  | n + 1, .dict ds, h, Q => by simp [alk] at h
theorem alike_ok {d e : D} (h : alk 40 d = true) (he : e = d) {Q : D → Bool → Prop} : wF (S__law_alike 40) [e, d] Q ↔ Q (.bool true) false := by
  subst he
  exact alike_n 40 _ h
/-! the law's own lists -/
def d0 : Deed := ⟨0, 0, 0, 0⟩
theorem range_late : ∀ (ds pre : List Deed), ((List.range' pre.length ds.length).filter fun i => decide (((i : Nat) : Int) + 1 ≤ ((pre ++ ds).getD i d0).told)).map (fun i => ((i : Nat) : Int)) = lateL (pre.length : Nat) ds
  | [], pre => rfl
  | d :: ds, pre => by
    have ih := range_late ds (pre ++ [d])
    rw [List.append_assoc, List.length_append, List.length_singleton] at ih
    have e0 : (pre ++ d :: ds).getD pre.length d0 = d := by simp
    rw [List.length_cons, List.range'_succ, List.filter_cons, e0, lateL]
    have hk : ((pre.length + 1 : Nat) : Int) = ((pre.length : Nat) : Int) + 1 := by omega
    rw [hk] at ih
    by_cases h : ((pre.length : Nat) : Int) < d.told
    · rw [if_pos h, if_pos (decide_eq_true (by omega)), List.map_cons]
      exact congrArg _ ih
    · rw [if_neg h, if_neg (by rw [decide_eq_true_eq]; omega)]
      exact ih
theorem range_puts : ∀ (ds pre : List Deed), ((List.range' pre.length ds.length).map fun i => PyData.tuple [.int (((pre ++ ds).getD i d0).c : Nat), .int ((pre ++ ds).getD i d0).new, .int (((i : Nat) : Int) + 1)]) = (putsF (pre.length : Nat) ds).map encR
  | [], pre => rfl
  | d :: ds, pre => by
    have ih := range_puts ds (pre ++ [d])
    rw [List.append_assoc, List.length_append, List.length_singleton] at ih
    have e0 : (pre ++ d :: ds).getD pre.length d0 = d := by simp
    have hk : ((pre.length + 1 : Nat) : Int) = ((pre.length : Nat) : Int) + 1 := by omega
    rw [hk] at ih
    rw [List.length_cons, List.range'_succ, List.map_cons, e0, putsF, List.map_cons]
    exact congr (congrArg _ rfl) ih
theorem range_cells : ∀ (ls pre : List (Int × Int)), ((List.range' pre.length ls.length).map fun i => PyData.tuple [.int (i : Nat), .int ((pre ++ ls).getD i (0, 0)).1, .int ((pre ++ ls).getD i (0, 0)).2]) = (cellsF pre.length ls).map encR
  | [], pre => rfl
  | d :: ds, pre => by
    have ih := range_cells ds (pre ++ [d])
    rw [List.append_assoc, List.length_append, List.length_singleton] at ih
    have e0 : (pre ++ d :: ds).getD pre.length (0, 0) = d := by simp
    rw [List.length_cons, List.range'_succ, List.map_cons, e0, cellsF, List.map_cons]
    exact congr (congrArg _ rfl) ih
theorem de_get {ds : List Deed} {i : Nat} (h : i < ds.length) : (ds.map deD)[i]? = some (.tuple [.int ((ds.getD i d0).c : Nat), .int (ds.getD i d0).old, .int (ds.getD i d0).told, .int (ds.getD i d0).new]) := by
  rw [List.getElem?_map, List.getD_eq_getElem?_getD, List.getElem?_eq_getElem h]; rfl
theorem ls_get {ls : List (Int × Int)} {i : Nat} (h : i < ls.length) : (ls.map prD)[i]? = some (.tuple [.int (ls.getD i (0, 0)).1, .int (ls.getD i (0, 0)).2]) := by
  rw [List.getElem?_map, List.getD_eq_getElem?_getD, List.getElem?_eq_getElem h]; rfl
theorem cut4 {a b c d : D} : cutD [a, b, c, d] none (some 3) = [a, b, c] := by unfold cutD; simp [HT.sIx]
theorem encR_eq {x y : List Int} : PyData.eqv (encR x) (encR y) = decide (x = y) := by
  unfold encR
  rw [eqv_tt, eqv_ints]
theorem encRs_eq : ∀ {a b : List (List Int)}, PyData.eqvAll (a.map encR) (b.map encR) = decide (a = b)
  | [], [] => by simp [eqvs_nil]
  | [], _ :: _ => by simp [eqvs_nc]
  | _ :: _, [] => by simp [eqvs_cn]
  | x :: a, y :: b => by
    rw [List.map_cons, List.map_cons, eqvs_cons, encR_eq, encRs_eq]
    by_cases h : x = y <;> by_cases h2 : a = b <;> simp [h, h2]
theorem encR_shq {n : Nat} {x : List Int} : shq (n + 1) (encR x) = true := by unfold encR; rw [shq_t]; exact shq_ints
theorem encRs_shq {a : List (List Int)} : shq 64 (.list (a.map encR)) = true := by
  rw [shq_l, List.all_eq_true]
  intro x hx
  obtain ⟨q, _, rfl⟩ := List.mem_map.mp hx
  exact encR_shq
theorem ne3 {rows : List (List Int)} (h : ∀ r ∈ rows, is3 r) : ∀ r ∈ rows, r ≠ [] := fun r hr z => by
  have := h r hr
  rw [z] at this
  cases this
theorem whole_triple_ok {r : List Int} (h : is3 r) (h0 : ∀ n ∈ r, 0 ≤ n) {Q : D → Bool → Prop} : wF S_is_whole_triple [encR r] Q ↔ Q (.bool true) false := by
  have e : wF S_is_whole_triple [encR r] (fun d o => d = .bool true ∧ o = false) := by
    unfold is3 at h
    unfold S_is_whole_triple encR
    simp_arith [m_is_whole_triple, List.length_map, h, dNe_ii, m_is_whole_triple_2]
    refine wC_maps PyData.int (fun n => .bool (decide (0 ≤ n))) (fun n hn => ?_) ?_
    · show wG _ _ _ _
      simp_arith [is_integer_ok]
    · have e : (r.map fun n => decide (0 ≤ n)).all id = true := all_mapf fun n hn => decide_eq_true (h0 n hn)
      simp_arith [e]
  exact wF_of (wF_eq e)
theorem any_bag_ok {A : List (List Int)} (h : ∀ r ∈ A, is3 r) (h0 : ∀ r ∈ A, ∀ n ∈ r, 0 ≤ n) (hl : A.length ≤ 200) {Q : D → Bool → Prop} : wF S_is_any_bag [bagD A] Q ↔ Q (.bool true) false := by
  have e : wF S_is_any_bag [bagD A] (fun d o => d = .bool true ∧ o = false) := by
    unfold S_is_any_bag bagD
    simp_arith [m_is_any_bag, m_is_any_bag_2, List.length_map, show ¬ (200 : Int) < ((A.length : Nat) : Int) by omega, show A.length ≤ 16777216 by omega]
    refine wC_maps encR (fun _ => .bool true) (fun r hr => ?_) ?_
    · show wG _ _ _ _
      simp_arith [whole_triple_ok (h r hr) (h0 r hr)]
    · have e : (A.map fun _ => true).all id = true := all_mapf fun _ _ => rfl
      simp_arith [e]
  exact wF_of (wF_eq e)
theorem same_bag_ok {A B : List (List Int)} (ha : ∀ r ∈ A, is3 r) (ha0 : ∀ r ∈ A, ∀ n ∈ r, 0 ≤ n) (hal : A.length ≤ 200) (hb : ∀ r ∈ B, is3 r) (hb0 : ∀ r ∈ B, ∀ n ∈ r, 0 ≤ n) (hbl : B.length ≤ 200) {Q : D → Bool → Prop} : wF S_is_same_bag [bagD A, bagD B] Q ↔ Q (.bool (decide (srt A = srt B))) false := by
  have s1 : dSorted (bagD A) = some (.list ((srt A).map encR)) := dSorted_t (ne3 ha)
  have s2 : dSorted (bagD B) = some (.list ((srt B).map encR)) := dSorted_t (ne3 hb)
  have q1 := encRs_shq (a := srt A)
  have q2 := encRs_shq (a := srt B)
  unfold S_is_same_bag
  simp_arith [m_is_same_bag, any_bag_ok ha ha0 hal, any_bag_ok hb hb0 hbl, s1, s2, q1, q2, encRs_eq]
section
variable {p : Int} {fs : List Int} {ds : List Deed} {ls : List (Int × Int)} (N : Nm p fs ds ls)
include N
theorem nn_of {A : List (List Int)} (h3 : ∀ r ∈ A, is3 r) (h : ∀ x ∈ A.map toT, TrOk p x ∧ 0 ≤ x.c ∧ x.c < p) : ∀ r ∈ A, ∀ n ∈ r, 0 ≤ n := fun r hr n hn => by
  have q := h (toT r) (List.mem_map.mpr ⟨r, hr, rfl⟩)
  have e := (toT_l (h3 r hr)).1
  rw [← e] at hn
  simp only [Tri.l, List.mem_cons, List.not_mem_nil, or_false] at hn
  rcases hn with rfl | rfl | rfl
  · exact q.2.1
  · exact q.1.v.1
  · exact q.1.t.1
theorem Nm.due_iff : okLog (ini fs) 0 ds = some ls ↔ lateL 0 ds = [] ∧ (putL fs ds).Perm (takL ds ls) := by
  have h := log_iff ds (ini fs) ls 0 (fun d hd => by rw [ini_len]; exact N.lg.dc d hd) (by rw [ini_len]; exact N.lg.ll) (fun q hq => by
    obtain ⟨v, _, rfl⟩ := List.mem_map.mp hq
    exact Int.le_refl _)
  rw [noLate_iff] at h
  exact h
theorem Nm.passed (h : (putL fs ds).Perm (takL ds ls)) {z w : Int} : prM p z w 1 ((putL fs ds).map toT) = prM p z w 1 ((takL ds ls).map toT) := by
  have pb := pp_b N.pp
  rw [prM_iff (by omega), bagF_perm (h.map toT)]
  exact Cg.rfl
theorem pp_pr {p : Int} (hp : PP p) : ∃ P : Nat, p = P ∧ Pr P := by
  rcases hp with rfl | rfl | rfl | rfl | rfl
  · exact ⟨7, rfl, pr_7⟩
  · exact ⟨11, rfl, pr_11⟩
  · exact ⟨13, rfl, pr_13⟩
  · exact ⟨101, rfl, pr_101⟩
  · exact ⟨65537, rfl, pr_F⟩
theorem Nm.loss {M : Nat} (hM : M = fs.length + ds.length) : ∃ a b, S_log_loss [.int p, fsD fs, dsD ds] = some (.tuple [.int a, .int b], false) ∧ S__law_lowered [.int (if 2 * ((M : Nat) : Int) < p then 2 * ((M : Nat) : Int) else p), .int p] = some (.tuple [.int a, .int b], false) := by
  have pb := pp_b N.pp
  have h5 := N.lg.d5
  have f1 := N.f1
  have f3 := N.f3
  obtain ⟨a, b, e1, e2⟩ := low_ok (p := p) (t := if 2 * ((M : Nat) : Int) < p then 2 * ((M : Nat) : Int) else p) N.pp (by split <;> omega) (by split <;> omega)
  refine ⟨a, b, wF_eq ?_, e2⟩
  have l1 : dLen (fsD fs) = some (.int fs.length) := by unfold fsD; rw [dLen_t, List.length_map]
  have l2 : dLen (dsD ds) = some (.int ds.length) := by unfold dsD; rw [dLen_t, List.length_map]
  have em : ((fs.length : Nat) : Int) + ((ds.length : Nat) : Int) = ((M : Nat) : Int) := by omega
  unfold S_log_loss
  simp_arith [m_log_loss, need_prime_ok N.pp, m_log_loss_2, N.need_log, m_log_loss_3, l1, l2, em, wF_of e1, show -18446744073709551616 < ((M : Nat) : Int) by omega, show ((M : Nat) : Int) < 18446744073709551616 by omega]
end
section
variable {p : Int} {fs : List Int} {ds : List Deed} {ls : List (Int × Int)} (N : Nm p fs ds ls)
include N
theorem alk_encR {n : Nat} {x : List Int} (h : is3 x) : alk (n + 2) (encR x) = true := by
  unfold encR
  rw [alk, Bool.and_eq_true, List.all_eq_true]
  refine ⟨decide_eq_true (by rw [List.length_map, h]; decide), fun d hd => ?_⟩
  obtain ⟨i, _, rfl⟩ := List.mem_map.mp hd
  rfl
theorem alk_bag {n : Nat} {A : List (List Int)} (h : ∀ r ∈ A, is3 r) (hl : A.length ≤ 16777216) : alk (n + 3) (bagD A) = true := by
  unfold bagD
  rw [alk, Bool.and_eq_true, List.all_eq_true]
  refine ⟨decide_eq_true (by rw [List.length_map]; exact hl), fun d hd => ?_⟩
  obtain ⟨i, hi, rfl⟩ := List.mem_map.mp hd
  exact alk_encR N (h i hi)
def due (fs : List Int) (ds : List Deed) (ls : List (Int × Int)) : Bool := decide (okLog (ini fs) 0 ds = some ls)
theorem turnA {row : D} {t : Int} {e0 e7 e8 e9 e10 e11 e12 e13 e14 e15 e16 e17 e18 e19 e20 e21 e22 : Sl} {Q : Fl → En → Prop}
    (hQ : ∀ e18 e19 e20 e21 e22, wS m_law_4f8 [e0, .ow row, .fz (.int p), .fz (fsD fs), .fz (dsD ds), .fz (lsD ls), .fz (.int t), .fz (.bool (due fs ds ls)), .fz (bagD (putL fs ds)), .fz (bagD (takL ds ls)), .ow (.list ((lateL 0 ds).map .int)), e11, e12, e13, e14, e15, e16, e17, e18, e19, e20, e21, e22] Q) :
    wS m_law_4f1 [e0, .ow row, .fz (.int p), .fz (fsD fs), .fz (dsD ds), .fz (lsD ls), .fz (.int t), e7, e8, e9, e10, e11, e12, e13, e14, e15, e16, e17, e18, e19, e20, e21, e22] Q := by
  have pb := pp_b N.pp
  have h5 := N.lg.d5
  have f1 := N.f1
  have f3 := N.f3
  have hll := N.lg.ll
  have hf0 : ∀ n ∈ fs, 0 ≤ n := fun n hn => (N.fr n hn).1
  have l1 : dLen (fsD fs) = some (.int fs.length) := by unfold fsD; rw [dLen_t, List.length_map]
  have l2 : dLen (dsD ds) = some (.int ds.length) := by unfold dsD; rw [dLen_t, List.length_map]
  have l3 : dLen (lsD ls) = some (.int ls.length) := by unfold lsD; rw [dLen_t, List.length_map]
  have q1 : dSq (fsD fs) = some (fs.map .int) := rfl
  have q2 : dSeq (dsD ds) = some (ds.map deD) := rfl
  have x2 : ∀ i : Nat, i < ds.length → dIxA (dsD ds) (.int (i : Nat)) = some (.tuple [.int ((ds.getD i d0).c : Nat), .int (ds.getD i d0).old, .int (ds.getD i d0).told, .int (ds.getD i d0).new]) := fun i hi => by
    unfold dsD
    rw [dIxA_t, MM.atI_nat, de_get hi]
  have x3 : ∀ i : Nat, i < ls.length → dIxA (lsD ls) (.int (i : Nat)) = some (.tuple [.int (ls.getD i (0, 0)).1, .int (ls.getD i (0, 0)).2]) := fun i hi => by
    unfold lsD
    rw [dIxA_t, MM.atI_nat, ls_get hi]
  have hl1 : (enF 0 (fs.map PyData.int)).length ≤ 16777216 := by rw [← enumD_e]; unfold enumD; simp; omega
  have hb2 : -4611686018427387904 ≤ ((ds.length : Nat) : Int) ∧ ((ds.length : Nat) : Int) < 4611686018427387904 := by omega
  have hb3 : -4611686018427387904 ≤ ((ls.length : Nat) : Int) ∧ ((ls.length : Nat) : Int) < 4611686018427387904 := by omega
  have hz2 : (List.range ds.length).length ≤ 16777216 := by rw [List.length_range]; omega
  have hz3 : (List.range ls.length).length ≤ 16777216 := by rw [List.length_range]; omega
  have lt := fun {Q : D → Bool → Prop} => ltrue_ok (fs := fs) (ds := ds) (ls := ls) N.lg.dc (by omega) (Q := Q)
  have it := fun {Q : D → Bool → Prop} => is_true_ok N.lg hf0 f1 (by omega) (Q := Q)
  simp_arith [m_law_4f1, lt, m_law_4f2, q1, enumD_e, hl1]
  refine wC_en PyData.int (fun j v => PyData.tuple [.int j, .int v, .int 0]) fs 0 (fun x hx j => ?_) ?_
  · show wG _ _ _ _
    simp_arith
  simp_arith [l2, hb2, Int.toNat_natCast, List.length_map, hz2]
  refine wC_maps (fun i : Nat => PyData.int (i : Nat)) (fun i : Nat => PyData.tuple [.int ((ds.getD i d0).c : Nat), .int (ds.getD i d0).new, .int (((i : Nat) : Int) + 1)]) (fun i hi => ?_) ?_
  · show wG _ _ _ _
    rw [List.mem_range] at hi
    simp_arith [x2 i hi]
  have ea : enM (fun j v => PyData.tuple [.int j, .int v, .int 0]) 0 fs = (cellsF 0 (ini fs)).map encR := cells_enM fs 0
  have eb : (List.range ds.length).map (fun i => PyData.tuple [.int ((ds.getD i d0).c : Nat), .int (ds.getD i d0).new, .int (((i : Nat) : Int) + 1)]) = (putsF 0 ds).map encR := by
    rw [List.range_eq_range']
    exact range_puts ds []
  have ebag : PyData.tuple ((cellsF 0 (ini fs)).map encR ++ (putsF 0 ds).map encR) = bagD (putL fs ds) := by unfold bagD putL; rw [List.map_append]
  simp_arith [ea, eb, List.length_map, cellsF_len, putsF_len, ini_len, show fs.length + ds.length ≤ 16777216 by omega, ebag, m_law_4f3, q2, show ds.length ≤ 16777216 by omega]
  refine wC_maps deD (fun d => PyData.tuple [.int (d.c : Nat), .int d.old, .int d.told]) (fun d hd => ?_) ?_
  · show wG _ _ _ _
    unfold deD
    simp_arith [cut4]
  simp_arith [l3, hb3, Int.toNat_natCast, List.length_map, hz3]
  refine wC_maps (fun i : Nat => PyData.int (i : Nat)) (fun i : Nat => PyData.tuple [.int (i : Nat), .int (ls.getD i (0, 0)).1, .int (ls.getD i (0, 0)).2]) (fun i hi => ?_) ?_
  · show wG _ _ _ _
    rw [List.mem_range] at hi
    simp_arith [x3 i hi]
  have ec : (List.range ls.length).map (fun i => PyData.tuple [.int (i : Nat), .int (ls.getD i (0, 0)).1, .int (ls.getD i (0, 0)).2]) = (cellsF 0 ls).map encR := by
    rw [List.range_eq_range']
    exact range_cells ls []
  have ebag2 : PyData.tuple ((taksF ds).map encR ++ (cellsF 0 ls).map encR) = bagD (takL ds ls) := by unfold bagD takL; rw [List.map_append]
  have et : (taksF ds).length = ds.length := by unfold taksF; rw [List.length_map]
  have ab : ∀ b : Bool, alk 40 (.bool b) = true := fun b => rfl
  have aA := alk_bag N (n := 36) (put3 (fs := fs) (ds := ds)) (by rw [put_len]; omega)
  have aB := alk_bag N (n := 36) (tak3 (ds := ds) (ls := ls)) (by rw [tak_len]; omega)
  have aL : alk 40 (.list [bagD (putL fs ds), bagD (takL ds ls)]) = true := by
    rw [alk, Bool.and_eq_true, List.all_eq_true]
    refine ⟨rfl, fun d hd => ?_⟩
    simp only [List.mem_cons, List.not_mem_nil, or_false] at hd
    rcases hd with rfl | rfl
    · exact aA
    · exact aB
  have pu := fun {Q : D → Bool → Prop} => put_ok (fs := fs) (ds := ds) (by omega) (by omega) (Q := Q)
  have ta := fun {Q : D → Bool → Prop} => tak_ok (ds := ds) (ls := ls) (by omega) (by omega) (Q := Q)
  simp_arith [taks_map, ec, List.length_map, et, cellsF_len, show ds.length + ls.length ≤ 16777216 by omega, ebag2, m_law_4f4, it, alike_ok (ab _) rfl, pu, ta, alike_ok aL rfl, m_law_4f5, l2, hb2, Int.toNat_natCast, hz2]
  refine wC_filt (fun i : Nat => PyData.int (i : Nat)) (fun i : Nat => PyData.int (i : Nat)) (fun i => decide (((i : Nat) : Int) + 1 ≤ (ds.getD i d0).told)) (fun i hi => ?_) ?_
  · show wG _ _ _ _
    rw [List.mem_range] at hi
    by_cases hc : ((i : Nat) : Int) + 1 ≤ (ds.getD i d0).told
    · simp_arith [x2 i hi, hc]
    · simp_arith [x2 i hi, hc]
  have el : ((List.range ds.length).filter fun i => decide (((i : Nat) : Int) + 1 ≤ (ds.getD i d0).told)).map (fun i => PyData.int (i : Nat)) = (lateL 0 ds).map .int := by
    have := range_late ds []
    rw [List.nil_append, List.length_nil, ← List.range_eq_range'] at this
    have h2 := congrArg (List.map PyData.int) this
    rw [List.map_map] at h2
    exact h2
  have s1 : dSorted (bagD (putL fs ds)) = some (.list ((srt (putL fs ds)).map encR)) := dSorted_t (ne3 put3)
  have s2 : dSorted (bagD (takL ds ls)) = some (.list ((srt (takL ds ls)).map encR)) := dSorted_t (ne3 tak3)
  have z1 := encRs_shq (a := srt (putL fs ds))
  have z2 := encRs_shq (a := srt (takL ds ls))
  have sb := fun {Q : D → Bool → Prop} => same_bag_ok (A := putL fs ds) (B := takL ds ls) put3 (nn_of N put3 N.put_tr) (by rw [put_len]; omega) tak3 (nn_of N tak3 N.tak_tr) (by rw [tak_len]; omega) (Q := Q)
  have hdi := N.due_iff
  have an : alk 40 .none = true := rfl
  have ai : ∀ i : Int, alk 40 (.int i) = true := fun i => rfl
  simp_arith [el]
  cases hL : lateL 0 ds with
  | nil =>
    rw [hL] at hdi hQ
    have hdue : due fs ds ls = decide (srt (putL fs ds) = srt (takL ds ls)) := by
      unfold due
      rw [decide_eq_decide, hdi, srt_iff]
      exact ⟨fun h => h.2, fun h => ⟨rfl, h⟩⟩
    have hdue2 : decide (okLog (ini fs) 0 ds = some ls) = decide (srt (putL fs ds) = srt (takL ds ls)) := hdue
    have hs : shq 64 (.list []) = true := rfl
    simp_arith [hL, hs, eqv_nilr, List.isEmpty_nil, m_law_4f6, late_ok, headD, alike_ok an rfl, m_law_4f7, s1, s2, z1, z2, encRs_eq, hdue2, dNe_bb, beq_b, sb]
    rw [hdue] at hQ
    exact hQ _ _ _ _ _
  | cons x r =>
    rw [hL] at hdi hQ
    have hdue : due fs ds ls = false := by
      unfold due
      rw [decide_eq_false_iff_not, hdi]
      exact fun h => by cases h.1
    have hdue2 : decide (okLog (ini fs) 0 ds = some ls) = false := hdue
    have hs : shq 64 (.list []) = true := rfl
    have hs2 : shq 64 (.list (PyData.int x :: r.map .int)) = true := by
      rw [shq_l]
      exact shq_ints (xs := x :: r)
    simp_arith [hL, hs, hs2, eqv_nilr, List.isEmpty_cons, m_law_4f6, late_ok, headD, alike_ok (ai _) rfl, m_law_4f7, s1, s2, z1, z2, encRs_eq, hdue2, dNe_bb, beq_b, sb]
    rw [hdue] at hQ
    exact hQ _ _ _ _ _
end
section
variable {p : Int} {fs : List Int} {ds : List Deed} {ls : List (Int × Int)} (N : Nm p fs ds ls)
include N
/-- behind the count of pairs -/
theorem turnC {row : D} (hr : RowOk row) {t : Int} {e0 e7 e8 e9 e10 e11 e12 e13 e14 e15 e16 e17 e18 e19 e20 e21 e22 : Sl} {Q : Fl → En → Prop}
    (hQ : ∀ row' ds' ls' e7 e8 e9 e10 e11 e12 e13 e14 e15 e16 e17 e18 e19 e20 e21 e22, RowOk row' → Nm p fs ds' ls' → Q .nx [e0, .ow row', .fz (.int p), .fz (fsD fs), .fz (dsD ds'), .fz (lsD ls'), .fz (.int t), e7, e8, e9, e10, e11, e12, e13, e14, e15, e16, e17, e18, e19, e20, e21, e22]) :
    wS m_law_4f13 [e0, .ow row, .fz (.int p), .fz (fsD fs), .fz (dsD ds), .fz (lsD ls), .fz (.int t), e7, e8, e9, e10, e11, e12, e13, e14, e15, e16, e17, e18, e19, e20, e21, e22] Q := by
  have pb := pp_b N.pp
  have h5 := N.lg.d5
  have f1 := N.f1
  have f3 := N.f3
  have hf0 : ∀ n ∈ fs, 0 ≤ n := fun n hn => (N.fr n hn).1
  have me := fun {Q : D → Bool → Prop} => mended_ok N.lg.wh hf0 f1 (by omega) (Q := Q)
  have ml := mendF_len ds (ini fs) 0
  have mc := mendF_c ds (ini fs) 0
  have mok := mendF_log ds (ini fs) 0 (fun d hd => by rw [ini_len]; exact N.lg.dc d hd)
  have mnew := mendF_new ds (ini fs) 0
  have mdc : ∀ d ∈ (mendF (ini fs) 0 ds).1, d.c < fs.length := fun d hd => by
    have : d.c ∈ (mendF (ini fs) 0 ds).1.map Deed.c := List.mem_map.mpr ⟨d, hd, rfl⟩
    rw [mc] at this
    obtain ⟨e, he, h⟩ := List.mem_map.mp this
    rw [← h]
    exact N.lg.dc e he
  have lt := fun {Q : D → Bool → Prop} => ltrue_ok (fs := fs) (ds := (mendF (ini fs) 0 ds).1) (ls := (mendF (ini fs) 0 ds).2) mdc (by omega) (Q := Q)
  rw [decide_eq_true mok] at lt
  generalize mendF (ini fs) 0 ds = md at me ml mc mnew lt mok mdc
  have l2 : dLen (dsD ds) = some (.int ds.length) := by unfold dsD; rw [dLen_t, List.length_map]
  have q2 : ∀ ds : List Deed, dSeq (dsD ds) = some (ds.map deD) := fun _ => rfl
  have hb2 : -4611686018427387904 ≤ ((ds.length : Nat) : Int) ∧ ((ds.length : Nat) : Int) < 4611686018427387904 := by omega
  have hz2 : (List.range ds.length).length ≤ 16777216 := by rw [List.length_range]; omega
  have x2 : ∀ (ds : List Deed) (i : Nat), i < ds.length → dIxA (dsD ds) (.int (i : Nat)) = some (.tuple [.int ((ds.getD i d0).c : Nat), .int (ds.getD i d0).old, .int (ds.getD i d0).told, .int (ds.getD i d0).new]) := fun ds i hi => by
    unfold dsD
    rw [dIxA_t, MM.atI_nat, de_get hi]
  simp_arith [m_law_4f13, me, m_law_4f14, lt, q2, List.length_map, ml, show ds.length ≤ 16777216 by omega]
  refine wC_maps deD (fun d => PyData.int (d.c : Nat)) (fun d hd => ?_) ?_
  · show wG _ _ _ _
    unfold deD
    simp_arith
  simp_arith [q2, List.length_map, show ds.length ≤ 16777216 by omega]
  refine wC_maps deD (fun d => PyData.int (d.c : Nat)) (fun d hd => ?_) ?_
  · show wG _ _ _ _
    unfold deD
    simp_arith
  have ec : ∀ ds : List Deed, (ds.map fun d => PyData.int (d.c : Nat)) = ((ds.map Deed.c).map fun c => ((c : Nat) : Int)).map .int := fun ds => by rw [List.map_map, List.map_map]; rfl
  have hs : ∀ L : List Int, shq 64 (.list (L.map .int)) = true := fun L => by rw [shq_l]; exact shq_ints
  have hs1 := hs ((ds.map Deed.c).map fun c => ((c : Nat) : Int))
  simp_arith [ec, mc, hs1, eqv_ints, decide_rfl, m_law_4f15, l2, hb2, Int.toNat_natCast, List.length_map, hz2]
  refine wC_filt (fun i : Nat => PyData.int (i : Nat)) (fun i : Nat => PyData.int (i : Nat)) (fun _ => false) (fun i hi => ?_) ?_
  · show wG _ _ _ _
    rw [List.mem_range] at hi
    have hn := mnew i (md.1.getD i d0) (ds.getD i d0) (by rw [List.getD_eq_getElem?_getD, List.getElem?_eq_getElem (by rw [ml]; exact hi)]; rfl) (by rw [List.getD_eq_getElem?_getD, List.getElem?_eq_getElem hi]; rfl)
    have xa := x2 ds i hi
    have xb := x2 md.1 i (by rw [ml]; exact hi)
    by_cases hc : (ds.getD i d0).new = (ds.getD i d0).old
    · rw [if_pos hc] at hn
      simp_arith [xa, xb, hc, dEq_ii, dNe_ii, decide_rfl, hn]
    · rw [if_neg hc] at hn
      simp_arith [xa, xb, hc, dEq_ii, dNe_ii, decide_rfl, hn]
  have ef : ((List.range ds.length).filter fun _ => false).map (fun i : Nat => PyData.int (i : Nat)) = [] := by rw [List.filter_eq_nil_iff.mpr (by simp)]; rfl
  have hs0 : shq 64 (.list []) = true := rfl
  simp_arith [ef, hs0, eqvs_nil, m_law_4f16]
  refine wM_CallI ?_
  simp_arith
  refine bent_ok hr N fun ds' ls' row' N' hr' => ?_
  simp_arith
  exact hQ _ _ _ _ _ _ _ _ _ _ _ _ _ _ _ _ _ _ _ hr' N'
/-- the count -/
theorem turnB {row : D} (hr : RowOk row) {t : Int} {e0 e11 e12 e13 e14 e15 e16 e17 e18 e19 e20 e21 e22 : Sl} {Q : Fl → En → Prop}
    (hQ : ∀ row' ds' ls' e7 e8 e9 e10 e11 e12 e13 e14 e15 e16 e17 e18 e19 e20 e21 e22, RowOk row' → Nm p fs ds' ls' → Q .nx [e0, .ow row', .fz (.int p), .fz (fsD fs), .fz (dsD ds'), .fz (lsD ls'), .fz (.int t), e7, e8, e9, e10, e11, e12, e13, e14, e15, e16, e17, e18, e19, e20, e21, e22]) :
    wS m_law_4f8 [e0, .ow row, .fz (.int p), .fz (fsD fs), .fz (dsD ds), .fz (lsD ls), .fz (.int t), .fz (.bool (due fs ds ls)), .fz (bagD (putL fs ds)), .fz (bagD (takL ds ls)), .ow (.list ((lateL 0 ds).map .int)), e11, e12, e13, e14, e15, e16, e17, e18, e19, e20, e21, e22] Q := by
  have pb := pp_b N.pp
  have h5 := N.lg.d5
  have f1 := N.f1
  have f3 := N.f3
  have hdi := N.due_iff
  have hpl : (putL fs ds).length = fs.length + ds.length := put_len
  have l8 : dLen (bagD (putL fs ds)) = some (.int ((fs.length + ds.length : Nat) : Int)) := by unfold bagD; rw [dLen_t, List.length_map, hpl]
  have hM : -18446744073709551616 < ((fs.length + ds.length : Nat) : Int) ∧ ((fs.length + ds.length : Nat) : Int) < 18446744073709551616 := by omega
  obtain ⟨a, b, eL1, eL2⟩ := N.loss rfl
  have al : alk 40 (.tuple [.int a, .int b]) = true := rfl
  have C := fun e13 e14 e15 {row} (hr : RowOk row) e11 e12 => turnC N hr (t := t) (e0 := e0) (e7 := .fz (.bool (due fs ds ls))) (e8 := .fz (bagD (putL fs ds))) (e9 := .fz (bagD (takL ds ls))) (e10 := .ow (.list ((lateL 0 ds).map .int))) (e11 := e11) (e12 := e12) (e13 := e13) (e14 := e14) (e15 := e15) (e16 := e16) (e17 := e17) (e18 := e18) (e19 := e19) (e20 := e20) (e21 := e21) (e22 := e22) hQ
  simp_arith [m_law_4f8]
  refine wM_CallI ?_
  simp_arith
  refine number_ok hr N.pp fun z row1 z0 z1 hr1 => ?_
  simp_arith
  refine wM_CallI ?_
  simp_arith
  refine number_ok hr1 N.pp fun w row2 w0 w1 hr2 => ?_
  have ju := fun {z w : Int} (hz : 0 ≤ z ∧ z < p) (hw : 0 ≤ w ∧ w < p) {Q : D → Bool → Prop} => N.judged hz hw (Q := Q)
  have ju1 := fun {Q : D → Bool → Prop} => ju ⟨z0, z1⟩ ⟨w0, w1⟩ (Q := Q)
  have hs0 : shq 64 (.list []) = true := rfl
  simp_arith [m_law_4f9, ju1, m_law_4f10]
  cases hL : lateL 0 ds with
  | cons x r =>
    have hdue : due fs ds ls = false := by
      unfold due
      rw [decide_eq_false_iff_not, hdi, hL]
      exact fun h => by cases h.1
    have hj : judF p fs ds ls z w = .tuple [.str "caught", .int x, .str "time"] := by unfold judF; rw [hL]
    have hs2 : shq 64 (.list (PyData.int x :: r.map .int)) = true := by
      rw [shq_l]
      exact shq_ints (xs := x :: r)
    have hs3 : shq 64 (.tuple [.str "caught", .int x, .str "time"]) = true := by simp [shq_t, shq_s, shq_i]
    have e1 : PyData.eqv (.tuple [.str "caught", .int x, .str "time"]) (.tuple [.str "caught", .int x, .str "time"]) = true := by simp [PyData.eqv, PyData.eqvAll]
    simp_arith [hL, hs0, hs2, eqv_nilr, List.isEmpty_cons, hj, hs3, e1, hdue, m_law_4f11, l8, hM, eL1, eL2, wF_of eL1, wF_of eL2, alike_ok al rfl, m_law_4f12]
    have C1 := C (.fz (.tuple [.str "caught", .int x, .str "time"])) e14 e15 hr2 (.fz (.int z)) (.fz (.int w))
    rw [hL, hdue] at C1
    exact C1
  | nil =>
    have hdi2 : due fs ds ls = true ↔ (putL fs ds).Perm (takL ds ls) := by
      unfold due
      rw [decide_eq_true_iff, hdi, hL]
      exact ⟨fun h => h.2, fun h => ⟨rfl, h⟩⟩
    have hj : ∀ z w : Int, judF p fs ds ls z w = if prM p z w 1 ((putL fs ds).map toT) = prM p z w 1 ((takL ds ls).map toT) then .tuple [.str "passed"] else .tuple [.str "caught", .int ds.length, .str "bags"] := fun z w => by unfold judF; rw [hL]
    have hs3 : ∀ z w : Int, shq 64 (judF p fs ds ls z w) = true := fun z w => by
      rw [hj]
      split <;> simp [shq_t, shq_s, shq_i]
    have hs3' := hs3 z w
    have hs4 : shq 64 (.tuple [.str "passed"]) = true := by simp [shq_t, shq_s]
    have e1 : ∀ z w : Int, PyData.eqv (judF p fs ds ls z w) (.tuple [.str "passed"]) = decide (prM p z w 1 ((putL fs ds).map toT) = prM p z w 1 ((takL ds ls).map toT)) := fun z w => by
      rw [hj]
      split
      · rename_i h; rw [decide_eq_true h]; simp [PyData.eqv, PyData.eqvAll]
      · rename_i h; rw [decide_eq_false h]; simp [PyData.eqv, PyData.eqvAll]
    have hcc : (due fs ds ls = true) → (!decide (prM p z w 1 ((putL fs ds).map toT) = prM p z w 1 ((takL ds ls).map toT))) = false := fun h => by
      rw [decide_eq_true (N.passed (hdi2.mp h))]; rfl
    have step11 : ∀ {R : Fl → En → Prop}, (∀ e14 e15 e11 e12, wS m_law_4f13 [e0, .ow row2, .fz (.int p), .fz (fsD fs), .fz (dsD ds), .fz (lsD ls), .fz (.int t), .fz (.bool (due fs ds ls)), .fz (bagD (putL fs ds)), .fz (bagD (takL ds ls)), .ow (.list []), e11, e12, .fz (judF p fs ds ls z w), e14, e15, e16, e17, e18, e19, e20, e21, e22] R) → wS m_law_4f11 [e0, .ow row2, .fz (.int p), .fz (fsD fs), .fz (dsD ds), .fz (lsD ls), .fz (.int t), .fz (.bool (due fs ds ls)), .fz (bagD (putL fs ds)), .fz (bagD (takL ds ls)), .ow (.list []), .fz (.int z), .fz (.int w), .fz (judF p fs ds ls z w), e14, e15, e16, e17, e18, e19, e20, e21, e22] R := fun {R} k => by
      simp_arith [m_law_4f11, l8, hM, wF_of eL1, wF_of eL2, alike_ok al rfl, m_law_4f12, hs0, eqvs_nil]
      by_cases hp12 : p < 12
      · by_cases ht : t < 2
        · obtain ⟨P, rfl, hP⟩ := pp_pr N N.pp
          have hP11 : P < 12 := by omega
          have en : (List.range P).map (fun i => PyData.int (i : Nat)) = (nums P).map .int := by unfold nums; rw [List.map_map]; rfl
          have enl : (nums P).length = P := nums_len
          have hpp : P * P ≤ 144 := Nat.mul_le_mul (show P ≤ 12 by omega) (show P ≤ 12 by omega)
          have pk := fun {Q : D → Bool → Prop} => pairs_ok (xs := nums P) (ys := nums P) (by rw [enl]; omega) (by rw [enl]; omega) (Q := Q)
          have hz1 : ((P : Nat) : Int) ≤ 16777216 ∧ -4611686018427387904 ≤ ((P : Nat) : Int) := by omega
          have hpl2 := pairs_len (xs := nums P) (ys := nums P)
          rw [enl] at hpl2
          simp_arith [hp12, ht, m_law_4f12a1, hz1, Int.toNat_natCast, en, pk, m_law_4f12a2, List.length_map, hpl2, show P * P ≤ 16777216 by omega]
          refine wC_filt prD (fun _ => PyData.int 1) (fun q => decide (prM P q.1 q.2 1 ((putL fs ds).map toT) = prM P q.1 q.2 1 ((takL ds ls).map toT))) (fun q hq => ?_) ?_
          · show wG _ _ _ _
            unfold pairsF at hq
            rw [List.mem_flatMap] at hq
            obtain ⟨x, hx, hq⟩ := hq
            obtain ⟨y, hy, rfl⟩ := List.mem_map.mp hq
            unfold nums at hx hy
            obtain ⟨i, hi, rfl⟩ := List.mem_map.mp hx
            obtain ⟨j, hj, rfl⟩ := List.mem_map.mp hy
            rw [List.mem_range] at hi hj
            have ju2 := fun {Q : D → Bool → Prop} => ju (z := ((i : Nat) : Int)) (w := ((j : Nat) : Int)) (by omega) (by omega) (Q := Q)
            have hs5 := hs3 ((i : Nat) : Int) ((j : Nat) : Int)
            have e5 := e1 ((i : Nat) : Int) ((j : Nat) : Int)
            unfold prD
            by_cases hc : prM P ((i : Nat) : Int) ((j : Nat) : Int) 1 ((putL fs ds).map toT) = prM P ((i : Nat) : Int) ((j : Nat) : Int) 1 ((takL ds ls).map toT)
            · rw [decide_eq_true hc] at e5
              simp_arith [ju2, hs5, hs4, e5, hc]
            · rw [decide_eq_false hc] at e5
              simp_arith [ju2, hs5, hs4, e5, hc]
          generalize hF : (pairsF (nums P) (nums P)).filter (fun q => decide (prM P q.1 q.2 1 ((putL fs ds).map toT) = prM P q.1 q.2 1 ((takL ds ls).map toT))) = F
          have hFl : F.length ≤ P * P := by rw [← hF, ← hpl2]; exact List.length_filter_le _ _
          have hd1 : due fs ds ls = true → F.length = P * P := fun h => by
            rw [← hF, List.filter_eq_self.mpr (fun q _ => decide_eq_true (N.passed (hdi2.mp h))), hpl2]
          have hd2 : due fs ds ls = false → F.length ≤ 2 * (fs.length + ds.length) * P := fun h => by
            have hnp : ¬ ((putL fs ds).map toT).Perm ((takL ds ls).map toT) := by
              rw [perm_tri put3 tak3, ← hdi2, h]
              decide
            have tin : ∀ {x : Tri}, TrOk P x ∧ 0 ≤ x.c ∧ x.c < P → x.In P := fun {x} q => ⟨q.2, q.1.v, q.1.t⟩
            have := bags_fool hP (A := (putL fs ds).map toT) (B := (takL ds ls).map toT) (M := fs.length + ds.length) (fun x hx => tin (N.put_tr x hx)) (fun x hx => tin (N.tak_tr x hx)) (by rw [List.length_map, hpl]; exact Nat.le_refl _) (by rw [List.length_map, tak_len, N.lg.ll]; omega) hnp
            rw [← pairs_cnt] at this
            rw [← hF]
            refine Nat.le_trans (Nat.le_of_eq ?_) this
            congr 1
            refine List.filter_congr fun q hq => ?_
            rw [decide_eq_decide]
            exact prM_iff (by omega)
          have hPb : -18446744073709551616 < ((P : Nat) : Int) ∧ ((P : Nat) : Int) < 18446744073709551616 := by omega
          have e1c : ((F.length : Nat) : Int) = ((P : Nat) : Int) * ((P : Nat) : Int) ↔ F.length = P * P := by
            rw [← Int.natCast_mul, Int.natCast_inj]
          cases hdu : due fs ds ls with
          | true =>
            rw [hdu] at k
            have hFe := hd1 hdu
            have e2 : ((F.length : Nat) : Int) = ((P : Nat) : Int) * ((P : Nat) : Int) := e1c.mpr hFe
            simp_arith [List.length_map, m_law_4f12a3, hPb, dNe_ii, e2, decide_rfl, hdu]
            exact k _ _ _ _
          | false =>
            rw [hdu] at k
            have hFe := hd2 hdu
            have e3 : ¬ (if 2 * ((fs.length + ds.length : Nat) : Int) < ((P : Nat) : Int) then 2 * ((fs.length + ds.length : Nat) : Int) else ((P : Nat) : Int)) * ((P : Nat) : Int) < ((F.length : Nat) : Int) := by
              have e4 : ((2 * (fs.length + ds.length) * P : Nat) : Int) = 2 * ((fs.length + ds.length : Nat) : Int) * ((P : Nat) : Int) := by
                rw [Int.natCast_mul, Int.natCast_mul]; rfl
              have e5 : ((P * P : Nat) : Int) = ((P : Nat) : Int) * ((P : Nat) : Int) := by rw [Int.natCast_mul]
              split
              · rw [← e4]; omega
              · rw [← e5]; omega
            by_cases hc : ((F.length : Nat) : Int) = ((P : Nat) : Int) * ((P : Nat) : Int)
            · simp_arith [List.length_map, m_law_4f12a3, hPb, dNe_ii, hc, decide_rfl, hdu, l8, hM]
              rw [← hc]
              simp_arith [e3]
              exact k _ _ _ _
            · simp_arith [List.length_map, m_law_4f12a3, hPb, dNe_ii, hc, hdu, l8, hM, e3]
              exact k _ _ _ _
        · simp_arith [hp12, ht]
          exact k _ _ _ _
      · simp_arith [hp12]
        exact k _ _ _ _
    have C2 := step11 (R := Q) (fun e14 e15 e11 e12 => by
      have C1 := C (.fz (judF p fs ds ls z w)) e14 e15 hr2 e11 e12
      rw [hL] at C1
      exact C1)
    cases hdu : due fs ds ls with
    | true =>
      rw [hdu] at C2
      simp_arith [hL, hs0, eqv_nilr, List.isEmpty_nil, hs3', hs4, e1, hdu, hcc hdu]
      exact C2
    | false =>
      rw [hdu] at C2
      simp_arith [hL, hs0, eqv_nilr, List.isEmpty_nil, hs3', hs4, e1, hdu]
      exact C2
end
theorem turn_ok {p : Int} {fs : List Int} {ds : List Deed} {ls : List (Int × Int)} (N : Nm p fs ds ls) {row : D} (hr : RowOk row) {t : Int} {e0 e7 e8 e9 e10 e11 e12 e13 e14 e15 e16 e17 e18 e19 e20 e21 e22 : Sl} {Q : Fl → En → Prop}
    (hQ : ∀ row' ds' ls' e7 e8 e9 e10 e11 e12 e13 e14 e15 e16 e17 e18 e19 e20 e21 e22, RowOk row' → Nm p fs ds' ls' → Q .nx [e0, .ow row', .fz (.int p), .fz (fsD fs), .fz (dsD ds'), .fz (lsD ls'), .fz (.int t), e7, e8, e9, e10, e11, e12, e13, e14, e15, e16, e17, e18, e19, e20, e21, e22]) :
    wS m_law_4f1 [e0, .ow row, .fz (.int p), .fz (fsD fs), .fz (dsD ds), .fz (lsD ls), .fz (.int t), e7, e8, e9, e10, e11, e12, e13, e14, e15, e16, e17, e18, e19, e20, e21, e22] Q :=
  turnA N fun e18 e19 e20 e21 e22 => turnB N hr hQ
theorem law_true (ns : List Int) : S_law [.list (ns.map .int)] = some (.bool true, false) := by
  refine wF_eq ?_
  unfold S_law
  simp_arith [m_law]
  have h0 : RowOk (.list [.list (ns.map .int), .int 0, .int 5630, .int 0]) := ⟨ns, 0, 5630, 0, rfl, Int.le_refl _⟩
  revert h0
  generalize PyData.list [.list (ns.map .int), .int 0, .int 5630, .int 0] = row
  intro h0
  simp_arith [m_law_2]
  refine wM_CallI ?_
  simp_arith
  refine pick_ok h0 (by decide) (by decide) fun i hi row1 hr1 => ?_
  obtain ⟨p, hp, hpp⟩ : ∃ p : Int, ([.int 7, .int 11, .int 13, .int 101, .int 65537] : List D)[i] = .int p ∧ PP p := by
    have : i = 0 ∨ i = 1 ∨ i = 2 ∨ i = 3 ∨ i = 4 := by simp at hi; omega
    rcases this with rfl | rfl | rfl | rfl | rfl
    · exact ⟨7, rfl, .inl rfl⟩
    · exact ⟨11, rfl, .inr (.inl rfl)⟩
    · exact ⟨13, rfl, .inr (.inr (.inl rfl))⟩
    · exact ⟨101, rfl, .inr (.inr (.inr (.inl rfl)))⟩
    · exact ⟨65537, rfl, .inr (.inr (.inr (.inr rfl)))⟩
  rw [hp]
  simp_arith [m_law_3]
  refine wM_CallI ?_
  simp_arith
  refine log_ok hr1 hpp fun fs ds ls row2 N hr2 => ?_
  have r3 : (List.range 3).map (fun i => PyData.int (i : Nat)) = [.int 0, .int 1, .int 2] := by kernel_rfl
  simp_arith [m_law_4, r3]
  refine turn_ok N hr2 fun row3 ds3 ls3 _ _ _ _ _ _ _ _ _ _ _ _ _ _ _ _ hr3 N3 => ?_
  simp_arith
  refine turn_ok N3 hr3 fun row4 ds4 ls4 _ _ _ _ _ _ _ _ _ _ _ _ _ _ _ _ hr4 N4 => ?_
  simp_arith
  refine turn_ok N4 hr4 fun row5 ds5 ls5 _ _ _ _ _ _ _ _ _ _ _ _ _ _ _ _ hr5 N5 => ?_
  simp_arith [m_law_5]
end LK
namespace LK
open PySem PySem.Spec PyProof.Rows L2 MM
theorem zs {K : PySem.W.Frag} {h : Heap} {mg : Str → Option Value} (X : K.In h) (G : h.Ns mainGlobals mg) (c : He.SaysD fa fn K) (h : ex K = true) : Zs K mg := {
    d__law_taken := by
      obtain ⟨fd, F⟩ := c.defs (d := dd__law_taken) (by simp [fn])
      exact ⟨_, fd, F, He.glo_ok X G (c.facts (f := .glo "_law_taken") (by simp [fa]))⟩
    d__law_pick := by
      obtain ⟨fd, F⟩ := c.defs (d := dd__law_pick) (by simp [fn])
      exact ⟨_, fd, F, He.glo_ok X G (c.facts (f := .glo "_law_pick") (by simp [fa]))⟩
    d__law_number := by
      obtain ⟨fd, F⟩ := c.defs (d := dd__law_number) (by simp [fn])
      exact ⟨_, fd, F, He.glo_ok X G (c.facts (f := .glo "_law_number") (by simp [fa]))⟩
    d__law_numbers := by
      obtain ⟨fd, F⟩ := c.defs (d := dd__law_numbers) (by simp [fn])
      exact ⟨_, fd, F, He.glo_ok X G (c.facts (f := .glo "_law_numbers") (by simp [fa]))⟩
    d__law_log := by
      obtain ⟨fd, F⟩ := c.defs (d := dd__law_log) (by simp [fn])
      exact ⟨_, fd, F, He.glo_ok X G (c.facts (f := .glo "_law_log") (by simp [fa]))⟩
    d__law_true := by
      obtain ⟨fd, F⟩ := c.defs (d := dd__law_true) (by simp [fn])
      exact ⟨_, fd, F, He.glo_ok X G (c.facts (f := .glo "_law_true") (by simp [fa]))⟩
    d_is_integer := by
      obtain ⟨fd, F⟩ := c.defs (d := dd_is_integer) (by simp [fn])
      exact ⟨_, fd, F, He.glo_ok X G (c.facts (f := .glo "is_integer") (by simp [fa]))⟩
    d_is_from := by
      obtain ⟨fd, F⟩ := c.defs (d := dd_is_from) (by simp [fn])
      exact ⟨_, fd, F, He.glo_ok X G (c.facts (f := .glo "is_from") (by simp [fa]))⟩
    d_raised := by
      obtain ⟨fd, F⟩ := c.defs (d := dd_raised) (by simp [fn])
      exact ⟨_, fd, F, He.glo_ok X G (c.facts (f := .glo "raised") (by simp [fa]))⟩
    d_passes := by
      obtain ⟨fd, F⟩ := c.defs (d := dd_passes) (by simp [fn])
      exact ⟨_, fd, F, He.glo_ok X G (c.facts (f := .glo "passes") (by simp [fa]))⟩
    d_is_prime := by
      obtain ⟨fd, F⟩ := c.defs (d := dd_is_prime) (by simp [fn])
      exact ⟨_, fd, F, He.glo_ok X G (c.facts (f := .glo "is_prime") (by simp [fa]))⟩
    d_need_prime := by
      obtain ⟨fd, F⟩ := c.defs (d := dd_need_prime) (by simp [fn])
      exact ⟨_, fd, F, He.glo_ok X G (c.facts (f := .glo "need_prime") (by simp [fa]))⟩
    d_is_number := by
      obtain ⟨fd, F⟩ := c.defs (d := dd_is_number) (by simp [fn])
      exact ⟨_, fd, F, He.glo_ok X G (c.facts (f := .glo "is_number") (by simp [fa]))⟩
    d_are_numbers := by
      obtain ⟨fd, F⟩ := c.defs (d := dd_are_numbers) (by simp [fn])
      exact ⟨_, fd, F, He.glo_ok X G (c.facts (f := .glo "are_numbers") (by simp [fa]))⟩
    d_need_log := by
      obtain ⟨fd, F⟩ := c.defs (d := dd_need_log) (by simp [fn])
      exact ⟨_, fd, F, He.glo_ok X G (c.facts (f := .glo "need_log") (by simp [fa]))⟩
    d_need_last := by
      obtain ⟨fd, F⟩ := c.defs (d := dd_need_last) (by simp [fn])
      exact ⟨_, fd, F, He.glo_ok X G (c.facts (f := .glo "need_last") (by simp [fa]))⟩
    d_need_number := by
      obtain ⟨fd, F⟩ := c.defs (d := dd_need_number) (by simp [fn])
      exact ⟨_, fd, F, He.glo_ok X G (c.facts (f := .glo "need_number") (by simp [fa]))⟩
    d_late := by
      obtain ⟨fd, F⟩ := c.defs (d := dd_late) (by simp [fn])
      exact ⟨_, fd, F, He.glo_ok X G (c.facts (f := .glo "late") (by simp [fa]))⟩
    d_packed_at := by
      obtain ⟨fd, F⟩ := c.defs (d := dd_packed_at) (by simp [fn])
      exact ⟨_, fd, F, He.glo_ok X G (c.facts (f := .glo "packed_at") (by simp [fa]))⟩
    d_product_at := by
      obtain ⟨fd, F⟩ := c.defs (d := dd_product_at) (by simp [fn])
      exact ⟨_, fd, F, He.glo_ok X G (c.facts (f := .glo "product_at") (by simp [fa]))⟩
    d_put_bag := by
      obtain ⟨fd, F⟩ := c.defs (d := dd_put_bag) (by simp [fn])
      exact ⟨_, fd, F, He.glo_ok X G (c.facts (f := .glo "put_bag") (by simp [fa]))⟩
    d_taken_bag := by
      obtain ⟨fd, F⟩ := c.defs (d := dd_taken_bag) (by simp [fn])
      exact ⟨_, fd, F, He.glo_ok X G (c.facts (f := .glo "taken_bag") (by simp [fa]))⟩
    d_log_judged := by
      obtain ⟨fd, F⟩ := c.defs (d := dd_log_judged) (by simp [fn])
      exact ⟨_, fd, F, He.glo_ok X G (c.facts (f := .glo "log_judged") (by simp [fa]))⟩
    d_is_whole := by
      obtain ⟨fd, F⟩ := c.defs (d := dd_is_whole) (by simp [fn])
      exact ⟨_, fd, F, He.glo_ok X G (c.facts (f := .glo "is_whole") (by simp [fa]))⟩
    d_are_whole_firsts := by
      obtain ⟨fd, F⟩ := c.defs (d := dd_are_whole_firsts) (by simp [fn])
      exact ⟨_, fd, F, He.glo_ok X G (c.facts (f := .glo "are_whole_firsts") (by simp [fa]))⟩
    d_are_whole_deeds := by
      obtain ⟨fd, F⟩ := c.defs (d := dd_are_whole_deeds) (by simp [fn])
      exact ⟨_, fd, F, He.glo_ok X G (c.facts (f := .glo "are_whole_deeds") (by simp [fa]))⟩
    d_mended_log := by
      obtain ⟨fd, F⟩ := c.defs (d := dd_mended_log) (by simp [fn])
      exact ⟨_, fd, F, He.glo_ok X G (c.facts (f := .glo "mended_log") (by simp [fa]))⟩
    d__law_bent := by
      obtain ⟨fd, F⟩ := c.defs (d := dd__law_bent) (by simp [fn])
      exact ⟨_, fd, F, He.glo_ok X G (c.facts (f := .glo "_law_bent") (by simp [fa]))⟩
    d__law_alike := by
      obtain ⟨fd, F⟩ := c.defs (d := dd__law_alike) (by simp [fn])
      exact ⟨_, fd, F, He.glo_ok X G (c.facts (f := .glo "_law_alike") (by simp [fa]))⟩
    d__law_pairs := by
      obtain ⟨fd, F⟩ := c.defs (d := dd__law_pairs) (by simp [fn])
      exact ⟨_, fd, F, He.glo_ok X G (c.facts (f := .glo "_law_pairs") (by simp [fa]))⟩
    d_is_whole_triple := by
      obtain ⟨fd, F⟩ := c.defs (d := dd_is_whole_triple) (by simp [fn])
      exact ⟨_, fd, F, He.glo_ok X G (c.facts (f := .glo "is_whole_triple") (by simp [fa]))⟩
    d_is_any_bag := by
      obtain ⟨fd, F⟩ := c.defs (d := dd_is_any_bag) (by simp [fn])
      exact ⟨_, fd, F, He.glo_ok X G (c.facts (f := .glo "is_any_bag") (by simp [fa]))⟩
    d_is_same_bag := by
      obtain ⟨fd, F⟩ := c.defs (d := dd_is_same_bag) (by simp [fn])
      exact ⟨_, fd, F, He.glo_ok X G (c.facts (f := .glo "is_same_bag") (by simp [fa]))⟩
    d_common := by
      obtain ⟨fd, F⟩ := c.defs (d := dd_common) (by simp [fn])
      exact ⟨_, fd, F, He.glo_ok X G (c.facts (f := .glo "common") (by simp [fa]))⟩
    d_share := by
      obtain ⟨fd, F⟩ := c.defs (d := dd_share) (by simp [fn])
      exact ⟨_, fd, F, He.glo_ok X G (c.facts (f := .glo "share") (by simp [fa]))⟩
    d_log_loss := by
      obtain ⟨fd, F⟩ := c.defs (d := dd_log_loss) (by simp [fn])
      exact ⟨_, fd, F, He.glo_ok X G (c.facts (f := .glo "log_loss") (by simp [fa]))⟩
    d__law_lowered := by
      obtain ⟨fd, F⟩ := c.defs (d := dd__law_lowered) (by simp [fn])
      exact ⟨_, fd, F, He.glo_ok X G (c.facts (f := .glo "_law_lowered") (by simp [fa]))⟩
    d_memory_behind := by
      obtain ⟨fd, F⟩ := c.defs (d := dd_memory_behind) (by simp [fn])
      exact ⟨_, fd, F, He.glo_ok X G (c.facts (f := .glo "memory_behind") (by simp [fa]))⟩
    d_is_true_log := by
      obtain ⟨fd, F⟩ := c.defs (d := dd_is_true_log) (by simp [fn])
      exact ⟨_, fd, F, He.glo_ok X G (c.facts (f := .glo "is_true_log") (by simp [fa]))⟩
    d_law := by
      obtain ⟨fd, F⟩ := c.defs (d := dd_law) (by simp [fn])
      exact ⟨_, fd, F, He.glo_ok X G (c.facts (f := .glo "law") (by simp [fa]))⟩
    f_abs := He.free_ok X G (c.facts (f := .free "abs") (by simp [fa]))
    f_all := He.free_ok X G (c.facts (f := .free "all") (by simp [fa]))
    f_any := He.free_ok X G (c.facts (f := .free "any") (by simp [fa]))
    f_bool := He.free_ok X G (c.facts (f := .free "bool") (by simp [fa]))
    f_dict := He.free_ok X G (c.facts (f := .free "dict") (by simp [fa]))
    f_enumerate := He.free_ok X G (c.facts (f := .free "enumerate") (by simp [fa]))
    f_int := He.free_ok X G (c.facts (f := .free "int") (by simp [fa]))
    f_isinstance := He.free_ok X G (c.facts (f := .free "isinstance") (by simp [fa]))
    f_len := He.free_ok X G (c.facts (f := .free "len") (by simp [fa]))
    f_list := He.free_ok X G (c.facts (f := .free "list") (by simp [fa]))
    f_min := He.free_ok X G (c.facts (f := .free "min") (by simp [fa]))
    f_range := He.free_ok X G (c.facts (f := .free "range") (by simp [fa]))
    f_sorted := He.free_ok X G (c.facts (f := .free "sorted") (by simp [fa]))
    f_str := He.free_ok X G (c.facts (f := .free "str") (by simp [fa]))
    f_tuple := He.free_ok X G (c.facts (f := .free "tuple") (by simp [fa]))
    c_MOST_CELLS := by
      obtain ⟨t, e⟩ := He.int_ok X G (c.facts (f := .int "MOST_CELLS" 16) (by simp [fa]))
      exact ⟨_, e, t, rfl⟩
    c_MOST_DEEDS := by
      obtain ⟨t, e⟩ := He.int_ok X G (c.facts (f := .int "MOST_DEEDS" 60) (by simp [fa]))
      exact ⟨_, e, t, rfl⟩
    c_MOST_PRIME := by
      obtain ⟨t, e⟩ := He.int_ok X G (c.facts (f := .int "MOST_PRIME" 2147483647) (by simp [fa]))
      exact ⟨_, e, t, rfl⟩
    c_MOST_TRIPLES := by
      obtain ⟨t, e⟩ := He.int_ok X G (c.facts (f := .int "MOST_TRIPLES" 200) (by simp [fa]))
      exact ⟨_, e, t, rfl⟩
    c_BASES := ⟨He.ga K "BASES", He.glo_ok X G (c.facts (f := .glo "BASES") (by simp [fa])), fun H => He.tupB_ok (He.ba (He.ba h).1).1 H, tupN_ok (He.ba (He.ba h).1).2⟩
    v_PASSED := gloD_ok X G (He.ba h).2 }
theorem facts {P : Program} {w : World} {K : PySem.W.Frag} {h : Heap} {mg : Str → Option Value} {f : Addr} (X : K.In h) (G : h.Ns mainGlobals mg) (hfa : mg ("law" : Str) = some (.ref f)) (c : He.SaysD fa fn K) (he : ex K = true) :
    ∃ fd : FuncData, (∀ (s : Shared) (v : Value), BindsTo s fd ⟨[v], []⟩ [("_law_script", v)]) ∧ ∀ base : Heap, K.In base → base.Ns mainGlobals mg → FnOk P w K mg base CX0 42 f fd ["_law_script"] (spF K 1 S_law) := by
  have Z := zs X G c he
  obtain ⟨f2, fd, F, e2⟩ := Z.d_law
  rw [hfa] at e2
  cases e2
  have b := FunD.bindsA (ps := ["_law_script"]) F fun _ _ _ _ _ _ us hl => match us, hl with | [_], _ => rfl
  exact ⟨fd, fun s v => b s [v] rfl, fun base _ _ => ok_law Z F⟩
end LK
open PySem PySem.W PySem.Calls PyProof.Rows
theorem PySem.Challenge.cw_pointsenough_k30_whole_logs_holds : PySem.Challenge.rw_pointsenough_k30_whole_logs.Holds := by
  w_on; o_law
  refine HandSHeadRun.head_any (r := OpenLaw.row PySem.Challenge.rw_pointsenough_k30_whole_logs) (q := LK.Rq) (H := LK.hk) (ob := LK.ob) (M := 8000) (loose := LK.loose) (d := HandSHeadRun.topDef (OpenLaw.row PySem.Challenge.rw_pointsenough_k30_whole_logs).prog 57) (kwd := []) LK.ob_eq
    (by kernel_rfl) (fun s => by kernel_rfl) LK.run (by kernel_rfl) (by kernel_rfl) (by kernel_rfl) (by rfl) (by first | assumption | decide +kernel) (by decide +kernel) ⟨rfl, rfl, rfl, rfl, rfl, by decide +kernel⟩ ?hw ?hc
  case hw => w_witness2
  case hc =>
    refine L2.walk_ofE (l := PySem.Challenge.rw_pointsenough_k30_whole_logs) (n := 63) (k := 42) (x := "_law_script") (CX := L2.CX0) rfl (by decide) (by kernel_rfl) ⟨rfl, by decide, by decide⟩ ?F (fun _ _ _ _ z => z)
    intro w mg fa h Y G hmg0
    obtain ⟨K, KX, c⟩ := Y
    have hmg : mg ("law" : PySem.Str) = some (.ref fa) := by
      have e : (HandSHeadRun.topDef (OpenLaw.row PySem.Challenge.rw_pointsenough_k30_whole_logs).prog 57).name = ("law" : PySem.Str) := by kernel_rfl
      rw [← e]
      exact hmg0
    obtain ⟨fd, hb, hF⟩ := LK.facts (P := (PySem.Challenge.rw_pointsenough_k30_whole_logs).prog) (w := w) KX G hmg c.1 c.2
    exact ⟨K, fd, MM.spF K 1 LK.S_law, KX, hb, fun H a ns hl _ hS => ⟨H, [.list (ns.map .int)], .bool true, false, fun _ _ e => e, .cons (.lst hS (MM.RpAll.of_ints ns)) .nil, rfl, LK.law_true ns, fun v F' H' _ _ _ _ r => by cases r; rfl⟩, hF⟩
