import PyProof.Rows.All
import PySem.Challenge.RW_kindswap_k05_kinds_spoilt_at_any_depth
import HandS.Head0
import HandS.Head1
import HandS.Head2
import Wide.All
import OpenK.AllK
import Wide.FinOn
import HandS.ForMost
import HandS.ForExc
import HandS.Flow
import HandS.IsInst
import HandS.Wide
import HandS.Lambda
import KE.KDictKeyed
import HandS.Style
import HandS.TupAny
import HandS.Deep
import HandS.Zip
import HandS.StrMore
import HandS.ExcOwn
import HandS.More
import HandS.EndBits
import HandS.ExcIs
import HandS.TryMany
import PyProof.ReprRoads
import HandS.Conv
import KE.SortData
import HandS.SortKw
import HandS.ExcValue
import KE.SortKeyHeap
import HandS.NoneIn
import KE.DataCmp
import HandS.Strs
import PyProof.SetRoads
import PyProof.Rows.SetFrom
import KE.DataFind
import HandS.Dict
import KE.KTryMore
import HandS.ExcInit
import HandS.ExcField
import HandS.ClsMeth
import HandS.Exc
set_option Elab.async false
set_option linter.all false
set_option maxRecDepth 100000
set_option maxHeartbeats 4000000
open PySem PySem.W PyProof.Rows
namespace Kz.Hd
open PySem PySem.W PySem.Calls PyProof.Rows
def nm0 : List PySem.Str := ["SwapError", "NoText", "NoKind", "NoForm", "NoSizes", "TooMany", "NoDivisor", "NoTerm", "Unlike", "NoLibrary", "NoName", "LETTERS", "UNIT", "SIGNS", "MARKS", "is_from", "inner_of", "is_kind", "sure_kind", "plain_text", "kind_text", "closed", "read_kind", "MOST_BASE"]
def nm1 : List PySem.Str := ["in_order", "wants_with", "plain_form", "form", "alike", "is_base", "is_factor", "is_form", "kind_by", "kind_of", "BASES_counts", "MOST_SIZE_counts", "MOST_DIVISOR", "MOST_COUNT", "ENOUGH", "DIVISORS", "is_between", "are_sizes", "sure_sizes", "sure_sizes_counts", "is_divisor", "small_power", "count_of", "many"]
def nm2 : List PySem.Str := ["power_rest", "totient", "rest_of", "rest", "drawn_sizes", "apart", "apart_fault", "BASES_worths", "MOST_SIZE_worths", "MOST_WORTHS", "sure_sizes_worths", "power_up_to", "number_up_to", "sure_taken", "lists_of", "all_worths", "worths", "is_plain_worth", "is_worth", "PARTS", "sure_given", "is_shape", "kind_of_given", "kind_of_two"]
def nm3 : List PySem.Str := ["kind_in", "sure_kind_in", "term_kind", "Loose", "Bound", "opened", "meant", "said", "chain_said", "plain_in", "plain", "same", "put_back", "Leaf", "Result", "Body", "factors_from", "parts", "built", "turner", "lifted", "is_of", "goes_round", "turn_fault"]
def nm4 : List PySem.Str := ["is_library", "sure_library", "without", "with_more", "left_to_hand_in", "wished_from", "search", "search_fault", "_law_well", "_law_draw", "_law_deep", "_law_odd", "_law_spoilt", "_law_word"]
def nm : List PySem.Str := nm0 ++ nm1 ++ nm2 ++ nm3 ++ nm4
abbrev R : OpenRow := OpenLaw.row PySem.Challenge.rw_kindswap_k05_kinds_spoilt_at_any_depth
abbrev qv : Program := view R.prog [27, 122, 123, 124]
/-- the run's equation at a world -/
def RunK (p q : Program) (loose : List PySem.Str) (Xt : Shared → Bool) (K : Params → PySem.W.Frag) (as ts : List Addr) (M : Nat) (w : World) : Prop :=
  ∀ os : OsState, (HandSHeadRun.endF (HandSHeadRun.stepQ (HandSHeadRun.denQ HandSHeadRun.tabQ) p w) M p w os).map (fun s => (HandSHeadRun.looksF p (boot_heap w.params) s.abs, HandSHeadRun.seenQ q loose (importedModules p.main.body) Xt s.abs, (as.map (HandSHeadRun.getT s), ts.map (HandSHeadRun.getT s)))) = some (true, openGood q loose, ((K w.params).map fun x => some x.2, ts.map fun _ => some (tabObj #[])))
/-- LeftO of that run, for kmHook; the run is shown for each answer of special-get-raises -/
theorem left_km {p q : Program} {loose : List PySem.Str} {Xt : Shared → Bool} {K : Params → PySem.W.Frag} {as ts : List Addr} {ek : ∀ P, as = (K P).map (·.1)} {N M : Nat}
    (e : opening p = plainProg p.main.scope.names) (hN : Nat.ble 600 N = true) (f : ∀ s, fenceModules? p s = some s) (le : Nat.ble M N = true)
    (hf : ∀ w : World, RunK p q loose Xt K as ts M (w.withFollow "special-get-raises" false)) (ht : ∀ w : World, RunK p q loose Xt K as ts M (w.withFollow "special-get-raises" true)) :
    LeftO p q loose Xt (Hook.obs (kmHook K as ek ts)) (Hook.val (kmHook K as ek ts)) N true :=
  HandSHeadRun.left_one (M := M) e hN f le fun w os => by
    have z := byRow2 "special-get-raises" (P := fun w => RunK p q loose Xt K as ts M w) hf ht w os
    have eo : (fun s : SharedT => (HandSHeadRun.looksF p (boot_heap w.params) s.abs, HandSHeadRun.seenQ q loose (importedModules p.main.body) Xt s.abs, (as.map (HandSHeadRun.getT s), ts.map (HandSHeadRun.getT s)))) = fun s => (HandSHeadRun.looksF p (boot_heap w.params) s.abs, HandSHeadRun.seenQ q loose (importedModules p.main.body) Xt s.abs, Hook.obs (kmHook K as ek ts) s.abs) := by
      funext s
      have q1 : as.map (HandSHeadRun.getT s) = as.map s.abs.heap.get? := List.map_congr_left fun a _ => HandSHeadRun.getT_eq s a
      have q2 : ts.map (HandSHeadRun.getT s) = ts.map s.abs.heap.get? := List.map_congr_left fun a _ => HandSHeadRun.getT_eq s a
      rw [q1, q2]
      rfl
    rw [eo] at z
    simp only [HandSHeadRun.endQ_eq, HandSHeadRun.seenQ_eq]
    exact z
end Kz.Hd
local macro_rules | `(tactic| o_head $t:term) => do
  let hl := Lean.mkIdent `hl
  let (hw, hc) := (Lean.mkIdent `hw, Lean.mkIdent `hc)
  `(tactic| (refine PySem.W.holds_open (r := Kz.Hd.R) (q := Kz.Hd.qv) (loose := Kz.Hd.nm) (Xt := fun s => xlAt Kz.Hd.qv [] s && recOk (RowW.records (OpenRow.toRowW Kz.Hd.R)) s) (XP := XL Kz.Hd.qv []) (Yf := Hook.obs $t) (Ya := Hook.val $t) (YP := Hook.says $t) (N := 9600) ?hlx (Hook.of $t) (Hook.keeps $t) (fun s e => xl_of s (Bool.and_eq_true_iff.mp e).1) XL.keeps (by rfl) (by rfl) (by rfl) (fun s e => recFacts_of (Bool.and_eq_true_iff.mp e).2) (by rfl) (by first | assumption | decide +kernel) (by decide +kernel) ⟨rfl, rfl, rfl, rfl, rfl, by decide +kernel⟩ ?$hw ?$hc; (case hlx => exact $hl _)))
set_option maxRecDepth 100000 in
set_option maxHeartbeats 0 in
open PySem PySem.W PySem.Calls PyProof.Rows in
theorem Kz.Hd.t1 (hl : ∀ H : Hook, LeftO Kz.Hd.R.prog Kz.Hd.qv Kz.Hd.nm (fun s => xlAt Kz.Hd.qv [] s && recOk (RowW.records (OpenRow.toRowW Kz.Hd.R)) s) (Hook.obs H) (Hook.val H) 9600 true) (hc : ∀ (d : DefRec) (kwd : List (PySem.Str × PySem.Expr)) (YP : World → Heap → Prop), WalkO Kz.Hd.qv Kz.Hd.nm (XL Kz.Hd.qv []) YP (OpenRow.toRowW Kz.Hd.R) d kwd fun f vs => PySem.call f vs) : PySem.Challenge.rw_kindswap_k05_kinds_spoilt_at_any_depth.Holds := by
  w_on; o_law; k_head; (case hw => w_witness2)
  exact hc _ _ _
namespace Kz.Hd
open PySem PySem.W PySem.Calls PyProof.Rows
set_option maxHeartbeats 0 in
theorem runF (w : World) : RunK R.prog qv nm (fun s => xlAt qv [] s && recOk (RowW.records (OpenRow.toRowW R)) s) t1.heap_39 ((t1.heap_39 w.params).map (·.1)) [822, 214, 815] 9000 (w.withFollow "special-get-raises" false) := by
  intro os; kernel_rfl
set_option maxHeartbeats 0 in
theorem runT (w : World) : RunK R.prog qv nm (fun s => xlAt qv [] s && recOk (RowW.records (OpenRow.toRowW R)) s) t1.heap_39 ((t1.heap_39 w.params).map (·.1)) [822, 214, 815] 9000 (w.withFollow "special-get-raises" true) := by
  intro os; kernel_rfl
end Kz.Hd
namespace Kw
open PySem PySem.Spec PyProof.Rows L2
/-- a value as a tree; a list that is changed is a cell of the store -/
inductive D where
  | non | bl (b : Bool) | int (i : Int) | str (x : Str)
  | tup (ds : List D) | lst (ds : List D) | dic (ks : List Key) (ds : List D)
  | ins (c : Str) (fs : List Str) (ds : List D)
  | loc (n : Nat) | glo (x : Str) | fls (ds : List D) | exn (a : Addr)
  | exo (c : Str) (ns : List Str) (ds : List D)
  | lam (i : Nat) (q : Str) (ob : Addr → Value → Value → Obj)
  | clo (i : Nat) (q : Str) (ob : Addr → Addr → Value → Value → Obj) (as : Addr → List Addr) (ds : List D)
inductive Cell where
  | lst (ds : List D) | frz (ds : List D) | dead
  | tab (x : Str) | sys
  | gst (ρ : List (Option D)) (σ : L2.St)
  | ob (c : Str) (fs : List Str) (ds : List D)
  | dct (ks : List NestedKey) (ds : List D)
abbrev Store := List Cell
/-- what is raised: the class's name, its own fields -/
structure Ex where
  cls : Str
  ns : List Str := []
  ds : List D := []
inductive RE (α : Type) where
  | ok (a : α) (S : Store) | ex (x : Ex) (S : Store) | no
def RE.bnd {α β : Type} (m : RE α) (f : α → Store → RE β) : RE β := match m with
  | .ok a S => f a S
  | .ex x S => .ex x S
  | .no => .no
abbrev FEnv := List (Option D)
abbrev FE := FEnv → Store → RE D
abbrev FT := FEnv → Store → RE Bool
abbrev FA := FEnv → Store → RE (List D)
/-- the addresses of the store's cells (none: dead); hd: objects that no value leads to -/
structure Wd where
  φ : List (Option Addr)
  hd : List Addr
/-- a is no cell, and not hidden -/
def Wd.Off (w : Wd) (a : Addr) : Prop := (¬ some a ∈ w.φ) ∧ ¬ a ∈ w.hd
/-- the world of the run (a text's hash is its word) -/
class Wo where
  ww : World
mutual
/-- the key that a tree is -/
def keyOf : D → Option NestedKey
  | .non => some .none
  | .int i => some (.num i)
  | .str x => some (.text x)
  | .tup ds => (keysOf ds).map .tup
  | _ => none
def keysOf : List D → Option (List NestedKey)
  | [] => some []
  | d :: ds => match keyOf d, keysOf ds with
    | some k, some r => some (k :: r)
    | _, _ => none
end
/-- a dict's entries: key, the key's value, what it leads to -/
abbrev DEnt := List (NestedKey × V × V)
def entV (ww : World) (x : NestedKey × Value × Value) : DictEntry := ⟨x.1.hash ww, x.2.1, x.2.2⟩
/-- the one object at a: a dict of these entries -/
def DctP (ww : World) (a : Addr) (es : DEnt) (h : Heap) : Prop := (a == sysModules) = false ∧ ∃ vs : List (NestedKey × Value × Value), Paired (fun (p : NestedKey × V × V) (q : NestedKey × Value × Value) => p.1 = q.1 ∧ RelV p.2.1 q.2.1 ∧ RelV p.2.2 q.2.2) es vs ∧
  ∃ o en ep, h.get? a = some o ∧ o.ExactDict ∧ o.data = .dict en ep ∧ en.toList = vs.map (entV ww)
def DctO (ww : World) (a : Addr) (es : DEnt) : HO := .ext (DctP ww a es)
section
variable (K : PySem.W.Frag) (mg : Str → Option Value)
/-- a list that is not changed any more, by the model's own word -/
def Fp (w : Wd) (H : Hp) (a : Addr) (xs : List V) : Prop :=
  (∃ o, H a = some (.frz o (.lst xs)) ∧ w.Off a) ∨
    ∃ (o : Obj) (its : Array Value) (n : Nat), K.lookup a = some o ∧ o.cls = .type "list" ∧ o.dict = none ∧ o.data = .seq its n ∧ its.size ≤ sizeLine ∧ Vals xs its.toList
/-- a tuple that stands -/
def Tp (w : Wd) (H : Hp) (a : Addr) (xs : List V) : Prop :=
  (H a = some (.tup xs) ∧ w.Off a) ∨
    ∃ (o : Obj) (its : Array Value) (n : Nat), K.lookup a = some o ∧ o.cls = .type "tuple" ∧ o.data = .seq its n ∧ its.size ≤ sizeLine ∧ Vals xs its.toList
/-- the one object at f -/
def LamO (f : Addr) (o : Obj) : HO := .ext fun h => h.get? f = some o
/-- the one object at a: a variable's cell that holds v -/
def CelO (a : Addr) (v : V) : HO := .ext fun h => ∃ u, h.IsCell a (some u) ∧ RelV v u
/-- the cells at as hold vs -/
def CelAts (w : Wd) (H : Hp) (as : List Addr) (vs : List V) : Prop := as.length = vs.length ∧ ∀ (k : Nat) a v, as[k]? = some a → vs[k]? = some v → H a = some (CelO a v) ∧ w.Off a
/-- an exception object that nobody raised: its class, its dict -/
def ExOd (cls : Value) (od : Option Addr) (a : Addr) : HO := .ext fun h => ∃ (oe : Obj) (vs : Array Value), h.get? a = some oe ∧ Zc cls od oe ∧ oe.data = .fields vs ∧ vs[1]? = some .none ∧ vs[2]? = some .none ∧ 4 < vs.size
mutual
/-- the tree d lies at v -/
def Rp (w : Wd) (H : Hp) : D → V → Prop
  | .non, v => v = .non
  | .bl b, v => v = .bl b
  | .int i, v => v = .int i
  | .str x, v => v = .str x
  | .tup ds, v => ∃ a xs, v = .ref a ∧ Tp K w H a xs ∧ RpL w H ds xs
  | .lst ds, v => ∃ a xs, v = .ref a ∧ H a = some (.lst xs) ∧ w.Off a ∧ RpL w H ds xs
  | .dic ks ds, v => ∃ a vs, v = .ref a ∧ H a = some (.dK (ks.zip vs)) ∧ w.Off a ∧ ks.length = vs.length ∧ RpL w H ds vs
  | .ins c fs ds, v => ∃ a C dx vs, v = .ref a ∧ mg c = some (.ref C) ∧ H a = some (.ins C dx (fs.zip vs)) ∧ w.Off a ∧ fs.length = vs.length ∧ RpL w H ds vs
  | .loc n, v => n < w.φ.length ∧ ∀ a, w.φ[n]? = some (some a) → v = .ref a
  | .glo x, v => ∃ a, v = .ref a ∧ mg x = some (.ref a)
  | .exn a, v => v = .ref a
  | .fls ds, v => ∃ a xs, v = .ref a ∧ Fp K w H a xs ∧ RpL w H ds xs
  | .lam _ q ob, v => ∃ f c' pm ctv, v = .ref f ∧ H f = some (LamO f (ob c' pm ctv)) ∧ w.Off f ∧ H c' = some (LamX.CodeO c' q) ∧ w.Off c'
  | .clo _ q ob as ds, v => ∃ f c' pm ctv L vs, v = .ref f ∧ H f = some (LamO f (ob L c' pm ctv)) ∧ w.Off f ∧ H c' = some (LamX.CodeO c' q) ∧ w.Off c' ∧ CelAts w H (as L) vs ∧ RpL w H ds vs
  | .exo c ns ds, v => ∃ a C od vs, v = .ref a ∧ mg c = some (.ref C) ∧ H a = some (ExOd (.ref C) od a) ∧ w.Off a ∧ (od = none ↔ ns = []) ∧ (∀ d, od = some d → H d = some (.xd (ns.zip vs)) ∧ w.Off d) ∧ ns.length = vs.length ∧ RpL w H ds vs
def RpL (w : Wd) (H : Hp) : List D → List V → Prop
  | [], vs => vs = []
  | d :: ds, vs => ∃ v r, vs = v :: r ∧ Rp w H d v ∧ RpL w H ds r
end
/-- the world goes on -/
structure Ext (w : Wd) (H : Hp) (w' : Wd) (H' : Hp) : Prop where
  fr : ∀ a o, H a = some o → some a ∉ w.φ → H' a = some o
  ln : w.φ.length ≤ w'.φ.length
  ph : ∀ (n : Nat) a, w'.φ[n]? = some (some a) → n < w.φ.length → w.φ[n]? = some (some a)
  nw : ∀ a, some a ∈ w'.φ → some a ∈ w.φ ∨ H a = none
  hd : w'.hd = w.hd
/-- what is known of the modules' table: a dict -/
def SysQ (φ : Heap → Prop) : Prop := ∀ h, φ h → ∃ o es n, h.get? sysModules = some o ∧ o.data = .dict es n
/-- a table of code objects lies at P, all of the name q -/
def TabW (w : Wd) (H : Hp) (P : Addr) (q : Str) : Prop := ∃ ps : Array Value, H P = some (.tbl ps) ∧ TriplesOk ps.toList ∧ ∀ (pos : Pos) (cv : Value), codeAmong pos ps.toList = some cv → ∃ c, cv = .ref c ∧ H c = some (LamX.CodeO c q) ∧ w.Off c
/-- the name that the lambdas of the def x bear -/
def tabQ (x : Str) : Str := x ++ ".<locals>." ++ "<lambda>"
/-- the slots -/
structure EnvR (w : Wd) (H : Hp) (ρ : FEnv) (σ : L2.St) : Prop where
  len : ρ.length = σ.length
  at_ : ∀ (i : Nat) d, ρ[i]? = some (some d) → ∃ v, σ[i]? = some (some v) ∧ Rp K mg w H d v
def CellR [Wo] (w : Wd) (H : Hp) (c : Cell) (n : Nat) : Prop := match c with
  | .lst ds => ∃ a xs, w.φ[n]? = some (some a) ∧ H a = some (.lst xs) ∧ RpL K mg w H ds xs
  | .frz ds => ∃ a xs o, w.φ[n]? = some (some a) ∧ H a = some (.frz o (.lst xs)) ∧ RpL K mg w H ds xs
  | .dead => w.φ[n]? = some none
  | .tab x => ∃ c P, PySem.W.tabIn K x = some (c, P) ∧ w.φ[n]? = some (some P) ∧ TabW w H P (tabQ x)
  | .sys => w.φ[n]? = some none ∧ sysModules ∈ w.hd ∧ some sysModules ∉ w.φ ∧ (∃ φ, H sysModules = some (.ext φ) ∧ SysQ φ) ∧ K.lookup sysModules = none
  | .gst ρ σ => w.φ[n]? = some none ∧ EnvR K mg w H ρ σ
  | .ob c fs ds => ∃ a C dx vs, w.φ[n]? = some (some a) ∧ mg c = some (.ref C) ∧ H a = some (.ins C dx (fs.zip vs)) ∧ fs.length = vs.length ∧ RpL K mg w H ds vs
  | .dct ks ds => ∃ a es, w.φ[n]? = some (some a) ∧ H a = some (DctO Wo.ww a es) ∧ es.map (·.1) = ks ∧ ks.Nodup ∧ (∀ x ∈ es, x.1.depth ≤ 8 ∧ ∃ d, keyOf d = some x.1 ∧ Rp K mg w H d x.2.1) ∧ RpL K mg w H ds (es.map (·.2.2))
/-- the store lies in the heap -/
structure Sto [Wo] (w : Wd) (S : Store) (H : Hp) : Prop where
  len : w.φ.length = S.length
  nd : ∀ (m n : Nat) a, w.φ[m]? = some (some a) → w.φ[n]? = some (some a) → m = n
  ap : ∀ a, a ∈ w.hd → H a ≠ none ∧ some a ∉ w.φ
  cell : ∀ (n : Nat) c, S[n]? = some c → CellR K mg w H c n
/-- the exception -/
def ExR (w : Wd) (H : Hp) (x : Ex) (c : Value) (od : Option Addr) : Prop :=
  mg x.cls = some c ∧ ((x.ns = [] ∧ x.ds = [] ∧ od = none) ∨ ∃ d vs, x.ns ≠ [] ∧ od = some d ∧ H d = some (.xd (x.ns.zip vs)) ∧ w.Off d ∧ x.ns.length = vs.length ∧ RpL K mg w H x.ds vs)
/-- what a result gives -/
def End [Wo] {α β : Type} (R : Wd → Hp → α → β → Prop) (w : Wd) (H : Hp) (r : RE α) (Q : β → Hp → Prop) (E : Value → Option Addr → Hp → Prop) : Prop :=
  match r with
  | .ok a S' => ∀ w' H' b, Ext w H w' H' → Sto K mg w' S' H' → R w' H' a b → Q b H'
  | .ex x S' => ∀ w' H' c od, Ext w H w' H' → Sto K mg w' S' H' → ExR K mg w' H' x c od → E c od H'
  | .no => False
end
/-- readings by functions over trees -/
def tF [Wo] (X : Cx) (W : WX) (f : FE) : TE := fun σ H Q => ∃ w ρ S, Sto X.K X.mg w S H ∧ EnvR X.K X.mg w H ρ σ ∧ End X.K X.mg (fun w H => Rp X.K X.mg w H) w H (f ρ S) Q (fun c od H' => W c od σ H')
def tT [Wo] (X : Cx) (W : WX) (f : FT) : TT := fun σ H Q => ∃ w ρ S, Sto X.K X.mg w S H ∧ EnvR X.K X.mg w H ρ σ ∧ End X.K X.mg (fun _ _ (a b : Bool) => b = a) w H (f ρ S) Q (fun c od H' => W c od σ H')
def tA [Wo] (X : Cx) (W : WX) (f : FA) : TA := fun σ H Q => ∃ w ρ S, Sto X.K X.mg w S H ∧ EnvR X.K X.mg w H ρ σ ∧ End X.K X.mg (fun w H => RpL X.K X.mg w H) w H (f ρ S) Q (fun c od H' => W c od σ H')
section
variable {K : PySem.W.Frag} {mg : Str → Option Value} {w w' w'' : Wd} {H H' H'' : Hp} {S : Store}
theorem Ext.refl : Ext w H w H := ⟨fun _ _ h _ => h, Nat.le_refl _, fun _ _ h _ => h, fun _ h => .inl h, rfl⟩
theorem Ext.trans (a : Ext w H w' H') (b : Ext w' H' w'' H'') : Ext w H w'' H'' where
  fr := fun c o h n => b.fr c o (a.fr c o h n) fun z => by
    rcases a.nw c z with z | z
    · exact n z
    · rw [h] at z; cases z
  ln := Nat.le_trans a.ln b.ln
  ph := fun n c h l => a.ph n c (b.ph n c h (Nat.lt_of_lt_of_le l a.ln)) l
  nw := fun c h => by
    rcases b.nw c h with z | z
    · exact a.nw c z
    · by_cases q : some c ∈ w.φ
      · exact .inl q
      · cases e : H c with
        | none => exact .inr rfl
        | some o => rw [a.fr c o e q] at z; cases z
  hd := b.hd.trans a.hd
theorem Ext.out {a : Addr} {o : HO} (e : Ext w H w' H') (h : H a = some o) (n : w.Off a) : w'.Off a := by
  refine ⟨fun z => ?_, by rw [e.hd]; exact n.2⟩
  rcases e.nw _ z with z | z
  · exact n.1 z
  · rw [h] at z; cases z
theorem Tp.ext {a : Addr} {xs : List V} (e : Ext w H w' H') (h : Tp K w H a xs) : Tp K w' H' a xs := by
  rcases h with ⟨h, n⟩ | h
  · exact .inl ⟨e.fr _ _ h n.1, e.out h n⟩
  · exact .inr h
theorem Fp.ext {a : Addr} {xs : List V} (e : Ext w H w' H') (h : Fp K w H a xs) : Fp K w' H' a xs := by
  rcases h with ⟨o, h, n⟩ | h
  · exact .inl ⟨o, e.fr _ _ h n.1, e.out h n⟩
  · exact .inr h
mutual
theorem Rp.ext (e : Ext w H w' H') : ∀ (d : D) (v : V), Rp K mg w H d v → Rp K mg w' H' d v
  | .non, _, h => by unfold Rp at h ⊢; exact h
  | .bl _, _, h => by unfold Rp at h ⊢; exact h
  | .int _, _, h => by unfold Rp at h ⊢; exact h
  | .str _, _, h => by unfold Rp at h ⊢; exact h
  | .tup ds, v, h => by
    unfold Rp at h ⊢
    obtain ⟨a, xs, e1, t, r⟩ := h
    exact ⟨a, xs, e1, t.ext e, RpL.ext e ds xs r⟩
  | .lst ds, v, h => by
    unfold Rp at h ⊢
    obtain ⟨a, xs, e1, t, n, r⟩ := h
    exact ⟨a, xs, e1, e.fr _ _ t n.1, e.out t n, RpL.ext e ds xs r⟩
  | .dic ks ds, v, h => by
    unfold Rp at h ⊢
    obtain ⟨a, vs, e1, t, n, l, r⟩ := h
    exact ⟨a, vs, e1, e.fr _ _ t n.1, e.out t n, l, RpL.ext e ds vs r⟩
  | .ins c fs ds, v, h => by
    unfold Rp at h ⊢
    obtain ⟨a, C, dx, vs, e1, m, t, n, l, r⟩ := h
    exact ⟨a, C, dx, vs, e1, m, e.fr _ _ t n.1, e.out t n, l, RpL.ext e ds vs r⟩
  | .loc n, v, h => by
    unfold Rp at h ⊢
    exact ⟨Nat.lt_of_lt_of_le h.1 e.ln, fun a q => h.2 a (e.ph n a q h.1)⟩
  | .glo _, _, h => by unfold Rp at h ⊢; exact h
  | .exn _, _, h => by unfold Rp at h ⊢; exact h
  | .fls ds, v, h => by
    unfold Rp at h ⊢
    obtain ⟨a, xs, e1, t, r⟩ := h
    exact ⟨a, xs, e1, t.ext e, RpL.ext e ds xs r⟩
  | .lam i q ob, v, h => by
    unfold Rp at h ⊢
    obtain ⟨f, c', pm, ctv, e1, t, n, t2, n2⟩ := h
    exact ⟨f, c', pm, ctv, e1, e.fr _ _ t n.1, e.out t n, e.fr _ _ t2 n2.1, e.out t2 n2⟩
  | .clo i q ob as ds, v, h => by
    unfold Rp at h ⊢
    obtain ⟨f, c', pm, ctv, L, vs, e1, t, n, t2, n2, cs, r⟩ := h
    exact ⟨f, c', pm, ctv, L, vs, e1, e.fr _ _ t n.1, e.out t n, e.fr _ _ t2 n2.1, e.out t2 n2, ⟨cs.1, fun k a v q1 q2 => let z := cs.2 k a v q1 q2; ⟨e.fr _ _ z.1 z.2.1, e.out z.1 z.2⟩⟩, RpL.ext e ds vs r⟩
  | .exo c ns ds, v, h => by
    unfold Rp at h ⊢
    obtain ⟨a, C, od, vs, e1, m, t, n, z, q, l, r⟩ := h
    exact ⟨a, C, od, vs, e1, m, e.fr _ _ t n.1, e.out t n, z, fun d hd => ⟨e.fr _ _ (q d hd).1 (q d hd).2.1, e.out (q d hd).1 (q d hd).2⟩, l, RpL.ext e ds vs r⟩
theorem RpL.ext (e : Ext w H w' H') : ∀ (ds : List D) (vs : List V), RpL K mg w H ds vs → RpL K mg w' H' ds vs
  | [], _, h => by unfold RpL at h ⊢; exact h
  | d :: ds, vs, h => by
    unfold RpL at h ⊢
    obtain ⟨v, r, e1, h1, h2⟩ := h
    exact ⟨v, r, e1, Rp.ext e d v h1, RpL.ext e ds r h2⟩
end
theorem RpL.length : ∀ {ds : List D} {vs : List V}, RpL K mg w H ds vs → ds.length = vs.length
  | [], _, h => by unfold RpL at h; subst h; rfl
  | d :: ds, vs, h => by
    unfold RpL at h
    obtain ⟨v, r, e1, _, h2⟩ := h
    rw [e1, List.length_cons, List.length_cons, RpL.length h2]
theorem RpL.append : ∀ {ds es : List D} {vs us : List V}, RpL K mg w H ds vs → RpL K mg w H es us → RpL K mg w H (ds ++ es) (vs ++ us)
  | [], _, _, _, h, k => by unfold RpL at h; rw [h]; exact k
  | d :: ds, es, vs, us, h, k => by
    unfold RpL at h
    obtain ⟨v, r, e1, h1, h2⟩ := h
    rw [List.cons_append]; unfold RpL
    exact ⟨v, r ++ us, by rw [e1, List.cons_append], h1, RpL.append h2 k⟩
theorem RpL.get : ∀ {ds : List D} {vs : List V} {i : Nat} {d : D}, RpL K mg w H ds vs → ds[i]? = some d → ∃ v, vs[i]? = some v ∧ Rp K mg w H d v
  | [], _, _, _, _, e => by simp at e
  | d :: ds, vs, 0, _, h, e => by
    unfold RpL at h
    obtain ⟨v, r, e1, h1, _⟩ := h
    simp at e
    exact ⟨v, by rw [e1]; rfl, e ▸ h1⟩
  | d :: ds, vs, i + 1, _, h, e => by
    unfold RpL at h
    obtain ⟨v, r, e1, _, h2⟩ := h
    obtain ⟨u, h3, h4⟩ := RpL.get (i := i) h2 (by simpa using e)
    exact ⟨u, by rw [e1]; simpa using h3, h4⟩
theorem RpL.drop : ∀ {ds : List D} {vs : List V} (n : Nat), RpL K mg w H ds vs → RpL K mg w H (ds.drop n) (vs.drop n)
  | _, _, 0, h => h
  | [], vs, n + 1, h => by unfold RpL at h; rw [h]; simp; unfold RpL; rfl
  | d :: ds, vs, n + 1, h => by
    unfold RpL at h
    obtain ⟨v, r, e1, _, h2⟩ := h
    rw [e1]; exact RpL.drop n h2
theorem RpL.take : ∀ {ds : List D} {vs : List V} (n : Nat), RpL K mg w H ds vs → RpL K mg w H (ds.take n) (vs.take n)
  | _, _, 0, h => by simp; unfold RpL; rfl
  | [], vs, n + 1, h => by unfold RpL at h; rw [h]; simp; unfold RpL; rfl
  | d :: ds, vs, n + 1, h => by
    unfold RpL at h
    obtain ⟨v, r, e1, h1, h2⟩ := h
    rw [e1, List.take_succ_cons, List.take_succ_cons]; unfold RpL
    exact ⟨v, _, rfl, h1, RpL.take n h2⟩
theorem RpL.set : ∀ {ds : List D} {vs : List V} {d : D} {v : V} (i : Nat), RpL K mg w H ds vs → Rp K mg w H d v → RpL K mg w H (ds.set i d) (vs.set i v)
  | [], vs, _, _, _, h, _ => by unfold RpL at h; rw [h]; simp; unfold RpL; rfl
  | d :: ds, vs, e, u, 0, h, k => by
    unfold RpL at h
    obtain ⟨v, r, e1, h1, h2⟩ := h
    rw [e1, List.set_cons_zero, List.set_cons_zero]; unfold RpL
    exact ⟨u, r, rfl, k, h2⟩
  | d :: ds, vs, e, u, i + 1, h, k => by
    unfold RpL at h
    obtain ⟨v, r, e1, h1, h2⟩ := h
    rw [e1, List.set_cons_succ, List.set_cons_succ]; unfold RpL
    exact ⟨v, _, rfl, h1, RpL.set i h2 k⟩
theorem RpL.one {d : D} {v : V} (h : Rp K mg w H d v) : RpL K mg w H [d] [v] := by unfold RpL; exact ⟨v, [], rfl, h, by unfold RpL; rfl⟩
theorem RpL.nil : RpL K mg w H [] [] := by unfold RpL; rfl
theorem RpL.cons {d : D} {v : V} {ds : List D} {vs : List V} (h : Rp K mg w H d v) (t : RpL K mg w H ds vs) : RpL K mg w H (d :: ds) (v :: vs) := by unfold RpL; exact ⟨v, vs, rfl, h, t⟩
theorem RpL.nil_iff {ds : List D} {vs : List V} (h : RpL K mg w H ds vs) : ds = [] ↔ vs = [] := by
  have e := h.length
  constructor
  · rintro rfl; exact List.eq_nil_of_length_eq_zero e.symm
  · rintro rfl; exact List.eq_nil_of_length_eq_zero e
theorem RpL.one_inv {d : D} {vs : List V} (h : RpL K mg w H [d] vs) : ∃ v, vs = [v] ∧ Rp K mg w H d v := by
  unfold RpL at h
  obtain ⟨v, r, e1, h1, h2⟩ := h
  unfold RpL at h2
  exact ⟨v, by rw [e1, h2], h1⟩
theorem EnvR.ext {ρ : FEnv} {σ : L2.St} (e : Ext w H w' H') (h : EnvR K mg w H ρ σ) : EnvR K mg w' H' ρ σ := ⟨h.len, fun i d q => by
  obtain ⟨v, h1, h2⟩ := h.at_ i d q
  exact ⟨v, h1, Rp.ext e _ _ h2⟩⟩
theorem Sto.tracked [Wo] (s : Sto K mg w S H) {a : Addr} (h : some a ∈ w.φ) : H a ≠ none := by
  obtain ⟨n, hn, e⟩ := List.mem_iff_getElem.mp h
  have h1 : w.φ[n]? = some (some a) := by rw [List.getElem?_eq_getElem hn, e]
  have hs : n < S.length := s.len ▸ hn
  have c := s.cell n S[n] (List.getElem?_eq_getElem hs)
  unfold CellR at c
  split at c
  · obtain ⟨b, xs, h2, h3, _⟩ := c
    rw [h1] at h2; cases h2; rw [h3]; exact fun z => nomatch z
  · obtain ⟨b, xs, o, h2, h3, _⟩ := c
    rw [h1] at h2; cases h2; rw [h3]; exact fun z => nomatch z
  · rw [h1] at c; cases c
  · obtain ⟨_, _, _, h2, ps, h3, _⟩ := c
    rw [h1] at h2; cases h2; rw [h3]; exact fun z => nomatch z
  · rw [h1] at c; cases c.1
  · rw [h1] at c; cases c.1
  · obtain ⟨b, C, dx, vs, h2, _, h3, _⟩ := c
    rw [h1] at h2; cases h2; rw [h3]; exact fun z => nomatch z
  · obtain ⟨b, es, h2, h3, _⟩ := c
    rw [h1] at h2; cases h2; rw [h3]; exact fun z => nomatch z
theorem Sto.new [Wo] (s : Sto K mg w S H) {p : Addr} (h : H p = none) : w.Off p := ⟨fun z => s.tracked z h, fun z => (s.ap p z).1 h⟩
theorem Ext.new {p : Addr} {o : HO} (h : H p = none) : Ext w H w (upd H p o) := ⟨fun a u e _ => by rw [upd_ne (ne_of_none e h)]; exact e, Nat.le_refl _, fun _ _ h _ => h, fun _ h => .inl h, rfl⟩
theorem CellR.ext [Wo] {c : Cell} {n : Nat} (e : Ext w H w' H') (hw : ∀ a, w.φ[n]? = some (some a) → w'.φ[n]? = some (some a) ∧ H' a = H a) (hd : w.φ[n]? = some none → w'.φ[n]? = some none) (h : CellR K mg w H c n) : CellR K mg w' H' c n := by
  unfold CellR at h ⊢
  split at h
  · obtain ⟨b, xs, h2, h3, h4⟩ := h
    exact ⟨b, xs, (hw b h2).1, by rw [(hw b h2).2]; exact h3, RpL.ext e _ _ h4⟩
  · obtain ⟨b, xs, o, h2, h3, h4⟩ := h
    exact ⟨b, xs, o, (hw b h2).1, by rw [(hw b h2).2]; exact h3, RpL.ext e _ _ h4⟩
  · exact hd h
  · obtain ⟨c0, P, ht, h2, ps, h3, h4, h5⟩ := h
    refine ⟨c0, P, ht, (hw _ h2).1, ps, by rw [(hw _ h2).2]; exact h3, h4, fun pos cv hc => ?_⟩
    obtain ⟨c, e1, e2, e3⟩ := h5 pos cv hc
    exact ⟨c, e1, e.fr _ _ e2 e3.1, e.out e2 e3⟩
  · obtain ⟨h1, h2, h3, ⟨φ, h4, h6⟩, h5⟩ := h
    refine ⟨hd h1, by rw [e.hd]; exact h2, fun z => ?_, ⟨φ, e.fr _ _ h4 h3, h6⟩, h5⟩
    rcases e.nw _ z with z | z
    · exact h3 z
    · rw [h4] at z; cases z
  · exact ⟨hd h.1, EnvR.ext e h.2⟩
  · obtain ⟨b, C, dx, vs, h2, h3, h4, h5, h6⟩ := h
    exact ⟨b, C, dx, vs, (hw b h2).1, h3, by rw [(hw b h2).2]; exact h4, h5, RpL.ext e _ _ h6⟩
  · obtain ⟨b, es, h2, h3, h4, h5, h6, h7⟩ := h
    exact ⟨b, es, (hw b h2).1, by rw [(hw b h2).2]; exact h3, h4, h5, fun x hx => ⟨(h6 x hx).1, let ⟨d, q1, q2⟩ := (h6 x hx).2; ⟨d, q1, Rp.ext e _ _ q2⟩⟩, RpL.ext e _ _ h7⟩
theorem upd_some {p a : Addr} {o : HO} (h : H a ≠ none) : upd H p o a ≠ none := by
  by_cases e : a = p
  · subst e; rw [upd_same]; exact fun z => nomatch z
  · rw [upd_ne e]; exact h
/-- a new object beside -/
theorem Sto.beside [Wo] {p : Addr} {o : HO} (s : Sto K mg w S H) (h : H p = none) : Sto K mg w S (upd H p o) := ⟨s.len, s.nd, fun a ha => ⟨upd_some (s.ap a ha).1, (s.ap a ha).2⟩, fun n c q => CellR.ext (Ext.new h) (fun a ha => ⟨ha, by
  have : a ≠ p := fun z => by subst z; exact (s.new h).1 (List.mem_of_getElem? ha)
  rw [upd_ne this]⟩) id (s.cell n c q)⟩
end
section
variable {K : PySem.W.Frag} {mg : Str → Option Value} {α β γ δ : Type} {R : Wd → Hp → α → β → Prop} {R' : Wd → Hp → γ → δ → Prop} {w w1 : Wd} {H H1 : Hp} {r : RE α} {E : Value → Option Addr → Hp → Prop}
theorem End.imp [Wo] {Q Q' : β → Hp → Prop} {E' : Value → Option Addr → Hp → Prop} (h : End K mg R w H r Q E) (hq : ∀ b H', Q b H' → Q' b H') (he : ∀ c od H', E c od H' → E' c od H') : End K mg R w H r Q' E' := by
  unfold End at h ⊢
  split
  · exact fun w' H' b e s k => hq _ _ (h w' H' b e s k)
  · exact fun w' H' b od e s k => he _ _ _ (h w' H' b od e s k)
  · exact h
theorem End.on [Wo] {Q : β → Hp → Prop} (x : Ext w H w1 H1) (h : End K mg R w H r Q E) : End K mg R w1 H1 r Q E := by
  unfold End at h ⊢
  split
  · exact fun w' H' b e s k => h w' H' b (x.trans e) s k
  · exact fun w' H' b od e s k => h w' H' b od (x.trans e) s k
  · exact h
/-- one after the other -/
theorem End.bind [Wo] {k : α → Store → RE γ} {Q : δ → Hp → Prop} (h : End K mg R' w H (r.bnd k) Q E) :
    End K mg R w H r (fun b H1 => ∃ w1 S1 a, Ext w H w1 H1 ∧ Sto K mg w1 S1 H1 ∧ R w1 H1 a b ∧ End K mg R' w1 H1 (k a S1) Q E) E := by
  cases r with
  | ok a S1 =>
    have h' : End K mg R' w H (k a S1) Q E := h
    exact fun w' H' b e s kk => ⟨w', S1, a, e, s, kk, h'.on e⟩
  | ex x S1 => exact h
  | no => exact h
theorem End.ret [Wo] {Q : β → Hp → Prop} {a : α} {b : β} {S : Store} (h : End K mg R w H (.ok a S) Q E) (s : Sto K mg w S H) (k : R w H a b) : Q b H := h w H b Ext.refl s k
end
section
variable {X : Cx} {W : WX}
theorem PE.wk {e : Expr} {t t' : TE} (h : PE X e t) (m : ∀ σ H Q, t' σ H Q → t σ H Q) : PE X e t' := ⟨fun pins s σ H Q I k => h.run pins s σ H Q I (m σ H Q k)⟩
theorem PT.wk {e : Expr} {t t' : TT} (h : PT X e t) (m : ∀ σ H Q, t' σ H Q → t σ H Q) : PT X e t' := ⟨fun pins s σ H Q I k => h.run pins s σ H Q I (m σ H Q k)⟩
theorem PW.wk {e : Expr} {t t' : TT} (h : PW X e t) (m : ∀ σ H Q, t' σ H Q → t σ H Q) : PW X e t' := ⟨fun wh pins s σ H Q I k => h.run wh pins s σ H Q I (m σ H Q k)⟩
theorem PA.wk {e : List Expr} {t t' : TA} (h : PA X e t) (m : ∀ σ H Q, t' σ H Q → t σ H Q) : PA X e t' := ⟨fun pos pins s σ H Q I k => h.run pos pins s σ H Q I (m σ H Q k)⟩
theorem PS.wk {e : Stmt} {t t' : TS} (h : PS X e t) (m : ∀ D σ H, t' D σ H → t D σ H) : PS X e t' := ⟨fun pins s σ H D I k => h.run pins s σ H D I (m D σ H k)⟩
theorem PSs.wk {e : List Stmt} {t t' : TS} (h : PSs X e t) (m : ∀ D σ H, t' D σ H → t D σ H) : PSs X e t' := ⟨fun pins s σ H D I k => h.run pins s σ H D I (m D σ H k)⟩
end
end Kw
namespace Kw
open PySem PySem.Spec PyProof.Rows L2
def cellOf (S : Store) (n : Nat) : Option (List D) := match S[n]? with
  | some (.lst ds) => some ds
  | some (.frz ds) => some ds
  | _ => none
def cellM (S : Store) (n : Nat) : Option (List D) := match S[n]? with
  | some (.lst ds) => some ds
  | _ => none
/-- a list that is read -/
def seqL (S : Store) : D → Option (List D)
  | .lst ds => some ds
  | .fls ds => some ds
  | .loc n => cellOf S n
  | _ => none
/-- a list that is no locked one -/
def seqM (S : Store) : D → Option (List D)
  | .lst ds => some ds
  | .loc n => cellM S n
  | _ => none
/-- a list or a tuple -/
def seqA (S : Store) : D → Option (List D)
  | .lst ds => some ds
  | .fls ds => some ds
  | .loc n => cellOf S n
  | .tup ds => some ds
  | _ => none
mutual
def py0 : D → Option PyData
  | .non => some .none
  | .bl b => some (.bool b)
  | .int i => some (.int i)
  | .str x => some (.str x)
  | .tup ds => (py0L ds).map .tuple
  | .lst ds => (py0L ds).map .list
  | .fls ds => (py0L ds).map .list
  | _ => none
def py0L : List D → Option (List PyData)
  | [] => some []
  | d :: ds => (py0 d).bind fun a => (py0L ds).map (a :: ·)
end
mutual
/-- a value as plain data -/
def pyS (S : Store) : D → Option PyData
  | .non => some .none
  | .bl b => some (.bool b)
  | .int i => some (.int i)
  | .str x => some (.str x)
  | .tup ds => (pySL S ds).map .tuple
  | .lst ds => (pySL S ds).map .list
  | .fls ds => (pySL S ds).map .list
  | .loc n => ((cellOf S n).bind py0L).map .list
  | _ => none
def pySL (S : Store) : List D → Option (List PyData)
  | [] => some []
  | d :: ds => (pyS S d).bind fun a => (pySL S ds).map (a :: ·)
end
section
variable {K : PySem.W.Frag} {mg : Str → Option Value} {w : Wd} {H : Hp} {S : Store}
theorem cellOf_at [Wo] (s : Sto K mg w S H) {n : Nat} {ds : List D} (h : cellOf S n = some ds) : ∃ a xs, w.φ[n]? = some (some a) ∧ Rd H a (.lst xs) ∧ RpL K mg w H ds xs := by
  unfold cellOf at h
  split at h
  · rename_i e he
    cases h
    obtain ⟨a, xs, h1, h2, h3⟩ := s.cell n _ he
    exact ⟨a, xs, h1, .inl h2, h3⟩
  · rename_i e he
    cases h
    obtain ⟨a, xs, o, h1, h2, h3⟩ := s.cell n _ he
    exact ⟨a, xs, h1, .inr ⟨o, h2⟩, h3⟩
  · cases h
theorem cellM_at [Wo] (s : Sto K mg w S H) {n : Nat} {ds : List D} (h : cellM S n = some ds) : ∃ a xs, w.φ[n]? = some (some a) ∧ H a = some (.lst xs) ∧ RpL K mg w H ds xs := by
  unfold cellM at h
  split at h
  · rename_i e he
    cases h
    obtain ⟨a, xs, h1, h2, h3⟩ := s.cell n _ he
    exact ⟨a, xs, h1, h2, h3⟩
  · cases h
theorem Fp.sq {a : Addr} {xs : List V} (h : Fp K w H a xs) : SqL K H a xs := by
  rcases h with ⟨o, h, _⟩ | h
  · exact .inl (.inr ⟨o, h⟩)
  · exact .inr h
theorem seqL_at [Wo] (s : Sto K mg w S H) {d : D} {v : V} {ds : List D} (r : Rp K mg w H d v) (h : seqL S d = some ds) : ∃ a xs, v = .ref a ∧ SqL K H a xs ∧ RpL K mg w H ds xs := by
  cases d <;> simp only [seqL] at h <;> try (cases h; done)
  · cases h
    unfold Rp at r
    obtain ⟨a, xs, e, t, _, q⟩ := r
    exact ⟨a, xs, e, .of t, q⟩
  · obtain ⟨a, xs, h1, h2, h3⟩ := cellOf_at s h
    unfold Rp at r
    exact ⟨a, xs, r.2 a h1, .inl h2, h3⟩
  · cases h
    unfold Rp at r
    obtain ⟨a, xs, e, t, q⟩ := r
    exact ⟨a, xs, e, t.sq, q⟩
theorem seqM_at [Wo] (s : Sto K mg w S H) {d : D} {v : V} {ds : List D} (r : Rp K mg w H d v) (h : seqM S d = some ds) : ∃ a xs, v = .ref a ∧ H a = some (.lst xs) ∧ RpL K mg w H ds xs := by
  cases d <;> simp only [seqM] at h <;> try (cases h; done)
  · cases h
    unfold Rp at r
    obtain ⟨a, xs, e, t, _, q⟩ := r
    exact ⟨a, xs, e, t, q⟩
  · obtain ⟨a, xs, h1, h2, h3⟩ := cellM_at s h
    unfold Rp at r
    exact ⟨a, xs, r.2 a h1, h2, h3⟩
theorem Tp.sq {a : Addr} {xs : List V} (h : Tp K w H a xs) : SqT K H a xs := by
  rcases h with ⟨h, _⟩ | h
  · exact .of h
  · exact .inr h
theorem tup_at {ds : List D} {v : V} (r : Rp K mg w H (.tup ds) v) : ∃ a xs, v = .ref a ∧ SqT K H a xs ∧ RpL K mg w H ds xs := by
  unfold Rp at r
  obtain ⟨a, xs, e, t, q⟩ := r
  exact ⟨a, xs, e, t.sq, q⟩
theorem seqA_at [Wo] (s : Sto K mg w S H) {d : D} {v : V} {ds : List D} (r : Rp K mg w H d v) (h : seqA S d = some ds) : ∃ a xs, v = .ref a ∧ (SqL K H a xs ∨ SqT K H a xs) ∧ RpL K mg w H ds xs := by
  cases d <;> simp only [seqA] at h <;> try (cases h; done)
  · cases h
    obtain ⟨a, xs, e, t, q⟩ := tup_at r
    exact ⟨a, xs, e, .inr t, q⟩
  · cases h
    unfold Rp at r
    obtain ⟨a, xs, e, t, _, q⟩ := r
    exact ⟨a, xs, e, .inl (.of t), q⟩
  · obtain ⟨a, xs, h1, h2, h3⟩ := cellOf_at s h
    unfold Rp at r
    exact ⟨a, xs, r.2 a h1, .inl (.inl h2), h3⟩
  · cases h
    unfold Rp at r
    obtain ⟨a, xs, e, t, q⟩ := r
    exact ⟨a, xs, e, .inl t.sq, q⟩
mutual
theorem py0_at : ∀ (d : D) (v : V) (p : PyData), Rp K mg w H d v → py0 d = some p → Dp K H v p
  | .non, v, p, r, h => by unfold Rp at r; simp only [py0] at h; cases h; subst r; exact .non
  | .bl _, v, p, r, h => by unfold Rp at r; simp only [py0] at h; cases h; subst r; exact .bl _
  | .int _, v, p, r, h => by unfold Rp at r; simp only [py0] at h; cases h; subst r; exact .int _
  | .str _, v, p, r, h => by unfold Rp at r; simp only [py0] at h; cases h; subst r; exact .str _
  | .tup ds, v, p, r, h => by
    obtain ⟨a, xs, e, t, q⟩ := tup_at r
    simp only [py0, Option.map_eq_some_iff] at h
    obtain ⟨ps, h1, h2⟩ := h
    subst e; subst h2
    exact .tup t (py0L_at ds xs ps q h1)
  | .lst ds, v, p, r, h => by
    unfold Rp at r
    obtain ⟨a, xs, e, t, _, q⟩ := r
    simp only [py0, Option.map_eq_some_iff] at h
    obtain ⟨ps, h1, h2⟩ := h
    subst e; subst h2
    exact .lst (.of t) (py0L_at ds xs ps q h1)
  | .dic _ _, v, p, r, h => by simp [py0] at h
  | .ins _ _ _, v, p, r, h => by simp [py0] at h
  | .loc _, v, p, r, h => by simp [py0] at h
  | .glo _, v, p, r, h => by simp [py0] at h
  | .exn _, v, p, r, h => by simp [py0] at h
  | .exo _ _ _, v, p, r, h => by simp [py0] at h
  | .lam _ _ _, v, p, r, h => by simp [py0] at h
  | .clo _ _ _ _ _, v, p, r, h => by simp [py0] at h
  | .fls ds, v, p, r, h => by
    unfold Rp at r
    obtain ⟨a, xs, e, t, q⟩ := r
    simp only [py0, Option.map_eq_some_iff] at h
    obtain ⟨ps, h1, h2⟩ := h
    subst e; subst h2
    exact .lst t.sq (py0L_at ds xs ps q h1)
theorem py0L_at : ∀ (ds : List D) (vs : List V) (ps : List PyData), RpL K mg w H ds vs → py0L ds = some ps → DpAll K H vs ps
  | [], vs, ps, r, h => by unfold RpL at r; simp only [py0L] at h; cases h; subst r; exact .nil
  | d :: ds, vs, ps, r, h => by
    unfold RpL at r
    obtain ⟨v, vs', e, r1, r2⟩ := r
    simp only [py0L, Option.bind_eq_some_iff, Option.map_eq_some_iff] at h
    obtain ⟨a, h1, b, h2, h3⟩ := h
    subst e; subst h3
    exact .cons (py0_at d v a r1 h1) (py0L_at ds vs' b r2 h2)
end
mutual
theorem pyS_at [Wo] (s : Sto K mg w S H) : ∀ (d : D) (v : V) (p : PyData), Rp K mg w H d v → pyS S d = some p → Dp K H v p
  | .non, v, p, r, h => by unfold Rp at r; simp only [pyS] at h; cases h; subst r; exact .non
  | .bl _, v, p, r, h => by unfold Rp at r; simp only [pyS] at h; cases h; subst r; exact .bl _
  | .int _, v, p, r, h => by unfold Rp at r; simp only [pyS] at h; cases h; subst r; exact .int _
  | .str _, v, p, r, h => by unfold Rp at r; simp only [pyS] at h; cases h; subst r; exact .str _
  | .tup ds, v, p, r, h => by
    obtain ⟨a, xs, e, t, q⟩ := tup_at r
    simp only [pyS, Option.map_eq_some_iff] at h
    obtain ⟨ps, h1, h2⟩ := h
    subst e; subst h2
    exact .tup t (pySL_at s ds xs ps q h1)
  | .lst ds, v, p, r, h => by
    unfold Rp at r
    obtain ⟨a, xs, e, t, _, q⟩ := r
    simp only [pyS, Option.map_eq_some_iff] at h
    obtain ⟨ps, h1, h2⟩ := h
    subst e; subst h2
    exact .lst (.of t) (pySL_at s ds xs ps q h1)
  | .loc n, v, p, r, h => by
    simp only [pyS, Option.map_eq_some_iff, Option.bind_eq_some_iff] at h
    obtain ⟨ps, ⟨ds, h0, h1⟩, h2⟩ := h
    obtain ⟨a, xs, h3, h4, h5⟩ := cellOf_at s h0
    unfold Rp at r
    have e := r.2 a h3
    subst e; subst h2
    exact .lst (.inl h4) (py0L_at ds xs ps h5 h1)
  | .dic _ _, v, p, r, h => by simp [pyS] at h
  | .ins _ _ _, v, p, r, h => by simp [pyS] at h
  | .glo _, v, p, r, h => by simp [pyS] at h
  | .exn _, v, p, r, h => by simp [pyS] at h
  | .exo _ _ _, v, p, r, h => by simp [pyS] at h
  | .lam _ _ _, v, p, r, h => by simp [pyS] at h
  | .clo _ _ _ _ _, v, p, r, h => by simp [pyS] at h
  | .fls ds, v, p, r, h => by
    unfold Rp at r
    obtain ⟨a, xs, e, t, q⟩ := r
    simp only [pyS, Option.map_eq_some_iff] at h
    obtain ⟨ps, h1, h2⟩ := h
    subst e; subst h2
    exact .lst t.sq (pySL_at s ds xs ps q h1)
theorem pySL_at [Wo] (s : Sto K mg w S H) : ∀ (ds : List D) (vs : List V) (ps : List PyData), RpL K mg w H ds vs → pySL S ds = some ps → DpAll K H vs ps
  | [], vs, ps, r, h => by unfold RpL at r; simp only [pySL] at h; cases h; subst r; exact .nil
  | d :: ds, vs, ps, r, h => by
    unfold RpL at r
    obtain ⟨v, vs', e, r1, r2⟩ := r
    simp only [pySL, Option.bind_eq_some_iff, Option.map_eq_some_iff] at h
    obtain ⟨a, h1, b, h2, h3⟩ := h
    subst e; subst h3
    exact .cons (pyS_at s d v a r1 h1) (pySL_at s ds vs' b r2 h2)
end
end
def fVar (i : Nat) : FE := fun ρ S => match ρ[i]? with
  | some (some d) => .ok d S
  | _ => .no
def fC (d : D) : FE := fun _ S => .ok d S
def f1 (g : D → Store → RE D) (a : FE) : FE := fun ρ S => (a ρ S).bnd fun x S1 => g x S1
def f2 (g : D → D → Store → RE D) (a b : FE) : FE := fun ρ S => (a ρ S).bnd fun x S1 => (b ρ S1).bnd fun y S2 => g x y S2
def fNil : FA := fun _ S => .ok [] S
def fCons (a : FE) (r : FA) : FA := fun ρ S => (a ρ S).bnd fun x S1 => (r ρ S1).bnd fun xs S2 => .ok (x :: xs) S2
def fArg (g : List D → Store → RE D) (a : FA) : FE := fun ρ S => (a ρ S).bnd g
/-- what the operation's reading asks is given -/
def OpV [Wo] (K : PySem.W.Frag) (mg : Str → Option Value) (r : R2) (g : D → D → Store → RE D) : Prop :=
  ∀ (w : Wd) (S : Store) (H : Hp) (x y : V) (d e : D) (Q : VK) (E : Value → Option Addr → Hp → Prop), Sto K mg w S H → Rp K mg w H d x → Rp K mg w H e y → End K mg (fun w H => Rp K mg w H) w H (g d e S) Q E → r x y H Q
def CallV [Wo] (K : PySem.W.Frag) (mg : Str → Option Value) (r : List V → Hp → VK → Prop) (g : List D → Store → RE D) : Prop :=
  ∀ (w : Wd) (S : Store) (H : Hp) (xs : List V) (ds : List D) (Q : VK) (E : Value → Option Addr → Hp → Prop), Sto K mg w S H → RpL K mg w H ds xs → End K mg (fun w H => Rp K mg w H) w H (g ds S) Q E → r xs H Q
section
variable {X : Cx} {W : WX} {a b e : Expr} {es : List Expr} {fa fb : FE} {fs : FA} {pos : Pos}
theorem two [Wo] {r : R2} {g : D → D → Store → RE D} (hv : OpV X.K X.mg r g) {σ : L2.St} {H : Hp} {Q : VK} (h : tF X W (f2 g fa fb) σ H Q) : tOp r (tF X W fa) (tF X W fb) σ H Q := by
  obtain ⟨w, ρ, S, s, en, h⟩ := h
  refine ⟨w, ρ, S, s, en, (End.bind h).imp ?_ (fun _ _ _ z => z)⟩
  rintro x H1 ⟨w1, S1, d, e1, s1, r1, h1⟩
  refine ⟨w1, ρ, S1, s1, en.ext e1, (End.bind h1).imp ?_ (fun _ _ _ z => z)⟩
  rintro y H2 ⟨w2, S2, d2, e2, s2, r2, h2⟩
  exact hv w2 S2 H2 x y d d2 Q _ s2 (Rp.ext e2 _ _ r1) r2 h2
theorem q_var [Wo] (i : Nat) {x : Str} (hN : X.N[i]? = some x := by rfl) (hv : Vis X.env.scope x := by first | exact Or.inl rfl | exact Or.inr (Or.inl rfl) | exact Or.inr (Or.inr rfl)) (hd : (x == ("__debug__" : Str)) = false := by decide)
    (hcd : (x == ("__classdict__" : Str)) = false := by decide) : PE X (.Name x pos) (tF X W (fVar i)) :=
  PE.wk (pe_var hN hv hd hcd) fun σ H Q ⟨w, ρ, S, s, en, h⟩ => by
    unfold fVar at h
    split at h
    · rename_i d hd
      obtain ⟨v, h1, h2⟩ := en.at_ i d hd
      exact ⟨v, h1, h.ret s h2⟩
    · exact h.elim
theorem q_const [Wo] {d : D} {v : V} (hr : ∀ w H, Rp X.K X.mg w H d v) (h : PE X e (tC v)) : PE X e (tF X W (fC d)) := PE.wk h fun σ H Q ⟨w, ρ, S, s, en, h⟩ => h.ret s (hr w H)
theorem q_int [Wo] {i j} : PE X (.Constant (.int i) j pos) (tF X W (fC (.int i))) := q_const (fun w H => by unfold Rp; rfl) pe_int
theorem q_bl [Wo] {i j} : PE X (.Constant (.bool i) j pos) (tF X W (fC (.bl i))) := q_const (fun w H => by unfold Rp; rfl) pe_bl
theorem q_non [Wo] {j} : PE X (.Constant .none j pos) (tF X W (fC .non)) := q_const (fun w H => by unfold Rp; rfl) pe_non
theorem q_str [Wo] {i j} : PE X (.Constant (.str i) j pos) (tF X W (fC (.str i))) := q_const (fun w H => by unfold Rp; rfl) pe_str
theorem q_op [Wo] {op : Operator} {r : R2} {g : D → D → Store → RE D} (ho : OpR X (binaryOp op) r) (hv : OpV X.K X.mg r g) (ha : PE X a (tF X W fa)) (hb : PE X b (tF X W fb)) : PE X (.BinOp a op b pos) (tF X W (f2 g fa fb)) :=
  PE.wk (pe_op ho ha hb) fun σ H Q h => two hv h
theorem q_cmp [Wo] {op : CmpOp} {r : R2} {g : D → D → Store → RE D} (ho : OpR X (compareOp op) r) (hv : OpV X.K X.mg r g) (ha : PE X a (tF X W fa)) (hb : PE X b (tF X W fb)) (hm : behindInMarks op b = false) : PE X (.Compare a [op] [b] pos) (tF X W (f2 g fa fb)) :=
  PE.wk (pe_cmpR ho ha hb hm) fun σ H Q h => two hv h
/-- a value that is a truth, as a test -/
def fB (f : FE) : FT := fun ρ S => (f ρ S).bnd fun x S1 => match x with
  | .bl k => .ok k S1
  | _ => .no
theorem tF_of_fB [Wo] {f : FE} {σ : L2.St} {H : Hp} {Q : Bool → Hp → Prop} (h : tT X W (fB f) σ H Q) : tF X W f σ H (fun v H' => ∃ k, v = .bl k ∧ Q k H') := by
  obtain ⟨w, ρ, S, s, en, h⟩ := h
  refine ⟨w, ρ, S, s, en, (End.bind (R := fun w H => Rp X.K X.mg w H) h).imp ?_ (fun _ _ _ z => z)⟩
  rintro x H1 ⟨w1, S1, d, e1, s1, r1, h1⟩
  cases d <;> try exact h1.elim
  unfold Rp at r1
  exact ⟨_, r1, h1.ret s1 rfl⟩
theorem qt_cmp [Wo] {op : CmpOp} {r : R2} {g : D → D → Store → RE D} (ho : OpR X (compareOp op) r) (hv : OpV X.K X.mg r g) (ha : PE X a (tF X W fa)) (hb : PE X b (tF X W fb)) (hm : behindInMarks op b = false) : PT X (.Compare a [op] [b] pos) (tT X W (fB (f2 g fa fb))) :=
  PT.wk (pt_cmpR ho ha hb hm) fun σ H Q h => two hv (tF_of_fB h)
/-- a op1 b op2 c -/
def fChain (g g' : D → D → Store → RE D) (a b c : FE) : FE := fun ρ S => (a ρ S).bnd fun x S1 => (b ρ S1).bnd fun y S2 => (g x y S2).bnd fun k S3 => match k with
  | .bl true => (c ρ S3).bnd fun z S4 => g' y z S4
  | .bl false => .ok (.bl false) S3
  | _ => .no
theorem chain [Wo] {r r' : R2} {g g' : D → D → Store → RE D} (hv : OpV X.K X.mg r g) (hv' : OpV X.K X.mg r' g') {fc : FE} {σ : L2.St} {H : Hp} {Q : VK} (h : tF X W (fChain g g' fa fb fc) σ H Q) : tChain r r' (tF X W fa) (tF X W fb) (tF X W fc) σ H Q := by
  obtain ⟨w, ρ, S, s, en, h⟩ := h
  refine ⟨w, ρ, S, s, en, (End.bind h).imp ?_ (fun _ _ _ z => z)⟩
  rintro x H1 ⟨w1, S1, d, e1, s1, r1, h1⟩
  refine ⟨w1, ρ, S1, s1, en.ext e1, (End.bind h1).imp ?_ (fun _ _ _ z => z)⟩
  rintro y H2 ⟨w2, S2, d2, e2, s2, r2, h2⟩
  refine hv w2 S2 H2 x y d d2 _ _ s2 (Rp.ext e2 _ _ r1) r2 ((End.bind h2).imp ?_ (fun _ _ _ z => z))
  rintro z H3 ⟨w3, S3, d3, e3, s3, r3, h3⟩
  cases d3 <;> try exact h3.elim
  rename_i k
  unfold Rp at r3
  refine ⟨k, r3, ?_⟩
  cases k with
  | false => rw [if_neg (by decide)]; exact h3.ret s3 (by unfold Rp; rfl)
  | true =>
    rw [if_pos rfl]
    refine ⟨w3, ρ, S3, s3, ((en.ext e1).ext e2).ext e3, (End.bind h3).imp ?_ (fun _ _ _ z => z)⟩
    rintro u H4 ⟨w4, S4, d4, e4, s4, r4, h4⟩
    exact hv' w4 S4 H4 y u d2 d4 _ _ s4 (Rp.ext e4 _ _ (Rp.ext e3 _ _ r2)) r4 h4
theorem q_chain [Wo] {c : Expr} {fc : FE} {op op' : CmpOp} {r r' : R2} {g g' : D → D → Store → RE D} (ho : OpR X (compareOp op) r) (hv : OpV X.K X.mg r g) (ho' : OpR X (compareOp op') r') (hv' : OpV X.K X.mg r' g') (ha : PE X a (tF X W fa)) (hb : PE X b (tF X W fb)) (hc : PE X c (tF X W fc))
    (hm : lastMarks [op, op'] [b, c] = false := by with_unfolding_all rfl) : PE X (.Compare a [op, op'] [b, c] pos) (tF X W (fChain g g' fa fb fc)) :=
  PE.wk (pe_chain ho ho' ha hb hc hm) fun σ H Q h => chain hv hv' h
def fAnd (a b : FT) : FT := fun ρ S => (a ρ S).bnd fun k S1 => match k with
  | true => b ρ S1
  | false => .ok false S1
def fOr (a b : FT) : FT := fun ρ S => (a ρ S).bnd fun k S1 => match k with
  | true => .ok true S1
  | false => b ρ S1
def fNot (a : FT) : FT := fun ρ S => (a ρ S).bnd fun k S1 => .ok (!k) S1
def fIf (c : FT) (a b : FE) : FE := fun ρ S => (c ρ S).bnd fun k S1 => match k with
  | true => a ρ S1
  | false => b ρ S1
variable {ta tb : FT} {rest : List Expr}
theorem tT_bind [Wo] {β : Type} {R' : Wd → Hp → β → β → Prop} {f : FT} {σ : L2.St} {H : Hp} {t : Bool → Hp → Prop} {w : Wd} {ρ : FEnv} {S : Store} {γ δ : Type} {RR : Wd → Hp → γ → δ → Prop} {k : Bool → Store → RE γ} {Q : δ → Hp → Prop}
    (s : Sto X.K X.mg w S H) (en : EnvR X.K X.mg w H ρ σ) (h : End X.K X.mg RR w H ((f ρ S).bnd k) Q (fun c od H' => W c od σ H'))
    (hk : ∀ w1 S1 H1 b, Sto X.K X.mg w1 S1 H1 → EnvR X.K X.mg w1 H1 ρ σ → End X.K X.mg RR w1 H1 (k b S1) Q (fun c od H' => W c od σ H') → t b H1) : tT X W f σ H t := by
  refine ⟨w, ρ, S, s, en, (End.bind h).imp ?_ (fun _ _ _ z => z)⟩
  rintro v H1 ⟨w1, S1, d, e1, s1, r1, h1⟩
  cases r1
  exact hk w1 S1 H1 _ s1 (en.ext e1) h1
theorem qw_one [Wo] {op : BoolOp} (ha : PT X a (tT X W ta)) : PW X (.BoolOp op [a] pos) (tT X W ta) := by
  cases op
  · exact pw_and1 ha
  · exact pw_or1 ha
theorem qw_and [Wo] (ha : PT X a (tT X W ta)) (hb : PW X (.BoolOp .And (b :: rest) pos) (tT X W tb)) : PW X (.BoolOp .And (a :: b :: rest) pos) (tT X W (fAnd ta tb)) :=
  PW.wk (pw_and ha hb) fun σ H Q ⟨w, ρ, S, s, en, h⟩ => tT_bind (R' := fun _ _ (a b : Nat) => True) s en h fun w1 S1 H1 k s1 en1 h1 => by
    cases k with
    | true => rw [if_pos rfl]; exact ⟨w1, ρ, S1, s1, en1, h1⟩
    | false => rw [if_neg (by decide)]; exact h1.ret s1 rfl
theorem qw_or [Wo] (ha : PT X a (tT X W ta)) (hb : PW X (.BoolOp .Or (b :: rest) pos) (tT X W tb)) : PW X (.BoolOp .Or (a :: b :: rest) pos) (tT X W (fOr ta tb)) :=
  PW.wk (pw_or ha hb) fun σ H Q ⟨w, ρ, S, s, en, h⟩ => tT_bind (R' := fun _ _ (a b : Nat) => True) s en h fun w1 S1 H1 k s1 en1 h1 => by
    cases k with
    | true => rw [if_pos rfl]; exact h1.ret s1 rfl
    | false => rw [if_neg (by decide)]; exact ⟨w1, ρ, S1, s1, en1, h1⟩
theorem qt_not [Wo] (ha : PT X a (tT X W ta)) : PT X (.UnaryOp .Not a pos) (tT X W (fNot ta)) :=
  PT.wk (pt_not ha) fun σ H Q ⟨w, ρ, S, s, en, h⟩ => tT_bind (R' := fun _ _ (a b : Nat) => True) s en h fun w1 S1 H1 k s1 en1 h1 => h1.ret s1 rfl
theorem q_if [Wo] {c : Expr} {tc : FT} (hc : PT X c (tT X W tc)) (ha : PE X a (tF X W fa)) (hb : PE X b (tF X W fb)) : PE X (.IfExp c a b pos) (tF X W (fIf tc fa fb)) :=
  PE.wk (pe_ifExp hc ha hb) fun σ H Q ⟨w, ρ, S, s, en, h⟩ => tT_bind (R' := fun _ _ (a b : Nat) => True) s en h fun w1 S1 H1 k s1 en1 h1 => by
    cases k with
    | true => rw [if_pos rfl]; exact ⟨w1, ρ, S1, s1, en1, h1⟩
    | false => rw [if_neg (by decide)]; exact ⟨w1, ρ, S1, s1, en1, h1⟩
/-- and, or, not as values: all but the last one truths -/
def fAndV (a b : FE) : FE := fun ρ S => (a ρ S).bnd fun k S1 => match k with
  | .bl true => b ρ S1
  | .bl false => .ok (.bl false) S1
  | _ => .no
def fOrV (a b : FE) : FE := fun ρ S => (a ρ S).bnd fun k S1 => match k with
  | .bl true => .ok (.bl true) S1
  | .bl false => b ρ S1
  | _ => .no
theorem q_one [Wo] {op : BoolOp} (ha : PE X a (tF X W fa)) : PE X (.BoolOp op [a] pos) (tF X W fa) := pe_one ha
theorem q_and [Wo] (ha : PE X a (tF X W fa)) (hb : PE X (.BoolOp .And (b :: rest) pos) (tF X W fb)) : PE X (.BoolOp .And (a :: b :: rest) pos) (tF X W (fAndV fa fb)) :=
  PE.wk (pe_and ha hb) fun σ H Q ⟨w, ρ, S, s, en, h⟩ => by
    refine ⟨w, ρ, S, s, en, (End.bind h).imp ?_ (fun _ _ _ z => z)⟩
    rintro x H1 ⟨w1, S1, d, e1, s1, r1, h1⟩
    cases d <;> try exact h1.elim
    rename_i k
    unfold Rp at r1
    refine ⟨k, r1, ?_⟩
    cases k with
    | true => rw [if_pos rfl]; exact ⟨w1, ρ, S1, s1, en.ext e1, h1⟩
    | false => rw [if_neg (by decide)]; exact h1.ret s1 (by unfold Rp; rfl)
/-- truth -/
def truD (S : Store) : D → Option Bool
  | .non => some false
  | .bl b => some b
  | .int i => some (i != 0)
  | .str y => if y.length ≤ sizeLine then some ((y.length : Int) != 0) else none
  | .tup ds => some (!ds.isEmpty)
  | .lst ds => some (!ds.isEmpty)
  | .fls ds => some (!ds.isEmpty)
  | .loc n => (cellOf S n).map fun ds => !ds.isEmpty
  | _ => none
def fTru (f : FE) : FT := fun ρ S => (f ρ S).bnd fun x S1 => match truD S1 x with
  | some k => .ok k S1
  | none => .no
theorem RpL.emp {K : PySem.W.Frag} {mg : Str → Option Value} {w : Wd} {H : Hp} {ds : List D} {vs : List V} (h : RpL K mg w H ds vs) : (!ds.isEmpty) = !vs.isEmpty := by
  cases ds <;> unfold RpL at h
  · subst h; rfl
  · obtain ⟨v, r, e, _⟩ := h; subst e; rfl
theorem truD_at [Wo] {K : PySem.W.Frag} {mg : Str → Option Value} {w : Wd} {H : Hp} {S : Store} {d : D} {v : V} {k : Bool} (s : Sto K mg w S H) (r : Rp K mg w H d v) (h : truD S d = some k) : TruV K v H k := by
  cases d with
  | non => unfold Rp at r; subst r; simp only [truD] at h; cases h; rfl
  | bl b => unfold Rp at r; subst r; simp only [truD] at h; cases h; rfl
  | int i => unfold Rp at r; subst r; simp only [truD] at h; cases h; rfl
  | str y =>
    unfold Rp at r; subst r; simp only [truD] at h
    split at h
    · rename_i hl; cases h; exact ⟨hl, rfl⟩
    · cases h
  | tup ds =>
    obtain ⟨a, xs, e, t, q⟩ := tup_at r
    simp only [truD] at h; cases h; subst e
    exact .inr (.inl ⟨xs, t, q.emp⟩)
  | lst ds =>
    obtain ⟨a, xs, e, t, q⟩ := seqL_at (S := S) s r rfl
    simp only [truD] at h; cases h; subst e
    exact .inl ⟨xs, t, q.emp⟩
  | fls ds =>
    obtain ⟨a, xs, e, t, q⟩ := seqL_at (S := S) (d := .fls ds) s r rfl
    simp only [truD] at h; cases h; subst e
    exact .inl ⟨xs, t, q.emp⟩
  | loc n =>
    simp only [truD, Option.map_eq_some_iff] at h
    obtain ⟨ds, h1, h2⟩ := h
    obtain ⟨a, xs, e, t, q⟩ := seqL_at (S := S) (d := .loc n) s r h1
    subst e; subst h2
    exact .inl ⟨xs, t, q.emp⟩
  | _ => simp [truD] at h
theorem qt_tru [Wo] (ha : PE X a (tF X W fa)) (he : ∀ whole, isTrue a X.env whole = (do let v ← whole; standAt a.pos; holding [v] (truthy v)) := by intro _; rfl) : PT X a (tT X W (fTru fa)) :=
  PT.wk (pt_truth ha he) fun σ H Q ⟨w, ρ, S, s, en, h⟩ => by
    refine ⟨w, ρ, S, s, en, (End.bind (R := fun w H => Rp X.K X.mg w H) h).imp ?_ (fun _ _ _ z => z)⟩
    rintro x H1 ⟨w1, S1, d, e1, s1, r1, h1⟩
    split at h1
    · rename_i k hk
      exact ⟨k, truD_at s1 r1 hk, h1.ret s1 rfl⟩
    · exact h1.elim
/-- not e, as a value, by truth -/
def fNotV (f : FE) : FE := fun ρ S => (f ρ S).bnd fun x S1 => match truD S1 x with
  | some k => .ok (.bl (!k)) S1
  | none => .no
theorem q_not [Wo] (ha : PE X a (tF X W fa)) : PE X (.UnaryOp .Not a pos) (tF X W (fNotV fa)) :=
  PE.wk (pe_notT ha) fun σ H Q ⟨w, ρ, S, s, en, h⟩ => by
    refine ⟨w, ρ, S, s, en, (End.bind (R := fun w H => Rp X.K X.mg w H) h).imp ?_ (fun _ _ _ z => z)⟩
    rintro x H1 ⟨w1, S1, d, e1, s1, r1, h1⟩
    split at h1
    · rename_i k hk
      exact ⟨k, truD_at s1 r1 hk, h1.ret s1 (by unfold Rp; rfl)⟩
    · exact h1.elim
theorem q_nil [Wo] : PA X [] (tA X W fNil) := PA.wk pa_nil fun σ H Q ⟨w, ρ, S, s, en, h⟩ => h.ret s RpL.nil
theorem q_cons [Wo] (ha : PE X e (tF X W fa)) (hr : PA X es (tA X W fs)) (hs : starEach (e :: es) X.env = (false, eval e X.env) :: starEach es X.env := by rfl) : PA X (e :: es) (tA X W (fCons fa fs)) :=
  PA.wk (pa_cons ha hr hs) fun σ H Q ⟨w, ρ, S, s, en, h⟩ => by
    refine ⟨w, ρ, S, s, en, (End.bind h).imp ?_ (fun _ _ _ z => z)⟩
    rintro x H1 ⟨w1, S1, d, e1, s1, r1, h1⟩
    refine ⟨w1, ρ, S1, s1, en.ext e1, (End.bind h1).imp ?_ (fun _ _ _ z => z)⟩
    rintro xs H2 ⟨w2, S2, ds, e2, s2, r2, h2⟩
    exact h2.ret s2 (RpL.cons (Rp.ext e2 _ _ r1) r2)
/-- a new tuple, a new list -/
def mkTup (ds : List D) (S : Store) : RE D := if ds.length ≤ sizeLine then .ok (.tup ds) S else .no
def mkLst (ds : List D) (S : Store) : RE D := if ds.length ≤ sizeLine then .ok (.lst ds) S else .no
def mkCel (ds : List D) (S : Store) : RE D := if ds.length ≤ sizeLine then .ok (.loc S.length) (S ++ [.lst ds]) else .no
section
variable {K : PySem.W.Frag} {mg : Str → Option Value} {w : Wd} {H : Hp} {S : Store} {Q : VK} {E : Value → Option Addr → Hp → Prop} {ds : List D} {xs : List V} {p : Addr}
theorem mkTup_at [Wo] (s : Sto K mg w S H) (r : RpL K mg w H ds xs) (h : End K mg (fun w H => Rp K mg w H) w H (mkTup ds S) Q E) : xs.length ≤ sizeLine ∧ ∀ p, H p = none → Q (.ref p) (upd H p (.tup xs)) := by
  unfold mkTup at h
  split at h
  · rename_i hl
    refine ⟨by rw [← r.length]; exact hl, fun p np => h w _ _ (Ext.new np) (s.beside np) ?_⟩
    show Rp _ _ _ _ _ _
    unfold Rp
    exact ⟨p, xs, rfl, .inl ⟨upd_same, s.new np⟩, RpL.ext (Ext.new np) _ _ r⟩
  · exact h.elim
theorem mkLst_at [Wo] (s : Sto K mg w S H) (r : RpL K mg w H ds xs) (h : End K mg (fun w H => Rp K mg w H) w H (mkLst ds S) Q E) : xs.length ≤ sizeLine ∧ ∀ p, H p = none → Q (.ref p) (upd H p (.lst xs)) := by
  unfold mkLst at h
  split at h
  · rename_i hl
    refine ⟨by rw [← r.length]; exact hl, fun p np => h w _ _ (Ext.new np) (s.beside np) ?_⟩
    show Rp _ _ _ _ _ _
    unfold Rp
    exact ⟨p, xs, rfl, upd_same, s.new np, RpL.ext (Ext.new np) _ _ r⟩
  · exact h.elim
theorem Ext.cell {o : HO} (np : H p = none) : Ext w H ⟨w.φ ++ [some p], w.hd⟩ (upd H p o) where
  fr := fun a u e _ => by rw [upd_ne (ne_of_none e np)]; exact e
  ln := by show w.φ.length ≤ (w.φ ++ [some p]).length; rw [List.length_append]; exact Nat.le_add_right _ _
  ph := fun n a h l => by
    have h' : (w.φ ++ [some p])[n]? = some (some a) := h
    rw [List.getElem?_append_left l] at h'; exact h'
  nw := fun a h => by
    rcases List.mem_append.mp (show some a ∈ w.φ ++ [some p] from h) with h | h
    · exact .inl h
    · simp at h; subst h; exact .inr np
  hd := rfl
theorem Sto.cellNew [Wo] (s : Sto K mg w S H) (np : H p = none) (r : RpL K mg w H ds xs) : Sto K mg ⟨w.φ ++ [some p], w.hd⟩ (S ++ [.lst ds]) (upd H p (.lst xs)) := by
  have s2 := s.beside (o := .lst xs) np
  have ex : Ext w H ⟨w.φ ++ [some p], w.hd⟩ (upd H p (.lst xs)) := Ext.cell np
  refine ⟨by show (w.φ ++ [some p]).length = _; rw [List.length_append, List.length_append, s.len]; rfl, fun m n a h1 h2 => ?_, fun a ha => ⟨upd_some (s.ap a ha).1, fun z => ?_⟩, fun n c hc => ?_⟩
  · have key : ∀ k, (w.φ ++ [some p])[k]? = some (some a) → (w.φ[k]? = some (some a) ∧ k < w.φ.length) ∨ (k = w.φ.length ∧ a = p) := fun k hk => by
      by_cases hl : k < w.φ.length
      · rw [List.getElem?_append_left hl] at hk; exact .inl ⟨hk, hl⟩
      · have hl' : w.φ.length ≤ k := Nat.le_of_not_lt hl
        rw [List.getElem?_append_right hl'] at hk
        have : k - w.φ.length = 0 := by
          cases e : k - w.φ.length with
          | zero => rfl
          | succ j => rw [e] at hk; simp at hk
        rw [this] at hk; simp at hk
        exact .inr ⟨by omega, hk.symm⟩
    rcases key m h1 with ⟨a1, b1⟩ | ⟨a1, b1⟩ <;> rcases key n h2 with ⟨a2, b2⟩ | ⟨a2, b2⟩
    · exact s.nd m n a a1 a2
    · subst b2; exact absurd (List.mem_of_getElem? a1) (s.new np).1
    · subst b1; exact absurd (List.mem_of_getElem? a2) (s.new np).1
    · omega
  · rcases List.mem_append.mp (show some a ∈ w.φ ++ [some p] from z) with h | h
    · exact (s.ap a ha).2 h
    · simp at h; subst h; exact (s.ap a ha).1 np
  · by_cases hl : n < S.length
    · rw [List.getElem?_append_left hl] at hc
      refine CellR.ext ex (fun a ha => ⟨by show (w.φ ++ [some p])[n]? = _; rw [List.getElem?_append_left (s.len ▸ hl)]; exact ha, ?_⟩) (fun hd => by show (w.φ ++ [some p])[n]? = _; rw [List.getElem?_append_left (s.len ▸ hl)]; exact hd) (s.cell n c hc)
      have : a ≠ p := fun z => by subst z; exact (s.new np).1 (List.mem_of_getElem? ha)
      rw [upd_ne this]
    · have hl' : S.length ≤ n := Nat.le_of_not_lt hl
      rw [List.getElem?_append_right hl'] at hc
      have e0 : n - S.length = 0 := by
        cases e : n - S.length with
        | zero => rfl
        | succ j => rw [e] at hc; simp at hc
      rw [e0] at hc; simp at hc; subst hc
      have en : n = w.φ.length := by rw [s.len]; omega
      subst en
      exact ⟨p, xs, by show (w.φ ++ [some p])[w.φ.length]? = _; rw [List.getElem?_append_right (Nat.le_refl _), Nat.sub_self]; rfl, upd_same, RpL.ext ex _ _ r⟩
theorem mkCel_at [Wo] (s : Sto K mg w S H) (r : RpL K mg w H ds xs) (h : End K mg (fun w H => Rp K mg w H) w H (mkCel ds S) Q E) : xs.length ≤ sizeLine ∧ ∀ p, H p = none → Q (.ref p) (upd H p (.lst xs)) := by
  unfold mkCel at h
  split at h
  · rename_i hl
    refine ⟨by rw [← r.length]; exact hl, fun p np => h _ _ _ (Ext.cell np) (s.cellNew np r) ?_⟩
    show Rp _ _ _ _ _ _
    unfold Rp
    refine ⟨by show S.length < (w.φ ++ [some p]).length; rw [List.length_append, s.len]; exact Nat.lt_succ_self _, fun a ha => ?_⟩
    have ha' : (w.φ ++ [some p])[S.length]? = some (some a) := ha
    rw [← s.len, List.getElem?_append_right (Nat.le_refl _), Nat.sub_self] at ha'
    simp at ha'; rw [ha']
  · exact h.elim
end
theorem q_tup [Wo] {x1} (h : PA X es (tA X W fs)) : PE X (.Tuple es x1 pos) (tF X W (fArg mkTup fs)) :=
  PE.wk (pe_tup h) fun σ H Q ⟨w, ρ, S, s, en, h⟩ => ⟨w, ρ, S, s, en, (End.bind (R := fun w H => RpL X.K X.mg w H) h).imp (fun xs H1 ⟨w1, S1, ds, e1, s1, r1, h1⟩ => mkTup_at s1 r1 h1) (fun _ _ _ z => z)⟩
theorem q_lst [Wo] (h : PA X es (tA X W fs)) : PE X (.List es pos) (tF X W (fArg mkLst fs)) :=
  PE.wk (pe_lst h) fun σ H Q ⟨w, ρ, S, s, en, h⟩ => ⟨w, ρ, S, s, en, (End.bind (R := fun w H => RpL X.K X.mg w H) h).imp (fun xs H1 ⟨w1, S1, ds, e1, s1, r1, h1⟩ => mkLst_at s1 r1 h1) (fun _ _ _ z => z)⟩
theorem q_cel [Wo] (h : PA X es (tA X W fs)) : PE X (.List es pos) (tF X W (fArg mkCel fs)) :=
  PE.wk (pe_lst h) fun σ H Q ⟨w, ρ, S, s, en, h⟩ => ⟨w, ρ, S, s, en, (End.bind (R := fun w H => RpL X.K X.mg w H) h).imp (fun xs H1 ⟨w1, S1, ds, e1, s1, r1, h1⟩ => mkCel_at s1 r1 h1) (fun _ _ _ z => z)⟩
theorem argsTo [Wo] {r : List V → Hp → VK → Prop} {g : List D → Store → RE D} (hv : CallV X.K X.mg r g) {σ : L2.St} {H : Hp} {Q : VK} (h : tF X W (fArg g fs) σ H Q) : tA X W fs σ H (fun vs H1 => r vs H1 Q) := by
  obtain ⟨w, ρ, S, s, en, h⟩ := h
  refine ⟨w, ρ, S, s, en, (End.bind h).imp ?_ (fun _ _ _ z => z)⟩
  rintro xs H1 ⟨w1, S1, ds, e1, s1, r1, h1⟩
  exact hv w1 S1 H1 xs ds Q _ s1 r1 h1
theorem q_callB [Wo] {x : Str} {p : Pos} {id : String} {r : List V → Hp → VK → Prop} {g : List D → Store → RE D} (hc : CallR X (.builtin id) r) (hv : CallV X.K X.mg r g) (hg : Gl X x) (hm : X.mg x = none) (hb : bootBuiltins x = some (.builtin id)) (ha : PA X (e :: es) (tA X W fs)) (hn : x ≠ "__name__" := by decide) (hdb : (x == ("__debug__" : Str)) = false := by decide)
    (he : starEach (e :: es) X.env = (false, eval e X.env) :: starEach es X.env := by rfl) (hpl : (backTo pos (starEach es X.env)).any (·.1) = false := by rfl) : PE X (.Call (.Name x p) (e :: es) [] pos) (tF X W (fArg g fs)) :=
  PE.wk (pe_callB hc hg hm hb ha hn hdb he hpl) fun σ H Q h => argsTo hv h
theorem q_callTy [Wo] {x : Str} {p : Pos} {T : String} {r : List V → Hp → VK → Prop} {g : List D → Store → RE D} (hc : CallR X (.type T) r) (hv : CallV X.K X.mg r g) (hg : Gl X x) (hm : X.mg x = none) (hb : bootBuiltins x = some (.type T)) (ha : PA X (e :: es) (tA X W fs)) (hn : x ≠ "__name__" := by decide) (hdb : (x == ("__debug__" : Str)) = false := by decide)
    (he : starEach (e :: es) X.env = (false, eval e X.env) :: starEach es X.env := by rfl) (hpl : (backTo pos (starEach es X.env)).any (·.1) = false := by rfl) : PE X (.Call (.Name x p) (e :: es) [] pos) (tF X W (fArg g fs)) :=
  PE.wk (pe_callTy hc hg hm hb ha hn hdb he hpl) fun σ H Q h => argsTo hv h
end
end Kw
namespace Kw
open PySem PySem.Spec PyProof.Rows L2
section
variable {K : PySem.W.Frag} {mg : Str → Option Value} {w : Wd} {H : Hp} {S : Store}
theorem rp_int {i : Int} {v : V} (h : Rp K mg w H (.int i) v) : v = .int i := by unfold Rp at h; exact h
theorem rp_bl {i : Bool} {v : V} (h : Rp K mg w H (.bl i) v) : v = .bl i := by unfold Rp at h; exact h
theorem rp_str {i : Str} {v : V} (h : Rp K mg w H (.str i) v) : v = .str i := by unfold Rp at h; exact h
theorem rp_non {v : V} (h : Rp K mg w H .non v) : v = .non := by unfold Rp at h; exact h
theorem rp_i {i : Int} : Rp K mg w H (.int i) (.int i) := by unfold Rp; rfl
theorem rp_b {i : Bool} : Rp K mg w H (.bl i) (.bl i) := by unfold Rp; rfl
theorem rp_s {i : Str} : Rp K mg w H (.str i) (.str i) := by unfold Rp; rfl
theorem rp_n : Rp K mg w H .non .non := by unfold Rp; rfl
end
def catL (c : Bool) (x y : Option (List D)) (S : Store) : RE D := match x, y with
  | some xs, some ys => if c then mkCel (xs ++ ys) S else mkLst (xs ++ ys) S
  | _, _ => .no
/-- c: the sum of two lists is a cell -/
def gAdd (c : Bool) (x y : D) (S : Store) : RE D := match x with
  | .int i => (match y with
    | .int j => .ok (.int (i + j)) S
    | .bl k => .ok (.int (i + b2i k)) S
    | _ => .no)
  | .str a => (match y with
    | .str b => if a.length + b.length ≤ sizeLine then .ok (.str (a ++ b)) S else .no
    | _ => .no)
  | .tup xs => (match y with
    | .tup ys => mkTup (xs ++ ys) S
    | _ => .no)
  | x => catL c (seqM S x) (seqM S y) S
def gSub (x y : D) (S : Store) : RE D := match x, y with
  | .int i, .int j => .ok (.int (i - j)) S
  | _, _ => .no
instance (i j : Int) : Decidable (CMulW i j) := inferInstanceAs (Decidable (_ < _))
instance (i j : Int) : Decidable (CMul i j) := inferInstanceAs (Decidable (_ ∨ _))
/-- a text so many times -/
def repS (a : Str) (n : Int) : Str := if n < 1 then Str.empty else if (n == 1 || a.length == 0) = true then a else ⟨(List.replicate n.toNat a.cps).foldl (· ++ ·) #[]⟩
/-- c: a list that is repeated is a cell -/
def gMul (c : Bool) (x y : D) (S : Store) : RE D := match y with
  | .int j => (match x with
    | .int i => if CMul i j ∨ CMulW i j then .ok (.int (i * j)) S else .no
    | .str a => if a.length * j.toNat ≤ 16777216 ∧ a.length ≤ 1000 ∧ -(2 ^ 63) ≤ j ∧ j ≤ 100000 then .ok (.str (repS a j)) S else .no
    | x => (match seqM S x with
      | some xs => if xs.length * j.toNat ≤ sizeLine ∧ -(2 ^ 63) ≤ j ∧ j < 2 ^ 63 then (if c then mkCel (List.replicate j.toNat xs).flatten S else mkLst (List.replicate j.toNat xs).flatten S) else .no
      | none => .no))
  | _ => .no
/-- the divisor is positive -/
def gMod (x y : D) (S : Store) : RE D := match x, y with
  | .int i, .int j => if 0 < j then .ok (.int (i % j)) S else .no
  | _, _ => .no
def gDiv (x y : D) (S : Store) : RE D := match x, y with
  | .int i, .int j => if 0 < j ∧ j.natAbs.log2 < 9000 then .ok (.int (i / j)) S else .no
  | _, _ => .no
def gPow (x y : D) (S : Store) : RE D := match x, y with
  | .int i, .int j => if 0 ≤ j ∧ j ≤ 1000000 ∧ i.natAbs < 2 ^ 64 then .ok (.int (i ^ j.toNat)) S else .no
  | _, _ => .no
section
variable {K : PySem.W.Frag} {mg : Str → Option Value}
def rAddU (K : PySem.W.Frag) : R2 := fun x y H Q => (∃ i j, x = .int i ∧ y = .int j ∧ Q (.int (i + j)) H) ∨ (∃ i k, x = .int i ∧ y = .bl k ∧ Q (.int (i + b2i k)) H) ∨
  (∃ i j, x = .str i ∧ y = .str j ∧ i.length + j.length ≤ sizeLine ∧ Q (.str (i ++ j)) H) ∨ rCat x y H Q ∨ rCatA K x y H Q
theorem op_addU {X : Cx} : OpR X (binaryOp .Add) (rAddU X.K) := op_add.or (op_add_ib.or (op_add_str.or (op_cat.or op_catA)))
theorem addU_v [Wo] {c : Bool} : OpV K mg (rAddU K) (gAdd c) := by
  intro w S H x y d e Q E s r1 r2 h
  have lists : ∀ xs ys, seqM S d = some xs → seqM S e = some ys → End K mg (fun w H => Rp K mg w H) w H (if c then mkCel (xs ++ ys) S else mkLst (xs ++ ys) S) Q E → rCat x y H Q := fun xs ys h1 h2 h => by
    obtain ⟨a, vs, e1, t1, q1⟩ := seqM_at s r1 h1
    obtain ⟨b, us, e2, t2, q2⟩ := seqM_at s r2 h2
    have q := q1.append q2
    refine ⟨a, b, vs, us, e1, e2, t1, t2, ?_⟩
    have l : (vs ++ us).length = vs.length + us.length := List.length_append
    cases c
    · have z := mkLst_at s q h
      rw [l] at z; exact z
    · have z := mkCel_at s q h
      rw [l] at z; exact z
  have lists' : End K mg (fun w H => Rp K mg w H) w H (catL c (seqM S d) (seqM S e) S) Q E → rCat x y H Q := fun h => by
    unfold catL at h
    split at h
    · rename_i xs ys h1 h2; exact lists xs ys h1 h2 h
    · exact h.elim
  cases d <;> simp only [gAdd] at h
  case int i =>
    cases e <;> simp only [] at h <;> try exact h.elim
    · exact .inr (.inl ⟨i, _, rp_int r1, rp_bl r2, h.ret s rp_i⟩)
    · exact .inl ⟨i, _, rp_int r1, rp_int r2, h.ret s rp_i⟩
  case str a =>
    cases e <;> simp only [] at h <;> try exact h.elim
    split at h
    · rename_i hl; exact .inr (.inr (.inl ⟨a, _, rp_str r1, rp_str r2, hl, h.ret s rp_s⟩))
    · exact h.elim
  case tup xs =>
    cases e <;> simp only [] at h <;> try exact h.elim
    rename_i ys
    refine .inr (.inr (.inr (.inr ?_)))
    have r1' := r1
    have r2' := r2
    unfold Rp at r1' r2'
    obtain ⟨a, vs, e1, t1, q1⟩ := r1'
    obtain ⟨b, us, e2, t2, q2⟩ := r2'
    have q := q1.append q2
    have z := mkTup_at s q h
    have l : (vs ++ us).length = vs.length + us.length := List.length_append
    refine ⟨a, b, vs, us, e1, e2, t1.sq, t2.sq, by rw [← l]; exact z.1, fun ev => ?_, fun _ eu => ?_, fun _ _ => z.2⟩
    · subst ev
      have : xs = [] := q1.nil_iff.mpr rfl
      subst this
      unfold mkTup at h
      split at h
      · exact h.ret s (show Rp K mg w H _ _ by unfold Rp; exact ⟨b, us, rfl, t2, q2⟩)
      · exact h.elim
    · subst eu
      have : ys = [] := q2.nil_iff.mpr rfl
      subst this
      unfold mkTup at h
      split at h
      · exact h.ret s (show Rp K mg w H _ _ by unfold Rp; exact ⟨a, vs, rfl, t1, by rw [List.append_nil]; exact q1⟩)
      · exact h.elim
  all_goals exact .inr (.inr (.inr (.inl (lists' h))))
theorem sub_v [Wo] : OpV K mg (rI0 fun i j => .int (i - j)) gSub := by
  intro w S H x y d e Q E s r1 r2 h
  cases d <;> cases e <;> simp only [gSub] at h <;> try exact h.elim
  exact ⟨_, _, rp_int r1, rp_int r2, h.ret s rp_i⟩
theorem repS_fold : ∀ (k : Nat) (b a : Array Nat), ((List.replicate k a).foldl (· ++ ·) b).size = b.size + a.size * k
  | 0, b, a => by simp
  | k + 1, b, a => by rw [List.replicate_succ, List.foldl_cons, repS_fold k, Array.size_append, Nat.mul_succ]; omega
theorem repS_length (a : Str) (n : Int) : (repS a n).length ≤ a.length * n.toNat := by
  unfold repS
  by_cases h : n < 1
  · rw [if_pos h]; exact Nat.zero_le _
  · rw [if_neg h]
    have h1 : 1 ≤ n.toNat := by omega
    split
    · exact Nat.le_mul_of_pos_right _ h1
    · show ((List.replicate n.toNat a.cps).foldl (· ++ ·) #[]).size ≤ _
      rw [repS_fold]; show 0 + a.cps.size * _ ≤ _; rw [Nat.zero_add]; exact Nat.le_refl _
def rRepS : R2 := fun x y H Q => ∃ a j, x = .str a ∧ y = .int j ∧ a.length * j.toNat ≤ 16777216 ∧ a.length ≤ 1000 ∧ -(2 ^ 63) ≤ j ∧ j ≤ 100000 ∧ Q (.str (repS a j)) H
theorem op_repS {X : Cx} : OpR X (binaryOp .Mult) rRepS := by
  intro pins s σ H x y v u Q I rx ry h
  obtain ⟨a, j, rfl, rfl, h1, h2, h3, h4, q⟩ := h
  obtain ⟨t, rfl⟩ := rx
  obtain ⟨t2, rfl⟩ := ry
  have hz : a.length * j.toNat ≤ sizeLine := by rw [sizeLine_eq]; exact h1
  have n1 : ¬ j < -(2 ^ 63 : Int) := by omega
  have n2 : ¬ j ≥ (2 ^ 63 : Int) := by omega
  refine PySem.P.mul_str (by rw [decide_eq_false n1, decide_eq_false n2]; rfl) (fun g _ z => ?_) (fun _ _ => ?_) ?_
  · have g1 : (92233720368547 : Int) ≤ (2 ^ 63 - 1) / j := by
      rw [Int.le_ediv_iff_mul_le (by omega)]
      omega
    have : (a.length : Int) ≤ 1000 := by omega
    omega
  · unfold Builtin.Str.tooLong
    exact decide_eq_false (by omega)
  · have hl := repS_length a j
    unfold repS at q hl
    by_cases c : j < 1
    · rw [if_pos c] at q ⊢
      exact ⟨Nat.zero_le _, .str _, H, I.tok _, ⟨_, rfl⟩, q⟩
    · rw [if_neg c] at q hl ⊢
      by_cases c2 : (j == 1 || a.length == 0) = true
      · rw [if_pos c2] at q ⊢
        exact ⟨.str a, H, I, ⟨t, rfl⟩, q⟩
      · rw [if_neg c2] at q hl ⊢
        exact ⟨Nat.le_trans hl hz, .str _, H, I.tok _, ⟨_, rfl⟩, q⟩
def rMulU : R2 := fun x y H Q => rI CMul (fun i j => .int (i * j)) x y H Q ∨ rI CMulW (fun i j => .int (i * j)) x y H Q ∨ rRep x y H Q ∨ rRepS x y H Q
theorem op_mulU {X : Cx} : OpR X (binaryOp .Mult) rMulU := op_mul.or (op_mulW.or (op_rep.or op_repS))
theorem RpL.rep {w : Wd} {H : Hp} {xs : List D} {vs : List V} (h : RpL K mg w H xs vs) : ∀ n : Nat, RpL K mg w H (List.replicate n xs).flatten (List.replicate n vs).flatten
  | 0 => RpL.nil
  | n + 1 => by rw [List.replicate_succ, List.replicate_succ, List.flatten_cons, List.flatten_cons]; exact h.append (RpL.rep h n)
theorem mulU_v [Wo] {c : Bool} : OpV K mg rMulU (gMul c) := by
  intro w S H x y d e Q E s r1 r2 h
  cases e <;> simp only [gMul] at h <;> try exact h.elim
  rename_i j
  have lists : End K mg (fun w H => Rp K mg w H) w H (match seqM S d with
      | some xs => if xs.length * j.toNat ≤ sizeLine ∧ -(2 ^ 63) ≤ j ∧ j < 2 ^ 63 then (if c then mkCel (List.replicate j.toNat xs).flatten S else mkLst (List.replicate j.toNat xs).flatten S) else .no
      | none => .no) Q E → rRep x y H Q := fun h => by
    split at h
    · rename_i xs h1
      split at h
      · rename_i hl
        obtain ⟨a, vs, e1, t1, q1⟩ := seqM_at s r1 h1
        refine ⟨a, j, vs, e1, rp_int r2, t1, hl.2.1, hl.2.2, by rw [← q1.length]; exact hl.1, ?_⟩
        cases c
        · exact (mkLst_at s (q1.rep j.toNat) h).2
        · exact (mkCel_at s (q1.rep j.toNat) h).2
      · exact h.elim
    · exact h.elim
  cases d <;> simp only [] at h
  case int i =>
    split at h
    · rename_i hc
      rcases hc with hc | hc
      · exact .inl ⟨i, j, rp_int r1, rp_int r2, hc, h.ret s rp_i⟩
      · exact .inr (.inl ⟨i, j, rp_int r1, rp_int r2, hc, h.ret s rp_i⟩)
    · exact h.elim
  case str a =>
    split at h
    · rename_i hc
      exact .inr (.inr (.inr ⟨a, j, rp_str r1, rp_int r2, hc.1, hc.2.1, hc.2.2.1, hc.2.2.2, h.ret s rp_s⟩))
    · exact h.elim
  all_goals exact .inr (.inr (.inl (lists h)))
theorem mod_v [Wo] : OpV K mg (rI (fun _ j => 0 < j) fun i j => .int (i % j)) gMod := by
  intro w S H x y d e Q E s r1 r2 h
  cases d <;> cases e <;> simp only [gMod] at h <;> try exact h.elim
  split at h
  · rename_i hc; exact ⟨_, _, rp_int r1, rp_int r2, hc, h.ret s rp_i⟩
  · exact h.elim
theorem div_v [Wo] : OpV K mg (rI CDivW fun i j => .int (i / j)) gDiv := by
  intro w S H x y d e Q E s r1 r2 h
  cases d <;> cases e <;> simp only [gDiv] at h <;> try exact h.elim
  split at h
  · rename_i hc; exact ⟨_, _, rp_int r1, rp_int r2, hc, h.ret s rp_i⟩
  · exact h.elim
theorem pow_v [Wo] : OpV K mg (rI CPow fun i j => .int (i ^ j.toNat)) gPow := by
  intro w S H x y d e Q E s r1 r2 h
  cases d <;> cases e <;> simp only [gPow] at h <;> try exact h.elim
  split at h
  · rename_i hc; exact ⟨_, _, rp_int r1, rp_int r2, hc, h.ret s rp_i⟩
  · exact h.elim
end
def gCmp (p : Int → Int → Bool) (x y : D) (S : Store) : RE D := match x, y with
  | .int i, .int j => .ok (.bl (p i j)) S
  | _, _ => .no
def okPy (d e : PyData) : Bool := d.canLay0 && e.canLay0 && decide (min d.depth e.depth ≤ 200)
/-- a row of anything beside an empty one -/
def eqE (S : Store) (x y : D) : Option Bool := match y with
  | .lst [] => (seqL S x).map (·.isEmpty)
  | .tup [] => (match x with
    | .tup ds => some ds.isEmpty
    | _ => none)
  | .tup [.str b] => (match x with
    | .tup (.str a :: r) => some (a == b && r.isEmpty)
    | _ => none)
  | .str b => (match x with
    | .str a => some (a == b)
    | _ => none)
  | _ => none
def gEq (x y : D) (S : Store) : RE D := match eqE S x y with
  | some b => .ok (.bl b) S
  | none => (match pyS S x, pyS S y with
    | some d, some e => if okPy d e then .ok (.bl (PyData.eqv d e)) S else .no
    | _, _ => .no)
def gNe (x y : D) (S : Store) : RE D := match eqE S x y with
  | some b => .ok (.bl (!b)) S
  | none => (match pyS S x, pyS S y with
    | some d, some e => if okPy d e then .ok (.bl (!PyData.eqv d e)) S else .no
    | _, _ => .no)
def rEqS (K : PySem.W.Frag) (neg : Bool) : R2 := fun x y H Q => (∃ za zb : Str, x = .str za ∧ y = .str zb ∧ Q (.bl (if neg then !(za == zb) else za == zb)) H) ∨ ∃ a b xs, ∃ za zb : Str, x = .ref a ∧ y = .ref b ∧ SqT K H a (.str za :: xs) ∧ SqT K H b [.str zb] ∧ Q (.bl (if neg then !(za == zb && xs.isEmpty) else (za == zb && xs.isEmpty))) H
def rEqE (K : PySem.W.Frag) (neg : Bool) : R2 := fun x y H Q => rEqS K neg x y H Q ∨ ∃ a b xs, x = .ref a ∧ y = .ref b ∧ ((SqL K H a xs ∧ SqL K H b []) ∨ (SqT K H a xs ∧ SqT K H b [])) ∧ Q (.bl (if neg then !xs.isEmpty else xs.isEmpty)) H
def rEqP (K : PySem.W.Frag) : R2 := fun x y H Q => ∃ d e, Dp K H x d ∧ Dp K H y e ∧ okPy d e = true ∧ Q (.bl (PyData.eqv d e)) H
def rNeP (K : PySem.W.Frag) : R2 := fun x y H Q => ∃ d e, Dp K H x d ∧ Dp K H y e ∧ okPy d e = true ∧ Q (.bl (!PyData.eqv d e)) H
theorem okPy_iff {d e : PyData} (h : okPy d e = true) : d.canLay0 = true ∧ e.canLay0 = true ∧ min d.depth e.depth ≤ 200 := by
  unfold okPy at h
  simp only [Bool.and_eq_true, decide_eq_true_eq] at h
  exact ⟨h.1.1, h.1.2, h.2⟩
section
variable {X : Cx}
theorem op_eqP (hu : X.A.units + 200 < cLine) : OpR X (compareOp .Eq) (rEqP X.K) := by
  intro pins s σ H x y v u Q I rx ry h
  obtain ⟨d, e, hd, he, hk, q⟩ := h
  obtain ⟨k1, k2, k3⟩ := okPy_iff hk
  obtain ⟨as, r1⟩ := Dp.reads I d x v hd rx
  obtain ⟨bs, r2⟩ := Dp.reads I e y u he ry
  exact SeqAt.compareEq_reads r1 r2 k1 k2 (by omega) ⟨.bl _, H, I, rfl, q⟩
theorem op_neP (hu : X.A.units + 200 < cLine) : OpR X (compareOp .NotEq) (rNeP X.K) := by
  intro pins s σ H x y v u Q I rx ry h
  obtain ⟨d, e, hd, he, hk, q⟩ := h
  obtain ⟨k1, k2, k3⟩ := okPy_iff hk
  obtain ⟨as, r1⟩ := Dp.reads I d x v hd rx
  obtain ⟨bs, r2⟩ := Dp.reads I e y u he ry
  exact SeqAt.compareNe_reads r1 r2 k1 k2 (by omega) ⟨.bl _, H, I, rfl, q⟩
theorem one_beside {pins : List (Addr × Obj)} {σ : L2.St} {H : Hp} {s : Shared} {a b : Addr} {xs : List V} {za zb : Str} (I : Inv X pins σ H s) (h1 : SqT X.K H a (.str za :: xs)) (h2 : SqT X.K H b [.str zb]) :
    ∃ its its2 : List Value, IsTup s.heap a its.toArray ∧ IsTup s.heap b its2.toArray ∧ its.length = xs.length + 1 ∧ its2.length = 1 ∧ ∀ j (k1 : j < its.toArray.size) (k2 : j < its2.toArray.size), SeqAt.EqAt X.A.in1 s its.toArray[j] its2.toArray[j] ((fun _ => za == zb) j) := by
  obtain ⟨its, rv, t1, _⟩ := I.tuple h1
  obtain ⟨its2, rv2, t2, _⟩ := I.tuple h2
  cases rv with
  | cons r1 rt =>
    cases rv2 with
    | cons r2 rt2 =>
      cases rt2
      obtain ⟨u1, rfl⟩ := r1
      obtain ⟨u2, rfl⟩ := r2
      refine ⟨_, _, t1, t2, by simp [rt.length], rfl, fun j k1 k2 => ?_⟩
      have : j = 0 := by simp at k2; omega
      subst this
      exact SeqAt.EqAt.str_str za u1 zb u2
theorem one_val {α : Type} {xs : List α} {its its2 : List Value} {b : Bool} (l1 : its.length = xs.length + 1) (l2 : its2.length = 1) : ((List.range (min its.toArray.size its2.toArray.size)).all (fun _ => b) && its.toArray.size == its2.toArray.size) = (b && xs.isEmpty) := by
  rw [List.size_toArray, List.size_toArray, l1, l2]
  have : min (xs.length + 1) 1 = 1 := by omega
  rw [this]
  cases xs <;> simp [List.range, List.range.loop]
theorem op_eqE (hu : X.A.units + 200 < cLine) : OpR X (compareOp .Eq) (rEqE X.K false) := by
  intro pins s σ H x y v u Q I rx ry h
  rcases h with (⟨za, zb, rfl, rfl, q⟩ | ⟨a, b, xs, za, zb, rfl, rfl, h1, h2, q⟩) | h
  · obtain ⟨t1, rfl⟩ := rx
    obtain ⟨t2, rfl⟩ := ry
    exact PySem.P.eq_str ⟨.bl _, H, I, congrArg Value.bool (SeqAt.str_beq za zb), q⟩
  · cases rx; cases ry
    obtain ⟨its, its2, t1, t2, l1, l2, he⟩ := one_beside I h1 h2
    refine SeqAt.eq_tupleAt (e := fun _ => za == zb) t1 t2 (by omega) he ⟨.bl _, H, I, ?_, q⟩
    rw [one_val (xs := xs) l1 l2]; rfl
  obtain ⟨a, b, xs, rfl, rfl, hab, q⟩ := h
  cases rx; cases ry
  have hu' : X.A.units < cLine := by omega
  rcases hab with ⟨h1, h2⟩ | ⟨h1, h2⟩
  · obtain ⟨its, rv, t1, _⟩ := I.list h1
    obtain ⟨its2, rv2, t2, _⟩ := I.list h2
    have l1 := rv.length
    have l2 := rv2.length
    cases xs with
    | nil => exact SeqAt.eq_listAt (e := fun _ => true) t1.isList t2.isList (by rw [List.size_toArray, List.size_toArray]; omega) hu' (fun j k1 k2 => by rw [List.size_toArray, ← l1] at k1; exact absurd k1 (Nat.not_lt_zero _)) ⟨.bl _, H, I, by rw [List.all_eq_true.mpr (fun _ _ => rfl)]; rfl, q⟩
    | cons z r => exact SeqAt.eq_list_lengthsAt t1.isList t2.isList (by rw [List.size_toArray, List.size_toArray, ← l1, ← l2]; rfl) hu' ⟨.bl _, H, I, rfl, q⟩
  · obtain ⟨its, rv, t1, _⟩ := I.tuple h1
    obtain ⟨its2, rv2, t2, _⟩ := I.tuple h2
    have l1 := rv.length
    have l2 : its2.length = 0 := by have := rv2.length; simpa using this.symm
    refine SeqAt.eq_tupleAt (e := fun _ => true) t1 t2 hu' (fun j k1 k2 => by rw [List.size_toArray, l2] at k2; exact absurd k2 (Nat.not_lt_zero _)) ⟨.bl _, H, I, ?_, q⟩
    rw [List.all_eq_true.mpr (fun _ _ => rfl), List.size_toArray, List.size_toArray, l2, ← l1]
    cases xs <;> rfl
theorem op_neE (hu : X.A.units + 200 < cLine) : OpR X (compareOp .NotEq) (rEqE X.K true) := by
  intro pins s σ H x y v u Q I rx ry h
  rcases h with (⟨za, zb, rfl, rfl, q⟩ | ⟨a, b, xs, za, zb, rfl, rfl, h1, h2, q⟩) | h
  · obtain ⟨t1, rfl⟩ := rx
    obtain ⟨t2, rfl⟩ := ry
    exact PySem.P.ne_str ⟨.bl _, H, I, congrArg (fun b => Value.bool (!b)) (SeqAt.str_beq za zb), q⟩
  · cases rx; cases ry
    obtain ⟨its, its2, t1, t2, l1, l2, he⟩ := one_beside I h1 h2
    refine SeqAt.RcNeAt.tuples (e := fun _ => za == zb) t1 t2 (by omega) he _ _ _ _ ⟨.bl _, H, I, ?_, q⟩
    rw [one_val (xs := xs) l1 l2]; rfl
  obtain ⟨a, b, xs, rfl, rfl, hab, q⟩ := h
  cases rx; cases ry
  have hu' : X.A.units < cLine := by omega
  rcases hab with ⟨h1, h2⟩ | ⟨h1, h2⟩
  · obtain ⟨its, rv, t1, _⟩ := I.list h1
    obtain ⟨its2, rv2, t2, _⟩ := I.list h2
    have l1 := rv.length
    have l2 := rv2.length
    cases xs with
    | nil => exact SeqAt.RcNeAt.lists (e := fun _ => true) t1.isList t2.isList (by rw [List.size_toArray, List.size_toArray]; omega) hu' (fun j k1 k2 => by rw [List.size_toArray, ← l1] at k1; exact absurd k1 (Nat.not_lt_zero _)) _ _ _ _ ⟨.bl _, H, I, by rw [List.all_eq_true.mpr (fun _ _ => rfl)]; rfl, q⟩
    | cons z r => exact SeqAt.RcNeAt.lists_lengths t1.isList t2.isList (by rw [List.size_toArray, List.size_toArray, ← l1, ← l2]; rfl) hu' _ _ _ _ ⟨.bl _, H, I, rfl, q⟩
  · obtain ⟨its, rv, t1, _⟩ := I.tuple h1
    obtain ⟨its2, rv2, t2, _⟩ := I.tuple h2
    have l1 := rv.length
    have l2 : its2.length = 0 := by have := rv2.length; simpa using this.symm
    refine SeqAt.RcNeAt.tuples (e := fun _ => true) t1 t2 hu' (fun j k1 k2 => by rw [List.size_toArray, l2] at k2; exact absurd k2 (Nat.not_lt_zero _)) _ _ _ _ ⟨.bl _, H, I, ?_, q⟩
    rw [List.all_eq_true.mpr (fun _ _ => rfl), List.size_toArray, List.size_toArray, l2, ← l1]
    cases xs <;> rfl
def rEqU (K : PySem.W.Frag) : R2 := fun x y H Q => rEqE K false x y H Q ∨ rEqP K x y H Q
def rNeU (K : PySem.W.Frag) : R2 := fun x y H Q => rEqE K true x y H Q ∨ rNeP K x y H Q
theorem op_eqU (hu : X.A.units + 200 < cLine) : OpR X (compareOp .Eq) (rEqU X.K) := (op_eqE hu).or (op_eqP hu)
theorem op_neU (hu : X.A.units + 200 < cLine) : OpR X (compareOp .NotEq) (rNeU X.K) := (op_neE hu).or (op_neP hu)
/-- x in ys, a list or a tuple of data -/
def rInP (K : PySem.W.Frag) (neg : Bool) : R2 := fun x y H Q => ∃ d ds, Dp K H x d ∧ (Dp K H y (.list ds) ∨ Dp K H y (.tuple ds)) ∧ d.canLay0 = true ∧ PyData.canLayAll0 ds = true ∧ min (PyData.depthAll ds) d.depth ≤ 190 ∧ Q (.bl (if neg then !ds.any fun z => PyData.eqv z d else ds.any fun z => PyData.eqv z d)) H
theorem op_inP (hu : X.A.units + 200 < cLine) : OpR X (compareOp .In) (rInP X.K false) := by
  intro pins s σ H x y v u Q I rx ry h
  obtain ⟨d, ds, hd, he, k1, k2, k3, q⟩ := h
  obtain ⟨as, r1⟩ := Dp.reads I d x v hd rx
  rcases he with he | he
  · obtain ⟨bs, r2⟩ := Dp.reads I (.list ds) y u he ry
    exact SeqAt.in_list_reads r2 r1 k2 k1 (by omega) ⟨.bl _, H, I, rfl, q⟩
  · obtain ⟨bs, r2⟩ := Dp.reads I (.tuple ds) y u he ry
    exact SeqAt.in_tuple_reads r2 r1 k2 k1 (by omega) ⟨.bl _, H, I, rfl, q⟩
end
/-- in, not in: a list, a tuple, a text -/
def gIn (neg : Bool) (x y : D) (S : Store) : RE D := match pyS S y with
  | some (.str b) => (match x with
    | .str a => .ok (.bl (if neg then !(!(Builtin.Str.occurrences b a 0 b.length 1).isEmpty) else !(Builtin.Str.occurrences b a 0 b.length 1).isEmpty)) S
    | _ => .no)
  | some (.list ds) => (match pyS S x with
    | some d => if d.canLay0 && PyData.canLayAll0 ds && decide (min (PyData.depthAll ds) d.depth ≤ 190) then .ok (.bl (if neg then !ds.any fun z => PyData.eqv z d else ds.any fun z => PyData.eqv z d)) S else .no
    | _ => .no)
  | some (.tuple ds) => (match pyS S x with
    | some d => if d.canLay0 && PyData.canLayAll0 ds && decide (min (PyData.depthAll ds) d.depth ≤ 190) then .ok (.bl (if neg then !ds.any fun z => PyData.eqv z d else ds.any fun z => PyData.eqv z d)) S else .no
    | _ => .no)
  | _ => .no
def rInU (K : PySem.W.Frag) (neg : Bool) : R2 := fun x y H Q => (∃ i j, x = .str i ∧ y = .str j ∧ Q (.bl (if neg then !(!(Builtin.Str.occurrences j i 0 j.length 1).isEmpty) else !(Builtin.Str.occurrences j i 0 j.length 1).isEmpty)) H) ∨ rInP K neg x y H Q
section
variable {X : Cx}
theorem op_inU (hu : X.A.units + 200 < cLine) : OpR X (compareOp .In) (rInU X.K false) := op_in_str.or (op_inP hu)
variable {K : PySem.W.Frag} {mg : Str → Option Value}
theorem eqE_at [Wo] {neg : Bool} {w : Wd} {S : Store} {H : Hp} {x y : V} {d e : D} {b : Bool} {Q : VK} (s : Sto K mg w S H) (r1 : Rp K mg w H d x) (r2 : Rp K mg w H e y) (h : eqE S d e = some b) (q : Q (.bl (if neg then !b else b)) H) : rEqE K neg x y H Q := by
  unfold eqE at h
  split at h
  · obtain ⟨ds, h1, h2⟩ := Option.map_eq_some_iff.mp h
    obtain ⟨a, vs, e1, t1, q1⟩ := seqL_at s r1 h1
    obtain ⟨a2, vs2, e2, t2, q2⟩ := seqL_at s r2 (show seqL S (.lst []) = some [] from rfl)
    unfold RpL at q2
    subst q2
    have : vs.isEmpty = ds.isEmpty := by have := q1.length; cases vs <;> cases ds <;> simp_all
    exact .inr ⟨a, a2, vs, e1, e2, .inl ⟨t1, t2⟩, by rw [this, h2]; exact q⟩
  · split at h
    · rename_i ds
      cases h
      obtain ⟨a, vs, e1, t1, q1⟩ := tup_at r1
      obtain ⟨a2, vs2, e2, t2, q2⟩ := tup_at r2
      unfold RpL at q2
      subst q2
      have : vs.isEmpty = ds.isEmpty := by have := q1.length; cases vs <;> cases ds <;> simp_all
      exact .inr ⟨a, a2, vs, e1, e2, .inr ⟨t1, t2⟩, by rw [this]; exact q⟩
    · cases h
  · split at h
    · rename_i zb _ za ds
      cases h
      obtain ⟨a, vs, e1, t1, q1⟩ := tup_at r1
      obtain ⟨a2, vs2, e2, t2, q2⟩ := tup_at r2
      obtain ⟨v2, rfl, q3⟩ := q2.one_inv
      unfold RpL at q1
      obtain ⟨v1, vt, rfl, q4, q5⟩ := q1
      rw [rp_str q3] at t2
      rw [rp_str q4] at t1
      have : vt.isEmpty = ds.isEmpty := by have := q5.length; cases vt <;> cases ds <;> simp_all
      exact .inl (.inr ⟨a, a2, vt, za, zb, e1, e2, t1, t2, by rw [this]; exact q⟩)
    · cases h
  · split at h
    · cases h
      exact .inl (.inl ⟨_, _, rp_str r1, rp_str r2, q⟩)
    · cases h
  · cases h
theorem eqP_v [Wo] : OpV K mg (rEqU K) gEq := by
  intro w S H x y d e Q E s r1 r2 h
  unfold gEq at h
  split at h
  · rename_i b hb; exact .inl (eqE_at (neg := false) s r1 r2 hb (h.ret s rp_b))
  · split at h
    · rename_i p q h1 h2
      split at h
      · rename_i hk; exact .inr ⟨p, q, pyS_at s d x p r1 h1, pyS_at s e y q r2 h2, hk, h.ret s rp_b⟩
      · exact h.elim
    · exact h.elim
theorem neP_v [Wo] : OpV K mg (rNeU K) gNe := by
  intro w S H x y d e Q E s r1 r2 h
  unfold gNe at h
  split at h
  · rename_i b hb; exact .inl (eqE_at (neg := true) s r1 r2 hb (h.ret s rp_b))
  · split at h
    · rename_i p q h1 h2
      split at h
      · rename_i hk; exact .inr ⟨p, q, pyS_at s d x p r1 h1, pyS_at s e y q r2 h2, hk, h.ret s rp_b⟩
      · exact h.elim
    · exact h.elim
theorem inU_v [Wo] {neg : Bool} : OpV K mg (rInU K neg) (gIn neg) := by
  intro w S H x y d e Q E s r1 r2 h
  unfold gIn at h
  split at h
  · rename_i b h1
    split at h
    · rename_i a
      have ye := pyS_at s e y _ r2 h1
      cases ye
      exact .inl ⟨_, _, rp_str r1, rfl, h.ret s rp_b⟩
    · exact h.elim
  · rename_i ds h1
    split at h
    · rename_i p h2
      split at h
      · rename_i hk
        simp only [Bool.and_eq_true, decide_eq_true_eq] at hk
        exact .inr ⟨p, ds, pyS_at s d x p r1 h2, .inl (pyS_at s e y _ r2 h1), hk.1.1, hk.1.2, hk.2, h.ret s rp_b⟩
      · exact h.elim
    · exact h.elim
  · rename_i ds h1
    split at h
    · rename_i p h2
      split at h
      · rename_i hk
        simp only [Bool.and_eq_true, decide_eq_true_eq] at hk
        exact .inr ⟨p, ds, pyS_at s d x p r1 h2, .inr (pyS_at s e y _ r2 h1), hk.1.1, hk.1.2, hk.2, h.ret s rp_b⟩
      · exact h.elim
    · exact h.elim
  · exact h.elim
theorem cmp_v [Wo] (p : Int → Int → Bool) : OpV K mg (rI0 fun i j => .bl (p i j)) (gCmp p) := by
  intro w S H x y d e Q E s r1 r2 h
  cases d <;> cases e <;> simp only [gCmp] at h <;> try exact h.elim
  exact ⟨_, _, rp_int r1, rp_int r2, h.ret s rp_b⟩
end
/-- whether it is None -/
def isNon (S : Store) : D → Option Bool
  | .non => some true
  | .loc n => (cellOf S n).map fun _ => false
  | _ => some false
/-- is None, is True -/
def gIs (neg : Bool) (x y : D) (S : Store) : RE D := match y with
  | .non => (match isNon S x with
    | some k => .ok (.bl (xor neg k)) S
    | none => .no)
  | .bl b => (match x with
    | .bl a => .ok (.bl (xor neg (decide (a = b)))) S
    | _ => .no)
  | _ => .no
def rIsU (neg : Bool) : R2 := fun x y H Q => (y = .non ∧ Q (.bl (xor neg (decide (x = .non)))) H) ∨ (∃ a b : Bool, x = .bl a ∧ y = .bl b ∧ Q (.bl (xor neg (decide (a = b)))) H)
section
variable {X : Cx}
theorem op_isU : OpR X (compareOp .Is) (rIsU false) := by
  have h := (op_isN (X := X)).or (op_isBl (X := X))
  intro pins s σ H x y v u Q I rx ry q
  refine h pins s σ H x y v u Q I rx ry ?_
  rcases q with ⟨a, b⟩ | ⟨a, b, c, d, e⟩
  · exact .inl ⟨a, by simpa using b⟩
  · exact .inr ⟨a, b, c, d, by simpa using e⟩
theorem op_isNotU : OpR X (compareOp .IsNot) (rIsU true) := by
  have h := (op_notN (X := X)).or (op_notBl (X := X))
  intro pins s σ H x y v u Q I rx ry q
  refine h pins s σ H x y v u Q I rx ry ?_
  rcases q with ⟨a, b⟩ | ⟨a, b, c, d, e⟩
  · exact .inl ⟨a, by simpa using b⟩
  · exact .inr ⟨a, b, c, d, by simpa using e⟩
variable {K : PySem.W.Frag} {mg : Str → Option Value}
theorem isNon_at [Wo] {w : Wd} {S : Store} {H : Hp} {x : V} {d : D} {k : Bool} (s : Sto K mg w S H) (r1 : Rp K mg w H d x) (h : isNon S d = some k) : decide (x = V.non) = k := by
  cases d with
  | loc n =>
    simp only [isNon, Option.map_eq_some_iff] at h
    obtain ⟨ds, h1, h2⟩ := h
    obtain ⟨a, xs, e, t, q⟩ := seqL_at (S := S) (d := .loc n) s r1 h1
    rw [e, ← h2]; rfl
  | non => simp only [isNon] at h; cases h; rw [rp_non r1]; rfl
  | bl b => simp only [isNon] at h; cases h; rw [rp_bl r1]; rfl
  | int b => simp only [isNon] at h; cases h; rw [rp_int r1]; rfl
  | str b => simp only [isNon] at h; cases h; rw [rp_str r1]; rfl
  | tup ds => simp only [isNon] at h; cases h; unfold Rp at r1; obtain ⟨a, xs, e, _⟩ := r1; rw [e]; rfl
  | lst ds => simp only [isNon] at h; cases h; unfold Rp at r1; obtain ⟨a, xs, e, _⟩ := r1; rw [e]; rfl
  | dic ks ds => simp only [isNon] at h; cases h; unfold Rp at r1; obtain ⟨a, vs, e, _⟩ := r1; rw [e]; rfl
  | ins c fs ds => simp only [isNon] at h; cases h; unfold Rp at r1; obtain ⟨a, C, dx, vs, e, _⟩ := r1; rw [e]; rfl
  | glo n => simp only [isNon] at h; cases h; unfold Rp at r1; obtain ⟨a, e, _⟩ := r1; rw [e]; rfl
  | exn n => simp only [isNon] at h; cases h; unfold Rp at r1; rw [r1]; rfl
  | fls ds => simp only [isNon] at h; cases h; unfold Rp at r1; obtain ⟨a, xs, e, _⟩ := r1; rw [e]; rfl
  | exo c ns ds => simp only [isNon] at h; cases h; unfold Rp at r1; obtain ⟨a, C, od, vs, e, _⟩ := r1; rw [e]; rfl
  | lam i q ob => simp only [isNon] at h; cases h; unfold Rp at r1; obtain ⟨f, c', pm, ctv, e, _⟩ := r1; rw [e]; rfl
  | clo i q ob as ds => simp only [isNon] at h; cases h; unfold Rp at r1; obtain ⟨f, c', pm, ctv, L, vs, e, _⟩ := r1; rw [e]; rfl
theorem isU_v [Wo] {neg : Bool} : OpV K mg (rIsU neg) (gIs neg) := by
  intro w S H x y d e Q E s r1 r2 h
  cases e <;> simp only [gIs] at h <;> try exact h.elim
  · split at h
    · rename_i k hk
      refine .inl ⟨rp_non r2, ?_⟩
      rw [isNon_at s r1 hk]
      exact h.ret s rp_b
    · exact h.elim
  · cases d <;> simp only [] at h <;> try exact h.elim
    exact .inr ⟨_, _, rp_bl r1, rp_bl r2, h.ret s rp_b⟩
end
end Kw
namespace Kw
open PySem PySem.Spec PyProof.Rows L2
section
variable {K : PySem.W.Frag} {mg : Str → Option Value} {w : Wd} {H : Hp} {S : Store}
theorem RpL.atI {ds : List D} {xs : List V} {i : Int} {d : D} (r : RpL K mg w H ds xs) (h : L2.atI ds i = some d) : ∃ v, L2.atI xs i = some v ∧ Rp K mg w H d v := by
  unfold L2.atI at h ⊢
  rw [← r.length]
  cases e : ixN ds.length i with
  | none => rw [e] at h; cases h
  | some j =>
    rw [e] at h
    exact r.get h
end
def gIx (x y : D) (S : Store) : RE D := match y with
  | .int i => (match x with
    | .str z => if z.length ≤ sizeLine then (match L2.atI z.cps.toList i with
      | some c => .ok (.str ⟨#[c]⟩) S
      | none => .no) else .no
    | x => (match seqA S x with
      | some ds => (match L2.atI ds i with
        | some d => .ok d S
        | none => .no)
      | none => .no))
  | _ => .no
section
variable {K : PySem.W.Frag} {mg : Str → Option Value}
theorem ix_v [Wo] : OpV K mg (rIx K) gIx := by
  intro w S H x y d e Q E s r1 r2 h
  cases e <;> simp only [gIx] at h <;> try exact h.elim
  rename_i i
  have seqs : End K mg (fun w H => Rp K mg w H) w H (match seqA S d with
      | some ds => (match L2.atI ds i with
        | some d => .ok d S
        | none => .no)
      | none => .no) Q E → rIx K x y H Q := fun h => by
    split at h
    · rename_i ds h1
      split at h
      · rename_i d' h2
        obtain ⟨a, xs, e1, t1, q1⟩ := seqA_at s r1 h1
        obtain ⟨v, h3, h4⟩ := q1.atI h2
        rcases t1 with t1 | t1
        · exact .inl ⟨a, xs, i, v, e1, rp_int r2, t1, h3, h.ret s h4⟩
        · exact .inr (.inl ⟨a, xs, i, v, e1, rp_int r2, t1, h3, h.ret s h4⟩)
      · exact h.elim
    · exact h.elim
  cases d <;> simp only [] at h
  case str z =>
    split at h
    · rename_i hl
      split at h
      · rename_i c hc
        exact .inr (.inr ⟨z, i, c, rp_str r1, rp_int r2, hl, hc, h.ret s rp_s⟩)
      · exact h.elim
    · exact h.elim
  all_goals exact seqs h
end
section
variable {X : Cx} {W : WX} {a b e : Expr} {es : List Expr} {fa fb : FE} {fs : FA} {pos : Pos}
theorem q_ix [Wo] (ha : PE X a (tF X W fa)) (hb : PE X b (tF X W fb)) (hs : PlainIx b := by intro _ _; rfl) : PE X (.Subscript a b pos) (tF X W (f2 gIx fa fb)) := PE.wk (pe_ix ix_seq ha hb hs) fun σ H Q h => two ix_v h
end
abbrev FO := FEnv → Store → RE (Option Int)
def tO [Wo] (X : Cx) (W : WX) (f : FO) : TO := fun σ H Q => ∃ w ρ S, Sto X.K X.mg w S H ∧ EnvR X.K X.mg w H ρ σ ∧ End X.K X.mg (fun _ _ (a b : Option Int) => b = a) w H (f ρ S) Q (fun c od H' => W c od σ H')
def fNone : FO := fun _ S => .ok none S
def fSome (f : FE) : FO := fun ρ S => (f ρ S).bnd fun x S1 => match x with
  | .int i => .ok (some i) S1
  | _ => .no
def cutL {α : Type} (xs : List α) (lo hi : Option Int) : List α := (xs.drop (HT.sIx xs.length 0 lo)).take (HT.sIx xs.length xs.length hi - HT.sIx xs.length 0 lo)
/-- c: the slice of a list is a cell -/
def gSl (c : Bool) (x : D) (lo hi : Option Int) (S : Store) : RE D := match x with
  | .str z => if z.length ≤ sizeLine then .ok (.str (cutS z lo hi)) S else .no
  | .tup ds => .ok (.tup (cutL ds lo hi)) S
  | x => (match seqL S x with
    | some ds => if c then .ok (.loc S.length) (S ++ [.lst (cutL ds lo hi)]) else .ok (.lst (cutL ds lo hi)) S
    | none => .no)
def fSl (g : D → Option Int → Option Int → Store → RE D) (a : FE) (l u : FO) : FE := fun ρ S => (a ρ S).bnd fun x S1 => (l ρ S1).bnd fun lo S2 => (u ρ S2).bnd fun hi S3 => g x lo hi S3
def rSlU (K : PySem.W.Frag) : V → Option Int → Option Int → Hp → VK → Prop := fun x lo hi H Q => rSlL K x lo hi H Q ∨ rSlA K x lo hi H Q ∨ rSlS x lo hi H Q
theorem sl_U {X : Cx} : SlR X (rSlU X.K) := sl_list.or (sl_tupA.or sl_str)
section
variable {K : PySem.W.Frag} {mg : Str → Option Value} {w : Wd} {H : Hp} {S : Store} {Q : VK} {E : Value → Option Addr → Hp → Prop}
theorem RpL.cut {ds : List D} {xs : List V} (r : RpL K mg w H ds xs) (lo hi : Option Int) : RpL K mg w H (cutL ds lo hi) (cutV xs lo hi) := by
  unfold cutL cutV
  rw [← r.length]
  exact (r.drop _).take _
theorem newLst [Wo] {ds : List D} {xs : List V} {p : Addr} (s : Sto K mg w S H) (r : RpL K mg w H ds xs) (np : H p = none) (h : End K mg (fun w H => Rp K mg w H) w H (.ok (.lst ds) S) Q E) : Q (.ref p) (upd H p (.lst xs)) := by
  refine h w _ _ (Ext.new np) (s.beside np) ?_
  show Rp _ _ _ _ _ _
  unfold Rp
  exact ⟨p, xs, rfl, upd_same, s.new np, RpL.ext (Ext.new np) _ _ r⟩
theorem newTup [Wo] {ds : List D} {xs : List V} {p : Addr} (s : Sto K mg w S H) (r : RpL K mg w H ds xs) (np : H p = none) (h : End K mg (fun w H => Rp K mg w H) w H (.ok (.tup ds) S) Q E) : Q (.ref p) (upd H p (.tup xs)) := by
  refine h w _ _ (Ext.new np) (s.beside np) ?_
  show Rp _ _ _ _ _ _
  unfold Rp
  exact ⟨p, xs, rfl, .inl ⟨upd_same, s.new np⟩, RpL.ext (Ext.new np) _ _ r⟩
theorem newCel [Wo] {ds : List D} {xs : List V} {p : Addr} (s : Sto K mg w S H) (r : RpL K mg w H ds xs) (np : H p = none) (h : End K mg (fun w H => Rp K mg w H) w H (.ok (.loc S.length) (S ++ [.lst ds])) Q E) : Q (.ref p) (upd H p (.lst xs)) := by
  refine h _ _ _ (Ext.cell np) (s.cellNew np r) ?_
  show Rp _ _ _ _ _ _
  unfold Rp
  refine ⟨by show S.length < (w.φ ++ [some p]).length; rw [List.length_append, s.len]; exact Nat.lt_succ_self _, fun a ha => ?_⟩
  have ha' : (w.φ ++ [some p])[S.length]? = some (some a) := ha
  rw [← s.len, List.getElem?_append_right (Nat.le_refl _), Nat.sub_self] at ha'
  simp at ha'; rw [ha']
theorem slU_v [Wo] {c : Bool} {x : V} {d : D} {lo hi : Option Int} (s : Sto K mg w S H) (r1 : Rp K mg w H d x) (h : End K mg (fun w H => Rp K mg w H) w H (gSl c d lo hi S) Q E) : rSlU K x lo hi H Q := by
  have lists : End K mg (fun w H => Rp K mg w H) w H (match seqL S d with
      | some ds => if c then .ok (.loc S.length) (S ++ [.lst (cutL ds lo hi)]) else .ok (.lst (cutL ds lo hi)) S
      | none => .no) Q E → rSlL K x lo hi H Q := fun h => by
    split at h
    · rename_i ds h1
      obtain ⟨a, xs, e1, t1, q1⟩ := seqL_at s r1 h1
      refine ⟨a, xs, e1, t1, fun p np => ?_⟩
      cases c
      · exact newLst s (q1.cut lo hi) np h
      · exact newCel s (q1.cut lo hi) np h
    · exact h.elim
  cases d <;> simp only [gSl] at h
  case str z =>
    split at h
    · rename_i hl; exact .inr (.inr ⟨z, rp_str r1, hl, h.ret s rp_s⟩)
    · exact h.elim
  case tup ds =>
    have r1' := r1
    unfold Rp at r1'
    obtain ⟨a, xs, e1, t1, q1⟩ := r1'
    refine .inr (.inl ⟨a, xs, e1, t1.sq, fun ⟨z1, z2⟩ => ?_, fun _ p np => newTup s (q1.cut lo hi) np h⟩)
    have e2 : cutL ds lo hi = ds := by
      unfold cutL
      rw [q1.length, z1, z2, List.drop_zero, ← q1.length]
      exact List.take_of_length_le (by omega)
    rw [e2] at h
    exact h.ret s (by rw [← e1]; exact r1)
  all_goals exact .inl (lists h)
end
section
variable {X : Cx} {W : WX} {a b e : Expr} {es : List Expr} {fa fb : FE} {fs : FA} {pos : Pos}
theorem q_none [Wo] : PO X none (tO X W fNone) := ⟨fun pins s σ H Q I ⟨w, ρ, S, st, en, h⟩ => po_none.run pins s σ H Q I (h.ret st rfl)⟩
theorem q_some [Wo] (h : PE X e (tF X W fa)) : PO X (some e) (tO X W (fSome fa)) := ⟨fun pins s σ H Q I ⟨w, ρ, S, st, en, hh⟩ => (po_some h).run pins s σ H Q I (by
  refine ⟨w, ρ, S, st, en, (End.bind (R := fun w H => Rp X.K X.mg w H) hh).imp ?_ (fun _ _ _ z => z)⟩
  rintro x H1 ⟨w1, S1, d, e1, s1, r1, h1⟩
  cases d <;> try exact h1.elim
  exact ⟨_, rp_int r1, h1.ret s1 rfl⟩)⟩
theorem q_slice [Wo] {c : Bool} {lo hi : Option Expr} {fl fu : FO} {p2 : Pos} (he : PE X e (tF X W fa)) (hl : PO X lo (tO X W fl)) (hu : PO X hi (tO X W fu)) : PE X (.Subscript e (.Slice lo hi none p2) pos) (tF X W (fSl (gSl c) fa fl fu)) :=
  PE.wk (pe_slice sl_U he hl hu) fun σ H Q ⟨w, ρ, S, s, en, h⟩ => by
    refine ⟨w, ρ, S, s, en, (End.bind h).imp ?_ (fun _ _ _ z => z)⟩
    rintro x H1 ⟨w1, S1, d, e1, s1, r1, h1⟩
    refine ⟨w1, ρ, S1, s1, en.ext e1, (End.bind h1).imp ?_ (fun _ _ _ z => z)⟩
    rintro l H2 ⟨w2, S2, l', e2, s2, r2, h2⟩
    cases r2
    refine ⟨w2, ρ, S2, s2, (en.ext e1).ext e2, (End.bind h2).imp ?_ (fun _ _ _ z => z)⟩
    rintro u H3 ⟨w3, S3, u', e3, s3, r3, h3⟩
    cases r3
    exact slU_v s3 (Rp.ext e3 _ _ (Rp.ext e2 _ _ r1)) h3
end
def gLen : List D → Store → RE D := fun ds S => match ds with
  | [.str z] => if z.length ≤ sizeLine then .ok (.int z.length) S else .no
  | [d] => (match seqA S d with
    | some xs => .ok (.int xs.length) S
    | none => .no)
  | _ => .no
def gInt : List D → Store → RE D := fun ds S => match ds with
  | [.int i] => .ok (.int i) S
  | [.bl k] => .ok (.int (if k then 1 else 0)) S
  | _ => .no
def gList (c : Bool) : List D → Store → RE D := fun ds S => match ds with
  | [d] => (match seqA S d with
    | some xs => if c then .ok (.loc S.length) (S ++ [.lst xs]) else .ok (.lst xs) S
    | none => .no)
  | _ => .no
def gTuple : List D → Store → RE D := fun ds S => match ds with
  | [d] => (match seqA S d with
    | some xs => .ok (.tup xs) S
    | none => .no)
  | _ => .no
def blsOf : List D → Option (List Bool)
  | [] => some []
  | .bl b :: r => (blsOf r).map (b :: ·)
  | _ => none
def gAll : List D → Store → RE D := fun ds S => match ds with
  | [d] => (match (seqL S d).bind blsOf with
    | some bs => .ok (.bl (bs.all id)) S
    | none => .no)
  | _ => .no
section
variable {K : PySem.W.Frag} {mg : Str → Option Value}
theorem len_v [Wo] : CallV K mg (fun xs H Q => ∃ x n, xs = [x] ∧ LenV K x H n ∧ Q (.int n) H) gLen := by
  intro w S H xs ds Q E s r h
  unfold gLen at h
  split at h
  · rename_i z
    split at h
    · rename_i hl
      obtain ⟨v, rfl, r1⟩ := r.one_inv
      exact ⟨v, z.length, rfl, by rw [rp_str r1]; exact ⟨hl, rfl⟩, h.ret s rp_i⟩
    · exact h.elim
  · rename_i d _
    split at h
    · rename_i ys h1
      obtain ⟨v, rfl, r1⟩ := r.one_inv
      obtain ⟨a, vs, e1, t1, q1⟩ := seqA_at s r1 h1
      refine ⟨v, ys.length, rfl, ?_, h.ret s rp_i⟩
      rw [e1, q1.length]
      rcases t1 with t1 | t1
      · exact .inl ⟨vs, t1, rfl⟩
      · exact .inr ⟨vs, t1, rfl⟩
    · exact h.elim
  · exact h.elim
theorem int_v [Wo] : CallV K mg (fun xs H Q => (∃ i, xs = [.int i] ∧ Q (.int i) H) ∨ ∃ k, xs = [.bl k] ∧ Q (.int (if k then 1 else 0)) H) gInt := by
  intro w S H xs ds Q E s r h
  unfold gInt at h
  split at h
  · obtain ⟨v, rfl, r1⟩ := r.one_inv
    exact .inl ⟨_, by rw [rp_int r1], h.ret s rp_i⟩
  · obtain ⟨v, rfl, r1⟩ := r.one_inv
    exact .inr ⟨_, by rw [rp_bl r1], h.ret s rp_i⟩
  · exact h.elim
theorem list_v [Wo] {c : Bool} : CallV K mg (fun xs H Q => ∃ p ys, xs = [.ref p] ∧ (SqL K H p ys ∨ SqT K H p ys) ∧ ∀ l, H l = none → Q (.ref l) (upd H l (.lst ys))) (gList c) := by
  intro w S H xs ds Q E s r h
  unfold gList at h
  split at h
  · split at h
    · rename_i ys h1
      obtain ⟨v, rfl, r1⟩ := r.one_inv
      obtain ⟨a, vs, e1, t1, q1⟩ := seqA_at s r1 h1
      refine ⟨a, vs, by rw [e1], t1, fun p np => ?_⟩
      cases c
      · exact newLst s q1 np h
      · exact newCel s q1 np h
    · exact h.elim
  · exact h.elim
theorem tuple_v [Wo] : CallV K mg (fun xs H Q => ∃ p ys, xs = [.ref p] ∧ ((SqL K H p ys ∧ ∀ l, H l = none → Q (.ref l) (upd H l (.tup ys))) ∨ (SqT K H p ys ∧ Q (.ref p) H))) gTuple := by
  intro w S H xs ds Q E s r h
  unfold gTuple at h
  split at h
  · rename_i d
    split at h
    · rename_i ys h1
      obtain ⟨v, rfl, r1⟩ := r.one_inv
      cases d <;> simp only [seqA] at h1 <;> try (cases h1; done)
      · cases h1
        obtain ⟨a, vs, e1, t1, q1⟩ := tup_at r1
        exact ⟨a, vs, by rw [e1], .inr ⟨t1, h.ret s (by rw [← e1]; exact r1)⟩⟩
      · cases h1
        obtain ⟨a, vs, e1, t1, q1⟩ := seqL_at (S := S) s r1 rfl
        exact ⟨a, vs, by rw [e1], .inl ⟨t1, fun p np => newTup s q1 np h⟩⟩
      · rename_i n
        obtain ⟨a, vs, e1, t1, q1⟩ := seqL_at (S := S) (d := .loc n) s r1 h1
        exact ⟨a, vs, by rw [e1], .inl ⟨t1, fun p np => newTup s q1 np h⟩⟩
      · rename_i ds'
        cases h1
        obtain ⟨a, vs, e1, t1, q1⟩ := seqL_at (S := S) (d := .fls ys) s r1 rfl
        exact ⟨a, vs, by rw [e1], .inl ⟨t1, fun p np => newTup s q1 np h⟩⟩
    · exact h.elim
  · exact h.elim
theorem blsOf_at {w : Wd} {H : Hp} : ∀ {ds : List D} {vs : List V} {bs : List Bool}, RpL K mg w H ds vs → blsOf ds = some bs → vs = bs.map V.bl
  | [], vs, bs, r, h => by unfold RpL at r; simp only [blsOf] at h; cases h; rw [r]; rfl
  | d :: ds, vs, bs, r, h => by
    unfold RpL at r
    obtain ⟨v, vs', e, r1, r2⟩ := r
    cases d <;> simp only [blsOf] at h <;> try (cases h; done)
    simp only [Option.map_eq_some_iff] at h
    obtain ⟨b', h1, h2⟩ := h
    rw [e, ← h2, rp_bl r1, blsOf_at r2 h1]; rfl
theorem all_v [Wo] : CallV K mg (rAll K) gAll := by
  intro w S H xs ds Q E s r h
  unfold gAll at h
  split at h
  · split at h
    · rename_i bs h1
      obtain ⟨v, rfl, r1⟩ := r.one_inv
      simp only [Option.bind_eq_some_iff] at h1
      obtain ⟨ys, h2, h3⟩ := h1
      obtain ⟨a, vs, e1, t1, q1⟩ := seqL_at s r1 h2
      exact ⟨a, bs, by rw [e1], by rw [← blsOf_at q1 h3]; exact t1, h.ret s rp_b⟩
    · exact h.elim
  · exact h.elim
end
def tyD (S : Store) : D → Option String
  | .non => some "NoneType"
  | .bl _ => some "bool"
  | .int _ => some "int"
  | .str _ => some "str"
  | .tup _ => some "tuple"
  | .lst _ => some "list"
  | .fls _ => some "list"
  | .dic _ _ => some "dict"
  | .loc n => (cellOf S n).map fun _ => "list"
  | _ => none
def isiB (t T : String) : Bool := t == T || (t == "bool" && T == "int")
def fIsi (T : String) (f : FE) : FE := fun ρ S => (f ρ S).bnd fun x S1 => match tyD S1 x with
  | some t => .ok (.bl (isiB t T)) S1
  | none => .no
theorem tyX_of [Wo] {K : PySem.W.Frag} {mg : Str → Option Value} {w : Wd} {H : Hp} {S : Store} {d : D} {v : V} {t : String} (s : Sto K mg w S H) (r : Rp K mg w H d v) (h : tyD S d = some t) : TyX K H v (.type t) := by
  cases d with
  | non => simp only [tyD] at h; cases h; rw [rp_non r]; exact .base .non
  | bl b => simp only [tyD] at h; cases h; rw [rp_bl r]; exact .base (.bl b)
  | int b => simp only [tyD] at h; cases h; rw [rp_int r]; exact .base (.int b)
  | str b => simp only [tyD] at h; cases h; rw [rp_str r]; exact .base (.str b)
  | tup ds =>
    simp only [tyD] at h; cases h
    unfold Rp at r
    obtain ⟨a, xs, e, t, _⟩ := r
    rw [e]
    rcases t with t | ⟨o, its, n, h1, h2, _⟩
    · exact .base (.tup t.1)
    · exact .kTuple h1 h2
  | lst ds =>
    simp only [tyD] at h; cases h
    unfold Rp at r
    obtain ⟨a, xs, e, t, _⟩ := r
    rw [e]; exact .base (.lst t)
  | dic ks ds =>
    simp only [tyD] at h; cases h
    unfold Rp at r
    obtain ⟨a, xs, e, t, _⟩ := r
    rw [e]; exact .base (.dK t)
  | loc n =>
    simp only [tyD, Option.map_eq_some_iff] at h
    obtain ⟨ds, h1, h2⟩ := h
    obtain ⟨a, xs, h3, h4, h5⟩ := cellOf_at s h1
    unfold Rp at r
    rw [r.2 a h3, ← h2]
    rcases h4 with h4 | ⟨o, h4⟩
    · exact .base (.lst h4)
    · exact .base (.frz h4)
  | fls ds =>
    simp only [tyD] at h; cases h
    unfold Rp at r
    obtain ⟨a, xs, e, t, _⟩ := r
    rw [e]
    rcases t with ⟨o, t, _⟩ | ⟨o, its, n, h1, h2, _⟩
    · exact .base (.frz t)
    · exact .kList h1 h2
  | ins _ _ _ => simp [tyD] at h
  | glo _ => simp [tyD] at h
  | exn _ => simp [tyD] at h
  | exo _ _ _ => simp [tyD] at h
  | lam _ _ _ => simp [tyD] at h
  | clo _ _ _ _ _ => simp [tyD] at h
theorem kitB_ok {t T : String} (ht : t ∈ ["NoneType", "bool", "int", "str", "tuple", "list", "dict"]) (hT : T ∈ ["bool", "int", "str", "tuple", "list", "dict"]) : kitB t T = some (isiB t T) := by
  have key : ∀ t ∈ ["NoneType", "bool", "int", "str", "tuple", "list", "dict"], ∀ T ∈ ["bool", "int", "str", "tuple", "list", "dict"], kitB t T = some (isiB t T) := by decide +kernel
  exact key t ht T hT
theorem tyD_mem {S : Store} {d : D} {t : String} (h : tyD S d = some t) : t ∈ ["NoneType", "bool", "int", "str", "tuple", "list", "dict"] := by
  cases d <;> simp only [tyD, Option.map_eq_some_iff] at h <;> first | (cases h; decide) | (obtain ⟨_, _, rfl⟩ := h; decide) | (cases h)
section
variable {X : Cx} {W : WX} {a b e : Expr} {es : List Expr} {fa fb : FE} {fs : FA} {pos : Pos}
theorem q_isi [Wo] {T : String} {x : Str} {p q : Pos} (hg : Gl X "isinstance") (hm : X.mg "isinstance" = none) (hgT : Gl X x) (hmT : X.mg x = none) (hvT : bootBuiltins x = some (.type T)) (hT : T ∈ ["bool", "int", "str", "tuple", "list", "dict"]) (ha : PE X a (tF X W fa))
    (hn : x ≠ "__name__" := by decide) (hd : (x == ("__debug__" : Str)) = false := by decide)
    (h1 : starEach [a, .Name x q] X.env = (false, eval a X.env) :: starEach [.Name x q] X.env := by rfl) (h2 : starEach [.Name x q] X.env = (false, eval (.Name x q) X.env) :: starEach [] X.env := by rfl) (hpl : (backTo pos (starEach [.Name x q] X.env)).any (·.1) = false := by rfl) :
    PE X (.Call (.Name "isinstance" p) [a, .Name x q] [] pos) (tF X W (fIsi T fa)) := by
  have hx : PE X (.Name x q) (tC (.ty T)) := pe_bltn hgT hmT hvT rfl hn hd
  refine PE.wk (pe_callB call_isi hg hm (by decide +kernel) (pa_cons ha (pa_cons hx pa_nil h2) h1) (by decide) (by decide) h1 hpl) fun σ H Q ⟨w, ρ, S, s, en, h⟩ => ?_
  refine ⟨w, ρ, S, s, en, (End.bind (R := fun w H => Rp X.K X.mg w H) h).imp ?_ (fun _ _ _ z => z)⟩
  rintro v H1 ⟨w1, S1, d, e1, s1, r1, h3⟩
  split at h3
  · rename_i t ht
    exact ⟨v, .ty T, .type t, .type T, isiB t T, rfl, .ty T, tyX_of s1 r1 ht, kit_ty (kitB_ok (tyD_mem ht) hT), h3.ret s1 rp_b⟩
  · exact h3.elim
end
section
variable {K : PySem.W.Frag} {mg : Str → Option Value} {w : Wd} {H : Hp} {S : Store}
theorem Ext.write {n : Nat} {l : Addr} {o : HO} (hw : w.φ[n]? = some (some l)) : Ext w H w (upd H l o) := ⟨fun a u e n => by
  have : a ≠ l := fun z => by subst z; exact n (List.mem_of_getElem? hw)
  rw [upd_ne this]; exact e, Nat.le_refl _, fun _ _ h _ => h, fun _ h => .inl h, rfl⟩
theorem Sto.write [Wo] {n : Nat} {l : Addr} {ds : List D} {xs : List V} (s : Sto K mg w S H) (hw : w.φ[n]? = some (some l)) (hn : n < S.length) (r : RpL K mg w H ds xs) : Sto K mg w (S.set n (.lst ds)) (upd H l (.lst xs)) := by
  have ex : Ext w H w (upd H l (.lst xs)) := Ext.write hw
  refine ⟨by rw [List.length_set]; exact s.len, s.nd, fun a ha => ⟨upd_some (s.ap a ha).1, (s.ap a ha).2⟩, fun m c hc => ?_⟩
  by_cases e : m = n
  · subst e
    rw [List.getElem?_set_self hn] at hc
    cases hc
    exact ⟨l, xs, hw, upd_same, RpL.ext ex _ _ r⟩
  · rw [List.getElem?_set_ne (Ne.symm e)] at hc
    refine CellR.ext ex (fun a ha => ⟨ha, ?_⟩) id (s.cell m c hc)
    have : a ≠ l := fun z => by subst z; exact e (s.nd m n a ha hw)
    rw [upd_ne this]
theorem cellM_lt {n : Nat} {ds : List D} (h : cellM S n = some ds) : n < S.length := by
  unfold cellM at h
  split at h
  · rename_i e he; exact (List.getElem?_eq_some_iff.mp he).1
  · cases h
/-- a cell is written -/
theorem wrote [Wo] {n : Nat} {ds ds' : List D} {xs' : List V} {x : V} {Q : VK} {E : Value → Option Addr → Hp → Prop} {d : D} {v : V} (s : Sto K mg w S H) (r : Rp K mg w H (.loc n) x) (h : cellM S n = some ds) (r' : RpL K mg w H ds' xs') (rv : Rp K mg w H d v)
    (he : End K mg (fun w H => Rp K mg w H) w H (.ok d (S.set n (.lst ds'))) Q E) : ∀ l, x = .ref l → Q v (upd H l (.lst xs')) := fun l el => by
  obtain ⟨a, xs, h1, h2, h3⟩ := cellM_at s h
  have e := r.2 a h1
  rw [el] at e; cases e
  exact he w _ v (Ext.write h1) (s.write h1 (cellM_lt h) r') (Rp.ext (Ext.write h1) _ _ rv)
end
def MtV [Wo] (K : PySem.W.Frag) (mg : Str → Option Value) (r : V → List V → Hp → VK → Prop) (g : D → List D → Store → RE D) : Prop :=
  ∀ (w : Wd) (S : Store) (H : Hp) (x : V) (xs : List V) (d : D) (ds : List D) (Q : VK) (E : Value → Option Addr → Hp → Prop), Sto K mg w S H → Rp K mg w H d x → RpL K mg w H ds xs → End K mg (fun w H => Rp K mg w H) w H (g d ds S) Q E → r x xs H Q
def gAppend (x : D) (ds : List D) (S : Store) : RE D := match x, ds with
  | .loc n, [y] => (match cellM S n with
    | some xs => if xs.length < sizeLine then .ok .non (S.set n (.lst (xs ++ [y]))) else .no
    | none => .no)
  | _, _ => .no
def gExtend (x : D) (ds : List D) (S : Store) : RE D := match x, ds with
  | .loc n, [y] => (match cellM S n, seqM S y with
    | some xs, some ys => if xs.length + ys.length ≤ sizeLine then .ok .non (S.set n (.lst (xs ++ ys))) else .no
    | _, _ => .no)
  | _, _ => .no
def gPop0 (x : D) (ds : List D) (S : Store) : RE D := match x, ds with
  | .loc n, [] => (match cellM S n with
    | some xs => (match xs[xs.length - 1]? with
      | some y => .ok y (S.set n (.lst xs.dropLast))
      | none => .no)
    | none => .no)
  | _, _ => .no
section
variable {K : PySem.W.Frag} {mg : Str → Option Value}
theorem RpL.dropLast {w : Wd} {H : Hp} {ds : List D} {xs : List V} (r : RpL K mg w H ds xs) : RpL K mg w H ds.dropLast xs.dropLast := by
  rw [List.dropLast_eq_take, List.dropLast_eq_take, r.length]; exact r.take _
theorem RpL.reverse {w : Wd} {H : Hp} : ∀ {ds : List D} {xs : List V}, RpL K mg w H ds xs → RpL K mg w H ds.reverse xs.reverse
  | [], xs, h => by unfold RpL at h; rw [h]; exact RpL.nil
  | d :: ds, xs, h => by
    unfold RpL at h
    obtain ⟨v, r, e1, h1, h2⟩ := h
    rw [e1, List.reverse_cons, List.reverse_cons]
    exact (RpL.reverse h2).append (RpL.one h1)
theorem append_v [Wo] : MtV K mg rAppend gAppend := by
  intro w S H x xs d ds Q E s r1 r2 h
  unfold gAppend at h
  split at h
  · rename_i n y
    split at h
    · rename_i zs hz
      split at h
      · rename_i hl
        obtain ⟨v, rfl, r3⟩ := r2.one_inv
        obtain ⟨l, vs, e1, t1, q1⟩ := seqM_at (S := S) (d := .loc n) s r1 hz
        exact ⟨l, vs, v, e1, rfl, t1, by rw [← q1.length]; exact hl, wrote s r1 hz (q1.append (RpL.one r3)) rp_n h l e1⟩
      · exact h.elim
    · exact h.elim
  · exact h.elim
theorem extend_v [Wo] : MtV K mg rExtend gExtend := by
  intro w S H x xs d ds Q E s r1 r2 h
  unfold gExtend at h
  split at h
  · rename_i n y
    split at h
    · rename_i zs ys hz hy
      split at h
      · rename_i hl
        obtain ⟨v, rfl, r3⟩ := r2.one_inv
        obtain ⟨l, vs, e1, t1, q1⟩ := seqM_at (S := S) (d := .loc n) s r1 hz
        obtain ⟨b, us, e2, t2, q2⟩ := seqM_at s r3 hy
        exact ⟨l, b, vs, us, e1, by rw [e2], t1, t2, by rw [← q1.length, ← q2.length]; exact hl, wrote s r1 hz (q1.append q2) rp_n h l e1⟩
      · exact h.elim
    · exact h.elim
  · exact h.elim
theorem pop0_v [Wo] : MtV K mg rPop gPop0 := by
  intro w S H x xs d ds Q E s r1 r2 h
  unfold gPop0 at h
  split at h
  · rename_i n
    split at h
    · rename_i zs hz
      split at h
      · rename_i y hy
        obtain ⟨l, vs, e1, t1, q1⟩ := seqM_at (S := S) (d := .loc n) s r1 hz
        obtain ⟨u, h3, h4⟩ := q1.get hy
        unfold RpL at r2
        exact ⟨l, vs, u, e1, r2, t1, by rw [← q1.length]; exact h3, wrote s r1 hz q1.dropLast h4 h l e1⟩
      · exact h.elim
    · exact h.elim
  · exact h.elim
end
/-- o.m(..), o a list -/
def fMth (g : D → List D → Store → RE D) (o : FE) (a : FA) : FE := fun ρ S => (o ρ S).bnd fun x S1 => match seqL S1 x with
  | some _ => (a ρ S1).bnd fun ds S2 => g x ds S2
  | none => .no
section
variable {X : Cx} {W : WX} {o e : Expr} {es : List Expr} {fo : FE} {fs : FA} {name : Str} {apos cpos : Pos} {id : String} {r : V → List V → Hp → VK → Prop} {g : D → List D → Store → RE D}
theorem q_mth [Wo] (slot : Slot "list" name id) (hty : typeOf (.builtin id) = pure (.type "method_descriptor")) (hm : MtR X id r) (hv : MtV X.K X.mg r g) (ho : PE X o (tF X W fo)) (ha : PA X (e :: es) (tA X W fs))
    (hbase : attributeBase o name X.env (eval o X.env) = eval o X.env := by rfl)
    (hfew : ((backTo cpos (starEach (e :: es) X.env)).all (fun x => !x.1) && (backToKw cpos (keywordEach [] X.env)).all (fun x => x.1.isSome)
      && decide ((e :: es).length + ([] : List Keyword).length + (if ([] : List Keyword).isEmpty then 0 else 1) < 30)) = true := by rfl)
    (hline : (apos.endLine == cpos.line) = true := by rfl) (hs : starEach (e :: es) X.env = (false, eval e X.env) :: starEach es X.env := by rfl) (hplain : (backTo cpos (starEach es X.env)).any (·.1) = false := by rfl) :
    PE X (.Call (.Attribute o name apos) (e :: es) [] cpos) (tF X W (fMth g fo fs)) :=
  PE.wk (pe_bm PySem.F.plainAttrs_list slot hty hm ho ha hbase hfew hline hs hplain) fun σ H Q ⟨w, ρ, S, s, en, h⟩ => by
    refine ⟨w, ρ, S, s, en, (End.bind (R := fun w H => Rp X.K X.mg w H) h).imp ?_ (fun _ _ _ z => z)⟩
    rintro x H1 ⟨w1, S1, d, e1, s1, r1, h1⟩
    split at h1
    · rename_i ys hy
      obtain ⟨a, vs, e2, t2, q2⟩ := seqL_at s1 r1 hy
      refine ⟨by rw [e2]; exact .inl ⟨rfl, vs, t2⟩, w1, ρ, S1, s1, en.ext e1, (End.bind (R := fun w H => RpL X.K X.mg w H) h1).imp ?_ (fun _ _ _ z => z)⟩
      rintro us H2 ⟨w2, S2, ds, e3, s2, r2, h2⟩
      exact hv w2 S2 H2 x us d ds Q _ s2 (Rp.ext e3 _ _ r1) r2 h2
    · exact h1.elim
theorem q_mth0 [Wo] (slot : Slot "list" name id) (hty : typeOf (.builtin id) = pure (.type "method_descriptor")) (hm : MtR X id r) (hv : MtV X.K X.mg r g) (ho : PE X o (tF X W fo))
    (hbase : attributeBase o name X.env (eval o X.env) = eval o X.env := by rfl) (hline : (apos.endLine == cpos.line) = true := by rfl) :
    PE X (.Call (.Attribute o name apos) [] [] cpos) (tF X W (fMth g fo fNil)) :=
  PE.wk (pe_bm0 PySem.F.plainAttrs_list slot hty hm ho hbase hline) fun σ H Q ⟨w, ρ, S, s, en, h⟩ => by
    refine ⟨w, ρ, S, s, en, (End.bind (R := fun w H => Rp X.K X.mg w H) h).imp ?_ (fun _ _ _ z => z)⟩
    rintro x H1 ⟨w1, S1, d, e1, s1, r1, h1⟩
    split at h1
    · rename_i ys hy
      obtain ⟨a, vs, e2, t2, q2⟩ := seqL_at s1 r1 hy
      exact ⟨by rw [e2]; exact .inl ⟨rfl, vs, t2⟩, hv w1 S1 H1 x [] d [] Q _ s1 r1 RpL.nil h1⟩
    · exact h1.elim
end
end Kw
namespace Kw
open PySem PySem.Spec PyProof.Rows L2
abbrev FF := List D → Store → RE D
def spF [Wo] (K : PySem.W.Frag) (mg : Str → Option Value) (m : Nat) (f : FF) : Sp := fun vs H Q E => ∃ w S ds, Sto K mg w S H ∧ RpL K mg w H ds vs ∧ ds.length = m ∧ End K mg (fun w H => Rp K mg w H) w H (f ds S) Q E
/-- room, and nothing is being shown -/
structure RoomG (k : Nat) (A : Around) : Prop where
  rm : Room k A
  gd : A.guards = some []
theorem RoomG.down {k : Nat} {A : Around} (r : RoomG (k + 1) A) (env : Env) : RoomG k (A.deeper env) := ⟨r.rm.deeper env, r.gd⟩
/-- a def's promise where nothing is being shown -/
structure FnG (P : Program) (w : World) (K : PySem.W.Frag) (mg : Str → Option Value) (base : Heap) (k : Nat) (a : Addr) (fd : FuncData) (ps : List Str) (sp : Sp) : Prop where
  size : ∀ vs H Q E, sp vs H Q E → vs.length = ps.length
  runs : ∀ (A : Around) (stk : List Env) (s : Shared) (H : Hp) (ar : Args) (us : List Value) (vs : List V) (Q : VK) (E : XK), RoomG k A → Env0 P w K mg base A stk s H → BindsTo s fd ar (ps.zip us) → Vals vs us → sp vs H Q E →
    codeAny (model P w) A (.call (.ref a) ar) (CR (L2.CX P w) stk P w H s Q E) s
theorem FnG.weak {P : Program} {w : World} {K : PySem.W.Frag} {mg : Str → Option Value} {base : Heap} {k : Nat} {a : Addr} {fd : FuncData} {ps : List Str} {sp sp' : Sp} (F : FnG P w K mg base k a fd ps sp) (h : ∀ vs H Q E, sp' vs H Q E → sp vs H Q E) : FnG P w K mg base k a fd ps sp' :=
  ⟨fun vs H Q E q => F.size vs H Q E (h _ _ _ _ q), fun A stk s H ar us vs Q E hr e0 hb hv hs => F.runs A stk s H ar us vs Q E hr e0 hb hv (h _ _ _ _ hs)⟩
/-- the name x stands for a def that computes f -/
def Cal [Wo] (P : Program) (w : World) (K : PySem.W.Frag) (mg : Str → Option Value) (base : Heap) (k : Nat) (x : Str) (f : FF) : Prop :=
  ∃ a fd ps, FnG P w K mg base k a fd ps (spF K mg ps.length f) ∧ mg x = some (.ref a) ∧ PySem.W.keepIn K (.ref a) = true ∧ Binds K fd ps [] ∧ (∀ ds S, ds.length ≠ ps.length → f ds S = .no) ∧ ps = fd.params.args.map (·.arg) ∧ ∃ oc od osl, K.lookup a = some ⟨oc, od, .func fd, osl⟩
section
variable {X : Cx} {W : WX} {e : Expr} {es : List Expr} {fs : FA} {pos : Pos} {k : Nat} {x : Str} {f : FF} {p : Pos}
theorem run_g {a : Addr} {fd : FuncData} {ps : List Str} {sp : Sp} {pins : List (Addr × Obj)} {σ : L2.St} {H : Hp} {s : Shared} {Q : VK} {us : List Value} {vs : List V} (F : FnG X.prog X.w X.K X.mg X.base k a fd ps sp) (hr : RoomG k X.A) (tk : Takes X W)
    (I : Inv X pins σ H s) (r : Vals vs us) (hbd : BindsTo s fd ⟨us, []⟩ (ps.zip us)) (h : sp vs H Q (WE W σ)) : wpAny (model X.prog X.w) X.A (call (.ref a) us) (EP X pins σ Q) X.xe s :=
  wpAny_call (codeAny_mono (F.runs X.A X.stack s H ⟨us, []⟩ us vs Q (WE W σ) hr I.env0 hbd r h) fun res s' hq => by
    match res, hq with
    | .error e, hq => exact passAt tk σ pins H s e s' I hq
    | .ok (.ret u), hq => exact I.after hq
    | .ok .next, hq => exact hq.elim
    | .ok .brk, hq => exact hq.elim
    | .ok .cont, hq => exact hq.elim)
theorem binds0 {K : PySem.W.Frag} {fd : FuncData} {ps : List Str} (hb : Binds K fd ps []) {s : Shared} {us : List Value} (kin : K.In s.heap) (hl : us.length = ps.length) : BindsTo s fd ⟨us, []⟩ (ps.zip us) := by
  have z := hb s us kin (by simpa using hl)
  simpa using z
theorem q_call [Wo] (C : Cal X.prog X.w X.K X.mg X.base k x f) (hr : RoomG k X.A) (tk : Takes X W) (hg : Gl X x) (ha : PA X (e :: es) (tA X W fs)) (hdb : (x == ("__debug__" : Str)) = false := by decide)
    (he : starEach (e :: es) X.env = (false, eval e X.env) :: starEach es X.env := by rfl) (hpl : (backTo pos (starEach es X.env)).any (·.1) = false := by rfl) : PE X (.Call (.Name x p) (e :: es) [] pos) (tF X W (fArg f fs)) := by
  obtain ⟨a, fd, ps, F, hm, hk, hb, ar, _⟩ := C
  refine ⟨fun pins s σ H Q I ⟨w, ρ, S, s0, en, h⟩ => wpAny_Call_Name_kw (ld_glob I hg hm ?_ hdb)⟩
  refine PySem.W.callWith_K (h₀ := X.base) I.ok.mod.kin hk (thn (ha.run pos pins s σ H (fun vs H1 => spF X.K X.mg ps.length f vs H1 Q (WE W σ)) I
    ⟨w, ρ, S, s0, en, (End.bind (R := fun w H => RpL X.K X.mg w H) h).imp ?_ (fun _ _ _ z => z)⟩) fun us s1 ⟨vs, H1, I1, r, q⟩ => ⟨I1.kIn, run_g (us := us) F hr tk I1 r (binds0 (us := us) hb I1.kIn (by rw [← r.length]; exact F.size _ _ _ _ q)) q⟩) he hpl
  rintro vs H1 ⟨w1, S1, ds, e1, s1, r1, h1⟩
  refine ⟨w1, S1, ds, s1, r1, ?_, h1⟩
  apply Classical.byContradiction
  intro hn
  rw [ar ds S1 hn] at h1
  exact h1
end
inductive RS where
  | nx (ρ : FEnv) (S : Store) | rt (d : D) (S : Store) | bk (ρ : FEnv) (S : Store) | ct (ρ : FEnv) (S : Store) | ex (x : Ex) (ρ : FEnv) (S : Store) | no
abbrev FS := FEnv → Store → RS
def RE.toS {α : Type} (m : RE α) (ρ : FEnv) (k : α → Store → RS) : RS := match m with
  | .ok a S => k a S
  | .ex x S => .ex x ρ S
  | .no => .no
def RS.bnd (m : RS) (k : FS) : RS := match m with
  | .nx ρ S => k ρ S
  | r => r
def EndS [Wo] (K : PySem.W.Frag) (mg : Str → Option Value) (w : Wd) (H : Hp) (r : RS) (D : Ends) (W : WX) : Prop := match r with
  | .nx ρ S => ∀ w' H' σ', Ext w H w' H' → Sto K mg w' S H' → EnvR K mg w' H' ρ σ' → D.nx σ' H'
  | .rt d S => ∀ w' H' v, Ext w H w' H' → Sto K mg w' S H' → Rp K mg w' H' d v → D.rt v H'
  | .bk ρ S => ∀ w' H' σ', Ext w H w' H' → Sto K mg w' S H' → EnvR K mg w' H' ρ σ' → D.bk σ' H'
  | .ct ρ S => ∀ w' H' σ', Ext w H w' H' → Sto K mg w' S H' → EnvR K mg w' H' ρ σ' → D.ct σ' H'
  | .ex x ρ S => ∀ w' H' σ' c od, Ext w H w' H' → Sto K mg w' S H' → EnvR K mg w' H' ρ σ' → ExR K mg w' H' x c od → W c od σ' H'
  | .no => False
def tS [Wo] (X : Cx) (W : WX) (f : FS) : TS := fun D σ H => ∃ w ρ S, Sto X.K X.mg w S H ∧ EnvR X.K X.mg w H ρ σ ∧ EndS X.K X.mg w H (f ρ S) D W
section
variable {K : PySem.W.Frag} {mg : Str → Option Value} {w w1 : Wd} {H H1 : Hp} {r : RS} {D D' : Ends} {W W' : WX} {ρ : FEnv} {σ : L2.St} {S : Store}
theorem EndS.on [Wo] (x : Ext w H w1 H1) (h : EndS K mg w H r D W) : EndS K mg w1 H1 r D W := by
  unfold EndS at h ⊢
  split
  · exact fun w' H' b e s k => h w' H' b (x.trans e) s k
  · exact fun w' H' b e s k => h w' H' b (x.trans e) s k
  · exact fun w' H' b e s k => h w' H' b (x.trans e) s k
  · exact fun w' H' b e s k => h w' H' b (x.trans e) s k
  · exact fun w' H' b c od e s k l => h w' H' b c od (x.trans e) s k l
  · exact h
theorem EndS.imp [Wo] (h : EndS K mg w H r D W) (h1 : ∀ σ H, D.nx σ H → D'.nx σ H) (h2 : ∀ v H, D.rt v H → D'.rt v H) (h3 : ∀ σ H, D.bk σ H → D'.bk σ H) (h4 : ∀ σ H, D.ct σ H → D'.ct σ H) (h5 : ∀ c od σ H, W c od σ H → W' c od σ H) : EndS K mg w H r D' W' := by
  unfold EndS at h ⊢
  split
  · exact fun w' H' b e s k => h1 _ _ (h w' H' b e s k)
  · exact fun w' H' b e s k => h2 _ _ (h w' H' b e s k)
  · exact fun w' H' b e s k => h3 _ _ (h w' H' b e s k)
  · exact fun w' H' b e s k => h4 _ _ (h w' H' b e s k)
  · exact fun w' H' b c od e s k l => h5 _ _ _ _ (h w' H' b c od e s k l)
  · exact h
theorem EndS.of [Wo] {α β : Type} {R : Wd → Hp → α → β → Prop} {m : RE α} {k : α → Store → RS} (h : EndS K mg w H (m.toS ρ k) D W) (en : EnvR K mg w H ρ σ) :
    End K mg R w H m (fun b H1 => ∃ w1 S1 a, Ext w H w1 H1 ∧ Sto K mg w1 S1 H1 ∧ R w1 H1 a b ∧ EndS K mg w1 H1 (k a S1) D W) (fun c od H' => W c od σ H') := by
  cases m with
  | ok a S1 =>
    have h' : EndS K mg w H (k a S1) D W := h
    exact fun w' H' b e s kk => ⟨w', S1, a, e, s, kk, h'.on e⟩
  | ex x S1 => exact fun w' H' c od e s kk => h w' H' σ c od e s (en.ext e) kk
  | no => exact h
theorem EndS.bind [Wo] {k : FS} (h : EndS K mg w H (r.bnd k) D W) : EndS K mg w H r { D with nx := fun σ H1 => ∃ w1 ρ1 S1, Sto K mg w1 S1 H1 ∧ EnvR K mg w1 H1 ρ1 σ ∧ EndS K mg w1 H1 (k ρ1 S1) D W } W := by
  cases r with
  | nx ρ1 S1 =>
    have h' : EndS K mg w H (k ρ1 S1) D W := h
    exact fun w' H' b e s kk => ⟨w', ρ1, S1, s, kk, h'.on e⟩
  | _ => exact h
theorem EnvR.set {i : Nat} {d : Kw.D} {v : V} (en : EnvR K mg w H ρ σ) (r : Rp K mg w H d v) : EnvR K mg w H (ρ.set i (some d)) (σ.set i (some v)) := by
  refine ⟨by rw [List.length_set, List.length_set]; exact en.len, fun j d' h => ?_⟩
  by_cases e : j = i
  · subst e
    have hj : j < ρ.length := by
      have := (List.getElem?_eq_some_iff.mp h).1
      rwa [List.length_set] at this
    rw [List.getElem?_set_self hj] at h
    cases h
    exact ⟨v, by rw [List.getElem?_set_self (en.len ▸ hj)], r⟩
  · rw [List.getElem?_set_ne (Ne.symm e)] at h
    obtain ⟨u, h1, h2⟩ := en.at_ j d' h
    exact ⟨u, by rw [List.getElem?_set_ne (Ne.symm e)]; exact h1, h2⟩
theorem EnvR.wipe1 {i : Nat} (en : EnvR K mg w H ρ σ) : EnvR K mg w H (ρ.set i none) (σ.set i none) := by
  refine ⟨by rw [List.length_set, List.length_set]; exact en.len, fun j d' h => ?_⟩
  by_cases e : j = i
  · subst e
    have hj : j < ρ.length := by
      have := (List.getElem?_eq_some_iff.mp h).1
      rwa [List.length_set] at this
    rw [List.getElem?_set_self hj] at h
    cases h
  · rw [List.getElem?_set_ne (Ne.symm e)] at h
    obtain ⟨u, h1, h2⟩ := en.at_ j d' h
    exact ⟨u, by rw [List.getElem?_set_ne (Ne.symm e)]; exact h1, h2⟩
theorem EndS.nx' [Wo] {ρ' : FEnv} {σ' : L2.St} (h : EndS K mg w H (.nx ρ' S) D W) (s : Sto K mg w S H) (en : EnvR K mg w H ρ' σ') : D.nx σ' H := h w H σ' Ext.refl s en
theorem EndS.rt' [Wo] {d : Kw.D} {v : V} (h : EndS K mg w H (.rt d S) D W) (s : Sto K mg w S H) (r : Rp K mg w H d v) : D.rt v H := h w H v Ext.refl s r
end
def sNil : FS := fun ρ S => .nx ρ S
def sSeq (f g : FS) : FS := fun ρ S => (f ρ S).bnd g
def sExp (f : FE) : FS := fun ρ S => (f ρ S).toS ρ fun _ S1 => .nx ρ S1
def sRet (f : FE) : FS := fun ρ S => (f ρ S).toS ρ fun d S1 => .rt d S1
def sRetN : FS := fun _ S => .rt .non S
def sSet (i : Nat) (f : FE) : FS := fun ρ S => (f ρ S).toS ρ fun d S1 => .nx (ρ.set i (some d)) S1
def sIf (c : FT) (a b : FS) : FS := fun ρ S => (c ρ S).toS ρ fun k S1 => match k with
  | true => a ρ S1
  | false => b ρ S1
section
variable {X : Cx} {W : WX} {st : Stmt} {rest : List Stmt} {f g : FS} {e : Expr} {fe : FE} {pos : Pos}
theorem q_snil [Wo] : PSs X [] (tS X W sNil) := PSs.wk pss_nil fun D σ H ⟨w, ρ, S, s, en, h⟩ => h.nx' s en
theorem q_seq [Wo] (h1 : PS X st (tS X W f)) (h2 : PSs X rest (tS X W g)) : PSs X (st :: rest) (tS X W (sSeq f g)) :=
  PSs.wk (pss_cons h1 h2) fun D σ H ⟨w, ρ, S, s, en, h⟩ => ⟨w, ρ, S, s, en, h.bind⟩
theorem q_last [Wo] (h1 : PS X st (tS X W f)) : PSs X [st] (tS X W f) := pss_one h1
theorem q_expr [Wo] (he : PE X e (tF X W fe)) (hs : swapsWith e none pos.line X.env = pure false := by rfl) : PS X (.Expr e pos) (tS X W (sExp fe)) :=
  PS.wk (ps_expr he hs) fun D σ H ⟨w, ρ, S, s, en, h⟩ => ⟨w, ρ, S, s, en, (h.of (R := fun w H => Rp X.K X.mg w H) en).imp (fun v H1 ⟨w1, S1, d, e1, s1, r1, h1⟩ => h1.nx' s1 (en.ext e1)) (fun _ _ _ z => z)⟩
theorem q_ret [Wo] (he : PE X e (tF X W fe)) : PS X (.Return (some e) pos) (tS X W (sRet fe)) :=
  PS.wk (ps_ret he) fun D σ H ⟨w, ρ, S, s, en, h⟩ => ⟨w, ρ, S, s, en, (h.of (R := fun w H => Rp X.K X.mg w H) en).imp (fun v H1 ⟨w1, S1, d, e1, s1, r1, h1⟩ => h1.rt' s1 r1) (fun _ _ _ z => z)⟩
theorem q_set [Wo] {i : Nat} {x : Str} {pos' : Pos} (hN : X.N.Nodup) (hi : X.N[i]? = some x) (hx : Loc X.env.scope x) (he : PE X e (tF X W fe)) (hs : swapsWith e (some (.Name x pos')) pos.line X.env = pure false := by rfl) (hf : X.fn x = true ∨ X.env.scope.names.lookup x = some .local := by first | exact .inl rfl | exact .inr rfl | assumption) :
    PS X (.Assign [.Name x pos'] e pos) (tS X W (sSet i fe)) :=
  PS.wk (ps_set hN hi hx he hs hf) fun D σ H ⟨w, ρ, S, s, en, h⟩ => ⟨w, ρ, S, s, en, (h.of (R := fun w H => Rp X.K X.mg w H) en).imp (fun v H1 ⟨w1, S1, d, e1, s1, r1, h1⟩ => h1.nx' s1 ((en.ext e1).set r1)) (fun _ _ _ z => z)⟩
theorem q_ifS [Wo] {c : Expr} {a b : List Stmt} {tc : FT} (hc : PT X c (tT X W tc)) (ha : PSs X a (tS X W f)) (hb : PSs X b (tS X W g)) : PS X (.If c a b pos) (tS X W (sIf tc f g)) :=
  PS.wk (ps_if hc ha hb) fun D σ H ⟨w, ρ, S, s, en, h⟩ => ⟨w, ρ, S, s, en, (h.of (R := fun _ _ (a b : Bool) => b = a) en).imp (fun v H1 ⟨w1, S1, d, e1, s1, r1, h1⟩ => by
    cases r1
    cases v with
    | true => rw [if_pos rfl]; exact ⟨w1, ρ, S1, s1, en.ext e1, h1⟩
    | false => rw [if_neg (by decide)]; exact ⟨w1, ρ, S1, s1, en.ext e1, h1⟩) (fun _ _ _ z => z)⟩
end
/-- name op= e: two whole numbers -/
def sAug (i : Nat) (g : D → D → Store → RE D) (f : FE) : FS := fun ρ S => match ρ[i]? with
  | some (some x) => (f ρ S).toS ρ fun y S1 => (g x y S1).toS ρ fun z S2 => .nx (ρ.set i (some z)) S2
  | _ => .no
def gIAdd (x y : D) (S : Store) : RE D := match x, y with
  | .int i, .int j => .ok (.int (i + j)) S
  | _, _ => .no
mutual
/-- no cell from n on is in it -/
def D.under (n : Nat) : D → Bool
  | .tup ds => underL n ds
  | .lst ds => underL n ds
  | .fls ds => underL n ds
  | .dic _ ds => underL n ds
  | .ins _ _ ds => underL n ds
  | .exo _ _ ds => underL n ds
  | .clo _ _ _ _ ds => underL n ds
  | .loc m => decide (m < n)
  | _ => true
def underL (n : Nat) : List D → Bool
  | [] => true
  | d :: ds => D.under n d && underL n ds
end
def Cell.under (n : Nat) : Cell → Bool
  | .lst ds => underL n ds
  | .frz ds => underL n ds
  | .dead => true
  | .tab _ => true
  | .sys => true
  | .gst ρ _ => ρ.all fun o => match o with
    | some d => d.under n
    | none => true
  | .ob _ _ ds => underL n ds
  | .dct _ ds => underL n ds
mutual
theorem keyOf_under {n : Nat} : ∀ (d : D) {k : NestedKey}, keyOf d = some k → D.under n d = true
  | .non, _, _ => rfl
  | .bl _, _, h => by simp [keyOf] at h
  | .int _, _, _ => rfl
  | .str _, _, _ => rfl
  | .tup ds, k, h => by
    simp only [keyOf, Option.map_eq_some_iff] at h
    obtain ⟨ks, h1, _⟩ := h
    simpa [D.under] using keysOf_under ds h1
  | .lst _, _, h => by simp [keyOf] at h
  | .dic _ _, _, h => by simp [keyOf] at h
  | .ins _ _ _, _, h => by simp [keyOf] at h
  | .loc _, _, h => by simp [keyOf] at h
  | .glo _, _, _ => rfl
  | .fls _, _, h => by simp [keyOf] at h
  | .exn _, _, _ => rfl
  | .exo _ _ _, _, h => by simp [keyOf] at h
  | .lam _ _ _, _, _ => rfl
  | .clo _ _ _ _ _, _, h => by simp [keyOf] at h
theorem keysOf_under {n : Nat} : ∀ (ds : List D) {ks : List NestedKey}, keysOf ds = some ks → underL n ds = true
  | [], _, _ => rfl
  | d :: ds, ks, h => by
    simp only [keysOf] at h
    split at h
    · rename_i k r h1 h2
      simp [underL, keyOf_under d h1, keysOf_under ds h2]
    · cases h
end
/-- the cells ahead of S's end are as they were, or have nothing that was made since -/
def CutOk (S S' : Store) : Prop := S.length ≤ S'.length ∧ ∀ (i : Nat) c, i < S.length → S'[i]? = some c → S[i]? = some c ∨ c.under S.length = true
open Classical in
noncomputable def cutR (S : Store) (r : RE D) : RE D := match r with
  | .ok d S' => if d.under S.length = true ∧ CutOk S S' then .ok d (S'.take S.length) else .no
  | .ex x S' => if underL S.length x.ds = true ∧ CutOk S S' then .ex x (S'.take S.length) else .no
  | .no => .no
def RS.fin (r : RS) : RE D := match r with
  | .nx _ S => .ok .non S
  | .rt d S => .ok d S
  | .ex x _ S => .ex x S
  | _ => .no
/-- a def with m parameters, n names -/
def fnB (m n : Nat) (b : FS) : FF := fun ds S => if ds.length = m then (b (ds.map some ++ List.replicate (n - m) none) S).fin else .no
/-- .. that throws its cells away -/
noncomputable def fnC (m n : Nat) (b : FS) : FF := fun ds S => cutR S (fnB m n b ds S)
section
variable {K : PySem.W.Frag} {mg : Str → Option Value} {w : Wd} {H : Hp} {S S' : Store}
theorem getElem?_of_take {α : Type} {l : List α} {n m : Nat} {x : α} (h : (l.take n)[m]? = some x) : l[m]? = some x ∧ m < n := by
  by_cases e : m < n
  · rw [List.getElem?_take_of_lt e] at h; exact ⟨h, e⟩
  · rw [List.getElem?_eq_none (by rw [List.length_take]; omega)] at h; exact (nomatch h)
def Wd.cut (w : Wd) (n : Nat) : Wd := ⟨w.φ.take n, w.hd⟩
theorem Wd.off_cut {n : Nat} {a : Addr} (h : w.Off a) : (w.cut n).Off a := ⟨fun z => h.1 (List.mem_of_mem_take z), h.2⟩
theorem Tp.cut {n : Nat} {a : Addr} {xs : List V} (h : Tp K w H a xs) : Tp K (w.cut n) H a xs := by
  rcases h with ⟨h, k⟩ | h
  · exact .inl ⟨h, Wd.off_cut k⟩
  · exact .inr h
theorem Fp.cut {n : Nat} {a : Addr} {xs : List V} (h : Fp K w H a xs) : Fp K (w.cut n) H a xs := by
  rcases h with ⟨o, h, k⟩ | h
  · exact .inl ⟨o, h, Wd.off_cut k⟩
  · exact .inr h
mutual
theorem Rp.cut {n : Nat} (hn : n ≤ w.φ.length) : ∀ (d : D) (v : V), d.under n = true → Rp K mg w H d v → Rp K mg (w.cut n) H d v
  | .non, _, _, h => by unfold Rp at h ⊢; exact h
  | .bl _, _, _, h => by unfold Rp at h ⊢; exact h
  | .int _, _, _, h => by unfold Rp at h ⊢; exact h
  | .str _, _, _, h => by unfold Rp at h ⊢; exact h
  | .tup ds, v, b, h => by
    unfold Rp at h ⊢
    obtain ⟨a, xs, e1, t, r⟩ := h
    exact ⟨a, xs, e1, t.cut, RpL.cutW hn ds xs (by simpa [D.under] using b) r⟩
  | .lst ds, v, b, h => by
    unfold Rp at h ⊢
    obtain ⟨a, xs, e1, t, o, r⟩ := h
    exact ⟨a, xs, e1, t, Wd.off_cut o, RpL.cutW hn ds xs (by simpa [D.under] using b) r⟩
  | .dic ks ds, v, b, h => by
    unfold Rp at h ⊢
    obtain ⟨a, vs, e1, t, o, l, r⟩ := h
    exact ⟨a, vs, e1, t, Wd.off_cut o, l, RpL.cutW hn ds vs (by simpa [D.under] using b) r⟩
  | .ins c fs ds, v, b, h => by
    unfold Rp at h ⊢
    obtain ⟨a, C, dx, vs, e1, m, t, o, l, r⟩ := h
    exact ⟨a, C, dx, vs, e1, m, t, Wd.off_cut o, l, RpL.cutW hn ds vs (by simpa [D.under] using b) r⟩
  | .loc m, v, b, h => by
    have hm : m < n := by simpa [D.under] using b
    unfold Rp at h ⊢
    refine ⟨?_, fun a q => h.2 a ?_⟩
    · show m < (w.φ.take n).length
      rw [List.length_take]; omega
    · have q' : (w.φ.take n)[m]? = some (some a) := q
      exact (getElem?_of_take q').1
  | .glo _, _, _, h => by unfold Rp at h ⊢; exact h
  | .exn _, _, _, h => by unfold Rp at h ⊢; exact h
  | .lam i q ob, v, b, h => by
    unfold Rp at h ⊢
    obtain ⟨f, c', pm, ctv, e1, t, o, t2, o2⟩ := h
    exact ⟨f, c', pm, ctv, e1, t, Wd.off_cut o, t2, Wd.off_cut o2⟩
  | .clo i q ob as ds, v, b, h => by
    unfold Rp at h ⊢
    obtain ⟨f, c', pm, ctv, L, vs, e1, t, o, t2, o2, cs, r⟩ := h
    exact ⟨f, c', pm, ctv, L, vs, e1, t, Wd.off_cut o, t2, Wd.off_cut o2, ⟨cs.1, fun k a v q1 q2 => ⟨(cs.2 k a v q1 q2).1, Wd.off_cut (cs.2 k a v q1 q2).2⟩⟩, RpL.cutW hn ds vs (by simpa [D.under] using b) r⟩
  | .exo c ns ds, v, b, h => by
    unfold Rp at h ⊢
    obtain ⟨a, C, od, vs, e1, m, t, o, z, q, l, r⟩ := h
    exact ⟨a, C, od, vs, e1, m, t, Wd.off_cut o, z, fun d hd => ⟨(q d hd).1, Wd.off_cut (q d hd).2⟩, l, RpL.cutW hn ds vs (by simpa [D.under] using b) r⟩
  | .fls ds, v, b, h => by
    unfold Rp at h ⊢
    obtain ⟨a, xs, e1, t, r⟩ := h
    exact ⟨a, xs, e1, t.cut, RpL.cutW hn ds xs (by simpa [D.under] using b) r⟩
theorem RpL.cutW {n : Nat} (hn : n ≤ w.φ.length) : ∀ (ds : List D) (vs : List V), underL n ds = true → RpL K mg w H ds vs → RpL K mg (w.cut n) H ds vs
  | [], _, _, h => by unfold RpL at h ⊢; exact h
  | d :: ds, vs, b, h => by
    have b' : d.under n = true ∧ underL n ds = true := by simpa [underL] using b
    unfold RpL at h ⊢
    obtain ⟨v, r, e1, h1, h2⟩ := h
    exact ⟨v, r, e1, Rp.cut hn d v b'.1 h1, RpL.cutW hn ds r b'.2 h2⟩
end
mutual
theorem Rp.isUnder : ∀ (d : D) (v : V), Rp K mg w H d v → d.under w.φ.length = true
  | .non, _, h => rfl
  | .bl _, _, h => rfl
  | .int _, _, h => rfl
  | .str _, _, h => rfl
  | .tup ds, v, h => by
    unfold Rp at h
    obtain ⟨a, xs, e1, t, r⟩ := h
    simpa [D.under] using RpL.isUnder ds xs r
  | .lst ds, v, h => by
    unfold Rp at h
    obtain ⟨a, xs, e1, t, o, r⟩ := h
    simpa [D.under] using RpL.isUnder ds xs r
  | .dic ks ds, v, h => by
    unfold Rp at h
    obtain ⟨a, vs, e1, t, o, l, r⟩ := h
    simpa [D.under] using RpL.isUnder ds vs r
  | .ins c fs ds, v, h => by
    unfold Rp at h
    obtain ⟨a, C, dx, vs, e1, m, t, o, l, r⟩ := h
    simpa [D.under] using RpL.isUnder ds vs r
  | .loc m, v, h => by
    unfold Rp at h
    simpa [D.under] using h.1
  | .glo _, _, h => rfl
  | .exn _, _, h => rfl
  | .lam _ _ _, _, h => rfl
  | .clo i q ob as ds, v, h => by
    unfold Rp at h
    obtain ⟨f, c', pm, ctv, L, vs, e1, t, o, t2, o2, cs, r⟩ := h
    simpa [D.under] using RpL.isUnder ds vs r
  | .exo c ns ds, v, h => by
    unfold Rp at h
    obtain ⟨a, C, od, vs, e1, m, t, o, z, q, l, r⟩ := h
    simpa [D.under] using RpL.isUnder ds vs r
  | .fls ds, v, h => by
    unfold Rp at h
    obtain ⟨a, xs, e1, t, r⟩ := h
    simpa [D.under] using RpL.isUnder ds xs r
theorem RpL.isUnder : ∀ (ds : List D) (vs : List V), RpL K mg w H ds vs → underL w.φ.length ds = true
  | [], _, h => rfl
  | d :: ds, vs, h => by
    unfold RpL at h
    obtain ⟨v, r, e1, h1, h2⟩ := h
    simp [underL, Rp.isUnder d v h1, RpL.isUnder ds r h2]
end
theorem CellR.isUnder [Wo] {c : Cell} {n : Nat} (h : CellR K mg w H c n) : c.under w.φ.length = true := by
  unfold CellR at h
  split at h
  · obtain ⟨_, _, _, _, h⟩ := h; exact RpL.isUnder _ _ h
  · obtain ⟨_, _, _, _, _, h⟩ := h; exact RpL.isUnder _ _ h
  · rfl
  · rfl
  · rfl
  · rename_i ρ σ
    show (ρ.all fun o => match o with
      | some d => D.under w.φ.length d
      | none => true) = true
    rw [List.all_eq_true]
    intro o ho
    cases o with
    | none => rfl
    | some d =>
      obtain ⟨i, hi, e⟩ := List.mem_iff_getElem.mp ho
      obtain ⟨v, _, r⟩ := h.2.at_ i d (by rw [List.getElem?_eq_getElem hi, e])
      exact Rp.isUnder _ _ r
  · obtain ⟨_, _, _, _, _, _, _, _, h⟩ := h; exact RpL.isUnder _ _ h
  · obtain ⟨_, _, _, _, _, _, _, h⟩ := h; exact RpL.isUnder _ _ h
theorem CellR.cut [Wo] {c : Cell} {m n : Nat} (hn : n ≤ w.φ.length) (hm : m < n) (b : c.under n = true) (h : CellR K mg w H c m) : CellR K mg (w.cut n) H c m := by
  have g : (w.cut n).φ[m]? = w.φ[m]? := by
    show (w.φ.take n)[m]? = _
    rw [List.getElem?_take, if_pos hm]
  unfold CellR at h ⊢
  split at h
  · obtain ⟨a, xs, h1, h2, h3⟩ := h; exact ⟨a, xs, by rw [g]; exact h1, h2, RpL.cutW hn _ _ (by simpa [Cell.under] using b) h3⟩
  · obtain ⟨a, xs, o, h1, h2, h3⟩ := h; exact ⟨a, xs, o, by rw [g]; exact h1, h2, RpL.cutW hn _ _ (by simpa [Cell.under] using b) h3⟩
  · show _ = _; rw [g]; exact h
  · obtain ⟨c0, P, ht, h1, ps, h2, h3, h4⟩ := h
    refine ⟨c0, P, ht, by rw [g]; exact h1, ps, h2, h3, fun pos cv hc => ?_⟩
    obtain ⟨c, e1, e2, e3⟩ := h4 pos cv hc
    exact ⟨c, e1, e2, fun z => e3.1 (List.mem_of_mem_take z), e3.2⟩
  · exact ⟨by rw [g]; exact h.1, h.2.1, fun z => h.2.2.1 (List.mem_of_mem_take z), h.2.2.2⟩
  · refine ⟨by rw [g]; exact h.1, h.2.len, fun i d q => ?_⟩
    obtain ⟨v, h1, h2⟩ := h.2.at_ i d q
    have b' := List.all_eq_true.mp b (some d) (List.mem_of_getElem? q)
    exact ⟨v, h1, Rp.cut hn _ _ b' h2⟩
  · obtain ⟨a, C, dx, vs, h1, h2, h3, h4, h5⟩ := h; exact ⟨a, C, dx, vs, by rw [g]; exact h1, h2, h3, h4, RpL.cutW hn _ _ (by simpa [Cell.under] using b) h5⟩
  · obtain ⟨a, es, h1, h2, h3, h4, h5, h6⟩ := h
    exact ⟨a, es, by rw [g]; exact h1, h2, h3, h4, fun x hx => ⟨(h5 x hx).1, let ⟨d, q1, q2⟩ := (h5 x hx).2; ⟨d, q1, Rp.cut hn _ _ (keyOf_under d q1) q2⟩⟩, RpL.cutW hn _ _ (by simpa [Cell.under] using b) h6⟩
theorem Sto.cut [Wo] {w0 : Wd} {H0 : Hp} (s0 : Sto K mg w0 S H0) (s : Sto K mg w S' H) (h : CutOk S S') : Sto K mg (w.cut S.length) (S'.take S.length) H := by
  have hl : S.length ≤ w.φ.length := by rw [s.len]; exact h.1
  refine ⟨by show (w.φ.take _).length = _; rw [List.length_take, List.length_take, s.len], fun m n a h1 h2 => ?_, fun a ha => ⟨(s.ap a ha).1, fun z => (s.ap a ha).2 (List.mem_of_mem_take z)⟩, fun n c hc => ?_⟩
  · have k : ∀ m : Nat, (w.φ.take S.length)[m]? = some (some a) → w.φ[m]? = some (some a) := fun m q => by
      rw [List.getElem?_take] at q
      split at q
      · exact q
      · cases q
    exact s.nd m n a (k m h1) (k n h2)
  · rw [List.getElem?_take] at hc
    split at hc
    · rename_i hn
      have c0 := s.cell n c hc
      refine CellR.cut hl hn ?_ c0
      rcases h.2 n c hn hc with z | z
      · have := (s0.cell n c z).isUnder
        rw [s0.len] at this; exact this
      · exact z
    · cases hc
theorem Ext.cut {w0 : Wd} {H0 : Hp} (e : Ext w0 H0 w H) : Ext w0 H0 (w.cut w0.φ.length) H where
  fr := e.fr
  ln := by show _ ≤ (w.φ.take _).length; rw [List.length_take]; have := e.ln; omega
  ph := fun n a h l => by
    have q : (w.φ.take w0.φ.length)[n]? = some (some a) := h
    exact e.ph n a (getElem?_of_take q).1 l
  nw := fun a h => e.nw a (List.mem_of_mem_take h)
  hd := e.hd
theorem ExR.cutX {n : Nat} {x : Ex} {c : Value} {od : Option Addr} (hn : n ≤ w.φ.length) (b : underL n x.ds = true) (h : ExR K mg w H x c od) : ExR K mg (w.cut n) H x c od := by
  obtain ⟨h1, h2⟩ := h
  refine ⟨h1, ?_⟩
  rcases h2 with h2 | ⟨d, vs, a0, a1, a2, a3, a4, a5⟩
  · exact .inl h2
  · exact .inr ⟨d, vs, a0, a1, a2, Wd.off_cut a3, a4, RpL.cutW hn _ _ b a5⟩
/-- the cells that were made since are thrown away -/
theorem End.cutE [Wo] {Q : VK} {E : Value → Option Addr → Hp → Prop} {r : RE D} (s : Sto K mg w S H) (h : End K mg (fun w H => Rp K mg w H) w H (cutR S r) Q E) : End K mg (fun w H => Rp K mg w H) w H r Q E := by
  cases r with
  | ok d S' =>
    have h' : End K mg (fun w H => Rp K mg w H) w H (cutR S (.ok d S')) Q E := h
    unfold cutR at h'
    simp only at h'
    split at h'
    · rename_i hc
      intro w1 H1 v e s1 r1
      have hl : S.length ≤ w1.φ.length := by rw [s1.len]; exact hc.2.1
      refine h' (w1.cut S.length) H1 v (s.len ▸ e.cut) (Sto.cut s s1 hc.2) (Rp.cut hl d v hc.1 r1)
    · exact h'.elim
  | ex x S' =>
    have h' : End K mg (fun w H => Rp K mg w H) w H (cutR S (.ex x S')) Q E := h
    unfold cutR at h'
    simp only at h'
    split at h'
    · rename_i hc
      intro w1 H1 c od e s1 r1
      have hl : S.length ≤ w1.φ.length := by rw [s1.len]; exact hc.2.1
      refine h' (w1.cut S.length) H1 c od (s.len ▸ e.cut) (Sto.cut s s1 hc.2) (ExR.cutX hl hc.1 r1)
    · exact h'.elim
  | no => exact h
end
theorem envStart {K : PySem.W.Frag} {mg : Str → Option Value} {w : Wd} {H : Hp} {ds : List D} {vs : List V} {N : List Str} (r : RpL K mg w H ds vs) : EnvR K mg w H (ds.map some ++ List.replicate (N.length - ds.length) none) (L2.start N vs) := by
  unfold L2.start
  refine ⟨by simp [r.length], fun i d h => ?_⟩
  by_cases hi : i < ds.length
  · rw [List.getElem?_append_left (by rw [List.length_map]; exact hi), List.getElem?_map] at h
    cases e : ds[i]? with
    | none => rw [e] at h; cases h
    | some d' =>
      rw [e] at h
      have ed : d' = d := by simpa using h
      subst ed
      obtain ⟨v, h1, h2⟩ := r.get e
      refine ⟨v, ?_, h2⟩
      rw [List.getElem?_append_left (by rw [List.length_map, ← r.length]; exact hi), List.getElem?_map, h1]
      rfl
  · rw [List.getElem?_append_right (by rw [List.length_map]; omega)] at h
    have := List.mem_of_getElem? h
    have := List.eq_of_mem_replicate this
    cases this
section
variable {P : Program} {w : World} {K : PySem.W.Frag} {mg : Str → Option Value} {base : Heap}
/-- a def by its body -/
theorem fn_g {x qual : Str} {st : Stmt} {f : Addr} {fd : FuncData} {N ps : List Str} {k : Nat} {sp : Sp} (F : Fun K x qual st f fd) (S : FnScope N ps (defScope st)) (size : ∀ vs H Q E, sp vs H Q E → vs.length = ps.length)
    (hb : ∀ (cdv : Value) (A : Around) (stk : List Env) (s : Shared) (H : Hp) (vs : List V) (Q : VK) (E : XK), RoomG k (A.deeper (envOfC qual (defScope st) s.heap.objs.size f cdv)) → sp vs H Q E →
      ∃ t, PSs (cxOf (L2.CX P w) P w K mg base N qual (defScope st) f cdv A stk s H E) (defBody st) t ∧ t { nx := fun _ H' => Q .non H', rt := Q } (L2.start N vs) H) : FnG P w K mg base (k + 1) f fd ps sp := by
  obtain ⟨oc, od, kV, doc, pm, an, cdv, ct, osl, rfl, lk, hcd⟩ := F.ex
  refine ⟨size, fun A stk s H ar us vs Q E hr e0 hbd hv hsp => ?_⟩
  have up : ∀ b o, base.get? b = some o → s.heap.get? b = some o := fun b o z => (e0.bs b o z).1
  have KX : K.In s.heap := e0.mod.kin.keeps up
  refine codeAny_call_function hr.rm.depth (KX _ _ lk) rfl S.co S.gen rfl (PySem.W.codeRec_of KX hcd) (hbd _ _ _ _ (wpAny_newFunctionEnv_cells S.kind (fun ⟨n, v⟩ hn => ?par) fun env he s1 x => ?run))
  case par =>
    have hn' := S.par n (List.of_mem_zip hn).1
    exact hn'.imp id fun z => ⟨z, PySem.W.cellsFrom_some _ _ _ (.inl z)⟩
  case run =>
    subst he
    obtain ⟨t, ht, hq⟩ := hb cdv A stk s H vs Q E (hr.down _) hsp
    have I0 := inv_start (CX := L2.CX P w) (E := E) S hr.rm.hd e0 (size _ _ _ _ hsp) hv x
    refine ⟨(e0.mod.nolimit.keeps up).keeps x.toInCall.keep, codeAny_func (wpAny_mono (ht.run [] s1 (L2.start N vs) H _ I0 hq) (fun fl s' hs => ?_) fun e s' hs => hs)⟩
    match fl, hs with
    | .ret u, ⟨v, σ', H', J, rv, q⟩ => exact ⟨v, H', J.os, J.bare, J.base, J.hok, rv, q⟩
    | .next, ⟨σ', H', J, q⟩ => exact ⟨.non, H', J.os, J.bare, J.base, J.hok, rfl, q⟩
    | .brk, ⟨_, _, _, q⟩ => exact q.elim
    | .cont, ⟨_, _, _, q⟩ => exact q.elim
theorem fn_ok [Wo] {x qual : Str} {st : Stmt} {f : Addr} {fd : FuncData} {N ps : List Str} {k : Nat} {b : FS} (F : Fun K x qual st f fd) (S : FnScope N ps (defScope st))
    (hb : ∀ (cdv : Value) (A : Around) (outer : List Env) (s : Shared) (H : Hp) (E : XK), RoomG k (A.deeper (envOfC qual (defScope st) s.heap.objs.size f cdv)) →
      PSs (cxOf (L2.CX P w) P w K mg base N qual (defScope st) f cdv A outer s H E) (defBody st) (tS (cxOf (L2.CX P w) P w K mg base N qual (defScope st) f cdv A outer s H E) (fun c d _ H => E c d H) b)) :
    FnG P w K mg base (k + 1) f fd ps (spF K mg ps.length (fnB ps.length N.length b)) := by
  refine fn_g F S (fun vs H Q E ⟨w, st, ds, s, r, l, h⟩ => by rw [← r.length]; exact l) fun cdv A outer s H vs Q E hr ⟨w1, S1, ds, s1, r1, l, h⟩ => ⟨_, hb cdv A outer s H E hr, w1, _, S1, s1, envStart (N := N) r1, ?_⟩
  unfold fnB at h
  rw [if_pos l] at h
  rw [l]
  revert h
  cases hbb : b (ds.map some ++ List.replicate (N.length - ps.length) none) S1 with
  | nx ρ S2 => exact fun h w' H' σ' e s' en => h w' H' _ e s' rp_n
  | rt d S2 => exact fun h w' H' v e s' r' => h w' H' v e s' r'
  | ex x ρ S2 => exact fun h w' H' σ' c od e s' en ex => h w' H' c od e s' ex
  | bk ρ S2 => exact fun h => h.elim
  | ct ρ S2 => exact fun h => h.elim
  | no => exact fun h => h.elim
theorem fun_look {x qual : Str} {st : Stmt} {f : Addr} {fd : FuncData} (F : Fun K x qual st f fd) : ∃ oc od osl, K.lookup f = some ⟨oc, od, .func fd, osl⟩ := by
  obtain ⟨oc, od, kV, doc, pm, an, cdv, ct, osl, rfl, lk, hcd⟩ := F.ex
  exact ⟨oc, od, osl, lk⟩
theorem fun_names {x qual : Str} {st : Stmt} {f : Addr} {fd : FuncData} (F : Fun K x qual st f fd) : fd.params.args.map (·.arg) = (defArgs st).args.map (·.arg) := by
  obtain ⟨oc, od, kV, doc, pm, an, cdv, ct, osl, rfl, lk, hcd⟩ := F.ex
  rfl
theorem spF_cut [Wo] {m : Nat} {f : FF} {k : Nat} {a : Addr} {fd : FuncData} {ps : List Str} (F : FnG P w K mg base k a fd ps (spF K mg m f)) : FnG P w K mg base k a fd ps (spF K mg m (fun ds S => cutR S (f ds S))) :=
  F.weak fun vs H Q E ⟨w1, S1, ds, s1, r1, l, h⟩ => ⟨w1, S1, ds, s1, r1, l, h.cutE s1⟩
theorem fnB_ar {m n : Nat} {b : FS} : ∀ ds S, ds.length ≠ m → fnB m n b ds S = .no := fun ds S h => by unfold fnB; rw [if_neg h]
theorem fnC_ar {m n : Nat} {b : FS} : ∀ ds S, ds.length ≠ m → fnC m n b ds S = .no := fun ds S h => by unfold fnC; rw [fnB_ar ds S h]; rfl
theorem cal_B [Wo] {x : Str} {st : Stmt} {f : Addr} {fd : FuncData} {N ps : List Str} {k : Nat} {b : FS} (F : Fun K x x st f fd) (S : FnScope N ps (defScope st)) (hm : mg x = some (.ref f)) (hbd : Binds K fd ps []) (hps : ps = (defArgs st).args.map (·.arg))
    (hb : ∀ (cdv : Value) (A : Around) (outer : List Env) (s : Shared) (H : Hp) (E : XK), RoomG k (A.deeper (envOfC x (defScope st) s.heap.objs.size f cdv)) →
      PSs (cxOf (L2.CX P w) P w K mg base N x (defScope st) f cdv A outer s H E) (defBody st) (tS (cxOf (L2.CX P w) P w K mg base N x (defScope st) f cdv A outer s H E) (fun c d _ H => E c d H) b)) :
    Cal P w K mg base (k + 1) x (fnB ps.length N.length b) := ⟨f, fd, ps, fn_ok F S hb, hm, F.kp, hbd, fnB_ar, hps.trans (fun_names F).symm, fun_look F⟩
theorem cal_C [Wo] {x : Str} {st : Stmt} {f : Addr} {fd : FuncData} {N ps : List Str} {k : Nat} {b : FS} (F : Fun K x x st f fd) (S : FnScope N ps (defScope st)) (hm : mg x = some (.ref f)) (hbd : Binds K fd ps []) (hps : ps = (defArgs st).args.map (·.arg))
    (hb : ∀ (cdv : Value) (A : Around) (outer : List Env) (s : Shared) (H : Hp) (E : XK), RoomG k (A.deeper (envOfC x (defScope st) s.heap.objs.size f cdv)) →
      PSs (cxOf (L2.CX P w) P w K mg base N x (defScope st) f cdv A outer s H E) (defBody st) (tS (cxOf (L2.CX P w) P w K mg base N x (defScope st) f cdv A outer s H E) (fun c d _ H => E c d H) b)) :
    Cal P w K mg base (k + 1) x (fnC ps.length N.length b) := ⟨f, fd, ps, spF_cut (fn_ok F S hb), hm, F.kp, hbd, fnC_ar, hps.trans (fun_names F).symm, fun_look F⟩
end
end Kw
namespace Kw
open PySem PySem.Spec PyProof.Rows L2
structure Mv (w : Wd) (H : Hp) (w' : Wd) (H' : Hp) : Prop where
  fr : ∀ a o, H a = some o → w.Off a → H' a = some o ∧ w'.Off a
  ln : w.φ.length ≤ w'.φ.length
  ph : ∀ (n : Nat) a, w'.φ[n]? = some (some a) → n < w.φ.length → w.φ[n]? = some (some a)
section
variable {K : PySem.W.Frag} {mg : Str → Option Value} {w w' w'' : Wd} {H H' H'' : Hp} {S : Store}
mutual
theorem Rp.mv (e : Mv w H w' H') : ∀ (d : D) (v : V), Rp K mg w H d v → Rp K mg w' H' d v
  | .non, _, h => by unfold Rp at h ⊢; exact h
  | .bl _, _, h => by unfold Rp at h ⊢; exact h
  | .int _, _, h => by unfold Rp at h ⊢; exact h
  | .str _, _, h => by unfold Rp at h ⊢; exact h
  | .tup ds, v, h => by
    unfold Rp at h ⊢
    obtain ⟨a, xs, e1, t, r⟩ := h
    refine ⟨a, xs, e1, ?_, RpL.mv e ds xs r⟩
    rcases t with ⟨t, n⟩ | t
    · exact .inl (e.fr _ _ t n)
    · exact .inr t
  | .lst ds, v, h => by
    unfold Rp at h ⊢
    obtain ⟨a, xs, e1, t, n, r⟩ := h
    exact ⟨a, xs, e1, (e.fr _ _ t n).1, (e.fr _ _ t n).2, RpL.mv e ds xs r⟩
  | .dic ks ds, v, h => by
    unfold Rp at h ⊢
    obtain ⟨a, vs, e1, t, n, l, r⟩ := h
    exact ⟨a, vs, e1, (e.fr _ _ t n).1, (e.fr _ _ t n).2, l, RpL.mv e ds vs r⟩
  | .ins c fs ds, v, h => by
    unfold Rp at h ⊢
    obtain ⟨a, C, dx, vs, e1, m, t, n, l, r⟩ := h
    exact ⟨a, C, dx, vs, e1, m, (e.fr _ _ t n).1, (e.fr _ _ t n).2, l, RpL.mv e ds vs r⟩
  | .loc n, v, h => by
    unfold Rp at h ⊢
    exact ⟨Nat.lt_of_lt_of_le h.1 e.ln, fun a q => h.2 a (e.ph n a q h.1)⟩
  | .glo _, _, h => by unfold Rp at h ⊢; exact h
  | .exn _, _, h => by unfold Rp at h ⊢; exact h
  | .lam i q ob, v, h => by
    unfold Rp at h ⊢
    obtain ⟨f, c', pm, ctv, e1, t, n, t2, n2⟩ := h
    exact ⟨f, c', pm, ctv, e1, (e.fr _ _ t n).1, (e.fr _ _ t n).2, (e.fr _ _ t2 n2).1, (e.fr _ _ t2 n2).2⟩
  | .clo i q ob as ds, v, h => by
    unfold Rp at h ⊢
    obtain ⟨f, c', pm, ctv, L, vs, e1, t, n, t2, n2, cs, r⟩ := h
    exact ⟨f, c', pm, ctv, L, vs, e1, (e.fr _ _ t n).1, (e.fr _ _ t n).2, (e.fr _ _ t2 n2).1, (e.fr _ _ t2 n2).2, ⟨cs.1, fun k a v q1 q2 => e.fr _ _ (cs.2 k a v q1 q2).1 (cs.2 k a v q1 q2).2⟩, RpL.mv e ds vs r⟩
  | .exo c ns ds, v, h => by
    unfold Rp at h ⊢
    obtain ⟨a, C, od, vs, e1, m, t, n, z, q, l, r⟩ := h
    exact ⟨a, C, od, vs, e1, m, (e.fr _ _ t n).1, (e.fr _ _ t n).2, z, fun d hd => ⟨(e.fr _ _ (q d hd).1 (q d hd).2).1, (e.fr _ _ (q d hd).1 (q d hd).2).2⟩, l, RpL.mv e ds vs r⟩
  | .fls ds, v, h => by
    unfold Rp at h ⊢
    obtain ⟨a, xs, e1, t, r⟩ := h
    refine ⟨a, xs, e1, ?_, RpL.mv e ds xs r⟩
    rcases t with ⟨o, t, n⟩ | t
    · exact .inl ⟨o, e.fr _ _ t n⟩
    · exact .inr t
theorem RpL.mv (e : Mv w H w' H') : ∀ (ds : List D) (vs : List V), RpL K mg w H ds vs → RpL K mg w' H' ds vs
  | [], _, h => by unfold RpL at h ⊢; exact h
  | d :: ds, vs, h => by
    unfold RpL at h ⊢
    obtain ⟨v, r, e1, h1, h2⟩ := h
    exact ⟨v, r, e1, Rp.mv e d v h1, RpL.mv e ds r h2⟩
end
theorem EnvR.mv {ρ : FEnv} {σ : L2.St} (e : Mv w H w' H') (h : EnvR K mg w H ρ σ) : EnvR K mg w' H' ρ σ := ⟨h.len, fun i d q => by
  obtain ⟨v, h1, h2⟩ := h.at_ i d q
  exact ⟨v, h1, Rp.mv e _ _ h2⟩⟩
theorem TabW.mv {P : Addr} {q : Str} (m : Mv w H w' H') (hP : H' P = H P) (h : TabW w H P q) : TabW w' H' P q := by
  obtain ⟨ps, h1, h2, h3⟩ := h
  refine ⟨ps, by rw [hP]; exact h1, h2, fun pos cv hc => ?_⟩
  obtain ⟨c, e1, e2, e3⟩ := h3 pos cv hc
  exact ⟨c, e1, m.fr _ _ e2 e3⟩
theorem dct_mv {es : DEnt} (e : Mv w H w' H') (h : ∀ x ∈ es, x.1.depth ≤ 8 ∧ ∃ d, keyOf d = some x.1 ∧ Rp K mg w H d x.2.1) : ∀ x ∈ es, x.1.depth ≤ 8 ∧ ∃ d, keyOf d = some x.1 ∧ Rp K mg w' H' d x.2.1 := fun x hx =>
  ⟨(h x hx).1, let ⟨d, q1, q2⟩ := (h x hx).2; ⟨d, q1, Rp.mv e _ _ q2⟩⟩
theorem Ext.mv (e : Ext w H w' H') : Mv w H w' H' := ⟨fun a o h n => ⟨e.fr a o h n.1, e.out h n⟩, e.ln, e.ph⟩
theorem Mv.trans (a : Mv w H w' H') (b : Mv w' H' w'' H'') : Mv w H w'' H'' :=
  ⟨fun c o h n => b.fr c o (a.fr c o h n).1 (a.fr c o h n).2, Nat.le_trans a.ln b.ln, fun n c h l => a.ph n c (b.ph n c h (Nat.lt_of_lt_of_le l a.ln)) l⟩
/-- the object at C is built, hidden -/
structure ExtD (C : Addr) (w : Wd) (H : Hp) (w' : Wd) (H' : Hp) : Prop where
  c0 : H C = none
  fr : ∀ a o, a ≠ C → H a = some o → some a ∉ w.φ → H' a = some o
  ln : w.φ.length ≤ w'.φ.length
  ph : ∀ (n : Nat) a, w'.φ[n]? = some (some a) → n < w.φ.length → w.φ[n]? = some (some a)
  nw : ∀ a, some a ∈ w'.φ → some a ∈ w.φ ∨ H a = none
  hd : w'.hd = C :: w.hd
theorem ExtD.step {C : Addr} (a : ExtD C w H w' H') (b : Ext w' H' w'' H'') : ExtD C w H w'' H'' where
  c0 := a.c0
  fr := fun c o hc h n => b.fr c o (a.fr c o hc h n) fun z => by
    rcases a.nw c z with z | z
    · exact n z
    · rw [h] at z; cases z
  ln := Nat.le_trans a.ln b.ln
  ph := fun n c h l => a.ph n c (b.ph n c h (Nat.lt_of_lt_of_le l a.ln)) l
  nw := fun c h => by
    rcases b.nw c h with z | z
    · exact a.nw c z
    · by_cases q : some c ∈ w.φ
      · exact .inl q
      · cases e : H c with
        | none => exact .inr rfl
        | some o =>
          have hc : c ≠ C := fun z => by subst z; rw [a.c0] at e; cases e
          rw [a.fr c o hc e q] at z; cases z
  hd := b.hd.trans a.hd
theorem ExtD.poke {C : Addr} {o : HO} (a : ExtD C w H w' H') : ExtD C w H w' (upd H' C o) := ⟨a.c0, fun c u hc h n => by rw [upd_ne hc]; exact a.fr c u hc h n, a.ln, a.ph, a.nw, a.hd⟩
theorem ExtD.mv {C : Addr} (a : ExtD C w H w' H') : Mv w H w' H' := ⟨fun c o h n => by
  have hc : c ≠ C := fun z => by subst z; rw [a.c0] at h; cases h
  refine ⟨a.fr c o hc h n.1, fun z => ?_, fun z => ?_⟩
  · rcases a.nw c z with z | z
    · exact n.1 z
    · rw [h] at z; cases z
  · rw [a.hd] at z
    rcases List.mem_cons.mp z with z | z
    · exact hc z
    · exact n.2 z, a.ln, a.ph⟩
theorem ExtD.begin_ {C : Addr} {o : HO} (hC : H C = none) : ExtD C w H ⟨w.φ, C :: w.hd⟩ (upd H C o) := ⟨hC, fun a u e h _ => by rw [upd_ne e]; exact h, Nat.le_refl _, fun _ _ h _ => h, fun _ h => .inl h, rfl⟩
theorem ExtD.done {C : Addr} (a : ExtD C w H w' H') : Ext w H ⟨w'.φ, w.hd⟩ H' := ⟨fun c o h n => a.fr c o (fun z => by subst z; rw [a.c0] at h; cases h) h n, a.ln, a.ph, a.nw, rfl⟩
theorem Sto.mvd [Wo] {C : Addr} (s : Sto K mg w S H) (hC : H C = none) {o : HO} : Sto K mg ⟨w.φ, C :: w.hd⟩ S (upd H C o) := by
  have m : Mv w H ⟨w.φ, C :: w.hd⟩ (upd H C o) := (ExtD.begin_ hC).mv
  refine ⟨s.len, s.nd, fun a ha => ?_, fun n c hc => ?_⟩
  · rcases List.mem_cons.mp ha with e | ha
    · subst e; exact ⟨by rw [upd_same]; exact fun z => (nomatch z), (s.new hC).1⟩
    · exact ⟨upd_some (s.ap a ha).1, (s.ap a ha).2⟩
  · have c0 := s.cell n c hc
    have ne : ∀ a, w.φ[n]? = some (some a) → upd H C o a = H a := fun a ha => upd_ne fun z => by subst z; exact (s.new hC).1 (List.mem_of_getElem? ha)
    unfold CellR at c0 ⊢
    split at c0
    · obtain ⟨b, xs, h2, h3, h4⟩ := c0; exact ⟨b, xs, h2, by rw [ne b h2]; exact h3, RpL.mv m _ _ h4⟩
    · obtain ⟨b, xs, o', h2, h3, h4⟩ := c0; exact ⟨b, xs, o', h2, by rw [ne b h2]; exact h3, RpL.mv m _ _ h4⟩
    · exact c0
    · obtain ⟨c1, P, ht, t1, t2⟩ := c0; exact ⟨c1, P, ht, t1, TabW.mv m (ne _ t1) t2⟩
    · obtain ⟨h1, h2, h3, ⟨φ, h4, h6⟩, h5⟩ := c0
      exact ⟨h1, List.mem_cons_of_mem _ h2, h3, ⟨φ, by rw [upd_ne (fun z => by rw [z, hC] at h4; cases h4)]; exact h4, h6⟩, h5⟩
    · exact ⟨c0.1, EnvR.mv m c0.2⟩
    · obtain ⟨b, C1, dx, vs, h2, h3, h4, h5, h6⟩ := c0; exact ⟨b, C1, dx, vs, h2, h3, by rw [ne b h2]; exact h4, h5, RpL.mv m _ _ h6⟩
    · obtain ⟨b, es, h2, h3, h4, h5, h6, h7⟩ := c0; exact ⟨b, es, h2, by rw [ne b h2]; exact h3, h4, h5, dct_mv m h6, RpL.mv m _ _ h7⟩
theorem Mv.poke {C : Addr} {o : HO} (hC : C ∈ w.hd) : Mv w H w (upd H C o) := ⟨fun a u h n => ⟨by rw [upd_ne (fun z => by subst z; exact n.2 hC)]; exact h, n⟩, Nat.le_refl _, fun _ _ h _ => h⟩
theorem Sto.poke [Wo] {C : Addr} {o : HO} (s : Sto K mg w S H) (hC : C ∈ w.hd) (hx : ∃ xs, H C = some (.lst xs)) : Sto K mg w S (upd H C o) := by
  have m : Mv w H w (upd H C o) := Mv.poke hC
  refine ⟨s.len, s.nd, fun a ha => ⟨upd_some (s.ap a ha).1, (s.ap a ha).2⟩, fun n c hc => ?_⟩
  have c0 := s.cell n c hc
  have ne : ∀ a, w.φ[n]? = some (some a) → upd H C o a = H a := fun a ha => upd_ne fun z => by subst z; exact (s.ap a hC).2 (List.mem_of_getElem? ha)
  unfold CellR at c0 ⊢
  split at c0
  · obtain ⟨b, xs, h2, h3, h4⟩ := c0; exact ⟨b, xs, h2, by rw [ne b h2]; exact h3, RpL.mv m _ _ h4⟩
  · obtain ⟨b, xs, o', h2, h3, h4⟩ := c0; exact ⟨b, xs, o', h2, by rw [ne b h2]; exact h3, RpL.mv m _ _ h4⟩
  · exact c0
  · obtain ⟨c1, P, ht, t1, t2⟩ := c0; exact ⟨c1, P, ht, t1, TabW.mv m (ne _ t1) t2⟩
  · obtain ⟨h1, h2, h3, ⟨φ, h4, h6⟩, h5⟩ := c0
    obtain ⟨xs, hx⟩ := hx
    exact ⟨h1, h2, h3, ⟨φ, by rw [upd_ne (fun z => by rw [z, hx] at h4; cases h4)]; exact h4, h6⟩, h5⟩
  · exact ⟨c0.1, EnvR.mv m c0.2⟩
  · obtain ⟨b, C1, dx, vs, h2, h3, h4, h5, h6⟩ := c0; exact ⟨b, C1, dx, vs, h2, h3, by rw [ne b h2]; exact h4, h5, RpL.mv m _ _ h6⟩
  · obtain ⟨b, es, h2, h3, h4, h5, h6, h7⟩ := c0; exact ⟨b, es, h2, by rw [ne b h2]; exact h3, h4, h5, dct_mv m h6, RpL.mv m _ _ h7⟩
theorem Mv.show {C : Addr} {h0 : List Addr} (e : w.hd = C :: h0) : Mv w H ⟨w.φ, h0⟩ H := ⟨fun a o h n => ⟨h, n.1, fun z => n.2 (by rw [e]; exact List.mem_cons_of_mem _ z)⟩, Nat.le_refl _, fun _ _ h _ => h⟩
theorem Sto.show [Wo] {C : Addr} {h0 : List Addr} (s : Sto K mg w S H) (e : w.hd = C :: h0) (hx : ∃ xs, H C = some (.lst xs)) : Sto K mg ⟨w.φ, h0⟩ S H := by
  have m : Mv w H ⟨w.φ, h0⟩ H := Mv.show e
  refine ⟨s.len, s.nd, fun a ha => s.ap a (by rw [e]; exact List.mem_cons_of_mem _ ha), fun n c hc => ?_⟩
  have c0 := s.cell n c hc
  unfold CellR at c0 ⊢
  split at c0
  · obtain ⟨b, xs, h2, h3, h4⟩ := c0; exact ⟨b, xs, h2, h3, RpL.mv m _ _ h4⟩
  · obtain ⟨b, xs, o', h2, h3, h4⟩ := c0; exact ⟨b, xs, o', h2, h3, RpL.mv m _ _ h4⟩
  · exact c0
  · obtain ⟨c1, P, ht, t1, t2⟩ := c0; exact ⟨c1, P, ht, t1, TabW.mv m rfl t2⟩
  · obtain ⟨h1, h2, h3, ⟨φ, h4, h6⟩, h5⟩ := c0
    obtain ⟨xs, hx⟩ := hx
    refine ⟨h1, ?_, h3, ⟨φ, h4, h6⟩, h5⟩
    rw [e] at h2
    rcases List.mem_cons.mp h2 with z | z
    · rw [z, hx] at h4; cases h4
    · exact z
  · exact ⟨c0.1, EnvR.mv m c0.2⟩
  · obtain ⟨b, C1, dx, vs, h2, h3, h4, h5, h6⟩ := c0; exact ⟨b, C1, dx, vs, h2, h3, h4, h5, RpL.mv m _ _ h6⟩
  · obtain ⟨b, es, h2, h3, h4, h5, h6, h7⟩ := c0; exact ⟨b, es, h2, h3, h4, h5, dct_mv m h6, RpL.mv m _ _ h7⟩
end
abbrev FG := D → FEnv → Store → Option (FEnv × Store)
abbrev FGs := List D → FEnv → Store → Option (FEnv × Store)
def GOk [Wo] (X : Cx) (w : Wd) (H : Hp) (sl : List Nat) (σ : L2.St) (r : Option (FEnv × Store)) (Q : L2.St → Hp → Prop) : Prop := match r with
  | some (ρ', S') => ∀ w' H' σ', Ext w H w' H' → Sto X.K X.mg w' S' H' → EnvR X.K X.mg w' H' ρ' σ' → (∀ i, i ∉ sl → σ'[i]? = σ[i]?) → σ'.length = σ.length → Q σ' H'
  | none => False
def tG [Wo] (X : Cx) (sl : List Nat) (g : FG) : TG := fun v σ H Q => ∃ w ρ S d, Sto X.K X.mg w S H ∧ EnvR X.K X.mg w H ρ σ ∧ Rp X.K X.mg w H d v ∧ GOk X w H sl σ (g d ρ S) Q
def tGs [Wo] (X : Cx) (sl : List Nat) (g : FGs) : TGs := fun vs σ H Q => ∃ w ρ S ds, Sto X.K X.mg w S H ∧ EnvR X.K X.mg w H ρ σ ∧ RpL X.K X.mg w H ds vs ∧ GOk X w H sl σ (g ds ρ S) Q
theorem PG.wk {X : Cx} {e : Expr} {t t' : TG} (h : PG X e t) (m : ∀ v σ H Q, t' v σ H Q → t v σ H Q) : PG X e t' := ⟨fun pins s σ H v u Q I r k => h.run pins s σ H v u Q I r (m v σ H Q k)⟩
theorem PGs.wk {X : Cx} {e : List Expr} {t t' : TGs} (h : PGs X e t) (m : ∀ v σ H Q, t' v σ H Q → t v σ H Q) : PGs X e t' := ⟨fun pins s σ H v u Q I r k => h.run pins s σ H v u Q I r (m v σ H Q k)⟩
def gN (i : Nat) : FG := fun d ρ S => some (ρ.set i (some d), S)
def gsNil : FGs := fun ds ρ S => match ds with
  | [] => some (ρ, S)
  | _ => none
def gsCons (g : FG) (gs : FGs) : FGs := fun ds ρ S => match ds with
  | d :: r => (match g d ρ S with
    | some (ρ1, S1) => gs r ρ1 S1
    | none => none)
  | [] => none
def gTu (n : Nat) (gs : FGs) : FG := fun d ρ S => match d with
  | .tup ds => if ds.length = n then gs ds ρ S else none
  | _ => none
def gSetI (o i d : D) (S : Store) : Option Store := match o, i with
  | .loc n, .int k => (match cellM S n with
    | some xs => (match ixN xs.length k with
      | some j => some (S.set n (.lst (xs.set j d)))
      | none => none)
    | none => none)
  | _, _ => none
def gSb (fo fi : FE) : FG := fun d ρ S => match fo ρ S with
  | .ok o S1 => (match fi ρ S1 with
    | .ok i S2 => (match gSetI o i d S2 with
      | some S3 => some (ρ, S3)
      | none => none)
    | _ => none)
  | _ => none
section
variable {X : Cx} {W : WX} {pos : Pos} {e : Expr} {es : List Expr}
theorem GOk.imp [Wo] {w : Wd} {H : Hp} {sl sl' : List Nat} {σ : L2.St} {r : Option (FEnv × Store)} {Q Q' : L2.St → Hp → Prop} (h : GOk X w H sl σ r Q) (hs : ∀ i, i ∉ sl → i ∉ sl') (hq : ∀ σ H, Q σ H → Q' σ H) : GOk X w H sl' σ r Q' := by
  unfold GOk at h ⊢
  split
  · intro w' H' σ' e s en k l
    exact hq _ _ (h w' H' σ' e s en (fun i hi => k i (hs i hi)) l)
  · exact h
theorem q_gn [Wo] {i : Nat} {x : Str} (hN : X.N.Nodup) (hi : X.N[i]? = some x) (hx : Loc X.env.scope x) (hf : X.fn x = true ∨ X.env.scope.names.lookup x = some .local := by first | exact .inl rfl | exact .inr rfl | assumption) : PG X (.Name x pos) (tG X [i] (gN i)) :=
  PG.wk (pg_name hN hi hx hf) fun v σ H Q ⟨w, ρ, S, d, s, en, r, h⟩ => h w H _ Ext.refl s (en.set r) (fun j hj => by
    rw [List.getElem?_set_ne (fun z => hj (by rw [z]; exact List.mem_singleton.mpr rfl))]) (by rw [List.length_set])
theorem q_gsnil [Wo] : PGs X [] (tGs X [] gsNil) := PGs.wk pgs_nil fun v σ H Q ⟨w, ρ, S, ds, s, en, r, h⟩ => by
  unfold gsNil at h
  split at h
  · unfold RpL at r
    exact ⟨r, h w H σ Ext.refl s en (fun _ _ => rfl) rfl⟩
  · exact h.elim
theorem q_gscons [Wo] {g : FG} {gs : FGs} {sl sl2 : List Nat} (h1 : PG X e (tG X sl g)) (h2 : PGs X es (tGs X sl2 gs)) (hs : (assignEach (e :: es) X.env).map (·.2) = assign e X.env :: (assignEach es X.env).map (·.2) := by rfl) : PGs X (e :: es) (tGs X (sl ++ sl2) (gsCons g gs)) :=
  PGs.wk (pgs_cons h1 h2 hs) fun vs σ H Q ⟨w, ρ, S, ds, s, en, r, h⟩ => by
    unfold gsCons at h
    split at h
    · rename_i d ds'
      unfold RpL at r
      obtain ⟨v, vs', e1, r1, r2⟩ := r
      refine ⟨v, vs', e1, w, ρ, S, d, s, en, r1, ?_⟩
      split at h
      · rename_i ρ1 S1 hg
        rw [hg]
        intro w' H' σ' ex s' en' k l
        refine ⟨w', ρ1, S1, ds', s', en', RpL.ext ex _ _ r2, ?_⟩
        unfold GOk at h ⊢
        split at h
        · intro w2 H2 σ2 ex2 s2 en2 k2 l2
          exact h w2 H2 σ2 (ex.trans ex2) s2 en2 (fun i hi => by
            rw [k2 i (fun z => hi (List.mem_append_right _ z)), k i (fun z => hi (List.mem_append_left _ z))]) (l2.trans l)
        · exact h
      · exact h.elim
    · exact h.elim
theorem q_gtu [Wo] {k n : Nat} {gs : FGs} {sl : List Nat} (hc : X.calm = true) (h : PGs X es (tGs X sl gs)) (hn : (assignEach es X.env).length = n := by rfl) (hst : (assignEach es X.env).findIdx? (·.1) = none := by rfl) : PG X (.Tuple es k pos) (tG X sl (gTu n gs)) :=
  PG.wk (pg_tup hc h hn hst) fun v σ H Q ⟨w, ρ, S, d, s, en, r, h⟩ => by
    unfold gTu at h
    split at h
    · rename_i ds
      split at h
      · rename_i hl
        obtain ⟨a, xs, e1, t1, q1⟩ := tup_at r
        exact ⟨a, xs, e1, t1, by rw [← q1.length]; exact hl, w, ρ, S, ds, s, en, q1, h⟩
      · exact h.elim
    · exact h.elim
theorem setI_at [Wo] {w : Wd} {S S' : Store} {H : Hp} {o i d : D} {ov iv v : V} (s : Sto X.K X.mg w S H) (ro : Rp X.K X.mg w H o ov) (ri : Rp X.K X.mg w H i iv) (rd : Rp X.K X.mg w H d v) (h : gSetI o i d S = some S') {Q : Hp → Prop} (hq : ∀ H', Ext w H w H' → Sto X.K X.mg w S' H' → Q H') : rSetL ov iv v H Q := by
  unfold gSetI at h
  split at h
  · rename_i n k
    split at h
    · rename_i xs hx
      split at h
      · rename_i j hj
        cases h
        obtain ⟨a, vs, h1, h2, h3⟩ := cellM_at s hx
        unfold Rp at ro
        refine ⟨a, vs, k, j, ro.2 a h1, rp_int ri, h2, by rw [← h3.length]; exact hj, hq _ (Ext.write h1) (s.write h1 (cellM_lt hx) (h3.set j rd))⟩
      · cases h
    · cases h
  · cases h
theorem q_gsb [Wo] {o i : Expr} {fo fi : FE} (ho : PE X o (tF X W fo)) (hi : PE X i (tF X W fi)) (ha : ∀ v, assign (.Subscript o i pos) X.env v = (do
      let ov ← holding [v] (eval o X.env)
      let iv ← holding [v, ov] (eval i X.env)
      standAt pos
      holding [v, ov, iv] (setItem ov iv v)
      release [v, ov, iv] []) := by intro _; rfl) : PG X (.Subscript o i pos) (tG X [] (gSb fo fi)) :=
  PG.wk (pg_sub ho hi set_list ha) fun v σ H Q ⟨w, ρ, S, d, s, en, r, h⟩ => by
    unfold gSb at h
    split at h
    · rename_i od S1 h1
      split at h
      · rename_i id S2 h2
        split at h
        · rename_i S3 h3
          refine ⟨w, ρ, S, s, en, ?_⟩
          rw [h1]
          intro w1 H1 ov e1 s1 r1
          refine ⟨w1, ρ, S1, s1, en.ext e1, ?_⟩
          rw [h2]
          intro w2 H2 iv e2 s2 r2
          have ex := e1.trans e2
          refine setI_at s2 (Rp.ext e2 _ _ r1) r2 (Rp.ext ex _ _ r) h3 fun H3 e3 s3 => ?_
          exact h w2 H3 σ (ex.trans e3) s3 (en.ext (ex.trans e3)) (fun _ _ => rfl) rfl
        · exact h.elim
      · exact h.elim
    · exact h.elim
/-- target = value -/
def sAsg (f : FE) (g : FG) : FS := fun ρ S => (f ρ S).toS ρ fun d S1 => match g d ρ S1 with
  | some (ρ', S') => .nx ρ' S'
  | none => .no
theorem q_asg [Wo] {tg : Expr} {fe : FE} {g : FG} {sl : List Nat} (he : PE X e (tF X W fe)) (hg : PG X tg (tG X sl g)) (hs : swapsWithSole [tg] e pos.line X.env = pure false := by rfl) (hw : swappedStores [tg] e X.env = pure none := by rfl) (h1 : (assignEach [tg] X.env).map (·.2) = [assign tg X.env] := by rfl) : PS X (.Assign [tg] e pos) (tS X W (sAsg fe g)) :=
  PS.wk (ps_asg he hg hs hw h1) fun D σ H ⟨w, ρ, S, s, en, h⟩ => ⟨w, ρ, S, s, en, (h.of (R := fun w H => Rp X.K X.mg w H) en).imp (fun v H1 ⟨w1, S1, d, e1, s1, r1, h1⟩ => by
    refine ⟨w1, ρ, S1, d, s1, en.ext e1, r1, ?_⟩
    split at h1
    · rename_i ρ' S' hg'
      rw [hg']
      intro w2 H2 σ2 e2 s2 en2 _ _
      exact h1 w2 H2 σ2 e2 s2 en2
    · exact h1.elim) (fun _ _ _ z => z)⟩
/-- a, b = x, y -/
def sPar (i j : Nat) (f : FA) : FS := fun ρ S => (f ρ S).toS ρ fun ds S1 => match ds with
  | [x, y] => .nx ((ρ.set i (some x)).set j (some y)) S1
  | _ => .no
end
abbrev Its' := List D × Option (Nat × List D)
/-- the list that is walked is as it was -/
def gd (g : Option (Nat × List D)) (S : Store) : Prop := match g with
  | none => True
  | some (n, ds) => cellOf S n = some ds
open Classical in
noncomputable def gchk (g : Option (Nat × List D)) (S : Store) {α : Type} (a b : α) : α := if gd g S then a else b
def ItOk [Wo] (K : PySem.W.Frag) (mg : Str → Option Value) (w : Wd) (H : Hp) (p : Its') (J : It) : Prop :=
  ∀ w' S' H', Mv w H w' H' → Sto K mg w' S' H' → gd p.2 S' → (∀ i, p.1.length ≤ i → J.stop i H') ∧ ∀ i d, p.1[i]? = some d → J.go i H' ∧ ∀ x H'', J.yld i H' x H'' → Ext w' H' w' H'' ∧ Sto K mg w' S' H'' ∧ Rp K mg w' H'' d x
abbrev FI := FEnv → Store → RE Its'
def tI [Wo] (X : Cx) (W : WX) (f : FI) : TI := fun σ H R => ∃ w ρ S, Sto X.K X.mg w S H ∧ EnvR X.K X.mg w H ρ σ ∧ End X.K X.mg (ItOk X.K X.mg) w H (f ρ S) R (fun c od H' => W c od σ H')
theorem PI.wk {X : Cx} {tg e : Expr} {t t' : TI} (h : PI X tg e t) (m : ∀ σ H R, t' σ H R → t σ H R) : PI X tg e t' := ⟨fun pins s σ H R I k => h.run pins s σ H R I (m σ H R k)⟩
/-- a list or a tuple -/
def iSeq (S : Store) : D → Option Its'
  | .lst ds => some (ds, none)
  | .fls ds => some (ds, none)
  | .loc n => (cellOf S n).map fun ds => (ds, some (n, ds))
  | _ => none
def fiL (f : FE) : FI := fun ρ S => (f ρ S).bnd fun x S1 => match iSeq S1 x with
  | some p => .ok p S1
  | none => .no
def fiT (f : FE) : FI := fun ρ S => (f ρ S).bnd fun x S1 => match x with
  | .tup ds => .ok (ds, none) S1
  | _ => .no
def chrs (z : Str) : List D := z.cps.toList.map fun c => .str ⟨#[c]⟩
def fiS (f : FE) : FI := fun ρ S => (f ρ S).bnd fun x S1 => match x with
  | .str z => .ok (chrs z, none) S1
  | _ => .no
def rngD (lo : Int) : Nat → List D
  | 0 => []
  | n + 1 => .int lo :: rngD (lo + 1) n
def fiR1 (f : FA) : FI := fun ρ S => (f ρ S).bnd fun ds S1 => match ds with
  | [.int j] => if -(2 ^ 62) ≤ j ∧ j < 2 ^ 62 then .ok (rngD 0 j.toNat, none) S1 else .no
  | _ => .no
def enumD : Nat → List D → List D
  | _, [] => []
  | i, d :: r => .tup [.int i, d] :: enumD (i + 1) r
def fiE (f : FA) : FI := fun ρ S => (f ρ S).bnd fun ds S1 => match ds with
  | [x] => (match iSeq S1 x with
    | some (xs, g) => .ok (enumD 0 xs, g) S1
    | none => .no)
  | _ => .no
section
variable {K : PySem.W.Frag} {mg : Str → Option Value} {w w' : Wd} {H H' : Hp} {S S' : Store}
/-- a walked list, at any later time -/
theorem iSeq_at [Wo] {x : D} {v : V} {p : Its'} (s : Sto K mg w S H) (r : Rp K mg w H x v) (h : iSeq S x = some p) : ∃ a, v = .ref a ∧ (∃ xs, SqL K H a xs) ∧
    ∀ w' S' H', Mv w H w' H' → Sto K mg w' S' H' → gd p.2 S' → ∃ xs, SqL K H' a xs ∧ RpL K mg w' H' p.1 xs := by
  cases x <;> simp only [iSeq] at h <;> try (cases h; done)
  · cases h
    unfold Rp at r
    obtain ⟨a, xs, e, t, o, q⟩ := r
    refine ⟨a, e, ⟨xs, .of t⟩, fun w' S' H' m s' _ => ?_⟩
    obtain ⟨t', o'⟩ := m.fr a _ t o
    exact ⟨xs, .of t', RpL.mv m _ _ q⟩
  · rename_i n
    simp only [Option.map_eq_some_iff] at h
    obtain ⟨ds, h1, h2⟩ := h
    subst h2
    obtain ⟨a, xs, h3, h4, h5⟩ := cellOf_at s h1
    unfold Rp at r
    refine ⟨a, r.2 a h3, ⟨xs, .inl h4⟩, fun w' S' H' m s' g => ?_⟩
    obtain ⟨b, ys, k3, k4, k5⟩ := cellOf_at s' (show cellOf S' n = some ds from g)
    have := m.ph n b k3 r.1
    rw [h3] at this
    cases this
    exact ⟨ys, .inl k4, k5⟩
  · cases h
    unfold Rp at r
    obtain ⟨a, xs, e, t, q⟩ := r
    refine ⟨a, e, ⟨xs, t.sq⟩, fun w' S' H' m s' _ => ?_⟩
    have t' : Fp K w' H' a xs := by
      rcases t with ⟨o, t, n⟩ | t
      · exact .inl ⟨o, m.fr _ _ t n⟩
      · exact .inr t
    exact ⟨xs, t'.sq, RpL.mv m _ _ q⟩
theorem Rd.inj {a : Addr} {u u' : HO} (h : Rd H a u) (h' : Rd H a u') (n : ∀ o q, u ≠ .frz o q) (n' : ∀ o q, u' ≠ .frz o q) : u = u' := by
  rcases h with h | ⟨o, h⟩ <;> rcases h' with h' | ⟨o', h'⟩
  · rw [h] at h'; cases h'; rfl
  · rw [h] at h'; cases h'; exact absurd rfl (n _ _)
  · rw [h] at h'; cases h'; exact absurd rfl (n' _ _)
  · rw [h] at h'; cases h'; rfl
theorem itl_ok [Wo] {x : D} {v : V} {p : Its'} (s : Sto K mg w S H) (r : Rp K mg w H x v) (h : iSeq S x = some p) {R : It → Hp → Prop} {E : Value → Option Addr → Hp → Prop} (he : End K mg (ItOk K mg) w H (.ok p S) R E) : ∃ a, v = .ref a ∧ (∃ xs, SqL K H a xs) ∧ R (Itl K a) H := by
  obtain ⟨a, e, ex, k⟩ := iSeq_at s r h
  refine ⟨a, e, ex, he w H _ Ext.refl s fun w' S' H' m s' g => ?_⟩
  obtain ⟨xs, q1, q2⟩ := k w' S' H' m s' g
  refine ⟨fun i hi => ⟨xs, q1, by rw [← q2.length]; exact hi⟩, fun i d hd => ?_⟩
  obtain ⟨u, h1, h2⟩ := q2.get hd
  refine ⟨⟨xs, u, q1, h1⟩, fun y H'' hy => ?_⟩
  obtain ⟨rfl, hy⟩ := hy
  have := hy xs q1
  rw [h1] at this
  cases this
  exact ⟨Ext.refl, s', h2⟩
theorem enumD_get : ∀ (l : List D) (k i : Nat) (d : D), (enumD k l)[i]? = some d → ∃ y, l[i]? = some y ∧ d = .tup [.int ((k + i : Nat) : Int), y]
  | [], k, i, d, h => by simp [enumD] at h
  | y :: l, k, 0, d, h => by simp [enumD] at h; exact ⟨y, rfl, by rw [← h]; rfl⟩
  | y :: l, k, i + 1, d, h => by
    simp only [enumD, List.getElem?_cons_succ] at h
    obtain ⟨z, h1, h2⟩ := enumD_get l (k + 1) i d h
    exact ⟨z, by simpa using h1, by rw [h2]; rw [show k + 1 + i = k + (i + 1) by omega]⟩
theorem enumD_len : ∀ (l : List D) (k : Nat), (enumD k l).length = l.length
  | [], _ => rfl
  | _ :: l, k => by simp [enumD, enumD_len l (k + 1)]
theorem pair_new [Wo] {p : Addr} {d e : D} {x y : V} (s : Sto K mg w S H) (np : H p = none) (r1 : Rp K mg w H d x) (r2 : Rp K mg w H e y) : Ext w H w (upd H p (.tup [x, y])) ∧ Sto K mg w S (upd H p (.tup [x, y])) ∧ Rp K mg w (upd H p (.tup [x, y])) (.tup [d, e]) (.ref p) := by
  have ex : Ext w H w (upd H p (.tup [x, y])) := Ext.new np
  refine ⟨ex, s.beside np, ?_⟩
  unfold Rp
  exact ⟨p, _, rfl, .inl ⟨upd_same, s.new np⟩, RpL.cons (Rp.ext ex _ _ r1) (RpL.one (Rp.ext ex _ _ r2))⟩
end
section
variable {X : Cx} {W : WX} {tg e e2 : Expr} {fe : FE} {fa : FA} {p pos : Pos}
theorem qi_list [Wo] (he : PE X e (tF X W fe)) : PI X tg e (tI X W (fiL fe)) := PI.wk (pi_list he) fun σ H R ⟨w, ρ, S, s, en, h⟩ =>
  ⟨w, ρ, S, s, en, (End.bind (R := fun w H => Rp X.K X.mg w H) h).imp (fun v H1 ⟨w1, S1, d, e1, s1, r1, h1⟩ => by
    split at h1
    · rename_i q hq; exact itl_ok s1 r1 hq h1
    · exact h1.elim) (fun _ _ _ z => z)⟩
theorem qi_str [Wo] (he : PE X e (tF X W fe)) : PI X tg e (tI X W (fiS fe)) := PI.wk (pi_str he) fun σ H R ⟨w, ρ, S, s, en, h⟩ =>
  ⟨w, ρ, S, s, en, (End.bind (R := fun w H => Rp X.K X.mg w H) h).imp (fun v H1 ⟨w1, S1, d, e1, s1, r1, h1⟩ => by
    split at h1
    · rename_i z
      refine ⟨z, rp_str r1, h1 w1 H1 _ Ext.refl s1 fun w' S' H' m s' g => ?_⟩
      refine ⟨fun i hi => (show z.cps.size ≤ i by simpa [chrs] using hi), fun i d hd => ?_⟩
      have hd' : ∃ c, z.cps.toList[i]? = some c ∧ d = .str ⟨#[c]⟩ := by
        simp only [chrs, List.getElem?_map, Option.map_eq_some_iff] at hd
        obtain ⟨c, a, b⟩ := hd
        exact ⟨c, a, b.symm⟩
      obtain ⟨c, k1, k2⟩ := hd'
      rw [Array.getElem?_toList] at k1
      refine ⟨(Array.getElem?_eq_some_iff.mp k1).1, fun y H'' hy => ?_⟩
      obtain ⟨rfl, c', k3, rfl⟩ := hy
      rw [k1] at k3
      cases k3
      subst k2
      exact ⟨Ext.refl, s', rp_s⟩
    · exact h1.elim) (fun _ _ _ z => z)⟩
theorem rngD_len : ∀ (n : Nat) (lo : Int), (rngD lo n).length = n
  | 0, _ => rfl
  | n + 1, lo => by simp [rngD, rngD_len n (lo + 1)]
theorem rngD_get : ∀ (n : Nat) (lo : Int) (i : Nat) (d : D), (rngD lo n)[i]? = some d → i < n ∧ d = .int (lo + i)
  | 0, lo, i, d, h => by simp [rngD] at h
  | n + 1, lo, 0, d, h => by simp [rngD] at h; exact ⟨Nat.succ_pos _, by rw [← h]; simp⟩
  | n + 1, lo, i + 1, d, h => by
    simp only [rngD, List.getElem?_cons_succ] at h
    obtain ⟨h1, h2⟩ := rngD_get n (lo + 1) i d h
    exact ⟨Nat.succ_lt_succ h1, by rw [h2]; congr 1; omega⟩
theorem rng_ok [Wo] {K : PySem.W.Frag} {mg : Str → Option Value} {w : Wd} {H : Hp} (lo : Int) (n : Nat) : ItOk K mg w H (rngD lo n, none) (Itr lo n) := by
  intro w' S' H' m s' g
  refine ⟨fun i hi => (show n ≤ i by have h2 : (rngD lo n).length ≤ i := hi; rw [rngD_len] at h2; exact h2), fun i d hd => ?_⟩
  obtain ⟨h1, rfl⟩ := rngD_get n lo i d hd
  refine ⟨h1, fun y H'' hy => ?_⟩
  obtain ⟨rfl, rfl⟩ := hy
  exact ⟨Ext.refl, s', rp_i⟩
theorem qi_range1 [Wo] (hg : Gl X "range") (hm : X.mg "range" = none) (ha : PA X [e] (tA X W fa)) (hs : starEach [e] X.env = [(false, eval e X.env)] := by rfl) : PI X tg (.Call (.Name "range" p) [e] [] pos) (tI X W (fiR1 fa)) := PI.wk (pi_range1 hg hm ha hs) fun σ H R ⟨w, ρ, S, s, en, h⟩ =>
  ⟨w, ρ, S, s, en, (End.bind (R := fun w H => RpL X.K X.mg w H) h).imp (fun vs H1 ⟨w1, S1, ds, e1, s1, r1, h1⟩ => by
    split at h1
    · split at h1
      · rename_i j hj
        obtain ⟨v, rfl, r2⟩ := r1.one_inv
        exact ⟨j, by rw [rp_int r2], hj.1, hj.2, h1.ret s1 (rng_ok 0 _)⟩
      · exact h1.elim
    · exact h1.elim) (fun _ _ _ z => z)⟩
theorem qi_enum [Wo] {elts : List Expr} {kk : Nat} {tpos : Pos} (hg : Gl X "enumerate") (hm : X.mg "enumerate" = none) (ha : PA X [e] (tA X W fa)) (hs : starEach [e] X.env = [(false, eval e X.env)] := by rfl) : PI X (.Tuple elts kk tpos) (.Call (.Name "enumerate" p) [e] [] pos) (tI X W (fiE fa)) := PI.wk (pi_enum hg hm ha hs) fun σ H R ⟨w, ρ, S, s, en, h⟩ =>
  ⟨w, ρ, S, s, en, (End.bind (R := fun w H => RpL X.K X.mg w H) h).imp (fun vs H1 ⟨w1, S1, ds, e1, s1, r1, h1⟩ => by
    split at h1
    · rename_i x
      split at h1
      · rename_i xs g hx
        obtain ⟨v, rfl, r2⟩ := r1.one_inv
        obtain ⟨a, e, ⟨ys, ey⟩, k⟩ := iSeq_at s1 r2 hx
        refine ⟨a, ys, by rw [e], ey, h1.ret s1 fun w' S' H' m s' g' => ?_⟩
        obtain ⟨zs, q1, q2⟩ := k w' S' H' m s' g'
        refine ⟨fun i hi => ⟨zs, q1, ?_⟩, fun i d hd => ?_⟩
        · have h2 : (enumD 0 xs).length ≤ i := hi
          rw [enumD_len] at h2
          rw [← q2.length]; exact h2
        · obtain ⟨y, k1, k2⟩ := enumD_get _ _ _ _ hd
          obtain ⟨u, k3, k4⟩ := q2.get k1
          refine ⟨⟨zs, u, q1, k3⟩, fun z H'' hz => ?_⟩
          obtain ⟨T, x', rfl, nT, rfl, hx'⟩ := hz
          have := hx' zs q1
          rw [k3] at this
          cases this
          subst k2
          have pr := pair_new (d := .int ((0 + i : Nat) : Int)) s' nT rp_i k4
          rw [Nat.zero_add] at pr ⊢
          exact pr
      · exact h1.elim
    · exact h1.elim) (fun _ _ _ z => z)⟩
end
noncomputable def forL (tg : FG) (b : FS) (g : Option (Nat × List D)) : List D → FS
  | [] => fun ρ S => gchk g S (.nx ρ S) .no
  | d :: r => fun ρ S => gchk g S (match tg d ρ S with
    | some (ρ1, S1) => (match b ρ1 S1 with
      | .nx ρ2 S2 => forL tg b g r ρ2 S2
      | .ct ρ2 S2 => forL tg b g r ρ2 S2
      | .bk ρ2 S2 => .nx ρ2 S2
      | z => z)
    | none => .no) .no
noncomputable def sFor (fi : FI) (tg : FG) (b : FS) : FS := fun ρ S => (fi ρ S).toS ρ fun p S1 => forL tg b p.2 p.1 ρ S1
theorem gchk_in [Wo] {K : PySem.W.Frag} {mg : Str → Option Value} {w : Wd} {H : Hp} {D : Ends} {W : WX} {g : Option (Nat × List Kw.D)} {S : Store} {r : RS} (h : EndS K mg w H (gchk g S r .no) D W) : gd g S ∧ EndS K mg w H r D W := by
  unfold gchk at h
  split at h
  · rename_i k; exact ⟨k, h⟩
  · exact h.elim
section
variable {X : Cx} {W : WX} {tg iter : Expr} {body : List Stmt} {fi : FI} {g : FG} {sl : List Nat} {b : FS} {pos : Pos}
theorem q_for [Wo] (hp : PassesOwn (model X.prog X.w) X.A X.env X.xe) (hc : X.calm = true) (hi : PI X tg iter (tI X W fi)) (hg : PG X tg (tG X sl g)) (hb : PSs X body (tS X W b)) (hs : ∀ x, foldedSetIterable iter X.env x = pure x := by intro _; rfl) : PS X (.For tg iter body [] pos) (tS X W (sFor fi g b)) :=
  PS.wk (ps_for hp hc hi hg hb hs) fun D σ H ⟨w, ρ, S, s, en, h⟩ => by
    refine ⟨w, ρ, S, s, en, (h.of (R := ItOk X.K X.mg) en).imp ?_ (fun _ _ _ z => z)⟩
    rintro J H1 ⟨w1, S1, ⟨items, gu⟩, e1, s1, J1, h1⟩
    refine ⟨fun i m σ' H' => ∃ w' ρ' S', i + m = items.length ∧ Ext w1 H1 w' H' ∧ Sto X.K X.mg w' S' H' ∧ EnvR X.K X.mg w' H' ρ' σ' ∧ EndS X.K X.mg w' H' (forL g b gu (items.drop i) ρ' S') D W, ⟨items.length, w1, ρ, S1, by omega, Ext.refl, s1, en.ext e1, h1⟩, ?_⟩
    rintro i m σ' H' ⟨w', ρ', S', hm, ex, s', en', h2⟩
    cases hd : items.drop i with
    | nil =>
      rw [hd] at h2
      unfold forL at h2
      obtain ⟨gd1, h3⟩ := gchk_in h2
      have hl : items.length ≤ i := List.drop_eq_nil_iff.mp hd
      exact .inl ⟨(J1 w' S' H' ex.mv s' gd1).1 i hl, h3.nx' s' en'⟩
    | cons d r =>
      rw [hd] at h2
      unfold forL at h2
      obtain ⟨gd1, h3⟩ := gchk_in h2
      have hi' : items[i]? = some d := by
        have := congrArg (·[0]?) hd
        simpa using this
      have hr : items.drop (i + 1) = r := by
        have := congrArg List.tail hd
        simpa using this
      have hlt : i < items.length := (List.getElem?_eq_some_iff.mp hi').1
      obtain ⟨j1, j2⟩ := (J1 w' S' H' ex.mv s' gd1).2 i d hi'
      refine .inr ⟨j1, fun σ2 H2 => ∃ w2 ρ2 S2, Ext w1 H1 w2 H2 ∧ Sto X.K X.mg w2 S2 H2 ∧ EnvR X.K X.mg w2 H2 ρ2 σ2 ∧ EndS X.K X.mg w2 H2 (forL g b gu r ρ2 S2) D W, ?_, ?_⟩
      · rintro σ2 H2 ⟨w2, ρ2, S2, a1, a2, a3, a4⟩
        exact ⟨m - 1, by omega, w2, ρ2, S2, by omega, a1, a2, a3, by rw [hr]; exact a4⟩
      · intro x H'' hy
        obtain ⟨j3, j4, j5⟩ := j2 x H'' hy
        have h3' := h3.on j3
        refine ⟨w', ρ', S', d, j4, en'.ext j3, j5, ?_⟩
        split at h3'
        · rename_i ρ1 S1' hg1
          rw [hg1]
          intro w2 H2 σ2 e2 s2 en2 _ _
          have h4 := h3'.on e2
          have ex2 : Ext w1 H1 w2 H2 := (ex.trans j3).trans e2
          refine ⟨w2, ρ1, S1', s2, en2, ?_⟩
          revert h4
          cases b ρ1 S1' with
          | nx ρ3 S3 => exact fun h4 w3 H3 σ3 e3 s3 en3 => ⟨w3, ρ3, S3, ex2.trans e3, s3, en3, h4.on e3⟩
          | ct ρ3 S3 => exact fun h4 w3 H3 σ3 e3 s3 en3 => ⟨w3, ρ3, S3, ex2.trans e3, s3, en3, h4.on e3⟩
          | bk ρ3 S3 => exact fun h4 => h4
          | rt d S3 => exact fun h4 => h4
          | ex x ρ3 S3 => exact fun h4 => h4
          | no => exact fun h4 => h4
        · exact h3'.elim
end
def wLoop (c : FT) (b : FS) : Nat → FS
  | 0 => fun _ _ => .no
  | n + 1 => fun ρ S => (c ρ S).toS ρ fun k S1 => match k with
    | true => (match b ρ S1 with
      | .nx ρ2 S2 => wLoop c b n ρ2 S2
      | .ct ρ2 S2 => wLoop c b n ρ2 S2
      | .bk ρ2 S2 => .nx ρ2 S2
      | z => z)
    | false => .nx ρ S1
open Classical in
noncomputable def sWhile (c : FT) (b : FS) : FS := fun ρ S => if h : ∃ n, wLoop c b n ρ S ≠ .no then wLoop c b (choose h) ρ S else .no
theorem wLoop_mono {c : FT} {b : FS} : ∀ {n m : Nat} {ρ : FEnv} {S : Store}, n ≤ m → wLoop c b n ρ S ≠ .no → wLoop c b m ρ S = wLoop c b n ρ S
  | 0, _, _, _, _, h => absurd rfl h
  | n + 1, 0, _, _, l, _ => absurd l (by omega)
  | n + 1, m + 1, ρ, S, l, h => by
    unfold wLoop at h ⊢
    cases hc : c ρ S with
    | ok k S1 =>
      rw [hc] at h
      cases k with
      | true =>
        simp only [RE.toS] at h ⊢
        cases hb : b ρ S1 with
        | nx ρ2 S2 =>
          rw [hb] at h
          exact wLoop_mono (Nat.le_of_succ_le_succ l) h
        | ct ρ2 S2 =>
          rw [hb] at h
          exact wLoop_mono (Nat.le_of_succ_le_succ l) h
        | _ => rfl
      | false => rfl
    | _ => rfl
theorem sWhile_eq {c : FT} {b : FS} {n : Nat} {ρ : FEnv} {S : Store} (h : wLoop c b n ρ S ≠ .no) : sWhile c b ρ S = wLoop c b n ρ S := by
  unfold sWhile
  have hx : ∃ n, wLoop c b n ρ S ≠ .no := ⟨n, h⟩
  rw [dif_pos hx]
  have hk := Classical.choose_spec hx
  rcases Nat.le_total n (Classical.choose hx) with l | l
  · exact wLoop_mono l h
  · exact (wLoop_mono l hk).symm
/-- one turn -/
theorem sWhile_step (c : FT) (b : FS) (ρ : FEnv) (S : Store) : sWhile c b ρ S = (c ρ S).toS ρ fun k S1 => match k with
    | true => (match b ρ S1 with
      | .nx ρ2 S2 => sWhile c b ρ2 S2
      | .ct ρ2 S2 => sWhile c b ρ2 S2
      | .bk ρ2 S2 => .nx ρ2 S2
      | z => z)
    | false => .nx ρ S1 := by
  by_cases hx : ∃ n, wLoop c b n ρ S ≠ .no
  · obtain ⟨n, hn⟩ := hx
    cases n with
    | zero => exact absurd rfl hn
    | succ n =>
      rw [sWhile_eq hn]
      unfold wLoop at hn ⊢
      cases hc : c ρ S with
      | ok k S1 =>
        rw [hc] at hn
        cases k with
        | true =>
          simp only [RE.toS] at hn ⊢
          cases hb : b ρ S1 with
          | nx ρ2 S2 => rw [hb] at hn; exact (sWhile_eq hn).symm
          | ct ρ2 S2 => rw [hb] at hn; exact (sWhile_eq hn).symm
          | _ => rfl
        | false => rfl
      | _ => rfl
  · have e0 : sWhile c b ρ S = .no := by unfold sWhile; rw [dif_neg hx]
    rw [e0]
    have key : ∀ n, wLoop c b n ρ S = .no := fun n => Classical.byContradiction fun z => hx ⟨n, z⟩
    cases hc : c ρ S with
    | ok k S1 =>
      cases k with
      | true =>
        simp only [RE.toS]
        have k1 : ∀ n, (match b ρ S1 with
            | .nx ρ2 S2 => wLoop c b n ρ2 S2
            | .ct ρ2 S2 => wLoop c b n ρ2 S2
            | .bk ρ2 S2 => .nx ρ2 S2
            | z => z) = RS.no := fun n => by
          have := key (n + 1)
          unfold wLoop at this
          rw [hc] at this
          exact this
        cases hb : b ρ S1 with
        | nx ρ2 S2 =>
          simp only [hb] at k1
          show RS.no = sWhile c b ρ2 S2
          unfold sWhile
          rw [dif_neg (fun ⟨n, hn⟩ => hn (k1 n))]
        | ct ρ2 S2 =>
          simp only [hb] at k1
          show RS.no = sWhile c b ρ2 S2
          unfold sWhile
          rw [dif_neg (fun ⟨n, hn⟩ => hn (k1 n))]
        | rt d1 S2 => have z := k1 0; rw [hb] at z; exact (nomatch z)
        | ex d1 ρ2 S2 => have z := k1 0; rw [hb] at z; exact (nomatch z)
        | bk ρ2 S2 => have z := k1 0; rw [hb] at z; exact (nomatch z)
        | no => rfl
      | false =>
        have := key 1
        unfold wLoop at this
        rw [hc] at this
        exact this.symm
    | ex x S1 =>
      have := key 1
      unfold wLoop at this
      rw [hc] at this
      exact this.symm
    | no => rfl
section
variable {X : Cx} {W : WX} {c : Expr} {body : List Stmt} {tc : FT} {b : FS} {pos : Pos}
theorem q_while [Wo] (hp : PassesOwn (model X.prog X.w) X.A X.env X.xe) (hc : PT X c (tT X W tc)) (hb : PSs X body (tS X W b)) : PS X (.While c body [] pos) (tS X W (sWhile tc b)) :=
  PS.wk (ps_while hp hc hb) fun D σ H ⟨w, ρ, S, s, en, h⟩ => by
    refine ⟨fun m σ' H' => ∃ w' ρ' S', Sto X.K X.mg w' S' H' ∧ EnvR X.K X.mg w' H' ρ' σ' ∧ EndS X.K X.mg w' H' (wLoop tc b m ρ' S') D W, ?_, ?_⟩
    · unfold sWhile at h
      split at h
      · exact ⟨_, w, ρ, S, s, en, h⟩
      · exact h.elim
    · rintro m σ' H' ⟨w', ρ', S', s', en', h'⟩
      cases m with
      | zero => exact h'.elim
      | succ n =>
        unfold wLoop at h'
        refine ⟨w', ρ', S', s', en', (h'.of (R := fun _ _ (a b : Bool) => b = a) en').imp ?_ (fun _ _ _ z => z)⟩
        rintro k H1 ⟨w1, S1, k', e1, s1, rfl, h1⟩
        cases k with
        | false => rw [if_neg (by decide)]; exact h1.nx' s1 (en'.ext e1)
        | true =>
          rw [if_pos rfl]
          refine ⟨fun σ2 H2 => ∃ w2 ρ2 S2, Sto X.K X.mg w2 S2 H2 ∧ EnvR X.K X.mg w2 H2 ρ2 σ2 ∧ EndS X.K X.mg w2 H2 (wLoop tc b n ρ2 S2) D W, fun σ2 H2 h2 => ⟨n, Nat.lt_succ_self n, h2⟩, w1, ρ', S1, s1, en'.ext e1, ?_⟩
          revert h1
          cases b ρ' S1 with
          | nx ρ3 S3 => exact fun h4 w3 H3 σ3 e3 s3 en3 => ⟨w3, ρ3, S3, s3, en3, h4.on e3⟩
          | ct ρ3 S3 => exact fun h4 w3 H3 σ3 e3 s3 en3 => ⟨w3, ρ3, S3, s3, en3, h4.on e3⟩
          | bk ρ3 S3 => exact fun h4 => h4
          | rt d S3 => exact fun h4 => h4
          | ex x ρ3 S3 => exact fun h4 => h4
          | no => exact fun h4 => h4
end
def wipeR (ρ : FEnv) : List Nat → FEnv
  | [] => ρ
  | v :: vs => (wipeR ρ vs).set v none
noncomputable def compL (tg : FG) (tt : FT) (te : FE) (g : Option (Nat × List D)) (ρ : FEnv) : List D → List D → Store → RE (List D)
  | [], acc, S => gchk g S (.ok acc S) .no
  | d :: r, acc, S => gchk g S (match tg d ρ S with
    | some (ρ1, S1) => (match tt ρ1 S1 with
      | .ok true S2 => (match te ρ1 S2 with
        | .ok y S3 => if acc.length < sizeLine then compL tg tt te g ρ r (acc ++ [y]) S3 else .no
        | _ => .no)
      | .ok false S2 => compL tg tt te g ρ r acc S2
      | _ => .no)
    | none => .no) .no
/-- c: the list is a cell -/
noncomputable def fLc (c : Bool) (fi : FI) (tg : FG) (tt : FT) (te : FE) (vs : List Nat) : FE := fun ρ S => (fi ρ S).bnd fun p S1 => match compL tg tt te p.2 (wipeR ρ vs) p.1 [] S1 with
  | .ok acc S2 => if c then .ok (.loc S2.length) (S2 ++ [.lst acc]) else .ok (.lst acc) S2
  | _ => .no
def fYes : FT := fun _ S => .ok true S
abbrev W0 : WX := fun _ _ _ _ => False
theorem wipe_eq {σ σ' : L2.St} {vs : List Nat} (hl : σ'.length = σ.length) (h : ∀ i, i ∉ vs → σ'[i]? = σ[i]?) : wipe σ' vs = wipe σ vs := by
  have len : ∀ (σ : L2.St) (vs : List Nat), (wipe σ vs).length = σ.length := fun σ vs => wipe_length σ vs
  have at1 : ∀ (σ : L2.St) (vs : List Nat) (i : Nat), i < σ.length → (wipe σ vs)[i]? = if i ∈ vs then some none else σ[i]? := by
    intro σ vs
    induction vs with
    | nil => intro i _; rw [if_neg (by simp)]; rfl
    | cons v vs ih =>
      intro i hi
      show ((wipe σ vs).set v none)[i]? = _
      by_cases e : i = v
      · subst e
        rw [List.getElem?_set_self (by rw [len]; exact hi), if_pos (by simp)]
      · rw [List.getElem?_set_ne (Ne.symm e), ih i hi]
        by_cases m : i ∈ vs
        · rw [if_pos m, if_pos (List.mem_cons_of_mem _ m)]
        · rw [if_neg m, if_neg (by simp [e, m])]
  refine List.ext_getElem? fun i => ?_
  by_cases hi : i < σ.length
  · rw [at1 σ' vs i (hl ▸ hi), at1 σ vs i hi]
    split
    · rfl
    · rename_i m; exact h i m
  · rw [List.getElem?_eq_none (by rw [len, hl]; omega), List.getElem?_eq_none (by rw [len]; omega)]
theorem EnvR.wipe {K : PySem.W.Frag} {mg : Str → Option Value} {w : Wd} {H : Hp} {ρ : FEnv} {σ : L2.St} (en : EnvR K mg w H ρ σ) : ∀ vs : List Nat, EnvR K mg w H (wipeR ρ vs) (L2.wipe σ vs)
  | [] => en
  | v :: vs => (EnvR.wipe en vs).wipe1
theorem wipe_wipe (σ : L2.St) (vs : List Nat) : L2.wipe (L2.wipe σ vs) vs = L2.wipe σ vs := wipe_eq (wipe_length σ vs) fun i hi => wipe_out hi
section
variable {X : Cx} {W : WX} {elt tg iter : Expr} {ifs : List Expr} {scope : Scope} {own : List (Str × Nat)} {pos : Pos} {fi : FI} {g : FG} {sl : List Nat} {tt : FT} {te : FE}
theorem qts_nil [Wo] : PTs X [] (tT X W fYes) := ⟨fun pins s σ H Q I ⟨w, ρ, S, st, en, h⟩ => pts_nil.run pins s σ H Q I (h.ret st rfl)⟩
/-- the reading of a comprehension -/
theorem lc_core' [Wo] {σ : L2.St} {H : Hp} {Q : VK} {c : Bool} {vs : List Nat} (hsl : ∀ i ∈ sl, i ∈ vs) (h : tF X W (fLc c fi g tt te vs) σ H Q) : tLc (tI X W fi) (tG X sl g) (tT X W0 tt) (tF X W0 te) vs σ H Q := by
  obtain ⟨w, ρ, S, s, en, h⟩ := h
  refine ⟨w, ρ, S, s, en, (End.bind (R := ItOk X.K X.mg) h).imp ?_ (fun _ _ _ z => z)⟩
  rintro J H1 ⟨w1, S1, ⟨items, gu⟩, e1, s1, J1, h1⟩ C hC
  have enw : EnvR X.K X.mg w1 H1 (wipeR ρ vs) (wipe σ vs) := (en.ext e1).wipe vs
  -- what is left to do, from the items, the list so far and the store
  let fin : RE (List D) → RE D := fun r => match r with
    | .ok acc S2 => if c then .ok (.loc S2.length) (S2 ++ [.lst acc]) else .ok (.lst acc) S2
    | _ => .no
  have h1' : End X.K X.mg (fun w H => Rp X.K X.mg w H) w1 H1 (fin (compL g tt te gu (wipeR ρ vs) items [] S1)) Q (fun c od H' => W c od σ H') := h1
  let G : Hp → List D → Store → RE (List D) → Prop := fun H' acc S' r => ∃ w' xs, ExtD C w1 H1 w' H' ∧ Sto X.K X.mg w' S' H' ∧ H' C = some (.lst xs) ∧ RpL X.K X.mg w' H' acc xs ∧ ∃ r0, fin r = r0 ∧ End X.K X.mg (fun w H => Rp X.K X.mg w H) w1 H1 r0 Q (fun c od H' => W c od σ H')
  refine ⟨fun i m H' => ∃ acc S', i + m = items.length ∧ G H' acc S' (compL g tt te gu (wipeR ρ vs) (items.drop i) acc S'), ⟨items.length, [], S1, by omega, ⟨w1.φ, C :: w1.hd⟩, [], ExtD.begin_ hC, s1.mvd hC, upd_same, RpL.nil, _, rfl, h1'⟩, ?_⟩
  rintro i m H' ⟨acc, S', hm, w', xs, ed, s', hx, ra, r0, hr0, he⟩
  have hCin : C ∈ w'.hd := by rw [ed.hd]; exact List.mem_cons_self
  have no_end : ∀ {r : RE D}, r = .no → End X.K X.mg (fun w H => Rp X.K X.mg w H) w1 H1 r Q (fun c od H' => W c od σ H') → False := fun e h => by rw [e] at h; exact h
  cases hd : items.drop i with
  | nil =>
    rw [hd] at hr0
    unfold compL at hr0
    unfold gchk at hr0
    split at hr0
    · rename_i gd1
      have hl : items.length ≤ i := List.drop_eq_nil_iff.mp hd
      refine .inl ⟨(J1 w' S' H' ed.mv s' gd1).1 i hl, ?_⟩
      have hout : some C ∉ w'.φ := (s'.ap C hCin).2
      have hnh : C ∉ w1.hd := fun z => (s1.ap C z).1 hC
      have mv := Mv.show (H := H') ed.hd
      have s3 := s'.show ed.hd ⟨xs, hx⟩
      have ra3 := RpL.mv mv _ _ ra
      subst hr0
      cases c with
      | false =>
        refine he ⟨w'.φ, w1.hd⟩ H' (.ref C) ed.done s3 ?_
        show Rp _ _ _ _ _ _
        unfold Rp
        exact ⟨C, xs, rfl, hx, ⟨hout, hnh⟩, ra3⟩
      | true =>
        -- the new list becomes a cell
        have ph : ∀ (n : Nat) a, (w'.φ ++ [some C])[n]? = some (some a) → (w'.φ[n]? = some (some a) ∧ n < w'.φ.length) ∨ (n = w'.φ.length ∧ a = C) := fun n a hk => by
          by_cases hl : n < w'.φ.length
          · rw [List.getElem?_append_left hl] at hk; exact .inl ⟨hk, hl⟩
          · have hl' : w'.φ.length ≤ n := Nat.le_of_not_lt hl
            rw [List.getElem?_append_right hl'] at hk
            have : n - w'.φ.length = 0 := by
              cases e : n - w'.φ.length with
              | zero => rfl
              | succ j => rw [e] at hk; simp at hk
            rw [this] at hk; simp at hk
            exact .inr ⟨by omega, hk.symm⟩
        have mv2 : Mv w' H' ⟨w'.φ ++ [some C], w1.hd⟩ H' := ⟨fun a o h n => by
          have hne : a ≠ C := fun z => by subst z; exact n.2 hCin
          refine ⟨h, fun z => ?_, fun z => n.2 (by rw [ed.hd]; exact List.mem_cons_of_mem _ z)⟩
          rcases List.mem_append.mp (show some a ∈ w'.φ ++ [some C] from z) with z | z
          · exact n.1 z
          · simp at z; exact hne z, by show _ ≤ (w'.φ ++ [some C]).length; rw [List.length_append]; omega, fun n a h l => by
          rcases ph n a h with z | z
          · exact z.1
          · omega⟩
        have ex2 : Ext w1 H1 ⟨w'.φ ++ [some C], w1.hd⟩ H' := ⟨ed.done.fr, Nat.le_trans ed.ln mv2.ln, fun n a h l => by
          rcases ph n a h with z | z
          · exact ed.ph n a z.1 l
          · have := ed.ln; omega, fun a h => by
          rcases List.mem_append.mp (show some a ∈ w'.φ ++ [some C] from h) with z | z
          · exact ed.nw a z
          · simp at z; subst z; exact .inr hC, rfl⟩
        have ra4 := RpL.mv mv2 _ _ ra
        have s4 : Sto X.K X.mg ⟨w'.φ ++ [some C], w1.hd⟩ (S' ++ [.lst acc]) H' := by
          refine ⟨by show (w'.φ ++ [some C]).length = _; rw [List.length_append, List.length_append, s'.len]; rfl, fun m n a q1 q2 => ?_, fun a ha => ⟨(s3.ap a ha).1, fun z => ?_⟩, fun n cc hc => ?_⟩
          · rcases ph m a q1 with ⟨z1, z2⟩ | ⟨z1, z2⟩ <;> rcases ph n a q2 with ⟨y1, y2⟩ | ⟨y1, y2⟩
            · exact s'.nd m n a z1 y1
            · subst y2; exact absurd (List.mem_of_getElem? z1) hout
            · subst z2; exact absurd (List.mem_of_getElem? y1) hout
            · omega
          · rcases List.mem_append.mp (show some a ∈ w'.φ ++ [some C] from z) with z | z
            · exact (s3.ap a ha).2 z
            · simp at z; subst z; exact hnh ha
          · by_cases hl : n < S'.length
            · rw [List.getElem?_append_left hl] at hc
              have c0 := s'.cell n cc hc
              have gl : (w'.φ ++ [some C])[n]? = w'.φ[n]? := List.getElem?_append_left (s'.len ▸ hl)
              unfold CellR at c0 ⊢
              split at c0
              · obtain ⟨b, ys, h2, h3, h4⟩ := c0; exact ⟨b, ys, by rw [← gl] at h2; exact h2, h3, RpL.mv mv2 _ _ h4⟩
              · obtain ⟨b, ys, o', h2, h3, h4⟩ := c0; exact ⟨b, ys, o', by rw [← gl] at h2; exact h2, h3, RpL.mv mv2 _ _ h4⟩
              · rw [← gl] at c0; exact c0
              · obtain ⟨c1, P, ht, t1, t2⟩ := c0; exact ⟨c1, P, ht, by rw [gl]; exact t1, TabW.mv mv2 rfl t2⟩
              · obtain ⟨y1, y2, y3, ⟨φ, y4, y6⟩, y5⟩ := c0
                refine ⟨by rw [gl]; exact y1, ?_, fun z => ?_, ⟨φ, y4, y6⟩, y5⟩
                · rw [ed.hd] at y2
                  rcases List.mem_cons.mp y2 with z | z
                  · rw [z, hx] at y4; cases y4
                  · exact z
                · rcases List.mem_append.mp (show some sysModules ∈ w'.φ ++ [some C] from z) with z | z
                  · exact y3 z
                  · simp at z; rw [z, hx] at y4; cases y4
              · exact ⟨by rw [gl]; exact c0.1, EnvR.mv mv2 c0.2⟩
              · obtain ⟨b, C1, dx, vs', h2, h3, h4, h5, h6⟩ := c0; exact ⟨b, C1, dx, vs', by rw [gl]; exact h2, h3, h4, h5, RpL.mv mv2 _ _ h6⟩
              · obtain ⟨b, es, h2, h3, h4, h5, h6, h7⟩ := c0; exact ⟨b, es, by rw [gl]; exact h2, h3, h4, h5, dct_mv mv2 h6, RpL.mv mv2 _ _ h7⟩
            · have hl' : S'.length ≤ n := Nat.le_of_not_lt hl
              rw [List.getElem?_append_right hl'] at hc
              have e0 : n - S'.length = 0 := by
                cases e : n - S'.length with
                | zero => rfl
                | succ j => rw [e] at hc; simp at hc
              rw [e0] at hc; simp at hc; subst hc
              have en' : n = w'.φ.length := by rw [s'.len]; omega
              subst en'
              exact ⟨C, xs, by show (w'.φ ++ [some C])[w'.φ.length]? = _; rw [List.getElem?_append_right (Nat.le_refl _), Nat.sub_self]; rfl, hx, ra4⟩
        refine he ⟨w'.φ ++ [some C], w1.hd⟩ H' (.ref C) ex2 s4 ?_
        show Rp _ _ _ _ _ _
        unfold Rp
        refine ⟨by show S'.length < (w'.φ ++ [some C]).length; rw [List.length_append, s'.len]; exact Nat.lt_succ_self _, fun a ha => ?_⟩
        have ha' : (w'.φ ++ [some C])[S'.length]? = some (some a) := ha
        rw [← s'.len, List.getElem?_append_right (Nat.le_refl _), Nat.sub_self] at ha'
        simp at ha'; rw [ha']
    · exact (no_end hr0.symm he).elim
  | cons d r =>
    rw [hd] at hr0
    unfold compL at hr0
    unfold gchk at hr0
    split at hr0
    · rename_i gd1
      have hi' : items[i]? = some d := by
        have := congrArg (·[0]?) hd
        simpa using this
      have hr : items.drop (i + 1) = r := by
        have := congrArg List.tail hd
        simpa using this
      have hlt : i < items.length := (List.getElem?_eq_some_iff.mp hi').1
      obtain ⟨j1, j2⟩ := (J1 w' S' H' ed.mv s' gd1).2 i d hi'
      refine .inr ⟨j1, fun H2 => ∃ acc2 S2, G H2 acc2 S2 (compL g tt te gu (wipeR ρ vs) r acc2 S2), fun H2 ⟨acc2, S2, z⟩ => ⟨m - 1, by omega, acc2, S2, by omega, by rw [hr]; exact z⟩, ?_⟩
      intro x H'' hy
      obtain ⟨j3, j4, j5⟩ := j2 x H'' hy
      have enw' : EnvR X.K X.mg w' H'' (wipeR ρ vs) (wipe σ vs) := (enw.mv ed.mv).ext j3
      refine ⟨w', wipeR ρ vs, S', d, j4, enw', j5, ?_⟩
      split at hr0
      · rename_i ρ1 S1' hg1
        rw [hg1]
        intro w2 H2 σ2 e2 s2 en2 k2 l2
        have hw : wipe σ2 vs = wipe σ vs := by
          rw [← wipe_wipe σ vs]
          exact wipe_eq l2 fun i hi => k2 i (fun z => hi (hsl i z))
        refine ⟨hw, w2, ρ1, S1', s2, en2, ?_⟩
        have ed2 : ExtD C w1 H1 w2 H2 := (ed.step j3).step e2
        split at hr0
        · rename_i S2' ht
          rw [ht]
          intro w3 H3 b e3 s3 hb
          cases hb
          rw [if_pos rfl]
          refine ⟨w3, ρ1, S2', s3, en2.ext e3, ?_⟩
          split at hr0
          · rename_i y S3' hy'
            rw [hy']
            intro w4 H4 u e4 s4 r4
            have ed4 : ExtD C w1 H1 w4 H4 := (ed2.step e3).step e4
            have hC4 : C ∈ w4.hd := by rw [ed4.hd]; exact List.mem_cons_self
            have exx : Ext w' H' w4 H4 := ((j3.trans e2).trans e3).trans e4
            have hx4 : H4 C = some (.lst xs) := exx.fr C _ hx (s'.ap C hCin).2
            have ra4 := RpL.ext exx _ _ ra
            split at hr0
            · rename_i hlen
              refine ⟨xs, hx4, by rw [← ra.length]; exact hlen, acc ++ [y], S3', w4, xs ++ [u], ed4.poke, s4.poke hC4 ⟨xs, hx4⟩, upd_same, ?_, _, hr0, he⟩
              exact (RpL.mv (Mv.poke hC4) _ _ ra4).append (RpL.one (Rp.mv (Mv.poke hC4) _ _ r4))
            · exact (no_end hr0.symm he).elim
          · exact (no_end hr0.symm he).elim
        · rename_i S2' ht
          rw [ht]
          intro w3 H3 b e3 s3 hb
          cases hb
          rw [if_neg (by decide)]
          have exx : Ext w' H' w3 H3 := (j3.trans e2).trans e3
          exact ⟨acc, S2', w3, xs, ed2.step e3, s3, exx.fr C _ hx (s'.ap C hCin).2, RpL.ext exx _ _ ra, _, hr0, he⟩
        · exact (no_end hr0.symm he).elim
      · exact (no_end hr0.symm he).elim
    · exact (no_end hr0.symm he).elim
theorem q_lc [Wo] {c : Bool} (hc : X.calm = true) (hN : X.N.Nodup) (hi : PI X tg iter (tI X W fi)) (ok : BlkOk X.N X.env.scope scope own) (hsl : ∀ i ∈ sl, i ∈ own.map (·.2))
    (hg : ∀ (s : Shared) (H : Hp) (C : Addr) (cl : List (Str × Addr)) (fp : List Addr), PG (X.blk s H scope (compEnvC scope cl C X.env) fp) tg (tG (X.blk s H scope (compEnvC scope cl C X.env) fp) sl g)) (ht : ∀ (s : Shared) (H : Hp) (C : Addr) (cl : List (Str × Addr)) (fp : List Addr), PTs (X.blk s H scope (compEnvC scope cl C X.env) fp) ifs (tT (X.blk s H scope (compEnvC scope cl C X.env) fp) W0 tt))
    (he : ∀ (s : Shared) (H : Hp) (C : Addr) (cl : List (Str × Addr)) (fp : List Addr), PE (X.blk s H scope (compEnvC scope cl C X.env) fp) elt (tF (X.blk s H scope (compEnvC scope cl C X.env) fp) W0 te)) (hs : ∀ x, foldedSetIterable iter X.env x = pure x := by intro _; rfl) :
    PE X (.ListComp elt [⟨tg, iter, ifs, 0⟩] scope pos) (tF X W (fLc c fi g tt te (own.map (·.2)))) :=
  PE.wk (pe_lc (g := tG X sl g) (tt := tT X W0 tt) (te := tF X W0 te) hc hN hi ok hg ht he hs) fun σ H Q h => lc_core' hsl h
theorem q_setLc [Wo] {c : Bool} {i : Nat} {y : Str} {py spos : Pos} (hc : X.calm = true) (hN : X.N.Nodup) (hy : X.N[i]? = some y) (hyl : X.env.scope.names.lookup y = some .local)
    (hsw : swapsWith (.ListComp elt [⟨tg, iter, ifs, 0⟩] scope pos) (some (.Name y py)) spos.line X.env = pure true) (hi : PI X tg iter (tI X W fi)) (ok : BlkOk X.N X.env.scope scope own) (hsl : ∀ i ∈ sl, i ∈ own.map (·.2))
    (hg : ∀ (s : Shared) (H : Hp) (C : Addr) (cl : List (Str × Addr)) (fp : List Addr), PG (X.blk s H scope (compEnvC scope cl C X.env) fp) tg (tG (X.blk s H scope (compEnvC scope cl C X.env) fp) sl g)) (ht : ∀ (s : Shared) (H : Hp) (C : Addr) (cl : List (Str × Addr)) (fp : List Addr), PTs (X.blk s H scope (compEnvC scope cl C X.env) fp) ifs (tT (X.blk s H scope (compEnvC scope cl C X.env) fp) W0 tt))
    (he : ∀ (s : Shared) (H : Hp) (C : Addr) (cl : List (Str × Addr)) (fp : List Addr), PE (X.blk s H scope (compEnvC scope cl C X.env) fp) elt (tF (X.blk s H scope (compEnvC scope cl C X.env) fp) W0 te)) (hs : ∀ x, foldedSetIterable iter X.env x = pure x := by intro _; rfl) :
    PS X (.Assign [.Name y py] (.ListComp elt [⟨tg, iter, ifs, 0⟩] scope pos) spos) (tS X W (sSet i (fLc c fi g tt te (own.map (·.2))))) :=
  PS.wk (ps_setLc (g := tG X sl g) (tt := tT X W0 tt) (te := tF X W0 te) hc hN hy hyl hsw hi ok hg ht he hs) fun D σ H ⟨w, ρ, S, s, en, h⟩ => by
    refine lc_core' (Q := fun x H1 => gName i x σ H1 D.nx) hsl ⟨w, ρ, S, s, en, (h.of (R := fun w H => Rp X.K X.mg w H) en).imp (fun v H1 ⟨w1, S1, d, e1, s1, r1, h1⟩ => h1.nx' s1 ((en.ext e1).set r1)) (fun _ _ _ z => z)⟩
end
end Kw
namespace Kw
open PySem PySem.Spec PyProof.Rows L2
/-- a constant's value -/
def CV (d : D) (v : V) : Prop := match d with
  | .int i => v = .int i
  | .str z => v = .str z
  | _ => False
theorem CV.rp {K : PySem.W.Frag} {mg : Str → Option Value} {w : Wd} {H : Hp} {d : D} {v : V} (h : CV d v) : Rp K mg w H d v := by
  cases d <;> first | (exact h.elim) | (have h' := h; unfold CV at h'; subst h'; unfold Rp; rfl)
/-- the name x holds the constant d -/
def GC (mg : Str → Option Value) (x : Str) (d : D) : Prop := ∃ v u, mg x = some u ∧ RelV v u ∧ CV d v
/-- .. a dict with text keys and constants -/
def GD (K : PySem.W.Frag) (P : Params) (mg : Str → Option Value) (x : Str) (kvs : List (Str × D)) : Prop :=
  ∃ a es n, mg x = some (.ref a) ∧ K.lookup a = some ⟨.type "dict", none, .dict es n, #[]⟩ ∧ PySem.W.KeysLit P es.toList ∧ (a == sysModules) = false ∧
    ∀ z, match kvs.lookup z with
      | some d => ∃ u v, PySem.W.nsIn K a z = some (some u) ∧ RelV v u ∧ CV d v
      | none => PySem.W.nsIn K a z = some none
inductive Ents : List DictEntry → List (Str × D) → Prop
  | nil : Ents [] []
  | cons {h : Int} {k : Str} {t : Tok} {u : Value} {v : V} {d : D} {es : List DictEntry} {kvs : List (Str × D)} (r : RelV v u) (c : CV d v) (rest : Ents es kvs) : Ents (⟨h, .str k t, u⟩ :: es) ((k, d) :: kvs)
theorem Ents.find {es : List DictEntry} {kvs : List (Str × D)} (e : Ents es kvs) (z : Str) : match kvs.lookup z with
      | some d => ∃ en v, es.find? (·.key.isStr z) = some en ∧ RelV v en.val ∧ CV d v
      | none => es.find? (·.key.isStr z) = none := by
  induction e with
  | nil => rfl
  | @cons h k t u v d es kvs r c rest ih =>
    by_cases hz : z = k
    · subst hz
      have e1 : List.lookup z ((z, d) :: kvs) = some d := by simp [List.lookup]
      rw [e1]
      refine ⟨⟨h, .str z t, u⟩, v, ?_, r, c⟩
      rw [List.find?_cons_of_pos]
      simp [PySem.W.isStr_of, Value.isStrOf]
    · have e1 : List.lookup z ((k, d) :: kvs) = List.lookup z kvs := by
        have : (z == k) = false := by simpa using hz
        simp [List.lookup, this]
      rw [e1]
      have e2 : List.find? (·.key.isStr z) ((⟨h, .str k t, u⟩ : DictEntry) :: es) = List.find? (·.key.isStr z) es := by
        rw [List.find?_cons_of_neg]
        simp [PySem.W.isStr_of, Value.isStrOf]
        exact fun q => hz q.symm
      rw [e2]; exact ih
theorem Ents.noRef {es : List DictEntry} {kvs : List (Str × D)} (e : Ents es kvs) : es.any (·.refKey) = false := by
  induction e with
  | nil => rfl
  | cons r c rest ih => rw [List.any_cons, ih]; rfl
theorem GD.of {K : PySem.W.Frag} {P : Params} {mg : Str → Option Value} {x : Str} {kvs : List (Str × D)} {a : Addr} {es : Array DictEntry} {n : Nat} (m : mg x = some (.ref a)) (l : K.lookup a = some ⟨.type "dict", none, .dict es n, #[]⟩) (k : PySem.W.KeysLit P es.toList) (s : (a == sysModules) = false) (e : Ents es.toList kvs) : GD K P mg x kvs := by
  refine ⟨a, es, n, m, l, k, s, fun z => ?_⟩
  have f := e.find z
  have u : PySem.W.nsIn K a z = match es.toList.find? (·.key.isStr z) with
      | some e => some (some e.val)
      | none => if es.toList.any (·.refKey) then none else some none := by unfold PySem.W.nsIn; rw [l]; rfl
  split at f
  · obtain ⟨en, v, f1, f2, f3⟩ := f
    exact ⟨en.val, v, by rw [u, f1], f2, f3⟩
  · rw [u, f, e.noRef]; rfl
theorem RpL.ints {K : PySem.W.Frag} {mg : Str → Option Value} {w : Wd} {H : Hp} : ∀ ns : List Int, RpL K mg w H (ns.map D.int) (ns.map V.int)
  | [] => RpL.nil
  | i :: r => RpL.cons (by unfold Rp; rfl) (RpL.ints r)
def gInG (neg : Bool) (n : Str) (kvs : List (Str × D)) (x y : D) (S : Store) : RE D := match x, y with
  | .str z, .glo m => if m = n then .ok (.bl (xor neg (kvs.lookup z).isSome)) S else .no
  | _, _ => .no
def gIxG (n : Str) (kvs : List (Str × D)) (x y : D) (S : Store) : RE D := match x, y with
  | .glo m, .str z => if m = n then (match kvs.lookup z with
    | some d => .ok d S
    | none => .no) else .no
  | _, _ => .no
def gNeg (x : D) (S : Store) : RE D := match x with
  | .int i => .ok (.int (-i)) S
  | _ => .no
section
variable {X : Cx} {W : WX} {a b e : Expr} {es : List Expr} {fa fb : FE} {fs : FA} {pos : Pos} {x : Str} {kvs : List (Str × D)} {d : D}
theorem q_gc [Wo] (h : GC X.mg x d) (hg : Gl X x) (hd : (x == ("__debug__" : Str)) = false := by decide) : PE X (.Name x pos) (tF X W (fC d)) := by
  obtain ⟨v, u, m, r, c⟩ := h
  exact q_const (fun w H => c.rp) (pe_glob hg m r hd)
theorem q_gd [Wo] (h : GD X.K X.w.params X.mg x kvs) (hg : Gl X x) (hd : (x == ("__debug__" : Str)) = false := by decide) : PE X (.Name x pos) (tF X W (fC (.glo x))) := by
  obtain ⟨a, es, n, m, _⟩ := h
  exact q_const (v := .ref a) (fun w H => by unfold Rp; exact ⟨a, rfl, m⟩) (pe_glob hg m rfl hd)
theorem op_inG [Wo] {neg : Bool} {op : CmpOp} (ho : op = if neg then .NotIn else .In) (h : GD X.K X.w.params X.mg x kvs) : ∃ r, OpR X (compareOp op) r ∧ OpV X.K X.mg r (gInG neg x kvs) := by
  obtain ⟨a, es, n, m, l, k, s, f⟩ := h
  have D : KDict X.K X.w a es n := ⟨l, k, s⟩
  have key : ∀ z, PySem.W.nsIn X.K a z = some (match kvs.lookup z with
      | some d => PySem.W.nsIn X.K a z |>.getD none
      | none => none) ∧ ((match kvs.lookup z with
      | some d => PySem.W.nsIn X.K a z |>.getD none
      | none => none).isSome = (kvs.lookup z).isSome) := fun z => by
    have fz := f z
    split at fz
    · rename_i d hd
      obtain ⟨u, v, f1, _, _⟩ := fz
      rw [hd, f1]; exact ⟨rfl, rfl⟩
    · rename_i hd
      rw [hd]; exact ⟨fz, rfl⟩
  have body : ∀ (w : Wd) (S : Store) (H : Hp) (x' y : V) (d e : Kw.D) (Q : VK) (E : Value → Option Addr → Hp → Prop), Sto X.K X.mg w S H → Rp X.K X.mg w H d x' → Rp X.K X.mg w H e y → End X.K X.mg (fun w H => Rp X.K X.mg w H) w H (gInG neg x kvs d e S) Q E → ∃ (z : Str) (r : Option Value), x' = .str z ∧ y = .ref a ∧ PySem.W.nsIn X.K a z = some r ∧ Q (.bl (xor neg r.isSome)) H := by
    intro w S H x' y d e Q E st r1 r2 h
    cases d <;> cases e <;> simp only [gInG] at h <;> try exact h.elim
    rename_i z m'
    split at h
    · rename_i em
      subst em
      unfold Rp at r2
      obtain ⟨b, e1, e2⟩ := r2
      rw [m] at e2; cases e2
      obtain ⟨k1, k2⟩ := key z
      exact ⟨z, _, rp_str r1, e1, k1, by rw [k2]; exact h.ret st rp_b⟩
    · exact h.elim
  cases neg with
  | false =>
    subst ho
    refine ⟨_, op_in_kd D, fun w S H x' y d e Q E st r1 r2 h => ?_⟩
    obtain ⟨z, r, h1, h2, h3, h4⟩ := body w S H x' y d e Q E st r1 r2 h
    exact ⟨z, r, h1, h2, h3, by simpa using h4⟩
  | true =>
    subst ho
    refine ⟨_, op_notIn_kd D, fun w S H x' y d e Q E st r1 r2 h => ?_⟩
    obtain ⟨z, r, h1, h2, h3, h4⟩ := body w S H x' y d e Q E st r1 r2 h
    exact ⟨z, r, h1, h2, h3, by simpa using h4⟩
theorem qt_inG [Wo] (h : GD X.K X.w.params X.mg x kvs) (ha : PE X a (tF X W fa)) (hb : PE X b (tF X W fb)) (hm : behindInMarks .In b = false := by rfl) : PT X (.Compare a [.In] [b] pos) (tT X W (fB (f2 (gInG false x kvs) fa fb))) := by
  obtain ⟨r, h1, h2⟩ := op_inG (neg := false) (op := .In) rfl h
  exact qt_cmp h1 h2 ha hb hm
theorem qt_ninG [Wo] (h : GD X.K X.w.params X.mg x kvs) (ha : PE X a (tF X W fa)) (hb : PE X b (tF X W fb)) (hm : behindInMarks .NotIn b = false := by rfl) : PT X (.Compare a [.NotIn] [b] pos) (tT X W (fB (f2 (gInG true x kvs) fa fb))) := by
  obtain ⟨r, h1, h2⟩ := op_inG (neg := true) (op := .NotIn) rfl h
  exact qt_cmp h1 h2 ha hb hm
theorem q_ixG [Wo] (h : GD X.K X.w.params X.mg x kvs) (ha : PE X a (tF X W fa)) (hb : PE X b (tF X W fb)) (hs : PlainIx b := by intro _ _; rfl) : PE X (.Subscript a b pos) (tF X W (f2 (gIxG x kvs) fa fb)) := by
  obtain ⟨p, es, n, m, l, k, s, f⟩ := h
  refine PE.wk (pe_ix ix_kdict ha hb hs) fun σ H Q h0 => two (fun w S H x' y d e Q E st r1 r2 h => ?_) h0
  cases d <;> cases e <;> simp only [gIxG] at h <;> try exact h.elim
  rename_i m' z
  split at h
  · rename_i em
    clear h0
    subst em
    split at h
    · rename_i d hd
      have fz := f z
      rw [hd] at fz
      obtain ⟨u, v, f1, f2, f3⟩ := fz
      unfold Rp at r1
      obtain ⟨b, e1, e2⟩ := r1
      rw [m] at e2; cases e2
      exact ⟨p, z, v, e1, rp_str r2, ⟨es, n, u, l, k, f1, f2⟩, h.ret st f3.rp⟩
    · exact h.elim
  · exact h.elim
theorem q_neg [Wo] (ha : PE X a (tF X W fa)) : PE X (.UnaryOp .USub a pos) (tF X W (f1 gNeg fa)) := PE.wk (pe_un un_neg ha) fun σ H Q ⟨w, ρ, S, s, en, h⟩ =>
  ⟨w, ρ, S, s, en, (End.bind (R := fun w H => Rp X.K X.mg w H) h).imp (fun v H1 ⟨w1, S1, d, e1, s1, r1, h1⟩ => by
    cases d <;> simp only [gNeg] at h1 <;> try exact h1.elim
    exact ⟨_, rp_int r1, h1.ret s1 rp_i⟩) (fun _ _ _ z => z)⟩
/-- s.index(t) -/
def fStrIx (a : FE) (b : FE) : FE := fun ρ S => (a ρ S).bnd fun x S1 => match x with
  | .str z => (b ρ S1).bnd fun y S2 => (match y with
    | .str t => (match Txt.index0 z t with
      | some k => .ok (.int (k : Nat)) S2
      | none => .no)
    | _ => .no)
  | _ => .no
theorem q_strIx [Wo] {apos cpos : Pos} (hc : X.calm = true) (tk : Takes X W) (ho : PE X a (tF X W fa)) (hb : PE X b (tF X W fb))
    (hs1 : starEach [b] X.env = (false, eval b X.env) :: starEach [] X.env := by rfl)
    (hbase : attributeBase a "index" X.env (eval a X.env) = eval a X.env := by rfl)
    (hfew : ((backTo cpos (starEach [b] X.env)).all (fun x => !x.1) && (backToKw cpos (keywordEach [] X.env)).all (fun x => x.1.isSome)
      && decide (([b] : List Expr).length + ([] : List Keyword).length + (if ([] : List Keyword).isEmpty then 0 else 1) < 30)) = true := by rfl)
    (hline : (apos.endLine == cpos.line) = true := by rfl) (hplain : (backTo cpos (starEach [] X.env)).any (·.1) = false := by rfl) : PE X (.Call (.Attribute a "index" apos) [b] [] cpos) (tF X W (fStrIx fa fb)) :=
  PE.wk (pe_bmS PySem.F.plainAttrs_str PySem.F.slot_str_index PySem.F.type_str_index (mt_indexX hc tk) ho (pa_cons hb pa_nil hs1) hbase hfew hline hs1 hplain) fun σ H Q ⟨w, ρ, S, s, en, h⟩ => by
    refine ⟨w, ρ, S, s, en, (End.bind (R := fun w H => Rp X.K X.mg w H) h).imp ?_ (fun _ _ _ z => z)⟩
    rintro v H1 ⟨w1, S1, d, e1, s1, r1, h1⟩
    cases d <;> try exact h1.elim
    rename_i z
    refine ⟨by rw [rp_str r1]; rfl, w1, ρ, S1, s1, en.ext e1, (End.bind (R := fun w H => Rp X.K X.mg w H) h1).imp ?_ (fun _ _ _ z => z)⟩
    rintro u H2 ⟨w2, S2, d2, e2, s2, r2, h2⟩
    cases d2 <;> try exact h2.elim
    rename_i t
    simp only at h2
    split at h2
    · rename_i k hk
      refine ⟨z, t, rp_str r1, by rw [rp_str r2], fun k' hk' => ?_, fun hn => ?_⟩
      · rw [hk] at hk'; cases hk'
        exact h2.ret s2 rp_i
      · rw [hk] at hn; cases hn
    · exact h2.elim
end
def ExcF (K : PySem.W.Frag) (mg : Str → Option Value) (x : Str) : Prop := ∃ C, mg x = some (.ref C) ∧ PySem.W.excIn K C [.type "ValueError", .type "Exception", .type "BaseException", .type "object"] "ValueError.__new__" = true ∧
  PySem.W.keepIn K (.ref C) = true ∧ PySem.W.subIn K (.ref C) (.type "BaseException") = some true ∧ PySem.W.typeIn K (.ref C) = some (.type "type")
def sRaise (x : Str) : FS := fun ρ S => .ex ⟨x, [], []⟩ ρ S
def RS.noX (r : RS) : RS := match r with
  | .ex _ _ _ => .no
  | r => r
section
variable {X : Cx} {W : WX} {x m : Str} {j : Nat} {p p2 pos pos' : Pos}
theorem q_raise [Wo] (hc : X.calm = true) (tk : Takes X W) (h : ExcF X.K X.mg x) (hg : Gl X x) (hdb : (x == ("__debug__" : Str)) = false := by decide) : PS X (.Raise (some (.Call (.Name x p) [.Constant (.str m) j p2] [] pos)) none pos') (tS X W (sRaise x)) := by
  obtain ⟨C, gC, xC, kC, bC, tC⟩ := h
  refine PS.wk (ps_raise hc tk (pmk_own PySem.F.excBase_ValueError xC gC kC (raises_own bC tC) hg hdb)) fun D σ H ⟨w, ρ, S, s, en, h⟩ => ?_
  exact h w H σ (.ref C) none Ext.refl s en ⟨gC, .inl ⟨rfl, rfl, rfl⟩⟩
end
end Kw
namespace Kw
open PySem PySem.Spec PyProof.Rows L2
/-- the def x stands at the module's top -/
def TF (K : PySem.W.Frag) (mg : Str → Option Value) (x : Str) (st : Stmt) (ps : List Str) : Prop := ∃ f fd, Fun K x x st f fd ∧ mg x = some (.ref f) ∧ Binds K fd ps []
section
variable {K : PySem.W.Frag} {mg : Str → Option Value} {h : Heap}
theorem tf_mk {x : Str} {st : Stmt} {ps : List Str} {f : Addr} {oc : Value} {od an : Option Addr} {osl : Array (Option Value)} {kV doc pm cdv ct : Value} (X : K.In h) (G : h.Ns mainGlobals mg) (a : PySem.W.nsIn K mainGlobals x = some (some (.ref f)))
    (l : K.lookup f = some ⟨oc, od, .func (PySem.W.fnOf x x (defArgs st) (defBody st) (defScope st) .none kV doc pm an cdv ct), osl⟩) (c : PySem.W.codeIn K cdv x = true) (k : PySem.W.keepIn K (.ref f) = true)
    (hb : ∀ (kV doc pm : Value) (an : Option Addr) (cdv ct : Value) (us : List Value), us.length = ps.length → bindArgs (PySem.W.fnOf x x (defArgs st) (defBody st) (defScope st) .none kV doc pm an cdv ct) ⟨us, []⟩ = pure (ps.zip us)) : TF K mg x st ps :=
  ⟨f, _, fun_mk l c k, PySem.W.mg_of X G a, (fun_mk l c k).binds hb⟩
theorem bl_mk {x : Str} (X : K.In h) (G : h.Ns mainGlobals mg) (z : PySem.W.nsIn K mainGlobals x = some none) : mg x = none := PySem.W.mg_none_of X G z
theorem gc_str {x : Str} {i : Str} {t : Tok} (X : K.In h) (G : h.Ns mainGlobals mg) (z : PySem.W.nsIn K mainGlobals x = some (some (.str i t))) : GC mg x (.str i) := ⟨.str i, _, PySem.W.mg_of X G z, ⟨t, rfl⟩, rfl⟩
theorem gd_mk {P : Params} {x : Str} {kvs : List (Str × D)} {a : Addr} {es : Array DictEntry} {n : Nat} (X : K.In h) (G : h.Ns mainGlobals mg) (z : PySem.W.nsIn K mainGlobals x = some (some (.ref a))) (l : K.lookup a = some ⟨.type "dict", none, .dict es n, #[]⟩) (k : PySem.W.KeysLit P es.toList) (s : (a == sysModules) = false) (e : Ents es.toList kvs) : GD K P mg x kvs :=
  GD.of (PySem.W.mg_of X G z) l k s e
theorem exc_mk {x : Str} {C : Addr} (X : K.In h) (G : h.Ns mainGlobals mg) (z : PySem.W.nsIn K mainGlobals x = some (some (.ref C))) (h1 : PySem.W.excIn K C [.type "ValueError", .type "Exception", .type "BaseException", .type "object"] "ValueError.__new__" = true)
    (h2 : PySem.W.keepIn K (.ref C) = true) (h3 : PySem.W.subIn K (.ref C) (.type "BaseException") = some true) (h4 : PySem.W.typeIn K (.ref C) = some (.type "type")) : ExcF K mg x := ⟨C, PySem.W.mg_of X G z, h1, h2, h3, h4⟩
end
section
variable {P : Program} {w : World} {K : PySem.W.Frag} {mg : Str → Option Value} {base : Heap}
theorem cal_zero [Wo] {x : Str} {st : Stmt} {ps : List Str} (T : TF K mg x st ps) (hps : ps = (defArgs st).args.map (·.arg) := by rfl) : Cal P w K mg base 0 x (fun _ _ => .no) := by
  obtain ⟨f, fd, F, m, b⟩ := T
  exact ⟨f, fd, ps, ⟨fun vs H Q E ⟨w, S, ds, s, r, l, h⟩ => by rw [← r.length]; exact l, fun A outer s H args us vs Q E _ _ _ _ ⟨w, S, ds, st, r, l, h⟩ => h.elim⟩, m, F.kp, b, fun _ _ _ => rfl, hps.trans (fun_names F).symm, fun_look F⟩
theorem calB [Wo] {x : Str} {st : Stmt} {N ps : List Str} {k : Nat} {b : FS} (T : TF K mg x st ps) (S : FnScope N ps (defScope st))
    (hb : ∀ (f : Addr) (cdv : Value) (A : Around) (outer : List Env) (s : Shared) (H : Hp) (E : XK), RoomG k (A.deeper (envOfC x (defScope st) s.heap.objs.size f cdv)) →
      PSs (cxOf (L2.CX P w) P w K mg base N x (defScope st) f cdv A outer s H E) (defBody st) (tS (cxOf (L2.CX P w) P w K mg base N x (defScope st) f cdv A outer s H E) (fun c d _ H => E c d H) b)) (hps : ps = (defArgs st).args.map (·.arg) := by rfl) :
    Cal P w K mg base (k + 1) x (fnB ps.length N.length b) := by
  obtain ⟨f, fd, F, m, bd⟩ := T
  exact cal_B F S m bd hps (hb f)
theorem calC [Wo] {x : Str} {st : Stmt} {N ps : List Str} {k : Nat} {b : FS} (T : TF K mg x st ps) (S : FnScope N ps (defScope st))
    (hb : ∀ (f : Addr) (cdv : Value) (A : Around) (outer : List Env) (s : Shared) (H : Hp) (E : XK), RoomG k (A.deeper (envOfC x (defScope st) s.heap.objs.size f cdv)) →
      PSs (cxOf (L2.CX P w) P w K mg base N x (defScope st) f cdv A outer s H E) (defBody st) (tS (cxOf (L2.CX P w) P w K mg base N x (defScope st) f cdv A outer s H E) (fun c d _ H => E c d H) b)) (hps : ps = (defArgs st).args.map (·.arg) := by rfl) :
    Cal P w K mg base (k + 1) x (fnC ps.length N.length b) := by
  obtain ⟨f, fd, F, m, bd⟩ := T
  exact cal_C F S m bd hps (hb f)
end
theorem hu2 {A : Around} {k : Nat} (hr : RoomG k A) : A.units + 200 < cLine := by have := hr.rm.un; omega
section
variable {K : PySem.W.Frag} {mg : Str → Option Value}
theorem sto0 [Wo] {H : Hp} : Sto K mg ⟨[], []⟩ [] H := ⟨rfl, fun m n a h => by simp at h, fun a h => (nomatch h), fun n c h => by simp at h⟩
/-- the heap in which nothing is told but the script -/
def scrO (vs : List Value) : Obj := { cls := .type "list", data := .seq vs.toArray }
theorem cx_no {P : Program} {w : World} {H : Hp} {s s' : Shared} {e : Value} (h : L2.CX P w [] H s (fun _ _ _ => False) e s') : False := by
  obtain ⟨_, _, _, _, _, _, _, _, _, _, _, _, z⟩ := h
  exact z
end
end Kw
namespace Kw
open PySem PySem.Spec PyProof.Rows L2
def fDic (ks : List Key) (ds : List D) : FE := fun _ S => .ok (.dic ks ds) S
def lookK (k : Key) : List Key → List D → Option D
  | a :: ks, d :: ds => if a = k then some d else lookK k ks ds
  | _, _ => none
/-- a dict that is asked -/
def gIxD (x y : D) (S : Store) : RE D := match x with
  | .dic ks ds => (match y with
    | .str z => (match lookK (.inr z) ks ds with
      | some d => .ok d S
      | none => .no)
    | .int i => (match lookK (.inl i) ks ds with
      | some d => .ok d S
      | none => .no)
    | _ => .no)
  | _ => .no
section
variable {X : Cx} {W : WX} {a b : Expr} {fa fb : FE} {pos : Pos}
theorem new_dic [Wo] {w : Wd} {S : Store} {H : Hp} {Q : VK} {E : Value → Option Addr → Hp → Prop} {ks : List Key} {ds : List D} {vs : List V} {p : Addr} (s : Sto X.K X.mg w S H) (np : H p = none) (hl : ks.length = vs.length) (r : RpL X.K X.mg w H ds vs)
    (h : End X.K X.mg (fun w H => Rp X.K X.mg w H) w H (.ok (.dic ks ds) S) Q E) : Q (.ref p) (upd H p (.dK (ks.zip vs))) := by
  refine h w _ _ (Ext.new np) (s.beside np) ?_
  show Rp _ _ _ _ _ _
  unfold Rp
  exact ⟨p, vs, rfl, upd_same, s.new np, hl, RpL.ext (Ext.new np) _ _ r⟩
theorem q_dic0 [Wo] : PE X (.Dict [] [] pos) (tF X W (fDic [] [])) := PE.wk pe_dnewK fun σ H Q ⟨w, ρ, S, s, en, h⟩ => fun p np => new_dic (ks := []) (vs := []) s np rfl RpL.nil h
end
end Kw
namespace Kw
open PySem PySem.Spec PyProof.Rows L2
theorem ofString_inj {a b : String} (h : Str.ofString a = Str.ofString b) : a = b := by
  have h1 : (Str.ofString a).cps.toList = (Str.ofString b).cps.toList := by rw [h]
  have key : ∀ s : String, (Str.ofString s).cps.toList = s.toList.map Char.toNat := fun s => by
    show ((cpsOfBytes 0 0 s.toByteArray.data.toList).toArray).toList = _
    rw [cpsOfBytes_string]
  rw [key, key] at h1
  have inj : ∀ {l m : List Char}, l.map Char.toNat = m.map Char.toNat → l = m := fun {l m} h => List.map_inj_right (fun x y e => Char.toNat_inj.mp e) |>.mp h
  have h2 := inj h1
  rw [← String.ofList_toList (s := a), ← String.ofList_toList (s := b), h2]
@[simp] theorem ofString_eq {a b : String} : (Str.ofString a = Str.ofString b) ↔ a = b := ⟨ofString_inj, fun h => by rw [h]⟩
@[simp] theorem ofString_beq {a b : String} : (Str.ofString a == Str.ofString b) = decide (a = b) := by
  by_cases h : a = b
  · subst h; simp
  · have : Str.ofString a ≠ Str.ofString b := fun q => h (ofString_inj q)
    simp [h, this]
@[simp] theorem strOk_of (a : String) : PyData.strOk (Str.ofString a) = true := by
  have key : (Str.ofString a).cps.toList = a.toList.map Char.toNat := by
    show ((cpsOfBytes 0 0 a.toByteArray.data.toList).toArray).toList = _
    rw [cpsOfBytes_string]
  unfold PyData.strOk
  rw [← Array.all_toList, key, List.all_map, List.all_eq_true]
  intro c _
  have h := c.valid
  simp only [UInt32.isValidChar, Nat.isValidChar] at h
  show decide (c.toNat < 1114112) = true
  rw [decide_eq_true_eq]
  show c.val.toNat < 1114112
  omega
section
variable {α β : Type} {a : α} {S : Store} {x : Ex} {f : α → Store → RE β} {ρ : FEnv} {k : α → Store → RS}
@[simp] theorem bnd_ok : (RE.ok a S).bnd f = f a S := rfl
@[simp] theorem bnd_ex : (RE.ex x S : RE α).bnd f = .ex x S := rfl
@[simp] theorem bnd_no : (RE.no : RE α).bnd f = .no := rfl
@[simp] theorem toS_ok : (RE.ok a S).toS ρ k = k a S := rfl
@[simp] theorem toS_ex : (RE.ex x S : RE α).toS ρ k = .ex x ρ S := rfl
@[simp] theorem toS_no : (RE.no : RE α).toS ρ k = .no := rfl
variable {g : FS} {d : D} {ρ' : FEnv}
@[simp] theorem sb_nx : (RS.nx ρ S).bnd g = g ρ S := rfl
@[simp] theorem sb_rt : (RS.rt d S).bnd g = .rt d S := rfl
@[simp] theorem sb_bk : (RS.bk ρ S).bnd g = .bk ρ S := rfl
@[simp] theorem sb_ct : (RS.ct ρ S).bnd g = .ct ρ S := rfl
@[simp] theorem sb_ex : (RS.ex x ρ S).bnd g = .ex x ρ S := rfl
@[simp] theorem sb_no : (RS.no).bnd g = .no := rfl
@[simp] theorem fin_nx : (RS.nx ρ S).fin = .ok .non S := rfl
@[simp] theorem fin_rt : (RS.rt d S).fin = .ok d S := rfl
@[simp] theorem fin_ex : (RS.ex x ρ S).fin = .ex x S := rfl
end
section
variable {ρ : FEnv} {S : Store} {d e : D} {x : Option D} {i : Nat} {a b c : FE} {fs : FA} {ta tb : FT}
@[simp] theorem fVar_z : fVar 0 (some d :: ρ) S = .ok d S := rfl
@[simp] theorem fVar_s : fVar (i + 1) (x :: ρ) S = fVar i ρ S := rfl
@[simp] theorem fC_ap : fC d ρ S = .ok d S := rfl
@[simp] theorem f1_ap {g : D → Store → RE D} : f1 g a ρ S = (a ρ S).bnd g := rfl
@[simp] theorem f2_ap {g : D → D → Store → RE D} : f2 g a b ρ S = (a ρ S).bnd fun x S1 => (b ρ S1).bnd fun y S2 => g x y S2 := rfl
@[simp] theorem fNil_ap : fNil ρ S = .ok [] S := rfl
@[simp] theorem fCons_ap : fCons a fs ρ S = (a ρ S).bnd fun x S1 => (fs ρ S1).bnd fun xs S2 => .ok (x :: xs) S2 := rfl
@[simp] theorem fArg_ap {g : FF} : fArg g fs ρ S = (fs ρ S).bnd g := rfl
def toB (d : D) (S : Store) : RE Bool := match d with
  | .bl k => .ok k S
  | _ => .no
@[simp] theorem toB_bl {k : Bool} : toB (.bl k) S = .ok k S := rfl
@[simp] theorem fB_ap : fB a ρ S = (a ρ S).bnd toB := rfl
def brB (d : D) (S : Store) (t f : RE D) : RE D := match d with
  | .bl k => if k then t else f
  | _ => .no
@[simp] theorem brB_bl {k : Bool} {t f : RE D} : brB (.bl k) S t f = if k then t else f := rfl
@[simp] theorem fChain_ap {g g' : D → D → Store → RE D} : fChain g g' a b c ρ S = (a ρ S).bnd fun x S1 => (b ρ S1).bnd fun y S2 => (g x y S2).bnd fun k S3 => brB k S3 ((c ρ S3).bnd fun z S4 => g' y z S4) (.ok (.bl false) S3) := by
  unfold fChain
  congr; funext x S1; congr; funext y S2; congr; funext k S3
  cases k <;> try rfl
  rename_i k; cases k <;> rfl
@[simp] theorem fAnd_ap : fAnd ta tb ρ S = (ta ρ S).bnd fun k S1 => if k then tb ρ S1 else .ok false S1 := by
  unfold fAnd; congr; funext k S1; cases k <;> rfl
@[simp] theorem fOr_ap : fOr ta tb ρ S = (ta ρ S).bnd fun k S1 => if k then .ok true S1 else tb ρ S1 := by
  unfold fOr; congr; funext k S1; cases k <;> rfl
@[simp] theorem fNot_ap : fNot ta ρ S = (ta ρ S).bnd fun k S1 => .ok (!k) S1 := rfl
@[simp] theorem fIf_ap : fIf ta a b ρ S = (ta ρ S).bnd fun k S1 => if k then a ρ S1 else b ρ S1 := by
  unfold fIf; congr; funext k S1; cases k <;> rfl
@[simp] theorem fAndV_ap : fAndV a b ρ S = (a ρ S).bnd fun k S1 => brB k S1 (b ρ S1) (.ok (.bl false) S1) := by
  unfold fAndV; congr; funext k S1; cases k <;> try rfl
  rename_i k; cases k <;> rfl
@[simp] theorem fOrV_ap : fOrV a b ρ S = (a ρ S).bnd fun k S1 => brB k S1 (.ok (.bl true) S1) (b ρ S1) := by
  unfold fOrV; congr; funext k S1; cases k <;> try rfl
  rename_i k; cases k <;> rfl
def truR (d : D) (S : Store) : RE Bool := match truD S d with
  | some k => .ok k S
  | none => .no
@[simp] theorem truR_bl {k : Bool} : truR (.bl k) S = .ok k S := rfl
@[simp] theorem truR_int {k : Int} : truR (.int k) S = .ok (k != 0) S := rfl
@[simp] theorem truR_non : truR .non S = .ok false S := rfl
@[simp] theorem truR_lst {ds : List D} : truR (.lst ds) S = .ok (!ds.isEmpty) S := rfl
@[simp] theorem truR_tup {ds : List D} : truR (.tup ds) S = .ok (!ds.isEmpty) S := rfl
@[simp] theorem fTru_ap : fTru a ρ S = (a ρ S).bnd truR := rfl
@[simp] theorem fNotV_ap : fNotV a ρ S = (a ρ S).bnd fun x S1 => (truR x S1).bnd fun k S2 => .ok (.bl (!k)) S2 := by
  unfold fNotV; congr; funext x S1; unfold truR; cases truD S1 x <;> rfl
def isiR (T : String) (d : D) (S : Store) : RE D := match tyD S d with
  | some t => .ok (.bl (isiB t T)) S
  | none => .no
@[simp] theorem fIsi_ap {T : String} : fIsi T a ρ S = (a ρ S).bnd (isiR T) := rfl
@[simp] theorem isi_int {T : String} {i : Int} : isiR T (.int i) S = .ok (.bl (decide (T = "int"))) S := by
  have : (isiB "int" T) = decide (T = "int") := by
    unfold isiB
    by_cases h : T = "int"
    · subst h; rfl
    · have h' : ¬ "int" = T := fun z => h z.symm
      simp [h, h']
  show RE.ok (D.bl (isiB "int" T)) S = _
  rw [this]
@[simp] theorem isi_bl {T : String} {i : Bool} : isiR T (.bl i) S = .ok (.bl (decide (T = "bool") || decide (T = "int"))) S := by
  have : (isiB "bool" T) = (decide (T = "bool") || decide (T = "int")) := by
    unfold isiB
    by_cases h : T = "bool"
    · subst h; rfl
    · have h' : ¬ "bool" = T := fun z => h z.symm
      by_cases h2 : T = "int"
      · subst h2; rfl
      · simp [h, h', h2]
  show RE.ok (D.bl (isiB "bool" T)) S = _
  rw [this]
theorem isiB_other {t T : String} (h : t ≠ "bool") : isiB t T = decide (T = t) := by
  unfold isiB
  by_cases e : T = t
  · subst e; simp
  · have e' : ¬ t = T := fun z => e z.symm
    simp [h, e, e']
@[simp] theorem isi_str {T : String} {i : Str} : isiR T (.str i) S = .ok (.bl (decide (T = "str"))) S := by
  show RE.ok (D.bl (isiB "str" T)) S = _
  rw [isiB_other (by decide)]
@[simp] theorem isi_non {T : String} : isiR T .non S = .ok (.bl (decide (T = "NoneType"))) S := by
  show RE.ok (D.bl (isiB "NoneType" T)) S = _
  rw [isiB_other (by decide)]
@[simp] theorem isi_tup {T : String} {ds : List D} : isiR T (.tup ds) S = .ok (.bl (decide (T = "tuple"))) S := by
  show RE.ok (D.bl (isiB "tuple" T)) S = _
  rw [isiB_other (by decide)]
@[simp] theorem isi_lst {T : String} {ds : List D} : isiR T (.lst ds) S = .ok (.bl (decide (T = "list"))) S := by
  show RE.ok (D.bl (isiB "list" T)) S = _
  rw [isiB_other (by decide)]
@[simp] theorem isi_dic {T : String} {ks : List Key} {ds : List D} : isiR T (.dic ks ds) S = .ok (.bl (decide (T = "dict"))) S := by
  show RE.ok (D.bl (isiB "dict" T)) S = _
  rw [isiB_other (by decide)]
end
section
variable {ρ : FEnv} {S : Store} {f g : FS} {fe : FE} {tc : FT} {i : Nat} {fa : FA}
@[simp] theorem sNil_ap : sNil ρ S = .nx ρ S := rfl
@[simp] theorem sSeq_ap : sSeq f g ρ S = (f ρ S).bnd g := rfl
@[simp] theorem sExp_ap : sExp fe ρ S = (fe ρ S).toS ρ fun _ S1 => .nx ρ S1 := rfl
@[simp] theorem sRet_ap : sRet fe ρ S = (fe ρ S).toS ρ fun d S1 => .rt d S1 := rfl
@[simp] theorem sRetN_ap : sRetN ρ S = .rt .non S := rfl
@[simp] theorem sSet_ap : sSet i fe ρ S = (fe ρ S).toS ρ fun d S1 => .nx (ρ.set i (some d)) S1 := rfl
@[simp] theorem sIf_ap : sIf tc f g ρ S = (tc ρ S).toS ρ fun k S1 => if k then f ρ S1 else g ρ S1 := by
  unfold sIf; congr; funext k S1; cases k <;> rfl
@[simp] theorem sRaise_ap {x : Str} : sRaise x ρ S = .ex ⟨x, [], []⟩ ρ S := rfl
def gRes (r : Option (FEnv × Store)) : RS := match r with
  | some (ρ', S') => .nx ρ' S'
  | none => .no
@[simp] theorem gRes_some {ρ' : FEnv} {S' : Store} : gRes (some (ρ', S')) = .nx ρ' S' := rfl
@[simp] theorem sAsg_ap {g : FG} : sAsg fe g ρ S = (fe ρ S).toS ρ fun d S1 => gRes (g d ρ S1) := rfl
@[simp] theorem gN_ap {d : D} : gN i d ρ S = some (ρ.set i (some d), S) := rfl
@[simp] theorem gsNil_ap : gsNil [] ρ S = some (ρ, S) := rfl
def gBnd (r : Option (FEnv × Store)) (k : FEnv → Store → Option (FEnv × Store)) : Option (FEnv × Store) := match r with
  | some (ρ', S') => k ρ' S'
  | none => none
@[simp] theorem gBnd_some {ρ' : FEnv} {S' : Store} {k : FEnv → Store → Option (FEnv × Store)} : gBnd (some (ρ', S')) k = k ρ' S' := rfl
@[simp] theorem gsCons_ap {g : FG} {gs : FGs} {d : D} {r : List D} : gsCons g gs (d :: r) ρ S = gBnd (g d ρ S) (gs r) := rfl
@[simp] theorem gTu_ap {n : Nat} {gs : FGs} {ds : List D} : gTu n gs (.tup ds) ρ S = if ds.length = n then gs ds ρ S else none := rfl
def par2 (i j : Nat) (ρ : FEnv) (ds : List D) (S : Store) : RS := match ds with
  | [x, y] => .nx ((ρ.set i (some x)).set j (some y)) S
  | _ => .no
@[simp] theorem par2_ap {j : Nat} {x y : D} : par2 i j ρ [x, y] S = .nx ((ρ.set i (some x)).set j (some y)) S := rfl
@[simp] theorem sPar_ap' {j : Nat} : sPar i j fa ρ S = (fa ρ S).toS ρ (par2 i j ρ) := rfl
def augR (i : Nat) (g : D → D → Store → RE D) (x : Option (Option D)) (f : FE) (ρ : FEnv) (S : Store) : RS := match x with
  | some (some x) => (f ρ S).toS ρ fun y S1 => (g x y S1).toS ρ fun z S2 => .nx (ρ.set i (some z)) S2
  | _ => .no
@[simp] theorem augR_ap {g : D → D → Store → RE D} {x : D} : augR i g (some (some x)) fe ρ S = (fe ρ S).toS ρ fun y S1 => (g x y S1).toS ρ fun z S2 => .nx (ρ.set i (some z)) S2 := rfl
@[simp] theorem sAug_ap {g : D → D → Store → RE D} : sAug i g fe ρ S = augR i g ρ[i]? fe ρ S := rfl
end
section
variable {S : Store} {i j : Int} {a b : Str} {c : Bool} {xs ys ds : List D} {k : Bool} {d e : D}
@[simp] theorem gAdd_ii : gAdd c (.int i) (.int j) S = .ok (.int (i + j)) S := rfl
@[simp] theorem gAdd_ss : gAdd c (.str a) (.str b) S = if a.length + b.length ≤ sizeLine then .ok (.str (a ++ b)) S else .no := rfl
@[simp] theorem gAdd_tt : gAdd c (.tup xs) (.tup ys) S = mkTup (xs ++ ys) S := rfl
@[simp] theorem gAdd_ll : gAdd false (.lst xs) (.lst ys) S = mkLst (xs ++ ys) S := rfl
@[simp] theorem gSub_ii : Kw.gSub (.int i) (.int j) S = .ok (.int (i - j)) S := rfl
@[simp] theorem gMul_ii : gMul c (.int i) (.int j) S = if CMul i j ∨ CMulW i j then .ok (.int (i * j)) S else .no := rfl
@[simp] theorem gMod_ii : gMod (.int i) (.int j) S = if 0 < j then .ok (.int (i % j)) S else .no := rfl
@[simp] theorem gDiv_ii : gDiv (.int i) (.int j) S = if 0 < j ∧ j.natAbs.log2 < 9000 then .ok (.int (i / j)) S else .no := rfl
@[simp] theorem gPow_ii : gPow (.int i) (.int j) S = if 0 ≤ j ∧ j ≤ 1000000 ∧ i.natAbs < 2 ^ 64 then .ok (.int (i ^ j.toNat)) S else .no := rfl
@[simp] theorem gIAdd_ii : gIAdd (.int i) (.int j) S = .ok (.int (i + j)) S := rfl
@[simp] theorem gNeg_i : gNeg (.int i) S = .ok (.int (-i)) S := rfl
@[simp] theorem gCmp_ii {p : Int → Int → Bool} : gCmp p (.int i) (.int j) S = .ok (.bl (p i j)) S := rfl
@[simp] theorem gEq_ss : gEq (.str a) (.str b) S = .ok (.bl (a == b)) S := rfl
@[simp] theorem gNe_ss : gNe (.str a) (.str b) S = .ok (.bl (!(a == b))) S := rfl
@[simp] theorem gEq_ii : gEq (.int i) (.int j) S = .ok (.bl (i == j)) S := by
  simp [gEq, eqE, pyS, okPy, PyData.canLay0, PyData.depth, PyData.eqv]
@[simp] theorem gNe_ii : gNe (.int i) (.int j) S = .ok (.bl (!(i == j))) S := by
  simp [gNe, eqE, pyS, okPy, PyData.canLay0, PyData.depth, PyData.eqv]
@[simp] theorem gEq_bb {i j : Bool} : gEq (.bl i) (.bl j) S = .ok (.bl (i == j)) S := by
  simp [gEq, eqE, pyS, okPy, PyData.canLay0, PyData.depth, PyData.eqv]
@[simp] theorem gNe_bb {i j : Bool} : gNe (.bl i) (.bl j) S = .ok (.bl (!(i == j))) S := by
  simp [gNe, eqE, pyS, okPy, PyData.canLay0, PyData.depth, PyData.eqv]
@[simp] theorem gLen_tup : gLen [.tup ds] S = .ok (.int ds.length) S := rfl
@[simp] theorem gLen_lst : gLen [.lst ds] S = .ok (.int ds.length) S := rfl
@[simp] theorem gLen_fls : gLen [.fls ds] S = .ok (.int ds.length) S := rfl
@[simp] theorem gLen_str : gLen [.str a] S = if a.length ≤ sizeLine then .ok (.int a.length) S else .no := rfl
@[simp] theorem gInt_i : gInt [.int i] S = .ok (.int i) S := rfl
@[simp] theorem gInt_b : gInt [.bl k] S = .ok (.int (if k then 1 else 0)) S := rfl
@[simp] theorem gTuple_lst : gTuple [.lst ds] S = .ok (.tup ds) S := rfl
@[simp] theorem gTuple_tup : gTuple [.tup ds] S = .ok (.tup ds) S := rfl
@[simp] theorem gList_lst : gList false [.lst ds] S = .ok (.lst ds) S := rfl
@[simp] theorem gList_tup : gList false [.tup ds] S = .ok (.lst ds) S := rfl
@[simp] theorem gIs_nn : gIs c .non .non S = .ok (.bl (xor c true)) S := rfl
@[simp] theorem gIs_tn : gIs c (.tup ds) .non S = .ok (.bl (xor c false)) S := rfl
@[simp] theorem gIs_ln : gIs c (.lst ds) .non S = .ok (.bl (xor c false)) S := rfl
@[simp] theorem gIs_in : gIs c (.int i) .non S = .ok (.bl (xor c false)) S := rfl
@[simp] theorem gIs_sn : gIs c (.str a) .non S = .ok (.bl (xor c false)) S := rfl
@[simp] theorem gIs_bn : gIs c (.bl k) .non S = .ok (.bl (xor c false)) S := rfl
@[simp] theorem gIs_bb {l : Bool} : gIs c (.bl k) (.bl l) S = .ok (.bl (xor c (decide (k = l)))) S := rfl
def ixR (ds : List D) (i : Int) (S : Store) : RE D := match L2.atI ds i with
  | some d => .ok d S
  | none => .no
@[simp] theorem ixR_nat {n : Nat} : ixR ds (n : Int) S = match ds[n]? with
  | some d => .ok d S
  | none => .no := by
  unfold ixR
  cases h : ds[n]? with
  | some d => rw [atI_nat h]
  | none =>
    have hl : ds.length ≤ n := List.getElem?_eq_none_iff.mp h
    have : L2.atI ds (n : Int) = none := by
      unfold L2.atI ixN
      rw [if_pos (by omega), if_neg (by omega)]; rfl
    rw [this]
@[simp] theorem ixR_0 : ixR (d :: ds) 0 S = .ok d S := by
  have := ixR_nat (ds := d :: ds) (n := 0) (S := S)
  simpa using this
@[simp] theorem ixR_1 : ixR (d :: e :: ds) 1 S = .ok e S := by
  have := ixR_nat (ds := d :: e :: ds) (n := 1) (S := S)
  simpa using this
@[simp] theorem ixR_2 {e' : D} : ixR (d :: e :: e' :: ds) 2 S = .ok e' S := by
  have := ixR_nat (ds := d :: e :: e' :: ds) (n := 2) (S := S)
  simpa using this
@[simp] theorem gIx_tup : gIx (.tup ds) (.int i) S = ixR ds i S := rfl
@[simp] theorem gIx_lst : gIx (.lst ds) (.int i) S = ixR ds i S := rfl
@[simp] theorem gIx_fls : gIx (.fls ds) (.int i) S = ixR ds i S := rfl
end
@[simp] theorem short2 {n : Nat} (h : n ≤ 1000) : (n ≤ sizeLine) = True := eq_true (Nat.le_trans h (by decide))
theorem sz : sizeLine = 16777216 := rfl
section
variable {S : Store} {ds : List D}
@[simp] theorem mkTup_ap : mkTup ds S = if ds.length ≤ sizeLine then .ok (.tup ds) S else .no := rfl
@[simp] theorem mkLst_ap : mkLst ds S = if ds.length ≤ sizeLine then .ok (.lst ds) S else .no := rfl
@[simp] theorem mkCel_ap : mkCel ds S = if ds.length ≤ sizeLine then .ok (.loc S.length) (S ++ [.lst ds]) else .no := rfl
section
variable {n : Nat} {b : FS} {a1 a2 a3 a4 a5 : D}
@[simp] theorem fnB_0 : fnB 0 n b [] S = (b (List.replicate n none) S).fin := rfl
@[simp] theorem fnB_1 : fnB 1 n b [a1] S = (b (some a1 :: List.replicate (n - 1) none) S).fin := rfl
@[simp] theorem fnB_2 : fnB 2 n b [a1, a2] S = (b (some a1 :: some a2 :: List.replicate (n - 2) none) S).fin := rfl
@[simp] theorem fnB_3 : fnB 3 n b [a1, a2, a3] S = (b (some a1 :: some a2 :: some a3 :: List.replicate (n - 3) none) S).fin := rfl
@[simp] theorem fnB_4 : fnB 4 n b [a1, a2, a3, a4] S = (b (some a1 :: some a2 :: some a3 :: some a4 :: List.replicate (n - 4) none) S).fin := rfl
@[simp] theorem fnB_5 : fnB 5 n b [a1, a2, a3, a4, a5] S = (b (some a1 :: some a2 :: some a3 :: some a4 :: some a5 :: List.replicate (n - 5) none) S).fin := rfl
end
end
end Kw
namespace Kw
open PySem PySem.Spec PyProof.Rows L2
section
variable {S T : Store} {n : Nat} {ds xs ys : List D} {c c' : Cell} {d x : D} {i : Int} {ρ : FEnv}
@[simp] theorem cellOf_app : cellOf (S ++ [.lst ds]) S.length = some ds := by simp [cellOf]
@[simp] theorem cellM_app : cellM (S ++ [.lst ds]) S.length = some ds := by simp [cellM]
@[simp] theorem set_app : (S ++ [c]).set S.length c' = S ++ [c'] := by simp [List.set_append]
theorem cellOf_of (h : S[n]? = some (.lst ds)) : cellOf S n = some ds := by simp [cellOf, h]
theorem cellM_of (h : S[n]? = some (.lst ds)) : cellM S n = some ds := by simp [cellM, h]
def ixO (o : Option (List D)) (i : Int) (S : Store) : RE D := match o with
  | some ds => ixR ds i S
  | none => .no
@[simp] theorem ixO_some : ixO (some ds) i S = ixR ds i S := rfl
@[simp] theorem gIx_locO : gIx (.loc n) (.int i) S = ixO (cellOf S n) i S := rfl
theorem cut_ok {S : Store} {d : D} (T : Store) (h : d.under S.length = true) : cutR S (.ok d (S ++ T)) = .ok d S := by
  have hc : CutOk S (S ++ T) := ⟨by simp, fun i c hi e => .inl (by rw [List.getElem?_append_left hi] at e; exact e)⟩
  have hd : (D.under S.length d = true ∧ CutOk S (S ++ T)) := ⟨h, hc⟩
  simp [cutR, hd]
theorem cut_ex {S : Store} {e : Ex} (T : Store) (h : underL S.length e.ds = true) : cutR S (.ex e (S ++ T)) = .ex e S := by
  have hc : CutOk S (S ++ T) := ⟨by simp, fun i c hi e => .inl (by rw [List.getElem?_append_left hi] at e; exact e)⟩
  have hd : (underL S.length e.ds = true ∧ CutOk S (S ++ T)) := ⟨h, hc⟩
  simp [cutR, hd]
theorem fnC_ap {m n : Nat} {b : FS} : fnC m n b ds S = cutR S (fnB m n b ds S) := rfl
/-- a list beside the empty one -/
theorem gNe_nil (h : cellOf S n = some ds) : gNe (.loc n) (.lst []) S = .ok (.bl (!ds.isEmpty)) S := by
  unfold gNe eqE seqL
  simp only
  rw [h]; rfl
@[simp] theorem gEq_te : gEq (.tup ds) (.tup []) S = .ok (.bl ds.isEmpty) S := rfl
@[simp] theorem gNe_te : gNe (.tup ds) (.tup []) S = .ok (.bl (!ds.isEmpty)) S := rfl
@[simp] theorem gEq_ts {a b : Str} : gEq (.tup (.str a :: ds)) (.tup [.str b]) S = .ok (.bl (a == b && ds.isEmpty)) S := rfl
@[simp] theorem gNe_ts {a b : Str} : gNe (.tup (.str a :: ds)) (.tup [.str b]) S = .ok (.bl (!(a == b && ds.isEmpty))) S := rfl
@[simp] theorem gEq_le : gEq (.lst ds) (.lst []) S = .ok (.bl ds.isEmpty) S := rfl
@[simp] theorem gNe_le : gNe (.lst ds) (.lst []) S = .ok (.bl (!ds.isEmpty)) S := rfl
@[simp] theorem gInG_str {neg : Bool} {nm z : Str} {kvs : List (Str × D)} : gInG neg nm kvs (.str z) (.glo nm) S = .ok (.bl (xor neg (kvs.lookup z).isSome)) S := by
  show (if nm = nm then RE.ok (D.bl (xor neg (kvs.lookup z).isSome)) S else .no) = _
  rw [if_pos rfl]
def luR (o : Option D) (S : Store) : RE D := match o with
  | some d => .ok d S
  | none => .no
@[simp] theorem luR_some : luR (some d) S = .ok d S := rfl
@[simp] theorem gIxG_str {nm z : Str} {kvs : List (Str × D)} : gIxG nm kvs (.glo nm) (.str z) S = luR (kvs.lookup z) S := by
  show (if nm = nm then luR (kvs.lookup z) S else .no) = _
  rw [if_pos rfl]
@[simp] theorem gIxD_str {ks : List Key} {z : Str} : gIxD (.dic ks ds) (.str z) S = luR (lookK (.inr z) ks ds) S := rfl
@[simp] theorem gIxD_int {ks : List Key} {z : Int} : gIxD (.dic ks ds) (.int z) S = luR (lookK (.inl z) ks ds) S := rfl
@[simp] theorem fDic_ap {ks : List Key} : fDic ks ds ρ S = .ok (.dic ks ds) S := rfl
@[simp] theorem fNone_ap : fNone ρ S = .ok none S := rfl
def toI (d : D) (S : Store) : RE (Option Int) := match d with
  | .int i => .ok (some i) S
  | _ => .no
@[simp] theorem toI_int : toI (.int i) S = .ok (some i) S := rfl
@[simp] theorem fSome_ap {f : FE} : fSome f ρ S = (f ρ S).bnd toI := rfl
@[simp] theorem fSl_ap {g : D → Option Int → Option Int → Store → RE D} {a : FE} {l u : FO} : fSl g a l u ρ S = (a ρ S).bnd fun x S1 => (l ρ S1).bnd fun lo S2 => (u ρ S2).bnd fun hi S3 => g x lo hi S3 := rfl
@[simp] theorem gSl_tup {c : Bool} {lo hi : Option Int} : gSl c (.tup ds) lo hi S = .ok (.tup (cutL ds lo hi)) S := rfl
@[simp] theorem gSl_lst {lo hi : Option Int} : gSl false (.lst ds) lo hi S = .ok (.lst (cutL ds lo hi)) S := rfl
@[simp] theorem gSl_fls {lo hi : Option Int} : gSl false (.fls ds) lo hi S = .ok (.lst (cutL ds lo hi)) S := rfl
def slO (o : Option (List D)) (lo hi : Option Int) (S : Store) : RE D := match o with
  | some ds => .ok (.lst (cutL ds lo hi)) S
  | none => .no
@[simp] theorem slO_some {lo hi : Option Int} : slO (some ds) lo hi S = .ok (.lst (cutL ds lo hi)) S := rfl
@[simp] theorem gSl_loc {lo hi : Option Int} : gSl false (.loc n) lo hi S = slO (cellOf S n) lo hi S := rfl
def mthR (g : D → List D → Store → RE D) (a : FA) (ρ : FEnv) (x : D) (S : Store) : RE D := match seqL S x with
  | some _ => (a ρ S).bnd fun ds S2 => g x ds S2
  | none => .no
@[simp] theorem fMth_ap {g : D → List D → Store → RE D} {o : FE} {a : FA} : fMth g o a ρ S = (o ρ S).bnd (mthR g a ρ) := rfl
theorem mthR_loc {g : D → List D → Store → RE D} {a : FA} (h : cellOf S n = some xs) : mthR g a ρ (.loc n) S = (a ρ S).bnd fun ds S2 => g (.loc n) ds S2 := by
  show (match cellOf S n with | some _ => (a ρ S).bnd fun ds S2 => g (.loc n) ds S2 | none => .no) = _
  rw [h]
theorem gAppend_loc (h : cellM S n = some xs) (hl : xs.length < sizeLine) : gAppend (.loc n) [d] S = .ok .non (S.set n (.lst (xs ++ [d]))) := by
  simp [gAppend, h, hl]
theorem gExtend_loc (h : cellM S n = some xs) (hl : xs.length + ys.length ≤ sizeLine) : gExtend (.loc n) [.lst ys] S = .ok .non (S.set n (.lst (xs ++ ys))) := by
  simp [gExtend, h, seqM, hl]
theorem gPop0_loc (h : cellM S n = some (xs ++ [d])) : gPop0 (.loc n) [] S = .ok d (S.set n (.lst xs)) := by
  simp [gPop0, h]
end
def loopR (w : FS) (r : RS) : RS := match r with
  | .nx ρ2 S2 => w ρ2 S2
  | .ct ρ2 S2 => w ρ2 S2
  | .bk ρ2 S2 => .nx ρ2 S2
  | z => z
section
variable {w : FS} {ρ : FEnv} {S : Store} {d : D} {x : Ex}
@[simp] theorem loopR_nx : loopR w (.nx ρ S) = w ρ S := rfl
@[simp] theorem loopR_ct : loopR w (.ct ρ S) = w ρ S := rfl
@[simp] theorem loopR_bk : loopR w (.bk ρ S) = .nx ρ S := rfl
@[simp] theorem loopR_rt : loopR w (.rt d S) = .rt d S := rfl
@[simp] theorem loopR_ex : loopR w (.ex x ρ S) = .ex x ρ S := rfl
@[simp] theorem loopR_no : loopR w .no = .no := rfl
theorem sWhile_go {c : FT} {b : FS} : sWhile c b ρ S = (c ρ S).toS ρ fun k S1 => if k then loopR (sWhile c b) (b ρ S1) else .nx ρ S1 := by
  rw [sWhile_step]
  congr; funext k S1; cases k
  · rfl
  · show _ = loopR (sWhile c b) (b ρ S1)
    cases b ρ S1 <;> rfl
variable {tg : FG} {b : FS} {r : List D} {fi : FI}
def tgR (w b : FS) (o : Option (FEnv × Store)) : RS := match o with
  | some (ρ1, S1) => loopR w (b ρ1 S1)
  | none => .no
@[simp] theorem tgR_some : tgR w b (some (ρ, S)) = loopR w (b ρ S) := rfl
@[simp] theorem forL_nil : forL tg b none [] ρ S = .nx ρ S := by
  unfold forL gchk; rw [if_pos (by unfold gd; trivial)]
theorem forL_cons : forL tg b none (d :: r) ρ S = tgR (forL tg b none r) b (tg d ρ S) := by
  show gchk none S _ _ = _
  unfold gchk
  rw [if_pos (by unfold gd; trivial)]
  cases tg d ρ S with
  | none => rfl
  | some p =>
    obtain ⟨ρ1, S1⟩ := p
    show (match b ρ1 S1 with
      | .nx ρ2 S2 => forL tg b none r ρ2 S2
      | .ct ρ2 S2 => forL tg b none r ρ2 S2
      | .bk ρ2 S2 => .nx ρ2 S2
      | z => z) = loopR _ (b ρ1 S1)
    cases b ρ1 S1 <;> rfl
@[simp] theorem sFor_ap : sFor fi tg b ρ S = (fi ρ S).toS ρ fun p S1 => forL tg b p.2 p.1 ρ S1 := rfl
def itL (d : D) (S : Store) : RE Its' := match iSeq S d with
  | some p => .ok p S
  | none => .no
def itT (d : D) (S : Store) : RE Its' := match d with
  | .tup ds => .ok (ds, none) S
  | _ => .no
def itS (d : D) (S : Store) : RE Its' := match d with
  | .str z => .ok (chrs z, none) S
  | _ => .no
def itR (ds : List D) (S : Store) : RE Its' := match ds with
  | [.int j] => if -(2 ^ 62) ≤ j ∧ j < 2 ^ 62 then .ok (rngD 0 j.toNat, none) S else .no
  | _ => .no
@[simp] theorem fiL_ap {f : FE} : fiL f ρ S = (f ρ S).bnd itL := rfl
@[simp] theorem fiT_ap {f : FE} : fiT f ρ S = (f ρ S).bnd itT := rfl
@[simp] theorem fiS_ap {f : FE} : fiS f ρ S = (f ρ S).bnd itS := rfl
@[simp] theorem fiR1_ap {f : FA} : fiR1 f ρ S = (f ρ S).bnd itR := rfl
@[simp] theorem itL_lst {ds : List D} : itL (.lst ds) S = .ok (ds, none) S := rfl
@[simp] theorem itL_fls {ds : List D} : itL (.fls ds) S = .ok (ds, none) S := rfl
@[simp] theorem itT_tup {ds : List D} : itT (.tup ds) S = .ok (ds, none) S := rfl
@[simp] theorem itS_str {z : Str} : itS (.str z) S = .ok (chrs z, none) S := rfl
@[simp] theorem itR_int {j : Int} : itR [.int j] S = if -(2 ^ 62) ≤ j ∧ j < 2 ^ 62 then .ok (rngD 0 j.toNat, none) S else .no := rfl
end
@[simp] theorem len_of (s : String) : (Str.ofString s).length = s.toList.length := by
  have key : (Str.ofString s).cps.toList = s.toList.map Char.toNat := by
    show ((cpsOfBytes 0 0 s.toByteArray.data.toList).toArray).toList = _
    rw [cpsOfBytes_string]
  show (Str.ofString s).cps.size = _
  rw [← Array.length_toList, key, List.length_map]
inductive Kd where
  | base (i : Fin 8)
  | unit
  | both (a b : Kd)
  | frm (a b : Kd)
deriving DecidableEq
namespace Kd
def d : Kd → D
  | .base i => .tup [.str "base", .int (i.val : Int)]
  | .unit => .tup [.str "unit"]
  | .both a b => .tup [.str "both", d a, d b]
  | .frm a b => .tup [.str "from", d a, d b]
def p : Kd → PyData
  | .base i => .tuple [.str "base", .int (i.val : Int)]
  | .unit => .tuple [.str "unit"]
  | .both a b => .tuple [.str "both", p a, p b]
  | .frm a b => .tuple [.str "from", p a, p b]
/-- how deep -/
def dep : Kd → Nat
  | .both a b => max (dep a) (dep b) + 1
  | .frm a b => max (dep a) (dep b) + 1
  | _ => 0
def sz : Kd → Nat
  | .both a b => sz a + sz b + 1
  | .frm a b => sz a + sz b + 1
  | _ => 1
theorem sz_pos : ∀ k : Kd, 0 < k.sz
  | .base _ => by simp [sz]
  | .unit => by simp [sz]
  | .both a b => by simp [sz]
  | .frm a b => by simp [sz]
@[simp] theorem py0_d : ∀ k : Kd, py0 k.d = some k.p
  | .base i => by simp [d, p, py0, py0L]
  | .unit => by simp [d, p, py0, py0L]
  | .both a b => by simp [d, p, py0, py0L, py0_d a, py0_d b]
  | .frm a b => by simp [d, p, py0, py0L, py0_d a, py0_d b]
@[simp] theorem pyS_d (S : Store) : ∀ k : Kd, pyS S k.d = some k.p
  | .base i => by simp [d, p, pyS, pySL]
  | .unit => by simp [d, p, pyS, pySL]
  | .both a b => by simp [d, p, pyS, pySL, pyS_d S a, pyS_d S b]
  | .frm a b => by simp [d, p, pyS, pySL, pyS_d S a, pyS_d S b]
@[simp] theorem lay_p : ∀ k : Kd, k.p.canLay0 = true
  | .base i => by simp [p, PyData.canLay0, PyData.canLayAll0]
  | .unit => by simp [p, PyData.canLay0, PyData.canLayAll0]
  | .both a b => by simp [p, PyData.canLay0, PyData.canLayAll0, lay_p a, lay_p b]
  | .frm a b => by simp [p, PyData.canLay0, PyData.canLayAll0, lay_p a, lay_p b]
theorem depth_p : ∀ k : Kd, k.p.depth = k.dep + 1
  | .base i => by simp [p, PyData.depth, PyData.depthAll, dep]
  | .unit => by simp [p, PyData.depth, PyData.depthAll, dep]
  | .both a b => by simp [p, PyData.depth, PyData.depthAll, dep, depth_p a, depth_p b]
  | .frm a b => by simp [p, PyData.depth, PyData.depthAll, dep, depth_p a, depth_p b]
theorem eqvAll_c {x y : PyData} {xs ys : List PyData} : PyData.eqvAll (x :: xs) (y :: ys) = (PyData.eqv x y && PyData.eqvAll xs ys) := by simp only [PyData.eqvAll]
theorem eqvAll_n : PyData.eqvAll [] [] = true := by simp only [PyData.eqvAll]
theorem eqvAll_l {x : PyData} {xs : List PyData} : PyData.eqvAll (x :: xs) [] = false := by simp only [PyData.eqvAll]
theorem eqvAll_r {x : PyData} {xs : List PyData} : PyData.eqvAll [] (x :: xs) = false := by simp only [PyData.eqvAll]
theorem eqv_t {xs ys : List PyData} : PyData.eqv (.tuple xs) (.tuple ys) = PyData.eqvAll xs ys := by simp only [PyData.eqv]
theorem eqv_s {x y : Str} : PyData.eqv (.str x) (.str y) = (x == y) := by simp only [PyData.eqv]
theorem eqv_i {x y : Int} : PyData.eqv (.int x) (.int y) = (x == y) := by simp only [PyData.eqv]
theorem eqv_p (a b : Kd) : PyData.eqv a.p b.p = decide (a = b) := by
  induction a generalizing b with
  | base i =>
    cases b with
    | base j =>
      have h1 : (i.val : Int) = (j.val : Int) ↔ i = j := by
        constructor
        · intro h; exact Fin.ext (by omega)
        · intro h; rw [h]
      by_cases h : i = j
      · subst h; simp [p, eqvAll_c, eqvAll_n, eqvAll_l, eqvAll_r, eqv_t, eqv_s, eqv_i]
      · have : ¬ (i.val : Int) = (j.val : Int) := fun z => h (h1.mp z)
        simp [p, eqvAll_c, eqvAll_n, eqvAll_l, eqvAll_r, eqv_t, eqv_s, eqv_i, h]
        omega
    | _ => simp [p, eqvAll_c, eqvAll_n, eqvAll_l, eqvAll_r, eqv_t, eqv_s, eqv_i]
  | unit => cases b <;> simp [p, eqvAll_c, eqvAll_n, eqvAll_l, eqvAll_r, eqv_t, eqv_s, eqv_i]
  | both a a' ha hb => cases b <;> simp [p, eqvAll_c, eqvAll_n, eqvAll_l, eqvAll_r, eqv_t, eqv_s, eqv_i, ha, hb]
  | frm a a' ha hb => cases b <;> simp [p, eqvAll_c, eqvAll_n, eqvAll_l, eqvAll_r, eqv_t, eqv_s, eqv_i, ha, hb]
@[simp] theorem und_d (n : Nat) : ∀ k : Kd, k.d.under n = true
  | .base i => by simp [d, D.under, underL]
  | .unit => by simp [d, D.under, underL]
  | .both a b => by simp [d, D.under, underL, und_d n a, und_d n b]
  | .frm a b => by simp [d, D.under, underL, und_d n a, und_d n b]
theorem d_tup : ∀ k : Kd, ∃ ds, k.d = .tup ds
  | .base i => ⟨_, rfl⟩
  | .unit => ⟨_, rfl⟩
  | .both a b => ⟨_, rfl⟩
  | .frm a b => ⟨_, rfl⟩
@[simp] theorem isi_d {T : String} {S : Store} (k : Kd) : isiR T k.d S = .ok (.bl (decide (T = "tuple"))) S := by
  obtain ⟨ds, h⟩ := d_tup k
  rw [h]; simp
end Kd
end Kw
namespace Kw
open PySem PySem.Spec PyProof.Rows L2
/-- isinstance of the exception in hand (at a), whose answer is b -/
def fIsE (a : Addr) (b : Bool) (f : FE) : FE := fun ρ S => (f ρ S).bnd fun x S1 => match x with
  | .exn a' => if a' = a then .ok (.bl b) S1 else .no
  | _ => .no
/-- y's class is one that isinstance can be asked of -/
def ExcK (K : PySem.W.Frag) (mg : Str → Option Value) (y : Str) : Prop := ∃ C, mg y = some (.ref C) ∧ ExcC K C
/-- what isinstance answers for an exception of class y, asked for the program's class x -/
def IsxO (K : PySem.W.Frag) (mg : Str → Option Value) (y x : Str) (b : Bool) : Prop := ∃ C B, mg y = some (.ref C) ∧ mg x = some (.ref B) ∧ PySem.W.kitOne K (.ref C) (.ref B) = some b
section
variable {X : Cx} {W : WX} {o : Expr} {fe : FE} {a : Addr} {oe : Obj} {pn : List (Addr × Obj)} {y x : Str} {C : Addr} {b : Bool} {p q pos : Pos}
theorem isE_core [Wo] {T : V} {cv : Value} (hX : ExcC X.K C) (hz : Zc (.ref C) none oe) (hf : ∃ vs, oe.data = .fields vs) (hcv : ∀ u, RelV T u → u = cv) (hk : PySem.W.kitOne X.K (.ref C) cv = some b)
    (hg : Gl X "isinstance") (hm : X.mg "isinstance" = none) (ho : PE (X.suite a ((a, oe) :: pn)) o (tF X W fe)) (hx : PE (X.suite a ((a, oe) :: pn)) (.Name x q) (tC T))
    (h1 : starEach [o, .Name x q] X.env = (false, eval o X.env) :: starEach [.Name x q] X.env) (h2 : starEach [.Name x q] X.env = (false, eval (.Name x q) X.env) :: starEach [] X.env) (hpl : (backTo pos (starEach [.Name x q] X.env)).any (·.1) = false) :
    PE (X.suite a ((a, oe) :: pn)) (.Call (.Name "isinstance" p) [o, .Name x q] [] pos) (tF X W (fIsE a b fe)) := by
  refine PE.wk (pe_callB (call_isE hX hz hf) hg hm (by decide +kernel) (pa_cons ho (pa_cons hx pa_nil h2) h1) (by decide) (by decide) h1 hpl) fun σ H Q ⟨w, ρ, S, s, en, h⟩ => ?_
  refine ⟨w, ρ, S, s, en, (End.bind (R := fun w H => Rp X.K X.mg w H) h).imp ?_ (fun _ _ _ z => z)⟩
  rintro v H1 ⟨w1, S1, d, e1, s1, r1, h3⟩
  cases d with
  | exn a' =>
    simp only at h3
    split at h3
    · rename_i ea
      subst ea
      have ev : v = .ref a' := by unfold Rp at r1; exact r1
      exact ⟨T, cv, b, by rw [ev], hcv, hk, h3.ret s1 rp_b⟩
    · exact h3.elim
  | _ => exact h3.elim
theorem q_isE [Wo] (hy : ExcK X.K X.mg y) (hyC : X.mg y = some (.ref C)) (hi : IsxO X.K X.mg y x b) (hz : Zc (.ref C) none oe) (hf : ∃ vs, oe.data = .fields vs)
    (hg : Gl X "isinstance") (hm : X.mg "isinstance" = none) (hgx : Gl X x) (ho : PE (X.suite a ((a, oe) :: pn)) o (tF (X.suite a ((a, oe) :: pn)) W fe)) (hd : (x == ("__debug__" : Str)) = false := by decide)
    (h1 : starEach [o, .Name x q] X.env = (false, eval o X.env) :: starEach [.Name x q] X.env := by rfl) (h2 : starEach [.Name x q] X.env = (false, eval (.Name x q) X.env) :: starEach [] X.env := by rfl) (hpl : (backTo pos (starEach [.Name x q] X.env)).any (·.1) = false := by rfl) :
    PE (X.suite a ((a, oe) :: pn)) (.Call (.Name "isinstance" p) [o, .Name x q] [] pos) (tF (X.suite a ((a, oe) :: pn)) W (fIsE a b fe)) := by
  obtain ⟨C1, m1, k1⟩ := hy
  obtain ⟨C2, B, m2, m3, k2⟩ := hi
  cases hyC.symm.trans m1
  cases hyC.symm.trans m2
  exact isE_core (T := .ref B) (cv := .ref B) k1 hz hf (fun u r => r) k2 hg hm ho (pe_glob hgx m3 rfl hd) h1 h2 hpl
end
def RS.clr (i : Nat) (r : RS) : RS := match r with
  | .nx ρ S => .nx (ρ.set i none) S
  | .bk ρ S => .bk (ρ.set i none) S
  | .ct ρ S => .ct (ρ.set i none) S
  | r => r
/-- a result that no address matters to -/
noncomputable def aInd (R : Addr → RS) : RS := open Classical in if ∀ a, R a = R 0 then R 0 else .no
theorem aInd_at {R : Addr → RS} {r : RS} (a : Addr) (h : aInd R = r) (hn : r ≠ .no) : R a = r := by
  unfold aInd at h
  split at h
  · rename_i hh; rw [hh a, h]
  · exact absurd h.symm hn
theorem aInd_eq {R : Addr → RS} {r : RS} (h : ∀ a, R a = r) : aInd R = r := by
  unfold aInd
  rw [if_pos (fun a => by rw [h a, h 0]), h 0]
section
variable {X : Cx} {W : WX} {x n : Str} {pos pos' np : Pos} {i : Nat}
theorem EndS.clr [Wo] {K : PySem.W.Frag} {mg : Str → Option Value} {w : Wd} {H : Hp} {D : Ends} {r : RS} (h : EndS K mg w H ((r.clr i).noX) D W) :
    EndS K mg w H r { nx := fun σ' H' => D.nx (σ'.set i none) H', rt := D.rt, bk := fun σ' H' => D.bk (σ'.set i none) H', ct := fun σ' H' => D.ct (σ'.set i none) H' } W0 := by
  cases r with
  | nx ρ S => exact fun w' H' σ' e s en => h w' H' _ e s en.wipe1
  | bk ρ S => exact fun w' H' σ' e s en => h w' H' _ e s en.wipe1
  | ct ρ S => exact fun w' H' σ' e s en => h w' H' _ e s en.wipe1
  | rt d S => exact h
  | ex x ρ S => exact h.elim
  | no => exact h.elim
end
end Kw
namespace Kw
open PySem PySem.Spec PyProof.Rows L2
def CatY (K : PySem.W.Frag) (mg : Str → Option Value) (c : Value) (y : Str) (b : Bool) : Prop := ∃ C, mg y = some (.ref C) ∧ PySem.W.exmOne K (.ref C) c = some b
/-- what a clause over x catches of the classes es -/
def CatF (K : PySem.W.Frag) (mg : Str → Option Value) (es : List Str) (x : Str) (sub : Str → Bool) : Prop := ∃ c, mg x = some c ∧ ∀ y ∈ es, CatY K mg c y (sub y)
section
variable {X : Cx} {W : WX} {x n : Str} {pos pos' np : Pos} {i : Nat} {body suite : List Stmt} {b₀ : Stmt} {es : List Str} {sub : Str → Bool} {fb : FS}
theorem CatF.names (h : CatF X.K X.mg es x sub) (hg : Gl X x) (hd : (x == ("__debug__" : Str)) = false) : ∃ c, Names X x c ∧ ∀ y ∈ es, ∀ cy, X.mg y = some cy → PySem.W.exmOne X.K cy c = some (sub y) := by
  obtain ⟨c, m, h⟩ := h
  refine ⟨c, ⟨hg, hd, .inl m⟩, fun y hy cy e => ?_⟩
  obtain ⟨C, m2, k⟩ := h y hy
  cases e.symm.trans m2
  exact k
end
section
variable {K : PySem.W.Frag} {mg : Str → Option Value} {h : Heap}
theorem kit_own {C B : Addr} {b : Bool} (hd : PySem.W.hasDictIn K B = true) (ht : PySem.W.typeIn K (.ref B) = some (.type "type")) (h4 : PySem.W.subIn K (.ref C) (.ref B) = some b) (ne : b = true ∨ (C == B) = false) : PySem.W.kitOne K (.ref C) (.ref B) = some b := by
  obtain ⟨cd, hc, _⟩ := PySem.W.any_some hd
  have k : PySem.W.kitCls K (.ref C) (.ref B) = some b := by
    have e2 : ((PySem.W.clsIn K B).isSome && PySem.W.typeIn K (.ref B) == some (.type "type")) = true := by rw [hc, ht] <;> rfl
    show (if ((PySem.W.clsIn K B).isSome && PySem.W.typeIn K (.ref B) == some (.type "type")) = true then PySem.W.subIn K (.ref C) (.ref B) else none) = some b
    rw [if_pos e2]; exact h4
  unfold PySem.W.kitOne
  split
  · rename_i q
    rcases ne with rfl | ne
    · rfl
    · have q2 : C = B := Value.ref.inj (beq_iff_eq.mp q)
      rw [q2] at ne; simp at ne
  · exact k
theorem isxo_mk {y x : Str} {C B : Addr} {b b' : Bool} (X : K.In h) (G : h.Ns mainGlobals mg) (z1 : PySem.W.nsIn K mainGlobals y = some (some (.ref C))) (z2 : PySem.W.nsIn K mainGlobals x = some (some (.ref B))) (e : b = b') (hd : PySem.W.hasDictIn K B = true) (ht : PySem.W.typeIn K (.ref B) = some (.type "type")) (h4 : PySem.W.subIn K (.ref C) (.ref B) = some b') (ne : b' = true ∨ (C == B) = false) : IsxO K mg y x b :=
  ⟨C, B, PySem.W.mg_of X G z1, PySem.W.mg_of X G z2, by rw [e]; exact kit_own hd ht h4 ne⟩
theorem exck_mk {y : Str} {C : Addr} (X : K.In h) (G : h.Ns mainGlobals mg) (z1 : PySem.W.nsIn K mainGlobals y = some (some (.ref C))) (k : ExcC K C) : ExcK K mg y := ⟨C, PySem.W.mg_of X G z1, k⟩
theorem caty_mk {y : Str} {C B : Addr} {b b' : Bool} (X : K.In h) (G : h.Ns mainGlobals mg) (z1 : PySem.W.nsIn K mainGlobals y = some (some (.ref C))) (e : b = b') (h1 : PySem.W.subIn K (.ref B) (.type "BaseException") = some true) (hd : PySem.W.hasDictIn K B = true) (ht : PySem.W.typeIn K (.ref B) = some (.type "type")) (h4 : PySem.W.subIn K (.ref C) (.ref B) = some b') : CatY K mg (.ref B) y b :=
  ⟨C, PySem.W.mg_of X G z1, by rw [e]; exact PySem.W.exm_ref h1 hd ht h4⟩
theorem cat_mk {es : List Str} {x : Str} {sub : Str → Bool} {B : Addr} (X : K.In h) (G : h.Ns mainGlobals mg) (z : PySem.W.nsIn K mainGlobals x = some (some (.ref B))) (l : ∀ y ∈ es, CatY K mg (.ref B) y (sub y)) : CatF K mg es x sub := ⟨.ref B, PySem.W.mg_of X G z, l⟩
end
end Kw
namespace Kw
open PySem PySem.Spec PyProof.Rows L2
section
variable {tg : FG} {tt : FT} {te : FE} {ρ : FEnv} {gg : Option (Nat × List D)} {S : Store} {acc ds : List D} {b : FS}
theorem compL_nil (hg : gd gg S) : compL tg tt te gg ρ [] acc S = .ok acc S := by
  unfold compL gchk; rw [if_pos hg]
theorem compL_step {d y : D} {ρ1 : FEnv} {S1 S2 S3 : Store} (hg : gd gg S) (h1 : tg d ρ S = some (ρ1, S1)) (h2 : tt ρ1 S1 = .ok true S2) (h3 : te ρ1 S2 = .ok y S3) (hl : acc.length < sizeLine) :
    compL tg tt te gg ρ (d :: ds) acc S = compL tg tt te gg ρ ds (acc ++ [y]) S3 := by
  conv => lhs; unfold compL
  unfold gchk
  rw [if_pos hg, h1]
  simp [h2, h3, hl]
theorem compL_map (f : D → D) (hg : gd gg S) : ∀ (ds acc : List D), (∀ d ∈ ds, ∃ ρ1, tg d ρ S = some (ρ1, S) ∧ tt ρ1 S = .ok true S ∧ te ρ1 S = .ok (f d) S) → acc.length + ds.length ≤ sizeLine →
    compL tg tt te gg ρ ds acc S = .ok (acc ++ ds.map f) S
  | [], acc, _, _ => by rw [compL_nil hg]; simp
  | d :: ds, acc, h, hl => by
    obtain ⟨ρ1, h1, h2, h3⟩ := h d List.mem_cons_self
    rw [compL_step hg h1 h2 h3 (by simp at hl; omega), compL_map f hg ds (acc ++ [f d]) (fun e he => h e (List.mem_cons_of_mem _ he)) (by simp at hl ⊢; omega)]
    simp
def lcR (c : Bool) (r : RE (List D)) : RE D := match r with
  | .ok acc S2 => if c then .ok (.loc S2.length) (S2 ++ [.lst acc]) else .ok (.lst acc) S2
  | _ => .no
@[simp] theorem lcR_f : lcR false (.ok acc S) = .ok (.lst acc) S := rfl
@[simp] theorem lcR_t : lcR true (.ok acc S) = .ok (.loc S.length) (S ++ [.lst acc]) := rfl
@[simp] theorem fLc_ap {c : Bool} {fi : FI} {vs : List Nat} : fLc c fi tg tt te vs ρ S = (fi ρ S).bnd fun p S1 => lcR c (compL tg tt te p.2 (wipeR ρ vs) p.1 [] S1) := rfl
@[simp] theorem fYes_ap : fYes ρ S = .ok true S := rfl
@[simp] theorem gAll_lst {bs : List Bool} : gAll [.lst (bs.map .bl)] S = .ok (.bl (bs.all id)) S := by
  have : ∀ bs : List Bool, blsOf (bs.map .bl) = some bs := by
    intro bs
    induction bs with
    | nil => rfl
    | cons b bs ih => simp [blsOf, ih]
  show (match (some (bs.map D.bl)).bind blsOf with
    | some bs => RE.ok (D.bl (bs.all id)) S
    | none => .no) = _
  simp [this]
end
/-- an exception in hand, asked -/
@[simp] theorem fIsE_ap {a : Addr} {b : Bool} {i : Nat} {ρ : FEnv} {S : Store} (h : ρ[i]? = some (some (.exn a))) : fIsE a b (fVar i) ρ S = .ok (.bl b) S := by
  have e : fVar i ρ S = .ok (.exn a) S := by
    unfold fVar; rw [h]
  unfold fIsE
  rw [e]
  simp
section
variable {es : List Str} {sub : Str → Bool} {i : Nat} {c : Str → Addr → FS} {ρ : FEnv} {S : Store} {d : D}
@[simp] theorem clr_rt : (RS.rt d S).clr i = .rt d S := rfl
@[simp] theorem clr_nx : (RS.nx ρ S).clr i = .nx (ρ.set i none) S := rfl
@[simp] theorem noX_rt : (RS.rt d S).noX = .rt d S := rfl
@[simp] theorem noX_nx : (RS.nx ρ S).noX = .nx ρ S := rfl
end
end Kw
namespace Kw
open PySem PySem.Spec PyProof.Rows L2
abbrev Cl := Value × Option Nat × (Addr → Value → Option Addr → TS)
/-- the ends after a clause whose name stands in slot i -/
def gone (i : Nat) (D : Ends) : Ends := { nx := fun z G => D.nx (z.set i none) G, rt := D.rt, bk := fun z G => D.bk (z.set i none) G, ct := fun z G => D.ct (z.set i none) G }
def hit (o : Option Nat) (ts : TS) (D : Ends) (a : Addr) (σ : L2.St) (H : Hp) : Prop := match o with
  | none => ts D σ H
  | some i => ts (gone i D) (σ.set i (some (.ref a))) H
/-- what the clauses wish of an exception -/
def wCls (K : PySem.W.Frag) (Wout : WX) (D : Ends) : List Cl → WX
  | [] => Wout
  | (c, o, ts) :: r => fun cls d σ H => ∃ b, PySem.W.exmOne K cls c = some b ∧ (b = true → ∀ a, H a = none → hit o (ts a cls d) D a σ H) ∧ (b = false → wCls K Wout D r cls d σ H)
def SuOk (X : Cx) (suite : List Stmt) (ts : Addr → Value → Option Addr → TS) : Prop :=
  ∀ (a : Addr) (oe : Obj) (cls : Value) (d : Option Addr) (pn : List (Addr × Obj)), Zc cls d oe → (∃ vs, oe.data = .fields vs) → PSs (X.suite a ((a, oe) :: pn)) suite (ts a cls d)
inductive ClsOk (X : Cx) : List ExceptHandler → List Cl → Prop
  | nil : ClsOk X [] []
  | plain {x : Str} {c : Value} {ts : Addr → Value → Option Addr → TS} {b₀ : Stmt} {su : List Stmt} {np q : Pos} {hds : List ExceptHandler} {l : List Cl} (nm : Names X x c) (k : SuOk X (b₀ :: su) ts) (r : ClsOk X hds l) :
      ClsOk X (.ExceptHandler (some (.Name x np)) none (b₀ :: su) q :: hds) ((c, none, ts) :: l)
  | named {x n : Str} {i : Nat} {c : Value} {ts : Addr → Value → Option Addr → TS} {b₀ : Stmt} {su : List Stmt} {np q : Pos} {hds : List ExceptHandler} {l : List Cl} (hi : X.N[i]? = some n) (hln : X.env.kindOf n = some .local) (nm : Names X x c) (k : SuOk X (b₀ :: su) ts) (r : ClsOk X hds l) :
      ClsOk X (.ExceptHandler (some (.Name x np)) (some n) (b₀ :: su) q :: hds) ((c, some i, ts) :: l)
section
variable {X : Cx} {body : List Stmt} {h₀ : ExceptHandler} {hds : List ExceptHandler} {l : List Cl} {pos : Pos} {tb : WX → TS} {Wout : WX}
theorem try_cls (stk : X.stack = X.env :: X.outer) (frm : X.env.frame = some X.env.locals) (hN : X.N.Nodup) (tk : Takes X Wout)
    (hb : ∀ (W' : WX) (pn : List (Addr × Obj)) (xe : Value → Shared → Prop), Takes (X.tr pn xe) W' → PassesOwn (model X.prog X.w) X.A X.env xe → PSs (X.tr pn xe) body (tb W'))
    (hh : ClsOk X (h₀ :: hds) l) : PS X (.Try body (h₀ :: hds) [] [] pos) (fun D σ H => tb (wCls X.K Wout D l) D σ H) := by
  refine ⟨fun pins s σ H D I pre => ?_⟩
  have ok := I.ok
  have frs0 : X.A.frames = some (X.env :: X.outer) := ok.frames.trans (congrArg some stk)
  let XE0 : Value → Shared → Prop := fun e s₁ => wpAny (model X.prog X.w) X.A (noteFrame e X.env) (fun _ s₂ => wpAny (model X.prog X.w) X.A (setFlight e none) (fun _ s₃ => wpAny (model X.prog X.w) X.A (handleBy e X.env (h₀ :: hds)) (SP X pins D) X.xe s₃) X.xe s₂) X.xe s₁
  have caught : Takes (X.tr (X.pn ++ pins) XE0) (wCls X.K Wout D l) := by
    rintro u s' ⟨a, B, sI, pins', σ', H', cls, d, rfl, J', nb, up, sky, na, os, ag, w⟩
    have J : Inv X pins σ' H' sI := J'.ofTry ok
    have sky' : Sky B (X.env :: X.outer) a (Zc cls d) X.env.locals s'.heap := stk ▸ sky
    show wpAny (model X.prog X.w) X.A (noteFrame (.ref a) X.env) _ _ _
    refine Sky.land Zc.steady frs0 frm sky' fun g3 fl3 u3 => ?_
    have J3 : Inv X pins σ' H' { s' with heap := g3 } := J.landed nb fl3.1 (up.trans u3) os ag
    obtain ⟨o3, v3, at3, z3, d3⟩ := fl3.there
    have off : ∀ {g : Heap} {o : Obj} {vs : Array Value}, g.FunFrames B (X.env :: X.outer) → g.get? a = some o → o.data = .fields vs → a ∉ frs (X.env :: X.outer) := by
      intro g o vs ff at_ dd hm
      obtain ⟨_, o', at', nd⟩ := ff.mem hm
      cases at_.symm.trans at'
      exact nd _ dd
    have n0 := off fl3.2.2.1 at3 d3
    have n1 : a ≠ X.env.locals := by
      rintro rfl
      exact n0 (List.mem_filterMap.mpr ⟨X.env, List.mem_cons_self, frm⟩)
    have n2 : a ∉ X.fs := by
      intro hm
      obtain ⟨e, he, q⟩ := List.mem_filterMap.mp hm
      exact n0 (List.mem_filterMap.mpr ⟨e, .tail _ he, q⟩)
    have S3 := J3.suite at3 d3 na n1 n2
    have LT : PySem.W.Looks (model X.prog X.w) g3 (typeOf (.ref a)) cls := fun A Q E s k q => wpAny_typeOf_ref (k _ _ at3) (z3.1.symm ▸ q)
    have go : ∀ {hs' : List ExceptHandler} {l' : List Cl}, ClsOk X hs' l' → wCls X.K Wout D l' cls d σ' H' → wpAny (model X.prog X.w) X.A (handleBy (.ref a) X.env hs') (SP X pins D) X.xe { s' with heap := g3 } := by
      intro hs' l' hk
      have ask : ∀ {x : Str} {c : Value} {np : Pos}, Names X x c → ∀ {Q E : Value → Shared → Prop}, Q c { s' with heap := g3 } → wpAny (model X.prog X.w) (X.A.mark (some (.ref a))) (eval (.Name x np) X.env) (fun v s => Q v s) E { s' with heap := g3 } := by
        rintro x c np ⟨hg, hdb, hm | ⟨hm, hv, hnn⟩⟩ Q E q
        · exact ld_glob (X := X.suite a ((a, o3) :: (X.pn ++ pins))) S3 hg hm q hdb
        · exact ld_blt (X := X.suite a ((a, o3) :: (X.pn ++ pins))) S3 hg hm hv q hnn hdb
      induction hk with
      | nil =>
        intro w
        refine wpAny_handleBy_nil ?_
        obtain ⟨_, _, _, oe, vs, T, oT, ts', he, hz, hd, h1, hr⟩ := id fl3
        unfold PySem.passOn
        refine wpAny_bind (wpAny_field he hd h1 ?_)
        rw [if_neg (by simp)]
        have up4 : wpAny (model X.prog X.w) X.A (setFlight (.ref a) X.env.frame) (fun _ s4 => wpAny (model X.prog X.w) X.A (throw (.ref a) : Sem Flow) (SP X pins D) X.xe s4) X.xe { s' with heap := g3 } := by
          rw [frm]
          exact HandSPX.setFlight_upZ fl3 fun g4 hg4 u4 => wpAny_throw (tk _ _ ⟨a, B, sI, pins, σ', H', cls, d, rfl, J, nb, (up.trans u3).trans u4, .inr (.inr (stk.symm ▸ hg4)), na, os, ag, w⟩)
        first
          | exact wpAny_bind (wpAny_pure (wpAny_bind up4))
          | exact wpAny_bind up4
      | @plain x c ts b₀ su np q hds2 l2 nm k r ih =>
        rintro ⟨b, hb1, yes, no⟩
        refine wpAny_handleBy_cons (codeAny_handlers_test ?_) (by intro z; cases z)
        refine ask nm ((PySem.W.exm_one (M := model X.prog X.w) J3.kIn LT hb1).here ?_)
        cases b with
        | false => exact ih (no rfl)
        | true =>
          refine codeAny_handlers_suite (HandSPX.lands_againZ fl3 fun g4 fl4 u4 => ?_)
          have J4 : Inv X pins σ' H' { s' with heap := g4 } := J.landed nb fl4.1 ((up.trans u3).trans u4) os ag
          obtain ⟨o4, v4, at4, z4, d4⟩ := fl4.there
          have S4 := J4.suite at4 d4 na n1 n2
          refine wpAny_mono ((k a o4 cls d (X.pn ++ pins) z4 ⟨_, d4⟩).run [] _ _ H' _ S4 (yes rfl a na)) (fun f s6 hsp => ?_) (fun _ _ z => False.elim z)
          cases f with
          | ret u => obtain ⟨v6, σ6, H6, S6, r6, q6⟩ := hsp; exact ⟨_, _, _, S6.unsuite ok, r6, q6⟩
          | _ => obtain ⟨σ6, H6, S6, q6⟩ := hsp; exact ⟨_, _, S6.unsuite ok, q6⟩
      | @named x n i c ts b₀ su np q hds2 l2 hi hln nm k r ih =>
        rintro ⟨b, hb1, yes, no⟩
        refine wpAny_handleBy_cons (codeAny_handlers_test ?_) (by intro z; cases z)
        refine ask nm ((PySem.W.exm_one (M := model X.prog X.w) J3.kIn LT hb1).here ?_)
        cases b with
        | false => exact ih (no rfl)
        | true =>
          refine codeAny_handlers_suite_as (HandSPX.lands_againZ fl3 fun g4 fl4 u4 => ?_)
          have J4 : Inv X pins σ' H' { s' with heap := g4 } := J.landed nb fl4.1 ((up.trans u3).trans u4) os ag
          obtain ⟨o4, v4, at4, z4, d4⟩ := fl4.there
          have S4 := J4.suite at4 d4 na n1 n2
          refine store_ok (X := X.suite a ((a, o4) :: (X.pn ++ pins))) (v := .ref a) S4 hN hi (.inl hln) rfl (fun s5 S5 => ?_) (.inr hln)
          refine wpAny_mono ((k a o4 cls d (X.pn ++ pins) z4 ⟨_, d4⟩).run [] s5 _ H' _ S5 (yes rfl a na)) (fun f s6 hsp => ?_) (fun _ _ z => False.elim z)
          have out : ∀ {σ6 : L2.St} {H6 : Hp} {Q : Shared → Prop}, Inv (X.suite a ((a, o4) :: (X.pn ++ pins))) [] σ6 H6 s6 → (∀ s7, Inv X pins (σ6.set i none) H6 s7 → Q s7) → wpAny (model X.prog X.w) X.A (do bindName X.env n .none; unbindBehindTheSuite X.env n q) (fun _ s7 => Q s7) X.xe s6 :=
            fun S6 hq => gone_ok (S6.unsuite ok) hN hi hln hq
          cases f with
          | ret u => obtain ⟨v6, σ6, H6, S6, r6, q6⟩ := hsp; exact out S6 fun s7 J7 => ⟨_, _, _, J7, r6, q6⟩
          | _ => obtain ⟨σ6, H6, S6, q6⟩ := hsp; exact out S6 fun s7 J7 => ⟨_, _, J7, q6⟩
    exact go hh w
  refine wpAny_Try_except (wpAny_mono ((hb _ (X.pn ++ pins) XE0 caught PassesOwn.looking).run [] s σ H D (I.toTry _) pre) (fun f s1 hsp => ?_) (fun e s1 he => he))
  cases f with
  | next => obtain ⟨σ', H', J', q⟩ := hsp; exact wpAny_execs_nil ⟨σ', H', J'.ofTry ok, q⟩
  | ret u => obtain ⟨v, σ', H', J', r, q⟩ := hsp; exact ⟨v, σ', H', J'.ofTry ok, r, q⟩
  | _ => obtain ⟨σ', H', J', q⟩ := hsp; exact ⟨σ', H', J'.ofTry ok, q⟩
end
abbrev ClF := (Str → Bool) × Option Nat × (Str → Addr → FS)
def clRun (o : Option Nat) (c : Addr → FS) (ρ : FEnv) (S : Store) (a : Addr) : RS := match o with
  | none => (c a ρ S).noX
  | some i => ((c a (ρ.set i (some (.exn a))) S).clr i).noX
noncomputable def clsR (x : Ex) (ρ : FEnv) (S : Store) : List ClF → RS
  | [] => .ex x ρ S
  | (sub, o, c) :: r => if sub x.cls then aInd (clRun o (c x.cls) ρ S) else clsR x ρ S r
/-- es: the classes that may come -/
noncomputable def sTryC (es : List Str) (cs : List ClF) (b : FS) : FS := fun ρ S => match b ρ S with
  | .ex x ρ' S' => if x.cls ∈ es ∧ x.ns = [] then clsR x ρ' S' cs else .no
  | r => r
def SuF [Wo] (X : Cx) (es : List Str) (suite : List Stmt) (c : Str → Addr → FS) : Prop :=
  ∀ (y : Str), y ∈ es → ∀ (a : Addr) (oe : Obj) (pn : List (Addr × Obj)) (C : Addr), X.mg y = some (.ref C) → Zc (.ref C) none oe → (∃ vs, oe.data = .fields vs) → PSs (X.suite a ((a, oe) :: pn)) suite (tS (X.suite a ((a, oe) :: pn)) W0 (c y a))
inductive ClsF [Wo] (X : Cx) (es : List Str) : List ExceptHandler → List ClF → Prop
  | nil : ClsF X es [] []
  | plain {x : Str} {sub : Str → Bool} {c : Str → Addr → FS} {b₀ : Stmt} {su : List Stmt} {np q : Pos} {hds : List ExceptHandler} {l : List ClF} (h : CatF X.K X.mg es x sub) (hg : Gl X x) (k : SuF X es (b₀ :: su) c) (r : ClsF X es hds l) (hd : (x == ("__debug__" : Str)) = false := by decide) :
      ClsF X es (.ExceptHandler (some (.Name x np)) none (b₀ :: su) q :: hds) ((sub, none, c) :: l)
  | named {x n : Str} {i : Nat} {sub : Str → Bool} {c : Str → Addr → FS} {b₀ : Stmt} {su : List Stmt} {np q : Pos} {hds : List ExceptHandler} {l : List ClF} (h : CatF X.K X.mg es x sub) (hg : Gl X x) (hi : X.N[i]? = some n) (hln : X.env.kindOf n = some .local) (k : SuF X es (b₀ :: su) c) (r : ClsF X es hds l) (hd : (x == ("__debug__" : Str)) = false := by decide) :
      ClsF X es (.ExceptHandler (some (.Name x np)) (some n) (b₀ :: su) q :: hds) ((sub, some i, c) :: l)
section
variable {X : Cx} {W : WX} {es : List Str}
def tsOf [Wo] (X : Cx) (es : List Str) (c : Str → Addr → FS) : Addr → Value → Option Addr → TS := fun a cls d D σ H => ∃ y C, y ∈ es ∧ X.mg y = some (.ref C) ∧ cls = .ref C ∧ d = none ∧ tS X W0 (c y a) D σ H
theorem SuF.su [Wo] {suite : List Stmt} {c : Str → Addr → FS} (k : SuF X es suite c) : SuOk X suite (tsOf X es c) := by
  intro a oe cls d pn hz hd
  refine ⟨fun pins s σ H D I h => ?_⟩
  obtain ⟨y, C, hy, hyC, rfl, rfl, t⟩ := h
  exact (k y hy a oe pn C hyC hz hd).run pins s σ H D I t
theorem EndS.nox [Wo] {K : PySem.W.Frag} {mg : Str → Option Value} {w : Wd} {H : Hp} {D : Ends} {r : RS} (h : EndS K mg w H r.noX D W) : EndS K mg w H r D W0 := by
  cases r with
  | ex x ρ S => exact h.elim
  | _ => exact h
theorem ClsF.go [Wo] {hds : List ExceptHandler} {cs : List ClF} (h : ClsF X es hds cs) (hk : ∀ y ∈ es, ExcK X.K X.mg y) : ∃ l, ClsOk X hds l ∧ ∀ (D : Ends) (w : Wd) (x : Ex) (ρ : FEnv) (S : Store) (σ : L2.St) (H : Hp) (cy : Value) (od : Option Addr), x.cls ∈ es → x.ns = [] → Sto X.K X.mg w S H → EnvR X.K X.mg w H ρ σ → ExR X.K X.mg w H x cy od →
    EndS X.K X.mg w H (clsR x ρ S cs) D W → wCls X.K W D l cy od σ H := by
  have ex0 : ∀ {w : Wd} {H : Hp} {x : Ex} {cy : Value} {od : Option Addr}, x.cls ∈ es → x.ns = [] → ExR X.K X.mg w H x cy od → ∃ C, X.mg x.cls = some (.ref C) ∧ cy = .ref C ∧ od = none := by
    intro w H x cy od hx hn ex
    obtain ⟨gy, hr⟩ := ex
    obtain ⟨C, gC, _⟩ := hk _ hx
    cases gC.symm.trans gy
    refine ⟨C, gC, rfl, ?_⟩
    rcases hr with ⟨_, _, z⟩ | ⟨d, vs, z, _⟩
    · exact z
    · exact absurd hn z
  induction h with
  | nil =>
    refine ⟨[], .nil, fun D w x ρ S σ H cy od hx hn s en ex h => ?_⟩
    exact h w H σ cy od Ext.refl s en ex
  | @plain x sub c b₀ su np q hds l hc hg k r hd ih =>
    obtain ⟨cv, nm, hx1⟩ := hc.names hg hd
    obtain ⟨l', ok', go'⟩ := ih
    refine ⟨(cv, none, tsOf X es c) :: l', .plain nm k.su ok', fun D w x ρ S σ H cy od hx hn s en ex h => ?_⟩
    obtain ⟨C, gC, rfl, rfl⟩ := ex0 hx hn ex
    refine ⟨sub x.cls, hx1 _ hx _ gC, fun hs a na => ?_, fun hs => ?_⟩
    · have h2 : EndS X.K X.mg w H (aInd (clRun none (c x.cls) ρ S)) D W := by
        have h' := h
        unfold clsR at h'
        rw [if_pos hs] at h'
        exact h'
      by_cases hno : aInd (clRun none (c x.cls) ρ S) = .no
      · rw [hno] at h2; exact h2.elim
      · rw [← aInd_at a rfl hno] at h2
        exact ⟨x.cls, C, hx, gC, rfl, rfl, w, ρ, S, s, en, h2.nox⟩
    · have h2 : EndS X.K X.mg w H (clsR x ρ S l) D W := by
        have h' := h
        unfold clsR at h'
        rw [if_neg (by rw [hs]; decide)] at h'
        exact h'
      exact go' D w x ρ S σ H _ _ hx hn s en ex h2
  | @named x n i sub c b₀ su np q hds l hc hg hi hln k r hd ih =>
    obtain ⟨cv, nm, hx1⟩ := hc.names hg hd
    obtain ⟨l', ok', go'⟩ := ih
    refine ⟨(cv, some i, tsOf X es c) :: l', .named hi hln nm k.su ok', fun D w x ρ S σ H cy od hx hn s en ex h => ?_⟩
    obtain ⟨C, gC, rfl, rfl⟩ := ex0 hx hn ex
    refine ⟨sub x.cls, hx1 _ hx _ gC, fun hs a na => ?_, fun hs => ?_⟩
    · have h2 : EndS X.K X.mg w H (aInd (clRun (some i) (c x.cls) ρ S)) D W := by
        have h' := h
        unfold clsR at h'
        rw [if_pos hs] at h'
        exact h'
      by_cases hno : aInd (clRun (some i) (c x.cls) ρ S) = .no
      · rw [hno] at h2; exact h2.elim
      · rw [← aInd_at a rfl hno] at h2
        exact ⟨x.cls, C, hx, gC, rfl, rfl, w, ρ.set i (some (.exn a)), S, s, en.set (by unfold Rp; rfl), EndS.clr h2⟩
    · have h2 : EndS X.K X.mg w H (clsR x ρ S l) D W := by
        have h' := h
        unfold clsR at h'
        rw [if_neg (by rw [hs]; decide)] at h'
        exact h'
      exact go' D w x ρ S σ H _ _ hx hn s en ex h2
theorem q_tryC [Wo] {body : List Stmt} {h₀ : ExceptHandler} {hds : List ExceptHandler} {cs : List ClF} {pos : Pos} {fb : FS} (stk : X.stack = X.env :: X.outer) (frm : X.env.frame = some X.env.locals) (hN : X.N.Nodup) (tk : Takes X W) (hk : ∀ y ∈ es, ExcK X.K X.mg y)
    (hb : ∀ (W' : WX) (pn : List (Addr × Obj)) (xe : Value → Shared → Prop), Takes (X.tr pn xe) W' → PassesOwn (model X.prog X.w) X.A X.env xe → PSs (X.tr pn xe) body (tS (X.tr pn xe) W' fb))
    (hc : ClsF X es (h₀ :: hds) cs) : PS X (.Try body (h₀ :: hds) [] [] pos) (tS X W (sTryC es cs fb)) := by
  obtain ⟨l, okl, go⟩ := hc.go (W := W) hk
  refine PS.wk (try_cls (tb := fun W' => tS X W' fb) stk frm hN tk (fun W' pn xe t o => hb W' pn xe t o) okl) fun D σ H ⟨w, ρ, S, s, en, h⟩ => ?_
  refine ⟨w, ρ, S, s, en, ?_⟩
  unfold sTryC at h
  cases hbb : fb ρ S with
  | ex y ρ' S' =>
    rw [hbb] at h
    simp only at h
    split at h
    · rename_i hm
      intro w' H' σ' cy od e s' en' ex
      exact go D w' y ρ' S' σ' H' cy od hm.1 hm.2 s' en' ex (h.on e)
    · exact h.elim
  | _ => rw [hbb] at h; exact h
end
end Kw
namespace Kw
open PySem PySem.Spec PyProof.Rows L2
end Kw
namespace Kw
open PySem PySem.Spec PyProof.Rows L2
def revS (z : Str) : Str := ⟨((Builtin.Str.strSliceIndices none none (-1) z.length).filterMap (z.cps[·]?)).toArray⟩
def keyP : Key → PyData
  | .inl i => .int i
  | .inr x => .str x
mutual
/-- a value as data that is shown -/
inductive Rs (K : PySem.W.Frag) (H : Hp) (b : Bool) : V → PyData → Prop
  | non : Rs K H b .non .none
  | bl (c : Bool) : Rs K H b (.bl c) (.bool c)
  | int (i : Int) : Rs K H b (.int i) (.int i)
  | str (x : Str) : Rs K H b (.str x) (.str x)
  | lst {a : Addr} {xs : List V} {ds : List PyData} : SqL K H a xs → (b = true → a ≠ sysModules) → RsL K H b xs ds → Rs K H b (.ref a) (.list ds)
  | tup {a : Addr} {xs : List V} {ds : List PyData} : SqT K H a xs → RsL K H b xs ds → Rs K H b (.ref a) (.tuple ds)
  | dic {a : Addr} {kvs : List (Key × V)} {ps : List (PyData × PyData)} : H a = some (.dK kvs) → RsV K H b kvs ps → Rs K H b (.ref a) (.dict ps)
inductive RsL (K : PySem.W.Frag) (H : Hp) (b : Bool) : List V → List PyData → Prop
  | nil : RsL K H b [] []
  | cons {v : V} {vs : List V} {d : PyData} {ds : List PyData} : Rs K H b v d → RsL K H b vs ds → RsL K H b (v :: vs) (d :: ds)
inductive RsV (K : PySem.W.Frag) (H : Hp) (b : Bool) : List (Key × V) → List (PyData × PyData) → Prop
  | nil : RsV K H b [] []
  | cons {k : Key} {v : V} {r : List (Key × V)} {d : PyData} {ps : List (PyData × PyData)} : Rs K H b v d → RsV K H b r ps → RsV K H b ((k, v) :: r) ((keyP k, d) :: ps)
end
mutual
/-- no list in it -/
def noLs : PyData → Bool
  | .list _ => false
  | .tuple ds => noLsL ds
  | .dict kvs => noLsV kvs
  | _ => true
def noLsL : List PyData → Bool
  | [] => true
  | d :: ds => noLs d && noLsL ds
def noLsV : List (PyData × PyData) → Bool
  | [] => true
  | (_, d) :: ps => noLs d && noLsV ps
end
section
variable {X : Cx} {pins : List (Addr × Obj)} {σ : L2.St} {H : Hp} {s : Shared} {b : Bool}
mutual
theorem Rs.reads (I : Inv X pins σ H s) : ∀ (d : PyData) (v : V) (u : Value), Rs X.K H b v d → RelV v u → ∃ as, Reads s.heap u d as ∧ (noLs d = true ∨ b = true → sysModules ∉ as)
  | .none, _, _, .non, r => by cases r; exact ⟨[], .none, fun _ z => nomatch z⟩
  | .bool b, _, _, .bl _, r => by cases r; exact ⟨[], .bool b, fun _ z => nomatch z⟩
  | .int i, _, _, .int _, r => by obtain ⟨t, rfl⟩ := r; exact ⟨[], .int i t, fun _ z => nomatch z⟩
  | .str x, _, _, .str _, r => by obtain ⟨t, rfl⟩ := r; exact ⟨[], .str x t, fun _ z => nomatch z⟩
  | .list ds, _, _, .lst (a := a) hs hne ha, r => by
    cases r
    obtain ⟨its, rv, ⟨o, n, ho, hc, _, hd⟩, _⟩ := I.list hs
    obtain ⟨as, hr, hn⟩ := RsL.reads I ds _ its ha rv
    refine ⟨_, .list ho hc hd hr, fun z => ?_⟩
    have hb : b = true := by
      rcases z with z | z
      · simp [noLs] at z
      · exact z
    intro y
    rcases List.mem_cons.mp y with y | y
    · exact hne hb y.symm
    · exact hn (.inr hb) y
  | .tuple ds, _, _, .tup hs ha, r => by
    cases r
    obtain ⟨its, rv, ⟨o, ho, hc, n, hd⟩, _⟩ := I.tuple hs
    obtain ⟨as, hr, hn⟩ := RsL.reads I ds _ its ha rv
    exact ⟨_, .tuple ho hc hd hr, fun z => hn (by simpa [noLs] using z)⟩
  | .dict ps, _, _, .dic (a := a) (kvs := kvs) hs hv, r => by
    cases r
    obtain ⟨_, sm, vs, kv, o, es, ep, ho, hc, hd, hk, hp, _⟩ := dk_of I.hok hs
    obtain ⟨h1, bs, h2, hn⟩ := RsV.reads I ps kvs vs es.toList hv kv hp
    refine ⟨_, .dict (as := []) (bs := bs) ho hc.1 hd h1 h2, fun z y => ?_⟩
    rcases List.mem_append.mp y with y | y
    · have : sysModules = a := by simpa using y
      rw [this] at sm
      simp at sm
    · exact hn (by simpa [noLs] using z) y
theorem RsL.reads (I : Inv X pins σ H s) : ∀ (ds : List PyData) (vs : List V) (us : List Value), RsL X.K H b vs ds → Vals vs us → ∃ as, ReadsAll s.heap us ds as ∧ (noLsL ds = true ∨ b = true → sysModules ∉ as)
  | [], _, _, .nil, r => by cases r; exact ⟨_, .nil, fun _ z => nomatch z⟩
  | d :: ds, _, _, .cons h1 h2, r => by
    cases r with
    | cons r1 r2 =>
      obtain ⟨as, q1, n1⟩ := Rs.reads I d _ _ h1 r1
      obtain ⟨bs, q2, n2⟩ := RsL.reads I ds _ _ h2 r2
      refine ⟨_, .cons q1 q2, fun z y => ?_⟩
      simp only [noLsL, Bool.and_eq_true] at z
      rcases List.mem_append.mp y with y | y
      · exact n1 (z.imp (·.1) id) y
      · exact n2 (z.imp (·.2) id) y
theorem RsV.reads (I : Inv X pins σ H s) : ∀ (ps : List (PyData × PyData)) (kvs : List (Key × V)) (vs : List (Key × Value)) (es : List DictEntry), RsV X.K H b kvs ps → KV kvs vs → Pairs (mixKind X.prog X.w) es vs → ReadsAll s.heap (es.map (·.key)) (ps.map (·.1)) [] ∧ ∃ bs, ReadsAll s.heap (es.map (·.val)) (ps.map (·.2)) bs ∧ (noLsV ps = true ∨ b = true → sysModules ∉ bs)
  | [], _, _, _, .nil, r, q => by cases r; cases q; exact ⟨.nil, [], .nil, fun _ z => nomatch z⟩
  | (_, d) :: ps, _, _, _, .cons (k := k) h1 h2, r, q => by
    cases r with
    | cons r1 r2 =>
      cases q with
      | cons q1 q2 q3 =>
        obtain ⟨e1, e2⟩ := r1
        obtain ⟨a1, bs, a2, a3⟩ := RsV.reads I ps _ _ _ h2 r2 q3
        obtain ⟨as, b1, b2⟩ := Rs.reads I d _ _ h1 e2
        refine ⟨?_, as ++ bs, ?_, fun z y => ?_⟩
        · rw [← e1] at q1
          have hk : ∀ v, keyIs k v = true → Reads s.heap v (keyP k) [] := fun v hv => by
            rcases keyIs_shape hv with ⟨i, t, rfl, rfl⟩ | ⟨x, t, rfl, rfl⟩
            · exact .int i t
            · exact .str x t
          exact ReadsAll.cons (hk _ q1) a1
        · rw [List.map_cons, List.map_cons, q2]
          exact .cons b1 a2
        · simp only [noLsV, Bool.and_eq_true] at z
          rcases List.mem_append.mp y with y | y
          · exact b2 (z.imp (·.1) id) y
          · exact a3 (z.imp (·.2) id) y
end
end
section
variable {K : PySem.W.Frag} {mg : Str → Option Value} {w : Wd} {H : Hp} {S : Store} {b : Bool}
theorem RsV.zip : ∀ {ks : List Key} {vs : List V} {ps : List PyData}, RsL K H b vs ps → RsV K H b (ks.zip vs) ((ks.map keyP).zip ps)
  | [], _, _, _ => .nil
  | _ :: _, _, _, .nil => .nil
  | _ :: _, _, _, .cons h1 h2 => .cons h1 (RsV.zip h2)
theorem Fp.ne {a : Addr} {xs : List V} (t : Fp K w H a xs) (h1 : sysModules ∈ w.hd) (h2 : K.lookup sysModules = none) : a ≠ sysModules := by
  intro e
  subst e
  rcases t with ⟨o, _, off⟩ | ⟨o, its, n, h, _⟩
  · exact off.2 h1
  · rw [h2] at h; cases h
end
end Kw
namespace Kw
open PySem PySem.Spec PyProof.Rows L2
/-- a text, a tuple, a list turned round -/
def gTurn (x : D) (S : Store) : RE D := match x with
  | .str z => if z.length ≤ 16777216 then .ok (.str (revS z)) S else .no
  | .tup ds => .ok (.tup ds.reverse) S
  | x => (match seqL S x with
    | some ds => .ok (.lst ds.reverse) S
    | none => .no)
@[simp] theorem gTurn_tup {ds : List D} {S : Store} : gTurn (.tup ds) S = .ok (.tup ds.reverse) S := rfl
end Kw
namespace Kw
open PySem PySem.Spec PyProof.Rows L2
end Kw
namespace Kw
open PySem PySem.Spec PyProof.Rows L2
end Kw
namespace Kw
open PySem PySem.Spec PySem.Calls PyProof.Rows L2
/-- xs put in the order of their data -/
noncomputable def sortB {α : Type} (xs : List α) (ps : List PyData) : List α := ((xs.zip ps).mergeSort (PySem.W.dataLe false Prod.snd)).map Prod.fst
theorem zip_snd {α : Type} : ∀ {xs : List α} {ps : List PyData}, xs.length = ps.length → (xs.zip ps).map Prod.snd = ps
  | [], [], _ => rfl
  | [], _ :: _, h => by simp at h
  | _ :: _, [], h => by simp at h
  | x :: xs, p :: ps, h => by
    show p :: (xs.zip ps).map Prod.snd = _
    rw [zip_snd (by simpa using h)]
theorem zip_fst {α : Type} : ∀ {xs : List α} {ps : List PyData}, xs.length = ps.length → (xs.zip ps).map Prod.fst = xs
  | [], [], _ => rfl
  | [], _ :: _, h => by simp at h
  | _ :: _, [], h => by simp at h
  | x :: xs, p :: ps, h => by
    show x :: (xs.zip ps).map Prod.fst = _
    rw [zip_fst (by simpa using h)]
theorem sortB_perm {α : Type} {xs : List α} {ps : List PyData} (h : xs.length = ps.length) : (sortB xs ps).Perm xs := by
  have h1 := (List.mergeSort_perm (xs.zip ps) (PySem.W.dataLe false Prod.snd)).map Prod.fst
  rw [zip_fst h] at h1
  exact h1
theorem sortB_length {α : Type} {xs : List α} {ps : List PyData} (h : xs.length = ps.length) : (sortB xs ps).length = xs.length := (sortB_perm h).length_eq
/-- sorted by what stands for each -/
theorem sortB_map {α β : Type} (f : β → α) (p : β → PyData) (L : List β) : sortB (L.map f) (L.map p) = (L.mergeSort (PySem.W.dataLe false p)).map f := by
  have e : (L.map f).zip (L.map p) = L.map fun x => (f x, p x) := by
    induction L with
    | nil => rfl
    | cons x L ih => simp [ih]
  unfold sortB
  rw [e, ← List.map_mergeSort (f := fun x => (f x, p x)) (r := PySem.W.dataLe false p) (fun a _ b _ => rfl), List.map_map]
  rfl
theorem DpAll.length {K : PySem.W.Frag} {H : Hp} : ∀ {vs : List V} {ds : List PyData}, DpAll K H vs ds → vs.length = ds.length
  | _, _, .nil => rfl
  | _, _, .cons _ t => by simp [DpAll.length t]
theorem depth_mem : ∀ {ps : List PyData} {p : PyData}, p ∈ ps → p.depth ≤ PyData.depthAll ps
  | q :: ps, p, h => by
    simp only [PyData.depthAll]
    rcases List.mem_cons.mp h with rfl | h
    · omega
    · have := depth_mem h; omega
section
variable {X : Cx}
theorem each_vals : ∀ {xs : List V} {us : List Value} {ps : List PyData}, Vals xs us → xs.length = ps.length → PySem.W.EachIs (fun u (b : V × PyData) => RelV b.1 u) us (xs.zip ps)
  | _, _, [], .nil, _ => .nil
  | _, _, _ :: _, .nil, h => by simp at h
  | _, _, [], .cons _ _, h => by simp at h
  | _, _, p :: ps, .cons r t, h => .cons r (each_vals t (by simpa using h))
theorem vals_each : ∀ {bs : List (V × PyData)} {us : List Value}, PySem.W.EachIs (fun u (b : V × PyData) => RelV b.1 u) us bs → Vals (bs.map Prod.fst) us
  | _, _, .nil => .nil
  | _, _, .cons r t => .cons r (vals_each t)
theorem pySL_length {S : Store} : ∀ {ds : List D} {ps : List PyData}, pySL S ds = some ps → ds.length = ps.length
  | [], ps, h => by
    have : some [] = some ps := h
    cases this; rfl
  | d :: ds, ps, h => by
    have h' : ((pyS S d).bind fun a => (pySL S ds).map (a :: ·)) = some ps := h
    rw [Option.bind_eq_some_iff] at h'
    obtain ⟨p, _, h2⟩ := h'
    rw [Option.map_eq_some_iff] at h2
    obtain ⟨qs, h3, rfl⟩ := h2
    simp [pySL_length h3]
theorem RpL.of_all {K : PySem.W.Frag} {mg : Str → Option Value} {w : Wd} {H : Hp} : ∀ {L : List (D × V)}, (∀ b ∈ L, Rp K mg w H b.1 b.2) → RpL K mg w H (L.map Prod.fst) (L.map Prod.snd)
  | [], _ => RpL.nil
  | b :: L, h => RpL.cons (h b List.mem_cons_self) (RpL.of_all fun c hc => h c (List.mem_cons_of_mem _ hc))
theorem RpL.zip {K : PySem.W.Frag} {mg : Str → Option Value} {w : Wd} {H : Hp} : ∀ {ds : List D} {vs : List V}, RpL K mg w H ds vs → ∀ b ∈ ds.zip vs, Rp K mg w H b.1 b.2
  | [], vs, h, b, hb => by simp at hb
  | d :: ds, vs, h, b, hb => by
    unfold RpL at h
    obtain ⟨v, r, rfl, h1, h2⟩ := h
    rcases List.mem_cons.mp hb with rfl | hb
    · exact h1
    · exact RpL.zip h2 b hb
theorem RpL.sort {K : PySem.W.Frag} {mg : Str → Option Value} {w : Wd} {H : Hp} {ds : List D} {vs : List V} {ps : List PyData} (h : RpL K mg w H ds vs) (hp : ds.length = ps.length) : RpL K mg w H (sortB ds ps) (sortB vs ps) := by
  have el := h.length
  have z1 : ((ds.zip vs).zip ps).map (fun t => t.1.1) = ds := by
    have e : (fun t : (D × V) × PyData => t.1.1) = Prod.fst ∘ Prod.fst := rfl
    rw [e, ← List.map_map, zip_fst (by rw [List.length_zip]; omega)]
    exact List.map_fst_zip (by omega)
  have z2 : ((ds.zip vs).zip ps).map (fun t => t.1.2) = vs := by
    have e : (fun t : (D × V) × PyData => t.1.2) = Prod.snd ∘ Prod.fst := rfl
    rw [e, ← List.map_map, zip_fst (by rw [List.length_zip]; omega)]
    exact List.map_snd_zip (by omega)
  have z3 : ((ds.zip vs).zip ps).map Prod.snd = ps := zip_snd (by rw [List.length_zip]; omega)
  have s1 := sortB_map (fun t : (D × V) × PyData => t.1.1) Prod.snd ((ds.zip vs).zip ps)
  have s2 := sortB_map (fun t : (D × V) × PyData => t.1.2) Prod.snd ((ds.zip vs).zip ps)
  rw [z1, z3] at s1
  rw [z2, z3] at s2
  rw [s1, s2]
  have key := RpL.of_all (K := K) (mg := mg) (w := w) (H := H) (L := (((ds.zip vs).zip ps).mergeSort (PySem.W.dataLe false Prod.snd)).map Prod.fst) (fun b hb => by
    obtain ⟨t, ht, rfl⟩ := List.mem_map.mp hb
    have hm := (List.mergeSort_perm _ _).mem_iff.mp ht
    exact RpL.zip h _ (List.of_mem_zip (a := t.1) (b := t.2) hm).1)
  rw [List.map_map, List.map_map] at key
  exact key
end
end Kw
namespace Kw
open PySem PySem.Spec PySem.Calls PyProof.Rows L2
/-- a code object, its table, the name that the table's code objects bear -/
abbrev Tb := Addr × Addr × Str
def tbP (cs : List Tb) : List Addr := cs.map fun p => p.2.1
/-- the cells at the start -/
def topS0 (cs : List Tb) : Store := .sys :: cs.map fun p => .tab p.2.2
def topW (cs : List Tb) : Wd := ⟨none :: (tbP cs).map some, [sysModules]⟩
structure TopH (K : PySem.W.Frag) (cs : List Tb) (H : Hp) (a : Addr) (ns : List Int) : Prop where
  sysx : ∃ φ, H sysModules = some (.ext φ) ∧ SysQ φ
  look : K.lookup sysModules = none
  tbl : ∀ p ∈ cs, H p.2.1 = some (.tbl #[])
  tin : ∀ p ∈ cs, PySem.W.tabIn K p.2.2 = some (p.1, p.2.1)
  nodup : (tbP cs).Nodup
  scr : SqL K H a (ns.map V.int)
  frz : ∀ o, H a = some o → ∃ u, o = .frz u (.lst (ns.map V.int))
section
variable {K : PySem.W.Frag} {mg : Str → Option Value} {cs : List Tb} {H : Hp} {a : Addr} {ns : List Int}
theorem TopH.sys_ne (t : TopH K cs H a ns) {p : Tb} (hp : p ∈ cs) : p.2.1 ≠ sysModules := fun e => by
  obtain ⟨φ, h, _⟩ := t.sysx
  have := t.tbl p hp
  rw [e, h] at this; cases this
theorem topW_get {n : Nat} {b : Addr} (h : (topW cs).φ[n]? = some (some b)) : ∃ m, n = m + 1 ∧ (tbP cs)[m]? = some b := by
  cases n with
  | zero => cases h
  | succ m =>
    refine ⟨m, rfl, ?_⟩
    have h' : ((tbP cs).map some)[m]? = some (some b) := h
    rw [List.getElem?_map] at h'
    cases e : (tbP cs)[m]? with
    | none => rw [e] at h'; cases h'
    | some c => rw [e] at h'; simpa using h'
theorem top_sto [Wo] (t : TopH K cs H a ns) : Sto K mg (topW cs) (topS0 cs) H := by
  have nsys : some sysModules ∉ (topW cs).φ := fun z => by
    rcases List.mem_cons.mp (show some sysModules ∈ none :: (tbP cs).map some from z) with z | z
    · cases z
    · obtain ⟨b, hb, e⟩ := List.mem_map.mp z
      cases e
      obtain ⟨p, hp, e⟩ := List.mem_map.mp hb
      exact t.sys_ne hp e
  refine ⟨by simp [topW, topS0, tbP], fun m n b h1 h2 => ?_, fun b hb => ?_, fun n c hc => ?_⟩
  · obtain ⟨i, rfl, hi⟩ := topW_get h1
    obtain ⟨j, rfl, hj⟩ := topW_get h2
    have hil : i < (tbP cs).length := by
      rcases Nat.lt_or_ge i (tbP cs).length with l | l
      · exact l
      · rw [List.getElem?_eq_none l] at hi; cases hi
    have := (List.getElem?_inj hil t.nodup).mp (hi.trans hj.symm)
    omega
  · have e : b = sysModules := by simpa [topW] using hb
    subst e
    obtain ⟨φ, h, _⟩ := t.sysx
    exact ⟨by rw [h]; exact fun z => (nomatch z), nsys⟩
  · cases n with
    | zero =>
      have e : c = .sys := by simpa [topS0] using hc.symm
      subst e
      exact ⟨rfl, List.mem_cons_self, nsys, t.sysx, t.look⟩
    | succ m =>
      have hc' : (cs.map fun p => Cell.tab p.2.2)[m]? = some c := hc
      rw [List.getElem?_map] at hc'
      cases e : cs[m]? with
      | none => rw [e] at hc'; cases hc'
      | some p =>
        rw [e] at hc'
        have e2 : Cell.tab p.2.2 = c := by simpa using hc'
        subst e2
        have hp := List.mem_of_getElem? e
        refine ⟨_, _, t.tin p hp, ?_, #[], t.tbl p hp, trivial, fun pos cv h => ?_⟩
        · show ((tbP cs).map some)[m]? = _
          rw [List.getElem?_map, tbP, List.getElem?_map, e]; rfl
        · have h' : codeAmong pos [] = some cv := h
          simp [codeAmong] at h'
theorem top_script (t : TopH K cs H a ns) : Rp K mg (topW cs) H (.fls (ns.map .int)) (.ref a) := by
  unfold Rp
  refine ⟨a, _, rfl, ?_, RpL.ints ns⟩
  rcases t.scr with (h | ⟨o, h⟩) | h
  · obtain ⟨u, e⟩ := t.frz _ h; cases e
  · refine .inl ⟨o, h, fun z => ?_, fun z => ?_⟩
    · rcases List.mem_cons.mp (show some a ∈ none :: (tbP cs).map some from z) with z | z
      · cases z
      · obtain ⟨b, hb, e⟩ := List.mem_map.mp z
        cases e
        obtain ⟨p, hp, rfl⟩ := List.mem_map.mp hb
        have := t.tbl p hp
        rw [h] at this; cases this
    · have e : a = sysModules := by simpa [topW] using z
      obtain ⟨φ, q, _⟩ := t.sysx
      rw [e, q] at h; cases h
  · exact .inr h
/-- the law's promise, from a heap of that kind; the modules' table stays -/
def spTop (K : PySem.W.Frag) (cs : List Tb) : Sp := fun vs H Q _ => ∃ (a : Addr) (ns : List Int), vs = [.ref a] ∧ ns.length ≤ 63 ∧ (∀ z ∈ ns, Builtin.Int.intBits z ≤ 1048576) ∧ TopH K cs H a ns ∧ ∀ H', (∀ φ, H sysModules = some (.ext φ) → H' sysModules = some (.ext φ)) → Q (.bl true) H'
theorem top_imp [Wo] {F : FF} (hF : ∀ ns : List Int, ns.length ≤ 63 → (∀ z ∈ ns, Builtin.Int.intBits z ≤ 1048576) → ∃ S', F [.fls (ns.map .int)] (topS0 cs) = .ok (.bl true) S') : ∀ vs H Q E, spTop K cs vs H Q E → spF K mg 1 F vs H Q E := by
  rintro vs H Q E ⟨a, ns, rfl, hl, hb, t, q⟩
  obtain ⟨S', e⟩ := hF ns hl hb
  have st := top_sto (mg := mg) t
  refine ⟨topW cs, topS0 cs, [.fls (ns.map .int)], st, RpL.one (top_script t), rfl, ?_⟩
  rw [e]
  intro w' H' v ex s r
  rw [rp_bl r]
  exact q H' fun φ h => ex.fr _ _ h (st.ap sysModules List.mem_cons_self).2
def topH (K : PySem.W.Frag) (ps : List Addr) (om : Obj) (a : Addr) (vs : List Value) (ns : List Int) : Hp := fun b =>
  if b = sysModules then some (.ext fun h => h.get? sysModules = some om) else if b ∈ ps then some (.tbl #[]) else if b = a ∧ (K.lookup a).isNone = true then some (.frz (scrO vs) (.lst (ns.map V.int))) else none
theorem head_t {P : Program} {w : World} {mb : Str → Option Value} {k : Nat} {fa : Addr} {fd : FuncData} {x : Str} {s : Shared} {vs : List Value} (KX : K.In s.heap) (gm : s.heap.Ns mainGlobals mg) (gb : s.heap.Ns builtinsNs mb)
    (boot : ∀ y : Str, y ≠ "__name__" → mb y = bootBuiltins y) (lim : s.heap.NoLimit) (sy : ∃ mm, s.heap.Ns sysModules mm) (bmn : ∃ bm ob, mg "__builtins__" = some (.ref bm) ∧ bm ≠ builtinsNs ∧ s.heap.get? bm = some ob ∧ ob.cls = .type "module" ∧ ob.dict = some builtinsNs ∧ ob.data = .plain) (ng : s.gens = #[])
    (ha : s.heap.get? a = some (scrO vs)) (hi : IntsAre vs ns) (hl : ns.length ≤ 63) (hz : ∀ z ∈ ns, Builtin.Int.intBits z ≤ 1048576) (hr : RoomG k callerA)
    (kS : K.lookup sysModules = none) (hT : ∀ p ∈ cs, s.heap.get? p.2.1 = some { cls := .none, data := .fields #[] }) (kT : ∀ p ∈ cs, K.lookup p.2.1 = none) (hC : ∀ p ∈ cs, PySem.W.CodeHd s.heap p.1 p.2.1) (nd : (tbP cs).Nodup) (hI : ∀ p ∈ cs, PySem.W.tabIn K p.2.2 = some (p.1, p.2.1))
    (F : ∀ base : Heap, K.In base → base.Ns mainGlobals mg → (∀ p ∈ cs, LamX.TabB base mg p.1 p.2.1) → FnG P w K mg base k fa fd [x] (spTop K cs)) (hbd : ∀ (s : Shared) (u : Value), BindsTo s fd ⟨[u], []⟩ [(x, u)]) (no : ∀ H e s', L2.CX P w [] H s (fun _ _ _ => False) e s' → False) :
    codeAny (model P w) callerA (.call (.ref fa) ⟨[.ref a], []⟩) (fun r s' => r = .ok (.ret (.bool true)) ∧ OldK s.heap s'.heap ∧ s'.os = s.os ∧ AllBare s'.gens) s := by
  obtain ⟨mm, om, es, ep, hom, hod, _⟩ := sy
  have rv := vals_ints hi
  have hsz : ns.length ≤ sizeLine := Nat.le_trans hl (by rw [sizeLine_eq]; decide)
  have hsz' : (ns.map V.int).length ≤ sizeLine := by rw [List.length_map]; exact hsz
  have aS : a ≠ sysModules := fun e => by
    rw [e, hom] at ha
    have := congrArg Obj.data (Option.some.inj ha)
    rw [hod] at this; cases this
  have tS : ∀ p ∈ cs, p.2.1 ≠ sysModules := fun p hp e => by
    have := hT p hp
    rw [e, hom] at this
    have := congrArg Obj.data (Option.some.inj this)
    rw [hod] at this; cases this
  have tA : a ∉ tbP cs := fun z => by
    obtain ⟨p, hp, e⟩ := List.mem_map.mp z
    have := hT p hp
    rw [e, ha] at this
    have := congrArg Obj.data (Option.some.inj this)
    cases this
  have sT : sysModules ∉ tbP cs := fun z => by
    obtain ⟨p, hp, e⟩ := List.mem_map.mp z
    exact tS p hp e
  generalize hH : topH K (tbP cs) om a vs ns = H
  have Hs : H sysModules = some (.ext fun h => h.get? sysModules = some om) := by rw [← hH]; exact if_pos rfl
  have Ht : ∀ b, b ∈ tbP cs → H b = some (.tbl #[]) := fun b hb => by
    rw [← hH]; unfold topH
    have n1 : ¬ b = sysModules := fun z => sT (by rw [← z]; exact hb)
    rw [if_neg n1, if_pos hb]
  have Ho : ∀ b, b ≠ sysModules → b ∉ tbP cs → H b = if b = a ∧ (K.lookup a).isNone = true then some (.frz (scrO vs) (.lst (ns.map V.int))) else none := fun b h1 h2 => by
    rw [← hH]; unfold topH
    rw [if_neg h1, if_neg h2]
  have Hc : ∀ b u, H b = some u → (b = sysModules ∧ u = .ext fun h => h.get? sysModules = some om) ∨ (b ∈ tbP cs ∧ u = .tbl #[]) ∨ (b = a ∧ K.lookup a = none ∧ u = .frz (scrO vs) (.lst (ns.map V.int))) := fun b u e => by
    by_cases h1 : b = sysModules
    · subst h1; rw [Hs] at e; cases e; exact .inl ⟨rfl, rfl⟩
    · by_cases h2 : b ∈ tbP cs
      · rw [Ht b h2] at e; cases e; exact .inr (.inl ⟨h2, rfl⟩)
      · rw [Ho b h1 h2] at e
        split at e
        · rename_i q; cases e; exact .inr (.inr ⟨q.1, by simpa using q.2, rfl⟩)
        · cases e
  have top : TopH K cs H a ns := by
    refine ⟨⟨_, Hs, fun h z => ⟨om, es, ep, z, hod⟩⟩, kS, fun p hp => Ht _ (List.mem_map.mpr ⟨p, hp, rfl⟩), hI, nd, ?_, fun o e => ?_⟩
    · cases hk : K.lookup a with
      | some o =>
        have e := (KX a o hk).symm.trans ha
        cases e
        exact .inr ⟨_, vs.toArray, _, hk, rfl, rfl, rfl, by rw [List.size_toArray, hi.length]; exact hsz, by simpa using rv⟩
      | none => exact .inl (.inr ⟨scrO vs, by rw [Ho a aS tA, if_pos ⟨rfl, by rw [hk]; rfl⟩]⟩)
    · rcases Hc _ _ e with ⟨z, _⟩ | ⟨z, _⟩ | ⟨_, _, z⟩
      · exact absurd z aS
      · exact absurd z tA
      · exact ⟨_, z⟩
  have hok : HOk P w H s.heap := fun b u e => by
    rcases Hc _ _ e with ⟨rfl, rfl⟩ | ⟨z, rfl⟩ | ⟨rfl, _, rfl⟩
    · exact ⟨hom, ⟨om, hom⟩, fun h1 h2 q st => st _ q⟩
    · obtain ⟨p, hp, rfl⟩ := List.mem_map.mp z
      exact hT p hp
    · exact ⟨ha, hsz', vs, _, rv, ha⟩
  have un : ∀ {b : Addr} {o : Obj}, s.heap.get? b = some o → b ≠ sysModules → o.data ≠ .fields #[] → (o ≠ scrO vs ∨ K.lookup b ≠ none) → H b = none := fun {b o} g n1 n2 n3 => by
    cases e : H b with
    | none => rfl
    | some u =>
      rcases Hc _ _ e with ⟨z, _⟩ | ⟨z, _⟩ | ⟨rfl, k0, _⟩
      · exact absurd z n1
      · obtain ⟨p, hp, rfl⟩ := List.mem_map.mp z
        rw [hT p hp] at g; cases g
        exact absurd rfl n2
      · rcases n3 with n | n
        · exact absurd (Option.some.inj (g.symm.trans ha)) n
        · exact absurd k0 n
  have nsT : ∀ {b : Addr} {m : Str → Option Value}, b ≠ sysModules → s.heap.Ns b m → (hidT s.heap H).Ns b m := fun {b m} n ⟨o, es, ep, g, d, r⟩ =>
    ⟨o, es, ep, hidT_get g (un g n (fun z => by rw [z] at d; cases d) (.inl fun z => by rw [z] at d; exact nomatch d)), d, r⟩
  have kH : K.In (hidT s.heap H) := fun b o g => by
    refine hidT_get (KX b o g) ?_
    cases e : H b with
    | none => rfl
    | some u =>
      rcases Hc _ _ e with ⟨rfl, _⟩ | ⟨z, _⟩ | ⟨rfl, k0, _⟩
      · rw [kS] at g; cases g
      · obtain ⟨p, hp, rfl⟩ := List.mem_map.mp z
        rw [kT p hp] at g; cases g
      · rw [k0] at g; cases g
  obtain ⟨mc, lim1, lim2⟩ := lim
  have dS : mainGlobals ≠ sysModules := by decide
  have dB : builtinsNs ≠ sysModules := by decide
  have dC : cStatics ≠ sysModules := by decide
  have md : L2.Mod K mg (hidT s.heap H) := ⟨kH, nsT dS gm, ⟨mb, nsT dB gb, boot⟩, ⟨mc, nsT dC lim1, lim2⟩⟩
  have tb : ∀ p ∈ cs, LamX.TabB (hidT s.heap H) mg p.1 p.2.1 := fun p hp => by
    have tp := hT p hp
    refine ⟨?_, ?_, fun z => ?_⟩
    · obtain ⟨oc, us, f1, f2, f3, f4, f5, f6, f7, g1, g2, g3, g4, rest⟩ := hC p hp
      refine ⟨oc, us, f1, f2, f3, f4, f5, f6, f7, hidT_get g1 (un g1 (fun z => ?_) (fun z => ?_) (.inl fun z => ?_)), g2, g3, g4, rest⟩
      · rw [z, hom] at g1; cases g1
        rw [hod] at g3; cases g3
      · rw [z] at g3; cases g3; simp at g4
      · rw [z] at g3; cases g3
    · obtain ⟨bm, ob, b1, b2, b3, b4, b5, b6⟩ := bmn
      refine ⟨bm, ob, b1, b2, fun z => ?_, fun z => ?_, hidT_get b3 (un b3 (fun z => ?_) (fun z => ?_) (.inl fun z => ?_)), b4, b5, b6⟩
      · obtain ⟨og, _, _, g1, g2, _⟩ := gm
        rw [z, g1] at b3; cases b3
        rw [g2] at b6; cases b6
      · rw [z, tp] at b3; cases b3; cases b6
      · rw [z, hom] at b3; cases b3
        rw [hod] at b6; cases b6
      · rw [z] at b6; cases b6
      · rw [z] at b6; cases b6
    · obtain ⟨og, _, _, g1, g2, _⟩ := gm
      rw [z, tp] at g1; cases g1; cases g2
  have e0 : Env0 P w K mg (hidT s.heap H) callerA [] s H := { frames := rfl, mod := md, bs := fun b o g => of_hidT g, bsz := Nat.le_of_eq (hidT_size _ _), funs := trivial, frf := fun b hb => (nomatch hb), hok := hok, bare := .of_eq ng }
  refine codeAny_mono ((F _ kH (nsT dS gm) tb).runs callerA [] s H ⟨[.ref a], []⟩ [.ref a] [.ref a] (fun v H' => v = .bl true ∧ ∀ φ, H sysModules = some (.ext φ) → H' sysModules = some (.ext φ)) (fun _ _ _ => False) hr e0 (hbd s (.ref a)) (.cons rfl .nil) ⟨a, ns, rfl, hl, hz, top, fun H' q => ⟨rfl, q⟩⟩) fun r s' h => ?_
  match r, h with
  | .error e, h => exact (no H e s' h).elim
  | .ok .next, h => exact h.elim
  | .ok .brk, h => exact h.elim
  | .ok .cont, h => exact h.elim
  | .ok (.ret u), ⟨v, H', os, bare, ch, hok', rv', q1, q2⟩ =>
    subst q1
    obtain rfl : u = Value.bool true := rv'
    have kept : ∀ b o, b ∉ tbP cs → s.heap.get? b = some o → s'.heap.get? b = some o := fun b o nb g => by
      cases e : H b with
      | none => exact ch.keep b o g e (fun y => nomatch y) (fun y => nomatch y)
      | some z =>
        rcases Hc _ _ e with ⟨rfl, rfl⟩ | ⟨y, _⟩ | ⟨rfl, _, rfl⟩
        · obtain ⟨y, _⟩ := hok' _ _ (q2 _ e)
          rw [hom] at g; cases g; exact y
        · exact absurd y nb
        · rw [ha] at g; cases g
          exact (hok' _ _ (ch.frzs _ _ _ e)).1
    have grew : ∀ b ∈ tbP cs, ∃ more : Array Value, s'.heap.get? b = some { cls := .none, data := .fields more } := fun b hb => by
      obtain ⟨more, z⟩ := ch.tbls b #[] (Ht b hb)
      exact ⟨_, hok' b _ z⟩
    refine ⟨rfl, ⟨fun b o g => ?_, fun b o g => ?_⟩, os, bare⟩
    · by_cases hb : b ∈ tbP cs
      · obtain ⟨more, hm⟩ := grew b hb
        obtain ⟨p, hp, rfl⟩ := List.mem_map.mp hb
        have tp := hT p hp
        rw [tp] at g; cases g
        exact .inr (.inl ⟨((hC p hp).tab tp).isCodeTable, rfl, #[], more, rfl, by rw [Array.empty_append]; exact hm⟩)
      · exact .inl (kept b o hb g)
    · by_cases hb : b ∈ tbP cs
      · obtain ⟨more, hm⟩ := grew b hb
        exact ⟨_, hm⟩
      · exact ⟨o, kept b o hb g⟩
/-- what is known of the law at the top's heap -/
structure TopOk (K : PySem.W.Frag) (mg : Str → Option Value) (cs : List Tb) (h : Heap) : Prop where
  sysk : K.lookup sysModules = none
  at_ : ∀ p ∈ cs, h.get? p.2.1 = some { cls := .none, data := .fields #[] }
  look : ∀ p ∈ cs, K.lookup p.2.1 = none
  code : ∀ p ∈ cs, PySem.W.CodeHd h p.1 p.2.1
  nodup : (tbP cs).Nodup
  tin : ∀ p ∈ cs, PySem.W.tabIn K p.2.2 = some (p.1, p.2.1)
theorem TopOk.none {h : Heap} (hk : K.lookup sysModules = none) : TopOk K mg [] h := ⟨hk, fun _ z => (nomatch z), fun _ z => (nomatch z), fun _ z => (nomatch z), List.nodup_nil, fun _ z => (nomatch z)⟩
end
theorem walk_t {l : PySem.W.OpenLaw} {k : Nat} {q : Program} {loose : List Str} {XP : (Str → Option Value) → Heap → Prop} {YP : World → Heap → Prop} {d : DefRec} {K : Params → PySem.W.Frag} {x : Str} (hn : l.most = some 63) (hdf : d.params.defaults = []) (hr : RoomG k callerA) (hnone : importsNone q = true)
    (hY : ∀ (w : World) (h : Heap), YP w h → (K w.params).In h)
    (F : ∀ (w : World) (mg mb : Str → Option Value) (mean : ExcName → Option Value) (fa : Addr) (h : Heap), Top q (PySem.W.looseW q loose) mean mg mb h → (K w.params).In h → h.Ns mainGlobals mg → mg d.name = some (.ref fa) →
      ∃ (cs : List Tb) (fd : FuncData), TopOk (K w.params) mg cs h ∧ (∀ (s : Shared) (u : Value), BindsTo s fd ⟨[u], []⟩ [(x, u)]) ∧ ∀ base : Heap, (K w.params).In base → base.Ns mainGlobals mg → (∀ p ∈ cs, LamX.TabB base mg p.1 p.2.1) → FnG l.prog w (K w.params) mg base k fa fd [x] (spTop (K w.params) cs))
    (no : ∀ (w : World) (H : Hp) (s : Shared) (e : Value) (s' : Shared), L2.CX l.prog w [] H s (fun _ _ _ => False) e s' → False) : PySem.W.WalkO q loose XP YP l.row.toRowW d [] (fun f vs => PySem.call f vs) := by
  refine Att.attach_callB hn hdf fun w s0 s1 mg mb fa o pm cd doc a vs ns G Y ho hd hcd hmg hobj hints hlen hbits hg => ?_
  obtain ⟨cs, fd, tk, hbd, hF⟩ := F w mg mb _ fa _ G.T (hY w _ Y) G.T.g hmg
  obtain ⟨mm, hm, _⟩ := (G.T.seer hnone).mods
  exact head_t (hY w _ Y) G.T.g G.T.b G.T.builtins G.T.nolimit ⟨mm, hm⟩ G.T.bmain hg hobj hints hlen hbits hr tk.sysk tk.at_ tk.look tk.code tk.nodup tk.tin hF hbd (fun H e s' => no w H s1 e s')
/-- the law's def as the end wants it -/
theorem law_mkT [Wo] {P : Program} {w : World} {K : PySem.W.Frag} {mg : Str → Option Value} {h : Heap} {k : Nat} {fa f : Addr} {x nm : Str} {st : Stmt} {N : List Str} {b : FS} {cs : List Tb} {oc : Value} {od an : Option Addr} {osl : Array (Option Value)} {kV doc pm cdv ct : Value} (X : K.In h) (G : h.Ns mainGlobals mg) (hfa : mg nm = some (.ref fa))
    (tk : TopOk K mg cs h) (a : PySem.W.nsIn K mainGlobals nm = some (some (.ref f))) (l : K.lookup f = some ⟨oc, od, .func (PySem.W.fnOf nm nm (defArgs st) (defBody st) (defScope st) .none kV doc pm an cdv ct), osl⟩) (c : PySem.W.codeIn K cdv nm = true) (kk : PySem.W.keepIn K (.ref f) = true)
    (hb : ∀ (kV doc pm : Value) (an : Option Addr) (cdv ct : Value) (us : List Value), us.length = 1 → bindArgs (PySem.W.fnOf nm nm (defArgs st) (defBody st) (defScope st) .none kV doc pm an cdv ct) ⟨us, []⟩ = pure ([x].zip us)) (S : FnScope N [x] (defScope st))
    (body : ∀ base : Heap, K.In base → base.Ns mainGlobals mg → (∀ p ∈ cs, LamX.TabB base mg p.1 p.2.1) → ∀ (f : Addr) (cdv : Value) (A : Around) (outer : List Env) (s : Shared) (H : Hp) (E : XK), RoomG k (A.deeper (envOfC nm (defScope st) s.heap.objs.size f cdv)) →
      PSs (cxOf (L2.CX P w) P w K mg base N nm (defScope st) f cdv A outer s H E) (defBody st) (tS (cxOf (L2.CX P w) P w K mg base N nm (defScope st) f cdv A outer s H E) (fun c d _ H => E c d H) b))
    (hF : ∀ ns : List Int, ns.length ≤ 63 → (∀ z ∈ ns, Builtin.Int.intBits z ≤ 1048576) → ∃ S', fnB 1 N.length b [.fls (ns.map .int)] (topS0 cs) = .ok (.bl true) S') :
    ∃ (cs : List Tb) (fd : FuncData), TopOk K mg cs h ∧ (∀ (s : Shared) (u : Value), BindsTo s fd ⟨[u], []⟩ [(x, u)]) ∧ ∀ base : Heap, K.In base → base.Ns mainGlobals mg → (∀ p ∈ cs, LamX.TabB base mg p.1 p.2.1) → FnG P w K mg base (k + 1) fa fd [x] (spTop K cs) := by
  have e := hfa.symm.trans (PySem.W.mg_of X G a)
  cases e
  have F := fun_mk (st := st) l c kk
  refine ⟨cs, _, tk, fun s u => .of_eq (hb kV doc pm an cdv ct [u] rfl), fun base Kb Gb Tb => ?_⟩
  exact (fn_ok F S (body base Kb Gb Tb fa)).weak (top_imp hF)
end Kw
namespace Kw
open PySem PySem.Spec PySem.Calls PyProof.Rows L2
theorem readsAll_get {h : Heap} : ∀ {vs : List Value} {ds : List PyData} {as : List Addr}, ReadsAll h vs ds as → ∀ {i : Nat} {d : PyData}, ds[i]? = some d → ∃ v bs, vs[i]? = some v ∧ Reads h v d bs
  | _, _, _, .nil, i, d, e => by simp at e
  | _, _, _, .cons r t, 0, d, e => by
    simp at e; subst e
    exact ⟨_, _, rfl, r⟩
  | _, _, _, .cons r t, i + 1, d, e => by
    obtain ⟨v, bs, h1, h2⟩ := readsAll_get t (i := i) (by simpa using e)
    exact ⟨v, bs, by simpa using h1, h2⟩
section
variable {prog : Program} {w : World} {A : Around} {E : Value → Shared → Prop} {s : Shared} {kz : List PyData}
/-- the key k is told, off lists that stood in h0 already and are not a -/
def KeyOld (h0 : Heap) (a : Addr) (k : PyData) (t : Shared) (v : Value) (t' : Shared) : Prop := ∃ g n as, t' = { t with heap := g, toks := n } ∧ (∀ c o, t.heap.get? c = some o → g.get? c = some o) ∧ Reads g v k as ∧ ∀ c ∈ as, c ≠ a ∧ h0.get? c ≠ none
theorem reads_old {h : Heap} : ∀ {v : Value} {d : PyData} {as : List Addr}, Reads h v d as → ∀ c ∈ as, h.get? c ≠ none := by
  intro v d as r
  refine Reads.rec (motive_1 := fun v d as _ => ∀ c ∈ as, h.get? c ≠ none) (motive_2 := fun vs ds as _ => ∀ c ∈ as, h.get? c ≠ none) ?_ ?_ ?_ ?_ ?_ ?_ ?_ ?_ ?_ r
  · exact fun c hc => nomatch hc
  · exact fun b c hc => nomatch hc
  · exact fun i t c hc => nomatch hc
  · exact fun x t c hc => nomatch hc
  · intro a o vs n xs as h1 h2 h3 h4 ih c hc
    rcases List.mem_cons.mp hc with rfl | hc
    · rw [h1]; exact fun z => nomatch z
    · exact ih c hc
  · intro a o vs n xs as h1 h2 h3 h4 ih c hc
    exact ih c hc
  · intro a o es n kvs as bs h1 h2 h3 h4 h5 i1 i2 c hc
    rcases List.mem_append.mp hc with hc | hc
    · rcases List.mem_cons.mp hc with rfl | hc
      · rw [h1]; exact fun z => nomatch z
      · exact i1 c hc
    · exact i2 c hc
  · exact fun c hc => nomatch hc
  · intro v vs d ds as bs h1 h2 i1 i2 c hc
    rcases List.mem_append.mp hc with hc | hc
    · exact i1 c hc
    · exact i2 c hc
theorem keyOld_rest {a kS : Addr} {b : Bool} {vs : List Value} {e0 : Nat} {P : PySem.Fin → Shared → Prop} {f : Value} {h0 : Heap} (kp : PySem.W.KeepsBut a h0 s.heap) (fr : h0.get? kS = none) (gS : s.heap.get? kS = some (seqObj "list" #[] 0)) (ga : s.heap.get? a = some (seqObj "list" #[] e0)) (ne : kS ≠ a)
    (ln : kz.length = vs.length) (sm : vs.length ≤ sizeLine) (al : PySem.W.AllAlike kz) (so : PySem.W.Sortable kz) (dp : ∀ d, d ∈ kz → A.units + d.depth < cLine)
    (ask : ∀ (i : Nat) (v : Value) (k : PyData), vs[i]? = some v → kz[i]? = some k → ∀ (g : Heap) (n : Nat), PySem.W.KeepsBut a h0 g → wpAny (model prog w) A (call f [v]) (KeyOld h0 a k { s with heap := g, toks := n }) (fun _ _ => False) { s with heap := g, toks := n })
    (fin : ∀ g n out c, PySem.W.KeepsBut a h0 g → g.get? a = some (seqObj "list" (List.toArray out) c) → PySem.W.KeyedOut b kz vs out → P (.done (.ret .none)) { s with heap := g, toks := n }) : wpAny (model prog w) A (PyProof.Rows.ksk_rest a f b vs.toArray e0 (.ref kS)) P E s := by
  unfold PyProof.Rows.ksk_rest
  refine wpAny_bind (wpAny_rule ?_)
  rw [List.forIn_toArray]
  refine wpAny_bind (PyProof.Rows.ksk_fold (fun i t => ∃ g n ks c, t = { s with heap := g, toks := n } ∧ PySem.W.KeepsBut a h0 g ∧ g.get? kS = some (seqObj "list" ks c) ∧ g.get? a = some (seqObj "list" #[] e0) ∧
    PySem.W.EachIs (fun v k => PySem.W.alike k k = true ∧ ∃ as, Reads g v k as ∧ ∀ c ∈ as, c ≠ a ∧ h0.get? c ≠ none) ks.toList (kz.take i)) vs 0 s ⟨s.heap, s.toks, #[], 0, rfl, kp, gS, ga, by rw [List.take_zero]; exact PySem.W.EachIs.nil⟩ ?each ?last)
  case each =>
    rintro j x t hx ⟨g, n, ks, c, rfl, kp1, gS1, ga1, hk⟩
    rw [Nat.zero_add] at hk ⊢
    have jl : j < vs.length := (List.getElem?_eq_some_iff.mp hx).1
    have hkj : kz[j]? = some (kz[j]'(by omega)) := List.getElem?_eq_getElem _
    generalize (kz[j]'(by omega)) = k at hkj
    have km := List.mem_of_getElem? hkj
    have kk := al k km k km
    have kl : ks.size ≤ vs.length := by
      have z := hk.length
      rw [Array.length_toList, List.length_take] at z
      omega
    refine wpAny_bind (wpAny_attempt (wpAny_mono (ask j x k hx hkj g n kp1) (fun v t hv => ?_) fun _ _ z => z.elim))
    obtain ⟨g2, n2, as, rfl, up, rd, old⟩ := hv
    dsimp only
    have gS2 := up _ _ gS1
    have ga2 := up _ _ ga1
    have same := Heap.SameBut.update g2 kS (Obj.mapSeq (·.push v))
    have gS3 := get?_update_seq gS2 (·.push v)
    refine wpAny_bind (listUpdate_at gS2 rfl ?_ (Nat.le_trans kl sm) (Nat.le_trans (Nat.le_of_eq (Array.size_push ..)) (Nat.succ_le_succ (Nat.le_trans kl sm))))
    have moved : ∀ (u : Value) (d : PyData), (PySem.W.alike d d = true ∧ ∃ as, Reads g2 u d as ∧ ∀ c ∈ as, c ≠ a ∧ h0.get? c ≠ none) → PySem.W.alike d d = true ∧ ∃ as, Reads (g2.update kS (Obj.mapSeq (·.push v))) u d as ∧ ∀ c ∈ as, c ≠ a ∧ h0.get? c ≠ none := by
      rintro u d ⟨q1, bs, q2, q3⟩
      exact ⟨q1, bs, PySem.W.Reads.keepBut (a := kS) (fun c o hc e => (same.2 c hc).trans e) (fun o e => by rw [gS2] at e; rw [← Option.some.inj e]) d u bs q1 q2 (fun z => (q3 _ z).2 fr), q3⟩
    have e1 : kz.take (j + 1) = kz.take j ++ [k] := by rw [List.take_add_one, hkj]; rfl
    have e2 : (ks.push v).toList = ks.toList ++ [v] := by simp
    refine wpAny_pure ⟨rfl, _, _, ks.push v, _, rfl, (kp1.trans_all up).same same (.inr fr), gS3, (same.2 a ne.symm).trans ga2, ?_⟩
    rw [e1, e2]
    exact PySem.W.each_snoc (R := fun (u : Value) (d : PyData) => PySem.W.alike d d = true ∧ ∃ as, Reads (g2.update kS (Obj.mapSeq (·.push v))) u d as ∧ ∀ c ∈ as, c ≠ a ∧ h0.get? c ≠ none) (moved v k ⟨kk, as, rd, old⟩) (hk.mono fun u d q => moved u d ⟨q.1, q.2.imp fun bs z => ⟨PyProof.Rows.Reads.keeps up z.1, z.2⟩⟩)
  case last =>
    rintro t ⟨g, n, ks, c, rfl, kp1, gS1, ga1, hk⟩
    have hk2 : PySem.W.EachIs (fun v k => ∃ as, Reads g v k as) ks.toList kz := by
      have z : kz.take (0 + vs.length) = kz := List.take_of_length_le (by omega)
      rw [z] at hk
      exact hk.mono fun v k q => q.2.imp fun as z => z.1
    have sz : ks.size = vs.length := by
      have z := hk2.length
      rw [Array.length_toList] at z
      omega
    refine wpAny_bind (listItems_at gS1 rfl ?_)
    exact PySem.W.keyH_end (κ := PySem.W.dataKind g kz) (h₁ := h0) kp1 fr gS1 ga1 ne (PySem.W.SortsAt.data (s := { s with heap := g, toks := n }) hk2 al so dp) sz sm fun g3 n3 c3 k3 z3 => fin g3 n3 _ c3 k3 z3 ⟨g, ks.toList, al, rfl, hk2⟩
theorem keyOld_tree {a : Addr} {b : Bool} {vs : List Value} {P : PySem.Fin → Shared → Prop} {f : Value} {n : Nat} (at_ : s.heap.get? a = some (seqObj "list" vs.toArray n)) (ln : kz.length = vs.length) (sm : vs.length ≤ sizeLine) (al : PySem.W.AllAlike kz) (so : PySem.W.Sortable kz) (dp : ∀ d, d ∈ kz → A.units + d.depth < cLine)
    (ask : ∀ (i : Nat) (v : Value) (k : PyData), vs[i]? = some v → kz[i]? = some k → ∀ (g : Heap) (n : Nat), PySem.W.KeepsBut a s.heap g → wpAny (model prog w) A (call f [v]) (KeyOld s.heap a k { s with heap := g, toks := n }) (fun _ _ => False) { s with heap := g, toks := n })
    (fin : ∀ g n out c, PySem.W.KeepsBut a s.heap g → g.get? a = some (seqObj "list" (List.toArray out) c) → PySem.W.KeyedOut b kz vs out → P (.done (.ret .none)) { s with heap := g, toks := n }) : wpAny (model prog w) A (PyProof.Rows.ksk_tree a f b) P E s := by
  have al1 : a < s.heap.objs.size := Heap.lt_size at_
  have em := get?_update_seq at_ fun _ => (#[] : Array Value)
  have sz : ((s.heap.update a (Obj.mapSeq fun _ => (#[] : Array Value))).push (seqObj "tuple" vs.toArray 0)).objs.size = s.heap.objs.size + 1 := by rw [size_push', Heap.size_update]
  unfold PyProof.Rows.ksk_tree
  refine wpAny_bind (listItems_at at_ rfl (wpAny_bind (listUpdate_at at_ rfl ?_ (by rw [List.size_toArray]; exact sm) (Nat.zero_le _))))
  refine wpAny_bind (seqEpoch_at em rfl (wpAny_bind (wpAny_newTuple (wpAny_bind (wpAny_newList (wpAny_holding ?_) (Nat.zero_le _))) (show vs.length ≤ _ from sm))))
  exact keyOld_rest (h0 := s.heap) (s := { s with heap := _ }) (kS := _) (fun c o hc q => PySem.W.sortingHeap_old hc q) (Heap.get?_none_of_le (by rw [sz]; exact Nat.le_succ _)) (Heap.get?_push_size _ rfl) (Heap.get?_push_of_some _ (Heap.get?_push_of_some _ em)) (by rw [sz]; exact Nat.ne_of_gt (Nat.lt_succ_of_lt al1)) ln sm al so dp ask fin
end
section
variable {prog : Program} {w : World} {A : Around} {E : Value → Shared → Prop} {s : Shared} {b : Bool} {kz : List PyData}
/-- a key, off lists that stood already -/
def KeyIn (h0 : Heap) (k : PyData) (t : Shared) (v : Value) (t' : Shared) : Prop := ∃ g n as, t' = { t with heap := g, toks := n } ∧ (∀ c o, t.heap.get? c = some o → g.get? c = some o) ∧ Reads g v k as ∧ ∀ c ∈ as, h0.get? c ≠ none
theorem sorted_rangeK {r : Addr} {n : Int} {t u v : Tok} {f : Value} {kw : List (Str × Value)} {Q : Value → Shared → Prop} (hh : A.handled = none) (hr : IsRange s.heap r 0 n 1 t u v) (hn0 : 0 ≤ n) (hn : n ≤ 16777216) (hlen : (kz.length : Int) = n) (hal : PySem.W.AllAlike kz) (hk : PySem.W.Sortable kz)
    (hu : ∀ d, d ∈ kz → A.units + 2 + d.depth < cLine) (ha1 : argsOk "sorted" ⟨[.ref r], kw⟩) (ha2 : ∀ x, argsOk "list.sort" ⟨[.ref x], kw⟩) (ht : ∀ x, Builtin.«list.sort» ⟨[.ref x], kw⟩ = ksk_tree x f b)
    (turn : ∀ (i : Nat) (tk0 : Tok) (k : PyData), kz[i]? = some k → ∀ (h : Heap) (tk : Nat), (∀ b o, s.heap.get? b = some o → h.get? b = some o) →
      wpAny (model prog w) A.in1.in1 (call f [.int (i : Int) tk0]) (KeyIn s.heap k { s with heap := h, toks := tk }) (fun _ _ => False) { s with heap := h, toks := tk })
    (h : ∀ (out : List Value) (c : Nat) (h' : Heap) (tk : Nat) (D : Addr), (∀ b o, s.heap.get? b = some o → h'.get? b = some o) → s.heap.get? D = none → h'.get? D = some (seqObj "list" (List.toArray out) c) → out.length = kz.length →
      Vals (((((List.range kz.length).map fun (i : Nat) => V.int (i : Int)).zip kz).mergeSort (PySem.W.dataLe b Prod.snd)).map Prod.fst) out → Q (.ref D) { s with heap := h', toks := tk }) :
    wpAny (model prog w) A (call (.builtin "sorted") [.ref r] kw) Q E s := by
  refine call_function_entry_kw kind_sorted plain_sorted entry_sorted ha1 ?_
  unfold Builtin.«sorted»
  refine wpAny_bind (m := checkCount "sorted" 1 1 _) (wpAny_pure ?_)
  refine wpAny_bind (L2.collect_range (n := n.toNat) hh hr (small_one (by omega) (by omega) (by omega) (by omega)) (by have := rangeSize_nat 0 n; simpa using this) (by omega) fun h1 tk1 acc hk1 hi => ?_)
  have hsz : acc.size = n.toNat := hi.1
  have hal1 : acc.toList.length = kz.length := by rw [Array.length_toList, hsz]; omega
  have hz : acc.toList.length ≤ sizeLine := by rw [hal1, sizeLine_eq]; omega
  refine wpAny_bind (wpAny_newList ?_ (by show acc.toList.length ≤ _; exact hz))
  have hD : (h1.push (seqObj "list" acc.toList.toArray 0)).get? h1.objs.size = some (seqObj "list" acc.toList.toArray 0) := Heap.get?_push_size _ rfl
  have fresh : s.heap.get? h1.objs.size = none := by
    cases e : s.heap.get? h1.objs.size with
    | none => rfl
    | some o => exact absurd (Heap.lt_size (hk1 _ _ e)) (Nat.lt_irrefl _)
  have up : ∀ {g : Heap}, PySem.W.KeepsBut h1.objs.size (h1.push (seqObj "list" acc.toList.toArray 0)) g → ∀ b o, s.heap.get? b = some o → g.get? b = some o := fun {g} kp b o q =>
    kp b o (Nat.ne_of_lt (Heap.lt_size (hk1 _ _ q))) (Heap.get?_push_of_some _ (hk1 _ _ q))
  have ez := zip_snd (xs := (List.range kz.length).map fun (i : Nat) => V.int (i : Int)) (ps := kz) (by simp)
  have rel : PySem.W.EachIs (fun u (b : V × PyData) => RelV b.1 u) acc.toList (((List.range kz.length).map fun (i : Nat) => V.int (i : Int)).zip kz) := by
    refine each_vals (vals_of_at (by simp [hal1]) fun j x u h1 h2 => ?_) (by simp)
    rw [List.getElem?_map] at h1
    cases e : (List.range kz.length)[j]? with
    | none => rw [e] at h1; cases h1
    | some y =>
      rw [e] at h1
      have hy : j = y := by
        have := List.getElem?_eq_some_iff.mp e
        obtain ⟨h3, h4⟩ := this
        simp at h4; exact h4
      subst hy
      have h1' : V.int (j : Int) = x := by simpa using h1
      subst h1'
      obtain ⟨t, ht⟩ := hi.2 j u (by rw [← Array.getElem?_toList]; exact h2)
      exact ⟨t, by rw [ht]; simp⟩
  refine wpAny_bind (wpAny_holding (wpAny_call_entry_kw slot_list_sort ⟨_, hD, rfl⟩ entry_list_sort ?body (ha2 _)))
  case body =>
    show wpAny (model prog w) A.in1.in1 (Builtin.«list.sort» ⟨[.ref h1.objs.size], kw⟩) _ _ _
    rw [ht]
    refine keyOld_tree (kz := kz) (vs := acc.toList) (n := 0) (s := { s with heap := h1.push (seqObj "list" acc.toList.toArray 0), toks := tk1 }) hD hal1.symm hz hal hk hu (fun i v k hv hkz hp tk kp => ?_) fun h' tk out c kp hD' ko => ?_
    · obtain ⟨t, rfl⟩ := hi.2 i v (by rw [← Array.getElem?_toList]; exact hv)
      have := turn i t k hkz hp tk (up kp)
      rw [Int.zero_add, Int.mul_one]
      refine wpAny_mono this (fun v t' z => ?_) (fun _ _ z => z)
      obtain ⟨g, n, as, z1, z2, z3, z4⟩ := z
      refine ⟨g, n, as, z1, z2, z3, fun c hc => ⟨fun e => z4 c hc (by rw [e]; exact fresh), fun e => ?_⟩⟩
      cases q : s.heap.get? c with
      | none => exact z4 c hc q
      | some o => rw [Heap.get?_push_of_some _ (hk1 _ _ q)] at e; cases e
    · refine ⟨_, rfl, wpAny_pure ⟨_, rfl, ?_⟩⟩
      refine h out c h' tk _ (up kp) fresh hD' (ko.length (by rw [hal1])  |>.trans hal1) ?_
      refine vals_each (PySem.W.keyedOut_each Prod.snd ?_ rel)
      rw [ez]; exact ko
end
abbrev oPar (ap : Pos) : Arguments := { posonlyargs := [], args := [{ arg := "place", annotation := none, pos := ap }], vararg := none, kwonlyargs := [], kw_defaults := [], kwarg := none, defaults := [] }
abbrev oBody (b1 b2 b3 : Pos) : Expr := .Subscript (.Name "things" b1) (.Name "place" b2) b3
abbrev oSc : Scope := { kind := .function, names := [("place", .local), ("things", .free)], isGenerator := false, isCoroutine := false, more := [] }
section
variable {prog : Program} {w : World} {A : Around} {s : Shared}
theorem order_turn {f c c' a : Addr} {q : Str} {pm ctv u : Value} {ap b1 b2 b3 : Pos} {its : Array Value} {i : Nat} {tk : Tok} {k : PyData} (hroom : A.depth < recursionLimit)
    (hf : s.heap.get? f = some (PySem.W.kla_obj "<lambda>" q (oPar ap) (oBody b1 b2 b3) oSc [("things", c)] pm c' ctv)) (hcd : s.heap.CodeRec (.ref c') q) (hcell : s.heap.IsCell c (some (.ref a))) (hl : s.heap.IsList a its ∨ IsTup s.heap a its) (hi : its[i]? = some u)
    (hfit : (i : Int) < 2 ^ 63) (hlim : s.heap.NoLimit) {as : List Addr} {h0 : Heap} (hr : Reads s.heap u k as) (hold : ∀ c ∈ as, h0.get? c ≠ none) : wpAny (model prog w) A (call (.ref f) [.int (i : Int) tk]) (KeyIn h0 k s) (fun _ _ => False) s := by
  refine wpAny_call (PySem.W.kla_callFunE hroom hf rfl rfl rfl rfl hcd ?_)
  have hb : bindArgs (PySem.W.kla_fn "<lambda>" q (oPar ap) (oBody b1 b2 b3) oSc [("things", c)] pm (.ref c') ctv) ⟨[.int (i : Int) tk], []⟩ = (pure [("place", Value.int (i : Int) tk)] : Sem (List (Str × Value))) := rfl
  rw [hb]
  refine wpAny_pure (wpAny_newFunctionEnv (fun y hy => ?_) (fun y hy => ?_) (fun h₁ hns hsb => ⟨hlim.fresh _ hsb, ?_⟩) rfl)
  · simp only [oSc, List.mem_cons, List.not_mem_nil, or_false] at hy
    rcases hy with rfl | rfl <;> simp
  · rw [List.mem_singleton.mp hy]
    rfl
  · have kp : ∀ b o, s.heap.get? b = some o → h₁.get? b = some o := fun b o e => hsb.extBut b o (Nat.ne_of_lt (Heap.lt_size e)) (Heap.get?_push_of_some _ e)
    show codeAny _ _ (.expr (oBody b1 b2 b3) _) _ _
    refine PySem.W.kla_codeExpr ?_
    obtain ⟨oc, hoc1, hoc2⟩ := hcell
    refine Subscript_ (wpAny_Name (wpAny_loadName_free (c := c) rfl rfl rfl ⟨oc, kp _ _ hoc1, hoc2⟩ (wpAny_Name (wpAny_loadName_local rfl rfl hns rfl ?_))))
    have fin : KeyIn h0 k s u { s with heap := h₁, toks := s.toks + 1 } := ⟨h₁, _, as, rfl, kp, PyProof.Rows.Reads.keeps kp hr, hold⟩
    rcases hl with ⟨ol, hol⟩ | ⟨ol, hol⟩
    · exact item_listR (l := a) (items := its) ⟨ol, kp _ _ hol.1, hol.2⟩ (by omega) hfit (by simpa using hi) fin
    · exact subscriptTail_builtinR (x := u) (IsTup.typeIs ⟨ol, kp _ _ hol.1, hol.2⟩) slot_tuple_getitem.lookup
        (getItem_tuple (j := i) (Q := fun r s' => r = u ∧ KeyIn h0 k s r s') ⟨ol, kp _ _ hol.1, hol.2⟩ (by omega) hfit (seqIndex_of (by omega) (by have := (Array.getElem?_eq_some_iff.mp hi).1; omega)) hi ⟨rfl, fin⟩) rfl
end
section
variable {X : Cx} {pins : List (Addr × Obj)} {σ : L2.St} {H : Hp} {s : Shared}
/-- what making a lambda does to what is known: its code object is found in the table, or is new there -/
def LamH (q : Str) (P : Addr) (ps : Array Value) (H H1 : Hp) (c' : Addr) : Prop :=
  (H1 = H ∧ H c' = some (LamX.CodeO c' q)) ∨
  ∃ more : Array Value, H c' = none ∧ c' ≠ P ∧ H1 = upd (upd H P (.tbl (ps ++ more))) c' (LamX.CodeO c' q) ∧ TriplesOk (ps ++ more).toList ∧ ∀ (pos : Pos) (cv : Value), codeAmong pos (ps ++ more).toList = some cv → codeAmong pos ps.toList = some cv ∨ cv = .ref c'
theorem lam_mk {c P : Addr} {q : Str} {ps : Array Value} {params : Arguments} {body : Expr} {scope : Scope} {pos : Pos} {E Q : Value → Shared → Prop} (I : Inv X pins σ H s) (TB : LamX.TabB X.base X.mg c P) (hcode : X.env.code = .ref c) (hq : X.env.qual ++ "<lambda>" = q)
    (hP : H P = some (.tbl ps)) (tri : TriplesOk ps.toList) (among : ∀ (p : Pos) (cv : Value), codeAmong p ps.toList = some cv → ∃ c, cv = .ref c ∧ H c = some (LamX.CodeO c q)) (hdef : defaultsOf params X.env = ([], [])) (hfree : ∀ y ∈ scope.names, y.2 = .free → ∃ c, X.env.cells.lookup y.1 = some c)
    (k : ∀ (f c' : Addr) (pm ctv : Value) (H1 : Hp) (s' : Shared), Inv X pins σ H1 s' → LamH q P ps H H1 c' → H1 f = none → f ∉ frs X.stack → s'.heap.get? f = some (PySem.W.kla_obj "<lambda>" q params body scope (cloFrom X.env.cells scope.names []) pm c' ctv) → (∃ ps1 : Array Value, H1 P = some (.tbl ps1) ∧ TriplesOk ps1.toList ∧ codeAmong pos ps1.toList = some (.ref c')) → Q (.ref f) s') :
    wpAny (model X.prog X.w) X.A (eval (.Lambda params body scope pos) X.env) Q E s := by
  subst hq
  have kb := TB.bm.keeps I.bk
  have kc := TB.code.keeps I.bk
  have kg := I.mod.glob.keeps I.bk
  have gP : s.heap.get? P = some { cls := .none, data := .fields ps } := I.hok P _ hP
  have out : ∀ f, s.heap.objs.size ≤ f → f ∉ frs X.stack := by
    intro f hf z
    rcases List.mem_cons.mp (I.stkSub _ z) with e | e
    · have := I.lt
      rw [← e] at this
      exact absurd (Nat.lt_of_lt_of_le this hf) (Nat.lt_irrefl _)
    · exact I.nofs hf e
  refine PySem.W.kla_eval hdef ?_
  rcases hc : codeAmong pos ps.toList with _ | cv
  · refine PySem.W.kla_makeFunction (c := c) (P := P) (ps := ps) (mg := X.mg) (closure_ok hfree) I.ok.glob kg hcode kc gP tri hc TB.gP kb ?_
    intro c' ctv h' tk hx hge hlt hrec htb
    obtain ⟨c2, oc, vs, t, e2, hoc, hd, hv⟩ := hrec
    cases e2
    have fr : H c' = none := I.hok.fresh hge
    have sz : s.heap.objs.size ≤ h'.objs.size := Nat.le_trans hge (Nat.le_of_lt hlt)
    have np : P ≠ c' := L2.ne_of_none hP fr
    have J := LamX.inv_table (t' := tk) (more := #[rawInt pos.line, rawInt pos.col, .ref c']) (h' := h'.push (PySem.W.kla_obj "<lambda>" (X.env.qual ++ "<lambda>") params body scope (cloFrom X.env.cells scope.names []) ((X.mg "__name__").getD .none) c' ctv)) I hP (fun b o hb e => Heap.get?_push_of_some _ (hx b o hb e)) (Heap.get?_push_of_some _ htb) hge ⟨oc, vs, t, Heap.get?_push_of_some _ hoc, hd, hv⟩
    have eT : (ps ++ #[rawInt pos.line, rawInt pos.col, .ref c']).toList = ps.toList ++ [rawInt pos.line, rawInt pos.col, .ref c'] := by simp
    refine k h'.objs.size c' _ ctv _ _ J (.inr ⟨_, fr, fun z => np z.symm, rfl, ?_, ?_⟩) ?_ (out _ sz) (Heap.get?_push_size _ rfl) ⟨_, by rw [upd_ne np, upd_same], by rw [eT]; exact PySem.TriplesOk_snoc _ _ _ _ tri, by rw [eT]; exact PySem.codeAmong_snoc _ tri hc⟩
    · have e : (ps ++ #[rawInt pos.line, rawInt pos.col, .ref c']).toList = ps.toList ++ [rawInt pos.line, rawInt pos.col, .ref c'] := by simp
      rw [e]; exact PySem.TriplesOk_snoc _ _ _ _ tri
    · intro p' cv hcv
      have e : (ps ++ #[rawInt pos.line, rawInt pos.col, .ref c']).toList = ps.toList ++ [rawInt pos.line, rawInt pos.col, .ref c'] := by simp
      rw [e] at hcv
      exact LamX.among_app _ tri hcv
    · have h1 : h'.objs.size ≠ c' := fun z => Nat.ne_of_gt hlt z
      have h2 : h'.objs.size ≠ P := fun z => Nat.ne_of_gt (Nat.lt_of_lt_of_le (Heap.lt_size gP) sz) z
      rw [upd_ne h1, upd_ne h2]
      exact I.hok.fresh sz
  · obtain ⟨c', e, hco⟩ := among pos cv hc
    subst e
    refine PySem.W.kla_makeFunctionHit (c := c) (P := P) (ps := ps) (mg := X.mg) (closure_ok hfree) I.ok.glob kg hcode kc gP tri hc kb ?_
    intro ctv h' tk hx hsz
    have J : Inv X pins σ H { s with heap := h'.push (PySem.W.kla_obj "<lambda>" (X.env.qual ++ "<lambda>") params body scope (cloFrom X.env.cells scope.names []) ((X.mg "__name__").getD .none) c' ctv), toks := tk } := I.kept fun b o e => Heap.get?_push_of_some _ (hx b o e)
    exact k _ c' _ ctv H _ J (.inl ⟨rfl, hco⟩) (I.hok.fresh hsz) (out _ hsz) (Heap.get?_push_size _ rfl) ⟨ps, hP, tri, hc⟩
end
section
variable {K : PySem.W.Frag} {mg : Str → Option Value} {w : Wd} {S : Store} {H H1 : Hp} {j : Nat} {x : Str} {P c c' : Addr} {ps : Array Value}
/-- the store is as it was -/
theorem lam_sto [Wo] (s : Sto K mg w S H) (hj : S[j]? = some (.tab x)) (hP : w.φ[j]? = some (some P)) (e : H P = some (.tbl ps)) (k : LamH (tabQ x) P ps H H1 c') : Ext w H w H1 ∧ Sto K mg w S H1 := by
  rcases k with ⟨rfl, _⟩ | ⟨more, nc, np, rfl, tri, am⟩
  · exact ⟨Ext.refl, s⟩
  · have hPm : some P ∈ w.φ := List.mem_of_getElem? hP
    have ext : Ext w H w (upd (upd H P (.tbl (ps ++ more))) c' (LamX.CodeO c' (tabQ x))) := ⟨fun a o h n => by
      rw [upd_ne (L2.ne_of_none h nc), upd_ne (fun z : a = P => n (by rw [z]; exact hPm))]; exact h, Nat.le_refl _, fun _ _ h _ => h, fun _ h => .inl h, rfl⟩
    have ofc : w.Off c' := s.new nc
    have atc : upd (upd H P (.tbl (ps ++ more))) c' (LamX.CodeO c' (tabQ x)) c' = some (LamX.CodeO c' (tabQ x)) := upd_same
    refine ⟨ext, s.len, s.nd, fun a ha => ⟨upd_some (upd_some (s.ap a ha).1), (s.ap a ha).2⟩, fun n cc hc => ?_⟩
    by_cases hn : n = j
    · subst hn
      rw [hj] at hc; cases hc
      obtain ⟨c0, P0, t0, t1, t2⟩ := s.cell n _ hj
      rw [hP] at t1; cases t1
      refine ⟨c0, P, t0, hP, ps ++ more, by rw [upd_ne (fun z => np z.symm), upd_same], tri, fun pos cv hcv => ?_⟩
      rcases am pos cv hcv with z | z
      · obtain ⟨ps', e1, e2, e3⟩ := t2
        rw [e] at e1; cases e1
        obtain ⟨d, d1, d2, d3⟩ := e3 pos cv z
        exact ⟨d, d1, ext.fr _ _ d2 d3.1, d3⟩
      · exact ⟨c', z, atc, ofc⟩
    · refine CellR.ext ext (fun a ha => ⟨ha, ?_⟩) id (s.cell n cc hc)
      have h1 : a ≠ c' := fun z => ofc.1 (z ▸ List.mem_of_getElem? ha)
      have h2 : a ≠ P := fun z => hn (s.nd n j a ha (z ▸ hP))
      rw [upd_ne h1, upd_ne h2]
end
open Classical in
noncomputable def gOrder (j : Nat) (x : Str) (n d : D) (S : Store) : RE D := match n with
  | .int m => (match seqA S d with
    | some ys => (match pySL S ys with
      | some ps => if m = (ys.length : Int) ∧ m ≤ 16777216 ∧ S[j]? = some (.tab x) ∧ PySem.W.AllAlike ps ∧ PySem.W.Sortable ps ∧ PyData.depthAll ps ≤ 190 ∧ True then .ok (.lst (sortB ((List.range ps.length).map fun (i : Nat) => D.int (i : Int)) ps)) S else .no
      | none => .no)
    | none => .no)
  | _ => .no
noncomputable def fOrder (j : Nat) (x : Str) (fe : FE) (i : Nat) : FE := fun ρ S => (fe ρ S).bnd fun n S1 => match ρ[i]? with
  | some (some d) => gOrder j x n d S1
  | _ => .no
/-- the def x's table and code -/
def TbF (K : PySem.W.Frag) (mg : Str → Option Value) (base : Heap) (x : Str) (cd : Value) : Prop := ∃ c P, PySem.W.tabIn K x = some (c, P) ∧ LamX.TabB base mg c P ∧ cd = .ref c
theorem q_order [Wo] {X : Cx} {W : WX} {e : Expr} {fe : FE} {i j : Nat} {x : Str} {p p' pos pos' lp kp ap b1 b2 b3 : Pos} (hc : X.calm = true) (hu : X.A.units + 200 < cLine) (hdep : X.A.depth < recursionLimit) (hg : Gl X "sorted") (hm : X.mg "sorted" = none) (hg' : Gl X "range") (hm' : X.mg "range" = none) (he : PE X e (tF X W fe))
    (hN : X.N[i]? = some (Str.ofString "things")) (hcl : X.env.scope.names.lookup (Str.ofString "things") = some NameKind.cell) (hT : TbF X.K X.mg X.base x X.env.code) (hq : X.env.qual ++ "<lambda>" = tabQ x) (na' : starEach [e] X.env = (false, eval e X.env) :: starEach [] X.env := by rfl) 
    (na : starEach [.Call (.Name "range" p') [e] [] pos'] X.env = (false, eval (.Call (.Name "range" p') [e] [] pos') X.env) :: starEach [] X.env := by rfl) (hdef : defaultsOf (oPar ap) X.env = ([], []) := by rfl) :
    PE X (.Call (.Name "sorted" p) [.Call (.Name "range" p') [e] [] pos'] [⟨some "key", .Lambda (oPar ap) (oBody b1 b2 b3) oSc lp, kp⟩] pos) (tF X W (fOrder j x fe i)) := by
  refine ⟨fun pins s σ H Q I h => ?_⟩
  obtain ⟨w, ρ, S, s0, en, h⟩ := h
  obtain ⟨c, P, hti, TB, hcode⟩ := hT
  have hs : bootBuiltins (Str.ofString "sorted") = some (.builtin "sorted") := by decide +kernel
  refine wpAny_Call_Name_kw (ld_blt I hg hm hs ?_)
  have h1 : tF X W fe σ H (fun v H1 => ∃ w1 S1 n, Ext w H w1 H1 ∧ Sto X.K X.mg w1 S1 H1 ∧ Rp X.K X.mg w1 H1 n v ∧ End X.K X.mg (fun w H => Rp X.K X.mg w H) w1 H1 (match ρ[i]? with
      | some (some d) => gOrder j x n d S1
      | _ => .no) Q (fun c od H' => W c od σ H')) := ⟨w, ρ, S, s0, en, (End.bind (R := fun w H => Rp X.K X.mg w H) h).imp (fun v H1 ⟨w1, S1, n, e1, s1, r1, h1⟩ => ⟨w1, S1, n, e1, s1, r1, h1⟩) (fun _ _ _ z => z)⟩
  refine callWith_kw (args_cons (Call_ (ld_blt I hg' hm' boot_range (PyProof.Rows.callWith_type1 (one_arg he I h1 (fun v s2 y H2 I2 r q => ?_) na') na'))) na) (by rw [na]; rfl) (by rw [na]; rfl) (by rfl) (by rfl)
  obtain ⟨w1, S1, n, e1, s1, r1, h2⟩ := q
  split at h2
  case h_2 => exact h2.elim
  rename_i d hd
  unfold gOrder at h2
  split at h2
  case h_2 => exact h2.elim
  rename_i m
  split at h2
  case h_2 => exact h2.elim
  rename_i ys hys
  split at h2
  case h_2 => exact h2.elim
  rename_i ps hps
  split at h2
  case isFalse => exact h2.elim
  rename_i hk
  obtain ⟨hk1, hk2, hk3, hk4, hk5, hk6, hk7⟩ := hk
  have ey := rp_int r1
  subst ey
  obtain ⟨t, rfl⟩ := r
  refine call_range_1 ?_
  have nR : H2 s2.heap.objs.size = none := I2.hok.fresh (Nat.le_refl _)
  have I3 := I2.laid (t' := s2.toks + 1 + 1) (h' := s2.heap.push { cls := .type "range", data := .fields #[.int 0 s2.toks, .int m t, .int 1 (s2.toks + 1)] }) (a := s2.heap.objs.size) (o := .rng 0 m) (fun b u z => Heap.get?_push_of_some _ z) (Nat.le_refl _) ⟨_, _, _, Heap.get?_push_size _ rfl⟩
  have x3 : Ext w1 H2 w1 (upd H2 s2.heap.objs.size (.rng 0 m)) := Ext.new nR
  have s3 := s1.beside (o := .rng 0 m) nR
  obtain ⟨c0, P0, t0, hφ, tw⟩ := s3.cell j _ hk3
  rw [hti] at t0; cases t0
  obtain ⟨tps, tp1, tp2, tp3⟩ := tw
  refine args_nil ?_
  refine kws_cons ?_
  refine lam_mk (c := c) (P := P) I3 TB hcode hq tp1 tp2 (fun pos cv z => by
    obtain ⟨c1, z1, z2, _⟩ := tp3 pos cv z
    exact ⟨c1, z1, z2⟩) hdef (fun y hy hfr => ?_) ?_
  · have ey : y = (Str.ofString "things", NameKind.free) := by
      simp only [oSc, List.mem_cons, List.not_mem_nil, or_false] at hy
      rcases hy with rfl | rfl
      · cases hfr
      · rfl
    rw [ey]
    exact I3.ok.has _ (.inl hcl)
  intro f c' pm ctv H4 s4 I4 lm f0 ffr hf _
  obtain ⟨x4, s4'⟩ := lam_sto s3 hk3 hφ tp1 lm
  refine kws_nil ?_
  show wpAny _ _ (call (.builtin "sorted") [.ref _] [(Str.ofString "key", .ref f)]) _ _ _
  have nRoff : ¬ some s2.heap.objs.size ∈ w1.φ := (s1.new nR).1
  have hR4 : H4 s2.heap.objs.size = some (.rng 0 m) := x4.fr _ _ upd_same nRoff
  obtain ⟨rt, ru, rv, hrng⟩ := I4.hok _ _ hR4
  have hlen : ps.length = ys.length := (pySL_length hps).symm
  obtain ⟨v, hσ, rd⟩ := en.at_ i d hd
  have x04 : Ext w H w1 H4 := (e1.trans x3).trans x4
  have rd4 := Rp.ext x04 _ _ rd
  obtain ⟨a, xs, rfl, hsq, rl⟩ := seqA_at s4' rd4 hys
  have dp := pySL_at s4' ys xs ps rl hps
  have hrd : ∃ its : List Value, Vals xs its ∧ (s4.heap.IsList a its.toArray ∨ IsTup s4.heap a its.toArray) := by
    rcases hsq with z | z
    · obtain ⟨its, rvs, hl, hz⟩ := I4.list z
      exact ⟨its, rvs, .inl hl.isList⟩
    · obtain ⟨its, rvs, hl, hz⟩ := I4.tuple z
      exact ⟨its, rvs, .inr hl⟩
  obtain ⟨its, rvs, hl⟩ := hrd
  obtain ⟨as, ra⟩ := Dp.readsAll I4 ps xs its dp rvs
  obtain ⟨mm, hns, hlo⟩ := I4.loc
  obtain ⟨u, ru', hlk⟩ := hlo i _ _ hN hσ (.inr (.inl hcl))
  cases ru'
  have hcell : ∃ cc, X.env.cells.lookup (Str.ofString "things") = some cc ∧ s4.heap.IsCell cc (some (.ref a)) := by
    rcases hlk with ⟨k', _⟩ | ⟨_, cc, h1, h2⟩
    · have k2 : X.env.scope.names.lookup (Str.ofString "things") = some .local := k'
      rw [hcl] at k2; cases k2
    · exact ⟨cc, h1, h2⟩
  obtain ⟨cc, hcc, hic⟩ := hcell
  have hclo : cloFrom X.env.cells oSc.names [] = [(Str.ofString "things", cc)] := by
    show cloFrom X.env.cells [(Str.ofString "place", NameKind.local), (Str.ofString "things", NameKind.free)] [] = _
    unfold cloFrom
    rw [if_neg (by decide)]
    unfold cloFrom
    rw [if_pos (by decide)]
    unfold cloFrom
    rw [hcc]; rfl
  rw [hclo] at hf
  have hco : H4 c' = some (LamX.CodeO c' (tabQ x)) := by
    rcases lm with ⟨rfl, z⟩ | ⟨_, _, _, rfl, _, _⟩
    · exact z
    · exact upd_same
  obtain ⟨⟨oc, cvs, ct, k1, k2, k3⟩, _, _⟩ := I4.hok _ _ hco
  refine sorted_rangeK (kz := ps) (n := m) (f := .ref f) (b := false) (I4.ok.hd hc) hrng (by omega) hk2 (by omega) hk4 hk5 (fun q hq => ?_) (ksk_s1 _ _) (fun _ => ksk_l1 _ _) (fun _ => ksk_t1 _ _) (fun k tk0 q hkq g tk kp => ?_) fun out n' g tk Da kp nD gD hol hv => ?_
  · have := depth_mem hq
    omega
  · obtain ⟨uv, bs, hu1, hu2⟩ := readsAll_get ra hkq
    have hkl : k < ps.length := by
      rcases Nat.lt_or_ge k ps.length with l | l
      · exact l
      · rw [List.getElem?_eq_none l] at hkq; cases hkq
    obtain ⟨oc2, hc1, hc2⟩ := hic
    have hl' : g.IsList a its.toArray ∨ IsTup g a its.toArray := by
      rcases hl with ⟨ol, hl1, hl2⟩ | ⟨ol, hl1, hl2⟩
      · exact .inl ⟨ol, kp _ _ hl1, hl2⟩
      · exact .inr ⟨ol, kp _ _ hl1, hl2⟩
    exact order_turn (A := X.A.in1.in1) (s := { s4 with heap := g, toks := tk }) (c := cc) (c' := c') (a := a) (its := its.toArray) (u := uv) hdep (kp _ _ hf) ⟨c', oc, cvs, ct, rfl, kp _ _ k1, k2, k3⟩ ⟨oc2, kp _ _ hc1, hc2⟩ hl' (by simpa using hu1) (by omega) (I4.nolimit.keeps kp) (PyProof.Rows.Reads.keeps kp hu2) (reads_old hu2)
  · have nD4 : H4 Da = none := I4.hok.gone nD
    have hsz : (sortB ((List.range ps.length).map fun (i : Nat) => V.int (i : Int)) ps).length ≤ sizeLine := by
      rw [sortB_length (by simp), sizeLine_eq]; simp; omega
    refine ⟨.ref Da, upd H4 Da (.lst (sortB ((List.range ps.length).map fun (i : Nat) => V.int (i : Int)) ps)), I4.laidN (t' := tk) kp nD nD4 ⟨hsz, out, n', hv, gD⟩, rfl, ?_⟩
    have ri : RpL X.K X.mg w1 H4 ((List.range ps.length).map fun (i : Nat) => Kw.D.int (i : Int)) ((List.range ps.length).map fun (i : Nat) => V.int (i : Int)) := by
      have := RpL.ints (K := X.K) (mg := X.mg) (w := w1) (H := H4) ((List.range ps.length).map fun (i : Nat) => (i : Int))
      rw [List.map_map, List.map_map] at this
      exact this
    exact newLst s4' (ri.sort (by simp)) nD4 (End.on (x3.trans x4) h2)
section
variable {P : Program} {w : World} {K : PySem.W.Frag} {mg : Str → Option Value} {base : Heap}
/-- what the top knows of the def x's table -/
def TbK (K : PySem.W.Frag) (mg : Str → Option Value) (base : Heap) (x : Str) : Prop := ∃ c P, PySem.W.tabIn K x = some (c, P) ∧ LamX.TabB base mg c P
theorem fn_okL [Wo] {x : Str} {st : Stmt} {f : Addr} {fd : FuncData} {N ps : List Str} {k : Nat} {b : FS} (F : Fun K x x st f fd) (S : FnScope N ps (defScope st)) (hm : mg x = some (.ref f)) (Kb : K.In base) (Gb : base.Ns mainGlobals mg) (B : TbK K mg base x)
    (hb : ∀ (cdv : Value) (A : Around) (outer : List Env) (s : Shared) (H : Hp) (E : XK), TbF K mg base x cdv → RoomG k (A.deeper (envOfC x (defScope st) s.heap.objs.size f cdv)) →
      PSs (cxOf (L2.CX P w) P w K mg base N x (defScope st) f cdv A outer s H E) (defBody st) (tS (cxOf (L2.CX P w) P w K mg base N x (defScope st) f cdv A outer s H E) (fun c d _ H => E c d H) b)) :
    FnG P w K mg base (k + 1) f fd ps (spF K mg ps.length (fnB ps.length N.length b)) := by
  obtain ⟨oc, od, kV, doc, pm, an, cdv, ct, osl, rfl, lk, hcd⟩ := F.ex
  obtain ⟨c, Pt, ht, tb⟩ := B
  have ec : cdv = .ref c := PySem.W.law_code Kb Gb ht hm (Kb _ _ lk) rfl
  have TB : TbF K mg base x cdv := ⟨c, Pt, ht, tb, ec⟩
  refine ⟨fun vs H Q E ⟨w, st, ds, s, r, l, h⟩ => by rw [← r.length]; exact l, fun A stk s H ar us vs Q E hr e0 hbd hv hsp => ?_⟩
  obtain ⟨w1, S1, ds, s1, r1, l, hE⟩ := hsp
  have size : vs.length = ps.length := by rw [← r1.length]; exact l
  have up : ∀ b o, base.get? b = some o → s.heap.get? b = some o := fun b o z => (e0.bs b o z).1
  have KX : K.In s.heap := e0.mod.kin.keeps up
  refine codeAny_call_function hr.rm.depth (KX _ _ lk) rfl S.co S.gen rfl (PySem.W.codeRec_of KX hcd) (hbd _ _ _ _ (wpAny_newFunctionEnv_cells S.kind (fun ⟨n, v⟩ hn => ?par) fun env he s2 xc => ?run))
  case par =>
    rcases S.par n (List.of_mem_zip hn).1 with q | q
    · exact .inl q
    · exact .inr ⟨q, PySem.W.cellsFrom_some _ _ _ (.inl q)⟩
  case run =>
    subst he
    have hp := hb cdv A stk s H E TB (hr.down _)
    have I0 := inv_start (CX := L2.CX P w) (E := E) S hr.rm.hd e0 size hv xc
    have hq : tS (cxOf (L2.CX P w) P w K mg base N x (defScope st) f cdv A stk s H E) (fun c d _ H => E c d H) b { nx := fun _ H' => Q .non H', rt := Q } (L2.start N vs) H := by
      refine ⟨w1, _, S1, s1, envStart (N := N) r1, ?_⟩
      unfold fnB at hE
      rw [if_pos l] at hE
      rw [l]
      revert hE
      cases hbb : b (ds.map some ++ List.replicate (N.length - ps.length) none) S1 with
      | nx ρ S2 => exact fun h w' H' σ' e s' en => h w' H' _ e s' rp_n
      | rt d S2 => exact fun h w' H' v e s' r' => h w' H' v e s' r'
      | ex x ρ S2 => exact fun h w' H' σ' c od e s' en ex => h w' H' c od e s' ex
      | bk ρ S2 => exact fun h => h.elim
      | ct ρ S2 => exact fun h => h.elim
      | no => exact fun h => h.elim
    refine ⟨(e0.mod.nolimit.keeps up).keeps xc.toInCall.keep, codeAny_func (wpAny_mono (hp.run [] s2 (L2.start N vs) H _ I0 hq) (fun fl s' hs => ?_) fun e s' hs => hs)⟩
    match fl, hs with
    | .ret u, ⟨v, σ', H', J, rv, q⟩ => exact ⟨v, H', J.os, J.bare, J.base, J.hok, rv, q⟩
    | .next, ⟨σ', H', J, q⟩ => exact ⟨.non, H', J.os, J.bare, J.base, J.hok, rfl, q⟩
    | .brk, ⟨_, _, _, q⟩ => exact q.elim
    | .cont, ⟨_, _, _, q⟩ => exact q.elim
theorem calLB [Wo] {x : Str} {st : Stmt} {N ps : List Str} {k : Nat} {b : FS} (T : TF K mg x st ps) (S : FnScope N ps (defScope st)) (Kb : K.In base) (Gb : base.Ns mainGlobals mg) (B : TbK K mg base x)
    (hb : ∀ (f : Addr) (cdv : Value) (A : Around) (outer : List Env) (s : Shared) (H : Hp) (E : XK), TbF K mg base x cdv → RoomG k (A.deeper (envOfC x (defScope st) s.heap.objs.size f cdv)) →
      PSs (cxOf (L2.CX P w) P w K mg base N x (defScope st) f cdv A outer s H E) (defBody st) (tS (cxOf (L2.CX P w) P w K mg base N x (defScope st) f cdv A outer s H E) (fun c d _ H => E c d H) b)) (hps : ps = (defArgs st).args.map (·.arg) := by rfl) :
    Cal P w K mg base (k + 1) x (fnB ps.length N.length b) := by
  obtain ⟨f, fd, F, m, bd⟩ := T
  exact ⟨f, fd, ps, fn_okL F S m Kb Gb B (hb f), m, F.kp, bd, fnB_ar, hps.trans (fun_names F).symm, fun_look F⟩
theorem calLC [Wo] {x : Str} {st : Stmt} {N ps : List Str} {k : Nat} {b : FS} (T : TF K mg x st ps) (S : FnScope N ps (defScope st)) (Kb : K.In base) (Gb : base.Ns mainGlobals mg) (B : TbK K mg base x)
    (hb : ∀ (f : Addr) (cdv : Value) (A : Around) (outer : List Env) (s : Shared) (H : Hp) (E : XK), TbF K mg base x cdv → RoomG k (A.deeper (envOfC x (defScope st) s.heap.objs.size f cdv)) →
      PSs (cxOf (L2.CX P w) P w K mg base N x (defScope st) f cdv A outer s H E) (defBody st) (tS (cxOf (L2.CX P w) P w K mg base N x (defScope st) f cdv A outer s H E) (fun c d _ H => E c d H) b)) (hps : ps = (defArgs st).args.map (·.arg) := by rfl) :
    Cal P w K mg base (k + 1) x (fnC ps.length N.length b) := by
  obtain ⟨f, fd, F, m, bd⟩ := T
  exact ⟨f, fd, ps, spF_cut (fn_okL F S m Kb Gb B (hb f)), m, F.kp, bd, fnC_ar, hps.trans (fun_names F).symm, fun_look F⟩
/-- from the top's tables -/
theorem tbK_of {cs : List Tb} {c Pt : Addr} {x : Str} (h : ∀ p ∈ cs, LamX.TabB base mg p.1 p.2.1) (ht : PySem.W.tabIn K x = some (c, Pt)) (hm : (c, Pt, x) ∈ cs) : TbK K mg base x := ⟨c, Pt, ht, h _ hm⟩
end
/-- the def x makes lambdas, and its table is not written in the program's heap -/
def tabOk (K : PySem.W.Frag) (x : Str) : Bool := match PySem.W.tabIn K x with
  | some (_, P) => (match K.lookup P with
    | none => true
    | some _ => false)
  | none => false
theorem tabOk_at {K : PySem.W.Frag} {x : Str} (h : tabOk K x = true) : ∃ c P, PySem.W.tabIn K x = some (c, P) ∧ K.lookup P = none := by
  unfold tabOk at h
  split at h
  · rename_i c P e
    refine ⟨c, P, e, ?_⟩
    split at h
    · assumption
    · cases h
  · cases h
def tabsDis (K : PySem.W.Frag) (xs : List Str) : Bool := decide ((xs.filterMap fun x => (PySem.W.tabIn K x).map fun p => p.2).Nodup)
theorem tabsDis_at {K : PySem.W.Frag} {xs : List Str} {ps : List Addr} (h : tabsDis K xs = true) (e : (xs.filterMap fun x => (PySem.W.tabIn K x).map fun p => p.2) = ps) : ps.Nodup := by
  subst e
  unfold tabsDis at h
  simpa using h
end Kw
namespace Kw
open PySem PySem.Spec PySem.Calls PyProof.Rows L2
/-- a, b = a list -/
def gUl (n : Nat) (gs : FGs) : FG := fun d ρ S => match d with
  | .lst ds => if ds.length = n then gs ds ρ S else none
  | _ => none
@[simp] theorem gUl_ap {n : Nat} {gs : FGs} {ds : List D} {ρ : FEnv} {S : Store} : gUl n gs (.lst ds) ρ S = if ds.length = n then gs ds ρ S else none := rfl
end Kw
namespace Kw
open PySem PySem.Spec PySem.Calls PyProof.Rows L2
open Classical in
/-- a result that neither the address nor the slots matter to -/
noncomputable def aInd2 (R : Addr → L2.St → RE D) : RE D := if ∀ f σ, R f σ = R 0 [] then R 0 [] else .no
theorem aInd2_eq {R : Addr → L2.St → RE D} {r : RE D} (h : ∀ f σ, R f σ = r) : aInd2 R = r := by
  unfold aInd2
  rw [if_pos (fun f σ => by rw [h f σ, h 0 []]), h 0 []]
section
variable {K : PySem.W.Frag} {mg : Str → Option Value} {w : Wd} {S : Store} {H : Hp}
theorem ghost_ext : Ext w H ⟨w.φ ++ [none], w.hd⟩ H where
  fr := fun _ _ h _ => h
  ln := by show _ ≤ (w.φ ++ [none]).length; simp
  ph := fun n a h l => by
    have h' : (w.φ ++ [none])[n]? = some (some a) := h
    rw [List.getElem?_append_left l] at h'
    exact h'
  nw := fun a h => by
    rcases List.mem_append.mp (show some a ∈ w.φ ++ [none] from h) with z | z
    · exact .inl z
    · simp at z
  hd := rfl
theorem ghost_sto [Wo] {ρ : FEnv} {σ : L2.St} (s : Sto K mg w S H) (en : EnvR K mg w H ρ σ) : Sto K mg ⟨w.φ ++ [none], w.hd⟩ (S ++ [.gst ρ σ]) H := by
  have at_ : ∀ (n : Nat) a, (w.φ ++ [none])[n]? = some (some a) → w.φ[n]? = some (some a) := fun n a h => by
    rcases Nat.lt_or_ge n w.φ.length with l | l
    · rwa [List.getElem?_append_left l] at h
    · rw [List.getElem?_append_right l] at h
      cases e : n - w.φ.length with
      | zero => rw [e] at h; simp at h
      | succ m => rw [e] at h; simp at h
  refine ⟨by show (w.φ ++ [none]).length = _; simp [s.len], fun m n a h1 h2 => s.nd m n a (at_ m a h1) (at_ n a h2), fun a ha => ⟨(s.ap a ha).1, fun z => ?_⟩, fun n c hc => ?_⟩
  · rcases List.mem_append.mp (show some a ∈ w.φ ++ [none] from z) with z | z
    · exact (s.ap a ha).2 z
    · simp at z
  · rcases Nat.lt_or_ge n S.length with l | l
    · rw [List.getElem?_append_left l] at hc
      have l' : n < w.φ.length := by rw [s.len]; exact l
      exact CellR.ext ghost_ext (fun a ha => ⟨by show (w.φ ++ [none])[n]? = _; rw [List.getElem?_append_left l']; exact ha, rfl⟩) (fun h => by show (w.φ ++ [none])[n]? = _; rw [List.getElem?_append_left l']; exact h) (s.cell n c hc)
    · rw [List.getElem?_append_right l] at hc
      cases e : n - S.length with
      | zero =>
        rw [e] at hc
        have hc' : Cell.gst ρ σ = c := by simpa using hc
        subst hc'
        have en' : n = w.φ.length := by rw [s.len]; omega
        refine ⟨?_, EnvR.ext ghost_ext en⟩
        show (w.φ ++ [none])[n]? = some none
        rw [List.getElem?_append_right (by omega), en', Nat.sub_self]; rfl
      | succ m => rw [e] at hc; simp at hc
end
section
variable {P : Program} {w : World} {K : PySem.W.Frag} {mg : Str → Option Value} {base : Heap}
/-- a def run from one state -/
theorem run_def [Wo] {x : Str} {st : Stmt} {g : Addr} {fd : FuncData} {N ps : List Str} {k : Nat} {b : FS} (F : Fun K x x st g fd) (S : FnScope N ps (defScope st)) {A : Around} {stk : List Env} {s : Shared} {H : Hp} {ar : Args} {us : List Value} {vs : List V} {Q : VK} {E : XK} (hr : RoomG (k + 1) A) (e0 : Env0 P w K mg base A stk s H) (hbd : BindsTo s fd ar (ps.zip us)) (hv : Vals vs us)
    (hb : ∀ cdv : Value, RoomG k (A.deeper (envOfC x (defScope st) s.heap.objs.size g cdv)) → PSs (cxOf (L2.CX P w) P w K mg base N x (defScope st) g cdv A stk s H E) (defBody st) (tS (cxOf (L2.CX P w) P w K mg base N x (defScope st) g cdv A stk s H E) (fun c d _ H => E c d H) b))
    (hsp : spF K mg ps.length (fnB ps.length N.length b) vs H Q E) : codeAny (model P w) A (.call (.ref g) ar) (CR (L2.CX P w) stk P w H s Q E) s := by
  obtain ⟨oc, od, kV, doc, pm, an, cdv, ct, osl, rfl, lk, hcd⟩ := F.ex
  obtain ⟨w1, S1, ds, s1, r1, l, hE⟩ := hsp
  have size : vs.length = ps.length := by rw [← r1.length]; exact l
  have up : ∀ b o, base.get? b = some o → s.heap.get? b = some o := fun b o z => (e0.bs b o z).1
  have KX : K.In s.heap := e0.mod.kin.keeps up
  refine codeAny_call_function hr.rm.depth (KX _ _ lk) rfl S.co S.gen rfl (PySem.W.codeRec_of KX hcd) (hbd _ _ _ _ (wpAny_newFunctionEnv_cells S.kind (fun ⟨n, v⟩ hn => ?par) fun env he s2 xc => ?run))
  case par =>
    rcases S.par n (List.of_mem_zip hn).1 with q | q
    · exact .inl q
    · exact .inr ⟨q, PySem.W.cellsFrom_some _ _ _ (.inl q)⟩
  case run =>
    subst he
    have hp := hb cdv (hr.down _)
    have I0 := inv_start (CX := L2.CX P w) (E := E) S hr.rm.hd e0 size hv xc
    have hq : tS (cxOf (L2.CX P w) P w K mg base N x (defScope st) g cdv A stk s H E) (fun c d _ H => E c d H) b { nx := fun _ H' => Q .non H', rt := Q } (L2.start N vs) H := by
      refine ⟨w1, _, S1, s1, envStart (N := N) r1, ?_⟩
      unfold fnB at hE
      rw [if_pos l] at hE
      rw [l]
      revert hE
      cases hbb : b (ds.map some ++ List.replicate (N.length - ps.length) none) S1 with
      | nx ρ S2 => exact fun h w' H' σ' e s' en => h w' H' _ e s' rp_n
      | rt d S2 => exact fun h w' H' v e s' r' => h w' H' v e s' r'
      | ex x ρ S2 => exact fun h w' H' σ' c od e s' en ex => h w' H' c od e s' ex
      | bk ρ S2 => exact fun h => h.elim
      | ct ρ S2 => exact fun h => h.elim
      | no => exact fun h => h.elim
    refine ⟨(e0.mod.nolimit.keeps up).keeps xc.toInCall.keep, codeAny_func (wpAny_mono (hp.run [] s2 (L2.start N vs) H _ I0 hq) (fun fl s' hs => ?_) fun e s' hs => hs)⟩
    match fl, hs with
    | .ret u, ⟨v, σ', H', J, rv, q⟩ => exact ⟨v, H', J.os, J.bare, J.base, J.hok, rv, q⟩
    | .next, ⟨σ', H', J, q⟩ => exact ⟨.non, H', J.os, J.bare, J.base, J.hok, rfl, q⟩
    | .brk, ⟨_, _, _, q⟩ => exact q.elim
    | .cont, ⟨_, _, _, q⟩ => exact q.elim
end
section
variable {P : Program} {w : World} {K : PySem.W.Frag} {mg : Str → Option Value} {base : Heap}
theorem cal_no [Wo] {x : Str} {st : Stmt} {ps : List Str} {k : Nat} (T : TF K mg x st ps) (hps : ps = (defArgs st).args.map (·.arg) := by rfl) : Cal P w K mg base k x (fun _ _ => .no) := by
  obtain ⟨f, fd, F, m, b⟩ := T
  exact ⟨f, fd, ps, ⟨fun vs H Q E ⟨w, S, ds, s, r, l, h⟩ => by rw [← r.length]; exact l, fun A outer s H args us vs Q E _ _ _ _ ⟨w, S, ds, st, r, l, h⟩ => h.elim⟩, m, F.kp, b, fun _ _ _ => rfl, hps.trans (fun_names F).symm, fun_look F⟩
end
abbrev noPar : Arguments := { posonlyargs := [], args := [], vararg := none, kwonlyargs := [], kw_defaults := [], kwarg := none, defaults := [] }
theorem lam_bind0 {q : Str} {body : Expr} {scope : Scope} {cl : List (Str × Addr)} {pm cv ctv : Value} : bindArgs (PySem.W.kla_fn "<lambda>" q noPar body scope cl pm cv ctv) ⟨[], []⟩ = pure [] := rfl
theorem lam_def0 {env : Env} : defaultsOf noPar env = ([], []) := rfl
end Kw
namespace Kw
open PySem PySem.Spec PySem.Calls PyProof.Rows L2
end Kw
namespace Kw
open PySem PySem.Spec PySem.Calls PyProof.Rows L2
def getGR (kvs : List (Str × D)) (y : D) (S : Store) : RE D := match y with
  | .str z => (match kvs.lookup z with
    | some d => .ok d S
    | none => .ok .non S)
  | _ => .no
def getO (o : Option D) (S : Store) : RE D := match o with
  | some d => .ok d S
  | none => .ok .non S
@[simp] theorem getO_some {d : D} {S : Store} : getO (some d) S = .ok d S := rfl
@[simp] theorem getO_none {S : Store} : getO none S = .ok .non S := rfl
@[simp] theorem getGR_str {z : Str} {kvs : List (Str × D)} {S : Store} : getGR kvs (.str z) S = getO (kvs.lookup z) S := rfl
end Kw
namespace Kw
open PySem PySem.Spec PyProof.Rows L2
def metS (acc : List Str) (x : Str) : List Str := if x ∈ acc then acc else acc ++ [x]
/-- the texts, each once -/
def onceS (xs : List Str) : List Str := xs.foldl metS []
theorem onceS_snoc (xs : List Str) (x : Str) : onceS (xs ++ [x]) = metS (onceS xs) x := by
  unfold onceS; rw [List.foldl_append]; rfl
theorem metS_len (acc : List Str) (x : Str) : (metS acc x).length ≤ acc.length + 1 := by
  unfold metS; split <;> simp
theorem onceS_acc : ∀ (xs acc : List Str), (xs.foldl metS acc).length ≤ acc.length + xs.length
  | [], acc => Nat.le_refl _
  | x :: xs, acc => by
    have h1 := onceS_acc xs (metS acc x)
    have h2 := metS_len acc x
    show (xs.foldl metS (metS acc x)).length ≤ acc.length + (xs.length + 1)
    omega
theorem onceS_le (xs : List Str) : (onceS xs).length ≤ xs.length := by
  have := onceS_acc xs []
  rwa [List.length_nil, Nat.zero_add] at this
abbrev memS (acc : List Str) : Str → Bool := fun k => decide (k ∈ acc)
theorem memS_met (acc : List Str) (x k : Str) : memS (metS acc x) k = (memS acc k || decide (k = x)) := by
  unfold memS metS
  by_cases h : x ∈ acc
  · rw [if_pos h]
    by_cases e : k = x
    · subst e; simp [h]
    · simp [e]
  · rw [if_neg h, Bool.eq_iff_iff]; simp
theorem lenS_met (acc : List Str) (x : Str) : (metS acc x).length = if memS acc x = true then acc.length else acc.length + 1 := by
  unfold memS metS
  by_cases h : x ∈ acc
  · rw [if_pos h, if_pos (decide_eq_true h)]
  · rw [if_neg h, if_neg (by simpa using h), List.length_append]; rfl
section
variable {P : Program} {w : World} {A : Around} {R : Result → Shared → Prop} {it : Addr} {fp wr : List Addr} {G : Array GenState → Array GenState → Prop} {n : Nat} {Pv : Nat → Value → Prop} {St : Nat → Shared → Prop}
/-- the set is filled, text by text -/
theorem fillS (W : WalksS P w A.in1 it fp wr G n Pv St) (B : Addr) (hB : B ∉ fp) (xs : List Str) (hn : xs.length = n) (hc : n + 1 < scanBound) (hv : ∀ i v, Pv i v → ∃ tk, v = Value.str (xs.getD i Str.empty) tk) :
    ∀ (m i : Nat) (s : Shared), i + m = n → St i s → s.heap.SetOf (strKind P w) B (memS (onceS (xs.take i))) (onceS (xs.take i)).length →
      (∀ t, Moved (B :: wr) G s t → t.heap.SetOf (strKind P w) B (memS (onceS xs)) (onceS xs).length → R (.ok (.ret .none)) t) → codeAny (model P w) A (.builtin "set.update.loop" ⟨[.ref B, .ref it], []⟩) R s := by
  have hBw : B ∉ wr := fun z => hB (W.sub _ z)
  have up : ∀ b ∈ wr, b ∈ B :: wr := fun b z => List.mem_cons_of_mem _ z
  have carry : ∀ {s t : Shared} {S : Str → Bool} {c : Nat}, Moved wr G s t → s.heap.SetOf (strKind P w) B S c → t.heap.SetOf (strKind P w) B S c := by
    rintro s t S c mv ⟨o, es, ep, tb, e, r⟩
    exact ⟨o, es, ep, tb, mv.heap B _ hBw e, r⟩
  intro m
  induction m with
  | zero =>
    intro i s him hst hset fin
    have hi : i = n := by omega
    refine codeAny_builtin F.entry_set_update_loop ?_
    rw [Around.under_plainId F.plain_set_update_loop _]
    show wpAny _ A.in1 (pyNext (.ref it) >>= _) _ _ s
    refine wpAny_bind (W.done s _ _ (hi ▸ hst) fun t mv => ?_)
    refine (show wpAny _ A.in1 (ret Value.none) _ _ t from wpAny_pure (fin t (mv.mono up) ?_))
    have := carry mv hset
    rw [hi, ← hn, List.take_length] at this
    exact this
  | succ m ih =>
    intro i s him hst hset fin
    have hlt : i < n := by omega
    have hx : xs[i]? = some (xs.getD i Str.empty) := by
      rw [List.getD_eq_getElem?_getD, List.getElem?_eq_getElem (by omega)]; rfl
    generalize xs.getD i Str.empty = x at hx hv
    refine codeAny_builtin F.entry_set_update_loop ?_
    rw [Around.under_plainId F.plain_set_update_loop _]
    show wpAny _ A.in1 (pyNext (.ref it) >>= _) _ _ s
    refine wpAny_bind (W.item i s _ _ hlt hst fun v t hp hst1 mv => ?_)
    obtain ⟨tk, ev⟩ := hv i v hp
    have ev : v = Value.str x tk := by
      rw [ev, List.getD_eq_getElem?_getD, hx]; rfl
    subst ev
    have key : (strKind P w).is x (Value.str x tk) = true := strKind_is _ _ _ _
    have le : (onceS (xs.take i)).length ≤ i := by
      have := onceS_le (xs.take i)
      rw [List.length_take] at this
      omega
    show wpAny _ A.in1 (holding [Value.str x tk] (setAdd B (.str x tk)) >>= _) _ _ t
    unfold setAdd
    refine wpAny_bind (wpAny_holding (wpAny_holding (wpAny_bind ((strKind P w).pyHash key ?_))))
    refine wpAny_setAddHashed_of (s := { t with toks := t.toks + 1 }) key rfl (show Heap.SetOf (strKind P w) t.heap B _ _ from carry mv hset) (by omega) fun h' same hset1 => ?_
    have hset2 : h'.SetOf (strKind P w) B (memS (onceS (xs.take (i + 1)))) (onceS (xs.take (i + 1))).length := by
      have e : xs.take (i + 1) = xs.take i ++ [x] := by rw [List.take_succ, hx]; rfl
      rw [e, onceS_snoc, lenS_met]
      have e2 : memS (metS (onceS (xs.take i)) x) = fun k => memS (onceS (xs.take i)) k || decide (k = x) := funext fun k => memS_met _ _ k
      rw [e2]; exact hset1
    refine wpAny_pure ⟨plainId_quiet F.plain_set_update_loop _, ih (i + 1) _ (by omega) (W.frame _ t _ _ hst1 (Nat.le_succ _) fun b hb o e => ?_) hset2 fun u mv1 hset3 => fin u ?_ hset3⟩
    · rw [same.2 b fun z => hB (z ▸ hb)]; exact e
    · refine Moved.trans W.gtrans ((mv.mono up).then_heap (Nat.le_succ _) fun b o hb e => ?_) mv1
      rw [same.2 b fun z => hb (z ▸ List.mem_cons_self)]; exact e
end
section
variable {P : Program} {w : World} {A : Around} {E : Value → Shared → Prop} {s : Shared}
theorem strs_nth : ∀ {us : List Value} {xs : List Str}, StrsAre us xs → ∀ (i : Nat) v, us[i]? = some v → ∃ tk, v = Value.str (xs.getD i Str.empty) tk
  | _, _, .nil, i, v, e => by simp at e
  | _, _, .cons x tk r, 0, v, e => ⟨tk, by simpa using e.symm⟩
  | _, _, .cons x tk r, i + 1, v, e => by
    obtain ⟨tk', e'⟩ := strs_nth r i v (by simpa using e)
    exact ⟨tk', by rw [e']; rfl⟩
abbrev newSet (b : Bool) : Obj := { cls := .type "set", dict := none, data := .set #[] 0 (.fresh 0 0 b) }
set_option maxHeartbeats 6400000 in
/-- set(xs) of a list of texts -/
theorem set_texts {a : Addr} {us : Array Value} {xs : List Str} {Q : Value → Shared → Prop} (calm : A.handled = none) (la : s.heap.IsList a us) (tx : StrsAre us.toList xs) (few : xs.length + 1 < scanBound)
    (k : ∀ (h' : Heap) (tk : Nat), h'.SetOf (strKind P w) s.heap.objs.size (memS (onceS xs)) (onceS xs).length → (∀ b o, b < s.heap.objs.size → s.heap.get? b = some o → h'.get? b = some o) → Q (.ref s.heap.objs.size) { s with heap := h', toks := tk }) :
    wpAny (model P w) A (call (.type "set") [.ref a]) Q E s := by
  have fm := PySem.F.called_set.made
  have fs := PySem.F.called_set.sub
  have f1 := PySem.F.called_set.notType
  have f2 := PySem.F.called_set.canCreate
  have f3 := PySem.F.typeCall_set_1 (.ref a)
  have f4 := PySem.F.called_set.init.lookup
  obtain ⟨mc, mt, fmro⟩ := PySem.F.called_set.mro
  refine wpAny_call (codeAny_of_tree ?_)
  refine (show wpAny _ _ (callAny (.type "set") _) _ _ _ from wpAny_pure ⟨Code.quiet_builtin _ (by decide +kernel), codeAny_builtin PySem.F.entry_type_call ?_⟩)
  rw [Around.under_plain (weight_type_call_type "set" [.ref a] []) rfl]
  repeat (any_goals (first | assumption | wp_step))
  refine codeAny_mono (code_set_new_1 (.ref a) (E := E) (Q₁ := fun v t => ∃ b : Bool, v = .ref s.heap.objs.size ∧ t = { s with heap := s.heap.push (newSet b) }) fun b => ⟨b, rfl, rfl⟩) fun r t hr => ?_
  match r, hr with
  | .error e, hr => exact hr
  | .ok .next, hr => exact hr.elim
  | .ok .brk, hr => exact hr.elim
  | .ok .cont, hr => exact hr.elim
  | .ok (.ret v), hr =>
    obtain ⟨b, rfl, rfl⟩ := hr
    have at0 : (s.heap.push (newSet b)).get? s.heap.objs.size = some (newSet b) := Heap.get?_push_size _ rfl
    have ty0 : Shared.TypeIs { s with heap := s.heap.push (newSet b) } (.ref s.heap.objs.size) "set" := ⟨_, at0, rfl⟩
    have f5 := PySem.F.called_set.init.bind (.ref s.heap.objs.size)
    repeat (any_goals (first | assumption | wp_step))
    refine codeAny_mono (codeAny_call_builtin (R := wants (fun v t => v = .none ∧ ∃ h' tk, t = { s with heap := h', toks := tk } ∧ h'.SetOf (strKind P w) s.heap.objs.size (memS (onceS xs)) (onceS xs).length ∧
      (∀ b o, b < s.heap.objs.size → s.heap.get? b = some o → h'.get? b = some o)) E) PySem.F.called_set.init.plain PySem.F.entry_set_init (check_set_init_1 ty0 ?_)) fun r t hr => ?_
    · obtain ⟨⟨oc, od, ox, os⟩, oat, ocl, on, oda⟩ := la
      simp only at ocl oda
      subst ocl; subst oda
      have oat1 : (s.heap.push (newSet b)).get? a = some { cls := .type "list", dict := od, data := .seq us on, slots := os } := Heap.get?_push_of_some _ oat
      have la1 : (s.heap.push (newSet b)).IsList a us := ⟨_, oat1, rfl, on, rfl⟩
      have g1 := PySem.F.sub_list_set
      have g2 := PySem.F.sub_list_frozenset
      have g3 : (Value.type "list" == Value.type "dict") = false := by decide
      unfold Builtin.«set.__init__» noKeywords Builtin.Frozenset.updateFrom
      generalize hp : pyIter = walkOf
      wp_walk
      subst hp
      refine wpAny_pyIter_list la1 ?_
      refine wpAny_bind (wpAny_runValue ?_)
      have a_lt : a < s.heap.objs.size := Heap.lt_size oat
      have sz1 : (s.heap.push (newSet b)).objs.size = s.heap.objs.size + 1 := Heap.size_push _ _
      have calm3 : A.in1.in1.in1.handled = none := by simp [calm]
      have ne1 : a ≠ (s.heap.push (newSet b)).objs.size := by rw [sz1]; exact Nat.ne_of_lt (Nat.lt_succ_of_lt a_lt)
      have off : s.heap.objs.size ∉ [(s.heap.push (newSet b)).objs.size, a] := by
        rw [sz1]; simp only [List.mem_cons, List.not_mem_nil, or_false, not_or]; exact ⟨Nat.ne_of_lt (Nat.lt_succ_self _), Nat.ne_of_gt a_lt⟩
      have nx : xs.length = us.size := by rw [← Array.length_toList]; exact (StrsAre.len_eq tx).symm
      refine fillS ((Walks.list calm3 _ a ne1 us).toS) s.heap.objs.size off xs nx (by omega) (fun i v e => strs_nth tx i v (by rw [Array.getElem?_toList]; exact e)) us.size 0 _ (by omega) ⟨⟨_, Heap.get?_push_size _ rfl, rfl, rfl⟩, la1.push _⟩ ?start ?finish
      case start =>
        have at1 : ((s.heap.push (newSet b)).push { cls := .type "list_iterator", data := .fields #[.ref a, .int 0 0] }).get? s.heap.objs.size = some (newSet b) := Heap.get?_push_of_some _ at0
        exact SetOf_congr ((setObjOf_fresh (knd := strKind P w) b).setOf at1 (by unfold scanBound; omega)) (fun _ => rfl) rfl
      case finish =>
        intro t mv hset
        obtain ⟨h', g', d', tk', os'⟩ := t
        have q1 : g' = s.gens := mv.gens
        have q2 : d' = s.drawn := mv.drawn
        have q3 : os' = s.os := mv.os
        subst q1 q2 q3
        refine (show wpAny _ _ _ _ _ _ from wpAny_pure (show wpAny _ _ (ret Value.none) _ _ _ from wpAny_pure ⟨rfl, h', tk', rfl, hset, fun c o hc e => ?_⟩))
        refine mv.heap c o ?_ (Heap.get?_push_of_some _ (Heap.get?_push_of_some _ e))
        rw [sz1]; simp only [List.mem_cons, List.not_mem_nil, or_false, not_or]; exact ⟨Nat.ne_of_lt hc, Nat.ne_of_lt (Nat.lt_succ_of_lt hc)⟩
    · match r, hr with
      | .error e, hr => exact hr
      | .ok .next, hr => exact hr.elim
      | .ok .brk, hr => exact hr.elim
      | .ok .cont, hr => exact hr.elim
      | .ok (.ret v), hr =>
        obtain ⟨rfl, h', tk, rfl, hset, keep⟩ := hr
        repeat (any_goals (first | assumption | wp_step))
        exact k h' tk hset keep
end
def textsOf : List D → Option (List Str)
  | [] => some []
  | .str x :: r => (textsOf r).map (x :: ·)
  | _ => none
def gLenSet (d : D) (S : Store) : RE D := match seqL S d with
  | some ds => (match textsOf ds with
    | some xs => if xs.length ≤ 1000 then .ok (.int ((onceS xs).length : Int)) S else .no
    | none => .no)
  | none => .no
theorem texts_at {K : PySem.W.Frag} {mg : Str → Option Value} {w : Wd} {H : Hp} : ∀ {ds : List D} {vs : List V} {xs : List Str}, RpL K mg w H ds vs → textsOf ds = some xs → vs = xs.map V.str
  | [], vs, xs, r, h => by
    unfold RpL at r
    simp only [textsOf] at h
    cases h; rw [r]; rfl
  | d :: ds, vs, xs, r, h => by
    cases d <;> simp only [textsOf] at h <;> try (cases h; done)
    obtain ⟨ys, h1, h2⟩ := Option.map_eq_some_iff.mp h
    unfold RpL at r
    obtain ⟨v, r', e, r1, r2⟩ := r
    rw [e, ← h2, rp_str r1, texts_at r2 h1]; rfl
theorem vals_texts : ∀ {xs : List Str} {us : List Value}, Vals (xs.map V.str) us → StrsAre us xs
  | [], us, r => by
    rw [List.map_nil] at r
    cases r; exact .nil
  | x :: xs, us, r => by
    rw [List.map_cons] at r
    cases r with
    | cons h t =>
      obtain ⟨tk, rfl⟩ := h
      exact .cons x tk (vals_texts t)
section
variable {X : Cx} {W : WX} {a : Expr} {fa : FE} {p p2 q pos : Pos}
theorem q_lenSet [Wo] (hc : X.calm = true) (hg : Gl X "len") (hm : X.mg "len" = none) (hg2 : Gl X "set") (hm2 : X.mg "set" = none) (ha : PE X a (tF X W fa)) (na : starEach [a] X.env = (false, eval a X.env) :: starEach [] X.env := by rfl) :
    PE X (.Call (.Name "len" p) [.Call (.Name "set" p2) [a] [] q] [] pos) (tF X W (f1 gLenSet fa)) := by
  refine ⟨fun pins s σ H Q I ⟨w, ρ, S, s0, en, h⟩ => ?_⟩
  have h1 : tF X W fa σ H (fun v H1 => ∃ (l : Addr) (xs : List Str), v = V.ref l ∧ SqL X.K H1 l (xs.map V.str) ∧ xs.length ≤ 1000 ∧ Q (.int ((onceS xs).length : Int)) H1) := by
    refine ⟨w, ρ, S, s0, en, (End.bind (R := fun w H => Rp X.K X.mg w H) h).imp ?_ (fun _ _ _ z => z)⟩
    rintro v H1 ⟨w1, S1, d, e1, s1, r1, h1⟩
    unfold gLenSet at h1
    split at h1
    · rename_i ds hd
      split at h1
      · rename_i xs hx
        split at h1
        · rename_i hl
          obtain ⟨l, vs, ev, sq, rl⟩ := seqL_at s1 r1 hd
          rw [texts_at rl hx] at sq
          exact ⟨l, xs, ev, sq, hl, h1.ret s1 rp_i⟩
        · exact h1.elim
      · exact h1.elim
    · exact h1.elim
  refine Call_ (ld_blt I hg hm PySem.boot_len (callWith_builtin1 (args_cons (Call_ (ld_blt I hg2 hm2 boot_set ?_)) rfl) rfl rfl))
  refine callWith_type1 (args_cons (thn (ha.run pins s σ H _ I h1) fun v s1 ⟨x, H1, I1, r1, l, xs, ex, sq, hl, q1⟩ => args_nil ?_) na) na rfl
  subst ex
  cases r1
  obtain ⟨its, r, pl, hz⟩ := I1.list sq
  refine set_texts (I1.ok.hd hc) pl.isList (by simpa using vals_texts r) (by unfold scanBound; omega) fun h' tk hset keep => args_nil ?_
  obtain ⟨o, es, ep, t, ho, hex, hd, _, _, _, hf, hn⟩ := hset
  have I2 : Inv X pins σ H1 { s1 with heap := h', toks := tk } := I1.kept fun b o e => keep b o (Heap.lt_size e) e
  have le := onceS_le xs
  exact call_len_set ho hex hd hf (by rw [hn]; omega) ⟨.int ((onceS xs).length : Int), H1, I2.tok _, ⟨_, by rw [hn]⟩, q1⟩
end
end Kw
namespace Kw
open PySem PySem.Spec PyProof.Rows L2
end Kw
namespace Kw
open PySem PySem.Spec PyProof.Rows L2
abbrev Cl2 := List Value × Option Nat × (Addr → Value → Option Addr → TS)
def wCls2 (K : PySem.W.Frag) (Wout : WX) (D : Ends) : List Cl2 → WX
  | [] => Wout
  | (cs, o, ts) :: r => fun cls d σ H => ∃ b, PySem.W.exmAny K cls cs = some b ∧ (b = true → ∀ a, H a = none → hit o (ts a cls d) D a σ H) ∧ (b = false → wCls2 K Wout D r cls d σ H)
inductive ClsOk2 [Wo] (X : Cx) : List ExceptHandler → List Cl2 → Prop
  | nil : ClsOk2 X [] []
  | plain {x : Str} {c : Value} {ts : Addr → Value → Option Addr → TS} {b₀ : Stmt} {su : List Stmt} {np q : Pos} {hds : List ExceptHandler} {l : List Cl2} (nm : Names X x c) (k : SuOk X (b₀ :: su) ts) (r : ClsOk2 X hds l) :
      ClsOk2 X (.ExceptHandler (some (.Name x np)) none (b₀ :: su) q :: hds) (([c], none, ts) :: l)
  | two {x y : Str} {c d : Value} {ts : Addr → Value → Option Addr → TS} {b₀ : Stmt} {su : List Stmt} {np np2 tp q : Pos} {kk : Nat} {hds : List ExceptHandler} {l : List Cl2} (nm : Names X x c) (nm2 : Names X y d) (k : SuOk X (b₀ :: su) ts) (r : ClsOk2 X hds l) :
      ClsOk2 X (.ExceptHandler (some (.Tuple [.Name x np, .Name y np2] kk tp)) none (b₀ :: su) q :: hds) (([c, d], none, ts) :: l)
inductive ClsF2 [Wo] (X : Cx) (es : List Str) : List ExceptHandler → List ClF → Prop
  | nil : ClsF2 X es [] []
  | plain {x : Str} {sub : Str → Bool} {c : Str → Addr → FS} {b₀ : Stmt} {su : List Stmt} {np q : Pos} {hds : List ExceptHandler} {l : List ClF} (h : CatF X.K X.mg es x sub) (hg : Gl X x) (k : SuF X es (b₀ :: su) c) (r : ClsF2 X es hds l) (hd : (x == ("__debug__" : Str)) = false := by decide) :
      ClsF2 X es (.ExceptHandler (some (.Name x np)) none (b₀ :: su) q :: hds) ((sub, none, c) :: l)
  | two {x y : Str} {sub sub2 : Str → Bool} {c : Str → Addr → FS} {b₀ : Stmt} {su : List Stmt} {np np2 tp q : Pos} {kk : Nat} {hds : List ExceptHandler} {l : List ClF} (h : CatF X.K X.mg es x sub) (h2 : CatF X.K X.mg es y sub2) (hg : Gl X x) (hg2 : Gl X y) (k : SuF X es (b₀ :: su) c) (r : ClsF2 X es hds l) (hd : (x == ("__debug__" : Str)) = false := by decide) (hd2 : (y == ("__debug__" : Str)) = false := by decide) :
      ClsF2 X es (.ExceptHandler (some (.Tuple [.Name x np, .Name y np2] kk tp)) none (b₀ :: su) q :: hds) ((fun z => sub z || sub2 z, none, c) :: l)
section
variable {X : Cx} {W : WX} {es : List Str}
theorem exmAny_one {K : PySem.W.Frag} {cls c : Value} {b : Bool} (h : PySem.W.exmOne K cls c = some b) : PySem.W.exmAny K cls [c] = some b := by
  simp [PySem.W.exmAny, h]
theorem exmAny_two {K : PySem.W.Frag} {cls c d : Value} {b b2 : Bool} (h : PySem.W.exmOne K cls c = some b) (h2 : PySem.W.exmOne K cls d = some b2) : PySem.W.exmAny K cls [c, d] = some (b || b2) := by
  simp [PySem.W.exmAny, h, h2]
theorem ClsF2.go [Wo] {hds : List ExceptHandler} {cs : List ClF} (h : ClsF2 X es hds cs) (hk : ∀ y ∈ es, ExcK X.K X.mg y) : ∃ l, ClsOk2 X hds l ∧ ∀ (D : Ends) (w : Wd) (x : Ex) (ρ : FEnv) (S : Store) (σ : L2.St) (H : Hp) (cy : Value) (od : Option Addr), x.cls ∈ es → x.ns = [] → Sto X.K X.mg w S H → EnvR X.K X.mg w H ρ σ → ExR X.K X.mg w H x cy od →
    EndS X.K X.mg w H (clsR x ρ S cs) D W → wCls2 X.K W D l cy od σ H := by
  have ex0 : ∀ {w : Wd} {H : Hp} {x : Ex} {cy : Value} {od : Option Addr}, x.cls ∈ es → x.ns = [] → ExR X.K X.mg w H x cy od → ∃ C, X.mg x.cls = some (.ref C) ∧ cy = .ref C ∧ od = none := by
    intro w H x cy od hx hn ex
    obtain ⟨gy, hr⟩ := ex
    obtain ⟨C, gC, _⟩ := hk _ hx
    cases gC.symm.trans gy
    refine ⟨C, gC, rfl, ?_⟩
    rcases hr with ⟨_, _, z⟩ | ⟨d, vs, z, _⟩
    · exact z
    · exact absurd hn z
  have yes : ∀ {sub : Str → Bool} {c : Str → Addr → FS} {l : List ClF} {D : Ends} {w : Wd} {x : Ex} {ρ : FEnv} {S : Store} {σ : L2.St} {H : Hp} {C : Addr}, x.cls ∈ es → X.mg x.cls = some (.ref C) → Sto X.K X.mg w S H → EnvR X.K X.mg w H ρ σ → EndS X.K X.mg w H (clsR x ρ S ((sub, none, c) :: l)) D W → sub x.cls = true → ∀ a, H a = none → hit none (tsOf X es c a (.ref C) none) D a σ H := by
    intro sub c l D w x ρ S σ H C hx gC s en h hs a na
    have h2 : EndS X.K X.mg w H (aInd (clRun none (c x.cls) ρ S)) D W := by
      have h' := h
      unfold clsR at h'
      rw [if_pos hs] at h'
      exact h'
    by_cases hno : aInd (clRun none (c x.cls) ρ S) = .no
    · rw [hno] at h2; exact h2.elim
    · rw [← aInd_at a rfl hno] at h2
      exact ⟨x.cls, C, hx, gC, rfl, rfl, w, ρ, S, s, en, h2.nox⟩
  have noo : ∀ {sub : Str → Bool} {c : Str → Addr → FS} {l : List ClF} {D : Ends} {w : Wd} {x : Ex} {ρ : FEnv} {S : Store} {H : Hp}, EndS X.K X.mg w H (clsR x ρ S ((sub, none, c) :: l)) D W → sub x.cls = false → EndS X.K X.mg w H (clsR x ρ S l) D W := by
    intro sub c l D w x ρ S H h hs
    have h' := h
    unfold clsR at h'
    rw [if_neg (by rw [hs]; decide)] at h'
    exact h'
  induction h with
  | nil =>
    refine ⟨[], .nil, fun D w x ρ S σ H cy od hx hn s en ex h => ?_⟩
    exact h w H σ cy od Ext.refl s en ex
  | @plain x sub c b₀ su np q hds l hc hg k r hd ih =>
    obtain ⟨cv, nm, hx1⟩ := hc.names hg hd
    obtain ⟨l', ok', go'⟩ := ih
    refine ⟨([cv], none, tsOf X es c) :: l', .plain nm k.su ok', fun D w x ρ S σ H cy od hx hn s en ex h => ?_⟩
    obtain ⟨C, gC, rfl, rfl⟩ := ex0 hx hn ex
    exact ⟨sub x.cls, exmAny_one (hx1 _ hx _ gC), fun hs a na => yes hx gC s en h hs a na, fun hs => go' D w x ρ S σ H _ _ hx hn s en ex (noo h hs)⟩
  | @two x y sub sub2 c b₀ su np np2 tp q kk hds l hc hc2 hg hg2 k r hd hd2 ih =>
    obtain ⟨cv, nm, hx1⟩ := hc.names hg hd
    obtain ⟨cv2, nm2, hx2⟩ := hc2.names hg2 hd2
    obtain ⟨l', ok', go'⟩ := ih
    refine ⟨([cv, cv2], none, tsOf X es c) :: l', .two nm nm2 k.su ok', fun D w x ρ S σ H cy od hx hn s en ex h => ?_⟩
    obtain ⟨C, gC, rfl, rfl⟩ := ex0 hx hn ex
    exact ⟨sub x.cls || sub2 x.cls, exmAny_two (hx1 _ hx _ gC) (hx2 _ hx _ gC), fun hs a na => yes hx gC s en h hs a na, fun hs => go' D w x ρ S σ H _ _ hx hn s en ex (noo h hs)⟩
end
end Kw
namespace Kw
open PySem PySem.Spec PyProof.Rows L2
/-- classes that are asked for, by their names -/
inductive IsL (X : Cx) (ys : List Str) : List Expr → (Str → Bool) → Prop
  | nil : IsL X ys [] fun _ => false
  | cons {x : Str} {p : Pos} {es : List Expr} {sub sub2 : Str → Bool} (hg : Gl X x) (h : ∀ y ∈ ys, IsxO X.K X.mg y x (sub y)) (t : IsL X ys es sub2) (hd : (x == ("__debug__" : Str)) = false := by decide)
      (hs : starEach (.Name x p :: es) X.env = (false, eval (.Name x p) X.env) :: starEach es X.env := by rfl) : IsL X ys (.Name x p :: es) fun y => sub y || sub2 y
theorem IsL.get {X : Cx} {ys : List Str} {es : List Expr} {sub : Str → Bool} (h : IsL X ys es sub) (hne : ys ≠ []) : ∃ Bs : List Addr, es.length = Bs.length ∧ PA X es (fun _ H Q => Q (Bs.map V.ref) H) ∧ Paired ClsV (Bs.map V.ref) (Bs.map Value.ref) ∧ ∀ y ∈ ys, ∀ C, X.mg y = some (.ref C) → PySem.W.kitAny X.K (.ref C) (Bs.map Value.ref) = some (sub y) := by
  induction h with
  | nil => exact ⟨[], rfl, pa_nil, .nil, fun _ _ _ _ => rfl⟩
  | @cons x p es sub sub2 hg h t hd hs ih =>
    obtain ⟨Bs, l, pa, pr, k⟩ := ih
    obtain ⟨y0, hy0⟩ := List.exists_mem_of_ne_nil ys hne
    obtain ⟨C0, B, _, mB, _⟩ := h y0 hy0
    have n1 : PE X (.Name x p) (tC (.ref B)) := pe_glob hg mB rfl hd
    refine ⟨B :: Bs, by simp [l], pa_cons n1 pa hs, .cons (.own B) pr, fun y hy C hC => ?_⟩
    obtain ⟨C1, B1, m1, m2, e⟩ := h y hy
    cases hC.symm.trans m1
    cases mB.symm.trans m2
    have := k y hy C hC
    show PySem.W.kitAny X.K (.ref C) (.ref B :: Bs.map Value.ref) = _
    unfold PySem.W.kitAny
    rw [e]
    cases hs2 : sub y with
    | true => simp [hs2]
    | false => simpa [hs2] using this
end Kw
namespace Kw
open PySem PySem.Spec PyProof.Rows L2
end Kw
namespace PySem
end PySem
namespace PySem.W
open PySem PySem.Spec PySem.Calls PyProof.Rows
end PySem.W
namespace Kw
open PySem PySem.Spec PySem.Calls PyProof.Rows L2
end Kw
namespace L2
open PySem PySem.Spec PyProof.Rows
section
variable {X : Cx}
theorem lc_coreI {pins : List (Addr × Obj)} {s : Shared} {σ : St} {H : Hp} {Q : VK} {elt tg iter : Expr} {ifs : List Expr} {scope : Scope} {own : List (Str × Nat)} {pos pos' : Pos} {wi : TI} {g : TG} {tt : TT} {te : TE} {use : Option (Value → Sem Unit)} {Qf : Value → Shared → Prop}
    (hc : X.calm = true) (hN : X.N.Nodup) (I : Inv X pins σ H s) (hi : PI X tg iter wi) (ok : BlkOk X.N X.env.scope scope own)
    (hg : ∀ (s : Shared) (H : Hp) (C : Addr) (cl : List (Str × Addr)) (fp : List Addr), PG (X.blk s H scope (compEnvC scope cl C X.env) fp) tg g) (ht : ∀ (s : Shared) (H : Hp) (C : Addr) (cl : List (Str × Addr)) (fp : List Addr), PTs (X.blk s H scope (compEnvC scope cl C X.env) fp) ifs tt)
    (he : ∀ (s : Shared) (H : Hp) (C : Addr) (cl : List (Str × Addr)) (fp : List Addr), Inv X pins σ H s → (∀ b ∈ fp, FpOk X pins H b ∧ b < s.heap.objs.size) → ∀ (pins' : List (Addr × Obj)) (s' : Shared) (σ8 : St) (H8 : Hp) (Q : VK), Inv (X.blk s H scope (compEnvC scope cl C X.env) fp) pins' σ8 H8 s' → wipe σ8 (own.map (·.2)) = wipe σ (own.map (·.2)) → te σ8 H8 Q →
      wpAny (model X.prog X.w) X.A (eval elt (compEnvC scope cl C X.env)) (EP (X.blk s H scope (compEnvC scope cl C X.env) fp) pins' σ8 Q) (fun _ _ => False) s') (hs : ∀ x, foldedSetIterable iter X.env x = pure x)
    (h : tLc wi g tt te (own.map (·.2)) σ H Q)
    (hRR : ∀ D C s' m H', Inv X pins σ H' s' → Q (.ref D) H' → s'.heap.Ns C m → FpOk X pins H' C → compPost (model X.prog X.w) X.A X.xe use Qf (.ref D) C (.ok .next) s') :
    wpAny (model X.prog X.w) X.A (comprehension (.ListComp elt [⟨tg, iter, ifs, 0⟩] scope pos) scope X.env pos' (newList []) false (eval iter X.env) use) Qf X.xe s := by
  have hfree : ∀ y ∈ scope.names, y.2 = .free → ∃ c, X.env.cells.lookup y.1 = some c := fun y hy e => by
    rcases ok.free y hy e with k | k
    · exact I.ok.has _ (.inl k)
    · exact I.ok.has _ (.inr k)
  refine wpAny_comprehension_free (use := use) rfl hs (closure_ok hfree) ok.kind (fun y hy e => by rw [ok.uniq y hy, e])
    (thn (hi.run pins s σ H _ I h) fun xv s1 hx => thn hx fun itv s2 h2 => ?_)
  obtain ⟨it, fp, tn, J, H2, e, I2, T, st2, f2, q⟩ := h2
  subst e
  refine wpAny_newObj_type (newEnv_comp ?_) (by show 0 ≤ sizeLine; decide)
  generalize hD : s2.heap.objs.size = D
  have hDn : H2 D = none := I2.hok.fresh (Nat.le_of_eq hD)
  obtain ⟨W, ⟨m0, w0⟩, turn⟩ := q D hDn
  -- the new list
  generalize hs3 : ({ s2 with heap := s2.heap.push { cls := .type "list", data := .seq ([] : List Value).toArray } } : Shared) = s3
  have I3 : Inv X pins σ (upd H2 D (.lst [])) s3 := by
    rw [← hs3]
    refine I2.laid (t' := s2.toks) (fun b o e => Heap.get?_push_of_some _ e) (Nat.le_of_eq hD) ⟨Nat.zero_le _, [], 0, .nil, ?_⟩
    rw [← hD]
    exact Heap.get?_push_size _ rfl
  have h3 : s3.heap = s2.heap.push { cls := .type "list", data := .seq ([] : List Value).toArray } := by rw [← hs3]
  have sz : ∀ b ∈ fp, b < s2.heap.objs.size := fun b hb => by
    obtain ⟨o, e, _⟩ := T.obj _ _ st2 b hb
    exact Heap.lt_size e
  have f3 : ∀ b ∈ fp, FpOk X pins (upd H2 D (.lst [])) b ∧ b < s3.heap.objs.size := fun b hb => by
    have hlt := sz b hb
    refine ⟨⟨?_, (f2 b hb).2⟩, by rw [h3, Heap.size_push]; exact Nat.lt_succ_of_lt hlt⟩
    rw [upd_ne (by rw [← hD]; exact Nat.ne_of_lt hlt)]
    exact (f2 b hb).1
  have st3 : tn 0 s3.heap := T.keep _ _ _ st2 fun b _ o e => by rw [h3]; exact Heap.get?_push_of_some _ e
  have I4 := block_start I3 ok hN f3
  have pg := hg s3 (upd H2 D (.lst [])) s3.heap.objs.size (cellsFrom (s3.heap.objs.size + 1) scope.names (cloFrom X.env.cells scope.names [])) fp
  have pt := ht s3 (upd H2 D (.lst [])) s3.heap.objs.size (cellsFrom (s3.heap.objs.size + 1) scope.names (cloFrom X.env.cells scope.names [])) fp
  have pe := he s3 (upd H2 D (.lst [])) s3.heap.objs.size (cellsFrom (s3.heap.objs.size + 1) scope.names (cloFrom X.env.cells scope.names [])) fp I3 f3
  show codeAny _ _ (.compStart (.ListComp elt [⟨tg, iter, ifs, 0⟩] scope pos) 0 (.ref it) (.ref D) (compEnvC scope (cellsFrom (s3.heap.objs.size + 1) scope.names (cloFrom X.env.cells scope.names [])) s3.heap.objs.size X.env)) (compPost (model X.prog X.w) X.A X.xe use Qf (.ref D) s3.heap.objs.size) { s3 with heap := pushCells (s3.heap.push { cls := .type "dict", data := .dict #[] }) scope.names }
  have nfp : ∀ b ∈ fp, (upd H2 D (.lst [])) b = none := fun b hb => (f3 b hb).1.1
  generalize hce : compEnvC scope (cellsFrom (s3.heap.objs.size + 1) scope.names (cloFrom X.env.cells scope.names [])) s3.heap.objs.size X.env = ce at I4 pg pt pe ⊢
  have cL : ce.locals = s3.heap.objs.size := by subst hce; rfl
  generalize hH3 : upd H2 D (.lst []) = H3 at I3 I4 pg pt pe w0 nfp f3
  generalize hs4 : ({ s3 with heap := pushCells (s3.heap.push { cls := .type "dict", data := .dict #[] }) scope.names } : Shared) = s4 at I4 ⊢
  have st4 : tn 0 s4.heap := T.keep _ _ _ st3 fun b _ o e => by rw [← hs4]; exact pushCells_keeps _ _ _ _ (Heap.get?_push_of_some _ e)
  have stat : ∀ {σ' : St} {H' : Hp} {s' : Shared}, Inv (X.blk s3 H3 scope ce fp) [] σ' H' s' → (∀ b ∈ fp, H' b = none) → ∀ b ∈ fp, FpOk (X.blk s3 H3 scope ce fp) [] H' b := fun {σ' H' s'} I' hn b hb =>
    ⟨hn b hb, (I'.ok.exf b hb).1, I'.ok.exfs b hb, .inl hb, fun x c e => (I'.ok.exf b hb).2 x c e, fun p hp => absurd (show p ∈ ([] : List (Addr × Obj)) ++ [] from hp) (by simp)⟩
  have loop : codeAny (model X.prog X.w) X.A (.compLoop (.ListComp elt [⟨tg, iter, ifs, 0⟩] scope pos) 0 (.ref it) (.ref D) ce) (compPost (model X.prog X.w) X.A X.xe use Qf (.ref D) s3.heap.objs.size) s4 := by
    refine compLoop_any (fun n s' => ∃ i H', Inv (X.blk s3 H3 scope ce fp) [] (wipe σ (own.map (·.2))) H' s' ∧ tn i s'.heap ∧ (∀ b ∈ fp, H' b = none) ∧ W i n H') ?_ m0 ⟨0, H3, I4, st4, nfp, w0⟩
    rintro n s5 ⟨i, H5, I5, st5, n5, w5⟩
    rcases turn i n H5 w5 with ⟨stop, qq⟩ | ⟨go, Nx, hNx, step⟩
    · have td := T.done (X.blk s3 H3 scope ce fp) rfl rfl rfl hc i [] s5 _ H5 (fun _ _ => False) I5 (stat I5 n5) st5 stop
      refine thnF td fun r s6 ⟨hr, I6⟩ => ?_
      subst hr
      -- back in the def's context
      have I7 : Inv X pins σ H5 s6 := I3.call' (ch := fp) I6.os I6.base I6.hok I6.bare fun b hb => ⟨(f3 b hb).1.2.2.2.1, (f3 b hb).1.2.1, (f3 b hb).1.2.2.2.2.1, (f3 b hb).1.2.2.2.2.2⟩
      have nC : H5 s3.heap.objs.size = none := by
        have z : H5 ce.locals = none := I6.free
        rw [cL] at z
        exact z
      obtain ⟨m, hn, _⟩ := I6.loc
      have hn : s6.heap.Ns ce.locals m := hn
      rw [cL] at hn
      exact hRR D s3.heap.objs.size s6 m H5 I7 qq hn (I3.fpOk (Nat.le_refl _) nC)
    · have ti := T.item (X.blk s3 H3 scope ce fp) rfl rfl rfl hc i [] s5 _ H5 (fun _ _ => False) I5 (stat I5 n5) st5 go
      refine thnF ti fun r s6 ⟨u, hr, h6⟩ => ?_
      subst hr
      refine thnF h6 fun _ s7 ⟨x, H7, I7, r7, y7, st7, n7⟩ => ?_
      have I7' := I7.pinned (stat I7 n7) (T.obj _ _ st7)
      refine thnF (pg.run _ s7 _ H7 x u _ I7' r7 (step x H7 y7)) fun _ s8 ⟨σ8, H8, I8, hw8, q8⟩ => ?_
      refine thnF (pt.run _ s8 σ8 H8 _ I8 q8) fun b s9 ⟨H9, I9, q9⟩ => ?_
      -- the turn's end
      have fin : ∀ {s' : Shared} {H' : Hp}, Inv (X.blk s3 H3 scope ce fp) ([] ++ pinsAt fp s7.heap) σ8 H' s' → Nx H' → ∃ m, m < n ∧ ∃ i H', Inv (X.blk s3 H3 scope ce fp) [] (wipe σ (own.map (·.2))) H' s' ∧ tn i s'.heap ∧ (∀ b ∈ fp, H' b = none) ∧ W i m H' := fun {s' H'} I' nx => by
        obtain ⟨m', hm, w'⟩ := hNx H' nx
        have pin' : ∀ b ∈ fp, ∀ o, s7.heap.get? b = some o → s'.heap.get? b = some o ∧ H' b = none := fun b hb o e =>
          let z := I'.pin (b, o) (List.mem_append_right _ (List.mem_append_right _ (mem_pinsAt hb e)))
          ⟨z.1, z.2.1⟩
        have hl : (wipe σ (own.map (·.2))).length = σ8.length := by rw [← hw8, wipe_length]
        refine ⟨m', hm, i + 1, H', (I'.unpinned (pins := [])).weak hl (fun j v e => ?_), T.keep _ _ _ st7 fun b hb o e => (pin' b hb o e).1, fun b hb => ?_, w'⟩
        · rw [← hw8] at e
          exact (wipe_some e).1
        · obtain ⟨o, e, _⟩ := T.obj _ _ st7 b hb
          exact (pin' b hb o e).2
      cases b with
      | false =>
        simp only [Bool.false_eq_true, if_false] at q9 ⊢
        exact fin I9 q9
      | true =>
        simp only [if_true] at q9 ⊢
        refine thnF (pe _ s9 σ8 H9 _ I9 hw8 q9) fun z s10 ⟨yv, H10, I10, r10, acc, hD10, hz10, nx⟩ => ?_
        exact app_ok (X := X.blk s3 H3 scope ce fp) I10 hD10 hz10 r10 fun s11 I11 => fin I11 nx
  exact codeAny_compStart_list loop (T.self X.A 0 _ _ _ st4 loop)
end
end L2
namespace Kw
open PySem PySem.Spec PySem.Calls PyProof.Rows L2
abbrev Ob := Addr → Value → Value → Obj
/-- the lambda that stands in X -/
def lamOb (X : Cx) (xq : Str) (params : Arguments) (body : Expr) (scope : Scope) : Ob := fun c' pm ctv => PySem.W.kla_obj "<lambda>" (tabQ xq) params body scope (cloFrom X.env.cells scope.names []) pm c' ctv
open Classical in
noncomputable def fLam (j : Nat) (xq : Str) (i : Nat) (ob : Ob) : FE := fun _ S => if S[j]? = some (.tab xq) then .ok (.lam i (tabQ xq) ob) S else .no
section
variable {X : Cx} {pins : List (Addr × Obj)} {σ : L2.St} {H : Hp} {s : Shared}
/-- a lambda is made; the object is kept -/
theorem lam_mkV {c P : Addr} {q : Str} {ps : Array Value} {params : Arguments} {body : Expr} {scope : Scope} {pos : Pos} {E Q : Value → Shared → Prop} (I : Inv X pins σ H s) (TB : LamX.TabB X.base X.mg c P) (hcode : X.env.code = .ref c) (hq : X.env.qual ++ "<lambda>" = q)
    (hP : H P = some (.tbl ps)) (tri : TriplesOk ps.toList) (among : ∀ (p : Pos) (cv : Value), codeAmong p ps.toList = some cv → ∃ c, cv = .ref c ∧ H c = some (LamX.CodeO c q)) (hdef : defaultsOf params X.env = ([], [])) (hfree : ∀ y ∈ scope.names, y.2 = .free → ∃ c, X.env.cells.lookup y.1 = some c)
    (k : ∀ (f c' : Addr) (pm ctv : Value) (H1 : Hp) (s' : Shared), Inv X pins σ (upd H1 f (LamO f (PySem.W.kla_obj "<lambda>" q params body scope (cloFrom X.env.cells scope.names []) pm c' ctv))) s' → LamH q P ps H H1 c' → H1 f = none → (∃ ps1 : Array Value, H1 P = some (.tbl ps1) ∧ TriplesOk ps1.toList ∧ codeAmong pos ps1.toList = some (.ref c')) → Q (.ref f) s') :
    wpAny (model X.prog X.w) X.A (eval (.Lambda params body scope pos) X.env) Q E s := by
  subst hq
  have kb := TB.bm.keeps I.bk
  have kc := TB.code.keeps I.bk
  have kg := I.mod.glob.keeps I.bk
  have gP : s.heap.get? P = some { cls := .none, data := .fields ps } := I.hok P _ hP
  have okL : ∀ {H : Hp} {h : Heap} {f : Addr} {o : Obj}, h.get? f = some o → ObjOk X.prog X.w H h f (LamO f o) := fun {H h f o} e => ⟨e, ⟨_, e⟩, fun h1 h2 z k => k _ z⟩
  refine PySem.W.kla_eval hdef ?_
  rcases hc : codeAmong pos ps.toList with _ | cv
  · refine PySem.W.kla_makeFunction (c := c) (P := P) (ps := ps) (mg := X.mg) (closure_ok hfree) I.ok.glob kg hcode kc gP tri hc TB.gP kb ?_
    intro c' ctv h' tk hx hge hlt hrec htb
    obtain ⟨c2, oc, vs, t, e2, hoc, hd, hv⟩ := hrec
    cases e2
    have fr : H c' = none := I.hok.fresh hge
    have sz : s.heap.objs.size ≤ h'.objs.size := Nat.le_trans hge (Nat.le_of_lt hlt)
    have np : P ≠ c' := L2.ne_of_none hP fr
    have J := LamX.inv_table (t' := tk) (more := #[rawInt pos.line, rawInt pos.col, .ref c']) (h' := h') I hP (fun b o hb e => hx b o hb e) htb hge ⟨oc, vs, t, hoc, hd, hv⟩
    have eT : (ps ++ #[rawInt pos.line, rawInt pos.col, .ref c']).toList = ps.toList ++ [rawInt pos.line, rawInt pos.col, .ref c'] := by simp
    have h1 : h'.objs.size ≠ c' := fun z => Nat.ne_of_gt hlt z
    have h2 : h'.objs.size ≠ P := fun z => Nat.ne_of_gt (Nat.lt_of_lt_of_le (Heap.lt_size gP) sz) z
    have J2 := J.laid (t' := tk) (a := h'.objs.size) (o := LamO h'.objs.size (PySem.W.kla_obj "<lambda>" (X.env.qual ++ "<lambda>") params body scope (cloFrom X.env.cells scope.names []) ((X.mg "__name__").getD .none) c' ctv)) (h' := h'.push (PySem.W.kla_obj "<lambda>" (X.env.qual ++ "<lambda>") params body scope (cloFrom X.env.cells scope.names []) ((X.mg "__name__").getD .none) c' ctv)) (fun b o e => Heap.get?_push_of_some _ e) (Nat.le_refl _) (okL (Heap.get?_push_size _ rfl))
    refine k h'.objs.size c' _ ctv _ _ J2 (.inr ⟨_, fr, fun z => np z.symm, rfl, ?_, ?_⟩) ?_ ⟨_, by rw [upd_ne np, upd_same], by rw [eT]; exact PySem.TriplesOk_snoc _ _ _ _ tri, by rw [eT]; exact PySem.codeAmong_snoc _ tri hc⟩
    · rw [eT]; exact PySem.TriplesOk_snoc _ _ _ _ tri
    · intro p' cv hcv
      rw [eT] at hcv
      exact LamX.among_app _ tri hcv
    · rw [upd_ne h1, upd_ne h2]
      exact I.hok.fresh sz
  · obtain ⟨c', e, hco⟩ := among pos cv hc
    subst e
    refine PySem.W.kla_makeFunctionHit (c := c) (P := P) (ps := ps) (mg := X.mg) (closure_ok hfree) I.ok.glob kg hcode kc gP tri hc kb ?_
    intro ctv h' tk hx hsz
    have J : Inv X pins σ (upd H h'.objs.size (LamO h'.objs.size (PySem.W.kla_obj "<lambda>" (X.env.qual ++ "<lambda>") params body scope (cloFrom X.env.cells scope.names []) ((X.mg "__name__").getD .none) c' ctv))) { s with heap := h'.push (PySem.W.kla_obj "<lambda>" (X.env.qual ++ "<lambda>") params body scope (cloFrom X.env.cells scope.names []) ((X.mg "__name__").getD .none) c' ctv), toks := tk } :=
      I.laid (t' := tk) (a := h'.objs.size) (fun b o e => Heap.get?_push_of_some _ (hx b o e)) hsz (okL (Heap.get?_push_size _ rfl))
    exact k _ c' _ ctv H _ J (.inl ⟨rfl, hco⟩) (I.hok.fresh hsz) ⟨ps, hP, tri, hc⟩
end
section
variable {X : Cx} {W : WX}
theorem q_lamv [Wo] {j i : Nat} {xq : Str} {params : Arguments} {body : Expr} {scope : Scope} {lpos : Pos} (hT : TbF X.K X.mg X.base xq X.env.code) (hq : X.env.qual ++ "<lambda>" = tabQ xq) (L : LamX.LamS X.env.scope scope) (hdef : defaultsOf params X.env = ([], [])) :
    PE X (.Lambda params body scope lpos) (tF X W (fLam j xq i (lamOb X xq params body scope))) := by
  refine ⟨fun pins s σ H Q I ⟨w, ρ, S0, s0, en, h⟩ => ?_⟩
  obtain ⟨c, P, hti, TB, hcode⟩ := hT
  unfold fLam at h
  split at h
  case isFalse => exact h.elim
  rename_i hj
  obtain ⟨c0, P0, t0, hφ, tw⟩ := s0.cell j _ hj
  rw [hti] at t0; cases t0
  obtain ⟨tps, tp1, tp2, tp3⟩ := tw
  refine lam_mkV (c := c) (P := P) I TB hcode hq tp1 tp2 (fun pos cv z => by
    obtain ⟨c1, z1, z2, _⟩ := tp3 pos cv z
    exact ⟨c1, z1, z2⟩) hdef (L.has I.ok) fun f c' pm ctv H1 s' I1 lm hfn ht => ?_
  obtain ⟨x1, s1⟩ := lam_sto s0 hj hφ tp1 lm
  obtain ⟨ps1, hP1, tri1, ham⟩ := ht
  obtain ⟨c2, P2, t2, hφ2, tw2⟩ := s1.cell j _ hj
  rw [hti] at t2; cases t2
  obtain ⟨tps2, tp21, tp22, tp23⟩ := tw2
  rw [hP1] at tp21; cases tp21
  obtain ⟨c3, e3, z3, o3⟩ := tp23 _ _ ham
  cases e3
  have x2 : Ext w H1 w (upd H1 f (LamO f (PySem.W.kla_obj "<lambda>" (tabQ xq) params body scope (cloFrom X.env.cells scope.names []) pm c' ctv))) := Ext.new hfn
  refine ⟨.ref f, _, I1, rfl, ?_⟩
  refine h w _ _ (x1.trans x2) (s1.beside hfn) ?_
  show Rp _ _ _ _ (.lam i (tabQ xq) _) _
  unfold Rp
  exact ⟨f, c', pm, ctv, rfl, upd_same, s1.new hfn, x2.fr _ _ z3 o3.1, x2.out z3 o3⟩
end
open Classical in
/-- asks the lambda that was handed in, made in the environment σ, whose tree is the cell n -/
noncomputable def fActV (n i : Nat) (q : Str) (ob : Ob) (σ : L2.St) (tb : FE) : FE := fun ρ S => match ρ[0]? with
  | some (some (Kw.D.lam i' q' ob')) => if i' = i ∧ q' = q ∧ ob' = ob then (match S[n]? with
    | some (.gst ρc σc) => if σc = σ then tb ρc S else .no
    | _ => .no) else .no
  | _ => .no
section
variable {X : Cx} {pins : List (Addr × Obj)} {σ : L2.St} {H : Hp} {s : Shared}
theorem act_peV [Wo] {CXg : CXT} {Eg : XK} {Ng : List Str} {qg : Str} {sg : Scope} {g : Addr} {cdg : Value} {params : Arguments} {body : Expr} {scope : Scope} {k : Nat} {n i : Nat} {a x : Str} {pn : List (Addr × Obj)} {xe : Value → Shared → Prop} {W : WX} {tb : FE} {p1 p2 : Pos}
    (I : Inv X pins σ H s) (L : LamX.LamS X.env.scope scope) (hq : X.env.qual ++ "<lambda>" = tabQ x)
    (hbind : ∀ (cl : List (Str × Addr)) (pm cv ctv : Value), bindArgs (PySem.W.kla_fn "<lambda>" (tabQ x) params body scope cl pm cv ctv) ⟨[], []⟩ = pure [])
    (tk : Takes ((cxOf CXg X.prog X.w X.K X.mg X.base Ng qg sg g cdg X.A X.stack s H Eg).tr pn xe) W) (hr : RoomG (k + 1) (X.A.deeper (envOfC qg sg s.heap.objs.size g cdg)))
    (hbody : ∀ (A : Around) (outer : List Env) (s : Shared) (H : Hp) (E : XK) (f c' : Addr), RoomG k (A.deeper (LamX.lamEnv X scope s.heap.objs.size f c')) → PE (LamX.lamCx X A outer s H E scope f c') body (tF (LamX.lamCx X A outer s H E scope f c') (fun c d _ H => E c d H) tb))
    (hN : Ng[0]? = some a) (hv : Vis sg a) (hd : (a == ("__debug__" : Str)) = false := by decide) (hcd : (a == ("__classdict__" : Str)) = false := by decide) :
    PE ((cxOf CXg X.prog X.w X.K X.mg X.base Ng qg sg g cdg X.A X.stack s H Eg).tr pn xe) (.Call (.Name a p1) [] [] p2)
      (tF ((cxOf CXg X.prog X.w X.K X.mg X.base Ng qg sg g cdg X.A X.stack s H Eg).tr pn xe) W (fActV n i (tabQ x) (lamOb X x params body scope) σ tb)) := by
  refine ⟨fun pinsZ sZ σZ HZ Q IZ h => ?_⟩
  obtain ⟨w, ρ, S, s0, en, hE⟩ := h
  unfold fActV at hE
  split at hE
  case h_2 => exact hE.elim
  rename_i i' q' ob' hρ
  split at hE
  case isFalse => exact hE.elim
  rename_i hk
  obtain ⟨ei, eq, eo⟩ := hk
  subst ei eq eo
  split at hE
  case h_2 => exact hE.elim
  rename_i ρc σc hn
  split at hE
  case isFalse => exact hE.elim
  rename_i es
  subst es
  obtain ⟨v0, hs, hv0⟩ := en.at_ 0 _ hρ
  unfold Rp at hv0
  obtain ⟨f', c', pm, ctv, ev0, hf0, off0, hc0, offc⟩ := hv0
  subst ev0
  have enc := (s0.cell n _ hn).2
  refine wpAny_Call_Name_kw (thn ((pe_var (pos := p1) (i := 0) hN hv hd hcd).run pinsZ sZ σZ HZ (fun v H1 => v = .ref f' ∧ H1 = HZ) IZ ⟨.ref f', hs, rfl, rfl⟩) fun u s1 ⟨v, H1, I1, r1, q1⟩ => ?_)
  obtain ⟨ev, eH⟩ := q1
  subst ev
  rw [eH] at I1
  obtain rfl : u = Value.ref f' := r1
  have of1 : s1.heap.get? f' = some (PySem.W.kla_obj "<lambda>" (tabQ x) params body scope (cloFrom X.env.cells scope.names []) pm c' ctv) := (show _ ∧ _ from I1.hok f' _ hf0).1
  refine PySem.W.callWith_F0 ⟨_, _, _, _, of1⟩ ?_
  have un : Un (frs X.stack) [] H HZ s.heap s1.heap := I1.base
  obtain ⟨⟨oc, vs, t, hoc, hdc, hvc⟩, _, _⟩ := I1.hok c' _ hc0
  have rc : codeAny (model X.prog X.w) (X.A.deeper (envOfC qg sg s.heap.objs.size g cdg)) (.call (.ref f') ⟨[], []⟩) (CR (L2.CX X.prog X.w) (envOfC qg sg s.heap.objs.size g cdg :: X.stack) X.prog X.w HZ s1 Q (WE W σZ)) s1 := by
    refine PySem.W.kla_callFunE hr.rm.depth of1 rfl L.co L.gen rfl ⟨c', oc, vs, t, rfl, hoc, hdc, hvc⟩ ?_
    rw [hbind]
    refine wpAny_pure (wpAny_newFunctionEnv (fun y hy => (L.own y hy).2) (fun y hy => absurd hy (by simp)) (fun h₁ hns hsb => ⟨I1.nolimit.fresh _ hsb, ?_⟩) L.kind)
    rw [← hq]
    show codeAny _ _ (.expr body (LamX.lamEnv X scope s1.heap.objs.size f' c')) _ _
    have kp : ∀ b o, s1.heap.get? b = some o → h₁.get? b = some o := fun b o e => hsb.extBut b o (Nat.ne_of_lt (Heap.lt_size e)) (Heap.get?_push_of_some _ e)
    have JJ : Inv (LamX.lamCx X (X.A.deeper (envOfC qg sg s.heap.objs.size g cdg)) (envOfC qg sg s.heap.objs.size g cdg :: X.stack) s1 HZ (WE W σZ) scope f' c') [] σc HZ { s1 with heap := h₁, toks := s1.toks + ([] : List (Str × Value)).length } :=
      LamX.lam_start2 I L I1.env0 hr.rm.hd un hns kp
    refine PySem.W.kla_codeExpr (wpAny_mono ((hbody _ _ s1 HZ _ f' c' (hr.down _)).run [] _ _ HZ Q JJ ⟨w, ρc, S, s0, enc, hE⟩) (fun v s' hq => ?_) fun e s' hq => hq)
    obtain ⟨w', H', J', rv, q⟩ := hq
    exact ⟨w', H', J'.os, J'.bare, J'.base, J'.hok, rv, q⟩
  refine wpAny_call (codeAny_mono rc fun r s' hq => ?_)
  cases r with
  | error e => exact passAt tk σZ pinsZ HZ s1 e s' I1 hq
  | ok fl =>
    cases fl with
    | ret u => exact I1.after hq
    | next => exact False.elim hq
    | brk => exact False.elim hq
    | cont => exact False.elim hq
end
/-- the lambdas that may be asked, each with its body's tree function -/
def LamV [Wo] (X : Cx) (k : Nat) (xq : Str) (ob : Ob) (tb : FE) : Prop := ∃ (params : Arguments) (body : Expr) (scope : Scope), ob = lamOb X xq params body scope ∧ LamX.LamS X.env.scope scope ∧ (∀ (cl : List (Str × Addr)) (pm cv ctv : Value), bindArgs (PySem.W.kla_fn "<lambda>" (tabQ xq) params body scope cl pm cv ctv) ⟨[], []⟩ = pure []) ∧
  ∀ (A : Around) (outer : List Env) (s : Shared) (H : Hp) (E : XK) (f c' : Addr), RoomG k (LamX.lamCx X A outer s H E scope f c').A → Takes (LamX.lamCx X A outer s H E scope f c') (fun c d _ H => E c d H) → PE (LamX.lamCx X A outer s H E scope f c') body (tF (LamX.lamCx X A outer s H E scope f c') (fun c d _ H => E c d H) tb)
def LamVs [Wo] (X : Cx) (k : Nat) (xq : Str) (tbs : List (Ob × FE)) : Prop := ∀ (i : Nat) ob tb, tbs[i]? = some (ob, tb) → LamV X k xq ob tb
theorem lamVs_nil [Wo] {X : Cx} {k : Nat} {xq : Str} : LamVs X k xq [] := fun i ob tb h => by simp at h
theorem lamVs_cons [Wo] {X : Cx} {k : Nat} {xq : Str} {ob : Ob} {tb : FE} {r : List (Ob × FE)} (h : LamV X k xq ob tb) (t : LamVs X k xq r) : LamVs X k xq ((ob, tb) :: r)
  | 0, ob', tb', e => by cases e; exact h
  | i + 1, ob', tb', e => t i ob' tb' (by simpa using e)
theorem lamV_mk [Wo] {X : Cx} {k : Nat} {xq : Str} {tb : FE} {body : Expr} {scope : Scope} (L : LamX.LamS X.env.scope scope)
    (hbody : ∀ (A : Around) (outer : List Env) (s : Shared) (H : Hp) (E : XK) (f c' : Addr), RoomG k (LamX.lamCx X A outer s H E scope f c').A → Takes (LamX.lamCx X A outer s H E scope f c') (fun c d _ H => E c d H) → PE (LamX.lamCx X A outer s H E scope f c') body (tF (LamX.lamCx X A outer s H E scope f c') (fun c d _ H => E c d H) tb)) :
    LamV X k xq (lamOb X xq noPar body scope) tb := ⟨noPar, body, scope, rfl, L, fun _ _ _ _ => lam_bind0, hbody⟩
open Classical in
noncomputable def gThunkV (q : Str) (nG : Nat) (bg : FE → FS) (tbs : List (Ob × FE)) (ρw : FEnv) (d : D) (S1 : Store) : RE D := match d with
  | .lam i q' ob => (match tbs[i]? with
    | some (ob', tb) => if q' = q ∧ ob = ob' then aInd2 fun _ σ => cutR S1 ((bg (fActV S1.length i q ob σ tb) ([Kw.D.lam i q ob].map some ++ List.replicate (nG - 1) none) (S1 ++ [.gst ρw σ])).fin) else .no
    | none => .no)
  | _ => .no
noncomputable def fThunkV (q : Str) (nG : Nat) (bg : FE → FS) (tbs : List (Ob × FE)) (vs : List Nat) (fe : FE) : FE := fun ρ S => (fe ρ S).bnd (gThunkV q nG bg tbs (wipeR ρ vs))
theorem unwipe {K : PySem.W.Frag} {mg : Str → Option Value} {w : Wd} {H : Hp} {ρ : FEnv} {σ : L2.St} {vs : List Nat} (en : EnvR K mg w H ρ (wipe σ vs)) : EnvR K mg w H ρ σ :=
  ⟨en.len.trans (wipe_length σ vs), fun i d h => by
    obtain ⟨v, h1, h2⟩ := en.at_ i d h
    exact ⟨v, (wipe_some h1).1, h2⟩⟩
section
variable {X : Cx} {W : WX}
theorem thunkB [Wo] {x a xq : Str} {st : Stmt} {Ng : List Str} {k : Nat} {bg : FE → FS} {tbs : List (Ob × FE)} {e : Expr} {fe : FE} {p pos : Pos} {scope0 : Scope} {ce : Env} {fp : List Addr} {vs : List Nat} {pins pins3 : List (Addr × Obj)} {s3 s8 : Shared} {σ3 σ8 : L2.St} {H3 H8 : Hp} {Q : VK} (T : TF X.K X.mg x st [a]) (S : FnScope Ng [a] (defScope st)) (hN : Ng[0]? = some a) (hva : Vis (defScope st) a)
    (hG : ∀ (act : FE) (g : Addr) (cdv : Value) (A : Around) (outer : List Env) (s : Shared) (H : Hp) (E : XK), RoomG (k + 1) (A.deeper (envOfC x (defScope st) s.heap.objs.size g cdv)) →
      (∀ (pn : List (Addr × Obj)) (xe : Value → Shared → Prop) (W : WX) (p1 p2 : Pos), Takes ((cxOf (L2.CX X.prog X.w) X.prog X.w X.K X.mg X.base Ng x (defScope st) g cdv A outer s H E).tr pn xe) W →
        PE ((cxOf (L2.CX X.prog X.w) X.prog X.w X.K X.mg X.base Ng x (defScope st) g cdv A outer s H E).tr pn xe) (.Call (.Name a p1) [] [] p2) (tF ((cxOf (L2.CX X.prog X.w) X.prog X.w X.K X.mg X.base Ng x (defScope st) g cdv A outer s H E).tr pn xe) W act)) →
      PSs (cxOf (L2.CX X.prog X.w) X.prog X.w X.K X.mg X.base Ng x (defScope st) g cdv A outer s H E) (defBody st) (tS (cxOf (L2.CX X.prog X.w) X.prog X.w X.K X.mg X.base Ng x (defScope st) g cdv A outer s H E) (fun c d _ H => E c d H) (bg act)))
    (hr : RoomG (k + 2) X.A) (hq : X.env.qual ++ "<lambda>" = tabQ xq) (hL : LamVs X k xq tbs)
    (J : Inv X pins3 σ3 H3 s3) (fpk : ∀ b ∈ fp, FpOk X pins3 H3 b ∧ b < s3.heap.objs.size) (I : Inv (X.blk s3 H3 scope0 ce fp) pins σ8 H8 s8) (lk : wipe σ8 vs = wipe σ3 vs) (tk : Takes (X.blk s3 H3 scope0 ce fp) W0)
    (hg : Gl (X.blk s3 H3 scope0 ce fp) x) (he : PE (X.blk s3 H3 scope0 ce fp) e (tF (X.blk s3 H3 scope0 ce fp) W0 fe)) (h : tF X W0 (fThunkV (tabQ xq) Ng.length bg tbs vs fe) σ8 H8 Q)
    (hdb : (x == ("__debug__" : Str)) = false := by decide) (hd : (a == ("__debug__" : Str)) = false := by decide) (hcd : (a == ("__classdict__" : Str)) = false := by decide)
    (hs1 : starEach [e] ce = (false, eval e ce) :: starEach [] ce := by rfl) (hpl : (backTo pos (starEach [] ce)).any (·.1) = false := by rfl) :
    wpAny (model X.prog X.w) X.A (eval (.Call (.Name x p) [e] [] pos) ce) (EP (X.blk s3 H3 scope0 ce fp) pins σ8 Q) (fun _ _ => False) s8 := by
  obtain ⟨w, ρ, S0, s0, en, h⟩ := h
  obtain ⟨g, fd, F, hm, hb⟩ := T
  refine wpAny_Call_Name_kw (env := ce) (ld_glob I hg hm ?_ hdb)
  refine PySem.W.callWith_K (h₀ := X.base) I.ok.mod.kin F.kp (thn ((pa_cons he pa_nil hs1).run pos pins s8 σ8 H8 (fun us H1 => ∃ v, us = [v] ∧ ∃ w1 S1 d, Sto X.K X.mg w1 S1 H1 ∧ EnvR X.K X.mg w1 H1 ρ σ8 ∧ Rp X.K X.mg w1 H1 d v ∧ End X.K X.mg (fun w H => Rp X.K X.mg w H) w1 H1 (gThunkV (tabQ xq) Ng.length bg tbs (wipeR ρ vs) d S1) Q (fun c od H' => W0 c od σ8 H')) I ?_) fun us s1 ⟨vs1, H1, I1, r, v, ev, w1, S1, d, st1, en1, rd, hE⟩ => ⟨I1.kIn, ?_⟩) hs1 hpl
  · refine ⟨w, ρ, S0, s0, en, (End.bind (R := fun w H => Rp X.K X.mg w H) h).imp ?_ (fun _ _ _ z => z)⟩
    rintro v H1 ⟨w1, S1, d, e1, s1, r1, h1⟩
    exact ⟨v, rfl, w1, S1, d, s1, en.ext e1, r1, h1⟩
  subst ev
  obtain ⟨u, us', rfl, ru, rn⟩ : ∃ u us', us = u :: us' ∧ RelV v u ∧ us' = [] := by
    cases r with
    | cons a b => cases b; exact ⟨_, _, rfl, a, rfl⟩
  subst rn
  have J1 : Inv X pins3 σ3 H1 s1 := J.call' (ch := fp) I1.os I1.base I1.hok I1.bare fun b hb => ⟨(fpk b hb).1.2.2.2.1, (fpk b hb).1.2.1, (fpk b hb).1.2.2.2.2.1, (fpk b hb).1.2.2.2.2.2⟩
  unfold gThunkV at hE
  split at hE
  case h_2 => exact hE.elim
  rename_i i q' ob
  split at hE
  case h_2 => exact hE.elim
  rename_i ob' tb hi
  split at hE
  case isFalse => exact hE.elim
  rename_i hk
  obtain ⟨e1, e2⟩ := hk
  subst e1 e2
  unfold aInd2 at hE
  split at hE
  case isFalse => exact hE.elim
  rename_i hind
  obtain ⟨params, body, scope, eo, L, hbind, hbody⟩ := hL i ob tb hi
  have en3 : EnvR X.K X.mg w1 H1 (wipeR ρ vs) σ3 := unwipe (vs := vs) (by rw [← lk]; exact en1.wipe vs)
  have rc : codeAny (model X.prog X.w) X.A (.call (.ref g) ⟨[u], []⟩) (CR (L2.CX X.prog X.w) X.stack X.prog X.w H1 s1 Q (WE W0 σ8)) s1 := by
    refine run_def (N := Ng) (ps := [a]) (us := [u]) (vs := [v]) (b := bg (fActV S1.length i (tabQ xq) ob σ3 tb)) F S hr I1.env0 (binds0 (us := [u]) hb I1.kIn rfl) (.cons ru .nil) (fun cdv hr' => ?_) ?_
    · refine hG _ g cdv X.A X.stack s1 H1 _ hr' fun pn xe W' p1 p2 tk' => ?_
      rw [eo]
      exact act_peV J1 L hq hbind tk' hr' (fun A outer s H E f c' hr2 => hbody A outer s H E f c' hr2 (takes_of rfl rfl rfl rfl)) hN hva hd hcd
    · refine ⟨⟨w1.φ ++ [none], w1.hd⟩, S1 ++ [.gst (wipeR ρ vs) σ3], [.lam i (tabQ xq) ob], ghost_sto st1 en3, RpL.one (Rp.ext ghost_ext _ _ rd), rfl, ?_⟩
      rw [← hind 0 σ3] at hE
      have h2 := End.cutE st1 hE
      refine End.on ghost_ext ?_
      unfold fnB
      rw [if_pos (show ([Kw.D.lam i (tabQ xq) ob] : List Kw.D).length = [a].length from rfl)]
      exact h2
  refine wpAny_call (codeAny_mono rc fun r s2 hq => ?_)
  cases r with
  | error e => exact passAt tk σ8 pins H1 s1 e s2 I1 hq
  | ok fl =>
    cases fl with
    | ret u => exact I1.after hq
    | next => exact False.elim hq
    | brk => exact False.elim hq
    | cont => exact False.elim hq
/-- [x(e) for ..], x a def that asks what it is handed, e a kept lambda -/
theorem q_lcV [Wo] {c : Bool} {x a xq : Str} {st : Stmt} {Ng : List Str} {k : Nat} {bg : FE → FS} {tbs : List (Ob × FE)} {e : Expr} {fe : FE} {p pos lpos : Pos} {tg iter : Expr} {scope : Scope} {own : List (Str × Nat)} {fi : FI} {g : FG} {sl : List Nat} (T : TF X.K X.mg x st [a]) (S : FnScope Ng [a] (defScope st)) (hNg : Ng[0]? = some a) (hva : Vis (defScope st) a)
    (hG : ∀ (act : FE) (g : Addr) (cdv : Value) (A : Around) (outer : List Env) (s : Shared) (H : Hp) (E : XK), RoomG (k + 1) (A.deeper (envOfC x (defScope st) s.heap.objs.size g cdv)) →
      (∀ (pn : List (Addr × Obj)) (xe : Value → Shared → Prop) (W : WX) (p1 p2 : Pos), Takes ((cxOf (L2.CX X.prog X.w) X.prog X.w X.K X.mg X.base Ng x (defScope st) g cdv A outer s H E).tr pn xe) W →
        PE ((cxOf (L2.CX X.prog X.w) X.prog X.w X.K X.mg X.base Ng x (defScope st) g cdv A outer s H E).tr pn xe) (.Call (.Name a p1) [] [] p2) (tF ((cxOf (L2.CX X.prog X.w) X.prog X.w X.K X.mg X.base Ng x (defScope st) g cdv A outer s H E).tr pn xe) W act)) →
      PSs (cxOf (L2.CX X.prog X.w) X.prog X.w X.K X.mg X.base Ng x (defScope st) g cdv A outer s H E) (defBody st) (tS (cxOf (L2.CX X.prog X.w) X.prog X.w X.K X.mg X.base Ng x (defScope st) g cdv A outer s H E) (fun c d _ H => E c d H) (bg act)))
    (hr : RoomG (k + 2) X.A) (hq : X.env.qual ++ "<lambda>" = tabQ xq) (hL : LamVs X k xq tbs)
    (hc : X.calm = true) (hN : X.N.Nodup) (hi : PI X tg iter (tI X W fi)) (ok : BlkOk X.N X.env.scope scope own) (hsl : ∀ i ∈ sl, i ∈ own.map (·.2))
    (hg : ∀ (s : Shared) (H : Hp) (C : Addr) (cl : List (Str × Addr)) (fp : List Addr), PG (X.blk s H scope (compEnvC scope cl C X.env) fp) tg (tG (X.blk s H scope (compEnvC scope cl C X.env) fp) sl g)) (ht : ∀ (s : Shared) (H : Hp) (C : Addr) (cl : List (Str × Addr)) (fp : List Addr), PTs (X.blk s H scope (compEnvC scope cl C X.env) fp) [] (tT (X.blk s H scope (compEnvC scope cl C X.env) fp) W0 fYes))
    (he : ∀ (s : Shared) (H : Hp) (C : Addr) (cl : List (Str × Addr)) (fp : List Addr), PE (X.blk s H scope (compEnvC scope cl C X.env) fp) e (tF (X.blk s H scope (compEnvC scope cl C X.env) fp) W0 fe)) (hgx : ∀ (s : Shared) (H : Hp) (C : Addr) (cl : List (Str × Addr)) (fp : List Addr), Gl (X.blk s H scope (compEnvC scope cl C X.env) fp) x)
    (hs1 : ∀ (C : Addr) (cl : List (Str × Addr)), starEach [e] (compEnvC scope cl C X.env) = (false, eval e (compEnvC scope cl C X.env)) :: starEach [] (compEnvC scope cl C X.env) := by intros; rfl) (hpl : ∀ (C : Addr) (cl : List (Str × Addr)), (backTo pos (starEach [] (compEnvC scope cl C X.env))).any (·.1) = false := by intros; rfl)
    (hs : ∀ x, foldedSetIterable iter X.env x = pure x := by intro _; rfl) (hdb : (x == ("__debug__" : Str)) = false := by decide) (hd : (a == ("__debug__" : Str)) = false := by decide) (hcd : (a == ("__classdict__" : Str)) = false := by decide) :
    PE X (.ListComp (.Call (.Name x p) [e] [] pos) [⟨tg, iter, [], 0⟩] scope lpos) (tF X W (fLc c fi g fYes (fThunkV (tabQ xq) Ng.length bg tbs (own.map (·.2)) fe) (own.map (·.2)))) := by
  refine ⟨fun pins s σ H Q I h => ?_⟩
  rw [eval_ListComp]
  have h2 : tLc (tI X W fi) (tG X sl g) (tT X W0 fYes) (tF X W0 (fThunkV (tabQ xq) Ng.length bg tbs (own.map (·.2)) fe)) (own.map (·.2)) σ H Q := lc_core' hsl h
  have he2 : ∀ (s : Shared) (H : Hp) (C : Addr) (cl : List (Str × Addr)) (fp : List Addr), Inv X pins σ H s → (∀ b ∈ fp, FpOk X pins H b ∧ b < s.heap.objs.size) → ∀ (pins' : List (Addr × Obj)) (s' : Shared) (σ8 : L2.St) (H8 : Hp) (Q : VK), Inv (X.blk s H scope (compEnvC scope cl C X.env) fp) pins' σ8 H8 s' → wipe σ8 (own.map (·.2)) = wipe σ (own.map (·.2)) → tF X W0 (fThunkV (tabQ xq) Ng.length bg tbs (own.map (·.2)) fe) σ8 H8 Q →
      wpAny (model X.prog X.w) X.A (eval (.Call (.Name x p) [e] [] pos) (compEnvC scope cl C X.env)) (EP (X.blk s H scope (compEnvC scope cl C X.env) fp) pins' σ8 Q) (fun _ _ => False) s' := by
    intro s3 H3 C cl fp I3 f3 pins' s' σ8 H8 Q8 I8 lk h8
    exact thunkB (vs := own.map (·.2)) (tbs := tbs) T S hNg hva hG hr hq hL I3 f3 I8 lk takes0 (hgx _ _ _ _ _) (he _ _ _ _ _) h8 hdb hd hcd (hs1 _ _) (hpl _ _)
  refine lc_coreI hc hN I hi ok hg ht he2 hs h2 fun D C s' m H' I' q hn f => ⟨m, hn, fun h'' sb => ?_⟩
  obtain ⟨f0, f1, f2, f3, f4, f5⟩ := f
  exact ⟨.ref D, H', I'.turned (t' := s'.toks) (fun b o hb e => (sb.2 b hb).trans e) f0 f1 f3 f4 f5, rfl, q⟩
noncomputable def rtCut (S : Store) (r : RS) : RS := match r with
  | .rt d S' => (match cutR S (.ok d S') with
    | .ok d S'' => .rt d S''
    | _ => .no)
  | _ => .no
end
end Kw
namespace Kw
open PySem PySem.Spec PySem.Calls PyProof.Rows L2
/-- the cells at as, with vs, beside H -/
def celH (H : Hp) (as : List Addr) (vs : List V) : Hp := fun b => match (as.zip vs).lookup b with
  | some v => some (CelO b v)
  | none => H b
/-- H without the cells at as -/
def celOff (H : Hp) (as : List Addr) : Hp := fun b => if b ∈ as then none else H b
theorem lookup_zip : ∀ {as : List Addr} {vs : List V} {b : Addr} {v : V}, (as.zip vs).lookup b = some v → ∃ k : Nat, as[k]? = some b ∧ vs[k]? = some v
  | [], _, _, _, h => by simp at h
  | a :: as, [], _, _, h => by simp at h
  | a :: as, u :: vs, b, v, h => by
    rw [List.zip_cons_cons, List.lookup_cons] at h
    split at h
    · rename_i hb
      have e : b = a := by simpa using hb
      exact ⟨0, by rw [e]; rfl, by simpa using h⟩
    · obtain ⟨k, h1, h2⟩ := lookup_zip h
      exact ⟨k + 1, by simpa using h1, by simpa using h2⟩
theorem lookup_zip_none : ∀ {as : List Addr} {vs : List V} {b : Addr}, as.length = vs.length → (as.zip vs).lookup b = none → b ∉ as
  | [], _, _, _, _ => by simp
  | a :: as, [], _, hl, _ => by simp at hl
  | a :: as, v :: vs, b, hl, h => by
    rw [List.zip_cons_cons, List.lookup_cons] at h
    split at h
    · cases h
    · rename_i hb
      have hne : b ≠ a := by simpa using hb
      intro hm
      rcases List.mem_cons.mp hm with e | hm
      · exact hne e
      · exact lookup_zip_none (by simpa using hl) h hm
theorem celH_in {H : Hp} {as : List Addr} {vs : List V} {b : Addr} (hl : as.length = vs.length) (hb : b ∈ as) : ∃ (k : Nat) (v : V), as[k]? = some b ∧ vs[k]? = some v ∧ celH H as vs b = some (CelO b v) := by
  cases h : (as.zip vs).lookup b with
  | none => exact absurd hb (lookup_zip_none hl h)
  | some v =>
    obtain ⟨k, h1, h2⟩ := lookup_zip h
    exact ⟨k, v, h1, h2, by unfold celH; rw [h]⟩
theorem celH_out {H : Hp} {as : List Addr} {vs : List V} {b : Addr} (hb : b ∉ as) : celH H as vs b = H b := by
  unfold celH
  cases h : (as.zip vs).lookup b with
  | none => rfl
  | some v =>
    obtain ⟨k, h1, h2⟩ := lookup_zip h
    exact absurd (List.mem_of_getElem? h1) hb
theorem celH_keep {H : Hp} {as : List Addr} {vs : List V} {b : Addr} {o : HO} (hn : ∀ a ∈ as, H a = none) (h : H b = some o) : celH H as vs b = some o := by
  rw [celH_out (fun z => by rw [hn b z] at h; cases h), h]
theorem cel_ok {P : Program} {w : World} {H : Hp} {h : Heap} {a : Addr} {v : V} (hc : ∃ u, h.IsCell a (some u) ∧ RelV v u) : ObjOk P w H h a (CelO a v) := by
  refine ⟨hc, ?_, fun h1 h2 z k => ?_⟩
  · obtain ⟨u, ⟨o, ho, _⟩, _⟩ := hc
    exact ⟨o, ho⟩
  · obtain ⟨u, ⟨o, ho, hd⟩, r⟩ := z
    exact ⟨u, ⟨o, k o ho, hd⟩, r⟩
theorem HOk.celH {P : Program} {w : World} {H : Hp} {h : Heap} {as : List Addr} {vs : List V} (x : HOk P w H h) (hl : as.length = vs.length) (hn : ∀ a ∈ as, H a = none) (hc : ∀ (k : Nat) a v, as[k]? = some a → vs[k]? = some v → ∃ u, h.IsCell a (some u) ∧ RelV v u) :
    HOk P w (celH H as vs) h := fun b o e => by
  by_cases hb : b ∈ as
  · obtain ⟨k, v, h1, h2, h3⟩ := celH_in (H := H) hl hb
    rw [h3] at e; cases e
    exact cel_ok (hc k b v h1 h2)
  · rw [celH_out hb] at e
    exact (x b o e).stay (fun _ _ _ q => q) (fun c q => celH_keep hn q) fun c xs q => celH_keep hn q
theorem HOk.celOff {P : Program} {w : World} {H : Hp} {h : Heap} {as : List Addr} (x : HOk P w H h) (hc : ∀ a ∈ as, ∃ v, H a = some (CelO a v)) : HOk P w (celOff H as) h := fun b o e => by
  have up : ∀ c u, (∀ v, u ≠ CelO c v) → H c = some u → Kw.celOff H as c = some u := fun c u hu q => by
    unfold Kw.celOff
    rw [if_neg]
    · exact q
    · intro z
      obtain ⟨v, hv⟩ := hc c z
      rw [q] at hv
      exact hu v (Option.some.inj hv)
  have e' : H b = some o := by
    unfold Kw.celOff at e
    split at e
    · cases e
    · exact e
  exact (x b o e').stay (fun _ _ _ q => q) (fun c q => up c _ (fun v z => by unfold CelO at z; cases z) q) fun c xs q => up c _ (fun v z => by unfold CelO at z; cases z) q
mutual
def plainD : D → Bool
  | .non => true | .bl _ => true | .int _ => true | .str _ => true | .glo _ => true
  | .tup ds => plainL ds
  | .lst ds => plainL ds
  | .fls ds => plainL ds
  | .dic _ ds => plainL ds
  | .ins _ _ ds => plainL ds
  | _ => false
def plainL : List D → Bool
  | [] => true
  | d :: ds => plainD d && plainL ds
end
section
variable {K : PySem.W.Frag} {mg : Str → Option Value} {w w2 : Wd} {H H2 : Hp}
mutual
theorem Rp.plain (hk : ∀ a o, H a = some o → (∀ v, o ≠ CelO a v) → H2 a = some o) (ho : ∀ a o, H a = some o → w.Off a → w2.Off a) : ∀ (d : D) (v : V), plainD d = true → Rp K mg w H d v → Rp K mg w2 H2 d v
  | .non, _, _, h => by unfold Rp at h ⊢; exact h
  | .bl _, _, _, h => by unfold Rp at h ⊢; exact h
  | .int _, _, _, h => by unfold Rp at h ⊢; exact h
  | .str _, _, _, h => by unfold Rp at h ⊢; exact h
  | .glo _, _, _, h => by unfold Rp at h ⊢; exact h
  | .tup ds, v, b, h => by
    unfold Rp at h ⊢
    obtain ⟨a, xs, e1, t, r⟩ := h
    refine ⟨a, xs, e1, ?_, RpL.plain hk ho ds xs (by simpa [plainD] using b) r⟩
    rcases t with ⟨t, n⟩ | t
    · exact .inl ⟨hk a _ t (fun v z => by unfold CelO at z; cases z), ho a _ t n⟩
    · exact .inr t
  | .lst ds, v, b, h => by
    unfold Rp at h ⊢
    obtain ⟨a, xs, e1, t, n, r⟩ := h
    exact ⟨a, xs, e1, hk a _ t (fun v z => by unfold CelO at z; cases z), ho a _ t n, RpL.plain hk ho ds xs (by simpa [plainD] using b) r⟩
  | .fls ds, v, b, h => by
    unfold Rp at h ⊢
    obtain ⟨a, xs, e1, t, r⟩ := h
    refine ⟨a, xs, e1, ?_, RpL.plain hk ho ds xs (by simpa [plainD] using b) r⟩
    rcases t with ⟨o, t, n⟩ | t
    · exact .inl ⟨o, hk a _ t (fun v z => by unfold CelO at z; cases z), ho a _ t n⟩
    · exact .inr t
  | .dic ks ds, v, b, h => by
    unfold Rp at h ⊢
    obtain ⟨a, vs, e1, t, n, l, r⟩ := h
    exact ⟨a, vs, e1, hk a _ t (fun v z => by unfold CelO at z; cases z), ho a _ t n, l, RpL.plain hk ho ds vs (by simpa [plainD] using b) r⟩
  | .ins c fs ds, v, b, h => by
    unfold Rp at h ⊢
    obtain ⟨a, C, dx, vs, e1, m, t, n, l, r⟩ := h
    exact ⟨a, C, dx, vs, e1, m, hk a _ t (fun v z => by unfold CelO at z; cases z), ho a _ t n, l, RpL.plain hk ho ds vs (by simpa [plainD] using b) r⟩
  | .loc _, _, b, _ => by simp [plainD] at b
  | .exn _, _, b, _ => by simp [plainD] at b
  | .exo _ _ _, _, b, _ => by simp [plainD] at b
  | .lam _ _ _, _, b, _ => by simp [plainD] at b
  | .clo _ _ _ _ _, _, b, _ => by simp [plainD] at b
theorem RpL.plain (hk : ∀ a o, H a = some o → (∀ v, o ≠ CelO a v) → H2 a = some o) (ho : ∀ a o, H a = some o → w.Off a → w2.Off a) : ∀ (ds : List D) (vs : List V), plainL ds = true → RpL K mg w H ds vs → RpL K mg w2 H2 ds vs
  | [], _, _, h => by unfold RpL at h ⊢; exact h
  | d :: ds, vs, b, h => by
    unfold RpL at h ⊢
    obtain ⟨v, r, e1, h1, h2⟩ := h
    have b' : plainD d = true ∧ plainL ds = true := by simpa [plainL] using b
    exact ⟨v, r, e1, Rp.plain hk ho d v b'.1 h1, RpL.plain hk ho ds r b'.2 h2⟩
end
end
theorem cells_ge : ∀ (names : List (Str × NameKind)) (n : Nat) (acc : List (Str × Addr)), acc.Pairwise (fun x y => x.2 ≠ y.2) → (∀ p ∈ acc, p.2 < n) → (cellsFrom n names acc).Pairwise fun x y => x.2 ≠ y.2
  | [], _, _, h, _ => h
  | (x, k) :: r, n, acc, h, hn => by
    unfold cellsFrom
    split
    · refine cells_ge r (n + 1) _ (List.pairwise_cons.mpr ⟨fun p hp => ?_, h⟩) fun p hp => ?_
      · exact Nat.ne_of_gt (hn p hp)
      · rcases List.mem_cons.mp hp with e | hp
        · rw [e]; exact Nat.lt_succ_self n
        · exact Nat.lt_succ_of_lt (hn p hp)
    · exact cells_ge r n acc h hn
theorem cells_inj {names : List (Str × NameKind)} {n : Nat} {x y : Str} {c : Addr} (h1 : (cellsFrom n names []).lookup x = some c) (h2 : (cellsFrom n names []).lookup y = some c) : x = y :=
  name_of_addr (cells_ge names n [] .nil (fun p hp => by simp at hp)) (PySem.mem_of_lookup h1) (PySem.mem_of_lookup h2)
/-- the cells of the variables xs in a frame that stands at L -/
def celAs (names : List (Str × NameKind)) (xs : List Str) (L : Addr) : List Addr := xs.map fun x => ((cellsFrom (L + 1) names []).lookup x).getD 0
theorem celAs_at {sc : Scope} {xs : List Str} {L : Addr} {k : Nat} {a : Addr} (hc : ∀ x ∈ xs, sc.names.lookup x = some .cell) (h : (celAs sc.names xs L)[k]? = some a) : ∃ x, xs[k]? = some x ∧ (cellsFrom (L + 1) sc.names []).lookup x = some a := by
  unfold celAs at h
  rw [List.getElem?_map] at h
  cases e : xs[k]? with
  | none => rw [e] at h; cases h
  | some x =>
    rw [e] at h
    obtain ⟨c, hcc⟩ := cell_has (n := L + 1) (hc x (List.mem_of_getElem? e))
    refine ⟨x, rfl, ?_⟩
    have : c = a := by simpa [hcc] using h
    rw [← this]; exact hcc
theorem celAs_of {names : List (Str × NameKind)} {xs : List Str} {L : Addr} {k : Nat} {x : Str} {a : Addr} (h : xs[k]? = some x) (hc : (cellsFrom (L + 1) names []).lookup x = some a) : (celAs names xs L)[k]? = some a := by
  unfold celAs
  rw [List.getElem?_map, h]
  simp [hc]
end Kw
namespace Kw
open PySem PySem.Spec PySem.Calls PyProof.Rows L2
def cloOb (sc : Scope) (x : Str) (body : Expr) (scope : Scope) : Addr → Ob := fun L c' pm ctv => PySem.W.kla_obj "<lambda>" (tabQ x) noPar body scope (cloFrom (cellsFrom (L + 1) sc.names []) scope.names []) pm c' ctv
structure LC where
  ob : Addr → Ob
  as : Addr → List Addr
  n : Nat
  m : Nat
  tb : FE
/-- a lambda of the def x (its scope sc, its names N), that captures of the first m names only -/
def LamC [Wo] (P : Program) (w : World) (K : PySem.W.Frag) (mg : Str → Option Value) (base : Heap) (k : Nat) (q : Str) (t : LC) : Prop := ∃ (N : List Str) (x : Str) (sc : Scope) (body : Expr) (scope : Scope),
  q = tabQ x ∧ N.length = t.n ∧ t.ob = cloOb sc x body scope ∧ t.as = celAs sc.names (N.take t.m) ∧ LamX.LamS sc scope ∧ N.Nodup ∧ (∀ y ∈ scope.names, y.2 = .free → y.1 ∈ N.take t.m) ∧ (∀ y ∈ N.take t.m, sc.names.lookup y = some .cell) ∧ t.m ≤ N.length ∧
  (∀ (cl : List (Str × Addr)) (pm cv ctv : Value), bindArgs (PySem.W.kla_fn "<lambda>" (tabQ x) noPar body scope cl pm cv ctv) ⟨[], []⟩ = pure []) ∧
  ∀ (f0 : Addr) (cd0 : Value) (A0 : Around) (outer0 : List Env) (s0 : Shared) (H0 : Hp) (E0 : XK) (A : Around) (outer : List Env) (s : Shared) (H : Hp) (E : XK) (f c' : Addr), RoomG k (LamX.lamCx (cxOf (L2.CX P w) P w K mg base N x sc f0 cd0 A0 outer0 s0 H0 E0) A outer s H E scope f c').A →
    Takes (LamX.lamCx (cxOf (L2.CX P w) P w K mg base N x sc f0 cd0 A0 outer0 s0 H0 E0) A outer s H E scope f c') (fun c d _ H => E c d H) →
    PE (LamX.lamCx (cxOf (L2.CX P w) P w K mg base N x sc f0 cd0 A0 outer0 s0 H0 E0) A outer s H E scope f c') body (tF (LamX.lamCx (cxOf (L2.CX P w) P w K mg base N x sc f0 cd0 A0 outer0 s0 H0 E0) A outer s H E scope f c') (fun c d _ H => E c d H) t.tb)
/-- a store that leans on no variable's cell -/
def plainS (S : Store) : Bool := S.all fun c => match c with
  | .lst ds => plainL ds
  | .frz ds => plainL ds
  | .dead => true
  | .tab _ => true
  | .sys => true
  | _ => false
theorem Sto.plain [Wo] {K : PySem.W.Frag} {mg : Str → Option Value} {w : Wd} {S : Store} {H H2 : Hp} (s : Sto K mg w S H) (hp : plainS S = true) (hk : ∀ a o, H a = some o → (∀ v, o ≠ CelO a v) → H2 a = some o)
    (hw : ∀ a, some a ∈ w.φ → H2 a = H a) (hd : ∀ a, a ∈ w.hd → H2 a = H a) (hc : ∀ c q, H c = some (LamX.CodeO c q) → H2 c = some (LamX.CodeO c q)) : Sto K mg w S H2 := by
  refine ⟨s.len, s.nd, fun a ha => ⟨by rw [hd a ha]; exact (s.ap a ha).1, (s.ap a ha).2⟩, fun n c q => ?_⟩
  have h := s.cell n c q
  have hp' := List.all_eq_true.mp hp c (List.mem_of_getElem? q)
  unfold CellR at h ⊢
  split at h
  · obtain ⟨b, xs, h2, h3, h4⟩ := h
    exact ⟨b, xs, h2, by rw [hw b (List.mem_of_getElem? h2)]; exact h3, RpL.plain hk (fun _ _ _ z => z) _ _ hp' h4⟩
  · obtain ⟨b, xs, o, h2, h3, h4⟩ := h
    exact ⟨b, xs, o, h2, by rw [hw b (List.mem_of_getElem? h2)]; exact h3, RpL.plain hk (fun _ _ _ z => z) _ _ hp' h4⟩
  · exact h
  · obtain ⟨c0, P, ht, h2, ps, h3, h4, h5⟩ := h
    refine ⟨c0, P, ht, h2, ps, by rw [hw P (List.mem_of_getElem? h2)]; exact h3, h4, fun pos cv z => ?_⟩
    obtain ⟨c, e1, e2, e3⟩ := h5 pos cv z
    exact ⟨c, e1, hc _ _ e2, e3⟩
  · obtain ⟨h1, h2, h3, ⟨φ, h4, h6⟩, h5⟩ := h
    exact ⟨h1, h2, h3, ⟨φ, by rw [hd _ h2]; exact h4, h6⟩, h5⟩
  all_goals simp at hp'
open Classical in
/-- asks the lambda that was handed in -/
noncomputable def fActC (q : Str) (tbs : List LC) : FE := fun ρ S => match ρ[0]? with
  | some (some (Kw.D.clo i q' ob as ds)) => (match tbs[i]? with
    | some t => if q' = q ∧ ob = t.ob ∧ as = t.as ∧ ds.length = t.m ∧ plainL ds = true ∧ plainS S = true then (match t.tb (ds.map some ++ List.replicate (t.n - ds.length) none) S with
      | .ex x S' => if x.ns = [] ∧ x.ds = [] then .ex x S' else .no
      | _ => .no) else .no
    | none => .no)
  | _ => .no
section
variable {P : Program} {w : World} {K : PySem.W.Frag} {mg : Str → Option Value} {base : Heap}
/-- the body's entry -/
theorem clo_start {N : List Str} {x : Str} {sc : Scope} {m : Nat} {L : Addr} {f0 : Addr} {cd0 : Value} {A0 : Around} {outer0 : List Env} {s0 : Shared} {H0 : Hp} {E0 : XK} {A : Around} {outer : List Env} {s1 : Shared} {HZ : Hp} {E : XK} {scope : Scope} {f c' : Addr} {h₁ : Heap} {tk : Nat} {vs : List V}
    (hL : s0.heap.objs.size = L) (LS : LamX.LamS sc scope) (hNd : N.Nodup) (hfree : ∀ y ∈ scope.names, y.2 = .free → y.1 ∈ N.take m) (hcell : ∀ y ∈ N.take m, sc.names.lookup y = some .cell) (hm : m ≤ N.length) (hl : vs.length = m)
    (e0 : Env0 P w K mg base A outer s1 HZ) (hd : A.handled = none) (hns : h₁.Ns s1.heap.objs.size fun y => ([] : List (Str × Value)).reverse.lookup y) (kp : ∀ b o, s1.heap.get? b = some o → h₁.get? b = some o)
    (hoff : ∀ a ∈ celAs sc.names (N.take m) L, HZ a = none) (hc : ∀ (k : Nat) a v, (celAs sc.names (N.take m) L)[k]? = some a → vs[k]? = some v → ∃ u, s1.heap.IsCell a (some u) ∧ RelV v u) :
    Inv (LamX.lamCx (cxOf (L2.CX P w) P w K mg base N x sc f0 cd0 A0 outer0 s0 H0 E0) A outer s1 HZ E scope f c') [] (L2.start N vs) HZ { s1 with heap := h₁, toks := tk } := by
  subst hL
  have hhas : ∀ y ∈ scope.names, y.2 = .free → ∃ (k : Nat) (c : Addr), (N.take m)[k]? = some y.1 ∧ (cellsFrom (s0.heap.objs.size + 1) sc.names []).lookup y.1 = some c ∧ (celAs sc.names (N.take m) s0.heap.objs.size)[k]? = some c := fun y hy e => by
    have h1 := hfree y hy e
    obtain ⟨k, hk⟩ := List.mem_iff_getElem?.mp h1
    obtain ⟨c, hcc⟩ := cell_has (n := s0.heap.objs.size + 1) (hcell _ h1)
    exact ⟨k, c, hk, hcc, celAs_of hk hcc⟩
  have cm : ∀ {y c}, (cloFrom (cellsFrom (s0.heap.objs.size + 1) sc.names []) scope.names []).lookup y = some c → (y, NameKind.free) ∈ scope.names ∧ (cellsFrom (s0.heap.objs.size + 1) sc.names []).lookup y = some c := fun {y c} e => by
    rcases cloFrom_mem (PySem.mem_of_lookup e) with hm | ⟨h1, h2⟩
    · cases hm
    · obtain ⟨k, c1, _, hc1, _⟩ := hhas _ h1 rfl
      have hc1 : (cellsFrom (s0.heap.objs.size + 1) sc.names []).lookup y = some c1 := hc1
      have e2 : c = c1 := by rw [h2, hc1]; rfl
      rw [e2]
      exact ⟨h1, hc1⟩
  have look : ∀ {y}, scope.names.lookup y = some .free → ∃ c, (cloFrom (cellsFrom (s0.heap.objs.size + 1) sc.names []) scope.names []).lookup y = some c := fun {y} hl => by
    have hy : (y, NameKind.free) ∈ scope.names := PySem.mem_of_lookup hl
    exact mem_lookup (cloFrom_has (cells := cellsFrom (s0.heap.objs.size + 1) sc.names []) (acc := []) hy)
  have cellK : ∀ {c : Addr} {v : Option Value}, s1.heap.IsCell c v → h₁.IsCell c v := fun {c v} ⟨o, ho, hd⟩ => ⟨o, kp _ _ ho, hd⟩
  have vlen : (N.take m).length = vs.length := by rw [List.length_take, hl]; omega
  have cellAt : ∀ {y c}, (cloFrom (cellsFrom (s0.heap.objs.size + 1) sc.names []) scope.names []).lookup y = some c → ∃ (k : Nat) (v : V) (u : Value), (N.take m)[k]? = some y ∧ vs[k]? = some v ∧ h₁.IsCell c (some u) ∧ RelV v u ∧ c ∈ celAs sc.names (N.take m) s0.heap.objs.size := fun {y c} e => by
    obtain ⟨h1, h2⟩ := cm e
    obtain ⟨k, c1, hk, hc1, hk2⟩ := hhas _ h1 rfl
    have hc1 : (cellsFrom (s0.heap.objs.size + 1) sc.names []).lookup y = some c1 := hc1
    rw [h2] at hc1; cases hc1
    have hkl : k < vs.length := by
      rw [← vlen]
      exact (List.getElem?_eq_some_iff.mp hk).1
    obtain ⟨u, hu, r⟩ := hc k c _ hk2 (List.getElem?_eq_getElem hkl)
    exact ⟨k, _, u, hk, List.getElem?_eq_getElem hkl, cellK hu, r, List.mem_of_getElem? hk2⟩
  have noA : ∀ b : Addr, b ∉ (LamX.lamCx (cxOf (L2.CX P w) P w K mg base N x sc f0 cd0 A0 outer0 s0 H0 E0) A outer s1 HZ E scope f c').ex := fun b z => absurd (show b ∈ ([] : List Addr) from z) (by simp)
  refine ⟨⟨e0.mod, LS.kind, rfl, rfl, Nat.le_refl _, fun y z c e1 e2 => cells_inj (cm e1).2 (cm e2).2, fun y hy => ?_, fun y c z _ => ?_, fun _ => hd, Around.frames_deeper e0.frames, .inr ⟨rfl, rfl⟩, fun b z => absurd z (noA b), e0.bs, e0.bsz, fun b _ _ => noA b,
      fun b z => absurd z (noA b), e0.funs, e0.frf⟩,
    rfl, e0.bare, Un.kept kp, ⟨_, hns, fun i y v e1 e2 e3 => ?_⟩, fun y c e => ?_, e0.hok.fresh (Nat.le_refl _), fun y c e => ?_, fun q hq => absurd (show q ∈ ([] : List (Addr × Obj)) ++ [] from hq) (by simp), e0.hok.kept kp, ?_⟩
  · have hy : scope.names.lookup y = some .cell ∨ scope.names.lookup y = some .free := hy
    rcases hy with hy | hy
    · exact absurd rfl (LS.own _ (PySem.mem_of_lookup hy)).2
    · exact look hy
  · have z : false = true := z
    cases z
  · have e3 : Vis scope y := e3
    rcases e3 with k | k | k
    · exact absurd rfl (LS.own _ (PySem.mem_of_lookup k)).1
    · exact absurd rfl (LS.own _ (PySem.mem_of_lookup k)).2
    · obtain ⟨c2, h2⟩ := look k
      obtain ⟨j, v', u, hj, hv', hu, r, _⟩ := cellAt h2
      have hi : i < vs.length := by
        unfold L2.start at e2
        by_cases hi : i < vs.length
        · exact hi
        · rw [List.getElem?_append_right (by simpa using hi), List.getElem?_replicate] at e2
          split at e2 <;> cases e2
      have ha : vs[i]? = some v := by
        unfold L2.start at e2
        rw [List.getElem?_append_left (by simpa using hi), List.getElem?_map] at e2
        cases e : vs[i]? with
        | none => rw [e] at e2; cases e2
        | some a => rw [e] at e2; cases e2; rfl
      have hij : i = j := by
        have q1 : N[i]? = some y := e1
        have q2 : N[j]? = some y := by
          rw [List.getElem?_take] at hj
          split at hj
          · exact hj
          · cases hj
        exact (List.getElem?_inj (List.getElem?_eq_some_iff.mp q1).1 hNd).mp (q1.trans q2.symm)
      subst hij
      rw [ha] at hv'; cases hv'
      exact ⟨u, r, .inr ⟨.inr k, c2, h2, hu⟩⟩
  · obtain ⟨_, _, u, _, _, hu, _, _⟩ := cellAt e
    exact ⟨_, hu⟩
  · obtain ⟨_, _, u, _, _, _, _, hin⟩ := cellAt e
    exact hoff c hin
  · unfold L2.start
    show _ = N.length
    rw [List.length_append, List.length_map, List.length_replicate]
    omega
end
section
variable {X : Cx} {W : WX}
theorem act_peC [Wo] {k : Nat} {a q : Str} {tbs : List LC} {p1 p2 : Pos} (hL : ∀ t ∈ tbs, LamC X.prog X.w X.K X.mg X.base k q t) (tk : Takes X W) (hr : RoomG (k + 1) X.A)
    (hN : X.N[0]? = some a) (hv : Vis X.env.scope a) (hd : (a == ("__debug__" : Str)) = false := by decide) (hcd : (a == ("__classdict__" : Str)) = false := by decide) :
    PE X (.Call (.Name a p1) [] [] p2) (tF X W (fActC q tbs)) := by
  refine ⟨fun pinsZ sZ σZ HZ Q IZ h => ?_⟩
  obtain ⟨w, ρ, S, st0, en, hE⟩ := h
  unfold fActC at hE
  split at hE
  case h_2 => exact hE.elim
  rename_i i q' ob as ds hρ
  split at hE
  case h_2 => exact hE.elim
  rename_i t hi
  split at hE
  case isFalse => exact hE.elim
  rename_i hk
  obtain ⟨eq, eo, ea, elen, hpl, hpS⟩ := hk
  subst eq eo ea
  split at hE
  case h_2 => exact hE.elim
  rename_i xx SX htb
  split at hE
  case isFalse => exact hE.elim
  rename_i hx
  obtain ⟨v0, hs, hv0⟩ := en.at_ 0 _ hρ
  unfold Rp at hv0
  obtain ⟨f', c', pm, ctv, L, vs, ev0, hf0, off0, hc0, offc, ⟨hcl, hcs⟩, rds⟩ := hv0
  subst ev0
  obtain ⟨N, x, sc, body, scope, eq, hNl, eo, ea, LS, hNd, hfree, hcell, hmN, hbind, hbody⟩ := hL t (List.mem_of_getElem? hi)
  rw [eo] at hf0
  rw [ea] at hcs hcl
  subst eq
  refine wpAny_Call_Name_kw (thn ((pe_var (pos := p1) (i := 0) hN hv hd hcd).run pinsZ sZ σZ HZ (fun v H1 => v = .ref f' ∧ H1 = HZ) IZ ⟨.ref f', hs, rfl, rfl⟩) fun u s1 ⟨v, H1, I1, r1, q1⟩ => ?_)
  obtain ⟨ev, eH⟩ := q1
  subst ev
  rw [eH] at I1
  obtain rfl : u = Value.ref f' := r1
  have of1 : s1.heap.get? f' = some (PySem.W.kla_obj "<lambda>" (tabQ x) noPar body scope (cloFrom (cellsFrom (L + 1) sc.names []) scope.names []) pm c' ctv) := (show _ ∧ _ from I1.hok f' _ hf0).1
  refine PySem.W.callWith_F0 ⟨_, _, _, _, of1⟩ ?_
  obtain ⟨⟨oc, cvs, tt, hoc, hdc, hvc⟩, _, _⟩ := I1.hok c' _ hc0
  have hvl : vs.length = t.m := by rw [← rds.length]; exact elen
  have cin : ∀ b ∈ celAs sc.names (N.take t.m) L, ∃ v, HZ b = some (CelO b v) := fun b hb => by
    obtain ⟨j, hj⟩ := List.mem_iff_getElem?.mp hb
    have hjl : j < vs.length := by
      rw [← hcl]; exact (List.getElem?_eq_some_iff.mp hj).1
    exact ⟨_, (hcs j b _ hj (List.getElem?_eq_getElem hjl)).1⟩
  have ccell : ∀ (j : Nat) b v, (celAs sc.names (N.take t.m) L)[j]? = some b → vs[j]? = some v → ∃ u, s1.heap.IsCell b (some u) ∧ RelV v u := fun j b v h1 h2 => (show _ ∧ _ from I1.hok b _ (hcs j b v h1 h2).1).1
  -- the heap without them
  obtain ⟨HM, hHM⟩ : ∃ HM, HM = celOff HZ (celAs sc.names (N.take t.m) L) := ⟨_, rfl⟩
  have mIn : ∀ b ∈ celAs sc.names (N.take t.m) L, HM b = none := fun b hb => by rw [hHM]; unfold celOff; rw [if_pos hb]
  have mOut : ∀ b, b ∉ celAs sc.names (N.take t.m) L → HM b = HZ b := fun b hb => by rw [hHM]; unfold celOff; rw [if_neg hb]
  have mUp : ∀ b o, HZ b = some o → (∀ v, o ≠ CelO b v) → HM b = some o := fun b o e hne => by
    rw [mOut b]
    · exact e
    · intro z
      obtain ⟨v, hv⟩ := cin b z
      rw [e] at hv
      exact hne v (Option.some.inj hv)
  have mNone : ∀ b, HZ b = none → HM b = none := fun b e => by
    by_cases hb : b ∈ celAs sc.names (N.take t.m) L
    · exact mIn b hb
    · rw [mOut b hb]; exact e
  have e1 := I1.env0
  have e2 : Env0 X.prog X.w X.K X.mg X.base X.A X.stack s1 HM := ⟨e1.frames, e1.mod, fun b o z => ⟨(e1.bs b o z).1, mNone b (e1.bs b o z).2⟩, e1.bsz, e1.funs, fun b hb => mNone b (e1.frf b hb), by rw [hHM]; exact HOk.celOff e1.hok cin, e1.bare⟩
  have rc : codeAny (model X.prog X.w) X.A (.call (.ref f') ⟨[], []⟩) (CR (L2.CX X.prog X.w) X.stack X.prog X.w HZ s1 Q (WE W σZ)) s1 := by
    have rc0 : codeAny (model X.prog X.w) X.A (.call (.ref f') ⟨[], []⟩) (CR (L2.CX X.prog X.w) X.stack X.prog X.w HM s1 (fun _ _ => False) (fun c d H' => (∀ b ∈ celAs sc.names (N.take t.m) L, H' b = none) → WE W σZ c d (celH H' (celAs sc.names (N.take t.m) L) vs))) s1 := by
      refine PySem.W.kla_callFunE hr.rm.depth of1 rfl LS.co LS.gen rfl ⟨c', oc, cvs, tt, rfl, hoc, hdc, hvc⟩ ?_
      rw [hbind]
      refine wpAny_pure (wpAny_newFunctionEnv (fun y hy => (LS.own y hy).2) (fun y hy => absurd hy (by simp)) (fun h₁ hns hsb => ⟨I1.nolimit.fresh _ hsb, ?_⟩) LS.kind)
      have kp : ∀ b o, s1.heap.get? b = some o → h₁.get? b = some o := fun b o e => hsb.extBut b o (Nat.ne_of_lt (Heap.lt_size e)) (Heap.get?_push_of_some _ e)
      obtain ⟨s0, hs0⟩ : ∃ s0 : Shared, s0.heap.objs.size = L := ⟨{ s1 with heap := { s1.heap with objs := Array.replicate L default } }, by simp⟩
      have JJ := clo_start (P := X.prog) (w := X.w) (x := x) (f0 := 0) (cd0 := .none) (A0 := X.A) (outer0 := []) (H0 := HM) (E0 := fun _ _ _ => False) (E := fun c d H' => (∀ b ∈ celAs sc.names (N.take t.m) L, H' b = none) → WE W σZ c d (celH H' (celAs sc.names (N.take t.m) L) vs)) (f := f') (c' := c') (tk := s1.toks + ([] : List (Str × Value)).length) hs0 LS hNd hfree hcell hmN hvl e2 hr.rm.hd hns kp mIn ccell
      subst hs0
      show codeAny _ _ (.expr body (LamX.lamEnv (cxOf (L2.CX X.prog X.w) X.prog X.w X.K X.mg X.base N x sc 0 .none X.A [] s0 HM (fun _ _ _ => False)) scope s1.heap.objs.size f' c')) _ _
      have rp0 : RpL X.K X.mg w HM ds vs := RpL.plain mUp (fun _ _ _ z => z) ds vs hpl rds
      have noAs : ∀ b, b ∈ celAs sc.names (N.take t.m) s0.heap.objs.size → w.Off b := fun b hb => by
        obtain ⟨j, hj⟩ := List.mem_iff_getElem?.mp hb
        have hjl : j < vs.length := by
          rw [← hcl]; exact (List.getElem?_eq_some_iff.mp hj).1
        exact (hcs j b _ hj (List.getElem?_eq_getElem hjl)).2
      have sto0 : Sto X.K X.mg w S HM := Sto.plain st0 hpS mUp (fun a ha => mOut a fun z => (noAs a z).1 ha) (fun a ha => mOut a fun z => (noAs a z).2 ha) (fun c q hcq => by
        rw [mOut c]
        · exact hcq
        · intro z
          obtain ⟨v, hv⟩ := cin c z
          obtain ⟨u, ⟨o, ho, hdo⟩, _⟩ := (show _ ∧ _ from I1.hok c _ hv).1
          obtain ⟨⟨oc2, vs2, t2, g1, g2, g3⟩, _, _⟩ := I1.hok c _ hcq
          rw [ho] at g1; cases g1
          rw [hdo] at g2; cases g2)
      refine PySem.W.kla_codeExpr (wpAny_mono ((hbody 0 .none X.A [] s0 HM (fun _ _ _ => False) _ _ s1 HM _ f' c' (hr.down _) (takes_of rfl rfl rfl rfl)).run [] _ _ HM (fun _ _ => False) JJ ⟨w, _, S, sto0, envStart (N := N) rp0, ?_⟩) (fun v s' hq => ?_) fun e s' hq => hq)
      · rw [hNl, htb]
        intro w' H' c od e1 st1 ex1 hno
        have kp' : ∀ b o, H' b = some o → celH H' (celAs sc.names (N.take t.m) s0.heap.objs.size) vs b = some o := fun b o z => celH_keep hno z
        have xO : Ext w HZ w' (celH H' (celAs sc.names (N.take t.m) s0.heap.objs.size) vs) := ⟨fun b o z hb => by
            by_cases hm : b ∈ celAs sc.names (N.take t.m) s0.heap.objs.size
            · obtain ⟨j, v, h1, h2, h3⟩ := celH_in (H := H') hcl hm
              have h4 := (hcs j b v h1 h2).1
              rw [z] at h4
              rw [h3, h4]
            · exact kp' b o (e1.fr b o (by rw [mOut b hm]; exact z) hb), e1.ln, e1.ph, fun b hb => by
            rcases e1.nw b hb with z | z
            · exact .inl z
            · by_cases hm : b ∈ celAs sc.names (N.take t.m) s0.heap.objs.size
              · exact absurd (hno b hm) (st1.tracked hb)
              · rw [mOut b hm] at z; exact .inr z, e1.hd⟩
        have xI : Ext w' H' w' (celH H' (celAs sc.names (N.take t.m) s0.heap.objs.size) vs) := ⟨fun b o z _ => kp' b o z, Nat.le_refl _, fun _ _ z _ => z, fun _ z => .inl z, rfl⟩
        have kNe : ∀ b, H' b ≠ none → celH H' (celAs sc.names (N.take t.m) s0.heap.objs.size) vs b = H' b := fun b hb => by
          cases h2 : H' b with
          | none => exact absurd h2 hb
          | some o => exact kp' b o h2
        refine hE w' (celH H' (celAs sc.names (N.take t.m) s0.heap.objs.size) vs) c od xO ⟨st1.len, st1.nd, fun b z => ⟨by rw [kNe b (st1.ap b z).1]; exact (st1.ap b z).1, (st1.ap b z).2⟩, fun n cc z => CellR.ext xI (fun b hbb => ⟨hbb, kNe b (st1.tracked (List.mem_of_getElem? hbb))⟩) id (st1.cell n cc z)⟩ ⟨ex1.1, .inl ⟨hx.1, hx.2, ?_⟩⟩
        rcases ex1.2 with z | ⟨d, vs', z, _⟩
        · exact z.2.2
        · exact absurd hx.1 z
      · obtain ⟨w', H', J', rv, q⟩ := hq
        exact q.elim
    refine codeAny_mono rc0 fun r s' hq => ?_
    cases r with
    | error e =>
      obtain ⟨ea, B, H', cls, d, eu, fl, ok, ub, hn, os, bare, hW⟩ := hq
      have hInB : ∀ b ∈ celAs sc.names (N.take t.m) L, ∃ o, s1.heap.get? b = some o ∧ B.get? b = some o := fun b hb => by
        obtain ⟨v, hv⟩ := cin b hb
        obtain ⟨u, ⟨o, ho, hdo⟩, _⟩ := (show _ ∧ _ from I1.hok b _ hv).1
        refine ⟨o, ho, ub.keep b o ho (mIn b hb) fun z => ?_⟩
        rw [e1.frf b z] at hv; cases hv
      have hInN : ∀ b ∈ celAs sc.names (N.take t.m) L, H' b = none := fun b hb => by
        obtain ⟨o, ho, _⟩ := hInB b hb
        exact ub.free b o ho (mIn b hb)
      have hck : ∀ b o, HM b = some o → H' b = some o → celH H' (celAs sc.names (N.take t.m) L) vs b = some o := fun b o _ z => celH_keep hInN z
      refine ⟨ea, B, celH H' (celAs sc.names (N.take t.m) L) vs, cls, d, eu, fl, HOk.celH ok hcl hInN (fun j b v h1 h2 => ?_), ⟨fun b o z1 z2 z3 => ub.keep b o z1 (mNone b z2) z3, ub.slot, fun b o z1 z2 => ?_, ub.there, fun b xs z => celH_keep hInN (ub.tups b xs (mUp b _ z fun v q => by unfold CelO at q; cases q)), fun b o xs z => celH_keep hInN (ub.frzs b o xs (mUp b _ z fun v q => by unfold CelO at q; cases q)), fun b ps z => ?_⟩, ?_, os, bare, hW hInN⟩
      · obtain ⟨u, ⟨o, ho, hdo⟩, r⟩ := ccell j b v h1 h2
        obtain ⟨o', ho', hB⟩ := hInB b (List.mem_of_getElem? h1)
        rw [ho] at ho'; cases ho'
        exact ⟨u, ⟨o, hB, hdo⟩, r⟩
      · rw [celH_out]
        · exact ub.free b o z1 (mNone b z2)
        · intro z
          obtain ⟨v, hv⟩ := cin b z
          rw [z2] at hv; cases hv
      · obtain ⟨more, z'⟩ := ub.tbls b ps (mUp b _ z fun v q => by unfold CelO at q; cases q)
        exact ⟨more, celH_keep hInN z'⟩
      · rw [celH_out]
        · exact hn
        · intro z
          obtain ⟨o, _, hB⟩ := hInB _ z
          rw [fl.2.1] at hB; cases hB
    | ok fl =>
      cases fl with
      | ret u =>
        obtain ⟨v, H', _, _, _, _, _, q⟩ := hq
        exact q.elim
      | next => exact False.elim hq
      | brk => exact False.elim hq
      | cont => exact False.elim hq
  refine wpAny_call (codeAny_mono rc fun r s' hq => ?_)
  cases r with
  | error e => exact passAt tk σZ pinsZ HZ s1 e s' I1 hq
  | ok fl =>
    cases fl with
    | ret u => exact I1.after hq
    | next => exact False.elim hq
    | brk => exact False.elim hq
    | cont => exact False.elim hq
end
end Kw
namespace Kw
open PySem PySem.Spec PySem.Calls PyProof.Rows L2
abbrev RL := Option (D × FEnv × Store)
abbrev FL := FEnv → Store → RL
def sSeqL (a : FS) (b : FL) : FL := fun ρ S => match a ρ S with
  | .nx ρ' S' => b ρ' S'
  | _ => none
def sRetL (i : Nat) : FL := fun ρ S => match ρ[i]? with
  | some (some d) => some (d, ρ, S)
  | _ => none
abbrev TSL := (V → L2.St → Hp → Prop) → L2.St → Hp → Prop
/-- the end of a body that hands a value back, its names' values told -/
def SPL (X : Cx) (pins : List (Addr × Obj)) (Q : V → L2.St → Hp → Prop) (f : Flow) (s' : Shared) : Prop := match f with
  | .ret u => ∃ v σ' H', Inv X pins σ' H' s' ∧ RelV v u ∧ Q v σ' H'
  | _ => False
structure PSL (X : Cx) (sts : List Stmt) (t : TSL) : Prop where
  run : ∀ (pins : List (Addr × Obj)) (s : Shared) (σ : L2.St) (H : Hp) (Q : V → L2.St → Hp → Prop), Inv X pins σ H s → t Q σ H → wpAny (model X.prog X.w) X.A (execs sts X.env) (SPL X pins Q) X.xe s
def EndL [Wo] (K : PySem.W.Frag) (mg : Str → Option Value) (w : Wd) (H : Hp) (r : RL) (Q : V → L2.St → Hp → Prop) : Prop := match r with
  | some (d, ρ', S') => ∀ w' H' v σ', Ext w H w' H' → Sto K mg w' S' H' → EnvR K mg w' H' ρ' σ' → Rp K mg w' H' d v → Q v σ' H'
  | none => False
def tL [Wo] (X : Cx) (f : FL) : TSL := fun Q σ H => ∃ w ρ S, Sto X.K X.mg w S H ∧ EnvR X.K X.mg w H ρ σ ∧ EndL X.K X.mg w H (f ρ S) Q
section
variable {X : Cx} {W : WX} {st : Stmt} {rest : List Stmt} {a : FS} {b : FL}
theorem EndL.on [Wo] {K : PySem.W.Frag} {mg : Str → Option Value} {w w1 : Wd} {H H1 : Hp} {r : RL} {Q : V → L2.St → Hp → Prop} (x : Ext w H w1 H1) (h : EndL K mg w H r Q) : EndL K mg w1 H1 r Q := by
  unfold EndL at h ⊢
  split
  · exact fun w' H' v σ' e => h w' H' v σ' (x.trans e)
  · exact h
theorem q_seqL [Wo] (h1 : PS X st (tS X W a)) (h2 : PSL X rest (tL X b)) : PSL X (st :: rest) (tL X (sSeqL a b)) := by
  refine ⟨fun pins s σ H Q I ⟨w, ρ, S, s0, en, h⟩ => ?_⟩
  refine wpAny_execs_cons (thn (h1.run pins s σ H { nx := fun σ' H' => tL X b Q σ' H', rt := fun _ _ => False } I ⟨w, ρ, S, s0, en, ?_⟩) fun f s1 q => ?_)
  · unfold sSeqL at h
    cases e : a ρ S with
    | nx ρ' S' =>
      rw [e] at h
      exact fun w' H' σ' x s' en' => ⟨w', ρ', S', s', en', EndL.on x h⟩
    | rt d S' => rw [e] at h; exact h.elim
    | bk ρ' S' => rw [e] at h; exact h.elim
    | ct ρ' S' => rw [e] at h; exact h.elim
    | ex x ρ' S' => rw [e] at h; exact h.elim
    | no => rw [e] at h; exact h.elim
  · cases f with
    | next =>
      obtain ⟨σ', H', I', q⟩ := q
      exact h2.run pins s1 σ' H' Q I' q
    | ret v => obtain ⟨_, _, _, _, _, q⟩ := q; exact q.elim
    | brk => obtain ⟨_, _, _, q⟩ := q; exact q.elim
    | cont => obtain ⟨_, _, _, q⟩ := q; exact q.elim
theorem q_retL [Wo] {i : Nat} {x : Str} {pos p : Pos} (hN : X.N[i]? = some x) (hv : Vis X.env.scope x) (hd : (x == ("__debug__" : Str)) = false := by decide) (hcd : (x == ("__classdict__" : Str)) = false := by decide) : PSL X [.Return (some (.Name x p)) pos] (tL X (sRetL i)) := by
  refine ⟨fun pins s σ H Q I ⟨w, ρ, S, s0, en, h⟩ => ?_⟩
  unfold sRetL at h
  cases e : ρ[i]? with
  | none => rw [e] at h; exact h.elim
  | some o =>
    cases o with
    | none => rw [e] at h; exact h.elim
    | some d =>
      rw [e] at h
      obtain ⟨v, hs, r⟩ := en.at_ i d e
      refine wpAny_execs_cons (wpAny_Return_some (thn ((pe_var (pos := p) hN hv hd hcd).run pins s σ H (fun v' H' => v' = v ∧ H' = H) I ⟨v, hs, rfl, rfl⟩) fun u s1 ⟨v', H', I1, r1, q1, q2⟩ => ?_))
      subst q1 q2
      exact ⟨v', σ, H', I1, r1, h w H' v' σ Ext.refl s0 en r⟩
end
theorem envTake {K : PySem.W.Frag} {mg : Str → Option Value} {w : Wd} {H : Hp} : ∀ (vals : List D) (ρ : FEnv) (σ : L2.St), (∀ (i : Nat) d, ρ[i]? = some (some d) → ∃ v, σ[i]? = some (some v) ∧ Rp K mg w H d v) → ρ.take vals.length = vals.map some → ∃ vs, σ.take vals.length = vs.map some ∧ RpL K mg w H vals vs
  | [], _, _, _, _ => ⟨[], by simp, RpL.nil⟩
  | d :: vals, [], σ, _, e => by simp at e
  | d :: vals, o :: ρ, [], h, e => by
    simp at e
    obtain ⟨v, h1, _⟩ := h 0 d (by rw [e.1]; rfl)
    simp at h1
  | d :: vals, o :: ρ, p :: σ, h, e => by
    simp at e
    obtain ⟨v, h1, h2⟩ := h 0 d (by rw [e.1]; rfl)
    obtain ⟨vs, h3, h4⟩ := envTake vals ρ σ (fun i d' q => h (i + 1) d' (by simpa using q)) e.2
    refine ⟨v :: vs, ?_, RpL.cons h2 h4⟩
    have : p = some v := by simpa using h1
    rw [this]
    simp [h3]
def valsL (mc : Nat) (r : RL) : List D := match r with
  | some (_, ρ, _) => (ρ.take mc).map fun o => o.getD .non
  | none => []
def OkL (S : Store) (q : Str) (nl mc : Nat) (vals : List D) (ob : Nat → Ob) (r : RL) : Prop := ∃ n ρ' T, r = some (.loc n, ρ', S ++ T) ∧ S.length ≤ n ∧ (S ++ T)[n]? = some (.lst ((List.range nl).map fun i => Kw.D.lam i q (ob i))) ∧ ρ'.take mc = vals.map some ∧ vals.length = mc ∧ plainL vals = true
open Classical in
/-- what a def is whose body hands back the list of nl lambdas; their variables are the first mc -/
noncomputable def fnL (m n mc nl : Nat) (q : Str) (obS : Nat → Addr → Ob) (as : Addr → List Addr) (b : (Nat → Ob) → FL) : FF := fun ds S => if ds.length = m then
    (if ∀ ob, OkL S q nl mc (valsL mc (b (fun _ _ _ _ => default) (ds.map some ++ List.replicate (n - m) none) S)) ob (b ob (ds.map some ++ List.replicate (n - m) none) S) then
      .ok (.lst ((List.range nl).map fun i => Kw.D.clo i q (obS i) as (valsL mc (b (fun _ _ _ _ => default) (ds.map some ++ List.replicate (n - m) none) S)))) S else .no) else .no
theorem valsL_of {S : Store} {q : Str} {nl mc : Nat} {vals : List D} {ob : Nat → Ob} {r : RL} (h : OkL S q nl mc vals ob r) : valsL mc r = vals := by
  obtain ⟨n, ρ', T, e, _, _, e2, _⟩ := h
  rw [e]
  unfold valsL
  show (ρ'.take mc).map _ = vals
  rw [e2, List.map_map]
  have : ((fun o : Option D => o.getD .non) ∘ some) = id := rfl
  rw [this, List.map_id]
theorem fnL_eq {m n mc nl : Nat} {q : Str} {obS : Nat → Addr → Ob} {as : Addr → List Addr} {b : (Nat → Ob) → FL} {ds vals : List D} {S : Store} (hl : ds.length = m) (h : ∀ ob, OkL S q nl mc vals ob (b ob (ds.map some ++ List.replicate (n - m) none) S)) :
    fnL m n mc nl q obS as b ds S = .ok (.lst ((List.range nl).map fun i => Kw.D.clo i q (obS i) as vals)) S := by
  unfold fnL
  rw [if_pos hl, valsL_of (h _), if_pos h]
theorem fnL_ar {m n mc nl : Nat} {q : Str} {obS : Nat → Addr → Ob} {as : Addr → List Addr} {b : (Nat → Ob) → FL} : ∀ ds S, ds.length ≠ m → fnL m n mc nl q obS as b ds S = .no := fun ds S h => by unfold fnL; rw [if_neg h]
section
variable {P : Program} {w : World} {K : PySem.W.Frag} {mg : Str → Option Value} {base : Heap}
theorem lams_clo {w' w2 : Wd} {H1 H2 : Hp} {q : Str} {ob : Nat → Ob} {obS : Nat → Addr → Ob} {as : Addr → List Addr} {vals : List D} {L : Addr} {vs : List V} (hob : ∀ i, ob i = obS i L) (hk : ∀ a o, H1 a = some o → H2 a = some o) (ho : ∀ a o, H1 a = some o → w'.Off a → w2.Off a) (ca : CelAts w2 H2 (as L) vs) (rv : RpL K mg w2 H2 vals vs) :
    ∀ (is : List Nat) (xs : List V), RpL K mg w' H1 (is.map fun i => Kw.D.lam i q (ob i)) xs → RpL K mg w2 H2 (is.map fun i => Kw.D.clo i q (obS i) as vals) xs
  | [], xs, h => by
    simp only [List.map_nil] at h ⊢
    unfold RpL at h ⊢; exact h
  | i :: is, xs, h => by
    simp only [List.map_cons] at h ⊢
    unfold RpL at h ⊢
    obtain ⟨v, r, e, h1, h2⟩ := h
    refine ⟨v, r, e, ?_, lams_clo hob hk ho ca rv is r h2⟩
    unfold Rp at h1 ⊢
    obtain ⟨f, c', pm, ctv, e1, t, n, t2, n2⟩ := h1
    exact ⟨f, c', pm, ctv, L, vs, e1, by rw [← hob]; exact hk _ _ t, ho _ _ t n, hk _ _ t2, ho _ _ t2 n2, ca, rv⟩
theorem fn_okK [Wo] {x : Str} {st : Stmt} {f : Addr} {fd : FuncData} {N ps : List Str} {k mc nl : Nat} {obS : Nat → Addr → Ob} {b : (Nat → Ob) → FL} (F : Fun K x x st f fd) (S : FnScope N ps (defScope st)) (hm : mg x = some (.ref f)) (Kb : K.In base) (Gb : base.Ns mainGlobals mg) (B : TbK K mg base x)
    (hcell : ∀ y ∈ N.take mc, (defScope st).names.lookup y = some .cell) (hmc : mc ≤ N.length)
    (hb : ∀ (cdv : Value) (A : Around) (outer : List Env) (s : Shared) (H : Hp) (E : XK), TbF K mg base x cdv → RoomG k (A.deeper (envOfC x (defScope st) s.heap.objs.size f cdv)) →
      PSL (cxOf (L2.CX P w) P w K mg base N x (defScope st) f cdv A outer s H E) (defBody st) (tL (cxOf (L2.CX P w) P w K mg base N x (defScope st) f cdv A outer s H E) (b fun i => obS i s.heap.objs.size))) :
    FnG P w K mg base (k + 1) f fd ps (spF K mg ps.length (fnL ps.length N.length mc nl (tabQ x) obS (celAs (defScope st).names (N.take mc)) b)) := by
  obtain ⟨oc, od, kV, doc, pm, an, cdv, ct, osl, rfl, lk, hcd⟩ := F.ex
  obtain ⟨c, Pt, ht, tb⟩ := B
  have ec : cdv = .ref c := PySem.W.law_code Kb Gb ht hm (Kb _ _ lk) rfl
  have TB : TbF K mg base x cdv := ⟨c, Pt, ht, tb, ec⟩
  refine ⟨fun vs H Q E ⟨w, st, ds, s, r, l, h⟩ => by rw [← r.length]; exact l, fun A stk s H ar us vs Q E hr e0 hbd hv hsp => ?_⟩
  obtain ⟨w1, S1, ds, s1, r1, l, hE⟩ := hsp
  have size : vs.length = ps.length := by rw [← r1.length]; exact l
  have up : ∀ b o, base.get? b = some o → s.heap.get? b = some o := fun b o z => (e0.bs b o z).1
  have KX : K.In s.heap := e0.mod.kin.keeps up
  unfold fnL at hE
  rw [if_pos l] at hE
  split at hE
  case isFalse => exact hE.elim
  rename_i hok
  generalize hvals : valsL mc (b (fun _ _ _ _ => default) (ds.map some ++ List.replicate (N.length - ps.length) none) S1) = vals at hE hok
  obtain ⟨n, ρ', T, hres, hn, hcl, hρ, hvl, hpl⟩ := hok fun i => obS i s.heap.objs.size
  refine codeAny_call_function hr.rm.depth (KX _ _ lk) rfl S.co S.gen rfl (PySem.W.codeRec_of KX hcd) (hbd _ _ _ _ (wpAny_newFunctionEnv_cells S.kind (fun ⟨n, v⟩ hn => ?par) fun env he s2 xc => ?run))
  case par =>
    rcases S.par n (List.of_mem_zip hn).1 with q | q
    · exact .inl q
    · exact .inr ⟨q, PySem.W.cellsFrom_some _ _ _ (.inl q)⟩
  case run =>
    subst he
    have hp := hb cdv A stk s H E TB (hr.down _)
    have I0 := inv_start (CX := L2.CX P w) (E := E) S hr.rm.hd e0 size hv xc
    have hq : tL (cxOf (L2.CX P w) P w K mg base N x (defScope st) f cdv A stk s H E) (b fun i => obS i s.heap.objs.size) (fun v σ' H' => ∃ w', Ext w1 H w' H' ∧ Sto K mg w' (S1 ++ T) H' ∧ EnvR K mg w' H' ρ' σ' ∧ Rp K mg w' H' (.loc n) v) (L2.start N vs) H := by
      refine ⟨w1, _, S1, s1, envStart (N := N) r1, ?_⟩
      rw [l, hres]
      exact fun w' H' v σ' e s' en r => ⟨w', e, s', en, r⟩
    refine ⟨(e0.mod.nolimit.keeps up).keeps xc.toInCall.keep, codeAny_func (wpAny_mono (hp.run [] s2 (L2.start N vs) H _ I0 hq) (fun fl s' hs => ?_) fun e s' hs => hs)⟩
    match fl, hs with
    | .ret u, ⟨v, σ', H', J, rv, w', xt, st', en, rl⟩ =>
      obtain ⟨vsC, hσ, rC⟩ := envTake vals ρ' σ' en.at_ (by rw [hvl]; exact hρ)
      rw [hvl] at hσ
      have hCl : vsC.length = mc := by rw [← rC.length]; exact hvl
      have hal : (celAs (defScope st).names (N.take mc) s.heap.objs.size).length = vsC.length := by
        unfold celAs
        rw [List.length_map, List.length_take, hCl]
        omega
      have hcin : ∀ a ∈ celAs (defScope st).names (N.take mc) s.heap.objs.size, ∃ (j : Nat) (y : Str), (celAs (defScope st).names (N.take mc) s.heap.objs.size)[j]? = some a ∧ (N.take mc)[j]? = some y ∧ (cellsFrom (s.heap.objs.size + 1) (defScope st).names []).lookup y = some a := fun a ha => by
        obtain ⟨j, hj⟩ := List.mem_iff_getElem?.mp ha
        obtain ⟨y, h1, h2⟩ := celAs_at hcell hj
        exact ⟨j, y, hj, h1, h2⟩
      have hfr : ∀ a ∈ celAs (defScope st).names (N.take mc) s.heap.objs.size, H' a = none := fun a ha => by
        obtain ⟨j, y, _, _, h2⟩ := hcin a ha
        exact J.freeC y a h2
      have hcel : ∀ (j : Nat) a v, (celAs (defScope st).names (N.take mc) s.heap.objs.size)[j]? = some a → vsC[j]? = some v → ∃ u, s'.heap.IsCell a (some u) ∧ RelV v u := fun j a v h1 h2 => by
        obtain ⟨y, h3, h4⟩ := celAs_at hcell h1
        have hy : (defScope st).names.lookup y = some .cell := hcell y (List.mem_of_getElem? h3)
        have hσj : σ'[j]? = some (some v) := by
          have q : (σ'.take mc)[j]? = some (some v) := by rw [hσ, List.getElem?_map, h2]; rfl
          exact (getElem?_of_take q).1
        obtain ⟨m', hn', hl'⟩ := J.loc
        obtain ⟨u', r', lk'⟩ := hl' j y v (getElem?_of_take h3).1 hσj (.inr (.inl hy))
        rcases lk' with ⟨k', _⟩ | ⟨_, c3, e3, z⟩
        · have k' : (defScope st).names.lookup y = some .local := k'
          rw [hy] at k'; cases k'
        · have e3 : (cellsFrom (s.heap.objs.size + 1) (defScope st).names []).lookup y = some c3 := e3
          rw [h4] at e3; cases e3
          exact ⟨u', z, r'⟩
      obtain ⟨HC, hHC⟩ : ∃ HC, HC = celH H' (celAs (defScope st).names (N.take mc) s.heap.objs.size) vsC := ⟨_, rfl⟩
      have cUp : ∀ a o, H' a = some o → HC a = some o := fun a o e => by rw [hHC]; exact celH_keep hfr e
      have xC : Ext w' H' w' HC := ⟨fun a o z _ => cUp a o z, Nat.le_refl _, fun _ _ z _ => z, fun _ z => .inl z, rfl⟩
      have cNe : ∀ a, H' a ≠ none → HC a = H' a := fun a hne => by
        cases h2 : H' a with
        | none => exact absurd h2 hne
        | some o => exact cUp a o h2
      have stC : Sto K mg w' (S1 ++ T) HC := ⟨st'.len, st'.nd, fun a z => ⟨by rw [cNe a (st'.ap a z).1]; exact (st'.ap a z).1, (st'.ap a z).2⟩, fun n cc z => CellR.ext xC (fun a ha => ⟨ha, cNe a (st'.tracked (List.mem_of_getElem? ha))⟩) id (st'.cell n cc z)⟩
      have cut : CutOk S1 (S1 ++ T) := ⟨by simp, fun i c hi e => .inl (by rw [List.getElem?_append_left hi] at e; exact e)⟩
      have stE : Sto K mg (w'.cut S1.length) S1 HC := by
        have z := Sto.cut s1 stC cut
        rw [List.take_left] at z
        exact z
      have xE : Ext w1 H (w'.cut S1.length) HC := by
        have z := Ext.cut (xt.trans xC)
        rw [s1.len] at z
        exact z
      refine ⟨v, HC, J.os, J.bare, ?_, ?_, rv, hE (w'.cut S1.length) HC v xE stE ?_⟩
      · have un : Un (frs stk) [] H H' s.heap s'.heap := J.base
        refine ⟨un.keep, un.slot, fun a o z1 z2 z3 => ?_, un.there, fun a xs z => cUp a _ (un.tups a xs z), fun a o xs z => cUp a _ (un.frzs a o xs z), fun a ps z => ?_⟩
        · rw [hHC, celH_out]
          · exact un.free a o z1 z2 z3
          · intro z
            obtain ⟨j, y, _, _, h2⟩ := hcin a z
            have h3 : s.heap.objs.size ≤ a := J.ok.cab y a rfl h2
            exact absurd (Nat.lt_of_lt_of_le (Heap.lt_size z1) h3) (Nat.lt_irrefl _)
        · obtain ⟨more, z'⟩ := un.tbls a ps z
          exact ⟨more, cUp a _ z'⟩
      · rw [hHC]
        exact HOk.celH J.hok hal hfr hcel
      · have cl := st'.cell n _ hcl
        unfold CellR at cl
        obtain ⟨a, xs, hφ, hH, hxs⟩ := cl
        unfold Rp at rl
        have ev := rl.2 a hφ
        show Rp _ _ _ _ (.lst _) v
        unfold Rp
        refine ⟨a, xs, ev, cUp a _ hH, ⟨fun z => ?_, fun z => (st'.ap a z).2 (List.mem_of_getElem? hφ)⟩, ?_⟩
        · obtain ⟨j, hj⟩ := List.mem_iff_getElem?.mp z
          have hj' : (w'.φ.take S1.length)[j]? = some (some a) := hj
          obtain ⟨h1, h2⟩ := getElem?_of_take hj'
          have := st'.nd j n a h1 hφ
          omega
        · refine lams_clo (L := s.heap.objs.size) (vs := vsC) (fun i => rfl) cUp (fun _ _ _ z => Wd.off_cut z) ⟨hal, fun j a' v' h1 h2 => ?_⟩ (RpL.plain (fun a o z _ => cUp a o z) (fun _ _ _ z => Wd.off_cut z) vals vsC hpl rC) _ _ hxs
          refine ⟨?_, Wd.off_cut (st'.new (hfr a' (List.mem_of_getElem? h1)))⟩
          obtain ⟨j2, v2, g1, g2, g3⟩ := celH_in (H := H') hal (List.mem_of_getElem? h1)
          obtain ⟨y1, q1, q2⟩ := celAs_at hcell h1
          obtain ⟨y2, q3, q4⟩ := celAs_at hcell g1
          have ey := cells_inj q2 q4
          subst ey
          have ej : j = j2 := by
            have p1 := (getElem?_of_take q1).1
            have p2 := (getElem?_of_take q3).1
            exact (List.getElem?_inj (List.getElem?_eq_some_iff.mp p1).1 S.nd).mp (p1.trans p2.symm)
          subst ej
          rw [h2] at g2; cases g2
          rw [hHC]
          exact g3
    | .next, hs => exact hs.elim
    | .brk, hs => exact hs.elim
    | .cont, hs => exact hs.elim
theorem calLK [Wo] {x : Str} {st : Stmt} {N ps : List Str} {k mc nl : Nat} {obS : Nat → Addr → Ob} {b : (Nat → Ob) → FL} (T : TF K mg x st ps) (S : FnScope N ps (defScope st)) (Kb : K.In base) (Gb : base.Ns mainGlobals mg) (B : TbK K mg base x)
    (hcell : ∀ y ∈ N.take mc, (defScope st).names.lookup y = some .cell) (hmc : mc ≤ N.length)
    (hb : ∀ (f : Addr) (cdv : Value) (A : Around) (outer : List Env) (s : Shared) (H : Hp) (E : XK), TbF K mg base x cdv → RoomG k (A.deeper (envOfC x (defScope st) s.heap.objs.size f cdv)) →
      PSL (cxOf (L2.CX P w) P w K mg base N x (defScope st) f cdv A outer s H E) (defBody st) (tL (cxOf (L2.CX P w) P w K mg base N x (defScope st) f cdv A outer s H E) (b fun i => obS i s.heap.objs.size))) (hps : ps = (defArgs st).args.map (·.arg) := by rfl) :
    Cal P w K mg base (k + 1) x (fnL ps.length N.length mc nl (tabQ x) obS (celAs (defScope st).names (N.take mc)) b) := by
  obtain ⟨f, fd, F, m, bd⟩ := T
  exact ⟨f, fd, ps, fn_okK F S m Kb Gb B hcell hmc (hb f), m, F.kp, bd, fnL_ar, hps.trans (fun_names F).symm, fun_look F⟩
end
end Kw
namespace Kw
open PySem PySem.Spec PySem.Calls PyProof.Rows L2
/-- never reached -/
def sDead : FS := fun _ _ => .no
theorem q_dead [Wo] {X : Cx} {W : WX} {sts : List Stmt} : PSs X sts (tS X W sDead) := ⟨fun pins s σ H D I ⟨w, ρ, S, s0, en, h⟩ => h.elim⟩
open Classical in
noncomputable def aObsF (F : (Nat → Ob) → FS) : FS := fun ρ S => if ∀ a, rtCut S (F a ρ S) = rtCut S (F (fun _ _ _ _ => default) ρ S) then rtCut S (F (fun _ _ _ _ => default) ρ S) else .no
theorem aObsF_eq {F : (Nat → Ob) → FS} {ρ : FEnv} {S : Store} {r : RS} (h : ∀ a, rtCut S (F a ρ S) = r) : aObsF F ρ S = r := by
  unfold aObsF
  rw [if_pos (fun a => by rw [h, h]), h]
theorem pss_obsF [Wo] {X : Cx} {W : WX} {st : List Stmt} {ob : Nat → Ob} {F : (Nat → Ob) → FS} (h : PSs X st (tS X W (F ob))) : PSs X st (tS X W (aObsF F)) :=
  PSs.wk h fun D σ H ⟨w, ρ, S, s, en, hE⟩ => by
    refine ⟨w, ρ, S, s, en, ?_⟩
    unfold aObsF at hE
    split at hE
    case isFalse => exact hE.elim
    rename_i hk
    rw [← hk ob] at hE
    cases hF : F ob ρ S with
    | rt d S' =>
      rw [hF] at hE
      unfold rtCut cutR at hE
      simp only at hE
      by_cases hc : d.under S.length = true ∧ CutOk S S'
      · rw [if_pos hc] at hE
        intro w1 H1 v e s1 r1
        have hl : S.length ≤ w1.φ.length := by rw [s1.len]; exact hc.2.1
        exact hE (w1.cut S.length) H1 v (s.len ▸ e.cut) (Sto.cut s s1 hc.2) (Rp.cut hl d v hc.1 r1)
      · rw [if_neg hc] at hE
        exact hE.elim
    | _ => rw [hF] at hE; exact hE.elim
/-- the lambda of an expression, of a statement -/
def lamE : Expr → Option (Expr × Scope)
  | .Lambda _ b s _ => some (b, s)
  | .List (e :: _) _ => lamE e
  | .Call _ (e :: _) _ _ => lamE e
  | _ => none
def lamSt : Stmt → Option (Expr × Scope)
  | .Assign _ e _ => lamE e
  | .Expr e _ => lamE e
  | _ => none
def cloOf (sc : Scope) (x : Str) (o : Option (Expr × Scope)) : Addr → Ob := match o with
  | some (b, s) => cloOb sc x b s
  | none => fun _ _ _ _ => default
def freeIn (scope : Scope) (xs : List Str) : Bool := scope.names.all fun y => !decide (y.2 = .free) || decide (y.1 ∈ xs)
def cellIn (sc : Scope) (xs : List Str) : Bool := xs.all fun y => decide (sc.names.lookup y = some .cell)
theorem lamC_mk [Wo] {P : Program} {w : World} {K : PySem.W.Frag} {mg : Str → Option Value} {base : Heap} {k : Nat} {N : List Str} {x : Str} {sc : Scope} {m : Nat} {ob : Addr → Ob} {tb : FE} {body : Expr} {scope : Scope} (eo : ob = cloOb sc x body scope) (LS : LamX.LamS sc scope) (hN : N.Nodup) (hf : freeIn scope (N.take m) = true) (hc : cellIn sc (N.take m) = true) (hm : m ≤ N.length)
    (hbody : ∀ (f0 : Addr) (cd0 : Value) (A0 : Around) (outer0 : List Env) (s0 : Shared) (H0 : Hp) (E0 : XK) (A : Around) (outer : List Env) (s : Shared) (H : Hp) (E : XK) (f c' : Addr), RoomG k (LamX.lamCx (cxOf (L2.CX P w) P w K mg base N x sc f0 cd0 A0 outer0 s0 H0 E0) A outer s H E scope f c').A →
      Takes (LamX.lamCx (cxOf (L2.CX P w) P w K mg base N x sc f0 cd0 A0 outer0 s0 H0 E0) A outer s H E scope f c') (fun c d _ H => E c d H) →
      PE (LamX.lamCx (cxOf (L2.CX P w) P w K mg base N x sc f0 cd0 A0 outer0 s0 H0 E0) A outer s H E scope f c') body (tF (LamX.lamCx (cxOf (L2.CX P w) P w K mg base N x sc f0 cd0 A0 outer0 s0 H0 E0) A outer s H E scope f c') (fun c d _ H => E c d H) tb)) :
    LamC P w K mg base k (tabQ x) ⟨ob, celAs sc.names (N.take m), N.length, m, tb⟩ :=
  ⟨N, x, sc, body, scope, rfl, rfl, eo, rfl, LS, hN, fun y hy e => by
    have z := List.all_eq_true.mp hf y hy
    simpa [e] using z, fun y hy => by
    have z := List.all_eq_true.mp hc y hy
    simpa using z, hm, fun _ _ _ _ => lam_bind0, hbody⟩
theorem cellIn_at {sc : Scope} {xs : List Str} (h : cellIn sc xs = true) : ∀ y ∈ xs, sc.names.lookup y = some .cell := fun y hy => by
  have z := List.all_eq_true.mp h y hy
  simpa using z
end Kw
namespace Kz
open PySem PySem.Spec PyProof.Rows L2 Kw
def topS (i : Nat) : Stmt := PySem.Challenge.pw_kindswap_k05_kinds_spoilt_at_any_depth.main.body.getD i (.Pass ⟨0, 0, 0, 0⟩)
inductive Fn where
  | f_is_from
  | f_inner_of
  | f_is_kind
  | f_sure_kind
  | f_plain_text
  | f_kind_text
  | f_closed
  | f_read_kind
  | f_order_of
  | f_in_order
  | f_wants_with
  | f_plain_form
  | f_form
  | f_alike
  | f_many
  | f_rest
  | f_apart
  | f_apart_fault
  | f_worths
  | f_is_worth
  | f_sure_given
  | f_term_kind
  | f_plain
  | f_same
  | f_turner
  | f_turn_fault
  | f_is_library
  | f_sure_library
  | f_search
  | f_search_fault
  | f__law_well
  | f__law_draw
  | f__law_deep
  | f__law_odd
  | f__law_spoilt
  | f__law_word
  | f__law_asks
  | f__law_lists_right
  | f_law
abbrev s_is_from : Stmt := topS 17
theorem sc_is_from : FnScope ["thing", "low", "high"] ["thing", "low", "high"] (defScope s_is_from) := ⟨rfl, rfl, rfl, by decide +kernel, rfl, by decide +kernel, by decide +kernel⟩
abbrev s_inner_of : Stmt := topS 18
theorem sc_inner_of : FnScope ["thing"] ["thing"] (defScope s_inner_of) := ⟨rfl, rfl, rfl, by decide +kernel, rfl, by decide +kernel, by decide +kernel⟩
abbrev s_is_kind : Stmt := topS 19
theorem sc_is_kind : FnScope ["thing", "left", "inner"] ["thing"] (defScope s_is_kind) := ⟨rfl, rfl, rfl, by decide +kernel, rfl, by decide +kernel, by decide +kernel⟩
abbrev s_sure_kind : Stmt := topS 20
theorem sc_sure_kind : FnScope ["thing"] ["thing"] (defScope s_sure_kind) := ⟨rfl, rfl, rfl, by decide +kernel, rfl, by decide +kernel, by decide +kernel⟩
abbrev s_plain_text : Stmt := topS 21
theorem sc_plain_text : FnScope ["kind"] ["kind"] (defScope s_plain_text) := ⟨rfl, rfl, rfl, by decide +kernel, rfl, by decide +kernel, by decide +kernel⟩
abbrev s_kind_text : Stmt := topS 22
theorem sc_kind_text : FnScope ["kind"] ["kind"] (defScope s_kind_text) := ⟨rfl, rfl, rfl, by decide +kernel, rfl, by decide +kernel, by decide +kernel⟩
abbrev s_closed : Stmt := topS 23
theorem sc_closed : FnScope ["things"] ["things"] (defScope s_closed) := ⟨rfl, rfl, rfl, by decide +kernel, rfl, by decide +kernel, by decide +kernel⟩
abbrev s_read_kind : Stmt := topS 24
theorem sc_read_kind : FnScope ["text", "things", "sign"] ["text"] (defScope s_read_kind) := ⟨rfl, rfl, rfl, by decide +kernel, rfl, by decide +kernel, by decide +kernel⟩
abbrev s_order_of : Stmt := topS 27
theorem sc_order_of : FnScope ["things"] ["things"] (defScope s_order_of) := ⟨rfl, rfl, rfl, by decide +kernel, rfl, by decide +kernel, by decide +kernel⟩
abbrev s_in_order : Stmt := topS 28
theorem sc_in_order : FnScope ["things", "place"] ["things"] (defScope s_in_order) := ⟨rfl, rfl, rfl, by decide +kernel, rfl, by decide +kernel, by decide +kernel⟩
abbrev s_wants_with : Stmt := topS 29
theorem sc_wants_with : FnScope ["factor", "first"] ["factor", "first"] (defScope s_wants_with) := ⟨rfl, rfl, rfl, by decide +kernel, rfl, by decide +kernel, by decide +kernel⟩
abbrev s_plain_form : Stmt := topS 30
theorem sc_plain_form : FnScope ["kind", "first", "second", "factor"] ["kind"] (defScope s_plain_form) := ⟨rfl, rfl, rfl, by decide +kernel, rfl, by decide +kernel, by decide +kernel⟩
abbrev s_form : Stmt := topS 31
theorem sc_form : FnScope ["kind"] ["kind"] (defScope s_form) := ⟨rfl, rfl, rfl, by decide +kernel, rfl, by decide +kernel, by decide +kernel⟩
abbrev s_alike : Stmt := topS 32
theorem sc_alike : FnScope ["one", "other"] ["one", "other"] (defScope s_alike) := ⟨rfl, rfl, rfl, by decide +kernel, rfl, by decide +kernel, by decide +kernel⟩
abbrev s_many : Stmt := topS 52
theorem sc_many : FnScope ["kind", "sizes", "found"] ["kind", "sizes"] (defScope s_many) := ⟨rfl, rfl, rfl, by decide +kernel, rfl, by decide +kernel, by decide +kernel⟩
abbrev s_rest : Stmt := topS 56
theorem sc_rest : FnScope ["kind", "sizes", "by"] ["kind", "sizes", "by"] (defScope s_rest) := ⟨rfl, rfl, rfl, by decide +kernel, rfl, by decide +kernel, by decide +kernel⟩
abbrev s_apart : Stmt := topS 58
theorem sc_apart : FnScope ["one", "other", "turn", "sizes", "by"] ["one", "other"] (defScope s_apart) := ⟨rfl, rfl, rfl, by decide +kernel, rfl, by decide +kernel, by decide +kernel⟩
abbrev s_apart_fault : Stmt := topS 59
theorem sc_apart_fault : FnScope ["one", "other", "thing", "sizes", "by", "found"] ["one", "other", "thing"] (defScope s_apart_fault) := ⟨rfl, rfl, rfl, by decide +kernel, rfl, by decide +kernel, by decide +kernel⟩
abbrev s_worths : Stmt := topS 71
theorem sc_worths : FnScope ["kind", "sizes"] ["kind", "sizes"] (defScope s_worths) := ⟨rfl, rfl, rfl, by decide +kernel, rfl, by decide +kernel, by decide +kernel⟩
abbrev s_is_worth : Stmt := topS 73
theorem sc_is_worth : FnScope ["kind", "sizes", "thing"] ["kind", "sizes", "thing"] (defScope s_is_worth) := ⟨rfl, rfl, rfl, by decide +kernel, rfl, by decide +kernel, by decide +kernel⟩
abbrev s_sure_given : Stmt := topS 76
theorem sc_sure_given : FnScope ["given", "kind"] ["given"] (defScope s_sure_given) := ⟨rfl, rfl, rfl, by decide +kernel, rfl, by decide +kernel, by decide +kernel⟩
abbrev s_term_kind : Stmt := topS 82
theorem sc_term_kind : FnScope ["term", "given"] ["term", "given"] (defScope s_term_kind) := ⟨rfl, rfl, rfl, by decide +kernel, rfl, by decide +kernel, by decide +kernel⟩
abbrev s_plain : Stmt := topS 91
theorem sc_plain : FnScope ["term", "given"] ["term", "given"] (defScope s_plain) := ⟨rfl, rfl, rfl, by decide +kernel, rfl, by decide +kernel, by decide +kernel⟩
abbrev s_same : Stmt := topS 92
theorem sc_same : FnScope ["one", "other", "given", "kinds", "term"] ["one", "other", "given"] (defScope s_same) := ⟨rfl, rfl, rfl, by decide +kernel, rfl, by decide +kernel, by decide +kernel⟩
abbrev s_turner : Stmt := topS 101
theorem sc_turner : FnScope ["one", "other"] ["one", "other"] (defScope s_turner) := ⟨rfl, rfl, rfl, by decide +kernel, rfl, by decide +kernel, by decide +kernel⟩
abbrev s_turn_fault : Stmt := topS 105
theorem sc_turn_fault : FnScope ["one", "other", "there", "back"] ["one", "other", "there", "back"] (defScope s_turn_fault) := ⟨rfl, rfl, rfl, by decide +kernel, rfl, by decide +kernel, by decide +kernel⟩
abbrev s_is_library : Stmt := topS 107
theorem sc_is_library : FnScope ["thing", "row", "names", "name", "kind"] ["thing"] (defScope s_is_library) := ⟨rfl, rfl, rfl, by decide +kernel, rfl, by decide +kernel, by decide +kernel⟩
abbrev s_sure_library : Stmt := topS 108
theorem sc_sure_library : FnScope ["library"] ["library"] (defScope s_sure_library) := ⟨rfl, rfl, rfl, by decide +kernel, rfl, by decide +kernel, by decide +kernel⟩
abbrev s_search : Stmt := topS 113
theorem sc_search : FnScope ["library", "kind", "some", "name", "there", "wants", "goal"] ["library", "kind"] (defScope s_search) := ⟨rfl, rfl, rfl, by decide +kernel, rfl, by decide +kernel, by decide +kernel⟩
abbrev s_search_fault : Stmt := topS 114
theorem sc_search_fault : FnScope ["library", "kind", "name", "thing", "some", "wants", "there", "back", "title"] ["library", "kind", "name", "thing"] (defScope s_search_fault) := ⟨rfl, rfl, rfl, by decide +kernel, rfl, by decide +kernel, by decide +kernel⟩
abbrev s__law_well : Stmt := topS 116
theorem sc__law_well : FnScope ["_law_cell"] ["_law_cell"] (defScope s__law_well) := ⟨rfl, rfl, rfl, by decide +kernel, rfl, by decide +kernel, by decide +kernel⟩
abbrev s__law_draw : Stmt := topS 117
theorem sc__law_draw : FnScope ["_law_well_here", "_law_width", "_law_low", "_law_digit_told"] ["_law_well_here", "_law_width"] (defScope s__law_draw) := ⟨rfl, rfl, rfl, by decide +kernel, rfl, by decide +kernel, by decide +kernel⟩
abbrev s__law_deep : Stmt := topS 118
theorem sc__law_deep : FnScope ["_law_well_here", "_law_deep_here", "_law_kind", "_law_turn", "_law_side", "_law_word_here"] ["_law_well_here", "_law_deep_here"] (defScope s__law_deep) := ⟨rfl, rfl, rfl, by decide +kernel, rfl, by decide +kernel, by decide +kernel⟩
abbrev s__law_odd : Stmt := topS 119
theorem sc__law_odd : FnScope ["_law_well_here", "_law_kind", "_law_some"] ["_law_well_here", "_law_kind"] (defScope s__law_odd) := ⟨rfl, rfl, rfl, by decide +kernel, rfl, by decide +kernel, by decide +kernel⟩
abbrev s__law_spoilt : Stmt := topS 120
theorem sc__law_spoilt : FnScope ["_law_well_here", "_law_kind"] ["_law_well_here", "_law_kind"] (defScope s__law_spoilt) := ⟨rfl, rfl, rfl, by decide +kernel, rfl, by decide +kernel, by decide +kernel⟩
abbrev s__law_word : Stmt := topS 121
theorem sc__law_word : FnScope ["_law_ask", "_law_found", "e"] ["_law_ask"] (defScope s__law_word) := ⟨rfl, rfl, rfl, by decide +kernel, rfl, by decide +kernel, by decide +kernel⟩
abbrev s__law_asks : Stmt := topS 122
theorem sc__law_asks : FnScope ["_law_bad", "_law_good", "_law_odd_here", "_law_sizes", "_law_by", "_law_term", "_law_library", "_law_found"] ["_law_bad", "_law_good", "_law_odd_here"] (defScope s__law_asks) := ⟨rfl, rfl, rfl, by decide +kernel, rfl, by decide +kernel, by decide +kernel⟩
abbrev s__law_lists_right : Stmt := topS 123
theorem sc__law_lists_right : FnScope ["_law_well_here", "_law_bad", "_law_good", "_law_some", "_law_spot", "_law_given", "_law_term", "_law_asks_here", "_law_library", "_law_name", "_law_k", "_law_kind", "_law_ask"] ["_law_well_here", "_law_bad", "_law_good"] (defScope s__law_lists_right) := ⟨rfl, rfl, rfl, by decide +kernel, rfl, by decide +kernel, by decide +kernel⟩
abbrev s_law : Stmt := topS 124
theorem sc_law : FnScope ["_law_script", "_law_cell", "_law_well_here", "_law_good", "_law_bad", "_law_small", "_law_odd_here", "_law_words", "_law_ask"] ["_law_script"] (defScope s_law) := ⟨rfl, rfl, rfl, by decide +kernel, rfl, by decide +kernel, by decide +kernel⟩
def kv_MARKS : List (Str × D) := [("both", D.str "*"), ("from", D.str ">")]
def kv_SIGNS : List (Str × D) := [("*", D.str "both"), (">", D.str "from")]
def excs : List Str := ["NoKind", "NoLibrary", "NoText"]
def isxT : List (Str × Str) := ([("NoKind", "NoKind"), ("NoKind", "SwapError"), ("NoLibrary", "NoLibrary"), ("NoLibrary", "SwapError"), ("NoText", "SwapError")] : List (Str × Str))
def isx (y x : Str) : Bool := isxT.any fun p => p.1 == y && p.2 == x
noncomputable def b_is_from (cl : Fn → FF) : FS :=
  (sRet (fAndV (fIsi "int" (fVar 0)) (fAndV (fNotV (fIsi "bool" (fVar 0))) (fChain (gCmp fun i j => decide (i ≤ j)) (gCmp fun i j => decide (i ≤ j)) (fVar 1) (fVar 0) (fVar 2)))))
noncomputable def b_inner_of (cl : Fn → FF) : FS :=
  (sSeq (sIf (fOr (fNot (fTru (fIsi "tuple" (fVar 0)))) (fOr (fB (f2 gEq (fArg gLen (fCons (fVar 0) fNil)) (fC (.int 0)))) (fNot (fTru (fIsi "str" (f2 gIx (fVar 0) (fC (.int 0)))))))) (sRet (fC .non)) sNil)
  (sSeq (sIf (fB (f2 gEq (f2 gIx (fVar 0) (fC (.int 0))) (fC (.str "base")))) (sRet (fIf (fAnd (fB (f2 gEq (fArg gLen (fCons (fVar 0) fNil)) (fC (.int 2)))) (fTru (fArg (cl .f_is_from) (fCons (f2 gIx (fVar 0) (fC (.int 1))) (fCons (fC (.int 0)) (fCons (f2 gSub (fArg gLen (fCons (fC (.str "abcdefgh")) fNil)) (fC (.int 1))) fNil)))))) (fArg mkLst fNil) (fC .non))) sNil)
  (sSeq (sIf (fB (f2 gEq (f2 gIx (fVar 0) (fC (.int 0))) (fC (.str "unit")))) (sRet (fIf (fB (f2 gEq (fArg gLen (fCons (fVar 0) fNil)) (fC (.int 1)))) (fArg mkLst fNil) (fC .non))) sNil)
  (sRet (fIf (fAnd (fB (f2 (gInG false "MARKS" kv_MARKS) (f2 gIx (fVar 0) (fC (.int 0))) (fC (.glo "MARKS")))) (fB (f2 gEq (fArg gLen (fCons (fVar 0) fNil)) (fC (.int 3))))) (fArg (gList false) (fCons (fSl (gSl false) (fVar 0) (fSome (fC (.int 1))) fNone) fNil)) (fC .non))))))
noncomputable def l_is_kind_0 (cl : Fn → FF) : FS :=
  (sSeq (sSet 2 (fArg (cl .f_inner_of) (fCons (fMth gPop0 (fVar 1) fNil) fNil)))
  (sSeq (sIf (fB (f2 (gIs false) (fVar 2) (fC .non))) (sRet (fC (.bl false))) sNil)
  (sExp (fMth gExtend (fVar 1) (fCons (fVar 2) fNil)))))
noncomputable def b_is_kind (cl : Fn → FF) : FS :=
  (sSeq (sSet 1 (fArg mkCel (fCons (fVar 0) fNil)))
  (sSeq (sWhile (fB (f2 gNe (fVar 1) (fArg mkLst fNil))) (l_is_kind_0 cl))
  (sRet (fC (.bl true)))))
noncomputable def b_sure_kind (cl : Fn → FF) : FS :=
  (sIf (fNot (fTru (fArg (cl .f_is_kind) (fCons (fVar 0) fNil)))) (sRaise "NoKind") sNil)
noncomputable def b_plain_text (cl : Fn → FF) : FS :=
  (sSeq (sIf (fB (f2 gEq (f2 gIx (fVar 0) (fC (.int 0))) (fC (.str "base")))) (sRet (f2 gIx (fC (.str "abcdefgh")) (f2 gIx (fVar 0) (fC (.int 1))))) sNil)
  (sSeq (sIf (fB (f2 gEq (f2 gIx (fVar 0) (fC (.int 0))) (fC (.str "unit")))) (sRet (fC (.str "1"))) sNil)
  (sRet (f2 (gAdd false) (f2 (gAdd false) (f2 (gAdd false) (f2 (gAdd false) (fC (.str "(")) (fArg (cl .f_plain_text) (fCons (f2 gIx (fVar 0) (fC (.int 1))) fNil))) (f2 (gIxG "MARKS" kv_MARKS) (fC (.glo "MARKS")) (f2 gIx (fVar 0) (fC (.int 0))))) (fArg (cl .f_plain_text) (fCons (f2 gIx (fVar 0) (fC (.int 2))) fNil))) (fC (.str ")"))))))
noncomputable def b_kind_text (cl : Fn → FF) : FS :=
  (sSeq (sExp (fArg (cl .f_sure_kind) (fCons (fVar 0) fNil)))
  (sRet (fArg (cl .f_plain_text) (fCons (fVar 0) fNil))))
noncomputable def b_closed (cl : Fn → FF) : FS :=
  (sSeq (sIf (fOr (fB (f2 (gCmp fun i j => decide (i < j)) (fArg gLen (fCons (fVar 0) fNil)) (fC (.int 4)))) (fOr (fB (f2 gNe (f2 gIx (fVar 0) (f1 gNeg (fC (.int 4)))) (fC (.str "(")))) (fB (f2 (gInG true "SIGNS" kv_SIGNS) (f2 gIx (fVar 0) (f1 gNeg (fC (.int 2)))) (fC (.glo "SIGNS")))))) (sRaise "NoText") sNil)
  (sSeq (sIf (fOr (fNot (fTru (fIsi "tuple" (f2 gIx (fVar 0) (f1 gNeg (fC (.int 3))))))) (fNot (fTru (fIsi "tuple" (f2 gIx (fVar 0) (f1 gNeg (fC (.int 1)))))))) (sRaise "NoText") sNil)
  (sRet (f2 (gAdd true) (fSl (gSl false) (fVar 0) fNone (fSome (f1 gNeg (fC (.int 4))))) (fArg mkLst (fCons (fArg mkTup (fCons (f2 (gIxG "SIGNS" kv_SIGNS) (fC (.glo "SIGNS")) (f2 gIx (fVar 0) (f1 gNeg (fC (.int 2))))) (fCons (f2 gIx (fVar 0) (f1 gNeg (fC (.int 3)))) (fCons (f2 gIx (fVar 0) (f1 gNeg (fC (.int 1)))) fNil)))) fNil))))))
noncomputable def l_read_kind_0 (cl : Fn → FF) : FS :=
  (sIf (fB (f2 (gIn false) (fVar 2) (fC (.str "abcdefgh")))) (sExp (fMth gAppend (fVar 1) (fCons (fArg mkTup (fCons (fC (.str "base")) (fCons (fStrIx (fC (.str "abcdefgh")) (fVar 2)) fNil))) fNil))) (sIf (fB (f2 gEq (fVar 2) (fC (.str "1")))) (sExp (fMth gAppend (fVar 1) (fCons (fArg mkTup (fCons (fC (.str "unit")) fNil)) fNil))) (sIf (fB (f2 gEq (fVar 2) (fC (.str ")")))) (sSet 1 (fArg (cl .f_closed) (fCons (fVar 1) fNil))) (sIf (fOr (fB (f2 gEq (fVar 2) (fC (.str "(")))) (fB (f2 (gInG false "SIGNS" kv_SIGNS) (fVar 2) (fC (.glo "SIGNS"))))) (sExp (fMth gAppend (fVar 1) (fCons (fVar 2) fNil))) (sRaise "NoText")))))
noncomputable def b_read_kind (cl : Fn → FF) : FS :=
  (sSeq (sIf (fNot (fTru (fIsi "str" (fVar 0)))) (sRaise "NoText") sNil)
  (sSeq (sSet 1 (fArg mkCel fNil))
  (sSeq (sFor (fiS (fVar 0)) (gN 2) (l_read_kind_0 cl))
  (sSeq (sIf (fOr (fB (f2 gNe (fArg gLen (fCons (fVar 1) fNil)) (fC (.int 1)))) (fNot (fTru (fIsi "tuple" (f2 gIx (fVar 1) (fC (.int 0))))))) (sRaise "NoText") sNil)
  (sRet (f2 gIx (fVar 1) (fC (.int 0))))))))
noncomputable def b_order_of (cl : Fn → FF) : FS :=
  (sRet (fOrder 1 "order_of" (fArg gLen (fCons (fVar 0) fNil)) 0))
noncomputable def b_in_order (cl : Fn → FF) : FS :=
  (sRet (fLc false (fiL (fArg (cl .f_order_of) (fCons (fVar 0) fNil))) (gN 1) fYes (f2 gIx (fVar 0) (fVar 1)) [1]))
noncomputable def b_wants_with (cl : Fn → FF) : FS :=
  (sRet (f2 (gAdd false) (fArg (gList false) (fCons (f2 gIx (fVar 0) (fC (.int 0))) fNil)) (fVar 1)))
noncomputable def b_plain_form (cl : Fn → FF) : FS :=
  (sSeq (sIf (fB (f2 gEq (f2 gIx (fVar 0) (fC (.int 0))) (fC (.str "base")))) (sRet (fArg mkLst (fCons (fArg mkTup (fCons (fArg mkTup fNil) (fCons (f2 gIx (fVar 0) (fC (.int 1))) fNil))) fNil))) sNil)
  (sSeq (sIf (fB (f2 gEq (f2 gIx (fVar 0) (fC (.int 0))) (fC (.str "unit")))) (sRet (fArg mkLst fNil)) sNil)
  (sSeq (sSet 1 (fArg (cl .f_plain_form) (fCons (f2 gIx (fVar 0) (fC (.int 1))) fNil)))
  (sSeq (sSet 2 (fArg (cl .f_plain_form) (fCons (f2 gIx (fVar 0) (fC (.int 2))) fNil)))
  (sSeq (sIf (fB (f2 gEq (f2 gIx (fVar 0) (fC (.int 0))) (fC (.str "both")))) (sRet (fArg (cl .f_in_order) (fCons (f2 (gAdd false) (fVar 1) (fVar 2)) fNil))) sNil)
  (sRet (fArg (cl .f_in_order) (fCons (fLc false (fiL (fVar 2)) (gN 3) fYes (fArg mkTup (fCons (fArg gTuple (fCons (fArg (cl .f_in_order) (fCons (fArg (cl .f_wants_with) (fCons (fVar 3) (fCons (fVar 1) fNil))) fNil)) fNil)) (fCons (f2 gIx (fVar 3) (fC (.int 1))) fNil))) [3]) fNil))))))))
noncomputable def b_form (cl : Fn → FF) : FS :=
  (sSeq (sExp (fArg (cl .f_sure_kind) (fCons (fVar 0) fNil)))
  (sRet (fArg (cl .f_plain_form) (fCons (fVar 0) fNil))))
noncomputable def b_alike (cl : Fn → FF) : FS :=
  (sRet (f2 gEq (fArg (cl .f_form) (fCons (fVar 0) fNil)) (fArg (cl .f_form) (fCons (fVar 1) fNil))))
noncomputable def b_many (cl : Fn → FF) : FS :=
  (sSeq (sExp (fArg (cl .f_sure_kind) (fCons (fVar 0) fNil)))
  sDead)
noncomputable def b_rest (cl : Fn → FF) : FS :=
  (sSeq (sExp (fArg (cl .f_sure_kind) (fCons (fVar 0) fNil)))
  sDead)
noncomputable def b_apart (cl : Fn → FF) : FS :=
  (sSeq (sIf (fTru (fArg (cl .f_alike) (fCons (fVar 0) (fCons (fVar 1) fNil)))) (sRet (fC .non)) sNil)
  sDead)
noncomputable def b_apart_fault (cl : Fn → FF) : FS :=
  (sSeq (sExp (fArg (cl .f_sure_kind) (fCons (fVar 0) fNil)))
  (sSeq (sExp (fArg (cl .f_sure_kind) (fCons (fVar 1) fNil)))
  sDead))
noncomputable def b_worths (cl : Fn → FF) : FS :=
  (sSeq (sExp (fArg (cl .f_sure_kind) (fCons (fVar 0) fNil)))
  sDead)
noncomputable def b_is_worth (cl : Fn → FF) : FS :=
  (sSeq (sExp (fArg (cl .f_sure_kind) (fCons (fVar 0) fNil)))
  sDead)
noncomputable def b_sure_given (cl : Fn → FF) : FS :=
  (sIf (fOr (fNot (fTru (fIsi "list" (fVar 0)))) (fNot (fTru (fArg gAll (fCons (fLc false (fiL (fVar 0)) (gN 1) fYes (fArg (cl .f_is_kind) (fCons (fVar 1) fNil)) [1]) fNil))))) (sRaise "NoKind") sNil)
noncomputable def b_term_kind (cl : Fn → FF) : FS :=
  (sSeq (sExp (fArg (cl .f_sure_given) (fCons (fVar 1) fNil)))
  sDead)
noncomputable def b_plain (cl : Fn → FF) : FS :=
  (sSeq (sExp (fArg (cl .f_sure_given) (fCons (fVar 1) fNil)))
  sDead)
noncomputable def b_same (cl : Fn → FF) : FS :=
  (sSeq (sExp (fArg (cl .f_sure_given) (fCons (fVar 2) fNil)))
  sDead)
noncomputable def b_turner (cl : Fn → FF) : FS :=
  (sSeq (sIf (fNot (fTru (fArg (cl .f_alike) (fCons (fVar 0) (fCons (fVar 1) fNil))))) sDead sNil)
  sDead)
noncomputable def b_turn_fault (cl : Fn → FF) : FS :=
  (sSeq (sExp (fArg (cl .f_sure_kind) (fCons (fVar 0) fNil)))
  (sSeq (sExp (fArg (cl .f_sure_kind) (fCons (fVar 1) fNil)))
  sDead))
noncomputable def l_is_library_0 (cl : Fn → FF) : FS :=
  (sIf (fOr (fNot (fTru (fIsi "tuple" (fVar 1)))) (fOr (fB (f2 gNe (fArg gLen (fCons (fVar 1) fNil)) (fC (.int 2)))) (fOr (fNot (fTru (fIsi "str" (f2 gIx (fVar 1) (fC (.int 0)))))) (fNot (fTru (fArg (cl .f_is_kind) (fCons (f2 gIx (fVar 1) (fC (.int 1))) fNil))))))) (sRet (fC (.bl false))) sNil)
noncomputable def b_is_library (cl : Fn → FF) : FS :=
  (sSeq (sIf (fNot (fTru (fIsi "list" (fVar 0)))) (sRet (fC (.bl false))) sNil)
  (sSeq (sFor (fiL (fVar 0)) (gN 1) (l_is_library_0 cl))
  (sSeq (sSet 2 (fLc false (fiL (fVar 0)) (gTu 2 (gsCons (gN 3) (gsCons (gN 4) gsNil))) fYes (fVar 3) [3, 4]))
  (sRet (f2 gEq (f1 gLenSet (fVar 2)) (fArg gLen (fCons (fVar 2) fNil)))))))
noncomputable def b_sure_library (cl : Fn → FF) : FS :=
  (sIf (fNot (fTru (fArg (cl .f_is_library) (fCons (fVar 0) fNil)))) (sRaise "NoLibrary") sNil)
noncomputable def b_search (cl : Fn → FF) : FS :=
  (sSeq (sExp (fArg (cl .f_sure_kind) (fCons (fVar 1) fNil)))
  (sSeq (sExp (fArg (cl .f_sure_library) (fCons (fVar 0) fNil)))
  sDead))
noncomputable def b_search_fault (cl : Fn → FF) : FS :=
  (sSeq (sExp (fArg (cl .f_sure_kind) (fCons (fVar 1) fNil)))
  (sSeq (sExp (fArg (cl .f_sure_library) (fCons (fVar 0) fNil)))
  sDead))
noncomputable def b__law_well (cl : Fn → FF) : FS :=
  (sRet (fArg mkCel (fCons (f2 (gMul false) (fVar 0) (fArg gInt (fCons (f2 (gCmp fun i j => decide (j ≤ i)) (fVar 0) (f2 gPow (fC (.int 10)) (fC (.int 18)))) fNil))) (fCons (fVar 0) (fCons (fC (.int 0)) fNil)))))
noncomputable def b__law_draw (cl : Fn → FF) : FS :=
  (sSeq (sIf (fB (f2 (gCmp fun i j => decide (j < i)) (f2 gIx (fVar 0) (fC (.int 0))) (fC (.int 0)))) (sSeq (sSet 3 (f2 gMod (f2 gIx (fVar 0) (fC (.int 0))) (fVar 1)))
  (sSeq (sAsg (f2 gDiv (f2 gIx (fVar 0) (fC (.int 0))) (fVar 1)) (gSb (fVar 0) (fC (.int 0))))
  (sRet (fVar 3)))) sNil)
  (sSeq (sAsg (f2 (gAdd false) (f2 gIx (fVar 0) (fC (.int 2))) (fC (.int 1))) (gSb (fVar 0) (fC (.int 2))))
  (sSeq (sSet 2 (f2 (gAdd false) (f2 gMod (f2 gIx (fVar 0) (fC (.int 1))) (fC (.int 2147483629))) (f2 (gMul false) (f2 gDiv (f2 gIx (fVar 0) (fC (.int 1))) (fC (.int 2147483629))) (fC (.int 30013)))))
  (sSeq (sSet 2 (f2 gMod (f2 (gMul false) (f2 (gAdd false) (f2 (gAdd false) (fVar 2) (f2 (gMul false) (fC (.int 69623)) (f2 gIx (fVar 0) (fC (.int 2))))) (fC (.int 1))) (fC (.int 48271))) (fC (.int 2147483647))))
  (sSeq (sSet 2 (f2 gMod (f2 (gMul false) (fVar 2) (f2 (gAdd false) (f2 (gAdd false) (f2 gDiv (fVar 2) (fC (.int 1013))) (fC (.int 69621))) (f2 gIx (fVar 0) (fC (.int 2))))) (fC (.int 2147483629))))
  (sRet (f2 gMod (f2 gMod (f2 (gMul false) (fVar 2) (f2 (gAdd false) (f2 gDiv (fVar 2) (fC (.int 2011))) (fC (.int 40692)))) (fC (.int 2147483399))) (fVar 1))))))))
noncomputable def l__law_deep_0 (cl : Fn → FF) : FS :=
  (sSeq (sSet 4 (f2 gIx (fArg mkLst (fCons (fArg mkTup (fCons (fC (.str "unit")) fNil)) (fCons (fArg mkTup (fCons (fC (.str "base")) (fCons (fArg (cl .f__law_draw) (fCons (fVar 0) (fCons (fC (.int 8)) fNil))) fNil))) (fCons (fArg mkTup (fCons (fC (.str "both")) (fCons (fArg mkTup (fCons (fC (.str "base")) (fCons (fC (.int 1)) fNil))) (fCons (fArg mkTup (fCons (fC (.str "unit")) fNil)) fNil)))) fNil)))) (fArg (cl .f__law_draw) (fCons (fVar 0) (fCons (fC (.int 3)) fNil)))))
  (sSeq (sSet 5 (f2 gIx (fArg mkLst (fCons (fC (.str "both")) (fCons (fC (.str "from")) fNil))) (fArg (cl .f__law_draw) (fCons (fVar 0) (fCons (fC (.int 2)) fNil)))))
  (sSet 2 (f2 gIx (fArg mkLst (fCons (fArg mkTup (fCons (fVar 5) (fCons (fVar 2) (fCons (fVar 4) fNil)))) (fCons (fArg mkTup (fCons (fVar 5) (fCons (fVar 4) (fCons (fVar 2) fNil)))) fNil))) (fArg (cl .f__law_draw) (fCons (fVar 0) (fCons (fC (.int 2)) fNil)))))))
noncomputable def b__law_deep (cl : Fn → FF) : FS :=
  (sSeq (sSet 2 (f2 gIx (fArg mkLst (fCons (fArg mkTup (fCons (fC (.str "unit")) fNil)) (fCons (fArg mkTup (fCons (fC (.str "base")) (fCons (fArg (cl .f__law_draw) (fCons (fVar 0) (fCons (fC (.int 8)) fNil))) fNil))) fNil))) (fArg (cl .f__law_draw) (fCons (fVar 0) (fCons (fC (.int 2)) fNil)))))
  (sSeq (sFor (fiR1 (fCons (fVar 1) fNil)) (gN 3) (l__law_deep_0 cl))
  (sRet (fVar 2))))
noncomputable def b__law_odd (cl : Fn → FF) : FS :=
  (sSeq (sSet 2 (fArg mkCel (fCons (fArg mkTup (fCons (fC (.str "base")) (fCons (fC (.int 8)) fNil))) (fCons (fArg mkTup (fCons (fC (.str "base")) (fCons (f1 gNeg (fC (.int 1))) fNil))) (fCons (fArg mkTup (fCons (fC (.str "base")) (fCons (fC (.bl true)) fNil))) (fCons (fArg mkTup (fCons (fC (.str "base")) (fCons (fC (.str "1")) fNil))) (fCons (fArg mkTup (fCons (fC (.str "base")) (fCons (fC .non) fNil))) (fCons (fArg mkTup (fCons (fC (.str "base")) (fCons (fArg mkTup (fCons (fC (.int 0)) fNil)) fNil))) fNil))))))))
  (sSeq (sExp (fMth gAppend (fVar 2) (fCons (fArg mkTup (fCons (fC (.str "base")) (fCons (f2 gPow (fC (.int 10)) (fC (.int 30))) fNil))) fNil)))
  (sSeq (sSet 2 (f2 (gAdd true) (fVar 2) (fArg mkLst (fCons (fArg (gList false) (fCons (fVar 1) fNil)) (fCons (fSl (gSl false) (fVar 1) fNone (fSome (f1 gNeg (fC (.int 1))))) (fCons (f2 (gAdd false) (fVar 1) (fArg mkTup (fCons (fArg mkTup (fCons (fC (.str "unit")) fNil)) fNil))) (fCons (fArg mkTup fNil) (fCons (fC .non) (fCons (fC (.int 7)) (fCons (fC (.str "a")) (fCons (fC (.bl true)) (fCons (fDic [] []) (fCons (fArg mkTup (fCons (fC (.str "units")) fNil)) (fCons (fArg mkTup (fCons (fVar 1) fNil)) fNil))))))))))))))
  (sSeq (sSet 2 (f2 (gAdd true) (fVar 2) (fArg mkLst (fCons (fArg mkTup (fCons (fC (.str "base")) fNil)) (fCons (fArg mkTup (fCons (fC (.str "base")) (fCons (fC (.int 1)) (fCons (fC (.int 2)) fNil)))) (fCons (fArg mkTup (fCons (fC (.str "unit")) (fCons (fArg mkTup (fCons (fC (.str "unit")) fNil)) fNil))) (fCons (fArg mkTup (fCons (fC (.str "Both")) (fCons (fVar 1) (fCons (fVar 1) fNil)))) (fCons (fArg mkTup (fCons (fC (.str "both")) (fCons (fVar 1) fNil))) (fCons (fArg mkTup (fCons (fC .non) (fCons (fVar 1) fNil))) fNil)))))))))
  (sRet (f2 gIx (fVar 2) (fArg (cl .f__law_draw) (fCons (fVar 0) (fCons (fC (.int 24)) fNil)))))))))
noncomputable def b__law_spoilt (cl : Fn → FF) : FS :=
  (sSeq (sIf (fOr (fB (f2 (gIn false) (f2 gIx (fVar 1) (fC (.int 0))) (fArg mkLst (fCons (fC (.str "base")) (fCons (fC (.str "unit")) fNil))))) (fB (f2 gEq (fArg (cl .f__law_draw) (fCons (fVar 0) (fCons (fC (.int 8)) fNil))) (fC (.int 0))))) (sRet (fArg (cl .f__law_odd) (fCons (fVar 0) (fCons (fVar 1) fNil)))) sNil)
  (sSeq (sIf (fB (f2 gEq (fArg (cl .f__law_draw) (fCons (fVar 0) (fCons (fC (.int 2)) fNil))) (fC (.int 0)))) (sRet (fArg mkTup (fCons (f2 gIx (fVar 1) (fC (.int 0))) (fCons (fArg (cl .f__law_spoilt) (fCons (fVar 0) (fCons (f2 gIx (fVar 1) (fC (.int 1))) fNil))) (fCons (f2 gIx (fVar 1) (fC (.int 2))) fNil))))) sNil)
  (sRet (fArg mkTup (fCons (f2 gIx (fVar 1) (fC (.int 0))) (fCons (f2 gIx (fVar 1) (fC (.int 1))) (fCons (fArg (cl .f__law_spoilt) (fCons (fVar 0) (fCons (f2 gIx (fVar 1) (fC (.int 2))) fNil))) fNil)))))))
noncomputable def b__law_word (act : FE) : FS :=
  (sSeq (sSet 1 (fC (.str "none")))
  (sSeq (sTryC excs [((fun y => isx y "NoKind"), some 2, (fun y a => (sSet 1 (f2 gIx (fArg mkLst (fCons (fC (.str "kind")) (fCons (fC (.str "both")) fNil))) (fArg gInt (fCons (fIsE a (isx y "NoLibrary") (fVar 2)) fNil)))))), ((fun y => isx y "NoLibrary"), none, (fun y a => (sSet 1 (fC (.str "library"))))), ((fun y => isx y "SwapError"), none, (fun y a => (sSet 1 (fC (.str "other")))))] (sExp act))
  (sRet (fVar 1))))
def ob__law_asks (i : Nat) (L : Addr) : Ob := cloOf (defScope s__law_asks) "_law_asks" (match i with
  | 0 => lamSt ((defBody s__law_asks).getD 3 (.Pass ⟨0, 0, 0, 0⟩))
  | 1 => lamSt ((defBody s__law_asks).getD 4 (.Pass ⟨0, 0, 0, 0⟩))
  | 2 => lamSt ((defBody s__law_asks).getD 5 (.Pass ⟨0, 0, 0, 0⟩))
  | 3 => lamSt ((defBody s__law_asks).getD 6 (.Pass ⟨0, 0, 0, 0⟩))
  | 4 => lamSt ((defBody s__law_asks).getD 7 (.Pass ⟨0, 0, 0, 0⟩))
  | 5 => lamSt ((defBody s__law_asks).getD 8 (.Pass ⟨0, 0, 0, 0⟩))
  | 6 => lamSt ((defBody s__law_asks).getD 9 (.Pass ⟨0, 0, 0, 0⟩))
  | 7 => lamSt ((defBody s__law_asks).getD 10 (.Pass ⟨0, 0, 0, 0⟩))
  | 8 => lamSt ((defBody s__law_asks).getD 11 (.Pass ⟨0, 0, 0, 0⟩))
  | 9 => lamSt ((defBody s__law_asks).getD 12 (.Pass ⟨0, 0, 0, 0⟩))
  | 10 => lamSt ((defBody s__law_asks).getD 13 (.Pass ⟨0, 0, 0, 0⟩))
  | 11 => lamSt ((defBody s__law_asks).getD 14 (.Pass ⟨0, 0, 0, 0⟩))
  | 12 => lamSt ((defBody s__law_asks).getD 15 (.Pass ⟨0, 0, 0, 0⟩))
  | 13 => lamSt ((defBody s__law_asks).getD 16 (.Pass ⟨0, 0, 0, 0⟩))
  | 14 => lamSt ((defBody s__law_asks).getD 17 (.Pass ⟨0, 0, 0, 0⟩))
  | 15 => lamSt ((defBody s__law_asks).getD 18 (.Pass ⟨0, 0, 0, 0⟩))
  | 16 => lamSt ((defBody s__law_asks).getD 19 (.Pass ⟨0, 0, 0, 0⟩))
  | 17 => lamSt ((defBody s__law_asks).getD 20 (.Pass ⟨0, 0, 0, 0⟩))
  | _ => none) L
noncomputable def b0__law_asks (ob : Nat → Ob) (cl : Fn → FF) : FL :=
  (sSeqL (sAsg (fArg mkTup (fCons (f2 gIx (fArg mkLst (fCons (f2 (gMul false) (fArg mkLst (fCons (fC (.int 2)) fNil)) (fC (.int 8))) (fCons (fVar 2) fNil))) (fArg gInt (fCons (f2 (gIs true) (fVar 2) (fC .non)) fNil))) (fCons (f2 gIx (fArg mkLst (fCons (fC (.int 7)) (fCons (fVar 2) fNil))) (fArg gInt (fCons (f2 (gIs true) (fVar 2) (fC .non)) fNil))) fNil))) (gTu 2 (gsCons (gN 3) (gsCons (gN 4) gsNil))))
  (sSeqL (sSet 5 (f2 gIx (fArg mkLst (fCons (fArg mkTup (fCons (fC (.str "unit")) fNil)) (fCons (fVar 2) fNil))) (fArg gInt (fCons (f2 (gIs true) (fVar 2) (fC .non)) fNil))))
  (sSeqL (sSet 6 (f2 gIx (fArg mkLst (fCons (fArg mkLst (fCons (fArg mkTup (fCons (fC (.str "x")) (fCons (fVar 1) fNil))) fNil)) (fCons (fVar 2) fNil))) (fArg gInt (fCons (f2 (gIs true) (fVar 2) (fC .non)) fNil))))
  (sSeqL (sSet 7 (fArg mkCel (fCons (fLam 2 "_law_asks" 0 (ob 0)) fNil)))
  (sSeqL (sExp (fMth gAppend (fVar 7) (fCons (fLam 2 "_law_asks" 1 (ob 1)) fNil)))
  (sSeqL (sExp (fMth gAppend (fVar 7) (fCons (fLam 2 "_law_asks" 2 (ob 2)) fNil)))
  (sSeqL (sExp (fMth gAppend (fVar 7) (fCons (fLam 2 "_law_asks" 3 (ob 3)) fNil)))
  (sSeqL (sExp (fMth gAppend (fVar 7) (fCons (fLam 2 "_law_asks" 4 (ob 4)) fNil)))
  (sSeqL (sExp (fMth gAppend (fVar 7) (fCons (fLam 2 "_law_asks" 5 (ob 5)) fNil)))
  (sSeqL (sExp (fMth gAppend (fVar 7) (fCons (fLam 2 "_law_asks" 6 (ob 6)) fNil)))
  (sSeqL (sExp (fMth gAppend (fVar 7) (fCons (fLam 2 "_law_asks" 7 (ob 7)) fNil)))
  (sSeqL (sExp (fMth gAppend (fVar 7) (fCons (fLam 2 "_law_asks" 8 (ob 8)) fNil)))
  (sSeqL (sExp (fMth gAppend (fVar 7) (fCons (fLam 2 "_law_asks" 9 (ob 9)) fNil)))
  (sSeqL (sExp (fMth gAppend (fVar 7) (fCons (fLam 2 "_law_asks" 10 (ob 10)) fNil)))
  (sSeqL (sExp (fMth gAppend (fVar 7) (fCons (fLam 2 "_law_asks" 11 (ob 11)) fNil)))
  (sSeqL (sExp (fMth gAppend (fVar 7) (fCons (fLam 2 "_law_asks" 12 (ob 12)) fNil)))
  (sSeqL (sExp (fMth gAppend (fVar 7) (fCons (fLam 2 "_law_asks" 13 (ob 13)) fNil)))
  (sSeqL (sExp (fMth gAppend (fVar 7) (fCons (fLam 2 "_law_asks" 14 (ob 14)) fNil)))
  (sSeqL (sExp (fMth gAppend (fVar 7) (fCons (fLam 2 "_law_asks" 15 (ob 15)) fNil)))
  (sSeqL (sExp (fMth gAppend (fVar 7) (fCons (fLam 2 "_law_asks" 16 (ob 16)) fNil)))
  (sSeqL (sExp (fMth gAppend (fVar 7) (fCons (fLam 2 "_law_asks" 17 (ob 17)) fNil)))
  (sRetL 7))))))))))))))))))))))
noncomputable def lcs__law_asks (cl : Fn → FF) : List LC := [⟨ob__law_asks 0, celAs (defScope s__law_asks).names (List.take 7 ["_law_bad", "_law_good", "_law_odd_here", "_law_sizes", "_law_by", "_law_term", "_law_library", "_law_found"]), 8, 7, (fArg (cl .f_kind_text) (fCons (fVar 0) fNil))⟩,
  ⟨ob__law_asks 1, celAs (defScope s__law_asks).names (List.take 7 ["_law_bad", "_law_good", "_law_odd_here", "_law_sizes", "_law_by", "_law_term", "_law_library", "_law_found"]), 8, 7, (fArg (cl .f_form) (fCons (fVar 0) fNil))⟩,
  ⟨ob__law_asks 2, celAs (defScope s__law_asks).names (List.take 7 ["_law_bad", "_law_good", "_law_odd_here", "_law_sizes", "_law_by", "_law_term", "_law_library", "_law_found"]), 8, 7, (fArg (cl .f_alike) (fCons (fVar 0) (fCons (fVar 1) fNil)))⟩,
  ⟨ob__law_asks 3, celAs (defScope s__law_asks).names (List.take 7 ["_law_bad", "_law_good", "_law_odd_here", "_law_sizes", "_law_by", "_law_term", "_law_library", "_law_found"]), 8, 7, (fArg (cl .f_alike) (fCons (fVar 1) (fCons (fVar 0) fNil)))⟩,
  ⟨ob__law_asks 4, celAs (defScope s__law_asks).names (List.take 7 ["_law_bad", "_law_good", "_law_odd_here", "_law_sizes", "_law_by", "_law_term", "_law_library", "_law_found"]), 8, 7, (fArg (cl .f_many) (fCons (fVar 0) (fCons (fVar 3) fNil)))⟩,
  ⟨ob__law_asks 5, celAs (defScope s__law_asks).names (List.take 7 ["_law_bad", "_law_good", "_law_odd_here", "_law_sizes", "_law_by", "_law_term", "_law_library", "_law_found"]), 8, 7, (fArg (cl .f_rest) (fCons (fVar 0) (fCons (fVar 3) (fCons (fVar 4) fNil))))⟩,
  ⟨ob__law_asks 6, celAs (defScope s__law_asks).names (List.take 7 ["_law_bad", "_law_good", "_law_odd_here", "_law_sizes", "_law_by", "_law_term", "_law_library", "_law_found"]), 8, 7, (fArg (cl .f_apart) (fCons (fVar 0) (fCons (fVar 1) fNil)))⟩,
  ⟨ob__law_asks 7, celAs (defScope s__law_asks).names (List.take 7 ["_law_bad", "_law_good", "_law_odd_here", "_law_sizes", "_law_by", "_law_term", "_law_library", "_law_found"]), 8, 7, (fArg (cl .f_apart) (fCons (fVar 1) (fCons (fVar 0) fNil)))⟩,
  ⟨ob__law_asks 8, celAs (defScope s__law_asks).names (List.take 7 ["_law_bad", "_law_good", "_law_odd_here", "_law_sizes", "_law_by", "_law_term", "_law_library", "_law_found"]), 8, 7, (fArg (cl .f_apart_fault) (fCons (fVar 0) (fCons (fVar 1) (fCons (fVar 2) fNil))))⟩,
  ⟨ob__law_asks 9, celAs (defScope s__law_asks).names (List.take 7 ["_law_bad", "_law_good", "_law_odd_here", "_law_sizes", "_law_by", "_law_term", "_law_library", "_law_found"]), 8, 7, (fArg (cl .f_apart_fault) (fCons (fVar 1) (fCons (fVar 0) (fCons (fVar 2) fNil))))⟩,
  ⟨ob__law_asks 10, celAs (defScope s__law_asks).names (List.take 7 ["_law_bad", "_law_good", "_law_odd_here", "_law_sizes", "_law_by", "_law_term", "_law_library", "_law_found"]), 8, 7, (fArg (cl .f_worths) (fCons (fVar 0) (fCons (fVar 3) fNil)))⟩,
  ⟨ob__law_asks 11, celAs (defScope s__law_asks).names (List.take 7 ["_law_bad", "_law_good", "_law_odd_here", "_law_sizes", "_law_by", "_law_term", "_law_library", "_law_found"]), 8, 7, (fArg (cl .f_is_worth) (fCons (fVar 0) (fCons (fVar 3) (fCons (fC (.int 0)) fNil))))⟩,
  ⟨ob__law_asks 12, celAs (defScope s__law_asks).names (List.take 7 ["_law_bad", "_law_good", "_law_odd_here", "_law_sizes", "_law_by", "_law_term", "_law_library", "_law_found"]), 8, 7, (fArg (cl .f_turner) (fCons (fVar 0) (fCons (fVar 1) fNil)))⟩,
  ⟨ob__law_asks 13, celAs (defScope s__law_asks).names (List.take 7 ["_law_bad", "_law_good", "_law_odd_here", "_law_sizes", "_law_by", "_law_term", "_law_library", "_law_found"]), 8, 7, (fArg (cl .f_turner) (fCons (fVar 1) (fCons (fVar 0) fNil)))⟩,
  ⟨ob__law_asks 14, celAs (defScope s__law_asks).names (List.take 7 ["_law_bad", "_law_good", "_law_odd_here", "_law_sizes", "_law_by", "_law_term", "_law_library", "_law_found"]), 8, 7, (fArg (cl .f_turn_fault) (fCons (fVar 0) (fCons (fVar 1) (fCons (fVar 5) (fCons (fVar 5) fNil)))))⟩,
  ⟨ob__law_asks 15, celAs (defScope s__law_asks).names (List.take 7 ["_law_bad", "_law_good", "_law_odd_here", "_law_sizes", "_law_by", "_law_term", "_law_library", "_law_found"]), 8, 7, (fArg (cl .f_turn_fault) (fCons (fVar 1) (fCons (fVar 0) (fCons (fVar 5) (fCons (fVar 5) fNil)))))⟩,
  ⟨ob__law_asks 16, celAs (defScope s__law_asks).names (List.take 7 ["_law_bad", "_law_good", "_law_odd_here", "_law_sizes", "_law_by", "_law_term", "_law_library", "_law_found"]), 8, 7, (fArg (cl .f_search) (fCons (fVar 6) (fCons (fVar 0) fNil)))⟩,
  ⟨ob__law_asks 17, celAs (defScope s__law_asks).names (List.take 7 ["_law_bad", "_law_good", "_law_odd_here", "_law_sizes", "_law_by", "_law_term", "_law_library", "_law_found"]), 8, 7, (fArg (cl .f_search_fault) (fCons (fVar 6) (fCons (fVar 0) (fCons (fC (.str "x")) (fCons (fVar 2) fNil)))))⟩]
def ob__law_lists_right (i : Nat) (L : Addr) : Ob := cloOf (defScope s__law_lists_right) "_law_lists_right" (match i with
  | 0 => lamSt ((defBody s__law_lists_right).getD 4 (.Pass ⟨0, 0, 0, 0⟩))
  | 1 => lamSt ((defBody s__law_lists_right).getD 5 (.Pass ⟨0, 0, 0, 0⟩))
  | 2 => lamSt ((defBody s__law_lists_right).getD 6 (.Pass ⟨0, 0, 0, 0⟩))
  | 3 => lamSt ((defBody s__law_lists_right).getD 7 (.Pass ⟨0, 0, 0, 0⟩))
  | 4 => lamSt ((defBody s__law_lists_right).getD 11 (.Pass ⟨0, 0, 0, 0⟩))
  | 5 => lamSt ((defBody s__law_lists_right).getD 12 (.Pass ⟨0, 0, 0, 0⟩))
  | _ => none) L
noncomputable def b0__law_lists_right (ob : Nat → Ob) (cl cl2 : Fn → FF) : FS :=
  (sSeq (sSet 3 (fSl (gSl false) (fArg mkLst (fCons (fVar 2) (fCons (fArg mkTup (fCons (fC (.str "unit")) fNil)) (fCons (fArg mkTup (fCons (fC (.str "base")) (fCons (fC (.int 3)) fNil))) (fCons (fVar 2) fNil))))) fNone (fSome (fArg (cl .f__law_draw) (fCons (fVar 0) (fCons (fC (.int 5)) fNil))))))
  (sSeq (sSet 4 (fArg (cl .f__law_draw) (fCons (fVar 0) (fCons (f2 (gAdd false) (fArg gLen (fCons (fVar 3) fNil)) (fC (.int 1))) fNil))))
  (sSeq (sSet 5 (f2 (gAdd false) (f2 (gAdd false) (fSl (gSl false) (fVar 3) fNone (fSome (fVar 4))) (fArg mkLst (fCons (fVar 1) fNil))) (fSl (gSl false) (fVar 3) (fSome (fVar 4)) fNone)))
  (sSeq (sSet 6 (f2 gIx (fArg mkLst (fCons (fArg mkTup (fCons (fC (.str "unit")) fNil)) (fCons (fArg mkTup (fCons (fC (.str "given")) (fCons (fC (.int 0)) fNil))) (fCons (fC .non) (fCons (fC (.int 5)) fNil))))) (fArg (cl .f__law_draw) (fCons (fVar 0) (fCons (fC (.int 4)) fNil)))))
  (sSeq (sSet 7 (fArg mkCel (fCons (fLam 3 "_law_lists_right" 0 (ob 0)) fNil)))
  (sSeq (sExp (fMth gAppend (fVar 7) (fCons (fLam 3 "_law_lists_right" 1 (ob 1)) fNil)))
  (sSeq (sExp (fMth gAppend (fVar 7) (fCons (fLam 3 "_law_lists_right" 2 (ob 2)) fNil)))
  (sSeq (sExp (fMth gAppend (fVar 7) (fCons (fLam 3 "_law_lists_right" 3 (ob 3)) fNil)))
  (sSeq (sIf (fB (f2 gNe (fLc false (fiL (fVar 7)) (gN 12) fYes (fThunkV (tabQ "_law_lists_right") 3 b__law_word [(ob 0, (fArg (cl2 .f_term_kind) (fCons (fVar 6) (fCons (fVar 5) fNil)))), (ob 1, (fArg (cl2 .f_plain) (fCons (fVar 6) (fCons (fVar 5) fNil)))), (ob 2, (fArg (cl2 .f_same) (fCons (fVar 6) (fCons (fArg mkTup (fCons (fC (.str "unit")) fNil)) (fCons (fVar 5) fNil))))), (ob 3, (fArg (cl2 .f_same) (fCons (fArg mkTup (fCons (fC (.str "unit")) fNil)) (fCons (fVar 6) (fCons (fVar 5) fNil)))))] [12] (fVar 12)) [12]) (f2 (gMul false) (fArg mkLst (fCons (fC (.str "kind")) fNil)) (fC (.int 4))))) (sRet (fC (.bl false))) sNil)
  (sSeq (sSet 8 (fLc false (fiE (fCons (fVar 5) fNil)) (gTu 2 (gsCons (gN 10) (gsCons (gN 11) gsNil))) fYes (fArg mkTup (fCons (f2 (gAdd false) (fC (.str "n")) (f2 (gMul false) (fC (.str "x")) (fVar 10))) (fCons (fVar 11) fNil))) [10, 11]))
  (sSeq (sSet 9 (f2 gIx (fArg mkLst (fCons (fC (.str "n")) (fCons (fC (.str "nx")) (fCons (fC (.str "none")) (fCons (fC .non) fNil))))) (fArg (cl .f__law_draw) (fCons (fVar 0) (fCons (fC (.int 4)) fNil)))))
  (sSeq (sSet 7 (fArg mkCel (fCons (fLam 3 "_law_lists_right" 4 (ob 4)) fNil)))
  (sSeq (sExp (fMth gAppend (fVar 7) (fCons (fLam 3 "_law_lists_right" 5 (ob 5)) fNil)))
  (sRet (f2 gEq (fLc false (fiL (fVar 7)) (gN 12) fYes (fThunkV (tabQ "_law_lists_right") 3 b__law_word [(ob 0, (fArg (cl2 .f_term_kind) (fCons (fVar 6) (fCons (fVar 5) fNil)))), (ob 1, (fArg (cl2 .f_plain) (fCons (fVar 6) (fCons (fVar 5) fNil)))), (ob 2, (fArg (cl2 .f_same) (fCons (fVar 6) (fCons (fArg mkTup (fCons (fC (.str "unit")) fNil)) (fCons (fVar 5) fNil))))), (ob 3, (fArg (cl2 .f_same) (fCons (fArg mkTup (fCons (fC (.str "unit")) fNil)) (fCons (fVar 6) (fCons (fVar 5) fNil))))), (ob 4, (fArg (cl2 .f_search) (fCons (fVar 8) (fCons (fVar 2) fNil)))), (ob 5, (fArg (cl2 .f_search_fault) (fCons (fVar 8) (fCons (fVar 2) (fCons (fVar 9) (fCons (fC .non) fNil))))))] [12] (fVar 12)) [12]) (f2 (gMul false) (fArg mkLst (fCons (fC (.str "library")) fNil)) (fC (.int 2))))))))))))))))))
noncomputable def b__law_lists_right (cl cl2 : Fn → FF) : FS := aObsF fun ob => b0__law_lists_right ob cl cl2
noncomputable def l_law_0 (cl : Fn → FF) : FS :=
  (sSeq (sSet 2 (fArg (cl .f__law_well) (fCons (fVar 1) fNil)))
  (sSeq (sSet 3 (fArg (cl .f__law_deep) (fCons (fVar 2) (fCons (f2 (gAdd false) (fC (.int 1)) (fArg (cl .f__law_draw) (fCons (fVar 2) (fCons (fC (.int 12)) fNil)))) fNil))))
  (sSeq (sSet 4 (fArg (cl .f__law_spoilt) (fCons (fVar 2) (fCons (fVar 3) fNil))))
  (sSeq (sIf (fOr (fB (f2 (gIs true) (fArg (cl .f_is_kind) (fCons (fVar 3) fNil)) (fC (.bl true)))) (fOr (fB (f2 (gIs true) (fArg (cl .f_is_kind) (fCons (fVar 4) fNil)) (fC (.bl false)))) (fB (f2 gNe (fArg (cl .f_read_kind) (fCons (fArg (cl .f_kind_text) (fCons (fVar 3) fNil)) fNil)) (fVar 3))))) (sRet (fC (.bl false))) sNil)
  (sSeq (sSet 5 (f2 gIx (fArg mkLst (fCons (fArg mkTup (fCons (fC (.str "base")) (fCons (fC (.int 2)) fNil))) (fCons (fArg mkTup (fCons (fC (.str "unit")) fNil)) (fCons (fArg mkTup (fCons (fC (.str "both")) (fCons (fArg mkTup (fCons (fC (.str "base")) (fCons (fC (.int 1)) fNil))) (fCons (fArg mkTup (fCons (fC (.str "base")) (fCons (fC (.int 0)) fNil))) fNil)))) fNil)))) (fArg (cl .f__law_draw) (fCons (fVar 2) (fCons (fC (.int 3)) fNil)))))
  (sSeq (sSet 6 (f2 gIx (fArg mkLst (fCons (fDic [] []) (fCons (fC (.str "none")) (fCons (fC (.int 0)) (fCons (fArg mkLst (fCons (fC (.int 0)) fNil)) (fCons (fArg mkTup (fCons (fC .non) fNil)) (fCons (fC (.bl true)) fNil))))))) (fArg (cl .f__law_draw) (fCons (fVar 2) (fCons (fC (.int 6)) fNil)))))
  (sSeq (sSet 7 (fLc false (fiL (f2 (gAdd false) (fArg (cl .f__law_asks) (fCons (fVar 4) (fCons (fVar 5) (fCons (fC .non) fNil)))) (fArg (cl .f__law_asks) (fCons (fVar 4) (fCons (fVar 5) (fCons (fVar 6) fNil)))))) (gN 8) fYes (fArg (cl .f__law_word) (fCons (fVar 8) fNil)) [8]))
  (sIf (fOr (fB (f2 gNe (fVar 7) (f2 (gMul false) (fArg mkLst (fCons (fC (.str "kind")) fNil)) (fC (.int 36))))) (fNot (fTru (fArg (cl .f__law_lists_right) (fCons (fVar 2) (fCons (fVar 4) (fCons (fVar 5) fNil))))))) (sRet (fC (.bl false))) sNil))))))))
noncomputable def b_law (cl : Fn → FF) : FS :=
  (sSeq (sFor (fiL (f2 (gAdd false) (fArg mkLst (fCons (fC (.int 0)) (fCons (fC (.int 3)) fNil))) (fSl (gSl false) (fVar 0) fNone (fSome (fC (.int 8)))))) (gN 1) (l_law_0 cl))
  (sRet (fC (.bl true))))
noncomputable def ev : Nat → Fn → FF
  | 0, _ => fun _ _ => .no
  | n + 1, .f_is_from => fnB 3 3 (b_is_from (ev n))
  | n + 1, .f_inner_of => fnB 1 1 (b_inner_of (ev n))
  | n + 1, .f_is_kind => fnC 1 3 (b_is_kind (ev n))
  | n + 1, .f_sure_kind => fnB 1 1 (b_sure_kind (ev n))
  | n + 1, .f_plain_text => fnB 1 1 (b_plain_text (ev n))
  | n + 1, .f_kind_text => fnB 1 1 (b_kind_text (ev n))
  | n + 1, .f_closed => fnB 1 1 (b_closed (ev n))
  | n + 1, .f_read_kind => fnC 1 3 (b_read_kind (ev n))
  | n + 1, .f_order_of => fnB 1 1 (b_order_of (ev n))
  | n + 1, .f_in_order => fnB 1 2 (b_in_order (ev n))
  | n + 1, .f_wants_with => fnB 2 2 (b_wants_with (ev n))
  | n + 1, .f_plain_form => fnB 1 4 (b_plain_form (ev n))
  | n + 1, .f_form => fnB 1 1 (b_form (ev n))
  | n + 1, .f_alike => fnB 2 2 (b_alike (ev n))
  | n + 1, .f_many => fnB 2 3 (b_many (ev n))
  | n + 1, .f_rest => fnB 3 3 (b_rest (ev n))
  | n + 1, .f_apart => fnB 2 5 (b_apart (ev n))
  | n + 1, .f_apart_fault => fnB 3 6 (b_apart_fault (ev n))
  | n + 1, .f_worths => fnB 2 2 (b_worths (ev n))
  | n + 1, .f_is_worth => fnB 3 3 (b_is_worth (ev n))
  | n + 1, .f_sure_given => fnB 1 2 (b_sure_given (ev n))
  | n + 1, .f_term_kind => fnB 2 2 (b_term_kind (ev n))
  | n + 1, .f_plain => fnB 2 2 (b_plain (ev n))
  | n + 1, .f_same => fnB 3 5 (b_same (ev n))
  | n + 1, .f_turner => fnB 2 2 (b_turner (ev n))
  | n + 1, .f_turn_fault => fnB 4 4 (b_turn_fault (ev n))
  | n + 1, .f_is_library => fnB 1 5 (b_is_library (ev n))
  | n + 1, .f_sure_library => fnB 1 1 (b_sure_library (ev n))
  | n + 1, .f_search => fnC 2 7 (b_search (ev n))
  | n + 1, .f_search_fault => fnB 4 9 (b_search_fault (ev n))
  | n + 1, .f__law_well => fnB 1 1 (b__law_well (ev n))
  | n + 1, .f__law_draw => fnB 2 4 (b__law_draw (ev n))
  | n + 1, .f__law_deep => fnB 2 6 (b__law_deep (ev n))
  | n + 1, .f__law_odd => fnC 2 3 (b__law_odd (ev n))
  | n + 1, .f__law_spoilt => fnB 2 2 (b__law_spoilt (ev n))
  | 1, .f__law_word => fun _ _ => .no
  | n + 2, .f__law_word => fnB 1 3 (b__law_word (fActC (tabQ "_law_asks") (lcs__law_asks (ev n))))
  | n + 1, .f__law_asks => fnL 3 8 7 18 (tabQ "_law_asks") ob__law_asks (celAs (defScope s__law_asks).names (List.take 7 ["_law_bad", "_law_good", "_law_odd_here", "_law_sizes", "_law_by", "_law_term", "_law_library", "_law_found"])) (fun ob => b0__law_asks ob (ev n))
  | 1, .f__law_lists_right => fun _ _ => .no
  | 2, .f__law_lists_right => fun _ _ => .no
  | n + 3, .f__law_lists_right => fnC 3 13 (b__law_lists_right (ev (n + 2)) (ev n))
  | n + 1, .f_law => fnB 1 9 (b_law (ev n))
@[reducible] def calOf [Wo] (P : Program) (w : World) (K : PySem.W.Frag) (mg : Str → Option Value) (base : Heap) (k : Nat) (g : Fn) (f : FF) : Prop := match g with
  | .f_is_from => Cal P w K mg base k "is_from" f
  | .f_inner_of => Cal P w K mg base k "inner_of" f
  | .f_is_kind => Cal P w K mg base k "is_kind" f
  | .f_sure_kind => Cal P w K mg base k "sure_kind" f
  | .f_plain_text => Cal P w K mg base k "plain_text" f
  | .f_kind_text => Cal P w K mg base k "kind_text" f
  | .f_closed => Cal P w K mg base k "closed" f
  | .f_read_kind => Cal P w K mg base k "read_kind" f
  | .f_order_of => Cal P w K mg base k "order_of" f
  | .f_in_order => Cal P w K mg base k "in_order" f
  | .f_wants_with => Cal P w K mg base k "wants_with" f
  | .f_plain_form => Cal P w K mg base k "plain_form" f
  | .f_form => Cal P w K mg base k "form" f
  | .f_alike => Cal P w K mg base k "alike" f
  | .f_many => Cal P w K mg base k "many" f
  | .f_rest => Cal P w K mg base k "rest" f
  | .f_apart => Cal P w K mg base k "apart" f
  | .f_apart_fault => Cal P w K mg base k "apart_fault" f
  | .f_worths => Cal P w K mg base k "worths" f
  | .f_is_worth => Cal P w K mg base k "is_worth" f
  | .f_sure_given => Cal P w K mg base k "sure_given" f
  | .f_term_kind => Cal P w K mg base k "term_kind" f
  | .f_plain => Cal P w K mg base k "plain" f
  | .f_same => Cal P w K mg base k "same" f
  | .f_turner => Cal P w K mg base k "turner" f
  | .f_turn_fault => Cal P w K mg base k "turn_fault" f
  | .f_is_library => Cal P w K mg base k "is_library" f
  | .f_sure_library => Cal P w K mg base k "sure_library" f
  | .f_search => Cal P w K mg base k "search" f
  | .f_search_fault => Cal P w K mg base k "search_fault" f
  | .f__law_well => Cal P w K mg base k "_law_well" f
  | .f__law_draw => Cal P w K mg base k "_law_draw" f
  | .f__law_deep => Cal P w K mg base k "_law_deep" f
  | .f__law_odd => Cal P w K mg base k "_law_odd" f
  | .f__law_spoilt => Cal P w K mg base k "_law_spoilt" f
  | .f__law_word => Cal P w K mg base k "_law_word" f
  | .f__law_asks => Cal P w K mg base k "_law_asks" f
  | .f__law_lists_right => Cal P w K mg base k "_law_lists_right" f
  | .f_law => Cal P w K mg base k "law" f
structure Txt (K : PySem.W.Frag) (P : Params) (mg : Str → Option Value) : Prop where
  t_is_from : TF K mg "is_from" s_is_from ["thing", "low", "high"]
  t_inner_of : TF K mg "inner_of" s_inner_of ["thing"]
  t_is_kind : TF K mg "is_kind" s_is_kind ["thing"]
  t_sure_kind : TF K mg "sure_kind" s_sure_kind ["thing"]
  t_plain_text : TF K mg "plain_text" s_plain_text ["kind"]
  t_kind_text : TF K mg "kind_text" s_kind_text ["kind"]
  t_closed : TF K mg "closed" s_closed ["things"]
  t_read_kind : TF K mg "read_kind" s_read_kind ["text"]
  t_order_of : TF K mg "order_of" s_order_of ["things"]
  t_in_order : TF K mg "in_order" s_in_order ["things"]
  t_wants_with : TF K mg "wants_with" s_wants_with ["factor", "first"]
  t_plain_form : TF K mg "plain_form" s_plain_form ["kind"]
  t_form : TF K mg "form" s_form ["kind"]
  t_alike : TF K mg "alike" s_alike ["one", "other"]
  t_many : TF K mg "many" s_many ["kind", "sizes"]
  t_rest : TF K mg "rest" s_rest ["kind", "sizes", "by"]
  t_apart : TF K mg "apart" s_apart ["one", "other"]
  t_apart_fault : TF K mg "apart_fault" s_apart_fault ["one", "other", "thing"]
  t_worths : TF K mg "worths" s_worths ["kind", "sizes"]
  t_is_worth : TF K mg "is_worth" s_is_worth ["kind", "sizes", "thing"]
  t_sure_given : TF K mg "sure_given" s_sure_given ["given"]
  t_term_kind : TF K mg "term_kind" s_term_kind ["term", "given"]
  t_plain : TF K mg "plain" s_plain ["term", "given"]
  t_same : TF K mg "same" s_same ["one", "other", "given"]
  t_turner : TF K mg "turner" s_turner ["one", "other"]
  t_turn_fault : TF K mg "turn_fault" s_turn_fault ["one", "other", "there", "back"]
  t_is_library : TF K mg "is_library" s_is_library ["thing"]
  t_sure_library : TF K mg "sure_library" s_sure_library ["library"]
  t_search : TF K mg "search" s_search ["library", "kind"]
  t_search_fault : TF K mg "search_fault" s_search_fault ["library", "kind", "name", "thing"]
  t__law_well : TF K mg "_law_well" s__law_well ["_law_cell"]
  t__law_draw : TF K mg "_law_draw" s__law_draw ["_law_well_here", "_law_width"]
  t__law_deep : TF K mg "_law_deep" s__law_deep ["_law_well_here", "_law_deep_here"]
  t__law_odd : TF K mg "_law_odd" s__law_odd ["_law_well_here", "_law_kind"]
  t__law_spoilt : TF K mg "_law_spoilt" s__law_spoilt ["_law_well_here", "_law_kind"]
  t__law_word : TF K mg "_law_word" s__law_word ["_law_ask"]
  t__law_asks : TF K mg "_law_asks" s__law_asks ["_law_bad", "_law_good", "_law_odd_here"]
  t__law_lists_right : TF K mg "_law_lists_right" s__law_lists_right ["_law_well_here", "_law_bad", "_law_good"]
  m_all : mg "all" = none
  m_bool : mg "bool" = none
  m_enumerate : mg "enumerate" = none
  m_int : mg "int" = none
  m_isinstance : mg "isinstance" = none
  m_len : mg "len" = none
  m_list : mg "list" = none
  m_range : mg "range" = none
  m_set : mg "set" = none
  m_sorted : mg "sorted" = none
  m_str : mg "str" = none
  m_tuple : mg "tuple" = none
  c_LETTERS : GC mg "LETTERS" (.str "abcdefgh")
  c_MARKS : GD K P mg "MARKS" kv_MARKS
  c_SIGNS : GD K P mg "SIGNS" kv_SIGNS
  c_UNIT : GC mg "UNIT" (.str "1")
  x_NoKind : ExcF K mg "NoKind"
  x_NoLibrary : ExcF K mg "NoLibrary"
  x_NoText : ExcF K mg "NoText"
  xk : ∀ y ∈ excs, ExcK K mg y
  c_NoKind : CatF K mg excs "NoKind" (fun y => isx y "NoKind")
  c_NoLibrary : CatF K mg excs "NoLibrary" (fun y => isx y "NoLibrary")
  c_SwapError : CatF K mg excs "SwapError" (fun y => isx y "SwapError")
  i_NoLibrary : ∀ y ∈ excs, IsxO K mg y "NoLibrary" (isx y "NoLibrary")
section
variable {P : Program} {w : World} {K : PySem.W.Frag} {mg : Str → Option Value} {base : Heap}
theorem ok_is_from {k : Nat} {cl : Fn → FF} [Wo] (T : Txt K w.params mg) (hW : Wo.ww = w) (C : ∀ g : Fn, g ≠ .f_law → calOf P w K mg base k g (cl g)) (f : Addr) (cdv : Value) (A : Around) (outer : List Env) (s : Shared) (H : Hp) (E : XK) (hr : RoomG k (A.deeper (envOfC "is_from" (defScope s_is_from) s.heap.objs.size f cdv))) :
    PSs (cxOf (L2.CX P w) P w K mg base ["thing", "low", "high"] "is_from" (defScope s_is_from) f cdv A outer s H E) (defBody s_is_from) (tS (cxOf (L2.CX P w) P w K mg base ["thing", "low", "high"] "is_from" (defScope s_is_from) f cdv A outer s H E) (fun c d _ H => E c d H) (b_is_from cl)) := by
  have tk : Takes (cxOf (L2.CX P w) P w K mg base ["thing", "low", "high"] "is_from" (defScope s_is_from) f cdv A outer s H E) (fun c d _ H => E c d H) := takes_of rfl rfl rfl rfl
  have nd := sc_is_from.nd
  exact (q_last (q_ret (q_and (q_isi rfl T.m_isinstance rfl T.m_int (by decide +kernel) (by decide) (q_var 0)) (q_and (q_not (q_isi rfl T.m_isinstance rfl T.m_bool (by decide +kernel) (by decide) (q_var 0))) (q_one (q_chain op_le (cmp_v _) op_le (cmp_v _) (q_var 1) (q_var 0) (q_var 2)))))))
theorem ok_inner_of {k : Nat} {cl : Fn → FF} [Wo] (T : Txt K w.params mg) (hW : Wo.ww = w) (C : ∀ g : Fn, g ≠ .f_law → calOf P w K mg base k g (cl g)) (f : Addr) (cdv : Value) (A : Around) (outer : List Env) (s : Shared) (H : Hp) (E : XK) (hr : RoomG k (A.deeper (envOfC "inner_of" (defScope s_inner_of) s.heap.objs.size f cdv))) :
    PSs (cxOf (L2.CX P w) P w K mg base ["thing"] "inner_of" (defScope s_inner_of) f cdv A outer s H E) (defBody s_inner_of) (tS (cxOf (L2.CX P w) P w K mg base ["thing"] "inner_of" (defScope s_inner_of) f cdv A outer s H E) (fun c d _ H => E c d H) (b_inner_of cl)) := by
  have tk : Takes (cxOf (L2.CX P w) P w K mg base ["thing"] "inner_of" (defScope s_inner_of) f cdv A outer s H E) (fun c d _ H => E c d H) := takes_of rfl rfl rfl rfl
  have nd := sc_inner_of.nd
  exact (q_seq (q_ifS (PW.pt (qw_or (qt_not (qt_tru (q_isi rfl T.m_isinstance rfl T.m_tuple (by decide +kernel) (by decide) (q_var 0)))) (qw_or (qt_cmp (op_eqU (by have z := hu2 hr; exact z)) eqP_v (q_callB call_len len_v rfl T.m_len PySem.boot_len (q_cons (q_var 0) q_nil)) q_int (nomark _)) (qw_one (qt_not (qt_tru (q_isi rfl T.m_isinstance rfl T.m_str (by decide +kernel) (by decide) (q_ix (q_var 0) q_int)))))))) (q_last (q_ret q_non)) q_snil)
    (q_seq (q_ifS (qt_cmp (op_eqU (by have z := hu2 hr; exact z)) eqP_v (q_ix (q_var 0) q_int) q_str (nomark _)) (q_last (q_ret (q_if (PW.pt (qw_and (qt_cmp (op_eqU (by have z := hu2 hr; exact z)) eqP_v (q_callB call_len len_v rfl T.m_len PySem.boot_len (q_cons (q_var 0) q_nil)) q_int (nomark _)) (qw_one (qt_tru (q_call (C .f_is_from (fun z => nomatch z)) hr tk rfl (q_cons (q_ix (q_var 0) q_int) (q_cons q_int (q_cons (q_op op_sub sub_v (q_callB call_len len_v rfl T.m_len PySem.boot_len (q_cons (q_gc T.c_LETTERS rfl) q_nil)) q_int) q_nil)))))))) (q_lst q_nil) q_non))) q_snil)
    (q_seq (q_ifS (qt_cmp (op_eqU (by have z := hu2 hr; exact z)) eqP_v (q_ix (q_var 0) q_int) q_str (nomark _)) (q_last (q_ret (q_if (qt_cmp (op_eqU (by have z := hu2 hr; exact z)) eqP_v (q_callB call_len len_v rfl T.m_len PySem.boot_len (q_cons (q_var 0) q_nil)) q_int (nomark _)) (q_lst q_nil) q_non))) q_snil)
    (q_last (q_ret (q_if (PW.pt (qw_and (qt_inG T.c_MARKS (q_ix (q_var 0) q_int) (q_gd T.c_MARKS rfl)) (qw_one (qt_cmp (op_eqU (by have z := hu2 hr; exact z)) eqP_v (q_callB call_len len_v rfl T.m_len PySem.boot_len (q_cons (q_var 0) q_nil)) q_int (nomark _))))) (q_callTy call_list_of list_v rfl T.m_list (by decide +kernel) (q_cons (q_slice (q_var 0) (q_some q_int) q_none) q_nil)) q_non))))))
theorem ok_is_kind {k : Nat} {cl : Fn → FF} [Wo] (T : Txt K w.params mg) (hW : Wo.ww = w) (C : ∀ g : Fn, g ≠ .f_law → calOf P w K mg base k g (cl g)) (f : Addr) (cdv : Value) (A : Around) (outer : List Env) (s : Shared) (H : Hp) (E : XK) (hr : RoomG k (A.deeper (envOfC "is_kind" (defScope s_is_kind) s.heap.objs.size f cdv))) :
    PSs (cxOf (L2.CX P w) P w K mg base ["thing", "left", "inner"] "is_kind" (defScope s_is_kind) f cdv A outer s H E) (defBody s_is_kind) (tS (cxOf (L2.CX P w) P w K mg base ["thing", "left", "inner"] "is_kind" (defScope s_is_kind) f cdv A outer s H E) (fun c d _ H => E c d H) (b_is_kind cl)) := by
  have tk : Takes (cxOf (L2.CX P w) P w K mg base ["thing", "left", "inner"] "is_kind" (defScope s_is_kind) f cdv A outer s H E) (fun c d _ H => E c d H) := takes_of rfl rfl rfl rfl
  have nd := sc_is_kind.nd
  exact (q_seq (q_set (i := 1) nd rfl (by first | exact Or.inl rfl | exact Or.inr rfl) (q_cel (q_cons (q_var 0) q_nil)))
    (q_seq (q_while (passes_of rfl) (qt_cmp (op_neU (by have z := hu2 hr; exact z)) neP_v (q_var 1) (q_lst q_nil) (nomark _)) (q_seq (q_set (i := 2) nd rfl (by first | exact Or.inl rfl | exact Or.inr rfl) (q_call (C .f_inner_of (fun z => nomatch z)) hr tk rfl (q_cons (q_mth0 PySem.F.slot_list_pop PySem.F.type_list_pop mt_pop pop0_v (q_var 1)) q_nil)))
    (q_seq (q_ifS (qt_cmp op_isU isU_v (q_var 2) q_non (nomark _)) (q_last (q_ret q_bl)) q_snil)
    (q_last (q_expr (q_mth PySem.F.slot_list_extend PySem.F.type_list_extend mt_extend extend_v (q_var 1) (q_cons (q_var 2) q_nil)))))))
    (q_last (q_ret q_bl))))
theorem ok_sure_kind {k : Nat} {cl : Fn → FF} [Wo] (T : Txt K w.params mg) (hW : Wo.ww = w) (C : ∀ g : Fn, g ≠ .f_law → calOf P w K mg base k g (cl g)) (f : Addr) (cdv : Value) (A : Around) (outer : List Env) (s : Shared) (H : Hp) (E : XK) (hr : RoomG k (A.deeper (envOfC "sure_kind" (defScope s_sure_kind) s.heap.objs.size f cdv))) :
    PSs (cxOf (L2.CX P w) P w K mg base ["thing"] "sure_kind" (defScope s_sure_kind) f cdv A outer s H E) (defBody s_sure_kind) (tS (cxOf (L2.CX P w) P w K mg base ["thing"] "sure_kind" (defScope s_sure_kind) f cdv A outer s H E) (fun c d _ H => E c d H) (b_sure_kind cl)) := by
  have tk : Takes (cxOf (L2.CX P w) P w K mg base ["thing"] "sure_kind" (defScope s_sure_kind) f cdv A outer s H E) (fun c d _ H => E c d H) := takes_of rfl rfl rfl rfl
  have nd := sc_sure_kind.nd
  exact (q_last (q_ifS (qt_not (qt_tru (q_call (C .f_is_kind (fun z => nomatch z)) hr tk rfl (q_cons (q_var 0) q_nil)))) (q_last (q_raise rfl tk T.x_NoKind rfl)) q_snil))
theorem ok_plain_text {k : Nat} {cl : Fn → FF} [Wo] (T : Txt K w.params mg) (hW : Wo.ww = w) (C : ∀ g : Fn, g ≠ .f_law → calOf P w K mg base k g (cl g)) (f : Addr) (cdv : Value) (A : Around) (outer : List Env) (s : Shared) (H : Hp) (E : XK) (hr : RoomG k (A.deeper (envOfC "plain_text" (defScope s_plain_text) s.heap.objs.size f cdv))) :
    PSs (cxOf (L2.CX P w) P w K mg base ["kind"] "plain_text" (defScope s_plain_text) f cdv A outer s H E) (defBody s_plain_text) (tS (cxOf (L2.CX P w) P w K mg base ["kind"] "plain_text" (defScope s_plain_text) f cdv A outer s H E) (fun c d _ H => E c d H) (b_plain_text cl)) := by
  have tk : Takes (cxOf (L2.CX P w) P w K mg base ["kind"] "plain_text" (defScope s_plain_text) f cdv A outer s H E) (fun c d _ H => E c d H) := takes_of rfl rfl rfl rfl
  have nd := sc_plain_text.nd
  exact (q_seq (q_ifS (qt_cmp (op_eqU (by have z := hu2 hr; exact z)) eqP_v (q_ix (q_var 0) q_int) q_str (nomark _)) (q_last (q_ret (q_ix (q_gc T.c_LETTERS rfl) (q_ix (q_var 0) q_int)))) q_snil)
    (q_seq (q_ifS (qt_cmp (op_eqU (by have z := hu2 hr; exact z)) eqP_v (q_ix (q_var 0) q_int) q_str (nomark _)) (q_last (q_ret (q_gc T.c_UNIT rfl))) q_snil)
    (q_last (q_ret (q_op op_addU addU_v (q_op op_addU addU_v (q_op op_addU addU_v (q_op op_addU addU_v q_str (q_call (C .f_plain_text (fun z => nomatch z)) hr tk rfl (q_cons (q_ix (q_var 0) q_int) q_nil))) (q_ixG T.c_MARKS (q_gd T.c_MARKS rfl) (q_ix (q_var 0) q_int))) (q_call (C .f_plain_text (fun z => nomatch z)) hr tk rfl (q_cons (q_ix (q_var 0) q_int) q_nil))) q_str)))))
theorem ok_kind_text {k : Nat} {cl : Fn → FF} [Wo] (T : Txt K w.params mg) (hW : Wo.ww = w) (C : ∀ g : Fn, g ≠ .f_law → calOf P w K mg base k g (cl g)) (f : Addr) (cdv : Value) (A : Around) (outer : List Env) (s : Shared) (H : Hp) (E : XK) (hr : RoomG k (A.deeper (envOfC "kind_text" (defScope s_kind_text) s.heap.objs.size f cdv))) :
    PSs (cxOf (L2.CX P w) P w K mg base ["kind"] "kind_text" (defScope s_kind_text) f cdv A outer s H E) (defBody s_kind_text) (tS (cxOf (L2.CX P w) P w K mg base ["kind"] "kind_text" (defScope s_kind_text) f cdv A outer s H E) (fun c d _ H => E c d H) (b_kind_text cl)) := by
  have tk : Takes (cxOf (L2.CX P w) P w K mg base ["kind"] "kind_text" (defScope s_kind_text) f cdv A outer s H E) (fun c d _ H => E c d H) := takes_of rfl rfl rfl rfl
  have nd := sc_kind_text.nd
  exact (q_seq (q_expr (q_call (C .f_sure_kind (fun z => nomatch z)) hr tk rfl (q_cons (q_var 0) q_nil)))
    (q_last (q_ret (q_call (C .f_plain_text (fun z => nomatch z)) hr tk rfl (q_cons (q_var 0) q_nil)))))
theorem ok_closed {k : Nat} {cl : Fn → FF} [Wo] (T : Txt K w.params mg) (hW : Wo.ww = w) (C : ∀ g : Fn, g ≠ .f_law → calOf P w K mg base k g (cl g)) (f : Addr) (cdv : Value) (A : Around) (outer : List Env) (s : Shared) (H : Hp) (E : XK) (hr : RoomG k (A.deeper (envOfC "closed" (defScope s_closed) s.heap.objs.size f cdv))) :
    PSs (cxOf (L2.CX P w) P w K mg base ["things"] "closed" (defScope s_closed) f cdv A outer s H E) (defBody s_closed) (tS (cxOf (L2.CX P w) P w K mg base ["things"] "closed" (defScope s_closed) f cdv A outer s H E) (fun c d _ H => E c d H) (b_closed cl)) := by
  have tk : Takes (cxOf (L2.CX P w) P w K mg base ["things"] "closed" (defScope s_closed) f cdv A outer s H E) (fun c d _ H => E c d H) := takes_of rfl rfl rfl rfl
  have nd := sc_closed.nd
  exact (q_seq (q_ifS (PW.pt (qw_or (qt_cmp op_lt (cmp_v _) (q_callB call_len len_v rfl T.m_len PySem.boot_len (q_cons (q_var 0) q_nil)) q_int (nomark _)) (qw_or (qt_cmp (op_neU (by have z := hu2 hr; exact z)) neP_v (q_ix (q_var 0) (q_neg q_int)) q_str (nomark _)) (qw_one (qt_ninG T.c_SIGNS (q_ix (q_var 0) (q_neg q_int)) (q_gd T.c_SIGNS rfl)))))) (q_last (q_raise rfl tk T.x_NoText rfl)) q_snil)
    (q_seq (q_ifS (PW.pt (qw_or (qt_not (qt_tru (q_isi rfl T.m_isinstance rfl T.m_tuple (by decide +kernel) (by decide) (q_ix (q_var 0) (q_neg q_int))))) (qw_one (qt_not (qt_tru (q_isi rfl T.m_isinstance rfl T.m_tuple (by decide +kernel) (by decide) (q_ix (q_var 0) (q_neg q_int)))))))) (q_last (q_raise rfl tk T.x_NoText rfl)) q_snil)
    (q_last (q_ret (q_op op_addU addU_v (q_slice (q_var 0) q_none (q_some (q_neg q_int))) (q_lst (q_cons (q_tup (q_cons (q_ixG T.c_SIGNS (q_gd T.c_SIGNS rfl) (q_ix (q_var 0) (q_neg q_int))) (q_cons (q_ix (q_var 0) (q_neg q_int)) (q_cons (q_ix (q_var 0) (q_neg q_int)) q_nil)))) q_nil)))))))
theorem ok_read_kind {k : Nat} {cl : Fn → FF} [Wo] (T : Txt K w.params mg) (hW : Wo.ww = w) (C : ∀ g : Fn, g ≠ .f_law → calOf P w K mg base k g (cl g)) (f : Addr) (cdv : Value) (A : Around) (outer : List Env) (s : Shared) (H : Hp) (E : XK) (hr : RoomG k (A.deeper (envOfC "read_kind" (defScope s_read_kind) s.heap.objs.size f cdv))) :
    PSs (cxOf (L2.CX P w) P w K mg base ["text", "things", "sign"] "read_kind" (defScope s_read_kind) f cdv A outer s H E) (defBody s_read_kind) (tS (cxOf (L2.CX P w) P w K mg base ["text", "things", "sign"] "read_kind" (defScope s_read_kind) f cdv A outer s H E) (fun c d _ H => E c d H) (b_read_kind cl)) := by
  have tk : Takes (cxOf (L2.CX P w) P w K mg base ["text", "things", "sign"] "read_kind" (defScope s_read_kind) f cdv A outer s H E) (fun c d _ H => E c d H) := takes_of rfl rfl rfl rfl
  have nd := sc_read_kind.nd
  exact (q_seq (q_ifS (qt_not (qt_tru (q_isi rfl T.m_isinstance rfl T.m_str (by decide +kernel) (by decide) (q_var 0)))) (q_last (q_raise rfl tk T.x_NoText rfl)) q_snil)
    (q_seq (q_set (i := 1) nd rfl (by first | exact Or.inl rfl | exact Or.inr rfl) (q_cel q_nil))
    (q_seq (q_for (passes_of rfl) rfl (qi_str (q_var 0)) (q_gn (i := 2) nd rfl (by first | exact Or.inl rfl | exact Or.inr rfl)) (q_last (q_ifS (qt_cmp (op_inU (by have z := hu2 hr; exact z)) inU_v (q_var 2) (q_gc T.c_LETTERS rfl) (by rfl)) (q_last (q_expr (q_mth PySem.F.slot_list_append PySem.F.type_list_append mt_append append_v (q_var 1) (q_cons (q_tup (q_cons q_str (q_cons (q_strIx rfl tk (q_gc T.c_LETTERS rfl) (q_var 2)) q_nil))) q_nil)))) (q_last (q_ifS (qt_cmp (op_eqU (by have z := hu2 hr; exact z)) eqP_v (q_var 2) (q_gc T.c_UNIT rfl) (nomark _)) (q_last (q_expr (q_mth PySem.F.slot_list_append PySem.F.type_list_append mt_append append_v (q_var 1) (q_cons (q_tup (q_cons q_str q_nil)) q_nil)))) (q_last (q_ifS (qt_cmp (op_eqU (by have z := hu2 hr; exact z)) eqP_v (q_var 2) q_str (nomark _)) (q_last (q_set (i := 1) nd rfl (by first | exact Or.inl rfl | exact Or.inr rfl) (q_call (C .f_closed (fun z => nomatch z)) hr tk rfl (q_cons (q_var 1) q_nil)))) (q_last (q_ifS (PW.pt (qw_or (qt_cmp (op_eqU (by have z := hu2 hr; exact z)) eqP_v (q_var 2) q_str (nomark _)) (qw_one (qt_inG T.c_SIGNS (q_var 2) (q_gd T.c_SIGNS rfl))))) (q_last (q_expr (q_mth PySem.F.slot_list_append PySem.F.type_list_append mt_append append_v (q_var 1) (q_cons (q_var 2) q_nil)))) (q_last (q_raise rfl tk T.x_NoText rfl)))))))))))
    (q_seq (q_ifS (PW.pt (qw_or (qt_cmp (op_neU (by have z := hu2 hr; exact z)) neP_v (q_callB call_len len_v rfl T.m_len PySem.boot_len (q_cons (q_var 1) q_nil)) q_int (nomark _)) (qw_one (qt_not (qt_tru (q_isi rfl T.m_isinstance rfl T.m_tuple (by decide +kernel) (by decide) (q_ix (q_var 1) q_int))))))) (q_last (q_raise rfl tk T.x_NoText rfl)) q_snil)
    (q_last (q_ret (q_ix (q_var 1) q_int)))))))
theorem ok_order_of {k : Nat} {cl : Fn → FF} [Wo] (T : Txt K w.params mg) (hW : Wo.ww = w) (C : ∀ g : Fn, g ≠ .f_law → calOf P w K mg base k g (cl g)) (f : Addr) (cdv : Value) (A : Around) (outer : List Env) (s : Shared) (H : Hp) (E : XK) (B : TbF K mg base "order_of" cdv) (hr : RoomG k (A.deeper (envOfC "order_of" (defScope s_order_of) s.heap.objs.size f cdv))) :
    PSs (cxOf (L2.CX P w) P w K mg base ["things"] "order_of" (defScope s_order_of) f cdv A outer s H E) (defBody s_order_of) (tS (cxOf (L2.CX P w) P w K mg base ["things"] "order_of" (defScope s_order_of) f cdv A outer s H E) (fun c d _ H => E c d H) (b_order_of cl)) := by
  have tk : Takes (cxOf (L2.CX P w) P w K mg base ["things"] "order_of" (defScope s_order_of) f cdv A outer s H E) (fun c d _ H => E c d H) := takes_of rfl rfl rfl rfl
  have nd := sc_order_of.nd
  exact (q_last (q_ret (q_order (j := 1) (x := "order_of") rfl (hu2 hr) hr.rm.depth rfl T.m_sorted rfl T.m_range (q_callB call_len len_v rfl T.m_len PySem.boot_len (q_cons (q_var 0) q_nil)) rfl rfl B rfl)))
theorem ok_in_order {k : Nat} {cl : Fn → FF} [Wo] (T : Txt K w.params mg) (hW : Wo.ww = w) (C : ∀ g : Fn, g ≠ .f_law → calOf P w K mg base k g (cl g)) (f : Addr) (cdv : Value) (A : Around) (outer : List Env) (s : Shared) (H : Hp) (E : XK) (hr : RoomG k (A.deeper (envOfC "in_order" (defScope s_in_order) s.heap.objs.size f cdv))) :
    PSs (cxOf (L2.CX P w) P w K mg base ["things", "place"] "in_order" (defScope s_in_order) f cdv A outer s H E) (defBody s_in_order) (tS (cxOf (L2.CX P w) P w K mg base ["things", "place"] "in_order" (defScope s_in_order) f cdv A outer s H E) (fun c d _ H => E c d H) (b_in_order cl)) := by
  have tk : Takes (cxOf (L2.CX P w) P w K mg base ["things", "place"] "in_order" (defScope s_in_order) f cdv A outer s H E) (fun c d _ H => E c d H) := takes_of rfl rfl rfl rfl
  have nd := sc_in_order.nd
  exact (q_last (q_ret (q_lc (own := [("place", 1)]) rfl nd (qi_list (q_call (C .f_order_of (fun z => nomatch z)) hr tk rfl (q_cons (q_var 0) q_nil))) (blkOk_by (own := [("place", 1)]) (by rfl)) (by decide) (fun _ _ _ _ _ => (q_gn (i := 1) nd rfl (by first | exact Or.inl rfl | exact Or.inr rfl))) (fun _ _ _ _ _ => qts_nil) (fun _ _ _ _ _ => (q_ix (q_var 0) (q_var 1))))))
theorem ok_wants_with {k : Nat} {cl : Fn → FF} [Wo] (T : Txt K w.params mg) (hW : Wo.ww = w) (C : ∀ g : Fn, g ≠ .f_law → calOf P w K mg base k g (cl g)) (f : Addr) (cdv : Value) (A : Around) (outer : List Env) (s : Shared) (H : Hp) (E : XK) (hr : RoomG k (A.deeper (envOfC "wants_with" (defScope s_wants_with) s.heap.objs.size f cdv))) :
    PSs (cxOf (L2.CX P w) P w K mg base ["factor", "first"] "wants_with" (defScope s_wants_with) f cdv A outer s H E) (defBody s_wants_with) (tS (cxOf (L2.CX P w) P w K mg base ["factor", "first"] "wants_with" (defScope s_wants_with) f cdv A outer s H E) (fun c d _ H => E c d H) (b_wants_with cl)) := by
  have tk : Takes (cxOf (L2.CX P w) P w K mg base ["factor", "first"] "wants_with" (defScope s_wants_with) f cdv A outer s H E) (fun c d _ H => E c d H) := takes_of rfl rfl rfl rfl
  have nd := sc_wants_with.nd
  exact (q_last (q_ret (q_op op_addU addU_v (q_callTy call_list_of list_v rfl T.m_list (by decide +kernel) (q_cons (q_ix (q_var 0) q_int) q_nil)) (q_var 1))))
theorem ok_plain_form {k : Nat} {cl : Fn → FF} [Wo] (T : Txt K w.params mg) (hW : Wo.ww = w) (C : ∀ g : Fn, g ≠ .f_law → calOf P w K mg base k g (cl g)) (f : Addr) (cdv : Value) (A : Around) (outer : List Env) (s : Shared) (H : Hp) (E : XK) (hr : RoomG k (A.deeper (envOfC "plain_form" (defScope s_plain_form) s.heap.objs.size f cdv))) :
    PSs (cxOf (L2.CX P w) P w K mg base ["kind", "first", "second", "factor"] "plain_form" (defScope s_plain_form) f cdv A outer s H E) (defBody s_plain_form) (tS (cxOf (L2.CX P w) P w K mg base ["kind", "first", "second", "factor"] "plain_form" (defScope s_plain_form) f cdv A outer s H E) (fun c d _ H => E c d H) (b_plain_form cl)) := by
  have tk : Takes (cxOf (L2.CX P w) P w K mg base ["kind", "first", "second", "factor"] "plain_form" (defScope s_plain_form) f cdv A outer s H E) (fun c d _ H => E c d H) := takes_of rfl rfl rfl rfl
  have nd := sc_plain_form.nd
  exact (q_seq (q_ifS (qt_cmp (op_eqU (by have z := hu2 hr; exact z)) eqP_v (q_ix (q_var 0) q_int) q_str (nomark _)) (q_last (q_ret (q_lst (q_cons (q_tup (q_cons (q_tup q_nil) (q_cons (q_ix (q_var 0) q_int) q_nil))) q_nil)))) q_snil)
    (q_seq (q_ifS (qt_cmp (op_eqU (by have z := hu2 hr; exact z)) eqP_v (q_ix (q_var 0) q_int) q_str (nomark _)) (q_last (q_ret (q_lst q_nil))) q_snil)
    (q_seq (q_set (i := 1) nd rfl (by first | exact Or.inl rfl | exact Or.inr rfl) (q_call (C .f_plain_form (fun z => nomatch z)) hr tk rfl (q_cons (q_ix (q_var 0) q_int) q_nil)))
    (q_seq (q_set (i := 2) nd rfl (by first | exact Or.inl rfl | exact Or.inr rfl) (q_call (C .f_plain_form (fun z => nomatch z)) hr tk rfl (q_cons (q_ix (q_var 0) q_int) q_nil)))
    (q_seq (q_ifS (qt_cmp (op_eqU (by have z := hu2 hr; exact z)) eqP_v (q_ix (q_var 0) q_int) q_str (nomark _)) (q_last (q_ret (q_call (C .f_in_order (fun z => nomatch z)) hr tk rfl (q_cons (q_op op_addU addU_v (q_var 1) (q_var 2)) q_nil)))) q_snil)
    (q_last (q_ret (q_call (C .f_in_order (fun z => nomatch z)) hr tk rfl (q_cons (q_lc (own := [("factor", 3)]) rfl nd (qi_list (q_var 2)) (blkOk_by (own := [("factor", 3)]) (by rfl)) (by decide) (fun _ _ _ _ _ => (q_gn (i := 3) nd rfl (by first | exact Or.inl rfl | exact Or.inr rfl))) (fun _ _ _ _ _ => qts_nil) (fun _ _ _ _ _ => (q_tup (q_cons (q_callTy call_tuple_of tuple_v rfl T.m_tuple (by decide +kernel) (q_cons (q_call (C .f_in_order (fun z => nomatch z)) hr takes0 rfl (q_cons (q_call (C .f_wants_with (fun z => nomatch z)) hr takes0 rfl (q_cons (q_var 3) (q_cons (q_var 1) q_nil))) q_nil)) q_nil)) (q_cons (q_ix (q_var 3) q_int) q_nil))))) q_nil)))))))))
theorem ok_form {k : Nat} {cl : Fn → FF} [Wo] (T : Txt K w.params mg) (hW : Wo.ww = w) (C : ∀ g : Fn, g ≠ .f_law → calOf P w K mg base k g (cl g)) (f : Addr) (cdv : Value) (A : Around) (outer : List Env) (s : Shared) (H : Hp) (E : XK) (hr : RoomG k (A.deeper (envOfC "form" (defScope s_form) s.heap.objs.size f cdv))) :
    PSs (cxOf (L2.CX P w) P w K mg base ["kind"] "form" (defScope s_form) f cdv A outer s H E) (defBody s_form) (tS (cxOf (L2.CX P w) P w K mg base ["kind"] "form" (defScope s_form) f cdv A outer s H E) (fun c d _ H => E c d H) (b_form cl)) := by
  have tk : Takes (cxOf (L2.CX P w) P w K mg base ["kind"] "form" (defScope s_form) f cdv A outer s H E) (fun c d _ H => E c d H) := takes_of rfl rfl rfl rfl
  have nd := sc_form.nd
  exact (q_seq (q_expr (q_call (C .f_sure_kind (fun z => nomatch z)) hr tk rfl (q_cons (q_var 0) q_nil)))
    (q_last (q_ret (q_call (C .f_plain_form (fun z => nomatch z)) hr tk rfl (q_cons (q_var 0) q_nil)))))
theorem ok_alike {k : Nat} {cl : Fn → FF} [Wo] (T : Txt K w.params mg) (hW : Wo.ww = w) (C : ∀ g : Fn, g ≠ .f_law → calOf P w K mg base k g (cl g)) (f : Addr) (cdv : Value) (A : Around) (outer : List Env) (s : Shared) (H : Hp) (E : XK) (hr : RoomG k (A.deeper (envOfC "alike" (defScope s_alike) s.heap.objs.size f cdv))) :
    PSs (cxOf (L2.CX P w) P w K mg base ["one", "other"] "alike" (defScope s_alike) f cdv A outer s H E) (defBody s_alike) (tS (cxOf (L2.CX P w) P w K mg base ["one", "other"] "alike" (defScope s_alike) f cdv A outer s H E) (fun c d _ H => E c d H) (b_alike cl)) := by
  have tk : Takes (cxOf (L2.CX P w) P w K mg base ["one", "other"] "alike" (defScope s_alike) f cdv A outer s H E) (fun c d _ H => E c d H) := takes_of rfl rfl rfl rfl
  have nd := sc_alike.nd
  exact (q_last (q_ret (q_cmp (op_eqU (by have z := hu2 hr; exact z)) eqP_v (q_call (C .f_form (fun z => nomatch z)) hr tk rfl (q_cons (q_var 0) q_nil)) (q_call (C .f_form (fun z => nomatch z)) hr tk rfl (q_cons (q_var 1) q_nil)) (nomark _))))
theorem ok_many {k : Nat} {cl : Fn → FF} [Wo] (T : Txt K w.params mg) (hW : Wo.ww = w) (C : ∀ g : Fn, g ≠ .f_law → calOf P w K mg base k g (cl g)) (f : Addr) (cdv : Value) (A : Around) (outer : List Env) (s : Shared) (H : Hp) (E : XK) (hr : RoomG k (A.deeper (envOfC "many" (defScope s_many) s.heap.objs.size f cdv))) :
    PSs (cxOf (L2.CX P w) P w K mg base ["kind", "sizes", "found"] "many" (defScope s_many) f cdv A outer s H E) (defBody s_many) (tS (cxOf (L2.CX P w) P w K mg base ["kind", "sizes", "found"] "many" (defScope s_many) f cdv A outer s H E) (fun c d _ H => E c d H) (b_many cl)) := by
  have tk : Takes (cxOf (L2.CX P w) P w K mg base ["kind", "sizes", "found"] "many" (defScope s_many) f cdv A outer s H E) (fun c d _ H => E c d H) := takes_of rfl rfl rfl rfl
  have nd := sc_many.nd
  exact (q_seq (q_expr (q_call (C .f_sure_kind (fun z => nomatch z)) hr tk rfl (q_cons (q_var 0) q_nil)))
    q_dead)
theorem ok_rest {k : Nat} {cl : Fn → FF} [Wo] (T : Txt K w.params mg) (hW : Wo.ww = w) (C : ∀ g : Fn, g ≠ .f_law → calOf P w K mg base k g (cl g)) (f : Addr) (cdv : Value) (A : Around) (outer : List Env) (s : Shared) (H : Hp) (E : XK) (hr : RoomG k (A.deeper (envOfC "rest" (defScope s_rest) s.heap.objs.size f cdv))) :
    PSs (cxOf (L2.CX P w) P w K mg base ["kind", "sizes", "by"] "rest" (defScope s_rest) f cdv A outer s H E) (defBody s_rest) (tS (cxOf (L2.CX P w) P w K mg base ["kind", "sizes", "by"] "rest" (defScope s_rest) f cdv A outer s H E) (fun c d _ H => E c d H) (b_rest cl)) := by
  have tk : Takes (cxOf (L2.CX P w) P w K mg base ["kind", "sizes", "by"] "rest" (defScope s_rest) f cdv A outer s H E) (fun c d _ H => E c d H) := takes_of rfl rfl rfl rfl
  have nd := sc_rest.nd
  exact (q_seq (q_expr (q_call (C .f_sure_kind (fun z => nomatch z)) hr tk rfl (q_cons (q_var 0) q_nil)))
    q_dead)
theorem ok_apart {k : Nat} {cl : Fn → FF} [Wo] (T : Txt K w.params mg) (hW : Wo.ww = w) (C : ∀ g : Fn, g ≠ .f_law → calOf P w K mg base k g (cl g)) (f : Addr) (cdv : Value) (A : Around) (outer : List Env) (s : Shared) (H : Hp) (E : XK) (hr : RoomG k (A.deeper (envOfC "apart" (defScope s_apart) s.heap.objs.size f cdv))) :
    PSs (cxOf (L2.CX P w) P w K mg base ["one", "other", "turn", "sizes", "by"] "apart" (defScope s_apart) f cdv A outer s H E) (defBody s_apart) (tS (cxOf (L2.CX P w) P w K mg base ["one", "other", "turn", "sizes", "by"] "apart" (defScope s_apart) f cdv A outer s H E) (fun c d _ H => E c d H) (b_apart cl)) := by
  have tk : Takes (cxOf (L2.CX P w) P w K mg base ["one", "other", "turn", "sizes", "by"] "apart" (defScope s_apart) f cdv A outer s H E) (fun c d _ H => E c d H) := takes_of rfl rfl rfl rfl
  have nd := sc_apart.nd
  exact (q_seq (q_ifS (qt_tru (q_call (C .f_alike (fun z => nomatch z)) hr tk rfl (q_cons (q_var 0) (q_cons (q_var 1) q_nil)))) (q_last (q_ret q_non)) q_snil)
    q_dead)
theorem ok_apart_fault {k : Nat} {cl : Fn → FF} [Wo] (T : Txt K w.params mg) (hW : Wo.ww = w) (C : ∀ g : Fn, g ≠ .f_law → calOf P w K mg base k g (cl g)) (f : Addr) (cdv : Value) (A : Around) (outer : List Env) (s : Shared) (H : Hp) (E : XK) (hr : RoomG k (A.deeper (envOfC "apart_fault" (defScope s_apart_fault) s.heap.objs.size f cdv))) :
    PSs (cxOf (L2.CX P w) P w K mg base ["one", "other", "thing", "sizes", "by", "found"] "apart_fault" (defScope s_apart_fault) f cdv A outer s H E) (defBody s_apart_fault) (tS (cxOf (L2.CX P w) P w K mg base ["one", "other", "thing", "sizes", "by", "found"] "apart_fault" (defScope s_apart_fault) f cdv A outer s H E) (fun c d _ H => E c d H) (b_apart_fault cl)) := by
  have tk : Takes (cxOf (L2.CX P w) P w K mg base ["one", "other", "thing", "sizes", "by", "found"] "apart_fault" (defScope s_apart_fault) f cdv A outer s H E) (fun c d _ H => E c d H) := takes_of rfl rfl rfl rfl
  have nd := sc_apart_fault.nd
  exact (q_seq (q_expr (q_call (C .f_sure_kind (fun z => nomatch z)) hr tk rfl (q_cons (q_var 0) q_nil)))
    (q_seq (q_expr (q_call (C .f_sure_kind (fun z => nomatch z)) hr tk rfl (q_cons (q_var 1) q_nil)))
    q_dead))
theorem ok_worths {k : Nat} {cl : Fn → FF} [Wo] (T : Txt K w.params mg) (hW : Wo.ww = w) (C : ∀ g : Fn, g ≠ .f_law → calOf P w K mg base k g (cl g)) (f : Addr) (cdv : Value) (A : Around) (outer : List Env) (s : Shared) (H : Hp) (E : XK) (hr : RoomG k (A.deeper (envOfC "worths" (defScope s_worths) s.heap.objs.size f cdv))) :
    PSs (cxOf (L2.CX P w) P w K mg base ["kind", "sizes"] "worths" (defScope s_worths) f cdv A outer s H E) (defBody s_worths) (tS (cxOf (L2.CX P w) P w K mg base ["kind", "sizes"] "worths" (defScope s_worths) f cdv A outer s H E) (fun c d _ H => E c d H) (b_worths cl)) := by
  have tk : Takes (cxOf (L2.CX P w) P w K mg base ["kind", "sizes"] "worths" (defScope s_worths) f cdv A outer s H E) (fun c d _ H => E c d H) := takes_of rfl rfl rfl rfl
  have nd := sc_worths.nd
  exact (q_seq (q_expr (q_call (C .f_sure_kind (fun z => nomatch z)) hr tk rfl (q_cons (q_var 0) q_nil)))
    q_dead)
theorem ok_is_worth {k : Nat} {cl : Fn → FF} [Wo] (T : Txt K w.params mg) (hW : Wo.ww = w) (C : ∀ g : Fn, g ≠ .f_law → calOf P w K mg base k g (cl g)) (f : Addr) (cdv : Value) (A : Around) (outer : List Env) (s : Shared) (H : Hp) (E : XK) (hr : RoomG k (A.deeper (envOfC "is_worth" (defScope s_is_worth) s.heap.objs.size f cdv))) :
    PSs (cxOf (L2.CX P w) P w K mg base ["kind", "sizes", "thing"] "is_worth" (defScope s_is_worth) f cdv A outer s H E) (defBody s_is_worth) (tS (cxOf (L2.CX P w) P w K mg base ["kind", "sizes", "thing"] "is_worth" (defScope s_is_worth) f cdv A outer s H E) (fun c d _ H => E c d H) (b_is_worth cl)) := by
  have tk : Takes (cxOf (L2.CX P w) P w K mg base ["kind", "sizes", "thing"] "is_worth" (defScope s_is_worth) f cdv A outer s H E) (fun c d _ H => E c d H) := takes_of rfl rfl rfl rfl
  have nd := sc_is_worth.nd
  exact (q_seq (q_expr (q_call (C .f_sure_kind (fun z => nomatch z)) hr tk rfl (q_cons (q_var 0) q_nil)))
    q_dead)
theorem ok_sure_given {k : Nat} {cl : Fn → FF} [Wo] (T : Txt K w.params mg) (hW : Wo.ww = w) (C : ∀ g : Fn, g ≠ .f_law → calOf P w K mg base k g (cl g)) (f : Addr) (cdv : Value) (A : Around) (outer : List Env) (s : Shared) (H : Hp) (E : XK) (hr : RoomG k (A.deeper (envOfC "sure_given" (defScope s_sure_given) s.heap.objs.size f cdv))) :
    PSs (cxOf (L2.CX P w) P w K mg base ["given", "kind"] "sure_given" (defScope s_sure_given) f cdv A outer s H E) (defBody s_sure_given) (tS (cxOf (L2.CX P w) P w K mg base ["given", "kind"] "sure_given" (defScope s_sure_given) f cdv A outer s H E) (fun c d _ H => E c d H) (b_sure_given cl)) := by
  have tk : Takes (cxOf (L2.CX P w) P w K mg base ["given", "kind"] "sure_given" (defScope s_sure_given) f cdv A outer s H E) (fun c d _ H => E c d H) := takes_of rfl rfl rfl rfl
  have nd := sc_sure_given.nd
  exact (q_last (q_ifS (PW.pt (qw_or (qt_not (qt_tru (q_isi rfl T.m_isinstance rfl T.m_list (by decide +kernel) (by decide) (q_var 0)))) (qw_one (qt_not (qt_tru (q_callB (cr_all rfl) all_v rfl T.m_all (by decide +kernel) (q_cons (q_lc (own := [("kind", 1)]) rfl nd (qi_list (q_var 0)) (blkOk_by (own := [("kind", 1)]) (by rfl)) (by decide) (fun _ _ _ _ _ => (q_gn (i := 1) nd rfl (by first | exact Or.inl rfl | exact Or.inr rfl))) (fun _ _ _ _ _ => qts_nil) (fun _ _ _ _ _ => (q_call (C .f_is_kind (fun z => nomatch z)) hr takes0 rfl (q_cons (q_var 1) q_nil)))) q_nil))))))) (q_last (q_raise rfl tk T.x_NoKind rfl)) q_snil))
theorem ok_term_kind {k : Nat} {cl : Fn → FF} [Wo] (T : Txt K w.params mg) (hW : Wo.ww = w) (C : ∀ g : Fn, g ≠ .f_law → calOf P w K mg base k g (cl g)) (f : Addr) (cdv : Value) (A : Around) (outer : List Env) (s : Shared) (H : Hp) (E : XK) (hr : RoomG k (A.deeper (envOfC "term_kind" (defScope s_term_kind) s.heap.objs.size f cdv))) :
    PSs (cxOf (L2.CX P w) P w K mg base ["term", "given"] "term_kind" (defScope s_term_kind) f cdv A outer s H E) (defBody s_term_kind) (tS (cxOf (L2.CX P w) P w K mg base ["term", "given"] "term_kind" (defScope s_term_kind) f cdv A outer s H E) (fun c d _ H => E c d H) (b_term_kind cl)) := by
  have tk : Takes (cxOf (L2.CX P w) P w K mg base ["term", "given"] "term_kind" (defScope s_term_kind) f cdv A outer s H E) (fun c d _ H => E c d H) := takes_of rfl rfl rfl rfl
  have nd := sc_term_kind.nd
  exact (q_seq (q_expr (q_call (C .f_sure_given (fun z => nomatch z)) hr tk rfl (q_cons (q_var 1) q_nil)))
    q_dead)
theorem ok_plain {k : Nat} {cl : Fn → FF} [Wo] (T : Txt K w.params mg) (hW : Wo.ww = w) (C : ∀ g : Fn, g ≠ .f_law → calOf P w K mg base k g (cl g)) (f : Addr) (cdv : Value) (A : Around) (outer : List Env) (s : Shared) (H : Hp) (E : XK) (hr : RoomG k (A.deeper (envOfC "plain" (defScope s_plain) s.heap.objs.size f cdv))) :
    PSs (cxOf (L2.CX P w) P w K mg base ["term", "given"] "plain" (defScope s_plain) f cdv A outer s H E) (defBody s_plain) (tS (cxOf (L2.CX P w) P w K mg base ["term", "given"] "plain" (defScope s_plain) f cdv A outer s H E) (fun c d _ H => E c d H) (b_plain cl)) := by
  have tk : Takes (cxOf (L2.CX P w) P w K mg base ["term", "given"] "plain" (defScope s_plain) f cdv A outer s H E) (fun c d _ H => E c d H) := takes_of rfl rfl rfl rfl
  have nd := sc_plain.nd
  exact (q_seq (q_expr (q_call (C .f_sure_given (fun z => nomatch z)) hr tk rfl (q_cons (q_var 1) q_nil)))
    q_dead)
theorem ok_same {k : Nat} {cl : Fn → FF} [Wo] (T : Txt K w.params mg) (hW : Wo.ww = w) (C : ∀ g : Fn, g ≠ .f_law → calOf P w K mg base k g (cl g)) (f : Addr) (cdv : Value) (A : Around) (outer : List Env) (s : Shared) (H : Hp) (E : XK) (hr : RoomG k (A.deeper (envOfC "same" (defScope s_same) s.heap.objs.size f cdv))) :
    PSs (cxOf (L2.CX P w) P w K mg base ["one", "other", "given", "kinds", "term"] "same" (defScope s_same) f cdv A outer s H E) (defBody s_same) (tS (cxOf (L2.CX P w) P w K mg base ["one", "other", "given", "kinds", "term"] "same" (defScope s_same) f cdv A outer s H E) (fun c d _ H => E c d H) (b_same cl)) := by
  have tk : Takes (cxOf (L2.CX P w) P w K mg base ["one", "other", "given", "kinds", "term"] "same" (defScope s_same) f cdv A outer s H E) (fun c d _ H => E c d H) := takes_of rfl rfl rfl rfl
  have nd := sc_same.nd
  exact (q_seq (q_expr (q_call (C .f_sure_given (fun z => nomatch z)) hr tk rfl (q_cons (q_var 2) q_nil)))
    q_dead)
theorem ok_turner {k : Nat} {cl : Fn → FF} [Wo] (T : Txt K w.params mg) (hW : Wo.ww = w) (C : ∀ g : Fn, g ≠ .f_law → calOf P w K mg base k g (cl g)) (f : Addr) (cdv : Value) (A : Around) (outer : List Env) (s : Shared) (H : Hp) (E : XK) (hr : RoomG k (A.deeper (envOfC "turner" (defScope s_turner) s.heap.objs.size f cdv))) :
    PSs (cxOf (L2.CX P w) P w K mg base ["one", "other"] "turner" (defScope s_turner) f cdv A outer s H E) (defBody s_turner) (tS (cxOf (L2.CX P w) P w K mg base ["one", "other"] "turner" (defScope s_turner) f cdv A outer s H E) (fun c d _ H => E c d H) (b_turner cl)) := by
  have tk : Takes (cxOf (L2.CX P w) P w K mg base ["one", "other"] "turner" (defScope s_turner) f cdv A outer s H E) (fun c d _ H => E c d H) := takes_of rfl rfl rfl rfl
  have nd := sc_turner.nd
  exact (q_seq (q_ifS (qt_not (qt_tru (q_call (C .f_alike (fun z => nomatch z)) hr tk rfl (q_cons (q_var 0) (q_cons (q_var 1) q_nil))))) q_dead q_snil)
    q_dead)
theorem ok_turn_fault {k : Nat} {cl : Fn → FF} [Wo] (T : Txt K w.params mg) (hW : Wo.ww = w) (C : ∀ g : Fn, g ≠ .f_law → calOf P w K mg base k g (cl g)) (f : Addr) (cdv : Value) (A : Around) (outer : List Env) (s : Shared) (H : Hp) (E : XK) (hr : RoomG k (A.deeper (envOfC "turn_fault" (defScope s_turn_fault) s.heap.objs.size f cdv))) :
    PSs (cxOf (L2.CX P w) P w K mg base ["one", "other", "there", "back"] "turn_fault" (defScope s_turn_fault) f cdv A outer s H E) (defBody s_turn_fault) (tS (cxOf (L2.CX P w) P w K mg base ["one", "other", "there", "back"] "turn_fault" (defScope s_turn_fault) f cdv A outer s H E) (fun c d _ H => E c d H) (b_turn_fault cl)) := by
  have tk : Takes (cxOf (L2.CX P w) P w K mg base ["one", "other", "there", "back"] "turn_fault" (defScope s_turn_fault) f cdv A outer s H E) (fun c d _ H => E c d H) := takes_of rfl rfl rfl rfl
  have nd := sc_turn_fault.nd
  exact (q_seq (q_expr (q_call (C .f_sure_kind (fun z => nomatch z)) hr tk rfl (q_cons (q_var 0) q_nil)))
    (q_seq (q_expr (q_call (C .f_sure_kind (fun z => nomatch z)) hr tk rfl (q_cons (q_var 1) q_nil)))
    q_dead))
theorem ok_is_library {k : Nat} {cl : Fn → FF} [Wo] (T : Txt K w.params mg) (hW : Wo.ww = w) (C : ∀ g : Fn, g ≠ .f_law → calOf P w K mg base k g (cl g)) (f : Addr) (cdv : Value) (A : Around) (outer : List Env) (s : Shared) (H : Hp) (E : XK) (hr : RoomG k (A.deeper (envOfC "is_library" (defScope s_is_library) s.heap.objs.size f cdv))) :
    PSs (cxOf (L2.CX P w) P w K mg base ["thing", "row", "names", "name", "kind"] "is_library" (defScope s_is_library) f cdv A outer s H E) (defBody s_is_library) (tS (cxOf (L2.CX P w) P w K mg base ["thing", "row", "names", "name", "kind"] "is_library" (defScope s_is_library) f cdv A outer s H E) (fun c d _ H => E c d H) (b_is_library cl)) := by
  have tk : Takes (cxOf (L2.CX P w) P w K mg base ["thing", "row", "names", "name", "kind"] "is_library" (defScope s_is_library) f cdv A outer s H E) (fun c d _ H => E c d H) := takes_of rfl rfl rfl rfl
  have nd := sc_is_library.nd
  exact (q_seq (q_ifS (qt_not (qt_tru (q_isi rfl T.m_isinstance rfl T.m_list (by decide +kernel) (by decide) (q_var 0)))) (q_last (q_ret q_bl)) q_snil)
    (q_seq (q_for (passes_of rfl) rfl (qi_list (q_var 0)) (q_gn (i := 1) nd rfl (by first | exact Or.inl rfl | exact Or.inr rfl)) (q_last (q_ifS (PW.pt (qw_or (qt_not (qt_tru (q_isi rfl T.m_isinstance rfl T.m_tuple (by decide +kernel) (by decide) (q_var 1)))) (qw_or (qt_cmp (op_neU (by have z := hu2 hr; exact z)) neP_v (q_callB call_len len_v rfl T.m_len PySem.boot_len (q_cons (q_var 1) q_nil)) q_int (nomark _)) (qw_or (qt_not (qt_tru (q_isi rfl T.m_isinstance rfl T.m_str (by decide +kernel) (by decide) (q_ix (q_var 1) q_int)))) (qw_one (qt_not (qt_tru (q_call (C .f_is_kind (fun z => nomatch z)) hr tk rfl (q_cons (q_ix (q_var 1) q_int) q_nil))))))))) (q_last (q_ret q_bl)) q_snil)))
    (q_seq (by first | exact (q_setLc (i := 2) (own := [("name", 3), ("kind", 4)]) rfl nd rfl rfl (sw_true rfl rfl rfl (by decide +kernel)) (qi_list (q_var 0)) (blkOk_by (own := [("name", 3), ("kind", 4)]) (by rfl)) (by decide) (fun _ _ _ _ _ => (q_gtu rfl (q_gscons (q_gn (i := 3) nd rfl (by first | exact Or.inl rfl | exact Or.inr rfl)) (q_gscons (q_gn (i := 4) nd rfl (by first | exact Or.inl rfl | exact Or.inr rfl)) q_gsnil)))) (fun _ _ _ _ _ => qts_nil) (fun _ _ _ _ _ => (q_var 3))) | exact (q_set (i := 2) nd rfl (by first | exact Or.inl rfl | exact Or.inr rfl) (q_lc (own := [("name", 3), ("kind", 4)]) rfl nd (qi_list (q_var 0)) (blkOk_by (own := [("name", 3), ("kind", 4)]) (by rfl)) (by decide) (fun _ _ _ _ _ => (q_gtu rfl (q_gscons (q_gn (i := 3) nd rfl (by first | exact Or.inl rfl | exact Or.inr rfl)) (q_gscons (q_gn (i := 4) nd rfl (by first | exact Or.inl rfl | exact Or.inr rfl)) q_gsnil)))) (fun _ _ _ _ _ => qts_nil) (fun _ _ _ _ _ => (q_var 3)))))
    (q_last (q_ret (q_cmp (op_eqU (by have z := hu2 hr; exact z)) eqP_v (q_lenSet rfl rfl T.m_len rfl T.m_set (q_var 2)) (q_callB call_len len_v rfl T.m_len PySem.boot_len (q_cons (q_var 2) q_nil)) (nomark _)))))))
theorem ok_sure_library {k : Nat} {cl : Fn → FF} [Wo] (T : Txt K w.params mg) (hW : Wo.ww = w) (C : ∀ g : Fn, g ≠ .f_law → calOf P w K mg base k g (cl g)) (f : Addr) (cdv : Value) (A : Around) (outer : List Env) (s : Shared) (H : Hp) (E : XK) (hr : RoomG k (A.deeper (envOfC "sure_library" (defScope s_sure_library) s.heap.objs.size f cdv))) :
    PSs (cxOf (L2.CX P w) P w K mg base ["library"] "sure_library" (defScope s_sure_library) f cdv A outer s H E) (defBody s_sure_library) (tS (cxOf (L2.CX P w) P w K mg base ["library"] "sure_library" (defScope s_sure_library) f cdv A outer s H E) (fun c d _ H => E c d H) (b_sure_library cl)) := by
  have tk : Takes (cxOf (L2.CX P w) P w K mg base ["library"] "sure_library" (defScope s_sure_library) f cdv A outer s H E) (fun c d _ H => E c d H) := takes_of rfl rfl rfl rfl
  have nd := sc_sure_library.nd
  exact (q_last (q_ifS (qt_not (qt_tru (q_call (C .f_is_library (fun z => nomatch z)) hr tk rfl (q_cons (q_var 0) q_nil)))) (q_last (q_raise rfl tk T.x_NoLibrary rfl)) q_snil))
theorem ok_search {k : Nat} {cl : Fn → FF} [Wo] (T : Txt K w.params mg) (hW : Wo.ww = w) (C : ∀ g : Fn, g ≠ .f_law → calOf P w K mg base k g (cl g)) (f : Addr) (cdv : Value) (A : Around) (outer : List Env) (s : Shared) (H : Hp) (E : XK) (hr : RoomG k (A.deeper (envOfC "search" (defScope s_search) s.heap.objs.size f cdv))) :
    PSs (cxOf (L2.CX P w) P w K mg base ["library", "kind", "some", "name", "there", "wants", "goal"] "search" (defScope s_search) f cdv A outer s H E) (defBody s_search) (tS (cxOf (L2.CX P w) P w K mg base ["library", "kind", "some", "name", "there", "wants", "goal"] "search" (defScope s_search) f cdv A outer s H E) (fun c d _ H => E c d H) (b_search cl)) := by
  have tk : Takes (cxOf (L2.CX P w) P w K mg base ["library", "kind", "some", "name", "there", "wants", "goal"] "search" (defScope s_search) f cdv A outer s H E) (fun c d _ H => E c d H) := takes_of rfl rfl rfl rfl
  have nd := sc_search.nd
  exact (q_seq (q_expr (q_call (C .f_sure_kind (fun z => nomatch z)) hr tk rfl (q_cons (q_var 1) q_nil)))
    (q_seq (q_expr (q_call (C .f_sure_library (fun z => nomatch z)) hr tk rfl (q_cons (q_var 0) q_nil)))
    q_dead))
theorem ok_search_fault {k : Nat} {cl : Fn → FF} [Wo] (T : Txt K w.params mg) (hW : Wo.ww = w) (C : ∀ g : Fn, g ≠ .f_law → calOf P w K mg base k g (cl g)) (f : Addr) (cdv : Value) (A : Around) (outer : List Env) (s : Shared) (H : Hp) (E : XK) (hr : RoomG k (A.deeper (envOfC "search_fault" (defScope s_search_fault) s.heap.objs.size f cdv))) :
    PSs (cxOf (L2.CX P w) P w K mg base ["library", "kind", "name", "thing", "some", "wants", "there", "back", "title"] "search_fault" (defScope s_search_fault) f cdv A outer s H E) (defBody s_search_fault) (tS (cxOf (L2.CX P w) P w K mg base ["library", "kind", "name", "thing", "some", "wants", "there", "back", "title"] "search_fault" (defScope s_search_fault) f cdv A outer s H E) (fun c d _ H => E c d H) (b_search_fault cl)) := by
  have tk : Takes (cxOf (L2.CX P w) P w K mg base ["library", "kind", "name", "thing", "some", "wants", "there", "back", "title"] "search_fault" (defScope s_search_fault) f cdv A outer s H E) (fun c d _ H => E c d H) := takes_of rfl rfl rfl rfl
  have nd := sc_search_fault.nd
  exact (q_seq (q_expr (q_call (C .f_sure_kind (fun z => nomatch z)) hr tk rfl (q_cons (q_var 1) q_nil)))
    (q_seq (q_expr (q_call (C .f_sure_library (fun z => nomatch z)) hr tk rfl (q_cons (q_var 0) q_nil)))
    q_dead))
theorem ok__law_well {k : Nat} {cl : Fn → FF} [Wo] (T : Txt K w.params mg) (hW : Wo.ww = w) (C : ∀ g : Fn, g ≠ .f_law → calOf P w K mg base k g (cl g)) (f : Addr) (cdv : Value) (A : Around) (outer : List Env) (s : Shared) (H : Hp) (E : XK) (hr : RoomG k (A.deeper (envOfC "_law_well" (defScope s__law_well) s.heap.objs.size f cdv))) :
    PSs (cxOf (L2.CX P w) P w K mg base ["_law_cell"] "_law_well" (defScope s__law_well) f cdv A outer s H E) (defBody s__law_well) (tS (cxOf (L2.CX P w) P w K mg base ["_law_cell"] "_law_well" (defScope s__law_well) f cdv A outer s H E) (fun c d _ H => E c d H) (b__law_well cl)) := by
  have tk : Takes (cxOf (L2.CX P w) P w K mg base ["_law_cell"] "_law_well" (defScope s__law_well) f cdv A outer s H E) (fun c d _ H => E c d H) := takes_of rfl rfl rfl rfl
  have nd := sc__law_well.nd
  exact (q_last (q_ret (q_cel (q_cons (q_op op_mulU mulU_v (q_var 0) (q_callTy call_int1 int_v rfl T.m_int (by decide +kernel) (q_cons (q_cmp op_ge (cmp_v _) (q_var 0) (q_op op_pow pow_v q_int q_int) (nomark _)) q_nil))) (q_cons (q_var 0) (q_cons q_int q_nil))))))
theorem ok__law_draw {k : Nat} {cl : Fn → FF} [Wo] (T : Txt K w.params mg) (hW : Wo.ww = w) (C : ∀ g : Fn, g ≠ .f_law → calOf P w K mg base k g (cl g)) (f : Addr) (cdv : Value) (A : Around) (outer : List Env) (s : Shared) (H : Hp) (E : XK) (hr : RoomG k (A.deeper (envOfC "_law_draw" (defScope s__law_draw) s.heap.objs.size f cdv))) :
    PSs (cxOf (L2.CX P w) P w K mg base ["_law_well_here", "_law_width", "_law_low", "_law_digit_told"] "_law_draw" (defScope s__law_draw) f cdv A outer s H E) (defBody s__law_draw) (tS (cxOf (L2.CX P w) P w K mg base ["_law_well_here", "_law_width", "_law_low", "_law_digit_told"] "_law_draw" (defScope s__law_draw) f cdv A outer s H E) (fun c d _ H => E c d H) (b__law_draw cl)) := by
  have tk : Takes (cxOf (L2.CX P w) P w K mg base ["_law_well_here", "_law_width", "_law_low", "_law_digit_told"] "_law_draw" (defScope s__law_draw) f cdv A outer s H E) (fun c d _ H => E c d H) := takes_of rfl rfl rfl rfl
  have nd := sc__law_draw.nd
  exact (q_seq (q_ifS (qt_cmp op_gt (cmp_v _) (q_ix (q_var 0) q_int) q_int (nomark _)) (q_seq (q_set (i := 3) nd rfl (by first | exact Or.inl rfl | exact Or.inr rfl) (q_op op_mod mod_v (q_ix (q_var 0) q_int) (q_var 1)))
    (q_seq (q_asg (q_op op_fdivW div_v (q_ix (q_var 0) q_int) (q_var 1)) (q_gsb (W := W0) (q_var 0) q_int))
    (q_last (q_ret (q_var 3))))) q_snil)
    (q_seq (q_asg (q_op op_addU addU_v (q_ix (q_var 0) q_int) q_int) (q_gsb (W := W0) (q_var 0) q_int))
    (q_seq (q_set (i := 2) nd rfl (by first | exact Or.inl rfl | exact Or.inr rfl) (q_op op_addU addU_v (q_op op_mod mod_v (q_ix (q_var 0) q_int) q_int) (q_op op_mulU mulU_v (q_op op_fdivW div_v (q_ix (q_var 0) q_int) q_int) q_int)))
    (q_seq (q_set (i := 2) nd rfl (by first | exact Or.inl rfl | exact Or.inr rfl) (q_op op_mod mod_v (q_op op_mulU mulU_v (q_op op_addU addU_v (q_op op_addU addU_v (q_var 2) (q_op op_mulU mulU_v q_int (q_ix (q_var 0) q_int))) q_int) q_int) q_int))
    (q_seq (q_set (i := 2) nd rfl (by first | exact Or.inl rfl | exact Or.inr rfl) (q_op op_mod mod_v (q_op op_mulU mulU_v (q_var 2) (q_op op_addU addU_v (q_op op_addU addU_v (q_op op_fdivW div_v (q_var 2) q_int) q_int) (q_ix (q_var 0) q_int))) q_int))
    (q_last (q_ret (q_op op_mod mod_v (q_op op_mod mod_v (q_op op_mulU mulU_v (q_var 2) (q_op op_addU addU_v (q_op op_fdivW div_v (q_var 2) q_int) q_int)) q_int) (q_var 1)))))))))
theorem ok__law_deep {k : Nat} {cl : Fn → FF} [Wo] (T : Txt K w.params mg) (hW : Wo.ww = w) (C : ∀ g : Fn, g ≠ .f_law → calOf P w K mg base k g (cl g)) (f : Addr) (cdv : Value) (A : Around) (outer : List Env) (s : Shared) (H : Hp) (E : XK) (hr : RoomG k (A.deeper (envOfC "_law_deep" (defScope s__law_deep) s.heap.objs.size f cdv))) :
    PSs (cxOf (L2.CX P w) P w K mg base ["_law_well_here", "_law_deep_here", "_law_kind", "_law_turn", "_law_side", "_law_word_here"] "_law_deep" (defScope s__law_deep) f cdv A outer s H E) (defBody s__law_deep) (tS (cxOf (L2.CX P w) P w K mg base ["_law_well_here", "_law_deep_here", "_law_kind", "_law_turn", "_law_side", "_law_word_here"] "_law_deep" (defScope s__law_deep) f cdv A outer s H E) (fun c d _ H => E c d H) (b__law_deep cl)) := by
  have tk : Takes (cxOf (L2.CX P w) P w K mg base ["_law_well_here", "_law_deep_here", "_law_kind", "_law_turn", "_law_side", "_law_word_here"] "_law_deep" (defScope s__law_deep) f cdv A outer s H E) (fun c d _ H => E c d H) := takes_of rfl rfl rfl rfl
  have nd := sc__law_deep.nd
  exact (q_seq (q_set (i := 2) nd rfl (by first | exact Or.inl rfl | exact Or.inr rfl) (q_ix (q_lst (q_cons (q_tup (q_cons q_str q_nil)) (q_cons (q_tup (q_cons q_str (q_cons (q_call (C .f__law_draw (fun z => nomatch z)) hr tk rfl (q_cons (q_var 0) (q_cons q_int q_nil))) q_nil))) q_nil))) (q_call (C .f__law_draw (fun z => nomatch z)) hr tk rfl (q_cons (q_var 0) (q_cons q_int q_nil)))))
    (q_seq (q_for (passes_of rfl) rfl (qi_range1 rfl T.m_range (q_cons (q_var 1) q_nil)) (q_gn (i := 3) nd rfl (by first | exact Or.inl rfl | exact Or.inr rfl)) (q_seq (q_set (i := 4) nd rfl (by first | exact Or.inl rfl | exact Or.inr rfl) (q_ix (q_lst (q_cons (q_tup (q_cons q_str q_nil)) (q_cons (q_tup (q_cons q_str (q_cons (q_call (C .f__law_draw (fun z => nomatch z)) hr tk rfl (q_cons (q_var 0) (q_cons q_int q_nil))) q_nil))) (q_cons (q_tup (q_cons q_str (q_cons (q_tup (q_cons q_str (q_cons q_int q_nil))) (q_cons (q_tup (q_cons q_str q_nil)) q_nil)))) q_nil)))) (q_call (C .f__law_draw (fun z => nomatch z)) hr tk rfl (q_cons (q_var 0) (q_cons q_int q_nil)))))
    (q_seq (q_set (i := 5) nd rfl (by first | exact Or.inl rfl | exact Or.inr rfl) (q_ix (q_lst (q_cons q_str (q_cons q_str q_nil))) (q_call (C .f__law_draw (fun z => nomatch z)) hr tk rfl (q_cons (q_var 0) (q_cons q_int q_nil)))))
    (q_last (q_set (i := 2) nd rfl (by first | exact Or.inl rfl | exact Or.inr rfl) (q_ix (q_lst (q_cons (q_tup (q_cons (q_var 5) (q_cons (q_var 2) (q_cons (q_var 4) q_nil)))) (q_cons (q_tup (q_cons (q_var 5) (q_cons (q_var 4) (q_cons (q_var 2) q_nil)))) q_nil))) (q_call (C .f__law_draw (fun z => nomatch z)) hr tk rfl (q_cons (q_var 0) (q_cons q_int q_nil)))))))))
    (q_last (q_ret (q_var 2)))))
theorem ok__law_odd {k : Nat} {cl : Fn → FF} [Wo] (T : Txt K w.params mg) (hW : Wo.ww = w) (C : ∀ g : Fn, g ≠ .f_law → calOf P w K mg base k g (cl g)) (f : Addr) (cdv : Value) (A : Around) (outer : List Env) (s : Shared) (H : Hp) (E : XK) (hr : RoomG k (A.deeper (envOfC "_law_odd" (defScope s__law_odd) s.heap.objs.size f cdv))) :
    PSs (cxOf (L2.CX P w) P w K mg base ["_law_well_here", "_law_kind", "_law_some"] "_law_odd" (defScope s__law_odd) f cdv A outer s H E) (defBody s__law_odd) (tS (cxOf (L2.CX P w) P w K mg base ["_law_well_here", "_law_kind", "_law_some"] "_law_odd" (defScope s__law_odd) f cdv A outer s H E) (fun c d _ H => E c d H) (b__law_odd cl)) := by
  have tk : Takes (cxOf (L2.CX P w) P w K mg base ["_law_well_here", "_law_kind", "_law_some"] "_law_odd" (defScope s__law_odd) f cdv A outer s H E) (fun c d _ H => E c d H) := takes_of rfl rfl rfl rfl
  have nd := sc__law_odd.nd
  exact (q_seq (q_set (i := 2) nd rfl (by first | exact Or.inl rfl | exact Or.inr rfl) (q_cel (q_cons (q_tup (q_cons q_str (q_cons q_int q_nil))) (q_cons (q_tup (q_cons q_str (q_cons (q_neg q_int) q_nil))) (q_cons (q_tup (q_cons q_str (q_cons q_bl q_nil))) (q_cons (q_tup (q_cons q_str (q_cons q_str q_nil))) (q_cons (q_tup (q_cons q_str (q_cons q_non q_nil))) (q_cons (q_tup (q_cons q_str (q_cons (q_tup (q_cons q_int q_nil)) q_nil))) q_nil))))))))
    (q_seq (q_expr (q_mth PySem.F.slot_list_append PySem.F.type_list_append mt_append append_v (q_var 2) (q_cons (q_tup (q_cons q_str (q_cons (q_op op_pow pow_v q_int q_int) q_nil))) q_nil)))
    (q_seq (q_set (i := 2) nd rfl (by first | exact Or.inl rfl | exact Or.inr rfl) (q_op op_addU addU_v (q_var 2) (q_lst (q_cons (q_callTy call_list_of list_v rfl T.m_list (by decide +kernel) (q_cons (q_var 1) q_nil)) (q_cons (q_slice (q_var 1) q_none (q_some (q_neg q_int))) (q_cons (q_op op_addU addU_v (q_var 1) (q_tup (q_cons (q_tup (q_cons q_str q_nil)) q_nil))) (q_cons (q_tup q_nil) (q_cons q_non (q_cons q_int (q_cons q_str (q_cons q_bl (q_cons q_dic0 (q_cons (q_tup (q_cons q_str q_nil)) (q_cons (q_tup (q_cons (q_var 1) q_nil)) q_nil))))))))))))))
    (q_seq (q_set (i := 2) nd rfl (by first | exact Or.inl rfl | exact Or.inr rfl) (q_op op_addU addU_v (q_var 2) (q_lst (q_cons (q_tup (q_cons q_str q_nil)) (q_cons (q_tup (q_cons q_str (q_cons q_int (q_cons q_int q_nil)))) (q_cons (q_tup (q_cons q_str (q_cons (q_tup (q_cons q_str q_nil)) q_nil))) (q_cons (q_tup (q_cons q_str (q_cons (q_var 1) (q_cons (q_var 1) q_nil)))) (q_cons (q_tup (q_cons q_str (q_cons (q_var 1) q_nil))) (q_cons (q_tup (q_cons q_non (q_cons (q_var 1) q_nil))) q_nil)))))))))
    (q_last (q_ret (q_ix (q_var 2) (q_call (C .f__law_draw (fun z => nomatch z)) hr tk rfl (q_cons (q_var 0) (q_cons q_int q_nil))))))))))
theorem ok__law_spoilt {k : Nat} {cl : Fn → FF} [Wo] (T : Txt K w.params mg) (hW : Wo.ww = w) (C : ∀ g : Fn, g ≠ .f_law → calOf P w K mg base k g (cl g)) (f : Addr) (cdv : Value) (A : Around) (outer : List Env) (s : Shared) (H : Hp) (E : XK) (hr : RoomG k (A.deeper (envOfC "_law_spoilt" (defScope s__law_spoilt) s.heap.objs.size f cdv))) :
    PSs (cxOf (L2.CX P w) P w K mg base ["_law_well_here", "_law_kind"] "_law_spoilt" (defScope s__law_spoilt) f cdv A outer s H E) (defBody s__law_spoilt) (tS (cxOf (L2.CX P w) P w K mg base ["_law_well_here", "_law_kind"] "_law_spoilt" (defScope s__law_spoilt) f cdv A outer s H E) (fun c d _ H => E c d H) (b__law_spoilt cl)) := by
  have tk : Takes (cxOf (L2.CX P w) P w K mg base ["_law_well_here", "_law_kind"] "_law_spoilt" (defScope s__law_spoilt) f cdv A outer s H E) (fun c d _ H => E c d H) := takes_of rfl rfl rfl rfl
  have nd := sc__law_spoilt.nd
  exact (q_seq (q_ifS (PW.pt (qw_or (qt_cmp (op_inU (by have z := hu2 hr; exact z)) inU_v (q_ix (q_var 1) q_int) (q_lst (q_cons q_str (q_cons q_str q_nil))) (by rfl)) (qw_one (qt_cmp (op_eqU (by have z := hu2 hr; exact z)) eqP_v (q_call (C .f__law_draw (fun z => nomatch z)) hr tk rfl (q_cons (q_var 0) (q_cons q_int q_nil))) q_int (nomark _))))) (q_last (q_ret (q_call (C .f__law_odd (fun z => nomatch z)) hr tk rfl (q_cons (q_var 0) (q_cons (q_var 1) q_nil))))) q_snil)
    (q_seq (q_ifS (qt_cmp (op_eqU (by have z := hu2 hr; exact z)) eqP_v (q_call (C .f__law_draw (fun z => nomatch z)) hr tk rfl (q_cons (q_var 0) (q_cons q_int q_nil))) q_int (nomark _)) (q_last (q_ret (q_tup (q_cons (q_ix (q_var 1) q_int) (q_cons (q_call (C .f__law_spoilt (fun z => nomatch z)) hr tk rfl (q_cons (q_var 0) (q_cons (q_ix (q_var 1) q_int) q_nil))) (q_cons (q_ix (q_var 1) q_int) q_nil)))))) q_snil)
    (q_last (q_ret (q_tup (q_cons (q_ix (q_var 1) q_int) (q_cons (q_ix (q_var 1) q_int) (q_cons (q_call (C .f__law_spoilt (fun z => nomatch z)) hr tk rfl (q_cons (q_var 0) (q_cons (q_ix (q_var 1) q_int) q_nil))) q_nil))))))))
theorem ok__law_word {k : Nat} [Wo] (T : Txt K w.params mg) (hW : Wo.ww = w) (act : FE) (f : Addr) (cdv : Value) (A : Around) (outer : List Env) (s : Shared) (H : Hp) (E : XK) (hr : RoomG k (A.deeper (envOfC "_law_word" (defScope s__law_word) s.heap.objs.size f cdv)))
    (hask : ∀ (pn : List (Addr × Obj)) (xe : Value → Shared → Prop) (W : WX) (p1 p2 : Pos), Takes ((cxOf (L2.CX P w) P w K mg base ["_law_ask", "_law_found", "e"] "_law_word" (defScope s__law_word) f cdv A outer s H E).tr pn xe) W → PE ((cxOf (L2.CX P w) P w K mg base ["_law_ask", "_law_found", "e"] "_law_word" (defScope s__law_word) f cdv A outer s H E).tr pn xe) (.Call (.Name "_law_ask" p1) [] [] p2) (tF ((cxOf (L2.CX P w) P w K mg base ["_law_ask", "_law_found", "e"] "_law_word" (defScope s__law_word) f cdv A outer s H E).tr pn xe) W act)) :
    PSs (cxOf (L2.CX P w) P w K mg base ["_law_ask", "_law_found", "e"] "_law_word" (defScope s__law_word) f cdv A outer s H E) (defBody s__law_word) (tS (cxOf (L2.CX P w) P w K mg base ["_law_ask", "_law_found", "e"] "_law_word" (defScope s__law_word) f cdv A outer s H E) (fun c d _ H => E c d H) (b__law_word act)) := by
  have tk : Takes (cxOf (L2.CX P w) P w K mg base ["_law_ask", "_law_found", "e"] "_law_word" (defScope s__law_word) f cdv A outer s H E) (fun c d _ H => E c d H) := takes_of rfl rfl rfl rfl
  have nd := sc__law_word.nd
  exact (q_seq (q_set (i := 1) nd rfl (by first | exact Or.inl rfl | exact Or.inr rfl) q_str)
    (q_seq (q_tryC rfl rfl nd tk T.xk (fun W' pn xe tk' po' => (q_last (q_expr (hask _ _ _ _ _ tk')))) (ClsF.named T.c_NoKind rfl rfl rfl (fun y hy a oe pn C hyC hz hfz => (q_last (q_set (i := 1) nd rfl (by first | exact Or.inl rfl | exact Or.inr rfl) (q_ix (q_lst (q_cons q_str (q_cons q_str q_nil))) (q_callTy call_int1 int_v rfl T.m_int (by decide +kernel) (q_cons (q_isE (T.xk y hy) hyC (T.i_NoLibrary y hy) hz hfz rfl T.m_isinstance rfl (q_var 2)) q_nil)))))) (ClsF.plain T.c_NoLibrary rfl (fun y hy a oe pn C hyC hz hfz => (q_last (q_set (i := 1) nd rfl (by first | exact Or.inl rfl | exact Or.inr rfl) q_str))) (ClsF.plain T.c_SwapError rfl (fun y hy a oe pn C hyC hz hfz => (q_last (q_set (i := 1) nd rfl (by first | exact Or.inl rfl | exact Or.inr rfl) q_str))) ClsF.nil))))
    (q_last (q_ret (q_var 1)))))
theorem ok__law_asks {k : Nat} {cl : Fn → FF} [Wo] (T : Txt K w.params mg) (hW : Wo.ww = w) (C : ∀ g : Fn, g ≠ .f_law → calOf P w K mg base k g (cl g)) (f : Addr) (cdv : Value) (A : Around) (outer : List Env) (s : Shared) (H : Hp) (E : XK) (B : TbF K mg base "_law_asks" cdv) (hr : RoomG k (A.deeper (envOfC "_law_asks" (defScope s__law_asks) s.heap.objs.size f cdv))) :
    PSL (cxOf (L2.CX P w) P w K mg base ["_law_bad", "_law_good", "_law_odd_here", "_law_sizes", "_law_by", "_law_term", "_law_library", "_law_found"] "_law_asks" (defScope s__law_asks) f cdv A outer s H E) (defBody s__law_asks) (tL (cxOf (L2.CX P w) P w K mg base ["_law_bad", "_law_good", "_law_odd_here", "_law_sizes", "_law_by", "_law_term", "_law_library", "_law_found"] "_law_asks" (defScope s__law_asks) f cdv A outer s H E) (b0__law_asks (fun i => ob__law_asks i s.heap.objs.size) cl)) := by
  have tk : Takes (cxOf (L2.CX P w) P w K mg base ["_law_bad", "_law_good", "_law_odd_here", "_law_sizes", "_law_by", "_law_term", "_law_library", "_law_found"] "_law_asks" (defScope s__law_asks) f cdv A outer s H E) (fun c d _ H => E c d H) := takes_of rfl rfl rfl rfl
  have nd := sc__law_asks.nd
  exact (q_seqL (W := fun c d _ H => E c d H) (q_asg (q_tup (q_cons (q_ix (q_lst (q_cons (q_op op_mulU mulU_v (q_lst (q_cons q_int q_nil)) q_int) (q_cons (q_var 2) q_nil))) (q_callTy call_int1 int_v rfl T.m_int (by decide +kernel) (q_cons (q_cmp op_isNotU isU_v (q_var 2) q_non (nomark _)) q_nil))) (q_cons (q_ix (q_lst (q_cons q_int (q_cons (q_var 2) q_nil))) (q_callTy call_int1 int_v rfl T.m_int (by decide +kernel) (q_cons (q_cmp op_isNotU isU_v (q_var 2) q_non (nomark _)) q_nil))) q_nil))) (q_gtu rfl (q_gscons (q_gn (i := 3) nd rfl (by first | exact Or.inl rfl | exact Or.inr rfl)) (q_gscons (q_gn (i := 4) nd rfl (by first | exact Or.inl rfl | exact Or.inr rfl)) q_gsnil))))
    (q_seqL (W := fun c d _ H => E c d H) (q_set (i := 5) nd rfl (by first | exact Or.inl rfl | exact Or.inr rfl) (q_ix (q_lst (q_cons (q_tup (q_cons q_str q_nil)) (q_cons (q_var 2) q_nil))) (q_callTy call_int1 int_v rfl T.m_int (by decide +kernel) (q_cons (q_cmp op_isNotU isU_v (q_var 2) q_non (nomark _)) q_nil))))
    (q_seqL (W := fun c d _ H => E c d H) (q_set (i := 6) nd rfl (by first | exact Or.inl rfl | exact Or.inr rfl) (q_ix (q_lst (q_cons (q_lst (q_cons (q_tup (q_cons q_str (q_cons (q_var 1) q_nil))) q_nil)) (q_cons (q_var 2) q_nil))) (q_callTy call_int1 int_v rfl T.m_int (by decide +kernel) (q_cons (q_cmp op_isNotU isU_v (q_var 2) q_non (nomark _)) q_nil))))
    (q_seqL (W := fun c d _ H => E c d H) (q_set (i := 7) nd rfl (by first | exact Or.inl rfl | exact Or.inr rfl) (q_cel (q_cons (q_lamv (j := 2) (i := 0) (xq := "_law_asks") B rfl (LamX.lamS_by (by show LamX.lamSB (defScope s__law_asks) _ = true; decide +kernel)) lam_def0) q_nil)))
    (q_seqL (W := fun c d _ H => E c d H) (q_expr (q_mth PySem.F.slot_list_append PySem.F.type_list_append mt_append append_v (q_var 7) (q_cons (q_lamv (j := 2) (i := 1) (xq := "_law_asks") B rfl (LamX.lamS_by (by show LamX.lamSB (defScope s__law_asks) _ = true; decide +kernel)) lam_def0) q_nil)))
    (q_seqL (W := fun c d _ H => E c d H) (q_expr (q_mth PySem.F.slot_list_append PySem.F.type_list_append mt_append append_v (q_var 7) (q_cons (q_lamv (j := 2) (i := 2) (xq := "_law_asks") B rfl (LamX.lamS_by (by show LamX.lamSB (defScope s__law_asks) _ = true; decide +kernel)) lam_def0) q_nil)))
    (q_seqL (W := fun c d _ H => E c d H) (q_expr (q_mth PySem.F.slot_list_append PySem.F.type_list_append mt_append append_v (q_var 7) (q_cons (q_lamv (j := 2) (i := 3) (xq := "_law_asks") B rfl (LamX.lamS_by (by show LamX.lamSB (defScope s__law_asks) _ = true; decide +kernel)) lam_def0) q_nil)))
    (q_seqL (W := fun c d _ H => E c d H) (q_expr (q_mth PySem.F.slot_list_append PySem.F.type_list_append mt_append append_v (q_var 7) (q_cons (q_lamv (j := 2) (i := 4) (xq := "_law_asks") B rfl (LamX.lamS_by (by show LamX.lamSB (defScope s__law_asks) _ = true; decide +kernel)) lam_def0) q_nil)))
    (q_seqL (W := fun c d _ H => E c d H) (q_expr (q_mth PySem.F.slot_list_append PySem.F.type_list_append mt_append append_v (q_var 7) (q_cons (q_lamv (j := 2) (i := 5) (xq := "_law_asks") B rfl (LamX.lamS_by (by show LamX.lamSB (defScope s__law_asks) _ = true; decide +kernel)) lam_def0) q_nil)))
    (q_seqL (W := fun c d _ H => E c d H) (q_expr (q_mth PySem.F.slot_list_append PySem.F.type_list_append mt_append append_v (q_var 7) (q_cons (q_lamv (j := 2) (i := 6) (xq := "_law_asks") B rfl (LamX.lamS_by (by show LamX.lamSB (defScope s__law_asks) _ = true; decide +kernel)) lam_def0) q_nil)))
    (q_seqL (W := fun c d _ H => E c d H) (q_expr (q_mth PySem.F.slot_list_append PySem.F.type_list_append mt_append append_v (q_var 7) (q_cons (q_lamv (j := 2) (i := 7) (xq := "_law_asks") B rfl (LamX.lamS_by (by show LamX.lamSB (defScope s__law_asks) _ = true; decide +kernel)) lam_def0) q_nil)))
    (q_seqL (W := fun c d _ H => E c d H) (q_expr (q_mth PySem.F.slot_list_append PySem.F.type_list_append mt_append append_v (q_var 7) (q_cons (q_lamv (j := 2) (i := 8) (xq := "_law_asks") B rfl (LamX.lamS_by (by show LamX.lamSB (defScope s__law_asks) _ = true; decide +kernel)) lam_def0) q_nil)))
    (q_seqL (W := fun c d _ H => E c d H) (q_expr (q_mth PySem.F.slot_list_append PySem.F.type_list_append mt_append append_v (q_var 7) (q_cons (q_lamv (j := 2) (i := 9) (xq := "_law_asks") B rfl (LamX.lamS_by (by show LamX.lamSB (defScope s__law_asks) _ = true; decide +kernel)) lam_def0) q_nil)))
    (q_seqL (W := fun c d _ H => E c d H) (q_expr (q_mth PySem.F.slot_list_append PySem.F.type_list_append mt_append append_v (q_var 7) (q_cons (q_lamv (j := 2) (i := 10) (xq := "_law_asks") B rfl (LamX.lamS_by (by show LamX.lamSB (defScope s__law_asks) _ = true; decide +kernel)) lam_def0) q_nil)))
    (q_seqL (W := fun c d _ H => E c d H) (q_expr (q_mth PySem.F.slot_list_append PySem.F.type_list_append mt_append append_v (q_var 7) (q_cons (q_lamv (j := 2) (i := 11) (xq := "_law_asks") B rfl (LamX.lamS_by (by show LamX.lamSB (defScope s__law_asks) _ = true; decide +kernel)) lam_def0) q_nil)))
    (q_seqL (W := fun c d _ H => E c d H) (q_expr (q_mth PySem.F.slot_list_append PySem.F.type_list_append mt_append append_v (q_var 7) (q_cons (q_lamv (j := 2) (i := 12) (xq := "_law_asks") B rfl (LamX.lamS_by (by show LamX.lamSB (defScope s__law_asks) _ = true; decide +kernel)) lam_def0) q_nil)))
    (q_seqL (W := fun c d _ H => E c d H) (q_expr (q_mth PySem.F.slot_list_append PySem.F.type_list_append mt_append append_v (q_var 7) (q_cons (q_lamv (j := 2) (i := 13) (xq := "_law_asks") B rfl (LamX.lamS_by (by show LamX.lamSB (defScope s__law_asks) _ = true; decide +kernel)) lam_def0) q_nil)))
    (q_seqL (W := fun c d _ H => E c d H) (q_expr (q_mth PySem.F.slot_list_append PySem.F.type_list_append mt_append append_v (q_var 7) (q_cons (q_lamv (j := 2) (i := 14) (xq := "_law_asks") B rfl (LamX.lamS_by (by show LamX.lamSB (defScope s__law_asks) _ = true; decide +kernel)) lam_def0) q_nil)))
    (q_seqL (W := fun c d _ H => E c d H) (q_expr (q_mth PySem.F.slot_list_append PySem.F.type_list_append mt_append append_v (q_var 7) (q_cons (q_lamv (j := 2) (i := 15) (xq := "_law_asks") B rfl (LamX.lamS_by (by show LamX.lamSB (defScope s__law_asks) _ = true; decide +kernel)) lam_def0) q_nil)))
    (q_seqL (W := fun c d _ H => E c d H) (q_expr (q_mth PySem.F.slot_list_append PySem.F.type_list_append mt_append append_v (q_var 7) (q_cons (q_lamv (j := 2) (i := 16) (xq := "_law_asks") B rfl (LamX.lamS_by (by show LamX.lamSB (defScope s__law_asks) _ = true; decide +kernel)) lam_def0) q_nil)))
    (q_seqL (W := fun c d _ H => E c d H) (q_expr (q_mth PySem.F.slot_list_append PySem.F.type_list_append mt_append append_v (q_var 7) (q_cons (q_lamv (j := 2) (i := 17) (xq := "_law_asks") B rfl (LamX.lamS_by (by show LamX.lamSB (defScope s__law_asks) _ = true; decide +kernel)) lam_def0) q_nil)))
    (q_retL (i := 7) rfl (Or.inl rfl)))))))))))))))))))))))
theorem lcs_ok__law_asks {k : Nat} {cl : Fn → FF} [Wo] (T : Txt K w.params mg) (hW : Wo.ww = w) (C : ∀ g : Fn, g ≠ .f_law → calOf P w K mg base k g (cl g)) : ∀ t ∈ lcs__law_asks cl, LamC P w K mg base k (tabQ "_law_asks") t := (List.forall_mem_cons.mpr ⟨lamC_mk (N := ["_law_bad", "_law_good", "_law_odd_here", "_law_sizes", "_law_by", "_law_term", "_law_library", "_law_found"]) rfl (LamX.lamS_by (by show LamX.lamSB (defScope s__law_asks) _ = true; decide +kernel)) sc__law_asks.nd (by decide +kernel) (by decide +kernel) (by decide) (fun f0 cd0 A0 outer0 s0 H0 E0 A outer s H E f c' hr2 tkL => (q_call (C .f_kind_text (fun z => nomatch z)) hr2 tkL rfl (q_cons (q_var 0) q_nil))),
    (List.forall_mem_cons.mpr ⟨lamC_mk (N := ["_law_bad", "_law_good", "_law_odd_here", "_law_sizes", "_law_by", "_law_term", "_law_library", "_law_found"]) rfl (LamX.lamS_by (by show LamX.lamSB (defScope s__law_asks) _ = true; decide +kernel)) sc__law_asks.nd (by decide +kernel) (by decide +kernel) (by decide) (fun f0 cd0 A0 outer0 s0 H0 E0 A outer s H E f c' hr2 tkL => (q_call (C .f_form (fun z => nomatch z)) hr2 tkL rfl (q_cons (q_var 0) q_nil))),
    (List.forall_mem_cons.mpr ⟨lamC_mk (N := ["_law_bad", "_law_good", "_law_odd_here", "_law_sizes", "_law_by", "_law_term", "_law_library", "_law_found"]) rfl (LamX.lamS_by (by show LamX.lamSB (defScope s__law_asks) _ = true; decide +kernel)) sc__law_asks.nd (by decide +kernel) (by decide +kernel) (by decide) (fun f0 cd0 A0 outer0 s0 H0 E0 A outer s H E f c' hr2 tkL => (q_call (C .f_alike (fun z => nomatch z)) hr2 tkL rfl (q_cons (q_var 0) (q_cons (q_var 1) q_nil)))),
    (List.forall_mem_cons.mpr ⟨lamC_mk (N := ["_law_bad", "_law_good", "_law_odd_here", "_law_sizes", "_law_by", "_law_term", "_law_library", "_law_found"]) rfl (LamX.lamS_by (by show LamX.lamSB (defScope s__law_asks) _ = true; decide +kernel)) sc__law_asks.nd (by decide +kernel) (by decide +kernel) (by decide) (fun f0 cd0 A0 outer0 s0 H0 E0 A outer s H E f c' hr2 tkL => (q_call (C .f_alike (fun z => nomatch z)) hr2 tkL rfl (q_cons (q_var 1) (q_cons (q_var 0) q_nil)))),
    (List.forall_mem_cons.mpr ⟨lamC_mk (N := ["_law_bad", "_law_good", "_law_odd_here", "_law_sizes", "_law_by", "_law_term", "_law_library", "_law_found"]) rfl (LamX.lamS_by (by show LamX.lamSB (defScope s__law_asks) _ = true; decide +kernel)) sc__law_asks.nd (by decide +kernel) (by decide +kernel) (by decide) (fun f0 cd0 A0 outer0 s0 H0 E0 A outer s H E f c' hr2 tkL => (q_call (C .f_many (fun z => nomatch z)) hr2 tkL rfl (q_cons (q_var 0) (q_cons (q_var 3) q_nil)))),
    (List.forall_mem_cons.mpr ⟨lamC_mk (N := ["_law_bad", "_law_good", "_law_odd_here", "_law_sizes", "_law_by", "_law_term", "_law_library", "_law_found"]) rfl (LamX.lamS_by (by show LamX.lamSB (defScope s__law_asks) _ = true; decide +kernel)) sc__law_asks.nd (by decide +kernel) (by decide +kernel) (by decide) (fun f0 cd0 A0 outer0 s0 H0 E0 A outer s H E f c' hr2 tkL => (q_call (C .f_rest (fun z => nomatch z)) hr2 tkL rfl (q_cons (q_var 0) (q_cons (q_var 3) (q_cons (q_var 4) q_nil))))),
    (List.forall_mem_cons.mpr ⟨lamC_mk (N := ["_law_bad", "_law_good", "_law_odd_here", "_law_sizes", "_law_by", "_law_term", "_law_library", "_law_found"]) rfl (LamX.lamS_by (by show LamX.lamSB (defScope s__law_asks) _ = true; decide +kernel)) sc__law_asks.nd (by decide +kernel) (by decide +kernel) (by decide) (fun f0 cd0 A0 outer0 s0 H0 E0 A outer s H E f c' hr2 tkL => (q_call (C .f_apart (fun z => nomatch z)) hr2 tkL rfl (q_cons (q_var 0) (q_cons (q_var 1) q_nil)))),
    (List.forall_mem_cons.mpr ⟨lamC_mk (N := ["_law_bad", "_law_good", "_law_odd_here", "_law_sizes", "_law_by", "_law_term", "_law_library", "_law_found"]) rfl (LamX.lamS_by (by show LamX.lamSB (defScope s__law_asks) _ = true; decide +kernel)) sc__law_asks.nd (by decide +kernel) (by decide +kernel) (by decide) (fun f0 cd0 A0 outer0 s0 H0 E0 A outer s H E f c' hr2 tkL => (q_call (C .f_apart (fun z => nomatch z)) hr2 tkL rfl (q_cons (q_var 1) (q_cons (q_var 0) q_nil)))),
    (List.forall_mem_cons.mpr ⟨lamC_mk (N := ["_law_bad", "_law_good", "_law_odd_here", "_law_sizes", "_law_by", "_law_term", "_law_library", "_law_found"]) rfl (LamX.lamS_by (by show LamX.lamSB (defScope s__law_asks) _ = true; decide +kernel)) sc__law_asks.nd (by decide +kernel) (by decide +kernel) (by decide) (fun f0 cd0 A0 outer0 s0 H0 E0 A outer s H E f c' hr2 tkL => (q_call (C .f_apart_fault (fun z => nomatch z)) hr2 tkL rfl (q_cons (q_var 0) (q_cons (q_var 1) (q_cons (q_var 2) q_nil))))),
    (List.forall_mem_cons.mpr ⟨lamC_mk (N := ["_law_bad", "_law_good", "_law_odd_here", "_law_sizes", "_law_by", "_law_term", "_law_library", "_law_found"]) rfl (LamX.lamS_by (by show LamX.lamSB (defScope s__law_asks) _ = true; decide +kernel)) sc__law_asks.nd (by decide +kernel) (by decide +kernel) (by decide) (fun f0 cd0 A0 outer0 s0 H0 E0 A outer s H E f c' hr2 tkL => (q_call (C .f_apart_fault (fun z => nomatch z)) hr2 tkL rfl (q_cons (q_var 1) (q_cons (q_var 0) (q_cons (q_var 2) q_nil))))),
    (List.forall_mem_cons.mpr ⟨lamC_mk (N := ["_law_bad", "_law_good", "_law_odd_here", "_law_sizes", "_law_by", "_law_term", "_law_library", "_law_found"]) rfl (LamX.lamS_by (by show LamX.lamSB (defScope s__law_asks) _ = true; decide +kernel)) sc__law_asks.nd (by decide +kernel) (by decide +kernel) (by decide) (fun f0 cd0 A0 outer0 s0 H0 E0 A outer s H E f c' hr2 tkL => (q_call (C .f_worths (fun z => nomatch z)) hr2 tkL rfl (q_cons (q_var 0) (q_cons (q_var 3) q_nil)))),
    (List.forall_mem_cons.mpr ⟨lamC_mk (N := ["_law_bad", "_law_good", "_law_odd_here", "_law_sizes", "_law_by", "_law_term", "_law_library", "_law_found"]) rfl (LamX.lamS_by (by show LamX.lamSB (defScope s__law_asks) _ = true; decide +kernel)) sc__law_asks.nd (by decide +kernel) (by decide +kernel) (by decide) (fun f0 cd0 A0 outer0 s0 H0 E0 A outer s H E f c' hr2 tkL => (q_call (C .f_is_worth (fun z => nomatch z)) hr2 tkL rfl (q_cons (q_var 0) (q_cons (q_var 3) (q_cons q_int q_nil))))),
    (List.forall_mem_cons.mpr ⟨lamC_mk (N := ["_law_bad", "_law_good", "_law_odd_here", "_law_sizes", "_law_by", "_law_term", "_law_library", "_law_found"]) rfl (LamX.lamS_by (by show LamX.lamSB (defScope s__law_asks) _ = true; decide +kernel)) sc__law_asks.nd (by decide +kernel) (by decide +kernel) (by decide) (fun f0 cd0 A0 outer0 s0 H0 E0 A outer s H E f c' hr2 tkL => (q_call (C .f_turner (fun z => nomatch z)) hr2 tkL rfl (q_cons (q_var 0) (q_cons (q_var 1) q_nil)))),
    (List.forall_mem_cons.mpr ⟨lamC_mk (N := ["_law_bad", "_law_good", "_law_odd_here", "_law_sizes", "_law_by", "_law_term", "_law_library", "_law_found"]) rfl (LamX.lamS_by (by show LamX.lamSB (defScope s__law_asks) _ = true; decide +kernel)) sc__law_asks.nd (by decide +kernel) (by decide +kernel) (by decide) (fun f0 cd0 A0 outer0 s0 H0 E0 A outer s H E f c' hr2 tkL => (q_call (C .f_turner (fun z => nomatch z)) hr2 tkL rfl (q_cons (q_var 1) (q_cons (q_var 0) q_nil)))),
    (List.forall_mem_cons.mpr ⟨lamC_mk (N := ["_law_bad", "_law_good", "_law_odd_here", "_law_sizes", "_law_by", "_law_term", "_law_library", "_law_found"]) rfl (LamX.lamS_by (by show LamX.lamSB (defScope s__law_asks) _ = true; decide +kernel)) sc__law_asks.nd (by decide +kernel) (by decide +kernel) (by decide) (fun f0 cd0 A0 outer0 s0 H0 E0 A outer s H E f c' hr2 tkL => (q_call (C .f_turn_fault (fun z => nomatch z)) hr2 tkL rfl (q_cons (q_var 0) (q_cons (q_var 1) (q_cons (q_var 5) (q_cons (q_var 5) q_nil)))))),
    (List.forall_mem_cons.mpr ⟨lamC_mk (N := ["_law_bad", "_law_good", "_law_odd_here", "_law_sizes", "_law_by", "_law_term", "_law_library", "_law_found"]) rfl (LamX.lamS_by (by show LamX.lamSB (defScope s__law_asks) _ = true; decide +kernel)) sc__law_asks.nd (by decide +kernel) (by decide +kernel) (by decide) (fun f0 cd0 A0 outer0 s0 H0 E0 A outer s H E f c' hr2 tkL => (q_call (C .f_turn_fault (fun z => nomatch z)) hr2 tkL rfl (q_cons (q_var 1) (q_cons (q_var 0) (q_cons (q_var 5) (q_cons (q_var 5) q_nil)))))),
    (List.forall_mem_cons.mpr ⟨lamC_mk (N := ["_law_bad", "_law_good", "_law_odd_here", "_law_sizes", "_law_by", "_law_term", "_law_library", "_law_found"]) rfl (LamX.lamS_by (by show LamX.lamSB (defScope s__law_asks) _ = true; decide +kernel)) sc__law_asks.nd (by decide +kernel) (by decide +kernel) (by decide) (fun f0 cd0 A0 outer0 s0 H0 E0 A outer s H E f c' hr2 tkL => (q_call (C .f_search (fun z => nomatch z)) hr2 tkL rfl (q_cons (q_var 6) (q_cons (q_var 0) q_nil)))),
    (List.forall_mem_cons.mpr ⟨lamC_mk (N := ["_law_bad", "_law_good", "_law_odd_here", "_law_sizes", "_law_by", "_law_term", "_law_library", "_law_found"]) rfl (LamX.lamS_by (by show LamX.lamSB (defScope s__law_asks) _ = true; decide +kernel)) sc__law_asks.nd (by decide +kernel) (by decide +kernel) (by decide) (fun f0 cd0 A0 outer0 s0 H0 E0 A outer s H E f c' hr2 tkL => (q_call (C .f_search_fault (fun z => nomatch z)) hr2 tkL rfl (q_cons (q_var 6) (q_cons (q_var 0) (q_cons q_str (q_cons (q_var 2) q_nil)))))),
    (fun _ z => (nomatch z))⟩)⟩)⟩)⟩)⟩)⟩)⟩)⟩)⟩)⟩)⟩)⟩)⟩)⟩)⟩)⟩)⟩)⟩)
theorem ok__law_lists_right {k : Nat} {cl cl2 : Fn → FF} [Wo] (T : Txt K w.params mg) (hW : Wo.ww = w) (C : ∀ g : Fn, g ≠ .f_law → calOf P w K mg base (k + 2) g (cl g)) (C2 : ∀ g : Fn, g ≠ .f_law → calOf P w K mg base k g (cl2 g)) (f : Addr) (cdv : Value) (A : Around) (outer : List Env) (s : Shared) (H : Hp) (E : XK) (B : TbF K mg base "_law_lists_right" cdv) (hr : RoomG (k + 2) (A.deeper (envOfC "_law_lists_right" (defScope s__law_lists_right) s.heap.objs.size f cdv))) :
    PSs (cxOf (L2.CX P w) P w K mg base ["_law_well_here", "_law_bad", "_law_good", "_law_some", "_law_spot", "_law_given", "_law_term", "_law_asks_here", "_law_library", "_law_name", "_law_k", "_law_kind", "_law_ask"] "_law_lists_right" (defScope s__law_lists_right) f cdv A outer s H E) (defBody s__law_lists_right) (tS (cxOf (L2.CX P w) P w K mg base ["_law_well_here", "_law_bad", "_law_good", "_law_some", "_law_spot", "_law_given", "_law_term", "_law_asks_here", "_law_library", "_law_name", "_law_k", "_law_kind", "_law_ask"] "_law_lists_right" (defScope s__law_lists_right) f cdv A outer s H E) (fun c d _ H => E c d H) (b__law_lists_right cl cl2)) := by
  have tk : Takes (cxOf (L2.CX P w) P w K mg base ["_law_well_here", "_law_bad", "_law_good", "_law_some", "_law_spot", "_law_given", "_law_term", "_law_asks_here", "_law_library", "_law_name", "_law_k", "_law_kind", "_law_ask"] "_law_lists_right" (defScope s__law_lists_right) f cdv A outer s H E) (fun c d _ H => E c d H) := takes_of rfl rfl rfl rfl
  have nd := sc__law_lists_right.nd
  exact pss_obsF (ob := fun i => ob__law_lists_right i s.heap.objs.size) (F := fun ob => b0__law_lists_right ob cl cl2) (q_seq (q_set (i := 3) nd rfl (by first | exact Or.inl rfl | exact Or.inr rfl) (q_slice (q_lst (q_cons (q_var 2) (q_cons (q_tup (q_cons q_str q_nil)) (q_cons (q_tup (q_cons q_str (q_cons q_int q_nil))) (q_cons (q_var 2) q_nil))))) q_none (q_some (q_call (C .f__law_draw (fun z => nomatch z)) hr tk rfl (q_cons (q_var 0) (q_cons q_int q_nil))))))
    (q_seq (q_set (i := 4) nd rfl (by first | exact Or.inl rfl | exact Or.inr rfl) (q_call (C .f__law_draw (fun z => nomatch z)) hr tk rfl (q_cons (q_var 0) (q_cons (q_op op_addU addU_v (q_callB call_len len_v rfl T.m_len PySem.boot_len (q_cons (q_var 3) q_nil)) q_int) q_nil))))
    (q_seq (q_set (i := 5) nd rfl (by first | exact Or.inl rfl | exact Or.inr rfl) (q_op op_addU addU_v (q_op op_addU addU_v (q_slice (q_var 3) q_none (q_some (q_var 4))) (q_lst (q_cons (q_var 1) q_nil))) (q_slice (q_var 3) (q_some (q_var 4)) q_none)))
    (q_seq (q_set (i := 6) nd rfl (by first | exact Or.inl rfl | exact Or.inr rfl) (q_ix (q_lst (q_cons (q_tup (q_cons q_str q_nil)) (q_cons (q_tup (q_cons q_str (q_cons q_int q_nil))) (q_cons q_non (q_cons q_int q_nil))))) (q_call (C .f__law_draw (fun z => nomatch z)) hr tk rfl (q_cons (q_var 0) (q_cons q_int q_nil)))))
    (q_seq (q_set (i := 7) nd rfl (by first | exact Or.inl rfl | exact Or.inr rfl) (q_cel (q_cons (q_lamv (j := 3) (i := 0) (xq := "_law_lists_right") B rfl (LamX.lamS_by (by show LamX.lamSB (defScope s__law_lists_right) _ = true; decide +kernel)) lam_def0) q_nil)))
    (q_seq (q_expr (q_mth PySem.F.slot_list_append PySem.F.type_list_append mt_append append_v (q_var 7) (q_cons (q_lamv (j := 3) (i := 1) (xq := "_law_lists_right") B rfl (LamX.lamS_by (by show LamX.lamSB (defScope s__law_lists_right) _ = true; decide +kernel)) lam_def0) q_nil)))
    (q_seq (q_expr (q_mth PySem.F.slot_list_append PySem.F.type_list_append mt_append append_v (q_var 7) (q_cons (q_lamv (j := 3) (i := 2) (xq := "_law_lists_right") B rfl (LamX.lamS_by (by show LamX.lamSB (defScope s__law_lists_right) _ = true; decide +kernel)) lam_def0) q_nil)))
    (q_seq (q_expr (q_mth PySem.F.slot_list_append PySem.F.type_list_append mt_append append_v (q_var 7) (q_cons (q_lamv (j := 3) (i := 3) (xq := "_law_lists_right") B rfl (LamX.lamS_by (by show LamX.lamSB (defScope s__law_lists_right) _ = true; decide +kernel)) lam_def0) q_nil)))
    (q_seq (q_ifS (qt_cmp (op_neU (by have z := hu2 hr; exact z)) neP_v (q_lcV (c := false) (own := [("_law_ask", 12)]) (st := s__law_word) (Ng := ["_law_ask", "_law_found", "e"]) (a := "_law_ask") (bg := b__law_word) T.t__law_word sc__law_word rfl (Or.inl rfl) (fun act g cdv A outer s H E hr' hask => ok__law_word T hW act g cdv A outer s H E hr' hask) hr rfl (lamVs_cons (lamV_mk (LamX.lamS_by (by show LamX.lamSB (defScope s__law_lists_right) _ = true; decide +kernel)) (fun A outer s H E f c' hr2 tkL => (q_call (C2 .f_term_kind (fun z => nomatch z)) hr2 tkL rfl (q_cons (q_var 6) (q_cons (q_var 5) q_nil))))) (lamVs_cons (lamV_mk (LamX.lamS_by (by show LamX.lamSB (defScope s__law_lists_right) _ = true; decide +kernel)) (fun A outer s H E f c' hr2 tkL => (q_call (C2 .f_plain (fun z => nomatch z)) hr2 tkL rfl (q_cons (q_var 6) (q_cons (q_var 5) q_nil))))) (lamVs_cons (lamV_mk (LamX.lamS_by (by show LamX.lamSB (defScope s__law_lists_right) _ = true; decide +kernel)) (fun A outer s H E f c' hr2 tkL => (q_call (C2 .f_same (fun z => nomatch z)) hr2 tkL rfl (q_cons (q_var 6) (q_cons (q_tup (q_cons q_str q_nil)) (q_cons (q_var 5) q_nil)))))) (lamVs_cons (lamV_mk (LamX.lamS_by (by show LamX.lamSB (defScope s__law_lists_right) _ = true; decide +kernel)) (fun A outer s H E f c' hr2 tkL => (q_call (C2 .f_same (fun z => nomatch z)) hr2 tkL rfl (q_cons (q_tup (q_cons q_str q_nil)) (q_cons (q_var 6) (q_cons (q_var 5) q_nil)))))) lamVs_nil)))) rfl nd (qi_list (q_var 7)) (blkOk_by (own := [("_law_ask", 12)]) (by rfl)) (by decide) (fun _ _ _ _ _ => (q_gn (i := 12) nd rfl (by first | exact Or.inl rfl | exact Or.inr rfl))) (fun _ _ _ _ _ => qts_nil) (fun _ _ _ _ _ => q_var 12) (fun _ _ _ _ _ => rfl)) (q_op op_mulU mulU_v (q_lst (q_cons q_str q_nil)) q_int) (nomark _)) (q_last (q_ret q_bl)) q_snil)
    (q_seq (by first | exact (q_setLc (i := 8) (own := [("_law_k", 10), ("_law_kind", 11)]) rfl nd rfl rfl (sw_true rfl rfl rfl (by decide +kernel)) (qi_enum rfl T.m_enumerate (q_cons (q_var 5) q_nil)) (blkOk_by (own := [("_law_k", 10), ("_law_kind", 11)]) (by rfl)) (by decide) (fun _ _ _ _ _ => (q_gtu rfl (q_gscons (q_gn (i := 10) nd rfl (by first | exact Or.inl rfl | exact Or.inr rfl)) (q_gscons (q_gn (i := 11) nd rfl (by first | exact Or.inl rfl | exact Or.inr rfl)) q_gsnil)))) (fun _ _ _ _ _ => qts_nil) (fun _ _ _ _ _ => (q_tup (q_cons (q_op op_addU addU_v q_str (q_op op_mulU mulU_v q_str (q_var 10))) (q_cons (q_var 11) q_nil))))) | exact (q_set (i := 8) nd rfl (by first | exact Or.inl rfl | exact Or.inr rfl) (q_lc (own := [("_law_k", 10), ("_law_kind", 11)]) rfl nd (qi_enum rfl T.m_enumerate (q_cons (q_var 5) q_nil)) (blkOk_by (own := [("_law_k", 10), ("_law_kind", 11)]) (by rfl)) (by decide) (fun _ _ _ _ _ => (q_gtu rfl (q_gscons (q_gn (i := 10) nd rfl (by first | exact Or.inl rfl | exact Or.inr rfl)) (q_gscons (q_gn (i := 11) nd rfl (by first | exact Or.inl rfl | exact Or.inr rfl)) q_gsnil)))) (fun _ _ _ _ _ => qts_nil) (fun _ _ _ _ _ => (q_tup (q_cons (q_op op_addU addU_v q_str (q_op op_mulU mulU_v q_str (q_var 10))) (q_cons (q_var 11) q_nil)))))))
    (q_seq (q_set (i := 9) nd rfl (by first | exact Or.inl rfl | exact Or.inr rfl) (q_ix (q_lst (q_cons q_str (q_cons q_str (q_cons q_str (q_cons q_non q_nil))))) (q_call (C .f__law_draw (fun z => nomatch z)) hr tk rfl (q_cons (q_var 0) (q_cons q_int q_nil)))))
    (q_seq (q_set (i := 7) nd rfl (by first | exact Or.inl rfl | exact Or.inr rfl) (q_cel (q_cons (q_lamv (j := 3) (i := 4) (xq := "_law_lists_right") B rfl (LamX.lamS_by (by show LamX.lamSB (defScope s__law_lists_right) _ = true; decide +kernel)) lam_def0) q_nil)))
    (q_seq (q_expr (q_mth PySem.F.slot_list_append PySem.F.type_list_append mt_append append_v (q_var 7) (q_cons (q_lamv (j := 3) (i := 5) (xq := "_law_lists_right") B rfl (LamX.lamS_by (by show LamX.lamSB (defScope s__law_lists_right) _ = true; decide +kernel)) lam_def0) q_nil)))
    (q_last (q_ret (q_cmp (op_eqU (by have z := hu2 hr; exact z)) eqP_v (q_lcV (c := false) (own := [("_law_ask", 12)]) (st := s__law_word) (Ng := ["_law_ask", "_law_found", "e"]) (a := "_law_ask") (bg := b__law_word) T.t__law_word sc__law_word rfl (Or.inl rfl) (fun act g cdv A outer s H E hr' hask => ok__law_word T hW act g cdv A outer s H E hr' hask) hr rfl (lamVs_cons (lamV_mk (LamX.lamS_by (by show LamX.lamSB (defScope s__law_lists_right) _ = true; decide +kernel)) (fun A outer s H E f c' hr2 tkL => (q_call (C2 .f_term_kind (fun z => nomatch z)) hr2 tkL rfl (q_cons (q_var 6) (q_cons (q_var 5) q_nil))))) (lamVs_cons (lamV_mk (LamX.lamS_by (by show LamX.lamSB (defScope s__law_lists_right) _ = true; decide +kernel)) (fun A outer s H E f c' hr2 tkL => (q_call (C2 .f_plain (fun z => nomatch z)) hr2 tkL rfl (q_cons (q_var 6) (q_cons (q_var 5) q_nil))))) (lamVs_cons (lamV_mk (LamX.lamS_by (by show LamX.lamSB (defScope s__law_lists_right) _ = true; decide +kernel)) (fun A outer s H E f c' hr2 tkL => (q_call (C2 .f_same (fun z => nomatch z)) hr2 tkL rfl (q_cons (q_var 6) (q_cons (q_tup (q_cons q_str q_nil)) (q_cons (q_var 5) q_nil)))))) (lamVs_cons (lamV_mk (LamX.lamS_by (by show LamX.lamSB (defScope s__law_lists_right) _ = true; decide +kernel)) (fun A outer s H E f c' hr2 tkL => (q_call (C2 .f_same (fun z => nomatch z)) hr2 tkL rfl (q_cons (q_tup (q_cons q_str q_nil)) (q_cons (q_var 6) (q_cons (q_var 5) q_nil)))))) (lamVs_cons (lamV_mk (LamX.lamS_by (by show LamX.lamSB (defScope s__law_lists_right) _ = true; decide +kernel)) (fun A outer s H E f c' hr2 tkL => (q_call (C2 .f_search (fun z => nomatch z)) hr2 tkL rfl (q_cons (q_var 8) (q_cons (q_var 2) q_nil))))) (lamVs_cons (lamV_mk (LamX.lamS_by (by show LamX.lamSB (defScope s__law_lists_right) _ = true; decide +kernel)) (fun A outer s H E f c' hr2 tkL => (q_call (C2 .f_search_fault (fun z => nomatch z)) hr2 tkL rfl (q_cons (q_var 8) (q_cons (q_var 2) (q_cons (q_var 9) (q_cons q_non q_nil))))))) lamVs_nil)))))) rfl nd (qi_list (q_var 7)) (blkOk_by (own := [("_law_ask", 12)]) (by rfl)) (by decide) (fun _ _ _ _ _ => (q_gn (i := 12) nd rfl (by first | exact Or.inl rfl | exact Or.inr rfl))) (fun _ _ _ _ _ => qts_nil) (fun _ _ _ _ _ => q_var 12) (fun _ _ _ _ _ => rfl)) (q_op op_mulU mulU_v (q_lst (q_cons q_str q_nil)) q_int) (nomark _)))))))))))))))))
theorem ok_law {k : Nat} {cl : Fn → FF} [Wo] (T : Txt K w.params mg) (hW : Wo.ww = w) (C : ∀ g : Fn, g ≠ .f_law → calOf P w K mg base k g (cl g)) (f : Addr) (cdv : Value) (A : Around) (outer : List Env) (s : Shared) (H : Hp) (E : XK) (hr : RoomG k (A.deeper (envOfC "law" (defScope s_law) s.heap.objs.size f cdv))) :
    PSs (cxOf (L2.CX P w) P w K mg base ["_law_script", "_law_cell", "_law_well_here", "_law_good", "_law_bad", "_law_small", "_law_odd_here", "_law_words", "_law_ask"] "law" (defScope s_law) f cdv A outer s H E) (defBody s_law) (tS (cxOf (L2.CX P w) P w K mg base ["_law_script", "_law_cell", "_law_well_here", "_law_good", "_law_bad", "_law_small", "_law_odd_here", "_law_words", "_law_ask"] "law" (defScope s_law) f cdv A outer s H E) (fun c d _ H => E c d H) (b_law cl)) := by
  have tk : Takes (cxOf (L2.CX P w) P w K mg base ["_law_script", "_law_cell", "_law_well_here", "_law_good", "_law_bad", "_law_small", "_law_odd_here", "_law_words", "_law_ask"] "law" (defScope s_law) f cdv A outer s H E) (fun c d _ H => E c d H) := takes_of rfl rfl rfl rfl
  have nd := sc_law.nd
  exact (q_seq (q_for (passes_of rfl) rfl (qi_list (q_op op_addU addU_v (q_lst (q_cons q_int (q_cons q_int q_nil))) (q_slice (q_var 0) q_none (q_some q_int)))) (q_gn (i := 1) nd rfl (by first | exact Or.inl rfl | exact Or.inr rfl)) (q_seq (q_set (i := 2) nd rfl (by first | exact Or.inl rfl | exact Or.inr rfl) (q_call (C .f__law_well (fun z => nomatch z)) hr tk rfl (q_cons (q_var 1) q_nil)))
    (q_seq (q_set (i := 3) nd rfl (by first | exact Or.inl rfl | exact Or.inr rfl) (q_call (C .f__law_deep (fun z => nomatch z)) hr tk rfl (q_cons (q_var 2) (q_cons (q_op op_addU addU_v q_int (q_call (C .f__law_draw (fun z => nomatch z)) hr tk rfl (q_cons (q_var 2) (q_cons q_int q_nil)))) q_nil))))
    (q_seq (q_set (i := 4) nd rfl (by first | exact Or.inl rfl | exact Or.inr rfl) (q_call (C .f__law_spoilt (fun z => nomatch z)) hr tk rfl (q_cons (q_var 2) (q_cons (q_var 3) q_nil))))
    (q_seq (q_ifS (PW.pt (qw_or (qt_cmp op_isNotU isU_v (q_call (C .f_is_kind (fun z => nomatch z)) hr tk rfl (q_cons (q_var 3) q_nil)) q_bl (nomark _)) (qw_or (qt_cmp op_isNotU isU_v (q_call (C .f_is_kind (fun z => nomatch z)) hr tk rfl (q_cons (q_var 4) q_nil)) q_bl (nomark _)) (qw_one (qt_cmp (op_neU (by have z := hu2 hr; exact z)) neP_v (q_call (C .f_read_kind (fun z => nomatch z)) hr tk rfl (q_cons (q_call (C .f_kind_text (fun z => nomatch z)) hr tk rfl (q_cons (q_var 3) q_nil)) q_nil)) (q_var 3) (nomark _)))))) (q_last (q_ret q_bl)) q_snil)
    (q_seq (q_set (i := 5) nd rfl (by first | exact Or.inl rfl | exact Or.inr rfl) (q_ix (q_lst (q_cons (q_tup (q_cons q_str (q_cons q_int q_nil))) (q_cons (q_tup (q_cons q_str q_nil)) (q_cons (q_tup (q_cons q_str (q_cons (q_tup (q_cons q_str (q_cons q_int q_nil))) (q_cons (q_tup (q_cons q_str (q_cons q_int q_nil))) q_nil)))) q_nil)))) (q_call (C .f__law_draw (fun z => nomatch z)) hr tk rfl (q_cons (q_var 2) (q_cons q_int q_nil)))))
    (q_seq (q_set (i := 6) nd rfl (by first | exact Or.inl rfl | exact Or.inr rfl) (q_ix (q_lst (q_cons q_dic0 (q_cons q_str (q_cons q_int (q_cons (q_lst (q_cons q_int q_nil)) (q_cons (q_tup (q_cons q_non q_nil)) (q_cons q_bl q_nil))))))) (q_call (C .f__law_draw (fun z => nomatch z)) hr tk rfl (q_cons (q_var 2) (q_cons q_int q_nil)))))
    (q_seq (by first | exact (q_setLc (i := 7) (own := [("_law_ask", 8)]) rfl nd rfl rfl (sw_true rfl rfl rfl (by decide +kernel)) (qi_list (q_op op_addU addU_v (q_call (C .f__law_asks (fun z => nomatch z)) hr tk rfl (q_cons (q_var 4) (q_cons (q_var 5) (q_cons q_non q_nil)))) (q_call (C .f__law_asks (fun z => nomatch z)) hr tk rfl (q_cons (q_var 4) (q_cons (q_var 5) (q_cons (q_var 6) q_nil)))))) (blkOk_by (own := [("_law_ask", 8)]) (by rfl)) (by decide) (fun _ _ _ _ _ => (q_gn (i := 8) nd rfl (by first | exact Or.inl rfl | exact Or.inr rfl))) (fun _ _ _ _ _ => qts_nil) (fun _ _ _ _ _ => (q_call (C .f__law_word (fun z => nomatch z)) hr takes0 rfl (q_cons (q_var 8) q_nil)))) | exact (q_set (i := 7) nd rfl (by first | exact Or.inl rfl | exact Or.inr rfl) (q_lc (own := [("_law_ask", 8)]) rfl nd (qi_list (q_op op_addU addU_v (q_call (C .f__law_asks (fun z => nomatch z)) hr tk rfl (q_cons (q_var 4) (q_cons (q_var 5) (q_cons q_non q_nil)))) (q_call (C .f__law_asks (fun z => nomatch z)) hr tk rfl (q_cons (q_var 4) (q_cons (q_var 5) (q_cons (q_var 6) q_nil)))))) (blkOk_by (own := [("_law_ask", 8)]) (by rfl)) (by decide) (fun _ _ _ _ _ => (q_gn (i := 8) nd rfl (by first | exact Or.inl rfl | exact Or.inr rfl))) (fun _ _ _ _ _ => qts_nil) (fun _ _ _ _ _ => (q_call (C .f__law_word (fun z => nomatch z)) hr takes0 rfl (q_cons (q_var 8) q_nil))))))
    (q_last (q_ifS (PW.pt (qw_or (qt_cmp (op_neU (by have z := hu2 hr; exact z)) neP_v (q_var 7) (q_op op_mulU mulU_v (q_lst (q_cons q_str q_nil)) q_int) (nomark _)) (qw_one (qt_not (qt_tru (q_call (C .f__law_lists_right (fun z => nomatch z)) hr tk rfl (q_cons (q_var 2) (q_cons (q_var 4) (q_cons (q_var 5) q_nil))))))))) (q_last (q_ret q_bl)) q_snil))))))))))
    (q_last (q_ret q_bl)))
theorem all_ok [Wo] (T : Txt K w.params mg) (hW : Wo.ww = w) (Kb : K.In base) (Gb : base.Ns mainGlobals mg) (B_order_of : TbK K mg base "order_of") (B__law_asks : TbK K mg base "_law_asks") (B__law_lists_right : TbK K mg base "_law_lists_right") : ∀ (n : Nat) (g : Fn), g ≠ .f_law → calOf P w K mg base n g (ev n g)
  | 0, .f_is_from, _ => cal_zero T.t_is_from
  | 0, .f_inner_of, _ => cal_zero T.t_inner_of
  | 0, .f_is_kind, _ => cal_zero T.t_is_kind
  | 0, .f_sure_kind, _ => cal_zero T.t_sure_kind
  | 0, .f_plain_text, _ => cal_zero T.t_plain_text
  | 0, .f_kind_text, _ => cal_zero T.t_kind_text
  | 0, .f_closed, _ => cal_zero T.t_closed
  | 0, .f_read_kind, _ => cal_zero T.t_read_kind
  | 0, .f_order_of, _ => cal_zero T.t_order_of
  | 0, .f_in_order, _ => cal_zero T.t_in_order
  | 0, .f_wants_with, _ => cal_zero T.t_wants_with
  | 0, .f_plain_form, _ => cal_zero T.t_plain_form
  | 0, .f_form, _ => cal_zero T.t_form
  | 0, .f_alike, _ => cal_zero T.t_alike
  | 0, .f_many, _ => cal_zero T.t_many
  | 0, .f_rest, _ => cal_zero T.t_rest
  | 0, .f_apart, _ => cal_zero T.t_apart
  | 0, .f_apart_fault, _ => cal_zero T.t_apart_fault
  | 0, .f_worths, _ => cal_zero T.t_worths
  | 0, .f_is_worth, _ => cal_zero T.t_is_worth
  | 0, .f_sure_given, _ => cal_zero T.t_sure_given
  | 0, .f_term_kind, _ => cal_zero T.t_term_kind
  | 0, .f_plain, _ => cal_zero T.t_plain
  | 0, .f_same, _ => cal_zero T.t_same
  | 0, .f_turner, _ => cal_zero T.t_turner
  | 0, .f_turn_fault, _ => cal_zero T.t_turn_fault
  | 0, .f_is_library, _ => cal_zero T.t_is_library
  | 0, .f_sure_library, _ => cal_zero T.t_sure_library
  | 0, .f_search, _ => cal_zero T.t_search
  | 0, .f_search_fault, _ => cal_zero T.t_search_fault
  | 0, .f__law_well, _ => cal_zero T.t__law_well
  | 0, .f__law_draw, _ => cal_zero T.t__law_draw
  | 0, .f__law_deep, _ => cal_zero T.t__law_deep
  | 0, .f__law_odd, _ => cal_zero T.t__law_odd
  | 0, .f__law_spoilt, _ => cal_zero T.t__law_spoilt
  | 0, .f__law_word, _ => cal_zero T.t__law_word
  | 0, .f__law_asks, _ => cal_zero T.t__law_asks
  | 0, .f__law_lists_right, _ => cal_zero T.t__law_lists_right
  | n + 1, .f_is_from, _ => calB T.t_is_from sc_is_from (ok_is_from T hW (all_ok T hW Kb Gb B_order_of B__law_asks B__law_lists_right n))
  | n + 1, .f_inner_of, _ => calB T.t_inner_of sc_inner_of (ok_inner_of T hW (all_ok T hW Kb Gb B_order_of B__law_asks B__law_lists_right n))
  | n + 1, .f_is_kind, _ => calC T.t_is_kind sc_is_kind (ok_is_kind T hW (all_ok T hW Kb Gb B_order_of B__law_asks B__law_lists_right n))
  | n + 1, .f_sure_kind, _ => calB T.t_sure_kind sc_sure_kind (ok_sure_kind T hW (all_ok T hW Kb Gb B_order_of B__law_asks B__law_lists_right n))
  | n + 1, .f_plain_text, _ => calB T.t_plain_text sc_plain_text (ok_plain_text T hW (all_ok T hW Kb Gb B_order_of B__law_asks B__law_lists_right n))
  | n + 1, .f_kind_text, _ => calB T.t_kind_text sc_kind_text (ok_kind_text T hW (all_ok T hW Kb Gb B_order_of B__law_asks B__law_lists_right n))
  | n + 1, .f_closed, _ => calB T.t_closed sc_closed (ok_closed T hW (all_ok T hW Kb Gb B_order_of B__law_asks B__law_lists_right n))
  | n + 1, .f_read_kind, _ => calC T.t_read_kind sc_read_kind (ok_read_kind T hW (all_ok T hW Kb Gb B_order_of B__law_asks B__law_lists_right n))
  | n + 1, .f_order_of, _ => calLB T.t_order_of sc_order_of Kb Gb B_order_of (ok_order_of T hW (all_ok T hW Kb Gb B_order_of B__law_asks B__law_lists_right n))
  | n + 1, .f_in_order, _ => calB T.t_in_order sc_in_order (ok_in_order T hW (all_ok T hW Kb Gb B_order_of B__law_asks B__law_lists_right n))
  | n + 1, .f_wants_with, _ => calB T.t_wants_with sc_wants_with (ok_wants_with T hW (all_ok T hW Kb Gb B_order_of B__law_asks B__law_lists_right n))
  | n + 1, .f_plain_form, _ => calB T.t_plain_form sc_plain_form (ok_plain_form T hW (all_ok T hW Kb Gb B_order_of B__law_asks B__law_lists_right n))
  | n + 1, .f_form, _ => calB T.t_form sc_form (ok_form T hW (all_ok T hW Kb Gb B_order_of B__law_asks B__law_lists_right n))
  | n + 1, .f_alike, _ => calB T.t_alike sc_alike (ok_alike T hW (all_ok T hW Kb Gb B_order_of B__law_asks B__law_lists_right n))
  | n + 1, .f_many, _ => calB T.t_many sc_many (ok_many T hW (all_ok T hW Kb Gb B_order_of B__law_asks B__law_lists_right n))
  | n + 1, .f_rest, _ => calB T.t_rest sc_rest (ok_rest T hW (all_ok T hW Kb Gb B_order_of B__law_asks B__law_lists_right n))
  | n + 1, .f_apart, _ => calB T.t_apart sc_apart (ok_apart T hW (all_ok T hW Kb Gb B_order_of B__law_asks B__law_lists_right n))
  | n + 1, .f_apart_fault, _ => calB T.t_apart_fault sc_apart_fault (ok_apart_fault T hW (all_ok T hW Kb Gb B_order_of B__law_asks B__law_lists_right n))
  | n + 1, .f_worths, _ => calB T.t_worths sc_worths (ok_worths T hW (all_ok T hW Kb Gb B_order_of B__law_asks B__law_lists_right n))
  | n + 1, .f_is_worth, _ => calB T.t_is_worth sc_is_worth (ok_is_worth T hW (all_ok T hW Kb Gb B_order_of B__law_asks B__law_lists_right n))
  | n + 1, .f_sure_given, _ => calB T.t_sure_given sc_sure_given (ok_sure_given T hW (all_ok T hW Kb Gb B_order_of B__law_asks B__law_lists_right n))
  | n + 1, .f_term_kind, _ => calB T.t_term_kind sc_term_kind (ok_term_kind T hW (all_ok T hW Kb Gb B_order_of B__law_asks B__law_lists_right n))
  | n + 1, .f_plain, _ => calB T.t_plain sc_plain (ok_plain T hW (all_ok T hW Kb Gb B_order_of B__law_asks B__law_lists_right n))
  | n + 1, .f_same, _ => calB T.t_same sc_same (ok_same T hW (all_ok T hW Kb Gb B_order_of B__law_asks B__law_lists_right n))
  | n + 1, .f_turner, _ => calB T.t_turner sc_turner (ok_turner T hW (all_ok T hW Kb Gb B_order_of B__law_asks B__law_lists_right n))
  | n + 1, .f_turn_fault, _ => calB T.t_turn_fault sc_turn_fault (ok_turn_fault T hW (all_ok T hW Kb Gb B_order_of B__law_asks B__law_lists_right n))
  | n + 1, .f_is_library, _ => calB T.t_is_library sc_is_library (ok_is_library T hW (all_ok T hW Kb Gb B_order_of B__law_asks B__law_lists_right n))
  | n + 1, .f_sure_library, _ => calB T.t_sure_library sc_sure_library (ok_sure_library T hW (all_ok T hW Kb Gb B_order_of B__law_asks B__law_lists_right n))
  | n + 1, .f_search, _ => calC T.t_search sc_search (ok_search T hW (all_ok T hW Kb Gb B_order_of B__law_asks B__law_lists_right n))
  | n + 1, .f_search_fault, _ => calB T.t_search_fault sc_search_fault (ok_search_fault T hW (all_ok T hW Kb Gb B_order_of B__law_asks B__law_lists_right n))
  | n + 1, .f__law_well, _ => calB T.t__law_well sc__law_well (ok__law_well T hW (all_ok T hW Kb Gb B_order_of B__law_asks B__law_lists_right n))
  | n + 1, .f__law_draw, _ => calB T.t__law_draw sc__law_draw (ok__law_draw T hW (all_ok T hW Kb Gb B_order_of B__law_asks B__law_lists_right n))
  | n + 1, .f__law_deep, _ => calB T.t__law_deep sc__law_deep (ok__law_deep T hW (all_ok T hW Kb Gb B_order_of B__law_asks B__law_lists_right n))
  | n + 1, .f__law_odd, _ => calC T.t__law_odd sc__law_odd (ok__law_odd T hW (all_ok T hW Kb Gb B_order_of B__law_asks B__law_lists_right n))
  | n + 1, .f__law_spoilt, _ => calB T.t__law_spoilt sc__law_spoilt (ok__law_spoilt T hW (all_ok T hW Kb Gb B_order_of B__law_asks B__law_lists_right n))
  | 1, .f__law_word, _ => cal_no T.t__law_word
  | n + 2, .f__law_word, _ => calB T.t__law_word sc__law_word (fun f cdv A outer s H E hr => ok__law_word T hW (fActC (tabQ "_law_asks") (lcs__law_asks (ev n))) f cdv A outer s H E hr (fun pn xe W p1 p2 tk => act_peC (lcs_ok__law_asks T hW (all_ok T hW Kb Gb B_order_of B__law_asks B__law_lists_right n)) tk hr rfl (Or.inl rfl)))
  | n + 1, .f__law_asks, _ => calLK T.t__law_asks sc__law_asks Kb Gb B__law_asks (cellIn_at (by decide +kernel)) (by decide) (ok__law_asks T hW (all_ok T hW Kb Gb B_order_of B__law_asks B__law_lists_right n))
  | 1, .f__law_lists_right, _ => cal_no T.t__law_lists_right
  | 2, .f__law_lists_right, _ => cal_no T.t__law_lists_right
  | n + 3, .f__law_lists_right, _ => calLC T.t__law_lists_right sc__law_lists_right Kb Gb B__law_lists_right (ok__law_lists_right T hW (all_ok T hW Kb Gb B_order_of B__law_asks B__law_lists_right (n + 2)) (all_ok T hW Kb Gb B_order_of B__law_asks B__law_lists_right n))
  | _, .f_law, h => absurd rfl h
end
end Kz
namespace Kz
open PySem PySem.Spec PyProof.Rows L2 Kw
theorem up {n d : Nat} (h : d + 1 ≤ n) : ∃ m, n = m + 1 ∧ d ≤ m := ⟨n - 1, by omega, by omega⟩
theorem is_from_int {n : Nat} {i lo hi : Int} {S : Store} (h : 1 ≤ n) : ev n .f_is_from [.int i, .int lo, .int hi] S = .ok (.bl (decide (lo ≤ i) && decide (i ≤ hi))) S := by
  obtain ⟨m, rfl, h'⟩ := up h
  rw [ev, b_is_from]
  simp
  by_cases h : lo ≤ i <;> simp [h]
mutual
/-- data whose sort is known, whose texts are good; no cells -/
def pl : D → Bool
  | .non | .bl _ | .int _ | .fls _ | .lst _ | .dic _ _ => true
  | .str s => PyData.strOk s
  | .tup ds => plL ds
  | _ => false
def plL : List D → Bool
  | [] => true
  | d :: ds => pl d && plL ds
end
abbrev lay (d : D) : Prop := pl d = true
abbrev layL (ds : List D) : Prop := plL ds = true
theorem layL_nil : layL [] := rfl
theorem layL_cons {d : D} {ds : List D} : layL (d :: ds) ↔ lay d ∧ layL ds := by simp [layL, lay, plL]
theorem layL_app {ds es : List D} : layL (ds ++ es) ↔ layL ds ∧ layL es := by
  induction ds with
  | nil => simp [layL, plL]
  | cons d ds ih => rw [List.cons_append, layL_cons, layL_cons, ih, and_assoc]
theorem lay_tup {ds : List D} (h : lay (.tup ds)) : layL ds := by simpa [lay, pl] using h
theorem isi_notup {d : D} {S : Store} (h : lay d) (hn : ∀ ds, d ≠ .tup ds) : isiR "tuple" d S = .ok (.bl false) S := by
  cases d with
  | tup ds => exact absurd rfl (hn ds)
  | fls b => rfl
  | loc _ => simp [lay, pl] at h
  | ins _ _ _ => simp [lay, pl] at h
  | glo _ => simp [lay, pl] at h
  | exn _ => simp [lay, pl] at h
  | exo _ _ _ => simp [lay, pl] at h
  | lam _ _ _ => simp [lay, pl] at h
  | clo _ _ _ _ _ => simp [lay, pl] at h
  | _ => simp
theorem isi_nostr {d : D} {S : Store} (h : lay d) (hn : ∀ ds, d ≠ .str ds) : isiR "str" d S = .ok (.bl false) S := by
  cases d with
  | str ds => exact absurd rfl (hn ds)
  | fls b => rfl
  | loc _ => simp [lay, pl] at h
  | ins _ _ _ => simp [lay, pl] at h
  | glo _ => simp [lay, pl] at h
  | exn _ => simp [lay, pl] at h
  | exo _ _ _ => simp [lay, pl] at h
  | lam _ _ _ => simp [lay, pl] at h
  | clo _ _ _ _ _ => simp [lay, pl] at h
  | _ => simp
theorem is_from_else {n : Nat} {d : D} {lo hi : Int} {S : Store} (h : 1 ≤ n) (l : lay d) (hn : ∀ i, d ≠ .int i) : ev n .f_is_from [d, .int lo, .int hi] S = .ok (.bl false) S := by
  obtain ⟨m, rfl, h'⟩ := up h
  rw [ev, b_is_from]
  cases d with
  | int i => exact absurd rfl (hn i)
  | fls b => simp; rfl
  | loc _ => simp [lay, pl] at l
  | ins _ _ _ => simp [lay, pl] at l
  | glo _ => simp [lay, pl] at l
  | exn _ => simp [lay, pl] at l
  | exo _ _ _ => simp [lay, pl] at l
  | lam _ _ _ => simp [lay, pl] at l
  | clo _ _ _ _ _ => simp [lay, pl] at l
  | _ => simp
def innR (s : Str) (r : List D) : Option (List D) :=
  if s = "base" then (match r with
    | [.int i] => if 0 ≤ i ∧ i ≤ 7 then some [] else none
    | _ => none)
  else if s = "unit" then (match r with
    | [] => some []
    | _ => none)
  else if s = "both" ∨ s = "from" then (match r with
    | [a, b] => some [a, b]
    | _ => none)
  else none
def innD : D → Option (List D)
  | .tup (.str s :: r) => innR s r
  | _ => none
def oL (o : Option (List D)) : D := match o with
  | some ds => .lst ds
  | none => .non
theorem cutL1 {α : Type} (d : α) (r : List α) : cutL (d :: r) (some 1) none = r := by
  have e1 : HT.sIx (r.length + 1) 0 (some 1) = 1 := by
    show (if (1 : Int) < 0 then ((1 : Int) + ((r.length + 1 : Nat) : Int)).toNat else min (1 : Int).toNat (r.length + 1)) = 1
    rw [if_neg (by decide)]
    show min 1 (r.length + 1) = 1
    omega
  have e2 : HT.sIx (r.length + 1) (r.length + 1) none = r.length + 1 := rfl
  unfold cutL
  rw [List.length_cons, e1, e2]
  simp
theorem inner_str {n : Nat} {s : Str} {r : List D} {S : Store} (h : 2 ≤ n) (l : layL r) (hs : PyData.strOk s = true) : ev n .f_inner_of [.tup (.str s :: r)] S = .ok (oL (innR s r)) S := by
  obtain ⟨m, rfl, h'⟩ := up h
  rw [ev, b_inner_of]
  have h8 : sizeLine = 16777216 := rfl
  have ne : ¬ ((r.length : Int) + 1 = 0) := by omega
  by_cases h1 : s = "base"
  · subst h1
    match r, l with
    | [], l => simp [innR, oL]
    | [d], l =>
      by_cases hi : ∃ i, d = .int i
      · obtain ⟨i, rfl⟩ := hi
        simp [is_from_int h', h8, innR, oL]
        by_cases c1 : 0 ≤ i <;> by_cases c2 : i ≤ 7 <;> simp [c1, c2]
      · have hi' : ∀ i, d ≠ .int i := fun i z => hi ⟨i, z⟩
        have ld := (layL_cons.mp l).1
        have e : innR (Str.ofString "base") [d] = none := by
          unfold innR
          rw [if_pos rfl]
          split
          · rename_i i q; cases q; exact absurd rfl (hi' i)
          · rfl
        simp [is_from_else h' ld hi', h8, e, oL]
    | d :: e :: r, l =>
      have n2 : ¬ ((r.length : Int) + 1 + 1 + 1 = 2) := by omega
      have n0 : ¬ ((r.length : Int) + 1 + 1 + 1 = 0) := by omega
      simp [innR, oL, n2, n0]
  · by_cases h2 : s = "unit"
    · subst h2
      match r, l with
      | [], l => simp [innR, oL]
      | d :: r, l =>
        have n2 : ¬ ((r.length : Int) + 1 + 1 = 1) := by omega
        have n0 : ¬ ((r.length : Int) + 1 + 1 = 0) := by omega
        simp [innR, oL, n2, n0]
    · have s1 : (s == Str.ofString "base") = false := by simpa using h1
      have s2 : (s == Str.ofString "unit") = false := by simpa using h2
      by_cases h3 : s = "both" ∨ s = "from"
      · have lk : (List.lookup s kv_MARKS).isSome = true := by rcases h3 with rfl | rfl <;> simp [kv_MARKS, List.lookup]
        match r, l with
        | [a, b], l => simp [ne, s1, s2, hs, lk, innR, h1, h2, h3, oL, cutL1]
        | [], l => simp [ne, s1, s2, hs, lk, innR, h1, h2, h3, oL]
        | [a], l => simp [ne, s1, s2, hs, lk, innR, h1, h2, h3, oL]
        | a :: b :: c :: r, l =>
          have n2 : ¬ ((r.length : Int) + 1 + 1 + 1 + 1 = 3) := by omega
          have n0 : ¬ ((r.length : Int) + 1 + 1 + 1 + 1 = 0) := by omega
          simp [n0, n2, s1, s2, hs, lk, innR, h1, h2, h3, oL]
      · have h4 : ¬ s = "both" := fun z => h3 (.inl z)
        have h5 : ¬ s = "from" := fun z => h3 (.inr z)
        have b1 : (s == Str.ofString "both") = false := by simpa using h4
        have b2 : (s == Str.ofString "from") = false := by simpa using h5
        have lk : (List.lookup s kv_MARKS).isSome = false := by simp [kv_MARKS, List.lookup, b1, b2]
        simp [ne, s1, s2, hs, lk, innR, h1, h2, h3, oL]
theorem inner_gen {n : Nat} {d : D} {S : Store} (h : 2 ≤ n) (l : lay d) : ev n .f_inner_of [d] S = .ok (oL (innD d)) S := by
  by_cases ht : ∃ ds, d = .tup ds
  · obtain ⟨ds, rfl⟩ := ht
    have ll := lay_tup l
    match ds, ll with
    | [], ll =>
      obtain ⟨m, rfl, h'⟩ := up h
      rw [ev, b_inner_of]
      simp [innD, oL]
    | x :: r, ll =>
      obtain ⟨lx, lr⟩ := layL_cons.mp ll
      by_cases hx : ∃ s, x = .str s
      · obtain ⟨s, rfl⟩ := hx
        have hs : PyData.strOk s = true := by simpa [lay, pl] using lx
        exact inner_str h lr hs
      · have hx' : ∀ s, x ≠ .str s := fun s z => hx ⟨s, z⟩
        have e : innD (.tup (x :: r)) = none := by
          unfold innD
          split
          · rename_i s r' q
            injection q with q
            injection q with q1 q2
            exact absurd q1 (hx' s)
          · rfl
        obtain ⟨m, rfl, h'⟩ := up h
        rw [ev, b_inner_of]
        have n0 : ¬ ((r.length : Int) + 1 = 0) := by omega
        simp [n0, isi_nostr lx hx', e, oL]
  · have ht' : ∀ ds, d ≠ .tup ds := fun s z => ht ⟨s, z⟩
    have e : innD d = none := by
      unfold innD
      split
      · exact absurd rfl (ht' _)
      · rfl
    obtain ⟨m, rfl, h'⟩ := up h
    rw [ev, b_inner_of]
    simp [isi_notup l ht', e, oL]
mutual
/-- how many parts -/
def nd : D → Nat
  | .tup ds => ndL ds + 1
  | _ => 1
def ndL : List D → Nat
  | [] => 0
  | d :: ds => nd d + ndL ds
end
theorem nd_pos (d : D) : 0 < nd d := by cases d <;> simp [nd]
theorem ndL_app (ds es : List D) : ndL (ds ++ es) = ndL ds + ndL es := by
  induction ds with
  | nil => simp [ndL]
  | cons d ds ih => simp [ndL, ih]; omega
theorem ndL_len (ds : List D) : ds.length ≤ ndL ds := by
  induction ds with
  | nil => simp [ndL]
  | cons d ds ih => have := nd_pos d; simp [ndL]; omega
theorem inn_nd {d : D} {ds : List D} (h : innD d = some ds) : ndL ds < nd d := by
  unfold innD at h
  split at h
  · rename_i s r
    unfold innR at h
    split at h
    · split at h
      · split at h
        · cases h; simp [ndL, nd]
        · cases h
      · cases h
    · split at h
      · split at h
        · cases h; simp [ndL, nd]
        · cases h
      · split at h
        · split at h
          · cases h; simp [ndL, nd]; omega
          · cases h
        · cases h
  · cases h
theorem inn_lay {d : D} {ds : List D} (l : lay d) (h : innD d = some ds) : layL ds := by
  unfold innD at h
  split at h
  · rename_i s r
    have lr := (layL_cons.mp (lay_tup l)).2
    unfold innR at h
    split at h
    · split at h
      · split at h
        · cases h; exact layL_nil
        · cases h
      · cases h
    · split at h
      · split at h
        · cases h; exact layL_nil
        · cases h
      · split at h
        · split at h
          · cases h; exact lr
          · cases h
        · cases h
  · cases h
/-- whether it is a kind (f: enough steps) -/
def isKf : Nat → D → Bool
  | 0, _ => false
  | f + 1, d => match innD d with
    | some ds => ds.all (isKf f)
    | none => false
theorem isKf_mono : ∀ {f g : Nat} {d : D}, nd d ≤ f → f ≤ g → isKf g d = isKf f d
  | 0, _, d, h, _ => absurd (nd_pos d) (by omega)
  | f + 1, 0, _, _, h => absurd h (by omega)
  | f + 1, g + 1, d, h, l => by
    unfold isKf
    cases hd : innD d with
    | none => rfl
    | some ds =>
      have hn := inn_nd hd
      have key : ∀ es : List D, ndL es ≤ f → es.all (isKf g) = es.all (isKf f) := by
        intro es
        induction es with
        | nil => intro _; rfl
        | cons e es ih =>
          intro h1
          simp only [ndL] at h1
          simp only [List.all_cons]
          rw [isKf_mono (f := f) (g := g) (by omega) (by omega), ih (by omega)]
      exact key ds (by omega)
def isK (d : D) : Bool := isKf (nd d) d
theorem isK_eq (d : D) : isK d = match innD d with
    | some ds => ds.all isK
    | none => false := by
  have e : ∃ f, nd d = f + 1 := ⟨nd d - 1, by have := nd_pos d; omega⟩
  obtain ⟨f, hf⟩ := e
  unfold isK
  rw [hf]
  show (match innD d with
    | some ds => ds.all (isKf f)
    | none => false) = _
  cases hd : innD d with
  | none => rfl
  | some ds =>
    have hn := inn_nd hd
    have key : ∀ es : List D, ndL es ≤ f → es.all (isKf f) = es.all (fun d => isKf (nd d) d) := by
      intro es
      induction es with
      | nil => intro _; rfl
      | cons e es ih =>
        intro h1
        simp only [ndL] at h1
        simp only [List.all_cons]
        rw [isKf_mono (f := nd e) (g := f) (Nat.le_refl _) (by omega), ih (by omega)]
    exact key ds (by omega)
theorem isK_kd (k : Kd) : isK k.d = true := by
  induction k with
  | base i =>
    have : (i.val : Int) ≤ 7 := by have := i.isLt; omega
    rw [isK_eq]; simp [Kd.d, innD, innR, this]
  | unit => rw [isK_eq]; simp [Kd.d, innD, innR]
  | both a b ha hb => rw [isK_eq]; simp [Kd.d, innD, innR, ha, hb]
  | frm a b ha hb => rw [isK_eq]; simp [Kd.d, innD, innR, ha, hb]
theorem nd_kd (k : Kd) : nd k.d ≤ 4 * k.sz := by
  induction k with
  | base i => simp [Kd.d, nd, ndL, Kd.sz]
  | unit => simp [Kd.d, nd, ndL, Kd.sz]
  | both a b ha hb => simp [Kd.d, nd, ndL, Kd.sz]; omega
  | frm a b ha hb => simp [Kd.d, nd, ndL, Kd.sz]; omega
theorem lay_kd (k : Kd) : lay k.d := by
  induction k with
  | base i => simp [lay, Kd.d, pl, plL]
  | unit => simp [lay, Kd.d, pl, plL]
  | both a b ha hb =>
    have h1 : pl a.d = true := ha
    have h2 : pl b.d = true := hb
    simp [lay, Kd.d, pl, plL, h1, h2]
  | frm a b ha hb =>
    have h1 : pl a.d = true := ha
    have h2 : pl b.d = true := hb
    simp [lay, Kd.d, pl, plL, h1, h2]
theorem is_kind_loop {m : Nat} (h : 2 ≤ m) (S : Store) (x : Option D) : ∀ (N : Nat) (ds : List D) (y : Option D), ndL ds ≤ N → N ≤ 8000000 → layL ds → ∃ z T,
    sWhile (fB (f2 gNe (fVar 1) (fArg mkLst fNil))) (l_is_kind_0 (ev m)) [x, some (.loc S.length), y] (S ++ [.lst ds]) = if ds.all isK then .nx [x, some (.loc S.length), z] (S ++ [.lst []]) else .rt (.bl false) (S ++ [.lst T]) := by
  intro N
  induction N with
  | zero =>
    intro ds y hN hM hl
    cases ds with
    | nil =>
      refine ⟨y, [], ?_⟩
      have hne := gNe_nil (n := S.length) (S := S ++ [.lst []]) (ds := []) cellOf_app
      rw [sWhile_go]
      simp [hne]
    | cons d r =>
      have := nd_pos d
      simp [ndL] at hN; omega
  | succ N ih =>
    intro ds y hN hM hl
    rcases List.eq_nil_or_concat ds with rfl | ⟨r, d, rfl⟩
    · refine ⟨y, [], ?_⟩
      have hne := gNe_nil (n := S.length) (S := S ++ [.lst []]) (ds := []) cellOf_app
      rw [sWhile_go]
      simp [hne]
    · rw [List.concat_eq_append] at hN hl ⊢
      obtain ⟨lr, ld⟩ := layL_app.mp hl
      have ld := (layL_cons.mp ld).1
      rw [ndL_app] at hN
      have hN' : ndL r + nd d ≤ N + 1 := by simpa [ndL] using hN
      have hne := gNe_nil (n := S.length) (S := S ++ [.lst (r ++ [d])]) (ds := r ++ [d]) cellOf_app
      have hm := mthR_loc (n := S.length) (S := S ++ [.lst (r ++ [d])]) (ρ := [x, some (.loc S.length), y]) (xs := r ++ [d]) (g := gPop0) (a := fNil) cellOf_app
      have hp := gPop0_loc (n := S.length) (S := S ++ [.lst (r ++ [d])]) (xs := r) (d := d) cellM_app
      have hi := inner_gen (n := m) (S := S ++ [.lst r]) h ld
      cases hd : innD d with
      | none =>
        refine ⟨none, r, ?_⟩
        have hk : isK d = false := by rw [isK_eq, hd]
        rw [hd] at hi
        rw [sWhile_go]
        simp [hne, l_is_kind_0, hm, hp, hi, oL, hk]
      | some es =>
        have hn := inn_nd hd
        have hk : isK d = es.all isK := by rw [isK_eq, hd]
        rw [hd] at hi
        have hs : ndL (r ++ es) ≤ N := by rw [ndL_app]; omega
        obtain ⟨z, T, hz⟩ := ih (r ++ es) (some (.lst es)) hs (by omega) (layL_app.mpr ⟨lr, inn_lay ld hd⟩)
        refine ⟨z, T, ?_⟩
        have e2 : (r ++ [d]).all isK = (r ++ es).all isK := by simp [hk]
        rw [sWhile_go, e2, ← hz]
        have h8 : sizeLine = 16777216 := rfl
        have hl' : r.length + es.length ≤ sizeLine := by
          have := ndL_len (r ++ es)
          simp at this; omega
        have hm2 := mthR_loc (n := S.length) (S := S ++ [.lst r]) (ρ := [x, some (.loc S.length), some (.lst es)]) (xs := r) (g := gExtend) (a := fCons (fVar 2) fNil) cellOf_app
        have he := gExtend_loc (n := S.length) (S := S ++ [.lst r]) (xs := r) (ys := es) cellM_app hl'
        simp [hne, l_is_kind_0, hm, hm2, hp, he, hi, oL]
theorem is_kind_gen {n : Nat} {d : D} {S : Store} (h : 3 ≤ n) (hd : nd d ≤ 8000000) (l : lay d) : ev n .f_is_kind [d] S = .ok (.bl (isK d)) S := by
  obtain ⟨m, rfl, h'⟩ := up h
  obtain ⟨z, T, hz⟩ := is_kind_loop h' S (some d) 8000000 [d] none (by simpa [ndL] using hd) (Nat.le_refl _) (layL_cons.mpr ⟨l, layL_nil⟩)
  have e : ∃ T', fnB 1 3 (b_is_kind (ev m)) [d] S = .ok (.bl (isK d)) (S ++ [.lst T']) := by
    rw [b_is_kind]
    simp at hz ⊢
    cases hk : isK d with
    | true => rw [hk] at hz; exact ⟨[], by simp [hz]⟩
    | false => rw [hk] at hz; exact ⟨T, by simp [hz]⟩
  obtain ⟨T', e⟩ := e
  rw [ev, fnC_ap, e]
  exact cut_ok _ rfl
theorem is_kind_kd {n : Nat} {k : Kd} {S : Store} (h : 3 ≤ n) (hk : k.sz ≤ 2000000) : ev n .f_is_kind [k.d] S = .ok (.bl true) S := by
  rw [is_kind_gen h (by have := nd_kd k; omega) (lay_kd k), isK_kd]
theorem sure_kind_kd {n : Nat} {k : Kd} {S : Store} (h : 4 ≤ n) (hk : k.sz ≤ 2000000) : ev n .f_sure_kind [k.d] S = .ok .non S := by
  obtain ⟨m, rfl, h'⟩ := up h
  rw [ev, b_sure_kind]
  simp [is_kind_kd h' hk]
theorem sure_kind_bad {n : Nat} {d : D} {S : Store} (h : 4 ≤ n) (hd : nd d ≤ 8000000) (l : lay d) (hk : isK d = false) : ev n .f_sure_kind [d] S = .ex ⟨"NoKind", [], []⟩ S := by
  obtain ⟨m, rfl, h'⟩ := up h
  rw [ev, b_sure_kind]
  simp [is_kind_gen h' hd l, hk]
end Kz
namespace Kz
open PySem PySem.Spec PyProof.Rows L2 Kw
def sg (b : Bool) : Str := if b then "*" else ">"
def wd (b : Bool) : Str := if b then "both" else "from"
def mk2 (b : Bool) (x y : Kd) : Kd := if b then .both x y else .frm x y
theorem mk2_d (b : Bool) (x y : Kd) : (mk2 b x y).d = .tup [.str (wd b), x.d, y.d] := by cases b <;> rfl
theorem kd_cases (k : Kd) : (∃ ds, k.d = .tup ds ∧ ds.length ≠ 3 ∧ k.dep = 0 ∧ k.sz = 1) ∨ ∃ b x y, k = mk2 b x y := by
  cases k with
  | base i => exact .inl ⟨_, rfl, by simp, rfl, rfl⟩
  | unit => exact .inl ⟨_, rfl, by simp, rfl, rfl⟩
  | both a c => exact .inr ⟨true, a, c, rfl⟩
  | frm a c => exact .inr ⟨false, a, c, rfl⟩
theorem mk2_dep (b : Bool) (x y : Kd) : (mk2 b x y).dep = max x.dep y.dep + 1 := by cases b <;> rfl
theorem mk2_sz (b : Bool) (x y : Kd) : (mk2 b x y).sz = x.sz + y.sz + 1 := by cases b <;> rfl
/-- the stack that is read into: past S, at n -/
structure Stk (S0 S : Store) (n : Nat) (st : List D) : Prop where
  pre : ∃ T, S = S0 ++ T
  le : S0.length ≤ n
  at_ : S[n]? = some (.lst st)
theorem Stk.push {S0 S : Store} {n : Nat} {st : List D} {d : D} (h : Stk S0 S n st) : Stk S0 (S.set n (.lst (st ++ [d]))) n (st ++ [d]) := by
  obtain ⟨⟨T, rfl⟩, le, at_⟩ := h
  have hn : n < (S0 ++ T).length := by
    rcases Nat.lt_or_ge n (S0 ++ T).length with hh | hh
    · exact hh
    · rw [List.getElem?_eq_none hh] at at_; cases at_
  refine ⟨⟨T.set (n - S0.length) (.lst (st ++ [d])), ?_⟩, le, ?_⟩
  · rw [List.set_append, if_neg (by omega)]
  · rw [List.getElem?_set_self hn]
end Kz
namespace Kz
open PySem PySem.Spec PyProof.Rows L2 Kw
def tx : Kd → Str
  | .base i => ⟨#[97 + i.val]⟩
  | .unit => "1"
  | .both a b => "(" ++ tx a ++ "*" ++ tx b ++ ")"
  | .frm a b => "(" ++ tx a ++ ">" ++ tx b ++ ")"
theorem tx_len : ∀ k : Kd, (tx k).length + 3 ≤ 4 * k.sz
  | .base i => by simp [tx, Kd.sz, Str.length]
  | .unit => by simp [tx, Kd.sz]
  | .both a b => by
    have := tx_len a; have := tx_len b
    simp [tx, Kd.sz, Str.length_append]; omega
  | .frm a b => by
    have := tx_len a; have := tx_len b
    simp [tx, Kd.sz, Str.length_append]; omega
theorem gIx_letter (i : _root_.Fin 8) (S : Store) : gIx (.str "abcdefgh") (.int (i.val : Int)) S = .ok (.str ⟨#[97 + i.val]⟩) S := by
  have h : ∀ i : _root_.Fin 8, L2.atI (Str.ofString "abcdefgh").cps.toList (i.val : Int) = some (97 + i.val) := by decide +kernel
  have h8 : sizeLine = 16777216 := rfl
  simp [gIx, h i, h8]
theorem plain_kd (k : Kd) {n : Nat} {S : Store} (h : k.dep + 1 ≤ n) (hk : k.sz ≤ 2000000) : ev n .f_plain_text [k.d] S = .ok (.str (tx k)) S := by
  induction k generalizing n S with
  | base i =>
    obtain ⟨m, rfl, h'⟩ := up h
    rw [ev, b_plain_text]
    simp [Kd.d, tx, gIx_letter]
  | unit =>
    obtain ⟨m, rfl, h'⟩ := up h
    rw [ev, b_plain_text]
    simp [Kd.d, tx]
  | both a b ha hb =>
    obtain ⟨m, rfl, h'⟩ := up h
    rw [ev, b_plain_text]
    simp [Kd.sz, Kd.dep] at hk h'
    have la := tx_len a; have lb := tx_len b
    have h8 : sizeLine = 16777216 := rfl
    have h1 : 1 + (tx a).length ≤ sizeLine := by omega
    have h2 : 1 + (tx a).length + 1 ≤ sizeLine := by omega
    have h3 : 1 + (tx a).length + 1 + (tx b).length ≤ sizeLine := by omega
    have h4 : 1 + (tx a).length + 1 + (tx b).length + 1 ≤ sizeLine := by omega
    simp [Kd.d, tx, ha (n := m) (by omega) (by omega), hb (n := m) (by omega) (by omega), Str.length_append, h1, h2, h3, h4, kv_MARKS, List.lookup]
  | frm a b ha hb =>
    obtain ⟨m, rfl, h'⟩ := up h
    rw [ev, b_plain_text]
    simp [Kd.sz, Kd.dep] at hk h'
    have la := tx_len a; have lb := tx_len b
    have h8 : sizeLine = 16777216 := rfl
    have h1 : 1 + (tx a).length ≤ sizeLine := by omega
    have h2 : 1 + (tx a).length + 1 ≤ sizeLine := by omega
    have h3 : 1 + (tx a).length + 1 + (tx b).length ≤ sizeLine := by omega
    have h4 : 1 + (tx a).length + 1 + (tx b).length + 1 ≤ sizeLine := by omega
    simp [Kd.d, tx, ha (n := m) (by omega) (by omega), hb (n := m) (by omega) (by omega), Str.length_append, h1, h2, h3, h4, kv_MARKS, List.lookup]
theorem kind_text_kd (k : Kd) {n : Nat} {S : Store} (h : k.dep + 5 ≤ n) (hk : k.sz ≤ 2000000) : ev n .f_kind_text [k.d] S = .ok (.str (tx k)) S := by
  obtain ⟨m, rfl, h'⟩ := up h
  rw [ev, b_kind_text]
  simp [plain_kd k (n := m) (by omega) hk, sure_kind_kd (n := m) (by omega) hk]
end Kz
namespace Kz
open PySem PySem.Spec PyProof.Rows L2 Kw
theorem back_ix {α : Type} (st : List α) (w x y z : α) : L2.atI (st ++ [w, x, y, z]) (-4) = some w ∧ L2.atI (st ++ [w, x, y, z]) (-3) = some x ∧ L2.atI (st ++ [w, x, y, z]) (-2) = some y ∧ L2.atI (st ++ [w, x, y, z]) (-1) = some z := by
  have key : ∀ k : Nat, 1 ≤ k → k ≤ 4 → L2.atI (st ++ [w, x, y, z]) (-(k : Int)) = (st ++ [w, x, y, z])[st.length + 4 - k]? := by
    intro k h1 h2
    unfold L2.atI L2.ixN
    have hl : (st ++ [w, x, y, z]).length = st.length + 4 := by simp
    rw [if_neg (by omega), if_pos (by rw [hl]; omega), hl]
    show (st ++ [w, x, y, z])[(-(k : Int) + ((st.length + 4 : Nat) : Int)).toNat]? = _
    congr 1; omega
  refine ⟨?_, ?_, ?_, ?_⟩
  · have := key 4 (by omega) (by omega); simpa using this
  · have := key 3 (by omega) (by omega); simpa [List.getElem?_append] using this
  · have := key 2 (by omega) (by omega); simpa [List.getElem?_append] using this
  · have := key 1 (by omega) (by omega); simpa [List.getElem?_append] using this
theorem cut_back (st : List D) (w x y z : D) : cutL (st ++ [w, x, y, z]) none (some (-4)) = st := by
  have hl : (st ++ [w, x, y, z]).length = st.length + 4 := by simp
  have e1 : HT.sIx (st.length + 4) 0 none = 0 := rfl
  have e2 : HT.sIx (st.length + 4) (st.length + 4) (some (-4)) = st.length := by
    show (if (-4 : Int) < 0 then ((-4 : Int) + ((st.length + 4 : Nat) : Int)).toNat else min (-4 : Int).toNat (st.length + 4)) = _
    rw [if_pos (by decide)]; omega
  unfold cutL
  rw [hl, e1, e2]
  simp
theorem lu_sg (b : Bool) : List.lookup (sg b) kv_SIGNS = some (.str (wd b)) := by cases b <;> simp [sg, wd, kv_SIGNS, List.lookup]
theorem closed_kd {n : Nat} {S : Store} {st : List D} {a : Nat} {x y : Kd} {b : Bool} (h : 1 ≤ n) (hc : Kw.cellOf S a = some (st ++ [.str "(", x.d, .str (sg b), y.d])) (hl : st.length + 1 ≤ sizeLine) : ev n .f_closed [.loc a] S = .ok (.loc S.length) (S ++ [.lst (st ++ [(mk2 b x y).d])]) := by
  obtain ⟨m, rfl, h'⟩ := up h
  rw [ev, b_closed]
  obtain ⟨h4, h3, h2, h1⟩ := back_ix st (D.str "(") x.d (.str (sg b)) y.d
  have hlen : gLen [.loc a] S = .ok (.int ((st.length : Int) + 4)) S := by
    simp [gLen, seqA, hc]
  have r4 : ixR (st ++ [.str "(", x.d, .str (sg b), y.d]) (-4) S = .ok (.str "(") S := by unfold ixR; rw [h4]
  have r3 : ixR (st ++ [.str "(", x.d, .str (sg b), y.d]) (-3) S = .ok x.d S := by unfold ixR; rw [h3]
  have r2 : ixR (st ++ [.str "(", x.d, .str (sg b), y.d]) (-2) S = .ok (.str (sg b)) S := by unfold ixR; rw [h2]
  have r1 : ixR (st ++ [.str "(", x.d, .str (sg b), y.d]) (-1) S = .ok y.d S := by unfold ixR; rw [h1]
  have hlt : ¬ ((st.length : Int) + 4 < 4) := by omega
  have hadd : gAdd true (.lst st) (.lst [.tup [.str (wd b), x.d, y.d]]) S = .ok (.loc S.length) (S ++ [.lst (st ++ [.tup [.str (wd b), x.d, y.d]])]) := by
    show catL true (some st) (some [_]) S = _
    simp [catL, hl]
  rw [mk2_d]
  simp [hlen, hc, r4, r3, r2, r1, cut_back, hadd, lu_sg, hlt]
theorem chrs_app (a b : Str) : chrs (a ++ b) = chrs a ++ chrs b := by
  have : (a ++ b).cps = a.cps ++ b.cps := Str.cps_append a b
  simp [chrs, this]
theorem in_letter (i : _root_.Fin 8) (S : Store) : gIn false (.str ⟨#[97 + i.val]⟩) (.str "abcdefgh") S = .ok (.bl true) S := by
  have h : ∀ i : _root_.Fin 8, (!(Builtin.Str.occurrences (Str.ofString "abcdefgh") ⟨#[97 + i.val]⟩ 0 (Str.ofString "abcdefgh").length 1).isEmpty) = true := by decide +kernel
  show RE.ok (D.bl (!(Builtin.Str.occurrences (Str.ofString "abcdefgh") ⟨#[97 + i.val]⟩ 0 (Str.ofString "abcdefgh").length 1).isEmpty)) S = _
  rw [h i]
theorem ix_letter (i : _root_.Fin 8) : Txt.index0 (Str.ofString "abcdefgh") ⟨#[97 + i.val]⟩ = some i.val := by
  have h : ∀ i : _root_.Fin 8, Txt.index0 (Str.ofString "abcdefgh") ⟨#[97 + i.val]⟩ = some i.val := by decide +kernel
  exact h i
theorem in_sign (s : String) (h : (!(Builtin.Str.occurrences (Str.ofString "abcdefgh") (Str.ofString s) 0 (Str.ofString "abcdefgh").length 1).isEmpty) = false) (S : Store) : gIn false (.str s) (.str "abcdefgh") S = .ok (.bl false) S := by
  show RE.ok (D.bl (!(Builtin.Str.occurrences (Str.ofString "abcdefgh") (Str.ofString s) 0 (Str.ofString "abcdefgh").length 1).isEmpty)) S = _
  rw [h]
noncomputable abbrev rL (m : Nat) : List D → FS := forL (gN 2) (l_read_kind_0 (ev m)) none
theorem step_app {m : Nat} {S0 S : Store} {n : Nat} {st r : List D} {t x : Option D} {s d : D} (h : Stk S0 S n st)
    (hb : l_read_kind_0 (ev m) [t, some (.loc n), some s] S = .nx [t, some (.loc n), some s] (S.set n (.lst (st ++ [d])))) :
    ∃ S', Stk S0 S' n (st ++ [d]) ∧ rL m (s :: r) [t, some (.loc n), x] S = rL m r [t, some (.loc n), some s] S' := by
  refine ⟨_, h.push, ?_⟩
  show forL _ _ _ _ _ _ = _
  rw [forL_cons]
  simp [hb]
theorem mth_app {S : Store} {n : Nat} {st : List D} {ρ : FEnv} {fa : FA} (h : S[n]? = some (.lst st)) : mthR gAppend fa ρ (.loc n) S = (fa ρ S).bnd fun ds S2 => gAppend (.loc n) ds S2 := mthR_loc (cellOf_of h)
theorem rd_sign {m : Nat} {S0 S : Store} {n : Nat} {st r : List D} {t x : Option D} {b : Str} (hb : b = Str.ofString "(" ∨ b = Str.ofString "*" ∨ b = Str.ofString ">") (h : Stk S0 S n st) (hl : st.length < sizeLine) :
    ∃ S', Stk S0 S' n (st ++ [.str b]) ∧ rL m (.str b :: r) [t, some (.loc n), x] S = rL m r [t, some (.loc n), some (.str b)] S' := by
  refine step_app h ?_
  rw [l_read_kind_0]
  have ha : gAppend (.loc n) [.str b] S = .ok .non (S.set n (.lst (st ++ [.str b]))) := gAppend_loc (cellM_of h.at_) hl
  have hm := fun (ρ : FEnv) (fa : FA) => mth_app (ρ := ρ) (fa := fa) h.at_
  have i1 := in_sign "(" (by decide +kernel) S
  have i2 := in_sign "*" (by decide +kernel) S
  have i3 := in_sign ">" (by decide +kernel) S
  rcases hb with rfl | rfl | rfl
  · simp [i1, hm, ha]
  · simp [i2, hm, ha, kv_SIGNS, List.lookup]
  · simp [i3, hm, ha, kv_SIGNS, List.lookup]
theorem rd_base {m : Nat} {S0 S : Store} {n : Nat} {st r : List D} {t x : Option D} (i : _root_.Fin 8) (h : Stk S0 S n st) (hl : st.length < sizeLine) :
    ∃ S', Stk S0 S' n (st ++ [(Kd.base i).d]) ∧ rL m (.str ⟨#[97 + i.val]⟩ :: r) [t, some (.loc n), x] S = rL m r [t, some (.loc n), some (.str ⟨#[97 + i.val]⟩)] S' := by
  refine step_app h ?_
  rw [l_read_kind_0]
  have ha : gAppend (.loc n) [(Kd.base i).d] S = .ok .non (S.set n (.lst (st ++ [(Kd.base i).d]))) := gAppend_loc (cellM_of h.at_) hl
  have hm := fun (ρ : FEnv) (fa : FA) => mth_app (ρ := ρ) (fa := fa) h.at_
  have i1 := in_letter i S
  have i2 := ix_letter i
  rw [Kd.d] at ha
  simp [i1, hm, ha, fStrIx, i2, Kd.d]
theorem rd_unit {m : Nat} {S0 S : Store} {n : Nat} {st r : List D} {t x : Option D} (h : Stk S0 S n st) (hl : st.length < sizeLine) :
    ∃ S', Stk S0 S' n (st ++ [Kd.unit.d]) ∧ rL m (.str "1" :: r) [t, some (.loc n), x] S = rL m r [t, some (.loc n), some (.str "1")] S' := by
  refine step_app h ?_
  rw [l_read_kind_0]
  have ha : gAppend (.loc n) [Kd.unit.d] S = .ok .non (S.set n (.lst (st ++ [Kd.unit.d]))) := gAppend_loc (cellM_of h.at_) hl
  have hm := fun (ρ : FEnv) (fa : FA) => mth_app (ρ := ρ) (fa := fa) h.at_
  have i1 := in_sign "1" (by decide +kernel) S
  rw [Kd.d] at ha
  simp [i1, hm, ha, Kd.d]
theorem rd_close {m : Nat} (hm : 1 ≤ m) {S0 S : Store} {n : Nat} {st r : List D} {t x : Option D} {a c : Kd} {b : Bool} (h : Stk S0 S n (st ++ [.str "(", a.d, .str (sg b), c.d])) (hl : st.length < sizeLine) :
    ∃ n' S', Stk S0 S' n' (st ++ [(mk2 b a c).d]) ∧ rL m (.str ")" :: r) [t, some (.loc n), x] S = rL m r [t, some (.loc n'), some (.str ")")] S' := by
  refine ⟨S.length, S ++ [.lst (st ++ [(mk2 b a c).d])], ⟨?_, ?_, by simp⟩, ?_⟩
  · obtain ⟨T, rfl⟩ := h.pre
    exact ⟨T ++ [.lst (st ++ [(mk2 b a c).d])], by simp⟩
  · obtain ⟨T, rfl⟩ := h.pre
    simp
  · show forL _ _ _ _ _ _ = _
    rw [forL_cons]
    have i1 := in_sign ")" (by decide +kernel) S
    have hc := closed_kd (n := m) (b := b) hm (cellOf_of h.at_) hl
    have hb : l_read_kind_0 (ev m) [t, some (.loc n), some (.str ")")] S = .nx [t, some (.loc S.length), some (.str ")")] (S ++ [.lst (st ++ [(mk2 b a c).d])]) := by
      rw [l_read_kind_0]
      simp [i1, hc]
    simp [hb]
theorem tx_mk2 (b : Bool) (x y : Kd) : tx (mk2 b x y) = "(" ++ tx x ++ sg b ++ tx y ++ ")" := by cases b <;> rfl
theorem chrs_op : chrs "(" = [.str "("] := rfl
theorem chrs_cl : chrs ")" = [.str ")"] := rfl
theorem chrs_sg (b : Bool) : chrs (sg b) = [.str (sg b)] := by cases b <;> rfl
theorem rd_kd {m : Nat} (hm : 1 ≤ m) {S0 : Store} {t : Option D} (k : Kd) : ∀ {S : Store} {n : Nat} {st r : List D} {x : Option D}, Stk S0 S n st → st.length + 3 * k.sz ≤ 8000000 →
    ∃ n' S' x', Stk S0 S' n' (st ++ [k.d]) ∧ rL m (chrs (tx k) ++ r) [t, some (.loc n), x] S = rL m r [t, some (.loc n'), x'] S' := by
  have h8 : sizeLine = 16777216 := rfl
  have two : ∀ (b : Bool) (u v : Kd), (∀ {S : Store} {n : Nat} {st r : List D} {x : Option D}, Stk S0 S n st → st.length + 3 * u.sz ≤ 8000000 →
      ∃ n' S' x', Stk S0 S' n' (st ++ [u.d]) ∧ rL m (chrs (tx u) ++ r) [t, some (.loc n), x] S = rL m r [t, some (.loc n'), x'] S') →
      (∀ {S : Store} {n : Nat} {st r : List D} {x : Option D}, Stk S0 S n st → st.length + 3 * v.sz ≤ 8000000 →
      ∃ n' S' x', Stk S0 S' n' (st ++ [v.d]) ∧ rL m (chrs (tx v) ++ r) [t, some (.loc n), x] S = rL m r [t, some (.loc n'), x'] S') →
      ∀ {S : Store} {n : Nat} {st r : List D} {x : Option D}, Stk S0 S n st → st.length + 3 * (u.sz + v.sz + 1) ≤ 8000000 →
      ∃ n' S' x', Stk S0 S' n' (st ++ [(mk2 b u v).d]) ∧ rL m (chrs (tx (mk2 b u v)) ++ r) [t, some (.loc n), x] S = rL m r [t, some (.loc n'), x'] S' := by
    intro b u v hu hv S n st r x h hl
    have pu := u.sz_pos; have pv := v.sz_pos
    have e : chrs (tx (mk2 b u v)) ++ r = .str "(" :: (chrs (tx u) ++ (.str (sg b) :: (chrs (tx v) ++ (.str ")" :: r)))) := by
      rw [tx_mk2]
      simp [chrs_app, chrs_op, chrs_cl, chrs_sg]
    rw [e]
    obtain ⟨S1, h1, e1⟩ := rd_sign (m := m) (r := chrs (tx u) ++ (.str (sg b) :: (chrs (tx v) ++ (.str ")" :: r)))) (t := t) (x := x) (.inl rfl) h (by omega)
    rw [e1]
    obtain ⟨n2, S2, x2, h2, e2⟩ := hu (r := .str (sg b) :: (chrs (tx v) ++ (.str ")" :: r))) (x := some (.str "(")) h1 (by simp; omega)
    rw [e2]
    obtain ⟨S3, h3, e3⟩ := rd_sign (m := m) (b := sg b) (r := chrs (tx v) ++ (.str ")" :: r)) (t := t) (x := x2) (by cases b <;> simp [sg]) h2 (by simp; omega)
    rw [e3]
    obtain ⟨n4, S4, x4, h4, e4⟩ := hv (r := .str ")" :: r) (x := some (.str (sg b))) h3 (by simp; omega)
    rw [e4]
    have h4' : Stk S0 S4 n4 (st ++ [.str "(", u.d, .str (sg b), v.d]) := by simpa using h4
    obtain ⟨n5, S5, h5, e5⟩ := rd_close hm (r := r) (t := t) (x := x4) h4' (by omega)
    rw [e5]
    exact ⟨_, _, _, h5, rfl⟩
  induction k with
  | base i =>
    intro S n st r x h hl
    simp [Kd.sz] at hl
    obtain ⟨S', h1, e1⟩ := rd_base (m := m) (r := r) (t := t) (x := x) i h (by omega)
    exact ⟨_, _, _, h1, e1⟩
  | unit =>
    intro S n st r x h hl
    simp [Kd.sz] at hl
    obtain ⟨S', h1, e1⟩ := rd_unit (m := m) (r := r) (t := t) (x := x) h (by omega)
    exact ⟨_, _, _, h1, e1⟩
  | both a b ha hb =>
    intro S n st r x h hl
    exact two true a b ha hb h hl
  | frm a b ha hb =>
    intro S n st r x h hl
    exact two false a b ha hb h hl
theorem read_kd (k : Kd) {n : Nat} {S : Store} (h : 2 ≤ n) (hk : k.sz ≤ 2000000) : ev n .f_read_kind [.str (tx k)] S = .ok k.d S := by
  obtain ⟨m, rfl, h'⟩ := up h
  have h0 : Stk S (S ++ [.lst []]) S.length [] := ⟨⟨_, rfl⟩, Nat.le_refl _, by simp⟩
  obtain ⟨n', S', x', h1, e1⟩ := rd_kd (m := m) h' (t := some (.str (tx k))) k (r := []) (x := none) h0 (by simp; omega)
  obtain ⟨T, rfl⟩ := h1.pre
  have hc : Kw.cellOf (S ++ T) n' = some [k.d] := cellOf_of h1.at_
  have hlen : gLen [.loc n'] (S ++ T) = .ok (.int 1) (S ++ T) := by simp [gLen, seqA, hc]
  have e : fnB 1 3 (b_read_kind (ev m)) [.str (tx k)] S = .ok k.d (S ++ T) := by
    rw [b_read_kind]
    simp [rL] at e1
    simp [e1, hlen, hc]
  rw [ev, fnC_ap, e]
  exact cut_ok _ (Kd.und_d _ _)
end Kz
namespace Kz
open PySem PySem.Spec PyProof.Rows L2 Kw
def Eqd (d : D) (q : Nat) : Prop := ∃ p : PyData, (∀ S, pyS S d = some p) ∧ p.canLay0 = true ∧ p.depth ≤ q ∧ PyData.eqv p p = true
def EqdL (ds : List D) (q : Nat) : Prop := ∃ ps : List PyData, (∀ S, pySL S ds = some ps) ∧ PyData.canLayAll0 ps = true ∧ PyData.depthAll ps ≤ q ∧ PyData.eqvAll ps ps = true
theorem EqdL.nil {q : Nat} : EqdL [] q := ⟨[], fun _ => rfl, rfl, Nat.zero_le _, Kd.eqvAll_n⟩
theorem EqdL.cons {d : D} {ds : List D} {q : Nat} (h : Eqd d q) (t : EqdL ds q) : EqdL (d :: ds) q := by
  obtain ⟨p, e, a, b, c⟩ := h
  obtain ⟨ps, e', a', b', c'⟩ := t
  refine ⟨p :: ps, fun S => ?_, by simp [PyData.canLayAll0, a, a'], by simp only [PyData.depthAll]; omega, by rw [Kd.eqvAll_c, c, c']; rfl⟩
  show (pyS S d).bind (fun a => (pySL S ds).map (a :: ·)) = _
  rw [e S, e' S]; rfl
theorem EqdL.all {ds : List D} {q : Nat} (h : ∀ d ∈ ds, Eqd d q) : EqdL ds q := by
  induction ds with
  | nil => exact .nil
  | cons d ds ih => exact .cons (h d List.mem_cons_self) (ih fun e he => h e (List.mem_cons_of_mem _ he))
theorem Eqd.tup {ds : List D} {q : Nat} (h : EqdL ds q) : Eqd (.tup ds) (q + 1) := by
  obtain ⟨ps, e, a, b, c⟩ := h
  refine ⟨.tuple ps, fun S => ?_, by simpa [PyData.canLay0] using a, by simp only [PyData.depth]; omega, by rw [Kd.eqv_t, c]⟩
  show (pySL S ds).map PyData.tuple = _
  rw [e S]; rfl
theorem Eqd.lst {ds : List D} {q : Nat} (h : EqdL ds q) : Eqd (.lst ds) (q + 1) := by
  obtain ⟨ps, e, a, b, c⟩ := h
  refine ⟨.list ps, fun S => ?_, by simpa [PyData.canLay0] using a, by simp only [PyData.depth]; omega, by simp only [PyData.eqv]; exact c⟩
  show (pySL S ds).map PyData.list = _
  rw [e S]; rfl
theorem Eqd.non {q : Nat} : Eqd .non q := ⟨.none, fun _ => rfl, by simp [PyData.canLay0], by simp [PyData.depth], by simp only [PyData.eqv]⟩
theorem Eqd.bl {b : Bool} {q : Nat} : Eqd (.bl b) q := ⟨.bool b, fun _ => rfl, by simp [PyData.canLay0], by simp [PyData.depth], by simp only [PyData.eqv]; cases b <;> rfl⟩
theorem Eqd.str {x : Str} {q : Nat} (h : PyData.strOk x = true) : Eqd (.str x) q := ⟨.str x, fun _ => rfl, by simpa [PyData.canLay0] using h, by simp [PyData.depth], by rw [Kd.eqv_s]; simp⟩
theorem Eqd.kd (k : Kd) : Eqd k.d (k.dep + 1) := ⟨k.p, fun S => Kd.pyS_d S k, by simp, by simp [Kd.depth_p], by rw [Kd.eqv_p]; simp⟩
theorem Eqd.int {i : Int} {q : Nat} : Eqd (.int i) q := ⟨.int i, fun _ => rfl, by simp [PyData.canLay0], by simp [PyData.depth], by rw [Kd.eqv_i]; simp⟩
theorem Eqd.mono {d : D} {q q' : Nat} (h : Eqd d q) (l : q ≤ q') : Eqd d q' := by
  obtain ⟨p, e, a, b, c⟩ := h; exact ⟨p, e, a, by omega, c⟩
theorem Eqd.ne {d : D} {q : Nat} {S : Store} (h : Eqd d q) (hq : q ≤ 200) : gNe d d S = .ok (.bl false) S := by
  have gen : eqE S d d = none → gNe d d S = .ok (.bl false) S := by
    intro h0
    obtain ⟨p, e, a, b, c⟩ := h
    unfold gNe
    rw [h0, e S]
    have ok : okPy p p = true := by simp [okPy, a]; omega
    show (if okPy p p then RE.ok (D.bl (!PyData.eqv p p)) S else .no) = _
    rw [if_pos ok, c]; rfl
  have som : ∀ b, eqE S d d = some b → b = true → gNe d d S = .ok (.bl false) S := by
    intro b h1 h2
    unfold gNe
    rw [h1, h2]; rfl
  cases h0 : eqE S d d with
  | none => exact gen h0
  | some b =>
    refine som b h0 ?_
    unfold eqE at h0
    split at h0
    · simp [seqL] at h0; exact h0
    · simp at h0; exact h0
    · simp at h0; exact h0
    · simp at h0; exact h0
    · cases h0
theorem Eqd.eq {d : D} {q : Nat} {S : Store} (h : Eqd d q) (hq : q ≤ 200) : gEq d d S = .ok (.bl true) S := by
  have n := h.ne (S := S) hq
  unfold gNe at n
  unfold gEq
  split at n
  · rename_i b e
    injection n with n _
    injection n with n
    have : b = true := by cases b <;> simp at n ⊢
    subst this; rfl
  · rename_i e
    obtain ⟨p, e1, a, b, c⟩ := h
    rw [e1 S]
    have ok : okPy p p = true := by simp [okPy, a]; omega
    show (if okPy p p then RE.ok (D.bl (PyData.eqv p p)) S else .no) = _
    rw [if_pos ok, c]
end Kz
namespace Kz
open PySem PySem.Spec PyProof.Rows L2 Kw
inductive Fac where
  | mk (ws : List Fac) (b : _root_.Fin 8)
mutual
def dF : Fac → D
  | .mk ws b => .tup [.tup (dFL ws), .int (b.val : Int)]
def dFL : List Fac → List D
  | [] => []
  | f :: fs => dF f :: dFL fs
end
mutual
def pF : Fac → PyData
  | .mk ws b => .tuple [.tuple (pFL ws), .int (b.val : Int)]
def pFL : List Fac → List PyData
  | [] => []
  | f :: fs => pF f :: pFL fs
end
theorem dFL_map : ∀ L : List Fac, dFL L = L.map dF
  | [] => rfl
  | f :: L => by rw [dFL, dFL_map L]; rfl
theorem pFL_map : ∀ L : List Fac, pFL L = L.map pF
  | [] => rfl
  | f :: L => by rw [pFL, pFL_map L]; rfl
mutual
theorem pyS_F (S : Store) : ∀ f : Fac, pyS S (dF f) = some (pF f)
  | .mk ws b => by
    show (pySL S [.tup (dFL ws), .int (b.val : Int)]).map PyData.tuple = _
    show (((pySL S (dFL ws)).map PyData.tuple).bind fun a => ((pySL S [.int (b.val : Int)]).map (a :: ·))).map PyData.tuple = _
    rw [pySL_F S ws]; rfl
theorem pySL_F (S : Store) : ∀ L : List Fac, pySL S (dFL L) = some (pFL L)
  | [] => rfl
  | f :: L => by
    show (pyS S (dF f)).bind (fun a => (pySL S (dFL L)).map (a :: ·)) = _
    rw [pyS_F S f, pySL_F S L]; rfl
end
mutual
theorem alikeF : ∀ f g : Fac, PySem.W.alike (pF f) (pF g) = true
  | .mk ws b, .mk us c => by
    simp [pF, PySem.W.alike, PySem.W.alikeAll, alikeFL ws us]
theorem alikeFL : ∀ L M : List Fac, PySem.W.alikeAll (pFL L) (pFL M) = true
  | [], _ => by simp [pFL, PySem.W.alikeAll]
  | f :: L, [] => by simp [pFL, PySem.W.alikeAll]
  | f :: L, g :: M => by simp [pFL, PySem.W.alikeAll, alikeF f g, alikeFL L M]
end
theorem depthAll_le {ps : List PyData} {q : Nat} : PyData.depthAll ps ≤ q ↔ ∀ p ∈ ps, p.depth ≤ q := by
  induction ps with
  | nil => simp [PyData.depthAll]
  | cons p ps ih => simp only [PyData.depthAll, List.mem_cons, forall_eq_or_imp]; rw [← ih]; omega
theorem depthF (ws : List Fac) (b : _root_.Fin 8) : (pF (.mk ws b)).depth = 2 + PyData.depthAll (pFL ws) := by
  simp only [pF, PyData.depth, PyData.depthAll]; omega
noncomputable def sortF (L : List Fac) : List Fac := L.mergeSort (PySem.W.dataLe false pF)
theorem sortF_perm (L : List Fac) : (sortF L).Perm L := List.mergeSort_perm _ _
/-- the most depth in a row of factors -/
def dpL (L : List Fac) : Nat := PyData.depthAll (pFL L)
theorem dpL_le {L : List Fac} {q : Nat} : dpL L ≤ q ↔ ∀ f ∈ L, (pF f).depth ≤ q := by
  unfold dpL
  rw [pFL_map, depthAll_le]
  simp
theorem dpL_perm {L M : List Fac} (h : L.Perm M) : dpL L = dpL M := by
  apply Nat.le_antisymm
  · exact dpL_le.mpr fun f hf => dpL_le.mp (Nat.le_refl _) f (h.mem_iff.mp hf)
  · exact dpL_le.mpr fun f hf => dpL_le.mp (Nat.le_refl _) f (h.mem_iff.mpr hf)
end Kz
namespace Kz
open PySem PySem.Spec PyProof.Rows L2 Kw
theorem dFL_len (L : List Fac) : (dFL L).length = L.length := by rw [dFL_map]; simp
theorem dFL_app (L M : List Fac) : dFL (L ++ M) = dFL L ++ dFL M := by rw [dFL_map, dFL_map, dFL_map]; simp
theorem dpL_app (L M : List Fac) : dpL (L ++ M) = max (dpL L) (dpL M) := by
  apply Nat.le_antisymm
  · refine dpL_le.mpr fun f hf => ?_
    rcases List.mem_append.mp hf with h | h
    · have := dpL_le.mp (Nat.le_refl (dpL L)) f h; omega
    · have := dpL_le.mp (Nat.le_refl (dpL M)) f h; omega
  · have h1 : dpL L ≤ dpL (L ++ M) := dpL_le.mpr fun f hf => dpL_le.mp (Nat.le_refl _) f (List.mem_append_left _ hf)
    have h2 : dpL M ≤ dpL (L ++ M) := dpL_le.mpr fun f hf => dpL_le.mp (Nat.le_refl _) f (List.mem_append_right _ hf)
    omega
def Fac.ws : Fac → List Fac
  | .mk ws _ => ws
def Fac.b : Fac → _root_.Fin 8
  | .mk _ b => b
theorem depth_ws (f : Fac) : (pF f).depth = 2 + dpL f.ws := by
  cases f with | mk ws b => exact depthF ws b
noncomputable instance : DecidableEq Fac := fun _ _ => Classical.propDecidable _
/-- a factor that wants more -/
noncomputable def addW (A : List Fac) (f : Fac) : Fac := .mk (sortF (f.ws ++ A)) f.b
/-- the form of a kind -/
noncomputable def nf : Kd → List Fac
  | .base i => [.mk [] i]
  | .unit => []
  | .both a b => sortF (nf a ++ nf b)
  | .frm a b => sortF ((nf b).map (addW (nf a)))
/-- how high functions are handed to functions -/
def rk : Kd → Nat
  | .base _ => 0
  | .unit => 0
  | .both a b => max (rk a) (rk b)
  | .frm a b => max (rk a + 1) (rk b)
theorem rk_dep : ∀ k : Kd, rk k ≤ k.dep
  | .base _ => Nat.zero_le _
  | .unit => Nat.zero_le _
  | .both a b => by have := rk_dep a; have := rk_dep b; simp only [rk, Kd.dep]; omega
  | .frm a b => by have := rk_dep a; have := rk_dep b; simp only [rk, Kd.dep]; omega
/-- how deep, how long -/
theorem nf_ok : ∀ k : Kd, dpL (nf k) ≤ 2 + 2 * rk k ∧ (nf k).length ≤ k.sz ∧ ∀ f ∈ nf k, f.ws.length ≤ k.sz
  | .base i => by
    refine ⟨dpL_le.mpr fun f hf => ?_, Nat.le_refl 1, fun f hf => ?_⟩
    · have : f = .mk [] i := by simpa [nf] using hf
      subst this
      rw [depth_ws]
      show 2 + dpL [] ≤ _
      simp [dpL, pFL, PyData.depthAll]
    · have : f = .mk [] i := by simpa [nf] using hf
      subst this
      simp [Fac.ws]
  | .unit => ⟨by simp [nf, dpL, pFL, PyData.depthAll], by simp [nf], fun f hf => by simp [nf] at hf⟩
  | .both a b => by
    obtain ⟨a1, a2, a3⟩ := nf_ok a
    obtain ⟨b1, b2, b3⟩ := nf_ok b
    have p := sortF_perm (nf a ++ nf b)
    refine ⟨?_, ?_, fun f hf => ?_⟩
    · show dpL (sortF (nf a ++ nf b)) ≤ _
      rw [dpL_perm p, dpL_app]; simp only [rk]; omega
    · show (sortF (nf a ++ nf b)).length ≤ _
      rw [p.length_eq, List.length_append]; simp only [Kd.sz]; omega
    · rcases List.mem_append.mp (p.mem_iff.mp hf) with h | h
      · have := a3 f h; simp only [Kd.sz]; omega
      · have := b3 f h; simp only [Kd.sz]; omega
  | .frm a b => by
    obtain ⟨a1, a2, a3⟩ := nf_ok a
    obtain ⟨b1, b2, b3⟩ := nf_ok b
    have p := sortF_perm ((nf b).map (addW (nf a)))
    refine ⟨?_, ?_, fun f hf => ?_⟩
    · show dpL (sortF _) ≤ _
      rw [dpL_perm p]
      refine dpL_le.mpr fun g hg => ?_
      obtain ⟨f, hf, rfl⟩ := List.mem_map.mp hg
      have h1 := dpL_le.mp (Nat.le_refl (dpL (nf b))) f hf
      rw [depth_ws] at h1 ⊢
      show 2 + dpL (sortF (f.ws ++ nf a)) ≤ _
      rw [dpL_perm (sortF_perm _), dpL_app]
      simp only [rk]; omega
    · show (sortF _).length ≤ _
      rw [p.length_eq, List.length_map]; simp only [Kd.sz]; omega
    · obtain ⟨g, hg, rfl⟩ := List.mem_map.mp (p.mem_iff.mp hf)
      have := b3 g hg
      show (sortF (g.ws ++ nf a)).length ≤ _
      rw [(sortF_perm _).length_eq, List.length_append]; simp only [Kd.sz]; omega
end Kz
namespace Kz
open PySem PySem.Spec PyProof.Rows L2 Kw
/-- the table of order_of's lambdas stands where it does -/
abbrev Tab1 (S : Store) : Prop := S[1]? = some (.tab "order_of")
/-- a comprehension over things that stand for others -/
theorem compL_of {α : Type} {tg : FG} {tt : FT} {te : FE} {ρ : FEnv} {S : Store} (i o : α → D) : ∀ (L : List α) (acc : List D), (∀ x ∈ L, ∃ ρ1, tg (i x) ρ S = some (ρ1, S) ∧ tt ρ1 S = .ok true S ∧ te ρ1 S = .ok (o x) S) → acc.length + L.length ≤ sizeLine →
    compL tg tt te none ρ (L.map i) acc S = .ok (acc ++ L.map o) S
  | [], acc, _, _ => by rw [List.map_nil, compL_nil (by unfold gd; trivial)]; simp
  | x :: L, acc, h, hl => by
    obtain ⟨ρ1, h1, h2, h3⟩ := h x List.mem_cons_self
    rw [List.map_cons, compL_step (by unfold gd; trivial) h1 h2 h3 (by simp at hl; omega), compL_of i o L (acc ++ [o x]) (fun e he => h e (List.mem_cons_of_mem _ he)) (by simp at hl ⊢; omega)]
    simp
theorem pFL_len (L : List Fac) : (pFL L).length = L.length := by rw [pFL_map]; simp
/-- the places of things in their order -/
noncomputable def places (ps : List PyData) : List D := sortB ((List.range ps.length).map fun (i : Nat) => D.int (i : Int)) ps
theorem order_F {n : Nat} {S : Store} {x : D} {L : List Fac} (h : 1 ≤ n) (t1 : Tab1 S) (hx : seqA S x = some (dFL L)) (hg : gLen [x] S = .ok (.int ((L.length : Nat) : Int)) S) (hd : dpL L ≤ 190) (hl : L.length ≤ 1000000) :
    ev n .f_order_of [x] S = .ok (.lst (places (pFL L))) S := by
  obtain ⟨m, rfl, h'⟩ := up (d := 0) (by omega : 0 + 1 ≤ n)
  have al : PySem.W.AllAlike (pFL L) := by
    rw [pFL_map]
    exact PySem.W.AllAlike.of alikeF
  have so : PySem.W.Sortable (pFL L) := by
    rw [pFL_map]
    exact PySem.W.Sortable.tuples fun f => by cases f with | mk ws b => exact ⟨_, _, rfl⟩
  have e : fOrder 1 "order_of" (fArg gLen (fCons (fVar 0) fNil)) 0 [some x] S = .ok (.lst (places (pFL L))) S := by
    unfold fOrder
    have e1 : fArg gLen (fCons (fVar 0) fNil) [some x] S = .ok (.int ((L.length : Nat) : Int)) S := by simp [hg]
    rw [e1]
    simp only [RE.bnd, List.getElem?_cons_zero]
    unfold gOrder
    simp only [hx, pySL_F]
    rw [if_pos ⟨by rw [dFL_len], by omega, t1, al, so, hd, trivial⟩]
    rfl
  rw [ev, b_order_of]
  simp [e]
/-- the places lead to the things in their order -/
theorem places_F (L : List Fac) : ∃ Z : List (Nat × Fac), places (pFL L) = Z.map (fun z => D.int (z.1 : Int)) ∧ Z.map Prod.snd = sortF L ∧ ∀ z ∈ Z, L[z.1]? = some z.2 := by
  have hz : (List.range L.length).length = L.length := by simp
  refine ⟨((List.range L.length).zip L).mergeSort (PySem.W.dataLe false fun z => pF z.2), ?_, ?_, fun z hm => ?_⟩
  · unfold places
    rw [pFL_len]
    have e1 : (List.range L.length).map (fun (i : Nat) => D.int (i : Int)) = ((List.range L.length).zip L).map fun z => D.int (z.1 : Int) := by
      have : (fun z : Nat × Fac => D.int (z.1 : Int)) = (fun (i : Nat) => D.int (i : Int)) ∘ Prod.fst := rfl
      rw [this, ← List.map_map, List.map_fst_zip (by simp)]
    have e2 : pFL L = ((List.range L.length).zip L).map fun z => pF z.2 := by
      have : (fun z : Nat × Fac => pF z.2) = pF ∘ Prod.snd := rfl
      rw [this, ← List.map_map, List.map_snd_zip (by simp), pFL_map]
    rw [e1, e2, sortB_map]
  · have := List.map_mergeSort (f := Prod.snd) (r := PySem.W.dataLe false fun z : Nat × Fac => pF z.2) (s := PySem.W.dataLe false pF) (l := (List.range L.length).zip L) (fun a _ b _ => rfl)
    rw [this, List.map_snd_zip (by simp)]
    rfl
  · have hm' := (List.mergeSort_perm _ _).mem_iff.mp hm
    obtain ⟨k, hk⟩ := List.mem_iff_getElem?.mp hm'
    rw [List.getElem?_zip_eq_some] at hk
    obtain ⟨h1, h2⟩ := hk
    have h3 := List.getElem?_eq_some_iff.mp h1
    obtain ⟨h4, h5⟩ := h3
    simp at h5
    rw [← h5]; exact h2
theorem in_order_F {n : Nat} {S : Store} {x : D} {L : List Fac} (h : 2 ≤ n) (t1 : Tab1 S) (hx : seqA S x = some (dFL L)) (hg : gLen [x] S = .ok (.int ((L.length : Nat) : Int)) S) (hi : ∀ (i : Nat) f, L[i]? = some f → gIx x (.int (i : Int)) S = .ok (dF f) S) (hd : dpL L ≤ 190) (hl : L.length ≤ 1000000) :
    ev n .f_in_order [x] S = .ok (.lst (dFL (sortF L))) S := by
  have h8 : sizeLine = 16777216 := rfl
  obtain ⟨m, rfl, h'⟩ := up h
  have eo := order_F (n := m) h' t1 hx hg hd hl
  obtain ⟨Z, z1, z2, z3⟩ := places_F L
  have zl : Z.length = L.length := by
    have := congrArg List.length z2
    rw [List.length_map, (sortF_perm L).length_eq] at this
    exact this
  have hc := compL_of (tg := gN 1) (tt := fYes) (te := f2 gIx (fVar 0) (fVar 1)) (ρ := [some x, none]) (S := S) (fun z : Nat × Fac => D.int (z.1 : Int)) (fun z => dF z.2) Z [] (fun z hz => ⟨[some x, some (.int (z.1 : Int))], by simp, rfl, by simp [hi z.1 z.2 (z3 z hz)]⟩) (by rw [h8, zl]; simp; omega)
  have e2 : Z.map (fun z => dF z.2) = dFL (sortF L) := by
    rw [← z2, dFL_map, List.map_map]; rfl
  rw [e2, ← z1] at hc
  rw [ev, b_in_order]
  simp [eo, wipeR, hc]
theorem gIx_lstF {L : List Fac} {S : Store} : ∀ (i : Nat) f, L[i]? = some f → gIx (.lst (dFL L)) (.int (i : Int)) S = .ok (dF f) S := fun i f h => by
  show ixR (dFL L) (i : Int) S = _
  rw [ixR_nat, dFL_map, List.getElem?_map, h]; rfl
theorem in_order_lst {n : Nat} {S : Store} {L : List Fac} (h : 2 ≤ n) (t1 : Tab1 S) (hd : dpL L ≤ 190) (hl : L.length ≤ 1000000) : ev n .f_in_order [.lst (dFL L)] S = .ok (.lst (dFL (sortF L))) S :=
  in_order_F h t1 rfl (by simp [dFL_len]) gIx_lstF hd hl
theorem wants_F {n : Nat} {S : Store} {f : Fac} {A : List Fac} (h : 1 ≤ n) (hl : f.ws.length + A.length ≤ 1000000) : ev n .f_wants_with [dF f, .lst (dFL A)] S = .ok (.lst (dFL (f.ws ++ A))) S := by
  have h8 : sizeLine = 16777216 := rfl
  obtain ⟨m, rfl, h'⟩ := up (d := 0) (by omega : 0 + 1 ≤ n)
  cases f with
  | mk ws b =>
    have l1 : (dFL ws).length + (dFL A).length ≤ 16777216 := by rw [dFL_len, dFL_len]; simp only [Fac.ws] at hl; omega
    rw [ev, b_wants_with]
    simp [dF, h8, l1, dFL_app, Fac.ws]
theorem plain_form_ok (k : Kd) : ∀ {n : Nat} {S : Store}, Tab1 S → k.dep + 3 ≤ n → k.sz ≤ 10000 → rk k ≤ 90 → ev n .f_plain_form [k.d] S = .ok (.lst (dFL (nf k))) S := by
  have h8 : sizeLine = 16777216 := rfl
  induction k with
  | base i =>
    intro n S t1 h _ _
    obtain ⟨m, rfl, h'⟩ := up (d := 2) (by omega : 2 + 1 ≤ n)
    rw [ev, b_plain_form]
    simp [Kd.d, h8, nf, dFL, dF]
  | unit =>
    intro n S t1 h _ _
    obtain ⟨m, rfl, h'⟩ := up (d := 2) (by omega : 2 + 1 ≤ n)
    rw [ev, b_plain_form]
    simp [Kd.d, h8, nf, dFL]
  | both a b ha hb =>
    intro n S t1 h hs hd
    simp only [Kd.dep] at h
    simp only [rk] at hd
    simp only [Kd.sz] at hs
    obtain ⟨m, rfl, h'⟩ := up (d := max a.dep b.dep + 3) (by omega)
    have ea := ha (n := m) (S := S) t1 (by omega) (by omega) (by omega)
    have eb := hb (n := m) (S := S) t1 (by omega) (by omega) (by omega)
    obtain ⟨a1, a2, a3⟩ := nf_ok a
    obtain ⟨b1, b2, b3⟩ := nf_ok b
    have es := in_order_lst (n := m) (L := nf a ++ nf b) (S := S) (by omega) t1 (by rw [dpL_app]; omega) (by simp; omega)
    rw [dFL_app] at es
    have l1 : (dFL (nf a)).length + (dFL (nf b)).length ≤ 16777216 := by rw [dFL_len, dFL_len]; omega
    rw [ev, b_plain_form]
    simp [Kd.d, ea, eb, h8, l1, es, nf]
  | frm a b ha hb =>
    intro n S t1 h hs hd
    simp only [Kd.dep] at h
    simp only [rk] at hd
    simp only [Kd.sz] at hs
    obtain ⟨m, rfl, h'⟩ := up (d := max a.dep b.dep + 3) (by omega)
    have ea := ha (n := m) (S := S) t1 (by omega) (by omega) (by omega)
    have eb := hb (n := m) (S := S) t1 (by omega) (by omega) (by omega)
    obtain ⟨a1, a2, a3⟩ := nf_ok a
    obtain ⟨b1, b2, b3⟩ := nf_ok b
    have dk := (nf_ok (.frm a b)).1
    have p := sortF_perm ((nf b).map (addW (nf a)))
    have es := in_order_lst (n := m) (L := (nf b).map (addW (nf a))) (S := S) (by omega) t1 (by
      rw [← dpL_perm p]
      have : dpL (sortF ((nf b).map (addW (nf a)))) ≤ 2 + 2 * rk (Kd.frm a b) := dk
      simp only [rk] at this
      omega) (by simp; omega)
    have hc := compL_of (tg := gN 3) (tt := fYes) (te := fArg mkTup (fCons (fArg gTuple (fCons (fArg (ev m .f_in_order) (fCons (fArg (ev m .f_wants_with) (fCons (fVar 3) (fCons (fVar 1) fNil))) fNil)) fNil)) (fCons (f2 gIx (fVar 3) (fC (.int 1))) fNil))) (ρ := [some (Kd.frm a b).d, some (.lst (dFL (nf a))), some (.lst (dFL (nf b))), none]) (S := S) dF (fun f => dF (addW (nf a) f)) (nf b) [] (fun f hf => by
      have hw := b3 _ hf
      have h1 := dpL_le.mp (Nat.le_refl (dpL (nf b))) _ hf
      rw [depth_ws] at h1
      have ew := wants_F (n := m) (S := S) (f := f) (A := nf a) (by omega) (by omega)
      have ei := in_order_lst (n := m) (L := f.ws ++ nf a) (S := S) (by omega) t1 (by rw [dpL_app]; omega) (by simp; omega)
      refine ⟨[some (Kd.frm a b).d, some (.lst (dFL (nf a))), some (.lst (dFL (nf b))), some (dF f)], by simp, rfl, ?_⟩
      have e1 : gIx (dF f) (.int 1) S = .ok (.int (f.b.val : Int)) S := by cases f; simp [dF, Fac.b]
      have e2 : dF (addW (nf a) f) = .tup [.tup (dFL (sortF (f.ws ++ nf a))), .int (f.b.val : Int)] := rfl
      rw [e2]
      simp [h8, ew, ei, e1]) (by simp [h8]; omega)
    rw [← dFL_map] at hc
    have e3 : (nf b).map (fun f => dF (addW (nf a) f)) = dFL ((nf b).map (addW (nf a))) := by
      rw [dFL_map, List.map_map]; rfl
    rw [e3] at hc
    rw [ev, b_plain_form]
    simp [Kd.d] at hc
    simp [Kd.d, ea, eb, wipeR, hc, es, nf, h8]
theorem form_ok {n : Nat} {k : Kd} {S : Store} (t1 : Tab1 S) (h : k.dep + 4 ≤ n) (h4 : 5 ≤ n) (hs : k.sz ≤ 10000) (hd : rk k ≤ 90) : ev n .f_form [k.d] S = .ok (.lst (dFL (nf k))) S := by
  obtain ⟨m, rfl, h'⟩ := up h4
  have e1 := sure_kind_kd (n := m) (k := k) (S := S) (by omega) (by omega)
  have e2 := plain_form_ok k (n := m) (S := S) t1 (by omega) hs hd
  rw [ev, b_form]
  simp [e1, e2]
end Kz
namespace Kz
open PySem PySem.Spec PyProof.Rows L2 Kw
def Well (S : Store) (w : Nat) : Prop := ∃ a b c : Int, 0 ≤ a ∧ 0 ≤ c ∧ S[w]? = some (.lst [.int a, .int b, .int c])
structure WS (S : Store) (w : Nat) (S' : Store) : Prop where
  len : S'.length = S.length
  same : ∀ i, i ≠ w → S'[i]? = S[i]?
  well : Well S' w
theorem WS.refl {S : Store} {w : Nat} (h : Well S w) : WS S w S := ⟨rfl, fun _ _ => rfl, h⟩
theorem WS.trans {S S1 S2 : Store} {w : Nat} (h : WS S w S1) (k : WS S1 w S2) : WS S w S2 := ⟨k.len.trans h.len, fun i hi => (k.same i hi).trans (h.same i hi), k.well⟩
theorem lt_of_at {S : Store} {w : Nat} {c : Cell} (h : S[w]? = some c) : w < S.length := by
  rcases Nat.lt_or_ge w S.length with hh | hh
  · exact hh
  · rw [List.getElem?_eq_none hh] at h; cases h
theorem WS.set {S : Store} {w : Nat} {a b c : Int} {x : Cell} (h : S[w]? = some x) (ha : 0 ≤ a) (hc : 0 ≤ c) : WS S w (S.set w (.lst [.int a, .int b, .int c])) :=
  ⟨by simp, fun i hi => by rw [List.getElem?_set_ne (Ne.symm hi)], a, b, c, ha, hc, List.getElem?_set_self (lt_of_at h)⟩
theorem well_new {n : Nat} {S : Store} {i : Int} (h : 1 ≤ n) : ∃ S', ev n .f__law_well [.int i] S = .ok (.loc S.length) (S ++ [S']) ∧ Well (S ++ [S']) S.length := by
  obtain ⟨m, rfl, h'⟩ := up h
  have m1 : CMul i (if i ≥ 10 ^ 18 then 1 else 0) ∨ CMulW i (if i ≥ 10 ^ 18 then 1 else 0) := .inl (.inr (by split <;> omega))
  refine ⟨.lst [.int (i * (if i ≥ 10 ^ 18 then 1 else 0)), .int i, .int 0], ?_, i * (if i ≥ 10 ^ 18 then 1 else 0), i, 0, ?_, by omega, by simp⟩
  · rw [ev, b__law_well]
    have h8 : sizeLine = 16777216 := rfl
    have e : (10 : Int) ^ 18 = 1000000000000000000 := by decide
    rw [e] at m1 ⊢
    by_cases h : (1000000000000000000 : Int) ≤ i
    · have h' : i ≥ 1000000000000000000 := h
      rw [if_pos h'] at m1 ⊢
      simp [h, m1, h8]
    · have h' : ¬ i ≥ 1000000000000000000 := h
      rw [if_neg h'] at m1 ⊢
      simp [h, m1, h8]
  · split
    · omega
    · omega
theorem draw_det {n w : Nat} {m a b c : Int} (h : 1 ≤ n) (ha : 0 ≤ a) (hc : 0 ≤ c) (hm : 0 < m) (hm' : m < 1000000000) : ∃ r a' c' : Int, 0 ≤ r ∧ r < m ∧ 0 ≤ a' ∧ 0 ≤ c' ∧ ∀ S : Store, S[w]? = some (.lst [.int a, .int b, .int c]) → ev n .f__law_draw [.loc w, .int m] S = .ok (.int r) (S.set w (.lst [.int a', .int b, .int c'])) := by
  obtain ⟨n, rfl, h'⟩ := up h
  have hlog : m.natAbs.log2 < 9000 := by
    rcases Nat.eq_zero_or_pos m.natAbs with h0 | h0
    · rw [h0]; decide
    · have : m.natAbs.log2 < 40 := (Nat.log2_lt (by omega)).mpr (by omega)
      omega
  by_cases h0 : 0 < a
  · refine ⟨a % m, a / m, c, Int.emod_nonneg _ (by omega), Int.emod_lt_of_pos _ hm, Int.ediv_nonneg ha (by omega), hc, fun S at_ => ?_⟩
    rw [ev, b__law_draw]
    simp [cellOf_of at_, h0, hm, hlog, gSb, gSetI, cellM_of at_, L2.ixN]
  · have l1 : (1013 : Nat).log2 < 9000 := by decide
    have l2 : (2011 : Nat).log2 < 9000 := by decide
    have l4 : (2147483629 : Nat).log2 < 9000 := by decide
    have c1 : ∀ i j : Int, 0 ≤ j → j < 18446744073709551616 → (CMul i j ∨ CMulW i j) = True := fun i j h1 h2 => eq_true (.inl (.inr ⟨by omega, by omega⟩))
    have c2 : ∀ i j : Int, 0 ≤ i → i < 18446744073709551616 → (CMul i j ∨ CMulW i j) = True := fun i j h1 h2 => eq_true (.inl (.inl ⟨by omega, by omega⟩))
    have b1 : ∀ x : Int, 0 ≤ x % 2147483647 ∧ x % 2147483647 < 2147483647 := fun x => by omega
    have b2 : ∀ x : Int, 0 ≤ x % 2147483629 ∧ x % 2147483629 < 2147483629 := fun x => by omega
    have k1 := fun (x y : Int) => c2 (x % 2147483647) y (b1 x).1 (by have := (b1 x).2; omega)
    have k2 := fun (x y : Int) => c2 (x % 2147483629) y (b2 x).1 (by have := (b2 x).2; omega)
    have k3 := fun (x : Int) => c1 x 48271 (by omega) (by omega)
    have k4 := fun (x : Int) => c2 69623 x (by omega) (by omega)
    have k5 := fun (x : Int) => c1 x 30013 (by omega) (by omega)
    obtain ⟨L, hL⟩ : ∃ L : Int, L = ((b % 2147483629 + b / 2147483629 * 30013) + 69623 * (c + 1) + 1) * 48271 % 2147483647 := ⟨_, rfl⟩
    refine ⟨(L * (L / 1013 + 69621 + (c + 1)) % 2147483629 * (L * (L / 1013 + 69621 + (c + 1)) % 2147483629 / 2011 + 40692) % 2147483399) % m, a, c + 1, Int.emod_nonneg _ (by omega), Int.emod_lt_of_pos _ hm, ha, by omega, fun S at_ => ?_⟩
    subst hL
    have at2 : (S.set w (.lst [.int a, .int b, .int (c + 1)]))[w]? = some (.lst [.int a, .int b, .int (c + 1)]) := List.getElem?_set_self (lt_of_at at_)
    rw [ev, b__law_draw]
    simp [cellOf_of at_, h0, hm, hlog, gSb, gSetI, cellM_of at_, L2.ixN, cellOf_of at2, k1, k2, k3, k4, k5, l1, l2, l4]
theorem draw_sp {n : Nat} {S : Store} {w : Nat} {m : Int} (h : 1 ≤ n) (hw : Well S w) (hm : 0 < m) (hm' : m < 1000000000) : ∃ r S', ev n .f__law_draw [.loc w, .int m] S = .ok (.int r) S' ∧ 0 ≤ r ∧ r < m ∧ WS S w S' := by
  obtain ⟨a, b, c, ha, hc, at_⟩ := hw
  obtain ⟨r, a', c', h1, h2, h3, h4, h5⟩ := draw_det (n := n) (w := w) (b := b) h ha hc hm hm'
  exact ⟨r, _, h5 S at_, h1, h2, WS.set at_ h3 h4⟩
end Kz
namespace Kz
open PySem PySem.Spec PyProof.Rows L2 Kw
theorem set_go {i : Nat} {f : FE} {ρ : FEnv} {S S' : Store} {d : D} (h : f ρ S = .ok d S') : sSet i f ρ S = .nx (ρ.set i (some d)) S' := by rw [sSet_ap, h]; rfl
theorem if_no {t : FT} {a : FS} {ρ : FEnv} {S S' : Store} (h : t ρ S = .ok false S') : sIf t a sNil ρ S = .nx ρ S' := by rw [sIf_ap, h]; rfl
theorem if_yes {t : FT} {a b : FS} {ρ : FEnv} {S S' : Store} (h : t ρ S = .ok true S') : sIf t a b ρ S = a ρ S' := by rw [sIf_ap, h]; rfl
theorem ret_go {f : FE} {ρ : FEnv} {S S' : Store} {d : D} (h : f ρ S = .ok d S') : sRet f ρ S = .rt d S' := by rw [sRet_ap, h]; rfl
theorem seq_go {a b : FS} {ρ ρ' : FEnv} {S S' : Store} (h : a ρ S = .nx ρ' S') : sSeq a b ρ S = b ρ' S' := by rw [sSeq_ap, h]; rfl
theorem seq_rt {a b : FS} {ρ : FEnv} {S S' : Store} {d : D} (h : a ρ S = .rt d S') : sSeq a b ρ S = .rt d S' := by rw [sSeq_ap, h]; rfl
theorem f2_go {g : D → D → Store → RE D} {a b : FE} {ρ : FEnv} {S S1 S2 : Store} {x y : D} {r : RE D} (h1 : a ρ S = .ok x S1) (h2 : b ρ S1 = .ok y S2) (h3 : g x y S2 = r) : f2 g a b ρ S = r := by rw [f2_ap, h1, bnd_ok, h2, bnd_ok, h3]
theorem var_go {i : Nat} {ρ : FEnv} {S : Store} {d : D} (h : ρ[i]? = some (some d)) : fVar i ρ S = .ok d S := by unfold fVar; rw [h]
theorem fcons_go {a : FE} {fs : FA} {ρ : FEnv} {S S1 S2 : Store} {x : D} {xs : List D} (h1 : a ρ S = .ok x S1) (h2 : fs ρ S1 = .ok xs S2) : fCons a fs ρ S = .ok (x :: xs) S2 := by rw [fCons_ap, h1, bnd_ok, h2, bnd_ok]
theorem arg_go {g : FF} {fs : FA} {ρ : FEnv} {S S1 : Store} {xs : List D} {r : RE D} (h1 : fs ρ S = .ok xs S1) (h2 : g xs S1 = r) : fArg g fs ρ S = r := by rw [fArg_ap, h1, bnd_ok, h2]
theorem lst_go {fs : FA} {ρ : FEnv} {S S1 : Store} {xs : List D} (h1 : fs ρ S = .ok xs S1) (hl : xs.length ≤ 1000) : fArg mkLst fs ρ S = .ok (.lst xs) S1 := by
  have h8 : sizeLine = 16777216 := rfl
  rw [fArg_ap, h1, bnd_ok, mkLst_ap, if_pos (by omega)]
theorem tup_go {fs : FA} {ρ : FEnv} {S S1 : Store} {xs : List D} (h1 : fs ρ S = .ok xs S1) (hl : xs.length ≤ 1000) : fArg mkTup fs ρ S = .ok (.tup xs) S1 := by
  have h8 : sizeLine = 16777216 := rfl
  rw [fArg_ap, h1, bnd_ok, mkTup_ap, if_pos (by omega)]
theorem fB_go {a : FE} {ρ : FEnv} {S S1 : Store} {b : Bool} (h : a ρ S = .ok (.bl b) S1) : fB a ρ S = .ok b S1 := by rw [fB_ap, h]; rfl
theorem or_go {ta tb : FT} {ρ : FEnv} {S S1 S2 : Store} {b : Bool} (h1 : ta ρ S = .ok false S1) (h2 : tb ρ S1 = .ok b S2) : fOr ta tb ρ S = .ok b S2 := by rw [fOr_ap, h1]; exact h2
theorem or_yes {ta tb : FT} {ρ : FEnv} {S S1 : Store} (h1 : ta ρ S = .ok true S1) : fOr ta tb ρ S = .ok true S1 := by rw [fOr_ap, h1]; rfl
theorem exp_go {f : FE} {ρ : FEnv} {S S1 : Store} {d : D} (h : f ρ S = .ok d S1) : sExp f ρ S = .nx ρ S1 := by rw [sExp_ap, h]; rfl
theorem asg_go {f : FE} {g : FG} {ρ ρ' : FEnv} {S S1 S2 : Store} {d : D} (h1 : f ρ S = .ok d S1) (h2 : g d ρ S1 = some (ρ', S2)) : sAsg f g ρ S = .nx ρ' S2 := by
  rw [sAsg_ap, h1, toS_ok, h2]; rfl
theorem at_app {S : Store} {n : Nat} {c : Cell} (h : S[n]? = some c) (T : Store) : (S ++ T)[n]? = some c := by
  have hl : n < S.length := (List.getElem?_eq_some_iff.mp h).1
  rw [List.getElem?_append_left hl]; exact h
theorem at_new (S : Store) (c : Cell) : (S ++ [c])[S.length]? = some c := by simp
/-- one of a list -/
theorem ix_in {L : List D} {r : Int} {S : Store} (h0 : 0 ≤ r) (h1 : r < L.length) : ∃ x ∈ L, gIx (.lst L) (.int r) S = .ok x S := by
  obtain ⟨k, rfl⟩ : ∃ k : Nat, r = (k : Int) := ⟨r.toNat, by omega⟩
  have hk : k < L.length := by omega
  exact ⟨L[k], List.getElem_mem _, by simp [hk, List.getElem?_eq_getElem hk]⟩
theorem pick {a b : FE} {ρ : FEnv} {S S1 S2 : Store} {L : List D} {r : Int} (h1 : a ρ S = .ok (.lst L) S1) (h2 : b ρ S1 = .ok (.int r) S2) (h0 : 0 ≤ r) (hr : r < L.length) : ∃ x ∈ L, f2 gIx a b ρ S = .ok x S2 := by
  obtain ⟨x, hx, e⟩ := ix_in (S := S2) h0 hr
  exact ⟨x, hx, f2_go h1 h2 e⟩
theorem rngD_len : ∀ (n : Nat) (lo : Int), (rngD lo n).length = n
  | 0, lo => by simp [rngD]
  | n + 1, lo => by simp [rngD, rngD_len n]
theorem fiR1_go {f : FE} {ρ : FEnv} {S S1 : Store} {n : Nat} (h : f ρ S = .ok (.int (n : Int)) S1) (hn : n ≤ 100000) : fiR1 (fCons f fNil) ρ S = .ok (rngD 0 n, none) S1 := by
  have r : -(2 ^ 62) ≤ (n : Int) ∧ (n : Int) < 2 ^ 62 := by
    have e : (2 : Int) ^ 62 = 4611686018427387904 := by decide
    rw [e]; omega
  unfold fiR1
  rw [fCons_ap, h, bnd_ok, fNil_ap, bnd_ok, bnd_ok]
  simp only
  rw [if_pos r]
  rfl
end Kz
namespace Kz
open PySem PySem.Spec PyProof.Rows L2 Kw
theorem base_of {r : Int} (h0 : 0 ≤ r) (h1 : r < 8) : ∃ k : Kd, k.d = .tup [.str "base", .int r] ∧ k.dep = 0 ∧ k.sz = 1 := by
  refine ⟨.base ⟨r.toNat, by omega⟩, ?_, rfl, rfl⟩
  simp [Kd.d]; omega
noncomputable def drE (cl : Fn → FF) (i : Nat) (k : Int) : FE := fArg (cl .f__law_draw) (fCons (fVar i) (fCons (fC (.int k)) fNil))
theorem dr_go {m w i : Nat} {k : Int} {ρ : FEnv} {S S1 : Store} {r : Int} (h : ρ[i]? = some (some (.loc w))) (e : ev m .f__law_draw [.loc w, .int k] S = .ok (.int r) S1) : drE (ev m) i k ρ S = .ok (.int r) S1 :=
  arg_go (fcons_go (var_go h) (fcons_go fC_ap fNil_ap)) e
theorem bs_go {m w : Nat} {ρ : FEnv} {S S1 : Store} {r : Int} (h : ρ[0]? = some (some (.loc w))) (e : ev m .f__law_draw [.loc w, .int 8] S = .ok (.int r) S1) : fArg mkTup (fCons (fC (.str "base")) (fCons (drE (ev m) 0 8) fNil)) ρ S = .ok (.tup [.str "base", .int r]) S1 :=
  tup_go (fcons_go fC_ap (fcons_go (dr_go h e) fNil_ap)) (by simp)
theorem ut_go {ρ : FEnv} {S : Store} : fArg mkTup (fCons (fC (.str "unit")) fNil) ρ S = .ok (.tup [.str "unit"]) S := tup_go (fcons_go fC_ap fNil_ap) (by simp)
noncomputable def Q0 (cl : Fn → FF) : FS := (sSet 4 (f2 gIx (fArg mkLst (fCons (fArg mkTup (fCons (fC (.str "unit")) fNil)) (fCons (fArg mkTup (fCons (fC (.str "base")) (fCons (drE cl 0 8) fNil))) (fCons (fArg mkTup (fCons (fC (.str "both")) (fCons (fArg mkTup (fCons (fC (.str "base")) (fCons (fC (.int 1)) fNil))) (fCons (fArg mkTup (fCons (fC (.str "unit")) fNil)) fNil)))) fNil)))) (drE cl 0 3)))
noncomputable def Q1 (cl : Fn → FF) : FS := (sSet 5 (f2 gIx (fArg mkLst (fCons (fC (.str "both")) (fCons (fC (.str "from")) fNil))) (drE cl 0 2)))
noncomputable def Q2 (cl : Fn → FF) : FS := (sSet 2 (f2 gIx (fArg mkLst (fCons (fArg mkTup (fCons (fVar 5) (fCons (fVar 2) (fCons (fVar 4) fNil)))) (fCons (fArg mkTup (fCons (fVar 5) (fCons (fVar 4) (fCons (fVar 2) fNil)))) fNil))) (drE cl 0 2)))
theorem Qeq (cl : Fn → FF) : l__law_deep_0 cl = sSeq (Q0 cl) (sSeq (Q1 cl) (Q2 cl)) := rfl
/-- one turn -/
theorem turn_sp {m w : Nat} (hm : 1 ≤ m) {S : Store} (hw : Well S w) {k : Kd} {x1 x3 x4 x5 : Option D} : ∃ (k' : Kd) (y4 y5 : Option D) (S' : Store), l__law_deep_0 (ev m) [some (.loc w), x1, some k.d, x3, x4, x5] S = .nx [some (.loc w), x1, some k'.d, x3, y4, y5] S' ∧ WS S w S' ∧ k'.dep ≤ max k.dep 1 + 1 ∧ k'.sz ≤ k.sz + 4 := by
  obtain ⟨r1, S1, e1, a1, b1, w1⟩ := draw_sp (n := m) (m := 8) hm hw (by omega) (by omega)
  obtain ⟨r2, S2, e2, a2, b2, w2⟩ := draw_sp (n := m) (m := 3) hm w1.well (by omega) (by omega)
  obtain ⟨r3, S3, e3, a3, b3, w3⟩ := draw_sp (n := m) (m := 2) hm w2.well (by omega) (by omega)
  obtain ⟨r4, S4, e4, a4, b4, w4⟩ := draw_sp (n := m) (m := 2) hm w3.well (by omega) (by omega)
  obtain ⟨B, dB, pB, sB⟩ := base_of a1 b1
  -- the side
  obtain ⟨sd, hsd, q0⟩ := pick (a := fArg mkLst (fCons (fArg mkTup (fCons (fC (.str "unit")) fNil)) (fCons (fArg mkTup (fCons (fC (.str "base")) (fCons (drE (ev m) 0 8) fNil))) (fCons (fArg mkTup (fCons (fC (.str "both")) (fCons (fArg mkTup (fCons (fC (.str "base")) (fCons (fC (.int 1)) fNil))) (fCons (fArg mkTup (fCons (fC (.str "unit")) fNil)) fNil)))) fNil)))) (b := drE (ev m) 0 3) (ρ := [some (.loc w), x1, some k.d, x3, x4, x5])
    (lst_go (fcons_go ut_go (fcons_go (bs_go rfl e1) (fcons_go (tup_go (fcons_go fC_ap (fcons_go (tup_go (fcons_go fC_ap (fcons_go fC_ap fNil_ap)) (by simp)) (fcons_go ut_go fNil_ap))) (by simp)) fNil_ap))) (by simp)) (dr_go rfl e2) a2 (by simpa using b2)
  have hS : ∃ s : Kd, sd = s.d ∧ s.dep ≤ 1 ∧ s.sz ≤ 3 := by
    simp only [List.mem_cons, List.not_mem_nil, or_false] at hsd
    rcases hsd with z | z | z
    · exact ⟨.unit, z, by simp [Kd.dep], by simp [Kd.sz]⟩
    · exact ⟨B, by rw [z, dB], by omega, by omega⟩
    · exact ⟨.both (.base 1) .unit, by rw [z]; rfl, by simp [Kd.dep], by simp [Kd.sz]⟩
  obtain ⟨s, rfl, hs1, hs2⟩ := hS
  obtain ⟨wd', hwd, q1⟩ := pick (a := fArg mkLst (fCons (fC (.str "both")) (fCons (fC (.str "from")) fNil))) (b := drE (ev m) 0 2) (ρ := [some (.loc w), x1, some k.d, x3, some s.d, x5]) (lst_go (fcons_go fC_ap (fcons_go fC_ap fNil_ap)) (by simp)) (dr_go rfl e3) a3 (by simpa using b3)
  have hW : ∃ b : Bool, wd' = .str (wd b) := by
    simp only [List.mem_cons, List.not_mem_nil, or_false] at hwd
    rcases hwd with z | z
    · exact ⟨true, z⟩
    · exact ⟨false, z⟩
  obtain ⟨b, rfl⟩ := hW
  obtain ⟨kk, hkk, q2⟩ := pick (a := fArg mkLst (fCons (fArg mkTup (fCons (fVar 5) (fCons (fVar 2) (fCons (fVar 4) fNil)))) (fCons (fArg mkTup (fCons (fVar 5) (fCons (fVar 4) (fCons (fVar 2) fNil)))) fNil))) (b := drE (ev m) 0 2) (ρ := [some (.loc w), x1, some k.d, x3, some s.d, some (.str (wd b))])
    (lst_go (fcons_go (tup_go (fcons_go (var_go rfl) (fcons_go (var_go rfl) (fcons_go (var_go rfl) fNil_ap))) (by simp)) (fcons_go (tup_go (fcons_go (var_go rfl) (fcons_go (var_go rfl) (fcons_go (var_go rfl) fNil_ap))) (by simp)) fNil_ap)) (by simp)) (dr_go rfl e4) a4 (by simpa using b4)
  have hK : ∃ k' : Kd, kk = k'.d ∧ k'.dep ≤ max k.dep 1 + 1 ∧ k'.sz ≤ k.sz + 4 := by
    simp only [List.mem_cons, List.not_mem_nil, or_false] at hkk
    rcases hkk with z | z
    · exact ⟨mk2 b k s, by rw [z, mk2_d], by rw [mk2_dep]; omega, by rw [mk2_sz]; omega⟩
    · exact ⟨mk2 b s k, by rw [z, mk2_d], by rw [mk2_dep]; omega, by rw [mk2_sz]; omega⟩
  obtain ⟨k', rfl, h1, h2⟩ := hK
  refine ⟨k', some s.d, some (.str (wd b)), S4, ?_, ((w1.trans w2).trans w3).trans w4, h1, h2⟩
  have g0 : Q0 (ev m) [some (.loc w), x1, some k.d, x3, x4, x5] S = .nx [some (.loc w), x1, some k.d, x3, some s.d, x5] S2 := set_go q0
  have g1 : Q1 (ev m) [some (.loc w), x1, some k.d, x3, some s.d, x5] S2 = .nx [some (.loc w), x1, some k.d, x3, some s.d, some (.str (wd b))] S3 := set_go q1
  have g2 : Q2 (ev m) [some (.loc w), x1, some k.d, x3, some s.d, some (.str (wd b))] S3 = .nx [some (.loc w), x1, some k'.d, x3, some s.d, some (.str (wd b))] S4 := set_go q2
  rw [Qeq, seq_go g0, seq_go g1, g2]
theorem deep_loop {m w : Nat} (hm : 1 ≤ m) {x1 : Option D} : ∀ (js : List D) {S : Store} {k : Kd} {x3 x4 x5 : Option D}, Well S w → ∃ (k' : Kd) (y3 y4 y5 : Option D) (S' : Store),
    forL (gN 3) (l__law_deep_0 (ev m)) none js [some (.loc w), x1, some k.d, x3, x4, x5] S = .nx [some (.loc w), x1, some k'.d, y3, y4, y5] S' ∧ WS S w S' ∧ k'.dep ≤ max k.dep 1 + js.length ∧ k'.sz ≤ k.sz + 4 * js.length
  | [], S, k, x3, x4, x5, hw => ⟨k, x3, x4, x5, S, by simp, WS.refl hw, by simp; omega, by simp⟩
  | j :: js, S, k, x3, x4, x5, hw => by
    obtain ⟨k1, y4, y5, S1, e1, w1, d1, s1⟩ := turn_sp hm hw (k := k) (x1 := x1) (x3 := some j) (x4 := x4) (x5 := x5)
    obtain ⟨k2, z3, z4, z5, S2, e2, w2, d2, s2⟩ := deep_loop hm (x1 := x1) js (k := k1) (x3 := some j) (x4 := y4) (x5 := y5) w1.well
    refine ⟨k2, z3, z4, z5, S2, ?_, w1.trans w2, by simp only [List.length_cons]; omega, by simp only [List.length_cons]; omega⟩
    rw [← e2, forL_cons, gN_ap, tgR_some]
    show loopR _ (l__law_deep_0 (ev m) [some (.loc w), x1, some k.d, some j, x4, x5] S) = _
    rw [e1, loopR_nx]
noncomputable def R0 (cl : Fn → FF) : FS := (sSet 2 (f2 gIx (fArg mkLst (fCons (fArg mkTup (fCons (fC (.str "unit")) fNil)) (fCons (fArg mkTup (fCons (fC (.str "base")) (fCons (drE cl 0 8) fNil))) fNil))) (drE cl 0 2)))
noncomputable def R1 (cl : Fn → FF) : FS := (sFor (fiR1 (fCons (fVar 1) fNil)) (gN 3) (l__law_deep_0 cl))
theorem Req (cl : Fn → FF) : b__law_deep cl = sSeq (R0 cl) (sSeq (R1 cl) (sRet (fVar 2))) := rfl
theorem deep_sp {n w L : Nat} {S : Store} (h : 2 ≤ n) (hw : Well S w) (hL : L ≤ 100) : ∃ (k : Kd) (S' : Store), ev n .f__law_deep [.loc w, .int (L : Int)] S = .ok k.d S' ∧ WS S w S' ∧ k.dep ≤ L + 1 ∧ k.sz ≤ 4 * L + 1 := by
  obtain ⟨m, rfl, h'⟩ := up h
  obtain ⟨r1, S1, e1, a1, b1, w1⟩ := draw_sp (n := m) (m := 8) h' hw (by omega) (by omega)
  obtain ⟨r2, S2, e2, a2, b2, w2⟩ := draw_sp (n := m) (m := 2) h' w1.well (by omega) (by omega)
  obtain ⟨B, dB, pB, sB⟩ := base_of a1 b1
  obtain ⟨sd, hsd, q0⟩ := pick (a := fArg mkLst (fCons (fArg mkTup (fCons (fC (.str "unit")) fNil)) (fCons (fArg mkTup (fCons (fC (.str "base")) (fCons (drE (ev m) 0 8) fNil))) fNil))) (b := drE (ev m) 0 2) (ρ := [some (.loc w), some (.int (L : Int)), none, none, none, none])
    (lst_go (fcons_go ut_go (fcons_go (bs_go rfl e1) fNil_ap)) (by simp)) (dr_go rfl e2) a2 (by simpa using b2)
  have hS : ∃ s : Kd, sd = s.d ∧ s.dep = 0 ∧ s.sz = 1 := by
    simp only [List.mem_cons, List.not_mem_nil, or_false] at hsd
    rcases hsd with z | z
    · exact ⟨.unit, z, rfl, rfl⟩
    · exact ⟨B, by rw [z, dB], pB, sB⟩
  obtain ⟨s, rfl, hs1, hs2⟩ := hS
  obtain ⟨k, y3, y4, y5, S3, e3, w3, d3, s3⟩ := deep_loop h' (x1 := some (.int (L : Int))) (rngD 0 L) (k := s) (x3 := none) (x4 := none) (x5 := none) w2.well
  rw [rngD_len] at d3 s3
  refine ⟨k, S3, ?_, (w1.trans w2).trans w3, by omega, by omega⟩
  have g0 : R0 (ev m) [some (.loc w), some (.int (L : Int)), none, none, none, none] S = .nx [some (.loc w), some (.int (L : Int)), some s.d, none, none, none] S2 := set_go q0
  have g1 : R1 (ev m) [some (.loc w), some (.int (L : Int)), some s.d, none, none, none] S2 = .nx [some (.loc w), some (.int (L : Int)), some k.d, y3, y4, y5] S3 := by
    have es : fiR1 (fCons (fVar 1) fNil) [some (.loc w), some (.int (L : Int)), some s.d, none, none, none] S2 = .ok (rngD 0 L, none) S2 := fiR1_go (var_go rfl) (by omega)
    rw [R1, sFor_ap, es, toS_ok]
    exact e3
  show RS.fin (b__law_deep (ev m) [some (.loc w), some (.int (L : Int)), none, none, none, none] S) = _
  rw [Req, seq_go g0, seq_go g1, ret_go (var_go rfl), fin_rt]
end Kz
namespace Kz
open PySem PySem.Spec PyProof.Rows L2 Kw
/-- data that is no kind, of at most N parts -/
structure Bad (x : D) (N : Nat) : Prop where
  no : isK x = false
  ly : lay x
  n : nd x ≤ N
  pn : plainD x = true
theorem pln_kd : ∀ k : Kd, plainD k.d = true
  | .base i => by simp [Kd.d, plainD, plainL]
  | .unit => by simp [Kd.d, plainD, plainL]
  | .both a b => by simp [Kd.d, plainD, plainL, pln_kd a, pln_kd b]
  | .frm a b => by simp [Kd.d, plainD, plainL, pln_kd a, pln_kd b]
theorem no_inn {x : D} (h : innD x = none) : isK x = false := by rw [isK_eq, h]
theorem kd_two (k : Kd) : ∃ ks, k.d = .tup ks ∧ Bad (.tup (cutL ks none (some (-1)))) (4 * k.sz) ∧ Bad (.tup (ks ++ [.tup [.str "unit"]])) (4 * k.sz + 4) ∧ plainL ks = true ∧ ks.length ≤ 3 := by
  cases k with
  | base i =>
    have e : cutL [D.str "base", .int (i.val : Int)] none (some (-1)) = [.str "base"] := rfl
    refine ⟨_, rfl, ?_, ?_, by simp [plainL, plainD], by simp⟩
    · rw [e]
      exact ⟨no_inn (by simp [innD, innR]), by simp [lay, pl, plL]; try decide, by simp [nd, ndL, Kd.sz], by simp [plainD, plainL]⟩
    · exact ⟨no_inn (by simp [innD, innR]), by simp [lay, pl, plL]; try decide, by simp [nd, ndL, Kd.sz], by simp [plainD, plainL]⟩
  | unit =>
    have e : cutL [D.str "unit"] none (some (-1)) = [] := rfl
    refine ⟨_, rfl, ?_, ?_, by simp [plainL, plainD], by simp⟩
    · rw [e]
      exact ⟨no_inn (by simp [innD]), by simp [lay, pl, plL], by simp [nd, ndL, Kd.sz], by simp [plainD, plainL]⟩
    · exact ⟨no_inn (by simp [innD, innR]), by simp [lay, pl, plL]; try decide, by simp [nd, ndL, Kd.sz], by simp [plainD, plainL]⟩
  | both a b =>
    have e : cutL [D.str "both", a.d, b.d] none (some (-1)) = [.str "both", a.d] := rfl
    have l1 : pl a.d = true := lay_kd a
    have l2 : pl b.d = true := lay_kd b
    have n1 := nd_kd a
    have n2 := nd_kd b
    have p1 := pln_kd a
    have p2 := pln_kd b
    refine ⟨_, rfl, ?_, ?_, by simp [plainL, plainD, p1, p2], by simp⟩
    · rw [e]
      exact ⟨no_inn (by simp [innD, innR]), by simp [lay, pl, plL, l1]; try decide, by simp [nd, ndL, Kd.sz]; omega, by simp [plainD, plainL, p1]⟩
    · exact ⟨no_inn (by simp [innD, innR]), by simp [lay, pl, plL, l1, l2]; try decide, by simp [nd, ndL, Kd.sz]; omega, by simp [plainD, plainL, p1, p2]⟩
  | frm a b =>
    have e : cutL [D.str "from", a.d, b.d] none (some (-1)) = [.str "from", a.d] := rfl
    have l1 : pl a.d = true := lay_kd a
    have l2 : pl b.d = true := lay_kd b
    have n1 := nd_kd a
    have n2 := nd_kd b
    have p1 := pln_kd a
    have p2 := pln_kd b
    refine ⟨_, rfl, ?_, ?_, by simp [plainL, plainD, p1, p2], by simp⟩
    · rw [e]
      exact ⟨no_inn (by simp [innD, innR]), by simp [lay, pl, plL, l1]; try decide, by simp [nd, ndL, Kd.sz]; omega, by simp [plainD, plainL, p1]⟩
    · exact ⟨no_inn (by simp [innD, innR]), by simp [lay, pl, plL, l1, l2]; try decide, by simp [nd, ndL, Kd.sz]; omega, by simp [plainD, plainL, p1, p2]⟩
theorem Bad.mono {x : D} {N M : Nat} (h : Bad x N) (l : N ≤ M) : Bad x M := ⟨h.no, h.ly, Nat.le_trans h.n l, h.pn⟩
def oddA : List D := [.tup [.str "base", .int 8], .tup [.str "base", .int (-1)], .tup [.str "base", .bl true], .tup [.str "base", .str "1"], .tup [.str "base", .non], .tup [.str "base", .tup [.int 0]], .tup [.str "base", .int (10 ^ 30)]]
def oddB (k : Kd) (ks : List D) : List D := [.lst ks, .tup (cutL ks none (some (-1))), .tup (ks ++ [.tup [.str "unit"]]), .tup [], .non, .int 7, .str "a", .bl true, .dic [] [], .tup [.str "units"], .tup [k.d]]
def oddC (k : Kd) : List D := [.tup [.str "base"], .tup [.str "base", .int 1, .int 2], .tup [.str "unit", .tup [.str "unit"]], .tup [.str "Both", k.d, k.d], .tup [.str "both", k.d], .tup [.non, k.d]]
theorem badA {x : D} (h : x ∈ oddA) : Bad x 5 := by
  simp only [oddA, List.mem_cons, List.not_mem_nil, or_false] at h
  rcases h with h | h | h | h | h | h | h <;> subst h <;> refine ⟨no_inn (by simp [innD, innR]), by simp [lay, pl, plL]; try decide, by simp [nd, ndL], by simp [plainD, plainL]⟩
theorem badC {k : Kd} {x : D} (h : x ∈ oddC k) : Bad x (8 * k.sz + 4) := by
  have l : pl k.d = true := lay_kd k
  have n := nd_kd k
  have p := pln_kd k
  simp only [oddC, List.mem_cons, List.not_mem_nil, or_false] at h
  rcases h with h | h | h | h | h | h <;> subst h <;> refine ⟨no_inn (by simp [innD, innR]), by simp [lay, pl, plL, l]; try decide, by simp [nd, ndL]; try omega, by simp [plainD, plainL, p]⟩
theorem badB {k : Kd} {ks : List D} (h1 : Bad (.tup (cutL ks none (some (-1)))) (4 * k.sz)) (h2 : Bad (.tup (ks ++ [.tup [.str "unit"]])) (4 * k.sz + 4)) (hp : plainL ks = true) {x : D} (h : x ∈ oddB k ks) : Bad x (8 * k.sz + 4) := by
  have l : pl k.d = true := lay_kd k
  have n := nd_kd k
  have p := pln_kd k
  simp only [oddB, List.mem_cons, List.not_mem_nil, or_false] at h
  rcases h with h | h | h | h | h | h | h | h | h | h | h
  case inl => subst h; exact ⟨no_inn (by simp [innD]), by simp [lay, pl], by simp [nd], by simp [plainD, hp]⟩
  case inr.inl => subst h; exact h1.mono (by omega)
  case inr.inr.inl => subst h; exact h2.mono (by omega)
  case inr.inr.inr.inr.inr.inr.inr.inr.inr.inr =>
    subst h
    refine ⟨no_inn ?_, by simp [lay, pl, plL, l], by simp [nd, ndL]; omega, by simp [plainD, plainL, p]⟩
    cases k <;> simp [innD, Kd.d]
  all_goals subst h; exact ⟨no_inn (by simp [innD, innR]), by simp [lay, pl, plL]; try decide, by simp [nd, ndL]; try omega, by simp [plainD, plainL]⟩
end Kz
namespace Kz
open PySem PySem.Spec PyProof.Rows L2 Kw
mutual
theorem pln_under (n : Nat) : ∀ d : D, plainD d = true → d.under n = true
  | .non, _ => rfl
  | .bl _, _ => rfl
  | .int _, _ => rfl
  | .str _, _ => rfl
  | .glo _, _ => rfl
  | .tup ds, h => by simpa [D.under] using plns_under n ds (by simpa [plainD] using h)
  | .lst ds, h => by simpa [D.under] using plns_under n ds (by simpa [plainD] using h)
  | .fls ds, h => by simpa [D.under] using plns_under n ds (by simpa [plainD] using h)
  | .dic _ ds, h => by simpa [D.under] using plns_under n ds (by simpa [plainD] using h)
  | .ins _ _ ds, h => by simpa [D.under] using plns_under n ds (by simpa [plainD] using h)
  | .loc _, h => by simp [plainD] at h
  | .exn _, h => by simp [plainD] at h
  | .exo _ _ _, h => by simp [plainD] at h
  | .lam _ _ _, h => by simp [plainD] at h
  | .clo _ _ _ _ _, h => by simp [plainD] at h
theorem plns_under (n : Nat) : ∀ ds : List D, plainL ds = true → underL n ds = true
  | [], _ => rfl
  | d :: ds, h => by
    have h' : plainD d = true ∧ plainL ds = true := by simpa [plainL] using h
    simp [underL, pln_under n d h'.1, plns_under n ds h'.2]
end
theorem cutW {S S2 : Store} {w : Nat} {T : Store} {d : D} (hw : w < S.length) (h : WS (S ++ T) w S2) (hd : d.under S.length = true) : cutR S (.ok d S2) = .ok d (S2.take S.length) ∧ WS S w (S2.take S.length) := by
  have hl : S.length ≤ S2.length := by rw [h.len]; simp
  obtain ⟨a, b, c, ha, hc, at_⟩ := h.well
  constructor
  · unfold cutR
    simp only
    rw [if_pos]
    refine ⟨hd, hl, fun i cc hi hcc => ?_⟩
    by_cases e : i = w
    · subst e
      rw [at_] at hcc
      cases hcc
      exact .inr (by simp [Cell.under, underL, D.under])
    · rw [h.same i e, List.getElem?_append_left hi] at hcc
      exact .inl hcc
  · refine ⟨by rw [List.length_take]; omega, fun i hi => ?_, a, b, c, ha, hc, ?_⟩
    · by_cases hi2 : i < S.length
      · rw [List.getElem?_take_of_lt hi2, h.same i hi, List.getElem?_append_left hi2]
      · rw [List.getElem?_eq_none (by rw [List.length_take]; omega), List.getElem?_eq_none (by omega)]
    · rw [List.getElem?_take_of_lt hw]; exact at_
theorem cel_go {fs : FA} {ρ : FEnv} {S S1 : Store} {xs : List D} (h1 : fs ρ S = .ok xs S1) (hl : xs.length ≤ 1000) : fArg mkCel fs ρ S = .ok (.loc S1.length) (S1 ++ [.lst xs]) := by
  have h8 : sizeLine = 16777216 := rfl
  rw [fArg_ap, h1, bnd_ok, mkCel_ap, if_pos (by omega)]
theorem app_go {i : Nat} {a : FE} {ρ : FEnv} {S : Store} {xs : List D} {d : D} (hv : ρ[i]? = some (some (.loc S.length))) (h : a ρ (S ++ [.lst xs]) = .ok d (S ++ [.lst xs])) (hl : xs.length ≤ 1000) : fMth gAppend (fVar i) (fCons a fNil) ρ (S ++ [.lst xs]) = .ok .non (S ++ [.lst (xs ++ [d])]) := by
  have h8 : sizeLine = 16777216 := rfl
  rw [fMth_ap, var_go hv, bnd_ok, mthR_loc (n := S.length) (S := S ++ [Cell.lst xs]) (ρ := ρ) (xs := xs) (g := gAppend) (a := fCons a fNil) cellOf_app, fcons_go h fNil_ap, bnd_ok, gAppend_loc (xs := xs) cellM_app (by omega)]
  simp
theorem addc_go {i n : Nat} {b : FE} {ρ : FEnv} {S : Store} {xs ys : List D} (hv : ρ[i]? = some (some (.loc n))) (hn : S[n]? = some (.lst xs)) (h : b ρ S = .ok (.lst ys) S) (hl : xs.length + ys.length ≤ 1000) : f2 (gAdd true) (fVar i) b ρ S = .ok (.loc S.length) (S ++ [.lst (xs ++ ys)]) := by
  have h8 : sizeLine = 16777216 := rfl
  refine f2_go (var_go hv) h ?_
  have hl' : (xs ++ ys).length ≤ sizeLine := by rw [List.length_append]; omega
  show catL true (seqM S (.loc n)) (some ys) S = _
  have e : seqM S (.loc n) = some xs := cellM_of hn
  rw [e]
  show mkCel (xs ++ ys) S = _
  rw [mkCel_ap, if_pos hl']
theorem ixc_in {n : Nat} {L : List D} {r : Int} {S : Store} (hn : S[n]? = some (.lst L)) (h0 : 0 ≤ r) (h1 : r < L.length) : ∃ x ∈ L, gIx (.loc n) (.int r) S = .ok x S := by
  obtain ⟨x, hx, e⟩ := ix_in (S := S) h0 h1
  refine ⟨x, hx, ?_⟩
  rw [← e]
  show ixO (cellOf S n) r S = ixR L r S
  rw [cellOf_of hn]
  rfl
noncomputable def O0 (cl : Fn → FF) : FS := (sSet 2 (fArg mkCel (fCons (fArg mkTup (fCons (fC (.str "base")) (fCons (fC (.int 8)) fNil))) (fCons (fArg mkTup (fCons (fC (.str "base")) (fCons (f1 gNeg (fC (.int 1))) fNil))) (fCons (fArg mkTup (fCons (fC (.str "base")) (fCons (fC (.bl true)) fNil))) (fCons (fArg mkTup (fCons (fC (.str "base")) (fCons (fC (.str "1")) fNil))) (fCons (fArg mkTup (fCons (fC (.str "base")) (fCons (fC .non) fNil))) (fCons (fArg mkTup (fCons (fC (.str "base")) (fCons (fArg mkTup (fCons (fC (.int 0)) fNil)) fNil))) fNil))))))))
noncomputable def O1 (cl : Fn → FF) : FS := (sExp (fMth gAppend (fVar 2) (fCons (fArg mkTup (fCons (fC (.str "base")) (fCons (f2 gPow (fC (.int 10)) (fC (.int 30))) fNil))) fNil)))
noncomputable def O2 (cl : Fn → FF) : FS := (sSet 2 (f2 (gAdd true) (fVar 2) (fArg mkLst (fCons (fArg (gList false) (fCons (fVar 1) fNil)) (fCons (fSl (gSl false) (fVar 1) fNone (fSome (f1 gNeg (fC (.int 1))))) (fCons (f2 (gAdd false) (fVar 1) (fArg mkTup (fCons (fArg mkTup (fCons (fC (.str "unit")) fNil)) fNil))) (fCons (fArg mkTup fNil) (fCons (fC .non) (fCons (fC (.int 7)) (fCons (fC (.str "a")) (fCons (fC (.bl true)) (fCons (fDic [] []) (fCons (fArg mkTup (fCons (fC (.str "units")) fNil)) (fCons (fArg mkTup (fCons (fVar 1) fNil)) fNil))))))))))))))
noncomputable def O3 (cl : Fn → FF) : FS := (sSet 2 (f2 (gAdd true) (fVar 2) (fArg mkLst (fCons (fArg mkTup (fCons (fC (.str "base")) fNil)) (fCons (fArg mkTup (fCons (fC (.str "base")) (fCons (fC (.int 1)) (fCons (fC (.int 2)) fNil)))) (fCons (fArg mkTup (fCons (fC (.str "unit")) (fCons (fArg mkTup (fCons (fC (.str "unit")) fNil)) fNil))) (fCons (fArg mkTup (fCons (fC (.str "Both")) (fCons (fVar 1) (fCons (fVar 1) fNil)))) (fCons (fArg mkTup (fCons (fC (.str "both")) (fCons (fVar 1) fNil))) (fCons (fArg mkTup (fCons (fC .non) (fCons (fVar 1) fNil))) fNil)))))))))
noncomputable def O4 (cl : Fn → FF) : FS := (sRet (f2 gIx (fVar 2) (drE cl 0 24)))
theorem Oeq (cl : Fn → FF) : b__law_odd cl = sSeq (O0 cl) (sSeq (O1 cl) (sSeq (O2 cl) (sSeq (O3 cl) (O4 cl)))) := rfl
theorem odd_sp {n w : Nat} {S : Store} {k : Kd} (h : 2 ≤ n) (hw : Well S w) : ∃ (d : D) (S' : Store), ev n .f__law_odd [.loc w, k.d] S = .ok d S' ∧ WS S w S' ∧ Bad d (8 * k.sz + 5) := by
  obtain ⟨m, rfl, h'⟩ := up h
  obtain ⟨ks, hks, b1, b2, hp, hl⟩ := kd_two k
  have hwl : w < S.length := by obtain ⟨a, b, c, _, _, at_⟩ := hw; exact lt_of_at at_
  have h8 : sizeLine = 16777216 := rfl
  generalize hX : k.d = X at *
  have q0 : O0 (ev m) [some (.loc w), some X, none] S = .nx [some (.loc w), some X, some (.loc S.length)] (S ++ [.lst (oddA.take 6)]) := by
    simp [O0, h8, oddA]
  have q1 : O1 (ev m) [some (.loc w), some X, some (.loc S.length)] (S ++ [.lst (oddA.take 6)]) = .nx [some (.loc w), some X, some (.loc S.length)] (S ++ [.lst oddA]) :=
    exp_go (app_go (xs := oddA.take 6) (d := .tup [.str "base", .int (10 ^ 30)]) rfl (by simp [h8]) (by simp [oddA]))
  have q2 : O2 (ev m) [some (.loc w), some X, some (.loc S.length)] (S ++ [.lst oddA]) = .nx [some (.loc w), some X, some (.loc (S ++ [Cell.lst oddA]).length)] ((S ++ [.lst oddA]) ++ [.lst (oddA ++ oddB k ks)]) := by
    refine set_go (addc_go (xs := oddA) (ys := oddB k ks) rfl (by simp) ?_ (by simp [oddA, oddB]))
    subst hks
    have e1 : ks.length ≤ 16777215 := by omega
    simp [h8, oddB, hX, e1]
  have q3 : O3 (ev m) [some (.loc w), some X, some (.loc (S ++ [Cell.lst oddA]).length)] ((S ++ [.lst oddA]) ++ [.lst (oddA ++ oddB k ks)]) = .nx [some (.loc w), some X, some (.loc ((S ++ [Cell.lst oddA]) ++ [Cell.lst (oddA ++ oddB k ks)]).length)] (((S ++ [Cell.lst oddA]) ++ [Cell.lst (oddA ++ oddB k ks)]) ++ [Cell.lst ((oddA ++ oddB k ks) ++ oddC k)]) := by
    refine set_go (addc_go (xs := oddA ++ oddB k ks) (ys := oddC k) rfl (by simp) ?_ (by simp [oddA, oddB, oddC]))
    simp [h8, oddC, hX]
  generalize hS3 : (S ++ [Cell.lst oddA]) ++ [.lst (oddA ++ oddB k ks)] = S3 at *
  have hS4 : S3 ++ [.lst ((oddA ++ oddB k ks) ++ oddC k)] = S ++ [.lst oddA, .lst (oddA ++ oddB k ks), .lst ((oddA ++ oddB k ks) ++ oddC k)] := by rw [← hS3]; simp
  have w4 : Well (S3 ++ [.lst ((oddA ++ oddB k ks) ++ oddC k)]) w := by
    obtain ⟨a, b, c, ha, hc, at_⟩ := hw
    exact ⟨a, b, c, ha, hc, by rw [hS4]; exact at_app at_ _⟩
  obtain ⟨r, S5, e5, a5, b5, w5⟩ := draw_sp (n := m) (m := 24) h' w4 (by omega) (by omega)
  have l3 : w < S3.length := by rw [← hS3]; simp; omega
  have at5 : S5[S3.length]? = some (.lst ((oddA ++ oddB k ks) ++ oddC k)) := by rw [w5.same _ (by omega)]; exact at_new _ _
  obtain ⟨x, hx, ex⟩ := ixc_in (S := S5) at5 a5 (by simpa [oddA, oddB, oddC] using b5)
  have hb : Bad x (8 * k.sz + 5) := by
    rcases List.mem_append.mp hx with hx | hx
    · rcases List.mem_append.mp hx with hx | hx
      · exact (badA hx).mono (by omega)
      · exact (badB b1 b2 hp hx).mono (by omega)
    · exact (badC hx).mono (by omega)
  have eB : fnB 2 3 (b__law_odd (ev m)) [.loc w, X] S = .ok x S5 := by
    show RS.fin (b__law_odd (ev m) [some (.loc w), some X, none] S) = _
    rw [Oeq, seq_go q0, seq_go q1, seq_go q2, seq_go q3]
    have q4 : O4 (ev m) [some (.loc w), some X, some (.loc S3.length)] (S3 ++ [.lst ((oddA ++ oddB k ks) ++ oddC k)]) = .rt x S5 := ret_go (f2_go (var_go rfl) (dr_go rfl e5) ex)
    rw [q4, fin_rt]
  rw [hS4] at w5
  obtain ⟨c1, c2⟩ := cutW hwl w5 (pln_under _ x hb.pn)
  exact ⟨x, _, by rw [ev, fnC_ap, eB]; exact c1, c2, hb⟩
end Kz
namespace Kz
open PySem PySem.Spec PyProof.Rows L2 Kw
theorem in_bu (s : Str) (S : Store) (h : PyData.strOk s = true) : gIn false (.str s) (.lst [.str "base", .str "unit"]) S = .ok (.bl (s == "base" || s == "unit")) S := by
  have e1 : (Str.ofString "base" == s) = (s == Str.ofString "base") := by rw [Bool.eq_iff_iff, beq_iff_eq, beq_iff_eq]; exact eq_comm
  have e2 : (Str.ofString "unit" == s) = (s == Str.ofString "unit") := by rw [Bool.eq_iff_iff, beq_iff_eq, beq_iff_eq]; exact eq_comm
  simp [gIn, pyS, pySL, PyData.canLay0, PyData.canLayAll0, PyData.depth, PyData.depthAll, PyData.eqv, h, e1, e2]
noncomputable def U0 (cl : Fn → FF) : FS := (sIf (fOr (fB (f2 (gIn false) (f2 gIx (fVar 1) (fC (.int 0))) (fArg mkLst (fCons (fC (.str "base")) (fCons (fC (.str "unit")) fNil))))) (fB (f2 gEq (drE cl 0 8) (fC (.int 0))))) (sRet (fArg (cl .f__law_odd) (fCons (fVar 0) (fCons (fVar 1) fNil)))) sNil)
noncomputable def U1 (cl : Fn → FF) : FS := (sIf (fB (f2 gEq (drE cl 0 2) (fC (.int 0)))) (sRet (fArg mkTup (fCons (f2 gIx (fVar 1) (fC (.int 0))) (fCons (fArg (cl .f__law_spoilt) (fCons (fVar 0) (fCons (f2 gIx (fVar 1) (fC (.int 1))) fNil))) (fCons (f2 gIx (fVar 1) (fC (.int 2))) fNil))))) sNil)
noncomputable def U2 (cl : Fn → FF) : FS := (sRet (fArg mkTup (fCons (f2 gIx (fVar 1) (fC (.int 0))) (fCons (f2 gIx (fVar 1) (fC (.int 1))) (fCons (fArg (cl .f__law_spoilt) (fCons (fVar 0) (fCons (f2 gIx (fVar 1) (fC (.int 2))) fNil))) fNil)))))
theorem Ueq (cl : Fn → FF) : b__law_spoilt cl = sSeq (U0 cl) (sSeq (U1 cl) (U2 cl)) := rfl
theorem ix0 {s : D} {r : List D} {S : Store} : gIx (.tup (s :: r)) (.int 0) S = .ok s S := by simp
theorem in_go {s : Str} {r : List D} {x0 : Option D} {S : Store} (h : PyData.strOk s = true) : fB (f2 (gIn false) (f2 gIx (fVar 1) (fC (.int 0))) (fArg mkLst (fCons (fC (.str "base")) (fCons (fC (.str "unit")) fNil)))) [x0, some (.tup (.str s :: r))] S = .ok (s == "base" || s == "unit") S :=
  fB_go (f2_go (f2_go (var_go rfl) fC_ap ix0) (lst_go (fcons_go fC_ap (fcons_go fC_ap fNil_ap)) (by simp)) (in_bu s S h))
theorem eq0_go {a : FE} {ρ : FEnv} {S S1 : Store} {r : Int} (h : a ρ S = .ok (.int r) S1) : fB (f2 gEq a (fC (.int 0))) ρ S = .ok (decide (r = 0)) S1 := by
  refine fB_go (f2_go h fC_ap ?_)
  have e : (r == 0) = decide (r = 0) := by rw [Bool.eq_iff_iff]; simp
  rw [← e]
  simp
theorem bad_pair {b : Bool} {x y : D} {N M : Nat} (hx : pl x = true) (hy : pl y = true) (nx : nd x ≤ N) (ny : nd y ≤ M) (px : plainD x = true) (py : plainD y = true) (h : isK x = false ∨ isK y = false) : Bad (.tup [.str (wd b), x, y]) (N + M + 2) := by
  have hwd : PyData.strOk (wd b) = true := by cases b <;> simp [wd]
  refine ⟨?_, by simp [lay, pl, plL, hx, hy, hwd], by simp [nd, ndL]; omega, by simp [plainD, plainL, px, py]⟩
  rw [isK_eq]
  have : innD (.tup [.str (wd b), x, y]) = some [x, y] := by cases b <;> simp [innD, innR, wd]
  rw [this]
  rcases h with h | h <;> simp [h]
theorem spoilt_sp (N : Nat) : ∀ {k : Kd} {n : Nat} {S : Store} {w : Nat}, k.dep ≤ N → N + 4 ≤ n → Well S w → ∃ (d : D) (S' : Store), ev n .f__law_spoilt [.loc w, k.d] S = .ok d S' ∧ WS S w S' ∧ Bad d (12 * k.sz + 20) := by
  induction N with
  | zero =>
    intro k n S w hk hn hw
    obtain ⟨m, rfl, h'⟩ := up (d := 3) hn
    obtain ⟨d, S1, e1, w1, b1⟩ := odd_sp (n := m) (k := k) (by omega) hw
    refine ⟨d, S1, ?_, w1, b1.mono (by omega)⟩
    rw [ev]
    show RS.fin (b__law_spoilt (ev m) [some (.loc w), some k.d] S) = _
    have q : U0 (ev m) [some (.loc w), some k.d] S = .rt d S1 := by
      unfold U0
      rw [if_yes (S' := S)]
      · exact ret_go (arg_go (fcons_go (var_go rfl) (fcons_go (var_go rfl) fNil_ap)) e1)
      · refine or_yes ?_
        cases k with
        | base i => exact in_go (s := "base") (by decide +kernel)
        | unit => exact in_go (s := "unit") (by decide +kernel)
        | both a b => simp [Kd.dep] at hk
        | frm a b => simp [Kd.dep] at hk
    rw [Ueq, seq_rt q, fin_rt]
  | succ N ih =>
    intro k n S w hk hn hw
    obtain ⟨m, rfl, h'⟩ := up (d := N + 4) hn
    rcases kd_cases k with ⟨ds, hd, hl, hp, hs⟩ | ⟨b, x, y, rfl⟩
    · exact ih (by omega) (by omega) hw
    · have px := x.sz_pos; have py := y.sz_pos
      have lx : pl x.d = true := lay_kd x
      have ly : pl y.d = true := lay_kd y
      have nx := nd_kd x; have ny := nd_kd y
      have hwd : PyData.strOk (wd b) = true := by cases b <;> simp [wd]
      have hbu : (wd b == Str.ofString "base" || wd b == Str.ofString "unit") = false := by cases b <;> decide
      obtain ⟨r1, S1, e1, a1, b1, w1⟩ := draw_sp (n := m) (S := S) (w := w) (m := 8) (by omega) hw (by omega) (by omega)
      rw [ev]
      show ∃ d S', RS.fin (b__law_spoilt (ev m) [some (.loc w), some (mk2 b x y).d] S) = .ok d S' ∧ WS S w S' ∧ Bad d (12 * (mk2 b x y).sz + 20)
      have ec : fOr (fB (f2 (gIn false) (f2 gIx (fVar 1) (fC (.int 0))) (fArg mkLst (fCons (fC (.str "base")) (fCons (fC (.str "unit")) fNil))))) (fB (f2 gEq (drE (ev m) 0 8) (fC (.int 0)))) [some (.loc w), some (mk2 b x y).d] S = .ok (decide (r1 = 0)) S1 := by
        refine or_go (S1 := S) ?_ (eq0_go (dr_go rfl e1))
        rw [mk2_d, in_go hwd]
        show RE.ok (wd b == Str.ofString "base" || wd b == Str.ofString "unit") S = _
        rw [hbu]
      by_cases h1 : r1 = 0
      · obtain ⟨d, S2, e2, w2, b2⟩ := odd_sp (n := m) (k := mk2 b x y) (by omega) w1.well
        refine ⟨d, S2, ?_, w1.trans w2, b2.mono (by omega)⟩
        have q : U0 (ev m) [some (.loc w), some (mk2 b x y).d] S = .rt d S2 := by
          unfold U0
          rw [if_yes (S' := S1) (by rw [ec, decide_eq_true h1])]
          exact ret_go (arg_go (fcons_go (var_go rfl) (fcons_go (var_go rfl) fNil_ap)) e2)
        rw [Ueq, seq_rt q, fin_rt]
      · have q0 : U0 (ev m) [some (.loc w), some (mk2 b x y).d] S = .nx [some (.loc w), some (mk2 b x y).d] S1 := by
          unfold U0
          exact if_no (by rw [ec, decide_eq_false h1])
        obtain ⟨r2, S2, e2, a2, b2, w2⟩ := draw_sp (n := m) (S := S1) (w := w) (m := 2) (by omega) w1.well (by omega) (by omega)
        rw [mk2_dep] at hk
        have i0 : ∀ T : Store, gIx (.tup [.str (wd b), x.d, y.d]) (.int 0) T = .ok (.str (wd b)) T := fun T => by simp
        have i1 : ∀ T : Store, gIx (.tup [.str (wd b), x.d, y.d]) (.int 1) T = .ok x.d T := fun T => by
          generalize x.d = X; generalize y.d = Y; simp
        have i2 : ∀ T : Store, gIx (.tup [.str (wd b), x.d, y.d]) (.int 2) T = .ok y.d T := fun T => by
          generalize x.d = X; generalize y.d = Y; simp
        by_cases h2 : r2 = 0
        · obtain ⟨d, S3, e3, w3, t3⟩ := ih (k := x) (n := m) (S := S2) (w := w) (by omega) (by omega) w2.well
          refine ⟨.tup [.str (wd b), d, y.d], S3, ?_, (w1.trans w2).trans w3, (bad_pair (b := b) t3.ly ly t3.n ny t3.pn (pln_kd y) (.inl t3.no)).mono (by rw [mk2_sz]; omega)⟩
          have q1 : U1 (ev m) [some (.loc w), some (mk2 b x y).d] S1 = .rt (.tup [.str (wd b), d, y.d]) S3 := by
            unfold U1
            rw [if_yes (S' := S2) (by rw [eq0_go (dr_go rfl e2), decide_eq_true h2]), mk2_d]
            exact ret_go (tup_go (fcons_go (f2_go (var_go rfl) fC_ap (i0 S2)) (fcons_go (arg_go (fcons_go (var_go rfl) (fcons_go (f2_go (var_go rfl) fC_ap (i1 S2)) fNil_ap)) e3) (fcons_go (f2_go (var_go rfl) fC_ap (i2 S3)) fNil_ap))) (by simp))
          rw [Ueq, seq_go q0, seq_rt q1, fin_rt]
        · obtain ⟨d, S3, e3, w3, t3⟩ := ih (k := y) (n := m) (S := S2) (w := w) (by omega) (by omega) w2.well
          refine ⟨.tup [.str (wd b), x.d, d], S3, ?_, (w1.trans w2).trans w3, (bad_pair (b := b) lx t3.ly nx t3.n (pln_kd x) t3.pn (.inr t3.no)).mono (by rw [mk2_sz]; omega)⟩
          have q1 : U1 (ev m) [some (.loc w), some (mk2 b x y).d] S1 = .nx [some (.loc w), some (mk2 b x y).d] S2 := by
            unfold U1
            exact if_no (by rw [eq0_go (dr_go rfl e2), decide_eq_false h2])
          have q2 : U2 (ev m) [some (.loc w), some (mk2 b x y).d] S2 = .rt (.tup [.str (wd b), x.d, d]) S3 := by
            unfold U2
            rw [mk2_d]
            exact ret_go (tup_go (fcons_go (f2_go (var_go rfl) fC_ap (i0 S2)) (fcons_go (f2_go (var_go rfl) fC_ap (i1 S2)) (fcons_go (arg_go (fcons_go (var_go rfl) (fcons_go (f2_go (var_go rfl) fC_ap (i2 S2)) fNil_ap)) e3) fNil_ap))) (by simp))
          rw [Ueq, seq_go q0, seq_go q1, q2, fin_rt]
end Kz
namespace Kz
open PySem PySem.Spec PyProof.Rows L2 Kw
def rowB : D → Bool
  | .tup [.str _, k] => isK k
  | _ => false
def rowN : D → Str
  | .tup [.str s, _] => s
  | _ => ""
theorem metS_mem (acc : List Str) (x y : Str) : y ∈ metS acc x ↔ y ∈ acc ∨ y = x := by
  unfold metS
  by_cases h : x ∈ acc
  · rw [if_pos h]
    exact ⟨.inl, fun z => z.elim id fun e => e ▸ h⟩
  · rw [if_neg h]; simp
theorem onceS_full : ∀ (xs acc : List Str), (xs.foldl metS acc).length = acc.length + xs.length ↔ (xs.Nodup ∧ ∀ x ∈ xs, x ∉ acc)
  | [], acc => by simp
  | x :: xs, acc => by
    rw [List.foldl_cons]
    have le := onceS_acc xs (metS acc x)
    by_cases h : x ∈ acc
    · have e : metS acc x = acc := by unfold metS; rw [if_pos h]
      rw [e] at le ⊢
      constructor
      · intro z; simp only [List.length_cons] at z; omega
      · intro z; exact absurd h (z.2 x List.mem_cons_self)
    · have e : metS acc x = acc ++ [x] := by unfold metS; rw [if_neg h]
      have ih := onceS_full xs (metS acc x)
      have l : (metS acc x).length = acc.length + 1 := by rw [e]; simp
      rw [l] at ih
      rw [List.length_cons, show acc.length + (xs.length + 1) = acc.length + 1 + xs.length by omega, ih, List.nodup_cons]
      constructor
      · rintro ⟨h1, h2⟩
        refine ⟨⟨fun z => h2 x z ((metS_mem _ _ _).mpr (.inr rfl)), h1⟩, fun y hy => ?_⟩
        rcases List.mem_cons.mp hy with rfl | hy
        · exact h
        · exact fun z => h2 y hy ((metS_mem _ _ _).mpr (.inl z))
      · rintro ⟨⟨h1, h2⟩, h3⟩
        refine ⟨h2, fun y hy z => ?_⟩
        rcases (metS_mem _ _ _).mp z with z | rfl
        · exact h3 y (List.mem_cons_of_mem _ hy) z
        · exact h1 hy
theorem onceS_nodup (xs : List Str) : ((onceS xs).length : Int) = (xs.length : Int) ↔ xs.Nodup := by
  have := onceS_full xs []
  simp only [List.length_nil, Nat.zero_add, List.not_mem_nil, not_false_eq_true, implies_true, and_true] at this
  rw [← this]
  unfold onceS
  omega
theorem textsOf_str : ∀ xs : List Str, textsOf (xs.map D.str) = some xs
  | [] => rfl
  | x :: xs => by simp [textsOf, textsOf_str xs]
theorem row_go {m : Nat} (h : 3 ≤ m) {d : D} (l : lay d) (hn : nd d ≤ 8000000) {S : Store} {x0 x2 x3 x4 : Option D} : l_is_library_0 (ev m) [x0, some d, x2, x3, x4] S = if rowB d = true then .nx [x0, some d, x2, x3, x4] S else .rt (.bl false) S := by
  rw [l_is_library_0]
  by_cases ht : ∃ ds, d = .tup ds
  · obtain ⟨ds, rfl⟩ := ht
    match ds, l, hn with
    | [], _, _ => simp [rowB]
    | [a], _, _ => simp [rowB]
    | a :: b :: c :: r, _, _ =>
      have e : ((r.length : Int) + 1 + 1 + 1 == 2) = false := by rw [beq_eq_false_iff_ne]; omega
      have e' : ¬ (r.length : Int) + 1 + 1 + 1 = 2 := by omega
      simp [rowB, e, e']
    | [a, b], l, hn =>
      have ll := lay_tup l
      rw [layL_cons, layL_cons] at ll
      by_cases hs : ∃ s, a = .str s
      · obtain ⟨s, rfl⟩ := hs
        have hb : nd b ≤ 8000000 := by simp only [nd, ndL] at hn; omega
        have e := is_kind_gen (n := m) (S := S) h hb ll.2.1
        cases hk : isK b <;> rw [hk] at e <;> simp [rowB, hk, e]
      · have hs' : ∀ s, a ≠ .str s := fun s z => hs ⟨s, z⟩
        have e := isi_nostr (S := S) ll.1 hs'
        have e2 : rowB (.tup [a, b]) = false := by
          unfold rowB
          split
          · rename_i hh; cases hh; exact absurd rfl (hs' _)
          · rfl
        simp [e, e2]
  · have ht' : ∀ ds, d ≠ .tup ds := fun ds z => ht ⟨ds, z⟩
    have e := isi_notup (S := S) l ht'
    have e2 : rowB d = false := by
      unfold rowB
      split
      · exact absurd rfl (ht' _)
      · rfl
    simp [e, e2]
theorem lib_loop {m : Nat} (h : 3 ≤ m) {S : Store} {x0 x2 x3 x4 : Option D} : ∀ (ds : List D) (x1 : Option D), layL ds → (∀ d ∈ ds, nd d ≤ 8000000) →
    forL (gN 1) (l_is_library_0 (ev m)) none ds [x0, x1, x2, x3, x4] S = if ds.all rowB = true then .nx [x0, (ds.getLast?).or x1, x2, x3, x4] S else .rt (.bl false) S
  | [], x1, _, _ => by simp
  | d :: ds, x1, l, hn => by
    rw [layL_cons] at l
    have e := row_go h l.1 (hn d List.mem_cons_self) (S := S) (x0 := x0) (x2 := x2) (x3 := x3) (x4 := x4)
    have ih := lib_loop h (S := S) (x0 := x0) (x2 := x2) (x3 := x3) (x4 := x4) ds (some d) l.2 fun y hy => hn y (List.mem_cons_of_mem _ hy)
    rw [forL_cons, gN_ap, tgR_some]
    show loopR _ (l_is_library_0 (ev m) [x0, some d, x2, x3, x4] S) = _
    rw [e]
    by_cases hb : rowB d = true
    · rw [if_pos hb, loopR_nx, ih]
      have e3 : (d :: ds).all rowB = ds.all rowB := by simp [hb]
      rw [e3]
      have e4 : ((d :: ds).getLast?).or x1 = (ds.getLast?).or (some d) := by
        cases ds with
        | nil => simp
        | cons a r =>
          rw [List.getLast?_cons_cons]
          cases hh : (a :: r).getLast? with
          | none => simp at hh
          | some y => simp
      rw [e4]
    · rw [if_neg hb]
      have e3 : (d :: ds).all rowB = false := by simp [hb]
      rw [e3]; simp
theorem rowB_at {d : D} (h : rowB d = true) : ∃ s k, d = .tup [.str s, k] ∧ isK k = true := by
  unfold rowB at h
  split at h
  · exact ⟨_, _, rfl, h⟩
  · cases h
theorem is_library_lst {n : Nat} (h : 4 ≤ n) {ds : List D} (l : layL ds) (hn : ∀ d ∈ ds, nd d ≤ 8000000) (hl : ds.length ≤ 1000) {S : Store} : ev n .f_is_library [.lst ds] S = .ok (.bl (ds.all rowB && decide (ds.map rowN).Nodup)) S := by
  have h8 : sizeLine = 16777216 := rfl
  obtain ⟨m, rfl, h'⟩ := up (d := 3) h
  have e := lib_loop h' (S := S) (x0 := some (.lst ds)) (x2 := none) (x3 := none) (x4 := none) ds none l hn
  by_cases hb : ds.all rowB = true
  · rw [if_pos hb] at e
    have hc := compL_of (tg := gTu 2 (gsCons (gN 3) (gsCons (gN 4) gsNil))) (tt := fYes) (te := fVar 3) (ρ := [some (.lst ds), (ds.getLast?).or none, none, none, none]) (S := S) id (fun d => .str (rowN d)) ds [] (fun d hd => by
      obtain ⟨s, k, rfl, hk⟩ := rowB_at (List.all_eq_true.mp hb d hd)
      exact ⟨[some (.lst ds), (ds.getLast?).or none, none, some (.str s), some k], by simp, rfl, by simp [rowN]⟩) (by rw [h8]; simp; omega)
    rw [List.map_id, List.nil_append] at hc
    have e2 : ds.map (fun d => D.str (rowN d)) = (ds.map rowN).map D.str := by rw [List.map_map]; rfl
    rw [e2] at hc
    have e3 : gLenSet (.lst ((ds.map rowN).map D.str)) S = .ok (.int ((onceS (ds.map rowN)).length : Int)) S := by
      unfold gLenSet
      have : seqL S (.lst ((ds.map rowN).map D.str)) = some ((ds.map rowN).map D.str) := rfl
      simp only [this, textsOf_str]
      rw [if_pos (by simp; omega)]
    have e4 := onceS_nodup (ds.map rowN)
    have e5 : ((((onceS (ds.map rowN)).length : Nat) : Int) == (((ds.map rowN).length : Nat) : Int)) = decide (ds.map rowN).Nodup := by
      rw [Bool.eq_iff_iff, beq_iff_eq, decide_eq_true_eq, e4]
    have e6 : ((((ds.map rowN).map D.str).length : Nat) : Int) = (((ds.map rowN).length : Nat) : Int) := by simp
    rw [hb, Bool.true_and, ← e5]
    rw [ev, b_is_library]
    generalize ((onceS (ds.map rowN)).length : Int) = V at *
    generalize ((ds.map rowN).length : Int) = V2 at *
    generalize (ds.map rowN).map D.str = N at *
    generalize (ds.getLast?).or none = G at *
    simp [e, wipeR, hc, e3, e6]
  · rw [if_neg hb] at e
    have e1 : ds.all rowB = false := by simpa using hb
    rw [ev, b_is_library, e1]
    simp [e]
end Kz
namespace Kw
open PySem PySem.Spec PyProof.Rows L2
noncomputable def tryCR (es : List Str) (cs : List ClF) (r : RS) : RS := match r with
  | .ex x ρ' S' => if x.cls ∈ es ∧ x.ns = [] then clsR x ρ' S' cs else .no
  | r => r
theorem sTryC_ap {es : List Str} {cs : List ClF} {b : FS} {ρ : FEnv} {S : Store} : sTryC es cs b ρ S = tryCR es cs (b ρ S) := by
  unfold sTryC tryCR
  cases b ρ S <;> rfl
section
variable {es : List Str} {cs : List ClF} {sub : Str → Bool} {o : Option Nat} {i : Nat} {c : Str → Addr → FS} {ρ : FEnv} {S : Store} {d : D} {y : Str} {r : RS}
@[simp] theorem tryCR_rt : tryCR es cs (.rt d S) = .rt d S := rfl
@[simp] theorem tryCR_nx : tryCR es cs (.nx ρ S) = .nx ρ S := rfl
theorem tryCR_ex (hy : y ∈ es) (h : clsR ⟨y, [], []⟩ ρ S cs = r) : tryCR es cs (.ex ⟨y, [], []⟩ ρ S) = r := by
  show (if y ∈ es ∧ ([] : List Str) = [] then _ else _) = _
  rw [if_pos ⟨hy, rfl⟩, h]
theorem clsR_hit (hs : sub y = true) (h : ∀ a, clRun o (c y) ρ S a = r) : clsR ⟨y, [], []⟩ ρ S ((sub, o, c) :: cs) = r := by
  unfold clsR
  rw [if_pos hs]
  exact aInd_eq h
theorem clsR_miss (hs : sub y = false) : clsR ⟨y, [], []⟩ ρ S ((sub, o, c) :: cs) = clsR ⟨y, [], []⟩ ρ S cs := by
  conv => lhs; unfold clsR
  rw [if_neg (by rw [hs]; exact Bool.noConfusion)]
end
end Kw
namespace Kz
open PySem PySem.Spec PyProof.Rows L2 Kw
theorem dep_sz : ∀ k : Kd, k.dep ≤ k.sz
  | .base _ => by simp [Kd.dep]
  | .unit => by simp [Kd.dep]
  | .both a b => by have := dep_sz a; have := dep_sz b; simp [Kd.dep, Kd.sz]; omega
  | .frm a b => by have := dep_sz a; have := dep_sz b; simp [Kd.dep, Kd.sz]; omega
abbrev nok : Ex := ⟨"NoKind", [], []⟩
abbrev nolib : Ex := ⟨"NoLibrary", [], []⟩
theorem exp_ex {f : FE} {ρ : FEnv} {S S1 : Store} {x : Ex} (h : f ρ S = .ex x S1) : sExp f ρ S = .ex x ρ S1 := by rw [sExp_ap, h]; rfl
theorem seq_ex {a b : FS} {ρ ρ' : FEnv} {S S' : Store} {x : Ex} (h : a ρ S = .ex x ρ' S') : sSeq a b ρ S = .ex x ρ' S' := by rw [sSeq_ap, h]; rfl
theorem cut_nok {S : Store} {x : Ex} (h : x.ds = []) : cutR S (.ex x S) = .ex x S := by
  have e : underL S.length x.ds = true := by rw [h]; rfl
  have := cut_ex (S := S) (e := x) [] e
  rw [List.append_nil] at this
  exact this
section
variable {m i : Nat} {ρ : FEnv} {S : Store} {d : D} {N : Nat}
theorem sure_ex {n : Nat} (h : 4 ≤ n) (b : Bad d N) (hN : N ≤ 8000000) : ev n .f_sure_kind [d] S = .ex nok S := sure_kind_bad h (Nat.le_trans b.n hN) b.ly b.no
theorem s_ex (h : 4 ≤ m) (b : Bad d N) (hN : N ≤ 8000000) (hv : ρ[i]? = some (some d)) : sExp (fArg (ev m .f_sure_kind) (fCons (fVar i) fNil)) ρ S = .ex nok ρ S := exp_ex (arg_go (fcons_go (var_go hv) fNil_ap) (sure_ex h b hN))
theorem s_ok {k : Kd} (h : 4 ≤ m) (hk : k.sz ≤ 1000) (hv : ρ[i]? = some (some k.d)) : sExp (fArg (ev m .f_sure_kind) (fCons (fVar i) fNil)) ρ S = .nx ρ S := exp_go (arg_go (fcons_go (var_go hv) fNil_ap) (sure_kind_kd h (by omega)))
end
section
variable {n : Nat} {S : Store} {b : D} {N : Nat} {g : Kd} {y z u : D}
theorem kt_ex (h : 6 ≤ n) (hb : Bad b N) (hN : N ≤ 8000000) : ev n .f_kind_text [b] S = .ex nok S := by
  obtain ⟨m, rfl, h'⟩ := up h
  rw [ev]; show RS.fin (sSeq _ _ [some b] S) = _
  rw [seq_ex (s_ex (by omega) hb hN rfl), fin_ex]
theorem form_ex (h : 6 ≤ n) (hb : Bad b N) (hN : N ≤ 8000000) : ev n .f_form [b] S = .ex nok S := by
  obtain ⟨m, rfl, h'⟩ := up h
  rw [ev]; show RS.fin (sSeq _ _ [some b] S) = _
  rw [seq_ex (s_ex (by omega) hb hN rfl), fin_ex]
theorem many_ex (h : 6 ≤ n) (hb : Bad b N) (hN : N ≤ 8000000) : ev n .f_many [b, y] S = .ex nok S := by
  obtain ⟨m, rfl, h'⟩ := up h
  rw [ev, fnB]
  simp only [List.length_cons, List.length_nil, if_true]
  show RS.fin (sSeq _ _ _ S) = _
  rw [seq_ex (s_ex (by omega) hb hN rfl), fin_ex]
theorem rest_ex (h : 6 ≤ n) (hb : Bad b N) (hN : N ≤ 8000000) : ev n .f_rest [b, y, z] S = .ex nok S := by
  obtain ⟨m, rfl, h'⟩ := up h
  rw [ev, fnB]
  simp only [List.length_cons, List.length_nil, if_true]
  show RS.fin (sSeq _ _ _ S) = _
  rw [seq_ex (s_ex (by omega) hb hN rfl), fin_ex]
theorem worths_ex (h : 6 ≤ n) (hb : Bad b N) (hN : N ≤ 8000000) : ev n .f_worths [b, y] S = .ex nok S := by
  obtain ⟨m, rfl, h'⟩ := up h
  rw [ev, fnB]
  simp only [List.length_cons, List.length_nil, if_true]
  show RS.fin (sSeq _ _ _ S) = _
  rw [seq_ex (s_ex (by omega) hb hN rfl), fin_ex]
theorem isw_ex (h : 6 ≤ n) (hb : Bad b N) (hN : N ≤ 8000000) : ev n .f_is_worth [b, y, z] S = .ex nok S := by
  obtain ⟨m, rfl, h'⟩ := up h
  rw [ev, fnB]
  simp only [List.length_cons, List.length_nil, if_true]
  show RS.fin (sSeq _ _ _ S) = _
  rw [seq_ex (s_ex (by omega) hb hN rfl), fin_ex]
theorem af_ex1 (h : 6 ≤ n) (hb : Bad b N) (hN : N ≤ 8000000) : ev n .f_apart_fault [b, y, z] S = .ex nok S := by
  obtain ⟨m, rfl, h'⟩ := up h
  rw [ev, fnB]
  simp only [List.length_cons, List.length_nil, if_true]
  show RS.fin (sSeq _ _ _ S) = _
  rw [seq_ex (s_ex (by omega) hb hN rfl), fin_ex]
theorem af_ex2 (h : 6 ≤ n) (hg : g.sz ≤ 1000) (hb : Bad b N) (hN : N ≤ 8000000) : ev n .f_apart_fault [g.d, b, z] S = .ex nok S := by
  obtain ⟨m, rfl, h'⟩ := up h
  rw [ev, fnB]
  simp only [List.length_cons, List.length_nil, if_true]
  show RS.fin (sSeq _ (sSeq _ _) _ S) = _
  rw [seq_go (s_ok (by omega) hg rfl), seq_ex (s_ex (by omega) hb hN rfl), fin_ex]
theorem tf_ex1 (h : 6 ≤ n) (hb : Bad b N) (hN : N ≤ 8000000) : ev n .f_turn_fault [b, y, z, u] S = .ex nok S := by
  obtain ⟨m, rfl, h'⟩ := up h
  rw [ev, fnB]
  simp only [List.length_cons, List.length_nil, if_true]
  show RS.fin (sSeq _ _ _ S) = _
  rw [seq_ex (s_ex (by omega) hb hN rfl), fin_ex]
theorem tf_ex2 (h : 6 ≤ n) (hg : g.sz ≤ 1000) (hb : Bad b N) (hN : N ≤ 8000000) : ev n .f_turn_fault [g.d, b, z, u] S = .ex nok S := by
  obtain ⟨m, rfl, h'⟩ := up h
  rw [ev, fnB]
  simp only [List.length_cons, List.length_nil, if_true]
  show RS.fin (sSeq _ (sSeq _ _) _ S) = _
  rw [seq_go (s_ok (by omega) hg rfl), seq_ex (s_ex (by omega) hb hN rfl), fin_ex]
theorem search_ex (h : 6 ≤ n) (hb : Bad b N) (hN : N ≤ 8000000) : ev n .f_search [y, b] S = .ex nok S := by
  obtain ⟨m, rfl, h'⟩ := up h
  rw [ev, fnC_ap, fnB]
  simp only [List.length_cons, List.length_nil, if_true]
  have e : RS.fin (b_search (ev m) ([y, b].map some ++ List.replicate (7 - 2) none) S) = .ex nok S := by
    show RS.fin (sSeq _ _ _ S) = _
    rw [seq_ex (s_ex (by omega) hb hN rfl), fin_ex]
  rw [e]
  exact cut_nok rfl
theorem sf_ex (h : 6 ≤ n) (hb : Bad b N) (hN : N ≤ 8000000) : ev n .f_search_fault [y, b, z, u] S = .ex nok S := by
  obtain ⟨m, rfl, h'⟩ := up h
  rw [ev, fnB]
  simp only [List.length_cons, List.length_nil, if_true]
  show RS.fin (sSeq _ _ _ S) = _
  rw [seq_ex (s_ex (by omega) hb hN rfl), fin_ex]
/-- alike: either way -/
theorem alike_ex1 (h : 8 ≤ n) (hb : Bad b N) (hN : N ≤ 8000000) : ev n .f_alike [b, y] S = .ex nok S := by
  obtain ⟨m, rfl, h'⟩ := up h
  rw [ev, fnB]
  simp only [List.length_cons, List.length_nil, if_true]
  show RS.fin (sRet _ _ S) = _
  have e : fArg (ev m .f_form) (fCons (fVar 0) fNil) [some b, some y] S = .ex nok S := arg_go (fcons_go (var_go rfl) fNil_ap) (form_ex (by omega) hb hN)
  rw [sRet_ap, f2_ap]
  show RS.fin (((fArg (ev m .f_form) (fCons (fVar 0) fNil) [some b, some y] S).bnd _).toS _ _) = _
  rw [e]; rfl
theorem alike_ex2 (h : 30 ≤ n) (t1 : Tab1 S) (hg : g.sz ≤ 3) (hb : Bad b N) (hN : N ≤ 8000000) : ev n .f_alike [g.d, b] S = .ex nok S := by
  obtain ⟨m, rfl, h'⟩ := up h
  rw [ev, fnB]
  simp only [List.length_cons, List.length_nil, if_true]
  show RS.fin (sRet _ _ S) = _
  have d1 := dep_sz g
  have d2 := rk_dep g
  have e1 : fArg (ev m .f_form) (fCons (fVar 0) fNil) [some g.d, some b] S = .ok (.lst (dFL (nf g))) S := arg_go (fcons_go (var_go rfl) fNil_ap) (form_ok t1 (by omega) (by omega) (by omega) (by omega))
  have e2 : fArg (ev m .f_form) (fCons (fVar 1) fNil) [some g.d, some b] S = .ex nok S := arg_go (fcons_go (var_go rfl) fNil_ap) (form_ex (by omega) hb hN)
  rw [sRet_ap, f2_ap]
  show RS.fin (((fArg (ev m .f_form) (fCons (fVar 0) fNil) [some g.d, some b] S).bnd _).toS _ _) = _
  rw [e1, bnd_ok]
  show RS.fin (((fArg (ev m .f_form) (fCons (fVar 1) fNil) [some g.d, some b] S).bnd _).toS _ _) = _
  rw [e2]; rfl
theorem apart_ex {x : D} (h : 1 ≤ n) (e : ev (n - 1) .f_alike [x, y] S = .ex nok S) : ev n .f_apart [x, y] S = .ex nok S := by
  obtain ⟨m, rfl, h'⟩ := up h
  rw [Nat.add_sub_cancel] at e
  rw [ev, fnB]
  simp only [List.length_cons, List.length_nil, if_true]
  show RS.fin (sSeq (sIf _ _ _) _ _ S) = _
  have e1 : fArg (ev m .f_alike) (fCons (fVar 0) (fCons (fVar 1) fNil)) [some x, some y, none, none, none] S = .ex nok S := arg_go (fcons_go (var_go rfl) (fcons_go (var_go rfl) fNil_ap)) e
  rw [seq_ex (ρ' := [some x, some y, none, none, none]) (S' := S) (x := nok)]
  · rfl
  · show sIf _ _ _ [some x, some y, none, none, none] S = _
    rw [sIf_ap, fTru_ap, e1]; rfl
theorem turner_ex {x : D} (h : 1 ≤ n) (e : ev (n - 1) .f_alike [x, y] S = .ex nok S) : ev n .f_turner [x, y] S = .ex nok S := by
  obtain ⟨m, rfl, h'⟩ := up h
  rw [Nat.add_sub_cancel] at e
  rw [ev, fnB]
  simp only [List.length_cons, List.length_nil, if_true]
  show RS.fin (sSeq (sIf _ _ _) _ _ S) = _
  have e1 : fArg (ev m .f_alike) (fCons (fVar 0) (fCons (fVar 1) fNil)) [some x, some y] S = .ex nok S := arg_go (fcons_go (var_go rfl) (fcons_go (var_go rfl) fNil_ap)) e
  rw [seq_ex (ρ' := [some x, some y]) (S' := S) (x := nok)]
  · rfl
  · show sIf _ _ _ [some x, some y] S = _
    rw [sIf_ap, fNot_ap, fTru_ap, e1]; rfl
end
end Kz
namespace Kz
open PySem PySem.Spec PyProof.Rows L2 Kw
theorem word_kind {act : FE} {x : Option D} {S : Store} (h : act [x, some (.str "none"), none] S = .ex nok S) : (b__law_word act [x, none, none] S).fin = .ok (.str "kind") S := by
  have ht : sTryC excs [((fun y => isx y "NoKind"), some 2, (fun y a => (sSet 1 (f2 gIx (fArg mkLst (fCons (fC (.str "kind")) (fCons (fC (.str "both")) fNil))) (fArg gInt (fCons (fIsE a (isx y "NoLibrary") (fVar 2)) fNil)))))), ((fun y => isx y "NoLibrary"), none, (fun y a => (sSet 1 (fC (.str "library"))))), ((fun y => isx y "SwapError"), none, (fun y a => (sSet 1 (fC (.str "other")))))] (sExp act) [x, some (.str "none"), none] S = .nx [x, some (.str "kind"), none] S := by
    rw [sTryC_ap, exp_ex h]
    refine tryCR_ex (by decide +kernel) (clsR_hit (by decide +kernel) fun a => ?_)
    have e : isx "NoKind" "NoLibrary" = false := by decide +kernel
    have q : (sSet 1 (f2 gIx (fArg mkLst (fCons (fC (.str "kind")) (fCons (fC (.str "both")) fNil))) (fArg gInt (fCons (fIsE a (isx "NoKind" "NoLibrary") (fVar 2)) fNil)))) [x, some (.str "none"), some (.exn a)] S = .nx [x, some (.str "kind"), some (.exn a)] S := by
      rw [e]
      refine set_go (f2_go (lst_go (fcons_go fC_ap (fcons_go fC_ap fNil_ap)) (by simp)) (arg_go (fcons_go (fIsE_ap rfl) fNil_ap) (show gInt [.bl false] S = .ok (.int 0) S from rfl)) ?_)
      simp
    show RS.noX (RS.clr 2 ((sSet 1 (f2 gIx (fArg mkLst (fCons (fC (.str "kind")) (fCons (fC (.str "both")) fNil))) (fArg gInt (fCons (fIsE a (isx "NoKind" "NoLibrary") (fVar 2)) fNil)))) [x, some (.str "none"), some (.exn a)] S)) = _
    rw [q]
    rfl
  have q0 : sSet 1 (fC (.str "none")) [x, none, none] S = .nx [x, some (.str "none"), none] S := rfl
  rw [b__law_word, seq_go q0, seq_go ht, ret_go (var_go rfl), fin_rt]
theorem word_lib {act : FE} {x : Option D} {S : Store} (h : act [x, some (.str "none"), none] S = .ex nolib S) : (b__law_word act [x, none, none] S).fin = .ok (.str "library") S := by
  have ht : sTryC excs [((fun y => isx y "NoKind"), some 2, (fun y a => (sSet 1 (f2 gIx (fArg mkLst (fCons (fC (.str "kind")) (fCons (fC (.str "both")) fNil))) (fArg gInt (fCons (fIsE a (isx y "NoLibrary") (fVar 2)) fNil)))))), ((fun y => isx y "NoLibrary"), none, (fun y a => (sSet 1 (fC (.str "library"))))), ((fun y => isx y "SwapError"), none, (fun y a => (sSet 1 (fC (.str "other")))))] (sExp act) [x, some (.str "none"), none] S = .nx [x, some (.str "library"), none] S := by
    rw [sTryC_ap, exp_ex h]
    refine tryCR_ex (by decide +kernel) ?_
    rw [clsR_miss (by decide +kernel)]
    refine clsR_hit (by decide +kernel) fun a => ?_
    rfl
  have q0 : sSet 1 (fC (.str "none")) [x, none, none] S = .nx [x, some (.str "none"), none] S := rfl
  rw [b__law_word, seq_go q0, seq_go ht, ret_go (var_go rfl), fin_rt]
theorem actC_ex {q : Str} {tbs : List LC} {i : Nat} {t : LC} {ds : List D} {y z : Option D} {S : Store} (hi : tbs[i]? = some t) (hl : ds.length = t.m) (hp : plainL ds = true) (hS : plainS S = true) (h : t.tb (ds.map some ++ List.replicate (t.n - ds.length) none) S = .ex nok S) :
    fActC q tbs [some (.clo i q t.ob t.as ds), y, z] S = .ex nok S := by
  unfold fActC
  simp only [List.getElem?_cons_zero, hi]
  rw [if_pos ⟨trivial, trivial, trivial, hl, hp, hS⟩, h]
  rfl
abbrev CA : Addr → List Addr := celAs (defScope s__law_asks).names (List.take 7 ["_law_bad", "_law_good", "_law_odd_here", "_law_sizes", "_law_by", "_law_term", "_law_library", "_law_found"])
theorem lcs_at {m : Nat} {b od sz by_ tm lb : D} {g : Kd} {N : Nat} {S : Store} (hm : 40 ≤ m) (t1 : Tab1 S) (hb : Bad b N) (hN : N ≤ 8000000) (hg : g.sz ≤ 3) {i : Nat} (hi : i < 18) :
    ∃ t : LC, (lcs__law_asks (ev m))[i]? = some t ∧ t.ob = ob__law_asks i ∧ t.as = CA ∧ t.n = 8 ∧ t.m = 7 ∧ t.tb [some b, some g.d, some od, some sz, some by_, some tm, some lb, none] S = .ex nok S := by
  have a1 : ∀ y, ev m .f_alike [b, y] S = .ex nok S := fun y => alike_ex1 (by omega) hb hN
  have a2 : ev m .f_alike [g.d, b] S = .ex nok S := alike_ex2 (by omega) t1 hg hb hN
  have c1 : ∀ y, ev (m - 1) .f_alike [b, y] S = .ex nok S := fun y => alike_ex1 (by omega) hb hN
  have c2 : ev (m - 1) .f_alike [g.d, b] S = .ex nok S := alike_ex2 (by omega) t1 hg hb hN
  have hh : i = 0 ∨ i = 1 ∨ i = 2 ∨ i = 3 ∨ i = 4 ∨ i = 5 ∨ i = 6 ∨ i = 7 ∨ i = 8 ∨ i = 9 ∨ i = 10 ∨ i = 11 ∨ i = 12 ∨ i = 13 ∨ i = 14 ∨ i = 15 ∨ i = 16 ∨ i = 17 := by omega
  have v0 : ∀ {r : List (Option D)} {x : D}, fVar 0 (some x :: r) S = .ok x S := fun {r x} => var_go rfl
  rcases hh with h | h | h | h | h | h | h | h | h | h | h | h | h | h | h | h | h | h <;> subst h
  · refine ⟨_, rfl, rfl, rfl, rfl, rfl, ?_⟩
    show (fArg (ev m .f_kind_text) (fCons (fVar 0) fNil)) [some b, some g.d, some od, some sz, some by_, some tm, some lb, none] S = _
    exact arg_go (fcons_go (var_go rfl) fNil_ap) (kt_ex (by omega) hb hN)
  · refine ⟨_, rfl, rfl, rfl, rfl, rfl, ?_⟩
    show (fArg (ev m .f_form) (fCons (fVar 0) fNil)) [some b, some g.d, some od, some sz, some by_, some tm, some lb, none] S = _
    exact arg_go (fcons_go (var_go rfl) fNil_ap) (form_ex (by omega) hb hN)
  · refine ⟨_, rfl, rfl, rfl, rfl, rfl, ?_⟩
    show (fArg (ev m .f_alike) (fCons (fVar 0) (fCons (fVar 1) fNil))) [some b, some g.d, some od, some sz, some by_, some tm, some lb, none] S = _
    exact arg_go (fcons_go (var_go rfl) (fcons_go (var_go rfl) fNil_ap)) (a1 _)
  · refine ⟨_, rfl, rfl, rfl, rfl, rfl, ?_⟩
    show (fArg (ev m .f_alike) (fCons (fVar 1) (fCons (fVar 0) fNil))) [some b, some g.d, some od, some sz, some by_, some tm, some lb, none] S = _
    exact arg_go (fcons_go (var_go rfl) (fcons_go (var_go rfl) fNil_ap)) a2
  · refine ⟨_, rfl, rfl, rfl, rfl, rfl, ?_⟩
    show (fArg (ev m .f_many) (fCons (fVar 0) (fCons (fVar 3) fNil))) [some b, some g.d, some od, some sz, some by_, some tm, some lb, none] S = _
    exact arg_go (fcons_go (var_go rfl) (fcons_go (var_go rfl) fNil_ap)) (many_ex (by omega) hb hN)
  · refine ⟨_, rfl, rfl, rfl, rfl, rfl, ?_⟩
    show (fArg (ev m .f_rest) (fCons (fVar 0) (fCons (fVar 3) (fCons (fVar 4) fNil)))) [some b, some g.d, some od, some sz, some by_, some tm, some lb, none] S = _
    exact arg_go (fcons_go (var_go rfl) (fcons_go (var_go rfl) (fcons_go (var_go rfl) fNil_ap))) (rest_ex (by omega) hb hN)
  · refine ⟨_, rfl, rfl, rfl, rfl, rfl, ?_⟩
    show (fArg (ev m .f_apart) (fCons (fVar 0) (fCons (fVar 1) fNil))) [some b, some g.d, some od, some sz, some by_, some tm, some lb, none] S = _
    exact arg_go (fcons_go (var_go rfl) (fcons_go (var_go rfl) fNil_ap)) (apart_ex (by omega) (c1 _))
  · refine ⟨_, rfl, rfl, rfl, rfl, rfl, ?_⟩
    show (fArg (ev m .f_apart) (fCons (fVar 1) (fCons (fVar 0) fNil))) [some b, some g.d, some od, some sz, some by_, some tm, some lb, none] S = _
    exact arg_go (fcons_go (var_go rfl) (fcons_go (var_go rfl) fNil_ap)) (apart_ex (by omega) c2)
  · refine ⟨_, rfl, rfl, rfl, rfl, rfl, ?_⟩
    show (fArg (ev m .f_apart_fault) (fCons (fVar 0) (fCons (fVar 1) (fCons (fVar 2) fNil)))) [some b, some g.d, some od, some sz, some by_, some tm, some lb, none] S = _
    exact arg_go (fcons_go (var_go rfl) (fcons_go (var_go rfl) (fcons_go (var_go rfl) fNil_ap))) (af_ex1 (by omega) hb hN)
  · refine ⟨_, rfl, rfl, rfl, rfl, rfl, ?_⟩
    show (fArg (ev m .f_apart_fault) (fCons (fVar 1) (fCons (fVar 0) (fCons (fVar 2) fNil)))) [some b, some g.d, some od, some sz, some by_, some tm, some lb, none] S = _
    exact arg_go (fcons_go (var_go rfl) (fcons_go (var_go rfl) (fcons_go (var_go rfl) fNil_ap))) (af_ex2 (by omega) (by omega) hb hN)
  · refine ⟨_, rfl, rfl, rfl, rfl, rfl, ?_⟩
    show (fArg (ev m .f_worths) (fCons (fVar 0) (fCons (fVar 3) fNil))) [some b, some g.d, some od, some sz, some by_, some tm, some lb, none] S = _
    exact arg_go (fcons_go (var_go rfl) (fcons_go (var_go rfl) fNil_ap)) (worths_ex (by omega) hb hN)
  · refine ⟨_, rfl, rfl, rfl, rfl, rfl, ?_⟩
    show (fArg (ev m .f_is_worth) (fCons (fVar 0) (fCons (fVar 3) (fCons (fC (.int 0)) fNil)))) [some b, some g.d, some od, some sz, some by_, some tm, some lb, none] S = _
    exact arg_go (fcons_go (var_go rfl) (fcons_go (var_go rfl) (fcons_go fC_ap fNil_ap))) (isw_ex (by omega) hb hN)
  · refine ⟨_, rfl, rfl, rfl, rfl, rfl, ?_⟩
    show (fArg (ev m .f_turner) (fCons (fVar 0) (fCons (fVar 1) fNil))) [some b, some g.d, some od, some sz, some by_, some tm, some lb, none] S = _
    exact arg_go (fcons_go (var_go rfl) (fcons_go (var_go rfl) fNil_ap)) (turner_ex (by omega) (c1 _))
  · refine ⟨_, rfl, rfl, rfl, rfl, rfl, ?_⟩
    show (fArg (ev m .f_turner) (fCons (fVar 1) (fCons (fVar 0) fNil))) [some b, some g.d, some od, some sz, some by_, some tm, some lb, none] S = _
    exact arg_go (fcons_go (var_go rfl) (fcons_go (var_go rfl) fNil_ap)) (turner_ex (by omega) c2)
  · refine ⟨_, rfl, rfl, rfl, rfl, rfl, ?_⟩
    show (fArg (ev m .f_turn_fault) (fCons (fVar 0) (fCons (fVar 1) (fCons (fVar 5) (fCons (fVar 5) fNil))))) [some b, some g.d, some od, some sz, some by_, some tm, some lb, none] S = _
    exact arg_go (fcons_go (var_go rfl) (fcons_go (var_go rfl) (fcons_go (var_go rfl) (fcons_go (var_go rfl) fNil_ap)))) (tf_ex1 (by omega) hb hN)
  · refine ⟨_, rfl, rfl, rfl, rfl, rfl, ?_⟩
    show (fArg (ev m .f_turn_fault) (fCons (fVar 1) (fCons (fVar 0) (fCons (fVar 5) (fCons (fVar 5) fNil))))) [some b, some g.d, some od, some sz, some by_, some tm, some lb, none] S = _
    exact arg_go (fcons_go (var_go rfl) (fcons_go (var_go rfl) (fcons_go (var_go rfl) (fcons_go (var_go rfl) fNil_ap)))) (tf_ex2 (by omega) (by omega) hb hN)
  · refine ⟨_, rfl, rfl, rfl, rfl, rfl, ?_⟩
    show (fArg (ev m .f_search) (fCons (fVar 6) (fCons (fVar 0) fNil))) [some b, some g.d, some od, some sz, some by_, some tm, some lb, none] S = _
    exact arg_go (fcons_go (var_go rfl) (fcons_go (var_go rfl) fNil_ap)) (search_ex (by omega) hb hN)
  · refine ⟨_, rfl, rfl, rfl, rfl, rfl, ?_⟩
    show (fArg (ev m .f_search_fault) (fCons (fVar 6) (fCons (fVar 0) (fCons (fC (.str "x")) (fCons (fVar 2) fNil))))) [some b, some g.d, some od, some sz, some by_, some tm, some lb, none] S = _
    exact arg_go (fcons_go (var_go rfl) (fcons_go (var_go rfl) (fcons_go fC_ap (fcons_go (var_go rfl) fNil_ap)))) (sf_ex (by omega) hb hN)
theorem clo_word {n : Nat} {b od sz by_ tm lb : D} {g : Kd} {N : Nat} {S : Store} (hn : 45 ≤ n) (t1 : Tab1 S) (hS : plainS S = true) (hb : Bad b N) (hN : N ≤ 8000000) (hg : g.sz ≤ 3) (ho : plainL [od, sz, by_, tm, lb] = true) {i : Nat} (hi : i < 18) :
    ev n .f__law_word [.clo i (tabQ "_law_asks") (ob__law_asks i) CA [b, g.d, od, sz, by_, tm, lb]] S = .ok (.str "kind") S := by
  obtain ⟨m, rfl⟩ : ∃ m, n = m + 2 := ⟨n - 2, by omega⟩
  obtain ⟨t, h1, h2, h3, h4, h5, h6⟩ := lcs_at (m := m) (od := od) (sz := sz) (by_ := by_) (tm := tm) (lb := lb) (by omega) t1 hb hN hg hi
  have hp : plainL [b, g.d, od, sz, by_, tm, lb] = true := by
    have e : plainL [b, g.d, od, sz, by_, tm, lb] = (plainD b && (plainD g.d && plainL [od, sz, by_, tm, lb])) := rfl
    rw [e, hb.pn, pln_kd, ho]; rfl
  have e := actC_ex (q := tabQ "_law_asks") (y := some (.str "none")) (z := none) (S := S) h1 (ds := [b, g.d, od, sz, by_, tm, lb]) (by rw [h5]; rfl) hp hS (by rw [h4]; exact h6)
  rw [h2, h3] at e
  rw [ev]
  show RS.fin (b__law_word _ [some _, none, none] S) = _
  exact word_kind e
end Kz
namespace Kz
open PySem PySem.Spec PyProof.Rows L2 Kw
theorem seqL_go {a : FS} {b : FL} {ρ ρ' : FEnv} {S S' : Store} (h : a ρ S = .nx ρ' S') : sSeqL a b ρ S = b ρ' S' := by unfold sSeqL; rw [h]
theorem fLam_ok {j i : Nat} {xq : Str} {ob : Ob} {ρ : FEnv} {S : Store} (h : S[j]? = some (.tab xq)) : fLam j xq i ob ρ S = .ok (.lam i (tabQ xq) ob) S := by
  unfold fLam; rw [if_pos h]
theorem apL_go {j k i : Nat} {xq : Str} {ob : Ob} {ρ : FEnv} {S : Store} {xs : List D} (h : S[j]? = some (.tab xq)) (hv : ρ[k]? = some (some (.loc S.length))) (hl : xs.length ≤ 1000) :
    sExp (fMth gAppend (fVar k) (fCons (fLam j xq i ob) fNil)) ρ (S ++ [.lst xs]) = .nx ρ (S ++ [.lst (xs ++ [.lam i (tabQ xq) ob])]) := exp_go (app_go hv (fLam_ok (at_app h _)) hl)
/-- an odd thing or none -/
def oddOf (od x : D) (k : Bool) : D := if k then od else x
theorem ix_two {a b e : FE} {ρ : FEnv} {S : Store} {x y : D} {k : Bool} (h1 : a ρ S = .ok x S) (h2 : b ρ S = .ok y S) (h3 : e ρ S = .ok (.bl k) S) : f2 gIx (fArg mkLst (fCons a (fCons b fNil))) (fArg gInt (fCons e fNil)) ρ S = .ok (oddOf y x k) S := by
  refine f2_go (lst_go (fcons_go h1 (fcons_go h2 fNil_ap)) (by simp)) (arg_go (fcons_go h3 fNil_ap) (show gInt [.bl k] S = .ok (.int (if k then 1 else 0)) S by cases k <;> rfl)) ?_
  cases k <;> simp [oddOf]
noncomputable def sz2 : D := .lst (List.replicate 8 (.int 2))
section
variable {m : Nat} {S : Store} {b g od : D} {k : Bool} {ob : Nat → Ob}
theorem asks_run (t2 : S[2]? = some (.tab "_law_asks")) (hk : gIs true od .non S = .ok (.bl k) S) :
    b0__law_asks ob (ev m) [some b, some g, some od, none, none, none, none, none] S = some (.loc S.length, [some b, some g, some od, some (oddOf od sz2 k), some (oddOf od (.int 7) k), some (oddOf od (.tup [.str "unit"]) k), some (oddOf od (.lst [.tup [.str "x", g]]) k), some (.loc S.length)], S ++ [.lst ((List.range 18).map fun i => D.lam i (tabQ "_law_asks") (ob i))]) := by
  have e3 : ∀ {x0 x1 : Option D} {r : List (Option D)}, f2 (gIs true) (fVar 2) (fC .non) (x0 :: x1 :: some od :: r) S = .ok (.bl k) S := fun {x0 x1 r} => f2_go (var_go rfl) fC_ap hk
  have h8 : sizeLine = 16777216 := rfl
  have em : f2 (gMul false) (fArg mkLst (fCons (fC (.int 2)) fNil)) (fC (.int 8)) [some b, some g, some od, none, none, none, none, none] S = .ok sz2 S := by
    refine f2_go (lst_go (fcons_go fC_ap fNil_ap) (by simp)) fC_ap ?_
    rfl
  have q0 : sAsg (fArg mkTup (fCons (f2 gIx (fArg mkLst (fCons (f2 (gMul false) (fArg mkLst (fCons (fC (.int 2)) fNil)) (fC (.int 8))) (fCons (fVar 2) fNil))) (fArg gInt (fCons (f2 (gIs true) (fVar 2) (fC .non)) fNil))) (fCons (f2 gIx (fArg mkLst (fCons (fC (.int 7)) (fCons (fVar 2) fNil))) (fArg gInt (fCons (f2 (gIs true) (fVar 2) (fC .non)) fNil))) fNil))) (gTu 2 (gsCons (gN 3) (gsCons (gN 4) gsNil))) [some b, some g, some od, none, none, none, none, none] S = .nx [some b, some g, some od, some (oddOf od sz2 k), some (oddOf od (.int 7) k), none, none, none] S := asg_go (g := gTu 2 (gsCons (gN 3) (gsCons (gN 4) gsNil))) (tup_go (fcons_go (ix_two em (var_go (i := 2) rfl) e3) (fcons_go (ix_two (a := fC (.int 7)) (x := .int 7) fC_ap (var_go (i := 2) rfl) e3) fNil_ap)) (by simp)) (ρ := [some b, some g, some od, none, none, none, none, none]) (S := S) (ρ' := [some b, some g, some od, some (oddOf od sz2 k), some (oddOf od (.int 7) k), none, none, none]) (S2 := S) rfl
  have q1 : sSet 5 (f2 gIx (fArg mkLst (fCons (fArg mkTup (fCons (fC (.str "unit")) fNil)) (fCons (fVar 2) fNil))) (fArg gInt (fCons (f2 (gIs true) (fVar 2) (fC .non)) fNil))) [some b, some g, some od, some (oddOf od sz2 k), some (oddOf od (.int 7) k), none, none, none] S = .nx [some b, some g, some od, some (oddOf od sz2 k), some (oddOf od (.int 7) k), some (oddOf od (.tup [.str "unit"]) k), none, none] S := set_go (i := 5) (ix_two (ut_go) (var_go (i := 2) rfl) e3)
  have q2 : sSet 6 (f2 gIx (fArg mkLst (fCons (fArg mkLst (fCons (fArg mkTup (fCons (fC (.str "x")) (fCons (fVar 1) fNil))) fNil)) (fCons (fVar 2) fNil))) (fArg gInt (fCons (f2 (gIs true) (fVar 2) (fC .non)) fNil))) [some b, some g, some od, some (oddOf od sz2 k), some (oddOf od (.int 7) k), some (oddOf od (.tup [.str "unit"]) k), none, none] S = .nx [some b, some g, some od, some (oddOf od sz2 k), some (oddOf od (.int 7) k), some (oddOf od (.tup [.str "unit"]) k), some (oddOf od (.lst [.tup [.str "x", g]]) k), none] S := set_go (i := 6) (ix_two (lst_go (fcons_go (tup_go (fcons_go (fC_ap (d := .str "x")) (fcons_go (var_go (i := 1) rfl) fNil_ap)) (by simp)) fNil_ap) (by simp)) (var_go (i := 2) rfl) e3)
  have q3 : sSet 7 (fArg mkCel (fCons (fLam 2 "_law_asks" 0 (ob 0)) fNil)) [some b, some g, some od, some (oddOf od sz2 k), some (oddOf od (.int 7) k), some (oddOf od (.tup [.str "unit"]) k), some (oddOf od (.lst [.tup [.str "x", g]]) k), none] S = .nx [some b, some g, some od, some (oddOf od sz2 k), some (oddOf od (.int 7) k), some (oddOf od (.tup [.str "unit"]) k), some (oddOf od (.lst [.tup [.str "x", g]]) k), some (.loc S.length)] (S ++ [.lst [.lam 0 (tabQ "_law_asks") (ob 0)]]) := set_go (i := 7) (cel_go (fcons_go (fLam_ok (i := 0) (ob := ob 0) t2) fNil_ap) (by simp))
  rw [b0__law_asks, seqL_go q0, seqL_go q1, seqL_go q2, seqL_go q3]
  iterate 17 rw [seqL_go (apL_go t2 rfl (by simp))]
  rfl
end
end Kz
namespace Kz
open PySem PySem.Spec PyProof.Rows L2 Kw
theorem asks_sp {n : Nat} {S : Store} {b od : D} {g : Kd} {k : Bool} (hn : 1 ≤ n) (t2 : S[2]? = some (.tab "_law_asks")) (hb : plainD b = true) (ho : plainD od = true) (hk : ∀ T, gIs true od .non T = .ok (.bl k) T) :
    ∃ vals : List D, plainL vals = true ∧ ev n .f__law_asks [b, g.d, od] S = .ok (.lst ((List.range 18).map fun i => D.clo i (tabQ "_law_asks") (ob__law_asks i) CA [b, g.d, od, oddOf od sz2 k, oddOf od (.int 7) k, oddOf od (.tup [.str "unit"]) k, oddOf od (.lst [.tup [.str "x", g.d]]) k])) S ∧ vals = [od, oddOf od sz2 k, oddOf od (.int 7) k, oddOf od (.tup [.str "unit"]) k, oddOf od (.lst [.tup [.str "x", g.d]]) k] := by
  obtain ⟨m, rfl, h'⟩ := up hn
  have p1 : plainD sz2 = true := by simp [sz2, plainD, plainL]
  have pg := pln_kd g
  have p2 : plainL [od, oddOf od sz2 k, oddOf od (.int 7) k, oddOf od (.tup [.str "unit"]) k, oddOf od (.lst [.tup [.str "x", g.d]]) k] = true := by
    cases k
    · simp [oddOf, plainL, ho, p1, pg, plainD]
    · simp [oddOf, plainL, ho]
  refine ⟨_, p2, ?_, rfl⟩
  rw [ev]
  refine fnL_eq (by simp) fun ob => ?_
  refine ⟨S.length, _, [.lst ((List.range 18).map fun i => D.lam i (tabQ "_law_asks") (ob i))], asks_run t2 (hk S), Nat.le_refl _, by simp, rfl, rfl, ?_⟩
  show (plainD b && (plainD g.d && plainL [od, oddOf od sz2 k, oddOf od (.int 7) k, oddOf od (.tup [.str "unit"]) k, oddOf od (.lst [.tup [.str "x", g.d]]) k])) = true
  rw [hb, pg, p2]; rfl
/-- all of them raise NoKind -/
theorem words_sp {m : Nat} {S : Store} {b od : D} {g : Kd} {k : Bool} {N : Nat} {x0 x1 x2 x3 x7 x8 : Option D} (hm : 50 ≤ m) (t1 : Tab1 S) (t2 : S[2]? = some (.tab "_law_asks")) (hS : plainS S = true) (hb : Bad b N) (hN : N ≤ 8000000) (hg : g.sz ≤ 3) (ho : plainD od = true) (hk : ∀ T, gIs true od .non T = .ok (.bl k) T) :
    fLc false (fiL (f2 (gAdd false) (fArg (ev m .f__law_asks) (fCons (fVar 4) (fCons (fVar 5) (fCons (fC .non) fNil)))) (fArg (ev m .f__law_asks) (fCons (fVar 4) (fCons (fVar 5) (fCons (fVar 6) fNil)))))) (gN 8) fYes (fArg (ev m .f__law_word) (fCons (fVar 8) fNil)) [8]
      [x0, x1, x2, x3, some b, some g.d, some od, x7, x8] S = .ok (.lst (List.replicate 36 (.str "kind"))) S := by
  obtain ⟨v1, p1, e1, q1⟩ := asks_sp (n := m) (g := g) (b := b) (od := .non) (k := false) (by omega) t2 hb.pn rfl (fun T => rfl)
  obtain ⟨v2, p2, e2, q2⟩ := asks_sp (n := m) (g := g) (b := b) (od := od) (k := k) (by omega) t2 hb.pn ho hk
  subst q1 q2
  obtain ⟨L1, hL1⟩ : ∃ L1, L1 = ((List.range 18).map fun i => D.clo i (tabQ "_law_asks") (ob__law_asks i) CA [b, g.d, .non, oddOf .non sz2 false, oddOf .non (.int 7) false, oddOf .non (.tup [.str "unit"]) false, oddOf .non (.lst [.tup [.str "x", g.d]]) false]) := ⟨_, rfl⟩
  obtain ⟨L2, hL2⟩ : ∃ L2, L2 = ((List.range 18).map fun i => D.clo i (tabQ "_law_asks") (ob__law_asks i) CA [b, g.d, od, oddOf od sz2 k, oddOf od (.int 7) k, oddOf od (.tup [.str "unit"]) k, oddOf od (.lst [.tup [.str "x", g.d]]) k]) := ⟨_, rfl⟩
  have l1 : L1.length = 18 := by rw [hL1]; simp
  have l2 : L2.length = 18 := by rw [hL2]; simp
  rw [← hL1] at e1
  rw [← hL2] at e2
  have w1 : ∀ d ∈ L1 ++ L2, ev m .f__law_word [d] S = .ok (.str "kind") S := fun d hd => by
    rcases List.mem_append.mp hd with hd | hd
    · rw [hL1] at hd
      obtain ⟨i, hi, rfl⟩ := List.mem_map.mp hd
      exact clo_word (by omega) t1 hS hb hN hg p1 (List.mem_range.mp hi)
    · rw [hL2] at hd
      obtain ⟨i, hi, rfl⟩ := List.mem_map.mp hd
      exact clo_word (by omega) t1 hS hb hN hg p2 (List.mem_range.mp hi)
  have ea : f2 (gAdd false) (fArg (ev m .f__law_asks) (fCons (fVar 4) (fCons (fVar 5) (fCons (fC .non) fNil)))) (fArg (ev m .f__law_asks) (fCons (fVar 4) (fCons (fVar 5) (fCons (fVar 6) fNil)))) [x0, x1, x2, x3, some b, some g.d, some od, x7, x8] S = .ok (.lst (L1 ++ L2)) S := by
    have h8 : sizeLine = 16777216 := rfl
    refine f2_go (arg_go (fcons_go (var_go rfl) (fcons_go (var_go rfl) (fcons_go fC_ap fNil_ap))) e1) (arg_go (fcons_go (var_go rfl) (fcons_go (var_go rfl) (fcons_go (var_go rfl) fNil_ap))) e2) ?_
    rw [Kw.gAdd_ll, mkLst_ap, if_pos (by rw [List.length_append]; omega)]
  have ei : fiL (f2 (gAdd false) (fArg (ev m .f__law_asks) (fCons (fVar 4) (fCons (fVar 5) (fCons (fC .non) fNil)))) (fArg (ev m .f__law_asks) (fCons (fVar 4) (fCons (fVar 5) (fCons (fVar 6) fNil))))) [x0, x1, x2, x3, some b, some g.d, some od, x7, x8] S = .ok (L1 ++ L2, none) S := by
    unfold fiL
    rw [ea]; rfl
  have hm2 := compL_map (tg := gN 8) (tt := fYes) (te := fArg (ev m .f__law_word) (fCons (fVar 8) fNil)) (ρ := [x0, x1, x2, x3, some b, some g.d, some od, x7, none]) (S := S) (gg := none) (fun _ => .str "kind") (by unfold gd; trivial) (L1 ++ L2) [] (fun d hd => ⟨[x0, x1, x2, x3, some b, some g.d, some od, x7, some d], rfl, rfl, arg_go (fcons_go (var_go rfl) fNil_ap) (w1 d hd)⟩) (by have h8 : sizeLine = 16777216 := rfl; simp [l1, l2]; try omega)
  rw [fLc_ap, ei, bnd_ok]
  show lcR false (compL (gN 8) fYes _ none [x0, x1, x2, x3, some b, some g.d, some od, x7, none] (L1 ++ L2) [] S) = _
  rw [hm2]
  have e9 : (L1 ++ L2).map (fun _ => D.str "kind") = List.replicate 36 (.str "kind") := by
    rw [List.map_const', List.length_append, l1, l2]
  rw [e9]; rfl
end Kz
namespace Kz
open PySem PySem.Spec PyProof.Rows L2 Kw
/-- the store goes on, all but the well as it was -/
structure WX (S : Store) (w : Nat) (S' : Store) : Prop where
  le : S.length ≤ S'.length
  same : ∀ i, i < S.length → i ≠ w → S'[i]? = S[i]?
  well : Well S' w
theorem WS.wx {S S' : Store} {w : Nat} (h : WS S w S') : WX S w S' := ⟨by rw [h.len]; exact Nat.le_refl _, fun i _ hi => h.same i hi, h.well⟩
theorem WX.trans {S S1 S2 : Store} {w : Nat} (h : WX S w S1) (k : WX S1 w S2) : WX S w S2 := ⟨Nat.le_trans h.le k.le, fun i hi hw => (k.same i (Nat.lt_of_lt_of_le hi h.le) hw).trans (h.same i hi hw), k.well⟩
theorem Well.app {S : Store} {w : Nat} (h : Well S w) (T : Store) : Well (S ++ T) w := by
  obtain ⟨a, b, c, ha, hc, at_⟩ := h
  exact ⟨a, b, c, ha, hc, at_app at_ T⟩
theorem WX.app {S : Store} {w : Nat} (h : Well S w) (T : Store) : WX S w (S ++ T) := ⟨by simp, fun i hi _ => by rw [List.getElem?_append_left hi], h.app T⟩
theorem cutX {S S2 : Store} {w : Nat} {d : D} (hw : w < S.length) (h : WX S w S2) (hd : d.under S.length = true) : cutR S (.ok d S2) = .ok d (S2.take S.length) ∧ WS S w (S2.take S.length) := by
  have hl := h.le
  obtain ⟨a, b, c, ha, hc, at_⟩ := h.well
  constructor
  · unfold cutR
    simp only
    rw [if_pos]
    refine ⟨hd, hl, fun i cc hi hcc => ?_⟩
    by_cases e : i = w
    · subst e
      rw [at_] at hcc
      cases hcc
      exact .inr (by simp [Cell.under, underL, D.under])
    · rw [h.same i hi e] at hcc
      exact .inl hcc
  · refine ⟨by rw [List.length_take]; omega, fun i hi => ?_, a, b, c, ha, hc, ?_⟩
    · by_cases hi2 : i < S.length
      · rw [List.getElem?_take_of_lt hi2, h.same i hi2 hi]
      · rw [List.getElem?_eq_none (by rw [List.length_take]; omega), List.getElem?_eq_none (by omega)]
    · rw [List.getElem?_take_of_lt hw]; exact at_
theorem actV_at {i : Nat} {q : Str} {ob : Ob} {σ : L2.St} {tb : FE} {ρw : FEnv} {x y : Option D} {S : Store} : fActV S.length i q ob σ tb [some (.lam i q ob), x, y] (S ++ [.gst ρw σ]) = tb ρw (S ++ [.gst ρw σ]) := by
  simp [fActV]
theorem gth_kind {tbs : List (Ob × FE)} {i : Nat} {q : Str} {ob : Ob} {tb : FE} {ρw : FEnv} {S : Store} (hi : tbs[i]? = some (ob, tb)) (h : ∀ T : Store, tb ρw T = .ex nok T) : gThunkV q 3 b__law_word tbs ρw (.lam i q ob) S = .ok (.str "kind") S := by
  unfold gThunkV
  simp only [hi]
  rw [if_pos (by simp)]
  refine aInd2_eq fun f σ => ?_
  have e := word_kind (act := fActV S.length i q ob σ tb) (x := some (.lam i q ob)) (S := S ++ [.gst ρw σ]) (by rw [actV_at]; exact h _)
  show cutR S ((b__law_word (fActV S.length i q ob σ tb) [some (.lam i q ob), none, none] (S ++ [.gst ρw σ])).fin) = _
  rw [e, cut_ok _ rfl]
theorem gth_lib {tbs : List (Ob × FE)} {i : Nat} {q : Str} {ob : Ob} {tb : FE} {ρw : FEnv} {S : Store} (hi : tbs[i]? = some (ob, tb)) (h : ∀ T : Store, tb ρw T = .ex nolib T) : gThunkV q 3 b__law_word tbs ρw (.lam i q ob) S = .ok (.str "library") S := by
  unfold gThunkV
  simp only [hi]
  rw [if_pos (by simp)]
  refine aInd2_eq fun f σ => ?_
  have e := word_lib (act := fActV S.length i q ob σ tb) (x := some (.lam i q ob)) (S := S ++ [.gst ρw σ]) (by rw [actV_at]; exact h _)
  show cutR S ((b__law_word (fActV S.length i q ob σ tb) [some (.lam i q ob), none, none] (S ++ [.gst ρw σ])).fin) = _
  rw [e, cut_ok _ rfl]
theorem comp_go {tbs : List (Ob × FE)} {q : Str} {ρ : FEnv} {S : Store} {a : Nat} {L : List D} {x : D} (hv : ρ[7]? = some (some (.loc a))) (hl : 12 < ρ.length) (at_ : S[a]? = some (.lst L)) (hn : L.length ≤ 1000) (h : ∀ d ∈ L, gThunkV q 3 b__law_word tbs (ρ.set 12 none) d S = .ok x S) :
    fLc false (fiL (fVar 7)) (gN 12) fYes (fThunkV q 3 b__law_word tbs [12] (fVar 12)) [12] ρ S = .ok (.lst (L.map fun _ => x)) S := by
  have h8 : sizeLine = 16777216 := rfl
  have ei : fiL (fVar 7) ρ S = .ok (L, some (a, L)) S := by
    unfold fiL
    rw [var_go hv, bnd_ok]
    show itL (.loc a) S = _
    unfold itL iSeq
    simp only [cellOf_of at_]
    rfl
  have hg : gd (some (a, L)) S := cellOf_of at_
  have hm := compL_map (tg := gN 12) (tt := fYes) (te := fThunkV q 3 b__law_word tbs [12] (fVar 12)) (ρ := ρ.set 12 none) (S := S) (gg := some (a, L)) (fun _ => x) hg L [] (fun d hd => ⟨(ρ.set 12 none).set 12 (some d), rfl, rfl, by
    have e1 : fVar 12 ((ρ.set 12 none).set 12 (some d)) S = .ok d S := var_go (by simp [hl])
    have e2 : wipeR ((ρ.set 12 none).set 12 (some d)) [12] = ρ.set 12 none := by simp [wipeR]
    show (fVar 12 ((ρ.set 12 none).set 12 (some d)) S).bnd (gThunkV q 3 b__law_word tbs (wipeR ((ρ.set 12 none).set 12 (some d)) [12])) = _
    rw [e1, bnd_ok, e2]
    exact h d hd⟩) (by simp; omega)
  rw [fLc_ap, ei, bnd_ok]
  show lcR false (compL (gN 12) fYes _ (some (a, L)) (ρ.set 12 none) L [] S) = _
  rw [hm]; rfl
/-- a list of data with what is no kind -/
structure Gs (gs : List D) : Prop where
  ly : layL gs
  n : ∀ d ∈ gs, nd d ≤ 7000000
  len : gs.length ≤ 20
  no : gs.all isK = false
theorem sg_ex {n : Nat} {gs : List D} {S : Store} (h : 5 ≤ n) (hg : Gs gs) : ev n .f_sure_given [.lst gs] S = .ex nok S := by
  obtain ⟨m, rfl, h'⟩ := up (show 4 + 1 ≤ n by omega)
  have h8 : sizeLine = 16777216 := rfl
  have hmem : ∀ {ds : List D}, layL ds → ∀ d ∈ ds, lay d := by
    intro ds
    induction ds with
    | nil => intro _ d hd; simp at hd
    | cons a ds ih =>
      intro l d hd
      obtain ⟨l1, l2⟩ := layL_cons.mp l
      rcases List.mem_cons.mp hd with e | hd
      · rw [e]; exact l1
      · exact ih l2 d hd
  have hc := compL_map (tg := gN 1) (tt := fYes) (te := fArg (ev m .f_is_kind) (fCons (fVar 1) fNil)) (ρ := [some (.lst gs), none]) (S := S) (gg := none) (fun d => .bl (isK d)) (by unfold gd; trivial) gs [] (fun d hd => ⟨[some (.lst gs), some d], rfl, rfl, arg_go (fcons_go (var_go rfl) fNil_ap) (is_kind_gen (by omega) (Nat.le_trans (hg.n d hd) (by omega)) (hmem hg.ly d hd))⟩) (by have := hg.len; simp; omega)
  have e1 : gs.map (fun d => D.bl (isK d)) = (gs.map isK).map D.bl := by simp
  have e2 : gAll [.lst ((gs.map isK).map D.bl)] S = .ok (.bl false) S := by
    rw [gAll_lst]
    congr 2
    rw [List.all_map]; exact hg.no
  rw [e1, List.nil_append] at hc
  generalize (gs.map isK).map D.bl = Q at *
  rw [ev, b_sure_given]
  have eit : fiL (fVar 0) [some (.lst gs), none] S = .ok (gs, none) S := by unfold fiL; rfl
  simp [wipeR, hc, e2, eit]
theorem tk_ex {n : Nat} {gs : List D} {y : D} {S : Store} (h : 7 ≤ n) (hg : Gs gs) : ev n .f_term_kind [y, .lst gs] S = .ex nok S := by
  obtain ⟨m, rfl, h'⟩ := up h
  rw [ev, fnB]
  simp only [List.length_cons, List.length_nil, if_true]
  show RS.fin (sSeq _ _ _ S) = _
  rw [seq_ex (exp_ex (arg_go (fcons_go (var_go rfl) fNil_ap) (sg_ex (by omega) hg))), fin_ex]
theorem pl_ex {n : Nat} {gs : List D} {y : D} {S : Store} (h : 7 ≤ n) (hg : Gs gs) : ev n .f_plain [y, .lst gs] S = .ex nok S := by
  obtain ⟨m, rfl, h'⟩ := up h
  rw [ev, fnB]
  simp only [List.length_cons, List.length_nil, if_true]
  show RS.fin (sSeq _ _ _ S) = _
  rw [seq_ex (exp_ex (arg_go (fcons_go (var_go rfl) fNil_ap) (sg_ex (by omega) hg))), fin_ex]
theorem sm_ex {n : Nat} {gs : List D} {y z : D} {S : Store} (h : 7 ≤ n) (hg : Gs gs) : ev n .f_same [y, z, .lst gs] S = .ex nok S := by
  obtain ⟨m, rfl, h'⟩ := up h
  rw [ev, fnB]
  simp only [List.length_cons, List.length_nil, if_true]
  show RS.fin (sSeq _ _ _ S) = _
  rw [seq_ex (exp_ex (arg_go (fcons_go (var_go rfl) fNil_ap) (sg_ex (by omega) hg))), fin_ex]
end Kz
namespace Kz
open PySem PySem.Spec PyProof.Rows L2 Kw
def nmK (k : Int) : Str := "n" ++ repS "x" k
theorem nmK_ok : ∀ k : _root_.Fin 30, PyData.strOk (nmK (k.val : Int)) = true ∧ (Str.ofString "n").length + (repS "x" (k.val : Int)).length ≤ 16777216 := by decide +kernel
def rowK : D → D
  | .tup [.int k, d] => .tup [.str (nmK k), d]
  | d => d
theorem rowK_at (k : Int) (d : D) : rowK (.tup [.int k, d]) = .tup [.str (nmK k), d] := rfl
theorem enum_all : ∀ (gs : List D) (i : Nat), i + gs.length ≤ 30 → layL gs → (∀ d ∈ gs, nd d ≤ 7000000) →
    layL ((enumD i gs).map rowK) ∧ (∀ d ∈ (enumD i gs).map rowK, nd d ≤ 8000000) ∧ ((enumD i gs).map rowK).all rowB = gs.all isK ∧ (enumD i gs).length = gs.length ∧ ∀ x ∈ enumD i gs, ∃ (k : _root_.Fin 30) (d : D), x = .tup [.int (k.val : Int), d]
  | [], i, _, _, _ => ⟨rfl, by simp [enumD], rfl, rfl, by simp [enumD]⟩
  | d :: gs, i, hi, l, hn => by
    obtain ⟨l1, l2⟩ := layL_cons.mp l
    simp only [List.length_cons] at hi
    obtain ⟨a1, a2, a3, a4, a5⟩ := enum_all gs (i + 1) (by omega) l2 fun y hy => hn y (List.mem_cons_of_mem _ hy)
    have e0 : enumD i (d :: gs) = .tup [.int (i : Int), d] :: enumD (i + 1) gs := rfl
    have ok := (nmK_ok ⟨i, by omega⟩).1
    simp only at ok
    have l1' : pl d = true := l1
    have n1 := hn d List.mem_cons_self
    rw [e0]
    simp only [List.map_cons, rowK_at]
    refine ⟨layL_cons.mpr ⟨by simp [lay, pl, plL, ok, l1'], a1⟩, fun y hy => ?_, ?_, by simp [a4], fun y hy => ?_⟩
    · rcases List.mem_cons.mp hy with e | hy
      · rw [e]; simp [nd, ndL]; omega
      · exact a2 y hy
    · rw [List.all_cons, List.all_cons, a3]; rfl
    · rcases List.mem_cons.mp hy with e | hy
      · exact ⟨⟨i, by omega⟩, d, e⟩
      · exact a5 y hy
section
variable {gs : List D} {S : Store}
theorem lib_no {n : Nat} (h : 4 ≤ n) (hg : Gs gs) : ev n .f_is_library [.lst ((enumD 0 gs).map rowK)] S = .ok (.bl false) S := by
  have hl := hg.len
  obtain ⟨a1, a2, a3, a4, _⟩ := enum_all gs 0 (by omega) hg.ly hg.n
  have e := is_library_lst (n := n) h (S := S) a1 a2 (by rw [List.length_map, a4]; omega)
  rw [a3, hg.no] at e
  exact e
theorem sl_ex {n : Nat} (h : 5 ≤ n) (hg : Gs gs) : ev n .f_sure_library [.lst ((enumD 0 gs).map rowK)] S = .ex nolib S := by
  obtain ⟨m, rfl, h'⟩ := up h
  have e := lib_no (n := m) (S := S) (by omega) hg
  rw [ev, b_sure_library]
  generalize (enumD 0 gs).map rowK = Q at *
  simp [e]
theorem se_lib {n : Nat} {g : Kd} (h : 8 ≤ n) (hk : g.sz ≤ 1000) (hg : Gs gs) : ev n .f_search [.lst ((enumD 0 gs).map rowK), g.d] S = .ex nolib S := by
  obtain ⟨m, rfl, h'⟩ := up h
  have e1 := sl_ex (n := m) (S := S) (by omega) hg
  generalize (enumD 0 gs).map rowK = Q at *
  rw [ev, fnC_ap, fnB]
  simp only [List.length_cons, List.length_nil, if_true]
  have e : RS.fin (b_search (ev m) ([.lst Q, g.d].map some ++ List.replicate (7 - 2) none) S) = .ex nolib S := by
    show RS.fin (sSeq _ (sSeq _ _) _ S) = _
    rw [seq_go (s_ok (i := 1) (k := g) (by omega) hk rfl), seq_ex (exp_ex (arg_go (fcons_go (var_go (i := 0) rfl) fNil_ap) e1)), fin_ex]
  rw [e]
  exact cut_nok rfl
theorem sf_lib {n : Nat} {g : Kd} {y z : D} (h : 8 ≤ n) (hk : g.sz ≤ 1000) (hg : Gs gs) : ev n .f_search_fault [.lst ((enumD 0 gs).map rowK), g.d, y, z] S = .ex nolib S := by
  obtain ⟨m, rfl, h'⟩ := up h
  have e1 := sl_ex (n := m) (S := S) (by omega) hg
  generalize (enumD 0 gs).map rowK = Q at *
  rw [ev, fnB]
  simp only [List.length_cons, List.length_nil, if_true]
  show RS.fin (sSeq _ (sSeq _ _) _ S) = _
  rw [seq_go (s_ok (i := 1) (k := g) (by omega) hk rfl), seq_ex (exp_ex (arg_go (fcons_go (var_go (i := 0) rfl) fNil_ap) e1)), fin_ex]
/-- the library is made -/
theorem made_lib {x0 x1 x2 x3 x4 x6 x7 x8 x9 x10 x11 x12 : Option D} (hg : Gs gs) : fLc false (fiE (fCons (fVar 5) fNil)) (gTu 2 (gsCons (gN 10) (gsCons (gN 11) gsNil))) fYes (fArg mkTup (fCons (f2 (gAdd false) (fC (.str "n")) (f2 (gMul false) (fC (.str "x")) (fVar 10))) (fCons (fVar 11) fNil))) [10, 11]
    [x0, x1, x2, x3, x4, some (.lst gs), x6, x7, x8, x9, x10, x11, x12] S = .ok (.lst ((enumD 0 gs).map rowK)) S := by
  have h8 : sizeLine = 16777216 := rfl
  have hl := hg.len
  obtain ⟨a1, a2, a3, a4, a5⟩ := enum_all gs 0 (by omega) hg.ly hg.n
  have ei : fiE (fCons (fVar 5) fNil) [x0, x1, x2, x3, x4, some (.lst gs), x6, x7, x8, x9, x10, x11, x12] S = .ok (enumD 0 gs, none) S := by
    unfold fiE
    rw [fcons_go (var_go (i := 5) rfl) fNil_ap, bnd_ok]
    rfl
  have hm := compL_map (tg := gTu 2 (gsCons (gN 10) (gsCons (gN 11) gsNil))) (tt := fYes) (te := fArg mkTup (fCons (f2 (gAdd false) (fC (.str "n")) (f2 (gMul false) (fC (.str "x")) (fVar 10))) (fCons (fVar 11) fNil))) (ρ := [x0, x1, x2, x3, x4, some (.lst gs), x6, x7, x8, x9, none, none, x12]) (S := S) (gg := none) rowK (by unfold gd; trivial) (enumD 0 gs) [] (fun d hd => by
    obtain ⟨k, y, rfl⟩ := a5 d hd
    refine ⟨[x0, x1, x2, x3, x4, some (.lst gs), x6, x7, x8, x9, some (.int (k.val : Int)), some y, x12], rfl, rfl, ?_⟩
    rw [rowK_at]
    have hk := (nmK_ok k).2
    refine tup_go (fcons_go (f2_go fC_ap (f2_go fC_ap (var_go (i := 10) rfl) (show gMul false (.str "x") (.int (k.val : Int)) S = .ok (.str (repS "x" (k.val : Int))) S from ?_)) ?_) (fcons_go (var_go (i := 11) rfl) fNil_ap)) (by simp)
    · have := k.isLt
      show (if (Str.ofString "x").length * (k.val : Int).toNat ≤ 16777216 ∧ (Str.ofString "x").length ≤ 1000 ∧ -(2 ^ 63) ≤ (k.val : Int) ∧ (k.val : Int) ≤ 100000 then _ else _) = _
      have e1 : (Str.ofString "x").length = 1 := rfl
      have e2 : (2 : Int) ^ 63 = 9223372036854775808 := by decide
      rw [e1, e2, if_pos (by omega)]
    · rw [Kw.gAdd_ss, if_pos (by omega)]; rfl) (by simp; omega)
  rw [fLc_ap, ei, bnd_ok]
  show lcR false (compL (gTu 2 (gsCons (gN 10) (gsCons (gN 11) gsNil))) fYes _ none [x0, x1, x2, x3, x4, some (.lst gs), x6, x7, x8, x9, none, none, x12] (enumD 0 gs) [] S) = _
  rw [hm]; rfl
end
end Kz
namespace Kz
open PySem PySem.Spec PyProof.Rows L2 Kw
noncomputable def V0 (ob : Nat → Ob) (cl cl2 : Fn → FF) : FS := (sSet 3 (fSl (gSl false) (fArg mkLst (fCons (fVar 2) (fCons (fArg mkTup (fCons (fC (.str "unit")) fNil)) (fCons (fArg mkTup (fCons (fC (.str "base")) (fCons (fC (.int 3)) fNil))) (fCons (fVar 2) fNil))))) fNone (fSome (drE cl 0 5))))
noncomputable def V1 (ob : Nat → Ob) (cl cl2 : Fn → FF) : FS := (sSet 4 (fArg (cl .f__law_draw) (fCons (fVar 0) (fCons (f2 (gAdd false) (fArg gLen (fCons (fVar 3) fNil)) (fC (.int 1))) fNil))))
noncomputable def V2 (ob : Nat → Ob) (cl cl2 : Fn → FF) : FS := (sSet 5 (f2 (gAdd false) (f2 (gAdd false) (fSl (gSl false) (fVar 3) fNone (fSome (fVar 4))) (fArg mkLst (fCons (fVar 1) fNil))) (fSl (gSl false) (fVar 3) (fSome (fVar 4)) fNone)))
noncomputable def V3 (ob : Nat → Ob) (cl cl2 : Fn → FF) : FS := (sSet 6 (f2 gIx (fArg mkLst (fCons (fArg mkTup (fCons (fC (.str "unit")) fNil)) (fCons (fArg mkTup (fCons (fC (.str "given")) (fCons (fC (.int 0)) fNil))) (fCons (fC .non) (fCons (fC (.int 5)) fNil))))) (drE cl 0 4)))
noncomputable def V4 (ob : Nat → Ob) (cl cl2 : Fn → FF) : FS := (sSet 7 (fArg mkCel (fCons (fLam 3 "_law_lists_right" 0 (ob 0)) fNil)))
noncomputable def V5 (ob : Nat → Ob) (cl cl2 : Fn → FF) : FS := (sExp (fMth gAppend (fVar 7) (fCons (fLam 3 "_law_lists_right" 1 (ob 1)) fNil)))
noncomputable def V6 (ob : Nat → Ob) (cl cl2 : Fn → FF) : FS := (sExp (fMth gAppend (fVar 7) (fCons (fLam 3 "_law_lists_right" 2 (ob 2)) fNil)))
noncomputable def V7 (ob : Nat → Ob) (cl cl2 : Fn → FF) : FS := (sExp (fMth gAppend (fVar 7) (fCons (fLam 3 "_law_lists_right" 3 (ob 3)) fNil)))
noncomputable def V8 (ob : Nat → Ob) (cl cl2 : Fn → FF) : FS := (sIf (fB (f2 gNe (fLc false (fiL (fVar 7)) (gN 12) fYes (fThunkV (tabQ "_law_lists_right") 3 b__law_word [(ob 0, (fArg (cl2 .f_term_kind) (fCons (fVar 6) (fCons (fVar 5) fNil)))), (ob 1, (fArg (cl2 .f_plain) (fCons (fVar 6) (fCons (fVar 5) fNil)))), (ob 2, (fArg (cl2 .f_same) (fCons (fVar 6) (fCons (fArg mkTup (fCons (fC (.str "unit")) fNil)) (fCons (fVar 5) fNil))))), (ob 3, (fArg (cl2 .f_same) (fCons (fArg mkTup (fCons (fC (.str "unit")) fNil)) (fCons (fVar 6) (fCons (fVar 5) fNil)))))] [12] (fVar 12)) [12]) (f2 (gMul false) (fArg mkLst (fCons (fC (.str "kind")) fNil)) (fC (.int 4))))) (sRet (fC (.bl false))) sNil)
noncomputable def V9 (ob : Nat → Ob) (cl cl2 : Fn → FF) : FS := (sSet 8 (fLc false (fiE (fCons (fVar 5) fNil)) (gTu 2 (gsCons (gN 10) (gsCons (gN 11) gsNil))) fYes (fArg mkTup (fCons (f2 (gAdd false) (fC (.str "n")) (f2 (gMul false) (fC (.str "x")) (fVar 10))) (fCons (fVar 11) fNil))) [10, 11]))
noncomputable def V10 (ob : Nat → Ob) (cl cl2 : Fn → FF) : FS := (sSet 9 (f2 gIx (fArg mkLst (fCons (fC (.str "n")) (fCons (fC (.str "nx")) (fCons (fC (.str "none")) (fCons (fC .non) fNil))))) (drE cl 0 4)))
noncomputable def V11 (ob : Nat → Ob) (cl cl2 : Fn → FF) : FS := (sSet 7 (fArg mkCel (fCons (fLam 3 "_law_lists_right" 4 (ob 4)) fNil)))
noncomputable def V12 (ob : Nat → Ob) (cl cl2 : Fn → FF) : FS := (sExp (fMth gAppend (fVar 7) (fCons (fLam 3 "_law_lists_right" 5 (ob 5)) fNil)))
noncomputable def V13 (ob : Nat → Ob) (cl cl2 : Fn → FF) : FS := (sRet (f2 gEq (fLc false (fiL (fVar 7)) (gN 12) fYes (fThunkV (tabQ "_law_lists_right") 3 b__law_word [(ob 0, (fArg (cl2 .f_term_kind) (fCons (fVar 6) (fCons (fVar 5) fNil)))), (ob 1, (fArg (cl2 .f_plain) (fCons (fVar 6) (fCons (fVar 5) fNil)))), (ob 2, (fArg (cl2 .f_same) (fCons (fVar 6) (fCons (fArg mkTup (fCons (fC (.str "unit")) fNil)) (fCons (fVar 5) fNil))))), (ob 3, (fArg (cl2 .f_same) (fCons (fArg mkTup (fCons (fC (.str "unit")) fNil)) (fCons (fVar 6) (fCons (fVar 5) fNil))))), (ob 4, (fArg (cl2 .f_search) (fCons (fVar 8) (fCons (fVar 2) fNil)))), (ob 5, (fArg (cl2 .f_search_fault) (fCons (fVar 8) (fCons (fVar 2) (fCons (fVar 9) (fCons (fC .non) fNil))))))] [12] (fVar 12)) [12]) (f2 (gMul false) (fArg mkLst (fCons (fC (.str "library")) fNil)) (fC (.int 2)))))
theorem Veq (ob : Nat → Ob) (cl cl2 : Fn → FF) : b0__law_lists_right ob cl cl2 = sSeq (V0 ob cl cl2) (sSeq (V1 ob cl cl2) (sSeq (V2 ob cl cl2) (sSeq (V3 ob cl cl2) (sSeq (V4 ob cl cl2) (sSeq (V5 ob cl cl2) (sSeq (V6 ob cl cl2) (sSeq (V7 ob cl cl2) (sSeq (V8 ob cl cl2) (sSeq (V9 ob cl cl2) (sSeq (V10 ob cl cl2) (sSeq (V11 ob cl cl2) (sSeq (V12 ob cl cl2) (V13 ob cl cl2))))))))))))) := rfl
theorem mem_cutL {α : Type} {L : List α} {lo hi : Option Int} {x : α} (h : x ∈ cutL L lo hi) : x ∈ L := by
  unfold cutL at h
  exact List.mem_of_mem_drop (List.mem_of_mem_take h)
theorem len_cutL {α : Type} {L : List α} {lo hi : Option Int} : (cutL L lo hi).length ≤ L.length := by
  unfold cutL
  rw [List.length_take, List.length_drop]
  omega
theorem layL_of : ∀ {ds : List D}, (∀ d ∈ ds, lay d) → layL ds
  | [], _ => rfl
  | d :: ds, h => layL_cons.mpr ⟨h d List.mem_cons_self, layL_of fun y hy => h y (List.mem_cons_of_mem _ hy)⟩
theorem slh_go {a u : FE} {ρ : FEnv} {S S1 S2 : Store} {L : List D} {r : Int} (h1 : a ρ S = .ok (.lst L) S1) (h2 : u ρ S1 = .ok (.int r) S2) : fSl (gSl false) a fNone (fSome u) ρ S = .ok (.lst (cutL L none (some r))) S2 := by
  rw [fSl_ap, h1, bnd_ok, fNone_ap, bnd_ok, fSome_ap, h2]; rfl
theorem sll_go {a u : FE} {ρ : FEnv} {S S1 S2 : Store} {L : List D} {r : Int} (h1 : a ρ S = .ok (.lst L) S1) (h2 : u ρ S1 = .ok (.int r) S2) : fSl (gSl false) a (fSome u) fNone ρ S = .ok (.lst (cutL L (some r) none)) S2 := by
  rw [fSl_ap, h1, bnd_ok, fSome_ap, h2]; rfl
theorem addl_go {a c : FE} {ρ : FEnv} {S S1 S2 : Store} {L M : List D} (h1 : a ρ S = .ok (.lst L) S1) (h2 : c ρ S1 = .ok (.lst M) S2) (hl : L.length + M.length ≤ 1000) : f2 (gAdd false) a c ρ S = .ok (.lst (L ++ M)) S2 := by
  have h8 : sizeLine = 16777216 := rfl
  exact f2_go h1 h2 (by rw [Kw.gAdd_ll, mkLst_ap, if_pos (by rw [List.length_append]; omega)])
theorem gs_of {g : Kd} {b : D} {N : Nat} (hg : g.sz ≤ 3) (hb : Bad b N) (hN : N ≤ 7000000) (r1 r2 : Int) {SL : List D} (hS : SL = cutL [g.d, .tup [.str "unit"], .tup [.str "base", .int 3], g.d] none (some r1)) : Gs ((cutL SL none (some r2) ++ [b]) ++ cutL SL (some r2) none) := by
  have ln := nd_kd g
  have el : ∀ d ∈ SL, lay d ∧ nd d ≤ 100 := fun d hd => by
    rw [hS] at hd
    have hd := mem_cutL hd
    simp only [List.mem_cons, List.not_mem_nil, or_false] at hd
    rcases hd with z | z | z | z <;> subst z
    · exact ⟨lay_kd g, by omega⟩
    · exact ⟨lay_kd .unit, by simp [nd, ndL]⟩
    · exact ⟨lay_kd (.base 3), by simp [nd, ndL]⟩
    · exact ⟨lay_kd g, by omega⟩
  have l4 : SL.length ≤ 4 := by rw [hS]; exact len_cutL
  have all : ∀ d ∈ (cutL SL none (some r2) ++ [b]) ++ cutL SL (some r2) none, lay d ∧ nd d ≤ 7000000 := fun d hd => by
    rcases List.mem_append.mp hd with hd | hd
    · rcases List.mem_append.mp hd with hd | hd
      · exact ⟨(el d (mem_cutL hd)).1, by have := (el d (mem_cutL hd)).2; omega⟩
      · have : d = b := by simpa using hd
        subst this
        exact ⟨hb.ly, Nat.le_trans hb.n hN⟩
    · exact ⟨(el d (mem_cutL hd)).1, by have := (el d (mem_cutL hd)).2; omega⟩
  refine ⟨layL_of fun d hd => (all d hd).1, fun d hd => (all d hd).2, ?_, ?_⟩
  · have h1 := @len_cutL D SL none (some r2)
    have h2 := @len_cutL D SL (some r2) none
    simp only [List.length_append, List.length_cons, List.length_nil]
    omega
  · rw [List.all_eq_false]
    exact ⟨b, by simp, by simp [hb.no]⟩
section
variable {ob : Nat → Ob} {cl cl2 : Fn → FF} {m m2 w : Nat} {S S1 S2 : Store} {g : Kd} {b : D} {x3 x4 x5 x6 x7 x8 x9 x10 x11 x12 : Option D}
theorem v0_go {r : Int} (e : ev m .f__law_draw [.loc w, .int 5] S = .ok (.int r) S1) : V0 ob (ev m) cl2 [some (.loc w), some b, some g.d, x3, x4, x5, x6, x7, x8, x9, x10, x11, x12] S = .nx [some (.loc w), some b, some g.d, some (.lst (cutL [g.d, .tup [.str "unit"], .tup [.str "base", .int 3], g.d] none (some r))), x4, x5, x6, x7, x8, x9, x10, x11, x12] S1 := by
  unfold V0
  refine set_go (slh_go (lst_go (fcons_go (var_go rfl) (fcons_go ut_go (fcons_go (tup_go (fcons_go fC_ap (fcons_go fC_ap fNil_ap)) (by simp)) (fcons_go (var_go rfl) fNil_ap)))) (by simp)) (dr_go rfl e))
theorem v1_go {r : Int} {SL : List D} (e : ev m .f__law_draw [.loc w, .int ((SL.length : Int) + 1)] S = .ok (.int r) S1) : V1 ob (ev m) cl2 [some (.loc w), some b, some g.d, some (.lst SL), x4, x5, x6, x7, x8, x9, x10, x11, x12] S = .nx [some (.loc w), some b, some g.d, some (.lst SL), some (.int r), x5, x6, x7, x8, x9, x10, x11, x12] S1 := by
  unfold V1
  refine set_go (arg_go (fcons_go (var_go rfl) (fcons_go (f2_go (arg_go (fcons_go (var_go (i := 3) rfl) fNil_ap) (show gLen [.lst SL] S = .ok (.int (SL.length : Int)) S by simp)) fC_ap rfl) fNil_ap)) e)
theorem v2_go {r : Int} {SL : List D} (hl : SL.length ≤ 4) : V2 ob (ev m) cl2 [some (.loc w), some b, some g.d, some (.lst SL), some (.int r), x5, x6, x7, x8, x9, x10, x11, x12] S = .nx [some (.loc w), some b, some g.d, some (.lst SL), some (.int r), some (.lst ((cutL SL none (some r) ++ [b]) ++ cutL SL (some r) none)), x6, x7, x8, x9, x10, x11, x12] S := by
  unfold V2
  have h1 := @len_cutL D SL none (some r)
  have h2 := @len_cutL D SL (some r) none
  refine set_go (addl_go (addl_go (slh_go (var_go rfl) (var_go rfl)) (lst_go (fcons_go (var_go rfl) fNil_ap) (by simp)) (by simp; omega)) (sll_go (var_go rfl) (var_go rfl)) (by simp; omega))
theorem v3_go {r : Int} (e : ev m .f__law_draw [.loc w, .int 4] S = .ok (.int r) S1) (h0 : 0 ≤ r) (h1 : r < 4) : ∃ t : D, V3 ob (ev m) cl2 [some (.loc w), some b, some g.d, x3, x4, x5, x6, x7, x8, x9, x10, x11, x12] S = .nx [some (.loc w), some b, some g.d, x3, x4, x5, some t, x7, x8, x9, x10, x11, x12] S1 := by
  obtain ⟨t, _, q⟩ := pick (a := fArg mkLst (fCons (fArg mkTup (fCons (fC (.str "unit")) fNil)) (fCons (fArg mkTup (fCons (fC (.str "given")) (fCons (fC (.int 0)) fNil))) (fCons (fC .non) (fCons (fC (.int 5)) fNil))))) (b := drE (ev m) 0 4) (ρ := [some (.loc w), some b, some g.d, x3, x4, x5, x6, x7, x8, x9, x10, x11, x12]) (S := S)
    (lst_go (fcons_go ut_go (fcons_go (tup_go (fcons_go fC_ap (fcons_go fC_ap fNil_ap)) (by simp)) (fcons_go fC_ap (fcons_go fC_ap fNil_ap)))) (by simp)) (dr_go rfl e) h0 (by simpa using h1)
  exact ⟨t, set_go q⟩
theorem v10_go {r : Int} (e : ev m .f__law_draw [.loc w, .int 4] S = .ok (.int r) S1) (h0 : 0 ≤ r) (h1 : r < 4) : ∃ t : D, V10 ob (ev m) cl2 [some (.loc w), some b, some g.d, x3, x4, x5, x6, x7, x8, x9, x10, x11, x12] S = .nx [some (.loc w), some b, some g.d, x3, x4, x5, x6, x7, x8, some t, x10, x11, x12] S1 := by
  obtain ⟨t, _, q⟩ := pick (a := fArg mkLst (fCons (fC (.str "n")) (fCons (fC (.str "nx")) (fCons (fC (.str "none")) (fCons (fC .non) fNil))))) (b := drE (ev m) 0 4) (ρ := [some (.loc w), some b, some g.d, x3, x4, x5, x6, x7, x8, x9, x10, x11, x12]) (S := S)
    (lst_go (fcons_go fC_ap (fcons_go fC_ap (fcons_go fC_ap (fcons_go fC_ap fNil_ap)))) (by simp)) (dr_go rfl e) h0 (by simpa using h1)
  exact ⟨t, set_go q⟩
end
end Kz
namespace Kz
open PySem PySem.Spec PyProof.Rows L2 Kw
abbrev qL : Str := tabQ "_law_lists_right"
section
variable {ob : Nat → Ob} {cl cl2 : Fn → FF} {m m2 w : Nat} {S S1 S2 : Store} {g : Kd} {b t nm : D} {gs : List D} {x0 x1 x3 x4 x5 x6 x7 x8 x9 x10 x11 x12 : Option D}
theorem v47_go (t3 : S[3]? = some (.tab "_law_lists_right")) {R : FS} : sSeq (V4 ob cl cl2) (sSeq (V5 ob cl cl2) (sSeq (V6 ob cl cl2) (sSeq (V7 ob cl cl2) R))) [x0, x1, some g.d, x3, x4, x5, x6, x7, x8, x9, x10, x11, x12] S =
    R [x0, x1, some g.d, x3, x4, x5, x6, some (.loc S.length), x8, x9, x10, x11, x12] (S ++ [.lst [.lam 0 qL (ob 0), .lam 1 qL (ob 1), .lam 2 qL (ob 2), .lam 3 qL (ob 3)]]) := by
  have q4 : V4 ob cl cl2 [x0, x1, some g.d, x3, x4, x5, x6, x7, x8, x9, x10, x11, x12] S = .nx [x0, x1, some g.d, x3, x4, x5, x6, some (.loc S.length), x8, x9, x10, x11, x12] (S ++ [.lst [.lam 0 qL (ob 0)]]) := set_go (i := 7) (cel_go (fcons_go (fLam_ok t3) fNil_ap) (by simp))
  have q5 : V5 ob cl cl2 [x0, x1, some g.d, x3, x4, x5, x6, some (.loc S.length), x8, x9, x10, x11, x12] (S ++ [.lst [.lam 0 qL (ob 0)]]) = .nx [x0, x1, some g.d, x3, x4, x5, x6, some (.loc S.length), x8, x9, x10, x11, x12] (S ++ [.lst [.lam 0 qL (ob 0), .lam 1 qL (ob 1)]]) := apL_go t3 rfl (by simp)
  have q6 : V6 ob cl cl2 [x0, x1, some g.d, x3, x4, x5, x6, some (.loc S.length), x8, x9, x10, x11, x12] (S ++ [.lst [.lam 0 qL (ob 0), .lam 1 qL (ob 1)]]) = .nx [x0, x1, some g.d, x3, x4, x5, x6, some (.loc S.length), x8, x9, x10, x11, x12] (S ++ [.lst [.lam 0 qL (ob 0), .lam 1 qL (ob 1), .lam 2 qL (ob 2)]]) := apL_go t3 rfl (by simp)
  have q7 : V7 ob cl cl2 [x0, x1, some g.d, x3, x4, x5, x6, some (.loc S.length), x8, x9, x10, x11, x12] (S ++ [.lst [.lam 0 qL (ob 0), .lam 1 qL (ob 1), .lam 2 qL (ob 2)]]) = .nx [x0, x1, some g.d, x3, x4, x5, x6, some (.loc S.length), x8, x9, x10, x11, x12] (S ++ [.lst [.lam 0 qL (ob 0), .lam 1 qL (ob 1), .lam 2 qL (ob 2), .lam 3 qL (ob 3)]]) := apL_go t3 rfl (by simp)
  rw [seq_go q4, seq_go q5, seq_go q6, seq_go q7]
theorem v8_go (hm : 20 ≤ m2) (hg : Gs gs) {a : Nat} (at_ : S[a]? = some (.lst [.lam 0 qL (ob 0), .lam 1 qL (ob 1), .lam 2 qL (ob 2), .lam 3 qL (ob 3)])) :
    V8 ob cl (ev m2) [x0, x1, some g.d, x3, x4, some (.lst gs), some t, some (.loc a), x8, x9, x10, x11, x12] S = .nx [x0, x1, some g.d, x3, x4, some (.lst gs), some t, some (.loc a), x8, x9, x10, x11, x12] S := by
  unfold V8
  refine if_no (fB_go (f2_go (comp_go (x := .str "kind") rfl (by simp) at_ (by simp) fun d hd => ?_) (f2_go (lst_go (fcons_go fC_ap fNil_ap) (by simp)) fC_ap (show gMul false (.lst [.str "kind"]) (.int 4) S = .ok (.lst [.str "kind", .str "kind", .str "kind", .str "kind"]) S from rfl)) ?_))
  · simp only [List.mem_cons, List.not_mem_nil, or_false] at hd
    rcases hd with z | z | z | z <;> subst z
    · refine gth_kind (i := 0) rfl fun T => ?_
      exact arg_go (fcons_go (var_go (i := 6) rfl) (fcons_go (var_go (i := 5) rfl) fNil_ap)) (tk_ex (by omega) hg)
    · refine gth_kind (i := 1) rfl fun T => ?_
      exact arg_go (fcons_go (var_go (i := 6) rfl) (fcons_go (var_go (i := 5) rfl) fNil_ap)) (pl_ex (by omega) hg)
    · refine gth_kind (i := 2) rfl fun T => ?_
      exact arg_go (fcons_go (var_go (i := 6) rfl) (fcons_go ut_go (fcons_go (var_go (i := 5) rfl) fNil_ap))) (sm_ex (by omega) hg)
    · refine gth_kind (i := 3) rfl fun T => ?_
      exact arg_go (fcons_go ut_go (fcons_go (var_go (i := 6) rfl) (fcons_go (var_go (i := 5) rfl) fNil_ap))) (sm_ex (by omega) hg)
  · exact Eqd.ne (q := 5) (Eqd.lst (.cons (.str (by decide +kernel)) (.cons (.str (by decide +kernel)) (.cons (.str (by decide +kernel)) (.cons (.str (by decide +kernel)) .nil))))) (by omega)
theorem v9_go (hg : Gs gs) : V9 ob cl cl2 [x0, x1, some g.d, x3, x4, some (.lst gs), x6, x7, x8, x9, x10, x11, x12] S = .nx [x0, x1, some g.d, x3, x4, some (.lst gs), x6, x7, some (.lst ((enumD 0 gs).map rowK)), x9, x10, x11, x12] S := set_go (i := 8) (made_lib hg)
theorem v12_go (t3 : S[3]? = some (.tab "_law_lists_right")) {R : FS} : sSeq (V11 ob cl cl2) (sSeq (V12 ob cl cl2) R) [x0, x1, some g.d, x3, x4, x5, x6, x7, x8, x9, x10, x11, x12] S =
    R [x0, x1, some g.d, x3, x4, x5, x6, some (.loc S.length), x8, x9, x10, x11, x12] (S ++ [.lst [.lam 4 qL (ob 4), .lam 5 qL (ob 5)]]) := by
  have q4 : V11 ob cl cl2 [x0, x1, some g.d, x3, x4, x5, x6, x7, x8, x9, x10, x11, x12] S = .nx [x0, x1, some g.d, x3, x4, x5, x6, some (.loc S.length), x8, x9, x10, x11, x12] (S ++ [.lst [.lam 4 qL (ob 4)]]) := set_go (i := 7) (cel_go (fcons_go (fLam_ok t3) fNil_ap) (by simp))
  have q5 : V12 ob cl cl2 [x0, x1, some g.d, x3, x4, x5, x6, some (.loc S.length), x8, x9, x10, x11, x12] (S ++ [.lst [.lam 4 qL (ob 4)]]) = .nx [x0, x1, some g.d, x3, x4, x5, x6, some (.loc S.length), x8, x9, x10, x11, x12] (S ++ [.lst [.lam 4 qL (ob 4), .lam 5 qL (ob 5)]]) := apL_go t3 rfl (by simp)
  rw [seq_go q4, seq_go q5]
theorem v13_go (hm : 20 ≤ m2) (hk : g.sz ≤ 3) (hg : Gs gs) {a : Nat} (at_ : S[a]? = some (.lst [.lam 4 qL (ob 4), .lam 5 qL (ob 5)])) :
    V13 ob cl (ev m2) [x0, x1, some g.d, x3, x4, some (.lst gs), x6, some (.loc a), some (.lst ((enumD 0 gs).map rowK)), some nm, x10, x11, x12] S = .rt (.bl true) S := by
  have k1 : ∀ T : Store, ev m2 .f_search [.lst ((enumD 0 gs).map rowK), g.d] T = .ex nolib T := fun T => se_lib (by omega) (by omega) hg
  have k2 : ∀ T : Store, ev m2 .f_search_fault [.lst ((enumD 0 gs).map rowK), g.d, nm, .non] T = .ex nolib T := fun T => sf_lib (by omega) (by omega) hg
  generalize (enumD 0 gs).map rowK = Q at *
  unfold V13
  refine ret_go (f2_go (comp_go (x := .str "library") rfl (by simp) at_ (by simp) fun d hd => ?_) (f2_go (lst_go (fcons_go fC_ap fNil_ap) (by simp)) fC_ap (show gMul false (.lst [.str "library"]) (.int 2) S = .ok (.lst [.str "library", .str "library"]) S from rfl)) ?_)
  · simp only [List.mem_cons, List.not_mem_nil, or_false] at hd
    rcases hd with z | z <;> subst z
    · refine gth_lib (i := 4) rfl fun T => ?_
      exact arg_go (fcons_go (var_go (i := 8) rfl) (fcons_go (var_go (i := 2) rfl) fNil_ap)) (k1 T)
    · refine gth_lib (i := 5) rfl fun T => ?_
      exact arg_go (fcons_go (var_go (i := 8) rfl) (fcons_go (var_go (i := 2) rfl) (fcons_go (var_go (i := 9) rfl) (fcons_go fC_ap fNil_ap)))) (k2 T)
  · exact Eqd.eq (q := 5) (Eqd.lst (.cons (.str (by decide +kernel)) (.cons (.str (by decide +kernel)) .nil))) (by omega)
end
theorem lists_sp {n w : Nat} {S : Store} {g : Kd} {b : D} {N : Nat} (h : 40 ≤ n) (hw : Well S w) (hw4 : 4 ≤ w) (t3 : S[3]? = some (.tab "_law_lists_right")) (hg : g.sz ≤ 3) (hb : Bad b N) (hN : N ≤ 7000000) : ∃ S', ev n .f__law_lists_right [.loc w, b, g.d] S = .ok (.bl true) S' ∧ WS S w S' := by
  obtain ⟨m, rfl⟩ : ∃ m, n = m + 3 := ⟨n - 3, by omega⟩
  have hwl : w < S.length := by obtain ⟨a, b, c, _, _, at_⟩ := hw; exact lt_of_at at_
  obtain ⟨r1, S1, e1, a1, b1, w1⟩ := draw_sp (n := m + 2) (m := 5) (by omega) hw (by omega) (by omega)
  obtain ⟨SL, hSL⟩ : ∃ SL, SL = cutL [g.d, .tup [.str "unit"], .tup [.str "base", .int 3], g.d] none (some r1) := ⟨_, rfl⟩
  have l4 : SL.length ≤ 4 := by rw [hSL]; exact len_cutL
  obtain ⟨r2, S2, e2, a2, b2, w2⟩ := draw_sp (n := m + 2) (m := (SL.length : Int) + 1) (by omega) w1.well (by omega) (by omega)
  have G := gs_of hg hb hN r1 r2 hSL
  obtain ⟨gs, hgs⟩ : ∃ gs, gs = (cutL SL none (some r2) ++ [b]) ++ cutL SL (some r2) none := ⟨_, rfl⟩
  rw [← hgs] at G
  obtain ⟨r3, S3, e3, a3, b3, w3⟩ := draw_sp (n := m + 2) (m := 4) (by omega) w2.well (by omega) (by omega)
  have ws := (w1.trans w2).trans w3
  have t3' : S3[3]? = some (.tab "_law_lists_right") := by rw [ws.same 3 (by omega)]; exact t3
  have l3 : 3 < S3.length := lt_of_at t3'
  obtain ⟨wa, wb, wc, ha, hc, at3⟩ := w3.well
  obtain ⟨r4, a', c', a4, b4, ha', hc', hdr⟩ := draw_det (n := m + 2) (w := w) (b := wb) (m := 4) (by omega) ha hc (by omega) (by omega)
  have wE : WS S w (S3.set w (.lst [.int a', .int wb, .int c'])) := ws.trans (WS.set at3 ha' hc')
  have lE : S3.length = S.length := ws.len
  have step : ∀ ob : Nat → Ob, rtCut S (b0__law_lists_right ob (ev (m + 2)) (ev m) [some (.loc w), some b, some g.d, none, none, none, none, none, none, none, none, none, none] S) = .rt (.bl true) (S3.set w (.lst [.int a', .int wb, .int c'])) := fun ob => by
    obtain ⟨t, q3⟩ := v3_go (ob := ob) (cl2 := ev m) (b := b) (g := g) (x3 := some (.lst SL)) (x4 := some (.int r2)) (x5 := some (.lst gs)) (x6 := none) (x7 := none) (x8 := none) (x9 := none) (x10 := none) (x11 := none) (x12 := none) e3 a3 b3
    obtain ⟨C, hC⟩ : ∃ C, C = [Cell.lst [.lam 0 qL (ob 0), .lam 1 qL (ob 1), .lam 2 qL (ob 2), .lam 3 qL (ob 3)]] := ⟨_, rfl⟩
    have atC : (S3 ++ C)[w]? = some (.lst [.int wa, .int wb, .int wc]) := at_app at3 C
    have w4 : WS (S3 ++ C) w ((S3 ++ C).set w (.lst [.int a', .int wb, .int c'])) := WS.set atC ha' hc'
    have e4 := hdr _ atC
    obtain ⟨S4, hS4⟩ : ∃ S4, S4 = (S3 ++ C).set w (.lst [.int a', .int wb, .int c']) := ⟨_, rfl⟩
    rw [← hS4] at e4 w4
    obtain ⟨nm, q10⟩ := v10_go (ob := ob) (cl2 := ev m) (b := b) (g := g) (x3 := some (.lst SL)) (x4 := some (.int r2)) (x5 := some (.lst gs)) (x6 := some t) (x7 := some (.loc S3.length)) (x8 := some (.lst ((enumD 0 gs).map rowK))) (x9 := none) (x10 := none) (x11 := none) (x12 := none) e4 a4 b4
    have t4 : S4[3]? = some (.tab "_law_lists_right") := by rw [w4.same 3 (by omega)]; exact at_app t3' C
    have q0 := v0_go (ob := ob) (cl2 := ev m) (b := b) (g := g) (x3 := none) (x4 := none) (x5 := none) (x6 := none) (x7 := none) (x8 := none) (x9 := none) (x10 := none) (x11 := none) (x12 := none) e1
    rw [← hSL] at q0
    have q1 := v1_go (ob := ob) (cl2 := ev m) (b := b) (g := g) (SL := SL) (x4 := none) (x5 := none) (x6 := none) (x7 := none) (x8 := none) (x9 := none) (x10 := none) (x11 := none) (x12 := none) e2
    have q2 := v2_go (ob := ob) (cl2 := ev m) (m := m + 2) (w := w) (S := S2) (b := b) (g := g) (r := r2) (x5 := none) (x6 := none) (x7 := none) (x8 := none) (x9 := none) (x10 := none) (x11 := none) (x12 := none) l4
    rw [← hgs] at q2
    have q8 := v8_go (ob := ob) (cl := ev (m + 2)) (m2 := m) (S := S3 ++ C) (g := g) (t := t) (x0 := some (.loc w)) (x1 := some b) (x3 := some (.lst SL)) (x4 := some (.int r2)) (x8 := none) (x9 := none) (x10 := none) (x11 := none) (x12 := none) (by omega) G (a := S3.length) (by rw [hC]; simp)
    have q9 := v9_go (ob := ob) (cl := ev (m + 2)) (cl2 := ev m) (S := S3 ++ C) (g := g) (x0 := some (.loc w)) (x1 := some b) (x3 := some (.lst SL)) (x4 := some (.int r2)) (x6 := some t) (x7 := some (.loc S3.length)) (x8 := none) (x9 := none) (x10 := none) (x11 := none) (x12 := none) G
    have q13 := v13_go (ob := ob) (cl := ev (m + 2)) (m2 := m) (S := S4 ++ [.lst [.lam 4 qL (ob 4), .lam 5 qL (ob 5)]]) (g := g) (nm := nm) (x0 := some (.loc w)) (x1 := some b) (x3 := some (.lst SL)) (x4 := some (.int r2)) (x6 := some t) (x10 := none) (x11 := none) (x12 := none) (by omega) hg G (a := S4.length) (by simp)
    have e : b0__law_lists_right ob (ev (m + 2)) (ev m) [some (.loc w), some b, some g.d, none, none, none, none, none, none, none, none, none, none] S = .rt (.bl true) (S4 ++ [.lst [.lam 4 qL (ob 4), .lam 5 qL (ob 5)]]) := by
      rw [Veq, seq_go q0, seq_go q1, seq_go q2, seq_go q3, v47_go t3', ← hC, seq_go q8, seq_go q9, seq_go q10, v12_go t4, q13]
    have wx : WX S w (S4 ++ [.lst [.lam 4 qL (ob 4), .lam 5 qL (ob 5)]]) := ((ws.wx.trans (WX.app w3.well C)).trans w4.wx).trans (WX.app w4.well _)
    obtain ⟨c1, c2⟩ := cutX (d := .bl true) hwl wx rfl
    have et : (S4 ++ [Cell.lst [.lam 4 qL (ob 4), .lam 5 qL (ob 5)]]).take S.length = S3.set w (.lst [.int a', .int wb, .int c']) := by
      have hw3 : w < S3.length := lt_of_at at3
      have e1 : S4 = S3.set w (.lst [.int a', .int wb, .int c']) ++ C := by rw [hS4, List.set_append_left _ _ hw3]
      rw [e1, List.append_assoc]
      have e2 : S.length = (S3.set w (.lst [.int a', .int wb, .int c'])).length := by rw [List.length_set, lE]
      rw [e2, List.take_left]
    rw [e]
    unfold rtCut
    simp only
    rw [c1, et]
  have ea : b__law_lists_right (ev (m + 2)) (ev m) [some (.loc w), some b, some g.d, none, none, none, none, none, none, none, none, none, none] S = .rt (.bl true) (S3.set w (.lst [.int a', .int wb, .int c'])) := aObsF_eq step
  have eB : fnB 3 13 (b__law_lists_right (ev (m + 2)) (ev m)) [.loc w, b, g.d] S = .ok (.bl true) (S3.set w (.lst [.int a', .int wb, .int c'])) := by
    show RS.fin (b__law_lists_right (ev (m + 2)) (ev m) [some (.loc w), some b, some g.d, none, none, none, none, none, none, none, none, none, none] S) = _
    rw [ea, fin_rt]
  obtain ⟨d1, d2⟩ := cutX (d := .bl true) hwl wE.wx rfl
  exact ⟨_, by rw [ev, fnC_ap, eB]; exact d1, d2⟩
end Kz
namespace Kz
open PySem PySem.Spec PyProof.Rows L2 Kw
noncomputable def Z0 (cl : Fn → FF) : FS := (sSet 2 (fArg (cl .f__law_well) (fCons (fVar 1) fNil)))
noncomputable def Z1 (cl : Fn → FF) : FS := (sSet 3 (fArg (cl .f__law_deep) (fCons (fVar 2) (fCons (f2 (gAdd false) (fC (.int 1)) (drE cl 2 12)) fNil))))
noncomputable def Z2 (cl : Fn → FF) : FS := (sSet 4 (fArg (cl .f__law_spoilt) (fCons (fVar 2) (fCons (fVar 3) fNil))))
noncomputable def Z3 (cl : Fn → FF) : FS := (sIf (fOr (fB (f2 (gIs true) (fArg (cl .f_is_kind) (fCons (fVar 3) fNil)) (fC (.bl true)))) (fOr (fB (f2 (gIs true) (fArg (cl .f_is_kind) (fCons (fVar 4) fNil)) (fC (.bl false)))) (fB (f2 gNe (fArg (cl .f_read_kind) (fCons (fArg (cl .f_kind_text) (fCons (fVar 3) fNil)) fNil)) (fVar 3))))) (sRet (fC (.bl false))) sNil)
noncomputable def Z4 (cl : Fn → FF) : FS := (sSet 5 (f2 gIx (fArg mkLst (fCons (fArg mkTup (fCons (fC (.str "base")) (fCons (fC (.int 2)) fNil))) (fCons (fArg mkTup (fCons (fC (.str "unit")) fNil)) (fCons (fArg mkTup (fCons (fC (.str "both")) (fCons (fArg mkTup (fCons (fC (.str "base")) (fCons (fC (.int 1)) fNil))) (fCons (fArg mkTup (fCons (fC (.str "base")) (fCons (fC (.int 0)) fNil))) fNil)))) fNil)))) (drE cl 2 3)))
noncomputable def Z5 (cl : Fn → FF) : FS := (sSet 6 (f2 gIx (fArg mkLst (fCons (fDic [] []) (fCons (fC (.str "none")) (fCons (fC (.int 0)) (fCons (fArg mkLst (fCons (fC (.int 0)) fNil)) (fCons (fArg mkTup (fCons (fC .non) fNil)) (fCons (fC (.bl true)) fNil))))))) (drE cl 2 6)))
noncomputable def Z6 (cl : Fn → FF) : FS := (sSet 7 (fLc false (fiL (f2 (gAdd false) (fArg (cl .f__law_asks) (fCons (fVar 4) (fCons (fVar 5) (fCons (fC .non) fNil)))) (fArg (cl .f__law_asks) (fCons (fVar 4) (fCons (fVar 5) (fCons (fVar 6) fNil)))))) (gN 8) fYes (fArg (cl .f__law_word) (fCons (fVar 8) fNil)) [8]))
noncomputable def Z7 (cl : Fn → FF) : FS := (sIf (fOr (fB (f2 gNe (fVar 7) (f2 (gMul false) (fArg mkLst (fCons (fC (.str "kind")) fNil)) (fC (.int 36))))) (fNot (fTru (fArg (cl .f__law_lists_right) (fCons (fVar 2) (fCons (fVar 4) (fCons (fVar 5) fNil))))))) (sRet (fC (.bl false))) sNil)
theorem Zeq (cl : Fn → FF) : l_law_0 cl = sSeq (Z0 cl) (sSeq (Z1 cl) (sSeq (Z2 cl) (sSeq (Z3 cl) (sSeq (Z4 cl) (sSeq (Z5 cl) (sSeq (Z6 cl) (Z7 cl))))))) := rfl
/-- the top of the store -/
structure Top (S : Store) : Prop where
  t1 : Tab1 S
  t2 : S[2]? = some (.tab "_law_asks")
  t3 : S[3]? = some (.tab "_law_lists_right")
  pl : plainS S = true
theorem plainS_of {S : Store} (h : ∀ (i : Nat) c, S[i]? = some c → plainS [c] = true) : plainS S = true := by
  unfold plainS
  rw [List.all_eq_true]
  intro c hc
  obtain ⟨i, hi⟩ := List.mem_iff_getElem?.mp hc
  have := h i c hi
  simpa [plainS] using this
theorem plainS_at {S : Store} (h : plainS S = true) {i : Nat} {c : Cell} (hi : S[i]? = some c) : plainS [c] = true := by
  have := List.all_eq_true.mp h c (List.mem_of_getElem? hi)
  simpa [plainS] using this
theorem Top.ws {S S' : Store} {w : Nat} (t : Top S) (h : WS S w S') (hw : 4 ≤ w) : Top S' := by
  refine ⟨?_, ?_, ?_, plainS_of fun i c hi => ?_⟩
  · show S'[1]? = _
    rw [h.same 1 (by omega)]; exact t.t1
  · rw [h.same 2 (by omega)]; exact t.t2
  · rw [h.same 3 (by omega)]; exact t.t3
  · by_cases e : i = w
    · subst e
      obtain ⟨a, b, c', _, _, at_⟩ := h.well
      rw [at_] at hi
      cases hi
      simp [plainS, plainL, plainD]
    · rw [h.same i e] at hi
      exact plainS_at t.pl hi
theorem Top.new {S : Store} {c : Cell} (t : Top S) (w : Well (S ++ [c]) S.length) : Top (S ++ [c]) := by
  have l1 : 1 < S.length := lt_of_at (show S[1]? = _ from t.t1)
  refine ⟨at_app t.t1 _, at_app t.t2 _, at_app t.t3 _, plainS_of fun i cc hi => ?_⟩
  by_cases hi2 : i < S.length
  · rw [List.getElem?_append_left hi2] at hi
    exact plainS_at t.pl hi
  · by_cases e : i = S.length
    · subst e
      obtain ⟨a, b, c', _, _, at_⟩ := w
      rw [at_] at hi
      cases hi
      simp [plainS, plainL, plainD]
    · rw [List.getElem?_eq_none (by simp; omega)] at hi
      cases hi
def odds : List D := [.dic [] [], .str "none", .int 0, .lst [.int 0], .tup [.non], .bl true]
theorem odds_ok : ∀ d ∈ odds, plainD d = true ∧ ∀ T, gIs true d .non T = .ok (.bl true) T := by
  intro d hd
  simp only [odds, List.mem_cons, List.not_mem_nil, or_false] at hd
  rcases hd with h | h | h | h | h | h <;> subst h <;> exact ⟨by simp [plainD, plainL], fun T => rfl⟩
theorem iter_go {m : Nat} (hm : 200 ≤ m) {x0 : Option D} {i : Int} {S : Store} (T : Top S) {x2 x3 x4 x5 x6 x7 x8 : Option D} :
    ∃ y2 y3 y4 y5 y6 y7 y8 S', l_law_0 (ev m) [x0, some (.int i), x2, x3, x4, x5, x6, x7, x8] S = .nx [x0, some (.int i), y2, y3, y4, y5, y6, y7, y8] S' ∧ Top S' := by
  have l4 : 4 ≤ S.length := lt_of_at T.t3
  obtain ⟨c0, e0, w0⟩ := well_new (n := m) (S := S) (i := i) (by omega)
  have T0 := T.new w0
  generalize hw : S.length = w at *
  generalize hS0 : S ++ [c0] = S0 at *
  obtain ⟨r1, S1, e1, a1, b1, w1⟩ := draw_sp (n := m) (m := 12) (by omega) w0 (by omega) (by omega)
  obtain ⟨L, hL⟩ : ∃ L : Nat, 1 + r1 = (L : Int) := ⟨(1 + r1).toNat, by omega⟩
  obtain ⟨K, S2, e2, w2, dK, sK⟩ := deep_sp (n := m) (L := L) (by omega) w1.well (by omega)
  obtain ⟨B, S3, e3, w3, bB⟩ := spoilt_sp 20 (k := K) (n := m) (w := w) (by omega) (by omega) w2.well
  obtain ⟨r4, S4, e4, a4, b4, w4⟩ := draw_sp (n := m) (m := 3) (by omega) w3.well (by omega) (by omega)
  obtain ⟨r5, S5, e5, a5, b5, w5⟩ := draw_sp (n := m) (m := 6) (by omega) w4.well (by omega) (by omega)
  have T3 := ((T0.ws w1 l4).ws w2 l4).ws w3 l4
  have T5 := (T3.ws w4 l4).ws w5 l4
  have bN : Bad B 1000 := bB.mono (by omega)
  obtain ⟨sd, hsd, q4'⟩ := pick (a := fArg mkLst (fCons (fArg mkTup (fCons (fC (.str "base")) (fCons (fC (.int 2)) fNil))) (fCons (fArg mkTup (fCons (fC (.str "unit")) fNil)) (fCons (fArg mkTup (fCons (fC (.str "both")) (fCons (fArg mkTup (fCons (fC (.str "base")) (fCons (fC (.int 1)) fNil))) (fCons (fArg mkTup (fCons (fC (.str "base")) (fCons (fC (.int 0)) fNil))) fNil)))) fNil)))) (b := drE (ev m) 2 3) (ρ := [x0, some (.int i), some (.loc w), some K.d, some B, x5, x6, x7, x8]) (S := S3)
    (lst_go (fcons_go (tup_go (fcons_go fC_ap (fcons_go fC_ap fNil_ap)) (by simp)) (fcons_go ut_go (fcons_go (tup_go (fcons_go fC_ap (fcons_go (tup_go (fcons_go fC_ap (fcons_go fC_ap fNil_ap)) (by simp)) (fcons_go (tup_go (fcons_go fC_ap (fcons_go fC_ap fNil_ap)) (by simp)) fNil_ap))) (by simp)) fNil_ap))) (by simp)) (dr_go rfl e4) a4 (by simpa using b4)
  have hG : ∃ g : Kd, sd = g.d ∧ g.sz ≤ 3 := by
    simp only [List.mem_cons, List.not_mem_nil, or_false] at hsd
    rcases hsd with z | z | z
    · exact ⟨.base 2, z, by simp [Kd.sz]⟩
    · exact ⟨.unit, z, by simp [Kd.sz]⟩
    · exact ⟨.both (.base 1) (.base 0), z, by simp [Kd.sz]⟩
  obtain ⟨g, rfl, hg⟩ := hG
  obtain ⟨od, hod, q5'⟩ := pick (a := fArg mkLst (fCons (fDic [] []) (fCons (fC (.str "none")) (fCons (fC (.int 0)) (fCons (fArg mkLst (fCons (fC (.int 0)) fNil)) (fCons (fArg mkTup (fCons (fC .non) fNil)) (fCons (fC (.bl true)) fNil))))))) (b := drE (ev m) 2 6) (ρ := [x0, some (.int i), some (.loc w), some K.d, some B, some g.d, x6, x7, x8]) (S := S4)
    (lst_go (fcons_go fDic_ap (fcons_go fC_ap (fcons_go fC_ap (fcons_go (lst_go (fcons_go fC_ap fNil_ap) (by simp)) (fcons_go (tup_go (fcons_go fC_ap fNil_ap) (by simp)) (fcons_go fC_ap fNil_ap)))))) (by simp)) (dr_go rfl e5) a5 (by simpa using b5)
  obtain ⟨pod, kod⟩ := odds_ok od hod
  obtain ⟨S6, e7, w6⟩ := lists_sp (n := m) (g := g) (b := B) (by omega) w5.well l4 T5.t3 hg bN (by omega)
  have q0 : Z0 (ev m) [x0, some (.int i), x2, x3, x4, x5, x6, x7, x8] S = .nx [x0, some (.int i), some (.loc w), x3, x4, x5, x6, x7, x8] S0 := set_go (i := 2) (arg_go (fcons_go (var_go (i := 1) rfl) fNil_ap) e0)
  have q1 : Z1 (ev m) [x0, some (.int i), some (.loc w), x3, x4, x5, x6, x7, x8] S0 = .nx [x0, some (.int i), some (.loc w), some K.d, x4, x5, x6, x7, x8] S2 := by
    refine set_go (i := 3) (arg_go (fcons_go (var_go (i := 2) rfl) (fcons_go (f2_go (fC_ap (d := .int 1)) (dr_go (i := 2) rfl e1) rfl) fNil_ap)) ?_)
    rw [hL]; exact e2
  have q2 : Z2 (ev m) [x0, some (.int i), some (.loc w), some K.d, x4, x5, x6, x7, x8] S2 = .nx [x0, some (.int i), some (.loc w), some K.d, some B, x5, x6, x7, x8] S3 := set_go (i := 4) (arg_go (fcons_go (var_go (i := 2) rfl) (fcons_go (var_go (i := 3) rfl) fNil_ap)) e3)
  have k1 : ev m .f_is_kind [K.d] S3 = .ok (.bl true) S3 := is_kind_kd (by omega) (by omega)
  have k2 : ev m .f_is_kind [B] S3 = .ok (.bl false) S3 := by rw [is_kind_gen (by omega) (Nat.le_trans bN.n (by omega)) bN.ly, bN.no]
  have k3 : ev m .f_kind_text [K.d] S3 = .ok (.str (tx K)) S3 := kind_text_kd K (by omega) (by omega)
  have k4 : ev m .f_read_kind [.str (tx K)] S3 = .ok K.d S3 := read_kd K (by omega) (by omega)
  have k5 : gNe K.d K.d S3 = .ok (.bl false) S3 := Eqd.ne (Eqd.kd K) (by omega)
  have q3 : Z3 (ev m) [x0, some (.int i), some (.loc w), some K.d, some B, x5, x6, x7, x8] S3 = .nx [x0, some (.int i), some (.loc w), some K.d, some B, x5, x6, x7, x8] S3 := by
    unfold Z3
    refine if_no (or_go (S1 := S3) (fB_go (f2_go (arg_go (fcons_go (var_go (i := 3) rfl) fNil_ap) k1) fC_ap rfl)) (or_go (S1 := S3) (fB_go (f2_go (arg_go (fcons_go (var_go (i := 4) rfl) fNil_ap) k2) fC_ap rfl)) (fB_go (f2_go (arg_go (fcons_go (arg_go (fcons_go (var_go (i := 3) rfl) fNil_ap) k3) fNil_ap) k4) (var_go (i := 3) rfl) k5))))
  have q4 : Z4 (ev m) [x0, some (.int i), some (.loc w), some K.d, some B, x5, x6, x7, x8] S3 = .nx [x0, some (.int i), some (.loc w), some K.d, some B, some g.d, x6, x7, x8] S4 := set_go (i := 5) q4'
  have q5 : Z5 (ev m) [x0, some (.int i), some (.loc w), some K.d, some B, some g.d, x6, x7, x8] S4 = .nx [x0, some (.int i), some (.loc w), some K.d, some B, some g.d, some od, x7, x8] S5 := set_go (i := 6) q5'
  have q6 : Z6 (ev m) [x0, some (.int i), some (.loc w), some K.d, some B, some g.d, some od, x7, x8] S5 = .nx [x0, some (.int i), some (.loc w), some K.d, some B, some g.d, some od, some (.lst (List.replicate 36 (.str "kind"))), x8] S5 := set_go (i := 7) (words_sp (by omega) T5.t1 T5.t2 T5.pl bN (by omega) hg pod kod)
  have q7 : Z7 (ev m) [x0, some (.int i), some (.loc w), some K.d, some B, some g.d, some od, some (.lst (List.replicate 36 (.str "kind"))), x8] S5 = .nx [x0, some (.int i), some (.loc w), some K.d, some B, some g.d, some od, some (.lst (List.replicate 36 (.str "kind"))), x8] S6 := by
    unfold Z7
    have em : gMul false (.lst [.str "kind"]) (.int 36) S5 = .ok (.lst (List.replicate 36 (.str "kind"))) S5 := rfl
    have en : gNe (.lst (List.replicate 36 (.str "kind"))) (.lst (List.replicate 36 (.str "kind"))) S5 = .ok (.bl false) S5 := Eqd.ne (q := 5) (Eqd.lst (EqdL.all fun d hd => by
      have : d = .str "kind" := List.eq_of_mem_replicate hd
      rw [this]; exact Eqd.str (by decide +kernel))) (by omega)
    generalize D.lst (List.replicate 36 (.str "kind")) = RR at *
    refine if_no (or_go (S1 := S5) (fB_go (f2_go (var_go (i := 7) rfl) (f2_go (lst_go (fcons_go fC_ap fNil_ap) (by simp)) fC_ap em) en)) ?_)
    have el : fArg (ev m .f__law_lists_right) (fCons (fVar 2) (fCons (fVar 4) (fCons (fVar 5) fNil))) [x0, some (.int i), some (.loc w), some K.d, some B, some g.d, some od, some RR, x8] S5 = .ok (.bl true) S6 := arg_go (fcons_go (var_go (i := 2) rfl) (fcons_go (var_go (i := 4) rfl) (fcons_go (var_go (i := 5) rfl) fNil_ap))) e7
    rw [fNot_ap, fTru_ap, el]
    rfl
  exact ⟨_, _, _, _, _, _, _, S6, by rw [Zeq, seq_go q0, seq_go q1, seq_go q2, seq_go q3, seq_go q4, seq_go q5, seq_go q6, q7], T5.ws w6 l4⟩
theorem law_loop {m : Nat} (hm : 200 ≤ m) {x0 : Option D} : ∀ (ns : List Int) {S : Store}, Top S → ∀ {x1 x2 x3 x4 x5 x6 x7 x8 : Option D}, ∃ y1 y2 y3 y4 y5 y6 y7 y8 S', forL (gN 1) (l_law_0 (ev m)) none (ns.map D.int) [x0, x1, x2, x3, x4, x5, x6, x7, x8] S = .nx [x0, y1, y2, y3, y4, y5, y6, y7, y8] S'
  | [], S, _, x1, x2, x3, x4, x5, x6, x7, x8 => ⟨x1, x2, x3, x4, x5, x6, x7, x8, S, by simp⟩
  | i :: ns, S, T, x1, x2, x3, x4, x5, x6, x7, x8 => by
    obtain ⟨z2, z3, z4, z5, z6, z7, z8, S1, e1, T1⟩ := iter_go hm (x0 := x0) (i := i) T (x2 := x2) (x3 := x3) (x4 := x4) (x5 := x5) (x6 := x6) (x7 := x7) (x8 := x8)
    obtain ⟨y1, y2, y3, y4, y5, y6, y7, y8, S', e2⟩ := law_loop hm (x0 := x0) ns T1 (x1 := some (.int i)) (x2 := z2) (x3 := z3) (x4 := z4) (x5 := z5) (x6 := z6) (x7 := z7) (x8 := z8)
    refine ⟨y1, y2, y3, y4, y5, y6, y7, y8, S', ?_⟩
    rw [← e2]
    show forL _ _ _ (.int i :: ns.map D.int) _ _ = _
    rw [forL_cons, gN_ap, tgR_some]
    show loopR _ (l_law_0 (ev m) [x0, some (.int i), x2, x3, x4, x5, x6, x7, x8] S) = _
    rw [e1, loopR_nx]
theorem cutL_map {α β : Type} (f : α → β) (L : List α) (lo hi : Option Int) : cutL (L.map f) lo hi = (cutL L lo hi).map f := by
  simp [cutL, List.map_drop, List.map_take]
theorem law_src {ns : List Int} (hl : ns.length ≤ 63) {S : Store} {r : FEnv} : fiL (f2 (gAdd false) (fArg mkLst (fCons (fC (.int 0)) (fCons (fC (.int 3)) fNil))) (fSl (gSl false) (fVar 0) fNone (fSome (fC (.int 8))))) (some (.fls (ns.map .int)) :: r) S = .ok ((0 :: 3 :: cutL ns none (some 8)).map D.int, none) S := by
  have h8 : sizeLine = 16777216 := rfl
  have hc : (cutL ns none (some 8)).length ≤ ns.length := by simp [cutL]; omega
  have h9 : (cutL ns none (some 8)).length + 1 + 1 ≤ sizeLine := by omega
  simp [cutL_map, h9]
theorem law_true (ns : List Int) (hl : ns.length ≤ 63) {c P c' P' c2 P2 : Addr} : ∃ S', Kw.fnB 1 9 (b_law (ev 230)) [.fls (ns.map .int)] (topS0 [(c, P, "order_of"), (c', P', "_law_asks"), (c2, P2, "_law_lists_right")]) = .ok (.bl true) S' := by
  have T : Top (topS0 [(c, P, Str.ofString "order_of"), (c', P', Str.ofString "_law_asks"), (c2, P2, Str.ofString "_law_lists_right")]) := ⟨rfl, rfl, rfl, rfl⟩
  generalize topS0 [(c, P, Str.ofString "order_of"), (c', P', Str.ofString "_law_asks"), (c2, P2, Str.ofString "_law_lists_right")] = S at *
  obtain ⟨y1, y2, y3, y4, y5, y6, y7, y8, S', e2⟩ := law_loop (m := 230) (by omega) (x0 := some (.fls (ns.map .int))) (0 :: 3 :: cutL ns none (some 8)) T (x1 := none) (x2 := none) (x3 := none) (x4 := none) (x5 := none) (x6 := none) (x7 := none) (x8 := none)
  refine ⟨S', ?_⟩
  rw [b_law, fnB_1]
  show RS.fin (sSeq (sFor _ _ _) _ [some (.fls (ns.map .int)), none, none, none, none, none, none, none, none] S) = _
  have q : sFor (fiL (f2 (gAdd false) (fArg mkLst (fCons (fC (.int 0)) (fCons (fC (.int 3)) fNil))) (fSl (gSl false) (fVar 0) fNone (fSome (fC (.int 8)))))) (gN 1) (l_law_0 (ev 230)) [some (.fls (ns.map .int)), none, none, none, none, none, none, none, none] S = .nx [some (.fls (ns.map .int)), y1, y2, y3, y4, y5, y6, y7, y8] S' := by
    rw [sFor_ap, law_src hl, toS_ok, e2]
  rw [seq_go q]
  rfl
end Kz
open PySem PySem.W PyProof.Rows
local macro_rules | `(tactic| o_head $t:term) => do
  let (hw, hc) := (Lean.mkIdent `hw, Lean.mkIdent `hc)
  `(tactic| (refine PySem.W.holds_open (r := Kz.Hd.R) (q := Kz.Hd.qv) (loose := Kz.Hd.nm) (Xt := fun s => xlAt Kz.Hd.qv [] s && recOk (RowW.records (OpenRow.toRowW Kz.Hd.R)) s) (XP := XL Kz.Hd.qv []) (Yf := Hook.obs $t) (Ya := Hook.val $t) (YP := Hook.says $t) (N := 9600) ?hlx (Hook.of $t) (Hook.keeps $t) (fun s e => xl_of s (Bool.and_eq_true_iff.mp e).1) XL.keeps (by rfl) (by rfl) (by rfl) (fun s e => recFacts_of (Bool.and_eq_true_iff.mp e).2) (by rfl) (by first | assumption | decide +kernel) (by decide +kernel) ⟨rfl, rfl, rfl, rfl, rfl, by decide +kernel⟩ ?$hw ?$hc; (case hlx => (refine Kz.Hd.left_km (M := 9000) (by kernel_rfl) (by rfl) (fun s => by kernel_rfl) (by rfl) ?hf ?ht; (case hf => exact Kz.Hd.runF); (case ht => exact Kz.Hd.runT)))))
set_option maxRecDepth 100000 in
set_option maxHeartbeats 0 in
theorem PySem.Challenge.cw_kindswap_k05_kinds_spoilt_at_any_depth_holds : PySem.Challenge.rw_kindswap_k05_kinds_spoilt_at_any_depth.Holds := by
  w_on; o_law; k_head; (case hw => w_witness2)
  as_aux_lemma =>
    k_fill
    refine Kw.walk_t (l := PySem.Challenge.rw_kindswap_k05_kinds_spoilt_at_any_depth) (k := 230 + 1) (x := "_law_script") rfl rfl ⟨⟨by decide, by decide, by decide⟩, rfl⟩ (by decide +kernel) (fun w h Y => PySem.W.km_in_of Y) ?F (fun w H s e s' h => Kw.cx_no h)
    case F =>
      intro w mg mb mean fa h TT KX G hmg
      letI : Kw.Wo := ⟨w⟩
      have t_is_from : Kw.TF (L2.KOf KX) mg "is_from" Kz.s_is_from ["thing", "low", "high"] := by
        unfold L2.KOf
        refine' Kw.tf_mk KX G ?a ?l ?c ?k ?b
        (case a => k_is); (case l => k_is); (case c => k_is); (case k => k_is)
        (case b => exact fun _ _ _ _ _ _ us hl => match us, hl with | [_, _, _], _ => rfl)
      have t_inner_of : Kw.TF (L2.KOf KX) mg "inner_of" Kz.s_inner_of ["thing"] := by
        unfold L2.KOf
        refine' Kw.tf_mk KX G ?a ?l ?c ?k ?b
        (case a => k_is); (case l => k_is); (case c => k_is); (case k => k_is)
        (case b => exact fun _ _ _ _ _ _ us hl => match us, hl with | [_], _ => rfl)
      have t_is_kind : Kw.TF (L2.KOf KX) mg "is_kind" Kz.s_is_kind ["thing"] := by
        unfold L2.KOf
        refine' Kw.tf_mk KX G ?a ?l ?c ?k ?b
        (case a => k_is); (case l => k_is); (case c => k_is); (case k => k_is)
        (case b => exact fun _ _ _ _ _ _ us hl => match us, hl with | [_], _ => rfl)
      have t_sure_kind : Kw.TF (L2.KOf KX) mg "sure_kind" Kz.s_sure_kind ["thing"] := by
        unfold L2.KOf
        refine' Kw.tf_mk KX G ?a ?l ?c ?k ?b
        (case a => k_is); (case l => k_is); (case c => k_is); (case k => k_is)
        (case b => exact fun _ _ _ _ _ _ us hl => match us, hl with | [_], _ => rfl)
      have t_plain_text : Kw.TF (L2.KOf KX) mg "plain_text" Kz.s_plain_text ["kind"] := by
        unfold L2.KOf
        refine' Kw.tf_mk KX G ?a ?l ?c ?k ?b
        (case a => k_is); (case l => k_is); (case c => k_is); (case k => k_is)
        (case b => exact fun _ _ _ _ _ _ us hl => match us, hl with | [_], _ => rfl)
      have t_kind_text : Kw.TF (L2.KOf KX) mg "kind_text" Kz.s_kind_text ["kind"] := by
        unfold L2.KOf
        refine' Kw.tf_mk KX G ?a ?l ?c ?k ?b
        (case a => k_is); (case l => k_is); (case c => k_is); (case k => k_is)
        (case b => exact fun _ _ _ _ _ _ us hl => match us, hl with | [_], _ => rfl)
      have t_closed : Kw.TF (L2.KOf KX) mg "closed" Kz.s_closed ["things"] := by
        unfold L2.KOf
        refine' Kw.tf_mk KX G ?a ?l ?c ?k ?b
        (case a => k_is); (case l => k_is); (case c => k_is); (case k => k_is)
        (case b => exact fun _ _ _ _ _ _ us hl => match us, hl with | [_], _ => rfl)
      have t_read_kind : Kw.TF (L2.KOf KX) mg "read_kind" Kz.s_read_kind ["text"] := by
        unfold L2.KOf
        refine' Kw.tf_mk KX G ?a ?l ?c ?k ?b
        (case a => k_is); (case l => k_is); (case c => k_is); (case k => k_is)
        (case b => exact fun _ _ _ _ _ _ us hl => match us, hl with | [_], _ => rfl)
      have t_order_of : Kw.TF (L2.KOf KX) mg "order_of" Kz.s_order_of ["things"] := by
        unfold L2.KOf
        refine' Kw.tf_mk KX G ?a ?l ?c ?k ?b
        (case a => k_is); (case l => k_is); (case c => k_is); (case k => k_is)
        (case b => exact fun _ _ _ _ _ _ us hl => match us, hl with | [_], _ => rfl)
      have t_in_order : Kw.TF (L2.KOf KX) mg "in_order" Kz.s_in_order ["things"] := by
        unfold L2.KOf
        refine' Kw.tf_mk KX G ?a ?l ?c ?k ?b
        (case a => k_is); (case l => k_is); (case c => k_is); (case k => k_is)
        (case b => exact fun _ _ _ _ _ _ us hl => match us, hl with | [_], _ => rfl)
      have t_wants_with : Kw.TF (L2.KOf KX) mg "wants_with" Kz.s_wants_with ["factor", "first"] := by
        unfold L2.KOf
        refine' Kw.tf_mk KX G ?a ?l ?c ?k ?b
        (case a => k_is); (case l => k_is); (case c => k_is); (case k => k_is)
        (case b => exact fun _ _ _ _ _ _ us hl => match us, hl with | [_, _], _ => rfl)
      have t_plain_form : Kw.TF (L2.KOf KX) mg "plain_form" Kz.s_plain_form ["kind"] := by
        unfold L2.KOf
        refine' Kw.tf_mk KX G ?a ?l ?c ?k ?b
        (case a => k_is); (case l => k_is); (case c => k_is); (case k => k_is)
        (case b => exact fun _ _ _ _ _ _ us hl => match us, hl with | [_], _ => rfl)
      have t_form : Kw.TF (L2.KOf KX) mg "form" Kz.s_form ["kind"] := by
        unfold L2.KOf
        refine' Kw.tf_mk KX G ?a ?l ?c ?k ?b
        (case a => k_is); (case l => k_is); (case c => k_is); (case k => k_is)
        (case b => exact fun _ _ _ _ _ _ us hl => match us, hl with | [_], _ => rfl)
      have t_alike : Kw.TF (L2.KOf KX) mg "alike" Kz.s_alike ["one", "other"] := by
        unfold L2.KOf
        refine' Kw.tf_mk KX G ?a ?l ?c ?k ?b
        (case a => k_is); (case l => k_is); (case c => k_is); (case k => k_is)
        (case b => exact fun _ _ _ _ _ _ us hl => match us, hl with | [_, _], _ => rfl)
      have t_many : Kw.TF (L2.KOf KX) mg "many" Kz.s_many ["kind", "sizes"] := by
        unfold L2.KOf
        refine' Kw.tf_mk KX G ?a ?l ?c ?k ?b
        (case a => k_is); (case l => k_is); (case c => k_is); (case k => k_is)
        (case b => exact fun _ _ _ _ _ _ us hl => match us, hl with | [_, _], _ => rfl)
      have t_rest : Kw.TF (L2.KOf KX) mg "rest" Kz.s_rest ["kind", "sizes", "by"] := by
        unfold L2.KOf
        refine' Kw.tf_mk KX G ?a ?l ?c ?k ?b
        (case a => k_is); (case l => k_is); (case c => k_is); (case k => k_is)
        (case b => exact fun _ _ _ _ _ _ us hl => match us, hl with | [_, _, _], _ => rfl)
      have t_apart : Kw.TF (L2.KOf KX) mg "apart" Kz.s_apart ["one", "other"] := by
        unfold L2.KOf
        refine' Kw.tf_mk KX G ?a ?l ?c ?k ?b
        (case a => k_is); (case l => k_is); (case c => k_is); (case k => k_is)
        (case b => exact fun _ _ _ _ _ _ us hl => match us, hl with | [_, _], _ => rfl)
      have t_apart_fault : Kw.TF (L2.KOf KX) mg "apart_fault" Kz.s_apart_fault ["one", "other", "thing"] := by
        unfold L2.KOf
        refine' Kw.tf_mk KX G ?a ?l ?c ?k ?b
        (case a => k_is); (case l => k_is); (case c => k_is); (case k => k_is)
        (case b => exact fun _ _ _ _ _ _ us hl => match us, hl with | [_, _, _], _ => rfl)
      have t_worths : Kw.TF (L2.KOf KX) mg "worths" Kz.s_worths ["kind", "sizes"] := by
        unfold L2.KOf
        refine' Kw.tf_mk KX G ?a ?l ?c ?k ?b
        (case a => k_is); (case l => k_is); (case c => k_is); (case k => k_is)
        (case b => exact fun _ _ _ _ _ _ us hl => match us, hl with | [_, _], _ => rfl)
      have t_is_worth : Kw.TF (L2.KOf KX) mg "is_worth" Kz.s_is_worth ["kind", "sizes", "thing"] := by
        unfold L2.KOf
        refine' Kw.tf_mk KX G ?a ?l ?c ?k ?b
        (case a => k_is); (case l => k_is); (case c => k_is); (case k => k_is)
        (case b => exact fun _ _ _ _ _ _ us hl => match us, hl with | [_, _, _], _ => rfl)
      have t_sure_given : Kw.TF (L2.KOf KX) mg "sure_given" Kz.s_sure_given ["given"] := by
        unfold L2.KOf
        refine' Kw.tf_mk KX G ?a ?l ?c ?k ?b
        (case a => k_is); (case l => k_is); (case c => k_is); (case k => k_is)
        (case b => exact fun _ _ _ _ _ _ us hl => match us, hl with | [_], _ => rfl)
      have t_term_kind : Kw.TF (L2.KOf KX) mg "term_kind" Kz.s_term_kind ["term", "given"] := by
        unfold L2.KOf
        refine' Kw.tf_mk KX G ?a ?l ?c ?k ?b
        (case a => k_is); (case l => k_is); (case c => k_is); (case k => k_is)
        (case b => exact fun _ _ _ _ _ _ us hl => match us, hl with | [_, _], _ => rfl)
      have t_plain : Kw.TF (L2.KOf KX) mg "plain" Kz.s_plain ["term", "given"] := by
        unfold L2.KOf
        refine' Kw.tf_mk KX G ?a ?l ?c ?k ?b
        (case a => k_is); (case l => k_is); (case c => k_is); (case k => k_is)
        (case b => exact fun _ _ _ _ _ _ us hl => match us, hl with | [_, _], _ => rfl)
      have t_same : Kw.TF (L2.KOf KX) mg "same" Kz.s_same ["one", "other", "given"] := by
        unfold L2.KOf
        refine' Kw.tf_mk KX G ?a ?l ?c ?k ?b
        (case a => k_is); (case l => k_is); (case c => k_is); (case k => k_is)
        (case b => exact fun _ _ _ _ _ _ us hl => match us, hl with | [_, _, _], _ => rfl)
      have t_turner : Kw.TF (L2.KOf KX) mg "turner" Kz.s_turner ["one", "other"] := by
        unfold L2.KOf
        refine' Kw.tf_mk KX G ?a ?l ?c ?k ?b
        (case a => k_is); (case l => k_is); (case c => k_is); (case k => k_is)
        (case b => exact fun _ _ _ _ _ _ us hl => match us, hl with | [_, _], _ => rfl)
      have t_turn_fault : Kw.TF (L2.KOf KX) mg "turn_fault" Kz.s_turn_fault ["one", "other", "there", "back"] := by
        unfold L2.KOf
        refine' Kw.tf_mk KX G ?a ?l ?c ?k ?b
        (case a => k_is); (case l => k_is); (case c => k_is); (case k => k_is)
        (case b => exact fun _ _ _ _ _ _ us hl => match us, hl with | [_, _, _, _], _ => rfl)
      have t_is_library : Kw.TF (L2.KOf KX) mg "is_library" Kz.s_is_library ["thing"] := by
        unfold L2.KOf
        refine' Kw.tf_mk KX G ?a ?l ?c ?k ?b
        (case a => k_is); (case l => k_is); (case c => k_is); (case k => k_is)
        (case b => exact fun _ _ _ _ _ _ us hl => match us, hl with | [_], _ => rfl)
      have t_sure_library : Kw.TF (L2.KOf KX) mg "sure_library" Kz.s_sure_library ["library"] := by
        unfold L2.KOf
        refine' Kw.tf_mk KX G ?a ?l ?c ?k ?b
        (case a => k_is); (case l => k_is); (case c => k_is); (case k => k_is)
        (case b => exact fun _ _ _ _ _ _ us hl => match us, hl with | [_], _ => rfl)
      have t_search : Kw.TF (L2.KOf KX) mg "search" Kz.s_search ["library", "kind"] := by
        unfold L2.KOf
        refine' Kw.tf_mk KX G ?a ?l ?c ?k ?b
        (case a => k_is); (case l => k_is); (case c => k_is); (case k => k_is)
        (case b => exact fun _ _ _ _ _ _ us hl => match us, hl with | [_, _], _ => rfl)
      have t_search_fault : Kw.TF (L2.KOf KX) mg "search_fault" Kz.s_search_fault ["library", "kind", "name", "thing"] := by
        unfold L2.KOf
        refine' Kw.tf_mk KX G ?a ?l ?c ?k ?b
        (case a => k_is); (case l => k_is); (case c => k_is); (case k => k_is)
        (case b => exact fun _ _ _ _ _ _ us hl => match us, hl with | [_, _, _, _], _ => rfl)
      have t__law_well : Kw.TF (L2.KOf KX) mg "_law_well" Kz.s__law_well ["_law_cell"] := by
        unfold L2.KOf
        refine' Kw.tf_mk KX G ?a ?l ?c ?k ?b
        (case a => k_is); (case l => k_is); (case c => k_is); (case k => k_is)
        (case b => exact fun _ _ _ _ _ _ us hl => match us, hl with | [_], _ => rfl)
      have t__law_draw : Kw.TF (L2.KOf KX) mg "_law_draw" Kz.s__law_draw ["_law_well_here", "_law_width"] := by
        unfold L2.KOf
        refine' Kw.tf_mk KX G ?a ?l ?c ?k ?b
        (case a => k_is); (case l => k_is); (case c => k_is); (case k => k_is)
        (case b => exact fun _ _ _ _ _ _ us hl => match us, hl with | [_, _], _ => rfl)
      have t__law_deep : Kw.TF (L2.KOf KX) mg "_law_deep" Kz.s__law_deep ["_law_well_here", "_law_deep_here"] := by
        unfold L2.KOf
        refine' Kw.tf_mk KX G ?a ?l ?c ?k ?b
        (case a => k_is); (case l => k_is); (case c => k_is); (case k => k_is)
        (case b => exact fun _ _ _ _ _ _ us hl => match us, hl with | [_, _], _ => rfl)
      have t__law_odd : Kw.TF (L2.KOf KX) mg "_law_odd" Kz.s__law_odd ["_law_well_here", "_law_kind"] := by
        unfold L2.KOf
        refine' Kw.tf_mk KX G ?a ?l ?c ?k ?b
        (case a => k_is); (case l => k_is); (case c => k_is); (case k => k_is)
        (case b => exact fun _ _ _ _ _ _ us hl => match us, hl with | [_, _], _ => rfl)
      have t__law_spoilt : Kw.TF (L2.KOf KX) mg "_law_spoilt" Kz.s__law_spoilt ["_law_well_here", "_law_kind"] := by
        unfold L2.KOf
        refine' Kw.tf_mk KX G ?a ?l ?c ?k ?b
        (case a => k_is); (case l => k_is); (case c => k_is); (case k => k_is)
        (case b => exact fun _ _ _ _ _ _ us hl => match us, hl with | [_, _], _ => rfl)
      have t__law_word : Kw.TF (L2.KOf KX) mg "_law_word" Kz.s__law_word ["_law_ask"] := by
        unfold L2.KOf
        refine' Kw.tf_mk KX G ?a ?l ?c ?k ?b
        (case a => k_is); (case l => k_is); (case c => k_is); (case k => k_is)
        (case b => exact fun _ _ _ _ _ _ us hl => match us, hl with | [_], _ => rfl)
      have t__law_asks : Kw.TF (L2.KOf KX) mg "_law_asks" Kz.s__law_asks ["_law_bad", "_law_good", "_law_odd_here"] := by
        unfold L2.KOf
        refine' Kw.tf_mk KX G ?a ?l ?c ?k ?b
        (case a => k_is); (case l => k_is); (case c => k_is); (case k => k_is)
        (case b => exact fun _ _ _ _ _ _ us hl => match us, hl with | [_, _, _], _ => rfl)
      have t__law_lists_right : Kw.TF (L2.KOf KX) mg "_law_lists_right" Kz.s__law_lists_right ["_law_well_here", "_law_bad", "_law_good"] := by
        unfold L2.KOf
        refine' Kw.tf_mk KX G ?a ?l ?c ?k ?b
        (case a => k_is); (case l => k_is); (case c => k_is); (case k => k_is)
        (case b => exact fun _ _ _ _ _ _ us hl => match us, hl with | [_, _, _], _ => rfl)
      have m_all : mg "all" = none := by
        refine' Kw.bl_mk KX G ?a
        (case a => k_is)
      have m_bool : mg "bool" = none := by
        refine' Kw.bl_mk KX G ?a
        (case a => k_is)
      have m_enumerate : mg "enumerate" = none := by
        refine' Kw.bl_mk KX G ?a
        (case a => k_is)
      have m_int : mg "int" = none := by
        refine' Kw.bl_mk KX G ?a
        (case a => k_is)
      have m_isinstance : mg "isinstance" = none := by
        refine' Kw.bl_mk KX G ?a
        (case a => k_is)
      have m_len : mg "len" = none := by
        refine' Kw.bl_mk KX G ?a
        (case a => k_is)
      have m_list : mg "list" = none := by
        refine' Kw.bl_mk KX G ?a
        (case a => k_is)
      have m_range : mg "range" = none := by
        refine' Kw.bl_mk KX G ?a
        (case a => k_is)
      have m_set : mg "set" = none := by
        refine' Kw.bl_mk KX G ?a
        (case a => k_is)
      have m_sorted : mg "sorted" = none := by
        refine' Kw.bl_mk KX G ?a
        (case a => k_is)
      have m_str : mg "str" = none := by
        refine' Kw.bl_mk KX G ?a
        (case a => k_is)
      have m_tuple : mg "tuple" = none := by
        refine' Kw.bl_mk KX G ?a
        (case a => k_is)
      have c_LETTERS : Kw.GC mg "LETTERS" (.str "abcdefgh") := by
        refine' Kw.gc_str KX G ?a
        (case a => k_is)
      have c_MARKS : Kw.GD (L2.KOf KX) w.params mg "MARKS" Kz.kv_MARKS := by
        unfold L2.KOf
        refine' Kw.gd_mk KX G ?a ?l ?k ?s ?e
        (case a => k_is); (case l => k_is); (case k => exact ⟨⟨_, _, rfl, rfl⟩, ⟨_, _, rfl, rfl⟩, trivial⟩); (case s => rfl); (case e => exact (Kw.Ents.cons (v := .str "*") ⟨_, rfl⟩ rfl (Kw.Ents.cons (v := .str ">") ⟨_, rfl⟩ rfl Kw.Ents.nil)))
      have c_SIGNS : Kw.GD (L2.KOf KX) w.params mg "SIGNS" Kz.kv_SIGNS := by
        unfold L2.KOf
        refine' Kw.gd_mk KX G ?a ?l ?k ?s ?e
        (case a => k_is); (case l => k_is); (case k => exact ⟨⟨_, _, rfl, rfl⟩, ⟨_, _, rfl, rfl⟩, trivial⟩); (case s => rfl); (case e => exact (Kw.Ents.cons (v := .str "both") ⟨_, rfl⟩ rfl (Kw.Ents.cons (v := .str "from") ⟨_, rfl⟩ rfl Kw.Ents.nil)))
      have c_UNIT : Kw.GC mg "UNIT" (.str "1") := by
        refine' Kw.gc_str KX G ?a
        (case a => k_is)
      have x_NoKind : Kw.ExcF (L2.KOf KX) mg "NoKind" := by
        unfold L2.KOf
        refine' Kw.exc_mk KX G ?a ?b ?c ?d ?e
        (case a => k_is); (case b => k_exc); (case c => k_is); (case d => k_is); (case e => k_is)
      have x_NoLibrary : Kw.ExcF (L2.KOf KX) mg "NoLibrary" := by
        unfold L2.KOf
        refine' Kw.exc_mk KX G ?a ?b ?c ?d ?e
        (case a => k_is); (case b => k_exc); (case c => k_is); (case d => k_is); (case e => k_is)
      have x_NoText : Kw.ExcF (L2.KOf KX) mg "NoText" := by
        unfold L2.KOf
        refine' Kw.exc_mk KX G ?a ?b ?c ?d ?e
        (case a => k_is); (case b => k_exc); (case c => k_is); (case d => k_is); (case e => k_is)
      have xk_NoKind : Kw.ExcK (L2.KOf KX) mg "NoKind" := by
        unfold L2.KOf
        refine' Kw.exck_mk KX G ?kz20 ⟨?kz21, ?kz22, ?kz23, ?kz24, ?kz25, ?kz26, ?kz27, ?kz28⟩
        (case kz20 => k_is)
        (case kz21 => k_is)
        (case kz22 => k_is)
        (case kz23 => k_is)
        (case kz24 => k_is)
        (case kz25 => k_is)
        (case kz26 => k_is)
        (case kz27 => k_is)
        (case kz28 => k_is)

      have xk_NoLibrary : Kw.ExcK (L2.KOf KX) mg "NoLibrary" := by
        unfold L2.KOf
        refine' Kw.exck_mk KX G ?kz40 ⟨?kz41, ?kz42, ?kz43, ?kz44, ?kz45, ?kz46, ?kz47, ?kz48⟩
        (case kz40 => k_is)
        (case kz41 => k_is)
        (case kz42 => k_is)
        (case kz43 => k_is)
        (case kz44 => k_is)
        (case kz45 => k_is)
        (case kz46 => k_is)
        (case kz47 => k_is)
        (case kz48 => k_is)

      have xk_NoText : Kw.ExcK (L2.KOf KX) mg "NoText" := by
        unfold L2.KOf
        refine' Kw.exck_mk KX G ?kz60 ⟨?kz61, ?kz62, ?kz63, ?kz64, ?kz65, ?kz66, ?kz67, ?kz68⟩
        (case kz60 => k_is)
        (case kz61 => k_is)
        (case kz62 => k_is)
        (case kz63 => k_is)
        (case kz64 => k_is)
        (case kz65 => k_is)
        (case kz66 => k_is)
        (case kz67 => k_is)
        (case kz68 => k_is)

      have xk : ∀ y ∈ Kz.excs, Kw.ExcK (L2.KOf KX) mg y := (List.forall_mem_cons.mpr ⟨xk_NoKind, (List.forall_mem_cons.mpr ⟨xk_NoLibrary, (List.forall_mem_cons.mpr ⟨xk_NoText, (by simp)⟩)⟩)⟩)
      have c_NoKind : Kw.CatF (L2.KOf KX) mg Kz.excs "NoKind" (fun y => Kz.isx y "NoKind") := by
        unfold L2.KOf
        refine' Kw.cat_mk KX G ?kz80 ?kz81
        (case kz80 => k_is)

        refine' List.forall_mem_cons.mpr ⟨Kw.caty_mk KX G ?kz100 ?kz101 ?kz102 ?kz103 ?kz104 ?kz105, ?kz106⟩
        (case kz100 => k_is)
        (case kz101 => exact (show Kz.isx "NoKind" "NoKind" = true by decide +kernel))
        (case kz102 => k_is)
        (case kz103 => k_is)
        (case kz104 => k_is)
        (case kz105 => k_is)
        refine' List.forall_mem_cons.mpr ⟨Kw.caty_mk KX G ?kz120 ?kz121 ?kz122 ?kz123 ?kz124 ?kz125, ?kz126⟩
        (case kz120 => k_is)
        (case kz121 => exact (show Kz.isx "NoLibrary" "NoKind" = false by decide +kernel))
        (case kz122 => k_is)
        (case kz123 => k_is)
        (case kz124 => k_is)
        (case kz125 => k_is)
        refine' List.forall_mem_cons.mpr ⟨Kw.caty_mk KX G ?kz140 ?kz141 ?kz142 ?kz143 ?kz144 ?kz145, ?kz146⟩
        (case kz140 => k_is)
        (case kz141 => exact (show Kz.isx "NoText" "NoKind" = false by decide +kernel))
        (case kz142 => k_is)
        (case kz143 => k_is)
        (case kz144 => k_is)
        (case kz145 => k_is)
        simp
      have c_NoLibrary : Kw.CatF (L2.KOf KX) mg Kz.excs "NoLibrary" (fun y => Kz.isx y "NoLibrary") := by
        unfold L2.KOf
        refine' Kw.cat_mk KX G ?kz160 ?kz161
        (case kz160 => k_is)

        refine' List.forall_mem_cons.mpr ⟨Kw.caty_mk KX G ?kz180 ?kz181 ?kz182 ?kz183 ?kz184 ?kz185, ?kz186⟩
        (case kz180 => k_is)
        (case kz181 => exact (show Kz.isx "NoKind" "NoLibrary" = false by decide +kernel))
        (case kz182 => k_is)
        (case kz183 => k_is)
        (case kz184 => k_is)
        (case kz185 => k_is)
        refine' List.forall_mem_cons.mpr ⟨Kw.caty_mk KX G ?kz200 ?kz201 ?kz202 ?kz203 ?kz204 ?kz205, ?kz206⟩
        (case kz200 => k_is)
        (case kz201 => exact (show Kz.isx "NoLibrary" "NoLibrary" = true by decide +kernel))
        (case kz202 => k_is)
        (case kz203 => k_is)
        (case kz204 => k_is)
        (case kz205 => k_is)
        refine' List.forall_mem_cons.mpr ⟨Kw.caty_mk KX G ?kz220 ?kz221 ?kz222 ?kz223 ?kz224 ?kz225, ?kz226⟩
        (case kz220 => k_is)
        (case kz221 => exact (show Kz.isx "NoText" "NoLibrary" = false by decide +kernel))
        (case kz222 => k_is)
        (case kz223 => k_is)
        (case kz224 => k_is)
        (case kz225 => k_is)
        simp
      have c_SwapError : Kw.CatF (L2.KOf KX) mg Kz.excs "SwapError" (fun y => Kz.isx y "SwapError") := by
        unfold L2.KOf
        refine' Kw.cat_mk KX G ?kz240 ?kz241
        (case kz240 => k_is)

        refine' List.forall_mem_cons.mpr ⟨Kw.caty_mk KX G ?kz260 ?kz261 ?kz262 ?kz263 ?kz264 ?kz265, ?kz266⟩
        (case kz260 => k_is)
        (case kz261 => exact (show Kz.isx "NoKind" "SwapError" = true by decide +kernel))
        (case kz262 => k_is)
        (case kz263 => k_is)
        (case kz264 => k_is)
        (case kz265 => k_is)
        refine' List.forall_mem_cons.mpr ⟨Kw.caty_mk KX G ?kz280 ?kz281 ?kz282 ?kz283 ?kz284 ?kz285, ?kz286⟩
        (case kz280 => k_is)
        (case kz281 => exact (show Kz.isx "NoLibrary" "SwapError" = true by decide +kernel))
        (case kz282 => k_is)
        (case kz283 => k_is)
        (case kz284 => k_is)
        (case kz285 => k_is)
        refine' List.forall_mem_cons.mpr ⟨Kw.caty_mk KX G ?kz300 ?kz301 ?kz302 ?kz303 ?kz304 ?kz305, ?kz306⟩
        (case kz300 => k_is)
        (case kz301 => exact (show Kz.isx "NoText" "SwapError" = true by decide +kernel))
        (case kz302 => k_is)
        (case kz303 => k_is)
        (case kz304 => k_is)
        (case kz305 => k_is)
        simp
      have i_NoLibrary_NoKind : Kw.IsxO (L2.KOf KX) mg "NoKind" "NoLibrary" (Kz.isx "NoKind" "NoLibrary") := by
        unfold L2.KOf
        refine' Kw.isxo_mk (b' := false) KX G ?kz320 ?kz321 ?kz322 ?kz323 ?kz324 ?kz325 ?kz326
        (case kz320 => k_is)
        (case kz321 => k_is)
        (case kz322 => exact (show Kz.isx "NoKind" "NoLibrary" = false by decide +kernel))
        (case kz323 => k_is)
        (case kz324 => k_is)
        (case kz325 => k_is)
        (case kz326 => decide)

      have i_NoLibrary_NoLibrary : Kw.IsxO (L2.KOf KX) mg "NoLibrary" "NoLibrary" (Kz.isx "NoLibrary" "NoLibrary") := by
        unfold L2.KOf
        refine' Kw.isxo_mk (b' := true) KX G ?kz340 ?kz341 ?kz342 ?kz343 ?kz344 ?kz345 ?kz346
        (case kz340 => k_is)
        (case kz341 => k_is)
        (case kz342 => exact (show Kz.isx "NoLibrary" "NoLibrary" = true by decide +kernel))
        (case kz343 => k_is)
        (case kz344 => k_is)
        (case kz345 => k_is)
        (case kz346 => decide)

      have i_NoLibrary_NoText : Kw.IsxO (L2.KOf KX) mg "NoText" "NoLibrary" (Kz.isx "NoText" "NoLibrary") := by
        unfold L2.KOf
        refine' Kw.isxo_mk (b' := false) KX G ?kz360 ?kz361 ?kz362 ?kz363 ?kz364 ?kz365 ?kz366
        (case kz360 => k_is)
        (case kz361 => k_is)
        (case kz362 => exact (show Kz.isx "NoText" "NoLibrary" = false by decide +kernel))
        (case kz363 => k_is)
        (case kz364 => k_is)
        (case kz365 => k_is)
        (case kz366 => decide)

      have i_NoLibrary : ∀ y ∈ Kz.excs, Kw.IsxO (L2.KOf KX) mg y "NoLibrary" (Kz.isx y "NoLibrary") := (List.forall_mem_cons.mpr ⟨i_NoLibrary_NoKind, (List.forall_mem_cons.mpr ⟨i_NoLibrary_NoLibrary, (List.forall_mem_cons.mpr ⟨i_NoLibrary_NoText, (by simp)⟩)⟩)⟩)
      have T : Kz.Txt (L2.KOf KX) w.params mg := ⟨t_is_from, t_inner_of, t_is_kind, t_sure_kind, t_plain_text, t_kind_text, t_closed, t_read_kind, t_order_of, t_in_order, t_wants_with, t_plain_form, t_form, t_alike, t_many, t_rest, t_apart, t_apart_fault, t_worths, t_is_worth, t_sure_given, t_term_kind, t_plain, t_same, t_turner, t_turn_fault, t_is_library, t_sure_library, t_search, t_search_fault, t__law_well, t__law_draw, t__law_deep, t__law_odd, t__law_spoilt, t__law_word, t__law_asks, t__law_lists_right, m_all, m_bool, m_enumerate, m_int, m_isinstance, m_len, m_list, m_range, m_set, m_sorted, m_str, m_tuple, c_LETTERS, c_MARKS, c_SIGNS, c_UNIT, x_NoKind, x_NoLibrary, x_NoText, xk, c_NoKind, c_NoLibrary, c_SwapError, i_NoLibrary⟩
      have tsys : (L2.KOf KX).lookup sysModules = none := by
        first | rfl | (unfold L2.KOf; rfl) | (unfold L2.KOf; decide +kernel)
      have tq_order_of : Kw.tabOk (L2.KOf KX) "order_of" = true := by
        unfold L2.KOf
        first | kernel_rfl | rfl | decide +kernel
      obtain ⟨c_order_of, P_order_of, ti_order_of, tn_order_of⟩ := Kw.tabOk_at tq_order_of
      have tt_order_of := PySem.W.tab_of (x := "order_of") TT KX rfl ti_order_of
      have tq__law_asks : Kw.tabOk (L2.KOf KX) "_law_asks" = true := by
        unfold L2.KOf
        first | kernel_rfl | rfl | decide +kernel
      obtain ⟨c__law_asks, P__law_asks, ti__law_asks, tn__law_asks⟩ := Kw.tabOk_at tq__law_asks
      have tt__law_asks := PySem.W.tab_of (x := "_law_asks") TT KX rfl ti__law_asks
      have tq__law_lists_right : Kw.tabOk (L2.KOf KX) "_law_lists_right" = true := by
        unfold L2.KOf
        first | kernel_rfl | rfl | decide +kernel
      obtain ⟨c__law_lists_right, P__law_lists_right, ti__law_lists_right, tn__law_lists_right⟩ := Kw.tabOk_at tq__law_lists_right
      have tt__law_lists_right := PySem.W.tab_of (x := "_law_lists_right") TT KX rfl ti__law_lists_right
      have tdis : Kw.tabsDis (L2.KOf KX) ["order_of", "_law_asks", "_law_lists_right"] = true := by
        unfold L2.KOf
        first | kernel_rfl | rfl | decide +kernel
      refine' Kw.law_mkT (st := Kz.s_law) (cs := [(c_order_of, P_order_of, "order_of"), (c__law_asks, P__law_asks, "_law_asks"), (c__law_lists_right, P__law_lists_right, "_law_lists_right")]) (k := 230) KX G hmg ?t ?a ?l ?c ?k (fun _ _ _ _ _ _ us hl => match us, hl with | [_], _ => rfl) Kz.sc_law (fun base Kb Gb Tb => Kz.ok_law T rfl (Kz.all_ok T rfl Kb Gb (Kw.tbK_of Tb ti_order_of List.mem_cons_self) (Kw.tbK_of Tb ti__law_asks (List.mem_cons_of_mem _ List.mem_cons_self)) (Kw.tbK_of Tb ti__law_lists_right (List.mem_cons_of_mem _ (List.mem_cons_of_mem _ List.mem_cons_self))) 230)) (fun ns h hb => Kz.law_true ns h)
      (case t => exact ⟨tsys, (List.forall_mem_cons.mpr ⟨tt_order_of.2, (List.forall_mem_cons.mpr ⟨tt__law_asks.2, (List.forall_mem_cons.mpr ⟨tt__law_lists_right.2, (fun _ z => (nomatch z))⟩)⟩)⟩), (List.forall_mem_cons.mpr ⟨tn_order_of, (List.forall_mem_cons.mpr ⟨tn__law_asks, (List.forall_mem_cons.mpr ⟨tn__law_lists_right, (fun _ z => (nomatch z))⟩)⟩)⟩), (List.forall_mem_cons.mpr ⟨tt_order_of.1, (List.forall_mem_cons.mpr ⟨tt__law_asks.1, (List.forall_mem_cons.mpr ⟨tt__law_lists_right.1, (fun _ z => (nomatch z))⟩)⟩)⟩), (Kw.tabsDis_at tdis (by simp [Kw.tbP, ti_order_of, ti__law_asks, ti__law_lists_right])), (List.forall_mem_cons.mpr ⟨ti_order_of, (List.forall_mem_cons.mpr ⟨ti__law_asks, (List.forall_mem_cons.mpr ⟨ti__law_lists_right, (fun _ z => (nomatch z))⟩)⟩)⟩)⟩)
      (case a => k_is); (case l => k_is); (case c => k_is); (case k => k_is)
