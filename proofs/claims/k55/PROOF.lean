import PyProof.Rows.All
import PySem.Challenge.RW_kindswap_k55_terms_grown_at_the_top
import HandS.Head0
import HandS.Head1
import HandS.Head2
import Wide.All
import OpenK.AllK
import Wide.FinOn
import HandS.ForMost
import HandS.ForExc
import HandS.Flow
import HandS.IsInst
import HandS.Wide
import HandS.Lambda
import KE.KDictKeyed
import HandS.Style
import HandS.TupAny
import HandS.Deep
import HandS.Zip
import HandS.StrMore
import HandS.ExcOwn
import HandS.More
import HandS.EndBits
import HandS.ExcIs
import HandS.TryMany
import PyProof.ReprRoads
import HandS.Conv
import KE.SortData
import HandS.SortKw
import HandS.ExcValue
import KE.SortKeyHeap
import HandS.NoneIn
import KE.DataCmp
import HandS.Strs
import PyProof.SetRoads
import PyProof.Rows.SetFrom
import KE.DataFind
import HandS.Dict
import KE.KTryMore
import HandS.ExcInit
import HandS.ExcField
import HandS.ClsMeth
import HandS.Exc
import HandS.DictComp
import PyProof.DictCompW
set_option Elab.async false
set_option linter.all false
set_option maxRecDepth 100000
set_option maxHeartbeats 4000000
open PySem PySem.W PyProof.Rows
namespace Kz.Hd
open PySem PySem.W PySem.Calls PyProof.Rows
def nm0 : List PySem.Str := ["SwapError", "NoKind", "NoSizes", "TooMany", "NoWorth", "NoTerm", "LETTERS", "MARKS", "is_from", "inner_of", "is_kind", "sure_kind", "BASES", "MOST_SIZE", "MOST_WORTHS", "sure_sizes", "power_up_to", "number_up_to", "sure_taken", "lists_of", "all_worths", "worths", "is_plain_worth", "is_worth"]
def nm1 : List PySem.Str := ["PARTS", "is_shape", "kind_of_given", "kind_of_two", "kind_in", "sure_kind_in", "Reckoner", "Told", "Made", "done", "_law_well", "_law_draw", "_law_kind", "_law_ways", "_law_flat", "_law_kind_of", "_law_rows", "_law_all", "_law_handed", "_law_in", "_law_out", "_law_work", "_law_closed", "_law_renamed"]
def nm2 : List PySem.Str := ["_law_count", "_law_cost", "_law_pick", "_law_sizes", "_law_put", "_law_other", "_law_topped", "_law_made"]
def nm : List PySem.Str := nm0 ++ nm1 ++ nm2
abbrev R : OpenRow := OpenLaw.row PySem.Challenge.rw_kindswap_k55_terms_grown_at_the_top
abbrev qv : Program := view R.prog [61]
/-- the run's equation at a world -/
def RunK (p q : Program) (loose : List PySem.Str) (Xt : Shared → Bool) (K : Params → PySem.W.Frag) (as ts : List Addr) (M : Nat) (w : World) : Prop :=
  ∀ os : OsState, (HandSHeadRun.endF (HandSHeadRun.stepQ (HandSHeadRun.denQ HandSHeadRun.tabQ) p w) M p w os).map (fun s => (HandSHeadRun.looksF p (boot_heap w.params) s.abs, HandSHeadRun.seenQ q loose (importedModules p.main.body) Xt s.abs, (as.map (HandSHeadRun.getT s), ts.map (HandSHeadRun.getT s)))) = some (true, openGood q loose, ((K w.params).map fun x => some x.2, ts.map fun _ => some (tabObj #[])))
/-- LeftO of that run, for kmHook; the run is shown for each answer of special-get-raises -/
theorem left_km {p q : Program} {loose : List PySem.Str} {Xt : Shared → Bool} {K : Params → PySem.W.Frag} {as ts : List Addr} {ek : ∀ P, as = (K P).map (·.1)} {N M : Nat}
    (e : opening p = plainProg p.main.scope.names) (hN : Nat.ble 600 N = true) (f : ∀ s, fenceModules? p s = some s) (le : Nat.ble M N = true)
    (hf : ∀ w : World, RunK p q loose Xt K as ts M (w.withFollow "special-get-raises" false)) (ht : ∀ w : World, RunK p q loose Xt K as ts M (w.withFollow "special-get-raises" true)) :
    LeftO p q loose Xt (Hook.obs (kmHook K as ek ts)) (Hook.val (kmHook K as ek ts)) N true :=
  HandSHeadRun.left_one (M := M) e hN f le fun w os => by
    have z := byRow2 "special-get-raises" (P := fun w => RunK p q loose Xt K as ts M w) hf ht w os
    have eo : (fun s : SharedT => (HandSHeadRun.looksF p (boot_heap w.params) s.abs, HandSHeadRun.seenQ q loose (importedModules p.main.body) Xt s.abs, (as.map (HandSHeadRun.getT s), ts.map (HandSHeadRun.getT s)))) = fun s => (HandSHeadRun.looksF p (boot_heap w.params) s.abs, HandSHeadRun.seenQ q loose (importedModules p.main.body) Xt s.abs, Hook.obs (kmHook K as ek ts) s.abs) := by
      funext s
      have q1 : as.map (HandSHeadRun.getT s) = as.map s.abs.heap.get? := List.map_congr_left fun a _ => HandSHeadRun.getT_eq s a
      have q2 : ts.map (HandSHeadRun.getT s) = ts.map s.abs.heap.get? := List.map_congr_left fun a _ => HandSHeadRun.getT_eq s a
      rw [q1, q2]
      rfl
    rw [eo] at z
    simp only [HandSHeadRun.endQ_eq, HandSHeadRun.seenQ_eq]
    exact z
/-- the same for kHook -/
theorem left_k {p q : Program} {loose : List PySem.Str} {Xt : Shared → Bool} {K : Params → PySem.W.Frag} {as : List Addr} {ek : ∀ P, as = (K P).map (·.1)} {N M : Nat}
    (e : opening p = plainProg p.main.scope.names) (hN : Nat.ble 600 N = true) (f : ∀ s, fenceModules? p s = some s) (le : Nat.ble M N = true)
    (hf : ∀ w : World, RunK p q loose Xt K as [] M (w.withFollow "special-get-raises" false)) (ht : ∀ w : World, RunK p q loose Xt K as [] M (w.withFollow "special-get-raises" true)) :
    LeftO p q loose Xt (Hook.obs (kHook K as ek)) (Hook.val (kHook K as ek)) N true := fun w => by
  have z := left_km (ek := ek) (ts := []) e hN f le hf ht w
  cases hx : openEnds treeTable p w N with
  | none => rw [hx] at z; cases z
  | some s =>
    rw [hx] at z
    simp only [Option.map_some, Option.some.injEq, Prod.mk.injEq] at z ⊢
    exact ⟨z.1, (Prod.mk.inj z.2).1⟩
end Kz.Hd
local macro_rules | `(tactic| o_head $t:term) => do
  let hl := Lean.mkIdent `hl
  let (hw, hc) := (Lean.mkIdent `hw, Lean.mkIdent `hc)
  `(tactic| (refine PySem.W.holds_open (r := Kz.Hd.R) (q := Kz.Hd.qv) (loose := Kz.Hd.nm) (Xt := fun s => xlAt Kz.Hd.qv [] s && recOk (RowW.records (OpenRow.toRowW Kz.Hd.R)) s) (XP := XL Kz.Hd.qv []) (Yf := Hook.obs $t) (Ya := Hook.val $t) (YP := Hook.says $t) (N := 6600) ?hlx (Hook.of $t) (Hook.keeps $t) (fun s e => xl_of s (Bool.and_eq_true_iff.mp e).1) XL.keeps (by rfl) (by rfl) (by rfl) (fun s e => recFacts_of (Bool.and_eq_true_iff.mp e).2) (by rfl) (by first | assumption | decide +kernel) (by decide +kernel) ⟨rfl, rfl, rfl, rfl, rfl, by decide +kernel⟩ ?$hw ?$hc; (case hlx => exact $hl _)))
set_option maxRecDepth 100000 in
set_option maxHeartbeats 0 in
open PySem PySem.W PySem.Calls PyProof.Rows in
theorem Kz.Hd.t1 (hl : ∀ H : Hook, LeftO Kz.Hd.R.prog Kz.Hd.qv Kz.Hd.nm (fun s => xlAt Kz.Hd.qv [] s && recOk (RowW.records (OpenRow.toRowW Kz.Hd.R)) s) (Hook.obs H) (Hook.val H) 6600 true) (hc : ∀ (d : DefRec) (kwd : List (PySem.Str × PySem.Expr)) (YP : World → Heap → Prop), WalkO Kz.Hd.qv Kz.Hd.nm (XL Kz.Hd.qv []) YP (OpenRow.toRowW Kz.Hd.R) d kwd fun f vs => PySem.call f vs) : PySem.Challenge.rw_kindswap_k55_terms_grown_at_the_top.Holds := by
  w_on; o_law; k_head; (case hw => w_witness2)
  exact hc _ _ _
namespace Kz.Hd
open PySem PySem.W PySem.Calls PyProof.Rows
set_option maxHeartbeats 0 in
theorem runF (w : World) : RunK R.prog qv nm (fun s => xlAt qv [] s && recOk (RowW.records (OpenRow.toRowW R)) s) t1.heap_39 ((t1.heap_39 w.params).map (·.1)) [] 6000 (w.withFollow "special-get-raises" false) := by
  intro os; kernel_rfl
set_option maxHeartbeats 0 in
theorem runT (w : World) : RunK R.prog qv nm (fun s => xlAt qv [] s && recOk (RowW.records (OpenRow.toRowW R)) s) t1.heap_39 ((t1.heap_39 w.params).map (·.1)) [] 6000 (w.withFollow "special-get-raises" true) := by
  intro os; kernel_rfl
end Kz.Hd
namespace Kw
open PySem PySem.Spec PyProof.Rows L2
/-- a value as a tree; a list that is changed is a cell of the store -/
inductive D where
  | non | bl (b : Bool) | int (i : Int) | str (x : Str)
  | tup (ds : List D) | lst (ds : List D) | dic (ks : List Key) (ds : List D)
  | ins (c : Str) (fs : List Str) (ds : List D)
  | loc (n : Nat) | glo (x : Str) | fls (ds : List D) | exn (a : Addr)
  | exo (c : Str) (ns : List Str) (ds : List D)
  | lam (i : Nat) (q : Str) (ob : Addr → Value → Value → Obj)
inductive Cell where
  | lst (ds : List D) | frz (ds : List D) | dead
  | tab (x : Str) | sys
  | gst (ρ : List (Option D)) (σ : L2.St)
  | ob (c : Str) (fs : List Str) (ds : List D)
  | dct (ks : List NestedKey) (ds : List D)
abbrev Store := List Cell
/-- what is raised: the class's name, its own fields -/
structure Ex where
  cls : Str
  ns : List Str := []
  ds : List D := []
inductive RE (α : Type) where
  | ok (a : α) (S : Store) | ex (x : Ex) (S : Store) | no
def RE.bnd {α β : Type} (m : RE α) (f : α → Store → RE β) : RE β := match m with
  | .ok a S => f a S
  | .ex x S => .ex x S
  | .no => .no
abbrev FEnv := List (Option D)
abbrev FE := FEnv → Store → RE D
abbrev FT := FEnv → Store → RE Bool
abbrev FA := FEnv → Store → RE (List D)
/-- the addresses of the store's cells (none: dead); hd: objects that no value leads to -/
structure Wd where
  φ : List (Option Addr)
  hd : List Addr
/-- a is no cell, and not hidden -/
def Wd.Off (w : Wd) (a : Addr) : Prop := (¬ some a ∈ w.φ) ∧ ¬ a ∈ w.hd
/-- the world of the run (a text's hash is its word) -/
class Wo where
  ww : World
mutual
/-- the key that a tree is -/
def keyOf : D → Option NestedKey
  | .non => some .none
  | .int i => some (.num i)
  | .str x => some (.text x)
  | .tup ds => (keysOf ds).map .tup
  | _ => none
def keysOf : List D → Option (List NestedKey)
  | [] => some []
  | d :: ds => match keyOf d, keysOf ds with
    | some k, some r => some (k :: r)
    | _, _ => none
end
/-- a dict's entries: key, the key's value, what it leads to -/
abbrev DEnt := List (NestedKey × V × V)
def entV (ww : World) (x : NestedKey × Value × Value) : DictEntry := ⟨x.1.hash ww, x.2.1, x.2.2⟩
/-- the one object at a: a dict of these entries -/
def DctP (ww : World) (a : Addr) (es : DEnt) (h : Heap) : Prop := (a == sysModules) = false ∧ ∃ vs : List (NestedKey × Value × Value), Paired (fun (p : NestedKey × V × V) (q : NestedKey × Value × Value) => p.1 = q.1 ∧ RelV p.2.1 q.2.1 ∧ RelV p.2.2 q.2.2) es vs ∧
  ∃ o en ep, h.get? a = some o ∧ o.ExactDict ∧ o.data = .dict en ep ∧ en.toList = vs.map (entV ww)
def DctO (ww : World) (a : Addr) (es : DEnt) : HO := .ext (DctP ww a es)
section
variable (K : PySem.W.Frag) (mg : Str → Option Value)
/-- a list that is not changed any more, by the model's own word -/
def Fp (w : Wd) (H : Hp) (a : Addr) (xs : List V) : Prop :=
  (∃ o, H a = some (.frz o (.lst xs)) ∧ w.Off a) ∨
    ∃ (o : Obj) (its : Array Value) (n : Nat), K.lookup a = some o ∧ o.cls = .type "list" ∧ o.dict = none ∧ o.data = .seq its n ∧ its.size ≤ sizeLine ∧ Vals xs its.toList
/-- a tuple that stands -/
def Tp (w : Wd) (H : Hp) (a : Addr) (xs : List V) : Prop :=
  (H a = some (.tup xs) ∧ w.Off a) ∨
    ∃ (o : Obj) (its : Array Value) (n : Nat), K.lookup a = some o ∧ o.cls = .type "tuple" ∧ o.data = .seq its n ∧ its.size ≤ sizeLine ∧ Vals xs its.toList
/-- the one object at f -/
def LamO (f : Addr) (o : Obj) : HO := .ext fun h => h.get? f = some o
/-- an exception object that nobody raised: its class, its dict -/
def ExOd (cls : Value) (od : Option Addr) (a : Addr) : HO := .ext fun h => ∃ (oe : Obj) (vs : Array Value), h.get? a = some oe ∧ Zc cls od oe ∧ oe.data = .fields vs ∧ vs[1]? = some .none ∧ vs[2]? = some .none ∧ 4 < vs.size
mutual
/-- the tree d lies at v -/
def Rp (w : Wd) (H : Hp) : D → V → Prop
  | .non, v => v = .non
  | .bl b, v => v = .bl b
  | .int i, v => v = .int i
  | .str x, v => v = .str x
  | .tup ds, v => ∃ a xs, v = .ref a ∧ Tp K w H a xs ∧ RpL w H ds xs
  | .lst ds, v => ∃ a xs, v = .ref a ∧ H a = some (.lst xs) ∧ w.Off a ∧ RpL w H ds xs
  | .dic ks ds, v => ∃ a vs, v = .ref a ∧ H a = some (.dK (ks.zip vs)) ∧ w.Off a ∧ ks.length = vs.length ∧ RpL w H ds vs
  | .ins c fs ds, v => ∃ a C dx vs, v = .ref a ∧ mg c = some (.ref C) ∧ H a = some (.ins C dx (fs.zip vs)) ∧ w.Off a ∧ fs.length = vs.length ∧ RpL w H ds vs
  | .loc n, v => n < w.φ.length ∧ ∀ a, w.φ[n]? = some (some a) → v = .ref a
  | .glo x, v => ∃ a, v = .ref a ∧ mg x = some (.ref a)
  | .exn a, v => v = .ref a
  | .fls ds, v => ∃ a xs, v = .ref a ∧ Fp K w H a xs ∧ RpL w H ds xs
  | .lam _ q ob, v => ∃ f c' pm ctv, v = .ref f ∧ H f = some (LamO f (ob c' pm ctv)) ∧ w.Off f ∧ H c' = some (LamX.CodeO c' q) ∧ w.Off c'
  | .exo c ns ds, v => ∃ a C od vs, v = .ref a ∧ mg c = some (.ref C) ∧ H a = some (ExOd (.ref C) od a) ∧ w.Off a ∧ (od = none ↔ ns = []) ∧ (∀ d, od = some d → H d = some (.xd (ns.zip vs)) ∧ w.Off d) ∧ ns.length = vs.length ∧ RpL w H ds vs
def RpL (w : Wd) (H : Hp) : List D → List V → Prop
  | [], vs => vs = []
  | d :: ds, vs => ∃ v r, vs = v :: r ∧ Rp w H d v ∧ RpL w H ds r
end
/-- the world goes on -/
structure Ext (w : Wd) (H : Hp) (w' : Wd) (H' : Hp) : Prop where
  fr : ∀ a o, H a = some o → some a ∉ w.φ → H' a = some o
  ln : w.φ.length ≤ w'.φ.length
  ph : ∀ (n : Nat) a, w'.φ[n]? = some (some a) → n < w.φ.length → w.φ[n]? = some (some a)
  nw : ∀ a, some a ∈ w'.φ → some a ∈ w.φ ∨ H a = none
  hd : w'.hd = w.hd
/-- what is known of the modules' table: a dict -/
def SysQ (φ : Heap → Prop) : Prop := ∀ h, φ h → ∃ o es n, h.get? sysModules = some o ∧ o.data = .dict es n
/-- a table of code objects lies at P, all of the name q -/
def TabW (w : Wd) (H : Hp) (P : Addr) (q : Str) : Prop := ∃ ps : Array Value, H P = some (.tbl ps) ∧ TriplesOk ps.toList ∧ ∀ (pos : Pos) (cv : Value), codeAmong pos ps.toList = some cv → ∃ c, cv = .ref c ∧ H c = some (LamX.CodeO c q) ∧ w.Off c
/-- the name that the lambdas of the def x bear -/
def tabQ (x : Str) : Str := x ++ ".<locals>." ++ "<lambda>"
/-- the slots -/
structure EnvR (w : Wd) (H : Hp) (ρ : FEnv) (σ : L2.St) : Prop where
  len : ρ.length = σ.length
  at_ : ∀ (i : Nat) d, ρ[i]? = some (some d) → ∃ v, σ[i]? = some (some v) ∧ Rp K mg w H d v
def CellR [Wo] (w : Wd) (H : Hp) (c : Cell) (n : Nat) : Prop := match c with
  | .lst ds => ∃ a xs, w.φ[n]? = some (some a) ∧ H a = some (.lst xs) ∧ RpL K mg w H ds xs
  | .frz ds => ∃ a xs o, w.φ[n]? = some (some a) ∧ H a = some (.frz o (.lst xs)) ∧ RpL K mg w H ds xs
  | .dead => w.φ[n]? = some none
  | .tab x => ∃ c P, PySem.W.tabIn K x = some (c, P) ∧ w.φ[n]? = some (some P) ∧ TabW w H P (tabQ x)
  | .sys => w.φ[n]? = some none ∧ sysModules ∈ w.hd ∧ some sysModules ∉ w.φ ∧ (∃ φ, H sysModules = some (.ext φ) ∧ SysQ φ) ∧ K.lookup sysModules = none
  | .gst ρ σ => w.φ[n]? = some none ∧ EnvR K mg w H ρ σ
  | .ob c fs ds => ∃ a C dx vs, w.φ[n]? = some (some a) ∧ mg c = some (.ref C) ∧ H a = some (.ins C dx (fs.zip vs)) ∧ fs.length = vs.length ∧ RpL K mg w H ds vs
  | .dct ks ds => ∃ a es, w.φ[n]? = some (some a) ∧ H a = some (DctO Wo.ww a es) ∧ es.map (·.1) = ks ∧ ks.Nodup ∧ (∀ x ∈ es, x.1.depth ≤ 8 ∧ ∃ d, keyOf d = some x.1 ∧ Rp K mg w H d x.2.1) ∧ RpL K mg w H ds (es.map (·.2.2))
/-- the store lies in the heap -/
structure Sto [Wo] (w : Wd) (S : Store) (H : Hp) : Prop where
  len : w.φ.length = S.length
  nd : ∀ (m n : Nat) a, w.φ[m]? = some (some a) → w.φ[n]? = some (some a) → m = n
  ap : ∀ a, a ∈ w.hd → H a ≠ none ∧ some a ∉ w.φ
  cell : ∀ (n : Nat) c, S[n]? = some c → CellR K mg w H c n
/-- the exception -/
def ExR (w : Wd) (H : Hp) (x : Ex) (c : Value) (od : Option Addr) : Prop :=
  mg x.cls = some c ∧ ((x.ns = [] ∧ x.ds = [] ∧ od = none) ∨ ∃ d vs, x.ns ≠ [] ∧ od = some d ∧ H d = some (.xd (x.ns.zip vs)) ∧ w.Off d ∧ x.ns.length = vs.length ∧ RpL K mg w H x.ds vs)
/-- what a result gives -/
def End [Wo] {α β : Type} (R : Wd → Hp → α → β → Prop) (w : Wd) (H : Hp) (r : RE α) (Q : β → Hp → Prop) (E : Value → Option Addr → Hp → Prop) : Prop :=
  match r with
  | .ok a S' => ∀ w' H' b, Ext w H w' H' → Sto K mg w' S' H' → R w' H' a b → Q b H'
  | .ex x S' => ∀ w' H' c od, Ext w H w' H' → Sto K mg w' S' H' → ExR K mg w' H' x c od → E c od H'
  | .no => False
end
/-- readings by functions over trees -/
def tF [Wo] (X : Cx) (W : WX) (f : FE) : TE := fun σ H Q => ∃ w ρ S, Sto X.K X.mg w S H ∧ EnvR X.K X.mg w H ρ σ ∧ End X.K X.mg (fun w H => Rp X.K X.mg w H) w H (f ρ S) Q (fun c od H' => W c od σ H')
def tT [Wo] (X : Cx) (W : WX) (f : FT) : TT := fun σ H Q => ∃ w ρ S, Sto X.K X.mg w S H ∧ EnvR X.K X.mg w H ρ σ ∧ End X.K X.mg (fun _ _ (a b : Bool) => b = a) w H (f ρ S) Q (fun c od H' => W c od σ H')
def tA [Wo] (X : Cx) (W : WX) (f : FA) : TA := fun σ H Q => ∃ w ρ S, Sto X.K X.mg w S H ∧ EnvR X.K X.mg w H ρ σ ∧ End X.K X.mg (fun w H => RpL X.K X.mg w H) w H (f ρ S) Q (fun c od H' => W c od σ H')
section
variable {K : PySem.W.Frag} {mg : Str → Option Value} {w w' w'' : Wd} {H H' H'' : Hp} {S : Store}
theorem Ext.refl : Ext w H w H := ⟨fun _ _ h _ => h, Nat.le_refl _, fun _ _ h _ => h, fun _ h => .inl h, rfl⟩
theorem Ext.trans (a : Ext w H w' H') (b : Ext w' H' w'' H'') : Ext w H w'' H'' where
  fr := fun c o h n => b.fr c o (a.fr c o h n) fun z => by
    rcases a.nw c z with z | z
    · exact n z
    · rw [h] at z; cases z
  ln := Nat.le_trans a.ln b.ln
  ph := fun n c h l => a.ph n c (b.ph n c h (Nat.lt_of_lt_of_le l a.ln)) l
  nw := fun c h => by
    rcases b.nw c h with z | z
    · exact a.nw c z
    · by_cases q : some c ∈ w.φ
      · exact .inl q
      · cases e : H c with
        | none => exact .inr rfl
        | some o => rw [a.fr c o e q] at z; cases z
  hd := b.hd.trans a.hd
theorem Ext.out {a : Addr} {o : HO} (e : Ext w H w' H') (h : H a = some o) (n : w.Off a) : w'.Off a := by
  refine ⟨fun z => ?_, by rw [e.hd]; exact n.2⟩
  rcases e.nw _ z with z | z
  · exact n.1 z
  · rw [h] at z; cases z
theorem Tp.ext {a : Addr} {xs : List V} (e : Ext w H w' H') (h : Tp K w H a xs) : Tp K w' H' a xs := by
  rcases h with ⟨h, n⟩ | h
  · exact .inl ⟨e.fr _ _ h n.1, e.out h n⟩
  · exact .inr h
theorem Fp.ext {a : Addr} {xs : List V} (e : Ext w H w' H') (h : Fp K w H a xs) : Fp K w' H' a xs := by
  rcases h with ⟨o, h, n⟩ | h
  · exact .inl ⟨o, e.fr _ _ h n.1, e.out h n⟩
  · exact .inr h
mutual
theorem Rp.ext (e : Ext w H w' H') : ∀ (d : D) (v : V), Rp K mg w H d v → Rp K mg w' H' d v
  | .non, _, h => by unfold Rp at h ⊢; exact h
  | .bl _, _, h => by unfold Rp at h ⊢; exact h
  | .int _, _, h => by unfold Rp at h ⊢; exact h
  | .str _, _, h => by unfold Rp at h ⊢; exact h
  | .tup ds, v, h => by
    unfold Rp at h ⊢
    obtain ⟨a, xs, e1, t, r⟩ := h
    exact ⟨a, xs, e1, t.ext e, RpL.ext e ds xs r⟩
  | .lst ds, v, h => by
    unfold Rp at h ⊢
    obtain ⟨a, xs, e1, t, n, r⟩ := h
    exact ⟨a, xs, e1, e.fr _ _ t n.1, e.out t n, RpL.ext e ds xs r⟩
  | .dic ks ds, v, h => by
    unfold Rp at h ⊢
    obtain ⟨a, vs, e1, t, n, l, r⟩ := h
    exact ⟨a, vs, e1, e.fr _ _ t n.1, e.out t n, l, RpL.ext e ds vs r⟩
  | .ins c fs ds, v, h => by
    unfold Rp at h ⊢
    obtain ⟨a, C, dx, vs, e1, m, t, n, l, r⟩ := h
    exact ⟨a, C, dx, vs, e1, m, e.fr _ _ t n.1, e.out t n, l, RpL.ext e ds vs r⟩
  | .loc n, v, h => by
    unfold Rp at h ⊢
    exact ⟨Nat.lt_of_lt_of_le h.1 e.ln, fun a q => h.2 a (e.ph n a q h.1)⟩
  | .glo _, _, h => by unfold Rp at h ⊢; exact h
  | .exn _, _, h => by unfold Rp at h ⊢; exact h
  | .fls ds, v, h => by
    unfold Rp at h ⊢
    obtain ⟨a, xs, e1, t, r⟩ := h
    exact ⟨a, xs, e1, t.ext e, RpL.ext e ds xs r⟩
  | .lam i q ob, v, h => by
    unfold Rp at h ⊢
    obtain ⟨f, c', pm, ctv, e1, t, n, t2, n2⟩ := h
    exact ⟨f, c', pm, ctv, e1, e.fr _ _ t n.1, e.out t n, e.fr _ _ t2 n2.1, e.out t2 n2⟩
  | .exo c ns ds, v, h => by
    unfold Rp at h ⊢
    obtain ⟨a, C, od, vs, e1, m, t, n, z, q, l, r⟩ := h
    exact ⟨a, C, od, vs, e1, m, e.fr _ _ t n.1, e.out t n, z, fun d hd => ⟨e.fr _ _ (q d hd).1 (q d hd).2.1, e.out (q d hd).1 (q d hd).2⟩, l, RpL.ext e ds vs r⟩
theorem RpL.ext (e : Ext w H w' H') : ∀ (ds : List D) (vs : List V), RpL K mg w H ds vs → RpL K mg w' H' ds vs
  | [], _, h => by unfold RpL at h ⊢; exact h
  | d :: ds, vs, h => by
    unfold RpL at h ⊢
    obtain ⟨v, r, e1, h1, h2⟩ := h
    exact ⟨v, r, e1, Rp.ext e d v h1, RpL.ext e ds r h2⟩
end
theorem RpL.length : ∀ {ds : List D} {vs : List V}, RpL K mg w H ds vs → ds.length = vs.length
  | [], _, h => by unfold RpL at h; subst h; rfl
  | d :: ds, vs, h => by
    unfold RpL at h
    obtain ⟨v, r, e1, _, h2⟩ := h
    rw [e1, List.length_cons, List.length_cons, RpL.length h2]
theorem RpL.append : ∀ {ds es : List D} {vs us : List V}, RpL K mg w H ds vs → RpL K mg w H es us → RpL K mg w H (ds ++ es) (vs ++ us)
  | [], _, _, _, h, k => by unfold RpL at h; rw [h]; exact k
  | d :: ds, es, vs, us, h, k => by
    unfold RpL at h
    obtain ⟨v, r, e1, h1, h2⟩ := h
    rw [List.cons_append]; unfold RpL
    exact ⟨v, r ++ us, by rw [e1, List.cons_append], h1, RpL.append h2 k⟩
theorem RpL.get : ∀ {ds : List D} {vs : List V} {i : Nat} {d : D}, RpL K mg w H ds vs → ds[i]? = some d → ∃ v, vs[i]? = some v ∧ Rp K mg w H d v
  | [], _, _, _, _, e => by simp at e
  | d :: ds, vs, 0, _, h, e => by
    unfold RpL at h
    obtain ⟨v, r, e1, h1, _⟩ := h
    simp at e
    exact ⟨v, by rw [e1]; rfl, e ▸ h1⟩
  | d :: ds, vs, i + 1, _, h, e => by
    unfold RpL at h
    obtain ⟨v, r, e1, _, h2⟩ := h
    obtain ⟨u, h3, h4⟩ := RpL.get (i := i) h2 (by simpa using e)
    exact ⟨u, by rw [e1]; simpa using h3, h4⟩
theorem RpL.drop : ∀ {ds : List D} {vs : List V} (n : Nat), RpL K mg w H ds vs → RpL K mg w H (ds.drop n) (vs.drop n)
  | _, _, 0, h => h
  | [], vs, n + 1, h => by unfold RpL at h; rw [h]; simp; unfold RpL; rfl
  | d :: ds, vs, n + 1, h => by
    unfold RpL at h
    obtain ⟨v, r, e1, _, h2⟩ := h
    rw [e1]; exact RpL.drop n h2
theorem RpL.take : ∀ {ds : List D} {vs : List V} (n : Nat), RpL K mg w H ds vs → RpL K mg w H (ds.take n) (vs.take n)
  | _, _, 0, h => by simp; unfold RpL; rfl
  | [], vs, n + 1, h => by unfold RpL at h; rw [h]; simp; unfold RpL; rfl
  | d :: ds, vs, n + 1, h => by
    unfold RpL at h
    obtain ⟨v, r, e1, h1, h2⟩ := h
    rw [e1, List.take_succ_cons, List.take_succ_cons]; unfold RpL
    exact ⟨v, _, rfl, h1, RpL.take n h2⟩
theorem RpL.set : ∀ {ds : List D} {vs : List V} {d : D} {v : V} (i : Nat), RpL K mg w H ds vs → Rp K mg w H d v → RpL K mg w H (ds.set i d) (vs.set i v)
  | [], vs, _, _, _, h, _ => by unfold RpL at h; rw [h]; simp; unfold RpL; rfl
  | d :: ds, vs, e, u, 0, h, k => by
    unfold RpL at h
    obtain ⟨v, r, e1, h1, h2⟩ := h
    rw [e1, List.set_cons_zero, List.set_cons_zero]; unfold RpL
    exact ⟨u, r, rfl, k, h2⟩
  | d :: ds, vs, e, u, i + 1, h, k => by
    unfold RpL at h
    obtain ⟨v, r, e1, h1, h2⟩ := h
    rw [e1, List.set_cons_succ, List.set_cons_succ]; unfold RpL
    exact ⟨v, _, rfl, h1, RpL.set i h2 k⟩
theorem RpL.one {d : D} {v : V} (h : Rp K mg w H d v) : RpL K mg w H [d] [v] := by unfold RpL; exact ⟨v, [], rfl, h, by unfold RpL; rfl⟩
theorem RpL.nil : RpL K mg w H [] [] := by unfold RpL; rfl
theorem RpL.cons {d : D} {v : V} {ds : List D} {vs : List V} (h : Rp K mg w H d v) (t : RpL K mg w H ds vs) : RpL K mg w H (d :: ds) (v :: vs) := by unfold RpL; exact ⟨v, vs, rfl, h, t⟩
theorem RpL.nil_iff {ds : List D} {vs : List V} (h : RpL K mg w H ds vs) : ds = [] ↔ vs = [] := by
  have e := h.length
  constructor
  · rintro rfl; exact List.eq_nil_of_length_eq_zero e.symm
  · rintro rfl; exact List.eq_nil_of_length_eq_zero e
theorem RpL.one_inv {d : D} {vs : List V} (h : RpL K mg w H [d] vs) : ∃ v, vs = [v] ∧ Rp K mg w H d v := by
  unfold RpL at h
  obtain ⟨v, r, e1, h1, h2⟩ := h
  unfold RpL at h2
  exact ⟨v, by rw [e1, h2], h1⟩
theorem EnvR.ext {ρ : FEnv} {σ : L2.St} (e : Ext w H w' H') (h : EnvR K mg w H ρ σ) : EnvR K mg w' H' ρ σ := ⟨h.len, fun i d q => by
  obtain ⟨v, h1, h2⟩ := h.at_ i d q
  exact ⟨v, h1, Rp.ext e _ _ h2⟩⟩
theorem Sto.tracked [Wo] (s : Sto K mg w S H) {a : Addr} (h : some a ∈ w.φ) : H a ≠ none := by
  obtain ⟨n, hn, e⟩ := List.mem_iff_getElem.mp h
  have h1 : w.φ[n]? = some (some a) := by rw [List.getElem?_eq_getElem hn, e]
  have hs : n < S.length := s.len ▸ hn
  have c := s.cell n S[n] (List.getElem?_eq_getElem hs)
  unfold CellR at c
  split at c
  · obtain ⟨b, xs, h2, h3, _⟩ := c
    rw [h1] at h2; cases h2; rw [h3]; exact fun z => nomatch z
  · obtain ⟨b, xs, o, h2, h3, _⟩ := c
    rw [h1] at h2; cases h2; rw [h3]; exact fun z => nomatch z
  · rw [h1] at c; cases c
  · obtain ⟨_, _, _, h2, ps, h3, _⟩ := c
    rw [h1] at h2; cases h2; rw [h3]; exact fun z => nomatch z
  · rw [h1] at c; cases c.1
  · rw [h1] at c; cases c.1
  · obtain ⟨b, C, dx, vs, h2, _, h3, _⟩ := c
    rw [h1] at h2; cases h2; rw [h3]; exact fun z => nomatch z
  · obtain ⟨b, es, h2, h3, _⟩ := c
    rw [h1] at h2; cases h2; rw [h3]; exact fun z => nomatch z
theorem Sto.new [Wo] (s : Sto K mg w S H) {p : Addr} (h : H p = none) : w.Off p := ⟨fun z => s.tracked z h, fun z => (s.ap p z).1 h⟩
theorem Ext.new {p : Addr} {o : HO} (h : H p = none) : Ext w H w (upd H p o) := ⟨fun a u e _ => by rw [upd_ne (ne_of_none e h)]; exact e, Nat.le_refl _, fun _ _ h _ => h, fun _ h => .inl h, rfl⟩
theorem CellR.ext [Wo] {c : Cell} {n : Nat} (e : Ext w H w' H') (hw : ∀ a, w.φ[n]? = some (some a) → w'.φ[n]? = some (some a) ∧ H' a = H a) (hd : w.φ[n]? = some none → w'.φ[n]? = some none) (h : CellR K mg w H c n) : CellR K mg w' H' c n := by
  unfold CellR at h ⊢
  split at h
  · obtain ⟨b, xs, h2, h3, h4⟩ := h
    exact ⟨b, xs, (hw b h2).1, by rw [(hw b h2).2]; exact h3, RpL.ext e _ _ h4⟩
  · obtain ⟨b, xs, o, h2, h3, h4⟩ := h
    exact ⟨b, xs, o, (hw b h2).1, by rw [(hw b h2).2]; exact h3, RpL.ext e _ _ h4⟩
  · exact hd h
  · obtain ⟨c0, P, ht, h2, ps, h3, h4, h5⟩ := h
    refine ⟨c0, P, ht, (hw _ h2).1, ps, by rw [(hw _ h2).2]; exact h3, h4, fun pos cv hc => ?_⟩
    obtain ⟨c, e1, e2, e3⟩ := h5 pos cv hc
    exact ⟨c, e1, e.fr _ _ e2 e3.1, e.out e2 e3⟩
  · obtain ⟨h1, h2, h3, ⟨φ, h4, h6⟩, h5⟩ := h
    refine ⟨hd h1, by rw [e.hd]; exact h2, fun z => ?_, ⟨φ, e.fr _ _ h4 h3, h6⟩, h5⟩
    rcases e.nw _ z with z | z
    · exact h3 z
    · rw [h4] at z; cases z
  · exact ⟨hd h.1, EnvR.ext e h.2⟩
  · obtain ⟨b, C, dx, vs, h2, h3, h4, h5, h6⟩ := h
    exact ⟨b, C, dx, vs, (hw b h2).1, h3, by rw [(hw b h2).2]; exact h4, h5, RpL.ext e _ _ h6⟩
  · obtain ⟨b, es, h2, h3, h4, h5, h6, h7⟩ := h
    exact ⟨b, es, (hw b h2).1, by rw [(hw b h2).2]; exact h3, h4, h5, fun x hx => ⟨(h6 x hx).1, let ⟨d, q1, q2⟩ := (h6 x hx).2; ⟨d, q1, Rp.ext e _ _ q2⟩⟩, RpL.ext e _ _ h7⟩
theorem upd_some {p a : Addr} {o : HO} (h : H a ≠ none) : upd H p o a ≠ none := by
  by_cases e : a = p
  · subst e; rw [upd_same]; exact fun z => nomatch z
  · rw [upd_ne e]; exact h
/-- a new object beside -/
theorem Sto.beside [Wo] {p : Addr} {o : HO} (s : Sto K mg w S H) (h : H p = none) : Sto K mg w S (upd H p o) := ⟨s.len, s.nd, fun a ha => ⟨upd_some (s.ap a ha).1, (s.ap a ha).2⟩, fun n c q => CellR.ext (Ext.new h) (fun a ha => ⟨ha, by
  have : a ≠ p := fun z => by subst z; exact (s.new h).1 (List.mem_of_getElem? ha)
  rw [upd_ne this]⟩) id (s.cell n c q)⟩
end
section
variable {K : PySem.W.Frag} {mg : Str → Option Value} {α β γ δ : Type} {R : Wd → Hp → α → β → Prop} {R' : Wd → Hp → γ → δ → Prop} {w w1 : Wd} {H H1 : Hp} {r : RE α} {E : Value → Option Addr → Hp → Prop}
theorem End.imp [Wo] {Q Q' : β → Hp → Prop} {E' : Value → Option Addr → Hp → Prop} (h : End K mg R w H r Q E) (hq : ∀ b H', Q b H' → Q' b H') (he : ∀ c od H', E c od H' → E' c od H') : End K mg R w H r Q' E' := by
  unfold End at h ⊢
  split
  · exact fun w' H' b e s k => hq _ _ (h w' H' b e s k)
  · exact fun w' H' b od e s k => he _ _ _ (h w' H' b od e s k)
  · exact h
theorem End.on [Wo] {Q : β → Hp → Prop} (x : Ext w H w1 H1) (h : End K mg R w H r Q E) : End K mg R w1 H1 r Q E := by
  unfold End at h ⊢
  split
  · exact fun w' H' b e s k => h w' H' b (x.trans e) s k
  · exact fun w' H' b od e s k => h w' H' b od (x.trans e) s k
  · exact h
/-- one after the other -/
theorem End.bind [Wo] {k : α → Store → RE γ} {Q : δ → Hp → Prop} (h : End K mg R' w H (r.bnd k) Q E) :
    End K mg R w H r (fun b H1 => ∃ w1 S1 a, Ext w H w1 H1 ∧ Sto K mg w1 S1 H1 ∧ R w1 H1 a b ∧ End K mg R' w1 H1 (k a S1) Q E) E := by
  cases r with
  | ok a S1 =>
    have h' : End K mg R' w H (k a S1) Q E := h
    exact fun w' H' b e s kk => ⟨w', S1, a, e, s, kk, h'.on e⟩
  | ex x S1 => exact h
  | no => exact h
theorem End.ret [Wo] {Q : β → Hp → Prop} {a : α} {b : β} {S : Store} (h : End K mg R w H (.ok a S) Q E) (s : Sto K mg w S H) (k : R w H a b) : Q b H := h w H b Ext.refl s k
end
section
variable {X : Cx} {W : WX}
theorem PE.wk {e : Expr} {t t' : TE} (h : PE X e t) (m : ∀ σ H Q, t' σ H Q → t σ H Q) : PE X e t' := ⟨fun pins s σ H Q I k => h.run pins s σ H Q I (m σ H Q k)⟩
theorem PT.wk {e : Expr} {t t' : TT} (h : PT X e t) (m : ∀ σ H Q, t' σ H Q → t σ H Q) : PT X e t' := ⟨fun pins s σ H Q I k => h.run pins s σ H Q I (m σ H Q k)⟩
theorem PW.wk {e : Expr} {t t' : TT} (h : PW X e t) (m : ∀ σ H Q, t' σ H Q → t σ H Q) : PW X e t' := ⟨fun wh pins s σ H Q I k => h.run wh pins s σ H Q I (m σ H Q k)⟩
theorem PA.wk {e : List Expr} {t t' : TA} (h : PA X e t) (m : ∀ σ H Q, t' σ H Q → t σ H Q) : PA X e t' := ⟨fun pos pins s σ H Q I k => h.run pos pins s σ H Q I (m σ H Q k)⟩
theorem PS.wk {e : Stmt} {t t' : TS} (h : PS X e t) (m : ∀ D σ H, t' D σ H → t D σ H) : PS X e t' := ⟨fun pins s σ H D I k => h.run pins s σ H D I (m D σ H k)⟩
theorem PSs.wk {e : List Stmt} {t t' : TS} (h : PSs X e t) (m : ∀ D σ H, t' D σ H → t D σ H) : PSs X e t' := ⟨fun pins s σ H D I k => h.run pins s σ H D I (m D σ H k)⟩
end
end Kw
namespace Kw
open PySem PySem.Spec PyProof.Rows L2
def cellOf (S : Store) (n : Nat) : Option (List D) := match S[n]? with
  | some (.lst ds) => some ds
  | some (.frz ds) => some ds
  | _ => none
def cellM (S : Store) (n : Nat) : Option (List D) := match S[n]? with
  | some (.lst ds) => some ds
  | _ => none
/-- a list that is read -/
def seqL (S : Store) : D → Option (List D)
  | .lst ds => some ds
  | .fls ds => some ds
  | .loc n => cellOf S n
  | _ => none
/-- a list that is no locked one -/
def seqM (S : Store) : D → Option (List D)
  | .lst ds => some ds
  | .loc n => cellM S n
  | _ => none
/-- a list or a tuple -/
def seqA (S : Store) : D → Option (List D)
  | .lst ds => some ds
  | .fls ds => some ds
  | .loc n => cellOf S n
  | .tup ds => some ds
  | _ => none
mutual
def py0 : D → Option PyData
  | .non => some .none
  | .bl b => some (.bool b)
  | .int i => some (.int i)
  | .str x => some (.str x)
  | .tup ds => (py0L ds).map .tuple
  | .lst ds => (py0L ds).map .list
  | .fls ds => (py0L ds).map .list
  | _ => none
def py0L : List D → Option (List PyData)
  | [] => some []
  | d :: ds => (py0 d).bind fun a => (py0L ds).map (a :: ·)
end
mutual
/-- a value as plain data -/
def pyS (S : Store) : D → Option PyData
  | .non => some .none
  | .bl b => some (.bool b)
  | .int i => some (.int i)
  | .str x => some (.str x)
  | .tup ds => (pySL S ds).map .tuple
  | .lst ds => (pySL S ds).map .list
  | .fls ds => (pySL S ds).map .list
  | .loc n => ((cellOf S n).bind py0L).map .list
  | _ => none
def pySL (S : Store) : List D → Option (List PyData)
  | [] => some []
  | d :: ds => (pyS S d).bind fun a => (pySL S ds).map (a :: ·)
end
section
variable {K : PySem.W.Frag} {mg : Str → Option Value} {w : Wd} {H : Hp} {S : Store}
theorem cellOf_at [Wo] (s : Sto K mg w S H) {n : Nat} {ds : List D} (h : cellOf S n = some ds) : ∃ a xs, w.φ[n]? = some (some a) ∧ Rd H a (.lst xs) ∧ RpL K mg w H ds xs := by
  unfold cellOf at h
  split at h
  · rename_i e he
    cases h
    obtain ⟨a, xs, h1, h2, h3⟩ := s.cell n _ he
    exact ⟨a, xs, h1, .inl h2, h3⟩
  · rename_i e he
    cases h
    obtain ⟨a, xs, o, h1, h2, h3⟩ := s.cell n _ he
    exact ⟨a, xs, h1, .inr ⟨o, h2⟩, h3⟩
  · cases h
theorem cellM_at [Wo] (s : Sto K mg w S H) {n : Nat} {ds : List D} (h : cellM S n = some ds) : ∃ a xs, w.φ[n]? = some (some a) ∧ H a = some (.lst xs) ∧ RpL K mg w H ds xs := by
  unfold cellM at h
  split at h
  · rename_i e he
    cases h
    obtain ⟨a, xs, h1, h2, h3⟩ := s.cell n _ he
    exact ⟨a, xs, h1, h2, h3⟩
  · cases h
theorem Fp.sq {a : Addr} {xs : List V} (h : Fp K w H a xs) : SqL K H a xs := by
  rcases h with ⟨o, h, _⟩ | h
  · exact .inl (.inr ⟨o, h⟩)
  · exact .inr h
theorem seqL_at [Wo] (s : Sto K mg w S H) {d : D} {v : V} {ds : List D} (r : Rp K mg w H d v) (h : seqL S d = some ds) : ∃ a xs, v = .ref a ∧ SqL K H a xs ∧ RpL K mg w H ds xs := by
  cases d <;> simp only [seqL] at h <;> try (cases h; done)
  · cases h
    unfold Rp at r
    obtain ⟨a, xs, e, t, _, q⟩ := r
    exact ⟨a, xs, e, .of t, q⟩
  · obtain ⟨a, xs, h1, h2, h3⟩ := cellOf_at s h
    unfold Rp at r
    exact ⟨a, xs, r.2 a h1, .inl h2, h3⟩
  · cases h
    unfold Rp at r
    obtain ⟨a, xs, e, t, q⟩ := r
    exact ⟨a, xs, e, t.sq, q⟩
theorem seqM_at [Wo] (s : Sto K mg w S H) {d : D} {v : V} {ds : List D} (r : Rp K mg w H d v) (h : seqM S d = some ds) : ∃ a xs, v = .ref a ∧ H a = some (.lst xs) ∧ RpL K mg w H ds xs := by
  cases d <;> simp only [seqM] at h <;> try (cases h; done)
  · cases h
    unfold Rp at r
    obtain ⟨a, xs, e, t, _, q⟩ := r
    exact ⟨a, xs, e, t, q⟩
  · obtain ⟨a, xs, h1, h2, h3⟩ := cellM_at s h
    unfold Rp at r
    exact ⟨a, xs, r.2 a h1, h2, h3⟩
theorem Tp.sq {a : Addr} {xs : List V} (h : Tp K w H a xs) : SqT K H a xs := by
  rcases h with ⟨h, _⟩ | h
  · exact .of h
  · exact .inr h
theorem tup_at {ds : List D} {v : V} (r : Rp K mg w H (.tup ds) v) : ∃ a xs, v = .ref a ∧ SqT K H a xs ∧ RpL K mg w H ds xs := by
  unfold Rp at r
  obtain ⟨a, xs, e, t, q⟩ := r
  exact ⟨a, xs, e, t.sq, q⟩
theorem seqA_at [Wo] (s : Sto K mg w S H) {d : D} {v : V} {ds : List D} (r : Rp K mg w H d v) (h : seqA S d = some ds) : ∃ a xs, v = .ref a ∧ (SqL K H a xs ∨ SqT K H a xs) ∧ RpL K mg w H ds xs := by
  cases d <;> simp only [seqA] at h <;> try (cases h; done)
  · cases h
    obtain ⟨a, xs, e, t, q⟩ := tup_at r
    exact ⟨a, xs, e, .inr t, q⟩
  · cases h
    unfold Rp at r
    obtain ⟨a, xs, e, t, _, q⟩ := r
    exact ⟨a, xs, e, .inl (.of t), q⟩
  · obtain ⟨a, xs, h1, h2, h3⟩ := cellOf_at s h
    unfold Rp at r
    exact ⟨a, xs, r.2 a h1, .inl (.inl h2), h3⟩
  · cases h
    unfold Rp at r
    obtain ⟨a, xs, e, t, q⟩ := r
    exact ⟨a, xs, e, .inl t.sq, q⟩
mutual
theorem py0_at : ∀ (d : D) (v : V) (p : PyData), Rp K mg w H d v → py0 d = some p → Dp K H v p
  | .non, v, p, r, h => by unfold Rp at r; simp only [py0] at h; cases h; subst r; exact .non
  | .bl _, v, p, r, h => by unfold Rp at r; simp only [py0] at h; cases h; subst r; exact .bl _
  | .int _, v, p, r, h => by unfold Rp at r; simp only [py0] at h; cases h; subst r; exact .int _
  | .str _, v, p, r, h => by unfold Rp at r; simp only [py0] at h; cases h; subst r; exact .str _
  | .tup ds, v, p, r, h => by
    obtain ⟨a, xs, e, t, q⟩ := tup_at r
    simp only [py0, Option.map_eq_some_iff] at h
    obtain ⟨ps, h1, h2⟩ := h
    subst e; subst h2
    exact .tup t (py0L_at ds xs ps q h1)
  | .lst ds, v, p, r, h => by
    unfold Rp at r
    obtain ⟨a, xs, e, t, _, q⟩ := r
    simp only [py0, Option.map_eq_some_iff] at h
    obtain ⟨ps, h1, h2⟩ := h
    subst e; subst h2
    exact .lst (.of t) (py0L_at ds xs ps q h1)
  | .dic _ _, v, p, r, h => by simp [py0] at h
  | .ins _ _ _, v, p, r, h => by simp [py0] at h
  | .loc _, v, p, r, h => by simp [py0] at h
  | .glo _, v, p, r, h => by simp [py0] at h
  | .exn _, v, p, r, h => by simp [py0] at h
  | .exo _ _ _, v, p, r, h => by simp [py0] at h
  | .lam _ _ _, v, p, r, h => by simp [py0] at h
  | .fls ds, v, p, r, h => by
    unfold Rp at r
    obtain ⟨a, xs, e, t, q⟩ := r
    simp only [py0, Option.map_eq_some_iff] at h
    obtain ⟨ps, h1, h2⟩ := h
    subst e; subst h2
    exact .lst t.sq (py0L_at ds xs ps q h1)
theorem py0L_at : ∀ (ds : List D) (vs : List V) (ps : List PyData), RpL K mg w H ds vs → py0L ds = some ps → DpAll K H vs ps
  | [], vs, ps, r, h => by unfold RpL at r; simp only [py0L] at h; cases h; subst r; exact .nil
  | d :: ds, vs, ps, r, h => by
    unfold RpL at r
    obtain ⟨v, vs', e, r1, r2⟩ := r
    simp only [py0L, Option.bind_eq_some_iff, Option.map_eq_some_iff] at h
    obtain ⟨a, h1, b, h2, h3⟩ := h
    subst e; subst h3
    exact .cons (py0_at d v a r1 h1) (py0L_at ds vs' b r2 h2)
end
mutual
theorem pyS_at [Wo] (s : Sto K mg w S H) : ∀ (d : D) (v : V) (p : PyData), Rp K mg w H d v → pyS S d = some p → Dp K H v p
  | .non, v, p, r, h => by unfold Rp at r; simp only [pyS] at h; cases h; subst r; exact .non
  | .bl _, v, p, r, h => by unfold Rp at r; simp only [pyS] at h; cases h; subst r; exact .bl _
  | .int _, v, p, r, h => by unfold Rp at r; simp only [pyS] at h; cases h; subst r; exact .int _
  | .str _, v, p, r, h => by unfold Rp at r; simp only [pyS] at h; cases h; subst r; exact .str _
  | .tup ds, v, p, r, h => by
    obtain ⟨a, xs, e, t, q⟩ := tup_at r
    simp only [pyS, Option.map_eq_some_iff] at h
    obtain ⟨ps, h1, h2⟩ := h
    subst e; subst h2
    exact .tup t (pySL_at s ds xs ps q h1)
  | .lst ds, v, p, r, h => by
    unfold Rp at r
    obtain ⟨a, xs, e, t, _, q⟩ := r
    simp only [pyS, Option.map_eq_some_iff] at h
    obtain ⟨ps, h1, h2⟩ := h
    subst e; subst h2
    exact .lst (.of t) (pySL_at s ds xs ps q h1)
  | .loc n, v, p, r, h => by
    simp only [pyS, Option.map_eq_some_iff, Option.bind_eq_some_iff] at h
    obtain ⟨ps, ⟨ds, h0, h1⟩, h2⟩ := h
    obtain ⟨a, xs, h3, h4, h5⟩ := cellOf_at s h0
    unfold Rp at r
    have e := r.2 a h3
    subst e; subst h2
    exact .lst (.inl h4) (py0L_at ds xs ps h5 h1)
  | .dic _ _, v, p, r, h => by simp [pyS] at h
  | .ins _ _ _, v, p, r, h => by simp [pyS] at h
  | .glo _, v, p, r, h => by simp [pyS] at h
  | .exn _, v, p, r, h => by simp [pyS] at h
  | .exo _ _ _, v, p, r, h => by simp [pyS] at h
  | .lam _ _ _, v, p, r, h => by simp [pyS] at h
  | .fls ds, v, p, r, h => by
    unfold Rp at r
    obtain ⟨a, xs, e, t, q⟩ := r
    simp only [pyS, Option.map_eq_some_iff] at h
    obtain ⟨ps, h1, h2⟩ := h
    subst e; subst h2
    exact .lst t.sq (pySL_at s ds xs ps q h1)
theorem pySL_at [Wo] (s : Sto K mg w S H) : ∀ (ds : List D) (vs : List V) (ps : List PyData), RpL K mg w H ds vs → pySL S ds = some ps → DpAll K H vs ps
  | [], vs, ps, r, h => by unfold RpL at r; simp only [pySL] at h; cases h; subst r; exact .nil
  | d :: ds, vs, ps, r, h => by
    unfold RpL at r
    obtain ⟨v, vs', e, r1, r2⟩ := r
    simp only [pySL, Option.bind_eq_some_iff, Option.map_eq_some_iff] at h
    obtain ⟨a, h1, b, h2, h3⟩ := h
    subst e; subst h3
    exact .cons (pyS_at s d v a r1 h1) (pySL_at s ds vs' b r2 h2)
end
end
def fVar (i : Nat) : FE := fun ρ S => match ρ[i]? with
  | some (some d) => .ok d S
  | _ => .no
def fC (d : D) : FE := fun _ S => .ok d S
def f1 (g : D → Store → RE D) (a : FE) : FE := fun ρ S => (a ρ S).bnd fun x S1 => g x S1
def f2 (g : D → D → Store → RE D) (a b : FE) : FE := fun ρ S => (a ρ S).bnd fun x S1 => (b ρ S1).bnd fun y S2 => g x y S2
def fNil : FA := fun _ S => .ok [] S
def fCons (a : FE) (r : FA) : FA := fun ρ S => (a ρ S).bnd fun x S1 => (r ρ S1).bnd fun xs S2 => .ok (x :: xs) S2
def fArg (g : List D → Store → RE D) (a : FA) : FE := fun ρ S => (a ρ S).bnd g
/-- what the operation's reading asks is given -/
def OpV [Wo] (K : PySem.W.Frag) (mg : Str → Option Value) (r : R2) (g : D → D → Store → RE D) : Prop :=
  ∀ (w : Wd) (S : Store) (H : Hp) (x y : V) (d e : D) (Q : VK) (E : Value → Option Addr → Hp → Prop), Sto K mg w S H → Rp K mg w H d x → Rp K mg w H e y → End K mg (fun w H => Rp K mg w H) w H (g d e S) Q E → r x y H Q
def CallV [Wo] (K : PySem.W.Frag) (mg : Str → Option Value) (r : List V → Hp → VK → Prop) (g : List D → Store → RE D) : Prop :=
  ∀ (w : Wd) (S : Store) (H : Hp) (xs : List V) (ds : List D) (Q : VK) (E : Value → Option Addr → Hp → Prop), Sto K mg w S H → RpL K mg w H ds xs → End K mg (fun w H => Rp K mg w H) w H (g ds S) Q E → r xs H Q
section
variable {X : Cx} {W : WX} {a b e : Expr} {es : List Expr} {fa fb : FE} {fs : FA} {pos : Pos}
theorem two [Wo] {r : R2} {g : D → D → Store → RE D} (hv : OpV X.K X.mg r g) {σ : L2.St} {H : Hp} {Q : VK} (h : tF X W (f2 g fa fb) σ H Q) : tOp r (tF X W fa) (tF X W fb) σ H Q := by
  obtain ⟨w, ρ, S, s, en, h⟩ := h
  refine ⟨w, ρ, S, s, en, (End.bind h).imp ?_ (fun _ _ _ z => z)⟩
  rintro x H1 ⟨w1, S1, d, e1, s1, r1, h1⟩
  refine ⟨w1, ρ, S1, s1, en.ext e1, (End.bind h1).imp ?_ (fun _ _ _ z => z)⟩
  rintro y H2 ⟨w2, S2, d2, e2, s2, r2, h2⟩
  exact hv w2 S2 H2 x y d d2 Q _ s2 (Rp.ext e2 _ _ r1) r2 h2
theorem q_var [Wo] (i : Nat) {x : Str} (hN : X.N[i]? = some x := by rfl) (hv : Vis X.env.scope x := by first | exact Or.inl rfl | exact Or.inr (Or.inl rfl) | exact Or.inr (Or.inr rfl)) (hd : (x == ("__debug__" : Str)) = false := by decide)
    (hcd : (x == ("__classdict__" : Str)) = false := by decide) : PE X (.Name x pos) (tF X W (fVar i)) :=
  PE.wk (pe_var hN hv hd hcd) fun σ H Q ⟨w, ρ, S, s, en, h⟩ => by
    unfold fVar at h
    split at h
    · rename_i d hd
      obtain ⟨v, h1, h2⟩ := en.at_ i d hd
      exact ⟨v, h1, h.ret s h2⟩
    · exact h.elim
theorem q_const [Wo] {d : D} {v : V} (hr : ∀ w H, Rp X.K X.mg w H d v) (h : PE X e (tC v)) : PE X e (tF X W (fC d)) := PE.wk h fun σ H Q ⟨w, ρ, S, s, en, h⟩ => h.ret s (hr w H)
theorem q_int [Wo] {i j} : PE X (.Constant (.int i) j pos) (tF X W (fC (.int i))) := q_const (fun w H => by unfold Rp; rfl) pe_int
theorem q_bl [Wo] {i j} : PE X (.Constant (.bool i) j pos) (tF X W (fC (.bl i))) := q_const (fun w H => by unfold Rp; rfl) pe_bl
theorem q_non [Wo] {j} : PE X (.Constant .none j pos) (tF X W (fC .non)) := q_const (fun w H => by unfold Rp; rfl) pe_non
theorem q_str [Wo] {i j} : PE X (.Constant (.str i) j pos) (tF X W (fC (.str i))) := q_const (fun w H => by unfold Rp; rfl) pe_str
theorem q_op [Wo] {op : Operator} {r : R2} {g : D → D → Store → RE D} (ho : OpR X (binaryOp op) r) (hv : OpV X.K X.mg r g) (ha : PE X a (tF X W fa)) (hb : PE X b (tF X W fb)) : PE X (.BinOp a op b pos) (tF X W (f2 g fa fb)) :=
  PE.wk (pe_op ho ha hb) fun σ H Q h => two hv h
theorem q_cmp [Wo] {op : CmpOp} {r : R2} {g : D → D → Store → RE D} (ho : OpR X (compareOp op) r) (hv : OpV X.K X.mg r g) (ha : PE X a (tF X W fa)) (hb : PE X b (tF X W fb)) (hm : behindInMarks op b = false) : PE X (.Compare a [op] [b] pos) (tF X W (f2 g fa fb)) :=
  PE.wk (pe_cmpR ho ha hb hm) fun σ H Q h => two hv h
/-- a value that is a truth, as a test -/
def fB (f : FE) : FT := fun ρ S => (f ρ S).bnd fun x S1 => match x with
  | .bl k => .ok k S1
  | _ => .no
theorem tF_of_fB [Wo] {f : FE} {σ : L2.St} {H : Hp} {Q : Bool → Hp → Prop} (h : tT X W (fB f) σ H Q) : tF X W f σ H (fun v H' => ∃ k, v = .bl k ∧ Q k H') := by
  obtain ⟨w, ρ, S, s, en, h⟩ := h
  refine ⟨w, ρ, S, s, en, (End.bind (R := fun w H => Rp X.K X.mg w H) h).imp ?_ (fun _ _ _ z => z)⟩
  rintro x H1 ⟨w1, S1, d, e1, s1, r1, h1⟩
  cases d <;> try exact h1.elim
  unfold Rp at r1
  exact ⟨_, r1, h1.ret s1 rfl⟩
theorem qt_cmp [Wo] {op : CmpOp} {r : R2} {g : D → D → Store → RE D} (ho : OpR X (compareOp op) r) (hv : OpV X.K X.mg r g) (ha : PE X a (tF X W fa)) (hb : PE X b (tF X W fb)) (hm : behindInMarks op b = false) : PT X (.Compare a [op] [b] pos) (tT X W (fB (f2 g fa fb))) :=
  PT.wk (pt_cmpR ho ha hb hm) fun σ H Q h => two hv (tF_of_fB h)
/-- a op1 b op2 c -/
def fChain (g g' : D → D → Store → RE D) (a b c : FE) : FE := fun ρ S => (a ρ S).bnd fun x S1 => (b ρ S1).bnd fun y S2 => (g x y S2).bnd fun k S3 => match k with
  | .bl true => (c ρ S3).bnd fun z S4 => g' y z S4
  | .bl false => .ok (.bl false) S3
  | _ => .no
theorem chain [Wo] {r r' : R2} {g g' : D → D → Store → RE D} (hv : OpV X.K X.mg r g) (hv' : OpV X.K X.mg r' g') {fc : FE} {σ : L2.St} {H : Hp} {Q : VK} (h : tF X W (fChain g g' fa fb fc) σ H Q) : tChain r r' (tF X W fa) (tF X W fb) (tF X W fc) σ H Q := by
  obtain ⟨w, ρ, S, s, en, h⟩ := h
  refine ⟨w, ρ, S, s, en, (End.bind h).imp ?_ (fun _ _ _ z => z)⟩
  rintro x H1 ⟨w1, S1, d, e1, s1, r1, h1⟩
  refine ⟨w1, ρ, S1, s1, en.ext e1, (End.bind h1).imp ?_ (fun _ _ _ z => z)⟩
  rintro y H2 ⟨w2, S2, d2, e2, s2, r2, h2⟩
  refine hv w2 S2 H2 x y d d2 _ _ s2 (Rp.ext e2 _ _ r1) r2 ((End.bind h2).imp ?_ (fun _ _ _ z => z))
  rintro z H3 ⟨w3, S3, d3, e3, s3, r3, h3⟩
  cases d3 <;> try exact h3.elim
  rename_i k
  unfold Rp at r3
  refine ⟨k, r3, ?_⟩
  cases k with
  | false => rw [if_neg (by decide)]; exact h3.ret s3 (by unfold Rp; rfl)
  | true =>
    rw [if_pos rfl]
    refine ⟨w3, ρ, S3, s3, ((en.ext e1).ext e2).ext e3, (End.bind h3).imp ?_ (fun _ _ _ z => z)⟩
    rintro u H4 ⟨w4, S4, d4, e4, s4, r4, h4⟩
    exact hv' w4 S4 H4 y u d2 d4 _ _ s4 (Rp.ext e4 _ _ (Rp.ext e3 _ _ r2)) r4 h4
theorem q_chain [Wo] {c : Expr} {fc : FE} {op op' : CmpOp} {r r' : R2} {g g' : D → D → Store → RE D} (ho : OpR X (compareOp op) r) (hv : OpV X.K X.mg r g) (ho' : OpR X (compareOp op') r') (hv' : OpV X.K X.mg r' g') (ha : PE X a (tF X W fa)) (hb : PE X b (tF X W fb)) (hc : PE X c (tF X W fc))
    (hm : lastMarks [op, op'] [b, c] = false := by with_unfolding_all rfl) : PE X (.Compare a [op, op'] [b, c] pos) (tF X W (fChain g g' fa fb fc)) :=
  PE.wk (pe_chain ho ho' ha hb hc hm) fun σ H Q h => chain hv hv' h
theorem qt_chain [Wo] {c : Expr} {fc : FE} {op op' : CmpOp} {r r' : R2} {g g' : D → D → Store → RE D} (ho : OpR X (compareOp op) r) (hv : OpV X.K X.mg r g) (ho' : OpR X (compareOp op') r') (hv' : OpV X.K X.mg r' g') (ha : PE X a (tF X W fa)) (hb : PE X b (tF X W fb)) (hc : PE X c (tF X W fc))
    (hm : lastMarks [op, op'] [b, c] = false := by with_unfolding_all rfl) : PT X (.Compare a [op, op'] [b, c] pos) (tT X W (fB (fChain g g' fa fb fc))) :=
  PT.wk (pt_chain ho ho' ha hb hc hm) fun σ H Q h => chain hv hv' (tF_of_fB h)
def fAnd (a b : FT) : FT := fun ρ S => (a ρ S).bnd fun k S1 => match k with
  | true => b ρ S1
  | false => .ok false S1
def fOr (a b : FT) : FT := fun ρ S => (a ρ S).bnd fun k S1 => match k with
  | true => .ok true S1
  | false => b ρ S1
def fNot (a : FT) : FT := fun ρ S => (a ρ S).bnd fun k S1 => .ok (!k) S1
def fIf (c : FT) (a b : FE) : FE := fun ρ S => (c ρ S).bnd fun k S1 => match k with
  | true => a ρ S1
  | false => b ρ S1
variable {ta tb : FT} {rest : List Expr}
theorem tT_bind [Wo] {β : Type} {R' : Wd → Hp → β → β → Prop} {f : FT} {σ : L2.St} {H : Hp} {t : Bool → Hp → Prop} {w : Wd} {ρ : FEnv} {S : Store} {γ δ : Type} {RR : Wd → Hp → γ → δ → Prop} {k : Bool → Store → RE γ} {Q : δ → Hp → Prop}
    (s : Sto X.K X.mg w S H) (en : EnvR X.K X.mg w H ρ σ) (h : End X.K X.mg RR w H ((f ρ S).bnd k) Q (fun c od H' => W c od σ H'))
    (hk : ∀ w1 S1 H1 b, Sto X.K X.mg w1 S1 H1 → EnvR X.K X.mg w1 H1 ρ σ → End X.K X.mg RR w1 H1 (k b S1) Q (fun c od H' => W c od σ H') → t b H1) : tT X W f σ H t := by
  refine ⟨w, ρ, S, s, en, (End.bind h).imp ?_ (fun _ _ _ z => z)⟩
  rintro v H1 ⟨w1, S1, d, e1, s1, r1, h1⟩
  cases r1
  exact hk w1 S1 H1 _ s1 (en.ext e1) h1
theorem qw_one [Wo] {op : BoolOp} (ha : PT X a (tT X W ta)) : PW X (.BoolOp op [a] pos) (tT X W ta) := by
  cases op
  · exact pw_and1 ha
  · exact pw_or1 ha
theorem qw_and [Wo] (ha : PT X a (tT X W ta)) (hb : PW X (.BoolOp .And (b :: rest) pos) (tT X W tb)) : PW X (.BoolOp .And (a :: b :: rest) pos) (tT X W (fAnd ta tb)) :=
  PW.wk (pw_and ha hb) fun σ H Q ⟨w, ρ, S, s, en, h⟩ => tT_bind (R' := fun _ _ (a b : Nat) => True) s en h fun w1 S1 H1 k s1 en1 h1 => by
    cases k with
    | true => rw [if_pos rfl]; exact ⟨w1, ρ, S1, s1, en1, h1⟩
    | false => rw [if_neg (by decide)]; exact h1.ret s1 rfl
theorem qw_or [Wo] (ha : PT X a (tT X W ta)) (hb : PW X (.BoolOp .Or (b :: rest) pos) (tT X W tb)) : PW X (.BoolOp .Or (a :: b :: rest) pos) (tT X W (fOr ta tb)) :=
  PW.wk (pw_or ha hb) fun σ H Q ⟨w, ρ, S, s, en, h⟩ => tT_bind (R' := fun _ _ (a b : Nat) => True) s en h fun w1 S1 H1 k s1 en1 h1 => by
    cases k with
    | true => rw [if_pos rfl]; exact h1.ret s1 rfl
    | false => rw [if_neg (by decide)]; exact ⟨w1, ρ, S1, s1, en1, h1⟩
theorem qt_not [Wo] (ha : PT X a (tT X W ta)) : PT X (.UnaryOp .Not a pos) (tT X W (fNot ta)) :=
  PT.wk (pt_not ha) fun σ H Q ⟨w, ρ, S, s, en, h⟩ => tT_bind (R' := fun _ _ (a b : Nat) => True) s en h fun w1 S1 H1 k s1 en1 h1 => h1.ret s1 rfl
theorem q_if [Wo] {c : Expr} {tc : FT} (hc : PT X c (tT X W tc)) (ha : PE X a (tF X W fa)) (hb : PE X b (tF X W fb)) : PE X (.IfExp c a b pos) (tF X W (fIf tc fa fb)) :=
  PE.wk (pe_ifExp hc ha hb) fun σ H Q ⟨w, ρ, S, s, en, h⟩ => tT_bind (R' := fun _ _ (a b : Nat) => True) s en h fun w1 S1 H1 k s1 en1 h1 => by
    cases k with
    | true => rw [if_pos rfl]; exact ⟨w1, ρ, S1, s1, en1, h1⟩
    | false => rw [if_neg (by decide)]; exact ⟨w1, ρ, S1, s1, en1, h1⟩
/-- and, or, not as values: all but the last one truths -/
def fAndV (a b : FE) : FE := fun ρ S => (a ρ S).bnd fun k S1 => match k with
  | .bl true => b ρ S1
  | .bl false => .ok (.bl false) S1
  | _ => .no
def fOrV (a b : FE) : FE := fun ρ S => (a ρ S).bnd fun k S1 => match k with
  | .bl true => .ok (.bl true) S1
  | .bl false => b ρ S1
  | _ => .no
theorem q_one [Wo] {op : BoolOp} (ha : PE X a (tF X W fa)) : PE X (.BoolOp op [a] pos) (tF X W fa) := pe_one ha
theorem q_and [Wo] (ha : PE X a (tF X W fa)) (hb : PE X (.BoolOp .And (b :: rest) pos) (tF X W fb)) : PE X (.BoolOp .And (a :: b :: rest) pos) (tF X W (fAndV fa fb)) :=
  PE.wk (pe_and ha hb) fun σ H Q ⟨w, ρ, S, s, en, h⟩ => by
    refine ⟨w, ρ, S, s, en, (End.bind h).imp ?_ (fun _ _ _ z => z)⟩
    rintro x H1 ⟨w1, S1, d, e1, s1, r1, h1⟩
    cases d <;> try exact h1.elim
    rename_i k
    unfold Rp at r1
    refine ⟨k, r1, ?_⟩
    cases k with
    | true => rw [if_pos rfl]; exact ⟨w1, ρ, S1, s1, en.ext e1, h1⟩
    | false => rw [if_neg (by decide)]; exact h1.ret s1 (by unfold Rp; rfl)
/-- truth -/
def truD (S : Store) : D → Option Bool
  | .non => some false
  | .bl b => some b
  | .int i => some (i != 0)
  | .str y => if y.length ≤ sizeLine then some ((y.length : Int) != 0) else none
  | .tup ds => some (!ds.isEmpty)
  | .lst ds => some (!ds.isEmpty)
  | .fls ds => some (!ds.isEmpty)
  | .loc n => (cellOf S n).map fun ds => !ds.isEmpty
  | _ => none
def fTru (f : FE) : FT := fun ρ S => (f ρ S).bnd fun x S1 => match truD S1 x with
  | some k => .ok k S1
  | none => .no
theorem RpL.emp {K : PySem.W.Frag} {mg : Str → Option Value} {w : Wd} {H : Hp} {ds : List D} {vs : List V} (h : RpL K mg w H ds vs) : (!ds.isEmpty) = !vs.isEmpty := by
  cases ds <;> unfold RpL at h
  · subst h; rfl
  · obtain ⟨v, r, e, _⟩ := h; subst e; rfl
theorem truD_at [Wo] {K : PySem.W.Frag} {mg : Str → Option Value} {w : Wd} {H : Hp} {S : Store} {d : D} {v : V} {k : Bool} (s : Sto K mg w S H) (r : Rp K mg w H d v) (h : truD S d = some k) : TruV K v H k := by
  cases d with
  | non => unfold Rp at r; subst r; simp only [truD] at h; cases h; rfl
  | bl b => unfold Rp at r; subst r; simp only [truD] at h; cases h; rfl
  | int i => unfold Rp at r; subst r; simp only [truD] at h; cases h; rfl
  | str y =>
    unfold Rp at r; subst r; simp only [truD] at h
    split at h
    · rename_i hl; cases h; exact ⟨hl, rfl⟩
    · cases h
  | tup ds =>
    obtain ⟨a, xs, e, t, q⟩ := tup_at r
    simp only [truD] at h; cases h; subst e
    exact .inr (.inl ⟨xs, t, q.emp⟩)
  | lst ds =>
    obtain ⟨a, xs, e, t, q⟩ := seqL_at (S := S) s r rfl
    simp only [truD] at h; cases h; subst e
    exact .inl ⟨xs, t, q.emp⟩
  | fls ds =>
    obtain ⟨a, xs, e, t, q⟩ := seqL_at (S := S) (d := .fls ds) s r rfl
    simp only [truD] at h; cases h; subst e
    exact .inl ⟨xs, t, q.emp⟩
  | loc n =>
    simp only [truD, Option.map_eq_some_iff] at h
    obtain ⟨ds, h1, h2⟩ := h
    obtain ⟨a, xs, e, t, q⟩ := seqL_at (S := S) (d := .loc n) s r h1
    subst e; subst h2
    exact .inl ⟨xs, t, q.emp⟩
  | _ => simp [truD] at h
theorem qt_tru [Wo] (ha : PE X a (tF X W fa)) (he : ∀ whole, isTrue a X.env whole = (do let v ← whole; standAt a.pos; holding [v] (truthy v)) := by intro _; rfl) : PT X a (tT X W (fTru fa)) :=
  PT.wk (pt_truth ha he) fun σ H Q ⟨w, ρ, S, s, en, h⟩ => by
    refine ⟨w, ρ, S, s, en, (End.bind (R := fun w H => Rp X.K X.mg w H) h).imp ?_ (fun _ _ _ z => z)⟩
    rintro x H1 ⟨w1, S1, d, e1, s1, r1, h1⟩
    split at h1
    · rename_i k hk
      exact ⟨k, truD_at s1 r1 hk, h1.ret s1 rfl⟩
    · exact h1.elim
/-- not e, as a value, by truth -/
def fNotV (f : FE) : FE := fun ρ S => (f ρ S).bnd fun x S1 => match truD S1 x with
  | some k => .ok (.bl (!k)) S1
  | none => .no
theorem q_not [Wo] (ha : PE X a (tF X W fa)) : PE X (.UnaryOp .Not a pos) (tF X W (fNotV fa)) :=
  PE.wk (pe_notT ha) fun σ H Q ⟨w, ρ, S, s, en, h⟩ => by
    refine ⟨w, ρ, S, s, en, (End.bind (R := fun w H => Rp X.K X.mg w H) h).imp ?_ (fun _ _ _ z => z)⟩
    rintro x H1 ⟨w1, S1, d, e1, s1, r1, h1⟩
    split at h1
    · rename_i k hk
      exact ⟨k, truD_at s1 r1 hk, h1.ret s1 (by unfold Rp; rfl)⟩
    · exact h1.elim
theorem q_nil [Wo] : PA X [] (tA X W fNil) := PA.wk pa_nil fun σ H Q ⟨w, ρ, S, s, en, h⟩ => h.ret s RpL.nil
theorem q_cons [Wo] (ha : PE X e (tF X W fa)) (hr : PA X es (tA X W fs)) (hs : starEach (e :: es) X.env = (false, eval e X.env) :: starEach es X.env := by rfl) : PA X (e :: es) (tA X W (fCons fa fs)) :=
  PA.wk (pa_cons ha hr hs) fun σ H Q ⟨w, ρ, S, s, en, h⟩ => by
    refine ⟨w, ρ, S, s, en, (End.bind h).imp ?_ (fun _ _ _ z => z)⟩
    rintro x H1 ⟨w1, S1, d, e1, s1, r1, h1⟩
    refine ⟨w1, ρ, S1, s1, en.ext e1, (End.bind h1).imp ?_ (fun _ _ _ z => z)⟩
    rintro xs H2 ⟨w2, S2, ds, e2, s2, r2, h2⟩
    exact h2.ret s2 (RpL.cons (Rp.ext e2 _ _ r1) r2)
/-- a new tuple, a new list -/
def mkTup (ds : List D) (S : Store) : RE D := if ds.length ≤ sizeLine then .ok (.tup ds) S else .no
def mkLst (ds : List D) (S : Store) : RE D := if ds.length ≤ sizeLine then .ok (.lst ds) S else .no
def mkCel (ds : List D) (S : Store) : RE D := if ds.length ≤ sizeLine then .ok (.loc S.length) (S ++ [.lst ds]) else .no
section
variable {K : PySem.W.Frag} {mg : Str → Option Value} {w : Wd} {H : Hp} {S : Store} {Q : VK} {E : Value → Option Addr → Hp → Prop} {ds : List D} {xs : List V} {p : Addr}
theorem mkTup_at [Wo] (s : Sto K mg w S H) (r : RpL K mg w H ds xs) (h : End K mg (fun w H => Rp K mg w H) w H (mkTup ds S) Q E) : xs.length ≤ sizeLine ∧ ∀ p, H p = none → Q (.ref p) (upd H p (.tup xs)) := by
  unfold mkTup at h
  split at h
  · rename_i hl
    refine ⟨by rw [← r.length]; exact hl, fun p np => h w _ _ (Ext.new np) (s.beside np) ?_⟩
    show Rp _ _ _ _ _ _
    unfold Rp
    exact ⟨p, xs, rfl, .inl ⟨upd_same, s.new np⟩, RpL.ext (Ext.new np) _ _ r⟩
  · exact h.elim
theorem mkLst_at [Wo] (s : Sto K mg w S H) (r : RpL K mg w H ds xs) (h : End K mg (fun w H => Rp K mg w H) w H (mkLst ds S) Q E) : xs.length ≤ sizeLine ∧ ∀ p, H p = none → Q (.ref p) (upd H p (.lst xs)) := by
  unfold mkLst at h
  split at h
  · rename_i hl
    refine ⟨by rw [← r.length]; exact hl, fun p np => h w _ _ (Ext.new np) (s.beside np) ?_⟩
    show Rp _ _ _ _ _ _
    unfold Rp
    exact ⟨p, xs, rfl, upd_same, s.new np, RpL.ext (Ext.new np) _ _ r⟩
  · exact h.elim
theorem Ext.cell {o : HO} (np : H p = none) : Ext w H ⟨w.φ ++ [some p], w.hd⟩ (upd H p o) where
  fr := fun a u e _ => by rw [upd_ne (ne_of_none e np)]; exact e
  ln := by show w.φ.length ≤ (w.φ ++ [some p]).length; rw [List.length_append]; exact Nat.le_add_right _ _
  ph := fun n a h l => by
    have h' : (w.φ ++ [some p])[n]? = some (some a) := h
    rw [List.getElem?_append_left l] at h'; exact h'
  nw := fun a h => by
    rcases List.mem_append.mp (show some a ∈ w.φ ++ [some p] from h) with h | h
    · exact .inl h
    · simp at h; subst h; exact .inr np
  hd := rfl
theorem Sto.cellNew [Wo] (s : Sto K mg w S H) (np : H p = none) (r : RpL K mg w H ds xs) : Sto K mg ⟨w.φ ++ [some p], w.hd⟩ (S ++ [.lst ds]) (upd H p (.lst xs)) := by
  have s2 := s.beside (o := .lst xs) np
  have ex : Ext w H ⟨w.φ ++ [some p], w.hd⟩ (upd H p (.lst xs)) := Ext.cell np
  refine ⟨by show (w.φ ++ [some p]).length = _; rw [List.length_append, List.length_append, s.len]; rfl, fun m n a h1 h2 => ?_, fun a ha => ⟨upd_some (s.ap a ha).1, fun z => ?_⟩, fun n c hc => ?_⟩
  · have key : ∀ k, (w.φ ++ [some p])[k]? = some (some a) → (w.φ[k]? = some (some a) ∧ k < w.φ.length) ∨ (k = w.φ.length ∧ a = p) := fun k hk => by
      by_cases hl : k < w.φ.length
      · rw [List.getElem?_append_left hl] at hk; exact .inl ⟨hk, hl⟩
      · have hl' : w.φ.length ≤ k := Nat.le_of_not_lt hl
        rw [List.getElem?_append_right hl'] at hk
        have : k - w.φ.length = 0 := by
          cases e : k - w.φ.length with
          | zero => rfl
          | succ j => rw [e] at hk; simp at hk
        rw [this] at hk; simp at hk
        exact .inr ⟨by omega, hk.symm⟩
    rcases key m h1 with ⟨a1, b1⟩ | ⟨a1, b1⟩ <;> rcases key n h2 with ⟨a2, b2⟩ | ⟨a2, b2⟩
    · exact s.nd m n a a1 a2
    · subst b2; exact absurd (List.mem_of_getElem? a1) (s.new np).1
    · subst b1; exact absurd (List.mem_of_getElem? a2) (s.new np).1
    · omega
  · rcases List.mem_append.mp (show some a ∈ w.φ ++ [some p] from z) with h | h
    · exact (s.ap a ha).2 h
    · simp at h; subst h; exact (s.ap a ha).1 np
  · by_cases hl : n < S.length
    · rw [List.getElem?_append_left hl] at hc
      refine CellR.ext ex (fun a ha => ⟨by show (w.φ ++ [some p])[n]? = _; rw [List.getElem?_append_left (s.len ▸ hl)]; exact ha, ?_⟩) (fun hd => by show (w.φ ++ [some p])[n]? = _; rw [List.getElem?_append_left (s.len ▸ hl)]; exact hd) (s.cell n c hc)
      have : a ≠ p := fun z => by subst z; exact (s.new np).1 (List.mem_of_getElem? ha)
      rw [upd_ne this]
    · have hl' : S.length ≤ n := Nat.le_of_not_lt hl
      rw [List.getElem?_append_right hl'] at hc
      have e0 : n - S.length = 0 := by
        cases e : n - S.length with
        | zero => rfl
        | succ j => rw [e] at hc; simp at hc
      rw [e0] at hc; simp at hc; subst hc
      have en : n = w.φ.length := by rw [s.len]; omega
      subst en
      exact ⟨p, xs, by show (w.φ ++ [some p])[w.φ.length]? = _; rw [List.getElem?_append_right (Nat.le_refl _), Nat.sub_self]; rfl, upd_same, RpL.ext ex _ _ r⟩
theorem mkCel_at [Wo] (s : Sto K mg w S H) (r : RpL K mg w H ds xs) (h : End K mg (fun w H => Rp K mg w H) w H (mkCel ds S) Q E) : xs.length ≤ sizeLine ∧ ∀ p, H p = none → Q (.ref p) (upd H p (.lst xs)) := by
  unfold mkCel at h
  split at h
  · rename_i hl
    refine ⟨by rw [← r.length]; exact hl, fun p np => h _ _ _ (Ext.cell np) (s.cellNew np r) ?_⟩
    show Rp _ _ _ _ _ _
    unfold Rp
    refine ⟨by show S.length < (w.φ ++ [some p]).length; rw [List.length_append, s.len]; exact Nat.lt_succ_self _, fun a ha => ?_⟩
    have ha' : (w.φ ++ [some p])[S.length]? = some (some a) := ha
    rw [← s.len, List.getElem?_append_right (Nat.le_refl _), Nat.sub_self] at ha'
    simp at ha'; rw [ha']
  · exact h.elim
end
theorem q_tup [Wo] {x1} (h : PA X es (tA X W fs)) : PE X (.Tuple es x1 pos) (tF X W (fArg mkTup fs)) :=
  PE.wk (pe_tup h) fun σ H Q ⟨w, ρ, S, s, en, h⟩ => ⟨w, ρ, S, s, en, (End.bind (R := fun w H => RpL X.K X.mg w H) h).imp (fun xs H1 ⟨w1, S1, ds, e1, s1, r1, h1⟩ => mkTup_at s1 r1 h1) (fun _ _ _ z => z)⟩
theorem q_lst [Wo] (h : PA X es (tA X W fs)) : PE X (.List es pos) (tF X W (fArg mkLst fs)) :=
  PE.wk (pe_lst h) fun σ H Q ⟨w, ρ, S, s, en, h⟩ => ⟨w, ρ, S, s, en, (End.bind (R := fun w H => RpL X.K X.mg w H) h).imp (fun xs H1 ⟨w1, S1, ds, e1, s1, r1, h1⟩ => mkLst_at s1 r1 h1) (fun _ _ _ z => z)⟩
theorem q_cel [Wo] (h : PA X es (tA X W fs)) : PE X (.List es pos) (tF X W (fArg mkCel fs)) :=
  PE.wk (pe_lst h) fun σ H Q ⟨w, ρ, S, s, en, h⟩ => ⟨w, ρ, S, s, en, (End.bind (R := fun w H => RpL X.K X.mg w H) h).imp (fun xs H1 ⟨w1, S1, ds, e1, s1, r1, h1⟩ => mkCel_at s1 r1 h1) (fun _ _ _ z => z)⟩
theorem argsTo [Wo] {r : List V → Hp → VK → Prop} {g : List D → Store → RE D} (hv : CallV X.K X.mg r g) {σ : L2.St} {H : Hp} {Q : VK} (h : tF X W (fArg g fs) σ H Q) : tA X W fs σ H (fun vs H1 => r vs H1 Q) := by
  obtain ⟨w, ρ, S, s, en, h⟩ := h
  refine ⟨w, ρ, S, s, en, (End.bind h).imp ?_ (fun _ _ _ z => z)⟩
  rintro xs H1 ⟨w1, S1, ds, e1, s1, r1, h1⟩
  exact hv w1 S1 H1 xs ds Q _ s1 r1 h1
theorem q_callB [Wo] {x : Str} {p : Pos} {id : String} {r : List V → Hp → VK → Prop} {g : List D → Store → RE D} (hc : CallR X (.builtin id) r) (hv : CallV X.K X.mg r g) (hg : Gl X x) (hm : X.mg x = none) (hb : bootBuiltins x = some (.builtin id)) (ha : PA X (e :: es) (tA X W fs)) (hn : x ≠ "__name__" := by decide) (hdb : (x == ("__debug__" : Str)) = false := by decide)
    (he : starEach (e :: es) X.env = (false, eval e X.env) :: starEach es X.env := by rfl) (hpl : (backTo pos (starEach es X.env)).any (·.1) = false := by rfl) : PE X (.Call (.Name x p) (e :: es) [] pos) (tF X W (fArg g fs)) :=
  PE.wk (pe_callB hc hg hm hb ha hn hdb he hpl) fun σ H Q h => argsTo hv h
theorem q_callTy [Wo] {x : Str} {p : Pos} {T : String} {r : List V → Hp → VK → Prop} {g : List D → Store → RE D} (hc : CallR X (.type T) r) (hv : CallV X.K X.mg r g) (hg : Gl X x) (hm : X.mg x = none) (hb : bootBuiltins x = some (.type T)) (ha : PA X (e :: es) (tA X W fs)) (hn : x ≠ "__name__" := by decide) (hdb : (x == ("__debug__" : Str)) = false := by decide)
    (he : starEach (e :: es) X.env = (false, eval e X.env) :: starEach es X.env := by rfl) (hpl : (backTo pos (starEach es X.env)).any (·.1) = false := by rfl) : PE X (.Call (.Name x p) (e :: es) [] pos) (tF X W (fArg g fs)) :=
  PE.wk (pe_callTy hc hg hm hb ha hn hdb he hpl) fun σ H Q h => argsTo hv h
end
end Kw
namespace Kw
open PySem PySem.Spec PyProof.Rows L2
section
variable {K : PySem.W.Frag} {mg : Str → Option Value} {w : Wd} {H : Hp} {S : Store}
theorem rp_int {i : Int} {v : V} (h : Rp K mg w H (.int i) v) : v = .int i := by unfold Rp at h; exact h
theorem rp_bl {i : Bool} {v : V} (h : Rp K mg w H (.bl i) v) : v = .bl i := by unfold Rp at h; exact h
theorem rp_str {i : Str} {v : V} (h : Rp K mg w H (.str i) v) : v = .str i := by unfold Rp at h; exact h
theorem rp_non {v : V} (h : Rp K mg w H .non v) : v = .non := by unfold Rp at h; exact h
theorem rp_i {i : Int} : Rp K mg w H (.int i) (.int i) := by unfold Rp; rfl
theorem rp_b {i : Bool} : Rp K mg w H (.bl i) (.bl i) := by unfold Rp; rfl
theorem rp_s {i : Str} : Rp K mg w H (.str i) (.str i) := by unfold Rp; rfl
theorem rp_n : Rp K mg w H .non .non := by unfold Rp; rfl
end
def catL (c : Bool) (x y : Option (List D)) (S : Store) : RE D := match x, y with
  | some xs, some ys => if c then mkCel (xs ++ ys) S else mkLst (xs ++ ys) S
  | _, _ => .no
/-- c: the sum of two lists is a cell -/
def gAdd (c : Bool) (x y : D) (S : Store) : RE D := match x with
  | .int i => (match y with
    | .int j => .ok (.int (i + j)) S
    | .bl k => .ok (.int (i + b2i k)) S
    | _ => .no)
  | .str a => (match y with
    | .str b => if a.length + b.length ≤ sizeLine then .ok (.str (a ++ b)) S else .no
    | _ => .no)
  | .tup xs => (match y with
    | .tup ys => mkTup (xs ++ ys) S
    | _ => .no)
  | x => catL c (seqM S x) (seqM S y) S
def gSub (x y : D) (S : Store) : RE D := match x, y with
  | .int i, .int j => .ok (.int (i - j)) S
  | _, _ => .no
instance (i j : Int) : Decidable (CMulW i j) := inferInstanceAs (Decidable (_ < _))
instance (i j : Int) : Decidable (CMul i j) := inferInstanceAs (Decidable (_ ∨ _))
/-- a text so many times -/
def repS (a : Str) (n : Int) : Str := if n < 1 then Str.empty else if (n == 1 || a.length == 0) = true then a else ⟨(List.replicate n.toNat a.cps).foldl (· ++ ·) #[]⟩
/-- c: a list that is repeated is a cell -/
def gMul (c : Bool) (x y : D) (S : Store) : RE D := match y with
  | .int j => (match x with
    | .int i => if CMul i j ∨ CMulW i j then .ok (.int (i * j)) S else .no
    | .str a => if a.length * j.toNat ≤ 16777216 ∧ a.length ≤ 1000 ∧ -(2 ^ 63) ≤ j ∧ j ≤ 100000 then .ok (.str (repS a j)) S else .no
    | x => (match seqM S x with
      | some xs => if xs.length * j.toNat ≤ sizeLine ∧ -(2 ^ 63) ≤ j ∧ j < 2 ^ 63 then (if c then mkCel (List.replicate j.toNat xs).flatten S else mkLst (List.replicate j.toNat xs).flatten S) else .no
      | none => .no))
  | _ => .no
/-- the divisor is positive -/
def gMod (x y : D) (S : Store) : RE D := match x, y with
  | .int i, .int j => if 0 < j then .ok (.int (i % j)) S else .no
  | _, _ => .no
def gDiv (x y : D) (S : Store) : RE D := match x, y with
  | .int i, .int j => if 0 < j ∧ j.natAbs.log2 < 9000 then .ok (.int (i / j)) S else .no
  | _, _ => .no
def gPow (x y : D) (S : Store) : RE D := match x, y with
  | .int i, .int j => if 0 ≤ j ∧ j ≤ 1000000 ∧ i.natAbs < 2 ^ 64 then .ok (.int (i ^ j.toNat)) S else .no
  | _, _ => .no
section
variable {K : PySem.W.Frag} {mg : Str → Option Value}
def rAddU (K : PySem.W.Frag) : R2 := fun x y H Q => (∃ i j, x = .int i ∧ y = .int j ∧ Q (.int (i + j)) H) ∨ (∃ i k, x = .int i ∧ y = .bl k ∧ Q (.int (i + b2i k)) H) ∨
  (∃ i j, x = .str i ∧ y = .str j ∧ i.length + j.length ≤ sizeLine ∧ Q (.str (i ++ j)) H) ∨ rCat x y H Q ∨ rCatA K x y H Q
theorem op_addU {X : Cx} : OpR X (binaryOp .Add) (rAddU X.K) := op_add.or (op_add_ib.or (op_add_str.or (op_cat.or op_catA)))
theorem addU_v [Wo] {c : Bool} : OpV K mg (rAddU K) (gAdd c) := by
  intro w S H x y d e Q E s r1 r2 h
  have lists : ∀ xs ys, seqM S d = some xs → seqM S e = some ys → End K mg (fun w H => Rp K mg w H) w H (if c then mkCel (xs ++ ys) S else mkLst (xs ++ ys) S) Q E → rCat x y H Q := fun xs ys h1 h2 h => by
    obtain ⟨a, vs, e1, t1, q1⟩ := seqM_at s r1 h1
    obtain ⟨b, us, e2, t2, q2⟩ := seqM_at s r2 h2
    have q := q1.append q2
    refine ⟨a, b, vs, us, e1, e2, t1, t2, ?_⟩
    have l : (vs ++ us).length = vs.length + us.length := List.length_append
    cases c
    · have z := mkLst_at s q h
      rw [l] at z; exact z
    · have z := mkCel_at s q h
      rw [l] at z; exact z
  have lists' : End K mg (fun w H => Rp K mg w H) w H (catL c (seqM S d) (seqM S e) S) Q E → rCat x y H Q := fun h => by
    unfold catL at h
    split at h
    · rename_i xs ys h1 h2; exact lists xs ys h1 h2 h
    · exact h.elim
  cases d <;> simp only [gAdd] at h
  case int i =>
    cases e <;> simp only [] at h <;> try exact h.elim
    · exact .inr (.inl ⟨i, _, rp_int r1, rp_bl r2, h.ret s rp_i⟩)
    · exact .inl ⟨i, _, rp_int r1, rp_int r2, h.ret s rp_i⟩
  case str a =>
    cases e <;> simp only [] at h <;> try exact h.elim
    split at h
    · rename_i hl; exact .inr (.inr (.inl ⟨a, _, rp_str r1, rp_str r2, hl, h.ret s rp_s⟩))
    · exact h.elim
  case tup xs =>
    cases e <;> simp only [] at h <;> try exact h.elim
    rename_i ys
    refine .inr (.inr (.inr (.inr ?_)))
    have r1' := r1
    have r2' := r2
    unfold Rp at r1' r2'
    obtain ⟨a, vs, e1, t1, q1⟩ := r1'
    obtain ⟨b, us, e2, t2, q2⟩ := r2'
    have q := q1.append q2
    have z := mkTup_at s q h
    have l : (vs ++ us).length = vs.length + us.length := List.length_append
    refine ⟨a, b, vs, us, e1, e2, t1.sq, t2.sq, by rw [← l]; exact z.1, fun ev => ?_, fun _ eu => ?_, fun _ _ => z.2⟩
    · subst ev
      have : xs = [] := q1.nil_iff.mpr rfl
      subst this
      unfold mkTup at h
      split at h
      · exact h.ret s (show Rp K mg w H _ _ by unfold Rp; exact ⟨b, us, rfl, t2, q2⟩)
      · exact h.elim
    · subst eu
      have : ys = [] := q2.nil_iff.mpr rfl
      subst this
      unfold mkTup at h
      split at h
      · exact h.ret s (show Rp K mg w H _ _ by unfold Rp; exact ⟨a, vs, rfl, t1, by rw [List.append_nil]; exact q1⟩)
      · exact h.elim
  all_goals exact .inr (.inr (.inr (.inl (lists' h))))
theorem sub_v [Wo] : OpV K mg (rI0 fun i j => .int (i - j)) gSub := by
  intro w S H x y d e Q E s r1 r2 h
  cases d <;> cases e <;> simp only [gSub] at h <;> try exact h.elim
  exact ⟨_, _, rp_int r1, rp_int r2, h.ret s rp_i⟩
theorem repS_fold : ∀ (k : Nat) (b a : Array Nat), ((List.replicate k a).foldl (· ++ ·) b).size = b.size + a.size * k
  | 0, b, a => by simp
  | k + 1, b, a => by rw [List.replicate_succ, List.foldl_cons, repS_fold k, Array.size_append, Nat.mul_succ]; omega
theorem repS_length (a : Str) (n : Int) : (repS a n).length ≤ a.length * n.toNat := by
  unfold repS
  by_cases h : n < 1
  · rw [if_pos h]; exact Nat.zero_le _
  · rw [if_neg h]
    have h1 : 1 ≤ n.toNat := by omega
    split
    · exact Nat.le_mul_of_pos_right _ h1
    · show ((List.replicate n.toNat a.cps).foldl (· ++ ·) #[]).size ≤ _
      rw [repS_fold]; show 0 + a.cps.size * _ ≤ _; rw [Nat.zero_add]; exact Nat.le_refl _
def rRepS : R2 := fun x y H Q => ∃ a j, x = .str a ∧ y = .int j ∧ a.length * j.toNat ≤ 16777216 ∧ a.length ≤ 1000 ∧ -(2 ^ 63) ≤ j ∧ j ≤ 100000 ∧ Q (.str (repS a j)) H
theorem op_repS {X : Cx} : OpR X (binaryOp .Mult) rRepS := by
  intro pins s σ H x y v u Q I rx ry h
  obtain ⟨a, j, rfl, rfl, h1, h2, h3, h4, q⟩ := h
  obtain ⟨t, rfl⟩ := rx
  obtain ⟨t2, rfl⟩ := ry
  have hz : a.length * j.toNat ≤ sizeLine := by rw [sizeLine_eq]; exact h1
  have n1 : ¬ j < -(2 ^ 63 : Int) := by omega
  have n2 : ¬ j ≥ (2 ^ 63 : Int) := by omega
  refine PySem.P.mul_str (by rw [decide_eq_false n1, decide_eq_false n2]; rfl) (fun g _ z => ?_) (fun _ _ => ?_) ?_
  · have g1 : (92233720368547 : Int) ≤ (2 ^ 63 - 1) / j := by
      rw [Int.le_ediv_iff_mul_le (by omega)]
      omega
    have : (a.length : Int) ≤ 1000 := by omega
    omega
  · unfold Builtin.Str.tooLong
    exact decide_eq_false (by omega)
  · have hl := repS_length a j
    unfold repS at q hl
    by_cases c : j < 1
    · rw [if_pos c] at q ⊢
      exact ⟨Nat.zero_le _, .str _, H, I.tok _, ⟨_, rfl⟩, q⟩
    · rw [if_neg c] at q hl ⊢
      by_cases c2 : (j == 1 || a.length == 0) = true
      · rw [if_pos c2] at q ⊢
        exact ⟨.str a, H, I, ⟨t, rfl⟩, q⟩
      · rw [if_neg c2] at q hl ⊢
        exact ⟨Nat.le_trans hl hz, .str _, H, I.tok _, ⟨_, rfl⟩, q⟩
def rMulU : R2 := fun x y H Q => rI CMul (fun i j => .int (i * j)) x y H Q ∨ rI CMulW (fun i j => .int (i * j)) x y H Q ∨ rRep x y H Q ∨ rRepS x y H Q
theorem op_mulU {X : Cx} : OpR X (binaryOp .Mult) rMulU := op_mul.or (op_mulW.or (op_rep.or op_repS))
theorem RpL.rep {w : Wd} {H : Hp} {xs : List D} {vs : List V} (h : RpL K mg w H xs vs) : ∀ n : Nat, RpL K mg w H (List.replicate n xs).flatten (List.replicate n vs).flatten
  | 0 => RpL.nil
  | n + 1 => by rw [List.replicate_succ, List.replicate_succ, List.flatten_cons, List.flatten_cons]; exact h.append (RpL.rep h n)
theorem mulU_v [Wo] {c : Bool} : OpV K mg rMulU (gMul c) := by
  intro w S H x y d e Q E s r1 r2 h
  cases e <;> simp only [gMul] at h <;> try exact h.elim
  rename_i j
  have lists : End K mg (fun w H => Rp K mg w H) w H (match seqM S d with
      | some xs => if xs.length * j.toNat ≤ sizeLine ∧ -(2 ^ 63) ≤ j ∧ j < 2 ^ 63 then (if c then mkCel (List.replicate j.toNat xs).flatten S else mkLst (List.replicate j.toNat xs).flatten S) else .no
      | none => .no) Q E → rRep x y H Q := fun h => by
    split at h
    · rename_i xs h1
      split at h
      · rename_i hl
        obtain ⟨a, vs, e1, t1, q1⟩ := seqM_at s r1 h1
        refine ⟨a, j, vs, e1, rp_int r2, t1, hl.2.1, hl.2.2, by rw [← q1.length]; exact hl.1, ?_⟩
        cases c
        · exact (mkLst_at s (q1.rep j.toNat) h).2
        · exact (mkCel_at s (q1.rep j.toNat) h).2
      · exact h.elim
    · exact h.elim
  cases d <;> simp only [] at h
  case int i =>
    split at h
    · rename_i hc
      rcases hc with hc | hc
      · exact .inl ⟨i, j, rp_int r1, rp_int r2, hc, h.ret s rp_i⟩
      · exact .inr (.inl ⟨i, j, rp_int r1, rp_int r2, hc, h.ret s rp_i⟩)
    · exact h.elim
  case str a =>
    split at h
    · rename_i hc
      exact .inr (.inr (.inr ⟨a, j, rp_str r1, rp_int r2, hc.1, hc.2.1, hc.2.2.1, hc.2.2.2, h.ret s rp_s⟩))
    · exact h.elim
  all_goals exact .inr (.inr (.inl (lists h)))
theorem mod_v [Wo] : OpV K mg (rI (fun _ j => 0 < j) fun i j => .int (i % j)) gMod := by
  intro w S H x y d e Q E s r1 r2 h
  cases d <;> cases e <;> simp only [gMod] at h <;> try exact h.elim
  split at h
  · rename_i hc; exact ⟨_, _, rp_int r1, rp_int r2, hc, h.ret s rp_i⟩
  · exact h.elim
theorem div_v [Wo] : OpV K mg (rI CDivW fun i j => .int (i / j)) gDiv := by
  intro w S H x y d e Q E s r1 r2 h
  cases d <;> cases e <;> simp only [gDiv] at h <;> try exact h.elim
  split at h
  · rename_i hc; exact ⟨_, _, rp_int r1, rp_int r2, hc, h.ret s rp_i⟩
  · exact h.elim
theorem pow_v [Wo] : OpV K mg (rI CPow fun i j => .int (i ^ j.toNat)) gPow := by
  intro w S H x y d e Q E s r1 r2 h
  cases d <;> cases e <;> simp only [gPow] at h <;> try exact h.elim
  split at h
  · rename_i hc; exact ⟨_, _, rp_int r1, rp_int r2, hc, h.ret s rp_i⟩
  · exact h.elim
end
def gCmp (p : Int → Int → Bool) (x y : D) (S : Store) : RE D := match x, y with
  | .int i, .int j => .ok (.bl (p i j)) S
  | _, _ => .no
def okPy (d e : PyData) : Bool := d.canLay0 && e.canLay0 && decide (min d.depth e.depth ≤ 200)
/-- a row of anything beside an empty one -/
def eqE (S : Store) (x y : D) : Option Bool := match y with
  | .lst [] => (seqL S x).map (·.isEmpty)
  | .tup [] => (match x with
    | .tup ds => some ds.isEmpty
    | _ => none)
  | .tup [.str b] => (match x with
    | .tup (.str a :: r) => some (a == b && r.isEmpty)
    | _ => none)
  | .str b => (match x with
    | .str a => some (a == b)
    | _ => none)
  | _ => none
def gEq (x y : D) (S : Store) : RE D := match eqE S x y with
  | some b => .ok (.bl b) S
  | none => (match pyS S x, pyS S y with
    | some d, some e => if okPy d e then .ok (.bl (PyData.eqv d e)) S else .no
    | _, _ => .no)
def gNe (x y : D) (S : Store) : RE D := match eqE S x y with
  | some b => .ok (.bl (!b)) S
  | none => (match pyS S x, pyS S y with
    | some d, some e => if okPy d e then .ok (.bl (!PyData.eqv d e)) S else .no
    | _, _ => .no)
def rEqS (K : PySem.W.Frag) (neg : Bool) : R2 := fun x y H Q => (∃ za zb : Str, x = .str za ∧ y = .str zb ∧ Q (.bl (if neg then !(za == zb) else za == zb)) H) ∨ ∃ a b xs, ∃ za zb : Str, x = .ref a ∧ y = .ref b ∧ SqT K H a (.str za :: xs) ∧ SqT K H b [.str zb] ∧ Q (.bl (if neg then !(za == zb && xs.isEmpty) else (za == zb && xs.isEmpty))) H
def rEqE (K : PySem.W.Frag) (neg : Bool) : R2 := fun x y H Q => rEqS K neg x y H Q ∨ ∃ a b xs, x = .ref a ∧ y = .ref b ∧ ((SqL K H a xs ∧ SqL K H b []) ∨ (SqT K H a xs ∧ SqT K H b [])) ∧ Q (.bl (if neg then !xs.isEmpty else xs.isEmpty)) H
def rEqP (K : PySem.W.Frag) : R2 := fun x y H Q => ∃ d e, Dp K H x d ∧ Dp K H y e ∧ okPy d e = true ∧ Q (.bl (PyData.eqv d e)) H
def rNeP (K : PySem.W.Frag) : R2 := fun x y H Q => ∃ d e, Dp K H x d ∧ Dp K H y e ∧ okPy d e = true ∧ Q (.bl (!PyData.eqv d e)) H
theorem okPy_iff {d e : PyData} (h : okPy d e = true) : d.canLay0 = true ∧ e.canLay0 = true ∧ min d.depth e.depth ≤ 200 := by
  unfold okPy at h
  simp only [Bool.and_eq_true, decide_eq_true_eq] at h
  exact ⟨h.1.1, h.1.2, h.2⟩
section
variable {X : Cx}
theorem op_eqP (hu : X.A.units + 200 < cLine) : OpR X (compareOp .Eq) (rEqP X.K) := by
  intro pins s σ H x y v u Q I rx ry h
  obtain ⟨d, e, hd, he, hk, q⟩ := h
  obtain ⟨k1, k2, k3⟩ := okPy_iff hk
  obtain ⟨as, r1⟩ := Dp.reads I d x v hd rx
  obtain ⟨bs, r2⟩ := Dp.reads I e y u he ry
  exact SeqAt.compareEq_reads r1 r2 k1 k2 (by omega) ⟨.bl _, H, I, rfl, q⟩
theorem op_neP (hu : X.A.units + 200 < cLine) : OpR X (compareOp .NotEq) (rNeP X.K) := by
  intro pins s σ H x y v u Q I rx ry h
  obtain ⟨d, e, hd, he, hk, q⟩ := h
  obtain ⟨k1, k2, k3⟩ := okPy_iff hk
  obtain ⟨as, r1⟩ := Dp.reads I d x v hd rx
  obtain ⟨bs, r2⟩ := Dp.reads I e y u he ry
  exact SeqAt.compareNe_reads r1 r2 k1 k2 (by omega) ⟨.bl _, H, I, rfl, q⟩
theorem one_beside {pins : List (Addr × Obj)} {σ : L2.St} {H : Hp} {s : Shared} {a b : Addr} {xs : List V} {za zb : Str} (I : Inv X pins σ H s) (h1 : SqT X.K H a (.str za :: xs)) (h2 : SqT X.K H b [.str zb]) :
    ∃ its its2 : List Value, IsTup s.heap a its.toArray ∧ IsTup s.heap b its2.toArray ∧ its.length = xs.length + 1 ∧ its2.length = 1 ∧ ∀ j (k1 : j < its.toArray.size) (k2 : j < its2.toArray.size), SeqAt.EqAt X.A.in1 s its.toArray[j] its2.toArray[j] ((fun _ => za == zb) j) := by
  obtain ⟨its, rv, t1, _⟩ := I.tuple h1
  obtain ⟨its2, rv2, t2, _⟩ := I.tuple h2
  cases rv with
  | cons r1 rt =>
    cases rv2 with
    | cons r2 rt2 =>
      cases rt2
      obtain ⟨u1, rfl⟩ := r1
      obtain ⟨u2, rfl⟩ := r2
      refine ⟨_, _, t1, t2, by simp [rt.length], rfl, fun j k1 k2 => ?_⟩
      have : j = 0 := by simp at k2; omega
      subst this
      exact SeqAt.EqAt.str_str za u1 zb u2
theorem one_val {α : Type} {xs : List α} {its its2 : List Value} {b : Bool} (l1 : its.length = xs.length + 1) (l2 : its2.length = 1) : ((List.range (min its.toArray.size its2.toArray.size)).all (fun _ => b) && its.toArray.size == its2.toArray.size) = (b && xs.isEmpty) := by
  rw [List.size_toArray, List.size_toArray, l1, l2]
  have : min (xs.length + 1) 1 = 1 := by omega
  rw [this]
  cases xs <;> simp [List.range, List.range.loop]
theorem op_eqE (hu : X.A.units + 200 < cLine) : OpR X (compareOp .Eq) (rEqE X.K false) := by
  intro pins s σ H x y v u Q I rx ry h
  rcases h with (⟨za, zb, rfl, rfl, q⟩ | ⟨a, b, xs, za, zb, rfl, rfl, h1, h2, q⟩) | h
  · obtain ⟨t1, rfl⟩ := rx
    obtain ⟨t2, rfl⟩ := ry
    exact PySem.P.eq_str ⟨.bl _, H, I, congrArg Value.bool (SeqAt.str_beq za zb), q⟩
  · cases rx; cases ry
    obtain ⟨its, its2, t1, t2, l1, l2, he⟩ := one_beside I h1 h2
    refine SeqAt.eq_tupleAt (e := fun _ => za == zb) t1 t2 (by omega) he ⟨.bl _, H, I, ?_, q⟩
    rw [one_val (xs := xs) l1 l2]; rfl
  obtain ⟨a, b, xs, rfl, rfl, hab, q⟩ := h
  cases rx; cases ry
  have hu' : X.A.units < cLine := by omega
  rcases hab with ⟨h1, h2⟩ | ⟨h1, h2⟩
  · obtain ⟨its, rv, t1, _⟩ := I.list h1
    obtain ⟨its2, rv2, t2, _⟩ := I.list h2
    have l1 := rv.length
    have l2 := rv2.length
    cases xs with
    | nil => exact SeqAt.eq_listAt (e := fun _ => true) t1.isList t2.isList (by rw [List.size_toArray, List.size_toArray]; omega) hu' (fun j k1 k2 => by rw [List.size_toArray, ← l1] at k1; exact absurd k1 (Nat.not_lt_zero _)) ⟨.bl _, H, I, by rw [List.all_eq_true.mpr (fun _ _ => rfl)]; rfl, q⟩
    | cons z r => exact SeqAt.eq_list_lengthsAt t1.isList t2.isList (by rw [List.size_toArray, List.size_toArray, ← l1, ← l2]; rfl) hu' ⟨.bl _, H, I, rfl, q⟩
  · obtain ⟨its, rv, t1, _⟩ := I.tuple h1
    obtain ⟨its2, rv2, t2, _⟩ := I.tuple h2
    have l1 := rv.length
    have l2 : its2.length = 0 := by have := rv2.length; simpa using this.symm
    refine SeqAt.eq_tupleAt (e := fun _ => true) t1 t2 hu' (fun j k1 k2 => by rw [List.size_toArray, l2] at k2; exact absurd k2 (Nat.not_lt_zero _)) ⟨.bl _, H, I, ?_, q⟩
    rw [List.all_eq_true.mpr (fun _ _ => rfl), List.size_toArray, List.size_toArray, l2, ← l1]
    cases xs <;> rfl
theorem op_neE (hu : X.A.units + 200 < cLine) : OpR X (compareOp .NotEq) (rEqE X.K true) := by
  intro pins s σ H x y v u Q I rx ry h
  rcases h with (⟨za, zb, rfl, rfl, q⟩ | ⟨a, b, xs, za, zb, rfl, rfl, h1, h2, q⟩) | h
  · obtain ⟨t1, rfl⟩ := rx
    obtain ⟨t2, rfl⟩ := ry
    exact PySem.P.ne_str ⟨.bl _, H, I, congrArg (fun b => Value.bool (!b)) (SeqAt.str_beq za zb), q⟩
  · cases rx; cases ry
    obtain ⟨its, its2, t1, t2, l1, l2, he⟩ := one_beside I h1 h2
    refine SeqAt.RcNeAt.tuples (e := fun _ => za == zb) t1 t2 (by omega) he _ _ _ _ ⟨.bl _, H, I, ?_, q⟩
    rw [one_val (xs := xs) l1 l2]; rfl
  obtain ⟨a, b, xs, rfl, rfl, hab, q⟩ := h
  cases rx; cases ry
  have hu' : X.A.units < cLine := by omega
  rcases hab with ⟨h1, h2⟩ | ⟨h1, h2⟩
  · obtain ⟨its, rv, t1, _⟩ := I.list h1
    obtain ⟨its2, rv2, t2, _⟩ := I.list h2
    have l1 := rv.length
    have l2 := rv2.length
    cases xs with
    | nil => exact SeqAt.RcNeAt.lists (e := fun _ => true) t1.isList t2.isList (by rw [List.size_toArray, List.size_toArray]; omega) hu' (fun j k1 k2 => by rw [List.size_toArray, ← l1] at k1; exact absurd k1 (Nat.not_lt_zero _)) _ _ _ _ ⟨.bl _, H, I, by rw [List.all_eq_true.mpr (fun _ _ => rfl)]; rfl, q⟩
    | cons z r => exact SeqAt.RcNeAt.lists_lengths t1.isList t2.isList (by rw [List.size_toArray, List.size_toArray, ← l1, ← l2]; rfl) hu' _ _ _ _ ⟨.bl _, H, I, rfl, q⟩
  · obtain ⟨its, rv, t1, _⟩ := I.tuple h1
    obtain ⟨its2, rv2, t2, _⟩ := I.tuple h2
    have l1 := rv.length
    have l2 : its2.length = 0 := by have := rv2.length; simpa using this.symm
    refine SeqAt.RcNeAt.tuples (e := fun _ => true) t1 t2 hu' (fun j k1 k2 => by rw [List.size_toArray, l2] at k2; exact absurd k2 (Nat.not_lt_zero _)) _ _ _ _ ⟨.bl _, H, I, ?_, q⟩
    rw [List.all_eq_true.mpr (fun _ _ => rfl), List.size_toArray, List.size_toArray, l2, ← l1]
    cases xs <;> rfl
def rEqU (K : PySem.W.Frag) : R2 := fun x y H Q => rEqE K false x y H Q ∨ rEqP K x y H Q
def rNeU (K : PySem.W.Frag) : R2 := fun x y H Q => rEqE K true x y H Q ∨ rNeP K x y H Q
theorem op_eqU (hu : X.A.units + 200 < cLine) : OpR X (compareOp .Eq) (rEqU X.K) := (op_eqE hu).or (op_eqP hu)
theorem op_neU (hu : X.A.units + 200 < cLine) : OpR X (compareOp .NotEq) (rNeU X.K) := (op_neE hu).or (op_neP hu)
/-- x in ys, a list or a tuple of data -/
def rInP (K : PySem.W.Frag) (neg : Bool) : R2 := fun x y H Q => ∃ d ds, Dp K H x d ∧ (Dp K H y (.list ds) ∨ Dp K H y (.tuple ds)) ∧ d.canLay0 = true ∧ PyData.canLayAll0 ds = true ∧ min (PyData.depthAll ds) d.depth ≤ 190 ∧ Q (.bl (if neg then !ds.any fun z => PyData.eqv z d else ds.any fun z => PyData.eqv z d)) H
theorem op_inP (hu : X.A.units + 200 < cLine) : OpR X (compareOp .In) (rInP X.K false) := by
  intro pins s σ H x y v u Q I rx ry h
  obtain ⟨d, ds, hd, he, k1, k2, k3, q⟩ := h
  obtain ⟨as, r1⟩ := Dp.reads I d x v hd rx
  rcases he with he | he
  · obtain ⟨bs, r2⟩ := Dp.reads I (.list ds) y u he ry
    exact SeqAt.in_list_reads r2 r1 k2 k1 (by omega) ⟨.bl _, H, I, rfl, q⟩
  · obtain ⟨bs, r2⟩ := Dp.reads I (.tuple ds) y u he ry
    exact SeqAt.in_tuple_reads r2 r1 k2 k1 (by omega) ⟨.bl _, H, I, rfl, q⟩
end
/-- in, not in: a list, a tuple, a text -/
def gIn (neg : Bool) (x y : D) (S : Store) : RE D := match pyS S y with
  | some (.str b) => (match x with
    | .str a => .ok (.bl (if neg then !(!(Builtin.Str.occurrences b a 0 b.length 1).isEmpty) else !(Builtin.Str.occurrences b a 0 b.length 1).isEmpty)) S
    | _ => .no)
  | some (.list ds) => (match pyS S x with
    | some d => if d.canLay0 && PyData.canLayAll0 ds && decide (min (PyData.depthAll ds) d.depth ≤ 190) then .ok (.bl (if neg then !ds.any fun z => PyData.eqv z d else ds.any fun z => PyData.eqv z d)) S else .no
    | _ => .no)
  | some (.tuple ds) => (match pyS S x with
    | some d => if d.canLay0 && PyData.canLayAll0 ds && decide (min (PyData.depthAll ds) d.depth ≤ 190) then .ok (.bl (if neg then !ds.any fun z => PyData.eqv z d else ds.any fun z => PyData.eqv z d)) S else .no
    | _ => .no)
  | _ => .no
def rInU (K : PySem.W.Frag) (neg : Bool) : R2 := fun x y H Q => (∃ i j, x = .str i ∧ y = .str j ∧ Q (.bl (if neg then !(!(Builtin.Str.occurrences j i 0 j.length 1).isEmpty) else !(Builtin.Str.occurrences j i 0 j.length 1).isEmpty)) H) ∨ rInP K neg x y H Q
section
variable {X : Cx}
theorem op_inU (hu : X.A.units + 200 < cLine) : OpR X (compareOp .In) (rInU X.K false) := op_in_str.or (op_inP hu)
variable {K : PySem.W.Frag} {mg : Str → Option Value}
theorem eqE_at [Wo] {neg : Bool} {w : Wd} {S : Store} {H : Hp} {x y : V} {d e : D} {b : Bool} {Q : VK} (s : Sto K mg w S H) (r1 : Rp K mg w H d x) (r2 : Rp K mg w H e y) (h : eqE S d e = some b) (q : Q (.bl (if neg then !b else b)) H) : rEqE K neg x y H Q := by
  unfold eqE at h
  split at h
  · obtain ⟨ds, h1, h2⟩ := Option.map_eq_some_iff.mp h
    obtain ⟨a, vs, e1, t1, q1⟩ := seqL_at s r1 h1
    obtain ⟨a2, vs2, e2, t2, q2⟩ := seqL_at s r2 (show seqL S (.lst []) = some [] from rfl)
    unfold RpL at q2
    subst q2
    have : vs.isEmpty = ds.isEmpty := by have := q1.length; cases vs <;> cases ds <;> simp_all
    exact .inr ⟨a, a2, vs, e1, e2, .inl ⟨t1, t2⟩, by rw [this, h2]; exact q⟩
  · split at h
    · rename_i ds
      cases h
      obtain ⟨a, vs, e1, t1, q1⟩ := tup_at r1
      obtain ⟨a2, vs2, e2, t2, q2⟩ := tup_at r2
      unfold RpL at q2
      subst q2
      have : vs.isEmpty = ds.isEmpty := by have := q1.length; cases vs <;> cases ds <;> simp_all
      exact .inr ⟨a, a2, vs, e1, e2, .inr ⟨t1, t2⟩, by rw [this]; exact q⟩
    · cases h
  · split at h
    · rename_i zb _ za ds
      cases h
      obtain ⟨a, vs, e1, t1, q1⟩ := tup_at r1
      obtain ⟨a2, vs2, e2, t2, q2⟩ := tup_at r2
      obtain ⟨v2, rfl, q3⟩ := q2.one_inv
      unfold RpL at q1
      obtain ⟨v1, vt, rfl, q4, q5⟩ := q1
      rw [rp_str q3] at t2
      rw [rp_str q4] at t1
      have : vt.isEmpty = ds.isEmpty := by have := q5.length; cases vt <;> cases ds <;> simp_all
      exact .inl (.inr ⟨a, a2, vt, za, zb, e1, e2, t1, t2, by rw [this]; exact q⟩)
    · cases h
  · split at h
    · cases h
      exact .inl (.inl ⟨_, _, rp_str r1, rp_str r2, q⟩)
    · cases h
  · cases h
theorem eqP_v [Wo] : OpV K mg (rEqU K) gEq := by
  intro w S H x y d e Q E s r1 r2 h
  unfold gEq at h
  split at h
  · rename_i b hb; exact .inl (eqE_at (neg := false) s r1 r2 hb (h.ret s rp_b))
  · split at h
    · rename_i p q h1 h2
      split at h
      · rename_i hk; exact .inr ⟨p, q, pyS_at s d x p r1 h1, pyS_at s e y q r2 h2, hk, h.ret s rp_b⟩
      · exact h.elim
    · exact h.elim
theorem neP_v [Wo] : OpV K mg (rNeU K) gNe := by
  intro w S H x y d e Q E s r1 r2 h
  unfold gNe at h
  split at h
  · rename_i b hb; exact .inl (eqE_at (neg := true) s r1 r2 hb (h.ret s rp_b))
  · split at h
    · rename_i p q h1 h2
      split at h
      · rename_i hk; exact .inr ⟨p, q, pyS_at s d x p r1 h1, pyS_at s e y q r2 h2, hk, h.ret s rp_b⟩
      · exact h.elim
    · exact h.elim
theorem inU_v [Wo] {neg : Bool} : OpV K mg (rInU K neg) (gIn neg) := by
  intro w S H x y d e Q E s r1 r2 h
  unfold gIn at h
  split at h
  · rename_i b h1
    split at h
    · rename_i a
      have ye := pyS_at s e y _ r2 h1
      cases ye
      exact .inl ⟨_, _, rp_str r1, rfl, h.ret s rp_b⟩
    · exact h.elim
  · rename_i ds h1
    split at h
    · rename_i p h2
      split at h
      · rename_i hk
        simp only [Bool.and_eq_true, decide_eq_true_eq] at hk
        exact .inr ⟨p, ds, pyS_at s d x p r1 h2, .inl (pyS_at s e y _ r2 h1), hk.1.1, hk.1.2, hk.2, h.ret s rp_b⟩
      · exact h.elim
    · exact h.elim
  · rename_i ds h1
    split at h
    · rename_i p h2
      split at h
      · rename_i hk
        simp only [Bool.and_eq_true, decide_eq_true_eq] at hk
        exact .inr ⟨p, ds, pyS_at s d x p r1 h2, .inr (pyS_at s e y _ r2 h1), hk.1.1, hk.1.2, hk.2, h.ret s rp_b⟩
      · exact h.elim
    · exact h.elim
  · exact h.elim
theorem cmp_v [Wo] (p : Int → Int → Bool) : OpV K mg (rI0 fun i j => .bl (p i j)) (gCmp p) := by
  intro w S H x y d e Q E s r1 r2 h
  cases d <;> cases e <;> simp only [gCmp] at h <;> try exact h.elim
  exact ⟨_, _, rp_int r1, rp_int r2, h.ret s rp_b⟩
end
/-- whether it is None -/
def isNon (S : Store) : D → Option Bool
  | .non => some true
  | .loc n => (cellOf S n).map fun _ => false
  | _ => some false
/-- is None, is True -/
def gIs (neg : Bool) (x y : D) (S : Store) : RE D := match y with
  | .non => (match isNon S x with
    | some k => .ok (.bl (xor neg k)) S
    | none => .no)
  | .bl b => (match x with
    | .bl a => .ok (.bl (xor neg (decide (a = b)))) S
    | _ => .no)
  | _ => .no
def rIsU (neg : Bool) : R2 := fun x y H Q => (y = .non ∧ Q (.bl (xor neg (decide (x = .non)))) H) ∨ (∃ a b : Bool, x = .bl a ∧ y = .bl b ∧ Q (.bl (xor neg (decide (a = b)))) H)
section
variable {X : Cx}
theorem op_isU : OpR X (compareOp .Is) (rIsU false) := by
  have h := (op_isN (X := X)).or (op_isBl (X := X))
  intro pins s σ H x y v u Q I rx ry q
  refine h pins s σ H x y v u Q I rx ry ?_
  rcases q with ⟨a, b⟩ | ⟨a, b, c, d, e⟩
  · exact .inl ⟨a, by simpa using b⟩
  · exact .inr ⟨a, b, c, d, by simpa using e⟩
variable {K : PySem.W.Frag} {mg : Str → Option Value}
theorem isNon_at [Wo] {w : Wd} {S : Store} {H : Hp} {x : V} {d : D} {k : Bool} (s : Sto K mg w S H) (r1 : Rp K mg w H d x) (h : isNon S d = some k) : decide (x = V.non) = k := by
  cases d with
  | loc n =>
    simp only [isNon, Option.map_eq_some_iff] at h
    obtain ⟨ds, h1, h2⟩ := h
    obtain ⟨a, xs, e, t, q⟩ := seqL_at (S := S) (d := .loc n) s r1 h1
    rw [e, ← h2]; rfl
  | non => simp only [isNon] at h; cases h; rw [rp_non r1]; rfl
  | bl b => simp only [isNon] at h; cases h; rw [rp_bl r1]; rfl
  | int b => simp only [isNon] at h; cases h; rw [rp_int r1]; rfl
  | str b => simp only [isNon] at h; cases h; rw [rp_str r1]; rfl
  | tup ds => simp only [isNon] at h; cases h; unfold Rp at r1; obtain ⟨a, xs, e, _⟩ := r1; rw [e]; rfl
  | lst ds => simp only [isNon] at h; cases h; unfold Rp at r1; obtain ⟨a, xs, e, _⟩ := r1; rw [e]; rfl
  | dic ks ds => simp only [isNon] at h; cases h; unfold Rp at r1; obtain ⟨a, vs, e, _⟩ := r1; rw [e]; rfl
  | ins c fs ds => simp only [isNon] at h; cases h; unfold Rp at r1; obtain ⟨a, C, dx, vs, e, _⟩ := r1; rw [e]; rfl
  | glo n => simp only [isNon] at h; cases h; unfold Rp at r1; obtain ⟨a, e, _⟩ := r1; rw [e]; rfl
  | exn n => simp only [isNon] at h; cases h; unfold Rp at r1; rw [r1]; rfl
  | fls ds => simp only [isNon] at h; cases h; unfold Rp at r1; obtain ⟨a, xs, e, _⟩ := r1; rw [e]; rfl
  | exo c ns ds => simp only [isNon] at h; cases h; unfold Rp at r1; obtain ⟨a, C, od, vs, e, _⟩ := r1; rw [e]; rfl
  | lam i q ob => simp only [isNon] at h; cases h; unfold Rp at r1; obtain ⟨f, c', pm, ctv, e, _⟩ := r1; rw [e]; rfl
theorem isU_v [Wo] {neg : Bool} : OpV K mg (rIsU neg) (gIs neg) := by
  intro w S H x y d e Q E s r1 r2 h
  cases e <;> simp only [gIs] at h <;> try exact h.elim
  · split at h
    · rename_i k hk
      refine .inl ⟨rp_non r2, ?_⟩
      rw [isNon_at s r1 hk]
      exact h.ret s rp_b
    · exact h.elim
  · cases d <;> simp only [] at h <;> try exact h.elim
    exact .inr ⟨_, _, rp_bl r1, rp_bl r2, h.ret s rp_b⟩
end
end Kw
namespace Kw
open PySem PySem.Spec PyProof.Rows L2
section
variable {K : PySem.W.Frag} {mg : Str → Option Value} {w : Wd} {H : Hp} {S : Store}
theorem RpL.atI {ds : List D} {xs : List V} {i : Int} {d : D} (r : RpL K mg w H ds xs) (h : L2.atI ds i = some d) : ∃ v, L2.atI xs i = some v ∧ Rp K mg w H d v := by
  unfold L2.atI at h ⊢
  rw [← r.length]
  cases e : ixN ds.length i with
  | none => rw [e] at h; cases h
  | some j =>
    rw [e] at h
    exact r.get h
end
def gIx (x y : D) (S : Store) : RE D := match y with
  | .int i => (match x with
    | .str z => if z.length ≤ sizeLine then (match L2.atI z.cps.toList i with
      | some c => .ok (.str ⟨#[c]⟩) S
      | none => .no) else .no
    | x => (match seqA S x with
      | some ds => (match L2.atI ds i with
        | some d => .ok d S
        | none => .no)
      | none => .no))
  | _ => .no
section
variable {K : PySem.W.Frag} {mg : Str → Option Value}
theorem ix_v [Wo] : OpV K mg (rIx K) gIx := by
  intro w S H x y d e Q E s r1 r2 h
  cases e <;> simp only [gIx] at h <;> try exact h.elim
  rename_i i
  have seqs : End K mg (fun w H => Rp K mg w H) w H (match seqA S d with
      | some ds => (match L2.atI ds i with
        | some d => .ok d S
        | none => .no)
      | none => .no) Q E → rIx K x y H Q := fun h => by
    split at h
    · rename_i ds h1
      split at h
      · rename_i d' h2
        obtain ⟨a, xs, e1, t1, q1⟩ := seqA_at s r1 h1
        obtain ⟨v, h3, h4⟩ := q1.atI h2
        rcases t1 with t1 | t1
        · exact .inl ⟨a, xs, i, v, e1, rp_int r2, t1, h3, h.ret s h4⟩
        · exact .inr (.inl ⟨a, xs, i, v, e1, rp_int r2, t1, h3, h.ret s h4⟩)
      · exact h.elim
    · exact h.elim
  cases d <;> simp only [] at h
  case str z =>
    split at h
    · rename_i hl
      split at h
      · rename_i c hc
        exact .inr (.inr ⟨z, i, c, rp_str r1, rp_int r2, hl, hc, h.ret s rp_s⟩)
      · exact h.elim
    · exact h.elim
  all_goals exact seqs h
end
section
variable {X : Cx} {W : WX} {a b e : Expr} {es : List Expr} {fa fb : FE} {fs : FA} {pos : Pos}
theorem q_ix [Wo] (ha : PE X a (tF X W fa)) (hb : PE X b (tF X W fb)) (hs : PlainIx b := by intro _ _; rfl) : PE X (.Subscript a b pos) (tF X W (f2 gIx fa fb)) := PE.wk (pe_ix ix_seq ha hb hs) fun σ H Q h => two ix_v h
end
abbrev FO := FEnv → Store → RE (Option Int)
def tO [Wo] (X : Cx) (W : WX) (f : FO) : TO := fun σ H Q => ∃ w ρ S, Sto X.K X.mg w S H ∧ EnvR X.K X.mg w H ρ σ ∧ End X.K X.mg (fun _ _ (a b : Option Int) => b = a) w H (f ρ S) Q (fun c od H' => W c od σ H')
def fNone : FO := fun _ S => .ok none S
def fSome (f : FE) : FO := fun ρ S => (f ρ S).bnd fun x S1 => match x with
  | .int i => .ok (some i) S1
  | _ => .no
def cutL {α : Type} (xs : List α) (lo hi : Option Int) : List α := (xs.drop (HT.sIx xs.length 0 lo)).take (HT.sIx xs.length xs.length hi - HT.sIx xs.length 0 lo)
/-- c: the slice of a list is a cell -/
def gSl (c : Bool) (x : D) (lo hi : Option Int) (S : Store) : RE D := match x with
  | .str z => if z.length ≤ sizeLine then .ok (.str (cutS z lo hi)) S else .no
  | .tup ds => .ok (.tup (cutL ds lo hi)) S
  | x => (match seqL S x with
    | some ds => if c then .ok (.loc S.length) (S ++ [.lst (cutL ds lo hi)]) else .ok (.lst (cutL ds lo hi)) S
    | none => .no)
def fSl (g : D → Option Int → Option Int → Store → RE D) (a : FE) (l u : FO) : FE := fun ρ S => (a ρ S).bnd fun x S1 => (l ρ S1).bnd fun lo S2 => (u ρ S2).bnd fun hi S3 => g x lo hi S3
def rSlU (K : PySem.W.Frag) : V → Option Int → Option Int → Hp → VK → Prop := fun x lo hi H Q => rSlL K x lo hi H Q ∨ rSlA K x lo hi H Q ∨ rSlS x lo hi H Q
theorem sl_U {X : Cx} : SlR X (rSlU X.K) := sl_list.or (sl_tupA.or sl_str)
section
variable {K : PySem.W.Frag} {mg : Str → Option Value} {w : Wd} {H : Hp} {S : Store} {Q : VK} {E : Value → Option Addr → Hp → Prop}
theorem RpL.cut {ds : List D} {xs : List V} (r : RpL K mg w H ds xs) (lo hi : Option Int) : RpL K mg w H (cutL ds lo hi) (cutV xs lo hi) := by
  unfold cutL cutV
  rw [← r.length]
  exact (r.drop _).take _
theorem newLst [Wo] {ds : List D} {xs : List V} {p : Addr} (s : Sto K mg w S H) (r : RpL K mg w H ds xs) (np : H p = none) (h : End K mg (fun w H => Rp K mg w H) w H (.ok (.lst ds) S) Q E) : Q (.ref p) (upd H p (.lst xs)) := by
  refine h w _ _ (Ext.new np) (s.beside np) ?_
  show Rp _ _ _ _ _ _
  unfold Rp
  exact ⟨p, xs, rfl, upd_same, s.new np, RpL.ext (Ext.new np) _ _ r⟩
theorem newTup [Wo] {ds : List D} {xs : List V} {p : Addr} (s : Sto K mg w S H) (r : RpL K mg w H ds xs) (np : H p = none) (h : End K mg (fun w H => Rp K mg w H) w H (.ok (.tup ds) S) Q E) : Q (.ref p) (upd H p (.tup xs)) := by
  refine h w _ _ (Ext.new np) (s.beside np) ?_
  show Rp _ _ _ _ _ _
  unfold Rp
  exact ⟨p, xs, rfl, .inl ⟨upd_same, s.new np⟩, RpL.ext (Ext.new np) _ _ r⟩
theorem newCel [Wo] {ds : List D} {xs : List V} {p : Addr} (s : Sto K mg w S H) (r : RpL K mg w H ds xs) (np : H p = none) (h : End K mg (fun w H => Rp K mg w H) w H (.ok (.loc S.length) (S ++ [.lst ds])) Q E) : Q (.ref p) (upd H p (.lst xs)) := by
  refine h _ _ _ (Ext.cell np) (s.cellNew np r) ?_
  show Rp _ _ _ _ _ _
  unfold Rp
  refine ⟨by show S.length < (w.φ ++ [some p]).length; rw [List.length_append, s.len]; exact Nat.lt_succ_self _, fun a ha => ?_⟩
  have ha' : (w.φ ++ [some p])[S.length]? = some (some a) := ha
  rw [← s.len, List.getElem?_append_right (Nat.le_refl _), Nat.sub_self] at ha'
  simp at ha'; rw [ha']
theorem slU_v [Wo] {c : Bool} {x : V} {d : D} {lo hi : Option Int} (s : Sto K mg w S H) (r1 : Rp K mg w H d x) (h : End K mg (fun w H => Rp K mg w H) w H (gSl c d lo hi S) Q E) : rSlU K x lo hi H Q := by
  have lists : End K mg (fun w H => Rp K mg w H) w H (match seqL S d with
      | some ds => if c then .ok (.loc S.length) (S ++ [.lst (cutL ds lo hi)]) else .ok (.lst (cutL ds lo hi)) S
      | none => .no) Q E → rSlL K x lo hi H Q := fun h => by
    split at h
    · rename_i ds h1
      obtain ⟨a, xs, e1, t1, q1⟩ := seqL_at s r1 h1
      refine ⟨a, xs, e1, t1, fun p np => ?_⟩
      cases c
      · exact newLst s (q1.cut lo hi) np h
      · exact newCel s (q1.cut lo hi) np h
    · exact h.elim
  cases d <;> simp only [gSl] at h
  case str z =>
    split at h
    · rename_i hl; exact .inr (.inr ⟨z, rp_str r1, hl, h.ret s rp_s⟩)
    · exact h.elim
  case tup ds =>
    have r1' := r1
    unfold Rp at r1'
    obtain ⟨a, xs, e1, t1, q1⟩ := r1'
    refine .inr (.inl ⟨a, xs, e1, t1.sq, fun ⟨z1, z2⟩ => ?_, fun _ p np => newTup s (q1.cut lo hi) np h⟩)
    have e2 : cutL ds lo hi = ds := by
      unfold cutL
      rw [q1.length, z1, z2, List.drop_zero, ← q1.length]
      exact List.take_of_length_le (by omega)
    rw [e2] at h
    exact h.ret s (by rw [← e1]; exact r1)
  all_goals exact .inl (lists h)
end
section
variable {X : Cx} {W : WX} {a b e : Expr} {es : List Expr} {fa fb : FE} {fs : FA} {pos : Pos}
theorem q_none [Wo] : PO X none (tO X W fNone) := ⟨fun pins s σ H Q I ⟨w, ρ, S, st, en, h⟩ => po_none.run pins s σ H Q I (h.ret st rfl)⟩
theorem q_some [Wo] (h : PE X e (tF X W fa)) : PO X (some e) (tO X W (fSome fa)) := ⟨fun pins s σ H Q I ⟨w, ρ, S, st, en, hh⟩ => (po_some h).run pins s σ H Q I (by
  refine ⟨w, ρ, S, st, en, (End.bind (R := fun w H => Rp X.K X.mg w H) hh).imp ?_ (fun _ _ _ z => z)⟩
  rintro x H1 ⟨w1, S1, d, e1, s1, r1, h1⟩
  cases d <;> try exact h1.elim
  exact ⟨_, rp_int r1, h1.ret s1 rfl⟩)⟩
theorem q_slice [Wo] {c : Bool} {lo hi : Option Expr} {fl fu : FO} {p2 : Pos} (he : PE X e (tF X W fa)) (hl : PO X lo (tO X W fl)) (hu : PO X hi (tO X W fu)) : PE X (.Subscript e (.Slice lo hi none p2) pos) (tF X W (fSl (gSl c) fa fl fu)) :=
  PE.wk (pe_slice sl_U he hl hu) fun σ H Q ⟨w, ρ, S, s, en, h⟩ => by
    refine ⟨w, ρ, S, s, en, (End.bind h).imp ?_ (fun _ _ _ z => z)⟩
    rintro x H1 ⟨w1, S1, d, e1, s1, r1, h1⟩
    refine ⟨w1, ρ, S1, s1, en.ext e1, (End.bind h1).imp ?_ (fun _ _ _ z => z)⟩
    rintro l H2 ⟨w2, S2, l', e2, s2, r2, h2⟩
    cases r2
    refine ⟨w2, ρ, S2, s2, (en.ext e1).ext e2, (End.bind h2).imp ?_ (fun _ _ _ z => z)⟩
    rintro u H3 ⟨w3, S3, u', e3, s3, r3, h3⟩
    cases r3
    exact slU_v s3 (Rp.ext e3 _ _ (Rp.ext e2 _ _ r1)) h3
end
def gLen : List D → Store → RE D := fun ds S => match ds with
  | [.str z] => if z.length ≤ sizeLine then .ok (.int z.length) S else .no
  | [d] => (match seqA S d with
    | some xs => .ok (.int xs.length) S
    | none => .no)
  | _ => .no
def gInt : List D → Store → RE D := fun ds S => match ds with
  | [.int i] => .ok (.int i) S
  | [.bl k] => .ok (.int (if k then 1 else 0)) S
  | _ => .no
def gList (c : Bool) : List D → Store → RE D := fun ds S => match ds with
  | [d] => (match seqA S d with
    | some xs => if c then .ok (.loc S.length) (S ++ [.lst xs]) else .ok (.lst xs) S
    | none => .no)
  | _ => .no
def gTuple : List D → Store → RE D := fun ds S => match ds with
  | [d] => (match seqA S d with
    | some xs => .ok (.tup xs) S
    | none => .no)
  | _ => .no
def blsOf : List D → Option (List Bool)
  | [] => some []
  | .bl b :: r => (blsOf r).map (b :: ·)
  | _ => none
def gAll : List D → Store → RE D := fun ds S => match ds with
  | [d] => (match (seqL S d).bind blsOf with
    | some bs => .ok (.bl (bs.all id)) S
    | none => .no)
  | _ => .no
def gMin : List D → Store → RE D := fun ds S => match ds with
  | [.int i, .int j] => .ok (.int (if j < i then j else i)) S
  | _ => .no
section
variable {K : PySem.W.Frag} {mg : Str → Option Value}
theorem len_v [Wo] : CallV K mg (fun xs H Q => ∃ x n, xs = [x] ∧ LenV K x H n ∧ Q (.int n) H) gLen := by
  intro w S H xs ds Q E s r h
  unfold gLen at h
  split at h
  · rename_i z
    split at h
    · rename_i hl
      obtain ⟨v, rfl, r1⟩ := r.one_inv
      exact ⟨v, z.length, rfl, by rw [rp_str r1]; exact ⟨hl, rfl⟩, h.ret s rp_i⟩
    · exact h.elim
  · rename_i d _
    split at h
    · rename_i ys h1
      obtain ⟨v, rfl, r1⟩ := r.one_inv
      obtain ⟨a, vs, e1, t1, q1⟩ := seqA_at s r1 h1
      refine ⟨v, ys.length, rfl, ?_, h.ret s rp_i⟩
      rw [e1, q1.length]
      rcases t1 with t1 | t1
      · exact .inl ⟨vs, t1, rfl⟩
      · exact .inr ⟨vs, t1, rfl⟩
    · exact h.elim
  · exact h.elim
theorem int_v [Wo] : CallV K mg (fun xs H Q => (∃ i, xs = [.int i] ∧ Q (.int i) H) ∨ ∃ k, xs = [.bl k] ∧ Q (.int (if k then 1 else 0)) H) gInt := by
  intro w S H xs ds Q E s r h
  unfold gInt at h
  split at h
  · obtain ⟨v, rfl, r1⟩ := r.one_inv
    exact .inl ⟨_, by rw [rp_int r1], h.ret s rp_i⟩
  · obtain ⟨v, rfl, r1⟩ := r.one_inv
    exact .inr ⟨_, by rw [rp_bl r1], h.ret s rp_i⟩
  · exact h.elim
theorem list_v [Wo] {c : Bool} : CallV K mg (fun xs H Q => ∃ p ys, xs = [.ref p] ∧ (SqL K H p ys ∨ SqT K H p ys) ∧ ∀ l, H l = none → Q (.ref l) (upd H l (.lst ys))) (gList c) := by
  intro w S H xs ds Q E s r h
  unfold gList at h
  split at h
  · split at h
    · rename_i ys h1
      obtain ⟨v, rfl, r1⟩ := r.one_inv
      obtain ⟨a, vs, e1, t1, q1⟩ := seqA_at s r1 h1
      refine ⟨a, vs, by rw [e1], t1, fun p np => ?_⟩
      cases c
      · exact newLst s q1 np h
      · exact newCel s q1 np h
    · exact h.elim
  · exact h.elim
theorem tuple_v [Wo] : CallV K mg (fun xs H Q => ∃ p ys, xs = [.ref p] ∧ ((SqL K H p ys ∧ ∀ l, H l = none → Q (.ref l) (upd H l (.tup ys))) ∨ (SqT K H p ys ∧ Q (.ref p) H))) gTuple := by
  intro w S H xs ds Q E s r h
  unfold gTuple at h
  split at h
  · rename_i d
    split at h
    · rename_i ys h1
      obtain ⟨v, rfl, r1⟩ := r.one_inv
      cases d <;> simp only [seqA] at h1 <;> try (cases h1; done)
      · cases h1
        obtain ⟨a, vs, e1, t1, q1⟩ := tup_at r1
        exact ⟨a, vs, by rw [e1], .inr ⟨t1, h.ret s (by rw [← e1]; exact r1)⟩⟩
      · cases h1
        obtain ⟨a, vs, e1, t1, q1⟩ := seqL_at (S := S) s r1 rfl
        exact ⟨a, vs, by rw [e1], .inl ⟨t1, fun p np => newTup s q1 np h⟩⟩
      · rename_i n
        obtain ⟨a, vs, e1, t1, q1⟩ := seqL_at (S := S) (d := .loc n) s r1 h1
        exact ⟨a, vs, by rw [e1], .inl ⟨t1, fun p np => newTup s q1 np h⟩⟩
      · rename_i ds'
        cases h1
        obtain ⟨a, vs, e1, t1, q1⟩ := seqL_at (S := S) (d := .fls ys) s r1 rfl
        exact ⟨a, vs, by rw [e1], .inl ⟨t1, fun p np => newTup s q1 np h⟩⟩
    · exact h.elim
  · exact h.elim
theorem blsOf_at {w : Wd} {H : Hp} : ∀ {ds : List D} {vs : List V} {bs : List Bool}, RpL K mg w H ds vs → blsOf ds = some bs → vs = bs.map V.bl
  | [], vs, bs, r, h => by unfold RpL at r; simp only [blsOf] at h; cases h; rw [r]; rfl
  | d :: ds, vs, bs, r, h => by
    unfold RpL at r
    obtain ⟨v, vs', e, r1, r2⟩ := r
    cases d <;> simp only [blsOf] at h <;> try (cases h; done)
    simp only [Option.map_eq_some_iff] at h
    obtain ⟨b', h1, h2⟩ := h
    rw [e, ← h2, rp_bl r1, blsOf_at r2 h1]; rfl
theorem all_v [Wo] : CallV K mg (rAll K) gAll := by
  intro w S H xs ds Q E s r h
  unfold gAll at h
  split at h
  · split at h
    · rename_i bs h1
      obtain ⟨v, rfl, r1⟩ := r.one_inv
      simp only [Option.bind_eq_some_iff] at h1
      obtain ⟨ys, h2, h3⟩ := h1
      obtain ⟨a, vs, e1, t1, q1⟩ := seqL_at s r1 h2
      exact ⟨a, bs, by rw [e1], by rw [← blsOf_at q1 h3]; exact t1, h.ret s rp_b⟩
    · exact h.elim
  · exact h.elim
theorem RpL.two_inv {w : Wd} {H : Hp} {d e : D} {vs : List V} (h : RpL K mg w H [d, e] vs) : ∃ v u, vs = [v, u] ∧ Rp K mg w H d v ∧ Rp K mg w H e u := by
  unfold RpL at h
  obtain ⟨v, r, e1, h1, h2⟩ := h
  obtain ⟨u, rfl, h3⟩ := h2.one_inv
  exact ⟨v, u, e1, h1, h3⟩
theorem min_v [Wo] : CallV K mg (fun xs H Q => ∃ i j, xs = [.int i, .int j] ∧ Q (.int (if j < i then j else i)) H) gMin := by
  intro w S H xs ds Q E s r h
  unfold gMin at h
  split at h
  · obtain ⟨v, u, rfl, r1, r2⟩ := r.two_inv
    exact ⟨_, _, by rw [rp_int r1, rp_int r2], h.ret s rp_i⟩
  · exact h.elim
end
def tyD (S : Store) : D → Option String
  | .non => some "NoneType"
  | .bl _ => some "bool"
  | .int _ => some "int"
  | .str _ => some "str"
  | .tup _ => some "tuple"
  | .lst _ => some "list"
  | .fls _ => some "list"
  | .dic _ _ => some "dict"
  | .loc n => (cellOf S n).map fun _ => "list"
  | _ => none
def isiB (t T : String) : Bool := t == T || (t == "bool" && T == "int")
def fIsi (T : String) (f : FE) : FE := fun ρ S => (f ρ S).bnd fun x S1 => match tyD S1 x with
  | some t => .ok (.bl (isiB t T)) S1
  | none => .no
theorem tyX_of [Wo] {K : PySem.W.Frag} {mg : Str → Option Value} {w : Wd} {H : Hp} {S : Store} {d : D} {v : V} {t : String} (s : Sto K mg w S H) (r : Rp K mg w H d v) (h : tyD S d = some t) : TyX K H v (.type t) := by
  cases d with
  | non => simp only [tyD] at h; cases h; rw [rp_non r]; exact .base .non
  | bl b => simp only [tyD] at h; cases h; rw [rp_bl r]; exact .base (.bl b)
  | int b => simp only [tyD] at h; cases h; rw [rp_int r]; exact .base (.int b)
  | str b => simp only [tyD] at h; cases h; rw [rp_str r]; exact .base (.str b)
  | tup ds =>
    simp only [tyD] at h; cases h
    unfold Rp at r
    obtain ⟨a, xs, e, t, _⟩ := r
    rw [e]
    rcases t with t | ⟨o, its, n, h1, h2, _⟩
    · exact .base (.tup t.1)
    · exact .kTuple h1 h2
  | lst ds =>
    simp only [tyD] at h; cases h
    unfold Rp at r
    obtain ⟨a, xs, e, t, _⟩ := r
    rw [e]; exact .base (.lst t)
  | dic ks ds =>
    simp only [tyD] at h; cases h
    unfold Rp at r
    obtain ⟨a, xs, e, t, _⟩ := r
    rw [e]; exact .base (.dK t)
  | loc n =>
    simp only [tyD, Option.map_eq_some_iff] at h
    obtain ⟨ds, h1, h2⟩ := h
    obtain ⟨a, xs, h3, h4, h5⟩ := cellOf_at s h1
    unfold Rp at r
    rw [r.2 a h3, ← h2]
    rcases h4 with h4 | ⟨o, h4⟩
    · exact .base (.lst h4)
    · exact .base (.frz h4)
  | fls ds =>
    simp only [tyD] at h; cases h
    unfold Rp at r
    obtain ⟨a, xs, e, t, _⟩ := r
    rw [e]
    rcases t with ⟨o, t, _⟩ | ⟨o, its, n, h1, h2, _⟩
    · exact .base (.frz t)
    · exact .kList h1 h2
  | ins _ _ _ => simp [tyD] at h
  | glo _ => simp [tyD] at h
  | exn _ => simp [tyD] at h
  | exo _ _ _ => simp [tyD] at h
  | lam _ _ _ => simp [tyD] at h
theorem kitB_ok {t T : String} (ht : t ∈ ["NoneType", "bool", "int", "str", "tuple", "list", "dict"]) (hT : T ∈ ["bool", "int", "str", "tuple", "list", "dict"]) : kitB t T = some (isiB t T) := by
  have key : ∀ t ∈ ["NoneType", "bool", "int", "str", "tuple", "list", "dict"], ∀ T ∈ ["bool", "int", "str", "tuple", "list", "dict"], kitB t T = some (isiB t T) := by decide +kernel
  exact key t ht T hT
theorem tyD_mem {S : Store} {d : D} {t : String} (h : tyD S d = some t) : t ∈ ["NoneType", "bool", "int", "str", "tuple", "list", "dict"] := by
  cases d <;> simp only [tyD, Option.map_eq_some_iff] at h <;> first | (cases h; decide) | (obtain ⟨_, _, rfl⟩ := h; decide) | (cases h)
section
variable {X : Cx} {W : WX} {a b e : Expr} {es : List Expr} {fa fb : FE} {fs : FA} {pos : Pos}
theorem q_isi [Wo] {T : String} {x : Str} {p q : Pos} (hg : Gl X "isinstance") (hm : X.mg "isinstance" = none) (hgT : Gl X x) (hmT : X.mg x = none) (hvT : bootBuiltins x = some (.type T)) (hT : T ∈ ["bool", "int", "str", "tuple", "list", "dict"]) (ha : PE X a (tF X W fa))
    (hn : x ≠ "__name__" := by decide) (hd : (x == ("__debug__" : Str)) = false := by decide)
    (h1 : starEach [a, .Name x q] X.env = (false, eval a X.env) :: starEach [.Name x q] X.env := by rfl) (h2 : starEach [.Name x q] X.env = (false, eval (.Name x q) X.env) :: starEach [] X.env := by rfl) (hpl : (backTo pos (starEach [.Name x q] X.env)).any (·.1) = false := by rfl) :
    PE X (.Call (.Name "isinstance" p) [a, .Name x q] [] pos) (tF X W (fIsi T fa)) := by
  have hx : PE X (.Name x q) (tC (.ty T)) := pe_bltn hgT hmT hvT rfl hn hd
  refine PE.wk (pe_callB call_isi hg hm (by decide +kernel) (pa_cons ha (pa_cons hx pa_nil h2) h1) (by decide) (by decide) h1 hpl) fun σ H Q ⟨w, ρ, S, s, en, h⟩ => ?_
  refine ⟨w, ρ, S, s, en, (End.bind (R := fun w H => Rp X.K X.mg w H) h).imp ?_ (fun _ _ _ z => z)⟩
  rintro v H1 ⟨w1, S1, d, e1, s1, r1, h3⟩
  split at h3
  · rename_i t ht
    exact ⟨v, .ty T, .type t, .type T, isiB t T, rfl, .ty T, tyX_of s1 r1 ht, kit_ty (kitB_ok (tyD_mem ht) hT), h3.ret s1 rp_b⟩
  · exact h3.elim
end
section
variable {K : PySem.W.Frag} {mg : Str → Option Value} {w : Wd} {H : Hp} {S : Store}
theorem Ext.write {n : Nat} {l : Addr} {o : HO} (hw : w.φ[n]? = some (some l)) : Ext w H w (upd H l o) := ⟨fun a u e n => by
  have : a ≠ l := fun z => by subst z; exact n (List.mem_of_getElem? hw)
  rw [upd_ne this]; exact e, Nat.le_refl _, fun _ _ h _ => h, fun _ h => .inl h, rfl⟩
theorem Sto.write [Wo] {n : Nat} {l : Addr} {ds : List D} {xs : List V} (s : Sto K mg w S H) (hw : w.φ[n]? = some (some l)) (hn : n < S.length) (r : RpL K mg w H ds xs) : Sto K mg w (S.set n (.lst ds)) (upd H l (.lst xs)) := by
  have ex : Ext w H w (upd H l (.lst xs)) := Ext.write hw
  refine ⟨by rw [List.length_set]; exact s.len, s.nd, fun a ha => ⟨upd_some (s.ap a ha).1, (s.ap a ha).2⟩, fun m c hc => ?_⟩
  by_cases e : m = n
  · subst e
    rw [List.getElem?_set_self hn] at hc
    cases hc
    exact ⟨l, xs, hw, upd_same, RpL.ext ex _ _ r⟩
  · rw [List.getElem?_set_ne (Ne.symm e)] at hc
    refine CellR.ext ex (fun a ha => ⟨ha, ?_⟩) id (s.cell m c hc)
    have : a ≠ l := fun z => by subst z; exact e (s.nd m n a ha hw)
    rw [upd_ne this]
theorem cellM_lt {n : Nat} {ds : List D} (h : cellM S n = some ds) : n < S.length := by
  unfold cellM at h
  split at h
  · rename_i e he; exact (List.getElem?_eq_some_iff.mp he).1
  · cases h
/-- a cell is written -/
theorem wrote [Wo] {n : Nat} {ds ds' : List D} {xs' : List V} {x : V} {Q : VK} {E : Value → Option Addr → Hp → Prop} {d : D} {v : V} (s : Sto K mg w S H) (r : Rp K mg w H (.loc n) x) (h : cellM S n = some ds) (r' : RpL K mg w H ds' xs') (rv : Rp K mg w H d v)
    (he : End K mg (fun w H => Rp K mg w H) w H (.ok d (S.set n (.lst ds'))) Q E) : ∀ l, x = .ref l → Q v (upd H l (.lst xs')) := fun l el => by
  obtain ⟨a, xs, h1, h2, h3⟩ := cellM_at s h
  have e := r.2 a h1
  rw [el] at e; cases e
  exact he w _ v (Ext.write h1) (s.write h1 (cellM_lt h) r') (Rp.ext (Ext.write h1) _ _ rv)
end
def MtV [Wo] (K : PySem.W.Frag) (mg : Str → Option Value) (r : V → List V → Hp → VK → Prop) (g : D → List D → Store → RE D) : Prop :=
  ∀ (w : Wd) (S : Store) (H : Hp) (x : V) (xs : List V) (d : D) (ds : List D) (Q : VK) (E : Value → Option Addr → Hp → Prop), Sto K mg w S H → Rp K mg w H d x → RpL K mg w H ds xs → End K mg (fun w H => Rp K mg w H) w H (g d ds S) Q E → r x xs H Q
def gAppend (x : D) (ds : List D) (S : Store) : RE D := match x, ds with
  | .loc n, [y] => (match cellM S n with
    | some xs => if xs.length < sizeLine then .ok .non (S.set n (.lst (xs ++ [y]))) else .no
    | none => .no)
  | _, _ => .no
def gExtend (x : D) (ds : List D) (S : Store) : RE D := match x, ds with
  | .loc n, [y] => (match cellM S n, seqM S y with
    | some xs, some ys => if xs.length + ys.length ≤ sizeLine then .ok .non (S.set n (.lst (xs ++ ys))) else .no
    | _, _ => .no)
  | _, _ => .no
def gPop0 (x : D) (ds : List D) (S : Store) : RE D := match x, ds with
  | .loc n, [] => (match cellM S n with
    | some xs => (match xs[xs.length - 1]? with
      | some y => .ok y (S.set n (.lst xs.dropLast))
      | none => .no)
    | none => .no)
  | _, _ => .no
def gPop1 (x : D) (ds : List D) (S : Store) : RE D := match x, ds with
  | .loc n, [.int i] => (match cellM S n with
    | some xs => if -(2 ^ 63) ≤ i ∧ i < 2 ^ 63 then (match seqIndex? i xs.length with
      | some k => (match xs[k]? with
        | some y => .ok y (S.set n (.lst (xs.eraseIdx k)))
        | none => .no)
      | none => .no) else .no
    | none => .no)
  | _, _ => .no
section
variable {K : PySem.W.Frag} {mg : Str → Option Value}
theorem RpL.dropLast {w : Wd} {H : Hp} {ds : List D} {xs : List V} (r : RpL K mg w H ds xs) : RpL K mg w H ds.dropLast xs.dropLast := by
  rw [List.dropLast_eq_take, List.dropLast_eq_take, r.length]; exact r.take _
theorem RpL.erase {w : Wd} {H : Hp} : ∀ {ds : List D} {xs : List V} (k : Nat), RpL K mg w H ds xs → RpL K mg w H (ds.eraseIdx k) (xs.eraseIdx k)
  | [], xs, k, h => by unfold RpL at h; rw [h]; simp; unfold RpL; rfl
  | d :: ds, xs, 0, h => by
    unfold RpL at h
    obtain ⟨v, r, e1, h1, h2⟩ := h
    rw [e1]; exact h2
  | d :: ds, xs, k + 1, h => by
    unfold RpL at h
    obtain ⟨v, r, e1, h1, h2⟩ := h
    rw [e1, List.eraseIdx_cons_succ, List.eraseIdx_cons_succ]
    exact RpL.cons h1 (RpL.erase k h2)
theorem RpL.reverse {w : Wd} {H : Hp} : ∀ {ds : List D} {xs : List V}, RpL K mg w H ds xs → RpL K mg w H ds.reverse xs.reverse
  | [], xs, h => by unfold RpL at h; rw [h]; exact RpL.nil
  | d :: ds, xs, h => by
    unfold RpL at h
    obtain ⟨v, r, e1, h1, h2⟩ := h
    rw [e1, List.reverse_cons, List.reverse_cons]
    exact (RpL.reverse h2).append (RpL.one h1)
theorem append_v [Wo] : MtV K mg rAppend gAppend := by
  intro w S H x xs d ds Q E s r1 r2 h
  unfold gAppend at h
  split at h
  · rename_i n y
    split at h
    · rename_i zs hz
      split at h
      · rename_i hl
        obtain ⟨v, rfl, r3⟩ := r2.one_inv
        obtain ⟨l, vs, e1, t1, q1⟩ := seqM_at (S := S) (d := .loc n) s r1 hz
        exact ⟨l, vs, v, e1, rfl, t1, by rw [← q1.length]; exact hl, wrote s r1 hz (q1.append (RpL.one r3)) rp_n h l e1⟩
      · exact h.elim
    · exact h.elim
  · exact h.elim
theorem extend_v [Wo] : MtV K mg rExtend gExtend := by
  intro w S H x xs d ds Q E s r1 r2 h
  unfold gExtend at h
  split at h
  · rename_i n y
    split at h
    · rename_i zs ys hz hy
      split at h
      · rename_i hl
        obtain ⟨v, rfl, r3⟩ := r2.one_inv
        obtain ⟨l, vs, e1, t1, q1⟩ := seqM_at (S := S) (d := .loc n) s r1 hz
        obtain ⟨b, us, e2, t2, q2⟩ := seqM_at s r3 hy
        exact ⟨l, b, vs, us, e1, by rw [e2], t1, t2, by rw [← q1.length, ← q2.length]; exact hl, wrote s r1 hz (q1.append q2) rp_n h l e1⟩
      · exact h.elim
    · exact h.elim
  · exact h.elim
theorem pop0_v [Wo] : MtV K mg rPop gPop0 := by
  intro w S H x xs d ds Q E s r1 r2 h
  unfold gPop0 at h
  split at h
  · rename_i n
    split at h
    · rename_i zs hz
      split at h
      · rename_i y hy
        obtain ⟨l, vs, e1, t1, q1⟩ := seqM_at (S := S) (d := .loc n) s r1 hz
        obtain ⟨u, h3, h4⟩ := q1.get hy
        unfold RpL at r2
        exact ⟨l, vs, u, e1, r2, t1, by rw [← q1.length]; exact h3, wrote s r1 hz q1.dropLast h4 h l e1⟩
      · exact h.elim
    · exact h.elim
  · exact h.elim
theorem pop1_v [Wo] : MtV K mg rPopAt gPop1 := by
  intro w S H x xs d ds Q E s r1 r2 h
  unfold gPop1 at h
  split at h
  · rename_i n i
    split at h
    · rename_i zs hz
      split at h
      · rename_i hb
        split at h
        · rename_i k hk
          split at h
          · rename_i y hy
            obtain ⟨v, rfl, r3⟩ := r2.one_inv
            obtain ⟨l, vs, e1, t1, q1⟩ := seqM_at (S := S) (d := .loc n) s r1 hz
            obtain ⟨u, h3, h4⟩ := q1.get hy
            exact ⟨l, vs, i, k, u, e1, by rw [rp_int r3], t1, hb.1, hb.2, by rw [← q1.length]; exact hk, h3, wrote s r1 hz (q1.erase k) h4 h l e1⟩
          · exact h.elim
        · exact h.elim
      · exact h.elim
    · exact h.elim
  · exact h.elim
end
/-- o.m(..), o a list -/
def fMth (g : D → List D → Store → RE D) (o : FE) (a : FA) : FE := fun ρ S => (o ρ S).bnd fun x S1 => match seqL S1 x with
  | some _ => (a ρ S1).bnd fun ds S2 => g x ds S2
  | none => .no
section
variable {X : Cx} {W : WX} {o e : Expr} {es : List Expr} {fo : FE} {fs : FA} {name : Str} {apos cpos : Pos} {id : String} {r : V → List V → Hp → VK → Prop} {g : D → List D → Store → RE D}
theorem q_mth [Wo] (slot : Slot "list" name id) (hty : typeOf (.builtin id) = pure (.type "method_descriptor")) (hm : MtR X id r) (hv : MtV X.K X.mg r g) (ho : PE X o (tF X W fo)) (ha : PA X (e :: es) (tA X W fs))
    (hbase : attributeBase o name X.env (eval o X.env) = eval o X.env := by rfl)
    (hfew : ((backTo cpos (starEach (e :: es) X.env)).all (fun x => !x.1) && (backToKw cpos (keywordEach [] X.env)).all (fun x => x.1.isSome)
      && decide ((e :: es).length + ([] : List Keyword).length + (if ([] : List Keyword).isEmpty then 0 else 1) < 30)) = true := by rfl)
    (hline : (apos.endLine == cpos.line) = true := by rfl) (hs : starEach (e :: es) X.env = (false, eval e X.env) :: starEach es X.env := by rfl) (hplain : (backTo cpos (starEach es X.env)).any (·.1) = false := by rfl) :
    PE X (.Call (.Attribute o name apos) (e :: es) [] cpos) (tF X W (fMth g fo fs)) :=
  PE.wk (pe_bm PySem.F.plainAttrs_list slot hty hm ho ha hbase hfew hline hs hplain) fun σ H Q ⟨w, ρ, S, s, en, h⟩ => by
    refine ⟨w, ρ, S, s, en, (End.bind (R := fun w H => Rp X.K X.mg w H) h).imp ?_ (fun _ _ _ z => z)⟩
    rintro x H1 ⟨w1, S1, d, e1, s1, r1, h1⟩
    split at h1
    · rename_i ys hy
      obtain ⟨a, vs, e2, t2, q2⟩ := seqL_at s1 r1 hy
      refine ⟨by rw [e2]; exact .inl ⟨rfl, vs, t2⟩, w1, ρ, S1, s1, en.ext e1, (End.bind (R := fun w H => RpL X.K X.mg w H) h1).imp ?_ (fun _ _ _ z => z)⟩
      rintro us H2 ⟨w2, S2, ds, e3, s2, r2, h2⟩
      exact hv w2 S2 H2 x us d ds Q _ s2 (Rp.ext e3 _ _ r1) r2 h2
    · exact h1.elim
theorem q_mth0 [Wo] (slot : Slot "list" name id) (hty : typeOf (.builtin id) = pure (.type "method_descriptor")) (hm : MtR X id r) (hv : MtV X.K X.mg r g) (ho : PE X o (tF X W fo))
    (hbase : attributeBase o name X.env (eval o X.env) = eval o X.env := by rfl) (hline : (apos.endLine == cpos.line) = true := by rfl) :
    PE X (.Call (.Attribute o name apos) [] [] cpos) (tF X W (fMth g fo fNil)) :=
  PE.wk (pe_bm0 PySem.F.plainAttrs_list slot hty hm ho hbase hline) fun σ H Q ⟨w, ρ, S, s, en, h⟩ => by
    refine ⟨w, ρ, S, s, en, (End.bind (R := fun w H => Rp X.K X.mg w H) h).imp ?_ (fun _ _ _ z => z)⟩
    rintro x H1 ⟨w1, S1, d, e1, s1, r1, h1⟩
    split at h1
    · rename_i ys hy
      obtain ⟨a, vs, e2, t2, q2⟩ := seqL_at s1 r1 hy
      exact ⟨by rw [e2]; exact .inl ⟨rfl, vs, t2⟩, hv w1 S1 H1 x [] d [] Q _ s1 r1 RpL.nil h1⟩
    · exact h1.elim
end
end Kw
namespace Kw
open PySem PySem.Spec PyProof.Rows L2
abbrev FF := List D → Store → RE D
def spF [Wo] (K : PySem.W.Frag) (mg : Str → Option Value) (m : Nat) (f : FF) : Sp := fun vs H Q E => ∃ w S ds, Sto K mg w S H ∧ RpL K mg w H ds vs ∧ ds.length = m ∧ End K mg (fun w H => Rp K mg w H) w H (f ds S) Q E
/-- room, and nothing is being shown -/
structure RoomG (k : Nat) (A : Around) : Prop where
  rm : Room k A
  gd : A.guards = some []
theorem RoomG.down {k : Nat} {A : Around} (r : RoomG (k + 1) A) (env : Env) : RoomG k (A.deeper env) := ⟨r.rm.deeper env, r.gd⟩
/-- a def's promise where nothing is being shown -/
structure FnG (P : Program) (w : World) (K : PySem.W.Frag) (mg : Str → Option Value) (base : Heap) (k : Nat) (a : Addr) (fd : FuncData) (ps : List Str) (sp : Sp) : Prop where
  size : ∀ vs H Q E, sp vs H Q E → vs.length = ps.length
  runs : ∀ (A : Around) (stk : List Env) (s : Shared) (H : Hp) (ar : Args) (us : List Value) (vs : List V) (Q : VK) (E : XK), RoomG k A → Env0 P w K mg base A stk s H → BindsTo s fd ar (ps.zip us) → Vals vs us → sp vs H Q E →
    codeAny (model P w) A (.call (.ref a) ar) (CR (L2.CX P w) stk P w H s Q E) s
theorem FnG.weak {P : Program} {w : World} {K : PySem.W.Frag} {mg : Str → Option Value} {base : Heap} {k : Nat} {a : Addr} {fd : FuncData} {ps : List Str} {sp sp' : Sp} (F : FnG P w K mg base k a fd ps sp) (h : ∀ vs H Q E, sp' vs H Q E → sp vs H Q E) : FnG P w K mg base k a fd ps sp' :=
  ⟨fun vs H Q E q => F.size vs H Q E (h _ _ _ _ q), fun A stk s H ar us vs Q E hr e0 hb hv hs => F.runs A stk s H ar us vs Q E hr e0 hb hv (h _ _ _ _ hs)⟩
/-- the name x stands for a def that computes f -/
def Cal [Wo] (P : Program) (w : World) (K : PySem.W.Frag) (mg : Str → Option Value) (base : Heap) (k : Nat) (x : Str) (f : FF) : Prop :=
  ∃ a fd ps, FnG P w K mg base k a fd ps (spF K mg ps.length f) ∧ mg x = some (.ref a) ∧ PySem.W.keepIn K (.ref a) = true ∧ Binds K fd ps [] ∧ (∀ ds S, ds.length ≠ ps.length → f ds S = .no) ∧ ps = fd.params.args.map (·.arg) ∧ ∃ oc od osl, K.lookup a = some ⟨oc, od, .func fd, osl⟩
section
variable {X : Cx} {W : WX} {e : Expr} {es : List Expr} {fs : FA} {pos : Pos} {k : Nat} {x : Str} {f : FF} {p : Pos}
theorem run_g {a : Addr} {fd : FuncData} {ps : List Str} {sp : Sp} {pins : List (Addr × Obj)} {σ : L2.St} {H : Hp} {s : Shared} {Q : VK} {us : List Value} {vs : List V} (F : FnG X.prog X.w X.K X.mg X.base k a fd ps sp) (hr : RoomG k X.A) (tk : Takes X W)
    (I : Inv X pins σ H s) (r : Vals vs us) (hbd : BindsTo s fd ⟨us, []⟩ (ps.zip us)) (h : sp vs H Q (WE W σ)) : wpAny (model X.prog X.w) X.A (call (.ref a) us) (EP X pins σ Q) X.xe s :=
  wpAny_call (codeAny_mono (F.runs X.A X.stack s H ⟨us, []⟩ us vs Q (WE W σ) hr I.env0 hbd r h) fun res s' hq => by
    match res, hq with
    | .error e, hq => exact passAt tk σ pins H s e s' I hq
    | .ok (.ret u), hq => exact I.after hq
    | .ok .next, hq => exact hq.elim
    | .ok .brk, hq => exact hq.elim
    | .ok .cont, hq => exact hq.elim)
theorem binds0 {K : PySem.W.Frag} {fd : FuncData} {ps : List Str} (hb : Binds K fd ps []) {s : Shared} {us : List Value} (kin : K.In s.heap) (hl : us.length = ps.length) : BindsTo s fd ⟨us, []⟩ (ps.zip us) := by
  have z := hb s us kin (by simpa using hl)
  simpa using z
theorem q_call [Wo] (C : Cal X.prog X.w X.K X.mg X.base k x f) (hr : RoomG k X.A) (tk : Takes X W) (hg : Gl X x) (ha : PA X (e :: es) (tA X W fs)) (hdb : (x == ("__debug__" : Str)) = false := by decide)
    (he : starEach (e :: es) X.env = (false, eval e X.env) :: starEach es X.env := by rfl) (hpl : (backTo pos (starEach es X.env)).any (·.1) = false := by rfl) : PE X (.Call (.Name x p) (e :: es) [] pos) (tF X W (fArg f fs)) := by
  obtain ⟨a, fd, ps, F, hm, hk, hb, ar, _⟩ := C
  refine ⟨fun pins s σ H Q I ⟨w, ρ, S, s0, en, h⟩ => wpAny_Call_Name_kw (ld_glob I hg hm ?_ hdb)⟩
  refine PySem.W.callWith_K (h₀ := X.base) I.ok.mod.kin hk (thn (ha.run pos pins s σ H (fun vs H1 => spF X.K X.mg ps.length f vs H1 Q (WE W σ)) I
    ⟨w, ρ, S, s0, en, (End.bind (R := fun w H => RpL X.K X.mg w H) h).imp ?_ (fun _ _ _ z => z)⟩) fun us s1 ⟨vs, H1, I1, r, q⟩ => ⟨I1.kIn, run_g (us := us) F hr tk I1 r (binds0 (us := us) hb I1.kIn (by rw [← r.length]; exact F.size _ _ _ _ q)) q⟩) he hpl
  rintro vs H1 ⟨w1, S1, ds, e1, s1, r1, h1⟩
  refine ⟨w1, S1, ds, s1, r1, ?_, h1⟩
  apply Classical.byContradiction
  intro hn
  rw [ar ds S1 hn] at h1
  exact h1
end
inductive RS where
  | nx (ρ : FEnv) (S : Store) | rt (d : D) (S : Store) | bk (ρ : FEnv) (S : Store) | ct (ρ : FEnv) (S : Store) | ex (x : Ex) (ρ : FEnv) (S : Store) | no
abbrev FS := FEnv → Store → RS
def RE.toS {α : Type} (m : RE α) (ρ : FEnv) (k : α → Store → RS) : RS := match m with
  | .ok a S => k a S
  | .ex x S => .ex x ρ S
  | .no => .no
def RS.bnd (m : RS) (k : FS) : RS := match m with
  | .nx ρ S => k ρ S
  | r => r
def EndS [Wo] (K : PySem.W.Frag) (mg : Str → Option Value) (w : Wd) (H : Hp) (r : RS) (D : Ends) (W : WX) : Prop := match r with
  | .nx ρ S => ∀ w' H' σ', Ext w H w' H' → Sto K mg w' S H' → EnvR K mg w' H' ρ σ' → D.nx σ' H'
  | .rt d S => ∀ w' H' v, Ext w H w' H' → Sto K mg w' S H' → Rp K mg w' H' d v → D.rt v H'
  | .bk ρ S => ∀ w' H' σ', Ext w H w' H' → Sto K mg w' S H' → EnvR K mg w' H' ρ σ' → D.bk σ' H'
  | .ct ρ S => ∀ w' H' σ', Ext w H w' H' → Sto K mg w' S H' → EnvR K mg w' H' ρ σ' → D.ct σ' H'
  | .ex x ρ S => ∀ w' H' σ' c od, Ext w H w' H' → Sto K mg w' S H' → EnvR K mg w' H' ρ σ' → ExR K mg w' H' x c od → W c od σ' H'
  | .no => False
def tS [Wo] (X : Cx) (W : WX) (f : FS) : TS := fun D σ H => ∃ w ρ S, Sto X.K X.mg w S H ∧ EnvR X.K X.mg w H ρ σ ∧ EndS X.K X.mg w H (f ρ S) D W
section
variable {K : PySem.W.Frag} {mg : Str → Option Value} {w w1 : Wd} {H H1 : Hp} {r : RS} {D D' : Ends} {W W' : WX} {ρ : FEnv} {σ : L2.St} {S : Store}
theorem EndS.on [Wo] (x : Ext w H w1 H1) (h : EndS K mg w H r D W) : EndS K mg w1 H1 r D W := by
  unfold EndS at h ⊢
  split
  · exact fun w' H' b e s k => h w' H' b (x.trans e) s k
  · exact fun w' H' b e s k => h w' H' b (x.trans e) s k
  · exact fun w' H' b e s k => h w' H' b (x.trans e) s k
  · exact fun w' H' b e s k => h w' H' b (x.trans e) s k
  · exact fun w' H' b c od e s k l => h w' H' b c od (x.trans e) s k l
  · exact h
theorem EndS.imp [Wo] (h : EndS K mg w H r D W) (h1 : ∀ σ H, D.nx σ H → D'.nx σ H) (h2 : ∀ v H, D.rt v H → D'.rt v H) (h3 : ∀ σ H, D.bk σ H → D'.bk σ H) (h4 : ∀ σ H, D.ct σ H → D'.ct σ H) (h5 : ∀ c od σ H, W c od σ H → W' c od σ H) : EndS K mg w H r D' W' := by
  unfold EndS at h ⊢
  split
  · exact fun w' H' b e s k => h1 _ _ (h w' H' b e s k)
  · exact fun w' H' b e s k => h2 _ _ (h w' H' b e s k)
  · exact fun w' H' b e s k => h3 _ _ (h w' H' b e s k)
  · exact fun w' H' b e s k => h4 _ _ (h w' H' b e s k)
  · exact fun w' H' b c od e s k l => h5 _ _ _ _ (h w' H' b c od e s k l)
  · exact h
theorem EndS.of [Wo] {α β : Type} {R : Wd → Hp → α → β → Prop} {m : RE α} {k : α → Store → RS} (h : EndS K mg w H (m.toS ρ k) D W) (en : EnvR K mg w H ρ σ) :
    End K mg R w H m (fun b H1 => ∃ w1 S1 a, Ext w H w1 H1 ∧ Sto K mg w1 S1 H1 ∧ R w1 H1 a b ∧ EndS K mg w1 H1 (k a S1) D W) (fun c od H' => W c od σ H') := by
  cases m with
  | ok a S1 =>
    have h' : EndS K mg w H (k a S1) D W := h
    exact fun w' H' b e s kk => ⟨w', S1, a, e, s, kk, h'.on e⟩
  | ex x S1 => exact fun w' H' c od e s kk => h w' H' σ c od e s (en.ext e) kk
  | no => exact h
theorem EndS.bind [Wo] {k : FS} (h : EndS K mg w H (r.bnd k) D W) : EndS K mg w H r { D with nx := fun σ H1 => ∃ w1 ρ1 S1, Sto K mg w1 S1 H1 ∧ EnvR K mg w1 H1 ρ1 σ ∧ EndS K mg w1 H1 (k ρ1 S1) D W } W := by
  cases r with
  | nx ρ1 S1 =>
    have h' : EndS K mg w H (k ρ1 S1) D W := h
    exact fun w' H' b e s kk => ⟨w', ρ1, S1, s, kk, h'.on e⟩
  | _ => exact h
theorem EnvR.set {i : Nat} {d : Kw.D} {v : V} (en : EnvR K mg w H ρ σ) (r : Rp K mg w H d v) : EnvR K mg w H (ρ.set i (some d)) (σ.set i (some v)) := by
  refine ⟨by rw [List.length_set, List.length_set]; exact en.len, fun j d' h => ?_⟩
  by_cases e : j = i
  · subst e
    have hj : j < ρ.length := by
      have := (List.getElem?_eq_some_iff.mp h).1
      rwa [List.length_set] at this
    rw [List.getElem?_set_self hj] at h
    cases h
    exact ⟨v, by rw [List.getElem?_set_self (en.len ▸ hj)], r⟩
  · rw [List.getElem?_set_ne (Ne.symm e)] at h
    obtain ⟨u, h1, h2⟩ := en.at_ j d' h
    exact ⟨u, by rw [List.getElem?_set_ne (Ne.symm e)]; exact h1, h2⟩
theorem EnvR.wipe1 {i : Nat} (en : EnvR K mg w H ρ σ) : EnvR K mg w H (ρ.set i none) (σ.set i none) := by
  refine ⟨by rw [List.length_set, List.length_set]; exact en.len, fun j d' h => ?_⟩
  by_cases e : j = i
  · subst e
    have hj : j < ρ.length := by
      have := (List.getElem?_eq_some_iff.mp h).1
      rwa [List.length_set] at this
    rw [List.getElem?_set_self hj] at h
    cases h
  · rw [List.getElem?_set_ne (Ne.symm e)] at h
    obtain ⟨u, h1, h2⟩ := en.at_ j d' h
    exact ⟨u, by rw [List.getElem?_set_ne (Ne.symm e)]; exact h1, h2⟩
theorem EndS.nx' [Wo] {ρ' : FEnv} {σ' : L2.St} (h : EndS K mg w H (.nx ρ' S) D W) (s : Sto K mg w S H) (en : EnvR K mg w H ρ' σ') : D.nx σ' H := h w H σ' Ext.refl s en
theorem EndS.rt' [Wo] {d : Kw.D} {v : V} (h : EndS K mg w H (.rt d S) D W) (s : Sto K mg w S H) (r : Rp K mg w H d v) : D.rt v H := h w H v Ext.refl s r
end
def sNil : FS := fun ρ S => .nx ρ S
def sSeq (f g : FS) : FS := fun ρ S => (f ρ S).bnd g
def sExp (f : FE) : FS := fun ρ S => (f ρ S).toS ρ fun _ S1 => .nx ρ S1
def sRet (f : FE) : FS := fun ρ S => (f ρ S).toS ρ fun d S1 => .rt d S1
def sRetN : FS := fun _ S => .rt .non S
def sSet (i : Nat) (f : FE) : FS := fun ρ S => (f ρ S).toS ρ fun d S1 => .nx (ρ.set i (some d)) S1
def sIf (c : FT) (a b : FS) : FS := fun ρ S => (c ρ S).toS ρ fun k S1 => match k with
  | true => a ρ S1
  | false => b ρ S1
section
variable {X : Cx} {W : WX} {st : Stmt} {rest : List Stmt} {f g : FS} {e : Expr} {fe : FE} {pos : Pos}
theorem q_snil [Wo] : PSs X [] (tS X W sNil) := PSs.wk pss_nil fun D σ H ⟨w, ρ, S, s, en, h⟩ => h.nx' s en
theorem q_seq [Wo] (h1 : PS X st (tS X W f)) (h2 : PSs X rest (tS X W g)) : PSs X (st :: rest) (tS X W (sSeq f g)) :=
  PSs.wk (pss_cons h1 h2) fun D σ H ⟨w, ρ, S, s, en, h⟩ => ⟨w, ρ, S, s, en, h.bind⟩
theorem q_last [Wo] (h1 : PS X st (tS X W f)) : PSs X [st] (tS X W f) := pss_one h1
theorem q_expr [Wo] (he : PE X e (tF X W fe)) (hs : swapsWith e none pos.line X.env = pure false := by rfl) : PS X (.Expr e pos) (tS X W (sExp fe)) :=
  PS.wk (ps_expr he hs) fun D σ H ⟨w, ρ, S, s, en, h⟩ => ⟨w, ρ, S, s, en, (h.of (R := fun w H => Rp X.K X.mg w H) en).imp (fun v H1 ⟨w1, S1, d, e1, s1, r1, h1⟩ => h1.nx' s1 (en.ext e1)) (fun _ _ _ z => z)⟩
theorem q_ret [Wo] (he : PE X e (tF X W fe)) : PS X (.Return (some e) pos) (tS X W (sRet fe)) :=
  PS.wk (ps_ret he) fun D σ H ⟨w, ρ, S, s, en, h⟩ => ⟨w, ρ, S, s, en, (h.of (R := fun w H => Rp X.K X.mg w H) en).imp (fun v H1 ⟨w1, S1, d, e1, s1, r1, h1⟩ => h1.rt' s1 r1) (fun _ _ _ z => z)⟩
theorem q_set [Wo] {i : Nat} {x : Str} {pos' : Pos} (hN : X.N.Nodup) (hi : X.N[i]? = some x) (hx : Loc X.env.scope x) (he : PE X e (tF X W fe)) (hs : swapsWith e (some (.Name x pos')) pos.line X.env = pure false := by rfl) (hf : X.fn x = true ∨ X.env.scope.names.lookup x = some .local := by first | exact .inl rfl | exact .inr rfl | assumption) :
    PS X (.Assign [.Name x pos'] e pos) (tS X W (sSet i fe)) :=
  PS.wk (ps_set hN hi hx he hs hf) fun D σ H ⟨w, ρ, S, s, en, h⟩ => ⟨w, ρ, S, s, en, (h.of (R := fun w H => Rp X.K X.mg w H) en).imp (fun v H1 ⟨w1, S1, d, e1, s1, r1, h1⟩ => h1.nx' s1 ((en.ext e1).set r1)) (fun _ _ _ z => z)⟩
theorem q_ifS [Wo] {c : Expr} {a b : List Stmt} {tc : FT} (hc : PT X c (tT X W tc)) (ha : PSs X a (tS X W f)) (hb : PSs X b (tS X W g)) : PS X (.If c a b pos) (tS X W (sIf tc f g)) :=
  PS.wk (ps_if hc ha hb) fun D σ H ⟨w, ρ, S, s, en, h⟩ => ⟨w, ρ, S, s, en, (h.of (R := fun _ _ (a b : Bool) => b = a) en).imp (fun v H1 ⟨w1, S1, d, e1, s1, r1, h1⟩ => by
    cases r1
    cases v with
    | true => rw [if_pos rfl]; exact ⟨w1, ρ, S1, s1, en.ext e1, h1⟩
    | false => rw [if_neg (by decide)]; exact ⟨w1, ρ, S1, s1, en.ext e1, h1⟩) (fun _ _ _ z => z)⟩
end
/-- name op= e: two whole numbers -/
def sAug (i : Nat) (g : D → D → Store → RE D) (f : FE) : FS := fun ρ S => match ρ[i]? with
  | some (some x) => (f ρ S).toS ρ fun y S1 => (g x y S1).toS ρ fun z S2 => .nx (ρ.set i (some z)) S2
  | _ => .no
def gIAdd (x y : D) (S : Store) : RE D := match x, y with
  | .int i, .int j => .ok (.int (i + j)) S
  | _, _ => .no
mutual
/-- no cell from n on is in it -/
def D.under (n : Nat) : D → Bool
  | .tup ds => underL n ds
  | .lst ds => underL n ds
  | .fls ds => underL n ds
  | .dic _ ds => underL n ds
  | .ins _ _ ds => underL n ds
  | .exo _ _ ds => underL n ds
  | .loc m => decide (m < n)
  | _ => true
def underL (n : Nat) : List D → Bool
  | [] => true
  | d :: ds => D.under n d && underL n ds
end
def Cell.under (n : Nat) : Cell → Bool
  | .lst ds => underL n ds
  | .frz ds => underL n ds
  | .dead => true
  | .tab _ => true
  | .sys => true
  | .gst ρ _ => ρ.all fun o => match o with
    | some d => d.under n
    | none => true
  | .ob _ _ ds => underL n ds
  | .dct _ ds => underL n ds
mutual
theorem keyOf_under {n : Nat} : ∀ (d : D) {k : NestedKey}, keyOf d = some k → D.under n d = true
  | .non, _, _ => rfl
  | .bl _, _, h => by simp [keyOf] at h
  | .int _, _, _ => rfl
  | .str _, _, _ => rfl
  | .tup ds, k, h => by
    simp only [keyOf, Option.map_eq_some_iff] at h
    obtain ⟨ks, h1, _⟩ := h
    simpa [D.under] using keysOf_under ds h1
  | .lst _, _, h => by simp [keyOf] at h
  | .dic _ _, _, h => by simp [keyOf] at h
  | .ins _ _ _, _, h => by simp [keyOf] at h
  | .loc _, _, h => by simp [keyOf] at h
  | .glo _, _, _ => rfl
  | .fls _, _, h => by simp [keyOf] at h
  | .exn _, _, _ => rfl
  | .exo _ _ _, _, h => by simp [keyOf] at h
  | .lam _ _ _, _, _ => rfl
theorem keysOf_under {n : Nat} : ∀ (ds : List D) {ks : List NestedKey}, keysOf ds = some ks → underL n ds = true
  | [], _, _ => rfl
  | d :: ds, ks, h => by
    simp only [keysOf] at h
    split at h
    · rename_i k r h1 h2
      simp [underL, keyOf_under d h1, keysOf_under ds h2]
    · cases h
end
/-- the cells ahead of S's end are as they were, or have nothing that was made since -/
def CutOk (S S' : Store) : Prop := S.length ≤ S'.length ∧ ∀ (i : Nat) c, i < S.length → S'[i]? = some c → S[i]? = some c ∨ c.under S.length = true
open Classical in
noncomputable def cutR (S : Store) (r : RE D) : RE D := match r with
  | .ok d S' => if d.under S.length = true ∧ CutOk S S' then .ok d (S'.take S.length) else .no
  | .ex x S' => if underL S.length x.ds = true ∧ CutOk S S' then .ex x (S'.take S.length) else .no
  | .no => .no
def RS.fin (r : RS) : RE D := match r with
  | .nx _ S => .ok .non S
  | .rt d S => .ok d S
  | .ex x _ S => .ex x S
  | _ => .no
/-- a def with m parameters, n names -/
def fnB (m n : Nat) (b : FS) : FF := fun ds S => if ds.length = m then (b (ds.map some ++ List.replicate (n - m) none) S).fin else .no
/-- .. that throws its cells away -/
noncomputable def fnC (m n : Nat) (b : FS) : FF := fun ds S => cutR S (fnB m n b ds S)
section
variable {K : PySem.W.Frag} {mg : Str → Option Value} {w : Wd} {H : Hp} {S S' : Store}
theorem getElem?_of_take {α : Type} {l : List α} {n m : Nat} {x : α} (h : (l.take n)[m]? = some x) : l[m]? = some x ∧ m < n := by
  by_cases e : m < n
  · rw [List.getElem?_take_of_lt e] at h; exact ⟨h, e⟩
  · rw [List.getElem?_eq_none (by rw [List.length_take]; omega)] at h; exact (nomatch h)
def Wd.cut (w : Wd) (n : Nat) : Wd := ⟨w.φ.take n, w.hd⟩
theorem Wd.off_cut {n : Nat} {a : Addr} (h : w.Off a) : (w.cut n).Off a := ⟨fun z => h.1 (List.mem_of_mem_take z), h.2⟩
theorem Tp.cut {n : Nat} {a : Addr} {xs : List V} (h : Tp K w H a xs) : Tp K (w.cut n) H a xs := by
  rcases h with ⟨h, k⟩ | h
  · exact .inl ⟨h, Wd.off_cut k⟩
  · exact .inr h
theorem Fp.cut {n : Nat} {a : Addr} {xs : List V} (h : Fp K w H a xs) : Fp K (w.cut n) H a xs := by
  rcases h with ⟨o, h, k⟩ | h
  · exact .inl ⟨o, h, Wd.off_cut k⟩
  · exact .inr h
mutual
theorem Rp.cut {n : Nat} (hn : n ≤ w.φ.length) : ∀ (d : D) (v : V), d.under n = true → Rp K mg w H d v → Rp K mg (w.cut n) H d v
  | .non, _, _, h => by unfold Rp at h ⊢; exact h
  | .bl _, _, _, h => by unfold Rp at h ⊢; exact h
  | .int _, _, _, h => by unfold Rp at h ⊢; exact h
  | .str _, _, _, h => by unfold Rp at h ⊢; exact h
  | .tup ds, v, b, h => by
    unfold Rp at h ⊢
    obtain ⟨a, xs, e1, t, r⟩ := h
    exact ⟨a, xs, e1, t.cut, RpL.cutW hn ds xs (by simpa [D.under] using b) r⟩
  | .lst ds, v, b, h => by
    unfold Rp at h ⊢
    obtain ⟨a, xs, e1, t, o, r⟩ := h
    exact ⟨a, xs, e1, t, Wd.off_cut o, RpL.cutW hn ds xs (by simpa [D.under] using b) r⟩
  | .dic ks ds, v, b, h => by
    unfold Rp at h ⊢
    obtain ⟨a, vs, e1, t, o, l, r⟩ := h
    exact ⟨a, vs, e1, t, Wd.off_cut o, l, RpL.cutW hn ds vs (by simpa [D.under] using b) r⟩
  | .ins c fs ds, v, b, h => by
    unfold Rp at h ⊢
    obtain ⟨a, C, dx, vs, e1, m, t, o, l, r⟩ := h
    exact ⟨a, C, dx, vs, e1, m, t, Wd.off_cut o, l, RpL.cutW hn ds vs (by simpa [D.under] using b) r⟩
  | .loc m, v, b, h => by
    have hm : m < n := by simpa [D.under] using b
    unfold Rp at h ⊢
    refine ⟨?_, fun a q => h.2 a ?_⟩
    · show m < (w.φ.take n).length
      rw [List.length_take]; omega
    · have q' : (w.φ.take n)[m]? = some (some a) := q
      exact (getElem?_of_take q').1
  | .glo _, _, _, h => by unfold Rp at h ⊢; exact h
  | .exn _, _, _, h => by unfold Rp at h ⊢; exact h
  | .lam i q ob, v, b, h => by
    unfold Rp at h ⊢
    obtain ⟨f, c', pm, ctv, e1, t, o, t2, o2⟩ := h
    exact ⟨f, c', pm, ctv, e1, t, Wd.off_cut o, t2, Wd.off_cut o2⟩
  | .exo c ns ds, v, b, h => by
    unfold Rp at h ⊢
    obtain ⟨a, C, od, vs, e1, m, t, o, z, q, l, r⟩ := h
    exact ⟨a, C, od, vs, e1, m, t, Wd.off_cut o, z, fun d hd => ⟨(q d hd).1, Wd.off_cut (q d hd).2⟩, l, RpL.cutW hn ds vs (by simpa [D.under] using b) r⟩
  | .fls ds, v, b, h => by
    unfold Rp at h ⊢
    obtain ⟨a, xs, e1, t, r⟩ := h
    exact ⟨a, xs, e1, t.cut, RpL.cutW hn ds xs (by simpa [D.under] using b) r⟩
theorem RpL.cutW {n : Nat} (hn : n ≤ w.φ.length) : ∀ (ds : List D) (vs : List V), underL n ds = true → RpL K mg w H ds vs → RpL K mg (w.cut n) H ds vs
  | [], _, _, h => by unfold RpL at h ⊢; exact h
  | d :: ds, vs, b, h => by
    have b' : d.under n = true ∧ underL n ds = true := by simpa [underL] using b
    unfold RpL at h ⊢
    obtain ⟨v, r, e1, h1, h2⟩ := h
    exact ⟨v, r, e1, Rp.cut hn d v b'.1 h1, RpL.cutW hn ds r b'.2 h2⟩
end
mutual
theorem Rp.isUnder : ∀ (d : D) (v : V), Rp K mg w H d v → d.under w.φ.length = true
  | .non, _, h => rfl
  | .bl _, _, h => rfl
  | .int _, _, h => rfl
  | .str _, _, h => rfl
  | .tup ds, v, h => by
    unfold Rp at h
    obtain ⟨a, xs, e1, t, r⟩ := h
    simpa [D.under] using RpL.isUnder ds xs r
  | .lst ds, v, h => by
    unfold Rp at h
    obtain ⟨a, xs, e1, t, o, r⟩ := h
    simpa [D.under] using RpL.isUnder ds xs r
  | .dic ks ds, v, h => by
    unfold Rp at h
    obtain ⟨a, vs, e1, t, o, l, r⟩ := h
    simpa [D.under] using RpL.isUnder ds vs r
  | .ins c fs ds, v, h => by
    unfold Rp at h
    obtain ⟨a, C, dx, vs, e1, m, t, o, l, r⟩ := h
    simpa [D.under] using RpL.isUnder ds vs r
  | .loc m, v, h => by
    unfold Rp at h
    simpa [D.under] using h.1
  | .glo _, _, h => rfl
  | .exn _, _, h => rfl
  | .lam _ _ _, _, h => rfl
  | .exo c ns ds, v, h => by
    unfold Rp at h
    obtain ⟨a, C, od, vs, e1, m, t, o, z, q, l, r⟩ := h
    simpa [D.under] using RpL.isUnder ds vs r
  | .fls ds, v, h => by
    unfold Rp at h
    obtain ⟨a, xs, e1, t, r⟩ := h
    simpa [D.under] using RpL.isUnder ds xs r
theorem RpL.isUnder : ∀ (ds : List D) (vs : List V), RpL K mg w H ds vs → underL w.φ.length ds = true
  | [], _, h => rfl
  | d :: ds, vs, h => by
    unfold RpL at h
    obtain ⟨v, r, e1, h1, h2⟩ := h
    simp [underL, Rp.isUnder d v h1, RpL.isUnder ds r h2]
end
theorem CellR.isUnder [Wo] {c : Cell} {n : Nat} (h : CellR K mg w H c n) : c.under w.φ.length = true := by
  unfold CellR at h
  split at h
  · obtain ⟨_, _, _, _, h⟩ := h; exact RpL.isUnder _ _ h
  · obtain ⟨_, _, _, _, _, h⟩ := h; exact RpL.isUnder _ _ h
  · rfl
  · rfl
  · rfl
  · rename_i ρ σ
    show (ρ.all fun o => match o with
      | some d => D.under w.φ.length d
      | none => true) = true
    rw [List.all_eq_true]
    intro o ho
    cases o with
    | none => rfl
    | some d =>
      obtain ⟨i, hi, e⟩ := List.mem_iff_getElem.mp ho
      obtain ⟨v, _, r⟩ := h.2.at_ i d (by rw [List.getElem?_eq_getElem hi, e])
      exact Rp.isUnder _ _ r
  · obtain ⟨_, _, _, _, _, _, _, _, h⟩ := h; exact RpL.isUnder _ _ h
  · obtain ⟨_, _, _, _, _, _, _, h⟩ := h; exact RpL.isUnder _ _ h
theorem CellR.cut [Wo] {c : Cell} {m n : Nat} (hn : n ≤ w.φ.length) (hm : m < n) (b : c.under n = true) (h : CellR K mg w H c m) : CellR K mg (w.cut n) H c m := by
  have g : (w.cut n).φ[m]? = w.φ[m]? := by
    show (w.φ.take n)[m]? = _
    rw [List.getElem?_take, if_pos hm]
  unfold CellR at h ⊢
  split at h
  · obtain ⟨a, xs, h1, h2, h3⟩ := h; exact ⟨a, xs, by rw [g]; exact h1, h2, RpL.cutW hn _ _ (by simpa [Cell.under] using b) h3⟩
  · obtain ⟨a, xs, o, h1, h2, h3⟩ := h; exact ⟨a, xs, o, by rw [g]; exact h1, h2, RpL.cutW hn _ _ (by simpa [Cell.under] using b) h3⟩
  · show _ = _; rw [g]; exact h
  · obtain ⟨c0, P, ht, h1, ps, h2, h3, h4⟩ := h
    refine ⟨c0, P, ht, by rw [g]; exact h1, ps, h2, h3, fun pos cv hc => ?_⟩
    obtain ⟨c, e1, e2, e3⟩ := h4 pos cv hc
    exact ⟨c, e1, e2, fun z => e3.1 (List.mem_of_mem_take z), e3.2⟩
  · exact ⟨by rw [g]; exact h.1, h.2.1, fun z => h.2.2.1 (List.mem_of_mem_take z), h.2.2.2⟩
  · refine ⟨by rw [g]; exact h.1, h.2.len, fun i d q => ?_⟩
    obtain ⟨v, h1, h2⟩ := h.2.at_ i d q
    have b' := List.all_eq_true.mp b (some d) (List.mem_of_getElem? q)
    exact ⟨v, h1, Rp.cut hn _ _ b' h2⟩
  · obtain ⟨a, C, dx, vs, h1, h2, h3, h4, h5⟩ := h; exact ⟨a, C, dx, vs, by rw [g]; exact h1, h2, h3, h4, RpL.cutW hn _ _ (by simpa [Cell.under] using b) h5⟩
  · obtain ⟨a, es, h1, h2, h3, h4, h5, h6⟩ := h
    exact ⟨a, es, by rw [g]; exact h1, h2, h3, h4, fun x hx => ⟨(h5 x hx).1, let ⟨d, q1, q2⟩ := (h5 x hx).2; ⟨d, q1, Rp.cut hn _ _ (keyOf_under d q1) q2⟩⟩, RpL.cutW hn _ _ (by simpa [Cell.under] using b) h6⟩
theorem Sto.cut [Wo] {w0 : Wd} {H0 : Hp} (s0 : Sto K mg w0 S H0) (s : Sto K mg w S' H) (h : CutOk S S') : Sto K mg (w.cut S.length) (S'.take S.length) H := by
  have hl : S.length ≤ w.φ.length := by rw [s.len]; exact h.1
  refine ⟨by show (w.φ.take _).length = _; rw [List.length_take, List.length_take, s.len], fun m n a h1 h2 => ?_, fun a ha => ⟨(s.ap a ha).1, fun z => (s.ap a ha).2 (List.mem_of_mem_take z)⟩, fun n c hc => ?_⟩
  · have k : ∀ m : Nat, (w.φ.take S.length)[m]? = some (some a) → w.φ[m]? = some (some a) := fun m q => by
      rw [List.getElem?_take] at q
      split at q
      · exact q
      · cases q
    exact s.nd m n a (k m h1) (k n h2)
  · rw [List.getElem?_take] at hc
    split at hc
    · rename_i hn
      have c0 := s.cell n c hc
      refine CellR.cut hl hn ?_ c0
      rcases h.2 n c hn hc with z | z
      · have := (s0.cell n c z).isUnder
        rw [s0.len] at this; exact this
      · exact z
    · cases hc
theorem Ext.cut {w0 : Wd} {H0 : Hp} (e : Ext w0 H0 w H) : Ext w0 H0 (w.cut w0.φ.length) H where
  fr := e.fr
  ln := by show _ ≤ (w.φ.take _).length; rw [List.length_take]; have := e.ln; omega
  ph := fun n a h l => by
    have q : (w.φ.take w0.φ.length)[n]? = some (some a) := h
    exact e.ph n a (getElem?_of_take q).1 l
  nw := fun a h => e.nw a (List.mem_of_mem_take h)
  hd := e.hd
theorem ExR.cutX {n : Nat} {x : Ex} {c : Value} {od : Option Addr} (hn : n ≤ w.φ.length) (b : underL n x.ds = true) (h : ExR K mg w H x c od) : ExR K mg (w.cut n) H x c od := by
  obtain ⟨h1, h2⟩ := h
  refine ⟨h1, ?_⟩
  rcases h2 with h2 | ⟨d, vs, a0, a1, a2, a3, a4, a5⟩
  · exact .inl h2
  · exact .inr ⟨d, vs, a0, a1, a2, Wd.off_cut a3, a4, RpL.cutW hn _ _ b a5⟩
/-- the cells that were made since are thrown away -/
theorem End.cutE [Wo] {Q : VK} {E : Value → Option Addr → Hp → Prop} {r : RE D} (s : Sto K mg w S H) (h : End K mg (fun w H => Rp K mg w H) w H (cutR S r) Q E) : End K mg (fun w H => Rp K mg w H) w H r Q E := by
  cases r with
  | ok d S' =>
    have h' : End K mg (fun w H => Rp K mg w H) w H (cutR S (.ok d S')) Q E := h
    unfold cutR at h'
    simp only at h'
    split at h'
    · rename_i hc
      intro w1 H1 v e s1 r1
      have hl : S.length ≤ w1.φ.length := by rw [s1.len]; exact hc.2.1
      refine h' (w1.cut S.length) H1 v (s.len ▸ e.cut) (Sto.cut s s1 hc.2) (Rp.cut hl d v hc.1 r1)
    · exact h'.elim
  | ex x S' =>
    have h' : End K mg (fun w H => Rp K mg w H) w H (cutR S (.ex x S')) Q E := h
    unfold cutR at h'
    simp only at h'
    split at h'
    · rename_i hc
      intro w1 H1 c od e s1 r1
      have hl : S.length ≤ w1.φ.length := by rw [s1.len]; exact hc.2.1
      refine h' (w1.cut S.length) H1 c od (s.len ▸ e.cut) (Sto.cut s s1 hc.2) (ExR.cutX hl hc.1 r1)
    · exact h'.elim
  | no => exact h
end
theorem envStart {K : PySem.W.Frag} {mg : Str → Option Value} {w : Wd} {H : Hp} {ds : List D} {vs : List V} {N : List Str} (r : RpL K mg w H ds vs) : EnvR K mg w H (ds.map some ++ List.replicate (N.length - ds.length) none) (L2.start N vs) := by
  unfold L2.start
  refine ⟨by simp [r.length], fun i d h => ?_⟩
  by_cases hi : i < ds.length
  · rw [List.getElem?_append_left (by rw [List.length_map]; exact hi), List.getElem?_map] at h
    cases e : ds[i]? with
    | none => rw [e] at h; cases h
    | some d' =>
      rw [e] at h
      have ed : d' = d := by simpa using h
      subst ed
      obtain ⟨v, h1, h2⟩ := r.get e
      refine ⟨v, ?_, h2⟩
      rw [List.getElem?_append_left (by rw [List.length_map, ← r.length]; exact hi), List.getElem?_map, h1]
      rfl
  · rw [List.getElem?_append_right (by rw [List.length_map]; omega)] at h
    have := List.mem_of_getElem? h
    have := List.eq_of_mem_replicate this
    cases this
section
variable {P : Program} {w : World} {K : PySem.W.Frag} {mg : Str → Option Value} {base : Heap}
/-- a def by its body -/
theorem fn_g {x qual : Str} {st : Stmt} {f : Addr} {fd : FuncData} {N ps : List Str} {k : Nat} {sp : Sp} (F : Fun K x qual st f fd) (S : FnScope N ps (defScope st)) (size : ∀ vs H Q E, sp vs H Q E → vs.length = ps.length)
    (hb : ∀ (cdv : Value) (A : Around) (stk : List Env) (s : Shared) (H : Hp) (vs : List V) (Q : VK) (E : XK), RoomG k (A.deeper (envOfC qual (defScope st) s.heap.objs.size f cdv)) → sp vs H Q E →
      ∃ t, PSs (cxOf (L2.CX P w) P w K mg base N qual (defScope st) f cdv A stk s H E) (defBody st) t ∧ t { nx := fun _ H' => Q .non H', rt := Q } (L2.start N vs) H) : FnG P w K mg base (k + 1) f fd ps sp := by
  obtain ⟨oc, od, kV, doc, pm, an, cdv, ct, osl, rfl, lk, hcd⟩ := F.ex
  refine ⟨size, fun A stk s H ar us vs Q E hr e0 hbd hv hsp => ?_⟩
  have up : ∀ b o, base.get? b = some o → s.heap.get? b = some o := fun b o z => (e0.bs b o z).1
  have KX : K.In s.heap := e0.mod.kin.keeps up
  refine codeAny_call_function hr.rm.depth (KX _ _ lk) rfl S.co S.gen rfl (PySem.W.codeRec_of KX hcd) (hbd _ _ _ _ (wpAny_newFunctionEnv_cells S.kind (fun ⟨n, v⟩ hn => ?par) fun env he s1 x => ?run))
  case par =>
    have hn' := S.par n (List.of_mem_zip hn).1
    exact hn'.imp id fun z => ⟨z, PySem.W.cellsFrom_some _ _ _ (.inl z)⟩
  case run =>
    subst he
    obtain ⟨t, ht, hq⟩ := hb cdv A stk s H vs Q E (hr.down _) hsp
    have I0 := inv_start (CX := L2.CX P w) (E := E) S hr.rm.hd e0 (size _ _ _ _ hsp) hv x
    refine ⟨(e0.mod.nolimit.keeps up).keeps x.toInCall.keep, codeAny_func (wpAny_mono (ht.run [] s1 (L2.start N vs) H _ I0 hq) (fun fl s' hs => ?_) fun e s' hs => hs)⟩
    match fl, hs with
    | .ret u, ⟨v, σ', H', J, rv, q⟩ => exact ⟨v, H', J.os, J.bare, J.base, J.hok, rv, q⟩
    | .next, ⟨σ', H', J, q⟩ => exact ⟨.non, H', J.os, J.bare, J.base, J.hok, rfl, q⟩
    | .brk, ⟨_, _, _, q⟩ => exact q.elim
    | .cont, ⟨_, _, _, q⟩ => exact q.elim
theorem fn_ok [Wo] {x qual : Str} {st : Stmt} {f : Addr} {fd : FuncData} {N ps : List Str} {k : Nat} {b : FS} (F : Fun K x qual st f fd) (S : FnScope N ps (defScope st))
    (hb : ∀ (cdv : Value) (A : Around) (outer : List Env) (s : Shared) (H : Hp) (E : XK), RoomG k (A.deeper (envOfC qual (defScope st) s.heap.objs.size f cdv)) →
      PSs (cxOf (L2.CX P w) P w K mg base N qual (defScope st) f cdv A outer s H E) (defBody st) (tS (cxOf (L2.CX P w) P w K mg base N qual (defScope st) f cdv A outer s H E) (fun c d _ H => E c d H) b)) :
    FnG P w K mg base (k + 1) f fd ps (spF K mg ps.length (fnB ps.length N.length b)) := by
  refine fn_g F S (fun vs H Q E ⟨w, st, ds, s, r, l, h⟩ => by rw [← r.length]; exact l) fun cdv A outer s H vs Q E hr ⟨w1, S1, ds, s1, r1, l, h⟩ => ⟨_, hb cdv A outer s H E hr, w1, _, S1, s1, envStart (N := N) r1, ?_⟩
  unfold fnB at h
  rw [if_pos l] at h
  rw [l]
  revert h
  cases hbb : b (ds.map some ++ List.replicate (N.length - ps.length) none) S1 with
  | nx ρ S2 => exact fun h w' H' σ' e s' en => h w' H' _ e s' rp_n
  | rt d S2 => exact fun h w' H' v e s' r' => h w' H' v e s' r'
  | ex x ρ S2 => exact fun h w' H' σ' c od e s' en ex => h w' H' c od e s' ex
  | bk ρ S2 => exact fun h => h.elim
  | ct ρ S2 => exact fun h => h.elim
  | no => exact fun h => h.elim
theorem fun_look {x qual : Str} {st : Stmt} {f : Addr} {fd : FuncData} (F : Fun K x qual st f fd) : ∃ oc od osl, K.lookup f = some ⟨oc, od, .func fd, osl⟩ := by
  obtain ⟨oc, od, kV, doc, pm, an, cdv, ct, osl, rfl, lk, hcd⟩ := F.ex
  exact ⟨oc, od, osl, lk⟩
theorem fun_names {x qual : Str} {st : Stmt} {f : Addr} {fd : FuncData} (F : Fun K x qual st f fd) : fd.params.args.map (·.arg) = (defArgs st).args.map (·.arg) := by
  obtain ⟨oc, od, kV, doc, pm, an, cdv, ct, osl, rfl, lk, hcd⟩ := F.ex
  rfl
theorem spF_cut [Wo] {m : Nat} {f : FF} {k : Nat} {a : Addr} {fd : FuncData} {ps : List Str} (F : FnG P w K mg base k a fd ps (spF K mg m f)) : FnG P w K mg base k a fd ps (spF K mg m (fun ds S => cutR S (f ds S))) :=
  F.weak fun vs H Q E ⟨w1, S1, ds, s1, r1, l, h⟩ => ⟨w1, S1, ds, s1, r1, l, h.cutE s1⟩
theorem fnB_ar {m n : Nat} {b : FS} : ∀ ds S, ds.length ≠ m → fnB m n b ds S = .no := fun ds S h => by unfold fnB; rw [if_neg h]
theorem fnC_ar {m n : Nat} {b : FS} : ∀ ds S, ds.length ≠ m → fnC m n b ds S = .no := fun ds S h => by unfold fnC; rw [fnB_ar ds S h]; rfl
theorem cal_B [Wo] {x : Str} {st : Stmt} {f : Addr} {fd : FuncData} {N ps : List Str} {k : Nat} {b : FS} (F : Fun K x x st f fd) (S : FnScope N ps (defScope st)) (hm : mg x = some (.ref f)) (hbd : Binds K fd ps []) (hps : ps = (defArgs st).args.map (·.arg))
    (hb : ∀ (cdv : Value) (A : Around) (outer : List Env) (s : Shared) (H : Hp) (E : XK), RoomG k (A.deeper (envOfC x (defScope st) s.heap.objs.size f cdv)) →
      PSs (cxOf (L2.CX P w) P w K mg base N x (defScope st) f cdv A outer s H E) (defBody st) (tS (cxOf (L2.CX P w) P w K mg base N x (defScope st) f cdv A outer s H E) (fun c d _ H => E c d H) b)) :
    Cal P w K mg base (k + 1) x (fnB ps.length N.length b) := ⟨f, fd, ps, fn_ok F S hb, hm, F.kp, hbd, fnB_ar, hps.trans (fun_names F).symm, fun_look F⟩
theorem cal_C [Wo] {x : Str} {st : Stmt} {f : Addr} {fd : FuncData} {N ps : List Str} {k : Nat} {b : FS} (F : Fun K x x st f fd) (S : FnScope N ps (defScope st)) (hm : mg x = some (.ref f)) (hbd : Binds K fd ps []) (hps : ps = (defArgs st).args.map (·.arg))
    (hb : ∀ (cdv : Value) (A : Around) (outer : List Env) (s : Shared) (H : Hp) (E : XK), RoomG k (A.deeper (envOfC x (defScope st) s.heap.objs.size f cdv)) →
      PSs (cxOf (L2.CX P w) P w K mg base N x (defScope st) f cdv A outer s H E) (defBody st) (tS (cxOf (L2.CX P w) P w K mg base N x (defScope st) f cdv A outer s H E) (fun c d _ H => E c d H) b)) :
    Cal P w K mg base (k + 1) x (fnC ps.length N.length b) := ⟨f, fd, ps, spF_cut (fn_ok F S hb), hm, F.kp, hbd, fnC_ar, hps.trans (fun_names F).symm, fun_look F⟩
end
def gFz (x : D) (S : Store) : RE D := match x with
  | .loc n => (match cellM S n with
    | some ds => .ok (.lst ds) (S.set n .dead)
    | none => .no)
  | _ => .no
section
variable {K : PySem.W.Frag} {mg : Str → Option Value} {w : Wd} {H : Hp} {S : Store} {Q : VK} {E : Value → Option Addr → Hp → Prop}
theorem fz_at [Wo] {x : D} {v : V} (s : Sto K mg w S H) (r : Rp K mg w H x v) (h : End K mg (fun w H => Rp K mg w H) w H (gFz x S) Q E) : Q v H := by
  unfold gFz at h
  split at h
  · rename_i n
    split at h
    · rename_i ds hz
      obtain ⟨a, xs, h1, h2, h3⟩ := cellM_at s hz
      unfold Rp at r
      have ev := r.2 a h1
      have hn : n < w.φ.length := r.1
      have gs : (w.φ.set n none)[n]? = some none := by rw [List.getElem?_set_self hn]
      have gn : ∀ m : Nat, m ≠ n → (w.φ.set n none)[m]? = w.φ[m]? := fun m hm => List.getElem?_set_ne (Ne.symm hm)
      have sub : ∀ (m : Nat) b, (w.φ.set n none)[m]? = some (some b) → w.φ[m]? = some (some b) ∧ m ≠ n := fun m b q => by
        by_cases e : m = n
        · subst e; rw [gs] at q; cases q
        · rw [gn m e] at q; exact ⟨q, e⟩
      have mem : ∀ b, some b ∈ w.φ.set n none → some b ∈ w.φ := fun b q => by
        obtain ⟨m, hm⟩ := List.mem_iff_getElem?.mp q
        exact List.mem_of_getElem? (sub m b hm).1
      have out : some a ∉ w.φ.set n none := fun q => by
        obtain ⟨m, hm⟩ := List.mem_iff_getElem?.mp q
        obtain ⟨q1, q2⟩ := sub m a hm
        exact q2 (s.nd m n a q1 h1)
      have ex : Ext w H ⟨w.φ.set n none, w.hd⟩ H := ⟨fun _ _ h _ => h, by show _ ≤ (w.φ.set n none).length; rw [List.length_set]; exact Nat.le_refl _, fun m b q _ => (sub m b q).1, fun b q => .inl (mem b q), rfl⟩
      have s' : Sto K mg ⟨w.φ.set n none, w.hd⟩ (S.set n .dead) H := by
        refine ⟨by show (w.φ.set n none).length = _; rw [List.length_set, List.length_set]; exact s.len, fun m k b q1 q2 => s.nd m k b (sub m b q1).1 (sub k b q2).1, fun b hb => ⟨(s.ap b hb).1, fun z => (s.ap b hb).2 (mem b z)⟩, fun m c hc => ?_⟩
        by_cases e : m = n
        · subst e
          rw [List.getElem?_set_self (s.len ▸ hn)] at hc
          cases hc
          exact gs
        · rw [List.getElem?_set_ne (Ne.symm e)] at hc
          exact CellR.ext ex (fun b hb => ⟨by show (w.φ.set n none)[m]? = _; rw [gn m e]; exact hb, rfl⟩) (fun hb => by show (w.φ.set n none)[m]? = _; rw [gn m e]; exact hb) (s.cell m c hc)
      refine h ⟨w.φ.set n none, w.hd⟩ H v ex s' ?_
      show Rp _ _ _ _ _ _
      unfold Rp
      exact ⟨a, xs, ev, h2, ⟨out, fun z => (s.ap a z).2 (List.mem_of_getElem? h1)⟩, RpL.ext ex _ _ h3⟩
    · exact h.elim
  · exact h.elim
end
theorem q_fz [Wo] {X : Cx} {W : WX} {e : Expr} {f : FE} (he : PE X e (tF X W f)) : PE X e (tF X W (f1 gFz f)) := PE.wk he fun σ H Q ⟨w, ρ, S, s, en, h⟩ =>
  ⟨w, ρ, S, s, en, (End.bind (R := fun w H => Rp X.K X.mg w H) h).imp (fun x H1 ⟨w1, S1, d, e1, s1, r1, h1⟩ => fz_at s1 r1 h1) (fun _ _ _ z => z)⟩
end Kw
namespace Kw
open PySem PySem.Spec PyProof.Rows L2
structure Mv (w : Wd) (H : Hp) (w' : Wd) (H' : Hp) : Prop where
  fr : ∀ a o, H a = some o → w.Off a → H' a = some o ∧ w'.Off a
  ln : w.φ.length ≤ w'.φ.length
  ph : ∀ (n : Nat) a, w'.φ[n]? = some (some a) → n < w.φ.length → w.φ[n]? = some (some a)
section
variable {K : PySem.W.Frag} {mg : Str → Option Value} {w w' w'' : Wd} {H H' H'' : Hp} {S : Store}
mutual
theorem Rp.mv (e : Mv w H w' H') : ∀ (d : D) (v : V), Rp K mg w H d v → Rp K mg w' H' d v
  | .non, _, h => by unfold Rp at h ⊢; exact h
  | .bl _, _, h => by unfold Rp at h ⊢; exact h
  | .int _, _, h => by unfold Rp at h ⊢; exact h
  | .str _, _, h => by unfold Rp at h ⊢; exact h
  | .tup ds, v, h => by
    unfold Rp at h ⊢
    obtain ⟨a, xs, e1, t, r⟩ := h
    refine ⟨a, xs, e1, ?_, RpL.mv e ds xs r⟩
    rcases t with ⟨t, n⟩ | t
    · exact .inl (e.fr _ _ t n)
    · exact .inr t
  | .lst ds, v, h => by
    unfold Rp at h ⊢
    obtain ⟨a, xs, e1, t, n, r⟩ := h
    exact ⟨a, xs, e1, (e.fr _ _ t n).1, (e.fr _ _ t n).2, RpL.mv e ds xs r⟩
  | .dic ks ds, v, h => by
    unfold Rp at h ⊢
    obtain ⟨a, vs, e1, t, n, l, r⟩ := h
    exact ⟨a, vs, e1, (e.fr _ _ t n).1, (e.fr _ _ t n).2, l, RpL.mv e ds vs r⟩
  | .ins c fs ds, v, h => by
    unfold Rp at h ⊢
    obtain ⟨a, C, dx, vs, e1, m, t, n, l, r⟩ := h
    exact ⟨a, C, dx, vs, e1, m, (e.fr _ _ t n).1, (e.fr _ _ t n).2, l, RpL.mv e ds vs r⟩
  | .loc n, v, h => by
    unfold Rp at h ⊢
    exact ⟨Nat.lt_of_lt_of_le h.1 e.ln, fun a q => h.2 a (e.ph n a q h.1)⟩
  | .glo _, _, h => by unfold Rp at h ⊢; exact h
  | .exn _, _, h => by unfold Rp at h ⊢; exact h
  | .lam i q ob, v, h => by
    unfold Rp at h ⊢
    obtain ⟨f, c', pm, ctv, e1, t, n, t2, n2⟩ := h
    exact ⟨f, c', pm, ctv, e1, (e.fr _ _ t n).1, (e.fr _ _ t n).2, (e.fr _ _ t2 n2).1, (e.fr _ _ t2 n2).2⟩
  | .exo c ns ds, v, h => by
    unfold Rp at h ⊢
    obtain ⟨a, C, od, vs, e1, m, t, n, z, q, l, r⟩ := h
    exact ⟨a, C, od, vs, e1, m, (e.fr _ _ t n).1, (e.fr _ _ t n).2, z, fun d hd => ⟨(e.fr _ _ (q d hd).1 (q d hd).2).1, (e.fr _ _ (q d hd).1 (q d hd).2).2⟩, l, RpL.mv e ds vs r⟩
  | .fls ds, v, h => by
    unfold Rp at h ⊢
    obtain ⟨a, xs, e1, t, r⟩ := h
    refine ⟨a, xs, e1, ?_, RpL.mv e ds xs r⟩
    rcases t with ⟨o, t, n⟩ | t
    · exact .inl ⟨o, e.fr _ _ t n⟩
    · exact .inr t
theorem RpL.mv (e : Mv w H w' H') : ∀ (ds : List D) (vs : List V), RpL K mg w H ds vs → RpL K mg w' H' ds vs
  | [], _, h => by unfold RpL at h ⊢; exact h
  | d :: ds, vs, h => by
    unfold RpL at h ⊢
    obtain ⟨v, r, e1, h1, h2⟩ := h
    exact ⟨v, r, e1, Rp.mv e d v h1, RpL.mv e ds r h2⟩
end
theorem EnvR.mv {ρ : FEnv} {σ : L2.St} (e : Mv w H w' H') (h : EnvR K mg w H ρ σ) : EnvR K mg w' H' ρ σ := ⟨h.len, fun i d q => by
  obtain ⟨v, h1, h2⟩ := h.at_ i d q
  exact ⟨v, h1, Rp.mv e _ _ h2⟩⟩
theorem TabW.mv {P : Addr} {q : Str} (m : Mv w H w' H') (hP : H' P = H P) (h : TabW w H P q) : TabW w' H' P q := by
  obtain ⟨ps, h1, h2, h3⟩ := h
  refine ⟨ps, by rw [hP]; exact h1, h2, fun pos cv hc => ?_⟩
  obtain ⟨c, e1, e2, e3⟩ := h3 pos cv hc
  exact ⟨c, e1, m.fr _ _ e2 e3⟩
theorem dct_mv {es : DEnt} (e : Mv w H w' H') (h : ∀ x ∈ es, x.1.depth ≤ 8 ∧ ∃ d, keyOf d = some x.1 ∧ Rp K mg w H d x.2.1) : ∀ x ∈ es, x.1.depth ≤ 8 ∧ ∃ d, keyOf d = some x.1 ∧ Rp K mg w' H' d x.2.1 := fun x hx =>
  ⟨(h x hx).1, let ⟨d, q1, q2⟩ := (h x hx).2; ⟨d, q1, Rp.mv e _ _ q2⟩⟩
theorem Ext.mv (e : Ext w H w' H') : Mv w H w' H' := ⟨fun a o h n => ⟨e.fr a o h n.1, e.out h n⟩, e.ln, e.ph⟩
theorem Mv.trans (a : Mv w H w' H') (b : Mv w' H' w'' H'') : Mv w H w'' H'' :=
  ⟨fun c o h n => b.fr c o (a.fr c o h n).1 (a.fr c o h n).2, Nat.le_trans a.ln b.ln, fun n c h l => a.ph n c (b.ph n c h (Nat.lt_of_lt_of_le l a.ln)) l⟩
theorem Mv.refl : Mv w H w H := Ext.refl.mv
/-- the object at C is built, hidden -/
structure ExtD (C : Addr) (w : Wd) (H : Hp) (w' : Wd) (H' : Hp) : Prop where
  c0 : H C = none
  fr : ∀ a o, a ≠ C → H a = some o → some a ∉ w.φ → H' a = some o
  ln : w.φ.length ≤ w'.φ.length
  ph : ∀ (n : Nat) a, w'.φ[n]? = some (some a) → n < w.φ.length → w.φ[n]? = some (some a)
  nw : ∀ a, some a ∈ w'.φ → some a ∈ w.φ ∨ H a = none
  hd : w'.hd = C :: w.hd
theorem ExtD.step {C : Addr} (a : ExtD C w H w' H') (b : Ext w' H' w'' H'') : ExtD C w H w'' H'' where
  c0 := a.c0
  fr := fun c o hc h n => b.fr c o (a.fr c o hc h n) fun z => by
    rcases a.nw c z with z | z
    · exact n z
    · rw [h] at z; cases z
  ln := Nat.le_trans a.ln b.ln
  ph := fun n c h l => a.ph n c (b.ph n c h (Nat.lt_of_lt_of_le l a.ln)) l
  nw := fun c h => by
    rcases b.nw c h with z | z
    · exact a.nw c z
    · by_cases q : some c ∈ w.φ
      · exact .inl q
      · cases e : H c with
        | none => exact .inr rfl
        | some o =>
          have hc : c ≠ C := fun z => by subst z; rw [a.c0] at e; cases e
          rw [a.fr c o hc e q] at z; cases z
  hd := b.hd.trans a.hd
theorem ExtD.poke {C : Addr} {o : HO} (a : ExtD C w H w' H') : ExtD C w H w' (upd H' C o) := ⟨a.c0, fun c u hc h n => by rw [upd_ne hc]; exact a.fr c u hc h n, a.ln, a.ph, a.nw, a.hd⟩
theorem ExtD.mv {C : Addr} (a : ExtD C w H w' H') : Mv w H w' H' := ⟨fun c o h n => by
  have hc : c ≠ C := fun z => by subst z; rw [a.c0] at h; cases h
  refine ⟨a.fr c o hc h n.1, fun z => ?_, fun z => ?_⟩
  · rcases a.nw c z with z | z
    · exact n.1 z
    · rw [h] at z; cases z
  · rw [a.hd] at z
    rcases List.mem_cons.mp z with z | z
    · exact hc z
    · exact n.2 z, a.ln, a.ph⟩
theorem ExtD.begin_ {C : Addr} {o : HO} (hC : H C = none) : ExtD C w H ⟨w.φ, C :: w.hd⟩ (upd H C o) := ⟨hC, fun a u e h _ => by rw [upd_ne e]; exact h, Nat.le_refl _, fun _ _ h _ => h, fun _ h => .inl h, rfl⟩
theorem ExtD.done {C : Addr} (a : ExtD C w H w' H') : Ext w H ⟨w'.φ, w.hd⟩ H' := ⟨fun c o h n => a.fr c o (fun z => by subst z; rw [a.c0] at h; cases h) h n, a.ln, a.ph, a.nw, rfl⟩
theorem Sto.mvd [Wo] {C : Addr} (s : Sto K mg w S H) (hC : H C = none) {o : HO} : Sto K mg ⟨w.φ, C :: w.hd⟩ S (upd H C o) := by
  have m : Mv w H ⟨w.φ, C :: w.hd⟩ (upd H C o) := (ExtD.begin_ hC).mv
  refine ⟨s.len, s.nd, fun a ha => ?_, fun n c hc => ?_⟩
  · rcases List.mem_cons.mp ha with e | ha
    · subst e; exact ⟨by rw [upd_same]; exact fun z => (nomatch z), (s.new hC).1⟩
    · exact ⟨upd_some (s.ap a ha).1, (s.ap a ha).2⟩
  · have c0 := s.cell n c hc
    have ne : ∀ a, w.φ[n]? = some (some a) → upd H C o a = H a := fun a ha => upd_ne fun z => by subst z; exact (s.new hC).1 (List.mem_of_getElem? ha)
    unfold CellR at c0 ⊢
    split at c0
    · obtain ⟨b, xs, h2, h3, h4⟩ := c0; exact ⟨b, xs, h2, by rw [ne b h2]; exact h3, RpL.mv m _ _ h4⟩
    · obtain ⟨b, xs, o', h2, h3, h4⟩ := c0; exact ⟨b, xs, o', h2, by rw [ne b h2]; exact h3, RpL.mv m _ _ h4⟩
    · exact c0
    · obtain ⟨c1, P, ht, t1, t2⟩ := c0; exact ⟨c1, P, ht, t1, TabW.mv m (ne _ t1) t2⟩
    · obtain ⟨h1, h2, h3, ⟨φ, h4, h6⟩, h5⟩ := c0
      exact ⟨h1, List.mem_cons_of_mem _ h2, h3, ⟨φ, by rw [upd_ne (fun z => by rw [z, hC] at h4; cases h4)]; exact h4, h6⟩, h5⟩
    · exact ⟨c0.1, EnvR.mv m c0.2⟩
    · obtain ⟨b, C1, dx, vs, h2, h3, h4, h5, h6⟩ := c0; exact ⟨b, C1, dx, vs, h2, h3, by rw [ne b h2]; exact h4, h5, RpL.mv m _ _ h6⟩
    · obtain ⟨b, es, h2, h3, h4, h5, h6, h7⟩ := c0; exact ⟨b, es, h2, by rw [ne b h2]; exact h3, h4, h5, dct_mv m h6, RpL.mv m _ _ h7⟩
theorem Mv.poke {C : Addr} {o : HO} (hC : C ∈ w.hd) : Mv w H w (upd H C o) := ⟨fun a u h n => ⟨by rw [upd_ne (fun z => by subst z; exact n.2 hC)]; exact h, n⟩, Nat.le_refl _, fun _ _ h _ => h⟩
theorem Sto.poke [Wo] {C : Addr} {o : HO} (s : Sto K mg w S H) (hC : C ∈ w.hd) (hx : ∃ xs, H C = some (.lst xs)) : Sto K mg w S (upd H C o) := by
  have m : Mv w H w (upd H C o) := Mv.poke hC
  refine ⟨s.len, s.nd, fun a ha => ⟨upd_some (s.ap a ha).1, (s.ap a ha).2⟩, fun n c hc => ?_⟩
  have c0 := s.cell n c hc
  have ne : ∀ a, w.φ[n]? = some (some a) → upd H C o a = H a := fun a ha => upd_ne fun z => by subst z; exact (s.ap a hC).2 (List.mem_of_getElem? ha)
  unfold CellR at c0 ⊢
  split at c0
  · obtain ⟨b, xs, h2, h3, h4⟩ := c0; exact ⟨b, xs, h2, by rw [ne b h2]; exact h3, RpL.mv m _ _ h4⟩
  · obtain ⟨b, xs, o', h2, h3, h4⟩ := c0; exact ⟨b, xs, o', h2, by rw [ne b h2]; exact h3, RpL.mv m _ _ h4⟩
  · exact c0
  · obtain ⟨c1, P, ht, t1, t2⟩ := c0; exact ⟨c1, P, ht, t1, TabW.mv m (ne _ t1) t2⟩
  · obtain ⟨h1, h2, h3, ⟨φ, h4, h6⟩, h5⟩ := c0
    obtain ⟨xs, hx⟩ := hx
    exact ⟨h1, h2, h3, ⟨φ, by rw [upd_ne (fun z => by rw [z, hx] at h4; cases h4)]; exact h4, h6⟩, h5⟩
  · exact ⟨c0.1, EnvR.mv m c0.2⟩
  · obtain ⟨b, C1, dx, vs, h2, h3, h4, h5, h6⟩ := c0; exact ⟨b, C1, dx, vs, h2, h3, by rw [ne b h2]; exact h4, h5, RpL.mv m _ _ h6⟩
  · obtain ⟨b, es, h2, h3, h4, h5, h6, h7⟩ := c0; exact ⟨b, es, h2, by rw [ne b h2]; exact h3, h4, h5, dct_mv m h6, RpL.mv m _ _ h7⟩
theorem Mv.show {C : Addr} {h0 : List Addr} (e : w.hd = C :: h0) : Mv w H ⟨w.φ, h0⟩ H := ⟨fun a o h n => ⟨h, n.1, fun z => n.2 (by rw [e]; exact List.mem_cons_of_mem _ z)⟩, Nat.le_refl _, fun _ _ h _ => h⟩
theorem Sto.show [Wo] {C : Addr} {h0 : List Addr} (s : Sto K mg w S H) (e : w.hd = C :: h0) (hx : ∃ xs, H C = some (.lst xs)) : Sto K mg ⟨w.φ, h0⟩ S H := by
  have m : Mv w H ⟨w.φ, h0⟩ H := Mv.show e
  refine ⟨s.len, s.nd, fun a ha => s.ap a (by rw [e]; exact List.mem_cons_of_mem _ ha), fun n c hc => ?_⟩
  have c0 := s.cell n c hc
  unfold CellR at c0 ⊢
  split at c0
  · obtain ⟨b, xs, h2, h3, h4⟩ := c0; exact ⟨b, xs, h2, h3, RpL.mv m _ _ h4⟩
  · obtain ⟨b, xs, o', h2, h3, h4⟩ := c0; exact ⟨b, xs, o', h2, h3, RpL.mv m _ _ h4⟩
  · exact c0
  · obtain ⟨c1, P, ht, t1, t2⟩ := c0; exact ⟨c1, P, ht, t1, TabW.mv m rfl t2⟩
  · obtain ⟨h1, h2, h3, ⟨φ, h4, h6⟩, h5⟩ := c0
    obtain ⟨xs, hx⟩ := hx
    refine ⟨h1, ?_, h3, ⟨φ, h4, h6⟩, h5⟩
    rw [e] at h2
    rcases List.mem_cons.mp h2 with z | z
    · rw [z, hx] at h4; cases h4
    · exact z
  · exact ⟨c0.1, EnvR.mv m c0.2⟩
  · obtain ⟨b, C1, dx, vs, h2, h3, h4, h5, h6⟩ := c0; exact ⟨b, C1, dx, vs, h2, h3, h4, h5, RpL.mv m _ _ h6⟩
  · obtain ⟨b, es, h2, h3, h4, h5, h6, h7⟩ := c0; exact ⟨b, es, h2, h3, h4, h5, dct_mv m h6, RpL.mv m _ _ h7⟩
end
abbrev FG := D → FEnv → Store → Option (FEnv × Store)
abbrev FGs := List D → FEnv → Store → Option (FEnv × Store)
def GOk [Wo] (X : Cx) (w : Wd) (H : Hp) (sl : List Nat) (σ : L2.St) (r : Option (FEnv × Store)) (Q : L2.St → Hp → Prop) : Prop := match r with
  | some (ρ', S') => ∀ w' H' σ', Ext w H w' H' → Sto X.K X.mg w' S' H' → EnvR X.K X.mg w' H' ρ' σ' → (∀ i, i ∉ sl → σ'[i]? = σ[i]?) → σ'.length = σ.length → Q σ' H'
  | none => False
def tG [Wo] (X : Cx) (sl : List Nat) (g : FG) : TG := fun v σ H Q => ∃ w ρ S d, Sto X.K X.mg w S H ∧ EnvR X.K X.mg w H ρ σ ∧ Rp X.K X.mg w H d v ∧ GOk X w H sl σ (g d ρ S) Q
def tGs [Wo] (X : Cx) (sl : List Nat) (g : FGs) : TGs := fun vs σ H Q => ∃ w ρ S ds, Sto X.K X.mg w S H ∧ EnvR X.K X.mg w H ρ σ ∧ RpL X.K X.mg w H ds vs ∧ GOk X w H sl σ (g ds ρ S) Q
theorem PG.wk {X : Cx} {e : Expr} {t t' : TG} (h : PG X e t) (m : ∀ v σ H Q, t' v σ H Q → t v σ H Q) : PG X e t' := ⟨fun pins s σ H v u Q I r k => h.run pins s σ H v u Q I r (m v σ H Q k)⟩
theorem PGs.wk {X : Cx} {e : List Expr} {t t' : TGs} (h : PGs X e t) (m : ∀ v σ H Q, t' v σ H Q → t v σ H Q) : PGs X e t' := ⟨fun pins s σ H v u Q I r k => h.run pins s σ H v u Q I r (m v σ H Q k)⟩
def gN (i : Nat) : FG := fun d ρ S => some (ρ.set i (some d), S)
def gsNil : FGs := fun ds ρ S => match ds with
  | [] => some (ρ, S)
  | _ => none
def gsCons (g : FG) (gs : FGs) : FGs := fun ds ρ S => match ds with
  | d :: r => (match g d ρ S with
    | some (ρ1, S1) => gs r ρ1 S1
    | none => none)
  | [] => none
def gTu (n : Nat) (gs : FGs) : FG := fun d ρ S => match d with
  | .tup ds => if ds.length = n then gs ds ρ S else none
  | _ => none
def gSetI (o i d : D) (S : Store) : Option Store := match o, i with
  | .loc n, .int k => (match cellM S n with
    | some xs => (match ixN xs.length k with
      | some j => some (S.set n (.lst (xs.set j d)))
      | none => none)
    | none => none)
  | _, _ => none
def gSb (fo fi : FE) : FG := fun d ρ S => match fo ρ S with
  | .ok o S1 => (match fi ρ S1 with
    | .ok i S2 => (match gSetI o i d S2 with
      | some S3 => some (ρ, S3)
      | none => none)
    | _ => none)
  | _ => none
section
variable {X : Cx} {W : WX} {pos : Pos} {e : Expr} {es : List Expr}
theorem GOk.imp [Wo] {w : Wd} {H : Hp} {sl sl' : List Nat} {σ : L2.St} {r : Option (FEnv × Store)} {Q Q' : L2.St → Hp → Prop} (h : GOk X w H sl σ r Q) (hs : ∀ i, i ∉ sl → i ∉ sl') (hq : ∀ σ H, Q σ H → Q' σ H) : GOk X w H sl' σ r Q' := by
  unfold GOk at h ⊢
  split
  · intro w' H' σ' e s en k l
    exact hq _ _ (h w' H' σ' e s en (fun i hi => k i (hs i hi)) l)
  · exact h
theorem q_gn [Wo] {i : Nat} {x : Str} (hN : X.N.Nodup) (hi : X.N[i]? = some x) (hx : Loc X.env.scope x) (hf : X.fn x = true ∨ X.env.scope.names.lookup x = some .local := by first | exact .inl rfl | exact .inr rfl | assumption) : PG X (.Name x pos) (tG X [i] (gN i)) :=
  PG.wk (pg_name hN hi hx hf) fun v σ H Q ⟨w, ρ, S, d, s, en, r, h⟩ => h w H _ Ext.refl s (en.set r) (fun j hj => by
    rw [List.getElem?_set_ne (fun z => hj (by rw [z]; exact List.mem_singleton.mpr rfl))]) (by rw [List.length_set])
theorem q_gsnil [Wo] : PGs X [] (tGs X [] gsNil) := PGs.wk pgs_nil fun v σ H Q ⟨w, ρ, S, ds, s, en, r, h⟩ => by
  unfold gsNil at h
  split at h
  · unfold RpL at r
    exact ⟨r, h w H σ Ext.refl s en (fun _ _ => rfl) rfl⟩
  · exact h.elim
theorem q_gscons [Wo] {g : FG} {gs : FGs} {sl sl2 : List Nat} (h1 : PG X e (tG X sl g)) (h2 : PGs X es (tGs X sl2 gs)) (hs : (assignEach (e :: es) X.env).map (·.2) = assign e X.env :: (assignEach es X.env).map (·.2) := by rfl) : PGs X (e :: es) (tGs X (sl ++ sl2) (gsCons g gs)) :=
  PGs.wk (pgs_cons h1 h2 hs) fun vs σ H Q ⟨w, ρ, S, ds, s, en, r, h⟩ => by
    unfold gsCons at h
    split at h
    · rename_i d ds'
      unfold RpL at r
      obtain ⟨v, vs', e1, r1, r2⟩ := r
      refine ⟨v, vs', e1, w, ρ, S, d, s, en, r1, ?_⟩
      split at h
      · rename_i ρ1 S1 hg
        rw [hg]
        intro w' H' σ' ex s' en' k l
        refine ⟨w', ρ1, S1, ds', s', en', RpL.ext ex _ _ r2, ?_⟩
        unfold GOk at h ⊢
        split at h
        · intro w2 H2 σ2 ex2 s2 en2 k2 l2
          exact h w2 H2 σ2 (ex.trans ex2) s2 en2 (fun i hi => by
            rw [k2 i (fun z => hi (List.mem_append_right _ z)), k i (fun z => hi (List.mem_append_left _ z))]) (l2.trans l)
        · exact h
      · exact h.elim
    · exact h.elim
theorem q_gtu [Wo] {k n : Nat} {gs : FGs} {sl : List Nat} (hc : X.calm = true) (h : PGs X es (tGs X sl gs)) (hn : (assignEach es X.env).length = n := by rfl) (hst : (assignEach es X.env).findIdx? (·.1) = none := by rfl) : PG X (.Tuple es k pos) (tG X sl (gTu n gs)) :=
  PG.wk (pg_tup hc h hn hst) fun v σ H Q ⟨w, ρ, S, d, s, en, r, h⟩ => by
    unfold gTu at h
    split at h
    · rename_i ds
      split at h
      · rename_i hl
        obtain ⟨a, xs, e1, t1, q1⟩ := tup_at r
        exact ⟨a, xs, e1, t1, by rw [← q1.length]; exact hl, w, ρ, S, ds, s, en, q1, h⟩
      · exact h.elim
    · exact h.elim
theorem setI_at [Wo] {w : Wd} {S S' : Store} {H : Hp} {o i d : D} {ov iv v : V} (s : Sto X.K X.mg w S H) (ro : Rp X.K X.mg w H o ov) (ri : Rp X.K X.mg w H i iv) (rd : Rp X.K X.mg w H d v) (h : gSetI o i d S = some S') {Q : Hp → Prop} (hq : ∀ H', Ext w H w H' → Sto X.K X.mg w S' H' → Q H') : rSetL ov iv v H Q := by
  unfold gSetI at h
  split at h
  · rename_i n k
    split at h
    · rename_i xs hx
      split at h
      · rename_i j hj
        cases h
        obtain ⟨a, vs, h1, h2, h3⟩ := cellM_at s hx
        unfold Rp at ro
        refine ⟨a, vs, k, j, ro.2 a h1, rp_int ri, h2, by rw [← h3.length]; exact hj, hq _ (Ext.write h1) (s.write h1 (cellM_lt hx) (h3.set j rd))⟩
      · cases h
    · cases h
  · cases h
theorem q_gsb [Wo] {o i : Expr} {fo fi : FE} (ho : PE X o (tF X W fo)) (hi : PE X i (tF X W fi)) (ha : ∀ v, assign (.Subscript o i pos) X.env v = (do
      let ov ← holding [v] (eval o X.env)
      let iv ← holding [v, ov] (eval i X.env)
      standAt pos
      holding [v, ov, iv] (setItem ov iv v)
      release [v, ov, iv] []) := by intro _; rfl) : PG X (.Subscript o i pos) (tG X [] (gSb fo fi)) :=
  PG.wk (pg_sub ho hi set_list ha) fun v σ H Q ⟨w, ρ, S, d, s, en, r, h⟩ => by
    unfold gSb at h
    split at h
    · rename_i od S1 h1
      split at h
      · rename_i id S2 h2
        split at h
        · rename_i S3 h3
          refine ⟨w, ρ, S, s, en, ?_⟩
          rw [h1]
          intro w1 H1 ov e1 s1 r1
          refine ⟨w1, ρ, S1, s1, en.ext e1, ?_⟩
          rw [h2]
          intro w2 H2 iv e2 s2 r2
          have ex := e1.trans e2
          refine setI_at s2 (Rp.ext e2 _ _ r1) r2 (Rp.ext ex _ _ r) h3 fun H3 e3 s3 => ?_
          exact h w2 H3 σ (ex.trans e3) s3 (en.ext (ex.trans e3)) (fun _ _ => rfl) rfl
        · exact h.elim
      · exact h.elim
    · exact h.elim
/-- target = value -/
def sAsg (f : FE) (g : FG) : FS := fun ρ S => (f ρ S).toS ρ fun d S1 => match g d ρ S1 with
  | some (ρ', S') => .nx ρ' S'
  | none => .no
theorem q_asg [Wo] {tg : Expr} {fe : FE} {g : FG} {sl : List Nat} (he : PE X e (tF X W fe)) (hg : PG X tg (tG X sl g)) (hs : swapsWithSole [tg] e pos.line X.env = pure false := by rfl) (hw : swappedStores [tg] e X.env = pure none := by rfl) (h1 : (assignEach [tg] X.env).map (·.2) = [assign tg X.env] := by rfl) : PS X (.Assign [tg] e pos) (tS X W (sAsg fe g)) :=
  PS.wk (ps_asg he hg hs hw h1) fun D σ H ⟨w, ρ, S, s, en, h⟩ => ⟨w, ρ, S, s, en, (h.of (R := fun w H => Rp X.K X.mg w H) en).imp (fun v H1 ⟨w1, S1, d, e1, s1, r1, h1⟩ => by
    refine ⟨w1, ρ, S1, d, s1, en.ext e1, r1, ?_⟩
    split at h1
    · rename_i ρ' S' hg'
      rw [hg']
      intro w2 H2 σ2 e2 s2 en2 _ _
      exact h1 w2 H2 σ2 e2 s2 en2
    · exact h1.elim) (fun _ _ _ z => z)⟩
/-- a, b = x, y -/
def sPar (i j : Nat) (f : FA) : FS := fun ρ S => (f ρ S).toS ρ fun ds S1 => match ds with
  | [x, y] => .nx ((ρ.set i (some x)).set j (some y)) S1
  | _ => .no
theorem q_par [Wo] {i j : Nat} {x y : Str} {a b : Expr} {fa : FA} {px py pt : Pos} {kt k2 pt2} (hc : X.calm = true) (hN : X.N.Nodup) (hi : X.N[i]? = some x) (hj : X.N[j]? = some y) (hij : i ≠ j)
    (hx : X.env.scope.names.lookup x = some .local) (hy : X.env.scope.names.lookup y = some .local) (ha : PA X [a, b] (tA X W fa))
    (hw : swappedStores [.Tuple [.Name x px, .Name y py] kt pt] (.Tuple [a, b] k2 pt2) X.env = pure (some [x, y]))
    (hs : swapsWithSole [.Tuple [.Name x px, .Name y py] kt pt] (.Tuple [a, b] k2 pt2) pos.line X.env = pure false := by rfl) : PS X (.Assign [.Tuple [.Name x px, .Name y py] kt pt] (.Tuple [a, b] k2 pt2) pos) (tS X W (sPar i j fa)) :=
  PS.wk (ps_par hc hN hi hj hij hx hy ha hw hs) fun D σ H ⟨w, ρ, S, s, en, h⟩ => ⟨w, ρ, S, s, en, (h.of (R := fun w H => RpL X.K X.mg w H) en).imp (fun v H1 ⟨w1, S1, ds, e1, s1, r1, h1⟩ => by
    split at h1
    · obtain ⟨u, t, e2, r2, r3⟩ := r1.two_inv
      exact ⟨u, t, e2, h1.nx' s1 (((en.ext e1).set r2).set r3)⟩
    · exact h1.elim) (fun _ _ _ z => z)⟩
end
abbrev Its' := List D × Option (Nat × List D)
/-- the list that is walked is as it was -/
def gd (g : Option (Nat × List D)) (S : Store) : Prop := match g with
  | none => True
  | some (n, ds) => cellOf S n = some ds
open Classical in
noncomputable def gchk (g : Option (Nat × List D)) (S : Store) {α : Type} (a b : α) : α := if gd g S then a else b
def ItOk [Wo] (K : PySem.W.Frag) (mg : Str → Option Value) (w : Wd) (H : Hp) (p : Its') (J : It) : Prop :=
  ∀ w' S' H', Mv w H w' H' → Sto K mg w' S' H' → gd p.2 S' → (∀ i, p.1.length ≤ i → J.stop i H') ∧ ∀ i d, p.1[i]? = some d → J.go i H' ∧ ∀ x H'', J.yld i H' x H'' → Ext w' H' w' H'' ∧ Sto K mg w' S' H'' ∧ Rp K mg w' H'' d x
abbrev FI := FEnv → Store → RE Its'
def tI [Wo] (X : Cx) (W : WX) (f : FI) : TI := fun σ H R => ∃ w ρ S, Sto X.K X.mg w S H ∧ EnvR X.K X.mg w H ρ σ ∧ End X.K X.mg (ItOk X.K X.mg) w H (f ρ S) R (fun c od H' => W c od σ H')
theorem PI.wk {X : Cx} {tg e : Expr} {t t' : TI} (h : PI X tg e t) (m : ∀ σ H R, t' σ H R → t σ H R) : PI X tg e t' := ⟨fun pins s σ H R I k => h.run pins s σ H R I (m σ H R k)⟩
/-- a list or a tuple -/
def iSeq (S : Store) : D → Option Its'
  | .lst ds => some (ds, none)
  | .fls ds => some (ds, none)
  | .loc n => (cellOf S n).map fun ds => (ds, some (n, ds))
  | _ => none
def fiL (f : FE) : FI := fun ρ S => (f ρ S).bnd fun x S1 => match iSeq S1 x with
  | some p => .ok p S1
  | none => .no
def fiT (f : FE) : FI := fun ρ S => (f ρ S).bnd fun x S1 => match x with
  | .tup ds => .ok (ds, none) S1
  | _ => .no
def chrs (z : Str) : List D := z.cps.toList.map fun c => .str ⟨#[c]⟩
def fiS (f : FE) : FI := fun ρ S => (f ρ S).bnd fun x S1 => match x with
  | .str z => .ok (chrs z, none) S1
  | _ => .no
def rngD (lo : Int) : Nat → List D
  | 0 => []
  | n + 1 => .int lo :: rngD (lo + 1) n
def fiR1 (f : FA) : FI := fun ρ S => (f ρ S).bnd fun ds S1 => match ds with
  | [.int j] => if -(2 ^ 62) ≤ j ∧ j < 2 ^ 62 then .ok (rngD 0 j.toNat, none) S1 else .no
  | _ => .no
def enumD : Nat → List D → List D
  | _, [] => []
  | i, d :: r => .tup [.int i, d] :: enumD (i + 1) r
def fiE (f : FA) : FI := fun ρ S => (f ρ S).bnd fun ds S1 => match ds with
  | [x] => (match iSeq S1 x with
    | some (xs, g) => .ok (enumD 0 xs, g) S1
    | none => .no)
  | _ => .no
section
variable {K : PySem.W.Frag} {mg : Str → Option Value} {w w' : Wd} {H H' : Hp} {S S' : Store}
/-- a walked list, at any later time -/
theorem iSeq_at [Wo] {x : D} {v : V} {p : Its'} (s : Sto K mg w S H) (r : Rp K mg w H x v) (h : iSeq S x = some p) : ∃ a, v = .ref a ∧ (∃ xs, SqL K H a xs) ∧
    ∀ w' S' H', Mv w H w' H' → Sto K mg w' S' H' → gd p.2 S' → ∃ xs, SqL K H' a xs ∧ RpL K mg w' H' p.1 xs := by
  cases x <;> simp only [iSeq] at h <;> try (cases h; done)
  · cases h
    unfold Rp at r
    obtain ⟨a, xs, e, t, o, q⟩ := r
    refine ⟨a, e, ⟨xs, .of t⟩, fun w' S' H' m s' _ => ?_⟩
    obtain ⟨t', o'⟩ := m.fr a _ t o
    exact ⟨xs, .of t', RpL.mv m _ _ q⟩
  · rename_i n
    simp only [Option.map_eq_some_iff] at h
    obtain ⟨ds, h1, h2⟩ := h
    subst h2
    obtain ⟨a, xs, h3, h4, h5⟩ := cellOf_at s h1
    unfold Rp at r
    refine ⟨a, r.2 a h3, ⟨xs, .inl h4⟩, fun w' S' H' m s' g => ?_⟩
    obtain ⟨b, ys, k3, k4, k5⟩ := cellOf_at s' (show cellOf S' n = some ds from g)
    have := m.ph n b k3 r.1
    rw [h3] at this
    cases this
    exact ⟨ys, .inl k4, k5⟩
  · cases h
    unfold Rp at r
    obtain ⟨a, xs, e, t, q⟩ := r
    refine ⟨a, e, ⟨xs, t.sq⟩, fun w' S' H' m s' _ => ?_⟩
    have t' : Fp K w' H' a xs := by
      rcases t with ⟨o, t, n⟩ | t
      · exact .inl ⟨o, m.fr _ _ t n⟩
      · exact .inr t
    exact ⟨xs, t'.sq, RpL.mv m _ _ q⟩
theorem Rd.inj {a : Addr} {u u' : HO} (h : Rd H a u) (h' : Rd H a u') (n : ∀ o q, u ≠ .frz o q) (n' : ∀ o q, u' ≠ .frz o q) : u = u' := by
  rcases h with h | ⟨o, h⟩ <;> rcases h' with h' | ⟨o', h'⟩
  · rw [h] at h'; cases h'; rfl
  · rw [h] at h'; cases h'; exact absurd rfl (n _ _)
  · rw [h] at h'; cases h'; exact absurd rfl (n' _ _)
  · rw [h] at h'; cases h'; rfl
theorem itl_ok [Wo] {x : D} {v : V} {p : Its'} (s : Sto K mg w S H) (r : Rp K mg w H x v) (h : iSeq S x = some p) {R : It → Hp → Prop} {E : Value → Option Addr → Hp → Prop} (he : End K mg (ItOk K mg) w H (.ok p S) R E) : ∃ a, v = .ref a ∧ (∃ xs, SqL K H a xs) ∧ R (Itl K a) H := by
  obtain ⟨a, e, ex, k⟩ := iSeq_at s r h
  refine ⟨a, e, ex, he w H _ Ext.refl s fun w' S' H' m s' g => ?_⟩
  obtain ⟨xs, q1, q2⟩ := k w' S' H' m s' g
  refine ⟨fun i hi => ⟨xs, q1, by rw [← q2.length]; exact hi⟩, fun i d hd => ?_⟩
  obtain ⟨u, h1, h2⟩ := q2.get hd
  refine ⟨⟨xs, u, q1, h1⟩, fun y H'' hy => ?_⟩
  obtain ⟨rfl, hy⟩ := hy
  have := hy xs q1
  rw [h1] at this
  cases this
  exact ⟨Ext.refl, s', h2⟩
theorem enumD_get : ∀ (l : List D) (k i : Nat) (d : D), (enumD k l)[i]? = some d → ∃ y, l[i]? = some y ∧ d = .tup [.int ((k + i : Nat) : Int), y]
  | [], k, i, d, h => by simp [enumD] at h
  | y :: l, k, 0, d, h => by simp [enumD] at h; exact ⟨y, rfl, by rw [← h]; rfl⟩
  | y :: l, k, i + 1, d, h => by
    simp only [enumD, List.getElem?_cons_succ] at h
    obtain ⟨z, h1, h2⟩ := enumD_get l (k + 1) i d h
    exact ⟨z, by simpa using h1, by rw [h2]; rw [show k + 1 + i = k + (i + 1) by omega]⟩
theorem enumD_len : ∀ (l : List D) (k : Nat), (enumD k l).length = l.length
  | [], _ => rfl
  | _ :: l, k => by simp [enumD, enumD_len l (k + 1)]
theorem pair_new [Wo] {p : Addr} {d e : D} {x y : V} (s : Sto K mg w S H) (np : H p = none) (r1 : Rp K mg w H d x) (r2 : Rp K mg w H e y) : Ext w H w (upd H p (.tup [x, y])) ∧ Sto K mg w S (upd H p (.tup [x, y])) ∧ Rp K mg w (upd H p (.tup [x, y])) (.tup [d, e]) (.ref p) := by
  have ex : Ext w H w (upd H p (.tup [x, y])) := Ext.new np
  refine ⟨ex, s.beside np, ?_⟩
  unfold Rp
  exact ⟨p, _, rfl, .inl ⟨upd_same, s.new np⟩, RpL.cons (Rp.ext ex _ _ r1) (RpL.one (Rp.ext ex _ _ r2))⟩
end
section
variable {X : Cx} {W : WX} {tg e e2 : Expr} {fe : FE} {fa : FA} {p pos : Pos}
theorem qi_list [Wo] (he : PE X e (tF X W fe)) : PI X tg e (tI X W (fiL fe)) := PI.wk (pi_list he) fun σ H R ⟨w, ρ, S, s, en, h⟩ =>
  ⟨w, ρ, S, s, en, (End.bind (R := fun w H => Rp X.K X.mg w H) h).imp (fun v H1 ⟨w1, S1, d, e1, s1, r1, h1⟩ => by
    split at h1
    · rename_i q hq; exact itl_ok s1 r1 hq h1
    · exact h1.elim) (fun _ _ _ z => z)⟩
theorem qi_tup [Wo] (he : PE X e (tF X W fe)) : PI X tg e (tI X W (fiT fe)) := PI.wk (pi_tup he) fun σ H R ⟨w, ρ, S, s, en, h⟩ =>
  ⟨w, ρ, S, s, en, (End.bind (R := fun w H => Rp X.K X.mg w H) h).imp (fun v H1 ⟨w1, S1, d, e1, s1, r1, h1⟩ => by
    split at h1
    · rename_i ds
      have r1' := r1
      unfold Rp at r1'
      obtain ⟨a, xs, e, t, q⟩ := r1'
      refine ⟨a, e, ⟨xs, t.sq⟩, h1 w1 H1 _ Ext.refl s1 fun w' S' H' m s' g => ?_⟩
      have t' : SqT X.K H' a xs := by
        rcases t with ⟨t, o⟩ | t
        · exact .of (m.fr a _ t o).1
        · exact .inr t
      have q' := RpL.mv m _ _ q
      refine ⟨fun i hi => ⟨xs, t', by rw [← q.length]; exact hi⟩, fun i d hd => ?_⟩
      obtain ⟨u, k1, k2⟩ := q'.get hd
      refine ⟨⟨xs, u, t', k1⟩, fun y H'' hy => ?_⟩
      obtain ⟨rfl, hy⟩ := hy
      have := hy xs t'
      rw [k1] at this
      cases this
      exact ⟨Ext.refl, s', k2⟩
    · exact h1.elim) (fun _ _ _ z => z)⟩
theorem rngD_len : ∀ (n : Nat) (lo : Int), (rngD lo n).length = n
  | 0, _ => rfl
  | n + 1, lo => by simp [rngD, rngD_len n (lo + 1)]
theorem rngD_get : ∀ (n : Nat) (lo : Int) (i : Nat) (d : D), (rngD lo n)[i]? = some d → i < n ∧ d = .int (lo + i)
  | 0, lo, i, d, h => by simp [rngD] at h
  | n + 1, lo, 0, d, h => by simp [rngD] at h; exact ⟨Nat.succ_pos _, by rw [← h]; simp⟩
  | n + 1, lo, i + 1, d, h => by
    simp only [rngD, List.getElem?_cons_succ] at h
    obtain ⟨h1, h2⟩ := rngD_get n (lo + 1) i d h
    exact ⟨Nat.succ_lt_succ h1, by rw [h2]; congr 1; omega⟩
theorem rng_ok [Wo] {K : PySem.W.Frag} {mg : Str → Option Value} {w : Wd} {H : Hp} (lo : Int) (n : Nat) : ItOk K mg w H (rngD lo n, none) (Itr lo n) := by
  intro w' S' H' m s' g
  refine ⟨fun i hi => (show n ≤ i by have h2 : (rngD lo n).length ≤ i := hi; rw [rngD_len] at h2; exact h2), fun i d hd => ?_⟩
  obtain ⟨h1, rfl⟩ := rngD_get n lo i d hd
  refine ⟨h1, fun y H'' hy => ?_⟩
  obtain ⟨rfl, rfl⟩ := hy
  exact ⟨Ext.refl, s', rp_i⟩
theorem qi_range1 [Wo] (hg : Gl X "range") (hm : X.mg "range" = none) (ha : PA X [e] (tA X W fa)) (hs : starEach [e] X.env = [(false, eval e X.env)] := by rfl) : PI X tg (.Call (.Name "range" p) [e] [] pos) (tI X W (fiR1 fa)) := PI.wk (pi_range1 hg hm ha hs) fun σ H R ⟨w, ρ, S, s, en, h⟩ =>
  ⟨w, ρ, S, s, en, (End.bind (R := fun w H => RpL X.K X.mg w H) h).imp (fun vs H1 ⟨w1, S1, ds, e1, s1, r1, h1⟩ => by
    split at h1
    · split at h1
      · rename_i j hj
        obtain ⟨v, rfl, r2⟩ := r1.one_inv
        exact ⟨j, by rw [rp_int r2], hj.1, hj.2, h1.ret s1 (rng_ok 0 _)⟩
      · exact h1.elim
    · exact h1.elim) (fun _ _ _ z => z)⟩
theorem qi_enum [Wo] {elts : List Expr} {kk : Nat} {tpos : Pos} (hg : Gl X "enumerate") (hm : X.mg "enumerate" = none) (ha : PA X [e] (tA X W fa)) (hs : starEach [e] X.env = [(false, eval e X.env)] := by rfl) : PI X (.Tuple elts kk tpos) (.Call (.Name "enumerate" p) [e] [] pos) (tI X W (fiE fa)) := PI.wk (pi_enum hg hm ha hs) fun σ H R ⟨w, ρ, S, s, en, h⟩ =>
  ⟨w, ρ, S, s, en, (End.bind (R := fun w H => RpL X.K X.mg w H) h).imp (fun vs H1 ⟨w1, S1, ds, e1, s1, r1, h1⟩ => by
    split at h1
    · rename_i x
      split at h1
      · rename_i xs g hx
        obtain ⟨v, rfl, r2⟩ := r1.one_inv
        obtain ⟨a, e, ⟨ys, ey⟩, k⟩ := iSeq_at s1 r2 hx
        refine ⟨a, ys, by rw [e], ey, h1.ret s1 fun w' S' H' m s' g' => ?_⟩
        obtain ⟨zs, q1, q2⟩ := k w' S' H' m s' g'
        refine ⟨fun i hi => ⟨zs, q1, ?_⟩, fun i d hd => ?_⟩
        · have h2 : (enumD 0 xs).length ≤ i := hi
          rw [enumD_len] at h2
          rw [← q2.length]; exact h2
        · obtain ⟨y, k1, k2⟩ := enumD_get _ _ _ _ hd
          obtain ⟨u, k3, k4⟩ := q2.get k1
          refine ⟨⟨zs, u, q1, k3⟩, fun z H'' hz => ?_⟩
          obtain ⟨T, x', rfl, nT, rfl, hx'⟩ := hz
          have := hx' zs q1
          rw [k3] at this
          cases this
          subst k2
          have pr := pair_new (d := .int ((0 + i : Nat) : Int)) s' nT rp_i k4
          rw [Nat.zero_add] at pr ⊢
          exact pr
      · exact h1.elim
    · exact h1.elim) (fun _ _ _ z => z)⟩
end
noncomputable def forL (tg : FG) (b : FS) (g : Option (Nat × List D)) : List D → FS
  | [] => fun ρ S => gchk g S (.nx ρ S) .no
  | d :: r => fun ρ S => gchk g S (match tg d ρ S with
    | some (ρ1, S1) => (match b ρ1 S1 with
      | .nx ρ2 S2 => forL tg b g r ρ2 S2
      | .ct ρ2 S2 => forL tg b g r ρ2 S2
      | .bk ρ2 S2 => .nx ρ2 S2
      | z => z)
    | none => .no) .no
noncomputable def sFor (fi : FI) (tg : FG) (b : FS) : FS := fun ρ S => (fi ρ S).toS ρ fun p S1 => forL tg b p.2 p.1 ρ S1
theorem gchk_in [Wo] {K : PySem.W.Frag} {mg : Str → Option Value} {w : Wd} {H : Hp} {D : Ends} {W : WX} {g : Option (Nat × List Kw.D)} {S : Store} {r : RS} (h : EndS K mg w H (gchk g S r .no) D W) : gd g S ∧ EndS K mg w H r D W := by
  unfold gchk at h
  split at h
  · rename_i k; exact ⟨k, h⟩
  · exact h.elim
section
variable {X : Cx} {W : WX} {tg iter : Expr} {body : List Stmt} {fi : FI} {g : FG} {sl : List Nat} {b : FS} {pos : Pos}
theorem q_for [Wo] (hp : PassesOwn (model X.prog X.w) X.A X.env X.xe) (hc : X.calm = true) (hi : PI X tg iter (tI X W fi)) (hg : PG X tg (tG X sl g)) (hb : PSs X body (tS X W b)) (hs : ∀ x, foldedSetIterable iter X.env x = pure x := by intro _; rfl) : PS X (.For tg iter body [] pos) (tS X W (sFor fi g b)) :=
  PS.wk (ps_for hp hc hi hg hb hs) fun D σ H ⟨w, ρ, S, s, en, h⟩ => by
    refine ⟨w, ρ, S, s, en, (h.of (R := ItOk X.K X.mg) en).imp ?_ (fun _ _ _ z => z)⟩
    rintro J H1 ⟨w1, S1, ⟨items, gu⟩, e1, s1, J1, h1⟩
    refine ⟨fun i m σ' H' => ∃ w' ρ' S', i + m = items.length ∧ Ext w1 H1 w' H' ∧ Sto X.K X.mg w' S' H' ∧ EnvR X.K X.mg w' H' ρ' σ' ∧ EndS X.K X.mg w' H' (forL g b gu (items.drop i) ρ' S') D W, ⟨items.length, w1, ρ, S1, by omega, Ext.refl, s1, en.ext e1, h1⟩, ?_⟩
    rintro i m σ' H' ⟨w', ρ', S', hm, ex, s', en', h2⟩
    cases hd : items.drop i with
    | nil =>
      rw [hd] at h2
      unfold forL at h2
      obtain ⟨gd1, h3⟩ := gchk_in h2
      have hl : items.length ≤ i := List.drop_eq_nil_iff.mp hd
      exact .inl ⟨(J1 w' S' H' ex.mv s' gd1).1 i hl, h3.nx' s' en'⟩
    | cons d r =>
      rw [hd] at h2
      unfold forL at h2
      obtain ⟨gd1, h3⟩ := gchk_in h2
      have hi' : items[i]? = some d := by
        have := congrArg (·[0]?) hd
        simpa using this
      have hr : items.drop (i + 1) = r := by
        have := congrArg List.tail hd
        simpa using this
      have hlt : i < items.length := (List.getElem?_eq_some_iff.mp hi').1
      obtain ⟨j1, j2⟩ := (J1 w' S' H' ex.mv s' gd1).2 i d hi'
      refine .inr ⟨j1, fun σ2 H2 => ∃ w2 ρ2 S2, Ext w1 H1 w2 H2 ∧ Sto X.K X.mg w2 S2 H2 ∧ EnvR X.K X.mg w2 H2 ρ2 σ2 ∧ EndS X.K X.mg w2 H2 (forL g b gu r ρ2 S2) D W, ?_, ?_⟩
      · rintro σ2 H2 ⟨w2, ρ2, S2, a1, a2, a3, a4⟩
        exact ⟨m - 1, by omega, w2, ρ2, S2, by omega, a1, a2, a3, by rw [hr]; exact a4⟩
      · intro x H'' hy
        obtain ⟨j3, j4, j5⟩ := j2 x H'' hy
        have h3' := h3.on j3
        refine ⟨w', ρ', S', d, j4, en'.ext j3, j5, ?_⟩
        split at h3'
        · rename_i ρ1 S1' hg1
          rw [hg1]
          intro w2 H2 σ2 e2 s2 en2 _ _
          have h4 := h3'.on e2
          have ex2 : Ext w1 H1 w2 H2 := (ex.trans j3).trans e2
          refine ⟨w2, ρ1, S1', s2, en2, ?_⟩
          revert h4
          cases b ρ1 S1' with
          | nx ρ3 S3 => exact fun h4 w3 H3 σ3 e3 s3 en3 => ⟨w3, ρ3, S3, ex2.trans e3, s3, en3, h4.on e3⟩
          | ct ρ3 S3 => exact fun h4 w3 H3 σ3 e3 s3 en3 => ⟨w3, ρ3, S3, ex2.trans e3, s3, en3, h4.on e3⟩
          | bk ρ3 S3 => exact fun h4 => h4
          | rt d S3 => exact fun h4 => h4
          | ex x ρ3 S3 => exact fun h4 => h4
          | no => exact fun h4 => h4
        · exact h3'.elim
end
def wLoop (c : FT) (b : FS) : Nat → FS
  | 0 => fun _ _ => .no
  | n + 1 => fun ρ S => (c ρ S).toS ρ fun k S1 => match k with
    | true => (match b ρ S1 with
      | .nx ρ2 S2 => wLoop c b n ρ2 S2
      | .ct ρ2 S2 => wLoop c b n ρ2 S2
      | .bk ρ2 S2 => .nx ρ2 S2
      | z => z)
    | false => .nx ρ S1
open Classical in
noncomputable def sWhile (c : FT) (b : FS) : FS := fun ρ S => if h : ∃ n, wLoop c b n ρ S ≠ .no then wLoop c b (choose h) ρ S else .no
theorem wLoop_mono {c : FT} {b : FS} : ∀ {n m : Nat} {ρ : FEnv} {S : Store}, n ≤ m → wLoop c b n ρ S ≠ .no → wLoop c b m ρ S = wLoop c b n ρ S
  | 0, _, _, _, _, h => absurd rfl h
  | n + 1, 0, _, _, l, _ => absurd l (by omega)
  | n + 1, m + 1, ρ, S, l, h => by
    unfold wLoop at h ⊢
    cases hc : c ρ S with
    | ok k S1 =>
      rw [hc] at h
      cases k with
      | true =>
        simp only [RE.toS] at h ⊢
        cases hb : b ρ S1 with
        | nx ρ2 S2 =>
          rw [hb] at h
          exact wLoop_mono (Nat.le_of_succ_le_succ l) h
        | ct ρ2 S2 =>
          rw [hb] at h
          exact wLoop_mono (Nat.le_of_succ_le_succ l) h
        | _ => rfl
      | false => rfl
    | _ => rfl
theorem sWhile_eq {c : FT} {b : FS} {n : Nat} {ρ : FEnv} {S : Store} (h : wLoop c b n ρ S ≠ .no) : sWhile c b ρ S = wLoop c b n ρ S := by
  unfold sWhile
  have hx : ∃ n, wLoop c b n ρ S ≠ .no := ⟨n, h⟩
  rw [dif_pos hx]
  have hk := Classical.choose_spec hx
  rcases Nat.le_total n (Classical.choose hx) with l | l
  · exact wLoop_mono l h
  · exact (wLoop_mono l hk).symm
/-- one turn -/
theorem sWhile_step (c : FT) (b : FS) (ρ : FEnv) (S : Store) : sWhile c b ρ S = (c ρ S).toS ρ fun k S1 => match k with
    | true => (match b ρ S1 with
      | .nx ρ2 S2 => sWhile c b ρ2 S2
      | .ct ρ2 S2 => sWhile c b ρ2 S2
      | .bk ρ2 S2 => .nx ρ2 S2
      | z => z)
    | false => .nx ρ S1 := by
  by_cases hx : ∃ n, wLoop c b n ρ S ≠ .no
  · obtain ⟨n, hn⟩ := hx
    cases n with
    | zero => exact absurd rfl hn
    | succ n =>
      rw [sWhile_eq hn]
      unfold wLoop at hn ⊢
      cases hc : c ρ S with
      | ok k S1 =>
        rw [hc] at hn
        cases k with
        | true =>
          simp only [RE.toS] at hn ⊢
          cases hb : b ρ S1 with
          | nx ρ2 S2 => rw [hb] at hn; exact (sWhile_eq hn).symm
          | ct ρ2 S2 => rw [hb] at hn; exact (sWhile_eq hn).symm
          | _ => rfl
        | false => rfl
      | _ => rfl
  · have e0 : sWhile c b ρ S = .no := by unfold sWhile; rw [dif_neg hx]
    rw [e0]
    have key : ∀ n, wLoop c b n ρ S = .no := fun n => Classical.byContradiction fun z => hx ⟨n, z⟩
    cases hc : c ρ S with
    | ok k S1 =>
      cases k with
      | true =>
        simp only [RE.toS]
        have k1 : ∀ n, (match b ρ S1 with
            | .nx ρ2 S2 => wLoop c b n ρ2 S2
            | .ct ρ2 S2 => wLoop c b n ρ2 S2
            | .bk ρ2 S2 => .nx ρ2 S2
            | z => z) = RS.no := fun n => by
          have := key (n + 1)
          unfold wLoop at this
          rw [hc] at this
          exact this
        cases hb : b ρ S1 with
        | nx ρ2 S2 =>
          simp only [hb] at k1
          show RS.no = sWhile c b ρ2 S2
          unfold sWhile
          rw [dif_neg (fun ⟨n, hn⟩ => hn (k1 n))]
        | ct ρ2 S2 =>
          simp only [hb] at k1
          show RS.no = sWhile c b ρ2 S2
          unfold sWhile
          rw [dif_neg (fun ⟨n, hn⟩ => hn (k1 n))]
        | rt d1 S2 => have z := k1 0; rw [hb] at z; exact (nomatch z)
        | ex d1 ρ2 S2 => have z := k1 0; rw [hb] at z; exact (nomatch z)
        | bk ρ2 S2 => have z := k1 0; rw [hb] at z; exact (nomatch z)
        | no => rfl
      | false =>
        have := key 1
        unfold wLoop at this
        rw [hc] at this
        exact this.symm
    | ex x S1 =>
      have := key 1
      unfold wLoop at this
      rw [hc] at this
      exact this.symm
    | no => rfl
section
variable {X : Cx} {W : WX} {c : Expr} {body : List Stmt} {tc : FT} {b : FS} {pos : Pos}
theorem q_while [Wo] (hp : PassesOwn (model X.prog X.w) X.A X.env X.xe) (hc : PT X c (tT X W tc)) (hb : PSs X body (tS X W b)) : PS X (.While c body [] pos) (tS X W (sWhile tc b)) :=
  PS.wk (ps_while hp hc hb) fun D σ H ⟨w, ρ, S, s, en, h⟩ => by
    refine ⟨fun m σ' H' => ∃ w' ρ' S', Sto X.K X.mg w' S' H' ∧ EnvR X.K X.mg w' H' ρ' σ' ∧ EndS X.K X.mg w' H' (wLoop tc b m ρ' S') D W, ?_, ?_⟩
    · unfold sWhile at h
      split at h
      · exact ⟨_, w, ρ, S, s, en, h⟩
      · exact h.elim
    · rintro m σ' H' ⟨w', ρ', S', s', en', h'⟩
      cases m with
      | zero => exact h'.elim
      | succ n =>
        unfold wLoop at h'
        refine ⟨w', ρ', S', s', en', (h'.of (R := fun _ _ (a b : Bool) => b = a) en').imp ?_ (fun _ _ _ z => z)⟩
        rintro k H1 ⟨w1, S1, k', e1, s1, rfl, h1⟩
        cases k with
        | false => rw [if_neg (by decide)]; exact h1.nx' s1 (en'.ext e1)
        | true =>
          rw [if_pos rfl]
          refine ⟨fun σ2 H2 => ∃ w2 ρ2 S2, Sto X.K X.mg w2 S2 H2 ∧ EnvR X.K X.mg w2 H2 ρ2 σ2 ∧ EndS X.K X.mg w2 H2 (wLoop tc b n ρ2 S2) D W, fun σ2 H2 h2 => ⟨n, Nat.lt_succ_self n, h2⟩, w1, ρ', S1, s1, en'.ext e1, ?_⟩
          revert h1
          cases b ρ' S1 with
          | nx ρ3 S3 => exact fun h4 w3 H3 σ3 e3 s3 en3 => ⟨w3, ρ3, S3, s3, en3, h4.on e3⟩
          | ct ρ3 S3 => exact fun h4 w3 H3 σ3 e3 s3 en3 => ⟨w3, ρ3, S3, s3, en3, h4.on e3⟩
          | bk ρ3 S3 => exact fun h4 => h4
          | rt d S3 => exact fun h4 => h4
          | ex x ρ3 S3 => exact fun h4 => h4
          | no => exact fun h4 => h4
end
def wipeR (ρ : FEnv) : List Nat → FEnv
  | [] => ρ
  | v :: vs => (wipeR ρ vs).set v none
noncomputable def compL (tg : FG) (tt : FT) (te : FE) (g : Option (Nat × List D)) (ρ : FEnv) : List D → List D → Store → RE (List D)
  | [], acc, S => gchk g S (.ok acc S) .no
  | d :: r, acc, S => gchk g S (match tg d ρ S with
    | some (ρ1, S1) => (match tt ρ1 S1 with
      | .ok true S2 => (match te ρ1 S2 with
        | .ok y S3 => if acc.length < sizeLine then compL tg tt te g ρ r (acc ++ [y]) S3 else .no
        | _ => .no)
      | .ok false S2 => compL tg tt te g ρ r acc S2
      | _ => .no)
    | none => .no) .no
/-- c: the list is a cell -/
noncomputable def fLc (c : Bool) (fi : FI) (tg : FG) (tt : FT) (te : FE) (vs : List Nat) : FE := fun ρ S => (fi ρ S).bnd fun p S1 => match compL tg tt te p.2 (wipeR ρ vs) p.1 [] S1 with
  | .ok acc S2 => if c then .ok (.loc S2.length) (S2 ++ [.lst acc]) else .ok (.lst acc) S2
  | _ => .no
def fYes : FT := fun _ S => .ok true S
abbrev W0 : WX := fun _ _ _ _ => False
theorem wipe_eq {σ σ' : L2.St} {vs : List Nat} (hl : σ'.length = σ.length) (h : ∀ i, i ∉ vs → σ'[i]? = σ[i]?) : wipe σ' vs = wipe σ vs := by
  have len : ∀ (σ : L2.St) (vs : List Nat), (wipe σ vs).length = σ.length := fun σ vs => wipe_length σ vs
  have at1 : ∀ (σ : L2.St) (vs : List Nat) (i : Nat), i < σ.length → (wipe σ vs)[i]? = if i ∈ vs then some none else σ[i]? := by
    intro σ vs
    induction vs with
    | nil => intro i _; rw [if_neg (by simp)]; rfl
    | cons v vs ih =>
      intro i hi
      show ((wipe σ vs).set v none)[i]? = _
      by_cases e : i = v
      · subst e
        rw [List.getElem?_set_self (by rw [len]; exact hi), if_pos (by simp)]
      · rw [List.getElem?_set_ne (Ne.symm e), ih i hi]
        by_cases m : i ∈ vs
        · rw [if_pos m, if_pos (List.mem_cons_of_mem _ m)]
        · rw [if_neg m, if_neg (by simp [e, m])]
  refine List.ext_getElem? fun i => ?_
  by_cases hi : i < σ.length
  · rw [at1 σ' vs i (hl ▸ hi), at1 σ vs i hi]
    split
    · rfl
    · rename_i m; exact h i m
  · rw [List.getElem?_eq_none (by rw [len, hl]; omega), List.getElem?_eq_none (by rw [len]; omega)]
theorem EnvR.wipe {K : PySem.W.Frag} {mg : Str → Option Value} {w : Wd} {H : Hp} {ρ : FEnv} {σ : L2.St} (en : EnvR K mg w H ρ σ) : ∀ vs : List Nat, EnvR K mg w H (wipeR ρ vs) (L2.wipe σ vs)
  | [] => en
  | v :: vs => (EnvR.wipe en vs).wipe1
theorem wipe_wipe (σ : L2.St) (vs : List Nat) : L2.wipe (L2.wipe σ vs) vs = L2.wipe σ vs := wipe_eq (wipe_length σ vs) fun i hi => wipe_out hi
section
variable {X : Cx} {W : WX} {elt tg iter : Expr} {ifs : List Expr} {scope : Scope} {own : List (Str × Nat)} {pos : Pos} {fi : FI} {g : FG} {sl : List Nat} {tt : FT} {te : FE}
theorem qts_nil [Wo] : PTs X [] (tT X W fYes) := ⟨fun pins s σ H Q I ⟨w, ρ, S, st, en, h⟩ => pts_nil.run pins s σ H Q I (h.ret st rfl)⟩
theorem qts_one [Wo] {c : Expr} {t : FT} (h : PT X c (tT X W t)) : PTs X [c] (tT X W t) := pts_one h
/-- the reading of a comprehension -/
theorem lc_core' [Wo] {σ : L2.St} {H : Hp} {Q : VK} {c : Bool} {vs : List Nat} (hsl : ∀ i ∈ sl, i ∈ vs) (h : tF X W (fLc c fi g tt te vs) σ H Q) : tLc (tI X W fi) (tG X sl g) (tT X W0 tt) (tF X W0 te) vs σ H Q := by
  obtain ⟨w, ρ, S, s, en, h⟩ := h
  refine ⟨w, ρ, S, s, en, (End.bind (R := ItOk X.K X.mg) h).imp ?_ (fun _ _ _ z => z)⟩
  rintro J H1 ⟨w1, S1, ⟨items, gu⟩, e1, s1, J1, h1⟩ C hC
  have enw : EnvR X.K X.mg w1 H1 (wipeR ρ vs) (wipe σ vs) := (en.ext e1).wipe vs
  -- what is left to do, from the items, the list so far and the store
  let fin : RE (List D) → RE D := fun r => match r with
    | .ok acc S2 => if c then .ok (.loc S2.length) (S2 ++ [.lst acc]) else .ok (.lst acc) S2
    | _ => .no
  have h1' : End X.K X.mg (fun w H => Rp X.K X.mg w H) w1 H1 (fin (compL g tt te gu (wipeR ρ vs) items [] S1)) Q (fun c od H' => W c od σ H') := h1
  let G : Hp → List D → Store → RE (List D) → Prop := fun H' acc S' r => ∃ w' xs, ExtD C w1 H1 w' H' ∧ Sto X.K X.mg w' S' H' ∧ H' C = some (.lst xs) ∧ RpL X.K X.mg w' H' acc xs ∧ ∃ r0, fin r = r0 ∧ End X.K X.mg (fun w H => Rp X.K X.mg w H) w1 H1 r0 Q (fun c od H' => W c od σ H')
  refine ⟨fun i m H' => ∃ acc S', i + m = items.length ∧ G H' acc S' (compL g tt te gu (wipeR ρ vs) (items.drop i) acc S'), ⟨items.length, [], S1, by omega, ⟨w1.φ, C :: w1.hd⟩, [], ExtD.begin_ hC, s1.mvd hC, upd_same, RpL.nil, _, rfl, h1'⟩, ?_⟩
  rintro i m H' ⟨acc, S', hm, w', xs, ed, s', hx, ra, r0, hr0, he⟩
  have hCin : C ∈ w'.hd := by rw [ed.hd]; exact List.mem_cons_self
  have no_end : ∀ {r : RE D}, r = .no → End X.K X.mg (fun w H => Rp X.K X.mg w H) w1 H1 r Q (fun c od H' => W c od σ H') → False := fun e h => by rw [e] at h; exact h
  cases hd : items.drop i with
  | nil =>
    rw [hd] at hr0
    unfold compL at hr0
    unfold gchk at hr0
    split at hr0
    · rename_i gd1
      have hl : items.length ≤ i := List.drop_eq_nil_iff.mp hd
      refine .inl ⟨(J1 w' S' H' ed.mv s' gd1).1 i hl, ?_⟩
      have hout : some C ∉ w'.φ := (s'.ap C hCin).2
      have hnh : C ∉ w1.hd := fun z => (s1.ap C z).1 hC
      have mv := Mv.show (H := H') ed.hd
      have s3 := s'.show ed.hd ⟨xs, hx⟩
      have ra3 := RpL.mv mv _ _ ra
      subst hr0
      cases c with
      | false =>
        refine he ⟨w'.φ, w1.hd⟩ H' (.ref C) ed.done s3 ?_
        show Rp _ _ _ _ _ _
        unfold Rp
        exact ⟨C, xs, rfl, hx, ⟨hout, hnh⟩, ra3⟩
      | true =>
        -- the new list becomes a cell
        have ph : ∀ (n : Nat) a, (w'.φ ++ [some C])[n]? = some (some a) → (w'.φ[n]? = some (some a) ∧ n < w'.φ.length) ∨ (n = w'.φ.length ∧ a = C) := fun n a hk => by
          by_cases hl : n < w'.φ.length
          · rw [List.getElem?_append_left hl] at hk; exact .inl ⟨hk, hl⟩
          · have hl' : w'.φ.length ≤ n := Nat.le_of_not_lt hl
            rw [List.getElem?_append_right hl'] at hk
            have : n - w'.φ.length = 0 := by
              cases e : n - w'.φ.length with
              | zero => rfl
              | succ j => rw [e] at hk; simp at hk
            rw [this] at hk; simp at hk
            exact .inr ⟨by omega, hk.symm⟩
        have mv2 : Mv w' H' ⟨w'.φ ++ [some C], w1.hd⟩ H' := ⟨fun a o h n => by
          have hne : a ≠ C := fun z => by subst z; exact n.2 hCin
          refine ⟨h, fun z => ?_, fun z => n.2 (by rw [ed.hd]; exact List.mem_cons_of_mem _ z)⟩
          rcases List.mem_append.mp (show some a ∈ w'.φ ++ [some C] from z) with z | z
          · exact n.1 z
          · simp at z; exact hne z, by show _ ≤ (w'.φ ++ [some C]).length; rw [List.length_append]; omega, fun n a h l => by
          rcases ph n a h with z | z
          · exact z.1
          · omega⟩
        have ex2 : Ext w1 H1 ⟨w'.φ ++ [some C], w1.hd⟩ H' := ⟨ed.done.fr, Nat.le_trans ed.ln mv2.ln, fun n a h l => by
          rcases ph n a h with z | z
          · exact ed.ph n a z.1 l
          · have := ed.ln; omega, fun a h => by
          rcases List.mem_append.mp (show some a ∈ w'.φ ++ [some C] from h) with z | z
          · exact ed.nw a z
          · simp at z; subst z; exact .inr hC, rfl⟩
        have ra4 := RpL.mv mv2 _ _ ra
        have s4 : Sto X.K X.mg ⟨w'.φ ++ [some C], w1.hd⟩ (S' ++ [.lst acc]) H' := by
          refine ⟨by show (w'.φ ++ [some C]).length = _; rw [List.length_append, List.length_append, s'.len]; rfl, fun m n a q1 q2 => ?_, fun a ha => ⟨(s3.ap a ha).1, fun z => ?_⟩, fun n cc hc => ?_⟩
          · rcases ph m a q1 with ⟨z1, z2⟩ | ⟨z1, z2⟩ <;> rcases ph n a q2 with ⟨y1, y2⟩ | ⟨y1, y2⟩
            · exact s'.nd m n a z1 y1
            · subst y2; exact absurd (List.mem_of_getElem? z1) hout
            · subst z2; exact absurd (List.mem_of_getElem? y1) hout
            · omega
          · rcases List.mem_append.mp (show some a ∈ w'.φ ++ [some C] from z) with z | z
            · exact (s3.ap a ha).2 z
            · simp at z; subst z; exact hnh ha
          · by_cases hl : n < S'.length
            · rw [List.getElem?_append_left hl] at hc
              have c0 := s'.cell n cc hc
              have gl : (w'.φ ++ [some C])[n]? = w'.φ[n]? := List.getElem?_append_left (s'.len ▸ hl)
              unfold CellR at c0 ⊢
              split at c0
              · obtain ⟨b, ys, h2, h3, h4⟩ := c0; exact ⟨b, ys, by rw [← gl] at h2; exact h2, h3, RpL.mv mv2 _ _ h4⟩
              · obtain ⟨b, ys, o', h2, h3, h4⟩ := c0; exact ⟨b, ys, o', by rw [← gl] at h2; exact h2, h3, RpL.mv mv2 _ _ h4⟩
              · rw [← gl] at c0; exact c0
              · obtain ⟨c1, P, ht, t1, t2⟩ := c0; exact ⟨c1, P, ht, by rw [gl]; exact t1, TabW.mv mv2 rfl t2⟩
              · obtain ⟨y1, y2, y3, ⟨φ, y4, y6⟩, y5⟩ := c0
                refine ⟨by rw [gl]; exact y1, ?_, fun z => ?_, ⟨φ, y4, y6⟩, y5⟩
                · rw [ed.hd] at y2
                  rcases List.mem_cons.mp y2 with z | z
                  · rw [z, hx] at y4; cases y4
                  · exact z
                · rcases List.mem_append.mp (show some sysModules ∈ w'.φ ++ [some C] from z) with z | z
                  · exact y3 z
                  · simp at z; rw [z, hx] at y4; cases y4
              · exact ⟨by rw [gl]; exact c0.1, EnvR.mv mv2 c0.2⟩
              · obtain ⟨b, C1, dx, vs', h2, h3, h4, h5, h6⟩ := c0; exact ⟨b, C1, dx, vs', by rw [gl]; exact h2, h3, h4, h5, RpL.mv mv2 _ _ h6⟩
              · obtain ⟨b, es, h2, h3, h4, h5, h6, h7⟩ := c0; exact ⟨b, es, by rw [gl]; exact h2, h3, h4, h5, dct_mv mv2 h6, RpL.mv mv2 _ _ h7⟩
            · have hl' : S'.length ≤ n := Nat.le_of_not_lt hl
              rw [List.getElem?_append_right hl'] at hc
              have e0 : n - S'.length = 0 := by
                cases e : n - S'.length with
                | zero => rfl
                | succ j => rw [e] at hc; simp at hc
              rw [e0] at hc; simp at hc; subst hc
              have en' : n = w'.φ.length := by rw [s'.len]; omega
              subst en'
              exact ⟨C, xs, by show (w'.φ ++ [some C])[w'.φ.length]? = _; rw [List.getElem?_append_right (Nat.le_refl _), Nat.sub_self]; rfl, hx, ra4⟩
        refine he ⟨w'.φ ++ [some C], w1.hd⟩ H' (.ref C) ex2 s4 ?_
        show Rp _ _ _ _ _ _
        unfold Rp
        refine ⟨by show S'.length < (w'.φ ++ [some C]).length; rw [List.length_append, s'.len]; exact Nat.lt_succ_self _, fun a ha => ?_⟩
        have ha' : (w'.φ ++ [some C])[S'.length]? = some (some a) := ha
        rw [← s'.len, List.getElem?_append_right (Nat.le_refl _), Nat.sub_self] at ha'
        simp at ha'; rw [ha']
    · exact (no_end hr0.symm he).elim
  | cons d r =>
    rw [hd] at hr0
    unfold compL at hr0
    unfold gchk at hr0
    split at hr0
    · rename_i gd1
      have hi' : items[i]? = some d := by
        have := congrArg (·[0]?) hd
        simpa using this
      have hr : items.drop (i + 1) = r := by
        have := congrArg List.tail hd
        simpa using this
      have hlt : i < items.length := (List.getElem?_eq_some_iff.mp hi').1
      obtain ⟨j1, j2⟩ := (J1 w' S' H' ed.mv s' gd1).2 i d hi'
      refine .inr ⟨j1, fun H2 => ∃ acc2 S2, G H2 acc2 S2 (compL g tt te gu (wipeR ρ vs) r acc2 S2), fun H2 ⟨acc2, S2, z⟩ => ⟨m - 1, by omega, acc2, S2, by omega, by rw [hr]; exact z⟩, ?_⟩
      intro x H'' hy
      obtain ⟨j3, j4, j5⟩ := j2 x H'' hy
      have enw' : EnvR X.K X.mg w' H'' (wipeR ρ vs) (wipe σ vs) := (enw.mv ed.mv).ext j3
      refine ⟨w', wipeR ρ vs, S', d, j4, enw', j5, ?_⟩
      split at hr0
      · rename_i ρ1 S1' hg1
        rw [hg1]
        intro w2 H2 σ2 e2 s2 en2 k2 l2
        have hw : wipe σ2 vs = wipe σ vs := by
          rw [← wipe_wipe σ vs]
          exact wipe_eq l2 fun i hi => k2 i (fun z => hi (hsl i z))
        refine ⟨hw, w2, ρ1, S1', s2, en2, ?_⟩
        have ed2 : ExtD C w1 H1 w2 H2 := (ed.step j3).step e2
        split at hr0
        · rename_i S2' ht
          rw [ht]
          intro w3 H3 b e3 s3 hb
          cases hb
          rw [if_pos rfl]
          refine ⟨w3, ρ1, S2', s3, en2.ext e3, ?_⟩
          split at hr0
          · rename_i y S3' hy'
            rw [hy']
            intro w4 H4 u e4 s4 r4
            have ed4 : ExtD C w1 H1 w4 H4 := (ed2.step e3).step e4
            have hC4 : C ∈ w4.hd := by rw [ed4.hd]; exact List.mem_cons_self
            have exx : Ext w' H' w4 H4 := ((j3.trans e2).trans e3).trans e4
            have hx4 : H4 C = some (.lst xs) := exx.fr C _ hx (s'.ap C hCin).2
            have ra4 := RpL.ext exx _ _ ra
            split at hr0
            · rename_i hlen
              refine ⟨xs, hx4, by rw [← ra.length]; exact hlen, acc ++ [y], S3', w4, xs ++ [u], ed4.poke, s4.poke hC4 ⟨xs, hx4⟩, upd_same, ?_, _, hr0, he⟩
              exact (RpL.mv (Mv.poke hC4) _ _ ra4).append (RpL.one (Rp.mv (Mv.poke hC4) _ _ r4))
            · exact (no_end hr0.symm he).elim
          · exact (no_end hr0.symm he).elim
        · rename_i S2' ht
          rw [ht]
          intro w3 H3 b e3 s3 hb
          cases hb
          rw [if_neg (by decide)]
          have exx : Ext w' H' w3 H3 := (j3.trans e2).trans e3
          exact ⟨acc, S2', w3, xs, ed2.step e3, s3, exx.fr C _ hx (s'.ap C hCin).2, RpL.ext exx _ _ ra, _, hr0, he⟩
        · exact (no_end hr0.symm he).elim
      · exact (no_end hr0.symm he).elim
    · exact (no_end hr0.symm he).elim
theorem q_lc [Wo] {c : Bool} (hc : X.calm = true) (hN : X.N.Nodup) (hi : PI X tg iter (tI X W fi)) (ok : BlkOk X.N X.env.scope scope own) (hsl : ∀ i ∈ sl, i ∈ own.map (·.2))
    (hg : ∀ (s : Shared) (H : Hp) (C : Addr) (cl : List (Str × Addr)) (fp : List Addr), PG (X.blk s H scope (compEnvC scope cl C X.env) fp) tg (tG (X.blk s H scope (compEnvC scope cl C X.env) fp) sl g)) (ht : ∀ (s : Shared) (H : Hp) (C : Addr) (cl : List (Str × Addr)) (fp : List Addr), PTs (X.blk s H scope (compEnvC scope cl C X.env) fp) ifs (tT (X.blk s H scope (compEnvC scope cl C X.env) fp) W0 tt))
    (he : ∀ (s : Shared) (H : Hp) (C : Addr) (cl : List (Str × Addr)) (fp : List Addr), PE (X.blk s H scope (compEnvC scope cl C X.env) fp) elt (tF (X.blk s H scope (compEnvC scope cl C X.env) fp) W0 te)) (hs : ∀ x, foldedSetIterable iter X.env x = pure x := by intro _; rfl) :
    PE X (.ListComp elt [⟨tg, iter, ifs, 0⟩] scope pos) (tF X W (fLc c fi g tt te (own.map (·.2)))) :=
  PE.wk (pe_lc (g := tG X sl g) (tt := tT X W0 tt) (te := tF X W0 te) hc hN hi ok hg ht he hs) fun σ H Q h => lc_core' hsl h
theorem q_setLc [Wo] {c : Bool} {i : Nat} {y : Str} {py spos : Pos} (hc : X.calm = true) (hN : X.N.Nodup) (hy : X.N[i]? = some y) (hyl : X.env.scope.names.lookup y = some .local)
    (hsw : swapsWith (.ListComp elt [⟨tg, iter, ifs, 0⟩] scope pos) (some (.Name y py)) spos.line X.env = pure true) (hi : PI X tg iter (tI X W fi)) (ok : BlkOk X.N X.env.scope scope own) (hsl : ∀ i ∈ sl, i ∈ own.map (·.2))
    (hg : ∀ (s : Shared) (H : Hp) (C : Addr) (cl : List (Str × Addr)) (fp : List Addr), PG (X.blk s H scope (compEnvC scope cl C X.env) fp) tg (tG (X.blk s H scope (compEnvC scope cl C X.env) fp) sl g)) (ht : ∀ (s : Shared) (H : Hp) (C : Addr) (cl : List (Str × Addr)) (fp : List Addr), PTs (X.blk s H scope (compEnvC scope cl C X.env) fp) ifs (tT (X.blk s H scope (compEnvC scope cl C X.env) fp) W0 tt))
    (he : ∀ (s : Shared) (H : Hp) (C : Addr) (cl : List (Str × Addr)) (fp : List Addr), PE (X.blk s H scope (compEnvC scope cl C X.env) fp) elt (tF (X.blk s H scope (compEnvC scope cl C X.env) fp) W0 te)) (hs : ∀ x, foldedSetIterable iter X.env x = pure x := by intro _; rfl) :
    PS X (.Assign [.Name y py] (.ListComp elt [⟨tg, iter, ifs, 0⟩] scope pos) spos) (tS X W (sSet i (fLc c fi g tt te (own.map (·.2))))) :=
  PS.wk (ps_setLc (g := tG X sl g) (tt := tT X W0 tt) (te := tF X W0 te) hc hN hy hyl hsw hi ok hg ht he hs) fun D σ H ⟨w, ρ, S, s, en, h⟩ => by
    refine lc_core' (Q := fun x H1 => gName i x σ H1 D.nx) hsl ⟨w, ρ, S, s, en, (h.of (R := fun w H => Rp X.K X.mg w H) en).imp (fun v H1 ⟨w1, S1, d, e1, s1, r1, h1⟩ => h1.nx' s1 ((en.ext e1).set r1)) (fun _ _ _ z => z)⟩
end
end Kw
namespace Kw
open PySem PySem.Spec PyProof.Rows L2
/-- a constant's value -/
def CV (d : D) (v : V) : Prop := match d with
  | .int i => v = .int i
  | .str z => v = .str z
  | _ => False
theorem CV.rp {K : PySem.W.Frag} {mg : Str → Option Value} {w : Wd} {H : Hp} {d : D} {v : V} (h : CV d v) : Rp K mg w H d v := by
  cases d <;> first | (exact h.elim) | (have h' := h; unfold CV at h'; subst h'; unfold Rp; rfl)
/-- the name x holds the constant d -/
def GC (mg : Str → Option Value) (x : Str) (d : D) : Prop := ∃ v u, mg x = some u ∧ RelV v u ∧ CV d v
/-- .. a dict with text keys and constants -/
def GD (K : PySem.W.Frag) (P : Params) (mg : Str → Option Value) (x : Str) (kvs : List (Str × D)) : Prop :=
  ∃ a es n, mg x = some (.ref a) ∧ K.lookup a = some ⟨.type "dict", none, .dict es n, #[]⟩ ∧ PySem.W.KeysLit P es.toList ∧ (a == sysModules) = false ∧
    ∀ z, match kvs.lookup z with
      | some d => ∃ u v, PySem.W.nsIn K a z = some (some u) ∧ RelV v u ∧ CV d v
      | none => PySem.W.nsIn K a z = some none
inductive Ents : List DictEntry → List (Str × D) → Prop
  | nil : Ents [] []
  | cons {h : Int} {k : Str} {t : Tok} {u : Value} {v : V} {d : D} {es : List DictEntry} {kvs : List (Str × D)} (r : RelV v u) (c : CV d v) (rest : Ents es kvs) : Ents (⟨h, .str k t, u⟩ :: es) ((k, d) :: kvs)
theorem Ents.find {es : List DictEntry} {kvs : List (Str × D)} (e : Ents es kvs) (z : Str) : match kvs.lookup z with
      | some d => ∃ en v, es.find? (·.key.isStr z) = some en ∧ RelV v en.val ∧ CV d v
      | none => es.find? (·.key.isStr z) = none := by
  induction e with
  | nil => rfl
  | @cons h k t u v d es kvs r c rest ih =>
    by_cases hz : z = k
    · subst hz
      have e1 : List.lookup z ((z, d) :: kvs) = some d := by simp [List.lookup]
      rw [e1]
      refine ⟨⟨h, .str z t, u⟩, v, ?_, r, c⟩
      rw [List.find?_cons_of_pos]
      simp [PySem.W.isStr_of, Value.isStrOf]
    · have e1 : List.lookup z ((k, d) :: kvs) = List.lookup z kvs := by
        have : (z == k) = false := by simpa using hz
        simp [List.lookup, this]
      rw [e1]
      have e2 : List.find? (·.key.isStr z) ((⟨h, .str k t, u⟩ : DictEntry) :: es) = List.find? (·.key.isStr z) es := by
        rw [List.find?_cons_of_neg]
        simp [PySem.W.isStr_of, Value.isStrOf]
        exact fun q => hz q.symm
      rw [e2]; exact ih
theorem Ents.noRef {es : List DictEntry} {kvs : List (Str × D)} (e : Ents es kvs) : es.any (·.refKey) = false := by
  induction e with
  | nil => rfl
  | cons r c rest ih => rw [List.any_cons, ih]; rfl
theorem GD.of {K : PySem.W.Frag} {P : Params} {mg : Str → Option Value} {x : Str} {kvs : List (Str × D)} {a : Addr} {es : Array DictEntry} {n : Nat} (m : mg x = some (.ref a)) (l : K.lookup a = some ⟨.type "dict", none, .dict es n, #[]⟩) (k : PySem.W.KeysLit P es.toList) (s : (a == sysModules) = false) (e : Ents es.toList kvs) : GD K P mg x kvs := by
  refine ⟨a, es, n, m, l, k, s, fun z => ?_⟩
  have f := e.find z
  have u : PySem.W.nsIn K a z = match es.toList.find? (·.key.isStr z) with
      | some e => some (some e.val)
      | none => if es.toList.any (·.refKey) then none else some none := by unfold PySem.W.nsIn; rw [l]; rfl
  split at f
  · obtain ⟨en, v, f1, f2, f3⟩ := f
    exact ⟨en.val, v, by rw [u, f1], f2, f3⟩
  · rw [u, f, e.noRef]; rfl
theorem RpL.ints {K : PySem.W.Frag} {mg : Str → Option Value} {w : Wd} {H : Hp} : ∀ ns : List Int, RpL K mg w H (ns.map D.int) (ns.map V.int)
  | [] => RpL.nil
  | i :: r => RpL.cons (by unfold Rp; rfl) (RpL.ints r)
def gInG (neg : Bool) (n : Str) (kvs : List (Str × D)) (x y : D) (S : Store) : RE D := match x, y with
  | .str z, .glo m => if m = n then .ok (.bl (xor neg (kvs.lookup z).isSome)) S else .no
  | _, _ => .no
def gIxG (n : Str) (kvs : List (Str × D)) (x y : D) (S : Store) : RE D := match x, y with
  | .glo m, .str z => if m = n then (match kvs.lookup z with
    | some d => .ok d S
    | none => .no) else .no
  | _, _ => .no
def gNeg (x : D) (S : Store) : RE D := match x with
  | .int i => .ok (.int (-i)) S
  | _ => .no
section
variable {X : Cx} {W : WX} {a b e : Expr} {es : List Expr} {fa fb : FE} {fs : FA} {pos : Pos} {x : Str} {kvs : List (Str × D)} {d : D}
theorem q_gc [Wo] (h : GC X.mg x d) (hg : Gl X x) (hd : (x == ("__debug__" : Str)) = false := by decide) : PE X (.Name x pos) (tF X W (fC d)) := by
  obtain ⟨v, u, m, r, c⟩ := h
  exact q_const (fun w H => c.rp) (pe_glob hg m r hd)
theorem q_gd [Wo] (h : GD X.K X.w.params X.mg x kvs) (hg : Gl X x) (hd : (x == ("__debug__" : Str)) = false := by decide) : PE X (.Name x pos) (tF X W (fC (.glo x))) := by
  obtain ⟨a, es, n, m, _⟩ := h
  exact q_const (v := .ref a) (fun w H => by unfold Rp; exact ⟨a, rfl, m⟩) (pe_glob hg m rfl hd)
theorem op_inG [Wo] {neg : Bool} {op : CmpOp} (ho : op = if neg then .NotIn else .In) (h : GD X.K X.w.params X.mg x kvs) : ∃ r, OpR X (compareOp op) r ∧ OpV X.K X.mg r (gInG neg x kvs) := by
  obtain ⟨a, es, n, m, l, k, s, f⟩ := h
  have D : KDict X.K X.w a es n := ⟨l, k, s⟩
  have key : ∀ z, PySem.W.nsIn X.K a z = some (match kvs.lookup z with
      | some d => PySem.W.nsIn X.K a z |>.getD none
      | none => none) ∧ ((match kvs.lookup z with
      | some d => PySem.W.nsIn X.K a z |>.getD none
      | none => none).isSome = (kvs.lookup z).isSome) := fun z => by
    have fz := f z
    split at fz
    · rename_i d hd
      obtain ⟨u, v, f1, _, _⟩ := fz
      rw [hd, f1]; exact ⟨rfl, rfl⟩
    · rename_i hd
      rw [hd]; exact ⟨fz, rfl⟩
  have body : ∀ (w : Wd) (S : Store) (H : Hp) (x' y : V) (d e : Kw.D) (Q : VK) (E : Value → Option Addr → Hp → Prop), Sto X.K X.mg w S H → Rp X.K X.mg w H d x' → Rp X.K X.mg w H e y → End X.K X.mg (fun w H => Rp X.K X.mg w H) w H (gInG neg x kvs d e S) Q E → ∃ (z : Str) (r : Option Value), x' = .str z ∧ y = .ref a ∧ PySem.W.nsIn X.K a z = some r ∧ Q (.bl (xor neg r.isSome)) H := by
    intro w S H x' y d e Q E st r1 r2 h
    cases d <;> cases e <;> simp only [gInG] at h <;> try exact h.elim
    rename_i z m'
    split at h
    · rename_i em
      subst em
      unfold Rp at r2
      obtain ⟨b, e1, e2⟩ := r2
      rw [m] at e2; cases e2
      obtain ⟨k1, k2⟩ := key z
      exact ⟨z, _, rp_str r1, e1, k1, by rw [k2]; exact h.ret st rp_b⟩
    · exact h.elim
  cases neg with
  | false =>
    subst ho
    refine ⟨_, op_in_kd D, fun w S H x' y d e Q E st r1 r2 h => ?_⟩
    obtain ⟨z, r, h1, h2, h3, h4⟩ := body w S H x' y d e Q E st r1 r2 h
    exact ⟨z, r, h1, h2, h3, by simpa using h4⟩
  | true =>
    subst ho
    refine ⟨_, op_notIn_kd D, fun w S H x' y d e Q E st r1 r2 h => ?_⟩
    obtain ⟨z, r, h1, h2, h3, h4⟩ := body w S H x' y d e Q E st r1 r2 h
    exact ⟨z, r, h1, h2, h3, by simpa using h4⟩
theorem qt_inG [Wo] (h : GD X.K X.w.params X.mg x kvs) (ha : PE X a (tF X W fa)) (hb : PE X b (tF X W fb)) (hm : behindInMarks .In b = false := by rfl) : PT X (.Compare a [.In] [b] pos) (tT X W (fB (f2 (gInG false x kvs) fa fb))) := by
  obtain ⟨r, h1, h2⟩ := op_inG (neg := false) (op := .In) rfl h
  exact qt_cmp h1 h2 ha hb hm
end
def ExcF (K : PySem.W.Frag) (mg : Str → Option Value) (x : Str) : Prop := ∃ C, mg x = some (.ref C) ∧ PySem.W.excIn K C [.type "ValueError", .type "Exception", .type "BaseException", .type "object"] "ValueError.__new__" = true ∧
  PySem.W.keepIn K (.ref C) = true ∧ PySem.W.subIn K (.ref C) (.type "BaseException") = some true ∧ PySem.W.typeIn K (.ref C) = some (.type "type")
def sRaise (x : Str) : FS := fun ρ S => .ex ⟨x, [], []⟩ ρ S
def RS.noX (r : RS) : RS := match r with
  | .ex _ _ _ => .no
  | r => r
section
variable {X : Cx} {W : WX} {x m : Str} {j : Nat} {p p2 pos pos' : Pos}
theorem q_raise [Wo] (hc : X.calm = true) (tk : Takes X W) (h : ExcF X.K X.mg x) (hg : Gl X x) (hdb : (x == ("__debug__" : Str)) = false := by decide) : PS X (.Raise (some (.Call (.Name x p) [.Constant (.str m) j p2] [] pos)) none pos') (tS X W (sRaise x)) := by
  obtain ⟨C, gC, xC, kC, bC, tC⟩ := h
  refine PS.wk (ps_raise hc tk (pmk_own PySem.F.excBase_ValueError xC gC kC (raises_own bC tC) hg hdb)) fun D σ H ⟨w, ρ, S, s, en, h⟩ => ?_
  exact h w H σ (.ref C) none Ext.refl s en ⟨gC, .inl ⟨rfl, rfl, rfl⟩⟩
end
end Kw
namespace Kw
open PySem PySem.Spec PyProof.Rows L2
/-- the def x stands at the module's top -/
def TF (K : PySem.W.Frag) (mg : Str → Option Value) (x : Str) (st : Stmt) (ps : List Str) : Prop := ∃ f fd, Fun K x x st f fd ∧ mg x = some (.ref f) ∧ Binds K fd ps []
section
variable {K : PySem.W.Frag} {mg : Str → Option Value} {h : Heap}
theorem tf_mk {x : Str} {st : Stmt} {ps : List Str} {f : Addr} {oc : Value} {od an : Option Addr} {osl : Array (Option Value)} {kV doc pm cdv ct : Value} (X : K.In h) (G : h.Ns mainGlobals mg) (a : PySem.W.nsIn K mainGlobals x = some (some (.ref f)))
    (l : K.lookup f = some ⟨oc, od, .func (PySem.W.fnOf x x (defArgs st) (defBody st) (defScope st) .none kV doc pm an cdv ct), osl⟩) (c : PySem.W.codeIn K cdv x = true) (k : PySem.W.keepIn K (.ref f) = true)
    (hb : ∀ (kV doc pm : Value) (an : Option Addr) (cdv ct : Value) (us : List Value), us.length = ps.length → bindArgs (PySem.W.fnOf x x (defArgs st) (defBody st) (defScope st) .none kV doc pm an cdv ct) ⟨us, []⟩ = pure (ps.zip us)) : TF K mg x st ps :=
  ⟨f, _, fun_mk l c k, PySem.W.mg_of X G a, (fun_mk l c k).binds hb⟩
theorem bl_mk {x : Str} (X : K.In h) (G : h.Ns mainGlobals mg) (z : PySem.W.nsIn K mainGlobals x = some none) : mg x = none := PySem.W.mg_none_of X G z
theorem gc_int {x : Str} {i : Int} {t : Tok} (X : K.In h) (G : h.Ns mainGlobals mg) (z : PySem.W.nsIn K mainGlobals x = some (some (.int i t))) : GC mg x (.int i) := ⟨.int i, _, PySem.W.mg_of X G z, ⟨t, rfl⟩, rfl⟩
theorem gc_str {x : Str} {i : Str} {t : Tok} (X : K.In h) (G : h.Ns mainGlobals mg) (z : PySem.W.nsIn K mainGlobals x = some (some (.str i t))) : GC mg x (.str i) := ⟨.str i, _, PySem.W.mg_of X G z, ⟨t, rfl⟩, rfl⟩
theorem gd_mk {P : Params} {x : Str} {kvs : List (Str × D)} {a : Addr} {es : Array DictEntry} {n : Nat} (X : K.In h) (G : h.Ns mainGlobals mg) (z : PySem.W.nsIn K mainGlobals x = some (some (.ref a))) (l : K.lookup a = some ⟨.type "dict", none, .dict es n, #[]⟩) (k : PySem.W.KeysLit P es.toList) (s : (a == sysModules) = false) (e : Ents es.toList kvs) : GD K P mg x kvs :=
  GD.of (PySem.W.mg_of X G z) l k s e
theorem exc_mk {x : Str} {C : Addr} (X : K.In h) (G : h.Ns mainGlobals mg) (z : PySem.W.nsIn K mainGlobals x = some (some (.ref C))) (h1 : PySem.W.excIn K C [.type "ValueError", .type "Exception", .type "BaseException", .type "object"] "ValueError.__new__" = true)
    (h2 : PySem.W.keepIn K (.ref C) = true) (h3 : PySem.W.subIn K (.ref C) (.type "BaseException") = some true) (h4 : PySem.W.typeIn K (.ref C) = some (.type "type")) : ExcF K mg x := ⟨C, PySem.W.mg_of X G z, h1, h2, h3, h4⟩
end
section
variable {P : Program} {w : World} {K : PySem.W.Frag} {mg : Str → Option Value} {base : Heap}
theorem cal_zero [Wo] {x : Str} {st : Stmt} {ps : List Str} (T : TF K mg x st ps) (hps : ps = (defArgs st).args.map (·.arg) := by rfl) : Cal P w K mg base 0 x (fun _ _ => .no) := by
  obtain ⟨f, fd, F, m, b⟩ := T
  exact ⟨f, fd, ps, ⟨fun vs H Q E ⟨w, S, ds, s, r, l, h⟩ => by rw [← r.length]; exact l, fun A outer s H args us vs Q E _ _ _ _ ⟨w, S, ds, st, r, l, h⟩ => h.elim⟩, m, F.kp, b, fun _ _ _ => rfl, hps.trans (fun_names F).symm, fun_look F⟩
theorem calB [Wo] {x : Str} {st : Stmt} {N ps : List Str} {k : Nat} {b : FS} (T : TF K mg x st ps) (S : FnScope N ps (defScope st))
    (hb : ∀ (f : Addr) (cdv : Value) (A : Around) (outer : List Env) (s : Shared) (H : Hp) (E : XK), RoomG k (A.deeper (envOfC x (defScope st) s.heap.objs.size f cdv)) →
      PSs (cxOf (L2.CX P w) P w K mg base N x (defScope st) f cdv A outer s H E) (defBody st) (tS (cxOf (L2.CX P w) P w K mg base N x (defScope st) f cdv A outer s H E) (fun c d _ H => E c d H) b)) (hps : ps = (defArgs st).args.map (·.arg) := by rfl) :
    Cal P w K mg base (k + 1) x (fnB ps.length N.length b) := by
  obtain ⟨f, fd, F, m, bd⟩ := T
  exact cal_B F S m bd hps (hb f)
theorem calC [Wo] {x : Str} {st : Stmt} {N ps : List Str} {k : Nat} {b : FS} (T : TF K mg x st ps) (S : FnScope N ps (defScope st))
    (hb : ∀ (f : Addr) (cdv : Value) (A : Around) (outer : List Env) (s : Shared) (H : Hp) (E : XK), RoomG k (A.deeper (envOfC x (defScope st) s.heap.objs.size f cdv)) →
      PSs (cxOf (L2.CX P w) P w K mg base N x (defScope st) f cdv A outer s H E) (defBody st) (tS (cxOf (L2.CX P w) P w K mg base N x (defScope st) f cdv A outer s H E) (fun c d _ H => E c d H) b)) (hps : ps = (defArgs st).args.map (·.arg) := by rfl) :
    Cal P w K mg base (k + 1) x (fnC ps.length N.length b) := by
  obtain ⟨f, fd, F, m, bd⟩ := T
  exact cal_C F S m bd hps (hb f)
end
theorem hu2 {A : Around} {k : Nat} (hr : RoomG k A) : A.units + 200 < cLine := by have := hr.rm.un; omega
/-- the law's own promise -/
def spLaw (K : PySem.W.Frag) : Sp := fun vs H Q _ => ∃ (a : Addr) (ns : List Int), vs = [.ref a] ∧ SqL K H a (ns.map V.int) ∧ ns.length ≤ 63 ∧ (∀ z ∈ ns, Builtin.Int.intBits z ≤ 1048576) ∧ Only H ∧ ∀ H', Q (.bl true) H'
section
variable {K : PySem.W.Frag} {mg : Str → Option Value}
theorem script_at {H : Hp} {a : Addr} {ns : List Int} (hO : Only H) (hS : SqL K H a (ns.map V.int)) : Rp K mg ⟨[], []⟩ H (.fls (ns.map .int)) (.ref a) := by
  unfold Rp
  refine ⟨a, _, rfl, ?_, RpL.ints ns⟩
  rcases hS with (h | ⟨o, h⟩) | h
  · rcases hO a with z | ⟨o, xs, z⟩
    · rw [z] at h; cases h
    · rw [z] at h; cases h
  · refine .inl ⟨o, h, ?_⟩
    show (¬ some a ∈ ([] : List (Option Addr))) ∧ ¬ a ∈ ([] : List Addr)
    constructor <;> simp
  · exact .inr h
theorem sto0 [Wo] {H : Hp} : Sto K mg ⟨[], []⟩ [] H := ⟨rfl, fun m n a h => by simp at h, fun a h => (nomatch h), fun n c h => by simp at h⟩
theorem law_imp [Wo] {F : FF} (hF : ∀ ns : List Int, ns.length ≤ 63 → (∀ z ∈ ns, Builtin.Int.intBits z ≤ 1048576) → ∃ S', F [.fls (ns.map .int)] [] = .ok (.bl true) S') : ∀ vs H Q E, spLaw K vs H Q E → spF K mg 1 F vs H Q E := by
  rintro vs H Q E ⟨a, ns, rfl, hS, hl, hb, hO, q⟩
  obtain ⟨S', e⟩ := hF ns hl hb
  refine ⟨⟨[], []⟩, [], [.fls (ns.map .int)], sto0, RpL.one (script_at hO hS), rfl, ?_⟩
  rw [e]
  intro w' H' v ex s r
  rw [rp_bl r]; exact q H'
/-- the heap in which nothing is told but the script -/
def scrO (vs : List Value) : Obj := { cls := .type "list", data := .seq vs.toArray }
def scrH (a : Addr) (vs : List Value) (ns : List Int) : Hp := fun b => if b = a then some (.frz (scrO vs) (.lst (ns.map V.int))) else none
theorem scr_look {P : Program} {w : World} {a : Addr} {s : Shared} {vs : List Value} {ns : List Int} (KX : K.In s.heap) (ha : s.heap.get? a = some (scrO vs)) (hi : IntsAre vs ns) (hl : ns.length ≤ 63) :
    ∃ H : Hp, Only H ∧ SqL K H a (ns.map V.int) ∧ HOk P w H s.heap ∧ (∀ b, H b ≠ none → b = a ∧ K.lookup b = none) := by
  have rv := vals_ints hi
  have hz : ns.length ≤ sizeLine := Nat.le_trans hl (by rw [sizeLine_eq]; decide)
  cases hk : K.lookup a with
  | some o =>
    have e := (KX a o hk).symm.trans ha
    cases e
    exact ⟨fun _ => none, fun _ => .inl rfl, .inr ⟨_, vs.toArray, _, hk, rfl, rfl, rfl, by rw [List.size_toArray, hi.length]; exact hz, by simpa using rv⟩, fun b u z => (nomatch z), fun b z => (z rfl).elim⟩
  | none =>
    refine ⟨scrH a vs ns, fun b => ?_, .inl (.inr ⟨scrO vs, if_pos rfl⟩), fun b u z => ?_, fun b z => ?_⟩
    · unfold scrH; split
      · exact .inr ⟨_, _, rfl⟩
      · exact .inl rfl
    · unfold scrH at z
      split at z
      · next e => cases z; subst e; exact ⟨ha, by rw [List.length_map]; exact hz, vs, _, rv, ha⟩
      · cases z
    · unfold scrH at z
      split at z
      · next e => exact ⟨e, e ▸ hk⟩
      · exact (z rfl).elim
theorem head_g {P : Program} {w : World} {mb : Str → Option Value} {k : Nat} {fa a : Addr} {fd : FuncData} {x : Str} {s : Shared} {vs : List Value} {ns : List Int} (KX : K.In s.heap) (gm : s.heap.Ns mainGlobals mg) (gb : s.heap.Ns builtinsNs mb)
    (boot : ∀ y : Str, y ≠ "__name__" → mb y = bootBuiltins y) (lim : s.heap.NoLimit) (ng : s.gens = #[]) (ha : s.heap.get? a = some (scrO vs)) (hi : IntsAre vs ns) (hl : ns.length ≤ 63) (hz : ∀ z ∈ ns, Builtin.Int.intBits z ≤ 1048576) (hr : RoomG k callerA)
    (F : ∀ base : Heap, K.In base → base.Ns mainGlobals mg → FnG P w K mg base k fa fd [x] (spLaw K)) (hbd : ∀ (s : Shared) (u : Value), BindsTo s fd ⟨[u], []⟩ [(x, u)]) (no : ∀ H e s', L2.CX P w [] H s (fun _ _ _ => False) e s' → False) :
    codeAny (model P w) callerA (.call (.ref fa) ⟨[.ref a], []⟩) (fun r s' => r = .ok (.ret (.bool true)) ∧ OldK s.heap s'.heap ∧ s'.os = s.os ∧ AllBare s'.gens) s := by
  obtain ⟨H, hO, hS, hok, hA⟩ := scr_look (P := P) (w := w) KX ha hi hl
  have un : ∀ {b : Addr} {o : Obj}, s.heap.get? b = some o → o ≠ scrO vs ∨ K.lookup b ≠ none → H b = none := fun {b o} g n => by
    apply Classical.byContradiction
    intro z
    obtain ⟨rfl, k0⟩ := hA b z
    rcases n with n | n
    · exact n (Option.some.inj (g.symm.trans ha))
    · exact n k0
  have nsT : ∀ {b : Addr} {m : Str → Option Value}, s.heap.Ns b m → (hidT s.heap H).Ns b m := fun {b m} ⟨o, es, ep, g, d, r⟩ => ⟨o, es, ep, hidT_get g (un g (.inl fun z => by rw [z] at d; exact nomatch d)), d, r⟩
  have kT : K.In (hidT s.heap H) := fun b o g => hidT_get (KX b o g) (un (KX b o g) (.inr fun z => by rw [g] at z; cases z))
  obtain ⟨mc, lim1, lim2⟩ := lim
  have e0 : Env0 P w K mg (hidT s.heap H) callerA [] s H := { frames := rfl, mod := ⟨kT, nsT gm, ⟨mb, nsT gb, boot⟩, ⟨mc, nsT lim1, lim2⟩⟩, bs := fun b o g => of_hidT g, bsz := Nat.le_of_eq (hidT_size _ _), funs := trivial, frf := fun b hb => (nomatch hb), hok := hok, bare := .of_eq ng }
  refine codeAny_mono ((F _ kT (nsT gm)).runs callerA [] s H ⟨[.ref a], []⟩ [.ref a] [.ref a] (fun v _ => v = .bl true) (fun _ _ _ => False) hr e0 (hbd s (.ref a)) (.cons rfl .nil) ⟨a, ns, rfl, hS, hl, hz, hO, fun _ => rfl⟩) fun r s' h => ?_
  match r, h with
  | .error e, h => exact (no H e s' h).elim
  | .ok .next, h => exact h.elim
  | .ok .brk, h => exact h.elim
  | .ok .cont, h => exact h.elim
  | .ok (.ret u), ⟨v, H', os, bare, ch, hok', rv, q⟩ =>
    have q' : v = .bl true := q
    subst q'
    obtain rfl : u = Value.bool true := rv
    refine ⟨rfl, OldK.of_keep fun b o g => ?_, os, bare⟩
    rcases hO b with z | ⟨ob, xs, z⟩
    · exact ch.keep b o g z (fun y => nomatch y) (fun y => nomatch y)
    · obtain ⟨g1, _⟩ := hok b _ z
      rw [g] at g1; cases g1
      exact (hok' b _ (ch.frzs b _ _ z)).1
theorem walk_g {l : PySem.W.OpenLaw} {k : Nat} {q : Program} {loose : List Str} {XP : (Str → Option Value) → Heap → Prop} {YP : World → Heap → Prop} {d : DefRec} {K : Params → PySem.W.Frag} {x : Str} (hn : l.most = some 63) (hdf : d.params.defaults = []) (hr : RoomG k callerA)
    (hY : ∀ (w : World) (h : Heap), YP w h → (K w.params).In h)
    (F : ∀ (w : World) (mg : Str → Option Value) (fa : Addr) (h : Heap), (K w.params).In h → h.Ns mainGlobals mg → mg d.name = some (.ref fa) →
      ∃ fd : FuncData, (∀ (s : Shared) (u : Value), BindsTo s fd ⟨[u], []⟩ [(x, u)]) ∧ ∀ base : Heap, (K w.params).In base → base.Ns mainGlobals mg → FnG l.prog w (K w.params) mg base k fa fd [x] (spLaw (K w.params)))
    (no : ∀ (w : World) (H : Hp) (s : Shared) (e : Value) (s' : Shared), L2.CX l.prog w [] H s (fun _ _ _ => False) e s' → False) : PySem.W.WalkO q loose XP YP l.row.toRowW d [] (fun f vs => PySem.call f vs) := by
  refine Att.attach_callB hn hdf fun w s0 s1 mg mb fa o pm cd doc a vs ns G Y ho hd hcd hmg hobj hints hlen hbits hg => ?_
  obtain ⟨fd, hbd, hF⟩ := F w mg fa _ (hY w _ Y) G.T.g hmg
  exact head_g (hY w _ Y) G.T.g G.T.b G.T.builtins G.T.nolimit hg hobj hints hlen hbits hr hF hbd (fun H e s' => no w H s1 e s')
/-- the law's def as the end wants it -/
theorem law_mk [Wo] {P : Program} {w : World} {h : Heap} {k : Nat} {fa f : Addr} {x nm : Str} {st : Stmt} {N : List Str} {b : FS} {oc : Value} {od an : Option Addr} {osl : Array (Option Value)} {kV doc pm cdv ct : Value} (X : K.In h) (G : h.Ns mainGlobals mg) (hfa : mg nm = some (.ref fa))
    (a : PySem.W.nsIn K mainGlobals nm = some (some (.ref f))) (l : K.lookup f = some ⟨oc, od, .func (PySem.W.fnOf nm nm (defArgs st) (defBody st) (defScope st) .none kV doc pm an cdv ct), osl⟩) (c : PySem.W.codeIn K cdv nm = true) (kk : PySem.W.keepIn K (.ref f) = true)
    (hb : ∀ (kV doc pm : Value) (an : Option Addr) (cdv ct : Value) (us : List Value), us.length = 1 → bindArgs (PySem.W.fnOf nm nm (defArgs st) (defBody st) (defScope st) .none kV doc pm an cdv ct) ⟨us, []⟩ = pure ([x].zip us)) (S : FnScope N [x] (defScope st))
    (body : ∀ base : Heap, K.In base → base.Ns mainGlobals mg → ∀ (f : Addr) (cdv : Value) (A : Around) (outer : List Env) (s : Shared) (H : Hp) (E : XK), RoomG k (A.deeper (envOfC nm (defScope st) s.heap.objs.size f cdv)) →
      PSs (cxOf (L2.CX P w) P w K mg base N nm (defScope st) f cdv A outer s H E) (defBody st) (tS (cxOf (L2.CX P w) P w K mg base N nm (defScope st) f cdv A outer s H E) (fun c d _ H => E c d H) b))
    (hF : ∀ ns : List Int, ns.length ≤ 63 → (∀ z ∈ ns, Builtin.Int.intBits z ≤ 1048576) → ∃ S', fnB 1 N.length b [.fls (ns.map .int)] [] = .ok (.bl true) S') :
    ∃ fd : FuncData, (∀ (s : Shared) (u : Value), BindsTo s fd ⟨[u], []⟩ [(x, u)]) ∧ ∀ base : Heap, K.In base → base.Ns mainGlobals mg → FnG P w K mg base (k + 1) fa fd [x] (spLaw K) := by
  have e := hfa.symm.trans (PySem.W.mg_of X G a)
  cases e
  have F := fun_mk (st := st) l c kk
  refine ⟨_, fun s u => .of_eq (hb kV doc pm an cdv ct [u] rfl), fun base Kb Gb => ?_⟩
  exact (fn_ok F S (body base Kb Gb fa)).weak (law_imp hF)
theorem cx_no {P : Program} {w : World} {H : Hp} {s s' : Shared} {e : Value} (h : L2.CX P w [] H s (fun _ _ _ => False) e s') : False := by
  obtain ⟨_, _, _, _, _, _, _, _, _, _, _, _, z⟩ := h
  exact z
end
end Kw
namespace Kw
open PySem PySem.Spec PyProof.Rows L2
def lookK (k : Key) : List Key → List D → Option D
  | a :: ks, d :: ds => if a = k then some d else lookK k ks ds
  | _, _ => none
/-- a dict that is asked -/
def gIxD (x y : D) (S : Store) : RE D := match x with
  | .dic ks ds => (match y with
    | .str z => (match lookK (.inr z) ks ds with
      | some d => .ok d S
      | none => .no)
    | .int i => (match lookK (.inl i) ks ds with
      | some d => .ok d S
      | none => .no)
    | _ => .no)
  | _ => .no
end Kw
namespace Kw
open PySem PySem.Spec PyProof.Rows L2
theorem ofString_inj {a b : String} (h : Str.ofString a = Str.ofString b) : a = b := by
  have h1 : (Str.ofString a).cps.toList = (Str.ofString b).cps.toList := by rw [h]
  have key : ∀ s : String, (Str.ofString s).cps.toList = s.toList.map Char.toNat := fun s => by
    show ((cpsOfBytes 0 0 s.toByteArray.data.toList).toArray).toList = _
    rw [cpsOfBytes_string]
  rw [key, key] at h1
  have inj : ∀ {l m : List Char}, l.map Char.toNat = m.map Char.toNat → l = m := fun {l m} h => List.map_inj_right (fun x y e => Char.toNat_inj.mp e) |>.mp h
  have h2 := inj h1
  rw [← String.ofList_toList (s := a), ← String.ofList_toList (s := b), h2]
@[simp] theorem ofString_eq {a b : String} : (Str.ofString a = Str.ofString b) ↔ a = b := ⟨ofString_inj, fun h => by rw [h]⟩
@[simp] theorem ofString_beq {a b : String} : (Str.ofString a == Str.ofString b) = decide (a = b) := by
  by_cases h : a = b
  · subst h; simp
  · have : Str.ofString a ≠ Str.ofString b := fun q => h (ofString_inj q)
    simp [h, this]
@[simp] theorem strOk_of (a : String) : PyData.strOk (Str.ofString a) = true := by
  have key : (Str.ofString a).cps.toList = a.toList.map Char.toNat := by
    show ((cpsOfBytes 0 0 a.toByteArray.data.toList).toArray).toList = _
    rw [cpsOfBytes_string]
  unfold PyData.strOk
  rw [← Array.all_toList, key, List.all_map, List.all_eq_true]
  intro c _
  have h := c.valid
  simp only [UInt32.isValidChar, Nat.isValidChar] at h
  show decide (c.toNat < 1114112) = true
  rw [decide_eq_true_eq]
  show c.val.toNat < 1114112
  omega
section
variable {α β : Type} {a : α} {S : Store} {x : Ex} {f : α → Store → RE β} {ρ : FEnv} {k : α → Store → RS}
@[simp] theorem bnd_ok : (RE.ok a S).bnd f = f a S := rfl
@[simp] theorem bnd_ex : (RE.ex x S : RE α).bnd f = .ex x S := rfl
@[simp] theorem bnd_no : (RE.no : RE α).bnd f = .no := rfl
@[simp] theorem toS_ok : (RE.ok a S).toS ρ k = k a S := rfl
@[simp] theorem toS_ex : (RE.ex x S : RE α).toS ρ k = .ex x ρ S := rfl
@[simp] theorem toS_no : (RE.no : RE α).toS ρ k = .no := rfl
variable {g : FS} {d : D} {ρ' : FEnv}
@[simp] theorem sb_nx : (RS.nx ρ S).bnd g = g ρ S := rfl
@[simp] theorem sb_rt : (RS.rt d S).bnd g = .rt d S := rfl
@[simp] theorem sb_bk : (RS.bk ρ S).bnd g = .bk ρ S := rfl
@[simp] theorem sb_ct : (RS.ct ρ S).bnd g = .ct ρ S := rfl
@[simp] theorem sb_ex : (RS.ex x ρ S).bnd g = .ex x ρ S := rfl
@[simp] theorem sb_no : (RS.no).bnd g = .no := rfl
@[simp] theorem fin_nx : (RS.nx ρ S).fin = .ok .non S := rfl
@[simp] theorem fin_rt : (RS.rt d S).fin = .ok d S := rfl
@[simp] theorem fin_ex : (RS.ex x ρ S).fin = .ex x S := rfl
end
section
variable {ρ : FEnv} {S : Store} {d e : D} {x : Option D} {i : Nat} {a b c : FE} {fs : FA} {ta tb : FT}
@[simp] theorem fVar_z : fVar 0 (some d :: ρ) S = .ok d S := rfl
@[simp] theorem fVar_s : fVar (i + 1) (x :: ρ) S = fVar i ρ S := rfl
@[simp] theorem fC_ap : fC d ρ S = .ok d S := rfl
@[simp] theorem f1_ap {g : D → Store → RE D} : f1 g a ρ S = (a ρ S).bnd g := rfl
@[simp] theorem f2_ap {g : D → D → Store → RE D} : f2 g a b ρ S = (a ρ S).bnd fun x S1 => (b ρ S1).bnd fun y S2 => g x y S2 := rfl
@[simp] theorem fNil_ap : fNil ρ S = .ok [] S := rfl
@[simp] theorem fCons_ap : fCons a fs ρ S = (a ρ S).bnd fun x S1 => (fs ρ S1).bnd fun xs S2 => .ok (x :: xs) S2 := rfl
@[simp] theorem fArg_ap {g : FF} : fArg g fs ρ S = (fs ρ S).bnd g := rfl
def toB (d : D) (S : Store) : RE Bool := match d with
  | .bl k => .ok k S
  | _ => .no
@[simp] theorem toB_bl {k : Bool} : toB (.bl k) S = .ok k S := rfl
@[simp] theorem fB_ap : fB a ρ S = (a ρ S).bnd toB := rfl
def brB (d : D) (S : Store) (t f : RE D) : RE D := match d with
  | .bl k => if k then t else f
  | _ => .no
@[simp] theorem brB_bl {k : Bool} {t f : RE D} : brB (.bl k) S t f = if k then t else f := rfl
@[simp] theorem fChain_ap {g g' : D → D → Store → RE D} : fChain g g' a b c ρ S = (a ρ S).bnd fun x S1 => (b ρ S1).bnd fun y S2 => (g x y S2).bnd fun k S3 => brB k S3 ((c ρ S3).bnd fun z S4 => g' y z S4) (.ok (.bl false) S3) := by
  unfold fChain
  congr; funext x S1; congr; funext y S2; congr; funext k S3
  cases k <;> try rfl
  rename_i k; cases k <;> rfl
@[simp] theorem fAnd_ap : fAnd ta tb ρ S = (ta ρ S).bnd fun k S1 => if k then tb ρ S1 else .ok false S1 := by
  unfold fAnd; congr; funext k S1; cases k <;> rfl
@[simp] theorem fOr_ap : fOr ta tb ρ S = (ta ρ S).bnd fun k S1 => if k then .ok true S1 else tb ρ S1 := by
  unfold fOr; congr; funext k S1; cases k <;> rfl
@[simp] theorem fNot_ap : fNot ta ρ S = (ta ρ S).bnd fun k S1 => .ok (!k) S1 := rfl
@[simp] theorem fIf_ap : fIf ta a b ρ S = (ta ρ S).bnd fun k S1 => if k then a ρ S1 else b ρ S1 := by
  unfold fIf; congr; funext k S1; cases k <;> rfl
@[simp] theorem fAndV_ap : fAndV a b ρ S = (a ρ S).bnd fun k S1 => brB k S1 (b ρ S1) (.ok (.bl false) S1) := by
  unfold fAndV; congr; funext k S1; cases k <;> try rfl
  rename_i k; cases k <;> rfl
@[simp] theorem fOrV_ap : fOrV a b ρ S = (a ρ S).bnd fun k S1 => brB k S1 (.ok (.bl true) S1) (b ρ S1) := by
  unfold fOrV; congr; funext k S1; cases k <;> try rfl
  rename_i k; cases k <;> rfl
def truR (d : D) (S : Store) : RE Bool := match truD S d with
  | some k => .ok k S
  | none => .no
@[simp] theorem truR_bl {k : Bool} : truR (.bl k) S = .ok k S := rfl
@[simp] theorem truR_int {k : Int} : truR (.int k) S = .ok (k != 0) S := rfl
@[simp] theorem truR_non : truR .non S = .ok false S := rfl
@[simp] theorem truR_lst {ds : List D} : truR (.lst ds) S = .ok (!ds.isEmpty) S := rfl
@[simp] theorem truR_tup {ds : List D} : truR (.tup ds) S = .ok (!ds.isEmpty) S := rfl
@[simp] theorem fTru_ap : fTru a ρ S = (a ρ S).bnd truR := rfl
@[simp] theorem fNotV_ap : fNotV a ρ S = (a ρ S).bnd fun x S1 => (truR x S1).bnd fun k S2 => .ok (.bl (!k)) S2 := by
  unfold fNotV; congr; funext x S1; unfold truR; cases truD S1 x <;> rfl
def isiR (T : String) (d : D) (S : Store) : RE D := match tyD S d with
  | some t => .ok (.bl (isiB t T)) S
  | none => .no
@[simp] theorem fIsi_ap {T : String} : fIsi T a ρ S = (a ρ S).bnd (isiR T) := rfl
@[simp] theorem isi_int {T : String} {i : Int} : isiR T (.int i) S = .ok (.bl (decide (T = "int"))) S := by
  have : (isiB "int" T) = decide (T = "int") := by
    unfold isiB
    by_cases h : T = "int"
    · subst h; rfl
    · have h' : ¬ "int" = T := fun z => h z.symm
      simp [h, h']
  show RE.ok (D.bl (isiB "int" T)) S = _
  rw [this]
@[simp] theorem isi_bl {T : String} {i : Bool} : isiR T (.bl i) S = .ok (.bl (decide (T = "bool") || decide (T = "int"))) S := by
  have : (isiB "bool" T) = (decide (T = "bool") || decide (T = "int")) := by
    unfold isiB
    by_cases h : T = "bool"
    · subst h; rfl
    · have h' : ¬ "bool" = T := fun z => h z.symm
      by_cases h2 : T = "int"
      · subst h2; rfl
      · simp [h, h', h2]
  show RE.ok (D.bl (isiB "bool" T)) S = _
  rw [this]
theorem isiB_other {t T : String} (h : t ≠ "bool") : isiB t T = decide (T = t) := by
  unfold isiB
  by_cases e : T = t
  · subst e; simp
  · have e' : ¬ t = T := fun z => e z.symm
    simp [h, e, e']
@[simp] theorem isi_str {T : String} {i : Str} : isiR T (.str i) S = .ok (.bl (decide (T = "str"))) S := by
  show RE.ok (D.bl (isiB "str" T)) S = _
  rw [isiB_other (by decide)]
@[simp] theorem isi_non {T : String} : isiR T .non S = .ok (.bl (decide (T = "NoneType"))) S := by
  show RE.ok (D.bl (isiB "NoneType" T)) S = _
  rw [isiB_other (by decide)]
@[simp] theorem isi_tup {T : String} {ds : List D} : isiR T (.tup ds) S = .ok (.bl (decide (T = "tuple"))) S := by
  show RE.ok (D.bl (isiB "tuple" T)) S = _
  rw [isiB_other (by decide)]
@[simp] theorem isi_lst {T : String} {ds : List D} : isiR T (.lst ds) S = .ok (.bl (decide (T = "list"))) S := by
  show RE.ok (D.bl (isiB "list" T)) S = _
  rw [isiB_other (by decide)]
@[simp] theorem isi_dic {T : String} {ks : List Key} {ds : List D} : isiR T (.dic ks ds) S = .ok (.bl (decide (T = "dict"))) S := by
  show RE.ok (D.bl (isiB "dict" T)) S = _
  rw [isiB_other (by decide)]
theorem isi_loc {T : String} {n : Nat} {ds : List D} (h : cellOf S n = some ds) : isiR T (.loc n) S = .ok (.bl (decide (T = "list"))) S := by
  show (match (cellOf S n).map (fun _ => "list") with | some t => RE.ok (D.bl (isiB t T)) S | none => .no) = _
  rw [h]
  show RE.ok (D.bl (isiB "list" T)) S = _
  rw [isiB_other (by decide)]
end
section
variable {ρ : FEnv} {S : Store} {f g : FS} {fe : FE} {tc : FT} {i : Nat} {fa : FA}
@[simp] theorem sNil_ap : sNil ρ S = .nx ρ S := rfl
@[simp] theorem sSeq_ap : sSeq f g ρ S = (f ρ S).bnd g := rfl
@[simp] theorem sExp_ap : sExp fe ρ S = (fe ρ S).toS ρ fun _ S1 => .nx ρ S1 := rfl
@[simp] theorem sRet_ap : sRet fe ρ S = (fe ρ S).toS ρ fun d S1 => .rt d S1 := rfl
@[simp] theorem sRetN_ap : sRetN ρ S = .rt .non S := rfl
@[simp] theorem sSet_ap : sSet i fe ρ S = (fe ρ S).toS ρ fun d S1 => .nx (ρ.set i (some d)) S1 := rfl
@[simp] theorem sIf_ap : sIf tc f g ρ S = (tc ρ S).toS ρ fun k S1 => if k then f ρ S1 else g ρ S1 := by
  unfold sIf; congr; funext k S1; cases k <;> rfl
@[simp] theorem sRaise_ap {x : Str} : sRaise x ρ S = .ex ⟨x, [], []⟩ ρ S := rfl
def gRes (r : Option (FEnv × Store)) : RS := match r with
  | some (ρ', S') => .nx ρ' S'
  | none => .no
@[simp] theorem gRes_some {ρ' : FEnv} {S' : Store} : gRes (some (ρ', S')) = .nx ρ' S' := rfl
@[simp] theorem sAsg_ap {g : FG} : sAsg fe g ρ S = (fe ρ S).toS ρ fun d S1 => gRes (g d ρ S1) := rfl
@[simp] theorem gN_ap {d : D} : gN i d ρ S = some (ρ.set i (some d), S) := rfl
@[simp] theorem gsNil_ap : gsNil [] ρ S = some (ρ, S) := rfl
def gBnd (r : Option (FEnv × Store)) (k : FEnv → Store → Option (FEnv × Store)) : Option (FEnv × Store) := match r with
  | some (ρ', S') => k ρ' S'
  | none => none
@[simp] theorem gBnd_some {ρ' : FEnv} {S' : Store} {k : FEnv → Store → Option (FEnv × Store)} : gBnd (some (ρ', S')) k = k ρ' S' := rfl
@[simp] theorem gsCons_ap {g : FG} {gs : FGs} {d : D} {r : List D} : gsCons g gs (d :: r) ρ S = gBnd (g d ρ S) (gs r) := rfl
@[simp] theorem gTu_ap {n : Nat} {gs : FGs} {ds : List D} : gTu n gs (.tup ds) ρ S = if ds.length = n then gs ds ρ S else none := rfl
def par2 (i j : Nat) (ρ : FEnv) (ds : List D) (S : Store) : RS := match ds with
  | [x, y] => .nx ((ρ.set i (some x)).set j (some y)) S
  | _ => .no
@[simp] theorem par2_ap {j : Nat} {x y : D} : par2 i j ρ [x, y] S = .nx ((ρ.set i (some x)).set j (some y)) S := rfl
@[simp] theorem sPar_ap' {j : Nat} : sPar i j fa ρ S = (fa ρ S).toS ρ (par2 i j ρ) := rfl
def augR (i : Nat) (g : D → D → Store → RE D) (x : Option (Option D)) (f : FE) (ρ : FEnv) (S : Store) : RS := match x with
  | some (some x) => (f ρ S).toS ρ fun y S1 => (g x y S1).toS ρ fun z S2 => .nx (ρ.set i (some z)) S2
  | _ => .no
@[simp] theorem augR_ap {g : D → D → Store → RE D} {x : D} : augR i g (some (some x)) fe ρ S = (fe ρ S).toS ρ fun y S1 => (g x y S1).toS ρ fun z S2 => .nx (ρ.set i (some z)) S2 := rfl
@[simp] theorem sAug_ap {g : D → D → Store → RE D} : sAug i g fe ρ S = augR i g ρ[i]? fe ρ S := rfl
end
section
variable {S : Store} {i j : Int} {a b : Str} {c : Bool} {xs ys ds : List D} {k : Bool} {d e : D}
@[simp] theorem gAdd_ii : gAdd c (.int i) (.int j) S = .ok (.int (i + j)) S := rfl
@[simp] theorem gAdd_ss : gAdd c (.str a) (.str b) S = if a.length + b.length ≤ sizeLine then .ok (.str (a ++ b)) S else .no := rfl
@[simp] theorem gAdd_tt : gAdd c (.tup xs) (.tup ys) S = mkTup (xs ++ ys) S := rfl
@[simp] theorem gAdd_ll : gAdd false (.lst xs) (.lst ys) S = mkLst (xs ++ ys) S := rfl
@[simp] theorem gSub_ii : Kw.gSub (.int i) (.int j) S = .ok (.int (i - j)) S := rfl
@[simp] theorem gMul_ii : gMul c (.int i) (.int j) S = if CMul i j ∨ CMulW i j then .ok (.int (i * j)) S else .no := rfl
@[simp] theorem gMod_ii : gMod (.int i) (.int j) S = if 0 < j then .ok (.int (i % j)) S else .no := rfl
@[simp] theorem gDiv_ii : gDiv (.int i) (.int j) S = if 0 < j ∧ j.natAbs.log2 < 9000 then .ok (.int (i / j)) S else .no := rfl
@[simp] theorem gPow_ii : gPow (.int i) (.int j) S = if 0 ≤ j ∧ j ≤ 1000000 ∧ i.natAbs < 2 ^ 64 then .ok (.int (i ^ j.toNat)) S else .no := rfl
@[simp] theorem gIAdd_ii : gIAdd (.int i) (.int j) S = .ok (.int (i + j)) S := rfl
@[simp] theorem gNeg_i : gNeg (.int i) S = .ok (.int (-i)) S := rfl
@[simp] theorem gCmp_ii {p : Int → Int → Bool} : gCmp p (.int i) (.int j) S = .ok (.bl (p i j)) S := rfl
@[simp] theorem gEq_ss : gEq (.str a) (.str b) S = .ok (.bl (a == b)) S := rfl
@[simp] theorem gNe_ss : gNe (.str a) (.str b) S = .ok (.bl (!(a == b))) S := rfl
@[simp] theorem gEq_ii : gEq (.int i) (.int j) S = .ok (.bl (i == j)) S := by
  simp [gEq, eqE, pyS, okPy, PyData.canLay0, PyData.depth, PyData.eqv]
@[simp] theorem gNe_ii : gNe (.int i) (.int j) S = .ok (.bl (!(i == j))) S := by
  simp [gNe, eqE, pyS, okPy, PyData.canLay0, PyData.depth, PyData.eqv]
@[simp] theorem gEq_bb {i j : Bool} : gEq (.bl i) (.bl j) S = .ok (.bl (i == j)) S := by
  simp [gEq, eqE, pyS, okPy, PyData.canLay0, PyData.depth, PyData.eqv]
@[simp] theorem gNe_bb {i j : Bool} : gNe (.bl i) (.bl j) S = .ok (.bl (!(i == j))) S := by
  simp [gNe, eqE, pyS, okPy, PyData.canLay0, PyData.depth, PyData.eqv]
@[simp] theorem gLen_tup : gLen [.tup ds] S = .ok (.int ds.length) S := rfl
@[simp] theorem gLen_lst : gLen [.lst ds] S = .ok (.int ds.length) S := rfl
@[simp] theorem gLen_fls : gLen [.fls ds] S = .ok (.int ds.length) S := rfl
@[simp] theorem gLen_str : gLen [.str a] S = if a.length ≤ sizeLine then .ok (.int a.length) S else .no := rfl
@[simp] theorem gInt_i : gInt [.int i] S = .ok (.int i) S := rfl
@[simp] theorem gInt_b : gInt [.bl k] S = .ok (.int (if k then 1 else 0)) S := rfl
@[simp] theorem gTuple_lst : gTuple [.lst ds] S = .ok (.tup ds) S := rfl
@[simp] theorem gTuple_tup : gTuple [.tup ds] S = .ok (.tup ds) S := rfl
@[simp] theorem gList_lst : gList false [.lst ds] S = .ok (.lst ds) S := rfl
@[simp] theorem gList_tup : gList false [.tup ds] S = .ok (.lst ds) S := rfl
@[simp] theorem gIs_nn : gIs c .non .non S = .ok (.bl (xor c true)) S := rfl
@[simp] theorem gIs_tn : gIs c (.tup ds) .non S = .ok (.bl (xor c false)) S := rfl
@[simp] theorem gIs_ln : gIs c (.lst ds) .non S = .ok (.bl (xor c false)) S := rfl
@[simp] theorem gIs_in : gIs c (.int i) .non S = .ok (.bl (xor c false)) S := rfl
@[simp] theorem gIs_sn : gIs c (.str a) .non S = .ok (.bl (xor c false)) S := rfl
@[simp] theorem gIs_bn : gIs c (.bl k) .non S = .ok (.bl (xor c false)) S := rfl
@[simp] theorem gIs_bb {l : Bool} : gIs c (.bl k) (.bl l) S = .ok (.bl (xor c (decide (k = l)))) S := rfl
def ixR (ds : List D) (i : Int) (S : Store) : RE D := match L2.atI ds i with
  | some d => .ok d S
  | none => .no
@[simp] theorem ixR_nat {n : Nat} : ixR ds (n : Int) S = match ds[n]? with
  | some d => .ok d S
  | none => .no := by
  unfold ixR
  cases h : ds[n]? with
  | some d => rw [atI_nat h]
  | none =>
    have hl : ds.length ≤ n := List.getElem?_eq_none_iff.mp h
    have : L2.atI ds (n : Int) = none := by
      unfold L2.atI ixN
      rw [if_pos (by omega), if_neg (by omega)]; rfl
    rw [this]
@[simp] theorem ixR_0 : ixR (d :: ds) 0 S = .ok d S := by
  have := ixR_nat (ds := d :: ds) (n := 0) (S := S)
  simpa using this
@[simp] theorem ixR_1 : ixR (d :: e :: ds) 1 S = .ok e S := by
  have := ixR_nat (ds := d :: e :: ds) (n := 1) (S := S)
  simpa using this
@[simp] theorem ixR_2 {e' : D} : ixR (d :: e :: e' :: ds) 2 S = .ok e' S := by
  have := ixR_nat (ds := d :: e :: e' :: ds) (n := 2) (S := S)
  simpa using this
@[simp] theorem gIx_tup : gIx (.tup ds) (.int i) S = ixR ds i S := rfl
@[simp] theorem gIx_lst : gIx (.lst ds) (.int i) S = ixR ds i S := rfl
@[simp] theorem gIx_fls : gIx (.fls ds) (.int i) S = ixR ds i S := rfl
theorem gIx_loc {n : Nat} (h : cellOf S n = some ds) : gIx (.loc n) (.int i) S = ixR ds i S := by
  show (match cellOf S n with | some ds => ixR ds i S | none => .no) = _
  rw [h]
end
@[simp] theorem short2 {n : Nat} (h : n ≤ 1000) : (n ≤ sizeLine) = True := eq_true (Nat.le_trans h (by decide))
theorem sz : sizeLine = 16777216 := rfl
section
variable {S : Store} {ds : List D}
@[simp] theorem mkTup_ap : mkTup ds S = if ds.length ≤ sizeLine then .ok (.tup ds) S else .no := rfl
@[simp] theorem mkLst_ap : mkLst ds S = if ds.length ≤ sizeLine then .ok (.lst ds) S else .no := rfl
@[simp] theorem mkCel_ap : mkCel ds S = if ds.length ≤ sizeLine then .ok (.loc S.length) (S ++ [.lst ds]) else .no := rfl
section
variable {n : Nat} {b : FS} {a1 a2 a3 a4 a5 : D}
@[simp] theorem fnB_0 : fnB 0 n b [] S = (b (List.replicate n none) S).fin := rfl
@[simp] theorem fnB_1 : fnB 1 n b [a1] S = (b (some a1 :: List.replicate (n - 1) none) S).fin := rfl
@[simp] theorem fnB_2 : fnB 2 n b [a1, a2] S = (b (some a1 :: some a2 :: List.replicate (n - 2) none) S).fin := rfl
@[simp] theorem fnB_3 : fnB 3 n b [a1, a2, a3] S = (b (some a1 :: some a2 :: some a3 :: List.replicate (n - 3) none) S).fin := rfl
@[simp] theorem fnB_4 : fnB 4 n b [a1, a2, a3, a4] S = (b (some a1 :: some a2 :: some a3 :: some a4 :: List.replicate (n - 4) none) S).fin := rfl
@[simp] theorem fnB_5 : fnB 5 n b [a1, a2, a3, a4, a5] S = (b (some a1 :: some a2 :: some a3 :: some a4 :: some a5 :: List.replicate (n - 5) none) S).fin := rfl
end
end
end Kw
namespace Kw
open PySem PySem.Spec PyProof.Rows L2
section
variable {S T : Store} {n : Nat} {ds xs ys : List D} {c c' : Cell} {d x : D} {i : Int} {ρ : FEnv}
@[simp] theorem cellOf_app : cellOf (S ++ [.lst ds]) S.length = some ds := by simp [cellOf]
@[simp] theorem cellM_app : cellM (S ++ [.lst ds]) S.length = some ds := by simp [cellM]
@[simp] theorem set_app : (S ++ [c]).set S.length c' = S ++ [c'] := by simp [List.set_append]
theorem cellOf_of (h : S[n]? = some (.lst ds)) : cellOf S n = some ds := by simp [cellOf, h]
theorem cellM_of (h : S[n]? = some (.lst ds)) : cellM S n = some ds := by simp [cellM, h]
def ixO (o : Option (List D)) (i : Int) (S : Store) : RE D := match o with
  | some ds => ixR ds i S
  | none => .no
@[simp] theorem ixO_some : ixO (some ds) i S = ixR ds i S := rfl
@[simp] theorem gIx_locO : gIx (.loc n) (.int i) S = ixO (cellOf S n) i S := rfl
theorem cut_ok {S : Store} {d : D} (T : Store) (h : d.under S.length = true) : cutR S (.ok d (S ++ T)) = .ok d S := by
  have hc : CutOk S (S ++ T) := ⟨by simp, fun i c hi e => .inl (by rw [List.getElem?_append_left hi] at e; exact e)⟩
  have hd : (D.under S.length d = true ∧ CutOk S (S ++ T)) := ⟨h, hc⟩
  simp [cutR, hd]
theorem fnC_ap {m n : Nat} {b : FS} : fnC m n b ds S = cutR S (fnB m n b ds S) := rfl
/-- a list beside the empty one -/
theorem gNe_nil (h : cellOf S n = some ds) : gNe (.loc n) (.lst []) S = .ok (.bl (!ds.isEmpty)) S := by
  unfold gNe eqE seqL
  simp only
  rw [h]; rfl
@[simp] theorem gEq_te : gEq (.tup ds) (.tup []) S = .ok (.bl ds.isEmpty) S := rfl
@[simp] theorem gNe_te : gNe (.tup ds) (.tup []) S = .ok (.bl (!ds.isEmpty)) S := rfl
@[simp] theorem gEq_ts {a b : Str} : gEq (.tup (.str a :: ds)) (.tup [.str b]) S = .ok (.bl (a == b && ds.isEmpty)) S := rfl
@[simp] theorem gNe_ts {a b : Str} : gNe (.tup (.str a :: ds)) (.tup [.str b]) S = .ok (.bl (!(a == b && ds.isEmpty))) S := rfl
@[simp] theorem gEq_le : gEq (.lst ds) (.lst []) S = .ok (.bl ds.isEmpty) S := rfl
@[simp] theorem gNe_le : gNe (.lst ds) (.lst []) S = .ok (.bl (!ds.isEmpty)) S := rfl
@[simp] theorem gInG_str {neg : Bool} {nm z : Str} {kvs : List (Str × D)} : gInG neg nm kvs (.str z) (.glo nm) S = .ok (.bl (xor neg (kvs.lookup z).isSome)) S := by
  show (if nm = nm then RE.ok (D.bl (xor neg (kvs.lookup z).isSome)) S else .no) = _
  rw [if_pos rfl]
def luR (o : Option D) (S : Store) : RE D := match o with
  | some d => .ok d S
  | none => .no
@[simp] theorem luR_some : luR (some d) S = .ok d S := rfl
@[simp] theorem gIxG_str {nm z : Str} {kvs : List (Str × D)} : gIxG nm kvs (.glo nm) (.str z) S = luR (kvs.lookup z) S := by
  show (if nm = nm then luR (kvs.lookup z) S else .no) = _
  rw [if_pos rfl]
@[simp] theorem gIxD_str {ks : List Key} {z : Str} : gIxD (.dic ks ds) (.str z) S = luR (lookK (.inr z) ks ds) S := rfl
@[simp] theorem gIxD_int {ks : List Key} {z : Int} : gIxD (.dic ks ds) (.int z) S = luR (lookK (.inl z) ks ds) S := rfl
@[simp] theorem fNone_ap : fNone ρ S = .ok none S := rfl
def toI (d : D) (S : Store) : RE (Option Int) := match d with
  | .int i => .ok (some i) S
  | _ => .no
@[simp] theorem toI_int : toI (.int i) S = .ok (some i) S := rfl
@[simp] theorem fSome_ap {f : FE} : fSome f ρ S = (f ρ S).bnd toI := rfl
@[simp] theorem fSl_ap {g : D → Option Int → Option Int → Store → RE D} {a : FE} {l u : FO} : fSl g a l u ρ S = (a ρ S).bnd fun x S1 => (l ρ S1).bnd fun lo S2 => (u ρ S2).bnd fun hi S3 => g x lo hi S3 := rfl
@[simp] theorem gSl_tup {c : Bool} {lo hi : Option Int} : gSl c (.tup ds) lo hi S = .ok (.tup (cutL ds lo hi)) S := rfl
@[simp] theorem gSl_lst {lo hi : Option Int} : gSl false (.lst ds) lo hi S = .ok (.lst (cutL ds lo hi)) S := rfl
@[simp] theorem gSl_fls {lo hi : Option Int} : gSl false (.fls ds) lo hi S = .ok (.lst (cutL ds lo hi)) S := rfl
def slO (o : Option (List D)) (lo hi : Option Int) (S : Store) : RE D := match o with
  | some ds => .ok (.lst (cutL ds lo hi)) S
  | none => .no
@[simp] theorem slO_some {lo hi : Option Int} : slO (some ds) lo hi S = .ok (.lst (cutL ds lo hi)) S := rfl
@[simp] theorem gSl_loc {lo hi : Option Int} : gSl false (.loc n) lo hi S = slO (cellOf S n) lo hi S := rfl
def mthR (g : D → List D → Store → RE D) (a : FA) (ρ : FEnv) (x : D) (S : Store) : RE D := match seqL S x with
  | some _ => (a ρ S).bnd fun ds S2 => g x ds S2
  | none => .no
@[simp] theorem fMth_ap {g : D → List D → Store → RE D} {o : FE} {a : FA} : fMth g o a ρ S = (o ρ S).bnd (mthR g a ρ) := rfl
theorem mthR_loc {g : D → List D → Store → RE D} {a : FA} (h : cellOf S n = some xs) : mthR g a ρ (.loc n) S = (a ρ S).bnd fun ds S2 => g (.loc n) ds S2 := by
  show (match cellOf S n with | some _ => (a ρ S).bnd fun ds S2 => g (.loc n) ds S2 | none => .no) = _
  rw [h]
theorem gAppend_loc (h : cellM S n = some xs) (hl : xs.length < sizeLine) : gAppend (.loc n) [d] S = .ok .non (S.set n (.lst (xs ++ [d]))) := by
  simp [gAppend, h, hl]
theorem gExtend_loc (h : cellM S n = some xs) (hl : xs.length + ys.length ≤ sizeLine) : gExtend (.loc n) [.lst ys] S = .ok .non (S.set n (.lst (xs ++ ys))) := by
  simp [gExtend, h, seqM, hl]
theorem gPop0_loc (h : cellM S n = some (xs ++ [d])) : gPop0 (.loc n) [] S = .ok d (S.set n (.lst xs)) := by
  simp [gPop0, h]
end
def loopR (w : FS) (r : RS) : RS := match r with
  | .nx ρ2 S2 => w ρ2 S2
  | .ct ρ2 S2 => w ρ2 S2
  | .bk ρ2 S2 => .nx ρ2 S2
  | z => z
section
variable {w : FS} {ρ : FEnv} {S : Store} {d : D} {x : Ex}
@[simp] theorem loopR_nx : loopR w (.nx ρ S) = w ρ S := rfl
@[simp] theorem loopR_ct : loopR w (.ct ρ S) = w ρ S := rfl
@[simp] theorem loopR_bk : loopR w (.bk ρ S) = .nx ρ S := rfl
@[simp] theorem loopR_rt : loopR w (.rt d S) = .rt d S := rfl
@[simp] theorem loopR_ex : loopR w (.ex x ρ S) = .ex x ρ S := rfl
@[simp] theorem loopR_no : loopR w .no = .no := rfl
theorem sWhile_go {c : FT} {b : FS} : sWhile c b ρ S = (c ρ S).toS ρ fun k S1 => if k then loopR (sWhile c b) (b ρ S1) else .nx ρ S1 := by
  rw [sWhile_step]
  congr; funext k S1; cases k
  · rfl
  · show _ = loopR (sWhile c b) (b ρ S1)
    cases b ρ S1 <;> rfl
variable {tg : FG} {b : FS} {r : List D} {fi : FI}
def tgR (w b : FS) (o : Option (FEnv × Store)) : RS := match o with
  | some (ρ1, S1) => loopR w (b ρ1 S1)
  | none => .no
@[simp] theorem tgR_some : tgR w b (some (ρ, S)) = loopR w (b ρ S) := rfl
@[simp] theorem forL_nil : forL tg b none [] ρ S = .nx ρ S := by
  unfold forL gchk; rw [if_pos (by unfold gd; trivial)]
theorem forL_cons : forL tg b none (d :: r) ρ S = tgR (forL tg b none r) b (tg d ρ S) := by
  show gchk none S _ _ = _
  unfold gchk
  rw [if_pos (by unfold gd; trivial)]
  cases tg d ρ S with
  | none => rfl
  | some p =>
    obtain ⟨ρ1, S1⟩ := p
    show (match b ρ1 S1 with
      | .nx ρ2 S2 => forL tg b none r ρ2 S2
      | .ct ρ2 S2 => forL tg b none r ρ2 S2
      | .bk ρ2 S2 => .nx ρ2 S2
      | z => z) = loopR _ (b ρ1 S1)
    cases b ρ1 S1 <;> rfl
@[simp] theorem sFor_ap : sFor fi tg b ρ S = (fi ρ S).toS ρ fun p S1 => forL tg b p.2 p.1 ρ S1 := rfl
def itL (d : D) (S : Store) : RE Its' := match iSeq S d with
  | some p => .ok p S
  | none => .no
def itT (d : D) (S : Store) : RE Its' := match d with
  | .tup ds => .ok (ds, none) S
  | _ => .no
def itS (d : D) (S : Store) : RE Its' := match d with
  | .str z => .ok (chrs z, none) S
  | _ => .no
def itR (ds : List D) (S : Store) : RE Its' := match ds with
  | [.int j] => if -(2 ^ 62) ≤ j ∧ j < 2 ^ 62 then .ok (rngD 0 j.toNat, none) S else .no
  | _ => .no
@[simp] theorem fiL_ap {f : FE} : fiL f ρ S = (f ρ S).bnd itL := rfl
@[simp] theorem fiT_ap {f : FE} : fiT f ρ S = (f ρ S).bnd itT := rfl
@[simp] theorem fiS_ap {f : FE} : fiS f ρ S = (f ρ S).bnd itS := rfl
@[simp] theorem fiR1_ap {f : FA} : fiR1 f ρ S = (f ρ S).bnd itR := rfl
@[simp] theorem itL_lst {ds : List D} : itL (.lst ds) S = .ok (ds, none) S := rfl
@[simp] theorem itL_fls {ds : List D} : itL (.fls ds) S = .ok (ds, none) S := rfl
@[simp] theorem itT_tup {ds : List D} : itT (.tup ds) S = .ok (ds, none) S := rfl
@[simp] theorem itS_str {z : Str} : itS (.str z) S = .ok (chrs z, none) S := rfl
@[simp] theorem itR_int {j : Int} : itR [.int j] S = if -(2 ^ 62) ≤ j ∧ j < 2 ^ 62 then .ok (rngD 0 j.toNat, none) S else .no := rfl
end
@[simp] theorem len_of (s : String) : (Str.ofString s).length = s.toList.length := by
  have key : (Str.ofString s).cps.toList = s.toList.map Char.toNat := by
    show ((cpsOfBytes 0 0 s.toByteArray.data.toList).toArray).toList = _
    rw [cpsOfBytes_string]
  show (Str.ofString s).cps.size = _
  rw [← Array.length_toList, key, List.length_map]
inductive Kd where
  | base (i : Fin 8)
  | unit
  | both (a b : Kd)
  | frm (a b : Kd)
deriving DecidableEq
namespace Kd
def d : Kd → D
  | .base i => .tup [.str "base", .int (i.val : Int)]
  | .unit => .tup [.str "unit"]
  | .both a b => .tup [.str "both", d a, d b]
  | .frm a b => .tup [.str "from", d a, d b]
def p : Kd → PyData
  | .base i => .tuple [.str "base", .int (i.val : Int)]
  | .unit => .tuple [.str "unit"]
  | .both a b => .tuple [.str "both", p a, p b]
  | .frm a b => .tuple [.str "from", p a, p b]
/-- how deep -/
def dep : Kd → Nat
  | .both a b => max (dep a) (dep b) + 1
  | .frm a b => max (dep a) (dep b) + 1
  | _ => 0
def sz : Kd → Nat
  | .both a b => sz a + sz b + 1
  | .frm a b => sz a + sz b + 1
  | _ => 1
@[simp] theorem py0_d : ∀ k : Kd, py0 k.d = some k.p
  | .base i => by simp [d, p, py0, py0L]
  | .unit => by simp [d, p, py0, py0L]
  | .both a b => by simp [d, p, py0, py0L, py0_d a, py0_d b]
  | .frm a b => by simp [d, p, py0, py0L, py0_d a, py0_d b]
@[simp] theorem pyS_d (S : Store) : ∀ k : Kd, pyS S k.d = some k.p
  | .base i => by simp [d, p, pyS, pySL]
  | .unit => by simp [d, p, pyS, pySL]
  | .both a b => by simp [d, p, pyS, pySL, pyS_d S a, pyS_d S b]
  | .frm a b => by simp [d, p, pyS, pySL, pyS_d S a, pyS_d S b]
@[simp] theorem lay_p : ∀ k : Kd, k.p.canLay0 = true
  | .base i => by simp [p, PyData.canLay0, PyData.canLayAll0]
  | .unit => by simp [p, PyData.canLay0, PyData.canLayAll0]
  | .both a b => by simp [p, PyData.canLay0, PyData.canLayAll0, lay_p a, lay_p b]
  | .frm a b => by simp [p, PyData.canLay0, PyData.canLayAll0, lay_p a, lay_p b]
theorem depth_p : ∀ k : Kd, k.p.depth = k.dep + 1
  | .base i => by simp [p, PyData.depth, PyData.depthAll, dep]
  | .unit => by simp [p, PyData.depth, PyData.depthAll, dep]
  | .both a b => by simp [p, PyData.depth, PyData.depthAll, dep, depth_p a, depth_p b]
  | .frm a b => by simp [p, PyData.depth, PyData.depthAll, dep, depth_p a, depth_p b]
theorem eqvAll_c {x y : PyData} {xs ys : List PyData} : PyData.eqvAll (x :: xs) (y :: ys) = (PyData.eqv x y && PyData.eqvAll xs ys) := by simp only [PyData.eqvAll]
theorem eqvAll_n : PyData.eqvAll [] [] = true := by simp only [PyData.eqvAll]
theorem eqvAll_l {x : PyData} {xs : List PyData} : PyData.eqvAll (x :: xs) [] = false := by simp only [PyData.eqvAll]
theorem eqvAll_r {x : PyData} {xs : List PyData} : PyData.eqvAll [] (x :: xs) = false := by simp only [PyData.eqvAll]
theorem eqv_t {xs ys : List PyData} : PyData.eqv (.tuple xs) (.tuple ys) = PyData.eqvAll xs ys := by simp only [PyData.eqv]
theorem eqv_s {x y : Str} : PyData.eqv (.str x) (.str y) = (x == y) := by simp only [PyData.eqv]
theorem eqv_i {x y : Int} : PyData.eqv (.int x) (.int y) = (x == y) := by simp only [PyData.eqv]
theorem eqv_p (a b : Kd) : PyData.eqv a.p b.p = decide (a = b) := by
  induction a generalizing b with
  | base i =>
    cases b with
    | base j =>
      have h1 : (i.val : Int) = (j.val : Int) ↔ i = j := by
        constructor
        · intro h; exact Fin.ext (by omega)
        · intro h; rw [h]
      by_cases h : i = j
      · subst h; simp [p, eqvAll_c, eqvAll_n, eqvAll_l, eqvAll_r, eqv_t, eqv_s, eqv_i]
      · have : ¬ (i.val : Int) = (j.val : Int) := fun z => h (h1.mp z)
        simp [p, eqvAll_c, eqvAll_n, eqvAll_l, eqvAll_r, eqv_t, eqv_s, eqv_i, h]
        omega
    | _ => simp [p, eqvAll_c, eqvAll_n, eqvAll_l, eqvAll_r, eqv_t, eqv_s, eqv_i]
  | unit => cases b <;> simp [p, eqvAll_c, eqvAll_n, eqvAll_l, eqvAll_r, eqv_t, eqv_s, eqv_i]
  | both a a' ha hb => cases b <;> simp [p, eqvAll_c, eqvAll_n, eqvAll_l, eqvAll_r, eqv_t, eqv_s, eqv_i, ha, hb]
  | frm a a' ha hb => cases b <;> simp [p, eqvAll_c, eqvAll_n, eqvAll_l, eqvAll_r, eqv_t, eqv_s, eqv_i, ha, hb]
@[simp] theorem und_d (n : Nat) : ∀ k : Kd, k.d.under n = true
  | .base i => by simp [d, D.under, underL]
  | .unit => by simp [d, D.under, underL]
  | .both a b => by simp [d, D.under, underL, und_d n a, und_d n b]
  | .frm a b => by simp [d, D.under, underL, und_d n a, und_d n b]
theorem eqE_d {a b : Kd} {S : Store} : eqE S a.d b.d = none ∨ eqE S a.d b.d = some (decide (a = b)) := by
  cases b with
  | unit => right; cases a <;> simp [d, eqE]
  | _ => exact .inl rfl
theorem gEq_d {a b : Kd} {S : Store} (h : min a.dep b.dep < 200) : gEq a.d b.d S = .ok (.bl (decide (a = b))) S := by
  have ok : okPy a.p b.p = true := by
    simp [okPy, depth_p]; omega
  unfold gEq
  rcases eqE_d (a := a) (b := b) (S := S) with e | e
  · rw [e]; simp [ok, eqv_p]
  · rw [e]
theorem d_tup : ∀ k : Kd, ∃ ds, k.d = .tup ds
  | .base i => ⟨_, rfl⟩
  | .unit => ⟨_, rfl⟩
  | .both a b => ⟨_, rfl⟩
  | .frm a b => ⟨_, rfl⟩
@[simp] theorem isi_d {T : String} {S : Store} (k : Kd) : isiR T k.d S = .ok (.bl (decide (T = "tuple"))) S := by
  obtain ⟨ds, h⟩ := d_tup k
  rw [h]; simp
end Kd
end Kw
namespace Kw
open PySem PySem.Spec PyProof.Rows L2
/-- isinstance of the exception in hand (at a), whose answer is b -/
def fIsE (a : Addr) (b : Bool) (f : FE) : FE := fun ρ S => (f ρ S).bnd fun x S1 => match x with
  | .exn a' => if a' = a then .ok (.bl b) S1 else .no
  | _ => .no
/-- y's class is one that isinstance can be asked of -/
def ExcK (K : PySem.W.Frag) (mg : Str → Option Value) (y : Str) : Prop := ∃ C, mg y = some (.ref C) ∧ ExcC K C
/-- what isinstance answers for an exception of class y, asked for the program's class x -/
def IsxO (K : PySem.W.Frag) (mg : Str → Option Value) (y x : Str) (b : Bool) : Prop := ∃ C B, mg y = some (.ref C) ∧ mg x = some (.ref B) ∧ PySem.W.kitOne K (.ref C) (.ref B) = some b
def RS.clr (i : Nat) (r : RS) : RS := match r with
  | .nx ρ S => .nx (ρ.set i none) S
  | .bk ρ S => .bk (ρ.set i none) S
  | .ct ρ S => .ct (ρ.set i none) S
  | r => r
/-- a result that no address matters to -/
noncomputable def aInd (R : Addr → RS) : RS := open Classical in if ∀ a, R a = R 0 then R 0 else .no
theorem aInd_at {R : Addr → RS} {r : RS} (a : Addr) (h : aInd R = r) (hn : r ≠ .no) : R a = r := by
  unfold aInd at h
  split at h
  · rename_i hh; rw [hh a, h]
  · exact absurd h.symm hn
section
variable {X : Cx} {W : WX} {x n : Str} {pos pos' np : Pos} {i : Nat}
theorem EndS.clr [Wo] {K : PySem.W.Frag} {mg : Str → Option Value} {w : Wd} {H : Hp} {D : Ends} {r : RS} (h : EndS K mg w H ((r.clr i).noX) D W) :
    EndS K mg w H r { nx := fun σ' H' => D.nx (σ'.set i none) H', rt := D.rt, bk := fun σ' H' => D.bk (σ'.set i none) H', ct := fun σ' H' => D.ct (σ'.set i none) H' } W0 := by
  cases r with
  | nx ρ S => exact fun w' H' σ' e s en => h w' H' _ e s en.wipe1
  | bk ρ S => exact fun w' H' σ' e s en => h w' H' _ e s en.wipe1
  | ct ρ S => exact fun w' H' σ' e s en => h w' H' _ e s en.wipe1
  | rt d S => exact h
  | ex x ρ S => exact h.elim
  | no => exact h.elim
end
end Kw
namespace Kw
open PySem PySem.Spec PyProof.Rows L2
def gIdx (x : D) (ds : List D) (S : Store) : RE D := match ds with
  | [y] => (match pyS S x, pyS S y with
    | some (.list ps), some d => if SeqAt.shaped (.list ps) && SeqAt.shaped d then (match ps.findIdx? (fun z => PyData.eqv z d) with
      | some j => .ok (.int (j : Nat)) S
      | none => .no) else .no
    | _, _ => .no)
  | _ => .no
section
variable {X : Cx}
variable {K : PySem.W.Frag} {mg : Str → Option Value}
theorem idx_v [Wo] : MtV K mg (rIndexD K) gIdx := by
  intro w S H x xs d ds Q E s r1 r2 h
  unfold gIdx at h
  split at h
  · rename_i y
    split at h
    · rename_i ps p h1 h2
      split at h
      · rename_i hk
        rw [Bool.and_eq_true] at hk
        split at h
        · rename_i j hj
          obtain ⟨v, rfl, r3⟩ := r2.one_inv
          have k1 := pyS_at s d x _ r1 h1
          have k2 := pyS_at s y v _ r3 h2
          obtain ⟨hl, hp, hno⟩ := List.findIdx?_eq_some_iff_getElem.mp hj
          have k1' := k1
          cases k1 with
          | lst hs ha =>
            refine ⟨_, v, p, ps, j, ps[j], rfl, rfl, k1', k2, hk.1, hk.2, List.getElem?_eq_getElem hl, hp, fun m z' hm hz => ?_, h.ret s rp_i⟩
            obtain ⟨hml, e⟩ := List.getElem?_eq_some_iff.mp hz
            have := hno m hm
            rw [e] at this
            simpa using this
        · exact h.elim
      · exact h.elim
    · exact h.elim
  · exact h.elim
end
theorem hu65 {A : Around} {k : Nat} (hr : RoomG k A) : A.units + 65 < cLine := by have := hr.rm.un; omega
def CatY (K : PySem.W.Frag) (mg : Str → Option Value) (c : Value) (y : Str) (b : Bool) : Prop := ∃ C, mg y = some (.ref C) ∧ PySem.W.exmOne K (.ref C) c = some b
/-- what a clause over x catches of the classes es -/
def CatF (K : PySem.W.Frag) (mg : Str → Option Value) (es : List Str) (x : Str) (sub : Str → Bool) : Prop := ∃ c, mg x = some c ∧ ∀ y ∈ es, CatY K mg c y (sub y)
section
variable {X : Cx} {W : WX} {x n : Str} {pos pos' np : Pos} {i : Nat} {body suite : List Stmt} {b₀ : Stmt} {es : List Str} {sub : Str → Bool} {fb : FS}
theorem CatF.names (h : CatF X.K X.mg es x sub) (hg : Gl X x) (hd : (x == ("__debug__" : Str)) = false) : ∃ c, Names X x c ∧ ∀ y ∈ es, ∀ cy, X.mg y = some cy → PySem.W.exmOne X.K cy c = some (sub y) := by
  obtain ⟨c, m, h⟩ := h
  refine ⟨c, ⟨hg, hd, .inl m⟩, fun y hy cy e => ?_⟩
  obtain ⟨C, m2, k⟩ := h y hy
  cases e.symm.trans m2
  exact k
end
end Kw
namespace Kw
open PySem PySem.Spec PyProof.Rows L2
section
variable {tg : FG} {tt : FT} {te : FE} {ρ : FEnv} {gg : Option (Nat × List D)} {S : Store} {acc ds : List D} {b : FS}
theorem compL_nil (hg : gd gg S) : compL tg tt te gg ρ [] acc S = .ok acc S := by
  unfold compL gchk; rw [if_pos hg]
theorem compL_step {d y : D} {ρ1 : FEnv} {S1 S2 S3 : Store} (hg : gd gg S) (h1 : tg d ρ S = some (ρ1, S1)) (h2 : tt ρ1 S1 = .ok true S2) (h3 : te ρ1 S2 = .ok y S3) (hl : acc.length < sizeLine) :
    compL tg tt te gg ρ (d :: ds) acc S = compL tg tt te gg ρ ds (acc ++ [y]) S3 := by
  conv => lhs; unfold compL
  unfold gchk
  rw [if_pos hg, h1]
  simp [h2, h3, hl]
theorem compL_skip {d : D} {ρ1 : FEnv} {S1 S2 : Store} (hg : gd gg S) (h1 : tg d ρ S = some (ρ1, S1)) (h2 : tt ρ1 S1 = .ok false S2) :
    compL tg tt te gg ρ (d :: ds) acc S = compL tg tt te gg ρ ds acc S2 := by
  conv => lhs; unfold compL
  unfold gchk
  rw [if_pos hg, h1]
  simp [h2]
theorem compL_map (f : D → D) (hg : gd gg S) : ∀ (ds acc : List D), (∀ d ∈ ds, ∃ ρ1, tg d ρ S = some (ρ1, S) ∧ tt ρ1 S = .ok true S ∧ te ρ1 S = .ok (f d) S) → acc.length + ds.length ≤ sizeLine →
    compL tg tt te gg ρ ds acc S = .ok (acc ++ ds.map f) S
  | [], acc, _, _ => by rw [compL_nil hg]; simp
  | d :: ds, acc, h, hl => by
    obtain ⟨ρ1, h1, h2, h3⟩ := h d List.mem_cons_self
    rw [compL_step hg h1 h2 h3 (by simp at hl; omega), compL_map f hg ds (acc ++ [f d]) (fun e he => h e (List.mem_cons_of_mem _ he)) (by simp at hl ⊢; omega)]
    simp
def lcR (c : Bool) (r : RE (List D)) : RE D := match r with
  | .ok acc S2 => if c then .ok (.loc S2.length) (S2 ++ [.lst acc]) else .ok (.lst acc) S2
  | _ => .no
@[simp] theorem lcR_f : lcR false (.ok acc S) = .ok (.lst acc) S := rfl
@[simp] theorem lcR_t : lcR true (.ok acc S) = .ok (.loc S.length) (S ++ [.lst acc]) := rfl
@[simp] theorem fLc_ap {c : Bool} {fi : FI} {vs : List Nat} : fLc c fi tg tt te vs ρ S = (fi ρ S).bnd fun p S1 => lcR c (compL tg tt te p.2 (wipeR ρ vs) p.1 [] S1) := rfl
@[simp] theorem fYes_ap : fYes ρ S = .ok true S := rfl
@[simp] theorem gAll_lst {bs : List Bool} : gAll [.lst (bs.map .bl)] S = .ok (.bl (bs.all id)) S := by
  have : ∀ bs : List Bool, blsOf (bs.map .bl) = some bs := by
    intro bs
    induction bs with
    | nil => rfl
    | cons b bs ih => simp [blsOf, ih]
  show (match (some (bs.map D.bl)).bind blsOf with
    | some bs => RE.ok (D.bl (bs.all id)) S
    | none => .no) = _
  simp [this]
end
/-- an exception in hand, asked -/
@[simp] theorem fIsE_ap {a : Addr} {b : Bool} {i : Nat} {ρ : FEnv} {S : Store} (h : ρ[i]? = some (some (.exn a))) : fIsE a b (fVar i) ρ S = .ok (.bl b) S := by
  have e : fVar i ρ S = .ok (.exn a) S := by
    unfold fVar; rw [h]
  unfold fIsE
  rw [e]
  simp
section
variable {es : List Str} {sub : Str → Bool} {i : Nat} {c : Str → Addr → FS} {ρ : FEnv} {S : Store} {d : D}
@[simp] theorem clr_rt : (RS.rt d S).clr i = .rt d S := rfl
@[simp] theorem clr_nx : (RS.nx ρ S).clr i = .nx (ρ.set i none) S := rfl
@[simp] theorem noX_rt : (RS.rt d S).noX = .rt d S := rfl
@[simp] theorem noX_nx : (RS.nx ρ S).noX = .nx ρ S := rfl
end
end Kw
namespace Kw
open PySem PySem.Spec PyProof.Rows L2
abbrev Cl := Value × Option Nat × (Addr → Value → Option Addr → TS)
/-- the ends after a clause whose name stands in slot i -/
def gone (i : Nat) (D : Ends) : Ends := { nx := fun z G => D.nx (z.set i none) G, rt := D.rt, bk := fun z G => D.bk (z.set i none) G, ct := fun z G => D.ct (z.set i none) G }
def hit (o : Option Nat) (ts : TS) (D : Ends) (a : Addr) (σ : L2.St) (H : Hp) : Prop := match o with
  | none => ts D σ H
  | some i => ts (gone i D) (σ.set i (some (.ref a))) H
/-- what the clauses wish of an exception -/
def wCls (K : PySem.W.Frag) (Wout : WX) (D : Ends) : List Cl → WX
  | [] => Wout
  | (c, o, ts) :: r => fun cls d σ H => ∃ b, PySem.W.exmOne K cls c = some b ∧ (b = true → ∀ a, H a = none → hit o (ts a cls d) D a σ H) ∧ (b = false → wCls K Wout D r cls d σ H)
def SuOk (X : Cx) (suite : List Stmt) (ts : Addr → Value → Option Addr → TS) : Prop :=
  ∀ (a : Addr) (oe : Obj) (cls : Value) (d : Option Addr) (pn : List (Addr × Obj)), Zc cls d oe → (∃ vs, oe.data = .fields vs) → PSs (X.suite a ((a, oe) :: pn)) suite (ts a cls d)
inductive ClsOk (X : Cx) : List ExceptHandler → List Cl → Prop
  | nil : ClsOk X [] []
  | plain {x : Str} {c : Value} {ts : Addr → Value → Option Addr → TS} {b₀ : Stmt} {su : List Stmt} {np q : Pos} {hds : List ExceptHandler} {l : List Cl} (nm : Names X x c) (k : SuOk X (b₀ :: su) ts) (r : ClsOk X hds l) :
      ClsOk X (.ExceptHandler (some (.Name x np)) none (b₀ :: su) q :: hds) ((c, none, ts) :: l)
  | named {x n : Str} {i : Nat} {c : Value} {ts : Addr → Value → Option Addr → TS} {b₀ : Stmt} {su : List Stmt} {np q : Pos} {hds : List ExceptHandler} {l : List Cl} (hi : X.N[i]? = some n) (hln : X.env.kindOf n = some .local) (nm : Names X x c) (k : SuOk X (b₀ :: su) ts) (r : ClsOk X hds l) :
      ClsOk X (.ExceptHandler (some (.Name x np)) (some n) (b₀ :: su) q :: hds) ((c, some i, ts) :: l)
abbrev ClF := (Str → Bool) × Option Nat × (Str → Addr → FS)
def clRun (o : Option Nat) (c : Addr → FS) (ρ : FEnv) (S : Store) (a : Addr) : RS := match o with
  | none => (c a ρ S).noX
  | some i => ((c a (ρ.set i (some (.exn a))) S).clr i).noX
noncomputable def clsR (x : Ex) (ρ : FEnv) (S : Store) : List ClF → RS
  | [] => .ex x ρ S
  | (sub, o, c) :: r => if sub x.cls then aInd (clRun o (c x.cls) ρ S) else clsR x ρ S r
def SuF [Wo] (X : Cx) (es : List Str) (suite : List Stmt) (c : Str → Addr → FS) : Prop :=
  ∀ (y : Str), y ∈ es → ∀ (a : Addr) (oe : Obj) (pn : List (Addr × Obj)) (C : Addr), X.mg y = some (.ref C) → Zc (.ref C) none oe → (∃ vs, oe.data = .fields vs) → PSs (X.suite a ((a, oe) :: pn)) suite (tS (X.suite a ((a, oe) :: pn)) W0 (c y a))
inductive ClsF [Wo] (X : Cx) (es : List Str) : List ExceptHandler → List ClF → Prop
  | nil : ClsF X es [] []
  | plain {x : Str} {sub : Str → Bool} {c : Str → Addr → FS} {b₀ : Stmt} {su : List Stmt} {np q : Pos} {hds : List ExceptHandler} {l : List ClF} (h : CatF X.K X.mg es x sub) (hg : Gl X x) (k : SuF X es (b₀ :: su) c) (r : ClsF X es hds l) (hd : (x == ("__debug__" : Str)) = false := by decide) :
      ClsF X es (.ExceptHandler (some (.Name x np)) none (b₀ :: su) q :: hds) ((sub, none, c) :: l)
  | named {x n : Str} {i : Nat} {sub : Str → Bool} {c : Str → Addr → FS} {b₀ : Stmt} {su : List Stmt} {np q : Pos} {hds : List ExceptHandler} {l : List ClF} (h : CatF X.K X.mg es x sub) (hg : Gl X x) (hi : X.N[i]? = some n) (hln : X.env.kindOf n = some .local) (k : SuF X es (b₀ :: su) c) (r : ClsF X es hds l) (hd : (x == ("__debug__" : Str)) = false := by decide) :
      ClsF X es (.ExceptHandler (some (.Name x np)) (some n) (b₀ :: su) q :: hds) ((sub, some i, c) :: l)
section
variable {X : Cx} {W : WX} {es : List Str}
def tsOf [Wo] (X : Cx) (es : List Str) (c : Str → Addr → FS) : Addr → Value → Option Addr → TS := fun a cls d D σ H => ∃ y C, y ∈ es ∧ X.mg y = some (.ref C) ∧ cls = .ref C ∧ d = none ∧ tS X W0 (c y a) D σ H
theorem SuF.su [Wo] {suite : List Stmt} {c : Str → Addr → FS} (k : SuF X es suite c) : SuOk X suite (tsOf X es c) := by
  intro a oe cls d pn hz hd
  refine ⟨fun pins s σ H D I h => ?_⟩
  obtain ⟨y, C, hy, hyC, rfl, rfl, t⟩ := h
  exact (k y hy a oe pn C hyC hz hd).run pins s σ H D I t
theorem EndS.nox [Wo] {K : PySem.W.Frag} {mg : Str → Option Value} {w : Wd} {H : Hp} {D : Ends} {r : RS} (h : EndS K mg w H r.noX D W) : EndS K mg w H r D W0 := by
  cases r with
  | ex x ρ S => exact h.elim
  | _ => exact h
theorem ClsF.go [Wo] {hds : List ExceptHandler} {cs : List ClF} (h : ClsF X es hds cs) (hk : ∀ y ∈ es, ExcK X.K X.mg y) : ∃ l, ClsOk X hds l ∧ ∀ (D : Ends) (w : Wd) (x : Ex) (ρ : FEnv) (S : Store) (σ : L2.St) (H : Hp) (cy : Value) (od : Option Addr), x.cls ∈ es → x.ns = [] → Sto X.K X.mg w S H → EnvR X.K X.mg w H ρ σ → ExR X.K X.mg w H x cy od →
    EndS X.K X.mg w H (clsR x ρ S cs) D W → wCls X.K W D l cy od σ H := by
  have ex0 : ∀ {w : Wd} {H : Hp} {x : Ex} {cy : Value} {od : Option Addr}, x.cls ∈ es → x.ns = [] → ExR X.K X.mg w H x cy od → ∃ C, X.mg x.cls = some (.ref C) ∧ cy = .ref C ∧ od = none := by
    intro w H x cy od hx hn ex
    obtain ⟨gy, hr⟩ := ex
    obtain ⟨C, gC, _⟩ := hk _ hx
    cases gC.symm.trans gy
    refine ⟨C, gC, rfl, ?_⟩
    rcases hr with ⟨_, _, z⟩ | ⟨d, vs, z, _⟩
    · exact z
    · exact absurd hn z
  induction h with
  | nil =>
    refine ⟨[], .nil, fun D w x ρ S σ H cy od hx hn s en ex h => ?_⟩
    exact h w H σ cy od Ext.refl s en ex
  | @plain x sub c b₀ su np q hds l hc hg k r hd ih =>
    obtain ⟨cv, nm, hx1⟩ := hc.names hg hd
    obtain ⟨l', ok', go'⟩ := ih
    refine ⟨(cv, none, tsOf X es c) :: l', .plain nm k.su ok', fun D w x ρ S σ H cy od hx hn s en ex h => ?_⟩
    obtain ⟨C, gC, rfl, rfl⟩ := ex0 hx hn ex
    refine ⟨sub x.cls, hx1 _ hx _ gC, fun hs a na => ?_, fun hs => ?_⟩
    · have h2 : EndS X.K X.mg w H (aInd (clRun none (c x.cls) ρ S)) D W := by
        have h' := h
        unfold clsR at h'
        rw [if_pos hs] at h'
        exact h'
      by_cases hno : aInd (clRun none (c x.cls) ρ S) = .no
      · rw [hno] at h2; exact h2.elim
      · rw [← aInd_at a rfl hno] at h2
        exact ⟨x.cls, C, hx, gC, rfl, rfl, w, ρ, S, s, en, h2.nox⟩
    · have h2 : EndS X.K X.mg w H (clsR x ρ S l) D W := by
        have h' := h
        unfold clsR at h'
        rw [if_neg (by rw [hs]; decide)] at h'
        exact h'
      exact go' D w x ρ S σ H _ _ hx hn s en ex h2
  | @named x n i sub c b₀ su np q hds l hc hg hi hln k r hd ih =>
    obtain ⟨cv, nm, hx1⟩ := hc.names hg hd
    obtain ⟨l', ok', go'⟩ := ih
    refine ⟨(cv, some i, tsOf X es c) :: l', .named hi hln nm k.su ok', fun D w x ρ S σ H cy od hx hn s en ex h => ?_⟩
    obtain ⟨C, gC, rfl, rfl⟩ := ex0 hx hn ex
    refine ⟨sub x.cls, hx1 _ hx _ gC, fun hs a na => ?_, fun hs => ?_⟩
    · have h2 : EndS X.K X.mg w H (aInd (clRun (some i) (c x.cls) ρ S)) D W := by
        have h' := h
        unfold clsR at h'
        rw [if_pos hs] at h'
        exact h'
      by_cases hno : aInd (clRun (some i) (c x.cls) ρ S) = .no
      · rw [hno] at h2; exact h2.elim
      · rw [← aInd_at a rfl hno] at h2
        exact ⟨x.cls, C, hx, gC, rfl, rfl, w, ρ.set i (some (.exn a)), S, s, en.set (by unfold Rp; rfl), EndS.clr h2⟩
    · have h2 : EndS X.K X.mg w H (clsR x ρ S l) D W := by
        have h' := h
        unfold clsR at h'
        rw [if_neg (by rw [hs]; decide)] at h'
        exact h'
      exact go' D w x ρ S σ H _ _ hx hn s en ex h2
end
end Kw
namespace Kw
open PySem PySem.Spec PyProof.Rows L2
end Kw
namespace Kw
open PySem PySem.Spec PyProof.Rows L2
def revS (z : Str) : Str := ⟨((Builtin.Str.strSliceIndices none none (-1) z.length).filterMap (z.cps[·]?)).toArray⟩
theorem revIx_length (n : Nat) : (Builtin.Str.strSliceIndices none none (-1) n).length ≤ n := by
  unfold Builtin.Str.strSliceIndices sliceRange
  simp only [show ¬ ((-1 : Int) > 0) by decide, if_false, List.length_map, List.length_range]
  repeat' split
  all_goals simp
  all_goals omega
theorem revS_length (z : Str) : (revS z).length ≤ z.length := by
  show (List.filterMap _ _).toArray.size ≤ _
  rw [List.size_toArray]
  exact Nat.le_trans (List.length_filterMap_le _ _) (revIx_length _)
def keyP : Key → PyData
  | .inl i => .int i
  | .inr x => .str x
mutual
/-- a value as data that is shown -/
inductive Rs (K : PySem.W.Frag) (H : Hp) (b : Bool) : V → PyData → Prop
  | non : Rs K H b .non .none
  | bl (c : Bool) : Rs K H b (.bl c) (.bool c)
  | int (i : Int) : Rs K H b (.int i) (.int i)
  | str (x : Str) : Rs K H b (.str x) (.str x)
  | lst {a : Addr} {xs : List V} {ds : List PyData} : SqL K H a xs → (b = true → a ≠ sysModules) → RsL K H b xs ds → Rs K H b (.ref a) (.list ds)
  | tup {a : Addr} {xs : List V} {ds : List PyData} : SqT K H a xs → RsL K H b xs ds → Rs K H b (.ref a) (.tuple ds)
  | dic {a : Addr} {kvs : List (Key × V)} {ps : List (PyData × PyData)} : H a = some (.dK kvs) → RsV K H b kvs ps → Rs K H b (.ref a) (.dict ps)
inductive RsL (K : PySem.W.Frag) (H : Hp) (b : Bool) : List V → List PyData → Prop
  | nil : RsL K H b [] []
  | cons {v : V} {vs : List V} {d : PyData} {ds : List PyData} : Rs K H b v d → RsL K H b vs ds → RsL K H b (v :: vs) (d :: ds)
inductive RsV (K : PySem.W.Frag) (H : Hp) (b : Bool) : List (Key × V) → List (PyData × PyData) → Prop
  | nil : RsV K H b [] []
  | cons {k : Key} {v : V} {r : List (Key × V)} {d : PyData} {ps : List (PyData × PyData)} : Rs K H b v d → RsV K H b r ps → RsV K H b ((k, v) :: r) ((keyP k, d) :: ps)
end
mutual
/-- no list in it -/
def noLs : PyData → Bool
  | .list _ => false
  | .tuple ds => noLsL ds
  | .dict kvs => noLsV kvs
  | _ => true
def noLsL : List PyData → Bool
  | [] => true
  | d :: ds => noLs d && noLsL ds
def noLsV : List (PyData × PyData) → Bool
  | [] => true
  | (_, d) :: ps => noLs d && noLsV ps
end
section
variable {X : Cx} {pins : List (Addr × Obj)} {σ : L2.St} {H : Hp} {s : Shared} {b : Bool}
mutual
theorem Rs.reads (I : Inv X pins σ H s) : ∀ (d : PyData) (v : V) (u : Value), Rs X.K H b v d → RelV v u → ∃ as, Reads s.heap u d as ∧ (noLs d = true ∨ b = true → sysModules ∉ as)
  | .none, _, _, .non, r => by cases r; exact ⟨[], .none, fun _ z => nomatch z⟩
  | .bool b, _, _, .bl _, r => by cases r; exact ⟨[], .bool b, fun _ z => nomatch z⟩
  | .int i, _, _, .int _, r => by obtain ⟨t, rfl⟩ := r; exact ⟨[], .int i t, fun _ z => nomatch z⟩
  | .str x, _, _, .str _, r => by obtain ⟨t, rfl⟩ := r; exact ⟨[], .str x t, fun _ z => nomatch z⟩
  | .list ds, _, _, .lst (a := a) hs hne ha, r => by
    cases r
    obtain ⟨its, rv, ⟨o, n, ho, hc, _, hd⟩, _⟩ := I.list hs
    obtain ⟨as, hr, hn⟩ := RsL.reads I ds _ its ha rv
    refine ⟨_, .list ho hc hd hr, fun z => ?_⟩
    have hb : b = true := by
      rcases z with z | z
      · simp [noLs] at z
      · exact z
    intro y
    rcases List.mem_cons.mp y with y | y
    · exact hne hb y.symm
    · exact hn (.inr hb) y
  | .tuple ds, _, _, .tup hs ha, r => by
    cases r
    obtain ⟨its, rv, ⟨o, ho, hc, n, hd⟩, _⟩ := I.tuple hs
    obtain ⟨as, hr, hn⟩ := RsL.reads I ds _ its ha rv
    exact ⟨_, .tuple ho hc hd hr, fun z => hn (by simpa [noLs] using z)⟩
  | .dict ps, _, _, .dic (a := a) (kvs := kvs) hs hv, r => by
    cases r
    obtain ⟨_, sm, vs, kv, o, es, ep, ho, hc, hd, hk, hp, _⟩ := dk_of I.hok hs
    obtain ⟨h1, bs, h2, hn⟩ := RsV.reads I ps kvs vs es.toList hv kv hp
    refine ⟨_, .dict (as := []) (bs := bs) ho hc.1 hd h1 h2, fun z y => ?_⟩
    rcases List.mem_append.mp y with y | y
    · have : sysModules = a := by simpa using y
      rw [this] at sm
      simp at sm
    · exact hn (by simpa [noLs] using z) y
theorem RsL.reads (I : Inv X pins σ H s) : ∀ (ds : List PyData) (vs : List V) (us : List Value), RsL X.K H b vs ds → Vals vs us → ∃ as, ReadsAll s.heap us ds as ∧ (noLsL ds = true ∨ b = true → sysModules ∉ as)
  | [], _, _, .nil, r => by cases r; exact ⟨_, .nil, fun _ z => nomatch z⟩
  | d :: ds, _, _, .cons h1 h2, r => by
    cases r with
    | cons r1 r2 =>
      obtain ⟨as, q1, n1⟩ := Rs.reads I d _ _ h1 r1
      obtain ⟨bs, q2, n2⟩ := RsL.reads I ds _ _ h2 r2
      refine ⟨_, .cons q1 q2, fun z y => ?_⟩
      simp only [noLsL, Bool.and_eq_true] at z
      rcases List.mem_append.mp y with y | y
      · exact n1 (z.imp (·.1) id) y
      · exact n2 (z.imp (·.2) id) y
theorem RsV.reads (I : Inv X pins σ H s) : ∀ (ps : List (PyData × PyData)) (kvs : List (Key × V)) (vs : List (Key × Value)) (es : List DictEntry), RsV X.K H b kvs ps → KV kvs vs → Pairs (mixKind X.prog X.w) es vs → ReadsAll s.heap (es.map (·.key)) (ps.map (·.1)) [] ∧ ∃ bs, ReadsAll s.heap (es.map (·.val)) (ps.map (·.2)) bs ∧ (noLsV ps = true ∨ b = true → sysModules ∉ bs)
  | [], _, _, _, .nil, r, q => by cases r; cases q; exact ⟨.nil, [], .nil, fun _ z => nomatch z⟩
  | (_, d) :: ps, _, _, _, .cons (k := k) h1 h2, r, q => by
    cases r with
    | cons r1 r2 =>
      cases q with
      | cons q1 q2 q3 =>
        obtain ⟨e1, e2⟩ := r1
        obtain ⟨a1, bs, a2, a3⟩ := RsV.reads I ps _ _ _ h2 r2 q3
        obtain ⟨as, b1, b2⟩ := Rs.reads I d _ _ h1 e2
        refine ⟨?_, as ++ bs, ?_, fun z y => ?_⟩
        · rw [← e1] at q1
          have hk : ∀ v, keyIs k v = true → Reads s.heap v (keyP k) [] := fun v hv => by
            rcases keyIs_shape hv with ⟨i, t, rfl, rfl⟩ | ⟨x, t, rfl, rfl⟩
            · exact .int i t
            · exact .str x t
          exact ReadsAll.cons (hk _ q1) a1
        · rw [List.map_cons, List.map_cons, q2]
          exact .cons b1 a2
        · simp only [noLsV, Bool.and_eq_true] at z
          rcases List.mem_append.mp y with y | y
          · exact b2 (z.imp (·.1) id) y
          · exact a3 (z.imp (·.2) id) y
end
end
section
variable {K : PySem.W.Frag} {mg : Str → Option Value} {w : Wd} {H : Hp} {S : Store} {b : Bool}
theorem RsV.zip : ∀ {ks : List Key} {vs : List V} {ps : List PyData}, RsL K H b vs ps → RsV K H b (ks.zip vs) ((ks.map keyP).zip ps)
  | [], _, _, _ => .nil
  | _ :: _, _, _, .nil => .nil
  | _ :: _, _, _, .cons h1 h2 => .cons h1 (RsV.zip h2)
theorem Fp.ne {a : Addr} {xs : List V} (t : Fp K w H a xs) (h1 : sysModules ∈ w.hd) (h2 : K.lookup sysModules = none) : a ≠ sysModules := by
  intro e
  subst e
  rcases t with ⟨o, _, off⟩ | ⟨o, its, n, h, _⟩
  · exact off.2 h1
  · rw [h2] at h; cases h
end
end Kw
namespace Kw
open PySem PySem.Spec PyProof.Rows L2
theorem turned_pick (l : List Value) : ((List.range l.length).filterMap fun (m : Nat) => l.toArray[(((l.length : Int) - 1) + (m : Int) * (-1)).toNat]?) = l.reverse := by
  apply List.ext_getElem?
  intro i
  have key : ∀ (n : Nat), n ≤ l.length → ((List.range n).filterMap fun (m : Nat) => l.toArray[(((l.length : Int) - 1) + (m : Int) * (-1)).toNat]?) = l.reverse.take n := by
    intro n
    induction n with
    | zero => intro _; simp
    | succ n ih =>
      intro hn
      rw [List.range_succ, List.filterMap_append, ih (by omega), List.take_add_one]
      congr 1
      have e1 : (((l.length : Int) - 1) + (n : Int) * (-1)).toNat = l.length - 1 - n := by omega
      have e2 : l.reverse[n]? = some (l[l.length - 1 - n]'(by omega)) := by
        rw [List.getElem?_reverse (by omega), List.getElem?_eq_getElem (by omega)]
      rw [e2]
      simp only [List.filterMap_cons, List.filterMap_nil]
      rw [e1]
      have e3 : l.toArray[l.length - 1 - n]? = some (l[l.length - 1 - n]'(by omega)) := by
        rw [List.getElem?_toArray, List.getElem?_eq_getElem (by omega)]
      rw [e3]; rfl
  rw [key l.length (Nat.le_refl _), List.take_of_length_le (by simp)]
theorem tup_turned {prog : Program} {w : World} {A : Around} {E : Value → Shared → Prop} {s : Shared} {t sl : Addr} {its : List Value} {tk : Tok} {Q : Value → Shared → Prop} (ht : IsTup s.heap t its.toArray) (hs : s.heap.IsSliceOf sl .none .none (.int (-1) tk)) (hz : its.length ≤ sizeLine)
    (h : Q (.ref s.heap.objs.size) { s with heap := s.heap.push { cls := .type "tuple", data := .seq its.reverse.toArray } }) : wpAny (model prog w) A (getItem (.ref t) (.ref sl)) Q E s := by
  have fits : sizeOk (.seq its.reverse.toArray) := by
    show its.reverse.toArray.size ≤ sizeLine
    rw [List.size_toArray, List.length_reverse]; exact hz
  obtain ⟨so, so1, so2, so3⟩ := id hs
  have tyS : s.TypeIs (.ref sl) "slice" := ⟨so, so1, so2⟩
  have bnd : Builtin.Slice.sliceAdjust none none (-1) (its.toArray.size : Int) = ((its.length : Int) - 1, -1) := by
    rw [List.size_toArray]; rfl
  have plc : Builtin.Slice.slicePlaces ((its.length : Int) - 1) (-1) (-1) = its.length := by
    unfold Builtin.Slice.slicePlaces
    have h0 : ¬ ((-1 : Int) > 0) := by decide
    simp only [h0, if_false]
    split
    · have e : ((its.length : Int) - 1 - -1 - 1) / (- -1) + 1 = (its.length : Int) := by
        rw [show (- -1 : Int) = 1 by decide, Int.ediv_one]; omega
      rw [e]; simp
    · have : its.length = 0 := by omega
      rw [this]; rfl
  unfold getItem
  try with_reducible refine wpAny_holding ?_
  first | refine wpAny_bind (wpAny_pure ?_) | skip
  refine wpAny_bind (wpAny_sequenceKey ht.typeIs (by decide) (wpAny_bind (wpAny_callSpecial?_slot (name := Str.ofString "__getitem__") ht.typeIs PyProof.Rows.slot_tuple_getitem (wpAny_call_entry PyProof.Rows.slot_tuple_getitem ht.typeIs entry_tuple_getitem ?_ (args_tuple_getitem _ _)))))
  show wpAny _ _ (Builtin.Tuple.tupleItemsOf (.ref t) >>= _) _ _ s
  refine wpAny_bind (tupleItemsOf_ ht (wpAny_bind (wpAny_typeOf tyS ?_)))
  rw [if_pos (by decide)]
  refine wpAny_bind ?_
  unfold Builtin.Slice.sliceApplied Builtin.Slice.sliceFields
  refine wpAny_bind (wpAny_bind (wpAny_field so1 so3 (x := .none) rfl (wpAny_bind (wpAny_field so1 so3 (x := .none) rfl (wpAny_bind (wpAny_field so1 so3 (x := .int (-1) tk) rfl (wpAny_pure (wpAny_bind (slicePart_int ?_)))))))))
  show wpAny _ _ (if ((-1 : Int) == 0) = true then _ else _) _ _ s
  rw [if_neg (by decide)]
  refine wpAny_bind (slicePart_none (wpAny_bind (slicePart_none (wpAny_bind (wpAny_pure ?_)))))
  show wpAny _ _ (match Builtin.Slice.sliceAdjust none none (-1) (its.toArray.size : Int) with | (lo, hi) => pure (lo, (-1 : Int), Builtin.Slice.slicePlaces lo hi (-1))) _ _ s
  rw [bnd]
  show wpAny _ _ (pure ((its.length : Int) - 1, (-1 : Int), Builtin.Slice.slicePlaces ((its.length : Int) - 1) (-1) (-1))) _ _ s
  rw [plc]
  refine wpAny_pure ?_
  have no : ¬ (((((its.length : Int) - 1)) == 0 && (-1 : Int) == 1 && its.length == its.toArray.size) = true) := by simp
  show wpAny _ _ (if ((((its.length : Int) - 1)) == 0 && (-1 : Int) == 1 && its.length == its.toArray.size) = true then _ else _) _ _ s
  rw [if_neg no, turned_pick]
  first
    | exact wpAny_bind (m := Builtin.Tuple.tupleExact _) (wpAny_newObj_type (wpAny_pure ⟨_, rfl, wpAny_pure h⟩) fits)
    | exact wpAny_bind (m := Builtin.Tuple.tupleExact _) (wpAny_newObj_type (wpAny_bind (wpAny_pure (wpAny_pure ⟨_, rfl, wpAny_pure h⟩))) fits)
    | exact wpAny_bind (wpAny_bind (m := Builtin.Tuple.tupleExact _) (wpAny_newObj_type (wpAny_pure (wpAny_pure ⟨_, rfl, wpAny_pure h⟩)) fits))
    | exact wpAny_bind (wpAny_bind (m := Builtin.Tuple.tupleExact _) (wpAny_newObj_type (wpAny_pure ⟨_, rfl, wpAny_pure h⟩) fits))
/-- a text, a tuple, a list turned round -/
def gTurn (x : D) (S : Store) : RE D := match x with
  | .str z => if z.length ≤ 16777216 then .ok (.str (revS z)) S else .no
  | .tup ds => .ok (.tup ds.reverse) S
  | x => (match seqL S x with
    | some ds => .ok (.lst ds.reverse) S
    | none => .no)
section
variable {K : PySem.W.Frag} {mg : Str → Option Value} {w : Wd} {H : Hp}
theorem RpL.rev : ∀ {ds : List D} {vs : List V}, RpL K mg w H ds vs → RpL K mg w H ds.reverse vs.reverse
  | [], vs, r => by unfold RpL at r; subst r; simp; exact RpL.nil
  | d :: ds, vs, r => by
    unfold RpL at r
    obtain ⟨v, t, rfl, r1, r2⟩ := r
    rw [List.reverse_cons, List.reverse_cons]
    exact RpL.append (RpL.rev r2) (RpL.one r1)
end
def rTurn (K : PySem.W.Frag) : V → Hp → VK → Prop := fun x H Q => (∃ z, x = .str z ∧ z.length ≤ 16777216 ∧ Q (.str (revS z)) H) ∨ (∃ a xs, x = .ref a ∧ SqT K H a xs ∧ ∀ p, H p = none → Q (.ref p) (upd H p (.tup xs.reverse))) ∨ (∃ a xs, x = .ref a ∧ SqL K H a xs ∧ ∀ p, H p = none → Q (.ref p) (upd H p (.lst xs.reverse)))
section
variable {X : Cx} {W : WX} {e : Expr} {fe : FE}
theorem q_turn [Wo] {k : Nat} {p1 p2 p3 pos : Pos} (he : PE X e (tF X W fe)) : PE X (.Subscript e (.Slice none none (some (.UnaryOp .USub (.Constant (.int 1) k p1) p2)) p3) pos) (tF X W (f1 gTurn fe)) := by
  refine ⟨fun pins s σ H Q I ⟨w, ρ, S, st, en, h⟩ => Subscript_ (thn (he.run pins s σ H (fun x H1 => rTurn X.K x H1 Q) I ⟨w, ρ, S, st, en, (End.bind (R := fun w H => Rp X.K X.mg w H) h).imp ?_ (fun _ _ _ z => z)⟩) ?_)⟩
  · rintro x H1 ⟨w1, S1, d, e1, s1, r1, h1⟩
    unfold gTurn at h1
    split at h1
    · rename_i z
      split at h1
      · rename_i hz; exact .inl ⟨z, rp_str r1, hz, h1.ret s1 rp_s⟩
      · exact h1.elim
    · obtain ⟨a, xs, rfl, t1, q1⟩ := tup_at r1
      refine .inr (.inl ⟨a, xs, rfl, t1, fun p np => ?_⟩)
      refine h1 w1 _ _ (Ext.new np) (s1.beside np) ?_
      show Rp _ _ _ _ _ _
      unfold Rp
      exact ⟨p, _, rfl, .inl ⟨upd_same, s1.new np⟩, RpL.ext (Ext.new np) _ _ (RpL.rev q1)⟩
    · split at h1
      · rename_i ds hds
        obtain ⟨a, xs, rfl, t1, q1⟩ := seqL_at s1 r1 hds
        exact .inr (.inr ⟨a, xs, rfl, t1, fun p np => newLst s1 (RpL.rev q1) np h1⟩)
      · exact h1.elim
  · rintro v s1 ⟨x, H1, I1, r1, hx⟩
    have hst : PO X (some (.UnaryOp .USub (.Constant (.int 1) k p1) p2)) (tPart (tUn (rU fun i => .int (-i)) (tC (.int 1)))) := po_some (pe_un un_neg pe_int)
    refine wpAny_Slice (thn (po_none.run pins s1 σ H1 (fun o H2 => o = none ∧ H2 = H1) I1 ⟨rfl, rfl⟩) fun vl s2 ⟨l, H2, I2, pl, el, e2⟩ => ?_)
    subst el e2
    refine thn (po_none.run pins s2 σ H2 (fun o H3 => o = none ∧ H3 = H2) I2 ⟨rfl, rfl⟩) fun vu s3 ⟨u, H3, I3, pu, eu, e3⟩ => ?_
    subst eu e3
    refine thn (hst.run pins s3 σ H3 (fun o H4 => o = some (-1) ∧ H4 = H3) I3 ⟨1, rfl, -1, rfl, rfl, rfl⟩) fun vs s4 ⟨o, H4, I4, ps, eo, e4⟩ => ?_
    subst eo e4
    have I5 : Inv X pins σ H4 { s4 with heap := s4.heap.push { cls := .type "slice", data := .fields #[vl, vu, vs] } } := I4.kept (t' := s4.toks) fun b ob q => Heap.get?_push_of_some _ q
    have pl0 := pl
    have pu0 := pu
    have ps0 := ps
    obtain ⟨l, rfl, hl⟩ := IsPart.raw pl
    obtain ⟨u, rfl, hu⟩ := IsPart.raw pu
    obtain ⟨t3, rfl, ht3⟩ := IsPart.raw ps
    obtain rfl : l = none := by cases l <;> simp_all
    obtain rfl : u = none := by cases u <;> simp_all
    obtain ⟨tk, rfl⟩ : ∃ tk, t3 = some (-1, tk) := by
      cases t3 with
      | none => simp at ht3
      | some p => exact ⟨p.2, by simp at ht3; rw [← ht3]⟩
    show wpAny (model X.prog X.w) X.A (subscriptTail e (.Slice none none (some (.UnaryOp .USub (.Constant (.int 1) k p1) p2)) p3) v (.ref s4.heap.objs.size)) (EP X pins σ Q) X.xe { s4 with heap := s4.heap.push { cls := .type "slice", data := .fields #[_, _, _] } }
    rcases hx with ⟨z, rfl, hz, q⟩ | ⟨a, xs, rfl, hq, q⟩ | ⟨a, xs, rfl, hq, q⟩
    · obtain ⟨t, rfl⟩ := r1
      refine tail_any (ops := [.str z t, .ref s4.heap.objs.size]) (typeIs_str _ _ _) (PySem.F.slot_str_getitem.lookup) ?_ (by with_unfolding_all rfl)
      refine wpAny_getItem_str_slice (l := none) (u := none) (st := some (-1, tk)) ⟨_, Heap.get?_push_size _ rfl, rfl, rfl⟩ rfl ?_
      have hl := revS_length z
      refine ⟨?_, .str _, H4, I5.tok _, ⟨_, rfl⟩, q⟩
      show (revS z).length ≤ sizeLine
      rw [sizeLine_eq]; omega
    · obtain rfl : v = Value.ref a := r1
      obtain ⟨its, r, ht, hz⟩ := I5.tuple hq
      refine tail_any (ops := [.ref a, .ref s4.heap.objs.size]) ht.typeIs (PyProof.Rows.slot_tuple_getitem.lookup) ?_ (by with_unfolding_all rfl)
      refine tup_turned ht (Heap.IsSliceOf.new _ _ _ _) (by rw [← r.length]; exact hz) ?_
      refine ⟨.ref _, _, I5.laid (t' := s4.toks) (o := .tup xs.reverse) (fun b ob q => Heap.get?_push_of_some _ q) (Nat.le_refl _) ?_, rfl, q _ (I5.hok.fresh (Nat.le_refl _))⟩
      exact ⟨by rw [List.length_reverse]; exact hz, _, r.reverse, IsTup.new _ _⟩
    · obtain rfl : v = Value.ref a := r1
      obtain ⟨its, r, ht, hz⟩ := I5.list hq
      have hlen := r.length
      refine tail_any (ops := [.ref a, .ref s4.heap.objs.size]) ht.isList.typeIs (PySem.slot_list_getitem.lookup) ?_ (by with_unfolding_all rfl)
      refine wpAny_getItem_list_slice ht.isList (Heap.IsSliceOf.new _ _ _ _) pl0 pu0 ps0 (by decide) ?_ (by rw [List.size_toArray]; omega)
      rw [PySem.W.krv_pick]
      refine ⟨.ref _, _, I5.laid (t' := s4.toks) (o := .lst xs.reverse) (fun b ob q => Heap.get?_push_of_some _ q) (Nat.le_refl _) ?_, rfl, q _ (I5.hok.fresh (Nat.le_refl _))⟩
      exact ⟨by rw [List.length_reverse]; exact hz, _, 0, r.reverse, Heap.get?_push_size _ rfl⟩
end
@[simp] theorem gTurn_tup {ds : List D} {S : Store} : gTurn (.tup ds) S = .ok (.tup ds.reverse) S := rfl
end Kw
namespace Kw
open PySem PySem.Spec PyProof.Rows L2
end Kw
namespace Kw
open PySem PySem.Spec PyProof.Rows L2
/-- the outer loop: F is what one of its items adds -/
noncomputable def compO (g : FG) (F : FEnv → List D → Store → RE (List D)) (gu : Option (Nat × List D)) (ρ : FEnv) : List D → List D → Store → RE (List D)
  | [], acc, S => gchk gu S (.ok acc S) .no
  | d :: r, acc, S => gchk gu S (match g d ρ S with
    | some (ρ1, S1) => (match F ρ1 acc S1 with
      | .ok acc2 S2 => compO g F gu ρ r acc2 S2
      | _ => .no)
    | none => .no) .no
noncomputable def inL (fi1 : FI) (g1 : FG) (te : FE) (vs1 : List Nat) : FEnv → List D → Store → RE (List D) := fun ρ1 acc S => match fi1 ρ1 S with
  | .ok p S1 => compL g1 fYes te p.2 (wipeR ρ1 vs1) p.1 acc S1
  | _ => .no
noncomputable def fLc2 (fi : FI) (g : FG) (fi1 : FI) (g1 : FG) (te : FE) (vs vs1 : List Nat) : FE := fun ρ S => (fi ρ S).bnd fun p S1 => match compO g (inL fi1 g1 te vs1) p.2 (wipeR ρ vs) p.1 [] S1 with
  | .ok acc S2 => .ok (.lst acc) S2
  | _ => .no
section
variable {X : Cx} {W : WX} {fi fi1 : FI} {g g1 : FG} {sl sl1 : List Nat} {te : FE}
theorem lc2_core' [Wo] {σ : L2.St} {H : Hp} {Q : VK} {vs vs1 : List Nat} (hsl : ∀ i ∈ sl, i ∈ vs) (hsl1 : ∀ i ∈ sl1, i ∈ vs1) (h : tF X W (fLc2 fi g fi1 g1 te vs vs1) σ H Q) :
    tLc2 (tI X W fi) (tG X sl g) (tT X W0 fYes) (tI X W0 fi1) (tG X sl1 g1) (tT X W0 fYes) (tF X W0 te) vs vs1 σ H Q := by
  obtain ⟨w, ρ, S, s, en, h⟩ := h
  refine ⟨w, ρ, S, s, en, (End.bind (R := ItOk X.K X.mg) h).imp ?_ (fun _ _ _ z => z)⟩
  rintro J H1 ⟨w1, S1, ⟨items, gu⟩, e1, s1, J1, h1⟩ C hC
  have enw : EnvR X.K X.mg w1 H1 (wipeR ρ vs) (wipe σ vs) := (en.ext e1).wipe vs
  let fin : RE (List D) → RE D := fun r => match r with
    | .ok acc S2 => .ok (.lst acc) S2
    | _ => .no
  have h1' : End X.K X.mg (fun w H => Rp X.K X.mg w H) w1 H1 (fin (compO g (inL fi1 g1 te vs1) gu (wipeR ρ vs) items [] S1)) Q (fun c od H' => W c od σ H') := h1
  let G : Hp → List D → Store → RE (List D) → Prop := fun H' acc S' r => ∃ w' xs, ExtD C w1 H1 w' H' ∧ Sto X.K X.mg w' S' H' ∧ H' C = some (.lst xs) ∧ RpL X.K X.mg w' H' acc xs ∧ ∃ r0, fin r = r0 ∧ End X.K X.mg (fun w H => Rp X.K X.mg w H) w1 H1 r0 Q (fun c od H' => W c od σ H')
  refine ⟨fun i m H' => ∃ acc S', i + m = items.length ∧ G H' acc S' (compO g (inL fi1 g1 te vs1) gu (wipeR ρ vs) (items.drop i) acc S'), ⟨items.length, [], S1, by omega, ⟨w1.φ, C :: w1.hd⟩, [], ExtD.begin_ hC, s1.mvd hC, upd_same, RpL.nil, _, rfl, h1'⟩, ?_⟩
  rintro i m H' ⟨acc, S', hm, w', xs, ed, s', hx, ra, r0, hr0, he⟩
  have no_end : ∀ {r : RE D}, r = .no → End X.K X.mg (fun w H => Rp X.K X.mg w H) w1 H1 r Q (fun c od H' => W c od σ H') → False := fun e h => by rw [e] at h; exact h
  cases hd : items.drop i with
  | nil =>
    rw [hd] at hr0
    unfold compO at hr0
    unfold gchk at hr0
    split at hr0
    · rename_i gd1
      have hl : items.length ≤ i := List.drop_eq_nil_iff.mp hd
      refine .inl ⟨(J1 w' S' H' ed.mv s' gd1).1 i hl, ?_⟩
      have hCin : C ∈ w'.hd := by rw [ed.hd]; exact List.mem_cons_self
      have hout : some C ∉ w'.φ := (s'.ap C hCin).2
      have hnh : C ∉ w1.hd := fun z => (s1.ap C z).1 hC
      have ra3 := RpL.mv (Mv.show (H := H') ed.hd) _ _ ra
      subst hr0
      refine he ⟨w'.φ, w1.hd⟩ H' (.ref C) ed.done (s'.show ed.hd ⟨_, hx⟩) ?_
      show Rp _ _ _ _ _ _
      unfold Rp
      exact ⟨C, xs, rfl, hx, ⟨hout, hnh⟩, ra3⟩
    · exact (no_end hr0.symm he).elim
  | cons d r =>
    rw [hd] at hr0
    unfold compO at hr0
    unfold gchk at hr0
    split at hr0
    · rename_i gd1
      have hi' : items[i]? = some d := by
        have := congrArg (·[0]?) hd
        simpa using this
      have hr : items.drop (i + 1) = r := by
        have := congrArg List.tail hd
        simpa using this
      have hlt : i < items.length := (List.getElem?_eq_some_iff.mp hi').1
      obtain ⟨j1, j2⟩ := (J1 w' S' H' ed.mv s' gd1).2 i d hi'
      refine .inr ⟨j1, fun H2 => ∃ acc2 S2, G H2 acc2 S2 (compO g (inL fi1 g1 te vs1) gu (wipeR ρ vs) r acc2 S2), fun H2 ⟨acc2, S2, z⟩ => ⟨m - 1, by omega, acc2, S2, by omega, by rw [hr]; exact z⟩, ?_⟩
      intro x H'' hy
      obtain ⟨j3, j4, j5⟩ := j2 x H'' hy
      have enw' : EnvR X.K X.mg w' H'' (wipeR ρ vs) (wipe σ vs) := (enw.mv ed.mv).ext j3
      refine ⟨w', wipeR ρ vs, S', d, j4, enw', j5, ?_⟩
      split at hr0
      · rename_i ρ1 S1' hg1
        rw [hg1]
        intro w2 H2 σ2 e2 s2 en2 k2 l2
        have hw : wipe σ2 vs = wipe σ vs := by
          rw [← wipe_wipe σ vs]
          exact wipe_eq l2 fun i hi => k2 i (fun z => hi (hsl i z))
        refine ⟨hw, w2, ρ1, S1', s2, en2, ?_⟩
        have ed2 : ExtD C w1 H1 w2 H2 := (ed.step j3).step e2
        intro w3 H3 b e3 s3 hb
        cases hb
        rw [if_pos rfl]
        have en3 := en2.ext e3
        refine ⟨w3, ρ1, S1', s3, en3, ?_⟩
        have exx3 : Ext w' H' w3 H3 := (j3.trans e2).trans e3
        have hCin' : C ∈ w'.hd := by rw [ed.hd]; exact List.mem_cons_self
        have hx3 : H3 C = some (.lst xs) := exx3.fr C _ hx (s'.ap C hCin').2
        have ra3 := RpL.ext exx3 _ _ ra
        have ed3 : ExtD C w1 H1 w3 H3 := ed2.step e3
        split at hr0
        · rename_i acc2 S2' hin
          unfold inL at hin
          split at hin
          · rename_i p S3 hfi
            obtain ⟨items1, gu1⟩ := p
            rw [hfi]
            intro w4 H4 J' e4 s4 JO
            have en4 : EnvR X.K X.mg w4 H4 (wipeR ρ1 vs1) (wipe σ2 vs1) := (en3.ext e4).wipe vs1
            have hC3 : C ∈ w3.hd := by rw [ed3.hd]; exact List.mem_cons_self
            have hx4 : H4 C = some (.lst xs) := e4.fr C _ hx3 (s3.ap C hC3).2
            have ra4 := RpL.ext e4 _ _ ra3
            have ed4 : ExtD C w1 H1 w4 H4 := ed3.step e4
            -- the inner loop
            let G1 : Hp → List D → Store → RE (List D) → Prop := fun H' acc S' r1 => ∃ w' xs, ExtD C w1 H1 w' H' ∧ Mv w4 H4 w' H' ∧ Sto X.K X.mg w' S' H' ∧ H' C = some (.lst xs) ∧ RpL X.K X.mg w' H' acc xs ∧ r1 = .ok acc2 S2'
            refine ⟨fun j k H' => ∃ acc S', j + k = items1.length ∧ G1 H' acc S' (compL g1 fYes te gu1 (wipeR ρ1 vs1) (items1.drop j) acc S'), ⟨items1.length, acc, S3, by omega, w4, xs, ed4, Mv.refl, s4, hx4, ra4, hin⟩, ?_⟩
            rintro j k H5 ⟨acc5, S5, hk, w5, xs5, ed5, mv5, s5, hx5, ra5, hr5⟩
            cases hd5 : items1.drop j with
            | nil =>
              rw [hd5] at hr5
              unfold compL at hr5
              unfold gchk at hr5
              split at hr5
              · rename_i gd5
                have hl5 : items1.length ≤ j := List.drop_eq_nil_iff.mp hd5
                cases hr5
                exact .inl ⟨(JO w5 _ H5 mv5 s5 gd5).1 j hl5, _, _, w5, xs5, ed5, s5, hx5, ra5, _, hr0, he⟩
              · cases hr5
            | cons d5 r5 =>
              rw [hd5] at hr5
              unfold compL at hr5
              unfold gchk at hr5
              split at hr5
              · rename_i gd5
                have hi5 : items1[j]? = some d5 := by
                  have := congrArg (·[0]?) hd5
                  simpa using this
                have hr6 : items1.drop (j + 1) = r5 := by
                  have := congrArg List.tail hd5
                  simpa using this
                have hlt5 : j < items1.length := (List.getElem?_eq_some_iff.mp hi5).1
                obtain ⟨q1, q2⟩ := (JO w5 S5 H5 mv5 s5 gd5).2 j d5 hi5
                refine .inr ⟨q1, fun H2 => ∃ acc2 S2, G1 H2 acc2 S2 (compL g1 fYes te gu1 (wipeR ρ1 vs1) r5 acc2 S2), fun H2 ⟨acc2, S2, z⟩ => ⟨k - 1, by omega, acc2, S2, by omega, by rw [hr6]; exact z⟩, ?_⟩
                intro x5 H6 hy5
                obtain ⟨j6, j7, j8⟩ := q2 x5 H6 hy5
                have en6 : EnvR X.K X.mg w5 H6 (wipeR ρ1 vs1) (wipe σ2 vs1) := (en4.mv mv5).ext j6
                refine ⟨w5, wipeR ρ1 vs1, S5, d5, j7, en6, j8, ?_⟩
                split at hr5
                · rename_i ρ6 S6 hg6
                  rw [hg6]
                  intro w7 H7 σ7 e7 s7 en7 k7 l7
                  have hw7 : wipe σ7 vs1 = wipe σ2 vs1 := by
                    rw [← wipe_wipe σ2 vs1]
                    exact wipe_eq l7 fun i hi => k7 i (fun z => hi (hsl1 i z))
                  refine ⟨hw7, w7, ρ6, S6, s7, en7, ?_⟩
                  intro w8 H8 b8 e8 s8 hb8
                  cases hb8
                  rw [if_pos rfl]
                  refine ⟨w8, ρ6, S6, s8, en7.ext e8, ?_⟩
                  have hyes : fYes ρ6 S6 = .ok true S6 := rfl
                  rw [hyes] at hr5
                  simp only at hr5
                  split at hr5
                  · rename_i y S9 hy9
                    rw [hy9]
                    intro w9 H9 u e9 s9 r9
                    have exx : Ext w5 H5 w9 H9 := ((j6.trans e7).trans e8).trans e9
                    have ed9 : ExtD C w1 H1 w9 H9 := ed5.step exx
                    have hC5 : C ∈ w5.hd := by rw [ed5.hd]; exact List.mem_cons_self
                    have hC9 : C ∈ w9.hd := by rw [ed9.hd]; exact List.mem_cons_self
                    have hx9 : H9 C = some (.lst xs5) := exx.fr C _ hx5 (s5.ap C hC5).2
                    have ra9 := RpL.ext exx _ _ ra5
                    split at hr5
                    · rename_i hlen
                      refine ⟨xs5, hx9, by rw [← ra5.length]; exact hlen, acc5 ++ [y], S9, w9, xs5 ++ [u], ed9.poke, (mv5.trans exx.mv).trans (Mv.poke hC9), s9.poke hC9 ⟨_, hx9⟩, upd_same, ?_, hr5⟩
                      exact (RpL.mv (Mv.poke hC9) _ _ ra9).append (RpL.one (Rp.mv (Mv.poke hC9) _ _ r9))
                    · cases hr5
                  · cases hr5
                · cases hr5
              · cases hr5
          · cases hin
        · exact (no_end hr0.symm he).elim
      · exact (no_end hr0.symm he).elim
    · exact (no_end hr0.symm he).elim
theorem q_lc2 [Wo] {elt tg iter tg1 iter1 : Expr} {scope : Scope} {own : List (Str × Nat)} {vs1 : List Nat} {pos : Pos} (hc : X.calm = true) (hN : X.N.Nodup) (hi : PI X tg iter (tI X W fi)) (ok : BlkOk X.N X.env.scope scope own) (hv : ∀ i ∈ vs1, i ∈ own.map (·.2)) (hsl : ∀ i ∈ sl, i ∈ own.map (·.2)) (hsl1 : ∀ i ∈ sl1, i ∈ vs1)
    (hg : ∀ (s : Shared) (H : Hp) (C : Addr) (cl : List (Str × Addr)) (fp : List Addr), PG (X.blk s H scope (compEnvC scope cl C X.env) fp) tg (tG (X.blk s H scope (compEnvC scope cl C X.env) fp) sl g))
    (hi1 : ∀ (s : Shared) (H : Hp) (C : Addr) (cl : List (Str × Addr)) (fp : List Addr), PI (X.blk s H scope (compEnvC scope cl C X.env) fp) tg1 iter1 (tI (X.blk s H scope (compEnvC scope cl C X.env) fp) W0 fi1))
    (hg1 : ∀ (s : Shared) (H : Hp) (C : Addr) (cl : List (Str × Addr)) (fp : List Addr), PG (X.blk s H scope (compEnvC scope cl C X.env) fp) tg1 (tG (X.blk s H scope (compEnvC scope cl C X.env) fp) sl1 g1))
    (he : ∀ (s : Shared) (H : Hp) (C : Addr) (cl : List (Str × Addr)) (fp : List Addr), PE (X.blk s H scope (compEnvC scope cl C X.env) fp) elt (tF (X.blk s H scope (compEnvC scope cl C X.env) fp) W0 te))
    (hs : ∀ x, foldedSetIterable iter X.env x = pure x := by intro _; rfl) (hs1 : ∀ env x, foldedSetIterable iter1 env x = pure x := by intro _ _; rfl) :
    PE X (.ListComp elt [⟨tg, iter, [], 0⟩, ⟨tg1, iter1, [], 0⟩] scope pos) (tF X W (fLc2 fi g fi1 g1 te (own.map (·.2)) vs1)) :=
  PE.wk (pe_lc2 (g := tG X sl g) (tt := tT X W0 fYes) (wi1 := tI X W0 fi1) (g1 := tG X sl1 g1) (tt1 := tT X W0 fYes) (te := tF X W0 te) hc hN hi ok hv hg (fun _ _ _ _ _ => qts_nil) hi1 hg1 (fun _ _ _ _ _ => qts_nil) he hs hs1) fun σ H Q h => lc2_core' hsl hsl1 h
theorem q_setLc2 [Wo] {elt tg iter tg1 iter1 : Expr} {scope : Scope} {own : List (Str × Nat)} {vs1 : List Nat} {i : Nat} {y : Str} {py pos spos : Pos} (hc : X.calm = true) (hN : X.N.Nodup) (hy : X.N[i]? = some y) (hyl : X.env.scope.names.lookup y = some .local)
    (hsw : swapsWith (.ListComp elt [⟨tg, iter, [], 0⟩, ⟨tg1, iter1, [], 0⟩] scope pos) (some (.Name y py)) spos.line X.env = pure true) (hi : PI X tg iter (tI X W fi)) (ok : BlkOk X.N X.env.scope scope own) (hv : ∀ i ∈ vs1, i ∈ own.map (·.2)) (hsl : ∀ i ∈ sl, i ∈ own.map (·.2)) (hsl1 : ∀ i ∈ sl1, i ∈ vs1)
    (hg : ∀ (s : Shared) (H : Hp) (C : Addr) (cl : List (Str × Addr)) (fp : List Addr), PG (X.blk s H scope (compEnvC scope cl C X.env) fp) tg (tG (X.blk s H scope (compEnvC scope cl C X.env) fp) sl g))
    (hi1 : ∀ (s : Shared) (H : Hp) (C : Addr) (cl : List (Str × Addr)) (fp : List Addr), PI (X.blk s H scope (compEnvC scope cl C X.env) fp) tg1 iter1 (tI (X.blk s H scope (compEnvC scope cl C X.env) fp) W0 fi1))
    (hg1 : ∀ (s : Shared) (H : Hp) (C : Addr) (cl : List (Str × Addr)) (fp : List Addr), PG (X.blk s H scope (compEnvC scope cl C X.env) fp) tg1 (tG (X.blk s H scope (compEnvC scope cl C X.env) fp) sl1 g1))
    (he : ∀ (s : Shared) (H : Hp) (C : Addr) (cl : List (Str × Addr)) (fp : List Addr), PE (X.blk s H scope (compEnvC scope cl C X.env) fp) elt (tF (X.blk s H scope (compEnvC scope cl C X.env) fp) W0 te))
    (hs : ∀ x, foldedSetIterable iter X.env x = pure x := by intro _; rfl) (hs1 : ∀ env x, foldedSetIterable iter1 env x = pure x := by intro _ _; rfl) :
    PS X (.Assign [.Name y py] (.ListComp elt [⟨tg, iter, [], 0⟩, ⟨tg1, iter1, [], 0⟩] scope pos) spos) (tS X W (sSet i (fLc2 fi g fi1 g1 te (own.map (·.2)) vs1))) :=
  PS.wk (ps_setLc2 (g := tG X sl g) (tt := tT X W0 fYes) (wi1 := tI X W0 fi1) (g1 := tG X sl1 g1) (tt1 := tT X W0 fYes) (te := tF X W0 te) hc hN hy hyl hsw hi ok hv hg (fun _ _ _ _ _ => qts_nil) hi1 hg1 (fun _ _ _ _ _ => qts_nil) he hs hs1) fun D σ H ⟨w, ρ, S, s, en, h⟩ => by
    refine lc2_core' (Q := fun x H1 => gName i x σ H1 D.nx) hsl hsl1 ⟨w, ρ, S, s, en, (h.of (R := fun w H => Rp X.K X.mg w H) en).imp (fun v H1 ⟨w1, S1, d, e1, s1, r1, h1⟩ => h1.nx' s1 ((en.ext e1).set r1)) (fun _ _ _ z => z)⟩
end
theorem rgV_ints (n : Int) : rgV 0 n = ((List.range n.toNat).map fun (i : Nat) => ((i : Nat) : Int)).map V.int := by
  unfold rgV
  rw [List.map_map, Int.sub_zero]
  apply List.map_congr_left
  intro i _
  simp
def gRng (x : D) (S : Store) : RE D := match x with
  | .int n => if 0 ≤ n ∧ n ≤ 16777216 then .ok (.lst (((List.range n.toNat).map fun (i : Nat) => ((i : Nat) : Int)).map D.int)) S else .no
  | _ => .no
theorem q_listRg [Wo] {X : Cx} {W : WX} {e : Expr} {fe : FE} {p p' pos pos' : Pos} (hc : X.calm = true) (hg : Gl X "list") (hm : X.mg "list" = none) (hg' : Gl X "range") (hm' : X.mg "range" = none) (he : PE X e (tF X W fe))
    (na : starEach [.Call (.Name "range" p') [e] [] pos'] X.env = (false, eval (.Call (.Name "range" p') [e] [] pos') X.env) :: starEach [] X.env := by rfl) (na' : starEach [e] X.env = (false, eval e X.env) :: starEach [] X.env := by rfl) :
    PE X (.Call (.Name "list" p) [.Call (.Name "range" p') [e] [] pos'] [] pos) (tF X W (f1 gRng fe)) :=
  PE.wk (pe_listRg hc hg hm (prg_1 hg' hm' he na') na) fun σ H Q ⟨w, ρ, S, s, en, h⟩ => by
    refine ⟨w, ρ, S, s, en, (End.bind (R := fun w H => Rp X.K X.mg w H) h).imp ?_ (fun _ _ _ z => z)⟩
    rintro v H1 ⟨w1, S1, d, e1, s1, r1, h1⟩
    unfold gRng at h1
    split at h1
    · rename_i n
      split at h1
      · rename_i hn
        refine ⟨n, rp_int r1, RgOk.of_le (by omega) (by omega) (by omega) (by omega), fun q hq => ?_⟩
        rw [rgV_ints]
        exact newLst s1 (RpL.ints _) hq h1
      · exact h1.elim
    · exact h1.elim
end Kw
namespace Kw
open PySem PySem.Spec PySem.Calls PyProof.Rows L2
theorem DpAll.length {K : PySem.W.Frag} {H : Hp} : ∀ {vs : List V} {ds : List PyData}, DpAll K H vs ds → vs.length = ds.length
  | _, _, .nil => rfl
  | _, _, .cons _ t => by simp [DpAll.length t]
section
variable {X : Cx}
theorem RpL.zip {K : PySem.W.Frag} {mg : Str → Option Value} {w : Wd} {H : Hp} : ∀ {ds : List D} {vs : List V}, RpL K mg w H ds vs → ∀ b ∈ ds.zip vs, Rp K mg w H b.1 b.2
  | [], vs, h, b, hb => by simp at hb
  | d :: ds, vs, h, b, hb => by
    unfold RpL at h
    obtain ⟨v, r, rfl, h1, h2⟩ := h
    rcases List.mem_cons.mp hb with rfl | hb
    · exact h1
    · exact RpL.zip h2 b hb
end
end Kw
namespace Kw
open PySem PySem.Spec PySem.Calls PyProof.Rows L2
/-- a code object, its table, the name that the table's code objects bear -/
abbrev Tb := Addr × Addr × Str
def tbP (cs : List Tb) : List Addr := cs.map fun p => p.2.1
section
variable {K : PySem.W.Frag} {mg : Str → Option Value} {cs : List Tb} {H : Hp} {a : Addr} {ns : List Int}
/-- what is known of the law at the top's heap -/
structure TopOk (K : PySem.W.Frag) (mg : Str → Option Value) (cs : List Tb) (h : Heap) : Prop where
  sysk : K.lookup sysModules = none
  at_ : ∀ p ∈ cs, h.get? p.2.1 = some { cls := .none, data := .fields #[] }
  look : ∀ p ∈ cs, K.lookup p.2.1 = none
  code : ∀ p ∈ cs, PySem.W.CodeHd h p.1 p.2.1
  nodup : (tbP cs).Nodup
  tin : ∀ p ∈ cs, PySem.W.tabIn K p.2.2 = some (p.1, p.2.1)
theorem TopOk.none {h : Heap} (hk : K.lookup sysModules = none) : TopOk K mg [] h := ⟨hk, fun _ z => (nomatch z), fun _ z => (nomatch z), fun _ z => (nomatch z), List.nodup_nil, fun _ z => (nomatch z)⟩
end
end Kw
namespace Kw
open PySem PySem.Spec PySem.Calls PyProof.Rows L2
end Kw
namespace Kw
open PySem PySem.Spec PySem.Calls PyProof.Rows L2
/-- a, b = a list -/
def gUl (n : Nat) (gs : FGs) : FG := fun d ρ S => match d with
  | .lst ds => if ds.length = n then gs ds ρ S else none
  | _ => none
@[simp] theorem gUl_ap {n : Nat} {gs : FGs} {ds : List D} {ρ : FEnv} {S : Store} : gUl n gs (.lst ds) ρ S = if ds.length = n then gs ds ρ S else none := rfl
end Kw
namespace Kw
open PySem PySem.Spec PySem.Calls PyProof.Rows L2
section
variable {P : Program} {w : World} {K : PySem.W.Frag} {mg : Str → Option Value} {base : Heap}
theorem cal_no [Wo] {x : Str} {st : Stmt} {ps : List Str} {k : Nat} (T : TF K mg x st ps) (hps : ps = (defArgs st).args.map (·.arg) := by rfl) : Cal P w K mg base k x (fun _ _ => .no) := by
  obtain ⟨f, fd, F, m, b⟩ := T
  exact ⟨f, fd, ps, ⟨fun vs H Q E ⟨w, S, ds, s, r, l, h⟩ => by rw [← r.length]; exact l, fun A outer s H args us vs Q E _ _ _ _ ⟨w, S, ds, st, r, l, h⟩ => h.elim⟩, m, F.kp, b, fun _ _ _ => rfl, hps.trans (fun_names F).symm, fun_look F⟩
end
end Kw
namespace Kw
open PySem PySem.Spec PySem.Calls PyProof.Rows L2
/-- the fields of an object of the class c may be read and stored -/
def FldC (K : PySem.W.Frag) (mg : Str → Option Value) (c f : Str) : Prop := ∃ C, mg c = some (.ref C) ∧ Cls K C ∧ NoAttr K C f
def obOf (S : Store) : D → Option (Str × List Str × List D)
  | .ins c fs ds => some (c, fs, ds)
  | .loc n => (match S[n]? with
    | some (.ob c fs ds) => some (c, fs, ds)
    | _ => none)
  | _ => none
def lookF (f : Str) : List Str → List D → Option D
  | g :: fs, d :: ds => if f = g then some d else lookF f fs ds
  | _, _ => none
def gFld (cs : List Str) (f : Str) (x : D) (S : Store) : RE D := match obOf S x with
  | some (c, fs, ds) => if c ∈ cs then (match lookF f fs ds with
    | some d => .ok d S
    | none => .no) else .no
  | none => .no
section
variable {K : PySem.W.Frag} {mg : Str → Option Value} {w : Wd} {H : Hp} {S : Store}
theorem obOf_at [Wo] (s : Sto K mg w S H) {d : D} {v : V} {c : Str} {fs : List Str} {ds : List D} (r : Rp K mg w H d v) (h : obOf S d = some (c, fs, ds)) : ∃ a C dx vs, v = .ref a ∧ mg c = some (.ref C) ∧ H a = some (.ins C dx (fs.zip vs)) ∧ fs.length = vs.length ∧ RpL K mg w H ds vs := by
  cases d <;> simp only [obOf] at h <;> try (cases h; done)
  · cases h
    unfold Rp at r
    obtain ⟨a, C, dx, vs, e, m, t, _, l, q⟩ := r
    exact ⟨a, C, dx, vs, e, m, t, l, q⟩
  · rename_i n
    split at h
    · rename_i c' fs' ds' hz
      cases h
      obtain ⟨a, C, dx, vs, h1, h2, h3, h4, h5⟩ := s.cell n _ hz
      unfold Rp at r
      exact ⟨a, C, dx, vs, r.2 a h1, h2, h3, h4, h5⟩
    · cases h
theorem lookF_at {f : Str} : ∀ {fs : List Str} {ds : List D} {vs : List V} {d : D}, fs.length = vs.length → RpL K mg w H ds vs → lookF f fs ds = some d → ∃ v, (fs.zip vs).lookup f = some v ∧ Rp K mg w H d v
  | [], _, _, _, _, _, h => by simp [lookF] at h
  | g :: fs, [], _, _, _, _, h => by simp [lookF] at h
  | g :: fs, d :: ds, vs, e, l, r, h => by
    unfold RpL at r
    obtain ⟨v, us, e1, r1, r2⟩ := r
    subst e1
    simp only [lookF] at h
    rw [List.zip_cons_cons]
    by_cases hf : f = g
    · rw [if_pos hf] at h
      cases h
      have hb : (f == g) = true := beq_iff_eq.mpr hf
      exact ⟨v, by simp only [List.lookup, hb], r1⟩
    · rw [if_neg hf] at h
      have hb : (f == g) = false := beq_eq_false_iff_ne.mpr hf
      obtain ⟨u, h1, h2⟩ := lookF_at (by simpa using l) r2 h
      exact ⟨u, by simp only [List.lookup, hb]; exact h1, h2⟩
theorem lookup_none {f : Str} : ∀ {fs : List Str} {vs : List V}, f ∉ fs → (fs.zip vs).lookup f = none
  | [], _, _ => rfl
  | g :: fs, [], _ => rfl
  | g :: fs, v :: vs, h => by
    rw [List.zip_cons_cons]
    have hf : f ≠ g := fun z => h (by rw [z]; exact List.mem_cons_self)
    have hb : (f == g) = false := beq_eq_false_iff_ne.mpr hf
    simp only [List.lookup, hb]
    exact lookup_none fun z => h (List.mem_cons_of_mem _ z)
theorem putF_new {f : Str} {y : V} : ∀ {fs : List Str} {vs : List V}, fs.length = vs.length → f ∉ fs → putF f y (fs.zip vs) = (fs ++ [f]).zip (vs ++ [y])
  | [], [], _, _ => rfl
  | g :: fs, v :: vs, l, h => by
    have hf : ¬ g = f := fun z => h (by rw [z]; exact List.mem_cons_self)
    rw [List.zip_cons_cons, List.cons_append, List.cons_append, List.zip_cons_cons, putF, if_neg hf, putF_new (by simpa using l) fun z => h (List.mem_cons_of_mem _ z)]
/-- an object under way is written -/
theorem Sto.obSet [Wo] {n : Nat} {l C dx : Addr} {c : Str} {fs : List Str} {ds : List D} {vs : List V} {o : HO} (s : Sto K mg w S H) (hw : w.φ[n]? = some (some l)) (hn : n < S.length) (hm : mg c = some (.ref C)) (ho : o = .ins C dx (fs.zip vs)) (hl : fs.length = vs.length) (r : RpL K mg w H ds vs) : Sto K mg w (S.set n (.ob c fs ds)) (upd H l o) := by
  have ex : Ext w H w (upd H l o) := Ext.write hw
  refine ⟨by rw [List.length_set]; exact s.len, s.nd, fun a ha => ⟨upd_some (s.ap a ha).1, (s.ap a ha).2⟩, fun m c' hc => ?_⟩
  by_cases e : m = n
  · subst e
    rw [List.getElem?_set_self hn] at hc
    cases hc
    exact ⟨l, C, dx, vs, hw, hm, by rw [upd_same, ho], hl, RpL.ext ex _ _ r⟩
  · rw [List.getElem?_set_ne (Ne.symm e)] at hc
    refine CellR.ext ex (fun a ha => ⟨ha, ?_⟩) id (s.cell m c' hc)
    exact upd_ne fun z => e (s.nd m n a ha (z ▸ hw))
/-- a new object -/
theorem Sto.obNew [Wo] {p C dx : Addr} {c : Str} (s : Sto K mg w S H) (np : H p = none) (hm : mg c = some (.ref C)) : Sto K mg ⟨w.φ ++ [some p], w.hd⟩ (S ++ [.ob c [] []]) (upd H p (.ins C dx [])) := by
  have ex : Ext w H ⟨w.φ ++ [some p], w.hd⟩ (upd H p (.ins C dx [])) := Ext.cell np
  refine ⟨by show (w.φ ++ [some p]).length = _; rw [List.length_append, List.length_append, s.len]; rfl, fun m n a h1 h2 => ?_, fun a ha => ⟨upd_some (s.ap a ha).1, fun z => ?_⟩, fun n c hc => ?_⟩
  · have key : ∀ k, (w.φ ++ [some p])[k]? = some (some a) → (w.φ[k]? = some (some a) ∧ k < w.φ.length) ∨ (k = w.φ.length ∧ a = p) := fun k hk => by
      by_cases hl : k < w.φ.length
      · rw [List.getElem?_append_left hl] at hk; exact .inl ⟨hk, hl⟩
      · have hl' : w.φ.length ≤ k := Nat.le_of_not_lt hl
        rw [List.getElem?_append_right hl'] at hk
        have : k - w.φ.length = 0 := by
          cases e : k - w.φ.length with
          | zero => rfl
          | succ j => rw [e] at hk; simp at hk
        rw [this] at hk; simp at hk
        exact .inr ⟨by omega, hk.symm⟩
    rcases key m h1 with ⟨a1, b1⟩ | ⟨a1, b1⟩ <;> rcases key n h2 with ⟨a2, b2⟩ | ⟨a2, b2⟩
    · exact s.nd m n a a1 a2
    · subst b2; exact absurd (List.mem_of_getElem? a1) (s.new np).1
    · subst b1; exact absurd (List.mem_of_getElem? a2) (s.new np).1
    · omega
  · rcases List.mem_append.mp (show some a ∈ w.φ ++ [some p] from z) with h | h
    · exact (s.ap a ha).2 h
    · simp at h; subst h; exact (s.ap a ha).1 np
  · by_cases hl : n < S.length
    · rw [List.getElem?_append_left hl] at hc
      refine CellR.ext ex (fun a ha => ⟨by show (w.φ ++ [some p])[n]? = _; rw [List.getElem?_append_left (s.len ▸ hl)]; exact ha, ?_⟩) (fun hd => by show (w.φ ++ [some p])[n]? = _; rw [List.getElem?_append_left (s.len ▸ hl)]; exact hd) (s.cell n c hc)
      have : a ≠ p := fun z => by subst z; exact (s.new np).1 (List.mem_of_getElem? ha)
      rw [upd_ne this]
    · have hl' : S.length ≤ n := Nat.le_of_not_lt hl
      rw [List.getElem?_append_right hl'] at hc
      have e0 : n - S.length = 0 := by
        cases e : n - S.length with
        | zero => rfl
        | succ j => rw [e] at hc; simp at hc
      rw [e0] at hc; simp at hc; subst hc
      have en : n = w.φ.length := by rw [s.len]; omega
      subst en
      exact ⟨p, C, dx, [], by show (w.φ ++ [some p])[w.φ.length]? = _; rw [List.getElem?_append_right (Nat.le_refl _), Nat.sub_self]; rfl, hm, upd_same, rfl, RpL.nil⟩
/-- an object that is done is a value -/
theorem oz_at [Wo] {n : Nat} {a : Addr} {c : Str} {fs : List Str} {ds : List D} {Q : VK} {E : Value → Option Addr → Hp → Prop} (s : Sto K mg w S H) (hz : S[n]? = some (.ob c fs ds)) (ha : w.φ[n]? = some (some a)) (h : End K mg (fun w H => Rp K mg w H) w H (.ok (.ins c fs ds) (S.set n .dead)) Q E) : Q (.ref a) H := by
  obtain ⟨a', C, dx, vs, h1, hm, h2, hl, h3⟩ := s.cell n _ hz
  rw [ha] at h1; cases h1
  have hn : n < w.φ.length := by
    rcases Nat.lt_or_ge n w.φ.length with z | z
    · exact z
    · rw [List.getElem?_eq_none z] at ha; cases ha
  have gs : (w.φ.set n none)[n]? = some none := by rw [List.getElem?_set_self hn]
  have gn : ∀ m : Nat, m ≠ n → (w.φ.set n none)[m]? = w.φ[m]? := fun m hm => List.getElem?_set_ne (Ne.symm hm)
  have sub : ∀ (m : Nat) b, (w.φ.set n none)[m]? = some (some b) → w.φ[m]? = some (some b) ∧ m ≠ n := fun m b q => by
    by_cases e : m = n
    · subst e; rw [gs] at q; cases q
    · rw [gn m e] at q; exact ⟨q, e⟩
  have mem : ∀ b, some b ∈ w.φ.set n none → some b ∈ w.φ := fun b q => by
    obtain ⟨m, hm⟩ := List.mem_iff_getElem?.mp q
    exact List.mem_of_getElem? (sub m b hm).1
  have out : some a ∉ w.φ.set n none := fun q => by
    obtain ⟨m, hm⟩ := List.mem_iff_getElem?.mp q
    obtain ⟨q1, q2⟩ := sub m a hm
    exact q2 (s.nd m n a q1 ha)
  have ex : Ext w H ⟨w.φ.set n none, w.hd⟩ H := ⟨fun _ _ h _ => h, by show _ ≤ (w.φ.set n none).length; rw [List.length_set]; exact Nat.le_refl _, fun m b q _ => (sub m b q).1, fun b q => .inl (mem b q), rfl⟩
  have s' : Sto K mg ⟨w.φ.set n none, w.hd⟩ (S.set n .dead) H := by
    refine ⟨by show (w.φ.set n none).length = _; rw [List.length_set, List.length_set]; exact s.len, fun m k b q1 q2 => s.nd m k b (sub m b q1).1 (sub k b q2).1, fun b hb => ⟨(s.ap b hb).1, fun z => (s.ap b hb).2 (mem b z)⟩, fun m c hc => ?_⟩
    by_cases e : m = n
    · subst e
      rw [List.getElem?_set_self (s.len ▸ hn)] at hc
      cases hc
      exact gs
    · rw [List.getElem?_set_ne (Ne.symm e)] at hc
      exact CellR.ext ex (fun b hb => ⟨by show (w.φ.set n none)[m]? = _; rw [gn m e]; exact hb, rfl⟩) (fun hb => by show (w.φ.set n none)[m]? = _; rw [gn m e]; exact hb) (s.cell m c hc)
  refine h ⟨w.φ.set n none, w.hd⟩ H (.ref a) ex s' ?_
  show Rp _ _ _ _ _ _
  unfold Rp
  exact ⟨a, C, dx, vs, rfl, hm, h2, ⟨out, fun z => (s.ap a z).2 (List.mem_of_getElem? ha)⟩, hl, RpL.ext ex _ _ h3⟩
end
/-- self.f = e -/
def sFl (cs : List Str) (f : Str) (fo fv : FE) : FS := fun ρ S => (fv ρ S).toS ρ fun y S1 => (fo ρ S1).toS ρ fun x S2 => match x with
  | .loc n => (match S2[n]? with
    | some (.ob c fs ds) => if c ∈ cs ∧ f ∉ fs ∧ fs.length < 999 then .nx ρ (S2.set n (.ob c (fs ++ [f]) (ds ++ [y]))) else .no
    | _ => .no)
  | _ => .no
/-- the class c's method m computes f -/
def CalM [Wo] (P : Program) (w : World) (K : PySem.W.Frag) (mg : Str → Option Value) (base : Heap) (k : Nat) (c m : Str) (f : FF) : Prop :=
  ∃ C a fd ps, mg c = some (.ref C) ∧ Cls K C ∧ Meth K C m a ∧ FnG P w K mg base k a fd ps (spF K mg ps.length f) ∧ Binds K fd ps [] ∧ ∀ ds S, ds.length ≠ ps.length → f ds S = .no
/-- the class c can be made -/
def MkC (K : PySem.W.Frag) (mg : Str → Option Value) (c : Str) : Prop := ∃ C a, mg c = some (.ref C) ∧ Mk K C a
def DispOk [Wo] (P : Program) (w : World) (K : PySem.W.Frag) (mg : Str → Option Value) (base : Heap) (k : Nat) (m : Str) (L : List (Str × FF)) : Prop := ∀ c F, L.lookup c = some F → CalM P w K mg base k c m F
theorem dm_nil [Wo] {P : Program} {w : World} {K : PySem.W.Frag} {mg : Str → Option Value} {base : Heap} {k : Nat} {m : Str} : DispOk P w K mg base k m [] := fun c F h => by simp at h
theorem dm_cons [Wo] {P : Program} {w : World} {K : PySem.W.Frag} {mg : Str → Option Value} {base : Heap} {k : Nat} {c m : Str} {F : FF} {L : List (Str × FF)} (h : CalM P w K mg base k c m F) (t : DispOk P w K mg base k m L) : DispOk P w K mg base k m ((c, F) :: L) := fun c' F' e => by
  rw [List.lookup_cons] at e
  by_cases q : c' = c
  · subst q
    simp at e
    subst e; exact h
  · have hb : (c' == c) = false := beq_eq_false_iff_ne.mpr q
    rw [hb] at e
    exact t c' F' e
/-- o.m(..) -/
def disR (L : List (Str × FF)) (m : Str) (x : D) : Option FF := match x with
  | .ins c fs _ => if m ∈ fs then none else L.lookup c
  | _ => none
def fMe (L : List (Str × FF)) (m : Str) (fo : FE) (fa : FA) : FE := fun ρ S => (fo ρ S).bnd fun x S1 => match disR L m x with
  | some F => (fa ρ S1).bnd fun as S2 => F (x :: as) S2
  | none => .no
/-- C(..) -/
noncomputable def mkR (c : Str) (F : FF) (ds : List D) (S1 : Store) : RE D := cutR S1 ((F (.loc S1.length :: ds) (S1 ++ [.ob c [] []])).bnd fun r S2 => match r with
  | .non => (match S2[S1.length]? with
    | some (.ob c' fs' ds') => .ok (.ins c' fs' ds') (S2.set S1.length .dead)
    | _ => .no)
  | _ => .no)
noncomputable def fMk (c : Str) (F : FF) (fs : FA) : FE := fun ρ S => (fs ρ S).bnd (mkR c F)
section
variable {X : Cx} {W : WX} {e o value : Expr} {es : List Expr} {f m x : Str} {fe fo fv : FE} {fs : FA} {cs : List Str} {pos pos' p apos : Pos} {k : Nat}
theorem q_fld [Wo] (he : PE X e (tF X W fe)) (hc : ∀ c ∈ cs, FldC X.K X.mg c f) (hb : attributeBase e f X.env (eval e X.env) = eval e X.env := by rfl) : PE X (.Attribute e f pos) (tF X W (f1 (gFld cs f) fe)) :=
  PE.wk (pe_fld he hb) fun σ H Q ⟨w, ρ, S, s, en, h⟩ => by
    refine ⟨w, ρ, S, s, en, (End.bind (R := fun w H => Rp X.K X.mg w H) h).imp ?_ (fun _ _ _ z => z)⟩
    rintro v H1 ⟨w1, S1, d, e1, s1, r1, h1⟩
    unfold gFld at h1
    split at h1
    case h_2 => exact h1.elim
    rename_i c fs' ds' ho
    split at h1
    case isFalse => exact h1.elim
    rename_i hcc
    split at h1
    case h_2 => exact h1.elim
    rename_i d' hl
    obtain ⟨a, C, dx, vs, ev, hm, ha, l, q⟩ := obOf_at s1 r1 ho
    obtain ⟨C', hm', cl, na⟩ := hc c hcc
    rw [hm] at hm'; cases hm'
    obtain ⟨u, hu, ru⟩ := lookF_at l q hl
    exact ⟨a, C, dx, _, u, ev, ha, cl, na, hu, h1.ret s1 ru⟩
theorem q_sfl [Wo] (ho : PE X o (tF X W fo)) (hv : PE X value (tF X W fv)) (hc : ∀ c ∈ cs, FldC X.K X.mg c f) (hs : swapsWith value (some (.Attribute o f pos')) pos.line X.env = pure false := by rfl) : PS X (.Assign [.Attribute o f pos'] value pos) (tS X W (sFl cs f fo fv)) :=
  PS.wk (ps_fld ho hv hs) fun D σ H ⟨w, ρ, S, s, en, h⟩ => by
    refine ⟨w, ρ, S, s, en, (h.of (R := fun w H => Rp X.K X.mg w H) en).imp ?_ (fun _ _ _ z => z)⟩
    rintro y H1 ⟨w1, S1, d1, e1, s1, r1, h1⟩
    refine ⟨w1, ρ, S1, s1, en.ext e1, (h1.of (R := fun w H => Rp X.K X.mg w H) (en.ext e1)).imp ?_ (fun _ _ _ z => z)⟩
    rintro v H2 ⟨w2, S2, d2, e2, s2, r2, h2⟩
    cases d2 <;> try exact h2.elim
    rename_i n
    simp only at h2
    split at h2
    case h_2 => exact h2.elim
    rename_i c fs' ds' hz
    split at h2
    case isFalse => exact h2.elim
    rename_i hk
    obtain ⟨a, C, dx, vs, w1', hm, ha, l, q⟩ := s2.cell n _ hz
    unfold Rp at r2
    have ev := r2.2 a w1'
    obtain ⟨C', hm', cl, na⟩ := hc c hk.1
    rw [hm] at hm'; cases hm'
    have hn : n < S2.length := by
      rcases Nat.lt_or_ge n S2.length with z | z
      · exact z
      · rw [List.getElem?_eq_none z] at hz; cases hz
    have rl : RpL X.K X.mg w2 H2 (ds' ++ [d1]) (vs ++ [y]) := RpL.append q (RpL.one (Rp.ext e2 _ _ r1))
    have st := Sto.obSet (n := n) (l := a) (C := C) (dx := dx) (c := c) (fs := fs' ++ [f]) (ds := ds' ++ [d1]) (vs := vs ++ [y]) (o := .ins C dx (putF f y (fs'.zip vs))) s2 w1' hn hm (by rw [putF_new l hk.2.1]) (by simp [l]) rl
    have lz : (fs'.zip vs).length < 1000 := by rw [List.length_zip]; have := hk.2.2; omega
    exact ⟨a, C, dx, fs'.zip vs, ev, ha, cl, na, lz, h2 w2 _ σ (Ext.write w1') st (((en.ext e1).ext e2).ext (Ext.write w1'))⟩
theorem q_me [Wo] {L : List (Str × FF)} {pl : Sem Bool} (ho : PE X o (tF X W fo)) (hM : DispOk X.prog X.w X.K X.mg X.base k m L) (hr : RoomG k X.A) (tk : Takes X W) (ha : PA X (e :: es) (tA X W fs))
    (hst : starEach (e :: es) X.env = (false, eval e X.env) :: starEach es X.env := by rfl) (hpl : (backTo pos (starEach es X.env)).any (·.1) = false := by rfl)
    (ht : eval (.Call (.Attribute o m apos) (e :: es) [] pos) X.env = (do
      let ov ← eval o X.env
      standAt apos.atName
      let (f, first) ← holding [ov] (getMethod ov m pl)
      callWith pos f first (backTo pos (starEach (e :: es) X.env)) (backToKw pos (keywordEach [] X.env))) := by rfl) :
    PE X (.Call (.Attribute o m apos) (e :: es) [] pos) (tF X W (fMe L m fo fs)) := by
  refine ⟨fun pins s σ H Q I ⟨w, ρ, S, s0, en, h⟩ => ?_⟩
  refine PySem.W.methodCall_KW (pl := pl) (thn (ho.run pins s σ H _ I ⟨w, ρ, S, s0, en, (End.bind (R := fun w H => Rp X.K X.mg w H) h).imp (fun _ _ z => z) (fun _ _ _ z => z)⟩) fun u s1 ⟨v, H1, I1, rv, w1, S1, d, e1, s1', r1, h1⟩ => ?_) ht
  split at h1
  case h_2 => exact h1.elim
  rename_i F hF
  cases d <;> simp only [disR] at hF <;> try (cases hF; done)
  rename_i c fs' ds'
  split at hF
  · cases hF
  rename_i hmf
  obtain ⟨C, a, fd, ps, hm, cl, me, Fn, bd, ar⟩ := hM c F hF
  have r1c := r1
  unfold Rp at r1
  obtain ⟨b, C', dx, vs, ev, hm', hb, off, l, q⟩ := r1
  rw [hm] at hm'; cases hm'
  subst ev
  obtain rfl : u = Value.ref b := rv
  refine getmeth_ok I1 hb cl me (lookup_none hmf) ?_
  refine PySem.W.callWith_K (first := [.ref b]) (h₀ := X.base) I.ok.mod.kin me.kp (thn (ha.run pos pins s1 σ H1 (fun vs H2 => spF X.K X.mg ps.length F (.ref b :: vs) H2 Q (WE W σ)) I1
    ⟨w1, ρ, S1, s1', en.ext e1, (End.bind (R := fun w H => RpL X.K X.mg w H) h1).imp ?_ (fun _ _ _ z => z)⟩) fun us s2 ⟨vs2, H2, I2, r, q2⟩ => ⟨I2.kIn, run_g (us := .ref b :: us) (vs := .ref b :: vs2) Fn hr tk I2 (.cons rfl r) (binds0 (us := .ref b :: us) bd I2.kIn ?_) q2⟩) hst hpl
  · rintro vs2 H2 ⟨w2, S2, ds2, e2, s2, r2, h2⟩
    refine ⟨w2, S2, .ins c fs' ds' :: ds2, s2, RpL.cons (Rp.ext e2 _ _ r1c) r2, ?_, h2⟩
    apply Classical.byContradiction
    intro hn
    rw [ar _ S2 hn] at h2
    exact h2
  · have z : (V.ref b :: vs2).length = (Value.ref b :: us).length := by simp [r.length]
    rw [← z]; exact Fn.size _ _ _ _ q2
theorem q_make [Wo] {c : Str} {F : FF} (C : CalM X.prog X.w X.K X.mg X.base k c "__init__" F) (M : MkC X.K X.mg c) (hr : RoomG (k + 1) X.A) (tk : Takes X W) (hg : Gl X c) (ha : PA X (e :: es) (tA X W fs)) (hdb : (c == ("__debug__" : Str)) = false := by decide)
    (he : starEach (e :: es) X.env = (false, eval e X.env) :: starEach es X.env := by rfl) (hpl : (backTo pos (starEach es X.env)).any (·.1) = false := by rfl) : PE X (.Call (.Name c p) (e :: es) [] pos) (tF X W (fMk c F fs)) := by
  obtain ⟨A1, a, fd, ps, hm, cl, me, Fn, bd, ar⟩ := C
  obtain ⟨A2, a2, hm2, mk⟩ := M
  rw [hm] at hm2; cases hm2
  have ea : a2 = a := by
    have z := mk.init.symm.trans me.at_
    simpa using z
  subst ea
  refine ⟨fun pins s σ H Q I ⟨w, ρ, S, s0, en, h⟩ => ?_⟩
  refine wpAny_Call_Name_kw (ld_glob I hg hm ?_ hdb)
  refine PySem.W.callWith_K (h₀ := X.base) I.ok.mod.kin mk.kp (thn (ha.run pos pins s σ H (fun vs H1 => ∃ w1 S1 ds, Sto X.K X.mg w1 S1 H1 ∧ RpL X.K X.mg w1 H1 ds vs ∧ End X.K X.mg (fun w H => Rp X.K X.mg w H) w1 H1 (mkR c F ds S1) Q (WE W σ)) I
    ⟨w, ρ, S, s0, en, (End.bind (R := fun w H => RpL X.K X.mg w H) h).imp (fun vs H1 ⟨w1, S1, ds, e1, s1, r1, h1⟩ => ⟨w1, S1, ds, s1, r1, h1⟩) (fun _ _ _ z => z)⟩) fun us s1 ⟨vs, H1, I1, r, w1, S1, ds, st1, r1, h1⟩ => ⟨I1.kIn, ?_⟩) he hpl
  -- the object
  have nx : H1 (s1.heap.objs.size + 1) = none := I1.hok.fresh (Nat.le_succ _)
  have nd : H1 s1.heap.objs.size = none := I1.hok.fresh (Nat.le_refl _)
  have I2 := Inv.made (C := A1) I1
  have stB := st1.beside (o := .own (s1.heap.objs.size + 1)) nd
  have nx2 : upd H1 s1.heap.objs.size (.own (s1.heap.objs.size + 1)) (s1.heap.objs.size + 1) = none := by
    rw [upd_ne (Nat.succ_ne_self _)]; exact nx
  have st2 := stB.obNew (C := A1) (dx := s1.heap.objs.size) (c := c) nx2 hm
  have ex1 : Ext w1 H1 w1 (upd H1 s1.heap.objs.size (.own (s1.heap.objs.size + 1))) := Ext.new nd
  have ex2 : Ext w1 (upd H1 s1.heap.objs.size (.own (s1.heap.objs.size + 1))) ⟨w1.φ ++ [some (s1.heap.objs.size + 1)], w1.hd⟩ (upd (upd H1 s1.heap.objs.size (.own (s1.heap.objs.size + 1))) (s1.heap.objs.size + 1) (.ins A1 s1.heap.objs.size [])) := Ext.cell nx2
  have h2 := End.on (ex1.trans ex2) (End.cutE st1 h1)
  have hsp : spF X.K X.mg ps.length F (.ref (s1.heap.objs.size + 1) :: vs) (upd (upd H1 s1.heap.objs.size (.own (s1.heap.objs.size + 1))) (s1.heap.objs.size + 1) (.ins A1 s1.heap.objs.size [])) (fun v H' => v = .non ∧ Q (.ref (s1.heap.objs.size + 1)) H') (WE W σ) := by
    refine ⟨_, _, .loc S1.length :: ds, st2, RpL.cons ?_ (RpL.ext (ex1.trans ex2) _ _ r1), ?_, ?_⟩
    · unfold Rp
      refine ⟨by show S1.length < (w1.φ ++ [some (s1.heap.objs.size + 1)]).length; rw [List.length_append, st1.len]; exact Nat.lt_succ_self _, fun a ha => ?_⟩
      have ha' : (w1.φ ++ [some (s1.heap.objs.size + 1)])[S1.length]? = some (some a) := ha
      rw [← st1.len, List.getElem?_append_right (Nat.le_refl _), Nat.sub_self] at ha'
      simp at ha'; rw [ha']
    · apply Classical.byContradiction
      intro hn
      have : mkR c F ds S1 = .no := by
        unfold mkR
        rw [ar _ _ hn]; rfl
      rw [this] at h1
      exact h1
    · refine (End.bind (R := fun w H => Rp X.K X.mg w H) h2).imp ?_ (fun _ _ _ z => z)
      rintro v H' ⟨w3, S3, d3, e3, s3, r3, h3⟩
      cases d3 <;> try exact h3.elim
      unfold Rp at r3
      refine ⟨r3, ?_⟩
      simp only at h3
      split at h3
      case h_2 => exact h3.elim
      rename_i c' fs' ds' hz
      obtain ⟨b, C', dx, vs', hb1, hb2, hb3, hb4, hb5⟩ := s3.cell _ _ hz
      have hlt : S1.length < (w1.φ ++ [some (s1.heap.objs.size + 1)]).length := by rw [List.length_append, st1.len]; exact Nat.lt_succ_self _
      have hb6 := e3.ph _ _ hb1 hlt
      have hb7 : (w1.φ ++ [some (s1.heap.objs.size + 1)])[S1.length]? = some (some b) := hb6
      rw [← st1.len, List.getElem?_append_right (Nat.le_refl _), Nat.sub_self] at hb7
      simp at hb7
      rw [hb7]
      exact oz_at s3 hz hb1 h3
  have r2 : Vals (V.ref (s1.heap.objs.size + 1) :: vs) (Value.ref (s1.heap.objs.size + 1) :: us) := .cons rfl r
  have hl : (Value.ref (s1.heap.objs.size + 1) :: us).length = ps.length := by
    rw [← r2.length]; exact Fn.size _ _ _ _ hsp
  have hrm : RoomG k (X.A.under (.builtin "type.__call__" ⟨.ref A1 :: us, []⟩)) := ⟨hr.rm.make A1 us [], hr.gd⟩
  refine wpAny_call (make_map (f := a2) I1.kIn mk.makes mk.init (beq_iff_eq.mp mk.fn) (codeAny_mono (Fn.runs _ X.stack _ _ ⟨Value.ref (s1.heap.objs.size + 1) :: us, []⟩ (Value.ref (s1.heap.objs.size + 1) :: us) _ _ (WE W σ) hrm
    (I2.env0.make A1 us []) (binds0 (us := Value.ref (s1.heap.objs.size + 1) :: us) bd I2.kIn hl) r2 hsp) fun r s' hq' => ?_))
  cases r with
  | error e => exact passAt tk σ pins _ _ e s' I2 hq'
  | ok fl =>
    cases fl with
    | ret u =>
      obtain ⟨v, H', I3, rv, ev, q3⟩ := I2.after hq'
      subst ev
      exact ⟨rv, ⟨V.ref (s1.heap.objs.size + 1), H', I3, rfl, q3⟩⟩
    | next => exact False.elim hq'
    | brk => exact False.elim hq'
    | cont => exact False.elim hq'
end
end Kw
namespace Kw
open PySem PySem.Spec PySem.Calls PyProof.Rows L2
def getGR (kvs : List (Str × D)) (y : D) (S : Store) : RE D := match y with
  | .str z => (match kvs.lookup z with
    | some d => .ok d S
    | none => .ok .non S)
  | _ => .no
def fGetG (n : Str) (kvs : List (Str × D)) (fa fb : FE) : FE := fun ρ S => (fa ρ S).bnd fun x S1 => match x with
  | .glo m => if m = n then (fb ρ S1).bnd (getGR kvs) else .no
  | _ => .no
def getO (o : Option D) (S : Store) : RE D := match o with
  | some d => .ok d S
  | none => .ok .non S
@[simp] theorem getO_some {d : D} {S : Store} : getO (some d) S = .ok d S := rfl
@[simp] theorem getO_none {S : Store} : getO none S = .ok .non S := rfl
@[simp] theorem getGR_str {z : Str} {kvs : List (Str × D)} {S : Store} : getGR kvs (.str z) S = getO (kvs.lookup z) S := rfl
theorem fGetG_ap {n : Str} {kvs : List (Str × D)} {fb : FE} {ρ : FEnv} {S : Store} : fGetG n kvs (fC (.glo n)) fb ρ S = (fb ρ S).bnd (getGR kvs) := by
  show (if n = n then (fb ρ S).bnd (getGR kvs) else .no) = _
  rw [if_pos rfl]
section
variable {X : Cx} {W : WX} {a b : Expr} {fa fb : FE} {apos cpos : Pos} {x : Str} {kvs : List (Str × D)}
theorem q_getG [Wo] (h : GD X.K X.w.params X.mg x kvs) (ha : PE X a (tF X W fa)) (hb : PE X b (tF X W fb)) (m : M1 X a "get" apos b cpos := by exact ⟨rfl, rfl, rfl, rfl⟩) : PE X (.Call (.Attribute a "get" apos) [b] [] cpos) (tF X W (fGetG x kvs fa fb)) := by
  obtain ⟨p, es, n, mm, l, k, hs, f⟩ := h
  refine ⟨fun pins s σ H Q I ⟨w, ρ, S, s0, en, h⟩ => ?_⟩
  refine wpAny_Call_method m.base m.few m.line PySem.F.plainAttrs_dict PySem.F.slot_dict_get PySem.F.type_dict_get (thn (ha.run pins s σ H (fun v H1 => v = .ref p ∧ ∃ w1 S1, Sto X.K X.mg w1 S1 H1 ∧ EnvR X.K X.mg w1 H1 ρ σ ∧ End X.K X.mg (fun w H => Rp X.K X.mg w H) w1 H1 ((fb ρ S1).bnd (getGR kvs)) Q (fun c od H' => W c od σ H')) I
    ⟨w, ρ, S, s0, en, (End.bind (R := fun w H => Rp X.K X.mg w H) h).imp ?_ (fun _ _ _ z => z)⟩) fun u s1 ⟨v, H1, I1, rv, ev, w1, S1, st1, en1, h1⟩ => ?_)
  · rintro v H1 ⟨w1, S1, d, e1, s1, r1, h1⟩
    cases d <;> try exact h1.elim
    simp only at h1
    split at h1
    · rename_i em
      subst em
      unfold Rp at r1
      obtain ⟨q, e2, e3⟩ := r1
      rw [mm] at e3; cases e3
      exact ⟨e2, w1, S1, s1, en.ext e1, h1⟩
    · exact h1.elim
  · subst ev
    obtain rfl : u = Value.ref p := rv
    have hm := PySem.W.mapOf_K (prog := X.prog) (w := X.w) I1.kIn l k
    refine ⟨hm.typeIs, fun b q => ?_, ?_⟩
    · cases q
      exact ⟨_, I1.kIn _ _ l, rfl⟩
    · rw [m.trees]
      refine Calls.callWith_builtin rfl (Calls.evalArgs_plain (Calls.spliced_cons (thn (hb.run pins s1 σ H1 (fun y H2 => ∃ z d, y = .str z ∧ (∃ v0, (match kvs.lookup z with | some d => CV d v0 | none => v0 = .non) ∧ Q v0 H2) ∧ d = kvs.lookup z) I1
        ⟨w1, ρ, S1, st1, en1, (End.bind (R := fun w H => Rp X.K X.mg w H) h1).imp ?_ (fun _ _ _ z => z)⟩) fun iv s2 ⟨y, H2, I2, ry, z, d, ey, ⟨v0, hv0, q2⟩, ed⟩ => Calls.spliced_nil ?_)))
      · rintro y H2 ⟨w2, S2, d2, e2, s2, r2, h2⟩
        cases d2 <;> try exact h2.elim
        rename_i z
        refine ⟨z, _, rp_str r2, ?_, rfl⟩
        simp only [getGR] at h2
        have fz := f z
        split at h2
        · rename_i d hd
          rw [hd] at fz
          obtain ⟨u, v, f1, f2, f3⟩ := fz
          exact ⟨v, f3, h2.ret s2 f3.rp⟩
        · rename_i hd
          exact ⟨.non, rfl, h2.ret s2 rp_n⟩
      · subst ey
        obtain ⟨t, rfl⟩ := ry
        have hm2 := PySem.W.mapOf_K (prog := X.prog) (w := X.w) I2.kIn l k
        refine call_meetsIn PySem.F.slot_dict_get hm2.typeIs PySem.F.entry_dict_get (PySem.F.args_dict_get_2 _ _) (meets_dict_get (strKind X.prog X.w) p (strKind_is X.prog X.w z t) hs) ⟨_, hm2, ?_⟩
        have fz := f z
        cases hd : kvs.lookup z with
        | some d =>
          rw [hd] at fz hv0
          obtain ⟨u, v, f1, f2, f3⟩ := fz
          have hv1 : CV d v0 := hv0
          have e : v0 = v := by
            cases d <;> simp only [CV] at hv1 f3 <;> first | exact hv1.trans f3.symm | exact hv1.elim
          subst e
          refine ⟨v0, H2, I2.tok _, ?_, q2⟩
          rw [PySem.W.find_K l f1]
          exact f2
        | none =>
          rw [hd] at fz hv0
          have hv1 : v0 = .non := hv0
          subst hv1
          refine ⟨.non, H2, I2.tok _, ?_, q2⟩
          rw [PySem.W.find_K l fz]
          rfl
end
/-- the class's method stands in the class's body -/
def TM (K : PySem.W.Frag) (mg : Str → Option Value) (c m qual : Str) (st : Stmt) (ps : List Str) : Prop := ∃ C f fd, mg c = some (.ref C) ∧ Cls K C ∧ Meth K C m f ∧ Fun K m qual st f fd ∧ Binds K fd ps []
section
variable {P : Program} {w : World} {K : PySem.W.Frag} {mg : Str → Option Value} {base : Heap}
theorem calM_zero [Wo] {c m qual : Str} {st : Stmt} {ps : List Str} {k : Nat} (T : TM K mg c m qual st ps) : CalM P w K mg base k c m (fun _ _ => .no) := by
  obtain ⟨C, f, fd, hm, cl, me, F, b⟩ := T
  exact ⟨C, f, fd, ps, hm, cl, me, ⟨fun vs H Q E ⟨w, S, ds, s, r, l, h⟩ => by rw [← r.length]; exact l, fun A outer s H args us vs Q E _ _ _ _ ⟨w, S, ds, st, r, l, h⟩ => h.elim⟩, b, fun _ _ _ => rfl⟩
theorem calMB [Wo] {c m qual : Str} {st : Stmt} {N ps : List Str} {k : Nat} {b : FS} (T : TM K mg c m qual st ps) (S : FnScope N ps (defScope st))
    (hb : ∀ (f : Addr) (cdv : Value) (A : Around) (outer : List Env) (s : Shared) (H : Hp) (E : XK), RoomG k (A.deeper (envOfC qual (defScope st) s.heap.objs.size f cdv)) →
      PSs (cxOf (L2.CX P w) P w K mg base N qual (defScope st) f cdv A outer s H E) (defBody st) (tS (cxOf (L2.CX P w) P w K mg base N qual (defScope st) f cdv A outer s H E) (fun c d _ H => E c d H) b)) :
    CalM P w K mg base (k + 1) c m (fnB ps.length N.length b) := by
  obtain ⟨C, f, fd, hm, cl, me, F, bd⟩ := T
  exact ⟨C, f, fd, ps, hm, cl, me, fn_ok F S (hb f), bd, fnB_ar⟩
end
section
variable {K : PySem.W.Frag} {mg : Str → Option Value} {h : Heap}
theorem tm_mk {c m qual : Str} {st : Stmt} {ps : List Str} {C f : Addr} {oc : Value} {od an : Option Addr} {osl : Array (Option Value)} {kV doc pm cdv ct : Value} (X : K.In h) (G : h.Ns mainGlobals mg) (a : PySem.W.nsIn K mainGlobals c = some (some (.ref C)))
    (m1 : PySem.W.findIn K (.ref C) m = some (some (.ref f))) (l : K.lookup f = some ⟨oc, od, .func (PySem.W.fnOf m qual (defArgs st) (defBody st) (defScope st) .none kV doc pm an cdv ct), osl⟩) (cc : PySem.W.codeIn K cdv qual = true) (k : PySem.W.keepIn K (.ref f) = true)
    (m2 : PySem.W.isFn K (.ref f) = true) (c1 : PySem.W.plainGet K C Str.empty = true) (c2 : PySem.W.hasDictIn K C = true) (c3 : PySem.W.plainOver K C = true) (c4 : PySem.W.findIn K (.ref C) "__setattr__" = some (some (.builtin "object.__setattr__")))
    (hb : ∀ (kV doc pm : Value) (an : Option Addr) (cdv ct : Value) (us : List Value), us.length = ps.length → bindArgs (PySem.W.fnOf m qual (defArgs st) (defBody st) (defScope st) .none kV doc pm an cdv ct) ⟨us, []⟩ = pure (ps.zip us)) : TM K mg c m qual st ps :=
  ⟨C, f, _, PySem.W.mg_of X G a, ⟨c1, c2, c3, c4⟩, ⟨m1, m2, k⟩, fun_mk l cc k, (fun_mk l cc k).binds hb⟩
theorem fld_mk {c f : Str} {C : Addr} (X : K.In h) (G : h.Ns mainGlobals mg) (a : PySem.W.nsIn K mainGlobals c = some (some (.ref C))) (n : PySem.W.findIn K (.ref C) f = some none)
    (c1 : PySem.W.plainGet K C Str.empty = true) (c2 : PySem.W.hasDictIn K C = true) (c3 : PySem.W.plainOver K C = true) (c4 : PySem.W.findIn K (.ref C) "__setattr__" = some (some (.builtin "object.__setattr__"))) : FldC K mg c f :=
  ⟨C, PySem.W.mg_of X G a, ⟨c1, c2, c3, c4⟩, n⟩
theorem mkc_mk {c : Str} {C f : Addr} (X : K.In h) (G : h.Ns mainGlobals mg) (a : PySem.W.nsIn K mainGlobals c = some (some (.ref C))) (i : PySem.W.findIn K (.ref C) "__init__" = some (some (.ref f))) (mk : PySem.W.makesIn K C = true) (fn : PySem.W.isFn K (.ref f) = true) (kp : PySem.W.keepIn K (.ref C) = true) : MkC K mg c :=
  ⟨C, f, PySem.W.mg_of X G a, ⟨mk, i, fn, kp⟩⟩
end
end Kw
namespace Kw
open PySem PySem.Spec PyProof.Rows L2
end Kw
namespace Kw
open PySem PySem.Spec PyProof.Rows L2
end Kw
namespace Kw
open PySem PySem.Spec PyProof.Rows L2
abbrev Cl2 := List Value × Option Nat × (Addr → Value → Option Addr → TS)
def wCls2 (K : PySem.W.Frag) (Wout : WX) (D : Ends) : List Cl2 → WX
  | [] => Wout
  | (cs, o, ts) :: r => fun cls d σ H => ∃ b, PySem.W.exmAny K cls cs = some b ∧ (b = true → ∀ a, H a = none → hit o (ts a cls d) D a σ H) ∧ (b = false → wCls2 K Wout D r cls d σ H)
inductive ClsOk2 [Wo] (X : Cx) : List ExceptHandler → List Cl2 → Prop
  | nil : ClsOk2 X [] []
  | plain {x : Str} {c : Value} {ts : Addr → Value → Option Addr → TS} {b₀ : Stmt} {su : List Stmt} {np q : Pos} {hds : List ExceptHandler} {l : List Cl2} (nm : Names X x c) (k : SuOk X (b₀ :: su) ts) (r : ClsOk2 X hds l) :
      ClsOk2 X (.ExceptHandler (some (.Name x np)) none (b₀ :: su) q :: hds) (([c], none, ts) :: l)
  | two {x y : Str} {c d : Value} {ts : Addr → Value → Option Addr → TS} {b₀ : Stmt} {su : List Stmt} {np np2 tp q : Pos} {kk : Nat} {hds : List ExceptHandler} {l : List Cl2} (nm : Names X x c) (nm2 : Names X y d) (k : SuOk X (b₀ :: su) ts) (r : ClsOk2 X hds l) :
      ClsOk2 X (.ExceptHandler (some (.Tuple [.Name x np, .Name y np2] kk tp)) none (b₀ :: su) q :: hds) (([c, d], none, ts) :: l)
inductive ClsF2 [Wo] (X : Cx) (es : List Str) : List ExceptHandler → List ClF → Prop
  | nil : ClsF2 X es [] []
  | plain {x : Str} {sub : Str → Bool} {c : Str → Addr → FS} {b₀ : Stmt} {su : List Stmt} {np q : Pos} {hds : List ExceptHandler} {l : List ClF} (h : CatF X.K X.mg es x sub) (hg : Gl X x) (k : SuF X es (b₀ :: su) c) (r : ClsF2 X es hds l) (hd : (x == ("__debug__" : Str)) = false := by decide) :
      ClsF2 X es (.ExceptHandler (some (.Name x np)) none (b₀ :: su) q :: hds) ((sub, none, c) :: l)
  | two {x y : Str} {sub sub2 : Str → Bool} {c : Str → Addr → FS} {b₀ : Stmt} {su : List Stmt} {np np2 tp q : Pos} {kk : Nat} {hds : List ExceptHandler} {l : List ClF} (h : CatF X.K X.mg es x sub) (h2 : CatF X.K X.mg es y sub2) (hg : Gl X x) (hg2 : Gl X y) (k : SuF X es (b₀ :: su) c) (r : ClsF2 X es hds l) (hd : (x == ("__debug__" : Str)) = false := by decide) (hd2 : (y == ("__debug__" : Str)) = false := by decide) :
      ClsF2 X es (.ExceptHandler (some (.Tuple [.Name x np, .Name y np2] kk tp)) none (b₀ :: su) q :: hds) ((fun z => sub z || sub2 z, none, c) :: l)
section
variable {X : Cx} {W : WX} {es : List Str}
theorem exmAny_one {K : PySem.W.Frag} {cls c : Value} {b : Bool} (h : PySem.W.exmOne K cls c = some b) : PySem.W.exmAny K cls [c] = some b := by
  simp [PySem.W.exmAny, h]
theorem exmAny_two {K : PySem.W.Frag} {cls c d : Value} {b b2 : Bool} (h : PySem.W.exmOne K cls c = some b) (h2 : PySem.W.exmOne K cls d = some b2) : PySem.W.exmAny K cls [c, d] = some (b || b2) := by
  simp [PySem.W.exmAny, h, h2]
theorem ClsF2.go [Wo] {hds : List ExceptHandler} {cs : List ClF} (h : ClsF2 X es hds cs) (hk : ∀ y ∈ es, ExcK X.K X.mg y) : ∃ l, ClsOk2 X hds l ∧ ∀ (D : Ends) (w : Wd) (x : Ex) (ρ : FEnv) (S : Store) (σ : L2.St) (H : Hp) (cy : Value) (od : Option Addr), x.cls ∈ es → x.ns = [] → Sto X.K X.mg w S H → EnvR X.K X.mg w H ρ σ → ExR X.K X.mg w H x cy od →
    EndS X.K X.mg w H (clsR x ρ S cs) D W → wCls2 X.K W D l cy od σ H := by
  have ex0 : ∀ {w : Wd} {H : Hp} {x : Ex} {cy : Value} {od : Option Addr}, x.cls ∈ es → x.ns = [] → ExR X.K X.mg w H x cy od → ∃ C, X.mg x.cls = some (.ref C) ∧ cy = .ref C ∧ od = none := by
    intro w H x cy od hx hn ex
    obtain ⟨gy, hr⟩ := ex
    obtain ⟨C, gC, _⟩ := hk _ hx
    cases gC.symm.trans gy
    refine ⟨C, gC, rfl, ?_⟩
    rcases hr with ⟨_, _, z⟩ | ⟨d, vs, z, _⟩
    · exact z
    · exact absurd hn z
  have yes : ∀ {sub : Str → Bool} {c : Str → Addr → FS} {l : List ClF} {D : Ends} {w : Wd} {x : Ex} {ρ : FEnv} {S : Store} {σ : L2.St} {H : Hp} {C : Addr}, x.cls ∈ es → X.mg x.cls = some (.ref C) → Sto X.K X.mg w S H → EnvR X.K X.mg w H ρ σ → EndS X.K X.mg w H (clsR x ρ S ((sub, none, c) :: l)) D W → sub x.cls = true → ∀ a, H a = none → hit none (tsOf X es c a (.ref C) none) D a σ H := by
    intro sub c l D w x ρ S σ H C hx gC s en h hs a na
    have h2 : EndS X.K X.mg w H (aInd (clRun none (c x.cls) ρ S)) D W := by
      have h' := h
      unfold clsR at h'
      rw [if_pos hs] at h'
      exact h'
    by_cases hno : aInd (clRun none (c x.cls) ρ S) = .no
    · rw [hno] at h2; exact h2.elim
    · rw [← aInd_at a rfl hno] at h2
      exact ⟨x.cls, C, hx, gC, rfl, rfl, w, ρ, S, s, en, h2.nox⟩
  have noo : ∀ {sub : Str → Bool} {c : Str → Addr → FS} {l : List ClF} {D : Ends} {w : Wd} {x : Ex} {ρ : FEnv} {S : Store} {H : Hp}, EndS X.K X.mg w H (clsR x ρ S ((sub, none, c) :: l)) D W → sub x.cls = false → EndS X.K X.mg w H (clsR x ρ S l) D W := by
    intro sub c l D w x ρ S H h hs
    have h' := h
    unfold clsR at h'
    rw [if_neg (by rw [hs]; decide)] at h'
    exact h'
  induction h with
  | nil =>
    refine ⟨[], .nil, fun D w x ρ S σ H cy od hx hn s en ex h => ?_⟩
    exact h w H σ cy od Ext.refl s en ex
  | @plain x sub c b₀ su np q hds l hc hg k r hd ih =>
    obtain ⟨cv, nm, hx1⟩ := hc.names hg hd
    obtain ⟨l', ok', go'⟩ := ih
    refine ⟨([cv], none, tsOf X es c) :: l', .plain nm k.su ok', fun D w x ρ S σ H cy od hx hn s en ex h => ?_⟩
    obtain ⟨C, gC, rfl, rfl⟩ := ex0 hx hn ex
    exact ⟨sub x.cls, exmAny_one (hx1 _ hx _ gC), fun hs a na => yes hx gC s en h hs a na, fun hs => go' D w x ρ S σ H _ _ hx hn s en ex (noo h hs)⟩
  | @two x y sub sub2 c b₀ su np np2 tp q kk hds l hc hc2 hg hg2 k r hd hd2 ih =>
    obtain ⟨cv, nm, hx1⟩ := hc.names hg hd
    obtain ⟨cv2, nm2, hx2⟩ := hc2.names hg2 hd2
    obtain ⟨l', ok', go'⟩ := ih
    refine ⟨([cv, cv2], none, tsOf X es c) :: l', .two nm nm2 k.su ok', fun D w x ρ S σ H cy od hx hn s en ex h => ?_⟩
    obtain ⟨C, gC, rfl, rfl⟩ := ex0 hx hn ex
    exact ⟨sub x.cls || sub2 x.cls, exmAny_two (hx1 _ hx _ gC) (hx2 _ hx _ gC), fun hs a na => yes hx gC s en h hs a na, fun hs => go' D w x ρ S σ H _ _ hx hn s en ex (noo h hs)⟩
end
end Kw
namespace Kw
open PySem PySem.Spec PyProof.Rows L2
/-- classes that are asked for, by their names -/
inductive IsL (X : Cx) (ys : List Str) : List Expr → (Str → Bool) → Prop
  | nil : IsL X ys [] fun _ => false
  | cons {x : Str} {p : Pos} {es : List Expr} {sub sub2 : Str → Bool} (hg : Gl X x) (h : ∀ y ∈ ys, IsxO X.K X.mg y x (sub y)) (t : IsL X ys es sub2) (hd : (x == ("__debug__" : Str)) = false := by decide)
      (hs : starEach (.Name x p :: es) X.env = (false, eval (.Name x p) X.env) :: starEach es X.env := by rfl) : IsL X ys (.Name x p :: es) fun y => sub y || sub2 y
theorem IsL.get {X : Cx} {ys : List Str} {es : List Expr} {sub : Str → Bool} (h : IsL X ys es sub) (hne : ys ≠ []) : ∃ Bs : List Addr, es.length = Bs.length ∧ PA X es (fun _ H Q => Q (Bs.map V.ref) H) ∧ Paired ClsV (Bs.map V.ref) (Bs.map Value.ref) ∧ ∀ y ∈ ys, ∀ C, X.mg y = some (.ref C) → PySem.W.kitAny X.K (.ref C) (Bs.map Value.ref) = some (sub y) := by
  induction h with
  | nil => exact ⟨[], rfl, pa_nil, .nil, fun _ _ _ _ => rfl⟩
  | @cons x p es sub sub2 hg h t hd hs ih =>
    obtain ⟨Bs, l, pa, pr, k⟩ := ih
    obtain ⟨y0, hy0⟩ := List.exists_mem_of_ne_nil ys hne
    obtain ⟨C0, B, _, mB, _⟩ := h y0 hy0
    have n1 : PE X (.Name x p) (tC (.ref B)) := pe_glob hg mB rfl hd
    refine ⟨B :: Bs, by simp [l], pa_cons n1 pa hs, .cons (.own B) pr, fun y hy C hC => ?_⟩
    obtain ⟨C1, B1, m1, m2, e⟩ := h y hy
    cases hC.symm.trans m1
    cases mB.symm.trans m2
    have := k y hy C hC
    show PySem.W.kitAny X.K (.ref C) (.ref B :: Bs.map Value.ref) = _
    unfold PySem.W.kitAny
    rw [e]
    cases hs2 : sub y with
    | true => simp [hs2]
    | false => simpa [hs2] using this
end Kw
namespace Kw
open PySem PySem.Spec PyProof.Rows L2
end Kw
namespace PySem
end PySem
namespace PySem.W
open PySem PySem.Spec PySem.Calls PyProof.Rows
end PySem.W
namespace Kw
open PySem PySem.Spec PySem.Calls PyProof.Rows L2
end Kw
namespace L2
open PySem PySem.Spec PyProof.Rows
end L2
namespace Kw
open PySem PySem.Spec PySem.Calls PyProof.Rows L2
end Kw
namespace Kw
open PySem PySem.Spec PySem.Calls PyProof.Rows L2
abbrev entP : NestedKey × V × V → NestedKey × Value × Value → Prop := fun p q => p.1 = q.1 ∧ RelV p.2.1 q.2.1 ∧ RelV p.2.2 q.2.2
section
variable {K : PySem.W.Frag} {mg : Str → Option Value} {P : Program} {w0 : World} {w : Wd} {H : Hp} {h : Heap}
mutual
/-- a tree that is a key lies there as one -/
theorem key_at (ok : HOk P w0 H h) (kin : K.In h) : ∀ (d : D) (k : NestedKey) (v : V) (u : Value), keyOf d = some k → Rp K mg w H d v → RelV v u → NestedIs h k u
  | .non, k, v, u, e, r, q => by
    simp only [keyOf, Option.some.injEq] at e; unfold Rp at r; subst e r
    obtain rfl : u = Value.none := q
    exact .none
  | .bl _, _, _, _, e, _, _ => by simp [keyOf] at e
  | .int i, k, v, u, e, r, q => by
    simp only [keyOf, Option.some.injEq] at e; unfold Rp at r; subst e r
    obtain ⟨t, rfl⟩ : ∃ t, u = Value.int i t := q
    exact .int _ _
  | .str x, k, v, u, e, r, q => by
    simp only [keyOf, Option.some.injEq] at e; unfold Rp at r; subst e r
    obtain ⟨t, rfl⟩ : ∃ t, u = Value.str x t := q
    exact .text _ _
  | .tup ds, k, v, u, e, r, q => by
    simp only [keyOf, Option.map_eq_some_iff] at e
    obtain ⟨ks, e1, rfl⟩ := e
    unfold Rp at r
    obtain ⟨a, xs, rfl, t, rl⟩ := r
    obtain rfl : u = Value.ref a := q
    rcases t with ⟨t, _⟩ | ⟨o, its, n, lk, hc, hd, _, vs⟩
    · obtain ⟨_, its, vs, o, g1, g2, n, g3⟩ := ok a _ t
      exact .tup g1 g2 g3 (by simpa using keys_at ok kin ds ks xs its e1 rl vs)
    · exact .tup (kin a o lk) hc hd (keys_at ok kin ds ks xs its.toList e1 rl vs)
  | .lst _, _, _, _, e, _, _ => by simp [keyOf] at e
  | .dic _ _, _, _, _, e, _, _ => by simp [keyOf] at e
  | .ins _ _ _, _, _, _, e, _, _ => by simp [keyOf] at e
  | .loc _, _, _, _, e, _, _ => by simp [keyOf] at e
  | .glo _, _, _, _, e, _, _ => by simp [keyOf] at e
  | .fls _, _, _, _, e, _, _ => by simp [keyOf] at e
  | .exn _, _, _, _, e, _, _ => by simp [keyOf] at e
  | .exo _ _ _, _, _, _, e, _, _ => by simp [keyOf] at e
  | .lam _ _ _, _, _, _, e, _, _ => by simp [keyOf] at e
theorem keys_at (ok : HOk P w0 H h) (kin : K.In h) : ∀ (ds : List D) (ks : List NestedKey) (vs : List V) (us : List Value), keysOf ds = some ks → RpL K mg w H ds vs → Vals vs us → NestedAll h ks us
  | [], ks, vs, us, e, r, q => by
    simp only [keysOf, Option.some.injEq] at e; unfold RpL at r; subst e r
    cases q; exact .nil
  | d :: ds, ks, vs, us, e, r, q => by
    simp only [keysOf] at e
    split at e
    · rename_i k rk h1 h2
      cases e
      unfold RpL at r
      obtain ⟨v, r', rfl, r1, r2⟩ := r
      cases q with
      | cons q1 q2 => exact .cons (key_at ok kin d k v _ h1 r1 q1) (keys_at ok kin ds rk r' _ h2 r2 q2)
    · cases e
end
end
def isTupK : NestedKey → Bool | .tup _ => true | _ => false
def isNumK : NestedKey → Bool | .num _ => true | _ => false
def numK : NestedKey → Int | .num i => i | _ => 0
def vad : Value → Addr | .ref a => a | _ => 0
def dAt : List NestedKey → List D → NestedKey → Option D
  | k :: ks, d :: ds, x => if k = x then some d else dAt ks ds x
  | _, _, _ => none
theorem tupK_ref {h : Heap} {k : NestedKey} {u : Value} (n : NestedIs h k u) (e : isTupK k = true) : u = .ref (vad u) := by
  cases n <;> first | rfl | cases e
/-- as a dict under tuples -/
abbrev hEnt (q : NestedKey × Value × Value) : NestedKey × Addr × Value := (q.1, vad q.2.1, q.2.2)
theorem ents_H {P : Program} {ww : World} {h : Heap} : ∀ {vs : List (NestedKey × Value × Value)}, (∀ q ∈ vs, q.2.1 = .ref (vad q.2.1)) → vs.map (entV ww) = (vs.map hEnt).map (entryOfKey (nestedKind P ww))
  | [], _ => rfl
  | q :: vs, e => by
    have e0 := e q List.mem_cons_self
    rw [List.map_cons, List.map_cons, List.map_cons, ← ents_H (P := P) (h := h) (vs := vs) fun q hq => e q (List.mem_cons_of_mem _ hq)]
    congr 1
    show (⟨q.1.hash ww, q.2.1, q.2.2⟩ : DictEntry) = ⟨q.1.hash ww, .ref (vad q.2.1), q.2.2⟩
    rw [← e0]
theorem paired_mem {α β : Type} {F : α → β → Prop} : ∀ {l : List α} {m : List β}, Paired F l m → ∀ b ∈ m, ∃ a ∈ l, F a b
  | _, _, .nil, b, hb => nomatch hb
  | _, _, .cons r t, b, hb => by
    rcases List.mem_cons.mp hb with rfl | hb
    · exact ⟨_, List.mem_cons_self, r⟩
    · obtain ⟨a, ha, f⟩ := paired_mem t b hb
      exact ⟨a, List.mem_cons_of_mem _ ha, f⟩
theorem paired_keys {es : DEnt} {vs : List (NestedKey × Value × Value)} (p : Paired entP es vs) : vs.map (·.1) = es.map (·.1) := by
  induction p with
  | nil => rfl
  | cons r _ ih => rw [List.map_cons, List.map_cons, ih, r.1]
theorem dct_H {P : Program} {ww : World} {h : Heap} {a : Addr} {es : DEnt} {vs : List (NestedKey × Value × Value)} {o : Obj} {en : Array DictEntry} {ep : Nat} (p : Paired entP es vs) (g : h.get? a = some o) (x : o.ExactDict) (dd : o.data = .dict en ep) (ee : en.toList = vs.map (entV ww))
    (kn : ∀ x ∈ es, ∀ u, RelV x.2.1 u → NestedIs h x.1 u) (dp : ∀ x ∈ es, x.1.depth ≤ 8) (ht : ∀ x ∈ es, isTupK x.1 = true) (nd : (es.map (·.1)).Nodup) : h.DictOfH (nestedKind P ww) a (vs.map hEnt) := by
  have rf : ∀ q ∈ vs, q.2.1 = .ref (vad q.2.1) := fun q hq => by
    obtain ⟨y, hy, f1, f2, f3⟩ := paired_mem p q hq
    exact tupK_ref (kn y hy _ f2) (ht y hy)
  refine ⟨o, en, ep, g, x, dd, by rw [ee]; exact ents_H (h := h) rf, fun z hz => ?_, ?_⟩
  · obtain ⟨q, hq, rfl⟩ := List.mem_map.mp hz
    obtain ⟨y, hy, f1, f2, f3⟩ := paired_mem p q hq
    have n := kn y hy _ f2
    rw [rf q hq] at n
    refine ⟨?_, ?_⟩
    · rw [f1] at n; exact n
    · show q.1.depth ≤ 8
      rw [← f1]; exact dp y hy
  · rw [List.map_map]
    show (vs.map (·.1)).Nodup
    rw [paired_keys p]; exact nd
/-- and back -/
theorem H_dct {P : Program} {ww : World} {h : Heap} {a : Addr} {es : DEnt} {vs : List (NestedKey × Value × Value)} (p : Paired entP es vs) (hs : (a == sysModules) = false) (rf : ∀ q ∈ vs, q.2.1 = .ref (vad q.2.1)) (d : h.DictOfH (nestedKind P ww) a (vs.map hEnt)) : DctP ww a es h := by
  obtain ⟨o, en, ep, g, x, dd, ee, _, _⟩ := d
  exact ⟨hs, vs, p, o, en, ep, g, x, dd, by rw [ee, ← ents_H (h := h) rf]⟩
def eAt : DEnt → NestedKey → Option V
  | [], _ => none
  | x :: es, k => if x.1 = k then some x.2.2 else eAt es k
theorem dAt_e {K : PySem.W.Frag} {mg : Str → Option Value} {w : Wd} {H : Hp} {k : NestedKey} {d : D} : ∀ {es : DEnt} {ds : List D}, RpL K mg w H ds (es.map (·.2.2)) → dAt (es.map (·.1)) ds k = some d → ∃ v, eAt es k = some v ∧ Rp K mg w H d v
  | [], ds, _, e => by cases ds <;> simp [dAt] at e
  | x :: es, [], _, e => by simp [dAt] at e
  | x :: es, d' :: ds, rl, e => by
    rw [List.map_cons] at rl e
    unfold RpL at rl
    obtain ⟨v, rr, ev, q1, q2⟩ := rl
    cases ev
    simp only [dAt] at e
    simp only [eAt]
    by_cases hk : x.1 = k
    · rw [if_pos hk] at e ⊢
      cases e
      exact ⟨_, rfl, q1⟩
    · rw [if_neg hk] at e ⊢
      exact dAt_e q2 e
theorem eAt_p {k : NestedKey} {v : V} {es : DEnt} {vs : List (NestedKey × Value × Value)} (p : Paired entP es vs) : eAt es k = some v → ∃ p : Value × Value, ((vs.find? fun x => decide (x.1 = k)).map (·.2)) = some p ∧ RelV v p.2 := by
  induction p with
  | nil => intro e; simp [eAt] at e
  | @cons x q es vs r t ih =>
    intro e
    simp only [eAt] at e
    by_cases hk : x.1 = k
    · rw [if_pos hk] at e
      cases e
      have hq : q.1 = k := r.1 ▸ hk
      exact ⟨q.2, by simp [List.find?_cons, hq], r.2.2⟩
    · rw [if_neg hk] at e
      have hq : ¬ q.1 = k := fun z => hk (r.1.trans z)
      obtain ⟨p, h1, h2⟩ := ih e
      exact ⟨p, by simpa [List.find?_cons, hq] using h1, h2⟩
theorem atKey_map {k : NestedKey} : ∀ (vs : List (NestedKey × Value × Value)), atKey (vs.map hEnt) k = ((vs.find? fun x => decide (x.1 = k)).map (·.2)).map fun p => (vad p.1, p.2)
  | [] => rfl
  | q :: vs => by
    by_cases hk : q.1 = k
    · simp [atKey, List.find?_cons, hk]
    · have := atKey_map (k := k) vs
      simpa [atKey, List.find?_cons, hk] using this
theorem find_none {k : NestedKey} : ∀ {es : DEnt} {vs : List (NestedKey × Value × Value)}, Paired entP es vs → ((vs.find? fun x => decide (x.1 = k)).isSome = decide (k ∈ es.map (·.1)))
  | _, _, .nil => rfl
  | _, _, .cons (a := x) (b := q) (l₁ := es) (l₂ := vs) r t => by
    have ih := find_none (k := k) t
    by_cases hk : q.1 = k
    · have hx : x.1 = k := r.1.trans hk
      simp [List.find?_cons, hk, hx]
    · have hx : ¬ x.1 = k := fun z => hk (r.1.symm.trans z)
      have hx' : ¬ k = x.1 := fun z => hx z.symm
      rw [List.find?_cons]
      simp only [hk, decide_false, List.map_cons, List.mem_cons, hx', false_or]
      exact ih
/-- x is the key k, wherever the abstract heap lies -/
def KyH (P : Program) (w0 : World) (K : PySem.W.Frag) (H : Hp) (k : NestedKey) (x : V) : Prop := ∀ h, HOk P w0 H h → K.In h → ∀ u, RelV x u → NestedIs h k u
structure DcH (X : Cx) (H : Hp) (a : Addr) (es : DEnt) : Prop where
  at_ : H a = some (DctO X.w a es)
  ky : ∀ e ∈ es, KyH X.prog X.w X.K H e.1 e.2.1
  dp : ∀ e ∈ es, e.1.depth ≤ 8
  nk : ∀ e ∈ es, isNumK e.1 = true → e.2.1 = .int (numK e.1)
  nd : (es.map (·.1)).Nodup
/-- tuples alone, or numbers alone -/
def hom (ks : List NestedKey) : Bool := ks.all isTupK || ks.all isNumK
theorem num_Of {P : Program} {ww : World} {h : Heap} {a : Addr} {es : DEnt} {vs : List (NestedKey × Value × Value)} {o : Obj} {en : Array DictEntry} {ep : Nat} (p : Paired entP es vs) (g : h.get? a = some o) (x : o.ExactDict) (dd : o.data = .dict en ep) (ee : en.toList = vs.map (entV ww))
    (nk : ∀ e ∈ es, e.1 = .num (numK e.1) ∧ e.2.1 = .int (numK e.1)) (nd : (es.map (·.1)).Nodup) : h.DictOf (intKind P ww) a (vs.map fun q => (numK q.1, q.2.2)) := by
  have at_ : ∀ q ∈ vs, q.1 = .num (numK q.1) ∧ ∃ t, q.2.1 = .int (numK q.1) t := fun q hq => by
    obtain ⟨y, hy, f1, f2, f3⟩ := paired_mem p q hq
    obtain ⟨n1, n2⟩ := nk y hy
    rw [n2] at f2
    rw [← f1]
    exact ⟨n1, f2⟩
  refine ⟨o, en, ep, g, x, dd, fun e he => ?_, ?_, ?_⟩
  · have : e ∈ en.toList := by simpa using he
    rw [ee] at this
    obtain ⟨q, hq, rfl⟩ := List.mem_map.mp this
    obtain ⟨h1, t, h2⟩ := at_ q hq
    refine ⟨numK q.1, ?_, ?_⟩
    · show (intKind P ww).is _ q.2.1 = true
      rw [h2]; exact intKind_is P ww _ t
    · show q.1.hash ww = hashInt (numK q.1)
      have e1 : q.1.hash ww = (NestedKey.num (numK q.1)).hash ww := congrArg (fun z => NestedKey.hash ww z) h1
      rw [e1]; rfl
  · rw [ee]
    have go : ∀ l : List (NestedKey × Value × Value), (∀ q ∈ l, q ∈ vs) → Pairs (intKind P ww) (l.map (entV ww)) (l.map fun q => (numK q.1, q.2.2)) := by
      intro l
      induction l with
      | nil => exact fun _ => .nil
      | cons q l ih =>
        intro hl
        obtain ⟨h1, t, h2⟩ := at_ q (hl q List.mem_cons_self)
        refine .cons ?_ rfl (ih fun z hz => hl z (List.mem_cons_of_mem _ hz))
        show (intKind P ww).is _ q.2.1 = true
        rw [h2]; exact intKind_is P ww _ t
    exact go vs fun q hq => hq
  · rw [List.map_map]
    have e1 : vs.map (·.1) = (vs.map ((·.1) ∘ fun q => (numK q.1, q.2.2))).map NestedKey.num := by
      rw [List.map_map]
      refine List.map_congr_left fun q hq => ?_
      exact (at_ q hq).1
    rw [← paired_keys p, e1] at nd
    exact (List.pairwise_map.mp nd).imp fun h e => h (by rw [e])
theorem num_back {P : Program} {ww : World} {ens : List DictEntry} {kvs : List (Int × Value)} (p : Pairs (intKind P ww) ens kvs) : (∀ e ∈ ens, ∃ k, (intKind P ww).is k e.key = true ∧ e.hash = (intKind P ww).hash k) → ∀ {es : DEnt}, Paired (fun (x : NestedKey × V × V) (kv : Int × Value) => x.1 = .num kv.1 ∧ x.2.1 = .int kv.1 ∧ RelV x.2.2 kv.2) es kvs → ∃ vs, Paired entP es vs ∧ ens = vs.map (entV ww) := by
  induction p with
  | nil => intro _ es q; cases q; exact ⟨[], .nil, rfl⟩
  | @cons e kv ens kvs h1 h2 t ih =>
    intro hk es q
    cases q with
    | @cons x _ es _ q1 q2 =>
      obtain ⟨vs, v1, v2⟩ := ih (fun e he => hk e (List.mem_cons_of_mem _ he)) q2
      obtain ⟨k, k1, k2⟩ := hk e List.mem_cons_self
      obtain ⟨tk, ek⟩ := Value.isInt_shape h1
      obtain ⟨tk2, ek2⟩ := Value.isInt_shape k1
      rw [ek] at ek2
      cases ek2
      refine ⟨(.num kv.1, e.key, e.val) :: vs, .cons ⟨q1.1, ?_, ?_⟩ v1, ?_⟩
      · rw [q1.2.1, ek]; exact ⟨_, rfl⟩
      · show RelV _ e.val
        rw [h2]; exact q1.2.2
      · rw [List.map_cons, ← v2]
        congr 1
        cases e
        show DictEntry.mk _ _ _ = DictEntry.mk _ _ _
        congr 1
theorem find_num {k : Int} : ∀ (vs : List (NestedKey × Value × Value)), (∀ q ∈ vs, q.1 = .num (numK q.1)) → valueAt (vs.map fun q => (numK q.1, q.2.2)) k = ((vs.find? fun x => decide (x.1 = .num k)).map (·.2)).map (·.2)
  | [], _ => rfl
  | q :: vs, h => by
    have h0 := h q List.mem_cons_self
    have ih := find_num (k := k) vs fun q hq => h q (List.mem_cons_of_mem _ hq)
    by_cases hk : numK q.1 = k
    · have : q.1 = .num k := by rw [h0, hk]
      have e2 : decide (numK q.1 = k) = true := decide_eq_true hk
      have e3 : decide (q.1 = .num k) = true := decide_eq_true this
      rw [List.map_cons]
      unfold valueAt
      rw [List.find?_cons, List.find?_cons, e3]
      simp only [e2]
      rfl
    · have : ¬ q.1 = .num k := fun z => hk (by rw [z]; rfl)
      simpa [valueAt, List.find?_cons, hk, this] using ih
section
variable {X : Cx} {pins : List (Addr × Obj)} {σ : L2.St} {H : Hp} {s : Shared} {a : Addr} {es : DEnt} {k : NestedKey} {x : V} {u : Value} {A : Around} {E : Value → Shared → Prop}
theorem DcH.typeIs (I : Inv X pins σ H s) (D : DcH X H a es) : s.TypeIs (.ref a) "dict" := by
  obtain ⟨⟨_, _, _, o, _, _, g, x, _⟩, _⟩ := (show ObjOk X.prog X.w H s.heap a (DctO X.w a es) from I.hok a _ D.at_)
  exact ⟨o, g, x.1⟩
theorem DcH.ne (I : Inv X pins σ H s) (D : DcH X H a es) : (a == sysModules) = false := by
  obtain ⟨⟨n, _⟩, _⟩ := (show ObjOk X.prog X.w H s.heap a (DctO X.w a es) from I.hok a _ D.at_)
  exact n
theorem DcH.toH (I : Inv X pins σ H s) (D : DcH X H a es) (ht : ∀ e ∈ es, isTupK e.1 = true) : ∃ vs, Paired entP es vs ∧ (∀ q ∈ vs, q.2.1 = .ref (vad q.2.1)) ∧ s.heap.DictOfH (nestedKind X.prog X.w) a (vs.map hEnt) := by
  obtain ⟨⟨n, vs, p, o, en, ep, g, x, dd, ee⟩, _⟩ := (show ObjOk X.prog X.w H s.heap a (DctO X.w a es) from I.hok a _ D.at_)
  have kn : ∀ x ∈ es, ∀ u, RelV x.2.1 u → NestedIs s.heap x.1 u := fun x hx u r => D.ky x hx _ I.hok I.kIn u r
  refine ⟨vs, p, fun q hq => ?_, dct_H p g x dd ee kn D.dp ht D.nd⟩
  obtain ⟨y, hy, f1, f2, f3⟩ := paired_mem p q hq
  exact tupK_ref (kn y hy _ f2) (ht y hy)
theorem DcH.toN (I : Inv X pins σ H s) (D : DcH X H a es) (ht : ∀ e ∈ es, isNumK e.1 = true) : ∃ vs, Paired entP es vs ∧ (∀ q ∈ vs, q.1 = .num (numK q.1)) ∧ s.heap.DictOf (intKind X.prog X.w) a (vs.map fun q => (numK q.1, q.2.2)) := by
  obtain ⟨⟨n, vs, p, o, en, ep, g, x, dd, ee⟩, _⟩ := (show ObjOk X.prog X.w H s.heap a (DctO X.w a es) from I.hok a _ D.at_)
  have nk : ∀ e ∈ es, e.1 = .num (numK e.1) ∧ e.2.1 = .int (numK e.1) := fun e he => ⟨by
    have := ht e he
    revert this
    cases e.1 <;> simp [isNumK, numK], D.nk e he (ht e he)⟩
  refine ⟨vs, p, fun q hq => ?_, num_Of p g x dd ee nk D.nd⟩
  obtain ⟨y, hy, f1, f2, f3⟩ := paired_mem p q hq
  rw [← f1]; exact (nk y hy).1
theorem room8 (hu : A.units + 200 < cLine) : (nestedKind X.prog X.w).room A.in1 := by show A.in1.units + 8 < cLine; rw [Around.in1_units]; omega
theorem room8' (hu : A.units + 200 < cLine) : (nestedKind X.prog X.w).room A := by show A.units + 8 < cLine; omega
/-- k not in d -/
theorem n_not {Q : Value → Shared → Prop} (hu : A.units + 200 < cLine) (I : Inv X pins σ H s) (D : DcH X H a es) (ky : KyH X.prog X.w X.K H k x) (rx : RelV x u) (hk : isTupK k = true) (dk : k.depth ≤ 8) (ht : ∀ e ∈ es, isTupK e.1 = true)
    (q : ∀ s', Inv X pins σ H s' → Q (.bool (!decide (k ∈ es.map (·.1)))) s') : wpAny (model X.prog X.w) A (compareOp .NotIn u (.ref a)) Q E s := by
  obtain ⟨vs, p, rf, m⟩ := D.toH I ht
  have n := ky _ I.hok I.kIn u rx
  have eu := tupK_ref n hk
  rw [eu] at n ⊢
  refine wpAny_notIn_heap (room8 hu) (show (nestedKind X.prog X.w).is s.heap k (vad u) from ⟨n, dk⟩) (D.ne I) m ?_
  rw [atKey_map, Option.isSome_map, Option.isSome_map, find_none p]
  exact q _ (I.tok _)
/-- d[k] -/
theorem n_get {v : V} {Q : Value → Shared → Prop} (hu : A.units + 200 < cLine) (I : Inv X pins σ H s) (D : DcH X H a es) (ky : KyH X.prog X.w X.K H k x) (rx : RelV x u) (dk : k.depth ≤ 8) (ho : hom (k :: es.map (·.1)) = true) (nk : isNumK k = true → x = .int (numK k)) (hv : eAt es k = some v)
    (q : ∀ w' s', Inv X pins σ H s' → RelV v w' → Q w' s') : wpAny (model X.prog X.w) A (getItem (.ref a) u) Q E s := by
  unfold hom at ho
  rcases Bool.or_eq_true_iff.mp ho with ho | ho
  · rw [List.all_cons, Bool.and_eq_true, List.all_eq_true] at ho
    obtain ⟨vs, p, rf, m⟩ := D.toH I fun e he => ho.2 e.1 (List.mem_map_of_mem he)
    have n := ky _ I.hok I.kIn u rx
    have eu := tupK_ref n ho.1
    obtain ⟨pv, h1, h2⟩ := eAt_p p hv
    rw [eu] at n ⊢
    refine wpAny_getItem_heap (p := (vad pv.1, pv.2)) (room8 hu) (show (nestedKind X.prog X.w).is s.heap k (vad u) from ⟨n, dk⟩) m ?_ ?_
    · rw [atKey_map, h1]; rfl
    · exact q _ _ (I.tok _) h2
  · rw [List.all_cons, Bool.and_eq_true, List.all_eq_true] at ho
    obtain ⟨vs, p, rf, m⟩ := D.toN I fun e he => ho.2 e.1 (List.mem_map_of_mem he)
    have ek := nk ho.1
    subst ek
    obtain ⟨t, rfl⟩ : ∃ t, u = Value.int (numK k) t := rx
    obtain ⟨pv, h1, h2⟩ := eAt_p p hv
    refine wpAny_getItem_of (intKind_is X.prog X.w _ t) m.mapOf (v := pv.2) ?_ (q _ _ (I.tok _) h2)
    have ekk : k = .num (numK k) := by
      have := ho.1
      revert this
      cases k <;> simp [isNumK, numK]
    show valueAt _ _ = _
    rw [find_num vs rf, ← ekk, h1]; rfl
theorem dct_ok {P : Program} {w0 : World} {H : Hp} {h : Heap} {ww : World} (d : DctP ww a es h) : ObjOk P w0 H h a (DctO ww a es) := by
  refine ⟨d, ?_, fun h1 h2 d1 st => ?_⟩
  · obtain ⟨_, vs, _, o, _, _, g, _⟩ := d
    exact ⟨o, g⟩
  · obtain ⟨n, vs, p, o, en, ep, g, r⟩ := d1
    exact ⟨n, vs, p, o, en, ep, st o g, r⟩
theorem nfind {vs : List (NestedKey × Value × Value)} (p : Paired entP es vs) (hn : k ∉ es.map (·.1)) : atKey (vs.map hEnt) k = none := by
  have z := find_none (k := k) p
  rw [decide_eq_false hn] at z
  rw [atKey_map, Option.map_eq_none_iff, Option.map_eq_none_iff]
  cases hf : vs.find? fun x => decide (x.1 = k) with
  | none => rfl
  | some _ => rw [hf] at z; cases z
/-- the dict with one entry more -/
theorem put_H {y : V} {r : Value} {h' : Heap} {vs : List (NestedKey × Value × Value)} (I : Inv X pins σ H s) (D : DcH X H a es) (p : Paired entP es vs) (rf : ∀ q ∈ vs, q.2.1 = .ref (vad q.2.1)) (rx : RelV x u) (eu : u = .ref (vad u)) (ry : RelV y r) (hn : k ∉ es.map (·.1))
    (dd : h'.DictOfH (nestedKind X.prog X.w) a (storedH (vs.map hEnt) k (vad u) r)) (hs : Heap.SameBut a s.heap h') {t' : Nat} : Inv X pins σ (upd H a (DctO X.w a (es ++ [(k, x, y)]))) { s with heap := h', toks := t' } := by
  have p2 : Paired entP (es ++ [(k, x, y)]) (vs ++ [(k, u, r)]) := Paired.snoc p ⟨rfl, rx, ry⟩
  have e2 : storedH (vs.map hEnt) k (vad u) r = (vs ++ [(k, u, r)]).map hEnt := by rw [storedH_new (nfind p hn), List.map_append]; rfl
  rw [e2] at dd
  have rf2 : ∀ q ∈ vs ++ [(k, u, r)], q.2.1 = .ref (vad q.2.1) := fun q hq => by
    rcases List.mem_append.mp hq with z | z
    · exact rf q z
    · have : q = (k, u, r) := by simpa using z
      rw [this]; exact eu
  have dp := H_dct p2 (D.ne I) rf2 dd
  have he : ∃ q, h'.get? a = some q := by obtain ⟨_, _, _, o, _, _, g, _⟩ := dp; exact ⟨o, g⟩
  exact d_write I (by rw [D.at_]; exact True.intro) hs he (dct_ok dp)
theorem vs_len {vs : List (NestedKey × Value × Value)} (p : Paired entP es vs) : vs.length = es.length := by
  have := congrArg List.length (paired_keys p)
  simpa using this
/-- d[k] = v, a new key -/
theorem n_put {y : V} {r : Value} {Q : Unit → Shared → Prop} (hu : A.units + 200 < cLine) (I : Inv X pins σ H s) (D : DcH X H a es) (ky : KyH X.prog X.w X.K H k x) (rx : RelV x u) (hk : isTupK k = true) (dk : k.depth ≤ 8) (ht : ∀ e ∈ es, isTupK e.1 = true) (hn : k ∉ es.map (·.1)) (hz : es.length < sizeLine) (ry : RelV y r)
    (q : ∀ s', Inv X pins σ (upd H a (DctO X.w a (es ++ [(k, x, y)]))) s' → Q () s') : wpAny (model X.prog X.w) A (setItem (.ref a) u r) Q E s := by
  obtain ⟨vs, p, rf, m⟩ := D.toH I ht
  have n := ky _ I.hok I.kIn u rx
  have eu := tupK_ref n hk
  have hl : (vs.map hEnt).length ≤ sizeLine := by rw [List.length_map, vs_len p]; omega
  rw [eu] at n ⊢
  refine wpAny_setItem_heap (hsz := hl) (room8 hu) (show (nestedKind X.prog X.w).is s.heap k (vad u) from ⟨n, dk⟩) m fun h' dd hs => q _ ?_
  exact put_H I D p rf rx eu ry hn dd hs
/-- the same, by a comprehension -/
theorem n_set {y : V} {r : Value} {Q : Unit → Shared → Prop} (hu : A.units + 200 < cLine) (I : Inv X pins σ H s) (D : DcH X H a es) (ky : KyH X.prog X.w X.K H k x) (rx : RelV x u) (dk : k.depth ≤ 8) (ho : hom (k :: es.map (·.1)) = true) (nk : isNumK k = true → x = .int (numK k)) (hn : k ∉ es.map (·.1)) (hz : es.length < sizeLine) (ry : RelV y r)
    (q : ∀ s', Inv X pins σ (upd H a (DctO X.w a (es ++ [(k, x, y)]))) s' → Q () s') : wpAny (model X.prog X.w) A (dictSet a u r) Q E s := by
  unfold hom at ho
  rcases Bool.or_eq_true_iff.mp ho with ho | ho
  · rw [List.all_cons, Bool.and_eq_true, List.all_eq_true] at ho
    obtain ⟨vs, p, rf, m⟩ := D.toH I fun e he => ho.2 e.1 (List.mem_map_of_mem he)
    have n := ky _ I.hok I.kIn u rx
    have eu := tupK_ref n ho.1
    have hl : (vs.map hEnt).length ≤ sizeLine := by rw [List.length_map, vs_len p]; omega
    rw [eu] at n ⊢
    refine wpAny_dictSet_heap (hsz := hl) (room8' hu) (show (nestedKind X.prog X.w).is s.heap k (vad u) from ⟨n, dk⟩) m fun h' dd hs => q _ ?_
    exact put_H I D p rf rx eu ry hn dd hs
  · rw [List.all_cons, Bool.and_eq_true, List.all_eq_true] at ho
    obtain ⟨vs, p, rf, m⟩ := D.toN I fun e he => ho.2 e.1 (List.mem_map_of_mem he)
    have ek := nk ho.1
    have ekk : k = .num (numK k) := by
      have := ho.1
      revert this
      cases k <;> simp [isNumK, numK]
    have rx' : RelV (.int (numK k)) u := ek ▸ rx
    obtain ⟨t, eu⟩ : ∃ t, u = Value.int (numK k) t := rx'
    have hl : (vs.map fun q => (numK q.1, q.2.2)).length ≤ sizeLine := by rw [List.length_map, vs_len p]; omega
    have hnone : valueAt (vs.map fun q => (numK q.1, q.2.2)) (numK k) = none := by
      rw [find_num vs rf, ← ekk]
      have z := find_none (k := k) p
      rw [decide_eq_false hn] at z
      cases hf : vs.find? fun x => decide (x.1 = k) with
      | none => rfl
      | some _ => rw [hf] at z; cases z
    have hany : ((vs.map fun q => (numK q.1, q.2.2)).any fun kv => decide (kv.1 = numK k)) = false := by
      rw [List.any_eq_false]
      intro z hz' hc
      have : valueAt (vs.map fun q => (numK q.1, q.2.2)) (numK k) ≠ none := by
        unfold valueAt
        intro h0
        rw [Option.map_eq_none_iff, List.find?_eq_none] at h0
        exact h0 z hz' hc
      exact this hnone
    have st : stored (vs.map fun q => (numK q.1, q.2.2)) (numK k) r = (vs.map fun q => (numK q.1, q.2.2)) ++ [(numK k, r)] := by
      unfold stored
      rw [hany, if_neg (by decide)]
    subst eu
    refine wpAny_dictSet_pairs (hsz := hl) (intKind_is X.prog X.w _ t) m fun h' dd hs => q _ ?_
    rw [st] at dd
    obtain ⟨o, en, ep, g, xx, od, ko, pp, nd2⟩ := dd
    have pes : Paired (fun (x : NestedKey × V × V) (kv : Int × Value) => x.1 = .num kv.1 ∧ x.2.1 = .int kv.1 ∧ RelV x.2.2 kv.2) (es ++ [(k, x, y)]) ((vs.map fun q => (numK q.1, q.2.2)) ++ [(numK k, r)]) := by
      refine Paired.snoc ?_ ⟨ekk, ek, ry⟩
      have go : ∀ {l : DEnt} {m : List (NestedKey × Value × Value)}, Paired entP l m → (∀ e ∈ l, isNumK e.1 = true ∧ e.2.1 = .int (numK e.1)) → Paired (fun (x : NestedKey × V × V) (kv : Int × Value) => x.1 = .num kv.1 ∧ x.2.1 = .int kv.1 ∧ RelV x.2.2 kv.2) l (m.map fun q => (numK q.1, q.2.2)) := by
        intro l m pm
        induction pm with
        | nil => exact fun _ => .nil
        | @cons a b l m r t ih =>
          intro h
          obtain ⟨n1, n2⟩ := h a List.mem_cons_self
          refine .cons ⟨?_, ?_, r.2.2⟩ (ih fun e he => h e (List.mem_cons_of_mem _ he))
          · show a.1 = .num (numK b.1)
            rw [← r.1]
            revert n1
            cases a.1 <;> simp [isNumK, numK]
          · show a.2.1 = .int (numK b.1)
            rw [← r.1]; exact n2
      exact go p fun e he => ⟨ho.2 e.1 (List.mem_map_of_mem he), D.nk e he (ho.2 e.1 (List.mem_map_of_mem he))⟩
    obtain ⟨vs2, p2, ee⟩ := num_back pp (fun e he => ko e (by simpa using he)) pes
    have dp : DctP X.w a (es ++ [(k, x, y)]) h' := ⟨D.ne I, vs2, p2, o, en, ep, g, xx, od, ee⟩
    exact d_write I (by rw [D.at_]; exact True.intro) hs ⟨o, g⟩ (dct_ok dp)
theorem dct_new {h : Heap} {ww : World} (hb : sysModules < h.objs.size) : DctP ww h.objs.size [] (h.push { cls := .type "dict", data := .dict #[] }) :=
  ⟨beq_eq_false_iff_ne.mpr (Ne.symm (Nat.ne_of_lt hb)), [], .nil, _, #[], 0, Heap.get?_push_size _ rfl, ⟨rfl, rfl, rfl⟩, rfl, rfl⟩
/-- {} -/
def tNewN (ww : World) : TE := fun _ H Q => ∀ p, H p = none → Q (.ref p) (upd H p (DctO ww p []))
theorem pe_dnewN {pos : Pos} : PE X (.Dict [] [] pos) (tNewN X.w) := ⟨fun pins s σ H Q I h =>
  wpAny_Dict_empty ⟨.ref s.heap.objs.size, _, I.laid (a := s.heap.objs.size) (o := DctO X.w s.heap.objs.size []) (t' := s.toks) (fun _ _ q => Heap.get?_push_of_some _ q) (Nat.le_refl _) (dct_ok (dct_new I.big)), rfl, h _ (I.hok.fresh (Nat.le_refl _))⟩⟩
end
end Kw
namespace Kw
open PySem PySem.Spec PySem.Calls PyProof.Rows L2
section
variable {X : Cx} {w : Wd} {S : Store} {H : Hp} {n : Nat} {a : Addr} {es : DEnt} {ks : List NestedKey} {ds : List D}
theorem key_num {K : PySem.W.Frag} {mg : Str → Option Value} {d : D} {k : NestedKey} {v : V} (hk : keyOf d = some k) (r : Rp K mg w H d v) (hn : isNumK k = true) : v = .int (numK k) := by
  cases d <;> simp only [keyOf, Option.some.injEq, reduceCtorEq, Option.map_eq_some_iff] at hk
  · subst hk; cases hn
  · subst hk; unfold Rp at r; rw [r]; rfl
  · subst hk; cases hn
  · obtain ⟨_, _, rfl⟩ := hk; cases hn
theorem dc_mk (hH : H a = some (DctO X.w a es)) (hk : ∀ x ∈ es, x.1.depth ≤ 8 ∧ ∃ d, keyOf d = some x.1 ∧ Rp X.K X.mg w H d x.2.1) (nd : (es.map (·.1)).Nodup) : DcH X H a es where
  at_ := hH
  ky := fun e he h ok kin u r => by
    obtain ⟨_, d, k1, k2⟩ := hk e he
    exact key_at ok kin d e.1 e.2.1 u k1 k2 r
  dp := fun e he => (hk e he).1
  nk := fun e he hn => by
    obtain ⟨_, d, k1, k2⟩ := hk e he
    exact key_num k1 k2 hn
  nd := nd
theorem dc_of [Wo] (hW : Wo.ww = X.w) (s : Sto X.K X.mg w S H) (hz : S[n]? = some (.dct ks ds)) : ∃ a es, w.φ[n]? = some (some a) ∧ DcH X H a es ∧ es.map (·.1) = ks ∧ (∀ x ∈ es, x.1.depth ≤ 8 ∧ ∃ d, keyOf d = some x.1 ∧ Rp X.K X.mg w H d x.2.1) ∧ RpL X.K X.mg w H ds (es.map (·.2.2)) := by
  obtain ⟨a, es, h1, h2, h3, h4, h5, h6⟩ := s.cell n _ hz
  rw [hW] at h2
  exact ⟨a, es, h1, dc_mk h2 h5 (h3 ▸ h4), h3, h5, h6⟩
theorem ky_of {d : D} {k : NestedKey} {x : V} (hk : keyOf d = some k) (r : Rp X.K X.mg w H d x) : KyH X.prog X.w X.K H k x := fun h ok kin u q => key_at ok kin d k x u hk r q
end
/-- x not in d -/
def gDnot (x y : D) (S : Store) : RE D := match y with
  | .loc n => (match S[n]? with
    | some (.dct ks _) => (match keyOf x with
      | some k => if isTupK k = true ∧ ks.all isTupK = true ∧ k.depth ≤ 8 then .ok (.bl (!decide (k ∈ ks))) S else .no
      | none => .no)
    | _ => .no)
  | _ => .no
/-- d[x] -/
def gDget (y x : D) (S : Store) : RE D := match y with
  | .loc n => (match S[n]? with
    | some (.dct ks ds) => (match keyOf x with
      | some k => if hom (k :: ks) = true ∧ k.depth ≤ 8 then (match dAt ks ds k with
        | some d => .ok d S
        | none => .no) else .no
      | none => .no)
    | _ => .no)
  | _ => .no
/-- {} -/
def fNewD : FE := fun _ S => .ok (.loc S.length) (S ++ [.dct [] []])
/-- d[x] = v, x new -/
def sDput (fo fi fv : FE) : FS := fun ρ S => (fv ρ S).toS ρ fun y S1 => (fo ρ S1).toS ρ fun o S2 => (fi ρ S2).toS ρ fun x S3 => match o with
  | .loc n => (match S3[n]? with
    | some (.dct ks ds) => (match keyOf x with
      | some k => if isTupK k = true ∧ ks.all isTupK = true ∧ k.depth ≤ 8 ∧ k ∉ ks ∧ ks.length < sizeLine then .nx ρ (S3.set n (.dct (ks ++ [k]) (ds ++ [y]))) else .no
      | none => .no)
    | _ => .no)
  | _ => .no
section
variable {K : PySem.W.Frag} {mg : Str → Option Value} {w : Wd} {H : Hp} {S : Store}
/-- a cell is written -/
theorem Sto.setC [Wo] {n : Nat} {l : Addr} {o : HO} {c : Cell} (s : Sto K mg w S H) (hw : w.φ[n]? = some (some l)) (hn : n < S.length) (hc : CellR K mg w (upd H l o) c n) : Sto K mg w (S.set n c) (upd H l o) := by
  have ex : Ext w H w (upd H l o) := Ext.write hw
  refine ⟨by rw [List.length_set]; exact s.len, s.nd, fun a ha => ⟨upd_some (s.ap a ha).1, (s.ap a ha).2⟩, fun m c' hc' => ?_⟩
  by_cases e : m = n
  · subst e
    rw [List.getElem?_set_self hn] at hc'
    cases hc'
    exact hc
  · rw [List.getElem?_set_ne (Ne.symm e)] at hc'
    refine CellR.ext ex (fun a ha => ⟨ha, ?_⟩) id (s.cell m c' hc')
    exact upd_ne fun z => e (s.nd m n a ha (z ▸ hw))
/-- a new cell -/
theorem Sto.newC [Wo] {p : Addr} {o : HO} {c : Cell} (s : Sto K mg w S H) (np : H p = none) (hc : CellR K mg ⟨w.φ ++ [some p], w.hd⟩ (upd H p o) c w.φ.length) : Sto K mg ⟨w.φ ++ [some p], w.hd⟩ (S ++ [c]) (upd H p o) := by
  have ex : Ext w H ⟨w.φ ++ [some p], w.hd⟩ (upd H p o) := Ext.cell np
  refine ⟨by show (w.φ ++ [some p]).length = _; rw [List.length_append, List.length_append, s.len]; rfl, fun m n a h1 h2 => ?_, fun a ha => ⟨upd_some (s.ap a ha).1, fun z => ?_⟩, fun n c' hc' => ?_⟩
  · have key : ∀ k, (w.φ ++ [some p])[k]? = some (some a) → (w.φ[k]? = some (some a) ∧ k < w.φ.length) ∨ (k = w.φ.length ∧ a = p) := fun k hk => by
      by_cases hl : k < w.φ.length
      · rw [List.getElem?_append_left hl] at hk; exact .inl ⟨hk, hl⟩
      · have hl' : w.φ.length ≤ k := Nat.le_of_not_lt hl
        rw [List.getElem?_append_right hl'] at hk
        have : k - w.φ.length = 0 := by
          cases e : k - w.φ.length with
          | zero => rfl
          | succ j => rw [e] at hk; simp at hk
        rw [this] at hk; simp at hk
        exact .inr ⟨by omega, hk.symm⟩
    rcases key m h1 with ⟨a1, b1⟩ | ⟨a1, b1⟩ <;> rcases key n h2 with ⟨a2, b2⟩ | ⟨a2, b2⟩
    · exact s.nd m n a a1 a2
    · subst b2; exact absurd (List.mem_of_getElem? a1) (s.new np).1
    · subst b1; exact absurd (List.mem_of_getElem? a2) (s.new np).1
    · omega
  · rcases List.mem_append.mp (show some a ∈ w.φ ++ [some p] from z) with h | h
    · exact (s.ap a ha).2 h
    · simp at h; subst h; exact (s.ap a ha).1 np
  · by_cases hl : n < S.length
    · rw [List.getElem?_append_left hl] at hc'
      refine CellR.ext ex (fun a ha => ⟨by show (w.φ ++ [some p])[n]? = _; rw [List.getElem?_append_left (s.len ▸ hl)]; exact ha, ?_⟩) (fun hd => by show (w.φ ++ [some p])[n]? = _; rw [List.getElem?_append_left (s.len ▸ hl)]; exact hd) (s.cell n c' hc')
      have : a ≠ p := fun z => by subst z; exact (s.new np).1 (List.mem_of_getElem? ha)
      rw [upd_ne this]
    · have hl' : S.length ≤ n := Nat.le_of_not_lt hl
      rw [List.getElem?_append_right hl'] at hc'
      have e0 : n - S.length = 0 := by
        cases e : n - S.length with
        | zero => rfl
        | succ j => rw [e] at hc'; simp at hc'
      rw [e0] at hc'; simp at hc'; subst hc'
      have en : n = w.φ.length := by rw [s.len]; omega
      subst en
      exact hc
theorem loc_new {w : Wd} {S : Store} {p : Addr} (hl : w.φ.length = S.length) {H : Hp} : Rp K mg ⟨w.φ ++ [some p], w.hd⟩ H (.loc S.length) (.ref p) := by
  unfold Rp
  refine ⟨by show S.length < (w.φ ++ [some p]).length; rw [List.length_append, hl]; exact Nat.lt_succ_self _, fun a ha => ?_⟩
  have ha' : (w.φ ++ [some p])[S.length]? = some (some a) := ha
  rw [← hl, List.getElem?_append_right (Nat.le_refl _), Nat.sub_self] at ha'
  simp at ha'; rw [ha']
end
section
variable {X : Cx} {W : WX} {a b o i value : Expr} {fa fb fo fi fv : FE} {pos pos' : Pos}
def rNinD (X : Cx) : R2 := fun x y H Q => ∃ a es k, y = .ref a ∧ DcH X H a es ∧ KyH X.prog X.w X.K H k x ∧ isTupK k = true ∧ k.depth ≤ 8 ∧ (∀ e ∈ es, isTupK e.1 = true) ∧ Q (.bl (!decide (k ∈ es.map (·.1)))) H
theorem op_ninD (hu : X.A.units + 200 < cLine) : OpR X (compareOp .NotIn) (rNinD X) := by
  intro pins s σ H x y v u Q I rx ry h
  obtain ⟨a, es, k, rfl, D, ky, hk, dk, ht, q⟩ := h
  obtain rfl : u = Value.ref a := ry
  exact n_not hu I D ky rx hk dk ht fun s' I' => ⟨V.bl (!decide (k ∈ List.map (fun x : NestedKey × V × V => x.1) es)), H, I', rfl, q⟩
theorem ninD_v [Wo] (hW : Wo.ww = X.w) : OpV X.K X.mg (rNinD X) gDnot := by
  intro w S H x y d e Q E s r1 r2 h
  unfold gDnot at h
  cases e <;> try exact h.elim
  rename_i n
  simp only at h
  split at h
  case h_2 => exact h.elim
  rename_i ks ds hz
  split at h
  case h_2 => exact h.elim
  rename_i k hk
  split at h
  case isFalse => exact h.elim
  rename_i hc
  obtain ⟨a, es, h1, D, e1, h5, h6⟩ := dc_of hW s hz
  unfold Rp at r2
  subst e1
  exact ⟨a, es, k, r2.2 a h1, D, ky_of hk r1, hc.1, hc.2.2, fun e he => List.all_eq_true.mp hc.2.1 e.1 (List.mem_map_of_mem he), h.ret s (by unfold Rp; rfl)⟩
theorem qt_ninD [Wo] (hW : Wo.ww = X.w) (hu : X.A.units + 200 < cLine) (ha : PE X a (tF X W fa)) (hb : PE X b (tF X W fb)) (hm : behindInMarks .NotIn b = false := by rfl) : PT X (.Compare a [.NotIn] [b] pos) (tT X W (fB (f2 gDnot fa fb))) :=
  PT.wk (pt_cmpR (op_ninD hu) ha hb hm) fun σ H Q h => two (ninD_v hW) (tF_of_fB h)
theorem q_dget [Wo] (hW : Wo.ww = X.w) (hu : X.A.units + 200 < cLine) (ho : PE X o (tF X W fo)) (hi : PE X i (tF X W fi)) (hs : NoSl i) : PE X (.Subscript o i pos) (tF X W (f2 gDget fo fi)) := by
  refine ⟨fun pins s σ H Q I h => ?_⟩
  obtain ⟨w, ρ, S, s0, en, h⟩ := h
  have h : End X.K X.mg (fun w H => Rp X.K X.mg w H) w H ((fo ρ S).bnd fun x S1 => (fi ρ S1).bnd fun y S2 => gDget x y S2) Q (fun c od H' => W c od σ H') := h
  refine subD_of PySem.F.slot_dict_getitem.lookup hs (thn (ho.run pins s σ H _ I ⟨w, ρ, S, s0, en, (End.bind (R := fun w H => Rp X.K X.mg w H) h).imp (fun _ _ z => z) (fun _ _ _ z => z)⟩) fun u s1 ⟨x, H1, I1, rx, w1, S1, d1, e1, st1, r1, h1⟩ => ?_)
  refine thn (hi.run pins s1 σ H1 _ I1 ⟨w1, ρ, S1, st1, en.ext e1, (End.bind (R := fun w H => Rp X.K X.mg w H) h1).imp (fun _ _ z => z) (fun _ _ _ z => z)⟩) fun iv s2 ⟨y, H2, I2, ry, w2, S2, d2, e2, st2, r2, h2⟩ => ?_
  have r1' := Rp.ext e2 d1 _ r1
  unfold gDget at h2
  cases d1 <;> try exact h2.elim
  rename_i n
  simp only at h2
  split at h2
  case h_2 => exact h2.elim
  rename_i ks ds hz
  split at h2
  case h_2 => exact h2.elim
  rename_i k hk
  split at h2
  case isFalse => exact h2.elim
  rename_i hc
  split at h2
  case h_2 => exact h2.elim
  rename_i d hd
  obtain ⟨a, es, h1', D, e1', h5, h6⟩ := dc_of hW st2 hz
  subst e1'
  unfold Rp at r1'
  obtain rfl : x = .ref a := r1'.2 a h1'
  obtain rfl : u = Value.ref a := rx
  obtain ⟨v, hv, rv⟩ := dAt_e h6 hd
  exact ⟨D.typeIs I2, n_get hu I2 D (ky_of hk r2) ry hc.2 hc.1 (fun hn => key_num hk r2 hn) hv fun w' s3 I3 rw' => ⟨v, H2, I3, rw', h2.ret st2 rv⟩⟩
theorem q_newD [Wo] (hW : Wo.ww = X.w) : PE X (.Dict [] [] pos) (tF X W fNewD) :=
  PE.wk pe_dnewN fun σ H Q ⟨w, ρ, S, s, en, h⟩ => by
    intro p np
    have st := s.newC (o := DctO X.w p []) (c := .dct [] []) np ⟨p, [], by show (w.φ ++ [some p])[w.φ.length]? = _; rw [List.getElem?_append_right (Nat.le_refl _), Nat.sub_self]; rfl, by rw [upd_same, hW], rfl, List.nodup_nil, fun x hx => (nomatch hx), RpL.nil⟩
    exact h _ _ _ (Ext.cell np) st (loc_new s.len)
theorem q_dput [Wo] (hW : Wo.ww = X.w) (hu : X.A.units + 200 < cLine) (ho : PE X o (tF X W fo)) (hi : PE X i (tF X W fi)) (hv : PE X value (tF X W fv)) (hs : swapsWith value (some (.Subscript o i pos')) pos.line X.env = pure false := by rfl) :
    PS X (.Assign [.Subscript o i pos'] value pos) (tS X W (sDput fo fi fv)) := by
  refine ⟨fun pins s σ H D I h => ?_⟩
  obtain ⟨w, ρ, S, s0, en, h⟩ := h
  unfold sDput at h
  refine wpAny_Assign_Subscript (thn (hv.run pins s σ H _ I ⟨w, ρ, S, s0, en, (h.of (R := fun w H => Rp X.K X.mg w H) en).imp (fun _ _ z => z) (fun _ _ _ z => z)⟩) fun r s1 ⟨y, H1, I1, rv, w1, S1, dy, e1, st1, r1, h1⟩ => ?_) hs
  refine thn (ho.run pins s1 σ H1 _ I1 ⟨w1, ρ, S1, st1, en.ext e1, (h1.of (R := fun w H => Rp X.K X.mg w H) (en.ext e1)).imp (fun _ _ z => z) (fun _ _ _ z => z)⟩) fun u s2 ⟨x, H2, I2, rx, w2, S2, dx, e2, st2, r2, h2⟩ => ?_
  have en2 := (en.ext e1).ext e2
  refine thn (hi.run pins s2 σ H2 _ I2 ⟨w2, ρ, S2, st2, en2, (h2.of (R := fun w H => Rp X.K X.mg w H) en2).imp (fun _ _ z => z) (fun _ _ _ z => z)⟩) fun iv s3 ⟨z, H3, I3, rz, w3, S3, dz, e3, st3, r3, h3⟩ => ?_
  have r2' := Rp.ext e3 dx _ r2
  have r1' := Rp.ext e3 dy _ (Rp.ext e2 dy _ r1)
  obtain ⟨n, rfl⟩ : ∃ n, dx = .loc n := by cases dx <;> first | exact ⟨_, rfl⟩ | exact h3.elim
  simp only at h3
  split at h3
  case h_2 => exact h3.elim
  rename_i ks ds hz
  split at h3
  case h_2 => exact h3.elim
  rename_i k hk
  split at h3
  case isFalse => exact h3.elim
  rename_i hc
  obtain ⟨a, es, ha, Dc, ek, h5, h6⟩ := dc_of hW st3 hz
  subst ek
  unfold Rp at r2'
  obtain rfl : x = .ref a := r2'.2 a ha
  obtain rfl : u = Value.ref a := rx
  have hn : n < S3.length := by
    rcases Nat.lt_or_ge n S3.length with z | z
    · exact z
    · rw [List.getElem?_eq_none z] at hz; cases hz
  have ex : Ext w3 H3 w3 (upd H3 a (DctO X.w a (es ++ [(k, z, y)]))) := Ext.write ha
  have st4 : Sto X.K X.mg w3 (S3.set n (.dct (es.map (·.1) ++ [k]) (ds ++ [dy]))) (upd H3 a (DctO X.w a (es ++ [(k, z, y)]))) := by
    refine st3.setC ha hn ⟨a, es ++ [(k, z, y)], ha, by rw [upd_same, hW], by rw [List.map_append]; rfl, ?_, fun q hq => ?_, ?_⟩
    · rw [List.nodup_append]
      refine ⟨Dc.nd, by simp, fun q hq r hr e => hc.2.2.2.1 ?_⟩
      have : r = k := by simpa using hr
      rw [← this, ← e]; exact hq
    · rcases List.mem_append.mp hq with hq | hq
      · obtain ⟨q1, d, q2, q3⟩ := h5 q hq
        exact ⟨q1, d, q2, Rp.ext ex _ _ q3⟩
      · have : q = (k, z, y) := by simpa using hq
        subst this
        exact ⟨hc.2.2.1, dz, hk, Rp.ext ex _ _ r3⟩
    · rw [List.map_append]
      exact (RpL.ext ex _ _ h6).append (RpL.one (Rp.ext ex _ _ r1'))
  exact n_put hu I3 Dc (ky_of hk r3) rz hc.1 hc.2.2.1 (fun e he => List.all_eq_true.mp hc.2.1 e.1 (List.mem_map_of_mem he)) hc.2.2.2.1 (by have := hc.2.2.2.2; simpa using this) rv fun s4 I4 => ⟨σ, _, I4, h3 w3 _ σ ex st4 ((en2.ext e3).ext ex)⟩
end
end Kw
namespace Kw
open PySem PySem.Spec PySem.Calls PyProof.Rows L2
/-- a dict that a comprehension lays at D -/
def tDcN (X : Cx) (wi : TI) (g : TG) (tt : TT) (tk tv : TE) (vs : List Nat) : TE := fun σ H Q => wi σ H fun J H1 => ∀ D, H1 D = none → D ≠ sysModules → ∃ W : Nat → Nat → Hp → Prop, (∃ m, W 0 m (upd H1 D (DctO X.w D []))) ∧ ∀ i m H, W i m H →
  (J.stop i H ∧ Q (.ref D) H) ∨ (J.go i H ∧ ∃ Nx : Hp → Prop, (∀ H', Nx H' → ∃ m', m' < m ∧ W (i + 1) m' H') ∧ ∀ x H', J.yld i H x H' → g x (wipe σ vs) H' fun σ2 H2 => wipe σ2 vs = wipe σ vs ∧ tt σ2 H2 fun b H3 =>
    if b = true then tk σ2 H3 fun y H4 => tv σ2 H4 fun z H5 => ∃ es k, DcH X H5 D es ∧ KyH X.prog X.w X.K H5 k y ∧ k.depth ≤ 8 ∧ hom (k :: es.map (·.1)) = true ∧ (isNumK k = true → y = .int (numK k)) ∧ k ∉ es.map (·.1) ∧ es.length < sizeLine ∧ Nx (upd H5 D (DctO X.w D (es ++ [(k, y, z)]))) else Nx H3)
theorem pe_dcN {X : Cx} {kx vx tg iter : Expr} {ifs : List Expr} {scope : Scope} {own : List (Str × Nat)} {pos : Pos} {wi : TI} {g : TG} {tt : TT} {tk tv : TE} (hu : X.A.units + 200 < cLine) (hc : X.calm = true) (hN : X.N.Nodup) (hi : PI X tg iter wi) (ok : BlkOk X.N X.env.scope scope own)
    (hg : ∀ (s : Shared) (H : Hp) (C : Addr) (cl : List (Str × Addr)) (fp : List Addr), PG (X.blk s H scope (compEnvC scope cl C X.env) fp) tg g) (ht : ∀ (s : Shared) (H : Hp) (C : Addr) (cl : List (Str × Addr)) (fp : List Addr), PTs (X.blk s H scope (compEnvC scope cl C X.env) fp) ifs tt)
    (hk : ∀ (s : Shared) (H : Hp) (C : Addr) (cl : List (Str × Addr)) (fp : List Addr), PE (X.blk s H scope (compEnvC scope cl C X.env) fp) kx tk) (hv : ∀ (s : Shared) (H : Hp) (C : Addr) (cl : List (Str × Addr)) (fp : List Addr), PE (X.blk s H scope (compEnvC scope cl C X.env) fp) vx tv)
    (hs : ∀ x, foldedSetIterable iter X.env x = pure x := by intro _; rfl) : PE X (.DictComp kx vx [⟨tg, iter, ifs, 0⟩] scope pos) (tDcN X wi g tt tk tv (own.map (·.2))) := by
  refine ⟨fun pins s σ H Q I h => ?_⟩
  rw [arm_eval_DictComp]
  have hfree : ∀ y ∈ scope.names, y.2 = .free → ∃ c, X.env.cells.lookup y.1 = some c := fun y hy e => by
    rcases ok.free y hy e with k | k
    · exact I.ok.has _ (.inl k)
    · exact I.ok.has _ (.inr k)
  refine wpAny_comprehension_free rfl hs (closure_ok hfree) ok.kind (fun y hy e => by rw [ok.uniq y hy, e])
    (thn (hi.run pins s σ H _ I h) fun xv s1 hx => thn hx fun itv s2 h2 => ?_)
  obtain ⟨it, fp, tn, J, H2, e, I2, T, st2, f2, q⟩ := h2
  subst e
  refine wpAny_newObj_type (newEnv_comp ?_)
  have hbig := I2.big
  generalize hD : s2.heap.objs.size = D at hbig
  have hDn : H2 D = none := I2.hok.fresh (Nat.le_of_eq hD)
  obtain ⟨W, ⟨m0, w0⟩, turn⟩ := q D hDn (Ne.symm (Nat.ne_of_lt hbig))
  generalize hs3 : ({ s2 with heap := s2.heap.push { cls := .type "dict", data := .dict #[] } } : Shared) = s3
  have I3 : Inv X pins σ (upd H2 D (DctO X.w D [])) s3 := by
    rw [← hs3]
    refine I2.laid (t' := s2.toks) (fun b o e => Heap.get?_push_of_some _ e) (Nat.le_of_eq hD) ?_
    rw [← hD]
    exact dct_ok (dct_new I2.big)
  have h3 : s3.heap = s2.heap.push { cls := .type "dict", data := .dict #[] } := by rw [← hs3]
  have sz : ∀ b ∈ fp, b < s2.heap.objs.size := fun b hb => by
    obtain ⟨o, e, _⟩ := T.obj _ _ st2 b hb
    exact Heap.lt_size e
  have f3 : ∀ b ∈ fp, FpOk X pins (upd H2 D (DctO X.w D [])) b ∧ b < s3.heap.objs.size := fun b hb => by
    have hlt := sz b hb
    refine ⟨⟨?_, (f2 b hb).2⟩, by rw [h3, Heap.size_push]; exact Nat.lt_succ_of_lt hlt⟩
    rw [upd_ne (by rw [← hD]; exact Nat.ne_of_lt hlt)]
    exact (f2 b hb).1
  have st3 : tn 0 s3.heap := T.keep _ _ _ st2 fun b _ o e => by rw [h3]; exact Heap.get?_push_of_some _ e
  have I4 := block_start I3 ok hN f3
  generalize hcl : cellsFrom (s3.heap.objs.size + 1) scope.names (cloFrom X.env.cells scope.names []) = cls at I4
  have pg := hg s3 (upd H2 D (DctO X.w D [])) s3.heap.objs.size cls fp
  have pt := ht s3 (upd H2 D (DctO X.w D [])) s3.heap.objs.size cls fp
  have pk := hk s3 (upd H2 D (DctO X.w D [])) s3.heap.objs.size cls fp
  have pv := hv s3 (upd H2 D (DctO X.w D [])) s3.heap.objs.size cls fp
  have nfp : ∀ b ∈ fp, (upd H2 D (DctO X.w D [])) b = none := fun b hb => (f3 b hb).1.1
  show codeAny _ _ (.compStart (.DictComp kx vx [⟨tg, iter, ifs, 0⟩] scope pos) 0 (.ref it) (.ref D) (compEnvC scope cls s3.heap.objs.size X.env)) _ { s3 with heap := pushCells (s3.heap.push { cls := .type "dict", data := .dict #[] }) scope.names }
  generalize hce : compEnvC scope cls s3.heap.objs.size X.env = ce at I4 pg pt pk pv ⊢
  have cL : ce.locals = s3.heap.objs.size := by subst hce; rfl
  generalize hH3 : upd H2 D (DctO X.w D []) = H3 at I3 I4 pg pt pk pv w0 nfp f3
  generalize hs4 : ({ s3 with heap := pushCells (s3.heap.push { cls := .type "dict", data := .dict #[] }) scope.names } : Shared) = s4 at I4 ⊢
  have st4 : tn 0 s4.heap := T.keep _ _ _ st3 fun b _ o e => by rw [← hs4]; exact pushCells_keeps _ _ _ _ (Heap.get?_push_of_some _ e)
  have stat : ∀ {σ' : L2.St} {H' : Hp} {s' : Shared}, Inv (X.blk s3 H3 scope ce fp) [] σ' H' s' → (∀ b ∈ fp, H' b = none) → ∀ b ∈ fp, FpOk (X.blk s3 H3 scope ce fp) [] H' b := fun {σ' H' s'} I' hn b hb =>
    ⟨hn b hb, (I'.ok.exf b hb).1, I'.ok.exfs b hb, .inl hb, fun x c e => (I'.ok.exf b hb).2 x c e, fun p hp => absurd (show p ∈ ([] : List (Addr × Obj)) ++ [] from hp) (by simp)⟩
  refine codeAny_compStart_dict ?loop (T.self X.A 0 _ _ _ st4 ?loop)
  refine compLoop_anyD (fun n s' => ∃ i H', Inv (X.blk s3 H3 scope ce fp) [] (wipe σ (own.map (·.2))) H' s' ∧ tn i s'.heap ∧ (∀ b ∈ fp, H' b = none) ∧ W i n H') ?_ m0 ⟨0, H3, I4, st4, nfp, w0⟩
  rintro n s5 ⟨i, H5, I5, st5, n5, w5⟩
  rcases turn i n H5 w5 with ⟨stop, qq⟩ | ⟨go, Nx, hNx, step⟩
  · have td := T.done (X.blk s3 H3 scope ce fp) rfl rfl rfl hc i [] s5 _ H5 (fun _ _ => False) I5 (stat I5 n5) st5 stop
    refine thnF td fun r s6 ⟨hr, I6⟩ => ?_
    subst hr
    have I7 : Inv X pins σ H5 s6 := I3.call' (ch := fp) I6.os I6.base I6.hok I6.bare fun b hb => ⟨(f3 b hb).1.2.2.2.1, (f3 b hb).1.2.1, (f3 b hb).1.2.2.2.2.1, (f3 b hb).1.2.2.2.2.2⟩
    have nC : H5 s3.heap.objs.size = none := by
      have z : H5 ce.locals = none := I6.free
      rw [cL] at z
      exact z
    obtain ⟨m, hn, _⟩ := I6.loc
    have hn : s6.heap.Ns ce.locals m := hn
    rw [cL] at hn
    refine ⟨m, hn, fun h'' sb => ?_⟩
    obtain ⟨f0, f1, f2', f3', f4, f5⟩ := I3.fpOk (Nat.le_refl _) nC
    exact ⟨.ref D, H5, I7.turned (t' := s6.toks) (fun b o hb e => (sb.2 b hb).trans e) f0 f1 f3' f4 f5, rfl, qq⟩
  · have ti := T.item (X.blk s3 H3 scope ce fp) rfl rfl rfl hc i [] s5 _ H5 (fun _ _ => False) I5 (stat I5 n5) st5 go
    refine thnF ti fun r s6 ⟨u, hr, h6⟩ => ?_
    subst hr
    refine thnF h6 fun _ s7 ⟨x, H7, I7, r7, y7, st7, n7⟩ => ?_
    have I7' := I7.pinned (stat I7 n7) (T.obj _ _ st7)
    refine thnF (pg.run _ s7 _ H7 x u _ I7' r7 (step x H7 y7)) fun _ s8 ⟨σ8, H8, I8, hw8, q8⟩ => ?_
    refine thnF (pt.run _ s8 σ8 H8 _ I8 q8) fun b s9 ⟨H9, I9, q9⟩ => ?_
    have fin : ∀ {s' : Shared} {H' : Hp}, Inv (X.blk s3 H3 scope ce fp) ([] ++ pinsAt fp s7.heap) σ8 H' s' → Nx H' → ∃ m, m < n ∧ ∃ i H', Inv (X.blk s3 H3 scope ce fp) [] (wipe σ (own.map (·.2))) H' s' ∧ tn i s'.heap ∧ (∀ b ∈ fp, H' b = none) ∧ W i m H' := fun {s' H'} I' nx => by
      obtain ⟨m', hm, w'⟩ := hNx H' nx
      have pin' : ∀ b ∈ fp, ∀ o, s7.heap.get? b = some o → s'.heap.get? b = some o ∧ H' b = none := fun b hb o e =>
        let z := I'.pin (b, o) (List.mem_append_right _ (List.mem_append_right _ (mem_pinsAt hb e)))
        ⟨z.1, z.2.1⟩
      have hl : (wipe σ (own.map (·.2))).length = σ8.length := by rw [← hw8, wipe_length]
      refine ⟨m', hm, i + 1, H', (I'.unpinned (pins := [])).weak hl (fun j v e => ?_), T.keep _ _ _ st7 fun b hb o e => (pin' b hb o e).1, fun b hb => ?_, w'⟩
      · rw [← hw8] at e
        exact (wipe_some e).1
      · obtain ⟨o, e, _⟩ := T.obj _ _ st7 b hb
        exact (pin' b hb o e).2
    cases b with
    | false =>
      simp only [Bool.false_eq_true, if_false] at q9 ⊢
      exact fin I9 q9
    | true =>
      simp only [if_true] at q9 ⊢
      refine thnF (pk.run _ s9 σ8 H9 _ I9 q9) fun z s10 ⟨yk, H10, I10, r10, q10⟩ => ?_
      refine thnF (pv.run _ s10 σ8 H10 _ I10 q10) fun z2 s11 ⟨yv, H11, I11, r11, es, k, Dc, ky, dk, ho, nk, hn, hz, nx⟩ => ?_
      exact n_set (X := X.blk s3 H3 scope ce fp) (A := X.A) hu I11 ⟨Dc.at_, Dc.ky, Dc.dp, Dc.nk, Dc.nd⟩ ky r10 dk ho nk hn hz r11 fun s12 I12 => fin I12 nx
section
variable {K : PySem.W.Frag} {mg : Str → Option Value} {w : Wd} {H : Hp} {S : Store}
theorem Sto.pokeN [Wo] {C : Addr} {o : HO} (s : Sto K mg w S H) (hC : C ∈ w.hd) (hne : C ≠ sysModules) : Sto K mg w S (upd H C o) := by
  have m : Mv w H w (upd H C o) := Mv.poke hC
  refine ⟨s.len, s.nd, fun a ha => ⟨upd_some (s.ap a ha).1, (s.ap a ha).2⟩, fun n c hc => ?_⟩
  have c0 := s.cell n c hc
  have ne : ∀ a, w.φ[n]? = some (some a) → upd H C o a = H a := fun a ha => upd_ne fun z => by subst z; exact (s.ap a hC).2 (List.mem_of_getElem? ha)
  unfold CellR at c0 ⊢
  split at c0
  · obtain ⟨b, xs, h2, h3, h4⟩ := c0; exact ⟨b, xs, h2, (ne b h2).trans h3, RpL.mv m _ _ h4⟩
  · obtain ⟨b, xs, o', h2, h3, h4⟩ := c0; exact ⟨b, xs, o', h2, (ne b h2).trans h3, RpL.mv m _ _ h4⟩
  · exact c0
  · obtain ⟨c1, P, ht, t1, t2⟩ := c0; exact ⟨c1, P, ht, t1, TabW.mv m (ne _ t1) t2⟩
  · obtain ⟨h1, h2, h3, ⟨φ, h4, h6⟩, h5⟩ := c0
    exact ⟨h1, h2, h3, ⟨φ, (upd_ne (Ne.symm hne)).trans h4, h6⟩, h5⟩
  · exact ⟨c0.1, EnvR.mv m c0.2⟩
  · obtain ⟨b, C1, dx, vs, h2, h3, h4, h5, h6⟩ := c0; exact ⟨b, C1, dx, vs, h2, h3, (ne b h2).trans h4, h5, RpL.mv m _ _ h6⟩
  · obtain ⟨b, es, h2, h3, h4, h5, h6, h7⟩ := c0; exact ⟨b, es, h2, (ne b h2).trans h3, h4, h5, dct_mv m h6, RpL.mv m _ _ h7⟩
/-- what was hidden becomes a cell -/
theorem Sto.bare [Wo] {C : Addr} {h0 : List Addr} {c : Cell} (s : Sto K mg w S H) (e : w.hd = C :: h0) (hnh : C ∉ h0) (hne : C ≠ sysModules) :
    Mv w H ⟨w.φ ++ [some C], h0⟩ H ∧ (CellR K mg ⟨w.φ ++ [some C], h0⟩ H c w.φ.length → Sto K mg ⟨w.φ ++ [some C], h0⟩ (S ++ [c]) H) := by
  have hCin : C ∈ w.hd := by rw [e]; exact List.mem_cons_self
  have hout : some C ∉ w.φ := (s.ap C hCin).2
  have ph : ∀ (n : Nat) a, (w.φ ++ [some C])[n]? = some (some a) → (w.φ[n]? = some (some a) ∧ n < w.φ.length) ∨ (n = w.φ.length ∧ a = C) := fun n a hk => by
    by_cases hl : n < w.φ.length
    · rw [List.getElem?_append_left hl] at hk; exact .inl ⟨hk, hl⟩
    · have hl' : w.φ.length ≤ n := Nat.le_of_not_lt hl
      rw [List.getElem?_append_right hl'] at hk
      have : n - w.φ.length = 0 := by
        cases e : n - w.φ.length with
        | zero => rfl
        | succ j => rw [e] at hk; simp at hk
      rw [this] at hk; simp at hk
      exact .inr ⟨by omega, hk.symm⟩
  have m : Mv w H ⟨w.φ ++ [some C], h0⟩ H := ⟨fun a o h n => by
    have hn : a ≠ C := fun z => by subst z; exact n.2 hCin
    refine ⟨h, fun z => ?_, fun z => n.2 (by rw [e]; exact List.mem_cons_of_mem _ z)⟩
    rcases List.mem_append.mp (show some a ∈ w.φ ++ [some C] from z) with z | z
    · exact n.1 z
    · simp at z; exact hn z, by show _ ≤ (w.φ ++ [some C]).length; rw [List.length_append]; omega, fun n a h l => by
    rcases ph n a h with z | z
    · exact z.1
    · omega⟩
  refine ⟨m, fun hcell => ⟨by show (w.φ ++ [some C]).length = _; rw [List.length_append, List.length_append, s.len]; rfl, fun i j a q1 q2 => ?_, fun a ha => ?_, fun n cc hc => ?_⟩⟩
  · rcases ph i a q1 with ⟨z1, z2⟩ | ⟨z1, z2⟩ <;> rcases ph j a q2 with ⟨y1, y2⟩ | ⟨y1, y2⟩
    · exact s.nd i j a z1 y1
    · subst y2; exact absurd (List.mem_of_getElem? z1) hout
    · subst z2; exact absurd (List.mem_of_getElem? y1) hout
    · omega
  · have ha' : a ∈ w.hd := by rw [e]; exact List.mem_cons_of_mem _ ha
    refine ⟨(s.ap a ha').1, fun z => ?_⟩
    rcases List.mem_append.mp (show some a ∈ w.φ ++ [some C] from z) with z | z
    · exact (s.ap a ha').2 z
    · simp at z; subst z; exact hnh ha
  · by_cases hl : n < S.length
    · rw [List.getElem?_append_left hl] at hc
      have c0 := s.cell n cc hc
      have gl : (w.φ ++ [some C])[n]? = w.φ[n]? := List.getElem?_append_left (s.len ▸ hl)
      unfold CellR at c0 ⊢
      split at c0
      · obtain ⟨b, ys, h2, h3, h4⟩ := c0; exact ⟨b, ys, gl.trans h2, h3, RpL.mv m _ _ h4⟩
      · obtain ⟨b, ys, o', h2, h3, h4⟩ := c0; exact ⟨b, ys, o', gl.trans h2, h3, RpL.mv m _ _ h4⟩
      · exact gl.trans c0
      · obtain ⟨c1, P, ht, t1, t2⟩ := c0; exact ⟨c1, P, ht, gl.trans t1, TabW.mv m rfl t2⟩
      · obtain ⟨y1, y2, y3, ⟨φ, y4, y6⟩, y5⟩ := c0
        refine ⟨gl.trans y1, ?_, fun z => ?_, ⟨φ, y4, y6⟩, y5⟩
        · rw [e] at y2
          rcases List.mem_cons.mp y2 with z | z
          · exact absurd z.symm hne
          · exact z
        · rcases List.mem_append.mp (show some sysModules ∈ w.φ ++ [some C] from z) with z | z
          · exact y3 z
          · simp at z; exact hne z.symm
      · exact ⟨gl.trans c0.1, EnvR.mv m c0.2⟩
      · obtain ⟨b, C1, dx, vs', h2, h3, h4, h5, h6⟩ := c0; exact ⟨b, C1, dx, vs', gl.trans h2, h3, h4, h5, RpL.mv m _ _ h6⟩
      · obtain ⟨b, es, h2, h3, h4, h5, h6, h7⟩ := c0; exact ⟨b, es, gl.trans h2, h3, h4, h5, dct_mv m h6, RpL.mv m _ _ h7⟩
    · have hl' : S.length ≤ n := Nat.le_of_not_lt hl
      rw [List.getElem?_append_right hl'] at hc
      have e0 : n - S.length = 0 := by
        cases e : n - S.length with
        | zero => rfl
        | succ j => rw [e] at hc; simp at hc
      rw [e0] at hc; simp at hc; subst hc
      have en' : n = w.φ.length := by rw [s.len]; omega
      subst en'
      exact hcell
end
noncomputable def dctL (tg : FG) (fk fv : FE) (g : Option (Nat × List D)) (ρ : FEnv) : List D → List NestedKey → List D → Store → RE (List NestedKey × List D)
  | [], ks, ds, S => gchk g S (.ok (ks, ds) S) .no
  | d :: r, ks, ds, S => gchk g S (match tg d ρ S with
    | some (ρ1, S1) => (match fk ρ1 S1 with
      | .ok y S2 => (match fv ρ1 S2 with
        | .ok z S3 => (match keyOf y with
          | some k => if k.depth ≤ 8 ∧ hom (k :: ks) = true ∧ k ∉ ks ∧ ks.length < sizeLine then dctL tg fk fv g ρ r (ks ++ [k]) (ds ++ [z]) S3 else .no
          | none => .no)
        | _ => .no)
      | _ => .no)
    | none => .no) .no
def dctFin : RE (List NestedKey × List D) → RE D
  | .ok p S => .ok (.loc S.length) (S ++ [.dct p.1 p.2])
  | _ => .no
noncomputable def fDc (fi : FI) (tg : FG) (fk fv : FE) (vs : List Nat) : FE := fun ρ S => (fi ρ S).bnd fun p S1 => dctFin (dctL tg fk fv p.2 (wipeR ρ vs) p.1 [] [] S1)
section
variable {X : Cx} {W : WX} {kx vx tg iter : Expr} {scope : Scope} {own : List (Str × Nat)} {pos : Pos} {fi : FI} {g : FG} {sl : List Nat} {fk fv : FE}
theorem dc_core [Wo] (hW : Wo.ww = X.w) {σ : L2.St} {H : Hp} {Q : VK} {vs : List Nat} (hsl : ∀ i ∈ sl, i ∈ vs) (h : tF X W (fDc fi g fk fv vs) σ H Q) : tDcN X (tI X W fi) (tG X sl g) (tT X W0 fYes) (tF X W0 fk) (tF X W0 fv) vs σ H Q := by
  obtain ⟨w, ρ, S, s, en, h⟩ := h
  refine ⟨w, ρ, S, s, en, (End.bind (R := ItOk X.K X.mg) h).imp ?_ (fun _ _ _ z => z)⟩
  rintro J H1 ⟨w1, S1, ⟨items, gu⟩, e1, s1, J1, h1⟩ C hC hne
  have enw : EnvR X.K X.mg w1 H1 (wipeR ρ vs) (wipe σ vs) := (en.ext e1).wipe vs
  have h1' : End X.K X.mg (fun w H => Rp X.K X.mg w H) w1 H1 (dctFin (dctL g fk fv gu (wipeR ρ vs) items [] [] S1)) Q (fun c od H' => W c od σ H') := h1
  let G : Hp → List NestedKey → List D → Store → RE (List NestedKey × List D) → Prop := fun H' ks ds S' r => ∃ w' es, ExtD C w1 H1 w' H' ∧ Sto X.K X.mg w' S' H' ∧ H' C = some (DctO X.w C es) ∧ es.map (·.1) = ks ∧ (∀ x ∈ es, x.1.depth ≤ 8 ∧ ∃ d, keyOf d = some x.1 ∧ Rp X.K X.mg w' H' d x.2.1) ∧ ks.Nodup ∧ RpL X.K X.mg w' H' ds (es.map (·.2.2)) ∧ ∃ r0, dctFin r = r0 ∧ End X.K X.mg (fun w H => Rp X.K X.mg w H) w1 H1 r0 Q (fun c od H' => W c od σ H')
  refine ⟨fun i m H' => ∃ ks ds S', i + m = items.length ∧ G H' ks ds S' (dctL g fk fv gu (wipeR ρ vs) (items.drop i) ks ds S'), ⟨items.length, [], [], S1, by omega, ⟨w1.φ, C :: w1.hd⟩, [], ExtD.begin_ hC, s1.mvd hC, upd_same, rfl, fun x hx => (nomatch hx), List.nodup_nil, RpL.nil, _, rfl, h1'⟩, ?_⟩
  rintro i m H' ⟨ks, ds, S', hm, w', es, ed, s', hx, ek, hky, hnd, ra, r0, hr0, he⟩
  have hCin : C ∈ w'.hd := by rw [ed.hd]; exact List.mem_cons_self
  have no_end : ∀ {r : RE D}, r = .no → End X.K X.mg (fun w H => Rp X.K X.mg w H) w1 H1 r Q (fun c od H' => W c od σ H') → False := fun e h => by rw [e] at h; exact h
  cases hd : items.drop i with
  | nil =>
    rw [hd] at hr0
    unfold dctL gchk at hr0
    split at hr0
    · rename_i gd1
      have hl : items.length ≤ i := List.drop_eq_nil_iff.mp hd
      refine .inl ⟨(J1 w' S' H' ed.mv s' gd1).1 i hl, ?_⟩
      have hnh : C ∉ w1.hd := fun z => (s1.ap C z).1 hC
      obtain ⟨mv2, mk⟩ := s'.bare (c := .dct ks ds) ed.hd hnh hne
      have cell : CellR X.K X.mg ⟨w'.φ ++ [some C], w1.hd⟩ H' (.dct ks ds) w'.φ.length := ⟨C, es, by show (w'.φ ++ [some C])[w'.φ.length]? = _; rw [List.getElem?_append_right (Nat.le_refl _), Nat.sub_self]; rfl, by rw [hW]; exact hx, ek, hnd, dct_mv mv2 hky, RpL.mv mv2 _ _ ra⟩
      have ex2 : Ext w1 H1 ⟨w'.φ ++ [some C], w1.hd⟩ H' := ⟨ed.done.fr, Nat.le_trans ed.ln mv2.ln, fun n a h l => by
        have ll := ed.ln
        have h' : (w'.φ ++ [some C])[n]? = some (some a) := h
        rw [List.getElem?_append_left (by omega)] at h'
        exact ed.ph n a h' l, fun a h => by
        rcases List.mem_append.mp (show some a ∈ w'.φ ++ [some C] from h) with z | z
        · exact ed.nw a z
        · simp at z; subst z; exact .inr hC, rfl⟩
      subst hr0
      have rl : Rp X.K X.mg ⟨w'.φ ++ [some C], w1.hd⟩ H' (.loc S'.length) (.ref C) := by
        unfold Rp
        refine ⟨by show S'.length < (w'.φ ++ [some C]).length; rw [List.length_append, s'.len]; exact Nat.lt_succ_self _, fun a ha => ?_⟩
        have ha' : (w'.φ ++ [some C])[S'.length]? = some (some a) := ha
        rw [← s'.len, List.getElem?_append_right (Nat.le_refl _), Nat.sub_self] at ha'
        simp at ha'; rw [ha']
      exact he ⟨w'.φ ++ [some C], w1.hd⟩ H' (.ref C) ex2 (mk cell) rl
    · exact (no_end hr0.symm he).elim
  | cons d r =>
    rw [hd] at hr0
    unfold dctL gchk at hr0
    split at hr0
    · rename_i gd1
      have hi' : items[i]? = some d := by
        have := congrArg (·[0]?) hd
        simpa using this
      have hr : items.drop (i + 1) = r := by
        have := congrArg List.tail hd
        simpa using this
      have hlt : i < items.length := (List.getElem?_eq_some_iff.mp hi').1
      obtain ⟨j1, j2⟩ := (J1 w' S' H' ed.mv s' gd1).2 i d hi'
      refine .inr ⟨j1, fun H2 => ∃ ks2 ds2 S2, G H2 ks2 ds2 S2 (dctL g fk fv gu (wipeR ρ vs) r ks2 ds2 S2), fun H2 ⟨ks2, ds2, S2, z⟩ => ⟨m - 1, by omega, ks2, ds2, S2, by omega, by rw [hr]; exact z⟩, ?_⟩
      intro x H'' hy
      obtain ⟨j3, j4, j5⟩ := j2 x H'' hy
      have enw' : EnvR X.K X.mg w' H'' (wipeR ρ vs) (wipe σ vs) := (enw.mv ed.mv).ext j3
      refine ⟨w', wipeR ρ vs, S', d, j4, enw', j5, ?_⟩
      split at hr0
      · rename_i ρ1 S1' hg1
        rw [hg1]
        intro w2 H2 σ2 e2 s2 en2 k2 l2
        have hw : wipe σ2 vs = wipe σ vs := by
          rw [← wipe_wipe σ vs]
          exact wipe_eq l2 fun i hi => k2 i (fun z => hi (hsl i z))
        refine ⟨hw, w2, ρ1, S1', s2, en2, ?_⟩
        have ed2 : ExtD C w1 H1 w2 H2 := (ed.step j3).step e2
        intro w3 H3 b e3 s3 hb
        cases hb
        rw [if_pos rfl]
        refine ⟨w3, ρ1, S1', s3, en2.ext e3, ?_⟩
        split at hr0
        · rename_i y S2' hy'
          rw [hy']
          intro w4 H4 u e4 s4 r4
          refine ⟨w4, ρ1, S2', s4, (en2.ext e3).ext e4, ?_⟩
          split at hr0
          · rename_i z S3' hz'
            rw [hz']
            intro w5 H5 u2 e5 s5 r5
            have ed5 : ExtD C w1 H1 w5 H5 := (((ed2.step e3).step e4)).step e5
            have hC5 : C ∈ w5.hd := by rw [ed5.hd]; exact List.mem_cons_self
            have exx : Ext w' H' w5 H5 := (((j3.trans e2).trans e3).trans e4).trans e5
            have hx5 : H5 C = some (DctO X.w C es) := exx.fr C _ hx (s'.ap C hCin).2
            have ra5 := RpL.ext exx _ _ ra
            have ky5 : ∀ x ∈ es, x.1.depth ≤ 8 ∧ ∃ d, keyOf d = some x.1 ∧ Rp X.K X.mg w5 H5 d x.2.1 := fun x hx => ⟨(hky x hx).1, let ⟨d, q1, q2⟩ := (hky x hx).2; ⟨d, q1, Rp.ext exx _ _ q2⟩⟩
            have r4' := Rp.ext e5 _ _ r4
            split at hr0
            · rename_i k hk
              split at hr0
              · rename_i hc
                subst ek
                have pk := Mv.poke (H := H5) (o := DctO X.w C (es ++ [(k, u, u2)])) hC5
                refine ⟨es, k, dc_mk hx5 ky5 hnd, ky_of hk r4', hc.1, hc.2.1, fun hn => key_num hk r4 hn, hc.2.2.1, by have := hc.2.2.2; simpa using this, es.map (·.1) ++ [k], ds ++ [z], S3', w5, es ++ [(k, u, u2)], ed5.poke, s5.pokeN hC5 hne, upd_same, by rw [List.map_append]; rfl, fun q hq => ?_, ?_, ?_, _, hr0, he⟩
                · rcases List.mem_append.mp hq with hq | hq
                  · exact dct_mv pk ky5 q hq
                  · have : q = (k, u, u2) := by simpa using hq
                    subst this
                    exact ⟨hc.1, y, hk, Rp.mv pk _ _ r4'⟩
                · rw [List.nodup_append]
                  refine ⟨hnd, by simp, fun q hq r hr e => hc.2.2.1 ?_⟩
                  have : r = k := by simpa using hr
                  rw [← this, ← e]; exact hq
                · rw [List.map_append]
                  exact (RpL.mv pk _ _ ra5).append (RpL.one (Rp.mv pk _ _ r5))
              · exact (no_end hr0.symm he).elim
            · exact (no_end hr0.symm he).elim
          · exact (no_end hr0.symm he).elim
        · exact (no_end hr0.symm he).elim
      · exact (no_end hr0.symm he).elim
    · exact (no_end hr0.symm he).elim
theorem q_dc [Wo] (hW : Wo.ww = X.w) (hu : X.A.units + 200 < cLine) (hc : X.calm = true) (hN : X.N.Nodup) (hi : PI X tg iter (tI X W fi)) (ok : BlkOk X.N X.env.scope scope own) (hsl : ∀ i ∈ sl, i ∈ own.map (·.2))
    (hg : ∀ (s : Shared) (H : Hp) (C : Addr) (cl : List (Str × Addr)) (fp : List Addr), PG (X.blk s H scope (compEnvC scope cl C X.env) fp) tg (tG (X.blk s H scope (compEnvC scope cl C X.env) fp) sl g)) (ht : ∀ (s : Shared) (H : Hp) (C : Addr) (cl : List (Str × Addr)) (fp : List Addr), PTs (X.blk s H scope (compEnvC scope cl C X.env) fp) [] (tT (X.blk s H scope (compEnvC scope cl C X.env) fp) W0 fYes))
    (hk : ∀ (s : Shared) (H : Hp) (C : Addr) (cl : List (Str × Addr)) (fp : List Addr), PE (X.blk s H scope (compEnvC scope cl C X.env) fp) kx (tF (X.blk s H scope (compEnvC scope cl C X.env) fp) W0 fk)) (hv : ∀ (s : Shared) (H : Hp) (C : Addr) (cl : List (Str × Addr)) (fp : List Addr), PE (X.blk s H scope (compEnvC scope cl C X.env) fp) vx (tF (X.blk s H scope (compEnvC scope cl C X.env) fp) W0 fv))
    (hs : ∀ x, foldedSetIterable iter X.env x = pure x := by intro _; rfl) :
    PE X (.DictComp kx vx [⟨tg, iter, [], 0⟩] scope pos) (tF X W (fDc fi g fk fv (own.map (·.2)))) :=
  PE.wk (pe_dcN (g := tG X sl g) (tt := tT X W0 fYes) (tk := tF X W0 fk) (tv := tF X W0 fv) hu hc hN hi ok hg ht hk hv hs) fun σ H Q h => dc_core hW hsl h
end
/-- C(..), the cells that the making lays being kept -/
def mkR2 (c : Str) (F : FF) (ds : List D) (S1 : Store) : RE D := (F (.loc S1.length :: ds) (S1 ++ [.ob c [] []])).bnd fun r S2 => match r with
  | .non => (match S2[S1.length]? with
    | some (.ob c' fs' ds') => .ok (.ins c' fs' ds') (S2.set S1.length .dead)
    | _ => .no)
  | _ => .no
def fMk2 (c : Str) (F : FF) (fs : FA) : FE := fun ρ S => (fs ρ S).bnd (mkR2 c F)
section
variable {X : Cx} {W : WX} {e : Expr} {es : List Expr} {fs : FA} {pos p : Pos} {k : Nat}
theorem q_make2 [Wo] {c : Str} {F : FF} (C : CalM X.prog X.w X.K X.mg X.base k c "__init__" F) (M : MkC X.K X.mg c) (hr : RoomG (k + 1) X.A) (tk : Takes X W) (hg : Gl X c) (ha : PA X (e :: es) (tA X W fs)) (hdb : (c == ("__debug__" : Str)) = false := by decide)
    (he : starEach (e :: es) X.env = (false, eval e X.env) :: starEach es X.env := by rfl) (hpl : (backTo pos (starEach es X.env)).any (·.1) = false := by rfl) : PE X (.Call (.Name c p) (e :: es) [] pos) (tF X W (fMk2 c F fs)) := by
  obtain ⟨A1, a, fd, ps, hm, cl, me, Fn, bd, ar⟩ := C
  obtain ⟨A2, a2, hm2, mk⟩ := M
  rw [hm] at hm2; cases hm2
  have ea : a2 = a := by
    have z := mk.init.symm.trans me.at_
    simpa using z
  subst ea
  refine ⟨fun pins s σ H Q I ⟨w, ρ, S, s0, en, h⟩ => ?_⟩
  refine wpAny_Call_Name_kw (ld_glob I hg hm ?_ hdb)
  refine PySem.W.callWith_K (h₀ := X.base) I.ok.mod.kin mk.kp (thn (ha.run pos pins s σ H (fun vs H1 => ∃ w1 S1 ds, Sto X.K X.mg w1 S1 H1 ∧ RpL X.K X.mg w1 H1 ds vs ∧ End X.K X.mg (fun w H => Rp X.K X.mg w H) w1 H1 (mkR2 c F ds S1) Q (WE W σ)) I
    ⟨w, ρ, S, s0, en, (End.bind (R := fun w H => RpL X.K X.mg w H) h).imp (fun vs H1 ⟨w1, S1, ds, e1, s1, r1, h1⟩ => ⟨w1, S1, ds, s1, r1, h1⟩) (fun _ _ _ z => z)⟩) fun us s1 ⟨vs, H1, I1, r, w1, S1, ds, st1, r1, h1⟩ => ⟨I1.kIn, ?_⟩) he hpl
  -- the object
  have nx : H1 (s1.heap.objs.size + 1) = none := I1.hok.fresh (Nat.le_succ _)
  have nd : H1 s1.heap.objs.size = none := I1.hok.fresh (Nat.le_refl _)
  have I2 := Inv.made (C := A1) I1
  have stB := st1.beside (o := .own (s1.heap.objs.size + 1)) nd
  have nx2 : upd H1 s1.heap.objs.size (.own (s1.heap.objs.size + 1)) (s1.heap.objs.size + 1) = none := by
    rw [upd_ne (Nat.succ_ne_self _)]; exact nx
  have st2 := stB.obNew (C := A1) (dx := s1.heap.objs.size) (c := c) nx2 hm
  have ex1 : Ext w1 H1 w1 (upd H1 s1.heap.objs.size (.own (s1.heap.objs.size + 1))) := Ext.new nd
  have ex2 : Ext w1 (upd H1 s1.heap.objs.size (.own (s1.heap.objs.size + 1))) ⟨w1.φ ++ [some (s1.heap.objs.size + 1)], w1.hd⟩ (upd (upd H1 s1.heap.objs.size (.own (s1.heap.objs.size + 1))) (s1.heap.objs.size + 1) (.ins A1 s1.heap.objs.size [])) := Ext.cell nx2
  have h2 := End.on (ex1.trans ex2) h1
  have hsp : spF X.K X.mg ps.length F (.ref (s1.heap.objs.size + 1) :: vs) (upd (upd H1 s1.heap.objs.size (.own (s1.heap.objs.size + 1))) (s1.heap.objs.size + 1) (.ins A1 s1.heap.objs.size [])) (fun v H' => v = .non ∧ Q (.ref (s1.heap.objs.size + 1)) H') (WE W σ) := by
    refine ⟨_, _, .loc S1.length :: ds, st2, RpL.cons ?_ (RpL.ext (ex1.trans ex2) _ _ r1), ?_, ?_⟩
    · unfold Rp
      refine ⟨by show S1.length < (w1.φ ++ [some (s1.heap.objs.size + 1)]).length; rw [List.length_append, st1.len]; exact Nat.lt_succ_self _, fun a ha => ?_⟩
      have ha' : (w1.φ ++ [some (s1.heap.objs.size + 1)])[S1.length]? = some (some a) := ha
      rw [← st1.len, List.getElem?_append_right (Nat.le_refl _), Nat.sub_self] at ha'
      simp at ha'; rw [ha']
    · apply Classical.byContradiction
      intro hn
      have : mkR2 c F ds S1 = .no := by
        unfold mkR2
        rw [ar _ _ hn]; rfl
      rw [this] at h1
      exact h1
    · refine (End.bind (R := fun w H => Rp X.K X.mg w H) h2).imp ?_ (fun _ _ _ z => z)
      rintro v H' ⟨w3, S3, d3, e3, s3, r3, h3⟩
      cases d3 <;> try exact h3.elim
      unfold Rp at r3
      refine ⟨r3, ?_⟩
      simp only at h3
      split at h3
      case h_2 => exact h3.elim
      rename_i c' fs' ds' hz
      obtain ⟨b, C', dx, vs', hb1, hb2, hb3, hb4, hb5⟩ := s3.cell _ _ hz
      have hlt : S1.length < (w1.φ ++ [some (s1.heap.objs.size + 1)]).length := by rw [List.length_append, st1.len]; exact Nat.lt_succ_self _
      have hb6 := e3.ph _ _ hb1 hlt
      have hb7 : (w1.φ ++ [some (s1.heap.objs.size + 1)])[S1.length]? = some (some b) := hb6
      rw [← st1.len, List.getElem?_append_right (Nat.le_refl _), Nat.sub_self] at hb7
      simp at hb7
      rw [hb7]
      exact oz_at s3 hz hb1 h3
  have r2 : Vals (V.ref (s1.heap.objs.size + 1) :: vs) (Value.ref (s1.heap.objs.size + 1) :: us) := .cons rfl r
  have hl : (Value.ref (s1.heap.objs.size + 1) :: us).length = ps.length := by
    rw [← r2.length]; exact Fn.size _ _ _ _ hsp
  have hrm : RoomG k (X.A.under (.builtin "type.__call__" ⟨.ref A1 :: us, []⟩)) := ⟨hr.rm.make A1 us [], hr.gd⟩
  refine wpAny_call (make_map (f := a2) I1.kIn mk.makes mk.init (beq_iff_eq.mp mk.fn) (codeAny_mono (Fn.runs _ X.stack _ _ ⟨Value.ref (s1.heap.objs.size + 1) :: us, []⟩ (Value.ref (s1.heap.objs.size + 1) :: us) _ _ (WE W σ) hrm
    (I2.env0.make A1 us []) (binds0 (us := Value.ref (s1.heap.objs.size + 1) :: us) bd I2.kIn hl) r2 hsp) fun r s' hq' => ?_))
  cases r with
  | error e => exact passAt tk σ pins _ _ e s' I2 hq'
  | ok fl =>
    cases fl with
    | ret u =>
      obtain ⟨v, H', I3, rv, ev, q3⟩ := I2.after hq'
      subst ev
      exact ⟨rv, ⟨V.ref (s1.heap.objs.size + 1), H', I3, rfl, q3⟩⟩
    | next => exact False.elim hq'
    | brk => exact False.elim hq'
    | cont => exact False.elim hq'
end
end Kw
namespace Kw
open PySem PySem.Spec PySem.Calls PyProof.Rows L2
end Kw
namespace Kw
open PySem PySem.Spec PySem.Calls PyProof.Rows L2
section
variable {X : Cx} {W : WX} {pos : Pos}
def gRngC (x : D) (S : Store) : RE D := match x with
  | .int n => if 0 ≤ n ∧ n ≤ 16777216 then mkCel (((List.range n.toNat).map fun (i : Nat) => ((i : Nat) : Int)).map D.int) S else .no
  | _ => .no
theorem q_listRgC [Wo] {X : Cx} {W : WX} {e : Expr} {fe : FE} {p p' pos pos' : Pos} (hc : X.calm = true) (hg : Gl X "list") (hm : X.mg "list" = none) (hg' : Gl X "range") (hm' : X.mg "range" = none) (he : PE X e (tF X W fe))
    (na : starEach [.Call (.Name "range" p') [e] [] pos'] X.env = (false, eval (.Call (.Name "range" p') [e] [] pos') X.env) :: starEach [] X.env := by rfl) (na' : starEach [e] X.env = (false, eval e X.env) :: starEach [] X.env := by rfl) :
    PE X (.Call (.Name "list" p) [.Call (.Name "range" p') [e] [] pos'] [] pos) (tF X W (f1 gRngC fe)) :=
  PE.wk (pe_listRg hc hg hm (prg_1 hg' hm' he na') na) fun σ H Q ⟨w, ρ, S, s, en, h⟩ => by
    refine ⟨w, ρ, S, s, en, (End.bind (R := fun w H => Rp X.K X.mg w H) h).imp ?_ (fun _ _ _ z => z)⟩
    rintro v H1 ⟨w1, S1, d, e1, s1, r1, h1⟩
    unfold gRngC at h1
    split at h1
    · rename_i n
      split at h1
      · rename_i hn
        refine ⟨n, rp_int r1, RgOk.of_le (by omega) (by omega) (by omega) (by omega), fun q hq => ?_⟩
        rw [rgV_ints]
        exact (mkCel_at s1 (RpL.ints _) h1).2 q hq
      · exact h1.elim
    · exact h1.elim
end
end Kw
namespace Kz
open PySem PySem.Spec PyProof.Rows L2 Kw
def topS (i : Nat) : Stmt := PySem.Challenge.pw_kindswap_k55_terms_grown_at_the_top.main.body.getD i (.Pass ⟨0, 0, 0, 0⟩)
inductive Fn where
  | f_Reckoner___init__
  | f_Reckoner_all_of
  | f_Reckoner_held
  | f_Reckoner_told
  | f_Reckoner_worked
  | f_Told___init__
  | f_Told_handed
  | f_Made___init__
  | f_Made_handed
  | f_is_from
  | f_inner_of
  | f_is_kind
  | f_sure_kind
  | f_sure_sizes
  | f_power_up_to
  | f_number_up_to
  | f_sure_taken
  | f_lists_of
  | f_all_worths
  | f_worths
  | f_is_plain_worth
  | f_is_worth
  | f_is_shape
  | f_kind_of_given
  | f_kind_of_two
  | f_kind_in
  | f_sure_kind_in
  | f_done
  | f__law_well
  | f__law_draw
  | f__law_kind
  | f__law_ways
  | f__law_flat
  | f__law_kind_of
  | f__law_rows
  | f__law_all
  | f__law_handed
  | f__law_in
  | f__law_out
  | f__law_work
  | f__law_closed
  | f__law_renamed
  | f__law_count
  | f__law_cost
  | f__law_pick
  | f__law_sizes
  | f__law_put
  | f__law_other
  | f__law_topped
  | f__law_made
  | f_law
def methS (i j : Nat) : Stmt := match topS i with
  | .ClassDef _ _ _ body _ _ _ _ _ _ _ => body.getD j (.Pass ⟨0, 0, 0, 0⟩)
  | s => s
abbrev s_Reckoner___init__ : Stmt := methS 34 0
theorem sc_Reckoner___init__ : FnScope ["self", "sizes"] ["self", "sizes"] (defScope s_Reckoner___init__) := ⟨rfl, rfl, rfl, by decide +kernel, rfl, by decide +kernel, by decide +kernel⟩
abbrev s_Reckoner_all_of : Stmt := methS 34 1
theorem sc_Reckoner_all_of : FnScope ["self", "kind", "spot", "worth"] ["self", "kind"] (defScope s_Reckoner_all_of) := ⟨rfl, rfl, rfl, by decide +kernel, rfl, by decide +kernel, by decide +kernel⟩
abbrev s_Reckoner_held : Stmt := methS 34 2
theorem sc_Reckoner_held : FnScope ["self", "kind", "worth"] ["self", "kind", "worth"] (defScope s_Reckoner_held) := ⟨rfl, rfl, rfl, by decide +kernel, rfl, by decide +kernel, by decide +kernel⟩
abbrev s_Reckoner_told : Stmt := methS 34 3
theorem sc_Reckoner_told : FnScope ["self", "kind", "thing", "some", "worth", "one"] ["self", "kind", "thing"] (defScope s_Reckoner_told) := ⟨rfl, rfl, rfl, by decide +kernel, rfl, by decide +kernel, by decide +kernel⟩
abbrev s_Reckoner_worked : Stmt := methS 34 4
theorem sc_Reckoner_worked : FnScope ["self", "term", "things", "word", "one"] ["self", "term", "things"] (defScope s_Reckoner_worked) := ⟨rfl, rfl, rfl, by decide +kernel, rfl, by decide +kernel, by decide +kernel⟩
abbrev s_Told___init__ : Stmt := methS 35 0
theorem sc_Told___init__ : FnScope ["self", "reckoner", "kind", "worth"] ["self", "reckoner", "kind", "worth"] (defScope s_Told___init__) := ⟨rfl, rfl, rfl, by decide +kernel, rfl, by decide +kernel, by decide +kernel⟩
abbrev s_Told_handed : Stmt := methS 35 1
theorem sc_Told_handed : FnScope ["self", "thing", "one"] ["self", "thing"] (defScope s_Told_handed) := ⟨rfl, rfl, rfl, by decide +kernel, rfl, by decide +kernel, by decide +kernel⟩
abbrev s_Made___init__ : Stmt := methS 36 0
theorem sc_Made___init__ : FnScope ["self", "reckoner", "body", "things"] ["self", "reckoner", "body", "things"] (defScope s_Made___init__) := ⟨rfl, rfl, rfl, by decide +kernel, rfl, by decide +kernel, by decide +kernel⟩
abbrev s_Made_handed : Stmt := methS 36 1
theorem sc_Made_handed : FnScope ["self", "thing"] ["self", "thing"] (defScope s_Made_handed) := ⟨rfl, rfl, rfl, by decide +kernel, rfl, by decide +kernel, by decide +kernel⟩
abbrev s_is_from : Stmt := topS 10
theorem sc_is_from : FnScope ["thing", "low", "high"] ["thing", "low", "high"] (defScope s_is_from) := ⟨rfl, rfl, rfl, by decide +kernel, rfl, by decide +kernel, by decide +kernel⟩
abbrev s_inner_of : Stmt := topS 11
theorem sc_inner_of : FnScope ["thing"] ["thing"] (defScope s_inner_of) := ⟨rfl, rfl, rfl, by decide +kernel, rfl, by decide +kernel, by decide +kernel⟩
abbrev s_is_kind : Stmt := topS 12
theorem sc_is_kind : FnScope ["thing", "left", "inner"] ["thing"] (defScope s_is_kind) := ⟨rfl, rfl, rfl, by decide +kernel, rfl, by decide +kernel, by decide +kernel⟩
abbrev s_sure_kind : Stmt := topS 13
theorem sc_sure_kind : FnScope ["thing"] ["thing"] (defScope s_sure_kind) := ⟨rfl, rfl, rfl, by decide +kernel, rfl, by decide +kernel, by decide +kernel⟩
abbrev s_sure_sizes : Stmt := topS 18
theorem sc_sure_sizes : FnScope ["thing", "good", "size"] ["thing"] (defScope s_sure_sizes) := ⟨rfl, rfl, rfl, by decide +kernel, rfl, by decide +kernel, by decide +kernel⟩
abbrev s_power_up_to : Stmt := topS 19
theorem sc_power_up_to : FnScope ["base", "times", "found", "turn"] ["base", "times"] (defScope s_power_up_to) := ⟨rfl, rfl, rfl, by decide +kernel, rfl, by decide +kernel, by decide +kernel⟩
abbrev s_number_up_to : Stmt := topS 20
theorem sc_number_up_to : FnScope ["kind", "sizes", "one", "other"] ["kind", "sizes"] (defScope s_number_up_to) := ⟨rfl, rfl, rfl, by decide +kernel, rfl, by decide +kernel, by decide +kernel⟩
abbrev s_sure_taken : Stmt := topS 21
theorem sc_sure_taken : FnScope ["kind", "sizes"] ["kind", "sizes"] (defScope s_sure_taken) := ⟨rfl, rfl, rfl, by decide +kernel, rfl, by decide +kernel, by decide +kernel⟩
abbrev s_lists_of : Stmt := topS 22
theorem sc_lists_of : FnScope ["things", "many", "found", "place", "row", "thing"] ["things", "many"] (defScope s_lists_of) := ⟨rfl, rfl, rfl, by decide +kernel, rfl, by decide +kernel, by decide +kernel⟩
abbrev s_all_worths : Stmt := topS 23
theorem sc_all_worths : FnScope ["kind", "sizes", "others", "one", "other"] ["kind", "sizes"] (defScope s_all_worths) := ⟨rfl, rfl, rfl, by decide +kernel, rfl, by decide +kernel, by decide +kernel⟩
abbrev s_worths : Stmt := topS 24
theorem sc_worths : FnScope ["kind", "sizes"] ["kind", "sizes"] (defScope s_worths) := ⟨rfl, rfl, rfl, by decide +kernel, rfl, by decide +kernel, by decide +kernel⟩
abbrev s_is_plain_worth : Stmt := topS 25
theorem sc_is_plain_worth : FnScope ["kind", "sizes", "thing", "one"] ["kind", "sizes", "thing"] (defScope s_is_plain_worth) := ⟨rfl, rfl, rfl, by decide +kernel, rfl, by decide +kernel, by decide +kernel⟩
abbrev s_is_worth : Stmt := topS 26
theorem sc_is_worth : FnScope ["kind", "sizes", "thing"] ["kind", "sizes", "thing"] (defScope s_is_worth) := ⟨rfl, rfl, rfl, by decide +kernel, rfl, by decide +kernel, by decide +kernel⟩
abbrev s_is_shape : Stmt := topS 29
theorem sc_is_shape : FnScope ["thing"] ["thing"] (defScope s_is_shape) := ⟨rfl, rfl, rfl, by decide +kernel, rfl, by decide +kernel, by decide +kernel⟩
abbrev s_kind_of_given : Stmt := topS 30
theorem sc_kind_of_given : FnScope ["k", "given"] ["k", "given"] (defScope s_kind_of_given) := ⟨rfl, rfl, rfl, by decide +kernel, rfl, by decide +kernel, by decide +kernel⟩
abbrev s_kind_of_two : Stmt := topS 31
theorem sc_kind_of_two : FnScope ["word", "one", "other"] ["word", "one", "other"] (defScope s_kind_of_two) := ⟨rfl, rfl, rfl, by decide +kernel, rfl, by decide +kernel, by decide +kernel⟩
abbrev s_kind_in : Stmt := topS 32
theorem sc_kind_in : FnScope ["term", "given", "word", "one", "body"] ["term", "given"] (defScope s_kind_in) := ⟨rfl, rfl, rfl, by decide +kernel, rfl, by decide +kernel, by decide +kernel⟩
abbrev s_sure_kind_in : Stmt := topS 33
theorem sc_sure_kind_in : FnScope ["term", "given", "found"] ["term", "given"] (defScope s_sure_kind_in) := ⟨rfl, rfl, rfl, by decide +kernel, rfl, by decide +kernel, by decide +kernel⟩
abbrev s_done : Stmt := topS 37
theorem sc_done : FnScope ["term", "sizes", "worth", "kind", "reckoner"] ["term", "sizes", "worth"] (defScope s_done) := ⟨rfl, rfl, rfl, by decide +kernel, rfl, by decide +kernel, by decide +kernel⟩
abbrev s__law_well : Stmt := topS 39
theorem sc__law_well : FnScope ["_law_cell"] ["_law_cell"] (defScope s__law_well) := ⟨rfl, rfl, rfl, by decide +kernel, rfl, by decide +kernel, by decide +kernel⟩
abbrev s__law_draw : Stmt := topS 40
theorem sc__law_draw : FnScope ["_law_well_here", "_law_width", "_law_low", "_law_digit_told"] ["_law_well_here", "_law_width"] (defScope s__law_draw) := ⟨rfl, rfl, rfl, by decide +kernel, rfl, by decide +kernel, by decide +kernel⟩
abbrev s__law_kind : Stmt := topS 41
theorem sc__law_kind : FnScope ["_law_well_here", "_law_deep", "_law_way"] ["_law_well_here", "_law_deep"] (defScope s__law_kind) := ⟨rfl, rfl, rfl, by decide +kernel, rfl, by decide +kernel, by decide +kernel⟩
abbrev s__law_ways : Stmt := topS 42
theorem sc__law_ways : FnScope ["_law_kind_here", "_law_n", "_law_first", "_law_way"] ["_law_kind_here", "_law_n"] (defScope s__law_ways) := ⟨rfl, rfl, rfl, by decide +kernel, rfl, by decide +kernel, by decide +kernel⟩
abbrev s__law_flat : Stmt := topS 43
theorem sc__law_flat : FnScope ["_law_well_here", "_law_kind_here", "_law_given", "_law_fuel", "_law_ways_here", "_law_k", "_law_way", "_law_term", "_law_step", "_law_pair"] ["_law_well_here", "_law_kind_here", "_law_given", "_law_fuel"] (defScope s__law_flat) := ⟨rfl, rfl, rfl, by decide +kernel, rfl, by decide +kernel, by decide +kernel⟩
abbrev s__law_kind_of : Stmt := topS 44
theorem sc__law_kind_of : FnScope ["_law_term", "_law_given", "_law_one"] ["_law_term", "_law_given"] (defScope s__law_kind_of) := ⟨rfl, rfl, rfl, by decide +kernel, rfl, by decide +kernel, by decide +kernel⟩
abbrev s__law_rows : Stmt := topS 45
theorem sc__law_rows : FnScope ["_law_some", "_law_width", "_law_rows_here", "_law_k", "_law_longer", "_law_row", "_law_one"] ["_law_some", "_law_width"] (defScope s__law_rows) := ⟨rfl, rfl, rfl, by decide +kernel, rfl, by decide +kernel, by decide +kernel⟩
abbrev s__law_all : Stmt := topS 46
theorem sc__law_all : FnScope ["_law_kind_here", "_law_sizes_here", "_law_first", "_law_second", "_law_pairs", "_law_one", "_law_other_here"] ["_law_kind_here", "_law_sizes_here"] (defScope s__law_all) := ⟨rfl, rfl, rfl, by decide +kernel, rfl, by decide +kernel, by decide +kernel⟩
abbrev s__law_handed : Stmt := topS 47
theorem sc__law_handed : FnScope ["_law_one", "_law_thing", "_law_sizes_here", "_law_spot"] ["_law_one", "_law_thing", "_law_sizes_here"] (defScope s__law_handed) := ⟨rfl, rfl, rfl, by decide +kernel, rfl, by decide +kernel, by decide +kernel⟩
abbrev s__law_in : Stmt := topS 48
theorem sc__law_in : FnScope ["_law_kind_here", "_law_worth", "_law_sizes_here"] ["_law_kind_here", "_law_worth", "_law_sizes_here"] (defScope s__law_in) := ⟨rfl, rfl, rfl, by decide +kernel, rfl, by decide +kernel, by decide +kernel⟩
abbrev s__law_out : Stmt := topS 49
theorem sc__law_out : FnScope ["_law_kind_here", "_law_thing", "_law_sizes_here", "_law_some", "_law_worth", "_law_one"] ["_law_kind_here", "_law_thing", "_law_sizes_here"] (defScope s__law_out) := ⟨rfl, rfl, rfl, by decide +kernel, rfl, by decide +kernel, by decide +kernel⟩
abbrev s__law_work : Stmt := topS 50
theorem sc__law_work : FnScope ["_law_term", "_law_things", "_law_sizes_here", "_law_one"] ["_law_term", "_law_things", "_law_sizes_here"] (defScope s__law_work) := ⟨rfl, rfl, rfl, by decide +kernel, rfl, by decide +kernel, by decide +kernel⟩
abbrev s__law_closed : Stmt := topS 51
theorem sc__law_closed : FnScope ["_law_term", "_law_given", "_law_kind_here"] ["_law_term", "_law_given"] (defScope s__law_closed) := ⟨rfl, rfl, rfl, by decide +kernel, rfl, by decide +kernel, by decide +kernel⟩
abbrev s__law_renamed : Stmt := topS 52
theorem sc__law_renamed : FnScope ["_law_thing", "_law_pick_here", "_law_part"] ["_law_thing", "_law_pick_here"] (defScope s__law_renamed) := ⟨rfl, rfl, rfl, by decide +kernel, rfl, by decide +kernel, by decide +kernel⟩
abbrev s__law_count : Stmt := topS 53
theorem sc__law_count : FnScope ["_law_kind_here", "_law_sizes_here", "_law_one", "_law_other_here", "_law_told", "_law_k"] ["_law_kind_here", "_law_sizes_here"] (defScope s__law_count) := ⟨rfl, rfl, rfl, by decide +kernel, rfl, by decide +kernel, by decide +kernel⟩
abbrev s__law_cost : Stmt := topS 54
theorem sc__law_cost : FnScope ["_law_kind_here", "_law_sizes_here"] ["_law_kind_here", "_law_sizes_here"] (defScope s__law_cost) := ⟨rfl, rfl, rfl, by decide +kernel, rfl, by decide +kernel, by decide +kernel⟩
abbrev s__law_pick : Stmt := topS 55
theorem sc__law_pick : FnScope ["_law_well_here", "_law_left", "_law_k"] ["_law_well_here"] (defScope s__law_pick) := ⟨rfl, rfl, rfl, by decide +kernel, rfl, by decide +kernel, by decide +kernel⟩
abbrev s__law_sizes : Stmt := topS 56
theorem sc__law_sizes : FnScope ["_law_well_here", "_law_kind_here", "_law_pick_here", "_law_drawn", "_law_strange", "_law_sizes_here", "_law_most", "_law_k"] ["_law_well_here", "_law_kind_here", "_law_pick_here"] (defScope s__law_sizes) := ⟨rfl, rfl, rfl, by decide +kernel, rfl, by decide +kernel, by decide +kernel⟩
abbrev s__law_put : Stmt := topS 57
theorem sc__law_put : FnScope ["_law_term", "_law_by", "_law_part"] ["_law_term", "_law_by"] (defScope s__law_put) := ⟨rfl, rfl, rfl, by decide +kernel, rfl, by decide +kernel, by decide +kernel⟩
abbrev s__law_other : Stmt := topS 58
theorem sc__law_other : FnScope ["_law_well_here", "_law_pick_here", "_law_one", "_law_other_here", "_law_leave", "_law_first", "_law_kinds", "_law_terms", "_law_way"] ["_law_well_here", "_law_pick_here"] (defScope s__law_other) := ⟨rfl, rfl, rfl, by decide +kernel, rfl, by decide +kernel, by decide +kernel⟩
abbrev s__law_topped : Stmt := topS 59
theorem sc__law_topped : FnScope ["_law_well_here", "_law_term", "_law_kind_here", "_law_pick_here", "_law_sizes_here", "_law_other_here", "_law_beside", "_law_way"] ["_law_well_here", "_law_term", "_law_kind_here", "_law_pick_here", "_law_sizes_here"] (defScope s__law_topped) := ⟨rfl, rfl, rfl, by decide +kernel, rfl, by decide +kernel, by decide +kernel⟩
abbrev s__law_made : Stmt := topS 60
theorem sc__law_made : FnScope ["_law_well_here", "_law_pick_here", "_law_kind_here", "_law_given", "_law_flat_here"] ["_law_well_here"] (defScope s__law_made) := ⟨rfl, rfl, rfl, by decide +kernel, rfl, by decide +kernel, by decide +kernel⟩
abbrev s_law : Stmt := topS 61
theorem sc_law : FnScope ["_law_script", "_law_cell", "_law_well_here", "_law_pick_here", "_law_plain_term", "_law_kind_here", "_law_sizes_here", "_law_term", "_law_step", "_law_one", "_law_worth", "_law_due"] ["_law_script"] (defScope s_law) := ⟨rfl, rfl, rfl, by decide +kernel, rfl, by decide +kernel, by decide +kernel⟩
def kv_MARKS : List (Str × D) := [("both", D.str "*"), ("from", D.str ">")]
def kv_PARTS : List (Str × D) := [("given", D.int 2), ("make", D.int 3), ("do", D.int 3), ("both", D.int 3), ("first", D.int 2), ("second", D.int 2), ("unit", D.int 1)]
noncomputable def b_Reckoner___init__ (cl : Fn → FF) : FS :=
  (sSeq (sFl ["Reckoner"] "sizes" (fVar 0) (fVar 1))
  (sSeq (sFl ["Reckoner"] "lists" (fVar 0) fNewD)
  (sFl ["Reckoner"] "spots" (fVar 0) fNewD)))
noncomputable def b_Reckoner_all_of (cl : Fn → FF) : FS :=
  (sSeq (sIf (fB (f2 gDnot (fVar 1) (f1 (gFld ["Reckoner"] "lists") (fVar 0)))) (sSeq (sDput (f1 (gFld ["Reckoner"] "lists") (fVar 0)) (fVar 1) (fArg (cl .f_worths) (fCons (fVar 1) (fCons (f1 (gFld ["Reckoner"] "sizes") (fVar 0)) fNil))))
  (sDput (f1 (gFld ["Reckoner"] "spots") (fVar 0)) (fVar 1) (fDc (fiE (fCons (f2 gDget (f1 (gFld ["Reckoner"] "lists") (fVar 0)) (fVar 1)) fNil)) (gTu 2 (gsCons (gN 2) (gsCons (gN 3) gsNil))) (fVar 3) (fVar 2) [2, 3]))) sNil)
  (sRet (f2 gDget (f1 (gFld ["Reckoner"] "lists") (fVar 0)) (fVar 1))))
noncomputable def b_Reckoner_held (cl cl2 : Fn → FF) : FS :=
  (sSeq (sIf (fB (f2 gEq (f2 gIx (fVar 1) (fC (.int 0))) (fC (.str "both")))) (sRet (fArg mkTup (fCons (fMe [("Reckoner", cl .f_Reckoner_held)] "held" (fVar 0) (fCons (f2 gIx (fVar 1) (fC (.int 1))) (fCons (f2 gIx (fVar 2) (fC (.int 0))) fNil))) (fCons (fMe [("Reckoner", cl .f_Reckoner_held)] "held" (fVar 0) (fCons (f2 gIx (fVar 1) (fC (.int 2))) (fCons (f2 gIx (fVar 2) (fC (.int 1))) fNil))) fNil)))) sNil)
  (sSeq (sIf (fB (f2 gEq (f2 gIx (fVar 1) (fC (.int 0))) (fC (.str "from")))) (sRet (fMk "Told" (cl2 .f_Told___init__) (fCons (fVar 0) (fCons (fVar 1) (fCons (fVar 2) fNil))))) sNil)
  (sRet (fVar 2))))
noncomputable def b_Reckoner_told (cl : Fn → FF) : FS :=
  (sSeq (sIf (fB (f2 gEq (f2 gIx (fVar 1) (fC (.int 0))) (fC (.str "both")))) (sRet (fArg mkTup (fCons (fMe [("Reckoner", cl .f_Reckoner_told)] "told" (fVar 0) (fCons (f2 gIx (fVar 1) (fC (.int 1))) (fCons (f2 gIx (fVar 2) (fC (.int 0))) fNil))) (fCons (fMe [("Reckoner", cl .f_Reckoner_told)] "told" (fVar 0) (fCons (f2 gIx (fVar 1) (fC (.int 2))) (fCons (f2 gIx (fVar 2) (fC (.int 1))) fNil))) fNil)))) sNil)
  (sSeq (sIf (fB (f2 gEq (f2 gIx (fVar 1) (fC (.int 0))) (fC (.str "from")))) (sSeq (sSet 3 (fLc false (fiL (fMe [("Reckoner", cl .f_Reckoner_all_of)] "all_of" (fVar 0) (fCons (f2 gIx (fVar 1) (fC (.int 1))) fNil))) (gN 4) fYes (fMe [("Told", cl .f_Told_handed), ("Made", cl .f_Made_handed)] "handed" (fVar 2) (fCons (fMe [("Reckoner", cl .f_Reckoner_held)] "held" (fVar 0) (fCons (f2 gIx (fVar 1) (fC (.int 1))) (fCons (fVar 4) fNil))) fNil)) [4]))
  (sRet (fArg gTuple (fCons (fLc false (fiL (fVar 3)) (gN 5) fYes (fMe [("Reckoner", cl .f_Reckoner_told)] "told" (fVar 0) (fCons (f2 gIx (fVar 1) (fC (.int 2))) (fCons (fVar 5) fNil))) [5]) fNil)))) sNil)
  (sRet (fVar 2))))
noncomputable def b_Reckoner_worked (cl cl2 : Fn → FF) : FS :=
  (sSeq (sSet 3 (f2 gIx (fVar 1) (fC (.int 0))))
  (sSeq (sIf (fB (f2 gEq (fVar 3) (fC (.str "given")))) (sRet (f2 gIx (fVar 2) (f2 gIx (fVar 1) (fC (.int 1))))) sNil)
  (sSeq (sIf (fB (f2 gEq (fVar 3) (fC (.str "unit")))) (sRet (fArg mkTup fNil)) sNil)
  (sSeq (sIf (fB (f2 gEq (fVar 3) (fC (.str "make")))) (sRet (fMk "Made" (cl2 .f_Made___init__) (fCons (fVar 0) (fCons (f2 gIx (fVar 1) (fC (.int 2))) (fCons (fVar 2) fNil))))) sNil)
  (sSeq (sSet 4 (fMe [("Reckoner", cl .f_Reckoner_worked)] "worked" (fVar 0) (fCons (f2 gIx (fVar 1) (fC (.int 1))) (fCons (fVar 2) fNil))))
  (sSeq (sIf (fB (f2 gEq (fVar 3) (fC (.str "do")))) (sRet (fMe [("Told", cl .f_Told_handed), ("Made", cl .f_Made_handed)] "handed" (fVar 4) (fCons (fMe [("Reckoner", cl .f_Reckoner_worked)] "worked" (fVar 0) (fCons (f2 gIx (fVar 1) (fC (.int 2))) (fCons (fVar 2) fNil))) fNil))) sNil)
  (sSeq (sIf (fB (f2 gEq (fVar 3) (fC (.str "both")))) (sRet (fArg mkTup (fCons (fVar 4) (fCons (fMe [("Reckoner", cl .f_Reckoner_worked)] "worked" (fVar 0) (fCons (f2 gIx (fVar 1) (fC (.int 2))) (fCons (fVar 2) fNil))) fNil)))) sNil)
  (sRet (f2 gIx (fVar 4) (fArg gInt (fCons (f2 gEq (fVar 3) (fC (.str "second"))) fNil)))))))))))
noncomputable def b_Told___init__ (cl : Fn → FF) : FS :=
  (sSeq (sFl ["Told", "Made"] "reckoner" (fVar 0) (fVar 1))
  (sSeq (sFl ["Told"] "kind" (fVar 0) (fVar 2))
  (sFl ["Told"] "worth" (fVar 0) (fVar 3))))
noncomputable def b_Told_handed (cl : Fn → FF) : FS :=
  (sSeq (sSet 2 (fMe [("Reckoner", cl .f_Reckoner_told)] "told" (f1 (gFld ["Told", "Made"] "reckoner") (fVar 0)) (fCons (f2 gIx (f1 (gFld ["Told"] "kind") (fVar 0)) (fC (.int 1))) (fCons (fVar 1) fNil))))
  (sSeq (sExp (fMe [("Reckoner", cl .f_Reckoner_all_of)] "all_of" (f1 (gFld ["Told", "Made"] "reckoner") (fVar 0)) (fCons (f2 gIx (f1 (gFld ["Told"] "kind") (fVar 0)) (fC (.int 1))) fNil)))
  (sRet (fMe [("Reckoner", cl .f_Reckoner_held)] "held" (f1 (gFld ["Told", "Made"] "reckoner") (fVar 0)) (fCons (f2 gIx (f1 (gFld ["Told"] "kind") (fVar 0)) (fC (.int 2))) (fCons (f2 gIx (f1 (gFld ["Told"] "worth") (fVar 0)) (f2 gDget (f2 gDget (f1 (gFld ["Reckoner"] "spots") (f1 (gFld ["Told", "Made"] "reckoner") (fVar 0))) (f2 gIx (f1 (gFld ["Told"] "kind") (fVar 0)) (fC (.int 1)))) (fVar 2))) fNil))))))
noncomputable def b_Made___init__ (cl : Fn → FF) : FS :=
  (sSeq (sFl ["Told", "Made"] "reckoner" (fVar 0) (fVar 1))
  (sSeq (sFl ["Made"] "body" (fVar 0) (fVar 2))
  (sFl ["Made"] "things" (fVar 0) (fVar 3))))
noncomputable def b_Made_handed (cl : Fn → FF) : FS :=
  (sRet (fMe [("Reckoner", cl .f_Reckoner_worked)] "worked" (f1 (gFld ["Told", "Made"] "reckoner") (fVar 0)) (fCons (f1 (gFld ["Made"] "body") (fVar 0)) (fCons (f2 (gAdd false) (f1 (gFld ["Made"] "things") (fVar 0)) (fArg mkLst (fCons (fVar 1) fNil))) fNil))))
noncomputable def b_is_from (cl : Fn → FF) : FS :=
  (sRet (fAndV (fIsi "int" (fVar 0)) (fAndV (fNotV (fIsi "bool" (fVar 0))) (fChain (gCmp fun i j => decide (i ≤ j)) (gCmp fun i j => decide (i ≤ j)) (fVar 1) (fVar 0) (fVar 2)))))
noncomputable def b_inner_of (cl : Fn → FF) : FS :=
  (sSeq (sIf (fOr (fNot (fTru (fIsi "tuple" (fVar 0)))) (fOr (fB (f2 gEq (fArg gLen (fCons (fVar 0) fNil)) (fC (.int 0)))) (fNot (fTru (fIsi "str" (f2 gIx (fVar 0) (fC (.int 0)))))))) (sRet (fC .non)) sNil)
  (sSeq (sIf (fB (f2 gEq (f2 gIx (fVar 0) (fC (.int 0))) (fC (.str "base")))) (sRet (fIf (fAnd (fB (f2 gEq (fArg gLen (fCons (fVar 0) fNil)) (fC (.int 2)))) (fTru (fArg (cl .f_is_from) (fCons (f2 gIx (fVar 0) (fC (.int 1))) (fCons (fC (.int 0)) (fCons (f2 gSub (fArg gLen (fCons (fC (.str "abcdefgh")) fNil)) (fC (.int 1))) fNil)))))) (fArg mkLst fNil) (fC .non))) sNil)
  (sSeq (sIf (fB (f2 gEq (f2 gIx (fVar 0) (fC (.int 0))) (fC (.str "unit")))) (sRet (fIf (fB (f2 gEq (fArg gLen (fCons (fVar 0) fNil)) (fC (.int 1)))) (fArg mkLst fNil) (fC .non))) sNil)
  (sRet (fIf (fAnd (fB (f2 (gInG false "MARKS" kv_MARKS) (f2 gIx (fVar 0) (fC (.int 0))) (fC (.glo "MARKS")))) (fB (f2 gEq (fArg gLen (fCons (fVar 0) fNil)) (fC (.int 3))))) (fArg (gList false) (fCons (fSl (gSl false) (fVar 0) (fSome (fC (.int 1))) fNone) fNil)) (fC .non))))))
noncomputable def l_is_kind_0 (cl : Fn → FF) : FS :=
  (sSeq (sSet 2 (fArg (cl .f_inner_of) (fCons (fMth gPop0 (fVar 1) fNil) fNil)))
  (sSeq (sIf (fB (f2 (gIs false) (fVar 2) (fC .non))) (sRet (fC (.bl false))) sNil)
  (sExp (fMth gExtend (fVar 1) (fCons (fVar 2) fNil)))))
noncomputable def b_is_kind (cl : Fn → FF) : FS :=
  (sSeq (sSet 1 (fArg mkCel (fCons (fVar 0) fNil)))
  (sSeq (sWhile (fB (f2 gNe (fVar 1) (fArg mkLst fNil))) (l_is_kind_0 cl))
  (sRet (fC (.bl true)))))
noncomputable def b_sure_kind (cl : Fn → FF) : FS :=
  (sIf (fNot (fTru (fArg (cl .f_is_kind) (fCons (fVar 0) fNil)))) (sRaise "NoKind") sNil)
noncomputable def b_sure_sizes (cl : Fn → FF) : FS :=
  (sSeq (sSet 1 (fAndV (fIsi "list" (fVar 0)) (f2 gEq (fArg gLen (fCons (fVar 0) fNil)) (fC (.int 8)))))
  (sIf (fOr (fNot (fTru (fVar 1))) (fNot (fTru (fArg gAll (fCons (fLc false (fiL (fVar 0)) (gN 2) fYes (fArg (cl .f_is_from) (fCons (fVar 2) (fCons (fC (.int 1)) (fCons (fC (.int 999)) fNil)))) [2]) fNil))))) (sRaise "NoSizes") sNil))
noncomputable def l_power_up_to_0 (cl : Fn → FF) : FS :=
  (sSeq (sSet 2 (f2 (gMul false) (fVar 2) (fVar 0)))
  (sIf (fB (f2 (gCmp fun i j => decide (j < i)) (fVar 2) (fC (.int 5000)))) (sRet (f2 (gAdd false) (fC (.int 5000)) (fC (.int 1)))) sNil))
noncomputable def b_power_up_to (cl : Fn → FF) : FS :=
  (sSeq (sIf (fB (f2 gEq (fVar 0) (fC (.int 1)))) (sRet (fC (.int 1))) sNil)
  (sSeq (sSet 2 (fC (.int 1)))
  (sSeq (sFor (fiR1 (fCons (fVar 1) fNil)) (gN 3) (l_power_up_to_0 cl))
  (sRet (fVar 2)))))
noncomputable def b_number_up_to (cl : Fn → FF) : FS :=
  (sSeq (sIf (fB (f2 gEq (f2 gIx (fVar 0) (fC (.int 0))) (fC (.str "base")))) (sRet (f2 gIx (fVar 1) (f2 gIx (fVar 0) (fC (.int 1))))) sNil)
  (sSeq (sIf (fB (f2 gEq (f2 gIx (fVar 0) (fC (.int 0))) (fC (.str "unit")))) (sRet (fC (.int 1))) sNil)
  (sSeq (sSet 2 (fArg (cl .f_number_up_to) (fCons (f2 gIx (fVar 0) (fC (.int 1))) (fCons (fVar 1) fNil))))
  (sSeq (sSet 3 (fArg (cl .f_number_up_to) (fCons (f2 gIx (fVar 0) (fC (.int 2))) (fCons (fVar 1) fNil))))
  (sSeq (sIf (fB (f2 gEq (f2 gIx (fVar 0) (fC (.int 0))) (fC (.str "both")))) (sRet (fArg gMin (fCons (f2 (gMul false) (fVar 2) (fVar 3)) (fCons (f2 (gAdd false) (fC (.int 5000)) (fC (.int 1))) fNil)))) sNil)
  (sRet (fArg (cl .f_power_up_to) (fCons (fVar 3) (fCons (fVar 2) fNil)))))))))
noncomputable def b_sure_taken (cl : Fn → FF) : FS :=
  (sIf (fB (f2 (gIn false) (f2 gIx (fVar 0) (fC (.int 0))) (fArg mkTup (fCons (fC (.str "both")) (fCons (fC (.str "from")) fNil))))) (sSeq (sIf (fAnd (fB (f2 gEq (f2 gIx (fVar 0) (fC (.int 0))) (fC (.str "from")))) (fB (f2 (gCmp fun i j => decide (j < i)) (fArg (cl .f_number_up_to) (fCons (f2 gIx (fVar 0) (fC (.int 1))) (fCons (fVar 1) fNil))) (fC (.int 5000))))) (sRaise "TooMany") sNil)
  (sSeq (sExp (fArg (cl .f_sure_taken) (fCons (f2 gIx (fVar 0) (fC (.int 1))) (fCons (fVar 1) fNil))))
  (sExp (fArg (cl .f_sure_taken) (fCons (f2 gIx (fVar 0) (fC (.int 2))) (fCons (fVar 1) fNil)))))) sNil)
noncomputable def l_lists_of_0 (cl : Fn → FF) : FS :=
  (sSet 2 (fLc2 (fiL (fVar 2)) (gN 4) (fiL (fVar 0)) (gN 5) (f2 (gAdd false) (fVar 4) (fArg mkTup (fCons (fVar 5) fNil))) [4, 5] [5]))
noncomputable def b_lists_of (cl : Fn → FF) : FS :=
  (sSeq (sSet 2 (fArg mkLst (fCons (fArg mkTup fNil) fNil)))
  (sSeq (sFor (fiR1 (fCons (fVar 1) fNil)) (gN 3) (l_lists_of_0 cl))
  (sRet (fVar 2))))
noncomputable def b_all_worths (cl : Fn → FF) : FS :=
  (sSeq (sIf (fB (f2 gEq (f2 gIx (fVar 0) (fC (.int 0))) (fC (.str "base")))) (sRet (f1 gRng (f2 gIx (fVar 1) (f2 gIx (fVar 0) (fC (.int 1)))))) sNil)
  (sSeq (sIf (fB (f2 gEq (f2 gIx (fVar 0) (fC (.int 0))) (fC (.str "unit")))) (sRet (fArg mkLst (fCons (fArg mkTup fNil) fNil))) sNil)
  (sSeq (sSet 2 (fArg (cl .f_all_worths) (fCons (f2 gIx (fVar 0) (fC (.int 2))) (fCons (fVar 1) fNil))))
  (sSeq (sIf (fB (f2 gEq (f2 gIx (fVar 0) (fC (.int 0))) (fC (.str "from")))) (sRet (fArg (cl .f_lists_of) (fCons (fVar 2) (fCons (fArg (cl .f_number_up_to) (fCons (f2 gIx (fVar 0) (fC (.int 1))) (fCons (fVar 1) fNil))) fNil)))) sNil)
  (sRet (fLc2 (fiL (fArg (cl .f_all_worths) (fCons (f2 gIx (fVar 0) (fC (.int 1))) (fCons (fVar 1) fNil)))) (gN 3) (fiL (fVar 2)) (gN 4) (fArg mkTup (fCons (fVar 3) (fCons (fVar 4) fNil))) [3, 4] [4]))))))
noncomputable def b_worths (cl : Fn → FF) : FS :=
  (sSeq (sExp (fArg (cl .f_sure_kind) (fCons (fVar 0) fNil)))
  (sSeq (sExp (fArg (cl .f_sure_sizes) (fCons (fVar 1) fNil)))
  (sSeq (sExp (fArg (cl .f_sure_taken) (fCons (fVar 0) (fCons (fVar 1) fNil))))
  (sSeq (sIf (fB (f2 (gCmp fun i j => decide (j < i)) (fArg (cl .f_number_up_to) (fCons (fVar 0) (fCons (fVar 1) fNil))) (fC (.int 5000)))) (sRaise "TooMany") sNil)
  (sRet (fArg (cl .f_all_worths) (fCons (fVar 0) (fCons (fVar 1) fNil))))))))
noncomputable def b_is_plain_worth (cl : Fn → FF) : FS :=
  (sSeq (sIf (fB (f2 gEq (f2 gIx (fVar 0) (fC (.int 0))) (fC (.str "base")))) (sRet (fArg (cl .f_is_from) (fCons (fVar 2) (fCons (fC (.int 0)) (fCons (f2 gSub (f2 gIx (fVar 1) (f2 gIx (fVar 0) (fC (.int 1)))) (fC (.int 1))) fNil))))) sNil)
  (sSeq (sIf (fNot (fTru (fIsi "tuple" (fVar 2)))) (sRet (fC (.bl false))) sNil)
  (sSeq (sIf (fB (f2 gEq (f2 gIx (fVar 0) (fC (.int 0))) (fC (.str "unit")))) (sRet (f2 gEq (fVar 2) (fArg mkTup fNil))) sNil)
  (sSeq (sIf (fB (f2 gEq (f2 gIx (fVar 0) (fC (.int 0))) (fC (.str "from")))) (sSeq (sIf (fB (f2 gNe (fArg gLen (fCons (fVar 2) fNil)) (fArg (cl .f_number_up_to) (fCons (f2 gIx (fVar 0) (fC (.int 1))) (fCons (fVar 1) fNil))))) (sRet (fC (.bl false))) sNil)
  (sRet (fArg gAll (fCons (fLc false (fiT (fVar 2)) (gN 3) fYes (fArg (cl .f_is_plain_worth) (fCons (f2 gIx (fVar 0) (fC (.int 2))) (fCons (fVar 1) (fCons (fVar 3) fNil)))) [3]) fNil)))) sNil)
  (sSeq (sIf (fB (f2 gNe (fArg gLen (fCons (fVar 2) fNil)) (fC (.int 2)))) (sRet (fC (.bl false))) sNil)
  (sRet (fAndV (fArg (cl .f_is_plain_worth) (fCons (f2 gIx (fVar 0) (fC (.int 1))) (fCons (fVar 1) (fCons (f2 gIx (fVar 2) (fC (.int 0))) fNil)))) (fArg (cl .f_is_plain_worth) (fCons (f2 gIx (fVar 0) (fC (.int 2))) (fCons (fVar 1) (fCons (f2 gIx (fVar 2) (fC (.int 1))) fNil)))))))))))
noncomputable def b_is_worth (cl : Fn → FF) : FS :=
  (sSeq (sExp (fArg (cl .f_sure_kind) (fCons (fVar 0) fNil)))
  (sSeq (sExp (fArg (cl .f_sure_sizes) (fCons (fVar 1) fNil)))
  (sSeq (sExp (fArg (cl .f_sure_taken) (fCons (fVar 0) (fCons (fVar 1) fNil))))
  (sRet (fArg (cl .f_is_plain_worth) (fCons (fVar 0) (fCons (fVar 1) (fCons (fVar 2) fNil))))))))
noncomputable def b_is_shape (cl : Fn → FF) : FS :=
  (sSeq (sIf (fOr (fNot (fTru (fIsi "tuple" (fVar 0)))) (fOr (fB (f2 gEq (fArg gLen (fCons (fVar 0) fNil)) (fC (.int 0)))) (fNot (fTru (fIsi "str" (f2 gIx (fVar 0) (fC (.int 0)))))))) (sRet (fC (.bl false))) sNil)
  (sRet (f2 gEq (fGetG "PARTS" kv_PARTS (fC (.glo "PARTS")) (f2 gIx (fVar 0) (fC (.int 0)))) (fArg gLen (fCons (fVar 0) fNil)))))
noncomputable def b_kind_of_given (cl : Fn → FF) : FS :=
  (sSeq (sIf (fOr (fNot (fTru (fIsi "int" (fVar 0)))) (fOr (fTru (fIsi "bool" (fVar 0))) (fNot (fB (fChain (gCmp fun i j => decide (i ≤ j)) (gCmp fun i j => decide (i < j)) (fC (.int 0)) (fVar 0) (fArg gLen (fCons (fVar 1) fNil))))))) (sRet (fC .non)) sNil)
  (sRet (f2 gIx (fVar 1) (fVar 0))))
noncomputable def b_kind_of_two (cl : Fn → FF) : FS :=
  (sSeq (sIf (fOr (fB (f2 (gIs false) (fVar 1) (fC .non))) (fB (f2 (gIs false) (fVar 2) (fC .non)))) (sRet (fC .non)) sNil)
  (sSeq (sIf (fB (f2 gEq (fVar 0) (fC (.str "both")))) (sRet (fArg mkTup (fCons (fC (.str "both")) (fCons (fVar 1) (fCons (fVar 2) fNil))))) sNil)
  (sRet (fIf (fAnd (fB (f2 gEq (f2 gIx (fVar 1) (fC (.int 0))) (fC (.str "from")))) (fB (f2 gEq (f2 gIx (fVar 1) (fC (.int 1))) (fVar 2)))) (f2 gIx (fVar 1) (fC (.int 2))) (fC .non)))))
noncomputable def b_kind_in (cl : Fn → FF) : FS :=
  (sSeq (sIf (fNot (fTru (fArg (cl .f_is_shape) (fCons (fVar 0) fNil)))) (sRet (fC .non)) sNil)
  (sSeq (sSet 2 (f2 gIx (fVar 0) (fC (.int 0))))
  (sSeq (sIf (fB (f2 gEq (fVar 2) (fC (.str "unit")))) (sRet (fArg mkTup (fCons (fC (.str "unit")) fNil))) sNil)
  (sSeq (sIf (fB (f2 gEq (fVar 2) (fC (.str "given")))) (sRet (fArg (cl .f_kind_of_given) (fCons (f2 gIx (fVar 0) (fC (.int 1))) (fCons (fVar 1) fNil)))) sNil)
  (sSeq (sIf (fB (f2 gEq (fVar 2) (fC (.str "make")))) (sSeq (sSet 4 (fIf (fTru (fArg (cl .f_is_kind) (fCons (f2 gIx (fVar 0) (fC (.int 1))) fNil))) (fArg (cl .f_kind_in) (fCons (f2 gIx (fVar 0) (fC (.int 2))) (fCons (f2 (gAdd false) (fVar 1) (fArg mkLst (fCons (f2 gIx (fVar 0) (fC (.int 1))) fNil))) fNil))) (fC .non)))
  (sRet (fIf (fB (f2 (gIs false) (fVar 4) (fC .non))) (fC .non) (fArg mkTup (fCons (fC (.str "from")) (fCons (f2 gIx (fVar 0) (fC (.int 1))) (fCons (fVar 4) fNil))))))) sNil)
  (sSeq (sSet 3 (fArg (cl .f_kind_in) (fCons (f2 gIx (fVar 0) (fC (.int 1))) (fCons (fVar 1) fNil))))
  (sSeq (sIf (fB (f2 (gIn false) (fVar 2) (fArg mkTup (fCons (fC (.str "do")) (fCons (fC (.str "both")) fNil))))) (sRet (fArg (cl .f_kind_of_two) (fCons (fVar 2) (fCons (fVar 3) (fCons (fArg (cl .f_kind_in) (fCons (f2 gIx (fVar 0) (fC (.int 2))) (fCons (fVar 1) fNil))) fNil))))) sNil)
  (sSeq (sIf (fOr (fB (f2 (gIs false) (fVar 3) (fC .non))) (fB (f2 gNe (f2 gIx (fVar 3) (fC (.int 0))) (fC (.str "both"))))) (sRet (fC .non)) sNil)
  (sRet (fIf (fB (f2 gEq (fVar 2) (fC (.str "first")))) (f2 gIx (fVar 3) (fC (.int 1))) (f2 gIx (fVar 3) (fC (.int 2)))))))))))))
noncomputable def b_sure_kind_in (cl : Fn → FF) : FS :=
  (sSeq (sSet 2 (fArg (cl .f_kind_in) (fCons (fVar 0) (fCons (fVar 1) fNil))))
  (sSeq (sIf (fB (f2 (gIs false) (fVar 2) (fC .non))) (sRaise "NoTerm") sNil)
  (sRet (fVar 2))))
noncomputable def b_done (cl cl2 : Fn → FF) : FS :=
  (sSeq (sSet 3 (fArg (cl .f_sure_kind_in) (fCons (fVar 0) (fCons (fArg mkLst fNil) fNil))))
  (sSeq (sIf (fB (f2 gNe (f2 gIx (fVar 3) (fC (.int 0))) (fC (.str "from")))) (sRaise "NoTerm") sNil)
  (sSeq (sExp (fArg (cl .f_sure_sizes) (fCons (fVar 1) fNil)))
  (sSeq (sExp (fArg (cl .f_sure_taken) (fCons (f2 gIx (fVar 3) (fC (.int 1))) (fCons (fVar 1) fNil))))
  (sSeq (sExp (fArg (cl .f_sure_taken) (fCons (f2 gIx (fVar 3) (fC (.int 2))) (fCons (fVar 1) fNil))))
  (sSeq (sIf (fNot (fTru (fArg (cl .f_is_worth) (fCons (f2 gIx (fVar 3) (fC (.int 1))) (fCons (fVar 1) (fCons (fVar 2) fNil)))))) (sRaise "NoWorth") sNil)
  (sSeq (sSet 4 (fMk2 "Reckoner" (cl2 .f_Reckoner___init__) (fCons (fVar 1) fNil)))
  (sRet (fMe [("Reckoner", cl .f_Reckoner_told)] "told" (fVar 4) (fCons (f2 gIx (fVar 3) (fC (.int 2))) (fCons (fMe [("Told", cl .f_Told_handed), ("Made", cl .f_Made_handed)] "handed" (fMe [("Reckoner", cl .f_Reckoner_worked)] "worked" (fVar 4) (fCons (fVar 0) (fCons (fArg mkLst fNil) fNil))) (fCons (fMe [("Reckoner", cl .f_Reckoner_held)] "held" (fVar 4) (fCons (f2 gIx (fVar 3) (fC (.int 1))) (fCons (fVar 2) fNil))) fNil)) fNil)))))))))))
noncomputable def b__law_well (cl : Fn → FF) : FS :=
  (sRet (fArg mkCel (fCons (f2 (gMul false) (fVar 0) (fArg gInt (fCons (f2 (gCmp fun i j => decide (j ≤ i)) (fVar 0) (f2 gPow (fC (.int 10)) (fC (.int 18)))) fNil))) (fCons (fVar 0) (fCons (fC (.int 0)) fNil)))))
noncomputable def b__law_draw (cl : Fn → FF) : FS :=
  (sSeq (sIf (fB (f2 (gCmp fun i j => decide (j < i)) (f2 gIx (fVar 0) (fC (.int 0))) (fC (.int 0)))) (sSeq (sSet 3 (f2 gMod (f2 gIx (fVar 0) (fC (.int 0))) (fVar 1)))
  (sSeq (sAsg (f2 gDiv (f2 gIx (fVar 0) (fC (.int 0))) (fVar 1)) (gSb (fVar 0) (fC (.int 0))))
  (sRet (fVar 3)))) sNil)
  (sSeq (sAsg (f2 (gAdd false) (f2 gIx (fVar 0) (fC (.int 2))) (fC (.int 1))) (gSb (fVar 0) (fC (.int 2))))
  (sSeq (sSet 2 (f2 (gAdd false) (f2 gMod (f2 gIx (fVar 0) (fC (.int 1))) (fC (.int 2147483629))) (f2 (gMul false) (f2 gDiv (f2 gIx (fVar 0) (fC (.int 1))) (fC (.int 2147483629))) (fC (.int 30013)))))
  (sSeq (sSet 2 (f2 gMod (f2 (gMul false) (f2 (gAdd false) (f2 (gAdd false) (fVar 2) (f2 (gMul false) (fC (.int 69623)) (f2 gIx (fVar 0) (fC (.int 2))))) (fC (.int 1))) (fC (.int 48271))) (fC (.int 2147483647))))
  (sSeq (sSet 2 (f2 gMod (f2 (gMul false) (fVar 2) (f2 (gAdd false) (f2 (gAdd false) (f2 gDiv (fVar 2) (fC (.int 1013))) (fC (.int 69621))) (f2 gIx (fVar 0) (fC (.int 2))))) (fC (.int 2147483629))))
  (sRet (f2 gMod (f2 gMod (f2 (gMul false) (fVar 2) (f2 (gAdd false) (f2 gDiv (fVar 2) (fC (.int 2011))) (fC (.int 40692)))) (fC (.int 2147483399))) (fVar 1))))))))
noncomputable def b__law_kind (cl : Fn → FF) : FS :=
  (sSeq (sSet 2 (fArg (cl .f__law_draw) (fCons (fVar 0) (fCons (fC (.int 7)) fNil))))
  (sSeq (sIf (fOr (fB (f2 gEq (fVar 1) (fC (.int 0)))) (fB (f2 (gCmp fun i j => decide (i < j)) (fVar 2) (fC (.int 2))))) (sRet (fArg mkTup (fCons (fC (.str "base")) (fCons (fArg (cl .f__law_draw) (fCons (fVar 0) (fCons (fC (.int 3)) fNil))) fNil)))) sNil)
  (sSeq (sIf (fB (f2 gEq (fVar 2) (fC (.int 2)))) (sRet (fArg mkTup (fCons (fC (.str "unit")) fNil))) sNil)
  (sSeq (sIf (fB (f2 (gCmp fun i j => decide (i < j)) (fVar 2) (fC (.int 5)))) (sRet (fArg mkTup (fCons (fC (.str "both")) (fCons (fArg (cl .f__law_kind) (fCons (fVar 0) (fCons (f2 gSub (fVar 1) (fC (.int 1))) fNil))) (fCons (fArg (cl .f__law_kind) (fCons (fVar 0) (fCons (f2 gSub (fVar 1) (fC (.int 1))) fNil))) fNil))))) sNil)
  (sRet (fArg mkTup (fCons (fC (.str "from")) (fCons (fArg (cl .f__law_kind) (fCons (fVar 0) (fCons (f2 gSub (fVar 1) (fC (.int 1))) fNil))) (fCons (fArg (cl .f__law_kind) (fCons (fVar 0) (fCons (f2 gSub (fVar 1) (fC (.int 1))) fNil))) fNil)))))))))
noncomputable def b__law_ways (cl : Fn → FF) : FS :=
  (sSeq (sIf (fB (f2 gEq (f2 gIx (fVar 0) (fC (.int 0))) (fC (.str "base")))) (sRet (f2 (gMul false) (fArg mkLst (fCons (fArg mkLst fNil) fNil)) (fArg gInt (fCons (f2 gEq (f2 gIx (fVar 0) (fC (.int 1))) (fVar 1)) fNil)))) sNil)
  (sSeq (sIf (fB (f2 gEq (f2 gIx (fVar 0) (fC (.int 0))) (fC (.str "unit")))) (sRet (fArg mkLst fNil)) sNil)
  (sSeq (sIf (fB (f2 gEq (f2 gIx (fVar 0) (fC (.int 0))) (fC (.str "from")))) (sRet (fLc false (fiL (fArg (cl .f__law_ways) (fCons (f2 gIx (fVar 0) (fC (.int 2))) (fCons (fVar 1) fNil)))) (gN 3) fYes (f2 (gAdd false) (fArg mkLst (fCons (f2 gIx (fVar 0) (fC (.int 1))) fNil)) (fVar 3)) [3])) sNil)
  (sSeq (sSet 2 (fLc false (fiL (fArg (cl .f__law_ways) (fCons (f2 gIx (fVar 0) (fC (.int 1))) (fCons (fVar 1) fNil)))) (gN 3) fYes (f2 (gAdd false) (fArg mkLst (fCons (fC (.str "first")) fNil)) (fVar 3)) [3]))
  (sRet (f2 (gAdd false) (fVar 2) (fLc false (fiL (fArg (cl .f__law_ways) (fCons (f2 gIx (fVar 0) (fC (.int 2))) (fCons (fVar 1) fNil)))) (gN 3) fYes (f2 (gAdd false) (fArg mkLst (fCons (fC (.str "second")) fNil)) (fVar 3)) [3])))))))
noncomputable def l__law_flat_0 (cl : Fn → FF) : FS :=
  (sSet 4 (f2 (gAdd false) (fVar 4) (fLc false (fiL (fArg (cl .f__law_ways) (fCons (f2 gIx (fVar 2) (fVar 5)) (fCons (f2 gIx (fVar 1) (fC (.int 1))) fNil)))) (gN 6) fYes (fArg mkTup (fCons (fVar 5) (fCons (fVar 6) fNil))) [6])))
noncomputable def l__law_flat_1 (cl : Fn → FF) : FS :=
  (sIf (fTru (fIsi "str" (fVar 8))) (sSet 7 (fArg mkTup (fCons (fVar 8) (fCons (fVar 7) fNil)))) (sSet 7 (fArg mkTup (fCons (fC (.str "do")) (fCons (fVar 7) (fCons (fArg (cl .f__law_flat) (fCons (fVar 0) (fCons (fVar 8) (fCons (fVar 2) (fCons (f2 gSub (fVar 3) (fC (.int 1))) fNil))))) fNil))))))
noncomputable def b__law_flat (cl : Fn → FF) : FS :=
  (sSeq (sIf (fB (f2 gEq (f2 gIx (fVar 1) (fC (.int 0))) (fC (.str "unit")))) (sRet (fArg mkTup (fCons (fC (.str "unit")) fNil))) sNil)
  (sSeq (sIf (fB (f2 gEq (f2 gIx (fVar 1) (fC (.int 0))) (fC (.str "both")))) (sRet (fArg mkTup (fCons (fC (.str "both")) (fCons (fArg (cl .f__law_flat) (fCons (fVar 0) (fCons (f2 gIx (fVar 1) (fC (.int 1))) (fCons (fVar 2) (fCons (fVar 3) fNil))))) (fCons (fArg (cl .f__law_flat) (fCons (fVar 0) (fCons (f2 gIx (fVar 1) (fC (.int 2))) (fCons (fVar 2) (fCons (fVar 3) fNil))))) fNil))))) sNil)
  (sSeq (sIf (fB (f2 gEq (f2 gIx (fVar 1) (fC (.int 0))) (fC (.str "from")))) (sRet (fArg mkTup (fCons (fC (.str "make")) (fCons (f2 gIx (fVar 1) (fC (.int 1))) (fCons (fArg (cl .f__law_flat) (fCons (fVar 0) (fCons (f2 gIx (fVar 1) (fC (.int 2))) (fCons (f2 (gAdd false) (fVar 2) (fArg mkLst (fCons (f2 gIx (fVar 1) (fC (.int 1))) fNil))) (fCons (fVar 3) fNil))))) fNil))))) sNil)
  (sSeq (sSet 4 (fArg mkLst fNil))
  (sSeq (sFor (fiR1 (fCons (fArg gLen (fCons (fVar 2) fNil)) fNil)) (gN 5) (l__law_flat_0 cl))
  (sSeq (sIf (fB (f2 (gCmp fun i j => decide (i ≤ j)) (fVar 3) (fC (.int 0)))) (sSet 4 (fLc false (fiL (fVar 4)) (gN 9) (fB (f2 gEq (f2 gIx (fVar 9) (fC (.int 1))) (fArg mkLst fNil))) (fVar 9) [9])) sNil)
  (sSeq (sAsg (f2 gIx (fVar 4) (fArg (cl .f__law_draw) (fCons (fVar 0) (fCons (fArg gLen (fCons (fVar 4) fNil)) fNil)))) (gTu 2 (gsCons (gN 5) (gsCons (gN 6) gsNil))))
  (sSeq (sSet 7 (fArg mkTup (fCons (fC (.str "given")) (fCons (fVar 5) fNil))))
  (sSeq (sFor (fiL (fVar 6)) (gN 8) (l__law_flat_1 cl))
  (sRet (fVar 7)))))))))))
noncomputable def b__law_kind_of (cl : Fn → FF) : FS :=
  (sSeq (sIf (fB (f2 gEq (f2 gIx (fVar 0) (fC (.int 0))) (fC (.str "unit")))) (sRet (fArg mkTup (fCons (fC (.str "unit")) fNil))) sNil)
  (sSeq (sIf (fB (f2 gEq (f2 gIx (fVar 0) (fC (.int 0))) (fC (.str "given")))) (sRet (f2 gIx (fVar 1) (f2 gIx (fVar 0) (fC (.int 1))))) sNil)
  (sSeq (sIf (fB (f2 gEq (f2 gIx (fVar 0) (fC (.int 0))) (fC (.str "make")))) (sRet (fArg mkTup (fCons (fC (.str "from")) (fCons (f2 gIx (fVar 0) (fC (.int 1))) (fCons (fArg (cl .f__law_kind_of) (fCons (f2 gIx (fVar 0) (fC (.int 2))) (fCons (f2 (gAdd false) (fVar 1) (fArg mkLst (fCons (f2 gIx (fVar 0) (fC (.int 1))) fNil))) fNil))) fNil))))) sNil)
  (sSeq (sSet 2 (fArg (cl .f__law_kind_of) (fCons (f2 gIx (fVar 0) (fC (.int 1))) (fCons (fVar 1) fNil))))
  (sSeq (sIf (fB (f2 gEq (f2 gIx (fVar 0) (fC (.int 0))) (fC (.str "both")))) (sRet (fArg mkTup (fCons (fC (.str "both")) (fCons (fVar 2) (fCons (fArg (cl .f__law_kind_of) (fCons (f2 gIx (fVar 0) (fC (.int 2))) (fCons (fVar 1) fNil))) fNil))))) sNil)
  (sRet (f2 gIx (fVar 2) (f2 gIx (fArg mkLst (fCons (fC (.int 2)) (fCons (fC (.int 1)) fNil))) (fArg gInt (fCons (f2 gEq (f2 gIx (fVar 0) (fC (.int 0))) (fC (.str "first"))) fNil))))))))))
noncomputable def l__law_rows_0 (cl : Fn → FF) : FS :=
  (sSet 4 (f2 (gAdd false) (fVar 4) (fLc false (fiL (fVar 0)) (gN 6) fYes (f2 (gAdd false) (fVar 5) (fArg mkTup (fCons (fVar 6) fNil))) [6])))
noncomputable def l__law_rows_1 (cl : Fn → FF) : FS :=
  (sSeq (sSet 4 (fArg mkLst fNil))
  (sSeq (sFor (fiL (fVar 2)) (gN 5) (l__law_rows_0 cl))
  (sSet 2 (fVar 4))))
noncomputable def b__law_rows (cl : Fn → FF) : FS :=
  (sSeq (sSet 2 (fArg mkLst (fCons (fArg mkTup fNil) fNil)))
  (sSeq (sFor (fiR1 (fCons (fVar 1) fNil)) (gN 3) (l__law_rows_1 cl))
  (sRet (fVar 2))))
noncomputable def l__law_all_0 (cl : Fn → FF) : FS :=
  (sSet 4 (f2 (gAdd false) (fVar 4) (fLc false (fiL (fVar 3)) (gN 6) fYes (fArg mkTup (fCons (fVar 5) (fCons (fVar 6) fNil))) [6])))
noncomputable def b__law_all (cl : Fn → FF) : FS :=
  (sSeq (sIf (fB (f2 gEq (f2 gIx (fVar 0) (fC (.int 0))) (fC (.str "base")))) (sRet (f1 gRng (f2 gIx (fVar 1) (f2 gIx (fVar 0) (fC (.int 1)))))) sNil)
  (sSeq (sIf (fB (f2 gEq (f2 gIx (fVar 0) (fC (.int 0))) (fC (.str "unit")))) (sRet (fArg mkLst (fCons (fArg mkTup fNil) fNil))) sNil)
  (sSeq (sSet 2 (fArg (cl .f__law_all) (fCons (f2 gIx (fVar 0) (fC (.int 1))) (fCons (fVar 1) fNil))))
  (sSeq (sSet 3 (fArg (cl .f__law_all) (fCons (f2 gIx (fVar 0) (fC (.int 2))) (fCons (fVar 1) fNil))))
  (sSeq (sIf (fB (f2 gEq (f2 gIx (fVar 0) (fC (.int 0))) (fC (.str "from")))) (sRet (fArg (cl .f__law_rows) (fCons (fVar 3) (fCons (fArg gLen (fCons (fVar 2) fNil)) fNil)))) sNil)
  (sSeq (sSet 4 (fArg mkLst fNil))
  (sSeq (sFor (fiL (fVar 2)) (gN 5) (l__law_all_0 cl))
  (sRet (fVar 4)))))))))
noncomputable def b__law_handed (cl : Fn → FF) : FS :=
  (sSeq (sIf (fB (f2 gEq (f2 gIx (fVar 0) (fC (.int 0))) (fC (.str "made")))) (sRet (fArg (cl .f__law_work) (fCons (f2 gIx (fVar 0) (fC (.int 1))) (fCons (f2 (gAdd false) (f2 gIx (fVar 0) (fC (.int 2))) (fArg mkLst (fCons (fVar 1) fNil))) (fCons (fVar 2) fNil))))) sNil)
  (sSeq (sSet 3 (fMth gIdx (fArg (cl .f__law_all) (fCons (f2 gIx (f2 gIx (fVar 0) (fC (.int 1))) (fC (.int 1))) (fCons (fVar 2) fNil))) (fCons (fArg (cl .f__law_out) (fCons (f2 gIx (f2 gIx (fVar 0) (fC (.int 1))) (fC (.int 1))) (fCons (fVar 1) (fCons (fVar 2) fNil)))) fNil)))
  (sRet (fArg (cl .f__law_in) (fCons (f2 gIx (f2 gIx (fVar 0) (fC (.int 1))) (fC (.int 2))) (fCons (f2 gIx (f2 gIx (fVar 0) (fC (.int 2))) (fVar 3)) (fCons (fVar 2) fNil)))))))
noncomputable def b__law_in (cl : Fn → FF) : FS :=
  (sSeq (sIf (fB (f2 gEq (f2 gIx (fVar 0) (fC (.int 0))) (fC (.str "both")))) (sRet (fArg mkTup (fCons (fArg (cl .f__law_in) (fCons (f2 gIx (fVar 0) (fC (.int 1))) (fCons (f2 gIx (fVar 1) (fC (.int 0))) (fCons (fVar 2) fNil)))) (fCons (fArg (cl .f__law_in) (fCons (f2 gIx (fVar 0) (fC (.int 2))) (fCons (f2 gIx (fVar 1) (fC (.int 1))) (fCons (fVar 2) fNil)))) fNil)))) sNil)
  (sSeq (sIf (fB (f2 gEq (f2 gIx (fVar 0) (fC (.int 0))) (fC (.str "from")))) (sRet (fArg mkTup (fCons (fC (.str "told")) (fCons (fVar 0) (fCons (fVar 1) fNil))))) sNil)
  (sRet (fVar 1))))
noncomputable def b__law_out (cl : Fn → FF) : FS :=
  (sSeq (sIf (fB (f2 gEq (f2 gIx (fVar 0) (fC (.int 0))) (fC (.str "both")))) (sRet (fArg mkTup (fCons (fArg (cl .f__law_out) (fCons (f2 gIx (fVar 0) (fC (.int 1))) (fCons (f2 gIx (fVar 1) (fC (.int 0))) (fCons (fVar 2) fNil)))) (fCons (fArg (cl .f__law_out) (fCons (f2 gIx (fVar 0) (fC (.int 2))) (fCons (f2 gIx (fVar 1) (fC (.int 1))) (fCons (fVar 2) fNil)))) fNil)))) sNil)
  (sSeq (sIf (fB (f2 gNe (f2 gIx (fVar 0) (fC (.int 0))) (fC (.str "from")))) (sRet (fVar 1)) sNil)
  (sSeq (sSet 3 (fLc false (fiL (fArg (cl .f__law_all) (fCons (f2 gIx (fVar 0) (fC (.int 1))) (fCons (fVar 2) fNil)))) (gN 4) fYes (fArg (cl .f__law_handed) (fCons (fVar 1) (fCons (fArg (cl .f__law_in) (fCons (f2 gIx (fVar 0) (fC (.int 1))) (fCons (fVar 4) (fCons (fVar 2) fNil)))) (fCons (fVar 2) fNil)))) [4]))
  (sRet (fArg gTuple (fCons (fLc false (fiL (fVar 3)) (gN 5) fYes (fArg (cl .f__law_out) (fCons (f2 gIx (fVar 0) (fC (.int 2))) (fCons (fVar 5) (fCons (fVar 2) fNil)))) [5]) fNil))))))
noncomputable def b__law_work (cl : Fn → FF) : FS :=
  (sSeq (sIf (fB (f2 gEq (f2 gIx (fVar 0) (fC (.int 0))) (fC (.str "given")))) (sRet (f2 gIx (fVar 1) (f2 gIx (fVar 0) (fC (.int 1))))) sNil)
  (sSeq (sIf (fB (f2 gEq (f2 gIx (fVar 0) (fC (.int 0))) (fC (.str "unit")))) (sRet (fArg mkTup fNil)) sNil)
  (sSeq (sIf (fB (f2 gEq (f2 gIx (fVar 0) (fC (.int 0))) (fC (.str "make")))) (sRet (fArg mkTup (fCons (fC (.str "made")) (fCons (f2 gIx (fVar 0) (fC (.int 2))) (fCons (fVar 1) fNil))))) sNil)
  (sSeq (sSet 3 (fArg (cl .f__law_work) (fCons (f2 gIx (fVar 0) (fC (.int 1))) (fCons (fVar 1) (fCons (fVar 2) fNil)))))
  (sSeq (sIf (fB (f2 gEq (f2 gIx (fVar 0) (fC (.int 0))) (fC (.str "do")))) (sRet (fArg (cl .f__law_handed) (fCons (fVar 3) (fCons (fArg (cl .f__law_work) (fCons (f2 gIx (fVar 0) (fC (.int 2))) (fCons (fVar 1) (fCons (fVar 2) fNil)))) (fCons (fVar 2) fNil))))) sNil)
  (sSeq (sIf (fB (f2 gEq (f2 gIx (fVar 0) (fC (.int 0))) (fC (.str "both")))) (sRet (fArg mkTup (fCons (fVar 3) (fCons (fArg (cl .f__law_work) (fCons (f2 gIx (fVar 0) (fC (.int 2))) (fCons (fVar 1) (fCons (fVar 2) fNil)))) fNil)))) sNil)
  (sRet (f2 gIx (fVar 3) (fArg gInt (fCons (f2 gEq (f2 gIx (fVar 0) (fC (.int 0))) (fC (.str "second"))) fNil))))))))))
noncomputable def l__law_closed_0 (cl : Fn → FF) : FS :=
  (sSet 0 (fArg mkTup (fCons (fC (.str "make")) (fCons (fVar 2) (fCons (fVar 0) fNil)))))
noncomputable def b__law_closed (cl : Fn → FF) : FS :=
  (sSeq (sFor (fiL (f1 gTurn (fVar 1))) (gN 2) (l__law_closed_0 cl))
  (sRet (fVar 0)))
noncomputable def b__law_renamed (cl : Fn → FF) : FS :=
  (sSeq (sIf (fB (f2 gEq (f2 gIx (fVar 0) (fC (.int 0))) (fC (.str "base")))) (sRet (fArg mkTup (fCons (fC (.str "base")) (fCons (f2 gIx (fVar 1) (f2 gIx (fVar 0) (fC (.int 1)))) fNil)))) sNil)
  (sSeq (sIf (fB (f2 gEq (f2 gIx (fVar 0) (fC (.int 0))) (fC (.str "given")))) (sRet (fVar 0)) sNil)
  (sRet (fArg gTuple (fCons (f2 (gAdd false) (fArg mkLst (fCons (f2 gIx (fVar 0) (fC (.int 0))) fNil)) (fLc false (fiT (fSl (gSl false) (fVar 0) (fSome (fC (.int 1))) fNone)) (gN 2) fYes (fArg (cl .f__law_renamed) (fCons (fVar 2) (fCons (fVar 1) fNil))) [2])) fNil)))))
noncomputable def l__law_count_0 (cl : Fn → FF) : FS :=
  (sSet 4 (fArg gMin (fCons (fC (.int 1000)) (fCons (f2 (gMul false) (fVar 4) (fVar 3)) fNil))))
noncomputable def b__law_count (cl : Fn → FF) : FS :=
  (sSeq (sIf (fB (f2 gEq (f2 gIx (fVar 0) (fC (.int 0))) (fC (.str "base")))) (sRet (f2 gIx (fVar 1) (f2 gIx (fVar 0) (fC (.int 1))))) sNil)
  (sSeq (sIf (fB (f2 gEq (f2 gIx (fVar 0) (fC (.int 0))) (fC (.str "unit")))) (sRet (fC (.int 1))) sNil)
  (sSeq (sSet 2 (fArg (cl .f__law_count) (fCons (f2 gIx (fVar 0) (fC (.int 1))) (fCons (fVar 1) fNil))))
  (sSeq (sSet 3 (fArg (cl .f__law_count) (fCons (f2 gIx (fVar 0) (fC (.int 2))) (fCons (fVar 1) fNil))))
  (sSeq (sIf (fB (f2 gEq (f2 gIx (fVar 0) (fC (.int 0))) (fC (.str "both")))) (sRet (fArg gMin (fCons (fC (.int 1000)) (fCons (f2 (gMul false) (fVar 2) (fVar 3)) fNil)))) sNil)
  (sSeq (sSet 4 (fC (.int 1)))
  (sSeq (sFor (fiR1 (fCons (fVar 2) fNil)) (gN 5) (l__law_count_0 cl))
  (sRet (fVar 4)))))))))
noncomputable def b__law_cost (cl : Fn → FF) : FS :=
  (sSeq (sIf (fB (f2 (gIn false) (f2 gIx (fVar 0) (fC (.int 0))) (fArg mkLst (fCons (fC (.str "base")) (fCons (fC (.str "unit")) fNil))))) (sRet (fC (.int 1))) sNil)
  (sSeq (sIf (fB (f2 gEq (f2 gIx (fVar 0) (fC (.int 0))) (fC (.str "both")))) (sRet (f2 (gAdd false) (fArg (cl .f__law_cost) (fCons (f2 gIx (fVar 0) (fC (.int 1))) (fCons (fVar 1) fNil))) (fArg (cl .f__law_cost) (fCons (f2 gIx (fVar 0) (fC (.int 2))) (fCons (fVar 1) fNil))))) sNil)
  (sRet (f2 (gMul false) (fArg (cl .f__law_count) (fCons (f2 gIx (fVar 0) (fC (.int 1))) (fCons (fVar 1) fNil))) (fArg (cl .f__law_cost) (fCons (f2 gIx (fVar 0) (fC (.int 2))) (fCons (fVar 1) fNil)))))))
noncomputable def b__law_pick (cl : Fn → FF) : FS :=
  (sSeq (sSet 1 (f1 gRngC (fC (.int 8))))
  (sRet (fLc false (fiR1 (fCons (fC (.int 3)) fNil)) (gN 2) fYes (fMth gPop1 (fVar 1) (fCons (fArg (cl .f__law_draw) (fCons (fVar 0) (fCons (f2 gSub (fC (.int 8)) (fVar 2)) fNil))) fNil)) [2])))
noncomputable def l__law_sizes_0 (cl : Fn → FF) : FS :=
  (sAsg (fArg gMin (fCons (fVar 6) (fCons (f2 gIx (fVar 3) (fVar 7)) fNil))) (gSb (fVar 5) (f2 gIx (fVar 2) (fVar 7))))
noncomputable def l__law_sizes_1 (cl : Fn → FF) : FS :=
  (sIf (fOr (fB (f2 gEq (fVar 6) (fC (.int 4)))) (fB (f2 (gCmp fun i j => decide (j < i)) (fArg (cl .f__law_cost) (fCons (fVar 1) (fCons (fVar 5) fNil))) (fC (.int 400))))) (sFor (fiR1 (fCons (fC (.int 3)) fNil)) (gN 7) (l__law_sizes_0 cl)) sNil)
noncomputable def b__law_sizes (cl : Fn → FF) : FS :=
  (sSeq (sSet 3 (fLc false (fiR1 (fCons (fC (.int 3)) fNil)) (gN 7) fYes (f2 (gAdd false) (fC (.int 1)) (fArg (cl .f__law_draw) (fCons (fVar 0) (fCons (fC (.int 4)) fNil)))) [7]))
  (sSeq (sSet 4 (f2 gIx (fArg mkLst (fCons (fC (.int 1)) (fCons (fC (.int 999)) (fCons (fC (.int 2)) fNil)))) (fArg (cl .f__law_draw) (fCons (fVar 0) (fCons (fC (.int 3)) fNil)))))
  (sSeq (sSet 5 (f2 (gMul true) (fArg mkLst (fCons (fVar 4) fNil)) (fC (.int 8))))
  (sSeq (sFor (fiL (fArg mkLst (fCons (fC (.int 4)) (fCons (fC (.int 3)) (fCons (fC (.int 2)) fNil))))) (gN 6) (l__law_sizes_1 cl))
  (sRet (f1 gFz (fVar 5)))))))
noncomputable def b__law_put (cl : Fn → FF) : FS :=
  (sSeq (sIf (fB (f2 gEq (f2 gIx (fVar 0) (fC (.int 0))) (fC (.str "given")))) (sRet (fArg mkTup (fCons (fC (.str "given")) (fCons (f2 (gAdd false) (f2 gIx (fVar 0) (fC (.int 1))) (fVar 1)) fNil)))) sNil)
  (sSeq (sIf (fB (f2 gEq (f2 gIx (fVar 0) (fC (.int 0))) (fC (.str "make")))) (sRet (fArg mkTup (fCons (fC (.str "make")) (fCons (f2 gIx (fVar 0) (fC (.int 1))) (fCons (fArg (cl .f__law_put) (fCons (f2 gIx (fVar 0) (fC (.int 2))) (fCons (fVar 1) fNil))) fNil))))) sNil)
  (sRet (fArg gTuple (fCons (f2 (gAdd false) (fArg mkLst (fCons (f2 gIx (fVar 0) (fC (.int 0))) fNil)) (fLc false (fiT (fSl (gSl false) (fVar 0) (fSome (fC (.int 1))) fNone)) (gN 2) fYes (fArg (cl .f__law_put) (fCons (fVar 2) (fCons (fVar 1) fNil))) [2])) fNil)))))
noncomputable def b__law_other (cl : Fn → FF) : FS :=
  (sSeq (sPar 2 3 (fCons (fArg mkTup (fCons (fC (.str "base")) (fCons (f2 gIx (fVar 1) (fArg (cl .f__law_draw) (fCons (fVar 0) (fCons (fC (.int 3)) fNil)))) fNil))) (fCons (fArg mkTup (fCons (fC (.str "base")) (fCons (f2 gIx (fVar 1) (fArg (cl .f__law_draw) (fCons (fVar 0) (fCons (fC (.int 3)) fNil)))) fNil))) fNil)))
  (sSeq (sSet 4 (fArg mkTup (fCons (fC (.str "make")) (fCons (fVar 2) (fCons (fArg mkTup (fCons (fC (.str "given")) (fCons (fC (.int 0)) fNil))) fNil)))))
  (sSeq (sSet 5 (fArg mkTup (fCons (fC (.str "make")) (fCons (fVar 2) (fCons (fArg mkTup (fCons (fC (.str "make")) (fCons (fVar 3) (fCons (fArg mkTup (fCons (fC (.str "given")) (fCons (fC (.int 0)) fNil))) fNil)))) fNil)))))
  (sSeq (sSet 6 (fArg mkCel (fCons (fArg mkTup (fCons (fC (.str "unit")) fNil)) (fCons (fArg mkTup (fCons (fC (.str "from")) (fCons (fVar 2) (fCons (fVar 2) fNil)))) (fCons (fArg mkTup (fCons (fC (.str "from")) (fCons (fVar 2) (fCons (fArg mkTup (fCons (fC (.str "from")) (fCons (fVar 3) (fCons (fVar 2) fNil)))) fNil)))) fNil)))))
  (sSeq (sExp (fMth gAppend (fVar 6) (fCons (fArg mkTup (fCons (fC (.str "both")) (fCons (fArg mkTup (fCons (fC (.str "from")) (fCons (fVar 2) (fCons (fVar 2) fNil)))) (fCons (fArg mkTup (fCons (fC (.str "unit")) fNil)) fNil)))) fNil)))
  (sSeq (sSet 7 (fArg mkLst (fCons (fArg mkTup (fCons (fC (.str "unit")) fNil)) (fCons (fVar 4) (fCons (fVar 5) (fCons (fArg mkTup (fCons (fC (.str "both")) (fCons (fVar 4) (fCons (fArg mkTup (fCons (fC (.str "unit")) fNil)) fNil)))) fNil))))))
  (sSeq (sSet 8 (fArg (cl .f__law_draw) (fCons (fVar 0) (fCons (fC (.int 4)) fNil))))
  (sRet (fArg mkTup (fCons (f2 gIx (fVar 7) (fVar 8)) (fCons (f2 gIx (fVar 6) (fVar 8)) fNil)))))))))))
noncomputable def b__law_topped (cl : Fn → FF) : FS :=
  (sSeq (sAsg (fArg (cl .f__law_other) (fCons (fVar 0) (fCons (fVar 3) fNil))) (gTu 2 (gsCons (gN 5) (gsCons (gN 6) gsNil))))
  (sSeq (sSet 7 (fArg (cl .f__law_draw) (fCons (fVar 0) (fCons (fC (.int 4)) fNil))))
  (sSeq (sIf (fB (f2 gEq (fVar 7) (fC (.int 0)))) (sRet (fArg mkTup (fCons (fC (.str "first")) (fCons (fArg mkTup (fCons (fC (.str "both")) (fCons (fVar 1) (fCons (fVar 5) fNil)))) fNil)))) sNil)
  (sSeq (sIf (fB (f2 gEq (fVar 7) (fC (.int 1)))) (sRet (fArg mkTup (fCons (fC (.str "second")) (fCons (fArg mkTup (fCons (fC (.str "both")) (fCons (fVar 5) (fCons (fVar 1) fNil)))) fNil)))) sNil)
  (sSeq (sIf (fAnd (fB (f2 gEq (fVar 7) (fC (.int 2)))) (fB (f2 (gCmp fun i j => decide (i < j)) (fArg (cl .f__law_count) (fCons (fVar 2) (fCons (fVar 4) fNil))) (fC (.int 100))))) (sRet (fArg mkTup (fCons (fC (.str "do")) (fCons (fArg mkTup (fCons (fC (.str "make")) (fCons (fVar 2) (fCons (fArg mkTup (fCons (fC (.str "given")) (fCons (fC (.int 0)) fNil))) fNil)))) (fCons (fVar 1) fNil))))) sNil)
  (sSeq (sIf (fB (f2 (gCmp fun i j => decide (j < i)) (fArg (cl .f__law_count) (fCons (fVar 6) (fCons (fVar 4) fNil))) (fC (.int 30)))) (sAsg (fArg mkTup (fCons (fArg mkTup (fCons (fC (.str "unit")) fNil)) (fCons (fArg mkTup (fCons (fC (.str "unit")) fNil)) fNil))) (gTu 2 (gsCons (gN 5) (gsCons (gN 6) gsNil)))) sNil)
  (sRet (fArg mkTup (fCons (fC (.str "do")) (fCons (fArg mkTup (fCons (fC (.str "make")) (fCons (fVar 6) (fCons (fArg (cl .f__law_put) (fCons (fVar 1) (fCons (fC (.int 1)) fNil))) fNil)))) (fCons (fVar 5) fNil)))))))))))
noncomputable def b__law_made (cl : Fn → FF) : FS :=
  (sSeq (sSet 1 (fArg (cl .f__law_pick) (fCons (fVar 0) fNil)))
  (sSeq (sSet 2 (fArg (cl .f__law_kind) (fCons (fVar 0) (fCons (fC (.int 2)) fNil))))
  (sSeq (sSet 3 (fArg mkLst (fCons (fArg mkTup (fCons (fC (.str "base")) (fCons (fC (.int 0)) fNil))) (fCons (fArg mkTup (fCons (fC (.str "base")) (fCons (fC (.int 1)) fNil))) (fCons (fArg mkTup (fCons (fC (.str "base")) (fCons (fC (.int 2)) fNil))) fNil)))))
  (sSeq (sIf (fB (f2 gEq (fArg (cl .f__law_draw) (fCons (fVar 0) (fCons (fC (.int 2)) fNil))) (fC (.int 0)))) (sSeq (sSet 3 (fSl (gSl false) (fVar 3) fNone (fSome (fC (.int 1)))))
  (sSet 2 (fArg (cl .f__law_renamed) (fCons (fVar 2) (fCons (fArg mkLst (fCons (fC (.int 0)) (fCons (fC (.int 0)) (fCons (fC (.int 0)) fNil)))) fNil))))) sNil)
  (sSeq (sSet 4 (fArg (cl .f__law_renamed) (fCons (fArg (cl .f__law_closed) (fCons (fArg (cl .f__law_flat) (fCons (fVar 0) (fCons (fVar 2) (fCons (fVar 3) (fCons (fC (.int 2)) fNil))))) (fCons (fVar 3) fNil))) (fCons (fVar 1) fNil))))
  (sRet (fArg mkTup (fCons (fVar 1) (fCons (fVar 4) (fCons (fArg (cl .f__law_kind_of) (fCons (fVar 4) (fCons (fArg mkLst fNil) fNil))) fNil))))))))))
noncomputable def l_law_0 (cl : Fn → FF) : FS :=
  (sSet 7 (fArg (cl .f__law_topped) (fCons (fVar 2) (fCons (fVar 7) (fCons (fVar 5) (fCons (fVar 3) (fCons (fVar 6) fNil)))))))
noncomputable def l_law_1 (cl : Fn → FF) : FS :=
  (sSeq (sSet 11 (fArg (cl .f__law_out) (fCons (f2 gIx (fVar 5) (fC (.int 2))) (fCons (fArg (cl .f__law_handed) (fCons (fVar 9) (fCons (fArg (cl .f__law_in) (fCons (f2 gIx (fVar 5) (fC (.int 1))) (fCons (fVar 10) (fCons (fVar 6) fNil)))) (fCons (fVar 6) fNil)))) (fCons (fVar 6) fNil)))))
  (sIf (fOr (fB (f2 gNe (fArg (cl .f_done) (fCons (fVar 7) (fCons (fVar 6) (fCons (fVar 10) fNil)))) (fVar 11))) (fB (f2 gNe (fArg (cl .f_done) (fCons (fVar 4) (fCons (fVar 6) (fCons (fVar 10) fNil)))) (fVar 11)))) (sRet (fC (.bl false))) sNil))
noncomputable def l_law_2 (cl : Fn → FF) : FS :=
  (sSeq (sSet 2 (fArg (cl .f__law_well) (fCons (fVar 1) fNil)))
  (sSeq (sAsg (fArg (cl .f__law_made) (fCons (fVar 2) fNil)) (gTu 3 (gsCons (gN 3) (gsCons (gN 4) (gsCons (gN 5) gsNil)))))
  (sSeq (sSet 6 (fArg (cl .f__law_sizes) (fCons (fVar 2) (fCons (fVar 5) (fCons (fVar 3) fNil)))))
  (sSeq (sSet 7 (fVar 4))
  (sSeq (sFor (fiR1 (fCons (fArg (cl .f__law_draw) (fCons (fVar 2) (fCons (fC (.int 4)) fNil))) fNil)) (gN 8) (l_law_0 cl))
  (sSeq (sSet 9 (fArg (cl .f__law_work) (fCons (fVar 4) (fCons (fArg mkLst fNil) (fCons (fVar 6) fNil)))))
  (sFor (fiL (fArg (cl .f__law_all) (fCons (f2 gIx (fVar 5) (fC (.int 1))) (fCons (fVar 6) fNil)))) (gN 10) (l_law_1 cl))))))))
noncomputable def b_law (cl : Fn → FF) : FS :=
  (sSeq (sFor (fiL (f2 (gAdd false) (fArg mkLst (fCons (fC (.int 0)) (fCons (fC (.int 3)) fNil))) (fSl (gSl false) (fVar 0) fNone (fSome (fC (.int 8)))))) (gN 1) (l_law_2 cl))
  (sRet (fC (.bl true))))
noncomputable def ev : Nat → Fn → FF
  | 0, _ => fun _ _ => .no
  | n + 1, .f_Reckoner___init__ => fnB 2 2 (b_Reckoner___init__ (ev n))
  | n + 1, .f_Reckoner_all_of => fnB 2 4 (b_Reckoner_all_of (ev n))
  | 1, .f_Reckoner_held => fun _ _ => .no
  | n + 2, .f_Reckoner_held => fnB 3 3 (b_Reckoner_held (ev (n + 1)) (ev n))
  | n + 1, .f_Reckoner_told => fnB 3 6 (b_Reckoner_told (ev n))
  | 1, .f_Reckoner_worked => fun _ _ => .no
  | n + 2, .f_Reckoner_worked => fnB 3 5 (b_Reckoner_worked (ev (n + 1)) (ev n))
  | n + 1, .f_Told___init__ => fnB 4 4 (b_Told___init__ (ev n))
  | n + 1, .f_Told_handed => fnB 2 3 (b_Told_handed (ev n))
  | n + 1, .f_Made___init__ => fnB 4 4 (b_Made___init__ (ev n))
  | n + 1, .f_Made_handed => fnB 2 2 (b_Made_handed (ev n))
  | n + 1, .f_is_from => fnB 3 3 (b_is_from (ev n))
  | n + 1, .f_inner_of => fnB 1 1 (b_inner_of (ev n))
  | n + 1, .f_is_kind => fnC 1 3 (b_is_kind (ev n))
  | n + 1, .f_sure_kind => fnB 1 1 (b_sure_kind (ev n))
  | n + 1, .f_sure_sizes => fnB 1 3 (b_sure_sizes (ev n))
  | n + 1, .f_power_up_to => fnB 2 4 (b_power_up_to (ev n))
  | n + 1, .f_number_up_to => fnB 2 4 (b_number_up_to (ev n))
  | n + 1, .f_sure_taken => fnB 2 2 (b_sure_taken (ev n))
  | n + 1, .f_lists_of => fnB 2 6 (b_lists_of (ev n))
  | n + 1, .f_all_worths => fnB 2 5 (b_all_worths (ev n))
  | n + 1, .f_worths => fnB 2 2 (b_worths (ev n))
  | n + 1, .f_is_plain_worth => fnB 3 4 (b_is_plain_worth (ev n))
  | n + 1, .f_is_worth => fnB 3 3 (b_is_worth (ev n))
  | n + 1, .f_is_shape => fnB 1 1 (b_is_shape (ev n))
  | n + 1, .f_kind_of_given => fnB 2 2 (b_kind_of_given (ev n))
  | n + 1, .f_kind_of_two => fnB 3 3 (b_kind_of_two (ev n))
  | n + 1, .f_kind_in => fnB 2 5 (b_kind_in (ev n))
  | n + 1, .f_sure_kind_in => fnB 2 3 (b_sure_kind_in (ev n))
  | 1, .f_done => fun _ _ => .no
  | n + 2, .f_done => fnC 3 5 (b_done (ev (n + 1)) (ev n))
  | n + 1, .f__law_well => fnB 1 1 (b__law_well (ev n))
  | n + 1, .f__law_draw => fnB 2 4 (b__law_draw (ev n))
  | n + 1, .f__law_kind => fnB 2 3 (b__law_kind (ev n))
  | n + 1, .f__law_ways => fnB 2 4 (b__law_ways (ev n))
  | n + 1, .f__law_flat => fnB 4 10 (b__law_flat (ev n))
  | n + 1, .f__law_kind_of => fnB 2 3 (b__law_kind_of (ev n))
  | n + 1, .f__law_rows => fnB 2 7 (b__law_rows (ev n))
  | n + 1, .f__law_all => fnB 2 7 (b__law_all (ev n))
  | n + 1, .f__law_handed => fnB 3 4 (b__law_handed (ev n))
  | n + 1, .f__law_in => fnB 3 3 (b__law_in (ev n))
  | n + 1, .f__law_out => fnB 3 6 (b__law_out (ev n))
  | n + 1, .f__law_work => fnB 3 4 (b__law_work (ev n))
  | n + 1, .f__law_closed => fnB 2 3 (b__law_closed (ev n))
  | n + 1, .f__law_renamed => fnB 2 3 (b__law_renamed (ev n))
  | n + 1, .f__law_count => fnB 2 6 (b__law_count (ev n))
  | n + 1, .f__law_cost => fnB 2 2 (b__law_cost (ev n))
  | n + 1, .f__law_pick => fnC 1 3 (b__law_pick (ev n))
  | n + 1, .f__law_sizes => fnC 3 8 (b__law_sizes (ev n))
  | n + 1, .f__law_put => fnB 2 3 (b__law_put (ev n))
  | n + 1, .f__law_other => fnC 2 9 (b__law_other (ev n))
  | n + 1, .f__law_topped => fnB 5 8 (b__law_topped (ev n))
  | n + 1, .f__law_made => fnB 1 5 (b__law_made (ev n))
  | n + 1, .f_law => fnB 1 12 (b_law (ev n))
@[reducible] def calOf [Wo] (P : Program) (w : World) (K : PySem.W.Frag) (mg : Str → Option Value) (base : Heap) (k : Nat) (g : Fn) (f : FF) : Prop := match g with
  | .f_Reckoner___init__ => CalM P w K mg base k "Reckoner" "__init__" f
  | .f_Reckoner_all_of => CalM P w K mg base k "Reckoner" "all_of" f
  | .f_Reckoner_held => CalM P w K mg base k "Reckoner" "held" f
  | .f_Reckoner_told => CalM P w K mg base k "Reckoner" "told" f
  | .f_Reckoner_worked => CalM P w K mg base k "Reckoner" "worked" f
  | .f_Told___init__ => CalM P w K mg base k "Told" "__init__" f
  | .f_Told_handed => CalM P w K mg base k "Told" "handed" f
  | .f_Made___init__ => CalM P w K mg base k "Made" "__init__" f
  | .f_Made_handed => CalM P w K mg base k "Made" "handed" f
  | .f_is_from => Cal P w K mg base k "is_from" f
  | .f_inner_of => Cal P w K mg base k "inner_of" f
  | .f_is_kind => Cal P w K mg base k "is_kind" f
  | .f_sure_kind => Cal P w K mg base k "sure_kind" f
  | .f_sure_sizes => Cal P w K mg base k "sure_sizes" f
  | .f_power_up_to => Cal P w K mg base k "power_up_to" f
  | .f_number_up_to => Cal P w K mg base k "number_up_to" f
  | .f_sure_taken => Cal P w K mg base k "sure_taken" f
  | .f_lists_of => Cal P w K mg base k "lists_of" f
  | .f_all_worths => Cal P w K mg base k "all_worths" f
  | .f_worths => Cal P w K mg base k "worths" f
  | .f_is_plain_worth => Cal P w K mg base k "is_plain_worth" f
  | .f_is_worth => Cal P w K mg base k "is_worth" f
  | .f_is_shape => Cal P w K mg base k "is_shape" f
  | .f_kind_of_given => Cal P w K mg base k "kind_of_given" f
  | .f_kind_of_two => Cal P w K mg base k "kind_of_two" f
  | .f_kind_in => Cal P w K mg base k "kind_in" f
  | .f_sure_kind_in => Cal P w K mg base k "sure_kind_in" f
  | .f_done => Cal P w K mg base k "done" f
  | .f__law_well => Cal P w K mg base k "_law_well" f
  | .f__law_draw => Cal P w K mg base k "_law_draw" f
  | .f__law_kind => Cal P w K mg base k "_law_kind" f
  | .f__law_ways => Cal P w K mg base k "_law_ways" f
  | .f__law_flat => Cal P w K mg base k "_law_flat" f
  | .f__law_kind_of => Cal P w K mg base k "_law_kind_of" f
  | .f__law_rows => Cal P w K mg base k "_law_rows" f
  | .f__law_all => Cal P w K mg base k "_law_all" f
  | .f__law_handed => Cal P w K mg base k "_law_handed" f
  | .f__law_in => Cal P w K mg base k "_law_in" f
  | .f__law_out => Cal P w K mg base k "_law_out" f
  | .f__law_work => Cal P w K mg base k "_law_work" f
  | .f__law_closed => Cal P w K mg base k "_law_closed" f
  | .f__law_renamed => Cal P w K mg base k "_law_renamed" f
  | .f__law_count => Cal P w K mg base k "_law_count" f
  | .f__law_cost => Cal P w K mg base k "_law_cost" f
  | .f__law_pick => Cal P w K mg base k "_law_pick" f
  | .f__law_sizes => Cal P w K mg base k "_law_sizes" f
  | .f__law_put => Cal P w K mg base k "_law_put" f
  | .f__law_other => Cal P w K mg base k "_law_other" f
  | .f__law_topped => Cal P w K mg base k "_law_topped" f
  | .f__law_made => Cal P w K mg base k "_law_made" f
  | .f_law => Cal P w K mg base k "law" f
structure Txt (K : PySem.W.Frag) (P : Params) (mg : Str → Option Value) : Prop where
  t_Reckoner___init__ : TM K mg "Reckoner" "__init__" "Reckoner.__init__" s_Reckoner___init__ ["self", "sizes"]
  t_Reckoner_all_of : TM K mg "Reckoner" "all_of" "Reckoner.all_of" s_Reckoner_all_of ["self", "kind"]
  t_Reckoner_held : TM K mg "Reckoner" "held" "Reckoner.held" s_Reckoner_held ["self", "kind", "worth"]
  t_Reckoner_told : TM K mg "Reckoner" "told" "Reckoner.told" s_Reckoner_told ["self", "kind", "thing"]
  t_Reckoner_worked : TM K mg "Reckoner" "worked" "Reckoner.worked" s_Reckoner_worked ["self", "term", "things"]
  t_Told___init__ : TM K mg "Told" "__init__" "Told.__init__" s_Told___init__ ["self", "reckoner", "kind", "worth"]
  t_Told_handed : TM K mg "Told" "handed" "Told.handed" s_Told_handed ["self", "thing"]
  t_Made___init__ : TM K mg "Made" "__init__" "Made.__init__" s_Made___init__ ["self", "reckoner", "body", "things"]
  t_Made_handed : TM K mg "Made" "handed" "Made.handed" s_Made_handed ["self", "thing"]
  t_is_from : TF K mg "is_from" s_is_from ["thing", "low", "high"]
  t_inner_of : TF K mg "inner_of" s_inner_of ["thing"]
  t_is_kind : TF K mg "is_kind" s_is_kind ["thing"]
  t_sure_kind : TF K mg "sure_kind" s_sure_kind ["thing"]
  t_sure_sizes : TF K mg "sure_sizes" s_sure_sizes ["thing"]
  t_power_up_to : TF K mg "power_up_to" s_power_up_to ["base", "times"]
  t_number_up_to : TF K mg "number_up_to" s_number_up_to ["kind", "sizes"]
  t_sure_taken : TF K mg "sure_taken" s_sure_taken ["kind", "sizes"]
  t_lists_of : TF K mg "lists_of" s_lists_of ["things", "many"]
  t_all_worths : TF K mg "all_worths" s_all_worths ["kind", "sizes"]
  t_worths : TF K mg "worths" s_worths ["kind", "sizes"]
  t_is_plain_worth : TF K mg "is_plain_worth" s_is_plain_worth ["kind", "sizes", "thing"]
  t_is_worth : TF K mg "is_worth" s_is_worth ["kind", "sizes", "thing"]
  t_is_shape : TF K mg "is_shape" s_is_shape ["thing"]
  t_kind_of_given : TF K mg "kind_of_given" s_kind_of_given ["k", "given"]
  t_kind_of_two : TF K mg "kind_of_two" s_kind_of_two ["word", "one", "other"]
  t_kind_in : TF K mg "kind_in" s_kind_in ["term", "given"]
  t_sure_kind_in : TF K mg "sure_kind_in" s_sure_kind_in ["term", "given"]
  t_done : TF K mg "done" s_done ["term", "sizes", "worth"]
  t__law_well : TF K mg "_law_well" s__law_well ["_law_cell"]
  t__law_draw : TF K mg "_law_draw" s__law_draw ["_law_well_here", "_law_width"]
  t__law_kind : TF K mg "_law_kind" s__law_kind ["_law_well_here", "_law_deep"]
  t__law_ways : TF K mg "_law_ways" s__law_ways ["_law_kind_here", "_law_n"]
  t__law_flat : TF K mg "_law_flat" s__law_flat ["_law_well_here", "_law_kind_here", "_law_given", "_law_fuel"]
  t__law_kind_of : TF K mg "_law_kind_of" s__law_kind_of ["_law_term", "_law_given"]
  t__law_rows : TF K mg "_law_rows" s__law_rows ["_law_some", "_law_width"]
  t__law_all : TF K mg "_law_all" s__law_all ["_law_kind_here", "_law_sizes_here"]
  t__law_handed : TF K mg "_law_handed" s__law_handed ["_law_one", "_law_thing", "_law_sizes_here"]
  t__law_in : TF K mg "_law_in" s__law_in ["_law_kind_here", "_law_worth", "_law_sizes_here"]
  t__law_out : TF K mg "_law_out" s__law_out ["_law_kind_here", "_law_thing", "_law_sizes_here"]
  t__law_work : TF K mg "_law_work" s__law_work ["_law_term", "_law_things", "_law_sizes_here"]
  t__law_closed : TF K mg "_law_closed" s__law_closed ["_law_term", "_law_given"]
  t__law_renamed : TF K mg "_law_renamed" s__law_renamed ["_law_thing", "_law_pick_here"]
  t__law_count : TF K mg "_law_count" s__law_count ["_law_kind_here", "_law_sizes_here"]
  t__law_cost : TF K mg "_law_cost" s__law_cost ["_law_kind_here", "_law_sizes_here"]
  t__law_pick : TF K mg "_law_pick" s__law_pick ["_law_well_here"]
  t__law_sizes : TF K mg "_law_sizes" s__law_sizes ["_law_well_here", "_law_kind_here", "_law_pick_here"]
  t__law_put : TF K mg "_law_put" s__law_put ["_law_term", "_law_by"]
  t__law_other : TF K mg "_law_other" s__law_other ["_law_well_here", "_law_pick_here"]
  t__law_topped : TF K mg "_law_topped" s__law_topped ["_law_well_here", "_law_term", "_law_kind_here", "_law_pick_here", "_law_sizes_here"]
  t__law_made : TF K mg "_law_made" s__law_made ["_law_well_here"]
  m_all : mg "all" = none
  m_bool : mg "bool" = none
  m_enumerate : mg "enumerate" = none
  m_int : mg "int" = none
  m_isinstance : mg "isinstance" = none
  m_len : mg "len" = none
  m_list : mg "list" = none
  m_min : mg "min" = none
  m_range : mg "range" = none
  m_str : mg "str" = none
  m_tuple : mg "tuple" = none
  c_BASES : GC mg "BASES" (.int 8)
  c_LETTERS : GC mg "LETTERS" (.str "abcdefgh")
  c_MARKS : GD K P mg "MARKS" kv_MARKS
  c_MOST_SIZE : GC mg "MOST_SIZE" (.int 999)
  c_MOST_WORTHS : GC mg "MOST_WORTHS" (.int 5000)
  c_PARTS : GD K P mg "PARTS" kv_PARTS
  k_Made : MkC K mg "Made"
  k_Reckoner : MkC K mg "Reckoner"
  k_Told : MkC K mg "Told"
  g_body : ∀ c ∈ (["Made"] : List Str), FldC K mg c "body"
  g_kind : ∀ c ∈ (["Told"] : List Str), FldC K mg c "kind"
  g_lists : ∀ c ∈ (["Reckoner"] : List Str), FldC K mg c "lists"
  g_reckoner : ∀ c ∈ (["Told", "Made"] : List Str), FldC K mg c "reckoner"
  g_sizes : ∀ c ∈ (["Reckoner"] : List Str), FldC K mg c "sizes"
  g_spots : ∀ c ∈ (["Reckoner"] : List Str), FldC K mg c "spots"
  g_things : ∀ c ∈ (["Made"] : List Str), FldC K mg c "things"
  g_worth : ∀ c ∈ (["Told"] : List Str), FldC K mg c "worth"
  x_NoKind : ExcF K mg "NoKind"
  x_NoSizes : ExcF K mg "NoSizes"
  x_NoTerm : ExcF K mg "NoTerm"
  x_NoWorth : ExcF K mg "NoWorth"
  x_TooMany : ExcF K mg "TooMany"
section
variable {P : Program} {w : World} {K : PySem.W.Frag} {mg : Str → Option Value} {base : Heap}
theorem ok_Reckoner___init__ {k : Nat} {cl : Fn → FF} [Wo] (T : Txt K w.params mg) (hW : Wo.ww = w) (C : ∀ g : Fn, g ≠ .f_law → calOf P w K mg base k g (cl g)) (f : Addr) (cdv : Value) (A : Around) (outer : List Env) (s : Shared) (H : Hp) (E : XK) (hr : RoomG k (A.deeper (envOfC "Reckoner.__init__" (defScope s_Reckoner___init__) s.heap.objs.size f cdv))) :
    PSs (cxOf (L2.CX P w) P w K mg base ["self", "sizes"] "Reckoner.__init__" (defScope s_Reckoner___init__) f cdv A outer s H E) (defBody s_Reckoner___init__) (tS (cxOf (L2.CX P w) P w K mg base ["self", "sizes"] "Reckoner.__init__" (defScope s_Reckoner___init__) f cdv A outer s H E) (fun c d _ H => E c d H) (b_Reckoner___init__ cl)) := by
  have tk : Takes (cxOf (L2.CX P w) P w K mg base ["self", "sizes"] "Reckoner.__init__" (defScope s_Reckoner___init__) f cdv A outer s H E) (fun c d _ H => E c d H) := takes_of rfl rfl rfl rfl
  have nd := sc_Reckoner___init__.nd
  exact (q_seq (q_sfl (q_var 0) (q_var 1) T.g_sizes)
    (q_seq (q_sfl (q_var 0) (q_newD hW) T.g_lists)
    (q_last (q_sfl (q_var 0) (q_newD hW) T.g_spots))))
theorem ok_Reckoner_all_of {k : Nat} {cl : Fn → FF} [Wo] (T : Txt K w.params mg) (hW : Wo.ww = w) (C : ∀ g : Fn, g ≠ .f_law → calOf P w K mg base k g (cl g)) (f : Addr) (cdv : Value) (A : Around) (outer : List Env) (s : Shared) (H : Hp) (E : XK) (hr : RoomG k (A.deeper (envOfC "Reckoner.all_of" (defScope s_Reckoner_all_of) s.heap.objs.size f cdv))) :
    PSs (cxOf (L2.CX P w) P w K mg base ["self", "kind", "spot", "worth"] "Reckoner.all_of" (defScope s_Reckoner_all_of) f cdv A outer s H E) (defBody s_Reckoner_all_of) (tS (cxOf (L2.CX P w) P w K mg base ["self", "kind", "spot", "worth"] "Reckoner.all_of" (defScope s_Reckoner_all_of) f cdv A outer s H E) (fun c d _ H => E c d H) (b_Reckoner_all_of cl)) := by
  have tk : Takes (cxOf (L2.CX P w) P w K mg base ["self", "kind", "spot", "worth"] "Reckoner.all_of" (defScope s_Reckoner_all_of) f cdv A outer s H E) (fun c d _ H => E c d H) := takes_of rfl rfl rfl rfl
  have nd := sc_Reckoner_all_of.nd
  exact (q_seq (q_ifS (qt_ninD hW (hu2 hr) (q_var 1) (q_fld (q_var 0) T.g_lists)) (q_seq (q_dput hW (hu2 hr) (q_fld (q_var 0) T.g_lists) (q_var 1) (q_call (C .f_worths (fun z => nomatch z)) hr tk rfl (q_cons (q_var 1) (q_cons (q_fld (q_var 0) T.g_sizes) q_nil))))
    (q_last (q_dput hW (hu2 hr) (q_fld (q_var 0) T.g_spots) (q_var 1) (q_dc (own := [("spot", 2), ("worth", 3)]) hW (hu2 hr) rfl nd (qi_enum rfl T.m_enumerate (q_cons (q_dget hW (hu2 hr) (q_fld (q_var 0) T.g_lists) (q_var 1) (fun _ _ => rfl)) q_nil)) (blkOk_by (own := [("spot", 2), ("worth", 3)]) (by rfl)) (by decide) (fun _ _ _ _ _ => (q_gtu rfl (q_gscons (q_gn (i := 2) nd rfl (by first | exact Or.inl rfl | exact Or.inr rfl)) (q_gscons (q_gn (i := 3) nd rfl (by first | exact Or.inl rfl | exact Or.inr rfl)) q_gsnil)))) (fun _ _ _ _ _ => qts_nil) (fun _ _ _ _ _ => (q_var 3)) (fun _ _ _ _ _ => (q_var 2)))))) q_snil)
    (q_last (q_ret (q_dget hW (hu2 hr) (q_fld (q_var 0) T.g_lists) (q_var 1) (fun _ _ => rfl)))))
theorem ok_Reckoner_held {k : Nat} {cl cl2 : Fn → FF} [Wo] (T : Txt K w.params mg) (hW : Wo.ww = w) (C : ∀ g : Fn, g ≠ .f_law → calOf P w K mg base (k + 1) g (cl g)) (C2 : ∀ g : Fn, g ≠ .f_law → calOf P w K mg base k g (cl2 g)) (f : Addr) (cdv : Value) (A : Around) (outer : List Env) (s : Shared) (H : Hp) (E : XK) (hr : RoomG (k + 1) (A.deeper (envOfC "Reckoner.held" (defScope s_Reckoner_held) s.heap.objs.size f cdv))) :
    PSs (cxOf (L2.CX P w) P w K mg base ["self", "kind", "worth"] "Reckoner.held" (defScope s_Reckoner_held) f cdv A outer s H E) (defBody s_Reckoner_held) (tS (cxOf (L2.CX P w) P w K mg base ["self", "kind", "worth"] "Reckoner.held" (defScope s_Reckoner_held) f cdv A outer s H E) (fun c d _ H => E c d H) (b_Reckoner_held cl cl2)) := by
  have tk : Takes (cxOf (L2.CX P w) P w K mg base ["self", "kind", "worth"] "Reckoner.held" (defScope s_Reckoner_held) f cdv A outer s H E) (fun c d _ H => E c d H) := takes_of rfl rfl rfl rfl
  have nd := sc_Reckoner_held.nd
  exact (q_seq (q_ifS (qt_cmp (op_eqU (by have z := hu2 hr; exact z)) eqP_v (q_ix (q_var 1) q_int) q_str (nomark _)) (q_last (q_ret (q_tup (q_cons (q_me (q_var 0) (dm_cons (C .f_Reckoner_held (fun z => nomatch z)) dm_nil) hr tk (q_cons (q_ix (q_var 1) q_int) (q_cons (q_ix (q_var 2) q_int) q_nil))) (q_cons (q_me (q_var 0) (dm_cons (C .f_Reckoner_held (fun z => nomatch z)) dm_nil) hr tk (q_cons (q_ix (q_var 1) q_int) (q_cons (q_ix (q_var 2) q_int) q_nil))) q_nil))))) q_snil)
    (q_seq (q_ifS (qt_cmp (op_eqU (by have z := hu2 hr; exact z)) eqP_v (q_ix (q_var 1) q_int) q_str (nomark _)) (q_last (q_ret (q_make (C2 .f_Told___init__ (fun z => nomatch z)) T.k_Told hr tk rfl (q_cons (q_var 0) (q_cons (q_var 1) (q_cons (q_var 2) q_nil)))))) q_snil)
    (q_last (q_ret (q_var 2)))))
theorem ok_Reckoner_told {k : Nat} {cl : Fn → FF} [Wo] (T : Txt K w.params mg) (hW : Wo.ww = w) (C : ∀ g : Fn, g ≠ .f_law → calOf P w K mg base k g (cl g)) (f : Addr) (cdv : Value) (A : Around) (outer : List Env) (s : Shared) (H : Hp) (E : XK) (hr : RoomG k (A.deeper (envOfC "Reckoner.told" (defScope s_Reckoner_told) s.heap.objs.size f cdv))) :
    PSs (cxOf (L2.CX P w) P w K mg base ["self", "kind", "thing", "some", "worth", "one"] "Reckoner.told" (defScope s_Reckoner_told) f cdv A outer s H E) (defBody s_Reckoner_told) (tS (cxOf (L2.CX P w) P w K mg base ["self", "kind", "thing", "some", "worth", "one"] "Reckoner.told" (defScope s_Reckoner_told) f cdv A outer s H E) (fun c d _ H => E c d H) (b_Reckoner_told cl)) := by
  have tk : Takes (cxOf (L2.CX P w) P w K mg base ["self", "kind", "thing", "some", "worth", "one"] "Reckoner.told" (defScope s_Reckoner_told) f cdv A outer s H E) (fun c d _ H => E c d H) := takes_of rfl rfl rfl rfl
  have nd := sc_Reckoner_told.nd
  exact (q_seq (q_ifS (qt_cmp (op_eqU (by have z := hu2 hr; exact z)) eqP_v (q_ix (q_var 1) q_int) q_str (nomark _)) (q_last (q_ret (q_tup (q_cons (q_me (q_var 0) (dm_cons (C .f_Reckoner_told (fun z => nomatch z)) dm_nil) hr tk (q_cons (q_ix (q_var 1) q_int) (q_cons (q_ix (q_var 2) q_int) q_nil))) (q_cons (q_me (q_var 0) (dm_cons (C .f_Reckoner_told (fun z => nomatch z)) dm_nil) hr tk (q_cons (q_ix (q_var 1) q_int) (q_cons (q_ix (q_var 2) q_int) q_nil))) q_nil))))) q_snil)
    (q_seq (q_ifS (qt_cmp (op_eqU (by have z := hu2 hr; exact z)) eqP_v (q_ix (q_var 1) q_int) q_str (nomark _)) (q_seq (by first | exact (q_setLc (i := 3) (own := [("worth", 4)]) rfl nd rfl rfl (sw_true rfl rfl rfl (by decide +kernel)) (qi_list (q_me (q_var 0) (dm_cons (C .f_Reckoner_all_of (fun z => nomatch z)) dm_nil) hr tk (q_cons (q_ix (q_var 1) q_int) q_nil))) (blkOk_by (own := [("worth", 4)]) (by rfl)) (by decide) (fun _ _ _ _ _ => (q_gn (i := 4) nd rfl (by first | exact Or.inl rfl | exact Or.inr rfl))) (fun _ _ _ _ _ => qts_nil) (fun _ _ _ _ _ => (q_me (q_var 2) (dm_cons (C .f_Told_handed (fun z => nomatch z)) (dm_cons (C .f_Made_handed (fun z => nomatch z)) dm_nil)) hr takes0 (q_cons (q_me (q_var 0) (dm_cons (C .f_Reckoner_held (fun z => nomatch z)) dm_nil) hr takes0 (q_cons (q_ix (q_var 1) q_int) (q_cons (q_var 4) q_nil))) q_nil)))) | exact (q_set (i := 3) nd rfl (by first | exact Or.inl rfl | exact Or.inr rfl) (q_lc (own := [("worth", 4)]) rfl nd (qi_list (q_me (q_var 0) (dm_cons (C .f_Reckoner_all_of (fun z => nomatch z)) dm_nil) hr tk (q_cons (q_ix (q_var 1) q_int) q_nil))) (blkOk_by (own := [("worth", 4)]) (by rfl)) (by decide) (fun _ _ _ _ _ => (q_gn (i := 4) nd rfl (by first | exact Or.inl rfl | exact Or.inr rfl))) (fun _ _ _ _ _ => qts_nil) (fun _ _ _ _ _ => (q_me (q_var 2) (dm_cons (C .f_Told_handed (fun z => nomatch z)) (dm_cons (C .f_Made_handed (fun z => nomatch z)) dm_nil)) hr takes0 (q_cons (q_me (q_var 0) (dm_cons (C .f_Reckoner_held (fun z => nomatch z)) dm_nil) hr takes0 (q_cons (q_ix (q_var 1) q_int) (q_cons (q_var 4) q_nil))) q_nil))))))
    (q_last (q_ret (q_callTy call_tuple_of tuple_v rfl T.m_tuple (by decide +kernel) (q_cons (q_lc (own := [("one", 5)]) rfl nd (qi_list (q_var 3)) (blkOk_by (own := [("one", 5)]) (by rfl)) (by decide) (fun _ _ _ _ _ => (q_gn (i := 5) nd rfl (by first | exact Or.inl rfl | exact Or.inr rfl))) (fun _ _ _ _ _ => qts_nil) (fun _ _ _ _ _ => (q_me (q_var 0) (dm_cons (C .f_Reckoner_told (fun z => nomatch z)) dm_nil) hr takes0 (q_cons (q_ix (q_var 1) q_int) (q_cons (q_var 5) q_nil))))) q_nil))))) q_snil)
    (q_last (q_ret (q_var 2)))))
theorem ok_Reckoner_worked {k : Nat} {cl cl2 : Fn → FF} [Wo] (T : Txt K w.params mg) (hW : Wo.ww = w) (C : ∀ g : Fn, g ≠ .f_law → calOf P w K mg base (k + 1) g (cl g)) (C2 : ∀ g : Fn, g ≠ .f_law → calOf P w K mg base k g (cl2 g)) (f : Addr) (cdv : Value) (A : Around) (outer : List Env) (s : Shared) (H : Hp) (E : XK) (hr : RoomG (k + 1) (A.deeper (envOfC "Reckoner.worked" (defScope s_Reckoner_worked) s.heap.objs.size f cdv))) :
    PSs (cxOf (L2.CX P w) P w K mg base ["self", "term", "things", "word", "one"] "Reckoner.worked" (defScope s_Reckoner_worked) f cdv A outer s H E) (defBody s_Reckoner_worked) (tS (cxOf (L2.CX P w) P w K mg base ["self", "term", "things", "word", "one"] "Reckoner.worked" (defScope s_Reckoner_worked) f cdv A outer s H E) (fun c d _ H => E c d H) (b_Reckoner_worked cl cl2)) := by
  have tk : Takes (cxOf (L2.CX P w) P w K mg base ["self", "term", "things", "word", "one"] "Reckoner.worked" (defScope s_Reckoner_worked) f cdv A outer s H E) (fun c d _ H => E c d H) := takes_of rfl rfl rfl rfl
  have nd := sc_Reckoner_worked.nd
  exact (q_seq (q_set (i := 3) nd rfl (by first | exact Or.inl rfl | exact Or.inr rfl) (q_ix (q_var 1) q_int))
    (q_seq (q_ifS (qt_cmp (op_eqU (by have z := hu2 hr; exact z)) eqP_v (q_var 3) q_str (nomark _)) (q_last (q_ret (q_ix (q_var 2) (q_ix (q_var 1) q_int)))) q_snil)
    (q_seq (q_ifS (qt_cmp (op_eqU (by have z := hu2 hr; exact z)) eqP_v (q_var 3) q_str (nomark _)) (q_last (q_ret (q_tup q_nil))) q_snil)
    (q_seq (q_ifS (qt_cmp (op_eqU (by have z := hu2 hr; exact z)) eqP_v (q_var 3) q_str (nomark _)) (q_last (q_ret (q_make (C2 .f_Made___init__ (fun z => nomatch z)) T.k_Made hr tk rfl (q_cons (q_var 0) (q_cons (q_ix (q_var 1) q_int) (q_cons (q_var 2) q_nil)))))) q_snil)
    (q_seq (q_set (i := 4) nd rfl (by first | exact Or.inl rfl | exact Or.inr rfl) (q_me (q_var 0) (dm_cons (C .f_Reckoner_worked (fun z => nomatch z)) dm_nil) hr tk (q_cons (q_ix (q_var 1) q_int) (q_cons (q_var 2) q_nil))))
    (q_seq (q_ifS (qt_cmp (op_eqU (by have z := hu2 hr; exact z)) eqP_v (q_var 3) q_str (nomark _)) (q_last (q_ret (q_me (q_var 4) (dm_cons (C .f_Told_handed (fun z => nomatch z)) (dm_cons (C .f_Made_handed (fun z => nomatch z)) dm_nil)) hr tk (q_cons (q_me (q_var 0) (dm_cons (C .f_Reckoner_worked (fun z => nomatch z)) dm_nil) hr tk (q_cons (q_ix (q_var 1) q_int) (q_cons (q_var 2) q_nil))) q_nil)))) q_snil)
    (q_seq (q_ifS (qt_cmp (op_eqU (by have z := hu2 hr; exact z)) eqP_v (q_var 3) q_str (nomark _)) (q_last (q_ret (q_tup (q_cons (q_var 4) (q_cons (q_me (q_var 0) (dm_cons (C .f_Reckoner_worked (fun z => nomatch z)) dm_nil) hr tk (q_cons (q_ix (q_var 1) q_int) (q_cons (q_var 2) q_nil))) q_nil))))) q_snil)
    (q_last (q_ret (q_ix (q_var 4) (q_callTy call_int1 int_v rfl T.m_int (by decide +kernel) (q_cons (q_cmp (op_eqU (by have z := hu2 hr; exact z)) eqP_v (q_var 3) q_str (nomark _)) q_nil))))))))))))
theorem ok_Told___init__ {k : Nat} {cl : Fn → FF} [Wo] (T : Txt K w.params mg) (hW : Wo.ww = w) (C : ∀ g : Fn, g ≠ .f_law → calOf P w K mg base k g (cl g)) (f : Addr) (cdv : Value) (A : Around) (outer : List Env) (s : Shared) (H : Hp) (E : XK) (hr : RoomG k (A.deeper (envOfC "Told.__init__" (defScope s_Told___init__) s.heap.objs.size f cdv))) :
    PSs (cxOf (L2.CX P w) P w K mg base ["self", "reckoner", "kind", "worth"] "Told.__init__" (defScope s_Told___init__) f cdv A outer s H E) (defBody s_Told___init__) (tS (cxOf (L2.CX P w) P w K mg base ["self", "reckoner", "kind", "worth"] "Told.__init__" (defScope s_Told___init__) f cdv A outer s H E) (fun c d _ H => E c d H) (b_Told___init__ cl)) := by
  have tk : Takes (cxOf (L2.CX P w) P w K mg base ["self", "reckoner", "kind", "worth"] "Told.__init__" (defScope s_Told___init__) f cdv A outer s H E) (fun c d _ H => E c d H) := takes_of rfl rfl rfl rfl
  have nd := sc_Told___init__.nd
  exact (q_seq (q_sfl (q_var 0) (q_var 1) T.g_reckoner)
    (q_seq (q_sfl (q_var 0) (q_var 2) T.g_kind)
    (q_last (q_sfl (q_var 0) (q_var 3) T.g_worth))))
theorem ok_Told_handed {k : Nat} {cl : Fn → FF} [Wo] (T : Txt K w.params mg) (hW : Wo.ww = w) (C : ∀ g : Fn, g ≠ .f_law → calOf P w K mg base k g (cl g)) (f : Addr) (cdv : Value) (A : Around) (outer : List Env) (s : Shared) (H : Hp) (E : XK) (hr : RoomG k (A.deeper (envOfC "Told.handed" (defScope s_Told_handed) s.heap.objs.size f cdv))) :
    PSs (cxOf (L2.CX P w) P w K mg base ["self", "thing", "one"] "Told.handed" (defScope s_Told_handed) f cdv A outer s H E) (defBody s_Told_handed) (tS (cxOf (L2.CX P w) P w K mg base ["self", "thing", "one"] "Told.handed" (defScope s_Told_handed) f cdv A outer s H E) (fun c d _ H => E c d H) (b_Told_handed cl)) := by
  have tk : Takes (cxOf (L2.CX P w) P w K mg base ["self", "thing", "one"] "Told.handed" (defScope s_Told_handed) f cdv A outer s H E) (fun c d _ H => E c d H) := takes_of rfl rfl rfl rfl
  have nd := sc_Told_handed.nd
  exact (q_seq (q_set (i := 2) nd rfl (by first | exact Or.inl rfl | exact Or.inr rfl) (q_me (q_fld (q_var 0) T.g_reckoner) (dm_cons (C .f_Reckoner_told (fun z => nomatch z)) dm_nil) hr tk (q_cons (q_ix (q_fld (q_var 0) T.g_kind) q_int) (q_cons (q_var 1) q_nil))))
    (q_seq (q_expr (q_me (q_fld (q_var 0) T.g_reckoner) (dm_cons (C .f_Reckoner_all_of (fun z => nomatch z)) dm_nil) hr tk (q_cons (q_ix (q_fld (q_var 0) T.g_kind) q_int) q_nil)))
    (q_last (q_ret (q_me (q_fld (q_var 0) T.g_reckoner) (dm_cons (C .f_Reckoner_held (fun z => nomatch z)) dm_nil) hr tk (q_cons (q_ix (q_fld (q_var 0) T.g_kind) q_int) (q_cons (q_ix (q_fld (q_var 0) T.g_worth) (q_dget hW (hu2 hr) (q_dget hW (hu2 hr) (q_fld (q_fld (q_var 0) T.g_reckoner) T.g_spots) (q_ix (q_fld (q_var 0) T.g_kind) q_int) (fun _ _ => rfl)) (q_var 2) (fun _ _ => rfl))) q_nil)))))))
theorem ok_Made___init__ {k : Nat} {cl : Fn → FF} [Wo] (T : Txt K w.params mg) (hW : Wo.ww = w) (C : ∀ g : Fn, g ≠ .f_law → calOf P w K mg base k g (cl g)) (f : Addr) (cdv : Value) (A : Around) (outer : List Env) (s : Shared) (H : Hp) (E : XK) (hr : RoomG k (A.deeper (envOfC "Made.__init__" (defScope s_Made___init__) s.heap.objs.size f cdv))) :
    PSs (cxOf (L2.CX P w) P w K mg base ["self", "reckoner", "body", "things"] "Made.__init__" (defScope s_Made___init__) f cdv A outer s H E) (defBody s_Made___init__) (tS (cxOf (L2.CX P w) P w K mg base ["self", "reckoner", "body", "things"] "Made.__init__" (defScope s_Made___init__) f cdv A outer s H E) (fun c d _ H => E c d H) (b_Made___init__ cl)) := by
  have tk : Takes (cxOf (L2.CX P w) P w K mg base ["self", "reckoner", "body", "things"] "Made.__init__" (defScope s_Made___init__) f cdv A outer s H E) (fun c d _ H => E c d H) := takes_of rfl rfl rfl rfl
  have nd := sc_Made___init__.nd
  exact (q_seq (q_sfl (q_var 0) (q_var 1) T.g_reckoner)
    (q_seq (q_sfl (q_var 0) (q_var 2) T.g_body)
    (q_last (q_sfl (q_var 0) (q_var 3) T.g_things))))
theorem ok_Made_handed {k : Nat} {cl : Fn → FF} [Wo] (T : Txt K w.params mg) (hW : Wo.ww = w) (C : ∀ g : Fn, g ≠ .f_law → calOf P w K mg base k g (cl g)) (f : Addr) (cdv : Value) (A : Around) (outer : List Env) (s : Shared) (H : Hp) (E : XK) (hr : RoomG k (A.deeper (envOfC "Made.handed" (defScope s_Made_handed) s.heap.objs.size f cdv))) :
    PSs (cxOf (L2.CX P w) P w K mg base ["self", "thing"] "Made.handed" (defScope s_Made_handed) f cdv A outer s H E) (defBody s_Made_handed) (tS (cxOf (L2.CX P w) P w K mg base ["self", "thing"] "Made.handed" (defScope s_Made_handed) f cdv A outer s H E) (fun c d _ H => E c d H) (b_Made_handed cl)) := by
  have tk : Takes (cxOf (L2.CX P w) P w K mg base ["self", "thing"] "Made.handed" (defScope s_Made_handed) f cdv A outer s H E) (fun c d _ H => E c d H) := takes_of rfl rfl rfl rfl
  have nd := sc_Made_handed.nd
  exact (q_last (q_ret (q_me (q_fld (q_var 0) T.g_reckoner) (dm_cons (C .f_Reckoner_worked (fun z => nomatch z)) dm_nil) hr tk (q_cons (q_fld (q_var 0) T.g_body) (q_cons (q_op op_addU addU_v (q_fld (q_var 0) T.g_things) (q_lst (q_cons (q_var 1) q_nil))) q_nil)))))
theorem ok_is_from {k : Nat} {cl : Fn → FF} [Wo] (T : Txt K w.params mg) (hW : Wo.ww = w) (C : ∀ g : Fn, g ≠ .f_law → calOf P w K mg base k g (cl g)) (f : Addr) (cdv : Value) (A : Around) (outer : List Env) (s : Shared) (H : Hp) (E : XK) (hr : RoomG k (A.deeper (envOfC "is_from" (defScope s_is_from) s.heap.objs.size f cdv))) :
    PSs (cxOf (L2.CX P w) P w K mg base ["thing", "low", "high"] "is_from" (defScope s_is_from) f cdv A outer s H E) (defBody s_is_from) (tS (cxOf (L2.CX P w) P w K mg base ["thing", "low", "high"] "is_from" (defScope s_is_from) f cdv A outer s H E) (fun c d _ H => E c d H) (b_is_from cl)) := by
  have tk : Takes (cxOf (L2.CX P w) P w K mg base ["thing", "low", "high"] "is_from" (defScope s_is_from) f cdv A outer s H E) (fun c d _ H => E c d H) := takes_of rfl rfl rfl rfl
  have nd := sc_is_from.nd
  exact (q_last (q_ret (q_and (q_isi rfl T.m_isinstance rfl T.m_int (by decide +kernel) (by decide) (q_var 0)) (q_and (q_not (q_isi rfl T.m_isinstance rfl T.m_bool (by decide +kernel) (by decide) (q_var 0))) (q_one (q_chain op_le (cmp_v _) op_le (cmp_v _) (q_var 1) (q_var 0) (q_var 2)))))))
theorem ok_inner_of {k : Nat} {cl : Fn → FF} [Wo] (T : Txt K w.params mg) (hW : Wo.ww = w) (C : ∀ g : Fn, g ≠ .f_law → calOf P w K mg base k g (cl g)) (f : Addr) (cdv : Value) (A : Around) (outer : List Env) (s : Shared) (H : Hp) (E : XK) (hr : RoomG k (A.deeper (envOfC "inner_of" (defScope s_inner_of) s.heap.objs.size f cdv))) :
    PSs (cxOf (L2.CX P w) P w K mg base ["thing"] "inner_of" (defScope s_inner_of) f cdv A outer s H E) (defBody s_inner_of) (tS (cxOf (L2.CX P w) P w K mg base ["thing"] "inner_of" (defScope s_inner_of) f cdv A outer s H E) (fun c d _ H => E c d H) (b_inner_of cl)) := by
  have tk : Takes (cxOf (L2.CX P w) P w K mg base ["thing"] "inner_of" (defScope s_inner_of) f cdv A outer s H E) (fun c d _ H => E c d H) := takes_of rfl rfl rfl rfl
  have nd := sc_inner_of.nd
  exact (q_seq (q_ifS (PW.pt (qw_or (qt_not (qt_tru (q_isi rfl T.m_isinstance rfl T.m_tuple (by decide +kernel) (by decide) (q_var 0)))) (qw_or (qt_cmp (op_eqU (by have z := hu2 hr; exact z)) eqP_v (q_callB call_len len_v rfl T.m_len PySem.boot_len (q_cons (q_var 0) q_nil)) q_int (nomark _)) (qw_one (qt_not (qt_tru (q_isi rfl T.m_isinstance rfl T.m_str (by decide +kernel) (by decide) (q_ix (q_var 0) q_int)))))))) (q_last (q_ret q_non)) q_snil)
    (q_seq (q_ifS (qt_cmp (op_eqU (by have z := hu2 hr; exact z)) eqP_v (q_ix (q_var 0) q_int) q_str (nomark _)) (q_last (q_ret (q_if (PW.pt (qw_and (qt_cmp (op_eqU (by have z := hu2 hr; exact z)) eqP_v (q_callB call_len len_v rfl T.m_len PySem.boot_len (q_cons (q_var 0) q_nil)) q_int (nomark _)) (qw_one (qt_tru (q_call (C .f_is_from (fun z => nomatch z)) hr tk rfl (q_cons (q_ix (q_var 0) q_int) (q_cons q_int (q_cons (q_op op_sub sub_v (q_callB call_len len_v rfl T.m_len PySem.boot_len (q_cons (q_gc T.c_LETTERS rfl) q_nil)) q_int) q_nil)))))))) (q_lst q_nil) q_non))) q_snil)
    (q_seq (q_ifS (qt_cmp (op_eqU (by have z := hu2 hr; exact z)) eqP_v (q_ix (q_var 0) q_int) q_str (nomark _)) (q_last (q_ret (q_if (qt_cmp (op_eqU (by have z := hu2 hr; exact z)) eqP_v (q_callB call_len len_v rfl T.m_len PySem.boot_len (q_cons (q_var 0) q_nil)) q_int (nomark _)) (q_lst q_nil) q_non))) q_snil)
    (q_last (q_ret (q_if (PW.pt (qw_and (qt_inG T.c_MARKS (q_ix (q_var 0) q_int) (q_gd T.c_MARKS rfl)) (qw_one (qt_cmp (op_eqU (by have z := hu2 hr; exact z)) eqP_v (q_callB call_len len_v rfl T.m_len PySem.boot_len (q_cons (q_var 0) q_nil)) q_int (nomark _))))) (q_callTy call_list_of list_v rfl T.m_list (by decide +kernel) (q_cons (q_slice (q_var 0) (q_some q_int) q_none) q_nil)) q_non))))))
theorem ok_is_kind {k : Nat} {cl : Fn → FF} [Wo] (T : Txt K w.params mg) (hW : Wo.ww = w) (C : ∀ g : Fn, g ≠ .f_law → calOf P w K mg base k g (cl g)) (f : Addr) (cdv : Value) (A : Around) (outer : List Env) (s : Shared) (H : Hp) (E : XK) (hr : RoomG k (A.deeper (envOfC "is_kind" (defScope s_is_kind) s.heap.objs.size f cdv))) :
    PSs (cxOf (L2.CX P w) P w K mg base ["thing", "left", "inner"] "is_kind" (defScope s_is_kind) f cdv A outer s H E) (defBody s_is_kind) (tS (cxOf (L2.CX P w) P w K mg base ["thing", "left", "inner"] "is_kind" (defScope s_is_kind) f cdv A outer s H E) (fun c d _ H => E c d H) (b_is_kind cl)) := by
  have tk : Takes (cxOf (L2.CX P w) P w K mg base ["thing", "left", "inner"] "is_kind" (defScope s_is_kind) f cdv A outer s H E) (fun c d _ H => E c d H) := takes_of rfl rfl rfl rfl
  have nd := sc_is_kind.nd
  exact (q_seq (q_set (i := 1) nd rfl (by first | exact Or.inl rfl | exact Or.inr rfl) (q_cel (q_cons (q_var 0) q_nil)))
    (q_seq (q_while (passes_of rfl) (qt_cmp (op_neU (by have z := hu2 hr; exact z)) neP_v (q_var 1) (q_lst q_nil) (nomark _)) (q_seq (q_set (i := 2) nd rfl (by first | exact Or.inl rfl | exact Or.inr rfl) (q_call (C .f_inner_of (fun z => nomatch z)) hr tk rfl (q_cons (q_mth0 PySem.F.slot_list_pop PySem.F.type_list_pop mt_pop pop0_v (q_var 1)) q_nil)))
    (q_seq (q_ifS (qt_cmp op_isU isU_v (q_var 2) q_non (nomark _)) (q_last (q_ret q_bl)) q_snil)
    (q_last (q_expr (q_mth PySem.F.slot_list_extend PySem.F.type_list_extend mt_extend extend_v (q_var 1) (q_cons (q_var 2) q_nil)))))))
    (q_last (q_ret q_bl))))
theorem ok_sure_kind {k : Nat} {cl : Fn → FF} [Wo] (T : Txt K w.params mg) (hW : Wo.ww = w) (C : ∀ g : Fn, g ≠ .f_law → calOf P w K mg base k g (cl g)) (f : Addr) (cdv : Value) (A : Around) (outer : List Env) (s : Shared) (H : Hp) (E : XK) (hr : RoomG k (A.deeper (envOfC "sure_kind" (defScope s_sure_kind) s.heap.objs.size f cdv))) :
    PSs (cxOf (L2.CX P w) P w K mg base ["thing"] "sure_kind" (defScope s_sure_kind) f cdv A outer s H E) (defBody s_sure_kind) (tS (cxOf (L2.CX P w) P w K mg base ["thing"] "sure_kind" (defScope s_sure_kind) f cdv A outer s H E) (fun c d _ H => E c d H) (b_sure_kind cl)) := by
  have tk : Takes (cxOf (L2.CX P w) P w K mg base ["thing"] "sure_kind" (defScope s_sure_kind) f cdv A outer s H E) (fun c d _ H => E c d H) := takes_of rfl rfl rfl rfl
  have nd := sc_sure_kind.nd
  exact (q_last (q_ifS (qt_not (qt_tru (q_call (C .f_is_kind (fun z => nomatch z)) hr tk rfl (q_cons (q_var 0) q_nil)))) (q_last (q_raise rfl tk T.x_NoKind rfl)) q_snil))
theorem ok_sure_sizes {k : Nat} {cl : Fn → FF} [Wo] (T : Txt K w.params mg) (hW : Wo.ww = w) (C : ∀ g : Fn, g ≠ .f_law → calOf P w K mg base k g (cl g)) (f : Addr) (cdv : Value) (A : Around) (outer : List Env) (s : Shared) (H : Hp) (E : XK) (hr : RoomG k (A.deeper (envOfC "sure_sizes" (defScope s_sure_sizes) s.heap.objs.size f cdv))) :
    PSs (cxOf (L2.CX P w) P w K mg base ["thing", "good", "size"] "sure_sizes" (defScope s_sure_sizes) f cdv A outer s H E) (defBody s_sure_sizes) (tS (cxOf (L2.CX P w) P w K mg base ["thing", "good", "size"] "sure_sizes" (defScope s_sure_sizes) f cdv A outer s H E) (fun c d _ H => E c d H) (b_sure_sizes cl)) := by
  have tk : Takes (cxOf (L2.CX P w) P w K mg base ["thing", "good", "size"] "sure_sizes" (defScope s_sure_sizes) f cdv A outer s H E) (fun c d _ H => E c d H) := takes_of rfl rfl rfl rfl
  have nd := sc_sure_sizes.nd
  exact (q_seq (q_set (i := 1) nd rfl (by first | exact Or.inl rfl | exact Or.inr rfl) (q_and (q_isi rfl T.m_isinstance rfl T.m_list (by decide +kernel) (by decide) (q_var 0)) (q_one (q_cmp (op_eqU (by have z := hu2 hr; exact z)) eqP_v (q_callB call_len len_v rfl T.m_len PySem.boot_len (q_cons (q_var 0) q_nil)) (q_gc T.c_BASES rfl) (nomark _)))))
    (q_last (q_ifS (PW.pt (qw_or (qt_not (qt_tru (q_var 1))) (qw_one (qt_not (qt_tru (q_callB (cr_all rfl) all_v rfl T.m_all (by decide +kernel) (q_cons (q_lc (own := [("size", 2)]) rfl nd (qi_list (q_var 0)) (blkOk_by (own := [("size", 2)]) (by rfl)) (by decide) (fun _ _ _ _ _ => (q_gn (i := 2) nd rfl (by first | exact Or.inl rfl | exact Or.inr rfl))) (fun _ _ _ _ _ => qts_nil) (fun _ _ _ _ _ => (q_call (C .f_is_from (fun z => nomatch z)) hr takes0 rfl (q_cons (q_var 2) (q_cons q_int (q_cons (q_gc T.c_MOST_SIZE rfl) q_nil)))))) q_nil))))))) (q_last (q_raise rfl tk T.x_NoSizes rfl)) q_snil)))
theorem ok_power_up_to {k : Nat} {cl : Fn → FF} [Wo] (T : Txt K w.params mg) (hW : Wo.ww = w) (C : ∀ g : Fn, g ≠ .f_law → calOf P w K mg base k g (cl g)) (f : Addr) (cdv : Value) (A : Around) (outer : List Env) (s : Shared) (H : Hp) (E : XK) (hr : RoomG k (A.deeper (envOfC "power_up_to" (defScope s_power_up_to) s.heap.objs.size f cdv))) :
    PSs (cxOf (L2.CX P w) P w K mg base ["base", "times", "found", "turn"] "power_up_to" (defScope s_power_up_to) f cdv A outer s H E) (defBody s_power_up_to) (tS (cxOf (L2.CX P w) P w K mg base ["base", "times", "found", "turn"] "power_up_to" (defScope s_power_up_to) f cdv A outer s H E) (fun c d _ H => E c d H) (b_power_up_to cl)) := by
  have tk : Takes (cxOf (L2.CX P w) P w K mg base ["base", "times", "found", "turn"] "power_up_to" (defScope s_power_up_to) f cdv A outer s H E) (fun c d _ H => E c d H) := takes_of rfl rfl rfl rfl
  have nd := sc_power_up_to.nd
  exact (q_seq (q_ifS (qt_cmp (op_eqU (by have z := hu2 hr; exact z)) eqP_v (q_var 0) q_int (nomark _)) (q_last (q_ret q_int)) q_snil)
    (q_seq (q_set (i := 2) nd rfl (by first | exact Or.inl rfl | exact Or.inr rfl) q_int)
    (q_seq (q_for (passes_of rfl) rfl (qi_range1 rfl T.m_range (q_cons (q_var 1) q_nil)) (q_gn (i := 3) nd rfl (by first | exact Or.inl rfl | exact Or.inr rfl)) (q_seq (q_set (i := 2) nd rfl (by first | exact Or.inl rfl | exact Or.inr rfl) (q_op op_mulU mulU_v (q_var 2) (q_var 0)))
    (q_last (q_ifS (qt_cmp op_gt (cmp_v _) (q_var 2) (q_gc T.c_MOST_WORTHS rfl) (nomark _)) (q_last (q_ret (q_op op_addU addU_v (q_gc T.c_MOST_WORTHS rfl) q_int))) q_snil))))
    (q_last (q_ret (q_var 2))))))
theorem ok_number_up_to {k : Nat} {cl : Fn → FF} [Wo] (T : Txt K w.params mg) (hW : Wo.ww = w) (C : ∀ g : Fn, g ≠ .f_law → calOf P w K mg base k g (cl g)) (f : Addr) (cdv : Value) (A : Around) (outer : List Env) (s : Shared) (H : Hp) (E : XK) (hr : RoomG k (A.deeper (envOfC "number_up_to" (defScope s_number_up_to) s.heap.objs.size f cdv))) :
    PSs (cxOf (L2.CX P w) P w K mg base ["kind", "sizes", "one", "other"] "number_up_to" (defScope s_number_up_to) f cdv A outer s H E) (defBody s_number_up_to) (tS (cxOf (L2.CX P w) P w K mg base ["kind", "sizes", "one", "other"] "number_up_to" (defScope s_number_up_to) f cdv A outer s H E) (fun c d _ H => E c d H) (b_number_up_to cl)) := by
  have tk : Takes (cxOf (L2.CX P w) P w K mg base ["kind", "sizes", "one", "other"] "number_up_to" (defScope s_number_up_to) f cdv A outer s H E) (fun c d _ H => E c d H) := takes_of rfl rfl rfl rfl
  have nd := sc_number_up_to.nd
  exact (q_seq (q_ifS (qt_cmp (op_eqU (by have z := hu2 hr; exact z)) eqP_v (q_ix (q_var 0) q_int) q_str (nomark _)) (q_last (q_ret (q_ix (q_var 1) (q_ix (q_var 0) q_int)))) q_snil)
    (q_seq (q_ifS (qt_cmp (op_eqU (by have z := hu2 hr; exact z)) eqP_v (q_ix (q_var 0) q_int) q_str (nomark _)) (q_last (q_ret q_int)) q_snil)
    (q_seq (q_set (i := 2) nd rfl (by first | exact Or.inl rfl | exact Or.inr rfl) (q_call (C .f_number_up_to (fun z => nomatch z)) hr tk rfl (q_cons (q_ix (q_var 0) q_int) (q_cons (q_var 1) q_nil))))
    (q_seq (q_set (i := 3) nd rfl (by first | exact Or.inl rfl | exact Or.inr rfl) (q_call (C .f_number_up_to (fun z => nomatch z)) hr tk rfl (q_cons (q_ix (q_var 0) q_int) (q_cons (q_var 1) q_nil))))
    (q_seq (q_ifS (qt_cmp (op_eqU (by have z := hu2 hr; exact z)) eqP_v (q_ix (q_var 0) q_int) q_str (nomark _)) (q_last (q_ret (q_callB (call_min2 rfl) min_v rfl T.m_min (by decide +kernel) (q_cons (q_op op_mulU mulU_v (q_var 2) (q_var 3)) (q_cons (q_op op_addU addU_v (q_gc T.c_MOST_WORTHS rfl) q_int) q_nil))))) q_snil)
    (q_last (q_ret (q_call (C .f_power_up_to (fun z => nomatch z)) hr tk rfl (q_cons (q_var 3) (q_cons (q_var 2) q_nil))))))))))
theorem ok_sure_taken {k : Nat} {cl : Fn → FF} [Wo] (T : Txt K w.params mg) (hW : Wo.ww = w) (C : ∀ g : Fn, g ≠ .f_law → calOf P w K mg base k g (cl g)) (f : Addr) (cdv : Value) (A : Around) (outer : List Env) (s : Shared) (H : Hp) (E : XK) (hr : RoomG k (A.deeper (envOfC "sure_taken" (defScope s_sure_taken) s.heap.objs.size f cdv))) :
    PSs (cxOf (L2.CX P w) P w K mg base ["kind", "sizes"] "sure_taken" (defScope s_sure_taken) f cdv A outer s H E) (defBody s_sure_taken) (tS (cxOf (L2.CX P w) P w K mg base ["kind", "sizes"] "sure_taken" (defScope s_sure_taken) f cdv A outer s H E) (fun c d _ H => E c d H) (b_sure_taken cl)) := by
  have tk : Takes (cxOf (L2.CX P w) P w K mg base ["kind", "sizes"] "sure_taken" (defScope s_sure_taken) f cdv A outer s H E) (fun c d _ H => E c d H) := takes_of rfl rfl rfl rfl
  have nd := sc_sure_taken.nd
  exact (q_last (q_ifS (qt_cmp (op_inU (by have z := hu2 hr; exact z)) inU_v (q_ix (q_var 0) q_int) (q_tup (q_cons q_str (q_cons q_str q_nil))) (by rfl)) (q_seq (q_ifS (PW.pt (qw_and (qt_cmp (op_eqU (by have z := hu2 hr; exact z)) eqP_v (q_ix (q_var 0) q_int) q_str (nomark _)) (qw_one (qt_cmp op_gt (cmp_v _) (q_call (C .f_number_up_to (fun z => nomatch z)) hr tk rfl (q_cons (q_ix (q_var 0) q_int) (q_cons (q_var 1) q_nil))) (q_gc T.c_MOST_WORTHS rfl) (nomark _))))) (q_last (q_raise rfl tk T.x_TooMany rfl)) q_snil)
    (q_seq (q_expr (q_call (C .f_sure_taken (fun z => nomatch z)) hr tk rfl (q_cons (q_ix (q_var 0) q_int) (q_cons (q_var 1) q_nil))))
    (q_last (q_expr (q_call (C .f_sure_taken (fun z => nomatch z)) hr tk rfl (q_cons (q_ix (q_var 0) q_int) (q_cons (q_var 1) q_nil))))))) q_snil))
theorem ok_lists_of {k : Nat} {cl : Fn → FF} [Wo] (T : Txt K w.params mg) (hW : Wo.ww = w) (C : ∀ g : Fn, g ≠ .f_law → calOf P w K mg base k g (cl g)) (f : Addr) (cdv : Value) (A : Around) (outer : List Env) (s : Shared) (H : Hp) (E : XK) (hr : RoomG k (A.deeper (envOfC "lists_of" (defScope s_lists_of) s.heap.objs.size f cdv))) :
    PSs (cxOf (L2.CX P w) P w K mg base ["things", "many", "found", "place", "row", "thing"] "lists_of" (defScope s_lists_of) f cdv A outer s H E) (defBody s_lists_of) (tS (cxOf (L2.CX P w) P w K mg base ["things", "many", "found", "place", "row", "thing"] "lists_of" (defScope s_lists_of) f cdv A outer s H E) (fun c d _ H => E c d H) (b_lists_of cl)) := by
  have tk : Takes (cxOf (L2.CX P w) P w K mg base ["things", "many", "found", "place", "row", "thing"] "lists_of" (defScope s_lists_of) f cdv A outer s H E) (fun c d _ H => E c d H) := takes_of rfl rfl rfl rfl
  have nd := sc_lists_of.nd
  exact (q_seq (q_set (i := 2) nd rfl (by first | exact Or.inl rfl | exact Or.inr rfl) (q_lst (q_cons (q_tup q_nil) q_nil)))
    (q_seq (q_for (passes_of rfl) rfl (qi_range1 rfl T.m_range (q_cons (q_var 1) q_nil)) (q_gn (i := 3) nd rfl (by first | exact Or.inl rfl | exact Or.inr rfl)) (q_last (by first | exact (q_setLc2 (i := 2) (own := [("row", 4), ("thing", 5)]) rfl nd rfl rfl (sw_true rfl rfl rfl (by decide +kernel)) (qi_list (q_var 2)) (blkOk_by (own := [("row", 4), ("thing", 5)]) (by rfl)) (by decide) (by decide) (by decide) (fun _ _ _ _ _ => (q_gn (i := 4) nd rfl (by first | exact Or.inl rfl | exact Or.inr rfl))) (fun _ _ _ _ _ => (qi_list (q_var 0))) (fun _ _ _ _ _ => (q_gn (i := 5) nd rfl (by first | exact Or.inl rfl | exact Or.inr rfl))) (fun _ _ _ _ _ => (q_op op_addU addU_v (q_var 4) (q_tup (q_cons (q_var 5) q_nil))))) | exact (q_set (i := 2) nd rfl (by first | exact Or.inl rfl | exact Or.inr rfl) (q_lc2 (own := [("row", 4), ("thing", 5)]) rfl nd (qi_list (q_var 2)) (blkOk_by (own := [("row", 4), ("thing", 5)]) (by rfl)) (by decide) (by decide) (by decide) (fun _ _ _ _ _ => (q_gn (i := 4) nd rfl (by first | exact Or.inl rfl | exact Or.inr rfl))) (fun _ _ _ _ _ => (qi_list (q_var 0))) (fun _ _ _ _ _ => (q_gn (i := 5) nd rfl (by first | exact Or.inl rfl | exact Or.inr rfl))) (fun _ _ _ _ _ => (q_op op_addU addU_v (q_var 4) (q_tup (q_cons (q_var 5) q_nil)))))))))
    (q_last (q_ret (q_var 2)))))
theorem ok_all_worths {k : Nat} {cl : Fn → FF} [Wo] (T : Txt K w.params mg) (hW : Wo.ww = w) (C : ∀ g : Fn, g ≠ .f_law → calOf P w K mg base k g (cl g)) (f : Addr) (cdv : Value) (A : Around) (outer : List Env) (s : Shared) (H : Hp) (E : XK) (hr : RoomG k (A.deeper (envOfC "all_worths" (defScope s_all_worths) s.heap.objs.size f cdv))) :
    PSs (cxOf (L2.CX P w) P w K mg base ["kind", "sizes", "others", "one", "other"] "all_worths" (defScope s_all_worths) f cdv A outer s H E) (defBody s_all_worths) (tS (cxOf (L2.CX P w) P w K mg base ["kind", "sizes", "others", "one", "other"] "all_worths" (defScope s_all_worths) f cdv A outer s H E) (fun c d _ H => E c d H) (b_all_worths cl)) := by
  have tk : Takes (cxOf (L2.CX P w) P w K mg base ["kind", "sizes", "others", "one", "other"] "all_worths" (defScope s_all_worths) f cdv A outer s H E) (fun c d _ H => E c d H) := takes_of rfl rfl rfl rfl
  have nd := sc_all_worths.nd
  exact (q_seq (q_ifS (qt_cmp (op_eqU (by have z := hu2 hr; exact z)) eqP_v (q_ix (q_var 0) q_int) q_str (nomark _)) (q_last (q_ret (q_listRg rfl rfl T.m_list rfl T.m_range (q_ix (q_var 1) (q_ix (q_var 0) q_int))))) q_snil)
    (q_seq (q_ifS (qt_cmp (op_eqU (by have z := hu2 hr; exact z)) eqP_v (q_ix (q_var 0) q_int) q_str (nomark _)) (q_last (q_ret (q_lst (q_cons (q_tup q_nil) q_nil)))) q_snil)
    (q_seq (q_set (i := 2) nd rfl (by first | exact Or.inl rfl | exact Or.inr rfl) (q_call (C .f_all_worths (fun z => nomatch z)) hr tk rfl (q_cons (q_ix (q_var 0) q_int) (q_cons (q_var 1) q_nil))))
    (q_seq (q_ifS (qt_cmp (op_eqU (by have z := hu2 hr; exact z)) eqP_v (q_ix (q_var 0) q_int) q_str (nomark _)) (q_last (q_ret (q_call (C .f_lists_of (fun z => nomatch z)) hr tk rfl (q_cons (q_var 2) (q_cons (q_call (C .f_number_up_to (fun z => nomatch z)) hr tk rfl (q_cons (q_ix (q_var 0) q_int) (q_cons (q_var 1) q_nil))) q_nil))))) q_snil)
    (q_last (q_ret (q_lc2 (own := [("one", 3), ("other", 4)]) rfl nd (qi_list (q_call (C .f_all_worths (fun z => nomatch z)) hr tk rfl (q_cons (q_ix (q_var 0) q_int) (q_cons (q_var 1) q_nil)))) (blkOk_by (own := [("one", 3), ("other", 4)]) (by rfl)) (by decide) (by decide) (by decide) (fun _ _ _ _ _ => (q_gn (i := 3) nd rfl (by first | exact Or.inl rfl | exact Or.inr rfl))) (fun _ _ _ _ _ => (qi_list (q_var 2))) (fun _ _ _ _ _ => (q_gn (i := 4) nd rfl (by first | exact Or.inl rfl | exact Or.inr rfl))) (fun _ _ _ _ _ => (q_tup (q_cons (q_var 3) (q_cons (q_var 4) q_nil)))))))))))
theorem ok_worths {k : Nat} {cl : Fn → FF} [Wo] (T : Txt K w.params mg) (hW : Wo.ww = w) (C : ∀ g : Fn, g ≠ .f_law → calOf P w K mg base k g (cl g)) (f : Addr) (cdv : Value) (A : Around) (outer : List Env) (s : Shared) (H : Hp) (E : XK) (hr : RoomG k (A.deeper (envOfC "worths" (defScope s_worths) s.heap.objs.size f cdv))) :
    PSs (cxOf (L2.CX P w) P w K mg base ["kind", "sizes"] "worths" (defScope s_worths) f cdv A outer s H E) (defBody s_worths) (tS (cxOf (L2.CX P w) P w K mg base ["kind", "sizes"] "worths" (defScope s_worths) f cdv A outer s H E) (fun c d _ H => E c d H) (b_worths cl)) := by
  have tk : Takes (cxOf (L2.CX P w) P w K mg base ["kind", "sizes"] "worths" (defScope s_worths) f cdv A outer s H E) (fun c d _ H => E c d H) := takes_of rfl rfl rfl rfl
  have nd := sc_worths.nd
  exact (q_seq (q_expr (q_call (C .f_sure_kind (fun z => nomatch z)) hr tk rfl (q_cons (q_var 0) q_nil)))
    (q_seq (q_expr (q_call (C .f_sure_sizes (fun z => nomatch z)) hr tk rfl (q_cons (q_var 1) q_nil)))
    (q_seq (q_expr (q_call (C .f_sure_taken (fun z => nomatch z)) hr tk rfl (q_cons (q_var 0) (q_cons (q_var 1) q_nil))))
    (q_seq (q_ifS (qt_cmp op_gt (cmp_v _) (q_call (C .f_number_up_to (fun z => nomatch z)) hr tk rfl (q_cons (q_var 0) (q_cons (q_var 1) q_nil))) (q_gc T.c_MOST_WORTHS rfl) (nomark _)) (q_last (q_raise rfl tk T.x_TooMany rfl)) q_snil)
    (q_last (q_ret (q_call (C .f_all_worths (fun z => nomatch z)) hr tk rfl (q_cons (q_var 0) (q_cons (q_var 1) q_nil)))))))))
theorem ok_is_plain_worth {k : Nat} {cl : Fn → FF} [Wo] (T : Txt K w.params mg) (hW : Wo.ww = w) (C : ∀ g : Fn, g ≠ .f_law → calOf P w K mg base k g (cl g)) (f : Addr) (cdv : Value) (A : Around) (outer : List Env) (s : Shared) (H : Hp) (E : XK) (hr : RoomG k (A.deeper (envOfC "is_plain_worth" (defScope s_is_plain_worth) s.heap.objs.size f cdv))) :
    PSs (cxOf (L2.CX P w) P w K mg base ["kind", "sizes", "thing", "one"] "is_plain_worth" (defScope s_is_plain_worth) f cdv A outer s H E) (defBody s_is_plain_worth) (tS (cxOf (L2.CX P w) P w K mg base ["kind", "sizes", "thing", "one"] "is_plain_worth" (defScope s_is_plain_worth) f cdv A outer s H E) (fun c d _ H => E c d H) (b_is_plain_worth cl)) := by
  have tk : Takes (cxOf (L2.CX P w) P w K mg base ["kind", "sizes", "thing", "one"] "is_plain_worth" (defScope s_is_plain_worth) f cdv A outer s H E) (fun c d _ H => E c d H) := takes_of rfl rfl rfl rfl
  have nd := sc_is_plain_worth.nd
  exact (q_seq (q_ifS (qt_cmp (op_eqU (by have z := hu2 hr; exact z)) eqP_v (q_ix (q_var 0) q_int) q_str (nomark _)) (q_last (q_ret (q_call (C .f_is_from (fun z => nomatch z)) hr tk rfl (q_cons (q_var 2) (q_cons q_int (q_cons (q_op op_sub sub_v (q_ix (q_var 1) (q_ix (q_var 0) q_int)) q_int) q_nil)))))) q_snil)
    (q_seq (q_ifS (qt_not (qt_tru (q_isi rfl T.m_isinstance rfl T.m_tuple (by decide +kernel) (by decide) (q_var 2)))) (q_last (q_ret q_bl)) q_snil)
    (q_seq (q_ifS (qt_cmp (op_eqU (by have z := hu2 hr; exact z)) eqP_v (q_ix (q_var 0) q_int) q_str (nomark _)) (q_last (q_ret (q_cmp (op_eqU (by have z := hu2 hr; exact z)) eqP_v (q_var 2) (q_tup q_nil) (nomark _)))) q_snil)
    (q_seq (q_ifS (qt_cmp (op_eqU (by have z := hu2 hr; exact z)) eqP_v (q_ix (q_var 0) q_int) q_str (nomark _)) (q_seq (q_ifS (qt_cmp (op_neU (by have z := hu2 hr; exact z)) neP_v (q_callB call_len len_v rfl T.m_len PySem.boot_len (q_cons (q_var 2) q_nil)) (q_call (C .f_number_up_to (fun z => nomatch z)) hr tk rfl (q_cons (q_ix (q_var 0) q_int) (q_cons (q_var 1) q_nil))) (nomark _)) (q_last (q_ret q_bl)) q_snil)
    (q_last (q_ret (q_callB (cr_all rfl) all_v rfl T.m_all (by decide +kernel) (q_cons (q_lc (own := [("one", 3)]) rfl nd (qi_tup (q_var 2)) (blkOk_by (own := [("one", 3)]) (by rfl)) (by decide) (fun _ _ _ _ _ => (q_gn (i := 3) nd rfl (by first | exact Or.inl rfl | exact Or.inr rfl))) (fun _ _ _ _ _ => qts_nil) (fun _ _ _ _ _ => (q_call (C .f_is_plain_worth (fun z => nomatch z)) hr takes0 rfl (q_cons (q_ix (q_var 0) q_int) (q_cons (q_var 1) (q_cons (q_var 3) q_nil)))))) q_nil))))) q_snil)
    (q_seq (q_ifS (qt_cmp (op_neU (by have z := hu2 hr; exact z)) neP_v (q_callB call_len len_v rfl T.m_len PySem.boot_len (q_cons (q_var 2) q_nil)) q_int (nomark _)) (q_last (q_ret q_bl)) q_snil)
    (q_last (q_ret (q_and (q_call (C .f_is_plain_worth (fun z => nomatch z)) hr tk rfl (q_cons (q_ix (q_var 0) q_int) (q_cons (q_var 1) (q_cons (q_ix (q_var 2) q_int) q_nil)))) (q_one (q_call (C .f_is_plain_worth (fun z => nomatch z)) hr tk rfl (q_cons (q_ix (q_var 0) q_int) (q_cons (q_var 1) (q_cons (q_ix (q_var 2) q_int) q_nil)))))))))))))
theorem ok_is_worth {k : Nat} {cl : Fn → FF} [Wo] (T : Txt K w.params mg) (hW : Wo.ww = w) (C : ∀ g : Fn, g ≠ .f_law → calOf P w K mg base k g (cl g)) (f : Addr) (cdv : Value) (A : Around) (outer : List Env) (s : Shared) (H : Hp) (E : XK) (hr : RoomG k (A.deeper (envOfC "is_worth" (defScope s_is_worth) s.heap.objs.size f cdv))) :
    PSs (cxOf (L2.CX P w) P w K mg base ["kind", "sizes", "thing"] "is_worth" (defScope s_is_worth) f cdv A outer s H E) (defBody s_is_worth) (tS (cxOf (L2.CX P w) P w K mg base ["kind", "sizes", "thing"] "is_worth" (defScope s_is_worth) f cdv A outer s H E) (fun c d _ H => E c d H) (b_is_worth cl)) := by
  have tk : Takes (cxOf (L2.CX P w) P w K mg base ["kind", "sizes", "thing"] "is_worth" (defScope s_is_worth) f cdv A outer s H E) (fun c d _ H => E c d H) := takes_of rfl rfl rfl rfl
  have nd := sc_is_worth.nd
  exact (q_seq (q_expr (q_call (C .f_sure_kind (fun z => nomatch z)) hr tk rfl (q_cons (q_var 0) q_nil)))
    (q_seq (q_expr (q_call (C .f_sure_sizes (fun z => nomatch z)) hr tk rfl (q_cons (q_var 1) q_nil)))
    (q_seq (q_expr (q_call (C .f_sure_taken (fun z => nomatch z)) hr tk rfl (q_cons (q_var 0) (q_cons (q_var 1) q_nil))))
    (q_last (q_ret (q_call (C .f_is_plain_worth (fun z => nomatch z)) hr tk rfl (q_cons (q_var 0) (q_cons (q_var 1) (q_cons (q_var 2) q_nil)))))))))
theorem ok_is_shape {k : Nat} {cl : Fn → FF} [Wo] (T : Txt K w.params mg) (hW : Wo.ww = w) (C : ∀ g : Fn, g ≠ .f_law → calOf P w K mg base k g (cl g)) (f : Addr) (cdv : Value) (A : Around) (outer : List Env) (s : Shared) (H : Hp) (E : XK) (hr : RoomG k (A.deeper (envOfC "is_shape" (defScope s_is_shape) s.heap.objs.size f cdv))) :
    PSs (cxOf (L2.CX P w) P w K mg base ["thing"] "is_shape" (defScope s_is_shape) f cdv A outer s H E) (defBody s_is_shape) (tS (cxOf (L2.CX P w) P w K mg base ["thing"] "is_shape" (defScope s_is_shape) f cdv A outer s H E) (fun c d _ H => E c d H) (b_is_shape cl)) := by
  have tk : Takes (cxOf (L2.CX P w) P w K mg base ["thing"] "is_shape" (defScope s_is_shape) f cdv A outer s H E) (fun c d _ H => E c d H) := takes_of rfl rfl rfl rfl
  have nd := sc_is_shape.nd
  exact (q_seq (q_ifS (PW.pt (qw_or (qt_not (qt_tru (q_isi rfl T.m_isinstance rfl T.m_tuple (by decide +kernel) (by decide) (q_var 0)))) (qw_or (qt_cmp (op_eqU (by have z := hu2 hr; exact z)) eqP_v (q_callB call_len len_v rfl T.m_len PySem.boot_len (q_cons (q_var 0) q_nil)) q_int (nomark _)) (qw_one (qt_not (qt_tru (q_isi rfl T.m_isinstance rfl T.m_str (by decide +kernel) (by decide) (q_ix (q_var 0) q_int)))))))) (q_last (q_ret q_bl)) q_snil)
    (q_last (q_ret (q_cmp (op_eqU (by have z := hu2 hr; exact z)) eqP_v (q_getG T.c_PARTS (q_gd T.c_PARTS rfl) (q_ix (q_var 0) q_int)) (q_callB call_len len_v rfl T.m_len PySem.boot_len (q_cons (q_var 0) q_nil)) (nomark _)))))
theorem ok_kind_of_given {k : Nat} {cl : Fn → FF} [Wo] (T : Txt K w.params mg) (hW : Wo.ww = w) (C : ∀ g : Fn, g ≠ .f_law → calOf P w K mg base k g (cl g)) (f : Addr) (cdv : Value) (A : Around) (outer : List Env) (s : Shared) (H : Hp) (E : XK) (hr : RoomG k (A.deeper (envOfC "kind_of_given" (defScope s_kind_of_given) s.heap.objs.size f cdv))) :
    PSs (cxOf (L2.CX P w) P w K mg base ["k", "given"] "kind_of_given" (defScope s_kind_of_given) f cdv A outer s H E) (defBody s_kind_of_given) (tS (cxOf (L2.CX P w) P w K mg base ["k", "given"] "kind_of_given" (defScope s_kind_of_given) f cdv A outer s H E) (fun c d _ H => E c d H) (b_kind_of_given cl)) := by
  have tk : Takes (cxOf (L2.CX P w) P w K mg base ["k", "given"] "kind_of_given" (defScope s_kind_of_given) f cdv A outer s H E) (fun c d _ H => E c d H) := takes_of rfl rfl rfl rfl
  have nd := sc_kind_of_given.nd
  exact (q_seq (q_ifS (PW.pt (qw_or (qt_not (qt_tru (q_isi rfl T.m_isinstance rfl T.m_int (by decide +kernel) (by decide) (q_var 0)))) (qw_or (qt_tru (q_isi rfl T.m_isinstance rfl T.m_bool (by decide +kernel) (by decide) (q_var 0))) (qw_one (qt_not (qt_chain op_le (cmp_v _) op_lt (cmp_v _) q_int (q_var 0) (q_callB call_len len_v rfl T.m_len PySem.boot_len (q_cons (q_var 1) q_nil)))))))) (q_last (q_ret q_non)) q_snil)
    (q_last (q_ret (q_ix (q_var 1) (q_var 0)))))
theorem ok_kind_of_two {k : Nat} {cl : Fn → FF} [Wo] (T : Txt K w.params mg) (hW : Wo.ww = w) (C : ∀ g : Fn, g ≠ .f_law → calOf P w K mg base k g (cl g)) (f : Addr) (cdv : Value) (A : Around) (outer : List Env) (s : Shared) (H : Hp) (E : XK) (hr : RoomG k (A.deeper (envOfC "kind_of_two" (defScope s_kind_of_two) s.heap.objs.size f cdv))) :
    PSs (cxOf (L2.CX P w) P w K mg base ["word", "one", "other"] "kind_of_two" (defScope s_kind_of_two) f cdv A outer s H E) (defBody s_kind_of_two) (tS (cxOf (L2.CX P w) P w K mg base ["word", "one", "other"] "kind_of_two" (defScope s_kind_of_two) f cdv A outer s H E) (fun c d _ H => E c d H) (b_kind_of_two cl)) := by
  have tk : Takes (cxOf (L2.CX P w) P w K mg base ["word", "one", "other"] "kind_of_two" (defScope s_kind_of_two) f cdv A outer s H E) (fun c d _ H => E c d H) := takes_of rfl rfl rfl rfl
  have nd := sc_kind_of_two.nd
  exact (q_seq (q_ifS (PW.pt (qw_or (qt_cmp op_isU isU_v (q_var 1) q_non (nomark _)) (qw_one (qt_cmp op_isU isU_v (q_var 2) q_non (nomark _))))) (q_last (q_ret q_non)) q_snil)
    (q_seq (q_ifS (qt_cmp (op_eqU (by have z := hu2 hr; exact z)) eqP_v (q_var 0) q_str (nomark _)) (q_last (q_ret (q_tup (q_cons q_str (q_cons (q_var 1) (q_cons (q_var 2) q_nil)))))) q_snil)
    (q_last (q_ret (q_if (PW.pt (qw_and (qt_cmp (op_eqU (by have z := hu2 hr; exact z)) eqP_v (q_ix (q_var 1) q_int) q_str (nomark _)) (qw_one (qt_cmp (op_eqU (by have z := hu2 hr; exact z)) eqP_v (q_ix (q_var 1) q_int) (q_var 2) (nomark _))))) (q_ix (q_var 1) q_int) q_non)))))
theorem ok_kind_in {k : Nat} {cl : Fn → FF} [Wo] (T : Txt K w.params mg) (hW : Wo.ww = w) (C : ∀ g : Fn, g ≠ .f_law → calOf P w K mg base k g (cl g)) (f : Addr) (cdv : Value) (A : Around) (outer : List Env) (s : Shared) (H : Hp) (E : XK) (hr : RoomG k (A.deeper (envOfC "kind_in" (defScope s_kind_in) s.heap.objs.size f cdv))) :
    PSs (cxOf (L2.CX P w) P w K mg base ["term", "given", "word", "one", "body"] "kind_in" (defScope s_kind_in) f cdv A outer s H E) (defBody s_kind_in) (tS (cxOf (L2.CX P w) P w K mg base ["term", "given", "word", "one", "body"] "kind_in" (defScope s_kind_in) f cdv A outer s H E) (fun c d _ H => E c d H) (b_kind_in cl)) := by
  have tk : Takes (cxOf (L2.CX P w) P w K mg base ["term", "given", "word", "one", "body"] "kind_in" (defScope s_kind_in) f cdv A outer s H E) (fun c d _ H => E c d H) := takes_of rfl rfl rfl rfl
  have nd := sc_kind_in.nd
  exact (q_seq (q_ifS (qt_not (qt_tru (q_call (C .f_is_shape (fun z => nomatch z)) hr tk rfl (q_cons (q_var 0) q_nil)))) (q_last (q_ret q_non)) q_snil)
    (q_seq (q_set (i := 2) nd rfl (by first | exact Or.inl rfl | exact Or.inr rfl) (q_ix (q_var 0) q_int))
    (q_seq (q_ifS (qt_cmp (op_eqU (by have z := hu2 hr; exact z)) eqP_v (q_var 2) q_str (nomark _)) (q_last (q_ret (q_tup (q_cons q_str q_nil)))) q_snil)
    (q_seq (q_ifS (qt_cmp (op_eqU (by have z := hu2 hr; exact z)) eqP_v (q_var 2) q_str (nomark _)) (q_last (q_ret (q_call (C .f_kind_of_given (fun z => nomatch z)) hr tk rfl (q_cons (q_ix (q_var 0) q_int) (q_cons (q_var 1) q_nil))))) q_snil)
    (q_seq (q_ifS (qt_cmp (op_eqU (by have z := hu2 hr; exact z)) eqP_v (q_var 2) q_str (nomark _)) (q_seq (q_set (i := 4) nd rfl (by first | exact Or.inl rfl | exact Or.inr rfl) (q_if (qt_tru (q_call (C .f_is_kind (fun z => nomatch z)) hr tk rfl (q_cons (q_ix (q_var 0) q_int) q_nil))) (q_call (C .f_kind_in (fun z => nomatch z)) hr tk rfl (q_cons (q_ix (q_var 0) q_int) (q_cons (q_op op_addU addU_v (q_var 1) (q_lst (q_cons (q_ix (q_var 0) q_int) q_nil))) q_nil))) q_non))
    (q_last (q_ret (q_if (qt_cmp op_isU isU_v (q_var 4) q_non (nomark _)) q_non (q_tup (q_cons q_str (q_cons (q_ix (q_var 0) q_int) (q_cons (q_var 4) q_nil)))))))) q_snil)
    (q_seq (q_set (i := 3) nd rfl (by first | exact Or.inl rfl | exact Or.inr rfl) (q_call (C .f_kind_in (fun z => nomatch z)) hr tk rfl (q_cons (q_ix (q_var 0) q_int) (q_cons (q_var 1) q_nil))))
    (q_seq (q_ifS (qt_cmp (op_inU (by have z := hu2 hr; exact z)) inU_v (q_var 2) (q_tup (q_cons q_str (q_cons q_str q_nil))) (by rfl)) (q_last (q_ret (q_call (C .f_kind_of_two (fun z => nomatch z)) hr tk rfl (q_cons (q_var 2) (q_cons (q_var 3) (q_cons (q_call (C .f_kind_in (fun z => nomatch z)) hr tk rfl (q_cons (q_ix (q_var 0) q_int) (q_cons (q_var 1) q_nil))) q_nil)))))) q_snil)
    (q_seq (q_ifS (PW.pt (qw_or (qt_cmp op_isU isU_v (q_var 3) q_non (nomark _)) (qw_one (qt_cmp (op_neU (by have z := hu2 hr; exact z)) neP_v (q_ix (q_var 3) q_int) q_str (nomark _))))) (q_last (q_ret q_non)) q_snil)
    (q_last (q_ret (q_if (qt_cmp (op_eqU (by have z := hu2 hr; exact z)) eqP_v (q_var 2) q_str (nomark _)) (q_ix (q_var 3) q_int) (q_ix (q_var 3) q_int))))))))))))
theorem ok_sure_kind_in {k : Nat} {cl : Fn → FF} [Wo] (T : Txt K w.params mg) (hW : Wo.ww = w) (C : ∀ g : Fn, g ≠ .f_law → calOf P w K mg base k g (cl g)) (f : Addr) (cdv : Value) (A : Around) (outer : List Env) (s : Shared) (H : Hp) (E : XK) (hr : RoomG k (A.deeper (envOfC "sure_kind_in" (defScope s_sure_kind_in) s.heap.objs.size f cdv))) :
    PSs (cxOf (L2.CX P w) P w K mg base ["term", "given", "found"] "sure_kind_in" (defScope s_sure_kind_in) f cdv A outer s H E) (defBody s_sure_kind_in) (tS (cxOf (L2.CX P w) P w K mg base ["term", "given", "found"] "sure_kind_in" (defScope s_sure_kind_in) f cdv A outer s H E) (fun c d _ H => E c d H) (b_sure_kind_in cl)) := by
  have tk : Takes (cxOf (L2.CX P w) P w K mg base ["term", "given", "found"] "sure_kind_in" (defScope s_sure_kind_in) f cdv A outer s H E) (fun c d _ H => E c d H) := takes_of rfl rfl rfl rfl
  have nd := sc_sure_kind_in.nd
  exact (q_seq (q_set (i := 2) nd rfl (by first | exact Or.inl rfl | exact Or.inr rfl) (q_call (C .f_kind_in (fun z => nomatch z)) hr tk rfl (q_cons (q_var 0) (q_cons (q_var 1) q_nil))))
    (q_seq (q_ifS (qt_cmp op_isU isU_v (q_var 2) q_non (nomark _)) (q_last (q_raise rfl tk T.x_NoTerm rfl)) q_snil)
    (q_last (q_ret (q_var 2)))))
theorem ok_done {k : Nat} {cl cl2 : Fn → FF} [Wo] (T : Txt K w.params mg) (hW : Wo.ww = w) (C : ∀ g : Fn, g ≠ .f_law → calOf P w K mg base (k + 1) g (cl g)) (C2 : ∀ g : Fn, g ≠ .f_law → calOf P w K mg base k g (cl2 g)) (f : Addr) (cdv : Value) (A : Around) (outer : List Env) (s : Shared) (H : Hp) (E : XK) (hr : RoomG (k + 1) (A.deeper (envOfC "done" (defScope s_done) s.heap.objs.size f cdv))) :
    PSs (cxOf (L2.CX P w) P w K mg base ["term", "sizes", "worth", "kind", "reckoner"] "done" (defScope s_done) f cdv A outer s H E) (defBody s_done) (tS (cxOf (L2.CX P w) P w K mg base ["term", "sizes", "worth", "kind", "reckoner"] "done" (defScope s_done) f cdv A outer s H E) (fun c d _ H => E c d H) (b_done cl cl2)) := by
  have tk : Takes (cxOf (L2.CX P w) P w K mg base ["term", "sizes", "worth", "kind", "reckoner"] "done" (defScope s_done) f cdv A outer s H E) (fun c d _ H => E c d H) := takes_of rfl rfl rfl rfl
  have nd := sc_done.nd
  exact (q_seq (q_set (i := 3) nd rfl (by first | exact Or.inl rfl | exact Or.inr rfl) (q_call (C .f_sure_kind_in (fun z => nomatch z)) hr tk rfl (q_cons (q_var 0) (q_cons (q_lst q_nil) q_nil))))
    (q_seq (q_ifS (qt_cmp (op_neU (by have z := hu2 hr; exact z)) neP_v (q_ix (q_var 3) q_int) q_str (nomark _)) (q_last (q_raise rfl tk T.x_NoTerm rfl)) q_snil)
    (q_seq (q_expr (q_call (C .f_sure_sizes (fun z => nomatch z)) hr tk rfl (q_cons (q_var 1) q_nil)))
    (q_seq (q_expr (q_call (C .f_sure_taken (fun z => nomatch z)) hr tk rfl (q_cons (q_ix (q_var 3) q_int) (q_cons (q_var 1) q_nil))))
    (q_seq (q_expr (q_call (C .f_sure_taken (fun z => nomatch z)) hr tk rfl (q_cons (q_ix (q_var 3) q_int) (q_cons (q_var 1) q_nil))))
    (q_seq (q_ifS (qt_not (qt_tru (q_call (C .f_is_worth (fun z => nomatch z)) hr tk rfl (q_cons (q_ix (q_var 3) q_int) (q_cons (q_var 1) (q_cons (q_var 2) q_nil)))))) (q_last (q_raise rfl tk T.x_NoWorth rfl)) q_snil)
    (q_seq (q_set (i := 4) nd rfl (by first | exact Or.inl rfl | exact Or.inr rfl) (q_make2 (C2 .f_Reckoner___init__ (fun z => nomatch z)) T.k_Reckoner hr tk rfl (q_cons (q_var 1) q_nil)))
    (q_last (q_ret (q_me (q_var 4) (dm_cons (C .f_Reckoner_told (fun z => nomatch z)) dm_nil) hr tk (q_cons (q_ix (q_var 3) q_int) (q_cons (q_me (q_me (q_var 4) (dm_cons (C .f_Reckoner_worked (fun z => nomatch z)) dm_nil) hr tk (q_cons (q_var 0) (q_cons (q_lst q_nil) q_nil))) (dm_cons (C .f_Told_handed (fun z => nomatch z)) (dm_cons (C .f_Made_handed (fun z => nomatch z)) dm_nil)) hr tk (q_cons (q_me (q_var 4) (dm_cons (C .f_Reckoner_held (fun z => nomatch z)) dm_nil) hr tk (q_cons (q_ix (q_var 3) q_int) (q_cons (q_var 2) q_nil))) q_nil)) q_nil))))))))))))
theorem ok__law_well {k : Nat} {cl : Fn → FF} [Wo] (T : Txt K w.params mg) (hW : Wo.ww = w) (C : ∀ g : Fn, g ≠ .f_law → calOf P w K mg base k g (cl g)) (f : Addr) (cdv : Value) (A : Around) (outer : List Env) (s : Shared) (H : Hp) (E : XK) (hr : RoomG k (A.deeper (envOfC "_law_well" (defScope s__law_well) s.heap.objs.size f cdv))) :
    PSs (cxOf (L2.CX P w) P w K mg base ["_law_cell"] "_law_well" (defScope s__law_well) f cdv A outer s H E) (defBody s__law_well) (tS (cxOf (L2.CX P w) P w K mg base ["_law_cell"] "_law_well" (defScope s__law_well) f cdv A outer s H E) (fun c d _ H => E c d H) (b__law_well cl)) := by
  have tk : Takes (cxOf (L2.CX P w) P w K mg base ["_law_cell"] "_law_well" (defScope s__law_well) f cdv A outer s H E) (fun c d _ H => E c d H) := takes_of rfl rfl rfl rfl
  have nd := sc__law_well.nd
  exact (q_last (q_ret (q_cel (q_cons (q_op op_mulU mulU_v (q_var 0) (q_callTy call_int1 int_v rfl T.m_int (by decide +kernel) (q_cons (q_cmp op_ge (cmp_v _) (q_var 0) (q_op op_pow pow_v q_int q_int) (nomark _)) q_nil))) (q_cons (q_var 0) (q_cons q_int q_nil))))))
theorem ok__law_draw {k : Nat} {cl : Fn → FF} [Wo] (T : Txt K w.params mg) (hW : Wo.ww = w) (C : ∀ g : Fn, g ≠ .f_law → calOf P w K mg base k g (cl g)) (f : Addr) (cdv : Value) (A : Around) (outer : List Env) (s : Shared) (H : Hp) (E : XK) (hr : RoomG k (A.deeper (envOfC "_law_draw" (defScope s__law_draw) s.heap.objs.size f cdv))) :
    PSs (cxOf (L2.CX P w) P w K mg base ["_law_well_here", "_law_width", "_law_low", "_law_digit_told"] "_law_draw" (defScope s__law_draw) f cdv A outer s H E) (defBody s__law_draw) (tS (cxOf (L2.CX P w) P w K mg base ["_law_well_here", "_law_width", "_law_low", "_law_digit_told"] "_law_draw" (defScope s__law_draw) f cdv A outer s H E) (fun c d _ H => E c d H) (b__law_draw cl)) := by
  have tk : Takes (cxOf (L2.CX P w) P w K mg base ["_law_well_here", "_law_width", "_law_low", "_law_digit_told"] "_law_draw" (defScope s__law_draw) f cdv A outer s H E) (fun c d _ H => E c d H) := takes_of rfl rfl rfl rfl
  have nd := sc__law_draw.nd
  exact (q_seq (q_ifS (qt_cmp op_gt (cmp_v _) (q_ix (q_var 0) q_int) q_int (nomark _)) (q_seq (q_set (i := 3) nd rfl (by first | exact Or.inl rfl | exact Or.inr rfl) (q_op op_mod mod_v (q_ix (q_var 0) q_int) (q_var 1)))
    (q_seq (q_asg (q_op op_fdivW div_v (q_ix (q_var 0) q_int) (q_var 1)) (q_gsb (W := W0) (q_var 0) q_int))
    (q_last (q_ret (q_var 3))))) q_snil)
    (q_seq (q_asg (q_op op_addU addU_v (q_ix (q_var 0) q_int) q_int) (q_gsb (W := W0) (q_var 0) q_int))
    (q_seq (q_set (i := 2) nd rfl (by first | exact Or.inl rfl | exact Or.inr rfl) (q_op op_addU addU_v (q_op op_mod mod_v (q_ix (q_var 0) q_int) q_int) (q_op op_mulU mulU_v (q_op op_fdivW div_v (q_ix (q_var 0) q_int) q_int) q_int)))
    (q_seq (q_set (i := 2) nd rfl (by first | exact Or.inl rfl | exact Or.inr rfl) (q_op op_mod mod_v (q_op op_mulU mulU_v (q_op op_addU addU_v (q_op op_addU addU_v (q_var 2) (q_op op_mulU mulU_v q_int (q_ix (q_var 0) q_int))) q_int) q_int) q_int))
    (q_seq (q_set (i := 2) nd rfl (by first | exact Or.inl rfl | exact Or.inr rfl) (q_op op_mod mod_v (q_op op_mulU mulU_v (q_var 2) (q_op op_addU addU_v (q_op op_addU addU_v (q_op op_fdivW div_v (q_var 2) q_int) q_int) (q_ix (q_var 0) q_int))) q_int))
    (q_last (q_ret (q_op op_mod mod_v (q_op op_mod mod_v (q_op op_mulU mulU_v (q_var 2) (q_op op_addU addU_v (q_op op_fdivW div_v (q_var 2) q_int) q_int)) q_int) (q_var 1)))))))))
theorem ok__law_kind {k : Nat} {cl : Fn → FF} [Wo] (T : Txt K w.params mg) (hW : Wo.ww = w) (C : ∀ g : Fn, g ≠ .f_law → calOf P w K mg base k g (cl g)) (f : Addr) (cdv : Value) (A : Around) (outer : List Env) (s : Shared) (H : Hp) (E : XK) (hr : RoomG k (A.deeper (envOfC "_law_kind" (defScope s__law_kind) s.heap.objs.size f cdv))) :
    PSs (cxOf (L2.CX P w) P w K mg base ["_law_well_here", "_law_deep", "_law_way"] "_law_kind" (defScope s__law_kind) f cdv A outer s H E) (defBody s__law_kind) (tS (cxOf (L2.CX P w) P w K mg base ["_law_well_here", "_law_deep", "_law_way"] "_law_kind" (defScope s__law_kind) f cdv A outer s H E) (fun c d _ H => E c d H) (b__law_kind cl)) := by
  have tk : Takes (cxOf (L2.CX P w) P w K mg base ["_law_well_here", "_law_deep", "_law_way"] "_law_kind" (defScope s__law_kind) f cdv A outer s H E) (fun c d _ H => E c d H) := takes_of rfl rfl rfl rfl
  have nd := sc__law_kind.nd
  exact (q_seq (q_set (i := 2) nd rfl (by first | exact Or.inl rfl | exact Or.inr rfl) (q_call (C .f__law_draw (fun z => nomatch z)) hr tk rfl (q_cons (q_var 0) (q_cons q_int q_nil))))
    (q_seq (q_ifS (PW.pt (qw_or (qt_cmp (op_eqU (by have z := hu2 hr; exact z)) eqP_v (q_var 1) q_int (nomark _)) (qw_one (qt_cmp op_lt (cmp_v _) (q_var 2) q_int (nomark _))))) (q_last (q_ret (q_tup (q_cons q_str (q_cons (q_call (C .f__law_draw (fun z => nomatch z)) hr tk rfl (q_cons (q_var 0) (q_cons q_int q_nil))) q_nil))))) q_snil)
    (q_seq (q_ifS (qt_cmp (op_eqU (by have z := hu2 hr; exact z)) eqP_v (q_var 2) q_int (nomark _)) (q_last (q_ret (q_tup (q_cons q_str q_nil)))) q_snil)
    (q_seq (q_ifS (qt_cmp op_lt (cmp_v _) (q_var 2) q_int (nomark _)) (q_last (q_ret (q_tup (q_cons q_str (q_cons (q_call (C .f__law_kind (fun z => nomatch z)) hr tk rfl (q_cons (q_var 0) (q_cons (q_op op_sub sub_v (q_var 1) q_int) q_nil))) (q_cons (q_call (C .f__law_kind (fun z => nomatch z)) hr tk rfl (q_cons (q_var 0) (q_cons (q_op op_sub sub_v (q_var 1) q_int) q_nil))) q_nil)))))) q_snil)
    (q_last (q_ret (q_tup (q_cons q_str (q_cons (q_call (C .f__law_kind (fun z => nomatch z)) hr tk rfl (q_cons (q_var 0) (q_cons (q_op op_sub sub_v (q_var 1) q_int) q_nil))) (q_cons (q_call (C .f__law_kind (fun z => nomatch z)) hr tk rfl (q_cons (q_var 0) (q_cons (q_op op_sub sub_v (q_var 1) q_int) q_nil))) q_nil))))))))))
theorem ok__law_ways {k : Nat} {cl : Fn → FF} [Wo] (T : Txt K w.params mg) (hW : Wo.ww = w) (C : ∀ g : Fn, g ≠ .f_law → calOf P w K mg base k g (cl g)) (f : Addr) (cdv : Value) (A : Around) (outer : List Env) (s : Shared) (H : Hp) (E : XK) (hr : RoomG k (A.deeper (envOfC "_law_ways" (defScope s__law_ways) s.heap.objs.size f cdv))) :
    PSs (cxOf (L2.CX P w) P w K mg base ["_law_kind_here", "_law_n", "_law_first", "_law_way"] "_law_ways" (defScope s__law_ways) f cdv A outer s H E) (defBody s__law_ways) (tS (cxOf (L2.CX P w) P w K mg base ["_law_kind_here", "_law_n", "_law_first", "_law_way"] "_law_ways" (defScope s__law_ways) f cdv A outer s H E) (fun c d _ H => E c d H) (b__law_ways cl)) := by
  have tk : Takes (cxOf (L2.CX P w) P w K mg base ["_law_kind_here", "_law_n", "_law_first", "_law_way"] "_law_ways" (defScope s__law_ways) f cdv A outer s H E) (fun c d _ H => E c d H) := takes_of rfl rfl rfl rfl
  have nd := sc__law_ways.nd
  exact (q_seq (q_ifS (qt_cmp (op_eqU (by have z := hu2 hr; exact z)) eqP_v (q_ix (q_var 0) q_int) q_str (nomark _)) (q_last (q_ret (q_op op_mulU mulU_v (q_lst (q_cons (q_lst q_nil) q_nil)) (q_callTy call_int1 int_v rfl T.m_int (by decide +kernel) (q_cons (q_cmp (op_eqU (by have z := hu2 hr; exact z)) eqP_v (q_ix (q_var 0) q_int) (q_var 1) (nomark _)) q_nil))))) q_snil)
    (q_seq (q_ifS (qt_cmp (op_eqU (by have z := hu2 hr; exact z)) eqP_v (q_ix (q_var 0) q_int) q_str (nomark _)) (q_last (q_ret (q_lst q_nil))) q_snil)
    (q_seq (q_ifS (qt_cmp (op_eqU (by have z := hu2 hr; exact z)) eqP_v (q_ix (q_var 0) q_int) q_str (nomark _)) (q_last (q_ret (q_lc (own := [("_law_way", 3)]) rfl nd (qi_list (q_call (C .f__law_ways (fun z => nomatch z)) hr tk rfl (q_cons (q_ix (q_var 0) q_int) (q_cons (q_var 1) q_nil)))) (blkOk_by (own := [("_law_way", 3)]) (by rfl)) (by decide) (fun _ _ _ _ _ => (q_gn (i := 3) nd rfl (by first | exact Or.inl rfl | exact Or.inr rfl))) (fun _ _ _ _ _ => qts_nil) (fun _ _ _ _ _ => (q_op op_addU addU_v (q_lst (q_cons (q_ix (q_var 0) q_int) q_nil)) (q_var 3)))))) q_snil)
    (q_seq (by first | exact (q_setLc (i := 2) (own := [("_law_way", 3)]) rfl nd rfl rfl (sw_true rfl rfl rfl (by decide +kernel)) (qi_list (q_call (C .f__law_ways (fun z => nomatch z)) hr tk rfl (q_cons (q_ix (q_var 0) q_int) (q_cons (q_var 1) q_nil)))) (blkOk_by (own := [("_law_way", 3)]) (by rfl)) (by decide) (fun _ _ _ _ _ => (q_gn (i := 3) nd rfl (by first | exact Or.inl rfl | exact Or.inr rfl))) (fun _ _ _ _ _ => qts_nil) (fun _ _ _ _ _ => (q_op op_addU addU_v (q_lst (q_cons q_str q_nil)) (q_var 3)))) | exact (q_set (i := 2) nd rfl (by first | exact Or.inl rfl | exact Or.inr rfl) (q_lc (own := [("_law_way", 3)]) rfl nd (qi_list (q_call (C .f__law_ways (fun z => nomatch z)) hr tk rfl (q_cons (q_ix (q_var 0) q_int) (q_cons (q_var 1) q_nil)))) (blkOk_by (own := [("_law_way", 3)]) (by rfl)) (by decide) (fun _ _ _ _ _ => (q_gn (i := 3) nd rfl (by first | exact Or.inl rfl | exact Or.inr rfl))) (fun _ _ _ _ _ => qts_nil) (fun _ _ _ _ _ => (q_op op_addU addU_v (q_lst (q_cons q_str q_nil)) (q_var 3))))))
    (q_last (q_ret (q_op op_addU addU_v (q_var 2) (q_lc (own := [("_law_way", 3)]) rfl nd (qi_list (q_call (C .f__law_ways (fun z => nomatch z)) hr tk rfl (q_cons (q_ix (q_var 0) q_int) (q_cons (q_var 1) q_nil)))) (blkOk_by (own := [("_law_way", 3)]) (by rfl)) (by decide) (fun _ _ _ _ _ => (q_gn (i := 3) nd rfl (by first | exact Or.inl rfl | exact Or.inr rfl))) (fun _ _ _ _ _ => qts_nil) (fun _ _ _ _ _ => (q_op op_addU addU_v (q_lst (q_cons q_str q_nil)) (q_var 3)))))))))))
theorem ok__law_flat {k : Nat} {cl : Fn → FF} [Wo] (T : Txt K w.params mg) (hW : Wo.ww = w) (C : ∀ g : Fn, g ≠ .f_law → calOf P w K mg base k g (cl g)) (f : Addr) (cdv : Value) (A : Around) (outer : List Env) (s : Shared) (H : Hp) (E : XK) (hr : RoomG k (A.deeper (envOfC "_law_flat" (defScope s__law_flat) s.heap.objs.size f cdv))) :
    PSs (cxOf (L2.CX P w) P w K mg base ["_law_well_here", "_law_kind_here", "_law_given", "_law_fuel", "_law_ways_here", "_law_k", "_law_way", "_law_term", "_law_step", "_law_pair"] "_law_flat" (defScope s__law_flat) f cdv A outer s H E) (defBody s__law_flat) (tS (cxOf (L2.CX P w) P w K mg base ["_law_well_here", "_law_kind_here", "_law_given", "_law_fuel", "_law_ways_here", "_law_k", "_law_way", "_law_term", "_law_step", "_law_pair"] "_law_flat" (defScope s__law_flat) f cdv A outer s H E) (fun c d _ H => E c d H) (b__law_flat cl)) := by
  have tk : Takes (cxOf (L2.CX P w) P w K mg base ["_law_well_here", "_law_kind_here", "_law_given", "_law_fuel", "_law_ways_here", "_law_k", "_law_way", "_law_term", "_law_step", "_law_pair"] "_law_flat" (defScope s__law_flat) f cdv A outer s H E) (fun c d _ H => E c d H) := takes_of rfl rfl rfl rfl
  have nd := sc__law_flat.nd
  exact (q_seq (q_ifS (qt_cmp (op_eqU (by have z := hu2 hr; exact z)) eqP_v (q_ix (q_var 1) q_int) q_str (nomark _)) (q_last (q_ret (q_tup (q_cons q_str q_nil)))) q_snil)
    (q_seq (q_ifS (qt_cmp (op_eqU (by have z := hu2 hr; exact z)) eqP_v (q_ix (q_var 1) q_int) q_str (nomark _)) (q_last (q_ret (q_tup (q_cons q_str (q_cons (q_call (C .f__law_flat (fun z => nomatch z)) hr tk rfl (q_cons (q_var 0) (q_cons (q_ix (q_var 1) q_int) (q_cons (q_var 2) (q_cons (q_var 3) q_nil))))) (q_cons (q_call (C .f__law_flat (fun z => nomatch z)) hr tk rfl (q_cons (q_var 0) (q_cons (q_ix (q_var 1) q_int) (q_cons (q_var 2) (q_cons (q_var 3) q_nil))))) q_nil)))))) q_snil)
    (q_seq (q_ifS (qt_cmp (op_eqU (by have z := hu2 hr; exact z)) eqP_v (q_ix (q_var 1) q_int) q_str (nomark _)) (q_last (q_ret (q_tup (q_cons q_str (q_cons (q_ix (q_var 1) q_int) (q_cons (q_call (C .f__law_flat (fun z => nomatch z)) hr tk rfl (q_cons (q_var 0) (q_cons (q_ix (q_var 1) q_int) (q_cons (q_op op_addU addU_v (q_var 2) (q_lst (q_cons (q_ix (q_var 1) q_int) q_nil))) (q_cons (q_var 3) q_nil))))) q_nil)))))) q_snil)
    (q_seq (q_set (i := 4) nd rfl (by first | exact Or.inl rfl | exact Or.inr rfl) (q_lst q_nil))
    (q_seq (q_for (passes_of rfl) rfl (qi_range1 rfl T.m_range (q_cons (q_callB call_len len_v rfl T.m_len PySem.boot_len (q_cons (q_var 2) q_nil)) q_nil)) (q_gn (i := 5) nd rfl (by first | exact Or.inl rfl | exact Or.inr rfl)) (q_last (q_set (i := 4) nd rfl (by first | exact Or.inl rfl | exact Or.inr rfl) (q_op op_addU addU_v (q_var 4) (q_lc (own := [("_law_way", 6)]) rfl nd (qi_list (q_call (C .f__law_ways (fun z => nomatch z)) hr tk rfl (q_cons (q_ix (q_var 2) (q_var 5)) (q_cons (q_ix (q_var 1) q_int) q_nil)))) (blkOk_by (own := [("_law_way", 6)]) (by rfl)) (by decide) (fun _ _ _ _ _ => (q_gn (i := 6) nd rfl (by first | exact Or.inl rfl | exact Or.inr rfl))) (fun _ _ _ _ _ => qts_nil) (fun _ _ _ _ _ => (q_tup (q_cons (q_var 5) (q_cons (q_var 6) q_nil)))))))))
    (q_seq (q_ifS (qt_cmp op_le (cmp_v _) (q_var 3) q_int (nomark _)) (q_last (by first | exact (q_setLc (i := 4) (own := [("_law_pair", 9)]) rfl nd rfl rfl (sw_true rfl rfl rfl (by decide +kernel)) (qi_list (q_var 4)) (blkOk_by (own := [("_law_pair", 9)]) (by rfl)) (by decide) (fun _ _ _ _ _ => (q_gn (i := 9) nd rfl (by first | exact Or.inl rfl | exact Or.inr rfl))) (fun _ _ _ _ _ => (qts_one (qt_cmp (op_eqU (by have z := hu2 hr; exact z)) eqP_v (q_ix (q_var 9) q_int) (q_lst q_nil) (nomark _)))) (fun _ _ _ _ _ => (q_var 9))) | exact (q_set (i := 4) nd rfl (by first | exact Or.inl rfl | exact Or.inr rfl) (q_lc (own := [("_law_pair", 9)]) rfl nd (qi_list (q_var 4)) (blkOk_by (own := [("_law_pair", 9)]) (by rfl)) (by decide) (fun _ _ _ _ _ => (q_gn (i := 9) nd rfl (by first | exact Or.inl rfl | exact Or.inr rfl))) (fun _ _ _ _ _ => (qts_one (qt_cmp (op_eqU (by have z := hu2 hr; exact z)) eqP_v (q_ix (q_var 9) q_int) (q_lst q_nil) (nomark _)))) (fun _ _ _ _ _ => (q_var 9)))))) q_snil)
    (q_seq (q_asg (q_ix (q_var 4) (q_call (C .f__law_draw (fun z => nomatch z)) hr tk rfl (q_cons (q_var 0) (q_cons (q_callB call_len len_v rfl T.m_len PySem.boot_len (q_cons (q_var 4) q_nil)) q_nil)))) (q_gtu rfl (q_gscons (q_gn (i := 5) nd rfl (by first | exact Or.inl rfl | exact Or.inr rfl)) (q_gscons (q_gn (i := 6) nd rfl (by first | exact Or.inl rfl | exact Or.inr rfl)) q_gsnil))))
    (q_seq (q_set (i := 7) nd rfl (by first | exact Or.inl rfl | exact Or.inr rfl) (q_tup (q_cons q_str (q_cons (q_var 5) q_nil))))
    (q_seq (q_for (passes_of rfl) rfl (qi_list (q_var 6)) (q_gn (i := 8) nd rfl (by first | exact Or.inl rfl | exact Or.inr rfl)) (q_last (q_ifS (qt_tru (q_isi rfl T.m_isinstance rfl T.m_str (by decide +kernel) (by decide) (q_var 8))) (q_last (q_set (i := 7) nd rfl (by first | exact Or.inl rfl | exact Or.inr rfl) (q_tup (q_cons (q_var 8) (q_cons (q_var 7) q_nil))))) (q_last (q_set (i := 7) nd rfl (by first | exact Or.inl rfl | exact Or.inr rfl) (q_tup (q_cons q_str (q_cons (q_var 7) (q_cons (q_call (C .f__law_flat (fun z => nomatch z)) hr tk rfl (q_cons (q_var 0) (q_cons (q_var 8) (q_cons (q_var 2) (q_cons (q_op op_sub sub_v (q_var 3) q_int) q_nil))))) q_nil)))))))))
    (q_last (q_ret (q_var 7))))))))))))
theorem ok__law_kind_of {k : Nat} {cl : Fn → FF} [Wo] (T : Txt K w.params mg) (hW : Wo.ww = w) (C : ∀ g : Fn, g ≠ .f_law → calOf P w K mg base k g (cl g)) (f : Addr) (cdv : Value) (A : Around) (outer : List Env) (s : Shared) (H : Hp) (E : XK) (hr : RoomG k (A.deeper (envOfC "_law_kind_of" (defScope s__law_kind_of) s.heap.objs.size f cdv))) :
    PSs (cxOf (L2.CX P w) P w K mg base ["_law_term", "_law_given", "_law_one"] "_law_kind_of" (defScope s__law_kind_of) f cdv A outer s H E) (defBody s__law_kind_of) (tS (cxOf (L2.CX P w) P w K mg base ["_law_term", "_law_given", "_law_one"] "_law_kind_of" (defScope s__law_kind_of) f cdv A outer s H E) (fun c d _ H => E c d H) (b__law_kind_of cl)) := by
  have tk : Takes (cxOf (L2.CX P w) P w K mg base ["_law_term", "_law_given", "_law_one"] "_law_kind_of" (defScope s__law_kind_of) f cdv A outer s H E) (fun c d _ H => E c d H) := takes_of rfl rfl rfl rfl
  have nd := sc__law_kind_of.nd
  exact (q_seq (q_ifS (qt_cmp (op_eqU (by have z := hu2 hr; exact z)) eqP_v (q_ix (q_var 0) q_int) q_str (nomark _)) (q_last (q_ret (q_tup (q_cons q_str q_nil)))) q_snil)
    (q_seq (q_ifS (qt_cmp (op_eqU (by have z := hu2 hr; exact z)) eqP_v (q_ix (q_var 0) q_int) q_str (nomark _)) (q_last (q_ret (q_ix (q_var 1) (q_ix (q_var 0) q_int)))) q_snil)
    (q_seq (q_ifS (qt_cmp (op_eqU (by have z := hu2 hr; exact z)) eqP_v (q_ix (q_var 0) q_int) q_str (nomark _)) (q_last (q_ret (q_tup (q_cons q_str (q_cons (q_ix (q_var 0) q_int) (q_cons (q_call (C .f__law_kind_of (fun z => nomatch z)) hr tk rfl (q_cons (q_ix (q_var 0) q_int) (q_cons (q_op op_addU addU_v (q_var 1) (q_lst (q_cons (q_ix (q_var 0) q_int) q_nil))) q_nil))) q_nil)))))) q_snil)
    (q_seq (q_set (i := 2) nd rfl (by first | exact Or.inl rfl | exact Or.inr rfl) (q_call (C .f__law_kind_of (fun z => nomatch z)) hr tk rfl (q_cons (q_ix (q_var 0) q_int) (q_cons (q_var 1) q_nil))))
    (q_seq (q_ifS (qt_cmp (op_eqU (by have z := hu2 hr; exact z)) eqP_v (q_ix (q_var 0) q_int) q_str (nomark _)) (q_last (q_ret (q_tup (q_cons q_str (q_cons (q_var 2) (q_cons (q_call (C .f__law_kind_of (fun z => nomatch z)) hr tk rfl (q_cons (q_ix (q_var 0) q_int) (q_cons (q_var 1) q_nil))) q_nil)))))) q_snil)
    (q_last (q_ret (q_ix (q_var 2) (q_ix (q_lst (q_cons q_int (q_cons q_int q_nil))) (q_callTy call_int1 int_v rfl T.m_int (by decide +kernel) (q_cons (q_cmp (op_eqU (by have z := hu2 hr; exact z)) eqP_v (q_ix (q_var 0) q_int) q_str (nomark _)) q_nil)))))))))))
theorem ok__law_rows {k : Nat} {cl : Fn → FF} [Wo] (T : Txt K w.params mg) (hW : Wo.ww = w) (C : ∀ g : Fn, g ≠ .f_law → calOf P w K mg base k g (cl g)) (f : Addr) (cdv : Value) (A : Around) (outer : List Env) (s : Shared) (H : Hp) (E : XK) (hr : RoomG k (A.deeper (envOfC "_law_rows" (defScope s__law_rows) s.heap.objs.size f cdv))) :
    PSs (cxOf (L2.CX P w) P w K mg base ["_law_some", "_law_width", "_law_rows_here", "_law_k", "_law_longer", "_law_row", "_law_one"] "_law_rows" (defScope s__law_rows) f cdv A outer s H E) (defBody s__law_rows) (tS (cxOf (L2.CX P w) P w K mg base ["_law_some", "_law_width", "_law_rows_here", "_law_k", "_law_longer", "_law_row", "_law_one"] "_law_rows" (defScope s__law_rows) f cdv A outer s H E) (fun c d _ H => E c d H) (b__law_rows cl)) := by
  have tk : Takes (cxOf (L2.CX P w) P w K mg base ["_law_some", "_law_width", "_law_rows_here", "_law_k", "_law_longer", "_law_row", "_law_one"] "_law_rows" (defScope s__law_rows) f cdv A outer s H E) (fun c d _ H => E c d H) := takes_of rfl rfl rfl rfl
  have nd := sc__law_rows.nd
  exact (q_seq (q_set (i := 2) nd rfl (by first | exact Or.inl rfl | exact Or.inr rfl) (q_lst (q_cons (q_tup q_nil) q_nil)))
    (q_seq (q_for (passes_of rfl) rfl (qi_range1 rfl T.m_range (q_cons (q_var 1) q_nil)) (q_gn (i := 3) nd rfl (by first | exact Or.inl rfl | exact Or.inr rfl)) (q_seq (q_set (i := 4) nd rfl (by first | exact Or.inl rfl | exact Or.inr rfl) (q_lst q_nil))
    (q_seq (q_for (passes_of rfl) rfl (qi_list (q_var 2)) (q_gn (i := 5) nd rfl (by first | exact Or.inl rfl | exact Or.inr rfl)) (q_last (q_set (i := 4) nd rfl (by first | exact Or.inl rfl | exact Or.inr rfl) (q_op op_addU addU_v (q_var 4) (q_lc (own := [("_law_one", 6)]) rfl nd (qi_list (q_var 0)) (blkOk_by (own := [("_law_one", 6)]) (by rfl)) (by decide) (fun _ _ _ _ _ => (q_gn (i := 6) nd rfl (by first | exact Or.inl rfl | exact Or.inr rfl))) (fun _ _ _ _ _ => qts_nil) (fun _ _ _ _ _ => (q_op op_addU addU_v (q_var 5) (q_tup (q_cons (q_var 6) q_nil)))))))))
    (q_last (q_set (i := 2) nd rfl (by first | exact Or.inl rfl | exact Or.inr rfl) (q_var 4))))))
    (q_last (q_ret (q_var 2)))))
theorem ok__law_all {k : Nat} {cl : Fn → FF} [Wo] (T : Txt K w.params mg) (hW : Wo.ww = w) (C : ∀ g : Fn, g ≠ .f_law → calOf P w K mg base k g (cl g)) (f : Addr) (cdv : Value) (A : Around) (outer : List Env) (s : Shared) (H : Hp) (E : XK) (hr : RoomG k (A.deeper (envOfC "_law_all" (defScope s__law_all) s.heap.objs.size f cdv))) :
    PSs (cxOf (L2.CX P w) P w K mg base ["_law_kind_here", "_law_sizes_here", "_law_first", "_law_second", "_law_pairs", "_law_one", "_law_other_here"] "_law_all" (defScope s__law_all) f cdv A outer s H E) (defBody s__law_all) (tS (cxOf (L2.CX P w) P w K mg base ["_law_kind_here", "_law_sizes_here", "_law_first", "_law_second", "_law_pairs", "_law_one", "_law_other_here"] "_law_all" (defScope s__law_all) f cdv A outer s H E) (fun c d _ H => E c d H) (b__law_all cl)) := by
  have tk : Takes (cxOf (L2.CX P w) P w K mg base ["_law_kind_here", "_law_sizes_here", "_law_first", "_law_second", "_law_pairs", "_law_one", "_law_other_here"] "_law_all" (defScope s__law_all) f cdv A outer s H E) (fun c d _ H => E c d H) := takes_of rfl rfl rfl rfl
  have nd := sc__law_all.nd
  exact (q_seq (q_ifS (qt_cmp (op_eqU (by have z := hu2 hr; exact z)) eqP_v (q_ix (q_var 0) q_int) q_str (nomark _)) (q_last (q_ret (q_listRg rfl rfl T.m_list rfl T.m_range (q_ix (q_var 1) (q_ix (q_var 0) q_int))))) q_snil)
    (q_seq (q_ifS (qt_cmp (op_eqU (by have z := hu2 hr; exact z)) eqP_v (q_ix (q_var 0) q_int) q_str (nomark _)) (q_last (q_ret (q_lst (q_cons (q_tup q_nil) q_nil)))) q_snil)
    (q_seq (q_set (i := 2) nd rfl (by first | exact Or.inl rfl | exact Or.inr rfl) (q_call (C .f__law_all (fun z => nomatch z)) hr tk rfl (q_cons (q_ix (q_var 0) q_int) (q_cons (q_var 1) q_nil))))
    (q_seq (q_set (i := 3) nd rfl (by first | exact Or.inl rfl | exact Or.inr rfl) (q_call (C .f__law_all (fun z => nomatch z)) hr tk rfl (q_cons (q_ix (q_var 0) q_int) (q_cons (q_var 1) q_nil))))
    (q_seq (q_ifS (qt_cmp (op_eqU (by have z := hu2 hr; exact z)) eqP_v (q_ix (q_var 0) q_int) q_str (nomark _)) (q_last (q_ret (q_call (C .f__law_rows (fun z => nomatch z)) hr tk rfl (q_cons (q_var 3) (q_cons (q_callB call_len len_v rfl T.m_len PySem.boot_len (q_cons (q_var 2) q_nil)) q_nil))))) q_snil)
    (q_seq (q_set (i := 4) nd rfl (by first | exact Or.inl rfl | exact Or.inr rfl) (q_lst q_nil))
    (q_seq (q_for (passes_of rfl) rfl (qi_list (q_var 2)) (q_gn (i := 5) nd rfl (by first | exact Or.inl rfl | exact Or.inr rfl)) (q_last (q_set (i := 4) nd rfl (by first | exact Or.inl rfl | exact Or.inr rfl) (q_op op_addU addU_v (q_var 4) (q_lc (own := [("_law_other_here", 6)]) rfl nd (qi_list (q_var 3)) (blkOk_by (own := [("_law_other_here", 6)]) (by rfl)) (by decide) (fun _ _ _ _ _ => (q_gn (i := 6) nd rfl (by first | exact Or.inl rfl | exact Or.inr rfl))) (fun _ _ _ _ _ => qts_nil) (fun _ _ _ _ _ => (q_tup (q_cons (q_var 5) (q_cons (q_var 6) q_nil)))))))))
    (q_last (q_ret (q_var 4))))))))))
theorem ok__law_handed {k : Nat} {cl : Fn → FF} [Wo] (T : Txt K w.params mg) (hW : Wo.ww = w) (C : ∀ g : Fn, g ≠ .f_law → calOf P w K mg base k g (cl g)) (f : Addr) (cdv : Value) (A : Around) (outer : List Env) (s : Shared) (H : Hp) (E : XK) (hr : RoomG k (A.deeper (envOfC "_law_handed" (defScope s__law_handed) s.heap.objs.size f cdv))) :
    PSs (cxOf (L2.CX P w) P w K mg base ["_law_one", "_law_thing", "_law_sizes_here", "_law_spot"] "_law_handed" (defScope s__law_handed) f cdv A outer s H E) (defBody s__law_handed) (tS (cxOf (L2.CX P w) P w K mg base ["_law_one", "_law_thing", "_law_sizes_here", "_law_spot"] "_law_handed" (defScope s__law_handed) f cdv A outer s H E) (fun c d _ H => E c d H) (b__law_handed cl)) := by
  have tk : Takes (cxOf (L2.CX P w) P w K mg base ["_law_one", "_law_thing", "_law_sizes_here", "_law_spot"] "_law_handed" (defScope s__law_handed) f cdv A outer s H E) (fun c d _ H => E c d H) := takes_of rfl rfl rfl rfl
  have nd := sc__law_handed.nd
  exact (q_seq (q_ifS (qt_cmp (op_eqU (by have z := hu2 hr; exact z)) eqP_v (q_ix (q_var 0) q_int) q_str (nomark _)) (q_last (q_ret (q_call (C .f__law_work (fun z => nomatch z)) hr tk rfl (q_cons (q_ix (q_var 0) q_int) (q_cons (q_op op_addU addU_v (q_ix (q_var 0) q_int) (q_lst (q_cons (q_var 1) q_nil))) (q_cons (q_var 2) q_nil)))))) q_snil)
    (q_seq (q_set (i := 3) nd rfl (by first | exact Or.inl rfl | exact Or.inr rfl) (q_mth PySem.F.slot_list_index PySem.F.type_list_index (mt_indexD (by have z := hu65 hr; exact z)) idx_v (q_call (C .f__law_all (fun z => nomatch z)) hr tk rfl (q_cons (q_ix (q_ix (q_var 0) q_int) q_int) (q_cons (q_var 2) q_nil))) (q_cons (q_call (C .f__law_out (fun z => nomatch z)) hr tk rfl (q_cons (q_ix (q_ix (q_var 0) q_int) q_int) (q_cons (q_var 1) (q_cons (q_var 2) q_nil)))) q_nil)))
    (q_last (q_ret (q_call (C .f__law_in (fun z => nomatch z)) hr tk rfl (q_cons (q_ix (q_ix (q_var 0) q_int) q_int) (q_cons (q_ix (q_ix (q_var 0) q_int) (q_var 3)) (q_cons (q_var 2) q_nil))))))))
theorem ok__law_in {k : Nat} {cl : Fn → FF} [Wo] (T : Txt K w.params mg) (hW : Wo.ww = w) (C : ∀ g : Fn, g ≠ .f_law → calOf P w K mg base k g (cl g)) (f : Addr) (cdv : Value) (A : Around) (outer : List Env) (s : Shared) (H : Hp) (E : XK) (hr : RoomG k (A.deeper (envOfC "_law_in" (defScope s__law_in) s.heap.objs.size f cdv))) :
    PSs (cxOf (L2.CX P w) P w K mg base ["_law_kind_here", "_law_worth", "_law_sizes_here"] "_law_in" (defScope s__law_in) f cdv A outer s H E) (defBody s__law_in) (tS (cxOf (L2.CX P w) P w K mg base ["_law_kind_here", "_law_worth", "_law_sizes_here"] "_law_in" (defScope s__law_in) f cdv A outer s H E) (fun c d _ H => E c d H) (b__law_in cl)) := by
  have tk : Takes (cxOf (L2.CX P w) P w K mg base ["_law_kind_here", "_law_worth", "_law_sizes_here"] "_law_in" (defScope s__law_in) f cdv A outer s H E) (fun c d _ H => E c d H) := takes_of rfl rfl rfl rfl
  have nd := sc__law_in.nd
  exact (q_seq (q_ifS (qt_cmp (op_eqU (by have z := hu2 hr; exact z)) eqP_v (q_ix (q_var 0) q_int) q_str (nomark _)) (q_last (q_ret (q_tup (q_cons (q_call (C .f__law_in (fun z => nomatch z)) hr tk rfl (q_cons (q_ix (q_var 0) q_int) (q_cons (q_ix (q_var 1) q_int) (q_cons (q_var 2) q_nil)))) (q_cons (q_call (C .f__law_in (fun z => nomatch z)) hr tk rfl (q_cons (q_ix (q_var 0) q_int) (q_cons (q_ix (q_var 1) q_int) (q_cons (q_var 2) q_nil)))) q_nil))))) q_snil)
    (q_seq (q_ifS (qt_cmp (op_eqU (by have z := hu2 hr; exact z)) eqP_v (q_ix (q_var 0) q_int) q_str (nomark _)) (q_last (q_ret (q_tup (q_cons q_str (q_cons (q_var 0) (q_cons (q_var 1) q_nil)))))) q_snil)
    (q_last (q_ret (q_var 1)))))
theorem ok__law_out {k : Nat} {cl : Fn → FF} [Wo] (T : Txt K w.params mg) (hW : Wo.ww = w) (C : ∀ g : Fn, g ≠ .f_law → calOf P w K mg base k g (cl g)) (f : Addr) (cdv : Value) (A : Around) (outer : List Env) (s : Shared) (H : Hp) (E : XK) (hr : RoomG k (A.deeper (envOfC "_law_out" (defScope s__law_out) s.heap.objs.size f cdv))) :
    PSs (cxOf (L2.CX P w) P w K mg base ["_law_kind_here", "_law_thing", "_law_sizes_here", "_law_some", "_law_worth", "_law_one"] "_law_out" (defScope s__law_out) f cdv A outer s H E) (defBody s__law_out) (tS (cxOf (L2.CX P w) P w K mg base ["_law_kind_here", "_law_thing", "_law_sizes_here", "_law_some", "_law_worth", "_law_one"] "_law_out" (defScope s__law_out) f cdv A outer s H E) (fun c d _ H => E c d H) (b__law_out cl)) := by
  have tk : Takes (cxOf (L2.CX P w) P w K mg base ["_law_kind_here", "_law_thing", "_law_sizes_here", "_law_some", "_law_worth", "_law_one"] "_law_out" (defScope s__law_out) f cdv A outer s H E) (fun c d _ H => E c d H) := takes_of rfl rfl rfl rfl
  have nd := sc__law_out.nd
  exact (q_seq (q_ifS (qt_cmp (op_eqU (by have z := hu2 hr; exact z)) eqP_v (q_ix (q_var 0) q_int) q_str (nomark _)) (q_last (q_ret (q_tup (q_cons (q_call (C .f__law_out (fun z => nomatch z)) hr tk rfl (q_cons (q_ix (q_var 0) q_int) (q_cons (q_ix (q_var 1) q_int) (q_cons (q_var 2) q_nil)))) (q_cons (q_call (C .f__law_out (fun z => nomatch z)) hr tk rfl (q_cons (q_ix (q_var 0) q_int) (q_cons (q_ix (q_var 1) q_int) (q_cons (q_var 2) q_nil)))) q_nil))))) q_snil)
    (q_seq (q_ifS (qt_cmp (op_neU (by have z := hu2 hr; exact z)) neP_v (q_ix (q_var 0) q_int) q_str (nomark _)) (q_last (q_ret (q_var 1))) q_snil)
    (q_seq (by first | exact (q_setLc (i := 3) (own := [("_law_worth", 4)]) rfl nd rfl rfl (sw_true rfl rfl rfl (by decide +kernel)) (qi_list (q_call (C .f__law_all (fun z => nomatch z)) hr tk rfl (q_cons (q_ix (q_var 0) q_int) (q_cons (q_var 2) q_nil)))) (blkOk_by (own := [("_law_worth", 4)]) (by rfl)) (by decide) (fun _ _ _ _ _ => (q_gn (i := 4) nd rfl (by first | exact Or.inl rfl | exact Or.inr rfl))) (fun _ _ _ _ _ => qts_nil) (fun _ _ _ _ _ => (q_call (C .f__law_handed (fun z => nomatch z)) hr takes0 rfl (q_cons (q_var 1) (q_cons (q_call (C .f__law_in (fun z => nomatch z)) hr takes0 rfl (q_cons (q_ix (q_var 0) q_int) (q_cons (q_var 4) (q_cons (q_var 2) q_nil)))) (q_cons (q_var 2) q_nil)))))) | exact (q_set (i := 3) nd rfl (by first | exact Or.inl rfl | exact Or.inr rfl) (q_lc (own := [("_law_worth", 4)]) rfl nd (qi_list (q_call (C .f__law_all (fun z => nomatch z)) hr tk rfl (q_cons (q_ix (q_var 0) q_int) (q_cons (q_var 2) q_nil)))) (blkOk_by (own := [("_law_worth", 4)]) (by rfl)) (by decide) (fun _ _ _ _ _ => (q_gn (i := 4) nd rfl (by first | exact Or.inl rfl | exact Or.inr rfl))) (fun _ _ _ _ _ => qts_nil) (fun _ _ _ _ _ => (q_call (C .f__law_handed (fun z => nomatch z)) hr takes0 rfl (q_cons (q_var 1) (q_cons (q_call (C .f__law_in (fun z => nomatch z)) hr takes0 rfl (q_cons (q_ix (q_var 0) q_int) (q_cons (q_var 4) (q_cons (q_var 2) q_nil)))) (q_cons (q_var 2) q_nil))))))))
    (q_last (q_ret (q_callTy call_tuple_of tuple_v rfl T.m_tuple (by decide +kernel) (q_cons (q_lc (own := [("_law_one", 5)]) rfl nd (qi_list (q_var 3)) (blkOk_by (own := [("_law_one", 5)]) (by rfl)) (by decide) (fun _ _ _ _ _ => (q_gn (i := 5) nd rfl (by first | exact Or.inl rfl | exact Or.inr rfl))) (fun _ _ _ _ _ => qts_nil) (fun _ _ _ _ _ => (q_call (C .f__law_out (fun z => nomatch z)) hr takes0 rfl (q_cons (q_ix (q_var 0) q_int) (q_cons (q_var 5) (q_cons (q_var 2) q_nil)))))) q_nil)))))))
theorem ok__law_work {k : Nat} {cl : Fn → FF} [Wo] (T : Txt K w.params mg) (hW : Wo.ww = w) (C : ∀ g : Fn, g ≠ .f_law → calOf P w K mg base k g (cl g)) (f : Addr) (cdv : Value) (A : Around) (outer : List Env) (s : Shared) (H : Hp) (E : XK) (hr : RoomG k (A.deeper (envOfC "_law_work" (defScope s__law_work) s.heap.objs.size f cdv))) :
    PSs (cxOf (L2.CX P w) P w K mg base ["_law_term", "_law_things", "_law_sizes_here", "_law_one"] "_law_work" (defScope s__law_work) f cdv A outer s H E) (defBody s__law_work) (tS (cxOf (L2.CX P w) P w K mg base ["_law_term", "_law_things", "_law_sizes_here", "_law_one"] "_law_work" (defScope s__law_work) f cdv A outer s H E) (fun c d _ H => E c d H) (b__law_work cl)) := by
  have tk : Takes (cxOf (L2.CX P w) P w K mg base ["_law_term", "_law_things", "_law_sizes_here", "_law_one"] "_law_work" (defScope s__law_work) f cdv A outer s H E) (fun c d _ H => E c d H) := takes_of rfl rfl rfl rfl
  have nd := sc__law_work.nd
  exact (q_seq (q_ifS (qt_cmp (op_eqU (by have z := hu2 hr; exact z)) eqP_v (q_ix (q_var 0) q_int) q_str (nomark _)) (q_last (q_ret (q_ix (q_var 1) (q_ix (q_var 0) q_int)))) q_snil)
    (q_seq (q_ifS (qt_cmp (op_eqU (by have z := hu2 hr; exact z)) eqP_v (q_ix (q_var 0) q_int) q_str (nomark _)) (q_last (q_ret (q_tup q_nil))) q_snil)
    (q_seq (q_ifS (qt_cmp (op_eqU (by have z := hu2 hr; exact z)) eqP_v (q_ix (q_var 0) q_int) q_str (nomark _)) (q_last (q_ret (q_tup (q_cons q_str (q_cons (q_ix (q_var 0) q_int) (q_cons (q_var 1) q_nil)))))) q_snil)
    (q_seq (q_set (i := 3) nd rfl (by first | exact Or.inl rfl | exact Or.inr rfl) (q_call (C .f__law_work (fun z => nomatch z)) hr tk rfl (q_cons (q_ix (q_var 0) q_int) (q_cons (q_var 1) (q_cons (q_var 2) q_nil)))))
    (q_seq (q_ifS (qt_cmp (op_eqU (by have z := hu2 hr; exact z)) eqP_v (q_ix (q_var 0) q_int) q_str (nomark _)) (q_last (q_ret (q_call (C .f__law_handed (fun z => nomatch z)) hr tk rfl (q_cons (q_var 3) (q_cons (q_call (C .f__law_work (fun z => nomatch z)) hr tk rfl (q_cons (q_ix (q_var 0) q_int) (q_cons (q_var 1) (q_cons (q_var 2) q_nil)))) (q_cons (q_var 2) q_nil)))))) q_snil)
    (q_seq (q_ifS (qt_cmp (op_eqU (by have z := hu2 hr; exact z)) eqP_v (q_ix (q_var 0) q_int) q_str (nomark _)) (q_last (q_ret (q_tup (q_cons (q_var 3) (q_cons (q_call (C .f__law_work (fun z => nomatch z)) hr tk rfl (q_cons (q_ix (q_var 0) q_int) (q_cons (q_var 1) (q_cons (q_var 2) q_nil)))) q_nil))))) q_snil)
    (q_last (q_ret (q_ix (q_var 3) (q_callTy call_int1 int_v rfl T.m_int (by decide +kernel) (q_cons (q_cmp (op_eqU (by have z := hu2 hr; exact z)) eqP_v (q_ix (q_var 0) q_int) q_str (nomark _)) q_nil)))))))))))
theorem ok__law_closed {k : Nat} {cl : Fn → FF} [Wo] (T : Txt K w.params mg) (hW : Wo.ww = w) (C : ∀ g : Fn, g ≠ .f_law → calOf P w K mg base k g (cl g)) (f : Addr) (cdv : Value) (A : Around) (outer : List Env) (s : Shared) (H : Hp) (E : XK) (hr : RoomG k (A.deeper (envOfC "_law_closed" (defScope s__law_closed) s.heap.objs.size f cdv))) :
    PSs (cxOf (L2.CX P w) P w K mg base ["_law_term", "_law_given", "_law_kind_here"] "_law_closed" (defScope s__law_closed) f cdv A outer s H E) (defBody s__law_closed) (tS (cxOf (L2.CX P w) P w K mg base ["_law_term", "_law_given", "_law_kind_here"] "_law_closed" (defScope s__law_closed) f cdv A outer s H E) (fun c d _ H => E c d H) (b__law_closed cl)) := by
  have tk : Takes (cxOf (L2.CX P w) P w K mg base ["_law_term", "_law_given", "_law_kind_here"] "_law_closed" (defScope s__law_closed) f cdv A outer s H E) (fun c d _ H => E c d H) := takes_of rfl rfl rfl rfl
  have nd := sc__law_closed.nd
  exact (q_seq (q_for (passes_of rfl) rfl (qi_list (q_turn (q_var 1))) (q_gn (i := 2) nd rfl (by first | exact Or.inl rfl | exact Or.inr rfl)) (q_last (q_set (i := 0) nd rfl (by first | exact Or.inl rfl | exact Or.inr rfl) (q_tup (q_cons q_str (q_cons (q_var 2) (q_cons (q_var 0) q_nil)))))))
    (q_last (q_ret (q_var 0))))
theorem ok__law_renamed {k : Nat} {cl : Fn → FF} [Wo] (T : Txt K w.params mg) (hW : Wo.ww = w) (C : ∀ g : Fn, g ≠ .f_law → calOf P w K mg base k g (cl g)) (f : Addr) (cdv : Value) (A : Around) (outer : List Env) (s : Shared) (H : Hp) (E : XK) (hr : RoomG k (A.deeper (envOfC "_law_renamed" (defScope s__law_renamed) s.heap.objs.size f cdv))) :
    PSs (cxOf (L2.CX P w) P w K mg base ["_law_thing", "_law_pick_here", "_law_part"] "_law_renamed" (defScope s__law_renamed) f cdv A outer s H E) (defBody s__law_renamed) (tS (cxOf (L2.CX P w) P w K mg base ["_law_thing", "_law_pick_here", "_law_part"] "_law_renamed" (defScope s__law_renamed) f cdv A outer s H E) (fun c d _ H => E c d H) (b__law_renamed cl)) := by
  have tk : Takes (cxOf (L2.CX P w) P w K mg base ["_law_thing", "_law_pick_here", "_law_part"] "_law_renamed" (defScope s__law_renamed) f cdv A outer s H E) (fun c d _ H => E c d H) := takes_of rfl rfl rfl rfl
  have nd := sc__law_renamed.nd
  exact (q_seq (q_ifS (qt_cmp (op_eqU (by have z := hu2 hr; exact z)) eqP_v (q_ix (q_var 0) q_int) q_str (nomark _)) (q_last (q_ret (q_tup (q_cons q_str (q_cons (q_ix (q_var 1) (q_ix (q_var 0) q_int)) q_nil))))) q_snil)
    (q_seq (q_ifS (qt_cmp (op_eqU (by have z := hu2 hr; exact z)) eqP_v (q_ix (q_var 0) q_int) q_str (nomark _)) (q_last (q_ret (q_var 0))) q_snil)
    (q_last (q_ret (q_callTy call_tuple_of tuple_v rfl T.m_tuple (by decide +kernel) (q_cons (q_op op_addU addU_v (q_lst (q_cons (q_ix (q_var 0) q_int) q_nil)) (q_lc (own := [("_law_part", 2)]) rfl nd (qi_tup (q_slice (q_var 0) (q_some q_int) q_none)) (blkOk_by (own := [("_law_part", 2)]) (by rfl)) (by decide) (fun _ _ _ _ _ => (q_gn (i := 2) nd rfl (by first | exact Or.inl rfl | exact Or.inr rfl))) (fun _ _ _ _ _ => qts_nil) (fun _ _ _ _ _ => (q_call (C .f__law_renamed (fun z => nomatch z)) hr takes0 rfl (q_cons (q_var 2) (q_cons (q_var 1) q_nil)))))) q_nil))))))
theorem ok__law_count {k : Nat} {cl : Fn → FF} [Wo] (T : Txt K w.params mg) (hW : Wo.ww = w) (C : ∀ g : Fn, g ≠ .f_law → calOf P w K mg base k g (cl g)) (f : Addr) (cdv : Value) (A : Around) (outer : List Env) (s : Shared) (H : Hp) (E : XK) (hr : RoomG k (A.deeper (envOfC "_law_count" (defScope s__law_count) s.heap.objs.size f cdv))) :
    PSs (cxOf (L2.CX P w) P w K mg base ["_law_kind_here", "_law_sizes_here", "_law_one", "_law_other_here", "_law_told", "_law_k"] "_law_count" (defScope s__law_count) f cdv A outer s H E) (defBody s__law_count) (tS (cxOf (L2.CX P w) P w K mg base ["_law_kind_here", "_law_sizes_here", "_law_one", "_law_other_here", "_law_told", "_law_k"] "_law_count" (defScope s__law_count) f cdv A outer s H E) (fun c d _ H => E c d H) (b__law_count cl)) := by
  have tk : Takes (cxOf (L2.CX P w) P w K mg base ["_law_kind_here", "_law_sizes_here", "_law_one", "_law_other_here", "_law_told", "_law_k"] "_law_count" (defScope s__law_count) f cdv A outer s H E) (fun c d _ H => E c d H) := takes_of rfl rfl rfl rfl
  have nd := sc__law_count.nd
  exact (q_seq (q_ifS (qt_cmp (op_eqU (by have z := hu2 hr; exact z)) eqP_v (q_ix (q_var 0) q_int) q_str (nomark _)) (q_last (q_ret (q_ix (q_var 1) (q_ix (q_var 0) q_int)))) q_snil)
    (q_seq (q_ifS (qt_cmp (op_eqU (by have z := hu2 hr; exact z)) eqP_v (q_ix (q_var 0) q_int) q_str (nomark _)) (q_last (q_ret q_int)) q_snil)
    (q_seq (q_set (i := 2) nd rfl (by first | exact Or.inl rfl | exact Or.inr rfl) (q_call (C .f__law_count (fun z => nomatch z)) hr tk rfl (q_cons (q_ix (q_var 0) q_int) (q_cons (q_var 1) q_nil))))
    (q_seq (q_set (i := 3) nd rfl (by first | exact Or.inl rfl | exact Or.inr rfl) (q_call (C .f__law_count (fun z => nomatch z)) hr tk rfl (q_cons (q_ix (q_var 0) q_int) (q_cons (q_var 1) q_nil))))
    (q_seq (q_ifS (qt_cmp (op_eqU (by have z := hu2 hr; exact z)) eqP_v (q_ix (q_var 0) q_int) q_str (nomark _)) (q_last (q_ret (q_callB (call_min2 rfl) min_v rfl T.m_min (by decide +kernel) (q_cons q_int (q_cons (q_op op_mulU mulU_v (q_var 2) (q_var 3)) q_nil))))) q_snil)
    (q_seq (q_set (i := 4) nd rfl (by first | exact Or.inl rfl | exact Or.inr rfl) q_int)
    (q_seq (q_for (passes_of rfl) rfl (qi_range1 rfl T.m_range (q_cons (q_var 2) q_nil)) (q_gn (i := 5) nd rfl (by first | exact Or.inl rfl | exact Or.inr rfl)) (q_last (q_set (i := 4) nd rfl (by first | exact Or.inl rfl | exact Or.inr rfl) (q_callB (call_min2 rfl) min_v rfl T.m_min (by decide +kernel) (q_cons q_int (q_cons (q_op op_mulU mulU_v (q_var 4) (q_var 3)) q_nil))))))
    (q_last (q_ret (q_var 4))))))))))
theorem ok__law_cost {k : Nat} {cl : Fn → FF} [Wo] (T : Txt K w.params mg) (hW : Wo.ww = w) (C : ∀ g : Fn, g ≠ .f_law → calOf P w K mg base k g (cl g)) (f : Addr) (cdv : Value) (A : Around) (outer : List Env) (s : Shared) (H : Hp) (E : XK) (hr : RoomG k (A.deeper (envOfC "_law_cost" (defScope s__law_cost) s.heap.objs.size f cdv))) :
    PSs (cxOf (L2.CX P w) P w K mg base ["_law_kind_here", "_law_sizes_here"] "_law_cost" (defScope s__law_cost) f cdv A outer s H E) (defBody s__law_cost) (tS (cxOf (L2.CX P w) P w K mg base ["_law_kind_here", "_law_sizes_here"] "_law_cost" (defScope s__law_cost) f cdv A outer s H E) (fun c d _ H => E c d H) (b__law_cost cl)) := by
  have tk : Takes (cxOf (L2.CX P w) P w K mg base ["_law_kind_here", "_law_sizes_here"] "_law_cost" (defScope s__law_cost) f cdv A outer s H E) (fun c d _ H => E c d H) := takes_of rfl rfl rfl rfl
  have nd := sc__law_cost.nd
  exact (q_seq (q_ifS (qt_cmp (op_inU (by have z := hu2 hr; exact z)) inU_v (q_ix (q_var 0) q_int) (q_lst (q_cons q_str (q_cons q_str q_nil))) (by rfl)) (q_last (q_ret q_int)) q_snil)
    (q_seq (q_ifS (qt_cmp (op_eqU (by have z := hu2 hr; exact z)) eqP_v (q_ix (q_var 0) q_int) q_str (nomark _)) (q_last (q_ret (q_op op_addU addU_v (q_call (C .f__law_cost (fun z => nomatch z)) hr tk rfl (q_cons (q_ix (q_var 0) q_int) (q_cons (q_var 1) q_nil))) (q_call (C .f__law_cost (fun z => nomatch z)) hr tk rfl (q_cons (q_ix (q_var 0) q_int) (q_cons (q_var 1) q_nil)))))) q_snil)
    (q_last (q_ret (q_op op_mulU mulU_v (q_call (C .f__law_count (fun z => nomatch z)) hr tk rfl (q_cons (q_ix (q_var 0) q_int) (q_cons (q_var 1) q_nil))) (q_call (C .f__law_cost (fun z => nomatch z)) hr tk rfl (q_cons (q_ix (q_var 0) q_int) (q_cons (q_var 1) q_nil))))))))
theorem ok__law_pick {k : Nat} {cl : Fn → FF} [Wo] (T : Txt K w.params mg) (hW : Wo.ww = w) (C : ∀ g : Fn, g ≠ .f_law → calOf P w K mg base k g (cl g)) (f : Addr) (cdv : Value) (A : Around) (outer : List Env) (s : Shared) (H : Hp) (E : XK) (hr : RoomG k (A.deeper (envOfC "_law_pick" (defScope s__law_pick) s.heap.objs.size f cdv))) :
    PSs (cxOf (L2.CX P w) P w K mg base ["_law_well_here", "_law_left", "_law_k"] "_law_pick" (defScope s__law_pick) f cdv A outer s H E) (defBody s__law_pick) (tS (cxOf (L2.CX P w) P w K mg base ["_law_well_here", "_law_left", "_law_k"] "_law_pick" (defScope s__law_pick) f cdv A outer s H E) (fun c d _ H => E c d H) (b__law_pick cl)) := by
  have tk : Takes (cxOf (L2.CX P w) P w K mg base ["_law_well_here", "_law_left", "_law_k"] "_law_pick" (defScope s__law_pick) f cdv A outer s H E) (fun c d _ H => E c d H) := takes_of rfl rfl rfl rfl
  have nd := sc__law_pick.nd
  exact (q_seq (q_set (i := 1) nd rfl (by first | exact Or.inl rfl | exact Or.inr rfl) (q_listRgC rfl rfl T.m_list rfl T.m_range q_int))
    (q_last (q_ret (q_lc (own := [("_law_k", 2)]) rfl nd (qi_range1 rfl T.m_range (q_cons q_int q_nil)) (blkOk_by (own := [("_law_k", 2)]) (by rfl)) (by decide) (fun _ _ _ _ _ => (q_gn (i := 2) nd rfl (by first | exact Or.inl rfl | exact Or.inr rfl))) (fun _ _ _ _ _ => qts_nil) (fun _ _ _ _ _ => (q_mth PySem.F.slot_list_pop PySem.F.type_list_pop mt_popAt pop1_v (q_var 1) (q_cons (q_call (C .f__law_draw (fun z => nomatch z)) hr takes0 rfl (q_cons (q_var 0) (q_cons (q_op op_sub sub_v q_int (q_var 2)) q_nil))) q_nil)))))))
theorem ok__law_sizes {k : Nat} {cl : Fn → FF} [Wo] (T : Txt K w.params mg) (hW : Wo.ww = w) (C : ∀ g : Fn, g ≠ .f_law → calOf P w K mg base k g (cl g)) (f : Addr) (cdv : Value) (A : Around) (outer : List Env) (s : Shared) (H : Hp) (E : XK) (hr : RoomG k (A.deeper (envOfC "_law_sizes" (defScope s__law_sizes) s.heap.objs.size f cdv))) :
    PSs (cxOf (L2.CX P w) P w K mg base ["_law_well_here", "_law_kind_here", "_law_pick_here", "_law_drawn", "_law_strange", "_law_sizes_here", "_law_most", "_law_k"] "_law_sizes" (defScope s__law_sizes) f cdv A outer s H E) (defBody s__law_sizes) (tS (cxOf (L2.CX P w) P w K mg base ["_law_well_here", "_law_kind_here", "_law_pick_here", "_law_drawn", "_law_strange", "_law_sizes_here", "_law_most", "_law_k"] "_law_sizes" (defScope s__law_sizes) f cdv A outer s H E) (fun c d _ H => E c d H) (b__law_sizes cl)) := by
  have tk : Takes (cxOf (L2.CX P w) P w K mg base ["_law_well_here", "_law_kind_here", "_law_pick_here", "_law_drawn", "_law_strange", "_law_sizes_here", "_law_most", "_law_k"] "_law_sizes" (defScope s__law_sizes) f cdv A outer s H E) (fun c d _ H => E c d H) := takes_of rfl rfl rfl rfl
  have nd := sc__law_sizes.nd
  exact (q_seq (by first | exact (q_setLc (i := 3) (own := [("_law_k", 7)]) rfl nd rfl rfl (sw_true rfl rfl rfl (by decide +kernel)) (qi_range1 rfl T.m_range (q_cons q_int q_nil)) (blkOk_by (own := [("_law_k", 7)]) (by rfl)) (by decide) (fun _ _ _ _ _ => (q_gn (i := 7) nd rfl (by first | exact Or.inl rfl | exact Or.inr rfl))) (fun _ _ _ _ _ => qts_nil) (fun _ _ _ _ _ => (q_op op_addU addU_v q_int (q_call (C .f__law_draw (fun z => nomatch z)) hr takes0 rfl (q_cons (q_var 0) (q_cons q_int q_nil)))))) | exact (q_set (i := 3) nd rfl (by first | exact Or.inl rfl | exact Or.inr rfl) (q_lc (own := [("_law_k", 7)]) rfl nd (qi_range1 rfl T.m_range (q_cons q_int q_nil)) (blkOk_by (own := [("_law_k", 7)]) (by rfl)) (by decide) (fun _ _ _ _ _ => (q_gn (i := 7) nd rfl (by first | exact Or.inl rfl | exact Or.inr rfl))) (fun _ _ _ _ _ => qts_nil) (fun _ _ _ _ _ => (q_op op_addU addU_v q_int (q_call (C .f__law_draw (fun z => nomatch z)) hr takes0 rfl (q_cons (q_var 0) (q_cons q_int q_nil))))))))
    (q_seq (q_set (i := 4) nd rfl (by first | exact Or.inl rfl | exact Or.inr rfl) (q_ix (q_lst (q_cons q_int (q_cons q_int (q_cons q_int q_nil)))) (q_call (C .f__law_draw (fun z => nomatch z)) hr tk rfl (q_cons (q_var 0) (q_cons q_int q_nil)))))
    (q_seq (q_set (i := 5) nd rfl (by first | exact Or.inl rfl | exact Or.inr rfl) (q_op op_mulU mulU_v (q_lst (q_cons (q_var 4) q_nil)) q_int))
    (q_seq (q_for (passes_of rfl) rfl (qi_list (q_lst (q_cons q_int (q_cons q_int (q_cons q_int q_nil))))) (q_gn (i := 6) nd rfl (by first | exact Or.inl rfl | exact Or.inr rfl)) (q_last (q_ifS (PW.pt (qw_or (qt_cmp (op_eqU (by have z := hu2 hr; exact z)) eqP_v (q_var 6) q_int (nomark _)) (qw_one (qt_cmp op_gt (cmp_v _) (q_call (C .f__law_cost (fun z => nomatch z)) hr tk rfl (q_cons (q_var 1) (q_cons (q_var 5) q_nil))) q_int (nomark _))))) (q_last (q_for (passes_of rfl) rfl (qi_range1 rfl T.m_range (q_cons q_int q_nil)) (q_gn (i := 7) nd rfl (by first | exact Or.inl rfl | exact Or.inr rfl)) (q_last (q_asg (q_callB (call_min2 rfl) min_v rfl T.m_min (by decide +kernel) (q_cons (q_var 6) (q_cons (q_ix (q_var 3) (q_var 7)) q_nil))) (q_gsb (W := W0) (q_var 5) (q_ix (q_var 2) (q_var 7))))))) q_snil)))
    (q_last (q_ret (q_fz (q_var 5))))))))
theorem ok__law_put {k : Nat} {cl : Fn → FF} [Wo] (T : Txt K w.params mg) (hW : Wo.ww = w) (C : ∀ g : Fn, g ≠ .f_law → calOf P w K mg base k g (cl g)) (f : Addr) (cdv : Value) (A : Around) (outer : List Env) (s : Shared) (H : Hp) (E : XK) (hr : RoomG k (A.deeper (envOfC "_law_put" (defScope s__law_put) s.heap.objs.size f cdv))) :
    PSs (cxOf (L2.CX P w) P w K mg base ["_law_term", "_law_by", "_law_part"] "_law_put" (defScope s__law_put) f cdv A outer s H E) (defBody s__law_put) (tS (cxOf (L2.CX P w) P w K mg base ["_law_term", "_law_by", "_law_part"] "_law_put" (defScope s__law_put) f cdv A outer s H E) (fun c d _ H => E c d H) (b__law_put cl)) := by
  have tk : Takes (cxOf (L2.CX P w) P w K mg base ["_law_term", "_law_by", "_law_part"] "_law_put" (defScope s__law_put) f cdv A outer s H E) (fun c d _ H => E c d H) := takes_of rfl rfl rfl rfl
  have nd := sc__law_put.nd
  exact (q_seq (q_ifS (qt_cmp (op_eqU (by have z := hu2 hr; exact z)) eqP_v (q_ix (q_var 0) q_int) q_str (nomark _)) (q_last (q_ret (q_tup (q_cons q_str (q_cons (q_op op_addU addU_v (q_ix (q_var 0) q_int) (q_var 1)) q_nil))))) q_snil)
    (q_seq (q_ifS (qt_cmp (op_eqU (by have z := hu2 hr; exact z)) eqP_v (q_ix (q_var 0) q_int) q_str (nomark _)) (q_last (q_ret (q_tup (q_cons q_str (q_cons (q_ix (q_var 0) q_int) (q_cons (q_call (C .f__law_put (fun z => nomatch z)) hr tk rfl (q_cons (q_ix (q_var 0) q_int) (q_cons (q_var 1) q_nil))) q_nil)))))) q_snil)
    (q_last (q_ret (q_callTy call_tuple_of tuple_v rfl T.m_tuple (by decide +kernel) (q_cons (q_op op_addU addU_v (q_lst (q_cons (q_ix (q_var 0) q_int) q_nil)) (q_lc (own := [("_law_part", 2)]) rfl nd (qi_tup (q_slice (q_var 0) (q_some q_int) q_none)) (blkOk_by (own := [("_law_part", 2)]) (by rfl)) (by decide) (fun _ _ _ _ _ => (q_gn (i := 2) nd rfl (by first | exact Or.inl rfl | exact Or.inr rfl))) (fun _ _ _ _ _ => qts_nil) (fun _ _ _ _ _ => (q_call (C .f__law_put (fun z => nomatch z)) hr takes0 rfl (q_cons (q_var 2) (q_cons (q_var 1) q_nil)))))) q_nil))))))
theorem ok__law_other {k : Nat} {cl : Fn → FF} [Wo] (T : Txt K w.params mg) (hW : Wo.ww = w) (C : ∀ g : Fn, g ≠ .f_law → calOf P w K mg base k g (cl g)) (f : Addr) (cdv : Value) (A : Around) (outer : List Env) (s : Shared) (H : Hp) (E : XK) (hr : RoomG k (A.deeper (envOfC "_law_other" (defScope s__law_other) s.heap.objs.size f cdv))) :
    PSs (cxOf (L2.CX P w) P w K mg base ["_law_well_here", "_law_pick_here", "_law_one", "_law_other_here", "_law_leave", "_law_first", "_law_kinds", "_law_terms", "_law_way"] "_law_other" (defScope s__law_other) f cdv A outer s H E) (defBody s__law_other) (tS (cxOf (L2.CX P w) P w K mg base ["_law_well_here", "_law_pick_here", "_law_one", "_law_other_here", "_law_leave", "_law_first", "_law_kinds", "_law_terms", "_law_way"] "_law_other" (defScope s__law_other) f cdv A outer s H E) (fun c d _ H => E c d H) (b__law_other cl)) := by
  have tk : Takes (cxOf (L2.CX P w) P w K mg base ["_law_well_here", "_law_pick_here", "_law_one", "_law_other_here", "_law_leave", "_law_first", "_law_kinds", "_law_terms", "_law_way"] "_law_other" (defScope s__law_other) f cdv A outer s H E) (fun c d _ H => E c d H) := takes_of rfl rfl rfl rfl
  have nd := sc__law_other.nd
  exact (q_seq (q_par (i := 2) (j := 3) rfl nd rfl rfl (by decide) rfl rfl (q_cons (q_tup (q_cons q_str (q_cons (q_ix (q_var 1) (q_call (C .f__law_draw (fun z => nomatch z)) hr tk rfl (q_cons (q_var 0) (q_cons q_int q_nil)))) q_nil))) (q_cons (q_tup (q_cons q_str (q_cons (q_ix (q_var 1) (q_call (C .f__law_draw (fun z => nomatch z)) hr tk rfl (q_cons (q_var 0) (q_cons q_int q_nil)))) q_nil))) q_nil)) (by rfl))
    (q_seq (q_set (i := 4) nd rfl (by first | exact Or.inl rfl | exact Or.inr rfl) (q_tup (q_cons q_str (q_cons (q_var 2) (q_cons (q_tup (q_cons q_str (q_cons q_int q_nil))) q_nil)))))
    (q_seq (q_set (i := 5) nd rfl (by first | exact Or.inl rfl | exact Or.inr rfl) (q_tup (q_cons q_str (q_cons (q_var 2) (q_cons (q_tup (q_cons q_str (q_cons (q_var 3) (q_cons (q_tup (q_cons q_str (q_cons q_int q_nil))) q_nil)))) q_nil)))))
    (q_seq (q_set (i := 6) nd rfl (by first | exact Or.inl rfl | exact Or.inr rfl) (q_cel (q_cons (q_tup (q_cons q_str q_nil)) (q_cons (q_tup (q_cons q_str (q_cons (q_var 2) (q_cons (q_var 2) q_nil)))) (q_cons (q_tup (q_cons q_str (q_cons (q_var 2) (q_cons (q_tup (q_cons q_str (q_cons (q_var 3) (q_cons (q_var 2) q_nil)))) q_nil)))) q_nil)))))
    (q_seq (q_expr (q_mth PySem.F.slot_list_append PySem.F.type_list_append mt_append append_v (q_var 6) (q_cons (q_tup (q_cons q_str (q_cons (q_tup (q_cons q_str (q_cons (q_var 2) (q_cons (q_var 2) q_nil)))) (q_cons (q_tup (q_cons q_str q_nil)) q_nil)))) q_nil)))
    (q_seq (q_set (i := 7) nd rfl (by first | exact Or.inl rfl | exact Or.inr rfl) (q_lst (q_cons (q_tup (q_cons q_str q_nil)) (q_cons (q_var 4) (q_cons (q_var 5) (q_cons (q_tup (q_cons q_str (q_cons (q_var 4) (q_cons (q_tup (q_cons q_str q_nil)) q_nil)))) q_nil))))))
    (q_seq (q_set (i := 8) nd rfl (by first | exact Or.inl rfl | exact Or.inr rfl) (q_call (C .f__law_draw (fun z => nomatch z)) hr tk rfl (q_cons (q_var 0) (q_cons q_int q_nil))))
    (q_last (q_ret (q_tup (q_cons (q_ix (q_var 7) (q_var 8)) (q_cons (q_ix (q_var 6) (q_var 8)) q_nil))))))))))))
theorem ok__law_topped {k : Nat} {cl : Fn → FF} [Wo] (T : Txt K w.params mg) (hW : Wo.ww = w) (C : ∀ g : Fn, g ≠ .f_law → calOf P w K mg base k g (cl g)) (f : Addr) (cdv : Value) (A : Around) (outer : List Env) (s : Shared) (H : Hp) (E : XK) (hr : RoomG k (A.deeper (envOfC "_law_topped" (defScope s__law_topped) s.heap.objs.size f cdv))) :
    PSs (cxOf (L2.CX P w) P w K mg base ["_law_well_here", "_law_term", "_law_kind_here", "_law_pick_here", "_law_sizes_here", "_law_other_here", "_law_beside", "_law_way"] "_law_topped" (defScope s__law_topped) f cdv A outer s H E) (defBody s__law_topped) (tS (cxOf (L2.CX P w) P w K mg base ["_law_well_here", "_law_term", "_law_kind_here", "_law_pick_here", "_law_sizes_here", "_law_other_here", "_law_beside", "_law_way"] "_law_topped" (defScope s__law_topped) f cdv A outer s H E) (fun c d _ H => E c d H) (b__law_topped cl)) := by
  have tk : Takes (cxOf (L2.CX P w) P w K mg base ["_law_well_here", "_law_term", "_law_kind_here", "_law_pick_here", "_law_sizes_here", "_law_other_here", "_law_beside", "_law_way"] "_law_topped" (defScope s__law_topped) f cdv A outer s H E) (fun c d _ H => E c d H) := takes_of rfl rfl rfl rfl
  have nd := sc__law_topped.nd
  exact (q_seq (q_asg (q_call (C .f__law_other (fun z => nomatch z)) hr tk rfl (q_cons (q_var 0) (q_cons (q_var 3) q_nil))) (q_gtu rfl (q_gscons (q_gn (i := 5) nd rfl (by first | exact Or.inl rfl | exact Or.inr rfl)) (q_gscons (q_gn (i := 6) nd rfl (by first | exact Or.inl rfl | exact Or.inr rfl)) q_gsnil))))
    (q_seq (q_set (i := 7) nd rfl (by first | exact Or.inl rfl | exact Or.inr rfl) (q_call (C .f__law_draw (fun z => nomatch z)) hr tk rfl (q_cons (q_var 0) (q_cons q_int q_nil))))
    (q_seq (q_ifS (qt_cmp (op_eqU (by have z := hu2 hr; exact z)) eqP_v (q_var 7) q_int (nomark _)) (q_last (q_ret (q_tup (q_cons q_str (q_cons (q_tup (q_cons q_str (q_cons (q_var 1) (q_cons (q_var 5) q_nil)))) q_nil))))) q_snil)
    (q_seq (q_ifS (qt_cmp (op_eqU (by have z := hu2 hr; exact z)) eqP_v (q_var 7) q_int (nomark _)) (q_last (q_ret (q_tup (q_cons q_str (q_cons (q_tup (q_cons q_str (q_cons (q_var 5) (q_cons (q_var 1) q_nil)))) q_nil))))) q_snil)
    (q_seq (q_ifS (PW.pt (qw_and (qt_cmp (op_eqU (by have z := hu2 hr; exact z)) eqP_v (q_var 7) q_int (nomark _)) (qw_one (qt_cmp op_lt (cmp_v _) (q_call (C .f__law_count (fun z => nomatch z)) hr tk rfl (q_cons (q_var 2) (q_cons (q_var 4) q_nil))) q_int (nomark _))))) (q_last (q_ret (q_tup (q_cons q_str (q_cons (q_tup (q_cons q_str (q_cons (q_var 2) (q_cons (q_tup (q_cons q_str (q_cons q_int q_nil))) q_nil)))) (q_cons (q_var 1) q_nil)))))) q_snil)
    (q_seq (q_ifS (qt_cmp op_gt (cmp_v _) (q_call (C .f__law_count (fun z => nomatch z)) hr tk rfl (q_cons (q_var 6) (q_cons (q_var 4) q_nil))) q_int (nomark _)) (q_last (q_asg (q_tup (q_cons (q_tup (q_cons q_str q_nil)) (q_cons (q_tup (q_cons q_str q_nil)) q_nil))) (q_gtu rfl (q_gscons (q_gn (i := 5) nd rfl (by first | exact Or.inl rfl | exact Or.inr rfl)) (q_gscons (q_gn (i := 6) nd rfl (by first | exact Or.inl rfl | exact Or.inr rfl)) q_gsnil))))) q_snil)
    (q_last (q_ret (q_tup (q_cons q_str (q_cons (q_tup (q_cons q_str (q_cons (q_var 6) (q_cons (q_call (C .f__law_put (fun z => nomatch z)) hr tk rfl (q_cons (q_var 1) (q_cons q_int q_nil))) q_nil)))) (q_cons (q_var 5) q_nil))))))))))))
theorem ok__law_made {k : Nat} {cl : Fn → FF} [Wo] (T : Txt K w.params mg) (hW : Wo.ww = w) (C : ∀ g : Fn, g ≠ .f_law → calOf P w K mg base k g (cl g)) (f : Addr) (cdv : Value) (A : Around) (outer : List Env) (s : Shared) (H : Hp) (E : XK) (hr : RoomG k (A.deeper (envOfC "_law_made" (defScope s__law_made) s.heap.objs.size f cdv))) :
    PSs (cxOf (L2.CX P w) P w K mg base ["_law_well_here", "_law_pick_here", "_law_kind_here", "_law_given", "_law_flat_here"] "_law_made" (defScope s__law_made) f cdv A outer s H E) (defBody s__law_made) (tS (cxOf (L2.CX P w) P w K mg base ["_law_well_here", "_law_pick_here", "_law_kind_here", "_law_given", "_law_flat_here"] "_law_made" (defScope s__law_made) f cdv A outer s H E) (fun c d _ H => E c d H) (b__law_made cl)) := by
  have tk : Takes (cxOf (L2.CX P w) P w K mg base ["_law_well_here", "_law_pick_here", "_law_kind_here", "_law_given", "_law_flat_here"] "_law_made" (defScope s__law_made) f cdv A outer s H E) (fun c d _ H => E c d H) := takes_of rfl rfl rfl rfl
  have nd := sc__law_made.nd
  exact (q_seq (q_set (i := 1) nd rfl (by first | exact Or.inl rfl | exact Or.inr rfl) (q_call (C .f__law_pick (fun z => nomatch z)) hr tk rfl (q_cons (q_var 0) q_nil)))
    (q_seq (q_set (i := 2) nd rfl (by first | exact Or.inl rfl | exact Or.inr rfl) (q_call (C .f__law_kind (fun z => nomatch z)) hr tk rfl (q_cons (q_var 0) (q_cons q_int q_nil))))
    (q_seq (q_set (i := 3) nd rfl (by first | exact Or.inl rfl | exact Or.inr rfl) (q_lst (q_cons (q_tup (q_cons q_str (q_cons q_int q_nil))) (q_cons (q_tup (q_cons q_str (q_cons q_int q_nil))) (q_cons (q_tup (q_cons q_str (q_cons q_int q_nil))) q_nil)))))
    (q_seq (q_ifS (qt_cmp (op_eqU (by have z := hu2 hr; exact z)) eqP_v (q_call (C .f__law_draw (fun z => nomatch z)) hr tk rfl (q_cons (q_var 0) (q_cons q_int q_nil))) q_int (nomark _)) (q_seq (q_set (i := 3) nd rfl (by first | exact Or.inl rfl | exact Or.inr rfl) (q_slice (q_var 3) q_none (q_some q_int)))
    (q_last (q_set (i := 2) nd rfl (by first | exact Or.inl rfl | exact Or.inr rfl) (q_call (C .f__law_renamed (fun z => nomatch z)) hr tk rfl (q_cons (q_var 2) (q_cons (q_lst (q_cons q_int (q_cons q_int (q_cons q_int q_nil)))) q_nil)))))) q_snil)
    (q_seq (q_set (i := 4) nd rfl (by first | exact Or.inl rfl | exact Or.inr rfl) (q_call (C .f__law_renamed (fun z => nomatch z)) hr tk rfl (q_cons (q_call (C .f__law_closed (fun z => nomatch z)) hr tk rfl (q_cons (q_call (C .f__law_flat (fun z => nomatch z)) hr tk rfl (q_cons (q_var 0) (q_cons (q_var 2) (q_cons (q_var 3) (q_cons q_int q_nil))))) (q_cons (q_var 3) q_nil))) (q_cons (q_var 1) q_nil))))
    (q_last (q_ret (q_tup (q_cons (q_var 1) (q_cons (q_var 4) (q_cons (q_call (C .f__law_kind_of (fun z => nomatch z)) hr tk rfl (q_cons (q_var 4) (q_cons (q_lst q_nil) q_nil))) q_nil)))))))))))
theorem ok_law {k : Nat} {cl : Fn → FF} [Wo] (T : Txt K w.params mg) (hW : Wo.ww = w) (C : ∀ g : Fn, g ≠ .f_law → calOf P w K mg base k g (cl g)) (f : Addr) (cdv : Value) (A : Around) (outer : List Env) (s : Shared) (H : Hp) (E : XK) (hr : RoomG k (A.deeper (envOfC "law" (defScope s_law) s.heap.objs.size f cdv))) :
    PSs (cxOf (L2.CX P w) P w K mg base ["_law_script", "_law_cell", "_law_well_here", "_law_pick_here", "_law_plain_term", "_law_kind_here", "_law_sizes_here", "_law_term", "_law_step", "_law_one", "_law_worth", "_law_due"] "law" (defScope s_law) f cdv A outer s H E) (defBody s_law) (tS (cxOf (L2.CX P w) P w K mg base ["_law_script", "_law_cell", "_law_well_here", "_law_pick_here", "_law_plain_term", "_law_kind_here", "_law_sizes_here", "_law_term", "_law_step", "_law_one", "_law_worth", "_law_due"] "law" (defScope s_law) f cdv A outer s H E) (fun c d _ H => E c d H) (b_law cl)) := by
  have tk : Takes (cxOf (L2.CX P w) P w K mg base ["_law_script", "_law_cell", "_law_well_here", "_law_pick_here", "_law_plain_term", "_law_kind_here", "_law_sizes_here", "_law_term", "_law_step", "_law_one", "_law_worth", "_law_due"] "law" (defScope s_law) f cdv A outer s H E) (fun c d _ H => E c d H) := takes_of rfl rfl rfl rfl
  have nd := sc_law.nd
  exact (q_seq (q_for (passes_of rfl) rfl (qi_list (q_op op_addU addU_v (q_lst (q_cons q_int (q_cons q_int q_nil))) (q_slice (q_var 0) q_none (q_some q_int)))) (q_gn (i := 1) nd rfl (by first | exact Or.inl rfl | exact Or.inr rfl)) (q_seq (q_set (i := 2) nd rfl (by first | exact Or.inl rfl | exact Or.inr rfl) (q_call (C .f__law_well (fun z => nomatch z)) hr tk rfl (q_cons (q_var 1) q_nil)))
    (q_seq (q_asg (q_call (C .f__law_made (fun z => nomatch z)) hr tk rfl (q_cons (q_var 2) q_nil)) (q_gtu rfl (q_gscons (q_gn (i := 3) nd rfl (by first | exact Or.inl rfl | exact Or.inr rfl)) (q_gscons (q_gn (i := 4) nd rfl (by first | exact Or.inl rfl | exact Or.inr rfl)) (q_gscons (q_gn (i := 5) nd rfl (by first | exact Or.inl rfl | exact Or.inr rfl)) q_gsnil)))))
    (q_seq (q_set (i := 6) nd rfl (by first | exact Or.inl rfl | exact Or.inr rfl) (q_call (C .f__law_sizes (fun z => nomatch z)) hr tk rfl (q_cons (q_var 2) (q_cons (q_var 5) (q_cons (q_var 3) q_nil)))))
    (q_seq (q_set (i := 7) nd rfl (by first | exact Or.inl rfl | exact Or.inr rfl) (q_var 4))
    (q_seq (q_for (passes_of rfl) rfl (qi_range1 rfl T.m_range (q_cons (q_call (C .f__law_draw (fun z => nomatch z)) hr tk rfl (q_cons (q_var 2) (q_cons q_int q_nil))) q_nil)) (q_gn (i := 8) nd rfl (by first | exact Or.inl rfl | exact Or.inr rfl)) (q_last (q_set (i := 7) nd rfl (by first | exact Or.inl rfl | exact Or.inr rfl) (q_call (C .f__law_topped (fun z => nomatch z)) hr tk rfl (q_cons (q_var 2) (q_cons (q_var 7) (q_cons (q_var 5) (q_cons (q_var 3) (q_cons (q_var 6) q_nil)))))))))
    (q_seq (q_set (i := 9) nd rfl (by first | exact Or.inl rfl | exact Or.inr rfl) (q_call (C .f__law_work (fun z => nomatch z)) hr tk rfl (q_cons (q_var 4) (q_cons (q_lst q_nil) (q_cons (q_var 6) q_nil)))))
    (q_last (q_for (passes_of rfl) rfl (qi_list (q_call (C .f__law_all (fun z => nomatch z)) hr tk rfl (q_cons (q_ix (q_var 5) q_int) (q_cons (q_var 6) q_nil)))) (q_gn (i := 10) nd rfl (by first | exact Or.inl rfl | exact Or.inr rfl)) (q_seq (q_set (i := 11) nd rfl (by first | exact Or.inl rfl | exact Or.inr rfl) (q_call (C .f__law_out (fun z => nomatch z)) hr tk rfl (q_cons (q_ix (q_var 5) q_int) (q_cons (q_call (C .f__law_handed (fun z => nomatch z)) hr tk rfl (q_cons (q_var 9) (q_cons (q_call (C .f__law_in (fun z => nomatch z)) hr tk rfl (q_cons (q_ix (q_var 5) q_int) (q_cons (q_var 10) (q_cons (q_var 6) q_nil)))) (q_cons (q_var 6) q_nil)))) (q_cons (q_var 6) q_nil)))))
    (q_last (q_ifS (PW.pt (qw_or (qt_cmp (op_neU (by have z := hu2 hr; exact z)) neP_v (q_call (C .f_done (fun z => nomatch z)) hr tk rfl (q_cons (q_var 7) (q_cons (q_var 6) (q_cons (q_var 10) q_nil)))) (q_var 11) (nomark _)) (qw_one (qt_cmp (op_neU (by have z := hu2 hr; exact z)) neP_v (q_call (C .f_done (fun z => nomatch z)) hr tk rfl (q_cons (q_var 4) (q_cons (q_var 6) (q_cons (q_var 10) q_nil)))) (q_var 11) (nomark _))))) (q_last (q_ret q_bl)) q_snil))))))))))))
    (q_last (q_ret q_bl)))
theorem all_ok [Wo] (T : Txt K w.params mg) (hW : Wo.ww = w) : ∀ (n : Nat) (g : Fn), g ≠ .f_law → calOf P w K mg base n g (ev n g)
  | 0, .f_Reckoner___init__, _ => calM_zero T.t_Reckoner___init__
  | 0, .f_Reckoner_all_of, _ => calM_zero T.t_Reckoner_all_of
  | 0, .f_Reckoner_held, _ => calM_zero T.t_Reckoner_held
  | 0, .f_Reckoner_told, _ => calM_zero T.t_Reckoner_told
  | 0, .f_Reckoner_worked, _ => calM_zero T.t_Reckoner_worked
  | 0, .f_Told___init__, _ => calM_zero T.t_Told___init__
  | 0, .f_Told_handed, _ => calM_zero T.t_Told_handed
  | 0, .f_Made___init__, _ => calM_zero T.t_Made___init__
  | 0, .f_Made_handed, _ => calM_zero T.t_Made_handed
  | 0, .f_is_from, _ => cal_zero T.t_is_from
  | 0, .f_inner_of, _ => cal_zero T.t_inner_of
  | 0, .f_is_kind, _ => cal_zero T.t_is_kind
  | 0, .f_sure_kind, _ => cal_zero T.t_sure_kind
  | 0, .f_sure_sizes, _ => cal_zero T.t_sure_sizes
  | 0, .f_power_up_to, _ => cal_zero T.t_power_up_to
  | 0, .f_number_up_to, _ => cal_zero T.t_number_up_to
  | 0, .f_sure_taken, _ => cal_zero T.t_sure_taken
  | 0, .f_lists_of, _ => cal_zero T.t_lists_of
  | 0, .f_all_worths, _ => cal_zero T.t_all_worths
  | 0, .f_worths, _ => cal_zero T.t_worths
  | 0, .f_is_plain_worth, _ => cal_zero T.t_is_plain_worth
  | 0, .f_is_worth, _ => cal_zero T.t_is_worth
  | 0, .f_is_shape, _ => cal_zero T.t_is_shape
  | 0, .f_kind_of_given, _ => cal_zero T.t_kind_of_given
  | 0, .f_kind_of_two, _ => cal_zero T.t_kind_of_two
  | 0, .f_kind_in, _ => cal_zero T.t_kind_in
  | 0, .f_sure_kind_in, _ => cal_zero T.t_sure_kind_in
  | 0, .f_done, _ => cal_zero T.t_done
  | 0, .f__law_well, _ => cal_zero T.t__law_well
  | 0, .f__law_draw, _ => cal_zero T.t__law_draw
  | 0, .f__law_kind, _ => cal_zero T.t__law_kind
  | 0, .f__law_ways, _ => cal_zero T.t__law_ways
  | 0, .f__law_flat, _ => cal_zero T.t__law_flat
  | 0, .f__law_kind_of, _ => cal_zero T.t__law_kind_of
  | 0, .f__law_rows, _ => cal_zero T.t__law_rows
  | 0, .f__law_all, _ => cal_zero T.t__law_all
  | 0, .f__law_handed, _ => cal_zero T.t__law_handed
  | 0, .f__law_in, _ => cal_zero T.t__law_in
  | 0, .f__law_out, _ => cal_zero T.t__law_out
  | 0, .f__law_work, _ => cal_zero T.t__law_work
  | 0, .f__law_closed, _ => cal_zero T.t__law_closed
  | 0, .f__law_renamed, _ => cal_zero T.t__law_renamed
  | 0, .f__law_count, _ => cal_zero T.t__law_count
  | 0, .f__law_cost, _ => cal_zero T.t__law_cost
  | 0, .f__law_pick, _ => cal_zero T.t__law_pick
  | 0, .f__law_sizes, _ => cal_zero T.t__law_sizes
  | 0, .f__law_put, _ => cal_zero T.t__law_put
  | 0, .f__law_other, _ => cal_zero T.t__law_other
  | 0, .f__law_topped, _ => cal_zero T.t__law_topped
  | 0, .f__law_made, _ => cal_zero T.t__law_made
  | n + 1, .f_Reckoner___init__, _ => calMB T.t_Reckoner___init__ sc_Reckoner___init__ (ok_Reckoner___init__ T hW (all_ok T hW n))
  | n + 1, .f_Reckoner_all_of, _ => calMB T.t_Reckoner_all_of sc_Reckoner_all_of (ok_Reckoner_all_of T hW (all_ok T hW n))
  | 1, .f_Reckoner_held, _ => calM_zero T.t_Reckoner_held
  | n + 2, .f_Reckoner_held, _ => calMB T.t_Reckoner_held sc_Reckoner_held (ok_Reckoner_held T hW (all_ok T hW (n + 1)) (all_ok T hW n))
  | n + 1, .f_Reckoner_told, _ => calMB T.t_Reckoner_told sc_Reckoner_told (ok_Reckoner_told T hW (all_ok T hW n))
  | 1, .f_Reckoner_worked, _ => calM_zero T.t_Reckoner_worked
  | n + 2, .f_Reckoner_worked, _ => calMB T.t_Reckoner_worked sc_Reckoner_worked (ok_Reckoner_worked T hW (all_ok T hW (n + 1)) (all_ok T hW n))
  | n + 1, .f_Told___init__, _ => calMB T.t_Told___init__ sc_Told___init__ (ok_Told___init__ T hW (all_ok T hW n))
  | n + 1, .f_Told_handed, _ => calMB T.t_Told_handed sc_Told_handed (ok_Told_handed T hW (all_ok T hW n))
  | n + 1, .f_Made___init__, _ => calMB T.t_Made___init__ sc_Made___init__ (ok_Made___init__ T hW (all_ok T hW n))
  | n + 1, .f_Made_handed, _ => calMB T.t_Made_handed sc_Made_handed (ok_Made_handed T hW (all_ok T hW n))
  | n + 1, .f_is_from, _ => calB T.t_is_from sc_is_from (ok_is_from T hW (all_ok T hW n))
  | n + 1, .f_inner_of, _ => calB T.t_inner_of sc_inner_of (ok_inner_of T hW (all_ok T hW n))
  | n + 1, .f_is_kind, _ => calC T.t_is_kind sc_is_kind (ok_is_kind T hW (all_ok T hW n))
  | n + 1, .f_sure_kind, _ => calB T.t_sure_kind sc_sure_kind (ok_sure_kind T hW (all_ok T hW n))
  | n + 1, .f_sure_sizes, _ => calB T.t_sure_sizes sc_sure_sizes (ok_sure_sizes T hW (all_ok T hW n))
  | n + 1, .f_power_up_to, _ => calB T.t_power_up_to sc_power_up_to (ok_power_up_to T hW (all_ok T hW n))
  | n + 1, .f_number_up_to, _ => calB T.t_number_up_to sc_number_up_to (ok_number_up_to T hW (all_ok T hW n))
  | n + 1, .f_sure_taken, _ => calB T.t_sure_taken sc_sure_taken (ok_sure_taken T hW (all_ok T hW n))
  | n + 1, .f_lists_of, _ => calB T.t_lists_of sc_lists_of (ok_lists_of T hW (all_ok T hW n))
  | n + 1, .f_all_worths, _ => calB T.t_all_worths sc_all_worths (ok_all_worths T hW (all_ok T hW n))
  | n + 1, .f_worths, _ => calB T.t_worths sc_worths (ok_worths T hW (all_ok T hW n))
  | n + 1, .f_is_plain_worth, _ => calB T.t_is_plain_worth sc_is_plain_worth (ok_is_plain_worth T hW (all_ok T hW n))
  | n + 1, .f_is_worth, _ => calB T.t_is_worth sc_is_worth (ok_is_worth T hW (all_ok T hW n))
  | n + 1, .f_is_shape, _ => calB T.t_is_shape sc_is_shape (ok_is_shape T hW (all_ok T hW n))
  | n + 1, .f_kind_of_given, _ => calB T.t_kind_of_given sc_kind_of_given (ok_kind_of_given T hW (all_ok T hW n))
  | n + 1, .f_kind_of_two, _ => calB T.t_kind_of_two sc_kind_of_two (ok_kind_of_two T hW (all_ok T hW n))
  | n + 1, .f_kind_in, _ => calB T.t_kind_in sc_kind_in (ok_kind_in T hW (all_ok T hW n))
  | n + 1, .f_sure_kind_in, _ => calB T.t_sure_kind_in sc_sure_kind_in (ok_sure_kind_in T hW (all_ok T hW n))
  | 1, .f_done, _ => cal_no T.t_done
  | n + 2, .f_done, _ => calC T.t_done sc_done (ok_done T hW (all_ok T hW (n + 1)) (all_ok T hW n))
  | n + 1, .f__law_well, _ => calB T.t__law_well sc__law_well (ok__law_well T hW (all_ok T hW n))
  | n + 1, .f__law_draw, _ => calB T.t__law_draw sc__law_draw (ok__law_draw T hW (all_ok T hW n))
  | n + 1, .f__law_kind, _ => calB T.t__law_kind sc__law_kind (ok__law_kind T hW (all_ok T hW n))
  | n + 1, .f__law_ways, _ => calB T.t__law_ways sc__law_ways (ok__law_ways T hW (all_ok T hW n))
  | n + 1, .f__law_flat, _ => calB T.t__law_flat sc__law_flat (ok__law_flat T hW (all_ok T hW n))
  | n + 1, .f__law_kind_of, _ => calB T.t__law_kind_of sc__law_kind_of (ok__law_kind_of T hW (all_ok T hW n))
  | n + 1, .f__law_rows, _ => calB T.t__law_rows sc__law_rows (ok__law_rows T hW (all_ok T hW n))
  | n + 1, .f__law_all, _ => calB T.t__law_all sc__law_all (ok__law_all T hW (all_ok T hW n))
  | n + 1, .f__law_handed, _ => calB T.t__law_handed sc__law_handed (ok__law_handed T hW (all_ok T hW n))
  | n + 1, .f__law_in, _ => calB T.t__law_in sc__law_in (ok__law_in T hW (all_ok T hW n))
  | n + 1, .f__law_out, _ => calB T.t__law_out sc__law_out (ok__law_out T hW (all_ok T hW n))
  | n + 1, .f__law_work, _ => calB T.t__law_work sc__law_work (ok__law_work T hW (all_ok T hW n))
  | n + 1, .f__law_closed, _ => calB T.t__law_closed sc__law_closed (ok__law_closed T hW (all_ok T hW n))
  | n + 1, .f__law_renamed, _ => calB T.t__law_renamed sc__law_renamed (ok__law_renamed T hW (all_ok T hW n))
  | n + 1, .f__law_count, _ => calB T.t__law_count sc__law_count (ok__law_count T hW (all_ok T hW n))
  | n + 1, .f__law_cost, _ => calB T.t__law_cost sc__law_cost (ok__law_cost T hW (all_ok T hW n))
  | n + 1, .f__law_pick, _ => calC T.t__law_pick sc__law_pick (ok__law_pick T hW (all_ok T hW n))
  | n + 1, .f__law_sizes, _ => calC T.t__law_sizes sc__law_sizes (ok__law_sizes T hW (all_ok T hW n))
  | n + 1, .f__law_put, _ => calB T.t__law_put sc__law_put (ok__law_put T hW (all_ok T hW n))
  | n + 1, .f__law_other, _ => calC T.t__law_other sc__law_other (ok__law_other T hW (all_ok T hW n))
  | n + 1, .f__law_topped, _ => calB T.t__law_topped sc__law_topped (ok__law_topped T hW (all_ok T hW n))
  | n + 1, .f__law_made, _ => calB T.t__law_made sc__law_made (ok__law_made T hW (all_ok T hW n))
  | _, .f_law, h => absurd rfl h
end
end Kz
namespace Kz
open PySem PySem.Spec PyProof.Rows L2 Kw
theorem up {n d : Nat} (h : d + 1 ≤ n) : ∃ m, n = m + 1 ∧ d ≤ m := ⟨n - 1, by omega, by omega⟩
theorem is_from_int {n : Nat} {i lo hi : Int} {S : Store} (h : 1 ≤ n) : ev n .f_is_from [.int i, .int lo, .int hi] S = .ok (.bl (decide (lo ≤ i) && decide (i ≤ hi))) S := by
  obtain ⟨m, rfl, h'⟩ := up h
  rw [ev, b_is_from]
  simp
  by_cases h : lo ≤ i <;> simp [h]
mutual
/-- data whose sort is known, whose texts are good; no cells -/
def pl : D → Bool
  | .non | .bl _ | .int _ | .fls _ | .lst _ | .dic _ _ => true
  | .str s => PyData.strOk s
  | .tup ds => plL ds
  | _ => false
def plL : List D → Bool
  | [] => true
  | d :: ds => pl d && plL ds
end
abbrev lay (d : D) : Prop := pl d = true
abbrev layL (ds : List D) : Prop := plL ds = true
theorem layL_nil : layL [] := rfl
theorem layL_cons {d : D} {ds : List D} : layL (d :: ds) ↔ lay d ∧ layL ds := by simp [layL, lay, plL]
theorem layL_app {ds es : List D} : layL (ds ++ es) ↔ layL ds ∧ layL es := by
  induction ds with
  | nil => simp [layL, plL]
  | cons d ds ih => rw [List.cons_append, layL_cons, layL_cons, ih, and_assoc]
theorem lay_tup {ds : List D} (h : lay (.tup ds)) : layL ds := by simpa [lay, pl] using h
theorem isi_notup {d : D} {S : Store} (h : lay d) (hn : ∀ ds, d ≠ .tup ds) : isiR "tuple" d S = .ok (.bl false) S := by
  cases d with
  | tup ds => exact absurd rfl (hn ds)
  | fls b => rfl
  | loc _ => simp [lay, pl] at h
  | ins _ _ _ => simp [lay, pl] at h
  | glo _ => simp [lay, pl] at h
  | exn _ => simp [lay, pl] at h
  | exo _ _ _ => simp [lay, pl] at h
  | lam _ _ _ => simp [lay, pl] at h
  | _ => simp
theorem isi_nostr {d : D} {S : Store} (h : lay d) (hn : ∀ ds, d ≠ .str ds) : isiR "str" d S = .ok (.bl false) S := by
  cases d with
  | str ds => exact absurd rfl (hn ds)
  | fls b => rfl
  | loc _ => simp [lay, pl] at h
  | ins _ _ _ => simp [lay, pl] at h
  | glo _ => simp [lay, pl] at h
  | exn _ => simp [lay, pl] at h
  | exo _ _ _ => simp [lay, pl] at h
  | lam _ _ _ => simp [lay, pl] at h
  | _ => simp
theorem is_from_else {n : Nat} {d : D} {lo hi : Int} {S : Store} (h : 1 ≤ n) (l : lay d) (hn : ∀ i, d ≠ .int i) : ev n .f_is_from [d, .int lo, .int hi] S = .ok (.bl false) S := by
  obtain ⟨m, rfl, h'⟩ := up h
  rw [ev, b_is_from]
  cases d with
  | int i => exact absurd rfl (hn i)
  | fls b => simp; rfl
  | loc _ => simp [lay, pl] at l
  | ins _ _ _ => simp [lay, pl] at l
  | glo _ => simp [lay, pl] at l
  | exn _ => simp [lay, pl] at l
  | exo _ _ _ => simp [lay, pl] at l
  | lam _ _ _ => simp [lay, pl] at l
  | _ => simp
def innR (s : Str) (r : List D) : Option (List D) :=
  if s = "base" then (match r with
    | [.int i] => if 0 ≤ i ∧ i ≤ 7 then some [] else none
    | _ => none)
  else if s = "unit" then (match r with
    | [] => some []
    | _ => none)
  else if s = "both" ∨ s = "from" then (match r with
    | [a, b] => some [a, b]
    | _ => none)
  else none
def innD : D → Option (List D)
  | .tup (.str s :: r) => innR s r
  | _ => none
def oL (o : Option (List D)) : D := match o with
  | some ds => .lst ds
  | none => .non
theorem cutL1 {α : Type} (d : α) (r : List α) : cutL (d :: r) (some 1) none = r := by
  have e1 : HT.sIx (r.length + 1) 0 (some 1) = 1 := by
    show (if (1 : Int) < 0 then ((1 : Int) + ((r.length + 1 : Nat) : Int)).toNat else min (1 : Int).toNat (r.length + 1)) = 1
    rw [if_neg (by decide)]
    show min 1 (r.length + 1) = 1
    omega
  have e2 : HT.sIx (r.length + 1) (r.length + 1) none = r.length + 1 := rfl
  unfold cutL
  rw [List.length_cons, e1, e2]
  simp
theorem inner_str {n : Nat} {s : Str} {r : List D} {S : Store} (h : 2 ≤ n) (l : layL r) (hs : PyData.strOk s = true) : ev n .f_inner_of [.tup (.str s :: r)] S = .ok (oL (innR s r)) S := by
  obtain ⟨m, rfl, h'⟩ := up h
  rw [ev, b_inner_of]
  have h8 : sizeLine = 16777216 := rfl
  have ne : ¬ ((r.length : Int) + 1 = 0) := by omega
  by_cases h1 : s = "base"
  · subst h1
    match r, l with
    | [], l => simp [innR, oL]
    | [d], l =>
      by_cases hi : ∃ i, d = .int i
      · obtain ⟨i, rfl⟩ := hi
        simp [is_from_int h', h8, innR, oL]
        by_cases c1 : 0 ≤ i <;> by_cases c2 : i ≤ 7 <;> simp [c1, c2]
      · have hi' : ∀ i, d ≠ .int i := fun i z => hi ⟨i, z⟩
        have ld := (layL_cons.mp l).1
        have e : innR (Str.ofString "base") [d] = none := by
          unfold innR
          rw [if_pos rfl]
          split
          · rename_i i q; cases q; exact absurd rfl (hi' i)
          · rfl
        simp [is_from_else h' ld hi', h8, e, oL]
    | d :: e :: r, l =>
      have n2 : ¬ ((r.length : Int) + 1 + 1 + 1 = 2) := by omega
      have n0 : ¬ ((r.length : Int) + 1 + 1 + 1 = 0) := by omega
      simp [innR, oL, n2, n0]
  · by_cases h2 : s = "unit"
    · subst h2
      match r, l with
      | [], l => simp [innR, oL]
      | d :: r, l =>
        have n2 : ¬ ((r.length : Int) + 1 + 1 = 1) := by omega
        have n0 : ¬ ((r.length : Int) + 1 + 1 = 0) := by omega
        simp [innR, oL, n2, n0]
    · have s1 : (s == Str.ofString "base") = false := by simpa using h1
      have s2 : (s == Str.ofString "unit") = false := by simpa using h2
      by_cases h3 : s = "both" ∨ s = "from"
      · have lk : (List.lookup s kv_MARKS).isSome = true := by rcases h3 with rfl | rfl <;> simp [kv_MARKS, List.lookup]
        match r, l with
        | [a, b], l => simp [ne, s1, s2, hs, lk, innR, h1, h2, h3, oL, cutL1]
        | [], l => simp [ne, s1, s2, hs, lk, innR, h1, h2, h3, oL]
        | [a], l => simp [ne, s1, s2, hs, lk, innR, h1, h2, h3, oL]
        | a :: b :: c :: r, l =>
          have n2 : ¬ ((r.length : Int) + 1 + 1 + 1 + 1 = 3) := by omega
          have n0 : ¬ ((r.length : Int) + 1 + 1 + 1 + 1 = 0) := by omega
          simp [n0, n2, s1, s2, hs, lk, innR, h1, h2, h3, oL]
      · have h4 : ¬ s = "both" := fun z => h3 (.inl z)
        have h5 : ¬ s = "from" := fun z => h3 (.inr z)
        have b1 : (s == Str.ofString "both") = false := by simpa using h4
        have b2 : (s == Str.ofString "from") = false := by simpa using h5
        have lk : (List.lookup s kv_MARKS).isSome = false := by simp [kv_MARKS, List.lookup, b1, b2]
        simp [ne, s1, s2, hs, lk, innR, h1, h2, h3, oL]
theorem inner_gen {n : Nat} {d : D} {S : Store} (h : 2 ≤ n) (l : lay d) : ev n .f_inner_of [d] S = .ok (oL (innD d)) S := by
  by_cases ht : ∃ ds, d = .tup ds
  · obtain ⟨ds, rfl⟩ := ht
    have ll := lay_tup l
    match ds, ll with
    | [], ll =>
      obtain ⟨m, rfl, h'⟩ := up h
      rw [ev, b_inner_of]
      simp [innD, oL]
    | x :: r, ll =>
      obtain ⟨lx, lr⟩ := layL_cons.mp ll
      by_cases hx : ∃ s, x = .str s
      · obtain ⟨s, rfl⟩ := hx
        have hs : PyData.strOk s = true := by simpa [lay, pl] using lx
        exact inner_str h lr hs
      · have hx' : ∀ s, x ≠ .str s := fun s z => hx ⟨s, z⟩
        have e : innD (.tup (x :: r)) = none := by
          unfold innD
          split
          · rename_i s r' q
            injection q with q
            injection q with q1 q2
            exact absurd q1 (hx' s)
          · rfl
        obtain ⟨m, rfl, h'⟩ := up h
        rw [ev, b_inner_of]
        have n0 : ¬ ((r.length : Int) + 1 = 0) := by omega
        simp [n0, isi_nostr lx hx', e, oL]
  · have ht' : ∀ ds, d ≠ .tup ds := fun s z => ht ⟨s, z⟩
    have e : innD d = none := by
      unfold innD
      split
      · exact absurd rfl (ht' _)
      · rfl
    obtain ⟨m, rfl, h'⟩ := up h
    rw [ev, b_inner_of]
    simp [isi_notup l ht', e, oL]
mutual
/-- how many parts -/
def nd : D → Nat
  | .tup ds => ndL ds + 1
  | _ => 1
def ndL : List D → Nat
  | [] => 0
  | d :: ds => nd d + ndL ds
end
theorem nd_pos (d : D) : 0 < nd d := by cases d <;> simp [nd]
theorem ndL_app (ds es : List D) : ndL (ds ++ es) = ndL ds + ndL es := by
  induction ds with
  | nil => simp [ndL]
  | cons d ds ih => simp [ndL, ih]; omega
theorem ndL_len (ds : List D) : ds.length ≤ ndL ds := by
  induction ds with
  | nil => simp [ndL]
  | cons d ds ih => have := nd_pos d; simp [ndL]; omega
theorem inn_nd {d : D} {ds : List D} (h : innD d = some ds) : ndL ds < nd d := by
  unfold innD at h
  split at h
  · rename_i s r
    unfold innR at h
    split at h
    · split at h
      · split at h
        · cases h; simp [ndL, nd]
        · cases h
      · cases h
    · split at h
      · split at h
        · cases h; simp [ndL, nd]
        · cases h
      · split at h
        · split at h
          · cases h; simp [ndL, nd]; omega
          · cases h
        · cases h
  · cases h
theorem inn_lay {d : D} {ds : List D} (l : lay d) (h : innD d = some ds) : layL ds := by
  unfold innD at h
  split at h
  · rename_i s r
    have lr := (layL_cons.mp (lay_tup l)).2
    unfold innR at h
    split at h
    · split at h
      · split at h
        · cases h; exact layL_nil
        · cases h
      · cases h
    · split at h
      · split at h
        · cases h; exact layL_nil
        · cases h
      · split at h
        · split at h
          · cases h; exact lr
          · cases h
        · cases h
  · cases h
/-- whether it is a kind (f: enough steps) -/
def isKf : Nat → D → Bool
  | 0, _ => false
  | f + 1, d => match innD d with
    | some ds => ds.all (isKf f)
    | none => false
theorem isKf_mono : ∀ {f g : Nat} {d : D}, nd d ≤ f → f ≤ g → isKf g d = isKf f d
  | 0, _, d, h, _ => absurd (nd_pos d) (by omega)
  | f + 1, 0, _, _, h => absurd h (by omega)
  | f + 1, g + 1, d, h, l => by
    unfold isKf
    cases hd : innD d with
    | none => rfl
    | some ds =>
      have hn := inn_nd hd
      have key : ∀ es : List D, ndL es ≤ f → es.all (isKf g) = es.all (isKf f) := by
        intro es
        induction es with
        | nil => intro _; rfl
        | cons e es ih =>
          intro h1
          simp only [ndL] at h1
          simp only [List.all_cons]
          rw [isKf_mono (f := f) (g := g) (by omega) (by omega), ih (by omega)]
      exact key ds (by omega)
def isK (d : D) : Bool := isKf (nd d) d
theorem isK_eq (d : D) : isK d = match innD d with
    | some ds => ds.all isK
    | none => false := by
  have e : ∃ f, nd d = f + 1 := ⟨nd d - 1, by have := nd_pos d; omega⟩
  obtain ⟨f, hf⟩ := e
  unfold isK
  rw [hf]
  show (match innD d with
    | some ds => ds.all (isKf f)
    | none => false) = _
  cases hd : innD d with
  | none => rfl
  | some ds =>
    have hn := inn_nd hd
    have key : ∀ es : List D, ndL es ≤ f → es.all (isKf f) = es.all (fun d => isKf (nd d) d) := by
      intro es
      induction es with
      | nil => intro _; rfl
      | cons e es ih =>
        intro h1
        simp only [ndL] at h1
        simp only [List.all_cons]
        rw [isKf_mono (f := nd e) (g := f) (Nat.le_refl _) (by omega), ih (by omega)]
    exact key ds (by omega)
theorem isK_kd (k : Kd) : isK k.d = true := by
  induction k with
  | base i =>
    have : (i.val : Int) ≤ 7 := by have := i.isLt; omega
    rw [isK_eq]; simp [Kd.d, innD, innR, this]
  | unit => rw [isK_eq]; simp [Kd.d, innD, innR]
  | both a b ha hb => rw [isK_eq]; simp [Kd.d, innD, innR, ha, hb]
  | frm a b ha hb => rw [isK_eq]; simp [Kd.d, innD, innR, ha, hb]
theorem nd_kd (k : Kd) : nd k.d ≤ 4 * k.sz := by
  induction k with
  | base i => simp [Kd.d, nd, ndL, Kd.sz]
  | unit => simp [Kd.d, nd, ndL, Kd.sz]
  | both a b ha hb => simp [Kd.d, nd, ndL, Kd.sz]; omega
  | frm a b ha hb => simp [Kd.d, nd, ndL, Kd.sz]; omega
theorem lay_kd (k : Kd) : lay k.d := by
  induction k with
  | base i => simp [lay, Kd.d, pl, plL]
  | unit => simp [lay, Kd.d, pl, plL]
  | both a b ha hb =>
    have h1 : pl a.d = true := ha
    have h2 : pl b.d = true := hb
    simp [lay, Kd.d, pl, plL, h1, h2]
  | frm a b ha hb =>
    have h1 : pl a.d = true := ha
    have h2 : pl b.d = true := hb
    simp [lay, Kd.d, pl, plL, h1, h2]
theorem is_kind_loop {m : Nat} (h : 2 ≤ m) (S : Store) (x : Option D) : ∀ (N : Nat) (ds : List D) (y : Option D), ndL ds ≤ N → N ≤ 8000000 → layL ds → ∃ z T,
    sWhile (fB (f2 gNe (fVar 1) (fArg mkLst fNil))) (l_is_kind_0 (ev m)) [x, some (.loc S.length), y] (S ++ [.lst ds]) = if ds.all isK then .nx [x, some (.loc S.length), z] (S ++ [.lst []]) else .rt (.bl false) (S ++ [.lst T]) := by
  intro N
  induction N with
  | zero =>
    intro ds y hN hM hl
    cases ds with
    | nil =>
      refine ⟨y, [], ?_⟩
      have hne := gNe_nil (n := S.length) (S := S ++ [.lst []]) (ds := []) cellOf_app
      rw [sWhile_go]
      simp [hne]
    | cons d r =>
      have := nd_pos d
      simp [ndL] at hN; omega
  | succ N ih =>
    intro ds y hN hM hl
    rcases List.eq_nil_or_concat ds with rfl | ⟨r, d, rfl⟩
    · refine ⟨y, [], ?_⟩
      have hne := gNe_nil (n := S.length) (S := S ++ [.lst []]) (ds := []) cellOf_app
      rw [sWhile_go]
      simp [hne]
    · rw [List.concat_eq_append] at hN hl ⊢
      obtain ⟨lr, ld⟩ := layL_app.mp hl
      have ld := (layL_cons.mp ld).1
      rw [ndL_app] at hN
      have hN' : ndL r + nd d ≤ N + 1 := by simpa [ndL] using hN
      have hne := gNe_nil (n := S.length) (S := S ++ [.lst (r ++ [d])]) (ds := r ++ [d]) cellOf_app
      have hm := mthR_loc (n := S.length) (S := S ++ [.lst (r ++ [d])]) (ρ := [x, some (.loc S.length), y]) (xs := r ++ [d]) (g := gPop0) (a := fNil) cellOf_app
      have hp := gPop0_loc (n := S.length) (S := S ++ [.lst (r ++ [d])]) (xs := r) (d := d) cellM_app
      have hi := inner_gen (n := m) (S := S ++ [.lst r]) h ld
      cases hd : innD d with
      | none =>
        refine ⟨none, r, ?_⟩
        have hk : isK d = false := by rw [isK_eq, hd]
        rw [hd] at hi
        rw [sWhile_go]
        simp [hne, l_is_kind_0, hm, hp, hi, oL, hk]
      | some es =>
        have hn := inn_nd hd
        have hk : isK d = es.all isK := by rw [isK_eq, hd]
        rw [hd] at hi
        have hs : ndL (r ++ es) ≤ N := by rw [ndL_app]; omega
        obtain ⟨z, T, hz⟩ := ih (r ++ es) (some (.lst es)) hs (by omega) (layL_app.mpr ⟨lr, inn_lay ld hd⟩)
        refine ⟨z, T, ?_⟩
        have e2 : (r ++ [d]).all isK = (r ++ es).all isK := by simp [hk]
        rw [sWhile_go, e2, ← hz]
        have h8 : sizeLine = 16777216 := rfl
        have hl' : r.length + es.length ≤ sizeLine := by
          have := ndL_len (r ++ es)
          simp at this; omega
        have hm2 := mthR_loc (n := S.length) (S := S ++ [.lst r]) (ρ := [x, some (.loc S.length), some (.lst es)]) (xs := r) (g := gExtend) (a := fCons (fVar 2) fNil) cellOf_app
        have he := gExtend_loc (n := S.length) (S := S ++ [.lst r]) (xs := r) (ys := es) cellM_app hl'
        simp [hne, l_is_kind_0, hm, hm2, hp, he, hi, oL]
theorem is_kind_gen {n : Nat} {d : D} {S : Store} (h : 3 ≤ n) (hd : nd d ≤ 8000000) (l : lay d) : ev n .f_is_kind [d] S = .ok (.bl (isK d)) S := by
  obtain ⟨m, rfl, h'⟩ := up h
  obtain ⟨z, T, hz⟩ := is_kind_loop h' S (some d) 8000000 [d] none (by simpa [ndL] using hd) (Nat.le_refl _) (layL_cons.mpr ⟨l, layL_nil⟩)
  have e : ∃ T', fnB 1 3 (b_is_kind (ev m)) [d] S = .ok (.bl (isK d)) (S ++ [.lst T']) := by
    rw [b_is_kind]
    simp at hz ⊢
    cases hk : isK d with
    | true => rw [hk] at hz; exact ⟨[], by simp [hz]⟩
    | false => rw [hk] at hz; exact ⟨T, by simp [hz]⟩
  obtain ⟨T', e⟩ := e
  rw [ev, fnC_ap, e]
  exact cut_ok _ rfl
theorem is_kind_kd {n : Nat} {k : Kd} {S : Store} (h : 3 ≤ n) (hk : k.sz ≤ 2000000) : ev n .f_is_kind [k.d] S = .ok (.bl true) S := by
  rw [is_kind_gen h (by have := nd_kd k; omega) (lay_kd k), isK_kd]
theorem sure_kind_kd {n : Nat} {k : Kd} {S : Store} (h : 4 ≤ n) (hk : k.sz ≤ 2000000) : ev n .f_sure_kind [k.d] S = .ok .non S := by
  obtain ⟨m, rfl, h'⟩ := up h
  rw [ev, b_sure_kind]
  simp [is_kind_kd h' hk]
end Kz
namespace Kz
open PySem PySem.Spec PyProof.Rows L2 Kw
/-- the stack that is read into: past S, at n -/
structure Stk (S0 S : Store) (n : Nat) (st : List D) : Prop where
  pre : ∃ T, S = S0 ++ T
  le : S0.length ≤ n
  at_ : S[n]? = some (.lst st)
theorem Stk.push {S0 S : Store} {n : Nat} {st : List D} {d : D} (h : Stk S0 S n st) : Stk S0 (S.set n (.lst (st ++ [d]))) n (st ++ [d]) := by
  obtain ⟨⟨T, rfl⟩, le, at_⟩ := h
  have hn : n < (S0 ++ T).length := by
    rcases Nat.lt_or_ge n (S0 ++ T).length with hh | hh
    · exact hh
    · rw [List.getElem?_eq_none hh] at at_; cases at_
  refine ⟨⟨T.set (n - S0.length) (.lst (st ++ [d])), ?_⟩, le, ?_⟩
  · rw [List.set_append, if_neg (by omega)]
  · rw [List.getElem?_set_self hn]
end Kz
namespace Kz
open PySem PySem.Spec PyProof.Rows L2 Kw
def Eqd (d : D) (q : Nat) : Prop := ∃ p : PyData, (∀ S, pyS S d = some p) ∧ p.canLay0 = true ∧ p.depth ≤ q ∧ PyData.eqv p p = true
def EqdL (ds : List D) (q : Nat) : Prop := ∃ ps : List PyData, (∀ S, pySL S ds = some ps) ∧ PyData.canLayAll0 ps = true ∧ PyData.depthAll ps ≤ q ∧ PyData.eqvAll ps ps = true
theorem EqdL.nil {q : Nat} : EqdL [] q := ⟨[], fun _ => rfl, rfl, Nat.zero_le _, Kd.eqvAll_n⟩
theorem EqdL.cons {d : D} {ds : List D} {q : Nat} (h : Eqd d q) (t : EqdL ds q) : EqdL (d :: ds) q := by
  obtain ⟨p, e, a, b, c⟩ := h
  obtain ⟨ps, e', a', b', c'⟩ := t
  refine ⟨p :: ps, fun S => ?_, by simp [PyData.canLayAll0, a, a'], by simp only [PyData.depthAll]; omega, by rw [Kd.eqvAll_c, c, c']; rfl⟩
  show (pyS S d).bind (fun a => (pySL S ds).map (a :: ·)) = _
  rw [e S, e' S]; rfl
theorem EqdL.all {ds : List D} {q : Nat} (h : ∀ d ∈ ds, Eqd d q) : EqdL ds q := by
  induction ds with
  | nil => exact .nil
  | cons d ds ih => exact .cons (h d List.mem_cons_self) (ih fun e he => h e (List.mem_cons_of_mem _ he))
theorem Eqd.tup {ds : List D} {q : Nat} (h : EqdL ds q) : Eqd (.tup ds) (q + 1) := by
  obtain ⟨ps, e, a, b, c⟩ := h
  refine ⟨.tuple ps, fun S => ?_, by simpa [PyData.canLay0] using a, by simp only [PyData.depth]; omega, by rw [Kd.eqv_t, c]⟩
  show (pySL S ds).map PyData.tuple = _
  rw [e S]; rfl
theorem Eqd.lst {ds : List D} {q : Nat} (h : EqdL ds q) : Eqd (.lst ds) (q + 1) := by
  obtain ⟨ps, e, a, b, c⟩ := h
  refine ⟨.list ps, fun S => ?_, by simpa [PyData.canLay0] using a, by simp only [PyData.depth]; omega, by simp only [PyData.eqv]; exact c⟩
  show (pySL S ds).map PyData.list = _
  rw [e S]; rfl
theorem Eqd.non {q : Nat} : Eqd .non q := ⟨.none, fun _ => rfl, by simp [PyData.canLay0], by simp [PyData.depth], by simp only [PyData.eqv]⟩
theorem Eqd.bl {b : Bool} {q : Nat} : Eqd (.bl b) q := ⟨.bool b, fun _ => rfl, by simp [PyData.canLay0], by simp [PyData.depth], by simp only [PyData.eqv]; cases b <;> rfl⟩
theorem Eqd.str {x : Str} {q : Nat} (h : PyData.strOk x = true) : Eqd (.str x) q := ⟨.str x, fun _ => rfl, by simpa [PyData.canLay0] using h, by simp [PyData.depth], by rw [Kd.eqv_s]; simp⟩
theorem Eqd.kd (k : Kd) : Eqd k.d (k.dep + 1) := ⟨k.p, fun S => Kd.pyS_d S k, by simp, by simp [Kd.depth_p], by rw [Kd.eqv_p]; simp⟩
theorem Eqd.int {i : Int} {q : Nat} : Eqd (.int i) q := ⟨.int i, fun _ => rfl, by simp [PyData.canLay0], by simp [PyData.depth], by rw [Kd.eqv_i]; simp⟩
theorem Eqd.mono {d : D} {q q' : Nat} (h : Eqd d q) (l : q ≤ q') : Eqd d q' := by
  obtain ⟨p, e, a, b, c⟩ := h; exact ⟨p, e, a, by omega, c⟩
theorem Eqd.ne {d : D} {q : Nat} {S : Store} (h : Eqd d q) (hq : q ≤ 200) : gNe d d S = .ok (.bl false) S := by
  have gen : eqE S d d = none → gNe d d S = .ok (.bl false) S := by
    intro h0
    obtain ⟨p, e, a, b, c⟩ := h
    unfold gNe
    rw [h0, e S]
    have ok : okPy p p = true := by simp [okPy, a]; omega
    show (if okPy p p then RE.ok (D.bl (!PyData.eqv p p)) S else .no) = _
    rw [if_pos ok, c]; rfl
  have som : ∀ b, eqE S d d = some b → b = true → gNe d d S = .ok (.bl false) S := by
    intro b h1 h2
    unfold gNe
    rw [h1, h2]; rfl
  cases h0 : eqE S d d with
  | none => exact gen h0
  | some b =>
    refine som b h0 ?_
    unfold eqE at h0
    split at h0
    · simp [seqL] at h0; exact h0
    · simp at h0; exact h0
    · simp at h0; exact h0
    · simp at h0; exact h0
    · cases h0
end Kz
namespace Kz
open PySem PySem.Spec PyProof.Rows L2 Kw
inductive Tm where
  | giv (k : Nat) | mk (A : Kd) (b : Tm) | app (a b : Tm) | both (a b : Tm) | fst (a : Tm) | snd (a : Tm) | unit
def Tm.d : Tm → D
  | .giv k => .tup [.str "given", .int (k : Int)]
  | .mk A b => .tup [.str "make", A.d, b.d]
  | .app a b => .tup [.str "do", a.d, b.d]
  | .both a b => .tup [.str "both", a.d, b.d]
  | .fst a => .tup [.str "first", a.d]
  | .snd a => .tup [.str "second", a.d]
  | .unit => .tup [.str "unit"]
mutual
/-- what a term means -/
inductive Vl where
  | chn (c : Ch) | unit | pair (a b : Vl) | loose (A B : Kd) (c : Ch) | bound (t : Tm) (env : Vs)
/-- a given, or what is done to one -/
inductive Ch where
  | giv (k : Nat) | app (c : Ch) (A : Kd) (v : Vl) | fst (c : Ch) | snd (c : Ch)
inductive Vs where
  | nil | snoc (r : Vs) (v : Vl)
end
mutual
def Vl.d : Vl → D
  | .chn c => c.d
  | .unit => .tup []
  | .pair a b => .tup [a.d, b.d]
  | .loose A B c => .ins "Loose" ["kind", "chain"] [(Kd.frm A B).d, c.d]
  | .bound t env => .ins "Bound" ["body", "things"] [t.d, .lst env.ds]
def Ch.d : Ch → D
  | .giv k => .tup [.str "given", .int (k : Int)]
  | .app c A v => .tup [.str "do", c.d, A.d, v.d]
  | .fst c => .tup [.str "first", c.d]
  | .snd c => .tup [.str "second", c.d]
def Vs.ds : Vs → List D
  | .nil => []
  | .snoc r v => r.ds ++ [v.d]
end
def Vs.len : Vs → Nat
  | .nil => 0
  | .snoc r _ => r.len + 1
/-- by place, the first one from outside -/
def Vs.at_ : Vs → Nat → Option Vl
  | .nil, _ => none
  | .snoc r v, k => if k = r.len then some v else r.at_ k
/-- the kind of a term -/
def tkd (Γ : List Kd) : Tm → Option Kd
  | .giv k => Γ[k]?
  | .unit => some .unit
  | .mk A b => (tkd (Γ ++ [A]) b).bind fun B => some (.frm A B)
  | .app a b => (tkd Γ a).bind fun u => (tkd Γ b).bind fun x => match u with
    | .frm A B => if A = x then some B else none
    | _ => none
  | .both a b => (tkd Γ a).bind fun u => (tkd Γ b).bind fun x => some (.both u x)
  | .fst a => (tkd Γ a).bind fun u => match u with
    | .both x _ => some x
    | _ => none
  | .snd a => (tkd Γ a).bind fun u => match u with
    | .both _ y => some y
    | _ => none
def Tm.ht : Tm → Nat
  | .giv _ => 0
  | .unit => 0
  | .mk _ b => b.ht + 1
  | .app a b => max a.ht b.ht + 1
  | .both a b => max a.ht b.ht + 1
  | .fst a => a.ht + 1
  | .snd a => a.ht + 1
end Kz
namespace Kz
open PySem PySem.Spec PyProof.Rows L2 Kw
def oK (o : Option Kd) : D := match o with
  | some k => k.d
  | none => .non
/-- kinds within bounds -/
def kdsT (q : Nat) : Tm → Prop
  | .giv _ => True
  | .unit => True
  | .mk A b => (A.dep ≤ q ∧ A.sz ≤ 2000000) ∧ kdsT q b
  | .app a b => kdsT q a ∧ kdsT q b
  | .both a b => kdsT q a ∧ kdsT q b
  | .fst a => kdsT q a
  | .snd a => kdsT q a
theorem tkd_dep {q : Nat} : ∀ (t : Tm) {Γ : List Kd} {k : Kd}, (∀ A ∈ Γ, A.dep ≤ q) → kdsT q t → tkd Γ t = some k → k.dep ≤ q + t.ht
  | .giv i, Γ, k, hΓ, _, h => by
    have := hΓ k (List.mem_of_getElem? h)
    simp only [Tm.ht]; omega
  | .unit, Γ, k, hΓ, _, h => by simp only [tkd] at h; cases h; simp [Kd.dep]
  | .mk A b, Γ, k, hΓ, hk, h => by
    simp only [tkd, Option.bind_eq_some_iff] at h
    obtain ⟨B, h1, h2⟩ := h
    cases h2
    have := tkd_dep b (Γ := Γ ++ [A]) (k := B) (fun X hX => by
      rcases List.mem_append.mp hX with hX | hX
      · exact hΓ X hX
      · have : X = A := by simpa using hX
        rw [this]; exact hk.1.1) hk.2 h1
    have := hk.1.1
    simp only [Kd.dep, Tm.ht]; omega
  | .app a b, Γ, k, hΓ, hk, h => by
    simp only [tkd, Option.bind_eq_some_iff] at h
    obtain ⟨u, h1, x, h2, h3⟩ := h
    have := tkd_dep a hΓ hk.1 h1
    split at h3
    · split at h3
      · cases h3; simp only [Kd.dep] at this; simp only [Tm.ht]; omega
      · cases h3
    · cases h3
  | .both a b, Γ, k, hΓ, hk, h => by
    simp only [tkd, Option.bind_eq_some_iff] at h
    obtain ⟨u, h1, x, h2, h3⟩ := h
    cases h3
    have := tkd_dep a hΓ hk.1 h1
    have := tkd_dep b hΓ hk.2 h2
    simp only [Kd.dep, Tm.ht]; omega
  | .fst a, Γ, k, hΓ, hk, h => by
    simp only [tkd, Option.bind_eq_some_iff] at h
    obtain ⟨u, h1, h3⟩ := h
    have := tkd_dep a hΓ hk h1
    split at h3
    · cases h3; simp only [Kd.dep] at this; simp only [Tm.ht]; omega
    · cases h3
  | .snd a, Γ, k, hΓ, hk, h => by
    simp only [tkd, Option.bind_eq_some_iff] at h
    obtain ⟨u, h1, h3⟩ := h
    have := tkd_dep a hΓ hk h1
    split at h3
    · cases h3; simp only [Kd.dep] at this; simp only [Tm.ht]; omega
    · cases h3
theorem shape_ok {n : Nat} {t : Tm} {S : Store} (h : 1 ≤ n) : ev n .f_is_shape [t.d] S = .ok (.bl true) S := by
  obtain ⟨m, rfl, h'⟩ := up (d := 0) (by omega : 0 + 1 ≤ n)
  rw [ev, b_is_shape]
  cases t <;> simp [Tm.d, fGetG_ap, kv_PARTS, List.lookup]
theorem given_ok {n : Nat} {Γ : List Kd} {k : Nat} {S : Store} (h : 1 ≤ n) : ev n .f_kind_of_given [.int (k : Int), .lst (Γ.map Kd.d)] S = .ok (oK Γ[k]?) S := by
  obtain ⟨m, rfl, h'⟩ := up (d := 0) (by omega : 0 + 1 ≤ n)
  rw [ev, b_kind_of_given]
  by_cases hk : k < Γ.length
  · rw [List.getElem?_eq_getElem hk]
    simp [hk, oK]
  · rw [List.getElem?_eq_none (by omega)]
    simp [hk, oK]
theorem is_non_kd {k : Kd} {S : Store} : gIs false k.d .non S = .ok (.bl false) S := by
  obtain ⟨ds, h⟩ := Kd.d_tup k
  rw [h]; rfl
theorem two_both {n : Nat} {a b : Option Kd} {S : Store} (h : 1 ≤ n) : ev n .f_kind_of_two [.str "both", oK a, oK b] S = .ok (oK (a.bind fun u => b.bind fun x => some (.both u x))) S := by
  have h8 : sizeLine = 16777216 := rfl
  obtain ⟨m, rfl, h'⟩ := up (d := 0) (by omega : 0 + 1 ≤ n)
  rw [ev, b_kind_of_two]
  cases a with
  | none => simp [oK]
  | some u =>
    cases b with
    | none => simp [oK, is_non_kd]
    | some x => simp [oK, is_non_kd, h8, Kd.d]
def appK (u x : Kd) : Option Kd := match u with
  | .frm A B => if A = x then some B else none
  | _ => none
theorem two_do {n : Nat} {a b : Option Kd} {S : Store} (h : 1 ≤ n) (hd : ∀ u, a = some u → u.dep < 200) : ev n .f_kind_of_two [.str "do", oK a, oK b] S = .ok (oK (a.bind fun u => b.bind fun x => appK u x)) S := by
  have h8 : sizeLine = 16777216 := rfl
  obtain ⟨m, rfl, h'⟩ := up (d := 0) (by omega : 0 + 1 ≤ n)
  rw [ev, b_kind_of_two]
  cases a with
  | none => simp [oK]
  | some u =>
    have hu := hd u rfl
    cases b with
    | none => simp [oK, is_non_kd]
    | some x =>
      have n1 := is_non_kd (k := u) (S := S)
      have n2 := is_non_kd (k := x) (S := S)
      cases u with
      | base i =>
        simp only [Kd.d] at n1
        simp [oK, n1, n2, Kd.d, appK]
      | unit =>
        simp only [Kd.d] at n1
        simp [oK, n1, n2, Kd.d, appK]
      | both A B =>
        simp only [Kd.d] at n1
        simp [oK, n1, n2, Kd.d, appK]
      | frm A B =>
        simp only [Kd.dep] at hu
        have e := Kd.gEq_d (a := A) (b := x) (S := S) (by omega)
        simp only [Kd.d] at n1
        by_cases hA : A = x
        · subst hA
          simp only [decide_true] at e
          simp [oK, n1, n2, Kd.d, appK, e]
        · rw [decide_eq_false hA] at e
          simp [oK, n1, n2, Kd.d, appK, e, hA]
theorem in_words {S : Store} {s : String} : gIn false (.str s) (.tup [.str "do", .str "both"]) S = .ok (.bl (decide (s = "do") || decide (s = "both"))) S := by
  have e1 : (Str.ofString "do" == Str.ofString s) = decide (s = "do") := by simp [eq_comm]
  have e2 : (Str.ofString "both" == Str.ofString s) = decide (s = "both") := by simp [eq_comm]
  simp [gIn, pyS, pySL, PyData.canLay0, PyData.canLayAll0, PyData.depth, PyData.depthAll, PyData.eqv, e1, e2]
theorem kind_in_ok {q : Nat} : ∀ (t : Tm) {Γ : List Kd} {n : Nat} {S : Store}, (∀ A ∈ Γ, A.dep ≤ q) → kdsT q t → q + t.ht < 200 → t.ht + 5 ≤ n → Γ.length + t.ht ≤ 10000 → ev n .f_kind_in [t.d, .lst (Γ.map Kd.d)] S = .ok (oK (tkd Γ t)) S
  | .giv i, Γ, n, S, hΓ, hk, hq, hn, hl => by
    obtain ⟨m, rfl, h'⟩ := up (d := 2) (by omega : 2 + 1 ≤ n)
    have es := shape_ok (n := m) (t := .giv i) (S := S) (by omega)
    have eg := given_ok (n := m) (Γ := Γ) (k := i) (S := S) (by omega)
    simp only [Tm.d] at es
    rw [ev, b_kind_in]
    simp [Tm.d, es, eg, tkd]
  | .unit, Γ, n, S, hΓ, hk, hq, hn, hl => by
    have h8 : sizeLine = 16777216 := rfl
    obtain ⟨m, rfl, h'⟩ := up (d := 2) (by omega : 2 + 1 ≤ n)
    have es := shape_ok (n := m) (t := .unit) (S := S) (by omega)
    simp only [Tm.d] at es
    rw [ev, b_kind_in]
    simp [Tm.d, es, tkd, oK, Kd.d, h8]
  | .mk A b, Γ, n, S, hΓ, hk, hq, hn, hl => by
    have h8 : sizeLine = 16777216 := rfl
    simp only [Tm.ht] at hq hn hl
    obtain ⟨m, rfl, h'⟩ := up (d := b.ht + 5) (by omega)
    have es := shape_ok (n := m) (t := .mk A b) (S := S) (by omega)
    simp only [Tm.d] at es
    have ek := is_kind_kd (n := m) (k := A) (S := S) (by omega) hk.1.2
    have ei := kind_in_ok b (Γ := Γ ++ [A]) (n := m) (S := S) (fun X hX => by
      rcases List.mem_append.mp hX with hX | hX
      · exact hΓ X hX
      · have : X = A := by simpa using hX
        rw [this]; exact hk.1.1) hk.2 (by omega) (by omega) (by simp; omega)
    have ll : Γ.length + 1 ≤ 16777216 := by omega
    simp only [List.map_append, List.map_cons, List.map_nil] at ei
    rw [ev, b_kind_in]
    simp only [tkd]
    cases hb : tkd (Γ ++ [A]) b with
    | none =>
      rw [hb] at ei
      simp [Tm.d, es, ek, ei, oK, h8, ll]
    | some B =>
      rw [hb] at ei
      have nb := is_non_kd (k := B) (S := S)
      simp only [oK] at ei
      simp [Tm.d, es, ek, ei, oK, h8, ll, nb, Kd.d]
  | .app a b, Γ, n, S, hΓ, hk, hq, hn, hl => by
    simp only [Tm.ht] at hq hn hl
    obtain ⟨m, rfl, h'⟩ := up (d := max a.ht b.ht + 5) (by omega)
    have es := shape_ok (n := m) (t := .app a b) (S := S) (by omega)
    simp only [Tm.d] at es
    have e1 := kind_in_ok a (Γ := Γ) (n := m) (S := S) hΓ hk.1 (by omega) (by omega) (by omega)
    have e2 := kind_in_ok b (Γ := Γ) (n := m) (S := S) hΓ hk.2 (by omega) (by omega) (by omega)
    have e3 := two_do (n := m) (a := tkd Γ a) (b := tkd Γ b) (S := S) (by omega) (fun u hu => by have := tkd_dep a hΓ hk.1 hu; omega)
    have iw := in_words (s := "do") (S := S)
    have et : tkd Γ (.app a b) = (tkd Γ a).bind fun u => (tkd Γ b).bind fun x => appK u x := rfl
    rw [et]
    generalize oK ((tkd Γ a).bind fun u => (tkd Γ b).bind fun x => appK u x) = R at *
    generalize oK (tkd Γ a) = ka at *
    generalize oK (tkd Γ b) = kb at *
    rw [ev, b_kind_in]
    simp [Tm.d, es, e1, e2, e3, iw]
  | .both a b, Γ, n, S, hΓ, hk, hq, hn, hl => by
    simp only [Tm.ht] at hq hn hl
    obtain ⟨m, rfl, h'⟩ := up (d := max a.ht b.ht + 5) (by omega)
    have es := shape_ok (n := m) (t := .both a b) (S := S) (by omega)
    simp only [Tm.d] at es
    have e1 := kind_in_ok a (Γ := Γ) (n := m) (S := S) hΓ hk.1 (by omega) (by omega) (by omega)
    have e2 := kind_in_ok b (Γ := Γ) (n := m) (S := S) hΓ hk.2 (by omega) (by omega) (by omega)
    have e3 := two_both (n := m) (a := tkd Γ a) (b := tkd Γ b) (S := S) (by omega)
    have iw := in_words (s := "both") (S := S)
    have et : tkd Γ (.both a b) = (tkd Γ a).bind fun u => (tkd Γ b).bind fun x => some (.both u x) := rfl
    rw [et]
    generalize oK ((tkd Γ a).bind fun u => (tkd Γ b).bind fun x => some (.both u x)) = R at *
    generalize oK (tkd Γ a) = ka at *
    generalize oK (tkd Γ b) = kb at *
    rw [ev, b_kind_in]
    simp [Tm.d, es, e1, e2, e3, iw]
  | .fst a, Γ, n, S, hΓ, hk, hq, hn, hl => by
    simp only [Tm.ht] at hq hn hl
    obtain ⟨m, rfl, h'⟩ := up (d := a.ht + 5) (by omega)
    have es := shape_ok (n := m) (t := .fst a) (S := S) (by omega)
    simp only [Tm.d] at es
    have e1 := kind_in_ok a (Γ := Γ) (n := m) (S := S) hΓ hk (by omega) (by omega) (by omega)
    have iw := in_words (s := "first") (S := S)
    rw [ev, b_kind_in]
    simp only [tkd]
    cases ha : tkd Γ a with
    | none => rw [ha] at e1; simp [Tm.d, es, e1, iw, oK]
    | some u =>
      rw [ha] at e1
      have nu := is_non_kd (k := u) (S := S)
      simp only [oK] at e1
      cases u <;> simp only [Kd.d] at nu e1 <;> simp [Tm.d, es, e1, iw, oK, nu]
  | .snd a, Γ, n, S, hΓ, hk, hq, hn, hl => by
    simp only [Tm.ht] at hq hn hl
    obtain ⟨m, rfl, h'⟩ := up (d := a.ht + 5) (by omega)
    have es := shape_ok (n := m) (t := .snd a) (S := S) (by omega)
    simp only [Tm.d] at es
    have e1 := kind_in_ok a (Γ := Γ) (n := m) (S := S) hΓ hk (by omega) (by omega) (by omega)
    have iw := in_words (s := "second") (S := S)
    rw [ev, b_kind_in]
    simp only [tkd]
    cases ha : tkd Γ a with
    | none => rw [ha] at e1; simp [Tm.d, es, e1, iw, oK]
    | some u =>
      rw [ha] at e1
      have nu := is_non_kd (k := u) (S := S)
      simp only [oK] at e1
      cases u <;> simp only [Kd.d] at nu e1 <;> simp [Tm.d, es, e1, iw, oK, nu]
theorem sure_in_ok {q : Nat} {t : Tm} {Γ : List Kd} {k : Kd} {n : Nat} {S : Store} (hΓ : ∀ A ∈ Γ, A.dep ≤ q) (hk : kdsT q t) (hq : q + t.ht < 200) (hn : t.ht + 6 ≤ n) (hl : Γ.length + t.ht ≤ 10000) (h : tkd Γ t = some k) : ev n .f_sure_kind_in [t.d, .lst (Γ.map Kd.d)] S = .ok k.d S := by
  obtain ⟨m, rfl, h'⟩ := up (d := t.ht + 5) hn
  have e := kind_in_ok t (Γ := Γ) (n := m) (S := S) hΓ hk hq h' hl
  rw [h] at e
  have nk := is_non_kd (k := k) (S := S)
  simp only [oK] at e
  rw [ev, b_sure_kind_in]
  simp [e, nk]
end Kz
namespace Kz
open PySem PySem.Spec PyProof.Rows L2 Kw
theorem lt_of_at {S : Store} {w : Nat} {c : Cell} (h : S[w]? = some c) : w < S.length := by
  rcases Nat.lt_or_ge w S.length with hh | hh
  · exact hh
  · rw [List.getElem?_eq_none hh] at h; cases h
/-- a well lies at w -/
def Well (S : Store) (w : Nat) : Prop := ∃ a b c : Int, 0 ≤ a ∧ 0 ≤ c ∧ S[w]? = some (.lst [.int a, .int b, .int c])
/-- only the well was changed -/
structure WS (S : Store) (w : Nat) (S' : Store) : Prop where
  len : S'.length = S.length
  same : ∀ i, i ≠ w → S'[i]? = S[i]?
  well : Well S' w
theorem WS.refl {S : Store} {w : Nat} (h : Well S w) : WS S w S := ⟨rfl, fun _ _ => rfl, h⟩
theorem WS.trans {S S1 S2 : Store} {w : Nat} (h : WS S w S1) (k : WS S1 w S2) : WS S w S2 := ⟨k.len.trans h.len, fun i hi => (k.same i hi).trans (h.same i hi), k.well⟩
theorem WS.set {S : Store} {w : Nat} {a b c : Int} {x : Cell} (h : S[w]? = some x) (ha : 0 ≤ a) (hc : 0 ≤ c) : WS S w (S.set w (.lst [.int a, .int b, .int c])) :=
  ⟨by simp, fun i hi => by rw [List.getElem?_set_ne (Ne.symm hi)], a, b, c, ha, hc, List.getElem?_set_self (lt_of_at h)⟩
theorem well_new {n : Nat} {S : Store} {i : Int} (h : 1 ≤ n) : ∃ S', ev n .f__law_well [.int i] S = .ok (.loc S.length) (S ++ [S']) ∧ Well (S ++ [S']) S.length := by
  obtain ⟨m, rfl, h'⟩ := up h
  have m1 : CMul i (if i ≥ 10 ^ 18 then 1 else 0) ∨ CMulW i (if i ≥ 10 ^ 18 then 1 else 0) := .inl (.inr (by split <;> omega))
  refine ⟨.lst [.int (i * (if i ≥ 10 ^ 18 then 1 else 0)), .int i, .int 0], ?_, i * (if i ≥ 10 ^ 18 then 1 else 0), i, 0, ?_, by omega, by simp⟩
  · rw [ev, b__law_well]
    have h8 : sizeLine = 16777216 := rfl
    have e : (10 : Int) ^ 18 = 1000000000000000000 := by decide
    rw [e] at m1 ⊢
    by_cases h : (1000000000000000000 : Int) ≤ i
    · have h' : i ≥ 1000000000000000000 := h
      rw [if_pos h'] at m1 ⊢
      simp [h, m1, h8]
    · have h' : ¬ i ≥ 1000000000000000000 := h
      rw [if_neg h'] at m1 ⊢
      simp [h, m1, h8]
  · split
    · omega
    · omega
theorem draw_sp {n : Nat} {S : Store} {w : Nat} {m : Int} (h : 1 ≤ n) (hw : Well S w) (hm : 0 < m) (hm' : m < 1000000000) : ∃ r S', ev n .f__law_draw [.loc w, .int m] S = .ok (.int r) S' ∧ 0 ≤ r ∧ r < m ∧ WS S w S' := by
  obtain ⟨n, rfl, h'⟩ := up h
  obtain ⟨a, b, c, ha, hc, at_⟩ := hw
  have hw := lt_of_at at_
  have hlog : m.natAbs.log2 < 9000 := by
    rcases Nat.eq_zero_or_pos m.natAbs with h0 | h0
    · rw [h0]; decide
    · have : m.natAbs.log2 < 40 := (Nat.log2_lt (by omega)).mpr (by omega)
      omega
  rw [ev, b__law_draw]
  by_cases h0 : 0 < a
  · refine ⟨a % m, S.set w (.lst [.int (a / m), .int b, .int c]), ?_, Int.emod_nonneg _ (by omega), Int.emod_lt_of_pos _ hm, WS.set at_ (Int.ediv_nonneg ha (by omega)) hc⟩
    simp [cellOf_of at_, h0, hm, hlog, gSb, gSetI, cellM_of at_, L2.ixN]
  · have l1 : (1013 : Nat).log2 < 9000 := by decide
    have l2 : (2011 : Nat).log2 < 9000 := by decide
    have l3 : (2147483629 : Nat).log2 < 9000 := by decide +kernel
    have at2 : (S.set w (.lst [.int a, .int b, .int (c + 1)]))[w]? = some (.lst [.int a, .int b, .int (c + 1)]) := List.getElem?_set_self hw
    have c1 : ∀ i j : Int, 0 ≤ j → j < 18446744073709551616 → (CMul i j ∨ CMulW i j) = True := fun i j h1 h2 => eq_true (.inl (.inr ⟨by omega, by omega⟩))
    have c2 : ∀ i j : Int, 0 ≤ i → i < 18446744073709551616 → (CMul i j ∨ CMulW i j) = True := fun i j h1 h2 => eq_true (.inl (.inl ⟨by omega, by omega⟩))
    have b1 : ∀ x : Int, 0 ≤ x % 2147483647 ∧ x % 2147483647 < 2147483647 := fun x => by omega
    have b2 : ∀ x : Int, 0 ≤ x % 2147483629 ∧ x % 2147483629 < 2147483629 := fun x => by omega
    have k1 := fun (x y : Int) => c2 (x % 2147483647) y (b1 x).1 (by have := (b1 x).2; omega)
    have k2 := fun (x y : Int) => c2 (x % 2147483629) y (b2 x).1 (by have := (b2 x).2; omega)
    have k3 := fun (x : Int) => c1 x 48271 (by omega) (by omega)
    have k4 := fun (x : Int) => c2 69623 x (by omega) (by omega)
    have k5 := fun (x : Int) => c1 x 30013 (by omega) (by omega)
    obtain ⟨L0, hL0⟩ : ∃ L0 : Int, L0 = (b % 2147483629 + b / 2147483629 * 30013 + 69623 * (c + 1) + 1) * 48271 % 2147483647 := ⟨_, rfl⟩
    obtain ⟨L1, hL1⟩ : ∃ L1 : Int, L1 = L0 * (L0 / 1013 + 69621 + (c + 1)) % 2147483629 := ⟨_, rfl⟩
    refine ⟨(L1 * (L1 / 2011 + 40692) % 2147483399) % m, S.set w (.lst [.int a, .int b, .int (c + 1)]), ?_, Int.emod_nonneg _ (by omega), Int.emod_lt_of_pos _ hm, WS.set at_ ha (by omega)⟩
    subst hL1; subst hL0
    simp [cellOf_of at_, h0, hm, hlog, gSb, gSetI, cellM_of at_, L2.ixN, cellOf_of at2, k1, k2, k3, k4, k5, l1, l2, l3]
end Kz
namespace Kz
open PySem PySem.Spec PyProof.Rows L2 Kw
structure WX (S : Store) (w : Nat) (S' : Store) : Prop where
  le : S.length ≤ S'.length
  same : ∀ i, i < S.length → i ≠ w → S'[i]? = S[i]?
  well : Well S' w
theorem WS.wx {S S' : Store} {w : Nat} (h : WS S w S') : WX S w S' := ⟨by rw [h.len]; exact Nat.le_refl _, fun i _ hi => h.same i hi, h.well⟩
theorem WX.trans {S S1 S2 : Store} {w : Nat} (h : WX S w S1) (k : WX S1 w S2) : WX S w S2 := ⟨Nat.le_trans h.le k.le, fun i hl hi => (k.same i (Nat.lt_of_lt_of_le hl h.le) hi).trans (h.same i hl hi), k.well⟩
theorem well_app {S T : Store} {w : Nat} (h : Well S w) : Well (S ++ T) w := by
  obtain ⟨a, b, c, h1, h2, at_⟩ := h
  exact ⟨a, b, c, h1, h2, by rw [List.getElem?_append_left (lt_of_at at_)]; exact at_⟩
theorem WX.app {S S1 T : Store} {w : Nat} (h : WX S w S1) : WX S w (S1 ++ T) :=
  ⟨by simp; have := h.le; omega, fun i hl hi => by rw [List.getElem?_append_left (by have := h.le; omega)]; exact h.same i hl hi, well_app h.well⟩
theorem WX.set {S S1 : Store} {w v : Nat} {c : Cell} (h : WX S w S1) (hv : S.length ≤ v) (hw : w < S.length) : WX S w (S1.set v c) := by
  have ne : w ≠ v := by omega
  refine ⟨by simp; exact h.le, fun i hl hi => ?_, ?_⟩
  · rw [List.getElem?_set_ne (by omega)]; exact h.same i hl hi
  · obtain ⟨a, b, d, h1, h2, at_⟩ := h.well
    exact ⟨a, b, d, h1, h2, by rw [List.getElem?_set_ne (Ne.symm ne)]; exact at_⟩
theorem WX.cut {S S' : Store} {w : Nat} {d : D} (h : WX S w S') (hw : w < S.length) (hd : d.under S.length = true) : ∃ S'', cutR S (.ok d S') = .ok d S'' ∧ WS S w S'' := by
  have hc : CutOk S S' := by
    refine ⟨h.le, fun i c hi e => ?_⟩
    by_cases hiw : i = w
    · subst hiw
      obtain ⟨a, b, f, _, _, at_⟩ := h.well
      rw [at_] at e
      cases e
      right
      simp [Cell.under, underL, D.under]
    · left; rw [← h.same i hi hiw]; exact e
  refine ⟨S'.take S.length, by unfold cutR; simp only; rw [if_pos ⟨hd, hc⟩], ?_, fun i hi => ?_, ?_⟩
  · rw [List.length_take]; exact Nat.min_eq_left h.le
  · by_cases hl : i < S.length
    · rw [List.getElem?_take_of_lt hl]; exact h.same i hl hi
    · rw [List.getElem?_eq_none (by rw [List.length_take]; omega), List.getElem?_eq_none (by omega)]
  · obtain ⟨a, b, f, h1, h2, at_⟩ := h.well
    exact ⟨a, b, f, h1, h2, by rw [List.getElem?_take_of_lt hw]; exact at_⟩
end Kz
namespace Kz
open PySem PySem.Spec PyProof.Rows L2 Kw
def okSz (ns : List Int) : Prop := ns.length = 8 ∧ ∀ z ∈ ns, 1 ≤ z ∧ z ≤ 999
/-- the sizes as a function -/
def sF (ns : List Int) (i : Nat) : Nat := (ns.getD i 1).toNat
theorem sF_ok {ns : List Int} (h : okSz ns) (i : Nat) : 1 ≤ sF ns i ∧ sF ns i ≤ 999 := by
  unfold sF
  rw [List.getD_eq_getElem?_getD]
  cases e : ns[i]? with
  | none => simp
  | some z =>
    have := h.2 z (List.mem_of_getElem? e)
    simp; omega
theorem ix_ints {ns : List Int} (h : okSz ns) (i : _root_.Fin 8) (S : Store) : ixR (ns.map D.int) (i.val : Int) S = .ok (.int ((sF ns i.val : Nat) : Int)) S := by
  have hi : i.val < ns.length := by have := i.isLt; rw [h.1]; omega
  rw [ixR_nat, List.getElem?_map, List.getElem?_eq_getElem hi]
  have hz := h.2 _ (List.getElem_mem hi)
  have e : ((sF ns i.val : Nat) : Int) = ns[i.val] := by
    unfold sF
    rw [List.getD_eq_getElem?_getD, List.getElem?_eq_getElem hi]
    show ((ns[i.val]).toNat : Int) = ns[i.val]
    omega
  rw [e]; rfl
theorem cell_ix {ns : List Int} (h : okSz ns) {T : Store} {v : Nat} (at_ : T[v]? = some (.lst (ns.map .int))) (i : _root_.Fin 8) : gIx (.loc v) (.int (i.val : Int)) T = .ok (.int ((sF ns i.val : Nat) : Int)) T := by
  rw [gIx_loc (cellOf_of at_), ix_ints h]
/-- sizes lie at x -/
structure Szs (z : Nat → Nat) (x : D) (S : Store) : Prop where
  ok : ∀ i, 1 ≤ z i ∧ z i ≤ 999
  ix : ∀ i : _root_.Fin 8, gIx x (.int (i.val : Int)) S = .ok (.int ((z i.val : Nat) : Int)) S
theorem szs_cell {ns : List Int} (h : okSz ns) {T : Store} {v : Nat} (at_ : T[v]? = some (.lst (ns.map .int))) : Szs (sF ns) (.loc v) T := ⟨sF_ok h, cell_ix h at_⟩
theorem sizes_sure {n : Nat} {ns : List Int} (h : okSz ns) {S : Store} {v : Nat} (at_ : S[v]? = some (.lst (ns.map .int))) (hn : 2 ≤ n) : ev n .f_sure_sizes [.loc v] S = .ok .non S := by
  obtain ⟨m, rfl, h'⟩ := up hn
  have hc := cellOf_of at_
  have hi : isiR "list" (.loc v) S = .ok (.bl true) S := by rw [isi_loc hc]; simp
  have hl : gLen [.loc v] S = .ok (.int 8) S := by simp [gLen, seqA, hc, h.1]
  have hx : iSeq S (.loc v) = some (ns.map .int, some (v, ns.map .int)) := by simp [iSeq, hc]
  have hit : itL (.loc v) S = .ok (ns.map .int, some (v, ns.map .int)) S := by unfold itL; rw [hx]
  have hm := compL_map (tg := gN 2) (tt := fYes) (te := fArg (ev m .f_is_from) (fCons (fVar 2) (fCons (fC (.int 1)) (fCons (fC (.int 999)) fNil)))) (ρ := [some (.loc v), some (.bl true), none]) (S := S) (gg := some (v, ns.map .int)) (fun _ => .bl true) hc (ns.map .int) [] (fun d hd => by
    obtain ⟨z, hz, rfl⟩ := List.mem_map.mp hd
    have := h.2 z hz
    refine ⟨[some (.loc v), some (.bl true), some (.int z)], by simp, rfl, ?_⟩
    simp [is_from_int h', this]) (by simp [h.1])
  have e1 : (ns.map D.int).map (fun _ => D.bl true) = (ns.map (fun _ => true)).map D.bl := by simp
  rw [e1] at hm
  have e2 : gAll [D.lst ((ns.map (fun _ => true)).map D.bl)] S = .ok (.bl true) S := by
    rw [gAll_lst]; simp
  rw [ev, b_sure_sizes]
  simp at hm
  simp at e2
  simp [hi, hl, hit, wipeR, hm, e2]
def pw (b t : Nat) : Nat := min (b ^ t) 5001
def nm (z : Nat → Nat) : Kd → Nat
  | .base i => z i.val
  | .unit => 1
  | .both a b => min (nm z a * nm z b) 5001
  | .frm a b => pw (nm z b) (nm z a)
theorem pw_pos {b t : Nat} (h : 1 ≤ b) : 1 ≤ pw b t := by
  have := Nat.one_le_pow t b h
  unfold pw; omega
theorem nm_ok {z : Nat → Nat} (h : ∀ i, 1 ≤ z i ∧ z i ≤ 999) : ∀ k : Kd, 1 ≤ nm z k ∧ nm z k ≤ 5001
  | .base i => by have := h i.val; simp only [nm]; omega
  | .unit => by simp [nm]
  | .both a b => by
    have ha := nm_ok h a; have hb := nm_ok h b
    have := Nat.mul_le_mul ha.1 hb.1
    simp only [nm]; omega
  | .frm a b => by
    have hb := nm_ok h b
    refine ⟨pw_pos hb.1, ?_⟩
    simp only [nm, pw]; omega
theorem mulS {i j : Int} (h1 : 0 ≤ i) (h2 : i < 1000000) : (CMul i j ∨ CMulW i j) = True := eq_true (.inl (.inl ⟨by omega, by omega⟩))
theorem pl_body {m : Nat} {S : Store} {x y : Int} {t d : D} (c : (CMul x y ∨ CMulW x y) = True) : l_power_up_to_0 (ev m) [some (.int y), some t, some (.int x), some d] S = if 5000 < x * y then .rt (.int 5001) S else .nx [some (.int y), some t, some (.int (x * y)), some d] S := by
  rw [l_power_up_to_0]
  by_cases h : 5000 < x * y <;> simp [c, h]
theorem cast_mul2 (f b : Nat) : (f : Int) * (b : Int) = ((f * b : Nat) : Int) := by simp
theorem power_loop {m : Nat} {S : Store} {b : Nat} {t : D} (hb : 1 ≤ b) (hb2 : b ≤ 5001) : ∀ (ds : List D) (f : Nat) (x : Option D), 1 ≤ f → f ≤ 5000 → ∃ x', forL (gN 3) (l_power_up_to_0 (ev m)) none ds [some (.int (b : Int)), some t, some (.int (f : Int)), x] S = if f * b ^ ds.length ≤ 5000 then .nx [some (.int (b : Int)), some t, some (.int ((f * b ^ ds.length : Nat) : Int)), x'] S else .rt (.int 5001) S
  | [], f, x, h1, h2 => ⟨x, by simp [h2]⟩
  | d :: ds, f, x, h1, h2 => by
    have c : (CMul (f : Int) (b : Int) ∨ CMulW (f : Int) (b : Int)) = True := mulS (by omega) (by omega)
    have bd := pl_body (m := m) (S := S) (t := t) (d := d) c
    rw [cast_mul2] at bd
    have hlen : f * b ^ (ds.length + 1) = f * b * b ^ ds.length := by rw [Nat.pow_succ, Nat.mul_assoc, Nat.mul_comm b]
    have hp := Nat.one_le_pow ds.length b hb
    by_cases hf : 5000 < f * b
    · refine ⟨x, ?_⟩
      have hno : ¬ f * b ^ (d :: ds).length ≤ 5000 := by
        rw [List.length_cons, hlen]
        have := Nat.mul_le_mul (Nat.le_refl (f * b)) hp
        omega
      rw [if_pos (by omega)] at bd
      rw [if_neg hno, forL_cons]
      simp [bd]
    · have h1' : 1 ≤ f * b := Nat.mul_le_mul h1 hb
      obtain ⟨x', hx'⟩ := power_loop (m := m) (S := S) (t := t) hb hb2 ds (f * b) (some d) h1' (by omega)
      refine ⟨x', ?_⟩
      rw [if_neg (by omega)] at bd
      rw [List.length_cons, hlen, ← hx', forL_cons]
      simp [bd]
end Kz
namespace Kz
open PySem PySem.Spec PyProof.Rows L2 Kw
theorem rngD_length : ∀ (n : Nat) (lo : Int), (rngD lo n).length = n
  | 0, _ => rfl
  | n + 1, lo => by simp [rngD, rngD_length n]
theorem power_step {m : Nat} {S : Store} {y t : Int} {r : RS} (hy : ¬ y = 1) (r0 : -4611686018427387904 ≤ t) (r9 : t < 4611686018427387904) (e : forL (gN 3) (l_power_up_to_0 (ev m)) none (rngD 0 t.toNat) [some (.int y), some (.int t), some (.int 1), none] S = r) :
    ev (m + 1) .f_power_up_to [.int y, .int t] S = (r.bnd (sRet (fVar 2))).fin := by
  rw [ev, b_power_up_to]
  simp [hy, r0, r9, e]
theorem power_one {m : Nat} {S : Store} {t : Int} : ev (m + 1) .f_power_up_to [.int 1, .int t] S = .ok (.int 1) S := by
  rw [ev, b_power_up_to]
  simp
theorem fin_nx2 {S : Store} {a b x' : Option D} {F : Int} : ((RS.nx [a, b, some (.int F), x'] S).bnd (sRet (fVar 2))).fin = .ok (.int F) S := by simp
theorem fin_rt2 {S : Store} {d : D} {k : FS} : ((RS.rt d S).bnd k).fin = .ok d S := rfl
theorem power_ok {n b t : Nat} {S : Store} (h : 1 ≤ n) (hb : 1 ≤ b) (hb2 : b ≤ 5001) (ht : t ≤ 5001) : ev n .f_power_up_to [.int (b : Int), .int (t : Int)] S = .ok (.int ((pw b t : Nat) : Int)) S := by
  obtain ⟨m, rfl, h'⟩ := up h
  by_cases h1 : b = 1
  · subst h1
    have : pw 1 t = 1 := by simp [pw]
    rw [this]
    exact power_one
  · obtain ⟨x', e⟩ := power_loop (m := m) (S := S) (t := .int (t : Int)) hb hb2 (rngD 0 t) 1 none (by omega) (by omega)
    rw [rngD_length, Nat.one_mul] at e
    have ps := power_step (m := m) (S := S) (y := (b : Int)) (t := (t : Int)) (by omega) (by omega) (by omega) e
    rw [ps]
    by_cases hp : b ^ t ≤ 5000
    · have e5 : pw b t = b ^ t := by unfold pw; omega
      rw [if_pos hp, e5, fin_nx2]
    · have e5 : pw b t = 5001 := by unfold pw; omega
      rw [if_neg hp, e5, fin_rt2]; rfl
theorem gMin_two {i j : Int} {S : Store} : gMin [.int i, .int j] S = .ok (.int (min i j)) S := by
  show RE.ok (D.int (if j < i then j else i)) S = _
  have : (if j < i then j else i) = min i j := by split <;> omega
  rw [this]
theorem num_both {m : Nat} {S : Store} {A B x : D} {p q : Int} (e1 : ev m .f_number_up_to [A, x] S = .ok (.int p) S) (e2 : ev m .f_number_up_to [B, x] S = .ok (.int q) S) (c : (CMul p q ∨ CMulW p q) = True) :
    ev (m + 1) .f_number_up_to [.tup [.str "both", A, B], x] S = .ok (.int (min (p * q) 5001)) S := by
  rw [ev, b_number_up_to]
  simp [e1, e2, c, gMin_two]
theorem num_from {m : Nat} {S : Store} {A B x r : D} {p q : Int} (e1 : ev m .f_number_up_to [A, x] S = .ok (.int p) S) (e2 : ev m .f_number_up_to [B, x] S = .ok (.int q) S) (e3 : ev m .f_power_up_to [.int q, .int p] S = .ok r S) :
    ev (m + 1) .f_number_up_to [.tup [.str "from", A, B], x] S = .ok r S := by
  rw [ev, b_number_up_to]
  simp [e1, e2, e3]
theorem cast_min5 (x y : Nat) : min ((x : Int) * (y : Int)) 5001 = ((min (x * y) 5001 : Nat) : Int) := by
  rw [cast_mul2]; omega
theorem number_ok {z : Nat → Nat} {x : D} {S : Store} (hx : Szs z x S) (k : Kd) : ∀ {n : Nat}, k.dep + 2 ≤ n → ev n .f_number_up_to [k.d, x] S = .ok (.int ((nm z k : Nat) : Int)) S := by
  induction k with
  | base i =>
    intro n h
    obtain ⟨m, rfl, h'⟩ := up (d := 1) (by omega : 1 + 1 ≤ n)
    rw [ev, b_number_up_to]
    simp [Kd.d, hx.ix, nm]
  | unit =>
    intro n h
    obtain ⟨m, rfl, h'⟩ := up (d := 1) (by omega : 1 + 1 ≤ n)
    rw [ev, b_number_up_to]
    simp [Kd.d, nm]
  | both a b ha hb =>
    intro n h
    simp [Kd.dep] at h
    obtain ⟨m, rfl, h'⟩ := up (d := max a.dep b.dep + 2) (by omega)
    have oa := nm_ok hx.ok a; have ob := nm_ok hx.ok b
    have c : (CMul ((nm z a : Nat) : Int) ((nm z b : Nat) : Int) ∨ CMulW ((nm z a : Nat) : Int) ((nm z b : Nat) : Int)) = True := mulS (by omega) (by omega)
    have := num_both (ha (n := m) (by omega)) (hb (n := m) (by omega)) c
    rw [cast_min5] at this
    exact this
  | frm a b ha hb =>
    intro n h
    simp [Kd.dep] at h
    obtain ⟨m, rfl, h'⟩ := up (d := max a.dep b.dep + 2) (by omega)
    have oa := nm_ok hx.ok a; have ob := nm_ok hx.ok b
    exact num_from (ha (n := m) (by omega)) (hb (n := m) (by omega)) (power_ok (n := m) (b := nm z b) (t := nm z a) (S := S) (by omega) ob.1 ob.2 oa.2)
/-- the most that a function takes -/
def tk (z : Nat → Nat) : Kd → Nat
  | .base _ => 0
  | .unit => 0
  | .both a b => max (tk z a) (tk z b)
  | .frm a b => max (max (tk z a) (tk z b)) (nm z a)
theorem in_two_t (s : Str) (S : Store) (h : PyData.strOk s = true) : gIn false (.str s) (.tup [.str "both", .str "from"]) S = .ok (.bl (s == "both" || s == "from")) S := by
  have e1 : (Str.ofString "both" == s) = (s == Str.ofString "both") := by rw [Bool.eq_iff_iff, beq_iff_eq, beq_iff_eq]; exact eq_comm
  have e2 : (Str.ofString "from" == s) = (s == Str.ofString "from") := by rw [Bool.eq_iff_iff, beq_iff_eq, beq_iff_eq]; exact eq_comm
  simp [gIn, pyS, pySL, PyData.canLay0, PyData.canLayAll0, PyData.depth, PyData.depthAll, PyData.eqv, h, e1, e2]
theorem taken_sure {z : Nat → Nat} {x : D} {S : Store} (hx : Szs z x S) (k : Kd) : ∀ {n : Nat}, k.dep + 3 ≤ n → tk z k ≤ 5000 → ev n .f_sure_taken [k.d, x] S = .ok .non S := by
  have i1 := in_two_t "base" S (by simp)
  have i2 := in_two_t "unit" S (by simp)
  have i3 := in_two_t "both" S (by simp)
  have i4 := in_two_t "from" S (by simp)
  induction k with
  | base i =>
    intro n h _
    obtain ⟨m, rfl, h'⟩ := up (d := 1) (by omega : 1 + 1 ≤ n)
    rw [ev, b_sure_taken]
    simp [Kd.d, i1]
  | unit =>
    intro n h _
    obtain ⟨m, rfl, h'⟩ := up (d := 1) (by omega : 1 + 1 ≤ n)
    rw [ev, b_sure_taken]
    simp [Kd.d, i2]
  | both a b ha hb =>
    intro n h ht
    simp [Kd.dep] at h
    simp [tk] at ht
    obtain ⟨m, rfl, h'⟩ := up (d := max a.dep b.dep + 3) (by omega)
    rw [ev, b_sure_taken]
    simp [Kd.d, i3, ha (n := m) (by omega) (by omega), hb (n := m) (by omega) (by omega)]
  | frm a b ha hb =>
    intro n h ht
    simp [Kd.dep] at h
    simp [tk] at ht
    obtain ⟨m, rfl, h'⟩ := up (d := max a.dep b.dep + 3) (by omega)
    have hn : ¬ (5000 : Int) < ((nm z a : Nat) : Int) := by omega
    rw [ev, b_sure_taken]
    simp [Kd.d, i4, number_ok hx a (n := m) (by omega), hn, ha (n := m) (by omega) (by omega), hb (n := m) (by omega) (by omega)]
mutual
/-- data whose sort is known at every place of its tuples -/
def ty : D → Bool
  | .non | .bl _ | .int _ | .str _ | .fls _ | .lst _ | .dic _ _ => true
  | .tup ds => tyL ds
  | _ => false
def tyL : List D → Bool
  | [] => true
  | d :: ds => ty d && tyL ds
end
theorem tyL_mem : ∀ {ds : List D} {d : D}, tyL ds = true → d ∈ ds → ty d = true
  | e :: ds, d, h, m => by
    simp [tyL] at h
    rcases List.mem_cons.mp m with rfl | m
    · exact h.1
    · exact tyL_mem h.2 m
theorem tyL_all {ds : List D} (h : ∀ d ∈ ds, ty d = true) : tyL ds = true := by
  induction ds with
  | nil => rfl
  | cons d ds ih => simp [tyL, h d List.mem_cons_self, ih fun e he => h e (List.mem_cons_of_mem _ he)]
theorem ty_notup {d : D} {S : Store} (h : ty d = true) (hn : ∀ ds, d ≠ .tup ds) : isiR "tuple" d S = .ok (.bl false) S := by
  cases d with
  | tup ds => exact absurd rfl (hn ds)
  | fls b => rfl
  | loc _ => simp [ty] at h
  | ins _ _ _ => simp [ty] at h
  | glo _ => simp [ty] at h
  | exn _ => simp [ty] at h
  | exo _ _ _ => simp [ty] at h
  | lam _ _ _ => simp [ty] at h
  | _ => simp
/-- what is no whole number -/
theorem ty_noint {d : D} {S : Store} (h : ty d = true) (hn : ∀ i, d ≠ .int i) : isiR "int" d S = .ok (.bl false) S ∨ (isiR "int" d S = .ok (.bl true) S ∧ isiR "bool" d S = .ok (.bl true) S) := by
  cases d with
  | int i => exact absurd rfl (hn i)
  | bl b => exact .inr ⟨by simp, by simp⟩
  | fls b => exact .inl rfl
  | loc _ => simp [ty] at h
  | ins _ _ _ => simp [ty] at h
  | glo _ => simp [ty] at h
  | exn _ => simp [ty] at h
  | exo _ _ _ => simp [ty] at h
  | lam _ _ _ => simp [ty] at h
  | _ => exact .inl (by simp)
theorem from_no {n : Nat} {d : D} {lo hi : Int} {S : Store} (h : 1 ≤ n) (l : ty d = true) (hn : ∀ i, d ≠ .int i) : ev n .f_is_from [d, .int lo, .int hi] S = .ok (.bl false) S := by
  obtain ⟨m, rfl, h'⟩ := up h
  rw [ev, b_is_from]
  rcases ty_noint (S := S) l hn with e | ⟨e1, e2⟩
  · simp [e]
  · simp [e1, e2]
/-- whether it is a worth -/
def isW (z : Nat → Nat) : Kd → D → Bool
  | .base i, d => (match d with
    | .int x => decide (0 ≤ x) && decide (x ≤ ((z i.val : Nat) : Int) - 1)
    | _ => false)
  | .unit, d => (match d with
    | .tup ds => ds.isEmpty
    | _ => false)
  | .both a b, d => (match d with
    | .tup [x, y] => isW z a x && isW z b y
    | _ => false)
  | .frm a b, d => (match d with
    | .tup ds => decide (ds.length = nm z a) && ds.all (isW z b)
    | _ => false)
mutual
/-- no tuple in it is too long -/
def sml : D → Bool
  | .tup ds => decide (ds.length ≤ 16000000) && smlL ds
  | _ => true
def smlL : List D → Bool
  | [] => true
  | d :: ds => sml d && smlL ds
end
theorem smlL_mem : ∀ {ds : List D} {d : D}, smlL ds = true → d ∈ ds → sml d = true
  | e :: ds, d, h, m => by
    simp [smlL] at h
    rcases List.mem_cons.mp m with rfl | m
    · exact h.1
    · exact smlL_mem h.2 m
theorem smlL_all {ds : List D} (h : ∀ d ∈ ds, sml d = true) : smlL ds = true := by
  induction ds with
  | nil => rfl
  | cons d ds ih => simp [smlL, h d List.mem_cons_self, ih fun e he => h e (List.mem_cons_of_mem _ he)]
theorem plain_ok {z : Nat → Nat} {x : D} {S : Store} (hx : Szs z x S) (k : Kd) : ∀ {n : Nat} {d : D}, k.dep + 3 ≤ n → ty d = true → sml d = true → ev n .f_is_plain_worth [k.d, x, d] S = .ok (.bl (isW z k d)) S := by
  induction k with
  | base i =>
    intro n d h t q
    obtain ⟨m, rfl, h'⟩ := up (d := 2) (by omega : 2 + 1 ≤ n)
    rw [ev, b_is_plain_worth]
    by_cases hi : ∃ y, d = .int y
    · obtain ⟨y, rfl⟩ := hi
      simp [Kd.d, hx.ix, is_from_int (n := m) (by omega), isW]
    · have hi' : ∀ y, d ≠ .int y := fun y e => hi ⟨y, e⟩
      have e : isW z (.base i) d = false := by
        unfold isW; split
        · exact absurd rfl (hi' _)
        · rfl
      simp [Kd.d, hx.ix, from_no (n := m) (by omega) t hi', e]
  | unit =>
    intro n d h t q
    obtain ⟨m, rfl, h'⟩ := up (d := 2) (by omega : 2 + 1 ≤ n)
    rw [ev, b_is_plain_worth]
    by_cases hi : ∃ ds, d = .tup ds
    · obtain ⟨ds, rfl⟩ := hi
      simp [Kd.d, isW]
    · have hi' : ∀ y, d ≠ .tup y := fun y e => hi ⟨y, e⟩
      have e : isW z .unit d = false := by
        unfold isW; split
        · exact absurd rfl (hi' _)
        · rfl
      simp [Kd.d, ty_notup t hi', e]
  | both a b ha hb =>
    intro n d h t q
    simp [Kd.dep] at h
    obtain ⟨m, rfl, h'⟩ := up (d := max a.dep b.dep + 3) (by omega)
    rw [ev, b_is_plain_worth]
    by_cases hi : ∃ ds, d = .tup ds
    · obtain ⟨ds, rfl⟩ := hi
      have t2 : tyL ds = true := by simpa [ty] using t
      have q2 : smlL ds = true := by simp [sml] at q; exact q.2
      match ds, t2, q2 with
      | [], _, _ => simp [Kd.d, isW]
      | [_], _, _ => simp [Kd.d, isW]
      | [u, v], t2, q2 =>
        have ea := ha (n := m) (d := u) (by omega) (tyL_mem t2 (by simp)) (smlL_mem q2 (by simp))
        have eb := hb (n := m) (d := v) (by omega) (tyL_mem t2 (by simp)) (smlL_mem q2 (by simp))
        cases hw : isW z a u <;> simp [Kd.d, isW, ea, eb, hw]
      | _ :: _ :: _ :: r, _, _ =>
        have n2 : ¬ ((r.length : Int) + 1 + 1 + 1 = 2) := by omega
        simp [Kd.d, isW, n2]
    · have hi' : ∀ y, d ≠ .tup y := fun y e => hi ⟨y, e⟩
      have e : isW z (.both a b) d = false := by
        unfold isW; split
        · exact absurd rfl (hi' _)
        · rfl
      simp [Kd.d, ty_notup t hi', e]
  | frm a b ha hb =>
    intro n d h t q
    simp [Kd.dep] at h
    obtain ⟨m, rfl, h'⟩ := up (d := max a.dep b.dep + 3) (by omega)
    have en := number_ok hx a (n := m) (by omega)
    rw [ev, b_is_plain_worth]
    by_cases hi : ∃ ds, d = .tup ds
    · obtain ⟨ds, rfl⟩ := hi
      have t2 : tyL ds = true := by simpa [ty] using t
      have q2 : ds.length ≤ 16000000 ∧ smlL ds = true := by simpa [sml] using q
      by_cases hl : ds.length = nm z a
      · have hl' : (ds.length : Int) = ((nm z a : Nat) : Int) := by omega
        have hm := compL_map (tg := gN 3) (tt := fYes) (te := fArg (ev m .f_is_plain_worth) (fCons (f2 gIx (fVar 0) (fC (.int 2))) (fCons (fVar 1) (fCons (fVar 3) fNil)))) (ρ := [some (Kd.frm a b).d, some x, some (.tup ds), none]) (S := S) (gg := none) (fun e => .bl (isW z b e)) (by unfold gd; trivial) ds [] (fun e he => by
          refine ⟨[some (Kd.frm a b).d, some x, some (.tup ds), some e], by simp, rfl, ?_⟩
          simp [Kd.d, hb (n := m) (d := e) (by omega) (tyL_mem t2 he) (smlL_mem q2.2 he)]) (by have h8 : sizeLine = 16777216 := rfl; simp; omega)
        have e1 : ds.map (fun e => D.bl (isW z b e)) = (ds.map (isW z b)).map D.bl := by simp
        rw [e1] at hm
        have e2 : gAll [D.lst ((ds.map (isW z b)).map D.bl)] S = .ok (.bl (ds.all (isW z b))) S := by
          rw [gAll_lst]; simp [List.all_map]
        simp at hm
        simp at e2
        simp [Kd.d] at hm ⊢
        simp [en, hl, wipeR, hm, e2, isW]
      · have hl' : ¬ (ds.length : Int) = ((nm z a : Nat) : Int) := by omega
        simp [Kd.d, en, hl', isW, hl]
    · have hi' : ∀ y, d ≠ .tup y := fun y e => hi ⟨y, e⟩
      have e : isW z (.frm a b) d = false := by
        unfold isW; split
        · exact absurd rfl (hi' _)
        · rfl
      simp [Kd.d, ty_notup t hi', e]
end Kz
namespace Kz
open PySem PySem.Spec PyProof.Rows L2 Kw
section
variable {g g1 : FG} {F : FEnv → List D → Store → RE (List D)} {ρ : FEnv} {S : Store} {acc r : List D}
theorem gd_non : gd none S := by unfold gd; trivial
theorem compO_nil : compO g F none ρ [] acc S = .ok acc S := by unfold compO gchk; rw [if_pos gd_non]
theorem compO_step {d : D} {ρ1 : FEnv} {S1 S2 : Store} {acc2 : List D} (h1 : g d ρ S = some (ρ1, S1)) (h2 : F ρ1 acc S1 = .ok acc2 S2) : compO g F none ρ (d :: r) acc S = compO g F none ρ r acc2 S2 := by
  conv => lhs; unfold compO
  unfold gchk
  rw [if_pos gd_non, h1]
  simp [h2]
theorem compO_map (f : D → List D) : ∀ (ds acc : List D), (∀ d ∈ ds, ∃ ρ1, g d ρ S = some (ρ1, S) ∧ ∀ acc, acc.length + (f d).length ≤ sizeLine → F ρ1 acc S = .ok (acc ++ f d) S) → acc.length + (ds.flatMap f).length ≤ sizeLine →
    compO g F none ρ ds acc S = .ok (acc ++ ds.flatMap f) S
  | [], acc, _, _ => by rw [compO_nil]; simp
  | d :: ds, acc, h, hl => by
    obtain ⟨ρ1, h1, h2⟩ := h d List.mem_cons_self
    have hl' : acc.length + ((f d).length + (ds.flatMap f).length) ≤ sizeLine := by simpa [List.flatMap_cons] using hl
    rw [compO_step h1 (h2 acc (by omega)), compO_map f ds (acc ++ f d) (fun e he => h e (List.mem_cons_of_mem _ he)) (by rw [List.length_append]; omega)]
    rw [List.flatMap_cons, List.append_assoc]
theorem fLc2_map {fi fi1 : FI} {te : FE} {vs vs1 : List Nat} {ds : List D} (f : D → List D) (h0 : fi ρ S = .ok (ds, none) S) (h : ∀ d ∈ ds, ∃ ρ1, g d (wipeR ρ vs) S = some (ρ1, S) ∧ ∀ acc, acc.length + (f d).length ≤ sizeLine → inL fi1 g1 te vs1 ρ1 acc S = .ok (acc ++ f d) S) (hl : (ds.flatMap f).length ≤ sizeLine) :
    fLc2 fi g fi1 g1 te vs vs1 ρ S = .ok (.lst (ds.flatMap f)) S := by
  unfold fLc2
  rw [h0]
  show (match compO g (inL fi1 g1 te vs1) none (wipeR ρ vs) ds [] S with
    | .ok acc S2 => RE.ok (D.lst acc) S2
    | _ => .no) = _
  rw [compO_map f ds [] h (by simpa using hl)]
  rfl
theorem inL_map {fi1 : FI} {te : FE} {vs1 : List Nat} {ds : List D} (f : D → D) (h0 : fi1 ρ S = .ok (ds, none) S) (h : ∀ d ∈ ds, ∃ ρ1, g1 d (wipeR ρ vs1) S = some (ρ1, S) ∧ te ρ1 S = .ok (f d) S) (hl : acc.length + ds.length ≤ sizeLine) : inL fi1 g1 te vs1 ρ acc S = .ok (acc ++ ds.map f) S := by
  unfold inL
  rw [h0]
  exact compL_map f gd_non ds acc (fun d hd => by obtain ⟨ρ1, a, b⟩ := h d hd; exact ⟨ρ1, a, rfl, b⟩) hl
end
/-- all rows of so many -/
def LL (ts : List D) : Nat → List (List D)
  | 0 => [[]]
  | n + 1 => (LL ts n).flatMap fun r => ts.map fun t => r ++ [t]
theorem LL_len (ts : List D) : ∀ n, (LL ts n).length = ts.length ^ n
  | 0 => rfl
  | n + 1 => by
    have : ∀ l : List (List D), (l.flatMap fun r => ts.map fun t => r ++ [t]).length = l.length * ts.length := by
      intro l
      induction l with
      | nil => simp
      | cons a l ih => rw [List.flatMap_cons, List.length_append, ih, List.length_map, List.length_cons, Nat.succ_mul]; omega
    rw [LL, this, LL_len ts n, Nat.pow_succ]
theorem LL_mem {ts : List D} : ∀ {n : Nat} {r : List D}, r ∈ LL ts n → r.length = n ∧ ∀ d ∈ r, d ∈ ts
  | 0, r, h => by
    have : r = [] := by simpa [LL] using h
    subst this
    exact ⟨rfl, fun d hd => nomatch hd⟩
  | n + 1, r, h => by
    rw [LL, List.mem_flatMap] at h
    obtain ⟨r', h1, h2⟩ := h
    obtain ⟨t, h3, rfl⟩ := List.mem_map.mp h2
    have ⟨e, a⟩ := LL_mem h1
    refine ⟨by simp [e], fun d hd => ?_⟩
    rcases List.mem_append.mp hd with hd | hd
    · exact a d hd
    · have : d = t := by simpa using hd
      exact this ▸ h3
/-- all worths -/
def wl (z : Nat → Nat) : Kd → List D
  | .base i => (List.range (z i.val)).map fun (j : Nat) => D.int (j : Int)
  | .unit => [.tup []]
  | .both a b => (wl z a).flatMap fun x => (wl z b).map fun y => .tup [x, y]
  | .frm a b => (LL (wl z b) (nm z a)).map .tup
theorem nm_both {z : Nat → Nat} (hz : ∀ i, 1 ≤ z i ∧ z i ≤ 999) {a b : Kd} (h : nm z (.both a b) ≤ 5000) : nm z a * nm z b = nm z (.both a b) ∧ nm z a ≤ 5000 ∧ nm z b ≤ 5000 := by
  have ha := nm_ok hz a; have hb := nm_ok hz b
  simp only [nm] at h ⊢
  have h1 := Nat.mul_le_mul (Nat.le_refl (nm z a)) hb.1
  have h2 := Nat.mul_le_mul ha.1 (Nat.le_refl (nm z b))
  omega
theorem nm_frm {z : Nat → Nat} (hz : ∀ i, 1 ≤ z i ∧ z i ≤ 999) {a b : Kd} (h : nm z (.frm a b) ≤ 5000) : nm z b ^ nm z a = nm z (.frm a b) ∧ nm z b ≤ 5000 := by
  have ha := nm_ok hz a; have hb := nm_ok hz b
  simp only [nm, pw] at h ⊢
  have h1 : nm z b ^ 1 ≤ nm z b ^ nm z a := Nat.pow_le_pow_right hb.1 ha.1
  rw [Nat.pow_one] at h1
  omega
theorem fm_len {xs : List D} {f : D → List D} {c : Nat} (h : ∀ x, (f x).length = c) : (xs.flatMap f).length = xs.length * c := by
  induction xs with
  | nil => simp
  | cons a l ih => rw [List.flatMap_cons, List.length_append, ih, h, List.length_cons, Nat.succ_mul]; omega
theorem wl_len {z : Nat → Nat} (hz : ∀ i, 1 ≤ z i ∧ z i ≤ 999) : ∀ k : Kd, nm z k ≤ 5000 → (wl z k).length = nm z k
  | .base i, _ => by simp [wl, nm]
  | .unit, _ => rfl
  | .both a b, h => by
    have ⟨e, ha, hb⟩ := nm_both hz h
    have la := wl_len hz a ha; have lb := wl_len hz b hb
    rw [← e, ← la, ← lb, wl, fm_len (c := (wl z b).length) (fun x => by simp)]
  | .frm a b, h => by
    have ⟨e, hb⟩ := nm_frm hz h
    have lb := wl_len hz b hb
    rw [← e, wl, List.length_map, LL_len, lb]
theorem wl_isW {z : Nat → Nat} : ∀ {k : Kd} {d : D}, d ∈ wl z k → isW z k d = true
  | .base i, d, h => by
    obtain ⟨j, hj, rfl⟩ := List.mem_map.mp h
    have := List.mem_range.mp hj
    simp [isW]; omega
  | .unit, d, h => by
    have : d = .tup [] := by simpa [wl] using h
    subst this; rfl
  | .both a b, d, h => by
    rw [wl, List.mem_flatMap] at h
    obtain ⟨x, hx, h⟩ := h
    obtain ⟨y, hy, rfl⟩ := List.mem_map.mp h
    simp [isW, wl_isW hx, wl_isW hy]
  | .frm a b, d, h => by
    rw [wl] at h
    obtain ⟨r, hr, rfl⟩ := List.mem_map.mp h
    have ⟨e, m⟩ := LL_mem hr
    simp only [isW, Bool.and_eq_true, decide_eq_true_eq, List.all_eq_true]
    exact ⟨e, fun y hy => wl_isW (m y hy)⟩
def fR (ts : List D) (d : D) : List D := match d with
  | .tup r => ts.map fun t => .tup (r ++ [t])
  | _ => []
theorem fR_map (ts : List D) (L : List (List D)) : (L.map D.tup).flatMap (fR ts) = (L.flatMap fun r => ts.map fun t => r ++ [t]).map .tup := by
  induction L with
  | nil => rfl
  | cons r L ih =>
    rw [List.map_cons, List.flatMap_cons, ih, List.flatMap_cons, List.map_append, List.map_map]
    rfl
theorem lo_body {m : Nat} {S : Store} {ts : List D} {L : List (List D)} {x t : Option D} (h1 : ∀ r ∈ L, r.length < 10000) (h2 : L.length * ts.length ≤ 10000) : l_lists_of_0 (ev m) [some (.lst ts), t, some (.lst (L.map .tup)), x, none, none] S = .nx [some (.lst ts), t, some (.lst ((L.flatMap fun r => ts.map fun t => r ++ [t]).map .tup)), x, none, none] S := by
  have h8 : sizeLine = 16777216 := rfl
  have key := fLc2_map (fi := fiL (fVar 2)) (g := gN 4) (g1 := gN 5) (fi1 := fiL (fVar 0)) (te := f2 (gAdd false) (fVar 4) (fArg mkTup (fCons (fVar 5) fNil))) (vs := [4, 5]) (vs1 := [5]) (ρ := [some (.lst ts), t, some (.lst (L.map .tup)), x, none, none]) (S := S) (ds := L.map .tup) (fR ts) (by rfl) (fun d hd => by
    obtain ⟨r, hr, rfl⟩ := List.mem_map.mp hd
    have := h1 r hr
    refine ⟨[some (.lst ts), t, some (.lst (L.map .tup)), x, some (.tup r), none], by rfl, fun acc ha => ?_⟩
    refine inL_map (ds := ts) (fun t => .tup (r ++ [t])) (by rfl) (fun d hd => ⟨[some (.lst ts), t, some (.lst (L.map .tup)), x, some (.tup r), some d], by rfl, ?_⟩) (by simpa [fR] using ha)
    have : r.length + 1 ≤ sizeLine := by omega
    simp [this]) (by
      rw [fR_map, List.length_map]
      have : (L.flatMap fun r => ts.map fun t => r ++ [t]).length = L.length * ts.length := by
        clear h1 h2
        induction L with
        | nil => simp
        | cons a l ih => rw [List.flatMap_cons, List.length_append, ih, List.length_map, List.length_cons, Nat.succ_mul]; omega
      omega)
  rw [fR_map] at key
  rw [l_lists_of_0]
  simp [key]
theorem lo_loop {m : Nat} {S : Store} {ts : List D} {t : Option D} (h0 : 1 ≤ ts.length) : ∀ (ds : List D) (i : Nat) (x : Option D), i + ds.length ≤ 5001 → ts.length ^ (i + ds.length) ≤ 10000 → ∃ x', forL (gN 3) (l_lists_of_0 (ev m)) none ds [some (.lst ts), t, some (.lst ((LL ts i).map .tup)), x, none, none] S = .nx [some (.lst ts), t, some (.lst ((LL ts (i + ds.length)).map .tup)), x', none, none] S
  | [], i, x, h1, h2 => ⟨x, by simp⟩
  | d :: ds, i, x, h1, h2 => by
    simp only [List.length_cons] at h1 h2
    have e : i + (ds.length + 1) = (i + 1) + ds.length := by omega
    rw [e] at h1 h2
    have hl : (LL ts i).length * ts.length ≤ 10000 := by
      have h3 : ts.length ^ (i + 1) ≤ ts.length ^ (i + 1 + ds.length) := Nat.pow_le_pow_right h0 (by omega)
      have h4 : (LL ts i).length * ts.length = ts.length ^ (i + 1) := by rw [LL_len, Nat.pow_succ]
      omega
    have bd := lo_body (m := m) (S := S) (ts := ts) (L := LL ts i) (x := some d) (t := t) (fun r hr => by have := (LL_mem hr).1; omega) hl
    obtain ⟨x', hx⟩ := lo_loop (m := m) (S := S) (t := t) h0 ds (i + 1) (some d) h1 h2
    refine ⟨x', ?_⟩
    rw [List.length_cons, e, ← hx, forL_cons]
    have e1 : gN 3 d [some (.lst ts), t, some (.lst ((LL ts i).map .tup)), x, none, none] S = some ([some (.lst ts), t, some (.lst ((LL ts i).map .tup)), some d, none, none], S) := rfl
    rw [e1, tgR_some, bd, loopR_nx]
    rfl
theorem lo_step {m : Nat} {S : Store} {t : Int} {ts : List D} {r : RS} (r0 : -4611686018427387904 ≤ t) (r9 : t < 4611686018427387904) (e : forL (gN 3) (l_lists_of_0 (ev m)) none (rngD 0 t.toNat) [some (.lst ts), some (.int t), some (.lst [.tup []]), none, none, none] S = r) :
    ev (m + 1) .f_lists_of [.lst ts, .int t] S = (r.bnd (sRet (fVar 2))).fin := by
  have h8 : sizeLine = 16777216 := rfl
  rw [ev, b_lists_of]
  simp [h8, r0, r9, e]
theorem lists_of_ok {n t : Nat} {S : Store} {ts : List D} (h : 1 ≤ n) (h0 : 1 ≤ ts.length) (ht : t ≤ 5001) (hl : ts.length ^ t ≤ 10000) : ev n .f_lists_of [.lst ts, .int (t : Int)] S = .ok (.lst ((LL ts t).map .tup)) S := by
  obtain ⟨m, rfl, h'⟩ := up h
  obtain ⟨x', e⟩ := lo_loop (m := m) (S := S) (ts := ts) (t := some (.int (t : Int))) h0 (rngD 0 t) 0 none (by rw [rngD_length]; omega) (by rw [rngD_length]; simpa using hl)
  rw [rngD_length, Nat.zero_add] at e
  have e' : forL (gN 3) (l_lists_of_0 (ev m)) none (rngD 0 ((t : Nat) : Int).toNat) [some (.lst ts), some (.int (t : Int)), some (.lst [.tup []]), none, none, none] S = .nx [some (.lst ts), some (.int (t : Int)), some (.lst ((LL ts t).map .tup)), x', none, none] S := e
  rw [lo_step (m := m) (S := S) (t := (t : Int)) (ts := ts) (by omega) (by omega) e']
  rfl
theorem gRng_nat {n : Nat} {S : Store} (h : n ≤ 10000) : gRng (.int (n : Int)) S = .ok (.lst ((List.range n).map fun (j : Nat) => D.int (j : Int))) S := by
  have h1 : (0 : Int) ≤ (n : Int) ∧ (n : Int) ≤ 16777216 := ⟨by omega, by omega⟩
  show (if (0 : Int) ≤ (n : Int) ∧ (n : Int) ≤ 16777216 then RE.ok (D.lst (((List.range ((n : Int)).toNat).map fun (i : Nat) => ((i : Nat) : Int)).map D.int)) S else .no) = _
  rw [if_pos h1, List.map_map]
  rfl
theorem all_worths_ok {z : Nat → Nat} {x : D} {S : Store} (hx : Szs z x S) (k : Kd) : ∀ {n : Nat}, k.dep + 4 ≤ n → tk z k ≤ 5000 → nm z k ≤ 5000 → ev n .f_all_worths [k.d, x] S = .ok (.lst (wl z k)) S := by
  have h8 : sizeLine = 16777216 := rfl
  induction k with
  | base i =>
    intro n h _ _
    obtain ⟨m, rfl, h'⟩ := up (d := 1) (by omega : 1 + 1 ≤ n)
    have := hx.ok i.val
    have e := gRng_nat (n := z i.val) (S := S) (by omega)
    rw [ev, b_all_worths]
    simp [Kd.d, hx.ix, e, wl]
  | unit =>
    intro n h _ _
    obtain ⟨m, rfl, h'⟩ := up (d := 1) (by omega : 1 + 1 ≤ n)
    rw [ev, b_all_worths]
    simp [Kd.d, wl, h8]
  | both a b ha hb =>
    intro n h ht hn
    simp [Kd.dep] at h
    simp only [tk] at ht
    obtain ⟨m, rfl, h'⟩ := up (d := max a.dep b.dep + 4) (by omega)
    have ⟨e, na, nb⟩ := nm_both hx.ok hn
    have ea := ha (n := m) (by omega) (by omega) na
    have eb := hb (n := m) (by omega) (by omega) nb
    have la := wl_len hx.ok a na; have lb := wl_len hx.ok b nb
    have key := fLc2_map (fi := fiL (fArg (ev m .f_all_worths) (fCons (f2 gIx (fVar 0) (fC (.int 1))) (fCons (fVar 1) fNil)))) (g := gN 3) (g1 := gN 4) (fi1 := fiL (fVar 2)) (te := fArg mkTup (fCons (fVar 3) (fCons (fVar 4) fNil))) (vs := [3, 4]) (vs1 := [4]) (ρ := [some (Kd.both a b).d, some x, some (.lst (wl z b)), none, none]) (S := S) (ds := wl z a) (fun u => (wl z b).map fun v => .tup [u, v]) (by simp [Kd.d, ea]) (fun u hu => by
      refine ⟨[some (Kd.both a b).d, some x, some (.lst (wl z b)), some u, none], by rfl, fun acc hacc => ?_⟩
      exact inL_map (ds := wl z b) (fun v => .tup [u, v]) (by rfl) (fun v hv => ⟨[some (Kd.both a b).d, some x, some (.lst (wl z b)), some u, some v], by rfl, by simp [h8]⟩) (by simpa using hacc)) (by
        rw [fm_len (c := (wl z b).length) (fun x => by simp), la, lb]; omega)
    rw [ev, b_all_worths]
    simp [Kd.d] at key ⊢
    simp [eb, key, wl]
  | frm a b ha hb =>
    intro n h ht hn
    simp [Kd.dep] at h
    simp only [tk] at ht
    obtain ⟨m, rfl, h'⟩ := up (d := max a.dep b.dep + 4) (by omega)
    have ⟨e, nb⟩ := nm_frm hx.ok hn
    have eb := hb (n := m) (by omega) (by omega) nb
    have lb := wl_len hx.ok b nb
    have en := number_ok hx a (n := m) (by omega)
    have ob := nm_ok hx.ok b
    have el := lists_of_ok (n := m) (t := nm z a) (S := S) (ts := wl z b) (by omega) (by omega) (by omega) (by rw [lb]; omega)
    rw [ev, b_all_worths]
    simp [Kd.d, eb, en, el, wl]
theorem wl_eqd {z : Nat → Nat} : ∀ {k : Kd} {d : D}, d ∈ wl z k → Eqd d (k.dep + 1)
  | .base i, d, h => by
    obtain ⟨j, hj, rfl⟩ := List.mem_map.mp h
    exact .int
  | .unit, d, h => by
    have : d = .tup [] := by simpa [wl] using h
    subst this; exact .tup .nil
  | .both a b, d, h => by
    rw [wl, List.mem_flatMap] at h
    obtain ⟨x, hx, h⟩ := h
    obtain ⟨y, hy, rfl⟩ := List.mem_map.mp h
    exact .tup (.cons ((wl_eqd hx).mono (by simp [Kd.dep]; omega)) (.cons ((wl_eqd hy).mono (by simp [Kd.dep]; omega)) .nil))
  | .frm a b, d, h => by
    rw [wl] at h
    obtain ⟨r, hr, rfl⟩ := List.mem_map.mp h
    have ⟨e, m⟩ := LL_mem hr
    exact .tup (.all fun y hy => (wl_eqd (m y hy)).mono (by simp [Kd.dep]; omega))
end Kz
namespace Kz
open PySem PySem.Spec PyProof.Rows L2 Kw
theorem ints_list {ns : List Int} (h : okSz ns) (S : Store) : Szs (sF ns) (.lst (ns.map .int)) S := ⟨sF_ok h, fun i => ix_ints h i S⟩
theorem sizes_list {n : Nat} {ns : List Int} (h : okSz ns) {S : Store} (hn : 2 ≤ n) : ev n .f_sure_sizes [.lst (ns.map .int)] S = .ok .non S := by
  obtain ⟨m, rfl, h'⟩ := up hn
  have h8 : sizeLine = 16777216 := rfl
  have hm := compL_map (tg := gN 2) (tt := fYes) (te := fArg (ev m .f_is_from) (fCons (fVar 2) (fCons (fC (.int 1)) (fCons (fC (.int 999)) fNil)))) (ρ := [some (.lst (ns.map .int)), some (.bl true), none]) (S := S) (gg := none) (fun _ => .bl true) gd_non (ns.map .int) [] (fun d hd => by
    obtain ⟨z, hz, rfl⟩ := List.mem_map.mp hd
    have := h.2 z hz
    refine ⟨[some (.lst (ns.map .int)), some (.bl true), some (.int z)], by simp, rfl, ?_⟩
    simp [is_from_int h', this]) (by simp [h.1])
  have hl : gLen [.lst (ns.map .int)] S = .ok (.int 8) S := by simp [gLen, seqA, h.1]
  have e1 : (ns.map D.int).map (fun _ => D.bl true) = (ns.map (fun _ => true)).map D.bl := by simp
  rw [e1] at hm
  have e2 : gAll [D.lst ((ns.map (fun _ => true)).map D.bl)] S = .ok (.bl true) S := by
    rw [gAll_lst]; simp
  have hit : itL (.lst (ns.map .int)) S = .ok (ns.map .int, none) S := rfl
  rw [ev, b_sure_sizes]
  simp at hm
  simp at e2
  simp at hl
  simp at hit
  simp [hl, hit, wipeR, hm, e2]
theorem wl_ty {z : Nat → Nat} : ∀ {k : Kd} {d : D}, d ∈ wl z k → ty d = true
  | .base i, d, h => by
    obtain ⟨j, hj, rfl⟩ := List.mem_map.mp h
    rfl
  | .unit, d, h => by
    have : d = .tup [] := by simpa [wl] using h
    subst this; rfl
  | .both a b, d, h => by
    rw [wl, List.mem_flatMap] at h
    obtain ⟨x, hx, h⟩ := h
    obtain ⟨y, hy, rfl⟩ := List.mem_map.mp h
    simp [ty, tyL, wl_ty hx, wl_ty hy]
  | .frm a b, d, h => by
    rw [wl] at h
    obtain ⟨r, hr, rfl⟩ := List.mem_map.mp h
    have ⟨e, m⟩ := LL_mem hr
    simp only [ty]
    exact tyL_all fun y hy => wl_ty (m y hy)
theorem wl_sml {z : Nat → Nat} (hz : ∀ i, 1 ≤ z i ∧ z i ≤ 999) : ∀ {k : Kd} {d : D}, d ∈ wl z k → sml d = true
  | .base i, d, h => by
    obtain ⟨j, hj, rfl⟩ := List.mem_map.mp h
    rfl
  | .unit, d, h => by
    have : d = .tup [] := by simpa [wl] using h
    subst this; rfl
  | .both a b, d, h => by
    rw [wl, List.mem_flatMap] at h
    obtain ⟨x, hx, h⟩ := h
    obtain ⟨y, hy, rfl⟩ := List.mem_map.mp h
    simp [sml, smlL, wl_sml hz hx, wl_sml hz hy]
  | .frm a b, d, h => by
    rw [wl] at h
    obtain ⟨r, hr, rfl⟩ := List.mem_map.mp h
    have ⟨e, m⟩ := LL_mem hr
    have := nm_ok hz a
    simp only [sml, Bool.and_eq_true, decide_eq_true_eq]
    exact ⟨by omega, smlL_all fun y hy => wl_sml hz (m y hy)⟩
end Kz
namespace Kz
open PySem PySem.Spec PyProof.Rows L2 Kw
mutual
/-- a key as a tree -/
def kD : NestedKey → D
  | .none => .non
  | .num i => .int i
  | .text x => .str x
  | .tup ks => .tup (kDs ks)
def kDs : List NestedKey → List D
  | [] => []
  | k :: ks => kD k :: kDs ks
end
theorem kDs_map : ∀ ks : List NestedKey, kDs ks = ks.map kD
  | [] => rfl
  | k :: ks => by rw [kDs, kDs_map ks]; rfl
mutual
theorem keyOf_kD : ∀ k : NestedKey, Kw.keyOf (kD k) = some k
  | .none => rfl
  | .num i => rfl
  | .text x => rfl
  | .tup ks => by rw [kD, Kw.keyOf, keysOf_kDs ks]; rfl
theorem keysOf_kDs : ∀ ks : List NestedKey, keysOf (kDs ks) = some ks
  | [] => rfl
  | k :: ks => by simp only [kDs, keysOf, keyOf_kD k, keysOf_kDs ks]
end
theorem und_kD (n : Nat) (k : NestedKey) : (kD k).under n = true := keyOf_under _ (keyOf_kD k)
theorem undL_kD (n : Nat) : ∀ ks : List NestedKey, underL n (ks.map kD) = true
  | [] => rfl
  | k :: ks => by simp [underL, und_kD n k, undL_kD n ks]
/-- a kind as a key -/
def kk : Kd → NestedKey
  | .base i => .tup [.text "base", .num (i.val : Int)]
  | .unit => .tup [.text "unit"]
  | .both a b => .tup [.text "both", kk a, kk b]
  | .frm a b => .tup [.text "from", kk a, kk b]
theorem kD_kk : ∀ k : Kd, kD (kk k) = k.d
  | .base i => rfl
  | .unit => rfl
  | .both a b => by simp [kk, kD, kDs, kD_kk a, kD_kk b, Kd.d]
  | .frm a b => by simp [kk, kD, kDs, kD_kk a, kD_kk b, Kd.d]
theorem keyOf_kd (k : Kd) : Kw.keyOf k.d = some (kk k) := by rw [← kD_kk k, keyOf_kD]
theorem kk_inj : ∀ {a b : Kd}, kk a = kk b → a = b
  | .base i, b, h => by
    cases b <;> simp [kk] at h
    rename_i j
    congr 1
    exact _root_.Fin.ext (by omega)
  | .unit, b, h => by cases b <;> simp [kk] at h; rfl
  | .both a c, b, h => by
    cases b <;> simp [kk] at h
    rw [kk_inj h.1, kk_inj h.2]
  | .frm a c, b, h => by
    cases b <;> simp [kk] at h
    rw [kk_inj h.1, kk_inj h.2]
theorem kk_depth : ∀ k : Kd, (kk k).depth = k.dep + 1
  | .base i => by simp [kk, NestedKey.depth, NestedKey.depthAll, Kd.dep]
  | .unit => by simp [kk, NestedKey.depth, NestedKey.depthAll, Kd.dep]
  | .both a b => by simp [kk, NestedKey.depth, NestedKey.depthAll, Kd.dep, kk_depth a, kk_depth b] <;> omega
  | .frm a b => by simp [kk, NestedKey.depth, NestedKey.depthAll, Kd.dep, kk_depth a, kk_depth b] <;> omega
theorem kk_tup (k : Kd) : isTupK (kk k) = true := by cases k <;> rfl
/-- all rows of so many -/
def LLk (ts : List NestedKey) : Nat → List (List NestedKey)
  | 0 => [[]]
  | n + 1 => (LLk ts n).flatMap fun r => ts.map fun t => r ++ [t]
/-- all worths, as keys -/
def wlk (z : Nat → Nat) : Kd → List NestedKey
  | .base i => (List.range (z i.val)).map fun (j : Nat) => .num (j : Int)
  | .unit => [.tup []]
  | .both a b => (wlk z a).flatMap fun x => (wlk z b).map fun y => .tup [x, y]
  | .frm a b => (LLk (wlk z b) (nm z a)).map .tup
theorem LLk_map (ts : List NestedKey) : ∀ n, (LLk ts n).map (List.map kD) = LL (ts.map kD) n
  | 0 => rfl
  | n + 1 => by
    rw [LL, LLk, ← LLk_map ts n, List.map_flatMap, List.flatMap_map]
    congr 1
    funext r
    rw [List.map_map, List.map_map]
    refine List.map_congr_left fun t _ => ?_
    simp
theorem wlk_map (z : Nat → Nat) : ∀ k : Kd, (wlk z k).map kD = wl z k
  | .base i => by rw [wlk, wl, List.map_map]; rfl
  | .unit => by simp [wlk, wl, kD, kDs]
  | .both a b => by
    rw [wlk, wl, ← wlk_map z a, ← wlk_map z b, List.map_flatMap, List.flatMap_map]
    congr 1
    funext x
    rw [List.map_map, List.map_map]
    refine List.map_congr_left fun y _ => ?_
    simp [kD, kDs]
  | .frm a b => by
    rw [wlk, wl, ← wlk_map z b, ← LLk_map, List.map_map, List.map_map]
    refine List.map_congr_left fun r _ => ?_
    simp [kD, kDs_map]
theorem LLk_mem {ts : List NestedKey} : ∀ {n : Nat} {r : List NestedKey}, r ∈ LLk ts n ↔ r.length = n ∧ ∀ d ∈ r, d ∈ ts
  | 0, r => by
    constructor
    · intro h
      have : r = [] := by simpa [LLk] using h
      subst this
      exact ⟨rfl, fun d hd => nomatch hd⟩
    · rintro ⟨h, _⟩
      have : r = [] := List.eq_nil_of_length_eq_zero h
      subst this; simp [LLk]
  | n + 1, r => by
    rw [LLk, List.mem_flatMap]
    constructor
    · rintro ⟨r', h1, h2⟩
      obtain ⟨t, h3, rfl⟩ := List.mem_map.mp h2
      have ⟨e, a⟩ := LLk_mem.mp h1
      refine ⟨by simp [e], fun d hd => ?_⟩
      rcases List.mem_append.mp hd with hd | hd
      · exact a d hd
      · have : d = t := by simpa using hd
        exact this ▸ h3
    · rintro ⟨h1, h2⟩
      have hne : r ≠ [] := fun z => by rw [z] at h1; cases h1
      refine ⟨r.dropLast, LLk_mem.mpr ⟨by rw [List.length_dropLast, h1]; rfl, fun d hd => h2 d (List.dropLast_subset _ hd)⟩, ?_⟩
      exact List.mem_map.mpr ⟨r.getLast hne, h2 _ (List.getLast_mem hne), List.dropLast_concat_getLast hne⟩
theorem nodup_fm {α β : Type} {f : α → List β} : ∀ {l : List α}, l.Nodup → (∀ a ∈ l, (f a).Nodup) → (∀ a ∈ l, ∀ b ∈ l, ∀ x, x ∈ f a → x ∈ f b → a = b) → (l.flatMap f).Nodup
  | [], _, _, _ => List.nodup_nil
  | a :: l, h1, h2, h3 => by
    rw [List.nodup_cons] at h1
    rw [List.flatMap_cons, List.nodup_append]
    refine ⟨h2 a List.mem_cons_self, nodup_fm h1.2 (fun b hb => h2 b (List.mem_cons_of_mem _ hb)) (fun b hb c hc => h3 b (List.mem_cons_of_mem _ hb) c (List.mem_cons_of_mem _ hc)), fun x hx y hy e => ?_⟩
    subst e
    obtain ⟨b, hb, hx2⟩ := List.mem_flatMap.mp hy
    have := h3 a List.mem_cons_self b (List.mem_cons_of_mem _ hb) x hx hx2
    exact h1.1 (this ▸ hb)
theorem nodup_map {α β : Type} {f : α → β} (hf : ∀ a b, f a = f b → a = b) : ∀ {l : List α}, l.Nodup → (l.map f).Nodup
  | [], _ => List.nodup_nil
  | a :: l, h => by
    rw [List.nodup_cons] at h
    rw [List.map_cons, List.nodup_cons]
    refine ⟨fun z => ?_, nodup_map hf h.2⟩
    obtain ⟨b, hb, e⟩ := List.mem_map.mp z
    exact h.1 (hf _ _ e ▸ hb)
theorem LLk_nodup {ts : List NestedKey} (h : ts.Nodup) : ∀ n, (LLk ts n).Nodup
  | 0 => by simp [LLk]
  | n + 1 => by
    rw [LLk]
    refine nodup_fm (LLk_nodup h n) (fun r _ => nodup_map (fun a b e => by simpa using e) h) fun r _ s _ x hx hy => ?_
    obtain ⟨t, _, rfl⟩ := List.mem_map.mp hx
    obtain ⟨u, _, e⟩ := List.mem_map.mp hy
    exact (List.append_inj' e rfl).1.symm
/-- each once -/
theorem wlk_nodup (z : Nat → Nat) : ∀ k : Kd, (wlk z k).Nodup
  | .base i => by
    rw [wlk]
    exact nodup_map (fun a b e => by simp at e; omega) List.nodup_range
  | .unit => by simp [wlk]
  | .both a b => by
    rw [wlk]
    refine nodup_fm (wlk_nodup z a) (fun x _ => nodup_map (fun c d e => by simpa using e) (wlk_nodup z b)) fun x _ y _ w hx hy => ?_
    obtain ⟨u, _, rfl⟩ := List.mem_map.mp hx
    obtain ⟨v, _, e⟩ := List.mem_map.mp hy
    simp at e
    exact e.1.symm
  | .frm a b => by
    rw [wlk]
    exact nodup_map (fun c d e => by simpa using e) (LLk_nodup (wlk_nodup z b) _)
theorem wlk_depth {z : Nat → Nat} : ∀ {k : Kd} {w : NestedKey}, w ∈ wlk z k → w.depth ≤ k.dep + 1
  | .base i, w, h => by
    obtain ⟨j, _, rfl⟩ := List.mem_map.mp h
    simp [NestedKey.depth]
  | .unit, w, h => by
    have : w = .tup [] := by simpa [wlk] using h
    subst this; simp [NestedKey.depth, NestedKey.depthAll]
  | .both a b, w, h => by
    rw [wlk, List.mem_flatMap] at h
    obtain ⟨x, hx, h⟩ := h
    obtain ⟨y, hy, rfl⟩ := List.mem_map.mp h
    have := wlk_depth hx; have := wlk_depth hy
    simp [NestedKey.depth, NestedKey.depthAll, Kd.dep]; omega
  | .frm a b, w, h => by
    rw [wlk] at h
    obtain ⟨r, hr, rfl⟩ := List.mem_map.mp h
    have ⟨_, m⟩ := LLk_mem.mp hr
    have key : ∀ l : List NestedKey, (∀ d ∈ l, d.depth ≤ b.dep + 1) → NestedKey.depthAll l ≤ b.dep + 1 := by
      intro l
      induction l with
      | nil => intro _; simp [NestedKey.depthAll]
      | cons d l ih =>
        intro h
        have h1 := h d List.mem_cons_self
        have h2 := ih fun e he => h e (List.mem_cons_of_mem _ he)
        simp only [NestedKey.depthAll]; omega
    have := key r fun d hd => wlk_depth (m d hd)
    simp [NestedKey.depth, Kd.dep]; omega
/-- tuples alone, or numbers alone -/
theorem wlk_hom {z : Nat → Nat} : ∀ k : Kd, (∀ w ∈ wlk z k, isTupK w = true) ∨ (∀ w ∈ wlk z k, isNumK w = true)
  | .base i => .inr fun w h => by obtain ⟨j, _, rfl⟩ := List.mem_map.mp h; rfl
  | .unit => .inl fun w h => by have : w = .tup [] := by simpa [wlk] using h
                                subst this; rfl
  | .both a b => .inl fun w h => by
    rw [wlk, List.mem_flatMap] at h
    obtain ⟨x, hx, h⟩ := h
    obtain ⟨y, hy, rfl⟩ := List.mem_map.mp h
    rfl
  | .frm a b => .inl fun w h => by
    rw [wlk] at h
    obtain ⟨r, hr, rfl⟩ := List.mem_map.mp h
    rfl
theorem wlk_len {z : Nat → Nat} (hz : ∀ i, 1 ≤ z i ∧ z i ≤ 999) (k : Kd) (h : nm z k ≤ 5000) : (wlk z k).length = nm z k := by
  have := wl_len hz k h
  rw [← wlk_map, List.length_map] at this
  exact this
end Kz
namespace Kz
open PySem PySem.Spec PyProof.Rows L2 Kw
mutual
inductive Rv where
  | num (i : Int) | unit | pair (a b : Rv) | made (t : Tm) (env : Rs) | told (A B : Kd) (ws : List NestedKey)
inductive Rs where
  | nil | snoc (r : Rs) (v : Rv)
end
mutual
def Rv.d (R : D) : Rv → D
  | .num i => .int i
  | .unit => .tup []
  | .pair a b => .tup [a.d R, b.d R]
  | .made t env => .ins "Made" ["reckoner", "body", "things"] [R, t.d, .lst (env.ds R)]
  | .told A B ws => .ins "Told" ["reckoner", "kind", "worth"] [R, (Kd.frm A B).d, .tup (ws.map kD)]
def Rs.ds (R : D) : Rs → List D
  | .nil => []
  | .snoc r v => r.ds R ++ [v.d R]
end
def Rs.len : Rs → Nat
  | .nil => 0
  | .snoc r _ => r.len + 1
def Rs.at_ : Rs → Nat → Option Rv
  | .nil, _ => none
  | .snoc r v, k => if k = r.len then some v else r.at_ k
theorem Rs.ds_len (R : D) : ∀ e : Rs, (e.ds R).length = e.len
  | .nil => rfl
  | .snoc r v => by simp [Rs.ds, Rs.len, Rs.ds_len R r]
theorem Rs.at_lt : ∀ {e : Rs} {k : Nat} {v : Rv}, e.at_ k = some v → k < e.len
  | .nil, _, _, h => by simp [Rs.at_] at h
  | .snoc r u, k, v, h => by
    simp only [Rs.at_] at h
    split at h
    · rename_i e; subst e; simp [Rs.len]
    · have := Rs.at_lt h; simp only [Rs.len]; omega
theorem Rs.ds_at (R : D) : ∀ {e : Rs} {k : Nat} {v : Rv}, e.at_ k = some v → (e.ds R)[k]? = some (v.d R)
  | .nil, _, _, h => by simp [Rs.at_] at h
  | .snoc r u, k, v, h => by
    simp only [Rs.at_] at h
    simp only [Rs.ds]
    split at h
    · rename_i e; subst e; cases h
      rw [List.getElem?_append_right (by rw [Rs.ds_len]; exact Nat.le_refl _), Rs.ds_len, Nat.sub_self]; rfl
    · have hl := Rs.at_lt h
      rw [List.getElem?_append_left (by rw [Rs.ds_len]; exact hl)]
      exact Rs.ds_at R h
def seqO {α : Type} : List (Option α) → Option (List α)
  | [] => some []
  | o :: r => o.bind fun a => (seqO r).bind fun l => some (a :: l)
/-- a worth as it is reckoned with -/
def hld : Kd → NestedKey → Option Rv
  | .base _, .num i => some (.num i)
  | .unit, .tup [] => some .unit
  | .both A B, .tup [x, y] => (hld A x).bind fun a => (hld B y).bind fun b => some (.pair a b)
  | .frm A B, .tup ws => some (.told A B ws)
  | _, _ => none
mutual
/-- U: the kinds whose worths may be listed -/
def wrk (z : Nat → Nat) (U : List Kd) : Nat → Tm → Rs → Option Rv
  | 0, _, _ => none
  | f + 1, t, env => match t with
    | .giv k => env.at_ k
    | .unit => some .unit
    | .mk _ b => some (.made b env)
    | .app a b => (wrk z U f a env).bind fun u => (wrk z U f b env).bind fun x => hwn z U f u x
    | .both a b => (wrk z U f a env).bind fun u => (wrk z U f b env).bind fun x => some (.pair u x)
    | .fst a => (wrk z U f a env).bind fun u => match u with
      | .pair x _ => some x
      | _ => none
    | .snd a => (wrk z U f a env).bind fun u => match u with
      | .pair _ y => some y
      | _ => none
def hwn (z : Nat → Nat) (U : List Kd) : Nat → Rv → Rv → Option Rv
  | 0, _, _ => none
  | f + 1, u, x => match u with
    | .made t env => if env.len < 1000 then wrk z U f t (.snoc env x) else none
    | .told A B ws => if A ∈ U ∧ B.dep ≤ 20 then (tlv z U f A x).bind fun w => ((wlk z A).idxOf? w).bind fun j => (ws[j]?).bind (hld B) else none
    | _ => none
def tlv (z : Nat → Nat) (U : List Kd) : Nat → Kd → Rv → Option NestedKey
  | 0, _, _ => none
  | f + 1, K, v => match K with
    | .base _ => match v with
      | .num i => some (.num i)
      | _ => none
    | .unit => match v with
      | .unit => some (.tup [])
      | _ => none
    | .both A B => match v with
      | .pair a b => (tlv z U f A a).bind fun x => (tlv z U f B b).bind fun y => some (.tup [x, y])
      | _ => none
    | .frm A B => if A ∈ U then (seqO ((wlk z A).map fun w => (hld A w).bind fun x => hwn z U f v x)).bind fun vs => (seqO (vs.map fun u => tlv z U f B u)).bind fun ws => some (.tup ws) else none
end
def rck (x : D) (a b : Nat) : D := .ins "Reckoner" ["sizes", "lists", "spots"] [x, .loc a, .loc b]
structure GoodU (z : Nat → Nat) (U : List Kd) : Prop where
  len : U.length ≤ 10000
  ok : ∀ A ∈ U, tk z A ≤ 5000 ∧ nm z A ≤ 5000 ∧ A.dep ≤ 7 ∧ A.sz ≤ 2000000
def nums (n : Nat) : List D := (List.range n).map fun (j : Nat) => D.int (j : Int)
/-- the Reckoner's cells: the kinds Ks are listed -/
structure Rk (z : Nat → Nat) (U : List Kd) (x : D) (a b : Nat) (Ks : List Kd) (S : Store) : Prop where
  sz : ∃ ns, okSz ns ∧ z = sF ns ∧ (x = .lst (ns.map .int) ∨ ∃ v, x = .loc v ∧ S[v]? = some (.lst (ns.map .int)))
  la : S[a]? = some (.dct (Ks.map kk) (Ks.map fun K => .lst (wl z K)))
  lb : ∃ cs : List Nat, S[b]? = some (.dct (Ks.map kk) (cs.map .loc)) ∧ cs.length = Ks.length ∧ ∀ (i : Nat) K c, Ks[i]? = some K → cs[i]? = some c → c ≠ a ∧ c ≠ b ∧ S[c]? = some (.dct (wlk z K) (nums (wlk z K).length))
  nd : Ks.Nodup
  sub : ∀ K ∈ Ks, K ∈ U
  ab : a ≠ b
/-- only the Reckoner's own cells were changed -/
structure Gx (a b : Nat) (S S' : Store) : Prop where
  le : S.length ≤ S'.length
  at_ : ∀ i, i < S.length → i ≠ a → i ≠ b → S'[i]? = S[i]?
theorem Gx.refl {a b : Nat} {S : Store} : Gx a b S S := ⟨Nat.le_refl _, fun _ _ _ _ => rfl⟩
theorem Gx.trans {a b : Nat} {S S1 S2 : Store} (h : Gx a b S S1) (k : Gx a b S1 S2) : Gx a b S S2 :=
  ⟨Nat.le_trans h.le k.le, fun i hi ha hb => (k.at_ i (Nat.lt_of_lt_of_le hi h.le) ha hb).trans (h.at_ i hi ha hb)⟩
theorem lt_at {S : Store} {i : Nat} {c : Cell} (h : S[i]? = some c) : i < S.length := by
  rcases Nat.lt_or_ge i S.length with z | z
  · exact z
  · rw [List.getElem?_eq_none z] at h; cases h
theorem dAt_map {f : Kd → D} {A : Kd} : ∀ {Ks : List Kd}, A ∈ Ks → dAt (Ks.map kk) (Ks.map f) (kk A) = some (f A)
  | [], h => nomatch h
  | K :: Ks, h => by
    rw [List.map_cons, List.map_cons, dAt]
    by_cases e : kk K = kk A
    · rw [if_pos e, kk_inj e]
    · rw [if_neg e]
      rcases List.mem_cons.mp h with rfl | h
      · exact absurd rfl e
      · exact dAt_map h
theorem dAt_at {A : Kd} : ∀ {Ks : List Kd} {ds : List D} {i : Nat} {d : D}, Ks.Nodup → Ks[i]? = some A → ds[i]? = some d → dAt (Ks.map kk) ds (kk A) = some d
  | [], _, i, _, _, h, _ => by simp at h
  | K :: Ks, [], i, _, _, _, h => by simp at h
  | K :: Ks, e :: ds, 0, d, hn, h1, h2 => by
    simp at h1 h2
    subst h1 h2
    rw [List.map_cons, dAt, if_pos rfl]
  | K :: Ks, e :: ds, i + 1, d, hn, h1, h2 => by
    rw [List.nodup_cons] at hn
    simp at h1 h2
    rw [List.map_cons, dAt, if_neg (fun (z : kk K = kk A) => hn.1 (by rw [kk_inj z]; exact List.mem_of_getElem? h1))]
    exact dAt_at hn.2 h1 h2
theorem kk_mem {A : Kd} {Ks : List Kd} : kk A ∈ Ks.map kk ↔ A ∈ Ks := by
  constructor
  · intro h
    obtain ⟨K, hK, e⟩ := List.mem_map.mp h
    exact kk_inj e ▸ hK
  · exact List.mem_map_of_mem
theorem kks_tup (Ks : List Kd) : (Ks.map kk).all isTupK = true := by
  rw [List.all_eq_true]
  intro k hk
  obtain ⟨K, _, rfl⟩ := List.mem_map.mp hk
  exact kk_tup K
/-- the places of worths -/
theorem dAt_nums : ∀ {ws : List NestedKey} {w : NestedKey} {j : Nat} {s : Nat}, ws.idxOf? w = some j → dAt ws ((List.range' s ws.length).map fun (i : Nat) => D.int (i : Int)) w = some (.int ((s + j : Nat) : Int))
  | [], _, _, _, h => by simp at h
  | k :: ws, w, j, s, h => by
    rw [List.idxOf?_cons] at h
    rw [List.length_cons, List.range'_succ, List.map_cons, dAt]
    by_cases e : k = w
    · subst e
      simp at h
      subst h
      rw [if_pos rfl]; rfl
    · rw [if_neg e]
      have eb : (k == w) = false := by simpa using e
      rw [eb] at h
      simp at h
      obtain ⟨j', h1, rfl⟩ := h
      have := dAt_nums (s := s + 1) h1
      rw [this]
      congr 2
      omega
theorem nums_range' (n : Nat) : nums n = (List.range' 0 n).map fun (i : Nat) => D.int (i : Int) := by
  rw [nums, List.range_eq_range']
mutual
theorem und_rv {R : D} {n : Nat} (hR : R.under n = true) : ∀ v : Rv, (v.d R).under n = true
  | .num i => by simp [Rv.d, D.under]
  | .unit => by simp [Rv.d, D.under, underL]
  | .pair a b => by simp [Rv.d, D.under, underL, und_rv hR a, und_rv hR b]
  | .made t env => by
    have ht : t.d.under n = true := by
      have : ∀ t : Tm, t.d.under n = true := by
        intro t
        induction t with
        | giv k => simp [Tm.d, D.under, underL]
        | unit => simp [Tm.d, D.under, underL]
        | mk A b ih => simp [Tm.d, D.under, underL, ih, keyOf_under _ (keyOf_kd A)]
        | app a b ia ib => simp [Tm.d, D.under, underL, ia, ib]
        | both a b ia ib => simp [Tm.d, D.under, underL, ia, ib]
        | fst a ia => simp [Tm.d, D.under, underL, ia]
        | snd a ia => simp [Tm.d, D.under, underL, ia]
      exact this t
    simp [Rv.d, D.under, underL, ht, und_rs hR env, hR]
  | .told A B ws => by simp [Rv.d, D.under, underL, hR, keyOf_under _ (keyOf_kd (.frm A B)), undL_kD]
theorem und_rs {R : D} {n : Nat} (hR : R.under n = true) : ∀ e : Rs, underL n (e.ds R) = true
  | .nil => rfl
  | .snoc r v => by
    have app : ∀ ds es : List D, underL n (ds ++ es) = (underL n ds && underL n es) := by
      intro ds es
      induction ds with
      | nil => simp [underL]
      | cons d ds ih => simp [underL, ih, Bool.and_assoc]
    simp [Rs.ds, app, underL, und_rs hR r, und_rv hR v]
end
end Kz
namespace Kz
open PySem PySem.Spec PyProof.Rows L2 Kw
def meR (o : Option FF) (fa : FA) (x : D) (ρ : FEnv) (S : Store) : RE D := match o with
  | some F => (fa ρ S).bnd fun as S2 => F (x :: as) S2
  | none => .no
@[simp] theorem meR_some {F : FF} {fa : FA} {x : D} {ρ : FEnv} {S : Store} : meR (some F) fa x ρ S = (fa ρ S).bnd fun as S2 => F (x :: as) S2 := rfl
@[simp] theorem fMe_ap {L : List (Str × FF)} {m : Str} {fo : FE} {fa : FA} {ρ : FEnv} {S : Store} : fMe L m fo fa ρ S = (fo ρ S).bnd fun x S1 => meR (disR L m x) fa x ρ S1 := rfl
@[simp] theorem fMk_ap {c : Str} {F : FF} {fs : FA} {ρ : FEnv} {S : Store} : fMk c F fs ρ S = (fs ρ S).bnd (mkR c F) := rfl
@[simp] theorem fMk2_ap {c : Str} {F : FF} {fs : FA} {ρ : FEnv} {S : Store} : fMk2 c F fs ρ S = (fs ρ S).bnd (mkR2 c F) := rfl
theorem gFld_at {cs : List Str} {f c : Str} {fs : List Str} {ds : List D} {d : D} {S : Store} (hc : c ∈ cs) (h : lookF f fs ds = some d) : gFld cs f (.ins c fs ds) S = .ok d S := by
  unfold gFld obOf
  simp only
  rw [if_pos hc, h]
theorem cut_here {S : Store} {c : Str} {fs : List Str} {ds : List D} (h : underL S.length ds = true) : cutR S (.ok (.ins c fs ds) (S ++ [.dead])) = .ok (.ins c fs ds) S := cut_ok _ (by simpa [D.under] using h)
section
variable {S : Store} {n : Nat}
theorem mk_made {R t e : D} (h : 1 ≤ n) (u : underL S.length [R, t, e] = true) : mkR "Made" (ev n .f_Made___init__) [R, t, e] S = .ok (.ins "Made" ["reckoner", "body", "things"] [R, t, e]) S := by
  obtain ⟨m, rfl, h'⟩ := up (d := 0) (by omega : 0 + 1 ≤ n)
  have e : ev (m + 1) .f_Made___init__ [.loc S.length, R, t, e] (S ++ [.ob "Made" [] []]) = .ok .non (S ++ [.ob "Made" ["reckoner", "body", "things"] [R, t, e]]) := by
    rw [ev, b_Made___init__]
    simp [sFl]
  unfold mkR
  rw [e]
  simp
  exact cut_here u
theorem mk_told {R t e : D} (h : 1 ≤ n) (u : underL S.length [R, t, e] = true) : mkR "Told" (ev n .f_Told___init__) [R, t, e] S = .ok (.ins "Told" ["reckoner", "kind", "worth"] [R, t, e]) S := by
  obtain ⟨m, rfl, h'⟩ := up (d := 0) (by omega : 0 + 1 ≤ n)
  have e : ev (m + 1) .f_Told___init__ [.loc S.length, R, t, e] (S ++ [.ob "Told" [] []]) = .ok .non (S ++ [.ob "Told" ["reckoner", "kind", "worth"] [R, t, e]]) := by
    rw [ev, b_Told___init__]
    simp [sFl]
  unfold mkR
  rw [e]
  simp
  exact cut_here u
/-- a new Reckoner -/
theorem mk_rck {x : D} (h : 1 ≤ n) : mkR2 "Reckoner" (ev n .f_Reckoner___init__) [x] S = .ok (rck x (S.length + 1) (S.length + 2)) (S ++ [.dead, .dct [] [], .dct [] []]) := by
  obtain ⟨m, rfl, h'⟩ := up (d := 0) (by omega : 0 + 1 ≤ n)
  have e : ev (m + 1) .f_Reckoner___init__ [.loc S.length, x] (S ++ [.ob "Reckoner" [] []]) = .ok .non (S ++ [.ob "Reckoner" ["sizes", "lists", "spots"] [x, .loc (S.length + 1), .loc (S.length + 2)], .dct [] [], .dct [] []]) := by
    rw [ev, b_Reckoner___init__]
    simp [sFl, fNewD]
  unfold mkR2
  rw [e]
  simp [rck]
end
theorem disp_rck {m : Str} {F : FF} {x : D} {a b : Nat} (h : m ∉ (["sizes", "lists", "spots"] : List Str)) : disR [("Reckoner", F)] m (rck x a b) = some F := by
  unfold rck disR
  simp only
  rw [if_neg h]
  simp [List.lookup]
section
variable {z : Nat → Nat} {U : List Kd} {x : D} {a b : Nat} {Ks : List Kd} {S : Store}
theorem Rk.szs (h : Rk z U x a b Ks S) : Szs z x S := by
  obtain ⟨ns, ok, rfl, rfl | ⟨v, rfl, at_⟩⟩ := h.sz
  · exact ints_list ok S
  · exact szs_cell ok at_
theorem Rk.sizes (h : Rk z U x a b Ks S) {n : Nat} (hn : 2 ≤ n) : ev n .f_sure_sizes [x] S = .ok .non S := by
  obtain ⟨ns, ok, rfl, rfl | ⟨v, rfl, at_⟩⟩ := h.sz
  · exact sizes_list ok hn
  · exact sizes_sure ok at_ hn
theorem Rk.und (h : Rk z U x a b Ks S) : (rck x a b).under S.length = true := by
  have ha := lt_at h.la
  obtain ⟨cs, lb, _⟩ := h.lb
  have hb := lt_at lb
  have hx : x.under S.length = true := by
    obtain ⟨ns, ok, rfl, rfl | ⟨v, rfl, at_⟩⟩ := h.sz
    · have : ∀ l : List Int, underL S.length (l.map .int) = true := by
        intro l
        induction l with
        | nil => rfl
        | cons a l ih => simp [underL, D.under, ih]
      simp [D.under, this]
    · have := lt_at at_
      simp [D.under, this]
  simp [rck, D.under, underL, hx, ha, hb]
theorem Rk.len (h : Rk z U x a b Ks S) (g : GoodU z U) : Ks.length ≤ 10000 := by
  have := h.nd.length_le_of_subset h.sub
  exact Nat.le_trans this g.len
theorem rworths_ok {n : Nat} {A : Kd} (h : Rk z U x a b Ks S) (g : GoodU z U) (hA : A ∈ U) (hn : A.dep + 6 ≤ n) : ev n .f_worths [A.d, x] S = .ok (.lst (wl z A)) S := by
  obtain ⟨ht, h5, hd, hk⟩ := g.ok A hA
  obtain ⟨m, rfl, h'⟩ := up (d := A.dep + 5) hn
  have hx := h.szs
  have hq : ¬ (5000 : Int) < ((nm z A : Nat) : Int) := by omega
  rw [ev, b_worths]
  simp [sure_kind_kd (n := m) (S := S) (k := A) (by omega) hk, h.sizes (n := m) (by omega), taken_sure hx A (n := m) (by omega) ht, number_ok hx A (n := m) (by omega), hq, all_worths_ok hx A (n := m) (by omega) ht h5]
end
/-- the dict of places -/
theorem dct_enum {ρ0 ρ1 : Option D} {S : Store} : ∀ (ws : List NestedKey) (s : Nat) (ks : List NestedKey) (ds : List D), hom (ks ++ ws) = true → (ks ++ ws).Nodup → (∀ w ∈ ws, w.depth ≤ 8) → (ks ++ ws).length ≤ 10000 →
    dctL (gTu 2 (gsCons (gN 2) (gsCons (gN 3) gsNil))) (fVar 3) (fVar 2) none [ρ0, ρ1, none, none] (enumD s (ws.map kD)) ks ds S = .ok (ks ++ ws, ds ++ (List.range' s ws.length).map fun (i : Nat) => D.int (i : Int)) S
  | [], s, ks, ds, _, _, _, _ => by
    rw [List.map_nil, enumD, dctL, gchk, if_pos (by unfold gd; trivial)]
    simp
  | w :: ws, s, ks, ds, ho, hn, hd, hl => by
    have h8 : sizeLine = 16777216 := rfl
    have ho' : hom (w :: ks) = true := by
      unfold hom at ho ⊢
      rw [List.all_append, List.all_append, List.all_cons, List.all_cons] at ho
      rw [List.all_cons, List.all_cons]
      simp only [Bool.or_eq_true, Bool.and_eq_true] at ho ⊢
      rcases ho with ho | ho
      · exact .inl ⟨ho.2.1, ho.1⟩
      · exact .inr ⟨ho.2.1, ho.1⟩
    have hw : w ∉ ks := fun q => by
      rw [List.nodup_append] at hn
      exact hn.2.2 w q w List.mem_cons_self rfl
    have hl' : ks.length < sizeLine := by
      rw [List.length_append, List.length_cons] at hl
      omega
    have e0 : ks ++ w :: ws = (ks ++ [w]) ++ ws := by simp
    have ih := dct_enum (ρ0 := ρ0) (ρ1 := ρ1) (S := S) ws (s + 1) (ks ++ [w]) (ds ++ [.int (s : Int)]) (by rw [← e0]; exact ho) (by rw [← e0]; exact hn) (fun v hv => hd v (List.mem_cons_of_mem _ hv)) (by rw [← e0]; exact hl)
    rw [List.map_cons, enumD, dctL, gchk, if_pos (by unfold gd; trivial)]
    have g0 : gTu 2 (gsCons (gN 2) (gsCons (gN 3) gsNil)) (.tup [.int (s : Int), kD w]) [ρ0, ρ1, none, none] S = some ([ρ0, ρ1, some (.int (s : Int)), some (kD w)], S) := rfl
    have f3 : fVar 3 [ρ0, ρ1, some (.int (s : Int)), some (kD w)] S = .ok (kD w) S := rfl
    have f2 : fVar 2 [ρ0, ρ1, some (.int (s : Int)), some (kD w)] S = .ok (.int (s : Int)) S := rfl
    rw [g0]
    simp only [f3, f2, keyOf_kD]
    rw [if_pos ⟨hd w List.mem_cons_self, ho', hw, hl'⟩]
    rw [ih]
    rw [List.length_cons, List.range'_succ]
    simp
end Kz
namespace Kz
open PySem PySem.Spec PyProof.Rows L2 Kw
section
variable {z : Nat → Nat} {U : List Kd} {x : D} {a b : Nat} {Ks : List Kd} {S : Store} {A : Kd}
theorem not_listed {ds : List D} {c : Nat} (h : S[c]? = some (.dct (Ks.map kk) ds)) (hd : A.dep ≤ 7) : gDnot A.d (.loc c) S = .ok (.bl (!decide (A ∈ Ks))) S := by
  unfold gDnot
  simp only [h, keyOf_kd]
  rw [if_pos ⟨kk_tup A, kks_tup Ks, by rw [kk_depth]; omega⟩]
  by_cases hm : A ∈ Ks
  · rw [decide_eq_true hm, decide_eq_true (kk_mem.mpr hm)]
  · rw [decide_eq_false hm, decide_eq_false (fun q => hm (kk_mem.mp q))]
theorem get_at {ds : List D} {c : Nat} {d : D} (h : S[c]? = some (.dct (Ks.map kk) ds)) (hd : A.dep ≤ 7) (e : dAt (Ks.map kk) ds (kk A) = some d) : gDget (.loc c) A.d S = .ok d S := by
  unfold gDget
  simp only [h, keyOf_kd]
  have ho : hom (kk A :: Ks.map kk) = true := by
    unfold hom
    rw [List.all_cons, kk_tup, kks_tup]; rfl
  rw [if_pos ⟨ho, by rw [kk_depth]; omega⟩, e]
theorem put_at {ds : List D} {c : Nat} {d : D} {fo fi fv : FE} {ρ : FEnv} {S1 : Store} (hv : fv ρ S = .ok d S1) (ho : fo ρ S1 = .ok (.loc c) S1) (hi : fi ρ S1 = .ok A.d S1) (h : S1[c]? = some (.dct (Ks.map kk) ds)) (hd : A.dep ≤ 7) (hn : A ∉ Ks) (hl : Ks.length ≤ 10000) :
    sDput fo fi fv ρ S = .nx ρ (S1.set c (.dct ((Ks ++ [A]).map kk) (ds ++ [d]))) := by
  have h8 : sizeLine = 16777216 := rfl
  unfold sDput
  rw [hv, toS_ok, ho, toS_ok, hi, toS_ok]
  simp only [h, keyOf_kd]
  rw [if_pos ⟨kk_tup A, kks_tup Ks, by rw [kk_depth]; omega, fun q => hn (kk_mem.mp q), by rw [List.length_map]; omega⟩, List.map_append]
  rfl
theorem get_place {c j : Nat} {w : NestedKey} (h : S[c]? = some (.dct (wlk z A) (nums (wlk z A).length))) (hd : A.dep ≤ 7) (e : (wlk z A).idxOf? w = some j) : gDget (.loc c) (kD w) S = .ok (.int (j : Int)) S := by
  have hw : w ∈ wlk z A := by
    apply Classical.byContradiction
    intro hn
    have : (wlk z A).idxOf? w = none := by simpa using hn
    rw [this] at e; cases e
  unfold gDget
  simp only [h, keyOf_kD]
  have ho : hom (w :: wlk z A) = true := by
    unfold hom
    rw [Bool.or_eq_true, List.all_eq_true, List.all_eq_true]
    have key : ∀ {p : NestedKey → Bool}, (∀ v ∈ wlk z A, p v = true) → ∀ v ∈ w :: wlk z A, p v = true := fun hp v hv => by
      rcases List.mem_cons.mp hv with rfl | hv
      · exact hp _ hw
      · exact hp v hv
    rcases wlk_hom (z := z) A with q | q
    · exact .inl (key q)
    · exact .inr (key q)
  rw [if_pos ⟨ho, by have := wlk_depth hw; omega⟩, nums_range', dAt_nums e, Nat.zero_add]
theorem fld_lists {T : Store} : gFld ["Reckoner"] "lists" (rck x a b) T = .ok (.loc a) T := gFld_at (by simp) (by simp [lookF])
theorem fld_spots {T : Store} : gFld ["Reckoner"] "spots" (rck x a b) T = .ok (.loc b) T := gFld_at (by simp) (by simp [lookF])
theorem fld_sizes {T : Store} : gFld ["Reckoner"] "sizes" (rck x a b) T = .ok x T := gFld_at (by simp) (by simp [lookF])
theorem all_of_ok (g : GoodU z U) (h : Rk z U x a b Ks S) (hA : A ∈ U) {n : Nat} (hn : 20 ≤ n) : ∃ Ks' S', ev n .f_Reckoner_all_of [rck x a b, A.d] S = .ok (.lst (wl z A)) S' ∧ Rk z U x a b Ks' S' ∧ Gx a b S S' ∧ A ∈ Ks' := by
  have h8 : sizeLine = 16777216 := rfl
  obtain ⟨m, rfl, h'⟩ := up (d := 19) hn
  obtain ⟨ht, h5, hd, hk⟩ := g.ok A hA
  have hl := h.len g
  have en := not_listed h.la hd
  by_cases hm : A ∈ Ks
  · rw [decide_eq_true hm] at en
    have eg := get_at h.la hd (dAt_map (f := fun K => .lst (wl z K)) hm)
    refine ⟨Ks, S, ?_, h, Gx.refl, hm⟩
    have fl := fun T => fld_lists (x := x) (a := a) (b := b) (T := T)
    rw [ev, b_Reckoner_all_of]
    generalize rck x a b = R at *
    generalize A.d = X at *
    generalize wl z A = L at *
    simp [fl, en, eg]
  · rw [decide_eq_false hm] at en
    have ew := rworths_ok h g hA (n := m) (by omega)
    obtain ⟨cs, lb, lc, hc⟩ := h.lb
    have ha := lt_at h.la
    have hb := lt_at lb
    -- the list is kept
    let S1 : Store := S.set a (.dct ((Ks ++ [A]).map kk) ((Ks ++ [A]).map fun K => .lst (wl z K)))
    have e1 : sDput (f1 (gFld ["Reckoner"] "lists") (fVar 0)) (fVar 1) (fArg (ev m .f_worths) (fCons (fVar 1) (fCons (f1 (gFld ["Reckoner"] "sizes") (fVar 0)) fNil))) [some (rck x a b), some A.d, none, none] S = .nx [some (rck x a b), some A.d, none, none] S1 := by
      have fs := fld_sizes (x := x) (a := a) (b := b) (T := S)
      have fl := fld_lists (x := x) (a := a) (b := b) (T := S)
      have hfv : fArg (ev m .f_worths) (fCons (fVar 1) (fCons (f1 (gFld ["Reckoner"] "sizes") (fVar 0)) fNil)) [some (rck x a b), some A.d, none, none] S = .ok (.lst (wl z A)) S := by
        generalize rck x a b = R at *
        generalize A.d = X at *
        generalize wl z A = L at *
        simp [fs, ew]
      have hfo : f1 (gFld ["Reckoner"] "lists") (fVar 0) [some (rck x a b), some A.d, none, none] S = .ok (.loc a) S := by
        generalize rck x a b = R at *
        simp [fl]
      have := put_at (S := S) (S1 := S) (c := a) (d := .lst (wl z A)) (fo := f1 (gFld ["Reckoner"] "lists") (fVar 0)) (fi := fVar 1) (ρ := [some (rck x a b), some A.d, none, none]) hfv hfo rfl h.la hd hm hl
      rw [this]
      simp only [S1, List.map_append, List.map_cons, List.map_nil]
    have l1 : S1.length = S.length := by simp [S1]
    have a1 : S1[a]? = some (.dct ((Ks ++ [A]).map kk) ((Ks ++ [A]).map fun K => .lst (wl z K))) := by simp [S1, ha]
    have o1 : ∀ i, i ≠ a → S1[i]? = S[i]? := fun i hi => List.getElem?_set_ne (Ne.symm hi)
    have eg : gDget (.loc a) A.d S1 = .ok (.lst (wl z A)) S1 := get_at a1 hd (dAt_map (f := fun K => .lst (wl z K)) (by simp))
    -- the places
    have nd := wlk_nodup z A
    have wlen := wlk_len h.szs.ok A h5
    have dd := dct_enum (ρ0 := some (rck x a b)) (ρ1 := some A.d) (S := S1) (wlk z A) 0 [] [] (by
      unfold hom
      rw [Bool.or_eq_true, List.all_eq_true, List.all_eq_true]
      simpa using wlk_hom (z := z) A) (by simpa using nd) (fun w hw => by have := wlk_depth hw; omega) (by simp; omega)
    rw [wlk_map] at dd
    let S2 : Store := S1 ++ [.dct (wlk z A) (nums (wlk z A).length)]
    have e2 : fDc (fiE (fCons (f2 gDget (f1 (gFld ["Reckoner"] "lists") (fVar 0)) (fVar 1)) fNil)) (gTu 2 (gsCons (gN 2) (gsCons (gN 3) gsNil))) (fVar 3) (fVar 2) [2, 3] [some (rck x a b), some A.d, none, none] S1 = .ok (.loc S.length) S2 := by
      have fl := fld_lists (x := x) (a := a) (b := b) (T := S1)
      have it : fiE (fCons (f2 gDget (f1 (gFld ["Reckoner"] "lists") (fVar 0)) (fVar 1)) fNil) [some (rck x a b), some A.d, none, none] S1 = .ok (enumD 0 (wl z A), none) S1 := by
        have ea : fCons (f2 gDget (f1 (gFld ["Reckoner"] "lists") (fVar 0)) (fVar 1)) fNil [some (rck x a b), some A.d, none, none] S1 = .ok [.lst (wl z A)] S1 := by
          generalize rck x a b = R at *
          generalize A.d = X at *
          generalize wl z A = L at *
          simp [fl, eg]
        unfold fiE
        rw [ea]; rfl
      unfold fDc
      rw [it, bnd_ok]
      show dctFin (dctL _ _ _ none [some (rck x a b), some A.d, none, none] (enumD 0 (wl z A)) [] [] S1) = _
      rw [dd, dctFin, l1]
      simp only [S2, nums_range', List.nil_append]
    have l2 : S2.length = S.length + 1 := by simp [S2, l1]
    have o2 : ∀ i, i < S.length → S2[i]? = S1[i]? := fun i hi => List.getElem?_append_left (by rw [l1]; exact hi)
    have n2 : S2[S.length]? = some (.dct (wlk z A) (nums (wlk z A).length)) := by
      show (S1 ++ _)[S.length]? = _
      rw [List.getElem?_append_right (by rw [l1]; exact Nat.le_refl _), l1, Nat.sub_self]; rfl
    have b2 : S2[b]? = some (.dct (Ks.map kk) (cs.map .loc)) := by rw [o2 b hb, o1 b (Ne.symm h.ab)]; exact lb
    let S3 : Store := S2.set b (.dct ((Ks ++ [A]).map kk) ((cs ++ [S.length]).map .loc))
    have e3 : sDput (f1 (gFld ["Reckoner"] "spots") (fVar 0)) (fVar 1) (fDc (fiE (fCons (f2 gDget (f1 (gFld ["Reckoner"] "lists") (fVar 0)) (fVar 1)) fNil)) (gTu 2 (gsCons (gN 2) (gsCons (gN 3) gsNil))) (fVar 3) (fVar 2) [2, 3]) [some (rck x a b), some A.d, none, none] S1 = .nx [some (rck x a b), some A.d, none, none] S3 := by
      have fl := fld_spots (x := x) (a := a) (b := b) (T := S2)
      have hfo : f1 (gFld ["Reckoner"] "spots") (fVar 0) [some (rck x a b), some A.d, none, none] S2 = .ok (.loc b) S2 := by
        generalize rck x a b = R at *
        simp [fl]
      have := put_at (S := S1) (S1 := S2) (c := b) (d := .loc S.length) (fo := f1 (gFld ["Reckoner"] "spots") (fVar 0)) (fi := fVar 1) (ρ := [some (rck x a b), some A.d, none, none]) e2 hfo rfl b2 hd hm hl
      rw [this]
      simp only [S3, List.map_append, List.map_cons, List.map_nil]
    have l3 : S3.length = S.length + 1 := by simp [S3, l2]
    have o3 : ∀ i, i ≠ b → S3[i]? = S2[i]? := fun i hi => List.getElem?_set_ne (Ne.symm hi)
    have a3 : S3[a]? = some (.dct ((Ks ++ [A]).map kk) ((Ks ++ [A]).map fun K => .lst (wl z K))) := by rw [o3 a h.ab, o2 a ha]; exact a1
    have b3 : S3[b]? = some (.dct ((Ks ++ [A]).map kk) ((cs ++ [S.length]).map .loc)) := by
      show (S2.set b _)[b]? = _
      rw [List.getElem?_set_self (by rw [l2]; omega)]
    have eg3 : gDget (.loc a) A.d S3 = .ok (.lst (wl z A)) S3 := get_at a3 hd (dAt_map (f := fun K => .lst (wl z K)) (by simp))
    have keep : ∀ i, i < S.length → i ≠ a → i ≠ b → S3[i]? = S[i]? := fun i hi h1 h2 => by rw [o3 i h2, o2 i hi, o1 i h1]
    refine ⟨Ks ++ [A], S3, ?_, ⟨?_, a3, ⟨cs ++ [S.length], b3, by simp [lc], fun i K c hi hci => ?_⟩, ?_, fun K hK => ?_, h.ab⟩, ⟨by omega, keep⟩, by simp⟩
    · have fl := fun T => fld_lists (x := x) (a := a) (b := b) (T := T)
      rw [ev, b_Reckoner_all_of, fnB_2]
      show RS.fin (sSeq _ _ [some (rck x a b), some A.d, none, none] S) = _
      have ei : sIf (fB (f2 gDnot (fVar 1) (f1 (gFld ["Reckoner"] "lists") (fVar 0)))) (sSeq (sDput (f1 (gFld ["Reckoner"] "lists") (fVar 0)) (fVar 1) (fArg (ev m .f_worths) (fCons (fVar 1) (fCons (f1 (gFld ["Reckoner"] "sizes") (fVar 0)) fNil)))) (sDput (f1 (gFld ["Reckoner"] "spots") (fVar 0)) (fVar 1) (fDc (fiE (fCons (f2 gDget (f1 (gFld ["Reckoner"] "lists") (fVar 0)) (fVar 1)) fNil)) (gTu 2 (gsCons (gN 2) (gsCons (gN 3) gsNil))) (fVar 3) (fVar 2) [2, 3]))) sNil [some (rck x a b), some A.d, none, none] S = .nx [some (rck x a b), some A.d, none, none] S3 := by
        have et : fB (f2 gDnot (fVar 1) (f1 (gFld ["Reckoner"] "lists") (fVar 0))) [some (rck x a b), some A.d, none, none] S = .ok true S := by
          have f0 := fl S
          generalize rck x a b = R at *
          generalize A.d = X at *
          simp [f0, en]
        rw [sIf_ap, et, toS_ok, if_pos rfl, sSeq_ap, e1, sb_nx, e3]
      rw [sSeq_ap, ei, sb_nx]
      have f3 := fl S3
      generalize rck x a b = R at *
      generalize A.d = X at *
      generalize wl z A = L at *
      simp [f3, eg3]
    · obtain ⟨ns, ok, ez, ex⟩ := h.sz
      refine ⟨ns, ok, ez, ?_⟩
      rcases ex with rfl | ⟨v, rfl, at_⟩
      · exact .inl rfl
      · refine .inr ⟨v, rfl, ?_⟩
        rw [keep v (lt_at at_) (fun q => by subst q; rw [h.la] at at_; cases at_) (fun q => by subst q; rw [lb] at at_; cases at_)]
        exact at_
    · by_cases hlt : i < Ks.length
      · rw [List.getElem?_append_left hlt] at hi
        rw [List.getElem?_append_left (by omega)] at hci
        obtain ⟨c1, c2, c3⟩ := hc i K c hi hci
        exact ⟨c1, c2, by rw [keep c (lt_at c3) c1 c2]; exact c3⟩
      · rw [List.getElem?_append_right (by omega)] at hi
        rw [List.getElem?_append_right (by omega), lc] at hci
        cases hj : i - Ks.length with
        | zero =>
          rw [hj] at hi hci
          simp at hi hci
          subst hi hci
          exact ⟨by omega, by omega, by rw [o3 _ (by omega)]; exact n2⟩
        | succ j => rw [hj] at hi; simp at hi
    · rw [List.nodup_append]
      refine ⟨h.nd, by simp, fun K hK K' hK' e => hm ?_⟩
      have : K' = A := by simpa using hK'
      rw [← this, ← e]; exact hK
    · rcases List.mem_append.mp hK with hK | hK
      · exact h.sub K hK
      · have : K = A := by simpa using hK
        exact this ▸ hA
/-- where a listed kind's worths have their places -/
theorem Rk.spot (h : Rk z U x a b Ks S) (g : GoodU z U) (hm : A ∈ Ks) : ∃ c, gDget (.loc b) A.d S = .ok (.loc c) S ∧ S[c]? = some (.dct (wlk z A) (nums (wlk z A).length)) := by
  obtain ⟨cs, lb, lc, hc⟩ := h.lb
  obtain ⟨i, hi⟩ := List.mem_iff_getElem?.mp hm
  have hlt := (List.getElem?_eq_some_iff.mp hi).1
  have hci : cs[i]? = some cs[i] := List.getElem?_eq_getElem (by omega)
  obtain ⟨_, _, c3⟩ := hc i A _ hi hci
  refine ⟨cs[i], get_at lb (g.ok A (h.sub A hm)).2.2.1 (dAt_at h.nd hi (by rw [List.getElem?_map, hci]; rfl)), c3⟩
end
end Kz
namespace Kz
open PySem PySem.Spec PyProof.Rows L2 Kw
section
variable {z : Nat → Nat} {U : List Kd} {x : D} {a b : Nat} {S : Store}
theorem held_ok (hu : (rck x a b).under S.length = true) : ∀ (K : Kd) {w : NestedKey} {v : Rv} {n : Nat}, hld K w = some v → K.dep + 3 ≤ n → ev n .f_Reckoner_held [rck x a b, K.d, kD w] S = .ok (v.d (rck x a b)) S := by
  have h8 : sizeLine = 16777216 := rfl
  have dr := fun F => disp_rck (m := "held") (F := F) (x := x) (a := a) (b := b) (by decide)
  intro K
  induction K with
  | base i =>
    intro w v n h hn
    obtain ⟨m, rfl⟩ : ∃ m, n = m + 2 := ⟨n - 2, by omega⟩
    cases w <;> simp [hld] at h
    subst h
    rw [ev, b_Reckoner_held]
    simp [Kd.d, Rv.d, kD]
  | unit =>
    intro w v n h hn
    obtain ⟨m, rfl⟩ : ∃ m, n = m + 2 := ⟨n - 2, by omega⟩
    cases w with
    | tup ws =>
      cases ws <;> simp [hld] at h
      subst h
      rw [ev, b_Reckoner_held]
      simp [Kd.d, Rv.d, kD, kDs]
    | _ => simp [hld] at h
  | both A B iA iB =>
    intro w v n h hn
    simp only [Kd.dep] at hn
    obtain ⟨m, rfl⟩ : ∃ m, n = m + 2 := ⟨n - 2, by omega⟩
    cases w with
    | tup ws =>
      match ws, h with
      | [p, q], h =>
        simp only [hld, Option.bind_eq_some_iff, Option.some.injEq] at h
        obtain ⟨va, h1, vb, h2, rfl⟩ := h
        have e1 := iA (n := m + 1) h1 (by omega)
        have e2 := iB (n := m + 1) h2 (by omega)
        rw [ev, b_Reckoner_held]
        simp only [Kd.d, Rv.d, kD, kDs]
        generalize rck x a b = R at *
        generalize A.d = XA at *
        generalize B.d = XB at *
        generalize kD p = Y1 at *
        generalize kD q = Y2 at *
        simp [dr, e1, e2, h8]
      | [], h => simp [hld] at h
      | [_], h => simp [hld] at h
      | _ :: _ :: _ :: _, h => simp [hld] at h
    | _ => simp [hld] at h
  | frm A B _ _ =>
    intro w v n h hn
    obtain ⟨m, rfl⟩ : ∃ m, n = m + 2 := ⟨n - 2, by omega⟩
    cases w with
    | tup ws =>
      simp only [hld, Option.some.injEq] at h
      subst h
      have e := mk_told (S := S) (n := m) (R := rck x a b) (t := (Kd.frm A B).d) (e := .tup (ws.map kD)) (by omega) (by simp [underL, hu, keyOf_under _ (keyOf_kd (.frm A B)), D.under, undL_kD])
      rw [ev, b_Reckoner_held]
      simp only [Kd.d, Rv.d, kD, kDs_map] at e ⊢
      generalize rck x a b = R at *
      generalize A.d = XA at *
      generalize B.d = XB at *
      generalize ws.map kD = Y at *
      simp [e]
    | _ => simp [hld] at h
theorem seqO_zip {α β : Type} {F : α → Option β} : ∀ {ws : List α} {vs : List β}, seqO (ws.map F) = some vs → ∃ l : List (α × β), l.map (·.1) = ws ∧ l.map (·.2) = vs ∧ ∀ p ∈ l, F p.1 = some p.2
  | [], vs, h => by
    simp [seqO] at h
    subst h
    exact ⟨[], rfl, rfl, fun p hp => nomatch hp⟩
  | w :: ws, vs, h => by
    rw [List.map_cons, seqO] at h
    simp only [Option.bind_eq_some_iff, Option.some.injEq] at h
    obtain ⟨v, h1, l, h2, rfl⟩ := h
    obtain ⟨q, q1, q2, q3⟩ := seqO_zip h2
    exact ⟨(w, v) :: q, by simp [q1], by simp [q2], fun p hp => by
      rcases List.mem_cons.mp hp with rfl | hp
      · exact h1
      · exact q3 p hp⟩
/-- a comprehension whose calls may change cells -/
theorem compL_thr {i : Nat} {te : FE} {ρ : FEnv} {I : Store → Prop} : ∀ (l : List (D × D)) (acc : List D) (S : Store), I S → acc.length + l.length ≤ 10000 → (∀ p ∈ l, ∀ T, I T → ∃ T', te (ρ.set i (some p.1)) T = .ok p.2 T' ∧ I T') →
    ∃ S', compL (gN i) fYes te none ρ (l.map (·.1)) acc S = .ok (acc ++ l.map (·.2)) S' ∧ I S'
  | [], acc, S, hI, _, _ => ⟨S, by rw [List.map_nil, compL_nil (by unfold gd; trivial)]; simp, hI⟩
  | p :: l, acc, S, hI, hl, h => by
    have h8 : sizeLine = 16777216 := rfl
    rw [List.length_cons] at hl
    obtain ⟨T', e, hT⟩ := h p List.mem_cons_self S hI
    obtain ⟨S', e2, hS⟩ := compL_thr (i := i) (te := te) (ρ := ρ) (I := I) l (acc ++ [p.2]) T' hT (by simp; omega) fun q hq => h q (List.mem_cons_of_mem _ hq)
    refine ⟨S', ?_, hS⟩
    rw [List.map_cons, compL_step (ρ1 := ρ.set i (some p.1)) (S1 := S) (S2 := S) (S3 := T') (y := p.2) (by unfold gd; trivial) rfl rfl e (by omega), e2]
    simp
end
/-- a Told or a Made -/
noncomputable def hdF (n : Nat) : Rv → FF
  | .told _ _ _ => ev n .f_Told_handed
  | _ => ev n .f_Made_handed
def isFn : Rv → Bool
  | .told _ _ _ => true
  | .made _ _ => true
  | _ => false
theorem disp_fn {n : Nat} {R : D} {u : Rv} (h : isFn u = true) : disR [("Told", ev n .f_Told_handed), ("Made", ev n .f_Made_handed)] "handed" (u.d R) = some (hdF n u) := by
  cases u <;> simp [isFn] at h
  · simp [Rv.d, disR, hdF, List.lookup]
  · simp [Rv.d, disR, hdF, List.lookup]
theorem hwn_fn {z : Nat → Nat} {U : List Kd} {f : Nat} {u y v : Rv} (h : hwn z U f u y = some v) : isFn u = true := by
  cases f with
  | zero => simp [hwn] at h
  | succ f => cases u <;> simp [hwn, isFn] at h ⊢
section
variable {z : Nat → Nat} {U : List Kd} {x : D} {a b : Nat}
/-- the cells go on -/
def Go (z : Nat → Nat) (U : List Kd) (x : D) (a b : Nat) (S0 S : Store) : Prop := Gx a b S0 S ∧ ∃ Ks, Rk z U x a b Ks S
mutual
theorem worked_ok (g : GoodU z U) {S0 : Store} : ∀ (f : Nat) (t : Tm) (env : Rs) (v : Rv), wrk z U f t env = some v → ∀ {n : Nat} {S : Store}, Go z U x a b S0 S → f + 25 ≤ n → ∃ S', ev n .f_Reckoner_worked [rck x a b, t.d, .lst (env.ds (rck x a b))] S = .ok (v.d (rck x a b)) S' ∧ Go z U x a b S0 S'
  | 0, _, _, _, h, _, _, _, _ => by simp [wrk] at h
  | f + 1, .giv k, env, v, h, n, S, hS, hn => by
    obtain ⟨m, rfl⟩ : ∃ m, n = m + 2 := ⟨n - 2, by omega⟩
    rw [wrk] at h
    have e := Rs.ds_at (rck x a b) h
    refine ⟨S, ?_, hS⟩
    rw [ev, b_Reckoner_worked]
    simp [Tm.d, e]
  | f + 1, .unit, env, v, h, n, S, hS, hn => by
    have h8 : sizeLine = 16777216 := rfl
    obtain ⟨m, rfl⟩ : ∃ m, n = m + 2 := ⟨n - 2, by omega⟩
    rw [wrk] at h
    cases h
    refine ⟨S, ?_, hS⟩
    rw [ev, b_Reckoner_worked]
    simp [Tm.d, Rv.d, h8]
  | f + 1, .mk A t, env, v, h, n, S, hS, hn => by
    obtain ⟨m, rfl⟩ : ∃ m, n = m + 2 := ⟨n - 2, by omega⟩
    rw [wrk] at h
    cases h
    obtain ⟨gx, Ks, hk⟩ := hS
    have hR := hk.und
    have hu := und_rv hR (.made t env)
    simp only [Rv.d, D.under] at hu
    have e := mk_made (S := S) (n := m) (R := rck x a b) (t := t.d) (e := .lst (env.ds (rck x a b))) (by omega) hu
    refine ⟨S, ?_, gx, Ks, hk⟩
    rw [ev, b_Reckoner_worked]
    simp only [Tm.d, Rv.d]
    generalize rck x a b = R at *
    generalize A.d = XA at *
    generalize t.d = XT at *
    generalize env.ds R = E at *
    simp [e]
  | f + 1, .app s t, env, v, h, n, S, hS, hn => by
    obtain ⟨m, rfl⟩ : ∃ m, n = m + 2 := ⟨n - 2, by omega⟩
    rw [wrk] at h
    simp only [Option.bind_eq_some_iff] at h
    obtain ⟨u, h1, y, h2, h3⟩ := h
    obtain ⟨S1, e1, g1⟩ := worked_ok g f s env u h1 (n := m + 1) hS (by omega)
    obtain ⟨S2, e2, g2⟩ := worked_ok g f t env y h2 (n := m + 1) g1 (by omega)
    obtain ⟨S3, e3, g3⟩ := handedR_ok g f u y v h3 (n := m + 1) g2 (by omega)
    have dp := disp_fn (n := m + 1) (R := rck x a b) (hwn_fn h3)
    have dr := fun F => disp_rck (m := "worked") (F := F) (x := x) (a := a) (b := b) (by decide)
    refine ⟨S3, ?_, g3⟩
    rw [ev, b_Reckoner_worked]
    simp only [Tm.d]
    generalize rck x a b = R at *
    generalize s.d = XS at *
    generalize t.d = XT at *
    generalize env.ds R = E at *
    simp [e1, e2, e3, dp, dr]
  | f + 1, .both s t, env, v, h, n, S, hS, hn => by
    have h8 : sizeLine = 16777216 := rfl
    obtain ⟨m, rfl⟩ : ∃ m, n = m + 2 := ⟨n - 2, by omega⟩
    rw [wrk] at h
    simp only [Option.bind_eq_some_iff] at h
    obtain ⟨u, h1, y, h2, h3⟩ := h
    cases h3
    obtain ⟨S1, e1, g1⟩ := worked_ok g f s env u h1 (n := m + 1) hS (by omega)
    obtain ⟨S2, e2, g2⟩ := worked_ok g f t env y h2 (n := m + 1) g1 (by omega)
    have dr := fun F => disp_rck (m := "worked") (F := F) (x := x) (a := a) (b := b) (by decide)
    refine ⟨S2, ?_, g2⟩
    rw [ev, b_Reckoner_worked]
    simp only [Tm.d, Rv.d]
    generalize rck x a b = R at *
    generalize s.d = XS at *
    generalize t.d = XT at *
    generalize env.ds R = E at *
    simp [e1, e2, dr, h8]
  | f + 1, .fst s, env, v, h, n, S, hS, hn => by
    obtain ⟨m, rfl⟩ : ∃ m, n = m + 2 := ⟨n - 2, by omega⟩
    rw [wrk] at h
    simp only [Option.bind_eq_some_iff] at h
    obtain ⟨u, h1, h2⟩ := h
    obtain ⟨S1, e1, g1⟩ := worked_ok g f s env u h1 (n := m + 1) hS (by omega)
    have dr := fun F => disp_rck (m := "worked") (F := F) (x := x) (a := a) (b := b) (by decide)
    split at h2
    · cases h2
      refine ⟨S1, ?_, g1⟩
      rw [ev, b_Reckoner_worked]
      simp only [Tm.d]
      simp only [Rv.d] at e1
      generalize rck x a b = R at *
      generalize s.d = XS at *
      generalize env.ds R = E at *
      simp [e1, dr]
    · cases h2
  | f + 1, .snd s, env, v, h, n, S, hS, hn => by
    obtain ⟨m, rfl⟩ : ∃ m, n = m + 2 := ⟨n - 2, by omega⟩
    rw [wrk] at h
    simp only [Option.bind_eq_some_iff] at h
    obtain ⟨u, h1, h2⟩ := h
    obtain ⟨S1, e1, g1⟩ := worked_ok g f s env u h1 (n := m + 1) hS (by omega)
    have dr := fun F => disp_rck (m := "worked") (F := F) (x := x) (a := a) (b := b) (by decide)
    split at h2
    · cases h2
      refine ⟨S1, ?_, g1⟩
      rw [ev, b_Reckoner_worked]
      simp only [Tm.d]
      simp only [Rv.d] at e1
      generalize rck x a b = R at *
      generalize s.d = XS at *
      generalize env.ds R = E at *
      simp [e1, dr]
    · cases h2
theorem handedR_ok (g : GoodU z U) {S0 : Store} : ∀ (f : Nat) (u y v : Rv), hwn z U f u y = some v → ∀ {n : Nat} {S : Store}, Go z U x a b S0 S → f + 25 ≤ n → ∃ S', hdF n u [u.d (rck x a b), y.d (rck x a b)] S = .ok (v.d (rck x a b)) S' ∧ Go z U x a b S0 S'
  | 0, _, _, _, h, _, _, _, _ => by simp [hwn] at h
  | f + 1, .made t env, y, v, h, n, S, hS, hn => by
    have h8 : sizeLine = 16777216 := rfl
    obtain ⟨m, rfl⟩ : ∃ m, n = m + 1 := ⟨n - 1, by omega⟩
    rw [hwn] at h
    split at h
    · rename_i hl
      obtain ⟨S1, e, g1⟩ := worked_ok g f t (.snoc env y) v h (n := m) hS (by omega)
      simp only [Rs.ds] at e
      have ll : (env.ds (rck x a b)).length + 1 ≤ 16777216 := by rw [Rs.ds_len]; omega
      have dr := fun F => disp_rck (m := "worked") (F := F) (x := x) (a := a) (b := b) (by decide)
      refine ⟨S1, ?_, g1⟩
      show ev (m + 1) .f_Made_handed _ S = _
      rw [ev, b_Made_handed]
      have g0 : ∀ T : Store, gFld ["Told", "Made"] "reckoner" ((Rv.made t env).d (rck x a b)) T = .ok (rck x a b) T := fun T => by rw [Rv.d]; exact gFld_at (by simp) (by simp [lookF])
      have g1 : ∀ T : Store, gFld ["Made"] "body" ((Rv.made t env).d (rck x a b)) T = .ok t.d T := fun T => by rw [Rv.d]; exact gFld_at (by simp) (by simp [lookF])
      have g2 : ∀ T : Store, gFld ["Made"] "things" ((Rv.made t env).d (rck x a b)) T = .ok (.lst (env.ds (rck x a b))) T := fun T => by rw [Rv.d]; exact gFld_at (by simp) (by simp [lookF])
      generalize (Rv.made t env).d (rck x a b) = L at *
      generalize y.d (rck x a b) = Y at *
      generalize v.d (rck x a b) = V at *
      generalize env.ds (rck x a b) = E at *
      generalize rck x a b = R at *
      generalize t.d = XT at *
      simp [g0, g1, g2, h8, ll, e, dr]
    · cases h
  | f + 1, .told A B ws, y, v, h, n, S, hS, hn => by
    have h8 : sizeLine = 16777216 := rfl
    obtain ⟨m, rfl⟩ : ∃ m, n = m + 1 := ⟨n - 1, by omega⟩
    rw [hwn] at h
    split at h
    · rename_i hAB
      have hA := hAB.1
      have hB := hAB.2
      simp only [Option.bind_eq_some_iff] at h
      obtain ⟨w, h1, j, h2, wj, h3, h4⟩ := h
      obtain ⟨S1, e1, g1⟩ := toldR_ok g f A y w h1 (n := m) hS (by omega)
      obtain ⟨gx1, Ks1, k1⟩ := g1
      obtain ⟨Ks2, S2, e2, k2, gx2, hm⟩ := all_of_ok g k1 hA (n := m) (by omega)
      obtain ⟨c, e3, hc⟩ := k2.spot g hm
      have e4 := get_place hc (g.ok A hA).2.2.1 h2
      have e5 : gIx (.tup (ws.map kD)) (.int (j : Int)) S2 = .ok (kD wj) S2 := by
        rw [gIx_tup, ixR_nat, List.getElem?_map, h3]; rfl
      have e6 : ev m .f_Reckoner_held [rck x a b, B.d, kD wj] S2 = .ok (v.d (rck x a b)) S2 := held_ok k2.und B h4 (by omega)
      have dr1 := fun F => disp_rck (m := "told") (F := F) (x := x) (a := a) (b := b) (by decide)
      have dr2 := fun F => disp_rck (m := "all_of") (F := F) (x := x) (a := a) (b := b) (by decide)
      have dr3 := fun F => disp_rck (m := "held") (F := F) (x := x) (a := a) (b := b) (by decide)
      have fs := fun T => fld_spots (x := x) (a := a) (b := b) (T := T)
      refine ⟨S2, ?_, gx1.trans gx2, Ks2, k2⟩
      show ev (m + 1) .f_Told_handed _ S = _
      have g0 : ∀ T : Store, gFld ["Told", "Made"] "reckoner" ((Rv.told A B ws).d (rck x a b)) T = .ok (rck x a b) T := fun T => by rw [Rv.d]; exact gFld_at (by simp) (by simp [lookF])
      have g1 : ∀ T : Store, gFld ["Told"] "kind" ((Rv.told A B ws).d (rck x a b)) T = .ok (.tup [.str "from", A.d, B.d]) T := fun T => by rw [Rv.d]; exact gFld_at (by simp) (by simp [lookF, Kd.d])
      have g2 : ∀ T : Store, gFld ["Told"] "worth" ((Rv.told A B ws).d (rck x a b)) T = .ok (.tup (ws.map kD)) T := fun T => by rw [Rv.d]; exact gFld_at (by simp) (by simp [lookF])
      rw [ev, b_Told_handed]
      generalize (Rv.told A B ws).d (rck x a b) = L at *
      generalize y.d (rck x a b) = Y at *
      generalize v.d (rck x a b) = V at *
      generalize rck x a b = R at *
      generalize A.d = XA at *
      generalize B.d = XB at *
      generalize ws.map kD = WS at *
      generalize kD w = W at *
      generalize kD wj = WJ at *
      generalize wl z A = WL at *
      generalize (j : Int) = J at *
      simp [g0, g1, g2, fs, dr1, dr2, dr3, e1, e2, e3, e4, e5, e6]
    · cases h
  | f + 1, .num c, _, v, h, n, S, hS, hn => by simp [hwn] at h
  | f + 1, .unit, _, v, h, n, S, hS, hn => by simp [hwn] at h
  | f + 1, .pair _ _, _, v, h, n, S, hS, hn => by simp [hwn] at h
theorem toldR_ok (g : GoodU z U) {S0 : Store} : ∀ (f : Nat) (K : Kd) (v : Rv) (w : NestedKey), tlv z U f K v = some w → ∀ {n : Nat} {S : Store}, Go z U x a b S0 S → f + 25 ≤ n → ∃ S', ev n .f_Reckoner_told [rck x a b, K.d, v.d (rck x a b)] S = .ok (kD w) S' ∧ Go z U x a b S0 S'
  | 0, _, _, _, h, _, _, _, _ => by simp [tlv] at h
  | f + 1, .base i, v, w, h, n, S, hS, hn => by
    obtain ⟨m, rfl⟩ : ∃ m, n = m + 1 := ⟨n - 1, by omega⟩
    simp only [tlv] at h
    split at h
    · cases h
      refine ⟨S, ?_, hS⟩
      rw [ev, b_Reckoner_told]
      simp [Kd.d, Rv.d, kD]
    · cases h
  | f + 1, .unit, v, w, h, n, S, hS, hn => by
    obtain ⟨m, rfl⟩ : ∃ m, n = m + 1 := ⟨n - 1, by omega⟩
    simp only [tlv] at h
    split at h
    · cases h
      refine ⟨S, ?_, hS⟩
      rw [ev, b_Reckoner_told]
      simp [Kd.d, Rv.d, kD, kDs]
    · cases h
  | f + 1, .both A B, v, w, h, n, S, hS, hn => by
    have h8 : sizeLine = 16777216 := rfl
    obtain ⟨m, rfl⟩ : ∃ m, n = m + 1 := ⟨n - 1, by omega⟩
    simp only [tlv] at h
    split at h
    · rename_i p q
      simp only [Option.bind_eq_some_iff, Option.some.injEq] at h
      obtain ⟨s, h1, t, h2, rfl⟩ := h
      obtain ⟨S1, e1, g1⟩ := toldR_ok g f A p s h1 (n := m) hS (by omega)
      obtain ⟨S2, e2, g2⟩ := toldR_ok g f B q t h2 (n := m) g1 (by omega)
      have dr := fun F => disp_rck (m := "told") (F := F) (x := x) (a := a) (b := b) (by decide)
      refine ⟨S2, ?_, g2⟩
      rw [ev, b_Reckoner_told]
      simp only [Kd.d, Rv.d, kD, kDs]
      generalize p.d (rck x a b) = P at *
      generalize q.d (rck x a b) = Q at *
      generalize rck x a b = R at *
      generalize A.d = XA at *
      generalize B.d = XB at *
      generalize kD s = Y1 at *
      generalize kD t = Y2 at *
      simp [e1, e2, dr, h8]
    · cases h
  | f + 1, .frm A B, v, w, h, n, S, hS, hn => by
    have h8 : sizeLine = 16777216 := rfl
    obtain ⟨m, rfl⟩ : ∃ m, n = m + 1 := ⟨n - 1, by omega⟩
    simp only [tlv] at h
    split at h
    · rename_i hA
      simp only [Option.bind_eq_some_iff, Option.some.injEq] at h
      obtain ⟨vs, h1, ws, h2, rfl⟩ := h
      obtain ⟨gx, Ks, hk⟩ := hS
      obtain ⟨_, h5, hdA, _⟩ := g.ok A hA
      have wlen := wlk_len hk.szs.ok A h5
      obtain ⟨Ks1, S1, e1, k1, gx1, hm⟩ := all_of_ok g hk hA (n := m) (by omega)
      obtain ⟨l, l1, l2, l3⟩ := seqO_zip h1
      obtain ⟨r, r1, r2, r3⟩ := seqO_zip h2
      have ll : l.length = (wlk z A).length := by rw [← l1, List.length_map]
      have lr : r.length = (wlk z A).length := by rw [← ll, ← List.length_map (f := (·.1)) (as := r), r1, ← l2, List.length_map]
      have dr1 := fun F => disp_rck (m := "told") (F := F) (x := x) (a := a) (b := b) (by decide)
      have dr2 := fun F => disp_rck (m := "all_of") (F := F) (x := x) (a := a) (b := b) (by decide)
      have dr3 := fun F => disp_rck (m := "held") (F := F) (x := x) (a := a) (b := b) (by decide)
      obtain ⟨S2, e2, G2⟩ := compL_thr (i := 4) (te := fMe [("Told", ev m .f_Told_handed), ("Made", ev m .f_Made_handed)] "handed" (fVar 2) (fCons (fMe [("Reckoner", ev m .f_Reckoner_held)] "held" (fVar 0) (fCons (f2 gIx (fVar 1) (fC (.int 1))) (fCons (fVar 4) fNil))) fNil))
        (ρ := [some (rck x a b), some (Kd.frm A B).d, some (v.d (rck x a b)), none, none, none]) (I := Go z U x a b S0) (l.map fun p => (kD p.1, p.2.d (rck x a b))) [] S1 ⟨gx.trans gx1, Ks1, k1⟩ (by simp; omega) (fun p hp T hT => by
          obtain ⟨q, hq, rfl⟩ := List.mem_map.mp hp
          have h4 := l3 q hq
          simp only [Option.bind_eq_some_iff] at h4
          obtain ⟨y, hy1, hy2⟩ := h4
          obtain ⟨gxT, KT, kT⟩ := hT
          have a1 := held_ok kT.und A (n := m) hy1 (by omega)
          obtain ⟨T', a2, a3⟩ := handedR_ok g f v y q.2 hy2 (n := m) ⟨gxT, KT, kT⟩ (by omega)
          have dp := disp_fn (n := m) (R := rck x a b) (hwn_fn hy2)
          refine ⟨T', ?_, a3⟩
          simp only [Kd.d]
          generalize v.d (rck x a b) = V at *
          generalize y.d (rck x a b) = Y at *
          generalize q.2.d (rck x a b) = Q at *
          generalize rck x a b = R at *
          generalize A.d = XA at *
          generalize B.d = XB at *
          generalize kD q.1 = W at *
          simp [dp, dr3, a1, a2])
      obtain ⟨S3, e3, G3⟩ := compL_thr (i := 5) (te := fMe [("Reckoner", ev m .f_Reckoner_told)] "told" (fVar 0) (fCons (f2 gIx (fVar 1) (fC (.int 2))) (fCons (fVar 5) fNil)))
        (ρ := [some (rck x a b), some (Kd.frm A B).d, some (v.d (rck x a b)), some (.lst (vs.map (Rv.d (rck x a b)))), none, none]) (I := Go z U x a b S0) (r.map fun p => (p.1.d (rck x a b), kD p.2)) [] S2 G2 (by simp; omega) (fun p hp T hT => by
          obtain ⟨q, hq, rfl⟩ := List.mem_map.mp hp
          obtain ⟨T', a2, a3⟩ := toldR_ok g f B q.1 q.2 (r3 q hq) (n := m) hT (by omega)
          refine ⟨T', ?_, a3⟩
          simp only [Kd.d]
          generalize v.d (rck x a b) = V at *
          generalize q.1.d (rck x a b) = Q at *
          generalize vs.map (Rv.d (rck x a b)) = VS at *
          generalize rck x a b = R at *
          generalize A.d = XA at *
          generalize B.d = XB at *
          generalize kD q.2 = W at *
          simp [dr1, a2])
      have m1 : (l.map fun p => (kD p.1, p.2.d (rck x a b))).map (·.1) = wl z A := by rw [List.map_map, ← wlk_map, ← l1, List.map_map]; rfl
      have m2 : (l.map fun p => (kD p.1, p.2.d (rck x a b))).map (·.2) = vs.map (Rv.d (rck x a b)) := by rw [List.map_map, ← l2, List.map_map]; rfl
      have m3 : (r.map fun p => (p.1.d (rck x a b), kD p.2)).map (·.1) = vs.map (Rv.d (rck x a b)) := by rw [List.map_map, ← r1, List.map_map]; rfl
      have m4 : (r.map fun p => (p.1.d (rck x a b), kD p.2)).map (·.2) = ws.map kD := by rw [List.map_map, ← r2, List.map_map]; rfl
      rw [m1, m2, List.nil_append] at e2
      rw [m3, m4, List.nil_append] at e3
      refine ⟨S3, ?_, G3⟩
      have q1 : fLc false (fiL (fMe [("Reckoner", ev m .f_Reckoner_all_of)] "all_of" (fVar 0) (fCons (f2 gIx (fVar 1) (fC (.int 1))) fNil))) (gN 4) fYes (fMe [("Told", ev m .f_Told_handed), ("Made", ev m .f_Made_handed)] "handed" (fVar 2) (fCons (fMe [("Reckoner", ev m .f_Reckoner_held)] "held" (fVar 0) (fCons (f2 gIx (fVar 1) (fC (.int 1))) (fCons (fVar 4) fNil))) fNil)) [4] [some (rck x a b), some (Kd.frm A B).d, some (v.d (rck x a b)), none, none, none] S = .ok (.lst (vs.map (Rv.d (rck x a b)))) S2 := by
        have it : fiL (fMe [("Reckoner", ev m .f_Reckoner_all_of)] "all_of" (fVar 0) (fCons (f2 gIx (fVar 1) (fC (.int 1))) fNil)) [some (rck x a b), some (Kd.frm A B).d, some (v.d (rck x a b)), none, none, none] S = .ok (wl z A, none) S1 := by
          have : fMe [("Reckoner", ev m .f_Reckoner_all_of)] "all_of" (fVar 0) (fCons (f2 gIx (fVar 1) (fC (.int 1))) fNil) [some (rck x a b), some (Kd.frm A B).d, some (v.d (rck x a b)), none, none, none] S = .ok (.lst (wl z A)) S1 := by
            simp only [Kd.d]
            generalize v.d (rck x a b) = V at *
            generalize rck x a b = R at *
            generalize A.d = XA at *
            generalize B.d = XB at *
            generalize wl z A = WL at *
            simp [dr2, e1]
          unfold fiL
          rw [this]; rfl
        rw [fLc_ap, it, bnd_ok]
        show lcR false (compL _ _ _ none [some (rck x a b), some (Kd.frm A B).d, some (v.d (rck x a b)), none, none, none] (wl z A) [] S1) = _
        rw [e2]; rfl
      have q2 : fLc false (fiL (fVar 3)) (gN 5) fYes (fMe [("Reckoner", ev m .f_Reckoner_told)] "told" (fVar 0) (fCons (f2 gIx (fVar 1) (fC (.int 2))) (fCons (fVar 5) fNil))) [5] [some (rck x a b), some (Kd.frm A B).d, some (v.d (rck x a b)), some (.lst (vs.map (Rv.d (rck x a b)))), none, none] S2 = .ok (.lst (ws.map kD)) S3 := by
        have it : fiL (fVar 3) [some (rck x a b), some (Kd.frm A B).d, some (v.d (rck x a b)), some (.lst (vs.map (Rv.d (rck x a b)))), none, none] S2 = .ok (vs.map (Rv.d (rck x a b)), none) S2 := rfl
        rw [fLc_ap, it, bnd_ok]
        show lcR false (compL _ _ _ none [some (rck x a b), some (Kd.frm A B).d, some (v.d (rck x a b)), some (.lst (vs.map (Rv.d (rck x a b)))), none, none] (vs.map (Rv.d (rck x a b))) [] S2) = _
        rw [e3]; rfl
      rw [ev, b_Reckoner_told]
      simp only [Kd.d, kD, kDs_map] at q1 q2 ⊢
      generalize v.d (rck x a b) = V at *
      generalize vs.map (Rv.d (rck x a b)) = VS at *
      generalize rck x a b = R at *
      generalize A.d = XA at *
      generalize B.d = XB at *
      generalize ws.map kD = WS at *
      simp [q1, q2, -fLc_ap]
    · cases h
end
end
end Kz
namespace Kz
open PySem PySem.Spec PyProof.Rows L2 Kw
/-- sizes, made or under way -/
def SzR (z : Nat → Nat) (x : D) (S : Store) : Prop := ∃ ns, okSz ns ∧ z = sF ns ∧ (x = .lst (ns.map .int) ∨ ∃ v, x = .loc v ∧ S[v]? = some (.lst (ns.map .int)))
theorem SzR.szs {z : Nat → Nat} {x : D} {S : Store} (h : SzR z x S) : Szs z x S := by
  obtain ⟨ns, ok, rfl, rfl | ⟨v, rfl, at_⟩⟩ := h
  · exact ints_list ok S
  · exact szs_cell ok at_
theorem SzR.sizes {z : Nat → Nat} {x : D} {S : Store} (h : SzR z x S) {n : Nat} (hn : 2 ≤ n) : ev n .f_sure_sizes [x] S = .ok .non S := by
  obtain ⟨ns, ok, rfl, rfl | ⟨v, rfl, at_⟩⟩ := h
  · exact sizes_list ok hn
  · exact sizes_sure ok at_ hn
theorem cut_go {S S' : Store} {d : D} (hl : S.length ≤ S'.length) (h : ∀ i, i < S.length → S'[i]? = S[i]?) (hu : d.under S.length = true) : cutR S (.ok d S') = .ok d S := by
  have e : S' = S ++ S'.drop S.length := by
    have e1 : S'.take S.length = S := by
      refine List.ext_getElem? fun i => ?_
      rw [List.getElem?_take]
      split
      · rename_i hi; exact h i hi
      · rename_i hi; rw [List.getElem?_eq_none (by omega)]
    have e2 := List.take_append_drop S.length S'
    rw [e1] at e2
    exact e2.symm
  rw [e]
  exact cut_ok _ hu
theorem rk_new {z : Nat → Nat} {U : List Kd} {x : D} {S : Store} (h : SzR z x S) : Rk z U x (S.length + 1) (S.length + 2) [] (S ++ [.dead, .dct [] [], .dct [] []]) where
  sz := by
    obtain ⟨ns, ok, e, rfl | ⟨v, rfl, at_⟩⟩ := h
    · exact ⟨ns, ok, e, .inl rfl⟩
    · exact ⟨ns, ok, e, .inr ⟨v, rfl, by rw [List.getElem?_append_left (lt_at at_)]; exact at_⟩⟩
  la := by
    rw [List.getElem?_append_right (by omega), show S.length + 1 - S.length = 1 by omega]; rfl
  lb := ⟨[], by rw [List.getElem?_append_right (by omega), show S.length + 2 - S.length = 2 by omega]; rfl, rfl, fun i K c h _ => by simp at h⟩
  nd := List.nodup_nil
  sub := fun K hK => nomatch hK
  ab := by omega
section
variable {z : Nat → Nat} {x y d : D} {S : Store} {A B : Kd} {n : Nat}
theorem rk_is_worth {k : Kd} (hx : SzR z x S) (hn : k.dep + 6 ≤ n) (hk : k.sz ≤ 2000000) (ht : tk z k ≤ 5000) (t : ty y = true) (q : sml y = true) :
    ev n .f_is_worth [k.d, x, y] S = .ok (.bl (isW z k y)) S := by
  obtain ⟨m, rfl, h'⟩ := up (d := k.dep + 5) hn
  rw [ev, b_is_worth]
  simp [sure_kind_kd (n := m) (S := S) (k := k) (by omega) hk, hx.sizes (n := m) (by omega), taken_sure hx.szs k (n := m) (by omega) ht, plain_ok hx.szs k (n := m) (by omega) t q]
/-- what is told -/
theorem done_told {U : List Kd} {t : Tm} {w r : NestedKey} {f : Nat} {yv u v : Rv} (g : GoodU z U) (e : ∀ m, n ≤ m + 1 → ev m .f_sure_kind_in [t.d, .lst []] S = .ok (Kd.frm A B).d S) (hx : SzR z x S) (hA : A.dep ≤ 20) (hB : B.dep ≤ 40) (sA : A.sz ≤ 2000000) (tA : tk z A ≤ 5000) (tB : tk z B ≤ 5000) (ht : ty (kD w) = true) (q : sml (kD w) = true) (hw : isW z A (kD w) = true)
    (h0 : hld A w = some yv) (h1 : wrk z U f t .nil = some u) (h2 : hwn z U f u yv = some v) (h3 : tlv z U f B v = some r) (hn : f + 60 ≤ n) : ev n .f_done [t.d, x, kD w] S = .ok (kD r) S := by
  obtain ⟨m, rfl⟩ : ∃ m, n = m + 2 := ⟨n - 2, by omega⟩
  have e1 := e (m + 1) (Nat.le_refl _)
  have e2 := hx.sizes (n := m + 1) (by omega)
  have e3 := taken_sure hx.szs A (n := m + 1) (by omega) tA
  have e4 := taken_sure hx.szs B (n := m + 1) (by omega) tB
  have e5 := rk_is_worth hx (n := m + 1) (by omega) sA tA ht q
  rw [hw] at e5
  have e6 := mk_rck (n := m) (S := S) (x := x) (by omega)
  have rk := rk_new (U := U) hx
  have e7 := held_ok rk.und A (n := m + 1) h0 (by omega)
  obtain ⟨S1, e8, g1⟩ := worked_ok g (S0 := S ++ [.dead, .dct [] [], .dct [] []]) f t .nil u h1 (n := m + 1) ⟨Gx.refl, _, rk⟩ (by omega)
  have e7' := fun (T : Store) (Ks : List Kd) (k : Rk z U x (S.length + 1) (S.length + 2) Ks T) => held_ok k.und A (n := m + 1) h0 (by omega)
  obtain ⟨gx1, Ks1, k1⟩ := id g1
  have e9 := e7' S1 Ks1 k1
  obtain ⟨S2, e10, g2⟩ := handedR_ok g (S0 := S ++ [.dead, .dct [] [], .dct [] []]) f u yv v h2 (n := m + 1) g1 (by omega)
  obtain ⟨S3, e11, g3⟩ := toldR_ok g (S0 := S ++ [.dead, .dct [] [], .dct [] []]) f B v r h3 (n := m + 1) g2 (by omega)
  have dp := disp_fn (n := m + 1) (R := rck x (S.length + 1) (S.length + 2)) (hwn_fn h2)
  have dr1 := fun F => disp_rck (m := "worked") (F := F) (x := x) (a := S.length + 1) (b := S.length + 2) (by decide)
  have dr2 := fun F => disp_rck (m := "held") (F := F) (x := x) (a := S.length + 1) (b := S.length + 2) (by decide)
  have dr3 := fun F => disp_rck (m := "told") (F := F) (x := x) (a := S.length + 1) (b := S.length + 2) (by decide)
  rw [ev, b_done]
  show cutR S (RS.fin _) = _
  have rr : ∀ (X Y : RE D), X = Y → cutR S X = cutR S Y := fun X Y h => by rw [h]
  refine (rr _ (.ok (kD r) S3) ?_).trans (cut_go (by have := g3.1.le; simp at this; omega) (fun i hi => ?_) (und_kD _ _))
  · simp only [Kd.d] at e1
    simp only [Rs.ds] at e8
    generalize u.d (rck x (S.length + 1) (S.length + 2)) = XU at *
    generalize yv.d (rck x (S.length + 1) (S.length + 2)) = XY at *
    generalize v.d (rck x (S.length + 1) (S.length + 2)) = XV at *
    generalize rck x (S.length + 1) (S.length + 2) = R at *
    generalize A.d = XA at *
    generalize B.d = XB at *
    generalize t.d = XT at *
    generalize kD w = W at *
    generalize kD r = WR at *
    simp [e1, e2, e3, e4, e5, e6, e8, e9, e10, e11, dp, dr1, dr2, dr3]
  · rw [g3.1.at_ i (by simp; omega) (by omega) (by omega), List.getElem?_append_left hi]
end
end Kz
namespace Kz
open PySem PySem.Spec PyProof.Rows L2 Kw
theorem kdep_sz : ∀ K : Kd, K.dep < K.sz
  | .base _ => by simp [Kd.dep, Kd.sz]
  | .unit => by simp [Kd.dep, Kd.sz]
  | .both a b => by have := kdep_sz a; have := kdep_sz b; simp only [Kd.dep, Kd.sz]; omega
  | .frm a b => by have := kdep_sz a; have := kdep_sz b; simp only [Kd.dep, Kd.sz]; omega
/-- bases below a bound -/
def _root_.Kw.Kd.bel (b : Nat) : Kd → Prop
  | .base i => i.val < b
  | .unit => True
  | .both a c => a.bel b ∧ c.bel b
  | .frm a c => a.bel b ∧ c.bel b
theorem lkind3 : ∀ (d : Nat) {n : Nat} {S : Store} {w : Nat}, d + 2 ≤ n → Well S w → ∃ (K : Kd) (S' : Store), ev n .f__law_kind [.loc w, .int (d : Int)] S = .ok K.d S' ∧ K.dep ≤ d ∧ K.bel 3 ∧ WS S w S'
  | d, n, S, w, h, hw => by
    have h8 : sizeLine = 16777216 := rfl
    obtain ⟨m, rfl, h'⟩ := up (d := d + 1) h
    obtain ⟨r, S1, e1, r0, r1, w1⟩ := draw_sp (n := m) (S := S) (w := w) (m := 7) (by omega) hw (by omega) (by omega)
    rw [ev, b__law_kind]
    by_cases hb : d = 0 ∨ r < 2
    · obtain ⟨i, S3, e3, i0, i1, w3⟩ := draw_sp (n := m) (S := S1) (w := w) (m := 3) (by omega) w1.well (by omega) (by omega)
      refine ⟨.base ⟨i.toNat, by omega⟩, S3, ?_, by simp [Kd.dep], by simp only [Kd.bel]; omega, w1.trans w3⟩
      have ei : ((i.toNat : Nat) : Int) = i := by omega
      rcases hb with hb | hb
      · subst hb
        simp [e1, e3, h8, Kd.d, ei]
      · by_cases hd : d = 0
        · subst hd
          simp [e1, e3, h8, Kd.d, ei]
        · have hd' : ¬ (d : Int) = 0 := by omega
          simp [e1, e3, h8, Kd.d, ei, hb, hd']
    · have hd : d ≠ 0 := fun e => hb (.inl e)
      have hr : ¬ r < 2 := fun e => hb (.inr e)
      obtain ⟨d', rfl⟩ : ∃ d', d = d' + 1 := ⟨d - 1, by omega⟩
      have hd' : ¬ ((d' + 1 : Nat) : Int) = 0 := by omega
      have es : ((d' + 1 : Nat) : Int) - 1 = (d' : Int) := by omega
      generalize hD : ((d' + 1 : Nat) : Int) = Z at *
      by_cases h2 : r = 2
      · subst h2
        exact ⟨.unit, S1, by simp [e1, hd', Kd.d, h8], by simp [Kd.dep], trivial, w1⟩
      · obtain ⟨A, S2, eA, dA, zA, wA⟩ := lkind3 d' (n := m) (S := S1) (w := w) (by omega) w1.well
        obtain ⟨B, S3, eB, dB, zB, wB⟩ := lkind3 d' (n := m) (S := S2) (w := w) (by omega) wA.well
        by_cases h5 : r < 5
        · exact ⟨.both A B, S3, by simp [e1, hd', hr, h2, h5, es, eA, eB, Kd.d, h8], by simp only [Kd.dep]; omega, ⟨zA, zB⟩, (w1.trans wA).trans wB⟩
        · exact ⟨.frm A B, S3, by simp [e1, hd', hr, h2, h5, es, eA, eB, Kd.d, h8], by simp only [Kd.dep]; omega, ⟨zA, zB⟩, (w1.trans wA).trans wB⟩
/-- a step on the way to a base -/
inductive Sp where
  | arg (A : Kd) | fst | snd
def Sp.d : Sp → D
  | .arg A => A.d
  | .fst => .str "first"
  | .snd => .str "second"
/-- the ways from a thing of the kind to the base i -/
def ways (i : Nat) : Kd → List (List Sp)
  | .base j => if j.val = i then [[]] else []
  | .unit => []
  | .frm A B => (ways i B).map (.arg A :: ·)
  | .both A B => (ways i A).map (.fst :: ·) ++ (ways i B).map (.snd :: ·)
def wayD (p : List Sp) : D := .lst (p.map Sp.d)
theorem ways_len (i : Nat) : ∀ K : Kd, (ways i K).length ≤ K.sz
  | .base j => by
    unfold ways
    split <;> simp [Kd.sz]
  | .unit => by simp [ways]
  | .frm A B => by have := ways_len i B; simp [ways, Kd.sz]; omega
  | .both A B => by have := ways_len i A; have := ways_len i B; simp [ways, Kd.sz]; omega
theorem ways_dep (i : Nat) : ∀ (K : Kd), ∀ p ∈ ways i K, p.length ≤ K.dep
  | .base j, p, h => by
    unfold ways at h
    split at h
    · have : p = [] := by simpa using h
      rw [this]; simp
    · cases h
  | .unit, p, h => by simp [ways] at h
  | .frm A B, p, h => by
    simp only [ways, List.mem_map] at h
    obtain ⟨q, hq, rfl⟩ := h
    have := ways_dep i B q hq
    simp [Kd.dep]; omega
  | .both A B, p, h => by
    simp only [ways, List.mem_append, List.mem_map] at h
    rcases h with ⟨q, hq, rfl⟩ | ⟨q, hq, rfl⟩
    · have := ways_dep i A q hq
      simp [Kd.dep]; omega
    · have := ways_dep i B q hq
      simp [Kd.dep]; omega
theorem lways_sp {i : Nat} : ∀ (K : Kd) {n : Nat} {S : Store}, K.dep + 1 ≤ n → K.sz ≤ 2000000 → ev n .f__law_ways [K.d, .int (i : Int)] S = .ok (.lst ((ways i K).map wayD)) S
  | .base j, n, S, h, hz => by
    have h8 : sizeLine = 16777216 := rfl
    obtain ⟨m, rfl, h'⟩ := up (d := 0) (by omega : 0 + 1 ≤ n)
    rw [ev, b__law_ways]
    unfold ways
    by_cases hj : j.val = i
    · have hj' : ((j.val : Nat) : Int) = (i : Int) := by omega
      rw [if_pos hj]
      generalize (i : Int) = Z at *
      simp [Kd.d, hj', gMul, h8, wayD, seqM]
    · have hj' : ¬ ((j.val : Nat) : Int) = (i : Int) := by omega
      rw [if_neg hj]
      generalize (i : Int) = Z at *
      simp [Kd.d, hj', gMul, h8, seqM]
  | .unit, n, S, h, hz => by
    have h8 : sizeLine = 16777216 := rfl
    obtain ⟨m, rfl, h'⟩ := up (d := 0) (by omega : 0 + 1 ≤ n)
    rw [ev, b__law_ways]
    simp [Kd.d, ways]
  | .frm A B, n, S, h, hz => by
    have h8 : sizeLine = 16777216 := rfl
    simp only [Kd.dep] at h
    simp only [Kd.sz] at hz
    obtain ⟨m, rfl, h'⟩ := up (d := max A.dep B.dep + 1) h
    have eB := lways_sp (i := i) B (n := m) (S := S) (by omega) (by omega)
    have lB := ways_len i B
    have hc := compL_map (tg := gN 3) (tt := fYes) (te := f2 (gAdd false) (fArg mkLst (fCons (f2 gIx (fVar 0) (fC (.int 1))) fNil)) (fVar 3)) (ρ := [some (Kd.frm A B).d, some (.int (i : Int)), none, none]) (S := S) (gg := none) (fun d => match d with | .lst ds => .lst (A.d :: ds) | _ => .non) (by unfold gd; trivial) ((ways i B).map wayD) [] (fun d hd => by
      obtain ⟨p, hp, rfl⟩ := List.mem_map.mp hd
      have lp := ways_dep i B p hp
      refine ⟨[some (Kd.frm A B).d, some (.int (i : Int)), none, some (wayD p)], by simp, rfl, ?_⟩
      have hl : p.length + 1 ≤ 16777216 := by have := kdep_sz B; omega
      simp [Kd.d, wayD, h8, hl]) (by simp; omega)
    have em : ((ways i B).map wayD).map (fun d => match d with | .lst ds => D.lst (A.d :: ds) | _ => .non) = (ways i (.frm A B)).map wayD := by
      simp [ways, wayD, Sp.d]
    rw [em] at hc
    simp only [List.nil_append] at hc
    rw [ev, b__law_ways]
    generalize hG : (ways i (.frm A B)).map wayD = G at *
    simp only [Kd.d] at hc ⊢
    simp [eB, wipeR, hc]
  | .both A B, n, S, h, hz => by
    have h8 : sizeLine = 16777216 := rfl
    simp only [Kd.dep] at h
    simp only [Kd.sz] at hz
    obtain ⟨m, rfl, h'⟩ := up (d := max A.dep B.dep + 1) h
    have eA := lways_sp (i := i) A (n := m) (S := S) (by omega) (by omega)
    have eB := lways_sp (i := i) B (n := m) (S := S) (by omega) (by omega)
    have lA := ways_len i A
    have lB := ways_len i B
    have hc : ∀ (K : Kd) (z : Str) (x2 : Option D), K.sz ≤ 2000000 → compL (gN 3) fYes (f2 (gAdd false) (fArg mkLst (fCons (fC (.str z)) fNil)) (fVar 3)) none [some (Kd.both A B).d, some (.int (i : Int)), x2, none] ((ways i K).map wayD) [] S = .ok (((ways i K).map wayD).map fun d => match d with | .lst ds => .lst (.str z :: ds) | _ => .non) S := by
      intro K z x2 hK
      have lK := ways_len i K
      have := compL_map (tg := gN 3) (tt := fYes) (te := f2 (gAdd false) (fArg mkLst (fCons (fC (.str z)) fNil)) (fVar 3)) (ρ := [some (Kd.both A B).d, some (.int (i : Int)), x2, none]) (S := S) (gg := none) (fun d => match d with | .lst ds => .lst (.str z :: ds) | _ => .non) (by unfold gd; trivial) ((ways i K).map wayD) [] (fun d hd => by
        obtain ⟨p, hp, rfl⟩ := List.mem_map.mp hd
        have lp := ways_dep i K p hp
        have := kdep_sz K
        have hl : p.length + 1 ≤ 16777216 := by omega
        refine ⟨[some (Kd.both A B).d, some (.int (i : Int)), x2, some (wayD p)], by simp, rfl, ?_⟩
        simp [wayD, h8, hl]) (by simp; omega)
      simpa using this
    have c1 := hc A "first" none (by omega)
    have c2 := hc B "second" (some (.lst (((ways i A).map wayD).map fun d => match d with | .lst ds => .lst (.str "first" :: ds) | _ => .non))) (by omega)
    have em : (((ways i A).map wayD).map fun d => match d with | .lst ds => D.lst (.str "first" :: ds) | _ => .non) ++ (((ways i B).map wayD).map fun d => match d with | .lst ds => D.lst (.str "second" :: ds) | _ => .non) = (ways i (.both A B)).map wayD := by
      simp only [ways, List.map_append, List.map_map]
      rfl
    have ll : (((ways i A).map wayD).map fun d => match d with | .lst ds => D.lst (.str "first" :: ds) | _ => .non).length + (((ways i B).map wayD).map fun d => match d with | .lst ds => D.lst (.str "second" :: ds) | _ => .non).length ≤ 16777216 := by simp; omega
    generalize (((ways i A).map wayD).map fun d => match d with | .lst ds => D.lst (.str "first" :: ds) | _ => .non) = P at *
    generalize (((ways i B).map wayD).map fun d => match d with | .lst ds => D.lst (.str "second" :: ds) | _ => .non) = Q at *
    rw [ev, b__law_ways]
    rw [← em]
    simp only [Kd.d] at c1 c2 ⊢
    simp [eA, eB, wipeR, c1, c2, h8, ll]
end Kz
namespace Kz
open PySem PySem.Spec PyProof.Rows L2 Kw
theorem compL_ls {S : Store} {tg : FG} {tt : FT} {te : FE} {ρ : FEnv} {α : Type} (f g : α → D) : ∀ (L : List α) (acc : List D), (∀ s ∈ L, ∃ ρ1, tg (f s) ρ S = some (ρ1, S) ∧ tt ρ1 S = .ok true S ∧ te ρ1 S = .ok (g s) S) → acc.length + L.length ≤ sizeLine →
    compL tg tt te none ρ (L.map f) acc S = .ok (acc ++ L.map g) S
  | [], acc, _, _ => by simp [compL_nil (show gd none S by unfold gd; trivial)]
  | s :: L, acc, h, hl => by
    obtain ⟨ρ1, h1, h2, h3⟩ := h s List.mem_cons_self
    simp only [List.map_cons]
    rw [compL_step (by unfold gd; trivial) h1 h2 h3 (by simp at hl; omega), compL_ls f g L (acc ++ [g s]) (fun e he => h e (List.mem_cons_of_mem _ he)) (by simp at hl ⊢; omega)]
    simp
end Kz
namespace Kz
open PySem PySem.Spec PyProof.Rows L2 Kw
theorem lkof_ok : ∀ (t : Tm) {Γ : List Kd} {K : Kd} {n : Nat} {S : Store}, tkd Γ t = some K → t.ht + 1 ≤ n → Γ.length + t.ht ≤ 10000 → ev n .f__law_kind_of [t.d, .lst (Γ.map Kd.d)] S = .ok K.d S
  | .giv k, Γ, K, n, S, ht, h, hl => by
    have h8 : sizeLine = 16777216 := rfl
    obtain ⟨m, rfl, h'⟩ := up (d := 0) (by omega : 0 + 1 ≤ n)
    simp only [tkd] at ht
    obtain ⟨hk, ek⟩ := List.getElem?_eq_some_iff.mp ht
    rw [ev, b__law_kind_of]
    simp [Tm.d, ht]
  | .unit, Γ, K, n, S, ht, h, hl => by
    have h8 : sizeLine = 16777216 := rfl
    obtain ⟨m, rfl, h'⟩ := up (d := 0) (by omega : 0 + 1 ≤ n)
    simp only [tkd] at ht
    cases ht
    rw [ev, b__law_kind_of]
    simp [Tm.d, h8, Kd.d]
  | .mk A b, Γ, K, n, S, ht, h, hl => by
    have h8 : sizeLine = 16777216 := rfl
    simp only [Tm.ht] at h hl
    obtain ⟨m, rfl, h'⟩ := up (d := b.ht + 1) h
    simp only [tkd, Option.bind_eq_some_iff] at ht
    obtain ⟨B, hB, e⟩ := ht
    cases e
    have eb := lkof_ok b (n := m) (S := S) hB (by omega) (by simp; omega)
    have ll : Γ.length + 1 ≤ 16777216 := by omega
    simp only [List.map_append, List.map_cons, List.map_nil] at eb
    rw [ev, b__law_kind_of]
    simp [Tm.d, h8, Kd.d, eb, ll]
  | .app a b, Γ, K, n, S, ht, h, hl => by
    have h8 : sizeLine = 16777216 := rfl
    simp only [Tm.ht] at h hl
    obtain ⟨m, rfl, h'⟩ := up (d := max a.ht b.ht + 1) h
    simp only [tkd, Option.bind_eq_some_iff] at ht
    obtain ⟨u, hu, x, hx, e⟩ := ht
    have ea := lkof_ok a (n := m) (S := S) hu (by omega) (by omega)
    split at e
    · rename_i A B
      split at e
      · cases e
        simp only [Kd.d] at ea
        rw [ev, b__law_kind_of]
        simp [Tm.d, h8, ea]
      · cases e
    · cases e
  | .both a b, Γ, K, n, S, ht, h, hl => by
    have h8 : sizeLine = 16777216 := rfl
    simp only [Tm.ht] at h hl
    obtain ⟨m, rfl, h'⟩ := up (d := max a.ht b.ht + 1) h
    simp only [tkd, Option.bind_eq_some_iff] at ht
    obtain ⟨u, hu, x, hx, e⟩ := ht
    cases e
    have ea := lkof_ok a (n := m) (S := S) hu (by omega) (by omega)
    have eb := lkof_ok b (n := m) (S := S) hx (by omega) (by omega)
    rw [ev, b__law_kind_of]
    simp [Tm.d, h8, ea, eb, Kd.d]
  | .fst a, Γ, K, n, S, ht, h, hl => by
    have h8 : sizeLine = 16777216 := rfl
    simp only [Tm.ht] at h hl
    obtain ⟨m, rfl, h'⟩ := up (d := a.ht + 1) h
    simp only [tkd, Option.bind_eq_some_iff] at ht
    obtain ⟨u, hu, e⟩ := ht
    have ea := lkof_ok a (n := m) (S := S) hu (by omega) (by omega)
    split at e
    · cases e
      simp only [Kd.d] at ea
      rw [ev, b__law_kind_of]
      simp [Tm.d, h8, ea]
    · cases e
  | .snd a, Γ, K, n, S, ht, h, hl => by
    have h8 : sizeLine = 16777216 := rfl
    simp only [Tm.ht] at h hl
    obtain ⟨m, rfl, h'⟩ := up (d := a.ht + 1) h
    simp only [tkd, Option.bind_eq_some_iff] at ht
    obtain ⟨u, hu, e⟩ := ht
    have ea := lkof_ok a (n := m) (S := S) hu (by omega) (by omega)
    split at e
    · cases e
      simp only [Kd.d] at ea
      rw [ev, b__law_kind_of]
      simp [Tm.d, h8, ea]
    · cases e
theorem compL_fil {tg : FG} {tt : FT} {te : FE} {ρ : FEnv} {S : Store} (p : D → Bool) (f : D → D) : ∀ (ds acc : List D), (∀ d ∈ ds, ∃ ρ1, tg d ρ S = some (ρ1, S) ∧ tt ρ1 S = .ok (p d) S ∧ (p d = true → te ρ1 S = .ok (f d) S)) → acc.length + ds.length ≤ sizeLine →
    compL tg tt te none ρ ds acc S = .ok (acc ++ (ds.filter p).map f) S
  | [], acc, _, _ => by simp [compL_nil (show gd none S by unfold gd; trivial)]
  | d :: ds, acc, h, hl => by
    obtain ⟨ρ1, h1, h2, h3⟩ := h d List.mem_cons_self
    have hr := fun e he => h e (List.mem_cons_of_mem d he)
    cases hp : p d with
    | true =>
      rw [hp] at h2
      rw [compL_step (by unfold gd; trivial) h1 h2 (h3 hp) (by simp at hl; omega), compL_fil p f ds _ hr (by simp at hl ⊢; omega)]
      simp [hp]
    | false =>
      rw [hp] at h2
      rw [compL_skip (by unfold gd; trivial) h1 h2, compL_fil p f ds _ hr (by simp at hl ⊢; omega)]
      simp [hp]
end Kz
namespace Kz
open PySem PySem.Spec PyProof.Rows L2 Kw
mutual
/-- plain terms -/
inductive Nf : List Kd → Kd → Tm → Prop
  | unit {Γ : List Kd} : Nf Γ .unit .unit
  | both {Γ : List Kd} {A B : Kd} {a b : Tm} : Nf Γ A a → Nf Γ B b → Nf Γ (.both A B) (.both a b)
  | mk {Γ : List Kd} {A B : Kd} {b : Tm} : Nf (Γ ++ [A]) B b → Nf Γ (.frm A B) (.mk A b)
  | base {Γ : List Kd} {i : Fin 8} {t : Tm} : Ne Γ (.base i) t → Nf Γ (.base i) t
/-- a given, or what is done to one -/
inductive Ne : List Kd → Kd → Tm → Prop
  | giv {Γ : List Kd} {k : Nat} {K : Kd} : Γ[k]? = some K → Ne Γ K (.giv k)
  | fst {Γ : List Kd} {A B : Kd} {t : Tm} : Ne Γ (.both A B) t → Ne Γ A (.fst t)
  | snd {Γ : List Kd} {A B : Kd} {t : Tm} : Ne Γ (.both A B) t → Ne Γ B (.snd t)
  | app {Γ : List Kd} {A B : Kd} {t a : Tm} : Ne Γ (.frm A B) t → Nf Γ A a → Ne Γ B (.app t a)
end
mutual
theorem Nf.kd : ∀ {Γ : List Kd} {K : Kd} {t : Tm}, Nf Γ K t → tkd Γ t = some K
  | _, _, _, .unit => rfl
  | _, _, _, .both a b => by simp [tkd, a.kd, b.kd]
  | _, _, _, .mk b => by simp [tkd, b.kd]
  | _, _, _, .base t => t.kd
theorem Ne.kd : ∀ {Γ : List Kd} {K : Kd} {t : Tm}, Ne Γ K t → tkd Γ t = some K
  | _, _, _, .giv h => h
  | _, _, _, .fst t => by simp [tkd, t.kd]
  | _, _, _, .snd t => by simp [tkd, t.kd]
  | _, _, _, .app t a => by simp [tkd, t.kd, a.kd]
end
theorem sz_dep : ∀ K : Kd, K.sz < 2 ^ (K.dep + 1)
  | .base _ => by simp [Kd.sz, Kd.dep]
  | .unit => by simp [Kd.sz, Kd.dep]
  | .both a b => by
    have ha := sz_dep a
    have hb := sz_dep b
    have ma : 2 ^ (a.dep + 1) ≤ 2 ^ (max a.dep b.dep + 1) := Nat.pow_le_pow_right (by omega) (by omega)
    have mb : 2 ^ (b.dep + 1) ≤ 2 ^ (max a.dep b.dep + 1) := Nat.pow_le_pow_right (by omega) (by omega)
    simp only [Kd.sz, Kd.dep]
    rw [Nat.pow_succ _ (max a.dep b.dep + 1)]; omega
  | .frm a b => by
    have ha := sz_dep a
    have hb := sz_dep b
    have ma : 2 ^ (a.dep + 1) ≤ 2 ^ (max a.dep b.dep + 1) := Nat.pow_le_pow_right (by omega) (by omega)
    have mb : 2 ^ (b.dep + 1) ≤ 2 ^ (max a.dep b.dep + 1) := Nat.pow_le_pow_right (by omega) (by omega)
    simp only [Kd.sz, Kd.dep]
    rw [Nat.pow_succ _ (max a.dep b.dep + 1)]; omega
theorem sz_le8 {K : Kd} {q : Nat} (h : K.dep ≤ q) (hq : q ≤ 8) : K.sz ≤ 512 := by
  have := sz_dep K
  have : 2 ^ (K.dep + 1) ≤ 2 ^ 9 := Nat.pow_le_pow_right (by omega) (by omega)
  omega
/-- the givens: every base is there; within bounds -/
structure Gk (q β : Nat) (Γ : List Kd) : Prop where
  base : ∀ i : Fin 8, i.val < β → ∃ k : Nat, Γ[k]? = some (.base i)
  dep : ∀ A ∈ Γ, A.dep ≤ q
  bel : ∀ A ∈ Γ, A.bel β
theorem Gk.snoc {q β : Nat} {Γ : List Kd} (h : Gk q β Γ) {A : Kd} (hd : A.dep ≤ q) (hb : A.bel β) : Gk q β (Γ ++ [A]) :=
  ⟨fun i hi => by
    obtain ⟨k, hk⟩ := h.base i hi
    obtain ⟨hl, _⟩ := List.getElem?_eq_some_iff.mp hk
    exact ⟨k, by rw [List.getElem?_append_left hl]; exact hk⟩, fun X hX => by
    rcases List.mem_append.mp hX with hX | hX
    · exact h.dep X hX
    · have : X = A := by simpa using hX
      rw [this]; exact hd, fun X hX => by
    rcases List.mem_append.mp hX with hX | hX
    · exact h.bel X hX
    · have : X = A := by simpa using hX
      rw [this]; exact hb⟩
/-- the ways of all givens -/
def wsL (i : Nat) : Nat → List Kd → List (Nat × List Sp)
  | _, [] => []
  | k, A :: r => (ways i A).map (fun p => (k, p)) ++ wsL i (k + 1) r
def prD (x : Nat × List Sp) : D := .tup [.int (x.1 : Int), wayD x.2]
theorem wsL_len {i z : Nat} : ∀ (r : List Kd) (k : Nat), (∀ A ∈ r, A.sz ≤ z) → (wsL i k r).length ≤ r.length * z
  | [], k, _ => by simp [wsL]
  | A :: r, k, h => by
    have := ways_len i A
    have := h A List.mem_cons_self
    have := wsL_len (i := i) r (k + 1) (fun B hB => h B (List.mem_cons_of_mem _ hB))
    simp only [wsL, List.length_append, List.length_map, List.length_cons]
    rw [Nat.add_mul]; omega
theorem wsL_mem {i : Nat} {x : Nat × List Sp} : ∀ (r : List Kd) (k : Nat), x ∈ wsL i k r → ∃ A, k ≤ x.1 ∧ r[x.1 - k]? = some A ∧ x.2 ∈ ways i A
  | A :: r, k, h => by
    simp only [wsL, List.mem_append, List.mem_map] at h
    rcases h with ⟨p, hp, rfl⟩ | h
    · exact ⟨A, Nat.le_refl _, by simp, hp⟩
    · obtain ⟨B, h1, h2, h3⟩ := wsL_mem r (k + 1) h
      refine ⟨B, by omega, ?_, h3⟩
      have : x.1 - k = (x.1 - (k + 1)) + 1 := by omega
      rw [this, List.getElem?_cons_succ]; exact h2
theorem wsL_base {i : Fin 8} : ∀ (r : List Kd) (k j : Nat), r[j]? = some (.base i) → (k + j, []) ∈ wsL i.val k r
  | A :: r, k, 0, h => by
    have : A = .base i := by simpa using h
    subst this
    simp [wsL, ways]
  | A :: r, k, j + 1, h => by
    have := wsL_base r (k + 1) j (by simpa using h)
    simp only [wsL, List.mem_append]
    right
    have e : k + (j + 1) = k + 1 + j := by omega
    rw [e]; exact this
section
variable {m w : Nat}
theorem flat_ways {i q : Nat} {f : Int} {Γ : List Kd} {x0 x1 : D} {x6 x7 x8 x9 : Option D} {S : Store} (hm : q + 1 ≤ m) (hz : ∀ A ∈ Γ, A.dep ≤ q) (hq : q ≤ 8) (hl : Γ.length ≤ 5000) (h1 : gIx x1 (.int 1) S = .ok (.int (i : Int)) S) : ∀ (r pre : List Kd) (acc : List (Nat × List Sp)) (x5 : Option D), Γ = pre ++ r → acc.length + (wsL i pre.length r).length ≤ 10000000 →
    ∃ y5, forL (gN 5) (l__law_flat_0 (ev m)) none (rngD (pre.length : Int) r.length) [some x0, some x1, some (.lst (Γ.map Kd.d)), some (.int f), some (.lst (acc.map prD)), x5, x6, x7, x8, x9] S = .nx [some x0, some x1, some (.lst (Γ.map Kd.d)), some (.int f), some (.lst ((acc ++ wsL i pre.length r).map prD)), y5, x6, x7, x8, x9] S
  | [], pre, acc, x5, e, hb => ⟨x5, by simp [rngD, wsL]⟩
  | A :: r, pre, acc, x5, e, hb => by
    have h8 : sizeLine = 16777216 := rfl
    have hA : A ∈ Γ := by rw [e]; simp
    have dA := hz A hA
    have zA := sz_le8 dA hq
    have eat : Γ[pre.length]? = some A := by rw [e]; simp
    have ew := lways_sp (i := i) A (n := m) (S := S) (by omega) (by omega)
    have lw := ways_len i A
    simp only [wsL, List.length_append, List.length_map] at hb
    have hc := compL_ls (tg := gN 6) (tt := fYes) (te := fArg mkTup (fCons (fVar 5) (fCons (fVar 6) fNil))) (ρ := [some x0, some x1, some (.lst (Γ.map Kd.d)), some (.int f), some (.lst (acc.map prD)), some (.int (pre.length : Int)), none, x7, x8, x9]) (S := S) wayD (fun p => prD (pre.length, p)) (ways i A) [] (fun p hp => ⟨[some x0, some x1, some (.lst (Γ.map Kd.d)), some (.int f), some (.lst (acc.map prD)), some (.int (pre.length : Int)), some (wayD p), x7, x8, x9], by simp, rfl, by simp [prD, h8]⟩) (by simp; omega)
    have gi : gIx (.lst (Γ.map Kd.d)) (.int (pre.length : Int)) S = .ok A.d S := by simp [eat]
    have step : l__law_flat_0 (ev m) [some x0, some x1, some (.lst (Γ.map Kd.d)), some (.int f), some (.lst (acc.map prD)), some (.int (pre.length : Int)), x6, x7, x8, x9] S = .nx [some x0, some x1, some (.lst (Γ.map Kd.d)), some (.int f), some (.lst ((acc ++ (ways i A).map fun p => (pre.length, p)).map prD)), some (.int (pre.length : Int)), x6, x7, x8, x9] S := by
      unfold l__law_flat_0
      have ll : (acc.map prD).length + ((ways i A).map fun p => prD (pre.length, p)).length ≤ 16777216 := by simp; omega
      have em : (acc ++ (ways i A).map fun p => (pre.length, p)).map prD = acc.map prD ++ (ways i A).map fun p => prD (pre.length, p) := by simp [Function.comp_def]
      rw [em]
      generalize acc.map prD = P at *
      generalize ((ways i A).map fun p => prD (pre.length, p)) = Q at *
      generalize (pre.length : Int) = Z at *
      generalize D.lst (Γ.map Kd.d) = G at *
      simp only [List.nil_append] at hc
      simp [h1, gi, ew, wipeR, hc, h8, ll]
    obtain ⟨y5, ih⟩ := flat_ways hm hz hq hl h1 r (pre ++ [A]) (acc ++ (ways i A).map fun p => (pre.length, p)) (some (.int (pre.length : Int))) (by rw [e]; simp) (by simp; omega)
    refine ⟨y5, ?_⟩
    have er : rngD (pre.length : Int) (A :: r).length = .int (pre.length : Int) :: rngD ((pre.length : Int) + 1) r.length := rfl
    have el : ((pre ++ [A]).length : Int) = (pre.length : Int) + 1 := by simp
    rw [el] at ih
    have ela : (pre ++ [A]).length = pre.length + 1 := by simp
    rw [ela, List.append_assoc] at ih
    rw [er, forL_cons]
    show _ = RS.nx [some x0, some x1, some (.lst (Γ.map Kd.d)), some (.int f), some (.lst ((acc ++ wsL i pre.length (A :: r)).map prD)), y5, x6, x7, x8, x9] S
    simp only [wsL]
    rw [← ih]
    simp [step]
/-- a term is told for things of depth p and less, as deep as b -/
def TeldA (m w q β : Nat) (Γ : List Kd) (f : Int) (p b : Nat) : Prop := ∀ (A : Kd) (S : Store), A.dep ≤ p → A.bel β → Well S w → ∃ t S', ev m .f__law_flat [.loc w, A.d, .lst (Γ.map Kd.d), .int f] S = .ok t.d S' ∧ Nf Γ A t ∧ kdsT q t ∧ t.ht ≤ b ∧ WS S w S'
theorem flat_follow {q β : Nat} {i : Fin 8} {f : Int} {Γ : List Kd} {p b : Nat} {x1 : D} {x4 x5 x6 : Option D} : ∀ (K : Kd) (P : List Sp) (t : Tm) (h : Nat) (S : Store) (x8 : Option D), P ∈ ways i.val K → (P ≠ [] → TeldA m w q β Γ (f - 1) p b) → K.dep ≤ p + 1 → K.bel β → Ne Γ K t → kdsT q t → t.ht ≤ max h b + h → Well S w → ∃ t' y8 S', forL (gN 8) (l__law_flat_1 (ev m)) none (P.map Sp.d) [some (.loc w), some x1, some (.lst (Γ.map Kd.d)), some (.int f), x4, x5, x6, some t.d, x8, none] S = .nx [some (.loc w), some x1, some (.lst (Γ.map Kd.d)), some (.int f), x4, x5, x6, some t'.d, y8, none] S' ∧ Ne Γ (.base i) t' ∧ kdsT q t' ∧ t'.ht ≤ max (h + P.length) b + (h + P.length) ∧ WS S w S'
  | .base j, P, t, h, S, x8, hP, hr, hd, hβ, ht, hk, hh, hw => by
    unfold ways at hP
    split at hP
    · rename_i e
      have : P = [] := by simpa using hP
      subst this
      have : j = i := Fin.ext e
      subst this
      exact ⟨t, x8, S, by simp, ht, hk, by simpa using hh, WS.refl hw⟩
    · cases hP
  | .unit, P, t, h, S, x8, hP, hr, hd, hβ, ht, hk, hh, hw => by simp [ways] at hP
  | .frm A B, P, t, h, S, x8, hP, hr, hd, hβ, ht, hk, hh, hw => by
    have h8 : sizeLine = 16777216 := rfl
    simp only [ways, List.mem_map] at hP
    obtain ⟨Q, hQ, rfl⟩ := hP
    simp only [Kd.dep] at hd
    obtain ⟨a, S1, ea, na, ka, ha, wa⟩ := hr (by simp) A S (by omega) hβ.1 hw
    obtain ⟨t', y8, S2, e2, n2, k2, h2, w2⟩ := flat_follow (p := p) (x1 := x1) (x4 := x4) (x5 := x5) (x6 := x6) B Q (.app t a) (h + 1) S1 (some A.d) hQ (fun hne => hr (by simp)) (by omega) hβ.2 (.app ht na) ⟨hk, ka⟩ (by simp only [Tm.ht]; omega) wa.well
    refine ⟨t', y8, S2, ?_, n2, k2, by simp only [List.length_cons] at h2 ⊢; omega, wa.trans w2⟩
    have is_ : isiR "str" A.d S = .ok (.bl false) S := by
      obtain ⟨ds, hds⟩ := Kd.d_tup A
      rw [hds]; rfl
    simp only [List.map_cons, Sp.d]
    rw [forL_cons]
    have step : l__law_flat_1 (ev m) [some (.loc w), some x1, some (.lst (Γ.map Kd.d)), some (.int f), x4, x5, x6, some t.d, some A.d, none] S = .nx [some (.loc w), some x1, some (.lst (Γ.map Kd.d)), some (.int f), x4, x5, x6, some (Tm.app t a).d, some A.d, none] S1 := by
      unfold l__law_flat_1
      simp [is_, ea, h8, Tm.d]
    simp [step, e2]
  | .both A B, P, t, h, S, x8, hP, hr, hd, hβ, ht, hk, hh, hw => by
    have h8 : sizeLine = 16777216 := rfl
    simp only [ways, List.mem_append, List.mem_map] at hP
    simp only [Kd.dep] at hd
    rcases hP with ⟨Q, hQ, rfl⟩ | ⟨Q, hQ, rfl⟩
    · obtain ⟨t', y8, S2, e2, n2, k2, h2, w2⟩ := flat_follow (p := p) (x1 := x1) (x4 := x4) (x5 := x5) (x6 := x6) A Q (.fst t) (h + 1) S (some (.str "first")) hQ (fun hne => hr (by simp)) (by omega) hβ.1 (.fst ht) hk (by simp only [Tm.ht]; omega) hw
      refine ⟨t', y8, S2, ?_, n2, k2, by simp only [List.length_cons] at h2 ⊢; omega, w2⟩
      simp only [List.map_cons, Sp.d]
      rw [forL_cons]
      have step : l__law_flat_1 (ev m) [some (.loc w), some x1, some (.lst (Γ.map Kd.d)), some (.int f), x4, x5, x6, some t.d, some (.str "first"), none] S = .nx [some (.loc w), some x1, some (.lst (Γ.map Kd.d)), some (.int f), x4, x5, x6, some (Tm.fst t).d, some (.str "first"), none] S := by
        unfold l__law_flat_1
        simp [h8, Tm.d]
      simp [step, e2]
    · obtain ⟨t', y8, S2, e2, n2, k2, h2, w2⟩ := flat_follow (p := p) (x1 := x1) (x4 := x4) (x5 := x5) (x6 := x6) B Q (.snd t) (h + 1) S (some (.str "second")) hQ (fun hne => hr (by simp)) (by omega) hβ.2 (.snd ht) hk (by simp only [Tm.ht]; omega) hw
      refine ⟨t', y8, S2, ?_, n2, k2, by simp only [List.length_cons] at h2 ⊢; omega, w2⟩
      simp only [List.map_cons, Sp.d]
      rw [forL_cons]
      have step : l__law_flat_1 (ev m) [some (.loc w), some x1, some (.lst (Γ.map Kd.d)), some (.int f), x4, x5, x6, some t.d, some (.str "second"), none] S = .nx [some (.loc w), some x1, some (.lst (Γ.map Kd.d)), some (.int f), x4, x5, x6, some (Tm.snd t).d, some (.str "second"), none] S := by
        unfold l__law_flat_1
        simp [h8, Tm.d]
      simp [step, e2]
theorem itR_k {z : Int} {S : Store} (h0 : 0 ≤ z) (h1 : z ≤ 1000000) : itR [.int z] S = .ok (rngD 0 z.toNat, none) S := by
  show (if -(2 ^ 62) ≤ z ∧ z < 2 ^ 62 then RE.ok (rngD 0 z.toNat, none) S else .no) = _
  rw [if_pos ⟨by omega, by omega⟩]
theorem wsL_pos {i : Fin 8} {q β : Nat} {Γ : List Kd} (h : Gk q β Γ) (hi : i.val < β) : ∃ k : Nat, (k, []) ∈ wsL i.val 0 Γ := by
  obtain ⟨k, hk⟩ := h.base i hi
  have := wsL_base Γ 0 k hk
  exact ⟨k, by simpa using this⟩
theorem draw_nat {n w V : Nat} {S : Store} (hn : 1 ≤ n) (hw : Well S w) (h0 : 0 < V) (h1 : V ≤ 5000000) : ∃ (r : Nat) (S' : Store), r < V ∧ ev n .f__law_draw [.loc w, .int (V : Int)] S = .ok (.int (r : Int)) S' ∧ WS S w S' := by
  obtain ⟨Z, hZ⟩ : ∃ Z : Int, Z = (V : Int) := ⟨_, rfl⟩
  have z0 : 0 < Z := by omega
  have z1 : Z < 1000000000 := by omega
  obtain ⟨r, S', e, r0, r1, w1⟩ := draw_sp (n := n) (S := S) (w := w) (m := Z) hn hw z0 z1
  rw [hZ] at e r1
  refine ⟨r.toNat, S', by omega, ?_, w1⟩
  rw [e]
  have : ((r.toNat : Nat) : Int) = r := by omega
  rw [this]
/-- without fuel: the ways that are none -/
theorem flat_fil {w : Nat} {i : Fin 8} {f : Nat} {Γ : List Kd} {S : Store} {W : List (Nat × List Sp)} {y5 : Option D} (hlw : (wsL i.val 0 Γ).length ≤ 3000000) (hW : (if f = 0 then (wsL i.val 0 Γ).filter (fun x => x.2.isEmpty) else wsL i.val 0 Γ) = W) :
    sIf (fB (f2 (gCmp fun i j => decide (i ≤ j)) (fVar 3) (fC (.int 0)))) (sSet 4 (fLc false (fiL (fVar 4)) (gN 9) (fB (f2 gEq (f2 gIx (fVar 9) (fC (.int 1))) (fArg mkLst fNil))) (fVar 9) [9])) sNil [some (.loc w), some (Kd.base i).d, some (.lst (Γ.map Kd.d)), some (.int (f : Int)), some (.lst ((wsL i.val 0 Γ).map prD)), y5, none, none, none, none] S = .nx [some (.loc w), some (Kd.base i).d, some (.lst (Γ.map Kd.d)), some (.int (f : Int)), some (.lst (W.map prD)), y5, none, none, none, none] S := by
  have h8 : sizeLine = 16777216 := rfl
  by_cases h0 : f = 0
  · subst h0
    rw [if_pos rfl] at hW
    rw [show ((0 : Nat) : Int) = 0 from rfl] at *
    have hc := compL_fil (tg := gN 9) (tt := fB (f2 gEq (f2 gIx (fVar 9) (fC (.int 1))) (fArg mkLst fNil))) (te := fVar 9) (ρ := [some (.loc w), some (Kd.base i).d, some (.lst (Γ.map Kd.d)), some (.int 0), some (.lst ((wsL i.val 0 Γ).map prD)), y5, none, none, none, none]) (S := S) (fun d => match d with | .tup [_, .lst []] => true | _ => false) id ((wsL i.val 0 Γ).map prD) [] (fun d hd => by
      obtain ⟨x, hx, rfl⟩ := List.mem_map.mp hd
      refine ⟨[some (.loc w), some (Kd.base i).d, some (.lst (Γ.map Kd.d)), some (.int 0), some (.lst ((wsL i.val 0 Γ).map prD)), y5, none, none, none, some (prD x)], by simp, ?_, fun _ => by simp⟩
      cases hp : x.2 <;> simp [prD, wayD, hp]) (by simp; omega)
    have em : (((wsL i.val 0 Γ).map prD).filter (fun d => match d with | .tup [_, .lst []] => true | _ => false)).map id = W.map prD := by
      rw [← hW, List.map_id, List.filter_map]
      congr 1
      apply List.filter_congr
      intro x hx
      simp only [Function.comp_apply, prD, wayD]
      cases x.2 <;> rfl
    rw [em, List.nil_append] at hc
    simp [wipeR, hc]
  · rw [if_neg h0] at hW
    have : ¬ (f : Int) ≤ 0 := by omega
    subst hW
    simp [this, h0]
/-- one of the ways is drawn, and gone -/
theorem flat_base {n q β b : Nat} {i : Fin 8} {f : Nat} {Γ : List Kd} {S : Store} (hg : Gk q β Γ) (hi : i.val < β) (hq : q ≤ 8) (hl : Γ.length ≤ 5000) (hn : q + 3 ≤ n + 1) (hr : 0 < f → TeldA n w q β Γ ((f : Int) - 1) (q - 1) b) (hb : f = 0 → b = 0) (hw : Well S w) :
    ∃ t S', ev (n + 1) .f__law_flat [.loc w, (Kd.base i).d, .lst (Γ.map Kd.d), .int (f : Int)] S = .ok t.d S' ∧ Nf Γ (.base i) t ∧ kdsT q t ∧ t.ht ≤ (if f = 0 then 0 else max q b + q) ∧ WS S w S' := by
  have h8 : sizeLine = 16777216 := rfl
  have hz : ∀ A ∈ Γ, A.sz ≤ 512 := fun A hA => sz_le8 (hg.dep A hA) hq
  have hlw := wsL_len (i := i.val) Γ 0 hz
  obtain ⟨y5, e1⟩ : ∃ y5, forL (gN 5) (l__law_flat_0 (ev n)) none (rngD 0 Γ.length) [some (.loc w), some (Kd.base i).d, some (.lst (Γ.map Kd.d)), some (.int (f : Int)), some (.lst []), none, none, none, none, none] S = .nx [some (.loc w), some (Kd.base i).d, some (.lst (Γ.map Kd.d)), some (.int (f : Int)), some (.lst ((wsL i.val 0 Γ).map prD)), y5, none, none, none, none] S := by
    obtain ⟨y5, e1⟩ := flat_ways (m := n) (i := i.val) (q := q) (f := (f : Int)) (Γ := Γ) (x0 := .loc w) (x1 := (Kd.base i).d) (x6 := none) (x7 := none) (x8 := none) (x9 := none) (S := S) (by omega) hg.dep hq hl (by simp [Kd.d]) Γ [] [] none rfl (by simp; omega)
    exact ⟨y5, e1⟩
  obtain ⟨k0, hk0⟩ := wsL_pos (i := i) hg hi
  -- what is left of the ways
  obtain ⟨W, hW, hsub, hne, hnil⟩ : ∃ W : List (Nat × List Sp), (if f = 0 then (wsL i.val 0 Γ).filter (fun x => x.2.isEmpty) else wsL i.val 0 Γ) = W ∧ (∀ x ∈ W, x ∈ wsL i.val 0 Γ) ∧ W ≠ [] ∧ (f = 0 → ∀ x ∈ W, x.2 = []) := by
    refine ⟨_, rfl, fun x hx => ?_, fun h => ?_, fun h0 x hx => ?_⟩
    · split at hx
      · exact (List.mem_filter.mp hx).1
      · exact hx
    · split at h
      · have : (k0, ([] : List Sp)) ∈ (wsL i.val 0 Γ).filter (fun x => x.2.isEmpty) := List.mem_filter.mpr ⟨hk0, rfl⟩
        rw [h] at this; cases this
      · rw [h] at hk0; cases hk0
    · rw [if_pos h0] at hx
      have := (List.mem_filter.mp hx).2
      simpa using this
  have lW : W.length ≤ (wsL i.val 0 Γ).length := by
    rw [← hW]
    split
    · exact List.length_filter_le _ _
    · exact Nat.le_refl _
  have e2 := flat_fil (w := w) (S := S) (y5 := y5) (by omega) hW
  have lW0 : 0 < W.length := List.length_pos_iff.mpr hne
  obtain ⟨r', S1, hr', e3, w1⟩ := draw_nat (n := n) (S := S) (w := w) (V := W.length) (by omega) hw lW0 (by omega)
  obtain ⟨A, hA1, hA2, hA3⟩ := wsL_mem Γ 0 (hsub _ (List.getElem_mem hr'))
  simp only [Nat.sub_zero] at hA2
  have dA : A.dep ≤ q := hg.dep A (List.mem_of_getElem? hA2)
  obtain ⟨t', y8, S2, e4, n4, k4, h4, w4⟩ := flat_follow (m := n) (w := w) (q := q) (i := i) (f := (f : Int)) (Γ := Γ) (p := q - 1) (b := b) (x1 := (Kd.base i).d) (x4 := some (.lst (W.map prD))) (x5 := some (.int ((W[r']).1 : Int))) (x6 := some (wayD (W[r']).2)) A (W[r']).2 (.giv (W[r']).1) 0 S1 none hA3 (fun hne' => hr (by
    rcases Nat.eq_zero_or_pos f with h0 | h0
    · exact absurd (hnil h0 _ (List.getElem_mem hr')) hne'
    · exact h0)) (by omega) (hg.bel A (List.mem_of_getElem? hA2)) (.giv hA2) trivial (by simp [Tm.ht]) w1.well
  have lP : (W[r']).2.length ≤ q := Nat.le_trans (ways_dep i.val A _ hA3) dA
  refine ⟨t', S2, ?_, .base n4, k4, ?_, w1.trans w4⟩
  · rw [ev, b__law_flat]
    have gi : gIx (.lst (W.map prD)) (.int (r' : Int)) S1 = .ok (.tup [.int ((W[r']).1 : Int), wayD (W[r']).2]) S1 := by simp [hr', prD]
    have gl : gLen [.lst (Γ.map Kd.d)] S = .ok (.int (Γ.length : Int)) S := by simp
    have gl2 : gLen [.lst (W.map prD)] S = .ok (.int (W.length : Int)) S := by simp
    have itl : itR [.int (Γ.length : Int)] S = .ok (rngD 0 Γ.length, none) S := by
      rw [itR_k (by omega) (by omega), Int.toNat_natCast]
    simp only [Kd.d] at e1 e2 e4
    generalize sIf (fB (f2 (gCmp fun i j => decide (i ≤ j)) (fVar 3) (fC (.int 0)))) (sSet 4 (fLc false (fiL (fVar 4)) (gN 9) (fB (f2 gEq (f2 gIx (fVar 9) (fC (.int 1))) (fArg mkLst fNil))) (fVar 9) [9])) sNil = st at e2 ⊢
    simp only [Tm.d] at e4
    have tg2 : ∀ (ρ : FEnv) (S : Store), gTu 2 (gsCons (gN 5) (gsCons (gN 6) gsNil)) (.tup [.int ((W[r']).1 : Int), wayD (W[r']).2]) ρ S = some ((ρ.set 5 (some (.int ((W[r']).1 : Int)))).set 6 (some (wayD (W[r']).2)), S) := by intro ρ S; simp
    have itw : ∀ S, itL (wayD (W[r']).2) S = .ok ((W[r']).2.map Sp.d, none) S := fun S => rfl
    generalize wayD (W[r']).2 = Y at *
    generalize ((W[r']).1 : Int) = X at *
    generalize hGd : D.lst (Γ.map Kd.d) = Gd at *
    generalize hWd : D.lst (W.map prD) = Wd at *
    generalize D.lst ((wsL i.val 0 Γ).map prD) = Vd at *
    have eF : sFor (fiR1 (fCons (fArg gLen (fCons (fVar 2) fNil)) fNil)) (gN 5) (l__law_flat_0 (ev n)) [some (.loc w), some (.tup [.str "base", .int ((i.val : Nat) : Int)]), some Gd, some (.int (f : Int)), some (.lst []), none, none, none, none, none] S = .nx [some (.loc w), some (.tup [.str "base", .int ((i.val : Nat) : Int)]), some Gd, some (.int (f : Int)), some Vd, y5, none, none, none, none] S := by
      rw [sFor_ap, fiR1_ap]
      have a1 : fCons (fArg gLen (fCons (fVar 2) fNil)) fNil [some (.loc w), some (.tup [.str "base", .int ((i.val : Nat) : Int)]), some Gd, some (.int (f : Int)), some (.lst []), none, none, none, none, none] S = .ok [.int (Γ.length : Int)] S := by simp [gl, -gLen_lst]
      rw [a1, bnd_ok, itl]
      exact e1
    have eA : sAsg (f2 gIx (fVar 4) (fArg (ev n .f__law_draw) (fCons (fVar 0) (fCons (fArg gLen (fCons (fVar 4) fNil)) fNil)))) (gTu 2 (gsCons (gN 5) (gsCons (gN 6) gsNil))) [some (.loc w), some (.tup [.str "base", .int ((i.val : Nat) : Int)]), some Gd, some (.int (f : Int)), some Wd, y5, none, none, none, none] S = .nx [some (.loc w), some (.tup [.str "base", .int ((i.val : Nat) : Int)]), some Gd, some (.int (f : Int)), some Wd, some (.int X), some Y, none, none, none] S1 := by
      simp [gl2, e3, gi, -gLen_lst]
    have eG : sSet 7 (fArg mkTup (fCons (fC (.str "given")) (fCons (fVar 5) fNil))) [some (.loc w), some (.tup [.str "base", .int ((i.val : Nat) : Int)]), some Gd, some (.int (f : Int)), some Wd, some (.int X), some Y, none, none, none] S1 = .nx [some (.loc w), some (.tup [.str "base", .int ((i.val : Nat) : Int)]), some Gd, some (.int (f : Int)), some Wd, some (.int X), some Y, some (.tup [.str "given", .int X]), none, none] S1 := by
      simp [h8]
    have eH : sFor (fiL (fVar 6)) (gN 8) (l__law_flat_1 (ev n)) [some (.loc w), some (.tup [.str "base", .int ((i.val : Nat) : Int)]), some Gd, some (.int (f : Int)), some Wd, some (.int X), some Y, some (.tup [.str "given", .int X]), none, none] S1 = .nx [some (.loc w), some (.tup [.str "base", .int ((i.val : Nat) : Int)]), some Gd, some (.int (f : Int)), some Wd, some (.int X), some Y, some t'.d, y8, none] S2 := by
      simp [itw, e4]
    generalize sFor (fiR1 (fCons (fArg gLen (fCons (fVar 2) fNil)) fNil)) (gN 5) (l__law_flat_0 (ev n)) = sF at *
    generalize sAsg (f2 gIx (fVar 4) (fArg (ev n .f__law_draw) (fCons (fVar 0) (fCons (fArg gLen (fCons (fVar 4) fNil)) fNil)))) (gTu 2 (gsCons (gN 5) (gsCons (gN 6) gsNil))) = sA at *
    generalize sSet 7 (fArg mkTup (fCons (fC (.str "given")) (fCons (fVar 5) fNil))) = sG at *
    generalize sFor (fiL (fVar 6)) (gN 8) (l__law_flat_1 (ev n)) = sH at *
    have eB : sSet 4 (fArg mkLst fNil) [some (.loc w), some (.tup [.str "base", .int ((i.val : Nat) : Int)]), some Gd, some (.int (f : Int)), none, none, none, none, none, none] S = .nx [some (.loc w), some (.tup [.str "base", .int ((i.val : Nat) : Int)]), some Gd, some (.int (f : Int)), some (.lst []), none, none, none, none, none] S := by
      simp [h8]
    have hno : ∀ (tc : FT) (f' g : FS) (ρ : FEnv), tc ρ S = .ok false S → sIf tc f' g ρ S = g ρ S := fun tc f' g ρ h => by rw [sIf_ap, h]; rfl
    simp only [Kd.d]
    generalize ((i.val : Nat) : Int) = I at *
    generalize (f : Int) = Fi at *
    rw [fnB_4]
    show RS.fin (sSeq _ _ [some (.loc w), some (.tup [.str "base", .int I]), some Gd, some (.int Fi), none, none, none, none, none, none] S) = _
    rw [sSeq_ap, hno _ _ _ _ (by simp), sNil_ap, sb_nx, sSeq_ap, hno _ _ _ _ (by simp), sNil_ap, sb_nx, sSeq_ap, hno _ _ _ _ (by simp), sNil_ap, sb_nx, sSeq_ap, eB, sb_nx, sSeq_ap, eF, sb_nx, sSeq_ap, e2, sb_nx, sSeq_ap, eA, sb_nx, sSeq_ap, eG, sb_nx, sSeq_ap, eH, sb_nx]
    simp
  · by_cases h0 : f = 0
    · rw [if_pos h0]
      have : (W[r']).2 = [] := hnil h0 _ (List.getElem_mem hr')
      rw [this, hb h0] at h4
      simpa using h4
    · rw [if_neg h0]; omega
/-- plain terms of any kind -/
theorem flat_sp : ∀ (f : Nat) (K : Kd) {n q β : Nat} {Γ : List Kd} {S : Store}, Gk q β Γ → q ≤ 8 → K.dep ≤ q → K.bel β → Γ.length + K.dep + f * q ≤ 5000 → K.dep + f * (q + 1) + q + 3 ≤ n → Well S w → ∃ t S', ev n .f__law_flat [.loc w, K.d, .lst (Γ.map Kd.d), .int (f : Int)] S = .ok t.d S' ∧ Nf Γ K t ∧ kdsT q t ∧ t.ht ≤ K.dep + f * (2 * q) ∧ WS S w S'
  | f, .unit, n, q, β, Γ, S, hg, hq, hd, hβ, hl, hn, hw => by
    have h8 : sizeLine = 16777216 := rfl
    obtain ⟨m, rfl, h'⟩ := up (d := 0) (by omega : 0 + 1 ≤ n)
    refine ⟨.unit, S, ?_, .unit, trivial, by simp [Tm.ht], WS.refl hw⟩
    rw [ev, b__law_flat]
    simp [Kd.d, Tm.d, h8]
  | f, .both A B, n, q, β, Γ, S, hg, hq, hd, hβ, hl, hn, hw => by
    have h8 : sizeLine = 16777216 := rfl
    simp only [Kd.dep] at hd hl hn
    obtain ⟨m, rfl, h'⟩ := up (show (max A.dep B.dep + f * (q + 1) + q + 3) + 1 ≤ n by omega)
    obtain ⟨a, S1, ea, na, ka, ha, wa⟩ := flat_sp f A (n := m) (q := q) (Γ := Γ) (S := S) hg hq (by omega) hβ.1 (by omega) (by omega) hw
    obtain ⟨b, S2, eb, nb, kb, hb, wb⟩ := flat_sp f B (n := m) (q := q) (Γ := Γ) (S := S1) hg hq (by omega) hβ.2 (by omega) (by omega) wa.well
    refine ⟨.both a b, S2, ?_, .both na nb, ⟨ka, kb⟩, by simp only [Tm.ht, Kd.dep]; omega, wa.trans wb⟩
    rw [ev, b__law_flat]
    generalize (f : Int) = F at *
    generalize D.lst (Γ.map Kd.d) = G at *
    simp [Kd.d, Tm.d, h8, ea, eb]
  | f, .frm A B, n, q, β, Γ, S, hg, hq, hd, hβ, hl, hn, hw => by
    have h8 : sizeLine = 16777216 := rfl
    simp only [Kd.dep] at hd hl hn
    obtain ⟨m, rfl, h'⟩ := up (show (max A.dep B.dep + f * (q + 1) + q + 3) + 1 ≤ n by omega)
    obtain ⟨b, S1, eb, nb, kb, hb, wb⟩ := flat_sp f B (n := m) (q := q) (Γ := Γ ++ [A]) (S := S) (hg.snoc (by omega) hβ.1) hq (by omega) hβ.2 (by simp; omega) (by omega) hw
    have sA := sz_le8 (K := A) (q := q) (by omega) hq
    refine ⟨.mk A b, S1, ?_, .mk nb, ⟨⟨by omega, by omega⟩, kb⟩, by simp only [Tm.ht, Kd.dep]; omega, wb⟩
    have ll : (Γ.map Kd.d).length + 1 ≤ 16777216 := by simp; omega
    simp only [List.map_append, List.map_cons, List.map_nil] at eb
    rw [ev, b__law_flat]
    generalize (f : Int) = F at *
    generalize Γ.map Kd.d = G at *
    simp [Kd.d, Tm.d, h8, eb, ll]
  | f, .base i, n, q, β, Γ, S, hg, hq, hd, hβ, hl, hn, hw => by
    obtain ⟨m, rfl, h'⟩ := up (show (f * (q + 1) + q + 2) + 1 ≤ n by omega)
    have hr : 0 < f → TeldA m w q β Γ ((f : Int) - 1) (q - 1) (q - 1 + (f - 1) * (2 * q)) := fun h0 A S hA hAβ hw => by
      obtain ⟨f', rfl⟩ : ∃ f', f = f' + 1 := ⟨f - 1, by omega⟩
      have ef : ((f' + 1 : Nat) : Int) - 1 = (f' : Int) := by omega
      have e1 : (f' + 1) * (q + 1) = f' * (q + 1) + q + 1 := by rw [Nat.add_mul]; omega
      have e2 : (f' + 1) * q = f' * q + q := by rw [Nat.add_mul]; omega
      obtain ⟨a, S1, ea, na, ka, ha, wa⟩ := flat_sp f' A (n := m) (q := q) (Γ := Γ) (S := S) hg hq (by omega) hAβ (by omega) (by omega) hw
      rw [ef]
      exact ⟨a, S1, ea, na, ka, by simp only [Nat.add_sub_cancel]; omega, wa⟩
    obtain ⟨t, S1, et, nt, kt, ht, wt⟩ := flat_base (n := m) (q := q) (b := if f = 0 then 0 else q - 1 + (f - 1) * (2 * q)) (i := i) (f := f) (Γ := Γ) (S := S) hg hβ hq (by omega) (by omega) (fun h0 => by rw [if_neg (by omega)]; exact hr h0) (fun h0 => by rw [if_pos h0]) hw
    refine ⟨t, S1, et, nt, kt, ?_, wt⟩
    simp only [Kd.dep]
    by_cases h0 : f = 0
    · rw [if_pos h0] at ht; omega
    · rw [if_neg h0, if_neg h0] at ht
      obtain ⟨f', rfl⟩ : ∃ f', f = f' + 1 := ⟨f - 1, by omega⟩
      have e1 : (f' + 1) * (2 * q) = f' * (2 * q) + 2 * q := by rw [Nat.add_mul]; omega
      simp only [Nat.add_sub_cancel] at ht
      omega
termination_by f K => (f, K.sz)
decreasing_by all_goals simp_wf; simp only [Kd.sz]; first | omega | (left; omega) | (right; omega)
end
end Kz
namespace Kz
open PySem PySem.Spec PyProof.Rows L2 Kw
/-- levels renamed -/
def Tm.rn (σ : Nat → Nat) : Tm → Tm
  | .giv k => .giv (σ k)
  | .unit => .unit
  | .mk A b => .mk A (b.rn σ)
  | .app a b => .app (a.rn σ) (b.rn σ)
  | .both a b => .both (a.rn σ) (b.rn σ)
  | .fst a => .fst (a.rn σ)
  | .snd a => .snd (a.rn σ)
theorem rn_id : ∀ t : Tm, (t.rn fun k => k) = t
  | .giv k => rfl
  | .unit => rfl
  | .mk A b => by simp only [Tm.rn, rn_id b]
  | .app a b => by simp only [Tm.rn, rn_id a, rn_id b]
  | .both a b => by simp only [Tm.rn, rn_id a, rn_id b]
  | .fst a => by simp only [Tm.rn, rn_id a]
  | .snd a => by simp only [Tm.rn, rn_id a]
theorem ht_rn (σ : Nat → Nat) : ∀ t : Tm, (t.rn σ).ht = t.ht
  | .giv k => rfl
  | .unit => rfl
  | .mk A b => by simp only [Tm.rn, Tm.ht, ht_rn σ b]
  | .app a b => by simp only [Tm.rn, Tm.ht, ht_rn σ a, ht_rn σ b]
  | .both a b => by simp only [Tm.rn, Tm.ht, ht_rn σ a, ht_rn σ b]
  | .fst a => by simp only [Tm.rn, Tm.ht, ht_rn σ a]
  | .snd a => by simp only [Tm.rn, Tm.ht, ht_rn σ a]
theorem rn_rn (σ τ : Nat → Nat) : ∀ t : Tm, (t.rn τ).rn σ = t.rn fun k => σ (τ k)
  | .giv k => rfl
  | .unit => rfl
  | .mk A b => by simp only [Tm.rn, rn_rn σ τ b]
  | .app a b => by simp only [Tm.rn, rn_rn σ τ a, rn_rn σ τ b]
  | .both a b => by simp only [Tm.rn, rn_rn σ τ a, rn_rn σ τ b]
  | .fst a => by simp only [Tm.rn, rn_rn σ τ a]
  | .snd a => by simp only [Tm.rn, rn_rn σ τ a]
theorem kdsT_rn {q : Nat} {σ : Nat → Nat} : ∀ {t : Tm}, kdsT q t → kdsT q (t.rn σ)
  | .giv k, _ => trivial
  | .unit, _ => trivial
  | .mk A b, h => ⟨h.1, kdsT_rn (t := b) h.2⟩
  | .app a b, h => ⟨kdsT_rn (t := a) h.1, kdsT_rn (t := b) h.2⟩
  | .both a b, h => ⟨kdsT_rn (t := a) h.1, kdsT_rn (t := b) h.2⟩
  | .fst a, h => kdsT_rn (t := a) h
  | .snd a, h => kdsT_rn (t := a) h
/-- behind more givens -/
theorem tkd_put (X : List Kd) : ∀ (t : Tm) {Γ : List Kd}, tkd (X ++ Γ) (t.rn fun k => k + X.length) = tkd Γ t
  | .giv k, Γ => by
    simp only [Tm.rn, tkd]
    rw [List.getElem?_append_right (by omega)]; congr 1; omega
  | .unit, Γ => rfl
  | .mk A b, Γ => by
    simp only [Tm.rn, tkd]
    rw [List.append_assoc, tkd_put X b]
  | .app a b, Γ => by simp only [Tm.rn, tkd, tkd_put X a, tkd_put X b]
  | .both a b, Γ => by simp only [Tm.rn, tkd, tkd_put X a, tkd_put X b]
  | .fst a, Γ => by simp only [Tm.rn, tkd, tkd_put X a]
  | .snd a, Γ => by simp only [Tm.rn, tkd, tkd_put X a]
end Kz
namespace Kz
open PySem PySem.Spec PyProof.Rows L2 Kw
def fsk : NestedKey → NestedKey
  | .tup [x, _] => x
  | _ => .none
def snk : NestedKey → NestedKey
  | .tup [_, y] => y
  | _ => .none
def apk (z : Nat → Nat) (o : Option Kd) (u x : NestedKey) : NestedKey := match o, u with
  | some (.frm A _), .tup l => match (wlk z A).idxOf? x with
    | some j => l.getD j .none
    | none => .none
  | _, _ => .none
/-- what a term tells -/
def den (z : Nat → Nat) : List Kd → Tm → List NestedKey → NestedKey
  | _, .giv k, ws => ws.getD k .none
  | _, .unit, _ => .tup []
  | Γ, .mk A b, ws => .tup ((wlk z A).map fun w => den z (Γ ++ [A]) b (ws ++ [w]))
  | Γ, .app a b, ws => apk z (tkd Γ a) (den z Γ a ws) (den z Γ b ws)
  | Γ, .both a b, ws => .tup [den z Γ a ws, den z Γ b ws]
  | Γ, .fst a, ws => fsk (den z Γ a ws)
  | Γ, .snd a, ws => snk (den z Γ a ws)
theorem hld_some {z : Nat → Nat} : ∀ {K : Kd} {w : NestedKey}, w ∈ wlk z K → ∃ v, hld K w = some v
  | .base i, w, h => by
    obtain ⟨j, _, rfl⟩ := List.mem_map.mp h
    exact ⟨_, rfl⟩
  | .unit, w, h => by
    have : w = .tup [] := by simpa [wlk] using h
    subst this; exact ⟨_, rfl⟩
  | .both a b, w, h => by
    rw [wlk, List.mem_flatMap] at h
    obtain ⟨x, hx, h⟩ := h
    obtain ⟨y, hy, rfl⟩ := List.mem_map.mp h
    obtain ⟨u, hu⟩ := hld_some hx
    obtain ⟨v, hv⟩ := hld_some hy
    exact ⟨.pair u v, by simp [hld, hu, hv]⟩
  | .frm a b, w, h => by
    rw [wlk] at h
    obtain ⟨r, hr, rfl⟩ := List.mem_map.mp h
    exact ⟨_, rfl⟩
theorem mem_both {z : Nat → Nat} {A B : Kd} {x y : NestedKey} : NestedKey.tup [x, y] ∈ wlk z (.both A B) ↔ x ∈ wlk z A ∧ y ∈ wlk z B := by
  rw [wlk, List.mem_flatMap]
  constructor
  · rintro ⟨x', hx, h⟩
    obtain ⟨y', hy, e⟩ := List.mem_map.mp h
    simp at e
    obtain ⟨rfl, rfl⟩ := e
    exact ⟨hx, hy⟩
  · rintro ⟨hx, hy⟩
    exact ⟨x, hx, List.mem_map.mpr ⟨y, hy, rfl⟩⟩
theorem in_both {z : Nat → Nat} {A B : Kd} {w : NestedKey} (h : w ∈ wlk z (.both A B)) : ∃ x y, w = .tup [x, y] ∧ x ∈ wlk z A ∧ y ∈ wlk z B := by
  rw [wlk, List.mem_flatMap] at h
  obtain ⟨x, hx, h⟩ := h
  obtain ⟨y, hy, rfl⟩ := List.mem_map.mp h
  exact ⟨x, y, rfl, hx, hy⟩
theorem in_frm {z : Nat → Nat} {A B : Kd} {w : NestedKey} (h : w ∈ wlk z (.frm A B)) : ∃ l, w = .tup l ∧ l.length = nm z A ∧ ∀ d ∈ l, d ∈ wlk z B := by
  rw [wlk] at h
  obtain ⟨r, hr, rfl⟩ := List.mem_map.mp h
  exact ⟨r, rfl, (LLk_mem.mp hr).1, (LLk_mem.mp hr).2⟩
theorem to_frm {z : Nat → Nat} {A B : Kd} {l : List NestedKey} (h1 : l.length = nm z A) (h2 : ∀ d ∈ l, d ∈ wlk z B) : NestedKey.tup l ∈ wlk z (.frm A B) := by
  rw [wlk]
  exact List.mem_map.mpr ⟨l, LLk_mem.mpr ⟨h1, h2⟩, rfl⟩
theorem idx_mem {x : NestedKey} : ∀ {l : List NestedKey}, x ∈ l → ∃ j, l.idxOf? x = some j ∧ j < l.length
  | k :: l, h => by
    rw [List.idxOf?_cons]
    by_cases e : k = x
    · subst e
      exact ⟨0, by simp, by simp⟩
    · have eb : (k == x) = false := by simpa using e
      rw [eb]
      rcases List.mem_cons.mp h with rfl | h
      · exact absurd rfl e
      · obtain ⟨j, h1, h2⟩ := idx_mem h
        exact ⟨j + 1, by simp [h1], by simp; omega⟩
theorem seqO_map {α β γ : Type} {F : α → Option β} {G : β → Option γ} {g : α → γ} : ∀ {l : List α}, (∀ w ∈ l, ∃ v, F w = some v ∧ G v = some (g w)) → ∃ vs, seqO (l.map F) = some vs ∧ seqO (vs.map G) = some (l.map g)
  | [], _ => ⟨[], rfl, rfl⟩
  | a :: l, h => by
    obtain ⟨v, h1, h2⟩ := h a List.mem_cons_self
    obtain ⟨vs, h3, h4⟩ := seqO_map (fun w hw => h w (List.mem_cons_of_mem _ hw))
    exact ⟨v :: vs, by simp [seqO, h1, h3], by simp [seqO, h2, h4]⟩
/-- the kinds that are listed within a kind -/
def Ka (U : List Kd) : Kd → Prop
  | .base _ => True
  | .unit => True
  | .both a b => Ka U a ∧ Ka U b
  | .frm a b => a ∈ U ∧ Ka U a ∧ Ka U b
theorem rat_snoc {e : Rs} {k : Nat} {v u : Rv} (h : e.at_ k = some v) : (Rs.snoc e u).at_ k = some v := by
  have := Rs.at_lt h
  simp only [Rs.at_]
  rw [if_neg (by omega)]; exact h
/-- the givens are told, at their places -/
structure Ce (z : Nat → Nat) (σ : Nat → Nat) (Γ : List Kd) (ws : List NestedKey) (e : Rs) : Prop where
  at_ : ∀ j K, Γ[j]? = some K → ∃ w v, ws[j]? = some w ∧ w ∈ wlk z K ∧ hld K w = some v ∧ e.at_ (σ j) = some v
  up : ∀ i, σ (Γ.length + i) = e.len + i
  len : ws.length = Γ.length
theorem Ce.nil {z : Nat → Nat} : Ce z (fun k => k) [] [] .nil := ⟨fun j K h => by simp at h, fun i => by simp [Rs.len], rfl⟩
theorem Ce.snoc {z : Nat → Nat} {σ : Nat → Nat} {Γ : List Kd} {ws : List NestedKey} {e : Rs} (c : Ce z σ Γ ws e) {A : Kd} {w : NestedKey} {v : Rv} (hw : w ∈ wlk z A) (hv : hld A w = some v) : Ce z σ (Γ ++ [A]) (ws ++ [w]) (.snoc e v) := by
  refine ⟨fun j K h => ?_, fun i => ?_, by simp [c.len]⟩
  · by_cases hj : j < Γ.length
    · rw [List.getElem?_append_left hj] at h
      obtain ⟨w', v', h1, h2, h3, h4⟩ := c.at_ j K h
      exact ⟨w', v', by rw [List.getElem?_append_left (by rw [c.len]; exact hj)]; exact h1, h2, h3, rat_snoc h4⟩
    · rw [List.getElem?_append_right (by omega)] at h
      have e0 : j - Γ.length = 0 := by
        cases q : j - Γ.length with
        | zero => rfl
        | succ z => rw [q] at h; simp at h
      rw [e0] at h
      have ej : j = Γ.length := by omega
      have eK : A = K := by simpa using h
      subst eK
      have u0 := c.up 0
      rw [Nat.add_zero, Nat.add_zero] at u0
      refine ⟨w, v, by rw [List.getElem?_append_right (by rw [c.len]; omega), c.len, e0]; rfl, hw, hv, ?_⟩
      rw [ej, u0]
      simp [Rs.at_]
  · have := c.up (1 + i)
    simp only [List.length_append, List.length_singleton, Rs.len]
    rw [show Γ.length + 1 + i = Γ.length + (1 + i) by omega, this]; omega
theorem Ce.put {z : Nat → Nat} {σ : Nat → Nat} {ws : List NestedKey} {e : Rs} (c : Ce z σ [] ws e) (u : Rv) : Ce z (fun k => σ (k + 1)) [] ws (.snoc e u) := by
  refine ⟨fun j K h => by simp at h, fun i => ?_, c.len⟩
  have := c.up (i + 1)
  simp only [List.length_nil, Nat.zero_add, Rs.len] at this ⊢
  rw [this]; omega
section
variable {z : Nat → Nat} {U : List Kd}
theorem wrk_app {g : Nat} {a b : Tm} {e : Rs} : wrk z U (g + 1) (.app a b) e = (wrk z U g a e).bind fun u => (wrk z U g b e).bind fun x => hwn z U g u x := rfl
theorem wrk_both {g : Nat} {a b : Tm} {e : Rs} : wrk z U (g + 1) (.both a b) e = (wrk z U g a e).bind fun u => (wrk z U g b e).bind fun x => some (.pair u x) := rfl
theorem wrk_mk {g : Nat} {A : Kd} {b : Tm} {e : Rs} : wrk z U (g + 1) (.mk A b) e = some (.made b e) := rfl
theorem wrk_giv {g k : Nat} {e : Rs} : wrk z U (g + 1) (.giv k) e = e.at_ k := rfl
theorem wrk_fst {g : Nat} {a : Tm} {e : Rs} : wrk z U (g + 1) (.fst a) e = (wrk z U g a e).bind fun u => match u with
      | .pair x _ => some x
      | _ => none := rfl
theorem wrk_snd {g : Nat} {a : Tm} {e : Rs} : wrk z U (g + 1) (.snd a) e = (wrk z U g a e).bind fun u => match u with
      | .pair _ y => some y
      | _ => none := rfl
theorem hwn_made {g : Nat} {t : Tm} {env : Rs} {x : Rv} : hwn z U (g + 1) (.made t env) x = if env.len < 1000 then wrk z U g t (.snoc env x) else none := rfl
theorem hwn_told {g : Nat} {A B : Kd} {ws : List NestedKey} {x : Rv} : hwn z U (g + 1) (.told A B ws) x = if A ∈ U ∧ B.dep ≤ 20 then (tlv z U g A x).bind fun w => ((wlk z A).idxOf? w).bind fun j => (ws[j]?).bind (hld B) else none := rfl
theorem tlv_frm {g : Nat} {A B : Kd} {v : Rv} : tlv z U (g + 1) (.frm A B) v = if A ∈ U then (seqO ((wlk z A).map fun w => (hld A w).bind fun x => hwn z U g v x)).bind fun vs => (seqO (vs.map fun u => tlv z U g B u)).bind fun ws => some (.tup ws) else none := rfl
theorem tlv_both {g : Nat} {A B : Kd} {a b : Rv} : tlv z U (g + 1) (.both A B) (.pair a b) = (tlv z U g A a).bind fun x => (tlv z U g B b).bind fun y => some (.tup [x, y]) := rfl
def EVr (z : Nat → Nat) (U : List Kd) (Γ : List Kd) (s : Tm) (Q : List NestedKey → Rv → Prop) : Prop := ∀ (σ : Nat → Nat) (e : Rs) (ws : List NestedKey), Ce z σ Γ ws e → e.len + s.ht < 990 → ∃ v, (∀ f, 2 * s.ht + 2 ≤ f → wrk z U f (s.rn σ) e = some v) ∧ Q ws v
def QNr (z : Nat → Nat) (U : List Kd) (K : Kd) (d : List NestedKey → NestedKey) (h : Nat) (ws : List NestedKey) (v : Rv) : Prop := d ws ∈ wlk z K ∧ ∀ f, 2 * h + 2 ≤ f → tlv z U f K v = some (d ws)
def QEr (z : Nat → Nat) (K : Kd) (d : List NestedKey → NestedKey) (ws : List NestedKey) (v : Rv) : Prop := d ws ∈ wlk z K ∧ hld K (d ws) = some v
theorem EVr.imp {Γ : List Kd} {s : Tm} {Q Q' : List NestedKey → Rv → Prop} (h : EVr z U Γ s Q) (i : ∀ ws v, Q ws v → Q' ws v) : EVr z U Γ s Q' := fun σ e ws c hl => by
  obtain ⟨v, h1, h2⟩ := h σ e ws c hl
  exact ⟨v, h1, i ws v h2⟩
theorem QNr.le {h h' : Nat} {K : Kd} {d : List NestedKey → NestedKey} {ws : List NestedKey} {v : Rv} (H : QNr z U K d h ws v) (l : h ≤ h') : QNr z U K d h' ws v := ⟨H.1, fun f hf => H.2 f (by omega)⟩
theorem QEr.base {h : Nat} {i : _root_.Fin 8} {d : List NestedKey → NestedKey} {ws : List NestedKey} {v : Rv} (H : QEr z (.base i) d ws v) : QNr z U (.base i) d h ws v := by
  refine ⟨H.1, fun f hf => ?_⟩
  obtain ⟨g, rfl⟩ : ∃ g, f = g + 1 := ⟨f - 1, by omega⟩
  have h2 := H.2
  obtain ⟨j, _, e⟩ := List.mem_map.mp H.1
  rw [← e] at h2 ⊢
  simp only [hld, Option.some.injEq] at h2
  rw [← h2]; rfl
variable {Γ : List Kd}
theorem evr_unit : EVr z U Γ .unit (QNr z U .unit (den z Γ .unit) 0) := fun σ e ws c hl =>
  ⟨.unit, fun f hf => by obtain ⟨g, rfl⟩ : ∃ g, f = g + 1 := ⟨f - 1, by omega⟩; rfl, by simp [den, wlk], fun f hf => by obtain ⟨g, rfl⟩ : ∃ g, f = g + 1 := ⟨f - 1, by omega⟩; rfl⟩
theorem evr_both {A B : Kd} {s t : Tm} {d1 d2 : List NestedKey → NestedKey} (h1 : EVr z U Γ s (QNr z U A d1 s.ht)) (h2 : EVr z U Γ t (QNr z U B d2 t.ht)) : EVr z U Γ (.both s t) (QNr z U (.both A B) (fun ws => .tup [d1 ws, d2 ws]) (Tm.both s t).ht) := fun σ e ws c hl => by
  simp only [Tm.ht] at hl ⊢
  obtain ⟨x, a1, a2, a3⟩ := h1 σ e ws c (by omega)
  obtain ⟨y, b1, b2, b3⟩ := h2 σ e ws c (by omega)
  refine ⟨.pair x y, fun f hf => ?_, mem_both.mpr ⟨a2, b2⟩, fun f hf => ?_⟩
  · obtain ⟨g, rfl⟩ : ∃ g, f = g + 1 := ⟨f - 1, by omega⟩
    simp only [Tm.rn]
    rw [wrk_both, a1 g (by omega), Option.bind_some, b1 g (by omega), Option.bind_some]
  · obtain ⟨g, rfl⟩ : ∃ g, f = g + 1 := ⟨f - 1, by omega⟩
    rw [tlv_both, a3 g (by omega), Option.bind_some, b3 g (by omega), Option.bind_some]
theorem evr_mk (hz : ∀ i, 1 ≤ z i ∧ z i ≤ 999) {A B : Kd} {b : Tm} {d : List NestedKey → NestedKey} (hA : A ∈ U) (hm : nm z A ≤ 5000) (h : EVr z U (Γ ++ [A]) b (QNr z U B d b.ht)) : EVr z U Γ (.mk A b) (QNr z U (.frm A B) (fun ws => .tup ((wlk z A).map fun w => d (ws ++ [w]))) (Tm.mk A b).ht) := fun σ e ws c hl => by
  simp only [Tm.ht] at hl ⊢
  have key : ∀ w ∈ wlk z A, ∃ x v, hld A w = some x ∧ (∀ f, 2 * b.ht + 2 ≤ f → wrk z U f (b.rn σ) (.snoc e x) = some v) ∧ QNr z U B d b.ht (ws ++ [w]) v := fun w hw => by
    obtain ⟨x, hx⟩ := hld_some hw
    obtain ⟨v, a1, a2⟩ := h σ _ _ (c.snoc hw hx) (by simp only [Rs.len]; omega)
    exact ⟨x, v, hx, a1, a2⟩
  refine ⟨.made (b.rn σ) e, fun f hf => ?_, to_frm (by rw [List.length_map, wlk_len hz A hm]) fun y hy => ?_, fun f hf => ?_⟩
  · obtain ⟨g, rfl⟩ : ∃ g, f = g + 1 := ⟨f - 1, by omega⟩
    rfl
  · obtain ⟨w, hw, rfl⟩ := List.mem_map.mp hy
    obtain ⟨x, v, _, _, h3⟩ := key w hw
    exact h3.1
  · obtain ⟨g, rfl⟩ : ∃ g, f = g + 1 + 1 := ⟨f - 2, by omega⟩
    rw [tlv_frm, if_pos hA]
    obtain ⟨vs, e1, e2⟩ := seqO_map (l := wlk z A) (F := fun w => (hld A w).bind fun x => hwn z U (g + 1) (.made (b.rn σ) e) x) (G := fun u => tlv z U (g + 1) B u) (g := fun w => d (ws ++ [w])) fun w hw => by
      obtain ⟨x, v, h1, h2, h3⟩ := key w hw
      refine ⟨v, ?_, h3.2 _ (by omega)⟩
      show (hld A w).bind _ = _
      rw [h1, Option.bind_some, hwn_made, if_pos (by omega)]
      exact h2 g (by omega)
    rw [e1, Option.bind_some, e2, Option.bind_some]
theorem evr_giv {k : Nat} {K : Kd} (h : Γ[k]? = some K) : EVr z U Γ (.giv k) (QEr z K (den z Γ (.giv k))) := fun σ e ws c hl => by
  obtain ⟨w, v, h1, h2, h3, h4⟩ := c.at_ k K h
  have ed : den z Γ (.giv k) ws = w := by simp [den, List.getD, h1]
  refine ⟨v, fun f hf => ?_, by rw [ed]; exact h2, by rw [ed]; exact h3⟩
  obtain ⟨g, rfl⟩ : ∃ g, f = g + 1 := ⟨f - 1, by omega⟩
  exact h4
theorem evr_fst {A B : Kd} {s : Tm} {d : List NestedKey → NestedKey} (h : EVr z U Γ s (QEr z (.both A B) d)) : EVr z U Γ (.fst s) (QEr z A fun ws => fsk (d ws)) := fun σ e ws c hl => by
  simp only [Tm.ht] at hl ⊢
  obtain ⟨v, a1, a2, a3⟩ := h σ e ws c (by omega)
  obtain ⟨x, y, e0, hx, hy⟩ := in_both a2
  rw [e0] at a3
  simp only [hld, Option.bind_eq_some_iff, Option.some.injEq] at a3
  obtain ⟨u, hu, u2, hu2, rfl⟩ := a3
  refine ⟨u, fun f hf => ?_, by simp only [e0, fsk]; exact hx, by simp only [e0, fsk]; exact hu⟩
  obtain ⟨g, rfl⟩ : ∃ g, f = g + 1 := ⟨f - 1, by omega⟩
  simp only [Tm.rn]
  rw [wrk_fst, a1 g (by omega)]; rfl
theorem evr_snd {A B : Kd} {s : Tm} {d : List NestedKey → NestedKey} (h : EVr z U Γ s (QEr z (.both A B) d)) : EVr z U Γ (.snd s) (QEr z B fun ws => snk (d ws)) := fun σ e ws c hl => by
  simp only [Tm.ht] at hl ⊢
  obtain ⟨v, a1, a2, a3⟩ := h σ e ws c (by omega)
  obtain ⟨x, y, e0, hx, hy⟩ := in_both a2
  rw [e0] at a3
  simp only [hld, Option.bind_eq_some_iff, Option.some.injEq] at a3
  obtain ⟨u, hu, u2, hu2, rfl⟩ := a3
  refine ⟨u2, fun f hf => ?_, by simp only [e0, snk]; exact hy, by simp only [e0, snk]; exact hu2⟩
  obtain ⟨g, rfl⟩ : ∃ g, f = g + 1 := ⟨f - 1, by omega⟩
  simp only [Tm.rn]
  rw [wrk_snd, a1 g (by omega)]; rfl
theorem evr_app (hz : ∀ i, 1 ≤ z i ∧ z i ≤ 999) {A B : Kd} {s t : Tm} {d1 d2 : List NestedKey → NestedKey} (hA : A ∈ U) (hB : B.dep ≤ 20) (hm : nm z A ≤ 5000) (h1 : EVr z U Γ s (QEr z (.frm A B) d1)) (h2 : EVr z U Γ t (QNr z U A d2 t.ht)) : EVr z U Γ (.app s t) (QEr z B fun ws => apk z (some (.frm A B)) (d1 ws) (d2 ws)) := fun σ e ws c hl => by
  simp only [Tm.ht] at hl ⊢
  obtain ⟨v, a1, a2, a3⟩ := h1 σ e ws c (by omega)
  obtain ⟨y, b1, b2, b3⟩ := h2 σ e ws c (by omega)
  obtain ⟨l, e0, ll, lm⟩ := in_frm a2
  rw [e0] at a3
  simp only [hld, Option.some.injEq] at a3
  subst a3
  obtain ⟨j, hj, jl⟩ := idx_mem b2
  rw [wlk_len hz A hm, ← ll] at jl
  have hr : l[j] ∈ wlk z B := lm _ (List.getElem_mem jl)
  obtain ⟨r, hr2⟩ := hld_some hr
  have ed : apk z (some (.frm A B)) (d1 ws) (d2 ws) = l[j] := by
    rw [e0]
    show (match (wlk z A).idxOf? (d2 ws) with | some j => l.getD j .none | none => .none) = _
    rw [hj]
    simp [List.getD, jl]
  refine ⟨r, fun f hf => ?_, by simp only [ed]; exact hr, by simp only [ed]; exact hr2⟩
  obtain ⟨g, rfl⟩ : ∃ g, f = g + 1 + 1 := ⟨f - 2, by omega⟩
  simp only [Tm.rn]
  rw [wrk_app, a1 (g + 1) (by omega), Option.bind_some, b1 (g + 1) (by omega), Option.bind_some, hwn_told, if_pos ⟨hA, hB⟩, b3 g (by omega), Option.bind_some, hj, Option.bind_some, List.getElem?_eq_getElem jl, Option.bind_some]
  exact hr2
end
theorem ka_snoc {U : List Kd} {Γ : List Kd} {A : Kd} (hd : ∀ A ∈ Γ, Ka U A ∧ A.dep ≤ 20) (hA : Ka U A ∧ A.dep ≤ 20) : ∀ B ∈ Γ ++ [A], Ka U B ∧ B.dep ≤ 20 := fun B hB => by
  rcases List.mem_append.mp hB with z | z
  · exact hd B z
  · have : B = A := by simpa using z
    rw [this]; exact hA
theorem Ne.ka {U : List Kd} : ∀ {Γ : List Kd} {K : Kd} {t : Tm}, Ne Γ K t → (∀ A ∈ Γ, Ka U A ∧ A.dep ≤ 20) → Ka U K ∧ K.dep ≤ 20
  | _, _, _, .giv h, hd => hd _ (List.mem_of_getElem? h)
  | _, _, _, .fst t, hd => by have := Ne.ka t hd; simp only [Kd.dep, Ka] at this; exact ⟨this.1.1, by omega⟩
  | _, _, _, .snd t, hd => by have := Ne.ka t hd; simp only [Kd.dep, Ka] at this; exact ⟨this.1.2, by omega⟩
  | _, _, _, .app t a, hd => by have := Ne.ka t hd; simp only [Kd.dep, Ka] at this; exact ⟨this.1.2.2, by omega⟩
section
variable {z : Nat → Nat} {U : List Kd}
mutual
/-- plain terms tell a worth -/
theorem Nf.evr (g : GoodU z U) (hz : ∀ i, 1 ≤ z i ∧ z i ≤ 999) : ∀ {Γ : List Kd} {K : Kd} {t : Tm}, Nf Γ K t → (∀ A ∈ Γ, Ka U A ∧ A.dep ≤ 20) → Ka U K ∧ K.dep ≤ 20 → EVr z U Γ t (QNr z U K (den z Γ t) t.ht)
  | _, _, _, .unit, hd, hk => evr_unit
  | _, _, _, .both a b, hd, hk => by
    simp only [Ka, Kd.dep] at hk
    exact evr_both (a.evr g hz hd ⟨hk.1.1, by omega⟩) (b.evr g hz hd ⟨hk.1.2, by omega⟩)
  | _, _, _, .mk b, hd, hk => by
    simp only [Ka, Kd.dep] at hk
    exact evr_mk hz hk.1.1 (g.ok _ hk.1.1).2.1 (b.evr g hz (ka_snoc hd ⟨hk.1.2.1, by omega⟩) ⟨hk.1.2.2, by omega⟩)
  | _, _, _, .base t, hd, hk => (t.evr g hz hd).imp fun _ _ z => z.base
theorem Ne.evr (g : GoodU z U) (hz : ∀ i, 1 ≤ z i ∧ z i ≤ 999) : ∀ {Γ : List Kd} {K : Kd} {t : Tm}, Ne Γ K t → (∀ A ∈ Γ, Ka U A ∧ A.dep ≤ 20) → EVr z U Γ t (QEr z K (den z Γ t))
  | _, _, _, .giv h, hd => evr_giv h
  | _, _, _, .fst t, hd => evr_fst (t.evr g hz hd)
  | _, _, _, .snd t, hd => evr_snd (t.evr g hz hd)
  | Γ, _, _, .app t a, hd => by
    have hk := t.ka hd
    simp only [Ka, Kd.dep] at hk
    have := evr_app hz hk.1.1 (by omega) (g.ok _ hk.1.1).2.1 (t.evr g hz hd) (a.evr g hz hd ⟨hk.1.2.1, by omega⟩)
    have ek := t.kd
    simp only [den, ek]
    exact this
end
/-- a function that was told: what it gives -/
theorem tlv_at {f : Nat} {A B : Kd} {u : Rv} {l : List NestedKey} (h : tlv z U (f + 1) (.frm A B) u = some (.tup l)) : l.length = (wlk z A).length ∧ ∀ {j : Nat} {w : NestedKey}, (wlk z A)[j]? = some w → ∃ x v r, hld A w = some x ∧ hwn z U f u x = some v ∧ tlv z U f B v = some r ∧ l[j]? = some r := by
  rw [tlv_frm] at h
  split at h
  · simp only [Option.bind_eq_some_iff, Option.some.injEq, NestedKey.tup.injEq] at h
    obtain ⟨vs, h1, ws, h2, rfl⟩ := h
    have key : ∀ {L : List NestedKey} {vs : List Rv} {ws : List NestedKey}, seqO (L.map fun w => (hld A w).bind fun x => hwn z U f u x) = some vs → seqO (vs.map fun u => tlv z U f B u) = some ws → ws.length = L.length ∧ ∀ {j : Nat} {w : NestedKey}, L[j]? = some w → ∃ x v r, hld A w = some x ∧ hwn z U f u x = some v ∧ tlv z U f B v = some r ∧ ws[j]? = some r := by
      intro L
      induction L with
      | nil =>
        intro vs ws h1 h2
        simp [seqO] at h1
        subst h1
        simp [seqO] at h2
        subst h2
        exact ⟨rfl, fun h => by simp at h⟩
      | cons a L ih =>
        intro vs ws h1 h2
        simp only [List.map_cons, seqO, Option.bind_eq_some_iff, Option.some.injEq] at h1
        obtain ⟨v, ⟨x, hx, hv⟩, vs', h1, rfl⟩ := h1
        simp only [List.map_cons, seqO, Option.bind_eq_some_iff, Option.some.injEq] at h2
        obtain ⟨r, hr, ws', h2, rfl⟩ := h2
        have i := ih h1 h2
        refine ⟨by simp [i.1], fun {j w} h => ?_⟩
        cases j with
        | zero =>
          have : a = w := by simpa using h
          subst this
          exact ⟨x, v, r, hx, hv, hr, rfl⟩
        | succ j => exact i.2 (by simpa using h)
    exact key h1 h2
  · cases h
end
end Kz
namespace Kz
open PySem PySem.Spec PyProof.Rows L2 Kw
theorem rows_in {m : Nat} {ts : List D} {x1 x2 x3 : Option D} {S : Store} : ∀ (L : List (List D)) (acc : List D) (x5 : Option D), (∀ r ∈ L, r.length < 10000) → acc.length + L.length * ts.length ≤ 10000000 → ∃ y5, forL (gN 5) (l__law_rows_0 (ev m)) none (L.map .tup) [some (.lst ts), x1, x2, x3, some (.lst acc), x5, none] S = .nx [some (.lst ts), x1, x2, x3, some (.lst (acc ++ (L.flatMap fun r => ts.map fun t => r ++ [t]).map .tup)), y5, none] S
  | [], acc, x5, _, _ => ⟨x5, by simp⟩
  | r :: L, acc, x5, h1, h2 => by
    have h8 : sizeLine = 16777216 := rfl
    have lr := h1 r List.mem_cons_self
    rw [List.length_cons, Nat.succ_mul] at h2
    have hc := compL_map (tg := gN 6) (tt := fYes) (te := f2 (gAdd false) (fVar 5) (fArg mkTup (fCons (fVar 6) fNil))) (ρ := [some (.lst ts), x1, x2, x3, some (.lst acc), some (.tup r), none]) (S := S) (gg := none) (fun t => .tup (r ++ [t])) (by unfold gd; trivial) ts [] (fun d hd => by
      have l2 : r.length + 1 ≤ sizeLine := by omega
      exact ⟨[some (.lst ts), x1, x2, x3, some (.lst acc), some (.tup r), some d], by rfl, rfl, by simp [h8]; omega⟩) (by simp; omega)
    simp only [List.nil_append] at hc
    have step : l__law_rows_0 (ev m) [some (.lst ts), x1, x2, x3, some (.lst acc), some (.tup r), none] S = .nx [some (.lst ts), x1, x2, x3, some (.lst (acc ++ ts.map fun t => .tup (r ++ [t]))), some (.tup r), none] S := by
      unfold l__law_rows_0
      have ll : acc.length + (ts.map fun t => D.tup (r ++ [t])).length ≤ 16777216 := by simp; omega
      generalize (ts.map fun t => D.tup (r ++ [t])) = Q at *
      simp [wipeR, hc, h8, ll]
    obtain ⟨y5, ih⟩ := rows_in (m := m) (ts := ts) (x1 := x1) (x2 := x2) (x3 := x3) (S := S) L (acc ++ ts.map fun t => .tup (r ++ [t])) (some (.tup r)) (fun r hr => h1 r (List.mem_cons_of_mem _ hr)) (by simp; omega)
    refine ⟨y5, ?_⟩
    have ee : acc ++ ((r :: L).flatMap fun r => ts.map fun t => r ++ [t]).map .tup = (acc ++ ts.map fun t => .tup (r ++ [t])) ++ (L.flatMap fun r => ts.map fun t => r ++ [t]).map .tup := by
      rw [List.flatMap_cons, List.map_append, List.map_map, List.append_assoc]; rfl
    rw [ee, ← ih, List.map_cons, forL_cons]
    simp [step]
theorem rows_loop {m : Nat} {S : Store} {ts : List D} {x1 : Option D} (h0 : 1 ≤ ts.length) : ∀ (ds : List D) (i : Nat) (x3 x4 x5 : Option D), i + ds.length ≤ 5001 → ts.length ^ (i + ds.length) ≤ 10000 → ∃ y3 y4 y5, forL (gN 3) (l__law_rows_1 (ev m)) none ds [some (.lst ts), x1, some (.lst ((LL ts i).map .tup)), x3, x4, x5, none] S = .nx [some (.lst ts), x1, some (.lst ((LL ts (i + ds.length)).map .tup)), y3, y4, y5, none] S
  | [], i, x3, x4, x5, h1, h2 => ⟨x3, x4, x5, by simp⟩
  | d :: ds, i, x3, x4, x5, h1, h2 => by
    have h8 : sizeLine = 16777216 := rfl
    simp only [List.length_cons] at h1 h2
    have e : i + (ds.length + 1) = (i + 1) + ds.length := by omega
    rw [e] at h1 h2
    have hl : (LL ts i).length * ts.length ≤ 10000 := by
      have h3 : ts.length ^ (i + 1) ≤ ts.length ^ (i + 1 + ds.length) := Nat.pow_le_pow_right h0 (by omega)
      have h4 : (LL ts i).length * ts.length = ts.length ^ (i + 1) := by rw [LL_len, Nat.pow_succ]
      omega
    obtain ⟨y5, eb⟩ := rows_in (m := m) (x1 := x1) (x2 := some (.lst ((LL ts i).map .tup))) (x3 := some d) (S := S) (ts := ts) (LL ts i) [] x5 (fun r hr => by have := (LL_mem hr).1; omega) (by simp; omega)
    have step : l__law_rows_1 (ev m) [some (.lst ts), x1, some (.lst ((LL ts i).map .tup)), some d, x4, x5, none] S = .nx [some (.lst ts), x1, some (.lst ((LL ts (i + 1)).map .tup)), some d, some (.lst ((LL ts (i + 1)).map .tup)), y5, none] S := by
      unfold l__law_rows_1
      have e2 : (LL ts (i + 1)).map D.tup = [] ++ ((LL ts i).flatMap fun r => ts.map fun t => r ++ [t]).map .tup := rfl
      rw [e2]
      generalize (LL ts i).map D.tup = P at *
      generalize ([] ++ ((LL ts i).flatMap fun r => ts.map fun t => r ++ [t]).map D.tup) = Q at *
      simp [h8, eb]
    obtain ⟨y3, y4, y5, hx⟩ := rows_loop (m := m) (S := S) (x1 := x1) h0 ds (i + 1) (some d) (some (.lst ((LL ts (i + 1)).map .tup))) y5 h1 h2
    refine ⟨y3, y4, y5, ?_⟩
    rw [List.length_cons, e, ← hx, forL_cons]
    have e1 : gN 3 d [some (.lst ts), x1, some (.lst ((LL ts i).map .tup)), x3, x4, x5, none] S = some ([some (.lst ts), x1, some (.lst ((LL ts i).map .tup)), some d, x4, x5, none], S) := rfl
    rw [e1, tgR_some, step, loopR_nx]
theorem rows_step {m : Nat} {S : Store} {t : Int} {ts : List D} {r : RS} (r0 : -4611686018427387904 ≤ t) (r9 : t < 4611686018427387904) (e : forL (gN 3) (l__law_rows_1 (ev m)) none (rngD 0 t.toNat) [some (.lst ts), some (.int t), some (.lst [.tup []]), none, none, none, none] S = r) :
    ev (m + 1) .f__law_rows [.lst ts, .int t] S = (r.bnd (sRet (fVar 2))).fin := by
  have h8 : sizeLine = 16777216 := rfl
  rw [ev, b__law_rows]
  simp [h8, r0, r9, e]
theorem rows_ok {n t : Nat} {S : Store} {ts : List D} (h : 1 ≤ n) (h0 : 1 ≤ ts.length) (ht : t ≤ 5001) (hl : ts.length ^ t ≤ 10000) : ev n .f__law_rows [.lst ts, .int (t : Int)] S = .ok (.lst ((LL ts t).map .tup)) S := by
  obtain ⟨m, rfl, h'⟩ := up h
  obtain ⟨y3, y4, y5, e⟩ := rows_loop (m := m) (S := S) (ts := ts) (x1 := some (.int (t : Int))) h0 (rngD 0 t) 0 none none none (by rw [rngD_length]; omega) (by rw [rngD_length]; simpa using hl)
  rw [rngD_length, Nat.zero_add] at e
  have e' : forL (gN 3) (l__law_rows_1 (ev m)) none (rngD 0 ((t : Nat) : Int).toNat) [some (.lst ts), some (.int (t : Int)), some (.lst [.tup []]), none, none, none, none] S = .nx [some (.lst ts), some (.int (t : Int)), some (.lst ((LL ts t).map .tup)), y3, y4, y5, none] S := e
  rw [rows_step (m := m) (S := S) (t := (t : Int)) (ts := ts) (by omega) (by omega) e']
  rfl
theorem all_in {m : Nat} {ts : List D} {x0 x1 x2 : Option D} {S : Store} : ∀ (L acc : List D) (x5 : Option D), acc.length + L.length * ts.length ≤ 10000000 → ∃ y5, forL (gN 5) (l__law_all_0 (ev m)) none L [x0, x1, x2, some (.lst ts), some (.lst acc), x5, none] S = .nx [x0, x1, x2, some (.lst ts), some (.lst (acc ++ L.flatMap fun u => ts.map fun v => .tup [u, v])), y5, none] S
  | [], acc, x5, _ => ⟨x5, by simp⟩
  | u :: L, acc, x5, h2 => by
    have h8 : sizeLine = 16777216 := rfl
    rw [List.length_cons, Nat.succ_mul] at h2
    have hc := compL_map (tg := gN 6) (tt := fYes) (te := fArg mkTup (fCons (fVar 5) (fCons (fVar 6) fNil))) (ρ := [x0, x1, x2, some (.lst ts), some (.lst acc), some u, none]) (S := S) (gg := none) (fun v => .tup [u, v]) (by unfold gd; trivial) ts [] (fun d hd => by
      exact ⟨[x0, x1, x2, some (.lst ts), some (.lst acc), some u, some d], by rfl, rfl, by simp [h8]⟩) (by simp; omega)
    simp only [List.nil_append] at hc
    have step : l__law_all_0 (ev m) [x0, x1, x2, some (.lst ts), some (.lst acc), some u, none] S = .nx [x0, x1, x2, some (.lst ts), some (.lst (acc ++ ts.map fun v => .tup [u, v])), some u, none] S := by
      unfold l__law_all_0
      have ll : acc.length + (ts.map fun v => D.tup [u, v]).length ≤ 16777216 := by simp; omega
      generalize (ts.map fun v => D.tup [u, v]) = Q at *
      simp [wipeR, hc, h8, ll]
    obtain ⟨y5, ih⟩ := all_in (m := m) (ts := ts) (x0 := x0) (x1 := x1) (x2 := x2) (S := S) L (acc ++ ts.map fun v => .tup [u, v]) (some u) (by simp; omega)
    refine ⟨y5, ?_⟩
    rw [List.flatMap_cons, ← List.append_assoc, ← ih, forL_cons]
    simp [step]
theorem lall_ok {z : Nat → Nat} {x : D} {S : Store} (hx : Szs z x S) (k : Kd) : ∀ {n : Nat}, k.dep + 2 ≤ n → tk z k ≤ 5000 → nm z k ≤ 5000 → ev n .f__law_all [k.d, x] S = .ok (.lst (wl z k)) S := by
  have h8 : sizeLine = 16777216 := rfl
  induction k with
  | base i =>
    intro n h _ _
    obtain ⟨m, rfl, h'⟩ := up (d := 1) (by omega : 1 + 1 ≤ n)
    have := hx.ok i.val
    have e := gRng_nat (n := z i.val) (S := S) (by omega)
    rw [ev, b__law_all]
    simp [Kd.d, hx.ix, e, wl]
  | unit =>
    intro n h _ _
    obtain ⟨m, rfl, h'⟩ := up (d := 1) (by omega : 1 + 1 ≤ n)
    rw [ev, b__law_all]
    simp [Kd.d, wl, h8]
  | both a b ha hb =>
    intro n h ht hn
    simp [Kd.dep] at h
    simp only [tk] at ht
    obtain ⟨m, rfl, h'⟩ := up (d := max a.dep b.dep + 2) (by omega)
    have ⟨e, na, nb⟩ := nm_both hx.ok hn
    have ea := ha (n := m) (by omega) (by omega) na
    have eb := hb (n := m) (by omega) (by omega) nb
    have la := wl_len hx.ok a na; have lb := wl_len hx.ok b nb
    obtain ⟨y5, el⟩ := all_in (m := m) (x0 := some (Kd.both a b).d) (x1 := some x) (x2 := some (.lst (wl z a))) (S := S) (ts := wl z b) (wl z a) [] none (by rw [la, lb]; simp; omega)
    have ew : wl z (.both a b) = [] ++ (wl z a).flatMap fun u => (wl z b).map fun v => .tup [u, v] := rfl
    rw [← ew] at el
    rw [ev, b__law_all]
    generalize wl z (.both a b) = W at *
    generalize wl z a = WA at *
    generalize wl z b = WB at *
    simp only [Kd.d] at el ⊢
    generalize a.d = XA at *
    generalize b.d = XB at *
    simp [ea, eb, el, h8]
  | frm a b ha hb =>
    intro n h ht hn
    simp [Kd.dep] at h
    simp only [tk] at ht
    obtain ⟨m, rfl, h'⟩ := up (d := max a.dep b.dep + 2) (by omega)
    have ⟨e, nb⟩ := nm_frm hx.ok hn
    have ea := ha (n := m) (by omega) (by omega) (by omega)
    have eb := hb (n := m) (by omega) (by omega) nb
    have la := wl_len hx.ok a (by omega)
    have lb := wl_len hx.ok b nb
    have ob := nm_ok hx.ok b
    have el := rows_ok (n := m) (t := nm z a) (S := S) (ts := wl z b) (by omega) (by omega) (by omega) (by rw [lb]; omega)
    have gl : gLen [.lst (wl z a)] S = .ok (.int ((nm z a : Nat) : Int)) S := by rw [← la]; simp
    have ew : wl z (.frm a b) = (LL (wl z b) (nm z a)).map .tup := rfl
    rw [← ew] at el
    rw [ev, b__law_all]
    generalize wl z (.frm a b) = W at *
    generalize wl z a = WA at *
    generalize wl z b = WB at *
    simp only [Kd.d]
    generalize a.d = XA at *
    generalize b.d = XB at *
    generalize ((nm z a : Nat) : Int) = Z at *
    simp [ea, eb, el, gl, -gLen_lst]
end Kz
namespace Kz
open PySem PySem.Spec PyProof.Rows L2 Kw
mutual
def kP : NestedKey → PyData
  | .none => .none
  | .num i => .int i
  | .text x => .str x
  | .tup ks => .tuple (kPs ks)
def kPs : List NestedKey → List PyData
  | [] => []
  | k :: ks => kP k :: kPs ks
end
mutual
/-- numbers and tuples alone -/
def nk : NestedKey → Bool
  | .num _ => true
  | .tup ks => nks ks
  | _ => false
def nks : List NestedKey → Bool
  | [] => true
  | k :: ks => nk k && nks ks
end
mutual
theorem pyS_kD (S : Store) : ∀ k : NestedKey, pyS S (kD k) = some (kP k)
  | .none => rfl
  | .num i => rfl
  | .text x => rfl
  | .tup ks => by simp only [kD, kP, pyS, pySL_kDs S ks, Option.map_some]
theorem pySL_kDs (S : Store) : ∀ ks : List NestedKey, pySL S (kDs ks) = some (kPs ks)
  | [] => rfl
  | k :: ks => by simp only [kDs, kPs, pySL, pyS_kD S k, pySL_kDs S ks, Option.bind_some, Option.map_some]
end
theorem kPs_map : ∀ ks : List NestedKey, kPs ks = ks.map kP
  | [] => rfl
  | k :: ks => by rw [kPs, kPs_map ks]; rfl
mutual
theorem lay_kP : ∀ k : NestedKey, nk k = true → (kP k).canLay0 = true
  | .none, h => by simp [nk] at h
  | .num i, h => by simp [kP, PyData.canLay0]
  | .text x, h => by simp [nk] at h
  | .tup ks, h => by simp only [nk] at h; simp [kP, PyData.canLay0, layL_kPs ks h]
theorem layL_kPs : ∀ ks : List NestedKey, nks ks = true → PyData.canLayAll0 (kPs ks) = true
  | [], h => by simp [kPs, PyData.canLayAll0]
  | k :: ks, h => by simp only [nks, Bool.and_eq_true] at h; simp [kPs, PyData.canLayAll0, lay_kP k h.1, layL_kPs ks h.2]
end
mutual
theorem depth_kP : ∀ k : NestedKey, (kP k).depth ≤ k.depth
  | .none => by simp [kP, PyData.depth]
  | .num i => by simp [kP, PyData.depth]
  | .text x => by simp [kP, PyData.depth]
  | .tup ks => by have := depthL_kPs ks; simp [kP, PyData.depth, NestedKey.depth]; omega
theorem depthL_kPs : ∀ ks : List NestedKey, PyData.depthAll (kPs ks) ≤ NestedKey.depthAll ks
  | [] => by simp [kPs, PyData.depthAll]
  | k :: ks => by have := depth_kP k; have := depthL_kPs ks; simp only [kPs, PyData.depthAll, NestedKey.depthAll]; omega
end
mutual
theorem eqv_kP : ∀ a b : NestedKey, nk a = true → nk b = true → (PyData.eqv (kP a) (kP b) = true ↔ a = b)
  | .none, _, h, _ => by simp [nk] at h
  | .text x, _, h, _ => by simp [nk] at h
  | .num i, b, h, k => by
    cases b with
    | none => simp [nk] at k
    | text x => simp [nk] at k
    | num j => simp [kP, Kd.eqv_i]
    | tup ks => simp [kP, PyData.eqv]
  | .tup ks, b, h, k => by
    cases b with
    | none => simp [nk] at k
    | text x => simp [nk] at k
    | num j => simp [kP, PyData.eqv]
    | tup ls =>
      simp only [nk] at h k
      simp only [kP, Kd.eqv_t, NestedKey.tup.injEq]
      exact eqvL_kPs ks ls h k
theorem eqvL_kPs : ∀ as bs : List NestedKey, nks as = true → nks bs = true → (PyData.eqvAll (kPs as) (kPs bs) = true ↔ as = bs)
  | [], bs, h, k => by cases bs <;> simp [kPs, PyData.eqvAll]
  | a :: as, bs, h, k => by
    cases bs with
    | nil => simp [kPs, PyData.eqvAll]
    | cons b bs =>
      simp only [nks, Bool.and_eq_true] at h k
      simp only [kPs, Kd.eqvAll_c, Bool.and_eq_true, List.cons.injEq, eqv_kP a b h.1 k.1, eqvL_kPs as bs h.2 k.2]
end
theorem wlk_nk {z : Nat → Nat} : ∀ {K : Kd} {w : NestedKey}, w ∈ wlk z K → nk w = true
  | .base i, w, h => by
    obtain ⟨j, _, rfl⟩ := List.mem_map.mp h
    rfl
  | .unit, w, h => by
    have : w = .tup [] := by simpa [wlk] using h
    subst this; rfl
  | .both a b, w, h => by
    rw [wlk, List.mem_flatMap] at h
    obtain ⟨x, hx, h⟩ := h
    obtain ⟨y, hy, rfl⟩ := List.mem_map.mp h
    simp [nk, nks, wlk_nk hx, wlk_nk hy]
  | .frm a b, w, h => by
    rw [wlk] at h
    obtain ⟨r, hr, rfl⟩ := List.mem_map.mp h
    have ⟨_, m⟩ := LLk_mem.mp hr
    have key : ∀ l : List NestedKey, (∀ d ∈ l, nk d = true) → nks l = true := by
      intro l
      induction l with
      | nil => intro _; rfl
      | cons d l ih =>
        intro h
        simp [nks, h d List.mem_cons_self, ih fun e he => h e (List.mem_cons_of_mem _ he)]
    simp only [nk]
    exact key r fun d hd => wlk_nk (m d hd)
theorem find_kP {w : NestedKey} (hw : nk w = true) : ∀ {l : List NestedKey} {j : Nat}, (∀ k ∈ l, nk k = true) → l.idxOf? w = some j → (l.map kP).findIdx? (fun z => PyData.eqv z (kP w)) = some j
  | [], j, _, h => by simp at h
  | k :: l, j, hl, h => by
    rw [List.idxOf?_cons] at h
    rw [List.map_cons, List.findIdx?_cons]
    by_cases e : k = w
    · subst e
      have : PyData.eqv (kP k) (kP k) = true := (eqv_kP k k hw hw).mpr rfl
      simp at h
      simp [this, h]
    · have eb : (k == w) = false := by simpa using e
      have en : PyData.eqv (kP k) (kP w) = false := by
        rw [Bool.eq_false_iff]
        exact fun z => e ((eqv_kP k w (hl k List.mem_cons_self) hw).mp z)
      rw [eb] at h
      simp at h
      obtain ⟨j', h1, rfl⟩ := h
      simp [en, find_kP hw (fun k hk => hl k (List.mem_cons_of_mem _ hk)) h1]
theorem pySL_kD (S : Store) (l : List NestedKey) : pySL S (l.map kD) = some (l.map kP) := by
  rw [← kDs_map, pySL_kDs, kPs_map]
theorem layAll_map : ∀ {l : List NestedKey}, (∀ k ∈ l, nk k = true) → PyData.canLayAll0 (l.map kP) = true
  | [], _ => by simp [PyData.canLayAll0]
  | k :: l, h => by simp [PyData.canLayAll0, lay_kP k (h k List.mem_cons_self), layAll_map fun e he => h e (List.mem_cons_of_mem _ he)]
theorem depAll_map {q : Nat} : ∀ {l : List NestedKey}, (∀ k ∈ l, k.depth ≤ q) → PyData.depthAll (l.map kP) ≤ q
  | [], _ => by simp [PyData.depthAll]
  | k :: l, h => by
    have := depth_kP k
    have := h k List.mem_cons_self
    have := depAll_map (q := q) fun e he => h e (List.mem_cons_of_mem _ he)
    simp only [List.map_cons, PyData.depthAll]; omega
theorem gIdx_kD {l : List NestedKey} {w : NestedKey} {j : Nat} {S : Store} (h1 : ∀ k ∈ l, nk k = true ∧ k.depth ≤ 60) (h2 : nk w = true ∧ w.depth ≤ 60) (h : l.idxOf? w = some j) : gIdx (.lst (l.map kD)) [kD w] S = .ok (.int (j : Int)) S := by
  have e1 : pyS S (.lst (l.map kD)) = some (.list (l.map kP)) := by simp [pyS, pySL_kD]
  have e2 := pyS_kD S w
  have l1 := layAll_map fun k hk => (h1 k hk).1
  have d1 := depAll_map fun k hk => (h1 k hk).2
  have l2 := lay_kP w h2.1
  have d2 := depth_kP w
  have s1 : SeqAt.shaped (.list (l.map kP)) = true := by
    have : PyData.depth (.list (l.map kP)) ≤ 64 := by simp only [PyData.depth]; omega
    have c : PyData.canLay0 (.list (l.map kP)) = true := by simp only [PyData.canLay0, l1]
    unfold SeqAt.shaped; rw [c, decide_eq_true this]; rfl
  have s2 : SeqAt.shaped (kP w) = true := by
    have : (kP w).depth ≤ 64 := by omega
    unfold SeqAt.shaped; rw [l2, decide_eq_true this]; rfl
  have f := find_kP h2.1 (fun k hk => (h1 k hk).1) h
  unfold gIdx
  simp only [e1, e2, s1, s2, Bool.and_self, if_true, f]
theorem idx_wl {z : Nat → Nat} {A : Kd} {w : NestedKey} {j : Nat} {S : Store} (hd : A.dep ≤ 50) (h : (wlk z A).idxOf? w = some j) (hw : w ∈ wlk z A) : gIdx (.lst (wl z A)) [kD w] S = .ok (.int (j : Int)) S := by
  rw [← wlk_map]
  exact gIdx_kD (fun k hk => ⟨wlk_nk hk, by have := wlk_depth hk; omega⟩) ⟨wlk_nk hw, by have := wlk_depth hw; omega⟩ h
end Kz
namespace Kz
open PySem PySem.Spec PyProof.Rows L2 Kw
mutual
def Rv.l : Rv → D
  | .num i => .int i
  | .unit => .tup []
  | .pair a b => .tup [a.l, b.l]
  | .made t env => .tup [.str "made", t.d, .lst env.ls]
  | .told A B ws => .tup [.str "told", (Kd.frm A B).d, .tup (ws.map kD)]
def Rs.ls : Rs → List D
  | .nil => []
  | .snoc r v => r.ls ++ [v.l]
end
theorem Rs.ls_len : ∀ e : Rs, e.ls.length = e.len
  | .nil => rfl
  | .snoc r v => by simp [Rs.ls, Rs.len, Rs.ls_len r]
theorem Rs.ls_at : ∀ {e : Rs} {k : Nat} {v : Rv}, e.at_ k = some v → e.ls[k]? = some v.l
  | .nil, _, _, h => by simp [Rs.at_] at h
  | .snoc r u, k, v, h => by
    simp only [Rs.at_] at h
    simp only [Rs.ls]
    split at h
    · rename_i e; subst e; cases h
      rw [List.getElem?_append_right (by rw [Rs.ls_len]; exact Nat.le_refl _), Rs.ls_len, Nat.sub_self]; rfl
    · have hl := Rs.at_lt h
      rw [List.getElem?_append_left (by rw [Rs.ls_len]; exact hl)]
      exact Rs.ls_at h
theorem idx_in {w : NestedKey} : ∀ {l : List NestedKey} {j : Nat}, l.idxOf? w = some j → w ∈ l
  | [], j, h => by simp at h
  | k :: l, j, h => by
    rw [List.idxOf?_cons] at h
    by_cases e : k = w
    · exact e ▸ List.mem_cons_self
    · have eb : (k == w) = false := by simpa using e
      rw [eb] at h
      simp at h
      obtain ⟨j', h1, _⟩ := h
      exact List.mem_cons_of_mem _ (idx_in h1)
theorem mthR_lst' {g : D → List D → Store → RE D} {a : FA} {ρ : FEnv} {ds : List D} {S : Store} : mthR g a ρ (.lst ds) S = (a ρ S).bnd fun ds' S2 => g (.lst ds) ds' S2 := rfl
section
variable {z : Nat → Nat} {U : List Kd} {x : D} {S : Store}
theorem lin_ok : ∀ (K : Kd) {w : NestedKey} {v : Rv} {n : Nat}, hld K w = some v → K.dep + 1 ≤ n → ev n .f__law_in [K.d, kD w, x] S = .ok v.l S := by
  have h8 : sizeLine = 16777216 := rfl
  intro K
  induction K with
  | base i =>
    intro w v n h hn
    obtain ⟨m, rfl⟩ : ∃ m, n = m + 1 := ⟨n - 1, by omega⟩
    cases w <;> simp [hld] at h
    subst h
    rw [ev, b__law_in]
    simp [Kd.d, Rv.l, kD]
  | unit =>
    intro w v n h hn
    obtain ⟨m, rfl⟩ : ∃ m, n = m + 1 := ⟨n - 1, by omega⟩
    cases w with
    | tup ws =>
      cases ws <;> simp [hld] at h
      subst h
      rw [ev, b__law_in]
      simp [Kd.d, Rv.l, kD, kDs]
    | _ => simp [hld] at h
  | both A B iA iB =>
    intro w v n h hn
    simp only [Kd.dep] at hn
    obtain ⟨m, rfl⟩ : ∃ m, n = m + 1 := ⟨n - 1, by omega⟩
    cases w with
    | tup ws =>
      match ws, h with
      | [p, q], h =>
        simp only [hld, Option.bind_eq_some_iff, Option.some.injEq] at h
        obtain ⟨va, h1, vb, h2, rfl⟩ := h
        have e1 := iA (n := m) h1 (by omega)
        have e2 := iB (n := m) h2 (by omega)
        rw [ev, b__law_in]
        simp only [Kd.d, Rv.l, kD, kDs]
        generalize A.d = XA at *
        generalize B.d = XB at *
        generalize kD p = Y1 at *
        generalize kD q = Y2 at *
        simp [e1, e2, h8]
      | [], h => simp [hld] at h
      | [_], h => simp [hld] at h
      | _ :: _ :: _ :: _, h => simp [hld] at h
    | _ => simp [hld] at h
  | frm A B _ _ =>
    intro w v n h hn
    obtain ⟨m, rfl⟩ : ∃ m, n = m + 1 := ⟨n - 1, by omega⟩
    cases w with
    | tup ws =>
      simp only [hld, Option.some.injEq] at h
      subst h
      rw [ev, b__law_in]
      simp only [Kd.d, Rv.l, kD, kDs_map]
      generalize A.d = XA at *
      generalize B.d = XB at *
      generalize ws.map kD = Y at *
      simp [h8]
    | _ => simp [hld] at h
mutual
theorem lwork_ok (g : GoodU z U) (hx : Szs z x S) : ∀ (f : Nat) (t : Tm) (env : Rs) (v : Rv), wrk z U f t env = some v → ∀ {n : Nat}, f + 25 ≤ n → ev n .f__law_work [t.d, .lst env.ls, x] S = .ok v.l S
  | 0, _, _, _, h, _, _ => by simp [wrk] at h
  | f + 1, .giv k, env, v, h, n, hn => by
    obtain ⟨m, rfl⟩ : ∃ m, n = m + 1 := ⟨n - 1, by omega⟩
    rw [wrk] at h
    have e := Rs.ls_at h
    rw [ev, b__law_work]
    simp [Tm.d, e]
  | f + 1, .unit, env, v, h, n, hn => by
    have h8 : sizeLine = 16777216 := rfl
    obtain ⟨m, rfl⟩ : ∃ m, n = m + 1 := ⟨n - 1, by omega⟩
    rw [wrk] at h
    cases h
    rw [ev, b__law_work]
    simp [Tm.d, Rv.l, h8]
  | f + 1, .mk A t, env, v, h, n, hn => by
    have h8 : sizeLine = 16777216 := rfl
    obtain ⟨m, rfl⟩ : ∃ m, n = m + 1 := ⟨n - 1, by omega⟩
    rw [wrk] at h
    cases h
    rw [ev, b__law_work]
    simp only [Tm.d, Rv.l]
    generalize A.d = XA at *
    generalize t.d = XT at *
    generalize env.ls = E at *
    simp [h8]
  | f + 1, .app s t, env, v, h, n, hn => by
    obtain ⟨m, rfl⟩ : ∃ m, n = m + 1 := ⟨n - 1, by omega⟩
    rw [wrk] at h
    simp only [Option.bind_eq_some_iff] at h
    obtain ⟨u, h1, y, h2, h3⟩ := h
    have e1 := lwork_ok g hx f s env u h1 (n := m) (by omega)
    have e2 := lwork_ok g hx f t env y h2 (n := m) (by omega)
    have e3 := lhand_ok g hx f u y v h3 (n := m) (by omega)
    rw [ev, b__law_work]
    simp only [Tm.d]
    generalize s.d = XS at *
    generalize t.d = XT at *
    generalize env.ls = E at *
    generalize u.l = XU at *
    generalize y.l = XY at *
    simp [e1, e2, e3]
  | f + 1, .both s t, env, v, h, n, hn => by
    have h8 : sizeLine = 16777216 := rfl
    obtain ⟨m, rfl⟩ : ∃ m, n = m + 1 := ⟨n - 1, by omega⟩
    rw [wrk] at h
    simp only [Option.bind_eq_some_iff] at h
    obtain ⟨u, h1, y, h2, h3⟩ := h
    cases h3
    have e1 := lwork_ok g hx f s env u h1 (n := m) (by omega)
    have e2 := lwork_ok g hx f t env y h2 (n := m) (by omega)
    rw [ev, b__law_work]
    simp only [Tm.d, Rv.l]
    generalize s.d = XS at *
    generalize t.d = XT at *
    generalize env.ls = E at *
    generalize u.l = XU at *
    generalize y.l = XY at *
    simp [e1, e2, h8]
  | f + 1, .fst s, env, v, h, n, hn => by
    obtain ⟨m, rfl⟩ : ∃ m, n = m + 1 := ⟨n - 1, by omega⟩
    rw [wrk] at h
    simp only [Option.bind_eq_some_iff] at h
    obtain ⟨u, h1, h2⟩ := h
    have e1 := lwork_ok g hx f s env u h1 (n := m) (by omega)
    split at h2
    · cases h2
      rw [ev, b__law_work]
      simp only [Tm.d]
      simp only [Rv.l] at e1
      generalize s.d = XS at *
      generalize env.ls = E at *
      simp [e1]
    · cases h2
  | f + 1, .snd s, env, v, h, n, hn => by
    obtain ⟨m, rfl⟩ : ∃ m, n = m + 1 := ⟨n - 1, by omega⟩
    rw [wrk] at h
    simp only [Option.bind_eq_some_iff] at h
    obtain ⟨u, h1, h2⟩ := h
    have e1 := lwork_ok g hx f s env u h1 (n := m) (by omega)
    split at h2
    · cases h2
      rw [ev, b__law_work]
      simp only [Tm.d]
      simp only [Rv.l] at e1
      generalize s.d = XS at *
      generalize env.ls = E at *
      simp [e1]
    · cases h2
theorem lhand_ok (g : GoodU z U) (hx : Szs z x S) : ∀ (f : Nat) (u y v : Rv), hwn z U f u y = some v → ∀ {n : Nat}, f + 25 ≤ n → ev n .f__law_handed [u.l, y.l, x] S = .ok v.l S
  | 0, _, _, _, h, _, _ => by simp [hwn] at h
  | f + 1, .made t env, y, v, h, n, hn => by
    have h8 : sizeLine = 16777216 := rfl
    obtain ⟨m, rfl⟩ : ∃ m, n = m + 1 := ⟨n - 1, by omega⟩
    rw [hwn] at h
    split at h
    · rename_i hl
      have e := lwork_ok g hx f t (.snoc env y) v h (n := m) (by omega)
      simp only [Rs.ls] at e
      have ll : env.ls.length + 1 ≤ 16777216 := by rw [Rs.ls_len]; omega
      rw [ev, b__law_handed]
      simp only [Rv.l]
      generalize y.l = Y at *
      generalize env.ls = E at *
      generalize t.d = XT at *
      simp [h8, ll, e]
    · cases h
  | f + 1, .told A B ws, y, v, h, n, hn => by
    have h8 : sizeLine = 16777216 := rfl
    obtain ⟨m, rfl⟩ : ∃ m, n = m + 1 := ⟨n - 1, by omega⟩
    rw [hwn] at h
    split at h
    · rename_i hAB
      have hA := hAB.1
      have hB := hAB.2
      simp only [Option.bind_eq_some_iff] at h
      obtain ⟨w, h1, j, h2, wj, h3, h4⟩ := h
      obtain ⟨gt, gn, gd, gs⟩ := g.ok A hA
      have e1 := lout_ok g hx f A y w h1 (n := m) (by omega)
      have e2 := lall_ok hx A (n := m) (by omega) gt gn
      have e3 : gIdx (.lst (wl z A)) [kD w] S = .ok (.int (j : Int)) S := idx_wl (by omega) h2 (idx_in h2)
      have e5 : gIx (.tup (ws.map kD)) (.int (j : Int)) S = .ok (kD wj) S := by
        rw [gIx_tup, ixR_nat, List.getElem?_map, h3]; rfl
      have e6 : ev m .f__law_in [B.d, kD wj, x] S = .ok v.l S := lin_ok B h4 (by omega)
      rw [ev, b__law_handed]
      simp only [Rv.l, Kd.d]
      generalize y.l = Y at *
      generalize v.l = V at *
      generalize A.d = XA at *
      generalize B.d = XB at *
      generalize ws.map kD = WS at *
      generalize kD w = W at *
      generalize kD wj = WJ at *
      generalize wl z A = WL at *
      generalize (j : Int) = J at *
      rw [gIx_tup] at e5
      simp [e1, e2, e3, e5, e6, mthR_lst']
    · cases h
  | f + 1, .num c, _, v, h, n, hn => by simp [hwn] at h
  | f + 1, .unit, _, v, h, n, hn => by simp [hwn] at h
  | f + 1, .pair _ _, _, v, h, n, hn => by simp [hwn] at h
theorem lout_ok (g : GoodU z U) (hx : Szs z x S) : ∀ (f : Nat) (K : Kd) (v : Rv) (w : NestedKey), tlv z U f K v = some w → ∀ {n : Nat}, f + 25 ≤ n → ev n .f__law_out [K.d, v.l, x] S = .ok (kD w) S
  | 0, _, _, _, h, _, _ => by simp [tlv] at h
  | f + 1, .base i, v, w, h, n, hn => by
    obtain ⟨m, rfl⟩ : ∃ m, n = m + 1 := ⟨n - 1, by omega⟩
    simp only [tlv] at h
    split at h
    · cases h
      rw [ev, b__law_out]
      simp [Kd.d, Rv.l, kD]
    · cases h
  | f + 1, .unit, v, w, h, n, hn => by
    obtain ⟨m, rfl⟩ : ∃ m, n = m + 1 := ⟨n - 1, by omega⟩
    simp only [tlv] at h
    split at h
    · cases h
      rw [ev, b__law_out]
      simp [Kd.d, Rv.l, kD, kDs]
    · cases h
  | f + 1, .both A B, v, w, h, n, hn => by
    have h8 : sizeLine = 16777216 := rfl
    obtain ⟨m, rfl⟩ : ∃ m, n = m + 1 := ⟨n - 1, by omega⟩
    simp only [tlv] at h
    split at h
    · rename_i p q
      simp only [Option.bind_eq_some_iff, Option.some.injEq] at h
      obtain ⟨s, h1, t, h2, rfl⟩ := h
      have e1 := lout_ok g hx f A p s h1 (n := m) (by omega)
      have e2 := lout_ok g hx f B q t h2 (n := m) (by omega)
      rw [ev, b__law_out]
      simp only [Kd.d, Rv.l, kD, kDs]
      generalize p.l = P at *
      generalize q.l = Q at *
      generalize A.d = XA at *
      generalize B.d = XB at *
      generalize kD s = Y1 at *
      generalize kD t = Y2 at *
      simp [e1, e2, h8]
    · cases h
  | f + 1, .frm A B, v, w, h, n, hn => by
    have h8 : sizeLine = 16777216 := rfl
    obtain ⟨m, rfl⟩ : ∃ m, n = m + 1 := ⟨n - 1, by omega⟩
    simp only [tlv] at h
    split at h
    · rename_i hA
      simp only [Option.bind_eq_some_iff, Option.some.injEq] at h
      obtain ⟨vs, h1, ws, h2, rfl⟩ := h
      obtain ⟨gt, h5, hdA, _⟩ := g.ok A hA
      have wlen := wlk_len hx.ok A h5
      have e1 := lall_ok hx A (n := m) (by omega) gt h5
      obtain ⟨l, l1, l2, l3⟩ := seqO_zip h1
      obtain ⟨r, r1, r2, r3⟩ := seqO_zip h2
      have ll : l.length = (wlk z A).length := by rw [← l1, List.length_map]
      have lr : r.length = (wlk z A).length := by rw [← ll, ← List.length_map (f := (·.1)) (as := r), r1, ← l2, List.length_map]
      obtain ⟨S2, e2, G2⟩ := compL_thr (i := 4) (te := fArg (ev m .f__law_handed) (fCons (fVar 1) (fCons (fArg (ev m .f__law_in) (fCons (f2 gIx (fVar 0) (fC (.int 1))) (fCons (fVar 4) (fCons (fVar 2) fNil)))) (fCons (fVar 2) fNil))))
        (ρ := [some (Kd.frm A B).d, some v.l, some x, none, none, none]) (I := fun T => T = S) (l.map fun p => (kD p.1, p.2.l)) [] S rfl (by simp; omega) (fun p hp T hT => by
          rw [hT]
          obtain ⟨q, hq, rfl⟩ := List.mem_map.mp hp
          have h4 := l3 q hq
          simp only [Option.bind_eq_some_iff] at h4
          obtain ⟨y, hy1, hy2⟩ := h4
          have a1 := lin_ok (x := x) (S := S) A (n := m) hy1 (by omega)
          have a2 := lhand_ok g hx f v y q.2 hy2 (n := m) (by omega)
          refine ⟨S, ?_, rfl⟩
          simp only [Kd.d]
          generalize v.l = V at *
          generalize y.l = Y at *
          generalize q.2.l = Q at *
          generalize A.d = XA at *
          generalize B.d = XB at *
          generalize kD q.1 = W at *
          simp [a1, a2])
      rw [G2] at e2
      obtain ⟨S3, e3, G3⟩ := compL_thr (i := 5) (te := fArg (ev m .f__law_out) (fCons (f2 gIx (fVar 0) (fC (.int 2))) (fCons (fVar 5) (fCons (fVar 2) fNil))))
        (ρ := [some (Kd.frm A B).d, some v.l, some x, some (.lst (vs.map Rv.l)), none, none]) (I := fun T => T = S) (r.map fun p => (p.1.l, kD p.2)) [] S rfl (by simp; omega) (fun p hp T hT => by
          rw [hT]
          obtain ⟨q, hq, rfl⟩ := List.mem_map.mp hp
          have a2 := lout_ok g hx f B q.1 q.2 (r3 q hq) (n := m) (by omega)
          refine ⟨S, ?_, rfl⟩
          simp only [Kd.d]
          generalize v.l = V at *
          generalize q.1.l = Q at *
          generalize vs.map Rv.l = VS at *
          generalize A.d = XA at *
          generalize B.d = XB at *
          generalize kD q.2 = W at *
          simp [a2])
      rw [G3] at e3
      have m1 : (l.map fun p => (kD p.1, p.2.l)).map (·.1) = wl z A := by rw [List.map_map, ← wlk_map, ← l1, List.map_map]; rfl
      have m2 : (l.map fun p => (kD p.1, p.2.l)).map (·.2) = vs.map Rv.l := by rw [List.map_map, ← l2, List.map_map]; rfl
      have m3 : (r.map fun p => (p.1.l, kD p.2)).map (·.1) = vs.map Rv.l := by rw [List.map_map, ← r1, List.map_map]; rfl
      have m4 : (r.map fun p => (p.1.l, kD p.2)).map (·.2) = ws.map kD := by rw [List.map_map, ← r2, List.map_map]; rfl
      rw [m1, m2, List.nil_append] at e2
      rw [m3, m4, List.nil_append] at e3
      have q1 : fLc false (fiL (fArg (ev m .f__law_all) (fCons (f2 gIx (fVar 0) (fC (.int 1))) (fCons (fVar 2) fNil)))) (gN 4) fYes (fArg (ev m .f__law_handed) (fCons (fVar 1) (fCons (fArg (ev m .f__law_in) (fCons (f2 gIx (fVar 0) (fC (.int 1))) (fCons (fVar 4) (fCons (fVar 2) fNil)))) (fCons (fVar 2) fNil)))) [4] [some (Kd.frm A B).d, some v.l, some x, none, none, none] S = .ok (.lst (vs.map Rv.l)) S := by
        have it : fiL (fArg (ev m .f__law_all) (fCons (f2 gIx (fVar 0) (fC (.int 1))) (fCons (fVar 2) fNil))) [some (Kd.frm A B).d, some v.l, some x, none, none, none] S = .ok (wl z A, none) S := by
          have : fArg (ev m .f__law_all) (fCons (f2 gIx (fVar 0) (fC (.int 1))) (fCons (fVar 2) fNil)) [some (Kd.frm A B).d, some v.l, some x, none, none, none] S = .ok (.lst (wl z A)) S := by
            simp only [Kd.d]
            generalize v.l = V at *
            generalize A.d = XA at *
            generalize B.d = XB at *
            generalize wl z A = WL at *
            simp [e1]
          unfold fiL
          rw [this]; rfl
        rw [fLc_ap, it, bnd_ok]
        show lcR false (compL _ _ _ none [some (Kd.frm A B).d, some v.l, some x, none, none, none] (wl z A) [] S) = _
        rw [e2]; rfl
      have q2 : fLc false (fiL (fVar 3)) (gN 5) fYes (fArg (ev m .f__law_out) (fCons (f2 gIx (fVar 0) (fC (.int 2))) (fCons (fVar 5) (fCons (fVar 2) fNil)))) [5] [some (Kd.frm A B).d, some v.l, some x, some (.lst (vs.map Rv.l)), none, none] S = .ok (.lst (ws.map kD)) S := by
        have it : fiL (fVar 3) [some (Kd.frm A B).d, some v.l, some x, some (.lst (vs.map Rv.l)), none, none] S = .ok (vs.map Rv.l, none) S := rfl
        rw [fLc_ap, it, bnd_ok]
        show lcR false (compL _ _ _ none [some (Kd.frm A B).d, some v.l, some x, some (.lst (vs.map Rv.l)), none, none] (vs.map Rv.l) [] S) = _
        rw [e3]; rfl
      rw [ev, b__law_out]
      simp only [Kd.d, kD, kDs_map] at q1 q2 ⊢
      generalize v.l = V at *
      generalize vs.map Rv.l = VS at *
      generalize A.d = XA at *
      generalize B.d = XB at *
      generalize ws.map kD = WS at *
      simp [q1, q2, -fLc_ap]
    · cases h
end
end
end Kz
namespace Kz
open PySem PySem.Spec PyProof.Rows L2 Kw
def clo (Γ : List Kd) (t : Tm) : Tm := Γ.foldr .mk t
def cloK (Γ : List Kd) (K : Kd) : Kd := Γ.foldr .frm K
theorem clo_nf : ∀ (Γ Δ : List Kd) {K : Kd} {t : Tm}, Nf (Δ ++ Γ) K t → Nf Δ (cloK Γ K) (clo Γ t)
  | [], Δ, K, t, h => by simpa [clo, cloK] using h
  | A :: Γ, Δ, K, t, h => by
    have := clo_nf Γ (Δ ++ [A]) (K := K) (t := t) (by simpa using h)
    exact .mk this
theorem clo_ht (t : Tm) : ∀ Γ : List Kd, (clo Γ t).ht = t.ht + Γ.length
  | [] => rfl
  | A :: Γ => by have := clo_ht t Γ; simp only [clo, List.foldr_cons, Tm.ht, List.length_cons] at this ⊢; omega
theorem clo_kds {q : Nat} {t : Tm} (h : kdsT q t) : ∀ Γ : List Kd, (∀ A ∈ Γ, A.dep ≤ q ∧ A.sz ≤ 2000000) → kdsT q (clo Γ t)
  | [], _ => h
  | A :: Γ, hΓ => ⟨hΓ A List.mem_cons_self, clo_kds h Γ fun B hB => hΓ B (List.mem_cons_of_mem _ hB)⟩
theorem cloK_dep {q : Nat} {K : Kd} : ∀ Γ : List Kd, (∀ A ∈ Γ, A.dep ≤ q) → K.dep ≤ q → (cloK Γ K).dep ≤ q + Γ.length
  | [], _, h => h
  | A :: Γ, hΓ, h => by
    have := cloK_dep Γ (fun B hB => hΓ B (List.mem_cons_of_mem _ hB)) h
    have := hΓ A List.mem_cons_self
    simp only [cloK, List.foldr_cons, Kd.dep, List.length_cons] at this ⊢
    simp only [cloK] at *
    omega
theorem closed_loop {m : Nat} {S : Store} {x1 : Option D} : ∀ (ks : List Kd) (t : Tm) (x2 : Option D), ∃ y2, forL (gN 2) (l__law_closed_0 (ev m)) none (ks.map Kd.d) [some t.d, x1, x2] S = .nx [some (ks.foldl (fun t k => Tm.mk k t) t).d, x1, y2] S
  | [], t, x2 => ⟨x2, by simp⟩
  | k :: ks, t, x2 => by
    have h8 : sizeLine = 16777216 := rfl
    obtain ⟨y2, ih⟩ := closed_loop (m := m) (S := S) (x1 := x1) ks (.mk k t) (some k.d)
    refine ⟨y2, ?_⟩
    rw [List.foldl_cons, ← ih, List.map_cons, forL_cons]
    have step : l__law_closed_0 (ev m) [some t.d, x1, some k.d] S = .nx [some (Tm.mk k t).d, x1, some k.d] S := by
      unfold l__law_closed_0
      simp [h8, Tm.d]
    simp [step]
theorem lclosed_ok {n : Nat} {S : Store} {t : Tm} {Γ : List Kd} (h : 1 ≤ n) : ev n .f__law_closed [t.d, .lst (Γ.map Kd.d)] S = .ok (clo Γ t).d S := by
  obtain ⟨m, rfl, h'⟩ := up h
  obtain ⟨y2, e⟩ := closed_loop (m := m) (S := S) (x1 := some (.lst (Γ.map Kd.d))) Γ.reverse t none
  rw [List.foldl_reverse, List.map_reverse] at e
  have ec : (Γ.foldr (fun k t => Tm.mk k t) t) = clo Γ t := rfl
  rw [ec] at e
  have gt : ∀ ds (T : Store), gTurn (.lst ds) T = .ok (.lst ds.reverse) T := fun _ _ => rfl
  rw [ev, b__law_closed]
  generalize Γ.map Kd.d = G at *
  simp [gt, e]
def _root_.Kw.Kd.re (ρ : _root_.Fin 8 → _root_.Fin 8) : Kd → Kd
  | .base i => .base (ρ i)
  | .unit => .unit
  | .both a b => .both (a.re ρ) (b.re ρ)
  | .frm a b => .frm (a.re ρ) (b.re ρ)
def Tm.re (ρ : _root_.Fin 8 → _root_.Fin 8) : Tm → Tm
  | .giv k => .giv k
  | .unit => .unit
  | .mk A b => .mk (A.re ρ) (b.re ρ)
  | .app a b => .app (a.re ρ) (b.re ρ)
  | .both a b => .both (a.re ρ) (b.re ρ)
  | .fst a => .fst (a.re ρ)
  | .snd a => .snd (a.re ρ)
theorem re_dep (ρ : _root_.Fin 8 → _root_.Fin 8) : ∀ K : Kd, (K.re ρ).dep = K.dep
  | .base _ => rfl
  | .unit => rfl
  | .both a b => by simp only [Kd.re, Kd.dep, re_dep ρ a, re_dep ρ b]
  | .frm a b => by simp only [Kd.re, Kd.dep, re_dep ρ a, re_dep ρ b]
theorem re_sz (ρ : _root_.Fin 8 → _root_.Fin 8) : ∀ K : Kd, (K.re ρ).sz = K.sz
  | .base _ => rfl
  | .unit => rfl
  | .both a b => by simp only [Kd.re, Kd.sz, re_sz ρ a, re_sz ρ b]
  | .frm a b => by simp only [Kd.re, Kd.sz, re_sz ρ a, re_sz ρ b]
theorem re_ht (ρ : _root_.Fin 8 → _root_.Fin 8) : ∀ t : Tm, (t.re ρ).ht = t.ht
  | .giv _ => rfl
  | .unit => rfl
  | .mk A b => by simp only [Tm.re, Tm.ht, re_ht ρ b]
  | .app a b => by simp only [Tm.re, Tm.ht, re_ht ρ a, re_ht ρ b]
  | .both a b => by simp only [Tm.re, Tm.ht, re_ht ρ a, re_ht ρ b]
  | .fst a => by simp only [Tm.re, Tm.ht, re_ht ρ a]
  | .snd a => by simp only [Tm.re, Tm.ht, re_ht ρ a]
theorem re_kds {q : Nat} {ρ : _root_.Fin 8 → _root_.Fin 8} : ∀ {t : Tm}, kdsT q t → kdsT q (t.re ρ)
  | .giv _, _ => trivial
  | .unit, _ => trivial
  | .mk A b, h => ⟨by rw [re_dep, re_sz]; exact h.1, re_kds (t := b) h.2⟩
  | .app a b, h => ⟨re_kds (t := a) h.1, re_kds (t := b) h.2⟩
  | .both a b, h => ⟨re_kds (t := a) h.1, re_kds (t := b) h.2⟩
  | .fst a, h => re_kds (t := a) h
  | .snd a, h => re_kds (t := a) h
mutual
theorem Nf.re {ρ : _root_.Fin 8 → _root_.Fin 8} : ∀ {Γ : List Kd} {K : Kd} {t : Tm}, Nf Γ K t → Nf (Γ.map (Kd.re ρ)) (K.re ρ) (t.re ρ)
  | _, _, _, .unit => .unit
  | _, _, _, .both a b => .both a.re b.re
  | Γ, .frm A B, _, .mk b => by
    have := b.re (ρ := ρ)
    rw [List.map_append] at this
    exact .mk this
  | _, _, _, .base t => .base t.re
theorem Ne.re {ρ : _root_.Fin 8 → _root_.Fin 8} : ∀ {Γ : List Kd} {K : Kd} {t : Tm}, Ne Γ K t → Ne (Γ.map (Kd.re ρ)) (K.re ρ) (t.re ρ)
  | _, _, _, .giv h => .giv (by rw [List.getElem?_map, h]; rfl)
  | _, _, _, .fst t => .fst t.re
  | _, _, _, .snd t => .snd t.re
  | _, _, _, .app t a => .app t.re a.re
end
theorem cloK_re (ρ : _root_.Fin 8 → _root_.Fin 8) (K : Kd) : ∀ Γ : List Kd, (cloK Γ K).re ρ = cloK (Γ.map (Kd.re ρ)) (K.re ρ)
  | [] => rfl
  | A :: Γ => by
    have := cloK_re ρ K Γ
    simp only [cloK, List.foldr_cons, List.map_cons, Kd.re] at this ⊢
    rw [this]
/-- the kinds in a term have bases below a bound -/
def belT (β : Nat) : Tm → Prop
  | .giv _ => True
  | .unit => True
  | .mk A b => A.bel β ∧ belT β b
  | .app a b => belT β a ∧ belT β b
  | .both a b => belT β a ∧ belT β b
  | .fst a => belT β a
  | .snd a => belT β a
mutual
theorem Nf.belT {β : Nat} : ∀ {Γ : List Kd} {K : Kd} {t : Tm}, Nf Γ K t → (∀ A ∈ Γ, A.bel β) → K.bel β → Kz.belT β t
  | _, _, _, .unit, _, _ => trivial
  | _, _, _, .both a b, hΓ, hK => ⟨a.belT hΓ hK.1, b.belT hΓ hK.2⟩
  | _, .frm A _, _, .mk b, hΓ, hK => ⟨hK.1, b.belT (fun X hX => by
    rcases List.mem_append.mp hX with hX | hX
    · exact hΓ X hX
    · have : X = A := by simpa using hX
      rw [this]; exact hK.1) hK.2⟩
  | _, _, _, .base t, hΓ, _ => (t.belT hΓ).1
theorem Ne.belT {β : Nat} : ∀ {Γ : List Kd} {K : Kd} {t : Tm}, Ne Γ K t → (∀ A ∈ Γ, A.bel β) → Kz.belT β t ∧ K.bel β
  | _, _, _, .giv h, hΓ => ⟨trivial, hΓ _ (List.mem_of_getElem? h)⟩
  | _, _, _, .fst t, hΓ => ⟨(t.belT hΓ).1, (t.belT hΓ).2.1⟩
  | _, _, _, .snd t, hΓ => ⟨(t.belT hΓ).1, (t.belT hΓ).2.2⟩
  | _, _, _, .app t a, hΓ => ⟨⟨(t.belT hΓ).1, a.belT hΓ (t.belT hΓ).2.1⟩, (t.belT hΓ).2.2⟩
end
theorem clo_bel {β : Nat} {t : Tm} (h : belT β t) : ∀ Γ : List Kd, (∀ A ∈ Γ, A.bel β) → belT β (clo Γ t)
  | [], _ => h
  | A :: Γ, hΓ => ⟨hΓ A List.mem_cons_self, clo_bel h Γ fun B hB => hΓ B (List.mem_cons_of_mem _ hB)⟩
/-- picked bases -/
def pkD (p : List (_root_.Fin 8)) : D := .lst (p.map fun j => .int (j.val : Int))
def pkF (p : List (_root_.Fin 8)) (i : _root_.Fin 8) : _root_.Fin 8 := p.getD i.val 0
theorem pk_at {p : List (_root_.Fin 8)} {i : _root_.Fin 8} {S : Store} (h : i.val < p.length) : gIx (pkD p) (.int (i.val : Int)) S = .ok (.int ((pkF p i).val : Int)) S := by
  unfold pkD pkF
  rw [gIx_lst, ixR_nat, List.getElem?_map, List.getElem?_eq_getElem h]
  simp [List.getD, h]
section
variable {p : List (_root_.Fin 8)}
theorem lren_kd : ∀ (K : Kd) {n : Nat} {S : Store}, K.bel p.length → K.dep + 1 ≤ n → ev n .f__law_renamed [K.d, pkD p] S = .ok (K.re (pkF p)).d S
  | .base i, n, S, hb, h => by
    have h8 : sizeLine = 16777216 := rfl
    obtain ⟨m, rfl, h'⟩ := up (d := 0) (by omega : 0 + 1 ≤ n)
    have e := pk_at (S := S) (p := p) (i := i) hb
    rw [ev, b__law_renamed]
    generalize pkD p = P at *
    simp only [Kd.d, Kd.re]
    simp [h8, e]
  | .unit, n, S, hb, h => by
    have h8 : sizeLine = 16777216 := rfl
    obtain ⟨m, rfl, h'⟩ := up (d := 0) (by omega : 0 + 1 ≤ n)
    have c1 : cutL [D.str "unit"] (some 1) none = [] := rfl
    have gt : ∀ xs (T : Store), gTuple [.lst xs] T = .ok (.tup xs) T := fun _ _ => rfl
    rw [ev, b__law_renamed]
    generalize pkD p = P at *
    have hc := compL_ls (tg := gN 2) (tt := fYes) (te := fArg (ev m .f__law_renamed) (fCons (fVar 2) (fCons (fVar 1) fNil))) (ρ := [some (.tup [.str "unit"]), some P, none]) (S := S) (fun x : D × D => x.1) (fun x => x.2) [] [] (fun s hs => nomatch hs) (by simp)
    simp at hc
    simp [Kd.d, Kd.re, h8, c1, gt, wipeR, hc]
  | .both a b, n, S, hb, h => by
    have h8 : sizeLine = 16777216 := rfl
    simp only [Kd.dep] at h
    obtain ⟨m, rfl, h'⟩ := up (n := n) (d := max a.dep b.dep + 1) (by omega)
    have ea := lren_kd a (n := m) (S := S) hb.1 (by omega)
    have eb := lren_kd b (n := m) (S := S) hb.2 (by omega)
    have c1 : cutL [D.str "both", a.d, b.d] (some 1) none = [a.d, b.d] := rfl
    have gt : ∀ xs (T : Store), gTuple [.lst xs] T = .ok (.tup xs) T := fun _ _ => rfl
    rw [ev, b__law_renamed]
    generalize pkD p = P at *
    have hc := compL_ls (tg := gN 2) (tt := fYes) (te := fArg (ev m .f__law_renamed) (fCons (fVar 2) (fCons (fVar 1) fNil))) (ρ := [some (.tup [.str "both", a.d, b.d]), some P, none]) (S := S) (fun x : D × D => x.1) (fun x => x.2) [(a.d, (a.re (pkF p)).d), (b.d, (b.re (pkF p)).d)] [] (fun s hs => by
      simp at hs
      rcases hs with rfl | rfl
      · exact ⟨[some (.tup [.str "both", a.d, b.d]), some P, some a.d], by simp, rfl, by simp [ea]⟩
      · exact ⟨[some (.tup [.str "both", a.d, b.d]), some P, some b.d], by simp, rfl, by simp [eb]⟩) (by simp [h8])
    simp at hc
    simp [Kd.d, Kd.re, h8, c1, gt, wipeR, hc]
  | .frm a b, n, S, hb, h => by
    have h8 : sizeLine = 16777216 := rfl
    simp only [Kd.dep] at h
    obtain ⟨m, rfl, h'⟩ := up (n := n) (d := max a.dep b.dep + 1) (by omega)
    have ea := lren_kd a (n := m) (S := S) hb.1 (by omega)
    have eb := lren_kd b (n := m) (S := S) hb.2 (by omega)
    have c1 : cutL [D.str "from", a.d, b.d] (some 1) none = [a.d, b.d] := rfl
    have gt : ∀ xs (T : Store), gTuple [.lst xs] T = .ok (.tup xs) T := fun _ _ => rfl
    rw [ev, b__law_renamed]
    generalize pkD p = P at *
    have hc := compL_ls (tg := gN 2) (tt := fYes) (te := fArg (ev m .f__law_renamed) (fCons (fVar 2) (fCons (fVar 1) fNil))) (ρ := [some (.tup [.str "from", a.d, b.d]), some P, none]) (S := S) (fun x : D × D => x.1) (fun x => x.2) [(a.d, (a.re (pkF p)).d), (b.d, (b.re (pkF p)).d)] [] (fun s hs => by
      simp at hs
      rcases hs with rfl | rfl
      · exact ⟨[some (.tup [.str "from", a.d, b.d]), some P, some a.d], by simp, rfl, by simp [ea]⟩
      · exact ⟨[some (.tup [.str "from", a.d, b.d]), some P, some b.d], by simp, rfl, by simp [eb]⟩) (by simp [h8])
    simp at hc
    simp [Kd.d, Kd.re, h8, c1, gt, wipeR, hc]
theorem lren_two {m : Nat} {S : Store} {P x y x' y' : D} {s : String} (hs : s ≠ "base" ∧ s ≠ "given") (ea : ev m .f__law_renamed [x, P] S = .ok x' S) (eb : ev m .f__law_renamed [y, P] S = .ok y' S) : ev (m + 1) .f__law_renamed [.tup [.str s, x, y], P] S = .ok (.tup [.str s, x', y']) S := by
  have h8 : sizeLine = 16777216 := rfl
  have c1 : cutL [D.str s, x, y] (some 1) none = [x, y] := rfl
  have gt : ∀ xs (T : Store), gTuple [.lst xs] T = .ok (.tup xs) T := fun _ _ => rfl
  have hc := compL_ls (tg := gN 2) (tt := fYes) (te := fArg (ev m .f__law_renamed) (fCons (fVar 2) (fCons (fVar 1) fNil))) (ρ := [some (.tup [.str s, x, y]), some P, none]) (S := S) (fun x : D × D => x.1) (fun x => x.2) [(x, x'), (y, y')] [] (fun z hz => by
      simp at hz
      rcases hz with rfl | rfl
      · exact ⟨[some (.tup [.str s, x, y]), some P, some x], by simp, rfl, by simp [ea]⟩
      · exact ⟨[some (.tup [.str s, x, y]), some P, some y], by simp, rfl, by simp [eb]⟩) (by simp [h8])
  simp at hc
  rw [ev, b__law_renamed]
  simp [h8, c1, gt, wipeR, hc, hs.1, hs.2]
theorem lren_one {m : Nat} {S : Store} {P x x' : D} {s : String} (hs : s ≠ "base" ∧ s ≠ "given") (ea : ev m .f__law_renamed [x, P] S = .ok x' S) : ev (m + 1) .f__law_renamed [.tup [.str s, x], P] S = .ok (.tup [.str s, x']) S := by
  have h8 : sizeLine = 16777216 := rfl
  have c1 : cutL [D.str s, x] (some 1) none = [x] := rfl
  have gt : ∀ xs (T : Store), gTuple [.lst xs] T = .ok (.tup xs) T := fun _ _ => rfl
  have hc := compL_ls (tg := gN 2) (tt := fYes) (te := fArg (ev m .f__law_renamed) (fCons (fVar 2) (fCons (fVar 1) fNil))) (ρ := [some (.tup [.str s, x]), some P, none]) (S := S) (fun x : D × D => x.1) (fun x => x.2) [(x, x')] [] (fun z hz => by
      simp at hz
      subst hz
      exact ⟨[some (.tup [.str s, x]), some P, some x], by simp, rfl, by simp [ea]⟩) (by simp [h8])
  simp at hc
  rw [ev, b__law_renamed]
  simp [h8, c1, gt, wipeR, hc, hs.1, hs.2]
theorem lren_tm {q : Nat} : ∀ (t : Tm) {n : Nat} {S : Store}, belT p.length t → kdsT q t → t.ht + q + 1 ≤ n → ev n .f__law_renamed [t.d, pkD p] S = .ok (t.re (pkF p)).d S
  | .giv k, n, S, hb, hk, h => by
    obtain ⟨m, rfl, h'⟩ := up (d := 0) (by omega : 0 + 1 ≤ n)
    rw [ev, b__law_renamed]
    generalize pkD p = P at *
    simp [Tm.d, Tm.re]
  | .unit, n, S, hb, hk, h => by
    have := lren_kd (p := p) .unit (n := n) (S := S) trivial (by simp only [Kd.dep]; omega)
    simpa [Kd.d, Kd.re, Tm.d, Tm.re] using this
  | .mk A b, n, S, hb, hk, h => by
    simp only [Tm.ht] at h
    obtain ⟨m, rfl, h'⟩ := up (n := n) (d := b.ht + q + 1) (by omega)
    exact lren_two (by decide) (lren_kd A hb.1 (by have := hk.1.1; omega)) (lren_tm (q := q) b hb.2 hk.2 (by omega))
  | .app a b, n, S, hb, hk, h => by
    simp only [Tm.ht] at h
    obtain ⟨m, rfl, h'⟩ := up (n := n) (d := max a.ht b.ht + q + 1) (by omega)
    exact lren_two (by decide) (lren_tm (q := q) a hb.1 hk.1 (by omega)) (lren_tm (q := q) b hb.2 hk.2 (by omega))
  | .both a b, n, S, hb, hk, h => by
    simp only [Tm.ht] at h
    obtain ⟨m, rfl, h'⟩ := up (n := n) (d := max a.ht b.ht + q + 1) (by omega)
    exact lren_two (by decide) (lren_tm (q := q) a hb.1 hk.1 (by omega)) (lren_tm (q := q) b hb.2 hk.2 (by omega))
  | .fst a, n, S, hb, hk, h => by
    simp only [Tm.ht] at h
    obtain ⟨m, rfl, h'⟩ := up (n := n) (d := a.ht + q + 1) (by omega)
    exact lren_one (by decide) (lren_tm (q := q) a hb hk (by omega))
  | .snd a, n, S, hb, hk, h => by
    simp only [Tm.ht] at h
    obtain ⟨m, rfl, h'⟩ := up (n := n) (d := a.ht + q + 1) (by omega)
    exact lren_one (by decide) (lren_tm (q := q) a hb hk (by omega))
end
end Kz
namespace Kz
open PySem PySem.Spec PyProof.Rows L2 Kw
theorem mulN {i j : Int} (h1 : 0 ≤ i) (h2 : i ≤ 1000) : (CMul i j ∨ CMulW i j) = True := eq_true (.inl (.inl ⟨by omega, by omega⟩))
section
variable {z : Nat → Nat} {x : D} {S : Store} {m : Nat}
theorem count_loop {x0 x1 x2 : Option D} {o : Int} (o0 : 0 ≤ o) : ∀ (ds : List D) (t : Int) (x5 : Option D), 0 ≤ t → t ≤ 1000 → ∃ (t' : Int) (y5 : Option D), 0 ≤ t' ∧ t' ≤ 1000 ∧ forL (gN 5) (l__law_count_0 (ev m)) none ds [x0, x1, x2, some (.int o), some (.int t), x5] S = .nx [x0, x1, x2, some (.int o), some (.int t'), y5] S
  | [], t, x5, h0, h1 => ⟨t, x5, h0, h1, by simp⟩
  | d :: ds, t, x5, h0, h1 => by
    have p0 := Int.mul_nonneg h0 o0
    obtain ⟨t', y5, a, b, ih⟩ := count_loop (x0 := x0) (x1 := x1) (x2 := x2) o0 ds (min 1000 (t * o)) (some d) (by omega) (by omega)
    refine ⟨t', y5, a, b, ?_⟩
    rw [← ih, forL_cons]
    have step : l__law_count_0 (ev m) [x0, x1, x2, some (.int o), some (.int t), some d] S = .nx [x0, x1, x2, some (.int o), some (.int (min 1000 (t * o))), some d] S := by
      unfold l__law_count_0
      simp [mulN h0 h1, gMin_two]
    simp [step]
theorem lcount_ok (hx : Szs z x S) : ∀ (K : Kd) {n : Nat}, K.dep + 1 ≤ n → ∃ c : Int, 0 ≤ c ∧ c ≤ 1000 ∧ ev n .f__law_count [K.d, x] S = .ok (.int c) S
  | .base i, n, h => by
    obtain ⟨m, rfl, h'⟩ := up (n := n) (d := 0) (by omega)
    have := hx.ok i.val
    refine ⟨(z i.val : Int), by omega, by omega, ?_⟩
    have e := hx.ix i
    rw [ev, b__law_count]
    generalize (z i.val : Int) = Z at *
    simp [Kd.d, e]
  | .unit, n, h => by
    obtain ⟨m, rfl, h'⟩ := up (n := n) (d := 0) (by omega)
    refine ⟨1, by omega, by omega, ?_⟩
    rw [ev, b__law_count]
    simp [Kd.d]
  | .both a b, n, h => by
    simp only [Kd.dep] at h
    obtain ⟨m, rfl, h'⟩ := up (n := n) (d := max a.dep b.dep + 1) (by omega)
    obtain ⟨c1, p1, q1, e1⟩ := lcount_ok hx a (n := m) (by omega)
    obtain ⟨c2, p2, q2, e2⟩ := lcount_ok hx b (n := m) (by omega)
    have p0 := Int.mul_nonneg p1 p2
    refine ⟨min 1000 (c1 * c2), by omega, by omega, ?_⟩
    rw [ev, b__law_count]
    simp only [Kd.d]
    generalize a.d = XA at *
    generalize b.d = XB at *
    simp [e1, e2, mulN p1 q1, gMin_two]
  | .frm a b, n, h => by
    simp only [Kd.dep] at h
    obtain ⟨m, rfl, h'⟩ := up (n := n) (d := max a.dep b.dep + 1) (by omega)
    obtain ⟨c1, p1, q1, e1⟩ := lcount_ok hx a (n := m) (by omega)
    obtain ⟨c2, p2, q2, e2⟩ := lcount_ok hx b (n := m) (by omega)
    obtain ⟨t, y5, t0, t1, el⟩ := count_loop (m := m) (S := S) (x0 := some (Kd.frm a b).d) (x1 := some x) (x2 := some (.int c1)) (o := c2) p2 (rngD 0 c1.toNat) 1 none (by omega) (by omega)
    refine ⟨t, t0, t1, ?_⟩
    have it := itR_k (z := c1) (S := S) p1 (by omega)
    have eF : sFor (fiR1 (fCons (fVar 2) fNil)) (gN 5) (l__law_count_0 (ev m)) [some (Kd.frm a b).d, some x, some (.int c1), some (.int c2), some (.int 1), none] S = .nx [some (Kd.frm a b).d, some x, some (.int c1), some (.int c2), some (.int t), y5] S := by
      rw [sFor_ap, fiR1_ap]
      have a1 : fCons (fVar 2) fNil [some (Kd.frm a b).d, some x, some (.int c1), some (.int c2), some (.int 1), none] S = .ok [.int c1] S := rfl
      rw [a1, bnd_ok, it]
      exact el
    rw [ev, b__law_count]
    simp only [Kd.d] at eF ⊢
    generalize a.d = XA at *
    generalize b.d = XB at *
    generalize sFor (fiR1 (fCons (fVar 2) fNil)) (gN 5) (l__law_count_0 (ev m)) = sF at *
    simp [e1, e2, eF]
theorem in_bul (s : Str) (S : Store) (h : PyData.strOk s = true) : gIn false (.str s) (.lst [.str "base", .str "unit"]) S = .ok (.bl (s == "base" || s == "unit")) S := by
  have e1 : (Str.ofString "base" == s) = (s == Str.ofString "base") := by rw [Bool.eq_iff_iff, beq_iff_eq, beq_iff_eq]; exact eq_comm
  have e2 : (Str.ofString "unit" == s) = (s == Str.ofString "unit") := by rw [Bool.eq_iff_iff, beq_iff_eq, beq_iff_eq]; exact eq_comm
  simp [gIn, pyS, pySL, PyData.canLay0, PyData.canLayAll0, PyData.depth, PyData.depthAll, PyData.eqv, h, e1, e2]
theorem lcost_ok (hx : Szs z x S) : ∀ (K : Kd) {n : Nat}, K.dep + 2 ≤ n → ∃ c : Int, 0 ≤ c ∧ ev n .f__law_cost [K.d, x] S = .ok (.int c) S
  | .base i, n, h => by
    have h8 : sizeLine = 16777216 := rfl
    obtain ⟨m, rfl, h'⟩ := up (n := n) (d := 0) (by omega)
    have i1 := fun S => in_bul "base" S (by simp)
    refine ⟨1, by omega, ?_⟩
    rw [ev, b__law_cost]
    simp [Kd.d, i1, h8]
  | .unit, n, h => by
    have h8 : sizeLine = 16777216 := rfl
    obtain ⟨m, rfl, h'⟩ := up (n := n) (d := 0) (by omega)
    have i1 := fun S => in_bul "unit" S (by simp)
    refine ⟨1, by omega, ?_⟩
    rw [ev, b__law_cost]
    simp [Kd.d, i1, h8]
  | .both a b, n, h => by
    have h8 : sizeLine = 16777216 := rfl
    simp only [Kd.dep] at h
    obtain ⟨m, rfl, h'⟩ := up (n := n) (d := max a.dep b.dep + 2) (by omega)
    obtain ⟨c1, p1, e1⟩ := lcost_ok hx a (n := m) (by omega)
    obtain ⟨c2, p2, e2⟩ := lcost_ok hx b (n := m) (by omega)
    have i1 := fun S => in_bul "both" S (by simp)
    refine ⟨c1 + c2, by omega, ?_⟩
    rw [ev, b__law_cost]
    simp only [Kd.d]
    generalize a.d = XA at *
    generalize b.d = XB at *
    simp [e1, e2, i1, h8]
  | .frm a b, n, h => by
    have h8 : sizeLine = 16777216 := rfl
    simp only [Kd.dep] at h
    obtain ⟨m, rfl, h'⟩ := up (n := n) (d := max a.dep b.dep + 2) (by omega)
    obtain ⟨c1, p1, q1, e1⟩ := lcount_ok hx a (n := m) (by omega)
    obtain ⟨c2, p2, e2⟩ := lcost_ok hx b (n := m) (by omega)
    have i1 := fun S => in_bul "from" S (by simp)
    have p0 := Int.mul_nonneg p1 p2
    refine ⟨c1 * c2, by omega, ?_⟩
    rw [ev, b__law_cost]
    simp only [Kd.d]
    generalize a.d = XA at *
    generalize b.d = XB at *
    simp [e1, e2, i1, h8, mulN p1 q1]
end
theorem gPop_at {T : Store} {c r : Nat} {xs : List D} (h : T[c]? = some (.lst xs)) (hr : r < xs.length) (hx : xs.length ≤ 100) : gPop1 (.loc c) [.int (r : Int)] T = .ok xs[r] (T.set c (.lst (xs.eraseIdx r))) := by
  have e : seqIndex? (r : Int) xs.length = some r := by
    unfold seqIndex?
    have a1 : ¬ (r : Int) < 0 := by omega
    have a2 : (0 : Int) ≤ (r : Int) := by omega
    have a3 : (r : Int) < (xs.length : Int) := by omega
    simp [a1, a2, a3, hr]
  have b : -(2 ^ 63) ≤ (r : Int) ∧ (r : Int) < 2 ^ 63 := by omega
  unfold gPop1
  simp only [cellM_of h, e]
  rw [if_pos b, List.getElem?_eq_getElem hr]
theorem erase_map {α β : Type} (f : α → β) : ∀ (l : List α) (k : Nat), (l.map f).eraseIdx k = (l.eraseIdx k).map f
  | [], k => by cases k <;> rfl
  | a :: l, 0 => rfl
  | a :: l, k + 1 => by simp [erase_map f l k]
section
variable {m w c : Nat} {S : Store}
def fD (j : _root_.Fin 8) : D := .int (j.val : Int)
theorem pick_step (hm : 1 ≤ m) {T : Store} {l : List (_root_.Fin 8)} {k V : Nat} (hV : V + k = 8) (hl : l.length = V) (h0 : 0 < V) (hw : w < S.length) (hc : S.length ≤ c) (wx : WX S w T) (ht : T[c]? = some (.lst (l.map fD))) : ∃ (j : _root_.Fin 8) (l' : List (_root_.Fin 8)) (T' : Store), fMth gPop1 (fVar 1) (fCons (fArg (ev m .f__law_draw) (fCons (fVar 0) (fCons (f2 gSub (fC (.int 8)) (fVar 2)) fNil))) fNil) [some (.loc w), some (.loc c), some (.int (k : Int))] T = .ok (fD j) T' ∧ WX S w T' ∧ T'[c]? = some (.lst (l'.map fD)) ∧ l'.length + 1 = V := by
  obtain ⟨r, T1, hr, e, w1⟩ := draw_nat (n := m) (S := T) (w := w) (V := V) (by omega) wx.well h0 (by omega)
  have ht1 : T1[c]? = some (.lst (l.map fD)) := by rw [w1.same c (by omega)]; exact ht
  have hrl : r < (l.map fD).length := by rw [List.length_map]; omega
  have ep := gPop_at ht1 hrl (by rw [List.length_map]; omega)
  have wx1 : WX S w T1 := wx.trans w1.wx
  refine ⟨l[r]'(by omega), l.eraseIdx r, _, ?_, wx1.set (v := c) (c := .lst ((l.map fD).eraseIdx r)) hc hw, ?_, ?_⟩
  · have es : (8 : Int) - (k : Int) = (V : Int) := by omega
    have eg : (l.map fD)[r] = fD (l[r]'(by omega)) := by simp
    rw [eg] at ep
    have co := cellOf_of ht
    generalize (V : Int) = VI at *
    generalize (k : Int) = KI at *
    generalize (r : Int) = RI at *
    simp [mthR_loc co, es, e, ep]
  · rw [List.getElem?_set_self (lt_of_at ht1), erase_map]
  · rw [List.length_eraseIdx_of_lt (by omega)]; omega
theorem pick_sp {n : Nat} (h : 2 ≤ n) (hw : Well S w) : ∃ (p : List (_root_.Fin 8)) (S' : Store), ev n .f__law_pick [.loc w] S = .ok (pkD p) S' ∧ p.length = 3 ∧ WS S w S' := by
  have h8 : sizeLine = 16777216 := rfl
  obtain ⟨m, rfl, h'⟩ := up (n := n) (d := 1) (by omega)
  have lw := lt_of_at (show S[w]? = some _ from hw.choose_spec.choose_spec.choose_spec.2.2)
  have l0 : ([0, 1, 2, 3, 4, 5, 6, 7] : List (_root_.Fin 8)).map fD = [.int 0, .int 1, .int 2, .int 3, .int 4, .int 5, .int 6, .int 7] := rfl
  have eR : gRngC (.int 8) S = .ok (.loc S.length) (S ++ [.lst (([0, 1, 2, 3, 4, 5, 6, 7] : List (_root_.Fin 8)).map fD)]) := rfl
  obtain ⟨j0, l1, T1, e1, w1, t1, n1⟩ := pick_step (m := m) (w := w) (c := S.length) (S := S) (T := S ++ [.lst (([0, 1, 2, 3, 4, 5, 6, 7] : List (_root_.Fin 8)).map fD)]) (l := [0, 1, 2, 3, 4, 5, 6, 7]) (k := 0) (V := 8) (by omega) rfl rfl (by omega) lw (Nat.le_refl _) (WS.refl hw).wx.app (by simp)
  obtain ⟨j1, l2, T2, e2, w2, t2, n2⟩ := pick_step (m := m) (w := w) (c := S.length) (S := S) (T := T1) (l := l1) (k := 1) (V := 7) (by omega) rfl (by omega) (by omega) lw (Nat.le_refl _) w1 t1
  obtain ⟨j2, l3, T3, e3, w3, t3, n3⟩ := pick_step (m := m) (w := w) (c := S.length) (S := S) (T := T2) (l := l2) (k := 2) (V := 6) (by omega) rfl (by omega) (by omega) lw (Nat.le_refl _) w2 t2
  have hp : pkD [j0, j1, j2] = .lst [fD j0, fD j1, fD j2] := rfl
  obtain ⟨S', ec, ws⟩ := w3.cut lw (d := pkD [j0, j1, j2]) (by simp [hp, fD, D.under, underL])
  refine ⟨[j0, j1, j2], S', ?_, rfl, ws⟩
  rw [ev, b__law_pick]
  show cutR S (RS.fin _) = _
  have r : ∀ (X Y : RE D), X = Y → cutR S X = cutR S Y := fun X Y h => by rw [h]
  refine (r _ (.ok (pkD [j0, j1, j2]) T3) ?_).trans ec
  rw [hp]
  generalize S ++ [.lst (([0, 1, 2, 3, 4, 5, 6, 7] : List (_root_.Fin 8)).map fD)] = T0 at *
  generalize S.length = c at *
  have q0 : sSet 1 (f1 gRngC (fC (.int 8))) [some (.loc w), none, none] S = .nx [some (.loc w), some (.loc c), none] T0 := by
    simp [eR]
  have it : ∀ (ρ : FEnv) (T : Store), fiR1 (fCons (fC (.int 3)) fNil) ρ T = .ok (rngD 0 3, none) T := fun ρ T => by
    rw [fiR1_ap]
    show (itR [.int 3] T) = _
    rw [itR_k (by omega) (by omega)]; rfl
  have er : rngD 0 3 = [.int ((0 : Nat) : Int), .int ((1 : Nat) : Int), .int ((2 : Nat) : Int)] := rfl
  show RS.fin (sSeq _ _ [some (.loc w), none, none] S) = _
  rw [sSeq_ap, q0, sb_nx, sRet_ap, fLc_ap]
  rw [it, bnd_ok]
  show RS.fin ((lcR false (compL _ _ _ none [some (.loc w), some (.loc c), none] (rngD 0 3) [] T0)).toS _ _) = _
  rw [er, compL_step (ρ1 := [some (.loc w), some (.loc c), some (.int ((0 : Nat) : Int))]) (S1 := T0) (S2 := T0) (by unfold gd; trivial) rfl rfl e1 (by simp [h8]),
    compL_step (ρ1 := [some (.loc w), some (.loc c), some (.int ((1 : Nat) : Int))]) (S1 := T1) (S2 := T1) (by unfold gd; trivial) rfl rfl e2 (by simp [h8]),
    compL_step (ρ1 := [some (.loc w), some (.loc c), some (.int ((2 : Nat) : Int))]) (S1 := T2) (S2 := T2) (by unfold gd; trivial) rfl rfl e3 (by simp [h8]), compL_nil (by unfold gd; trivial)]
  rfl
end
end Kz
namespace Kz
open PySem PySem.Spec PyProof.Rows L2 Kw
theorem gSb_at {v q : Nat} {fo fi : FE} {ρ : FEnv} {S : Store} {ds : List D} {d : D} (h1 : fo ρ S = .ok (.loc v) S) (h2 : fi ρ S = .ok (.int (q : Int)) S) (at_ : S[v]? = some (.lst ds)) (hp : q < ds.length) :
    gSb fo fi d ρ S = some (ρ, S.set v (.lst (ds.set q d))) := by
  have e3 : L2.ixN ds.length (q : Int) = some q := by
    unfold L2.ixN
    rw [if_pos (by omega), if_pos (by omega)]
    rw [Int.toNat_natCast]
  unfold gSb
  rw [h1]
  simp only
  rw [h2]
  simp only [gSetI]
  rw [cellM_of at_]
  simp only
  rw [e3]
/-- the cell of sizes: the first i of the picked ones are small -/
structure Sz4 (p : List (_root_.Fin 8)) (i : Nat) (ns : List Int) : Prop where
  ok : okSz ns
  small : ∀ j q, j < i → p[j]? = some q → sF ns q.val ≤ 4
theorem Sz4.set {p : List (_root_.Fin 8)} {i : Nat} {ns : List Int} (h : Sz4 p i ns) {q : _root_.Fin 8} {v : Int} (h0 : 1 ≤ v) (h1 : v ≤ 4) (hq : p[i]? = some q) : Sz4 p (i + 1) (ns.set q.val v) := by
  have l8 := h.ok.1
  have small : ∀ (r : _root_.Fin 8), sF ns r.val ≤ 4 ∨ r = q → sF (ns.set q.val v) r.val ≤ 4 := fun r hr => by
    unfold sF
    by_cases e : r = q
    · subst e
      have : (ns.set r.val v).getD r.val 1 = v := by simp [List.getD, l8]
      rw [this]; omega
    · have ne : q.val ≠ r.val := fun z => e (_root_.Fin.ext z.symm)
      have : (ns.set q.val v).getD r.val 1 = ns.getD r.val 1 := by simp only [List.getD]; rw [List.getElem?_set_ne ne]
      rw [this]
      rcases hr with hr | hr
      · exact hr
      · exact absurd hr e
  refine ⟨⟨by simp [l8], fun x hx => ?_⟩, fun j r hj hr => ?_⟩
  · rcases List.mem_or_eq_of_mem_set hx with hx | hx
    · exact h.ok.2 x hx
    · rw [hx]; omega
  · by_cases e : j = i
    · subst e
      rw [hq] at hr
      exact small r (.inr (Option.some.inj hr).symm)
    · exact small r (.inl (h.small j r (by omega) hr))
section
variable {m w c : Nat} {S : Store} {p : List (_root_.Fin 8)} {dr : List Int}
theorem sz_step {x0 x1 x4 : Option D} {M : Int} (hM : 2 ≤ M ∧ M ≤ 4) (hd : dr.length = 3 ∧ ∀ d ∈ dr, 1 ≤ d ∧ d ≤ 4) (hp : p.length = 3) (hw : w < S.length) (hc : S.length ≤ c) {T : Store} {ns : List Int} {i k : Nat} (hk : k < 3) (wx : WX S w T) (ht : T[c]? = some (.lst (ns.map .int))) (h4 : Sz4 p i ns) (hik : i = k ∨ i = 3) :
    ∃ ns' T', l__law_sizes_0 (ev m) [x0, x1, some (pkD p), some (.lst (dr.map .int)), x4, some (.loc c), some (.int M), some (.int (k : Int))] T = .nx [x0, x1, some (pkD p), some (.lst (dr.map .int)), x4, some (.loc c), some (.int M), some (.int (k : Int))] T' ∧ WX S w T' ∧ T'[c]? = some (.lst (ns'.map .int)) ∧ Sz4 p (if i = 3 then 3 else k + 1) ns' := by
  have l8 := h4.ok.1
  have hkd : k < dr.length := by omega
  have hkp : k < p.length := by omega
  have bd := hd.2 _ (List.getElem_mem hkd)
  have hv : 1 ≤ min M dr[k] ∧ min M dr[k] ≤ 4 := by omega
  have e1 : gIx (.lst (dr.map .int)) (.int (k : Int)) T = .ok (.int dr[k]) T := by
    rw [gIx_lst, ixR_nat, List.getElem?_map, List.getElem?_eq_getElem hkd]; rfl
  have e2 : gIx (pkD p) (.int (k : Int)) T = .ok (.int ((p[k]).val : Int)) T := by
    unfold pkD
    rw [gIx_lst, ixR_nat, List.getElem?_map, List.getElem?_eq_getElem hkp]; rfl
  have es := gSb_at (fo := fVar 5) (fi := f2 gIx (fVar 2) (fVar 7)) (ρ := [x0, x1, some (pkD p), some (.lst (dr.map .int)), x4, some (.loc c), some (.int M), some (.int (k : Int))]) (d := .int (min M dr[k])) (v := c) (q := (p[k]).val) (by rfl) (by simp [e2]) ht (by simp [l8])
  have hi4 : Sz4 p k ns := by
    rcases hik with rfl | rfl
    · exact h4
    · exact ⟨h4.ok, fun j q hj hq => h4.small j q (by omega) hq⟩
  have s4 := hi4.set (q := p[k]) (v := min M dr[k]) hv.1 hv.2 (List.getElem?_eq_getElem hkp)
  refine ⟨ns.set (p[k]).val (min M dr[k]), T.set c (.lst ((ns.map .int).set (p[k]).val (.int (min M dr[k])))), ?_, wx.set (v := c) hc hw, ?_, ?_⟩
  · unfold l__law_sizes_0
    have em : fArg gMin (fCons (fVar 6) (fCons (f2 gIx (fVar 3) (fVar 7)) fNil)) [x0, x1, some (pkD p), some (.lst (dr.map .int)), x4, some (.loc c), some (.int M), some (.int (k : Int))] T = .ok (.int (min M dr[k])) T := by
      generalize pkD p = P at *
      generalize D.lst (dr.map .int) = R at *
      generalize (k : Int) = K at *
      simp [e1, gMin_two]
    rw [sAsg_ap, em, toS_ok, es]; rfl
  · rw [List.getElem?_set_self (lt_of_at ht), List.map_set]
  · by_cases e3 : i = 3
    · rw [if_pos e3]
      subst e3
      refine ⟨s4.ok, fun j q hj hq => ?_⟩
      by_cases ejk : j < k + 1
      · exact s4.small j q ejk hq
      · have old := h4.small j q hj hq
        by_cases eq : q = p[k]
        · subst eq
          exact s4.small k _ (by omega) (List.getElem?_eq_getElem hkp)
        · unfold sF at old ⊢
          have ne : (p[k]).val ≠ q.val := fun z => eq (_root_.Fin.ext z.symm)
          have : (ns.set (p[k]).val (min M dr[k])).getD q.val 1 = ns.getD q.val 1 := by simp only [List.getD]; rw [List.getElem?_set_ne ne]
          rw [this]; exact old
    · rw [if_neg e3]; exact s4
theorem sz_in {x0 x1 x4 x7 : Option D} {M : Int} (hM : 2 ≤ M ∧ M ≤ 4) (hd : dr.length = 3 ∧ ∀ d ∈ dr, 1 ≤ d ∧ d ≤ 4) (hp : p.length = 3) (hw : w < S.length) (hc : S.length ≤ c) {T : Store} {ns : List Int} {i : Nat} (wx : WX S w T) (ht : T[c]? = some (.lst (ns.map .int))) (h4 : Sz4 p i ns) (hi : i = 0 ∨ i = 3) :
    ∃ ns' T' y7, sFor (fiR1 (fCons (fC (.int 3)) fNil)) (gN 7) (l__law_sizes_0 (ev m)) [x0, x1, some (pkD p), some (.lst (dr.map .int)), x4, some (.loc c), some (.int M), x7] T = .nx [x0, x1, some (pkD p), some (.lst (dr.map .int)), x4, some (.loc c), some (.int M), y7] T' ∧ WX S w T' ∧ T'[c]? = some (.lst (ns'.map .int)) ∧ Sz4 p 3 ns' := by
  obtain ⟨n1, T1, e1, w1, t1, s1⟩ := sz_step (m := m) (x0 := x0) (x1 := x1) (x4 := x4) hM hd hp hw hc (k := 0) (by omega) wx ht h4 (by omega)
  obtain ⟨n2, T2, e2, w2, t2, s2⟩ := sz_step (m := m) (x0 := x0) (x1 := x1) (x4 := x4) hM hd hp hw hc (k := 1) (by omega) w1 t1 s1 (by rcases hi with rfl | rfl <;> simp)
  obtain ⟨n3, T3, e3, w3, t3, s3⟩ := sz_step (m := m) (x0 := x0) (x1 := x1) (x4 := x4) hM hd hp hw hc (k := 2) (by omega) w2 t2 s2 (by rcases hi with rfl | rfl <;> simp)
  have er : rngD 0 3 = [.int ((0 : Nat) : Int), .int ((1 : Nat) : Int), .int ((2 : Nat) : Int)] := rfl
  refine ⟨n3, T3, some (.int ((2 : Nat) : Int)), ?_, w3, t3, ?_⟩
  · rw [sFor_ap, fiR1_ap]
    have a1 : fCons (fC (.int 3)) fNil [x0, x1, some (pkD p), some (.lst (dr.map .int)), x4, some (.loc c), some (.int M), x7] T = .ok [.int 3] T := rfl
    rw [a1, bnd_ok, itR_k (by omega) (by omega)]
    show forL (gN 7) (l__law_sizes_0 (ev m)) none (rngD 0 3) _ T = _
    rw [er]
    generalize D.lst (dr.map .int) = R at *
    generalize pkD p = P at *
    generalize ((0 : Nat) : Int) = K0 at *
    generalize ((1 : Nat) : Int) = K1 at *
    generalize ((2 : Nat) : Int) = K2 at *
    simp [forL_cons, e1, e2, e3]
  · rcases hi with rfl | rfl
    · simpa using s3
    · simpa using s3
theorem sz_out {x0 x4 x7 : Option D} {K : Kd} {M : Int} (hK : K.dep + 2 ≤ m) (hM : 2 ≤ M ∧ M ≤ 4) (hd : dr.length = 3 ∧ ∀ d ∈ dr, 1 ≤ d ∧ d ≤ 4) (hp : p.length = 3) (hw : w < S.length) (hc : S.length ≤ c) {T : Store} {ns : List Int} {i : Nat} (wx : WX S w T) (ht : T[c]? = some (.lst (ns.map .int))) (h4 : Sz4 p i ns) (hi : (i = 0 ∧ M = 4) ∨ i = 3) :
    ∃ ns' T' y7, l__law_sizes_1 (ev m) [x0, some K.d, some (pkD p), some (.lst (dr.map .int)), x4, some (.loc c), some (.int M), x7] T = .nx [x0, some K.d, some (pkD p), some (.lst (dr.map .int)), x4, some (.loc c), some (.int M), y7] T' ∧ WX S w T' ∧ T'[c]? = some (.lst (ns'.map .int)) ∧ Sz4 p 3 ns' := by
  obtain ⟨ns', T', y7, e, a1, a2, a3⟩ := sz_in (m := m) (x0 := x0) (x1 := some K.d) (x4 := x4) (x7 := x7) hM hd hp hw hc wx ht h4 (by omega)
  obtain ⟨cc, c0, ec⟩ := lcost_ok (szs_cell h4.ok ht) K (n := m) hK
  unfold l__law_sizes_1
  generalize hsF : sFor (fiR1 (fCons (fC (.int 3)) fNil)) (gN 7) (l__law_sizes_0 (ev m)) = sF' at *
  generalize D.lst (dr.map .int) = R at *
  generalize pkD p = P at *
  generalize K.d = X at *
  by_cases h1 : M = 4
  · refine ⟨ns', T', y7, ?_, a1, a2, a3⟩
    subst h1
    simp [e]
  · by_cases h2 : 400 < cc
    · refine ⟨ns', T', y7, ?_, a1, a2, a3⟩
      simp [h1, ec, h2, e]
    · have : i = 3 := by omega
      subst this
      exact ⟨ns, T, x7, by simp [h1, ec, h2], wx, ht, h4⟩
end
theorem one_drawn {n w : Nat} {S : Store} (hn : 1 ≤ n) (hw : Well S w) : ∃ (d : Int) (S' : Store), ev n .f__law_draw [.loc w, .int 4] S = .ok (.int d) S' ∧ 1 ≤ 1 + d ∧ 1 + d ≤ 4 ∧ WS S w S' := by
  obtain ⟨r, S', e, r0, r1, w1⟩ := draw_sp (n := n) (S := S) (w := w) (m := 4) hn hw (by omega) (by omega)
  exact ⟨r, S', e, by omega, by omega, w1⟩
theorem sizes_sp {n w : Nat} {S : Store} {K : Kd} {p : List (_root_.Fin 8)} (h : K.dep + 3 ≤ n) (hp : p.length = 3) (hw : Well S w) : ∃ (ns : List Int) (S' : Store), ev n .f__law_sizes [.loc w, K.d, pkD p] S = .ok (.lst (ns.map .int)) S' ∧ okSz ns ∧ (∀ q ∈ p, sF ns q.val ≤ 4) ∧ WS S w S' := by
  have h8 : sizeLine = 16777216 := rfl
  obtain ⟨m, rfl, h'⟩ := up (n := n) (d := K.dep + 2) (by omega)
  have lw := lt_of_at (show S[w]? = some _ from hw.choose_spec.choose_spec.choose_spec.2.2)
  obtain ⟨d0, S0, e0, a0, b0, w0⟩ := one_drawn (n := m) (by omega) hw
  obtain ⟨d1, S1, e1, a1, b1, w1⟩ := one_drawn (n := m) (by omega) w0.well
  obtain ⟨d2, S2, e2, a2, b2, w2⟩ := one_drawn (n := m) (by omega) w1.well
  obtain ⟨r, S3, e3, r0, r1, w3⟩ := draw_sp (n := m) (S := S2) (w := w) (m := 3) (by omega) w2.well (by omega) (by omega)
  have wS3 : WS S w S3 := ((w0.trans w1).trans w2).trans w3
  obtain ⟨s, eS, s0, s1⟩ : ∃ s : Int, ixR [D.int 1, .int 999, .int 2] r S3 = .ok (.int s) S3 ∧ 1 ≤ s ∧ s ≤ 999 := by
    have : r = 0 ∨ r = 1 ∨ r = 2 := by omega
    rcases this with rfl | rfl | rfl
    · exact ⟨1, rfl, by omega, by omega⟩
    · exact ⟨999, rfl, by omega, by omega⟩
    · exact ⟨2, rfl, by omega, by omega⟩
  have ok0 : okSz (List.replicate 8 s) := ⟨by simp, fun x hx => by rw [(List.mem_replicate.mp hx).2]; omega⟩
  have l3 := wS3.len
  have eM : gMul true (.lst [.int s]) (.int 8) S3 = .ok (.loc S3.length) (S3 ++ [.lst ((List.replicate 8 s).map .int)]) := by rfl
  rw [l3] at eM
  have wx0 : WX S w (S3 ++ [.lst ((List.replicate 8 s).map .int)]) := wS3.wx.app
  have ht0 : (S3 ++ [Cell.lst ((List.replicate 8 s).map .int)])[S.length]? = some (.lst ((List.replicate 8 s).map .int)) := by rw [← l3]; simp
  have hd : ([1 + d0, 1 + d1, 1 + d2] : List Int).length = 3 ∧ ∀ d ∈ ([1 + d0, 1 + d1, 1 + d2] : List Int), 1 ≤ d ∧ d ≤ 4 := ⟨rfl, fun d hd => by
    simp at hd
    rcases hd with rfl | rfl | rfl <;> omega⟩
  have z0 : Sz4 p 0 (List.replicate 8 s) := ⟨ok0, fun j q hj => absurd hj (by omega)⟩
  obtain ⟨n1, T1, y1, f1, v1, t1, s1⟩ := sz_out (m := m) (x0 := some (.loc w)) (x4 := some (.int s)) (x7 := none) (K := K) (M := 4) (by omega) (by omega) hd hp lw (Nat.le_refl _) wx0 ht0 z0 (.inl ⟨rfl, rfl⟩)
  obtain ⟨n2, T2, y2, f2', v2, t2, s2⟩ := sz_out (m := m) (x0 := some (.loc w)) (x4 := some (.int s)) (x7 := y1) (K := K) (M := 3) (by omega) (by omega) hd hp lw (Nat.le_refl _) v1 t1 s1 (.inr rfl)
  obtain ⟨n3, T3, y3, f3, v3, t3, s3⟩ := sz_out (m := m) (x0 := some (.loc w)) (x4 := some (.int s)) (x7 := y2) (K := K) (M := 2) (by omega) (by omega) hd hp lw (Nat.le_refl _) v2 t2 s2 (.inr rfl)
  have uL : ∀ (ns : List Int) (n : Nat), underL n (ns.map .int) = true := fun ns n => by
    induction ns with
    | nil => rfl
    | cons a ns ih => simp [underL, D.under, ih]
  have eZ : gFz (.loc S.length) T3 = .ok (.lst (n3.map .int)) (T3.set S.length .dead) := by
    unfold gFz
    simp only [cellM_of t3]
  have v4 : WX S w (T3.set S.length .dead) := v3.set (Nat.le_refl _) lw
  obtain ⟨S', ec, ws⟩ := v4.cut lw (d := .lst (n3.map .int)) (by simp [D.under, uL])
  refine ⟨n3, S', ?_, s3.ok, fun q hq => ?_, ws⟩
  · rw [ev, b__law_sizes]
    show cutR S (RS.fin _) = _
    have rr : ∀ (X Y : RE D), X = Y → cutR S X = cutR S Y := fun X Y h => by rw [h]
    refine (rr _ (.ok (.lst (n3.map .int)) (T3.set S.length .dead)) ?_).trans ec
    have er : rngD 0 3 = [.int 0, .int 1, .int 2] := rfl
    have it : ∀ (ρ : FEnv) (T : Store), fiR1 (fCons (fC (.int 3)) fNil) ρ T = .ok (rngD 0 3, none) T := fun ρ T => by
      rw [fiR1_ap]
      show (itR [.int 3] T) = _
      rw [itR_k (by omega) (by omega)]; rfl
    have q3 : sSet 3 (fLc false (fiR1 (fCons (fC (.int 3)) fNil)) (gN 7) fYes (f2 (gAdd false) (fC (.int 1)) (fArg (ev m .f__law_draw) (fCons (fVar 0) (fCons (fC (.int 4)) fNil)))) [7]) [some (.loc w), some K.d, some (pkD p), none, none, none, none, none] S = .nx [some (.loc w), some K.d, some (pkD p), some (.lst ([1 + d0, 1 + d1, 1 + d2].map .int)), none, none, none, none] S2 := by
      rw [sSet_ap, fLc_ap, it, bnd_ok]
      show ((lcR false (compL _ _ _ none [some (.loc w), some K.d, some (pkD p), none, none, none, none, none] (rngD 0 3) [] S)).toS _ _) = _
      rw [er, compL_step (ρ1 := [some (.loc w), some K.d, some (pkD p), none, none, none, none, some (.int 0)]) (S1 := S) (S2 := S) (S3 := S0) (y := .int (1 + d0)) (by unfold gd; trivial) rfl rfl (by simp [e0]) (by simp [h8]),
        compL_step (ρ1 := [some (.loc w), some K.d, some (pkD p), none, none, none, none, some (.int 1)]) (S1 := S0) (S2 := S0) (S3 := S1) (y := .int (1 + d1)) (by unfold gd; trivial) rfl rfl (by simp [e1]) (by simp [h8]),
        compL_step (ρ1 := [some (.loc w), some K.d, some (pkD p), none, none, none, none, some (.int 2)]) (S1 := S1) (S2 := S1) (S3 := S2) (y := .int (1 + d2)) (by unfold gd; trivial) rfl rfl (by simp [e2]) (by simp [h8]), compL_nil (by unfold gd; trivial)]
      rfl
    generalize D.lst ([1 + d0, 1 + d1, 1 + d2].map .int) = R at *
    generalize pkD p = P at *
    generalize K.d = X at *
    generalize S3 ++ [Cell.lst ((List.replicate 8 s).map .int)] = T0 at *
    generalize S.length = c at *
    have q4 : sSet 4 (f2 gIx (fArg mkLst (fCons (fC (.int 1)) (fCons (fC (.int 999)) (fCons (fC (.int 2)) fNil)))) (fArg (ev m .f__law_draw) (fCons (fVar 0) (fCons (fC (.int 3)) fNil)))) [some (.loc w), some X, some P, some R, none, none, none, none] S2 = .nx [some (.loc w), some X, some P, some R, some (.int s), none, none, none] S3 := by
      simp [h8, e3, eS]
    have q5 : sSet 5 (f2 (gMul true) (fArg mkLst (fCons (fVar 4) fNil)) (fC (.int 8))) [some (.loc w), some X, some P, some R, some (.int s), none, none, none] S3 = .nx [some (.loc w), some X, some P, some R, some (.int s), some (.loc c), none, none] T0 := by
      simp [h8, eM]
    have q6 : sFor (fiL (fArg mkLst (fCons (fC (.int 4)) (fCons (fC (.int 3)) (fCons (fC (.int 2)) fNil))))) (gN 6) (l__law_sizes_1 (ev m)) [some (.loc w), some X, some P, some R, some (.int s), some (.loc c), none, none] T0 = .nx [some (.loc w), some X, some P, some R, some (.int s), some (.loc c), some (.int 2), y3] T3 := by
      simp [h8, forL_cons, f1, f2', f3]
    show RS.fin (sSeq _ _ [some (.loc w), some X, some P, none, none, none, none, none] S) = _
    rw [sSeq_ap, q3, sb_nx, sSeq_ap, q4, sb_nx, sSeq_ap, q5, sb_nx, sSeq_ap, q6, sb_nx]
    simp [eZ]
  · obtain ⟨j, hj, e⟩ := List.getElem_of_mem hq
    exact s3.small j q (by omega) (by rw [List.getElem?_eq_getElem hj, e])
end Kz
namespace Kz
open PySem PySem.Spec PyProof.Rows L2 Kw
/-- all bases are picked ones -/
def _root_.Kw.Kd.inb (p : List (_root_.Fin 8)) : Kd → Prop
  | .base i => i ∈ p
  | .unit => True
  | .both a b => a.inb p ∧ b.inb p
  | .frm a b => a.inb p ∧ b.inb p
def U0 (p : List (_root_.Fin 8)) : List Kd := p.map Kd.base ++ [.unit]
def U1 (p : List (_root_.Fin 8)) : List Kd := U0 p ++ (U0 p).flatMap fun a => (U0 p).flatMap fun b => [.both a b, .frm a b]
theorem mem_U0 {p : List (_root_.Fin 8)} : ∀ {K : Kd}, K.dep = 0 → K.inb p → K ∈ U0 p
  | .base i, _, h => List.mem_append.mpr (.inl (List.mem_map.mpr ⟨i, h, rfl⟩))
  | .unit, _, _ => List.mem_append.mpr (.inr (by simp))
  | .both a b, h, _ => by simp [Kd.dep] at h
  | .frm a b, h, _ => by simp [Kd.dep] at h
theorem mem_U1 {p : List (_root_.Fin 8)} {K : Kd} (hd : K.dep ≤ 1) (h : K.inb p) : K ∈ U1 p := by
  unfold U1
  cases K with
  | base i => exact List.mem_append.mpr (.inl (mem_U0 rfl h))
  | unit => exact List.mem_append.mpr (.inl (mem_U0 rfl h))
  | both a b =>
    simp only [Kd.dep] at hd
    exact List.mem_append.mpr (.inr (List.mem_flatMap.mpr ⟨a, mem_U0 (by omega) h.1, List.mem_flatMap.mpr ⟨b, mem_U0 (by omega) h.2, by simp⟩⟩))
  | frm a b =>
    simp only [Kd.dep] at hd
    exact List.mem_append.mpr (.inr (List.mem_flatMap.mpr ⟨a, mem_U0 (by omega) h.1, List.mem_flatMap.mpr ⟨b, mem_U0 (by omega) h.2, by simp⟩⟩))
theorem U0_in {p : List (_root_.Fin 8)} {K : Kd} (h : K ∈ U0 p) : K.dep = 0 ∧ K.inb p := by
  rcases List.mem_append.mp h with h | h
  · obtain ⟨i, hi, rfl⟩ := List.mem_map.mp h
    exact ⟨rfl, hi⟩
  · have : K = .unit := by simpa using h
    subst this; exact ⟨rfl, trivial⟩
theorem U1_in {p : List (_root_.Fin 8)} {K : Kd} (h : K ∈ U1 p) : K.dep ≤ 1 ∧ K.inb p := by
  rcases List.mem_append.mp h with h | h
  · have := U0_in h; exact ⟨by omega, this.2⟩
  · obtain ⟨a, ha, h⟩ := List.mem_flatMap.mp h
    obtain ⟨b, hb, h⟩ := List.mem_flatMap.mp h
    have a0 := U0_in ha; have b0 := U0_in hb
    simp at h
    rcases h with rfl | rfl
    · exact ⟨by simp only [Kd.dep]; omega, a0.2, b0.2⟩
    · exact ⟨by simp only [Kd.dep]; omega, a0.2, b0.2⟩
theorem nm_0 {p : List (_root_.Fin 8)} {z : Nat → Nat} (hz : ∀ q ∈ p, z q.val ≤ 4) : ∀ {K : Kd}, K.dep = 0 → K.inb p → nm z K ≤ 4 ∧ tk z K = 0
  | .base i, _, h => ⟨by have := hz i h; simpa [nm] using this, rfl⟩
  | .unit, _, _ => ⟨by simp [nm], rfl⟩
  | .both a b, h, _ => by simp [Kd.dep] at h
  | .frm a b, h, _ => by simp [Kd.dep] at h
theorem nm_1 {p : List (_root_.Fin 8)} {z : Nat → Nat} (hz : ∀ q ∈ p, z q.val ≤ 4) {K : Kd} (hd : K.dep ≤ 1) (h : K.inb p) : nm z K ≤ 256 ∧ tk z K ≤ 4 := by
  cases K with
  | base i => have := nm_0 hz (K := .base i) rfl h; omega
  | unit => have := nm_0 hz (K := .unit) rfl h; omega
  | both a b =>
    simp only [Kd.dep] at hd
    have a0 := nm_0 hz (K := a) (by omega) h.1
    have b0 := nm_0 hz (K := b) (by omega) h.2
    have := Nat.mul_le_mul a0.1 b0.1
    simp only [nm, tk]; omega
  | frm a b =>
    simp only [Kd.dep] at hd
    have a0 := nm_0 hz (K := a) (by omega) h.1
    have b0 := nm_0 hz (K := b) (by omega) h.2
    have p1 : nm z b ^ nm z a ≤ 4 ^ nm z a := Nat.pow_le_pow_left b0.1 _
    have p2 : 4 ^ nm z a ≤ 4 ^ 4 := Nat.pow_le_pow_right (by omega) a0.1
    simp only [nm, tk, pw]; omega
theorem sz_1 {K : Kd} (hd : K.dep ≤ 1) : K.sz ≤ 16 := by
  have := sz_dep K
  have : 2 ^ (K.dep + 1) ≤ 2 ^ 2 := Nat.pow_le_pow_right (by omega) (by omega)
  omega
theorem good_U1 {p : List (_root_.Fin 8)} {z : Nat → Nat} (hp : p.length = 3) (hz : ∀ q ∈ p, z q.val ≤ 4) : GoodU z (U1 p) where
  len := by
    match p, hp with
    | [a, b, c], _ => show (36 : Nat) ≤ 10000; omega
  ok := fun A hA => by
    have := U1_in hA
    have n := nm_1 hz this.1 this.2
    have s := sz_1 this.1
    exact ⟨by omega, by omega, by omega, by omega⟩
theorem ka_2 {p : List (_root_.Fin 8)} : ∀ {K : Kd}, K.dep ≤ 2 → K.inb p → Ka (U1 p) K
  | .base i, _, h => trivial
  | .unit, _, _ => trivial
  | .both a b, hd, h => by
    simp only [Kd.dep] at hd
    exact ⟨ka_2 (by omega) h.1, ka_2 (by omega) h.2⟩
  | .frm a b, hd, h => by
    simp only [Kd.dep] at hd
    exact ⟨mem_U1 (by omega) h.1, ka_2 (by omega) h.1, ka_2 (by omega) h.2⟩
theorem ka_clo {p : List (_root_.Fin 8)} {K : Kd} (h : Ka (U1 p) K) : ∀ Γ : List Kd, (∀ A ∈ Γ, A.dep ≤ 1 ∧ A.inb p) → Ka (U1 p) (cloK Γ K)
  | [], _ => h
  | A :: Γ, hΓ => by
    have hA := hΓ A List.mem_cons_self
    exact ⟨mem_U1 hA.1 hA.2, ka_2 (by omega) hA.2, ka_clo h Γ fun B hB => hΓ B (List.mem_cons_of_mem _ hB)⟩
theorem tk_ka {z : Nat → Nat} {U : List Kd} (g : GoodU z U) : ∀ {K : Kd}, Ka U K → tk z K ≤ 5000
  | .base i, _ => by simp [tk]
  | .unit, _ => by simp [tk]
  | .both a b, h => by have := tk_ka g h.1; have := tk_ka g h.2; simp only [tk]; omega
  | .frm a b, h => by have := g.ok a h.1; have := tk_ka g h.2.2; simp only [tk]; omega
theorem re_inb {p : List (_root_.Fin 8)} : ∀ {K : Kd}, K.bel p.length → (K.re (pkF p)).inb p
  | .base i, h => by
    show pkF p i ∈ p
    unfold pkF
    have h' : i.val < p.length := h
    simp [List.getD, h']
  | .unit, _ => trivial
  | .both a b, h => ⟨re_inb h.1, re_inb h.2⟩
  | .frm a b, h => ⟨re_inb h.1, re_inb h.2⟩
section
variable {z : Nat → Nat} {U : List Kd} {x : D} {S : Store}
theorem wlk_of {K : Kd} {w : NestedKey} (h : w ∈ wlk z K) : kD w ∈ wl z K := by
  rw [← wlk_map]; exact List.mem_map_of_mem h
/-- what the program tells of a closed function -/
theorem done_clo {q h n : Nat} {s : Tm} {A B : Kd} {d : List NestedKey → NestedKey} {l : List NestedKey} (g : GoodU z U) (hx : SzR z x S) (hv : EVr z U [] s (QNr z U (.frm A B) d h)) (hl : d [] = .tup l) (ht : tkd [] s = some (.frm A B)) (hk : kdsT q s) (hq : q + s.ht < 200) (ka : Ka U (.frm A B)) (hA : A.dep ≤ 20) (hB : B.dep ≤ 40) (hh : h ≤ s.ht) (hn : 2 * s.ht + 70 ≤ n) :
    ∀ {j : Nat} {w : NestedKey}, (wlk z A)[j]? = some w → ∃ r, l[j]? = some r ∧ ev n .f_done [s.d, x, kD w] S = .ok (kD r) S := by
  intro j w hw
  obtain ⟨u, a1, a2, a3⟩ := hv _ _ _ Ce.nil (by simp only [Rs.len]; omega)
  rw [rn_id] at a1
  have a3' := a3 (2 * s.ht + 2 + 1) (by omega)
  rw [hl] at a3'
  obtain ⟨_, tl⟩ := tlv_at a3'
  obtain ⟨y, v, r, h1, h2, h3, h4⟩ := tl hw
  refine ⟨r, h4, ?_⟩
  have hm := wlk_of (List.mem_of_getElem? hw)
  have gA := g.ok A ka.1
  exact done_told g (fun m hm => by
    have := sure_in_ok (t := s) (Γ := []) (q := q) (n := m) (S := S) (fun A hA => nomatch hA) hk hq (by omega) (by simp; omega) ht
    simpa using this) hx hA hB gA.2.2.2 gA.1 (tk_ka g ka.2.2) (wl_ty hm) (wl_sml hx.szs.ok hm) (wl_isW hm) h1 (a1 _ (by omega)) h2 h3 (by omega)
/-- what is due by the law -/
theorem due_clo {h n : Nat} {s : Tm} {A B : Kd} {d : List NestedKey → NestedKey} {l : List NestedKey} (g : GoodU z U) (hx : Szs z x S) (hv : EVr z U [] s (QNr z U (.frm A B) d h)) (hl : d [] = .tup l) (hs : s.ht < 900) (hh : h ≤ s.ht) (hA : A.dep ≤ 20) (hn : 2 * s.ht + 40 ≤ n) :
    l.length = (wlk z A).length ∧ ∃ u : Rv, ev n .f__law_work [s.d, .lst [], x] S = .ok u.l S ∧ ∀ {j : Nat} {w : NestedKey}, (wlk z A)[j]? = some w → ∃ (y v : Rv) (r : NestedKey), l[j]? = some r ∧ (∀ m, 2 * s.ht + 40 ≤ m → ev m .f__law_in [A.d, kD w, x] S = .ok y.l S ∧ ev m .f__law_handed [u.l, y.l, x] S = .ok v.l S ∧ ev m .f__law_out [B.d, v.l, x] S = .ok (kD r) S) := by
  obtain ⟨u, a1, a2, a3⟩ := hv _ _ _ Ce.nil (by simp only [Rs.len]; omega)
  rw [rn_id] at a1
  have a3' := a3 (2 * s.ht + 2 + 1) (by omega)
  rw [hl] at a3'
  obtain ⟨ll, tl⟩ := tlv_at a3'
  refine ⟨ll, u, lwork_ok g hx (2 * s.ht + 2) s .nil u (a1 _ (by omega)) (by omega), fun {j w} hw => ?_⟩
  obtain ⟨y, v, r, h1, h2, h3, h4⟩ := tl hw
  exact ⟨y, v, r, h4, fun m hm => ⟨lin_ok A h1 (by omega), lhand_ok g hx _ u y v h2 (by omega), lout_ok g hx _ B v r h3 (by omega)⟩⟩
end
end Kz
namespace Kz
open PySem PySem.Spec PyProof.Rows L2 Kw
theorem if_no {t : FT} {a : FS} {ρ : FEnv} {S S' : Store} (h : t ρ S = .ok false S') : sIf t a sNil ρ S = .nx ρ S' := by rw [sIf_ap, h]; rfl
theorem if_yes {t : FT} {a : FS} {ρ : FEnv} {S S' : Store} (h : t ρ S = .ok true S') : sIf t a sNil ρ S = a ρ S' := by rw [sIf_ap, h]; rfl
theorem seq_go {a b : FS} {ρ ρ' : FEnv} {S S' : Store} (h : a ρ S = .nx ρ' S') : sSeq a b ρ S = b ρ' S' := by rw [sSeq_ap, h]; rfl
theorem seq_rt {a b : FS} {ρ : FEnv} {S S' : Store} {d : D} (h : a ρ S = .rt d S') : sSeq a b ρ S = .rt d S' := by rw [sSeq_ap, h]; rfl
theorem well_lt {S : Store} {w : Nat} (h : Well S w) : w < S.length := lt_of_at (show S[w]? = some _ from h.choose_spec.choose_spec.choose_spec.2.2)
noncomputable def O0 (cl : Fn → FF) : FS := (sPar 2 3 (fCons (fArg mkTup (fCons (fC (.str "base")) (fCons (f2 gIx (fVar 1) (fArg (cl .f__law_draw) (fCons (fVar 0) (fCons (fC (.int 3)) fNil)))) fNil))) (fCons (fArg mkTup (fCons (fC (.str "base")) (fCons (f2 gIx (fVar 1) (fArg (cl .f__law_draw) (fCons (fVar 0) (fCons (fC (.int 3)) fNil)))) fNil))) fNil)))
noncomputable def O1 (cl : Fn → FF) : FS := (sSet 4 (fArg mkTup (fCons (fC (.str "make")) (fCons (fVar 2) (fCons (fArg mkTup (fCons (fC (.str "given")) (fCons (fC (.int 0)) fNil))) fNil)))))
noncomputable def O2 (cl : Fn → FF) : FS := (sSet 5 (fArg mkTup (fCons (fC (.str "make")) (fCons (fVar 2) (fCons (fArg mkTup (fCons (fC (.str "make")) (fCons (fVar 3) (fCons (fArg mkTup (fCons (fC (.str "given")) (fCons (fC (.int 0)) fNil))) fNil)))) fNil)))))
noncomputable def O3 (cl : Fn → FF) : FS := (sSet 6 (fArg mkCel (fCons (fArg mkTup (fCons (fC (.str "unit")) fNil)) (fCons (fArg mkTup (fCons (fC (.str "from")) (fCons (fVar 2) (fCons (fVar 2) fNil)))) (fCons (fArg mkTup (fCons (fC (.str "from")) (fCons (fVar 2) (fCons (fArg mkTup (fCons (fC (.str "from")) (fCons (fVar 3) (fCons (fVar 2) fNil)))) fNil)))) fNil)))))
noncomputable def O4 (cl : Fn → FF) : FS := (sExp (fMth gAppend (fVar 6) (fCons (fArg mkTup (fCons (fC (.str "both")) (fCons (fArg mkTup (fCons (fC (.str "from")) (fCons (fVar 2) (fCons (fVar 2) fNil)))) (fCons (fArg mkTup (fCons (fC (.str "unit")) fNil)) fNil)))) fNil)))
noncomputable def O5 (cl : Fn → FF) : FS := (sSet 7 (fArg mkLst (fCons (fArg mkTup (fCons (fC (.str "unit")) fNil)) (fCons (fVar 4) (fCons (fVar 5) (fCons (fArg mkTup (fCons (fC (.str "both")) (fCons (fVar 4) (fCons (fArg mkTup (fCons (fC (.str "unit")) fNil)) fNil)))) fNil))))))
noncomputable def O6 (cl : Fn → FF) : FS := (sSet 8 (fArg (cl .f__law_draw) (fCons (fVar 0) (fCons (fC (.int 4)) fNil))))
noncomputable def O7 (cl : Fn → FF) : FS := (sRet (fArg mkTup (fCons (f2 gIx (fVar 7) (fVar 8)) (fCons (f2 gIx (fVar 6) (fVar 8)) fNil))))
theorem Oeq (cl : Fn → FF) : b__law_other cl = sSeq (O0 cl) (sSeq (O1 cl) (sSeq (O2 cl) (sSeq (O3 cl) (sSeq (O4 cl) (sSeq (O5 cl) (sSeq (O6 cl) (O7 cl))))))) := rfl
noncomputable def T0 (cl : Fn → FF) : FS := (sAsg (fArg (cl .f__law_other) (fCons (fVar 0) (fCons (fVar 3) fNil))) (gTu 2 (gsCons (gN 5) (gsCons (gN 6) gsNil))))
noncomputable def T1 (cl : Fn → FF) : FS := (sSet 7 (fArg (cl .f__law_draw) (fCons (fVar 0) (fCons (fC (.int 4)) fNil))))
noncomputable def T2 (cl : Fn → FF) : FS := (sIf (fB (f2 gEq (fVar 7) (fC (.int 0)))) (sRet (fArg mkTup (fCons (fC (.str "first")) (fCons (fArg mkTup (fCons (fC (.str "both")) (fCons (fVar 1) (fCons (fVar 5) fNil)))) fNil)))) sNil)
noncomputable def T3 (cl : Fn → FF) : FS := (sIf (fB (f2 gEq (fVar 7) (fC (.int 1)))) (sRet (fArg mkTup (fCons (fC (.str "second")) (fCons (fArg mkTup (fCons (fC (.str "both")) (fCons (fVar 5) (fCons (fVar 1) fNil)))) fNil)))) sNil)
noncomputable def T4 (cl : Fn → FF) : FS := (sIf (fAnd (fB (f2 gEq (fVar 7) (fC (.int 2)))) (fB (f2 (gCmp fun i j => decide (i < j)) (fArg (cl .f__law_count) (fCons (fVar 2) (fCons (fVar 4) fNil))) (fC (.int 100))))) (sRet (fArg mkTup (fCons (fC (.str "do")) (fCons (fArg mkTup (fCons (fC (.str "make")) (fCons (fVar 2) (fCons (fArg mkTup (fCons (fC (.str "given")) (fCons (fC (.int 0)) fNil))) fNil)))) (fCons (fVar 1) fNil))))) sNil)
noncomputable def T5 (cl : Fn → FF) : FS := (sIf (fB (f2 (gCmp fun i j => decide (j < i)) (fArg (cl .f__law_count) (fCons (fVar 6) (fCons (fVar 4) fNil))) (fC (.int 30)))) (sAsg (fArg mkTup (fCons (fArg mkTup (fCons (fC (.str "unit")) fNil)) (fCons (fArg mkTup (fCons (fC (.str "unit")) fNil)) fNil))) (gTu 2 (gsCons (gN 5) (gsCons (gN 6) gsNil)))) sNil)
noncomputable def T6 (cl : Fn → FF) : FS := (sRet (fArg mkTup (fCons (fC (.str "do")) (fCons (fArg mkTup (fCons (fC (.str "make")) (fCons (fVar 6) (fCons (fArg (cl .f__law_put) (fCons (fVar 1) (fCons (fC (.int 1)) fNil))) fNil)))) (fCons (fVar 5) fNil)))))
theorem Teq (cl : Fn → FF) : b__law_topped cl = sSeq (T0 cl) (sSeq (T1 cl) (sSeq (T2 cl) (sSeq (T3 cl) (sSeq (T4 cl) (sSeq (T5 cl) (T6 cl)))))) := rfl
structure Oth (p : List (_root_.Fin 8)) (o : Tm) (Ko : Kd) : Prop where
  nf : Nf [] Ko o
  inb : Ko.inb p
  dep : Ko.dep ≤ 2
  ht : o.ht ≤ 2
  kds : kdsT 2 o
theorem pk_draw {n w : Nat} {S : Store} {p : List (_root_.Fin 8)} (hn : 1 ≤ n) (hp : p.length = 3) (hw : Well S w) : ∃ (r : Int) (j : _root_.Fin 8) (S' : Store), ev n .f__law_draw [.loc w, .int 3] S = .ok (.int r) S' ∧ (∀ T, gIx (pkD p) (.int r) T = .ok (.int (j.val : Int)) T) ∧ j ∈ p ∧ WS S w S' := by
  obtain ⟨r, S', e, r0, r1, w1⟩ := draw_sp (n := n) (S := S) (w := w) (m := 3) hn hw (by omega) (by omega)
  obtain ⟨k, rfl⟩ : ∃ k : Nat, r = (k : Int) := ⟨r.toNat, by omega⟩
  have hk : k < p.length := by omega
  refine ⟨k, p[k], S', e, fun T => ?_, List.getElem_mem hk, w1⟩
  unfold pkD
  rw [gIx_lst, ixR_nat, List.getElem?_map, List.getElem?_eq_getElem hk]
  simp
theorem lother_sp {n w : Nat} {S : Store} {p : List (_root_.Fin 8)} (h : 2 ≤ n) (hp : p.length = 3) (hw : Well S w) : ∃ (o : Tm) (Ko : Kd) (S' : Store), ev n .f__law_other [.loc w, pkD p] S = .ok (.tup [o.d, Ko.d]) S' ∧ Oth p o Ko ∧ WS S w S' := by
  have h8 : sizeLine = 16777216 := rfl
  obtain ⟨m, rfl, h'⟩ := up (n := n) (d := 1) (by omega)
  have lw := well_lt hw
  obtain ⟨r1, j1, S1, e1, i1, m1, w1⟩ := pk_draw (n := m) (by omega) hp hw
  obtain ⟨r2, j2, S2, e2, i2, m2, w2⟩ := pk_draw (n := m) (by omega) hp w1.well
  have w12 := w1.trans w2
  obtain ⟨k, S4, e4, k0, k1, w4⟩ := draw_sp (n := m) (S := S2 ++ [.lst ([Kd.unit, .frm (.base j1) (.base j1), .frm (.base j1) (.frm (.base j2) (.base j1)), .both (.frm (.base j1) (.base j1)) .unit].map Kd.d)]) (w := w) (m := 4) (by omega) (well_app w2.well) (by omega) (by omega)
  have wx4 : WX S w S4 := (w12.wx.app).trans w4.wx
  have a4 : S4[S2.length]? = some (.lst ([Kd.unit, .frm (.base j1) (.base j1), .frm (.base j1) (.frm (.base j2) (.base j1)), .both (.frm (.base j1) (.base j1)) .unit].map Kd.d)) := by
    have := well_lt w2.well
    rw [w4.same _ (by omega)]; simp
  have key : ∀ (o : Tm) (Ko : Kd), ixR ([Tm.unit, .mk (.base j1) (.giv 0), .mk (.base j1) (.mk (.base j2) (.giv 0)), .both (.mk (.base j1) (.giv 0)) .unit].map Tm.d) k S4 = .ok o.d S4 → ixR ([Kd.unit, .frm (.base j1) (.base j1), .frm (.base j1) (.frm (.base j2) (.base j1)), .both (.frm (.base j1) (.base j1)) .unit].map Kd.d) k S4 = .ok Ko.d S4 → Oth p o Ko → ∃ (o : Tm) (Ko : Kd) (S' : Store), ev (m + 1) .f__law_other [.loc w, pkD p] S = .ok (.tup [o.d, Ko.d]) S' ∧ Oth p o Ko ∧ WS S w S' := by
    intro o Ko ho hk hO
    have uo : ∀ n, (Tm.d o).under n = true := fun n => by
      have : ∀ t : Tm, t.d.under n = true := by
        intro t
        induction t with
        | giv k => simp [Tm.d, D.under, underL]
        | unit => simp [Tm.d, D.under, underL]
        | mk A b ih => simp [Tm.d, D.under, underL, ih, keyOf_under _ (keyOf_kd A)]
        | app a b ia ib => simp [Tm.d, D.under, underL, ia, ib]
        | both a b ia ib => simp [Tm.d, D.under, underL, ia, ib]
        | fst a ia => simp [Tm.d, D.under, underL, ia]
        | snd a ia => simp [Tm.d, D.under, underL, ia]
      exact this o
    obtain ⟨S', ec, ws⟩ := wx4.cut lw (d := .tup [o.d, Ko.d]) (by simp [D.under, underL, uo, keyOf_under _ (keyOf_kd Ko)])
    refine ⟨o, Ko, S', ?_, hO, ws⟩
    rw [ev, Oeq]
    show cutR S (RS.fin _) = _
    have rr : ∀ (X Y : RE D), X = Y → cutR S X = cutR S Y := fun X Y h => by rw [h]
    refine (rr _ (.ok (.tup [o.d, Ko.d]) S4) ?_).trans ec
    have b1 : (Kd.base j1).d = .tup [.str "base", .int (j1.val : Int)] := rfl
    have b2 : (Kd.base j2).d = .tup [.str "base", .int (j2.val : Int)] := rfl
    show RS.fin (sSeq _ _ [some (.loc w), some (pkD p), none, none, none, none, none, none, none] S) = _
    have q0 : O0 (ev m) [some (.loc w), some (pkD p), none, none, none, none, none, none, none] S = .nx [some (.loc w), some (pkD p), some (Kd.base j1).d, some (Kd.base j2).d, none, none, none, none, none] S2 := by
      rw [b1, b2]
      clear ho hk a4
      generalize pkD p = P at *
      generalize (j1.val : Int) = J1 at *
      generalize (j2.val : Int) = J2 at *
      simp [O0, e1, i1, e2, i2, h8, par2]
    simp only [List.map_cons, List.map_nil, Kd.d, Tm.d] at ho hk a4 e4 q0 ⊢
    generalize hX1 : D.tup [.str "base", .int (j1.val : Int)] = X1 at *
    generalize hX2 : D.tup [.str "base", .int (j2.val : Int)] = X2 at *
    generalize pkD p = P at *
    generalize hc : S2.length = c at *
    have ll : c < (S2 ++ [Cell.lst [D.tup [D.str "unit"], .tup [.str "from", X1, X1], .tup [.str "from", X1, .tup [.str "from", X2, X1]]]]).length := by simp [hc]
    have q1 : O1 (ev m) [some (.loc w), some P, some X1, some X2, none, none, none, none, none] S2 = .nx [some (.loc w), some P, some X1, some X2, some (.tup [.str "make", X1, .tup [.str "given", .int 0]]), none, none, none, none] S2 := by simp [O1, h8]
    have q2 : O2 (ev m) [some (.loc w), some P, some X1, some X2, some (.tup [.str "make", X1, .tup [.str "given", .int 0]]), none, none, none, none] S2 = .nx [some (.loc w), some P, some X1, some X2, some (.tup [.str "make", X1, .tup [.str "given", .int 0]]), some (.tup [.str "make", X1, .tup [.str "make", X2, .tup [.str "given", .int 0]]]), none, none, none] S2 := by simp [O2, h8]
    have q3 : O3 (ev m) [some (.loc w), some P, some X1, some X2, some (.tup [.str "make", X1, .tup [.str "given", .int 0]]), some (.tup [.str "make", X1, .tup [.str "make", X2, .tup [.str "given", .int 0]]]), none, none, none] S2 = .nx [some (.loc w), some P, some X1, some X2, some (.tup [.str "make", X1, .tup [.str "given", .int 0]]), some (.tup [.str "make", X1, .tup [.str "make", X2, .tup [.str "given", .int 0]]]), some (.loc c), none, none] (S2 ++ [Cell.lst [D.tup [D.str "unit"], .tup [.str "from", X1, X1], .tup [.str "from", X1, .tup [.str "from", X2, X1]]]]) := by simp [O3, h8, hc]
    have ca : (S2 ++ [Cell.lst [D.tup [D.str "unit"], .tup [.str "from", X1, X1], .tup [.str "from", X1, .tup [.str "from", X2, X1]]]])[c]? = some (.lst [D.tup [D.str "unit"], .tup [.str "from", X1, X1], .tup [.str "from", X1, .tup [.str "from", X2, X1]]]) := by rw [← hc]; simp
    have ap := gAppend_loc (d := .tup [.str "both", .tup [.str "from", X1, X1], .tup [.str "unit"]]) (cellM_of ca) (by simp [h8])
    have se : (S2 ++ [Cell.lst [D.tup [D.str "unit"], .tup [.str "from", X1, X1], .tup [.str "from", X1, .tup [.str "from", X2, X1]]]]).set c (.lst ([D.tup [D.str "unit"], .tup [.str "from", X1, X1], .tup [.str "from", X1, .tup [.str "from", X2, X1]]] ++ [.tup [.str "both", .tup [.str "from", X1, X1], .tup [.str "unit"]]])) = S2 ++ [Cell.lst [D.tup [D.str "unit"], .tup [.str "from", X1, X1], .tup [.str "from", X1, .tup [.str "from", X2, X1]], .tup [.str "both", .tup [.str "from", X1, X1], .tup [.str "unit"]]]] := by
      rw [← hc, List.set_append_right _ _ (Nat.le_refl _), Nat.sub_self]; rfl
    rw [se] at ap
    have q4 : O4 (ev m) [some (.loc w), some P, some X1, some X2, some (.tup [.str "make", X1, .tup [.str "given", .int 0]]), some (.tup [.str "make", X1, .tup [.str "make", X2, .tup [.str "given", .int 0]]]), some (.loc c), none, none] (S2 ++ [Cell.lst [D.tup [D.str "unit"], .tup [.str "from", X1, X1], .tup [.str "from", X1, .tup [.str "from", X2, X1]]]]) = .nx [some (.loc w), some P, some X1, some X2, some (.tup [.str "make", X1, .tup [.str "given", .int 0]]), some (.tup [.str "make", X1, .tup [.str "make", X2, .tup [.str "given", .int 0]]]), some (.loc c), none, none] (S2 ++ [Cell.lst [D.tup [D.str "unit"], .tup [.str "from", X1, X1], .tup [.str "from", X1, .tup [.str "from", X2, X1]], .tup [.str "both", .tup [.str "from", X1, X1], .tup [.str "unit"]]]]) := by
      generalize S2 ++ [Cell.lst [D.tup [D.str "unit"], .tup [.str "from", X1, X1], .tup [.str "from", X1, .tup [.str "from", X2, X1]], .tup [.str "both", .tup [.str "from", X1, X1], .tup [.str "unit"]]]] = T5 at *
      generalize S2 ++ [Cell.lst [D.tup [D.str "unit"], .tup [.str "from", X1, X1], .tup [.str "from", X1, .tup [.str "from", X2, X1]]]] = T4 at *
      simp [O4, h8, mthR_loc (cellOf_of ca), ap]
    generalize S2 ++ [Cell.lst [D.tup [D.str "unit"], .tup [.str "from", X1, X1], .tup [.str "from", X1, .tup [.str "from", X2, X1]], .tup [.str "both", .tup [.str "from", X1, X1], .tup [.str "unit"]]]] = T5 at *
    generalize S2 ++ [Cell.lst [D.tup [D.str "unit"], .tup [.str "from", X1, X1], .tup [.str "from", X1, .tup [.str "from", X2, X1]]]] = T4 at *
    have q5 : O5 (ev m) [some (.loc w), some P, some X1, some X2, some (.tup [.str "make", X1, .tup [.str "given", .int 0]]), some (.tup [.str "make", X1, .tup [.str "make", X2, .tup [.str "given", .int 0]]]), some (.loc c), none, none] T5 = .nx [some (.loc w), some P, some X1, some X2, some (.tup [.str "make", X1, .tup [.str "given", .int 0]]), some (.tup [.str "make", X1, .tup [.str "make", X2, .tup [.str "given", .int 0]]]), some (.loc c), some (.lst [.tup [.str "unit"], .tup [.str "make", X1, .tup [.str "given", .int 0]], .tup [.str "make", X1, .tup [.str "make", X2, .tup [.str "given", .int 0]]], .tup [.str "both", .tup [.str "make", X1, .tup [.str "given", .int 0]], .tup [.str "unit"]]]), none] T5 := by simp [O5, h8]
    rw [seq_go q0, seq_go q1, seq_go q2, seq_go q3, seq_go q4, seq_go q5]
    have co := cellOf_of a4
    generalize hL : ([.tup [.str "unit"], .tup [.str "from", X1, X1], .tup [.str "from", X1, .tup [.str "from", X2, X1]], .tup [.str "both", .tup [.str "from", X1, X1], .tup [.str "unit"]]] : List D) = L at *
    have ho' : ixR ([.tup [.str "unit"], .tup [.str "make", X1, .tup [.str "given", .int 0]], .tup [.str "make", X1, .tup [.str "make", X2, .tup [.str "given", .int 0]]], .tup [.str "both", .tup [.str "make", X1, .tup [.str "given", .int 0]], .tup [.str "unit"]]] : List D) k S4 = .ok o.d S4 := ho
    generalize hL2 : ([.tup [.str "unit"], .tup [.str "make", X1, .tup [.str "given", .int 0]], .tup [.str "make", X1, .tup [.str "make", X2, .tup [.str "given", .int 0]]], .tup [.str "both", .tup [.str "make", X1, .tup [.str "given", .int 0]], .tup [.str "unit"]]] : List D) = L2 at *
    simp [O6, O7, e4, co, hk, ho', h8]
  have : k = 0 ∨ k = 1 ∨ k = 2 ∨ k = 3 := by omega
  rcases this with rfl | rfl | rfl | rfl
  · exact key .unit .unit rfl rfl ⟨.unit, trivial, by simp [Kd.dep], by simp [Tm.ht], trivial⟩
  · exact key (.mk (.base j1) (.giv 0)) (.frm (.base j1) (.base j1)) rfl rfl ⟨.mk (.base (.giv rfl)), ⟨m1, m1⟩, by simp [Kd.dep], by simp [Tm.ht], ⟨by simp [Kd.dep], by simp [Kd.sz]⟩, trivial⟩
  · exact key (.mk (.base j1) (.mk (.base j2) (.giv 0))) (.frm (.base j1) (.frm (.base j2) (.base j1))) rfl rfl ⟨.mk (.mk (.base (.giv rfl))), ⟨m1, m2, m1⟩, by simp [Kd.dep], by simp [Tm.ht], ⟨by simp [Kd.dep], by simp [Kd.sz]⟩, ⟨by simp [Kd.dep], by simp [Kd.sz]⟩, trivial⟩
  · exact key (.both (.mk (.base j1) (.giv 0)) .unit) (.both (.frm (.base j1) (.base j1)) .unit) rfl rfl ⟨.both (.mk (.base (.giv rfl))) .unit, ⟨⟨m1, m1⟩, trivial⟩, by simp [Kd.dep], by simp [Tm.ht], ⟨⟨by simp [Kd.dep], by simp [Kd.sz]⟩, trivial⟩, trivial⟩
end Kz
namespace Kz
open PySem PySem.Spec PyProof.Rows L2 Kw
section
variable {z : Nat → Nat} {U : List Kd}
theorem evr_first {Γ : List Kd} {s o : Tm} {Q Q' : List NestedKey → Rv → Prop} (h1 : EVr z U Γ s Q) (h2 : EVr z U Γ o Q') : EVr z U Γ (.fst (.both s o)) Q := fun σ e ws c hl => by
  simp only [Tm.ht] at hl ⊢
  obtain ⟨v, a1, a2⟩ := h1 σ e ws c (by omega)
  obtain ⟨u, b1, b2⟩ := h2 σ e ws c (by omega)
  refine ⟨v, fun f hf => ?_, a2⟩
  obtain ⟨g, rfl⟩ : ∃ g, f = g + 1 + 1 := ⟨f - 2, by omega⟩
  simp only [Tm.rn]
  rw [wrk_fst, wrk_both, a1 g (by omega), Option.bind_some, b1 g (by omega), Option.bind_some, Option.bind_some]
theorem evr_second {Γ : List Kd} {s o : Tm} {Q Q' : List NestedKey → Rv → Prop} (h1 : EVr z U Γ s Q) (h2 : EVr z U Γ o Q') : EVr z U Γ (.snd (.both o s)) Q := fun σ e ws c hl => by
  simp only [Tm.ht] at hl ⊢
  obtain ⟨v, a1, a2⟩ := h1 σ e ws c (by omega)
  obtain ⟨u, b1, b2⟩ := h2 σ e ws c (by omega)
  refine ⟨v, fun f hf => ?_, a2⟩
  obtain ⟨g, rfl⟩ : ∃ g, f = g + 1 + 1 := ⟨f - 2, by omega⟩
  simp only [Tm.rn]
  rw [wrk_snd, wrk_both, b1 g (by omega), Option.bind_some, a1 g (by omega), Option.bind_some, Option.bind_some]
theorem evr_leave {Γ : List Kd} {s : Tm} {K : Kd} {Q : List NestedKey → Rv → Prop} (h : EVr z U Γ s Q) : EVr z U Γ (.app (.mk K (.giv Γ.length)) s) Q := fun σ e ws c hl => by
  simp only [Tm.ht] at hl ⊢
  obtain ⟨v, a1, a2⟩ := h σ e ws c (by omega)
  have u0 := c.up 0
  rw [Nat.add_zero, Nat.add_zero] at u0
  refine ⟨v, fun f hf => ?_, a2⟩
  obtain ⟨g, rfl⟩ : ∃ g, f = g + 1 + 1 + 1 := ⟨f - 3, by omega⟩
  simp only [Tm.rn]
  rw [wrk_app, wrk_mk, Option.bind_some, a1 (g + 1 + 1) (by omega), Option.bind_some, hwn_made, if_pos (by omega), wrk_giv, u0]
  simp [Rs.at_]
theorem evr_wrap {s o : Tm} {K : Kd} {Q Q' : List NestedKey → Rv → Prop} (h : EVr z U [] s Q) (h2 : EVr z U [] o Q') : EVr z U [] (.app (.mk K (s.rn fun k => k + 1)) o) Q := fun σ e ws c hl => by
  have cws : ws = [] := List.eq_nil_of_length_eq_zero c.len
  subst cws
  simp only [Tm.ht, ht_rn] at hl ⊢
  obtain ⟨u, b1, b2⟩ := h2 σ e [] c (by omega)
  obtain ⟨v, a1, a2⟩ := h _ _ [] (c.put u) (by simp only [Rs.len]; omega)
  refine ⟨v, fun f hf => ?_, a2⟩
  obtain ⟨g, rfl⟩ : ∃ g, f = g + 1 + 1 := ⟨f - 2, by omega⟩
  simp only [Tm.rn]
  rw [wrk_app, wrk_mk, Option.bind_some, b1 (g + 1) (by omega), Option.bind_some, hwn_made, if_pos (by omega), rn_rn]
  exact a1 g (by omega)
/-- a closed term that is M, but for some steps at the top -/
structure Top (z : Nat → Nat) (U : List Kd) (K : Kd) (d : List NestedKey → NestedKey) (h j : Nat) (T : Tm) : Prop where
  ev : EVr z U [] T (QNr z U K d h)
  kd : tkd [] T = some K
  kds : kdsT 5 T
  le : h ≤ T.ht
  ht : T.ht ≤ 13 + 2 * j
variable {K Ko : Kd} {d : List NestedKey → NestedKey} {h j : Nat} {T o : Tm} {Q' : List NestedKey → Rv → Prop}
theorem kds_up {q r : Nat} (hq : q ≤ r) : ∀ {t : Tm}, kdsT q t → kdsT r t
  | .giv _, _ => trivial
  | .unit, _ => trivial
  | .mk A b, h => ⟨⟨by have := h.1.1; omega, h.1.2⟩, kds_up hq (t := b) h.2⟩
  | .app a b, h => ⟨kds_up hq (t := a) h.1, kds_up hq (t := b) h.2⟩
  | .both a b, h => ⟨kds_up hq (t := a) h.1, kds_up hq (t := b) h.2⟩
  | .fst a, h => kds_up hq (t := a) h
  | .snd a, h => kds_up hq (t := a) h
theorem Top.first (t : Top z U K d h j T) (h2 : EVr z U [] o Q') (k2 : tkd [] o = some Ko) (q2 : kdsT 5 o) (o2 : o.ht ≤ 2) : Top z U K d h (j + 1) (.fst (.both T o)) :=
  ⟨evr_first t.ev h2, by simp [tkd, t.kd, k2], ⟨t.kds, q2⟩, by have := t.le; simp only [Tm.ht]; omega, by have := t.ht; simp only [Tm.ht]; omega⟩
theorem Top.second (t : Top z U K d h j T) (h2 : EVr z U [] o Q') (k2 : tkd [] o = some Ko) (q2 : kdsT 5 o) (o2 : o.ht ≤ 2) : Top z U K d h (j + 1) (.snd (.both o T)) :=
  ⟨evr_second t.ev h2, by simp [tkd, t.kd, k2], ⟨q2, t.kds⟩, by have := t.le; simp only [Tm.ht]; omega, by have := t.ht; simp only [Tm.ht]; omega⟩
theorem Top.leave (t : Top z U K d h j T) (hK : K.dep ≤ 5) : Top z U K d h (j + 1) (.app (.mk K (.giv 0)) T) :=
  ⟨evr_leave (Γ := []) t.ev, by simp [tkd, t.kd], ⟨⟨⟨hK, by have := sz_le8 (K := K) hK (by omega); omega⟩, trivial⟩, t.kds⟩, by have := t.le; simp only [Tm.ht]; omega, by have := t.ht; simp only [Tm.ht]; omega⟩
theorem Top.wrap (t : Top z U K d h j T) (h2 : EVr z U [] o Q') (k2 : tkd [] o = some Ko) (q2 : kdsT 5 o) (o2 : o.ht ≤ 2) (hK : Ko.dep ≤ 5) : Top z U K d h (j + 1) (.app (.mk Ko (T.rn fun k => k + 1)) o) := by
  have := tkd_put [Ko] T (Γ := [])
  simp only [List.length_singleton, List.append_nil, t.kd] at this
  exact ⟨evr_wrap t.ev h2, by simp [tkd, this, k2], ⟨⟨⟨hK, by have := sz_le8 (K := Ko) hK (by omega); omega⟩, kdsT_rn t.kds⟩, q2⟩, by have := t.le; simp only [Tm.ht, ht_rn]; omega, by have := t.ht; simp only [Tm.ht, ht_rn]; omega⟩
end
theorem lput_two {m : Nat} {S : Store} {P x y x' y' : D} {s : String} (hs : s ≠ "make" ∧ s ≠ "given") (ea : ev m .f__law_put [x, P] S = .ok x' S) (eb : ev m .f__law_put [y, P] S = .ok y' S) : ev (m + 1) .f__law_put [.tup [.str s, x, y], P] S = .ok (.tup [.str s, x', y']) S := by
  have h8 : sizeLine = 16777216 := rfl
  have c1 : cutL [D.str s, x, y] (some 1) none = [x, y] := rfl
  have gt : ∀ xs (T : Store), gTuple [.lst xs] T = .ok (.tup xs) T := fun _ _ => rfl
  have hc := compL_ls (tg := gN 2) (tt := fYes) (te := fArg (ev m .f__law_put) (fCons (fVar 2) (fCons (fVar 1) fNil))) (ρ := [some (.tup [.str s, x, y]), some P, none]) (S := S) (fun x : D × D => x.1) (fun x => x.2) [(x, x'), (y, y')] [] (fun z hz => by
      simp at hz
      rcases hz with rfl | rfl
      · exact ⟨[some (.tup [.str s, x, y]), some P, some x], by simp, rfl, by simp [ea]⟩
      · exact ⟨[some (.tup [.str s, x, y]), some P, some y], by simp, rfl, by simp [eb]⟩) (by simp [h8])
  simp at hc
  rw [ev, b__law_put]
  simp [h8, c1, gt, wipeR, hc, hs.1, hs.2]
theorem lput_one {m : Nat} {S : Store} {P x x' : D} {s : String} (hs : s ≠ "make" ∧ s ≠ "given") (ea : ev m .f__law_put [x, P] S = .ok x' S) : ev (m + 1) .f__law_put [.tup [.str s, x], P] S = .ok (.tup [.str s, x']) S := by
  have h8 : sizeLine = 16777216 := rfl
  have c1 : cutL [D.str s, x] (some 1) none = [x] := rfl
  have gt : ∀ xs (T : Store), gTuple [.lst xs] T = .ok (.tup xs) T := fun _ _ => rfl
  have hc := compL_ls (tg := gN 2) (tt := fYes) (te := fArg (ev m .f__law_put) (fCons (fVar 2) (fCons (fVar 1) fNil))) (ρ := [some (.tup [.str s, x]), some P, none]) (S := S) (fun x : D × D => x.1) (fun x => x.2) [(x, x')] [] (fun z hz => by
      simp at hz
      subst hz
      exact ⟨[some (.tup [.str s, x]), some P, some x], by simp, rfl, by simp [ea]⟩) (by simp [h8])
  simp at hc
  rw [ev, b__law_put]
  simp [h8, c1, gt, wipeR, hc, hs.1, hs.2]
theorem lput_none {m : Nat} {S : Store} {P : D} {s : String} (hs : s ≠ "make" ∧ s ≠ "given") : ev (m + 1) .f__law_put [.tup [.str s], P] S = .ok (.tup [.str s]) S := by
  have h8 : sizeLine = 16777216 := rfl
  have c1 : cutL [D.str s] (some 1) none = [] := rfl
  have gt : ∀ xs (T : Store), gTuple [.lst xs] T = .ok (.tup xs) T := fun _ _ => rfl
  have hc := compL_ls (tg := gN 2) (tt := fYes) (te := fArg (ev m .f__law_put) (fCons (fVar 2) (fCons (fVar 1) fNil))) (ρ := [some (.tup [.str s]), some P, none]) (S := S) (fun x : D × D => x.1) (fun x => x.2) [] [] (fun z hz => nomatch hz) (by simp)
  simp at hc
  rw [ev, b__law_put]
  simp [h8, c1, gt, wipeR, hc, hs.1, hs.2]
theorem lput_rn {p : Nat} : ∀ (t : Tm) {n : Nat} {S : Store}, t.ht + 1 ≤ n → ev n .f__law_put [t.d, .int (p : Int)] S = .ok (t.rn fun k => k + p).d S
  | .giv k, n, S, h => by
    have h8 : sizeLine = 16777216 := rfl
    obtain ⟨m, rfl, h'⟩ := up (d := 0) (by omega : 0 + 1 ≤ n)
    have e : ((k + p : Nat) : Int) = (k : Int) + (p : Int) := by omega
    rw [ev, b__law_put]
    simp only [Tm.d, Tm.rn, e]
    generalize (k : Int) = KI
    generalize (p : Int) = PI
    simp [h8]
  | .unit, n, S, h => by
    obtain ⟨m, rfl, h'⟩ := up (d := 0) (by omega : 0 + 1 ≤ n)
    exact lput_none (by decide)
  | .mk A b, n, S, h => by
    have h8 : sizeLine = 16777216 := rfl
    simp only [Tm.ht] at h
    obtain ⟨m, rfl, h'⟩ := up (n := n) (d := b.ht + 1) (by omega)
    have e := lput_rn (p := p) b (n := m) (S := S) (by omega)
    rw [ev, b__law_put]
    simp only [Tm.d, Tm.rn]
    generalize A.d = XA at *
    generalize b.d = XB at *
    generalize (p : Int) = PI at *
    simp [h8, e]
  | .app a b, n, S, h => by
    simp only [Tm.ht] at h
    obtain ⟨m, rfl, h'⟩ := up (n := n) (d := max a.ht b.ht + 1) (by omega)
    exact lput_two (by decide) (lput_rn a (by omega)) (lput_rn b (by omega))
  | .both a b, n, S, h => by
    simp only [Tm.ht] at h
    obtain ⟨m, rfl, h'⟩ := up (n := n) (d := max a.ht b.ht + 1) (by omega)
    exact lput_two (by decide) (lput_rn a (by omega)) (lput_rn b (by omega))
  | .fst a, n, S, h => by
    simp only [Tm.ht] at h
    obtain ⟨m, rfl, h'⟩ := up (n := n) (d := a.ht + 1) (by omega)
    exact lput_one (by decide) (lput_rn a (by omega))
  | .snd a, n, S, h => by
    simp only [Tm.ht] at h
    obtain ⟨m, rfl, h'⟩ := up (n := n) (d := a.ht + 1) (by omega)
    exact lput_one (by decide) (lput_rn a (by omega))
theorem sasg2 {a : FE} {i j : Nat} {x y : D} {ρ : FEnv} {S S' : Store} (h : a ρ S = .ok (.tup [x, y]) S') : sAsg a (gTu 2 (gsCons (gN i) (gsCons (gN j) gsNil))) ρ S = .nx ((ρ.set i (some x)).set j (some y)) S' := by
  rw [sAsg_ap, h]; rfl
theorem ltopped_sp {n w : Nat} {S : Store} {p : List (_root_.Fin 8)} {z : Nat → Nat} {K : Kd} {d : List NestedKey → NestedKey} {h j : Nat} {T : Tm} {xz : D} (hn : 40 ≤ n) (hp : p.length = 3) (hw : Well S w) (hz : ∀ i, 1 ≤ z i ∧ z i ≤ 999) (g : GoodU z (U1 p)) (hx : ∀ S, Szs z xz S) (ux : ∀ n, xz.under n = true) (hK : K.dep ≤ 5) (t : Top z (U1 p) K d h j T) (hj : j ≤ 3) :
    ∃ (T' : Tm) (S' : Store), ev n .f__law_topped [.loc w, T.d, K.d, pkD p, xz] S = .ok T'.d S' ∧ Top z (U1 p) K d h (j + 1) T' ∧ WS S w S' := by
  have h8 : sizeLine = 16777216 := rfl
  obtain ⟨m, rfl, h'⟩ := up (n := n) (d := 39) (by omega)
  obtain ⟨o, Ko, S1, e1, O, w1⟩ := lother_sp (n := m) (by omega) hp hw
  obtain ⟨r, S2, e2, r0, r1, w2⟩ := draw_sp (n := m) (S := S1) (w := w) (m := 4) (by omega) w1.well (by omega) (by omega)
  have w12 := w1.trans w2
  have eo := O.nf.evr g hz (fun A hA => nomatch hA) ⟨ka_2 (by have := O.dep; omega) O.inb, by have := O.dep; omega⟩
  have ko := O.nf.kd
  have qo := kds_up (r := 5) (by omega) O.kds
  obtain ⟨c1, c10, c11, ec1⟩ := lcount_ok (hx S2) K (n := m) (by omega)
  obtain ⟨c2, c20, c21, ec2⟩ := lcount_ok (hx S2) Ko (n := m) (by have := O.dep; omega)
  have q0 : T0 (ev m) [some (.loc w), some T.d, some K.d, some (pkD p), some xz, none, none, none] S = .nx [some (.loc w), some T.d, some K.d, some (pkD p), some xz, some o.d, some Ko.d, none] S1 := by
    unfold T0
    rw [sasg2 (x := o.d) (y := Ko.d) (S' := S1)]
    · rfl
    · generalize pkD p = P at *
      simp [e1]
  have q1 : T1 (ev m) [some (.loc w), some T.d, some K.d, some (pkD p), some xz, some o.d, some Ko.d, none] S1 = .nx [some (.loc w), some T.d, some K.d, some (pkD p), some xz, some o.d, some Ko.d, some (.int r)] S2 := by
    unfold T1
    generalize pkD p = P at *
    simp [e2]
  have fin : ∀ (T' : Tm), Top z (U1 p) K d h (j + 1) T' → (sSeq (T2 (ev m)) (sSeq (T3 (ev m)) (sSeq (T4 (ev m)) (sSeq (T5 (ev m)) (T6 (ev m)))))) [some (.loc w), some T.d, some K.d, some (pkD p), some xz, some o.d, some Ko.d, some (.int r)] S2 = .rt T'.d S2 → ∃ (T' : Tm) (S' : Store), ev (m + 1) .f__law_topped [.loc w, T.d, K.d, pkD p, xz] S = .ok T'.d S' ∧ Top z (U1 p) K d h (j + 1) T' ∧ WS S w S' := by
    intro T' hT e
    refine ⟨T', S2, ?_, hT, w12⟩
    rw [ev, Teq]
    show RS.fin (sSeq _ _ [some (.loc w), some T.d, some K.d, some (pkD p), some xz, none, none, none] S) = _
    rw [seq_go q0, seq_go q1, e]; rfl
  have eT4 : ∀ S', ev m .f__law_put [T.d, .int 1] S' = .ok (T.rn fun k => k + 1).d S' := fun S' => by
    have := lput_rn (p := 1) T (n := m) (S := S') (by have := t.ht; omega)
    simpa using this
  by_cases h0 : r = 0
  · subst h0
    refine fin _ (t.first eo ko qo O.ht) ?_
    generalize pkD p = P at *
    generalize K.d = KD at *
    refine seq_rt ?_
    unfold T2
    rw [if_yes (S' := S2) (by simp)]
    simp [Tm.d, h8]
  have n0 : T2 (ev m) [some (.loc w), some T.d, some K.d, some (pkD p), some xz, some o.d, some Ko.d, some (.int r)] S2 = .nx [some (.loc w), some T.d, some K.d, some (pkD p), some xz, some o.d, some Ko.d, some (.int r)] S2 := by
    unfold T2
    exact if_no (by simp [h0])
  by_cases h1 : r = 1
  · subst h1
    refine fin _ (t.second eo ko qo O.ht) ?_
    rw [seq_go n0]
    generalize pkD p = P at *
    generalize K.d = KD at *
    refine seq_rt ?_
    unfold T3
    rw [if_yes (S' := S2) (by simp)]
    simp [Tm.d, h8]
  have n1 : T3 (ev m) [some (.loc w), some T.d, some K.d, some (pkD p), some xz, some o.d, some Ko.d, some (.int r)] S2 = .nx [some (.loc w), some T.d, some K.d, some (pkD p), some xz, some o.d, some Ko.d, some (.int r)] S2 := by
    unfold T3
    exact if_no (by simp [h1])
  by_cases h2 : r = 2 ∧ c1 < 100
  · refine fin _ (t.leave hK) ?_
    rw [seq_go n0, seq_go n1]
    have hr := h2.1
    have hc := h2.2
    generalize pkD p = P at *
    refine seq_rt ?_
    unfold T4
    rw [if_yes (S' := S2) (by simp [hr, ec1, hc])]
    simp [Tm.d, h8]
  have n2 : T4 (ev m) [some (.loc w), some T.d, some K.d, some (pkD p), some xz, some o.d, some Ko.d, some (.int r)] S2 = .nx [some (.loc w), some T.d, some K.d, some (pkD p), some xz, some o.d, some Ko.d, some (.int r)] S2 := by
    unfold T4
    refine if_no ?_
    generalize pkD p = P at *
    by_cases hr : r = 2
    · have hc : ¬ c1 < 100 := fun z => h2 ⟨hr, z⟩
      simp [hr, ec1, hc]
    · simp [hr]
  by_cases h3 : 30 < c2
  · refine fin (.app (.mk .unit (T.rn fun k => k + 1)) .unit) (t.wrap (evr_unit (z := z) (U := U1 p) (Γ := [])) rfl trivial (by simp [Tm.ht]) (by simp [Kd.dep])) ?_
    rw [seq_go n0, seq_go n1, seq_go n2]
    have n3 : T5 (ev m) [some (.loc w), some T.d, some K.d, some (pkD p), some xz, some o.d, some Ko.d, some (.int r)] S2 = .nx [some (.loc w), some T.d, some K.d, some (pkD p), some xz, some Tm.unit.d, some Kd.unit.d, some (.int r)] S2 := by
      unfold T5
      generalize pkD p = P at *
      rw [if_yes (S' := S2) (by simp [ec2, h3])]
      rw [sasg2 (x := .tup [.str "unit"]) (y := .tup [.str "unit"]) (S' := S2) (by simp [h8])]
      rfl
    rw [seq_go n3]
    unfold T6
    generalize pkD p = P at *
    have e := eT4 S2
    generalize T.d = TD at *
    simp [Tm.d, Kd.d, h8, e]
  · refine fin _ (t.wrap (o := o) (Ko := Ko) eo ko qo O.ht (by have := O.dep; omega)) ?_
    rw [seq_go n0, seq_go n1, seq_go n2]
    have n3 : T5 (ev m) [some (.loc w), some T.d, some K.d, some (pkD p), some xz, some o.d, some Ko.d, some (.int r)] S2 = .nx [some (.loc w), some T.d, some K.d, some (pkD p), some xz, some o.d, some Ko.d, some (.int r)] S2 := by
      unfold T5
      generalize pkD p = P at *
      exact if_no (by simp [ec2, h3])
    rw [seq_go n3]
    unfold T6
    generalize pkD p = P at *
    have e := eT4 S2
    simp only [Tm.d]
    generalize T.d = TD at *
    generalize o.d = OD at *
    generalize Ko.d = KO at *
    simp [h8, e]
end Kz
namespace Kz
open PySem PySem.Spec PyProof.Rows L2 Kw
noncomputable def M0 (cl : Fn → FF) : FS := (sSet 1 (fArg (cl .f__law_pick) (fCons (fVar 0) fNil)))
noncomputable def M1 (cl : Fn → FF) : FS := (sSet 2 (fArg (cl .f__law_kind) (fCons (fVar 0) (fCons (fC (.int 2)) fNil))))
noncomputable def M2 (cl : Fn → FF) : FS := (sSet 3 (fArg mkLst (fCons (fArg mkTup (fCons (fC (.str "base")) (fCons (fC (.int 0)) fNil))) (fCons (fArg mkTup (fCons (fC (.str "base")) (fCons (fC (.int 1)) fNil))) (fCons (fArg mkTup (fCons (fC (.str "base")) (fCons (fC (.int 2)) fNil))) fNil)))))
noncomputable def M3 (cl : Fn → FF) : FS := (sIf (fB (f2 gEq (fArg (cl .f__law_draw) (fCons (fVar 0) (fCons (fC (.int 2)) fNil))) (fC (.int 0)))) (sSeq (sSet 3 (fSl (gSl false) (fVar 3) fNone (fSome (fC (.int 1)))))
  (sSet 2 (fArg (cl .f__law_renamed) (fCons (fVar 2) (fCons (fArg mkLst (fCons (fC (.int 0)) (fCons (fC (.int 0)) (fCons (fC (.int 0)) fNil)))) fNil))))) sNil)
noncomputable def M4 (cl : Fn → FF) : FS := (sSet 4 (fArg (cl .f__law_renamed) (fCons (fArg (cl .f__law_closed) (fCons (fArg (cl .f__law_flat) (fCons (fVar 0) (fCons (fVar 2) (fCons (fVar 3) (fCons (fC (.int 2)) fNil))))) (fCons (fVar 3) fNil))) (fCons (fVar 1) fNil))))
noncomputable def M5 (cl : Fn → FF) : FS := (sRet (fArg mkTup (fCons (fVar 1) (fCons (fVar 4) (fCons (fArg (cl .f__law_kind_of) (fCons (fVar 4) (fCons (fArg mkLst fNil) fNil))) fNil)))))
theorem Meq (cl : Fn → FF) : b__law_made cl = sSeq (M0 cl) (sSeq (M1 cl) (sSeq (M2 cl) (sSeq (M3 cl) (sSeq (M4 cl) (M5 cl))))) := rfl
structure Mad (p : List (_root_.Fin 8)) (M : Tm) (A B : Kd) : Prop where
  nf : Nf [] (.frm A B) M
  kds : kdsT 2 M
  ht : M.ht ≤ 13
  ka : Ka (U1 p) (.frm A B)
  dep : (Kd.frm A B).dep ≤ 5
  a0 : A.dep = 0
theorem bel_up {b c : Nat} (h : b ≤ c) : ∀ {K : Kd}, K.bel b → K.bel c
  | .base i, k => Nat.lt_of_lt_of_le k h
  | .unit, _ => trivial
  | .both _ _, k => ⟨bel_up h k.1, bel_up h k.2⟩
  | .frm _ _, k => ⟨bel_up h k.1, bel_up h k.2⟩
theorem inb_bel : ∀ {K : Kd}, K.inb [0, 0, 0] → K.bel 1
  | .base i, h => by
    have : i = 0 := by simpa [Kd.inb] using h
    subst this
    show (0 : Nat) < 1
    omega
  | .unit, _ => trivial
  | .both a b, h => ⟨inb_bel h.1, inb_bel h.2⟩
  | .frm a b, h => ⟨inb_bel h.1, inb_bel h.2⟩
theorem made_core {m w : Nat} {S : Store} {p : List (_root_.Fin 8)} {Γ : List Kd} {A0 K : Kd} {β : Nat} {x4 : Option D} (hm : 50 ≤ m) (hp : p.length = 3) (hw : Well S w) (hg : Gk 2 β (A0 :: Γ)) (hβ : β ≤ 3) (hd : K.dep ≤ 2) (hK : K.bel β) (h0 : ∀ A ∈ A0 :: Γ, A.dep = 0) (hl : Γ.length ≤ 2) :
    ∃ (M : Tm) (A B : Kd) (S' : Store), sSeq (M4 (ev m)) (M5 (ev m)) [some (.loc w), some (pkD p), some K.d, some (.lst ((A0 :: Γ).map Kd.d)), x4] S = .rt (.tup [pkD p, M.d, (Kd.frm A B).d]) S' ∧ Mad p M A B ∧ WS S w S' := by
  have h8 : sizeLine = 16777216 := rfl
  obtain ⟨t, S1, e1, nf, kd, ht, w1⟩ := flat_sp 2 K (n := m) (q := 2) (β := β) (Γ := A0 :: Γ) (S := S) (w := w) hg (by omega) hd hK (by simp; omega) (by omega) hw
  have e2 := lclosed_ok (n := m) (S := S1) (t := t) (Γ := A0 :: Γ) (by omega)
  have bt := nf.belT hg.bel hK
  have bc : belT p.length (clo (A0 :: Γ) t) := by
    have := clo_bel bt (A0 :: Γ) hg.bel
    have up : ∀ {t : Tm}, belT β t → belT p.length t := by
      intro t
      induction t with
      | giv k => exact fun _ => trivial
      | unit => exact fun _ => trivial
      | mk A b ih => exact fun h => ⟨bel_up (by omega) h.1, ih h.2⟩
      | app a b ia ib => exact fun h => ⟨ia h.1, ib h.2⟩
      | both a b ia ib => exact fun h => ⟨ia h.1, ib h.2⟩
      | fst a ia => exact fun h => ia h
      | snd a ia => exact fun h => ia h
    exact up this
  have s0 : ∀ A ∈ A0 :: Γ, A.dep ≤ 2 ∧ A.sz ≤ 2000000 := fun A hA => by
    have := h0 A hA
    have := sz_le8 (K := A) (q := 2) (by omega) (by omega)
    omega
  have kc := clo_kds kd (A0 :: Γ) s0
  have hc := clo_ht t (A0 :: Γ)
  simp only [List.length_cons] at hc
  have e3 := lren_tm (p := p) (q := 2) (clo (A0 :: Γ) t) (n := m) (S := S1) bc kc (by omega)
  have nc := clo_nf (A0 :: Γ) [] (K := K) (t := t) (by simpa using nf)
  have nr := nc.re (ρ := pkF p)
  rw [cloK_re] at nr
  have hM : (clo (A0 :: Γ) t).re (pkF p) = (clo (A0 :: Γ) t).re (pkF p) := rfl
  generalize hMM : (clo (A0 :: Γ) t).re (pkF p) = M at *
  have hMh : M.ht = (clo (A0 :: Γ) t).ht := by rw [← hMM, re_ht]
  have kM : kdsT 2 M := by rw [← hMM]; exact re_kds kc
  have eK : cloK ((A0 :: Γ).map (Kd.re (pkF p))) (K.re (pkF p)) = .frm (A0.re (pkF p)) (cloK (Γ.map (Kd.re (pkF p))) (K.re (pkF p))) := rfl
  have nr' : Nf [] (.frm (A0.re (pkF p)) (cloK (Γ.map (Kd.re (pkF p))) (K.re (pkF p)))) M := by rw [← eK]; exact nr
  have e4 := lkof_ok M (Γ := []) (n := m) (S := S1) nr'.kd (by omega) (by simp; omega)
  have ins : ∀ A ∈ (A0 :: Γ).map (Kd.re (pkF p)), A.dep ≤ 1 ∧ A.inb p := fun A hA => by
    obtain ⟨X, hX, rfl⟩ := List.mem_map.mp hA
    have := h0 X hX
    exact ⟨by rw [re_dep]; omega, re_inb (bel_up (by omega) (hg.bel X hX))⟩
  have ka := ka_clo (p := p) (K := K.re (pkF p)) (ka_2 (by rw [re_dep]; exact hd) (re_inb (bel_up (by omega) hK))) _ ins
  have dp := cloK_dep (q := 2) (K := K.re (pkF p)) ((A0 :: Γ).map (Kd.re (pkF p))) (fun A hA => by have := (ins A hA).1; omega) (by rw [re_dep]; exact hd)
  rw [eK] at ka dp
  simp only [List.length_map, List.length_cons] at dp
  refine ⟨M, _, _, S1, ?_, ⟨nr', kM, by omega, ka, by omega, by rw [re_dep]; exact h0 _ List.mem_cons_self⟩, w1⟩
  clear nr nc ka dp ins
  generalize (Kd.frm (A0.re (pkF p)) (cloK (Γ.map (Kd.re (pkF p))) (K.re (pkF p)))).d = KD at *
  generalize (A0 :: Γ).map Kd.d = G at *
  generalize pkD p = P at *
  have q4 : M4 (ev m) [some (.loc w), some P, some K.d, some (.lst G), x4] S = .nx [some (.loc w), some P, some K.d, some (.lst G), some M.d] S1 := by
    unfold M4
    have e1' : ev m .f__law_flat [.loc w, K.d, .lst G, .int 2] S = .ok t.d S1 := e1
    generalize K.d = X at *
    simp [e1', e2, e3]
  rw [seq_go q4]
  unfold M5
  simp only [List.map_nil] at e4
  generalize K.d = X at *
  generalize M.d = MD at *
  simp [e4, h8]
def B3 : List Kd := [.base 0, .base 1, .base 2]
theorem gk3 : Gk 2 3 B3 := by
  refine ⟨fun i hi => ?_, fun A hA => ?_, fun A hA => ?_⟩
  · have : i = 0 ∨ i = 1 ∨ i = 2 := by
      have : i.val = 0 ∨ i.val = 1 ∨ i.val = 2 := by omega
      rcases this with h | h | h
      · exact .inl (_root_.Fin.ext h)
      · exact .inr (.inl (_root_.Fin.ext h))
      · exact .inr (.inr (_root_.Fin.ext h))
    rcases this with rfl | rfl | rfl
    · exact ⟨0, rfl⟩
    · exact ⟨1, rfl⟩
    · exact ⟨2, rfl⟩
  · simp only [B3, List.mem_cons, List.not_mem_nil, or_false] at hA
    rcases hA with rfl | rfl | rfl <;> simp [Kd.dep]
  · simp only [B3, List.mem_cons, List.not_mem_nil, or_false] at hA
    rcases hA with rfl | rfl | rfl
    · show (0 : Nat) < 3; omega
    · show (1 : Nat) < 3; omega
    · show (2 : Nat) < 3; omega
theorem gk1 : Gk 2 1 [.base 0] := by
  refine ⟨fun i hi => ⟨0, ?_⟩, fun A hA => ?_, fun A hA => ?_⟩
  · have : i = 0 := _root_.Fin.ext (by show i.val = 0; omega)
    subst this; rfl
  · have : A = .base 0 := by simpa using hA
    subst this; simp [Kd.dep]
  · have : A = .base 0 := by simpa using hA
    subst this
    show (0 : Nat) < 1; omega
theorem lmade_sp {n w : Nat} {S : Store} (h : 60 ≤ n) (hw : Well S w) : ∃ (p : List (_root_.Fin 8)) (M : Tm) (A B : Kd) (S' : Store), ev n .f__law_made [.loc w] S = .ok (.tup [pkD p, M.d, (Kd.frm A B).d]) S' ∧ p.length = 3 ∧ Mad p M A B ∧ WS S w S' := by
  have h8 : sizeLine = 16777216 := rfl
  obtain ⟨m, rfl, h'⟩ := up (n := n) (d := 59) (by omega)
  obtain ⟨p, S1, e1, hp, w1⟩ := pick_sp (n := m) (by omega) hw
  obtain ⟨K, S2, e2, dK, bK, w2⟩ := lkind3 2 (n := m) (S := S1) (w := w) (by omega) w1.well
  obtain ⟨r, S3, e3, r0, r1, w3⟩ := draw_sp (n := m) (S := S2) (w := w) (m := 2) (by omega) w2.well (by omega) (by omega)
  have w123 := (w1.trans w2).trans w3
  have q0 : M0 (ev m) [some (.loc w), none, none, none, none] S = .nx [some (.loc w), some (pkD p), none, none, none] S1 := by
    unfold M0
    generalize pkD p = P at *
    simp [e1]
  have q1 : M1 (ev m) [some (.loc w), some (pkD p), none, none, none] S1 = .nx [some (.loc w), some (pkD p), some K.d, none, none] S2 := by
    unfold M1
    have e2' : ev m .f__law_kind [.loc w, .int 2] S1 = .ok K.d S2 := e2
    generalize pkD p = P at *
    simp [e2']
  have q2 : M2 (ev m) [some (.loc w), some (pkD p), some K.d, none, none] S2 = .nx [some (.loc w), some (pkD p), some K.d, some (.lst (B3.map Kd.d)), none] S2 := by
    have eb : B3.map Kd.d = [.tup [.str "base", .int 0], .tup [.str "base", .int 1], .tup [.str "base", .int 2]] := rfl
    rw [eb]
    unfold M2
    generalize pkD p = P at *
    simp [h8]
  have fin : ∀ {Γ : List Kd} {A0 K' : Kd} {β : Nat}, Gk 2 β (A0 :: Γ) → β ≤ 3 → K'.dep ≤ 2 → K'.bel β → (∀ A ∈ A0 :: Γ, A.dep = 0) → Γ.length ≤ 2 → M3 (ev m) [some (.loc w), some (pkD p), some K.d, some (.lst (B3.map Kd.d)), none] S2 = .nx [some (.loc w), some (pkD p), some K'.d, some (.lst ((A0 :: Γ).map Kd.d)), none] S3 → ∃ (p : List (_root_.Fin 8)) (M : Tm) (A B : Kd) (S' : Store), ev (m + 1) .f__law_made [.loc w] S = .ok (.tup [pkD p, M.d, (Kd.frm A B).d]) S' ∧ p.length = 3 ∧ Mad p M A B ∧ WS S w S' := by
    intro Γ A0 K' β hg hβ hd hK h0 hl e
    obtain ⟨M, A, B, S4, e4, mad, w4⟩ := made_core (m := m) (p := p) (x4 := none) (by omega) hp w3.well hg hβ hd hK h0 hl
    refine ⟨p, M, A, B, S4, ?_, hp, mad, w123.trans w4⟩
    rw [ev, Meq]
    show RS.fin (sSeq _ _ [some (.loc w), none, none, none, none] S) = _
    rw [seq_go q0, seq_go q1, seq_go q2, seq_go e, e4]; rfl
  by_cases hr : r = 0
  · subst hr
    have hp0 : pkD [0, 0, 0] = .lst [.int 0, .int 0, .int 0] := rfl
    have e4 := lren_kd (p := [0, 0, 0]) K (n := m) (S := S3) bK (by omega)
    rw [hp0] at e4
    have hb : (K.re (pkF [0, 0, 0])).bel 1 := inb_bel (re_inb (p := [0, 0, 0]) bK)
    refine fin (Γ := []) (A0 := .base 0) gk1 (by omega) (by rw [re_dep]; exact dK) hb (fun A hA => ?_) (by simp) ?_
    · have : A = .base 0 := by simpa using hA
      subst this; rfl
    · unfold M3
      have eb : B3.map Kd.d = [.tup [.str "base", .int 0], .tup [.str "base", .int 1], .tup [.str "base", .int 2]] := rfl
      have e1b : [Kd.base 0].map Kd.d = [.tup [.str "base", .int 0]] := rfl
      rw [eb, e1b]
      generalize hX1 : D.tup [.str "base", .int 0] = X1
      generalize hX2 : D.tup [.str "base", .int 1] = X2
      generalize hX3 : D.tup [.str "base", .int 2] = X3
      have c1 : cutL [X1, X2, X3] none (some 1) = [X1] := rfl
      rw [if_yes (S' := S3) (by simp [e3])]
      generalize pkD p = P at *
      generalize (K.re (pkF [0, 0, 0])).d = KR at *
      generalize K.d = KD at *
      simp [c1, e4, h8]
  · refine fin (Γ := [.base 1, .base 2]) (A0 := .base 0) gk3 (by omega) dK bK (fun A hA => ?_) (by simp) ?_
    · simp only [List.mem_cons, List.not_mem_nil, or_false] at hA
      rcases hA with rfl | rfl | rfl <;> rfl
    · unfold M3
      show sIf _ _ sNil [some (.loc w), some (pkD p), some K.d, some (.lst (B3.map Kd.d)), none] S2 = .nx [some (.loc w), some (pkD p), some K.d, some (.lst (B3.map Kd.d)), none] S3
      generalize B3.map Kd.d = G
      generalize pkD p = P at *
      generalize K.d = KD at *
      exact if_no (by simp [e3, hr])
end Kz
namespace Kz
open PySem PySem.Spec PyProof.Rows L2 Kw
noncomputable def R0 (cl : Fn → FF) : FS := (sSet 2 (fArg (cl .f__law_well) (fCons (fVar 1) fNil)))
noncomputable def R1 (cl : Fn → FF) : FS := (sAsg (fArg (cl .f__law_made) (fCons (fVar 2) fNil)) (gTu 3 (gsCons (gN 3) (gsCons (gN 4) (gsCons (gN 5) gsNil)))))
noncomputable def R2 (cl : Fn → FF) : FS := (sSet 6 (fArg (cl .f__law_sizes) (fCons (fVar 2) (fCons (fVar 5) (fCons (fVar 3) fNil)))))
noncomputable def R3 (cl : Fn → FF) : FS := (sSet 7 (fVar 4))
noncomputable def R4 (cl : Fn → FF) : FS := (sFor (fiR1 (fCons (fArg (cl .f__law_draw) (fCons (fVar 2) (fCons (fC (.int 4)) fNil))) fNil)) (gN 8) (l_law_0 cl))
noncomputable def R5 (cl : Fn → FF) : FS := (sSet 9 (fArg (cl .f__law_work) (fCons (fVar 4) (fCons (fArg mkLst fNil) (fCons (fVar 6) fNil)))))
noncomputable def R6 (cl : Fn → FF) : FS := (sFor (fiL (fArg (cl .f__law_all) (fCons (f2 gIx (fVar 5) (fC (.int 1))) (fCons (fVar 6) fNil)))) (gN 10) (l_law_1 cl))
theorem Req (cl : Fn → FF) : l_law_2 cl = sSeq (R0 cl) (sSeq (R1 cl) (sSeq (R2 cl) (sSeq (R3 cl) (sSeq (R4 cl) (sSeq (R5 cl) (R6 cl)))))) := rfl
theorem sasg3 {a : FE} {i j k : Nat} {x y u : D} {ρ : FEnv} {S S' : Store} (h : a ρ S = .ok (.tup [x, y, u]) S') : sAsg a (gTu 3 (gsCons (gN i) (gsCons (gN j) (gsCons (gN k) gsNil)))) ρ S = .nx (((ρ.set i (some x)).set j (some y)).set k (some u)) S' := by
  rw [sAsg_ap, h]; rfl
section
variable {m w : Nat} {p : List (_root_.Fin 8)} {z : Nat → Nat} {K : Kd} {d : List NestedKey → NestedKey} {h : Nat} {xz : D} {x0 x1 x9 x10 x11 : Option D} {M : D}
theorem top_loop (hn : 40 ≤ m) (hp : p.length = 3) (hz : ∀ i, 1 ≤ z i ∧ z i ≤ 999) (g : GoodU z (U1 p)) (hx : ∀ S, Szs z xz S) (ux : ∀ n, xz.under n = true) (hK : K.dep ≤ 5) : ∀ (ds : List D) (j : Nat) {T : Tm} {S : Store} {x8 : Option D}, Well S w → Top z (U1 p) K d h j T → j + ds.length ≤ 4 →
    ∃ (T' : Tm) (S' : Store) (y8 : Option D), forL (gN 8) (l_law_0 (ev m)) none ds [x0, x1, some (.loc w), some (pkD p), some M, some K.d, some xz, some T.d, x8, x9, x10, x11] S = .nx [x0, x1, some (.loc w), some (pkD p), some M, some K.d, some xz, some T'.d, y8, x9, x10, x11] S' ∧ Top z (U1 p) K d h (j + ds.length) T' ∧ WS S w S'
  | [], j, T, S, x8, hw, t, hj => ⟨T, S, x8, by simp, t, WS.refl hw⟩
  | i :: ds, j, T, S, x8, hw, t, hj => by
    simp only [List.length_cons] at hj
    obtain ⟨T1, S1, e1, t1, w1⟩ := ltopped_sp (n := m) hn hp hw hz g hx ux hK t (by omega)
    obtain ⟨T2, S2, y8, e2, t2, w2⟩ := top_loop hn hp hz g hx ux hK ds (j + 1) (x8 := some i) w1.well t1 (by omega)
    refine ⟨T2, S2, y8, ?_, by rw [List.length_cons, show j + (ds.length + 1) = j + 1 + ds.length by omega]; exact t2, w1.trans w2⟩
    rw [← e2, forL_cons, gN_ap, tgR_some]
    show loopR _ (l_law_0 (ev m) [x0, x1, some (.loc w), some (pkD p), some M, some K.d, some xz, some T.d, some i, x9, x10, x11] S) = _
    have : l_law_0 (ev m) [x0, x1, some (.loc w), some (pkD p), some M, some K.d, some xz, some T.d, some i, x9, x10, x11] S = .nx [x0, x1, some (.loc w), some (pkD p), some M, some K.d, some xz, some T1.d, some i, x9, x10, x11] S1 := by
      unfold l_law_0
      generalize pkD p = P at *
      generalize K.d = KD at *
      generalize T.d = TD at *
      generalize T1.d = TD1 at *
      simp [e1]
    rw [this, loopR_nx]
/-- what is right at a worth -/
def Rt (m : Nat) (A B : Kd) (xz T M u : D) (S : Store) (w : NestedKey) : Prop := ∃ y v r : D, ev m .f__law_in [A.d, kD w, xz] S = .ok y S ∧ ev m .f__law_handed [u, y, xz] S = .ok v S ∧ ev m .f__law_out [B.d, v, xz] S = .ok r S ∧ ev m .f_done [T, xz, kD w] S = .ok r S ∧ ev m .f_done [M, xz, kD w] S = .ok r S ∧ gNe r r S = .ok (.bl false) S
theorem worth_loop {A B : Kd} {T u : D} {S : Store} {x2 x3 x8 : Option D} : ∀ (L : List NestedKey) (x10 x11 : Option D), (∀ w ∈ L, Rt m A B xz T M u S w) →
    ∃ y10 y11, forL (gN 10) (l_law_1 (ev m)) none (L.map kD) [x0, x1, x2, x3, some M, some (Kd.frm A B).d, some xz, some T, x8, some u, x10, x11] S = .nx [x0, x1, x2, x3, some M, some (Kd.frm A B).d, some xz, some T, x8, some u, y10, y11] S
  | [], x10, x11, _ => ⟨x10, x11, by simp⟩
  | k :: L, x10, x11, hL => by
    obtain ⟨y, v, r, e1, e2, e3, e4, e5, e6⟩ := hL k List.mem_cons_self
    obtain ⟨y10, y11, ih⟩ := worth_loop (T := T) (u := u) (x2 := x2) (x3 := x3) (x8 := x8) L (some (kD k)) (some r) (fun w hw => hL w (List.mem_cons_of_mem _ hw))
    refine ⟨y10, y11, ?_⟩
    rw [← ih, List.map_cons, forL_cons, gN_ap, tgR_some]
    show loopR _ (l_law_1 (ev m) [x0, x1, x2, x3, some M, some (Kd.frm A B).d, some xz, some T, x8, some u, some (kD k), x11] S) = _
    have : l_law_1 (ev m) [x0, x1, x2, x3, some M, some (Kd.frm A B).d, some xz, some T, x8, some u, some (kD k), x11] S = .nx [x0, x1, x2, x3, some M, some (Kd.frm A B).d, some xz, some T, x8, some u, some (kD k), some r] S := by
      unfold l_law_1
      simp only [Kd.d]
      generalize A.d = XA at *
      generalize B.d = XB at *
      generalize kD k = W at *
      have a1 : sSet 11 (fArg (ev m .f__law_out) (fCons (f2 gIx (fVar 5) (fC (.int 2))) (fCons (fArg (ev m .f__law_handed) (fCons (fVar 9) (fCons (fArg (ev m .f__law_in) (fCons (f2 gIx (fVar 5) (fC (.int 1))) (fCons (fVar 10) (fCons (fVar 6) fNil)))) (fCons (fVar 6) fNil)))) (fCons (fVar 6) fNil)))) [x0, x1, x2, x3, some M, some (.tup [.str "from", XA, XB]), some xz, some T, x8, some u, some W, x11] S = .nx [x0, x1, x2, x3, some M, some (.tup [.str "from", XA, XB]), some xz, some T, x8, some u, some W, some r] S := by
        simp [e1, e2, e3]
      rw [seq_go a1]
      exact if_no (by simp [e4, e5, e6])
    rw [this, loopR_nx]
end
theorem iter_go {m : Nat} (hm : 200 ≤ m) {c : Int} {S : Store} {x0 x2 x3 x4 x5 x6 x7 x8 x9 x10 x11 : Option D} :
    ∃ y2 y3 y4 y5 y6 y7 y8 y9 y10 y11 S', l_law_2 (ev m) [x0, some (.int c), x2, x3, x4, x5, x6, x7, x8, x9, x10, x11] S = .nx [x0, some (.int c), y2, y3, y4, y5, y6, y7, y8, y9, y10, y11] S' := by
  have h8 : sizeLine = 16777216 := rfl
  obtain ⟨c0, e0, w0⟩ := well_new (n := m) (S := S) (i := c) (by omega)
  generalize hw : S.length = w at *
  generalize hS0 : S ++ [c0] = S0 at *
  obtain ⟨p, M, A, B, S1, e1, hp, mad, w1⟩ := lmade_sp (n := m) (by omega) w0
  have hdep := mad.dep
  simp only [Kd.dep] at hdep
  obtain ⟨ns, S2, e2, ok, sm, w2⟩ := sizes_sp (n := m) (K := .frm A B) (p := p) (by have := mad.dep; omega) hp w1.well
  have hz := sF_ok ok
  have g := good_U1 hp sm
  have hx : ∀ S, Szs (sF ns) (.lst (ns.map .int)) S := fun S => ints_list ok S
  have uL : ∀ (ns : List Int) (n : Nat), underL n (ns.map .int) = true := fun ns n => by
    induction ns with
    | nil => rfl
    | cons a ns ih => simp [underL, D.under, ih]
  have ux : ∀ n, (D.lst (ns.map .int)).under n = true := fun n => by simp [D.under, uL]
  obtain ⟨r, S3, e3, r0, r1, w3⟩ := draw_sp (n := m) (S := S2) (w := w) (m := 4) (by omega) w2.well (by omega) (by omega)
  have evM := mad.nf.evr g hz (fun A hA => nomatch hA) ⟨mad.ka, by have := mad.dep; omega⟩
  have topM : Top (sF ns) (U1 p) (.frm A B) (den (sF ns) [] M) M.ht 0 M := ⟨evM, mad.nf.kd, kds_up (by omega) mad.kds, Nat.le_refl _, by have := mad.ht; omega⟩
  obtain ⟨T, S4, y8, e4, topT, w4⟩ := top_loop (m := m) (w := w) (x0 := x0) (x1 := some (.int c)) (x9 := x9) (x10 := x10) (x11 := x11) (M := M.d) (by omega) hp hz g hx ux mad.dep (rngD 0 r.toNat) 0 (x8 := x8) w3.well topM (by rw [rngD_length]; omega)
  rw [rngD_length] at topT
  have hTh := topT.ht
  have szr : ∀ S, SzR (sF ns) (.lst (ns.map .int)) S := fun S => ⟨ns, ok, rfl, .inl rfl⟩
  have gA := g.ok A mad.ka.1
  obtain ⟨l, hl, llen, lmem⟩ : ∃ l, den (sF ns) [] M [] = .tup l ∧ l.length = nm (sF ns) A ∧ ∀ d ∈ l, d ∈ wlk (sF ns) B := by
    obtain ⟨v, _, q⟩ := evM _ _ _ Ce.nil (by have := mad.ht; simp only [Rs.len]; omega)
    exact in_frm q.1
  obtain ⟨_, u, e5, due⟩ := due_clo (n := m) (A := A) (B := B) g (hx S4) evM hl (by have := mad.ht; omega) (Nat.le_refl _) (by have := mad.a0; omega) (by have := mad.ht; omega)
  have doneM := fun {j : Nat} {w : NestedKey} => done_clo (n := m) (q := 2) (j := j) (w := w) g (szr S4) evM hl mad.nf.kd mad.kds (by have := mad.ht; omega) mad.ka (by omega) (by omega) (Nat.le_refl _) (by have := mad.ht; omega)
  have doneT := fun {j : Nat} {w : NestedKey} => done_clo (n := m) (q := 5) (j := j) (w := w) g (szr S4) topT.ev hl topT.kd topT.kds (by omega) mad.ka (by omega) (by omega) topT.le (by omega)
  have right : ∀ k ∈ wlk (sF ns) A, Rt m A B (.lst (ns.map .int)) T.d M.d u.l S4 k := fun k hk => by
    obtain ⟨j, hj⟩ := List.getElem?_of_mem hk
    obtain ⟨y, v, r1, h1, h2⟩ := due hj
    obtain ⟨r2, h3, h4⟩ := doneM hj
    obtain ⟨r3, h5, h6⟩ := doneT hj
    rw [h1] at h3 h5
    cases h3
    cases h5
    obtain ⟨i1, i2, i3⟩ := h2 m (by have := mad.ht; omega)
    have hr := lmem _ (List.mem_of_getElem? h1)
    exact ⟨_, _, _, i1, i2, i3, h6, h4, (wl_eqd (wlk_of hr)).ne (by omega)⟩
  obtain ⟨y10, y11, e6⟩ := worth_loop (m := m) (x0 := x0) (x1 := some (.int c)) (x2 := some (.loc w)) (x3 := some (pkD p)) (x8 := y8) (wlk (sF ns) A) x10 x11 right
  have e7 := lall_ok (hx S4) A (n := m) (by have := mad.a0; omega) gA.1 gA.2.1
  rw [wlk_map] at e6
  refine ⟨some (.loc w), some (pkD p), some M.d, some (Kd.frm A B).d, some (.lst (ns.map .int)), some T.d, y8, some u.l, y10, y11, S4, ?_⟩
  clear due doneM doneT right hx ux uL szr evM topM topT
  rw [Req]
  have q0 : R0 (ev m) [x0, some (.int c), x2, x3, x4, x5, x6, x7, x8, x9, x10, x11] S = .nx [x0, some (.int c), some (.loc w), x3, x4, x5, x6, x7, x8, x9, x10, x11] S0 := by simp [R0, e0]
  have q1 : R1 (ev m) [x0, some (.int c), some (.loc w), x3, x4, x5, x6, x7, x8, x9, x10, x11] S0 = .nx [x0, some (.int c), some (.loc w), some (pkD p), some M.d, some (Kd.frm A B).d, x6, x7, x8, x9, x10, x11] S1 := by
    unfold R1
    rw [sasg3 (x := pkD p) (y := M.d) (u := (Kd.frm A B).d) (S' := S1)]
    · rfl
    · generalize pkD p = P at *
      generalize (Kd.frm A B).d = KD at *
      simp [e1]
  have q2 : R2 (ev m) [x0, some (.int c), some (.loc w), some (pkD p), some M.d, some (Kd.frm A B).d, x6, x7, x8, x9, x10, x11] S1 = .nx [x0, some (.int c), some (.loc w), some (pkD p), some M.d, some (Kd.frm A B).d, some (.lst (ns.map .int)), x7, x8, x9, x10, x11] S2 := by
    unfold R2
    clear e1 e3 e4 e5 e6 e7 q0 q1
    generalize pkD p = P at *
    generalize (Kd.frm A B).d = KD at *
    generalize ns.map D.int = NS at *
    generalize M.d = MD at *
    simp [e2]
  have q3 : R3 (ev m) [x0, some (.int c), some (.loc w), some (pkD p), some M.d, some (Kd.frm A B).d, some (.lst (ns.map .int)), x7, x8, x9, x10, x11] S2 = .nx [x0, some (.int c), some (.loc w), some (pkD p), some M.d, some (Kd.frm A B).d, some (.lst (ns.map .int)), some M.d, x8, x9, x10, x11] S2 := rfl
  have q4 : R4 (ev m) [x0, some (.int c), some (.loc w), some (pkD p), some M.d, some (Kd.frm A B).d, some (.lst (ns.map .int)), some M.d, x8, x9, x10, x11] S2 = .nx [x0, some (.int c), some (.loc w), some (pkD p), some M.d, some (Kd.frm A B).d, some (.lst (ns.map .int)), some T.d, y8, x9, x10, x11] S4 := by
    unfold R4
    rw [sFor_ap, fiR1_ap]
    have a1 : fCons (fArg (ev m .f__law_draw) (fCons (fVar 2) (fCons (fC (.int 4)) fNil))) fNil [x0, some (.int c), some (.loc w), some (pkD p), some M.d, some (Kd.frm A B).d, some (.lst (ns.map .int)), some M.d, x8, x9, x10, x11] S2 = .ok [.int r] S3 := by
      clear e1 e2 e4 e5 e6 e7 q0 q1 q2 q3
      generalize pkD p = P
      generalize (Kd.frm A B).d = KD
      generalize ns.map D.int = NS
      generalize M.d = MD
      simp [e3]
    rw [a1, bnd_ok, itR_k r0 (by omega)]
    exact e4
  have q5 : R5 (ev m) [x0, some (.int c), some (.loc w), some (pkD p), some M.d, some (Kd.frm A B).d, some (.lst (ns.map .int)), some T.d, y8, x9, x10, x11] S4 = .nx [x0, some (.int c), some (.loc w), some (pkD p), some M.d, some (Kd.frm A B).d, some (.lst (ns.map .int)), some T.d, y8, some u.l, x10, x11] S4 := by
    unfold R5
    clear e1 e2 e3 e4 e6 e7 q0 q1 q2 q3 q4
    generalize pkD p = P at *
    generalize (Kd.frm A B).d = KD at *
    generalize ns.map D.int = NS at *
    generalize M.d = MD at *
    generalize u.l = UL at *
    simp [e5, h8]
  have q6 : R6 (ev m) [x0, some (.int c), some (.loc w), some (pkD p), some M.d, some (Kd.frm A B).d, some (.lst (ns.map .int)), some T.d, y8, some u.l, x10, x11] S4 = .nx [x0, some (.int c), some (.loc w), some (pkD p), some M.d, some (Kd.frm A B).d, some (.lst (ns.map .int)), some T.d, y8, some u.l, y10, y11] S4 := by
    unfold R6
    have it : fiL (fArg (ev m .f__law_all) (fCons (f2 gIx (fVar 5) (fC (.int 1))) (fCons (fVar 6) fNil))) [x0, some (.int c), some (.loc w), some (pkD p), some M.d, some (Kd.frm A B).d, some (.lst (ns.map .int)), some T.d, y8, some u.l, x10, x11] S4 = .ok (wl (sF ns) A, none) S4 := by
      have : fArg (ev m .f__law_all) (fCons (f2 gIx (fVar 5) (fC (.int 1))) (fCons (fVar 6) fNil)) [x0, some (.int c), some (.loc w), some (pkD p), some M.d, some (Kd.frm A B).d, some (.lst (ns.map .int)), some T.d, y8, some u.l, x10, x11] S4 = .ok (.lst (wl (sF ns) A)) S4 := by
        clear e1 e2 e3 e4 e5 e6 q0 q1 q2 q3 q4 q5
        simp only [Kd.d]
        generalize pkD p = P at *
        generalize wl (sF ns) A = WL at *
        generalize A.d = XA at *
        generalize B.d = XB at *
        generalize ns.map D.int = NS at *
        generalize M.d = MD at *
        generalize T.d = TD at *
        generalize u.l = UL at *
        simp [e7]
      unfold fiL
      rw [this]; rfl
    rw [sFor_ap, it]
    exact e6
  rw [seq_go q0, seq_go q1, seq_go q2, seq_go q3, seq_go q4, seq_go q5]
  exact q6
theorem law_loop {m : Nat} (h : 200 ≤ m) {x0 : Option D} : ∀ (ns : List Int) {S : Store} {x1 x2 x3 x4 x5 x6 x7 x8 x9 x10 x11 : Option D}, ∃ y1 y2 y3 y4 y5 y6 y7 y8 y9 y10 y11 S', forL (gN 1) (l_law_2 (ev m)) none (ns.map D.int) [x0, x1, x2, x3, x4, x5, x6, x7, x8, x9, x10, x11] S = .nx [x0, y1, y2, y3, y4, y5, y6, y7, y8, y9, y10, y11] S'
  | [], S, x1, x2, x3, x4, x5, x6, x7, x8, x9, x10, x11 => ⟨x1, x2, x3, x4, x5, x6, x7, x8, x9, x10, x11, S, by simp⟩
  | i :: ns, S, x1, x2, x3, x4, x5, x6, x7, x8, x9, x10, x11 => by
    obtain ⟨z2, z3, z4, z5, z6, z7, z8, z9, z10, z11, S1, e1⟩ := iter_go (m := m) h (S := S) (c := i) (x0 := x0) (x2 := x2) (x3 := x3) (x4 := x4) (x5 := x5) (x6 := x6) (x7 := x7) (x8 := x8) (x9 := x9) (x10 := x10) (x11 := x11)
    obtain ⟨y1, y2, y3, y4, y5, y6, y7, y8, y9, y10, y11, S', e2⟩ := law_loop h (x0 := x0) ns (S := S1) (x1 := some (.int i)) (x2 := z2) (x3 := z3) (x4 := z4) (x5 := z5) (x6 := z6) (x7 := z7) (x8 := z8) (x9 := z9) (x10 := z10) (x11 := z11)
    refine ⟨y1, y2, y3, y4, y5, y6, y7, y8, y9, y10, y11, S', ?_⟩
    rw [← e2, List.map_cons, forL_cons, gN_ap, tgR_some]
    show loopR _ (l_law_2 (ev m) [x0, some (.int i), x2, x3, x4, x5, x6, x7, x8, x9, x10, x11] S) = _
    rw [e1, loopR_nx]
theorem cutL_map {α β : Type} (f : α → β) (xs : List α) (lo hi : Option Int) : cutL (xs.map f) lo hi = (cutL xs lo hi).map f := by
  simp [cutL]
theorem law_src {ns : List Int} (hl : ns.length ≤ 63) {S : Store} {r : FEnv} : fiL (f2 (gAdd false) (fArg mkLst (fCons (fC (.int 0)) (fCons (fC (.int 3)) fNil))) (fSl (gSl false) (fVar 0) fNone (fSome (fC (.int 8))))) (some (.fls (ns.map .int)) :: r) S = .ok ((0 :: 3 :: cutL ns none (some 8)).map D.int, none) S := by
  have h8 : sizeLine = 16777216 := rfl
  have hc : (cutL ns none (some 8)).length ≤ ns.length := by simp [cutL]; omega
  have h9 : (cutL ns none (some 8)).length + 1 + 1 ≤ sizeLine := by omega
  simp [cutL_map, h9]
theorem law_true (ns : List Int) (hl : ns.length ≤ 63) : ∃ S', Kw.fnB 1 12 (b_law (ev 230)) [.fls (ns.map .int)] [] = .ok (.bl true) S' := by
  obtain ⟨y1, y2, y3, y4, y5, y6, y7, y8, y9, y10, y11, S', e2⟩ := law_loop (m := 230) (by omega) (x0 := some (.fls (ns.map .int))) (0 :: 3 :: cutL ns none (some 8)) (S := []) (x1 := none) (x2 := none) (x3 := none) (x4 := none) (x5 := none) (x6 := none) (x7 := none) (x8 := none) (x9 := none) (x10 := none) (x11 := none)
  refine ⟨S', ?_⟩
  rw [b_law, fnB_1]
  show RS.fin (sSeq _ _ [some (.fls (ns.map .int)), none, none, none, none, none, none, none, none, none, none, none] []) = _
  rw [sSeq_ap, sFor_ap, law_src hl, toS_ok, e2, sb_nx]
  rfl
end Kz
open PySem PySem.W PyProof.Rows
local macro_rules | `(tactic| o_head $t:term) => do
  let (hw, hc) := (Lean.mkIdent `hw, Lean.mkIdent `hc)
  `(tactic| (refine PySem.W.holds_open (r := Kz.Hd.R) (q := Kz.Hd.qv) (loose := Kz.Hd.nm) (Xt := fun s => xlAt Kz.Hd.qv [] s && recOk (RowW.records (OpenRow.toRowW Kz.Hd.R)) s) (XP := XL Kz.Hd.qv []) (Yf := Hook.obs $t) (Ya := Hook.val $t) (YP := Hook.says $t) (N := 6600) ?hlx (Hook.of $t) (Hook.keeps $t) (fun s e => xl_of s (Bool.and_eq_true_iff.mp e).1) XL.keeps (by rfl) (by rfl) (by rfl) (fun s e => recFacts_of (Bool.and_eq_true_iff.mp e).2) (by rfl) (by first | assumption | decide +kernel) (by decide +kernel) ⟨rfl, rfl, rfl, rfl, rfl, by decide +kernel⟩ ?$hw ?$hc; (case hlx => (refine Kz.Hd.left_k (M := 6000) (by kernel_rfl) (by rfl) (fun s => by kernel_rfl) (by rfl) ?hf ?ht; (case hf => exact Kz.Hd.runF); (case ht => exact Kz.Hd.runT)))))
set_option maxRecDepth 100000 in
set_option maxHeartbeats 0 in
theorem PySem.Challenge.cw_kindswap_k55_terms_grown_at_the_top_holds : PySem.Challenge.rw_kindswap_k55_terms_grown_at_the_top.Holds := by
  w_on; o_law; k_head; (case hw => w_witness2)
  as_aux_lemma =>
    k_fill
    refine Kw.walk_g (l := PySem.Challenge.rw_kindswap_k55_terms_grown_at_the_top) (k := 230 + 1) (x := "_law_script") rfl rfl ⟨⟨by decide, by decide, by decide⟩, rfl⟩ (fun w h Y => PySem.W.kIn_of Y) ?F (fun w H s e s' h => Kw.cx_no h)
    case F =>
      intro w mg fa h KX G hmg
      letI : Kw.Wo := ⟨w⟩
      have t_Reckoner___init__ : Kw.TM (L2.KOf KX) mg "Reckoner" "__init__" "Reckoner.__init__" Kz.s_Reckoner___init__ ["self", "sizes"] := by
        unfold L2.KOf
        refine' Kw.tm_mk KX G ?a ?m ?l ?c ?k ?f ?c1 ?c2 ?c3 ?c4 ?b
        (case a => k_is); (case m => k_is); (case l => k_is); (case c => k_is); (case k => k_is); (case f => k_is); (case c1 => k_is); (case c2 => k_is); (case c3 => k_is); (case c4 => k_is)
        (case b => exact fun _ _ _ _ _ _ us hl => match us, hl with | [_, _], _ => rfl)
      have t_Reckoner_all_of : Kw.TM (L2.KOf KX) mg "Reckoner" "all_of" "Reckoner.all_of" Kz.s_Reckoner_all_of ["self", "kind"] := by
        unfold L2.KOf
        refine' Kw.tm_mk KX G ?a ?m ?l ?c ?k ?f ?c1 ?c2 ?c3 ?c4 ?b
        (case a => k_is); (case m => k_is); (case l => k_is); (case c => k_is); (case k => k_is); (case f => k_is); (case c1 => k_is); (case c2 => k_is); (case c3 => k_is); (case c4 => k_is)
        (case b => exact fun _ _ _ _ _ _ us hl => match us, hl with | [_, _], _ => rfl)
      have t_Reckoner_held : Kw.TM (L2.KOf KX) mg "Reckoner" "held" "Reckoner.held" Kz.s_Reckoner_held ["self", "kind", "worth"] := by
        unfold L2.KOf
        refine' Kw.tm_mk KX G ?a ?m ?l ?c ?k ?f ?c1 ?c2 ?c3 ?c4 ?b
        (case a => k_is); (case m => k_is); (case l => k_is); (case c => k_is); (case k => k_is); (case f => k_is); (case c1 => k_is); (case c2 => k_is); (case c3 => k_is); (case c4 => k_is)
        (case b => exact fun _ _ _ _ _ _ us hl => match us, hl with | [_, _, _], _ => rfl)
      have t_Reckoner_told : Kw.TM (L2.KOf KX) mg "Reckoner" "told" "Reckoner.told" Kz.s_Reckoner_told ["self", "kind", "thing"] := by
        unfold L2.KOf
        refine' Kw.tm_mk KX G ?a ?m ?l ?c ?k ?f ?c1 ?c2 ?c3 ?c4 ?b
        (case a => k_is); (case m => k_is); (case l => k_is); (case c => k_is); (case k => k_is); (case f => k_is); (case c1 => k_is); (case c2 => k_is); (case c3 => k_is); (case c4 => k_is)
        (case b => exact fun _ _ _ _ _ _ us hl => match us, hl with | [_, _, _], _ => rfl)
      have t_Reckoner_worked : Kw.TM (L2.KOf KX) mg "Reckoner" "worked" "Reckoner.worked" Kz.s_Reckoner_worked ["self", "term", "things"] := by
        unfold L2.KOf
        refine' Kw.tm_mk KX G ?a ?m ?l ?c ?k ?f ?c1 ?c2 ?c3 ?c4 ?b
        (case a => k_is); (case m => k_is); (case l => k_is); (case c => k_is); (case k => k_is); (case f => k_is); (case c1 => k_is); (case c2 => k_is); (case c3 => k_is); (case c4 => k_is)
        (case b => exact fun _ _ _ _ _ _ us hl => match us, hl with | [_, _, _], _ => rfl)
      have t_Told___init__ : Kw.TM (L2.KOf KX) mg "Told" "__init__" "Told.__init__" Kz.s_Told___init__ ["self", "reckoner", "kind", "worth"] := by
        unfold L2.KOf
        refine' Kw.tm_mk KX G ?a ?m ?l ?c ?k ?f ?c1 ?c2 ?c3 ?c4 ?b
        (case a => k_is); (case m => k_is); (case l => k_is); (case c => k_is); (case k => k_is); (case f => k_is); (case c1 => k_is); (case c2 => k_is); (case c3 => k_is); (case c4 => k_is)
        (case b => exact fun _ _ _ _ _ _ us hl => match us, hl with | [_, _, _, _], _ => rfl)
      have t_Told_handed : Kw.TM (L2.KOf KX) mg "Told" "handed" "Told.handed" Kz.s_Told_handed ["self", "thing"] := by
        unfold L2.KOf
        refine' Kw.tm_mk KX G ?a ?m ?l ?c ?k ?f ?c1 ?c2 ?c3 ?c4 ?b
        (case a => k_is); (case m => k_is); (case l => k_is); (case c => k_is); (case k => k_is); (case f => k_is); (case c1 => k_is); (case c2 => k_is); (case c3 => k_is); (case c4 => k_is)
        (case b => exact fun _ _ _ _ _ _ us hl => match us, hl with | [_, _], _ => rfl)
      have t_Made___init__ : Kw.TM (L2.KOf KX) mg "Made" "__init__" "Made.__init__" Kz.s_Made___init__ ["self", "reckoner", "body", "things"] := by
        unfold L2.KOf
        refine' Kw.tm_mk KX G ?a ?m ?l ?c ?k ?f ?c1 ?c2 ?c3 ?c4 ?b
        (case a => k_is); (case m => k_is); (case l => k_is); (case c => k_is); (case k => k_is); (case f => k_is); (case c1 => k_is); (case c2 => k_is); (case c3 => k_is); (case c4 => k_is)
        (case b => exact fun _ _ _ _ _ _ us hl => match us, hl with | [_, _, _, _], _ => rfl)
      have t_Made_handed : Kw.TM (L2.KOf KX) mg "Made" "handed" "Made.handed" Kz.s_Made_handed ["self", "thing"] := by
        unfold L2.KOf
        refine' Kw.tm_mk KX G ?a ?m ?l ?c ?k ?f ?c1 ?c2 ?c3 ?c4 ?b
        (case a => k_is); (case m => k_is); (case l => k_is); (case c => k_is); (case k => k_is); (case f => k_is); (case c1 => k_is); (case c2 => k_is); (case c3 => k_is); (case c4 => k_is)
        (case b => exact fun _ _ _ _ _ _ us hl => match us, hl with | [_, _], _ => rfl)
      have t_is_from : Kw.TF (L2.KOf KX) mg "is_from" Kz.s_is_from ["thing", "low", "high"] := by
        unfold L2.KOf
        refine' Kw.tf_mk KX G ?a ?l ?c ?k ?b
        (case a => k_is); (case l => k_is); (case c => k_is); (case k => k_is)
        (case b => exact fun _ _ _ _ _ _ us hl => match us, hl with | [_, _, _], _ => rfl)
      have t_inner_of : Kw.TF (L2.KOf KX) mg "inner_of" Kz.s_inner_of ["thing"] := by
        unfold L2.KOf
        refine' Kw.tf_mk KX G ?a ?l ?c ?k ?b
        (case a => k_is); (case l => k_is); (case c => k_is); (case k => k_is)
        (case b => exact fun _ _ _ _ _ _ us hl => match us, hl with | [_], _ => rfl)
      have t_is_kind : Kw.TF (L2.KOf KX) mg "is_kind" Kz.s_is_kind ["thing"] := by
        unfold L2.KOf
        refine' Kw.tf_mk KX G ?a ?l ?c ?k ?b
        (case a => k_is); (case l => k_is); (case c => k_is); (case k => k_is)
        (case b => exact fun _ _ _ _ _ _ us hl => match us, hl with | [_], _ => rfl)
      have t_sure_kind : Kw.TF (L2.KOf KX) mg "sure_kind" Kz.s_sure_kind ["thing"] := by
        unfold L2.KOf
        refine' Kw.tf_mk KX G ?a ?l ?c ?k ?b
        (case a => k_is); (case l => k_is); (case c => k_is); (case k => k_is)
        (case b => exact fun _ _ _ _ _ _ us hl => match us, hl with | [_], _ => rfl)
      have t_sure_sizes : Kw.TF (L2.KOf KX) mg "sure_sizes" Kz.s_sure_sizes ["thing"] := by
        unfold L2.KOf
        refine' Kw.tf_mk KX G ?a ?l ?c ?k ?b
        (case a => k_is); (case l => k_is); (case c => k_is); (case k => k_is)
        (case b => exact fun _ _ _ _ _ _ us hl => match us, hl with | [_], _ => rfl)
      have t_power_up_to : Kw.TF (L2.KOf KX) mg "power_up_to" Kz.s_power_up_to ["base", "times"] := by
        unfold L2.KOf
        refine' Kw.tf_mk KX G ?a ?l ?c ?k ?b
        (case a => k_is); (case l => k_is); (case c => k_is); (case k => k_is)
        (case b => exact fun _ _ _ _ _ _ us hl => match us, hl with | [_, _], _ => rfl)
      have t_number_up_to : Kw.TF (L2.KOf KX) mg "number_up_to" Kz.s_number_up_to ["kind", "sizes"] := by
        unfold L2.KOf
        refine' Kw.tf_mk KX G ?a ?l ?c ?k ?b
        (case a => k_is); (case l => k_is); (case c => k_is); (case k => k_is)
        (case b => exact fun _ _ _ _ _ _ us hl => match us, hl with | [_, _], _ => rfl)
      have t_sure_taken : Kw.TF (L2.KOf KX) mg "sure_taken" Kz.s_sure_taken ["kind", "sizes"] := by
        unfold L2.KOf
        refine' Kw.tf_mk KX G ?a ?l ?c ?k ?b
        (case a => k_is); (case l => k_is); (case c => k_is); (case k => k_is)
        (case b => exact fun _ _ _ _ _ _ us hl => match us, hl with | [_, _], _ => rfl)
      have t_lists_of : Kw.TF (L2.KOf KX) mg "lists_of" Kz.s_lists_of ["things", "many"] := by
        unfold L2.KOf
        refine' Kw.tf_mk KX G ?a ?l ?c ?k ?b
        (case a => k_is); (case l => k_is); (case c => k_is); (case k => k_is)
        (case b => exact fun _ _ _ _ _ _ us hl => match us, hl with | [_, _], _ => rfl)
      have t_all_worths : Kw.TF (L2.KOf KX) mg "all_worths" Kz.s_all_worths ["kind", "sizes"] := by
        unfold L2.KOf
        refine' Kw.tf_mk KX G ?a ?l ?c ?k ?b
        (case a => k_is); (case l => k_is); (case c => k_is); (case k => k_is)
        (case b => exact fun _ _ _ _ _ _ us hl => match us, hl with | [_, _], _ => rfl)
      have t_worths : Kw.TF (L2.KOf KX) mg "worths" Kz.s_worths ["kind", "sizes"] := by
        unfold L2.KOf
        refine' Kw.tf_mk KX G ?a ?l ?c ?k ?b
        (case a => k_is); (case l => k_is); (case c => k_is); (case k => k_is)
        (case b => exact fun _ _ _ _ _ _ us hl => match us, hl with | [_, _], _ => rfl)
      have t_is_plain_worth : Kw.TF (L2.KOf KX) mg "is_plain_worth" Kz.s_is_plain_worth ["kind", "sizes", "thing"] := by
        unfold L2.KOf
        refine' Kw.tf_mk KX G ?a ?l ?c ?k ?b
        (case a => k_is); (case l => k_is); (case c => k_is); (case k => k_is)
        (case b => exact fun _ _ _ _ _ _ us hl => match us, hl with | [_, _, _], _ => rfl)
      have t_is_worth : Kw.TF (L2.KOf KX) mg "is_worth" Kz.s_is_worth ["kind", "sizes", "thing"] := by
        unfold L2.KOf
        refine' Kw.tf_mk KX G ?a ?l ?c ?k ?b
        (case a => k_is); (case l => k_is); (case c => k_is); (case k => k_is)
        (case b => exact fun _ _ _ _ _ _ us hl => match us, hl with | [_, _, _], _ => rfl)
      have t_is_shape : Kw.TF (L2.KOf KX) mg "is_shape" Kz.s_is_shape ["thing"] := by
        unfold L2.KOf
        refine' Kw.tf_mk KX G ?a ?l ?c ?k ?b
        (case a => k_is); (case l => k_is); (case c => k_is); (case k => k_is)
        (case b => exact fun _ _ _ _ _ _ us hl => match us, hl with | [_], _ => rfl)
      have t_kind_of_given : Kw.TF (L2.KOf KX) mg "kind_of_given" Kz.s_kind_of_given ["k", "given"] := by
        unfold L2.KOf
        refine' Kw.tf_mk KX G ?a ?l ?c ?k ?b
        (case a => k_is); (case l => k_is); (case c => k_is); (case k => k_is)
        (case b => exact fun _ _ _ _ _ _ us hl => match us, hl with | [_, _], _ => rfl)
      have t_kind_of_two : Kw.TF (L2.KOf KX) mg "kind_of_two" Kz.s_kind_of_two ["word", "one", "other"] := by
        unfold L2.KOf
        refine' Kw.tf_mk KX G ?a ?l ?c ?k ?b
        (case a => k_is); (case l => k_is); (case c => k_is); (case k => k_is)
        (case b => exact fun _ _ _ _ _ _ us hl => match us, hl with | [_, _, _], _ => rfl)
      have t_kind_in : Kw.TF (L2.KOf KX) mg "kind_in" Kz.s_kind_in ["term", "given"] := by
        unfold L2.KOf
        refine' Kw.tf_mk KX G ?a ?l ?c ?k ?b
        (case a => k_is); (case l => k_is); (case c => k_is); (case k => k_is)
        (case b => exact fun _ _ _ _ _ _ us hl => match us, hl with | [_, _], _ => rfl)
      have t_sure_kind_in : Kw.TF (L2.KOf KX) mg "sure_kind_in" Kz.s_sure_kind_in ["term", "given"] := by
        unfold L2.KOf
        refine' Kw.tf_mk KX G ?a ?l ?c ?k ?b
        (case a => k_is); (case l => k_is); (case c => k_is); (case k => k_is)
        (case b => exact fun _ _ _ _ _ _ us hl => match us, hl with | [_, _], _ => rfl)
      have t_done : Kw.TF (L2.KOf KX) mg "done" Kz.s_done ["term", "sizes", "worth"] := by
        unfold L2.KOf
        refine' Kw.tf_mk KX G ?a ?l ?c ?k ?b
        (case a => k_is); (case l => k_is); (case c => k_is); (case k => k_is)
        (case b => exact fun _ _ _ _ _ _ us hl => match us, hl with | [_, _, _], _ => rfl)
      have t__law_well : Kw.TF (L2.KOf KX) mg "_law_well" Kz.s__law_well ["_law_cell"] := by
        unfold L2.KOf
        refine' Kw.tf_mk KX G ?a ?l ?c ?k ?b
        (case a => k_is); (case l => k_is); (case c => k_is); (case k => k_is)
        (case b => exact fun _ _ _ _ _ _ us hl => match us, hl with | [_], _ => rfl)
      have t__law_draw : Kw.TF (L2.KOf KX) mg "_law_draw" Kz.s__law_draw ["_law_well_here", "_law_width"] := by
        unfold L2.KOf
        refine' Kw.tf_mk KX G ?a ?l ?c ?k ?b
        (case a => k_is); (case l => k_is); (case c => k_is); (case k => k_is)
        (case b => exact fun _ _ _ _ _ _ us hl => match us, hl with | [_, _], _ => rfl)
      have t__law_kind : Kw.TF (L2.KOf KX) mg "_law_kind" Kz.s__law_kind ["_law_well_here", "_law_deep"] := by
        unfold L2.KOf
        refine' Kw.tf_mk KX G ?a ?l ?c ?k ?b
        (case a => k_is); (case l => k_is); (case c => k_is); (case k => k_is)
        (case b => exact fun _ _ _ _ _ _ us hl => match us, hl with | [_, _], _ => rfl)
      have t__law_ways : Kw.TF (L2.KOf KX) mg "_law_ways" Kz.s__law_ways ["_law_kind_here", "_law_n"] := by
        unfold L2.KOf
        refine' Kw.tf_mk KX G ?a ?l ?c ?k ?b
        (case a => k_is); (case l => k_is); (case c => k_is); (case k => k_is)
        (case b => exact fun _ _ _ _ _ _ us hl => match us, hl with | [_, _], _ => rfl)
      have t__law_flat : Kw.TF (L2.KOf KX) mg "_law_flat" Kz.s__law_flat ["_law_well_here", "_law_kind_here", "_law_given", "_law_fuel"] := by
        unfold L2.KOf
        refine' Kw.tf_mk KX G ?a ?l ?c ?k ?b
        (case a => k_is); (case l => k_is); (case c => k_is); (case k => k_is)
        (case b => exact fun _ _ _ _ _ _ us hl => match us, hl with | [_, _, _, _], _ => rfl)
      have t__law_kind_of : Kw.TF (L2.KOf KX) mg "_law_kind_of" Kz.s__law_kind_of ["_law_term", "_law_given"] := by
        unfold L2.KOf
        refine' Kw.tf_mk KX G ?a ?l ?c ?k ?b
        (case a => k_is); (case l => k_is); (case c => k_is); (case k => k_is)
        (case b => exact fun _ _ _ _ _ _ us hl => match us, hl with | [_, _], _ => rfl)
      have t__law_rows : Kw.TF (L2.KOf KX) mg "_law_rows" Kz.s__law_rows ["_law_some", "_law_width"] := by
        unfold L2.KOf
        refine' Kw.tf_mk KX G ?a ?l ?c ?k ?b
        (case a => k_is); (case l => k_is); (case c => k_is); (case k => k_is)
        (case b => exact fun _ _ _ _ _ _ us hl => match us, hl with | [_, _], _ => rfl)
      have t__law_all : Kw.TF (L2.KOf KX) mg "_law_all" Kz.s__law_all ["_law_kind_here", "_law_sizes_here"] := by
        unfold L2.KOf
        refine' Kw.tf_mk KX G ?a ?l ?c ?k ?b
        (case a => k_is); (case l => k_is); (case c => k_is); (case k => k_is)
        (case b => exact fun _ _ _ _ _ _ us hl => match us, hl with | [_, _], _ => rfl)
      have t__law_handed : Kw.TF (L2.KOf KX) mg "_law_handed" Kz.s__law_handed ["_law_one", "_law_thing", "_law_sizes_here"] := by
        unfold L2.KOf
        refine' Kw.tf_mk KX G ?a ?l ?c ?k ?b
        (case a => k_is); (case l => k_is); (case c => k_is); (case k => k_is)
        (case b => exact fun _ _ _ _ _ _ us hl => match us, hl with | [_, _, _], _ => rfl)
      have t__law_in : Kw.TF (L2.KOf KX) mg "_law_in" Kz.s__law_in ["_law_kind_here", "_law_worth", "_law_sizes_here"] := by
        unfold L2.KOf
        refine' Kw.tf_mk KX G ?a ?l ?c ?k ?b
        (case a => k_is); (case l => k_is); (case c => k_is); (case k => k_is)
        (case b => exact fun _ _ _ _ _ _ us hl => match us, hl with | [_, _, _], _ => rfl)
      have t__law_out : Kw.TF (L2.KOf KX) mg "_law_out" Kz.s__law_out ["_law_kind_here", "_law_thing", "_law_sizes_here"] := by
        unfold L2.KOf
        refine' Kw.tf_mk KX G ?a ?l ?c ?k ?b
        (case a => k_is); (case l => k_is); (case c => k_is); (case k => k_is)
        (case b => exact fun _ _ _ _ _ _ us hl => match us, hl with | [_, _, _], _ => rfl)
      have t__law_work : Kw.TF (L2.KOf KX) mg "_law_work" Kz.s__law_work ["_law_term", "_law_things", "_law_sizes_here"] := by
        unfold L2.KOf
        refine' Kw.tf_mk KX G ?a ?l ?c ?k ?b
        (case a => k_is); (case l => k_is); (case c => k_is); (case k => k_is)
        (case b => exact fun _ _ _ _ _ _ us hl => match us, hl with | [_, _, _], _ => rfl)
      have t__law_closed : Kw.TF (L2.KOf KX) mg "_law_closed" Kz.s__law_closed ["_law_term", "_law_given"] := by
        unfold L2.KOf
        refine' Kw.tf_mk KX G ?a ?l ?c ?k ?b
        (case a => k_is); (case l => k_is); (case c => k_is); (case k => k_is)
        (case b => exact fun _ _ _ _ _ _ us hl => match us, hl with | [_, _], _ => rfl)
      have t__law_renamed : Kw.TF (L2.KOf KX) mg "_law_renamed" Kz.s__law_renamed ["_law_thing", "_law_pick_here"] := by
        unfold L2.KOf
        refine' Kw.tf_mk KX G ?a ?l ?c ?k ?b
        (case a => k_is); (case l => k_is); (case c => k_is); (case k => k_is)
        (case b => exact fun _ _ _ _ _ _ us hl => match us, hl with | [_, _], _ => rfl)
      have t__law_count : Kw.TF (L2.KOf KX) mg "_law_count" Kz.s__law_count ["_law_kind_here", "_law_sizes_here"] := by
        unfold L2.KOf
        refine' Kw.tf_mk KX G ?a ?l ?c ?k ?b
        (case a => k_is); (case l => k_is); (case c => k_is); (case k => k_is)
        (case b => exact fun _ _ _ _ _ _ us hl => match us, hl with | [_, _], _ => rfl)
      have t__law_cost : Kw.TF (L2.KOf KX) mg "_law_cost" Kz.s__law_cost ["_law_kind_here", "_law_sizes_here"] := by
        unfold L2.KOf
        refine' Kw.tf_mk KX G ?a ?l ?c ?k ?b
        (case a => k_is); (case l => k_is); (case c => k_is); (case k => k_is)
        (case b => exact fun _ _ _ _ _ _ us hl => match us, hl with | [_, _], _ => rfl)
      have t__law_pick : Kw.TF (L2.KOf KX) mg "_law_pick" Kz.s__law_pick ["_law_well_here"] := by
        unfold L2.KOf
        refine' Kw.tf_mk KX G ?a ?l ?c ?k ?b
        (case a => k_is); (case l => k_is); (case c => k_is); (case k => k_is)
        (case b => exact fun _ _ _ _ _ _ us hl => match us, hl with | [_], _ => rfl)
      have t__law_sizes : Kw.TF (L2.KOf KX) mg "_law_sizes" Kz.s__law_sizes ["_law_well_here", "_law_kind_here", "_law_pick_here"] := by
        unfold L2.KOf
        refine' Kw.tf_mk KX G ?a ?l ?c ?k ?b
        (case a => k_is); (case l => k_is); (case c => k_is); (case k => k_is)
        (case b => exact fun _ _ _ _ _ _ us hl => match us, hl with | [_, _, _], _ => rfl)
      have t__law_put : Kw.TF (L2.KOf KX) mg "_law_put" Kz.s__law_put ["_law_term", "_law_by"] := by
        unfold L2.KOf
        refine' Kw.tf_mk KX G ?a ?l ?c ?k ?b
        (case a => k_is); (case l => k_is); (case c => k_is); (case k => k_is)
        (case b => exact fun _ _ _ _ _ _ us hl => match us, hl with | [_, _], _ => rfl)
      have t__law_other : Kw.TF (L2.KOf KX) mg "_law_other" Kz.s__law_other ["_law_well_here", "_law_pick_here"] := by
        unfold L2.KOf
        refine' Kw.tf_mk KX G ?a ?l ?c ?k ?b
        (case a => k_is); (case l => k_is); (case c => k_is); (case k => k_is)
        (case b => exact fun _ _ _ _ _ _ us hl => match us, hl with | [_, _], _ => rfl)
      have t__law_topped : Kw.TF (L2.KOf KX) mg "_law_topped" Kz.s__law_topped ["_law_well_here", "_law_term", "_law_kind_here", "_law_pick_here", "_law_sizes_here"] := by
        unfold L2.KOf
        refine' Kw.tf_mk KX G ?a ?l ?c ?k ?b
        (case a => k_is); (case l => k_is); (case c => k_is); (case k => k_is)
        (case b => exact fun _ _ _ _ _ _ us hl => match us, hl with | [_, _, _, _, _], _ => rfl)
      have t__law_made : Kw.TF (L2.KOf KX) mg "_law_made" Kz.s__law_made ["_law_well_here"] := by
        unfold L2.KOf
        refine' Kw.tf_mk KX G ?a ?l ?c ?k ?b
        (case a => k_is); (case l => k_is); (case c => k_is); (case k => k_is)
        (case b => exact fun _ _ _ _ _ _ us hl => match us, hl with | [_], _ => rfl)
      have m_all : mg "all" = none := by
        refine' Kw.bl_mk KX G ?a
        (case a => k_is)
      have m_bool : mg "bool" = none := by
        refine' Kw.bl_mk KX G ?a
        (case a => k_is)
      have m_enumerate : mg "enumerate" = none := by
        refine' Kw.bl_mk KX G ?a
        (case a => k_is)
      have m_int : mg "int" = none := by
        refine' Kw.bl_mk KX G ?a
        (case a => k_is)
      have m_isinstance : mg "isinstance" = none := by
        refine' Kw.bl_mk KX G ?a
        (case a => k_is)
      have m_len : mg "len" = none := by
        refine' Kw.bl_mk KX G ?a
        (case a => k_is)
      have m_list : mg "list" = none := by
        refine' Kw.bl_mk KX G ?a
        (case a => k_is)
      have m_min : mg "min" = none := by
        refine' Kw.bl_mk KX G ?a
        (case a => k_is)
      have m_range : mg "range" = none := by
        refine' Kw.bl_mk KX G ?a
        (case a => k_is)
      have m_str : mg "str" = none := by
        refine' Kw.bl_mk KX G ?a
        (case a => k_is)
      have m_tuple : mg "tuple" = none := by
        refine' Kw.bl_mk KX G ?a
        (case a => k_is)
      have c_BASES : Kw.GC mg "BASES" (.int 8) := by
        refine' Kw.gc_int KX G ?a
        (case a => k_is)
      have c_LETTERS : Kw.GC mg "LETTERS" (.str "abcdefgh") := by
        refine' Kw.gc_str KX G ?a
        (case a => k_is)
      have c_MARKS : Kw.GD (L2.KOf KX) w.params mg "MARKS" Kz.kv_MARKS := by
        unfold L2.KOf
        refine' Kw.gd_mk KX G ?a ?l ?k ?s ?e
        (case a => k_is); (case l => k_is); (case k => exact ⟨⟨_, _, rfl, rfl⟩, ⟨_, _, rfl, rfl⟩, trivial⟩); (case s => rfl); (case e => exact (Kw.Ents.cons (v := .str "*") ⟨_, rfl⟩ rfl (Kw.Ents.cons (v := .str ">") ⟨_, rfl⟩ rfl Kw.Ents.nil)))
      have c_MOST_SIZE : Kw.GC mg "MOST_SIZE" (.int 999) := by
        refine' Kw.gc_int KX G ?a
        (case a => k_is)
      have c_MOST_WORTHS : Kw.GC mg "MOST_WORTHS" (.int 5000) := by
        refine' Kw.gc_int KX G ?a
        (case a => k_is)
      have c_PARTS : Kw.GD (L2.KOf KX) w.params mg "PARTS" Kz.kv_PARTS := by
        unfold L2.KOf
        refine' Kw.gd_mk KX G ?a ?l ?k ?s ?e
        (case a => k_is); (case l => k_is); (case k => exact ⟨⟨_, _, rfl, rfl⟩, ⟨_, _, rfl, rfl⟩, ⟨_, _, rfl, rfl⟩, ⟨_, _, rfl, rfl⟩, ⟨_, _, rfl, rfl⟩, ⟨_, _, rfl, rfl⟩, ⟨_, _, rfl, rfl⟩, trivial⟩); (case s => rfl); (case e => exact (Kw.Ents.cons (v := .int 2) ⟨_, rfl⟩ rfl (Kw.Ents.cons (v := .int 3) ⟨_, rfl⟩ rfl (Kw.Ents.cons (v := .int 3) ⟨_, rfl⟩ rfl (Kw.Ents.cons (v := .int 3) ⟨_, rfl⟩ rfl (Kw.Ents.cons (v := .int 2) ⟨_, rfl⟩ rfl (Kw.Ents.cons (v := .int 2) ⟨_, rfl⟩ rfl (Kw.Ents.cons (v := .int 1) ⟨_, rfl⟩ rfl Kw.Ents.nil))))))))
      have k_Made : Kw.MkC (L2.KOf KX) mg "Made" := by
        unfold L2.KOf
        refine' Kw.mkc_mk KX G ?a ?b ?c ?d ?e
        (case a => k_is); (case b => k_is); (case c => k_is); (case d => k_is); (case e => k_is)
      have k_Reckoner : Kw.MkC (L2.KOf KX) mg "Reckoner" := by
        unfold L2.KOf
        refine' Kw.mkc_mk KX G ?a ?b ?c ?d ?e
        (case a => k_is); (case b => k_is); (case c => k_is); (case d => k_is); (case e => k_is)
      have k_Told : Kw.MkC (L2.KOf KX) mg "Told" := by
        unfold L2.KOf
        refine' Kw.mkc_mk KX G ?a ?b ?c ?d ?e
        (case a => k_is); (case b => k_is); (case c => k_is); (case d => k_is); (case e => k_is)
      have g_Made_body : Kw.FldC (L2.KOf KX) mg "Made" "body" := by
        unfold L2.KOf
        refine' Kw.fld_mk KX G ?a ?n ?c1 ?c2 ?c3 ?c4
        (case a => k_is); (case n => k_is); (case c1 => k_is); (case c2 => k_is); (case c3 => k_is); (case c4 => k_is)
      have g_body : ∀ c ∈ (["Made"] : List Str), Kw.FldC (L2.KOf KX) mg c "body" := (List.forall_mem_cons.mpr ⟨g_Made_body, (by simp)⟩)
      have g_Told_kind : Kw.FldC (L2.KOf KX) mg "Told" "kind" := by
        unfold L2.KOf
        refine' Kw.fld_mk KX G ?a ?n ?c1 ?c2 ?c3 ?c4
        (case a => k_is); (case n => k_is); (case c1 => k_is); (case c2 => k_is); (case c3 => k_is); (case c4 => k_is)
      have g_kind : ∀ c ∈ (["Told"] : List Str), Kw.FldC (L2.KOf KX) mg c "kind" := (List.forall_mem_cons.mpr ⟨g_Told_kind, (by simp)⟩)
      have g_Reckoner_lists : Kw.FldC (L2.KOf KX) mg "Reckoner" "lists" := by
        unfold L2.KOf
        refine' Kw.fld_mk KX G ?a ?n ?c1 ?c2 ?c3 ?c4
        (case a => k_is); (case n => k_is); (case c1 => k_is); (case c2 => k_is); (case c3 => k_is); (case c4 => k_is)
      have g_lists : ∀ c ∈ (["Reckoner"] : List Str), Kw.FldC (L2.KOf KX) mg c "lists" := (List.forall_mem_cons.mpr ⟨g_Reckoner_lists, (by simp)⟩)
      have g_Told_reckoner : Kw.FldC (L2.KOf KX) mg "Told" "reckoner" := by
        unfold L2.KOf
        refine' Kw.fld_mk KX G ?a ?n ?c1 ?c2 ?c3 ?c4
        (case a => k_is); (case n => k_is); (case c1 => k_is); (case c2 => k_is); (case c3 => k_is); (case c4 => k_is)
      have g_Made_reckoner : Kw.FldC (L2.KOf KX) mg "Made" "reckoner" := by
        unfold L2.KOf
        refine' Kw.fld_mk KX G ?a ?n ?c1 ?c2 ?c3 ?c4
        (case a => k_is); (case n => k_is); (case c1 => k_is); (case c2 => k_is); (case c3 => k_is); (case c4 => k_is)
      have g_reckoner : ∀ c ∈ (["Told", "Made"] : List Str), Kw.FldC (L2.KOf KX) mg c "reckoner" := (List.forall_mem_cons.mpr ⟨g_Told_reckoner, (List.forall_mem_cons.mpr ⟨g_Made_reckoner, (by simp)⟩)⟩)
      have g_Reckoner_sizes : Kw.FldC (L2.KOf KX) mg "Reckoner" "sizes" := by
        unfold L2.KOf
        refine' Kw.fld_mk KX G ?a ?n ?c1 ?c2 ?c3 ?c4
        (case a => k_is); (case n => k_is); (case c1 => k_is); (case c2 => k_is); (case c3 => k_is); (case c4 => k_is)
      have g_sizes : ∀ c ∈ (["Reckoner"] : List Str), Kw.FldC (L2.KOf KX) mg c "sizes" := (List.forall_mem_cons.mpr ⟨g_Reckoner_sizes, (by simp)⟩)
      have g_Reckoner_spots : Kw.FldC (L2.KOf KX) mg "Reckoner" "spots" := by
        unfold L2.KOf
        refine' Kw.fld_mk KX G ?a ?n ?c1 ?c2 ?c3 ?c4
        (case a => k_is); (case n => k_is); (case c1 => k_is); (case c2 => k_is); (case c3 => k_is); (case c4 => k_is)
      have g_spots : ∀ c ∈ (["Reckoner"] : List Str), Kw.FldC (L2.KOf KX) mg c "spots" := (List.forall_mem_cons.mpr ⟨g_Reckoner_spots, (by simp)⟩)
      have g_Made_things : Kw.FldC (L2.KOf KX) mg "Made" "things" := by
        unfold L2.KOf
        refine' Kw.fld_mk KX G ?a ?n ?c1 ?c2 ?c3 ?c4
        (case a => k_is); (case n => k_is); (case c1 => k_is); (case c2 => k_is); (case c3 => k_is); (case c4 => k_is)
      have g_things : ∀ c ∈ (["Made"] : List Str), Kw.FldC (L2.KOf KX) mg c "things" := (List.forall_mem_cons.mpr ⟨g_Made_things, (by simp)⟩)
      have g_Told_worth : Kw.FldC (L2.KOf KX) mg "Told" "worth" := by
        unfold L2.KOf
        refine' Kw.fld_mk KX G ?a ?n ?c1 ?c2 ?c3 ?c4
        (case a => k_is); (case n => k_is); (case c1 => k_is); (case c2 => k_is); (case c3 => k_is); (case c4 => k_is)
      have g_worth : ∀ c ∈ (["Told"] : List Str), Kw.FldC (L2.KOf KX) mg c "worth" := (List.forall_mem_cons.mpr ⟨g_Told_worth, (by simp)⟩)
      have x_NoKind : Kw.ExcF (L2.KOf KX) mg "NoKind" := by
        unfold L2.KOf
        refine' Kw.exc_mk KX G ?a ?b ?c ?d ?e
        (case a => k_is); (case b => k_exc); (case c => k_is); (case d => k_is); (case e => k_is)
      have x_NoSizes : Kw.ExcF (L2.KOf KX) mg "NoSizes" := by
        unfold L2.KOf
        refine' Kw.exc_mk KX G ?a ?b ?c ?d ?e
        (case a => k_is); (case b => k_exc); (case c => k_is); (case d => k_is); (case e => k_is)
      have x_NoTerm : Kw.ExcF (L2.KOf KX) mg "NoTerm" := by
        unfold L2.KOf
        refine' Kw.exc_mk KX G ?a ?b ?c ?d ?e
        (case a => k_is); (case b => k_exc); (case c => k_is); (case d => k_is); (case e => k_is)
      have x_NoWorth : Kw.ExcF (L2.KOf KX) mg "NoWorth" := by
        unfold L2.KOf
        refine' Kw.exc_mk KX G ?a ?b ?c ?d ?e
        (case a => k_is); (case b => k_exc); (case c => k_is); (case d => k_is); (case e => k_is)
      have x_TooMany : Kw.ExcF (L2.KOf KX) mg "TooMany" := by
        unfold L2.KOf
        refine' Kw.exc_mk KX G ?a ?b ?c ?d ?e
        (case a => k_is); (case b => k_exc); (case c => k_is); (case d => k_is); (case e => k_is)
      have T : Kz.Txt (L2.KOf KX) w.params mg := ⟨t_Reckoner___init__, t_Reckoner_all_of, t_Reckoner_held, t_Reckoner_told, t_Reckoner_worked, t_Told___init__, t_Told_handed, t_Made___init__, t_Made_handed, t_is_from, t_inner_of, t_is_kind, t_sure_kind, t_sure_sizes, t_power_up_to, t_number_up_to, t_sure_taken, t_lists_of, t_all_worths, t_worths, t_is_plain_worth, t_is_worth, t_is_shape, t_kind_of_given, t_kind_of_two, t_kind_in, t_sure_kind_in, t_done, t__law_well, t__law_draw, t__law_kind, t__law_ways, t__law_flat, t__law_kind_of, t__law_rows, t__law_all, t__law_handed, t__law_in, t__law_out, t__law_work, t__law_closed, t__law_renamed, t__law_count, t__law_cost, t__law_pick, t__law_sizes, t__law_put, t__law_other, t__law_topped, t__law_made, m_all, m_bool, m_enumerate, m_int, m_isinstance, m_len, m_list, m_min, m_range, m_str, m_tuple, c_BASES, c_LETTERS, c_MARKS, c_MOST_SIZE, c_MOST_WORTHS, c_PARTS, k_Made, k_Reckoner, k_Told, g_body, g_kind, g_lists, g_reckoner, g_sizes, g_spots, g_things, g_worth, x_NoKind, x_NoSizes, x_NoTerm, x_NoWorth, x_TooMany⟩
      refine' Kw.law_mk (st := Kz.s_law) (k := 230) KX G hmg ?a ?l ?c ?k (fun _ _ _ _ _ _ us hl => match us, hl with | [_], _ => rfl) Kz.sc_law (fun base Kb Gb => Kz.ok_law T rfl (Kz.all_ok T rfl 230)) (fun ns h hb => Kz.law_true ns h)
      (case a => k_is); (case l => k_is); (case c => k_is); (case k => k_is)
