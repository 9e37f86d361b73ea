import PyProof.Rows.All
import PySem.Challenge.RW_kindswap_k41_all_worths
import HandS.Head0
import HandS.Head1
import HandS.Head2
import Wide.All
import OpenK.AllK
import Wide.FinOn
import HandS.ForMost
import HandS.ForExc
import HandS.Flow
import HandS.IsInst
import HandS.Wide
import HandS.Lambda
import KE.KDictKeyed
import HandS.Style
import HandS.TupAny
import HandS.Deep
import HandS.Zip
import HandS.StrMore
import HandS.ExcOwn
import HandS.More
import HandS.EndBits
import HandS.ExcIs
import HandS.TryMany
import PyProof.ReprRoads
import HandS.Conv
import KE.SortData
import HandS.SortKw
import HandS.ExcValue
import KE.SortKeyHeap
import HandS.NoneIn
import KE.DataCmp
import HandS.Strs
import PyProof.SetRoads
import PyProof.Rows.SetFrom
import KE.DataFind
import HandS.Dict
import KE.KTryMore
import HandS.ExcInit
import HandS.ExcField
import HandS.ClsMeth
import HandS.Exc
import HandS.DictComp
import PyProof.DictCompW
import PyProof.DictStraight
import HandS.TupSets
import HandS.TupMul
set_option Elab.async false
set_option linter.all false
set_option maxRecDepth 100000
set_option maxHeartbeats 4000000
open PySem PySem.W PyProof.Rows
namespace Kz.Hd
open PySem PySem.W PySem.Calls PyProof.Rows
def nm0 : List PySem.Str := ["SwapError", "NoKind", "NoSizes", "TooMany", "LETTERS", "MARKS", "is_from", "inner_of", "is_kind", "sure_kind", "BASES", "MOST_SIZE", "MOST_WORTHS", "sure_sizes", "power_up_to", "number_up_to", "sure_taken", "lists_of", "all_worths", "worths", "_law_cell_at", "_law_well", "_law_draw", "_law_one"]
def nm1 : List PySem.Str := ["_law_kind", "_law_sizes", "_law_power", "_law_number", "_law_taken", "_law_all", "_law_asked", "_law_great_right", "_law_deep_right", "_law_right"]
def nm : List PySem.Str := nm0 ++ nm1
abbrev R : OpenRow := OpenLaw.row PySem.Challenge.rw_kindswap_k41_all_worths
abbrev qv : Program := view R.prog [38]
/-- the run's equation at a world -/
def RunK (p q : Program) (loose : List PySem.Str) (Xt : Shared → Bool) (K : Params → PySem.W.Frag) (as ts : List Addr) (M : Nat) (w : World) : Prop :=
  ∀ os : OsState, (HandSHeadRun.endF (HandSHeadRun.stepQ (HandSHeadRun.denQ HandSHeadRun.tabQ) p w) M p w os).map (fun s => (HandSHeadRun.looksF p (boot_heap w.params) s.abs, HandSHeadRun.seenQ q loose (importedModules p.main.body) Xt s.abs, (as.map (HandSHeadRun.getT s), ts.map (HandSHeadRun.getT s)))) = some (true, openGood q loose, ((K w.params).map fun x => some x.2, ts.map fun _ => some (tabObj #[])))
/-- LeftO of that run, for kmHook; the run is shown for each answer of special-get-raises -/
theorem left_km {p q : Program} {loose : List PySem.Str} {Xt : Shared → Bool} {K : Params → PySem.W.Frag} {as ts : List Addr} {ek : ∀ P, as = (K P).map (·.1)} {N M : Nat}
    (e : opening p = plainProg p.main.scope.names) (hN : Nat.ble 600 N = true) (f : ∀ s, fenceModules? p s = some s) (le : Nat.ble M N = true)
    (hf : ∀ w : World, RunK p q loose Xt K as ts M (w.withFollow "special-get-raises" false)) (ht : ∀ w : World, RunK p q loose Xt K as ts M (w.withFollow "special-get-raises" true)) :
    LeftO p q loose Xt (Hook.obs (kmHook K as ek ts)) (Hook.val (kmHook K as ek ts)) N true :=
  HandSHeadRun.left_one (M := M) e hN f le fun w os => by
    have z := byRow2 "special-get-raises" (P := fun w => RunK p q loose Xt K as ts M w) hf ht w os
    have eo : (fun s : SharedT => (HandSHeadRun.looksF p (boot_heap w.params) s.abs, HandSHeadRun.seenQ q loose (importedModules p.main.body) Xt s.abs, (as.map (HandSHeadRun.getT s), ts.map (HandSHeadRun.getT s)))) = fun s => (HandSHeadRun.looksF p (boot_heap w.params) s.abs, HandSHeadRun.seenQ q loose (importedModules p.main.body) Xt s.abs, Hook.obs (kmHook K as ek ts) s.abs) := by
      funext s
      have q1 : as.map (HandSHeadRun.getT s) = as.map s.abs.heap.get? := List.map_congr_left fun a _ => HandSHeadRun.getT_eq s a
      have q2 : ts.map (HandSHeadRun.getT s) = ts.map s.abs.heap.get? := List.map_congr_left fun a _ => HandSHeadRun.getT_eq s a
      rw [q1, q2]
      rfl
    rw [eo] at z
    simp only [HandSHeadRun.endQ_eq, HandSHeadRun.seenQ_eq]
    exact z
/-- the same for kHook -/
theorem left_k {p q : Program} {loose : List PySem.Str} {Xt : Shared → Bool} {K : Params → PySem.W.Frag} {as : List Addr} {ek : ∀ P, as = (K P).map (·.1)} {N M : Nat}
    (e : opening p = plainProg p.main.scope.names) (hN : Nat.ble 600 N = true) (f : ∀ s, fenceModules? p s = some s) (le : Nat.ble M N = true)
    (hf : ∀ w : World, RunK p q loose Xt K as [] M (w.withFollow "special-get-raises" false)) (ht : ∀ w : World, RunK p q loose Xt K as [] M (w.withFollow "special-get-raises" true)) :
    LeftO p q loose Xt (Hook.obs (kHook K as ek)) (Hook.val (kHook K as ek)) N true := fun w => by
  have z := left_km (ek := ek) (ts := []) e hN f le hf ht w
  cases hx : openEnds treeTable p w N with
  | none => rw [hx] at z; cases z
  | some s =>
    rw [hx] at z
    simp only [Option.map_some, Option.some.injEq, Prod.mk.injEq] at z ⊢
    exact ⟨z.1, (Prod.mk.inj z.2).1⟩
end Kz.Hd
local macro_rules | `(tactic| o_head $t:term) => do
  let hl := Lean.mkIdent `hl
  let (hw, hc) := (Lean.mkIdent `hw, Lean.mkIdent `hc)
  `(tactic| (refine PySem.W.holds_open (r := Kz.Hd.R) (q := Kz.Hd.qv) (loose := Kz.Hd.nm) (Xt := fun s => xlAt Kz.Hd.qv [] s && recOk (RowW.records (OpenRow.toRowW Kz.Hd.R)) s) (XP := XL Kz.Hd.qv []) (Yf := Hook.obs $t) (Ya := Hook.val $t) (YP := Hook.says $t) (N := 9600) ?hlx (Hook.of $t) (Hook.keeps $t) (fun s e => xl_of s (Bool.and_eq_true_iff.mp e).1) XL.keeps (by rfl) (by rfl) (by rfl) (fun s e => recFacts_of (Bool.and_eq_true_iff.mp e).2) (by rfl) (by first | assumption | decide +kernel) (by decide +kernel) ⟨rfl, rfl, rfl, rfl, rfl, by decide +kernel⟩ ?$hw ?$hc; (case hlx => exact $hl _)))
set_option maxRecDepth 100000 in
set_option maxHeartbeats 0 in
open PySem PySem.W PySem.Calls PyProof.Rows in
theorem Kz.Hd.t1 (hl : ∀ H : Hook, LeftO Kz.Hd.R.prog Kz.Hd.qv Kz.Hd.nm (fun s => xlAt Kz.Hd.qv [] s && recOk (RowW.records (OpenRow.toRowW Kz.Hd.R)) s) (Hook.obs H) (Hook.val H) 9600 true) (hc : ∀ (d : DefRec) (kwd : List (PySem.Str × PySem.Expr)) (YP : World → Heap → Prop), WalkO Kz.Hd.qv Kz.Hd.nm (XL Kz.Hd.qv []) YP (OpenRow.toRowW Kz.Hd.R) d kwd fun f vs => PySem.call f vs) : PySem.Challenge.rw_kindswap_k41_all_worths.Holds := by
  w_on; o_law; k_head; (case hw => w_witness2)
  exact hc _ _ _
namespace Kz.Hd
open PySem PySem.W PySem.Calls PyProof.Rows
set_option maxHeartbeats 0 in
theorem runF (w : World) : RunK R.prog qv nm (fun s => xlAt qv [] s && recOk (RowW.records (OpenRow.toRowW R)) s) t1.heap_39 ((t1.heap_39 w.params).map (·.1)) [] 9000 (w.withFollow "special-get-raises" false) := by
  intro os; kernel_rfl
set_option maxHeartbeats 0 in
theorem runT (w : World) : RunK R.prog qv nm (fun s => xlAt qv [] s && recOk (RowW.records (OpenRow.toRowW R)) s) t1.heap_39 ((t1.heap_39 w.params).map (·.1)) [] 9000 (w.withFollow "special-get-raises" true) := by
  intro os; kernel_rfl
end Kz.Hd
namespace Kw
open PySem PySem.Spec PyProof.Rows L2
/-- a value as a tree; a list that is changed is a cell of the store -/
inductive D where
  | non | bl (b : Bool) | int (i : Int) | str (x : Str)
  | tup (ds : List D) | lst (ds : List D) | dic (ks : List Key) (ds : List D)
  | ins (c : Str) (fs : List Str) (ds : List D)
  | loc (n : Nat) | glo (x : Str) | fls (ds : List D) | exn (a : Addr)
  | exo (c : Str) (ns : List Str) (ds : List D)
  | lam (i : Nat) (q : Str) (ob : Addr → Value → Value → Obj)
inductive Cell where
  | lst (ds : List D) | frz (ds : List D) | dead
  | tab (x : Str) | sys
  | gst (ρ : List (Option D)) (σ : L2.St)
  | ob (c : Str) (fs : List Str) (ds : List D)
  | dct (ks : List NestedKey) (ds : List D)
abbrev Store := List Cell
/-- what is raised: the class's name, its own fields -/
structure Ex where
  cls : Str
  ns : List Str := []
  ds : List D := []
inductive RE (α : Type) where
  | ok (a : α) (S : Store) | ex (x : Ex) (S : Store) | no
def RE.bnd {α β : Type} (m : RE α) (f : α → Store → RE β) : RE β := match m with
  | .ok a S => f a S
  | .ex x S => .ex x S
  | .no => .no
abbrev FEnv := List (Option D)
abbrev FE := FEnv → Store → RE D
abbrev FT := FEnv → Store → RE Bool
abbrev FA := FEnv → Store → RE (List D)
/-- the addresses of the store's cells (none: dead); hd: objects that no value leads to -/
structure Wd where
  φ : List (Option Addr)
  hd : List Addr
/-- a is no cell, and not hidden -/
def Wd.Off (w : Wd) (a : Addr) : Prop := (¬ some a ∈ w.φ) ∧ ¬ a ∈ w.hd
/-- the world of the run (a text's hash is its word) -/
class Wo where
  ww : World
mutual
/-- the key that a tree is -/
def keyOf : D → Option NestedKey
  | .non => some .none
  | .int i => some (.num i)
  | .str x => some (.text x)
  | .tup ds => (keysOf ds).map .tup
  | _ => none
def keysOf : List D → Option (List NestedKey)
  | [] => some []
  | d :: ds => match keyOf d, keysOf ds with
    | some k, some r => some (k :: r)
    | _, _ => none
end
/-- a dict's entries: key, the key's value, what it leads to -/
abbrev DEnt := List (NestedKey × V × V)
def entV (ww : World) (x : NestedKey × Value × Value) : DictEntry := ⟨x.1.hash ww, x.2.1, x.2.2⟩
/-- the one object at a: a dict of these entries -/
def DctP (ww : World) (a : Addr) (es : DEnt) (h : Heap) : Prop := (a == sysModules) = false ∧ ∃ vs : List (NestedKey × Value × Value), Paired (fun (p : NestedKey × V × V) (q : NestedKey × Value × Value) => p.1 = q.1 ∧ RelV p.2.1 q.2.1 ∧ RelV p.2.2 q.2.2) es vs ∧
  ∃ o en ep, h.get? a = some o ∧ o.ExactDict ∧ o.data = .dict en ep ∧ en.toList = vs.map (entV ww)
def DctO (ww : World) (a : Addr) (es : DEnt) : HO := .ext (DctP ww a es)
section
variable (K : PySem.W.Frag) (mg : Str → Option Value)
/-- a list that is not changed any more, by the model's own word -/
def Fp (w : Wd) (H : Hp) (a : Addr) (xs : List V) : Prop :=
  (∃ o, H a = some (.frz o (.lst xs)) ∧ w.Off a) ∨
    ∃ (o : Obj) (its : Array Value) (n : Nat), K.lookup a = some o ∧ o.cls = .type "list" ∧ o.dict = none ∧ o.data = .seq its n ∧ its.size ≤ sizeLine ∧ Vals xs its.toList
/-- a tuple that stands -/
def Tp (w : Wd) (H : Hp) (a : Addr) (xs : List V) : Prop :=
  (H a = some (.tup xs) ∧ w.Off a) ∨
    ∃ (o : Obj) (its : Array Value) (n : Nat), K.lookup a = some o ∧ o.cls = .type "tuple" ∧ o.data = .seq its n ∧ its.size ≤ sizeLine ∧ Vals xs its.toList
/-- the one object at f -/
def LamO (f : Addr) (o : Obj) : HO := .ext fun h => h.get? f = some o
/-- an exception object that nobody raised: its class, its dict -/
def ExOd (cls : Value) (od : Option Addr) (a : Addr) : HO := .ext fun h => ∃ (oe : Obj) (vs : Array Value), h.get? a = some oe ∧ Zc cls od oe ∧ oe.data = .fields vs ∧ vs[1]? = some .none ∧ vs[2]? = some .none ∧ 4 < vs.size
mutual
/-- the tree d lies at v -/
def Rp (w : Wd) (H : Hp) : D → V → Prop
  | .non, v => v = .non
  | .bl b, v => v = .bl b
  | .int i, v => v = .int i
  | .str x, v => v = .str x
  | .tup ds, v => ∃ a xs, v = .ref a ∧ Tp K w H a xs ∧ RpL w H ds xs
  | .lst ds, v => ∃ a xs, v = .ref a ∧ H a = some (.lst xs) ∧ w.Off a ∧ RpL w H ds xs
  | .dic ks ds, v => ∃ a vs, v = .ref a ∧ H a = some (.dK (ks.zip vs)) ∧ w.Off a ∧ ks.length = vs.length ∧ RpL w H ds vs
  | .ins c fs ds, v => ∃ a C dx vs, v = .ref a ∧ mg c = some (.ref C) ∧ H a = some (.ins C dx (fs.zip vs)) ∧ w.Off a ∧ fs.length = vs.length ∧ RpL w H ds vs
  | .loc n, v => n < w.φ.length ∧ ∀ a, w.φ[n]? = some (some a) → v = .ref a
  | .glo x, v => ∃ a, v = .ref a ∧ mg x = some (.ref a)
  | .exn a, v => v = .ref a
  | .fls ds, v => ∃ a xs, v = .ref a ∧ Fp K w H a xs ∧ RpL w H ds xs
  | .lam _ q ob, v => ∃ f c' pm ctv, v = .ref f ∧ H f = some (LamO f (ob c' pm ctv)) ∧ w.Off f ∧ H c' = some (LamX.CodeO c' q) ∧ w.Off c'
  | .exo c ns ds, v => ∃ a C od vs, v = .ref a ∧ mg c = some (.ref C) ∧ H a = some (ExOd (.ref C) od a) ∧ w.Off a ∧ (od = none ↔ ns = []) ∧ (∀ d, od = some d → H d = some (.xd (ns.zip vs)) ∧ w.Off d) ∧ ns.length = vs.length ∧ RpL w H ds vs
def RpL (w : Wd) (H : Hp) : List D → List V → Prop
  | [], vs => vs = []
  | d :: ds, vs => ∃ v r, vs = v :: r ∧ Rp w H d v ∧ RpL w H ds r
end
/-- the world goes on -/
structure Ext (w : Wd) (H : Hp) (w' : Wd) (H' : Hp) : Prop where
  fr : ∀ a o, H a = some o → some a ∉ w.φ → H' a = some o
  ln : w.φ.length ≤ w'.φ.length
  ph : ∀ (n : Nat) a, w'.φ[n]? = some (some a) → n < w.φ.length → w.φ[n]? = some (some a)
  nw : ∀ a, some a ∈ w'.φ → some a ∈ w.φ ∨ H a = none
  hd : w'.hd = w.hd
/-- what is known of the modules' table: a dict -/
def SysQ (φ : Heap → Prop) : Prop := ∀ h, φ h → ∃ o es n, h.get? sysModules = some o ∧ o.data = .dict es n
/-- a table of code objects lies at P, all of the name q -/
def TabW (w : Wd) (H : Hp) (P : Addr) (q : Str) : Prop := ∃ ps : Array Value, H P = some (.tbl ps) ∧ TriplesOk ps.toList ∧ ∀ (pos : Pos) (cv : Value), codeAmong pos ps.toList = some cv → ∃ c, cv = .ref c ∧ H c = some (LamX.CodeO c q) ∧ w.Off c
/-- the name that the lambdas of the def x bear -/
def tabQ (x : Str) : Str := x ++ ".<locals>." ++ "<lambda>"
/-- the slots -/
structure EnvR (w : Wd) (H : Hp) (ρ : FEnv) (σ : L2.St) : Prop where
  len : ρ.length = σ.length
  at_ : ∀ (i : Nat) d, ρ[i]? = some (some d) → ∃ v, σ[i]? = some (some v) ∧ Rp K mg w H d v
def CellR [Wo] (w : Wd) (H : Hp) (c : Cell) (n : Nat) : Prop := match c with
  | .lst ds => ∃ a xs, w.φ[n]? = some (some a) ∧ H a = some (.lst xs) ∧ RpL K mg w H ds xs
  | .frz ds => ∃ a xs o, w.φ[n]? = some (some a) ∧ H a = some (.frz o (.lst xs)) ∧ RpL K mg w H ds xs
  | .dead => w.φ[n]? = some none
  | .tab x => ∃ c P, PySem.W.tabIn K x = some (c, P) ∧ w.φ[n]? = some (some P) ∧ TabW w H P (tabQ x)
  | .sys => w.φ[n]? = some none ∧ sysModules ∈ w.hd ∧ some sysModules ∉ w.φ ∧ (∃ φ, H sysModules = some (.ext φ) ∧ SysQ φ) ∧ K.lookup sysModules = none
  | .gst ρ σ => w.φ[n]? = some none ∧ EnvR K mg w H ρ σ
  | .ob c fs ds => ∃ a C dx vs, w.φ[n]? = some (some a) ∧ mg c = some (.ref C) ∧ H a = some (.ins C dx (fs.zip vs)) ∧ fs.length = vs.length ∧ RpL K mg w H ds vs
  | .dct ks ds => ∃ a es, w.φ[n]? = some (some a) ∧ H a = some (DctO Wo.ww a es) ∧ es.map (·.1) = ks ∧ ks.Nodup ∧ (∀ x ∈ es, x.1.depth ≤ 8 ∧ ∃ d, keyOf d = some x.1 ∧ Rp K mg w H d x.2.1) ∧ RpL K mg w H ds (es.map (·.2.2))
/-- the store lies in the heap -/
structure Sto [Wo] (w : Wd) (S : Store) (H : Hp) : Prop where
  len : w.φ.length = S.length
  nd : ∀ (m n : Nat) a, w.φ[m]? = some (some a) → w.φ[n]? = some (some a) → m = n
  ap : ∀ a, a ∈ w.hd → H a ≠ none ∧ some a ∉ w.φ
  cell : ∀ (n : Nat) c, S[n]? = some c → CellR K mg w H c n
/-- the exception -/
def ExR (w : Wd) (H : Hp) (x : Ex) (c : Value) (od : Option Addr) : Prop :=
  mg x.cls = some c ∧ ((x.ns = [] ∧ x.ds = [] ∧ od = none) ∨ ∃ d vs, x.ns ≠ [] ∧ od = some d ∧ H d = some (.xd (x.ns.zip vs)) ∧ w.Off d ∧ x.ns.length = vs.length ∧ RpL K mg w H x.ds vs)
/-- what a result gives -/
def End [Wo] {α β : Type} (R : Wd → Hp → α → β → Prop) (w : Wd) (H : Hp) (r : RE α) (Q : β → Hp → Prop) (E : Value → Option Addr → Hp → Prop) : Prop :=
  match r with
  | .ok a S' => ∀ w' H' b, Ext w H w' H' → Sto K mg w' S' H' → R w' H' a b → Q b H'
  | .ex x S' => ∀ w' H' c od, Ext w H w' H' → Sto K mg w' S' H' → ExR K mg w' H' x c od → E c od H'
  | .no => False
end
/-- readings by functions over trees -/
def tF [Wo] (X : Cx) (W : WX) (f : FE) : TE := fun σ H Q => ∃ w ρ S, Sto X.K X.mg w S H ∧ EnvR X.K X.mg w H ρ σ ∧ End X.K X.mg (fun w H => Rp X.K X.mg w H) w H (f ρ S) Q (fun c od H' => W c od σ H')
def tT [Wo] (X : Cx) (W : WX) (f : FT) : TT := fun σ H Q => ∃ w ρ S, Sto X.K X.mg w S H ∧ EnvR X.K X.mg w H ρ σ ∧ End X.K X.mg (fun _ _ (a b : Bool) => b = a) w H (f ρ S) Q (fun c od H' => W c od σ H')
def tA [Wo] (X : Cx) (W : WX) (f : FA) : TA := fun σ H Q => ∃ w ρ S, Sto X.K X.mg w S H ∧ EnvR X.K X.mg w H ρ σ ∧ End X.K X.mg (fun w H => RpL X.K X.mg w H) w H (f ρ S) Q (fun c od H' => W c od σ H')
section
variable {K : PySem.W.Frag} {mg : Str → Option Value} {w w' w'' : Wd} {H H' H'' : Hp} {S : Store}
theorem Ext.refl : Ext w H w H := ⟨fun _ _ h _ => h, Nat.le_refl _, fun _ _ h _ => h, fun _ h => .inl h, rfl⟩
theorem Ext.trans (a : Ext w H w' H') (b : Ext w' H' w'' H'') : Ext w H w'' H'' where
  fr := fun c o h n => b.fr c o (a.fr c o h n) fun z => by
    rcases a.nw c z with z | z
    · exact n z
    · rw [h] at z; cases z
  ln := Nat.le_trans a.ln b.ln
  ph := fun n c h l => a.ph n c (b.ph n c h (Nat.lt_of_lt_of_le l a.ln)) l
  nw := fun c h => by
    rcases b.nw c h with z | z
    · exact a.nw c z
    · by_cases q : some c ∈ w.φ
      · exact .inl q
      · cases e : H c with
        | none => exact .inr rfl
        | some o => rw [a.fr c o e q] at z; cases z
  hd := b.hd.trans a.hd
theorem Ext.out {a : Addr} {o : HO} (e : Ext w H w' H') (h : H a = some o) (n : w.Off a) : w'.Off a := by
  refine ⟨fun z => ?_, by rw [e.hd]; exact n.2⟩
  rcases e.nw _ z with z | z
  · exact n.1 z
  · rw [h] at z; cases z
theorem Tp.ext {a : Addr} {xs : List V} (e : Ext w H w' H') (h : Tp K w H a xs) : Tp K w' H' a xs := by
  rcases h with ⟨h, n⟩ | h
  · exact .inl ⟨e.fr _ _ h n.1, e.out h n⟩
  · exact .inr h
theorem Fp.ext {a : Addr} {xs : List V} (e : Ext w H w' H') (h : Fp K w H a xs) : Fp K w' H' a xs := by
  rcases h with ⟨o, h, n⟩ | h
  · exact .inl ⟨o, e.fr _ _ h n.1, e.out h n⟩
  · exact .inr h
mutual
theorem Rp.ext (e : Ext w H w' H') : ∀ (d : D) (v : V), Rp K mg w H d v → Rp K mg w' H' d v
  | .non, _, h => by unfold Rp at h ⊢; exact h
  | .bl _, _, h => by unfold Rp at h ⊢; exact h
  | .int _, _, h => by unfold Rp at h ⊢; exact h
  | .str _, _, h => by unfold Rp at h ⊢; exact h
  | .tup ds, v, h => by
    unfold Rp at h ⊢
    obtain ⟨a, xs, e1, t, r⟩ := h
    exact ⟨a, xs, e1, t.ext e, RpL.ext e ds xs r⟩
  | .lst ds, v, h => by
    unfold Rp at h ⊢
    obtain ⟨a, xs, e1, t, n, r⟩ := h
    exact ⟨a, xs, e1, e.fr _ _ t n.1, e.out t n, RpL.ext e ds xs r⟩
  | .dic ks ds, v, h => by
    unfold Rp at h ⊢
    obtain ⟨a, vs, e1, t, n, l, r⟩ := h
    exact ⟨a, vs, e1, e.fr _ _ t n.1, e.out t n, l, RpL.ext e ds vs r⟩
  | .ins c fs ds, v, h => by
    unfold Rp at h ⊢
    obtain ⟨a, C, dx, vs, e1, m, t, n, l, r⟩ := h
    exact ⟨a, C, dx, vs, e1, m, e.fr _ _ t n.1, e.out t n, l, RpL.ext e ds vs r⟩
  | .loc n, v, h => by
    unfold Rp at h ⊢
    exact ⟨Nat.lt_of_lt_of_le h.1 e.ln, fun a q => h.2 a (e.ph n a q h.1)⟩
  | .glo _, _, h => by unfold Rp at h ⊢; exact h
  | .exn _, _, h => by unfold Rp at h ⊢; exact h
  | .fls ds, v, h => by
    unfold Rp at h ⊢
    obtain ⟨a, xs, e1, t, r⟩ := h
    exact ⟨a, xs, e1, t.ext e, RpL.ext e ds xs r⟩
  | .lam i q ob, v, h => by
    unfold Rp at h ⊢
    obtain ⟨f, c', pm, ctv, e1, t, n, t2, n2⟩ := h
    exact ⟨f, c', pm, ctv, e1, e.fr _ _ t n.1, e.out t n, e.fr _ _ t2 n2.1, e.out t2 n2⟩
  | .exo c ns ds, v, h => by
    unfold Rp at h ⊢
    obtain ⟨a, C, od, vs, e1, m, t, n, z, q, l, r⟩ := h
    exact ⟨a, C, od, vs, e1, m, e.fr _ _ t n.1, e.out t n, z, fun d hd => ⟨e.fr _ _ (q d hd).1 (q d hd).2.1, e.out (q d hd).1 (q d hd).2⟩, l, RpL.ext e ds vs r⟩
theorem RpL.ext (e : Ext w H w' H') : ∀ (ds : List D) (vs : List V), RpL K mg w H ds vs → RpL K mg w' H' ds vs
  | [], _, h => by unfold RpL at h ⊢; exact h
  | d :: ds, vs, h => by
    unfold RpL at h ⊢
    obtain ⟨v, r, e1, h1, h2⟩ := h
    exact ⟨v, r, e1, Rp.ext e d v h1, RpL.ext e ds r h2⟩
end
theorem RpL.length : ∀ {ds : List D} {vs : List V}, RpL K mg w H ds vs → ds.length = vs.length
  | [], _, h => by unfold RpL at h; subst h; rfl
  | d :: ds, vs, h => by
    unfold RpL at h
    obtain ⟨v, r, e1, _, h2⟩ := h
    rw [e1, List.length_cons, List.length_cons, RpL.length h2]
theorem RpL.append : ∀ {ds es : List D} {vs us : List V}, RpL K mg w H ds vs → RpL K mg w H es us → RpL K mg w H (ds ++ es) (vs ++ us)
  | [], _, _, _, h, k => by unfold RpL at h; rw [h]; exact k
  | d :: ds, es, vs, us, h, k => by
    unfold RpL at h
    obtain ⟨v, r, e1, h1, h2⟩ := h
    rw [List.cons_append]; unfold RpL
    exact ⟨v, r ++ us, by rw [e1, List.cons_append], h1, RpL.append h2 k⟩
theorem RpL.get : ∀ {ds : List D} {vs : List V} {i : Nat} {d : D}, RpL K mg w H ds vs → ds[i]? = some d → ∃ v, vs[i]? = some v ∧ Rp K mg w H d v
  | [], _, _, _, _, e => by simp at e
  | d :: ds, vs, 0, _, h, e => by
    unfold RpL at h
    obtain ⟨v, r, e1, h1, _⟩ := h
    simp at e
    exact ⟨v, by rw [e1]; rfl, e ▸ h1⟩
  | d :: ds, vs, i + 1, _, h, e => by
    unfold RpL at h
    obtain ⟨v, r, e1, _, h2⟩ := h
    obtain ⟨u, h3, h4⟩ := RpL.get (i := i) h2 (by simpa using e)
    exact ⟨u, by rw [e1]; simpa using h3, h4⟩
theorem RpL.drop : ∀ {ds : List D} {vs : List V} (n : Nat), RpL K mg w H ds vs → RpL K mg w H (ds.drop n) (vs.drop n)
  | _, _, 0, h => h
  | [], vs, n + 1, h => by unfold RpL at h; rw [h]; simp; unfold RpL; rfl
  | d :: ds, vs, n + 1, h => by
    unfold RpL at h
    obtain ⟨v, r, e1, _, h2⟩ := h
    rw [e1]; exact RpL.drop n h2
theorem RpL.take : ∀ {ds : List D} {vs : List V} (n : Nat), RpL K mg w H ds vs → RpL K mg w H (ds.take n) (vs.take n)
  | _, _, 0, h => by simp; unfold RpL; rfl
  | [], vs, n + 1, h => by unfold RpL at h; rw [h]; simp; unfold RpL; rfl
  | d :: ds, vs, n + 1, h => by
    unfold RpL at h
    obtain ⟨v, r, e1, h1, h2⟩ := h
    rw [e1, List.take_succ_cons, List.take_succ_cons]; unfold RpL
    exact ⟨v, _, rfl, h1, RpL.take n h2⟩
theorem RpL.set : ∀ {ds : List D} {vs : List V} {d : D} {v : V} (i : Nat), RpL K mg w H ds vs → Rp K mg w H d v → RpL K mg w H (ds.set i d) (vs.set i v)
  | [], vs, _, _, _, h, _ => by unfold RpL at h; rw [h]; simp; unfold RpL; rfl
  | d :: ds, vs, e, u, 0, h, k => by
    unfold RpL at h
    obtain ⟨v, r, e1, h1, h2⟩ := h
    rw [e1, List.set_cons_zero, List.set_cons_zero]; unfold RpL
    exact ⟨u, r, rfl, k, h2⟩
  | d :: ds, vs, e, u, i + 1, h, k => by
    unfold RpL at h
    obtain ⟨v, r, e1, h1, h2⟩ := h
    rw [e1, List.set_cons_succ, List.set_cons_succ]; unfold RpL
    exact ⟨v, _, rfl, h1, RpL.set i h2 k⟩
theorem RpL.one {d : D} {v : V} (h : Rp K mg w H d v) : RpL K mg w H [d] [v] := by unfold RpL; exact ⟨v, [], rfl, h, by unfold RpL; rfl⟩
theorem RpL.nil : RpL K mg w H [] [] := by unfold RpL; rfl
theorem RpL.cons {d : D} {v : V} {ds : List D} {vs : List V} (h : Rp K mg w H d v) (t : RpL K mg w H ds vs) : RpL K mg w H (d :: ds) (v :: vs) := by unfold RpL; exact ⟨v, vs, rfl, h, t⟩
theorem RpL.nil_iff {ds : List D} {vs : List V} (h : RpL K mg w H ds vs) : ds = [] ↔ vs = [] := by
  have e := h.length
  constructor
  · rintro rfl; exact List.eq_nil_of_length_eq_zero e.symm
  · rintro rfl; exact List.eq_nil_of_length_eq_zero e
theorem RpL.one_inv {d : D} {vs : List V} (h : RpL K mg w H [d] vs) : ∃ v, vs = [v] ∧ Rp K mg w H d v := by
  unfold RpL at h
  obtain ⟨v, r, e1, h1, h2⟩ := h
  unfold RpL at h2
  exact ⟨v, by rw [e1, h2], h1⟩
theorem EnvR.ext {ρ : FEnv} {σ : L2.St} (e : Ext w H w' H') (h : EnvR K mg w H ρ σ) : EnvR K mg w' H' ρ σ := ⟨h.len, fun i d q => by
  obtain ⟨v, h1, h2⟩ := h.at_ i d q
  exact ⟨v, h1, Rp.ext e _ _ h2⟩⟩
theorem Sto.tracked [Wo] (s : Sto K mg w S H) {a : Addr} (h : some a ∈ w.φ) : H a ≠ none := by
  obtain ⟨n, hn, e⟩ := List.mem_iff_getElem.mp h
  have h1 : w.φ[n]? = some (some a) := by rw [List.getElem?_eq_getElem hn, e]
  have hs : n < S.length := s.len ▸ hn
  have c := s.cell n S[n] (List.getElem?_eq_getElem hs)
  unfold CellR at c
  split at c
  · obtain ⟨b, xs, h2, h3, _⟩ := c
    rw [h1] at h2; cases h2; rw [h3]; exact fun z => nomatch z
  · obtain ⟨b, xs, o, h2, h3, _⟩ := c
    rw [h1] at h2; cases h2; rw [h3]; exact fun z => nomatch z
  · rw [h1] at c; cases c
  · obtain ⟨_, _, _, h2, ps, h3, _⟩ := c
    rw [h1] at h2; cases h2; rw [h3]; exact fun z => nomatch z
  · rw [h1] at c; cases c.1
  · rw [h1] at c; cases c.1
  · obtain ⟨b, C, dx, vs, h2, _, h3, _⟩ := c
    rw [h1] at h2; cases h2; rw [h3]; exact fun z => nomatch z
  · obtain ⟨b, es, h2, h3, _⟩ := c
    rw [h1] at h2; cases h2; rw [h3]; exact fun z => nomatch z
theorem Sto.new [Wo] (s : Sto K mg w S H) {p : Addr} (h : H p = none) : w.Off p := ⟨fun z => s.tracked z h, fun z => (s.ap p z).1 h⟩
theorem Ext.new {p : Addr} {o : HO} (h : H p = none) : Ext w H w (upd H p o) := ⟨fun a u e _ => by rw [upd_ne (ne_of_none e h)]; exact e, Nat.le_refl _, fun _ _ h _ => h, fun _ h => .inl h, rfl⟩
theorem CellR.ext [Wo] {c : Cell} {n : Nat} (e : Ext w H w' H') (hw : ∀ a, w.φ[n]? = some (some a) → w'.φ[n]? = some (some a) ∧ H' a = H a) (hd : w.φ[n]? = some none → w'.φ[n]? = some none) (h : CellR K mg w H c n) : CellR K mg w' H' c n := by
  unfold CellR at h ⊢
  split at h
  · obtain ⟨b, xs, h2, h3, h4⟩ := h
    exact ⟨b, xs, (hw b h2).1, by rw [(hw b h2).2]; exact h3, RpL.ext e _ _ h4⟩
  · obtain ⟨b, xs, o, h2, h3, h4⟩ := h
    exact ⟨b, xs, o, (hw b h2).1, by rw [(hw b h2).2]; exact h3, RpL.ext e _ _ h4⟩
  · exact hd h
  · obtain ⟨c0, P, ht, h2, ps, h3, h4, h5⟩ := h
    refine ⟨c0, P, ht, (hw _ h2).1, ps, by rw [(hw _ h2).2]; exact h3, h4, fun pos cv hc => ?_⟩
    obtain ⟨c, e1, e2, e3⟩ := h5 pos cv hc
    exact ⟨c, e1, e.fr _ _ e2 e3.1, e.out e2 e3⟩
  · obtain ⟨h1, h2, h3, ⟨φ, h4, h6⟩, h5⟩ := h
    refine ⟨hd h1, by rw [e.hd]; exact h2, fun z => ?_, ⟨φ, e.fr _ _ h4 h3, h6⟩, h5⟩
    rcases e.nw _ z with z | z
    · exact h3 z
    · rw [h4] at z; cases z
  · exact ⟨hd h.1, EnvR.ext e h.2⟩
  · obtain ⟨b, C, dx, vs, h2, h3, h4, h5, h6⟩ := h
    exact ⟨b, C, dx, vs, (hw b h2).1, h3, by rw [(hw b h2).2]; exact h4, h5, RpL.ext e _ _ h6⟩
  · obtain ⟨b, es, h2, h3, h4, h5, h6, h7⟩ := h
    exact ⟨b, es, (hw b h2).1, by rw [(hw b h2).2]; exact h3, h4, h5, fun x hx => ⟨(h6 x hx).1, let ⟨d, q1, q2⟩ := (h6 x hx).2; ⟨d, q1, Rp.ext e _ _ q2⟩⟩, RpL.ext e _ _ h7⟩
theorem upd_some {p a : Addr} {o : HO} (h : H a ≠ none) : upd H p o a ≠ none := by
  by_cases e : a = p
  · subst e; rw [upd_same]; exact fun z => nomatch z
  · rw [upd_ne e]; exact h
/-- a new object beside -/
theorem Sto.beside [Wo] {p : Addr} {o : HO} (s : Sto K mg w S H) (h : H p = none) : Sto K mg w S (upd H p o) := ⟨s.len, s.nd, fun a ha => ⟨upd_some (s.ap a ha).1, (s.ap a ha).2⟩, fun n c q => CellR.ext (Ext.new h) (fun a ha => ⟨ha, by
  have : a ≠ p := fun z => by subst z; exact (s.new h).1 (List.mem_of_getElem? ha)
  rw [upd_ne this]⟩) id (s.cell n c q)⟩
end
section
variable {K : PySem.W.Frag} {mg : Str → Option Value} {α β γ δ : Type} {R : Wd → Hp → α → β → Prop} {R' : Wd → Hp → γ → δ → Prop} {w w1 : Wd} {H H1 : Hp} {r : RE α} {E : Value → Option Addr → Hp → Prop}
theorem End.imp [Wo] {Q Q' : β → Hp → Prop} {E' : Value → Option Addr → Hp → Prop} (h : End K mg R w H r Q E) (hq : ∀ b H', Q b H' → Q' b H') (he : ∀ c od H', E c od H' → E' c od H') : End K mg R w H r Q' E' := by
  unfold End at h ⊢
  split
  · exact fun w' H' b e s k => hq _ _ (h w' H' b e s k)
  · exact fun w' H' b od e s k => he _ _ _ (h w' H' b od e s k)
  · exact h
theorem End.on [Wo] {Q : β → Hp → Prop} (x : Ext w H w1 H1) (h : End K mg R w H r Q E) : End K mg R w1 H1 r Q E := by
  unfold End at h ⊢
  split
  · exact fun w' H' b e s k => h w' H' b (x.trans e) s k
  · exact fun w' H' b od e s k => h w' H' b od (x.trans e) s k
  · exact h
/-- one after the other -/
theorem End.bind [Wo] {k : α → Store → RE γ} {Q : δ → Hp → Prop} (h : End K mg R' w H (r.bnd k) Q E) :
    End K mg R w H r (fun b H1 => ∃ w1 S1 a, Ext w H w1 H1 ∧ Sto K mg w1 S1 H1 ∧ R w1 H1 a b ∧ End K mg R' w1 H1 (k a S1) Q E) E := by
  cases r with
  | ok a S1 =>
    have h' : End K mg R' w H (k a S1) Q E := h
    exact fun w' H' b e s kk => ⟨w', S1, a, e, s, kk, h'.on e⟩
  | ex x S1 => exact h
  | no => exact h
theorem End.ret [Wo] {Q : β → Hp → Prop} {a : α} {b : β} {S : Store} (h : End K mg R w H (.ok a S) Q E) (s : Sto K mg w S H) (k : R w H a b) : Q b H := h w H b Ext.refl s k
end
section
variable {X : Cx} {W : WX}
theorem PE.wk {e : Expr} {t t' : TE} (h : PE X e t) (m : ∀ σ H Q, t' σ H Q → t σ H Q) : PE X e t' := ⟨fun pins s σ H Q I k => h.run pins s σ H Q I (m σ H Q k)⟩
theorem PT.wk {e : Expr} {t t' : TT} (h : PT X e t) (m : ∀ σ H Q, t' σ H Q → t σ H Q) : PT X e t' := ⟨fun pins s σ H Q I k => h.run pins s σ H Q I (m σ H Q k)⟩
theorem PW.wk {e : Expr} {t t' : TT} (h : PW X e t) (m : ∀ σ H Q, t' σ H Q → t σ H Q) : PW X e t' := ⟨fun wh pins s σ H Q I k => h.run wh pins s σ H Q I (m σ H Q k)⟩
theorem PA.wk {e : List Expr} {t t' : TA} (h : PA X e t) (m : ∀ σ H Q, t' σ H Q → t σ H Q) : PA X e t' := ⟨fun pos pins s σ H Q I k => h.run pos pins s σ H Q I (m σ H Q k)⟩
theorem PS.wk {e : Stmt} {t t' : TS} (h : PS X e t) (m : ∀ D σ H, t' D σ H → t D σ H) : PS X e t' := ⟨fun pins s σ H D I k => h.run pins s σ H D I (m D σ H k)⟩
theorem PSs.wk {e : List Stmt} {t t' : TS} (h : PSs X e t) (m : ∀ D σ H, t' D σ H → t D σ H) : PSs X e t' := ⟨fun pins s σ H D I k => h.run pins s σ H D I (m D σ H k)⟩
end
end Kw
namespace Kw
open PySem PySem.Spec PyProof.Rows L2
def cellOf (S : Store) (n : Nat) : Option (List D) := match S[n]? with
  | some (.lst ds) => some ds
  | some (.frz ds) => some ds
  | _ => none
def cellM (S : Store) (n : Nat) : Option (List D) := match S[n]? with
  | some (.lst ds) => some ds
  | _ => none
/-- a list that is read -/
def seqL (S : Store) : D → Option (List D)
  | .lst ds => some ds
  | .fls ds => some ds
  | .loc n => cellOf S n
  | _ => none
/-- a list that is no locked one -/
def seqM (S : Store) : D → Option (List D)
  | .lst ds => some ds
  | .loc n => cellM S n
  | _ => none
/-- a list or a tuple -/
def seqA (S : Store) : D → Option (List D)
  | .lst ds => some ds
  | .fls ds => some ds
  | .loc n => cellOf S n
  | .tup ds => some ds
  | _ => none
mutual
def py0 : D → Option PyData
  | .non => some .none
  | .bl b => some (.bool b)
  | .int i => some (.int i)
  | .str x => some (.str x)
  | .tup ds => (py0L ds).map .tuple
  | .lst ds => (py0L ds).map .list
  | .fls ds => (py0L ds).map .list
  | _ => none
def py0L : List D → Option (List PyData)
  | [] => some []
  | d :: ds => (py0 d).bind fun a => (py0L ds).map (a :: ·)
end
mutual
/-- a value as plain data -/
def pyS (S : Store) : D → Option PyData
  | .non => some .none
  | .bl b => some (.bool b)
  | .int i => some (.int i)
  | .str x => some (.str x)
  | .tup ds => (pySL S ds).map .tuple
  | .lst ds => (pySL S ds).map .list
  | .fls ds => (pySL S ds).map .list
  | .loc n => ((cellOf S n).bind py0L).map .list
  | _ => none
def pySL (S : Store) : List D → Option (List PyData)
  | [] => some []
  | d :: ds => (pyS S d).bind fun a => (pySL S ds).map (a :: ·)
end
section
variable {K : PySem.W.Frag} {mg : Str → Option Value} {w : Wd} {H : Hp} {S : Store}
theorem cellOf_at [Wo] (s : Sto K mg w S H) {n : Nat} {ds : List D} (h : cellOf S n = some ds) : ∃ a xs, w.φ[n]? = some (some a) ∧ Rd H a (.lst xs) ∧ RpL K mg w H ds xs := by
  unfold cellOf at h
  split at h
  · rename_i e he
    cases h
    obtain ⟨a, xs, h1, h2, h3⟩ := s.cell n _ he
    exact ⟨a, xs, h1, .inl h2, h3⟩
  · rename_i e he
    cases h
    obtain ⟨a, xs, o, h1, h2, h3⟩ := s.cell n _ he
    exact ⟨a, xs, h1, .inr ⟨o, h2⟩, h3⟩
  · cases h
theorem cellM_at [Wo] (s : Sto K mg w S H) {n : Nat} {ds : List D} (h : cellM S n = some ds) : ∃ a xs, w.φ[n]? = some (some a) ∧ H a = some (.lst xs) ∧ RpL K mg w H ds xs := by
  unfold cellM at h
  split at h
  · rename_i e he
    cases h
    obtain ⟨a, xs, h1, h2, h3⟩ := s.cell n _ he
    exact ⟨a, xs, h1, h2, h3⟩
  · cases h
theorem Fp.sq {a : Addr} {xs : List V} (h : Fp K w H a xs) : SqL K H a xs := by
  rcases h with ⟨o, h, _⟩ | h
  · exact .inl (.inr ⟨o, h⟩)
  · exact .inr h
theorem seqL_at [Wo] (s : Sto K mg w S H) {d : D} {v : V} {ds : List D} (r : Rp K mg w H d v) (h : seqL S d = some ds) : ∃ a xs, v = .ref a ∧ SqL K H a xs ∧ RpL K mg w H ds xs := by
  cases d <;> simp only [seqL] at h <;> try (cases h; done)
  · cases h
    unfold Rp at r
    obtain ⟨a, xs, e, t, _, q⟩ := r
    exact ⟨a, xs, e, .of t, q⟩
  · obtain ⟨a, xs, h1, h2, h3⟩ := cellOf_at s h
    unfold Rp at r
    exact ⟨a, xs, r.2 a h1, .inl h2, h3⟩
  · cases h
    unfold Rp at r
    obtain ⟨a, xs, e, t, q⟩ := r
    exact ⟨a, xs, e, t.sq, q⟩
theorem seqM_at [Wo] (s : Sto K mg w S H) {d : D} {v : V} {ds : List D} (r : Rp K mg w H d v) (h : seqM S d = some ds) : ∃ a xs, v = .ref a ∧ H a = some (.lst xs) ∧ RpL K mg w H ds xs := by
  cases d <;> simp only [seqM] at h <;> try (cases h; done)
  · cases h
    unfold Rp at r
    obtain ⟨a, xs, e, t, _, q⟩ := r
    exact ⟨a, xs, e, t, q⟩
  · obtain ⟨a, xs, h1, h2, h3⟩ := cellM_at s h
    unfold Rp at r
    exact ⟨a, xs, r.2 a h1, h2, h3⟩
theorem Tp.sq {a : Addr} {xs : List V} (h : Tp K w H a xs) : SqT K H a xs := by
  rcases h with ⟨h, _⟩ | h
  · exact .of h
  · exact .inr h
theorem tup_at {ds : List D} {v : V} (r : Rp K mg w H (.tup ds) v) : ∃ a xs, v = .ref a ∧ SqT K H a xs ∧ RpL K mg w H ds xs := by
  unfold Rp at r
  obtain ⟨a, xs, e, t, q⟩ := r
  exact ⟨a, xs, e, t.sq, q⟩
theorem seqA_at [Wo] (s : Sto K mg w S H) {d : D} {v : V} {ds : List D} (r : Rp K mg w H d v) (h : seqA S d = some ds) : ∃ a xs, v = .ref a ∧ (SqL K H a xs ∨ SqT K H a xs) ∧ RpL K mg w H ds xs := by
  cases d <;> simp only [seqA] at h <;> try (cases h; done)
  · cases h
    obtain ⟨a, xs, e, t, q⟩ := tup_at r
    exact ⟨a, xs, e, .inr t, q⟩
  · cases h
    unfold Rp at r
    obtain ⟨a, xs, e, t, _, q⟩ := r
    exact ⟨a, xs, e, .inl (.of t), q⟩
  · obtain ⟨a, xs, h1, h2, h3⟩ := cellOf_at s h
    unfold Rp at r
    exact ⟨a, xs, r.2 a h1, .inl (.inl h2), h3⟩
  · cases h
    unfold Rp at r
    obtain ⟨a, xs, e, t, q⟩ := r
    exact ⟨a, xs, e, .inl t.sq, q⟩
mutual
theorem py0_at : ∀ (d : D) (v : V) (p : PyData), Rp K mg w H d v → py0 d = some p → Dp K H v p
  | .non, v, p, r, h => by unfold Rp at r; simp only [py0] at h; cases h; subst r; exact .non
  | .bl _, v, p, r, h => by unfold Rp at r; simp only [py0] at h; cases h; subst r; exact .bl _
  | .int _, v, p, r, h => by unfold Rp at r; simp only [py0] at h; cases h; subst r; exact .int _
  | .str _, v, p, r, h => by unfold Rp at r; simp only [py0] at h; cases h; subst r; exact .str _
  | .tup ds, v, p, r, h => by
    obtain ⟨a, xs, e, t, q⟩ := tup_at r
    simp only [py0, Option.map_eq_some_iff] at h
    obtain ⟨ps, h1, h2⟩ := h
    subst e; subst h2
    exact .tup t (py0L_at ds xs ps q h1)
  | .lst ds, v, p, r, h => by
    unfold Rp at r
    obtain ⟨a, xs, e, t, _, q⟩ := r
    simp only [py0, Option.map_eq_some_iff] at h
    obtain ⟨ps, h1, h2⟩ := h
    subst e; subst h2
    exact .lst (.of t) (py0L_at ds xs ps q h1)
  | .dic _ _, v, p, r, h => by simp [py0] at h
  | .ins _ _ _, v, p, r, h => by simp [py0] at h
  | .loc _, v, p, r, h => by simp [py0] at h
  | .glo _, v, p, r, h => by simp [py0] at h
  | .exn _, v, p, r, h => by simp [py0] at h
  | .exo _ _ _, v, p, r, h => by simp [py0] at h
  | .lam _ _ _, v, p, r, h => by simp [py0] at h
  | .fls ds, v, p, r, h => by
    unfold Rp at r
    obtain ⟨a, xs, e, t, q⟩ := r
    simp only [py0, Option.map_eq_some_iff] at h
    obtain ⟨ps, h1, h2⟩ := h
    subst e; subst h2
    exact .lst t.sq (py0L_at ds xs ps q h1)
theorem py0L_at : ∀ (ds : List D) (vs : List V) (ps : List PyData), RpL K mg w H ds vs → py0L ds = some ps → DpAll K H vs ps
  | [], vs, ps, r, h => by unfold RpL at r; simp only [py0L] at h; cases h; subst r; exact .nil
  | d :: ds, vs, ps, r, h => by
    unfold RpL at r
    obtain ⟨v, vs', e, r1, r2⟩ := r
    simp only [py0L, Option.bind_eq_some_iff, Option.map_eq_some_iff] at h
    obtain ⟨a, h1, b, h2, h3⟩ := h
    subst e; subst h3
    exact .cons (py0_at d v a r1 h1) (py0L_at ds vs' b r2 h2)
end
mutual
theorem pyS_at [Wo] (s : Sto K mg w S H) : ∀ (d : D) (v : V) (p : PyData), Rp K mg w H d v → pyS S d = some p → Dp K H v p
  | .non, v, p, r, h => by unfold Rp at r; simp only [pyS] at h; cases h; subst r; exact .non
  | .bl _, v, p, r, h => by unfold Rp at r; simp only [pyS] at h; cases h; subst r; exact .bl _
  | .int _, v, p, r, h => by unfold Rp at r; simp only [pyS] at h; cases h; subst r; exact .int _
  | .str _, v, p, r, h => by unfold Rp at r; simp only [pyS] at h; cases h; subst r; exact .str _
  | .tup ds, v, p, r, h => by
    obtain ⟨a, xs, e, t, q⟩ := tup_at r
    simp only [pyS, Option.map_eq_some_iff] at h
    obtain ⟨ps, h1, h2⟩ := h
    subst e; subst h2
    exact .tup t (pySL_at s ds xs ps q h1)
  | .lst ds, v, p, r, h => by
    unfold Rp at r
    obtain ⟨a, xs, e, t, _, q⟩ := r
    simp only [pyS, Option.map_eq_some_iff] at h
    obtain ⟨ps, h1, h2⟩ := h
    subst e; subst h2
    exact .lst (.of t) (pySL_at s ds xs ps q h1)
  | .loc n, v, p, r, h => by
    simp only [pyS, Option.map_eq_some_iff, Option.bind_eq_some_iff] at h
    obtain ⟨ps, ⟨ds, h0, h1⟩, h2⟩ := h
    obtain ⟨a, xs, h3, h4, h5⟩ := cellOf_at s h0
    unfold Rp at r
    have e := r.2 a h3
    subst e; subst h2
    exact .lst (.inl h4) (py0L_at ds xs ps h5 h1)
  | .dic _ _, v, p, r, h => by simp [pyS] at h
  | .ins _ _ _, v, p, r, h => by simp [pyS] at h
  | .glo _, v, p, r, h => by simp [pyS] at h
  | .exn _, v, p, r, h => by simp [pyS] at h
  | .exo _ _ _, v, p, r, h => by simp [pyS] at h
  | .lam _ _ _, v, p, r, h => by simp [pyS] at h
  | .fls ds, v, p, r, h => by
    unfold Rp at r
    obtain ⟨a, xs, e, t, q⟩ := r
    simp only [pyS, Option.map_eq_some_iff] at h
    obtain ⟨ps, h1, h2⟩ := h
    subst e; subst h2
    exact .lst t.sq (pySL_at s ds xs ps q h1)
theorem pySL_at [Wo] (s : Sto K mg w S H) : ∀ (ds : List D) (vs : List V) (ps : List PyData), RpL K mg w H ds vs → pySL S ds = some ps → DpAll K H vs ps
  | [], vs, ps, r, h => by unfold RpL at r; simp only [pySL] at h; cases h; subst r; exact .nil
  | d :: ds, vs, ps, r, h => by
    unfold RpL at r
    obtain ⟨v, vs', e, r1, r2⟩ := r
    simp only [pySL, Option.bind_eq_some_iff, Option.map_eq_some_iff] at h
    obtain ⟨a, h1, b, h2, h3⟩ := h
    subst e; subst h3
    exact .cons (pyS_at s d v a r1 h1) (pySL_at s ds vs' b r2 h2)
end
end
def fVar (i : Nat) : FE := fun ρ S => match ρ[i]? with
  | some (some d) => .ok d S
  | _ => .no
def fC (d : D) : FE := fun _ S => .ok d S
def f1 (g : D → Store → RE D) (a : FE) : FE := fun ρ S => (a ρ S).bnd fun x S1 => g x S1
def f2 (g : D → D → Store → RE D) (a b : FE) : FE := fun ρ S => (a ρ S).bnd fun x S1 => (b ρ S1).bnd fun y S2 => g x y S2
def fNil : FA := fun _ S => .ok [] S
def fCons (a : FE) (r : FA) : FA := fun ρ S => (a ρ S).bnd fun x S1 => (r ρ S1).bnd fun xs S2 => .ok (x :: xs) S2
def fArg (g : List D → Store → RE D) (a : FA) : FE := fun ρ S => (a ρ S).bnd g
/-- what the operation's reading asks is given -/
def OpV [Wo] (K : PySem.W.Frag) (mg : Str → Option Value) (r : R2) (g : D → D → Store → RE D) : Prop :=
  ∀ (w : Wd) (S : Store) (H : Hp) (x y : V) (d e : D) (Q : VK) (E : Value → Option Addr → Hp → Prop), Sto K mg w S H → Rp K mg w H d x → Rp K mg w H e y → End K mg (fun w H => Rp K mg w H) w H (g d e S) Q E → r x y H Q
def CallV [Wo] (K : PySem.W.Frag) (mg : Str → Option Value) (r : List V → Hp → VK → Prop) (g : List D → Store → RE D) : Prop :=
  ∀ (w : Wd) (S : Store) (H : Hp) (xs : List V) (ds : List D) (Q : VK) (E : Value → Option Addr → Hp → Prop), Sto K mg w S H → RpL K mg w H ds xs → End K mg (fun w H => Rp K mg w H) w H (g ds S) Q E → r xs H Q
section
variable {X : Cx} {W : WX} {a b e : Expr} {es : List Expr} {fa fb : FE} {fs : FA} {pos : Pos}
theorem two [Wo] {r : R2} {g : D → D → Store → RE D} (hv : OpV X.K X.mg r g) {σ : L2.St} {H : Hp} {Q : VK} (h : tF X W (f2 g fa fb) σ H Q) : tOp r (tF X W fa) (tF X W fb) σ H Q := by
  obtain ⟨w, ρ, S, s, en, h⟩ := h
  refine ⟨w, ρ, S, s, en, (End.bind h).imp ?_ (fun _ _ _ z => z)⟩
  rintro x H1 ⟨w1, S1, d, e1, s1, r1, h1⟩
  refine ⟨w1, ρ, S1, s1, en.ext e1, (End.bind h1).imp ?_ (fun _ _ _ z => z)⟩
  rintro y H2 ⟨w2, S2, d2, e2, s2, r2, h2⟩
  exact hv w2 S2 H2 x y d d2 Q _ s2 (Rp.ext e2 _ _ r1) r2 h2
theorem q_var [Wo] (i : Nat) {x : Str} (hN : X.N[i]? = some x := by rfl) (hv : Vis X.env.scope x := by first | exact Or.inl rfl | exact Or.inr (Or.inl rfl) | exact Or.inr (Or.inr rfl)) (hd : (x == ("__debug__" : Str)) = false := by decide)
    (hcd : (x == ("__classdict__" : Str)) = false := by decide) : PE X (.Name x pos) (tF X W (fVar i)) :=
  PE.wk (pe_var hN hv hd hcd) fun σ H Q ⟨w, ρ, S, s, en, h⟩ => by
    unfold fVar at h
    split at h
    · rename_i d hd
      obtain ⟨v, h1, h2⟩ := en.at_ i d hd
      exact ⟨v, h1, h.ret s h2⟩
    · exact h.elim
theorem q_const [Wo] {d : D} {v : V} (hr : ∀ w H, Rp X.K X.mg w H d v) (h : PE X e (tC v)) : PE X e (tF X W (fC d)) := PE.wk h fun σ H Q ⟨w, ρ, S, s, en, h⟩ => h.ret s (hr w H)
theorem q_int [Wo] {i j} : PE X (.Constant (.int i) j pos) (tF X W (fC (.int i))) := q_const (fun w H => by unfold Rp; rfl) pe_int
theorem q_bl [Wo] {i j} : PE X (.Constant (.bool i) j pos) (tF X W (fC (.bl i))) := q_const (fun w H => by unfold Rp; rfl) pe_bl
theorem q_non [Wo] {j} : PE X (.Constant .none j pos) (tF X W (fC .non)) := q_const (fun w H => by unfold Rp; rfl) pe_non
theorem q_str [Wo] {i j} : PE X (.Constant (.str i) j pos) (tF X W (fC (.str i))) := q_const (fun w H => by unfold Rp; rfl) pe_str
theorem q_op [Wo] {op : Operator} {r : R2} {g : D → D → Store → RE D} (ho : OpR X (binaryOp op) r) (hv : OpV X.K X.mg r g) (ha : PE X a (tF X W fa)) (hb : PE X b (tF X W fb)) : PE X (.BinOp a op b pos) (tF X W (f2 g fa fb)) :=
  PE.wk (pe_op ho ha hb) fun σ H Q h => two hv h
theorem q_cmp [Wo] {op : CmpOp} {r : R2} {g : D → D → Store → RE D} (ho : OpR X (compareOp op) r) (hv : OpV X.K X.mg r g) (ha : PE X a (tF X W fa)) (hb : PE X b (tF X W fb)) (hm : behindInMarks op b = false) : PE X (.Compare a [op] [b] pos) (tF X W (f2 g fa fb)) :=
  PE.wk (pe_cmpR ho ha hb hm) fun σ H Q h => two hv h
/-- a value that is a truth, as a test -/
def fB (f : FE) : FT := fun ρ S => (f ρ S).bnd fun x S1 => match x with
  | .bl k => .ok k S1
  | _ => .no
theorem tF_of_fB [Wo] {f : FE} {σ : L2.St} {H : Hp} {Q : Bool → Hp → Prop} (h : tT X W (fB f) σ H Q) : tF X W f σ H (fun v H' => ∃ k, v = .bl k ∧ Q k H') := by
  obtain ⟨w, ρ, S, s, en, h⟩ := h
  refine ⟨w, ρ, S, s, en, (End.bind (R := fun w H => Rp X.K X.mg w H) h).imp ?_ (fun _ _ _ z => z)⟩
  rintro x H1 ⟨w1, S1, d, e1, s1, r1, h1⟩
  cases d <;> try exact h1.elim
  unfold Rp at r1
  exact ⟨_, r1, h1.ret s1 rfl⟩
theorem qt_cmp [Wo] {op : CmpOp} {r : R2} {g : D → D → Store → RE D} (ho : OpR X (compareOp op) r) (hv : OpV X.K X.mg r g) (ha : PE X a (tF X W fa)) (hb : PE X b (tF X W fb)) (hm : behindInMarks op b = false) : PT X (.Compare a [op] [b] pos) (tT X W (fB (f2 g fa fb))) :=
  PT.wk (pt_cmpR ho ha hb hm) fun σ H Q h => two hv (tF_of_fB h)
/-- a op1 b op2 c -/
def fChain (g g' : D → D → Store → RE D) (a b c : FE) : FE := fun ρ S => (a ρ S).bnd fun x S1 => (b ρ S1).bnd fun y S2 => (g x y S2).bnd fun k S3 => match k with
  | .bl true => (c ρ S3).bnd fun z S4 => g' y z S4
  | .bl false => .ok (.bl false) S3
  | _ => .no
theorem chain [Wo] {r r' : R2} {g g' : D → D → Store → RE D} (hv : OpV X.K X.mg r g) (hv' : OpV X.K X.mg r' g') {fc : FE} {σ : L2.St} {H : Hp} {Q : VK} (h : tF X W (fChain g g' fa fb fc) σ H Q) : tChain r r' (tF X W fa) (tF X W fb) (tF X W fc) σ H Q := by
  obtain ⟨w, ρ, S, s, en, h⟩ := h
  refine ⟨w, ρ, S, s, en, (End.bind h).imp ?_ (fun _ _ _ z => z)⟩
  rintro x H1 ⟨w1, S1, d, e1, s1, r1, h1⟩
  refine ⟨w1, ρ, S1, s1, en.ext e1, (End.bind h1).imp ?_ (fun _ _ _ z => z)⟩
  rintro y H2 ⟨w2, S2, d2, e2, s2, r2, h2⟩
  refine hv w2 S2 H2 x y d d2 _ _ s2 (Rp.ext e2 _ _ r1) r2 ((End.bind h2).imp ?_ (fun _ _ _ z => z))
  rintro z H3 ⟨w3, S3, d3, e3, s3, r3, h3⟩
  cases d3 <;> try exact h3.elim
  rename_i k
  unfold Rp at r3
  refine ⟨k, r3, ?_⟩
  cases k with
  | false => rw [if_neg (by decide)]; exact h3.ret s3 (by unfold Rp; rfl)
  | true =>
    rw [if_pos rfl]
    refine ⟨w3, ρ, S3, s3, ((en.ext e1).ext e2).ext e3, (End.bind h3).imp ?_ (fun _ _ _ z => z)⟩
    rintro u H4 ⟨w4, S4, d4, e4, s4, r4, h4⟩
    exact hv' w4 S4 H4 y u d2 d4 _ _ s4 (Rp.ext e4 _ _ (Rp.ext e3 _ _ r2)) r4 h4
theorem q_chain [Wo] {c : Expr} {fc : FE} {op op' : CmpOp} {r r' : R2} {g g' : D → D → Store → RE D} (ho : OpR X (compareOp op) r) (hv : OpV X.K X.mg r g) (ho' : OpR X (compareOp op') r') (hv' : OpV X.K X.mg r' g') (ha : PE X a (tF X W fa)) (hb : PE X b (tF X W fb)) (hc : PE X c (tF X W fc))
    (hm : lastMarks [op, op'] [b, c] = false := by with_unfolding_all rfl) : PE X (.Compare a [op, op'] [b, c] pos) (tF X W (fChain g g' fa fb fc)) :=
  PE.wk (pe_chain ho ho' ha hb hc hm) fun σ H Q h => chain hv hv' h
def fAnd (a b : FT) : FT := fun ρ S => (a ρ S).bnd fun k S1 => match k with
  | true => b ρ S1
  | false => .ok false S1
def fOr (a b : FT) : FT := fun ρ S => (a ρ S).bnd fun k S1 => match k with
  | true => .ok true S1
  | false => b ρ S1
def fNot (a : FT) : FT := fun ρ S => (a ρ S).bnd fun k S1 => .ok (!k) S1
def fIf (c : FT) (a b : FE) : FE := fun ρ S => (c ρ S).bnd fun k S1 => match k with
  | true => a ρ S1
  | false => b ρ S1
variable {ta tb : FT} {rest : List Expr}
theorem tT_bind [Wo] {β : Type} {R' : Wd → Hp → β → β → Prop} {f : FT} {σ : L2.St} {H : Hp} {t : Bool → Hp → Prop} {w : Wd} {ρ : FEnv} {S : Store} {γ δ : Type} {RR : Wd → Hp → γ → δ → Prop} {k : Bool → Store → RE γ} {Q : δ → Hp → Prop}
    (s : Sto X.K X.mg w S H) (en : EnvR X.K X.mg w H ρ σ) (h : End X.K X.mg RR w H ((f ρ S).bnd k) Q (fun c od H' => W c od σ H'))
    (hk : ∀ w1 S1 H1 b, Sto X.K X.mg w1 S1 H1 → EnvR X.K X.mg w1 H1 ρ σ → End X.K X.mg RR w1 H1 (k b S1) Q (fun c od H' => W c od σ H') → t b H1) : tT X W f σ H t := by
  refine ⟨w, ρ, S, s, en, (End.bind h).imp ?_ (fun _ _ _ z => z)⟩
  rintro v H1 ⟨w1, S1, d, e1, s1, r1, h1⟩
  cases r1
  exact hk w1 S1 H1 _ s1 (en.ext e1) h1
theorem qw_one [Wo] {op : BoolOp} (ha : PT X a (tT X W ta)) : PW X (.BoolOp op [a] pos) (tT X W ta) := by
  cases op
  · exact pw_and1 ha
  · exact pw_or1 ha
theorem qw_and [Wo] (ha : PT X a (tT X W ta)) (hb : PW X (.BoolOp .And (b :: rest) pos) (tT X W tb)) : PW X (.BoolOp .And (a :: b :: rest) pos) (tT X W (fAnd ta tb)) :=
  PW.wk (pw_and ha hb) fun σ H Q ⟨w, ρ, S, s, en, h⟩ => tT_bind (R' := fun _ _ (a b : Nat) => True) s en h fun w1 S1 H1 k s1 en1 h1 => by
    cases k with
    | true => rw [if_pos rfl]; exact ⟨w1, ρ, S1, s1, en1, h1⟩
    | false => rw [if_neg (by decide)]; exact h1.ret s1 rfl
theorem qw_or [Wo] (ha : PT X a (tT X W ta)) (hb : PW X (.BoolOp .Or (b :: rest) pos) (tT X W tb)) : PW X (.BoolOp .Or (a :: b :: rest) pos) (tT X W (fOr ta tb)) :=
  PW.wk (pw_or ha hb) fun σ H Q ⟨w, ρ, S, s, en, h⟩ => tT_bind (R' := fun _ _ (a b : Nat) => True) s en h fun w1 S1 H1 k s1 en1 h1 => by
    cases k with
    | true => rw [if_pos rfl]; exact h1.ret s1 rfl
    | false => rw [if_neg (by decide)]; exact ⟨w1, ρ, S1, s1, en1, h1⟩
theorem qt_not [Wo] (ha : PT X a (tT X W ta)) : PT X (.UnaryOp .Not a pos) (tT X W (fNot ta)) :=
  PT.wk (pt_not ha) fun σ H Q ⟨w, ρ, S, s, en, h⟩ => tT_bind (R' := fun _ _ (a b : Nat) => True) s en h fun w1 S1 H1 k s1 en1 h1 => h1.ret s1 rfl
theorem q_if [Wo] {c : Expr} {tc : FT} (hc : PT X c (tT X W tc)) (ha : PE X a (tF X W fa)) (hb : PE X b (tF X W fb)) : PE X (.IfExp c a b pos) (tF X W (fIf tc fa fb)) :=
  PE.wk (pe_ifExp hc ha hb) fun σ H Q ⟨w, ρ, S, s, en, h⟩ => tT_bind (R' := fun _ _ (a b : Nat) => True) s en h fun w1 S1 H1 k s1 en1 h1 => by
    cases k with
    | true => rw [if_pos rfl]; exact ⟨w1, ρ, S1, s1, en1, h1⟩
    | false => rw [if_neg (by decide)]; exact ⟨w1, ρ, S1, s1, en1, h1⟩
/-- and, or, not as values: all but the last one truths -/
def fAndV (a b : FE) : FE := fun ρ S => (a ρ S).bnd fun k S1 => match k with
  | .bl true => b ρ S1
  | .bl false => .ok (.bl false) S1
  | _ => .no
def fOrV (a b : FE) : FE := fun ρ S => (a ρ S).bnd fun k S1 => match k with
  | .bl true => .ok (.bl true) S1
  | .bl false => b ρ S1
  | _ => .no
theorem q_one [Wo] {op : BoolOp} (ha : PE X a (tF X W fa)) : PE X (.BoolOp op [a] pos) (tF X W fa) := pe_one ha
theorem q_and [Wo] (ha : PE X a (tF X W fa)) (hb : PE X (.BoolOp .And (b :: rest) pos) (tF X W fb)) : PE X (.BoolOp .And (a :: b :: rest) pos) (tF X W (fAndV fa fb)) :=
  PE.wk (pe_and ha hb) fun σ H Q ⟨w, ρ, S, s, en, h⟩ => by
    refine ⟨w, ρ, S, s, en, (End.bind h).imp ?_ (fun _ _ _ z => z)⟩
    rintro x H1 ⟨w1, S1, d, e1, s1, r1, h1⟩
    cases d <;> try exact h1.elim
    rename_i k
    unfold Rp at r1
    refine ⟨k, r1, ?_⟩
    cases k with
    | true => rw [if_pos rfl]; exact ⟨w1, ρ, S1, s1, en.ext e1, h1⟩
    | false => rw [if_neg (by decide)]; exact h1.ret s1 (by unfold Rp; rfl)
/-- truth -/
def truD (S : Store) : D → Option Bool
  | .non => some false
  | .bl b => some b
  | .int i => some (i != 0)
  | .str y => if y.length ≤ sizeLine then some ((y.length : Int) != 0) else none
  | .tup ds => some (!ds.isEmpty)
  | .lst ds => some (!ds.isEmpty)
  | .fls ds => some (!ds.isEmpty)
  | .loc n => (cellOf S n).map fun ds => !ds.isEmpty
  | _ => none
def fTru (f : FE) : FT := fun ρ S => (f ρ S).bnd fun x S1 => match truD S1 x with
  | some k => .ok k S1
  | none => .no
theorem RpL.emp {K : PySem.W.Frag} {mg : Str → Option Value} {w : Wd} {H : Hp} {ds : List D} {vs : List V} (h : RpL K mg w H ds vs) : (!ds.isEmpty) = !vs.isEmpty := by
  cases ds <;> unfold RpL at h
  · subst h; rfl
  · obtain ⟨v, r, e, _⟩ := h; subst e; rfl
theorem truD_at [Wo] {K : PySem.W.Frag} {mg : Str → Option Value} {w : Wd} {H : Hp} {S : Store} {d : D} {v : V} {k : Bool} (s : Sto K mg w S H) (r : Rp K mg w H d v) (h : truD S d = some k) : TruV K v H k := by
  cases d with
  | non => unfold Rp at r; subst r; simp only [truD] at h; cases h; rfl
  | bl b => unfold Rp at r; subst r; simp only [truD] at h; cases h; rfl
  | int i => unfold Rp at r; subst r; simp only [truD] at h; cases h; rfl
  | str y =>
    unfold Rp at r; subst r; simp only [truD] at h
    split at h
    · rename_i hl; cases h; exact ⟨hl, rfl⟩
    · cases h
  | tup ds =>
    obtain ⟨a, xs, e, t, q⟩ := tup_at r
    simp only [truD] at h; cases h; subst e
    exact .inr (.inl ⟨xs, t, q.emp⟩)
  | lst ds =>
    obtain ⟨a, xs, e, t, q⟩ := seqL_at (S := S) s r rfl
    simp only [truD] at h; cases h; subst e
    exact .inl ⟨xs, t, q.emp⟩
  | fls ds =>
    obtain ⟨a, xs, e, t, q⟩ := seqL_at (S := S) (d := .fls ds) s r rfl
    simp only [truD] at h; cases h; subst e
    exact .inl ⟨xs, t, q.emp⟩
  | loc n =>
    simp only [truD, Option.map_eq_some_iff] at h
    obtain ⟨ds, h1, h2⟩ := h
    obtain ⟨a, xs, e, t, q⟩ := seqL_at (S := S) (d := .loc n) s r h1
    subst e; subst h2
    exact .inl ⟨xs, t, q.emp⟩
  | _ => simp [truD] at h
theorem qt_tru [Wo] (ha : PE X a (tF X W fa)) (he : ∀ whole, isTrue a X.env whole = (do let v ← whole; standAt a.pos; holding [v] (truthy v)) := by intro _; rfl) : PT X a (tT X W (fTru fa)) :=
  PT.wk (pt_truth ha he) fun σ H Q ⟨w, ρ, S, s, en, h⟩ => by
    refine ⟨w, ρ, S, s, en, (End.bind (R := fun w H => Rp X.K X.mg w H) h).imp ?_ (fun _ _ _ z => z)⟩
    rintro x H1 ⟨w1, S1, d, e1, s1, r1, h1⟩
    split at h1
    · rename_i k hk
      exact ⟨k, truD_at s1 r1 hk, h1.ret s1 rfl⟩
    · exact h1.elim
/-- not e, as a value, by truth -/
def fNotV (f : FE) : FE := fun ρ S => (f ρ S).bnd fun x S1 => match truD S1 x with
  | some k => .ok (.bl (!k)) S1
  | none => .no
theorem q_not [Wo] (ha : PE X a (tF X W fa)) : PE X (.UnaryOp .Not a pos) (tF X W (fNotV fa)) :=
  PE.wk (pe_notT ha) fun σ H Q ⟨w, ρ, S, s, en, h⟩ => by
    refine ⟨w, ρ, S, s, en, (End.bind (R := fun w H => Rp X.K X.mg w H) h).imp ?_ (fun _ _ _ z => z)⟩
    rintro x H1 ⟨w1, S1, d, e1, s1, r1, h1⟩
    split at h1
    · rename_i k hk
      exact ⟨k, truD_at s1 r1 hk, h1.ret s1 (by unfold Rp; rfl)⟩
    · exact h1.elim
theorem q_nil [Wo] : PA X [] (tA X W fNil) := PA.wk pa_nil fun σ H Q ⟨w, ρ, S, s, en, h⟩ => h.ret s RpL.nil
theorem q_cons [Wo] (ha : PE X e (tF X W fa)) (hr : PA X es (tA X W fs)) (hs : starEach (e :: es) X.env = (false, eval e X.env) :: starEach es X.env := by rfl) : PA X (e :: es) (tA X W (fCons fa fs)) :=
  PA.wk (pa_cons ha hr hs) fun σ H Q ⟨w, ρ, S, s, en, h⟩ => by
    refine ⟨w, ρ, S, s, en, (End.bind h).imp ?_ (fun _ _ _ z => z)⟩
    rintro x H1 ⟨w1, S1, d, e1, s1, r1, h1⟩
    refine ⟨w1, ρ, S1, s1, en.ext e1, (End.bind h1).imp ?_ (fun _ _ _ z => z)⟩
    rintro xs H2 ⟨w2, S2, ds, e2, s2, r2, h2⟩
    exact h2.ret s2 (RpL.cons (Rp.ext e2 _ _ r1) r2)
/-- a new tuple, a new list -/
def mkTup (ds : List D) (S : Store) : RE D := if ds.length ≤ sizeLine then .ok (.tup ds) S else .no
def mkLst (ds : List D) (S : Store) : RE D := if ds.length ≤ sizeLine then .ok (.lst ds) S else .no
def mkCel (ds : List D) (S : Store) : RE D := if ds.length ≤ sizeLine then .ok (.loc S.length) (S ++ [.lst ds]) else .no
section
variable {K : PySem.W.Frag} {mg : Str → Option Value} {w : Wd} {H : Hp} {S : Store} {Q : VK} {E : Value → Option Addr → Hp → Prop} {ds : List D} {xs : List V} {p : Addr}
theorem mkTup_at [Wo] (s : Sto K mg w S H) (r : RpL K mg w H ds xs) (h : End K mg (fun w H => Rp K mg w H) w H (mkTup ds S) Q E) : xs.length ≤ sizeLine ∧ ∀ p, H p = none → Q (.ref p) (upd H p (.tup xs)) := by
  unfold mkTup at h
  split at h
  · rename_i hl
    refine ⟨by rw [← r.length]; exact hl, fun p np => h w _ _ (Ext.new np) (s.beside np) ?_⟩
    show Rp _ _ _ _ _ _
    unfold Rp
    exact ⟨p, xs, rfl, .inl ⟨upd_same, s.new np⟩, RpL.ext (Ext.new np) _ _ r⟩
  · exact h.elim
theorem mkLst_at [Wo] (s : Sto K mg w S H) (r : RpL K mg w H ds xs) (h : End K mg (fun w H => Rp K mg w H) w H (mkLst ds S) Q E) : xs.length ≤ sizeLine ∧ ∀ p, H p = none → Q (.ref p) (upd H p (.lst xs)) := by
  unfold mkLst at h
  split at h
  · rename_i hl
    refine ⟨by rw [← r.length]; exact hl, fun p np => h w _ _ (Ext.new np) (s.beside np) ?_⟩
    show Rp _ _ _ _ _ _
    unfold Rp
    exact ⟨p, xs, rfl, upd_same, s.new np, RpL.ext (Ext.new np) _ _ r⟩
  · exact h.elim
theorem Ext.cell {o : HO} (np : H p = none) : Ext w H ⟨w.φ ++ [some p], w.hd⟩ (upd H p o) where
  fr := fun a u e _ => by rw [upd_ne (ne_of_none e np)]; exact e
  ln := by show w.φ.length ≤ (w.φ ++ [some p]).length; rw [List.length_append]; exact Nat.le_add_right _ _
  ph := fun n a h l => by
    have h' : (w.φ ++ [some p])[n]? = some (some a) := h
    rw [List.getElem?_append_left l] at h'; exact h'
  nw := fun a h => by
    rcases List.mem_append.mp (show some a ∈ w.φ ++ [some p] from h) with h | h
    · exact .inl h
    · simp at h; subst h; exact .inr np
  hd := rfl
theorem Sto.cellNew [Wo] (s : Sto K mg w S H) (np : H p = none) (r : RpL K mg w H ds xs) : Sto K mg ⟨w.φ ++ [some p], w.hd⟩ (S ++ [.lst ds]) (upd H p (.lst xs)) := by
  have s2 := s.beside (o := .lst xs) np
  have ex : Ext w H ⟨w.φ ++ [some p], w.hd⟩ (upd H p (.lst xs)) := Ext.cell np
  refine ⟨by show (w.φ ++ [some p]).length = _; rw [List.length_append, List.length_append, s.len]; rfl, fun m n a h1 h2 => ?_, fun a ha => ⟨upd_some (s.ap a ha).1, fun z => ?_⟩, fun n c hc => ?_⟩
  · have key : ∀ k, (w.φ ++ [some p])[k]? = some (some a) → (w.φ[k]? = some (some a) ∧ k < w.φ.length) ∨ (k = w.φ.length ∧ a = p) := fun k hk => by
      by_cases hl : k < w.φ.length
      · rw [List.getElem?_append_left hl] at hk; exact .inl ⟨hk, hl⟩
      · have hl' : w.φ.length ≤ k := Nat.le_of_not_lt hl
        rw [List.getElem?_append_right hl'] at hk
        have : k - w.φ.length = 0 := by
          cases e : k - w.φ.length with
          | zero => rfl
          | succ j => rw [e] at hk; simp at hk
        rw [this] at hk; simp at hk
        exact .inr ⟨by omega, hk.symm⟩
    rcases key m h1 with ⟨a1, b1⟩ | ⟨a1, b1⟩ <;> rcases key n h2 with ⟨a2, b2⟩ | ⟨a2, b2⟩
    · exact s.nd m n a a1 a2
    · subst b2; exact absurd (List.mem_of_getElem? a1) (s.new np).1
    · subst b1; exact absurd (List.mem_of_getElem? a2) (s.new np).1
    · omega
  · rcases List.mem_append.mp (show some a ∈ w.φ ++ [some p] from z) with h | h
    · exact (s.ap a ha).2 h
    · simp at h; subst h; exact (s.ap a ha).1 np
  · by_cases hl : n < S.length
    · rw [List.getElem?_append_left hl] at hc
      refine CellR.ext ex (fun a ha => ⟨by show (w.φ ++ [some p])[n]? = _; rw [List.getElem?_append_left (s.len ▸ hl)]; exact ha, ?_⟩) (fun hd => by show (w.φ ++ [some p])[n]? = _; rw [List.getElem?_append_left (s.len ▸ hl)]; exact hd) (s.cell n c hc)
      have : a ≠ p := fun z => by subst z; exact (s.new np).1 (List.mem_of_getElem? ha)
      rw [upd_ne this]
    · have hl' : S.length ≤ n := Nat.le_of_not_lt hl
      rw [List.getElem?_append_right hl'] at hc
      have e0 : n - S.length = 0 := by
        cases e : n - S.length with
        | zero => rfl
        | succ j => rw [e] at hc; simp at hc
      rw [e0] at hc; simp at hc; subst hc
      have en : n = w.φ.length := by rw [s.len]; omega
      subst en
      exact ⟨p, xs, by show (w.φ ++ [some p])[w.φ.length]? = _; rw [List.getElem?_append_right (Nat.le_refl _), Nat.sub_self]; rfl, upd_same, RpL.ext ex _ _ r⟩
theorem mkCel_at [Wo] (s : Sto K mg w S H) (r : RpL K mg w H ds xs) (h : End K mg (fun w H => Rp K mg w H) w H (mkCel ds S) Q E) : xs.length ≤ sizeLine ∧ ∀ p, H p = none → Q (.ref p) (upd H p (.lst xs)) := by
  unfold mkCel at h
  split at h
  · rename_i hl
    refine ⟨by rw [← r.length]; exact hl, fun p np => h _ _ _ (Ext.cell np) (s.cellNew np r) ?_⟩
    show Rp _ _ _ _ _ _
    unfold Rp
    refine ⟨by show S.length < (w.φ ++ [some p]).length; rw [List.length_append, s.len]; exact Nat.lt_succ_self _, fun a ha => ?_⟩
    have ha' : (w.φ ++ [some p])[S.length]? = some (some a) := ha
    rw [← s.len, List.getElem?_append_right (Nat.le_refl _), Nat.sub_self] at ha'
    simp at ha'; rw [ha']
  · exact h.elim
end
theorem q_tup [Wo] {x1} (h : PA X es (tA X W fs)) : PE X (.Tuple es x1 pos) (tF X W (fArg mkTup fs)) :=
  PE.wk (pe_tup h) fun σ H Q ⟨w, ρ, S, s, en, h⟩ => ⟨w, ρ, S, s, en, (End.bind (R := fun w H => RpL X.K X.mg w H) h).imp (fun xs H1 ⟨w1, S1, ds, e1, s1, r1, h1⟩ => mkTup_at s1 r1 h1) (fun _ _ _ z => z)⟩
theorem q_lst [Wo] (h : PA X es (tA X W fs)) : PE X (.List es pos) (tF X W (fArg mkLst fs)) :=
  PE.wk (pe_lst h) fun σ H Q ⟨w, ρ, S, s, en, h⟩ => ⟨w, ρ, S, s, en, (End.bind (R := fun w H => RpL X.K X.mg w H) h).imp (fun xs H1 ⟨w1, S1, ds, e1, s1, r1, h1⟩ => mkLst_at s1 r1 h1) (fun _ _ _ z => z)⟩
theorem q_cel [Wo] (h : PA X es (tA X W fs)) : PE X (.List es pos) (tF X W (fArg mkCel fs)) :=
  PE.wk (pe_lst h) fun σ H Q ⟨w, ρ, S, s, en, h⟩ => ⟨w, ρ, S, s, en, (End.bind (R := fun w H => RpL X.K X.mg w H) h).imp (fun xs H1 ⟨w1, S1, ds, e1, s1, r1, h1⟩ => mkCel_at s1 r1 h1) (fun _ _ _ z => z)⟩
theorem argsTo [Wo] {r : List V → Hp → VK → Prop} {g : List D → Store → RE D} (hv : CallV X.K X.mg r g) {σ : L2.St} {H : Hp} {Q : VK} (h : tF X W (fArg g fs) σ H Q) : tA X W fs σ H (fun vs H1 => r vs H1 Q) := by
  obtain ⟨w, ρ, S, s, en, h⟩ := h
  refine ⟨w, ρ, S, s, en, (End.bind h).imp ?_ (fun _ _ _ z => z)⟩
  rintro xs H1 ⟨w1, S1, ds, e1, s1, r1, h1⟩
  exact hv w1 S1 H1 xs ds Q _ s1 r1 h1
theorem q_callB [Wo] {x : Str} {p : Pos} {id : String} {r : List V → Hp → VK → Prop} {g : List D → Store → RE D} (hc : CallR X (.builtin id) r) (hv : CallV X.K X.mg r g) (hg : Gl X x) (hm : X.mg x = none) (hb : bootBuiltins x = some (.builtin id)) (ha : PA X (e :: es) (tA X W fs)) (hn : x ≠ "__name__" := by decide) (hdb : (x == ("__debug__" : Str)) = false := by decide)
    (he : starEach (e :: es) X.env = (false, eval e X.env) :: starEach es X.env := by rfl) (hpl : (backTo pos (starEach es X.env)).any (·.1) = false := by rfl) : PE X (.Call (.Name x p) (e :: es) [] pos) (tF X W (fArg g fs)) :=
  PE.wk (pe_callB hc hg hm hb ha hn hdb he hpl) fun σ H Q h => argsTo hv h
theorem q_callTy [Wo] {x : Str} {p : Pos} {T : String} {r : List V → Hp → VK → Prop} {g : List D → Store → RE D} (hc : CallR X (.type T) r) (hv : CallV X.K X.mg r g) (hg : Gl X x) (hm : X.mg x = none) (hb : bootBuiltins x = some (.type T)) (ha : PA X (e :: es) (tA X W fs)) (hn : x ≠ "__name__" := by decide) (hdb : (x == ("__debug__" : Str)) = false := by decide)
    (he : starEach (e :: es) X.env = (false, eval e X.env) :: starEach es X.env := by rfl) (hpl : (backTo pos (starEach es X.env)).any (·.1) = false := by rfl) : PE X (.Call (.Name x p) (e :: es) [] pos) (tF X W (fArg g fs)) :=
  PE.wk (pe_callTy hc hg hm hb ha hn hdb he hpl) fun σ H Q h => argsTo hv h
end
end Kw
namespace Kw
open PySem PySem.Spec PyProof.Rows L2
section
variable {K : PySem.W.Frag} {mg : Str → Option Value} {w : Wd} {H : Hp} {S : Store}
theorem rp_int {i : Int} {v : V} (h : Rp K mg w H (.int i) v) : v = .int i := by unfold Rp at h; exact h
theorem rp_bl {i : Bool} {v : V} (h : Rp K mg w H (.bl i) v) : v = .bl i := by unfold Rp at h; exact h
theorem rp_str {i : Str} {v : V} (h : Rp K mg w H (.str i) v) : v = .str i := by unfold Rp at h; exact h
theorem rp_non {v : V} (h : Rp K mg w H .non v) : v = .non := by unfold Rp at h; exact h
theorem rp_i {i : Int} : Rp K mg w H (.int i) (.int i) := by unfold Rp; rfl
theorem rp_b {i : Bool} : Rp K mg w H (.bl i) (.bl i) := by unfold Rp; rfl
theorem rp_s {i : Str} : Rp K mg w H (.str i) (.str i) := by unfold Rp; rfl
theorem rp_n : Rp K mg w H .non .non := by unfold Rp; rfl
end
def catL (c : Bool) (x y : Option (List D)) (S : Store) : RE D := match x, y with
  | some xs, some ys => if c then mkCel (xs ++ ys) S else mkLst (xs ++ ys) S
  | _, _ => .no
/-- c: the sum of two lists is a cell -/
def gAdd (c : Bool) (x y : D) (S : Store) : RE D := match x with
  | .int i => (match y with
    | .int j => .ok (.int (i + j)) S
    | .bl k => .ok (.int (i + b2i k)) S
    | _ => .no)
  | .str a => (match y with
    | .str b => if a.length + b.length ≤ sizeLine then .ok (.str (a ++ b)) S else .no
    | _ => .no)
  | .tup xs => (match y with
    | .tup ys => mkTup (xs ++ ys) S
    | _ => .no)
  | x => catL c (seqM S x) (seqM S y) S
def gSub (x y : D) (S : Store) : RE D := match x, y with
  | .int i, .int j => .ok (.int (i - j)) S
  | _, _ => .no
instance (i j : Int) : Decidable (CMulW i j) := inferInstanceAs (Decidable (_ < _))
instance (i j : Int) : Decidable (CMul i j) := inferInstanceAs (Decidable (_ ∨ _))
/-- a text so many times -/
def repS (a : Str) (n : Int) : Str := if n < 1 then Str.empty else if (n == 1 || a.length == 0) = true then a else ⟨(List.replicate n.toNat a.cps).foldl (· ++ ·) #[]⟩
/-- c: a list that is repeated is a cell -/
def gMul (c : Bool) (x y : D) (S : Store) : RE D := match y with
  | .int j => (match x with
    | .int i => if CMul i j ∨ CMulW i j then .ok (.int (i * j)) S else .no
    | .str a => if a.length * j.toNat ≤ 16777216 ∧ a.length ≤ 1000 ∧ -(2 ^ 63) ≤ j ∧ j ≤ 100000 then .ok (.str (repS a j)) S else .no
    | x => (match seqM S x with
      | some xs => if xs.length * j.toNat ≤ sizeLine ∧ -(2 ^ 63) ≤ j ∧ j < 2 ^ 63 then (if c then mkCel (List.replicate j.toNat xs).flatten S else mkLst (List.replicate j.toNat xs).flatten S) else .no
      | none => .no))
  | _ => .no
/-- the divisor is positive -/
def gMod (x y : D) (S : Store) : RE D := match x, y with
  | .int i, .int j => if 0 < j then .ok (.int (i % j)) S else .no
  | _, _ => .no
def gDiv (x y : D) (S : Store) : RE D := match x, y with
  | .int i, .int j => if 0 < j ∧ j.natAbs.log2 < 9000 then .ok (.int (i / j)) S else .no
  | _, _ => .no
def gPow (x y : D) (S : Store) : RE D := match x, y with
  | .int i, .int j => if 0 ≤ j ∧ j ≤ 1000000 ∧ i.natAbs < 2 ^ 64 then .ok (.int (i ^ j.toNat)) S else .no
  | _, _ => .no
section
variable {K : PySem.W.Frag} {mg : Str → Option Value}
def rAddU (K : PySem.W.Frag) : R2 := fun x y H Q => (∃ i j, x = .int i ∧ y = .int j ∧ Q (.int (i + j)) H) ∨ (∃ i k, x = .int i ∧ y = .bl k ∧ Q (.int (i + b2i k)) H) ∨
  (∃ i j, x = .str i ∧ y = .str j ∧ i.length + j.length ≤ sizeLine ∧ Q (.str (i ++ j)) H) ∨ rCat x y H Q ∨ rCatA K x y H Q
theorem op_addU {X : Cx} : OpR X (binaryOp .Add) (rAddU X.K) := op_add.or (op_add_ib.or (op_add_str.or (op_cat.or op_catA)))
theorem addU_v [Wo] {c : Bool} : OpV K mg (rAddU K) (gAdd c) := by
  intro w S H x y d e Q E s r1 r2 h
  have lists : ∀ xs ys, seqM S d = some xs → seqM S e = some ys → End K mg (fun w H => Rp K mg w H) w H (if c then mkCel (xs ++ ys) S else mkLst (xs ++ ys) S) Q E → rCat x y H Q := fun xs ys h1 h2 h => by
    obtain ⟨a, vs, e1, t1, q1⟩ := seqM_at s r1 h1
    obtain ⟨b, us, e2, t2, q2⟩ := seqM_at s r2 h2
    have q := q1.append q2
    refine ⟨a, b, vs, us, e1, e2, t1, t2, ?_⟩
    have l : (vs ++ us).length = vs.length + us.length := List.length_append
    cases c
    · have z := mkLst_at s q h
      rw [l] at z; exact z
    · have z := mkCel_at s q h
      rw [l] at z; exact z
  have lists' : End K mg (fun w H => Rp K mg w H) w H (catL c (seqM S d) (seqM S e) S) Q E → rCat x y H Q := fun h => by
    unfold catL at h
    split at h
    · rename_i xs ys h1 h2; exact lists xs ys h1 h2 h
    · exact h.elim
  cases d <;> simp only [gAdd] at h
  case int i =>
    cases e <;> simp only [] at h <;> try exact h.elim
    · exact .inr (.inl ⟨i, _, rp_int r1, rp_bl r2, h.ret s rp_i⟩)
    · exact .inl ⟨i, _, rp_int r1, rp_int r2, h.ret s rp_i⟩
  case str a =>
    cases e <;> simp only [] at h <;> try exact h.elim
    split at h
    · rename_i hl; exact .inr (.inr (.inl ⟨a, _, rp_str r1, rp_str r2, hl, h.ret s rp_s⟩))
    · exact h.elim
  case tup xs =>
    cases e <;> simp only [] at h <;> try exact h.elim
    rename_i ys
    refine .inr (.inr (.inr (.inr ?_)))
    have r1' := r1
    have r2' := r2
    unfold Rp at r1' r2'
    obtain ⟨a, vs, e1, t1, q1⟩ := r1'
    obtain ⟨b, us, e2, t2, q2⟩ := r2'
    have q := q1.append q2
    have z := mkTup_at s q h
    have l : (vs ++ us).length = vs.length + us.length := List.length_append
    refine ⟨a, b, vs, us, e1, e2, t1.sq, t2.sq, by rw [← l]; exact z.1, fun ev => ?_, fun _ eu => ?_, fun _ _ => z.2⟩
    · subst ev
      have : xs = [] := q1.nil_iff.mpr rfl
      subst this
      unfold mkTup at h
      split at h
      · exact h.ret s (show Rp K mg w H _ _ by unfold Rp; exact ⟨b, us, rfl, t2, q2⟩)
      · exact h.elim
    · subst eu
      have : ys = [] := q2.nil_iff.mpr rfl
      subst this
      unfold mkTup at h
      split at h
      · exact h.ret s (show Rp K mg w H _ _ by unfold Rp; exact ⟨a, vs, rfl, t1, by rw [List.append_nil]; exact q1⟩)
      · exact h.elim
  all_goals exact .inr (.inr (.inr (.inl (lists' h))))
theorem sub_v [Wo] : OpV K mg (rI0 fun i j => .int (i - j)) gSub := by
  intro w S H x y d e Q E s r1 r2 h
  cases d <;> cases e <;> simp only [gSub] at h <;> try exact h.elim
  exact ⟨_, _, rp_int r1, rp_int r2, h.ret s rp_i⟩
theorem repS_fold : ∀ (k : Nat) (b a : Array Nat), ((List.replicate k a).foldl (· ++ ·) b).size = b.size + a.size * k
  | 0, b, a => by simp
  | k + 1, b, a => by rw [List.replicate_succ, List.foldl_cons, repS_fold k, Array.size_append, Nat.mul_succ]; omega
theorem repS_length (a : Str) (n : Int) : (repS a n).length ≤ a.length * n.toNat := by
  unfold repS
  by_cases h : n < 1
  · rw [if_pos h]; exact Nat.zero_le _
  · rw [if_neg h]
    have h1 : 1 ≤ n.toNat := by omega
    split
    · exact Nat.le_mul_of_pos_right _ h1
    · show ((List.replicate n.toNat a.cps).foldl (· ++ ·) #[]).size ≤ _
      rw [repS_fold]; show 0 + a.cps.size * _ ≤ _; rw [Nat.zero_add]; exact Nat.le_refl _
def rRepS : R2 := fun x y H Q => ∃ a j, x = .str a ∧ y = .int j ∧ a.length * j.toNat ≤ 16777216 ∧ a.length ≤ 1000 ∧ -(2 ^ 63) ≤ j ∧ j ≤ 100000 ∧ Q (.str (repS a j)) H
theorem op_repS {X : Cx} : OpR X (binaryOp .Mult) rRepS := by
  intro pins s σ H x y v u Q I rx ry h
  obtain ⟨a, j, rfl, rfl, h1, h2, h3, h4, q⟩ := h
  obtain ⟨t, rfl⟩ := rx
  obtain ⟨t2, rfl⟩ := ry
  have hz : a.length * j.toNat ≤ sizeLine := by rw [sizeLine_eq]; exact h1
  have n1 : ¬ j < -(2 ^ 63 : Int) := by omega
  have n2 : ¬ j ≥ (2 ^ 63 : Int) := by omega
  refine PySem.P.mul_str (by rw [decide_eq_false n1, decide_eq_false n2]; rfl) (fun g _ z => ?_) (fun _ _ => ?_) ?_
  · have g1 : (92233720368547 : Int) ≤ (2 ^ 63 - 1) / j := by
      rw [Int.le_ediv_iff_mul_le (by omega)]
      omega
    have : (a.length : Int) ≤ 1000 := by omega
    omega
  · unfold Builtin.Str.tooLong
    exact decide_eq_false (by omega)
  · have hl := repS_length a j
    unfold repS at q hl
    by_cases c : j < 1
    · rw [if_pos c] at q ⊢
      exact ⟨Nat.zero_le _, .str _, H, I.tok _, ⟨_, rfl⟩, q⟩
    · rw [if_neg c] at q hl ⊢
      by_cases c2 : (j == 1 || a.length == 0) = true
      · rw [if_pos c2] at q ⊢
        exact ⟨.str a, H, I, ⟨t, rfl⟩, q⟩
      · rw [if_neg c2] at q hl ⊢
        exact ⟨Nat.le_trans hl hz, .str _, H, I.tok _, ⟨_, rfl⟩, q⟩
def rMulU : R2 := fun x y H Q => rI CMul (fun i j => .int (i * j)) x y H Q ∨ rI CMulW (fun i j => .int (i * j)) x y H Q ∨ rRep x y H Q ∨ rRepS x y H Q
theorem op_mulU {X : Cx} : OpR X (binaryOp .Mult) rMulU := op_mul.or (op_mulW.or (op_rep.or op_repS))
theorem RpL.rep {w : Wd} {H : Hp} {xs : List D} {vs : List V} (h : RpL K mg w H xs vs) : ∀ n : Nat, RpL K mg w H (List.replicate n xs).flatten (List.replicate n vs).flatten
  | 0 => RpL.nil
  | n + 1 => by rw [List.replicate_succ, List.replicate_succ, List.flatten_cons, List.flatten_cons]; exact h.append (RpL.rep h n)
theorem mulU_v [Wo] {c : Bool} : OpV K mg rMulU (gMul c) := by
  intro w S H x y d e Q E s r1 r2 h
  cases e <;> simp only [gMul] at h <;> try exact h.elim
  rename_i j
  have lists : End K mg (fun w H => Rp K mg w H) w H (match seqM S d with
      | some xs => if xs.length * j.toNat ≤ sizeLine ∧ -(2 ^ 63) ≤ j ∧ j < 2 ^ 63 then (if c then mkCel (List.replicate j.toNat xs).flatten S else mkLst (List.replicate j.toNat xs).flatten S) else .no
      | none => .no) Q E → rRep x y H Q := fun h => by
    split at h
    · rename_i xs h1
      split at h
      · rename_i hl
        obtain ⟨a, vs, e1, t1, q1⟩ := seqM_at s r1 h1
        refine ⟨a, j, vs, e1, rp_int r2, t1, hl.2.1, hl.2.2, by rw [← q1.length]; exact hl.1, ?_⟩
        cases c
        · exact (mkLst_at s (q1.rep j.toNat) h).2
        · exact (mkCel_at s (q1.rep j.toNat) h).2
      · exact h.elim
    · exact h.elim
  cases d <;> simp only [] at h
  case int i =>
    split at h
    · rename_i hc
      rcases hc with hc | hc
      · exact .inl ⟨i, j, rp_int r1, rp_int r2, hc, h.ret s rp_i⟩
      · exact .inr (.inl ⟨i, j, rp_int r1, rp_int r2, hc, h.ret s rp_i⟩)
    · exact h.elim
  case str a =>
    split at h
    · rename_i hc
      exact .inr (.inr (.inr ⟨a, j, rp_str r1, rp_int r2, hc.1, hc.2.1, hc.2.2.1, hc.2.2.2, h.ret s rp_s⟩))
    · exact h.elim
  all_goals exact .inr (.inr (.inl (lists h)))
theorem mod_v [Wo] : OpV K mg (rI (fun _ j => 0 < j) fun i j => .int (i % j)) gMod := by
  intro w S H x y d e Q E s r1 r2 h
  cases d <;> cases e <;> simp only [gMod] at h <;> try exact h.elim
  split at h
  · rename_i hc; exact ⟨_, _, rp_int r1, rp_int r2, hc, h.ret s rp_i⟩
  · exact h.elim
theorem div_v [Wo] : OpV K mg (rI CDivW fun i j => .int (i / j)) gDiv := by
  intro w S H x y d e Q E s r1 r2 h
  cases d <;> cases e <;> simp only [gDiv] at h <;> try exact h.elim
  split at h
  · rename_i hc; exact ⟨_, _, rp_int r1, rp_int r2, hc, h.ret s rp_i⟩
  · exact h.elim
theorem pow_v [Wo] : OpV K mg (rI CPow fun i j => .int (i ^ j.toNat)) gPow := by
  intro w S H x y d e Q E s r1 r2 h
  cases d <;> cases e <;> simp only [gPow] at h <;> try exact h.elim
  split at h
  · rename_i hc; exact ⟨_, _, rp_int r1, rp_int r2, hc, h.ret s rp_i⟩
  · exact h.elim
end
def gCmp (p : Int → Int → Bool) (x y : D) (S : Store) : RE D := match x, y with
  | .int i, .int j => .ok (.bl (p i j)) S
  | _, _ => .no
def okPy (d e : PyData) : Bool := d.canLay0 && e.canLay0 && decide (min d.depth e.depth ≤ 200)
/-- a row of anything beside an empty one -/
def eqE (S : Store) (x y : D) : Option Bool := match y with
  | .lst [] => (seqL S x).map (·.isEmpty)
  | .tup [] => (match x with
    | .tup ds => some ds.isEmpty
    | _ => none)
  | .tup [.str b] => (match x with
    | .tup (.str a :: r) => some (a == b && r.isEmpty)
    | _ => none)
  | .str b => (match x with
    | .str a => some (a == b)
    | _ => none)
  | _ => none
def gEq (x y : D) (S : Store) : RE D := match eqE S x y with
  | some b => .ok (.bl b) S
  | none => (match pyS S x, pyS S y with
    | some d, some e => if okPy d e then .ok (.bl (PyData.eqv d e)) S else .no
    | _, _ => .no)
def gNe (x y : D) (S : Store) : RE D := match eqE S x y with
  | some b => .ok (.bl (!b)) S
  | none => (match pyS S x, pyS S y with
    | some d, some e => if okPy d e then .ok (.bl (!PyData.eqv d e)) S else .no
    | _, _ => .no)
def rEqS (K : PySem.W.Frag) (neg : Bool) : R2 := fun x y H Q => (∃ za zb : Str, x = .str za ∧ y = .str zb ∧ Q (.bl (if neg then !(za == zb) else za == zb)) H) ∨ ∃ a b xs, ∃ za zb : Str, x = .ref a ∧ y = .ref b ∧ SqT K H a (.str za :: xs) ∧ SqT K H b [.str zb] ∧ Q (.bl (if neg then !(za == zb && xs.isEmpty) else (za == zb && xs.isEmpty))) H
def rEqE (K : PySem.W.Frag) (neg : Bool) : R2 := fun x y H Q => rEqS K neg x y H Q ∨ ∃ a b xs, x = .ref a ∧ y = .ref b ∧ ((SqL K H a xs ∧ SqL K H b []) ∨ (SqT K H a xs ∧ SqT K H b [])) ∧ Q (.bl (if neg then !xs.isEmpty else xs.isEmpty)) H
def rEqP (K : PySem.W.Frag) : R2 := fun x y H Q => ∃ d e, Dp K H x d ∧ Dp K H y e ∧ okPy d e = true ∧ Q (.bl (PyData.eqv d e)) H
def rNeP (K : PySem.W.Frag) : R2 := fun x y H Q => ∃ d e, Dp K H x d ∧ Dp K H y e ∧ okPy d e = true ∧ Q (.bl (!PyData.eqv d e)) H
theorem okPy_iff {d e : PyData} (h : okPy d e = true) : d.canLay0 = true ∧ e.canLay0 = true ∧ min d.depth e.depth ≤ 200 := by
  unfold okPy at h
  simp only [Bool.and_eq_true, decide_eq_true_eq] at h
  exact ⟨h.1.1, h.1.2, h.2⟩
section
variable {X : Cx}
theorem op_eqP (hu : X.A.units + 200 < cLine) : OpR X (compareOp .Eq) (rEqP X.K) := by
  intro pins s σ H x y v u Q I rx ry h
  obtain ⟨d, e, hd, he, hk, q⟩ := h
  obtain ⟨k1, k2, k3⟩ := okPy_iff hk
  obtain ⟨as, r1⟩ := Dp.reads I d x v hd rx
  obtain ⟨bs, r2⟩ := Dp.reads I e y u he ry
  exact SeqAt.compareEq_reads r1 r2 k1 k2 (by omega) ⟨.bl _, H, I, rfl, q⟩
theorem op_neP (hu : X.A.units + 200 < cLine) : OpR X (compareOp .NotEq) (rNeP X.K) := by
  intro pins s σ H x y v u Q I rx ry h
  obtain ⟨d, e, hd, he, hk, q⟩ := h
  obtain ⟨k1, k2, k3⟩ := okPy_iff hk
  obtain ⟨as, r1⟩ := Dp.reads I d x v hd rx
  obtain ⟨bs, r2⟩ := Dp.reads I e y u he ry
  exact SeqAt.compareNe_reads r1 r2 k1 k2 (by omega) ⟨.bl _, H, I, rfl, q⟩
theorem one_beside {pins : List (Addr × Obj)} {σ : L2.St} {H : Hp} {s : Shared} {a b : Addr} {xs : List V} {za zb : Str} (I : Inv X pins σ H s) (h1 : SqT X.K H a (.str za :: xs)) (h2 : SqT X.K H b [.str zb]) :
    ∃ its its2 : List Value, IsTup s.heap a its.toArray ∧ IsTup s.heap b its2.toArray ∧ its.length = xs.length + 1 ∧ its2.length = 1 ∧ ∀ j (k1 : j < its.toArray.size) (k2 : j < its2.toArray.size), SeqAt.EqAt X.A.in1 s its.toArray[j] its2.toArray[j] ((fun _ => za == zb) j) := by
  obtain ⟨its, rv, t1, _⟩ := I.tuple h1
  obtain ⟨its2, rv2, t2, _⟩ := I.tuple h2
  cases rv with
  | cons r1 rt =>
    cases rv2 with
    | cons r2 rt2 =>
      cases rt2
      obtain ⟨u1, rfl⟩ := r1
      obtain ⟨u2, rfl⟩ := r2
      refine ⟨_, _, t1, t2, by simp [rt.length], rfl, fun j k1 k2 => ?_⟩
      have : j = 0 := by simp at k2; omega
      subst this
      exact SeqAt.EqAt.str_str za u1 zb u2
theorem one_val {α : Type} {xs : List α} {its its2 : List Value} {b : Bool} (l1 : its.length = xs.length + 1) (l2 : its2.length = 1) : ((List.range (min its.toArray.size its2.toArray.size)).all (fun _ => b) && its.toArray.size == its2.toArray.size) = (b && xs.isEmpty) := by
  rw [List.size_toArray, List.size_toArray, l1, l2]
  have : min (xs.length + 1) 1 = 1 := by omega
  rw [this]
  cases xs <;> simp [List.range, List.range.loop]
theorem op_eqE (hu : X.A.units + 200 < cLine) : OpR X (compareOp .Eq) (rEqE X.K false) := by
  intro pins s σ H x y v u Q I rx ry h
  rcases h with (⟨za, zb, rfl, rfl, q⟩ | ⟨a, b, xs, za, zb, rfl, rfl, h1, h2, q⟩) | h
  · obtain ⟨t1, rfl⟩ := rx
    obtain ⟨t2, rfl⟩ := ry
    exact PySem.P.eq_str ⟨.bl _, H, I, congrArg Value.bool (SeqAt.str_beq za zb), q⟩
  · cases rx; cases ry
    obtain ⟨its, its2, t1, t2, l1, l2, he⟩ := one_beside I h1 h2
    refine SeqAt.eq_tupleAt (e := fun _ => za == zb) t1 t2 (by omega) he ⟨.bl _, H, I, ?_, q⟩
    rw [one_val (xs := xs) l1 l2]; rfl
  obtain ⟨a, b, xs, rfl, rfl, hab, q⟩ := h
  cases rx; cases ry
  have hu' : X.A.units < cLine := by omega
  rcases hab with ⟨h1, h2⟩ | ⟨h1, h2⟩
  · obtain ⟨its, rv, t1, _⟩ := I.list h1
    obtain ⟨its2, rv2, t2, _⟩ := I.list h2
    have l1 := rv.length
    have l2 := rv2.length
    cases xs with
    | nil => exact SeqAt.eq_listAt (e := fun _ => true) t1.isList t2.isList (by rw [List.size_toArray, List.size_toArray]; omega) hu' (fun j k1 k2 => by rw [List.size_toArray, ← l1] at k1; exact absurd k1 (Nat.not_lt_zero _)) ⟨.bl _, H, I, by rw [List.all_eq_true.mpr (fun _ _ => rfl)]; rfl, q⟩
    | cons z r => exact SeqAt.eq_list_lengthsAt t1.isList t2.isList (by rw [List.size_toArray, List.size_toArray, ← l1, ← l2]; rfl) hu' ⟨.bl _, H, I, rfl, q⟩
  · obtain ⟨its, rv, t1, _⟩ := I.tuple h1
    obtain ⟨its2, rv2, t2, _⟩ := I.tuple h2
    have l1 := rv.length
    have l2 : its2.length = 0 := by have := rv2.length; simpa using this.symm
    refine SeqAt.eq_tupleAt (e := fun _ => true) t1 t2 hu' (fun j k1 k2 => by rw [List.size_toArray, l2] at k2; exact absurd k2 (Nat.not_lt_zero _)) ⟨.bl _, H, I, ?_, q⟩
    rw [List.all_eq_true.mpr (fun _ _ => rfl), List.size_toArray, List.size_toArray, l2, ← l1]
    cases xs <;> rfl
theorem op_neE (hu : X.A.units + 200 < cLine) : OpR X (compareOp .NotEq) (rEqE X.K true) := by
  intro pins s σ H x y v u Q I rx ry h
  rcases h with (⟨za, zb, rfl, rfl, q⟩ | ⟨a, b, xs, za, zb, rfl, rfl, h1, h2, q⟩) | h
  · obtain ⟨t1, rfl⟩ := rx
    obtain ⟨t2, rfl⟩ := ry
    exact PySem.P.ne_str ⟨.bl _, H, I, congrArg (fun b => Value.bool (!b)) (SeqAt.str_beq za zb), q⟩
  · cases rx; cases ry
    obtain ⟨its, its2, t1, t2, l1, l2, he⟩ := one_beside I h1 h2
    refine SeqAt.RcNeAt.tuples (e := fun _ => za == zb) t1 t2 (by omega) he _ _ _ _ ⟨.bl _, H, I, ?_, q⟩
    rw [one_val (xs := xs) l1 l2]; rfl
  obtain ⟨a, b, xs, rfl, rfl, hab, q⟩ := h
  cases rx; cases ry
  have hu' : X.A.units < cLine := by omega
  rcases hab with ⟨h1, h2⟩ | ⟨h1, h2⟩
  · obtain ⟨its, rv, t1, _⟩ := I.list h1
    obtain ⟨its2, rv2, t2, _⟩ := I.list h2
    have l1 := rv.length
    have l2 := rv2.length
    cases xs with
    | nil => exact SeqAt.RcNeAt.lists (e := fun _ => true) t1.isList t2.isList (by rw [List.size_toArray, List.size_toArray]; omega) hu' (fun j k1 k2 => by rw [List.size_toArray, ← l1] at k1; exact absurd k1 (Nat.not_lt_zero _)) _ _ _ _ ⟨.bl _, H, I, by rw [List.all_eq_true.mpr (fun _ _ => rfl)]; rfl, q⟩
    | cons z r => exact SeqAt.RcNeAt.lists_lengths t1.isList t2.isList (by rw [List.size_toArray, List.size_toArray, ← l1, ← l2]; rfl) hu' _ _ _ _ ⟨.bl _, H, I, rfl, q⟩
  · obtain ⟨its, rv, t1, _⟩ := I.tuple h1
    obtain ⟨its2, rv2, t2, _⟩ := I.tuple h2
    have l1 := rv.length
    have l2 : its2.length = 0 := by have := rv2.length; simpa using this.symm
    refine SeqAt.RcNeAt.tuples (e := fun _ => true) t1 t2 hu' (fun j k1 k2 => by rw [List.size_toArray, l2] at k2; exact absurd k2 (Nat.not_lt_zero _)) _ _ _ _ ⟨.bl _, H, I, ?_, q⟩
    rw [List.all_eq_true.mpr (fun _ _ => rfl), List.size_toArray, List.size_toArray, l2, ← l1]
    cases xs <;> rfl
def rEqU (K : PySem.W.Frag) : R2 := fun x y H Q => rEqE K false x y H Q ∨ rEqP K x y H Q
def rNeU (K : PySem.W.Frag) : R2 := fun x y H Q => rEqE K true x y H Q ∨ rNeP K x y H Q
theorem op_eqU (hu : X.A.units + 200 < cLine) : OpR X (compareOp .Eq) (rEqU X.K) := (op_eqE hu).or (op_eqP hu)
theorem op_neU (hu : X.A.units + 200 < cLine) : OpR X (compareOp .NotEq) (rNeU X.K) := (op_neE hu).or (op_neP hu)
/-- x in ys, a list or a tuple of data -/
def rInP (K : PySem.W.Frag) (neg : Bool) : R2 := fun x y H Q => ∃ d ds, Dp K H x d ∧ (Dp K H y (.list ds) ∨ Dp K H y (.tuple ds)) ∧ d.canLay0 = true ∧ PyData.canLayAll0 ds = true ∧ min (PyData.depthAll ds) d.depth ≤ 190 ∧ Q (.bl (if neg then !ds.any fun z => PyData.eqv z d else ds.any fun z => PyData.eqv z d)) H
theorem op_inP (hu : X.A.units + 200 < cLine) : OpR X (compareOp .In) (rInP X.K false) := by
  intro pins s σ H x y v u Q I rx ry h
  obtain ⟨d, ds, hd, he, k1, k2, k3, q⟩ := h
  obtain ⟨as, r1⟩ := Dp.reads I d x v hd rx
  rcases he with he | he
  · obtain ⟨bs, r2⟩ := Dp.reads I (.list ds) y u he ry
    exact SeqAt.in_list_reads r2 r1 k2 k1 (by omega) ⟨.bl _, H, I, rfl, q⟩
  · obtain ⟨bs, r2⟩ := Dp.reads I (.tuple ds) y u he ry
    exact SeqAt.in_tuple_reads r2 r1 k2 k1 (by omega) ⟨.bl _, H, I, rfl, q⟩
end
/-- in, not in: a list, a tuple, a text -/
def gIn (neg : Bool) (x y : D) (S : Store) : RE D := match pyS S y with
  | some (.str b) => (match x with
    | .str a => .ok (.bl (if neg then !(!(Builtin.Str.occurrences b a 0 b.length 1).isEmpty) else !(Builtin.Str.occurrences b a 0 b.length 1).isEmpty)) S
    | _ => .no)
  | some (.list ds) => (match pyS S x with
    | some d => if d.canLay0 && PyData.canLayAll0 ds && decide (min (PyData.depthAll ds) d.depth ≤ 190) then .ok (.bl (if neg then !ds.any fun z => PyData.eqv z d else ds.any fun z => PyData.eqv z d)) S else .no
    | _ => .no)
  | some (.tuple ds) => (match pyS S x with
    | some d => if d.canLay0 && PyData.canLayAll0 ds && decide (min (PyData.depthAll ds) d.depth ≤ 190) then .ok (.bl (if neg then !ds.any fun z => PyData.eqv z d else ds.any fun z => PyData.eqv z d)) S else .no
    | _ => .no)
  | _ => .no
def rInU (K : PySem.W.Frag) (neg : Bool) : R2 := fun x y H Q => (∃ i j, x = .str i ∧ y = .str j ∧ Q (.bl (if neg then !(!(Builtin.Str.occurrences j i 0 j.length 1).isEmpty) else !(Builtin.Str.occurrences j i 0 j.length 1).isEmpty)) H) ∨ rInP K neg x y H Q
section
variable {X : Cx}
theorem op_inU (hu : X.A.units + 200 < cLine) : OpR X (compareOp .In) (rInU X.K false) := op_in_str.or (op_inP hu)
variable {K : PySem.W.Frag} {mg : Str → Option Value}
theorem eqE_at [Wo] {neg : Bool} {w : Wd} {S : Store} {H : Hp} {x y : V} {d e : D} {b : Bool} {Q : VK} (s : Sto K mg w S H) (r1 : Rp K mg w H d x) (r2 : Rp K mg w H e y) (h : eqE S d e = some b) (q : Q (.bl (if neg then !b else b)) H) : rEqE K neg x y H Q := by
  unfold eqE at h
  split at h
  · obtain ⟨ds, h1, h2⟩ := Option.map_eq_some_iff.mp h
    obtain ⟨a, vs, e1, t1, q1⟩ := seqL_at s r1 h1
    obtain ⟨a2, vs2, e2, t2, q2⟩ := seqL_at s r2 (show seqL S (.lst []) = some [] from rfl)
    unfold RpL at q2
    subst q2
    have : vs.isEmpty = ds.isEmpty := by have := q1.length; cases vs <;> cases ds <;> simp_all
    exact .inr ⟨a, a2, vs, e1, e2, .inl ⟨t1, t2⟩, by rw [this, h2]; exact q⟩
  · split at h
    · rename_i ds
      cases h
      obtain ⟨a, vs, e1, t1, q1⟩ := tup_at r1
      obtain ⟨a2, vs2, e2, t2, q2⟩ := tup_at r2
      unfold RpL at q2
      subst q2
      have : vs.isEmpty = ds.isEmpty := by have := q1.length; cases vs <;> cases ds <;> simp_all
      exact .inr ⟨a, a2, vs, e1, e2, .inr ⟨t1, t2⟩, by rw [this]; exact q⟩
    · cases h
  · split at h
    · rename_i zb _ za ds
      cases h
      obtain ⟨a, vs, e1, t1, q1⟩ := tup_at r1
      obtain ⟨a2, vs2, e2, t2, q2⟩ := tup_at r2
      obtain ⟨v2, rfl, q3⟩ := q2.one_inv
      unfold RpL at q1
      obtain ⟨v1, vt, rfl, q4, q5⟩ := q1
      rw [rp_str q3] at t2
      rw [rp_str q4] at t1
      have : vt.isEmpty = ds.isEmpty := by have := q5.length; cases vt <;> cases ds <;> simp_all
      exact .inl (.inr ⟨a, a2, vt, za, zb, e1, e2, t1, t2, by rw [this]; exact q⟩)
    · cases h
  · split at h
    · cases h
      exact .inl (.inl ⟨_, _, rp_str r1, rp_str r2, q⟩)
    · cases h
  · cases h
theorem eqP_v [Wo] : OpV K mg (rEqU K) gEq := by
  intro w S H x y d e Q E s r1 r2 h
  unfold gEq at h
  split at h
  · rename_i b hb; exact .inl (eqE_at (neg := false) s r1 r2 hb (h.ret s rp_b))
  · split at h
    · rename_i p q h1 h2
      split at h
      · rename_i hk; exact .inr ⟨p, q, pyS_at s d x p r1 h1, pyS_at s e y q r2 h2, hk, h.ret s rp_b⟩
      · exact h.elim
    · exact h.elim
theorem neP_v [Wo] : OpV K mg (rNeU K) gNe := by
  intro w S H x y d e Q E s r1 r2 h
  unfold gNe at h
  split at h
  · rename_i b hb; exact .inl (eqE_at (neg := true) s r1 r2 hb (h.ret s rp_b))
  · split at h
    · rename_i p q h1 h2
      split at h
      · rename_i hk; exact .inr ⟨p, q, pyS_at s d x p r1 h1, pyS_at s e y q r2 h2, hk, h.ret s rp_b⟩
      · exact h.elim
    · exact h.elim
theorem inU_v [Wo] {neg : Bool} : OpV K mg (rInU K neg) (gIn neg) := by
  intro w S H x y d e Q E s r1 r2 h
  unfold gIn at h
  split at h
  · rename_i b h1
    split at h
    · rename_i a
      have ye := pyS_at s e y _ r2 h1
      cases ye
      exact .inl ⟨_, _, rp_str r1, rfl, h.ret s rp_b⟩
    · exact h.elim
  · rename_i ds h1
    split at h
    · rename_i p h2
      split at h
      · rename_i hk
        simp only [Bool.and_eq_true, decide_eq_true_eq] at hk
        exact .inr ⟨p, ds, pyS_at s d x p r1 h2, .inl (pyS_at s e y _ r2 h1), hk.1.1, hk.1.2, hk.2, h.ret s rp_b⟩
      · exact h.elim
    · exact h.elim
  · rename_i ds h1
    split at h
    · rename_i p h2
      split at h
      · rename_i hk
        simp only [Bool.and_eq_true, decide_eq_true_eq] at hk
        exact .inr ⟨p, ds, pyS_at s d x p r1 h2, .inr (pyS_at s e y _ r2 h1), hk.1.1, hk.1.2, hk.2, h.ret s rp_b⟩
      · exact h.elim
    · exact h.elim
  · exact h.elim
theorem cmp_v [Wo] (p : Int → Int → Bool) : OpV K mg (rI0 fun i j => .bl (p i j)) (gCmp p) := by
  intro w S H x y d e Q E s r1 r2 h
  cases d <;> cases e <;> simp only [gCmp] at h <;> try exact h.elim
  exact ⟨_, _, rp_int r1, rp_int r2, h.ret s rp_b⟩
end
/-- whether it is None -/
def isNon (S : Store) : D → Option Bool
  | .non => some true
  | .loc n => (cellOf S n).map fun _ => false
  | _ => some false
/-- is None, is True -/
def gIs (neg : Bool) (x y : D) (S : Store) : RE D := match y with
  | .non => (match isNon S x with
    | some k => .ok (.bl (xor neg k)) S
    | none => .no)
  | .bl b => (match x with
    | .bl a => .ok (.bl (xor neg (decide (a = b)))) S
    | _ => .no)
  | _ => .no
def rIsU (neg : Bool) : R2 := fun x y H Q => (y = .non ∧ Q (.bl (xor neg (decide (x = .non)))) H) ∨ (∃ a b : Bool, x = .bl a ∧ y = .bl b ∧ Q (.bl (xor neg (decide (a = b)))) H)
section
variable {X : Cx}
theorem op_isU : OpR X (compareOp .Is) (rIsU false) := by
  have h := (op_isN (X := X)).or (op_isBl (X := X))
  intro pins s σ H x y v u Q I rx ry q
  refine h pins s σ H x y v u Q I rx ry ?_
  rcases q with ⟨a, b⟩ | ⟨a, b, c, d, e⟩
  · exact .inl ⟨a, by simpa using b⟩
  · exact .inr ⟨a, b, c, d, by simpa using e⟩
variable {K : PySem.W.Frag} {mg : Str → Option Value}
theorem isNon_at [Wo] {w : Wd} {S : Store} {H : Hp} {x : V} {d : D} {k : Bool} (s : Sto K mg w S H) (r1 : Rp K mg w H d x) (h : isNon S d = some k) : decide (x = V.non) = k := by
  cases d with
  | loc n =>
    simp only [isNon, Option.map_eq_some_iff] at h
    obtain ⟨ds, h1, h2⟩ := h
    obtain ⟨a, xs, e, t, q⟩ := seqL_at (S := S) (d := .loc n) s r1 h1
    rw [e, ← h2]; rfl
  | non => simp only [isNon] at h; cases h; rw [rp_non r1]; rfl
  | bl b => simp only [isNon] at h; cases h; rw [rp_bl r1]; rfl
  | int b => simp only [isNon] at h; cases h; rw [rp_int r1]; rfl
  | str b => simp only [isNon] at h; cases h; rw [rp_str r1]; rfl
  | tup ds => simp only [isNon] at h; cases h; unfold Rp at r1; obtain ⟨a, xs, e, _⟩ := r1; rw [e]; rfl
  | lst ds => simp only [isNon] at h; cases h; unfold Rp at r1; obtain ⟨a, xs, e, _⟩ := r1; rw [e]; rfl
  | dic ks ds => simp only [isNon] at h; cases h; unfold Rp at r1; obtain ⟨a, vs, e, _⟩ := r1; rw [e]; rfl
  | ins c fs ds => simp only [isNon] at h; cases h; unfold Rp at r1; obtain ⟨a, C, dx, vs, e, _⟩ := r1; rw [e]; rfl
  | glo n => simp only [isNon] at h; cases h; unfold Rp at r1; obtain ⟨a, e, _⟩ := r1; rw [e]; rfl
  | exn n => simp only [isNon] at h; cases h; unfold Rp at r1; rw [r1]; rfl
  | fls ds => simp only [isNon] at h; cases h; unfold Rp at r1; obtain ⟨a, xs, e, _⟩ := r1; rw [e]; rfl
  | exo c ns ds => simp only [isNon] at h; cases h; unfold Rp at r1; obtain ⟨a, C, od, vs, e, _⟩ := r1; rw [e]; rfl
  | lam i q ob => simp only [isNon] at h; cases h; unfold Rp at r1; obtain ⟨f, c', pm, ctv, e, _⟩ := r1; rw [e]; rfl
theorem isU_v [Wo] {neg : Bool} : OpV K mg (rIsU neg) (gIs neg) := by
  intro w S H x y d e Q E s r1 r2 h
  cases e <;> simp only [gIs] at h <;> try exact h.elim
  · split at h
    · rename_i k hk
      refine .inl ⟨rp_non r2, ?_⟩
      rw [isNon_at s r1 hk]
      exact h.ret s rp_b
    · exact h.elim
  · cases d <;> simp only [] at h <;> try exact h.elim
    exact .inr ⟨_, _, rp_bl r1, rp_bl r2, h.ret s rp_b⟩
end
end Kw
namespace Kw
open PySem PySem.Spec PyProof.Rows L2
section
variable {K : PySem.W.Frag} {mg : Str → Option Value} {w : Wd} {H : Hp} {S : Store}
theorem RpL.atI {ds : List D} {xs : List V} {i : Int} {d : D} (r : RpL K mg w H ds xs) (h : L2.atI ds i = some d) : ∃ v, L2.atI xs i = some v ∧ Rp K mg w H d v := by
  unfold L2.atI at h ⊢
  rw [← r.length]
  cases e : ixN ds.length i with
  | none => rw [e] at h; cases h
  | some j =>
    rw [e] at h
    exact r.get h
end
def gIx (x y : D) (S : Store) : RE D := match y with
  | .int i => (match x with
    | .str z => if z.length ≤ sizeLine then (match L2.atI z.cps.toList i with
      | some c => .ok (.str ⟨#[c]⟩) S
      | none => .no) else .no
    | x => (match seqA S x with
      | some ds => (match L2.atI ds i with
        | some d => .ok d S
        | none => .no)
      | none => .no))
  | _ => .no
section
variable {K : PySem.W.Frag} {mg : Str → Option Value}
theorem ix_v [Wo] : OpV K mg (rIx K) gIx := by
  intro w S H x y d e Q E s r1 r2 h
  cases e <;> simp only [gIx] at h <;> try exact h.elim
  rename_i i
  have seqs : End K mg (fun w H => Rp K mg w H) w H (match seqA S d with
      | some ds => (match L2.atI ds i with
        | some d => .ok d S
        | none => .no)
      | none => .no) Q E → rIx K x y H Q := fun h => by
    split at h
    · rename_i ds h1
      split at h
      · rename_i d' h2
        obtain ⟨a, xs, e1, t1, q1⟩ := seqA_at s r1 h1
        obtain ⟨v, h3, h4⟩ := q1.atI h2
        rcases t1 with t1 | t1
        · exact .inl ⟨a, xs, i, v, e1, rp_int r2, t1, h3, h.ret s h4⟩
        · exact .inr (.inl ⟨a, xs, i, v, e1, rp_int r2, t1, h3, h.ret s h4⟩)
      · exact h.elim
    · exact h.elim
  cases d <;> simp only [] at h
  case str z =>
    split at h
    · rename_i hl
      split at h
      · rename_i c hc
        exact .inr (.inr ⟨z, i, c, rp_str r1, rp_int r2, hl, hc, h.ret s rp_s⟩)
      · exact h.elim
    · exact h.elim
  all_goals exact seqs h
end
section
variable {X : Cx} {W : WX} {a b e : Expr} {es : List Expr} {fa fb : FE} {fs : FA} {pos : Pos}
theorem q_ix [Wo] (ha : PE X a (tF X W fa)) (hb : PE X b (tF X W fb)) (hs : PlainIx b := by intro _ _; rfl) : PE X (.Subscript a b pos) (tF X W (f2 gIx fa fb)) := PE.wk (pe_ix ix_seq ha hb hs) fun σ H Q h => two ix_v h
end
abbrev FO := FEnv → Store → RE (Option Int)
def tO [Wo] (X : Cx) (W : WX) (f : FO) : TO := fun σ H Q => ∃ w ρ S, Sto X.K X.mg w S H ∧ EnvR X.K X.mg w H ρ σ ∧ End X.K X.mg (fun _ _ (a b : Option Int) => b = a) w H (f ρ S) Q (fun c od H' => W c od σ H')
def fNone : FO := fun _ S => .ok none S
def fSome (f : FE) : FO := fun ρ S => (f ρ S).bnd fun x S1 => match x with
  | .int i => .ok (some i) S1
  | _ => .no
def cutL {α : Type} (xs : List α) (lo hi : Option Int) : List α := (xs.drop (HT.sIx xs.length 0 lo)).take (HT.sIx xs.length xs.length hi - HT.sIx xs.length 0 lo)
/-- c: the slice of a list is a cell -/
def gSl (c : Bool) (x : D) (lo hi : Option Int) (S : Store) : RE D := match x with
  | .str z => if z.length ≤ sizeLine then .ok (.str (cutS z lo hi)) S else .no
  | .tup ds => .ok (.tup (cutL ds lo hi)) S
  | x => (match seqL S x with
    | some ds => if c then .ok (.loc S.length) (S ++ [.lst (cutL ds lo hi)]) else .ok (.lst (cutL ds lo hi)) S
    | none => .no)
def fSl (g : D → Option Int → Option Int → Store → RE D) (a : FE) (l u : FO) : FE := fun ρ S => (a ρ S).bnd fun x S1 => (l ρ S1).bnd fun lo S2 => (u ρ S2).bnd fun hi S3 => g x lo hi S3
def rSlU (K : PySem.W.Frag) : V → Option Int → Option Int → Hp → VK → Prop := fun x lo hi H Q => rSlL K x lo hi H Q ∨ rSlA K x lo hi H Q ∨ rSlS x lo hi H Q
theorem sl_U {X : Cx} : SlR X (rSlU X.K) := sl_list.or (sl_tupA.or sl_str)
section
variable {K : PySem.W.Frag} {mg : Str → Option Value} {w : Wd} {H : Hp} {S : Store} {Q : VK} {E : Value → Option Addr → Hp → Prop}
theorem RpL.cut {ds : List D} {xs : List V} (r : RpL K mg w H ds xs) (lo hi : Option Int) : RpL K mg w H (cutL ds lo hi) (cutV xs lo hi) := by
  unfold cutL cutV
  rw [← r.length]
  exact (r.drop _).take _
theorem newLst [Wo] {ds : List D} {xs : List V} {p : Addr} (s : Sto K mg w S H) (r : RpL K mg w H ds xs) (np : H p = none) (h : End K mg (fun w H => Rp K mg w H) w H (.ok (.lst ds) S) Q E) : Q (.ref p) (upd H p (.lst xs)) := by
  refine h w _ _ (Ext.new np) (s.beside np) ?_
  show Rp _ _ _ _ _ _
  unfold Rp
  exact ⟨p, xs, rfl, upd_same, s.new np, RpL.ext (Ext.new np) _ _ r⟩
theorem newTup [Wo] {ds : List D} {xs : List V} {p : Addr} (s : Sto K mg w S H) (r : RpL K mg w H ds xs) (np : H p = none) (h : End K mg (fun w H => Rp K mg w H) w H (.ok (.tup ds) S) Q E) : Q (.ref p) (upd H p (.tup xs)) := by
  refine h w _ _ (Ext.new np) (s.beside np) ?_
  show Rp _ _ _ _ _ _
  unfold Rp
  exact ⟨p, xs, rfl, .inl ⟨upd_same, s.new np⟩, RpL.ext (Ext.new np) _ _ r⟩
theorem newCel [Wo] {ds : List D} {xs : List V} {p : Addr} (s : Sto K mg w S H) (r : RpL K mg w H ds xs) (np : H p = none) (h : End K mg (fun w H => Rp K mg w H) w H (.ok (.loc S.length) (S ++ [.lst ds])) Q E) : Q (.ref p) (upd H p (.lst xs)) := by
  refine h _ _ _ (Ext.cell np) (s.cellNew np r) ?_
  show Rp _ _ _ _ _ _
  unfold Rp
  refine ⟨by show S.length < (w.φ ++ [some p]).length; rw [List.length_append, s.len]; exact Nat.lt_succ_self _, fun a ha => ?_⟩
  have ha' : (w.φ ++ [some p])[S.length]? = some (some a) := ha
  rw [← s.len, List.getElem?_append_right (Nat.le_refl _), Nat.sub_self] at ha'
  simp at ha'; rw [ha']
theorem slU_v [Wo] {c : Bool} {x : V} {d : D} {lo hi : Option Int} (s : Sto K mg w S H) (r1 : Rp K mg w H d x) (h : End K mg (fun w H => Rp K mg w H) w H (gSl c d lo hi S) Q E) : rSlU K x lo hi H Q := by
  have lists : End K mg (fun w H => Rp K mg w H) w H (match seqL S d with
      | some ds => if c then .ok (.loc S.length) (S ++ [.lst (cutL ds lo hi)]) else .ok (.lst (cutL ds lo hi)) S
      | none => .no) Q E → rSlL K x lo hi H Q := fun h => by
    split at h
    · rename_i ds h1
      obtain ⟨a, xs, e1, t1, q1⟩ := seqL_at s r1 h1
      refine ⟨a, xs, e1, t1, fun p np => ?_⟩
      cases c
      · exact newLst s (q1.cut lo hi) np h
      · exact newCel s (q1.cut lo hi) np h
    · exact h.elim
  cases d <;> simp only [gSl] at h
  case str z =>
    split at h
    · rename_i hl; exact .inr (.inr ⟨z, rp_str r1, hl, h.ret s rp_s⟩)
    · exact h.elim
  case tup ds =>
    have r1' := r1
    unfold Rp at r1'
    obtain ⟨a, xs, e1, t1, q1⟩ := r1'
    refine .inr (.inl ⟨a, xs, e1, t1.sq, fun ⟨z1, z2⟩ => ?_, fun _ p np => newTup s (q1.cut lo hi) np h⟩)
    have e2 : cutL ds lo hi = ds := by
      unfold cutL
      rw [q1.length, z1, z2, List.drop_zero, ← q1.length]
      exact List.take_of_length_le (by omega)
    rw [e2] at h
    exact h.ret s (by rw [← e1]; exact r1)
  all_goals exact .inl (lists h)
end
section
variable {X : Cx} {W : WX} {a b e : Expr} {es : List Expr} {fa fb : FE} {fs : FA} {pos : Pos}
theorem q_none [Wo] : PO X none (tO X W fNone) := ⟨fun pins s σ H Q I ⟨w, ρ, S, st, en, h⟩ => po_none.run pins s σ H Q I (h.ret st rfl)⟩
theorem q_some [Wo] (h : PE X e (tF X W fa)) : PO X (some e) (tO X W (fSome fa)) := ⟨fun pins s σ H Q I ⟨w, ρ, S, st, en, hh⟩ => (po_some h).run pins s σ H Q I (by
  refine ⟨w, ρ, S, st, en, (End.bind (R := fun w H => Rp X.K X.mg w H) hh).imp ?_ (fun _ _ _ z => z)⟩
  rintro x H1 ⟨w1, S1, d, e1, s1, r1, h1⟩
  cases d <;> try exact h1.elim
  exact ⟨_, rp_int r1, h1.ret s1 rfl⟩)⟩
theorem q_slice [Wo] {c : Bool} {lo hi : Option Expr} {fl fu : FO} {p2 : Pos} (he : PE X e (tF X W fa)) (hl : PO X lo (tO X W fl)) (hu : PO X hi (tO X W fu)) : PE X (.Subscript e (.Slice lo hi none p2) pos) (tF X W (fSl (gSl c) fa fl fu)) :=
  PE.wk (pe_slice sl_U he hl hu) fun σ H Q ⟨w, ρ, S, s, en, h⟩ => by
    refine ⟨w, ρ, S, s, en, (End.bind h).imp ?_ (fun _ _ _ z => z)⟩
    rintro x H1 ⟨w1, S1, d, e1, s1, r1, h1⟩
    refine ⟨w1, ρ, S1, s1, en.ext e1, (End.bind h1).imp ?_ (fun _ _ _ z => z)⟩
    rintro l H2 ⟨w2, S2, l', e2, s2, r2, h2⟩
    cases r2
    refine ⟨w2, ρ, S2, s2, (en.ext e1).ext e2, (End.bind h2).imp ?_ (fun _ _ _ z => z)⟩
    rintro u H3 ⟨w3, S3, u', e3, s3, r3, h3⟩
    cases r3
    exact slU_v s3 (Rp.ext e3 _ _ (Rp.ext e2 _ _ r1)) h3
end
def gLen : List D → Store → RE D := fun ds S => match ds with
  | [.str z] => if z.length ≤ sizeLine then .ok (.int z.length) S else .no
  | [d] => (match seqA S d with
    | some xs => .ok (.int xs.length) S
    | none => .no)
  | _ => .no
def gInt : List D → Store → RE D := fun ds S => match ds with
  | [.int i] => .ok (.int i) S
  | [.bl k] => .ok (.int (if k then 1 else 0)) S
  | _ => .no
def gList (c : Bool) : List D → Store → RE D := fun ds S => match ds with
  | [d] => (match seqA S d with
    | some xs => if c then .ok (.loc S.length) (S ++ [.lst xs]) else .ok (.lst xs) S
    | none => .no)
  | _ => .no
def gTuple : List D → Store → RE D := fun ds S => match ds with
  | [d] => (match seqA S d with
    | some xs => .ok (.tup xs) S
    | none => .no)
  | _ => .no
def blsOf : List D → Option (List Bool)
  | [] => some []
  | .bl b :: r => (blsOf r).map (b :: ·)
  | _ => none
def gAll : List D → Store → RE D := fun ds S => match ds with
  | [d] => (match (seqL S d).bind blsOf with
    | some bs => .ok (.bl (bs.all id)) S
    | none => .no)
  | _ => .no
def gMax : List D → Store → RE D := fun ds S => match ds with
  | [.int i, .int j] => .ok (.int (if j > i then j else i)) S
  | _ => .no
def gMin : List D → Store → RE D := fun ds S => match ds with
  | [.int i, .int j] => .ok (.int (if j < i then j else i)) S
  | _ => .no
section
variable {K : PySem.W.Frag} {mg : Str → Option Value}
theorem len_v [Wo] : CallV K mg (fun xs H Q => ∃ x n, xs = [x] ∧ LenV K x H n ∧ Q (.int n) H) gLen := by
  intro w S H xs ds Q E s r h
  unfold gLen at h
  split at h
  · rename_i z
    split at h
    · rename_i hl
      obtain ⟨v, rfl, r1⟩ := r.one_inv
      exact ⟨v, z.length, rfl, by rw [rp_str r1]; exact ⟨hl, rfl⟩, h.ret s rp_i⟩
    · exact h.elim
  · rename_i d _
    split at h
    · rename_i ys h1
      obtain ⟨v, rfl, r1⟩ := r.one_inv
      obtain ⟨a, vs, e1, t1, q1⟩ := seqA_at s r1 h1
      refine ⟨v, ys.length, rfl, ?_, h.ret s rp_i⟩
      rw [e1, q1.length]
      rcases t1 with t1 | t1
      · exact .inl ⟨vs, t1, rfl⟩
      · exact .inr ⟨vs, t1, rfl⟩
    · exact h.elim
  · exact h.elim
theorem int_v [Wo] : CallV K mg (fun xs H Q => (∃ i, xs = [.int i] ∧ Q (.int i) H) ∨ ∃ k, xs = [.bl k] ∧ Q (.int (if k then 1 else 0)) H) gInt := by
  intro w S H xs ds Q E s r h
  unfold gInt at h
  split at h
  · obtain ⟨v, rfl, r1⟩ := r.one_inv
    exact .inl ⟨_, by rw [rp_int r1], h.ret s rp_i⟩
  · obtain ⟨v, rfl, r1⟩ := r.one_inv
    exact .inr ⟨_, by rw [rp_bl r1], h.ret s rp_i⟩
  · exact h.elim
theorem list_v [Wo] {c : Bool} : CallV K mg (fun xs H Q => ∃ p ys, xs = [.ref p] ∧ (SqL K H p ys ∨ SqT K H p ys) ∧ ∀ l, H l = none → Q (.ref l) (upd H l (.lst ys))) (gList c) := by
  intro w S H xs ds Q E s r h
  unfold gList at h
  split at h
  · split at h
    · rename_i ys h1
      obtain ⟨v, rfl, r1⟩ := r.one_inv
      obtain ⟨a, vs, e1, t1, q1⟩ := seqA_at s r1 h1
      refine ⟨a, vs, by rw [e1], t1, fun p np => ?_⟩
      cases c
      · exact newLst s q1 np h
      · exact newCel s q1 np h
    · exact h.elim
  · exact h.elim
theorem blsOf_at {w : Wd} {H : Hp} : ∀ {ds : List D} {vs : List V} {bs : List Bool}, RpL K mg w H ds vs → blsOf ds = some bs → vs = bs.map V.bl
  | [], vs, bs, r, h => by unfold RpL at r; simp only [blsOf] at h; cases h; rw [r]; rfl
  | d :: ds, vs, bs, r, h => by
    unfold RpL at r
    obtain ⟨v, vs', e, r1, r2⟩ := r
    cases d <;> simp only [blsOf] at h <;> try (cases h; done)
    simp only [Option.map_eq_some_iff] at h
    obtain ⟨b', h1, h2⟩ := h
    rw [e, ← h2, rp_bl r1, blsOf_at r2 h1]; rfl
theorem all_v [Wo] : CallV K mg (rAll K) gAll := by
  intro w S H xs ds Q E s r h
  unfold gAll at h
  split at h
  · split at h
    · rename_i bs h1
      obtain ⟨v, rfl, r1⟩ := r.one_inv
      simp only [Option.bind_eq_some_iff] at h1
      obtain ⟨ys, h2, h3⟩ := h1
      obtain ⟨a, vs, e1, t1, q1⟩ := seqL_at s r1 h2
      exact ⟨a, bs, by rw [e1], by rw [← blsOf_at q1 h3]; exact t1, h.ret s rp_b⟩
    · exact h.elim
  · exact h.elim
theorem RpL.two_inv {w : Wd} {H : Hp} {d e : D} {vs : List V} (h : RpL K mg w H [d, e] vs) : ∃ v u, vs = [v, u] ∧ Rp K mg w H d v ∧ Rp K mg w H e u := by
  unfold RpL at h
  obtain ⟨v, r, e1, h1, h2⟩ := h
  obtain ⟨u, rfl, h3⟩ := h2.one_inv
  exact ⟨v, u, e1, h1, h3⟩
theorem max_v [Wo] : CallV K mg (fun xs H Q => ∃ i j, xs = [.int i, .int j] ∧ Q (.int (if j > i then j else i)) H) gMax := by
  intro w S H xs ds Q E s r h
  unfold gMax at h
  split at h
  · obtain ⟨v, u, rfl, r1, r2⟩ := r.two_inv
    exact ⟨_, _, by rw [rp_int r1, rp_int r2], h.ret s rp_i⟩
  · exact h.elim
theorem min_v [Wo] : CallV K mg (fun xs H Q => ∃ i j, xs = [.int i, .int j] ∧ Q (.int (if j < i then j else i)) H) gMin := by
  intro w S H xs ds Q E s r h
  unfold gMin at h
  split at h
  · obtain ⟨v, u, rfl, r1, r2⟩ := r.two_inv
    exact ⟨_, _, by rw [rp_int r1, rp_int r2], h.ret s rp_i⟩
  · exact h.elim
end
def tyD (S : Store) : D → Option String
  | .non => some "NoneType"
  | .bl _ => some "bool"
  | .int _ => some "int"
  | .str _ => some "str"
  | .tup _ => some "tuple"
  | .lst _ => some "list"
  | .fls _ => some "list"
  | .dic _ _ => some "dict"
  | .loc n => (cellOf S n).map fun _ => "list"
  | _ => none
def isiB (t T : String) : Bool := t == T || (t == "bool" && T == "int")
def fIsi (T : String) (f : FE) : FE := fun ρ S => (f ρ S).bnd fun x S1 => match tyD S1 x with
  | some t => .ok (.bl (isiB t T)) S1
  | none => .no
theorem tyX_of [Wo] {K : PySem.W.Frag} {mg : Str → Option Value} {w : Wd} {H : Hp} {S : Store} {d : D} {v : V} {t : String} (s : Sto K mg w S H) (r : Rp K mg w H d v) (h : tyD S d = some t) : TyX K H v (.type t) := by
  cases d with
  | non => simp only [tyD] at h; cases h; rw [rp_non r]; exact .base .non
  | bl b => simp only [tyD] at h; cases h; rw [rp_bl r]; exact .base (.bl b)
  | int b => simp only [tyD] at h; cases h; rw [rp_int r]; exact .base (.int b)
  | str b => simp only [tyD] at h; cases h; rw [rp_str r]; exact .base (.str b)
  | tup ds =>
    simp only [tyD] at h; cases h
    unfold Rp at r
    obtain ⟨a, xs, e, t, _⟩ := r
    rw [e]
    rcases t with t | ⟨o, its, n, h1, h2, _⟩
    · exact .base (.tup t.1)
    · exact .kTuple h1 h2
  | lst ds =>
    simp only [tyD] at h; cases h
    unfold Rp at r
    obtain ⟨a, xs, e, t, _⟩ := r
    rw [e]; exact .base (.lst t)
  | dic ks ds =>
    simp only [tyD] at h; cases h
    unfold Rp at r
    obtain ⟨a, xs, e, t, _⟩ := r
    rw [e]; exact .base (.dK t)
  | loc n =>
    simp only [tyD, Option.map_eq_some_iff] at h
    obtain ⟨ds, h1, h2⟩ := h
    obtain ⟨a, xs, h3, h4, h5⟩ := cellOf_at s h1
    unfold Rp at r
    rw [r.2 a h3, ← h2]
    rcases h4 with h4 | ⟨o, h4⟩
    · exact .base (.lst h4)
    · exact .base (.frz h4)
  | fls ds =>
    simp only [tyD] at h; cases h
    unfold Rp at r
    obtain ⟨a, xs, e, t, _⟩ := r
    rw [e]
    rcases t with ⟨o, t, _⟩ | ⟨o, its, n, h1, h2, _⟩
    · exact .base (.frz t)
    · exact .kList h1 h2
  | ins _ _ _ => simp [tyD] at h
  | glo _ => simp [tyD] at h
  | exn _ => simp [tyD] at h
  | exo _ _ _ => simp [tyD] at h
  | lam _ _ _ => simp [tyD] at h
theorem kitB_ok {t T : String} (ht : t ∈ ["NoneType", "bool", "int", "str", "tuple", "list", "dict"]) (hT : T ∈ ["bool", "int", "str", "tuple", "list", "dict"]) : kitB t T = some (isiB t T) := by
  have key : ∀ t ∈ ["NoneType", "bool", "int", "str", "tuple", "list", "dict"], ∀ T ∈ ["bool", "int", "str", "tuple", "list", "dict"], kitB t T = some (isiB t T) := by decide +kernel
  exact key t ht T hT
theorem tyD_mem {S : Store} {d : D} {t : String} (h : tyD S d = some t) : t ∈ ["NoneType", "bool", "int", "str", "tuple", "list", "dict"] := by
  cases d <;> simp only [tyD, Option.map_eq_some_iff] at h <;> first | (cases h; decide) | (obtain ⟨_, _, rfl⟩ := h; decide) | (cases h)
section
variable {X : Cx} {W : WX} {a b e : Expr} {es : List Expr} {fa fb : FE} {fs : FA} {pos : Pos}
theorem q_isi [Wo] {T : String} {x : Str} {p q : Pos} (hg : Gl X "isinstance") (hm : X.mg "isinstance" = none) (hgT : Gl X x) (hmT : X.mg x = none) (hvT : bootBuiltins x = some (.type T)) (hT : T ∈ ["bool", "int", "str", "tuple", "list", "dict"]) (ha : PE X a (tF X W fa))
    (hn : x ≠ "__name__" := by decide) (hd : (x == ("__debug__" : Str)) = false := by decide)
    (h1 : starEach [a, .Name x q] X.env = (false, eval a X.env) :: starEach [.Name x q] X.env := by rfl) (h2 : starEach [.Name x q] X.env = (false, eval (.Name x q) X.env) :: starEach [] X.env := by rfl) (hpl : (backTo pos (starEach [.Name x q] X.env)).any (·.1) = false := by rfl) :
    PE X (.Call (.Name "isinstance" p) [a, .Name x q] [] pos) (tF X W (fIsi T fa)) := by
  have hx : PE X (.Name x q) (tC (.ty T)) := pe_bltn hgT hmT hvT rfl hn hd
  refine PE.wk (pe_callB call_isi hg hm (by decide +kernel) (pa_cons ha (pa_cons hx pa_nil h2) h1) (by decide) (by decide) h1 hpl) fun σ H Q ⟨w, ρ, S, s, en, h⟩ => ?_
  refine ⟨w, ρ, S, s, en, (End.bind (R := fun w H => Rp X.K X.mg w H) h).imp ?_ (fun _ _ _ z => z)⟩
  rintro v H1 ⟨w1, S1, d, e1, s1, r1, h3⟩
  split at h3
  · rename_i t ht
    exact ⟨v, .ty T, .type t, .type T, isiB t T, rfl, .ty T, tyX_of s1 r1 ht, kit_ty (kitB_ok (tyD_mem ht) hT), h3.ret s1 rp_b⟩
  · exact h3.elim
end
section
variable {K : PySem.W.Frag} {mg : Str → Option Value} {w : Wd} {H : Hp} {S : Store}
theorem Ext.write {n : Nat} {l : Addr} {o : HO} (hw : w.φ[n]? = some (some l)) : Ext w H w (upd H l o) := ⟨fun a u e n => by
  have : a ≠ l := fun z => by subst z; exact n (List.mem_of_getElem? hw)
  rw [upd_ne this]; exact e, Nat.le_refl _, fun _ _ h _ => h, fun _ h => .inl h, rfl⟩
theorem Sto.write [Wo] {n : Nat} {l : Addr} {ds : List D} {xs : List V} (s : Sto K mg w S H) (hw : w.φ[n]? = some (some l)) (hn : n < S.length) (r : RpL K mg w H ds xs) : Sto K mg w (S.set n (.lst ds)) (upd H l (.lst xs)) := by
  have ex : Ext w H w (upd H l (.lst xs)) := Ext.write hw
  refine ⟨by rw [List.length_set]; exact s.len, s.nd, fun a ha => ⟨upd_some (s.ap a ha).1, (s.ap a ha).2⟩, fun m c hc => ?_⟩
  by_cases e : m = n
  · subst e
    rw [List.getElem?_set_self hn] at hc
    cases hc
    exact ⟨l, xs, hw, upd_same, RpL.ext ex _ _ r⟩
  · rw [List.getElem?_set_ne (Ne.symm e)] at hc
    refine CellR.ext ex (fun a ha => ⟨ha, ?_⟩) id (s.cell m c hc)
    have : a ≠ l := fun z => by subst z; exact e (s.nd m n a ha hw)
    rw [upd_ne this]
theorem cellM_lt {n : Nat} {ds : List D} (h : cellM S n = some ds) : n < S.length := by
  unfold cellM at h
  split at h
  · rename_i e he; exact (List.getElem?_eq_some_iff.mp he).1
  · cases h
/-- a cell is written -/
theorem wrote [Wo] {n : Nat} {ds ds' : List D} {xs' : List V} {x : V} {Q : VK} {E : Value → Option Addr → Hp → Prop} {d : D} {v : V} (s : Sto K mg w S H) (r : Rp K mg w H (.loc n) x) (h : cellM S n = some ds) (r' : RpL K mg w H ds' xs') (rv : Rp K mg w H d v)
    (he : End K mg (fun w H => Rp K mg w H) w H (.ok d (S.set n (.lst ds'))) Q E) : ∀ l, x = .ref l → Q v (upd H l (.lst xs')) := fun l el => by
  obtain ⟨a, xs, h1, h2, h3⟩ := cellM_at s h
  have e := r.2 a h1
  rw [el] at e; cases e
  exact he w _ v (Ext.write h1) (s.write h1 (cellM_lt h) r') (Rp.ext (Ext.write h1) _ _ rv)
end
def MtV [Wo] (K : PySem.W.Frag) (mg : Str → Option Value) (r : V → List V → Hp → VK → Prop) (g : D → List D → Store → RE D) : Prop :=
  ∀ (w : Wd) (S : Store) (H : Hp) (x : V) (xs : List V) (d : D) (ds : List D) (Q : VK) (E : Value → Option Addr → Hp → Prop), Sto K mg w S H → Rp K mg w H d x → RpL K mg w H ds xs → End K mg (fun w H => Rp K mg w H) w H (g d ds S) Q E → r x xs H Q
def gAppend (x : D) (ds : List D) (S : Store) : RE D := match x, ds with
  | .loc n, [y] => (match cellM S n with
    | some xs => if xs.length < sizeLine then .ok .non (S.set n (.lst (xs ++ [y]))) else .no
    | none => .no)
  | _, _ => .no
def gExtend (x : D) (ds : List D) (S : Store) : RE D := match x, ds with
  | .loc n, [y] => (match cellM S n, seqM S y with
    | some xs, some ys => if xs.length + ys.length ≤ sizeLine then .ok .non (S.set n (.lst (xs ++ ys))) else .no
    | _, _ => .no)
  | _, _ => .no
def gPop0 (x : D) (ds : List D) (S : Store) : RE D := match x, ds with
  | .loc n, [] => (match cellM S n with
    | some xs => (match xs[xs.length - 1]? with
      | some y => .ok y (S.set n (.lst xs.dropLast))
      | none => .no)
    | none => .no)
  | _, _ => .no
def gRev (x : D) (ds : List D) (S : Store) : RE D := match x, ds with
  | .loc n, [] => (match cellM S n with
    | some xs => .ok .non (S.set n (.lst xs.reverse))
    | none => .no)
  | _, _ => .no
section
variable {K : PySem.W.Frag} {mg : Str → Option Value}
theorem RpL.dropLast {w : Wd} {H : Hp} {ds : List D} {xs : List V} (r : RpL K mg w H ds xs) : RpL K mg w H ds.dropLast xs.dropLast := by
  rw [List.dropLast_eq_take, List.dropLast_eq_take, r.length]; exact r.take _
theorem RpL.reverse {w : Wd} {H : Hp} : ∀ {ds : List D} {xs : List V}, RpL K mg w H ds xs → RpL K mg w H ds.reverse xs.reverse
  | [], xs, h => by unfold RpL at h; rw [h]; exact RpL.nil
  | d :: ds, xs, h => by
    unfold RpL at h
    obtain ⟨v, r, e1, h1, h2⟩ := h
    rw [e1, List.reverse_cons, List.reverse_cons]
    exact (RpL.reverse h2).append (RpL.one h1)
theorem append_v [Wo] : MtV K mg rAppend gAppend := by
  intro w S H x xs d ds Q E s r1 r2 h
  unfold gAppend at h
  split at h
  · rename_i n y
    split at h
    · rename_i zs hz
      split at h
      · rename_i hl
        obtain ⟨v, rfl, r3⟩ := r2.one_inv
        obtain ⟨l, vs, e1, t1, q1⟩ := seqM_at (S := S) (d := .loc n) s r1 hz
        exact ⟨l, vs, v, e1, rfl, t1, by rw [← q1.length]; exact hl, wrote s r1 hz (q1.append (RpL.one r3)) rp_n h l e1⟩
      · exact h.elim
    · exact h.elim
  · exact h.elim
theorem extend_v [Wo] : MtV K mg rExtend gExtend := by
  intro w S H x xs d ds Q E s r1 r2 h
  unfold gExtend at h
  split at h
  · rename_i n y
    split at h
    · rename_i zs ys hz hy
      split at h
      · rename_i hl
        obtain ⟨v, rfl, r3⟩ := r2.one_inv
        obtain ⟨l, vs, e1, t1, q1⟩ := seqM_at (S := S) (d := .loc n) s r1 hz
        obtain ⟨b, us, e2, t2, q2⟩ := seqM_at s r3 hy
        exact ⟨l, b, vs, us, e1, by rw [e2], t1, t2, by rw [← q1.length, ← q2.length]; exact hl, wrote s r1 hz (q1.append q2) rp_n h l e1⟩
      · exact h.elim
    · exact h.elim
  · exact h.elim
theorem pop0_v [Wo] : MtV K mg rPop gPop0 := by
  intro w S H x xs d ds Q E s r1 r2 h
  unfold gPop0 at h
  split at h
  · rename_i n
    split at h
    · rename_i zs hz
      split at h
      · rename_i y hy
        obtain ⟨l, vs, e1, t1, q1⟩ := seqM_at (S := S) (d := .loc n) s r1 hz
        obtain ⟨u, h3, h4⟩ := q1.get hy
        unfold RpL at r2
        exact ⟨l, vs, u, e1, r2, t1, by rw [← q1.length]; exact h3, wrote s r1 hz q1.dropLast h4 h l e1⟩
      · exact h.elim
    · exact h.elim
  · exact h.elim
theorem rev_v [Wo] : MtV K mg rReverse gRev := by
  intro w S H x xs d ds Q E s r1 r2 h
  unfold gRev at h
  split at h
  · rename_i n
    split at h
    · rename_i zs hz
      obtain ⟨l, vs, e1, t1, q1⟩ := seqM_at (S := S) (d := .loc n) s r1 hz
      unfold RpL at r2
      exact ⟨l, vs, e1, r2, t1, wrote s r1 hz q1.reverse rp_n h l e1⟩
    · exact h.elim
  · exact h.elim
end
/-- o.m(..), o a list -/
def fMth (g : D → List D → Store → RE D) (o : FE) (a : FA) : FE := fun ρ S => (o ρ S).bnd fun x S1 => match seqL S1 x with
  | some _ => (a ρ S1).bnd fun ds S2 => g x ds S2
  | none => .no
section
variable {X : Cx} {W : WX} {o e : Expr} {es : List Expr} {fo : FE} {fs : FA} {name : Str} {apos cpos : Pos} {id : String} {r : V → List V → Hp → VK → Prop} {g : D → List D → Store → RE D}
theorem q_mth [Wo] (slot : Slot "list" name id) (hty : typeOf (.builtin id) = pure (.type "method_descriptor")) (hm : MtR X id r) (hv : MtV X.K X.mg r g) (ho : PE X o (tF X W fo)) (ha : PA X (e :: es) (tA X W fs))
    (hbase : attributeBase o name X.env (eval o X.env) = eval o X.env := by rfl)
    (hfew : ((backTo cpos (starEach (e :: es) X.env)).all (fun x => !x.1) && (backToKw cpos (keywordEach [] X.env)).all (fun x => x.1.isSome)
      && decide ((e :: es).length + ([] : List Keyword).length + (if ([] : List Keyword).isEmpty then 0 else 1) < 30)) = true := by rfl)
    (hline : (apos.endLine == cpos.line) = true := by rfl) (hs : starEach (e :: es) X.env = (false, eval e X.env) :: starEach es X.env := by rfl) (hplain : (backTo cpos (starEach es X.env)).any (·.1) = false := by rfl) :
    PE X (.Call (.Attribute o name apos) (e :: es) [] cpos) (tF X W (fMth g fo fs)) :=
  PE.wk (pe_bm PySem.F.plainAttrs_list slot hty hm ho ha hbase hfew hline hs hplain) fun σ H Q ⟨w, ρ, S, s, en, h⟩ => by
    refine ⟨w, ρ, S, s, en, (End.bind (R := fun w H => Rp X.K X.mg w H) h).imp ?_ (fun _ _ _ z => z)⟩
    rintro x H1 ⟨w1, S1, d, e1, s1, r1, h1⟩
    split at h1
    · rename_i ys hy
      obtain ⟨a, vs, e2, t2, q2⟩ := seqL_at s1 r1 hy
      refine ⟨by rw [e2]; exact .inl ⟨rfl, vs, t2⟩, w1, ρ, S1, s1, en.ext e1, (End.bind (R := fun w H => RpL X.K X.mg w H) h1).imp ?_ (fun _ _ _ z => z)⟩
      rintro us H2 ⟨w2, S2, ds, e3, s2, r2, h2⟩
      exact hv w2 S2 H2 x us d ds Q _ s2 (Rp.ext e3 _ _ r1) r2 h2
    · exact h1.elim
theorem q_mth0 [Wo] (slot : Slot "list" name id) (hty : typeOf (.builtin id) = pure (.type "method_descriptor")) (hm : MtR X id r) (hv : MtV X.K X.mg r g) (ho : PE X o (tF X W fo))
    (hbase : attributeBase o name X.env (eval o X.env) = eval o X.env := by rfl) (hline : (apos.endLine == cpos.line) = true := by rfl) :
    PE X (.Call (.Attribute o name apos) [] [] cpos) (tF X W (fMth g fo fNil)) :=
  PE.wk (pe_bm0 PySem.F.plainAttrs_list slot hty hm ho hbase hline) fun σ H Q ⟨w, ρ, S, s, en, h⟩ => by
    refine ⟨w, ρ, S, s, en, (End.bind (R := fun w H => Rp X.K X.mg w H) h).imp ?_ (fun _ _ _ z => z)⟩
    rintro x H1 ⟨w1, S1, d, e1, s1, r1, h1⟩
    split at h1
    · rename_i ys hy
      obtain ⟨a, vs, e2, t2, q2⟩ := seqL_at s1 r1 hy
      exact ⟨by rw [e2]; exact .inl ⟨rfl, vs, t2⟩, hv w1 S1 H1 x [] d [] Q _ s1 r1 RpL.nil h1⟩
    · exact h1.elim
end
end Kw
namespace Kw
open PySem PySem.Spec PyProof.Rows L2
abbrev FF := List D → Store → RE D
def spF [Wo] (K : PySem.W.Frag) (mg : Str → Option Value) (m : Nat) (f : FF) : Sp := fun vs H Q E => ∃ w S ds, Sto K mg w S H ∧ RpL K mg w H ds vs ∧ ds.length = m ∧ End K mg (fun w H => Rp K mg w H) w H (f ds S) Q E
/-- room, and nothing is being shown -/
structure RoomG (k : Nat) (A : Around) : Prop where
  rm : Room k A
  gd : A.guards = some []
theorem RoomG.down {k : Nat} {A : Around} (r : RoomG (k + 1) A) (env : Env) : RoomG k (A.deeper env) := ⟨r.rm.deeper env, r.gd⟩
/-- a def's promise where nothing is being shown -/
structure FnG (P : Program) (w : World) (K : PySem.W.Frag) (mg : Str → Option Value) (base : Heap) (k : Nat) (a : Addr) (fd : FuncData) (ps : List Str) (sp : Sp) : Prop where
  size : ∀ vs H Q E, sp vs H Q E → vs.length = ps.length
  runs : ∀ (A : Around) (stk : List Env) (s : Shared) (H : Hp) (ar : Args) (us : List Value) (vs : List V) (Q : VK) (E : XK), RoomG k A → Env0 P w K mg base A stk s H → BindsTo s fd ar (ps.zip us) → Vals vs us → sp vs H Q E →
    codeAny (model P w) A (.call (.ref a) ar) (CR (L2.CX P w) stk P w H s Q E) s
theorem FnG.weak {P : Program} {w : World} {K : PySem.W.Frag} {mg : Str → Option Value} {base : Heap} {k : Nat} {a : Addr} {fd : FuncData} {ps : List Str} {sp sp' : Sp} (F : FnG P w K mg base k a fd ps sp) (h : ∀ vs H Q E, sp' vs H Q E → sp vs H Q E) : FnG P w K mg base k a fd ps sp' :=
  ⟨fun vs H Q E q => F.size vs H Q E (h _ _ _ _ q), fun A stk s H ar us vs Q E hr e0 hb hv hs => F.runs A stk s H ar us vs Q E hr e0 hb hv (h _ _ _ _ hs)⟩
/-- the name x stands for a def that computes f -/
def Cal [Wo] (P : Program) (w : World) (K : PySem.W.Frag) (mg : Str → Option Value) (base : Heap) (k : Nat) (x : Str) (f : FF) : Prop :=
  ∃ a fd ps, FnG P w K mg base k a fd ps (spF K mg ps.length f) ∧ mg x = some (.ref a) ∧ PySem.W.keepIn K (.ref a) = true ∧ Binds K fd ps [] ∧ (∀ ds S, ds.length ≠ ps.length → f ds S = .no) ∧ ps = fd.params.args.map (·.arg) ∧ ∃ oc od osl, K.lookup a = some ⟨oc, od, .func fd, osl⟩
section
variable {X : Cx} {W : WX} {e : Expr} {es : List Expr} {fs : FA} {pos : Pos} {k : Nat} {x : Str} {f : FF} {p : Pos}
theorem run_g {a : Addr} {fd : FuncData} {ps : List Str} {sp : Sp} {pins : List (Addr × Obj)} {σ : L2.St} {H : Hp} {s : Shared} {Q : VK} {us : List Value} {vs : List V} (F : FnG X.prog X.w X.K X.mg X.base k a fd ps sp) (hr : RoomG k X.A) (tk : Takes X W)
    (I : Inv X pins σ H s) (r : Vals vs us) (hbd : BindsTo s fd ⟨us, []⟩ (ps.zip us)) (h : sp vs H Q (WE W σ)) : wpAny (model X.prog X.w) X.A (call (.ref a) us) (EP X pins σ Q) X.xe s :=
  wpAny_call (codeAny_mono (F.runs X.A X.stack s H ⟨us, []⟩ us vs Q (WE W σ) hr I.env0 hbd r h) fun res s' hq => by
    match res, hq with
    | .error e, hq => exact passAt tk σ pins H s e s' I hq
    | .ok (.ret u), hq => exact I.after hq
    | .ok .next, hq => exact hq.elim
    | .ok .brk, hq => exact hq.elim
    | .ok .cont, hq => exact hq.elim)
theorem binds0 {K : PySem.W.Frag} {fd : FuncData} {ps : List Str} (hb : Binds K fd ps []) {s : Shared} {us : List Value} (kin : K.In s.heap) (hl : us.length = ps.length) : BindsTo s fd ⟨us, []⟩ (ps.zip us) := by
  have z := hb s us kin (by simpa using hl)
  simpa using z
theorem q_call [Wo] (C : Cal X.prog X.w X.K X.mg X.base k x f) (hr : RoomG k X.A) (tk : Takes X W) (hg : Gl X x) (ha : PA X (e :: es) (tA X W fs)) (hdb : (x == ("__debug__" : Str)) = false := by decide)
    (he : starEach (e :: es) X.env = (false, eval e X.env) :: starEach es X.env := by rfl) (hpl : (backTo pos (starEach es X.env)).any (·.1) = false := by rfl) : PE X (.Call (.Name x p) (e :: es) [] pos) (tF X W (fArg f fs)) := by
  obtain ⟨a, fd, ps, F, hm, hk, hb, ar, _⟩ := C
  refine ⟨fun pins s σ H Q I ⟨w, ρ, S, s0, en, h⟩ => wpAny_Call_Name_kw (ld_glob I hg hm ?_ hdb)⟩
  refine PySem.W.callWith_K (h₀ := X.base) I.ok.mod.kin hk (thn (ha.run pos pins s σ H (fun vs H1 => spF X.K X.mg ps.length f vs H1 Q (WE W σ)) I
    ⟨w, ρ, S, s0, en, (End.bind (R := fun w H => RpL X.K X.mg w H) h).imp ?_ (fun _ _ _ z => z)⟩) fun us s1 ⟨vs, H1, I1, r, q⟩ => ⟨I1.kIn, run_g (us := us) F hr tk I1 r (binds0 (us := us) hb I1.kIn (by rw [← r.length]; exact F.size _ _ _ _ q)) q⟩) he hpl
  rintro vs H1 ⟨w1, S1, ds, e1, s1, r1, h1⟩
  refine ⟨w1, S1, ds, s1, r1, ?_, h1⟩
  apply Classical.byContradiction
  intro hn
  rw [ar ds S1 hn] at h1
  exact h1
end
inductive RS where
  | nx (ρ : FEnv) (S : Store) | rt (d : D) (S : Store) | bk (ρ : FEnv) (S : Store) | ct (ρ : FEnv) (S : Store) | ex (x : Ex) (ρ : FEnv) (S : Store) | no
abbrev FS := FEnv → Store → RS
def RE.toS {α : Type} (m : RE α) (ρ : FEnv) (k : α → Store → RS) : RS := match m with
  | .ok a S => k a S
  | .ex x S => .ex x ρ S
  | .no => .no
def RS.bnd (m : RS) (k : FS) : RS := match m with
  | .nx ρ S => k ρ S
  | r => r
def EndS [Wo] (K : PySem.W.Frag) (mg : Str → Option Value) (w : Wd) (H : Hp) (r : RS) (D : Ends) (W : WX) : Prop := match r with
  | .nx ρ S => ∀ w' H' σ', Ext w H w' H' → Sto K mg w' S H' → EnvR K mg w' H' ρ σ' → D.nx σ' H'
  | .rt d S => ∀ w' H' v, Ext w H w' H' → Sto K mg w' S H' → Rp K mg w' H' d v → D.rt v H'
  | .bk ρ S => ∀ w' H' σ', Ext w H w' H' → Sto K mg w' S H' → EnvR K mg w' H' ρ σ' → D.bk σ' H'
  | .ct ρ S => ∀ w' H' σ', Ext w H w' H' → Sto K mg w' S H' → EnvR K mg w' H' ρ σ' → D.ct σ' H'
  | .ex x ρ S => ∀ w' H' σ' c od, Ext w H w' H' → Sto K mg w' S H' → EnvR K mg w' H' ρ σ' → ExR K mg w' H' x c od → W c od σ' H'
  | .no => False
def tS [Wo] (X : Cx) (W : WX) (f : FS) : TS := fun D σ H => ∃ w ρ S, Sto X.K X.mg w S H ∧ EnvR X.K X.mg w H ρ σ ∧ EndS X.K X.mg w H (f ρ S) D W
section
variable {K : PySem.W.Frag} {mg : Str → Option Value} {w w1 : Wd} {H H1 : Hp} {r : RS} {D D' : Ends} {W W' : WX} {ρ : FEnv} {σ : L2.St} {S : Store}
theorem EndS.on [Wo] (x : Ext w H w1 H1) (h : EndS K mg w H r D W) : EndS K mg w1 H1 r D W := by
  unfold EndS at h ⊢
  split
  · exact fun w' H' b e s k => h w' H' b (x.trans e) s k
  · exact fun w' H' b e s k => h w' H' b (x.trans e) s k
  · exact fun w' H' b e s k => h w' H' b (x.trans e) s k
  · exact fun w' H' b e s k => h w' H' b (x.trans e) s k
  · exact fun w' H' b c od e s k l => h w' H' b c od (x.trans e) s k l
  · exact h
theorem EndS.imp [Wo] (h : EndS K mg w H r D W) (h1 : ∀ σ H, D.nx σ H → D'.nx σ H) (h2 : ∀ v H, D.rt v H → D'.rt v H) (h3 : ∀ σ H, D.bk σ H → D'.bk σ H) (h4 : ∀ σ H, D.ct σ H → D'.ct σ H) (h5 : ∀ c od σ H, W c od σ H → W' c od σ H) : EndS K mg w H r D' W' := by
  unfold EndS at h ⊢
  split
  · exact fun w' H' b e s k => h1 _ _ (h w' H' b e s k)
  · exact fun w' H' b e s k => h2 _ _ (h w' H' b e s k)
  · exact fun w' H' b e s k => h3 _ _ (h w' H' b e s k)
  · exact fun w' H' b e s k => h4 _ _ (h w' H' b e s k)
  · exact fun w' H' b c od e s k l => h5 _ _ _ _ (h w' H' b c od e s k l)
  · exact h
theorem EndS.of [Wo] {α β : Type} {R : Wd → Hp → α → β → Prop} {m : RE α} {k : α → Store → RS} (h : EndS K mg w H (m.toS ρ k) D W) (en : EnvR K mg w H ρ σ) :
    End K mg R w H m (fun b H1 => ∃ w1 S1 a, Ext w H w1 H1 ∧ Sto K mg w1 S1 H1 ∧ R w1 H1 a b ∧ EndS K mg w1 H1 (k a S1) D W) (fun c od H' => W c od σ H') := by
  cases m with
  | ok a S1 =>
    have h' : EndS K mg w H (k a S1) D W := h
    exact fun w' H' b e s kk => ⟨w', S1, a, e, s, kk, h'.on e⟩
  | ex x S1 => exact fun w' H' c od e s kk => h w' H' σ c od e s (en.ext e) kk
  | no => exact h
theorem EndS.bind [Wo] {k : FS} (h : EndS K mg w H (r.bnd k) D W) : EndS K mg w H r { D with nx := fun σ H1 => ∃ w1 ρ1 S1, Sto K mg w1 S1 H1 ∧ EnvR K mg w1 H1 ρ1 σ ∧ EndS K mg w1 H1 (k ρ1 S1) D W } W := by
  cases r with
  | nx ρ1 S1 =>
    have h' : EndS K mg w H (k ρ1 S1) D W := h
    exact fun w' H' b e s kk => ⟨w', ρ1, S1, s, kk, h'.on e⟩
  | _ => exact h
theorem EnvR.set {i : Nat} {d : Kw.D} {v : V} (en : EnvR K mg w H ρ σ) (r : Rp K mg w H d v) : EnvR K mg w H (ρ.set i (some d)) (σ.set i (some v)) := by
  refine ⟨by rw [List.length_set, List.length_set]; exact en.len, fun j d' h => ?_⟩
  by_cases e : j = i
  · subst e
    have hj : j < ρ.length := by
      have := (List.getElem?_eq_some_iff.mp h).1
      rwa [List.length_set] at this
    rw [List.getElem?_set_self hj] at h
    cases h
    exact ⟨v, by rw [List.getElem?_set_self (en.len ▸ hj)], r⟩
  · rw [List.getElem?_set_ne (Ne.symm e)] at h
    obtain ⟨u, h1, h2⟩ := en.at_ j d' h
    exact ⟨u, by rw [List.getElem?_set_ne (Ne.symm e)]; exact h1, h2⟩
theorem EnvR.wipe1 {i : Nat} (en : EnvR K mg w H ρ σ) : EnvR K mg w H (ρ.set i none) (σ.set i none) := by
  refine ⟨by rw [List.length_set, List.length_set]; exact en.len, fun j d' h => ?_⟩
  by_cases e : j = i
  · subst e
    have hj : j < ρ.length := by
      have := (List.getElem?_eq_some_iff.mp h).1
      rwa [List.length_set] at this
    rw [List.getElem?_set_self hj] at h
    cases h
  · rw [List.getElem?_set_ne (Ne.symm e)] at h
    obtain ⟨u, h1, h2⟩ := en.at_ j d' h
    exact ⟨u, by rw [List.getElem?_set_ne (Ne.symm e)]; exact h1, h2⟩
theorem EndS.nx' [Wo] {ρ' : FEnv} {σ' : L2.St} (h : EndS K mg w H (.nx ρ' S) D W) (s : Sto K mg w S H) (en : EnvR K mg w H ρ' σ') : D.nx σ' H := h w H σ' Ext.refl s en
theorem EndS.rt' [Wo] {d : Kw.D} {v : V} (h : EndS K mg w H (.rt d S) D W) (s : Sto K mg w S H) (r : Rp K mg w H d v) : D.rt v H := h w H v Ext.refl s r
end
def sNil : FS := fun ρ S => .nx ρ S
def sSeq (f g : FS) : FS := fun ρ S => (f ρ S).bnd g
def sExp (f : FE) : FS := fun ρ S => (f ρ S).toS ρ fun _ S1 => .nx ρ S1
def sRet (f : FE) : FS := fun ρ S => (f ρ S).toS ρ fun d S1 => .rt d S1
def sRetN : FS := fun _ S => .rt .non S
def sSet (i : Nat) (f : FE) : FS := fun ρ S => (f ρ S).toS ρ fun d S1 => .nx (ρ.set i (some d)) S1
def sIf (c : FT) (a b : FS) : FS := fun ρ S => (c ρ S).toS ρ fun k S1 => match k with
  | true => a ρ S1
  | false => b ρ S1
section
variable {X : Cx} {W : WX} {st : Stmt} {rest : List Stmt} {f g : FS} {e : Expr} {fe : FE} {pos : Pos}
theorem q_snil [Wo] : PSs X [] (tS X W sNil) := PSs.wk pss_nil fun D σ H ⟨w, ρ, S, s, en, h⟩ => h.nx' s en
theorem q_seq [Wo] (h1 : PS X st (tS X W f)) (h2 : PSs X rest (tS X W g)) : PSs X (st :: rest) (tS X W (sSeq f g)) :=
  PSs.wk (pss_cons h1 h2) fun D σ H ⟨w, ρ, S, s, en, h⟩ => ⟨w, ρ, S, s, en, h.bind⟩
theorem q_last [Wo] (h1 : PS X st (tS X W f)) : PSs X [st] (tS X W f) := pss_one h1
theorem q_expr [Wo] (he : PE X e (tF X W fe)) (hs : swapsWith e none pos.line X.env = pure false := by rfl) : PS X (.Expr e pos) (tS X W (sExp fe)) :=
  PS.wk (ps_expr he hs) fun D σ H ⟨w, ρ, S, s, en, h⟩ => ⟨w, ρ, S, s, en, (h.of (R := fun w H => Rp X.K X.mg w H) en).imp (fun v H1 ⟨w1, S1, d, e1, s1, r1, h1⟩ => h1.nx' s1 (en.ext e1)) (fun _ _ _ z => z)⟩
theorem q_ret [Wo] (he : PE X e (tF X W fe)) : PS X (.Return (some e) pos) (tS X W (sRet fe)) :=
  PS.wk (ps_ret he) fun D σ H ⟨w, ρ, S, s, en, h⟩ => ⟨w, ρ, S, s, en, (h.of (R := fun w H => Rp X.K X.mg w H) en).imp (fun v H1 ⟨w1, S1, d, e1, s1, r1, h1⟩ => h1.rt' s1 r1) (fun _ _ _ z => z)⟩
theorem q_set [Wo] {i : Nat} {x : Str} {pos' : Pos} (hN : X.N.Nodup) (hi : X.N[i]? = some x) (hx : Loc X.env.scope x) (he : PE X e (tF X W fe)) (hs : swapsWith e (some (.Name x pos')) pos.line X.env = pure false := by rfl) (hf : X.fn x = true ∨ X.env.scope.names.lookup x = some .local := by first | exact .inl rfl | exact .inr rfl | assumption) :
    PS X (.Assign [.Name x pos'] e pos) (tS X W (sSet i fe)) :=
  PS.wk (ps_set hN hi hx he hs hf) fun D σ H ⟨w, ρ, S, s, en, h⟩ => ⟨w, ρ, S, s, en, (h.of (R := fun w H => Rp X.K X.mg w H) en).imp (fun v H1 ⟨w1, S1, d, e1, s1, r1, h1⟩ => h1.nx' s1 ((en.ext e1).set r1)) (fun _ _ _ z => z)⟩
theorem q_ifS [Wo] {c : Expr} {a b : List Stmt} {tc : FT} (hc : PT X c (tT X W tc)) (ha : PSs X a (tS X W f)) (hb : PSs X b (tS X W g)) : PS X (.If c a b pos) (tS X W (sIf tc f g)) :=
  PS.wk (ps_if hc ha hb) fun D σ H ⟨w, ρ, S, s, en, h⟩ => ⟨w, ρ, S, s, en, (h.of (R := fun _ _ (a b : Bool) => b = a) en).imp (fun v H1 ⟨w1, S1, d, e1, s1, r1, h1⟩ => by
    cases r1
    cases v with
    | true => rw [if_pos rfl]; exact ⟨w1, ρ, S1, s1, en.ext e1, h1⟩
    | false => rw [if_neg (by decide)]; exact ⟨w1, ρ, S1, s1, en.ext e1, h1⟩) (fun _ _ _ z => z)⟩
end
/-- name op= e: two whole numbers -/
def sAug (i : Nat) (g : D → D → Store → RE D) (f : FE) : FS := fun ρ S => match ρ[i]? with
  | some (some x) => (f ρ S).toS ρ fun y S1 => (g x y S1).toS ρ fun z S2 => .nx (ρ.set i (some z)) S2
  | _ => .no
def gIAdd (x y : D) (S : Store) : RE D := match x, y with
  | .int i, .int j => .ok (.int (i + j)) S
  | _, _ => .no
mutual
/-- no cell from n on is in it -/
def D.under (n : Nat) : D → Bool
  | .tup ds => underL n ds
  | .lst ds => underL n ds
  | .fls ds => underL n ds
  | .dic _ ds => underL n ds
  | .ins _ _ ds => underL n ds
  | .exo _ _ ds => underL n ds
  | .loc m => decide (m < n)
  | _ => true
def underL (n : Nat) : List D → Bool
  | [] => true
  | d :: ds => D.under n d && underL n ds
end
def Cell.under (n : Nat) : Cell → Bool
  | .lst ds => underL n ds
  | .frz ds => underL n ds
  | .dead => true
  | .tab _ => true
  | .sys => true
  | .gst ρ _ => ρ.all fun o => match o with
    | some d => d.under n
    | none => true
  | .ob _ _ ds => underL n ds
  | .dct _ ds => underL n ds
mutual
theorem keyOf_under {n : Nat} : ∀ (d : D) {k : NestedKey}, keyOf d = some k → D.under n d = true
  | .non, _, _ => rfl
  | .bl _, _, h => by simp [keyOf] at h
  | .int _, _, _ => rfl
  | .str _, _, _ => rfl
  | .tup ds, k, h => by
    simp only [keyOf, Option.map_eq_some_iff] at h
    obtain ⟨ks, h1, _⟩ := h
    simpa [D.under] using keysOf_under ds h1
  | .lst _, _, h => by simp [keyOf] at h
  | .dic _ _, _, h => by simp [keyOf] at h
  | .ins _ _ _, _, h => by simp [keyOf] at h
  | .loc _, _, h => by simp [keyOf] at h
  | .glo _, _, _ => rfl
  | .fls _, _, h => by simp [keyOf] at h
  | .exn _, _, _ => rfl
  | .exo _ _ _, _, h => by simp [keyOf] at h
  | .lam _ _ _, _, _ => rfl
theorem keysOf_under {n : Nat} : ∀ (ds : List D) {ks : List NestedKey}, keysOf ds = some ks → underL n ds = true
  | [], _, _ => rfl
  | d :: ds, ks, h => by
    simp only [keysOf] at h
    split at h
    · rename_i k r h1 h2
      simp [underL, keyOf_under d h1, keysOf_under ds h2]
    · cases h
end
/-- the cells ahead of S's end are as they were, or have nothing that was made since -/
def CutOk (S S' : Store) : Prop := S.length ≤ S'.length ∧ ∀ (i : Nat) c, i < S.length → S'[i]? = some c → S[i]? = some c ∨ c.under S.length = true
open Classical in
noncomputable def cutR (S : Store) (r : RE D) : RE D := match r with
  | .ok d S' => if d.under S.length = true ∧ CutOk S S' then .ok d (S'.take S.length) else .no
  | .ex x S' => if underL S.length x.ds = true ∧ CutOk S S' then .ex x (S'.take S.length) else .no
  | .no => .no
def RS.fin (r : RS) : RE D := match r with
  | .nx _ S => .ok .non S
  | .rt d S => .ok d S
  | .ex x _ S => .ex x S
  | _ => .no
/-- a def with m parameters, n names -/
def fnB (m n : Nat) (b : FS) : FF := fun ds S => if ds.length = m then (b (ds.map some ++ List.replicate (n - m) none) S).fin else .no
/-- .. that throws its cells away -/
noncomputable def fnC (m n : Nat) (b : FS) : FF := fun ds S => cutR S (fnB m n b ds S)
section
variable {K : PySem.W.Frag} {mg : Str → Option Value} {w : Wd} {H : Hp} {S S' : Store}
theorem getElem?_of_take {α : Type} {l : List α} {n m : Nat} {x : α} (h : (l.take n)[m]? = some x) : l[m]? = some x ∧ m < n := by
  by_cases e : m < n
  · rw [List.getElem?_take_of_lt e] at h; exact ⟨h, e⟩
  · rw [List.getElem?_eq_none (by rw [List.length_take]; omega)] at h; exact (nomatch h)
def Wd.cut (w : Wd) (n : Nat) : Wd := ⟨w.φ.take n, w.hd⟩
theorem Wd.off_cut {n : Nat} {a : Addr} (h : w.Off a) : (w.cut n).Off a := ⟨fun z => h.1 (List.mem_of_mem_take z), h.2⟩
theorem Tp.cut {n : Nat} {a : Addr} {xs : List V} (h : Tp K w H a xs) : Tp K (w.cut n) H a xs := by
  rcases h with ⟨h, k⟩ | h
  · exact .inl ⟨h, Wd.off_cut k⟩
  · exact .inr h
theorem Fp.cut {n : Nat} {a : Addr} {xs : List V} (h : Fp K w H a xs) : Fp K (w.cut n) H a xs := by
  rcases h with ⟨o, h, k⟩ | h
  · exact .inl ⟨o, h, Wd.off_cut k⟩
  · exact .inr h
mutual
theorem Rp.cut {n : Nat} (hn : n ≤ w.φ.length) : ∀ (d : D) (v : V), d.under n = true → Rp K mg w H d v → Rp K mg (w.cut n) H d v
  | .non, _, _, h => by unfold Rp at h ⊢; exact h
  | .bl _, _, _, h => by unfold Rp at h ⊢; exact h
  | .int _, _, _, h => by unfold Rp at h ⊢; exact h
  | .str _, _, _, h => by unfold Rp at h ⊢; exact h
  | .tup ds, v, b, h => by
    unfold Rp at h ⊢
    obtain ⟨a, xs, e1, t, r⟩ := h
    exact ⟨a, xs, e1, t.cut, RpL.cutW hn ds xs (by simpa [D.under] using b) r⟩
  | .lst ds, v, b, h => by
    unfold Rp at h ⊢
    obtain ⟨a, xs, e1, t, o, r⟩ := h
    exact ⟨a, xs, e1, t, Wd.off_cut o, RpL.cutW hn ds xs (by simpa [D.under] using b) r⟩
  | .dic ks ds, v, b, h => by
    unfold Rp at h ⊢
    obtain ⟨a, vs, e1, t, o, l, r⟩ := h
    exact ⟨a, vs, e1, t, Wd.off_cut o, l, RpL.cutW hn ds vs (by simpa [D.under] using b) r⟩
  | .ins c fs ds, v, b, h => by
    unfold Rp at h ⊢
    obtain ⟨a, C, dx, vs, e1, m, t, o, l, r⟩ := h
    exact ⟨a, C, dx, vs, e1, m, t, Wd.off_cut o, l, RpL.cutW hn ds vs (by simpa [D.under] using b) r⟩
  | .loc m, v, b, h => by
    have hm : m < n := by simpa [D.under] using b
    unfold Rp at h ⊢
    refine ⟨?_, fun a q => h.2 a ?_⟩
    · show m < (w.φ.take n).length
      rw [List.length_take]; omega
    · have q' : (w.φ.take n)[m]? = some (some a) := q
      exact (getElem?_of_take q').1
  | .glo _, _, _, h => by unfold Rp at h ⊢; exact h
  | .exn _, _, _, h => by unfold Rp at h ⊢; exact h
  | .lam i q ob, v, b, h => by
    unfold Rp at h ⊢
    obtain ⟨f, c', pm, ctv, e1, t, o, t2, o2⟩ := h
    exact ⟨f, c', pm, ctv, e1, t, Wd.off_cut o, t2, Wd.off_cut o2⟩
  | .exo c ns ds, v, b, h => by
    unfold Rp at h ⊢
    obtain ⟨a, C, od, vs, e1, m, t, o, z, q, l, r⟩ := h
    exact ⟨a, C, od, vs, e1, m, t, Wd.off_cut o, z, fun d hd => ⟨(q d hd).1, Wd.off_cut (q d hd).2⟩, l, RpL.cutW hn ds vs (by simpa [D.under] using b) r⟩
  | .fls ds, v, b, h => by
    unfold Rp at h ⊢
    obtain ⟨a, xs, e1, t, r⟩ := h
    exact ⟨a, xs, e1, t.cut, RpL.cutW hn ds xs (by simpa [D.under] using b) r⟩
theorem RpL.cutW {n : Nat} (hn : n ≤ w.φ.length) : ∀ (ds : List D) (vs : List V), underL n ds = true → RpL K mg w H ds vs → RpL K mg (w.cut n) H ds vs
  | [], _, _, h => by unfold RpL at h ⊢; exact h
  | d :: ds, vs, b, h => by
    have b' : d.under n = true ∧ underL n ds = true := by simpa [underL] using b
    unfold RpL at h ⊢
    obtain ⟨v, r, e1, h1, h2⟩ := h
    exact ⟨v, r, e1, Rp.cut hn d v b'.1 h1, RpL.cutW hn ds r b'.2 h2⟩
end
mutual
theorem Rp.isUnder : ∀ (d : D) (v : V), Rp K mg w H d v → d.under w.φ.length = true
  | .non, _, h => rfl
  | .bl _, _, h => rfl
  | .int _, _, h => rfl
  | .str _, _, h => rfl
  | .tup ds, v, h => by
    unfold Rp at h
    obtain ⟨a, xs, e1, t, r⟩ := h
    simpa [D.under] using RpL.isUnder ds xs r
  | .lst ds, v, h => by
    unfold Rp at h
    obtain ⟨a, xs, e1, t, o, r⟩ := h
    simpa [D.under] using RpL.isUnder ds xs r
  | .dic ks ds, v, h => by
    unfold Rp at h
    obtain ⟨a, vs, e1, t, o, l, r⟩ := h
    simpa [D.under] using RpL.isUnder ds vs r
  | .ins c fs ds, v, h => by
    unfold Rp at h
    obtain ⟨a, C, dx, vs, e1, m, t, o, l, r⟩ := h
    simpa [D.under] using RpL.isUnder ds vs r
  | .loc m, v, h => by
    unfold Rp at h
    simpa [D.under] using h.1
  | .glo _, _, h => rfl
  | .exn _, _, h => rfl
  | .lam _ _ _, _, h => rfl
  | .exo c ns ds, v, h => by
    unfold Rp at h
    obtain ⟨a, C, od, vs, e1, m, t, o, z, q, l, r⟩ := h
    simpa [D.under] using RpL.isUnder ds vs r
  | .fls ds, v, h => by
    unfold Rp at h
    obtain ⟨a, xs, e1, t, r⟩ := h
    simpa [D.under] using RpL.isUnder ds xs r
theorem RpL.isUnder : ∀ (ds : List D) (vs : List V), RpL K mg w H ds vs → underL w.φ.length ds = true
  | [], _, h => rfl
  | d :: ds, vs, h => by
    unfold RpL at h
    obtain ⟨v, r, e1, h1, h2⟩ := h
    simp [underL, Rp.isUnder d v h1, RpL.isUnder ds r h2]
end
theorem CellR.isUnder [Wo] {c : Cell} {n : Nat} (h : CellR K mg w H c n) : c.under w.φ.length = true := by
  unfold CellR at h
  split at h
  · obtain ⟨_, _, _, _, h⟩ := h; exact RpL.isUnder _ _ h
  · obtain ⟨_, _, _, _, _, h⟩ := h; exact RpL.isUnder _ _ h
  · rfl
  · rfl
  · rfl
  · rename_i ρ σ
    show (ρ.all fun o => match o with
      | some d => D.under w.φ.length d
      | none => true) = true
    rw [List.all_eq_true]
    intro o ho
    cases o with
    | none => rfl
    | some d =>
      obtain ⟨i, hi, e⟩ := List.mem_iff_getElem.mp ho
      obtain ⟨v, _, r⟩ := h.2.at_ i d (by rw [List.getElem?_eq_getElem hi, e])
      exact Rp.isUnder _ _ r
  · obtain ⟨_, _, _, _, _, _, _, _, h⟩ := h; exact RpL.isUnder _ _ h
  · obtain ⟨_, _, _, _, _, _, _, h⟩ := h; exact RpL.isUnder _ _ h
theorem CellR.cut [Wo] {c : Cell} {m n : Nat} (hn : n ≤ w.φ.length) (hm : m < n) (b : c.under n = true) (h : CellR K mg w H c m) : CellR K mg (w.cut n) H c m := by
  have g : (w.cut n).φ[m]? = w.φ[m]? := by
    show (w.φ.take n)[m]? = _
    rw [List.getElem?_take, if_pos hm]
  unfold CellR at h ⊢
  split at h
  · obtain ⟨a, xs, h1, h2, h3⟩ := h; exact ⟨a, xs, by rw [g]; exact h1, h2, RpL.cutW hn _ _ (by simpa [Cell.under] using b) h3⟩
  · obtain ⟨a, xs, o, h1, h2, h3⟩ := h; exact ⟨a, xs, o, by rw [g]; exact h1, h2, RpL.cutW hn _ _ (by simpa [Cell.under] using b) h3⟩
  · show _ = _; rw [g]; exact h
  · obtain ⟨c0, P, ht, h1, ps, h2, h3, h4⟩ := h
    refine ⟨c0, P, ht, by rw [g]; exact h1, ps, h2, h3, fun pos cv hc => ?_⟩
    obtain ⟨c, e1, e2, e3⟩ := h4 pos cv hc
    exact ⟨c, e1, e2, fun z => e3.1 (List.mem_of_mem_take z), e3.2⟩
  · exact ⟨by rw [g]; exact h.1, h.2.1, fun z => h.2.2.1 (List.mem_of_mem_take z), h.2.2.2⟩
  · refine ⟨by rw [g]; exact h.1, h.2.len, fun i d q => ?_⟩
    obtain ⟨v, h1, h2⟩ := h.2.at_ i d q
    have b' := List.all_eq_true.mp b (some d) (List.mem_of_getElem? q)
    exact ⟨v, h1, Rp.cut hn _ _ b' h2⟩
  · obtain ⟨a, C, dx, vs, h1, h2, h3, h4, h5⟩ := h; exact ⟨a, C, dx, vs, by rw [g]; exact h1, h2, h3, h4, RpL.cutW hn _ _ (by simpa [Cell.under] using b) h5⟩
  · obtain ⟨a, es, h1, h2, h3, h4, h5, h6⟩ := h
    exact ⟨a, es, by rw [g]; exact h1, h2, h3, h4, fun x hx => ⟨(h5 x hx).1, let ⟨d, q1, q2⟩ := (h5 x hx).2; ⟨d, q1, Rp.cut hn _ _ (keyOf_under d q1) q2⟩⟩, RpL.cutW hn _ _ (by simpa [Cell.under] using b) h6⟩
theorem Sto.cut [Wo] {w0 : Wd} {H0 : Hp} (s0 : Sto K mg w0 S H0) (s : Sto K mg w S' H) (h : CutOk S S') : Sto K mg (w.cut S.length) (S'.take S.length) H := by
  have hl : S.length ≤ w.φ.length := by rw [s.len]; exact h.1
  refine ⟨by show (w.φ.take _).length = _; rw [List.length_take, List.length_take, s.len], fun m n a h1 h2 => ?_, fun a ha => ⟨(s.ap a ha).1, fun z => (s.ap a ha).2 (List.mem_of_mem_take z)⟩, fun n c hc => ?_⟩
  · have k : ∀ m : Nat, (w.φ.take S.length)[m]? = some (some a) → w.φ[m]? = some (some a) := fun m q => by
      rw [List.getElem?_take] at q
      split at q
      · exact q
      · cases q
    exact s.nd m n a (k m h1) (k n h2)
  · rw [List.getElem?_take] at hc
    split at hc
    · rename_i hn
      have c0 := s.cell n c hc
      refine CellR.cut hl hn ?_ c0
      rcases h.2 n c hn hc with z | z
      · have := (s0.cell n c z).isUnder
        rw [s0.len] at this; exact this
      · exact z
    · cases hc
theorem Ext.cut {w0 : Wd} {H0 : Hp} (e : Ext w0 H0 w H) : Ext w0 H0 (w.cut w0.φ.length) H where
  fr := e.fr
  ln := by show _ ≤ (w.φ.take _).length; rw [List.length_take]; have := e.ln; omega
  ph := fun n a h l => by
    have q : (w.φ.take w0.φ.length)[n]? = some (some a) := h
    exact e.ph n a (getElem?_of_take q).1 l
  nw := fun a h => e.nw a (List.mem_of_mem_take h)
  hd := e.hd
theorem ExR.cutX {n : Nat} {x : Ex} {c : Value} {od : Option Addr} (hn : n ≤ w.φ.length) (b : underL n x.ds = true) (h : ExR K mg w H x c od) : ExR K mg (w.cut n) H x c od := by
  obtain ⟨h1, h2⟩ := h
  refine ⟨h1, ?_⟩
  rcases h2 with h2 | ⟨d, vs, a0, a1, a2, a3, a4, a5⟩
  · exact .inl h2
  · exact .inr ⟨d, vs, a0, a1, a2, Wd.off_cut a3, a4, RpL.cutW hn _ _ b a5⟩
/-- the cells that were made since are thrown away -/
theorem End.cutE [Wo] {Q : VK} {E : Value → Option Addr → Hp → Prop} {r : RE D} (s : Sto K mg w S H) (h : End K mg (fun w H => Rp K mg w H) w H (cutR S r) Q E) : End K mg (fun w H => Rp K mg w H) w H r Q E := by
  cases r with
  | ok d S' =>
    have h' : End K mg (fun w H => Rp K mg w H) w H (cutR S (.ok d S')) Q E := h
    unfold cutR at h'
    simp only at h'
    split at h'
    · rename_i hc
      intro w1 H1 v e s1 r1
      have hl : S.length ≤ w1.φ.length := by rw [s1.len]; exact hc.2.1
      refine h' (w1.cut S.length) H1 v (s.len ▸ e.cut) (Sto.cut s s1 hc.2) (Rp.cut hl d v hc.1 r1)
    · exact h'.elim
  | ex x S' =>
    have h' : End K mg (fun w H => Rp K mg w H) w H (cutR S (.ex x S')) Q E := h
    unfold cutR at h'
    simp only at h'
    split at h'
    · rename_i hc
      intro w1 H1 c od e s1 r1
      have hl : S.length ≤ w1.φ.length := by rw [s1.len]; exact hc.2.1
      refine h' (w1.cut S.length) H1 c od (s.len ▸ e.cut) (Sto.cut s s1 hc.2) (ExR.cutX hl hc.1 r1)
    · exact h'.elim
  | no => exact h
end
theorem envStart {K : PySem.W.Frag} {mg : Str → Option Value} {w : Wd} {H : Hp} {ds : List D} {vs : List V} {N : List Str} (r : RpL K mg w H ds vs) : EnvR K mg w H (ds.map some ++ List.replicate (N.length - ds.length) none) (L2.start N vs) := by
  unfold L2.start
  refine ⟨by simp [r.length], fun i d h => ?_⟩
  by_cases hi : i < ds.length
  · rw [List.getElem?_append_left (by rw [List.length_map]; exact hi), List.getElem?_map] at h
    cases e : ds[i]? with
    | none => rw [e] at h; cases h
    | some d' =>
      rw [e] at h
      have ed : d' = d := by simpa using h
      subst ed
      obtain ⟨v, h1, h2⟩ := r.get e
      refine ⟨v, ?_, h2⟩
      rw [List.getElem?_append_left (by rw [List.length_map, ← r.length]; exact hi), List.getElem?_map, h1]
      rfl
  · rw [List.getElem?_append_right (by rw [List.length_map]; omega)] at h
    have := List.mem_of_getElem? h
    have := List.eq_of_mem_replicate this
    cases this
section
variable {P : Program} {w : World} {K : PySem.W.Frag} {mg : Str → Option Value} {base : Heap}
/-- a def by its body -/
theorem fn_g {x qual : Str} {st : Stmt} {f : Addr} {fd : FuncData} {N ps : List Str} {k : Nat} {sp : Sp} (F : Fun K x qual st f fd) (S : FnScope N ps (defScope st)) (size : ∀ vs H Q E, sp vs H Q E → vs.length = ps.length)
    (hb : ∀ (cdv : Value) (A : Around) (stk : List Env) (s : Shared) (H : Hp) (vs : List V) (Q : VK) (E : XK), RoomG k (A.deeper (envOfC qual (defScope st) s.heap.objs.size f cdv)) → sp vs H Q E →
      ∃ t, PSs (cxOf (L2.CX P w) P w K mg base N qual (defScope st) f cdv A stk s H E) (defBody st) t ∧ t { nx := fun _ H' => Q .non H', rt := Q } (L2.start N vs) H) : FnG P w K mg base (k + 1) f fd ps sp := by
  obtain ⟨oc, od, kV, doc, pm, an, cdv, ct, osl, rfl, lk, hcd⟩ := F.ex
  refine ⟨size, fun A stk s H ar us vs Q E hr e0 hbd hv hsp => ?_⟩
  have up : ∀ b o, base.get? b = some o → s.heap.get? b = some o := fun b o z => (e0.bs b o z).1
  have KX : K.In s.heap := e0.mod.kin.keeps up
  refine codeAny_call_function hr.rm.depth (KX _ _ lk) rfl S.co S.gen rfl (PySem.W.codeRec_of KX hcd) (hbd _ _ _ _ (wpAny_newFunctionEnv_cells S.kind (fun ⟨n, v⟩ hn => ?par) fun env he s1 x => ?run))
  case par =>
    have hn' := S.par n (List.of_mem_zip hn).1
    exact hn'.imp id fun z => ⟨z, PySem.W.cellsFrom_some _ _ _ (.inl z)⟩
  case run =>
    subst he
    obtain ⟨t, ht, hq⟩ := hb cdv A stk s H vs Q E (hr.down _) hsp
    have I0 := inv_start (CX := L2.CX P w) (E := E) S hr.rm.hd e0 (size _ _ _ _ hsp) hv x
    refine ⟨(e0.mod.nolimit.keeps up).keeps x.toInCall.keep, codeAny_func (wpAny_mono (ht.run [] s1 (L2.start N vs) H _ I0 hq) (fun fl s' hs => ?_) fun e s' hs => hs)⟩
    match fl, hs with
    | .ret u, ⟨v, σ', H', J, rv, q⟩ => exact ⟨v, H', J.os, J.bare, J.base, J.hok, rv, q⟩
    | .next, ⟨σ', H', J, q⟩ => exact ⟨.non, H', J.os, J.bare, J.base, J.hok, rfl, q⟩
    | .brk, ⟨_, _, _, q⟩ => exact q.elim
    | .cont, ⟨_, _, _, q⟩ => exact q.elim
theorem fn_ok [Wo] {x qual : Str} {st : Stmt} {f : Addr} {fd : FuncData} {N ps : List Str} {k : Nat} {b : FS} (F : Fun K x qual st f fd) (S : FnScope N ps (defScope st))
    (hb : ∀ (cdv : Value) (A : Around) (outer : List Env) (s : Shared) (H : Hp) (E : XK), RoomG k (A.deeper (envOfC qual (defScope st) s.heap.objs.size f cdv)) →
      PSs (cxOf (L2.CX P w) P w K mg base N qual (defScope st) f cdv A outer s H E) (defBody st) (tS (cxOf (L2.CX P w) P w K mg base N qual (defScope st) f cdv A outer s H E) (fun c d _ H => E c d H) b)) :
    FnG P w K mg base (k + 1) f fd ps (spF K mg ps.length (fnB ps.length N.length b)) := by
  refine fn_g F S (fun vs H Q E ⟨w, st, ds, s, r, l, h⟩ => by rw [← r.length]; exact l) fun cdv A outer s H vs Q E hr ⟨w1, S1, ds, s1, r1, l, h⟩ => ⟨_, hb cdv A outer s H E hr, w1, _, S1, s1, envStart (N := N) r1, ?_⟩
  unfold fnB at h
  rw [if_pos l] at h
  rw [l]
  revert h
  cases hbb : b (ds.map some ++ List.replicate (N.length - ps.length) none) S1 with
  | nx ρ S2 => exact fun h w' H' σ' e s' en => h w' H' _ e s' rp_n
  | rt d S2 => exact fun h w' H' v e s' r' => h w' H' v e s' r'
  | ex x ρ S2 => exact fun h w' H' σ' c od e s' en ex => h w' H' c od e s' ex
  | bk ρ S2 => exact fun h => h.elim
  | ct ρ S2 => exact fun h => h.elim
  | no => exact fun h => h.elim
theorem fun_look {x qual : Str} {st : Stmt} {f : Addr} {fd : FuncData} (F : Fun K x qual st f fd) : ∃ oc od osl, K.lookup f = some ⟨oc, od, .func fd, osl⟩ := by
  obtain ⟨oc, od, kV, doc, pm, an, cdv, ct, osl, rfl, lk, hcd⟩ := F.ex
  exact ⟨oc, od, osl, lk⟩
theorem fun_names {x qual : Str} {st : Stmt} {f : Addr} {fd : FuncData} (F : Fun K x qual st f fd) : fd.params.args.map (·.arg) = (defArgs st).args.map (·.arg) := by
  obtain ⟨oc, od, kV, doc, pm, an, cdv, ct, osl, rfl, lk, hcd⟩ := F.ex
  rfl
theorem spF_cut [Wo] {m : Nat} {f : FF} {k : Nat} {a : Addr} {fd : FuncData} {ps : List Str} (F : FnG P w K mg base k a fd ps (spF K mg m f)) : FnG P w K mg base k a fd ps (spF K mg m (fun ds S => cutR S (f ds S))) :=
  F.weak fun vs H Q E ⟨w1, S1, ds, s1, r1, l, h⟩ => ⟨w1, S1, ds, s1, r1, l, h.cutE s1⟩
theorem fnB_ar {m n : Nat} {b : FS} : ∀ ds S, ds.length ≠ m → fnB m n b ds S = .no := fun ds S h => by unfold fnB; rw [if_neg h]
theorem fnC_ar {m n : Nat} {b : FS} : ∀ ds S, ds.length ≠ m → fnC m n b ds S = .no := fun ds S h => by unfold fnC; rw [fnB_ar ds S h]; rfl
theorem cal_B [Wo] {x : Str} {st : Stmt} {f : Addr} {fd : FuncData} {N ps : List Str} {k : Nat} {b : FS} (F : Fun K x x st f fd) (S : FnScope N ps (defScope st)) (hm : mg x = some (.ref f)) (hbd : Binds K fd ps []) (hps : ps = (defArgs st).args.map (·.arg))
    (hb : ∀ (cdv : Value) (A : Around) (outer : List Env) (s : Shared) (H : Hp) (E : XK), RoomG k (A.deeper (envOfC x (defScope st) s.heap.objs.size f cdv)) →
      PSs (cxOf (L2.CX P w) P w K mg base N x (defScope st) f cdv A outer s H E) (defBody st) (tS (cxOf (L2.CX P w) P w K mg base N x (defScope st) f cdv A outer s H E) (fun c d _ H => E c d H) b)) :
    Cal P w K mg base (k + 1) x (fnB ps.length N.length b) := ⟨f, fd, ps, fn_ok F S hb, hm, F.kp, hbd, fnB_ar, hps.trans (fun_names F).symm, fun_look F⟩
theorem cal_C [Wo] {x : Str} {st : Stmt} {f : Addr} {fd : FuncData} {N ps : List Str} {k : Nat} {b : FS} (F : Fun K x x st f fd) (S : FnScope N ps (defScope st)) (hm : mg x = some (.ref f)) (hbd : Binds K fd ps []) (hps : ps = (defArgs st).args.map (·.arg))
    (hb : ∀ (cdv : Value) (A : Around) (outer : List Env) (s : Shared) (H : Hp) (E : XK), RoomG k (A.deeper (envOfC x (defScope st) s.heap.objs.size f cdv)) →
      PSs (cxOf (L2.CX P w) P w K mg base N x (defScope st) f cdv A outer s H E) (defBody st) (tS (cxOf (L2.CX P w) P w K mg base N x (defScope st) f cdv A outer s H E) (fun c d _ H => E c d H) b)) :
    Cal P w K mg base (k + 1) x (fnC ps.length N.length b) := ⟨f, fd, ps, spF_cut (fn_ok F S hb), hm, F.kp, hbd, fnC_ar, hps.trans (fun_names F).symm, fun_look F⟩
end
end Kw
namespace Kw
open PySem PySem.Spec PyProof.Rows L2
structure Mv (w : Wd) (H : Hp) (w' : Wd) (H' : Hp) : Prop where
  fr : ∀ a o, H a = some o → w.Off a → H' a = some o ∧ w'.Off a
  ln : w.φ.length ≤ w'.φ.length
  ph : ∀ (n : Nat) a, w'.φ[n]? = some (some a) → n < w.φ.length → w.φ[n]? = some (some a)
section
variable {K : PySem.W.Frag} {mg : Str → Option Value} {w w' w'' : Wd} {H H' H'' : Hp} {S : Store}
mutual
theorem Rp.mv (e : Mv w H w' H') : ∀ (d : D) (v : V), Rp K mg w H d v → Rp K mg w' H' d v
  | .non, _, h => by unfold Rp at h ⊢; exact h
  | .bl _, _, h => by unfold Rp at h ⊢; exact h
  | .int _, _, h => by unfold Rp at h ⊢; exact h
  | .str _, _, h => by unfold Rp at h ⊢; exact h
  | .tup ds, v, h => by
    unfold Rp at h ⊢
    obtain ⟨a, xs, e1, t, r⟩ := h
    refine ⟨a, xs, e1, ?_, RpL.mv e ds xs r⟩
    rcases t with ⟨t, n⟩ | t
    · exact .inl (e.fr _ _ t n)
    · exact .inr t
  | .lst ds, v, h => by
    unfold Rp at h ⊢
    obtain ⟨a, xs, e1, t, n, r⟩ := h
    exact ⟨a, xs, e1, (e.fr _ _ t n).1, (e.fr _ _ t n).2, RpL.mv e ds xs r⟩
  | .dic ks ds, v, h => by
    unfold Rp at h ⊢
    obtain ⟨a, vs, e1, t, n, l, r⟩ := h
    exact ⟨a, vs, e1, (e.fr _ _ t n).1, (e.fr _ _ t n).2, l, RpL.mv e ds vs r⟩
  | .ins c fs ds, v, h => by
    unfold Rp at h ⊢
    obtain ⟨a, C, dx, vs, e1, m, t, n, l, r⟩ := h
    exact ⟨a, C, dx, vs, e1, m, (e.fr _ _ t n).1, (e.fr _ _ t n).2, l, RpL.mv e ds vs r⟩
  | .loc n, v, h => by
    unfold Rp at h ⊢
    exact ⟨Nat.lt_of_lt_of_le h.1 e.ln, fun a q => h.2 a (e.ph n a q h.1)⟩
  | .glo _, _, h => by unfold Rp at h ⊢; exact h
  | .exn _, _, h => by unfold Rp at h ⊢; exact h
  | .lam i q ob, v, h => by
    unfold Rp at h ⊢
    obtain ⟨f, c', pm, ctv, e1, t, n, t2, n2⟩ := h
    exact ⟨f, c', pm, ctv, e1, (e.fr _ _ t n).1, (e.fr _ _ t n).2, (e.fr _ _ t2 n2).1, (e.fr _ _ t2 n2).2⟩
  | .exo c ns ds, v, h => by
    unfold Rp at h ⊢
    obtain ⟨a, C, od, vs, e1, m, t, n, z, q, l, r⟩ := h
    exact ⟨a, C, od, vs, e1, m, (e.fr _ _ t n).1, (e.fr _ _ t n).2, z, fun d hd => ⟨(e.fr _ _ (q d hd).1 (q d hd).2).1, (e.fr _ _ (q d hd).1 (q d hd).2).2⟩, l, RpL.mv e ds vs r⟩
  | .fls ds, v, h => by
    unfold Rp at h ⊢
    obtain ⟨a, xs, e1, t, r⟩ := h
    refine ⟨a, xs, e1, ?_, RpL.mv e ds xs r⟩
    rcases t with ⟨o, t, n⟩ | t
    · exact .inl ⟨o, e.fr _ _ t n⟩
    · exact .inr t
theorem RpL.mv (e : Mv w H w' H') : ∀ (ds : List D) (vs : List V), RpL K mg w H ds vs → RpL K mg w' H' ds vs
  | [], _, h => by unfold RpL at h ⊢; exact h
  | d :: ds, vs, h => by
    unfold RpL at h ⊢
    obtain ⟨v, r, e1, h1, h2⟩ := h
    exact ⟨v, r, e1, Rp.mv e d v h1, RpL.mv e ds r h2⟩
end
theorem EnvR.mv {ρ : FEnv} {σ : L2.St} (e : Mv w H w' H') (h : EnvR K mg w H ρ σ) : EnvR K mg w' H' ρ σ := ⟨h.len, fun i d q => by
  obtain ⟨v, h1, h2⟩ := h.at_ i d q
  exact ⟨v, h1, Rp.mv e _ _ h2⟩⟩
theorem TabW.mv {P : Addr} {q : Str} (m : Mv w H w' H') (hP : H' P = H P) (h : TabW w H P q) : TabW w' H' P q := by
  obtain ⟨ps, h1, h2, h3⟩ := h
  refine ⟨ps, by rw [hP]; exact h1, h2, fun pos cv hc => ?_⟩
  obtain ⟨c, e1, e2, e3⟩ := h3 pos cv hc
  exact ⟨c, e1, m.fr _ _ e2 e3⟩
theorem dct_mv {es : DEnt} (e : Mv w H w' H') (h : ∀ x ∈ es, x.1.depth ≤ 8 ∧ ∃ d, keyOf d = some x.1 ∧ Rp K mg w H d x.2.1) : ∀ x ∈ es, x.1.depth ≤ 8 ∧ ∃ d, keyOf d = some x.1 ∧ Rp K mg w' H' d x.2.1 := fun x hx =>
  ⟨(h x hx).1, let ⟨d, q1, q2⟩ := (h x hx).2; ⟨d, q1, Rp.mv e _ _ q2⟩⟩
theorem Ext.mv (e : Ext w H w' H') : Mv w H w' H' := ⟨fun a o h n => ⟨e.fr a o h n.1, e.out h n⟩, e.ln, e.ph⟩
theorem Mv.trans (a : Mv w H w' H') (b : Mv w' H' w'' H'') : Mv w H w'' H'' :=
  ⟨fun c o h n => b.fr c o (a.fr c o h n).1 (a.fr c o h n).2, Nat.le_trans a.ln b.ln, fun n c h l => a.ph n c (b.ph n c h (Nat.lt_of_lt_of_le l a.ln)) l⟩
theorem Mv.refl : Mv w H w H := Ext.refl.mv
/-- the object at C is built, hidden -/
structure ExtD (C : Addr) (w : Wd) (H : Hp) (w' : Wd) (H' : Hp) : Prop where
  c0 : H C = none
  fr : ∀ a o, a ≠ C → H a = some o → some a ∉ w.φ → H' a = some o
  ln : w.φ.length ≤ w'.φ.length
  ph : ∀ (n : Nat) a, w'.φ[n]? = some (some a) → n < w.φ.length → w.φ[n]? = some (some a)
  nw : ∀ a, some a ∈ w'.φ → some a ∈ w.φ ∨ H a = none
  hd : w'.hd = C :: w.hd
theorem ExtD.step {C : Addr} (a : ExtD C w H w' H') (b : Ext w' H' w'' H'') : ExtD C w H w'' H'' where
  c0 := a.c0
  fr := fun c o hc h n => b.fr c o (a.fr c o hc h n) fun z => by
    rcases a.nw c z with z | z
    · exact n z
    · rw [h] at z; cases z
  ln := Nat.le_trans a.ln b.ln
  ph := fun n c h l => a.ph n c (b.ph n c h (Nat.lt_of_lt_of_le l a.ln)) l
  nw := fun c h => by
    rcases b.nw c h with z | z
    · exact a.nw c z
    · by_cases q : some c ∈ w.φ
      · exact .inl q
      · cases e : H c with
        | none => exact .inr rfl
        | some o =>
          have hc : c ≠ C := fun z => by subst z; rw [a.c0] at e; cases e
          rw [a.fr c o hc e q] at z; cases z
  hd := b.hd.trans a.hd
theorem ExtD.poke {C : Addr} {o : HO} (a : ExtD C w H w' H') : ExtD C w H w' (upd H' C o) := ⟨a.c0, fun c u hc h n => by rw [upd_ne hc]; exact a.fr c u hc h n, a.ln, a.ph, a.nw, a.hd⟩
theorem ExtD.mv {C : Addr} (a : ExtD C w H w' H') : Mv w H w' H' := ⟨fun c o h n => by
  have hc : c ≠ C := fun z => by subst z; rw [a.c0] at h; cases h
  refine ⟨a.fr c o hc h n.1, fun z => ?_, fun z => ?_⟩
  · rcases a.nw c z with z | z
    · exact n.1 z
    · rw [h] at z; cases z
  · rw [a.hd] at z
    rcases List.mem_cons.mp z with z | z
    · exact hc z
    · exact n.2 z, a.ln, a.ph⟩
theorem ExtD.begin_ {C : Addr} {o : HO} (hC : H C = none) : ExtD C w H ⟨w.φ, C :: w.hd⟩ (upd H C o) := ⟨hC, fun a u e h _ => by rw [upd_ne e]; exact h, Nat.le_refl _, fun _ _ h _ => h, fun _ h => .inl h, rfl⟩
theorem ExtD.done {C : Addr} (a : ExtD C w H w' H') : Ext w H ⟨w'.φ, w.hd⟩ H' := ⟨fun c o h n => a.fr c o (fun z => by subst z; rw [a.c0] at h; cases h) h n, a.ln, a.ph, a.nw, rfl⟩
theorem Sto.mvd [Wo] {C : Addr} (s : Sto K mg w S H) (hC : H C = none) {o : HO} : Sto K mg ⟨w.φ, C :: w.hd⟩ S (upd H C o) := by
  have m : Mv w H ⟨w.φ, C :: w.hd⟩ (upd H C o) := (ExtD.begin_ hC).mv
  refine ⟨s.len, s.nd, fun a ha => ?_, fun n c hc => ?_⟩
  · rcases List.mem_cons.mp ha with e | ha
    · subst e; exact ⟨by rw [upd_same]; exact fun z => (nomatch z), (s.new hC).1⟩
    · exact ⟨upd_some (s.ap a ha).1, (s.ap a ha).2⟩
  · have c0 := s.cell n c hc
    have ne : ∀ a, w.φ[n]? = some (some a) → upd H C o a = H a := fun a ha => upd_ne fun z => by subst z; exact (s.new hC).1 (List.mem_of_getElem? ha)
    unfold CellR at c0 ⊢
    split at c0
    · obtain ⟨b, xs, h2, h3, h4⟩ := c0; exact ⟨b, xs, h2, by rw [ne b h2]; exact h3, RpL.mv m _ _ h4⟩
    · obtain ⟨b, xs, o', h2, h3, h4⟩ := c0; exact ⟨b, xs, o', h2, by rw [ne b h2]; exact h3, RpL.mv m _ _ h4⟩
    · exact c0
    · obtain ⟨c1, P, ht, t1, t2⟩ := c0; exact ⟨c1, P, ht, t1, TabW.mv m (ne _ t1) t2⟩
    · obtain ⟨h1, h2, h3, ⟨φ, h4, h6⟩, h5⟩ := c0
      exact ⟨h1, List.mem_cons_of_mem _ h2, h3, ⟨φ, by rw [upd_ne (fun z => by rw [z, hC] at h4; cases h4)]; exact h4, h6⟩, h5⟩
    · exact ⟨c0.1, EnvR.mv m c0.2⟩
    · obtain ⟨b, C1, dx, vs, h2, h3, h4, h5, h6⟩ := c0; exact ⟨b, C1, dx, vs, h2, h3, by rw [ne b h2]; exact h4, h5, RpL.mv m _ _ h6⟩
    · obtain ⟨b, es, h2, h3, h4, h5, h6, h7⟩ := c0; exact ⟨b, es, h2, by rw [ne b h2]; exact h3, h4, h5, dct_mv m h6, RpL.mv m _ _ h7⟩
theorem Mv.poke {C : Addr} {o : HO} (hC : C ∈ w.hd) : Mv w H w (upd H C o) := ⟨fun a u h n => ⟨by rw [upd_ne (fun z => by subst z; exact n.2 hC)]; exact h, n⟩, Nat.le_refl _, fun _ _ h _ => h⟩
theorem Sto.poke [Wo] {C : Addr} {o : HO} (s : Sto K mg w S H) (hC : C ∈ w.hd) (hx : ∃ xs, H C = some (.lst xs)) : Sto K mg w S (upd H C o) := by
  have m : Mv w H w (upd H C o) := Mv.poke hC
  refine ⟨s.len, s.nd, fun a ha => ⟨upd_some (s.ap a ha).1, (s.ap a ha).2⟩, fun n c hc => ?_⟩
  have c0 := s.cell n c hc
  have ne : ∀ a, w.φ[n]? = some (some a) → upd H C o a = H a := fun a ha => upd_ne fun z => by subst z; exact (s.ap a hC).2 (List.mem_of_getElem? ha)
  unfold CellR at c0 ⊢
  split at c0
  · obtain ⟨b, xs, h2, h3, h4⟩ := c0; exact ⟨b, xs, h2, by rw [ne b h2]; exact h3, RpL.mv m _ _ h4⟩
  · obtain ⟨b, xs, o', h2, h3, h4⟩ := c0; exact ⟨b, xs, o', h2, by rw [ne b h2]; exact h3, RpL.mv m _ _ h4⟩
  · exact c0
  · obtain ⟨c1, P, ht, t1, t2⟩ := c0; exact ⟨c1, P, ht, t1, TabW.mv m (ne _ t1) t2⟩
  · obtain ⟨h1, h2, h3, ⟨φ, h4, h6⟩, h5⟩ := c0
    obtain ⟨xs, hx⟩ := hx
    exact ⟨h1, h2, h3, ⟨φ, by rw [upd_ne (fun z => by rw [z, hx] at h4; cases h4)]; exact h4, h6⟩, h5⟩
  · exact ⟨c0.1, EnvR.mv m c0.2⟩
  · obtain ⟨b, C1, dx, vs, h2, h3, h4, h5, h6⟩ := c0; exact ⟨b, C1, dx, vs, h2, h3, by rw [ne b h2]; exact h4, h5, RpL.mv m _ _ h6⟩
  · obtain ⟨b, es, h2, h3, h4, h5, h6, h7⟩ := c0; exact ⟨b, es, h2, by rw [ne b h2]; exact h3, h4, h5, dct_mv m h6, RpL.mv m _ _ h7⟩
theorem Mv.show {C : Addr} {h0 : List Addr} (e : w.hd = C :: h0) : Mv w H ⟨w.φ, h0⟩ H := ⟨fun a o h n => ⟨h, n.1, fun z => n.2 (by rw [e]; exact List.mem_cons_of_mem _ z)⟩, Nat.le_refl _, fun _ _ h _ => h⟩
theorem Sto.show [Wo] {C : Addr} {h0 : List Addr} (s : Sto K mg w S H) (e : w.hd = C :: h0) (hx : ∃ xs, H C = some (.lst xs)) : Sto K mg ⟨w.φ, h0⟩ S H := by
  have m : Mv w H ⟨w.φ, h0⟩ H := Mv.show e
  refine ⟨s.len, s.nd, fun a ha => s.ap a (by rw [e]; exact List.mem_cons_of_mem _ ha), fun n c hc => ?_⟩
  have c0 := s.cell n c hc
  unfold CellR at c0 ⊢
  split at c0
  · obtain ⟨b, xs, h2, h3, h4⟩ := c0; exact ⟨b, xs, h2, h3, RpL.mv m _ _ h4⟩
  · obtain ⟨b, xs, o', h2, h3, h4⟩ := c0; exact ⟨b, xs, o', h2, h3, RpL.mv m _ _ h4⟩
  · exact c0
  · obtain ⟨c1, P, ht, t1, t2⟩ := c0; exact ⟨c1, P, ht, t1, TabW.mv m rfl t2⟩
  · obtain ⟨h1, h2, h3, ⟨φ, h4, h6⟩, h5⟩ := c0
    obtain ⟨xs, hx⟩ := hx
    refine ⟨h1, ?_, h3, ⟨φ, h4, h6⟩, h5⟩
    rw [e] at h2
    rcases List.mem_cons.mp h2 with z | z
    · rw [z, hx] at h4; cases h4
    · exact z
  · exact ⟨c0.1, EnvR.mv m c0.2⟩
  · obtain ⟨b, C1, dx, vs, h2, h3, h4, h5, h6⟩ := c0; exact ⟨b, C1, dx, vs, h2, h3, h4, h5, RpL.mv m _ _ h6⟩
  · obtain ⟨b, es, h2, h3, h4, h5, h6, h7⟩ := c0; exact ⟨b, es, h2, h3, h4, h5, dct_mv m h6, RpL.mv m _ _ h7⟩
end
abbrev FG := D → FEnv → Store → Option (FEnv × Store)
abbrev FGs := List D → FEnv → Store → Option (FEnv × Store)
def GOk [Wo] (X : Cx) (w : Wd) (H : Hp) (sl : List Nat) (σ : L2.St) (r : Option (FEnv × Store)) (Q : L2.St → Hp → Prop) : Prop := match r with
  | some (ρ', S') => ∀ w' H' σ', Ext w H w' H' → Sto X.K X.mg w' S' H' → EnvR X.K X.mg w' H' ρ' σ' → (∀ i, i ∉ sl → σ'[i]? = σ[i]?) → σ'.length = σ.length → Q σ' H'
  | none => False
def tG [Wo] (X : Cx) (sl : List Nat) (g : FG) : TG := fun v σ H Q => ∃ w ρ S d, Sto X.K X.mg w S H ∧ EnvR X.K X.mg w H ρ σ ∧ Rp X.K X.mg w H d v ∧ GOk X w H sl σ (g d ρ S) Q
theorem PG.wk {X : Cx} {e : Expr} {t t' : TG} (h : PG X e t) (m : ∀ v σ H Q, t' v σ H Q → t v σ H Q) : PG X e t' := ⟨fun pins s σ H v u Q I r k => h.run pins s σ H v u Q I r (m v σ H Q k)⟩
def gN (i : Nat) : FG := fun d ρ S => some (ρ.set i (some d), S)
def gsCons (g : FG) (gs : FGs) : FGs := fun ds ρ S => match ds with
  | d :: r => (match g d ρ S with
    | some (ρ1, S1) => gs r ρ1 S1
    | none => none)
  | [] => none
def gTu (n : Nat) (gs : FGs) : FG := fun d ρ S => match d with
  | .tup ds => if ds.length = n then gs ds ρ S else none
  | _ => none
def gSetI (o i d : D) (S : Store) : Option Store := match o, i with
  | .loc n, .int k => (match cellM S n with
    | some xs => (match ixN xs.length k with
      | some j => some (S.set n (.lst (xs.set j d)))
      | none => none)
    | none => none)
  | _, _ => none
def gSb (fo fi : FE) : FG := fun d ρ S => match fo ρ S with
  | .ok o S1 => (match fi ρ S1 with
    | .ok i S2 => (match gSetI o i d S2 with
      | some S3 => some (ρ, S3)
      | none => none)
    | _ => none)
  | _ => none
section
variable {X : Cx} {W : WX} {pos : Pos} {e : Expr} {es : List Expr}
theorem GOk.imp [Wo] {w : Wd} {H : Hp} {sl sl' : List Nat} {σ : L2.St} {r : Option (FEnv × Store)} {Q Q' : L2.St → Hp → Prop} (h : GOk X w H sl σ r Q) (hs : ∀ i, i ∉ sl → i ∉ sl') (hq : ∀ σ H, Q σ H → Q' σ H) : GOk X w H sl' σ r Q' := by
  unfold GOk at h ⊢
  split
  · intro w' H' σ' e s en k l
    exact hq _ _ (h w' H' σ' e s en (fun i hi => k i (hs i hi)) l)
  · exact h
theorem q_gn [Wo] {i : Nat} {x : Str} (hN : X.N.Nodup) (hi : X.N[i]? = some x) (hx : Loc X.env.scope x) (hf : X.fn x = true ∨ X.env.scope.names.lookup x = some .local := by first | exact .inl rfl | exact .inr rfl | assumption) : PG X (.Name x pos) (tG X [i] (gN i)) :=
  PG.wk (pg_name hN hi hx hf) fun v σ H Q ⟨w, ρ, S, d, s, en, r, h⟩ => h w H _ Ext.refl s (en.set r) (fun j hj => by
    rw [List.getElem?_set_ne (fun z => hj (by rw [z]; exact List.mem_singleton.mpr rfl))]) (by rw [List.length_set])
theorem setI_at [Wo] {w : Wd} {S S' : Store} {H : Hp} {o i d : D} {ov iv v : V} (s : Sto X.K X.mg w S H) (ro : Rp X.K X.mg w H o ov) (ri : Rp X.K X.mg w H i iv) (rd : Rp X.K X.mg w H d v) (h : gSetI o i d S = some S') {Q : Hp → Prop} (hq : ∀ H', Ext w H w H' → Sto X.K X.mg w S' H' → Q H') : rSetL ov iv v H Q := by
  unfold gSetI at h
  split at h
  · rename_i n k
    split at h
    · rename_i xs hx
      split at h
      · rename_i j hj
        cases h
        obtain ⟨a, vs, h1, h2, h3⟩ := cellM_at s hx
        unfold Rp at ro
        refine ⟨a, vs, k, j, ro.2 a h1, rp_int ri, h2, by rw [← h3.length]; exact hj, hq _ (Ext.write h1) (s.write h1 (cellM_lt hx) (h3.set j rd))⟩
      · cases h
    · cases h
  · cases h
theorem q_gsb [Wo] {o i : Expr} {fo fi : FE} (ho : PE X o (tF X W fo)) (hi : PE X i (tF X W fi)) (ha : ∀ v, assign (.Subscript o i pos) X.env v = (do
      let ov ← holding [v] (eval o X.env)
      let iv ← holding [v, ov] (eval i X.env)
      standAt pos
      holding [v, ov, iv] (setItem ov iv v)
      release [v, ov, iv] []) := by intro _; rfl) : PG X (.Subscript o i pos) (tG X [] (gSb fo fi)) :=
  PG.wk (pg_sub ho hi set_list ha) fun v σ H Q ⟨w, ρ, S, d, s, en, r, h⟩ => by
    unfold gSb at h
    split at h
    · rename_i od S1 h1
      split at h
      · rename_i id S2 h2
        split at h
        · rename_i S3 h3
          refine ⟨w, ρ, S, s, en, ?_⟩
          rw [h1]
          intro w1 H1 ov e1 s1 r1
          refine ⟨w1, ρ, S1, s1, en.ext e1, ?_⟩
          rw [h2]
          intro w2 H2 iv e2 s2 r2
          have ex := e1.trans e2
          refine setI_at s2 (Rp.ext e2 _ _ r1) r2 (Rp.ext ex _ _ r) h3 fun H3 e3 s3 => ?_
          exact h w2 H3 σ (ex.trans e3) s3 (en.ext (ex.trans e3)) (fun _ _ => rfl) rfl
        · exact h.elim
      · exact h.elim
    · exact h.elim
/-- target = value -/
def sAsg (f : FE) (g : FG) : FS := fun ρ S => (f ρ S).toS ρ fun d S1 => match g d ρ S1 with
  | some (ρ', S') => .nx ρ' S'
  | none => .no
theorem q_asg [Wo] {tg : Expr} {fe : FE} {g : FG} {sl : List Nat} (he : PE X e (tF X W fe)) (hg : PG X tg (tG X sl g)) (hs : swapsWithSole [tg] e pos.line X.env = pure false := by rfl) (hw : swappedStores [tg] e X.env = pure none := by rfl) (h1 : (assignEach [tg] X.env).map (·.2) = [assign tg X.env] := by rfl) : PS X (.Assign [tg] e pos) (tS X W (sAsg fe g)) :=
  PS.wk (ps_asg he hg hs hw h1) fun D σ H ⟨w, ρ, S, s, en, h⟩ => ⟨w, ρ, S, s, en, (h.of (R := fun w H => Rp X.K X.mg w H) en).imp (fun v H1 ⟨w1, S1, d, e1, s1, r1, h1⟩ => by
    refine ⟨w1, ρ, S1, d, s1, en.ext e1, r1, ?_⟩
    split at h1
    · rename_i ρ' S' hg'
      rw [hg']
      intro w2 H2 σ2 e2 s2 en2 _ _
      exact h1 w2 H2 σ2 e2 s2 en2
    · exact h1.elim) (fun _ _ _ z => z)⟩
/-- a, b = x, y -/
def sPar (i j : Nat) (f : FA) : FS := fun ρ S => (f ρ S).toS ρ fun ds S1 => match ds with
  | [x, y] => .nx ((ρ.set i (some x)).set j (some y)) S1
  | _ => .no
theorem q_par [Wo] {i j : Nat} {x y : Str} {a b : Expr} {fa : FA} {px py pt : Pos} {kt k2 pt2} (hc : X.calm = true) (hN : X.N.Nodup) (hi : X.N[i]? = some x) (hj : X.N[j]? = some y) (hij : i ≠ j)
    (hx : X.env.scope.names.lookup x = some .local) (hy : X.env.scope.names.lookup y = some .local) (ha : PA X [a, b] (tA X W fa))
    (hw : swappedStores [.Tuple [.Name x px, .Name y py] kt pt] (.Tuple [a, b] k2 pt2) X.env = pure (some [x, y]))
    (hs : swapsWithSole [.Tuple [.Name x px, .Name y py] kt pt] (.Tuple [a, b] k2 pt2) pos.line X.env = pure false := by rfl) : PS X (.Assign [.Tuple [.Name x px, .Name y py] kt pt] (.Tuple [a, b] k2 pt2) pos) (tS X W (sPar i j fa)) :=
  PS.wk (ps_par hc hN hi hj hij hx hy ha hw hs) fun D σ H ⟨w, ρ, S, s, en, h⟩ => ⟨w, ρ, S, s, en, (h.of (R := fun w H => RpL X.K X.mg w H) en).imp (fun v H1 ⟨w1, S1, ds, e1, s1, r1, h1⟩ => by
    split at h1
    · obtain ⟨u, t, e2, r2, r3⟩ := r1.two_inv
      exact ⟨u, t, e2, h1.nx' s1 (((en.ext e1).set r2).set r3)⟩
    · exact h1.elim) (fun _ _ _ z => z)⟩
end
abbrev Its' := List D × Option (Nat × List D)
/-- the list that is walked is as it was -/
def gd (g : Option (Nat × List D)) (S : Store) : Prop := match g with
  | none => True
  | some (n, ds) => cellOf S n = some ds
open Classical in
noncomputable def gchk (g : Option (Nat × List D)) (S : Store) {α : Type} (a b : α) : α := if gd g S then a else b
def ItOk [Wo] (K : PySem.W.Frag) (mg : Str → Option Value) (w : Wd) (H : Hp) (p : Its') (J : It) : Prop :=
  ∀ w' S' H', Mv w H w' H' → Sto K mg w' S' H' → gd p.2 S' → (∀ i, p.1.length ≤ i → J.stop i H') ∧ ∀ i d, p.1[i]? = some d → J.go i H' ∧ ∀ x H'', J.yld i H' x H'' → Ext w' H' w' H'' ∧ Sto K mg w' S' H'' ∧ Rp K mg w' H'' d x
abbrev FI := FEnv → Store → RE Its'
def tI [Wo] (X : Cx) (W : WX) (f : FI) : TI := fun σ H R => ∃ w ρ S, Sto X.K X.mg w S H ∧ EnvR X.K X.mg w H ρ σ ∧ End X.K X.mg (ItOk X.K X.mg) w H (f ρ S) R (fun c od H' => W c od σ H')
theorem PI.wk {X : Cx} {tg e : Expr} {t t' : TI} (h : PI X tg e t) (m : ∀ σ H R, t' σ H R → t σ H R) : PI X tg e t' := ⟨fun pins s σ H R I k => h.run pins s σ H R I (m σ H R k)⟩
/-- a list or a tuple -/
def iSeq (S : Store) : D → Option Its'
  | .lst ds => some (ds, none)
  | .fls ds => some (ds, none)
  | .loc n => (cellOf S n).map fun ds => (ds, some (n, ds))
  | _ => none
def fiL (f : FE) : FI := fun ρ S => (f ρ S).bnd fun x S1 => match iSeq S1 x with
  | some p => .ok p S1
  | none => .no
def fiT (f : FE) : FI := fun ρ S => (f ρ S).bnd fun x S1 => match x with
  | .tup ds => .ok (ds, none) S1
  | _ => .no
def chrs (z : Str) : List D := z.cps.toList.map fun c => .str ⟨#[c]⟩
def fiS (f : FE) : FI := fun ρ S => (f ρ S).bnd fun x S1 => match x with
  | .str z => .ok (chrs z, none) S1
  | _ => .no
def rngD (lo : Int) : Nat → List D
  | 0 => []
  | n + 1 => .int lo :: rngD (lo + 1) n
def fiR1 (f : FA) : FI := fun ρ S => (f ρ S).bnd fun ds S1 => match ds with
  | [.int j] => if -(2 ^ 62) ≤ j ∧ j < 2 ^ 62 then .ok (rngD 0 j.toNat, none) S1 else .no
  | _ => .no
def zipD : List D → List D → List D
  | a :: r, b :: q => .tup [a, b] :: zipD r q
  | _, _ => []
section
variable {K : PySem.W.Frag} {mg : Str → Option Value} {w w' : Wd} {H H' : Hp} {S S' : Store}
/-- a walked list, at any later time -/
theorem iSeq_at [Wo] {x : D} {v : V} {p : Its'} (s : Sto K mg w S H) (r : Rp K mg w H x v) (h : iSeq S x = some p) : ∃ a, v = .ref a ∧ (∃ xs, SqL K H a xs) ∧
    ∀ w' S' H', Mv w H w' H' → Sto K mg w' S' H' → gd p.2 S' → ∃ xs, SqL K H' a xs ∧ RpL K mg w' H' p.1 xs := by
  cases x <;> simp only [iSeq] at h <;> try (cases h; done)
  · cases h
    unfold Rp at r
    obtain ⟨a, xs, e, t, o, q⟩ := r
    refine ⟨a, e, ⟨xs, .of t⟩, fun w' S' H' m s' _ => ?_⟩
    obtain ⟨t', o'⟩ := m.fr a _ t o
    exact ⟨xs, .of t', RpL.mv m _ _ q⟩
  · rename_i n
    simp only [Option.map_eq_some_iff] at h
    obtain ⟨ds, h1, h2⟩ := h
    subst h2
    obtain ⟨a, xs, h3, h4, h5⟩ := cellOf_at s h1
    unfold Rp at r
    refine ⟨a, r.2 a h3, ⟨xs, .inl h4⟩, fun w' S' H' m s' g => ?_⟩
    obtain ⟨b, ys, k3, k4, k5⟩ := cellOf_at s' (show cellOf S' n = some ds from g)
    have := m.ph n b k3 r.1
    rw [h3] at this
    cases this
    exact ⟨ys, .inl k4, k5⟩
  · cases h
    unfold Rp at r
    obtain ⟨a, xs, e, t, q⟩ := r
    refine ⟨a, e, ⟨xs, t.sq⟩, fun w' S' H' m s' _ => ?_⟩
    have t' : Fp K w' H' a xs := by
      rcases t with ⟨o, t, n⟩ | t
      · exact .inl ⟨o, m.fr _ _ t n⟩
      · exact .inr t
    exact ⟨xs, t'.sq, RpL.mv m _ _ q⟩
theorem Rd.inj {a : Addr} {u u' : HO} (h : Rd H a u) (h' : Rd H a u') (n : ∀ o q, u ≠ .frz o q) (n' : ∀ o q, u' ≠ .frz o q) : u = u' := by
  rcases h with h | ⟨o, h⟩ <;> rcases h' with h' | ⟨o', h'⟩
  · rw [h] at h'; cases h'; rfl
  · rw [h] at h'; cases h'; exact absurd rfl (n _ _)
  · rw [h] at h'; cases h'; exact absurd rfl (n' _ _)
  · rw [h] at h'; cases h'; rfl
theorem itl_ok [Wo] {x : D} {v : V} {p : Its'} (s : Sto K mg w S H) (r : Rp K mg w H x v) (h : iSeq S x = some p) {R : It → Hp → Prop} {E : Value → Option Addr → Hp → Prop} (he : End K mg (ItOk K mg) w H (.ok p S) R E) : ∃ a, v = .ref a ∧ (∃ xs, SqL K H a xs) ∧ R (Itl K a) H := by
  obtain ⟨a, e, ex, k⟩ := iSeq_at s r h
  refine ⟨a, e, ex, he w H _ Ext.refl s fun w' S' H' m s' g => ?_⟩
  obtain ⟨xs, q1, q2⟩ := k w' S' H' m s' g
  refine ⟨fun i hi => ⟨xs, q1, by rw [← q2.length]; exact hi⟩, fun i d hd => ?_⟩
  obtain ⟨u, h1, h2⟩ := q2.get hd
  refine ⟨⟨xs, u, q1, h1⟩, fun y H'' hy => ?_⟩
  obtain ⟨rfl, hy⟩ := hy
  have := hy xs q1
  rw [h1] at this
  cases this
  exact ⟨Ext.refl, s', h2⟩
end
section
variable {X : Cx} {W : WX} {tg e e2 : Expr} {fe : FE} {fa : FA} {p pos : Pos}
theorem qi_list [Wo] (he : PE X e (tF X W fe)) : PI X tg e (tI X W (fiL fe)) := PI.wk (pi_list he) fun σ H R ⟨w, ρ, S, s, en, h⟩ =>
  ⟨w, ρ, S, s, en, (End.bind (R := fun w H => Rp X.K X.mg w H) h).imp (fun v H1 ⟨w1, S1, d, e1, s1, r1, h1⟩ => by
    split at h1
    · rename_i q hq; exact itl_ok s1 r1 hq h1
    · exact h1.elim) (fun _ _ _ z => z)⟩
theorem rngD_len : ∀ (n : Nat) (lo : Int), (rngD lo n).length = n
  | 0, _ => rfl
  | n + 1, lo => by simp [rngD, rngD_len n (lo + 1)]
theorem rngD_get : ∀ (n : Nat) (lo : Int) (i : Nat) (d : D), (rngD lo n)[i]? = some d → i < n ∧ d = .int (lo + i)
  | 0, lo, i, d, h => by simp [rngD] at h
  | n + 1, lo, 0, d, h => by simp [rngD] at h; exact ⟨Nat.succ_pos _, by rw [← h]; simp⟩
  | n + 1, lo, i + 1, d, h => by
    simp only [rngD, List.getElem?_cons_succ] at h
    obtain ⟨h1, h2⟩ := rngD_get n (lo + 1) i d h
    exact ⟨Nat.succ_lt_succ h1, by rw [h2]; congr 1; omega⟩
theorem rng_ok [Wo] {K : PySem.W.Frag} {mg : Str → Option Value} {w : Wd} {H : Hp} (lo : Int) (n : Nat) : ItOk K mg w H (rngD lo n, none) (Itr lo n) := by
  intro w' S' H' m s' g
  refine ⟨fun i hi => (show n ≤ i by have h2 : (rngD lo n).length ≤ i := hi; rw [rngD_len] at h2; exact h2), fun i d hd => ?_⟩
  obtain ⟨h1, rfl⟩ := rngD_get n lo i d hd
  refine ⟨h1, fun y H'' hy => ?_⟩
  obtain ⟨rfl, rfl⟩ := hy
  exact ⟨Ext.refl, s', rp_i⟩
theorem qi_range1 [Wo] (hg : Gl X "range") (hm : X.mg "range" = none) (ha : PA X [e] (tA X W fa)) (hs : starEach [e] X.env = [(false, eval e X.env)] := by rfl) : PI X tg (.Call (.Name "range" p) [e] [] pos) (tI X W (fiR1 fa)) := PI.wk (pi_range1 hg hm ha hs) fun σ H R ⟨w, ρ, S, s, en, h⟩ =>
  ⟨w, ρ, S, s, en, (End.bind (R := fun w H => RpL X.K X.mg w H) h).imp (fun vs H1 ⟨w1, S1, ds, e1, s1, r1, h1⟩ => by
    split at h1
    · split at h1
      · rename_i j hj
        obtain ⟨v, rfl, r2⟩ := r1.one_inv
        exact ⟨j, by rw [rp_int r2], hj.1, hj.2, h1.ret s1 (rng_ok 0 _)⟩
      · exact h1.elim
    · exact h1.elim) (fun _ _ _ z => z)⟩
end
noncomputable def forL (tg : FG) (b : FS) (g : Option (Nat × List D)) : List D → FS
  | [] => fun ρ S => gchk g S (.nx ρ S) .no
  | d :: r => fun ρ S => gchk g S (match tg d ρ S with
    | some (ρ1, S1) => (match b ρ1 S1 with
      | .nx ρ2 S2 => forL tg b g r ρ2 S2
      | .ct ρ2 S2 => forL tg b g r ρ2 S2
      | .bk ρ2 S2 => .nx ρ2 S2
      | z => z)
    | none => .no) .no
noncomputable def sFor (fi : FI) (tg : FG) (b : FS) : FS := fun ρ S => (fi ρ S).toS ρ fun p S1 => forL tg b p.2 p.1 ρ S1
theorem gchk_in [Wo] {K : PySem.W.Frag} {mg : Str → Option Value} {w : Wd} {H : Hp} {D : Ends} {W : WX} {g : Option (Nat × List Kw.D)} {S : Store} {r : RS} (h : EndS K mg w H (gchk g S r .no) D W) : gd g S ∧ EndS K mg w H r D W := by
  unfold gchk at h
  split at h
  · rename_i k; exact ⟨k, h⟩
  · exact h.elim
section
variable {X : Cx} {W : WX} {tg iter : Expr} {body : List Stmt} {fi : FI} {g : FG} {sl : List Nat} {b : FS} {pos : Pos}
theorem q_for [Wo] (hp : PassesOwn (model X.prog X.w) X.A X.env X.xe) (hc : X.calm = true) (hi : PI X tg iter (tI X W fi)) (hg : PG X tg (tG X sl g)) (hb : PSs X body (tS X W b)) (hs : ∀ x, foldedSetIterable iter X.env x = pure x := by intro _; rfl) : PS X (.For tg iter body [] pos) (tS X W (sFor fi g b)) :=
  PS.wk (ps_for hp hc hi hg hb hs) fun D σ H ⟨w, ρ, S, s, en, h⟩ => by
    refine ⟨w, ρ, S, s, en, (h.of (R := ItOk X.K X.mg) en).imp ?_ (fun _ _ _ z => z)⟩
    rintro J H1 ⟨w1, S1, ⟨items, gu⟩, e1, s1, J1, h1⟩
    refine ⟨fun i m σ' H' => ∃ w' ρ' S', i + m = items.length ∧ Ext w1 H1 w' H' ∧ Sto X.K X.mg w' S' H' ∧ EnvR X.K X.mg w' H' ρ' σ' ∧ EndS X.K X.mg w' H' (forL g b gu (items.drop i) ρ' S') D W, ⟨items.length, w1, ρ, S1, by omega, Ext.refl, s1, en.ext e1, h1⟩, ?_⟩
    rintro i m σ' H' ⟨w', ρ', S', hm, ex, s', en', h2⟩
    cases hd : items.drop i with
    | nil =>
      rw [hd] at h2
      unfold forL at h2
      obtain ⟨gd1, h3⟩ := gchk_in h2
      have hl : items.length ≤ i := List.drop_eq_nil_iff.mp hd
      exact .inl ⟨(J1 w' S' H' ex.mv s' gd1).1 i hl, h3.nx' s' en'⟩
    | cons d r =>
      rw [hd] at h2
      unfold forL at h2
      obtain ⟨gd1, h3⟩ := gchk_in h2
      have hi' : items[i]? = some d := by
        have := congrArg (·[0]?) hd
        simpa using this
      have hr : items.drop (i + 1) = r := by
        have := congrArg List.tail hd
        simpa using this
      have hlt : i < items.length := (List.getElem?_eq_some_iff.mp hi').1
      obtain ⟨j1, j2⟩ := (J1 w' S' H' ex.mv s' gd1).2 i d hi'
      refine .inr ⟨j1, fun σ2 H2 => ∃ w2 ρ2 S2, Ext w1 H1 w2 H2 ∧ Sto X.K X.mg w2 S2 H2 ∧ EnvR X.K X.mg w2 H2 ρ2 σ2 ∧ EndS X.K X.mg w2 H2 (forL g b gu r ρ2 S2) D W, ?_, ?_⟩
      · rintro σ2 H2 ⟨w2, ρ2, S2, a1, a2, a3, a4⟩
        exact ⟨m - 1, by omega, w2, ρ2, S2, by omega, a1, a2, a3, by rw [hr]; exact a4⟩
      · intro x H'' hy
        obtain ⟨j3, j4, j5⟩ := j2 x H'' hy
        have h3' := h3.on j3
        refine ⟨w', ρ', S', d, j4, en'.ext j3, j5, ?_⟩
        split at h3'
        · rename_i ρ1 S1' hg1
          rw [hg1]
          intro w2 H2 σ2 e2 s2 en2 _ _
          have h4 := h3'.on e2
          have ex2 : Ext w1 H1 w2 H2 := (ex.trans j3).trans e2
          refine ⟨w2, ρ1, S1', s2, en2, ?_⟩
          revert h4
          cases b ρ1 S1' with
          | nx ρ3 S3 => exact fun h4 w3 H3 σ3 e3 s3 en3 => ⟨w3, ρ3, S3, ex2.trans e3, s3, en3, h4.on e3⟩
          | ct ρ3 S3 => exact fun h4 w3 H3 σ3 e3 s3 en3 => ⟨w3, ρ3, S3, ex2.trans e3, s3, en3, h4.on e3⟩
          | bk ρ3 S3 => exact fun h4 => h4
          | rt d S3 => exact fun h4 => h4
          | ex x ρ3 S3 => exact fun h4 => h4
          | no => exact fun h4 => h4
        · exact h3'.elim
end
def wLoop (c : FT) (b : FS) : Nat → FS
  | 0 => fun _ _ => .no
  | n + 1 => fun ρ S => (c ρ S).toS ρ fun k S1 => match k with
    | true => (match b ρ S1 with
      | .nx ρ2 S2 => wLoop c b n ρ2 S2
      | .ct ρ2 S2 => wLoop c b n ρ2 S2
      | .bk ρ2 S2 => .nx ρ2 S2
      | z => z)
    | false => .nx ρ S1
open Classical in
noncomputable def sWhile (c : FT) (b : FS) : FS := fun ρ S => if h : ∃ n, wLoop c b n ρ S ≠ .no then wLoop c b (choose h) ρ S else .no
theorem wLoop_mono {c : FT} {b : FS} : ∀ {n m : Nat} {ρ : FEnv} {S : Store}, n ≤ m → wLoop c b n ρ S ≠ .no → wLoop c b m ρ S = wLoop c b n ρ S
  | 0, _, _, _, _, h => absurd rfl h
  | n + 1, 0, _, _, l, _ => absurd l (by omega)
  | n + 1, m + 1, ρ, S, l, h => by
    unfold wLoop at h ⊢
    cases hc : c ρ S with
    | ok k S1 =>
      rw [hc] at h
      cases k with
      | true =>
        simp only [RE.toS] at h ⊢
        cases hb : b ρ S1 with
        | nx ρ2 S2 =>
          rw [hb] at h
          exact wLoop_mono (Nat.le_of_succ_le_succ l) h
        | ct ρ2 S2 =>
          rw [hb] at h
          exact wLoop_mono (Nat.le_of_succ_le_succ l) h
        | _ => rfl
      | false => rfl
    | _ => rfl
theorem sWhile_eq {c : FT} {b : FS} {n : Nat} {ρ : FEnv} {S : Store} (h : wLoop c b n ρ S ≠ .no) : sWhile c b ρ S = wLoop c b n ρ S := by
  unfold sWhile
  have hx : ∃ n, wLoop c b n ρ S ≠ .no := ⟨n, h⟩
  rw [dif_pos hx]
  have hk := Classical.choose_spec hx
  rcases Nat.le_total n (Classical.choose hx) with l | l
  · exact wLoop_mono l h
  · exact (wLoop_mono l hk).symm
/-- one turn -/
theorem sWhile_step (c : FT) (b : FS) (ρ : FEnv) (S : Store) : sWhile c b ρ S = (c ρ S).toS ρ fun k S1 => match k with
    | true => (match b ρ S1 with
      | .nx ρ2 S2 => sWhile c b ρ2 S2
      | .ct ρ2 S2 => sWhile c b ρ2 S2
      | .bk ρ2 S2 => .nx ρ2 S2
      | z => z)
    | false => .nx ρ S1 := by
  by_cases hx : ∃ n, wLoop c b n ρ S ≠ .no
  · obtain ⟨n, hn⟩ := hx
    cases n with
    | zero => exact absurd rfl hn
    | succ n =>
      rw [sWhile_eq hn]
      unfold wLoop at hn ⊢
      cases hc : c ρ S with
      | ok k S1 =>
        rw [hc] at hn
        cases k with
        | true =>
          simp only [RE.toS] at hn ⊢
          cases hb : b ρ S1 with
          | nx ρ2 S2 => rw [hb] at hn; exact (sWhile_eq hn).symm
          | ct ρ2 S2 => rw [hb] at hn; exact (sWhile_eq hn).symm
          | _ => rfl
        | false => rfl
      | _ => rfl
  · have e0 : sWhile c b ρ S = .no := by unfold sWhile; rw [dif_neg hx]
    rw [e0]
    have key : ∀ n, wLoop c b n ρ S = .no := fun n => Classical.byContradiction fun z => hx ⟨n, z⟩
    cases hc : c ρ S with
    | ok k S1 =>
      cases k with
      | true =>
        simp only [RE.toS]
        have k1 : ∀ n, (match b ρ S1 with
            | .nx ρ2 S2 => wLoop c b n ρ2 S2
            | .ct ρ2 S2 => wLoop c b n ρ2 S2
            | .bk ρ2 S2 => .nx ρ2 S2
            | z => z) = RS.no := fun n => by
          have := key (n + 1)
          unfold wLoop at this
          rw [hc] at this
          exact this
        cases hb : b ρ S1 with
        | nx ρ2 S2 =>
          simp only [hb] at k1
          show RS.no = sWhile c b ρ2 S2
          unfold sWhile
          rw [dif_neg (fun ⟨n, hn⟩ => hn (k1 n))]
        | ct ρ2 S2 =>
          simp only [hb] at k1
          show RS.no = sWhile c b ρ2 S2
          unfold sWhile
          rw [dif_neg (fun ⟨n, hn⟩ => hn (k1 n))]
        | rt d1 S2 => have z := k1 0; rw [hb] at z; exact (nomatch z)
        | ex d1 ρ2 S2 => have z := k1 0; rw [hb] at z; exact (nomatch z)
        | bk ρ2 S2 => have z := k1 0; rw [hb] at z; exact (nomatch z)
        | no => rfl
      | false =>
        have := key 1
        unfold wLoop at this
        rw [hc] at this
        exact this.symm
    | ex x S1 =>
      have := key 1
      unfold wLoop at this
      rw [hc] at this
      exact this.symm
    | no => rfl
section
variable {X : Cx} {W : WX} {c : Expr} {body : List Stmt} {tc : FT} {b : FS} {pos : Pos}
theorem q_while [Wo] (hp : PassesOwn (model X.prog X.w) X.A X.env X.xe) (hc : PT X c (tT X W tc)) (hb : PSs X body (tS X W b)) : PS X (.While c body [] pos) (tS X W (sWhile tc b)) :=
  PS.wk (ps_while hp hc hb) fun D σ H ⟨w, ρ, S, s, en, h⟩ => by
    refine ⟨fun m σ' H' => ∃ w' ρ' S', Sto X.K X.mg w' S' H' ∧ EnvR X.K X.mg w' H' ρ' σ' ∧ EndS X.K X.mg w' H' (wLoop tc b m ρ' S') D W, ?_, ?_⟩
    · unfold sWhile at h
      split at h
      · exact ⟨_, w, ρ, S, s, en, h⟩
      · exact h.elim
    · rintro m σ' H' ⟨w', ρ', S', s', en', h'⟩
      cases m with
      | zero => exact h'.elim
      | succ n =>
        unfold wLoop at h'
        refine ⟨w', ρ', S', s', en', (h'.of (R := fun _ _ (a b : Bool) => b = a) en').imp ?_ (fun _ _ _ z => z)⟩
        rintro k H1 ⟨w1, S1, k', e1, s1, rfl, h1⟩
        cases k with
        | false => rw [if_neg (by decide)]; exact h1.nx' s1 (en'.ext e1)
        | true =>
          rw [if_pos rfl]
          refine ⟨fun σ2 H2 => ∃ w2 ρ2 S2, Sto X.K X.mg w2 S2 H2 ∧ EnvR X.K X.mg w2 H2 ρ2 σ2 ∧ EndS X.K X.mg w2 H2 (wLoop tc b n ρ2 S2) D W, fun σ2 H2 h2 => ⟨n, Nat.lt_succ_self n, h2⟩, w1, ρ', S1, s1, en'.ext e1, ?_⟩
          revert h1
          cases b ρ' S1 with
          | nx ρ3 S3 => exact fun h4 w3 H3 σ3 e3 s3 en3 => ⟨w3, ρ3, S3, s3, en3, h4.on e3⟩
          | ct ρ3 S3 => exact fun h4 w3 H3 σ3 e3 s3 en3 => ⟨w3, ρ3, S3, s3, en3, h4.on e3⟩
          | bk ρ3 S3 => exact fun h4 => h4
          | rt d S3 => exact fun h4 => h4
          | ex x ρ3 S3 => exact fun h4 => h4
          | no => exact fun h4 => h4
end
def wipeR (ρ : FEnv) : List Nat → FEnv
  | [] => ρ
  | v :: vs => (wipeR ρ vs).set v none
noncomputable def compL (tg : FG) (tt : FT) (te : FE) (g : Option (Nat × List D)) (ρ : FEnv) : List D → List D → Store → RE (List D)
  | [], acc, S => gchk g S (.ok acc S) .no
  | d :: r, acc, S => gchk g S (match tg d ρ S with
    | some (ρ1, S1) => (match tt ρ1 S1 with
      | .ok true S2 => (match te ρ1 S2 with
        | .ok y S3 => if acc.length < sizeLine then compL tg tt te g ρ r (acc ++ [y]) S3 else .no
        | _ => .no)
      | .ok false S2 => compL tg tt te g ρ r acc S2
      | _ => .no)
    | none => .no) .no
/-- c: the list is a cell -/
noncomputable def fLc (c : Bool) (fi : FI) (tg : FG) (tt : FT) (te : FE) (vs : List Nat) : FE := fun ρ S => (fi ρ S).bnd fun p S1 => match compL tg tt te p.2 (wipeR ρ vs) p.1 [] S1 with
  | .ok acc S2 => if c then .ok (.loc S2.length) (S2 ++ [.lst acc]) else .ok (.lst acc) S2
  | _ => .no
def fYes : FT := fun _ S => .ok true S
abbrev W0 : WX := fun _ _ _ _ => False
theorem wipe_eq {σ σ' : L2.St} {vs : List Nat} (hl : σ'.length = σ.length) (h : ∀ i, i ∉ vs → σ'[i]? = σ[i]?) : wipe σ' vs = wipe σ vs := by
  have len : ∀ (σ : L2.St) (vs : List Nat), (wipe σ vs).length = σ.length := fun σ vs => wipe_length σ vs
  have at1 : ∀ (σ : L2.St) (vs : List Nat) (i : Nat), i < σ.length → (wipe σ vs)[i]? = if i ∈ vs then some none else σ[i]? := by
    intro σ vs
    induction vs with
    | nil => intro i _; rw [if_neg (by simp)]; rfl
    | cons v vs ih =>
      intro i hi
      show ((wipe σ vs).set v none)[i]? = _
      by_cases e : i = v
      · subst e
        rw [List.getElem?_set_self (by rw [len]; exact hi), if_pos (by simp)]
      · rw [List.getElem?_set_ne (Ne.symm e), ih i hi]
        by_cases m : i ∈ vs
        · rw [if_pos m, if_pos (List.mem_cons_of_mem _ m)]
        · rw [if_neg m, if_neg (by simp [e, m])]
  refine List.ext_getElem? fun i => ?_
  by_cases hi : i < σ.length
  · rw [at1 σ' vs i (hl ▸ hi), at1 σ vs i hi]
    split
    · rfl
    · rename_i m; exact h i m
  · rw [List.getElem?_eq_none (by rw [len, hl]; omega), List.getElem?_eq_none (by rw [len]; omega)]
theorem EnvR.wipe {K : PySem.W.Frag} {mg : Str → Option Value} {w : Wd} {H : Hp} {ρ : FEnv} {σ : L2.St} (en : EnvR K mg w H ρ σ) : ∀ vs : List Nat, EnvR K mg w H (wipeR ρ vs) (L2.wipe σ vs)
  | [] => en
  | v :: vs => (EnvR.wipe en vs).wipe1
theorem wipe_wipe (σ : L2.St) (vs : List Nat) : L2.wipe (L2.wipe σ vs) vs = L2.wipe σ vs := wipe_eq (wipe_length σ vs) fun i hi => wipe_out hi
section
variable {X : Cx} {W : WX} {elt tg iter : Expr} {ifs : List Expr} {scope : Scope} {own : List (Str × Nat)} {pos : Pos} {fi : FI} {g : FG} {sl : List Nat} {tt : FT} {te : FE}
theorem qts_nil [Wo] : PTs X [] (tT X W fYes) := ⟨fun pins s σ H Q I ⟨w, ρ, S, st, en, h⟩ => pts_nil.run pins s σ H Q I (h.ret st rfl)⟩
/-- the reading of a comprehension -/
theorem lc_core' [Wo] {σ : L2.St} {H : Hp} {Q : VK} {c : Bool} {vs : List Nat} (hsl : ∀ i ∈ sl, i ∈ vs) (h : tF X W (fLc c fi g tt te vs) σ H Q) : tLc (tI X W fi) (tG X sl g) (tT X W0 tt) (tF X W0 te) vs σ H Q := by
  obtain ⟨w, ρ, S, s, en, h⟩ := h
  refine ⟨w, ρ, S, s, en, (End.bind (R := ItOk X.K X.mg) h).imp ?_ (fun _ _ _ z => z)⟩
  rintro J H1 ⟨w1, S1, ⟨items, gu⟩, e1, s1, J1, h1⟩ C hC
  have enw : EnvR X.K X.mg w1 H1 (wipeR ρ vs) (wipe σ vs) := (en.ext e1).wipe vs
  -- what is left to do, from the items, the list so far and the store
  let fin : RE (List D) → RE D := fun r => match r with
    | .ok acc S2 => if c then .ok (.loc S2.length) (S2 ++ [.lst acc]) else .ok (.lst acc) S2
    | _ => .no
  have h1' : End X.K X.mg (fun w H => Rp X.K X.mg w H) w1 H1 (fin (compL g tt te gu (wipeR ρ vs) items [] S1)) Q (fun c od H' => W c od σ H') := h1
  let G : Hp → List D → Store → RE (List D) → Prop := fun H' acc S' r => ∃ w' xs, ExtD C w1 H1 w' H' ∧ Sto X.K X.mg w' S' H' ∧ H' C = some (.lst xs) ∧ RpL X.K X.mg w' H' acc xs ∧ ∃ r0, fin r = r0 ∧ End X.K X.mg (fun w H => Rp X.K X.mg w H) w1 H1 r0 Q (fun c od H' => W c od σ H')
  refine ⟨fun i m H' => ∃ acc S', i + m = items.length ∧ G H' acc S' (compL g tt te gu (wipeR ρ vs) (items.drop i) acc S'), ⟨items.length, [], S1, by omega, ⟨w1.φ, C :: w1.hd⟩, [], ExtD.begin_ hC, s1.mvd hC, upd_same, RpL.nil, _, rfl, h1'⟩, ?_⟩
  rintro i m H' ⟨acc, S', hm, w', xs, ed, s', hx, ra, r0, hr0, he⟩
  have hCin : C ∈ w'.hd := by rw [ed.hd]; exact List.mem_cons_self
  have no_end : ∀ {r : RE D}, r = .no → End X.K X.mg (fun w H => Rp X.K X.mg w H) w1 H1 r Q (fun c od H' => W c od σ H') → False := fun e h => by rw [e] at h; exact h
  cases hd : items.drop i with
  | nil =>
    rw [hd] at hr0
    unfold compL at hr0
    unfold gchk at hr0
    split at hr0
    · rename_i gd1
      have hl : items.length ≤ i := List.drop_eq_nil_iff.mp hd
      refine .inl ⟨(J1 w' S' H' ed.mv s' gd1).1 i hl, ?_⟩
      have hout : some C ∉ w'.φ := (s'.ap C hCin).2
      have hnh : C ∉ w1.hd := fun z => (s1.ap C z).1 hC
      have mv := Mv.show (H := H') ed.hd
      have s3 := s'.show ed.hd ⟨xs, hx⟩
      have ra3 := RpL.mv mv _ _ ra
      subst hr0
      cases c with
      | false =>
        refine he ⟨w'.φ, w1.hd⟩ H' (.ref C) ed.done s3 ?_
        show Rp _ _ _ _ _ _
        unfold Rp
        exact ⟨C, xs, rfl, hx, ⟨hout, hnh⟩, ra3⟩
      | true =>
        -- the new list becomes a cell
        have ph : ∀ (n : Nat) a, (w'.φ ++ [some C])[n]? = some (some a) → (w'.φ[n]? = some (some a) ∧ n < w'.φ.length) ∨ (n = w'.φ.length ∧ a = C) := fun n a hk => by
          by_cases hl : n < w'.φ.length
          · rw [List.getElem?_append_left hl] at hk; exact .inl ⟨hk, hl⟩
          · have hl' : w'.φ.length ≤ n := Nat.le_of_not_lt hl
            rw [List.getElem?_append_right hl'] at hk
            have : n - w'.φ.length = 0 := by
              cases e : n - w'.φ.length with
              | zero => rfl
              | succ j => rw [e] at hk; simp at hk
            rw [this] at hk; simp at hk
            exact .inr ⟨by omega, hk.symm⟩
        have mv2 : Mv w' H' ⟨w'.φ ++ [some C], w1.hd⟩ H' := ⟨fun a o h n => by
          have hne : a ≠ C := fun z => by subst z; exact n.2 hCin
          refine ⟨h, fun z => ?_, fun z => n.2 (by rw [ed.hd]; exact List.mem_cons_of_mem _ z)⟩
          rcases List.mem_append.mp (show some a ∈ w'.φ ++ [some C] from z) with z | z
          · exact n.1 z
          · simp at z; exact hne z, by show _ ≤ (w'.φ ++ [some C]).length; rw [List.length_append]; omega, fun n a h l => by
          rcases ph n a h with z | z
          · exact z.1
          · omega⟩
        have ex2 : Ext w1 H1 ⟨w'.φ ++ [some C], w1.hd⟩ H' := ⟨ed.done.fr, Nat.le_trans ed.ln mv2.ln, fun n a h l => by
          rcases ph n a h with z | z
          · exact ed.ph n a z.1 l
          · have := ed.ln; omega, fun a h => by
          rcases List.mem_append.mp (show some a ∈ w'.φ ++ [some C] from h) with z | z
          · exact ed.nw a z
          · simp at z; subst z; exact .inr hC, rfl⟩
        have ra4 := RpL.mv mv2 _ _ ra
        have s4 : Sto X.K X.mg ⟨w'.φ ++ [some C], w1.hd⟩ (S' ++ [.lst acc]) H' := by
          refine ⟨by show (w'.φ ++ [some C]).length = _; rw [List.length_append, List.length_append, s'.len]; rfl, fun m n a q1 q2 => ?_, fun a ha => ⟨(s3.ap a ha).1, fun z => ?_⟩, fun n cc hc => ?_⟩
          · rcases ph m a q1 with ⟨z1, z2⟩ | ⟨z1, z2⟩ <;> rcases ph n a q2 with ⟨y1, y2⟩ | ⟨y1, y2⟩
            · exact s'.nd m n a z1 y1
            · subst y2; exact absurd (List.mem_of_getElem? z1) hout
            · subst z2; exact absurd (List.mem_of_getElem? y1) hout
            · omega
          · rcases List.mem_append.mp (show some a ∈ w'.φ ++ [some C] from z) with z | z
            · exact (s3.ap a ha).2 z
            · simp at z; subst z; exact hnh ha
          · by_cases hl : n < S'.length
            · rw [List.getElem?_append_left hl] at hc
              have c0 := s'.cell n cc hc
              have gl : (w'.φ ++ [some C])[n]? = w'.φ[n]? := List.getElem?_append_left (s'.len ▸ hl)
              unfold CellR at c0 ⊢
              split at c0
              · obtain ⟨b, ys, h2, h3, h4⟩ := c0; exact ⟨b, ys, by rw [← gl] at h2; exact h2, h3, RpL.mv mv2 _ _ h4⟩
              · obtain ⟨b, ys, o', h2, h3, h4⟩ := c0; exact ⟨b, ys, o', by rw [← gl] at h2; exact h2, h3, RpL.mv mv2 _ _ h4⟩
              · rw [← gl] at c0; exact c0
              · obtain ⟨c1, P, ht, t1, t2⟩ := c0; exact ⟨c1, P, ht, by rw [gl]; exact t1, TabW.mv mv2 rfl t2⟩
              · obtain ⟨y1, y2, y3, ⟨φ, y4, y6⟩, y5⟩ := c0
                refine ⟨by rw [gl]; exact y1, ?_, fun z => ?_, ⟨φ, y4, y6⟩, y5⟩
                · rw [ed.hd] at y2
                  rcases List.mem_cons.mp y2 with z | z
                  · rw [z, hx] at y4; cases y4
                  · exact z
                · rcases List.mem_append.mp (show some sysModules ∈ w'.φ ++ [some C] from z) with z | z
                  · exact y3 z
                  · simp at z; rw [z, hx] at y4; cases y4
              · exact ⟨by rw [gl]; exact c0.1, EnvR.mv mv2 c0.2⟩
              · obtain ⟨b, C1, dx, vs', h2, h3, h4, h5, h6⟩ := c0; exact ⟨b, C1, dx, vs', by rw [gl]; exact h2, h3, h4, h5, RpL.mv mv2 _ _ h6⟩
              · obtain ⟨b, es, h2, h3, h4, h5, h6, h7⟩ := c0; exact ⟨b, es, by rw [gl]; exact h2, h3, h4, h5, dct_mv mv2 h6, RpL.mv mv2 _ _ h7⟩
            · have hl' : S'.length ≤ n := Nat.le_of_not_lt hl
              rw [List.getElem?_append_right hl'] at hc
              have e0 : n - S'.length = 0 := by
                cases e : n - S'.length with
                | zero => rfl
                | succ j => rw [e] at hc; simp at hc
              rw [e0] at hc; simp at hc; subst hc
              have en' : n = w'.φ.length := by rw [s'.len]; omega
              subst en'
              exact ⟨C, xs, by show (w'.φ ++ [some C])[w'.φ.length]? = _; rw [List.getElem?_append_right (Nat.le_refl _), Nat.sub_self]; rfl, hx, ra4⟩
        refine he ⟨w'.φ ++ [some C], w1.hd⟩ H' (.ref C) ex2 s4 ?_
        show Rp _ _ _ _ _ _
        unfold Rp
        refine ⟨by show S'.length < (w'.φ ++ [some C]).length; rw [List.length_append, s'.len]; exact Nat.lt_succ_self _, fun a ha => ?_⟩
        have ha' : (w'.φ ++ [some C])[S'.length]? = some (some a) := ha
        rw [← s'.len, List.getElem?_append_right (Nat.le_refl _), Nat.sub_self] at ha'
        simp at ha'; rw [ha']
    · exact (no_end hr0.symm he).elim
  | cons d r =>
    rw [hd] at hr0
    unfold compL at hr0
    unfold gchk at hr0
    split at hr0
    · rename_i gd1
      have hi' : items[i]? = some d := by
        have := congrArg (·[0]?) hd
        simpa using this
      have hr : items.drop (i + 1) = r := by
        have := congrArg List.tail hd
        simpa using this
      have hlt : i < items.length := (List.getElem?_eq_some_iff.mp hi').1
      obtain ⟨j1, j2⟩ := (J1 w' S' H' ed.mv s' gd1).2 i d hi'
      refine .inr ⟨j1, fun H2 => ∃ acc2 S2, G H2 acc2 S2 (compL g tt te gu (wipeR ρ vs) r acc2 S2), fun H2 ⟨acc2, S2, z⟩ => ⟨m - 1, by omega, acc2, S2, by omega, by rw [hr]; exact z⟩, ?_⟩
      intro x H'' hy
      obtain ⟨j3, j4, j5⟩ := j2 x H'' hy
      have enw' : EnvR X.K X.mg w' H'' (wipeR ρ vs) (wipe σ vs) := (enw.mv ed.mv).ext j3
      refine ⟨w', wipeR ρ vs, S', d, j4, enw', j5, ?_⟩
      split at hr0
      · rename_i ρ1 S1' hg1
        rw [hg1]
        intro w2 H2 σ2 e2 s2 en2 k2 l2
        have hw : wipe σ2 vs = wipe σ vs := by
          rw [← wipe_wipe σ vs]
          exact wipe_eq l2 fun i hi => k2 i (fun z => hi (hsl i z))
        refine ⟨hw, w2, ρ1, S1', s2, en2, ?_⟩
        have ed2 : ExtD C w1 H1 w2 H2 := (ed.step j3).step e2
        split at hr0
        · rename_i S2' ht
          rw [ht]
          intro w3 H3 b e3 s3 hb
          cases hb
          rw [if_pos rfl]
          refine ⟨w3, ρ1, S2', s3, en2.ext e3, ?_⟩
          split at hr0
          · rename_i y S3' hy'
            rw [hy']
            intro w4 H4 u e4 s4 r4
            have ed4 : ExtD C w1 H1 w4 H4 := (ed2.step e3).step e4
            have hC4 : C ∈ w4.hd := by rw [ed4.hd]; exact List.mem_cons_self
            have exx : Ext w' H' w4 H4 := ((j3.trans e2).trans e3).trans e4
            have hx4 : H4 C = some (.lst xs) := exx.fr C _ hx (s'.ap C hCin).2
            have ra4 := RpL.ext exx _ _ ra
            split at hr0
            · rename_i hlen
              refine ⟨xs, hx4, by rw [← ra.length]; exact hlen, acc ++ [y], S3', w4, xs ++ [u], ed4.poke, s4.poke hC4 ⟨xs, hx4⟩, upd_same, ?_, _, hr0, he⟩
              exact (RpL.mv (Mv.poke hC4) _ _ ra4).append (RpL.one (Rp.mv (Mv.poke hC4) _ _ r4))
            · exact (no_end hr0.symm he).elim
          · exact (no_end hr0.symm he).elim
        · rename_i S2' ht
          rw [ht]
          intro w3 H3 b e3 s3 hb
          cases hb
          rw [if_neg (by decide)]
          have exx : Ext w' H' w3 H3 := (j3.trans e2).trans e3
          exact ⟨acc, S2', w3, xs, ed2.step e3, s3, exx.fr C _ hx (s'.ap C hCin).2, RpL.ext exx _ _ ra, _, hr0, he⟩
        · exact (no_end hr0.symm he).elim
      · exact (no_end hr0.symm he).elim
    · exact (no_end hr0.symm he).elim
theorem q_lc [Wo] {c : Bool} (hc : X.calm = true) (hN : X.N.Nodup) (hi : PI X tg iter (tI X W fi)) (ok : BlkOk X.N X.env.scope scope own) (hsl : ∀ i ∈ sl, i ∈ own.map (·.2))
    (hg : ∀ (s : Shared) (H : Hp) (C : Addr) (cl : List (Str × Addr)) (fp : List Addr), PG (X.blk s H scope (compEnvC scope cl C X.env) fp) tg (tG (X.blk s H scope (compEnvC scope cl C X.env) fp) sl g)) (ht : ∀ (s : Shared) (H : Hp) (C : Addr) (cl : List (Str × Addr)) (fp : List Addr), PTs (X.blk s H scope (compEnvC scope cl C X.env) fp) ifs (tT (X.blk s H scope (compEnvC scope cl C X.env) fp) W0 tt))
    (he : ∀ (s : Shared) (H : Hp) (C : Addr) (cl : List (Str × Addr)) (fp : List Addr), PE (X.blk s H scope (compEnvC scope cl C X.env) fp) elt (tF (X.blk s H scope (compEnvC scope cl C X.env) fp) W0 te)) (hs : ∀ x, foldedSetIterable iter X.env x = pure x := by intro _; rfl) :
    PE X (.ListComp elt [⟨tg, iter, ifs, 0⟩] scope pos) (tF X W (fLc c fi g tt te (own.map (·.2)))) :=
  PE.wk (pe_lc (g := tG X sl g) (tt := tT X W0 tt) (te := tF X W0 te) hc hN hi ok hg ht he hs) fun σ H Q h => lc_core' hsl h
theorem q_setLc [Wo] {c : Bool} {i : Nat} {y : Str} {py spos : Pos} (hc : X.calm = true) (hN : X.N.Nodup) (hy : X.N[i]? = some y) (hyl : X.env.scope.names.lookup y = some .local)
    (hsw : swapsWith (.ListComp elt [⟨tg, iter, ifs, 0⟩] scope pos) (some (.Name y py)) spos.line X.env = pure true) (hi : PI X tg iter (tI X W fi)) (ok : BlkOk X.N X.env.scope scope own) (hsl : ∀ i ∈ sl, i ∈ own.map (·.2))
    (hg : ∀ (s : Shared) (H : Hp) (C : Addr) (cl : List (Str × Addr)) (fp : List Addr), PG (X.blk s H scope (compEnvC scope cl C X.env) fp) tg (tG (X.blk s H scope (compEnvC scope cl C X.env) fp) sl g)) (ht : ∀ (s : Shared) (H : Hp) (C : Addr) (cl : List (Str × Addr)) (fp : List Addr), PTs (X.blk s H scope (compEnvC scope cl C X.env) fp) ifs (tT (X.blk s H scope (compEnvC scope cl C X.env) fp) W0 tt))
    (he : ∀ (s : Shared) (H : Hp) (C : Addr) (cl : List (Str × Addr)) (fp : List Addr), PE (X.blk s H scope (compEnvC scope cl C X.env) fp) elt (tF (X.blk s H scope (compEnvC scope cl C X.env) fp) W0 te)) (hs : ∀ x, foldedSetIterable iter X.env x = pure x := by intro _; rfl) :
    PS X (.Assign [.Name y py] (.ListComp elt [⟨tg, iter, ifs, 0⟩] scope pos) spos) (tS X W (sSet i (fLc c fi g tt te (own.map (·.2))))) :=
  PS.wk (ps_setLc (g := tG X sl g) (tt := tT X W0 tt) (te := tF X W0 te) hc hN hy hyl hsw hi ok hg ht he hs) fun D σ H ⟨w, ρ, S, s, en, h⟩ => by
    refine lc_core' (Q := fun x H1 => gName i x σ H1 D.nx) hsl ⟨w, ρ, S, s, en, (h.of (R := fun w H => Rp X.K X.mg w H) en).imp (fun v H1 ⟨w1, S1, d, e1, s1, r1, h1⟩ => h1.nx' s1 ((en.ext e1).set r1)) (fun _ _ _ z => z)⟩
end
end Kw
namespace Kw
open PySem PySem.Spec PyProof.Rows L2
/-- a constant's value -/
def CV (d : D) (v : V) : Prop := match d with
  | .int i => v = .int i
  | .str z => v = .str z
  | _ => False
theorem CV.rp {K : PySem.W.Frag} {mg : Str → Option Value} {w : Wd} {H : Hp} {d : D} {v : V} (h : CV d v) : Rp K mg w H d v := by
  cases d <;> first | (exact h.elim) | (have h' := h; unfold CV at h'; subst h'; unfold Rp; rfl)
/-- the name x holds the constant d -/
def GC (mg : Str → Option Value) (x : Str) (d : D) : Prop := ∃ v u, mg x = some u ∧ RelV v u ∧ CV d v
/-- .. a dict with text keys and constants -/
def GD (K : PySem.W.Frag) (P : Params) (mg : Str → Option Value) (x : Str) (kvs : List (Str × D)) : Prop :=
  ∃ a es n, mg x = some (.ref a) ∧ K.lookup a = some ⟨.type "dict", none, .dict es n, #[]⟩ ∧ PySem.W.KeysLit P es.toList ∧ (a == sysModules) = false ∧
    ∀ z, match kvs.lookup z with
      | some d => ∃ u v, PySem.W.nsIn K a z = some (some u) ∧ RelV v u ∧ CV d v
      | none => PySem.W.nsIn K a z = some none
inductive Ents : List DictEntry → List (Str × D) → Prop
  | nil : Ents [] []
  | cons {h : Int} {k : Str} {t : Tok} {u : Value} {v : V} {d : D} {es : List DictEntry} {kvs : List (Str × D)} (r : RelV v u) (c : CV d v) (rest : Ents es kvs) : Ents (⟨h, .str k t, u⟩ :: es) ((k, d) :: kvs)
theorem Ents.find {es : List DictEntry} {kvs : List (Str × D)} (e : Ents es kvs) (z : Str) : match kvs.lookup z with
      | some d => ∃ en v, es.find? (·.key.isStr z) = some en ∧ RelV v en.val ∧ CV d v
      | none => es.find? (·.key.isStr z) = none := by
  induction e with
  | nil => rfl
  | @cons h k t u v d es kvs r c rest ih =>
    by_cases hz : z = k
    · subst hz
      have e1 : List.lookup z ((z, d) :: kvs) = some d := by simp [List.lookup]
      rw [e1]
      refine ⟨⟨h, .str z t, u⟩, v, ?_, r, c⟩
      rw [List.find?_cons_of_pos]
      simp [PySem.W.isStr_of, Value.isStrOf]
    · have e1 : List.lookup z ((k, d) :: kvs) = List.lookup z kvs := by
        have : (z == k) = false := by simpa using hz
        simp [List.lookup, this]
      rw [e1]
      have e2 : List.find? (·.key.isStr z) ((⟨h, .str k t, u⟩ : DictEntry) :: es) = List.find? (·.key.isStr z) es := by
        rw [List.find?_cons_of_neg]
        simp [PySem.W.isStr_of, Value.isStrOf]
        exact fun q => hz q.symm
      rw [e2]; exact ih
theorem Ents.noRef {es : List DictEntry} {kvs : List (Str × D)} (e : Ents es kvs) : es.any (·.refKey) = false := by
  induction e with
  | nil => rfl
  | cons r c rest ih => rw [List.any_cons, ih]; rfl
theorem GD.of {K : PySem.W.Frag} {P : Params} {mg : Str → Option Value} {x : Str} {kvs : List (Str × D)} {a : Addr} {es : Array DictEntry} {n : Nat} (m : mg x = some (.ref a)) (l : K.lookup a = some ⟨.type "dict", none, .dict es n, #[]⟩) (k : PySem.W.KeysLit P es.toList) (s : (a == sysModules) = false) (e : Ents es.toList kvs) : GD K P mg x kvs := by
  refine ⟨a, es, n, m, l, k, s, fun z => ?_⟩
  have f := e.find z
  have u : PySem.W.nsIn K a z = match es.toList.find? (·.key.isStr z) with
      | some e => some (some e.val)
      | none => if es.toList.any (·.refKey) then none else some none := by unfold PySem.W.nsIn; rw [l]; rfl
  split at f
  · obtain ⟨en, v, f1, f2, f3⟩ := f
    exact ⟨en.val, v, by rw [u, f1], f2, f3⟩
  · rw [u, f, e.noRef]; rfl
theorem RpL.ints {K : PySem.W.Frag} {mg : Str → Option Value} {w : Wd} {H : Hp} : ∀ ns : List Int, RpL K mg w H (ns.map D.int) (ns.map V.int)
  | [] => RpL.nil
  | i :: r => RpL.cons (by unfold Rp; rfl) (RpL.ints r)
def gInG (neg : Bool) (n : Str) (kvs : List (Str × D)) (x y : D) (S : Store) : RE D := match x, y with
  | .str z, .glo m => if m = n then .ok (.bl (xor neg (kvs.lookup z).isSome)) S else .no
  | _, _ => .no
def gIxG (n : Str) (kvs : List (Str × D)) (x y : D) (S : Store) : RE D := match x, y with
  | .glo m, .str z => if m = n then (match kvs.lookup z with
    | some d => .ok d S
    | none => .no) else .no
  | _, _ => .no
def gNeg (x : D) (S : Store) : RE D := match x with
  | .int i => .ok (.int (-i)) S
  | _ => .no
section
variable {X : Cx} {W : WX} {a b e : Expr} {es : List Expr} {fa fb : FE} {fs : FA} {pos : Pos} {x : Str} {kvs : List (Str × D)} {d : D}
theorem q_gc [Wo] (h : GC X.mg x d) (hg : Gl X x) (hd : (x == ("__debug__" : Str)) = false := by decide) : PE X (.Name x pos) (tF X W (fC d)) := by
  obtain ⟨v, u, m, r, c⟩ := h
  exact q_const (fun w H => c.rp) (pe_glob hg m r hd)
theorem q_gd [Wo] (h : GD X.K X.w.params X.mg x kvs) (hg : Gl X x) (hd : (x == ("__debug__" : Str)) = false := by decide) : PE X (.Name x pos) (tF X W (fC (.glo x))) := by
  obtain ⟨a, es, n, m, _⟩ := h
  exact q_const (v := .ref a) (fun w H => by unfold Rp; exact ⟨a, rfl, m⟩) (pe_glob hg m rfl hd)
theorem op_inG [Wo] {neg : Bool} {op : CmpOp} (ho : op = if neg then .NotIn else .In) (h : GD X.K X.w.params X.mg x kvs) : ∃ r, OpR X (compareOp op) r ∧ OpV X.K X.mg r (gInG neg x kvs) := by
  obtain ⟨a, es, n, m, l, k, s, f⟩ := h
  have D : KDict X.K X.w a es n := ⟨l, k, s⟩
  have key : ∀ z, PySem.W.nsIn X.K a z = some (match kvs.lookup z with
      | some d => PySem.W.nsIn X.K a z |>.getD none
      | none => none) ∧ ((match kvs.lookup z with
      | some d => PySem.W.nsIn X.K a z |>.getD none
      | none => none).isSome = (kvs.lookup z).isSome) := fun z => by
    have fz := f z
    split at fz
    · rename_i d hd
      obtain ⟨u, v, f1, _, _⟩ := fz
      rw [hd, f1]; exact ⟨rfl, rfl⟩
    · rename_i hd
      rw [hd]; exact ⟨fz, rfl⟩
  have body : ∀ (w : Wd) (S : Store) (H : Hp) (x' y : V) (d e : Kw.D) (Q : VK) (E : Value → Option Addr → Hp → Prop), Sto X.K X.mg w S H → Rp X.K X.mg w H d x' → Rp X.K X.mg w H e y → End X.K X.mg (fun w H => Rp X.K X.mg w H) w H (gInG neg x kvs d e S) Q E → ∃ (z : Str) (r : Option Value), x' = .str z ∧ y = .ref a ∧ PySem.W.nsIn X.K a z = some r ∧ Q (.bl (xor neg r.isSome)) H := by
    intro w S H x' y d e Q E st r1 r2 h
    cases d <;> cases e <;> simp only [gInG] at h <;> try exact h.elim
    rename_i z m'
    split at h
    · rename_i em
      subst em
      unfold Rp at r2
      obtain ⟨b, e1, e2⟩ := r2
      rw [m] at e2; cases e2
      obtain ⟨k1, k2⟩ := key z
      exact ⟨z, _, rp_str r1, e1, k1, by rw [k2]; exact h.ret st rp_b⟩
    · exact h.elim
  cases neg with
  | false =>
    subst ho
    refine ⟨_, op_in_kd D, fun w S H x' y d e Q E st r1 r2 h => ?_⟩
    obtain ⟨z, r, h1, h2, h3, h4⟩ := body w S H x' y d e Q E st r1 r2 h
    exact ⟨z, r, h1, h2, h3, by simpa using h4⟩
  | true =>
    subst ho
    refine ⟨_, op_notIn_kd D, fun w S H x' y d e Q E st r1 r2 h => ?_⟩
    obtain ⟨z, r, h1, h2, h3, h4⟩ := body w S H x' y d e Q E st r1 r2 h
    exact ⟨z, r, h1, h2, h3, by simpa using h4⟩
theorem qt_inG [Wo] (h : GD X.K X.w.params X.mg x kvs) (ha : PE X a (tF X W fa)) (hb : PE X b (tF X W fb)) (hm : behindInMarks .In b = false := by rfl) : PT X (.Compare a [.In] [b] pos) (tT X W (fB (f2 (gInG false x kvs) fa fb))) := by
  obtain ⟨r, h1, h2⟩ := op_inG (neg := false) (op := .In) rfl h
  exact qt_cmp h1 h2 ha hb hm
theorem q_neg [Wo] (ha : PE X a (tF X W fa)) : PE X (.UnaryOp .USub a pos) (tF X W (f1 gNeg fa)) := PE.wk (pe_un un_neg ha) fun σ H Q ⟨w, ρ, S, s, en, h⟩ =>
  ⟨w, ρ, S, s, en, (End.bind (R := fun w H => Rp X.K X.mg w H) h).imp (fun v H1 ⟨w1, S1, d, e1, s1, r1, h1⟩ => by
    cases d <;> simp only [gNeg] at h1 <;> try exact h1.elim
    exact ⟨_, rp_int r1, h1.ret s1 rp_i⟩) (fun _ _ _ z => z)⟩
end
def ExcF (K : PySem.W.Frag) (mg : Str → Option Value) (x : Str) : Prop := ∃ C, mg x = some (.ref C) ∧ PySem.W.excIn K C [.type "ValueError", .type "Exception", .type "BaseException", .type "object"] "ValueError.__new__" = true ∧
  PySem.W.keepIn K (.ref C) = true ∧ PySem.W.subIn K (.ref C) (.type "BaseException") = some true ∧ PySem.W.typeIn K (.ref C) = some (.type "type")
def sRaise (x : Str) : FS := fun ρ S => .ex ⟨x, [], []⟩ ρ S
def RS.noX (r : RS) : RS := match r with
  | .ex _ _ _ => .no
  | r => r
section
variable {X : Cx} {W : WX} {x m : Str} {j : Nat} {p p2 pos pos' : Pos}
theorem q_raise [Wo] (hc : X.calm = true) (tk : Takes X W) (h : ExcF X.K X.mg x) (hg : Gl X x) (hdb : (x == ("__debug__" : Str)) = false := by decide) : PS X (.Raise (some (.Call (.Name x p) [.Constant (.str m) j p2] [] pos)) none pos') (tS X W (sRaise x)) := by
  obtain ⟨C, gC, xC, kC, bC, tC⟩ := h
  refine PS.wk (ps_raise hc tk (pmk_own PySem.F.excBase_ValueError xC gC kC (raises_own bC tC) hg hdb)) fun D σ H ⟨w, ρ, S, s, en, h⟩ => ?_
  exact h w H σ (.ref C) none Ext.refl s en ⟨gC, .inl ⟨rfl, rfl, rfl⟩⟩
end
end Kw
namespace Kw
open PySem PySem.Spec PyProof.Rows L2
/-- the def x stands at the module's top -/
def TF (K : PySem.W.Frag) (mg : Str → Option Value) (x : Str) (st : Stmt) (ps : List Str) : Prop := ∃ f fd, Fun K x x st f fd ∧ mg x = some (.ref f) ∧ Binds K fd ps []
section
variable {K : PySem.W.Frag} {mg : Str → Option Value} {h : Heap}
theorem tf_mk {x : Str} {st : Stmt} {ps : List Str} {f : Addr} {oc : Value} {od an : Option Addr} {osl : Array (Option Value)} {kV doc pm cdv ct : Value} (X : K.In h) (G : h.Ns mainGlobals mg) (a : PySem.W.nsIn K mainGlobals x = some (some (.ref f)))
    (l : K.lookup f = some ⟨oc, od, .func (PySem.W.fnOf x x (defArgs st) (defBody st) (defScope st) .none kV doc pm an cdv ct), osl⟩) (c : PySem.W.codeIn K cdv x = true) (k : PySem.W.keepIn K (.ref f) = true)
    (hb : ∀ (kV doc pm : Value) (an : Option Addr) (cdv ct : Value) (us : List Value), us.length = ps.length → bindArgs (PySem.W.fnOf x x (defArgs st) (defBody st) (defScope st) .none kV doc pm an cdv ct) ⟨us, []⟩ = pure (ps.zip us)) : TF K mg x st ps :=
  ⟨f, _, fun_mk l c k, PySem.W.mg_of X G a, (fun_mk l c k).binds hb⟩
theorem bl_mk {x : Str} (X : K.In h) (G : h.Ns mainGlobals mg) (z : PySem.W.nsIn K mainGlobals x = some none) : mg x = none := PySem.W.mg_none_of X G z
theorem gc_int {x : Str} {i : Int} {t : Tok} (X : K.In h) (G : h.Ns mainGlobals mg) (z : PySem.W.nsIn K mainGlobals x = some (some (.int i t))) : GC mg x (.int i) := ⟨.int i, _, PySem.W.mg_of X G z, ⟨t, rfl⟩, rfl⟩
theorem gc_str {x : Str} {i : Str} {t : Tok} (X : K.In h) (G : h.Ns mainGlobals mg) (z : PySem.W.nsIn K mainGlobals x = some (some (.str i t))) : GC mg x (.str i) := ⟨.str i, _, PySem.W.mg_of X G z, ⟨t, rfl⟩, rfl⟩
theorem gd_mk {P : Params} {x : Str} {kvs : List (Str × D)} {a : Addr} {es : Array DictEntry} {n : Nat} (X : K.In h) (G : h.Ns mainGlobals mg) (z : PySem.W.nsIn K mainGlobals x = some (some (.ref a))) (l : K.lookup a = some ⟨.type "dict", none, .dict es n, #[]⟩) (k : PySem.W.KeysLit P es.toList) (s : (a == sysModules) = false) (e : Ents es.toList kvs) : GD K P mg x kvs :=
  GD.of (PySem.W.mg_of X G z) l k s e
theorem exc_mk {x : Str} {C : Addr} (X : K.In h) (G : h.Ns mainGlobals mg) (z : PySem.W.nsIn K mainGlobals x = some (some (.ref C))) (h1 : PySem.W.excIn K C [.type "ValueError", .type "Exception", .type "BaseException", .type "object"] "ValueError.__new__" = true)
    (h2 : PySem.W.keepIn K (.ref C) = true) (h3 : PySem.W.subIn K (.ref C) (.type "BaseException") = some true) (h4 : PySem.W.typeIn K (.ref C) = some (.type "type")) : ExcF K mg x := ⟨C, PySem.W.mg_of X G z, h1, h2, h3, h4⟩
end
section
variable {P : Program} {w : World} {K : PySem.W.Frag} {mg : Str → Option Value} {base : Heap}
theorem cal_zero [Wo] {x : Str} {st : Stmt} {ps : List Str} (T : TF K mg x st ps) (hps : ps = (defArgs st).args.map (·.arg) := by rfl) : Cal P w K mg base 0 x (fun _ _ => .no) := by
  obtain ⟨f, fd, F, m, b⟩ := T
  exact ⟨f, fd, ps, ⟨fun vs H Q E ⟨w, S, ds, s, r, l, h⟩ => by rw [← r.length]; exact l, fun A outer s H args us vs Q E _ _ _ _ ⟨w, S, ds, st, r, l, h⟩ => h.elim⟩, m, F.kp, b, fun _ _ _ => rfl, hps.trans (fun_names F).symm, fun_look F⟩
theorem calB [Wo] {x : Str} {st : Stmt} {N ps : List Str} {k : Nat} {b : FS} (T : TF K mg x st ps) (S : FnScope N ps (defScope st))
    (hb : ∀ (f : Addr) (cdv : Value) (A : Around) (outer : List Env) (s : Shared) (H : Hp) (E : XK), RoomG k (A.deeper (envOfC x (defScope st) s.heap.objs.size f cdv)) →
      PSs (cxOf (L2.CX P w) P w K mg base N x (defScope st) f cdv A outer s H E) (defBody st) (tS (cxOf (L2.CX P w) P w K mg base N x (defScope st) f cdv A outer s H E) (fun c d _ H => E c d H) b)) (hps : ps = (defArgs st).args.map (·.arg) := by rfl) :
    Cal P w K mg base (k + 1) x (fnB ps.length N.length b) := by
  obtain ⟨f, fd, F, m, bd⟩ := T
  exact cal_B F S m bd hps (hb f)
theorem calC [Wo] {x : Str} {st : Stmt} {N ps : List Str} {k : Nat} {b : FS} (T : TF K mg x st ps) (S : FnScope N ps (defScope st))
    (hb : ∀ (f : Addr) (cdv : Value) (A : Around) (outer : List Env) (s : Shared) (H : Hp) (E : XK), RoomG k (A.deeper (envOfC x (defScope st) s.heap.objs.size f cdv)) →
      PSs (cxOf (L2.CX P w) P w K mg base N x (defScope st) f cdv A outer s H E) (defBody st) (tS (cxOf (L2.CX P w) P w K mg base N x (defScope st) f cdv A outer s H E) (fun c d _ H => E c d H) b)) (hps : ps = (defArgs st).args.map (·.arg) := by rfl) :
    Cal P w K mg base (k + 1) x (fnC ps.length N.length b) := by
  obtain ⟨f, fd, F, m, bd⟩ := T
  exact cal_C F S m bd hps (hb f)
end
theorem hu2 {A : Around} {k : Nat} (hr : RoomG k A) : A.units + 200 < cLine := by have := hr.rm.un; omega
/-- the law's own promise -/
def spLaw (K : PySem.W.Frag) : Sp := fun vs H Q _ => ∃ (a : Addr) (ns : List Int), vs = [.ref a] ∧ SqL K H a (ns.map V.int) ∧ ns.length ≤ 63 ∧ (∀ z ∈ ns, Builtin.Int.intBits z ≤ 1048576) ∧ Only H ∧ ∀ H', Q (.bl true) H'
section
variable {K : PySem.W.Frag} {mg : Str → Option Value}
theorem script_at {H : Hp} {a : Addr} {ns : List Int} (hO : Only H) (hS : SqL K H a (ns.map V.int)) : Rp K mg ⟨[], []⟩ H (.fls (ns.map .int)) (.ref a) := by
  unfold Rp
  refine ⟨a, _, rfl, ?_, RpL.ints ns⟩
  rcases hS with (h | ⟨o, h⟩) | h
  · rcases hO a with z | ⟨o, xs, z⟩
    · rw [z] at h; cases h
    · rw [z] at h; cases h
  · refine .inl ⟨o, h, ?_⟩
    show (¬ some a ∈ ([] : List (Option Addr))) ∧ ¬ a ∈ ([] : List Addr)
    constructor <;> simp
  · exact .inr h
theorem sto0 [Wo] {H : Hp} : Sto K mg ⟨[], []⟩ [] H := ⟨rfl, fun m n a h => by simp at h, fun a h => (nomatch h), fun n c h => by simp at h⟩
theorem law_imp [Wo] {F : FF} (hF : ∀ ns : List Int, ns.length ≤ 63 → (∀ z ∈ ns, Builtin.Int.intBits z ≤ 1048576) → ∃ S', F [.fls (ns.map .int)] [] = .ok (.bl true) S') : ∀ vs H Q E, spLaw K vs H Q E → spF K mg 1 F vs H Q E := by
  rintro vs H Q E ⟨a, ns, rfl, hS, hl, hb, hO, q⟩
  obtain ⟨S', e⟩ := hF ns hl hb
  refine ⟨⟨[], []⟩, [], [.fls (ns.map .int)], sto0, RpL.one (script_at hO hS), rfl, ?_⟩
  rw [e]
  intro w' H' v ex s r
  rw [rp_bl r]; exact q H'
/-- the heap in which nothing is told but the script -/
def scrO (vs : List Value) : Obj := { cls := .type "list", data := .seq vs.toArray }
def scrH (a : Addr) (vs : List Value) (ns : List Int) : Hp := fun b => if b = a then some (.frz (scrO vs) (.lst (ns.map V.int))) else none
theorem scr_look {P : Program} {w : World} {a : Addr} {s : Shared} {vs : List Value} {ns : List Int} (KX : K.In s.heap) (ha : s.heap.get? a = some (scrO vs)) (hi : IntsAre vs ns) (hl : ns.length ≤ 63) :
    ∃ H : Hp, Only H ∧ SqL K H a (ns.map V.int) ∧ HOk P w H s.heap ∧ (∀ b, H b ≠ none → b = a ∧ K.lookup b = none) := by
  have rv := vals_ints hi
  have hz : ns.length ≤ sizeLine := Nat.le_trans hl (by rw [sizeLine_eq]; decide)
  cases hk : K.lookup a with
  | some o =>
    have e := (KX a o hk).symm.trans ha
    cases e
    exact ⟨fun _ => none, fun _ => .inl rfl, .inr ⟨_, vs.toArray, _, hk, rfl, rfl, rfl, by rw [List.size_toArray, hi.length]; exact hz, by simpa using rv⟩, fun b u z => (nomatch z), fun b z => (z rfl).elim⟩
  | none =>
    refine ⟨scrH a vs ns, fun b => ?_, .inl (.inr ⟨scrO vs, if_pos rfl⟩), fun b u z => ?_, fun b z => ?_⟩
    · unfold scrH; split
      · exact .inr ⟨_, _, rfl⟩
      · exact .inl rfl
    · unfold scrH at z
      split at z
      · next e => cases z; subst e; exact ⟨ha, by rw [List.length_map]; exact hz, vs, _, rv, ha⟩
      · cases z
    · unfold scrH at z
      split at z
      · next e => exact ⟨e, e ▸ hk⟩
      · exact (z rfl).elim
theorem head_g {P : Program} {w : World} {mb : Str → Option Value} {k : Nat} {fa a : Addr} {fd : FuncData} {x : Str} {s : Shared} {vs : List Value} {ns : List Int} (KX : K.In s.heap) (gm : s.heap.Ns mainGlobals mg) (gb : s.heap.Ns builtinsNs mb)
    (boot : ∀ y : Str, y ≠ "__name__" → mb y = bootBuiltins y) (lim : s.heap.NoLimit) (ng : s.gens = #[]) (ha : s.heap.get? a = some (scrO vs)) (hi : IntsAre vs ns) (hl : ns.length ≤ 63) (hz : ∀ z ∈ ns, Builtin.Int.intBits z ≤ 1048576) (hr : RoomG k callerA)
    (F : ∀ base : Heap, K.In base → base.Ns mainGlobals mg → FnG P w K mg base k fa fd [x] (spLaw K)) (hbd : ∀ (s : Shared) (u : Value), BindsTo s fd ⟨[u], []⟩ [(x, u)]) (no : ∀ H e s', L2.CX P w [] H s (fun _ _ _ => False) e s' → False) :
    codeAny (model P w) callerA (.call (.ref fa) ⟨[.ref a], []⟩) (fun r s' => r = .ok (.ret (.bool true)) ∧ OldK s.heap s'.heap ∧ s'.os = s.os ∧ AllBare s'.gens) s := by
  obtain ⟨H, hO, hS, hok, hA⟩ := scr_look (P := P) (w := w) KX ha hi hl
  have un : ∀ {b : Addr} {o : Obj}, s.heap.get? b = some o → o ≠ scrO vs ∨ K.lookup b ≠ none → H b = none := fun {b o} g n => by
    apply Classical.byContradiction
    intro z
    obtain ⟨rfl, k0⟩ := hA b z
    rcases n with n | n
    · exact n (Option.some.inj (g.symm.trans ha))
    · exact n k0
  have nsT : ∀ {b : Addr} {m : Str → Option Value}, s.heap.Ns b m → (hidT s.heap H).Ns b m := fun {b m} ⟨o, es, ep, g, d, r⟩ => ⟨o, es, ep, hidT_get g (un g (.inl fun z => by rw [z] at d; exact nomatch d)), d, r⟩
  have kT : K.In (hidT s.heap H) := fun b o g => hidT_get (KX b o g) (un (KX b o g) (.inr fun z => by rw [g] at z; cases z))
  obtain ⟨mc, lim1, lim2⟩ := lim
  have e0 : Env0 P w K mg (hidT s.heap H) callerA [] s H := { frames := rfl, mod := ⟨kT, nsT gm, ⟨mb, nsT gb, boot⟩, ⟨mc, nsT lim1, lim2⟩⟩, bs := fun b o g => of_hidT g, bsz := Nat.le_of_eq (hidT_size _ _), funs := trivial, frf := fun b hb => (nomatch hb), hok := hok, bare := .of_eq ng }
  refine codeAny_mono ((F _ kT (nsT gm)).runs callerA [] s H ⟨[.ref a], []⟩ [.ref a] [.ref a] (fun v _ => v = .bl true) (fun _ _ _ => False) hr e0 (hbd s (.ref a)) (.cons rfl .nil) ⟨a, ns, rfl, hS, hl, hz, hO, fun _ => rfl⟩) fun r s' h => ?_
  match r, h with
  | .error e, h => exact (no H e s' h).elim
  | .ok .next, h => exact h.elim
  | .ok .brk, h => exact h.elim
  | .ok .cont, h => exact h.elim
  | .ok (.ret u), ⟨v, H', os, bare, ch, hok', rv, q⟩ =>
    have q' : v = .bl true := q
    subst q'
    obtain rfl : u = Value.bool true := rv
    refine ⟨rfl, OldK.of_keep fun b o g => ?_, os, bare⟩
    rcases hO b with z | ⟨ob, xs, z⟩
    · exact ch.keep b o g z (fun y => nomatch y) (fun y => nomatch y)
    · obtain ⟨g1, _⟩ := hok b _ z
      rw [g] at g1; cases g1
      exact (hok' b _ (ch.frzs b _ _ z)).1
theorem walk_g {l : PySem.W.OpenLaw} {k : Nat} {q : Program} {loose : List Str} {XP : (Str → Option Value) → Heap → Prop} {YP : World → Heap → Prop} {d : DefRec} {K : Params → PySem.W.Frag} {x : Str} (hn : l.most = some 63) (hdf : d.params.defaults = []) (hr : RoomG k callerA)
    (hY : ∀ (w : World) (h : Heap), YP w h → (K w.params).In h)
    (F : ∀ (w : World) (mg : Str → Option Value) (fa : Addr) (h : Heap), (K w.params).In h → h.Ns mainGlobals mg → mg d.name = some (.ref fa) →
      ∃ fd : FuncData, (∀ (s : Shared) (u : Value), BindsTo s fd ⟨[u], []⟩ [(x, u)]) ∧ ∀ base : Heap, (K w.params).In base → base.Ns mainGlobals mg → FnG l.prog w (K w.params) mg base k fa fd [x] (spLaw (K w.params)))
    (no : ∀ (w : World) (H : Hp) (s : Shared) (e : Value) (s' : Shared), L2.CX l.prog w [] H s (fun _ _ _ => False) e s' → False) : PySem.W.WalkO q loose XP YP l.row.toRowW d [] (fun f vs => PySem.call f vs) := by
  refine Att.attach_callB hn hdf fun w s0 s1 mg mb fa o pm cd doc a vs ns G Y ho hd hcd hmg hobj hints hlen hbits hg => ?_
  obtain ⟨fd, hbd, hF⟩ := F w mg fa _ (hY w _ Y) G.T.g hmg
  exact head_g (hY w _ Y) G.T.g G.T.b G.T.builtins G.T.nolimit hg hobj hints hlen hbits hr hF hbd (fun H e s' => no w H s1 e s')
/-- the law's def as the end wants it -/
theorem law_mk [Wo] {P : Program} {w : World} {h : Heap} {k : Nat} {fa f : Addr} {x nm : Str} {st : Stmt} {N : List Str} {b : FS} {oc : Value} {od an : Option Addr} {osl : Array (Option Value)} {kV doc pm cdv ct : Value} (X : K.In h) (G : h.Ns mainGlobals mg) (hfa : mg nm = some (.ref fa))
    (a : PySem.W.nsIn K mainGlobals nm = some (some (.ref f))) (l : K.lookup f = some ⟨oc, od, .func (PySem.W.fnOf nm nm (defArgs st) (defBody st) (defScope st) .none kV doc pm an cdv ct), osl⟩) (c : PySem.W.codeIn K cdv nm = true) (kk : PySem.W.keepIn K (.ref f) = true)
    (hb : ∀ (kV doc pm : Value) (an : Option Addr) (cdv ct : Value) (us : List Value), us.length = 1 → bindArgs (PySem.W.fnOf nm nm (defArgs st) (defBody st) (defScope st) .none kV doc pm an cdv ct) ⟨us, []⟩ = pure ([x].zip us)) (S : FnScope N [x] (defScope st))
    (body : ∀ base : Heap, K.In base → base.Ns mainGlobals mg → ∀ (f : Addr) (cdv : Value) (A : Around) (outer : List Env) (s : Shared) (H : Hp) (E : XK), RoomG k (A.deeper (envOfC nm (defScope st) s.heap.objs.size f cdv)) →
      PSs (cxOf (L2.CX P w) P w K mg base N nm (defScope st) f cdv A outer s H E) (defBody st) (tS (cxOf (L2.CX P w) P w K mg base N nm (defScope st) f cdv A outer s H E) (fun c d _ H => E c d H) b))
    (hF : ∀ ns : List Int, ns.length ≤ 63 → (∀ z ∈ ns, Builtin.Int.intBits z ≤ 1048576) → ∃ S', fnB 1 N.length b [.fls (ns.map .int)] [] = .ok (.bl true) S') :
    ∃ fd : FuncData, (∀ (s : Shared) (u : Value), BindsTo s fd ⟨[u], []⟩ [(x, u)]) ∧ ∀ base : Heap, K.In base → base.Ns mainGlobals mg → FnG P w K mg base (k + 1) fa fd [x] (spLaw K) := by
  have e := hfa.symm.trans (PySem.W.mg_of X G a)
  cases e
  have F := fun_mk (st := st) l c kk
  refine ⟨_, fun s u => .of_eq (hb kV doc pm an cdv ct [u] rfl), fun base Kb Gb => ?_⟩
  exact (fn_ok F S (body base Kb Gb fa)).weak (law_imp hF)
theorem cx_no {P : Program} {w : World} {H : Hp} {s s' : Shared} {e : Value} (h : L2.CX P w [] H s (fun _ _ _ => False) e s') : False := by
  obtain ⟨_, _, _, _, _, _, _, _, _, _, _, _, z⟩ := h
  exact z
end
end Kw
namespace Kw
open PySem PySem.Spec PyProof.Rows L2
def lookK (k : Key) : List Key → List D → Option D
  | a :: ks, d :: ds => if a = k then some d else lookK k ks ds
  | _, _ => none
/-- a dict that is asked -/
def gIxD (x y : D) (S : Store) : RE D := match x with
  | .dic ks ds => (match y with
    | .str z => (match lookK (.inr z) ks ds with
      | some d => .ok d S
      | none => .no)
    | .int i => (match lookK (.inl i) ks ds with
      | some d => .ok d S
      | none => .no)
    | _ => .no)
  | _ => .no
end Kw
namespace Kw
open PySem PySem.Spec PyProof.Rows L2
theorem ofString_inj {a b : String} (h : Str.ofString a = Str.ofString b) : a = b := by
  have h1 : (Str.ofString a).cps.toList = (Str.ofString b).cps.toList := by rw [h]
  have key : ∀ s : String, (Str.ofString s).cps.toList = s.toList.map Char.toNat := fun s => by
    show ((cpsOfBytes 0 0 s.toByteArray.data.toList).toArray).toList = _
    rw [cpsOfBytes_string]
  rw [key, key] at h1
  have inj : ∀ {l m : List Char}, l.map Char.toNat = m.map Char.toNat → l = m := fun {l m} h => List.map_inj_right (fun x y e => Char.toNat_inj.mp e) |>.mp h
  have h2 := inj h1
  rw [← String.ofList_toList (s := a), ← String.ofList_toList (s := b), h2]
@[simp] theorem ofString_eq {a b : String} : (Str.ofString a = Str.ofString b) ↔ a = b := ⟨ofString_inj, fun h => by rw [h]⟩
@[simp] theorem ofString_beq {a b : String} : (Str.ofString a == Str.ofString b) = decide (a = b) := by
  by_cases h : a = b
  · subst h; simp
  · have : Str.ofString a ≠ Str.ofString b := fun q => h (ofString_inj q)
    simp [h, this]
@[simp] theorem strOk_of (a : String) : PyData.strOk (Str.ofString a) = true := by
  have key : (Str.ofString a).cps.toList = a.toList.map Char.toNat := by
    show ((cpsOfBytes 0 0 a.toByteArray.data.toList).toArray).toList = _
    rw [cpsOfBytes_string]
  unfold PyData.strOk
  rw [← Array.all_toList, key, List.all_map, List.all_eq_true]
  intro c _
  have h := c.valid
  simp only [UInt32.isValidChar, Nat.isValidChar] at h
  show decide (c.toNat < 1114112) = true
  rw [decide_eq_true_eq]
  show c.val.toNat < 1114112
  omega
section
variable {α β : Type} {a : α} {S : Store} {x : Ex} {f : α → Store → RE β} {ρ : FEnv} {k : α → Store → RS}
@[simp] theorem bnd_ok : (RE.ok a S).bnd f = f a S := rfl
@[simp] theorem bnd_ex : (RE.ex x S : RE α).bnd f = .ex x S := rfl
@[simp] theorem bnd_no : (RE.no : RE α).bnd f = .no := rfl
@[simp] theorem toS_ok : (RE.ok a S).toS ρ k = k a S := rfl
@[simp] theorem toS_ex : (RE.ex x S : RE α).toS ρ k = .ex x ρ S := rfl
@[simp] theorem toS_no : (RE.no : RE α).toS ρ k = .no := rfl
variable {g : FS} {d : D} {ρ' : FEnv}
@[simp] theorem sb_nx : (RS.nx ρ S).bnd g = g ρ S := rfl
@[simp] theorem sb_rt : (RS.rt d S).bnd g = .rt d S := rfl
@[simp] theorem sb_bk : (RS.bk ρ S).bnd g = .bk ρ S := rfl
@[simp] theorem sb_ct : (RS.ct ρ S).bnd g = .ct ρ S := rfl
@[simp] theorem sb_ex : (RS.ex x ρ S).bnd g = .ex x ρ S := rfl
@[simp] theorem sb_no : (RS.no).bnd g = .no := rfl
@[simp] theorem fin_nx : (RS.nx ρ S).fin = .ok .non S := rfl
@[simp] theorem fin_rt : (RS.rt d S).fin = .ok d S := rfl
@[simp] theorem fin_ex : (RS.ex x ρ S).fin = .ex x S := rfl
end
section
variable {ρ : FEnv} {S : Store} {d e : D} {x : Option D} {i : Nat} {a b c : FE} {fs : FA} {ta tb : FT}
@[simp] theorem fVar_z : fVar 0 (some d :: ρ) S = .ok d S := rfl
@[simp] theorem fVar_s : fVar (i + 1) (x :: ρ) S = fVar i ρ S := rfl
@[simp] theorem fC_ap : fC d ρ S = .ok d S := rfl
@[simp] theorem f1_ap {g : D → Store → RE D} : f1 g a ρ S = (a ρ S).bnd g := rfl
@[simp] theorem f2_ap {g : D → D → Store → RE D} : f2 g a b ρ S = (a ρ S).bnd fun x S1 => (b ρ S1).bnd fun y S2 => g x y S2 := rfl
@[simp] theorem fNil_ap : fNil ρ S = .ok [] S := rfl
@[simp] theorem fCons_ap : fCons a fs ρ S = (a ρ S).bnd fun x S1 => (fs ρ S1).bnd fun xs S2 => .ok (x :: xs) S2 := rfl
@[simp] theorem fArg_ap {g : FF} : fArg g fs ρ S = (fs ρ S).bnd g := rfl
def toB (d : D) (S : Store) : RE Bool := match d with
  | .bl k => .ok k S
  | _ => .no
@[simp] theorem toB_bl {k : Bool} : toB (.bl k) S = .ok k S := rfl
@[simp] theorem fB_ap : fB a ρ S = (a ρ S).bnd toB := rfl
def brB (d : D) (S : Store) (t f : RE D) : RE D := match d with
  | .bl k => if k then t else f
  | _ => .no
@[simp] theorem brB_bl {k : Bool} {t f : RE D} : brB (.bl k) S t f = if k then t else f := rfl
@[simp] theorem fChain_ap {g g' : D → D → Store → RE D} : fChain g g' a b c ρ S = (a ρ S).bnd fun x S1 => (b ρ S1).bnd fun y S2 => (g x y S2).bnd fun k S3 => brB k S3 ((c ρ S3).bnd fun z S4 => g' y z S4) (.ok (.bl false) S3) := by
  unfold fChain
  congr; funext x S1; congr; funext y S2; congr; funext k S3
  cases k <;> try rfl
  rename_i k; cases k <;> rfl
@[simp] theorem fAnd_ap : fAnd ta tb ρ S = (ta ρ S).bnd fun k S1 => if k then tb ρ S1 else .ok false S1 := by
  unfold fAnd; congr; funext k S1; cases k <;> rfl
@[simp] theorem fOr_ap : fOr ta tb ρ S = (ta ρ S).bnd fun k S1 => if k then .ok true S1 else tb ρ S1 := by
  unfold fOr; congr; funext k S1; cases k <;> rfl
@[simp] theorem fNot_ap : fNot ta ρ S = (ta ρ S).bnd fun k S1 => .ok (!k) S1 := rfl
@[simp] theorem fIf_ap : fIf ta a b ρ S = (ta ρ S).bnd fun k S1 => if k then a ρ S1 else b ρ S1 := by
  unfold fIf; congr; funext k S1; cases k <;> rfl
@[simp] theorem fAndV_ap : fAndV a b ρ S = (a ρ S).bnd fun k S1 => brB k S1 (b ρ S1) (.ok (.bl false) S1) := by
  unfold fAndV; congr; funext k S1; cases k <;> try rfl
  rename_i k; cases k <;> rfl
@[simp] theorem fOrV_ap : fOrV a b ρ S = (a ρ S).bnd fun k S1 => brB k S1 (.ok (.bl true) S1) (b ρ S1) := by
  unfold fOrV; congr; funext k S1; cases k <;> try rfl
  rename_i k; cases k <;> rfl
def truR (d : D) (S : Store) : RE Bool := match truD S d with
  | some k => .ok k S
  | none => .no
@[simp] theorem truR_bl {k : Bool} : truR (.bl k) S = .ok k S := rfl
@[simp] theorem truR_int {k : Int} : truR (.int k) S = .ok (k != 0) S := rfl
@[simp] theorem truR_non : truR .non S = .ok false S := rfl
@[simp] theorem truR_lst {ds : List D} : truR (.lst ds) S = .ok (!ds.isEmpty) S := rfl
@[simp] theorem truR_tup {ds : List D} : truR (.tup ds) S = .ok (!ds.isEmpty) S := rfl
@[simp] theorem fTru_ap : fTru a ρ S = (a ρ S).bnd truR := rfl
@[simp] theorem fNotV_ap : fNotV a ρ S = (a ρ S).bnd fun x S1 => (truR x S1).bnd fun k S2 => .ok (.bl (!k)) S2 := by
  unfold fNotV; congr; funext x S1; unfold truR; cases truD S1 x <;> rfl
def isiR (T : String) (d : D) (S : Store) : RE D := match tyD S d with
  | some t => .ok (.bl (isiB t T)) S
  | none => .no
@[simp] theorem fIsi_ap {T : String} : fIsi T a ρ S = (a ρ S).bnd (isiR T) := rfl
@[simp] theorem isi_int {T : String} {i : Int} : isiR T (.int i) S = .ok (.bl (decide (T = "int"))) S := by
  have : (isiB "int" T) = decide (T = "int") := by
    unfold isiB
    by_cases h : T = "int"
    · subst h; rfl
    · have h' : ¬ "int" = T := fun z => h z.symm
      simp [h, h']
  show RE.ok (D.bl (isiB "int" T)) S = _
  rw [this]
@[simp] theorem isi_bl {T : String} {i : Bool} : isiR T (.bl i) S = .ok (.bl (decide (T = "bool") || decide (T = "int"))) S := by
  have : (isiB "bool" T) = (decide (T = "bool") || decide (T = "int")) := by
    unfold isiB
    by_cases h : T = "bool"
    · subst h; rfl
    · have h' : ¬ "bool" = T := fun z => h z.symm
      by_cases h2 : T = "int"
      · subst h2; rfl
      · simp [h, h', h2]
  show RE.ok (D.bl (isiB "bool" T)) S = _
  rw [this]
theorem isiB_other {t T : String} (h : t ≠ "bool") : isiB t T = decide (T = t) := by
  unfold isiB
  by_cases e : T = t
  · subst e; simp
  · have e' : ¬ t = T := fun z => e z.symm
    simp [h, e, e']
@[simp] theorem isi_str {T : String} {i : Str} : isiR T (.str i) S = .ok (.bl (decide (T = "str"))) S := by
  show RE.ok (D.bl (isiB "str" T)) S = _
  rw [isiB_other (by decide)]
@[simp] theorem isi_non {T : String} : isiR T .non S = .ok (.bl (decide (T = "NoneType"))) S := by
  show RE.ok (D.bl (isiB "NoneType" T)) S = _
  rw [isiB_other (by decide)]
@[simp] theorem isi_tup {T : String} {ds : List D} : isiR T (.tup ds) S = .ok (.bl (decide (T = "tuple"))) S := by
  show RE.ok (D.bl (isiB "tuple" T)) S = _
  rw [isiB_other (by decide)]
@[simp] theorem isi_lst {T : String} {ds : List D} : isiR T (.lst ds) S = .ok (.bl (decide (T = "list"))) S := by
  show RE.ok (D.bl (isiB "list" T)) S = _
  rw [isiB_other (by decide)]
@[simp] theorem isi_dic {T : String} {ks : List Key} {ds : List D} : isiR T (.dic ks ds) S = .ok (.bl (decide (T = "dict"))) S := by
  show RE.ok (D.bl (isiB "dict" T)) S = _
  rw [isiB_other (by decide)]
theorem isi_loc {T : String} {n : Nat} {ds : List D} (h : cellOf S n = some ds) : isiR T (.loc n) S = .ok (.bl (decide (T = "list"))) S := by
  show (match (cellOf S n).map (fun _ => "list") with | some t => RE.ok (D.bl (isiB t T)) S | none => .no) = _
  rw [h]
  show RE.ok (D.bl (isiB "list" T)) S = _
  rw [isiB_other (by decide)]
end
section
variable {ρ : FEnv} {S : Store} {f g : FS} {fe : FE} {tc : FT} {i : Nat} {fa : FA}
@[simp] theorem sNil_ap : sNil ρ S = .nx ρ S := rfl
@[simp] theorem sSeq_ap : sSeq f g ρ S = (f ρ S).bnd g := rfl
@[simp] theorem sExp_ap : sExp fe ρ S = (fe ρ S).toS ρ fun _ S1 => .nx ρ S1 := rfl
@[simp] theorem sRet_ap : sRet fe ρ S = (fe ρ S).toS ρ fun d S1 => .rt d S1 := rfl
@[simp] theorem sRetN_ap : sRetN ρ S = .rt .non S := rfl
@[simp] theorem sSet_ap : sSet i fe ρ S = (fe ρ S).toS ρ fun d S1 => .nx (ρ.set i (some d)) S1 := rfl
@[simp] theorem sIf_ap : sIf tc f g ρ S = (tc ρ S).toS ρ fun k S1 => if k then f ρ S1 else g ρ S1 := by
  unfold sIf; congr; funext k S1; cases k <;> rfl
@[simp] theorem sRaise_ap {x : Str} : sRaise x ρ S = .ex ⟨x, [], []⟩ ρ S := rfl
def gRes (r : Option (FEnv × Store)) : RS := match r with
  | some (ρ', S') => .nx ρ' S'
  | none => .no
@[simp] theorem gRes_some {ρ' : FEnv} {S' : Store} : gRes (some (ρ', S')) = .nx ρ' S' := rfl
@[simp] theorem sAsg_ap {g : FG} : sAsg fe g ρ S = (fe ρ S).toS ρ fun d S1 => gRes (g d ρ S1) := rfl
@[simp] theorem gN_ap {d : D} : gN i d ρ S = some (ρ.set i (some d), S) := rfl
def gBnd (r : Option (FEnv × Store)) (k : FEnv → Store → Option (FEnv × Store)) : Option (FEnv × Store) := match r with
  | some (ρ', S') => k ρ' S'
  | none => none
@[simp] theorem gBnd_some {ρ' : FEnv} {S' : Store} {k : FEnv → Store → Option (FEnv × Store)} : gBnd (some (ρ', S')) k = k ρ' S' := rfl
@[simp] theorem gsCons_ap {g : FG} {gs : FGs} {d : D} {r : List D} : gsCons g gs (d :: r) ρ S = gBnd (g d ρ S) (gs r) := rfl
@[simp] theorem gTu_ap {n : Nat} {gs : FGs} {ds : List D} : gTu n gs (.tup ds) ρ S = if ds.length = n then gs ds ρ S else none := rfl
def par2 (i j : Nat) (ρ : FEnv) (ds : List D) (S : Store) : RS := match ds with
  | [x, y] => .nx ((ρ.set i (some x)).set j (some y)) S
  | _ => .no
@[simp] theorem par2_ap {j : Nat} {x y : D} : par2 i j ρ [x, y] S = .nx ((ρ.set i (some x)).set j (some y)) S := rfl
@[simp] theorem sPar_ap' {j : Nat} : sPar i j fa ρ S = (fa ρ S).toS ρ (par2 i j ρ) := rfl
def augR (i : Nat) (g : D → D → Store → RE D) (x : Option (Option D)) (f : FE) (ρ : FEnv) (S : Store) : RS := match x with
  | some (some x) => (f ρ S).toS ρ fun y S1 => (g x y S1).toS ρ fun z S2 => .nx (ρ.set i (some z)) S2
  | _ => .no
@[simp] theorem augR_ap {g : D → D → Store → RE D} {x : D} : augR i g (some (some x)) fe ρ S = (fe ρ S).toS ρ fun y S1 => (g x y S1).toS ρ fun z S2 => .nx (ρ.set i (some z)) S2 := rfl
@[simp] theorem sAug_ap {g : D → D → Store → RE D} : sAug i g fe ρ S = augR i g ρ[i]? fe ρ S := rfl
end
section
variable {S : Store} {i j : Int} {a b : Str} {c : Bool} {xs ys ds : List D} {k : Bool} {d e : D}
@[simp] theorem gAdd_ii : gAdd c (.int i) (.int j) S = .ok (.int (i + j)) S := rfl
@[simp] theorem gAdd_ss : gAdd c (.str a) (.str b) S = if a.length + b.length ≤ sizeLine then .ok (.str (a ++ b)) S else .no := rfl
@[simp] theorem gAdd_tt : gAdd c (.tup xs) (.tup ys) S = mkTup (xs ++ ys) S := rfl
@[simp] theorem gAdd_ll : gAdd false (.lst xs) (.lst ys) S = mkLst (xs ++ ys) S := rfl
@[simp] theorem gSub_ii : Kw.gSub (.int i) (.int j) S = .ok (.int (i - j)) S := rfl
@[simp] theorem gMul_ii : gMul c (.int i) (.int j) S = if CMul i j ∨ CMulW i j then .ok (.int (i * j)) S else .no := rfl
@[simp] theorem gMod_ii : gMod (.int i) (.int j) S = if 0 < j then .ok (.int (i % j)) S else .no := rfl
@[simp] theorem gDiv_ii : gDiv (.int i) (.int j) S = if 0 < j ∧ j.natAbs.log2 < 9000 then .ok (.int (i / j)) S else .no := rfl
@[simp] theorem gPow_ii : gPow (.int i) (.int j) S = if 0 ≤ j ∧ j ≤ 1000000 ∧ i.natAbs < 2 ^ 64 then .ok (.int (i ^ j.toNat)) S else .no := rfl
@[simp] theorem gIAdd_ii : gIAdd (.int i) (.int j) S = .ok (.int (i + j)) S := rfl
@[simp] theorem gNeg_i : gNeg (.int i) S = .ok (.int (-i)) S := rfl
@[simp] theorem gCmp_ii {p : Int → Int → Bool} : gCmp p (.int i) (.int j) S = .ok (.bl (p i j)) S := rfl
@[simp] theorem gEq_ss : gEq (.str a) (.str b) S = .ok (.bl (a == b)) S := rfl
@[simp] theorem gNe_ss : gNe (.str a) (.str b) S = .ok (.bl (!(a == b))) S := rfl
@[simp] theorem gEq_ii : gEq (.int i) (.int j) S = .ok (.bl (i == j)) S := by
  simp [gEq, eqE, pyS, okPy, PyData.canLay0, PyData.depth, PyData.eqv]
@[simp] theorem gNe_ii : gNe (.int i) (.int j) S = .ok (.bl (!(i == j))) S := by
  simp [gNe, eqE, pyS, okPy, PyData.canLay0, PyData.depth, PyData.eqv]
@[simp] theorem gEq_bb {i j : Bool} : gEq (.bl i) (.bl j) S = .ok (.bl (i == j)) S := by
  simp [gEq, eqE, pyS, okPy, PyData.canLay0, PyData.depth, PyData.eqv]
@[simp] theorem gNe_bb {i j : Bool} : gNe (.bl i) (.bl j) S = .ok (.bl (!(i == j))) S := by
  simp [gNe, eqE, pyS, okPy, PyData.canLay0, PyData.depth, PyData.eqv]
@[simp] theorem gLen_tup : gLen [.tup ds] S = .ok (.int ds.length) S := rfl
@[simp] theorem gLen_lst : gLen [.lst ds] S = .ok (.int ds.length) S := rfl
@[simp] theorem gLen_fls : gLen [.fls ds] S = .ok (.int ds.length) S := rfl
@[simp] theorem gLen_str : gLen [.str a] S = if a.length ≤ sizeLine then .ok (.int a.length) S else .no := rfl
@[simp] theorem gInt_i : gInt [.int i] S = .ok (.int i) S := rfl
@[simp] theorem gInt_b : gInt [.bl k] S = .ok (.int (if k then 1 else 0)) S := rfl
@[simp] theorem gTuple_lst : gTuple [.lst ds] S = .ok (.tup ds) S := rfl
@[simp] theorem gTuple_tup : gTuple [.tup ds] S = .ok (.tup ds) S := rfl
@[simp] theorem gList_lst : gList false [.lst ds] S = .ok (.lst ds) S := rfl
@[simp] theorem gList_tup : gList false [.tup ds] S = .ok (.lst ds) S := rfl
@[simp] theorem gIs_nn : gIs c .non .non S = .ok (.bl (xor c true)) S := rfl
@[simp] theorem gIs_tn : gIs c (.tup ds) .non S = .ok (.bl (xor c false)) S := rfl
@[simp] theorem gIs_ln : gIs c (.lst ds) .non S = .ok (.bl (xor c false)) S := rfl
@[simp] theorem gIs_in : gIs c (.int i) .non S = .ok (.bl (xor c false)) S := rfl
@[simp] theorem gIs_sn : gIs c (.str a) .non S = .ok (.bl (xor c false)) S := rfl
@[simp] theorem gIs_bn : gIs c (.bl k) .non S = .ok (.bl (xor c false)) S := rfl
@[simp] theorem gIs_bb {l : Bool} : gIs c (.bl k) (.bl l) S = .ok (.bl (xor c (decide (k = l)))) S := rfl
def ixR (ds : List D) (i : Int) (S : Store) : RE D := match L2.atI ds i with
  | some d => .ok d S
  | none => .no
@[simp] theorem ixR_nat {n : Nat} : ixR ds (n : Int) S = match ds[n]? with
  | some d => .ok d S
  | none => .no := by
  unfold ixR
  cases h : ds[n]? with
  | some d => rw [atI_nat h]
  | none =>
    have hl : ds.length ≤ n := List.getElem?_eq_none_iff.mp h
    have : L2.atI ds (n : Int) = none := by
      unfold L2.atI ixN
      rw [if_pos (by omega), if_neg (by omega)]; rfl
    rw [this]
@[simp] theorem ixR_0 : ixR (d :: ds) 0 S = .ok d S := by
  have := ixR_nat (ds := d :: ds) (n := 0) (S := S)
  simpa using this
@[simp] theorem ixR_1 : ixR (d :: e :: ds) 1 S = .ok e S := by
  have := ixR_nat (ds := d :: e :: ds) (n := 1) (S := S)
  simpa using this
@[simp] theorem ixR_2 {e' : D} : ixR (d :: e :: e' :: ds) 2 S = .ok e' S := by
  have := ixR_nat (ds := d :: e :: e' :: ds) (n := 2) (S := S)
  simpa using this
@[simp] theorem gIx_tup : gIx (.tup ds) (.int i) S = ixR ds i S := rfl
@[simp] theorem gIx_lst : gIx (.lst ds) (.int i) S = ixR ds i S := rfl
@[simp] theorem gIx_fls : gIx (.fls ds) (.int i) S = ixR ds i S := rfl
theorem gIx_loc {n : Nat} (h : cellOf S n = some ds) : gIx (.loc n) (.int i) S = ixR ds i S := by
  show (match cellOf S n with | some ds => ixR ds i S | none => .no) = _
  rw [h]
end
@[simp] theorem short2 {n : Nat} (h : n ≤ 1000) : (n ≤ sizeLine) = True := eq_true (Nat.le_trans h (by decide))
theorem sz : sizeLine = 16777216 := rfl
section
variable {S : Store} {ds : List D}
@[simp] theorem mkTup_ap : mkTup ds S = if ds.length ≤ sizeLine then .ok (.tup ds) S else .no := rfl
@[simp] theorem mkLst_ap : mkLst ds S = if ds.length ≤ sizeLine then .ok (.lst ds) S else .no := rfl
@[simp] theorem mkCel_ap : mkCel ds S = if ds.length ≤ sizeLine then .ok (.loc S.length) (S ++ [.lst ds]) else .no := rfl
section
variable {n : Nat} {b : FS} {a1 a2 a3 a4 a5 : D}
@[simp] theorem fnB_0 : fnB 0 n b [] S = (b (List.replicate n none) S).fin := rfl
@[simp] theorem fnB_1 : fnB 1 n b [a1] S = (b (some a1 :: List.replicate (n - 1) none) S).fin := rfl
@[simp] theorem fnB_2 : fnB 2 n b [a1, a2] S = (b (some a1 :: some a2 :: List.replicate (n - 2) none) S).fin := rfl
@[simp] theorem fnB_3 : fnB 3 n b [a1, a2, a3] S = (b (some a1 :: some a2 :: some a3 :: List.replicate (n - 3) none) S).fin := rfl
@[simp] theorem fnB_4 : fnB 4 n b [a1, a2, a3, a4] S = (b (some a1 :: some a2 :: some a3 :: some a4 :: List.replicate (n - 4) none) S).fin := rfl
@[simp] theorem fnB_5 : fnB 5 n b [a1, a2, a3, a4, a5] S = (b (some a1 :: some a2 :: some a3 :: some a4 :: some a5 :: List.replicate (n - 5) none) S).fin := rfl
end
end
end Kw
namespace Kw
open PySem PySem.Spec PyProof.Rows L2
section
variable {S T : Store} {n : Nat} {ds xs ys : List D} {c c' : Cell} {d x : D} {i : Int} {ρ : FEnv}
@[simp] theorem cellOf_app : cellOf (S ++ [.lst ds]) S.length = some ds := by simp [cellOf]
@[simp] theorem cellM_app : cellM (S ++ [.lst ds]) S.length = some ds := by simp [cellM]
@[simp] theorem set_app : (S ++ [c]).set S.length c' = S ++ [c'] := by simp [List.set_append]
theorem cellOf_of (h : S[n]? = some (.lst ds)) : cellOf S n = some ds := by simp [cellOf, h]
theorem cellM_of (h : S[n]? = some (.lst ds)) : cellM S n = some ds := by simp [cellM, h]
def ixO (o : Option (List D)) (i : Int) (S : Store) : RE D := match o with
  | some ds => ixR ds i S
  | none => .no
@[simp] theorem ixO_some : ixO (some ds) i S = ixR ds i S := rfl
@[simp] theorem gIx_locO : gIx (.loc n) (.int i) S = ixO (cellOf S n) i S := rfl
theorem cut_ok {S : Store} {d : D} (T : Store) (h : d.under S.length = true) : cutR S (.ok d (S ++ T)) = .ok d S := by
  have hc : CutOk S (S ++ T) := ⟨by simp, fun i c hi e => .inl (by rw [List.getElem?_append_left hi] at e; exact e)⟩
  have hd : (D.under S.length d = true ∧ CutOk S (S ++ T)) := ⟨h, hc⟩
  simp [cutR, hd]
theorem fnC_ap {m n : Nat} {b : FS} : fnC m n b ds S = cutR S (fnB m n b ds S) := rfl
/-- a list beside the empty one -/
theorem gNe_nil (h : cellOf S n = some ds) : gNe (.loc n) (.lst []) S = .ok (.bl (!ds.isEmpty)) S := by
  unfold gNe eqE seqL
  simp only
  rw [h]; rfl
@[simp] theorem gEq_te : gEq (.tup ds) (.tup []) S = .ok (.bl ds.isEmpty) S := rfl
@[simp] theorem gNe_te : gNe (.tup ds) (.tup []) S = .ok (.bl (!ds.isEmpty)) S := rfl
@[simp] theorem gEq_ts {a b : Str} : gEq (.tup (.str a :: ds)) (.tup [.str b]) S = .ok (.bl (a == b && ds.isEmpty)) S := rfl
@[simp] theorem gNe_ts {a b : Str} : gNe (.tup (.str a :: ds)) (.tup [.str b]) S = .ok (.bl (!(a == b && ds.isEmpty))) S := rfl
@[simp] theorem gEq_le : gEq (.lst ds) (.lst []) S = .ok (.bl ds.isEmpty) S := rfl
@[simp] theorem gNe_le : gNe (.lst ds) (.lst []) S = .ok (.bl (!ds.isEmpty)) S := rfl
@[simp] theorem gInG_str {neg : Bool} {nm z : Str} {kvs : List (Str × D)} : gInG neg nm kvs (.str z) (.glo nm) S = .ok (.bl (xor neg (kvs.lookup z).isSome)) S := by
  show (if nm = nm then RE.ok (D.bl (xor neg (kvs.lookup z).isSome)) S else .no) = _
  rw [if_pos rfl]
def luR (o : Option D) (S : Store) : RE D := match o with
  | some d => .ok d S
  | none => .no
@[simp] theorem luR_some : luR (some d) S = .ok d S := rfl
@[simp] theorem gIxG_str {nm z : Str} {kvs : List (Str × D)} : gIxG nm kvs (.glo nm) (.str z) S = luR (kvs.lookup z) S := by
  show (if nm = nm then luR (kvs.lookup z) S else .no) = _
  rw [if_pos rfl]
@[simp] theorem gIxD_str {ks : List Key} {z : Str} : gIxD (.dic ks ds) (.str z) S = luR (lookK (.inr z) ks ds) S := rfl
@[simp] theorem gIxD_int {ks : List Key} {z : Int} : gIxD (.dic ks ds) (.int z) S = luR (lookK (.inl z) ks ds) S := rfl
@[simp] theorem fNone_ap : fNone ρ S = .ok none S := rfl
def toI (d : D) (S : Store) : RE (Option Int) := match d with
  | .int i => .ok (some i) S
  | _ => .no
@[simp] theorem toI_int : toI (.int i) S = .ok (some i) S := rfl
@[simp] theorem fSome_ap {f : FE} : fSome f ρ S = (f ρ S).bnd toI := rfl
@[simp] theorem fSl_ap {g : D → Option Int → Option Int → Store → RE D} {a : FE} {l u : FO} : fSl g a l u ρ S = (a ρ S).bnd fun x S1 => (l ρ S1).bnd fun lo S2 => (u ρ S2).bnd fun hi S3 => g x lo hi S3 := rfl
@[simp] theorem gSl_tup {c : Bool} {lo hi : Option Int} : gSl c (.tup ds) lo hi S = .ok (.tup (cutL ds lo hi)) S := rfl
@[simp] theorem gSl_lst {lo hi : Option Int} : gSl false (.lst ds) lo hi S = .ok (.lst (cutL ds lo hi)) S := rfl
@[simp] theorem gSl_fls {lo hi : Option Int} : gSl false (.fls ds) lo hi S = .ok (.lst (cutL ds lo hi)) S := rfl
def slO (o : Option (List D)) (lo hi : Option Int) (S : Store) : RE D := match o with
  | some ds => .ok (.lst (cutL ds lo hi)) S
  | none => .no
@[simp] theorem slO_some {lo hi : Option Int} : slO (some ds) lo hi S = .ok (.lst (cutL ds lo hi)) S := rfl
@[simp] theorem gSl_loc {lo hi : Option Int} : gSl false (.loc n) lo hi S = slO (cellOf S n) lo hi S := rfl
def mthR (g : D → List D → Store → RE D) (a : FA) (ρ : FEnv) (x : D) (S : Store) : RE D := match seqL S x with
  | some _ => (a ρ S).bnd fun ds S2 => g x ds S2
  | none => .no
@[simp] theorem fMth_ap {g : D → List D → Store → RE D} {o : FE} {a : FA} : fMth g o a ρ S = (o ρ S).bnd (mthR g a ρ) := rfl
theorem mthR_loc {g : D → List D → Store → RE D} {a : FA} (h : cellOf S n = some xs) : mthR g a ρ (.loc n) S = (a ρ S).bnd fun ds S2 => g (.loc n) ds S2 := by
  show (match cellOf S n with | some _ => (a ρ S).bnd fun ds S2 => g (.loc n) ds S2 | none => .no) = _
  rw [h]
theorem gAppend_loc (h : cellM S n = some xs) (hl : xs.length < sizeLine) : gAppend (.loc n) [d] S = .ok .non (S.set n (.lst (xs ++ [d]))) := by
  simp [gAppend, h, hl]
theorem gExtend_loc (h : cellM S n = some xs) (hl : xs.length + ys.length ≤ sizeLine) : gExtend (.loc n) [.lst ys] S = .ok .non (S.set n (.lst (xs ++ ys))) := by
  simp [gExtend, h, seqM, hl]
theorem gPop0_loc (h : cellM S n = some (xs ++ [d])) : gPop0 (.loc n) [] S = .ok d (S.set n (.lst xs)) := by
  simp [gPop0, h]
end
def loopR (w : FS) (r : RS) : RS := match r with
  | .nx ρ2 S2 => w ρ2 S2
  | .ct ρ2 S2 => w ρ2 S2
  | .bk ρ2 S2 => .nx ρ2 S2
  | z => z
section
variable {w : FS} {ρ : FEnv} {S : Store} {d : D} {x : Ex}
@[simp] theorem loopR_nx : loopR w (.nx ρ S) = w ρ S := rfl
@[simp] theorem loopR_ct : loopR w (.ct ρ S) = w ρ S := rfl
@[simp] theorem loopR_bk : loopR w (.bk ρ S) = .nx ρ S := rfl
@[simp] theorem loopR_rt : loopR w (.rt d S) = .rt d S := rfl
@[simp] theorem loopR_ex : loopR w (.ex x ρ S) = .ex x ρ S := rfl
@[simp] theorem loopR_no : loopR w .no = .no := rfl
theorem sWhile_go {c : FT} {b : FS} : sWhile c b ρ S = (c ρ S).toS ρ fun k S1 => if k then loopR (sWhile c b) (b ρ S1) else .nx ρ S1 := by
  rw [sWhile_step]
  congr; funext k S1; cases k
  · rfl
  · show _ = loopR (sWhile c b) (b ρ S1)
    cases b ρ S1 <;> rfl
variable {tg : FG} {b : FS} {r : List D} {fi : FI}
def tgR (w b : FS) (o : Option (FEnv × Store)) : RS := match o with
  | some (ρ1, S1) => loopR w (b ρ1 S1)
  | none => .no
@[simp] theorem tgR_some : tgR w b (some (ρ, S)) = loopR w (b ρ S) := rfl
@[simp] theorem forL_nil : forL tg b none [] ρ S = .nx ρ S := by
  unfold forL gchk; rw [if_pos (by unfold gd; trivial)]
theorem forL_cons : forL tg b none (d :: r) ρ S = tgR (forL tg b none r) b (tg d ρ S) := by
  show gchk none S _ _ = _
  unfold gchk
  rw [if_pos (by unfold gd; trivial)]
  cases tg d ρ S with
  | none => rfl
  | some p =>
    obtain ⟨ρ1, S1⟩ := p
    show (match b ρ1 S1 with
      | .nx ρ2 S2 => forL tg b none r ρ2 S2
      | .ct ρ2 S2 => forL tg b none r ρ2 S2
      | .bk ρ2 S2 => .nx ρ2 S2
      | z => z) = loopR _ (b ρ1 S1)
    cases b ρ1 S1 <;> rfl
@[simp] theorem sFor_ap : sFor fi tg b ρ S = (fi ρ S).toS ρ fun p S1 => forL tg b p.2 p.1 ρ S1 := rfl
def itL (d : D) (S : Store) : RE Its' := match iSeq S d with
  | some p => .ok p S
  | none => .no
def itT (d : D) (S : Store) : RE Its' := match d with
  | .tup ds => .ok (ds, none) S
  | _ => .no
def itS (d : D) (S : Store) : RE Its' := match d with
  | .str z => .ok (chrs z, none) S
  | _ => .no
def itR (ds : List D) (S : Store) : RE Its' := match ds with
  | [.int j] => if -(2 ^ 62) ≤ j ∧ j < 2 ^ 62 then .ok (rngD 0 j.toNat, none) S else .no
  | _ => .no
@[simp] theorem fiL_ap {f : FE} : fiL f ρ S = (f ρ S).bnd itL := rfl
@[simp] theorem fiT_ap {f : FE} : fiT f ρ S = (f ρ S).bnd itT := rfl
@[simp] theorem fiS_ap {f : FE} : fiS f ρ S = (f ρ S).bnd itS := rfl
@[simp] theorem fiR1_ap {f : FA} : fiR1 f ρ S = (f ρ S).bnd itR := rfl
@[simp] theorem itL_lst {ds : List D} : itL (.lst ds) S = .ok (ds, none) S := rfl
@[simp] theorem itL_fls {ds : List D} : itL (.fls ds) S = .ok (ds, none) S := rfl
@[simp] theorem itT_tup {ds : List D} : itT (.tup ds) S = .ok (ds, none) S := rfl
@[simp] theorem itS_str {z : Str} : itS (.str z) S = .ok (chrs z, none) S := rfl
@[simp] theorem itR_int {j : Int} : itR [.int j] S = if -(2 ^ 62) ≤ j ∧ j < 2 ^ 62 then .ok (rngD 0 j.toNat, none) S else .no := rfl
end
@[simp] theorem len_of (s : String) : (Str.ofString s).length = s.toList.length := by
  have key : (Str.ofString s).cps.toList = s.toList.map Char.toNat := by
    show ((cpsOfBytes 0 0 s.toByteArray.data.toList).toArray).toList = _
    rw [cpsOfBytes_string]
  show (Str.ofString s).cps.size = _
  rw [← Array.length_toList, key, List.length_map]
inductive Kd where
  | base (i : Fin 8)
  | unit
  | both (a b : Kd)
  | frm (a b : Kd)
deriving DecidableEq
namespace Kd
def d : Kd → D
  | .base i => .tup [.str "base", .int (i.val : Int)]
  | .unit => .tup [.str "unit"]
  | .both a b => .tup [.str "both", d a, d b]
  | .frm a b => .tup [.str "from", d a, d b]
def p : Kd → PyData
  | .base i => .tuple [.str "base", .int (i.val : Int)]
  | .unit => .tuple [.str "unit"]
  | .both a b => .tuple [.str "both", p a, p b]
  | .frm a b => .tuple [.str "from", p a, p b]
/-- how deep -/
def dep : Kd → Nat
  | .both a b => max (dep a) (dep b) + 1
  | .frm a b => max (dep a) (dep b) + 1
  | _ => 0
def sz : Kd → Nat
  | .both a b => sz a + sz b + 1
  | .frm a b => sz a + sz b + 1
  | _ => 1
@[simp] theorem py0_d : ∀ k : Kd, py0 k.d = some k.p
  | .base i => by simp [d, p, py0, py0L]
  | .unit => by simp [d, p, py0, py0L]
  | .both a b => by simp [d, p, py0, py0L, py0_d a, py0_d b]
  | .frm a b => by simp [d, p, py0, py0L, py0_d a, py0_d b]
@[simp] theorem pyS_d (S : Store) : ∀ k : Kd, pyS S k.d = some k.p
  | .base i => by simp [d, p, pyS, pySL]
  | .unit => by simp [d, p, pyS, pySL]
  | .both a b => by simp [d, p, pyS, pySL, pyS_d S a, pyS_d S b]
  | .frm a b => by simp [d, p, pyS, pySL, pyS_d S a, pyS_d S b]
@[simp] theorem lay_p : ∀ k : Kd, k.p.canLay0 = true
  | .base i => by simp [p, PyData.canLay0, PyData.canLayAll0]
  | .unit => by simp [p, PyData.canLay0, PyData.canLayAll0]
  | .both a b => by simp [p, PyData.canLay0, PyData.canLayAll0, lay_p a, lay_p b]
  | .frm a b => by simp [p, PyData.canLay0, PyData.canLayAll0, lay_p a, lay_p b]
theorem eqvAll_c {x y : PyData} {xs ys : List PyData} : PyData.eqvAll (x :: xs) (y :: ys) = (PyData.eqv x y && PyData.eqvAll xs ys) := by simp only [PyData.eqvAll]
theorem eqvAll_n : PyData.eqvAll [] [] = true := by simp only [PyData.eqvAll]
theorem eqv_t {xs ys : List PyData} : PyData.eqv (.tuple xs) (.tuple ys) = PyData.eqvAll xs ys := by simp only [PyData.eqv]
theorem eqv_s {x y : Str} : PyData.eqv (.str x) (.str y) = (x == y) := by simp only [PyData.eqv]
theorem eqv_i {x y : Int} : PyData.eqv (.int x) (.int y) = (x == y) := by simp only [PyData.eqv]
@[simp] theorem und_d (n : Nat) : ∀ k : Kd, k.d.under n = true
  | .base i => by simp [d, D.under, underL]
  | .unit => by simp [d, D.under, underL]
  | .both a b => by simp [d, D.under, underL, und_d n a, und_d n b]
  | .frm a b => by simp [d, D.under, underL, und_d n a, und_d n b]
theorem d_tup : ∀ k : Kd, ∃ ds, k.d = .tup ds
  | .base i => ⟨_, rfl⟩
  | .unit => ⟨_, rfl⟩
  | .both a b => ⟨_, rfl⟩
  | .frm a b => ⟨_, rfl⟩
@[simp] theorem isi_d {T : String} {S : Store} (k : Kd) : isiR T k.d S = .ok (.bl (decide (T = "tuple"))) S := by
  obtain ⟨ds, h⟩ := d_tup k
  rw [h]; simp
end Kd
end Kw
namespace Kw
open PySem PySem.Spec PyProof.Rows L2
/-- isinstance of the exception in hand (at a), whose answer is b -/
def fIsE (a : Addr) (b : Bool) (f : FE) : FE := fun ρ S => (f ρ S).bnd fun x S1 => match x with
  | .exn a' => if a' = a then .ok (.bl b) S1 else .no
  | _ => .no
/-- y's class is one that isinstance can be asked of -/
def ExcK (K : PySem.W.Frag) (mg : Str → Option Value) (y : Str) : Prop := ∃ C, mg y = some (.ref C) ∧ ExcC K C
/-- what isinstance answers for an exception of class y, asked for the program's class x -/
def IsxO (K : PySem.W.Frag) (mg : Str → Option Value) (y x : Str) (b : Bool) : Prop := ∃ C B, mg y = some (.ref C) ∧ mg x = some (.ref B) ∧ PySem.W.kitOne K (.ref C) (.ref B) = some b
def RS.clr (i : Nat) (r : RS) : RS := match r with
  | .nx ρ S => .nx (ρ.set i none) S
  | .bk ρ S => .bk (ρ.set i none) S
  | .ct ρ S => .ct (ρ.set i none) S
  | r => r
/-- a result that no address matters to -/
noncomputable def aInd (R : Addr → RS) : RS := open Classical in if ∀ a, R a = R 0 then R 0 else .no
theorem aInd_at {R : Addr → RS} {r : RS} (a : Addr) (h : aInd R = r) (hn : r ≠ .no) : R a = r := by
  unfold aInd at h
  split at h
  · rename_i hh; rw [hh a, h]
  · exact absurd h.symm hn
section
variable {X : Cx} {W : WX} {x n : Str} {pos pos' np : Pos} {i : Nat}
theorem EndS.clr [Wo] {K : PySem.W.Frag} {mg : Str → Option Value} {w : Wd} {H : Hp} {D : Ends} {r : RS} (h : EndS K mg w H ((r.clr i).noX) D W) :
    EndS K mg w H r { nx := fun σ' H' => D.nx (σ'.set i none) H', rt := D.rt, bk := fun σ' H' => D.bk (σ'.set i none) H', ct := fun σ' H' => D.ct (σ'.set i none) H' } W0 := by
  cases r with
  | nx ρ S => exact fun w' H' σ' e s en => h w' H' _ e s en.wipe1
  | bk ρ S => exact fun w' H' σ' e s en => h w' H' _ e s en.wipe1
  | ct ρ S => exact fun w' H' σ' e s en => h w' H' _ e s en.wipe1
  | rt d S => exact h
  | ex x ρ S => exact h.elim
  | no => exact h.elim
end
end Kw
namespace Kw
open PySem PySem.Spec PyProof.Rows L2
def CatY (K : PySem.W.Frag) (mg : Str → Option Value) (c : Value) (y : Str) (b : Bool) : Prop := ∃ C, mg y = some (.ref C) ∧ PySem.W.exmOne K (.ref C) c = some b
/-- what a clause over x catches of the classes es -/
def CatF (K : PySem.W.Frag) (mg : Str → Option Value) (es : List Str) (x : Str) (sub : Str → Bool) : Prop := ∃ c, mg x = some c ∧ ∀ y ∈ es, CatY K mg c y (sub y)
section
variable {X : Cx} {W : WX} {x n : Str} {pos pos' np : Pos} {i : Nat} {body suite : List Stmt} {b₀ : Stmt} {es : List Str} {sub : Str → Bool} {fb : FS}
theorem CatF.names (h : CatF X.K X.mg es x sub) (hg : Gl X x) (hd : (x == ("__debug__" : Str)) = false) : ∃ c, Names X x c ∧ ∀ y ∈ es, ∀ cy, X.mg y = some cy → PySem.W.exmOne X.K cy c = some (sub y) := by
  obtain ⟨c, m, h⟩ := h
  refine ⟨c, ⟨hg, hd, .inl m⟩, fun y hy cy e => ?_⟩
  obtain ⟨C, m2, k⟩ := h y hy
  cases e.symm.trans m2
  exact k
end
end Kw
namespace Kw
open PySem PySem.Spec PyProof.Rows L2
section
variable {tg : FG} {tt : FT} {te : FE} {ρ : FEnv} {gg : Option (Nat × List D)} {S : Store} {acc ds : List D} {b : FS}
theorem compL_nil (hg : gd gg S) : compL tg tt te gg ρ [] acc S = .ok acc S := by
  unfold compL gchk; rw [if_pos hg]
theorem compL_step {d y : D} {ρ1 : FEnv} {S1 S2 S3 : Store} (hg : gd gg S) (h1 : tg d ρ S = some (ρ1, S1)) (h2 : tt ρ1 S1 = .ok true S2) (h3 : te ρ1 S2 = .ok y S3) (hl : acc.length < sizeLine) :
    compL tg tt te gg ρ (d :: ds) acc S = compL tg tt te gg ρ ds (acc ++ [y]) S3 := by
  conv => lhs; unfold compL
  unfold gchk
  rw [if_pos hg, h1]
  simp [h2, h3, hl]
theorem compL_map (f : D → D) (hg : gd gg S) : ∀ (ds acc : List D), (∀ d ∈ ds, ∃ ρ1, tg d ρ S = some (ρ1, S) ∧ tt ρ1 S = .ok true S ∧ te ρ1 S = .ok (f d) S) → acc.length + ds.length ≤ sizeLine →
    compL tg tt te gg ρ ds acc S = .ok (acc ++ ds.map f) S
  | [], acc, _, _ => by rw [compL_nil hg]; simp
  | d :: ds, acc, h, hl => by
    obtain ⟨ρ1, h1, h2, h3⟩ := h d List.mem_cons_self
    rw [compL_step hg h1 h2 h3 (by simp at hl; omega), compL_map f hg ds (acc ++ [f d]) (fun e he => h e (List.mem_cons_of_mem _ he)) (by simp at hl ⊢; omega)]
    simp
/-- a comprehension whose parts change the store -/
theorem compL_inv (I : Store → List D → Prop) : ∀ (ds acc : List D) (S : Store), (∀ d ∈ ds, ∀ S acc, I S acc → ∃ ρ1 y S', tg d ρ S = some (ρ1, S) ∧ tt ρ1 S = .ok true S ∧ te ρ1 S = .ok y S' ∧ I S' (acc ++ [y])) → I S acc → acc.length + ds.length ≤ sizeLine →
    ∃ acc' S', compL tg tt te none ρ ds acc S = .ok acc' S' ∧ I S' acc' ∧ acc'.length = acc.length + ds.length
  | [], acc, S, _, i, _ => ⟨acc, S, compL_nil (by unfold gd; trivial), i, by simp⟩
  | d :: ds, acc, S, h, i, hl => by
    obtain ⟨ρ1, y, S1, h1, h2, h3, i1⟩ := h d List.mem_cons_self S acc i
    obtain ⟨acc', S', e, i', l⟩ := compL_inv I ds (acc ++ [y]) S1 (fun e he => h e (List.mem_cons_of_mem _ he)) i1 (by simp at hl ⊢; omega)
    refine ⟨acc', S', ?_, i', by simp at l ⊢; omega⟩
    rw [compL_step (by unfold gd; trivial) h1 h2 h3 (by simp at hl; omega), e]
def lcR (c : Bool) (r : RE (List D)) : RE D := match r with
  | .ok acc S2 => if c then .ok (.loc S2.length) (S2 ++ [.lst acc]) else .ok (.lst acc) S2
  | _ => .no
@[simp] theorem lcR_f : lcR false (.ok acc S) = .ok (.lst acc) S := rfl
@[simp] theorem lcR_t : lcR true (.ok acc S) = .ok (.loc S.length) (S ++ [.lst acc]) := rfl
@[simp] theorem fLc_ap {c : Bool} {fi : FI} {vs : List Nat} : fLc c fi tg tt te vs ρ S = (fi ρ S).bnd fun p S1 => lcR c (compL tg tt te p.2 (wipeR ρ vs) p.1 [] S1) := rfl
@[simp] theorem fYes_ap : fYes ρ S = .ok true S := rfl
@[simp] theorem gAll_lst {bs : List Bool} : gAll [.lst (bs.map .bl)] S = .ok (.bl (bs.all id)) S := by
  have : ∀ bs : List Bool, blsOf (bs.map .bl) = some bs := by
    intro bs
    induction bs with
    | nil => rfl
    | cons b bs ih => simp [blsOf, ih]
  show (match (some (bs.map D.bl)).bind blsOf with
    | some bs => RE.ok (D.bl (bs.all id)) S
    | none => .no) = _
  simp [this]
end
/-- an exception in hand, asked -/
@[simp] theorem fIsE_ap {a : Addr} {b : Bool} {i : Nat} {ρ : FEnv} {S : Store} (h : ρ[i]? = some (some (.exn a))) : fIsE a b (fVar i) ρ S = .ok (.bl b) S := by
  have e : fVar i ρ S = .ok (.exn a) S := by
    unfold fVar; rw [h]
  unfold fIsE
  rw [e]
  simp
section
variable {es : List Str} {sub : Str → Bool} {i : Nat} {c : Str → Addr → FS} {ρ : FEnv} {S : Store} {d : D}
@[simp] theorem clr_rt : (RS.rt d S).clr i = .rt d S := rfl
@[simp] theorem clr_nx : (RS.nx ρ S).clr i = .nx (ρ.set i none) S := rfl
@[simp] theorem noX_rt : (RS.rt d S).noX = .rt d S := rfl
@[simp] theorem noX_nx : (RS.nx ρ S).noX = .nx ρ S := rfl
end
end Kw
namespace Kw
open PySem PySem.Spec PyProof.Rows L2
abbrev Cl := Value × Option Nat × (Addr → Value → Option Addr → TS)
/-- the ends after a clause whose name stands in slot i -/
def gone (i : Nat) (D : Ends) : Ends := { nx := fun z G => D.nx (z.set i none) G, rt := D.rt, bk := fun z G => D.bk (z.set i none) G, ct := fun z G => D.ct (z.set i none) G }
def hit (o : Option Nat) (ts : TS) (D : Ends) (a : Addr) (σ : L2.St) (H : Hp) : Prop := match o with
  | none => ts D σ H
  | some i => ts (gone i D) (σ.set i (some (.ref a))) H
/-- what the clauses wish of an exception -/
def wCls (K : PySem.W.Frag) (Wout : WX) (D : Ends) : List Cl → WX
  | [] => Wout
  | (c, o, ts) :: r => fun cls d σ H => ∃ b, PySem.W.exmOne K cls c = some b ∧ (b = true → ∀ a, H a = none → hit o (ts a cls d) D a σ H) ∧ (b = false → wCls K Wout D r cls d σ H)
def SuOk (X : Cx) (suite : List Stmt) (ts : Addr → Value → Option Addr → TS) : Prop :=
  ∀ (a : Addr) (oe : Obj) (cls : Value) (d : Option Addr) (pn : List (Addr × Obj)), Zc cls d oe → (∃ vs, oe.data = .fields vs) → PSs (X.suite a ((a, oe) :: pn)) suite (ts a cls d)
inductive ClsOk (X : Cx) : List ExceptHandler → List Cl → Prop
  | nil : ClsOk X [] []
  | plain {x : Str} {c : Value} {ts : Addr → Value → Option Addr → TS} {b₀ : Stmt} {su : List Stmt} {np q : Pos} {hds : List ExceptHandler} {l : List Cl} (nm : Names X x c) (k : SuOk X (b₀ :: su) ts) (r : ClsOk X hds l) :
      ClsOk X (.ExceptHandler (some (.Name x np)) none (b₀ :: su) q :: hds) ((c, none, ts) :: l)
  | named {x n : Str} {i : Nat} {c : Value} {ts : Addr → Value → Option Addr → TS} {b₀ : Stmt} {su : List Stmt} {np q : Pos} {hds : List ExceptHandler} {l : List Cl} (hi : X.N[i]? = some n) (hln : X.env.kindOf n = some .local) (nm : Names X x c) (k : SuOk X (b₀ :: su) ts) (r : ClsOk X hds l) :
      ClsOk X (.ExceptHandler (some (.Name x np)) (some n) (b₀ :: su) q :: hds) ((c, some i, ts) :: l)
abbrev ClF := (Str → Bool) × Option Nat × (Str → Addr → FS)
def clRun (o : Option Nat) (c : Addr → FS) (ρ : FEnv) (S : Store) (a : Addr) : RS := match o with
  | none => (c a ρ S).noX
  | some i => ((c a (ρ.set i (some (.exn a))) S).clr i).noX
noncomputable def clsR (x : Ex) (ρ : FEnv) (S : Store) : List ClF → RS
  | [] => .ex x ρ S
  | (sub, o, c) :: r => if sub x.cls then aInd (clRun o (c x.cls) ρ S) else clsR x ρ S r
def SuF [Wo] (X : Cx) (es : List Str) (suite : List Stmt) (c : Str → Addr → FS) : Prop :=
  ∀ (y : Str), y ∈ es → ∀ (a : Addr) (oe : Obj) (pn : List (Addr × Obj)) (C : Addr), X.mg y = some (.ref C) → Zc (.ref C) none oe → (∃ vs, oe.data = .fields vs) → PSs (X.suite a ((a, oe) :: pn)) suite (tS (X.suite a ((a, oe) :: pn)) W0 (c y a))
inductive ClsF [Wo] (X : Cx) (es : List Str) : List ExceptHandler → List ClF → Prop
  | nil : ClsF X es [] []
  | plain {x : Str} {sub : Str → Bool} {c : Str → Addr → FS} {b₀ : Stmt} {su : List Stmt} {np q : Pos} {hds : List ExceptHandler} {l : List ClF} (h : CatF X.K X.mg es x sub) (hg : Gl X x) (k : SuF X es (b₀ :: su) c) (r : ClsF X es hds l) (hd : (x == ("__debug__" : Str)) = false := by decide) :
      ClsF X es (.ExceptHandler (some (.Name x np)) none (b₀ :: su) q :: hds) ((sub, none, c) :: l)
  | named {x n : Str} {i : Nat} {sub : Str → Bool} {c : Str → Addr → FS} {b₀ : Stmt} {su : List Stmt} {np q : Pos} {hds : List ExceptHandler} {l : List ClF} (h : CatF X.K X.mg es x sub) (hg : Gl X x) (hi : X.N[i]? = some n) (hln : X.env.kindOf n = some .local) (k : SuF X es (b₀ :: su) c) (r : ClsF X es hds l) (hd : (x == ("__debug__" : Str)) = false := by decide) :
      ClsF X es (.ExceptHandler (some (.Name x np)) (some n) (b₀ :: su) q :: hds) ((sub, some i, c) :: l)
section
variable {X : Cx} {W : WX} {es : List Str}
def tsOf [Wo] (X : Cx) (es : List Str) (c : Str → Addr → FS) : Addr → Value → Option Addr → TS := fun a cls d D σ H => ∃ y C, y ∈ es ∧ X.mg y = some (.ref C) ∧ cls = .ref C ∧ d = none ∧ tS X W0 (c y a) D σ H
theorem SuF.su [Wo] {suite : List Stmt} {c : Str → Addr → FS} (k : SuF X es suite c) : SuOk X suite (tsOf X es c) := by
  intro a oe cls d pn hz hd
  refine ⟨fun pins s σ H D I h => ?_⟩
  obtain ⟨y, C, hy, hyC, rfl, rfl, t⟩ := h
  exact (k y hy a oe pn C hyC hz hd).run pins s σ H D I t
theorem EndS.nox [Wo] {K : PySem.W.Frag} {mg : Str → Option Value} {w : Wd} {H : Hp} {D : Ends} {r : RS} (h : EndS K mg w H r.noX D W) : EndS K mg w H r D W0 := by
  cases r with
  | ex x ρ S => exact h.elim
  | _ => exact h
theorem ClsF.go [Wo] {hds : List ExceptHandler} {cs : List ClF} (h : ClsF X es hds cs) (hk : ∀ y ∈ es, ExcK X.K X.mg y) : ∃ l, ClsOk X hds l ∧ ∀ (D : Ends) (w : Wd) (x : Ex) (ρ : FEnv) (S : Store) (σ : L2.St) (H : Hp) (cy : Value) (od : Option Addr), x.cls ∈ es → x.ns = [] → Sto X.K X.mg w S H → EnvR X.K X.mg w H ρ σ → ExR X.K X.mg w H x cy od →
    EndS X.K X.mg w H (clsR x ρ S cs) D W → wCls X.K W D l cy od σ H := by
  have ex0 : ∀ {w : Wd} {H : Hp} {x : Ex} {cy : Value} {od : Option Addr}, x.cls ∈ es → x.ns = [] → ExR X.K X.mg w H x cy od → ∃ C, X.mg x.cls = some (.ref C) ∧ cy = .ref C ∧ od = none := by
    intro w H x cy od hx hn ex
    obtain ⟨gy, hr⟩ := ex
    obtain ⟨C, gC, _⟩ := hk _ hx
    cases gC.symm.trans gy
    refine ⟨C, gC, rfl, ?_⟩
    rcases hr with ⟨_, _, z⟩ | ⟨d, vs, z, _⟩
    · exact z
    · exact absurd hn z
  induction h with
  | nil =>
    refine ⟨[], .nil, fun D w x ρ S σ H cy od hx hn s en ex h => ?_⟩
    exact h w H σ cy od Ext.refl s en ex
  | @plain x sub c b₀ su np q hds l hc hg k r hd ih =>
    obtain ⟨cv, nm, hx1⟩ := hc.names hg hd
    obtain ⟨l', ok', go'⟩ := ih
    refine ⟨(cv, none, tsOf X es c) :: l', .plain nm k.su ok', fun D w x ρ S σ H cy od hx hn s en ex h => ?_⟩
    obtain ⟨C, gC, rfl, rfl⟩ := ex0 hx hn ex
    refine ⟨sub x.cls, hx1 _ hx _ gC, fun hs a na => ?_, fun hs => ?_⟩
    · have h2 : EndS X.K X.mg w H (aInd (clRun none (c x.cls) ρ S)) D W := by
        have h' := h
        unfold clsR at h'
        rw [if_pos hs] at h'
        exact h'
      by_cases hno : aInd (clRun none (c x.cls) ρ S) = .no
      · rw [hno] at h2; exact h2.elim
      · rw [← aInd_at a rfl hno] at h2
        exact ⟨x.cls, C, hx, gC, rfl, rfl, w, ρ, S, s, en, h2.nox⟩
    · have h2 : EndS X.K X.mg w H (clsR x ρ S l) D W := by
        have h' := h
        unfold clsR at h'
        rw [if_neg (by rw [hs]; decide)] at h'
        exact h'
      exact go' D w x ρ S σ H _ _ hx hn s en ex h2
  | @named x n i sub c b₀ su np q hds l hc hg hi hln k r hd ih =>
    obtain ⟨cv, nm, hx1⟩ := hc.names hg hd
    obtain ⟨l', ok', go'⟩ := ih
    refine ⟨(cv, some i, tsOf X es c) :: l', .named hi hln nm k.su ok', fun D w x ρ S σ H cy od hx hn s en ex h => ?_⟩
    obtain ⟨C, gC, rfl, rfl⟩ := ex0 hx hn ex
    refine ⟨sub x.cls, hx1 _ hx _ gC, fun hs a na => ?_, fun hs => ?_⟩
    · have h2 : EndS X.K X.mg w H (aInd (clRun (some i) (c x.cls) ρ S)) D W := by
        have h' := h
        unfold clsR at h'
        rw [if_pos hs] at h'
        exact h'
      by_cases hno : aInd (clRun (some i) (c x.cls) ρ S) = .no
      · rw [hno] at h2; exact h2.elim
      · rw [← aInd_at a rfl hno] at h2
        exact ⟨x.cls, C, hx, gC, rfl, rfl, w, ρ.set i (some (.exn a)), S, s, en.set (by unfold Rp; rfl), EndS.clr h2⟩
    · have h2 : EndS X.K X.mg w H (clsR x ρ S l) D W := by
        have h' := h
        unfold clsR at h'
        rw [if_neg (by rw [hs]; decide)] at h'
        exact h'
      exact go' D w x ρ S σ H _ _ hx hn s en ex h2
end
end Kw
namespace Kw
open PySem PySem.Spec PyProof.Rows L2
end Kw
namespace Kw
open PySem PySem.Spec PyProof.Rows L2
def revS (z : Str) : Str := ⟨((Builtin.Str.strSliceIndices none none (-1) z.length).filterMap (z.cps[·]?)).toArray⟩
def keyP : Key → PyData
  | .inl i => .int i
  | .inr x => .str x
mutual
/-- a value as data that is shown -/
inductive Rs (K : PySem.W.Frag) (H : Hp) (b : Bool) : V → PyData → Prop
  | non : Rs K H b .non .none
  | bl (c : Bool) : Rs K H b (.bl c) (.bool c)
  | int (i : Int) : Rs K H b (.int i) (.int i)
  | str (x : Str) : Rs K H b (.str x) (.str x)
  | lst {a : Addr} {xs : List V} {ds : List PyData} : SqL K H a xs → (b = true → a ≠ sysModules) → RsL K H b xs ds → Rs K H b (.ref a) (.list ds)
  | tup {a : Addr} {xs : List V} {ds : List PyData} : SqT K H a xs → RsL K H b xs ds → Rs K H b (.ref a) (.tuple ds)
  | dic {a : Addr} {kvs : List (Key × V)} {ps : List (PyData × PyData)} : H a = some (.dK kvs) → RsV K H b kvs ps → Rs K H b (.ref a) (.dict ps)
inductive RsL (K : PySem.W.Frag) (H : Hp) (b : Bool) : List V → List PyData → Prop
  | nil : RsL K H b [] []
  | cons {v : V} {vs : List V} {d : PyData} {ds : List PyData} : Rs K H b v d → RsL K H b vs ds → RsL K H b (v :: vs) (d :: ds)
inductive RsV (K : PySem.W.Frag) (H : Hp) (b : Bool) : List (Key × V) → List (PyData × PyData) → Prop
  | nil : RsV K H b [] []
  | cons {k : Key} {v : V} {r : List (Key × V)} {d : PyData} {ps : List (PyData × PyData)} : Rs K H b v d → RsV K H b r ps → RsV K H b ((k, v) :: r) ((keyP k, d) :: ps)
end
mutual
/-- no list in it -/
def noLs : PyData → Bool
  | .list _ => false
  | .tuple ds => noLsL ds
  | .dict kvs => noLsV kvs
  | _ => true
def noLsL : List PyData → Bool
  | [] => true
  | d :: ds => noLs d && noLsL ds
def noLsV : List (PyData × PyData) → Bool
  | [] => true
  | (_, d) :: ps => noLs d && noLsV ps
end
section
variable {X : Cx} {pins : List (Addr × Obj)} {σ : L2.St} {H : Hp} {s : Shared} {b : Bool}
mutual
theorem Rs.reads (I : Inv X pins σ H s) : ∀ (d : PyData) (v : V) (u : Value), Rs X.K H b v d → RelV v u → ∃ as, Reads s.heap u d as ∧ (noLs d = true ∨ b = true → sysModules ∉ as)
  | .none, _, _, .non, r => by cases r; exact ⟨[], .none, fun _ z => nomatch z⟩
  | .bool b, _, _, .bl _, r => by cases r; exact ⟨[], .bool b, fun _ z => nomatch z⟩
  | .int i, _, _, .int _, r => by obtain ⟨t, rfl⟩ := r; exact ⟨[], .int i t, fun _ z => nomatch z⟩
  | .str x, _, _, .str _, r => by obtain ⟨t, rfl⟩ := r; exact ⟨[], .str x t, fun _ z => nomatch z⟩
  | .list ds, _, _, .lst (a := a) hs hne ha, r => by
    cases r
    obtain ⟨its, rv, ⟨o, n, ho, hc, _, hd⟩, _⟩ := I.list hs
    obtain ⟨as, hr, hn⟩ := RsL.reads I ds _ its ha rv
    refine ⟨_, .list ho hc hd hr, fun z => ?_⟩
    have hb : b = true := by
      rcases z with z | z
      · simp [noLs] at z
      · exact z
    intro y
    rcases List.mem_cons.mp y with y | y
    · exact hne hb y.symm
    · exact hn (.inr hb) y
  | .tuple ds, _, _, .tup hs ha, r => by
    cases r
    obtain ⟨its, rv, ⟨o, ho, hc, n, hd⟩, _⟩ := I.tuple hs
    obtain ⟨as, hr, hn⟩ := RsL.reads I ds _ its ha rv
    exact ⟨_, .tuple ho hc hd hr, fun z => hn (by simpa [noLs] using z)⟩
  | .dict ps, _, _, .dic (a := a) (kvs := kvs) hs hv, r => by
    cases r
    obtain ⟨_, sm, vs, kv, o, es, ep, ho, hc, hd, hk, hp, _⟩ := dk_of I.hok hs
    obtain ⟨h1, bs, h2, hn⟩ := RsV.reads I ps kvs vs es.toList hv kv hp
    refine ⟨_, .dict (as := []) (bs := bs) ho hc.1 hd h1 h2, fun z y => ?_⟩
    rcases List.mem_append.mp y with y | y
    · have : sysModules = a := by simpa using y
      rw [this] at sm
      simp at sm
    · exact hn (by simpa [noLs] using z) y
theorem RsL.reads (I : Inv X pins σ H s) : ∀ (ds : List PyData) (vs : List V) (us : List Value), RsL X.K H b vs ds → Vals vs us → ∃ as, ReadsAll s.heap us ds as ∧ (noLsL ds = true ∨ b = true → sysModules ∉ as)
  | [], _, _, .nil, r => by cases r; exact ⟨_, .nil, fun _ z => nomatch z⟩
  | d :: ds, _, _, .cons h1 h2, r => by
    cases r with
    | cons r1 r2 =>
      obtain ⟨as, q1, n1⟩ := Rs.reads I d _ _ h1 r1
      obtain ⟨bs, q2, n2⟩ := RsL.reads I ds _ _ h2 r2
      refine ⟨_, .cons q1 q2, fun z y => ?_⟩
      simp only [noLsL, Bool.and_eq_true] at z
      rcases List.mem_append.mp y with y | y
      · exact n1 (z.imp (·.1) id) y
      · exact n2 (z.imp (·.2) id) y
theorem RsV.reads (I : Inv X pins σ H s) : ∀ (ps : List (PyData × PyData)) (kvs : List (Key × V)) (vs : List (Key × Value)) (es : List DictEntry), RsV X.K H b kvs ps → KV kvs vs → Pairs (mixKind X.prog X.w) es vs → ReadsAll s.heap (es.map (·.key)) (ps.map (·.1)) [] ∧ ∃ bs, ReadsAll s.heap (es.map (·.val)) (ps.map (·.2)) bs ∧ (noLsV ps = true ∨ b = true → sysModules ∉ bs)
  | [], _, _, _, .nil, r, q => by cases r; cases q; exact ⟨.nil, [], .nil, fun _ z => nomatch z⟩
  | (_, d) :: ps, _, _, _, .cons (k := k) h1 h2, r, q => by
    cases r with
    | cons r1 r2 =>
      cases q with
      | cons q1 q2 q3 =>
        obtain ⟨e1, e2⟩ := r1
        obtain ⟨a1, bs, a2, a3⟩ := RsV.reads I ps _ _ _ h2 r2 q3
        obtain ⟨as, b1, b2⟩ := Rs.reads I d _ _ h1 e2
        refine ⟨?_, as ++ bs, ?_, fun z y => ?_⟩
        · rw [← e1] at q1
          have hk : ∀ v, keyIs k v = true → Reads s.heap v (keyP k) [] := fun v hv => by
            rcases keyIs_shape hv with ⟨i, t, rfl, rfl⟩ | ⟨x, t, rfl, rfl⟩
            · exact .int i t
            · exact .str x t
          exact ReadsAll.cons (hk _ q1) a1
        · rw [List.map_cons, List.map_cons, q2]
          exact .cons b1 a2
        · simp only [noLsV, Bool.and_eq_true] at z
          rcases List.mem_append.mp y with y | y
          · exact b2 (z.imp (·.1) id) y
          · exact a3 (z.imp (·.2) id) y
end
end
section
variable {K : PySem.W.Frag} {mg : Str → Option Value} {w : Wd} {H : Hp} {S : Store} {b : Bool}
theorem RsV.zip : ∀ {ks : List Key} {vs : List V} {ps : List PyData}, RsL K H b vs ps → RsV K H b (ks.zip vs) ((ks.map keyP).zip ps)
  | [], _, _, _ => .nil
  | _ :: _, _, _, .nil => .nil
  | _ :: _, _, _, .cons h1 h2 => .cons h1 (RsV.zip h2)
end
end Kw
namespace Kw
open PySem PySem.Spec PyProof.Rows L2
/-- a text, a tuple, a list turned round -/
def gTurn (x : D) (S : Store) : RE D := match x with
  | .str z => if z.length ≤ 16777216 then .ok (.str (revS z)) S else .no
  | .tup ds => .ok (.tup ds.reverse) S
  | x => (match seqL S x with
    | some ds => .ok (.lst ds.reverse) S
    | none => .no)
@[simp] theorem gTurn_tup {ds : List D} {S : Store} : gTurn (.tup ds) S = .ok (.tup ds.reverse) S := rfl
end Kw
namespace Kw
open PySem PySem.Spec PyProof.Rows L2
end Kw
namespace Kw
open PySem PySem.Spec PyProof.Rows L2
/-- the outer loop: F is what one of its items adds -/
noncomputable def compO (g : FG) (F : FEnv → List D → Store → RE (List D)) (gu : Option (Nat × List D)) (ρ : FEnv) : List D → List D → Store → RE (List D)
  | [], acc, S => gchk gu S (.ok acc S) .no
  | d :: r, acc, S => gchk gu S (match g d ρ S with
    | some (ρ1, S1) => (match F ρ1 acc S1 with
      | .ok acc2 S2 => compO g F gu ρ r acc2 S2
      | _ => .no)
    | none => .no) .no
noncomputable def inL (fi1 : FI) (g1 : FG) (te : FE) (vs1 : List Nat) : FEnv → List D → Store → RE (List D) := fun ρ1 acc S => match fi1 ρ1 S with
  | .ok p S1 => compL g1 fYes te p.2 (wipeR ρ1 vs1) p.1 acc S1
  | _ => .no
theorem rgV_ints (n : Int) : rgV 0 n = ((List.range n.toNat).map fun (i : Nat) => ((i : Nat) : Int)).map V.int := by
  unfold rgV
  rw [List.map_map, Int.sub_zero]
  apply List.map_congr_left
  intro i _
  simp
def gRng (x : D) (S : Store) : RE D := match x with
  | .int n => if 0 ≤ n ∧ n ≤ 16777216 then .ok (.lst (((List.range n.toNat).map fun (i : Nat) => ((i : Nat) : Int)).map D.int)) S else .no
  | _ => .no
theorem q_listRg [Wo] {X : Cx} {W : WX} {e : Expr} {fe : FE} {p p' pos pos' : Pos} (hc : X.calm = true) (hg : Gl X "list") (hm : X.mg "list" = none) (hg' : Gl X "range") (hm' : X.mg "range" = none) (he : PE X e (tF X W fe))
    (na : starEach [.Call (.Name "range" p') [e] [] pos'] X.env = (false, eval (.Call (.Name "range" p') [e] [] pos') X.env) :: starEach [] X.env := by rfl) (na' : starEach [e] X.env = (false, eval e X.env) :: starEach [] X.env := by rfl) :
    PE X (.Call (.Name "list" p) [.Call (.Name "range" p') [e] [] pos'] [] pos) (tF X W (f1 gRng fe)) :=
  PE.wk (pe_listRg hc hg hm (prg_1 hg' hm' he na') na) fun σ H Q ⟨w, ρ, S, s, en, h⟩ => by
    refine ⟨w, ρ, S, s, en, (End.bind (R := fun w H => Rp X.K X.mg w H) h).imp ?_ (fun _ _ _ z => z)⟩
    rintro v H1 ⟨w1, S1, d, e1, s1, r1, h1⟩
    unfold gRng at h1
    split at h1
    · rename_i n
      split at h1
      · rename_i hn
        refine ⟨n, rp_int r1, RgOk.of_le (by omega) (by omega) (by omega) (by omega), fun q hq => ?_⟩
        rw [rgV_ints]
        exact newLst s1 (RpL.ints _) hq h1
      · exact h1.elim
    · exact h1.elim
end Kw
namespace Kw
open PySem PySem.Spec PySem.Calls PyProof.Rows L2
/-- xs put in the order of their data -/
noncomputable def sortB {α : Type} (xs : List α) (ps : List PyData) : List α := ((xs.zip ps).mergeSort (PySem.W.dataLe false Prod.snd)).map Prod.fst
theorem zip_snd {α : Type} : ∀ {xs : List α} {ps : List PyData}, xs.length = ps.length → (xs.zip ps).map Prod.snd = ps
  | [], [], _ => rfl
  | [], _ :: _, h => by simp at h
  | _ :: _, [], h => by simp at h
  | x :: xs, p :: ps, h => by
    show p :: (xs.zip ps).map Prod.snd = _
    rw [zip_snd (by simpa using h)]
theorem zip_fst {α : Type} : ∀ {xs : List α} {ps : List PyData}, xs.length = ps.length → (xs.zip ps).map Prod.fst = xs
  | [], [], _ => rfl
  | [], _ :: _, h => by simp at h
  | _ :: _, [], h => by simp at h
  | x :: xs, p :: ps, h => by
    show x :: (xs.zip ps).map Prod.fst = _
    rw [zip_fst (by simpa using h)]
theorem sortB_perm {α : Type} {xs : List α} {ps : List PyData} (h : xs.length = ps.length) : (sortB xs ps).Perm xs := by
  have h1 := (List.mergeSort_perm (xs.zip ps) (PySem.W.dataLe false Prod.snd)).map Prod.fst
  rw [zip_fst h] at h1
  exact h1
theorem sortB_length {α : Type} {xs : List α} {ps : List PyData} (h : xs.length = ps.length) : (sortB xs ps).length = xs.length := (sortB_perm h).length_eq
/-- sorted by what stands for each -/
theorem sortB_map {α β : Type} (f : β → α) (p : β → PyData) (L : List β) : sortB (L.map f) (L.map p) = (L.mergeSort (PySem.W.dataLe false p)).map f := by
  have e : (L.map f).zip (L.map p) = L.map fun x => (f x, p x) := by
    induction L with
    | nil => rfl
    | cons x L ih => simp [ih]
  unfold sortB
  rw [e, ← List.map_mergeSort (f := fun x => (f x, p x)) (r := PySem.W.dataLe false p) (fun a _ b _ => rfl), List.map_map]
  rfl
theorem DpAll.length {K : PySem.W.Frag} {H : Hp} : ∀ {vs : List V} {ds : List PyData}, DpAll K H vs ds → vs.length = ds.length
  | _, _, .nil => rfl
  | _, _, .cons _ t => by simp [DpAll.length t]
def rSortD (K : PySem.W.Frag) : List V → Hp → VK → Prop := fun vs H Q => ∃ (a : Addr) (xs : List V) (ps : List PyData), vs = [V.ref a] ∧ SqL K H a xs ∧ DpAll K H xs ps ∧ PySem.W.AllAlike ps ∧ PySem.W.Sortable ps ∧ PyData.depthAll ps ≤ 190 ∧ ∀ p, H p = none → Q (.ref p) (upd H p (.lst (sortB xs ps)))
theorem depth_mem : ∀ {ps : List PyData} {p : PyData}, p ∈ ps → p.depth ≤ PyData.depthAll ps
  | q :: ps, p, h => by
    simp only [PyData.depthAll]
    rcases List.mem_cons.mp h with rfl | h
    · omega
    · have := depth_mem h; omega
section
variable {X : Cx}
theorem each_vals : ∀ {xs : List V} {us : List Value} {ps : List PyData}, Vals xs us → xs.length = ps.length → PySem.W.EachIs (fun u (b : V × PyData) => RelV b.1 u) us (xs.zip ps)
  | _, _, [], .nil, _ => .nil
  | _, _, _ :: _, .nil, h => by simp at h
  | _, _, [], .cons _ _, h => by simp at h
  | _, _, p :: ps, .cons r t, h => .cons r (each_vals t (by simpa using h))
theorem vals_each : ∀ {bs : List (V × PyData)} {us : List Value}, PySem.W.EachIs (fun u (b : V × PyData) => RelV b.1 u) us bs → Vals (bs.map Prod.fst) us
  | _, _, .nil => .nil
  | _, _, .cons r t => .cons r (vals_each t)
theorem each_reads {h : Heap} : ∀ {xs : List V} {us : List Value} {ps : List PyData} {as : List Addr}, Vals xs us → ReadsAll h us ps as → PySem.W.EachIs (fun u (b : V × PyData) => ∃ as, Reads h u b.2 as) us (xs.zip ps)
  | _, _, _, _, .nil, r => by cases r; exact .nil
  | _, _, _, _, .cons _ t, r => by
    cases r with
    | cons r1 r2 => exact .cons ⟨_, r1⟩ (each_reads t r2)
theorem cr_sortedD (hu : X.A.units + 200 < cLine) : CallR X (.builtin "sorted") (rSortD X.K) := by
  intro pins s σ H vs us Q I r h
  obtain ⟨a, xs, ps, rfl, hs, hd, hal, hso, hdep, q⟩ := h
  obtain ⟨its, rv, hl, hz⟩ := I.list hs
  rw [Vals.ref1 r]
  have el := DpAll.length hd
  obtain ⟨as, ra⟩ := Dp.readsAll I ps xs its hd rv
  have ez := zip_snd el
  refine PySem.W.sorted_data (β := V × PyData) (bs := xs.zip ps) (enc := Prod.snd) (R := fun u b => RelV b.1 u) hl.isList (each_vals rv el) (each_reads rv ra) (by rw [ez]; exact hal) (by rw [ez]; exact hso) (by rw [List.length_zip]; omega) (fun b hb => ?_) fun out h1 h2 => ?_
  · have hm : b.2 ∈ ps := by rw [← ez]; exact List.mem_map.mpr ⟨b, hb, rfl⟩
    have := depth_mem hm
    omega
  · obtain ⟨ep, he'⟩ := PyProof.Rows.sortedAll_at s.heap its out.toArray
    exact ⟨.ref _, upd H (s.heap.objs.size + 1) (.lst (sortB xs ps)), I.laid (t' := s.toks) (fun _ _ => PyProof.Rows.sortedAll_old) (Nat.le_succ _) ⟨by rw [sortB_length el]; exact hz, out, ep, vals_each h2, he'⟩, rfl, q _ (I.hok.fresh (Nat.le_succ _))⟩
theorem pySL_length {S : Store} : ∀ {ds : List D} {ps : List PyData}, pySL S ds = some ps → ds.length = ps.length
  | [], ps, h => by
    have : some [] = some ps := h
    cases this; rfl
  | d :: ds, ps, h => by
    have h' : ((pyS S d).bind fun a => (pySL S ds).map (a :: ·)) = some ps := h
    rw [Option.bind_eq_some_iff] at h'
    obtain ⟨p, _, h2⟩ := h'
    rw [Option.map_eq_some_iff] at h2
    obtain ⟨qs, h3, rfl⟩ := h2
    simp [pySL_length h3]
theorem RpL.of_all {K : PySem.W.Frag} {mg : Str → Option Value} {w : Wd} {H : Hp} : ∀ {L : List (D × V)}, (∀ b ∈ L, Rp K mg w H b.1 b.2) → RpL K mg w H (L.map Prod.fst) (L.map Prod.snd)
  | [], _ => RpL.nil
  | b :: L, h => RpL.cons (h b List.mem_cons_self) (RpL.of_all fun c hc => h c (List.mem_cons_of_mem _ hc))
theorem RpL.zip {K : PySem.W.Frag} {mg : Str → Option Value} {w : Wd} {H : Hp} : ∀ {ds : List D} {vs : List V}, RpL K mg w H ds vs → ∀ b ∈ ds.zip vs, Rp K mg w H b.1 b.2
  | [], vs, h, b, hb => by simp at hb
  | d :: ds, vs, h, b, hb => by
    unfold RpL at h
    obtain ⟨v, r, rfl, h1, h2⟩ := h
    rcases List.mem_cons.mp hb with rfl | hb
    · exact h1
    · exact RpL.zip h2 b hb
theorem RpL.sort {K : PySem.W.Frag} {mg : Str → Option Value} {w : Wd} {H : Hp} {ds : List D} {vs : List V} {ps : List PyData} (h : RpL K mg w H ds vs) (hp : ds.length = ps.length) : RpL K mg w H (sortB ds ps) (sortB vs ps) := by
  have el := h.length
  have z1 : ((ds.zip vs).zip ps).map (fun t => t.1.1) = ds := by
    have e : (fun t : (D × V) × PyData => t.1.1) = Prod.fst ∘ Prod.fst := rfl
    rw [e, ← List.map_map, zip_fst (by rw [List.length_zip]; omega)]
    exact List.map_fst_zip (by omega)
  have z2 : ((ds.zip vs).zip ps).map (fun t => t.1.2) = vs := by
    have e : (fun t : (D × V) × PyData => t.1.2) = Prod.snd ∘ Prod.fst := rfl
    rw [e, ← List.map_map, zip_fst (by rw [List.length_zip]; omega)]
    exact List.map_snd_zip (by omega)
  have z3 : ((ds.zip vs).zip ps).map Prod.snd = ps := zip_snd (by rw [List.length_zip]; omega)
  have s1 := sortB_map (fun t : (D × V) × PyData => t.1.1) Prod.snd ((ds.zip vs).zip ps)
  have s2 := sortB_map (fun t : (D × V) × PyData => t.1.2) Prod.snd ((ds.zip vs).zip ps)
  rw [z1, z3] at s1
  rw [z2, z3] at s2
  rw [s1, s2]
  have key := RpL.of_all (K := K) (mg := mg) (w := w) (H := H) (L := (((ds.zip vs).zip ps).mergeSort (PySem.W.dataLe false Prod.snd)).map Prod.fst) (fun b hb => by
    obtain ⟨t, ht, rfl⟩ := List.mem_map.mp hb
    have hm := (List.mergeSort_perm _ _).mem_iff.mp ht
    exact RpL.zip h _ (List.of_mem_zip (a := t.1) (b := t.2) hm).1)
  rw [List.map_map, List.map_map] at key
  exact key
end
end Kw
namespace Kw
open PySem PySem.Spec PySem.Calls PyProof.Rows L2
/-- a code object, its table, the name that the table's code objects bear -/
abbrev Tb := Addr × Addr × Str
def tbP (cs : List Tb) : List Addr := cs.map fun p => p.2.1
section
variable {K : PySem.W.Frag} {mg : Str → Option Value} {cs : List Tb} {H : Hp} {a : Addr} {ns : List Int}
/-- what is known of the law at the top's heap -/
structure TopOk (K : PySem.W.Frag) (mg : Str → Option Value) (cs : List Tb) (h : Heap) : Prop where
  sysk : K.lookup sysModules = none
  at_ : ∀ p ∈ cs, h.get? p.2.1 = some { cls := .none, data := .fields #[] }
  look : ∀ p ∈ cs, K.lookup p.2.1 = none
  code : ∀ p ∈ cs, PySem.W.CodeHd h p.1 p.2.1
  nodup : (tbP cs).Nodup
  tin : ∀ p ∈ cs, PySem.W.tabIn K p.2.2 = some (p.1, p.2.1)
theorem TopOk.none {h : Heap} (hk : K.lookup sysModules = none) : TopOk K mg [] h := ⟨hk, fun _ z => (nomatch z), fun _ z => (nomatch z), fun _ z => (nomatch z), List.nodup_nil, fun _ z => (nomatch z)⟩
end
end Kw
namespace Kw
open PySem PySem.Spec PySem.Calls PyProof.Rows L2
end Kw
namespace Kw
open PySem PySem.Spec PySem.Calls PyProof.Rows L2
/-- a, b = a list -/
def gUl (n : Nat) (gs : FGs) : FG := fun d ρ S => match d with
  | .lst ds => if ds.length = n then gs ds ρ S else none
  | _ => none
@[simp] theorem gUl_ap {n : Nat} {gs : FGs} {ds : List D} {ρ : FEnv} {S : Store} : gUl n gs (.lst ds) ρ S = if ds.length = n then gs ds ρ S else none := rfl
def rLtD (K : PySem.W.Frag) (gt : Bool) : R2 := fun x y H Q => ∃ d e, Dp K H x d ∧ Dp K H y e ∧ PySem.W.alike d e = true ∧ d ≠ .none ∧ min d.depth e.depth ≤ 190 ∧ Q (.bl (if gt then PySem.W.dataLt e d else PySem.W.dataLt d e)) H
open Classical in
noncomputable def gLtD (gt : Bool) (x y : D) (S : Store) : RE D := match pyS S x, pyS S y with
  | some d, some e => if PySem.W.alike d e = true ∧ d ≠ .none ∧ min d.depth e.depth ≤ 190 then .ok (.bl (if gt then PySem.W.dataLt e d else PySem.W.dataLt d e)) S else .no
  | _, _ => .no
section
variable {X : Cx}
theorem op_ltD (hu : X.A.units + 200 < cLine) : OpR X (compareOp .Lt) (rLtD X.K false) := by
  intro pins s σ H x y v u Q I rx ry h
  obtain ⟨d, e, hd, he, hk, hn, hp, q⟩ := h
  obtain ⟨as, r1⟩ := Dp.reads I d x v hd rx
  obtain ⟨bs, r2⟩ := Dp.reads I e y u he ry
  exact PySem.W.lt_data r1 r2 hk hn (by omega) ⟨.bl _, H, I, rfl, q⟩
theorem op_gtD (hu : X.A.units + 200 < cLine) : OpR X (compareOp .Gt) (rLtD X.K true) := by
  intro pins s σ H x y v u Q I rx ry h
  obtain ⟨d, e, hd, he, hk, hn, hp, q⟩ := h
  obtain ⟨as, r1⟩ := Dp.reads I d x v hd rx
  obtain ⟨bs, r2⟩ := Dp.reads I e y u he ry
  exact PySem.W.gt_data r1 r2 hk hn (by omega) ⟨.bl _, H, I, rfl, q⟩
theorem ltD_v [Wo] {K : PySem.W.Frag} {mg : Str → Option Value} {gt : Bool} : OpV K mg (rLtD K gt) (gLtD gt) := by
  intro w S H x y d e Q E s r1 r2 h
  unfold gLtD at h
  split at h
  · rename_i p q h1 h2
    split at h
    · rename_i hk
      exact ⟨p, q, pyS_at s d x p r1 h1, pyS_at s e y q r2 h2, hk.1, hk.2.1, hk.2.2, h.ret s rp_b⟩
    · exact h.elim
  · exact h.elim
end
end Kw
namespace Kw
open PySem PySem.Spec PySem.Calls PyProof.Rows L2
end Kw
namespace Kw
open PySem PySem.Spec PySem.Calls PyProof.Rows L2
end Kw
namespace Kw
open PySem PySem.Spec PySem.Calls PyProof.Rows L2
def getGR (kvs : List (Str × D)) (y : D) (S : Store) : RE D := match y with
  | .str z => (match kvs.lookup z with
    | some d => .ok d S
    | none => .ok .non S)
  | _ => .no
def getO (o : Option D) (S : Store) : RE D := match o with
  | some d => .ok d S
  | none => .ok .non S
@[simp] theorem getO_some {d : D} {S : Store} : getO (some d) S = .ok d S := rfl
@[simp] theorem getO_none {S : Store} : getO none S = .ok .non S := rfl
@[simp] theorem getGR_str {z : Str} {kvs : List (Str × D)} {S : Store} : getGR kvs (.str z) S = getO (kvs.lookup z) S := rfl
end Kw
namespace Kw
open PySem PySem.Spec PyProof.Rows L2
section
variable {P : Program} {w : World} {A : Around} {E : Value → Shared → Prop} {s : Shared}
abbrev newSet (b : Bool) : Obj := { cls := .type "set", dict := none, data := .set #[] 0 (.fresh 0 0 b) }
end
end Kw
namespace Kw
open PySem PySem.Spec PyProof.Rows L2
end Kw
namespace Kw
open PySem PySem.Spec PyProof.Rows L2
abbrev Cl2 := List Value × Option Nat × (Addr → Value → Option Addr → TS)
def wCls2 (K : PySem.W.Frag) (Wout : WX) (D : Ends) : List Cl2 → WX
  | [] => Wout
  | (cs, o, ts) :: r => fun cls d σ H => ∃ b, PySem.W.exmAny K cls cs = some b ∧ (b = true → ∀ a, H a = none → hit o (ts a cls d) D a σ H) ∧ (b = false → wCls2 K Wout D r cls d σ H)
inductive ClsOk2 [Wo] (X : Cx) : List ExceptHandler → List Cl2 → Prop
  | nil : ClsOk2 X [] []
  | plain {x : Str} {c : Value} {ts : Addr → Value → Option Addr → TS} {b₀ : Stmt} {su : List Stmt} {np q : Pos} {hds : List ExceptHandler} {l : List Cl2} (nm : Names X x c) (k : SuOk X (b₀ :: su) ts) (r : ClsOk2 X hds l) :
      ClsOk2 X (.ExceptHandler (some (.Name x np)) none (b₀ :: su) q :: hds) (([c], none, ts) :: l)
  | two {x y : Str} {c d : Value} {ts : Addr → Value → Option Addr → TS} {b₀ : Stmt} {su : List Stmt} {np np2 tp q : Pos} {kk : Nat} {hds : List ExceptHandler} {l : List Cl2} (nm : Names X x c) (nm2 : Names X y d) (k : SuOk X (b₀ :: su) ts) (r : ClsOk2 X hds l) :
      ClsOk2 X (.ExceptHandler (some (.Tuple [.Name x np, .Name y np2] kk tp)) none (b₀ :: su) q :: hds) (([c, d], none, ts) :: l)
inductive ClsF2 [Wo] (X : Cx) (es : List Str) : List ExceptHandler → List ClF → Prop
  | nil : ClsF2 X es [] []
  | plain {x : Str} {sub : Str → Bool} {c : Str → Addr → FS} {b₀ : Stmt} {su : List Stmt} {np q : Pos} {hds : List ExceptHandler} {l : List ClF} (h : CatF X.K X.mg es x sub) (hg : Gl X x) (k : SuF X es (b₀ :: su) c) (r : ClsF2 X es hds l) (hd : (x == ("__debug__" : Str)) = false := by decide) :
      ClsF2 X es (.ExceptHandler (some (.Name x np)) none (b₀ :: su) q :: hds) ((sub, none, c) :: l)
  | two {x y : Str} {sub sub2 : Str → Bool} {c : Str → Addr → FS} {b₀ : Stmt} {su : List Stmt} {np np2 tp q : Pos} {kk : Nat} {hds : List ExceptHandler} {l : List ClF} (h : CatF X.K X.mg es x sub) (h2 : CatF X.K X.mg es y sub2) (hg : Gl X x) (hg2 : Gl X y) (k : SuF X es (b₀ :: su) c) (r : ClsF2 X es hds l) (hd : (x == ("__debug__" : Str)) = false := by decide) (hd2 : (y == ("__debug__" : Str)) = false := by decide) :
      ClsF2 X es (.ExceptHandler (some (.Tuple [.Name x np, .Name y np2] kk tp)) none (b₀ :: su) q :: hds) ((fun z => sub z || sub2 z, none, c) :: l)
section
variable {X : Cx} {W : WX} {es : List Str}
theorem exmAny_one {K : PySem.W.Frag} {cls c : Value} {b : Bool} (h : PySem.W.exmOne K cls c = some b) : PySem.W.exmAny K cls [c] = some b := by
  simp [PySem.W.exmAny, h]
theorem exmAny_two {K : PySem.W.Frag} {cls c d : Value} {b b2 : Bool} (h : PySem.W.exmOne K cls c = some b) (h2 : PySem.W.exmOne K cls d = some b2) : PySem.W.exmAny K cls [c, d] = some (b || b2) := by
  simp [PySem.W.exmAny, h, h2]
theorem ClsF2.go [Wo] {hds : List ExceptHandler} {cs : List ClF} (h : ClsF2 X es hds cs) (hk : ∀ y ∈ es, ExcK X.K X.mg y) : ∃ l, ClsOk2 X hds l ∧ ∀ (D : Ends) (w : Wd) (x : Ex) (ρ : FEnv) (S : Store) (σ : L2.St) (H : Hp) (cy : Value) (od : Option Addr), x.cls ∈ es → x.ns = [] → Sto X.K X.mg w S H → EnvR X.K X.mg w H ρ σ → ExR X.K X.mg w H x cy od →
    EndS X.K X.mg w H (clsR x ρ S cs) D W → wCls2 X.K W D l cy od σ H := by
  have ex0 : ∀ {w : Wd} {H : Hp} {x : Ex} {cy : Value} {od : Option Addr}, x.cls ∈ es → x.ns = [] → ExR X.K X.mg w H x cy od → ∃ C, X.mg x.cls = some (.ref C) ∧ cy = .ref C ∧ od = none := by
    intro w H x cy od hx hn ex
    obtain ⟨gy, hr⟩ := ex
    obtain ⟨C, gC, _⟩ := hk _ hx
    cases gC.symm.trans gy
    refine ⟨C, gC, rfl, ?_⟩
    rcases hr with ⟨_, _, z⟩ | ⟨d, vs, z, _⟩
    · exact z
    · exact absurd hn z
  have yes : ∀ {sub : Str → Bool} {c : Str → Addr → FS} {l : List ClF} {D : Ends} {w : Wd} {x : Ex} {ρ : FEnv} {S : Store} {σ : L2.St} {H : Hp} {C : Addr}, x.cls ∈ es → X.mg x.cls = some (.ref C) → Sto X.K X.mg w S H → EnvR X.K X.mg w H ρ σ → EndS X.K X.mg w H (clsR x ρ S ((sub, none, c) :: l)) D W → sub x.cls = true → ∀ a, H a = none → hit none (tsOf X es c a (.ref C) none) D a σ H := by
    intro sub c l D w x ρ S σ H C hx gC s en h hs a na
    have h2 : EndS X.K X.mg w H (aInd (clRun none (c x.cls) ρ S)) D W := by
      have h' := h
      unfold clsR at h'
      rw [if_pos hs] at h'
      exact h'
    by_cases hno : aInd (clRun none (c x.cls) ρ S) = .no
    · rw [hno] at h2; exact h2.elim
    · rw [← aInd_at a rfl hno] at h2
      exact ⟨x.cls, C, hx, gC, rfl, rfl, w, ρ, S, s, en, h2.nox⟩
  have noo : ∀ {sub : Str → Bool} {c : Str → Addr → FS} {l : List ClF} {D : Ends} {w : Wd} {x : Ex} {ρ : FEnv} {S : Store} {H : Hp}, EndS X.K X.mg w H (clsR x ρ S ((sub, none, c) :: l)) D W → sub x.cls = false → EndS X.K X.mg w H (clsR x ρ S l) D W := by
    intro sub c l D w x ρ S H h hs
    have h' := h
    unfold clsR at h'
    rw [if_neg (by rw [hs]; decide)] at h'
    exact h'
  induction h with
  | nil =>
    refine ⟨[], .nil, fun D w x ρ S σ H cy od hx hn s en ex h => ?_⟩
    exact h w H σ cy od Ext.refl s en ex
  | @plain x sub c b₀ su np q hds l hc hg k r hd ih =>
    obtain ⟨cv, nm, hx1⟩ := hc.names hg hd
    obtain ⟨l', ok', go'⟩ := ih
    refine ⟨([cv], none, tsOf X es c) :: l', .plain nm k.su ok', fun D w x ρ S σ H cy od hx hn s en ex h => ?_⟩
    obtain ⟨C, gC, rfl, rfl⟩ := ex0 hx hn ex
    exact ⟨sub x.cls, exmAny_one (hx1 _ hx _ gC), fun hs a na => yes hx gC s en h hs a na, fun hs => go' D w x ρ S σ H _ _ hx hn s en ex (noo h hs)⟩
  | @two x y sub sub2 c b₀ su np np2 tp q kk hds l hc hc2 hg hg2 k r hd hd2 ih =>
    obtain ⟨cv, nm, hx1⟩ := hc.names hg hd
    obtain ⟨cv2, nm2, hx2⟩ := hc2.names hg2 hd2
    obtain ⟨l', ok', go'⟩ := ih
    refine ⟨([cv, cv2], none, tsOf X es c) :: l', .two nm nm2 k.su ok', fun D w x ρ S σ H cy od hx hn s en ex h => ?_⟩
    obtain ⟨C, gC, rfl, rfl⟩ := ex0 hx hn ex
    exact ⟨sub x.cls || sub2 x.cls, exmAny_two (hx1 _ hx _ gC) (hx2 _ hx _ gC), fun hs a na => yes hx gC s en h hs a na, fun hs => go' D w x ρ S σ H _ _ hx hn s en ex (noo h hs)⟩
end
end Kw
namespace Kw
open PySem PySem.Spec PyProof.Rows L2
/-- classes that are asked for, by their names -/
inductive IsL (X : Cx) (ys : List Str) : List Expr → (Str → Bool) → Prop
  | nil : IsL X ys [] fun _ => false
  | cons {x : Str} {p : Pos} {es : List Expr} {sub sub2 : Str → Bool} (hg : Gl X x) (h : ∀ y ∈ ys, IsxO X.K X.mg y x (sub y)) (t : IsL X ys es sub2) (hd : (x == ("__debug__" : Str)) = false := by decide)
      (hs : starEach (.Name x p :: es) X.env = (false, eval (.Name x p) X.env) :: starEach es X.env := by rfl) : IsL X ys (.Name x p :: es) fun y => sub y || sub2 y
theorem IsL.get {X : Cx} {ys : List Str} {es : List Expr} {sub : Str → Bool} (h : IsL X ys es sub) (hne : ys ≠ []) : ∃ Bs : List Addr, es.length = Bs.length ∧ PA X es (fun _ H Q => Q (Bs.map V.ref) H) ∧ Paired ClsV (Bs.map V.ref) (Bs.map Value.ref) ∧ ∀ y ∈ ys, ∀ C, X.mg y = some (.ref C) → PySem.W.kitAny X.K (.ref C) (Bs.map Value.ref) = some (sub y) := by
  induction h with
  | nil => exact ⟨[], rfl, pa_nil, .nil, fun _ _ _ _ => rfl⟩
  | @cons x p es sub sub2 hg h t hd hs ih =>
    obtain ⟨Bs, l, pa, pr, k⟩ := ih
    obtain ⟨y0, hy0⟩ := List.exists_mem_of_ne_nil ys hne
    obtain ⟨C0, B, _, mB, _⟩ := h y0 hy0
    have n1 : PE X (.Name x p) (tC (.ref B)) := pe_glob hg mB rfl hd
    refine ⟨B :: Bs, by simp [l], pa_cons n1 pa hs, .cons (.own B) pr, fun y hy C hC => ?_⟩
    obtain ⟨C1, B1, m1, m2, e⟩ := h y hy
    cases hC.symm.trans m1
    cases mB.symm.trans m2
    have := k y hy C hC
    show PySem.W.kitAny X.K (.ref C) (.ref B :: Bs.map Value.ref) = _
    unfold PySem.W.kitAny
    rw [e]
    cases hs2 : sub y with
    | true => simp [hs2]
    | false => simpa [hs2] using this
end Kw
namespace Kw
open PySem PySem.Spec PyProof.Rows L2
end Kw
namespace PySem
end PySem
namespace PySem.W
open PySem PySem.Spec PySem.Calls PyProof.Rows
end PySem.W
namespace Kw
open PySem PySem.Spec PySem.Calls PyProof.Rows L2
end Kw
namespace L2
open PySem PySem.Spec PyProof.Rows
end L2
namespace Kw
open PySem PySem.Spec PySem.Calls PyProof.Rows L2
end Kw
namespace Kw
open PySem PySem.Spec PySem.Calls PyProof.Rows L2
section
variable {K : PySem.W.Frag} {mg : Str → Option Value} {P : Program} {w0 : World} {w : Wd} {H : Hp} {h : Heap}
mutual
/-- a tree that is a key lies there as one -/
theorem key_at (ok : HOk P w0 H h) (kin : K.In h) : ∀ (d : D) (k : NestedKey) (v : V) (u : Value), keyOf d = some k → Rp K mg w H d v → RelV v u → NestedIs h k u
  | .non, k, v, u, e, r, q => by
    simp only [keyOf, Option.some.injEq] at e; unfold Rp at r; subst e r
    obtain rfl : u = Value.none := q
    exact .none
  | .bl _, _, _, _, e, _, _ => by simp [keyOf] at e
  | .int i, k, v, u, e, r, q => by
    simp only [keyOf, Option.some.injEq] at e; unfold Rp at r; subst e r
    obtain ⟨t, rfl⟩ : ∃ t, u = Value.int i t := q
    exact .int _ _
  | .str x, k, v, u, e, r, q => by
    simp only [keyOf, Option.some.injEq] at e; unfold Rp at r; subst e r
    obtain ⟨t, rfl⟩ : ∃ t, u = Value.str x t := q
    exact .text _ _
  | .tup ds, k, v, u, e, r, q => by
    simp only [keyOf, Option.map_eq_some_iff] at e
    obtain ⟨ks, e1, rfl⟩ := e
    unfold Rp at r
    obtain ⟨a, xs, rfl, t, rl⟩ := r
    obtain rfl : u = Value.ref a := q
    rcases t with ⟨t, _⟩ | ⟨o, its, n, lk, hc, hd, _, vs⟩
    · obtain ⟨_, its, vs, o, g1, g2, n, g3⟩ := ok a _ t
      exact .tup g1 g2 g3 (by simpa using keys_at ok kin ds ks xs its e1 rl vs)
    · exact .tup (kin a o lk) hc hd (keys_at ok kin ds ks xs its.toList e1 rl vs)
  | .lst _, _, _, _, e, _, _ => by simp [keyOf] at e
  | .dic _ _, _, _, _, e, _, _ => by simp [keyOf] at e
  | .ins _ _ _, _, _, _, e, _, _ => by simp [keyOf] at e
  | .loc _, _, _, _, e, _, _ => by simp [keyOf] at e
  | .glo _, _, _, _, e, _, _ => by simp [keyOf] at e
  | .fls _, _, _, _, e, _, _ => by simp [keyOf] at e
  | .exn _, _, _, _, e, _, _ => by simp [keyOf] at e
  | .exo _ _ _, _, _, _, e, _, _ => by simp [keyOf] at e
  | .lam _ _ _, _, _, _, e, _, _ => by simp [keyOf] at e
theorem keys_at (ok : HOk P w0 H h) (kin : K.In h) : ∀ (ds : List D) (ks : List NestedKey) (vs : List V) (us : List Value), keysOf ds = some ks → RpL K mg w H ds vs → Vals vs us → NestedAll h ks us
  | [], ks, vs, us, e, r, q => by
    simp only [keysOf, Option.some.injEq] at e; unfold RpL at r; subst e r
    cases q; exact .nil
  | d :: ds, ks, vs, us, e, r, q => by
    simp only [keysOf] at e
    split at e
    · rename_i k rk h1 h2
      cases e
      unfold RpL at r
      obtain ⟨v, r', rfl, r1, r2⟩ := r
      cases q with
      | cons q1 q2 => exact .cons (key_at ok kin d k v _ h1 r1 q1) (keys_at ok kin ds rk r' _ h2 r2 q2)
    · cases e
end
end
def isTupK : NestedKey → Bool | .tup _ => true | _ => false
def isNumK : NestedKey → Bool | .num _ => true | _ => false
def numK : NestedKey → Int | .num i => i | _ => 0
def vad : Value → Addr | .ref a => a | _ => 0
theorem tupK_ref {h : Heap} {k : NestedKey} {u : Value} (n : NestedIs h k u) (e : isTupK k = true) : u = .ref (vad u) := by
  cases n <;> first | rfl | cases e
end Kw
namespace Kw
open PySem PySem.Spec PySem.Calls PyProof.Rows L2
end Kw
namespace Kw
open PySem PySem.Spec PySem.Calls PyProof.Rows L2
section
variable {K : PySem.W.Frag} {mg : Str → Option Value} {w : Wd} {H : Hp} {S : Store}
/-- what was hidden becomes a cell -/
theorem Sto.bare [Wo] {C : Addr} {h0 : List Addr} {c : Cell} (s : Sto K mg w S H) (e : w.hd = C :: h0) (hnh : C ∉ h0) (hne : C ≠ sysModules) :
    Mv w H ⟨w.φ ++ [some C], h0⟩ H ∧ (CellR K mg ⟨w.φ ++ [some C], h0⟩ H c w.φ.length → Sto K mg ⟨w.φ ++ [some C], h0⟩ (S ++ [c]) H) := by
  have hCin : C ∈ w.hd := by rw [e]; exact List.mem_cons_self
  have hout : some C ∉ w.φ := (s.ap C hCin).2
  have ph : ∀ (n : Nat) a, (w.φ ++ [some C])[n]? = some (some a) → (w.φ[n]? = some (some a) ∧ n < w.φ.length) ∨ (n = w.φ.length ∧ a = C) := fun n a hk => by
    by_cases hl : n < w.φ.length
    · rw [List.getElem?_append_left hl] at hk; exact .inl ⟨hk, hl⟩
    · have hl' : w.φ.length ≤ n := Nat.le_of_not_lt hl
      rw [List.getElem?_append_right hl'] at hk
      have : n - w.φ.length = 0 := by
        cases e : n - w.φ.length with
        | zero => rfl
        | succ j => rw [e] at hk; simp at hk
      rw [this] at hk; simp at hk
      exact .inr ⟨by omega, hk.symm⟩
  have m : Mv w H ⟨w.φ ++ [some C], h0⟩ H := ⟨fun a o h n => by
    have hn : a ≠ C := fun z => by subst z; exact n.2 hCin
    refine ⟨h, fun z => ?_, fun z => n.2 (by rw [e]; exact List.mem_cons_of_mem _ z)⟩
    rcases List.mem_append.mp (show some a ∈ w.φ ++ [some C] from z) with z | z
    · exact n.1 z
    · simp at z; exact hn z, by show _ ≤ (w.φ ++ [some C]).length; rw [List.length_append]; omega, fun n a h l => by
    rcases ph n a h with z | z
    · exact z.1
    · omega⟩
  refine ⟨m, fun hcell => ⟨by show (w.φ ++ [some C]).length = _; rw [List.length_append, List.length_append, s.len]; rfl, fun i j a q1 q2 => ?_, fun a ha => ?_, fun n cc hc => ?_⟩⟩
  · rcases ph i a q1 with ⟨z1, z2⟩ | ⟨z1, z2⟩ <;> rcases ph j a q2 with ⟨y1, y2⟩ | ⟨y1, y2⟩
    · exact s.nd i j a z1 y1
    · subst y2; exact absurd (List.mem_of_getElem? z1) hout
    · subst z2; exact absurd (List.mem_of_getElem? y1) hout
    · omega
  · have ha' : a ∈ w.hd := by rw [e]; exact List.mem_cons_of_mem _ ha
    refine ⟨(s.ap a ha').1, fun z => ?_⟩
    rcases List.mem_append.mp (show some a ∈ w.φ ++ [some C] from z) with z | z
    · exact (s.ap a ha').2 z
    · simp at z; subst z; exact hnh ha
  · by_cases hl : n < S.length
    · rw [List.getElem?_append_left hl] at hc
      have c0 := s.cell n cc hc
      have gl : (w.φ ++ [some C])[n]? = w.φ[n]? := List.getElem?_append_left (s.len ▸ hl)
      unfold CellR at c0 ⊢
      split at c0
      · obtain ⟨b, ys, h2, h3, h4⟩ := c0; exact ⟨b, ys, gl.trans h2, h3, RpL.mv m _ _ h4⟩
      · obtain ⟨b, ys, o', h2, h3, h4⟩ := c0; exact ⟨b, ys, o', gl.trans h2, h3, RpL.mv m _ _ h4⟩
      · exact gl.trans c0
      · obtain ⟨c1, P, ht, t1, t2⟩ := c0; exact ⟨c1, P, ht, gl.trans t1, TabW.mv m rfl t2⟩
      · obtain ⟨y1, y2, y3, ⟨φ, y4, y6⟩, y5⟩ := c0
        refine ⟨gl.trans y1, ?_, fun z => ?_, ⟨φ, y4, y6⟩, y5⟩
        · rw [e] at y2
          rcases List.mem_cons.mp y2 with z | z
          · exact absurd z.symm hne
          · exact z
        · rcases List.mem_append.mp (show some sysModules ∈ w.φ ++ [some C] from z) with z | z
          · exact y3 z
          · simp at z; exact hne z.symm
      · exact ⟨gl.trans c0.1, EnvR.mv m c0.2⟩
      · obtain ⟨b, C1, dx, vs', h2, h3, h4, h5, h6⟩ := c0; exact ⟨b, C1, dx, vs', gl.trans h2, h3, h4, h5, RpL.mv m _ _ h6⟩
      · obtain ⟨b, es, h2, h3, h4, h5, h6, h7⟩ := c0; exact ⟨b, es, gl.trans h2, h3, h4, h5, dct_mv m h6, RpL.mv m _ _ h7⟩
    · have hl' : S.length ≤ n := Nat.le_of_not_lt hl
      rw [List.getElem?_append_right hl'] at hc
      have e0 : n - S.length = 0 := by
        cases e : n - S.length with
        | zero => rfl
        | succ j => rw [e] at hc; simp at hc
      rw [e0] at hc; simp at hc; subst hc
      have en' : n = w.φ.length := by rw [s.len]; omega
      subst en'
      exact hcell
end
end Kw
namespace Kw
open PySem PySem.Spec PySem.Calls PyProof.Rows L2
end Kw
namespace Kw
open PySem PySem.Spec PySem.Calls PyProof.Rows L2
section
variable {X : Cx} {W : WX} {pos : Pos}
def gRngC (x : D) (S : Store) : RE D := match x with
  | .int n => if 0 ≤ n ∧ n ≤ 16777216 then mkCel (((List.range n.toNat).map fun (i : Nat) => ((i : Nat) : Int)).map D.int) S else .no
  | _ => .no
theorem q_listRgC [Wo] {X : Cx} {W : WX} {e : Expr} {fe : FE} {p p' pos pos' : Pos} (hc : X.calm = true) (hg : Gl X "list") (hm : X.mg "list" = none) (hg' : Gl X "range") (hm' : X.mg "range" = none) (he : PE X e (tF X W fe))
    (na : starEach [.Call (.Name "range" p') [e] [] pos'] X.env = (false, eval (.Call (.Name "range" p') [e] [] pos') X.env) :: starEach [] X.env := by rfl) (na' : starEach [e] X.env = (false, eval e X.env) :: starEach [] X.env := by rfl) :
    PE X (.Call (.Name "list" p) [.Call (.Name "range" p') [e] [] pos'] [] pos) (tF X W (f1 gRngC fe)) :=
  PE.wk (pe_listRg hc hg hm (prg_1 hg' hm' he na') na) fun σ H Q ⟨w, ρ, S, s, en, h⟩ => by
    refine ⟨w, ρ, S, s, en, (End.bind (R := fun w H => Rp X.K X.mg w H) h).imp ?_ (fun _ _ _ z => z)⟩
    rintro v H1 ⟨w1, S1, d, e1, s1, r1, h1⟩
    unfold gRngC at h1
    split at h1
    · rename_i n
      split at h1
      · rename_i hn
        refine ⟨n, rp_int r1, RgOk.of_le (by omega) (by omega) (by omega) (by omega), fun q hq => ?_⟩
        rw [rgV_ints]
        exact (mkCel_at s1 (RpL.ints _) h1).2 q hq
      · exact h1.elim
    · exact h1.elim
end
end Kw
namespace Kw
open PySem PySem.Spec PySem.Calls PyProof PyProof.Rows L2
section
variable {X : Cx}
def gAddF (x y : D) (S : Store) : RE D := match x, y with
  | .lst xs, .fls ys => mkLst (xs ++ ys) S
  | _, _ => .no
end
@[simp] theorem gAddF_ap {xs ys : List D} {S : Store} : gAddF (.lst xs) (.fls ys) S = mkLst (xs ++ ys) S := rfl
end Kw
namespace Kw
open PySem PySem.Spec PySem.Calls PyProof.Rows L2
theorem sorts_none {prog : Program} {w : World} {A : Around} {s : Shared} {v : Value} {as : List Addr} (r : Reads s.heap v (.tuple []) as) (hu : A.units < cLine) : PySem.W.SortsAt prog w A s (PySem.W.dataKind s.heap [.tuple []]) [v] := by
  have hal : PySem.W.AllAlike [PyData.tuple []] := by
    intro d hd d' hd'
    simp only [List.mem_singleton] at hd hd'
    subst hd hd'
    simp [PySem.W.alike, PySem.W.alikeAll]
  refine ⟨fun u hu' => ?_, PyProof.Rows.tuples' false, ?_, fun h2 => absurd h2 (by simp)⟩
  · simp only [List.mem_singleton] at hu'
    subst hu'
    exact ⟨_, PySem.W.dataKind_some hal (List.mem_singleton.mpr rfl) r⟩
  · intro E x y a b Q ha hb hq
    obtain ⟨d, ax, hd, ra, rfl⟩ := PySem.W.dataKind_inv ha
    obtain ⟨e, ay, he, rb, rfl⟩ := PySem.W.dataKind_inv hb
    simp only [List.mem_singleton] at hd he
    subst hd he
    have hq' : Q (PySem.W.dataLt (.tuple []) (.tuple [])) s := hq
    rw [PySem.W.dataLt_tuple] at hq'
    cases ra with
    | tuple h1 h2 h3 h4 =>
      cases rb with
      | tuple k1 k2 k3 k4 =>
        have n1 := SeqAt.ReadsAll.length _ _ _ h4
        have n2 := SeqAt.ReadsAll.length _ _ _ k4
        refine PySem.W.kat_lt h1 h3 k1 k3 (PySem.W.katLex_alike [] [] 0 _ _ _ _ h4 k4 (by simp [PySem.W.alikeAll]) (by simpa [PyData.depthAll] using hu) (fun _ _ x r t ex => by cases ex) ?_ hq')
        simp only [Array.length_toList] at n1 n2
        rw [n1, n2]
section
variable {X : Cx}
def rSortE (K : PySem.W.Frag) : List V → Hp → VK → Prop := fun vs H Q => ∃ (a : Addr) (xs : List V) (ps : List PyData), vs = [V.ref a] ∧ SqL K H a xs ∧ DpAll K H xs ps ∧ PySem.W.AllAlike ps ∧ (PySem.W.Sortable ps ∨ ps = [.tuple []]) ∧ PyData.depthAll ps ≤ 190 ∧ ∀ p, H p = none → Q (.ref p) (upd H p (.lst (sortB xs ps)))
theorem cr_sortedE (hu : X.A.units + 200 < cLine) : CallR X (.builtin "sorted") (rSortE X.K) := by
  intro pins s σ H vs us Q I r h
  obtain ⟨a, xs, ps, rfl, hs, hd, hal, hso | rfl, hdep, q⟩ := h
  · exact cr_sortedD hu pins s σ H [.ref a] us Q I r ⟨a, xs, ps, rfl, hs, hd, hal, hso, hdep, q⟩
  · obtain ⟨its, rv, hl, hz⟩ := I.list hs
    rw [Vals.ref1 r]
    have el := DpAll.length hd
    obtain ⟨x, rfl⟩ : ∃ x, xs = [x] := List.length_eq_one_iff.mp (by simpa using el)
    obtain ⟨as, ra⟩ := Dp.readsAll I [.tuple []] [x] its hd rv
    obtain ⟨u1, rfl⟩ : ∃ u, its = [u] := List.length_eq_one_iff.mp (by simpa using SeqAt.ReadsAll.length _ _ _ ra)
    cases ra with
    | cons r1 r2 =>
      have r3 := PyProof.Rows.Reads.keeps (h' := PySem.W.sortingHeap (PySem.W.copyHeap s.heap [u1]) (s.heap.objs.size + 1) [u1]) (fun _ _ => PySem.W.sorting_copy_old) r1
      have e1 : PySem.W.sortVals (PySem.W.dataKind (PySem.W.sortingHeap (PySem.W.copyHeap s.heap [u1]) (s.heap.objs.size + 1) [u1]) [.tuple []]) false [u1] [u1] = [u1] := by
        simp [PySem.W.sortVals]
      refine PySem.W.sorted_vals hl.isList (sorts_none (s := { s with heap := PySem.W.sortingHeap (PySem.W.copyHeap s.heap [u1]) (s.heap.objs.size + 1) [u1] }) r3 (by show X.A.units + 1 + 1 < cLine; omega)) (by simpa using hz) ?_
      rw [e1]
      obtain ⟨ep, he'⟩ := PyProof.Rows.sortedAll_at s.heap [u1] #[u1]
      have e2 : sortB [x] [PyData.tuple []] = [x] := by simp [sortB]
      exact ⟨.ref _, upd H (s.heap.objs.size + 1) (.lst (sortB [x] [.tuple []])), I.laid (t' := s.toks) (fun _ _ => PyProof.Rows.sortedAll_old) (Nat.le_succ _) ⟨by rw [e2]; exact hz, [u1], ep, by rw [e2]; exact rv, he'⟩, rfl, q _ (I.hok.fresh (Nat.le_succ _))⟩
open Classical in
noncomputable def gSortedE (ds : List D) (S : Store) : RE D := match ds with
  | [x] => (match seqL S x with
    | some ys => (match pySL S ys with
      | some ps => if PySem.W.AllAlike ps ∧ (PySem.W.Sortable ps ∨ ps = [.tuple []]) ∧ PyData.depthAll ps ≤ 190 then .ok (.lst (sortB ys ps)) S else .no
      | none => .no)
    | none => .no)
  | _ => .no
theorem sortedE_v [Wo] {K : PySem.W.Frag} {mg : Str → Option Value} : CallV K mg (rSortE K) gSortedE := by
  intro w S H xs ds Q E s r h
  unfold gSortedE at h
  split at h
  · rename_i x
    split at h
    · rename_i ys h1
      split at h
      · rename_i ps h2
        split at h
        · rename_i hc
          obtain ⟨v, rfl, r1⟩ := r.one_inv
          obtain ⟨a, zs, rfl, hs, rl⟩ := seqL_at s r1 h1
          exact ⟨a, zs, ps, rfl, hs, pySL_at s ys zs ps rl h2, hc.1, hc.2.1, hc.2.2, fun p np => newLst s (rl.sort (pySL_length h2)) np h⟩
        · exact h.elim
      · exact h.elim
    · exact h.elim
  · exact h.elim
end
end Kw
namespace Kw
open PySem PySem.Spec PyProof.Rows L2
/-- each k-th item from i on -/
def pickS {α : Type} (l : List α) (i k : Nat) : List α := (List.range l.length).filterMap fun m => l[i + m * k]?
section
variable {X : Cx} {W : WX} {e sx : Expr} {lo : Option Expr} {te : TE} {tl th : TO} {pos p2 : Pos} {fa : FE} {fl fk : FO}
def gStep (x : D) (lo st : Option Int) (S : Store) : RE D := match x, lo, st with
  | .tup ds, some i, some k => if 0 ≤ i ∧ 2 ≤ k then .ok (.tup (pickS ds i.toNat k.toNat)) S else .no
  | _, _, _ => .no
def fStep (a : FE) (l k : FO) : FE := fun ρ S => (a ρ S).bnd fun x S1 => (l ρ S1).bnd fun lo S2 => (k ρ S2).bnd fun st S3 => gStep x lo st S3
end
@[simp] theorem fStep_ap {a : FE} {l k : FO} {ρ : FEnv} {S : Store} : fStep a l k ρ S = (a ρ S).bnd fun x S1 => (l ρ S1).bnd fun lo S2 => (k ρ S2).bnd fun st S3 => gStep x lo st S3 := rfl
end Kw
namespace Kw
open PySem PySem.Spec PyProof.Rows L2
/-- zip of two tuples -/
def fiZT (f : FA) : FI := fun ρ S => (f ρ S).bnd fun ds S1 => match ds with
  | [.tup xs, .tup ys] => .ok (zipD xs ys, none) S1
  | _ => .no
@[simp] theorem fiZT_ap {f : FA} {ρ : FEnv} {S : Store} : fiZT f ρ S = (f ρ S).bnd fun ds S1 => match ds with
  | [.tup xs, .tup ys] => .ok (zipD xs ys, none) S1
  | _ => .no := rfl
end Kw
namespace Kw
open PySem PySem.Spec PySem.Calls PyProof.Rows L2
end Kw
namespace Kw
open PySem PySem.Spec PySem.Calls PyProof.Rows L2
end Kw
namespace Kw.NS
open PySem PySem.Spec PySem.Calls PyProof.Rows L2
def Mk (m : Nat) : Prop := MaskOk m ∨ m = 511
theorem all511 : ((List.range 512).all fun j => (List.range 512).any fun b => lcgN 511 b == j) = true := by decide +kernel
theorem round511 : lcgN 511 512 = 0 := by decide +kernel
variable {m : Nat}
theorem mk_hit (hm : Mk m) {j : Nat} (hj : j ≤ m) : ∃ b, b ≤ m ∧ lcgN m b = j := by
  rcases hm with hm | rfl
  · exact lcg_all hm hj
  · obtain ⟨b, hb, e⟩ := List.any_eq_true.mp (List.all_eq_true.mp all511 j (List.mem_range.mpr (by omega)))
    exact ⟨b, by have := List.mem_range.mp hb; omega, beq_iff_eq.mp e⟩
theorem mk_zero (hm : Mk m) : lcgN m (m + 1) = 0 := by
  rcases hm with hm | rfl
  · exact lcg_round hm
  · exact round511
theorem mk_per (hm : Mk m) (k : Nat) : lcgN m (m + 1 + k) = lcgN m k := by
  induction k with
  | zero => exact mk_zero hm
  | succ k ih =>
    show (lcgN m (m + 1 + k) * 5 + 1) % (m + 1) = _
    rw [ih]; rfl
theorem mk_from (hm : Mk m) {i j : Nat} (hi : i ≤ m) (hj : j ≤ m) : ∃ k, k ≤ m ∧ lcgI m i k = j := by
  obtain ⟨a, ha, rfl⟩ := mk_hit hm hi
  obtain ⟨b, hb, rfl⟩ := mk_hit hm hj
  by_cases h : a ≤ b
  · exact ⟨b - a, by omega, by rw [lcgN_add, Nat.add_sub_cancel' h]⟩
  · exact ⟨m + 1 + b - a, by omega, by rw [lcgN_add, Nat.add_sub_cancel' (by omega), mk_per hm]⟩
theorem mk_run (hm : Mk m) (h : Int) {j : Nat} (hj : j ≤ m) : ∃ n, n ≤ m + 12 ∧ runI m (SetTable.bits h) n = j := by
  obtain ⟨k, hk, e⟩ := mk_from hm (runI_le m (SetTable.bits h) 12) hj
  exact ⟨12 + k, by omega, by rw [runI_tail (bits_lt h)]; exact e⟩
theorem mk_meet (hm : Mk m) (h : Int) {j : Nat} (hj : j ≤ m) : ∃ k, k < 10 * SetTable.turns m ∧ way m h k = j := by
  obtain ⟨n, hn, e⟩ := mk_run hm h hj
  obtain ⟨k, hk, e2⟩ := run_nth m (SetTable.bits h) n
  refine ⟨k, by unfold SetTable.turns; omega, ?_⟩
  show (nth m (runAt m (SetTable.bits h % (m + 1)) (SetTable.bits h)) k).j = j
  rw [e2]; exact e
theorem mk_odd (hm : Mk m) : m % 2 = 1 := by
  rcases hm with hm | rfl
  · exact mask_odd hm
  · rfl
theorem mk_le (hm : Mk m) : m ≤ 511 := by
  rcases hm with hm | rfl
  · rcases hm with e | e | e <;> omega
  · omega
theorem in_way (m : Nat) (h : Int) (k : Nat) : way m h k ≤ m := by
  have hi : SetTable.bits h % (m + 1) ≤ m := Nat.le_of_lt_succ (Nat.mod_lt _ (Nat.succ_pos _))
  have := nth_in (m := m) k (runAt m (SetTable.bits h % (m + 1)) (SetTable.bits h)) (by
    have := runEnd_bd hi
    show SetTable.bits h % (m + 1) + (SetTable.runEnd m (SetTable.bits h % (m + 1)) - SetTable.bits h % (m + 1)) ≤ m
    omega)
  show (nth m _ k).j ≤ m
  omega
/-- the first free one on the way -/
theorem first_free (hm : Mk m) {l : List Nat} (hl : l.length ≤ m) (h : Int) : ∃ K, K < 10 * SetTable.turns m ∧ way m h K ∉ l ∧ ∀ k, k < K → way m h k ∈ l := by
  obtain ⟨j, hj, hn⟩ := st_missing l (m + 1) (by omega)
  obtain ⟨k, hk, e⟩ := mk_meet hm h (j := j) (by omega)
  obtain ⟨K, h1, h2, h3⟩ := st_least (p := fun k => way m h k ∉ l) k (by rw [e]; exact hn)
  exact ⟨K, by omega, h2, fun c hc => Classical.byContradiction (h3 c hc)⟩
theorem lay_free (hm : Mk m) (ow : Array (Option Nat)) (h : Int) {j : Nat} (hj : j ≤ m) (hf : oAt ow j = none) : ∃ K, SetTable.layClean.free m ow (SetTable.turns m) (SetTable.bits h % (m + 1)) (SetTable.bits h) = some (way m h K) ∧ oAt ow (way m h K) = none := by
  obtain ⟨n, hn, e⟩ := mk_run hm h hj
  have hw : way m h (off m (SetTable.bits h % (m + 1)) (SetTable.bits h) n) = j := by
    show (nth m _ _).j = j
    rw [nth_off, itL_run]; exact e
  obtain ⟨K, k1, k2, k3⟩ := st_least (p := fun k => oAt ow (way m h k) = none) _ (show oAt ow (way m h (off m (SetTable.bits h % (m + 1)) (SetTable.bits h) n)) = none by rw [hw]; exact hf)
  refine ⟨K, free_spec m ow _ n _ _ K (by unfold SetTable.turns; omega) k1 (fun k hk => ?_) (by rw [show oAt ow (nth m _ K).j = none from k2]; rfl), k2⟩
  cases z : oAt ow (nth m (runAt m (SetTable.bits h % (m + 1)) (SetTable.bits h)) k).j with
  | none => exact absurd z (k3 k hk)
  | some _ => rfl
/-- n of them have their seats -/
structure Seat (m n : Nat) (ow : Array (Option Nat)) : Prop where
  sz : ow.size = m + 1
  all : ∀ k, k < n → ∃ j, j ≤ m ∧ oAt ow j = some k
  few : ∃ l : List Nat, l.length = n ∧ ∀ j, j ≤ m → oAt ow j ≠ none → j ∈ l
theorem Seat.zero (m : Nat) : Seat m 0 (Array.replicate (m + 1) none) := ⟨by simp, fun k hk => by omega, [], rfl, fun j hj e => absurd (oAt_init hj) e⟩
theorem Seat.next {n : Nat} {ow : Array (Option Nat)} (hm : Mk m) (W : Seat m n ow) (hn : n ≤ m) (h : Int) : ∃ j, SetTable.layClean.free m ow (SetTable.turns m) (SetTable.bits h % (m + 1)) (SetTable.bits h) = some j ∧ Seat m (n + 1) (ow.setIfInBounds j (some n)) := by
  obtain ⟨l, hl, hin⟩ := W.few
  obtain ⟨j0, h0, hn0⟩ := st_missing l (m + 1) (by omega)
  have f0 : oAt ow j0 = none := Classical.byContradiction fun z => hn0 (hin j0 (by omega) z)
  obtain ⟨K, e1, e2⟩ := lay_free hm ow h (j := j0) (by omega) f0
  have hj := in_way m h K
  generalize way m h K = j at *
  have hs : j < ow.size := by rw [W.sz]; omega
  refine ⟨j, e1, by rw [Array.size_setIfInBounds]; exact W.sz, fun k hk => ?_, j :: l, by rw [List.length_cons, hl], fun i hi e => ?_⟩
  · by_cases c : k = n
    · rw [c]; exact ⟨j, hj, oAt_set_self _ hs⟩
    · obtain ⟨i, hi, e⟩ := W.all k (by omega)
      refine ⟨i, hi, ?_⟩
      rw [oAt_set_ne _ fun z => by rw [z, e2] at e; cases e]; exact e
  · by_cases c : i = j
    · rw [c]; exact List.mem_cons_self
    · rw [oAt_set_ne _ c] at e
      exact List.mem_cons_of_mem _ (hin i hi e)
theorem seats (hm : Mk m) : ∀ (hs : List Int) (n : Nat) (ow : Array (Option Nat)), Seat m n ow → n + hs.length ≤ m → ∃ ow', hs.foldl (stepF m) (some (ow, n)) = some (ow', n + hs.length) ∧ Seat m (n + hs.length) ow'
  | [], n, ow, W, _ => ⟨ow, rfl, W⟩
  | h :: hs, n, ow, W, hl => by
    rw [List.length_cons] at hl ⊢
    obtain ⟨j, e, W'⟩ := W.next hm (by omega) h
    obtain ⟨ow', f, W2⟩ := seats hm hs (n + 1) _ W' (by omega)
    rw [show n + (hs.length + 1) = n + 1 + hs.length by omega]
    exact ⟨ow', by rw [List.foldl_cons, stepF_some e]; exact f, W2⟩
theorem live_ris (m : Nat) (ow : Array (Option Nat)) : Ris ((liveOf m ow).map (·.1)) ∧ ∀ x ∈ (liveOf m ow).map (·.1), x ≤ m := by
  have r := ris_live (fun j => ow.getD j none) (List.range (m + 1)) (by unfold Ris; exact List.pairwise_lt_range)
  exact ⟨r.1, fun x hx => by have := List.mem_range.mp (r.2 x hx); omega⟩
theorem anew (t : SetTable) {hs : Array Int} {q : Nat} (hw : SetTable.sizeAbove q - 1 = m) (hm : Mk m) (hn : hs.size ≤ m) :
    ∃ t' order, t.relaid hs q = some (t', order) ∧ order.toList.Perm (List.range hs.size) ∧ Ris t'.place.toList ∧ t'.dummies = #[] ∧ t'.place.size = hs.size ∧ t'.mask = m ∧ t'.led = t.led ∧ t'.plain = t.plain := by
  obtain ⟨ow, f, W⟩ := seats hm hs.toList 0 _ (Seat.zero m) (by rw [Array.length_toList]; omega)
  have el : SetTable.layClean m hs = some ow := by rw [layClean_eq, f]; rfl
  rw [Nat.zero_add, Array.length_toList] at W
  obtain ⟨r1, r2⟩ := live_ris m ow
  have nd : ((liveOf m ow).map (·.1)).Nodup := List.Pairwise.imp (fun h => Nat.ne_of_lt h) r1
  have seen : ∀ k, k < hs.size → k ∈ (liveOf m ow).map (·.2) := fun k hk => by
    obtain ⟨j, b1, b2⟩ := W.all k hk
    exact List.mem_map.mpr ⟨(j, k), (mem_live W.sz).2 ⟨b1, b2⟩, rfl⟩
  have hlen : (liveOf m ow).length = hs.size := by
    obtain ⟨l, p1, p2⟩ := W.few
    have a := nat_nodup_len _ l nd fun x hx => by
      obtain ⟨⟨y, k⟩, hq, e⟩ := List.mem_map.mp hx
      obtain ⟨b1, b2⟩ := (mem_live W.sz).1 hq
      exact e ▸ p2 y b1 (by rw [b2]; exact fun z => nomatch z)
    have b := nat_nodup_len (List.range hs.size) _ List.nodup_range fun k hk => seen k (List.mem_range.mp hk)
    rw [List.length_map, p1] at a
    rw [List.length_map, List.length_range] at b
    omega
  refine ⟨tabOf t m ow, ((liveOf m ow).map (·.2)).toArray, by rw [relaid_eq, hw, el]; rfl, perm_range _ _ ?_ seen, r1, rfl, ?_, rfl, rfl, rfl⟩
  · show ((liveOf m ow).map (·.2)).length = hs.size
    rw [List.length_map]; exact hlen
  · show ((liveOf m ow).map (·.1)).toArray.size = hs.size
    rw [List.size_toArray, List.length_map]; exact hlen
/-- one put in -/
theorem put_in {t : SetTable} (r : Ris t.place.toList) (hd : t.dummies = #[]) {j : Nat} (hj : j ∉ t.place.toList) :
    Ris (t.put j).1.place.toList ∧ (t.put j).1.dummies = #[] ∧ (t.put j).1.place.size = t.place.size + 1 ∧ (t.put j).1.mask = t.mask ∧ (t.put j).1.led = t.led ∧ (t.put j).1.plain = t.plain ∧ (t.put j).2 ≤ t.place.size := by
  have hc := (below_cut r j).1
  have hl : SetTable.below t.place j ≤ t.place.toList.length := by rw [Array.length_toList]; exact hc
  refine ⟨ris_insert r fun e => hj (List.mem_of_getElem? (by rw [Array.getElem?_toList]; exact e)), put_dm hd j, ?_, rfl, rfl, rfl, hc⟩
  rw [← Array.length_toList, put_place, len_ins _ hl, Array.length_toList]
end Kw.NS
namespace Kw.NS
open PySem PySem.Spec PySem.Calls PyProof.Rows L2
abbrev Ky := Addr × NestedKey
mutual
/-- no text within -/
def noT : NestedKey → Bool
  | .none => true
  | .num _ => true
  | .text _ => false
  | .tup ks => noTs ks
def noTs : List NestedKey → Bool
  | [] => true
  | k :: ks => noT k && noTs ks
end
/-- it lies there as a key -/
def Ly (h : Heap) (p : Ky) : Prop := NestedIs h p.2 (.ref p.1) ∧ p.2.depth ≤ 8 ∧ noT p.2 = true
section
variable {P : Program} {w : World} {A : Around} {E : Value → Shared → Prop} {s : Shared}
def ClsAt (P : Program) (w : World) (n : Nat) (s : Shared) (v : Value) : Prop := ∀ (A : Around) (E : Value → Shared → Prop) (Q : Bool → Shared → Prop), Q false s → wpAny (model P w) A (ofAClassStatement n v) Q E s
def HbyAt (P : Program) (w : World) (n : Nat) (s : Shared) (v : Value) : Prop := ∀ (A : Around) (E : Value → Shared → Prop) (Q : Bool → Shared → Prop), Q true s → wpAny (model P w) A (hashByValue n v) Q E s
theorem cls_flat {n : Nat} {v : Value} (h : ofAClassStatement n v = pure false) : ClsAt P w n s v := fun A E Q q => by rw [h]; exact wpAny_pure q
theorem hby_flat {n : Nat} {v : Value} (h : hashByValue n v = pure true) : HbyAt P w n s v := fun A E Q q => by rw [h]; exact wpAny_pure q
theorem cls_tup {n m : Nat} {a : Addr} {o : Obj} {vs : Array Value} (ho : s.heap.get? a = some o) (hc : o.cls = .type "tuple") (hd : o.data = .seq vs m) (hq : ∀ v ∈ vs.toList, ClsAt P w n s v) : ClsAt P w (n + 1) s (.ref a) := fun A E Q h => by
  unfold ofAClassStatement
  refine wpAny_bind (wpAny_typeOf (T := "tuple") ⟨o, ho, hc⟩ ?_)
  have e : (("tuple" : String) == "tuple") = true := by decide
  simp only [e, if_true, Bool.not_true, Bool.false_eq_true, if_false]
  try refine wpAny_bind (wpAny_pure ?_)
  try simp only [Bool.not_true, Bool.false_eq_true, if_false]
  show wpAny _ _ (seqItems? (.ref a) >>= _) _ _ s
  refine wpAny_bind (wpAny_seqItems ho hd ?_)
  dsimp only
  refine wpAny_bind ?_
  show wpAny _ _ (forIn vs _ _) _ _ s
  rw [← Array.forIn_toList]
  refine wpAny_forIn_list _ (fun rest r s' => r.1 = none ∧ s' = s ∧ ∀ v ∈ rest, ClsAt P w n s v) _ ?_ ?_ _ _ ⟨rfl, rfl, hq⟩
  · rintro v rest r s' ⟨hr, rfl, hall⟩
    refine wpAny_bind (hall v List.mem_cons_self _ _ _ ?_)
    simp only [Bool.false_eq_true, if_false]
    exact wpAny_pure ⟨rfl, rfl, fun u hu => hall u (List.mem_cons_of_mem _ hu)⟩
  · rintro ⟨r1, r2⟩ s' ⟨hr, rfl, _⟩
    obtain rfl : r1 = none := hr
    exact wpAny_pure h
theorem hby_tup {n m : Nat} {a : Addr} {o : Obj} {vs : Array Value} (ho : s.heap.get? a = some o) (hc : o.cls = .type "tuple") (hd : o.data = .seq vs m) (hq : ∀ v ∈ vs.toList, HbyAt P w n s v) : HbyAt P w (n + 1) s (.ref a) := fun A E Q h => by
  unfold hashByValue
  refine wpAny_bind (wpAny_specialOf (T := "tuple") ⟨o, ho, hc⟩ F.slot_tuple_hash.lookup ?_)
  show wpAny _ _ (seqItems? (.ref a) >>= _) _ _ s
  refine wpAny_bind (wpAny_seqItems ho hd ?_)
  refine wpAny_bind ?_
  show wpAny _ _ (forIn vs _ _) _ _ s
  rw [← Array.forIn_toList]
  refine wpAny_forIn_list _ (fun rest r s' => r.1 = none ∧ s' = s ∧ ∀ v ∈ rest, HbyAt P w n s v) _ ?_ ?_ _ _ ⟨rfl, rfl, hq⟩
  · rintro v rest r s' ⟨hr, rfl, hall⟩
    refine wpAny_bind (hall v List.mem_cons_self _ _ _ ?_)
    simp only [Bool.not_true, Bool.false_eq_true, if_false]
    exact wpAny_pure ⟨rfl, rfl, fun u hu => hall u (List.mem_cons_of_mem _ hu)⟩
  · rintro ⟨r1, r2⟩ s' ⟨hr, rfl, _⟩
    obtain rfl : r1 = none := hr
    exact wpAny_pure h
mutual
theorem cls_key : ∀ (k : NestedKey) (v : Value) (n : Nat) (s : Shared), NestedIs s.heap k v → k.depth ≤ n → ClsAt P w n s v
  | .none, _, n, s, x, _ => by cases x; exact cls_flat (by cases n <;> rfl)
  | .num i, _, n, s, x, _ => by cases x <;> exact cls_flat (by cases n <;> rfl)
  | .text y, _, n, s, x, _ => by cases x; exact cls_flat (by cases n <;> rfl)
  | .tup ks, _, n, s, x, hn => by
    cases x with
    | tup hg hc hd hk =>
      simp only [NestedKey.depth] at hn
      obtain ⟨n, rfl⟩ : ∃ m, n = m + 1 := ⟨n - 1, by omega⟩
      exact cls_tup hg hc hd (cls_keys ks _ n s hk (by omega))
theorem cls_keys : ∀ (ks : List NestedKey) (vs : List Value) (n : Nat) (s : Shared), NestedAll s.heap ks vs → NestedKey.depthAll ks ≤ n → ∀ v ∈ vs, ClsAt P w n s v
  | [], _, n, s, x, _, v, hv => by cases x; cases hv
  | k :: ks, _, n, s, x, hn, v, hv => by
    cases x with
    | cons x1 x2 =>
      simp only [NestedKey.depthAll] at hn
      rcases List.mem_cons.mp hv with e | hv
      · rw [e]; exact cls_key k _ n s x1 (by omega)
      · exact cls_keys ks _ n s x2 (by omega) v hv
end
mutual
theorem hby_key : ∀ (k : NestedKey) (v : Value) (n : Nat) (s : Shared), NestedIs s.heap k v → k.depth ≤ n → noT k = true → HbyAt P w n s v
  | .none, _, n, s, x, _, _ => by cases x; exact hby_flat (by cases n <;> rfl)
  | .num i, _, n, s, x, _, _ => by cases x <;> exact hby_flat (by cases n <;> rfl)
  | .text y, _, n, s, x, _, h => by cases h
  | .tup ks, _, n, s, x, hn, h => by
    cases x with
    | tup hg hc hd hk =>
      simp only [NestedKey.depth] at hn
      obtain ⟨n, rfl⟩ : ∃ m, n = m + 1 := ⟨n - 1, by omega⟩
      exact hby_tup hg hc hd (hby_keys ks _ n s hk (by omega) (by simpa [noT] using h))
theorem hby_keys : ∀ (ks : List NestedKey) (vs : List Value) (n : Nat) (s : Shared), NestedAll s.heap ks vs → NestedKey.depthAll ks ≤ n → noTs ks = true → ∀ v ∈ vs, HbyAt P w n s v
  | [], _, n, s, x, _, _, v, hv => by cases x; cases hv
  | k :: ks, _, n, s, x, hn, h, v, hv => by
    cases x with
    | cons x1 x2 =>
      simp only [NestedKey.depthAll] at hn
      simp only [noTs, Bool.and_eq_true] at h
      rcases List.mem_cons.mp hv with e | hv
      · rw [e]; exact hby_key k _ n s x1 (by omega) h.1
      · exact hby_keys ks _ n s x2 (by omega) h.2 v hv
end
/-- looking shows nothing -/
theorem unseen {p : Ky} (hp : Ly s.heap p) {ys : List Value} (hy : ∀ y ∈ ys, ∃ q : Ky, y = Value.ref q.1 ∧ Ly s.heap q) {Q : Bool → Shared → Prop} (h : Q false s) : wpAny (model P w) A (searchCouldBeSeen (.ref p.1) ys) Q E s := by
  unfold searchCouldBeSeen
  refine wpAny_bind ?_
  refine wpAny_forIn_list _ (fun rest r s' => r.1 = none ∧ s' = s ∧ ∀ y ∈ rest, ∃ q : Ky, y = Value.ref q.1 ∧ Ly s.heap q) _ ?_ ?_ _ _ ⟨rfl, rfl, hy⟩
  · rintro v rest r s' ⟨hr, rfl, hall⟩
    obtain ⟨q, rfl, hq⟩ := hall v List.mem_cons_self
    have tl : ∀ y ∈ rest, ∃ q : Ky, y = Value.ref q.1 ∧ Ly s'.heap q := fun u hu => hall u (List.mem_cons_of_mem _ hu)
    dsimp only
    by_cases hv : (p.1 == q.1 || (carriedByValue (.ref p.1) && carriedByValue (.ref q.1))) = true
    · exact wp_if_pos hv (wpAny_pure ⟨rfl, rfl, tl⟩)
    · refine wp_if_neg hv ?_
      refine wpAny_bind (quiet_key _ _ 8 _ hp.1 hp.2.1 _ _ _ ?_)
      simp only [Bool.not_true, Bool.false_eq_true, if_false]
      refine wpAny_bind (quiet_key _ _ 8 _ hq.1 hq.2.1 _ _ _ ?_)
      simp only [Bool.not_true, Bool.false_eq_true, if_false]
      refine wpAny_bind (cls_key _ _ 8 _ hp.1 hp.2.1 _ _ _ ?_)
      simp only [Bool.false_eq_true, if_false]
      refine wpAny_bind (cls_key _ _ 8 _ hq.1 hq.2.1 _ _ _ ?_)
      simp only [Bool.false_eq_true, if_false]
      exact wpAny_pure ⟨rfl, rfl, tl⟩
  · rintro ⟨r1, r2⟩ s' ⟨hr, rfl, _⟩
    obtain rfl : r1 = none := hr
    exact wpAny_pure h
def rows (w : World) (L : List Ky) : List (Int × Value) := L.map fun p => (p.2.hash w, Value.ref p.1)
structure Set (w : World) (h : Heap) (a : Addr) (L : List Ky) (es : Array (Int × Value)) (ep : Nat) (t : SetTable) : Prop where
  ob : ∃ o, h.get? a = some o ∧ o.ExactSet ∧ o.data = .set es ep t
  rw_ : es.toList = rows w L
  ris : Ris t.place.toList
  dm : t.dummies = #[]
  sz : t.place.size = L.length
  mok : Mk t.mask
  ly : ∀ p ∈ L, Ly h p
  plain : t.plain = true
  led : w.params.followText "set-order" = true ∨ t.led = true
  room : L.length * 5 < t.mask * 3
  few : L.length ≤ 300
variable {a : Addr} {L : List Ky} {es : Array (Int × Value)} {ep : Nat} {t : SetTable}
theorem Set.size (R : Set w s.heap a L es ep t) : es.size = L.length := by
  rw [← Array.length_toList, R.rw_]; simp [rows]
theorem fits_of (hdm : t.dummies = #[]) (hs : t.place.size = es.size) (hf : es.size ≤ t.mask) : t.fits es.size = true := by
  unfold SetTable.fits SetTable.fill
  rw [hdm, Bool.and_eq_true, beq_iff_eq, decide_eq_true_eq]
  show t.place.size = es.size ∧ t.place.size + 0 ≤ t.mask
  omega
theorem Set.fits (R : Set w s.heap a L es ep t) : t.fits es.size = true := fits_of R.dm (by rw [R.size, R.sz]) (by have := R.size; have := R.room; omega)
theorem Set.entry (R : Set w s.heap a L es ep t) {i : Nat} {p : Ky} (h : L[i]? = some p) : es[i]? = some (p.2.hash w, Value.ref p.1) := by
  rw [← Array.getElem?_toList, R.rw_, rows, List.getElem?_map, h]; rfl
theorem Set.gw (R : Set w s.heap a L es ep t) : ¬ t.gaveWay = true := by
  unfold SetTable.gaveWay
  rw [mk_odd R.mok]
  decide
theorem nth_dm {m : Nat} : ∀ (n : Nat) {p : SetTable.Probe}, p.dummy = none → (nth m p n).dummy = none
  | 0, _, h => h
  | n + 1, p, h => nth_dm n (p := adv m p) (by unfold adv; split <;> exact h)
/-- what isn't there is sought to the first free place -/
theorem seek (R : Set w s.heap a L es ep t) {p : Ky} (hp : Ly s.heap p) (hu : A.units + 8 < cLine) (hk : p.2 ∉ L.map (·.2)) {K : Nat} (hKf : K < 10 * SetTable.turns t.mask) (hK : way t.mask (p.2.hash w) K ∉ t.place.toList) (hKb : ∀ c, c < K → way t.mask (p.2.hash w) c ∈ t.place.toList)
    {Q : SetFound → Shared → Prop} (hQ : Q (.free (way t.mask (p.2.hash w) K) false) s) :
    ∀ (f c : Nat) (stand : Option SetTable.Probe), stand.getD (t.probeStart (p.2.hash w)) = nth t.mask (runAt t.mask (SetTable.bits (p.2.hash w) % (t.mask + 1)) (SetTable.bits (p.2.hash w))) c → c ≤ K → K - c < f →
      wpAny (model P w) A (setSearchFrom a (.ref p.1) (p.2.hash w) true f stand) Q E s
  | 0, c, stand, _, _, hf => by omega
  | f + 1, c, stand, hst, hc, hf => by
    obtain ⟨o, ho, hex, hd⟩ := R.ob
    have hway : ∀ k, (nth t.mask (runAt t.mask (SetTable.bits (p.2.hash w) % (t.mask + 1)) (SetTable.bits (p.2.hash w))) k).j = way t.mask (p.2.hash w) k := fun _ => rfl
    have hrun : (runAt t.mask (SetTable.bits (p.2.hash w) % (t.mask + 1)) (SetTable.bits (p.2.hash w))).dummy = none := rfl
    generalize hh : p.2.hash w = hs at *
    generalize hst0 : runAt t.mask (SetTable.bits hs % (t.mask + 1)) (SetTable.bits hs) = st at *
    have sh : ∀ q, nth t.mask (nth t.mask st c) q = nth t.mask st (c + q) := fun q => (nth_add t.mask c st q).symm
    have spec := go_spec t R.ris R.dm (fun i => (es[i]?.map (·.1)).getD 0) hs (10 * SetTable.turns t.mask) (K - c) (nth t.mask st c) (nth_dm c hrun) (by omega)
      (fun q hq => by rw [sh, hway]; exact hKb _ (by omega)) (by rw [sh, show c + (K - c) = K by omega, hway]; exact hK)
    rw [setSearchFrom_succ]
    refine wpAny_bind (wpAny_setState_of ho hd R.fits ?_)
    dsimp only
    refine wp_if_neg R.gw ?_
    try refine wpAny_bind (wpAny_pure ?_)
    rw [hst]
    rcases spec with ⟨q, i, hq, hi, _, _, hpr⟩ | ⟨_, hpr⟩
    · have hpr' : t.probe (fun i => (es[i]?.map (·.1)).getD 0) hs (nth t.mask st c) = some (.candidate (nth t.mask (nth t.mask st c) q).j i (nth t.mask (nth t.mask st c) (q + 1))) := hpr
      rw [hpr']
      dsimp only
      have hil : i < L.length := by
        have := (List.getElem?_eq_some_iff.mp hi).1
        rw [Array.length_toList, R.sz] at this; exact this
      have hr : L[i]? = some L[i] := List.getElem?_eq_getElem hil
      generalize L[i] = r at hr
      have hm : r ∈ L := List.mem_of_getElem? hr
      have hne : ¬ r.2 = p.2 := fun e => hk (e ▸ List.mem_map_of_mem hm)
      have tail : wpAny (model P w) A (searchRest a (.ref p.1) hs true f es t (nth t.mask (nth t.mask st c) q).j i (nth t.mask (nth t.mask st c) (q + 1))) Q E s := by
        unfold searchRest
        rw [R.entry hr]
        dsimp only
        refine wpAny_bind (wpAny_holding ((nestedKind P w).eqBool (x := r.2) (y := p.2) hu ⟨(R.ly r hm).1, (R.ly r hm).2.1⟩ ⟨hp.1, hp.2.1⟩ ?_))
        refine wpAny_bind (wpAny_setState_of ho hd R.fits ?_)
        dsimp only
        refine wp_if_neg (by simp [hne]) ?_
        try refine wpAny_bind (wpAny_pure ?_)
        rw [sameMem]
        dsimp only
        have hsl : t.slot (nth t.mask (nth t.mask st c) q).j = .live i := slot_live R.ris hi
        simp only [if_true, hsl, R.entry hr]
        refine wpAny_bind (wpAny_isSame_ref_self (wpAny_bind (wpAny_pure ?_)))
        simp only [if_true]
        refine wp_if_neg (by simp [hne]) ?_
        subst hh
        refine seek R hp hu hk hKf hK hKb hQ f (c + (q + 1)) _ ?_ (by omega) (by omega)
        rw [hst0, ← sh]; rfl
      by_cases hl : t.led = true
      · refine wp_if_neg (by simp [hl]) ?_
        try refine wpAny_bind (wpAny_pure ?_)
        exact tail
      · refine wp_if_pos (by simp [hl]) ?_
        refine wpAny_bind (unseen hp (fun y hy => ?_) ?_)
        · obtain ⟨e, he, rfl⟩ := List.mem_map.mp hy
          have he2 : e ∈ es.toList := by
            have : e ∈ es ∧ e.1 = hs := by simpa using he
            simpa using this.1
          rw [R.rw_] at he2
          obtain ⟨q2, hq2, rfl⟩ := List.mem_map.mp he2
          exact ⟨q2, rfl, R.ly q2 hq2⟩
        · refine wp_if_neg (by decide) ?_
          try refine wpAny_bind (wpAny_pure ?_)
          exact tail
    · have hpr' : t.probe (fun i => (es[i]?.map (·.1)).getD 0) hs (nth t.mask st c) = some (.empty (way t.mask hs K) none) := by
        have e2 : way t.mask hs K = (nth t.mask (nth t.mask st c) (K - c)).j := by rw [sh, show c + (K - c) = K by omega, hway]
        rw [e2]; exact hpr
      rw [hpr']
      dsimp only
      exact wpAny_pure hQ
theorem seek_at (R : Set w s.heap a L es ep t) {p : Ky} (hp : Ly s.heap p) (hu : A.units + 8 < cLine) (hk : p.2 ∉ L.map (·.2)) {Q : SetFound → Shared → Prop} (hQ : ∀ j, j ∉ t.place.toList → Q (.free j false) s) : wpAny (model P w) A (setSearch a (.ref p.1) (p.2.hash w) true) Q E s := by
  have hr := R.room
  have hm := mk_le R.mok
  obtain ⟨K, h1, h2, h3⟩ := first_free R.mok (l := t.place.toList) (by rw [Array.length_toList, R.sz]; omega) (p.2.hash w)
  have hbig : K < 100000 := by unfold SetTable.turns at h1; omega
  unfold setSearch
  exact seek R hp hu hk h1 h2 h3 (hQ _ h2) 100000 0 none rfl (Nat.zero_le _) (by omega)
end
end Kw.NS
namespace Kw.NS
open PySem PySem.Spec PySem.Calls PyProof.Rows L2
section
variable {P : Program} {w : World} {A : Around} {E : Value → Shared → Prop} {s : Shared}
theorem Ly.same {h h' : Heap} {p : Ky} {a : Addr} {o : Obj} {es : Array (Int × Value)} {ep : Nat} {t : SetTable} (x : Ly h p) (ho : h.get? a = some o) (hd : o.data = .set es ep t) (hs : Heap.SameBut a h h') : Ly h' p :=
  ⟨NestedIs.at (fun b ob vs n hb hc => by
    refine (hs.2 b fun e => ?_).trans hb
    subst e
    rw [ho] at hb
    cases hb
    rw [hd] at hc
    cases hc) _ _ x.1, x.2⟩
theorem Ly.keep {h h' : Heap} {p : Ky} (x : Ly h p) (hk : ∀ b o, h.get? b = some o → h'.get? b = some o) : Ly h' p := ⟨NestedIs.at (fun b ob _ _ hb _ => hk b ob hb) _ _ x.1, x.2⟩
theorem pick_perm {α : Type} (L : List α) {l : List Nat} (h : l.Perm (List.range L.length)) : (l.filterMap fun i => L[i]?).Perm L := by
  have key : ∀ n, n ≤ L.length → (List.range n).filterMap (fun i => L[i]?) = L.take n := by
    intro n
    induction n with
    | zero => intro _; rfl
    | succ n ih =>
      intro hn
      rw [List.range_succ, List.filterMap_append, ih (by omega), List.take_succ, List.getElem?_eq_getElem (show n < L.length from hn)]
      simp [List.getElem?_eq_getElem (show n < L.length from hn)]
  have := h.filterMap fun i => L[i]?
  rwa [key _ (Nat.le_refl _), List.take_length] at this
theorem pick_rows {w : World} {L : List Ky} {es : Array (Int × Value)} (hr : es.toList = rows w L) : ∀ l : List Nat, l.filterMap (fun i => es[i]?) = rows w (l.filterMap fun i => L[i]?)
  | [] => rfl
  | i :: l => by
    have ih := pick_rows hr l
    have e : es[i]? = (L[i]?).map fun p => (p.2.hash w, Value.ref p.1) := by rw [← Array.getElem?_toList, hr, rows, List.getElem?_map]
    cases h : L[i]? with
    | none => rw [h] at e; rw [List.filterMap_cons_none e, List.filterMap_cons_none h, ih]
    | some p => rw [h] at e; rw [List.filterMap_cons_some e, List.filterMap_cons_some h, ih]; rfl
variable {a : Addr} {L : List Ky} {es : Array (Int × Value)} {ep : Nat} {t : SetTable}
/-- what is asked of a set that may be full -/
structure Full (w : World) (h : Heap) (a : Addr) (L : List Ky) (es : Array (Int × Value)) (ep : Nat) (t : SetTable) : Prop where
  ob : ∃ o, h.get? a = some o ∧ o.ExactSet ∧ o.data = .set es ep t
  rw_ : es.toList = rows w L
  ris : Ris t.place.toList
  dm : t.dummies = #[]
  sz : t.place.size = L.length
  mok : Mk t.mask
  ly : ∀ p ∈ L, Ly h p
  plain : t.plain = true
  led : w.params.followText "set-order" = true ∨ t.led = true
  fill : L.length ≤ t.mask
  few : L.length ≤ 300
theorem Full.set (R : Full w s.heap a L es ep t) (h : L.length * 5 < t.mask * 3) : Set w s.heap a L es ep t := ⟨R.ob, R.rw_, R.ris, R.dm, R.sz, R.mok, R.ly, R.plain, R.led, h, R.few⟩
theorem larger (R : Full w s.heap a L es ep t) {q M : Nat} (hw : SetTable.sizeAbove q - 1 = M) (hM : Mk M) (hw2 : SetTable.sizeAbove q ≤ 512) (hn : L.length * 5 < M * 3) {Q : Unit → Shared → Prop}
    (hQ : ∀ h' L' es' ep' t', Heap.SameBut a s.heap h' → Set w h' a L' es' ep' t' → L'.Perm L → Q () { s with heap := h' }) : wpAny (model P w) A (setRelay a q) Q E s := by
  obtain ⟨o, ho, hex, hd⟩ := R.ob
  have hsl : es.size = L.length := by rw [← Array.length_toList, R.rw_]; simp [rows]
  have few := R.few
  obtain ⟨t', order, e, hp, a1, a2, a3, a4, a5, a6⟩ := anew t (hs := es.map (·.1)) hw hM (by rw [Array.size_map, hsl]; omega)
  rw [Array.size_map, hsl] at hp a3
  have r1 : (order.filterMap (es[·]?)).toList = rows w (order.toList.filterMap fun i => L[i]?) := by
    rw [Array.toList_filterMap]; exact pick_rows R.rw_ _
  have r2 := pick_perm L hp
  generalize order.toList.filterMap (fun i => L[i]?) = L2 at r1 r2
  have hs2 : (order.filterMap (es[·]?)).size = es.size := by rw [← Array.length_toList, r1, hsl, ← r2.length_eq]; simp [rows]
  rw [setRelay_eq]
  refine wpAny_bind (wpAny_setState_of ho hd (fits_of R.dm (by rw [hsl, R.sz]) (by rw [hsl]; exact R.fill)) ?_)
  dsimp only
  refine wp_if_neg (by rw [sizeLine_eq]; omega) ?_
  try refine wpAny_bind (wpAny_pure ?_)
  rw [e]
  dsimp only
  refine wpAny_bind ?_
  refine wp_if_neg (by rw [hs2]; simp) ?_
  try refine wpAny_bind (wpAny_pure ?_)
  refine wpAny_pure ?_
  dsimp only
  refine wpAny_storeSet_of ho hd ?_ (by rw [hs2, hsl, sizeLine_eq]; omega)
  have sb : Heap.SameBut a s.heap (s.heap.update a (Obj.putSet (order.filterMap (es[·]?)) t')) := Heap.SameBut.update ..
  refine hQ _ L2 _ (ep + 1) t' sb ⟨⟨_, store_at ho hd, ⟨hex.1, hex.2.1, hex.2.2⟩, rfl⟩, r1, a1, a2, by rw [a3, r2.length_eq], by rw [a4]; exact hM, fun p hpm => (R.ly p (r2.mem_iff.mp hpm)).same ho hd sb, by rw [a6]; exact R.plain, by rw [a5]; exact R.led, by rw [r2.length_eq, a4]; exact hn, by rw [r2.length_eq]; exact few⟩ r2
theorem size_308 : SetTable.sizeAbove (SetTable.grown 77) = 512 := by decide +kernel
/-- one more -/
theorem add_new (R : Set w s.heap a L es ep t) {p : Ky} (hp : Ly s.heap p) (hu : A.units + 8 < cLine) (hk : p.2 ∉ L.map (·.2)) (hfew : L.length + 1 ≤ 300) {Q : Bool → Shared → Prop}
    (hQ : ∀ h' L' es' ep' t', Heap.SameBut a s.heap h' → Set w h' a L' es' ep' t' → L'.Perm (p :: L) → Q true { s with heap := h' }) :
    wpAny (model P w) A (setAddHashed a (.ref p.1) (p.2.hash w)) Q E s := by
  obtain ⟨o, ho, hex, hd⟩ := R.ob
  have hsl := R.size
  have hroom := R.room
  have hm := mk_le R.mok
  unfold setAddHashed
  refine wpAny_holding ?_
  rw [show (100000 : Nat) = 99999 + 1 from rfl, setAddHashedIn_succ]
  refine wpAny_bind (wpAny_setState_of ho hd R.fits ?_)
  dsimp only
  refine wp_if_neg (by simp [byScan, Value.scannable]) ?_
  try refine wpAny_bind (wpAny_pure ?_)
  refine wpAny_bind (seek_at R hp hu hk fun j hj => ?_)
  dsimp only
  refine wpAny_bind (wpAny_setState_of ho hd R.fits ?_)
  dsimp only
  obtain ⟨q1, q2, q3, q4, q5, q6, q7⟩ := put_in R.ris R.dm hj
  have hp1 : (t.put j).1.plain = true := by rw [q6]; exact R.plain
  generalize hpt : t.put j = pt at q1 q2 q3 q4 q5 q6 q7 hp1 ⊢
  obtain ⟨t1, i⟩ := pt
  have hi : SetTable.below t.place j = i := congrArg Prod.snd hpt
  dsimp only at q1 q2 q3 q4 q5 q6 q7 hp1 ⊢
  first
    | (refine wpAny_bind ?_; refine wp_if_pos hp1 ?_; refine hby_key _ _ 8 _ hp.1 hp.2.1 hp.2.2 _ _ _ ?_)
    | refine wp_if_pos hp1 (wpAny_bind (hby_key _ _ 8 _ hp.1 hp.2.1 hp.2.2 _ _ _ ?_))
  simp only [if_true]
  have hin : (SetTable.insertAt es i (p.2.hash w, Value.ref p.1)).toList = rows w (L.take i ++ p :: L.drop i) := by
    rw [SetTable.toList_insertAt, R.rw_]
    simp [rows, List.map_take, List.map_drop]
  have pm := put_perm L i p
  generalize L.take i ++ p :: L.drop i = L1 at pm hin
  have hlen : L1.length = L.length + 1 := pm.length_eq
  have hes : (SetTable.insertAt es i (p.2.hash w, Value.ref p.1)).size = L.length + 1 := by rw [← Array.length_toList, hin, ← hlen]; simp [rows]
  generalize SetTable.insertAt es i (p.2.hash w, Value.ref p.1) = es1 at hin hes ⊢
  refine wpAny_bind (wpAny_storeSet_of ho hd ?_ (by rw [hes, sizeLine_eq]; omega))
  have sb : Heap.SameBut a s.heap (s.heap.update a (Obj.putSet es1 t1)) := Heap.SameBut.update ..
  have ho1 := store_at (es' := es1) (t' := t1) ho hd
  generalize s.heap.update a (Obj.putSet es1 t1) = h1 at sb ho1 ⊢
  have F1 : Full w h1 a L1 es1 (ep + 1) t1 := ⟨⟨_, ho1, ⟨hex.1, hex.2.1, hex.2.2⟩, rfl⟩, hin, q1, q2, by rw [q3, hlen, R.sz], by rw [q4]; exact R.mok, fun r hr => by
    rcases List.mem_cons.mp (pm.mem_iff.mp hr) with e | hr
    · rw [e]; exact hp.same ho hd sb
    · exact (R.ly r hr).same ho hd sb, hp1, by rw [q5]; exact R.led, by rw [hlen, q4]; omega, by omega⟩
  have hfl : t1.fill = L.length + 1 := by
    unfold SetTable.fill
    rw [q2, q3, R.sz]; rfl
  by_cases hf : t1.tooFull = true
  · first
      | (refine wpAny_bind ?_; refine wp_if_pos (by simp [hf]) ?_)
      | (refine wp_if_pos (by simp [hf]) ?_; refine wpAny_bind ?_)
    have hfull : (L.length + 1) * 5 ≥ t.mask * 3 := by
      unfold SetTable.tooFull at hf
      rw [decide_eq_true_eq, hfl, q4] at hf; exact hf
    rw [hsl]
    have go : ∀ M, SetTable.sizeAbove (SetTable.grown (L.length + 1)) - 1 = M → Mk M → SetTable.sizeAbove (SetTable.grown (L.length + 1)) ≤ 512 → (L.length + 1) * 5 < M * 3 →
        wpAny (model P w) A (setRelay a (SetTable.grown (L.length + 1))) (fun _ s' => wpAny (model P w) A (pure true) Q E s') E { s with heap := h1 } := fun M x1 x2 x3 x4 =>
      larger (s := { s with heap := h1 }) F1 x1 x2 x3 (by rw [hlen]; exact x4) fun h2 L2 es2 ep2 t2 sb2 R2 pm2 => wpAny_pure (hQ h2 L2 es2 ep2 t2 (sb.trans sb2) R2 (pm2.trans pm))
    rcases R.mok with (e | e | e) | e <;> rw [e] at hfull hroom
    · have e2 : L.length = 4 := by omega
      exact go 31 (by rw [e2, size_20]) (.inl (.inr (.inl rfl))) (by rw [e2, size_20]; decide) (by omega)
    · have e2 : L.length = 18 := by omega
      exact go 127 (by rw [e2, size_76]) (.inl (.inr (.inr rfl))) (by rw [e2, size_76]; decide) (by omega)
    · have e2 : L.length = 76 := by omega
      exact go 511 (by rw [e2, size_308]) (.inr rfl) (by rw [e2, size_308]; decide) (by omega)
    · omega
  · have hroom1 : L1.length * 5 < t1.mask * 3 := by
      unfold SetTable.tooFull at hf
      rw [decide_eq_true_eq, hfl] at hf
      rw [hlen]; omega
    first
      | refine wp_if_neg (by simp [hf]) ?_
      | (refine wpAny_bind ?_; refine wp_if_neg (by simp [hf]) ?_; refine wpAny_pure ?_)
    exact wpAny_pure (hQ h1 L1 es1 (ep + 1) t1 sb (Full.set (s := { s with heap := h1 }) F1 hroom1) pm)
theorem Set.keep {h h' : Heap} (R : Set w h a L es ep t) (ha : ∀ o, h.get? a = some o → h'.get? a = some o) (ht : ∀ p ∈ L, Ly h' p) : Set w h' a L es ep t := by
  obtain ⟨o, ho, r⟩ := R.ob
  exact ⟨⟨o, ha o ho, r⟩, R.rw_, R.ris, R.dm, R.sz, R.mok, ht, R.plain, R.led, R.room, R.few⟩
theorem set_new {h : Heap} {a : Addr} (ho : h.get? a = some { cls := .type "set", dict := none, data := .set #[] 0 (.fresh 0 0 (!w.params.followText "set-order")) }) : Set w h a [] #[] 0 (.fresh 0 0 (!w.params.followText "set-order")) :=
  ⟨⟨_, ho, ⟨rfl, rfl, rfl⟩, rfl⟩, rfl, List.Pairwise.nil, rfl, rfl, .inl (.inl rfl), (fun p hp => nomatch hp), rfl, by
    show _ ∨ (!w.params.followText "set-order") = true
    cases w.params.followText "set-order" <;> simp, by show 0 * 5 < 7 * 3; omega, by simp⟩
/-- the loop of set(xs) -/
theorem fill_set {I : Addr} {fp wr : List Addr} {G : Array GenState → Array GenState → Prop} {n : Nat} {Pv : Nat → Value → Prop} {St : Nat → Shared → Prop} {R : Result → Shared → Prop}
    (W : WalksS P w A.in1 I fp wr G n Pv St) (S : Addr) (hSf : S ∉ fp) (ks : List Ky) (hn : n = ks.length) (hfew : ks.length ≤ 300) (hnd : (ks.map (·.2)).Nodup) (hval : ∀ i v, Pv i v → ∃ p, ks[i]? = some p ∧ v = .ref p.1)
    (h0 : Heap) (hk : ∀ p ∈ ks, Ly h0 p) (hS0 : h0.get? S = none) (hw0 : ∀ b ∈ wr, h0.get? b = none) (hu : A.in1.units + 8 < cLine) :
    ∀ (k i : Nat) (s : Shared), n - i = k → i ≤ n → St i s → (∀ b o, h0.get? b = some o → s.heap.get? b = some o) → (∃ L es ep t, Set w s.heap S L es ep t ∧ L.Perm (ks.take i)) →
      (∀ s' L es ep t, Moved (S :: wr) G s s' → Set w s'.heap S L es ep t → L.Perm ks → (∀ b o, h0.get? b = some o → s'.heap.get? b = some o) → R (.ok (.ret .none)) s') →
      codeAny (model P w) A (.builtin "set.update.loop" ⟨[.ref S, .ref I], []⟩) R s := by
  have hSw : S ∉ wr := fun h => hSf (W.sub _ h)
  have hsub : ∀ b ∈ wr, b ∈ S :: wr := fun b hb => List.mem_cons_of_mem _ hb
  have keepM : ∀ {s s' : Shared}, Moved wr G s s' → (∀ b o, h0.get? b = some o → s.heap.get? b = some o) → ∀ b o, h0.get? b = some o → s'.heap.get? b = some o := fun hm hkp b o e =>
    hm.heap b o (fun hb => by rw [hw0 b hb] at e; cases e) (hkp b o e)
  intro k
  induction k with
  | zero =>
    intro i s hk' hi hst hkp ⟨L, es, ep, t, hS, g⟩ hR
    have hin : i = n := by omega
    subst hin
    rw [hn, List.take_length] at g
    refine codeAny_builtin F.entry_set_update_loop ?_
    rw [Around.under_plainId F.plain_set_update_loop _]
    show wpAny _ A.in1 (pyNext (.ref I) >>= _) _ _ s
    refine wpAny_bind (W.done s _ _ hst fun s' hm => ?_)
    show wpAny _ A.in1 (ret Value.none) _ _ s'
    have hkp' := keepM hm hkp
    exact wpAny_pure (hR s' L es ep t (hm.mono hsub) (hS.keep (fun o e => hm.heap S o hSw e) fun p hp => (hk p (g.mem_iff.mp hp)).keep hkp') g hkp')
  | succ k ih =>
    intro i s hk' hi hst hkp ⟨L, es, ep, t, hS, g⟩ hR
    have hlt : i < n := by omega
    refine codeAny_builtin F.entry_set_update_loop ?_
    rw [Around.under_plainId F.plain_set_update_loop _]
    show wpAny _ A.in1 (pyNext (.ref I) >>= _) _ _ s
    refine wpAny_bind (W.item i s _ _ hlt hst fun v s' hP hst' hm => ?_)
    obtain ⟨p, hp, rfl⟩ := hval i v hP
    have hkp' := keepM hm hkp
    have hS' : Set w s'.heap S L es ep t := hS.keep (fun o e => hm.heap S o hSw e) fun q hq => (hk q (List.mem_of_mem_take (g.mem_iff.mp hq))).keep hkp'
    have hx : Ly s'.heap p := (hk p (List.mem_of_getElem? hp)).keep hkp'
    have tn : ks.take (i + 1) = ks.take i ++ [p] := by rw [List.take_succ, hp]; rfl
    have hnew : p.2 ∉ L.map (·.2) := fun hmem => by
      have hmem' := (g.map (·.2)).mem_iff.mp hmem
      have nd1 : ((ks.take (i + 1)).map (·.2)).Nodup := (List.take_sublist (i + 1) ks).map _ |>.nodup hnd
      rw [tn, List.map_append] at nd1
      exact (List.nodup_append.mp nd1).2.2 _ hmem' _ (by simp) rfl
    have hll : L.length = i := by rw [g.length_eq, List.length_take]; omega
    show wpAny _ A.in1 (holding [Value.ref p.1] (setAdd S (.ref p.1)) >>= _) _ _ s'
    refine wpAny_bind (wpAny_holding ?_)
    unfold setAdd
    refine wpAny_holding ?_
    refine wpAny_bind (pyHash_key (w := w) p.2 _ _ _ _ hx.1 (by have := hx.2.1; show A.in1.units + p.2.depth < cLine; omega) ?_)
    refine add_new (s := { s' with toks := s'.toks + p.2.draws }) hS' hx (by exact hu) hnew (by omega) fun h' L' es' ep' t' hsb hS2 pm => ?_
    have g' : L'.Perm (ks.take (i + 1)) := by
      rw [tn]
      exact pm.trans ((g.cons p).trans (List.perm_append_singleton p _).symm)
    obtain ⟨oS, hoS, _, hdS⟩ := hS'.ob
    have hkp2 : ∀ b o, h0.get? b = some o → h'.get? b = some o := fun b o e => (hsb.2 b (fun z => by rw [z, hS0] at e; cases e)).trans (hkp' b o e)
    refine wpAny_pure ⟨plainId_quiet F.plain_set_update_loop _, ih (i + 1) _ (by omega) hlt (W.frame _ s' _ _ hst' (Nat.le_add_right _ _) fun b hb o e => ?_) hkp2 ⟨L', es', ep', t', hS2, g'⟩ fun s'' L2 es2 ep2 t2 hm'' hS'' g'' hkp'' => ?_⟩
    · rw [hsb.2 b (fun h : b = S => hSf (by rw [← h]; exact hb))]; exact e
    · refine hR s'' L2 es2 ep2 t2 (Moved.trans W.gtrans ((hm.mono hsub).then_heap (Nat.le_add_right _ _) fun b o hb e => ?_) hm'') hS'' g'' hkp''
      rw [hsb.2 b (fun h : b = S => hb (by rw [h]; exact List.mem_cons_self))]; exact e
end
end Kw.NS
namespace Kw
open PySem PySem.Spec PySem.Calls PyProof.Rows L2
section
variable {P : Program} {w : World} {A : Around} {E : Value → Shared → Prop} {s : Shared}
set_option maxHeartbeats 6400000 in
/-- set(xs) of a list of tuples, all unlike -/
theorem set_keys {a : Addr} {us : Array Value} {ks : List NS.Ky} {Q : Value → Shared → Prop} (calm : A.handled = none) (la : s.heap.IsList a us) (tx : us.toList = ks.map fun p => Value.ref p.1) (hk : ∀ p ∈ ks, NS.Ly s.heap p) (few : ks.length ≤ 300) (nd : (ks.map (·.2)).Nodup) (hu : A.units + 20 < cLine)
    (k : ∀ (h' : Heap) (tk : Nat) L es ep t, NS.Set w h' s.heap.objs.size L es ep t → L.Perm ks → (∀ b o, b < s.heap.objs.size → s.heap.get? b = some o → h'.get? b = some o) → Q (.ref s.heap.objs.size) { s with heap := h', toks := tk }) :
    wpAny (model P w) A (call (.type "set") [.ref a]) Q E s := by
  have fm := PySem.F.called_set.made
  have fs := PySem.F.called_set.sub
  have f1 := PySem.F.called_set.notType
  have f2 := PySem.F.called_set.canCreate
  have f3 := PySem.F.typeCall_set_1 (.ref a)
  have f4 := PySem.F.called_set.init.lookup
  obtain ⟨mc, mt, fmro⟩ := PySem.F.called_set.mro
  refine wpAny_call (codeAny_of_tree ?_)
  refine (show wpAny _ _ (callAny (.type "set") _) _ _ _ from wpAny_pure ⟨Code.quiet_builtin _ (by decide +kernel), codeAny_builtin PySem.F.entry_type_call ?_⟩)
  rw [Around.under_plain (weight_type_call_type "set" [.ref a] []) rfl]
  repeat (any_goals (first | assumption | wp_step))
  refine codeAny_mono (code_set_led1 (.ref a) (E := E) (Q₁ := fun v t => v = .ref s.heap.objs.size ∧ t = { s with heap := s.heap.push (newSet (!w.params.followText "set-order")) }) ⟨rfl, rfl⟩) fun r t hr => ?_
  match r, hr with
  | .error e, hr => exact hr
  | .ok .next, hr => exact hr.elim
  | .ok .brk, hr => exact hr.elim
  | .ok .cont, hr => exact hr.elim
  | .ok (.ret v), hr =>
    obtain ⟨rfl, rfl⟩ := hr
    generalize hb : (!w.params.followText "set-order") = b
    have at0 : (s.heap.push (newSet b)).get? s.heap.objs.size = some (newSet b) := Heap.get?_push_size _ rfl
    have ty0 : Shared.TypeIs { s with heap := s.heap.push (newSet b) } (.ref s.heap.objs.size) "set" := ⟨_, at0, rfl⟩
    have f5 := PySem.F.called_set.init.bind (.ref s.heap.objs.size)
    repeat (any_goals (first | assumption | wp_step))
    refine codeAny_mono (codeAny_call_builtin (R := wants (fun v t => v = .none ∧ ∃ h' tk L es ep tb, t = { s with heap := h', toks := tk } ∧ NS.Set w h' s.heap.objs.size L es ep tb ∧ L.Perm ks ∧
      (∀ b o, b < s.heap.objs.size → s.heap.get? b = some o → h'.get? b = some o)) E) PySem.F.called_set.init.plain PySem.F.entry_set_init (check_set_init_1 ty0 ?_)) fun r t hr => ?_
    · obtain ⟨⟨oc, od, ox, os⟩, oat, ocl, on, oda⟩ := la
      simp only at ocl oda
      subst ocl; subst oda
      have oat1 : (s.heap.push (newSet b)).get? a = some { cls := .type "list", dict := od, data := .seq us on, slots := os } := Heap.get?_push_of_some _ oat
      have la1 : (s.heap.push (newSet b)).IsList a us := ⟨_, oat1, rfl, on, rfl⟩
      have g1 := PySem.F.sub_list_set
      have g2 := PySem.F.sub_list_frozenset
      have g3 : (Value.type "list" == Value.type "dict") = false := by decide
      unfold Builtin.«set.__init__» noKeywords Builtin.Frozenset.updateFrom
      generalize hp : pyIter = walkOf
      wp_walk
      subst hp
      refine wpAny_pyIter_list la1 ?_
      refine wpAny_bind (wpAny_runValue ?_)
      have a_lt : a < s.heap.objs.size := Heap.lt_size oat
      have sz1 : (s.heap.push (newSet b)).objs.size = s.heap.objs.size + 1 := Heap.size_push _ _
      have calm3 : A.in1.in1.in1.handled = none := by simp [calm]
      have ne1 : a ≠ (s.heap.push (newSet b)).objs.size := by rw [sz1]; exact Nat.ne_of_lt (Nat.lt_succ_of_lt a_lt)
      have off : s.heap.objs.size ∉ [(s.heap.push (newSet b)).objs.size, a] := by
        rw [sz1]; simp only [List.mem_cons, List.not_mem_nil, or_false, not_or]; exact ⟨Nat.ne_of_lt (Nat.lt_succ_self _), Nat.ne_of_gt a_lt⟩
      have nx : us.size = ks.length := by rw [← Array.length_toList, tx, List.length_map]
      have gone : ∀ b, s.heap.objs.size ≤ b → s.heap.get? b = none := fun b hb => by
        cases q : s.heap.get? b with
        | none => rfl
        | some o => exact absurd (Heap.lt_size q) (Nat.not_lt.mpr hb)
      refine NS.fill_set ((Walks.list calm3 _ a ne1 us).toS) s.heap.objs.size off ks nx few nd (fun i v e => ?_) s.heap hk (gone _ (Nat.le_refl _)) (fun b hb => gone b ?_) ?_ us.size 0 _ (by omega) (by omega) ⟨⟨_, Heap.get?_push_size _ rfl, rfl, rfl⟩, la1.push _⟩ (fun b o e => Heap.get?_push_of_some _ (Heap.get?_push_of_some _ e)) ?start ?finish
      · have e' : us.toList[i]? = some v := by rw [Array.getElem?_toList]; exact e
        rw [tx, List.getElem?_map, Option.map_eq_some_iff] at e'
        obtain ⟨p, hp, rfl⟩ := e'
        exact ⟨p, hp, rfl⟩
      · rw [List.mem_singleton.mp hb, sz1]; exact Nat.le_succ _
      · simp only [Around.in1_units]; omega
      case start =>
        have at1 : ((s.heap.push (newSet b)).push { cls := .type "list_iterator", data := .fields #[.ref a, .int 0 0] }).get? s.heap.objs.size = some (newSet b) := Heap.get?_push_of_some _ at0
        rw [← hb] at at1 ⊢
        exact ⟨[], #[], 0, _, NS.set_new at1, .nil⟩
      case finish =>
        intro t L es ep tb mv hset pm keep
        obtain ⟨h', g', d', tk', os'⟩ := t
        have q1 : g' = s.gens := mv.gens
        have q2 : d' = s.drawn := mv.drawn
        have q3 : os' = s.os := mv.os
        subst q1 q2 q3
        exact (show wpAny _ _ _ _ _ _ from wpAny_pure (show wpAny _ _ (ret Value.none) _ _ _ from wpAny_pure ⟨rfl, h', tk', L, es, ep, tb, rfl, hset, pm, fun c o _ e => keep c o e⟩))
    · match r, hr with
      | .error e, hr => exact hr
      | .ok .next, hr => exact hr.elim
      | .ok .brk, hr => exact hr.elim
      | .ok .cont, hr => exact hr.elim
      | .ok (.ret v), hr =>
        obtain ⟨rfl, h', tk, L, es, ep, tb, rfl, hset, pm, keep⟩ := hr
        repeat (any_goals (first | assumption | wp_step))
        exact k h' tk L es ep tb hset pm keep
end
/-- tuples without texts, not too deep -/
def goodK (k : NestedKey) : Bool := isTupK k && decide (k.depth ≤ 8) && NS.noT k
theorem keysOf_num : ∀ {ds : List D} {ks : List NestedKey}, keysOf ds = some ks → ks.all isNumK = true → ds = (ks.map numK).map .int
  | [], ks, e, _ => by simp only [keysOf, Option.some.injEq] at e; subst e; rfl
  | d :: ds, ks, e, h => by
    simp only [keysOf] at e
    split at e
    · rename_i k r h1 h2
      cases e
      simp only [List.all_cons, Bool.and_eq_true] at h
      rw [List.map_cons, List.map_cons, ← keysOf_num h2 h.2]
      cases d <;> simp only [keyOf] at h1 <;> first | (cases h1; done) | skip
      · cases h1; simp [isNumK] at h
      · cases h1; rfl
      · cases h1; simp [isNumK] at h
      · rw [Option.map_eq_some_iff] at h1
        obtain ⟨_, _, rfl⟩ := h1
        simp [isNumK] at h
    · cases e
theorem rp_ints {K : PySem.W.Frag} {mg : Str → Option Value} {w : Wd} {H : Hp} : ∀ {is : List Int} {vs : List V}, RpL K mg w H (is.map .int) vs → vs = is.map V.int
  | [], vs, r => by rw [List.map_nil] at r; unfold RpL at r; rw [r]; rfl
  | i :: is, vs, r => by
    rw [List.map_cons] at r
    unfold RpL at r
    obtain ⟨v, r', e, r1, r2⟩ := r
    unfold Rp at r1
    rw [e, r1, rp_ints r2]; rfl
theorem vals_ints : ∀ {is : List Int} {us : List Value}, Vals (is.map V.int) us → IntsAre us is
  | [], us, r => by rw [List.map_nil] at r; cases r; exact .nil
  | i :: is, us, r => by
    rw [List.map_cons] at r
    cases r with
    | cons h t =>
      obtain ⟨tk, rfl⟩ := h
      exact .cons i tk (vals_ints t)
theorem keys_refs {h : Heap} : ∀ {ks : List NestedKey} {us : List Value}, NestedAll h ks us → ks.all goodK = true → us = ((us.map vad).zip ks).map (fun p => Value.ref p.1) ∧ ((us.map vad).zip ks).map (·.2) = ks ∧ ∀ p ∈ (us.map vad).zip ks, NS.Ly h p
  | [], us, n, _ => by cases n; exact ⟨rfl, rfl, fun p hp => by simp at hp⟩
  | k :: ks, us, n, g => by
    cases n with
    | @cons _ u _ us n1 n2 =>
      simp only [List.all_cons, Bool.and_eq_true] at g
      obtain ⟨i1, i2, i3⟩ := keys_refs n2 g.2
      have g1 := g.1
      simp only [goodK, Bool.and_eq_true, decide_eq_true_eq] at g1
      have e := tupK_ref n1 g1.1.1
      refine ⟨by simp only [List.map_cons, List.zip_cons_cons]; rw [← i1, ← e], by simp only [List.map_cons, List.zip_cons_cons]; rw [i2], fun p hp => ?_⟩
      simp only [List.map_cons, List.zip_cons_cons] at hp
      rcases List.mem_cons.mp hp with rfl | hp
      · exact ⟨by rw [← e]; exact n1, g1.1.2, g1.2⟩
      · exact i3 p hp
end Kw
namespace Kw
open PySem PySem.Spec PySem.Calls PyProof.Rows L2
theorem ints_nth : ∀ {us : List Value} {ns : List Int}, IntsAre us ns → ∀ (i : Nat) v, us[i]? = some v → ∃ k t, ns[i]? = some k ∧ v = Value.int k t
  | _, _, .nil, i, v, e => by simp at e
  | _, _, .cons k t r, 0, v, e => ⟨k, t, rfl, by simpa using e.symm⟩
  | _, _, .cons k t r, i + 1, v, e => by
    obtain ⟨k', t', h1, h2⟩ := ints_nth r i v (by simpa using e)
    exact ⟨k', t', by simpa using h1, h2⟩
theorem ints_len : ∀ {us : List Value} {ns : List Int}, IntsAre us ns → us.length = ns.length
  | _, _, .nil => rfl
  | _, _, .cons k t r => by simp [ints_len r]
section
variable {P : Program} {w : World} {A : Around} {E : Value → Shared → Prop} {s : Shared}
set_option maxHeartbeats 6400000 in
/-- set(xs) of a list of whole numbers -/
theorem set_whole {a : Addr} {us : Array Value} {ns : List Int} {Q : Value → Shared → Prop} (calm : A.handled = none) (la : s.heap.IsList a us) (tx : IntsAre us.toList ns) (few : ns.length + 1 < scanBound)
    (k : ∀ (h' : Heap) (tk : Nat) c, c ≤ ns.length → SetR w h' s.heap.objs.size (fun j => decide (j ∈ ns)) c → (∀ b o, b < s.heap.objs.size → s.heap.get? b = some o → h'.get? b = some o) → Q (.ref s.heap.objs.size) { s with heap := h', toks := tk }) :
    wpAny (model P w) A (call (.type "set") [.ref a]) Q E s := by
  have fm := PySem.F.called_set.made
  have fs := PySem.F.called_set.sub
  have f1 := PySem.F.called_set.notType
  have f2 := PySem.F.called_set.canCreate
  have f3 := PySem.F.typeCall_set_1 (.ref a)
  have f4 := PySem.F.called_set.init.lookup
  obtain ⟨mc, mt, fmro⟩ := PySem.F.called_set.mro
  refine wpAny_call (codeAny_of_tree ?_)
  refine (show wpAny _ _ (callAny (.type "set") _) _ _ _ from wpAny_pure ⟨Code.quiet_builtin _ (by decide +kernel), codeAny_builtin PySem.F.entry_type_call ?_⟩)
  rw [Around.under_plain (weight_type_call_type "set" [.ref a] []) rfl]
  repeat (any_goals (first | assumption | wp_step))
  refine codeAny_mono (code_set_led1 (.ref a) (E := E) (Q₁ := fun v t => v = .ref s.heap.objs.size ∧ t = { s with heap := s.heap.push (newSet (!w.params.followText "set-order")) }) ⟨rfl, rfl⟩) fun r t hr => ?_
  match r, hr with
  | .error e, hr => exact hr
  | .ok .next, hr => exact hr.elim
  | .ok .brk, hr => exact hr.elim
  | .ok .cont, hr => exact hr.elim
  | .ok (.ret v), hr =>
    obtain ⟨rfl, rfl⟩ := hr
    generalize hb : (!w.params.followText "set-order") = b
    have at0 : (s.heap.push (newSet b)).get? s.heap.objs.size = some (newSet b) := Heap.get?_push_size _ rfl
    have ty0 : Shared.TypeIs { s with heap := s.heap.push (newSet b) } (.ref s.heap.objs.size) "set" := ⟨_, at0, rfl⟩
    have f5 := PySem.F.called_set.init.bind (.ref s.heap.objs.size)
    repeat (any_goals (first | assumption | wp_step))
    refine codeAny_mono (codeAny_call_builtin (R := wants (fun v t => v = .none ∧ ∃ h' tk c, t = { s with heap := h', toks := tk } ∧ c ≤ ns.length ∧ SetR w h' s.heap.objs.size (fun j => decide (j ∈ ns)) c ∧
      (∀ b o, b < s.heap.objs.size → s.heap.get? b = some o → h'.get? b = some o)) E) PySem.F.called_set.init.plain PySem.F.entry_set_init (check_set_init_1 ty0 ?_)) fun r t hr => ?_
    · obtain ⟨⟨oc, od, ox, os⟩, oat, ocl, on, oda⟩ := la
      simp only at ocl oda
      subst ocl; subst oda
      have oat1 : (s.heap.push (newSet b)).get? a = some { cls := .type "list", dict := od, data := .seq us on, slots := os } := Heap.get?_push_of_some _ oat
      have la1 : (s.heap.push (newSet b)).IsList a us := ⟨_, oat1, rfl, on, rfl⟩
      have g1 := PySem.F.sub_list_set
      have g2 := PySem.F.sub_list_frozenset
      have g3 : (Value.type "list" == Value.type "dict") = false := by decide
      unfold Builtin.«set.__init__» noKeywords Builtin.Frozenset.updateFrom
      generalize hp : pyIter = walkOf
      wp_walk
      subst hp
      refine wpAny_pyIter_list la1 ?_
      refine wpAny_bind (wpAny_runValue ?_)
      have a_lt : a < s.heap.objs.size := Heap.lt_size oat
      have sz1 : (s.heap.push (newSet b)).objs.size = s.heap.objs.size + 1 := Heap.size_push _ _
      have calm3 : A.in1.in1.in1.handled = none := by simp [calm]
      have ne1 : a ≠ (s.heap.push (newSet b)).objs.size := by rw [sz1]; exact Nat.ne_of_lt (Nat.lt_succ_of_lt a_lt)
      have off : s.heap.objs.size ∉ [(s.heap.push (newSet b)).objs.size, a] := by
        rw [sz1]; simp only [List.mem_cons, List.not_mem_nil, or_false, not_or]; exact ⟨Nat.ne_of_lt (Nat.lt_succ_self _), Nat.ne_of_gt a_lt⟩
      have nx : us.size = ns.length := by
        have := ints_len tx
        rw [Array.length_toList] at this; exact this
      have at1 : ((s.heap.push (newSet b)).push { cls := .type "list_iterator", data := .fields #[.ref a, .int 0 0] }).get? s.heap.objs.size = some (newSet b) := Heap.get?_push_of_some _ at0
      refine set_update_ints ((Walks.list calm3 _ a ne1 us).toS) s.heap.objs.size off ns nx few (fun i v e => ?_) us.size 0 _ (by omega) (by omega) ⟨⟨_, Heap.get?_push_size _ rfl, rfl, rfl⟩, la1.push _⟩ ⟨0, Nat.le_refl _, ?start⟩ ?finish
      · have e' : us.toList[i]? = some v := by rw [Array.getElem?_toList]; exact e
        exact ints_nth tx i v e'
      case start =>
        rw [← hb] at at1 ⊢
        exact setR_new_at at1
      case finish =>
        intro t c mv hc hset
        obtain ⟨h', g', d', tk', os'⟩ := t
        have q1 : g' = s.gens := mv.gens
        have q2 : d' = s.drawn := mv.drawn
        have q3 : os' = s.os := mv.os
        subst q1 q2 q3
        refine (show wpAny _ _ _ _ _ _ from wpAny_pure (show wpAny _ _ (ret Value.none) _ _ _ from wpAny_pure ⟨rfl, h', tk', c, rfl, by omega, hset, fun d o hd e => ?_⟩))
        refine mv.heap d o ?_ (Heap.get?_push_of_some _ (Heap.get?_push_of_some _ e))
        rw [sz1]; simp only [List.mem_cons, List.not_mem_nil, or_false, not_or]; exact ⟨Nat.ne_of_lt hd, Nat.ne_of_lt (Nat.lt_succ_of_lt hd)⟩
    · match r, hr with
      | .error e, hr => exact hr
      | .ok .next, hr => exact hr.elim
      | .ok .brk, hr => exact hr.elim
      | .ok .cont, hr => exact hr.elim
      | .ok (.ret v), hr =>
        obtain ⟨rfl, h', tk, c, rfl, hc, hset, keep⟩ := hr
        repeat (any_goals (first | assumption | wp_step))
        exact k h' tk c hc hset keep
end
theorem one_sorted {α : Type} {lt : α → α → Bool} : ∀ {l m : List α}, l.Pairwise (fun a b => lt a b = true) → m.Pairwise (fun a b => lt b a = false) → m.Perm l → m = l
  | [], m, _, _, p => p.eq_nil
  | a :: l, [], _, _, p => absurd p.length_eq (by simp)
  | a :: l, b :: m, h1, h2, p => by
    rw [List.pairwise_cons] at h1 h2
    have e : b = a := by
      rcases List.mem_cons.mp (p.mem_iff.mp List.mem_cons_self) with e | hb
      · exact e
      · rcases List.mem_cons.mp (p.mem_iff.mpr List.mem_cons_self) with e | ha
        · exact e.symm
        · have q1 := h1.1 b hb
          have q2 := h2.1 a ha
          rw [q1] at q2; cases q2
    subst e
    rw [one_sorted h1.2 h2.2 (List.Perm.cons_inv p)]
theorem each_perm {α β : Type} {R : α → β → Prop} {us vs : List α} (p : vs.Perm us) : ∀ {bs : List β}, PySem.W.EachIs R us bs → ∃ cs, cs.Perm bs ∧ PySem.W.EachIs R vs cs := by
  induction p with
  | nil => intro bs h; exact ⟨bs, .refl _, h⟩
  | cons x _ ih =>
    intro bs h
    cases h with
    | cons h1 h2 =>
      obtain ⟨cs, q, h3⟩ := ih h2
      exact ⟨_ :: cs, q.cons _, .cons h1 h3⟩
  | swap x y l =>
    intro bs h
    cases h with
    | cons h1 h2 =>
      cases h2 with
      | cons h3 h4 => exact ⟨_, .swap _ _ _, .cons h3 (.cons h1 h4)⟩
  | trans _ _ i1 i2 =>
    intro bs h
    obtain ⟨cs, q1, h1⟩ := i2 h
    obtain ⟨ds, q2, h2⟩ := i1 h1
    exact ⟨ds, q2.trans q1, h2⟩
section
variable {P : Program} {w : World} {A : Around} {E : Value → Shared → Prop} {s : Shared} {β : Type} {vs : List Value} {bs : List β} {enc : β → PyData} {R : Value → β → Prop}
/-- xs.sort(), the things read off the heap while it is sorted -/
theorem sort_made {a : Addr} {n : Nat} {Q : PySem.Fin → Shared → Prop} (ho : s.heap.get? a = some (seqObj "list" vs.toArray n)) (e : PySem.W.EachIs R vs bs) (er : PySem.W.EachIs (fun v b => ∃ as, Reads (PySem.W.sortingHeap s.heap a vs) v (enc b) as) vs bs) (hal : PySem.W.AllAlike (bs.map enc)) (hk : PySem.W.Sortable (bs.map enc) ∨ bs.map enc = [.tuple []]) (hL : bs.length ≤ sizeLine)
    (hu : ∀ b, b ∈ bs → A.units + (enc b).depth < cLine) (h : ∀ out, out.length = bs.length → PySem.W.EachIs R out (bs.mergeSort (PySem.W.dataLe false enc)) → Q (.done (.ret .none)) { s with heap := sortedHeap s.heap a vs (List.toArray out) }) :
    wpAny (model P w) A (Builtin.«list.sort» ⟨[.ref a], []⟩) Q E s := by
  rcases hk with hk | hk
  · refine PySem.W.list_sort_vals (κ := PySem.W.dataKind (PySem.W.sortingHeap s.heap a vs) (bs.map enc)) ho (PySem.W.SortsAt.data (s := { s with heap := PySem.W.sortingHeap s.heap a vs }) (PySem.W.each_map (R := fun v d => ∃ as, Reads (PySem.W.sortingHeap s.heap a vs) v d as) enc er) hal hk (PySem.W.bound_map hu)) (by rw [e.length]; exact hL) ?_
    exact h _ (by rw [PySem.W.sortVals_length false rfl]; exact e.length) (PySem.W.sortVals_data false e er hal)
  · obtain ⟨b, rfl⟩ : ∃ b, bs = [b] := by
      have hl : bs.length = 1 := by simpa using congrArg List.length hk
      exact List.length_eq_one_iff.mp hl
    have hb : enc b = .tuple [] := by simpa using hk
    cases e with
    | cons e1 e2 =>
      cases e2
      cases er with
      | cons r1 r2 =>
        obtain ⟨as, r1⟩ := r1
        rw [hb] at r1
        refine PySem.W.list_sort_vals ho (sorts_none (s := { s with heap := PySem.W.sortingHeap s.heap a _ }) r1 (by have := hu b (by simp); omega)) (by simpa using hL) ?_
        exact h _ (by simp [PySem.W.sortVals]) (by simp [PySem.W.sortVals]; exact .cons e1 .nil)
end
end Kw
namespace Kw
open PySem PySem.Spec PySem.Calls PyProof.Rows L2
section
variable {P : Program} {w : World} {A : Around} {E : Value → Shared → Prop} {s : Shared}
/-- sorted of a set of tuples -/
theorem sorted_keys {β : Type} {a : Addr} {L : List NS.Ky} {es : Array (Int × Value)} {ep : Nat} {t : SetTable} {its : List Value} {bs : List β} {enc : β → PyData} {R : Value → β → Prop} {Q : Value → Shared → Prop} (S : NS.Set w s.heap a L es ep t) (hh : A.handled = none) (pi_ : (L.map fun p => Value.ref p.1).Perm its) (e : PySem.W.EachIs R its bs) (er : PySem.W.EachIs (fun v b => ∃ as, Reads s.heap v (enc b) as) its bs)
    (hal : PySem.W.AllAlike (bs.map enc)) (hk : PySem.W.Sortable (bs.map enc) ∨ bs.map enc = [.tuple []]) (hst : bs.Pairwise fun p q => PySem.W.dataLt (enc p) (enc q) = true) (hu : ∀ b, b ∈ bs → A.units + 2 + (enc b).depth < cLine)
    (hQ : ∀ s' p (out : List Value) (c : Nat), (∀ b o, s.heap.get? b = some o → s'.heap.get? b = some o) → s'.gens = s.gens → s'.os = s.os → s.heap.objs.size ≤ p → s'.heap.get? p = some (seqObj "list" out.toArray c) → PySem.W.EachIs R out bs → Q (.ref p) s') :
    wpAny (model P w) A (call (.builtin "sorted") [.ref a]) Q E s := by
  obtain ⟨o, ho, hex, hd⟩ := S.ob
  have hsz := S.size
  have hfew := S.few
  refine Calls.call_function_entry kind_sorted plain_sorted entry_sorted (args_sorted1 _) ?_
  unfold Builtin.«sorted»
  refine wpAny_bind (m := checkCount "sorted" 1 1 _) (wpAny_pure ?_)
  refine wpAny_bind (collect_set (A := A.in1) hh ⟨o, ho, hex.1, hd⟩ S.fits (by unfold scanBound; omega) S.ris S.led fun s1 vs k1 hz g1 o1 pm => ?_)
  have pv : vs.Perm its := by
    have : es.toList.map (·.2) = L.map fun p => Value.ref p.1 := by rw [S.rw_, NS.rows, List.map_map]; rfl
    rw [this] at pm
    exact pm.trans pi_
  have er1 : PySem.W.EachIs (fun v b => R v b ∧ ∃ as, Reads s.heap v (enc b) as) its bs := by
    clear hQ pi_ hal hk hst hu pv
    induction e with
    | nil => exact .nil
    | cons h1 _ ih =>
      cases er with
      | cons h3 h4 => exact .cons ⟨h1, h3⟩ (ih h4)
  obtain ⟨cs, pc, hcs⟩ := each_perm pv er1
  have al' : PySem.W.AllAlike (cs.map enc) := fun x hx y hy => hal x ((pc.map enc).mem_iff.mp hx) y ((pc.map enc).mem_iff.mp hy)
  have so' : PySem.W.Sortable (cs.map enc) ∨ cs.map enc = [.tuple []] := by
    have mm : ∀ x, x ∈ cs.map enc → x ∈ bs.map enc := fun x hx => (pc.map enc).mem_iff.mp hx
    rcases hk with (h | h) | h
    · exact .inl (.inl fun d hd => h d (mm d hd))
    · exact .inl (.inr fun d hd => h d (mm d hd))
    · have := pc.map enc
      rw [h] at this
      exact .inr (List.perm_singleton.mp this)
  have bl : vs.length = cs.length := hcs.length
  have lcs : cs.length = L.length := by
    rw [pc.length_eq, ← e.length, ← pi_.length_eq, List.length_map]
  have srt : cs.mergeSort (PySem.W.dataLe false enc) = bs := by
    refine one_sorted (lt := fun p q => PySem.W.dataLt (enc p) (enc q)) hst ?_ ((List.mergeSort_perm cs _).trans pc)
    have tl : PySem.W.TotalLe (PySem.W.dataLe false enc) := PySem.W.sortLe_total (listOrd itemOrd) false fun f => PySem.W.keyToks (enc f)
    have pw := List.pairwise_mergeSort (le := PySem.W.dataLe false enc) (fun a b c => tl.trans a b c) (fun a b => by rw [Bool.or_eq_true]; exact tl.total a b) cs
    refine pw.imp fun {p q} h => ?_
    rw [PySem.W.dataLe_eq] at h
    simpa using h
  refine wpAny_bind (wpAny_newList ?_ (by rw [bl, lcs, sizeLine_eq]; omega))
  have hoL : (s1.heap.push (seqObj "list" vs.toArray 0)).get? s1.heap.objs.size = some (seqObj "list" vs.toArray 0) := Heap.get?_push_size _ rfl
  have old : ∀ b u, s.heap.get? b = some u → (PySem.W.sortingHeap (s1.heap.push (seqObj "list" vs.toArray 0)) s1.heap.objs.size vs).get? b = some u := fun b u h => by
    have h1 := k1 b u h
    exact PySem.W.sortingHeap_old (Nat.ne_of_lt (Heap.lt_size h1)) (Heap.get?_push_of_some _ h1)
  refine wpAny_bind (wpAny_holding (wpAny_call_entry slot_list_sort ⟨_, hoL, rfl⟩ entry_list_sort (sort_made (s := { s1 with heap := s1.heap.push (seqObj "list" vs.toArray 0) }) (bs := cs) (enc := enc) (R := R) hoL (hcs.mono fun _ _ h => h.1) (hcs.mono fun _ _ ⟨_, as, r⟩ => ⟨as, PyProof.Rows.Reads.keeps old r⟩) al' so' (by rw [lcs, sizeLine_eq]; omega) (fun b hb => by
      have := hu b (pc.mem_iff.mp hb)
      simp only [Around.in1_units]; omega) fun out hl hout => ⟨_, rfl, ?_⟩) (args_list_sort _)))
  rw [srt] at hout
  obtain ⟨c, hc⟩ := sortedHeap_at (vs := vs) (out := out.toArray) hoL
  refine wpAny_pure ⟨_, rfl, hQ _ s1.heap.objs.size out c (fun b u h => ?_) g1 o1 hz hc hout⟩
  have h1 := k1 b u h
  have hlt := Heap.lt_size h1
  show (sortedHeap (s1.heap.push (seqObj "list" vs.toArray 0)) s1.heap.objs.size vs out.toArray).get? b = some u
  rw [sortedHeap_old (Nat.ne_of_lt hlt) (by rw [size_push']; exact Nat.lt_succ_of_lt hlt)]
  exact Heap.get?_push_of_some _ h1
end
open Classical in
noncomputable def gSortSetK (d : D) (S : Store) : RE D := match seqL S d with
  | some ds => (match keysOf ds, pySL S ds with
    | some ks, some ps => if ks.length ≤ 300 ∧ ks.Nodup ∧ ((ks.all goodK = true ∧ PySem.W.AllAlike ps ∧ (PySem.W.Sortable ps ∨ ps = [.tuple []]) ∧ PyData.depthAll ps ≤ 190 ∧ ps.Pairwise fun p q => PySem.W.dataLt p q = true) ∨ (ks.all isNumK = true ∧ ks.length < 64 ∧ (ks.map numK).Pairwise (· < ·))) then .ok (.lst ds) S else .no
    | _, _ => .no)
  | none => .no
section
variable {X : Cx} {W : WX} {a : Expr} {fa : FE} {p p2 q pos : Pos}
theorem zip_pw {α : Type} {R : PyData → PyData → Prop} : ∀ {xs : List α} {ps : List PyData}, xs.length = ps.length → ps.Pairwise R → (xs.zip ps).Pairwise fun p q => R p.2 q.2
  | [], ps, _, _ => by simp
  | x :: xs, [], h, _ => by simp at h
  | x :: xs, p :: ps, h, pw => by
    rw [List.pairwise_cons] at pw
    rw [List.zip_cons_cons, List.pairwise_cons]
    exact ⟨fun b hb => pw.1 _ (List.of_mem_zip (a := b.1) (b := b.2) hb).2, zip_pw (by simpa using h) pw.2⟩
theorem q_sortSetK [Wo] (hc : X.calm = true) (hu : X.A.units + 200 < cLine) (hg : Gl X "sorted") (hm : X.mg "sorted" = none) (hg2 : Gl X "set") (hm2 : X.mg "set" = none) (ha : PE X a (tF X W fa)) (na : starEach [a] X.env = (false, eval a X.env) :: starEach [] X.env := by rfl) :
    PE X (.Call (.Name "sorted" p) [.Call (.Name "set" p2) [a] [] q] [] pos) (tF X W (f1 gSortSetK fa)) := by
  refine ⟨fun pins s σ H Q I ⟨w, ρ, S, s0, en, h⟩ => ?_⟩
  have h1 : tF X W fa σ H (fun v H1 => ∃ (l : Addr) (vs : List V) (ks : List NestedKey) (ps : List PyData), v = V.ref l ∧ SqL X.K H1 l vs ∧ ks.length ≤ 300 ∧ ks.Nodup ∧ vs.length = ks.length ∧ ((ks.all goodK = true ∧ (∀ h, HOk X.prog X.w H1 h → X.K.In h → ∀ us, Vals vs us → NestedAll h ks us) ∧ DpAll X.K H1 vs ps ∧ PySem.W.AllAlike ps ∧ (PySem.W.Sortable ps ∨ ps = [.tuple []]) ∧ PyData.depthAll ps ≤ 190 ∧ ps.Pairwise fun p q => PySem.W.dataLt p q = true) ∨ ∃ is : List Int, vs = is.map V.int ∧ is.length < 64 ∧ is.Pairwise (· < ·)) ∧
      ∀ p, H1 p = none → Q (.ref p) (upd H1 p (.lst vs))) := by
    refine ⟨w, ρ, S, s0, en, (End.bind (R := fun w H => Rp X.K X.mg w H) h).imp ?_ (fun _ _ _ z => z)⟩
    rintro v H1 ⟨w1, S1, d, e1, s1, r1, h1⟩
    unfold gSortSetK at h1
    split at h1
    · rename_i ds hd
      split at h1
      · rename_i ks ps hx hps
        split at h1
        · rename_i hl
          obtain ⟨l, vs, ev, sq, rl⟩ := seqL_at s1 r1 hd
          have lk : vs.length = ks.length := by
            rw [← rl.length]
            clear hl hd rl hps h1
            induction ds generalizing ks with
            | nil => simp only [keysOf, Option.some.injEq] at hx; subst hx; rfl
            | cons d ds ih =>
              simp only [keysOf] at hx
              split at hx
              · rename_i k r a1 a2
                cases hx
                simp [ih r a2]
              · cases hx
          refine ⟨l, vs, ks, ps, ev, sq, hl.1, hl.2.1, lk, ?_, fun p np => newLst s1 rl np h1⟩
          rcases hl.2.2 with g | g
          · exact .inl ⟨g.1, fun h ok kin us r => keys_at ok kin ds ks vs us hx rl r, pySL_at s1 ds vs ps rl hps, g.2.1, g.2.2.1, g.2.2.2.1, g.2.2.2.2⟩
          · rw [keysOf_num hx g.1] at rl
            exact .inr ⟨ks.map numK, rp_ints rl, by rw [List.length_map]; exact g.2.1, g.2.2⟩
        · exact h1.elim
      · exact h1.elim
    · exact h1.elim
  have hb : bootBuiltins (Str.ofString "sorted") = some (.builtin "sorted") := by decide +kernel
  refine Call_ (ld_blt I hg hm hb (callWith_builtin1 (args_cons (Call_ (ld_blt I hg2 hm2 boot_set ?_)) rfl) rfl rfl))
  refine callWith_type1 (args_cons (thn (ha.run pins s σ H _ I h1) fun v s1 ⟨x, H1, I1, r1, l, vs, ks, ps, ex, sq, hl, hn, lk, alt, q1⟩ => args_nil ?_) na) na rfl
  subst ex
  cases r1
  obtain ⟨its, r, pl, hz⟩ := I1.list sq
  have fin : ∀ (s2 : Shared) (p : Addr) (out : List Value) (c : Nat), Inv X pins σ H1 s2 → ∀ s' : Shared, (∀ b o, s2.heap.get? b = some o → s'.heap.get? b = some o) → s'.gens = s2.gens → s'.os = s2.os → s2.heap.objs.size ≤ p → s'.heap.get? p = some (seqObj "list" out.toArray c) → Vals vs out → EP X pins σ Q (.ref p) s' := fun s2 p out c I2 s' k g o hp hg hv => by
    have hn : H1 p = none := I2.hok.fresh hp
    have hlen : vs.length ≤ sizeLine := by rw [sizeLine_eq]; omega
    have J : Inv X pins σ (upd H1 p (.lst vs)) { s2 with heap := s'.heap, gens := s'.gens, drawn := s'.drawn, toks := s'.toks } :=
      I2.call (ch := []) (Un.laid k hp hn) (I2.hok.laid k hp ⟨hlen, out, c, hv, hg⟩) (by rw [g]; exact I2.bare) (fun _ z => nomatch z)
    have e : s' = { s2 with heap := s'.heap, gens := s'.gens, drawn := s'.drawn, toks := s'.toks } := by
      cases s'
      cases s2
      cases o
      rfl
    rw [e]
    exact ⟨.ref p, _, J, rfl, q1 p hn⟩
  rcases alt with ⟨g, at_, dp, c1, c2, c3, c4⟩ | ⟨is, rfl, il, ipw⟩
  · have na1 := at_ s1.heap I1.hok I1.kIn its (by simpa using r)
    obtain ⟨e1, e2, e3⟩ := keys_refs na1 g
    have el : ((its.map vad).zip ks).length = ks.length := by rw [← List.length_map (f := (·.2)), e2]
    obtain ⟨as, ra⟩ := Dp.readsAll I1 ps vs its dp r
    have dl := DpAll.length dp
    refine set_keys (ks := (its.map vad).zip ks) (I1.ok.hd hc) pl.isList (by simpa using e1) e3 (by omega) (by rw [e2]; exact hn) (by omega) fun h' tk L es ep t hset pm keep => args_nil ?_
    have I2 : Inv X pins σ H1 { s1 with heap := h', toks := tk } := I1.kept fun b o e => keep b o (Heap.lt_size e) e
    have ez := zip_snd (xs := vs) (ps := ps) dl
    refine sorted_keys (β := V × PyData) (enc := Prod.snd) (R := fun u b => RelV b.1 u) (its := its) (bs := vs.zip ps) hset (I2.ok.hd hc) ?_ (each_vals r dl) ?_ (by rw [ez]; exact c1) (by rw [ez]; exact c2) (zip_pw dl c4) (fun b hb => ?_) fun s' p out c k g o hp hg hout => ?_
    · have := pm.map fun p : NS.Ky => Value.ref p.1
      rw [← e1] at this; exact this
    · exact (each_reads r ra).mono fun v b ⟨as, rd⟩ => ⟨as, PyProof.Rows.Reads.keeps (fun b o e => keep b o (Heap.lt_size e) e) rd⟩
    · have hm : b.2 ∈ ps := by rw [← ez]; exact List.mem_map.mpr ⟨b, hb, rfl⟩
      have := depth_mem hm
      omega
    · refine fin _ p out c I2 s' k g o hp hg ?_
      have := vals_each hout
      rwa [zip_fst dl] at this
  · refine set_whole (ns := is) (I1.ok.hd hc) pl.isList (by simpa using vals_ints r) (by unfold scanBound; omega) fun h' tk c hcl hset keep => args_nil ?_
    have I2 : Inv X pins σ H1 { s1 with heap := h', toks := tk } := I1.kept fun b o e => keep b o (Heap.lt_size e) e
    refine sorted_set hset (I2.ok.hd hc) (by omega) fun s' p out c ns k g o hp hg hi pw hmem _ => ?_
    have nodup : ∀ l : List Int, l.Pairwise (· < ·) → l.Nodup := fun l h => h.imp fun {a b} h => by omega
    have same : ns = is := by
      refine one_sorted (lt := fun x y : Int => decide (x < y)) (ipw.imp fun {a b} h => by simpa using h) (pw.imp fun {a b} h => by simp; omega) ?_
      exact (List.perm_ext_iff_of_nodup (nodup ns pw) (nodup is ipw)).mpr fun k => by rw [hmem k]; simp
    subst same
    have oe : out.toList.toArray = out := by simp
    rw [← oe] at hg
    refine fin _ p out.toList c I2 s' k g o hp hg ?_
    clear hg oe
    have iv : ∀ {us : List Value} {ns : List Int}, IntsAre us ns → Vals (ns.map V.int) us := fun {us ns} h => by
      induction h with
      | nil => exact .nil
      | cons k t _ ih => exact .cons ⟨t, rfl⟩ ih
    exact iv hi
end
end Kw
namespace Kw
open PySem PySem.Spec PyProof.Rows L2
noncomputable def fLc2C (fi : FI) (g : FG) (fi1 : FI) (g1 : FG) (te : FE) (vs vs1 : List Nat) : FE := fun ρ S => (fi ρ S).bnd fun p S1 => match compO g (inL fi1 g1 te vs1) p.2 (wipeR ρ vs) p.1 [] S1 with
  | .ok acc S2 => .ok (.loc S2.length) (S2 ++ [.lst acc])
  | _ => .no
section
variable {X : Cx} {W : WX} {fi fi1 : FI} {g g1 : FG} {sl sl1 : List Nat} {te : FE}
theorem lc2C_core' [Wo] {σ : L2.St} {H : Hp} {Q : VK} {vs vs1 : List Nat} (hsl : ∀ i ∈ sl, i ∈ vs) (hsl1 : ∀ i ∈ sl1, i ∈ vs1) (h : tF X W (fLc2C fi g fi1 g1 te vs vs1) σ H Q) :
    tLc2 (tI X W fi) (tG X sl g) (tT X W0 fYes) (tI X W0 fi1) (tG X sl1 g1) (tT X W0 fYes) (tF X W0 te) vs vs1 σ H Q := by
  obtain ⟨w, ρ, S, s, en, h⟩ := h
  refine ⟨w, ρ, S, s, en, (End.bind (R := ItOk X.K X.mg) h).imp ?_ (fun _ _ _ z => z)⟩
  rintro J H1 ⟨w1, S1, ⟨items, gu⟩, e1, s1, J1, h1⟩ C hC
  have enw : EnvR X.K X.mg w1 H1 (wipeR ρ vs) (wipe σ vs) := (en.ext e1).wipe vs
  let fin : RE (List D) → RE D := fun r => match r with
    | .ok acc S2 => .ok (.loc S2.length) (S2 ++ [.lst acc])
    | _ => .no
  have h1' : End X.K X.mg (fun w H => Rp X.K X.mg w H) w1 H1 (fin (compO g (inL fi1 g1 te vs1) gu (wipeR ρ vs) items [] S1)) Q (fun c od H' => W c od σ H') := h1
  let G : Hp → List D → Store → RE (List D) → Prop := fun H' acc S' r => ∃ w' xs, ExtD C w1 H1 w' H' ∧ Sto X.K X.mg w' S' H' ∧ H' C = some (.lst xs) ∧ RpL X.K X.mg w' H' acc xs ∧ ∃ r0, fin r = r0 ∧ End X.K X.mg (fun w H => Rp X.K X.mg w H) w1 H1 r0 Q (fun c od H' => W c od σ H')
  refine ⟨fun i m H' => ∃ acc S', i + m = items.length ∧ G H' acc S' (compO g (inL fi1 g1 te vs1) gu (wipeR ρ vs) (items.drop i) acc S'), ⟨items.length, [], S1, by omega, ⟨w1.φ, C :: w1.hd⟩, [], ExtD.begin_ hC, s1.mvd hC, upd_same, RpL.nil, _, rfl, h1'⟩, ?_⟩
  rintro i m H' ⟨acc, S', hm, w', xs, ed, s', hx, ra, r0, hr0, he⟩
  have no_end : ∀ {r : RE D}, r = .no → End X.K X.mg (fun w H => Rp X.K X.mg w H) w1 H1 r Q (fun c od H' => W c od σ H') → False := fun e h => by rw [e] at h; exact h
  cases hd : items.drop i with
  | nil =>
    rw [hd] at hr0
    unfold compO at hr0
    unfold gchk at hr0
    split at hr0
    · rename_i gd1
      have hl : items.length ≤ i := List.drop_eq_nil_iff.mp hd
      refine .inl ⟨(J1 w' S' H' ed.mv s' gd1).1 i hl, ?_⟩
      have hCin : C ∈ w'.hd := by rw [ed.hd]; exact List.mem_cons_self
      have hout : some C ∉ w'.φ := (s'.ap C hCin).2
      have hnh : C ∉ w1.hd := fun z => (s1.ap C z).1 hC
      have ra3 := RpL.mv (Mv.show (H := H') ed.hd) _ _ ra
      have mv := Mv.show (H := H') ed.hd
      have s3 := s'.show ed.hd ⟨xs, hx⟩
      subst hr0
      have ph : ∀ (n : Nat) a, (w'.φ ++ [some C])[n]? = some (some a) → (w'.φ[n]? = some (some a) ∧ n < w'.φ.length) ∨ (n = w'.φ.length ∧ a = C) := fun n a hk => by
        by_cases hl : n < w'.φ.length
        · rw [List.getElem?_append_left hl] at hk; exact .inl ⟨hk, hl⟩
        · have hl' : w'.φ.length ≤ n := Nat.le_of_not_lt hl
          rw [List.getElem?_append_right hl'] at hk
          have : n - w'.φ.length = 0 := by
            cases e : n - w'.φ.length with
            | zero => rfl
            | succ j => rw [e] at hk; simp at hk
          rw [this] at hk; simp at hk
          exact .inr ⟨by omega, hk.symm⟩
      have mv2 : Mv w' H' ⟨w'.φ ++ [some C], w1.hd⟩ H' := ⟨fun a o h n => by
        have hne : a ≠ C := fun z => by subst z; exact n.2 hCin
        refine ⟨h, fun z => ?_, fun z => n.2 (by rw [ed.hd]; exact List.mem_cons_of_mem _ z)⟩
        rcases List.mem_append.mp (show some a ∈ w'.φ ++ [some C] from z) with z | z
        · exact n.1 z
        · simp at z; exact hne z, by show _ ≤ (w'.φ ++ [some C]).length; rw [List.length_append]; omega, fun n a h l => by
        rcases ph n a h with z | z
        · exact z.1
        · omega⟩
      have ex2 : Ext w1 H1 ⟨w'.φ ++ [some C], w1.hd⟩ H' := ⟨ed.done.fr, Nat.le_trans ed.ln mv2.ln, fun n a h l => by
        rcases ph n a h with z | z
        · exact ed.ph n a z.1 l
        · have := ed.ln; omega, fun a h => by
        rcases List.mem_append.mp (show some a ∈ w'.φ ++ [some C] from h) with z | z
        · exact ed.nw a z
        · simp at z; subst z; exact .inr hC, rfl⟩
      have ra4 := RpL.mv mv2 _ _ ra
      have s4 : Sto X.K X.mg ⟨w'.φ ++ [some C], w1.hd⟩ (S' ++ [.lst acc]) H' := by
        refine ⟨by show (w'.φ ++ [some C]).length = _; rw [List.length_append, List.length_append, s'.len]; rfl, fun m n a q1 q2 => ?_, fun a ha => ⟨(s3.ap a ha).1, fun z => ?_⟩, fun n cc hc => ?_⟩
        · rcases ph m a q1 with ⟨z1, z2⟩ | ⟨z1, z2⟩ <;> rcases ph n a q2 with ⟨y1, y2⟩ | ⟨y1, y2⟩
          · exact s'.nd m n a z1 y1
          · subst y2; exact absurd (List.mem_of_getElem? z1) hout
          · subst z2; exact absurd (List.mem_of_getElem? y1) hout
          · omega
        · rcases List.mem_append.mp (show some a ∈ w'.φ ++ [some C] from z) with z | z
          · exact (s3.ap a ha).2 z
          · simp at z; subst z; exact hnh ha
        · by_cases hl : n < S'.length
          · rw [List.getElem?_append_left hl] at hc
            have c0 := s'.cell n cc hc
            have gl : (w'.φ ++ [some C])[n]? = w'.φ[n]? := List.getElem?_append_left (s'.len ▸ hl)
            unfold CellR at c0 ⊢
            split at c0
            · obtain ⟨b, ys, h2, h3, h4⟩ := c0; exact ⟨b, ys, by rw [← gl] at h2; exact h2, h3, RpL.mv mv2 _ _ h4⟩
            · obtain ⟨b, ys, o', h2, h3, h4⟩ := c0; exact ⟨b, ys, o', by rw [← gl] at h2; exact h2, h3, RpL.mv mv2 _ _ h4⟩
            · rw [← gl] at c0; exact c0
            · obtain ⟨c1, P, ht, t1, t2⟩ := c0; exact ⟨c1, P, ht, by rw [gl]; exact t1, TabW.mv mv2 rfl t2⟩
            · obtain ⟨y1, y2, y3, ⟨φ, y4, y6⟩, y5⟩ := c0
              refine ⟨by rw [gl]; exact y1, ?_, fun z => ?_, ⟨φ, y4, y6⟩, y5⟩
              · rw [ed.hd] at y2
                rcases List.mem_cons.mp y2 with z | z
                · rw [z, hx] at y4; cases y4
                · exact z
              · rcases List.mem_append.mp (show some sysModules ∈ w'.φ ++ [some C] from z) with z | z
                · exact y3 z
                · simp at z; rw [z, hx] at y4; cases y4
            · exact ⟨by rw [gl]; exact c0.1, EnvR.mv mv2 c0.2⟩
            · obtain ⟨b, C1, dx, vs', h2, h3, h4, h5, h6⟩ := c0; exact ⟨b, C1, dx, vs', by rw [gl]; exact h2, h3, h4, h5, RpL.mv mv2 _ _ h6⟩
            · obtain ⟨b, es, h2, h3, h4, h5, h6, h7⟩ := c0; exact ⟨b, es, by rw [gl]; exact h2, h3, h4, h5, dct_mv mv2 h6, RpL.mv mv2 _ _ h7⟩
          · have hl' : S'.length ≤ n := Nat.le_of_not_lt hl
            rw [List.getElem?_append_right hl'] at hc
            have e0 : n - S'.length = 0 := by
              cases e : n - S'.length with
              | zero => rfl
              | succ j => rw [e] at hc; simp at hc
            rw [e0] at hc; simp at hc; subst hc
            have en' : n = w'.φ.length := by rw [s'.len]; omega
            subst en'
            exact ⟨C, xs, by show (w'.φ ++ [some C])[w'.φ.length]? = _; rw [List.getElem?_append_right (Nat.le_refl _), Nat.sub_self]; rfl, hx, ra4⟩
      refine he ⟨w'.φ ++ [some C], w1.hd⟩ H' (.ref C) ex2 s4 ?_
      show Rp _ _ _ _ _ _
      unfold Rp
      refine ⟨by show S'.length < (w'.φ ++ [some C]).length; rw [List.length_append, s'.len]; exact Nat.lt_succ_self _, fun a ha => ?_⟩
      have ha' : (w'.φ ++ [some C])[S'.length]? = some (some a) := ha
      rw [← s'.len, List.getElem?_append_right (Nat.le_refl _), Nat.sub_self] at ha'
      simp at ha'; rw [ha']
    · exact (no_end hr0.symm he).elim
  | cons d r =>
    rw [hd] at hr0
    unfold compO at hr0
    unfold gchk at hr0
    split at hr0
    · rename_i gd1
      have hi' : items[i]? = some d := by
        have := congrArg (·[0]?) hd
        simpa using this
      have hr : items.drop (i + 1) = r := by
        have := congrArg List.tail hd
        simpa using this
      have hlt : i < items.length := (List.getElem?_eq_some_iff.mp hi').1
      obtain ⟨j1, j2⟩ := (J1 w' S' H' ed.mv s' gd1).2 i d hi'
      refine .inr ⟨j1, fun H2 => ∃ acc2 S2, G H2 acc2 S2 (compO g (inL fi1 g1 te vs1) gu (wipeR ρ vs) r acc2 S2), fun H2 ⟨acc2, S2, z⟩ => ⟨m - 1, by omega, acc2, S2, by omega, by rw [hr]; exact z⟩, ?_⟩
      intro x H'' hy
      obtain ⟨j3, j4, j5⟩ := j2 x H'' hy
      have enw' : EnvR X.K X.mg w' H'' (wipeR ρ vs) (wipe σ vs) := (enw.mv ed.mv).ext j3
      refine ⟨w', wipeR ρ vs, S', d, j4, enw', j5, ?_⟩
      split at hr0
      · rename_i ρ1 S1' hg1
        rw [hg1]
        intro w2 H2 σ2 e2 s2 en2 k2 l2
        have hw : wipe σ2 vs = wipe σ vs := by
          rw [← wipe_wipe σ vs]
          exact wipe_eq l2 fun i hi => k2 i (fun z => hi (hsl i z))
        refine ⟨hw, w2, ρ1, S1', s2, en2, ?_⟩
        have ed2 : ExtD C w1 H1 w2 H2 := (ed.step j3).step e2
        intro w3 H3 b e3 s3 hb
        cases hb
        rw [if_pos rfl]
        have en3 := en2.ext e3
        refine ⟨w3, ρ1, S1', s3, en3, ?_⟩
        have exx3 : Ext w' H' w3 H3 := (j3.trans e2).trans e3
        have hCin' : C ∈ w'.hd := by rw [ed.hd]; exact List.mem_cons_self
        have hx3 : H3 C = some (.lst xs) := exx3.fr C _ hx (s'.ap C hCin').2
        have ra3 := RpL.ext exx3 _ _ ra
        have ed3 : ExtD C w1 H1 w3 H3 := ed2.step e3
        split at hr0
        · rename_i acc2 S2' hin
          unfold inL at hin
          split at hin
          · rename_i p S3 hfi
            obtain ⟨items1, gu1⟩ := p
            rw [hfi]
            intro w4 H4 J' e4 s4 JO
            have en4 : EnvR X.K X.mg w4 H4 (wipeR ρ1 vs1) (wipe σ2 vs1) := (en3.ext e4).wipe vs1
            have hC3 : C ∈ w3.hd := by rw [ed3.hd]; exact List.mem_cons_self
            have hx4 : H4 C = some (.lst xs) := e4.fr C _ hx3 (s3.ap C hC3).2
            have ra4 := RpL.ext e4 _ _ ra3
            have ed4 : ExtD C w1 H1 w4 H4 := ed3.step e4
            -- the inner loop
            let G1 : Hp → List D → Store → RE (List D) → Prop := fun H' acc S' r1 => ∃ w' xs, ExtD C w1 H1 w' H' ∧ Mv w4 H4 w' H' ∧ Sto X.K X.mg w' S' H' ∧ H' C = some (.lst xs) ∧ RpL X.K X.mg w' H' acc xs ∧ r1 = .ok acc2 S2'
            refine ⟨fun j k H' => ∃ acc S', j + k = items1.length ∧ G1 H' acc S' (compL g1 fYes te gu1 (wipeR ρ1 vs1) (items1.drop j) acc S'), ⟨items1.length, acc, S3, by omega, w4, xs, ed4, Mv.refl, s4, hx4, ra4, hin⟩, ?_⟩
            rintro j k H5 ⟨acc5, S5, hk, w5, xs5, ed5, mv5, s5, hx5, ra5, hr5⟩
            cases hd5 : items1.drop j with
            | nil =>
              rw [hd5] at hr5
              unfold compL at hr5
              unfold gchk at hr5
              split at hr5
              · rename_i gd5
                have hl5 : items1.length ≤ j := List.drop_eq_nil_iff.mp hd5
                cases hr5
                exact .inl ⟨(JO w5 _ H5 mv5 s5 gd5).1 j hl5, _, _, w5, xs5, ed5, s5, hx5, ra5, _, hr0, he⟩
              · cases hr5
            | cons d5 r5 =>
              rw [hd5] at hr5
              unfold compL at hr5
              unfold gchk at hr5
              split at hr5
              · rename_i gd5
                have hi5 : items1[j]? = some d5 := by
                  have := congrArg (·[0]?) hd5
                  simpa using this
                have hr6 : items1.drop (j + 1) = r5 := by
                  have := congrArg List.tail hd5
                  simpa using this
                have hlt5 : j < items1.length := (List.getElem?_eq_some_iff.mp hi5).1
                obtain ⟨q1, q2⟩ := (JO w5 S5 H5 mv5 s5 gd5).2 j d5 hi5
                refine .inr ⟨q1, fun H2 => ∃ acc2 S2, G1 H2 acc2 S2 (compL g1 fYes te gu1 (wipeR ρ1 vs1) r5 acc2 S2), fun H2 ⟨acc2, S2, z⟩ => ⟨k - 1, by omega, acc2, S2, by omega, by rw [hr6]; exact z⟩, ?_⟩
                intro x5 H6 hy5
                obtain ⟨j6, j7, j8⟩ := q2 x5 H6 hy5
                have en6 : EnvR X.K X.mg w5 H6 (wipeR ρ1 vs1) (wipe σ2 vs1) := (en4.mv mv5).ext j6
                refine ⟨w5, wipeR ρ1 vs1, S5, d5, j7, en6, j8, ?_⟩
                split at hr5
                · rename_i ρ6 S6 hg6
                  rw [hg6]
                  intro w7 H7 σ7 e7 s7 en7 k7 l7
                  have hw7 : wipe σ7 vs1 = wipe σ2 vs1 := by
                    rw [← wipe_wipe σ2 vs1]
                    exact wipe_eq l7 fun i hi => k7 i (fun z => hi (hsl1 i z))
                  refine ⟨hw7, w7, ρ6, S6, s7, en7, ?_⟩
                  intro w8 H8 b8 e8 s8 hb8
                  cases hb8
                  rw [if_pos rfl]
                  refine ⟨w8, ρ6, S6, s8, en7.ext e8, ?_⟩
                  have hyes : fYes ρ6 S6 = .ok true S6 := rfl
                  rw [hyes] at hr5
                  simp only at hr5
                  split at hr5
                  · rename_i y S9 hy9
                    rw [hy9]
                    intro w9 H9 u e9 s9 r9
                    have exx : Ext w5 H5 w9 H9 := ((j6.trans e7).trans e8).trans e9
                    have ed9 : ExtD C w1 H1 w9 H9 := ed5.step exx
                    have hC5 : C ∈ w5.hd := by rw [ed5.hd]; exact List.mem_cons_self
                    have hC9 : C ∈ w9.hd := by rw [ed9.hd]; exact List.mem_cons_self
                    have hx9 : H9 C = some (.lst xs5) := exx.fr C _ hx5 (s5.ap C hC5).2
                    have ra9 := RpL.ext exx _ _ ra5
                    split at hr5
                    · rename_i hlen
                      refine ⟨xs5, hx9, by rw [← ra5.length]; exact hlen, acc5 ++ [y], S9, w9, xs5 ++ [u], ed9.poke, (mv5.trans exx.mv).trans (Mv.poke hC9), s9.poke hC9 ⟨_, hx9⟩, upd_same, ?_, hr5⟩
                      exact (RpL.mv (Mv.poke hC9) _ _ ra9).append (RpL.one (Rp.mv (Mv.poke hC9) _ _ r9))
                    · cases hr5
                  · cases hr5
                · cases hr5
              · cases hr5
          · cases hin
        · exact (no_end hr0.symm he).elim
      · exact (no_end hr0.symm he).elim
    · exact (no_end hr0.symm he).elim
theorem q_lc2C [Wo] {elt tg iter tg1 iter1 : Expr} {scope : Scope} {own : List (Str × Nat)} {vs1 : List Nat} {pos : Pos} (hc : X.calm = true) (hN : X.N.Nodup) (hi : PI X tg iter (tI X W fi)) (ok : BlkOk X.N X.env.scope scope own) (hv : ∀ i ∈ vs1, i ∈ own.map (·.2)) (hsl : ∀ i ∈ sl, i ∈ own.map (·.2)) (hsl1 : ∀ i ∈ sl1, i ∈ vs1)
    (hg : ∀ (s : Shared) (H : Hp) (C : Addr) (cl : List (Str × Addr)) (fp : List Addr), PG (X.blk s H scope (compEnvC scope cl C X.env) fp) tg (tG (X.blk s H scope (compEnvC scope cl C X.env) fp) sl g))
    (hi1 : ∀ (s : Shared) (H : Hp) (C : Addr) (cl : List (Str × Addr)) (fp : List Addr), PI (X.blk s H scope (compEnvC scope cl C X.env) fp) tg1 iter1 (tI (X.blk s H scope (compEnvC scope cl C X.env) fp) W0 fi1))
    (hg1 : ∀ (s : Shared) (H : Hp) (C : Addr) (cl : List (Str × Addr)) (fp : List Addr), PG (X.blk s H scope (compEnvC scope cl C X.env) fp) tg1 (tG (X.blk s H scope (compEnvC scope cl C X.env) fp) sl1 g1))
    (he : ∀ (s : Shared) (H : Hp) (C : Addr) (cl : List (Str × Addr)) (fp : List Addr), PE (X.blk s H scope (compEnvC scope cl C X.env) fp) elt (tF (X.blk s H scope (compEnvC scope cl C X.env) fp) W0 te))
    (hs : ∀ x, foldedSetIterable iter X.env x = pure x := by intro _; rfl) (hs1 : ∀ env x, foldedSetIterable iter1 env x = pure x := by intro _ _; rfl) :
    PE X (.ListComp elt [⟨tg, iter, [], 0⟩, ⟨tg1, iter1, [], 0⟩] scope pos) (tF X W (fLc2C fi g fi1 g1 te (own.map (·.2)) vs1)) :=
  PE.wk (pe_lc2 (g := tG X sl g) (tt := tT X W0 fYes) (wi1 := tI X W0 fi1) (g1 := tG X sl1 g1) (tt1 := tT X W0 fYes) (te := tF X W0 te) hc hN hi ok hv hg (fun _ _ _ _ _ => qts_nil) hi1 hg1 (fun _ _ _ _ _ => qts_nil) he hs hs1) fun σ H Q h => lc2C_core' hsl hsl1 h
theorem q_setLc2C [Wo] {elt tg iter tg1 iter1 : Expr} {scope : Scope} {own : List (Str × Nat)} {vs1 : List Nat} {i : Nat} {y : Str} {py pos spos : Pos} (hc : X.calm = true) (hN : X.N.Nodup) (hy : X.N[i]? = some y) (hyl : X.env.scope.names.lookup y = some .local)
    (hsw : swapsWith (.ListComp elt [⟨tg, iter, [], 0⟩, ⟨tg1, iter1, [], 0⟩] scope pos) (some (.Name y py)) spos.line X.env = pure true) (hi : PI X tg iter (tI X W fi)) (ok : BlkOk X.N X.env.scope scope own) (hv : ∀ i ∈ vs1, i ∈ own.map (·.2)) (hsl : ∀ i ∈ sl, i ∈ own.map (·.2)) (hsl1 : ∀ i ∈ sl1, i ∈ vs1)
    (hg : ∀ (s : Shared) (H : Hp) (C : Addr) (cl : List (Str × Addr)) (fp : List Addr), PG (X.blk s H scope (compEnvC scope cl C X.env) fp) tg (tG (X.blk s H scope (compEnvC scope cl C X.env) fp) sl g))
    (hi1 : ∀ (s : Shared) (H : Hp) (C : Addr) (cl : List (Str × Addr)) (fp : List Addr), PI (X.blk s H scope (compEnvC scope cl C X.env) fp) tg1 iter1 (tI (X.blk s H scope (compEnvC scope cl C X.env) fp) W0 fi1))
    (hg1 : ∀ (s : Shared) (H : Hp) (C : Addr) (cl : List (Str × Addr)) (fp : List Addr), PG (X.blk s H scope (compEnvC scope cl C X.env) fp) tg1 (tG (X.blk s H scope (compEnvC scope cl C X.env) fp) sl1 g1))
    (he : ∀ (s : Shared) (H : Hp) (C : Addr) (cl : List (Str × Addr)) (fp : List Addr), PE (X.blk s H scope (compEnvC scope cl C X.env) fp) elt (tF (X.blk s H scope (compEnvC scope cl C X.env) fp) W0 te))
    (hs : ∀ x, foldedSetIterable iter X.env x = pure x := by intro _; rfl) (hs1 : ∀ env x, foldedSetIterable iter1 env x = pure x := by intro _ _; rfl) :
    PS X (.Assign [.Name y py] (.ListComp elt [⟨tg, iter, [], 0⟩, ⟨tg1, iter1, [], 0⟩] scope pos) spos) (tS X W (sSet i (fLc2C fi g fi1 g1 te (own.map (·.2)) vs1))) :=
  PS.wk (ps_setLc2 (g := tG X sl g) (tt := tT X W0 fYes) (wi1 := tI X W0 fi1) (g1 := tG X sl1 g1) (tt1 := tT X W0 fYes) (te := tF X W0 te) hc hN hy hyl hsw hi ok hv hg (fun _ _ _ _ _ => qts_nil) hi1 hg1 (fun _ _ _ _ _ => qts_nil) he hs hs1) fun D σ H ⟨w, ρ, S, s, en, h⟩ => by
    refine lc2C_core' (Q := fun x H1 => gName i x σ H1 D.nx) hsl hsl1 ⟨w, ρ, S, s, en, (h.of (R := fun w H => Rp X.K X.mg w H) en).imp (fun v H1 ⟨w1, S1, d, e1, s1, r1, h1⟩ => h1.nx' s1 ((en.ext e1).set r1)) (fun _ _ _ z => z)⟩
end
end Kw
namespace Kw
open PySem PySem.Spec PyProof.Rows L2
def gMulT (x y : D) (S : Store) : RE D := match x, y with
  | .tup xs, .int k => if xs.length ≠ 0 ∧ 2 ≤ k ∧ k ≤ 1000 ∧ xs.length ≤ 1000 then mkTup (List.replicate k.toNat xs).flatten S else .no
  | _, _ => .no
theorem mulT_v [Wo] {K : PySem.W.Frag} {mg : Str → Option Value} : OpV K mg (rRepT K) gMulT := by
  intro w S H x y d e Q E s r1 r2 h
  unfold gMulT at h
  split at h
  · rename_i xs k
    split at h
    · rename_i hc
      obtain ⟨a, vs, rfl, sq, rl⟩ := tup_at r1
      have ll := rl.length
      refine ⟨a, k, vs, rfl, rp_int r2, sq, fun z => hc.1 (by rw [ll, z]; rfl), hc.2.1, hc.2.2.1, by omega, fun p np => ?_⟩
      exact (mkTup_at s (rl.rep k.toNat) h).2 p np
    · exact h.elim
  · exact h.elim
end Kw
namespace Kz
open PySem PySem.Spec PyProof.Rows L2 Kw
def topS (i : Nat) : Stmt := PySem.Challenge.pw_kindswap_k41_all_worths.main.body.getD i (.Pass ⟨0, 0, 0, 0⟩)
inductive Fn where
  | f_is_from
  | f_inner_of
  | f_is_kind
  | f_sure_kind
  | f_sure_sizes
  | f_power_up_to
  | f_number_up_to
  | f_sure_taken
  | f_lists_of
  | f_all_worths
  | f_worths
  | f__law_cell_at
  | f__law_well
  | f__law_draw
  | f__law_one
  | f__law_kind
  | f__law_sizes
  | f__law_power
  | f__law_number
  | f__law_taken
  | f__law_all
  | f__law_asked
  | f__law_great_right
  | f__law_deep_right
  | f__law_right
  | f_law
abbrev s_is_from : Stmt := topS 8
theorem sc_is_from : FnScope ["thing", "low", "high"] ["thing", "low", "high"] (defScope s_is_from) := ⟨rfl, rfl, rfl, by decide +kernel, rfl, by decide +kernel, by decide +kernel⟩
abbrev s_inner_of : Stmt := topS 9
theorem sc_inner_of : FnScope ["thing"] ["thing"] (defScope s_inner_of) := ⟨rfl, rfl, rfl, by decide +kernel, rfl, by decide +kernel, by decide +kernel⟩
abbrev s_is_kind : Stmt := topS 10
theorem sc_is_kind : FnScope ["thing", "left", "inner"] ["thing"] (defScope s_is_kind) := ⟨rfl, rfl, rfl, by decide +kernel, rfl, by decide +kernel, by decide +kernel⟩
abbrev s_sure_kind : Stmt := topS 11
theorem sc_sure_kind : FnScope ["thing"] ["thing"] (defScope s_sure_kind) := ⟨rfl, rfl, rfl, by decide +kernel, rfl, by decide +kernel, by decide +kernel⟩
abbrev s_sure_sizes : Stmt := topS 16
theorem sc_sure_sizes : FnScope ["thing", "good", "size"] ["thing"] (defScope s_sure_sizes) := ⟨rfl, rfl, rfl, by decide +kernel, rfl, by decide +kernel, by decide +kernel⟩
abbrev s_power_up_to : Stmt := topS 17
theorem sc_power_up_to : FnScope ["base", "times", "found", "turn"] ["base", "times"] (defScope s_power_up_to) := ⟨rfl, rfl, rfl, by decide +kernel, rfl, by decide +kernel, by decide +kernel⟩
abbrev s_number_up_to : Stmt := topS 18
theorem sc_number_up_to : FnScope ["kind", "sizes", "one", "other"] ["kind", "sizes"] (defScope s_number_up_to) := ⟨rfl, rfl, rfl, by decide +kernel, rfl, by decide +kernel, by decide +kernel⟩
abbrev s_sure_taken : Stmt := topS 19
theorem sc_sure_taken : FnScope ["kind", "sizes"] ["kind", "sizes"] (defScope s_sure_taken) := ⟨rfl, rfl, rfl, by decide +kernel, rfl, by decide +kernel, by decide +kernel⟩
abbrev s_lists_of : Stmt := topS 20
theorem sc_lists_of : FnScope ["things", "many", "found", "place", "row", "thing"] ["things", "many"] (defScope s_lists_of) := ⟨rfl, rfl, rfl, by decide +kernel, rfl, by decide +kernel, by decide +kernel⟩
abbrev s_all_worths : Stmt := topS 21
theorem sc_all_worths : FnScope ["kind", "sizes", "others", "one", "other"] ["kind", "sizes"] (defScope s_all_worths) := ⟨rfl, rfl, rfl, by decide +kernel, rfl, by decide +kernel, by decide +kernel⟩
abbrev s_worths : Stmt := topS 22
theorem sc_worths : FnScope ["kind", "sizes"] ["kind", "sizes"] (defScope s_worths) := ⟨rfl, rfl, rfl, by decide +kernel, rfl, by decide +kernel, by decide +kernel⟩
abbrev s__law_cell_at : Stmt := topS 24
theorem sc__law_cell_at : FnScope ["_law_script", "_law_k"] ["_law_script", "_law_k"] (defScope s__law_cell_at) := ⟨rfl, rfl, rfl, by decide +kernel, rfl, by decide +kernel, by decide +kernel⟩
abbrev s__law_well : Stmt := topS 25
theorem sc__law_well : FnScope ["_law_cell"] ["_law_cell"] (defScope s__law_well) := ⟨rfl, rfl, rfl, by decide +kernel, rfl, by decide +kernel, by decide +kernel⟩
abbrev s__law_draw : Stmt := topS 26
theorem sc__law_draw : FnScope ["_law_well_here", "_law_below", "_law_number_here", "_law_found"] ["_law_well_here", "_law_below"] (defScope s__law_draw) := ⟨rfl, rfl, rfl, by decide +kernel, rfl, by decide +kernel, by decide +kernel⟩
abbrev s__law_one : Stmt := topS 27
theorem sc__law_one : FnScope ["_law_well_here", "_law_some"] ["_law_well_here", "_law_some"] (defScope s__law_one) := ⟨rfl, rfl, rfl, by decide +kernel, rfl, by decide +kernel, by decide +kernel⟩
abbrev s__law_kind : Stmt := topS 28
theorem sc__law_kind : FnScope ["_law_well_here", "_law_leaves", "_law_first", "_law_word"] ["_law_well_here", "_law_leaves"] (defScope s__law_kind) := ⟨rfl, rfl, rfl, by decide +kernel, rfl, by decide +kernel, by decide +kernel⟩
abbrev s__law_sizes : Stmt := topS 29
theorem sc__law_sizes : FnScope ["_law_well_here", "_law_most", "_law_k"] ["_law_well_here"] (defScope s__law_sizes) := ⟨rfl, rfl, rfl, by decide +kernel, rfl, by decide +kernel, by decide +kernel⟩
abbrev s__law_power : Stmt := topS 30
theorem sc__law_power : FnScope ["_law_base", "_law_times", "_law_found", "_law_k"] ["_law_base", "_law_times"] (defScope s__law_power) := ⟨rfl, rfl, rfl, by decide +kernel, rfl, by decide +kernel, by decide +kernel⟩
abbrev s__law_number : Stmt := topS 31
theorem sc__law_number : FnScope ["_law_kind_here", "_law_sizes_here", "_law_one_here", "_law_other"] ["_law_kind_here", "_law_sizes_here"] (defScope s__law_number) := ⟨rfl, rfl, rfl, by decide +kernel, rfl, by decide +kernel, by decide +kernel⟩
abbrev s__law_taken : Stmt := topS 32
theorem sc__law_taken : FnScope ["_law_kind_here", "_law_sizes_here", "_law_most"] ["_law_kind_here", "_law_sizes_here"] (defScope s__law_taken) := ⟨rfl, rfl, rfl, by decide +kernel, rfl, by decide +kernel, by decide +kernel⟩
abbrev s__law_all : Stmt := topS 33
theorem sc__law_all : FnScope ["_law_kind_here", "_law_sizes_here", "_law_some", "_law_found", "_law_k", "_law_one_here", "_law_longer", "_law_row", "_law_other"] ["_law_kind_here", "_law_sizes_here"] (defScope s__law_all) := ⟨rfl, rfl, rfl, by decide +kernel, rfl, by decide +kernel, by decide +kernel⟩
abbrev s__law_asked : Stmt := topS 34
theorem sc__law_asked : FnScope ["_law_kind_here", "_law_sizes_here", "_law_whole", "_law_kept", "_law_found"] ["_law_kind_here", "_law_sizes_here"] (defScope s__law_asked) := ⟨rfl, rfl, rfl, by decide +kernel, rfl, by decide +kernel, by decide +kernel⟩
abbrev s__law_great_right : Stmt := topS 35
theorem sc__law_great_right : FnScope ["_law_well_here", "_law_one_here", "_law_two", "_law_sizes_here", "_law_pair", "_law_x", "_law_k", "_law_y"] ["_law_well_here"] (defScope s__law_great_right) := ⟨rfl, rfl, rfl, by decide +kernel, rfl, by decide +kernel, by decide +kernel⟩
abbrev s__law_deep_right : Stmt := topS 36
theorem sc__law_deep_right : FnScope ["_law_well_here", "_law_kind_here", "_law_some", "_law_k", "_law_way", "_law_thing"] ["_law_well_here"] (defScope s__law_deep_right) := ⟨rfl, rfl, rfl, by decide +kernel, rfl, by decide +kernel, by decide +kernel⟩
abbrev s__law_right : Stmt := topS 37
theorem sc__law_right : FnScope ["_law_well_here", "_law_kind_here", "_law_sizes_here", "_law_k"] ["_law_well_here"] (defScope s__law_right) := ⟨rfl, rfl, rfl, by decide +kernel, rfl, by decide +kernel, by decide +kernel⟩
abbrev s_law : Stmt := topS 38
theorem sc_law : FnScope ["_law_script", "_law_cell"] ["_law_script"] (defScope s_law) := ⟨rfl, rfl, rfl, by decide +kernel, rfl, by decide +kernel, by decide +kernel⟩
def kv_MARKS : List (Str × D) := [("both", D.str "*"), ("from", D.str ">")]
noncomputable def b_is_from (cl : Fn → FF) : FS :=
  (sRet (fAndV (fIsi "int" (fVar 0)) (fAndV (fNotV (fIsi "bool" (fVar 0))) (fChain (gCmp fun i j => decide (i ≤ j)) (gCmp fun i j => decide (i ≤ j)) (fVar 1) (fVar 0) (fVar 2)))))
noncomputable def b_inner_of (cl : Fn → FF) : FS :=
  (sSeq (sIf (fOr (fNot (fTru (fIsi "tuple" (fVar 0)))) (fOr (fB (f2 gEq (fArg gLen (fCons (fVar 0) fNil)) (fC (.int 0)))) (fNot (fTru (fIsi "str" (f2 gIx (fVar 0) (fC (.int 0)))))))) (sRet (fC .non)) sNil)
  (sSeq (sIf (fB (f2 gEq (f2 gIx (fVar 0) (fC (.int 0))) (fC (.str "base")))) (sRet (fIf (fAnd (fB (f2 gEq (fArg gLen (fCons (fVar 0) fNil)) (fC (.int 2)))) (fTru (fArg (cl .f_is_from) (fCons (f2 gIx (fVar 0) (fC (.int 1))) (fCons (fC (.int 0)) (fCons (f2 gSub (fArg gLen (fCons (fC (.str "abcdefgh")) fNil)) (fC (.int 1))) fNil)))))) (fArg mkLst fNil) (fC .non))) sNil)
  (sSeq (sIf (fB (f2 gEq (f2 gIx (fVar 0) (fC (.int 0))) (fC (.str "unit")))) (sRet (fIf (fB (f2 gEq (fArg gLen (fCons (fVar 0) fNil)) (fC (.int 1)))) (fArg mkLst fNil) (fC .non))) sNil)
  (sRet (fIf (fAnd (fB (f2 (gInG false "MARKS" kv_MARKS) (f2 gIx (fVar 0) (fC (.int 0))) (fC (.glo "MARKS")))) (fB (f2 gEq (fArg gLen (fCons (fVar 0) fNil)) (fC (.int 3))))) (fArg (gList false) (fCons (fSl (gSl false) (fVar 0) (fSome (fC (.int 1))) fNone) fNil)) (fC .non))))))
noncomputable def l_is_kind_0 (cl : Fn → FF) : FS :=
  (sSeq (sSet 2 (fArg (cl .f_inner_of) (fCons (fMth gPop0 (fVar 1) fNil) fNil)))
  (sSeq (sIf (fB (f2 (gIs false) (fVar 2) (fC .non))) (sRet (fC (.bl false))) sNil)
  (sExp (fMth gExtend (fVar 1) (fCons (fVar 2) fNil)))))
noncomputable def b_is_kind (cl : Fn → FF) : FS :=
  (sSeq (sSet 1 (fArg mkCel (fCons (fVar 0) fNil)))
  (sSeq (sWhile (fB (f2 gNe (fVar 1) (fArg mkLst fNil))) (l_is_kind_0 cl))
  (sRet (fC (.bl true)))))
noncomputable def b_sure_kind (cl : Fn → FF) : FS :=
  (sIf (fNot (fTru (fArg (cl .f_is_kind) (fCons (fVar 0) fNil)))) (sRaise "NoKind") sNil)
noncomputable def b_sure_sizes (cl : Fn → FF) : FS :=
  (sSeq (sSet 1 (fAndV (fIsi "list" (fVar 0)) (f2 gEq (fArg gLen (fCons (fVar 0) fNil)) (fC (.int 8)))))
  (sIf (fOr (fNot (fTru (fVar 1))) (fNot (fTru (fArg gAll (fCons (fLc false (fiL (fVar 0)) (gN 2) fYes (fArg (cl .f_is_from) (fCons (fVar 2) (fCons (fC (.int 1)) (fCons (fC (.int 999)) fNil)))) [2]) fNil))))) (sRaise "NoSizes") sNil))
noncomputable def l_power_up_to_0 (cl : Fn → FF) : FS :=
  (sSeq (sSet 2 (f2 (gMul false) (fVar 2) (fVar 0)))
  (sIf (fB (f2 (gCmp fun i j => decide (j < i)) (fVar 2) (fC (.int 5000)))) (sRet (f2 (gAdd false) (fC (.int 5000)) (fC (.int 1)))) sNil))
noncomputable def b_power_up_to (cl : Fn → FF) : FS :=
  (sSeq (sIf (fB (f2 gEq (fVar 0) (fC (.int 1)))) (sRet (fC (.int 1))) sNil)
  (sSeq (sSet 2 (fC (.int 1)))
  (sSeq (sFor (fiR1 (fCons (fVar 1) fNil)) (gN 3) (l_power_up_to_0 cl))
  (sRet (fVar 2)))))
noncomputable def b_number_up_to (cl : Fn → FF) : FS :=
  (sSeq (sIf (fB (f2 gEq (f2 gIx (fVar 0) (fC (.int 0))) (fC (.str "base")))) (sRet (f2 gIx (fVar 1) (f2 gIx (fVar 0) (fC (.int 1))))) sNil)
  (sSeq (sIf (fB (f2 gEq (f2 gIx (fVar 0) (fC (.int 0))) (fC (.str "unit")))) (sRet (fC (.int 1))) sNil)
  (sSeq (sSet 2 (fArg (cl .f_number_up_to) (fCons (f2 gIx (fVar 0) (fC (.int 1))) (fCons (fVar 1) fNil))))
  (sSeq (sSet 3 (fArg (cl .f_number_up_to) (fCons (f2 gIx (fVar 0) (fC (.int 2))) (fCons (fVar 1) fNil))))
  (sSeq (sIf (fB (f2 gEq (f2 gIx (fVar 0) (fC (.int 0))) (fC (.str "both")))) (sRet (fArg gMin (fCons (f2 (gMul false) (fVar 2) (fVar 3)) (fCons (f2 (gAdd false) (fC (.int 5000)) (fC (.int 1))) fNil)))) sNil)
  (sRet (fArg (cl .f_power_up_to) (fCons (fVar 3) (fCons (fVar 2) fNil)))))))))
noncomputable def b_sure_taken (cl : Fn → FF) : FS :=
  (sIf (fB (f2 (gIn false) (f2 gIx (fVar 0) (fC (.int 0))) (fArg mkTup (fCons (fC (.str "both")) (fCons (fC (.str "from")) fNil))))) (sSeq (sIf (fAnd (fB (f2 gEq (f2 gIx (fVar 0) (fC (.int 0))) (fC (.str "from")))) (fB (f2 (gCmp fun i j => decide (j < i)) (fArg (cl .f_number_up_to) (fCons (f2 gIx (fVar 0) (fC (.int 1))) (fCons (fVar 1) fNil))) (fC (.int 5000))))) (sRaise "TooMany") sNil)
  (sSeq (sExp (fArg (cl .f_sure_taken) (fCons (f2 gIx (fVar 0) (fC (.int 1))) (fCons (fVar 1) fNil))))
  (sExp (fArg (cl .f_sure_taken) (fCons (f2 gIx (fVar 0) (fC (.int 2))) (fCons (fVar 1) fNil)))))) sNil)
noncomputable def l_lists_of_0 (cl : Fn → FF) : FS :=
  (sSet 2 (fLc2C (fiL (fVar 2)) (gN 4) (fiL (fVar 0)) (gN 5) (f2 (gAdd false) (fVar 4) (fArg mkTup (fCons (fVar 5) fNil))) [4, 5] [5]))
noncomputable def b_lists_of (cl : Fn → FF) : FS :=
  (sSeq (sSet 2 (fArg mkCel (fCons (fArg mkTup fNil) fNil)))
  (sSeq (sFor (fiR1 (fCons (fVar 1) fNil)) (gN 3) (l_lists_of_0 cl))
  (sRet (fVar 2))))
noncomputable def b_all_worths (cl : Fn → FF) : FS :=
  (sSeq (sIf (fB (f2 gEq (f2 gIx (fVar 0) (fC (.int 0))) (fC (.str "base")))) (sRet (f1 gRngC (f2 gIx (fVar 1) (f2 gIx (fVar 0) (fC (.int 1)))))) sNil)
  (sSeq (sIf (fB (f2 gEq (f2 gIx (fVar 0) (fC (.int 0))) (fC (.str "unit")))) (sRet (fArg mkCel (fCons (fArg mkTup fNil) fNil))) sNil)
  (sSeq (sSet 2 (fArg (cl .f_all_worths) (fCons (f2 gIx (fVar 0) (fC (.int 2))) (fCons (fVar 1) fNil))))
  (sSeq (sIf (fB (f2 gEq (f2 gIx (fVar 0) (fC (.int 0))) (fC (.str "from")))) (sRet (fArg (cl .f_lists_of) (fCons (fVar 2) (fCons (fArg (cl .f_number_up_to) (fCons (f2 gIx (fVar 0) (fC (.int 1))) (fCons (fVar 1) fNil))) fNil)))) sNil)
  (sRet (fLc2C (fiL (fArg (cl .f_all_worths) (fCons (f2 gIx (fVar 0) (fC (.int 1))) (fCons (fVar 1) fNil)))) (gN 3) (fiL (fVar 2)) (gN 4) (fArg mkTup (fCons (fVar 3) (fCons (fVar 4) fNil))) [3, 4] [4]))))))
noncomputable def b_worths (cl : Fn → FF) : FS :=
  (sSeq (sExp (fArg (cl .f_sure_kind) (fCons (fVar 0) fNil)))
  (sSeq (sExp (fArg (cl .f_sure_sizes) (fCons (fVar 1) fNil)))
  (sSeq (sExp (fArg (cl .f_sure_taken) (fCons (fVar 0) (fCons (fVar 1) fNil))))
  (sSeq (sIf (fB (f2 (gCmp fun i j => decide (j < i)) (fArg (cl .f_number_up_to) (fCons (fVar 0) (fCons (fVar 1) fNil))) (fC (.int 5000)))) (sRaise "TooMany") sNil)
  (sRet (fArg (cl .f_all_worths) (fCons (fVar 0) (fCons (fVar 1) fNil))))))))
noncomputable def b__law_cell_at (cl : Fn → FF) : FS :=
  (sSeq (sIf (fB (f2 (gCmp fun i j => decide (i < j)) (fVar 1) (fArg gLen (fCons (fVar 0) fNil)))) (sRet (f2 gIx (fVar 0) (fVar 1))) sNil)
  (sRet (fC (.int 0))))
noncomputable def b__law_well (cl : Fn → FF) : FS :=
  (sRet (fArg mkCel (fCons (f2 (gMul false) (fVar 0) (fArg gInt (fCons (f2 (gCmp fun i j => decide (j ≤ i)) (fVar 0) (f2 gPow (fC (.int 10)) (fC (.int 18)))) fNil))) (fCons (f2 gMod (fVar 0) (fC (.int 2147483629))) (fCons (fC (.int 0)) fNil)))))
noncomputable def b__law_draw (cl : Fn → FF) : FS :=
  (sSeq (sIf (fB (f2 (gCmp fun i j => decide (j < i)) (f2 gIx (fVar 0) (fC (.int 0))) (fC (.int 0)))) (sSeq (sSet 3 (f2 gMod (f2 gIx (fVar 0) (fC (.int 0))) (fVar 1)))
  (sSeq (sAsg (f2 gDiv (f2 gIx (fVar 0) (fC (.int 0))) (fVar 1)) (gSb (fVar 0) (fC (.int 0))))
  (sRet (fVar 3)))) sNil)
  (sSeq (sAsg (f2 (gAdd false) (f2 gIx (fVar 0) (fC (.int 2))) (fC (.int 1))) (gSb (fVar 0) (fC (.int 2))))
  (sSeq (sSet 2 (f2 gMod (f2 (gMul false) (f2 (gAdd false) (f2 (gAdd false) (f2 gIx (fVar 0) (fC (.int 1))) (f2 (gMul false) (fC (.int 86969)) (f2 gIx (fVar 0) (fC (.int 2))))) (fC (.int 1))) (fC (.int 48271))) (fC (.int 2147483629))))
  (sSeq (sSet 2 (f2 gMod (f2 (gMul false) (fVar 2) (f2 (gAdd false) (f2 (gAdd false) (f2 gDiv (fVar 2) (fC (.int 1013))) (fC (.int 69623))) (f2 gIx (fVar 0) (fC (.int 2))))) (fC (.int 2147483587))))
  (sRet (f2 gMod (f2 gDiv (f2 gMod (f2 (gMul false) (fVar 2) (f2 (gAdd false) (f2 gDiv (fVar 2) (fC (.int 2003))) (fC (.int 40692)))) (fC (.int 2147483563))) (fC (.int 3))) (fVar 1)))))))
noncomputable def b__law_one (cl : Fn → FF) : FS :=
  (sRet (f2 gIx (fVar 1) (fArg (cl .f__law_draw) (fCons (fVar 0) (fCons (fArg gLen (fCons (fVar 1) fNil)) fNil)))))
noncomputable def b__law_kind (cl : Fn → FF) : FS :=
  (sSeq (sIf (fB (f2 (gCmp fun i j => decide (i < j)) (fVar 1) (fC (.int 2)))) (sRet (fArg (cl .f__law_one) (fCons (fVar 0) (fCons (fArg mkLst (fCons (fArg mkTup (fCons (fC (.str "base")) (fCons (fArg (cl .f__law_draw) (fCons (fVar 0) (fCons (fC (.int 3)) fNil))) fNil))) (fCons (fArg mkTup (fCons (fC (.str "base")) (fCons (fArg (cl .f__law_draw) (fCons (fVar 0) (fCons (fC (.int 8)) fNil))) fNil))) (fCons (fArg mkTup (fCons (fC (.str "base")) (fCons (fC (.int 7)) fNil))) (fCons (fArg mkTup (fCons (fC (.str "unit")) fNil)) fNil))))) fNil)))) sNil)
  (sSeq (sSet 2 (f2 (gAdd false) (fC (.int 1)) (fArg (cl .f__law_draw) (fCons (fVar 0) (fCons (f2 gSub (fVar 1) (fC (.int 1))) fNil)))))
  (sSeq (sSet 3 (fArg (cl .f__law_one) (fCons (fVar 0) (fCons (fArg mkLst (fCons (fC (.str "both")) (fCons (fC (.str "from")) fNil))) fNil))))
  (sRet (fArg mkTup (fCons (fVar 3) (fCons (fArg (cl .f__law_kind) (fCons (fVar 0) (fCons (fVar 2) fNil))) (fCons (fArg (cl .f__law_kind) (fCons (fVar 0) (fCons (f2 gSub (fVar 1) (fVar 2)) fNil))) fNil))))))))
noncomputable def b__law_sizes (cl : Fn → FF) : FS :=
  (sSeq (sSet 1 (fArg (cl .f__law_one) (fCons (fVar 0) (fCons (fArg mkLst (fCons (fC (.int 1)) (fCons (fC (.int 2)) (fCons (fC (.int 3)) (fCons (fC (.int 3)) (fCons (fC (.int 5)) fNil)))))) fNil))))
  (sRet (fLc true (fiR1 (fCons (fC (.int 8)) fNil)) (gN 2) fYes (f2 (gAdd false) (fC (.int 1)) (fArg (cl .f__law_draw) (fCons (fVar 0) (fCons (fVar 1) fNil)))) [2])))
noncomputable def l__law_power_0 (cl : Fn → FF) : FS :=
  (sSet 2 (fArg gMin (fCons (f2 (gMul false) (fVar 2) (fVar 0)) (fCons (fC (.int 5001)) fNil))))
noncomputable def b__law_power (cl : Fn → FF) : FS :=
  (sSeq (sSet 2 (fC (.int 1)))
  (sSeq (sFor (fiR1 (fCons (fArg gMin (fCons (fVar 1) (fCons (fC (.int 13)) fNil))) fNil)) (gN 3) (l__law_power_0 cl))
  (sRet (fVar 2))))
noncomputable def b__law_number (cl : Fn → FF) : FS :=
  (sSeq (sIf (fB (f2 gEq (f2 gIx (fVar 0) (fC (.int 0))) (fC (.str "base")))) (sRet (f2 gIx (fVar 1) (f2 gIx (fVar 0) (fC (.int 1))))) sNil)
  (sSeq (sIf (fB (f2 gEq (f2 gIx (fVar 0) (fC (.int 0))) (fC (.str "unit")))) (sRet (fC (.int 1))) sNil)
  (sSeq (sPar 2 3 (fCons (fArg (cl .f__law_number) (fCons (f2 gIx (fVar 0) (fC (.int 1))) (fCons (fVar 1) fNil))) (fCons (fArg (cl .f__law_number) (fCons (f2 gIx (fVar 0) (fC (.int 2))) (fCons (fVar 1) fNil))) fNil)))
  (sSeq (sIf (fB (f2 gEq (f2 gIx (fVar 0) (fC (.int 0))) (fC (.str "both")))) (sRet (fArg gMin (fCons (f2 (gMul false) (fVar 2) (fVar 3)) (fCons (fC (.int 5001)) fNil)))) sNil)
  (sRet (fArg (cl .f__law_power) (fCons (fVar 3) (fCons (fVar 2) fNil))))))))
noncomputable def b__law_taken (cl : Fn → FF) : FS :=
  (sSeq (sIf (fB (f2 (gCmp fun i j => decide (i < j)) (fArg gLen (fCons (fVar 0) fNil)) (fC (.int 3)))) (sRet (fC (.int 0))) sNil)
  (sSeq (sSet 2 (fArg gMax (fCons (fArg (cl .f__law_taken) (fCons (f2 gIx (fVar 0) (fC (.int 1))) (fCons (fVar 1) fNil))) (fCons (fArg (cl .f__law_taken) (fCons (f2 gIx (fVar 0) (fC (.int 2))) (fCons (fVar 1) fNil))) fNil))))
  (sRet (fArg gMax (fCons (fVar 2) (fCons (f2 (gMul false) (fArg (cl .f__law_number) (fCons (f2 gIx (fVar 0) (fC (.int 1))) (fCons (fVar 1) fNil))) (fArg gInt (fCons (f2 gEq (f2 gIx (fVar 0) (fC (.int 0))) (fC (.str "from"))) fNil))) fNil))))))
noncomputable def l__law_all_0 (cl : Fn → FF) : FS :=
  (sSet 3 (f2 (gAdd false) (fVar 3) (fLc false (fiL (fVar 2)) (gN 8) fYes (fArg mkTup (fCons (fVar 5) (fCons (fVar 8) fNil))) [8])))
noncomputable def l__law_all_1 (cl : Fn → FF) : FS :=
  (sSet 6 (f2 (gAdd false) (fVar 6) (fLc false (fiL (fVar 2)) (gN 8) fYes (f2 (gAdd false) (fVar 7) (fArg mkTup (fCons (fVar 8) fNil))) [8])))
noncomputable def l__law_all_2 (cl : Fn → FF) : FS :=
  (sSeq (sSet 6 (fArg mkLst fNil))
  (sSeq (sFor (fiL (fVar 3)) (gN 7) (l__law_all_1 cl))
  (sSet 3 (fVar 6))))
noncomputable def b__law_all (cl : Fn → FF) : FS :=
  (sSeq (sIf (fB (f2 gEq (f2 gIx (fVar 0) (fC (.int 0))) (fC (.str "base")))) (sRet (f1 gRng (f2 gIx (fVar 1) (f2 gIx (fVar 0) (fC (.int 1)))))) sNil)
  (sSeq (sIf (fB (f2 gEq (f2 gIx (fVar 0) (fC (.int 0))) (fC (.str "unit")))) (sRet (fArg mkLst (fCons (fArg mkTup fNil) fNil))) sNil)
  (sSeq (sSet 2 (fArg (cl .f__law_all) (fCons (f2 gIx (fVar 0) (fC (.int 2))) (fCons (fVar 1) fNil))))
  (sSeq (sIf (fB (f2 gEq (f2 gIx (fVar 0) (fC (.int 0))) (fC (.str "both")))) (sSeq (sSet 3 (fArg mkLst fNil))
  (sSeq (sFor (fiL (fArg (cl .f__law_all) (fCons (f2 gIx (fVar 0) (fC (.int 1))) (fCons (fVar 1) fNil)))) (gN 5) (l__law_all_0 cl))
  (sRet (fVar 3)))) sNil)
  (sSeq (sSet 3 (fArg mkLst (fCons (fArg mkTup fNil) fNil)))
  (sSeq (sFor (fiR1 (fCons (fArg (cl .f__law_number) (fCons (f2 gIx (fVar 0) (fC (.int 1))) (fCons (fVar 1) fNil))) fNil)) (gN 4) (l__law_all_2 cl))
  (sRet (fVar 3))))))))
noncomputable def b__law_asked (cl : Fn → FF) : FS :=
  (sSeq (sSet 2 (fArg (cl .f__law_number) (fCons (fVar 0) (fCons (fVar 1) fNil))))
  (sSeq (sIf (fOr (fB (f2 (gLtD true) (fVar 2) (fC (.int 5000)))) (fB (f2 (gLtD true) (fArg (cl .f__law_taken) (fCons (fVar 0) (fCons (fVar 1) fNil))) (fC (.int 5000))))) (sRet (fC (.bl true))) sNil)
  (sSeq (sSet 3 (fArg (gList false) (fCons (fVar 1) fNil)))
  (sSeq (sSet 4 (fArg (cl .f_worths) (fCons (fVar 0) (fCons (fVar 1) fNil))))
  (sSeq (sIf (fOr (fNot (fTru (fIsi "list" (fVar 4)))) (fOr (fB (f2 gNe (fArg gLen (fCons (fVar 4) fNil)) (fVar 2))) (fB (f2 gNe (fVar 1) (fVar 3))))) (sRet (fC (.bl false))) sNil)
  (sSeq (sIf (fB (f2 (gLtD true) (fVar 2) (fC (.int 300)))) (sRet (fAndV (f2 (gLtD false) (f2 gIx (fVar 4) (fC (.int 0))) (f2 gIx (fVar 4) (f1 gNeg (fC (.int 1))))) (f2 gEq (fSl (gSl false) (fVar 4) fNone (fSome (fC (.int 200)))) (fArg gSortedE (fCons (fSl (gSl false) (fVar 4) fNone (fSome (fC (.int 200)))) fNil))))) sNil)
  (sSeq (sIf (fB (f2 (gLtD true) (fArg (cl .f__law_taken) (fCons (fVar 0) (fCons (fVar 1) fNil))) (fC (.int 300)))) (sRet (f2 gEq (fArg gSortedE (fCons (fVar 4) fNil)) (fVar 4))) sNil)
  (sSeq (sIf (fOr (fB (f2 gNe (fVar 4) (fArg (cl .f__law_all) (fCons (fVar 0) (fCons (fVar 1) fNil))))) (fB (f2 gNe (fVar 4) (f1 gSortSetK (fVar 4))))) (sRet (fC (.bl false))) sNil)
  (sSeq (sExp (fMth gRev (fVar 4) fNil))
  (sSeq (sExp (fMth gAppend (fVar 4) (fCons (fC .non) fNil)))
  (sRet (f2 gEq (fArg (cl .f_worths) (fCons (fVar 0) (fCons (fVar 1) fNil))) (fArg (cl .f__law_all) (fCons (fVar 0) (fCons (fVar 1) fNil)))))))))))))))
noncomputable def l__law_great_right_0 (cl : Fn → FF) : FS :=
  (sSet 4 (f2 (gAdd false) (fVar 4) (fLc false (fiR1 (fCons (f2 gIx (fVar 3) (fVar 2)) fNil)) (gN 7) fYes (fArg mkTup (fCons (fVar 5) (fCons (fVar 7) fNil))) [7])))
noncomputable def b__law_great_right (cl : Fn → FF) : FS :=
  (sSeq (sPar 1 2 (fCons (fArg (cl .f__law_draw) (fCons (fVar 0) (fCons (fC (.int 8)) fNil))) (fCons (fArg (cl .f__law_draw) (fCons (fVar 0) (fCons (fC (.int 8)) fNil))) fNil)))
  (sSeq (sSet 3 (fLc true (fiR1 (fCons (fC (.int 8)) fNil)) (gN 6) fYes (f2 (gAdd false) (fC (.int 2)) (fArg (cl .f__law_draw) (fCons (fVar 0) (fCons (fC (.int 60)) fNil)))) [6]))
  (sSeq (sAsg (fArg (cl .f__law_one) (fCons (fVar 0) (fCons (fArg mkLst (fCons (f2 (gAdd false) (fC (.int 11)) (fArg (cl .f__law_draw) (fCons (fVar 0) (fCons (fC (.int 9)) fNil)))) (fCons (fC (.int 70)) (fCons (fC (.int 999)) fNil)))) fNil))) (gSb (fVar 3) (fVar 1)))
  (sSeq (sIf (fB (f2 gNe (fArg (cl .f_worths) (fCons (fArg mkTup (fCons (fC (.str "base")) (fCons (fVar 1) fNil))) (fCons (fVar 3) fNil))) (f1 gRng (f2 gIx (fVar 3) (fVar 1))))) (sRet (fC (.bl false))) sNil)
  (sSeq (sIf (fB (f2 (gCmp fun i j => decide (j < i)) (f2 gIx (fVar 3) (fVar 1)) (fC (.int 70)))) (sAsg (fC (.int 20)) (gSb (fVar 3) (fVar 1))) sNil)
  (sSeq (sSet 4 (fArg mkLst fNil))
  (sSeq (sFor (fiR1 (fCons (f2 gIx (fVar 3) (fVar 1)) fNil)) (gN 5) (l__law_great_right_0 cl))
  (sSeq (sIf (fOr (fB (f2 (gCmp fun i j => decide (j < i)) (fArg (cl .f__law_draw) (fCons (fVar 0) (fCons (fC (.int 3)) fNil))) (fC (.int 0)))) (fB (f2 (gCmp fun i j => decide (j < i)) (fArg gLen (fCons (fVar 4) fNil)) (fC (.int 5000))))) (sRet (fC (.bl true))) sNil)
  (sSeq (sIf (fB (f2 gNe (fArg (cl .f_worths) (fCons (fArg mkTup (fCons (fC (.str "both")) (fCons (fArg mkTup (fCons (fC (.str "base")) (fCons (fVar 1) fNil))) (fCons (fArg mkTup (fCons (fC (.str "base")) (fCons (fVar 2) fNil))) fNil)))) (fCons (fVar 3) fNil))) (fVar 4))) (sRet (fC (.bl false))) sNil)
  (sRet (f2 gEq (fArg (cl .f_worths) (fCons (fArg mkTup (fCons (fC (.str "from")) (fCons (fArg mkTup (fCons (fC (.str "both")) (fCons (fArg mkTup (fCons (fC (.str "unit")) fNil)) (fCons (fArg mkTup (fCons (fC (.str "base")) (fCons (fVar 2) fNil))) fNil)))) (fCons (fArg mkTup (fCons (fC (.str "unit")) fNil)) fNil)))) (fCons (fVar 3) fNil))) (fArg mkLst (fCons (f2 gMulT (fArg mkTup (fCons (fArg mkTup fNil) fNil)) (f2 gIx (fVar 3) (fVar 2))) fNil)))))))))))))
noncomputable def l__law_deep_right_0 (cl : Fn → FF) : FS :=
  (sSeq (sSet 4 (fArg (cl .f__law_draw) (fCons (fVar 0) (fCons (fC (.int 3)) fNil))))
  (sIf (fB (f2 gEq (fVar 4) (fC (.int 0)))) (sPar 1 2 (fCons (fArg mkTup (fCons (fC (.str "from")) (fCons (fArg mkTup (fCons (fC (.str "unit")) fNil)) (fCons (fVar 1) fNil)))) (fCons (fLc false (fiL (fVar 2)) (gN 5) fYes (fArg mkTup (fCons (fVar 5) fNil)) [5]) fNil))) (sIf (fB (f2 gEq (fVar 4) (fC (.int 1)))) (sPar 1 2 (fCons (fArg mkTup (fCons (fC (.str "both")) (fCons (fArg mkTup (fCons (fC (.str "unit")) fNil)) (fCons (fVar 1) fNil)))) (fCons (fLc false (fiL (fVar 2)) (gN 5) fYes (fArg mkTup (fCons (fArg mkTup fNil) (fCons (fVar 5) fNil))) [5]) fNil))) (sPar 1 2 (fCons (fArg mkTup (fCons (fC (.str "both")) (fCons (fVar 1) (fCons (fArg mkTup (fCons (fC (.str "unit")) fNil)) fNil)))) (fCons (fLc false (fiL (fVar 2)) (gN 5) fYes (fArg mkTup (fCons (fVar 5) (fCons (fArg mkTup fNil) fNil))) [5]) fNil))))))
noncomputable def b__law_deep_right (cl : Fn → FF) : FS :=
  (sSeq (sPar 1 2 (fCons (fArg mkTup (fCons (fC (.str "base")) (fCons (fC (.int 3)) fNil))) (fCons (fArg mkLst (fCons (fC (.int 0)) (fCons (fC (.int 1)) (fCons (fC (.int 2)) fNil)))) fNil)))
  (sSeq (sFor (fiR1 (fCons (f2 (gAdd false) (fC (.int 60)) (fArg (cl .f__law_draw) (fCons (fVar 0) (fCons (fC (.int 31)) fNil)))) fNil)) (gN 3) (l__law_deep_right_0 cl))
  (sRet (f2 gEq (fArg (cl .f_worths) (fCons (fVar 1) (fCons (fArg mkLst (fCons (fC (.int 1)) (fCons (fC (.int 2)) (fCons (fC (.int 1)) (fCons (fC (.int 3)) (fCons (fC (.int 1)) (fCons (fC (.int 1)) (fCons (fC (.int 1)) (fCons (fC (.int 1)) fNil))))))))) fNil))) (fVar 2)))))
noncomputable def l__law_right_0 (cl : Fn → FF) : FS :=
  (sSeq (sAsg (f2 (gAdd false) (fC (.int 1)) (fArg (cl .f__law_draw) (fCons (fVar 0) (fCons (fC (.int 4)) fNil)))) (gSb (fVar 2) (fArg (cl .f__law_draw) (fCons (fVar 0) (fCons (fC (.int 8)) fNil)))))
  (sIf (fNot (fTru (fArg (cl .f__law_asked) (fCons (fVar 1) (fCons (fVar 2) fNil))))) (sRet (fC (.bl false))) sNil))
noncomputable def b__law_right (cl : Fn → FF) : FS :=
  (sSeq (sSet 1 (fArg (cl .f__law_kind) (fCons (fVar 0) (fCons (f2 (gAdd false) (fC (.int 1)) (fArg (cl .f__law_draw) (fCons (fVar 0) (fCons (fC (.int 4)) fNil)))) fNil))))
  (sSeq (sSet 2 (fArg (cl .f__law_sizes) (fCons (fVar 0) fNil)))
  (sSeq (sIf (fOr (fNot (fTru (fArg (cl .f__law_asked) (fCons (fVar 1) (fCons (fVar 2) fNil))))) (fOr (fNot (fTru (fArg (cl .f__law_great_right) (fCons (fVar 0) fNil)))) (fNot (fTru (fArg (cl .f__law_deep_right) (fCons (fVar 0) fNil)))))) (sRet (fC (.bl false))) sNil)
  (sSeq (sFor (fiR1 (fCons (fC (.int 3)) fNil)) (gN 3) (l__law_right_0 cl))
  (sRet (fC (.bl true)))))))
noncomputable def l_law_0 (cl : Fn → FF) : FS :=
  (sIf (fNot (fTru (fArg (cl .f__law_right) (fCons (fArg (cl .f__law_well) (fCons (fVar 1) fNil)) fNil)))) (sRet (fC (.bl false))) sNil)
noncomputable def b_law (cl : Fn → FF) : FS :=
  (sSeq (sFor (fiL (f2 (gAdd false) (fArg mkLst (fCons (fArg (cl .f__law_cell_at) (fCons (fVar 0) (fCons (fC (.int 0)) fNil))) fNil)) (fSl (gSl false) (fVar 0) (fSome (fC (.int 1))) (fSome (fC (.int 5)))))) (gN 1) (l_law_0 cl))
  (sRet (fC (.bl true))))
noncomputable def ev : Nat → Fn → FF
  | 0, _ => fun _ _ => .no
  | n + 1, .f_is_from => fnB 3 3 (b_is_from (ev n))
  | n + 1, .f_inner_of => fnB 1 1 (b_inner_of (ev n))
  | n + 1, .f_is_kind => fnC 1 3 (b_is_kind (ev n))
  | n + 1, .f_sure_kind => fnB 1 1 (b_sure_kind (ev n))
  | n + 1, .f_sure_sizes => fnB 1 3 (b_sure_sizes (ev n))
  | n + 1, .f_power_up_to => fnB 2 4 (b_power_up_to (ev n))
  | n + 1, .f_number_up_to => fnB 2 4 (b_number_up_to (ev n))
  | n + 1, .f_sure_taken => fnB 2 2 (b_sure_taken (ev n))
  | n + 1, .f_lists_of => fnB 2 6 (b_lists_of (ev n))
  | n + 1, .f_all_worths => fnB 2 5 (b_all_worths (ev n))
  | n + 1, .f_worths => fnB 2 2 (b_worths (ev n))
  | n + 1, .f__law_cell_at => fnB 2 2 (b__law_cell_at (ev n))
  | n + 1, .f__law_well => fnB 1 1 (b__law_well (ev n))
  | n + 1, .f__law_draw => fnB 2 4 (b__law_draw (ev n))
  | n + 1, .f__law_one => fnB 2 2 (b__law_one (ev n))
  | n + 1, .f__law_kind => fnB 2 4 (b__law_kind (ev n))
  | n + 1, .f__law_sizes => fnB 1 3 (b__law_sizes (ev n))
  | n + 1, .f__law_power => fnB 2 4 (b__law_power (ev n))
  | n + 1, .f__law_number => fnB 2 4 (b__law_number (ev n))
  | n + 1, .f__law_taken => fnB 2 3 (b__law_taken (ev n))
  | n + 1, .f__law_all => fnB 2 9 (b__law_all (ev n))
  | n + 1, .f__law_asked => fnC 2 5 (b__law_asked (ev n))
  | n + 1, .f__law_great_right => fnC 1 8 (b__law_great_right (ev n))
  | n + 1, .f__law_deep_right => fnC 1 6 (b__law_deep_right (ev n))
  | n + 1, .f__law_right => fnC 1 4 (b__law_right (ev n))
  | n + 1, .f_law => fnB 1 2 (b_law (ev n))
@[reducible] def calOf [Wo] (P : Program) (w : World) (K : PySem.W.Frag) (mg : Str → Option Value) (base : Heap) (k : Nat) (g : Fn) (f : FF) : Prop := match g with
  | .f_is_from => Cal P w K mg base k "is_from" f
  | .f_inner_of => Cal P w K mg base k "inner_of" f
  | .f_is_kind => Cal P w K mg base k "is_kind" f
  | .f_sure_kind => Cal P w K mg base k "sure_kind" f
  | .f_sure_sizes => Cal P w K mg base k "sure_sizes" f
  | .f_power_up_to => Cal P w K mg base k "power_up_to" f
  | .f_number_up_to => Cal P w K mg base k "number_up_to" f
  | .f_sure_taken => Cal P w K mg base k "sure_taken" f
  | .f_lists_of => Cal P w K mg base k "lists_of" f
  | .f_all_worths => Cal P w K mg base k "all_worths" f
  | .f_worths => Cal P w K mg base k "worths" f
  | .f__law_cell_at => Cal P w K mg base k "_law_cell_at" f
  | .f__law_well => Cal P w K mg base k "_law_well" f
  | .f__law_draw => Cal P w K mg base k "_law_draw" f
  | .f__law_one => Cal P w K mg base k "_law_one" f
  | .f__law_kind => Cal P w K mg base k "_law_kind" f
  | .f__law_sizes => Cal P w K mg base k "_law_sizes" f
  | .f__law_power => Cal P w K mg base k "_law_power" f
  | .f__law_number => Cal P w K mg base k "_law_number" f
  | .f__law_taken => Cal P w K mg base k "_law_taken" f
  | .f__law_all => Cal P w K mg base k "_law_all" f
  | .f__law_asked => Cal P w K mg base k "_law_asked" f
  | .f__law_great_right => Cal P w K mg base k "_law_great_right" f
  | .f__law_deep_right => Cal P w K mg base k "_law_deep_right" f
  | .f__law_right => Cal P w K mg base k "_law_right" f
  | .f_law => Cal P w K mg base k "law" f
structure Txt (K : PySem.W.Frag) (P : Params) (mg : Str → Option Value) : Prop where
  t_is_from : TF K mg "is_from" s_is_from ["thing", "low", "high"]
  t_inner_of : TF K mg "inner_of" s_inner_of ["thing"]
  t_is_kind : TF K mg "is_kind" s_is_kind ["thing"]
  t_sure_kind : TF K mg "sure_kind" s_sure_kind ["thing"]
  t_sure_sizes : TF K mg "sure_sizes" s_sure_sizes ["thing"]
  t_power_up_to : TF K mg "power_up_to" s_power_up_to ["base", "times"]
  t_number_up_to : TF K mg "number_up_to" s_number_up_to ["kind", "sizes"]
  t_sure_taken : TF K mg "sure_taken" s_sure_taken ["kind", "sizes"]
  t_lists_of : TF K mg "lists_of" s_lists_of ["things", "many"]
  t_all_worths : TF K mg "all_worths" s_all_worths ["kind", "sizes"]
  t_worths : TF K mg "worths" s_worths ["kind", "sizes"]
  t__law_cell_at : TF K mg "_law_cell_at" s__law_cell_at ["_law_script", "_law_k"]
  t__law_well : TF K mg "_law_well" s__law_well ["_law_cell"]
  t__law_draw : TF K mg "_law_draw" s__law_draw ["_law_well_here", "_law_below"]
  t__law_one : TF K mg "_law_one" s__law_one ["_law_well_here", "_law_some"]
  t__law_kind : TF K mg "_law_kind" s__law_kind ["_law_well_here", "_law_leaves"]
  t__law_sizes : TF K mg "_law_sizes" s__law_sizes ["_law_well_here"]
  t__law_power : TF K mg "_law_power" s__law_power ["_law_base", "_law_times"]
  t__law_number : TF K mg "_law_number" s__law_number ["_law_kind_here", "_law_sizes_here"]
  t__law_taken : TF K mg "_law_taken" s__law_taken ["_law_kind_here", "_law_sizes_here"]
  t__law_all : TF K mg "_law_all" s__law_all ["_law_kind_here", "_law_sizes_here"]
  t__law_asked : TF K mg "_law_asked" s__law_asked ["_law_kind_here", "_law_sizes_here"]
  t__law_great_right : TF K mg "_law_great_right" s__law_great_right ["_law_well_here"]
  t__law_deep_right : TF K mg "_law_deep_right" s__law_deep_right ["_law_well_here"]
  t__law_right : TF K mg "_law_right" s__law_right ["_law_well_here"]
  m_all : mg "all" = none
  m_bool : mg "bool" = none
  m_int : mg "int" = none
  m_isinstance : mg "isinstance" = none
  m_len : mg "len" = none
  m_list : mg "list" = none
  m_max : mg "max" = none
  m_min : mg "min" = none
  m_range : mg "range" = none
  m_set : mg "set" = none
  m_sorted : mg "sorted" = none
  m_str : mg "str" = none
  m_tuple : mg "tuple" = none
  c_BASES : GC mg "BASES" (.int 8)
  c_LETTERS : GC mg "LETTERS" (.str "abcdefgh")
  c_MARKS : GD K P mg "MARKS" kv_MARKS
  c_MOST_SIZE : GC mg "MOST_SIZE" (.int 999)
  c_MOST_WORTHS : GC mg "MOST_WORTHS" (.int 5000)
  x_NoKind : ExcF K mg "NoKind"
  x_NoSizes : ExcF K mg "NoSizes"
  x_TooMany : ExcF K mg "TooMany"
section
variable {P : Program} {w : World} {K : PySem.W.Frag} {mg : Str → Option Value} {base : Heap}
theorem ok_is_from {k : Nat} {cl : Fn → FF} [Wo] (T : Txt K w.params mg) (hW : Wo.ww = w) (C : ∀ g : Fn, g ≠ .f_law → calOf P w K mg base k g (cl g)) (f : Addr) (cdv : Value) (A : Around) (outer : List Env) (s : Shared) (H : Hp) (E : XK) (hr : RoomG k (A.deeper (envOfC "is_from" (defScope s_is_from) s.heap.objs.size f cdv))) :
    PSs (cxOf (L2.CX P w) P w K mg base ["thing", "low", "high"] "is_from" (defScope s_is_from) f cdv A outer s H E) (defBody s_is_from) (tS (cxOf (L2.CX P w) P w K mg base ["thing", "low", "high"] "is_from" (defScope s_is_from) f cdv A outer s H E) (fun c d _ H => E c d H) (b_is_from cl)) := by
  have tk : Takes (cxOf (L2.CX P w) P w K mg base ["thing", "low", "high"] "is_from" (defScope s_is_from) f cdv A outer s H E) (fun c d _ H => E c d H) := takes_of rfl rfl rfl rfl
  have nd := sc_is_from.nd
  exact (q_last (q_ret (q_and (q_isi rfl T.m_isinstance rfl T.m_int (by decide +kernel) (by decide) (q_var 0)) (q_and (q_not (q_isi rfl T.m_isinstance rfl T.m_bool (by decide +kernel) (by decide) (q_var 0))) (q_one (q_chain op_le (cmp_v _) op_le (cmp_v _) (q_var 1) (q_var 0) (q_var 2)))))))
theorem ok_inner_of {k : Nat} {cl : Fn → FF} [Wo] (T : Txt K w.params mg) (hW : Wo.ww = w) (C : ∀ g : Fn, g ≠ .f_law → calOf P w K mg base k g (cl g)) (f : Addr) (cdv : Value) (A : Around) (outer : List Env) (s : Shared) (H : Hp) (E : XK) (hr : RoomG k (A.deeper (envOfC "inner_of" (defScope s_inner_of) s.heap.objs.size f cdv))) :
    PSs (cxOf (L2.CX P w) P w K mg base ["thing"] "inner_of" (defScope s_inner_of) f cdv A outer s H E) (defBody s_inner_of) (tS (cxOf (L2.CX P w) P w K mg base ["thing"] "inner_of" (defScope s_inner_of) f cdv A outer s H E) (fun c d _ H => E c d H) (b_inner_of cl)) := by
  have tk : Takes (cxOf (L2.CX P w) P w K mg base ["thing"] "inner_of" (defScope s_inner_of) f cdv A outer s H E) (fun c d _ H => E c d H) := takes_of rfl rfl rfl rfl
  have nd := sc_inner_of.nd
  exact (q_seq (q_ifS (PW.pt (qw_or (qt_not (qt_tru (q_isi rfl T.m_isinstance rfl T.m_tuple (by decide +kernel) (by decide) (q_var 0)))) (qw_or (qt_cmp (op_eqU (by have z := hu2 hr; exact z)) eqP_v (q_callB call_len len_v rfl T.m_len PySem.boot_len (q_cons (q_var 0) q_nil)) q_int (nomark _)) (qw_one (qt_not (qt_tru (q_isi rfl T.m_isinstance rfl T.m_str (by decide +kernel) (by decide) (q_ix (q_var 0) q_int)))))))) (q_last (q_ret q_non)) q_snil)
    (q_seq (q_ifS (qt_cmp (op_eqU (by have z := hu2 hr; exact z)) eqP_v (q_ix (q_var 0) q_int) q_str (nomark _)) (q_last (q_ret (q_if (PW.pt (qw_and (qt_cmp (op_eqU (by have z := hu2 hr; exact z)) eqP_v (q_callB call_len len_v rfl T.m_len PySem.boot_len (q_cons (q_var 0) q_nil)) q_int (nomark _)) (qw_one (qt_tru (q_call (C .f_is_from (fun z => nomatch z)) hr tk rfl (q_cons (q_ix (q_var 0) q_int) (q_cons q_int (q_cons (q_op op_sub sub_v (q_callB call_len len_v rfl T.m_len PySem.boot_len (q_cons (q_gc T.c_LETTERS rfl) q_nil)) q_int) q_nil)))))))) (q_lst q_nil) q_non))) q_snil)
    (q_seq (q_ifS (qt_cmp (op_eqU (by have z := hu2 hr; exact z)) eqP_v (q_ix (q_var 0) q_int) q_str (nomark _)) (q_last (q_ret (q_if (qt_cmp (op_eqU (by have z := hu2 hr; exact z)) eqP_v (q_callB call_len len_v rfl T.m_len PySem.boot_len (q_cons (q_var 0) q_nil)) q_int (nomark _)) (q_lst q_nil) q_non))) q_snil)
    (q_last (q_ret (q_if (PW.pt (qw_and (qt_inG T.c_MARKS (q_ix (q_var 0) q_int) (q_gd T.c_MARKS rfl)) (qw_one (qt_cmp (op_eqU (by have z := hu2 hr; exact z)) eqP_v (q_callB call_len len_v rfl T.m_len PySem.boot_len (q_cons (q_var 0) q_nil)) q_int (nomark _))))) (q_callTy call_list_of list_v rfl T.m_list (by decide +kernel) (q_cons (q_slice (q_var 0) (q_some q_int) q_none) q_nil)) q_non))))))
theorem ok_is_kind {k : Nat} {cl : Fn → FF} [Wo] (T : Txt K w.params mg) (hW : Wo.ww = w) (C : ∀ g : Fn, g ≠ .f_law → calOf P w K mg base k g (cl g)) (f : Addr) (cdv : Value) (A : Around) (outer : List Env) (s : Shared) (H : Hp) (E : XK) (hr : RoomG k (A.deeper (envOfC "is_kind" (defScope s_is_kind) s.heap.objs.size f cdv))) :
    PSs (cxOf (L2.CX P w) P w K mg base ["thing", "left", "inner"] "is_kind" (defScope s_is_kind) f cdv A outer s H E) (defBody s_is_kind) (tS (cxOf (L2.CX P w) P w K mg base ["thing", "left", "inner"] "is_kind" (defScope s_is_kind) f cdv A outer s H E) (fun c d _ H => E c d H) (b_is_kind cl)) := by
  have tk : Takes (cxOf (L2.CX P w) P w K mg base ["thing", "left", "inner"] "is_kind" (defScope s_is_kind) f cdv A outer s H E) (fun c d _ H => E c d H) := takes_of rfl rfl rfl rfl
  have nd := sc_is_kind.nd
  exact (q_seq (q_set (i := 1) nd rfl (by first | exact Or.inl rfl | exact Or.inr rfl) (q_cel (q_cons (q_var 0) q_nil)))
    (q_seq (q_while (passes_of rfl) (qt_cmp (op_neU (by have z := hu2 hr; exact z)) neP_v (q_var 1) (q_lst q_nil) (nomark _)) (q_seq (q_set (i := 2) nd rfl (by first | exact Or.inl rfl | exact Or.inr rfl) (q_call (C .f_inner_of (fun z => nomatch z)) hr tk rfl (q_cons (q_mth0 PySem.F.slot_list_pop PySem.F.type_list_pop mt_pop pop0_v (q_var 1)) q_nil)))
    (q_seq (q_ifS (qt_cmp op_isU isU_v (q_var 2) q_non (nomark _)) (q_last (q_ret q_bl)) q_snil)
    (q_last (q_expr (q_mth PySem.F.slot_list_extend PySem.F.type_list_extend mt_extend extend_v (q_var 1) (q_cons (q_var 2) q_nil)))))))
    (q_last (q_ret q_bl))))
theorem ok_sure_kind {k : Nat} {cl : Fn → FF} [Wo] (T : Txt K w.params mg) (hW : Wo.ww = w) (C : ∀ g : Fn, g ≠ .f_law → calOf P w K mg base k g (cl g)) (f : Addr) (cdv : Value) (A : Around) (outer : List Env) (s : Shared) (H : Hp) (E : XK) (hr : RoomG k (A.deeper (envOfC "sure_kind" (defScope s_sure_kind) s.heap.objs.size f cdv))) :
    PSs (cxOf (L2.CX P w) P w K mg base ["thing"] "sure_kind" (defScope s_sure_kind) f cdv A outer s H E) (defBody s_sure_kind) (tS (cxOf (L2.CX P w) P w K mg base ["thing"] "sure_kind" (defScope s_sure_kind) f cdv A outer s H E) (fun c d _ H => E c d H) (b_sure_kind cl)) := by
  have tk : Takes (cxOf (L2.CX P w) P w K mg base ["thing"] "sure_kind" (defScope s_sure_kind) f cdv A outer s H E) (fun c d _ H => E c d H) := takes_of rfl rfl rfl rfl
  have nd := sc_sure_kind.nd
  exact (q_last (q_ifS (qt_not (qt_tru (q_call (C .f_is_kind (fun z => nomatch z)) hr tk rfl (q_cons (q_var 0) q_nil)))) (q_last (q_raise rfl tk T.x_NoKind rfl)) q_snil))
theorem ok_sure_sizes {k : Nat} {cl : Fn → FF} [Wo] (T : Txt K w.params mg) (hW : Wo.ww = w) (C : ∀ g : Fn, g ≠ .f_law → calOf P w K mg base k g (cl g)) (f : Addr) (cdv : Value) (A : Around) (outer : List Env) (s : Shared) (H : Hp) (E : XK) (hr : RoomG k (A.deeper (envOfC "sure_sizes" (defScope s_sure_sizes) s.heap.objs.size f cdv))) :
    PSs (cxOf (L2.CX P w) P w K mg base ["thing", "good", "size"] "sure_sizes" (defScope s_sure_sizes) f cdv A outer s H E) (defBody s_sure_sizes) (tS (cxOf (L2.CX P w) P w K mg base ["thing", "good", "size"] "sure_sizes" (defScope s_sure_sizes) f cdv A outer s H E) (fun c d _ H => E c d H) (b_sure_sizes cl)) := by
  have tk : Takes (cxOf (L2.CX P w) P w K mg base ["thing", "good", "size"] "sure_sizes" (defScope s_sure_sizes) f cdv A outer s H E) (fun c d _ H => E c d H) := takes_of rfl rfl rfl rfl
  have nd := sc_sure_sizes.nd
  exact (q_seq (q_set (i := 1) nd rfl (by first | exact Or.inl rfl | exact Or.inr rfl) (q_and (q_isi rfl T.m_isinstance rfl T.m_list (by decide +kernel) (by decide) (q_var 0)) (q_one (q_cmp (op_eqU (by have z := hu2 hr; exact z)) eqP_v (q_callB call_len len_v rfl T.m_len PySem.boot_len (q_cons (q_var 0) q_nil)) (q_gc T.c_BASES rfl) (nomark _)))))
    (q_last (q_ifS (PW.pt (qw_or (qt_not (qt_tru (q_var 1))) (qw_one (qt_not (qt_tru (q_callB (cr_all rfl) all_v rfl T.m_all (by decide +kernel) (q_cons (q_lc (own := [("size", 2)]) rfl nd (qi_list (q_var 0)) (blkOk_by (own := [("size", 2)]) (by rfl)) (by decide) (fun _ _ _ _ _ => (q_gn (i := 2) nd rfl (by first | exact Or.inl rfl | exact Or.inr rfl))) (fun _ _ _ _ _ => qts_nil) (fun _ _ _ _ _ => (q_call (C .f_is_from (fun z => nomatch z)) hr takes0 rfl (q_cons (q_var 2) (q_cons q_int (q_cons (q_gc T.c_MOST_SIZE rfl) q_nil)))))) q_nil))))))) (q_last (q_raise rfl tk T.x_NoSizes rfl)) q_snil)))
theorem ok_power_up_to {k : Nat} {cl : Fn → FF} [Wo] (T : Txt K w.params mg) (hW : Wo.ww = w) (C : ∀ g : Fn, g ≠ .f_law → calOf P w K mg base k g (cl g)) (f : Addr) (cdv : Value) (A : Around) (outer : List Env) (s : Shared) (H : Hp) (E : XK) (hr : RoomG k (A.deeper (envOfC "power_up_to" (defScope s_power_up_to) s.heap.objs.size f cdv))) :
    PSs (cxOf (L2.CX P w) P w K mg base ["base", "times", "found", "turn"] "power_up_to" (defScope s_power_up_to) f cdv A outer s H E) (defBody s_power_up_to) (tS (cxOf (L2.CX P w) P w K mg base ["base", "times", "found", "turn"] "power_up_to" (defScope s_power_up_to) f cdv A outer s H E) (fun c d _ H => E c d H) (b_power_up_to cl)) := by
  have tk : Takes (cxOf (L2.CX P w) P w K mg base ["base", "times", "found", "turn"] "power_up_to" (defScope s_power_up_to) f cdv A outer s H E) (fun c d _ H => E c d H) := takes_of rfl rfl rfl rfl
  have nd := sc_power_up_to.nd
  exact (q_seq (q_ifS (qt_cmp (op_eqU (by have z := hu2 hr; exact z)) eqP_v (q_var 0) q_int (nomark _)) (q_last (q_ret q_int)) q_snil)
    (q_seq (q_set (i := 2) nd rfl (by first | exact Or.inl rfl | exact Or.inr rfl) q_int)
    (q_seq (q_for (passes_of rfl) rfl (qi_range1 rfl T.m_range (q_cons (q_var 1) q_nil)) (q_gn (i := 3) nd rfl (by first | exact Or.inl rfl | exact Or.inr rfl)) (q_seq (q_set (i := 2) nd rfl (by first | exact Or.inl rfl | exact Or.inr rfl) (q_op op_mulU mulU_v (q_var 2) (q_var 0)))
    (q_last (q_ifS (qt_cmp op_gt (cmp_v _) (q_var 2) (q_gc T.c_MOST_WORTHS rfl) (nomark _)) (q_last (q_ret (q_op op_addU addU_v (q_gc T.c_MOST_WORTHS rfl) q_int))) q_snil))))
    (q_last (q_ret (q_var 2))))))
theorem ok_number_up_to {k : Nat} {cl : Fn → FF} [Wo] (T : Txt K w.params mg) (hW : Wo.ww = w) (C : ∀ g : Fn, g ≠ .f_law → calOf P w K mg base k g (cl g)) (f : Addr) (cdv : Value) (A : Around) (outer : List Env) (s : Shared) (H : Hp) (E : XK) (hr : RoomG k (A.deeper (envOfC "number_up_to" (defScope s_number_up_to) s.heap.objs.size f cdv))) :
    PSs (cxOf (L2.CX P w) P w K mg base ["kind", "sizes", "one", "other"] "number_up_to" (defScope s_number_up_to) f cdv A outer s H E) (defBody s_number_up_to) (tS (cxOf (L2.CX P w) P w K mg base ["kind", "sizes", "one", "other"] "number_up_to" (defScope s_number_up_to) f cdv A outer s H E) (fun c d _ H => E c d H) (b_number_up_to cl)) := by
  have tk : Takes (cxOf (L2.CX P w) P w K mg base ["kind", "sizes", "one", "other"] "number_up_to" (defScope s_number_up_to) f cdv A outer s H E) (fun c d _ H => E c d H) := takes_of rfl rfl rfl rfl
  have nd := sc_number_up_to.nd
  exact (q_seq (q_ifS (qt_cmp (op_eqU (by have z := hu2 hr; exact z)) eqP_v (q_ix (q_var 0) q_int) q_str (nomark _)) (q_last (q_ret (q_ix (q_var 1) (q_ix (q_var 0) q_int)))) q_snil)
    (q_seq (q_ifS (qt_cmp (op_eqU (by have z := hu2 hr; exact z)) eqP_v (q_ix (q_var 0) q_int) q_str (nomark _)) (q_last (q_ret q_int)) q_snil)
    (q_seq (q_set (i := 2) nd rfl (by first | exact Or.inl rfl | exact Or.inr rfl) (q_call (C .f_number_up_to (fun z => nomatch z)) hr tk rfl (q_cons (q_ix (q_var 0) q_int) (q_cons (q_var 1) q_nil))))
    (q_seq (q_set (i := 3) nd rfl (by first | exact Or.inl rfl | exact Or.inr rfl) (q_call (C .f_number_up_to (fun z => nomatch z)) hr tk rfl (q_cons (q_ix (q_var 0) q_int) (q_cons (q_var 1) q_nil))))
    (q_seq (q_ifS (qt_cmp (op_eqU (by have z := hu2 hr; exact z)) eqP_v (q_ix (q_var 0) q_int) q_str (nomark _)) (q_last (q_ret (q_callB (call_min2 rfl) min_v rfl T.m_min (by decide +kernel) (q_cons (q_op op_mulU mulU_v (q_var 2) (q_var 3)) (q_cons (q_op op_addU addU_v (q_gc T.c_MOST_WORTHS rfl) q_int) q_nil))))) q_snil)
    (q_last (q_ret (q_call (C .f_power_up_to (fun z => nomatch z)) hr tk rfl (q_cons (q_var 3) (q_cons (q_var 2) q_nil))))))))))
theorem ok_sure_taken {k : Nat} {cl : Fn → FF} [Wo] (T : Txt K w.params mg) (hW : Wo.ww = w) (C : ∀ g : Fn, g ≠ .f_law → calOf P w K mg base k g (cl g)) (f : Addr) (cdv : Value) (A : Around) (outer : List Env) (s : Shared) (H : Hp) (E : XK) (hr : RoomG k (A.deeper (envOfC "sure_taken" (defScope s_sure_taken) s.heap.objs.size f cdv))) :
    PSs (cxOf (L2.CX P w) P w K mg base ["kind", "sizes"] "sure_taken" (defScope s_sure_taken) f cdv A outer s H E) (defBody s_sure_taken) (tS (cxOf (L2.CX P w) P w K mg base ["kind", "sizes"] "sure_taken" (defScope s_sure_taken) f cdv A outer s H E) (fun c d _ H => E c d H) (b_sure_taken cl)) := by
  have tk : Takes (cxOf (L2.CX P w) P w K mg base ["kind", "sizes"] "sure_taken" (defScope s_sure_taken) f cdv A outer s H E) (fun c d _ H => E c d H) := takes_of rfl rfl rfl rfl
  have nd := sc_sure_taken.nd
  exact (q_last (q_ifS (qt_cmp (op_inU (by have z := hu2 hr; exact z)) inU_v (q_ix (q_var 0) q_int) (q_tup (q_cons q_str (q_cons q_str q_nil))) (by rfl)) (q_seq (q_ifS (PW.pt (qw_and (qt_cmp (op_eqU (by have z := hu2 hr; exact z)) eqP_v (q_ix (q_var 0) q_int) q_str (nomark _)) (qw_one (qt_cmp op_gt (cmp_v _) (q_call (C .f_number_up_to (fun z => nomatch z)) hr tk rfl (q_cons (q_ix (q_var 0) q_int) (q_cons (q_var 1) q_nil))) (q_gc T.c_MOST_WORTHS rfl) (nomark _))))) (q_last (q_raise rfl tk T.x_TooMany rfl)) q_snil)
    (q_seq (q_expr (q_call (C .f_sure_taken (fun z => nomatch z)) hr tk rfl (q_cons (q_ix (q_var 0) q_int) (q_cons (q_var 1) q_nil))))
    (q_last (q_expr (q_call (C .f_sure_taken (fun z => nomatch z)) hr tk rfl (q_cons (q_ix (q_var 0) q_int) (q_cons (q_var 1) q_nil))))))) q_snil))
theorem ok_lists_of {k : Nat} {cl : Fn → FF} [Wo] (T : Txt K w.params mg) (hW : Wo.ww = w) (C : ∀ g : Fn, g ≠ .f_law → calOf P w K mg base k g (cl g)) (f : Addr) (cdv : Value) (A : Around) (outer : List Env) (s : Shared) (H : Hp) (E : XK) (hr : RoomG k (A.deeper (envOfC "lists_of" (defScope s_lists_of) s.heap.objs.size f cdv))) :
    PSs (cxOf (L2.CX P w) P w K mg base ["things", "many", "found", "place", "row", "thing"] "lists_of" (defScope s_lists_of) f cdv A outer s H E) (defBody s_lists_of) (tS (cxOf (L2.CX P w) P w K mg base ["things", "many", "found", "place", "row", "thing"] "lists_of" (defScope s_lists_of) f cdv A outer s H E) (fun c d _ H => E c d H) (b_lists_of cl)) := by
  have tk : Takes (cxOf (L2.CX P w) P w K mg base ["things", "many", "found", "place", "row", "thing"] "lists_of" (defScope s_lists_of) f cdv A outer s H E) (fun c d _ H => E c d H) := takes_of rfl rfl rfl rfl
  have nd := sc_lists_of.nd
  exact (q_seq (q_set (i := 2) nd rfl (by first | exact Or.inl rfl | exact Or.inr rfl) (q_cel (q_cons (q_tup q_nil) q_nil)))
    (q_seq (q_for (passes_of rfl) rfl (qi_range1 rfl T.m_range (q_cons (q_var 1) q_nil)) (q_gn (i := 3) nd rfl (by first | exact Or.inl rfl | exact Or.inr rfl)) (q_last (by first | exact (q_setLc2C (i := 2) (own := [("row", 4), ("thing", 5)]) rfl nd rfl rfl (sw_true rfl rfl rfl (by decide +kernel)) (qi_list (q_var 2)) (blkOk_by (own := [("row", 4), ("thing", 5)]) (by rfl)) (by decide) (by decide) (by decide) (fun _ _ _ _ _ => (q_gn (i := 4) nd rfl (by first | exact Or.inl rfl | exact Or.inr rfl))) (fun _ _ _ _ _ => (qi_list (q_var 0))) (fun _ _ _ _ _ => (q_gn (i := 5) nd rfl (by first | exact Or.inl rfl | exact Or.inr rfl))) (fun _ _ _ _ _ => (q_op op_addU addU_v (q_var 4) (q_tup (q_cons (q_var 5) q_nil))))) | exact (q_set (i := 2) nd rfl (by first | exact Or.inl rfl | exact Or.inr rfl) (q_lc2C (own := [("row", 4), ("thing", 5)]) rfl nd (qi_list (q_var 2)) (blkOk_by (own := [("row", 4), ("thing", 5)]) (by rfl)) (by decide) (by decide) (by decide) (fun _ _ _ _ _ => (q_gn (i := 4) nd rfl (by first | exact Or.inl rfl | exact Or.inr rfl))) (fun _ _ _ _ _ => (qi_list (q_var 0))) (fun _ _ _ _ _ => (q_gn (i := 5) nd rfl (by first | exact Or.inl rfl | exact Or.inr rfl))) (fun _ _ _ _ _ => (q_op op_addU addU_v (q_var 4) (q_tup (q_cons (q_var 5) q_nil)))))))))
    (q_last (q_ret (q_var 2)))))
theorem ok_all_worths {k : Nat} {cl : Fn → FF} [Wo] (T : Txt K w.params mg) (hW : Wo.ww = w) (C : ∀ g : Fn, g ≠ .f_law → calOf P w K mg base k g (cl g)) (f : Addr) (cdv : Value) (A : Around) (outer : List Env) (s : Shared) (H : Hp) (E : XK) (hr : RoomG k (A.deeper (envOfC "all_worths" (defScope s_all_worths) s.heap.objs.size f cdv))) :
    PSs (cxOf (L2.CX P w) P w K mg base ["kind", "sizes", "others", "one", "other"] "all_worths" (defScope s_all_worths) f cdv A outer s H E) (defBody s_all_worths) (tS (cxOf (L2.CX P w) P w K mg base ["kind", "sizes", "others", "one", "other"] "all_worths" (defScope s_all_worths) f cdv A outer s H E) (fun c d _ H => E c d H) (b_all_worths cl)) := by
  have tk : Takes (cxOf (L2.CX P w) P w K mg base ["kind", "sizes", "others", "one", "other"] "all_worths" (defScope s_all_worths) f cdv A outer s H E) (fun c d _ H => E c d H) := takes_of rfl rfl rfl rfl
  have nd := sc_all_worths.nd
  exact (q_seq (q_ifS (qt_cmp (op_eqU (by have z := hu2 hr; exact z)) eqP_v (q_ix (q_var 0) q_int) q_str (nomark _)) (q_last (q_ret (q_listRgC rfl rfl T.m_list rfl T.m_range (q_ix (q_var 1) (q_ix (q_var 0) q_int))))) q_snil)
    (q_seq (q_ifS (qt_cmp (op_eqU (by have z := hu2 hr; exact z)) eqP_v (q_ix (q_var 0) q_int) q_str (nomark _)) (q_last (q_ret (q_cel (q_cons (q_tup q_nil) q_nil)))) q_snil)
    (q_seq (q_set (i := 2) nd rfl (by first | exact Or.inl rfl | exact Or.inr rfl) (q_call (C .f_all_worths (fun z => nomatch z)) hr tk rfl (q_cons (q_ix (q_var 0) q_int) (q_cons (q_var 1) q_nil))))
    (q_seq (q_ifS (qt_cmp (op_eqU (by have z := hu2 hr; exact z)) eqP_v (q_ix (q_var 0) q_int) q_str (nomark _)) (q_last (q_ret (q_call (C .f_lists_of (fun z => nomatch z)) hr tk rfl (q_cons (q_var 2) (q_cons (q_call (C .f_number_up_to (fun z => nomatch z)) hr tk rfl (q_cons (q_ix (q_var 0) q_int) (q_cons (q_var 1) q_nil))) q_nil))))) q_snil)
    (q_last (q_ret (q_lc2C (own := [("one", 3), ("other", 4)]) rfl nd (qi_list (q_call (C .f_all_worths (fun z => nomatch z)) hr tk rfl (q_cons (q_ix (q_var 0) q_int) (q_cons (q_var 1) q_nil)))) (blkOk_by (own := [("one", 3), ("other", 4)]) (by rfl)) (by decide) (by decide) (by decide) (fun _ _ _ _ _ => (q_gn (i := 3) nd rfl (by first | exact Or.inl rfl | exact Or.inr rfl))) (fun _ _ _ _ _ => (qi_list (q_var 2))) (fun _ _ _ _ _ => (q_gn (i := 4) nd rfl (by first | exact Or.inl rfl | exact Or.inr rfl))) (fun _ _ _ _ _ => (q_tup (q_cons (q_var 3) (q_cons (q_var 4) q_nil)))))))))))
theorem ok_worths {k : Nat} {cl : Fn → FF} [Wo] (T : Txt K w.params mg) (hW : Wo.ww = w) (C : ∀ g : Fn, g ≠ .f_law → calOf P w K mg base k g (cl g)) (f : Addr) (cdv : Value) (A : Around) (outer : List Env) (s : Shared) (H : Hp) (E : XK) (hr : RoomG k (A.deeper (envOfC "worths" (defScope s_worths) s.heap.objs.size f cdv))) :
    PSs (cxOf (L2.CX P w) P w K mg base ["kind", "sizes"] "worths" (defScope s_worths) f cdv A outer s H E) (defBody s_worths) (tS (cxOf (L2.CX P w) P w K mg base ["kind", "sizes"] "worths" (defScope s_worths) f cdv A outer s H E) (fun c d _ H => E c d H) (b_worths cl)) := by
  have tk : Takes (cxOf (L2.CX P w) P w K mg base ["kind", "sizes"] "worths" (defScope s_worths) f cdv A outer s H E) (fun c d _ H => E c d H) := takes_of rfl rfl rfl rfl
  have nd := sc_worths.nd
  exact (q_seq (q_expr (q_call (C .f_sure_kind (fun z => nomatch z)) hr tk rfl (q_cons (q_var 0) q_nil)))
    (q_seq (q_expr (q_call (C .f_sure_sizes (fun z => nomatch z)) hr tk rfl (q_cons (q_var 1) q_nil)))
    (q_seq (q_expr (q_call (C .f_sure_taken (fun z => nomatch z)) hr tk rfl (q_cons (q_var 0) (q_cons (q_var 1) q_nil))))
    (q_seq (q_ifS (qt_cmp op_gt (cmp_v _) (q_call (C .f_number_up_to (fun z => nomatch z)) hr tk rfl (q_cons (q_var 0) (q_cons (q_var 1) q_nil))) (q_gc T.c_MOST_WORTHS rfl) (nomark _)) (q_last (q_raise rfl tk T.x_TooMany rfl)) q_snil)
    (q_last (q_ret (q_call (C .f_all_worths (fun z => nomatch z)) hr tk rfl (q_cons (q_var 0) (q_cons (q_var 1) q_nil)))))))))
theorem ok__law_cell_at {k : Nat} {cl : Fn → FF} [Wo] (T : Txt K w.params mg) (hW : Wo.ww = w) (C : ∀ g : Fn, g ≠ .f_law → calOf P w K mg base k g (cl g)) (f : Addr) (cdv : Value) (A : Around) (outer : List Env) (s : Shared) (H : Hp) (E : XK) (hr : RoomG k (A.deeper (envOfC "_law_cell_at" (defScope s__law_cell_at) s.heap.objs.size f cdv))) :
    PSs (cxOf (L2.CX P w) P w K mg base ["_law_script", "_law_k"] "_law_cell_at" (defScope s__law_cell_at) f cdv A outer s H E) (defBody s__law_cell_at) (tS (cxOf (L2.CX P w) P w K mg base ["_law_script", "_law_k"] "_law_cell_at" (defScope s__law_cell_at) f cdv A outer s H E) (fun c d _ H => E c d H) (b__law_cell_at cl)) := by
  have tk : Takes (cxOf (L2.CX P w) P w K mg base ["_law_script", "_law_k"] "_law_cell_at" (defScope s__law_cell_at) f cdv A outer s H E) (fun c d _ H => E c d H) := takes_of rfl rfl rfl rfl
  have nd := sc__law_cell_at.nd
  exact (q_seq (q_ifS (qt_cmp op_lt (cmp_v _) (q_var 1) (q_callB call_len len_v rfl T.m_len PySem.boot_len (q_cons (q_var 0) q_nil)) (nomark _)) (q_last (q_ret (q_ix (q_var 0) (q_var 1)))) q_snil)
    (q_last (q_ret q_int)))
theorem ok__law_well {k : Nat} {cl : Fn → FF} [Wo] (T : Txt K w.params mg) (hW : Wo.ww = w) (C : ∀ g : Fn, g ≠ .f_law → calOf P w K mg base k g (cl g)) (f : Addr) (cdv : Value) (A : Around) (outer : List Env) (s : Shared) (H : Hp) (E : XK) (hr : RoomG k (A.deeper (envOfC "_law_well" (defScope s__law_well) s.heap.objs.size f cdv))) :
    PSs (cxOf (L2.CX P w) P w K mg base ["_law_cell"] "_law_well" (defScope s__law_well) f cdv A outer s H E) (defBody s__law_well) (tS (cxOf (L2.CX P w) P w K mg base ["_law_cell"] "_law_well" (defScope s__law_well) f cdv A outer s H E) (fun c d _ H => E c d H) (b__law_well cl)) := by
  have tk : Takes (cxOf (L2.CX P w) P w K mg base ["_law_cell"] "_law_well" (defScope s__law_well) f cdv A outer s H E) (fun c d _ H => E c d H) := takes_of rfl rfl rfl rfl
  have nd := sc__law_well.nd
  exact (q_last (q_ret (q_cel (q_cons (q_op op_mulU mulU_v (q_var 0) (q_callTy call_int1 int_v rfl T.m_int (by decide +kernel) (q_cons (q_cmp op_ge (cmp_v _) (q_var 0) (q_op op_pow pow_v q_int q_int) (nomark _)) q_nil))) (q_cons (q_op op_mod mod_v (q_var 0) q_int) (q_cons q_int q_nil))))))
theorem ok__law_draw {k : Nat} {cl : Fn → FF} [Wo] (T : Txt K w.params mg) (hW : Wo.ww = w) (C : ∀ g : Fn, g ≠ .f_law → calOf P w K mg base k g (cl g)) (f : Addr) (cdv : Value) (A : Around) (outer : List Env) (s : Shared) (H : Hp) (E : XK) (hr : RoomG k (A.deeper (envOfC "_law_draw" (defScope s__law_draw) s.heap.objs.size f cdv))) :
    PSs (cxOf (L2.CX P w) P w K mg base ["_law_well_here", "_law_below", "_law_number_here", "_law_found"] "_law_draw" (defScope s__law_draw) f cdv A outer s H E) (defBody s__law_draw) (tS (cxOf (L2.CX P w) P w K mg base ["_law_well_here", "_law_below", "_law_number_here", "_law_found"] "_law_draw" (defScope s__law_draw) f cdv A outer s H E) (fun c d _ H => E c d H) (b__law_draw cl)) := by
  have tk : Takes (cxOf (L2.CX P w) P w K mg base ["_law_well_here", "_law_below", "_law_number_here", "_law_found"] "_law_draw" (defScope s__law_draw) f cdv A outer s H E) (fun c d _ H => E c d H) := takes_of rfl rfl rfl rfl
  have nd := sc__law_draw.nd
  exact (q_seq (q_ifS (qt_cmp op_gt (cmp_v _) (q_ix (q_var 0) q_int) q_int (nomark _)) (q_seq (q_set (i := 3) nd rfl (by first | exact Or.inl rfl | exact Or.inr rfl) (q_op op_mod mod_v (q_ix (q_var 0) q_int) (q_var 1)))
    (q_seq (q_asg (q_op op_fdivW div_v (q_ix (q_var 0) q_int) (q_var 1)) (q_gsb (W := W0) (q_var 0) q_int))
    (q_last (q_ret (q_var 3))))) q_snil)
    (q_seq (q_asg (q_op op_addU addU_v (q_ix (q_var 0) q_int) q_int) (q_gsb (W := W0) (q_var 0) q_int))
    (q_seq (q_set (i := 2) nd rfl (by first | exact Or.inl rfl | exact Or.inr rfl) (q_op op_mod mod_v (q_op op_mulU mulU_v (q_op op_addU addU_v (q_op op_addU addU_v (q_ix (q_var 0) q_int) (q_op op_mulU mulU_v q_int (q_ix (q_var 0) q_int))) q_int) q_int) q_int))
    (q_seq (q_set (i := 2) nd rfl (by first | exact Or.inl rfl | exact Or.inr rfl) (q_op op_mod mod_v (q_op op_mulU mulU_v (q_var 2) (q_op op_addU addU_v (q_op op_addU addU_v (q_op op_fdivW div_v (q_var 2) q_int) q_int) (q_ix (q_var 0) q_int))) q_int))
    (q_last (q_ret (q_op op_mod mod_v (q_op op_fdivW div_v (q_op op_mod mod_v (q_op op_mulU mulU_v (q_var 2) (q_op op_addU addU_v (q_op op_fdivW div_v (q_var 2) q_int) q_int)) q_int) q_int) (q_var 1))))))))
theorem ok__law_one {k : Nat} {cl : Fn → FF} [Wo] (T : Txt K w.params mg) (hW : Wo.ww = w) (C : ∀ g : Fn, g ≠ .f_law → calOf P w K mg base k g (cl g)) (f : Addr) (cdv : Value) (A : Around) (outer : List Env) (s : Shared) (H : Hp) (E : XK) (hr : RoomG k (A.deeper (envOfC "_law_one" (defScope s__law_one) s.heap.objs.size f cdv))) :
    PSs (cxOf (L2.CX P w) P w K mg base ["_law_well_here", "_law_some"] "_law_one" (defScope s__law_one) f cdv A outer s H E) (defBody s__law_one) (tS (cxOf (L2.CX P w) P w K mg base ["_law_well_here", "_law_some"] "_law_one" (defScope s__law_one) f cdv A outer s H E) (fun c d _ H => E c d H) (b__law_one cl)) := by
  have tk : Takes (cxOf (L2.CX P w) P w K mg base ["_law_well_here", "_law_some"] "_law_one" (defScope s__law_one) f cdv A outer s H E) (fun c d _ H => E c d H) := takes_of rfl rfl rfl rfl
  have nd := sc__law_one.nd
  exact (q_last (q_ret (q_ix (q_var 1) (q_call (C .f__law_draw (fun z => nomatch z)) hr tk rfl (q_cons (q_var 0) (q_cons (q_callB call_len len_v rfl T.m_len PySem.boot_len (q_cons (q_var 1) q_nil)) q_nil))))))
theorem ok__law_kind {k : Nat} {cl : Fn → FF} [Wo] (T : Txt K w.params mg) (hW : Wo.ww = w) (C : ∀ g : Fn, g ≠ .f_law → calOf P w K mg base k g (cl g)) (f : Addr) (cdv : Value) (A : Around) (outer : List Env) (s : Shared) (H : Hp) (E : XK) (hr : RoomG k (A.deeper (envOfC "_law_kind" (defScope s__law_kind) s.heap.objs.size f cdv))) :
    PSs (cxOf (L2.CX P w) P w K mg base ["_law_well_here", "_law_leaves", "_law_first", "_law_word"] "_law_kind" (defScope s__law_kind) f cdv A outer s H E) (defBody s__law_kind) (tS (cxOf (L2.CX P w) P w K mg base ["_law_well_here", "_law_leaves", "_law_first", "_law_word"] "_law_kind" (defScope s__law_kind) f cdv A outer s H E) (fun c d _ H => E c d H) (b__law_kind cl)) := by
  have tk : Takes (cxOf (L2.CX P w) P w K mg base ["_law_well_here", "_law_leaves", "_law_first", "_law_word"] "_law_kind" (defScope s__law_kind) f cdv A outer s H E) (fun c d _ H => E c d H) := takes_of rfl rfl rfl rfl
  have nd := sc__law_kind.nd
  exact (q_seq (q_ifS (qt_cmp op_lt (cmp_v _) (q_var 1) q_int (nomark _)) (q_last (q_ret (q_call (C .f__law_one (fun z => nomatch z)) hr tk rfl (q_cons (q_var 0) (q_cons (q_lst (q_cons (q_tup (q_cons q_str (q_cons (q_call (C .f__law_draw (fun z => nomatch z)) hr tk rfl (q_cons (q_var 0) (q_cons q_int q_nil))) q_nil))) (q_cons (q_tup (q_cons q_str (q_cons (q_call (C .f__law_draw (fun z => nomatch z)) hr tk rfl (q_cons (q_var 0) (q_cons q_int q_nil))) q_nil))) (q_cons (q_tup (q_cons q_str (q_cons q_int q_nil))) (q_cons (q_tup (q_cons q_str q_nil)) q_nil))))) q_nil))))) q_snil)
    (q_seq (q_set (i := 2) nd rfl (by first | exact Or.inl rfl | exact Or.inr rfl) (q_op op_addU addU_v q_int (q_call (C .f__law_draw (fun z => nomatch z)) hr tk rfl (q_cons (q_var 0) (q_cons (q_op op_sub sub_v (q_var 1) q_int) q_nil)))))
    (q_seq (q_set (i := 3) nd rfl (by first | exact Or.inl rfl | exact Or.inr rfl) (q_call (C .f__law_one (fun z => nomatch z)) hr tk rfl (q_cons (q_var 0) (q_cons (q_lst (q_cons q_str (q_cons q_str q_nil))) q_nil))))
    (q_last (q_ret (q_tup (q_cons (q_var 3) (q_cons (q_call (C .f__law_kind (fun z => nomatch z)) hr tk rfl (q_cons (q_var 0) (q_cons (q_var 2) q_nil))) (q_cons (q_call (C .f__law_kind (fun z => nomatch z)) hr tk rfl (q_cons (q_var 0) (q_cons (q_op op_sub sub_v (q_var 1) (q_var 2)) q_nil))) q_nil)))))))))
theorem ok__law_sizes {k : Nat} {cl : Fn → FF} [Wo] (T : Txt K w.params mg) (hW : Wo.ww = w) (C : ∀ g : Fn, g ≠ .f_law → calOf P w K mg base k g (cl g)) (f : Addr) (cdv : Value) (A : Around) (outer : List Env) (s : Shared) (H : Hp) (E : XK) (hr : RoomG k (A.deeper (envOfC "_law_sizes" (defScope s__law_sizes) s.heap.objs.size f cdv))) :
    PSs (cxOf (L2.CX P w) P w K mg base ["_law_well_here", "_law_most", "_law_k"] "_law_sizes" (defScope s__law_sizes) f cdv A outer s H E) (defBody s__law_sizes) (tS (cxOf (L2.CX P w) P w K mg base ["_law_well_here", "_law_most", "_law_k"] "_law_sizes" (defScope s__law_sizes) f cdv A outer s H E) (fun c d _ H => E c d H) (b__law_sizes cl)) := by
  have tk : Takes (cxOf (L2.CX P w) P w K mg base ["_law_well_here", "_law_most", "_law_k"] "_law_sizes" (defScope s__law_sizes) f cdv A outer s H E) (fun c d _ H => E c d H) := takes_of rfl rfl rfl rfl
  have nd := sc__law_sizes.nd
  exact (q_seq (q_set (i := 1) nd rfl (by first | exact Or.inl rfl | exact Or.inr rfl) (q_call (C .f__law_one (fun z => nomatch z)) hr tk rfl (q_cons (q_var 0) (q_cons (q_lst (q_cons q_int (q_cons q_int (q_cons q_int (q_cons q_int (q_cons q_int q_nil)))))) q_nil))))
    (q_last (q_ret (q_lc (own := [("_law_k", 2)]) rfl nd (qi_range1 rfl T.m_range (q_cons q_int q_nil)) (blkOk_by (own := [("_law_k", 2)]) (by rfl)) (by decide) (fun _ _ _ _ _ => (q_gn (i := 2) nd rfl (by first | exact Or.inl rfl | exact Or.inr rfl))) (fun _ _ _ _ _ => qts_nil) (fun _ _ _ _ _ => (q_op op_addU addU_v q_int (q_call (C .f__law_draw (fun z => nomatch z)) hr takes0 rfl (q_cons (q_var 0) (q_cons (q_var 1) q_nil)))))))))
theorem ok__law_power {k : Nat} {cl : Fn → FF} [Wo] (T : Txt K w.params mg) (hW : Wo.ww = w) (C : ∀ g : Fn, g ≠ .f_law → calOf P w K mg base k g (cl g)) (f : Addr) (cdv : Value) (A : Around) (outer : List Env) (s : Shared) (H : Hp) (E : XK) (hr : RoomG k (A.deeper (envOfC "_law_power" (defScope s__law_power) s.heap.objs.size f cdv))) :
    PSs (cxOf (L2.CX P w) P w K mg base ["_law_base", "_law_times", "_law_found", "_law_k"] "_law_power" (defScope s__law_power) f cdv A outer s H E) (defBody s__law_power) (tS (cxOf (L2.CX P w) P w K mg base ["_law_base", "_law_times", "_law_found", "_law_k"] "_law_power" (defScope s__law_power) f cdv A outer s H E) (fun c d _ H => E c d H) (b__law_power cl)) := by
  have tk : Takes (cxOf (L2.CX P w) P w K mg base ["_law_base", "_law_times", "_law_found", "_law_k"] "_law_power" (defScope s__law_power) f cdv A outer s H E) (fun c d _ H => E c d H) := takes_of rfl rfl rfl rfl
  have nd := sc__law_power.nd
  exact (q_seq (q_set (i := 2) nd rfl (by first | exact Or.inl rfl | exact Or.inr rfl) q_int)
    (q_seq (q_for (passes_of rfl) rfl (qi_range1 rfl T.m_range (q_cons (q_callB (call_min2 rfl) min_v rfl T.m_min (by decide +kernel) (q_cons (q_var 1) (q_cons q_int q_nil))) q_nil)) (q_gn (i := 3) nd rfl (by first | exact Or.inl rfl | exact Or.inr rfl)) (q_last (q_set (i := 2) nd rfl (by first | exact Or.inl rfl | exact Or.inr rfl) (q_callB (call_min2 rfl) min_v rfl T.m_min (by decide +kernel) (q_cons (q_op op_mulU mulU_v (q_var 2) (q_var 0)) (q_cons q_int q_nil))))))
    (q_last (q_ret (q_var 2)))))
theorem ok__law_number {k : Nat} {cl : Fn → FF} [Wo] (T : Txt K w.params mg) (hW : Wo.ww = w) (C : ∀ g : Fn, g ≠ .f_law → calOf P w K mg base k g (cl g)) (f : Addr) (cdv : Value) (A : Around) (outer : List Env) (s : Shared) (H : Hp) (E : XK) (hr : RoomG k (A.deeper (envOfC "_law_number" (defScope s__law_number) s.heap.objs.size f cdv))) :
    PSs (cxOf (L2.CX P w) P w K mg base ["_law_kind_here", "_law_sizes_here", "_law_one_here", "_law_other"] "_law_number" (defScope s__law_number) f cdv A outer s H E) (defBody s__law_number) (tS (cxOf (L2.CX P w) P w K mg base ["_law_kind_here", "_law_sizes_here", "_law_one_here", "_law_other"] "_law_number" (defScope s__law_number) f cdv A outer s H E) (fun c d _ H => E c d H) (b__law_number cl)) := by
  have tk : Takes (cxOf (L2.CX P w) P w K mg base ["_law_kind_here", "_law_sizes_here", "_law_one_here", "_law_other"] "_law_number" (defScope s__law_number) f cdv A outer s H E) (fun c d _ H => E c d H) := takes_of rfl rfl rfl rfl
  have nd := sc__law_number.nd
  exact (q_seq (q_ifS (qt_cmp (op_eqU (by have z := hu2 hr; exact z)) eqP_v (q_ix (q_var 0) q_int) q_str (nomark _)) (q_last (q_ret (q_ix (q_var 1) (q_ix (q_var 0) q_int)))) q_snil)
    (q_seq (q_ifS (qt_cmp (op_eqU (by have z := hu2 hr; exact z)) eqP_v (q_ix (q_var 0) q_int) q_str (nomark _)) (q_last (q_ret q_int)) q_snil)
    (q_seq (q_par (i := 2) (j := 3) rfl nd rfl rfl (by decide) rfl rfl (q_cons (q_call (C .f__law_number (fun z => nomatch z)) hr tk rfl (q_cons (q_ix (q_var 0) q_int) (q_cons (q_var 1) q_nil))) (q_cons (q_call (C .f__law_number (fun z => nomatch z)) hr tk rfl (q_cons (q_ix (q_var 0) q_int) (q_cons (q_var 1) q_nil))) q_nil)) (by rfl))
    (q_seq (q_ifS (qt_cmp (op_eqU (by have z := hu2 hr; exact z)) eqP_v (q_ix (q_var 0) q_int) q_str (nomark _)) (q_last (q_ret (q_callB (call_min2 rfl) min_v rfl T.m_min (by decide +kernel) (q_cons (q_op op_mulU mulU_v (q_var 2) (q_var 3)) (q_cons q_int q_nil))))) q_snil)
    (q_last (q_ret (q_call (C .f__law_power (fun z => nomatch z)) hr tk rfl (q_cons (q_var 3) (q_cons (q_var 2) q_nil)))))))))
theorem ok__law_taken {k : Nat} {cl : Fn → FF} [Wo] (T : Txt K w.params mg) (hW : Wo.ww = w) (C : ∀ g : Fn, g ≠ .f_law → calOf P w K mg base k g (cl g)) (f : Addr) (cdv : Value) (A : Around) (outer : List Env) (s : Shared) (H : Hp) (E : XK) (hr : RoomG k (A.deeper (envOfC "_law_taken" (defScope s__law_taken) s.heap.objs.size f cdv))) :
    PSs (cxOf (L2.CX P w) P w K mg base ["_law_kind_here", "_law_sizes_here", "_law_most"] "_law_taken" (defScope s__law_taken) f cdv A outer s H E) (defBody s__law_taken) (tS (cxOf (L2.CX P w) P w K mg base ["_law_kind_here", "_law_sizes_here", "_law_most"] "_law_taken" (defScope s__law_taken) f cdv A outer s H E) (fun c d _ H => E c d H) (b__law_taken cl)) := by
  have tk : Takes (cxOf (L2.CX P w) P w K mg base ["_law_kind_here", "_law_sizes_here", "_law_most"] "_law_taken" (defScope s__law_taken) f cdv A outer s H E) (fun c d _ H => E c d H) := takes_of rfl rfl rfl rfl
  have nd := sc__law_taken.nd
  exact (q_seq (q_ifS (qt_cmp op_lt (cmp_v _) (q_callB call_len len_v rfl T.m_len PySem.boot_len (q_cons (q_var 0) q_nil)) q_int (nomark _)) (q_last (q_ret q_int)) q_snil)
    (q_seq (q_set (i := 2) nd rfl (by first | exact Or.inl rfl | exact Or.inr rfl) (q_callB (call_max2 rfl) max_v rfl T.m_max (by decide +kernel) (q_cons (q_call (C .f__law_taken (fun z => nomatch z)) hr tk rfl (q_cons (q_ix (q_var 0) q_int) (q_cons (q_var 1) q_nil))) (q_cons (q_call (C .f__law_taken (fun z => nomatch z)) hr tk rfl (q_cons (q_ix (q_var 0) q_int) (q_cons (q_var 1) q_nil))) q_nil))))
    (q_last (q_ret (q_callB (call_max2 rfl) max_v rfl T.m_max (by decide +kernel) (q_cons (q_var 2) (q_cons (q_op op_mulU mulU_v (q_call (C .f__law_number (fun z => nomatch z)) hr tk rfl (q_cons (q_ix (q_var 0) q_int) (q_cons (q_var 1) q_nil))) (q_callTy call_int1 int_v rfl T.m_int (by decide +kernel) (q_cons (q_cmp (op_eqU (by have z := hu2 hr; exact z)) eqP_v (q_ix (q_var 0) q_int) q_str (nomark _)) q_nil))) q_nil)))))))
theorem ok__law_all {k : Nat} {cl : Fn → FF} [Wo] (T : Txt K w.params mg) (hW : Wo.ww = w) (C : ∀ g : Fn, g ≠ .f_law → calOf P w K mg base k g (cl g)) (f : Addr) (cdv : Value) (A : Around) (outer : List Env) (s : Shared) (H : Hp) (E : XK) (hr : RoomG k (A.deeper (envOfC "_law_all" (defScope s__law_all) s.heap.objs.size f cdv))) :
    PSs (cxOf (L2.CX P w) P w K mg base ["_law_kind_here", "_law_sizes_here", "_law_some", "_law_found", "_law_k", "_law_one_here", "_law_longer", "_law_row", "_law_other"] "_law_all" (defScope s__law_all) f cdv A outer s H E) (defBody s__law_all) (tS (cxOf (L2.CX P w) P w K mg base ["_law_kind_here", "_law_sizes_here", "_law_some", "_law_found", "_law_k", "_law_one_here", "_law_longer", "_law_row", "_law_other"] "_law_all" (defScope s__law_all) f cdv A outer s H E) (fun c d _ H => E c d H) (b__law_all cl)) := by
  have tk : Takes (cxOf (L2.CX P w) P w K mg base ["_law_kind_here", "_law_sizes_here", "_law_some", "_law_found", "_law_k", "_law_one_here", "_law_longer", "_law_row", "_law_other"] "_law_all" (defScope s__law_all) f cdv A outer s H E) (fun c d _ H => E c d H) := takes_of rfl rfl rfl rfl
  have nd := sc__law_all.nd
  exact (q_seq (q_ifS (qt_cmp (op_eqU (by have z := hu2 hr; exact z)) eqP_v (q_ix (q_var 0) q_int) q_str (nomark _)) (q_last (q_ret (q_listRg rfl rfl T.m_list rfl T.m_range (q_ix (q_var 1) (q_ix (q_var 0) q_int))))) q_snil)
    (q_seq (q_ifS (qt_cmp (op_eqU (by have z := hu2 hr; exact z)) eqP_v (q_ix (q_var 0) q_int) q_str (nomark _)) (q_last (q_ret (q_lst (q_cons (q_tup q_nil) q_nil)))) q_snil)
    (q_seq (q_set (i := 2) nd rfl (by first | exact Or.inl rfl | exact Or.inr rfl) (q_call (C .f__law_all (fun z => nomatch z)) hr tk rfl (q_cons (q_ix (q_var 0) q_int) (q_cons (q_var 1) q_nil))))
    (q_seq (q_ifS (qt_cmp (op_eqU (by have z := hu2 hr; exact z)) eqP_v (q_ix (q_var 0) q_int) q_str (nomark _)) (q_seq (q_set (i := 3) nd rfl (by first | exact Or.inl rfl | exact Or.inr rfl) (q_lst q_nil))
    (q_seq (q_for (passes_of rfl) rfl (qi_list (q_call (C .f__law_all (fun z => nomatch z)) hr tk rfl (q_cons (q_ix (q_var 0) q_int) (q_cons (q_var 1) q_nil)))) (q_gn (i := 5) nd rfl (by first | exact Or.inl rfl | exact Or.inr rfl)) (q_last (q_set (i := 3) nd rfl (by first | exact Or.inl rfl | exact Or.inr rfl) (q_op op_addU addU_v (q_var 3) (q_lc (own := [("_law_other", 8)]) rfl nd (qi_list (q_var 2)) (blkOk_by (own := [("_law_other", 8)]) (by rfl)) (by decide) (fun _ _ _ _ _ => (q_gn (i := 8) nd rfl (by first | exact Or.inl rfl | exact Or.inr rfl))) (fun _ _ _ _ _ => qts_nil) (fun _ _ _ _ _ => (q_tup (q_cons (q_var 5) (q_cons (q_var 8) q_nil)))))))))
    (q_last (q_ret (q_var 3))))) q_snil)
    (q_seq (q_set (i := 3) nd rfl (by first | exact Or.inl rfl | exact Or.inr rfl) (q_lst (q_cons (q_tup q_nil) q_nil)))
    (q_seq (q_for (passes_of rfl) rfl (qi_range1 rfl T.m_range (q_cons (q_call (C .f__law_number (fun z => nomatch z)) hr tk rfl (q_cons (q_ix (q_var 0) q_int) (q_cons (q_var 1) q_nil))) q_nil)) (q_gn (i := 4) nd rfl (by first | exact Or.inl rfl | exact Or.inr rfl)) (q_seq (q_set (i := 6) nd rfl (by first | exact Or.inl rfl | exact Or.inr rfl) (q_lst q_nil))
    (q_seq (q_for (passes_of rfl) rfl (qi_list (q_var 3)) (q_gn (i := 7) nd rfl (by first | exact Or.inl rfl | exact Or.inr rfl)) (q_last (q_set (i := 6) nd rfl (by first | exact Or.inl rfl | exact Or.inr rfl) (q_op op_addU addU_v (q_var 6) (q_lc (own := [("_law_other", 8)]) rfl nd (qi_list (q_var 2)) (blkOk_by (own := [("_law_other", 8)]) (by rfl)) (by decide) (fun _ _ _ _ _ => (q_gn (i := 8) nd rfl (by first | exact Or.inl rfl | exact Or.inr rfl))) (fun _ _ _ _ _ => qts_nil) (fun _ _ _ _ _ => (q_op op_addU addU_v (q_var 7) (q_tup (q_cons (q_var 8) q_nil)))))))))
    (q_last (q_set (i := 3) nd rfl (by first | exact Or.inl rfl | exact Or.inr rfl) (q_var 6))))))
    (q_last (q_ret (q_var 3)))))))))
theorem ok__law_asked {k : Nat} {cl : Fn → FF} [Wo] (T : Txt K w.params mg) (hW : Wo.ww = w) (C : ∀ g : Fn, g ≠ .f_law → calOf P w K mg base k g (cl g)) (f : Addr) (cdv : Value) (A : Around) (outer : List Env) (s : Shared) (H : Hp) (E : XK) (hr : RoomG k (A.deeper (envOfC "_law_asked" (defScope s__law_asked) s.heap.objs.size f cdv))) :
    PSs (cxOf (L2.CX P w) P w K mg base ["_law_kind_here", "_law_sizes_here", "_law_whole", "_law_kept", "_law_found"] "_law_asked" (defScope s__law_asked) f cdv A outer s H E) (defBody s__law_asked) (tS (cxOf (L2.CX P w) P w K mg base ["_law_kind_here", "_law_sizes_here", "_law_whole", "_law_kept", "_law_found"] "_law_asked" (defScope s__law_asked) f cdv A outer s H E) (fun c d _ H => E c d H) (b__law_asked cl)) := by
  have tk : Takes (cxOf (L2.CX P w) P w K mg base ["_law_kind_here", "_law_sizes_here", "_law_whole", "_law_kept", "_law_found"] "_law_asked" (defScope s__law_asked) f cdv A outer s H E) (fun c d _ H => E c d H) := takes_of rfl rfl rfl rfl
  have nd := sc__law_asked.nd
  exact (q_seq (q_set (i := 2) nd rfl (by first | exact Or.inl rfl | exact Or.inr rfl) (q_call (C .f__law_number (fun z => nomatch z)) hr tk rfl (q_cons (q_var 0) (q_cons (q_var 1) q_nil))))
    (q_seq (q_ifS (PW.pt (qw_or (qt_cmp (op_gtD (hu2 hr)) ltD_v (q_var 2) q_int (nomark _)) (qw_one (qt_cmp (op_gtD (hu2 hr)) ltD_v (q_call (C .f__law_taken (fun z => nomatch z)) hr tk rfl (q_cons (q_var 0) (q_cons (q_var 1) q_nil))) q_int (nomark _))))) (q_last (q_ret q_bl)) q_snil)
    (q_seq (q_set (i := 3) nd rfl (by first | exact Or.inl rfl | exact Or.inr rfl) (q_callTy call_list_of list_v rfl T.m_list (by decide +kernel) (q_cons (q_var 1) q_nil)))
    (q_seq (q_set (i := 4) nd rfl (by first | exact Or.inl rfl | exact Or.inr rfl) (q_call (C .f_worths (fun z => nomatch z)) hr tk rfl (q_cons (q_var 0) (q_cons (q_var 1) q_nil))))
    (q_seq (q_ifS (PW.pt (qw_or (qt_not (qt_tru (q_isi rfl T.m_isinstance rfl T.m_list (by decide +kernel) (by decide) (q_var 4)))) (qw_or (qt_cmp (op_neU (by have z := hu2 hr; exact z)) neP_v (q_callB call_len len_v rfl T.m_len PySem.boot_len (q_cons (q_var 4) q_nil)) (q_var 2) (nomark _)) (qw_one (qt_cmp (op_neU (by have z := hu2 hr; exact z)) neP_v (q_var 1) (q_var 3) (nomark _)))))) (q_last (q_ret q_bl)) q_snil)
    (q_seq (q_ifS (qt_cmp (op_gtD (hu2 hr)) ltD_v (q_var 2) q_int (nomark _)) (q_last (q_ret (q_and (q_cmp (op_ltD (hu2 hr)) ltD_v (q_ix (q_var 4) q_int) (q_ix (q_var 4) (q_neg q_int)) (nomark _)) (q_one (q_cmp (op_eqU (by have z := hu2 hr; exact z)) eqP_v (q_slice (q_var 4) q_none (q_some q_int)) (q_callB (cr_sortedE (by have z := hu2 hr; exact z)) sortedE_v rfl T.m_sorted (by decide +kernel) (q_cons (q_slice (q_var 4) q_none (q_some q_int)) q_nil)) (nomark _)))))) q_snil)
    (q_seq (q_ifS (qt_cmp (op_gtD (hu2 hr)) ltD_v (q_call (C .f__law_taken (fun z => nomatch z)) hr tk rfl (q_cons (q_var 0) (q_cons (q_var 1) q_nil))) q_int (nomark _)) (q_last (q_ret (q_cmp (op_eqU (by have z := hu2 hr; exact z)) eqP_v (q_callB (cr_sortedE (by have z := hu2 hr; exact z)) sortedE_v rfl T.m_sorted (by decide +kernel) (q_cons (q_var 4) q_nil)) (q_var 4) (nomark _)))) q_snil)
    (q_seq (q_ifS (PW.pt (qw_or (qt_cmp (op_neU (by have z := hu2 hr; exact z)) neP_v (q_var 4) (q_call (C .f__law_all (fun z => nomatch z)) hr tk rfl (q_cons (q_var 0) (q_cons (q_var 1) q_nil))) (nomark _)) (qw_one (qt_cmp (op_neU (by have z := hu2 hr; exact z)) neP_v (q_var 4) (q_sortSetK rfl (by have z := hu2 hr; exact z) rfl T.m_sorted rfl T.m_set (q_var 4)) (nomark _))))) (q_last (q_ret q_bl)) q_snil)
    (q_seq (q_expr (q_mth0 PySem.F.slot_list_reverse PySem.F.type_list_reverse mt_reverse rev_v (q_var 4)))
    (q_seq (q_expr (q_mth PySem.F.slot_list_append PySem.F.type_list_append mt_append append_v (q_var 4) (q_cons q_non q_nil)))
    (q_last (q_ret (q_cmp (op_eqU (by have z := hu2 hr; exact z)) eqP_v (q_call (C .f_worths (fun z => nomatch z)) hr tk rfl (q_cons (q_var 0) (q_cons (q_var 1) q_nil))) (q_call (C .f__law_all (fun z => nomatch z)) hr tk rfl (q_cons (q_var 0) (q_cons (q_var 1) q_nil))) (nomark _))))))))))))))
theorem ok__law_great_right {k : Nat} {cl : Fn → FF} [Wo] (T : Txt K w.params mg) (hW : Wo.ww = w) (C : ∀ g : Fn, g ≠ .f_law → calOf P w K mg base k g (cl g)) (f : Addr) (cdv : Value) (A : Around) (outer : List Env) (s : Shared) (H : Hp) (E : XK) (hr : RoomG k (A.deeper (envOfC "_law_great_right" (defScope s__law_great_right) s.heap.objs.size f cdv))) :
    PSs (cxOf (L2.CX P w) P w K mg base ["_law_well_here", "_law_one_here", "_law_two", "_law_sizes_here", "_law_pair", "_law_x", "_law_k", "_law_y"] "_law_great_right" (defScope s__law_great_right) f cdv A outer s H E) (defBody s__law_great_right) (tS (cxOf (L2.CX P w) P w K mg base ["_law_well_here", "_law_one_here", "_law_two", "_law_sizes_here", "_law_pair", "_law_x", "_law_k", "_law_y"] "_law_great_right" (defScope s__law_great_right) f cdv A outer s H E) (fun c d _ H => E c d H) (b__law_great_right cl)) := by
  have tk : Takes (cxOf (L2.CX P w) P w K mg base ["_law_well_here", "_law_one_here", "_law_two", "_law_sizes_here", "_law_pair", "_law_x", "_law_k", "_law_y"] "_law_great_right" (defScope s__law_great_right) f cdv A outer s H E) (fun c d _ H => E c d H) := takes_of rfl rfl rfl rfl
  have nd := sc__law_great_right.nd
  exact (q_seq (q_par (i := 1) (j := 2) rfl nd rfl rfl (by decide) rfl rfl (q_cons (q_call (C .f__law_draw (fun z => nomatch z)) hr tk rfl (q_cons (q_var 0) (q_cons q_int q_nil))) (q_cons (q_call (C .f__law_draw (fun z => nomatch z)) hr tk rfl (q_cons (q_var 0) (q_cons q_int q_nil))) q_nil)) (by rfl))
    (q_seq (by first | exact (q_setLc (i := 3) (own := [("_law_k", 6)]) rfl nd rfl rfl (sw_true rfl rfl rfl (by decide +kernel)) (qi_range1 rfl T.m_range (q_cons q_int q_nil)) (blkOk_by (own := [("_law_k", 6)]) (by rfl)) (by decide) (fun _ _ _ _ _ => (q_gn (i := 6) nd rfl (by first | exact Or.inl rfl | exact Or.inr rfl))) (fun _ _ _ _ _ => qts_nil) (fun _ _ _ _ _ => (q_op op_addU addU_v q_int (q_call (C .f__law_draw (fun z => nomatch z)) hr takes0 rfl (q_cons (q_var 0) (q_cons q_int q_nil)))))) | exact (q_set (i := 3) nd rfl (by first | exact Or.inl rfl | exact Or.inr rfl) (q_lc (own := [("_law_k", 6)]) rfl nd (qi_range1 rfl T.m_range (q_cons q_int q_nil)) (blkOk_by (own := [("_law_k", 6)]) (by rfl)) (by decide) (fun _ _ _ _ _ => (q_gn (i := 6) nd rfl (by first | exact Or.inl rfl | exact Or.inr rfl))) (fun _ _ _ _ _ => qts_nil) (fun _ _ _ _ _ => (q_op op_addU addU_v q_int (q_call (C .f__law_draw (fun z => nomatch z)) hr takes0 rfl (q_cons (q_var 0) (q_cons q_int q_nil))))))))
    (q_seq (q_asg (q_call (C .f__law_one (fun z => nomatch z)) hr tk rfl (q_cons (q_var 0) (q_cons (q_lst (q_cons (q_op op_addU addU_v q_int (q_call (C .f__law_draw (fun z => nomatch z)) hr tk rfl (q_cons (q_var 0) (q_cons q_int q_nil)))) (q_cons q_int (q_cons q_int q_nil)))) q_nil))) (q_gsb (W := W0) (q_var 3) (q_var 1)))
    (q_seq (q_ifS (qt_cmp (op_neU (by have z := hu2 hr; exact z)) neP_v (q_call (C .f_worths (fun z => nomatch z)) hr tk rfl (q_cons (q_tup (q_cons q_str (q_cons (q_var 1) q_nil))) (q_cons (q_var 3) q_nil))) (q_listRg rfl rfl T.m_list rfl T.m_range (q_ix (q_var 3) (q_var 1))) (nomark _)) (q_last (q_ret q_bl)) q_snil)
    (q_seq (q_ifS (qt_cmp op_gt (cmp_v _) (q_ix (q_var 3) (q_var 1)) q_int (nomark _)) (q_last (q_asg q_int (q_gsb (W := W0) (q_var 3) (q_var 1)))) q_snil)
    (q_seq (q_set (i := 4) nd rfl (by first | exact Or.inl rfl | exact Or.inr rfl) (q_lst q_nil))
    (q_seq (q_for (passes_of rfl) rfl (qi_range1 rfl T.m_range (q_cons (q_ix (q_var 3) (q_var 1)) q_nil)) (q_gn (i := 5) nd rfl (by first | exact Or.inl rfl | exact Or.inr rfl)) (q_last (q_set (i := 4) nd rfl (by first | exact Or.inl rfl | exact Or.inr rfl) (q_op op_addU addU_v (q_var 4) (q_lc (own := [("_law_y", 7)]) rfl nd (qi_range1 rfl T.m_range (q_cons (q_ix (q_var 3) (q_var 2)) q_nil)) (blkOk_by (own := [("_law_y", 7)]) (by rfl)) (by decide) (fun _ _ _ _ _ => (q_gn (i := 7) nd rfl (by first | exact Or.inl rfl | exact Or.inr rfl))) (fun _ _ _ _ _ => qts_nil) (fun _ _ _ _ _ => (q_tup (q_cons (q_var 5) (q_cons (q_var 7) q_nil)))))))))
    (q_seq (q_ifS (PW.pt (qw_or (qt_cmp op_gt (cmp_v _) (q_call (C .f__law_draw (fun z => nomatch z)) hr tk rfl (q_cons (q_var 0) (q_cons q_int q_nil))) q_int (nomark _)) (qw_one (qt_cmp op_gt (cmp_v _) (q_callB call_len len_v rfl T.m_len PySem.boot_len (q_cons (q_var 4) q_nil)) q_int (nomark _))))) (q_last (q_ret q_bl)) q_snil)
    (q_seq (q_ifS (qt_cmp (op_neU (by have z := hu2 hr; exact z)) neP_v (q_call (C .f_worths (fun z => nomatch z)) hr tk rfl (q_cons (q_tup (q_cons q_str (q_cons (q_tup (q_cons q_str (q_cons (q_var 1) q_nil))) (q_cons (q_tup (q_cons q_str (q_cons (q_var 2) q_nil))) q_nil)))) (q_cons (q_var 3) q_nil))) (q_var 4) (nomark _)) (q_last (q_ret q_bl)) q_snil)
    (q_last (q_ret (q_cmp (op_eqU (by have z := hu2 hr; exact z)) eqP_v (q_call (C .f_worths (fun z => nomatch z)) hr tk rfl (q_cons (q_tup (q_cons q_str (q_cons (q_tup (q_cons q_str (q_cons (q_tup (q_cons q_str q_nil)) (q_cons (q_tup (q_cons q_str (q_cons (q_var 2) q_nil))) q_nil)))) (q_cons (q_tup (q_cons q_str q_nil)) q_nil)))) (q_cons (q_var 3) q_nil))) (q_lst (q_cons (q_op op_repT mulT_v (q_tup (q_cons (q_tup q_nil) q_nil)) (q_ix (q_var 3) (q_var 2))) q_nil)) (nomark _)))))))))))))
theorem ok__law_deep_right {k : Nat} {cl : Fn → FF} [Wo] (T : Txt K w.params mg) (hW : Wo.ww = w) (C : ∀ g : Fn, g ≠ .f_law → calOf P w K mg base k g (cl g)) (f : Addr) (cdv : Value) (A : Around) (outer : List Env) (s : Shared) (H : Hp) (E : XK) (hr : RoomG k (A.deeper (envOfC "_law_deep_right" (defScope s__law_deep_right) s.heap.objs.size f cdv))) :
    PSs (cxOf (L2.CX P w) P w K mg base ["_law_well_here", "_law_kind_here", "_law_some", "_law_k", "_law_way", "_law_thing"] "_law_deep_right" (defScope s__law_deep_right) f cdv A outer s H E) (defBody s__law_deep_right) (tS (cxOf (L2.CX P w) P w K mg base ["_law_well_here", "_law_kind_here", "_law_some", "_law_k", "_law_way", "_law_thing"] "_law_deep_right" (defScope s__law_deep_right) f cdv A outer s H E) (fun c d _ H => E c d H) (b__law_deep_right cl)) := by
  have tk : Takes (cxOf (L2.CX P w) P w K mg base ["_law_well_here", "_law_kind_here", "_law_some", "_law_k", "_law_way", "_law_thing"] "_law_deep_right" (defScope s__law_deep_right) f cdv A outer s H E) (fun c d _ H => E c d H) := takes_of rfl rfl rfl rfl
  have nd := sc__law_deep_right.nd
  exact (q_seq (q_par (i := 1) (j := 2) rfl nd rfl rfl (by decide) rfl rfl (q_cons (q_tup (q_cons q_str (q_cons q_int q_nil))) (q_cons (q_lst (q_cons q_int (q_cons q_int (q_cons q_int q_nil)))) q_nil)) (by rfl))
    (q_seq (q_for (passes_of rfl) rfl (qi_range1 rfl T.m_range (q_cons (q_op op_addU addU_v q_int (q_call (C .f__law_draw (fun z => nomatch z)) hr tk rfl (q_cons (q_var 0) (q_cons q_int q_nil)))) q_nil)) (q_gn (i := 3) nd rfl (by first | exact Or.inl rfl | exact Or.inr rfl)) (q_seq (q_set (i := 4) nd rfl (by first | exact Or.inl rfl | exact Or.inr rfl) (q_call (C .f__law_draw (fun z => nomatch z)) hr tk rfl (q_cons (q_var 0) (q_cons q_int q_nil))))
    (q_last (q_ifS (qt_cmp (op_eqU (by have z := hu2 hr; exact z)) eqP_v (q_var 4) q_int (nomark _)) (q_last (q_par (i := 1) (j := 2) rfl nd rfl rfl (by decide) rfl rfl (q_cons (q_tup (q_cons q_str (q_cons (q_tup (q_cons q_str q_nil)) (q_cons (q_var 1) q_nil)))) (q_cons (q_lc (own := [("_law_thing", 5)]) rfl nd (qi_list (q_var 2)) (blkOk_by (own := [("_law_thing", 5)]) (by rfl)) (by decide) (fun _ _ _ _ _ => (q_gn (i := 5) nd rfl (by first | exact Or.inl rfl | exact Or.inr rfl))) (fun _ _ _ _ _ => qts_nil) (fun _ _ _ _ _ => (q_tup (q_cons (q_var 5) q_nil)))) q_nil)) (by rfl))) (q_last (q_ifS (qt_cmp (op_eqU (by have z := hu2 hr; exact z)) eqP_v (q_var 4) q_int (nomark _)) (q_last (q_par (i := 1) (j := 2) rfl nd rfl rfl (by decide) rfl rfl (q_cons (q_tup (q_cons q_str (q_cons (q_tup (q_cons q_str q_nil)) (q_cons (q_var 1) q_nil)))) (q_cons (q_lc (own := [("_law_thing", 5)]) rfl nd (qi_list (q_var 2)) (blkOk_by (own := [("_law_thing", 5)]) (by rfl)) (by decide) (fun _ _ _ _ _ => (q_gn (i := 5) nd rfl (by first | exact Or.inl rfl | exact Or.inr rfl))) (fun _ _ _ _ _ => qts_nil) (fun _ _ _ _ _ => (q_tup (q_cons (q_tup q_nil) (q_cons (q_var 5) q_nil))))) q_nil)) (by rfl))) (q_last (q_par (i := 1) (j := 2) rfl nd rfl rfl (by decide) rfl rfl (q_cons (q_tup (q_cons q_str (q_cons (q_var 1) (q_cons (q_tup (q_cons q_str q_nil)) q_nil)))) (q_cons (q_lc (own := [("_law_thing", 5)]) rfl nd (qi_list (q_var 2)) (blkOk_by (own := [("_law_thing", 5)]) (by rfl)) (by decide) (fun _ _ _ _ _ => (q_gn (i := 5) nd rfl (by first | exact Or.inl rfl | exact Or.inr rfl))) (fun _ _ _ _ _ => qts_nil) (fun _ _ _ _ _ => (q_tup (q_cons (q_var 5) (q_cons (q_tup q_nil) q_nil))))) q_nil)) (by rfl)))))))))
    (q_last (q_ret (q_cmp (op_eqU (by have z := hu2 hr; exact z)) eqP_v (q_call (C .f_worths (fun z => nomatch z)) hr tk rfl (q_cons (q_var 1) (q_cons (q_lst (q_cons q_int (q_cons q_int (q_cons q_int (q_cons q_int (q_cons q_int (q_cons q_int (q_cons q_int (q_cons q_int q_nil))))))))) q_nil))) (q_var 2) (nomark _))))))
theorem ok__law_right {k : Nat} {cl : Fn → FF} [Wo] (T : Txt K w.params mg) (hW : Wo.ww = w) (C : ∀ g : Fn, g ≠ .f_law → calOf P w K mg base k g (cl g)) (f : Addr) (cdv : Value) (A : Around) (outer : List Env) (s : Shared) (H : Hp) (E : XK) (hr : RoomG k (A.deeper (envOfC "_law_right" (defScope s__law_right) s.heap.objs.size f cdv))) :
    PSs (cxOf (L2.CX P w) P w K mg base ["_law_well_here", "_law_kind_here", "_law_sizes_here", "_law_k"] "_law_right" (defScope s__law_right) f cdv A outer s H E) (defBody s__law_right) (tS (cxOf (L2.CX P w) P w K mg base ["_law_well_here", "_law_kind_here", "_law_sizes_here", "_law_k"] "_law_right" (defScope s__law_right) f cdv A outer s H E) (fun c d _ H => E c d H) (b__law_right cl)) := by
  have tk : Takes (cxOf (L2.CX P w) P w K mg base ["_law_well_here", "_law_kind_here", "_law_sizes_here", "_law_k"] "_law_right" (defScope s__law_right) f cdv A outer s H E) (fun c d _ H => E c d H) := takes_of rfl rfl rfl rfl
  have nd := sc__law_right.nd
  exact (q_seq (q_set (i := 1) nd rfl (by first | exact Or.inl rfl | exact Or.inr rfl) (q_call (C .f__law_kind (fun z => nomatch z)) hr tk rfl (q_cons (q_var 0) (q_cons (q_op op_addU addU_v q_int (q_call (C .f__law_draw (fun z => nomatch z)) hr tk rfl (q_cons (q_var 0) (q_cons q_int q_nil)))) q_nil))))
    (q_seq (q_set (i := 2) nd rfl (by first | exact Or.inl rfl | exact Or.inr rfl) (q_call (C .f__law_sizes (fun z => nomatch z)) hr tk rfl (q_cons (q_var 0) q_nil)))
    (q_seq (q_ifS (PW.pt (qw_or (qt_not (qt_tru (q_call (C .f__law_asked (fun z => nomatch z)) hr tk rfl (q_cons (q_var 1) (q_cons (q_var 2) q_nil))))) (qw_or (qt_not (qt_tru (q_call (C .f__law_great_right (fun z => nomatch z)) hr tk rfl (q_cons (q_var 0) q_nil)))) (qw_one (qt_not (qt_tru (q_call (C .f__law_deep_right (fun z => nomatch z)) hr tk rfl (q_cons (q_var 0) q_nil)))))))) (q_last (q_ret q_bl)) q_snil)
    (q_seq (q_for (passes_of rfl) rfl (qi_range1 rfl T.m_range (q_cons q_int q_nil)) (q_gn (i := 3) nd rfl (by first | exact Or.inl rfl | exact Or.inr rfl)) (q_seq (q_asg (q_op op_addU addU_v q_int (q_call (C .f__law_draw (fun z => nomatch z)) hr tk rfl (q_cons (q_var 0) (q_cons q_int q_nil)))) (q_gsb (W := W0) (q_var 2) (q_call (C .f__law_draw (fun z => nomatch z)) hr takes0 rfl (q_cons (q_var 0) (q_cons q_int q_nil)))))
    (q_last (q_ifS (qt_not (qt_tru (q_call (C .f__law_asked (fun z => nomatch z)) hr tk rfl (q_cons (q_var 1) (q_cons (q_var 2) q_nil))))) (q_last (q_ret q_bl)) q_snil))))
    (q_last (q_ret q_bl))))))
theorem ok_law {k : Nat} {cl : Fn → FF} [Wo] (T : Txt K w.params mg) (hW : Wo.ww = w) (C : ∀ g : Fn, g ≠ .f_law → calOf P w K mg base k g (cl g)) (f : Addr) (cdv : Value) (A : Around) (outer : List Env) (s : Shared) (H : Hp) (E : XK) (hr : RoomG k (A.deeper (envOfC "law" (defScope s_law) s.heap.objs.size f cdv))) :
    PSs (cxOf (L2.CX P w) P w K mg base ["_law_script", "_law_cell"] "law" (defScope s_law) f cdv A outer s H E) (defBody s_law) (tS (cxOf (L2.CX P w) P w K mg base ["_law_script", "_law_cell"] "law" (defScope s_law) f cdv A outer s H E) (fun c d _ H => E c d H) (b_law cl)) := by
  have tk : Takes (cxOf (L2.CX P w) P w K mg base ["_law_script", "_law_cell"] "law" (defScope s_law) f cdv A outer s H E) (fun c d _ H => E c d H) := takes_of rfl rfl rfl rfl
  have nd := sc_law.nd
  exact (q_seq (q_for (passes_of rfl) rfl (qi_list (q_op op_addU addU_v (q_lst (q_cons (q_call (C .f__law_cell_at (fun z => nomatch z)) hr tk rfl (q_cons (q_var 0) (q_cons q_int q_nil))) q_nil)) (q_slice (q_var 0) (q_some q_int) (q_some q_int)))) (q_gn (i := 1) nd rfl (by first | exact Or.inl rfl | exact Or.inr rfl)) (q_last (q_ifS (qt_not (qt_tru (q_call (C .f__law_right (fun z => nomatch z)) hr tk rfl (q_cons (q_call (C .f__law_well (fun z => nomatch z)) hr tk rfl (q_cons (q_var 1) q_nil)) q_nil)))) (q_last (q_ret q_bl)) q_snil)))
    (q_last (q_ret q_bl)))
theorem all_ok [Wo] (T : Txt K w.params mg) (hW : Wo.ww = w) : ∀ (n : Nat) (g : Fn), g ≠ .f_law → calOf P w K mg base n g (ev n g)
  | 0, .f_is_from, _ => cal_zero T.t_is_from
  | 0, .f_inner_of, _ => cal_zero T.t_inner_of
  | 0, .f_is_kind, _ => cal_zero T.t_is_kind
  | 0, .f_sure_kind, _ => cal_zero T.t_sure_kind
  | 0, .f_sure_sizes, _ => cal_zero T.t_sure_sizes
  | 0, .f_power_up_to, _ => cal_zero T.t_power_up_to
  | 0, .f_number_up_to, _ => cal_zero T.t_number_up_to
  | 0, .f_sure_taken, _ => cal_zero T.t_sure_taken
  | 0, .f_lists_of, _ => cal_zero T.t_lists_of
  | 0, .f_all_worths, _ => cal_zero T.t_all_worths
  | 0, .f_worths, _ => cal_zero T.t_worths
  | 0, .f__law_cell_at, _ => cal_zero T.t__law_cell_at
  | 0, .f__law_well, _ => cal_zero T.t__law_well
  | 0, .f__law_draw, _ => cal_zero T.t__law_draw
  | 0, .f__law_one, _ => cal_zero T.t__law_one
  | 0, .f__law_kind, _ => cal_zero T.t__law_kind
  | 0, .f__law_sizes, _ => cal_zero T.t__law_sizes
  | 0, .f__law_power, _ => cal_zero T.t__law_power
  | 0, .f__law_number, _ => cal_zero T.t__law_number
  | 0, .f__law_taken, _ => cal_zero T.t__law_taken
  | 0, .f__law_all, _ => cal_zero T.t__law_all
  | 0, .f__law_asked, _ => cal_zero T.t__law_asked
  | 0, .f__law_great_right, _ => cal_zero T.t__law_great_right
  | 0, .f__law_deep_right, _ => cal_zero T.t__law_deep_right
  | 0, .f__law_right, _ => cal_zero T.t__law_right
  | n + 1, .f_is_from, _ => calB T.t_is_from sc_is_from (ok_is_from T hW (all_ok T hW n))
  | n + 1, .f_inner_of, _ => calB T.t_inner_of sc_inner_of (ok_inner_of T hW (all_ok T hW n))
  | n + 1, .f_is_kind, _ => calC T.t_is_kind sc_is_kind (ok_is_kind T hW (all_ok T hW n))
  | n + 1, .f_sure_kind, _ => calB T.t_sure_kind sc_sure_kind (ok_sure_kind T hW (all_ok T hW n))
  | n + 1, .f_sure_sizes, _ => calB T.t_sure_sizes sc_sure_sizes (ok_sure_sizes T hW (all_ok T hW n))
  | n + 1, .f_power_up_to, _ => calB T.t_power_up_to sc_power_up_to (ok_power_up_to T hW (all_ok T hW n))
  | n + 1, .f_number_up_to, _ => calB T.t_number_up_to sc_number_up_to (ok_number_up_to T hW (all_ok T hW n))
  | n + 1, .f_sure_taken, _ => calB T.t_sure_taken sc_sure_taken (ok_sure_taken T hW (all_ok T hW n))
  | n + 1, .f_lists_of, _ => calB T.t_lists_of sc_lists_of (ok_lists_of T hW (all_ok T hW n))
  | n + 1, .f_all_worths, _ => calB T.t_all_worths sc_all_worths (ok_all_worths T hW (all_ok T hW n))
  | n + 1, .f_worths, _ => calB T.t_worths sc_worths (ok_worths T hW (all_ok T hW n))
  | n + 1, .f__law_cell_at, _ => calB T.t__law_cell_at sc__law_cell_at (ok__law_cell_at T hW (all_ok T hW n))
  | n + 1, .f__law_well, _ => calB T.t__law_well sc__law_well (ok__law_well T hW (all_ok T hW n))
  | n + 1, .f__law_draw, _ => calB T.t__law_draw sc__law_draw (ok__law_draw T hW (all_ok T hW n))
  | n + 1, .f__law_one, _ => calB T.t__law_one sc__law_one (ok__law_one T hW (all_ok T hW n))
  | n + 1, .f__law_kind, _ => calB T.t__law_kind sc__law_kind (ok__law_kind T hW (all_ok T hW n))
  | n + 1, .f__law_sizes, _ => calB T.t__law_sizes sc__law_sizes (ok__law_sizes T hW (all_ok T hW n))
  | n + 1, .f__law_power, _ => calB T.t__law_power sc__law_power (ok__law_power T hW (all_ok T hW n))
  | n + 1, .f__law_number, _ => calB T.t__law_number sc__law_number (ok__law_number T hW (all_ok T hW n))
  | n + 1, .f__law_taken, _ => calB T.t__law_taken sc__law_taken (ok__law_taken T hW (all_ok T hW n))
  | n + 1, .f__law_all, _ => calB T.t__law_all sc__law_all (ok__law_all T hW (all_ok T hW n))
  | n + 1, .f__law_asked, _ => calC T.t__law_asked sc__law_asked (ok__law_asked T hW (all_ok T hW n))
  | n + 1, .f__law_great_right, _ => calC T.t__law_great_right sc__law_great_right (ok__law_great_right T hW (all_ok T hW n))
  | n + 1, .f__law_deep_right, _ => calC T.t__law_deep_right sc__law_deep_right (ok__law_deep_right T hW (all_ok T hW n))
  | n + 1, .f__law_right, _ => calC T.t__law_right sc__law_right (ok__law_right T hW (all_ok T hW n))
  | _, .f_law, h => absurd rfl h
end
end Kz
namespace Kz
open PySem PySem.Spec PyProof.Rows L2 Kw
theorem up {n d : Nat} (h : d + 1 ≤ n) : ∃ m, n = m + 1 ∧ d ≤ m := ⟨n - 1, by omega, by omega⟩
theorem is_from_int {n : Nat} {i lo hi : Int} {S : Store} (h : 1 ≤ n) : ev n .f_is_from [.int i, .int lo, .int hi] S = .ok (.bl (decide (lo ≤ i) && decide (i ≤ hi))) S := by
  obtain ⟨m, rfl, h'⟩ := up h
  rw [ev, b_is_from]
  simp
  by_cases h : lo ≤ i <;> simp [h]
mutual
/-- data whose sort is known, whose texts are good; no cells -/
def pl : D → Bool
  | .non | .bl _ | .int _ | .fls _ | .lst _ | .dic _ _ => true
  | .str s => PyData.strOk s
  | .tup ds => plL ds
  | _ => false
def plL : List D → Bool
  | [] => true
  | d :: ds => pl d && plL ds
end
abbrev lay (d : D) : Prop := pl d = true
abbrev layL (ds : List D) : Prop := plL ds = true
theorem layL_nil : layL [] := rfl
theorem layL_cons {d : D} {ds : List D} : layL (d :: ds) ↔ lay d ∧ layL ds := by simp [layL, lay, plL]
theorem layL_app {ds es : List D} : layL (ds ++ es) ↔ layL ds ∧ layL es := by
  induction ds with
  | nil => simp [layL, plL]
  | cons d ds ih => rw [List.cons_append, layL_cons, layL_cons, ih, and_assoc]
theorem lay_tup {ds : List D} (h : lay (.tup ds)) : layL ds := by simpa [lay, pl] using h
theorem isi_notup {d : D} {S : Store} (h : lay d) (hn : ∀ ds, d ≠ .tup ds) : isiR "tuple" d S = .ok (.bl false) S := by
  cases d with
  | tup ds => exact absurd rfl (hn ds)
  | fls b => rfl
  | loc _ => simp [lay, pl] at h
  | ins _ _ _ => simp [lay, pl] at h
  | glo _ => simp [lay, pl] at h
  | exn _ => simp [lay, pl] at h
  | exo _ _ _ => simp [lay, pl] at h
  | lam _ _ _ => simp [lay, pl] at h
  | _ => simp
theorem isi_nostr {d : D} {S : Store} (h : lay d) (hn : ∀ ds, d ≠ .str ds) : isiR "str" d S = .ok (.bl false) S := by
  cases d with
  | str ds => exact absurd rfl (hn ds)
  | fls b => rfl
  | loc _ => simp [lay, pl] at h
  | ins _ _ _ => simp [lay, pl] at h
  | glo _ => simp [lay, pl] at h
  | exn _ => simp [lay, pl] at h
  | exo _ _ _ => simp [lay, pl] at h
  | lam _ _ _ => simp [lay, pl] at h
  | _ => simp
theorem is_from_else {n : Nat} {d : D} {lo hi : Int} {S : Store} (h : 1 ≤ n) (l : lay d) (hn : ∀ i, d ≠ .int i) : ev n .f_is_from [d, .int lo, .int hi] S = .ok (.bl false) S := by
  obtain ⟨m, rfl, h'⟩ := up h
  rw [ev, b_is_from]
  cases d with
  | int i => exact absurd rfl (hn i)
  | fls b => simp; rfl
  | loc _ => simp [lay, pl] at l
  | ins _ _ _ => simp [lay, pl] at l
  | glo _ => simp [lay, pl] at l
  | exn _ => simp [lay, pl] at l
  | exo _ _ _ => simp [lay, pl] at l
  | lam _ _ _ => simp [lay, pl] at l
  | _ => simp
def innR (s : Str) (r : List D) : Option (List D) :=
  if s = "base" then (match r with
    | [.int i] => if 0 ≤ i ∧ i ≤ 7 then some [] else none
    | _ => none)
  else if s = "unit" then (match r with
    | [] => some []
    | _ => none)
  else if s = "both" ∨ s = "from" then (match r with
    | [a, b] => some [a, b]
    | _ => none)
  else none
def innD : D → Option (List D)
  | .tup (.str s :: r) => innR s r
  | _ => none
def oL (o : Option (List D)) : D := match o with
  | some ds => .lst ds
  | none => .non
theorem cutL1 {α : Type} (d : α) (r : List α) : cutL (d :: r) (some 1) none = r := by
  have e1 : HT.sIx (r.length + 1) 0 (some 1) = 1 := by
    show (if (1 : Int) < 0 then ((1 : Int) + ((r.length + 1 : Nat) : Int)).toNat else min (1 : Int).toNat (r.length + 1)) = 1
    rw [if_neg (by decide)]
    show min 1 (r.length + 1) = 1
    omega
  have e2 : HT.sIx (r.length + 1) (r.length + 1) none = r.length + 1 := rfl
  unfold cutL
  rw [List.length_cons, e1, e2]
  simp
theorem inner_str {n : Nat} {s : Str} {r : List D} {S : Store} (h : 2 ≤ n) (l : layL r) (hs : PyData.strOk s = true) : ev n .f_inner_of [.tup (.str s :: r)] S = .ok (oL (innR s r)) S := by
  obtain ⟨m, rfl, h'⟩ := up h
  rw [ev, b_inner_of]
  have h8 : sizeLine = 16777216 := rfl
  have ne : ¬ ((r.length : Int) + 1 = 0) := by omega
  by_cases h1 : s = "base"
  · subst h1
    match r, l with
    | [], l => simp [innR, oL]
    | [d], l =>
      by_cases hi : ∃ i, d = .int i
      · obtain ⟨i, rfl⟩ := hi
        simp [is_from_int h', h8, innR, oL]
        by_cases c1 : 0 ≤ i <;> by_cases c2 : i ≤ 7 <;> simp [c1, c2]
      · have hi' : ∀ i, d ≠ .int i := fun i z => hi ⟨i, z⟩
        have ld := (layL_cons.mp l).1
        have e : innR (Str.ofString "base") [d] = none := by
          unfold innR
          rw [if_pos rfl]
          split
          · rename_i i q; cases q; exact absurd rfl (hi' i)
          · rfl
        simp [is_from_else h' ld hi', h8, e, oL]
    | d :: e :: r, l =>
      have n2 : ¬ ((r.length : Int) + 1 + 1 + 1 = 2) := by omega
      have n0 : ¬ ((r.length : Int) + 1 + 1 + 1 = 0) := by omega
      simp [innR, oL, n2, n0]
  · by_cases h2 : s = "unit"
    · subst h2
      match r, l with
      | [], l => simp [innR, oL]
      | d :: r, l =>
        have n2 : ¬ ((r.length : Int) + 1 + 1 = 1) := by omega
        have n0 : ¬ ((r.length : Int) + 1 + 1 = 0) := by omega
        simp [innR, oL, n2, n0]
    · have s1 : (s == Str.ofString "base") = false := by simpa using h1
      have s2 : (s == Str.ofString "unit") = false := by simpa using h2
      by_cases h3 : s = "both" ∨ s = "from"
      · have lk : (List.lookup s kv_MARKS).isSome = true := by rcases h3 with rfl | rfl <;> simp [kv_MARKS, List.lookup]
        match r, l with
        | [a, b], l => simp [ne, s1, s2, hs, lk, innR, h1, h2, h3, oL, cutL1]
        | [], l => simp [ne, s1, s2, hs, lk, innR, h1, h2, h3, oL]
        | [a], l => simp [ne, s1, s2, hs, lk, innR, h1, h2, h3, oL]
        | a :: b :: c :: r, l =>
          have n2 : ¬ ((r.length : Int) + 1 + 1 + 1 + 1 = 3) := by omega
          have n0 : ¬ ((r.length : Int) + 1 + 1 + 1 + 1 = 0) := by omega
          simp [n0, n2, s1, s2, hs, lk, innR, h1, h2, h3, oL]
      · have h4 : ¬ s = "both" := fun z => h3 (.inl z)
        have h5 : ¬ s = "from" := fun z => h3 (.inr z)
        have b1 : (s == Str.ofString "both") = false := by simpa using h4
        have b2 : (s == Str.ofString "from") = false := by simpa using h5
        have lk : (List.lookup s kv_MARKS).isSome = false := by simp [kv_MARKS, List.lookup, b1, b2]
        simp [ne, s1, s2, hs, lk, innR, h1, h2, h3, oL]
theorem inner_gen {n : Nat} {d : D} {S : Store} (h : 2 ≤ n) (l : lay d) : ev n .f_inner_of [d] S = .ok (oL (innD d)) S := by
  by_cases ht : ∃ ds, d = .tup ds
  · obtain ⟨ds, rfl⟩ := ht
    have ll := lay_tup l
    match ds, ll with
    | [], ll =>
      obtain ⟨m, rfl, h'⟩ := up h
      rw [ev, b_inner_of]
      simp [innD, oL]
    | x :: r, ll =>
      obtain ⟨lx, lr⟩ := layL_cons.mp ll
      by_cases hx : ∃ s, x = .str s
      · obtain ⟨s, rfl⟩ := hx
        have hs : PyData.strOk s = true := by simpa [lay, pl] using lx
        exact inner_str h lr hs
      · have hx' : ∀ s, x ≠ .str s := fun s z => hx ⟨s, z⟩
        have e : innD (.tup (x :: r)) = none := by
          unfold innD
          split
          · rename_i s r' q
            injection q with q
            injection q with q1 q2
            exact absurd q1 (hx' s)
          · rfl
        obtain ⟨m, rfl, h'⟩ := up h
        rw [ev, b_inner_of]
        have n0 : ¬ ((r.length : Int) + 1 = 0) := by omega
        simp [n0, isi_nostr lx hx', e, oL]
  · have ht' : ∀ ds, d ≠ .tup ds := fun s z => ht ⟨s, z⟩
    have e : innD d = none := by
      unfold innD
      split
      · exact absurd rfl (ht' _)
      · rfl
    obtain ⟨m, rfl, h'⟩ := up h
    rw [ev, b_inner_of]
    simp [isi_notup l ht', e, oL]
mutual
/-- how many parts -/
def nd : D → Nat
  | .tup ds => ndL ds + 1
  | _ => 1
def ndL : List D → Nat
  | [] => 0
  | d :: ds => nd d + ndL ds
end
theorem nd_pos (d : D) : 0 < nd d := by cases d <;> simp [nd]
theorem ndL_app (ds es : List D) : ndL (ds ++ es) = ndL ds + ndL es := by
  induction ds with
  | nil => simp [ndL]
  | cons d ds ih => simp [ndL, ih]; omega
theorem ndL_len (ds : List D) : ds.length ≤ ndL ds := by
  induction ds with
  | nil => simp [ndL]
  | cons d ds ih => have := nd_pos d; simp [ndL]; omega
theorem inn_nd {d : D} {ds : List D} (h : innD d = some ds) : ndL ds < nd d := by
  unfold innD at h
  split at h
  · rename_i s r
    unfold innR at h
    split at h
    · split at h
      · split at h
        · cases h; simp [ndL, nd]
        · cases h
      · cases h
    · split at h
      · split at h
        · cases h; simp [ndL, nd]
        · cases h
      · split at h
        · split at h
          · cases h; simp [ndL, nd]; omega
          · cases h
        · cases h
  · cases h
theorem inn_lay {d : D} {ds : List D} (l : lay d) (h : innD d = some ds) : layL ds := by
  unfold innD at h
  split at h
  · rename_i s r
    have lr := (layL_cons.mp (lay_tup l)).2
    unfold innR at h
    split at h
    · split at h
      · split at h
        · cases h; exact layL_nil
        · cases h
      · cases h
    · split at h
      · split at h
        · cases h; exact layL_nil
        · cases h
      · split at h
        · split at h
          · cases h; exact lr
          · cases h
        · cases h
  · cases h
/-- whether it is a kind (f: enough steps) -/
def isKf : Nat → D → Bool
  | 0, _ => false
  | f + 1, d => match innD d with
    | some ds => ds.all (isKf f)
    | none => false
theorem isKf_mono : ∀ {f g : Nat} {d : D}, nd d ≤ f → f ≤ g → isKf g d = isKf f d
  | 0, _, d, h, _ => absurd (nd_pos d) (by omega)
  | f + 1, 0, _, _, h => absurd h (by omega)
  | f + 1, g + 1, d, h, l => by
    unfold isKf
    cases hd : innD d with
    | none => rfl
    | some ds =>
      have hn := inn_nd hd
      have key : ∀ es : List D, ndL es ≤ f → es.all (isKf g) = es.all (isKf f) := by
        intro es
        induction es with
        | nil => intro _; rfl
        | cons e es ih =>
          intro h1
          simp only [ndL] at h1
          simp only [List.all_cons]
          rw [isKf_mono (f := f) (g := g) (by omega) (by omega), ih (by omega)]
      exact key ds (by omega)
def isK (d : D) : Bool := isKf (nd d) d
theorem isK_eq (d : D) : isK d = match innD d with
    | some ds => ds.all isK
    | none => false := by
  have e : ∃ f, nd d = f + 1 := ⟨nd d - 1, by have := nd_pos d; omega⟩
  obtain ⟨f, hf⟩ := e
  unfold isK
  rw [hf]
  show (match innD d with
    | some ds => ds.all (isKf f)
    | none => false) = _
  cases hd : innD d with
  | none => rfl
  | some ds =>
    have hn := inn_nd hd
    have key : ∀ es : List D, ndL es ≤ f → es.all (isKf f) = es.all (fun d => isKf (nd d) d) := by
      intro es
      induction es with
      | nil => intro _; rfl
      | cons e es ih =>
        intro h1
        simp only [ndL] at h1
        simp only [List.all_cons]
        rw [isKf_mono (f := nd e) (g := f) (Nat.le_refl _) (by omega), ih (by omega)]
    exact key ds (by omega)
theorem isK_kd (k : Kd) : isK k.d = true := by
  induction k with
  | base i =>
    have : (i.val : Int) ≤ 7 := by have := i.isLt; omega
    rw [isK_eq]; simp [Kd.d, innD, innR, this]
  | unit => rw [isK_eq]; simp [Kd.d, innD, innR]
  | both a b ha hb => rw [isK_eq]; simp [Kd.d, innD, innR, ha, hb]
  | frm a b ha hb => rw [isK_eq]; simp [Kd.d, innD, innR, ha, hb]
theorem nd_kd (k : Kd) : nd k.d ≤ 4 * k.sz := by
  induction k with
  | base i => simp [Kd.d, nd, ndL, Kd.sz]
  | unit => simp [Kd.d, nd, ndL, Kd.sz]
  | both a b ha hb => simp [Kd.d, nd, ndL, Kd.sz]; omega
  | frm a b ha hb => simp [Kd.d, nd, ndL, Kd.sz]; omega
theorem lay_kd (k : Kd) : lay k.d := by
  induction k with
  | base i => simp [lay, Kd.d, pl, plL]
  | unit => simp [lay, Kd.d, pl, plL]
  | both a b ha hb =>
    have h1 : pl a.d = true := ha
    have h2 : pl b.d = true := hb
    simp [lay, Kd.d, pl, plL, h1, h2]
  | frm a b ha hb =>
    have h1 : pl a.d = true := ha
    have h2 : pl b.d = true := hb
    simp [lay, Kd.d, pl, plL, h1, h2]
theorem is_kind_loop {m : Nat} (h : 2 ≤ m) (S : Store) (x : Option D) : ∀ (N : Nat) (ds : List D) (y : Option D), ndL ds ≤ N → N ≤ 8000000 → layL ds → ∃ z T,
    sWhile (fB (f2 gNe (fVar 1) (fArg mkLst fNil))) (l_is_kind_0 (ev m)) [x, some (.loc S.length), y] (S ++ [.lst ds]) = if ds.all isK then .nx [x, some (.loc S.length), z] (S ++ [.lst []]) else .rt (.bl false) (S ++ [.lst T]) := by
  intro N
  induction N with
  | zero =>
    intro ds y hN hM hl
    cases ds with
    | nil =>
      refine ⟨y, [], ?_⟩
      have hne := gNe_nil (n := S.length) (S := S ++ [.lst []]) (ds := []) cellOf_app
      rw [sWhile_go]
      simp [hne]
    | cons d r =>
      have := nd_pos d
      simp [ndL] at hN; omega
  | succ N ih =>
    intro ds y hN hM hl
    rcases List.eq_nil_or_concat ds with rfl | ⟨r, d, rfl⟩
    · refine ⟨y, [], ?_⟩
      have hne := gNe_nil (n := S.length) (S := S ++ [.lst []]) (ds := []) cellOf_app
      rw [sWhile_go]
      simp [hne]
    · rw [List.concat_eq_append] at hN hl ⊢
      obtain ⟨lr, ld⟩ := layL_app.mp hl
      have ld := (layL_cons.mp ld).1
      rw [ndL_app] at hN
      have hN' : ndL r + nd d ≤ N + 1 := by simpa [ndL] using hN
      have hne := gNe_nil (n := S.length) (S := S ++ [.lst (r ++ [d])]) (ds := r ++ [d]) cellOf_app
      have hm := mthR_loc (n := S.length) (S := S ++ [.lst (r ++ [d])]) (ρ := [x, some (.loc S.length), y]) (xs := r ++ [d]) (g := gPop0) (a := fNil) cellOf_app
      have hp := gPop0_loc (n := S.length) (S := S ++ [.lst (r ++ [d])]) (xs := r) (d := d) cellM_app
      have hi := inner_gen (n := m) (S := S ++ [.lst r]) h ld
      cases hd : innD d with
      | none =>
        refine ⟨none, r, ?_⟩
        have hk : isK d = false := by rw [isK_eq, hd]
        rw [hd] at hi
        rw [sWhile_go]
        simp [hne, l_is_kind_0, hm, hp, hi, oL, hk]
      | some es =>
        have hn := inn_nd hd
        have hk : isK d = es.all isK := by rw [isK_eq, hd]
        rw [hd] at hi
        have hs : ndL (r ++ es) ≤ N := by rw [ndL_app]; omega
        obtain ⟨z, T, hz⟩ := ih (r ++ es) (some (.lst es)) hs (by omega) (layL_app.mpr ⟨lr, inn_lay ld hd⟩)
        refine ⟨z, T, ?_⟩
        have e2 : (r ++ [d]).all isK = (r ++ es).all isK := by simp [hk]
        rw [sWhile_go, e2, ← hz]
        have h8 : sizeLine = 16777216 := rfl
        have hl' : r.length + es.length ≤ sizeLine := by
          have := ndL_len (r ++ es)
          simp at this; omega
        have hm2 := mthR_loc (n := S.length) (S := S ++ [.lst r]) (ρ := [x, some (.loc S.length), some (.lst es)]) (xs := r) (g := gExtend) (a := fCons (fVar 2) fNil) cellOf_app
        have he := gExtend_loc (n := S.length) (S := S ++ [.lst r]) (xs := r) (ys := es) cellM_app hl'
        simp [hne, l_is_kind_0, hm, hm2, hp, he, hi, oL]
theorem is_kind_gen {n : Nat} {d : D} {S : Store} (h : 3 ≤ n) (hd : nd d ≤ 8000000) (l : lay d) : ev n .f_is_kind [d] S = .ok (.bl (isK d)) S := by
  obtain ⟨m, rfl, h'⟩ := up h
  obtain ⟨z, T, hz⟩ := is_kind_loop h' S (some d) 8000000 [d] none (by simpa [ndL] using hd) (Nat.le_refl _) (layL_cons.mpr ⟨l, layL_nil⟩)
  have e : ∃ T', fnB 1 3 (b_is_kind (ev m)) [d] S = .ok (.bl (isK d)) (S ++ [.lst T']) := by
    rw [b_is_kind]
    simp at hz ⊢
    cases hk : isK d with
    | true => rw [hk] at hz; exact ⟨[], by simp [hz]⟩
    | false => rw [hk] at hz; exact ⟨T, by simp [hz]⟩
  obtain ⟨T', e⟩ := e
  rw [ev, fnC_ap, e]
  exact cut_ok _ rfl
theorem is_kind_kd {n : Nat} {k : Kd} {S : Store} (h : 3 ≤ n) (hk : k.sz ≤ 2000000) : ev n .f_is_kind [k.d] S = .ok (.bl true) S := by
  rw [is_kind_gen h (by have := nd_kd k; omega) (lay_kd k), isK_kd]
theorem sure_kind_kd {n : Nat} {k : Kd} {S : Store} (h : 4 ≤ n) (hk : k.sz ≤ 2000000) : ev n .f_sure_kind [k.d] S = .ok .non S := by
  obtain ⟨m, rfl, h'⟩ := up h
  rw [ev, b_sure_kind]
  simp [is_kind_kd h' hk]
end Kz
namespace Kz
open PySem PySem.Spec PyProof.Rows L2 Kw
def wd (b : Bool) : Str := if b then "both" else "from"
def mk2 (b : Bool) (x y : Kd) : Kd := if b then .both x y else .frm x y
theorem mk2_d (b : Bool) (x y : Kd) : (mk2 b x y).d = .tup [.str (wd b), x.d, y.d] := by cases b <;> rfl
/-- the stack that is read into: past S, at n -/
structure Stk (S0 S : Store) (n : Nat) (st : List D) : Prop where
  pre : ∃ T, S = S0 ++ T
  le : S0.length ≤ n
  at_ : S[n]? = some (.lst st)
theorem Stk.push {S0 S : Store} {n : Nat} {st : List D} {d : D} (h : Stk S0 S n st) : Stk S0 (S.set n (.lst (st ++ [d]))) n (st ++ [d]) := by
  obtain ⟨⟨T, rfl⟩, le, at_⟩ := h
  have hn : n < (S0 ++ T).length := by
    rcases Nat.lt_or_ge n (S0 ++ T).length with hh | hh
    · exact hh
    · rw [List.getElem?_eq_none hh] at at_; cases at_
  refine ⟨⟨T.set (n - S0.length) (.lst (st ++ [d])), ?_⟩, le, ?_⟩
  · rw [List.set_append, if_neg (by omega)]
  · rw [List.getElem?_set_self hn]
end Kz
namespace Kz
open PySem PySem.Spec PyProof.Rows L2 Kw
/-- a well lies at w -/
def Well (S : Store) (w : Nat) : Prop := ∃ a b c : Int, 0 ≤ a ∧ 0 ≤ b ∧ b < 2147483629 ∧ 0 ≤ c ∧ S[w]? = some (.lst [.int a, .int b, .int c])
/-- only the well was changed -/
structure WS (S : Store) (w : Nat) (S' : Store) : Prop where
  len : S'.length = S.length
  same : ∀ i, i ≠ w → S'[i]? = S[i]?
  well : Well S' w
theorem WS.refl {S : Store} {w : Nat} (h : Well S w) : WS S w S := ⟨rfl, fun _ _ => rfl, h⟩
theorem WS.trans {S S1 S2 : Store} {w : Nat} (h : WS S w S1) (k : WS S1 w S2) : WS S w S2 := ⟨k.len.trans h.len, fun i hi => (k.same i hi).trans (h.same i hi), k.well⟩
theorem lt_of_at {S : Store} {w : Nat} {c : Cell} (h : S[w]? = some c) : w < S.length := by
  rcases Nat.lt_or_ge w S.length with hh | hh
  · exact hh
  · rw [List.getElem?_eq_none hh] at h; cases h
theorem WS.set {S : Store} {w : Nat} {a b c : Int} {x : Cell} (h : S[w]? = some x) (ha : 0 ≤ a) (hb : 0 ≤ b) (hb' : b < 2147483629) (hc : 0 ≤ c) : WS S w (S.set w (.lst [.int a, .int b, .int c])) :=
  ⟨by simp, fun i hi => by rw [List.getElem?_set_ne (Ne.symm hi)], a, b, c, ha, hb, hb', hc, List.getElem?_set_self (lt_of_at h)⟩
theorem well_new {n : Nat} {S : Store} {i : Int} (h : 1 ≤ n) : ∃ S', ev n .f__law_well [.int i] S = .ok (.loc S.length) (S ++ [S']) ∧ Well (S ++ [S']) S.length := by
  obtain ⟨m, rfl, h'⟩ := up h
  have m1 : CMul i (if i ≥ 10 ^ 18 then 1 else 0) ∨ CMulW i (if i ≥ 10 ^ 18 then 1 else 0) := .inl (.inr (by split <;> omega))
  refine ⟨.lst [.int (i * (if i ≥ 10 ^ 18 then 1 else 0)), .int (i % 2147483629), .int 0], ?_, i * (if i ≥ 10 ^ 18 then 1 else 0), i % 2147483629, 0, ?_, by omega, by omega, by omega, by simp⟩
  · rw [ev, b__law_well]
    have h8 : sizeLine = 16777216 := rfl
    have e : (10 : Int) ^ 18 = 1000000000000000000 := by decide
    rw [e] at m1 ⊢
    by_cases h : (1000000000000000000 : Int) ≤ i
    · have h' : i ≥ 1000000000000000000 := h
      rw [if_pos h'] at m1 ⊢
      simp [h, m1, h8]
    · have h' : ¬ i ≥ 1000000000000000000 := h
      rw [if_neg h'] at m1 ⊢
      simp [h, m1, h8]
  · split
    · omega
    · omega
theorem draw_sp {n : Nat} {S : Store} {w : Nat} {m : Int} (h : 1 ≤ n) (hw : Well S w) (hm : 0 < m) (hm' : m < 1000000000) : ∃ r S', ev n .f__law_draw [.loc w, .int m] S = .ok (.int r) S' ∧ 0 ≤ r ∧ r < m ∧ WS S w S' := by
  obtain ⟨n, rfl, h'⟩ := up h
  obtain ⟨a, b, c, ha, hb, hb', hc, at_⟩ := hw
  have hw := lt_of_at at_
  have hlog : m.natAbs.log2 < 9000 := by
    rcases Nat.eq_zero_or_pos m.natAbs with h0 | h0
    · rw [h0]; decide
    · have : m.natAbs.log2 < 40 := (Nat.log2_lt (by omega)).mpr (by omega)
      omega
  rw [ev, b__law_draw]
  by_cases h0 : 0 < a
  · refine ⟨a % m, S.set w (.lst [.int (a / m), .int b, .int c]), ?_, Int.emod_nonneg _ (by omega), Int.emod_lt_of_pos _ hm, WS.set at_ (Int.ediv_nonneg ha (by omega)) hb hb' hc⟩
    simp [cellOf_of at_, h0, hm, hlog, gSb, gSetI, cellM_of at_, L2.ixN]
  · have l1 : (1013 : Nat).log2 < 9000 := by decide
    have l2 : (2003 : Nat).log2 < 9000 := by decide
    have l3 : (3 : Nat).log2 < 9000 := by decide
    have at2 : (S.set w (.lst [.int a, .int b, .int (c + 1)]))[w]? = some (.lst [.int a, .int b, .int (c + 1)]) := List.getElem?_set_self hw
    have c1 : ∀ i j : Int, 0 ≤ j → j < 18446744073709551616 → (CMul i j ∨ CMulW i j) = True := fun i j h1 h2 => eq_true (.inl (.inr ⟨by omega, by omega⟩))
    have c2 : ∀ i j : Int, 0 ≤ i → i < 18446744073709551616 → (CMul i j ∨ CMulW i j) = True := fun i j h1 h2 => eq_true (.inl (.inl ⟨by omega, by omega⟩))
    have b1 : ∀ x : Int, 0 ≤ x % 2147483629 ∧ x % 2147483629 < 2147483629 := fun x => by omega
    have b2 : ∀ x : Int, 0 ≤ x % 2147483587 ∧ x % 2147483587 < 2147483587 := fun x => by omega
    have k1 := fun (x y : Int) => c2 (x % 2147483629) y (b1 x).1 (by have := (b1 x).2; omega)
    have k2 := fun (x y : Int) => c2 (x % 2147483587) y (b2 x).1 (by have := (b2 x).2; omega)
    have k3 := fun (x : Int) => c1 x 48271 (by omega) (by omega)
    have k4 := fun (x : Int) => c2 86969 x (by omega) (by omega)
    refine ⟨(((b + 86969 * (c + 1) + 1) * 48271 % 2147483629 * ((b + 86969 * (c + 1) + 1) * 48271 % 2147483629 / 1013 + 69623 + (c + 1)) % 2147483587) * ((((b + 86969 * (c + 1) + 1) * 48271 % 2147483629 * ((b + 86969 * (c + 1) + 1) * 48271 % 2147483629 / 1013 + 69623 + (c + 1)) % 2147483587)) / 2003 + 40692) % 2147483563 / 3) % m, S.set w (.lst [.int a, .int b, .int (c + 1)]), ?_, Int.emod_nonneg _ (by omega), Int.emod_lt_of_pos _ hm, WS.set at_ ha hb hb' (by omega)⟩
    simp [cellOf_of at_, h0, hm, hlog, gSb, gSetI, cellM_of at_, L2.ixN, cellOf_of at2, k1, k2, k3, k4, l1, l2, l3]
theorem one_sp {n : Nat} {S : Store} {w : Nat} {ds : List D} (h : 2 ≤ n) (hw : Well S w) (h0 : ds ≠ []) (hl : ds.length < 1000000) : ∃ d S', ev n .f__law_one [.loc w, .lst ds] S = .ok d S' ∧ d ∈ ds ∧ WS S w S' := by
  obtain ⟨n, rfl, h'⟩ := up h
  have hp : 0 < ds.length := List.length_pos_iff.mpr h0
  obtain ⟨r, S', e, r0, r1, ws⟩ := draw_sp (m := (ds.length : Int)) h' hw (by omega) (by omega)
  have hr : r = ((r.toNat : Nat) : Int) := by omega
  have hlt : r.toNat < ds.length := by omega
  refine ⟨ds[r.toNat], S', ?_, List.getElem_mem _, ws⟩
  rw [ev, b__law_one]
  have hx := ixR_nat (ds := ds) (n := r.toNat) (S := S')
  rw [← hr, List.getElem?_eq_getElem hlt] at hx
  simp [e, hx]
theorem cell_at {n : Nat} {S : Store} {ds : List D} {k : Nat} (h : 1 ≤ n) : ∃ d, ev n .f__law_cell_at [.fls ds, .int k] S = .ok d S ∧ (d ∈ ds ∨ d = .int 0) := by
  obtain ⟨n, rfl, h'⟩ := up h
  rw [ev, b__law_cell_at]
  by_cases hk : k < ds.length
  · refine ⟨ds[k], ?_, .inl (List.getElem_mem _)⟩
    simp [hk, List.getElem?_eq_getElem hk]
  · refine ⟨.int 0, ?_, .inr rfl⟩
    simp [hk]
end Kz
namespace Kz
open PySem PySem.Spec PyProof.Rows L2 Kw
def Eqd (d : D) (q : Nat) : Prop := ∃ p : PyData, (∀ S, pyS S d = some p) ∧ p.canLay0 = true ∧ p.depth ≤ q ∧ PyData.eqv p p = true
def EqdL (ds : List D) (q : Nat) : Prop := ∃ ps : List PyData, (∀ S, pySL S ds = some ps) ∧ PyData.canLayAll0 ps = true ∧ PyData.depthAll ps ≤ q ∧ PyData.eqvAll ps ps = true
theorem EqdL.nil {q : Nat} : EqdL [] q := ⟨[], fun _ => rfl, rfl, Nat.zero_le _, Kd.eqvAll_n⟩
theorem EqdL.cons {d : D} {ds : List D} {q : Nat} (h : Eqd d q) (t : EqdL ds q) : EqdL (d :: ds) q := by
  obtain ⟨p, e, a, b, c⟩ := h
  obtain ⟨ps, e', a', b', c'⟩ := t
  refine ⟨p :: ps, fun S => ?_, by simp [PyData.canLayAll0, a, a'], by simp only [PyData.depthAll]; omega, by rw [Kd.eqvAll_c, c, c']; rfl⟩
  show (pyS S d).bind (fun a => (pySL S ds).map (a :: ·)) = _
  rw [e S, e' S]; rfl
theorem EqdL.all {ds : List D} {q : Nat} (h : ∀ d ∈ ds, Eqd d q) : EqdL ds q := by
  induction ds with
  | nil => exact .nil
  | cons d ds ih => exact .cons (h d List.mem_cons_self) (ih fun e he => h e (List.mem_cons_of_mem _ he))
theorem Eqd.tup {ds : List D} {q : Nat} (h : EqdL ds q) : Eqd (.tup ds) (q + 1) := by
  obtain ⟨ps, e, a, b, c⟩ := h
  refine ⟨.tuple ps, fun S => ?_, by simpa [PyData.canLay0] using a, by simp only [PyData.depth]; omega, by rw [Kd.eqv_t, c]⟩
  show (pySL S ds).map PyData.tuple = _
  rw [e S]; rfl
theorem Eqd.lst {ds : List D} {q : Nat} (h : EqdL ds q) : Eqd (.lst ds) (q + 1) := by
  obtain ⟨ps, e, a, b, c⟩ := h
  refine ⟨.list ps, fun S => ?_, by simpa [PyData.canLay0] using a, by simp only [PyData.depth]; omega, by simp only [PyData.eqv]; exact c⟩
  show (pySL S ds).map PyData.list = _
  rw [e S]; rfl
theorem Eqd.non {q : Nat} : Eqd .non q := ⟨.none, fun _ => rfl, by simp [PyData.canLay0], by simp [PyData.depth], by simp only [PyData.eqv]⟩
theorem Eqd.bl {b : Bool} {q : Nat} : Eqd (.bl b) q := ⟨.bool b, fun _ => rfl, by simp [PyData.canLay0], by simp [PyData.depth], by simp only [PyData.eqv]; cases b <;> rfl⟩
theorem Eqd.str {x : Str} {q : Nat} (h : PyData.strOk x = true) : Eqd (.str x) q := ⟨.str x, fun _ => rfl, by simpa [PyData.canLay0] using h, by simp [PyData.depth], by rw [Kd.eqv_s]; simp⟩
theorem Eqd.int {i : Int} {q : Nat} : Eqd (.int i) q := ⟨.int i, fun _ => rfl, by simp [PyData.canLay0], by simp [PyData.depth], by rw [Kd.eqv_i]; simp⟩
theorem Eqd.mono {d : D} {q q' : Nat} (h : Eqd d q) (l : q ≤ q') : Eqd d q' := by
  obtain ⟨p, e, a, b, c⟩ := h; exact ⟨p, e, a, by omega, c⟩
end Kz
namespace Kz
open PySem PySem.Spec PyProof.Rows L2 Kw
def okSz (ns : List Int) : Prop := ns.length = 8 ∧ ∀ z ∈ ns, 1 ≤ z ∧ z ≤ 999
/-- the sizes as a function -/
def sF (ns : List Int) (i : Nat) : Nat := (ns.getD i 1).toNat
theorem sF_ok {ns : List Int} (h : okSz ns) (i : Nat) : 1 ≤ sF ns i ∧ sF ns i ≤ 999 := by
  unfold sF
  rw [List.getD_eq_getElem?_getD]
  cases e : ns[i]? with
  | none => simp
  | some z =>
    have := h.2 z (List.mem_of_getElem? e)
    simp; omega
theorem ix_ints {ns : List Int} (h : okSz ns) (i : _root_.Fin 8) (S : Store) : ixR (ns.map D.int) (i.val : Int) S = .ok (.int ((sF ns i.val : Nat) : Int)) S := by
  have hi : i.val < ns.length := by have := i.isLt; rw [h.1]; omega
  rw [ixR_nat, List.getElem?_map, List.getElem?_eq_getElem hi]
  have hz := h.2 _ (List.getElem_mem hi)
  have e : ((sF ns i.val : Nat) : Int) = ns[i.val] := by
    unfold sF
    rw [List.getD_eq_getElem?_getD, List.getElem?_eq_getElem hi]
    show ((ns[i.val]).toNat : Int) = ns[i.val]
    omega
  rw [e]; rfl
theorem cell_ix {ns : List Int} (h : okSz ns) {T : Store} {v : Nat} (at_ : T[v]? = some (.lst (ns.map .int))) (i : _root_.Fin 8) : gIx (.loc v) (.int (i.val : Int)) T = .ok (.int ((sF ns i.val : Nat) : Int)) T := by
  rw [gIx_loc (cellOf_of at_), ix_ints h]
/-- sizes lie at x -/
structure Szs (z : Nat → Nat) (x : D) (S : Store) : Prop where
  ok : ∀ i, 1 ≤ z i ∧ z i ≤ 999
  ix : ∀ i : _root_.Fin 8, gIx x (.int (i.val : Int)) S = .ok (.int ((z i.val : Nat) : Int)) S
theorem szs_cell {ns : List Int} (h : okSz ns) {T : Store} {v : Nat} (at_ : T[v]? = some (.lst (ns.map .int))) : Szs (sF ns) (.loc v) T := ⟨sF_ok h, cell_ix h at_⟩
theorem sizes_sure {n : Nat} {ns : List Int} (h : okSz ns) {S : Store} {v : Nat} (at_ : S[v]? = some (.lst (ns.map .int))) (hn : 2 ≤ n) : ev n .f_sure_sizes [.loc v] S = .ok .non S := by
  obtain ⟨m, rfl, h'⟩ := up hn
  have hc := cellOf_of at_
  have hi : isiR "list" (.loc v) S = .ok (.bl true) S := by rw [isi_loc hc]; simp
  have hl : gLen [.loc v] S = .ok (.int 8) S := by simp [gLen, seqA, hc, h.1]
  have hx : iSeq S (.loc v) = some (ns.map .int, some (v, ns.map .int)) := by simp [iSeq, hc]
  have hit : Kw.itL (.loc v) S = .ok (ns.map .int, some (v, ns.map .int)) S := by unfold Kw.itL; rw [hx]
  have hm := compL_map (tg := gN 2) (tt := fYes) (te := fArg (ev m .f_is_from) (fCons (fVar 2) (fCons (fC (.int 1)) (fCons (fC (.int 999)) fNil)))) (ρ := [some (.loc v), some (.bl true), none]) (S := S) (gg := some (v, ns.map .int)) (fun _ => .bl true) hc (ns.map .int) [] (fun d hd => by
    obtain ⟨z, hz, rfl⟩ := List.mem_map.mp hd
    have := h.2 z hz
    refine ⟨[some (.loc v), some (.bl true), some (.int z)], by simp, rfl, ?_⟩
    simp [is_from_int h', this]) (by simp [h.1])
  have e1 : (ns.map D.int).map (fun _ => D.bl true) = (ns.map (fun _ => true)).map D.bl := by simp
  rw [e1] at hm
  have e2 : gAll [D.lst ((ns.map (fun _ => true)).map D.bl)] S = .ok (.bl true) S := by
    rw [gAll_lst]; simp
  rw [ev, b_sure_sizes]
  simp at hm
  simp at e2
  simp [hi, hl, hit, wipeR, hm, e2]
def pw (b t : Nat) : Nat := min (b ^ t) 5001
def nm (z : Nat → Nat) : Kd → Nat
  | .base i => z i.val
  | .unit => 1
  | .both a b => min (nm z a * nm z b) 5001
  | .frm a b => pw (nm z b) (nm z a)
theorem pw_pos {b t : Nat} (h : 1 ≤ b) : 1 ≤ pw b t := by
  have := Nat.one_le_pow t b h
  unfold pw; omega
theorem nm_ok {z : Nat → Nat} (h : ∀ i, 1 ≤ z i ∧ z i ≤ 999) : ∀ k : Kd, 1 ≤ nm z k ∧ nm z k ≤ 5001
  | .base i => by have := h i.val; simp only [nm]; omega
  | .unit => by simp [nm]
  | .both a b => by
    have ha := nm_ok h a; have hb := nm_ok h b
    have := Nat.mul_le_mul ha.1 hb.1
    simp only [nm]; omega
  | .frm a b => by
    have hb := nm_ok h b
    refine ⟨pw_pos hb.1, ?_⟩
    simp only [nm, pw]; omega
theorem mulS {i j : Int} (h1 : 0 ≤ i) (h2 : i < 1000000) : (CMul i j ∨ CMulW i j) = True := eq_true (.inl (.inl ⟨by omega, by omega⟩))
theorem pl_body {m : Nat} {S : Store} {x y : Int} {t d : D} (c : (CMul x y ∨ CMulW x y) = True) : l_power_up_to_0 (ev m) [some (.int y), some t, some (.int x), some d] S = if 5000 < x * y then .rt (.int 5001) S else .nx [some (.int y), some t, some (.int (x * y)), some d] S := by
  rw [l_power_up_to_0]
  by_cases h : 5000 < x * y <;> simp [c, h]
theorem cast_mul2 (f b : Nat) : (f : Int) * (b : Int) = ((f * b : Nat) : Int) := by simp
theorem power_loop {m : Nat} {S : Store} {b : Nat} {t : D} (hb : 1 ≤ b) (hb2 : b ≤ 5001) : ∀ (ds : List D) (f : Nat) (x : Option D), 1 ≤ f → f ≤ 5000 → ∃ x', forL (gN 3) (l_power_up_to_0 (ev m)) none ds [some (.int (b : Int)), some t, some (.int (f : Int)), x] S = if f * b ^ ds.length ≤ 5000 then .nx [some (.int (b : Int)), some t, some (.int ((f * b ^ ds.length : Nat) : Int)), x'] S else .rt (.int 5001) S
  | [], f, x, h1, h2 => ⟨x, by simp [h2]⟩
  | d :: ds, f, x, h1, h2 => by
    have c : (CMul (f : Int) (b : Int) ∨ CMulW (f : Int) (b : Int)) = True := mulS (by omega) (by omega)
    have bd := pl_body (m := m) (S := S) (t := t) (d := d) c
    rw [cast_mul2] at bd
    have hlen : f * b ^ (ds.length + 1) = f * b * b ^ ds.length := by rw [Nat.pow_succ, Nat.mul_assoc, Nat.mul_comm b]
    have hp := Nat.one_le_pow ds.length b hb
    by_cases hf : 5000 < f * b
    · refine ⟨x, ?_⟩
      have hno : ¬ f * b ^ (d :: ds).length ≤ 5000 := by
        rw [List.length_cons, hlen]
        have := Nat.mul_le_mul (Nat.le_refl (f * b)) hp
        omega
      rw [if_pos (by omega)] at bd
      rw [if_neg hno, forL_cons]
      simp [bd]
    · have h1' : 1 ≤ f * b := Nat.mul_le_mul h1 hb
      obtain ⟨x', hx'⟩ := power_loop (m := m) (S := S) (t := t) hb hb2 ds (f * b) (some d) h1' (by omega)
      refine ⟨x', ?_⟩
      rw [if_neg (by omega)] at bd
      rw [List.length_cons, hlen, ← hx', forL_cons]
      simp [bd]
end Kz
namespace Kz
open PySem PySem.Spec PyProof.Rows L2 Kw
theorem rngD_length : ∀ (n : Nat) (lo : Int), (rngD lo n).length = n
  | 0, _ => rfl
  | n + 1, lo => by simp [rngD, rngD_length n]
theorem power_step {m : Nat} {S : Store} {y t : Int} {r : RS} (hy : ¬ y = 1) (r0 : -4611686018427387904 ≤ t) (r9 : t < 4611686018427387904) (e : forL (gN 3) (l_power_up_to_0 (ev m)) none (rngD 0 t.toNat) [some (.int y), some (.int t), some (.int 1), none] S = r) :
    ev (m + 1) .f_power_up_to [.int y, .int t] S = (r.bnd (sRet (fVar 2))).fin := by
  rw [ev, b_power_up_to]
  simp [hy, r0, r9, e]
theorem power_one {m : Nat} {S : Store} {t : Int} : ev (m + 1) .f_power_up_to [.int 1, .int t] S = .ok (.int 1) S := by
  rw [ev, b_power_up_to]
  simp
theorem fin_nx2 {S : Store} {a b x' : Option D} {F : Int} : ((RS.nx [a, b, some (.int F), x'] S).bnd (sRet (fVar 2))).fin = .ok (.int F) S := by simp
theorem fin_rt2 {S : Store} {d : D} {k : FS} : ((RS.rt d S).bnd k).fin = .ok d S := rfl
theorem power_ok {n b t : Nat} {S : Store} (h : 1 ≤ n) (hb : 1 ≤ b) (hb2 : b ≤ 5001) (ht : t ≤ 5001) : ev n .f_power_up_to [.int (b : Int), .int (t : Int)] S = .ok (.int ((pw b t : Nat) : Int)) S := by
  obtain ⟨m, rfl, h'⟩ := up h
  by_cases h1 : b = 1
  · subst h1
    have : pw 1 t = 1 := by simp [pw]
    rw [this]
    exact power_one
  · obtain ⟨x', e⟩ := power_loop (m := m) (S := S) (t := .int (t : Int)) hb hb2 (rngD 0 t) 1 none (by omega) (by omega)
    rw [rngD_length, Nat.one_mul] at e
    have ps := power_step (m := m) (S := S) (y := (b : Int)) (t := (t : Int)) (by omega) (by omega) (by omega) e
    rw [ps]
    by_cases hp : b ^ t ≤ 5000
    · have e5 : pw b t = b ^ t := by unfold pw; omega
      rw [if_pos hp, e5, fin_nx2]
    · have e5 : pw b t = 5001 := by unfold pw; omega
      rw [if_neg hp, e5, fin_rt2]; rfl
theorem gMin_two {i j : Int} {S : Store} : gMin [.int i, .int j] S = .ok (.int (min i j)) S := by
  show RE.ok (D.int (if j < i then j else i)) S = _
  have : (if j < i then j else i) = min i j := by split <;> omega
  rw [this]
theorem gMax_two {i j : Int} {S : Store} : gMax [.int i, .int j] S = .ok (.int (max i j)) S := by
  show RE.ok (D.int (if j > i then j else i)) S = _
  have : (if j > i then j else i) = max i j := by split <;> omega
  rw [this]
theorem num_both {m : Nat} {S : Store} {A B x : D} {p q : Int} (e1 : ev m .f_number_up_to [A, x] S = .ok (.int p) S) (e2 : ev m .f_number_up_to [B, x] S = .ok (.int q) S) (c : (CMul p q ∨ CMulW p q) = True) :
    ev (m + 1) .f_number_up_to [.tup [.str "both", A, B], x] S = .ok (.int (min (p * q) 5001)) S := by
  rw [ev, b_number_up_to]
  simp [e1, e2, c, gMin_two]
theorem num_from {m : Nat} {S : Store} {A B x r : D} {p q : Int} (e1 : ev m .f_number_up_to [A, x] S = .ok (.int p) S) (e2 : ev m .f_number_up_to [B, x] S = .ok (.int q) S) (e3 : ev m .f_power_up_to [.int q, .int p] S = .ok r S) :
    ev (m + 1) .f_number_up_to [.tup [.str "from", A, B], x] S = .ok r S := by
  rw [ev, b_number_up_to]
  simp [e1, e2, e3]
theorem cast_min5 (x y : Nat) : min ((x : Int) * (y : Int)) 5001 = ((min (x * y) 5001 : Nat) : Int) := by
  rw [cast_mul2]; omega
theorem number_ok {z : Nat → Nat} {x : D} {S : Store} (hx : Szs z x S) (k : Kd) : ∀ {n : Nat}, k.dep + 2 ≤ n → ev n .f_number_up_to [k.d, x] S = .ok (.int ((nm z k : Nat) : Int)) S := by
  induction k with
  | base i =>
    intro n h
    obtain ⟨m, rfl, h'⟩ := up (d := 1) (by omega : 1 + 1 ≤ n)
    rw [ev, b_number_up_to]
    simp [Kd.d, hx.ix, nm]
  | unit =>
    intro n h
    obtain ⟨m, rfl, h'⟩ := up (d := 1) (by omega : 1 + 1 ≤ n)
    rw [ev, b_number_up_to]
    simp [Kd.d, nm]
  | both a b ha hb =>
    intro n h
    simp [Kd.dep] at h
    obtain ⟨m, rfl, h'⟩ := up (d := max a.dep b.dep + 2) (by omega)
    have oa := nm_ok hx.ok a; have ob := nm_ok hx.ok b
    have c : (CMul ((nm z a : Nat) : Int) ((nm z b : Nat) : Int) ∨ CMulW ((nm z a : Nat) : Int) ((nm z b : Nat) : Int)) = True := mulS (by omega) (by omega)
    have := num_both (ha (n := m) (by omega)) (hb (n := m) (by omega)) c
    rw [cast_min5] at this
    exact this
  | frm a b ha hb =>
    intro n h
    simp [Kd.dep] at h
    obtain ⟨m, rfl, h'⟩ := up (d := max a.dep b.dep + 2) (by omega)
    have oa := nm_ok hx.ok a; have ob := nm_ok hx.ok b
    exact num_from (ha (n := m) (by omega)) (hb (n := m) (by omega)) (power_ok (n := m) (b := nm z b) (t := nm z a) (S := S) (by omega) ob.1 ob.2 oa.2)
/-- the most that a function takes -/
def tk (z : Nat → Nat) : Kd → Nat
  | .base _ => 0
  | .unit => 0
  | .both a b => max (tk z a) (tk z b)
  | .frm a b => max (max (tk z a) (tk z b)) (nm z a)
theorem in_two_t (s : Str) (S : Store) (h : PyData.strOk s = true) : gIn false (.str s) (.tup [.str "both", .str "from"]) S = .ok (.bl (s == "both" || s == "from")) S := by
  have e1 : (Str.ofString "both" == s) = (s == Str.ofString "both") := by rw [Bool.eq_iff_iff, beq_iff_eq, beq_iff_eq]; exact eq_comm
  have e2 : (Str.ofString "from" == s) = (s == Str.ofString "from") := by rw [Bool.eq_iff_iff, beq_iff_eq, beq_iff_eq]; exact eq_comm
  simp [gIn, pyS, pySL, PyData.canLay0, PyData.canLayAll0, PyData.depth, PyData.depthAll, PyData.eqv, h, e1, e2]
theorem taken_sure {z : Nat → Nat} {x : D} {S : Store} (hx : Szs z x S) (k : Kd) : ∀ {n : Nat}, k.dep + 3 ≤ n → tk z k ≤ 5000 → ev n .f_sure_taken [k.d, x] S = .ok .non S := by
  have i1 := in_two_t "base" S (by simp)
  have i2 := in_two_t "unit" S (by simp)
  have i3 := in_two_t "both" S (by simp)
  have i4 := in_two_t "from" S (by simp)
  induction k with
  | base i =>
    intro n h _
    obtain ⟨m, rfl, h'⟩ := up (d := 1) (by omega : 1 + 1 ≤ n)
    rw [ev, b_sure_taken]
    simp [Kd.d, i1]
  | unit =>
    intro n h _
    obtain ⟨m, rfl, h'⟩ := up (d := 1) (by omega : 1 + 1 ≤ n)
    rw [ev, b_sure_taken]
    simp [Kd.d, i2]
  | both a b ha hb =>
    intro n h ht
    simp [Kd.dep] at h
    simp [tk] at ht
    obtain ⟨m, rfl, h'⟩ := up (d := max a.dep b.dep + 3) (by omega)
    rw [ev, b_sure_taken]
    simp [Kd.d, i3, ha (n := m) (by omega) (by omega), hb (n := m) (by omega) (by omega)]
  | frm a b ha hb =>
    intro n h ht
    simp [Kd.dep] at h
    simp [tk] at ht
    obtain ⟨m, rfl, h'⟩ := up (d := max a.dep b.dep + 3) (by omega)
    have hn : ¬ (5000 : Int) < ((nm z a : Nat) : Int) := by omega
    rw [ev, b_sure_taken]
    simp [Kd.d, i4, number_ok hx a (n := m) (by omega), hn, ha (n := m) (by omega) (by omega), hb (n := m) (by omega) (by omega)]
mutual
/-- data whose sort is known at every place of its tuples -/
def ty : D → Bool
  | .non | .bl _ | .int _ | .str _ | .fls _ | .lst _ | .dic _ _ => true
  | .tup ds => tyL ds
  | _ => false
def tyL : List D → Bool
  | [] => true
  | d :: ds => ty d && tyL ds
end
end Kz
namespace Kz
open PySem PySem.Spec PyProof.Rows L2 Kw
section
variable {g g1 : FG} {F : FEnv → List D → Store → RE (List D)} {ρ : FEnv} {S : Store} {acc r : List D}
theorem gd_non : gd none S := by unfold gd; trivial
end
/-- all rows of so many -/
def LL (ts : List D) : Nat → List (List D)
  | 0 => [[]]
  | n + 1 => (LL ts n).flatMap fun r => ts.map fun t => r ++ [t]
theorem LL_len (ts : List D) : ∀ n, (LL ts n).length = ts.length ^ n
  | 0 => rfl
  | n + 1 => by
    have : ∀ l : List (List D), (l.flatMap fun r => ts.map fun t => r ++ [t]).length = l.length * ts.length := by
      intro l
      induction l with
      | nil => simp
      | cons a l ih => rw [List.flatMap_cons, List.length_append, ih, List.length_map, List.length_cons, Nat.succ_mul]; omega
    rw [LL, this, LL_len ts n, Nat.pow_succ]
theorem LL_mem {ts : List D} : ∀ {n : Nat} {r : List D}, r ∈ LL ts n → r.length = n ∧ ∀ d ∈ r, d ∈ ts
  | 0, r, h => by
    have : r = [] := by simpa [LL] using h
    subst this
    exact ⟨rfl, fun d hd => nomatch hd⟩
  | n + 1, r, h => by
    rw [LL, List.mem_flatMap] at h
    obtain ⟨r', h1, h2⟩ := h
    obtain ⟨t, h3, rfl⟩ := List.mem_map.mp h2
    have ⟨e, a⟩ := LL_mem h1
    refine ⟨by simp [e], fun d hd => ?_⟩
    rcases List.mem_append.mp hd with hd | hd
    · exact a d hd
    · have : d = t := by simpa using hd
      exact this ▸ h3
/-- all worths -/
def wl (z : Nat → Nat) : Kd → List D
  | .base i => (List.range (z i.val)).map fun (j : Nat) => D.int (j : Int)
  | .unit => [.tup []]
  | .both a b => (wl z a).flatMap fun x => (wl z b).map fun y => .tup [x, y]
  | .frm a b => (LL (wl z b) (nm z a)).map .tup
theorem nm_both {z : Nat → Nat} (hz : ∀ i, 1 ≤ z i ∧ z i ≤ 999) {a b : Kd} (h : nm z (.both a b) ≤ 5000) : nm z a * nm z b = nm z (.both a b) ∧ nm z a ≤ 5000 ∧ nm z b ≤ 5000 := by
  have ha := nm_ok hz a; have hb := nm_ok hz b
  simp only [nm] at h ⊢
  have h1 := Nat.mul_le_mul (Nat.le_refl (nm z a)) hb.1
  have h2 := Nat.mul_le_mul ha.1 (Nat.le_refl (nm z b))
  omega
theorem nm_frm {z : Nat → Nat} (hz : ∀ i, 1 ≤ z i ∧ z i ≤ 999) {a b : Kd} (h : nm z (.frm a b) ≤ 5000) : nm z b ^ nm z a = nm z (.frm a b) ∧ nm z b ≤ 5000 := by
  have ha := nm_ok hz a; have hb := nm_ok hz b
  simp only [nm, pw] at h ⊢
  have h1 : nm z b ^ 1 ≤ nm z b ^ nm z a := Nat.pow_le_pow_right hb.1 ha.1
  rw [Nat.pow_one] at h1
  omega
theorem fm_len {xs : List D} {f : D → List D} {c : Nat} (h : ∀ x, (f x).length = c) : (xs.flatMap f).length = xs.length * c := by
  induction xs with
  | nil => simp
  | cons a l ih => rw [List.flatMap_cons, List.length_append, ih, h, List.length_cons, Nat.succ_mul]; omega
theorem wl_len {z : Nat → Nat} (hz : ∀ i, 1 ≤ z i ∧ z i ≤ 999) : ∀ k : Kd, nm z k ≤ 5000 → (wl z k).length = nm z k
  | .base i, _ => by simp [wl, nm]
  | .unit, _ => rfl
  | .both a b, h => by
    have ⟨e, ha, hb⟩ := nm_both hz h
    have la := wl_len hz a ha; have lb := wl_len hz b hb
    rw [← e, ← la, ← lb, wl, fm_len (c := (wl z b).length) (fun x => by simp)]
  | .frm a b, h => by
    have ⟨e, hb⟩ := nm_frm hz h
    have lb := wl_len hz b hb
    rw [← e, wl, List.length_map, LL_len, lb]
def fR (ts : List D) (d : D) : List D := match d with
  | .tup r => ts.map fun t => .tup (r ++ [t])
  | _ => []
theorem fR_map (ts : List D) (L : List (List D)) : (L.map D.tup).flatMap (fR ts) = (L.flatMap fun r => ts.map fun t => r ++ [t]).map .tup := by
  induction L with
  | nil => rfl
  | cons r L ih =>
    rw [List.map_cons, List.flatMap_cons, ih, List.flatMap_cons, List.map_append, List.map_map]
    rfl
theorem gRng_nat {n : Nat} {S : Store} (h : n ≤ 10000) : gRng (.int (n : Int)) S = .ok (.lst ((List.range n).map fun (j : Nat) => D.int (j : Int))) S := by
  have h1 : (0 : Int) ≤ (n : Int) ∧ (n : Int) ≤ 16777216 := ⟨by omega, by omega⟩
  show (if (0 : Int) ≤ (n : Int) ∧ (n : Int) ≤ 16777216 then RE.ok (D.lst (((List.range ((n : Int)).toNat).map fun (i : Nat) => ((i : Nat) : Int)).map D.int)) S else .no) = _
  rw [if_pos h1, List.map_map]
  rfl
end Kz
namespace Kz
open PySem PySem.Spec PyProof.Rows L2 Kw
theorem lp_body {m : Nat} {S : Store} {x y : Int} {t d : D} (c : (CMul x y ∨ CMulW x y) = True) : l__law_power_0 (ev m) [some (.int y), some t, some (.int x), some d] S = .nx [some (.int y), some t, some (.int (min (x * y) 5001)), some d] S := by
  rw [l__law_power_0]
  simp [c, gMin_two]
theorem lp_loop {m : Nat} {S : Store} {b : Nat} {t : D} (hb : 1 ≤ b) (hb2 : b ≤ 5001) : ∀ (ds : List D) (f : Nat) (x : Option D), 1 ≤ f → f ≤ 5001 → ∃ x', forL (gN 3) (l__law_power_0 (ev m)) none ds [some (.int (b : Int)), some t, some (.int (f : Int)), x] S = .nx [some (.int (b : Int)), some t, some (.int ((min (f * b ^ ds.length) 5001 : Nat) : Int)), x'] S
  | [], f, x, h1, h2 => by
    have : min (f * b ^ ([] : List D).length) 5001 = f := by simp; omega
    rw [this]
    exact ⟨x, by simp⟩
  | d :: ds, f, x, h1, h2 => by
    have c : (CMul (f : Int) (b : Int) ∨ CMulW (f : Int) (b : Int)) = True := mulS (by omega) (by omega)
    have bd := lp_body (m := m) (S := S) (t := t) (d := d) c
    rw [cast_min5] at bd
    have hlen : f * b ^ (ds.length + 1) = f * b * b ^ ds.length := by rw [Nat.pow_succ, Nat.mul_assoc, Nat.mul_comm b]
    have hp := Nat.one_le_pow ds.length b hb
    have h1' : 1 ≤ f * b := Nat.mul_le_mul h1 hb
    have e : min (min (f * b) 5001 * b ^ ds.length) 5001 = min (f * b ^ (d :: ds).length) 5001 := by
      rw [List.length_cons, hlen]
      by_cases hf : f * b ≤ 5001
      · rw [Nat.min_eq_left hf]
      · have h5 := Nat.mul_le_mul (Nat.le_refl 5001) hp
        have h6 := Nat.mul_le_mul (Nat.le_refl (f * b)) hp
        rw [Nat.min_eq_right (by omega : 5001 ≤ f * b)]
        omega
    obtain ⟨x', hx'⟩ := lp_loop (m := m) (S := S) (t := t) hb hb2 ds (min (f * b) 5001) (some d) (by omega) (by omega)
    refine ⟨x', ?_⟩
    rw [← e, ← hx', forL_cons]
    simp [bd]
theorem lp_step {m : Nat} {S : Store} {y t : Int} {r : RS} (r0 : 0 ≤ t) (e : forL (gN 3) (l__law_power_0 (ev m)) none (rngD 0 (min t 13).toNat) [some (.int y), some (.int t), some (.int 1), none] S = r) :
    ev (m + 1) .f__law_power [.int y, .int t] S = (r.bnd (sRet (fVar 2))).fin := by
  have h1 : -4611686018427387904 ≤ min t 13 := by omega
  have h2 : min t 13 < 4611686018427387904 := by omega
  rw [ev, b__law_power]
  simp [gMin_two, h1, h2, e]
theorem law_power {n b t : Nat} {S : Store} (h : 1 ≤ n) (hb : 1 ≤ b) (hb2 : b ≤ 5001) : ev n .f__law_power [.int (b : Int), .int (t : Int)] S = .ok (.int ((pw b t : Nat) : Int)) S := by
  obtain ⟨m, rfl, h'⟩ := up h
  obtain ⟨x', e⟩ := lp_loop (m := m) (S := S) (t := .int (t : Int)) hb hb2 (rngD 0 (min t 13)) 1 none (by omega) (by omega)
  rw [rngD_length, Nat.one_mul] at e
  have e0 : min t 13 = (min (t : Int) 13).toNat := by omega
  have e1 : min (b ^ (min t 13)) 5001 = pw b t := by
    unfold pw
    by_cases h1 : b = 1
    · subst h1; simp
    · by_cases h13 : t ≤ 13
      · rw [Nat.min_eq_left h13]
      · rw [Nat.min_eq_right (by omega : 13 ≤ t)]
        have h2 : 2 ^ 13 ≤ b ^ 13 := Nat.pow_le_pow_left (by omega) 13
        have h3 : b ^ 13 ≤ b ^ t := Nat.pow_le_pow_right (by omega) (by omega)
        have h4 : (2 : Nat) ^ 13 = 8192 := by decide
        omega
  rw [e1, e0] at e
  rw [lp_step (m := m) (S := S) (y := (b : Int)) (t := (t : Int)) (by omega) e, fin_nx2]
theorem lnum_both {m : Nat} {S : Store} {A B x : D} {p q : Int} (e1 : ev m .f__law_number [A, x] S = .ok (.int p) S) (e2 : ev m .f__law_number [B, x] S = .ok (.int q) S) (c : (CMul p q ∨ CMulW p q) = True) :
    ev (m + 1) .f__law_number [.tup [.str "both", A, B], x] S = .ok (.int (min (p * q) 5001)) S := by
  rw [ev, b__law_number]
  simp [e1, e2, c, gMin_two]
theorem lnum_from {m : Nat} {S : Store} {A B x r : D} {p q : Int} (e1 : ev m .f__law_number [A, x] S = .ok (.int p) S) (e2 : ev m .f__law_number [B, x] S = .ok (.int q) S) (e3 : ev m .f__law_power [.int q, .int p] S = .ok r S) :
    ev (m + 1) .f__law_number [.tup [.str "from", A, B], x] S = .ok r S := by
  rw [ev, b__law_number]
  simp [e1, e2, e3]
theorem law_number {z : Nat → Nat} {x : D} {S : Store} (hx : Szs z x S) (k : Kd) : ∀ {n : Nat}, k.dep + 2 ≤ n → ev n .f__law_number [k.d, x] S = .ok (.int ((nm z k : Nat) : Int)) S := by
  induction k with
  | base i =>
    intro n h
    obtain ⟨m, rfl, h'⟩ := up (d := 1) (by omega : 1 + 1 ≤ n)
    rw [ev, b__law_number]
    simp [Kd.d, hx.ix, nm]
  | unit =>
    intro n h
    obtain ⟨m, rfl, h'⟩ := up (d := 1) (by omega : 1 + 1 ≤ n)
    rw [ev, b__law_number]
    simp [Kd.d, nm]
  | both a b ha hb =>
    intro n h
    simp [Kd.dep] at h
    obtain ⟨m, rfl, h'⟩ := up (d := max a.dep b.dep + 2) (by omega)
    have oa := nm_ok hx.ok a; have ob := nm_ok hx.ok b
    have c : (CMul ((nm z a : Nat) : Int) ((nm z b : Nat) : Int) ∨ CMulW ((nm z a : Nat) : Int) ((nm z b : Nat) : Int)) = True := mulS (by omega) (by omega)
    have := lnum_both (ha (n := m) (by omega)) (hb (n := m) (by omega)) c
    rw [cast_min5] at this
    exact this
  | frm a b ha hb =>
    intro n h
    simp [Kd.dep] at h
    obtain ⟨m, rfl, h'⟩ := up (d := max a.dep b.dep + 2) (by omega)
    have ob := nm_ok hx.ok b
    exact lnum_from (ha (n := m) (by omega)) (hb (n := m) (by omega)) (law_power (n := m) (b := nm z b) (t := nm z a) (S := S) (by omega) ob.1 ob.2)
theorem ltk_mk {m : Nat} {S : Store} {A B x : D} {w : Str} {p q r : Int} (e1 : ev m .f__law_taken [A, x] S = .ok (.int p) S) (e2 : ev m .f__law_taken [B, x] S = .ok (.int q) S) (e3 : ev m .f__law_number [A, x] S = .ok (.int r) S) :
    ev (m + 1) .f__law_taken [.tup [.str w, A, B], x] S = .ok (.int (max (max p q) (if w = "from" then r else 0))) S := by
  have c1 : (CMul r 1 ∨ CMulW r 1) = True := eq_true (.inl (.inr ⟨by omega, by omega⟩))
  have c0 : (CMul r 0 ∨ CMulW r 0) = True := eq_true (.inl (.inr ⟨by omega, by omega⟩))
  rw [ev, b__law_taken]
  by_cases h : w = "from"
  · subst h; simp [e1, e2, e3, gMax_two, c1, b2i]
  · have h' : (w == Str.ofString "from") = false := by simpa using h
    simp [e1, e2, e3, gMax_two, h', h, c0, b2i]
theorem law_taken {z : Nat → Nat} {x : D} {S : Store} (hx : Szs z x S) (k : Kd) : ∀ {n : Nat}, k.dep + 3 ≤ n → ev n .f__law_taken [k.d, x] S = .ok (.int ((tk z k : Nat) : Int)) S := by
  induction k with
  | base i =>
    intro n h
    obtain ⟨m, rfl, h'⟩ := up (d := 1) (by omega : 1 + 1 ≤ n)
    rw [ev, b__law_taken]
    simp [Kd.d, tk]
  | unit =>
    intro n h
    obtain ⟨m, rfl, h'⟩ := up (d := 1) (by omega : 1 + 1 ≤ n)
    rw [ev, b__law_taken]
    simp [Kd.d, tk]
  | both a b ha hb =>
    intro n h
    simp [Kd.dep] at h
    obtain ⟨m, rfl, h'⟩ := up (d := max a.dep b.dep + 3) (by omega)
    have := ltk_mk (w := "both") (ha (n := m) (by omega)) (hb (n := m) (by omega)) (law_number hx a (n := m) (by omega))
    have e : max (max ((tk z a : Nat) : Int) ((tk z b : Nat) : Int)) (if ("both" : Str) = "from" then ((nm z a : Nat) : Int) else 0) = ((tk z (.both a b) : Nat) : Int) := by
      rw [if_neg (by decide)]; simp only [tk]; omega
    rw [e] at this
    exact this
  | frm a b ha hb =>
    intro n h
    simp [Kd.dep] at h
    obtain ⟨m, rfl, h'⟩ := up (d := max a.dep b.dep + 3) (by omega)
    have := ltk_mk (w := "from") (ha (n := m) (by omega)) (hb (n := m) (by omega)) (law_number hx a (n := m) (by omega))
    have e : max (max ((tk z a : Nat) : Int) ((tk z b : Nat) : Int)) (if ("from" : Str) = "from" then ((nm z a : Nat) : Int) else 0) = ((tk z (.frm a b) : Nat) : Int) := by
      rw [if_pos rfl]; simp only [tk]; omega
    rw [e] at this
    exact this
end Kz
namespace Kz
open PySem PySem.Spec PyProof.Rows L2 Kw
theorem base_of {r : Int} (h0 : 0 ≤ r) (h1 : r < 8) : ∃ k : Kd, k.d = .tup [.str "base", .int r] ∧ k.dep = 0 ∧ k.sz = 1 := by
  refine ⟨.base ⟨r.toNat, by omega⟩, ?_, rfl, rfl⟩
  simp [Kd.d]; omega
theorem law_kind (N : Nat) : ∀ {L n : Nat} {S : Store} {w : Nat}, 1 ≤ L → L ≤ N → N ≤ 1000 → N + 2 ≤ n → Well S w → ∃ k S', ev n .f__law_kind [.loc w, .int (L : Int)] S = .ok (Kd.d k) S' ∧ k.dep < L ∧ k.sz < 2 * L ∧ WS S w S' := by
  have h8 : sizeLine = 16777216 := rfl
  induction N with
  | zero => intro L n S w h1 h2; omega
  | succ N ih =>
    intro L n S w h1 h2 hN hn hw
    obtain ⟨m, rfl, h'⟩ := up (d := N + 2) hn
    by_cases hL : L < 2
    · have hL1 : L = 1 := by omega
      subst hL1
      obtain ⟨r1, S1, e1, a1, b1, w1⟩ := draw_sp (n := m) (S := S) (w := w) (m := 3) (by omega) hw (by decide) (by decide)
      obtain ⟨r2, S2, e2, a2, b2, w2⟩ := draw_sp (n := m) (S := S1) (w := w) (m := 8) (by omega) w1.well (by decide) (by decide)
      obtain ⟨d, S3, e3, m3, w3⟩ := one_sp (n := m) (S := S2) (w := w) (ds := [.tup [.str "base", .int r1], .tup [.str "base", .int r2], .tup [.str "base", .int 7], .tup [.str "unit"]]) (by omega) w2.well (by simp) (by simp)
      obtain ⟨k1, q1, p1, s1⟩ := base_of a1 (by omega)
      obtain ⟨k2, q2, p2, s2⟩ := base_of a2 (by omega)
      have hd : ∃ k : Kd, k.d = d ∧ k.dep < 1 ∧ k.sz < 2 := by
        simp only [List.mem_cons, List.not_mem_nil, or_false] at m3
        rcases m3 with rfl | rfl | rfl | rfl
        · exact ⟨k1, q1, by omega, by omega⟩
        · exact ⟨k2, q2, by omega, by omega⟩
        · exact ⟨.base 7, rfl, by decide, by decide⟩
        · exact ⟨.unit, rfl, by decide, by decide⟩
      obtain ⟨k, rfl, p, q⟩ := hd
      refine ⟨k, S3, ?_, p, q, (w1.trans w2).trans w3⟩
      rw [ev, b__law_kind]
      simp [e1, e2, h8, e3]
    · obtain ⟨r1, S1, e1, a1, b1, w1⟩ := draw_sp (n := m) (S := S) (w := w) (m := (L : Int) - 1) (by omega) hw (by omega) (by omega)
      obtain ⟨d, S2, e2, m2, w2⟩ := one_sp (n := m) (S := S1) (w := w) (ds := [.str "both", .str "from"]) (by omega) w1.well (by simp) (by simp)
      obtain ⟨k3, S3, e3, p3, s3, w3⟩ := ih (L := (1 + r1).toNat) (n := m) (S := S2) (w := w) (by omega) (by omega) (by omega) (by omega) w2.well
      obtain ⟨k4, S4, e4, p4, s4, w4⟩ := ih (L := ((L : Int) - (1 + r1)).toNat) (n := m) (S := S3) (w := w) (by omega) (by omega) (by omega) (by omega) w3.well
      have c3 : (((1 + r1).toNat : Nat) : Int) = 1 + r1 := by omega
      have c4 : ((((L : Int) - (1 + r1)).toNat : Nat) : Int) = (L : Int) - (1 + r1) := by omega
      rw [c3] at e3
      rw [c4] at e4
      have hd : ∃ b : Bool, d = .str (wd b) := by
        simp only [List.mem_cons, List.not_mem_nil, or_false] at m2
        rcases m2 with rfl | rfl
        · exact ⟨true, rfl⟩
        · exact ⟨false, rfl⟩
      obtain ⟨b, rfl⟩ := hd
      refine ⟨mk2 b k3 k4, S4, ?_, ?_, ?_, ((w1.trans w2).trans w3).trans w4⟩
      · rw [ev, b__law_kind, mk2_d]
        have hL' : ¬ ((L : Int) < 2) := by omega
        simp [hL', e1, e2, e3, e4, h8]
      · cases b <;> simp [mk2, Kd.dep] <;> omega
      · cases b <;> simp [mk2, Kd.sz] <;> omega
end Kz
namespace Kz
open PySem PySem.Spec PyProof.Rows L2 Kw
mutual
/-- a key as a tree -/
def kD : NestedKey → D
  | .none => .non
  | .num i => .int i
  | .text x => .str x
  | .tup ks => .tup (kDs ks)
def kDs : List NestedKey → List D
  | [] => []
  | k :: ks => kD k :: kDs ks
end
theorem kDs_map : ∀ ks : List NestedKey, kDs ks = ks.map kD
  | [] => rfl
  | k :: ks => by rw [kDs, kDs_map ks]; rfl
mutual
theorem keyOf_kD : ∀ k : NestedKey, Kw.keyOf (kD k) = some k
  | .none => rfl
  | .num i => rfl
  | .text x => rfl
  | .tup ks => by rw [kD, Kw.keyOf, keysOf_kDs ks]; rfl
theorem keysOf_kDs : ∀ ks : List NestedKey, keysOf (kDs ks) = some ks
  | [] => rfl
  | k :: ks => by simp only [kDs, keysOf, keyOf_kD k, keysOf_kDs ks]
end
/-- all rows of so many -/
def LLk (ts : List NestedKey) : Nat → List (List NestedKey)
  | 0 => [[]]
  | n + 1 => (LLk ts n).flatMap fun r => ts.map fun t => r ++ [t]
/-- all worths, as keys -/
def wlk (z : Nat → Nat) : Kd → List NestedKey
  | .base i => (List.range (z i.val)).map fun (j : Nat) => .num (j : Int)
  | .unit => [.tup []]
  | .both a b => (wlk z a).flatMap fun x => (wlk z b).map fun y => .tup [x, y]
  | .frm a b => (LLk (wlk z b) (nm z a)).map .tup
theorem LLk_map (ts : List NestedKey) : ∀ n, (LLk ts n).map (List.map kD) = LL (ts.map kD) n
  | 0 => rfl
  | n + 1 => by
    rw [LL, LLk, ← LLk_map ts n, List.map_flatMap, List.flatMap_map]
    congr 1
    funext r
    rw [List.map_map, List.map_map]
    refine List.map_congr_left fun t _ => ?_
    simp
theorem wlk_map (z : Nat → Nat) : ∀ k : Kd, (wlk z k).map kD = wl z k
  | .base i => by rw [wlk, wl, List.map_map]; rfl
  | .unit => by simp [wlk, wl, kD, kDs]
  | .both a b => by
    rw [wlk, wl, ← wlk_map z a, ← wlk_map z b, List.map_flatMap, List.flatMap_map]
    congr 1
    funext x
    rw [List.map_map, List.map_map]
    refine List.map_congr_left fun y _ => ?_
    simp [kD, kDs]
  | .frm a b => by
    rw [wlk, wl, ← wlk_map z b, ← LLk_map, List.map_map, List.map_map]
    refine List.map_congr_left fun r _ => ?_
    simp [kD, kDs_map]
theorem LLk_mem {ts : List NestedKey} : ∀ {n : Nat} {r : List NestedKey}, r ∈ LLk ts n ↔ r.length = n ∧ ∀ d ∈ r, d ∈ ts
  | 0, r => by
    constructor
    · intro h
      have : r = [] := by simpa [LLk] using h
      subst this
      exact ⟨rfl, fun d hd => nomatch hd⟩
    · rintro ⟨h, _⟩
      have : r = [] := List.eq_nil_of_length_eq_zero h
      subst this; simp [LLk]
  | n + 1, r => by
    rw [LLk, List.mem_flatMap]
    constructor
    · rintro ⟨r', h1, h2⟩
      obtain ⟨t, h3, rfl⟩ := List.mem_map.mp h2
      have ⟨e, a⟩ := LLk_mem.mp h1
      refine ⟨by simp [e], fun d hd => ?_⟩
      rcases List.mem_append.mp hd with hd | hd
      · exact a d hd
      · have : d = t := by simpa using hd
        exact this ▸ h3
    · rintro ⟨h1, h2⟩
      have hne : r ≠ [] := fun z => by rw [z] at h1; cases h1
      refine ⟨r.dropLast, LLk_mem.mpr ⟨by rw [List.length_dropLast, h1]; rfl, fun d hd => h2 d (List.dropLast_subset _ hd)⟩, ?_⟩
      exact List.mem_map.mpr ⟨r.getLast hne, h2 _ (List.getLast_mem hne), List.dropLast_concat_getLast hne⟩
theorem nodup_fm {α β : Type} {f : α → List β} : ∀ {l : List α}, l.Nodup → (∀ a ∈ l, (f a).Nodup) → (∀ a ∈ l, ∀ b ∈ l, ∀ x, x ∈ f a → x ∈ f b → a = b) → (l.flatMap f).Nodup
  | [], _, _, _ => List.nodup_nil
  | a :: l, h1, h2, h3 => by
    rw [List.nodup_cons] at h1
    rw [List.flatMap_cons, List.nodup_append]
    refine ⟨h2 a List.mem_cons_self, nodup_fm h1.2 (fun b hb => h2 b (List.mem_cons_of_mem _ hb)) (fun b hb c hc => h3 b (List.mem_cons_of_mem _ hb) c (List.mem_cons_of_mem _ hc)), fun x hx y hy e => ?_⟩
    subst e
    obtain ⟨b, hb, hx2⟩ := List.mem_flatMap.mp hy
    have := h3 a List.mem_cons_self b (List.mem_cons_of_mem _ hb) x hx hx2
    exact h1.1 (this ▸ hb)
theorem nodup_map {α β : Type} {f : α → β} (hf : ∀ a b, f a = f b → a = b) : ∀ {l : List α}, l.Nodup → (l.map f).Nodup
  | [], _ => List.nodup_nil
  | a :: l, h => by
    rw [List.nodup_cons] at h
    rw [List.map_cons, List.nodup_cons]
    refine ⟨fun z => ?_, nodup_map hf h.2⟩
    obtain ⟨b, hb, e⟩ := List.mem_map.mp z
    exact h.1 (hf _ _ e ▸ hb)
theorem LLk_nodup {ts : List NestedKey} (h : ts.Nodup) : ∀ n, (LLk ts n).Nodup
  | 0 => by simp [LLk]
  | n + 1 => by
    rw [LLk]
    refine nodup_fm (LLk_nodup h n) (fun r _ => nodup_map (fun a b e => by simpa using e) h) fun r _ s _ x hx hy => ?_
    obtain ⟨t, _, rfl⟩ := List.mem_map.mp hx
    obtain ⟨u, _, e⟩ := List.mem_map.mp hy
    exact (List.append_inj' e rfl).1.symm
/-- each once -/
theorem wlk_nodup (z : Nat → Nat) : ∀ k : Kd, (wlk z k).Nodup
  | .base i => by
    rw [wlk]
    exact nodup_map (fun a b e => by simp at e; omega) List.nodup_range
  | .unit => by simp [wlk]
  | .both a b => by
    rw [wlk]
    refine nodup_fm (wlk_nodup z a) (fun x _ => nodup_map (fun c d e => by simpa using e) (wlk_nodup z b)) fun x _ y _ w hx hy => ?_
    obtain ⟨u, _, rfl⟩ := List.mem_map.mp hx
    obtain ⟨v, _, e⟩ := List.mem_map.mp hy
    simp at e
    exact e.1.symm
  | .frm a b => by
    rw [wlk]
    exact nodup_map (fun c d e => by simpa using e) (LLk_nodup (wlk_nodup z b) _)
theorem wlk_depth {z : Nat → Nat} : ∀ {k : Kd} {w : NestedKey}, w ∈ wlk z k → w.depth ≤ k.dep + 1
  | .base i, w, h => by
    obtain ⟨j, _, rfl⟩ := List.mem_map.mp h
    simp [NestedKey.depth]
  | .unit, w, h => by
    have : w = .tup [] := by simpa [wlk] using h
    subst this; simp [NestedKey.depth, NestedKey.depthAll]
  | .both a b, w, h => by
    rw [wlk, List.mem_flatMap] at h
    obtain ⟨x, hx, h⟩ := h
    obtain ⟨y, hy, rfl⟩ := List.mem_map.mp h
    have := wlk_depth hx; have := wlk_depth hy
    simp [NestedKey.depth, NestedKey.depthAll, Kd.dep]; omega
  | .frm a b, w, h => by
    rw [wlk] at h
    obtain ⟨r, hr, rfl⟩ := List.mem_map.mp h
    have ⟨_, m⟩ := LLk_mem.mp hr
    have key : ∀ l : List NestedKey, (∀ d ∈ l, d.depth ≤ b.dep + 1) → NestedKey.depthAll l ≤ b.dep + 1 := by
      intro l
      induction l with
      | nil => intro _; simp [NestedKey.depthAll]
      | cons d l ih =>
        intro h
        have h1 := h d List.mem_cons_self
        have h2 := ih fun e he => h e (List.mem_cons_of_mem _ he)
        simp only [NestedKey.depthAll]; omega
    have := key r fun d hd => wlk_depth (m d hd)
    simp [NestedKey.depth, Kd.dep]; omega
/-- tuples alone, or numbers alone -/
theorem wlk_hom {z : Nat → Nat} : ∀ k : Kd, (∀ w ∈ wlk z k, isTupK w = true) ∨ (∀ w ∈ wlk z k, isNumK w = true)
  | .base i => .inr fun w h => by obtain ⟨j, _, rfl⟩ := List.mem_map.mp h; rfl
  | .unit => .inl fun w h => by have : w = .tup [] := by simpa [wlk] using h
                                subst this; rfl
  | .both a b => .inl fun w h => by
    rw [wlk, List.mem_flatMap] at h
    obtain ⟨x, hx, h⟩ := h
    obtain ⟨y, hy, rfl⟩ := List.mem_map.mp h
    rfl
  | .frm a b => .inl fun w h => by
    rw [wlk] at h
    obtain ⟨r, hr, rfl⟩ := List.mem_map.mp h
    rfl
theorem wlk_len {z : Nat → Nat} (hz : ∀ i, 1 ≤ z i ∧ z i ≤ 999) (k : Kd) (h : nm z k ≤ 5000) : (wlk z k).length = nm z k := by
  have := wl_len hz k h
  rw [← wlk_map, List.length_map] at this
  exact this
end Kz
namespace Kz
open PySem PySem.Spec PyProof.Rows L2 Kw
mutual
def kP : NestedKey → PyData
  | .none => .none
  | .num i => .int i
  | .text x => .str x
  | .tup ks => .tuple (kPs ks)
def kPs : List NestedKey → List PyData
  | [] => []
  | k :: ks => kP k :: kPs ks
end
mutual
/-- numbers and tuples alone -/
def nk : NestedKey → Bool
  | .num _ => true
  | .tup ks => nks ks
  | _ => false
def nks : List NestedKey → Bool
  | [] => true
  | k :: ks => nk k && nks ks
end
mutual
theorem pyS_kD (S : Store) : ∀ k : NestedKey, pyS S (kD k) = some (kP k)
  | .none => rfl
  | .num i => rfl
  | .text x => rfl
  | .tup ks => by simp only [kD, kP, pyS, pySL_kDs S ks, Option.map_some]
theorem pySL_kDs (S : Store) : ∀ ks : List NestedKey, pySL S (kDs ks) = some (kPs ks)
  | [] => rfl
  | k :: ks => by simp only [kDs, kPs, pySL, pyS_kD S k, pySL_kDs S ks, Option.bind_some, Option.map_some]
end
theorem kPs_map : ∀ ks : List NestedKey, kPs ks = ks.map kP
  | [] => rfl
  | k :: ks => by rw [kPs, kPs_map ks]; rfl
mutual
theorem lay_kP : ∀ k : NestedKey, nk k = true → (kP k).canLay0 = true
  | .none, h => by simp [nk] at h
  | .num i, h => by simp [kP, PyData.canLay0]
  | .text x, h => by simp [nk] at h
  | .tup ks, h => by simp only [nk] at h; simp [kP, PyData.canLay0, layL_kPs ks h]
theorem layL_kPs : ∀ ks : List NestedKey, nks ks = true → PyData.canLayAll0 (kPs ks) = true
  | [], h => by simp [kPs, PyData.canLayAll0]
  | k :: ks, h => by simp only [nks, Bool.and_eq_true] at h; simp [kPs, PyData.canLayAll0, lay_kP k h.1, layL_kPs ks h.2]
end
mutual
theorem depth_kP : ∀ k : NestedKey, (kP k).depth ≤ k.depth
  | .none => by simp [kP, PyData.depth]
  | .num i => by simp [kP, PyData.depth]
  | .text x => by simp [kP, PyData.depth]
  | .tup ks => by have := depthL_kPs ks; simp [kP, PyData.depth, NestedKey.depth]; omega
theorem depthL_kPs : ∀ ks : List NestedKey, PyData.depthAll (kPs ks) ≤ NestedKey.depthAll ks
  | [] => by simp [kPs, PyData.depthAll]
  | k :: ks => by have := depth_kP k; have := depthL_kPs ks; simp only [kPs, PyData.depthAll, NestedKey.depthAll]; omega
end
mutual
theorem eqv_kP : ∀ a b : NestedKey, nk a = true → nk b = true → (PyData.eqv (kP a) (kP b) = true ↔ a = b)
  | .none, _, h, _ => by simp [nk] at h
  | .text x, _, h, _ => by simp [nk] at h
  | .num i, b, h, k => by
    cases b with
    | none => simp [nk] at k
    | text x => simp [nk] at k
    | num j => simp [kP, Kd.eqv_i]
    | tup ks => simp [kP, PyData.eqv]
  | .tup ks, b, h, k => by
    cases b with
    | none => simp [nk] at k
    | text x => simp [nk] at k
    | num j => simp [kP, PyData.eqv]
    | tup ls =>
      simp only [nk] at h k
      simp only [kP, Kd.eqv_t, NestedKey.tup.injEq]
      exact eqvL_kPs ks ls h k
theorem eqvL_kPs : ∀ as bs : List NestedKey, nks as = true → nks bs = true → (PyData.eqvAll (kPs as) (kPs bs) = true ↔ as = bs)
  | [], bs, h, k => by cases bs <;> simp [kPs, PyData.eqvAll]
  | a :: as, bs, h, k => by
    cases bs with
    | nil => simp [kPs, PyData.eqvAll]
    | cons b bs =>
      simp only [nks, Bool.and_eq_true] at h k
      simp only [kPs, Kd.eqvAll_c, Bool.and_eq_true, List.cons.injEq, eqv_kP a b h.1 k.1, eqvL_kPs as bs h.2 k.2]
end
theorem wlk_nk {z : Nat → Nat} : ∀ {K : Kd} {w : NestedKey}, w ∈ wlk z K → nk w = true
  | .base i, w, h => by
    obtain ⟨j, _, rfl⟩ := List.mem_map.mp h
    rfl
  | .unit, w, h => by
    have : w = .tup [] := by simpa [wlk] using h
    subst this; rfl
  | .both a b, w, h => by
    rw [wlk, List.mem_flatMap] at h
    obtain ⟨x, hx, h⟩ := h
    obtain ⟨y, hy, rfl⟩ := List.mem_map.mp h
    simp [nk, nks, wlk_nk hx, wlk_nk hy]
  | .frm a b, w, h => by
    rw [wlk] at h
    obtain ⟨r, hr, rfl⟩ := List.mem_map.mp h
    have ⟨_, m⟩ := LLk_mem.mp hr
    have key : ∀ l : List NestedKey, (∀ d ∈ l, nk d = true) → nks l = true := by
      intro l
      induction l with
      | nil => intro _; rfl
      | cons d l ih =>
        intro h
        simp [nks, h d List.mem_cons_self, ih fun e he => h e (List.mem_cons_of_mem _ he)]
    simp only [nk]
    exact key r fun d hd => wlk_nk (m d hd)
end Kz
namespace Kz
open PySem PySem.Spec PyProof.Rows L2 Kw
theorem in_both {z : Nat → Nat} {A B : Kd} {w : NestedKey} (h : w ∈ wlk z (.both A B)) : ∃ x y, w = .tup [x, y] ∧ x ∈ wlk z A ∧ y ∈ wlk z B := by
  rw [wlk, List.mem_flatMap] at h
  obtain ⟨x, hx, h⟩ := h
  obtain ⟨y, hy, rfl⟩ := List.mem_map.mp h
  exact ⟨x, y, rfl, hx, hy⟩
theorem in_frm {z : Nat → Nat} {A B : Kd} {w : NestedKey} (h : w ∈ wlk z (.frm A B)) : ∃ l, w = .tup l ∧ l.length = nm z A ∧ ∀ d ∈ l, d ∈ wlk z B := by
  rw [wlk] at h
  obtain ⟨r, hr, rfl⟩ := List.mem_map.mp h
  exact ⟨r, rfl, (LLk_mem.mp hr).1, (LLk_mem.mp hr).2⟩
theorem depAll_map {q : Nat} : ∀ {l : List NestedKey}, (∀ k ∈ l, k.depth ≤ q) → PyData.depthAll (l.map kP) ≤ q
  | [], _ => by simp [PyData.depthAll]
  | k :: l, h => by
    have := depth_kP k
    have := h k List.mem_cons_self
    have := depAll_map (q := q) fun e he => h e (List.mem_cons_of_mem _ he)
    simp only [List.map_cons, PyData.depthAll]; omega
end Kz
namespace Kz
open PySem PySem.Spec PyProof.Rows L2 Kw
theorem alikeAll_map : ∀ {l m : List NestedKey}, (∀ x ∈ l, ∀ y ∈ m, PySem.W.alike (kP x) (kP y) = true) → PySem.W.alikeAll (l.map kP) (m.map kP) = true
  | [], _, _ => by simp [PySem.W.alikeAll]
  | _ :: _, [], _ => by simp [PySem.W.alikeAll]
  | x :: l, y :: m, h => by
    simp only [List.map_cons, PySem.W.alikeAll, Bool.and_eq_true]
    exact ⟨h x List.mem_cons_self y List.mem_cons_self, alikeAll_map fun a ha b hb => h a (List.mem_cons_of_mem _ ha) b (List.mem_cons_of_mem _ hb)⟩
/-- worths of a kind are alike -/
theorem wlk_alike {z : Nat → Nat} : ∀ {K : Kd} {x y : NestedKey}, x ∈ wlk z K → y ∈ wlk z K → PySem.W.alike (kP x) (kP y) = true
  | .base i, x, y, hx, hy => by
    obtain ⟨a, _, rfl⟩ := List.mem_map.mp hx
    obtain ⟨b, _, rfl⟩ := List.mem_map.mp hy
    simp [kP, PySem.W.alike]
  | .unit, x, y, hx, hy => by
    have e1 : x = .tup [] := by simpa [wlk] using hx
    have e2 : y = .tup [] := by simpa [wlk] using hy
    subst e1 e2
    simp [kP, kPs, PySem.W.alike, PySem.W.alikeAll]
  | .both a b, x, y, hx, hy => by
    rw [wlk, List.mem_flatMap] at hx hy
    obtain ⟨p, hp, hx⟩ := hx
    obtain ⟨q, hq, rfl⟩ := List.mem_map.mp hx
    obtain ⟨r, hr, hy⟩ := hy
    obtain ⟨s, hs, rfl⟩ := List.mem_map.mp hy
    simp [kP, kPs, PySem.W.alike, PySem.W.alikeAll, wlk_alike hp hr, wlk_alike hq hs]
  | .frm a b, x, y, hx, hy => by
    rw [wlk] at hx hy
    obtain ⟨r, hr, rfl⟩ := List.mem_map.mp hx
    obtain ⟨s, hs, rfl⟩ := List.mem_map.mp hy
    simp only [kP, PySem.W.alike, kPs_map]
    exact alikeAll_map fun c hc d hd => wlk_alike ((LLk_mem.mp hr).2 c hc) ((LLk_mem.mp hs).2 d hd)
/-- the less -/
def kLt (x y : NestedKey) : Bool := PySem.W.dataLt (kP x) (kP y)
/-- rows, the less -/
def rLt (r s : List NestedKey) : Bool := PyProof.Rows.lexLt itemOrd (PySem.W.keyToksAll (r.map kP)) (PySem.W.keyToksAll (s.map kP))
theorem kLt_tup (r s : List NestedKey) : kLt (.tup r) (.tup s) = rLt r s := by
  unfold kLt rLt
  simp only [kP, kPs_map]
  exact PySem.W.dataLt_tuple _ _
theorem rLt_cons {x y : NestedKey} (h : PySem.W.alike (kP x) (kP y) = true) (nx : nk x = true) (ny : nk y = true) (r s : List NestedKey) : rLt (x :: r) (y :: s) = if x = y then rLt r s else kLt x y := by
  unfold rLt kLt
  rw [List.map_cons, List.map_cons, PySem.W.dataLt_cons h]
  by_cases e : x = y
  · rw [if_pos e, if_pos ((eqv_kP x y nx ny).mpr e)]
  · rw [if_neg e, if_neg fun q => e ((eqv_kP x y nx ny).mp q)]
/-- rows of one length, longer ones: the first that differ decide -/
theorem rLt_app {L : List NestedKey} (hL : ∀ x ∈ L, nk x = true ∧ ∀ y ∈ L, PySem.W.alike (kP x) (kP y) = true) : ∀ {r s : List NestedKey} (c d : List NestedKey), r.length = s.length → (∀ x ∈ r, x ∈ L) → (∀ x ∈ s, x ∈ L) → rLt (r ++ c) (s ++ d) = if r = s then rLt c d else rLt r s
  | [], [], c, d, _, _, _ => by simp
  | [], _ :: _, _, _, h, _, _ => by simp at h
  | _ :: _, [], _, _, h, _, _ => by simp at h
  | x :: r, y :: s, c, d, h, hr, hs => by
    have hx := hL x (hr x List.mem_cons_self)
    have hy := hs y List.mem_cons_self
    rw [List.cons_append, List.cons_append, rLt_cons (hx.2 y hy) hx.1 (hL y hy).1, rLt_cons (hx.2 y hy) hx.1 (hL y hy).1]
    rw [rLt_app hL c d (by simpa using h) (fun a ha => hr a (List.mem_cons_of_mem _ ha)) fun a ha => hs a (List.mem_cons_of_mem _ ha)]
    by_cases e : x = y
    · simp [e]
    · simp [e]
theorem pw_fm {α β : Type} {R : β → β → Prop} {S : α → α → Prop} {f : α → List β} : ∀ {l : List α}, l.Pairwise S → (∀ a ∈ l, (f a).Pairwise R) → (∀ a ∈ l, ∀ b ∈ l, S a b → ∀ x ∈ f a, ∀ y ∈ f b, R x y) → (l.flatMap f).Pairwise R
  | [], _, _, _ => List.Pairwise.nil
  | a :: l, h1, h2, h3 => by
    rw [List.pairwise_cons] at h1
    rw [List.flatMap_cons, List.pairwise_append]
    refine ⟨h2 a List.mem_cons_self, pw_fm h1.2 (fun b hb => h2 b (List.mem_cons_of_mem _ hb)) (fun b hb c hc => h3 b (List.mem_cons_of_mem _ hb) c (List.mem_cons_of_mem _ hc)), fun x hx y hy => ?_⟩
    obtain ⟨b, hb, hy⟩ := List.mem_flatMap.mp hy
    exact h3 a List.mem_cons_self b (List.mem_cons_of_mem _ hb) (h1.1 b hb) x hx y hy
/-- ahead of -/
def Ahd (x y : NestedKey) : Prop := x ≠ y ∧ kLt y x = false
def Rhd (r s : List NestedKey) : Prop := r ≠ s ∧ rLt s r = false
theorem LLk_pw {L : List NestedKey} (hL : ∀ x ∈ L, nk x = true ∧ ∀ y ∈ L, PySem.W.alike (kP x) (kP y) = true) (h : L.Pairwise Ahd) : ∀ n, (LLk L n).Pairwise Rhd
  | 0 => by simp [LLk]
  | n + 1 => by
    rw [LLk]
    refine pw_fm (LLk_pw hL h n) (fun r hr => ?_) fun r hr s hs hrs x hx y hy => ?_
    · rw [List.pairwise_map]
      refine h.imp_of_mem fun {a b} ha hb hab => ⟨fun e => hab.1 (by simpa using e), ?_⟩
      have hrL := (LLk_mem.mp hr).2
      rw [rLt_app hL [b] [a] rfl hrL hrL, if_pos rfl, rLt_cons ((hL b hb).2 a ha) (hL b hb).1 (hL a ha).1, if_neg fun e => hab.1 e.symm]
      exact hab.2
    · obtain ⟨t, ht, rfl⟩ := List.mem_map.mp hx
      obtain ⟨u, hu, rfl⟩ := List.mem_map.mp hy
      have h1 := LLk_mem.mp hr
      have h2 := LLk_mem.mp hs
      refine ⟨fun e => hrs.1 (List.append_inj' e rfl).1, ?_⟩
      rw [rLt_app hL [u] [t] (h2.1.trans h1.1.symm) h2.2 h1.2, if_neg fun e => hrs.1 e.symm]
      exact hrs.2
/-- in order -/
theorem wlk_pw (z : Nat → Nat) : ∀ K : Kd, (wlk z K).Pairwise Ahd
  | .base i => by
    rw [wlk, List.pairwise_map]
    refine List.Pairwise.imp (R := fun a b : Nat => a < b) (fun {a b} h => ⟨fun e => by simp at e; omega, ?_⟩) List.pairwise_lt_range
    unfold kLt
    simp only [kP]
    rw [PySem.W.dataLt_int, decide_eq_false]
    omega
  | .unit => by simp [wlk]
  | .both a b => by
    rw [wlk]
    refine pw_fm (wlk_pw z a) (fun x hx => ?_) fun x hx y hy hxy u hu v hv => ?_
    · rw [List.pairwise_map]
      refine (wlk_pw z b).imp_of_mem fun {p q} hp hq hpq => ⟨fun e => hpq.1 (by simpa using e), ?_⟩
      rw [kLt_tup, rLt_cons (wlk_alike hx hx) (wlk_nk hx) (wlk_nk hx), if_pos rfl, rLt_cons (wlk_alike hq hp) (wlk_nk hq) (wlk_nk hp), if_neg fun e => hpq.1 e.symm]
      exact hpq.2
    · obtain ⟨p, hp, rfl⟩ := List.mem_map.mp hu
      obtain ⟨q, hq, rfl⟩ := List.mem_map.mp hv
      refine ⟨fun e => hxy.1 (by simp at e; exact e.1), ?_⟩
      rw [kLt_tup, rLt_cons (wlk_alike hy hx) (wlk_nk hy) (wlk_nk hx), if_neg fun e => hxy.1 e.symm]
      exact hxy.2
  | .frm a b => by
    rw [wlk, List.pairwise_map]
    refine (LLk_pw (fun x hx => ⟨wlk_nk hx, fun y hy => wlk_alike hx hy⟩) (wlk_pw z b) (nm z a)).imp fun {r s} h => ⟨fun e => h.1 (by simpa using e), ?_⟩
    rw [kLt_tup]; exact h.2
theorem leK_anti {f g : NestedKey} (al : PySem.W.alike (kP f) (kP g) = true) (nf : nk f = true) (ng : nk g = true) (h1 : PySem.W.dataLe false kP f g = true) (h2 : PySem.W.dataLe false kP g f = true) : f = g := by
  rw [PySem.W.dataLe_eq] at h1 h2
  simp only [cond_false, Bool.not_eq_true'] at h1 h2
  have ht : PySem.W.keyToks (kP f) = PySem.W.keyToks (kP g) := PyProof.Rows.lex_total (O := itemOrd) _ _ h2 h1
  apply (eqv_kP f g nf ng).mp
  cases e : PyData.eqv (kP f) (kP g) with
  | true => rfl
  | false =>
    have h1 := (PySem.W.toks_eqv (kP f) (kP g) al).2 e [] [.inl 0]
    have h2 := (PySem.W.toks_eqv (kP f) (kP g) al).2 e [.inl 0] []
    rw [ht] at h1 h2
    rw [PySem.W.lex_pre] at h1 h2
    rw [← h2] at h1
    exact absurd h1 (by decide)
theorem leK_total : PySem.W.TotalLe (PySem.W.dataLe false kP) := PySem.W.sortLe_total (listOrd itemOrd) false fun f => PySem.W.keyToks (kP f)
end Kz
namespace Kz
open PySem PySem.Spec PyProof.Rows L2 Kw
structure WX (S : Store) (w : Nat) (S' : Store) : Prop where
  le : S.length ≤ S'.length
  same : ∀ i, i < S.length → i ≠ w → S'[i]? = S[i]?
  well : Well S' w
theorem WS.wx {S S' : Store} {w : Nat} (h : WS S w S') : WX S w S' := ⟨by rw [h.len]; exact Nat.le_refl _, fun i _ hi => h.same i hi, h.well⟩
theorem WX.trans {S S1 S2 : Store} {w : Nat} (h : WX S w S1) (k : WX S1 w S2) : WX S w S2 := ⟨Nat.le_trans h.le k.le, fun i hl hi => (k.same i (Nat.lt_of_lt_of_le hl h.le) hi).trans (h.same i hl hi), k.well⟩
theorem well_app {S T : Store} {w : Nat} (h : Well S w) : Well (S ++ T) w := by
  obtain ⟨a, b, c, h1, h2, h3, h4, at_⟩ := h
  exact ⟨a, b, c, h1, h2, h3, h4, by rw [List.getElem?_append_left (lt_of_at at_)]; exact at_⟩
theorem WX.app {S S1 T : Store} {w : Nat} (h : WX S w S1) : WX S w (S1 ++ T) :=
  ⟨by simp; have := h.le; omega, fun i hl hi => by rw [List.getElem?_append_left (by have := h.le; omega)]; exact h.same i hl hi, well_app h.well⟩
theorem WX.set {S S1 : Store} {w v : Nat} {c : Cell} (h : WX S w S1) (hv : S.length ≤ v) (hw : w < S.length) : WX S w (S1.set v c) := by
  have ne : w ≠ v := by omega
  refine ⟨by simp; exact h.le, fun i hl hi => ?_, ?_⟩
  · rw [List.getElem?_set_ne (by omega)]; exact h.same i hl hi
  · obtain ⟨a, b, d, h1, h2, h3, h4, at_⟩ := h.well
    exact ⟨a, b, d, h1, h2, h3, h4, by rw [List.getElem?_set_ne (Ne.symm ne)]; exact at_⟩
theorem WX.cut {S S' : Store} {w : Nat} {d : D} (h : WX S w S') (hw : w < S.length) (hd : d.under S.length = true) : ∃ S'', cutR S (.ok d S') = .ok d S'' ∧ WS S w S'' := by
  have hc : CutOk S S' := by
    refine ⟨h.le, fun i c hi e => ?_⟩
    by_cases hiw : i = w
    · subst hiw
      obtain ⟨a, b, f, _, _, _, _, at_⟩ := h.well
      rw [at_] at e
      cases e
      right
      simp [Cell.under, underL, D.under]
    · left; rw [← h.same i hi hiw]; exact e
  refine ⟨S'.take S.length, by unfold cutR; simp only; rw [if_pos ⟨hd, hc⟩], ?_, fun i hi => ?_, ?_⟩
  · rw [List.length_take]; exact Nat.min_eq_left h.le
  · by_cases hl : i < S.length
    · rw [List.getElem?_take_of_lt hl]; exact h.same i hl hi
    · rw [List.getElem?_eq_none (by rw [List.length_take]; omega), List.getElem?_eq_none (by omega)]
  · obtain ⟨a, b, f, h1, h2, h3, h4, at_⟩ := h.well
    exact ⟨a, b, f, h1, h2, h3, h4, by rw [List.getElem?_take_of_lt hw]; exact at_⟩
theorem gSb_loc {i j v p : Nat} {ρ : FEnv} {S : Store} {ds : List D} {d : D} (h1 : ρ[i]? = some (some (.loc v))) (h2 : ρ[j]? = some (some (.int (p : Int)))) (at_ : S[v]? = some (.lst ds)) (hp : p < ds.length) :
    gSb (fVar i) (fVar j) d ρ S = some (ρ, S.set v (.lst (ds.set p d))) := by
  have e1 : fVar i ρ S = .ok (.loc v) S := by unfold fVar; rw [h1]
  have e2 : fVar j ρ S = .ok (.int (p : Int)) S := by unfold fVar; rw [h2]
  have e3 : L2.ixN ds.length (p : Int) = some p := by
    unfold L2.ixN
    rw [if_pos (by omega), if_pos (by omega)]
    rw [Int.toNat_natCast]
  unfold gSb
  rw [e1]
  simp only
  rw [e2]
  simp only [gSetI]
  rw [cellM_of at_]
  simp only
  rw [e3]
end Kz
namespace Kz
open PySem PySem.Spec PyProof.Rows L2 Kw
section
variable {g g1 : FG} {F : FEnv → List D → Store → RE (List D)} {ρ : FEnv} {S : Store} {acc r : List D} {gu gu1 : Option (Nat × List D)}
theorem compO_nilG (h : gd gu S) : compO g F gu ρ [] acc S = .ok acc S := by unfold compO gchk; rw [if_pos h]
theorem compO_stepG (h : gd gu S) {d : D} {ρ1 : FEnv} {S1 S2 : Store} {acc2 : List D} (h1 : g d ρ S = some (ρ1, S1)) (h2 : F ρ1 acc S1 = .ok acc2 S2) : compO g F gu ρ (d :: r) acc S = compO g F gu ρ r acc2 S2 := by
  conv => lhs; unfold compO
  unfold gchk
  rw [if_pos h, h1]
  simp [h2]
theorem compO_mapG (hg : gd gu S) (f : D → List D) : ∀ (ds acc : List D), (∀ d ∈ ds, ∃ ρ1, g d ρ S = some (ρ1, S) ∧ ∀ acc, acc.length + (f d).length ≤ sizeLine → F ρ1 acc S = .ok (acc ++ f d) S) → acc.length + (ds.flatMap f).length ≤ sizeLine →
    compO g F gu ρ ds acc S = .ok (acc ++ ds.flatMap f) S
  | [], acc, _, _ => by rw [compO_nilG hg]; simp
  | d :: ds, acc, h, hl => by
    obtain ⟨ρ1, h1, h2⟩ := h d List.mem_cons_self
    have hl' : acc.length + ((f d).length + (ds.flatMap f).length) ≤ sizeLine := by simpa [List.flatMap_cons] using hl
    rw [compO_stepG hg h1 (h2 acc (by omega)), compO_mapG hg f ds (acc ++ f d) (fun e he => h e (List.mem_cons_of_mem _ he)) (by rw [List.length_append]; omega)]
    rw [List.flatMap_cons, List.append_assoc]
theorem fLc2C_map {fi fi1 : FI} {te : FE} {vs vs1 : List Nat} {ds : List D} {S0 : Store} (f : D → List D) (h0 : fi ρ S0 = .ok (ds, gu) S) (hg : gd gu S) (h : ∀ d ∈ ds, ∃ ρ1, g d (wipeR ρ vs) S = some (ρ1, S) ∧ ∀ acc, acc.length + (f d).length ≤ sizeLine → inL fi1 g1 te vs1 ρ1 acc S = .ok (acc ++ f d) S) (hl : (ds.flatMap f).length ≤ sizeLine) :
    fLc2C fi g fi1 g1 te vs vs1 ρ S0 = .ok (.loc S.length) (S ++ [.lst (ds.flatMap f)]) := by
  unfold fLc2C
  rw [h0]
  show (match compO g (inL fi1 g1 te vs1) gu (wipeR ρ vs) ds [] S with
    | .ok acc S2 => RE.ok (D.loc S2.length) (S2 ++ [Cell.lst acc])
    | _ => .no) = _
  rw [compO_mapG hg f ds [] h (by simpa using hl)]
  rfl
theorem inL_mapG {fi1 : FI} {te : FE} {vs1 : List Nat} {ds : List D} (f : D → D) (h0 : fi1 ρ S = .ok (ds, gu1) S) (hg : gd gu1 S) (h : ∀ d ∈ ds, ∃ ρ1, g1 d (wipeR ρ vs1) S = some (ρ1, S) ∧ te ρ1 S = .ok (f d) S) (hl : acc.length + ds.length ≤ sizeLine) : inL fi1 g1 te vs1 ρ acc S = .ok (acc ++ ds.map f) S := by
  unfold inL
  rw [h0]
  exact compL_map f hg ds acc (fun d hd => by obtain ⟨ρ1, a, b⟩ := h d hd; exact ⟨ρ1, a, rfl, b⟩) hl
end
theorem at_app {S : Store} {n : Nat} {c : Cell} (h : S[n]? = some c) (T : Store) : (S ++ T)[n]? = some c := by
  rw [List.getElem?_append_left (lt_of_at h)]; exact h
theorem at_new (S : Store) (c : Cell) : (S ++ [c])[S.length]? = some c := by simp
theorem fiL_loc {S : Store} {n i : Nat} {ds : List D} {ρ : FEnv} (e : ρ[i]? = some (some (.loc n))) (h : S[n]? = some (.lst ds)) : fiL (fVar i) ρ S = .ok (ds, some (n, ds)) S := by
  have e1 : fVar i ρ S = .ok (.loc n) S := by unfold fVar; rw [e]
  have hc := cellOf_of h
  have hx : iSeq S (.loc n) = some (ds, some (n, ds)) := by simp [iSeq, hc]
  unfold fiL
  rw [e1]
  simp [hx]
theorem lc_body {m : Nat} {S : Store} {ts : List D} {L : List (List D)} {x t : Option D} {mt c : Nat} (hm : S[mt]? = some (.lst ts)) (hc : S[c]? = some (.lst (L.map .tup))) (h1 : ∀ r ∈ L, r.length < 10000) (h2 : L.length * ts.length ≤ 10000) :
    l_lists_of_0 (ev m) [some (.loc mt), t, some (.loc c), x, none, none] S = .nx [some (.loc mt), t, some (.loc S.length), x, none, none] (S ++ [.lst ((L.flatMap fun r => ts.map fun t => r ++ [t]).map .tup)]) := by
  have h8 : sizeLine = 16777216 := rfl
  have key := fLc2C_map (fi := fiL (fVar 2)) (g := gN 4) (g1 := gN 5) (fi1 := fiL (fVar 0)) (te := f2 (gAdd false) (fVar 4) (fArg mkTup (fCons (fVar 5) fNil))) (vs := [4, 5]) (vs1 := [5]) (ρ := [some (.loc mt), t, some (.loc c), x, none, none]) (S := S) (S0 := S) (ds := L.map .tup) (fR ts) (fiL_loc (by rfl) hc) (cellOf_of hc) (fun d hd => by
    obtain ⟨r, hr, rfl⟩ := List.mem_map.mp hd
    have := h1 r hr
    refine ⟨[some (.loc mt), t, some (.loc c), x, some (.tup r), none], by rfl, fun acc ha => ?_⟩
    refine inL_mapG (ds := ts) (fun t => .tup (r ++ [t])) (fiL_loc (by rfl) hm) (cellOf_of hm) (fun d hd => ⟨[some (.loc mt), t, some (.loc c), x, some (.tup r), some d], by rfl, ?_⟩) (by simpa [fR] using ha)
    have : r.length + 1 ≤ sizeLine := by omega
    simp [this]) (by
      rw [fR_map, List.length_map]
      have : (L.flatMap fun r => ts.map fun t => r ++ [t]).length = L.length * ts.length := by
        clear h1 h2 hc
        induction L with
        | nil => simp
        | cons a l ih => rw [List.flatMap_cons, List.length_append, ih, List.length_map, List.length_cons, Nat.succ_mul]; omega
      omega)
  rw [fR_map] at key
  rw [l_lists_of_0]
  simp [key]
theorem lc_loop {m : Nat} {ts : List D} {t : Option D} {mt : Nat} (h0 : 1 ≤ ts.length) : ∀ (ds : List D) (i : Nat) (x : Option D) (S : Store) (c : Nat), S[mt]? = some (.lst ts) → S[c]? = some (.lst ((LL ts i).map .tup)) → i + ds.length ≤ 5001 → ts.length ^ (i + ds.length) ≤ 10000 →
    ∃ x' T c', c ≤ c' ∧ forL (gN 3) (l_lists_of_0 (ev m)) none ds [some (.loc mt), t, some (.loc c), x, none, none] S = .nx [some (.loc mt), t, some (.loc c'), x', none, none] (S ++ T) ∧ (S ++ T)[c']? = some (.lst ((LL ts (i + ds.length)).map .tup))
  | [], i, x, S, c, hm, hc, h1, h2 => ⟨x, [], c, Nat.le_refl _, by simp, by simpa using hc⟩
  | d :: ds, i, x, S, c, hm, hc, h1, h2 => by
    simp only [List.length_cons] at h1 h2
    have e : i + (ds.length + 1) = (i + 1) + ds.length := by omega
    rw [e] at h1 h2
    have hl : (LL ts i).length * ts.length ≤ 10000 := by
      have h3 : ts.length ^ (i + 1) ≤ ts.length ^ (i + 1 + ds.length) := Nat.pow_le_pow_right h0 (by omega)
      have h4 : (LL ts i).length * ts.length = ts.length ^ (i + 1) := by rw [LL_len, Nat.pow_succ]
      omega
    have bd := lc_body (m := m) (S := S) (ts := ts) (L := LL ts i) (x := some d) (t := t) hm hc (fun r hr => by have := (LL_mem hr).1; omega) hl
    have hcl := lt_of_at hc
    obtain ⟨x', T, c', hcc, hx, hx2⟩ := lc_loop (m := m) (t := t) h0 ds (i + 1) (some d) (S ++ [.lst (((LL ts i).flatMap fun r => ts.map fun t => r ++ [t]).map .tup)]) S.length (at_app hm _) (at_new _ _) h1 h2
    refine ⟨x', .lst (((LL ts i).flatMap fun r => ts.map fun t => r ++ [t]).map .tup) :: T, c', by omega, ?_, ?_⟩
    · rw [forL_cons]
      have e1 : gN 3 d [some (.loc mt), t, some (.loc c), x, none, none] S = some ([some (.loc mt), t, some (.loc c), some d, none, none], S) := rfl
      rw [e1, tgR_some, bd, loopR_nx, hx, List.append_assoc]
      rfl
    · rw [List.length_cons, e, ← hx2, List.append_assoc]
      rfl
theorem lc_step {m : Nat} {S : Store} {t : Int} {mt : Nat} {r : RS} (r0 : -4611686018427387904 ≤ t) (r9 : t < 4611686018427387904) (e : forL (gN 3) (l_lists_of_0 (ev m)) none (rngD 0 t.toNat) [some (.loc mt), some (.int t), some (.loc S.length), none, none, none] (S ++ [.lst [.tup []]]) = r) :
    ev (m + 1) .f_lists_of [.loc mt, .int t] S = (r.bnd (sRet (fVar 2))).fin := by
  have h8 : sizeLine = 16777216 := rfl
  rw [ev, b_lists_of]
  simp [h8, r0, r9, e]
theorem lists_of_c {n t : Nat} {S : Store} {ts : List D} {mt : Nat} (h : 1 ≤ n) (hm : S[mt]? = some (.lst ts)) (h0 : 1 ≤ ts.length) (ht : t ≤ 5001) (hl : ts.length ^ t ≤ 10000) : ∃ T c, S.length ≤ c ∧ ev n .f_lists_of [.loc mt, .int (t : Int)] S = .ok (.loc c) (S ++ T) ∧ (S ++ T)[c]? = some (.lst ((LL ts t).map .tup)) := by
  obtain ⟨m, rfl, h'⟩ := up h
  obtain ⟨x', T, c, hcc, e, e2⟩ := lc_loop (m := m) (mt := mt) (ts := ts) (t := some (.int (t : Int))) h0 (rngD 0 t) 0 none (S ++ [.lst [.tup []]]) S.length (at_app hm _) (at_new _ _) (by rw [rngD_length]; omega) (by rw [rngD_length]; simpa using hl)
  rw [rngD_length, Nat.zero_add] at e2
  have e' : forL (gN 3) (l_lists_of_0 (ev m)) none (rngD 0 ((t : Nat) : Int).toNat) [some (.loc mt), some (.int (t : Int)), some (.loc S.length), none, none, none] (S ++ [.lst [.tup []]]) = .nx [some (.loc mt), some (.int (t : Int)), some (.loc c), x', none, none] (S ++ [.lst [.tup []]] ++ T) := e
  refine ⟨.lst [.tup []] :: T, c, hcc, ?_, by rw [← e2, List.append_assoc]; rfl⟩
  rw [lc_step (m := m) (S := S) (t := (t : Int)) (mt := mt) (by omega) (by omega) e', List.append_assoc]
  rfl
theorem gRngC_nat {n : Nat} {S : Store} (h : n ≤ 10000) : gRngC (.int (n : Int)) S = .ok (.loc S.length) (S ++ [.lst ((List.range n).map fun (j : Nat) => D.int (j : Int))]) := by
  have h8 : sizeLine = 16777216 := rfl
  have h1 : (0 : Int) ≤ (n : Int) ∧ (n : Int) ≤ 16777216 := ⟨by omega, by omega⟩
  show (if (0 : Int) ≤ (n : Int) ∧ (n : Int) ≤ 16777216 then mkCel (((List.range ((n : Int)).toNat).map fun (i : Nat) => ((i : Nat) : Int)).map D.int) S else .no) = _
  rw [if_pos h1, List.map_map]
  unfold mkCel
  rw [if_pos (by simp; omega)]
  rfl
/-- sizes lie at x, whatever is put behind -/
def SzA (z : Nat → Nat) (x : D) (S : Store) : Prop := ∀ T, Szs z x (S ++ T)
theorem SzA.app {z : Nat → Nat} {x : D} {S : Store} (h : SzA z x S) (T : Store) : SzA z x (S ++ T) := fun U => by rw [List.append_assoc]; exact h _
theorem SzA.at {z : Nat → Nat} {x : D} {S : Store} (h : SzA z x S) : Szs z x S := by have := h []; rwa [List.append_nil] at this
theorem sza_cell {ns : List Int} (h : okSz ns) {S : Store} {v : Nat} (at_ : S[v]? = some (.lst (ns.map .int))) : SzA (sF ns) (.loc v) S := fun T => szs_cell h (at_app at_ T)
theorem aw_both {m : Nat} {S S1 S2 : Store} {A B x : D} {p q : Nat} {la lb : List D} (e1 : ev m .f_all_worths [B, x] S = .ok (.loc p) S1) (e2 : ev m .f_all_worths [A, x] S1 = .ok (.loc q) S2) (h1 : S2[p]? = some (.lst lb)) (h2 : S2[q]? = some (.lst la)) (hl : (la.flatMap fun u => lb.map fun v => D.tup [u, v]).length ≤ sizeLine) :
    ev (m + 1) .f_all_worths [.tup [.str "both", A, B], x] S = .ok (.loc S2.length) (S2 ++ [.lst (la.flatMap fun u => lb.map fun v => D.tup [u, v])]) := by
  have h8 : sizeLine = 16777216 := rfl
  have hc := cellOf_of h2
  have hx : iSeq S2 (.loc q) = some (la, some (q, la)) := by simp [iSeq, hc]
  have key := fLc2C_map (fi := fiL (fArg (ev m .f_all_worths) (fCons (f2 gIx (fVar 0) (fC (.int 1))) (fCons (fVar 1) fNil)))) (g := gN 3) (g1 := gN 4) (fi1 := fiL (fVar 2)) (te := fArg mkTup (fCons (fVar 3) (fCons (fVar 4) fNil))) (vs := [3, 4]) (vs1 := [4]) (ρ := [some (.tup [.str "both", A, B]), some x, some (.loc p), none, none]) (S := S2) (S0 := S1) (ds := la) (gu := some (q, la)) (fun u => lb.map fun v => .tup [u, v]) (by unfold fiL; simp [e2, hx]) (cellOf_of h2) (fun u hu => by
      refine ⟨[some (.tup [.str "both", A, B]), some x, some (.loc p), some u, none], by rfl, fun acc hacc => ?_⟩
      exact inL_mapG (ds := lb) (fun v => .tup [u, v]) (fiL_loc (by rfl) h1) (cellOf_of h1) (fun v hv => ⟨[some (.tup [.str "both", A, B]), some x, some (.loc p), some u, some v], by rfl, by simp [h8]⟩) (by simpa using hacc)) hl
  rw [ev, b_all_worths]
  simp [e1, key]
theorem aw_from {m t : Nat} {S S1 S2 : Store} {A B x : D} {p q : Nat} (e1 : ev m .f_all_worths [B, x] S = .ok (.loc p) S1) (e2 : ev m .f_number_up_to [A, x] S1 = .ok (.int (t : Int)) S1) (e3 : ev m .f_lists_of [.loc p, .int (t : Int)] S1 = .ok (.loc q) S2) :
    ev (m + 1) .f_all_worths [.tup [.str "from", A, B], x] S = .ok (.loc q) S2 := by
  rw [ev, b_all_worths]
  simp [e1, e2, e3]
theorem all_worths_c {z : Nat → Nat} {x : D} (k : Kd) : ∀ {n : Nat} {S : Store}, SzA z x S → k.dep + 4 ≤ n → tk z k ≤ 5000 → nm z k ≤ 5000 → ∃ T c, S.length ≤ c ∧ ev n .f_all_worths [k.d, x] S = .ok (.loc c) (S ++ T) ∧ (S ++ T)[c]? = some (.lst (wl z k)) := by
  have h8 : sizeLine = 16777216 := rfl
  induction k with
  | base i =>
    intro n S hx h _ _
    obtain ⟨m, rfl, h'⟩ := up (d := 1) (by omega : 1 + 1 ≤ n)
    have := hx.at.ok i.val
    have e := gRngC_nat (n := z i.val) (S := S) (by omega)
    refine ⟨[.lst (wl z (.base i))], S.length, Nat.le_refl _, ?_, at_new _ _⟩
    rw [ev, b_all_worths]
    simp [Kd.d, hx.at.ix, e, wl]
  | unit =>
    intro n S hx h _ _
    obtain ⟨m, rfl, h'⟩ := up (d := 1) (by omega : 1 + 1 ≤ n)
    refine ⟨[.lst (wl z .unit)], S.length, Nat.le_refl _, ?_, at_new _ _⟩
    rw [ev, b_all_worths]
    simp [Kd.d, wl, h8]
  | both a b ha hb =>
    intro n S hx h ht hn
    simp [Kd.dep] at h
    simp only [tk] at ht
    obtain ⟨m, rfl, h'⟩ := up (d := max a.dep b.dep + 4) (by omega)
    have ⟨e, na, nb⟩ := nm_both hx.at.ok hn
    obtain ⟨T1, p, hp1, eb, hb1⟩ := hb (n := m) hx (by omega) (by omega) nb
    obtain ⟨T2, q, hq1, ea, ha1⟩ := ha (n := m) (hx.app T1) (by omega) (by omega) na
    have la := wl_len hx.at.ok a na; have lb := wl_len hx.at.ok b nb
    have key := aw_both (A := a.d) (B := b.d) eb ea (at_app hb1 T2) ha1 (by
      rw [fm_len (c := (wl z b).length) (fun x => by simp), la, lb]; omega)
    refine ⟨T1 ++ T2 ++ [.lst (wl z (.both a b))], (S ++ T1 ++ T2).length, by simp only [List.length_append]; omega, ?_, ?_⟩
    · have kd : (Kd.both a b).d = .tup [.str "both", a.d, b.d] := rfl
      rw [kd, key]
      simp only [List.append_assoc]
      rfl
    · have := at_new (S ++ T1 ++ T2) (.lst (wl z (.both a b)))
      simpa only [List.append_assoc] using this
  | frm a b ha hb =>
    intro n S hx h ht hn
    simp [Kd.dep] at h
    simp only [tk] at ht
    obtain ⟨m, rfl, h'⟩ := up (d := max a.dep b.dep + 4) (by omega)
    have ⟨e, nb⟩ := nm_frm hx.at.ok hn
    obtain ⟨T1, p, hp1, eb, hb1⟩ := hb (n := m) hx (by omega) (by omega) nb
    have lb := wl_len hx.at.ok b nb
    have en := number_ok (hx.app T1).at a (n := m) (by omega)
    have ob := nm_ok hx.at.ok b
    obtain ⟨T2, q, hq1, el, hq⟩ := lists_of_c (n := m) (t := nm z a) (S := S ++ T1) (ts := wl z b) (by omega) hb1 (by omega) (by omega) (by rw [lb]; omega)
    refine ⟨T1 ++ T2, q, by simp only [List.length_append] at hq1; omega, ?_, ?_⟩
    · have kd : (Kd.frm a b).d = .tup [.str "from", a.d, b.d] := rfl
      rw [kd, aw_from eb en el, List.append_assoc]
    · rw [← List.append_assoc, hq]; rfl
theorem worths_c {n : Nat} {z : Nat → Nat} {x : D} {S : Store} {k : Kd} (hx : SzA z x S) (hn : k.dep + 6 ≤ n) (hs : ∀ m, n = m + 1 → ev m .f_sure_sizes [x] S = .ok .non S) (hk : k.sz ≤ 2000000) (ht : tk z k ≤ 5000) (h5 : nm z k ≤ 5000) :
    ∃ T c, S.length ≤ c ∧ ev n .f_worths [k.d, x] S = .ok (.loc c) (S ++ T) ∧ (S ++ T)[c]? = some (.lst (wl z k)) := by
  obtain ⟨m, rfl, h'⟩ := up (d := k.dep + 5) hn
  have hq : ¬ (5000 : Int) < ((nm z k : Nat) : Int) := by omega
  obtain ⟨T, c, hc, e1, e2⟩ := all_worths_c k (n := m) hx (by omega) ht h5
  refine ⟨T, c, hc, ?_, e2⟩
  rw [ev, b_worths]
  simp [sure_kind_kd (n := m) (S := S) (k := k) (by omega) hk, hs m rfl, taken_sure hx.at k (n := m) (by omega) ht, number_ok hx.at k (n := m) (by omega), hq, e1]
end Kz
namespace Kz
open PySem PySem.Spec PyProof.Rows L2 Kw
theorem set_go {i : Nat} {f : FE} {ρ : FEnv} {S S' : Store} {d : D} (h : f ρ S = .ok d S') : sSet i f ρ S = .nx (ρ.set i (some d)) S' := by rw [sSet_ap, h]; rfl
theorem if_no {t : FT} {a : FS} {ρ : FEnv} {S S' : Store} (h : t ρ S = .ok false S') : sIf t a sNil ρ S = .nx ρ S' := by rw [sIf_ap, h]; rfl
theorem if_yes {t : FT} {a b : FS} {ρ : FEnv} {S S' : Store} (h : t ρ S = .ok true S') : sIf t a b ρ S = a ρ S' := by rw [sIf_ap, h]; rfl
theorem ret_go {f : FE} {ρ : FEnv} {S S' : Store} {d : D} (h : f ρ S = .ok d S') : sRet f ρ S = .rt d S' := by rw [sRet_ap, h]; rfl
theorem seq_go {a b : FS} {ρ ρ' : FEnv} {S S' : Store} (h : a ρ S = .nx ρ' S') : sSeq a b ρ S = b ρ' S' := by rw [sSeq_ap, h]; rfl
theorem seq_rt {a b : FS} {ρ : FEnv} {S S' : Store} {d : D} (h : a ρ S = .rt d S') : sSeq a b ρ S = .rt d S' := by rw [sSeq_ap, h]; rfl
theorem la_in {ρ : FEnv} {S : Store} {ts : List D} {te : FE} (f : D → D) (h2 : fVar 2 ρ S = .ok (.lst ts) S) (hte : ∀ v ∈ ts, te ((ρ.set 8 none).set 8 (some v)) S = .ok (f v) S) (hl : ts.length ≤ sizeLine) : fLc false (fiL (fVar 2)) (gN 8) fYes te [8] ρ S = .ok (.lst (ts.map f)) S := by
  have hm := compL_map (tg := gN 8) (tt := fYes) (te := te) (ρ := ρ.set 8 none) (S := S) (gg := none) f gd_non ts [] (fun v hv => ⟨(ρ.set 8 none).set 8 (some v), rfl, rfl, hte v hv⟩) (by simpa using hl)
  have e : fiL (fVar 2) ρ S = .ok (ts, none) S := by unfold fiL; rw [h2]; rfl
  rw [fLc_ap, e]
  show lcR false (compL (gN 8) fYes te none (ρ.set 8 none) ts [] S) = _
  rw [hm]; rfl
theorem add_go {a b : FE} {ρ : FEnv} {S : Store} {xs ys : List D} (h1 : a ρ S = .ok (.lst xs) S) (h2 : b ρ S = .ok (.lst ys) S) (hl : xs.length + ys.length ≤ sizeLine) : f2 (gAdd false) a b ρ S = .ok (.lst (xs ++ ys)) S := by
  rw [f2_ap, h1, bnd_ok, h2, bnd_ok, Kw.gAdd_ll, mkLst_ap, if_pos (by rw [List.length_append]; exact hl)]
section
variable {m : Nat} {S : Store} {K x : D} {ts : List D} {a4 a6 a7 a8 : Option D}
theorem la0 {acc : List D} {u : D} (hl : acc.length + ts.length ≤ 100000) : l__law_all_0 (ev m) [some K, some x, some (.lst ts), some (.lst acc), a4, some u, a6, a7, a8] S = .nx [some K, some x, some (.lst ts), some (.lst (acc ++ ts.map fun v => .tup [u, v])), a4, some u, a6, a7, a8] S := by
  have h8 : sizeLine = 16777216 := rfl
  have e := la_in (ρ := [some K, some x, some (.lst ts), some (.lst acc), a4, some u, a6, a7, a8]) (S := S) (te := fArg mkTup (fCons (fVar 5) (fCons (fVar 8) fNil))) (fun v => .tup [u, v]) rfl (fun v hv => by simp [h8]) (by omega)
  rw [l__law_all_0]
  exact set_go (add_go rfl e (by rw [List.length_map]; omega))
theorem la0_loop : ∀ (us acc : List D) (a5 : Option D), acc.length + us.length * ts.length ≤ 90000 → ts.length ≤ 5000 → ∃ a5', forL (gN 5) (l__law_all_0 (ev m)) none us [some K, some x, some (.lst ts), some (.lst acc), a4, a5, a6, a7, a8] S = .nx [some K, some x, some (.lst ts), some (.lst (acc ++ us.flatMap fun u => ts.map fun v => .tup [u, v])), a4, a5', a6, a7, a8] S
  | [], acc, a5, _, _ => ⟨a5, by simp⟩
  | u :: us, acc, a5, h1, h2 => by
    simp only [List.length_cons, Nat.succ_mul] at h1
    obtain ⟨a5', e⟩ := la0_loop us (acc ++ ts.map fun v => .tup [u, v]) (some u) (by rw [List.length_append, List.length_map]; omega) h2
    refine ⟨a5', ?_⟩
    rw [forL_cons]
    have e1 : gN 5 u [some K, some x, some (.lst ts), some (.lst acc), a4, a5, a6, a7, a8] S = some ([some K, some x, some (.lst ts), some (.lst acc), a4, some u, a6, a7, a8], S) := rfl
    rw [e1, tgR_some, la0 (by omega), loopR_nx, e, List.flatMap_cons, List.append_assoc]
theorem la1 {acc row : List D} {a3 a5 : Option D} (hl : acc.length + ts.length ≤ 100000) (hr : row.length < 10000) : l__law_all_1 (ev m) [some K, some x, some (.lst ts), a3, a4, a5, some (.lst acc), some (.tup row), a8] S = .nx [some K, some x, some (.lst ts), a3, a4, a5, some (.lst (acc ++ ts.map fun v => .tup (row ++ [v]))), some (.tup row), a8] S := by
  have h8 : sizeLine = 16777216 := rfl
  have hr' : row.length + 1 ≤ sizeLine := by omega
  have e := la_in (ρ := [some K, some x, some (.lst ts), a3, a4, a5, some (.lst acc), some (.tup row), a8]) (S := S) (te := f2 (gAdd false) (fVar 7) (fArg mkTup (fCons (fVar 8) fNil))) (fun v => .tup (row ++ [v])) rfl (fun v hv => by simp [hr']) (by omega)
  rw [l__law_all_1]
  exact set_go (add_go rfl e (by rw [List.length_map]; omega))
theorem la1_loop {a3 a5 : Option D} : ∀ (L : List (List D)) (acc : List D) (a7 : Option D), acc.length + L.length * ts.length ≤ 90000 → ts.length ≤ 5000 → (∀ r ∈ L, r.length < 10000) → ∃ a7', forL (gN 7) (l__law_all_1 (ev m)) none (L.map .tup) [some K, some x, some (.lst ts), a3, a4, a5, some (.lst acc), a7, a8] S = .nx [some K, some x, some (.lst ts), a3, a4, a5, some (.lst (acc ++ (L.flatMap fun r => ts.map fun t => r ++ [t]).map .tup)), a7', a8] S
  | [], acc, a7, _, _, _ => ⟨a7, by simp⟩
  | r :: L, acc, a7, h1, h2, h3 => by
    simp only [List.length_cons, Nat.succ_mul] at h1
    obtain ⟨a7', e⟩ := la1_loop L (acc ++ ts.map fun v => .tup (r ++ [v])) (some (.tup r)) (by rw [List.length_append, List.length_map]; omega) h2 fun s hs => h3 s (List.mem_cons_of_mem _ hs)
    refine ⟨a7', ?_⟩
    rw [List.map_cons, forL_cons]
    have e1 : gN 7 (.tup r) [some K, some x, some (.lst ts), a3, a4, a5, some (.lst acc), a7, a8] S = some ([some K, some x, some (.lst ts), a3, a4, a5, some (.lst acc), some (.tup r), a8], S) := rfl
    rw [e1, tgR_some, la1 (by omega) (h3 r List.mem_cons_self), loopR_nx, e, List.flatMap_cons, List.map_append, List.append_assoc, List.map_map]
    rfl
theorem la2 {L : List (List D)} {a5 : Option D} (h1 : L.length * ts.length ≤ 90000) (h2 : ts.length ≤ 5000) (h3 : ∀ r ∈ L, r.length < 10000) : ∃ b6 b7, l__law_all_2 (ev m) [some K, some x, some (.lst ts), some (.lst (L.map .tup)), a4, a5, a6, a7, a8] S = .nx [some K, some x, some (.lst ts), some (.lst ((L.flatMap fun r => ts.map fun t => r ++ [t]).map .tup)), a4, a5, b6, b7, a8] S := by
  have h8 : sizeLine = 16777216 := rfl
  obtain ⟨a7', e⟩ := la1_loop (m := m) (S := S) (K := K) (x := x) (ts := ts) (a4 := a4) (a8 := a8) (a3 := some (.lst (L.map .tup))) (a5 := a5) L [] a7 (by simpa using h1) h2 h3
  rw [List.nil_append] at e
  refine ⟨some (.lst ((L.flatMap fun r => ts.map fun t => r ++ [t]).map .tup)), a7', ?_⟩
  rw [l__law_all_2]
  rw [seq_go (S' := S) (ρ' := [some K, some x, some (.lst ts), some (.lst (L.map .tup)), a4, a5, some (.lst []), a7, a8]) (set_go (by simp))]
  rw [seq_go (S' := S) (ρ' := [some K, some x, some (.lst ts), some (.lst (L.map .tup)), a4, a5, some (.lst ((L.flatMap fun r => ts.map fun t => r ++ [t]).map .tup)), a7', a8])]
  · exact set_go rfl
  · rw [sFor_ap]
    have e1 : fiL (fVar 3) [some K, some x, some (.lst ts), some (.lst (L.map .tup)), a4, a5, some (.lst []), a7, a8] S = .ok (L.map .tup, none) S := rfl
    rw [e1, toS_ok]
    exact e
theorem la2_loop {a5 : Option D} (h0 : 1 ≤ ts.length) (hb : ts.length ≤ 5000) : ∀ (ds : List D) (i : Nat) (a4 a6 a7 : Option D), i + ds.length ≤ 5001 → ts.length ^ (i + ds.length) ≤ 10000 → ∃ b4 b6 b7, forL (gN 4) (l__law_all_2 (ev m)) none ds [some K, some x, some (.lst ts), some (.lst ((LL ts i).map .tup)), a4, a5, a6, a7, a8] S = .nx [some K, some x, some (.lst ts), some (.lst ((LL ts (i + ds.length)).map .tup)), b4, a5, b6, b7, a8] S
  | [], i, a4, a6, a7, _, _ => ⟨a4, a6, a7, by simp⟩
  | d :: ds, i, a4, a6, a7, h1, h2 => by
    simp only [List.length_cons] at h1 h2
    have e : i + (ds.length + 1) = (i + 1) + ds.length := by omega
    rw [e] at h1 h2
    have hl : (LL ts i).length * ts.length ≤ 10000 := by
      have h3 : ts.length ^ (i + 1) ≤ ts.length ^ (i + 1 + ds.length) := Nat.pow_le_pow_right h0 (by omega)
      have h4 : (LL ts i).length * ts.length = ts.length ^ (i + 1) := by rw [LL_len, Nat.pow_succ]
      omega
    obtain ⟨b6, b7, bd⟩ := la2 (m := m) (S := S) (K := K) (x := x) (ts := ts) (a4 := some d) (a6 := a6) (a7 := a7) (a8 := a8) (L := LL ts i) (a5 := a5) (by omega) hb (fun r hr => by have := (LL_mem hr).1; omega)
    obtain ⟨c4, c6, c7, hx⟩ := la2_loop (a5 := a5) h0 hb ds (i + 1) (some d) b6 b7 h1 h2
    refine ⟨c4, c6, c7, ?_⟩
    rw [List.length_cons, e, ← hx, forL_cons]
    have e1 : gN 4 d [some K, some x, some (.lst ts), some (.lst ((LL ts i).map .tup)), a4, a5, a6, a7, a8] S = some ([some K, some x, some (.lst ts), some (.lst ((LL ts i).map .tup)), some d, a5, a6, a7, a8], S) := rfl
    rw [e1, tgR_some, bd, loopR_nx]
    rfl
end
theorem lall_both {m : Nat} {S : Store} {A B x : D} {la lb : List D} (e1 : ev m .f__law_all [B, x] S = .ok (.lst lb) S) (e2 : ev m .f__law_all [A, x] S = .ok (.lst la) S) (h1 : la.length * lb.length ≤ 90000) (h2 : lb.length ≤ 5000) :
    ev (m + 1) .f__law_all [.tup [.str "both", A, B], x] S = .ok (.lst (la.flatMap fun u => lb.map fun v => .tup [u, v])) S := by
  have h8 : sizeLine = 16777216 := rfl
  obtain ⟨a5', lp⟩ := la0_loop (m := m) (S := S) (K := .tup [.str "both", A, B]) (x := x) (ts := lb) (a4 := none) (a6 := none) (a7 := none) (a8 := none) la [] none (by simpa using h1) h2
  rw [List.nil_append] at lp
  rw [ev, b__law_all]
  generalize (la.flatMap fun u => lb.map fun v => D.tup [u, v]) = R at lp ⊢
  simp [e1, e2, lp]
theorem lall_step {m : Nat} {S : Store} {A B x R : D} {lb : List D} {T : Int} {b4 b6 b7 : Option D} (e1 : ev m .f__law_all [B, x] S = .ok (.lst lb) S) (e2 : ev m .f__law_number [A, x] S = .ok (.int T) S) (r0 : -4611686018427387904 ≤ T) (r9 : T < 4611686018427387904)
    (lp' : forL (gN 4) (l__law_all_2 (ev m)) none (rngD 0 T.toNat) [some (.tup [.str "from", A, B]), some x, some (.lst lb), some (.lst [.tup []]), none, none, none, none, none] S = .nx [some (.tup [.str "from", A, B]), some x, some (.lst lb), some R, b4, none, b6, b7, none] S) :
    ev (m + 1) .f__law_all [.tup [.str "from", A, B], x] S = .ok R S := by
  have h8 : sizeLine = 16777216 := rfl
  rw [ev, b__law_all]
  simp [e1, e2, h8, r0, r9, lp']
theorem lall_from {m t : Nat} {S : Store} {A B x : D} {lb : List D} (e1 : ev m .f__law_all [B, x] S = .ok (.lst lb) S) (e2 : ev m .f__law_number [A, x] S = .ok (.int (t : Int)) S) (h0 : 1 ≤ lb.length) (h1 : t ≤ 5001) (h2 : lb.length ^ t ≤ 10000) (h3 : lb.length ≤ 5000) :
    ev (m + 1) .f__law_all [.tup [.str "from", A, B], x] S = .ok (.lst ((LL lb t).map .tup)) S := by
  obtain ⟨b4, b6, b7, lp⟩ := la2_loop (m := m) (S := S) (K := .tup [.str "from", A, B]) (x := x) (ts := lb) (a5 := none) (a8 := none) h0 h3 (rngD 0 t) 0 none none none (by rw [rngD_length]; omega) (by rw [rngD_length]; simpa using h2)
  rw [rngD_length, Nat.zero_add] at lp
  exact lall_step e1 e2 (by omega) (by omega) lp
theorem law_all_ok {z : Nat → Nat} {x : D} {S : Store} (hx : Szs z x S) (k : Kd) : ∀ {n : Nat}, k.dep + 4 ≤ n → tk z k ≤ 5000 → nm z k ≤ 5000 → ev n .f__law_all [k.d, x] S = .ok (.lst (wl z k)) S := by
  have h8 : sizeLine = 16777216 := rfl
  induction k with
  | base i =>
    intro n h _ _
    obtain ⟨m, rfl, h'⟩ := up (d := 1) (by omega : 1 + 1 ≤ n)
    have := hx.ok i.val
    have e := gRng_nat (n := z i.val) (S := S) (by omega)
    rw [ev, b__law_all]
    simp [Kd.d, hx.ix, e, wl]
  | unit =>
    intro n h _ _
    obtain ⟨m, rfl, h'⟩ := up (d := 1) (by omega : 1 + 1 ≤ n)
    rw [ev, b__law_all]
    simp [Kd.d, wl, h8]
  | both a b ha hb =>
    intro n h ht hn
    simp [Kd.dep] at h
    simp only [tk] at ht
    obtain ⟨m, rfl, h'⟩ := up (d := max a.dep b.dep + 4) (by omega)
    have ⟨e, na, nb⟩ := nm_both hx.ok hn
    have la := wl_len hx.ok a na; have lb := wl_len hx.ok b nb
    exact lall_both (hb (n := m) (by omega) (by omega) nb) (ha (n := m) (by omega) (by omega) na) (by rw [la, lb, e]; omega) (by omega)
  | frm a b ha hb =>
    intro n h ht hn
    simp [Kd.dep] at h
    simp only [tk] at ht
    obtain ⟨m, rfl, h'⟩ := up (d := max a.dep b.dep + 4) (by omega)
    have ⟨e, nb⟩ := nm_frm hx.ok hn
    have lb := wl_len hx.ok b nb
    have ob := nm_ok hx.ok b
    exact lall_from (hb (n := m) (by omega) (by omega) nb) (law_number hx a (n := m) (by omega)) (by omega) (by omega) (by rw [lb, e]; omega) (by omega)
mutual
theorem py0_kD : ∀ k : NestedKey, Kw.py0 (kD k) = some (kP k)
  | .none => rfl
  | .num i => rfl
  | .text x => rfl
  | .tup ks => by simp only [kD, kP, Kw.py0, py0L_kDs ks, Option.map_some]
theorem py0L_kDs : ∀ ks : List NestedKey, Kw.py0L (kDs ks) = some (kPs ks)
  | [] => rfl
  | k :: ks => by simp only [kDs, kPs, Kw.py0L, py0_kD k, py0L_kDs ks, Option.bind_some, Option.map_some]
end
theorem nks_all {L : List NestedKey} (h : ∀ k ∈ L, nk k = true) : nks L = true := by
  induction L with
  | nil => rfl
  | cons k L ih => simp [nks, h k List.mem_cons_self, ih fun e he => h e (List.mem_cons_of_mem _ he)]
theorem pyS_locK {S : Store} {c : Nat} {L : List NestedKey} (h : S[c]? = some (.lst (L.map kD))) : pyS S (.loc c) = some (.list (L.map kP)) := by
  have e : pyS S (.loc c) = ((Kw.cellOf S c).bind Kw.py0L).map .list := rfl
  rw [e, cellOf_of h, Option.bind_some, ← kDs_map, py0L_kDs, kPs_map]; rfl
theorem pyS_lstK (S : Store) (L : List NestedKey) : pyS S (.lst (L.map kD)) = some (.list (L.map kP)) := by
  have e : pyS S (.lst (L.map kD)) = (pySL S (L.map kD)).map .list := rfl
  rw [e, ← kDs_map, pySL_kDs, kPs_map]; rfl
theorem eqE_nil {S : Store} {x : D} {L : List D} (h : seqL S x = some L) : eqE S x (.lst []) = some L.isEmpty := by
  show (seqL S x).map (·.isEmpty) = _
  rw [h]; rfl
theorem same_rows {S : Store} {x y : D} {L : List NestedKey} (hx : pyS S x = some (.list (L.map kP))) (hy : pyS S y = some (.list (L.map kP))) (hs : seqL S x = some (L.map kD)) (hsy : y = .lst (L.map kD) ∨ ∃ c, y = .loc c) (hn : ∀ k ∈ L, nk k = true) (hd : ∀ k ∈ L, k.depth ≤ 150) :
    gEq x y S = .ok (.bl true) S ∧ gNe x y S = .ok (.bl false) S := by
  have fin : eqE S x y = none → gEq x y S = .ok (.bl true) S ∧ gNe x y S = .ok (.bl false) S := fun h0 => by
    have l := layL_kPs L (nks_all hn)
    have dp := depAll_map hd
    have ev := (eqvL_kPs L L (nks_all hn) (nks_all hn)).mpr rfl
    rw [kPs_map] at l ev
    have ok : okPy (.list (L.map kP)) (.list (L.map kP)) = true := by simp [okPy, PyData.canLay0, l, PyData.depth]; omega
    have e1 : PyData.eqv (.list (L.map kP)) (.list (L.map kP)) = true := by simp only [PyData.eqv]; exact ev
    exact ⟨by unfold gEq; rw [h0, hx, hy]; simp only [ok, if_true, e1], by unfold gNe; rw [h0, hx, hy]; simp only [ok, if_true, e1]; rfl⟩
  rcases hsy with rfl | ⟨c, rfl⟩
  · cases L with
    | nil =>
      have h0 := eqE_nil hs
      rw [List.map_nil] at h0 ⊢
      exact ⟨by unfold gEq; rw [h0]; rfl, by unfold gNe; rw [h0]; rfl⟩
    | cons k L => exact fin rfl
  · exact fin rfl
theorem seqL_locK {S : Store} {c : Nat} {L : List D} (h : S[c]? = some (.lst L)) : seqL S (.loc c) = some L := cellOf_of h
theorem dataLe_kLt (x y : NestedKey) : PySem.W.dataLe false kP x y = !kLt y x := by
  rw [PySem.W.dataLe_eq]; rfl
theorem kLt_of {x y : NestedKey} (al : PySem.W.alike (kP x) (kP y) = true) (nx : nk x = true) (ny : nk y = true) (h : Ahd x y) : kLt x y = true := by
  cases e : kLt x y with
  | true => rfl
  | false =>
    refine absurd (leK_anti al nx ny ?_ ?_) h.1
    · rw [dataLe_kLt, h.2]; rfl
    · rw [dataLe_kLt, e]; rfl
theorem wlk_lt (z : Nat → Nat) (K : Kd) : (wlk z K).Pairwise fun x y => kLt x y = true :=
  (wlk_pw z K).imp_of_mem fun hx hy h => kLt_of (wlk_alike hx hy) (wlk_nk hx) (wlk_nk hy) h
theorem sort_in_order {l : List NestedKey} (h : l.Pairwise fun x y => kLt x y = true) : sortB (l.map kD) (l.map kP) = l.map kD := by
  rw [sortB_map]
  have : l.mergeSort (PySem.W.dataLe false kP) = l := by
    refine one_sorted (lt := kLt) h ?_ (List.mergeSort_perm _ _)
    refine (PySem.W.sort_pairwise leK_total l).imp fun {a b} q => ?_
    rw [dataLe_kLt] at q
    simpa using q
  rw [this]
/-- how a stretch of all worths is sorted: as it stands -/
theorem rows_sortable {z : Nat → Nat} (hz : ∀ i, 1 ≤ z i ∧ z i ≤ 999) {K : Kd} {l : List NestedKey} (hs : l.Sublist (wlk z K)) : PySem.W.AllAlike (l.map kP) ∧ (PySem.W.Sortable (l.map kP) ∨ l.map kP = [.tuple []]) ∧ PyData.depthAll (l.map kP) ≤ K.dep + 1 := by
  have hm : ∀ x ∈ l, x ∈ wlk z K := fun x hx => hs.subset hx
  refine ⟨?_, ?_, depAll_map fun k hk => wlk_depth (hm k hk)⟩
  · intro d hd d' hd'
    obtain ⟨x, hx, rfl⟩ := List.mem_map.mp hd
    obtain ⟨y, hy, rfl⟩ := List.mem_map.mp hd'
    exact wlk_alike (hm x hx) (hm y hy)
  · cases K with
    | base i =>
      refine .inl (.inr fun d hd => ?_)
      obtain ⟨x, hx, rfl⟩ := List.mem_map.mp hd
      obtain ⟨j, _, rfl⟩ := List.mem_map.mp (hm x hx)
      exact ⟨by simp [kP], fun xs => by simp [kP]⟩
    | unit =>
      have hs' : l.Sublist [.tup []] := hs
      cases hs' with
      | cons _ h => have := List.sublist_nil.mp h; subst this; exact .inl (.inl fun d hd => by simp at hd)
      | cons_cons _ h => have := List.sublist_nil.mp h; subst this; right; simp [kP, kPs]
    | both a b =>
      refine .inl (.inl fun d hd => ?_)
      obtain ⟨x, hx, rfl⟩ := List.mem_map.mp hd
      obtain ⟨u, v, rfl, _, _⟩ := in_both (hm x hx)
      exact ⟨_, _, rfl⟩
    | frm a b =>
      refine .inl (.inl fun d hd => ?_)
      obtain ⟨x, hx, rfl⟩ := List.mem_map.mp hd
      obtain ⟨r, rfl, hl, _⟩ := in_frm (hm x hx)
      have := (nm_ok hz a).1
      cases r with
      | nil => simp at hl; omega
      | cons y r => exact ⟨_, _, rfl⟩
theorem sortedE_sub {z : Nat → Nat} (hz : ∀ i, 1 ≤ z i ∧ z i ≤ 999) {K : Kd} {l : List NestedKey} {S : Store} {x : D} (hd : K.dep ≤ 150) (hs : l.Sublist (wlk z K)) (hx : seqL S x = some (l.map kD)) : gSortedE [x] S = .ok (.lst (l.map kD)) S := by
  obtain ⟨c1, c2, c3⟩ := rows_sortable hz hs
  have e1 := pySL_kDs S l
  rw [kDs_map, kPs_map] at e1
  unfold gSortedE
  simp only [hx, e1]
  rw [if_pos ⟨c1, c2, by omega⟩, sort_in_order (List.Pairwise.sublist hs (wlk_lt z K))]
theorem nk_noT' : ∀ k : NestedKey, nk k = true → NS.noT k = true := by
  have key : ∀ n : Nat, (∀ k : NestedKey, sizeOf k < n → nk k = true → NS.noT k = true) ∧ ∀ ks : List NestedKey, sizeOf ks < n → nks ks = true → NS.noTs ks = true := by
    intro n
    induction n with
    | zero => exact ⟨fun k h => by omega, fun k h => by omega⟩
    | succ n ih =>
      refine ⟨fun k h hk => ?_, fun ks h hk => ?_⟩
      · cases k with
        | none => rfl
        | num i => rfl
        | text x => simp [nk] at hk
        | tup ks => simp only [nk] at hk; simp only [NS.noT]; exact ih.2 ks (by simp at h; omega) hk
      · cases ks with
        | nil => rfl
        | cons k ks => simp only [nks, Bool.and_eq_true] at hk; simp only [NS.noTs, Bool.and_eq_true]; exact ⟨ih.1 k (by simp at h; omega) hk.1, ih.2 ks (by simp at h; omega) hk.2⟩
  exact fun k h => (key _).1 k (Nat.lt_succ_self _) h
/-- sorted(set(..)) of all worths -/
theorem sortset_wl {z : Nat → Nat} (hz : ∀ i, 1 ≤ z i ∧ z i ≤ 999) (hz5 : ∀ i, z i ≤ 60) {K : Kd} {S : Store} {x : D} (hd : K.dep ≤ 7) (h : nm z K ≤ 300) (hx : seqL S x = some (wl z K)) : gSortSetK x S = .ok (.lst (wl z K)) S := by
  obtain ⟨c1, c2, c3⟩ := rows_sortable hz (List.Sublist.refl (wlk z K))
  have e2 : keysOf (wl z K) = some (wlk z K) := by rw [← wlk_map, ← kDs_map, keysOf_kDs]
  have e3 := wlk_len hz K (by omega)
  have e1 := pySL_kDs S (wlk z K)
  rw [kDs_map, kPs_map, wlk_map] at e1
  unfold gSortSetK
  simp only [hx, e2, e1]
  rw [if_pos]
  refine ⟨by omega, wlk_nodup z K, ?_⟩
  rcases wlk_hom (z := z) K with g | g
  · left
    refine ⟨?_, c1, c2, by omega, ?_⟩
    · rw [List.all_eq_true]
      intro w hw
      have := wlk_depth hw
      simp [goodK, g w hw, nk_noT' w (wlk_nk hw)]; omega
    · rw [List.pairwise_map]
      exact wlk_lt z K
  · right
    refine ⟨by rw [List.all_eq_true]; exact fun w hw => g w hw, ?_, ?_⟩
    · cases K with
      | base i => have := hz5 i.val; rw [e3]; simp only [nm]; omega
      | unit => simp [wlk]
      | both a b =>
        obtain ⟨w, hw⟩ : ∃ w, w ∈ wlk z (.both a b) := by
          have := (nm_ok hz (.both a b)).1
          exact List.exists_mem_of_length_pos (by omega)
        have := g w hw
        obtain ⟨u, v, rfl, _, _⟩ := in_both hw
        simp [isNumK] at this
      | frm a b =>
        obtain ⟨w, hw⟩ : ∃ w, w ∈ wlk z (.frm a b) := by
          have := (nm_ok hz (.frm a b)).1
          exact List.exists_mem_of_length_pos (by omega)
        have := g w hw
        obtain ⟨r, rfl, _, _⟩ := in_frm hw
        simp [isNumK] at this
    · cases K with
      | base i =>
        rw [wlk, List.map_map, List.pairwise_map]
        refine List.Pairwise.imp (R := fun a b : Nat => a < b) (fun {a b} h => ?_) List.pairwise_lt_range
        show (a : Int) < (b : Int)
        omega
      | unit => simp [wlk]
      | both a b =>
        obtain ⟨w, hw⟩ : ∃ w, w ∈ wlk z (.both a b) := by
          have := (nm_ok hz (.both a b)).1
          exact List.exists_mem_of_length_pos (by omega)
        have := g w hw
        obtain ⟨u, v, rfl, _, _⟩ := in_both hw
        simp [isNumK] at this
      | frm a b =>
        obtain ⟨w, hw⟩ : ∃ w, w ∈ wlk z (.frm a b) := by
          have := (nm_ok hz (.frm a b)).1
          exact List.exists_mem_of_length_pos (by omega)
        have := g w hw
        obtain ⟨r, rfl, _, _⟩ := in_frm hw
        simp [isNumK] at this
theorem gLtD_ii {gt : Bool} {a b : Int} {S : Store} : gLtD gt (.int a) (.int b) S = .ok (.bl (if gt then decide (b < a) else decide (a < b))) S := by
  have h : (PySem.W.alike (PyData.int a) (PyData.int b) = true ∧ PyData.int a ≠ .none ∧ min (PyData.int a).depth (PyData.int b).depth ≤ 190) := ⟨by simp [PySem.W.alike], by simp, by simp [PyData.depth]⟩
  unfold gLtD
  rw [show pyS S (.int a) = some (.int a) from rfl, show pyS S (.int b) = some (.int b) from rfl]
  simp only
  rw [if_pos h, PySem.W.dataLt_int, PySem.W.dataLt_int]
theorem ix_lastD {x : D} {l : List D} (S : Store) : ixR (l ++ [x]) (-1) S = .ok x S := by
  unfold ixR
  rw [atI_last]
/-- the first worth is less than the last one -/
theorem ends_lt {z : Nat → Nat} {K : Kd} (hd : K.dep ≤ 150) (h : 2 ≤ (wlk z K).length) (S : Store) : ∃ a b, ixR (wl z K) 0 S = .ok a S ∧ ixR (wl z K) (-1) S = .ok b S ∧ gLtD false a b S = .ok (.bl true) S := by
  obtain ⟨x, l, e⟩ : ∃ x l, wlk z K = x :: l := by
    cases q : wlk z K with
    | nil => rw [q] at h; simp at h
    | cons x l => exact ⟨x, l, rfl⟩
  have hl : l ≠ [] := fun q => by rw [e, q] at h; simp at h
  obtain ⟨m, y, e2⟩ : ∃ m y, l = m ++ [y] := ⟨l.dropLast, l.getLast hl, (List.dropLast_concat_getLast hl).symm⟩
  have hx : x ∈ wlk z K := by rw [e]; exact List.mem_cons_self
  have hy : y ∈ wlk z K := by rw [e, e2]; simp
  have pw := wlk_lt z K
  rw [e, List.pairwise_cons] at pw
  have lt := pw.1 y (by rw [e2]; simp)
  refine ⟨kD x, kD y, ?_, ?_, ?_⟩
  · rw [← wlk_map, e]
    have := ixR_nat (ds := kD x :: l.map kD) (n := 0) (S := S)
    simpa using this
  · rw [← wlk_map, e, e2, List.map_cons, List.map_append, ← List.cons_append]
    exact ix_lastD S
  · have hc : PySem.W.alike (kP x) (kP y) = true ∧ kP x ≠ .none ∧ min (kP x).depth (kP y).depth ≤ 190 := by
      refine ⟨wlk_alike hx hy, ?_, ?_⟩
      · have := wlk_nk hx
        cases x <;> simp [nk] at this <;> simp [kP]
      · have := wlk_depth hx
        have := depth_kP x
        omega
    unfold gLtD
    rw [pyS_kD, pyS_kD]
    simp only
    rw [if_pos hc]
    have : PySem.W.dataLt (kP x) (kP y) = true := lt
    rw [this]; rfl
end Kz
namespace Kz
open PySem PySem.Spec PyProof.Rows L2 Kw
theorem f2_go {g : D → D → Store → RE D} {a b : FE} {ρ : FEnv} {S S1 S2 : Store} {x y : D} {r : RE D} (h1 : a ρ S = .ok x S1) (h2 : b ρ S1 = .ok y S2) (h3 : g x y S2 = r) : f2 g a b ρ S = r := by
  rw [f2_ap, h1, bnd_ok, h2, bnd_ok, h3]
theorem arg1_go {g : FF} {a : FE} {ρ : FEnv} {S S1 : Store} {x : D} {r : RE D} (h1 : a ρ S = .ok x S1) (h3 : g [x] S1 = r) : fArg g (fCons a fNil) ρ S = r := by
  rw [fArg_ap, fCons_ap, h1, bnd_ok, fNil_ap, bnd_ok, bnd_ok, h3]
theorem arg2_go {g : FF} {a b : FE} {ρ : FEnv} {S S1 S2 : Store} {x y : D} {r : RE D} (h1 : a ρ S = .ok x S1) (h2 : b ρ S1 = .ok y S2) (h3 : g [x, y] S2 = r) : fArg g (fCons a (fCons b fNil)) ρ S = r := by
  rw [fArg_ap, fCons_ap, h1, bnd_ok, fCons_ap, h2, bnd_ok, fNil_ap, bnd_ok, bnd_ok, bnd_ok, h3]
theorem fB_go {a : FE} {ρ : FEnv} {S S1 : Store} {b : Bool} (h : a ρ S = .ok (.bl b) S1) : fB a ρ S = .ok b S1 := by rw [fB_ap, h]; rfl
theorem or_go {ta tb : FT} {ρ : FEnv} {S S1 S2 : Store} {b : Bool} (h1 : ta ρ S = .ok false S1) (h2 : tb ρ S1 = .ok b S2) : fOr ta tb ρ S = .ok b S2 := by rw [fOr_ap, h1]; exact h2
theorem or_yes {ta tb : FT} {ρ : FEnv} {S S1 : Store} (h1 : ta ρ S = .ok true S1) : fOr ta tb ρ S = .ok true S1 := by rw [fOr_ap, h1]; rfl
theorem and_go {a b : FE} {ρ : FEnv} {S S1 : Store} {r : RE D} (h1 : a ρ S = .ok (.bl true) S1) (h2 : b ρ S1 = r) : fAndV a b ρ S = r := by rw [fAndV_ap, h1]; exact h2
theorem gt_go {a b : Int} {S : Store} {c : Bool} (h : decide (b < a) = c) : gLtD true (.int a) (.int b) S = .ok (.bl c) S := by rw [gLtD_ii, ← h]; rfl
theorem sF_le {ns : List Int} (h : ∀ y ∈ ns, y ≤ 60) (i : Nat) : sF ns i ≤ 60 := by
  unfold sF
  rw [List.getD_eq_getElem?_getD]
  cases e : ns[i]? with
  | none => simp
  | some z =>
    have := h z (List.mem_of_getElem? e)
    simp; omega
theorem sizes_same {ns : List Int} {S : Store} {v : Nat} (h : S[v]? = some (.lst (ns.map .int))) : gNe (.loc v) (.lst (ns.map .int)) S = .ok (.bl false) S := by
  have e : (ns.map NestedKey.num).map kD = ns.map .int := by rw [List.map_map]; rfl
  rw [← e] at h ⊢
  exact (same_rows (pyS_locK h) (pyS_lstK S _) (seqL_locK h) (.inl rfl) (fun k hk => by obtain ⟨j, _, rfl⟩ := List.mem_map.mp hk; rfl) (fun k hk => by obtain ⟨j, _, rfl⟩ := List.mem_map.mp hk; simp [NestedKey.depth])).2
section
variable {z : Nat → Nat} {K : Kd} {S : Store} {c : Nat}
/-- all worths beside the same -/
theorem wl_same (hd : K.dep ≤ 140) (h : S[c]? = some (.lst (wl z K))) : gEq (.loc c) (.lst (wl z K)) S = .ok (.bl true) S ∧ gNe (.loc c) (.lst (wl z K)) S = .ok (.bl false) S ∧ gEq (.lst (wl z K)) (.loc c) S = .ok (.bl true) S := by
  rw [← wlk_map] at h ⊢
  have n : ∀ k ∈ wlk z K, nk k = true := fun k hk => wlk_nk hk
  have d : ∀ k ∈ wlk z K, k.depth ≤ 150 := fun k hk => by have := wlk_depth hk; omega
  have a := same_rows (pyS_locK h) (pyS_lstK S _) (seqL_locK h) (.inl rfl) n d
  exact ⟨a.1, a.2, (same_rows (pyS_lstK S _) (pyS_locK h) rfl (.inr ⟨c, rfl⟩) n d).1⟩
theorem take_same (hd : K.dep ≤ 140) (j : Nat) : gEq (.lst ((wl z K).take j)) (.lst ((wl z K).take j)) S = .ok (.bl true) S := by
  rw [← wlk_map, ← List.map_take]
  exact (same_rows (pyS_lstK S _) (pyS_lstK S _) rfl (.inl rfl) (fun k hk => wlk_nk (List.mem_of_mem_take hk)) (fun k hk => by have := wlk_depth (List.mem_of_mem_take hk); omega)).1
end
theorem cutL_take {α : Type} (ds : List α) (a : Nat) (h : a ≤ ds.length) : cutL ds none (some (a : Int)) = ds.take a := by
  have e1 : HT.sIx ds.length 0 none = 0 := rfl
  have e2 : HT.sIx ds.length ds.length (some (a : Int)) = a := by
    show (if (a : Int) < 0 then ((a : Int) + (ds.length : Int)).toNat else min (a : Int).toNat ds.length) = a
    rw [if_neg (by omega)]; omega
  unfold cutL
  rw [e1, e2]; simp
theorem slice_loc {S : Store} {c : Nat} {L : List D} {ρ : FEnv} (h : S[c]? = some (.lst L)) (e : fVar 4 ρ S = .ok (.loc c) S) (hl : 200 ≤ L.length) : fSl (gSl false) (fVar 4) fNone (fSome (fC (.int 200))) ρ S = .ok (.lst (L.take 200)) S := by
  have e2 : gSl false (.loc c) none (some 200) S = .ok (.lst (cutL L none (some 200))) S := by
    show (match seqL S (.loc c) with
      | some ds => if false then RE.ok (D.loc S.length) (S ++ [Cell.lst (cutL ds none (some 200))]) else .ok (.lst (cutL ds none (some 200))) S
      | none => .no) = _
    rw [seqL_locK h]; rfl
  have e3 : cutL L none (some 200) = L.take 200 := cutL_take L 200 hl
  rw [e3] at e2
  rw [fSl_ap, e, bnd_ok, fNone_ap, bnd_ok]
  exact e2
theorem rev_loc {S : Store} {c : Nat} {L : List D} (h : S[c]? = some (.lst L)) : gRev (.loc c) [] S = .ok .non (S.set c (.lst L.reverse)) := by
  simp [gRev, cellM_of h]
noncomputable def pa0 (cl : Fn → FF) : FS := (sSet 2 (fArg (cl .f__law_number) (fCons (fVar 0) (fCons (fVar 1) fNil))))
noncomputable def pa1 (cl : Fn → FF) : FS := (sIf (fOr (fB (f2 (gLtD true) (fVar 2) (fC (.int 5000)))) (fB (f2 (gLtD true) (fArg (cl .f__law_taken) (fCons (fVar 0) (fCons (fVar 1) fNil))) (fC (.int 5000))))) (sRet (fC (.bl true))) sNil)
noncomputable def pa2 (cl : Fn → FF) : FS := (sSet 3 (fArg (gList false) (fCons (fVar 1) fNil)))
noncomputable def pa3 (cl : Fn → FF) : FS := (sSet 4 (fArg (cl .f_worths) (fCons (fVar 0) (fCons (fVar 1) fNil))))
noncomputable def pa4 (cl : Fn → FF) : FS := (sIf (fOr (fNot (fTru (fIsi "list" (fVar 4)))) (fOr (fB (f2 gNe (fArg gLen (fCons (fVar 4) fNil)) (fVar 2))) (fB (f2 gNe (fVar 1) (fVar 3))))) (sRet (fC (.bl false))) sNil)
noncomputable def pa5 (cl : Fn → FF) : FS := (sIf (fB (f2 (gLtD true) (fVar 2) (fC (.int 300)))) (sRet (fAndV (f2 (gLtD false) (f2 gIx (fVar 4) (fC (.int 0))) (f2 gIx (fVar 4) (f1 gNeg (fC (.int 1))))) (f2 gEq (fSl (gSl false) (fVar 4) fNone (fSome (fC (.int 200)))) (fArg gSortedE (fCons (fSl (gSl false) (fVar 4) fNone (fSome (fC (.int 200)))) fNil))))) sNil)
noncomputable def pa6 (cl : Fn → FF) : FS := (sIf (fB (f2 (gLtD true) (fArg (cl .f__law_taken) (fCons (fVar 0) (fCons (fVar 1) fNil))) (fC (.int 300)))) (sRet (f2 gEq (fArg gSortedE (fCons (fVar 4) fNil)) (fVar 4))) sNil)
noncomputable def pa7 (cl : Fn → FF) : FS := (sIf (fOr (fB (f2 gNe (fVar 4) (fArg (cl .f__law_all) (fCons (fVar 0) (fCons (fVar 1) fNil))))) (fB (f2 gNe (fVar 4) (f1 gSortSetK (fVar 4))))) (sRet (fC (.bl false))) sNil)
noncomputable def pa8 (cl : Fn → FF) : FS := (sExp (fMth gRev (fVar 4) fNil))
noncomputable def pa9 (cl : Fn → FF) : FS := (sExp (fMth gAppend (fVar 4) (fCons (fC .non) fNil)))
noncomputable def pa10 (cl : Fn → FF) : FS := (sRet (f2 gEq (fArg (cl .f_worths) (fCons (fVar 0) (fCons (fVar 1) fNil))) (fArg (cl .f__law_all) (fCons (fVar 0) (fCons (fVar 1) fNil)))))
theorem paeq (cl : Fn → FF) : b__law_asked cl = sSeq (pa0 cl) (sSeq (pa1 cl) (sSeq (pa2 cl) (sSeq (pa3 cl) (sSeq (pa4 cl) (sSeq (pa5 cl) (sSeq (pa6 cl) (sSeq (pa7 cl) (sSeq (pa8 cl) (sSeq (pa9 cl) (pa10 cl)))))))))) := rfl
/-- what is asked -/
theorem law_asked {n v : Nat} {ns : List Int} {K : Kd} {S : Store} (hn : 60 ≤ n) (ok : okSz ns) (h60 : ∀ y ∈ ns, y ≤ 60) (at_ : S[v]? = some (.lst (ns.map .int))) (hd : K.dep ≤ 7) (hs : K.sz ≤ 1000) : ev n .f__law_asked [K.d, .loc v] S = .ok (.bl true) S := by
  obtain ⟨m, rfl, h'⟩ := up (d := 59) hn
  have h8 : sizeLine = 16777216 := rfl
  have hz := sF_ok ok
  have sz := szs_cell ok at_
  have eN := law_number sz K (n := m) (by omega)
  have eT := law_taken sz K (n := m) (by omega)
  have eL : gList false [.loc v] S = .ok (.lst (ns.map .int)) S := by simp [gList, seqA, cellOf_of at_]
  rw [ev, fnC_ap]
  have fin : ∀ T, fnB 2 5 (b__law_asked (ev m)) [K.d, .loc v] S = .ok (.bl true) (S ++ T) → cutR S (fnB 2 5 (b__law_asked (ev m)) [K.d, .loc v] S) = .ok (.bl true) S := fun T h => by rw [h]; exact cut_ok T rfl
  have start : fnB 2 5 (b__law_asked (ev m)) [K.d, .loc v] S = (sSeq (pa0 (ev m)) (sSeq (pa1 (ev m)) (sSeq (pa2 (ev m)) (sSeq (pa3 (ev m)) (sSeq (pa4 (ev m)) (sSeq (pa5 (ev m)) (sSeq (pa6 (ev m)) (sSeq (pa7 (ev m)) (sSeq (pa8 (ev m)) (sSeq (pa9 (ev m)) (pa10 (ev m)))))))))))
      [some K.d, some (.loc v), none, none, none] S).fin := by rw [paeq, fnB_2]; rfl
  have s0 : pa0 (ev m) [some K.d, some (.loc v), none, none, none] S = .nx [some K.d, some (.loc v), some (.int ((nm (sF ns) K : Nat) : Int)), none, none] S := set_go (arg2_go rfl rfl eN)
  by_cases big : 5000 < nm (sF ns) K ∨ 5000 < tk (sF ns) K
  · refine fin [] ?_
    rw [start, seq_go s0, seq_rt (S' := S) (d := .bl true), List.append_nil]
    · rfl
    · unfold pa1
      rw [if_yes (S' := S)]
      · exact ret_go rfl
      · rcases big with big | big
        · exact or_yes (fB_go (f2_go rfl rfl (gt_go (by rw [decide_eq_true_eq]; omega))))
        · by_cases b1 : 5000 < nm (sF ns) K
          · exact or_yes (fB_go (f2_go rfl rfl (gt_go (by rw [decide_eq_true_eq]; omega))))
          · exact or_go (fB_go (f2_go rfl rfl (gt_go (c := false) (by rw [decide_eq_false_iff_not]; omega)))) (fB_go (f2_go (arg2_go rfl rfl eT) rfl (gt_go (by rw [decide_eq_true_eq]; omega))))
  have n5 : nm (sF ns) K ≤ 5000 := by omega
  have t5 : tk (sF ns) K ≤ 5000 := by omega
  obtain ⟨T, c, hc, e1, e2⟩ := worths_c (n := m) (z := sF ns) (x := .loc v) (S := S) (k := K) (sza_cell ok at_) (by omega) (fun q hq => sizes_sure ok at_ (by omega)) (by omega) t5 n5
  have s1 : pa1 (ev m) [some K.d, some (.loc v), some (.int ((nm (sF ns) K : Nat) : Int)), none, none] S = .nx [some K.d, some (.loc v), some (.int ((nm (sF ns) K : Nat) : Int)), none, none] S := by
    unfold pa1
    exact if_no (or_go (fB_go (f2_go rfl rfl (gt_go (c := false) (by rw [decide_eq_false_iff_not]; omega)))) (fB_go (f2_go (arg2_go rfl rfl eT) rfl (gt_go (c := false) (by rw [decide_eq_false_iff_not]; omega)))))
  have s2 : pa2 (ev m) [some K.d, some (.loc v), some (.int ((nm (sF ns) K : Nat) : Int)), none, none] S = .nx [some K.d, some (.loc v), some (.int ((nm (sF ns) K : Nat) : Int)), some (.lst (ns.map .int)), none] S := set_go (arg1_go rfl eL)
  have s3 : pa3 (ev m) [some K.d, some (.loc v), some (.int ((nm (sF ns) K : Nat) : Int)), some (.lst (ns.map .int)), none] S = .nx [some K.d, some (.loc v), some (.int ((nm (sF ns) K : Nat) : Int)), some (.lst (ns.map .int)), some (.loc c)] (S ++ T) := set_go (arg2_go rfl rfl e1)
  have at1 := at_app at_ T
  have sz1 := szs_cell ok at1
  have eT1 := law_taken sz1 K (n := m) (by omega)
  have ll := wl_len hz K n5
  have same := wl_same (z := sF ns) (K := K) (by omega) e2
  have gl : gLen [.loc c] (S ++ T) = .ok (.int ((nm (sF ns) K : Nat) : Int)) (S ++ T) := by simp [gLen, seqA, cellOf_of e2, ll]
  have s4 : pa4 (ev m) [some K.d, some (.loc v), some (.int ((nm (sF ns) K : Nat) : Int)), some (.lst (ns.map .int)), some (.loc c)] (S ++ T) = .nx [some K.d, some (.loc v), some (.int ((nm (sF ns) K : Nat) : Int)), some (.lst (ns.map .int)), some (.loc c)] (S ++ T) := by
    unfold pa4
    refine if_no (or_go (S1 := S ++ T) ?_ (or_go (fB_go (b := false) (f2_go (arg1_go rfl gl) rfl (by simp))) (fB_go (f2_go rfl rfl (sizes_same at1)))))
    have := isi_loc (T := "list") (cellOf_of e2)
    simp [this]
  by_cases b3 : 300 < nm (sF ns) K
  · refine fin T ?_
    rw [start, seq_go s0, seq_go s1, seq_go s2, seq_go s3, seq_go s4, seq_rt (S' := S ++ T) (d := .bl true)]
    · rfl
    · unfold pa5
      rw [if_yes (S' := S ++ T) (fB_go (f2_go rfl rfl (gt_go (by rw [decide_eq_true_eq]; omega))))]
      obtain ⟨a, b, i1, i2, lt⟩ := ends_lt (z := sF ns) (K := K) (by omega) (by rw [wlk_len hz K n5]; omega) (S ++ T)
      have sl := slice_loc (ρ := [some K.d, some (.loc v), some (.int ((nm (sF ns) K : Nat) : Int)), some (.lst (ns.map .int)), some (.loc c)]) e2 rfl (by omega)
      refine ret_go (and_go (f2_go (f2_go rfl rfl (by rw [gIx_loc (cellOf_of e2)]; exact i1)) (f2_go rfl (S2 := S ++ T) (y := .int (-1)) rfl (by rw [gIx_loc (cellOf_of e2)]; exact i2)) lt) (f2_go sl (arg1_go sl ?_) (take_same (by omega) 200)))
      have := sortedE_sub hz (K := K) (l := (wlk (sF ns) K).take 200) (S := S ++ T) (x := .lst ((wl (sF ns) K).take 200)) (by omega) (List.take_sublist _ _) (by rw [List.map_take, wlk_map]; rfl)
      rw [List.map_take, wlk_map] at this
      exact this
  have s5 : pa5 (ev m) [some K.d, some (.loc v), some (.int ((nm (sF ns) K : Nat) : Int)), some (.lst (ns.map .int)), some (.loc c)] (S ++ T) = .nx [some K.d, some (.loc v), some (.int ((nm (sF ns) K : Nat) : Int)), some (.lst (ns.map .int)), some (.loc c)] (S ++ T) := by
    unfold pa5
    exact if_no (fB_go (f2_go rfl rfl (gt_go (c := false) (by rw [decide_eq_false_iff_not]; omega))))
  by_cases b4 : 300 < tk (sF ns) K
  · refine fin T ?_
    rw [start, seq_go s0, seq_go s1, seq_go s2, seq_go s3, seq_go s4, seq_go s5, seq_rt (S' := S ++ T) (d := .bl true)]
    · rfl
    · unfold pa6
      rw [if_yes (S' := S ++ T) (fB_go (f2_go (arg2_go rfl rfl eT1) rfl (gt_go (by rw [decide_eq_true_eq]; omega))))]
      have srt := sortedE_sub hz (K := K) (l := wlk (sF ns) K) (S := S ++ T) (x := .loc c) (by omega) (List.Sublist.refl _) (by rw [wlk_map]; exact seqL_locK e2)
      rw [wlk_map] at srt
      exact ret_go (f2_go (arg1_go rfl srt) rfl same.2.2)
  have s6 : pa6 (ev m) [some K.d, some (.loc v), some (.int ((nm (sF ns) K : Nat) : Int)), some (.lst (ns.map .int)), some (.loc c)] (S ++ T) = .nx [some K.d, some (.loc v), some (.int ((nm (sF ns) K : Nat) : Int)), some (.lst (ns.map .int)), some (.loc c)] (S ++ T) := by
    unfold pa6
    exact if_no (fB_go (f2_go (arg2_go rfl rfl eT1) rfl (gt_go (c := false) (by rw [decide_eq_false_iff_not]; omega))))
  have la := law_all_ok sz1 K (n := m) (by omega) t5 n5
  have ss := sortset_wl hz (sF_le h60) (K := K) (S := S ++ T) (x := .loc c) hd (by omega) (seqL_locK e2)
  have s7 : pa7 (ev m) [some K.d, some (.loc v), some (.int ((nm (sF ns) K : Nat) : Int)), some (.lst (ns.map .int)), some (.loc c)] (S ++ T) = .nx [some K.d, some (.loc v), some (.int ((nm (sF ns) K : Nat) : Int)), some (.lst (ns.map .int)), some (.loc c)] (S ++ T) := by
    unfold pa7
    refine if_no (or_go (fB_go (f2_go rfl (arg2_go rfl rfl la) same.2.1)) (fB_go (f2_go rfl ?_ same.2.1)))
    rw [f1_ap]
    exact ss
  have hcl := lt_of_at e2
  have hvl := lt_of_at at_
  have s8 : pa8 (ev m) [some K.d, some (.loc v), some (.int ((nm (sF ns) K : Nat) : Int)), some (.lst (ns.map .int)), some (.loc c)] (S ++ T) = .nx [some K.d, some (.loc v), some (.int ((nm (sF ns) K : Nat) : Int)), some (.lst (ns.map .int)), some (.loc c)] ((S ++ T).set c (.lst (wl (sF ns) K).reverse)) := by
    unfold pa8
    have r1 := rev_loc e2
    have q1 := cellOf_of e2
    generalize S ++ T = U at *
    simp [mthR, seqL, q1, r1]
  have e3 : ((S ++ T).set c (.lst (wl (sF ns) K).reverse))[c]? = some (.lst (wl (sF ns) K).reverse) := List.getElem?_set_self hcl
  have s9 : pa9 (ev m) [some K.d, some (.loc v), some (.int ((nm (sF ns) K : Nat) : Int)), some (.lst (ns.map .int)), some (.loc c)] ((S ++ T).set c (.lst (wl (sF ns) K).reverse)) = .nx [some K.d, some (.loc v), some (.int ((nm (sF ns) K : Nat) : Int)), some (.lst (ns.map .int)), some (.loc c)] ((S ++ T).set c (.lst ((wl (sF ns) K).reverse ++ [.non]))) := by
    unfold pa9
    have r1 := gAppend_loc (d := .non) (cellM_of e3) (by rw [List.length_reverse]; omega)
    have q1 := cellOf_of e3
    rw [List.set_set] at r1
    generalize (S ++ T).set c (.lst (wl (sF ns) K).reverse) = U at *
    simp [mthR, seqL, q1, r1]
  have spl : ∀ x : Cell, (S ++ T).set c x = S ++ T.set (c - S.length) x := fun x => by rw [List.set_append, if_neg (by omega)]
  rw [spl (Cell.lst ((wl (sF ns) K).reverse ++ [D.non]))] at s9
  generalize T.set (c - S.length) (Cell.lst ((wl (sF ns) K).reverse ++ [D.non])) = T2 at s9
  have at2 := at_app at_ T2
  obtain ⟨T3, c3, hc3, e4, e5⟩ := worths_c (n := m) (z := sF ns) (x := .loc v) (S := S ++ T2) (k := K) (sza_cell ok at2) (by omega) (fun q hq => sizes_sure ok at2 (by omega)) (by omega) t5 n5
  have la3 := law_all_ok (szs_cell ok (at_app at2 T3)) K (n := m) (by omega) t5 n5
  refine fin (T2 ++ T3) ?_
  rw [start, seq_go s0, seq_go s1, seq_go s2, seq_go s3, seq_go s4, seq_go s5, seq_go s6, seq_go s7, seq_go s8, seq_go s9]
  unfold pa10
  rw [ret_go (f2_go (arg2_go rfl rfl e4) (arg2_go rfl rfl la3) (wl_same (by omega) e5).1), List.append_assoc]
  rfl
end Kz
namespace Kz
open PySem PySem.Spec PyProof.Rows L2 Kw
theorem ints_list {ns : List Int} (h : okSz ns) (S : Store) : Szs (sF ns) (.lst (ns.map .int)) S := ⟨sF_ok h, fun i => ix_ints h i S⟩
theorem sizes_list {n : Nat} {ns : List Int} (h : okSz ns) {S : Store} (hn : 2 ≤ n) : ev n .f_sure_sizes [.lst (ns.map .int)] S = .ok .non S := by
  obtain ⟨m, rfl, h'⟩ := up hn
  have h8 : sizeLine = 16777216 := rfl
  have hm := compL_map (tg := gN 2) (tt := fYes) (te := fArg (ev m .f_is_from) (fCons (fVar 2) (fCons (fC (.int 1)) (fCons (fC (.int 999)) fNil)))) (ρ := [some (.lst (ns.map .int)), some (.bl true), none]) (S := S) (gg := none) (fun _ => .bl true) gd_non (ns.map .int) [] (fun d hd => by
    obtain ⟨z, hz, rfl⟩ := List.mem_map.mp hd
    have := h.2 z hz
    refine ⟨[some (.lst (ns.map .int)), some (.bl true), some (.int z)], by simp, rfl, ?_⟩
    simp [is_from_int h', this]) (by simp [h.1])
  have hl : gLen [.lst (ns.map .int)] S = .ok (.int 8) S := by simp [gLen, seqA, h.1]
  have e1 : (ns.map D.int).map (fun _ => D.bl true) = (ns.map (fun _ => true)).map D.bl := by simp
  rw [e1] at hm
  have e2 : gAll [D.lst ((ns.map (fun _ => true)).map D.bl)] S = .ok (.bl true) S := by
    rw [gAll_lst]; simp
  have hit : Kw.itL (.lst (ns.map .int)) S = .ok (ns.map .int, none) S := rfl
  rw [ev, b_sure_sizes]
  simp at hm
  simp at e2
  simp at hl
  simp at hit
  simp [hl, hit, wipeR, hm, e2]
theorem okSz_set {ns : List Int} {i : Nat} {z : Int} (h : okSz ns) (h1 : 1 ≤ z) (h2 : z ≤ 999) : okSz (ns.set i z) := by
  refine ⟨by simp [h.1], fun y hy => ?_⟩
  rcases List.mem_or_eq_of_mem_set hy with hy | rfl
  · exact h.2 y hy
  · exact ⟨h1, h2⟩
theorem sF_set {ns : List Int} {i : Nat} {z : Int} (h : i < ns.length) : sF (ns.set i z) i = z.toNat := by
  unfold sF
  rw [List.getD_eq_getElem?_getD, List.getElem?_set_self h]; rfl
theorem sF_ne {ns : List Int} {i j : Nat} {z : Int} (h : i ≠ j) : sF (ns.set i z) j = sF ns j := by
  unfold sF
  rw [List.getD_eq_getElem?_getD, List.getD_eq_getElem?_getD, List.getElem?_set_ne h]
theorem map_set' (ns : List Int) (i : Nat) (z : Int) : (ns.map D.int).set i (.int z) = (ns.set i z).map D.int := by rw [List.map_set]
theorem rng_lo : ∀ (n : Nat) (lo : Int), rngD lo n = (List.range n).map fun (i : Nat) => D.int (lo + (i : Int))
  | 0, _ => rfl
  | n + 1, lo => by
    rw [rngD, rng_lo n, List.range_succ_eq_map, List.map_cons, List.map_map]
    congr 1
    · simp
    · refine List.map_congr_left fun i _ => ?_
      simp; omega
theorem rng_at (n : Nat) : rngD 0 n = (List.range n).map fun (i : Nat) => D.int (i : Int) := by
  rw [rng_lo]
  refine List.map_congr_left fun i _ => ?_
  simp
theorem fiR1_go {f : FE} {ρ : FEnv} {S S1 : Store} {n : Nat} (h : f ρ S = .ok (.int (n : Int)) S1) (hn : n ≤ 100000) : fiR1 (fCons f fNil) ρ S = .ok (rngD 0 n, none) S1 := by
  have r : -(2 ^ 62) ≤ (n : Int) ∧ (n : Int) < 2 ^ 62 := by
    have e : (2 : Int) ^ 62 = 4611686018427387904 := by decide
    rw [e]; omega
  unfold fiR1
  rw [fCons_ap, h, bnd_ok, fNil_ap, bnd_ok, bnd_ok]
  simp only
  rw [if_pos r]
  rfl
theorem par_go {i j : Nat} {a b : FE} {ρ : FEnv} {S S1 S2 : Store} {x y : D} (h1 : a ρ S = .ok x S1) (h2 : b ρ S1 = .ok y S2) : sPar i j (fCons a (fCons b fNil)) ρ S = .nx ((ρ.set i (some x)).set j (some y)) S2 := by
  rw [sPar_ap', fCons_ap, h1, bnd_ok, fCons_ap, h2, bnd_ok, fNil_ap, bnd_ok, bnd_ok, toS_ok, par2_ap]
theorem asg_go {f : FE} {g : FG} {ρ ρ' : FEnv} {S S1 S2 : Store} {d : D} (h1 : f ρ S = .ok d S1) (h2 : g d ρ S1 = some (ρ', S2)) : sAsg f g ρ S = .nx ρ' S2 := by
  rw [sAsg_ap, h1, toS_ok, h2]; rfl
noncomputable def pg0 (cl : Fn → FF) : FS := (sPar 1 2 (fCons (fArg (cl .f__law_draw) (fCons (fVar 0) (fCons (fC (.int 8)) fNil))) (fCons (fArg (cl .f__law_draw) (fCons (fVar 0) (fCons (fC (.int 8)) fNil))) fNil)))
noncomputable def pg1 (cl : Fn → FF) : FS := (sSet 3 (fLc true (fiR1 (fCons (fC (.int 8)) fNil)) (gN 6) fYes (f2 (gAdd false) (fC (.int 2)) (fArg (cl .f__law_draw) (fCons (fVar 0) (fCons (fC (.int 60)) fNil)))) [6]))
noncomputable def pg2 (cl : Fn → FF) : FS := (sAsg (fArg (cl .f__law_one) (fCons (fVar 0) (fCons (fArg mkLst (fCons (f2 (gAdd false) (fC (.int 11)) (fArg (cl .f__law_draw) (fCons (fVar 0) (fCons (fC (.int 9)) fNil)))) (fCons (fC (.int 70)) (fCons (fC (.int 999)) fNil)))) fNil))) (gSb (fVar 3) (fVar 1)))
noncomputable def pg3 (cl : Fn → FF) : FS := (sIf (fB (f2 gNe (fArg (cl .f_worths) (fCons (fArg mkTup (fCons (fC (.str "base")) (fCons (fVar 1) fNil))) (fCons (fVar 3) fNil))) (f1 gRng (f2 gIx (fVar 3) (fVar 1))))) (sRet (fC (.bl false))) sNil)
noncomputable def pg4 (cl : Fn → FF) : FS := (sIf (fB (f2 (gCmp fun i j => decide (j < i)) (f2 gIx (fVar 3) (fVar 1)) (fC (.int 70)))) (sAsg (fC (.int 20)) (gSb (fVar 3) (fVar 1))) sNil)
noncomputable def pg5 (cl : Fn → FF) : FS := (sSet 4 (fArg mkLst fNil))
noncomputable def pg6 (cl : Fn → FF) : FS := (sFor (fiR1 (fCons (f2 gIx (fVar 3) (fVar 1)) fNil)) (gN 5) (l__law_great_right_0 cl))
noncomputable def pg7 (cl : Fn → FF) : FS := (sIf (fOr (fB (f2 (gCmp fun i j => decide (j < i)) (fArg (cl .f__law_draw) (fCons (fVar 0) (fCons (fC (.int 3)) fNil))) (fC (.int 0)))) (fB (f2 (gCmp fun i j => decide (j < i)) (fArg gLen (fCons (fVar 4) fNil)) (fC (.int 5000))))) (sRet (fC (.bl true))) sNil)
noncomputable def pg8 (cl : Fn → FF) : FS := (sIf (fB (f2 gNe (fArg (cl .f_worths) (fCons (fArg mkTup (fCons (fC (.str "both")) (fCons (fArg mkTup (fCons (fC (.str "base")) (fCons (fVar 1) fNil))) (fCons (fArg mkTup (fCons (fC (.str "base")) (fCons (fVar 2) fNil))) fNil)))) (fCons (fVar 3) fNil))) (fVar 4))) (sRet (fC (.bl false))) sNil)
noncomputable def pg9 (cl : Fn → FF) : FS := (sRet (f2 gEq (fArg (cl .f_worths) (fCons (fArg mkTup (fCons (fC (.str "from")) (fCons (fArg mkTup (fCons (fC (.str "both")) (fCons (fArg mkTup (fCons (fC (.str "unit")) fNil)) (fCons (fArg mkTup (fCons (fC (.str "base")) (fCons (fVar 2) fNil))) fNil)))) (fCons (fArg mkTup (fCons (fC (.str "unit")) fNil)) fNil)))) (fCons (fVar 3) fNil))) (fArg mkLst (fCons (f2 gMulT (fArg mkTup (fCons (fArg mkTup fNil) fNil)) (f2 gIx (fVar 3) (fVar 2))) fNil))))
theorem pgeq (cl : Fn → FF) : b__law_great_right cl = sSeq (pg0 cl) (sSeq (pg1 cl) (sSeq (pg2 cl) (sSeq (pg3 cl) (sSeq (pg4 cl) (sSeq (pg5 cl) (sSeq (pg6 cl) (sSeq (pg7 cl) (sSeq (pg8 cl) (pg9 cl))))))))) := rfl
theorem great_row {m v : Nat} {S : Store} {x0 x1 x6 x7 : Option D} {x : D} {acc : List D} {z : Nat → Nat} {q : _root_.Fin 8} (sz : Szs z (.loc v) S) (hq : z q.val ≤ 999) (hl : acc.length ≤ 100000) :
    l__law_great_right_0 (ev m) [x0, x1, some (.int (q.val : Int)), some (.loc v), some (.lst acc), some x, x6, x7] S = .nx [x0, x1, some (.int (q.val : Int)), some (.loc v), some (.lst (acc ++ (wl z (.base q)).map fun y => .tup [x, y])), some x, x6, x7] S := by
  have h8 : sizeLine = 16777216 := rfl
  have ll : (rngD 0 (z q.val)).length = z q.val := rngD_length _ _
  have hm := compL_map (tg := gN 7) (tt := fYes) (te := fArg mkTup (fCons (fVar 5) (fCons (fVar 7) fNil))) (ρ := [x0, x1, some (.int (q.val : Int)), some (.loc v), some (.lst acc), some x, x6, none]) (S := S) (gg := none) (fun y => .tup [x, y]) gd_non (rngD 0 (z q.val)) [] (fun y hy => ⟨[x0, x1, some (.int (q.val : Int)), some (.loc v), some (.lst acc), some x, x6, some y], rfl, rfl, by simp [h8]⟩) (by simp only [List.length_nil]; omega)
  have fi := fiR1_go (f := f2 gIx (fVar 3) (fVar 2)) (ρ := [x0, x1, some (.int (q.val : Int)), some (.loc v), some (.lst acc), some x, x6, x7]) (S := S) (n := z q.val) (f2_go rfl rfl (sz.ix q)) (by omega)
  have e : fLc false (fiR1 (fCons (f2 gIx (fVar 3) (fVar 2)) fNil)) (gN 7) fYes (fArg mkTup (fCons (fVar 5) (fCons (fVar 7) fNil))) [7] [x0, x1, some (.int (q.val : Int)), some (.loc v), some (.lst acc), some x, x6, x7] S = .ok (.lst ((rngD 0 (z q.val)).map fun y => .tup [x, y])) S := by
    rw [fLc_ap, fi, bnd_ok]
    show lcR false (compL _ _ _ none [x0, x1, some (.int (q.val : Int)), some (.loc v), some (.lst acc), some x, x6, none] (rngD 0 (z q.val)) [] S) = _
    rw [hm]; rfl
  have w : wl z (.base q) = rngD 0 (z q.val) := (rng_at _).symm
  rw [l__law_great_right_0, w]
  exact set_go (add_go rfl e (by rw [List.length_map]; omega))
theorem great_loop {m v : Nat} {S : Store} {x0 x1 x6 x7 : Option D} {z : Nat → Nat} {q : _root_.Fin 8} (sz : Szs z (.loc v) S) (hq : z q.val ≤ 70) : ∀ (us acc : List D) (x5 : Option D), acc.length + us.length * 70 ≤ 90000 →
    ∃ y5, forL (gN 5) (l__law_great_right_0 (ev m)) none us [x0, x1, some (.int (q.val : Int)), some (.loc v), some (.lst acc), x5, x6, x7] S = .nx [x0, x1, some (.int (q.val : Int)), some (.loc v), some (.lst (acc ++ us.flatMap fun x => (wl z (.base q)).map fun y => .tup [x, y])), y5, x6, x7] S
  | [], acc, x5, _ => ⟨x5, by simp⟩
  | u :: us, acc, x5, h1 => by
    have lw : (wl z (.base q)).length = z q.val := by simp [wl]
    simp only [List.length_cons, Nat.succ_mul] at h1
    obtain ⟨y5, e⟩ := great_loop sz hq us (acc ++ (wl z (.base q)).map fun y => .tup [u, y]) (some u) (by rw [List.length_append, List.length_map]; omega)
    refine ⟨y5, ?_⟩
    rw [forL_cons]
    have e1 : gN 5 u [x0, x1, some (.int (q.val : Int)), some (.loc v), some (.lst acc), x5, x6, x7] S = some ([x0, x1, some (.int (q.val : Int)), some (.loc v), some (.lst acc), some u, x6, x7], S) := rfl
    rw [e1, tgR_some, great_row sz (by omega) (by omega), loopR_nx, e, List.flatMap_cons, List.append_assoc]
theorem LL_one (t : D) : ∀ n, LL [t] n = [List.replicate n t]
  | 0 => rfl
  | n + 1 => by rw [LL, LL_one t n, List.replicate_succ']; rfl
theorem fin_of {r : Int} (h0 : 0 ≤ r) (h1 : r < 8) : ∃ p : _root_.Fin 8, (p.val : Int) = r := ⟨⟨r.toNat, by omega⟩, by simp; omega⟩
theorem great_right {n w : Nat} {S : Store} (hn : 60 ≤ n) (hw : Well S w) : ∃ S', ev n .f__law_great_right [.loc w] S = .ok (.bl true) S' ∧ WS S w S' := by
  obtain ⟨m, rfl, h'⟩ := up (d := 59) hn
  have h8 : sizeLine = 16777216 := rfl
  have hwl : w < S.length := by obtain ⟨_, _, _, _, _, _, _, at_⟩ := hw; exact lt_of_at at_
  obtain ⟨r1, S1, e1, a1, b1, w1⟩ := draw_sp (n := m) (S := S) (w := w) (m := 8) (by omega) hw (by decide) (by decide)
  obtain ⟨r2, S2, e2, a2, b2, w2⟩ := draw_sp (n := m) (S := S1) (w := w) (m := 8) (by omega) w1.well (by decide) (by decide)
  obtain ⟨p, rfl⟩ := fin_of a1 b1
  obtain ⟨q, rfl⟩ := fin_of a2 b2
  have s0 : pg0 (ev m) [some (.loc w), none, none, none, none, none, none, none] S = .nx [some (.loc w), some (.int (p.val : Int)), some (.int (q.val : Int)), none, none, none, none, none] S2 := par_go (arg2_go rfl rfl e1) (arg2_go rfl rfl e2)
  -- the sizes
  obtain ⟨acc, S3, hm, ⟨ws3, all3⟩, l3⟩ := compL_inv (tg := gN 6) (tt := fYes) (te := f2 (gAdd false) (fC (.int 2)) (fArg (ev m .f__law_draw) (fCons (fVar 0) (fCons (fC (.int 60)) fNil)))) (ρ := [some (.loc w), some (.int (p.val : Int)), some (.int (q.val : Int)), none, none, none, none, none])
    (fun T acc => WS S w T ∧ ∀ d ∈ acc, ∃ i : Int, d = .int i ∧ 2 ≤ i ∧ i ≤ 61) (rngD 0 8) [] S2 (fun d _ T acc ⟨hT, ha⟩ => by
      obtain ⟨r, T', e, r0, r9, wT⟩ := draw_sp (n := m) (S := T) (w := w) (m := 60) (by omega) hT.well (by decide) (by decide)
      refine ⟨[some (.loc w), some (.int (p.val : Int)), some (.int (q.val : Int)), none, none, none, some d, none], .int (2 + r), T', rfl, rfl, f2_go rfl (arg2_go rfl rfl e) rfl, hT.trans wT, fun x hx => ?_⟩
      rcases List.mem_append.mp hx with hx | hx
      · exact ha x hx
      · exact ⟨2 + r, by simpa using hx, by omega, by omega⟩) ⟨w1.trans w2, fun d hd => nomatch hd⟩ (by rw [rngD_length]; simp)
  obtain ⟨ns, rfl⟩ : ∃ ns : List Int, acc = ns.map .int := by
    clear hm l3
    induction acc with
    | nil => exact ⟨[], rfl⟩
    | cons d acc ih =>
      obtain ⟨i, rfl, _, _⟩ := all3 d List.mem_cons_self
      obtain ⟨ns, e⟩ := ih fun x hx => all3 x (List.mem_cons_of_mem _ hx)
      exact ⟨i :: ns, by rw [e]; rfl⟩
  have ln : ns.length = 8 := by rw [rngD_length] at l3; simpa using l3
  have hns : ∀ y ∈ ns, 2 ≤ y ∧ y ≤ 61 := fun y hy => by
    obtain ⟨i, e, h1, h2⟩ := all3 (.int y) (List.mem_map.mpr ⟨y, hy, rfl⟩)
    cases e; exact ⟨h1, h2⟩
  have ok3 : okSz ns := ⟨ln, fun y hy => by have := hns y hy; omega⟩
  obtain ⟨v, hv⟩ : ∃ v, v = S3.length := ⟨_, rfl⟩
  have l3' := ws3.len
  have hvw : w ≠ v := by omega
  have at4 : (S3 ++ [Cell.lst (ns.map .int)])[v]? = some (.lst (ns.map .int)) := by subst hv; exact at_new _ _
  have s1 : pg1 (ev m) [some (.loc w), some (.int (p.val : Int)), some (.int (q.val : Int)), none, none, none, none, none] S2 = .nx [some (.loc w), some (.int (p.val : Int)), some (.int (q.val : Int)), some (.loc v), none, none, none, none] (S3 ++ [.lst (ns.map .int)]) := by
    unfold pg1
    refine set_go ?_
    rw [fLc_ap, fiR1_go (n := 8) (S1 := S2) rfl (by omega), bnd_ok]
    show lcR true (compL _ _ _ none [some (.loc w), some (.int (p.val : Int)), some (.int (q.val : Int)), none, none, none, none, none] (rngD 0 8) [] S2) = _
    rw [hm, lcR_t, hv]
  have wx4 : WX S w (S3 ++ [Cell.lst (ns.map .int)]) := ws3.wx.app
  generalize S3 ++ [Cell.lst (ns.map .int)] = S4 at s1 at4 wx4
  obtain ⟨r5, S5, e5, a5, b5, w5⟩ := draw_sp (n := m) (S := S4) (w := w) (m := 9) (by omega) wx4.well (by decide) (by decide)
  obtain ⟨d, S6, e6, hd, w6⟩ := one_sp (n := m) (S := S5) (w := w) (ds := [.int (11 + r5), .int 70, .int 999]) (by omega) w5.well (by simp) (by simp)
  obtain ⟨s, rfl, hs1, hs9⟩ : ∃ s : Int, d = .int s ∧ 11 ≤ s ∧ s ≤ 999 := by
    simp only [List.mem_cons, List.not_mem_nil, or_false] at hd
    rcases hd with rfl | rfl | rfl
    · exact ⟨_, rfl, by omega, by omega⟩
    · exact ⟨_, rfl, by omega, by omega⟩
    · exact ⟨_, rfl, by omega, by omega⟩
  have at6 : S6[v]? = some (.lst (ns.map .int)) := by rw [(w5.trans w6).same v (Ne.symm hvw)]; exact at4
  have wx6 : WX S w S6 := (wx4.trans w5.wx).trans w6.wx
  have pl : p.val < ns.length := by rw [ln]; exact p.isLt
  have ok7 : okSz (ns.set p.val s) := okSz_set ok3 (by omega) hs9
  have at7 : (S6.set v (.lst ((ns.set p.val s).map .int)))[v]? = some (.lst ((ns.set p.val s).map .int)) := List.getElem?_set_self (lt_of_at at6)
  have s2 : pg2 (ev m) [some (.loc w), some (.int (p.val : Int)), some (.int (q.val : Int)), some (.loc v), none, none, none, none] S4 = .nx [some (.loc w), some (.int (p.val : Int)), some (.int (q.val : Int)), some (.loc v), none, none, none, none] (S6.set v (.lst ((ns.set p.val s).map .int))) := by
    unfold pg2
    refine asg_go (d := .int s) (S1 := S6) ?_ ?_
    · refine arg2_go (y := .lst [.int (11 + r5), .int 70, .int 999]) (S2 := S5) rfl ?_ e6
      rw [fArg_ap, fCons_ap, f2_go (S2 := S5) (r := .ok (.int (11 + r5)) S5) rfl (arg2_go rfl rfl e5) rfl]
      simp [h8]
    · rw [gSb_loc rfl rfl at6 (by rw [List.length_map]; exact pl), map_set']
  have wx7 : WX S w (S6.set v (.lst ((ns.set p.val s).map .int))) := wx6.set (by omega) hwl
  have zq7 : ∀ i : _root_.Fin 8, p ≠ i → 2 ≤ sF (ns.set p.val s) i.val ∧ sF (ns.set p.val s) i.val ≤ 61 := fun i hi => by
    rw [sF_ne (fun e => hi (_root_.Fin.ext e))]
    unfold sF
    rw [List.getD_eq_getElem?_getD]
    cases e : ns[i.val]? with
    | none =>
      have := List.getElem?_eq_none_iff.mp e
      have := i.isLt
      omega
    | some y => have := hns y (List.mem_of_getElem? e); simp; omega
  have zp7 : sF (ns.set p.val s) p.val = s.toNat := sF_set pl
  have ln7 : (ns.set p.val s).length = 8 := by simp [ln]
  generalize S6.set v (.lst ((ns.set p.val s).map .int)) = S7 at s2 at7 wx7
  generalize ns.set p.val s = ns7 at s2 at7 ok7 zq7 zp7 ln7
  -- the base alone
  have sz7 := szs_cell ok7 at7
  have bo := sz7.ok p.val
  obtain ⟨T1, c1, hc1, f1, g1⟩ := worths_c (n := m) (z := sF ns7) (x := .loc v) (S := S7) (k := .base p) (sza_cell ok7 at7) (by simp [Kd.dep]; omega) (fun j hj => sizes_sure ok7 at7 (by omega)) (by simp [Kd.sz]) (by simp [tk]) (by simp only [nm]; omega)
  have sz8 := szs_cell ok7 (at_app at7 T1)
  have rg : gRng (.int ((sF ns7 p.val : Nat) : Int)) (S7 ++ T1) = .ok (.lst (wl (sF ns7) (.base p))) (S7 ++ T1) := gRng_nat (by omega)
  have s3 : pg3 (ev m) [some (.loc w), some (.int (p.val : Int)), some (.int (q.val : Int)), some (.loc v), none, none, none, none] S7 = .nx [some (.loc w), some (.int (p.val : Int)), some (.int (q.val : Int)), some (.loc v), none, none, none, none] (S7 ++ T1) := by
    unfold pg3
    refine if_no (fB_go (f2_go (arg2_go (x := .tup [.str "base", .int (p.val : Int)]) (S1 := S7) ?_ rfl f1) (S2 := S7 ++ T1) (y := .lst (wl (sF ns7) (.base p))) ?_ (wl_same (by simp [Kd.dep]) g1).2.1))
    · rw [fArg_ap, fCons_ap]; simp [h8]
    · rw [f1_ap, f2_go rfl rfl (sz8.ix p), bnd_ok]; exact rg
  have at8 := at_app at7 T1
  have wx8 : WX S w (S7 ++ T1) := wx7.app
  generalize S7 ++ T1 = S8 at s3 at8 wx8 sz8
  clear g1 f1 rg sz7
  obtain ⟨ns9, S9, s4, ok9, at9, wx9, z9⟩ : ∃ ns9 S9, pg4 (ev m) [some (.loc w), some (.int (p.val : Int)), some (.int (q.val : Int)), some (.loc v), none, none, none, none] S8 = .nx [some (.loc w), some (.int (p.val : Int)), some (.int (q.val : Int)), some (.loc v), none, none, none, none] S9 ∧ okSz ns9 ∧ S9[v]? = some (.lst (ns9.map .int)) ∧ WX S w S9 ∧ ∀ i : _root_.Fin 8, 2 ≤ sF ns9 i.val ∧ sF ns9 i.val ≤ 70 := by
    by_cases big : 70 < ((sF ns7 p.val : Nat) : Int)
    · refine ⟨ns7.set p.val 20, S8.set v (.lst ((ns7.set p.val 20).map .int)), ?_, okSz_set ok7 (by decide) (by decide), List.getElem?_set_self (lt_of_at at8), wx8.set (by omega) hwl, fun i => ?_⟩
      · unfold pg4
        rw [if_yes (fB_go (b := true) (f2_go (f2_go rfl rfl (sz8.ix p)) rfl (by rw [gCmp_ii, decide_eq_true big])))]
        exact asg_go rfl (by rw [gSb_loc rfl rfl at8 (by rw [List.length_map, ln7]; exact p.isLt), map_set'])
      · by_cases hi : p = i
        · subst hi; rw [sF_set (by rw [ln7]; exact p.isLt)]; decide
        · rw [sF_ne (fun e => hi (_root_.Fin.ext e))]; have := zq7 i hi; omega
    · refine ⟨ns7, S8, ?_, ok7, at8, wx8, fun i => ?_⟩
      · unfold pg4
        exact if_no (fB_go (f2_go (f2_go rfl rfl (sz8.ix p)) rfl (by rw [gCmp_ii, decide_eq_false big])))
      · by_cases hi : p = i
        · subst hi; omega
        · have := zq7 i hi; omega
  have sz9 := szs_cell ok9 at9
  have s5 : pg5 (ev m) [some (.loc w), some (.int (p.val : Int)), some (.int (q.val : Int)), some (.loc v), none, none, none, none] S9 = .nx [some (.loc w), some (.int (p.val : Int)), some (.int (q.val : Int)), some (.loc v), some (.lst []), none, none, none] S9 := set_go (by rw [fArg_ap]; simp)
  have zp := (z9 p).2
  have zq := (z9 q).2
  have zq2 := (z9 q).1
  obtain ⟨y5, lp⟩ := great_loop (m := m) (x0 := some (.loc w)) (x1 := some (.int (p.val : Int))) (x6 := none) (x7 := none) sz9 zq (rngD 0 (sF ns9 p.val)) [] none (by rw [rngD_length, List.length_nil]; omega)
  have wb : rngD 0 (sF ns9 p.val) = wl (sF ns9) (.base p) := rng_at _
  rw [wb, List.nil_append] at lp
  have wlb : ((wl (sF ns9) (.base p)).flatMap fun x => (wl (sF ns9) (.base q)).map fun y => D.tup [x, y]) = wl (sF ns9) (.both (.base p) (.base q)) := rfl
  rw [wlb] at lp
  have s6 : pg6 (ev m) [some (.loc w), some (.int (p.val : Int)), some (.int (q.val : Int)), some (.loc v), some (.lst []), none, none, none] S9 = .nx [some (.loc w), some (.int (p.val : Int)), some (.int (q.val : Int)), some (.loc v), some (.lst (wl (sF ns9) (.both (.base p) (.base q)))), y5, none, none] S9 := by
    unfold pg6
    rw [sFor_ap, fiR1_go (f2_go rfl rfl (sz9.ix p)) (by omega), toS_ok]
    show forL (gN 5) (l__law_great_right_0 (ev m)) none (rngD 0 (sF ns9 p.val)) _ S9 = _
    rw [wb]
    exact lp
  obtain ⟨r10, S10, e10, a10, b10, w10⟩ := draw_sp (n := m) (S := S9) (w := w) (m := 3) (by omega) wx9.well (by decide) (by decide)
  have at10 : S10[v]? = some (.lst (ns9.map .int)) := by rw [w10.same v (Ne.symm hvw)]; exact at9
  have wx10 : WX S w S10 := wx9.trans w10.wx
  have bp := sz9.ok p.val
  have bq := sz9.ok q.val
  have pm : sF ns9 p.val * sF ns9 q.val ≤ 70 * 70 := Nat.mul_le_mul zp zq
  have nmE : nm (sF ns9) (.both (.base p) (.base q)) = sF ns9 p.val * sF ns9 q.val := by simp only [nm]; omega
  have ll : (wl (sF ns9) (.both (.base p) (.base q))).length = sF ns9 p.val * sF ns9 q.val := by rw [wl_len (sF_ok ok9) _ (by omega), nmE]
  have start : fnB 1 8 (b__law_great_right (ev m)) [.loc w] S = (sSeq (pg0 (ev m)) (sSeq (pg1 (ev m)) (sSeq (pg2 (ev m)) (sSeq (pg3 (ev m)) (sSeq (pg4 (ev m)) (sSeq (pg5 (ev m)) (sSeq (pg6 (ev m)) (sSeq (pg7 (ev m)) (sSeq (pg8 (ev m)) (pg9 (ev m))))))))))
      [some (.loc w), none, none, none, none, none, none, none] S).fin := by rw [pgeq, fnB_1]; rfl
  have fin : ∀ U, WX S w U → fnB 1 8 (b__law_great_right (ev m)) [.loc w] S = .ok (.bl true) U → ∃ S', ev (m + 1) .f__law_great_right [.loc w] S = .ok (.bl true) S' ∧ WS S w S' := fun U hU h => by
    obtain ⟨S', hc, ws⟩ := hU.cut (d := .bl true) hwl rfl
    exact ⟨S', by rw [ev, fnC_ap, h, hc], ws⟩
  by_cases c10 : 0 < r10
  · refine fin S10 wx10 ?_
    rw [start, seq_go s0, seq_go s1, seq_go s2, seq_go s3, seq_go s4, seq_go s5, seq_go s6, seq_rt (S' := S10) (d := .bl true)]
    · rfl
    · unfold pg7
      rw [if_yes (or_yes (fB_go (b := true) (f2_go (arg2_go rfl rfl e10) rfl (by rw [gCmp_ii, decide_eq_true c10]))))]
      exact ret_go rfl
  have s7 : pg7 (ev m) [some (.loc w), some (.int (p.val : Int)), some (.int (q.val : Int)), some (.loc v), some (.lst (wl (sF ns9) (.both (.base p) (.base q)))), y5, none, none] S9 = .nx [some (.loc w), some (.int (p.val : Int)), some (.int (q.val : Int)), some (.loc v), some (.lst (wl (sF ns9) (.both (.base p) (.base q)))), y5, none, none] S10 := by
    unfold pg7
    refine if_no (or_go (fB_go (f2_go (arg2_go rfl rfl e10) rfl (by rw [gCmp_ii, decide_eq_false (by omega)]))) (fB_go (f2_go (arg1_go rfl (gLen_lst)) rfl (by rw [gCmp_ii, decide_eq_false (by rw [ll]; omega)]))))
  obtain ⟨T2, c2, hc2, f2, g2⟩ := worths_c (n := m) (z := sF ns9) (x := .loc v) (S := S10) (k := .both (.base p) (.base q)) (sza_cell ok9 at10) (by simp [Kd.dep]; omega) (fun j hj => sizes_sure ok9 at10 (by omega)) (by simp [Kd.sz]) (by simp [tk]) (by omega)
  have kd2 : (Kd.both (.base p) (.base q)).d = .tup [.str "both", .tup [.str "base", .int (p.val : Int)], .tup [.str "base", .int (q.val : Int)]] := rfl
  rw [kd2] at f2
  have s8 : pg8 (ev m) [some (.loc w), some (.int (p.val : Int)), some (.int (q.val : Int)), some (.loc v), some (.lst (wl (sF ns9) (.both (.base p) (.base q)))), y5, none, none] S10 = .nx [some (.loc w), some (.int (p.val : Int)), some (.int (q.val : Int)), some (.loc v), some (.lst (wl (sF ns9) (.both (.base p) (.base q)))), y5, none, none] (S10 ++ T2) := by
    unfold pg8
    refine if_no (fB_go (f2_go (arg2_go (x := .tup [.str "both", .tup [.str "base", .int (p.val : Int)], .tup [.str "base", .int (q.val : Int)]]) (S1 := S10) ?_ rfl f2) rfl (wl_same (by simp [Kd.dep]) g2).2.1))
    generalize wl (sF ns9) (.both (.base p) (.base q)) = Z
    generalize (p.val : Int) = P
    generalize (q.val : Int) = Q
    simp [h8]
  have at11 := at_app at10 T2
  have nE : nm (sF ns9) (.both .unit (.base q)) = sF ns9 q.val := by simp only [nm]; omega
  obtain ⟨T3, c3, hc3, f3, g3⟩ := worths_c (n := m) (z := sF ns9) (x := .loc v) (S := S10 ++ T2) (k := .frm (.both .unit (.base q)) .unit) (sza_cell ok9 at11) (by simp [Kd.dep]; omega) (fun j hj => sizes_sure ok9 at11 (by omega)) (by simp [Kd.sz]) (by simp only [tk, nE]; omega) (by simp only [nm, pw, Nat.one_pow]; omega)
  have kd3 : (Kd.frm (.both .unit (.base q)) .unit).d = .tup [.str "from", .tup [.str "both", .tup [.str "unit"], .tup [.str "base", .int (q.val : Int)]], .tup [.str "unit"]] := rfl
  rw [kd3] at f3
  have same3 := (wl_same (by simp [Kd.dep]) g3).1
  have w3 : wl (sF ns9) (.frm (.both .unit (.base q)) .unit) = [.tup (List.replicate (sF ns9 q.val) (.tup []))] := by
    rw [wl, nE, wl, LL_one]; rfl
  rw [w3] at same3
  have szB := szs_cell ok9 (at_app at11 T3)
  refine fin (S10 ++ T2 ++ T3) (wx10.app.app) ?_
  rw [start, seq_go s0, seq_go s1, seq_go s2, seq_go s3, seq_go s4, seq_go s5, seq_go s6, seq_go s7, seq_go s8]
  have rp : gMulT (.tup [.tup []]) (.int ((sF ns9 q.val : Nat) : Int)) (S10 ++ T2 ++ T3) = .ok (.tup (List.replicate (sF ns9 q.val) (.tup []))) (S10 ++ T2 ++ T3) := by
    have fl : ∀ n : Nat, (List.replicate n [D.tup []]).flatten = List.replicate n (.tup []) := by
      intro n
      induction n with
      | zero => rfl
      | succ n ih => rw [List.replicate_succ, List.flatten_cons, ih, List.replicate_succ]; rfl
    rw [← fl (sF ns9 q.val)]
    have hc : [D.tup []].length ≠ 0 ∧ 2 ≤ ((sF ns9 q.val : Nat) : Int) ∧ ((sF ns9 q.val : Nat) : Int) ≤ 1000 ∧ [D.tup []].length ≤ 1000 := ⟨by simp, by omega, by omega, by simp⟩
    have hl : (List.replicate (((sF ns9 q.val : Nat) : Int)).toNat [D.tup []]).flatten.length ≤ sizeLine := by
      rw [Int.toNat_natCast, fl, List.length_replicate]; omega
    unfold gMulT
    simp only
    rw [if_pos hc, mkTup_ap, if_pos hl]
    rfl
  unfold pg9
  rw [ret_go (S' := S10 ++ T2 ++ T3) (d := .bl true)]
  · rfl
  · refine f2_go (arg2_go (x := .tup [.str "from", .tup [.str "both", .tup [.str "unit"], .tup [.str "base", .int (q.val : Int)]], .tup [.str "unit"]]) (S1 := S10 ++ T2) ?_ rfl f3) (S2 := S10 ++ T2 ++ T3) (y := .lst [.tup (List.replicate (sF ns9 q.val) (.tup []))]) ?_ same3
    · generalize wl (sF ns9) (.both (.base p) (.base q)) = Z
      generalize (p.val : Int) = P
      generalize (q.val : Int) = Q
      simp [h8]
    · rw [fArg_ap, fCons_ap, f2_go (r := .ok (.tup (List.replicate (sF ns9 q.val) (.tup []))) (S10 ++ T2 ++ T3)) (S2 := S10 ++ T2 ++ T3) (S1 := S10 ++ T2 ++ T3) (x := .tup [.tup []]) (by simp [h8]) (f2_go rfl rfl (szB.ix q)) rp]
      generalize List.replicate (sF ns9 q.val) (D.tup []) = Z
      simp [h8]
end Kz
namespace Kz
open PySem PySem.Spec PyProof.Rows L2 Kw
noncomputable def pd0 (cl : Fn → FF) : FS := (sSet 4 (fArg (cl .f__law_draw) (fCons (fVar 0) (fCons (fC (.int 3)) fNil))))
noncomputable def pd1 (cl : Fn → FF) : FS := (sIf (fB (f2 gEq (fVar 4) (fC (.int 0)))) (sPar 1 2 (fCons (fArg mkTup (fCons (fC (.str "from")) (fCons (fArg mkTup (fCons (fC (.str "unit")) fNil)) (fCons (fVar 1) fNil)))) (fCons (fLc false (fiL (fVar 2)) (gN 5) fYes (fArg mkTup (fCons (fVar 5) fNil)) [5]) fNil))) (sIf (fB (f2 gEq (fVar 4) (fC (.int 1)))) (sPar 1 2 (fCons (fArg mkTup (fCons (fC (.str "both")) (fCons (fArg mkTup (fCons (fC (.str "unit")) fNil)) (fCons (fVar 1) fNil)))) (fCons (fLc false (fiL (fVar 2)) (gN 5) fYes (fArg mkTup (fCons (fArg mkTup fNil) (fCons (fVar 5) fNil))) [5]) fNil))) (sPar 1 2 (fCons (fArg mkTup (fCons (fC (.str "both")) (fCons (fVar 1) (fCons (fArg mkTup (fCons (fC (.str "unit")) fNil)) fNil)))) (fCons (fLc false (fiL (fVar 2)) (gN 5) fYes (fArg mkTup (fCons (fVar 5) (fCons (fArg mkTup fNil) fNil))) [5]) fNil)))))
theorem pdeq (cl : Fn → FF) : l__law_deep_right_0 cl = sSeq (pd0 cl) (pd1 cl) := rfl
noncomputable def pe0 (cl : Fn → FF) : FS := (sPar 1 2 (fCons (fArg mkTup (fCons (fC (.str "base")) (fCons (fC (.int 3)) fNil))) (fCons (fArg mkLst (fCons (fC (.int 0)) (fCons (fC (.int 1)) (fCons (fC (.int 2)) fNil)))) fNil)))
noncomputable def pe1 (cl : Fn → FF) : FS := (sFor (fiR1 (fCons (f2 (gAdd false) (fC (.int 60)) (fArg (cl .f__law_draw) (fCons (fVar 0) (fCons (fC (.int 31)) fNil)))) fNil)) (gN 3) (l__law_deep_right_0 cl))
noncomputable def pe2 (cl : Fn → FF) : FS := (sRet (f2 gEq (fArg (cl .f_worths) (fCons (fVar 1) (fCons (fArg mkLst (fCons (fC (.int 1)) (fCons (fC (.int 2)) (fCons (fC (.int 1)) (fCons (fC (.int 3)) (fCons (fC (.int 1)) (fCons (fC (.int 1)) (fCons (fC (.int 1)) (fCons (fC (.int 1)) fNil))))))))) fNil))) (fVar 2)))
theorem peeq (cl : Fn → FF) : b__law_deep_right cl = sSeq (pe0 cl) (sSeq (pe1 cl) (pe2 cl)) := rfl
abbrev zD : Nat → Nat := sF [1, 2, 1, 3, 1, 1, 1, 1]
theorem okD : okSz [1, 2, 1, 3, 1, 1, 1, 1] := ⟨rfl, fun z hz => by
  simp only [List.mem_cons, List.not_mem_nil, or_false] at hz
  omega⟩
theorem d_in {ρ : FEnv} {S : Store} {ts : List D} {te : FE} (f : D → D) (h2 : fVar 2 ρ S = .ok (.lst ts) S) (hte : ∀ v ∈ ts, te ((ρ.set 5 none).set 5 (some v)) S = .ok (f v) S) (hl : ts.length ≤ sizeLine) : fLc false (fiL (fVar 2)) (gN 5) fYes te [5] ρ S = .ok (.lst (ts.map f)) S := by
  have hm := compL_map (tg := gN 5) (tt := fYes) (te := te) (ρ := ρ.set 5 none) (S := S) (gg := none) f gd_non ts [] (fun v hv => ⟨(ρ.set 5 none).set 5 (some v), rfl, rfl, hte v hv⟩) (by simpa using hl)
  have e : fiL (fVar 2) ρ S = .ok (ts, none) S := by unfold fiL; rw [h2]; rfl
  rw [fLc_ap, e]
  show lcR false (compL (gN 5) fYes te none (ρ.set 5 none) ts [] S) = _
  rw [hm]; rfl
/-- what stands in the kind about a base of three -/
structure Dk (K : Kd) (j : Nat) : Prop where
  dep : K.dep ≤ j
  sz : K.sz ≤ 2 * j + 1
  tk : tk zD K ≤ 1
  nm : nm zD K = 3
theorem deep_body {m w j : Nat} {S : Store} {K : Kd} {x3 x4 x5 : Option D} (hm : 1 ≤ m) (hw : Well S w) (k : Dk K j) : ∃ K' y4 S', l__law_deep_right_0 (ev m) [some (.loc w), some K.d, some (.lst (wl zD K)), x3, x4, x5] S = .nx [some (.loc w), some K'.d, some (.lst (wl zD K')), x3, y4, x5] S' ∧ WS S w S' ∧ Dk K' (j + 1) := by
  have h8 : sizeLine = 16777216 := rfl
  obtain ⟨r, S1, e1, a1, b1, w1⟩ := draw_sp (n := m) (S := S) (w := w) (m := 3) hm hw (by decide) (by decide)
  have s0 : pd0 (ev m) [some (.loc w), some K.d, some (.lst (wl zD K)), x3, x4, x5] S = .nx [some (.loc w), some K.d, some (.lst (wl zD K)), x3, some (.int r), x5] S1 := set_go (arg2_go rfl rfl e1)
  have ll : (wl zD K).length ≤ sizeLine := by rw [wl_len (sF_ok okD) K (by rw [k.nm]; decide), k.nm]; omega
  rw [pdeq, seq_go s0]
  unfold pd1
  by_cases c0 : r = 0
  · subst c0
    refine ⟨.frm .unit K, some (.int 0), S1, ?_, w1, ⟨by have := k.dep; simp only [Kd.dep]; omega, by have := k.sz; simp only [Kd.sz]; omega, by have := k.tk; simp only [tk, nm]; omega, by have := k.nm; simp only [nm, pw, this]; rfl⟩⟩
    rw [if_yes (S' := S1) (fB_go (b := true) (f2_go (S1 := S1) (S2 := S1) rfl rfl (by simp)))]
    have w' : wl zD (.frm .unit K) = (wl zD K).map fun v => .tup [v] := by
      simp [wl, nm, LL]
    rw [w']
    have dk : (Kd.frm .unit K).d = .tup [.str "from", .tup [.str "unit"], K.d] := rfl
    have ht : fArg mkTup (fCons (fC (.str "from")) (fCons (fArg mkTup (fCons (fC (.str "unit")) fNil)) (fCons (fVar 1) fNil))) [some (.loc w), some K.d, some (.lst (wl zD K)), x3, some (.int 0), x5] S1 = .ok (.tup [.str "from", .tup [.str "unit"], K.d]) S1 := by
      generalize wl zD K = Z
      generalize K.d = X
      simp [h8]
    rw [dk]
    exact par_go ht (d_in (fun v => .tup [v]) rfl (fun v _ => by simp [h8]) ll)
  · by_cases c1 : r = 1
    · subst c1
      refine ⟨.both .unit K, some (.int 1), S1, ?_, w1, ⟨by have := k.dep; simp only [Kd.dep]; omega, by have := k.sz; simp only [Kd.sz]; omega, by have := k.tk; simp only [tk]; omega, by have := k.nm; simp only [nm, this]; rfl⟩⟩
      rw [sIf_ap, fB_go (S1 := S1) (b := false) (f2_go (S1 := S1) (S2 := S1) rfl rfl (by simp)), toS_ok]
      show sIf _ _ _ _ S1 = _
      rw [if_yes (S' := S1) (fB_go (b := true) (f2_go (S1 := S1) (S2 := S1) rfl rfl (by simp)))]
      have w' : wl zD (.both .unit K) = (wl zD K).map fun v => .tup [.tup [], v] := by
        simp [wl]
      rw [w']
      have dk : (Kd.both .unit K).d = .tup [.str "both", .tup [.str "unit"], K.d] := rfl
      have ht : fArg mkTup (fCons (fC (.str "both")) (fCons (fArg mkTup (fCons (fC (.str "unit")) fNil)) (fCons (fVar 1) fNil))) [some (.loc w), some K.d, some (.lst (wl zD K)), x3, some (.int 1), x5] S1 = .ok (.tup [.str "both", .tup [.str "unit"], K.d]) S1 := by
        generalize wl zD K = Z
        generalize K.d = X
        simp [h8]
      rw [dk]
      exact par_go ht (d_in (fun v => .tup [.tup [], v]) rfl (fun v _ => by simp [h8]) ll)
    · refine ⟨.both K .unit, some (.int r), S1, ?_, w1, ⟨by have := k.dep; simp only [Kd.dep]; omega, by have := k.sz; simp only [Kd.sz]; omega, by have := k.tk; simp only [tk]; omega, by have := k.nm; simp only [nm, this]; rfl⟩⟩
      rw [sIf_ap, fB_go (S1 := S1) (b := false) (f2_go (S1 := S1) (S2 := S1) rfl rfl (by simp [c0])), toS_ok]
      show sIf _ _ _ _ S1 = _
      rw [sIf_ap, fB_go (S1 := S1) (b := false) (f2_go (S1 := S1) (S2 := S1) rfl rfl (by simp [c1])), toS_ok]
      show sPar _ _ _ _ S1 = _
      have w' : wl zD (.both K .unit) = (wl zD K).map fun v => .tup [v, .tup []] := by
        rw [wl]
        show (wl zD K).flatMap (fun x => [D.tup [x, .tup []]]) = _
        generalize wl zD K = Z
        induction Z with
        | nil => rfl
        | cons a Z ih => rw [List.flatMap_cons, ih]; rfl
      rw [w']
      have dk : (Kd.both K .unit).d = .tup [.str "both", K.d, .tup [.str "unit"]] := rfl
      have ht : fArg mkTup (fCons (fC (.str "both")) (fCons (fVar 1) (fCons (fArg mkTup (fCons (fC (.str "unit")) fNil)) fNil))) [some (.loc w), some K.d, some (.lst (wl zD K)), x3, some (.int r), x5] S1 = .ok (.tup [.str "both", K.d, .tup [.str "unit"]]) S1 := by
        generalize wl zD K = Z
        generalize K.d = X
        simp [h8]
      rw [dk]
      exact par_go ht (d_in (fun v => .tup [v, .tup []]) rfl (fun v _ => by simp [h8]) ll)
theorem deep_loop {m w : Nat} (hm : 1 ≤ m) : ∀ (ds : List D) (j : Nat) (S : Store) (K : Kd) (x3 x4 x5 : Option D), Well S w → Dk K j → ∃ K' y3 y4 S', forL (gN 3) (l__law_deep_right_0 (ev m)) none ds [some (.loc w), some K.d, some (.lst (wl zD K)), x3, x4, x5] S = .nx [some (.loc w), some K'.d, some (.lst (wl zD K')), y3, y4, x5] S' ∧ WS S w S' ∧ Dk K' (j + ds.length)
  | [], j, S, K, x3, x4, x5, hw, k => ⟨K, x3, x4, S, by simp, WS.refl hw, k⟩
  | d :: ds, j, S, K, x3, x4, x5, hw, k => by
    obtain ⟨K1, y4, S1, e1, w1, k1⟩ := deep_body (m := m) (x3 := some d) (x4 := x4) (x5 := x5) hm hw k
    obtain ⟨K2, z3, z4, S2, e2, w2, k2⟩ := deep_loop hm ds (j + 1) S1 K1 (some d) y4 x5 w1.well k1
    refine ⟨K2, z3, z4, S2, ?_, w1.trans w2, by rw [List.length_cons]; have e : j + (ds.length + 1) = j + 1 + ds.length := by omega
                                                rw [e]; exact k2⟩
    rw [forL_cons]
    have e : gN 3 d [some (.loc w), some K.d, some (.lst (wl zD K)), x3, x4, x5] S = some ([some (.loc w), some K.d, some (.lst (wl zD K)), some d, x4, x5], S) := rfl
    rw [e, tgR_some, e1, loopR_nx, e2]
theorem deep_right {n w : Nat} {S : Store} (hn : 120 ≤ n) (hw : Well S w) : ∃ S', ev n .f__law_deep_right [.loc w] S = .ok (.bl true) S' ∧ WS S w S' := by
  obtain ⟨m, rfl, h'⟩ := up (d := 119) hn
  have h8 : sizeLine = 16777216 := rfl
  have hwl : w < S.length := by obtain ⟨_, _, _, _, _, _, _, at_⟩ := hw; exact lt_of_at at_
  have k0 : Dk (.base 3) 0 := ⟨by simp [Kd.dep], by simp [Kd.sz], by simp [tk], rfl⟩
  have s0 : pe0 (ev m) [some (.loc w), none, none, none, none, none] S = .nx [some (.loc w), some (Kd.base 3).d, some (.lst (wl zD (.base 3))), none, none, none] S := par_go (S1 := S) (x := (Kd.base 3).d) (y := .lst (wl zD (.base 3))) (by simp [h8]; rfl) (by simp [h8]; rfl)
  obtain ⟨r, S1, e1, a1, b1, w1⟩ := draw_sp (n := m) (S := S) (w := w) (m := 31) (by omega) hw (by decide) (by decide)
  obtain ⟨t, ht, ht2⟩ : ∃ t : Nat, (t : Int) = 60 + r ∧ t ≤ 90 := ⟨(60 + r).toNat, by omega, by omega⟩
  obtain ⟨K, y3, y4, S2, lp, w2, k⟩ := deep_loop (m := m) (by omega) (rngD 0 t) 0 S1 (.base 3) none none none w1.well k0
  rw [rngD_length, Nat.zero_add] at k
  have s1 : pe1 (ev m) [some (.loc w), some (Kd.base 3).d, some (.lst (wl zD (.base 3))), none, none, none] S = .nx [some (.loc w), some K.d, some (.lst (wl zD K)), y3, y4, none] S2 := by
    unfold pe1
    rw [sFor_ap, fiR1_go (n := t) (f2_go rfl (arg2_go rfl rfl e1) (by rw [gAdd_ii, ht])) (by omega), toS_ok]
    exact lp
  have kd := k.dep; have ks := k.sz; have kt := k.tk; have kn := k.nm
  obtain ⟨T, c, hc, f1, g1⟩ := worths_c (n := m) (z := zD) (x := .lst ([1, 2, 1, 3, 1, 1, 1, 1].map .int)) (S := S2) (k := K) (fun T => ints_list okD _) (by omega) (fun j hj => sizes_list okD (by omega)) (by omega) (by omega) (by omega)
  have wx : WX S w (S2 ++ T) := (w1.trans w2).wx.app
  obtain ⟨S', hcu, ws⟩ := wx.cut (d := .bl true) hwl rfl
  refine ⟨S', ?_, ws⟩
  rw [ev, fnC_ap, ← hcu, peeq, fnB_1]
  show cutR S (RS.fin (sSeq _ _ [some (.loc w), none, none, none, none, none] S)) = _
  rw [seq_go s0, seq_go s1]
  unfold pe2
  rw [ret_go (f2_go (arg2_go (x := K.d) (S1 := S2) rfl (y := .lst ([1, 2, 1, 3, 1, 1, 1, 1].map .int)) (S2 := S2) ?_ f1) rfl (wl_same (by omega) g1).1)]
  · rfl
  · generalize wl zD K = Z
    generalize K.d = X
    simp [h8]
theorem draw_kind {m w : Nat} {S : Store} (hm : 20 ≤ m) (hw : Well S w) : ∃ K S', fArg (ev m .f__law_kind) (fCons (fVar 0) (fCons (f2 (gAdd false) (fC (.int 1)) (fArg (ev m .f__law_draw) (fCons (fVar 0) (fCons (fC (.int 4)) fNil)))) fNil)) [some (.loc w), none, none, none] S = .ok (Kd.d K) S' ∧ K.dep ≤ 7 ∧ K.sz ≤ 1000 ∧ WS S w S' := by
  obtain ⟨r, S1, e1, a1, b1, w1⟩ := draw_sp (n := m) (S := S) (w := w) (m := 4) (by omega) hw (by decide) (by decide)
  obtain ⟨L, hL, hL2⟩ : ∃ L : Nat, (L : Int) = 1 + r ∧ L ≤ 4 := ⟨(1 + r).toNat, by omega, by omega⟩
  obtain ⟨K, S2, e2, d2, z2, w2⟩ := law_kind 4 (L := L) (n := m) (S := S1) (w := w) (by omega) hL2 (by omega) (by omega) w1.well
  rw [hL] at e2
  exact ⟨K, S2, arg2_go (x := .loc w) rfl (f2_go rfl (arg2_go rfl rfl e1) rfl) e2, by omega, by omega, w1.trans w2⟩
def okS (ns : List Int) : Prop := okSz ns ∧ ∀ y ∈ ns, y ≤ 60
theorem draw_sizes {m w : Nat} {S : Store} (hm : 20 ≤ m) (hw : Well S w) : ∃ ns S', ev m .f__law_sizes [.loc w] S = .ok (.loc S'.length) (S' ++ [.lst (ns.map .int)]) ∧ okS ns ∧ WS S w S' := by
  obtain ⟨n, rfl, h'⟩ := up (d := 19) hm
  have h8 : sizeLine = 16777216 := rfl
  obtain ⟨d, S1, e1, hd, w1⟩ := one_sp (n := n) (S := S) (w := w) (ds := [.int 1, .int 2, .int 3, .int 3, .int 5]) (by omega) hw (by simp) (by simp)
  obtain ⟨s, rfl, hs1, hs9⟩ : ∃ s : Int, d = .int s ∧ 1 ≤ s ∧ s ≤ 5 := by
    simp only [List.mem_cons, List.not_mem_nil, or_false] at hd
    rcases hd with rfl | rfl | rfl | rfl | rfl <;> exact ⟨_, rfl, by omega, by omega⟩
  obtain ⟨acc, S3, hm', ⟨ws3, all3⟩, l3⟩ := compL_inv (tg := gN 2) (tt := fYes) (te := f2 (gAdd false) (fC (.int 1)) (fArg (ev n .f__law_draw) (fCons (fVar 0) (fCons (fVar 1) fNil)))) (ρ := [some (.loc w), some (.int s), none])
    (fun T acc => WS S w T ∧ ∀ d ∈ acc, ∃ i : Int, d = .int i ∧ 1 ≤ i ∧ i ≤ 5) (rngD 0 8) [] S1 (fun d _ T acc ⟨hT, ha⟩ => by
      obtain ⟨r, T', e, r0, r9, wT⟩ := draw_sp (n := n) (S := T) (w := w) (m := s) (by omega) hT.well (by omega) (by omega)
      refine ⟨[some (.loc w), some (.int s), some d], .int (1 + r), T', rfl, rfl, f2_go rfl (arg2_go rfl rfl e) rfl, hT.trans wT, fun x hx => ?_⟩
      rcases List.mem_append.mp hx with hx | hx
      · exact ha x hx
      · exact ⟨1 + r, by simpa using hx, by omega, by omega⟩) ⟨w1, fun d hd => nomatch hd⟩ (by rw [rngD_length]; simp)
  obtain ⟨ns, rfl⟩ : ∃ ns : List Int, acc = ns.map .int := by
    clear hm' l3
    induction acc with
    | nil => exact ⟨[], rfl⟩
    | cons d acc ih =>
      obtain ⟨i, rfl, _, _⟩ := all3 d List.mem_cons_self
      obtain ⟨ns, e⟩ := ih fun x hx => all3 x (List.mem_cons_of_mem _ hx)
      exact ⟨i :: ns, by rw [e]; rfl⟩
  have ln : ns.length = 8 := by rw [rngD_length] at l3; simpa using l3
  have hns : ∀ y ∈ ns, 1 ≤ y ∧ y ≤ 5 := fun y hy => by
    obtain ⟨i, e, h1, h2⟩ := all3 (.int y) (List.mem_map.mpr ⟨y, hy, rfl⟩)
    cases e; exact ⟨h1, h2⟩
  refine ⟨ns, S3, ?_, ⟨⟨ln, fun y hy => by have := hns y hy; omega⟩, fun y hy => by have := hns y hy; omega⟩, ws3⟩
  rw [ev, b__law_sizes, fnB_1]
  show RS.fin (sSeq _ _ [some (.loc w), none, none] S) = _
  rw [seq_go (set_go (S' := S1) (d := .int s) (arg2_go (x := .loc w) rfl (y := .lst [.int 1, .int 2, .int 3, .int 3, .int 5]) (S2 := S) (by simp [h8]) e1))]
  show RS.fin (sRet _ [some (.loc w), some (.int s), none] S1) = _
  rw [ret_go (S' := S3 ++ [.lst (ns.map .int)]) (d := .loc S3.length)]
  · rfl
  · rw [fLc_ap, fiR1_go (n := 8) (S1 := S1) rfl (by omega), bnd_ok]
    show lcR true (compL _ _ _ none [some (.loc w), some (.int s), none] (rngD 0 8) [] S1) = _
    rw [hm', lcR_t]
theorem ask_not {m v : Nat} {ns : List Int} {K : Kd} {S : Store} {x0 x3 : Option D} (hn : 60 ≤ m) (ok : okS ns) (at_ : S[v]? = some (.lst (ns.map .int))) (hd : K.dep ≤ 7) (hs : K.sz ≤ 1000) : fNot (fTru (fArg (ev m .f__law_asked) (fCons (fVar 1) (fCons (fVar 2) fNil)))) [x0, some K.d, some (.loc v), x3] S = .ok false S := by
  have e := arg2_go (g := ev m .f__law_asked) (a := fVar 1) (b := fVar 2) (ρ := [x0, some K.d, some (.loc v), x3]) (S := S) (S1 := S) (S2 := S) rfl rfl (law_asked hn ok.1 ok.2 at_ hd hs)
  rw [fNot_ap, fTru_ap, e]; rfl
theorem right_body {m w v : Nat} {ns : List Int} {K : Kd} {S : Store} {x3 : Option D} (hn : 60 ≤ m) (hw : Well S w) (hv : w ≠ v) (ok : okS ns) (at_ : S[v]? = some (.lst (ns.map .int))) (hd : K.dep ≤ 7) (hs : K.sz ≤ 1000) :
    ∃ ns' S', l__law_right_0 (ev m) [some (.loc w), some K.d, some (.loc v), x3] S = .nx [some (.loc w), some K.d, some (.loc v), x3] S' ∧ okS ns' ∧ S'[v]? = some (.lst (ns'.map .int)) ∧ Well S' w ∧ S'.length = S.length ∧ ∀ i, i ≠ w → i ≠ v → S'[i]? = S[i]? := by
  obtain ⟨r1, S1, e1, a1, b1, w1⟩ := draw_sp (n := m) (S := S) (w := w) (m := 4) (by omega) hw (by decide) (by decide)
  obtain ⟨r2, S2, e2, a2, b2, w2⟩ := draw_sp (n := m) (S := S1) (w := w) (m := 8) (by omega) w1.well (by decide) (by decide)
  obtain ⟨p, rfl⟩ := fin_of a2 b2
  have at2 : S2[v]? = some (.lst (ns.map .int)) := by rw [(w1.trans w2).same v (Ne.symm hv)]; exact at_
  have ok' : okS (ns.set p.val (1 + r1)) := ⟨okSz_set ok.1 (by omega) (by omega), fun y hy => by
    rcases List.mem_or_eq_of_mem_set hy with hy | rfl
    · exact ok.2 y hy
    · omega⟩
  have at3 : (S2.set v (.lst ((ns.set p.val (1 + r1)).map .int)))[v]? = some (.lst ((ns.set p.val (1 + r1)).map .int)) := List.getElem?_set_self (lt_of_at at2)
  refine ⟨ns.set p.val (1 + r1), S2.set v (.lst ((ns.set p.val (1 + r1)).map .int)), ?_, ok', at3, ?_, by rw [List.length_set, w2.len, w1.len], fun i hi hj => ?_⟩
  · rw [l__law_right_0, seq_go (S' := S2.set v (.lst ((ns.set p.val (1 + r1)).map .int))) (ρ' := [some (.loc w), some K.d, some (.loc v), x3])]
    · exact if_no (ask_not hn ok' at3 hd hs)
    · refine asg_go (d := .int (1 + r1)) (S1 := S1) (f2_go rfl (arg2_go rfl rfl e1) rfl) ?_
      have q := arg2_go (g := ev m .f__law_draw) (a := fVar 0) (b := fC (.int 8)) (ρ := [some (.loc w), some K.d, some (.loc v), x3]) (S := S1) (S1 := S1) (S2 := S1) rfl rfl e2
      have e3 : L2.ixN (ns.map D.int).length (p.val : Int) = some p.val := by
        unfold L2.ixN
        have := p.isLt
        rw [if_pos (by omega), if_pos (by rw [List.length_map, ok.1.1]; omega), Int.toNat_natCast]
      have e0 : fVar 2 [some (.loc w), some K.d, some (.loc v), x3] S1 = .ok (.loc v) S1 := rfl
      unfold gSb
      rw [e0]
      simp only
      rw [q]
      simp only [gSetI]
      rw [cellM_of at2]
      simp only
      rw [e3]
      simp only
      rw [map_set']
  · obtain ⟨a, b, d, h1, h2, h3, h4, at'⟩ := w2.well
    exact ⟨a, b, d, h1, h2, h3, h4, by rw [List.getElem?_set_ne (Ne.symm hv)]; exact at'⟩
  · rw [List.getElem?_set_ne (Ne.symm hj), (w1.trans w2).same i hi]
theorem right_loop {m w v : Nat} {K : Kd} (hn : 60 ≤ m) (hv : w ≠ v) (hd : K.dep ≤ 7) (hs : K.sz ≤ 1000) : ∀ (ds : List D) (S : Store) (ns : List Int) (x3 : Option D), Well S w → okS ns → S[v]? = some (.lst (ns.map .int)) →
    ∃ y3 S', forL (gN 3) (l__law_right_0 (ev m)) none ds [some (.loc w), some K.d, some (.loc v), x3] S = .nx [some (.loc w), some K.d, some (.loc v), y3] S' ∧ Well S' w ∧ S'.length = S.length ∧ ∀ i, i ≠ w → i ≠ v → S'[i]? = S[i]?
  | [], S, ns, x3, hw, _, _ => ⟨x3, S, by simp, hw, rfl, fun _ _ _ => rfl⟩
  | d :: ds, S, ns, x3, hw, ok, at_ => by
    obtain ⟨ns1, S1, e1, ok1, at1, w1, l1, sm1⟩ := right_body (m := m) (K := K) (x3 := some d) hn hw hv ok at_ hd hs
    obtain ⟨y3, S2, e2, w2, l2, sm2⟩ := right_loop hn hv hd hs ds S1 ns1 (some d) w1 ok1 at1
    refine ⟨y3, S2, ?_, w2, l2.trans l1, fun i hi hj => (sm2 i hi hj).trans (sm1 i hi hj)⟩
    rw [forL_cons]
    have e : gN 3 d [some (.loc w), some K.d, some (.loc v), x3] S = some ([some (.loc w), some K.d, some (.loc v), some d], S) := rfl
    rw [e, tgR_some, e1, loopR_nx, e2]
theorem law_right {n w : Nat} {S : Store} (hn : 200 ≤ n) (hw : Well S w) : ∃ S', ev n .f__law_right [.loc w] S = .ok (.bl true) S' ∧ WS S w S' := by
  obtain ⟨m, rfl, h'⟩ := up (d := 199) hn
  have hwl : w < S.length := by obtain ⟨_, _, _, _, _, _, _, at_⟩ := hw; exact lt_of_at at_
  obtain ⟨K, S1, e1, kd, ks, w1⟩ := draw_kind (m := m) (by omega) hw
  obtain ⟨ns, S2, e2, ok, w2⟩ := draw_sizes (m := m) (by omega) w1.well
  obtain ⟨v, hv⟩ : ∃ v, v = S2.length := ⟨_, rfl⟩
  have lS : S2.length = S.length := (w1.trans w2).len
  have hvw : w ≠ v := by omega
  have at3 : (S2 ++ [Cell.lst (ns.map .int)])[v]? = some (.lst (ns.map .int)) := by subst hv; exact at_new _ _
  have wx3 : WX S w (S2 ++ [Cell.lst (ns.map .int)]) := (w1.trans w2).wx.app
  rw [← hv] at e2
  generalize S2 ++ [Cell.lst (ns.map .int)] = S3 at e2 at3 wx3
  have a3 := ask_not (m := m) (K := K) (x0 := some (.loc w)) (x3 := none) (by omega) ok at3 kd ks
  obtain ⟨S4, e4, w4⟩ := great_right (n := m) (by omega) wx3.well
  obtain ⟨S5, e5, w5⟩ := deep_right (n := m) (by omega) w4.well
  have w45 := w4.trans w5
  have at5 : S5[v]? = some (.lst (ns.map .int)) := by rw [w45.same v (Ne.symm hvw)]; exact at3
  have wx5 : WX S w S5 := wx3.trans w45.wx
  obtain ⟨y3, S6, e6, w6, l6, sm6⟩ := right_loop (m := m) (K := K) (by omega) hvw kd ks (rngD 0 3) S5 ns none wx5.well ok at5
  have wx6 : WX S w S6 := ⟨by rw [l6]; exact wx5.le, fun i hl hi => by rw [sm6 i hi (by omega)]; exact wx5.same i hl hi, w6⟩
  obtain ⟨S', hc, ws⟩ := wx6.cut (d := .bl true) hwl rfl
  refine ⟨S', ?_, ws⟩
  rw [ev, fnC_ap, ← hc, b__law_right, fnB_1]
  show cutR S (RS.fin (sSeq _ _ [some (.loc w), none, none, none] S)) = _
  rw [seq_go (set_go (i := 1) e1)]
  show cutR S (RS.fin (sSeq _ _ [some (.loc w), some K.d, none, none] S1)) = _
  rw [seq_go (set_go (i := 2) (arg1_go (x := .loc w) (S1 := S1) rfl e2))]
  show cutR S (RS.fin (sSeq _ _ [some (.loc w), some K.d, some (.loc v), none] S3)) = _
  have g4 : fNot (fTru (fArg (ev m .f__law_great_right) (fCons (fVar 0) fNil))) [some (.loc w), some K.d, some (.loc v), none] S3 = .ok false S4 := by
    have e := arg1_go (g := ev m .f__law_great_right) (a := fVar 0) (ρ := [some (.loc w), some K.d, some (.loc v), none]) (S := S3) (S1 := S3) rfl e4
    rw [fNot_ap, fTru_ap, e]; rfl
  have g5 : fNot (fTru (fArg (ev m .f__law_deep_right) (fCons (fVar 0) fNil))) [some (.loc w), some K.d, some (.loc v), none] S4 = .ok false S5 := by
    have e := arg1_go (g := ev m .f__law_deep_right) (a := fVar 0) (ρ := [some (.loc w), some K.d, some (.loc v), none]) (S := S4) (S1 := S4) rfl e5
    rw [fNot_ap, fTru_ap, e]; rfl
  rw [seq_go (if_no (or_go a3 (or_go g4 g5)))]
  rw [seq_go (S' := S6) (ρ' := [some (.loc w), some K.d, some (.loc v), y3])]
  · rfl
  · rw [sFor_ap, fiR1_go (n := 3) (S1 := S5) rfl (by omega), toS_ok]
    exact e6
theorem law_loop {m : Nat} (h : 225 ≤ m) {t : Option D} : ∀ (ns : List Int) {S : Store} {x : Option D}, ∃ x' S', forL (gN 1) (l_law_0 (ev m)) none (ns.map D.int) [t, x] S = .nx [t, x'] S'
  | [], S, x => ⟨x, S, by simp⟩
  | i :: ns, S, x => by
    obtain ⟨c, e1, hw⟩ := well_new (n := m) (S := S) (i := i) (by omega)
    obtain ⟨S2, e2, w2⟩ := law_right (n := m) (by omega) hw
    obtain ⟨x', S', e3⟩ := law_loop h ns (S := S2) (x := some (.int i))
    refine ⟨x', S', ?_⟩
    rw [← e3]
    show forL _ _ _ (.int i :: ns.map D.int) _ _ = _
    rw [forL_cons]
    have hb : l_law_0 (ev m) [t, some (.int i)] S = .nx [t, some (.int i)] S2 := by
      rw [l_law_0]
      simp [e1, e2]
    simp [hb]
theorem cutL_map {α β : Type} (f : α → β) (xs : List α) (lo hi : Option Int) : cutL (xs.map f) lo hi = (cutL xs lo hi).map f := by
  simp [cutL]
theorem cutL_len {α : Type} (xs : List α) (lo hi : Option Int) : (cutL xs lo hi).length ≤ xs.length := by
  simp [cutL]; omega
theorem law_true (ns : List Int) (hl : ns.length ≤ 63) : ∃ S', Kw.fnB 1 2 (b_law (ev 230)) [.fls (ns.map .int)] [] = .ok (.bl true) S' := by
  obtain ⟨d, e1, hd⟩ := cell_at (n := 230) (S := []) (ds := ns.map D.int) (k := 0) (by omega)
  have hi : ∃ i : Int, d = .int i := by
    rcases hd with hd | rfl
    · obtain ⟨i, _, rfl⟩ := List.mem_map.mp hd
      exact ⟨i, rfl⟩
    · exact ⟨0, rfl⟩
  obtain ⟨i, rfl⟩ := hi
  obtain ⟨x', S', e2⟩ := law_loop (m := 230) (by omega) (t := some (.fls (ns.map D.int))) (i :: cutL ns (some 1) (some 5)) (S := []) (x := none)
  refine ⟨S', ?_⟩
  have hc := cutL_len ns (some 1) (some 5)
  have h9 : (cutL ns (some 1) (some 5)).length + 1 ≤ sizeLine := by
    have : sizeLine = 16777216 := rfl
    omega
  have h0 : ((0 : Nat) : Int) = 0 := rfl
  rw [h0] at e1
  simp at e2
  rw [b_law]
  simp [e1, cutL_map, h9, e2]
end Kz
open PySem PySem.W PyProof.Rows
local macro_rules | `(tactic| o_head $t:term) => do
  let (hw, hc) := (Lean.mkIdent `hw, Lean.mkIdent `hc)
  `(tactic| (refine PySem.W.holds_open (r := Kz.Hd.R) (q := Kz.Hd.qv) (loose := Kz.Hd.nm) (Xt := fun s => xlAt Kz.Hd.qv [] s && recOk (RowW.records (OpenRow.toRowW Kz.Hd.R)) s) (XP := XL Kz.Hd.qv []) (Yf := Hook.obs $t) (Ya := Hook.val $t) (YP := Hook.says $t) (N := 9600) ?hlx (Hook.of $t) (Hook.keeps $t) (fun s e => xl_of s (Bool.and_eq_true_iff.mp e).1) XL.keeps (by rfl) (by rfl) (by rfl) (fun s e => recFacts_of (Bool.and_eq_true_iff.mp e).2) (by rfl) (by first | assumption | decide +kernel) (by decide +kernel) ⟨rfl, rfl, rfl, rfl, rfl, by decide +kernel⟩ ?$hw ?$hc; (case hlx => (refine Kz.Hd.left_k (M := 9000) (by kernel_rfl) (by rfl) (fun s => by kernel_rfl) (by rfl) ?hf ?ht; (case hf => exact Kz.Hd.runF); (case ht => exact Kz.Hd.runT)))))
set_option maxRecDepth 100000 in
set_option maxHeartbeats 0 in
theorem PySem.Challenge.cw_kindswap_k41_all_worths_holds : PySem.Challenge.rw_kindswap_k41_all_worths.Holds := by
  w_on; o_law; k_head; (case hw => w_witness2)
  as_aux_lemma =>
    k_fill
    refine Kw.walk_g (l := PySem.Challenge.rw_kindswap_k41_all_worths) (k := 230 + 1) (x := "_law_script") rfl rfl ⟨⟨by decide, by decide, by decide⟩, rfl⟩ (fun w h Y => PySem.W.kIn_of Y) ?F (fun w H s e s' h => Kw.cx_no h)
    case F =>
      intro w mg fa h KX G hmg
      letI : Kw.Wo := ⟨w⟩
      have t_is_from : Kw.TF (L2.KOf KX) mg "is_from" Kz.s_is_from ["thing", "low", "high"] := by
        unfold L2.KOf
        refine' Kw.tf_mk KX G ?a ?l ?c ?k ?b
        (case a => k_is); (case l => k_is); (case c => k_is); (case k => k_is)
        (case b => exact fun _ _ _ _ _ _ us hl => match us, hl with | [_, _, _], _ => rfl)
      have t_inner_of : Kw.TF (L2.KOf KX) mg "inner_of" Kz.s_inner_of ["thing"] := by
        unfold L2.KOf
        refine' Kw.tf_mk KX G ?a ?l ?c ?k ?b
        (case a => k_is); (case l => k_is); (case c => k_is); (case k => k_is)
        (case b => exact fun _ _ _ _ _ _ us hl => match us, hl with | [_], _ => rfl)
      have t_is_kind : Kw.TF (L2.KOf KX) mg "is_kind" Kz.s_is_kind ["thing"] := by
        unfold L2.KOf
        refine' Kw.tf_mk KX G ?a ?l ?c ?k ?b
        (case a => k_is); (case l => k_is); (case c => k_is); (case k => k_is)
        (case b => exact fun _ _ _ _ _ _ us hl => match us, hl with | [_], _ => rfl)
      have t_sure_kind : Kw.TF (L2.KOf KX) mg "sure_kind" Kz.s_sure_kind ["thing"] := by
        unfold L2.KOf
        refine' Kw.tf_mk KX G ?a ?l ?c ?k ?b
        (case a => k_is); (case l => k_is); (case c => k_is); (case k => k_is)
        (case b => exact fun _ _ _ _ _ _ us hl => match us, hl with | [_], _ => rfl)
      have t_sure_sizes : Kw.TF (L2.KOf KX) mg "sure_sizes" Kz.s_sure_sizes ["thing"] := by
        unfold L2.KOf
        refine' Kw.tf_mk KX G ?a ?l ?c ?k ?b
        (case a => k_is); (case l => k_is); (case c => k_is); (case k => k_is)
        (case b => exact fun _ _ _ _ _ _ us hl => match us, hl with | [_], _ => rfl)
      have t_power_up_to : Kw.TF (L2.KOf KX) mg "power_up_to" Kz.s_power_up_to ["base", "times"] := by
        unfold L2.KOf
        refine' Kw.tf_mk KX G ?a ?l ?c ?k ?b
        (case a => k_is); (case l => k_is); (case c => k_is); (case k => k_is)
        (case b => exact fun _ _ _ _ _ _ us hl => match us, hl with | [_, _], _ => rfl)
      have t_number_up_to : Kw.TF (L2.KOf KX) mg "number_up_to" Kz.s_number_up_to ["kind", "sizes"] := by
        unfold L2.KOf
        refine' Kw.tf_mk KX G ?a ?l ?c ?k ?b
        (case a => k_is); (case l => k_is); (case c => k_is); (case k => k_is)
        (case b => exact fun _ _ _ _ _ _ us hl => match us, hl with | [_, _], _ => rfl)
      have t_sure_taken : Kw.TF (L2.KOf KX) mg "sure_taken" Kz.s_sure_taken ["kind", "sizes"] := by
        unfold L2.KOf
        refine' Kw.tf_mk KX G ?a ?l ?c ?k ?b
        (case a => k_is); (case l => k_is); (case c => k_is); (case k => k_is)
        (case b => exact fun _ _ _ _ _ _ us hl => match us, hl with | [_, _], _ => rfl)
      have t_lists_of : Kw.TF (L2.KOf KX) mg "lists_of" Kz.s_lists_of ["things", "many"] := by
        unfold L2.KOf
        refine' Kw.tf_mk KX G ?a ?l ?c ?k ?b
        (case a => k_is); (case l => k_is); (case c => k_is); (case k => k_is)
        (case b => exact fun _ _ _ _ _ _ us hl => match us, hl with | [_, _], _ => rfl)
      have t_all_worths : Kw.TF (L2.KOf KX) mg "all_worths" Kz.s_all_worths ["kind", "sizes"] := by
        unfold L2.KOf
        refine' Kw.tf_mk KX G ?a ?l ?c ?k ?b
        (case a => k_is); (case l => k_is); (case c => k_is); (case k => k_is)
        (case b => exact fun _ _ _ _ _ _ us hl => match us, hl with | [_, _], _ => rfl)
      have t_worths : Kw.TF (L2.KOf KX) mg "worths" Kz.s_worths ["kind", "sizes"] := by
        unfold L2.KOf
        refine' Kw.tf_mk KX G ?a ?l ?c ?k ?b
        (case a => k_is); (case l => k_is); (case c => k_is); (case k => k_is)
        (case b => exact fun _ _ _ _ _ _ us hl => match us, hl with | [_, _], _ => rfl)
      have t__law_cell_at : Kw.TF (L2.KOf KX) mg "_law_cell_at" Kz.s__law_cell_at ["_law_script", "_law_k"] := by
        unfold L2.KOf
        refine' Kw.tf_mk KX G ?a ?l ?c ?k ?b
        (case a => k_is); (case l => k_is); (case c => k_is); (case k => k_is)
        (case b => exact fun _ _ _ _ _ _ us hl => match us, hl with | [_, _], _ => rfl)
      have t__law_well : Kw.TF (L2.KOf KX) mg "_law_well" Kz.s__law_well ["_law_cell"] := by
        unfold L2.KOf
        refine' Kw.tf_mk KX G ?a ?l ?c ?k ?b
        (case a => k_is); (case l => k_is); (case c => k_is); (case k => k_is)
        (case b => exact fun _ _ _ _ _ _ us hl => match us, hl with | [_], _ => rfl)
      have t__law_draw : Kw.TF (L2.KOf KX) mg "_law_draw" Kz.s__law_draw ["_law_well_here", "_law_below"] := by
        unfold L2.KOf
        refine' Kw.tf_mk KX G ?a ?l ?c ?k ?b
        (case a => k_is); (case l => k_is); (case c => k_is); (case k => k_is)
        (case b => exact fun _ _ _ _ _ _ us hl => match us, hl with | [_, _], _ => rfl)
      have t__law_one : Kw.TF (L2.KOf KX) mg "_law_one" Kz.s__law_one ["_law_well_here", "_law_some"] := by
        unfold L2.KOf
        refine' Kw.tf_mk KX G ?a ?l ?c ?k ?b
        (case a => k_is); (case l => k_is); (case c => k_is); (case k => k_is)
        (case b => exact fun _ _ _ _ _ _ us hl => match us, hl with | [_, _], _ => rfl)
      have t__law_kind : Kw.TF (L2.KOf KX) mg "_law_kind" Kz.s__law_kind ["_law_well_here", "_law_leaves"] := by
        unfold L2.KOf
        refine' Kw.tf_mk KX G ?a ?l ?c ?k ?b
        (case a => k_is); (case l => k_is); (case c => k_is); (case k => k_is)
        (case b => exact fun _ _ _ _ _ _ us hl => match us, hl with | [_, _], _ => rfl)
      have t__law_sizes : Kw.TF (L2.KOf KX) mg "_law_sizes" Kz.s__law_sizes ["_law_well_here"] := by
        unfold L2.KOf
        refine' Kw.tf_mk KX G ?a ?l ?c ?k ?b
        (case a => k_is); (case l => k_is); (case c => k_is); (case k => k_is)
        (case b => exact fun _ _ _ _ _ _ us hl => match us, hl with | [_], _ => rfl)
      have t__law_power : Kw.TF (L2.KOf KX) mg "_law_power" Kz.s__law_power ["_law_base", "_law_times"] := by
        unfold L2.KOf
        refine' Kw.tf_mk KX G ?a ?l ?c ?k ?b
        (case a => k_is); (case l => k_is); (case c => k_is); (case k => k_is)
        (case b => exact fun _ _ _ _ _ _ us hl => match us, hl with | [_, _], _ => rfl)
      have t__law_number : Kw.TF (L2.KOf KX) mg "_law_number" Kz.s__law_number ["_law_kind_here", "_law_sizes_here"] := by
        unfold L2.KOf
        refine' Kw.tf_mk KX G ?a ?l ?c ?k ?b
        (case a => k_is); (case l => k_is); (case c => k_is); (case k => k_is)
        (case b => exact fun _ _ _ _ _ _ us hl => match us, hl with | [_, _], _ => rfl)
      have t__law_taken : Kw.TF (L2.KOf KX) mg "_law_taken" Kz.s__law_taken ["_law_kind_here", "_law_sizes_here"] := by
        unfold L2.KOf
        refine' Kw.tf_mk KX G ?a ?l ?c ?k ?b
        (case a => k_is); (case l => k_is); (case c => k_is); (case k => k_is)
        (case b => exact fun _ _ _ _ _ _ us hl => match us, hl with | [_, _], _ => rfl)
      have t__law_all : Kw.TF (L2.KOf KX) mg "_law_all" Kz.s__law_all ["_law_kind_here", "_law_sizes_here"] := by
        unfold L2.KOf
        refine' Kw.tf_mk KX G ?a ?l ?c ?k ?b
        (case a => k_is); (case l => k_is); (case c => k_is); (case k => k_is)
        (case b => exact fun _ _ _ _ _ _ us hl => match us, hl with | [_, _], _ => rfl)
      have t__law_asked : Kw.TF (L2.KOf KX) mg "_law_asked" Kz.s__law_asked ["_law_kind_here", "_law_sizes_here"] := by
        unfold L2.KOf
        refine' Kw.tf_mk KX G ?a ?l ?c ?k ?b
        (case a => k_is); (case l => k_is); (case c => k_is); (case k => k_is)
        (case b => exact fun _ _ _ _ _ _ us hl => match us, hl with | [_, _], _ => rfl)
      have t__law_great_right : Kw.TF (L2.KOf KX) mg "_law_great_right" Kz.s__law_great_right ["_law_well_here"] := by
        unfold L2.KOf
        refine' Kw.tf_mk KX G ?a ?l ?c ?k ?b
        (case a => k_is); (case l => k_is); (case c => k_is); (case k => k_is)
        (case b => exact fun _ _ _ _ _ _ us hl => match us, hl with | [_], _ => rfl)
      have t__law_deep_right : Kw.TF (L2.KOf KX) mg "_law_deep_right" Kz.s__law_deep_right ["_law_well_here"] := by
        unfold L2.KOf
        refine' Kw.tf_mk KX G ?a ?l ?c ?k ?b
        (case a => k_is); (case l => k_is); (case c => k_is); (case k => k_is)
        (case b => exact fun _ _ _ _ _ _ us hl => match us, hl with | [_], _ => rfl)
      have t__law_right : Kw.TF (L2.KOf KX) mg "_law_right" Kz.s__law_right ["_law_well_here"] := by
        unfold L2.KOf
        refine' Kw.tf_mk KX G ?a ?l ?c ?k ?b
        (case a => k_is); (case l => k_is); (case c => k_is); (case k => k_is)
        (case b => exact fun _ _ _ _ _ _ us hl => match us, hl with | [_], _ => rfl)
      have m_all : mg "all" = none := by
        refine' Kw.bl_mk KX G ?a
        (case a => k_is)
      have m_bool : mg "bool" = none := by
        refine' Kw.bl_mk KX G ?a
        (case a => k_is)
      have m_int : mg "int" = none := by
        refine' Kw.bl_mk KX G ?a
        (case a => k_is)
      have m_isinstance : mg "isinstance" = none := by
        refine' Kw.bl_mk KX G ?a
        (case a => k_is)
      have m_len : mg "len" = none := by
        refine' Kw.bl_mk KX G ?a
        (case a => k_is)
      have m_list : mg "list" = none := by
        refine' Kw.bl_mk KX G ?a
        (case a => k_is)
      have m_max : mg "max" = none := by
        refine' Kw.bl_mk KX G ?a
        (case a => k_is)
      have m_min : mg "min" = none := by
        refine' Kw.bl_mk KX G ?a
        (case a => k_is)
      have m_range : mg "range" = none := by
        refine' Kw.bl_mk KX G ?a
        (case a => k_is)
      have m_set : mg "set" = none := by
        refine' Kw.bl_mk KX G ?a
        (case a => k_is)
      have m_sorted : mg "sorted" = none := by
        refine' Kw.bl_mk KX G ?a
        (case a => k_is)
      have m_str : mg "str" = none := by
        refine' Kw.bl_mk KX G ?a
        (case a => k_is)
      have m_tuple : mg "tuple" = none := by
        refine' Kw.bl_mk KX G ?a
        (case a => k_is)
      have c_BASES : Kw.GC mg "BASES" (.int 8) := by
        refine' Kw.gc_int KX G ?a
        (case a => k_is)
      have c_LETTERS : Kw.GC mg "LETTERS" (.str "abcdefgh") := by
        refine' Kw.gc_str KX G ?a
        (case a => k_is)
      have c_MARKS : Kw.GD (L2.KOf KX) w.params mg "MARKS" Kz.kv_MARKS := by
        unfold L2.KOf
        refine' Kw.gd_mk KX G ?a ?l ?k ?s ?e
        (case a => k_is); (case l => k_is); (case k => exact ⟨⟨_, _, rfl, rfl⟩, ⟨_, _, rfl, rfl⟩, trivial⟩); (case s => rfl); (case e => exact (Kw.Ents.cons (v := .str "*") ⟨_, rfl⟩ rfl (Kw.Ents.cons (v := .str ">") ⟨_, rfl⟩ rfl Kw.Ents.nil)))
      have c_MOST_SIZE : Kw.GC mg "MOST_SIZE" (.int 999) := by
        refine' Kw.gc_int KX G ?a
        (case a => k_is)
      have c_MOST_WORTHS : Kw.GC mg "MOST_WORTHS" (.int 5000) := by
        refine' Kw.gc_int KX G ?a
        (case a => k_is)
      have x_NoKind : Kw.ExcF (L2.KOf KX) mg "NoKind" := by
        unfold L2.KOf
        refine' Kw.exc_mk KX G ?a ?b ?c ?d ?e
        (case a => k_is); (case b => k_exc); (case c => k_is); (case d => k_is); (case e => k_is)
      have x_NoSizes : Kw.ExcF (L2.KOf KX) mg "NoSizes" := by
        unfold L2.KOf
        refine' Kw.exc_mk KX G ?a ?b ?c ?d ?e
        (case a => k_is); (case b => k_exc); (case c => k_is); (case d => k_is); (case e => k_is)
      have x_TooMany : Kw.ExcF (L2.KOf KX) mg "TooMany" := by
        unfold L2.KOf
        refine' Kw.exc_mk KX G ?a ?b ?c ?d ?e
        (case a => k_is); (case b => k_exc); (case c => k_is); (case d => k_is); (case e => k_is)
      have T : Kz.Txt (L2.KOf KX) w.params mg := ⟨t_is_from, t_inner_of, t_is_kind, t_sure_kind, t_sure_sizes, t_power_up_to, t_number_up_to, t_sure_taken, t_lists_of, t_all_worths, t_worths, t__law_cell_at, t__law_well, t__law_draw, t__law_one, t__law_kind, t__law_sizes, t__law_power, t__law_number, t__law_taken, t__law_all, t__law_asked, t__law_great_right, t__law_deep_right, t__law_right, m_all, m_bool, m_int, m_isinstance, m_len, m_list, m_max, m_min, m_range, m_set, m_sorted, m_str, m_tuple, c_BASES, c_LETTERS, c_MARKS, c_MOST_SIZE, c_MOST_WORTHS, x_NoKind, x_NoSizes, x_TooMany⟩
      refine' Kw.law_mk (st := Kz.s_law) (k := 230) KX G hmg ?a ?l ?c ?k (fun _ _ _ _ _ _ us hl => match us, hl with | [_], _ => rfl) Kz.sc_law (fun base Kb Gb => Kz.ok_law T rfl (Kz.all_ok T rfl 230)) (fun ns h hb => Kz.law_true ns h)
      (case a => k_is); (case l => k_is); (case c => k_is); (case k => k_is)
